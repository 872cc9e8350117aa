import PyProof.Rows.All
import Wide.All
import OpenK.AllK
import Wide.FinOn
import Lean
import PySem.Challenge.RW_nt0421_01

set_option Elab.async false
set_option linter.unusedVariables false
set_option linter.unusedSimpArgs false

section
namespace Mine
inductive Fld | move | parent | word | place | variations | remarks | nags | before
  deriving DecidableEq
inductive V | none | bool (b : Bool) | int (i : Int) | str | ref (a : Nat)
  deriving DecidableEq, Inhabited
inductive Cell | lst (vs : List V) | tup (vs : List V) | node (fs : List (Fld × V))
  deriving Inhabited
abbrev H := List Cell
abbrev Loc := Nat → Option V
noncomputable def Loc.set (l : Loc) (x : Nat) (v : V) : Loc := fun y => if y = x then some v else l y
inductive R (α : Type) | fail | exc (h : H) | ok (a : α) (h : H)
noncomputable def R.bind {α β : Type} (r : R α) (f : α → H → R β) : R β := match r with
  | .fail => .fail
  | .exc h => .exc h
  | .ok a h => f a h
inductive F | fail | exc (l : Loc) (h : H) | nxt (l : Loc) (h : H) | ret (v : V) (h : H)
inductive Bop | add | sub | mul | mod | fdiv | pow
  deriving DecidableEq
inductive Cop | eq | ne | lt | le | gt | ge | notIn | isNot
  deriving DecidableEq
mutual
inductive E
  | none | bool (b : Bool) | int (i : Int) | str
  | var (x : Nat) | gint | neg1
  | lst (es : Es) | tup (es : Es)
  | bin (op : Bop) (a b : E)
  | cmp (op : Cop) (a b : E)
  | cmp2 (o1 o2 : Cop) (a b c : E)
  | band (es : Es) | bor (es : Es) | not (a : E)
  | idx (a i : E) | rev (a : E) | cut (a n : E)
  | attr (a : E) (f : Fld)
  | call (f : Nat) (es : Es) | new (a b : E)
  | len (a : E) | max2 (a b : E) | max1 (a : E) | divmod (a b : E) | list (a : E)
  | append (a b : E) | extend (a b : E) | pop (a : E) | popAt (a i : E) | insert (a i b : E) | count (a b : E)
  | comp (elt : E) (two : Bool) (src : E) | compIf (elt : E) (two : Bool) (src cond : E)
inductive Es | nil | cons (e : E) (es : Es)
end
mutual
inductive S
  | assign (x : Nat) (e : E) | assign2 (x y : Nat) (e : E)
  | setAttr (a : E) (f : Fld) (e : E) | setIdx (a i e : E) | aug (x : Nat) (e : E)
  | expr (e : E)
  | ite (c : E) (t f : Ss) | whil (c : E) (b : Ss)
  | forL (x : Nat) (e : E) (b : Ss) | forR1 (x : Nat) (e : E) (b : Ss) | forR2 (x : Nat) (i j : Int) (b : Ss)
  | ret (e : E) | raise | tryB (b : Ss) (x y : Nat)
inductive Ss | nil | cons (s : S) (r : Ss)
end

/-- the longest list that is allowed: 2 ^ 24 -/
noncomputable def ML : Nat := 16777216
noncomputable def sm (i : Int) : Prop := -4611686018427387904 < i ∧ i < 4611686018427387904
noncomputable section
instance (i : Int) : Decidable (sm i) := Classical.propDecidable _
noncomputable def alloc (c : Cell) (h : H) : R V := .ok (.ref h.length) (h ++ [c])
noncomputable def V.isInt : V → Bool
  | .int _ => true
  | _ => false

noncomputable def allEq (f : V → V → Option Bool) : List V → List V → Option Bool
  | [], [] => some true
  | x :: xs, y :: ys => (match f x y, allEq f xs ys with
    | some a, some b => some (a && b)
    | _, _ => Option.none)
  | _, _ => Option.none
noncomputable def eqV : Nat → H → V → V → Option Bool
  | 0, _, _, _ => Option.none
  | _ + 1, _, .int i, .int j => some (decide (i = j))
  | _ + 1, _, .bool i, .bool j => some (decide (i = j))
  | n + 1, h, .ref a, .ref b => (match h[a]?, h[b]? with
    | some (.lst xs), some (.lst ys) => if xs.length = ys.length then allEq (eqV n h) xs ys else some false
    | some (.tup xs), some (.tup ys) => if xs.length = ys.length then allEq (eqV n h) xs ys else Option.none
    | _, _ => Option.none)
  | _ + 1, _, _, _ => Option.none

noncomputable def gL (h : H) : V → Option (Nat × List V)
  | .ref a => (match h[a]? with | some (.lst vs) => some (a, vs) | _ => Option.none)
  | _ => Option.none
/-- two ints -/
noncomputable def int2 (f : Int → Int → R V) : V → V → R V
  | .int i, .int j => f i j
  | _, _ => .fail
noncomputable def eqR (h : H) (f : Bool → Bool) : Option Bool → R V
  | some r => .ok (.bool (f r)) h
  | Option.none => .fail
noncomputable def notInV (h : H) (a b : V) : R V := match a with
  | .int i => (match gL h b with
      | some p => if p.2.all V.isInt then .ok (.bool (!p.2.contains (.int i))) h else .fail
      | Option.none => .fail)
  | _ => .fail
noncomputable def isNotV (h : H) (a : V) : V → R V
  | .none => (match a with | .none => .ok (.bool false) h | .ref _ => .ok (.bool true) h | _ => .fail)
  | _ => .fail
noncomputable def cmpV (op : Cop) (h : H) (a b : V) : R V := match op with
  | .eq => eqR h (fun r => r) (eqV 9 h a b)
  | .ne => eqR h (fun r => !r) (eqV 9 h a b)
  | .lt => int2 (fun i j => .ok (.bool (decide (i < j))) h) a b
  | .le => int2 (fun i j => .ok (.bool (decide (i ≤ j))) h) a b
  | .gt => int2 (fun i j => .ok (.bool (decide (i > j))) h) a b
  | .ge => int2 (fun i j => .ok (.bool (decide (i ≥ j))) h) a b
  | .notIn => notInV h a b
  | .isNot => isNotV h a b

noncomputable def addV (h : H) (a b : V) : R V := match a with
  | .int _ => int2 (fun i j => if sm i ∧ sm j then .ok (.int (i + j)) h else .fail) a b
  | .ref _ => (match gL h a with
      | some p => (match gL h b with
        | some q => if p.2.length + q.2.length ≤ ML then alloc (.lst (p.2 ++ q.2)) h else .fail
        | Option.none => .fail)
      | Option.none => .fail)
  | _ => .fail
noncomputable def binV (op : Bop) (h : H) (a b : V) : R V := match op with
  | .add => addV h a b
  | .sub => int2 (fun i j => if sm i ∧ sm j then .ok (.int (i - j)) h else .fail) a b
  | .mul => int2 (fun i j => if 0 ≤ i ∧ i < 4294967296 ∧ 0 ≤ j ∧ j < 4294967296 then .ok (.int (i * j)) h else .fail) a b
  | .mod => int2 (fun i j => if 0 < j ∧ sm j then .ok (.int (i % j)) h else .fail) a b
  | .fdiv => int2 (fun i j => if 0 < j ∧ sm j ∧ sm i then .ok (.int (i / j)) h else .fail) a b
  | .pow => int2 (fun i j => if i = 10 ∧ j = 9 then .ok (.int 1000000000) h else .fail) a b

noncomputable def lk (f : Fld) : List (Fld × V) → Option V
  | [] => Option.none
  | (g, v) :: r => if g = f then some v else lk f r
noncomputable def putF (f : Fld) (v : V) : List (Fld × V) → List (Fld × V)
  | [] => [(f, v)]
  | (g, u) :: r => if g = f then (g, v) :: r else (g, u) :: putF f v r

/-- the items of a list or a tuple -/
noncomputable def getLT (h : H) : V → Option (List V)
  | .ref a => (match h[a]? with | some (.lst vs) => some vs | some (.tup vs) => some vs | _ => Option.none)
  | _ => Option.none
noncomputable def idxV (h : H) (a i : V) : R V := match getLT h a, i with
  | some vs, .int k =>
      if 0 ≤ k then (match vs[k.toNat]? with | some v => .ok v h | Option.none => .fail)
      else if k = -1 then (match vs.getLast? with | some v => .ok v h | Option.none => .fail) else .fail
  | _, _ => .fail
noncomputable def attrV (h : H) (f : Fld) : V → R V
  | .ref a => (match h[a]? with
    | some (.node fs) => (match lk f fs with | some v => .ok v h | Option.none => .fail)
    | _ => .fail)
  | _ => .fail
noncomputable def appendV (h : H) (a b : V) : R V := match gL h a with
  | some (l, vs) => if vs.length < ML then .ok .none (h.set l (.lst (vs ++ [b]))) else .fail
  | Option.none => .fail
noncomputable def extendV (h : H) (a b : V) : R V := match gL h a, gL h b with
  | some (l, vs), some (_, ws) => if vs.length + ws.length ≤ ML then .ok .none (h.set l (.lst (vs ++ ws))) else .fail
  | _, _ => .fail
noncomputable def popV (h : H) (a : V) : R V := match gL h a with
  | some (l, vs) => (match vs.getLast? with | some v => .ok v (h.set l (.lst vs.dropLast)) | Option.none => .fail)
  | Option.none => .fail
noncomputable def popAtV (h : H) (a i : V) : R V := match gL h a, i with
  | some (l, vs), .int k => if 0 ≤ k then (match vs[k.toNat]? with | some v => .ok v (h.set l (.lst (vs.eraseIdx k.toNat))) | Option.none => .fail) else .fail
  | _, _ => .fail
noncomputable def insertV (h : H) (a i b : V) : R V := match gL h a, i with
  | some (l, vs), .int k => if 0 ≤ k ∧ k ≤ vs.length ∧ vs.length < ML then .ok .none (h.set l (.lst (vs.take k.toNat ++ b :: vs.drop k.toNat))) else .fail
  | _, _ => .fail
noncomputable def countV (h : H) (a b : V) : R V := match gL h a, b with
  | some (_, vs), .int i => if vs.all V.isInt then .ok (.int (vs.count (.int i))) h else .fail
  | _, _ => .fail
noncomputable def revV (h : H) (a : V) : R V := match gL h a with
  | some (_, vs) => alloc (.lst vs.reverse) h
  | Option.none => .fail
noncomputable def cutV (h : H) (a n : V) : R V := match gL h a, n with
  | some (_, vs), .int k => if 0 ≤ k ∧ sm k then alloc (.lst (vs.take k.toNat)) h else .fail
  | _, _ => .fail
noncomputable def lenV (h : H) (a : V) : R V := match gL h a with
  | some (_, vs) => .ok (.int vs.length) h
  | Option.none => .fail
noncomputable def listV (h : H) (a : V) : R V := match gL h a with
  | some (_, vs) => alloc (.lst vs) h
  | Option.none => .fail
noncomputable def max2V (h : H) : V → V → R V
  | .int i, .int j => .ok (.int (max i j)) h
  | _, _ => .fail
noncomputable def maxL : List V → Option Int
  | [.int i] => some i
  | .int i :: r => (maxL r).map (max i)
  | _ => Option.none
noncomputable def max1V (h : H) (a : V) : R V := match gL h a with
  | some (_, vs) => (match maxL vs with | some i => .ok (.int i) h | Option.none => .fail)
  | Option.none => .fail
noncomputable def divmodV (h : H) : V → V → R V
  | .int i, .int j => if 0 < j ∧ sm j ∧ sm i then alloc (.tup [.int (i / j), .int (i % j)]) h else .fail
  | _, _ => .fail
noncomputable def setAttrV (h : H) (f : Fld) (v : V) : V → R V
  | .ref a => (match h[a]? with
    | some (.node fs) => if fs.length ≤ 20 then .ok .none (h.set a (.node (putF f v fs))) else .fail
    | _ => .fail)
  | _ => .fail
noncomputable def setIdxV (h : H) (a i v : V) : R V := match gL h a, i with
  | some (l, vs), .int k => if 0 ≤ k ∧ k < vs.length then .ok .none (h.set l (.lst (vs.set k.toNat v))) else .fail
  | _, _ => .fail
noncomputable def unpair (h : H) : V → Option (V × V)
  | .ref a => (match h[a]? with | some (.tup [x, y]) => some (x, y) | _ => Option.none)
  | _ => Option.none

noncomputable def isLst (h : H) (x : V) : Bool := (gL h x).isSome

structure Ctx where
  fu : Nat
  call : Nat → List V → H → R V

noncomputable def newV (c : Ctx) (h : H) (a b : V) : R V :=
  (c.call 0 [.ref h.length, a, b] (h ++ [.node []])).bind fun r h' => match r with
    | .none => .ok (.ref h.length) h'
    | _ => .fail

/-- the targets of a comprehension -/
noncomputable def bindT (two : Bool) (h : H) (v : V) : Option Loc := match two with
  | false => some fun x => if x = 0 then some v else Option.none
  | true => (unpair h v).map fun p x => if x = 0 then some p.1 else if x = 1 then some p.2 else Option.none

/-- a comprehension's loop: list a from place i on, items appended to out -/
noncomputable def compN (two : Bool) (cond elt : Loc → H → R V) (a out : Nat) : Nat → Nat → H → R V
  | 0, _, _ => .fail
  | n + 1, i, h => match h[a]? with
    | some (.lst vs) => (match vs[i]? with
      | Option.none => .ok (.ref out) h
      | some v => (match bindT two h v with
        | Option.none => .fail
        | some l => (match cond l h with
          | .ok (.bool true) h' => (match elt l h' with
            | .ok w h'' => (match appendV h'' (.ref out) w with
              | .ok _ h''' => compN two cond elt a out n (i + 1) h'''
              | _ => .fail)
            | _ => .fail)
          | .ok (.bool false) h' => compN two cond elt a out n (i + 1) h'
          | _ => .fail)))
    | _ => .fail
noncomputable def compV (c : Ctx) (two : Bool) (cond elt : Loc → H → R V) (src : V) (h : H) : R V := match src with
  | .ref a => compN two cond elt a h.length c.fu 0 (h ++ [.lst []])
  | _ => .fail

mutual
noncomputable def evE (c : Ctx) : E → Loc → H → R V
  | .none, _, h => .ok .none h
  | .bool b, _, h => .ok (.bool b) h
  | .int i, _, h => .ok (.int i) h
  | .str, _, h => .ok .str h
  | .var x, l, h => (match l x with | some v => .ok v h | Option.none => .fail)
  | .gint, _, h => .ok (.int 0) h
  | .neg1, _, h => .ok (.int (-1)) h
  | .lst es, l, h => (evEs c es l h).bind fun vs h => alloc (.lst vs) h
  | .tup es, l, h => (evEs c es l h).bind fun vs h => alloc (.tup vs) h
  | .bin op a b, l, h => (evE c a l h).bind fun x h => (evE c b l h).bind fun y h => binV op h x y
  | .cmp op a b, l, h => (evE c a l h).bind fun x h => (evE c b l h).bind fun y h => cmpV op h x y
  | .cmp2 o1 o2 a b d, l, h => (evE c a l h).bind fun x h => (evE c b l h).bind fun y h => (cmpV o1 h x y).bind fun r h => match r with
      | .bool true => (evE c d l h).bind fun z h => cmpV o2 h y z
      | .bool false => .ok (.bool false) h
      | _ => .fail
  | .band es, l, h => evAnd c es l h
  | .bor es, l, h => evOr c es l h
  | .not a, l, h => (evE c a l h).bind fun x h => match x with
      | .bool b => .ok (.bool (!b)) h
      | _ => .fail
  | .idx a i, l, h => (evE c a l h).bind fun x h => (evE c i l h).bind fun y h => idxV h x y
  | .rev a, l, h => (evE c a l h).bind fun x h => revV h x
  | .cut a n, l, h => (evE c a l h).bind fun x h => (evE c n l h).bind fun y h => cutV h x y
  | .attr a f, l, h => (evE c a l h).bind fun x h => attrV h f x
  | .call f es, l, h => (evEs c es l h).bind fun vs h => c.call f vs h
  | .new a b, l, h => (evE c a l h).bind fun x h => (evE c b l h).bind fun y h => newV c h x y
  | .len a, l, h => (evE c a l h).bind fun x h => lenV h x
  | .max2 a b, l, h => (evE c a l h).bind fun x h => (evE c b l h).bind fun y h => max2V h x y
  | .max1 a, l, h => (evE c a l h).bind fun x h => max1V h x
  | .divmod a b, l, h => (evE c a l h).bind fun x h => (evE c b l h).bind fun y h => divmodV h x y
  | .list a, l, h => (evE c a l h).bind fun x h => listV h x
  | .append a b, l, h => (evE c a l h).bind fun x h => if isLst h x then (evE c b l h).bind fun y h => appendV h x y else .fail
  | .extend a b, l, h => (evE c a l h).bind fun x h => if isLst h x then (evE c b l h).bind fun y h => extendV h x y else .fail
  | .pop a, l, h => (evE c a l h).bind fun x h => if isLst h x then popV h x else .fail
  | .popAt a i, l, h => (evE c a l h).bind fun x h => if isLst h x then (evE c i l h).bind fun y h => popAtV h x y else .fail
  | .insert a i b, l, h => (evE c a l h).bind fun x h => if isLst h x then (evE c i l h).bind fun y h => (evE c b l h).bind fun z h => insertV h x y z else .fail
  | .count a b, l, h => (evE c a l h).bind fun x h => if isLst h x then (evE c b l h).bind fun y h => countV h x y else .fail
  | .comp elt two src, l, h => (evE c src l h).bind fun x h => compV c two (fun _ h => .ok (.bool true) h) (evE c elt) x h
  | .compIf elt two src cond, l, h => (evE c src l h).bind fun x h => compV c two (evE c cond) (evE c elt) x h
noncomputable def evEs (c : Ctx) : Es → Loc → H → R (List V)
  | .nil, _, h => .ok [] h
  | .cons e es, l, h => (evE c e l h).bind fun v h => (evEs c es l h).bind fun vs h => .ok (v :: vs) h
noncomputable def evAnd (c : Ctx) : Es → Loc → H → R V
  | .nil, _, h => .ok (.bool true) h
  | .cons e es, l, h => (evE c e l h).bind fun v h => match v with
      | .bool true => evAnd c es l h
      | .bool false => .ok (.bool false) h
      | _ => .fail
noncomputable def evOr (c : Ctx) : Es → Loc → H → R V
  | .nil, _, h => .ok (.bool false) h
  | .cons e es, l, h => (evE c e l h).bind fun v h => match v with
      | .bool true => .ok (.bool true) h
      | .bool false => evOr c es l h
      | _ => .fail
end

noncomputable def whileN (c : Loc → H → R V) (b : Loc → H → F) : Nat → Loc → H → F
  | 0, _, _ => .fail
  | n + 1, l, h => match c l h with
    | .ok (.bool true) h' => (match b l h' with
      | .nxt l' h'' => whileN c b n l' h''
      | .ret v h'' => .ret v h''
      | _ => .fail)
    | .ok (.bool false) h' => .nxt l h'
    | _ => .fail
noncomputable def forN (x a : Nat) (b : Loc → H → F) : Nat → Nat → Loc → H → F
  | 0, _, _, _ => .fail
  | n + 1, i, l, h => match h[a]? with
    | some (.lst vs) => (match vs[i]? with
      | Option.none => .nxt l h
      | some v => (match b (l.set x v) h with
        | .nxt l' h' => forN x a b n (i + 1) l' h'
        | .ret v h' => .ret v h'
        | _ => .fail))
    | _ => .fail
noncomputable def rangeN (x : Nat) (b : Loc → H → F) : Nat → Int → Loc → H → F
  | 0, _, l, h => .nxt l h
  | n + 1, i, l, h => match b (l.set x (.int i)) h with
    | .nxt l' h' => rangeN x b n (i + 1) l' h'
    | .ret v h' => .ret v h'
    | _ => .fail
noncomputable def toF (l : Loc) (r : R V) (k : V → H → F) : F := match r with
  | .ok v h => k v h
  | .exc h => .exc l h
  | .fail => .fail
/-- a value that is no exception's -/
noncomputable def toG (r : R V) (k : V → H → F) : F := match r with
  | .ok v h => k v h
  | _ => .fail

/-- what the one handler gives back: not 0 <= x < len(y) -/
noncomputable def tailE (x y : Nat) : E := .not (.cmp2 .le .lt (.int 0) (.var x) (.len (.var y)))
mutual
noncomputable def evS (c : Ctx) : S → Loc → H → F
  | .assign x e, l, h => toF l (evE c e l h) fun v h => .nxt (l.set x v) h
  | .assign2 x y e, l, h => toF l (evE c e l h) fun v h => match unpair h v with
      | some (a, b) => .nxt ((l.set x a).set y b) h
      | Option.none => .fail
  | .setAttr a f e, l, h => toF l ((evE c e l h).bind fun v h => (evE c a l h).bind fun o h => setAttrV h f v o) fun _ h => .nxt l h
  | .setIdx a i e, l, h => toF l ((evE c e l h).bind fun v h => (evE c a l h).bind fun o h => (evE c i l h).bind fun k h => setIdxV h o k v) fun _ h => .nxt l h
  | .aug x e, l, h => (match l x with
      | some v => toF l ((evE c e l h).bind fun w h => binV .add h v w) fun r h => (match r with | .int i => .nxt (l.set x (.int i)) h | _ => .fail)
      | Option.none => .fail)
  | .expr e, l, h => toF l (evE c e l h) fun _ h => .nxt l h
  | .ite d t f, l, h => toF l (evE c d l h) fun v h => match v with
      | .bool true => evSs c t l h
      | .bool false => evSs c f l h
      | _ => .fail
  | .whil d b, l, h => whileN (evE c d) (evSs c b) c.fu l h
  | .forL x e b, l, h => toF l (evE c e l h) fun v h => match v with
      | .ref a => forN x a (evSs c b) c.fu 0 l h
      | _ => .fail
  | .forR1 x e b, l, h => toF l (evE c e l h) fun v h => match v with
      | .int n => if sm n then rangeN x (evSs c b) n.toNat 0 l h else .fail
      | _ => .fail
  | .forR2 x i j b, l, h => rangeN x (evSs c b) (j - i).toNat i l h
  | .ret e, l, h => toF l (evE c e l h) fun v h => .ret v h
  | .raise, l, h => .exc l h
  | .tryB b x y, l, h => match evSs c b l h with
      | .exc l' h' => toF l' (evE c (tailE x y) l' h') fun v h => .ret v h
      | r => r
noncomputable def evSs (c : Ctx) : Ss → Loc → H → F
  | .nil, l, h => .nxt l h
  | .cons s r, l, h => match evS c s l h with
      | .nxt l' h' => evSs c r l' h'
      | x => x
end

noncomputable def params (vs : List V) : Loc := fun x => vs[x]?
/-- names of the functions, by number: 0 __init__, 1 add_variation, 2 check_way, 3 promote_variation, 4 make_main, 5 remove_variation, 6 find_way, 7 add_line, 8 main_line, 9 line_to, 10 walk, 11 walk_both, 12 all_lines, 13 same_node, 14 same_tree, 15 add_new, 16 merge_tree, 17 strip_variations, 18 strip_remarks, 19 new_root, 20 _law_all, 21 _law_both, 22 _law_first, 23 _law_way, 24 _law_merge, 25 _law_plant, 26 _law_like, 27 _law_turn, 28 _law_deed, 29 law -/
/- __init__(self, move, parent); variables: 0 self, 1 move, 2 parent -/
noncomputable def b_init : Ss :=
  .cons (.setAttr (.var 0) .move (.var 1)) <|
  .cons (.setAttr (.var 0) .parent (.var 2)) <|
  .cons (.setAttr (.var 0) .word .str) <|
  .cons (.setAttr (.var 0) .place .neg1) <|
  .cons (.setAttr (.var 0) .variations (.lst .nil)) <|
  .cons (.setAttr (.var 0) .remarks (.lst .nil)) <|
  .cons (.setAttr (.var 0) .nags (.lst .nil)) <|
  .cons (.setAttr (.var 0) .before (.lst .nil)) <|
  .nil
/- add_variation(node, move, word); variables: 0 node, 1 move, 2 word, 3 child -/
noncomputable def b_add_variation : Ss :=
  .cons (.assign 3 (.new (.var 1) (.var 0))) <|
  .cons (.setAttr (.var 3) .word (.var 2)) <|
  .cons (.expr (.append (.attr (.var 0) .variations) (.var 3))) <|
  .cons (.ret (.var 3)) <|
  .nil
/- check_way(node, k); variables: 0 node, 1 k -/
noncomputable def b_check_way : Ss :=
  .cons (.ite (.not (.cmp2 .le .lt (.int 0) (.var 1) (.len (.attr (.var 0) .variations)))) (.cons .raise .nil) .nil) <|
  .nil
/- promote_variation(node, k); variables: 0 node, 1 k, 2 way -/
noncomputable def b_promote_variation : Ss :=
  .cons (.expr (.call 2 (.cons (.var 0) (.cons (.var 1) .nil)))) <|
  .cons (.ite (.cmp .gt (.var 1) (.int 0)) (.cons (.assign 2 (.idx (.attr (.var 0) .variations) (.var 1))) (.cons (.setIdx (.attr (.var 0) .variations) (.var 1) (.idx (.attr (.var 0) .variations) (.bin .sub (.var 1) (.int 1)))) (.cons (.setIdx (.attr (.var 0) .variations) (.bin .sub (.var 1) (.int 1)) (.var 2)) .nil))) .nil) <|
  .nil
/- make_main(node, k); variables: 0 node, 1 k -/
noncomputable def b_make_main : Ss :=
  .cons (.expr (.call 2 (.cons (.var 0) (.cons (.var 1) .nil)))) <|
  .cons (.expr (.insert (.attr (.var 0) .variations) (.int 0) (.popAt (.attr (.var 0) .variations) (.var 1)))) <|
  .nil
/- remove_variation(node, k); variables: 0 node, 1 k, 2 child -/
noncomputable def b_remove_variation : Ss :=
  .cons (.expr (.call 2 (.cons (.var 0) (.cons (.var 1) .nil)))) <|
  .cons (.assign 2 (.popAt (.attr (.var 0) .variations) (.var 1))) <|
  .cons (.setAttr (.var 2) .parent .none) <|
  .cons (.ret (.var 2)) <|
  .nil
/- find_way(node, move); variables: 0 node, 1 move, 2 k -/
noncomputable def b_find_way : Ss :=
  .cons (.forR1 2 (.len (.attr (.var 0) .variations)) (.cons (.ite (.cmp .eq (.attr (.idx (.attr (.var 0) .variations) (.var 2)) .move) (.var 1)) (.cons (.ret (.var 2)) .nil) .nil) .nil)) <|
  .cons (.ret .neg1) <|
  .nil
/- add_line(node, moves); variables: 0 node, 1 moves, 2 move, 3 k -/
noncomputable def b_add_line : Ss :=
  .cons (.forL 2 (.var 1) (.cons (.assign 3 (.call 6 (.cons (.var 0) (.cons (.var 2) .nil)))) (.cons (.ite (.cmp .ge (.var 3) (.int 0)) (.cons (.assign 0 (.idx (.attr (.var 0) .variations) (.var 3))) .nil) (.cons (.assign 0 (.call 1 (.cons (.var 0) (.cons (.var 2) (.cons .str .nil))))) .nil)) .nil))) <|
  .cons (.ret (.var 0)) <|
  .nil
/- main_line(node); variables: 0 node, 1 out -/
noncomputable def b_main_line : Ss :=
  .cons (.assign 1 (.lst .nil)) <|
  .cons (.whil (.cmp .gt (.len (.attr (.var 0) .variations)) (.int 0)) (.cons (.assign 0 (.idx (.attr (.var 0) .variations) (.int 0))) (.cons (.expr (.append (.var 1) (.var 0))) .nil))) <|
  .cons (.ret (.var 1)) <|
  .nil
/- line_to(node); variables: 0 node, 1 moves -/
noncomputable def b_line_to : Ss :=
  .cons (.assign 1 (.lst .nil)) <|
  .cons (.whil (.cmp .isNot (.attr (.var 0) .parent) .none) (.cons (.expr (.append (.var 1) (.attr (.var 0) .move))) (.cons (.assign 0 (.attr (.var 0) .parent)) .nil))) <|
  .cons (.ret (.rev (.var 1))) <|
  .nil
/- walk(node); variables: 0 node, 1 out, 2 todo, 3 child -/
noncomputable def b_walk : Ss :=
  .cons (.assign 1 (.lst .nil)) <|
  .cons (.assign 2 (.lst (.cons (.var 0) .nil))) <|
  .cons (.whil (.cmp .gt (.len (.var 2)) (.int 0)) (.cons (.assign 0 (.pop (.var 2))) (.cons (.expr (.append (.var 1) (.var 0))) (.cons (.forL 3 (.rev (.attr (.var 0) .variations)) (.cons (.expr (.append (.var 2) (.var 3))) .nil)) .nil)))) <|
  .cons (.ret (.var 1)) <|
  .nil
/- walk_both(root); variables: 0 root, 1 out, 2 todo, 3 node, 4 is_left, 5 child -/
noncomputable def b_walk_both : Ss :=
  .cons (.assign 1 (.lst .nil)) <|
  .cons (.assign 2 (.comp (.tup (.cons (.var 0) (.cons (.bool false) .nil))) false (.rev (.attr (.var 0) .variations)))) <|
  .cons (.whil (.cmp .gt (.len (.var 2)) (.int 0)) (.cons (.assign2 3 4 (.pop (.var 2))) (.cons (.expr (.append (.var 1) (.tup (.cons (.var 3) (.cons (.var 4) .nil))))) (.cons (.ite (.not (.var 4)) (.cons (.expr (.append (.var 2) (.tup (.cons (.var 3) (.cons (.bool true) .nil))))) (.cons (.forL 5 (.rev (.attr (.var 3) .variations)) (.cons (.expr (.append (.var 2) (.tup (.cons (.var 5) (.cons (.bool false) .nil))))) .nil)) .nil)) .nil) .nil)))) <|
  .cons (.ret (.var 1)) <|
  .nil
/- all_lines(root); variables: 0 root -/
noncomputable def b_all_lines : Ss :=
  .cons (.ret (.compIf (.call 9 (.cons (.var 0) .nil)) false (.call 10 (.cons (.var 0) .nil)) (.cmp .eq (.len (.attr (.var 0) .variations)) (.int 0)))) <|
  .nil
/- same_node(a, b); variables: 0 a, 1 b -/
noncomputable def b_same_node : Ss :=
  .cons (.ret (.band (.cons (.cmp .eq (.attr (.var 0) .move) (.attr (.var 1) .move)) (.cons (.cmp .eq (.attr (.var 0) .remarks) (.attr (.var 1) .remarks)) (.cons (.cmp .eq (.attr (.var 0) .nags) (.attr (.var 1) .nags)) (.cons (.cmp .eq (.attr (.var 0) .before) (.attr (.var 1) .before)) (.cons (.cmp .eq (.len (.attr (.var 0) .variations)) (.len (.attr (.var 1) .variations))) .nil))))))) <|
  .nil
/- same_tree(a, b); variables: 0 a, 1 b, 2 todo, 3 k -/
noncomputable def b_same_tree : Ss :=
  .cons (.assign 2 (.lst (.cons (.tup (.cons (.var 0) (.cons (.var 1) .nil))) .nil))) <|
  .cons (.whil (.cmp .gt (.len (.var 2)) (.int 0)) (.cons (.assign2 0 1 (.pop (.var 2))) (.cons (.ite (.not (.call 13 (.cons (.var 0) (.cons (.var 1) .nil)))) (.cons (.ret (.bool false)) .nil) .nil) (.cons (.forR1 3 (.len (.attr (.var 0) .variations)) (.cons (.expr (.append (.var 2) (.tup (.cons (.idx (.attr (.var 0) .variations) (.var 3)) (.cons (.idx (.attr (.var 1) .variations) (.var 3)) .nil))))) .nil)) .nil)))) <|
  .cons (.ret (.bool true)) <|
  .nil
/- add_new(into, items); variables: 0 into, 1 items, 2 item -/
noncomputable def b_add_new : Ss :=
  .cons (.forL 2 (.var 1) (.cons (.ite (.cmp .notIn (.var 2) (.var 0)) (.cons (.expr (.append (.var 0) (.var 2))) .nil) .nil) .nil)) <|
  .nil
/- merge_tree(into, other); variables: 0 into, 1 other, 2 todo, 3 at, 4 mine, 5 theirs, 6 child, 7 k -/
noncomputable def b_merge_tree : Ss :=
  .cons (.assign 2 (.lst (.cons (.tup (.cons (.var 0) (.cons (.var 1) .nil))) .nil))) <|
  .cons (.assign 3 (.int 0)) <|
  .cons (.whil (.cmp .lt (.var 3) (.len (.var 2))) (.cons (.assign2 4 5 (.idx (.var 2) (.var 3))) (.cons (.aug 3 (.int 1)) (.cons (.expr (.call 15 (.cons (.attr (.var 4) .remarks) (.cons (.attr (.var 5) .remarks) .nil)))) (.cons (.expr (.call 15 (.cons (.attr (.var 4) .nags) (.cons (.attr (.var 5) .nags) .nil)))) (.cons (.expr (.call 15 (.cons (.attr (.var 4) .before) (.cons (.attr (.var 5) .before) .nil)))) (.cons (.forL 6 (.attr (.var 5) .variations) (.cons (.assign 7 (.call 6 (.cons (.var 4) (.cons (.attr (.var 6) .move) .nil)))) (.cons (.ite (.cmp .ge (.var 7) (.int 0)) (.cons (.expr (.append (.var 2) (.tup (.cons (.idx (.attr (.var 4) .variations) (.var 7)) (.cons (.var 6) .nil))))) .nil) (.cons (.expr (.append (.var 2) (.tup (.cons (.call 1 (.cons (.var 4) (.cons (.attr (.var 6) .move) (.cons (.attr (.var 6) .word) .nil)))) (.cons (.var 6) .nil))))) .nil)) .nil))) .nil))))))) <|
  .nil
/- strip_variations(root); variables: 0 root, 1 node -/
noncomputable def b_strip_variations : Ss :=
  .cons (.assign 1 (.var 0)) <|
  .cons (.whil (.cmp .gt (.len (.attr (.var 1) .variations)) (.int 0)) (.cons (.setAttr (.var 1) .variations (.cut (.attr (.var 1) .variations) (.int 1))) (.cons (.assign 1 (.idx (.attr (.var 1) .variations) (.int 0))) .nil))) <|
  .nil
/- strip_remarks(root); variables: 0 root, 1 node -/
noncomputable def b_strip_remarks : Ss :=
  .cons (.forL 1 (.call 10 (.cons (.var 0) .nil)) (.cons (.setAttr (.var 1) .remarks (.lst .nil)) (.cons (.setAttr (.var 1) .before (.lst .nil)) (.cons (.setAttr (.var 1) .nags (.lst .nil)) .nil)))) <|
  .nil
/- new_root(); variables:  -/
noncomputable def b_new_root : Ss :=
  .cons (.ret (.new .gint .none)) <|
  .nil
/- _law_all(mine, path); variables: 0 mine, 1 path, 2 out, 3 kid -/
noncomputable def b_law_all : Ss :=
  .cons (.assign 2 (.lst (.cons (.tup (.cons (.var 0) (.cons (.var 1) .nil))) .nil))) <|
  .cons (.forL 3 (.idx (.var 0) (.int 4)) (.cons (.expr (.extend (.var 2) (.call 20 (.cons (.var 3) (.cons (.bin .add (.var 1) (.lst (.cons (.idx (.var 3) (.int 0)) .nil))) .nil))))) .nil)) <|
  .cons (.ret (.var 2)) <|
  .nil
/- _law_both(mine); variables: 0 mine, 1 out, 2 kid -/
noncomputable def b_law_both : Ss :=
  .cons (.assign 1 (.lst .nil)) <|
  .cons (.forL 2 (.idx (.var 0) (.int 4)) (.cons (.expr (.append (.var 1) (.tup (.cons (.idx (.var 2) (.int 0)) (.cons (.bool false) .nil))))) (.cons (.expr (.extend (.var 1) (.call 21 (.cons (.var 2) .nil)))) (.cons (.expr (.append (.var 1) (.tup (.cons (.idx (.var 2) (.int 0)) (.cons (.bool true) .nil))))) .nil)))) <|
  .cons (.ret (.var 1)) <|
  .nil
/- _law_first(mine, move); variables: 0 mine, 1 move, 2 k -/
noncomputable def b_law_first : Ss :=
  .cons (.forR1 2 (.len (.idx (.var 0) (.int 4))) (.cons (.ite (.cmp .eq (.idx (.idx (.idx (.var 0) (.int 4)) (.var 2)) (.int 0)) (.var 1)) (.cons (.ret (.var 2)) .nil) .nil) .nil)) <|
  .cons (.ret .neg1) <|
  .nil
/- _law_way(mine, move); variables: 0 mine, 1 move, 2 k -/
noncomputable def b_law_way : Ss :=
  .cons (.assign 2 (.call 22 (.cons (.var 0) (.cons (.var 1) .nil)))) <|
  .cons (.ite (.cmp .lt (.var 2) (.int 0)) (.cons (.expr (.append (.idx (.var 0) (.int 4)) (.lst (.cons (.var 1) (.cons (.lst .nil) (.cons (.lst .nil) (.cons (.lst .nil) (.cons (.lst .nil) .nil)))))))) .nil) .nil) <|
  .cons (.ret (.idx (.idx (.var 0) (.int 4)) (.var 2))) <|
  .nil
/- _law_merge(mine, other); variables: 0 mine, 1 other, 2 k, 3 item, 4 kid -/
noncomputable def b_law_merge : Ss :=
  .cons (.forR2 2 1 4 (.cons (.forL 3 (.idx (.var 1) (.var 2)) (.cons (.ite (.cmp .eq (.count (.idx (.var 0) (.var 2)) (.var 3)) (.int 0)) (.cons (.expr (.append (.idx (.var 0) (.var 2)) (.var 3))) .nil) .nil) .nil)) .nil)) <|
  .cons (.forL 4 (.idx (.var 1) (.int 4)) (.cons (.expr (.call 24 (.cons (.call 23 (.cons (.var 0) (.cons (.idx (.var 4) (.int 0)) .nil))) (.cons (.var 4) .nil)))) .nil)) <|
  .nil
/- _law_plant(mine, theirs); variables: 0 mine, 1 theirs, 2 kid -/
noncomputable def b_law_plant : Ss :=
  .cons (.expr (.extend (.attr (.var 1) .remarks) (.idx (.var 0) (.int 1)))) <|
  .cons (.expr (.extend (.attr (.var 1) .nags) (.idx (.var 0) (.int 2)))) <|
  .cons (.expr (.extend (.attr (.var 1) .before) (.idx (.var 0) (.int 3)))) <|
  .cons (.forL 2 (.idx (.var 0) (.int 4)) (.cons (.expr (.call 25 (.cons (.var 2) (.cons (.call 1 (.cons (.var 1) (.cons (.idx (.var 2) (.int 0)) (.cons .str .nil)))) .nil)))) .nil)) <|
  .nil
/- _law_like(mine, theirs); variables: 0 mine, 1 theirs, 2 k -/
noncomputable def b_law_like : Ss :=
  .cons (.ite (.bor (.cons (.cmp .ne (.lst (.cons (.attr (.var 1) .move) (.cons (.attr (.var 1) .remarks) (.cons (.attr (.var 1) .nags) (.cons (.attr (.var 1) .before) .nil))))) (.cut (.var 0) (.int 4))) (.cons (.cmp .ne (.len (.attr (.var 1) .variations)) (.len (.idx (.var 0) (.int 4)))) .nil))) (.cons (.ret (.bool false)) .nil) .nil) <|
  .cons (.forR1 2 (.len (.idx (.var 0) (.int 4))) (.cons (.ite (.not (.call 26 (.cons (.idx (.idx (.var 0) (.int 4)) (.var 2)) (.cons (.idx (.attr (.var 1) .variations) (.var 2)) .nil)))) (.cons (.ret (.bool false)) .nil) .nil) .nil)) <|
  .cons (.ret (.bool true)) <|
  .nil
/- _law_turn(deed, mine, theirs, k, kept); variables: 0 deed, 1 mine, 2 theirs, 3 k, 4 kept, 5 kids, 6 gone, 7 kid -/
noncomputable def b_law_turn : Ss :=
  .cons (.assign 5 (.idx (.var 1) (.int 4))) <|
  .cons (.assign 6 .none) <|
  .cons (.tryB (.cons (.ite (.cmp .eq (.var 0) (.int 3)) (.cons (.expr (.call 3 (.cons (.var 2) (.cons (.var 3) .nil)))) .nil) (.cons (.ite (.cmp .eq (.var 0) (.int 4)) (.cons (.expr (.call 4 (.cons (.var 2) (.cons (.var 3) .nil)))) .nil) (.cons (.assign 6 (.call 5 (.cons (.var 2) (.cons (.var 3) .nil)))) .nil)) .nil)) .nil) 3 5) <|
  .cons (.ite (.not (.cmp2 .le .lt (.int 0) (.var 3) (.len (.var 5)))) (.cons (.ret (.bool false)) .nil) .nil) <|
  .cons (.assign 7 (.popAt (.var 5) (.var 3))) <|
  .cons (.ite (.cmp .eq (.var 0) (.int 3)) (.cons (.expr (.insert (.var 5) (.max2 (.bin .sub (.var 3) (.int 1)) (.int 0)) (.var 7))) .nil) (.cons (.ite (.cmp .eq (.var 0) (.int 4)) (.cons (.expr (.insert (.var 5) (.int 0) (.var 7))) .nil) (.cons (.setIdx (.var 4) (.int 0) (.var 7)) (.cons (.setIdx (.var 4) (.int 1) (.var 6)) (.cons (.ret (.cmp .eq (.call 9 (.cons (.var 6) .nil)) (.lst .nil))) .nil)))) .nil)) <|
  .cons (.ret (.bool true)) <|
  .nil
/- _law_deed(deed, q, mine, theirs, kept, is_wide); variables: 0 deed, 1 q, 2 mine, 3 theirs, 4 kept, 5 is_wide, 6 moves, 7 move -/
noncomputable def b_law_deed : Ss :=
  .cons (.ite (.cmp .eq (.var 0) (.int 1)) (.cons (.assign 6 (.cut (.lst (.cons (.bin .add (.int 1) (.bin .mod (.var 1) (.int 4))) (.cons (.bin .add (.int 1) (.bin .mod (.bin .fdiv (.var 1) (.int 4)) (.int 4))) (.cons (.bin .add (.int 1) (.bin .mod (.bin .fdiv (.var 1) (.int 16)) (.int 4))) .nil)))) (.bin .mod (.bin .fdiv (.var 1) (.int 64)) (.int 4)))) (.cons (.forL 7 (.var 6) (.cons (.assign 2 (.call 23 (.cons (.var 2) (.cons (.var 7) .nil)))) .nil)) (.cons (.ret (.cmp .eq (.call 9 (.cons (.call 7 (.cons (.var 3) (.cons (.var 6) .nil))) .nil)) (.bin .add (.call 9 (.cons (.var 3) .nil)) (.var 6)))) .nil))) .nil) <|
  .cons (.ite (.cmp .eq (.var 0) (.int 2)) (.cons (.expr (.append (.idx (.var 2) (.bin .add (.int 1) (.bin .mod (.var 1) (.int 3)))) (.bin .mod (.bin .fdiv (.var 1) (.int 3)) (.int 4)))) (.cons (.expr (.append (.idx (.lst (.cons (.attr (.var 3) .remarks) (.cons (.attr (.var 3) .nags) (.cons (.attr (.var 3) .before) .nil)))) (.bin .mod (.var 1) (.int 3))) (.bin .mod (.bin .fdiv (.var 1) (.int 3)) (.int 4)))) (.cons (.ret (.bool true)) .nil))) .nil) <|
  .cons (.ite (.cmp2 .le .le (.int 3) (.var 0) (.int 5)) (.cons (.ret (.call 27 (.cons (.var 0) (.cons (.var 2) (.cons (.var 3) (.cons (.bin .sub (.bin .mod (.var 1) (.int 5)) (.int 1)) (.cons (.var 4) .nil))))))) .nil) .nil) <|
  .cons (.ite (.band (.cons (.cmp .eq (.var 0) (.int 6)) (.cons (.not (.var 5)) .nil))) (.cons (.expr (.call 24 (.cons (.var 2) (.cons (.idx (.var 4) (.int 0)) .nil)))) (.cons (.expr (.call 16 (.cons (.var 3) (.cons (.idx (.var 4) (.int 1)) .nil)))) (.cons (.ret (.bool true)) .nil))) .nil) <|
  .cons (.assign 7 (.bin .add (.int 1) (.bin .mod (.var 1) (.int 4)))) <|
  .cons (.ite (.cmp .ne (.call 6 (.cons (.var 3) (.cons (.var 7) .nil))) (.call 22 (.cons (.var 2) (.cons (.var 7) .nil)))) (.cons (.ret (.bool false)) .nil) .nil) <|
  .cons (.expr (.append (.idx (.var 2) (.int 4)) (.lst (.cons (.var 7) (.cons (.lst .nil) (.cons (.lst .nil) (.cons (.lst .nil) (.cons (.lst .nil) .nil)))))))) <|
  .cons (.ret (.cmp .eq (.call 9 (.cons (.call 1 (.cons (.var 3) (.cons (.var 7) (.cons .str .nil)))) .nil)) (.bin .add (.call 9 (.cons (.var 3) .nil)) (.lst (.cons (.var 7) .nil))))) <|
  .nil
/- law(script); variables: 0 script, 1 nums, 2 top, 3 tree, 4 kept, 5 number, 6 mine, 7 theirs, 8 q, 9 deed, 10 at, 11 is_wide, 12 twin, 13 main, 14 node, 15 bare, 16 move -/
noncomputable def b_law : Ss :=
  .cons (.whil (.cmp .lt (.len (.var 1)) (.int 6)) (.cons (.expr (.append (.var 1) (.bin .add (.bin .mul (.len (.var 1)) (.int 1234567)) (.int 89)))) .nil)) <|
  .cons (.assign 2 (.lst (.cons (.int 0) (.cons (.lst .nil) (.cons (.lst .nil) (.cons (.lst .nil) (.cons (.lst .nil) .nil))))))) <|
  .cons (.assign 3 (.call 19 .nil)) <|
  .cons (.assign 4 (.lst (.cons (.lst (.cons (.int 0) (.cons (.lst .nil) (.cons (.lst .nil) (.cons (.lst .nil) (.cons (.lst .nil) .nil)))))) (.cons (.call 19 .nil) .nil)))) <|
  .cons (.forL 5 (.var 1) (.cons (.assign 6 (.call 20 (.cons (.var 2) (.cons (.lst .nil) .nil)))) (.cons (.assign 7 (.call 10 (.cons (.var 3) .nil))) (.cons (.ite (.cmp .ne (.len (.var 6)) (.len (.var 7))) (.cons (.ret (.bool false)) .nil) .nil) (.cons (.assign2 8 9 (.divmod (.bin .mod (.var 5) (.bin .pow (.int 10) (.int 9))) (.int 9))) (.cons (.assign2 8 10 (.divmod (.var 8) (.len (.var 6)))) (.cons (.ite (.cmp .eq (.var 9) (.int 8)) (.cons (.assign 10 (.bin .sub (.len (.var 6)) (.int 1))) .nil) .nil) (.cons (.ite (.cmp .gt (.len (.idx (.idx (.var 6) (.var 10)) (.int 1))) (.int 24)) (.cons (.assign 10 (.int 0)) .nil) .nil) (.cons (.assign 11 (.cmp .gt (.len (.var 6)) (.int 40))) (.cons (.ite (.band (.cons (.cmp .eq (.var 9) (.int 6)) (.cons (.not (.var 11)) .nil))) (.cons (.assign 11 (.cmp .gt (.bin .add (.len (.idx (.idx (.var 6) (.var 10)) (.int 1))) (.max1 (.comp (.len (.var 1)) true (.call 20 (.cons (.idx (.var 4) (.int 0)) (.cons (.lst .nil) .nil)))))) (.int 36))) .nil) .nil) (.cons (.ite (.not (.call 28 (.cons (.var 9) (.cons (.var 8) (.cons (.idx (.idx (.var 6) (.var 10)) (.int 0)) (.cons (.idx (.var 7) (.var 10)) (.cons (.var 4) (.cons (.var 11) .nil)))))))) (.cons (.ret (.bool false)) .nil) .nil) .nil))))))))))) <|
  .cons (.ite (.bor (.cons (.not (.call 26 (.cons (.var 2) (.cons (.var 3) .nil)))) (.cons (.not (.call 26 (.cons (.idx (.var 4) (.int 0)) (.cons (.idx (.var 4) (.int 1)) .nil)))) .nil))) (.cons (.ret (.bool false)) .nil) .nil) <|
  .cons (.assign 6 (.call 20 (.cons (.var 2) (.cons (.lst .nil) .nil)))) <|
  .cons (.ite (.cmp .ne (.comp (.call 9 (.cons (.var 0) .nil)) false (.call 10 (.cons (.var 3) .nil))) (.comp (.var 1) true (.var 6))) (.cons (.ret (.bool false)) .nil) .nil) <|
  .cons (.ite (.cmp .ne (.call 12 (.cons (.var 3) .nil)) (.compIf (.var 1) true (.var 6) (.cmp .eq (.idx (.var 0) (.int 4)) (.lst .nil)))) (.cons (.ret (.bool false)) .nil) .nil) <|
  .cons (.ite (.cmp .ne (.comp (.tup (.cons (.attr (.var 0) .move) (.cons (.var 1) .nil))) true (.call 11 (.cons (.var 3) .nil))) (.call 21 (.cons (.var 2) .nil))) (.cons (.ret (.bool false)) .nil) .nil) <|
  .cons (.assign 12 (.call 19 .nil)) <|
  .cons (.expr (.call 25 (.cons (.var 2) (.cons (.var 12) .nil)))) <|
  .cons (.ite (.not (.call 14 (.cons (.var 3) (.cons (.var 12) .nil)))) (.cons (.ret (.bool false)) .nil) .nil) <|
  .cons (.expr (.append (.attr (.idx (.call 10 (.cons (.var 12) .nil)) (.bin .mod (.idx (.var 1) .neg1) (.len (.var 6)))) .nags) (.int 9))) <|
  .cons (.ite (.bor (.cons (.call 14 (.cons (.var 3) (.cons (.var 12) .nil))) (.cons (.call 14 (.cons (.var 12) (.cons (.var 3) .nil))) .nil))) (.cons (.ret (.bool false)) .nil) .nil) <|
  .cons (.assign 13 (.lst .nil)) <|
  .cons (.assign 14 (.var 2)) <|
  .cons (.whil (.cmp .ne (.idx (.var 14) (.int 4)) (.lst .nil)) (.cons (.assign 14 (.idx (.idx (.var 14) (.int 4)) (.int 0))) (.cons (.expr (.append (.var 13) (.idx (.var 14) (.int 0)))) .nil))) <|
  .cons (.ite (.cmp .ne (.comp (.attr (.var 0) .move) false (.call 8 (.cons (.var 3) .nil))) (.var 13)) (.cons (.ret (.bool false)) .nil) .nil) <|
  .cons (.expr (.call 18 (.cons (.var 3) .nil))) <|
  .cons (.expr (.call 17 (.cons (.var 3) .nil))) <|
  .cons (.assign 15 (.lst .nil)) <|
  .cons (.forL 16 (.rev (.var 13)) (.cons (.assign 15 (.lst (.cons (.lst (.cons (.var 16) (.cons (.lst .nil) (.cons (.lst .nil) (.cons (.lst .nil) (.cons (.var 15) .nil)))))) .nil))) .nil)) <|
  .cons (.ret (.call 26 (.cons (.lst (.cons (.int 0) (.cons (.lst .nil) (.cons (.lst .nil) (.cons (.lst .nil) (.cons (.var 15) .nil)))))) (.cons (.var 3) .nil)))) <|
  .nil
noncomputable def fnArity : List Nat := [3, 3, 2, 2, 2, 2, 2, 2, 1, 1, 1, 1, 1, 2, 2, 2, 2, 1, 1, 0, 2, 1, 2, 2, 2, 2, 2, 5, 6, 1]
noncomputable def fnBody : List Ss := [b_init, b_add_variation, b_check_way, b_promote_variation, b_make_main, b_remove_variation, b_find_way, b_add_line, b_main_line, b_line_to, b_walk, b_walk_both, b_all_lines, b_same_node, b_same_tree, b_add_new, b_merge_tree, b_strip_variations, b_strip_remarks, b_new_root, b_law_all, b_law_both, b_law_first, b_law_way, b_law_merge, b_law_plant, b_law_like, b_law_turn, b_law_deed, b_law]
noncomputable def fnNames : List String := ["__init__", "add_variation", "check_way", "promote_variation", "make_main", "remove_variation", "find_way", "add_line", "main_line", "line_to", "walk", "walk_both", "all_lines", "same_node", "same_tree", "add_new", "merge_tree", "strip_variations", "strip_remarks", "new_root", "_law_all", "_law_both", "_law_first", "_law_way", "_law_merge", "_law_plant", "_law_like", "_law_turn", "_law_deed", "law"]
noncomputable def fnVars : List (List String) := [["self", "move", "parent"], ["node", "move", "word", "child"], ["node", "k"], ["node", "k", "way"], ["node", "k"], ["node", "k", "child"], ["node", "move", "k"], ["node", "moves", "move", "k"], ["node", "out"], ["node", "moves"], ["node", "out", "todo", "child"], ["root", "out", "todo", "node", "is_left", "child"], ["root"], ["a", "b"], ["a", "b", "todo", "k"], ["into", "items", "item"], ["into", "other", "todo", "at", "mine", "theirs", "child", "k"], ["root", "node"], ["root", "node"], [], ["mine", "path", "out", "kid"], ["mine", "out", "kid"], ["mine", "move", "k"], ["mine", "move", "k"], ["mine", "other", "k", "item", "kid"], ["mine", "theirs", "kid"], ["mine", "theirs", "k"], ["deed", "mine", "theirs", "k", "kept", "kids", "gone", "kid"], ["deed", "q", "mine", "theirs", "kept", "is_wide", "moves", "move"], ["script", "nums", "top", "tree", "kept", "number", "mine", "theirs", "q", "deed", "at", "is_wide", "twin", "main", "node", "bare", "move"]]
noncomputable def callN (fu : Nat) : Nat → Nat → List V → H → R V
  | 0, _, _, _ => .fail
  | n + 1, f, vs, h => match fnArity[f]?, fnBody[f]? with
    | some k, some b => if vs.length = k then (match evSs ⟨fu, callN fu n⟩ b (params vs) h with
        | .ret v h' => .ok v h'
        | .nxt _ h' => .ok .none h'
        | .exc _ h' => .exc h'
        | .fail => .fail) else .fail
    | _, _ => .fail
end
end Mine
end

section
namespace MineB
open Mine
structure C3 (a1 a2 a3 : Prop) : Prop where
  p1 : a1
  p2 : a2
  p3 : a3
structure C4 (a1 a2 a3 a4 : Prop) : Prop where
  p1 : a1
  p2 : a2
  p3 : a3
  p4 : a4
structure C5 (a1 a2 a3 a4 a5 : Prop) : Prop where
  p1 : a1
  p2 : a2
  p3 : a3
  p4 : a4
  p5 : a5
structure C6 (a1 a2 a3 a4 a5 a6 : Prop) : Prop where
  p1 : a1
  p2 : a2
  p3 : a3
  p4 : a4
  p5 : a5
  p6 : a6
structure C7 (a1 a2 a3 a4 a5 a6 a7 : Prop) : Prop where
  p1 : a1
  p2 : a2
  p3 : a3
  p4 : a4
  p5 : a5
  p6 : a6
  p7 : a7
structure C8 (a1 a2 a3 a4 a5 a6 a7 a8 : Prop) : Prop where
  p1 : a1
  p2 : a2
  p3 : a3
  p4 : a4
  p5 : a5
  p6 : a6
  p7 : a7
  p8 : a8
structure C9 (a1 a2 a3 a4 a5 a6 a7 a8 a9 : Prop) : Prop where
  p1 : a1
  p2 : a2
  p3 : a3
  p4 : a4
  p5 : a5
  p6 : a6
  p7 : a7
  p8 : a8
  p9 : a9
structure C10 (a1 a2 a3 a4 a5 a6 a7 a8 a9 a10 : Prop) : Prop where
  p1 : a1
  p2 : a2
  p3 : a3
  p4 : a4
  p5 : a5
  p6 : a6
  p7 : a7
  p8 : a8
  p9 : a9
  p10 : a10
structure C12 (a1 a2 a3 a4 a5 a6 a7 a8 a9 a10 a11 a12 : Prop) : Prop where
  p1 : a1
  p2 : a2
  p3 : a3
  p4 : a4
  p5 : a5
  p6 : a6
  p7 : a7
  p8 : a8
  p9 : a9
  p10 : a10
  p11 : a11
  p12 : a12
/-! the heap: what is kept -/
noncomputable def Ext (h h' : H) : Prop := ∀ (x : Nat) (c : Cell), h[x]? = some c → h'[x]? = some c
theorem Ext.refl (h : H) : Ext h h := fun _ _ e => e
theorem Ext.trans {h h' h'' : H} (a : Ext h h') (b : Ext h' h'') : Ext h h'' := fun x c e => b x c (a x c e)
theorem lt_of_get {h : H} {x : Nat} {c : Cell} (e : h[x]? = some c) : x < h.length := by
  rcases Nat.lt_or_ge x h.length with g | g
  · exact g
  · rw [List.getElem?_eq_none g] at e; cases e
theorem Ext.app (h e : H) : Ext h (h ++ e) := fun x c g => by
  rw [List.getElem?_append_left (lt_of_get g)]; exact g
theorem Ext.len {h h' : H} (a : Ext h h') : h.length ≤ h'.length := by
  rcases Nat.eq_zero_or_pos h.length with g | g
  · lia
  · have e : h[h.length - 1]? = some (h[h.length - 1]'(by lia)) := List.getElem?_eq_getElem (by lia)
    have := lt_of_get (a _ _ e); lia
theorem Ext.set {h h' : H} (a : Ext h h') {x : Nat} (c : Cell) (g : h.length ≤ x) : Ext h (h'.set x c) := fun y d e => by
  have := lt_of_get e
  rw [List.getElem?_set_ne (by lia)]; exact a y d e
theorem Ext.app' {h h' : H} (a : Ext h h') (e : H) : Ext h (h' ++ e) := a.trans (Ext.app _ _)
theorem get_app_len (h : H) (c : Cell) (e : H) : (h ++ c :: e)[h.length]? = some c := by simp
theorem get_set_self {h : H} {x : Nat} {d : Cell} (e : h[x]? = some d) (c : Cell) : (h.set x c)[x]? = some c := by
  rw [List.getElem?_set_self (lt_of_get e)]

/-! the names of nodes -/
abbrev Id := Nat × List (Int × Nat)
noncomputable def mv (i : Id) : Int := match i.2 with | [] => 0 | x :: _ => x.1
noncomputable def up (i : Id) : Id := (i.1, i.2.tail)
noncomputable def lvl (i : Id) : Nat := i.2.length
noncomputable def kid (i : Id) (v : Int) (e : Nat) : Id := (i.1, (v, e) :: i.2)
@[simp] theorem mv_kid (i v e) : mv (kid i v e) = v := rfl
@[simp] theorem up_kid (i v e) : up (kid i v e) = i := rfl
@[simp] theorem lvl_kid (i v e) : lvl (kid i v e) = lvl i + 1 := rfl
structure Rec where
  r : List Int
  n : List Int
  b : List Int
  kids : List Id
structure Ab where
  re : Id → Rec
  att : Id → Bool
structure Sd where
  a : Ab
  ids : List Id
  A : Id → Nat → Nat
noncomputable def intC (xs : List Int) : Cell := .lst (xs.map V.int)
noncomputable def refs (A : Id → Nat → Nat) (ks : List Id) : Cell := .lst (ks.map fun k => .ref (A k 0))
noncomputable def cell (nd : Bool) (S : Sd) (i : Id) : Nat → Cell
  | 0 => (match nd with
    | false => .lst [.int (mv i), .ref (S.A i 1), .ref (S.A i 2), .ref (S.A i 3), .ref (S.A i 4)]
    | true => .node [(.move, .int (mv i)), (.parent, if S.a.att i then .ref (S.A (up i) 0) else .none), (.word, .str), (.place, .int (-1)),
        (.variations, .ref (S.A i 4)), (.remarks, .ref (S.A i 1)), (.nags, .ref (S.A i 2)), (.before, .ref (S.A i 3))])
  | 1 => intC (S.a.re i).r
  | 2 => intC (S.a.re i).n
  | 3 => intC (S.a.re i).b
  | _ => refs S.A (S.a.re i).kids
structure Ok (nd : Bool) (S : Sd) (h : H) : Prop where
  c : ∀ i ∈ S.ids, ∀ p < 5, h[S.A i p]? = some (cell nd S i p)
  inj : ∀ i ∈ S.ids, ∀ j ∈ S.ids, ∀ p < 5, ∀ q < 5, S.A i p = S.A j q → i = j ∧ p = q
  cl : ∀ i ∈ S.ids, ∀ k ∈ (S.a.re i).kids, k ∈ S.ids
  pu : ∀ i ∈ S.ids, S.a.att i = true → i.2 ≠ [] ∧ up i ∈ S.ids
structure Stp (nd : Bool) (S : Sd) (h : H) (S' : Sd) (h' : H) : Prop where
  ok : Ok nd S' h'
  self : ∀ i ∈ S.ids, i ∈ S'.ids ∧ S'.A i 0 = S.A i 0
  new : ∀ i ∈ S'.ids, ∀ p < 5, (i ∈ S.ids ∧ S'.A i p = S.A i p) ∨ h.length ≤ S'.A i p
  len : h.length ≤ h'.length
  fr : ∀ x c, h[x]? = some c → (∀ i ∈ S.ids, ∀ p < 5, S.A i p ≠ x) → h'[x]? = some c
  sA : ∀ i ∈ S.ids, ∀ p, S'.A i p = S.A i p
theorem Ok.self {nd S h} (o : Ok nd S h) : Stp nd S h S h :=
  ⟨o, fun _ hi => ⟨hi, rfl⟩, fun _ hi _ _ => .inl ⟨hi, rfl⟩, Nat.le_refl _, fun _ _ e _ => e, fun _ _ _ => rfl⟩
theorem Ok.ext {nd S h h'} (o : Ok nd S h) (e : Ext h h') : Ok nd S h' :=
  ⟨fun i hi p hp => e _ _ (o.c i hi p hp), o.inj, o.cl, o.pu⟩
theorem Ok.estp {nd S h h'} (o : Ok nd S h) (e : Ext h h') : Stp nd S h S h' :=
  ⟨o.ext e, fun _ hi => ⟨hi, rfl⟩, fun _ hi _ _ => .inl ⟨hi, rfl⟩, e.len, fun x c g _ => e x c g, fun _ _ _ => rfl⟩
noncomputable def Out (S : Sd) (x : Nat) : Prop := ∀ i ∈ S.ids, ∀ p < 5, S.A i p ≠ x
theorem Stp.out {nd S h S' h' x} (s : Stp nd S h S' h') (o : Out S x) (hx : x < h.length) : Out S' x := fun i hi p hp e => by
  rcases s.new i hi p hp with ⟨g, g'⟩ | g
  · exact o i g p hp (g' ▸ e)
  · lia
theorem Stp.keep {nd S h S' h' x c} (s : Stp nd S h S' h') (g : h[x]? = some c) (o : Out S x) : h'[x]? = some c ∧ Out S' x :=
  ⟨s.fr x c g o, s.out o (lt_of_get g)⟩
theorem Stp.trans {nd S h S' h' S'' h''} (s : Stp nd S h S' h') (t : Stp nd S' h' S'' h'') : Stp nd S h S'' h'' where
  ok := t.ok
  self i hi := ⟨(t.self i (s.self i hi).1).1, ((t.self i (s.self i hi).1).2).trans (s.self i hi).2⟩
  new i hi p hp := by
    rcases t.new i hi p hp with ⟨g, g'⟩ | g
    · rw [g']; exact s.new i g p hp
    · exact .inr (Nat.le_trans s.len g)
  len := Nat.le_trans s.len t.len
  fr x c e o := t.fr x c (s.fr x c e o) (s.out o (lt_of_get e))
  sA i hi p := (t.sA i (s.self i hi).1 p).trans (s.sA i hi p)
/-- two sides apart -/
noncomputable def Dj (S T : Sd) : Prop := ∀ i ∈ S.ids, ∀ p < 5, Out T (S.A i p)
theorem Dj.symm {S T} (d : Dj S T) : Dj T S := fun i hi p hp j hj q hq e => d j hj q hq i hi p hp e.symm
theorem Stp.other {nd S h S' h' md T} (s : Stp nd S h S' h') (o : Ok md T h) (d : Dj S T) : Ok md T h' ∧ Dj S' T := by
  constructor
  · exact ⟨fun i hi p hp => s.fr _ _ (o.c i hi p hp) (d.symm i hi p hp), o.inj, o.cl, o.pu⟩
  · intro i hi p hp j hj q hq e
    have := lt_of_get (o.c j hj q hq)
    rcases s.new i hi p hp with ⟨g, g'⟩ | g
    · exact d i g p hp j hj q hq (by rw [e, g'])
    · lia
noncomputable def Ab.put (a : Ab) (i : Id) (r : Rec) : Ab := { a with re := fun j => if j = i then r else a.re j }
noncomputable def Sd.on (S : Sd) (a : Ab) : Sd := { S with a := a }
theorem Stp.set {nd S h} (o : Ok nd S h) {i : Id} {p : Nat} (hi : i ∈ S.ids) (hp : p < 5) (a : Ab)
    (hc : ∀ j ∈ S.ids, ∀ q < 5, (j = i → q = p → False) → cell nd (S.on a) j q = cell nd S j q)
    (cl : ∀ k ∈ (a.re i).kids, k ∈ S.ids) (ca : ∀ j, j ≠ i → (a.re j).kids = (S.a.re j).kids)
    (pu : ∀ j ∈ S.ids, a.att j = true → S.a.att j = true) :
    Stp nd S h (S.on a) (h.set (S.A i p) (cell nd (S.on a) i p)) := by
  have hlt := lt_of_get (o.c i hi p hp)
  refine ⟨⟨fun j hj q hq => ?_, o.inj, fun j hj k hk => ?_, fun j hj g => o.pu j hj (pu j hj g)⟩, fun _ hi => ⟨hi, rfl⟩, fun _ hi _ _ => .inl ⟨hi, rfl⟩, by simp, fun x c e g => ?_, fun _ _ _ => rfl⟩
  · show (h.set (S.A i p) _)[S.A j q]? = _
    by_cases g : j = i ∧ q = p
    · obtain ⟨rfl, rfl⟩ := g
      rw [List.getElem?_set_self hlt]
    · have ne : S.A i p ≠ S.A j q := fun e => g (by have := o.inj i hi j hj p hp q hq e; exact ⟨this.1.symm, this.2.symm⟩)
      rw [List.getElem?_set_ne ne, o.c j hj q hq, hc j hj q hq (fun a b => g ⟨a, b⟩)]
  · by_cases g : j = i
    · subst g; exact cl k hk
    · have hk' : k ∈ (a.re j).kids := hk
      rw [ca j g] at hk'; exact o.cl j hj k hk'
  · rw [List.getElem?_set_ne (g i hi p hp)]; exact e
noncomputable def Sd.add (S : Sd) (k : Id) (f : Nat → Nat) : Sd := { S with ids := k :: S.ids, A := fun j p => if j = k then f p else S.A j p }
theorem cell_add {nd S h} (o : Ok nd S h) {k : Id} (hk : k ∉ S.ids) (f : Nat → Nat) {j : Id} (hj : j ∈ S.ids) (p : Nat) :
    cell nd (S.add k f) j p = cell nd S j p := by
  have hne : j ≠ k := fun e => hk (e ▸ hj)
  have hks : refs (S.add k f).A (S.a.re j).kids = refs S.A (S.a.re j).kids := by
    unfold refs; congr 1
    apply List.map_congr_left
    intro q hq
    have : q ≠ k := fun e => hk (e ▸ o.cl j hj q hq)
    simp [Sd.add, this]
  have hup : S.a.att j = true → up j ≠ k := fun e g => hk (g ▸ (o.pu j hj e).2)
  have ha : (S.add k f).a = S.a := rfl
  unfold cell
  match p with
  | 0 =>
    cases nd
    · simp [Sd.add, hne]
    · simp only [ha]
      cases e : S.a.att j
      · simp [Sd.add, hne]
      · simp [Sd.add, hne, hup e]
  | 1 => rfl
  | 2 => rfl
  | 3 => rfl
  | _ + 4 => exact hks
theorem Stp.add {nd S h h'} (o : Ok nd S h) (e : Ext h h') {k : Id} (hk : k ∉ S.ids) (f : Nat → Nat)
    (hf : ∀ p < 5, h.length ≤ f p) (fi : ∀ p < 5, ∀ q < 5, f p = f q → p = q)
    (hc : ∀ p < 5, h'[f p]? = some (cell nd (S.add k f) k p))
    (hks : (S.a.re k).kids = []) (hpu : S.a.att k = true → k.2 ≠ [] ∧ up k ∈ S.ids) : Stp nd S h (S.add k f) h' := by
  have hn : ∀ j ∈ S.ids, j ≠ k := fun j hj e => hk (e ▸ hj)
  have hA : ∀ j ∈ S.ids, ∀ p, (S.add k f).A j p = S.A j p := fun j hj p => by simp [Sd.add, hn j hj]
  have hA' : ∀ p, (S.add k f).A k p = f p := fun p => by simp [Sd.add]
  refine ⟨⟨fun i hi p hp => ?_, fun i hi j hj p hp q hq g => ?_, fun i hi c hc => ?_, fun i hi g => ?_⟩, fun i hi => ⟨List.mem_cons_of_mem _ hi, hA i hi 0⟩, fun i hi p hp => ?_, e.len, fun x c g _ => e x c g, fun i hi p => hA i hi p⟩
  · rcases List.mem_cons.1 hi with rfl | hi
    · rw [hA']; exact hc p hp
    · rw [hA i hi, cell_add o hk f hi]; exact e _ _ (o.c i hi p hp)
  · rcases List.mem_cons.1 hi with hik | hi' <;> rcases List.mem_cons.1 hj with hjk | hj'
    · subst hik; subst hjk; rw [hA', hA'] at g; exact ⟨rfl, fi p hp q hq g⟩
    · subst hik; rw [hA', hA j hj'] at g
      have := lt_of_get (o.c j hj' q hq); have := hf p hp; lia
    · subst hjk; rw [hA', hA i hi'] at g
      have := lt_of_get (o.c i hi' p hp); have := hf q hq; lia
    · rw [hA i hi', hA j hj'] at g; exact o.inj i hi' j hj' p hp q hq g
  · rcases List.mem_cons.1 hi with rfl | hi
    · change c ∈ (S.a.re i).kids at hc
      rw [hks] at hc; cases hc
    · exact List.mem_cons_of_mem _ (o.cl i hi c hc)
  · rcases List.mem_cons.1 hi with rfl | hi
    · exact ⟨(hpu g).1, List.mem_cons_of_mem _ (hpu g).2⟩
    · exact ⟨(o.pu i hi g).1, List.mem_cons_of_mem _ (o.pu i hi g).2⟩
  · rcases List.mem_cons.1 hi with rfl | hi
    · rw [hA']; exact .inr (hf p hp)
    · exact .inl ⟨hi, hA i hi p⟩
theorem Stp.ext {nd S h S' h' h''} (s : Stp nd S h S' h') (e : Ext h' h'') : Stp nd S h S' h'' := s.trans (s.ok.estp e)
theorem Stp.setOut {nd S h S' h'} {x : Nat} (s : Stp nd S h S' h') (hx : h.length ≤ x) (ho : Out S' x) (c : Cell) : Stp nd S h S' (h'.set x c) :=
  ⟨⟨fun i hi p hp => by rw [List.getElem?_set_ne (Ne.symm (ho i hi p hp))]; exact s.ok.c i hi p hp, s.ok.inj, s.ok.cl, s.ok.pu⟩, s.self, s.new, by simp; exact s.len,
    fun y d e g => by have := lt_of_get e; rw [List.getElem?_set_ne (by lia)]; exact s.fr y d e g, s.sA⟩
end MineB
end

section
/-! the same equations without binders: smaller proofs -/
namespace MineB
open Mine
noncomputable def qB2 (op : H → V → V → R V) (x : V) (r : R V) : R V := r.bind fun y h => op h x y
noncomputable def qB1 (c : Ctx) (b : E) (l : Loc) (op : H → V → V → R V) (r : R V) : R V := r.bind fun x h => (evE c b l h).bind fun y h => op h x y
noncomputable def qU (op : H → V → R V) (r : R V) : R V := r.bind fun x h => op h x
noncomputable def qAt (f : Fld) (h : H) (x : V) : R V := attrV h f x
noncomputable def qNo (h : H) (x : V) : R V := match x with
  | .bool b => .ok (.bool (!b)) h
  | _ => .fail
noncomputable def qM1 (c : Ctx) (b : E) (l : Loc) (op : H → V → V → R V) (r : R V) : R V := r.bind fun x h => if isLst h x then (evE c b l h).bind fun y h => op h x y else .fail
noncomputable def qM0 (op : H → V → R V) (r : R V) : R V := r.bind fun x h => if isLst h x then op h x else .fail
noncomputable def qI1 (c : Ctx) (i b : E) (l : Loc) (r : R V) : R V := r.bind fun x h => if isLst h x then (evE c i l h).bind fun y h => (evE c b l h).bind fun z h => insertV h x y z else .fail
noncomputable def qI2 (c : Ctx) (b : E) (l : Loc) (x : V) (r : R V) : R V := r.bind fun y h => (evE c b l h).bind fun z h => insertV h x y z
noncomputable def qI3 (x y : V) (r : R V) : R V := r.bind fun z h => insertV h x y z
noncomputable def qC (c : Ctx) (f : Nat) (r : R (List V)) : R V := r.bind fun vs h => c.call f vs h
noncomputable def qA (mk : List V → Cell) (r : R (List V)) : R V := r.bind fun vs h => alloc (mk vs) h
noncomputable def qL1 (c : Ctx) (es : Es) (l : Loc) (r : R V) : R (List V) := r.bind fun v h => (evEs c es l h).bind fun vs h => .ok (v :: vs) h
noncomputable def qL2 (v : V) (r : R (List V)) : R (List V) := r.bind fun vs h => .ok (v :: vs) h
noncomputable def qV (o : Option V) (h : H) : R V := match o with | some v => .ok v h | Option.none => .fail
noncomputable def qT1 (c : Ctx) (o1 o2 : Cop) (b d : E) (l : Loc) (r : R V) : R V := r.bind fun x h => (evE c b l h).bind fun y h => (cmpV o1 h x y).bind fun r h => match r with
      | .bool true => (evE c d l h).bind fun z h => cmpV o2 h y z
      | .bool false => .ok (.bool false) h
      | _ => .fail
noncomputable def qT2 (c : Ctx) (o1 o2 : Cop) (d : E) (l : Loc) (x : V) (r : R V) : R V := r.bind fun y h => (cmpV o1 h x y).bind fun r h => match r with
      | .bool true => (evE c d l h).bind fun z h => cmpV o2 h y z
      | .bool false => .ok (.bool false) h
      | _ => .fail
noncomputable def qT3 (c : Ctx) (o2 : Cop) (d : E) (l : Loc) (y : V) (r : R V) : R V := r.bind fun r h => match r with
      | .bool true => (evE c d l h).bind fun z h => cmpV o2 h y z
      | .bool false => .ok (.bool false) h
      | _ => .fail
noncomputable def qD (c : Ctx) (es : Es) (l : Loc) (r : R V) : R V := r.bind fun v h => match v with
      | .bool true => evAnd c es l h
      | .bool false => .ok (.bool false) h
      | _ => .fail
noncomputable def qO (c : Ctx) (es : Es) (l : Loc) (r : R V) : R V := r.bind fun v h => match v with
      | .bool true => .ok (.bool true) h
      | .bool false => evOr c es l h
      | _ => .fail
section
variable (c : Ctx) (a b d i : E) (es : Es) (l : Loc) (h : H)
@[simp] theorem q_none : evE c .none l h = .ok .none h := rfl
@[simp] theorem q_bool (x : Bool) : evE c (.bool x) l h = .ok (.bool x) h := rfl
@[simp] theorem q_int (x : Int) : evE c (.int x) l h = .ok (.int x) h := rfl
@[simp] theorem q_str : evE c .str l h = .ok .str h := rfl
@[simp] theorem q_var (x : Nat) : evE c (.var x) l h = qV (l x) h := rfl
@[simp] theorem q_gint : evE c .gint l h = .ok (.int 0) h := rfl
@[simp] theorem q_neg1 : evE c .neg1 l h = .ok (.int (-1)) h := rfl
@[simp] theorem q_lst : evE c (.lst es) l h = qA .lst (evEs c es l h) := rfl
@[simp] theorem q_tup : evE c (.tup es) l h = qA .tup (evEs c es l h) := rfl
@[simp] theorem q_bin (o : Bop) : evE c (.bin o a b) l h = qB1 c b l (binV o) (evE c a l h) := rfl
@[simp] theorem q_cmp (o : Cop) : evE c (.cmp o a b) l h = qB1 c b l (cmpV o) (evE c a l h) := rfl
@[simp] theorem q_cmp2 (o1 o2 : Cop) : evE c (.cmp2 o1 o2 a b d) l h = qT1 c o1 o2 b d l (evE c a l h) := rfl
@[simp] theorem q_band : evE c (.band es) l h = evAnd c es l h := rfl
@[simp] theorem q_bor : evE c (.bor es) l h = evOr c es l h := rfl
@[simp] theorem q_not : evE c (.not a) l h = qU qNo (evE c a l h) := rfl
@[simp] theorem q_idx : evE c (.idx a i) l h = qB1 c i l idxV (evE c a l h) := rfl
@[simp] theorem q_rev : evE c (.rev a) l h = qU revV (evE c a l h) := rfl
@[simp] theorem q_cut : evE c (.cut a b) l h = qB1 c b l cutV (evE c a l h) := rfl
@[simp] theorem q_attr (f : Fld) : evE c (.attr a f) l h = qU (qAt f) (evE c a l h) := rfl
@[simp] theorem q_call (f : Nat) : evE c (.call f es) l h = qC c f (evEs c es l h) := rfl
@[simp] theorem q_new : evE c (.new a b) l h = qB1 c b l (newV c) (evE c a l h) := rfl
@[simp] theorem q_len : evE c (.len a) l h = qU lenV (evE c a l h) := rfl
@[simp] theorem q_max2 : evE c (.max2 a b) l h = qB1 c b l max2V (evE c a l h) := rfl
@[simp] theorem q_max1 : evE c (.max1 a) l h = qU max1V (evE c a l h) := rfl
@[simp] theorem q_divmod : evE c (.divmod a b) l h = qB1 c b l divmodV (evE c a l h) := rfl
@[simp] theorem q_list : evE c (.list a) l h = qU listV (evE c a l h) := rfl
@[simp] theorem q_append : evE c (.append a b) l h = qM1 c b l appendV (evE c a l h) := rfl
@[simp] theorem q_extend : evE c (.extend a b) l h = qM1 c b l extendV (evE c a l h) := rfl
@[simp] theorem q_pop : evE c (.pop a) l h = qM0 popV (evE c a l h) := rfl
@[simp] theorem q_popAt : evE c (.popAt a i) l h = qM1 c i l popAtV (evE c a l h) := rfl
@[simp] theorem q_insert : evE c (.insert a i b) l h = qI1 c i b l (evE c a l h) := rfl
@[simp] theorem q_count : evE c (.count a b) l h = qM1 c b l countV (evE c a l h) := rfl
@[simp] theorem q_nil : evEs c .nil l h = .ok [] h := rfl
@[simp] theorem q_cons : evEs c (.cons a es) l h = qL1 c es l (evE c a l h) := rfl
@[simp] theorem q_and0 : evAnd c .nil l h = .ok (.bool true) h := rfl
@[simp] theorem q_and1 : evAnd c (.cons a es) l h = qD c es l (evE c a l h) := rfl
@[simp] theorem q_or0 : evOr c .nil l h = .ok (.bool false) h := rfl
@[simp] theorem q_or1 : evOr c (.cons a es) l h = qO c es l (evE c a l h) := rfl
variable (x y : V) (vs : List V)
@[simp] theorem qV_ok : qV (some x) h = .ok x h := rfl
@[simp] theorem qB1_ok (op : H → V → V → R V) : qB1 c b l op (.ok x h) = qB2 op x (evE c b l h) := rfl
@[simp] theorem qB2_ok (op : H → V → V → R V) : qB2 op x (.ok y h) = op h x y := rfl
@[simp] theorem qU_ok (op : H → V → R V) : qU op (.ok x h) = op h x := rfl
@[simp] theorem qAt_ok (f : Fld) : qAt f h x = attrV h f x := rfl
@[simp] theorem qNo_ok (t : Bool) : qNo h (.bool t) = .ok (.bool (!t)) h := rfl
@[simp] theorem qM1_ok (op : H → V → V → R V) (g : isLst h x = true) : qM1 c b l op (.ok x h) = qB2 op x (evE c b l h) := by
  show (if isLst h x = true then _ else _) = _
  rw [if_pos g]; rfl
@[simp] theorem qM0_ok (op : H → V → R V) (g : isLst h x = true) : qM0 op (.ok x h) = op h x := by
  show (if isLst h x = true then _ else _) = _
  rw [if_pos g]
@[simp] theorem qI1_ok (g : isLst h x = true) : qI1 c i b l (.ok x h) = qI2 c b l x (evE c i l h) := by
  show (if isLst h x = true then _ else _) = _
  rw [if_pos g]; rfl
@[simp] theorem qI2_ok : qI2 c b l x (.ok y h) = qI3 x y (evE c b l h) := rfl
@[simp] theorem qI3_ok (z : V) : qI3 x y (.ok z h) = insertV h x y z := rfl
@[simp] theorem qC_ok (f : Nat) : qC c f (.ok vs h) = c.call f vs h := rfl
@[simp] theorem qC_ok' (fu : Nat) (g : Nat → List V → H → R V) (f : Nat) : qC ⟨fu, g⟩ f (.ok vs h) = g f vs h := rfl
@[simp] theorem qA_ok (mk : List V → Cell) : qA mk (.ok vs h) = alloc (mk vs) h := rfl
@[simp] theorem qL1_ok : qL1 c es l (.ok x h) = qL2 x (evEs c es l h) := rfl
@[simp] theorem qL2_ok : qL2 x (.ok vs h) = .ok (x :: vs) h := rfl
@[simp] theorem qC_exc (f : Nat) : qC c f (.exc h) = .exc h := rfl
@[simp] theorem qU_exc (op : H → V → R V) : qU op (.exc h) = .exc h := rfl
@[simp] theorem qT1_ok (o1 o2 : Cop) : qT1 c o1 o2 b d l (.ok x h) = qT2 c o1 o2 d l x (evE c b l h) := rfl
@[simp] theorem qT2_ok (o1 o2 : Cop) : qT2 c o1 o2 d l x (.ok y h) = qT3 c o2 d l y (cmpV o1 h x y) := rfl
@[simp] theorem qT3_t (o2 : Cop) : qT3 c o2 d l y (.ok (.bool true) h) = qB2 (cmpV o2) y (evE c d l h) := rfl
@[simp] theorem qT3_f (o2 : Cop) : qT3 c o2 d l y (.ok (.bool false) h) = .ok (.bool false) h := rfl
@[simp] theorem qD_t : qD c es l (.ok (.bool true) h) = evAnd c es l h := rfl
@[simp] theorem qD_f : qD c es l (.ok (.bool false) h) = .ok (.bool false) h := rfl
@[simp] theorem qO_t : qO c es l (.ok (.bool true) h) = .ok (.bool true) h := rfl
@[simp] theorem qO_f : qO c es l (.ok (.bool false) h) = evOr c es l h := rfl
@[simp] theorem k_eq (i j : Int) : cmpV .eq h (.int i) (.int j) = .ok (.bool (decide (i = j))) h := rfl
@[simp] theorem k_ne (i j : Int) : cmpV .ne h (.int i) (.int j) = .ok (.bool (!decide (i = j))) h := rfl
@[simp] theorem k_lt (i j : Int) : cmpV .lt h (.int i) (.int j) = .ok (.bool (decide (i < j))) h := rfl
@[simp] theorem k_le (i j : Int) : cmpV .le h (.int i) (.int j) = .ok (.bool (decide (i ≤ j))) h := rfl
@[simp] theorem k_gt (i j : Int) : cmpV .gt h (.int i) (.int j) = .ok (.bool (decide (i > j))) h := rfl
@[simp] theorem k_is1 (m : Nat) : cmpV .isNot h (.ref m) .none = .ok (.bool true) h := rfl
@[simp] theorem k_is0 : cmpV .isNot h .none .none = .ok (.bool false) h := rfl
@[simp] theorem k_ge (i j : Int) : cmpV .ge h (.int i) (.int j) = .ok (.bool (decide (i ≥ j))) h := rfl
end
theorem cEq {h : H} {a b : V} {r : Bool} (e : eqV 9 h a b = some r) : cmpV .eq h a b = .ok (.bool r) h := by dsimp only [cmpV]; rw [e]; rfl
/-! statements -/
noncomputable def qAs (x : Nat) (l : Loc) (r : R V) : F := toF l r fun v h => .nxt (l.set x v) h
noncomputable def qA2 (x y : Nat) (l : Loc) (r : R V) : F := toF l r fun v h => match unpair h v with
      | some (a, b) => .nxt ((l.set x a).set y b) h
      | Option.none => .fail
noncomputable def qA2m (x y : Nat) (l : Loc) (h : H) : Option (V × V) → F
  | some (a, b) => .nxt ((l.set x a).set y b) h
  | Option.none => .fail
noncomputable def qSa1 (c : Ctx) (a : E) (f : Fld) (l : Loc) (r : R V) : F := toF l (r.bind fun v h => (evE c a l h).bind fun o h => setAttrV h f v o) fun _ h => .nxt l h
noncomputable def qSa2 (f : Fld) (l : Loc) (v : V) (r : R V) : F := toF l (r.bind fun o h => setAttrV h f v o) fun _ h => .nxt l h
noncomputable def qSi1 (c : Ctx) (a i : E) (l : Loc) (r : R V) : F := toF l (r.bind fun v h => (evE c a l h).bind fun o h => (evE c i l h).bind fun k h => setIdxV h o k v) fun _ h => .nxt l h
noncomputable def qSi2 (c : Ctx) (i : E) (l : Loc) (v : V) (r : R V) : F := toF l (r.bind fun o h => (evE c i l h).bind fun k h => setIdxV h o k v) fun _ h => .nxt l h
noncomputable def qSi3 (l : Loc) (v o : V) (r : R V) : F := toF l (r.bind fun k h => setIdxV h o k v) fun _ h => .nxt l h
noncomputable def qEx (l : Loc) (r : R V) : F := toF l r fun _ h => .nxt l h
noncomputable def qRt (l : Loc) (r : R V) : F := toF l r fun v h => .ret v h
noncomputable def qIt (c : Ctx) (t f : Ss) (l : Loc) (r : R V) : F := toF l r fun v h => match v with
      | .bool true => evSs c t l h
      | .bool false => evSs c f l h
      | _ => .fail
noncomputable def qSq (c : Ctx) (r : Ss) (f : F) : F := match f with
      | .nxt l' h' => evSs c r l' h'
      | x => x
noncomputable def qTr (c : Ctx) (x y : Nat) (f : F) : F := match f with
      | .exc l' h' => toF l' (evE c (tailE x y) l' h') fun v h => .ret v h
      | r => r
section
variable (c : Ctx) (a b d i e : E) (s : S) (t f r : Ss) (l : Loc) (h : H) (v o k : V) (x y : Nat)
@[simp] theorem q_assign : evS c (.assign x e) l h = qAs x l (evE c e l h) := rfl
@[simp] theorem q_assign2 : evS c (.assign2 x y e) l h = qA2 x y l (evE c e l h) := rfl
@[simp] theorem q_setAttr (g : Fld) : evS c (.setAttr a g e) l h = qSa1 c a g l (evE c e l h) := rfl
@[simp] theorem q_setIdx : evS c (.setIdx a i e) l h = qSi1 c a i l (evE c e l h) := rfl
@[simp] theorem q_expr : evS c (.expr e) l h = qEx l (evE c e l h) := rfl
@[simp] theorem q_ret : evS c (.ret e) l h = qRt l (evE c e l h) := rfl
@[simp] theorem q_ite : evS c (.ite d t f) l h = qIt c t f l (evE c d l h) := rfl
@[simp] theorem q_raise : evS c .raise l h = .exc l h := rfl
@[simp] theorem q_try : evS c (.tryB t x y) l h = qTr c x y (evSs c t l h) := rfl
@[simp] theorem q_ss0 : evSs c .nil l h = .nxt l h := rfl
@[simp] theorem q_ss1 : evSs c (.cons s r) l h = qSq c r (evS c s l h) := rfl
@[simp] theorem qAs_ok : qAs x l (.ok v h) = .nxt (l.set x v) h := rfl
@[simp] theorem qAs_exc : qAs x l (.exc h) = .exc l h := rfl
@[simp] theorem qA2_ok : qA2 x y l (.ok v h) = qA2m x y l h (unpair h v) := by
  show (match unpair h v with | some (a, b) => F.nxt ((l.set x a).set y b) h | Option.none => F.fail) = _
  cases unpair h v with
  | none => rfl
  | some p => rfl
@[simp] theorem qA2m_ok : qA2m x y l h (some (o, k)) = .nxt ((l.set x o).set y k) h := rfl
@[simp] theorem qSa1_ok (g : Fld) : qSa1 c a g l (.ok v h) = qSa2 g l v (evE c a l h) := rfl
@[simp] theorem qSa2_ok (g : Fld) : qSa2 g l v (.ok o h) = qEx l (setAttrV h g v o) := rfl
@[simp] theorem qSi1_ok : qSi1 c a i l (.ok v h) = qSi2 c i l v (evE c a l h) := rfl
@[simp] theorem qSi2_ok : qSi2 c i l v (.ok o h) = qSi3 l v o (evE c i l h) := rfl
@[simp] theorem qSi3_ok : qSi3 l v o (.ok k h) = qEx l (setIdxV h o k v) := rfl
@[simp] theorem qEx_ok : qEx l (.ok v h) = .nxt l h := rfl
@[simp] theorem qEx_exc : qEx l (.exc h) = .exc l h := rfl
@[simp] theorem qRt_ok : qRt l (.ok v h) = .ret v h := rfl
@[simp] theorem qIt_t : qIt c t f l (.ok (.bool true) h) = evSs c t l h := rfl
@[simp] theorem qIt_f : qIt c t f l (.ok (.bool false) h) = evSs c f l h := rfl
@[simp] theorem qSq_nxt : qSq c r (.nxt l h) = evSs c r l h := rfl
@[simp] theorem qSq_ret : qSq c r (.ret v h) = .ret v h := rfl
@[simp] theorem qSq_exc : qSq c r (.exc l h) = .exc l h := rfl
@[simp] theorem qTr_nxt : qTr c x y (.nxt l h) = .nxt l h := rfl
@[simp] theorem qTr_ret : qTr c x y (.ret v h) = .ret v h := rfl
@[simp] theorem qTr_exc : qTr c x y (.exc l h) = qRt l (evE c (.not (.cmp2 .le .lt (.int 0) (.var x) (.len (.var y)))) l h) := rfl
@[simp] theorem q_set : (l.set x v) y = if y = x then some v else l y := rfl
@[simp] theorem q_params (vs : List V) : params vs x = vs[x]? := rfl
end
noncomputable def qG3 (x : Nat) (l : Loc) (r : R V) : F := toF l r fun r h => (match r with | .int i => .nxt (l.set x (.int i)) h | _ => .fail)
noncomputable def qG2 (x : Nat) (l : Loc) (v : V) (r : R V) : F := toF l (r.bind fun w h => binV .add h v w) fun r h => (match r with | .int i => .nxt (l.set x (.int i)) h | _ => .fail)
noncomputable def qG1 (c : Ctx) (x : Nat) (e : E) (l : Loc) (h : H) (o : Option V) : F := match o with
      | some v => toF l ((evE c e l h).bind fun w h => binV .add h v w) fun r h => (match r with | .int i => .nxt (l.set x (.int i)) h | _ => .fail)
      | Option.none => .fail
@[simp] theorem q_aug (c : Ctx) (x : Nat) (e : E) (l : Loc) (h : H) : evS c (.aug x e) l h = qG1 c x e l h (l x) := rfl
@[simp] theorem qG1_ok (c : Ctx) (x : Nat) (e : E) (l : Loc) (h : H) (v : V) : qG1 c x e l h (some v) = qG2 x l v (evE c e l h) := rfl
@[simp] theorem qG2_ok (x : Nat) (l : Loc) (v w : V) (h : H) : qG2 x l v (.ok w h) = qG3 x l (binV .add h v w) := rfl
@[simp] theorem qG3_ok (x : Nat) (l : Loc) (i : Int) (h : H) : qG3 x l (.ok (.int i) h) = .nxt (l.set x (.int i)) h := rfl
end MineB
end

section
namespace MineB
open Mine
noncomputable def toR (f : F) : R V := match f with
  | .ret v h' => .ok v h'
  | .nxt _ h' => .ok .none h'
  | .exc _ h' => .exc h'
  | .fail => .fail
theorem callN_eq (fu n f : Nat) (vs : List V) (h : H) (k : Nat) (b : Ss) (hk : fnArity[f]? = some k) (hb : fnBody[f]? = some b) (hl : vs.length = k) :
    callN fu (n + 1) f vs h = toR (evSs ⟨fu, callN fu n⟩ b (params vs) h) := by
  dsimp only [callN]; rw [hk, hb]; dsimp only; rw [if_pos hl]; rfl
@[simp] theorem bind_ok {α β : Type} (a : α) (h : H) (f : α → H → R β) : (R.ok a h).bind f = f a h := rfl
@[simp] theorem bind_exc {α β : Type} (h : H) (f : α → H → R β) : (R.exc h : R α).bind f = .exc h := rfl
@[simp] theorem toF_ok (l : Loc) (v : V) (h : H) (k : V → H → F) : toF l (.ok v h) k = k v h := rfl
@[simp] theorem toF_exc (l : Loc) (h : H) (k : V → H → F) : toF l (.exc h) k = .exc l h := rfl
@[simp] theorem toR_ret (v : V) (h : H) : toR (.ret v h) = .ok v h := rfl
@[simp] theorem toR_nxt (l : Loc) (h : H) : toR (.nxt l h) = .ok .none h := rfl
@[simp] theorem toR_exc (l : Loc) (h : H) : toR (.exc l h) = .exc h := rfl
theorem ss_nxt {c : Ctx} {s : S} {r : Ss} {l l' : Loc} {h h' : H} (e : evS c s l h = .nxt l' h') : evSs c (.cons s r) l h = evSs c r l' h' := by
  dsimp only [evSs]; rw [e]
theorem ss_ret {c : Ctx} {s : S} {r : Ss} {l : Loc} {v : V} {h h' : H} (e : evS c s l h = .ret v h') : evSs c (.cons s r) l h = .ret v h' := by
  dsimp only [evSs]; rw [e]
section
variable {c : Ctx} {a b : E} {l : Loc} {h h1 h2 h3 h4 : H} {x y z w : V}
theorem x_var {n : Nat} (e : l n = some x) : evE c (.var n) l h = .ok x h := by
  show (match l n with | some v => R.ok v h | Option.none => R.fail) = _
  rw [e]
theorem x_attr {f : Fld} (ha : evE c a l h = .ok x h1) (k : attrV h1 f x = .ok y h2) : evE c (.attr a f) l h = .ok y h2 := by
  show (evE c a l h).bind _ = _
  rw [ha]; exact k
theorem x_idx (ha : evE c a l h = .ok x h1) (hb : evE c b l h1 = .ok y h2) (k : idxV h2 x y = .ok z h3) : evE c (.idx a b) l h = .ok z h3 := by
  show (evE c a l h).bind _ = _
  rw [ha, bind_ok, hb]; exact k
theorem x_len (ha : evE c a l h = .ok x h1) (k : lenV h1 x = .ok y h2) : evE c (.len a) l h = .ok y h2 := by
  show (evE c a l h).bind _ = _
  rw [ha]; exact k
theorem x_args1 (ha : evE c a l h = .ok x h1) : evEs c (.cons a .nil) l h = .ok [x] h1 := by
  show (evE c a l h).bind _ = _
  rw [ha]; rfl
theorem x_args {es : Es} {vs : List V} (ha : evE c a l h = .ok x h1) (hs : evEs c es l h1 = .ok vs h2) : evEs c (.cons a es) l h = .ok (x :: vs) h2 := by
  show (evE c a l h).bind _ = _
  rw [ha, bind_ok, hs]; rfl
theorem x_call {f : Nat} {es : Es} {vs : List V} {r : R V} (ha : evEs c es l h = .ok vs h1) (k : c.call f vs h1 = r) : evE c (.call f es) l h = r := by
  show (evEs c es l h).bind _ = _
  rw [ha]; exact k
theorem x_not {t : Bool} (ha : evE c a l h = .ok (.bool t) h1) : evE c (.not a) l h = .ok (.bool !t) h1 := by
  show (evE c a l h).bind _ = _
  rw [ha]; rfl
theorem x_lst {es : Es} {vs : List V} (ha : evEs c es l h = .ok vs h1) : evE c (.lst es) l h = .ok (.ref h1.length) (h1 ++ [.lst vs]) := by
  show (evEs c es l h).bind _ = _
  rw [ha]; rfl
theorem x_cut {r : R V} (ha : evE c a l h = .ok x h1) (hb : evE c b l h1 = .ok y h2) (k : cutV h2 x y = r) : evE c (.cut a b) l h = r := by
  show (evE c a l h).bind _ = _
  rw [ha, bind_ok, hb]; exact k
theorem x_cmp2 {o1 o2 : Cop} {d : E} {r : R V} (ha : evE c a l h = .ok x h1) (hb : evE c b l h1 = .ok y h2) (k1 : cmpV o1 h2 x y = .ok (.bool true) h3) (hd : evE c d l h3 = .ok z h4) (k2 : cmpV o2 h4 y z = r) : evE c (.cmp2 o1 o2 a b d) l h = r := by
  show (evE c a l h).bind _ = _
  rw [ha, bind_ok, hb, bind_ok, k1, bind_ok, hd]; exact k2
theorem and_t {es : Es} {r : R V} (ha : evE c a l h = .ok (.bool true) h1) (k : evAnd c es l h1 = r) : evAnd c (.cons a es) l h = r := by
  show (evE c a l h).bind _ = _
  rw [ha]; exact k
theorem and_f {es : Es} (ha : evE c a l h = .ok (.bool false) h1) : evAnd c (.cons a es) l h = .ok (.bool false) h1 := by
  show (evE c a l h).bind _ = _
  rw [ha]; rfl
theorem and_b {es : Es} {t u : Bool} (ha : evE c a l h = .ok (.bool t) h1) (k : evAnd c es l h1 = .ok (.bool u) h1) : evAnd c (.cons a es) l h = .ok (.bool (t && u)) h1 := by
  cases t
  · exact and_f ha
  · exact and_t ha k
theorem and_1 {t : Bool} (ha : evE c a l h = .ok (.bool t) h1) : evAnd c (.cons a .nil) l h = .ok (.bool t) h1 := by
  cases t
  · exact and_f ha
  · exact and_t ha rfl
theorem or_f {es : Es} {r : R V} (ha : evE c a l h = .ok (.bool false) h1) (k : evOr c es l h1 = r) : evOr c (.cons a es) l h = r := by
  show (evE c a l h).bind _ = _
  rw [ha]; exact k
theorem x_band {es : Es} {r : R V} (k : evAnd c es l h = r) : evE c (.band es) l h = r := k
theorem x_bor {es : Es} {r : R V} (k : evOr c es l h = r) : evE c (.bor es) l h = r := k
theorem x_rev {r : R V} (ha : evE c a l h = .ok x h1) (k : revV h1 x = r) : evE c (.rev a) l h = r := by
  show (evE c a l h).bind _ = _
  rw [ha]; exact k
theorem x_comp {t : Bool} {r : R V} (ha : evE c a l h = .ok x h1) (k : compV c t (fun _ h => .ok (.bool true) h) (evE c b) x h1 = r) : evE c (.comp b t a) l h = r := by
  show (evE c a l h).bind _ = _
  rw [ha]; exact k
theorem x_compIf {t : Bool} {d : E} {r : R V} (ha : evE c a l h = .ok x h1) (k : compV c t (evE c d) (evE c b) x h1 = r) : evE c (.compIf b t a d) l h = r := by
  show (evE c a l h).bind _ = _
  rw [ha]; exact k
theorem x_max1 {r : R V} (ha : evE c a l h = .ok x h1) (k : max1V h1 x = r) : evE c (.max1 a) l h = r := by
  show (evE c a l h).bind _ = _
  rw [ha]; exact k
theorem s_assign2 {i j : Nat} (ha : evE c a l h = .ok x h1) (k : unpair h1 x = some (y, z)) : evS c (.assign2 i j a) l h = .nxt ((l.set i y).set j z) h1 := by
  show toF l (evE c a l h) _ = _
  rw [ha, toF_ok, k]
theorem x_ext {r : R V} (ha : evE c a l h = .ok x h1) (is : isLst h1 x = true) (hb : evE c b l h1 = .ok y h2) (k : extendV h2 x y = r) : evE c (.extend a b) l h = r := by
  show (evE c a l h).bind _ = _
  rw [ha, bind_ok, if_pos is, hb]; exact k
theorem x_tup {es : Es} {vs : List V} (ha : evEs c es l h = .ok vs h1) : evE c (.tup es) l h = .ok (.ref h1.length) (h1 ++ [.tup vs]) := by
  show (evEs c es l h).bind _ = _
  rw [ha]; rfl
theorem x_new {r : R V} (ha : evE c a l h = .ok x h1) (hb : evE c b l h1 = .ok y h2) (k : newV c h2 x y = r) : evE c (.new a b) l h = r := by
  show (evE c a l h).bind _ = _
  rw [ha, bind_ok, hb]; exact k
theorem x_divmod {r : R V} (ha : evE c a l h = .ok x h1) (hb : evE c b l h1 = .ok y h2) (k : divmodV h2 x y = r) : evE c (.divmod a b) l h = r := by
  show (evE c a l h).bind _ = _
  rw [ha, bind_ok, hb]; exact k
theorem x_count {r : R V} (ha : evE c a l h = .ok x h1) (is : isLst h1 x = true) (hb : evE c b l h1 = .ok y h2) (k : countV h2 x y = r) : evE c (.count a b) l h = r := by
  show (evE c a l h).bind _ = _
  rw [ha, bind_ok, if_pos is, hb]; exact k
theorem s_assign {n : Nat} (e : evE c a l h = .ok x h1) : evS c (.assign n a) l h = .nxt (l.set n x) h1 := by
  show toF l (evE c a l h) _ = _
  rw [e]; rfl
theorem s_expr (e : evE c a l h = .ok x h1) : evS c (.expr a) l h = .nxt l h1 := by
  show toF l (evE c a l h) _ = _
  rw [e]; rfl
theorem s_ret (e : evE c a l h = .ok x h1) : evS c (.ret a) l h = .ret x h1 := by
  show toF l (evE c a l h) _ = _
  rw [e]; rfl
theorem s_forL {n m : Nat} {t : Ss} (e : evE c a l h = .ok (.ref m) h1) : evS c (.forL n a t) l h = forN n m (evSs c t) c.fu 0 l h1 := by
  show toF l (evE c a l h) _ = _
  rw [e]; rfl
theorem s_setIdx {d : E} (he : evE c d l h = .ok z h1) (ha : evE c a l h1 = .ok x h2) (hb : evE c b l h2 = .ok y h3) (k : setIdxV h3 x y z = .ok w h4) : evS c (.setIdx a b d) l h = .nxt l h4 := by
  show toF l ((evE c d l h).bind _) _ = _
  rw [he, bind_ok, ha, bind_ok, hb, bind_ok, k]; rfl
theorem ap_ok (ha : evE c a l h = .ok x h1) (is : isLst h1 x = true) (hb : evE c b l h1 = .ok y h2) (ap : appendV h2 x y = .ok z h3) : evS c (.expr (.append a b)) l h = .nxt l h3 := by
  show toF l ((evE c a l h).bind _) _ = _
  rw [ha, bind_ok, if_pos is, hb, bind_ok, ap]; rfl
theorem e_cmp {o : Cop} (ha : evE c a l h = .ok x h1) (hb : evE c b l h1 = .ok y h2) {r : R V} (k : cmpV o h2 x y = r) : evE c (.cmp o a b) l h = r := by
  show (evE c a l h).bind _ = _
  rw [ha, bind_ok, hb, bind_ok]; exact k
theorem e_bin {o : Bop} (ha : evE c a l h = .ok x h1) (hb : evE c b l h1 = .ok y h2) {r : R V} (k : binV o h2 x y = r) : evE c (.bin o a b) l h = r := by
  show (evE c a l h).bind _ = _
  rw [ha, bind_ok, hb, bind_ok]; exact k
theorem s_ite {t f : Ss} (ha : evE c a l h = .ok (.bool true) h1) : evS c (.ite a t f) l h = evSs c t l h1 := by
  show toF l (evE c a l h) _ = _
  rw [ha]; rfl
theorem s_else {t f : Ss} (ha : evE c a l h = .ok (.bool false) h1) : evS c (.ite a t f) l h = evSs c f l h1 := by
  show toF l (evE c a l h) _ = _
  rw [ha]; rfl
end
theorem rng_nxt {x n : Nat} {b : Loc → H → F} {i : Int} {l l' : Loc} {h h' : H} (e : b (l.set x (.int i)) h = .nxt l' h') : rangeN x b (n + 1) i l h = rangeN x b n (i + 1) l' h' := by
  dsimp only [rangeN]; rw [e]
theorem sm_len {n : Nat} (h : n ≤ ML) : sm (n : Int) := by
  have h' : n ≤ 16777216 := h
  unfold sm; lia
theorem forR1_eq {c : Ctx} {x : Nat} {e : E} {b : Ss} {l : Loc} {h h' : H} {n : Nat} (he : evE c e l h = .ok (.int n) h') (hn : n ≤ ML) :
    evS c (.forR1 x e b) l h = rangeN x (evSs c b) n 0 l h' := by
  dsimp only [evS]; rw [he]
  simp only [toF_ok]
  rw [if_pos (sm_len hn), Int.toNat_natCast]
theorem p123 {p : Nat} (h1 : 1 ≤ p) (h3 : p ≤ 3) : p = 1 ∨ p = 2 ∨ p = 3 := by lia
theorem attr_ok {h : H} {a : Nat} {fs : List (Fld × V)} {f : Fld} {v : V} (e : h[a]? = some (.node fs)) (k : lk f fs = some v) : attrV h f (.ref a) = .ok v h := by
  dsimp only [attrV]; rw [e]; dsimp only; rw [k]
theorem gL_ok {h : H} {a : Nat} {vs : List V} (e : h[a]? = some (.lst vs)) : gL h (.ref a) = some (a, vs) := by dsimp only [gL]; rw [e]
theorem gLT_ok {h : H} {a : Nat} {vs : List V} (e : h[a]? = some (.lst vs)) : getLT h (.ref a) = some vs := by dsimp only [getLT]; rw [e]
theorem idx_ok {h : H} {a q : Nat} {vs : List V} {v : V} (e : h[a]? = some (.lst vs)) (k : vs[q]? = some v) : idxV h (.ref a) (.int q) = .ok v h := by
  dsimp only [idxV]; rw [gLT_ok e]; dsimp only; rw [if_pos (Int.natCast_nonneg q), Int.toNat_natCast, k]
theorem idx_tok {h : H} {a q : Nat} {vs : List V} {v : V} (e : h[a]? = some (.tup vs)) (k : vs[q]? = some v) : idxV h (.ref a) (.int q) = .ok v h := by
  have e1 : getLT h (.ref a) = some vs := by dsimp only [getLT]; rw [e]
  dsimp only [idxV]; rw [e1]; dsimp only; rw [if_pos (Int.natCast_nonneg q), Int.toNat_natCast, k]
theorem unpair_ok {h : H} {a : Nat} {x y : V} (e : h[a]? = some (.tup [x, y])) : unpair h (.ref a) = some (x, y) := by dsimp only [unpair]; rw [e]
theorem c_t {p : Prop} [Decidable p] {h : H} (e : p) : (R.ok (V.bool (decide p)) h : R V) = .ok (.bool true) h := by rw [decide_eq_true e]
theorem c_f {p : Prop} [Decidable p] {h : H} (e : ¬ p) : (R.ok (V.bool (decide p)) h : R V) = .ok (.bool false) h := by rw [decide_eq_false e]
theorem c_nf {p : Prop} [Decidable p] {h : H} (e : p) : (R.ok (V.bool (!decide p)) h : R V) = .ok (.bool false) h := by rw [decide_eq_true e]; rfl
theorem c_eqt {h : H} {i j : Int} (e : i = j) : cmpV .eq h (.int i) (.int j) = .ok (.bool true) h := c_t e
theorem c_eqf {h : H} {i j : Int} (e : i ≠ j) : cmpV .eq h (.int i) (.int j) = .ok (.bool false) h := c_f e
theorem c_gtt {h : H} {i j : Int} (e : i > j) : cmpV .gt h (.int i) (.int j) = .ok (.bool true) h := c_t e
theorem c_gtf {h : H} {i j : Int} (e : ¬ i > j) : cmpV .gt h (.int i) (.int j) = .ok (.bool false) h := c_f e
theorem set_set (l : Loc) (x : Nat) (v w : V) (y : Nat) : ((l.set x v).set x w) y = (l.set x w) y := by
  show (if y = x then some w else if y = x then some v else l y) = if y = x then some w else l y
  by_cases e : y = x
  · rw [if_pos e, if_pos e]
  · rw [if_neg e, if_neg e, if_neg e]
theorem bin_add {h : H} {i j : Int} (a : sm i) (b : sm j) : binV .add h (.int i) (.int j) = .ok (.int (i + j)) h := if_pos ⟨a, b⟩
theorem bin_sub {h : H} {i j : Int} (a : sm i) (b : sm j) : binV .sub h (.int i) (.int j) = .ok (.int (i - j)) h := if_pos ⟨a, b⟩
theorem cmp_eq {h : H} {a b : V} {r : Bool} (e : eqV 9 h a b = some r) : cmpV .eq h a b = .ok (.bool r) h := by dsimp only [cmpV]; rw [e]; rfl
theorem cmp_ne {h : H} {a b : V} {r : Bool} (e : eqV 9 h a b = some r) : cmpV .ne h a b = .ok (.bool !r) h := by dsimp only [cmpV]; rw [e]; rfl
theorem len_ok {h : H} {a : Nat} {vs : List V} (e : h[a]? = some (.lst vs)) : lenV h (.ref a) = .ok (.int vs.length) h := by dsimp only [lenV]; rw [gL_ok e]
theorem isL_ok {h : H} {a : Nat} {vs : List V} (e : h[a]? = some (.lst vs)) : isLst h (.ref a) = true := by dsimp only [isLst]; rw [gL_ok e]; rfl
theorem fuN {c N : Nat} (h : c + 1 ≤ N) : ∃ n, N = n + 1 ∧ c ≤ n := ⟨N - 1, by lia, by lia⟩
/-! one list of a node -/
noncomputable def lab (S : Sd) (i : Id) : Nat → List Int
  | 1 => (S.a.re i).r
  | 2 => (S.a.re i).n
  | _ => (S.a.re i).b
section
variable {nd : Bool} {S : Sd} {h : H} {i : Id}
theorem Ok.kids (o : Ok nd S h) (hi : i ∈ S.ids) : h[S.A i 4]? = some (.lst ((S.a.re i).kids.map fun k => .ref (S.A k 0))) := o.c i hi 4 (by lia)
theorem Ok.lab (o : Ok nd S h) (hi : i ∈ S.ids) {p : Nat} (h1 : 1 ≤ p) (h3 : p ≤ 3) : h[S.A i p]? = some (.lst ((lab S i p).map V.int)) := by
  rcases p123 h1 h3 with rfl | rfl | rfl
  · exact o.c i hi 1 (by decide)
  · exact o.c i hi 2 (by decide)
  · exact o.c i hi 3 (by decide)
theorem Ok.n0 (o : Ok true S h) (hi : i ∈ S.ids) : h[S.A i 0]? = some (cell true S i 0) := o.c i hi 0 (by lia)
theorem Ok.l0 (o : Ok false S h) (hi : i ∈ S.ids) : h[S.A i 0]? = some (cell false S i 0) := o.c i hi 0 (by lia)
theorem Ok.gkids (o : Ok nd S h) (hi : i ∈ S.ids) : gL h (.ref (S.A i 4)) = some (S.A i 4, (S.a.re i).kids.map fun k => .ref (S.A k 0)) := gL_ok (o.kids hi)
theorem Ok.amove (o : Ok true S h) (hi : i ∈ S.ids) : attrV h .move (.ref (S.A i 0)) = .ok (.int (mv i)) h := attr_ok (o.n0 hi) rfl
theorem Ok.aparent (o : Ok true S h) (hi : i ∈ S.ids) : attrV h .parent (.ref (S.A i 0)) = .ok (if S.a.att i then .ref (S.A (up i) 0) else .none) h := attr_ok (o.n0 hi) rfl
theorem Ok.aword (o : Ok true S h) (hi : i ∈ S.ids) : attrV h .word (.ref (S.A i 0)) = .ok .str h := attr_ok (o.n0 hi) rfl
theorem Ok.avar (o : Ok true S h) (hi : i ∈ S.ids) : attrV h .variations (.ref (S.A i 0)) = .ok (.ref (S.A i 4)) h := attr_ok (o.n0 hi) rfl
theorem Ok.arem (o : Ok true S h) (hi : i ∈ S.ids) : attrV h .remarks (.ref (S.A i 0)) = .ok (.ref (S.A i 1)) h := attr_ok (o.n0 hi) rfl
theorem Ok.anag (o : Ok true S h) (hi : i ∈ S.ids) : attrV h .nags (.ref (S.A i 0)) = .ok (.ref (S.A i 2)) h := attr_ok (o.n0 hi) rfl
theorem Ok.abef (o : Ok true S h) (hi : i ∈ S.ids) : attrV h .before (.ref (S.A i 0)) = .ok (.ref (S.A i 3)) h := attr_ok (o.n0 hi) rfl
theorem Ok.imove (o : Ok false S h) (hi : i ∈ S.ids) : idxV h (.ref (S.A i 0)) (.int 0) = .ok (.int (mv i)) h := idx_ok (q := 0) (o.l0 hi) rfl
theorem Ok.ikids (o : Ok false S h) (hi : i ∈ S.ids) : idxV h (.ref (S.A i 0)) (.int 4) = .ok (.ref (S.A i 4)) h := idx_ok (q := 4) (o.l0 hi) rfl
theorem Ok.ilab (o : Ok false S h) (hi : i ∈ S.ids) {p : Nat} (h1 : 1 ≤ p) (h3 : p ≤ 3) : idxV h (.ref (S.A i 0)) (.int p) = .ok (.ref (S.A i p)) h := by
  refine idx_ok (o.l0 hi) ?_
  rcases p123 h1 h3 with rfl | rfl | rfl <;> rfl
theorem Ok.ikid (o : Ok nd S h) (hi : i ∈ S.ids) {q : Nat} {k : Id} (hq : (S.a.re i).kids[q]? = some k) :
    idxV h (.ref (S.A i 4)) (.int q) = .ok (.ref (S.A k 0)) h := idx_ok (o.kids hi) (by rw [List.getElem?_map, hq]; rfl)
theorem Ok.lenK (o : Ok nd S h) (hi : i ∈ S.ids) : lenV h (.ref (S.A i 4)) = .ok (.int (S.a.re i).kids.length) h := by rw [len_ok (o.kids hi), List.length_map]
theorem Ok.isK (o : Ok nd S h) (hi : i ∈ S.ids) : isLst h (.ref (S.A i 4)) = true := isL_ok (o.kids hi)
theorem Ok.isL (o : Ok nd S h) (hi : i ∈ S.ids) {p : Nat} (h1 : 1 ≤ p) (h3 : p ≤ 3) : isLst h (.ref (S.A i p)) = true := isL_ok (o.lab hi h1 h3)
end
/-! the first way with a move -/
noncomputable def fidx : List Id → Int → Option Nat
  | [], _ => none
  | k :: ks, v => if mv k = v then some 0 else (fidx ks v).map (· + 1)
noncomputable def fwV (ks : List Id) (v : Int) : Int := match fidx ks v with | some q => q | none => -1
theorem fidx_some : ∀ {ks : List Id} {v : Int} {q : Nat}, fidx ks v = some q → ∃ k, ks[q]? = some k ∧ mv k = v := by
  intro ks; induction ks with
  | nil => intro v q e; cases e
  | cons k ks ih =>
    intro v q e
    dsimp only [fidx] at e
    split at e
    · cases e; exact ⟨k, rfl, ‹_›⟩
    · cases g : fidx ks v with
      | none => rw [g] at e; cases e
      | some p => rw [g] at e; cases e; exact ih g
theorem fidx_none : ∀ {ks : List Id} {v : Int}, fidx ks v = none → ∀ k ∈ ks, mv k ≠ v := by
  intro ks; induction ks with
  | nil => intro v e k hk; cases hk
  | cons k ks ih =>
    intro v e
    dsimp only [fidx] at e
    split at e
    · cases e
    · cases g : fidx ks v with
      | none => intro j hj; rcases List.mem_cons.1 hj with rfl | hj; assumption; exact ih g j hj
      | some p => rw [g] at e; cases e
theorem range_find (b : Loc → H → F) (h : H) (I : Loc → Prop) (x : Nat) (ks : List Id) (v : Int) :
    ∀ (m j : Nat), j + m = ks.length →
    (∀ (q : Nat) (k : Id) (l : Loc), ks[q]? = some k → I l → ∃ l', I l' ∧ b (l.set x (.int q)) h = if mv k = v then .ret (.int q) h else .nxt l' h) →
    ∀ l, I l → ∃ l', I l' ∧ rangeN x b m j l h = match fidx (ks.drop j) v with | some q => .ret (.int (j + q : Nat)) h | none => .nxt l' h := by
  intro m; induction m with
  | zero =>
    intro j hj hb l hl
    refine ⟨l, hl, ?_⟩
    rw [List.drop_of_length_le (by lia)]; rfl
  | succ m ih =>
    intro j hj hb l hl
    have hlt : j < ks.length := by lia
    obtain ⟨l', hl', e⟩ := hb j ks[j] l (List.getElem?_eq_getElem hlt) hl
    rw [List.drop_eq_getElem_cons hlt]; dsimp only [fidx, rangeN]; rw [e]
    by_cases g : mv ks[j] = v
    · refine ⟨l', hl', ?_⟩
      rw [if_pos g, if_pos g]; rfl
    · rw [if_neg g, if_neg g]
      obtain ⟨l'', hl'', e''⟩ := ih (j + 1) (by lia) hb l' hl'
      refine ⟨l'', hl'', ?_⟩
      have : ((j : Int) + 1) = ((j + 1 : Nat) : Int) := by lia
      show rangeN x b m ((j : Int) + 1) l' h = _
      rw [this, e'']
      cases fidx (List.drop (j + 1) ks) v with
      | none => rfl
      | some q => simp only [Option.map]; congr 2; lia
theorem find_way_ok {S h i} (o : Ok true S h) (hi : i ∈ S.ids) (v : Int) (fu : Nat) {N : Nat} (hN : 1 ≤ N) (hs : (S.a.re i).kids.length ≤ ML) :
    callN fu N 6 [.ref (S.A i 0), .int v] h = .ok (.int (fwV (S.a.re i).kids v)) h := by
  obtain ⟨n, rfl, -⟩ := fuN hN
  rw [callN_eq (k := 2) (b := b_find_way) (hk := rfl) (hb := rfl) (hl := rfl)]
  obtain ⟨l', _, e⟩ := range_find (evSs ⟨fu, callN fu n⟩ (.cons (.ite (.cmp .eq (.attr (.idx (.attr (.var 0) .variations) (.var 2)) .move) (.var 1)) (.cons (.ret (.var 2)) .nil) .nil) .nil)) h
    (fun l => l 0 = some (.ref (S.A i 0)) ∧ l 1 = some (.int v)) 2 (S.a.re i).kids v (S.a.re i).kids.length 0 (by lia) (by
      intro q k l hq ⟨l0, l1⟩
      refine ⟨l.set 2 (.int q), ⟨l0, l1⟩, ?_⟩
      have hk : k ∈ S.ids := o.cl i hi k (List.mem_of_getElem? hq)
      by_cases g : mv k = v <;> simp [g, l0, l1, o.avar hi, o.ikid hi hq, o.amove hk])
    (params [.ref (S.A i 0), .int v]) ⟨rfl, rfl⟩
  rw [b_find_way]; dsimp only [evSs]; rw [forR1_eq (n := (S.a.re i).kids.length) (h' := h) (by simp [o.avar hi, o.lenK hi]) hs]
  have e0 : ((0 : Nat) : Int) = 0 := rfl
  rw [e0] at e
  rw [e]; unfold fwV; clear e
  rw [List.drop_zero]
  cases fidx (S.a.re i).kids v <;> simp [toR]
theorem law_first_ok {S h i} (o : Ok false S h) (hi : i ∈ S.ids) (v : Int) (fu : Nat) {N : Nat} (hN : 1 ≤ N) (hs : (S.a.re i).kids.length ≤ ML) :
    callN fu N 22 [.ref (S.A i 0), .int v] h = .ok (.int (fwV (S.a.re i).kids v)) h := by
  obtain ⟨n, rfl, -⟩ := fuN hN
  rw [callN_eq (k := 2) (b := b_law_first) (hk := rfl) (hb := rfl) (hl := rfl)]
  obtain ⟨l', _, e⟩ := range_find (evSs ⟨fu, callN fu n⟩ (.cons (.ite (.cmp .eq (.idx (.idx (.idx (.var 0) (.int 4)) (.var 2)) (.int 0)) (.var 1)) (.cons (.ret (.var 2)) .nil) .nil) .nil)) h
    (fun l => l 0 = some (.ref (S.A i 0)) ∧ l 1 = some (.int v)) 2 (S.a.re i).kids v (S.a.re i).kids.length 0 (by lia) (by
      intro q k l hq ⟨l0, l1⟩
      refine ⟨l.set 2 (.int q), ⟨l0, l1⟩, ?_⟩
      have hk : k ∈ S.ids := o.cl i hi k (List.mem_of_getElem? hq)
      by_cases g : mv k = v <;> simp [g, l0, l1, o.ikids hi, o.ikid hi hq, o.imove hk])
    (params [.ref (S.A i 0), .int v]) ⟨rfl, rfl⟩
  rw [b_law_first]; dsimp only [evSs]; rw [forR1_eq (n := (S.a.re i).kids.length) (h' := h) (by simp [o.ikids hi, o.lenK hi]) hs]
  have e0 : ((0 : Nat) : Int) = 0 := rfl
  rw [e0] at e
  rw [e]; unfold fwV; clear e
  rw [List.drop_zero]
  cases fidx (S.a.re i).kids v <;> simp [toR]
end MineB
end

section
set_option linter.unusedSimpArgs false
namespace MineB
open Mine
noncomputable def nilRec : Rec := ⟨[], [], [], []⟩
noncomputable def nodeCells (m p : V) (L : Nat) : H := [.node [(.move, m), (.parent, p), (.word, .str), (.place, .int (-1)), (.variations, .ref (L + 1)), (.remarks, .ref (L + 2)), (.nags, .ref (L + 3)), (.before, .ref (L + 4))],
  .lst [], .lst [], .lst [], .lst []]
noncomputable def listCells (m : V) (L : Nat) : H := [.lst [], .lst [], .lst [], .lst [], .lst [m, .ref L, .ref (L + 1), .ref (L + 2), .ref (L + 3)]]
noncomputable def fN (L : Nat) : Nat → Nat
  | 0 => L
  | 1 => L + 2
  | 2 => L + 3
  | 3 => L + 4
  | _ => L + 1
noncomputable def fL (L : Nat) : Nat → Nat
  | 0 => L + 4
  | 1 => L
  | 2 => L + 1
  | 3 => L + 2
  | _ => L + 3
theorem get_app_len' {h r : H} {c : Cell} : (h ++ c :: r)[h.length]? = some c := get_app_len h c r
theorem set_app_len {h r : H} {c d : Cell} : (h ++ c :: r).set h.length d = h ++ d :: r := by
  rw [List.set_append_right _ _ (Nat.le_refl _), Nat.sub_self]; rfl
theorem sAt (h r : H) (fs : List (Fld × V)) (f : Fld) (v : V) (k : fs.length ≤ 20) : setAttrV (h ++ .node fs :: r) f v (.ref h.length) = .ok .none (h ++ .node (putF f v fs) :: r) := by
  dsimp only [setAttrV]; rw [get_app_len']; dsimp only; rw [if_pos k, set_app_len]
theorem sa_ok {c : Ctx} {l : Loc} {h h1 h2 h3 : H} {f : Fld} {a e : E} {v o : V} (he : evE c e l h = .ok v h1) (ha : evE c a l h1 = .ok o h2) (s : setAttrV h2 f v o = .ok .none h3) : evS c (.setAttr a f e) l h = .nxt l h3 := by
  dsimp only [evS]; rw [he, bind_ok, ha, bind_ok, s]; rfl
theorem al_ok {c : Ctx} {l : Loc} {h r : H} : evE c (.lst .nil) l (h ++ r) = .ok (.ref (h.length + r.length)) (h ++ (r ++ [.lst []])) := by
  show R.ok (V.ref (h ++ r).length) ((h ++ r) ++ [.lst []]) = _
  rw [List.length_append, List.append_assoc]
theorem init_ok (h : H) (a p : V) (fu : Nat) {N : Nat} (hN : 1 ≤ N) :
    callN fu N 0 [.ref h.length, a, p] (h ++ [.node []]) = .ok .none (h ++ nodeCells a p h.length) := by
  obtain ⟨n, rfl, -⟩ := fuN hN
  rw [callN_eq (k := 3) (b := b_init) (hk := rfl) (hb := rfl) (hl := rfl), b_init,
    ss_nxt (sa_ok rfl rfl (sAt h [] [] .move a (Nat.le_of_ble_eq_true rfl))), ss_nxt (sa_ok rfl rfl (sAt h [] _ .parent p (Nat.le_of_ble_eq_true rfl))),
    ss_nxt (sa_ok rfl rfl (sAt h [] _ .word .str (Nat.le_of_ble_eq_true rfl))), ss_nxt (sa_ok rfl rfl (sAt h [] _ .place (.int (-1)) (Nat.le_of_ble_eq_true rfl))),
    ss_nxt (sa_ok al_ok rfl (sAt h _ _ .variations _ (Nat.le_of_ble_eq_true rfl))), ss_nxt (sa_ok al_ok rfl (sAt h _ _ .remarks _ (Nat.le_of_ble_eq_true rfl))),
    ss_nxt (sa_ok al_ok rfl (sAt h _ _ .nags _ (Nat.le_of_ble_eq_true rfl))), ss_nxt (sa_ok al_ok rfl (sAt h _ _ .before _ (Nat.le_of_ble_eq_true rfl)))]
  rfl
theorem newV_ok (h : H) (a p : V) (fu : Nat) {N : Nat} (hN : 1 ≤ N) :
    newV ⟨fu, callN fu N⟩ h a p = .ok (.ref h.length) (h ++ nodeCells a p h.length) := by
  dsimp only [newV]; rw [init_ok h a p fu hN]; rfl
noncomputable def offN : Nat → Nat
  | 0 => 0
  | 1 => 2
  | 2 => 3
  | 3 => 4
  | _ => 1
noncomputable def offL : Nat → Nat
  | 0 => 4
  | 1 => 0
  | 2 => 1
  | 3 => 2
  | _ => 3
theorem fN_off (L p : Nat) : fN L p = L + offN p := by rcases p with _ | _ | _ | _ | p <;> rfl
theorem fL_off (L p : Nat) : fL L p = L + offL p := by rcases p with _ | _ | _ | _ | p <;> rfl
theorem offN_inj : ∀ p < 5, ∀ q < 5, offN p = offN q → p = q := by decide
theorem offL_inj : ∀ p < 5, ∀ q < 5, offL p = offL q → p = q := by decide
theorem fN_inj {L : Nat} : ∀ p < 5, ∀ q < 5, fN L p = fN L q → p = q := fun p hp q hq e => offN_inj p hp q hq (Nat.add_left_cancel ((fN_off L p).symm.trans (e.trans (fN_off L q))))
theorem fL_inj {L : Nat} : ∀ p < 5, ∀ q < 5, fL L p = fL L q → p = q := fun p hp q hq e => offL_inj p hp q hq (Nat.add_left_cancel ((fL_off L p).symm.trans (e.trans (fL_off L q))))
theorem all5 {P : Nat → Prop} (h0 : P 0) (h1 : P 1) (h2 : P 2) (h3 : P 3) (h4 : P 4) : ∀ p < 5, P p := fun p hp => by
  rcases p with _ | _ | _ | _ | _ | p
  · exact h0
  · exact h1
  · exact h2
  · exact h3
  · exact h4
  · exact absurd hp (by lia)
theorem all3 {P : Nat → Prop} (h1 : P 1) (h2 : P 2) (h3 : P 3) : ∀ p, 1 ≤ p → p ≤ 3 → P p := fun p a b => by
  rcases p123 a b with rfl | rfl | rfl
  · exact h1
  · exact h2
  · exact h3
theorem addA_self (S : Sd) (k : Id) (f : Nat → Nat) : (S.add k f).A k = f := funext fun _ => if_pos rfl
theorem addA_ne (S : Sd) {k j : Id} (f : Nat → Nat) (e : j ≠ k) : (S.add k f).A j = S.A j := funext fun _ => if_neg e
theorem cell_re {nd : Bool} {S : Sd} {a : Ab} {j : Id} (e : a.re j = S.a.re j) (e' : a.att j = S.a.att j) (q : Nat) : cell nd (S.on a) j q = cell nd S j q := by
  show cell nd ⟨⟨fun _ => a.re j, fun _ => a.att j⟩, [], S.A⟩ j q = cell nd ⟨⟨fun _ => S.a.re j, fun _ => S.a.att j⟩, [], S.A⟩ j q
  rw [e, e']
theorem newN_ok {S h k} (o : Ok true S h) (hk : k ∉ S.ids) (hr : S.a.re k = nilRec) (hp : S.a.att k = true → k.2 ≠ [] ∧ up k ∈ S.ids) :
    Stp true S h (S.add k (fN h.length)) (h ++ nodeCells (.int (mv k)) (if S.a.att k then .ref (S.A (up k) 0) else .none) h.length) := by
  have hup : S.a.att k = true → (S.add k (fN h.length)).A (up k) = S.A (up k) := fun g => addA_ne S _ fun e => hk (e ▸ (hp g).2)
  refine Stp.add o (Ext.app _ _) hk _ (fun p _ => by rw [fN_off]; exact Nat.le_add_right _ _) fN_inj (fun p hp => ?_) (by rw [hr]; rfl) hp
  rw [fN_off, List.getElem?_append_right (Nat.le_add_right _ _), Nat.add_sub_cancel_left]
  revert p
  refine all5 ?_ ?_ ?_ ?_ ?_
  · show some (Cell.node _) = some (Cell.node [_, (_, if S.a.att k then .ref ((S.add k (fN h.length)).A (up k) 0) else .none), _, _, (_, .ref ((S.add k (fN h.length)).A k 4)), (_, .ref ((S.add k (fN h.length)).A k 1)), (_, .ref ((S.add k (fN h.length)).A k 2)), (_, .ref ((S.add k (fN h.length)).A k 3))])
    rw [addA_self]
    cases e : S.a.att k
    · rfl
    · rw [hup e]; rfl
  · show some (Cell.lst []) = some (intC (S.a.re k).r); rw [hr]; rfl
  · show some (Cell.lst []) = some (intC (S.a.re k).n); rw [hr]; rfl
  · show some (Cell.lst []) = some (intC (S.a.re k).b); rw [hr]; rfl
  · show some (Cell.lst []) = some (refs _ (S.a.re k).kids); rw [hr]; rfl
theorem newL_ok {S h k} (o : Ok false S h) (hk : k ∉ S.ids) (hr : S.a.re k = nilRec) (hp : S.a.att k = true → k.2 ≠ [] ∧ up k ∈ S.ids) :
    Stp false S h (S.add k (fL h.length)) (h ++ listCells (.int (mv k)) h.length) := by
  refine Stp.add o (Ext.app _ _) hk _ (fun p _ => by rw [fL_off]; exact Nat.le_add_right _ _) fL_inj (fun p hp => ?_) (by rw [hr]; rfl) hp
  rw [fL_off, List.getElem?_append_right (Nat.le_add_right _ _), Nat.add_sub_cancel_left]
  revert p
  refine all5 ?_ ?_ ?_ ?_ ?_
  · show some (Cell.lst _) = some (Cell.lst [_, .ref ((S.add k (fL h.length)).A k 1), .ref ((S.add k (fL h.length)).A k 2), .ref ((S.add k (fL h.length)).A k 3), .ref ((S.add k (fL h.length)).A k 4)])
    rw [addA_self]; rfl
  · show some (Cell.lst []) = some (intC (S.a.re k).r); rw [hr]; rfl
  · show some (Cell.lst []) = some (intC (S.a.re k).n); rw [hr]; rfl
  · show some (Cell.lst []) = some (intC (S.a.re k).b); rw [hr]; rfl
  · show some (Cell.lst []) = some (refs _ (S.a.re k).kids); rw [hr]; rfl
/-! the kids of a node changed -/
noncomputable def Ab.ks (a : Ab) (p : Id) (ks : List Id) : Ab := a.put p { a.re p with kids := ks }
noncomputable def Ab.lb (a : Ab) (i : Id) (p : Nat) (xs : List Int) : Ab := a.put i (match p with
  | 1 => { a.re i with r := xs }
  | 2 => { a.re i with n := xs }
  | _ => { a.re i with b := xs })
theorem re_self {a : Ab} {i : Id} {r : Rec} : (a.put i r).re i = r := if_pos rfl
theorem re_ne {a : Ab} {i j : Id} {r : Rec} (e : j ≠ i) : (a.put i r).re j = a.re j := if_neg e
theorem ite_id {α : Sort _} {p : Prop} [Decidable p] {x y : α} (h : p → x = y) : (if p then x else y) = y := by
  by_cases e : p
  · rw [if_pos e, h e]
  · rw [if_neg e]
theorem put_put (a : Ab) (i : Id) (r s : Rec) : (a.put i r).put i s = a.put i s := by
  refine congrArg (fun f => Ab.mk f a.att) (funext fun x => ?_)
  show (if x = i then s else if x = i then r else a.re x) = if x = i then s else a.re x
  by_cases g : x = i
  · rw [if_pos g, if_pos g]
  · rw [if_neg g, if_neg g, if_neg g]
/-- one node's record is another -/
theorem put_step {nd S h S' i p r} (o : Ok nd S h) (hi : i ∈ S.ids) (hp : p < 5) (hS : S' = S.on (S.a.put i r)) (hk : ∀ k ∈ r.kids, k ∈ S.ids)
    (hc : ∀ q < 5, q ≠ p → cell nd (S.on ⟨fun _ => r, S.a.att⟩) i q = cell nd S i q) : Stp nd S h S' (h.set (S.A i p) (cell nd (S.on ⟨fun _ => r, S.a.att⟩) i p)) := by
  subst hS
  have e : ∀ q, cell nd (S.on (S.a.put i r)) i q = cell nd (S.on ⟨fun _ => r, S.a.att⟩) i q := cell_re (S := S.on ⟨fun _ => r, S.a.att⟩) re_self rfl
  rw [← e]
  refine Stp.set o hi hp (S.a.put i r) (fun j hj q hq g => ?_) (fun k z => hk k (by rw [re_self] at z; exact z)) (fun j hj => by rw [re_ne hj]) (fun _ _ g => g)
  by_cases z : j = i
  · subst z
    rw [e]; exact hc q hq (g rfl)
  · exact cell_re (re_ne z) rfl q
theorem ks_step {nd S h p ks} (o : Ok nd S h) (hp : p ∈ S.ids) (hks : ∀ k ∈ ks, k ∈ S.ids) (hS : S' = S.on (S.a.ks p ks)) :
    Stp nd S h S' (h.set (S.A p 4) (.lst (ks.map fun k => .ref (S.A k 0)))) :=
  put_step (p := 4) o hp (by decide) hS hks (all5 (fun _ => rfl) (fun _ => rfl) (fun _ => rfl) (fun _ => rfl) fun e => (e rfl).elim)
theorem lb_step {nd S h i p xs} (o : Ok nd S h) (hi : i ∈ S.ids) (h1 : 1 ≤ p) (h3 : p ≤ 3) (hS : S' = S.on (S.a.lb i p xs)) :
    Stp nd S h S' (h.set (S.A i p) (.lst (xs.map V.int))) := by
  revert hS h3 h1
  generalize p = p
  revert p
  refine all3 (fun hS => ?_) (fun hS => ?_) fun hS => ?_
  · exact put_step (p := 1) o hi (by decide) hS (o.cl i hi) (all5 (fun _ => rfl) (fun e => (e rfl).elim) (fun _ => rfl) (fun _ => rfl) fun _ => rfl)
  · exact put_step (p := 2) o hi (by decide) hS (o.cl i hi) (all5 (fun _ => rfl) (fun _ => rfl) (fun e => (e rfl).elim) (fun _ => rfl) fun _ => rfl)
  · exact put_step (p := 3) o hi (by decide) hS (o.cl i hi) (all5 (fun _ => rfl) (fun _ => rfl) (fun _ => rfl) (fun e => (e rfl).elim) fun _ => rfl)
/-- a new way at the end of the ways -/
noncomputable def Ab.way (a : Ab) (p k : Id) : Ab := a.ks p ((a.re p).kids ++ [k])
structure New (nd : Bool) (S : Sd) (h : H) (p k : Id) (S' : Sd) (h' : H) : Prop where
  stp : Stp nd S h S' h'
  a : S'.a = S.a.way p k
  ids : S'.ids = k :: S.ids
structure Fresh (S : Sd) (p k : Id) : Prop where
  hp : p ∈ S.ids
  hk : k ∉ S.ids
  up : up k = p
  ne : k.2 ≠ []
  re : S.a.re k = nilRec
  att : S.a.att k = true
  len : (S.a.re p).kids.length < ML
theorem add_variation_ok {S h p k} (o : Ok true S h) (f : Fresh S p k) (fu : Nat) {N : Nat} (hN : 2 ≤ N) :
    ∃ S' h', callN fu N 1 [.ref (S.A p 0), .int (mv k), .str] h = .ok (.ref (S'.A k 0)) h' ∧ New true S h p k S' h' := by
  obtain ⟨n, rfl, hn⟩ := fuN hN
  have s1 := newN_ok o f.hk f.re (fun _ => ⟨f.ne, f.up ▸ f.hp⟩)
  rw [f.att, if_pos rfl, f.up] at s1
  have hp1 : p ∈ (S.add k (fN h.length)).ids := (s1.self p f.hp).1
  have hk1 : k ∈ (S.add k (fN h.length)).ids := List.mem_cons_self
  have hpk : p ≠ k := fun e => f.hk (e ▸ f.hp)
  have hA : (S.add k (fN h.length)).A p 0 = S.A p 0 := (s1.self p f.hp).2
  have hAk : (S.add k (fN h.length)).A k 0 = h.length := congrFun (addA_self S k _) 0
  have s2 := ks_step s1.ok hp1 (ks := (S.a.re p).kids ++ [k]) (by
    intro j hj
    rcases List.mem_append.1 hj with hj | hj
    · exact List.mem_cons_of_mem _ (o.cl p f.hp j hj)
    · rw [List.mem_singleton.1 hj]; exact hk1) rfl
  refine ⟨_, _, ?_, s1.trans s2, rfl, rfl⟩
  rw [callN_eq (k := 3) (b := b_add_variation) (hk := rfl) (hb := rfl) (hl := rfl)]
  have hw : ∀ h2, h2 = h ++ nodeCells (.int (mv k)) (.ref (S.A p 0)) h.length → setAttrV h2 .word .str (.ref h.length) = .ok .none h2 := by
    intro h2 e; subst e
    exact sAt h _ _ .word .str (Nat.le_of_ble_eq_true rfl)
  have e2 : ((S.a.re p).kids ++ [k]).map (fun j => V.ref ((S.add k (fN h.length)).A j 0)) = ((S.a.re p).kids.map fun j => V.ref ((S.add k (fN h.length)).A j 0)) ++ [V.ref h.length] := by
    simp [hAk]
  have g4 := s1.ok.gkids hp1
  have av := s1.ok.avar hp1
  rw [hA] at av
  rw [e2]
  generalize hh : h ++ nodeCells (.int (mv k)) (.ref (S.A p 0)) h.length = h2 at *
  have nv := newV_ok h (.int (mv k)) (.ref (S.A p 0)) fu hn
  rw [hh] at nv
  have hl : ((S.a.re p).kids.map fun j => V.ref ((S.add k (fN h.length)).A j 0)).length < ML := by simpa using f.len
  have ap : appendV h2 (.ref ((S.add k (fN h.length)).A p 4)) (.ref h.length) = .ok .none (h2.set ((S.add k (fN h.length)).A p 4) (.lst (((S.a.re p).kids.map fun j => V.ref ((S.add k (fN h.length)).A j 0)) ++ [V.ref h.length]))) := by
    rw [appendV, g4]
    exact if_pos hl
  have is : isLst h2 (.ref ((S.add k (fN h.length)).A p 4)) = true := s1.ok.isK hp1
  simp [b_add_variation, nv, hw h2 rfl, av, is, ap]
  exact hAk.symm
end MineB
end

section
namespace MineB
open Mine
set_option linter.unusedSimpArgs false
/-- the shape of the trees -/
structure Tr (a : Ab) (ids : List Id) : Prop where
  kd : ∀ i ∈ ids, ∀ k ∈ (a.re i).kids, k ∈ ids ∧ a.att k = true ∧ k.2 ≠ [] ∧ up k = i
  nd : ∀ i ∈ ids, (a.re i).kids.Nodup
  lv : ∀ i ∈ ids, lvl i ≤ 36
  un : ∀ i, i ∉ ids → a.re i = nilRec ∧ (i.2 ≠ [] → a.att i = true)
/-- the deed's number -/
structure Ep (e : Nat) (a : Ab) (ids : List Id) : Prop where
  ep : ∀ i ∈ ids, ∀ x ∈ i.2, x.2 ≤ e
  nw : ∀ i ∈ ids, ∀ v q, i.2 = (v, e) :: q → i ∈ (a.re (i.1, q)).kids
noncomputable def Ep0 (e : Nat) (ids : List Id) : Prop := ∀ i ∈ ids, ∀ x ∈ i.2, x.2 < e
theorem Ep0.to {e a ids} (h : Ep0 e ids) : Ep e a ids :=
  ⟨fun i hi x hx => Nat.le_of_lt (h i hi x hx), fun i hi v q g => by have := h i hi (v, e) (by rw [g]; exact List.mem_cons_self); exact absurd this (Nat.lt_irrefl e)⟩
theorem Ep.to {e a ids} (h : Ep e a ids) : Ep0 (e + 1) ids := fun i hi x hx => Nat.lt_succ_of_le (h.ep i hi x hx)
theorem Tr.kl {a ids} (t : Tr a ids) {i} (hi : i ∈ ids) : (a.re i).kids.length ≤ ids.length :=
  (t.nd i hi).length_le_of_subset fun k hk => (t.kd i hi k hk).1
theorem way_re (a : Ab) (p k j : Id) : (a.way p k).re j = if j = p then { a.re p with kids := (a.re p).kids ++ [k] } else a.re j := rfl
theorem way_att (a : Ab) (p k : Id) : (a.way p k).att = a.att := rfl
theorem Tr.way {a : Ab} {ids : List Id} {p : Id} {v : Int} {e : Nat} (t : Tr a ids) (hp : p ∈ ids) (hk : kid p v e ∉ ids) (hl : lvl p < 36) : Tr (a.way p (kid p v e)) (kid p v e :: ids) := by
  have hkp : kid p v e ≠ p := fun g => hk (by rw [g]; exact hp)
  refine ⟨fun i hi c hc => ?_, fun i hi => ?_, fun i hi => ?_, fun i hi => ?_⟩
  · rw [way_re] at hc
    by_cases g : i = p
    · subst g
      rw [if_pos rfl] at hc
      rcases List.mem_append.1 hc with hc | hc
      · have := t.kd i hp c hc; exact ⟨List.mem_cons_of_mem _ this.1, this.2⟩
      · rw [List.mem_singleton] at hc; subst hc
        exact ⟨List.mem_cons_self, (t.un _ hk).2 (by simp [kid]), by simp [kid], rfl⟩
    · rw [if_neg g] at hc
      rcases List.mem_cons.1 hi with rfl | hi
      · rw [(t.un _ hk).1] at hc; cases hc
      · have := t.kd i hi c hc; exact ⟨List.mem_cons_of_mem _ this.1, this.2⟩
  · rw [way_re]
    by_cases g : i = p
    · rw [if_pos g]
      refine List.nodup_append.2 ⟨t.nd p hp, by simp, fun x hx y hy e1 => ?_⟩
      rw [List.mem_singleton] at hy
      exact hk (by rw [← hy, ← e1]; exact (t.kd p hp x hx).1)
    · rw [if_neg g]
      rcases List.mem_cons.1 hi with rfl | hi
      · rw [(t.un _ hk).1]; exact List.nodup_nil
      · exact t.nd i hi
  · rcases List.mem_cons.1 hi with rfl | hi
    · rw [lvl_kid]; lia
    · exact t.lv i hi
  · rw [way_re, way_att]
    have g : i ∉ ids := fun x => hi (List.mem_cons_of_mem _ x)
    rw [if_neg (show i ≠ p from fun e1 => g (by rw [e1]; exact hp))]
    exact t.un i g
theorem Ep.way {a ids p v e} (t : Ep e a ids) (hp : p ∈ ids) : Ep e (a.way p (kid p v e)) (kid p v e :: ids) := by
  refine ⟨fun i hi x hx => ?_, fun i hi v' q g => ?_⟩
  · rcases List.mem_cons.1 hi with rfl | hi
    · rcases List.mem_cons.1 (show x ∈ (v, e) :: p.2 from hx) with rfl | hx
      · exact Nat.le_refl _
      · exact t.ep p hp x hx
    · exact t.ep i hi x hx
  · rw [way_re]
    rcases List.mem_cons.1 hi with rfl | hi
    · have : (((kid p v e).1, q) : Id) = p := by
        cases g; rfl
      rw [if_pos this]; simp
    · have := t.nw i hi v' q g
      by_cases e' : ((i.1, q) : Id) = p
      · rw [if_pos e']; rw [e'] at this; exact List.mem_append_left _ this
      · rw [if_neg e']; exact this
theorem Ep.fresh {a ids p v e} (t : Ep e a ids) (h : fidx (a.re p).kids v = none) : kid p v e ∉ ids := fun hk =>
  fidx_none h _ (t.nw _ hk v p.2 rfl) rfl
/-- the way on, found or made -/
noncomputable def wid (e : Nat) (a : Ab) (p : Id) (v : Int) : Id := match fidx (a.re p).kids v with
  | some q => ((a.re p).kids[q]?).getD p
  | none => kid p v e
noncomputable def wab (e : Nat) (a : Ab) (p : Id) (v : Int) : Ab := match fidx (a.re p).kids v with
  | some _ => a
  | none => a.way p (kid p v e)
noncomputable def wids (e : Nat) (a : Ab) (ids : List Id) (p : Id) (v : Int) : List Id := match fidx (a.re p).kids v with
  | some _ => ids
  | none => kid p v e :: ids
structure Way (nd : Bool) (e : Nat) (S : Sd) (h : H) (p : Id) (v : Int) (S' : Sd) (h' : H) : Prop where
  stp : Stp nd S h S' h'
  a : S'.a = wab e S.a p v
  ids : S'.ids = wids e S.a S.ids p v
  mem : wid e S.a p v ∈ S'.ids
  tr : Tr S'.a S'.ids
  ep : Ep e S'.a S'.ids
theorem fresh_of {S : Sd} {p : Id} {v : Int} {e : Nat} (t : Tr S.a S.ids) (ep : Ep e S.a S.ids) (hp : p ∈ S.ids) (hz : S.ids.length < ML) (h : fidx (S.a.re p).kids v = none) : Fresh S p (kid p v e) :=
  ⟨hp, ep.fresh h, rfl, by simp [kid], (t.un _ (ep.fresh h)).1, (t.un _ (ep.fresh h)).2 (by simp [kid]), Nat.lt_of_le_of_lt (t.kl hp) hz⟩
theorem Way.of_new {nd e S h p v S' h'} (n : New nd S h p (kid p v e) S' h') (t : Tr S.a S.ids) (ep : Ep e S.a S.ids) (hp : p ∈ S.ids) (hl : lvl p < 36) (g : fidx (S.a.re p).kids v = none) : Way nd e S h p v S' h' := by
  refine ⟨n.stp, ?_, ?_, ?_, ?_, ?_⟩
  · rw [n.a, wab, g]
  · rw [n.ids, wids, g]
  · rw [n.ids, wid, g]; exact List.mem_cons_self
  · rw [n.a, n.ids]; exact t.way hp (ep.fresh g) hl
  · rw [n.a, n.ids]; exact ep.way hp
theorem Way.of_old {nd e S h p v q k} (o : Ok nd S h) (t : Tr S.a S.ids) (ep : Ep e S.a S.ids) (hp : p ∈ S.ids) (g : fidx (S.a.re p).kids v = some q) (hk : (S.a.re p).kids[q]? = some k) :
    wid e S.a p v = k ∧ Way nd e S h p v S h := by
  have e1 : wid e S.a p v = k := by rw [wid, g]; simp [hk]
  exact ⟨e1, o.self, by rw [wab, g], by rw [wids, g], by rw [e1]; exact o.cl p hp k (List.mem_of_getElem? hk), t, ep⟩
theorem ev_newlist {c : Ctx} {a : E} {l : Loc} {h : H} {m : V} (e : evE c a l h = .ok m h) :
    evE c (.lst (.cons a (.cons (.lst .nil) (.cons (.lst .nil) (.cons (.lst .nil) (.cons (.lst .nil) .nil)))))) l h = .ok (.ref (h.length + 4)) (h ++ listCells m h.length) := by
  simp [e, alloc, listCells]
theorem gL_inv {h : H} {v : V} {a : Nat} {vs : List V} (e : gL h v = some (a, vs)) : v = .ref a ∧ h[a]? = some (.lst vs) := by
  cases v with
  | ref x =>
    dsimp only [gL] at e
    cases g : h[x]? with
    | none => rw [g] at e; cases e
    | some c =>
      rw [g] at e
      cases c with
      | lst ws => cases e; exact ⟨rfl, g⟩
      | _ => cases e
  | _ => cases e
theorem gL_getLT {h : H} {v : V} {a : Nat} {vs : List V} (e : gL h v = some (a, vs)) : getLT h v = some vs := by
  rw [(gL_inv e).1]; exact gLT_ok (gL_inv e).2
theorem last_ok {h : H} {a : V} {l : Nat} {vs : List V} {v : V} (e : gL h a = some (l, vs ++ [v])) : idxV h a (.int (-1)) = .ok v h := by
  dsimp only [idxV]; rw [gL_getLT e]; dsimp only
  rw [if_neg (by decide), if_pos rfl, List.getLast?_concat]
theorem appendV_ok' {h : H} {a b : V} {l : Nat} {vs : List V} (e : gL h a = some (l, vs)) (k : vs.length < ML) : appendV h a b = .ok .none (h.set l (.lst (vs ++ [b]))) := by
  dsimp only [appendV]; rw [e]; exact if_pos k
theorem law_way_ok {S h p e} (v : Int) (o : Ok false S h) (t : Tr S.a S.ids) (ep : Ep e S.a S.ids) (hp : p ∈ S.ids) (hl : lvl p < 36) (hz : S.ids.length < ML) (fu : Nat) {N : Nat} (hN : 2 ≤ N) :
    ∃ S' h', callN fu N 23 [.ref (S.A p 0), .int v] h = .ok (.ref (S'.A (wid e S.a p v) 0)) h' ∧ Way false e S h p v S' h' := by
  obtain ⟨n, rfl, hn⟩ := fuN hN
  have ef := law_first_ok o hp v fu hn (Nat.le_of_lt (Nat.lt_of_le_of_lt (t.kl hp) hz))
  rw [callN_eq (k := 2) (b := b_law_way) (hk := rfl) (hb := rfl) (hl := rfl)]
  cases g : fidx (S.a.re p).kids v with
  | some q =>
    obtain ⟨k, hk, _⟩ := fidx_some g
    obtain ⟨e1, w⟩ := Way.of_old (e := e) o t ep hp g hk
    refine ⟨S, h, ?_, w⟩
    have ng : ¬ ((q : Int) < 0) := by lia
    simp [b_law_way, ef, fwV, g, ng, o.ikids hp, o.ikid hp hk, e1]
  | none =>
    have f := fresh_of t ep hp hz g
    have s1 := newL_ok o f.hk f.re (fun _ => ⟨f.ne, f.up ▸ f.hp⟩)
    have hp1 : p ∈ (S.add (kid p v e) (fL h.length)).ids := (s1.self p f.hp).1
    have hk1 : kid p v e ∈ (S.add (kid p v e) (fL h.length)).ids := List.mem_cons_self
    have hA : ∀ r, (S.add (kid p v e) (fL h.length)).A p r = S.A p r := fun r => congrFun (addA_ne S (k := kid p v e) _ fun e => f.hk (e ▸ f.hp)) r
    have hAk : (S.add (kid p v e) (fL h.length)).A (kid p v e) 0 = h.length + 4 := congrFun (addA_self S _ _) 0
    have s2 := ks_step s1.ok hp1 (ks := (S.a.re p).kids ++ [kid p v e]) (by
      intro j hj
      rcases List.mem_append.1 hj with hj | hj
      · exact List.mem_cons_of_mem _ (o.cl p f.hp j hj)
      · rw [List.mem_singleton.1 hj]; exact hk1) rfl
    have nw : New false S h p (kid p v e) _ _ := ⟨s1.trans s2, rfl, rfl⟩
    refine ⟨_, _, ?_, Way.of_new nw t ep hp hl g⟩
    have e2 : ((S.a.re p).kids ++ [kid p v e]).map (fun j => V.ref ((S.add (kid p v e) (fL h.length)).A j 0)) = ((S.a.re p).kids.map fun j => V.ref ((S.add (kid p v e) (fL h.length)).A j 0)) ++ [V.ref (h.length + 4)] := by
      simp [hAk]
    have ik := s1.ok.ikids hp1
    rw [hA] at ik
    have ik2 := s2.ok.ikids (i := p) hp1
    have hA2 : (((S.add (kid p v e) (fL h.length)).on ((S.add (kid p v e) (fL h.length)).a.ks p ((S.a.re p).kids ++ [kid p v e]))).A p) = S.A p := by
      funext r; exact hA r
    rw [hA2] at ik2
    have gl2 := s2.ok.gkids (i := p) hp1
    rw [hA2] at gl2
    have ew : wid e S.a p v = kid p v e := by rw [wid, g]
    have g4 := s1.ok.gkids hp1
    rw [hA] at s2 ik2 gl2 g4
    rw [e2] at ik2 gl2
    rw [hA, e2, ew]
    have is : isLst h (.ref (S.A p 4)) = true := o.isK hp
    have hl : ((S.a.re p).kids.map fun j => V.ref ((S.add (kid p v e) (fL h.length)).A j 0)).length < ML := by simpa using f.len
    have ap : appendV (h ++ listCells (.int v) h.length) (.ref (S.A p 4)) (.ref (h.length + 4)) = .ok .none ((h ++ listCells (.int v) h.length).set (S.A p 4) (.lst (((S.a.re p).kids.map fun j => V.ref ((S.add (kid p v e) (fL h.length)).A j 0)) ++ [V.ref (h.length + 4)]))) := by
      rw [mv_kid] at g4; exact appendV_ok' g4 hl
    rw [mv_kid] at *
    generalize (h ++ listCells (.int v) h.length).set (S.A p 4) (.lst (((S.a.re p).kids.map fun j => V.ref ((S.add (kid p v e) (fL h.length)).A j 0)) ++ [V.ref (h.length + 4)])) = h3 at *
    have last : idxV h3 (.ref (S.A p 4)) (.int (-1)) = .ok (.ref (h.length + 4)) h3 := by
      have hk3 : (((S.add (kid p v e) (fL h.length)).on ((S.add (kid p v e) (fL h.length)).a.ks p ((S.a.re p).kids ++ [kid p v e]))).a.re p).kids = (S.a.re p).kids ++ [kid p v e] := congrArg Rec.kids re_self
      rw [hk3, List.map_append] at gl2
      rw [last_ok gl2]
      exact congrArg (fun a => R.ok (V.ref a) h3) hAk
    rw [b_law_way, ss_nxt (l' := (params [.ref (S.A p 0), .int v]).set 2 (.int (-1))) (h' := h) (by simp [ef, fwV, g])]
    rw [ss_nxt (l' := (params [.ref (S.A p 0), .int v]).set 2 (.int (-1))) (h' := h3) (by
      have nl := ev_newlist (c := ⟨fu, callN fu n⟩) (a := .var 1) (l := (params [.ref (S.A p 0), .int v]).set 2 (.int (-1))) (h := h) (m := .int v) (by simp )
      have st : evS ⟨fu, callN fu n⟩ (.expr (.append (.idx (.var 0) (.int 4)) (.lst (.cons (.var 1) (.cons (.lst .nil) (.cons (.lst .nil) (.cons (.lst .nil) (.cons (.lst .nil) .nil)))))))) ((params [.ref (S.A p 0), .int v]).set 2 (.int (-1))) h = .nxt ((params [.ref (S.A p 0), .int v]).set 2 (.int (-1))) h3 := by
        have i4 : evE ⟨fu, callN fu n⟩ (.idx (.var 0) (.int 4)) ((params [.ref (S.A p 0), .int v]).set 2 (.int (-1))) h = .ok (.ref (S.A p 4)) h := by
          simp [o.ikids hp]
        exact ap_ok i4 is nl ap
      have cd : evE ⟨fu, callN fu n⟩ (.cmp .lt (.var 2) (.int 0)) ((params [.ref (S.A p 0), .int v]).set 2 (.int (-1))) h = .ok (.bool true) h := by
        simp 
      rw [s_ite cd, ss_nxt st]; rfl)]
    simp [ik2, last, Sd.on, hAk]
end MineB
end

section
namespace MineB
open Mine
set_option linter.unusedSimpArgs false
/-- turns enough -/
noncomputable def FU : Nat := 134217728
noncomputable def pthL (a : Ab) (t : Nat) : List (Int × Nat) → List Int
  | [] => []
  | x :: p => if a.att (t, x :: p) then pthL a t p ++ [x.1] else []
noncomputable def pth (a : Ab) (i : Id) : List Int := pthL a i.1 i.2
theorem pth_att {a : Ab} {i : Id} (h : a.att i = true) (hn : i.2 ≠ []) : pth a i = pth a (up i) ++ [mv i] := by
  obtain ⟨t, p⟩ := i
  cases p with
  | nil => exact (hn rfl).elim
  | cons x p => exact if_pos h
theorem pth_not {a : Ab} {i : Id} (h : a.att i = false) : pth a i = [] := by
  obtain ⟨t, p⟩ := i
  cases p with
  | nil => rfl
  | cons x p => exact if_neg (by rw [h]; exact Bool.false_ne_true)
theorem pth_len (a : Ab) (i : Id) : (pth a i).length ≤ lvl i := by
  obtain ⟨t, p⟩ := i
  show (pthL a t p).length ≤ p.length
  induction p with
  | nil => exact Nat.le_refl _
  | cons x p ih =>
    dsimp only [pthL]; split
    · simp; exact ih
    · simp
theorem whl_nxt {c b} {n : Nat} {l l' : Loc} {h h' h'' : H} (e : c l h = .ok (.bool true) h') (e' : b l h' = .nxt l' h'') : whileN c b (n + 1) l h = whileN c b n l' h'' := by
  dsimp only [whileN]; rw [e]; dsimp only; rw [e']
theorem whl_ret {c b} {n : Nat} {l : Loc} {h h' h'' : H} {v : V} (e : c l h = .ok (.bool true) h') (e' : b l h' = .ret v h'') : whileN c b (n + 1) l h = .ret v h'' := by
  dsimp only [whileN]; rw [e]; dsimp only; rw [e']
theorem whl_end {c b} {n : Nat} {l : Loc} {h h' : H} (e : c l h = .ok (.bool false) h') : whileN c b (n + 1) l h = .nxt l h' := by
  dsimp only [whileN]; rw [e]
theorem for_nxt {x a : Nat} {b : Loc → H → F} {n i : Nat} {l l' : Loc} {h h' : H} {vs : List V} {v : V} (e : h[a]? = some (.lst vs)) (e' : vs[i]? = some v) (e'' : b (l.set x v) h = .nxt l' h') :
    forN x a b (n + 1) i l h = forN x a b n (i + 1) l' h' := by
  dsimp only [forN]; rw [e]; dsimp only; rw [e']; dsimp only; rw [e'']
theorem for_end {x a : Nat} {b : Loc → H → F} {n i : Nat} {l : Loc} {h : H} {vs : List V} (e : h[a]? = some (.lst vs)) (e' : vs.length ≤ i) :
    forN x a b (n + 1) i l h = .nxt l h := by
  dsimp only [forN]; rw [e]; dsimp only; rw [List.getElem?_eq_none e']
theorem appendV_ok {h : H} {m : Nat} {vs : List V} (e : h[m]? = some (.lst vs)) (hl : vs.length < ML) (v : V) : appendV h (.ref m) v = .ok .none (h.set m (.lst (vs ++ [v]))) := by
  exact appendV_ok' (gL_ok e) hl
theorem isLst_ok {h : H} {m : Nat} {vs : List V} (e : h[m]? = some (.lst vs)) : isLst h (.ref m) = true := isL_ok e
/-- the same but for one cell -/
noncomputable def ExtB (h h' : H) (m : Nat) : Prop := ∀ (x : Nat) (c : Cell), x ≠ m → h[x]? = some c → h'[x]? = some c
theorem ExtB.refl (h : H) (m : Nat) : ExtB h h m := fun _ _ _ e => e
theorem ExtB.trans {h h' h'' : H} {m : Nat} (a : ExtB h h' m) (b : ExtB h' h'' m) : ExtB h h'' m := fun x c g e => b x c g (a x c g e)
theorem ExtB.set (h : H) (m : Nat) (c : Cell) : ExtB h (h.set m c) m := fun x d g e => by rw [List.getElem?_set_ne (Ne.symm g)]; exact e
theorem ExtB.of {h h' : H} {m : Nat} (a : Ext h h') : ExtB h h' m := fun x c _ e => a x c e
theorem Ext.b {h h' h'' : H} {m : Nat} (a : Ext h h') (g : h.length ≤ m) (b : ExtB h' h'' m) : Ext h h'' := fun x c e =>
  b x c (by have := lt_of_get e; lia) (a x c e)
theorem lineLoop {S fu n} {N : Nat} (t : Nat) (m : Nat) : ∀ (p : List (Int × Nat)) (h : H) (l : Loc) (xs : List Int), Ok true S h → ((t, p) : Id) ∈ S.ids → Out S m → h[m]? = some (intC xs) →
    xs.length + p.length ≤ ML → p.length < N → l 0 = some (.ref (S.A (t, p) 0)) → l 1 = some (.ref m) →
    ∃ l' h', C4 (whileN (evE ⟨fu, callN fu n⟩ (.cmp .isNot (.attr (.var 0) .parent) .none)) (evSs ⟨fu, callN fu n⟩ (.cons (.expr (.append (.var 1) (.attr (.var 0) .move))) (.cons (.assign 0 (.attr (.var 0) .parent)) .nil))) N l h = .nxt l' h') (l' 1 = some (.ref m)) (ExtB h h' m) (h'[m]? = some (intC (xs ++ (pth S.a (t, p)).reverse))) := by
  induction N with
  | zero => intro p h l xs _ _ _ _ _ hN; exact absurd hN (Nat.not_lt_zero _)
  | succ N ih =>
    intro p h l xs o hi om hm hz hN l0 l1
    cases ha : S.a.att (t, p) with
    | false =>
      have cd : evE ⟨fu, callN fu n⟩ (.cmp .isNot (.attr (.var 0) .parent) .none) l h = .ok (.bool false) h := by
        simp [l0, o.aparent hi, ha]
      refine ⟨l, h, whl_end cd, l1, ExtB.refl _ _, ?_⟩
      rw [pth_not ha]; simpa using hm
    | true =>
      have pu := o.pu _ hi ha
      obtain ⟨x, q, rfl⟩ : ∃ x q, p = x :: q := by
        cases p with
        | nil => exact (pu.1 rfl).elim
        | cons x q => exact ⟨x, q, rfl⟩
      have cd : evE ⟨fu, callN fu n⟩ (.cmp .isNot (.attr (.var 0) .parent) .none) l h = .ok (.bool true) h := by
        simp [l0, o.aparent hi, ha]
      have hxl : (xs.map V.int).length < ML := by simp at hz ⊢; lia
      have ap := appendV_ok hm hxl (.int x.1)
      have is := isLst_ok hm
      have e1 : (h.set m (intC (xs ++ [x.1]))) = h.set m (.lst (xs.map V.int ++ [.int x.1])) := by simp [intC]
      have o2 : Ok true S (h.set m (intC (xs ++ [x.1]))) := ⟨fun i hi p hp => by rw [List.getElem?_set_ne (Ne.symm (om i hi p hp))]; exact o.c i hi p hp, o.inj, o.cl, o.pu⟩
      have am := o.amove hi
      have ap2 := o2.aparent hi
      rw [ha] at ap2
      rw [e1] at ap2
      have bd : evSs ⟨fu, callN fu n⟩ (.cons (.expr (.append (.var 1) (.attr (.var 0) .move))) (.cons (.assign 0 (.attr (.var 0) .parent)) .nil)) l h = .nxt (l.set 0 (.ref (S.A (t, q) 0))) (h.set m (intC (xs ++ [x.1]))) := by
        rw [e1]
        have e2 : mv (t, x :: q) = x.1 := rfl
        rw [e2] at am
        simp [l0, l1, am, ap, is, ap2]; rfl
      rw [whl_nxt cd bd]
      obtain ⟨l', h', e, r1, r2, r3⟩ := ih q _ (l.set 0 (.ref (S.A (t, q) 0))) (xs ++ [x.1]) o2 pu.2 om (get_set_self hm _) (by simp at hz ⊢; lia) (by simp at hN; lia) rfl l1
      refine ⟨l', h', e, r1, (ExtB.set _ _ _).trans r2, ?_⟩
      rw [r3, pth_att ha (by simp)]
      simp [up, mv]
theorem line_to_ok {S h i} (o : Ok true S h) (hi : i ∈ S.ids) (hl : lvl i ≤ 36) {fu : Nat} (hf : FU ≤ fu) {N : Nat} (hN : 1 ≤ N) :
    ∃ x h', C4 (callN fu N 9 [.ref (S.A i 0)] h = .ok (.ref x) h') (Ext h h') (h'[x]? = some (intC (pth S.a i))) (h.length ≤ x) := by
  obtain ⟨n, rfl, -⟩ := fuN hN
  have hF : FU = 134217728 := rfl
  have hM : ML = 16777216 := rfl
  rw [callN_eq (k := 1) (b := b_line_to) (hk := rfl) (hb := rfl) (hl := rfl)]
  have om : Out S h.length := fun j hj p hp e => by have := lt_of_get (o.c j hj p hp); lia
  have pl := pth_len S.a i
  obtain ⟨l', h', e, r1, r2, r3⟩ := lineLoop (fu := fu) (n := n) (N := fu) i.1 h.length i.2 (h ++ [.lst []]) ((params [.ref (S.A i 0)]).set 1 (.ref h.length)) [] (o.ext (Ext.app _ _)) hi om (by simp [intC]) (by unfold lvl at hl; simp; lia) (by unfold lvl at hl; lia) rfl rfl
  have e0 : Ext h h' := (Ext.app h [.lst []]).b (Nat.le_refl _) r2
  refine ⟨h'.length, h' ++ [intC (pth S.a i)], ?_, e0.app' _, by simp, e0.len⟩
  rw [b_line_to, ss_nxt (l' := (params [.ref (S.A i 0)]).set 1 (.ref h.length)) (h' := h ++ [.lst []]) (by simp [alloc])]
  rw [ss_nxt (l' := l') (h' := h') (by exact e)]
  simp only [List.nil_append] at r3
  simp [r1, revV, gL, r3, intC, alloc]
end MineB
end

section
namespace MineB
open Mine
set_option linter.unusedSimpArgs false
theorem eqV_int (n : Nat) (h : H) (i j : Int) : eqV (n + 1) h (.int i) (.int j) = some (decide (i = j)) := by dsimp only [eqV]
theorem allEq_ints (n : Nat) (h : H) : ∀ (xs ys : List Int), xs.length = ys.length → allEq (eqV (n + 1) h) (xs.map V.int) (ys.map V.int) = some (decide (xs = ys))
  | [], [], _ => rfl
  | x :: xs, y :: ys, e => by
    have := allEq_ints n h xs ys (by simpa using e)
    rw [List.map_cons, List.map_cons]
    dsimp only [allEq]; rw [this, eqV_int]
    exact congrArg some ((Bool.decide_and _ _).symm.trans (decide_eq_decide.2 List.cons_eq_cons.symm))
  | [], _ :: _, e => by cases e
  | _ :: _, [], e => by cases e
theorem eqV_ints {n : Nat} {h : H} {x y : Nat} {xs ys : List Int} (ex : h[x]? = some (intC xs)) (ey : h[y]? = some (intC ys)) : eqV (n + 2) h (.ref x) (.ref y) = some (decide (xs = ys)) := by
  dsimp only [eqV]
  rw [ex, ey]
  show (if (xs.map V.int).length = (ys.map V.int).length then _ else _) = _
  rw [List.length_map, List.length_map]
  by_cases g : xs.length = ys.length
  · rw [if_pos g, allEq_ints n h xs ys g]
  · rw [if_neg g]; congr 1; symm; rw [decide_eq_false_iff_not]; intro e; exact g (by rw [e])
noncomputable def Ab.cut (a : Ab) (k : Id) : Ab := { a with att := fun j => if j = k then false else a.att j }
/-- both sides in one heap -/
structure Two (L N : Sd) (h : H) : Prop where
  l : Ok false L h
  n : Ok true N h
  d : Dj L N
structure Stw (L N : Sd) (h : H) (L' N' : Sd) (h' : H) : Prop where
  two : Two L' N' h'
  sl : ∀ i ∈ L.ids, i ∈ L'.ids ∧ L'.A i 0 = L.A i 0
  sn : ∀ i ∈ N.ids, i ∈ N'.ids ∧ N'.A i 0 = N.A i 0
  len : h.length ≤ h'.length
  fr : ∀ x c, h[x]? = some c → Out L x → Out N x → h'[x]? = some c ∧ Out L' x ∧ Out N' x
theorem Two.self {L N h} (t : Two L N h) : Stw L N h L N h := ⟨t, fun _ hi => ⟨hi, rfl⟩, fun _ hi => ⟨hi, rfl⟩, Nat.le_refl _, fun _ _ e o1 o2 => ⟨e, o1, o2⟩⟩
theorem Two.ext {L N h h'} (t : Two L N h) (e : Ext h h') : Stw L N h L N h' :=
  ⟨⟨t.l.ext e, t.n.ext e, t.d⟩, fun _ hi => ⟨hi, rfl⟩, fun _ hi => ⟨hi, rfl⟩, e.len, fun _ _ g o1 o2 => ⟨e _ _ g, o1, o2⟩⟩
theorem Two.left {L N h L' h'} (t : Two L N h) (s : Stp false L h L' h') : Stw L N h L' N h' :=
  ⟨⟨s.ok, (s.other t.n t.d).1, (s.other t.n t.d).2⟩, s.self, fun _ hi => ⟨hi, rfl⟩, s.len, fun _ _ g o1 o2 => ⟨s.fr _ _ g o1, s.out o1 (lt_of_get g), o2⟩⟩
theorem Two.right {L N h N' h'} (t : Two L N h) (s : Stp true N h N' h') : Stw L N h L N' h' :=
  ⟨⟨(s.other t.l t.d.symm).1, s.ok, (s.other t.l t.d.symm).2.symm⟩, fun _ hi => ⟨hi, rfl⟩, s.self, s.len, fun _ _ g o1 o2 => ⟨s.fr _ _ g o2, o1, s.out o2 (lt_of_get g)⟩⟩
theorem Stw.trans {L N h L' N' h' L'' N'' h''} (s : Stw L N h L' N' h') (t : Stw L' N' h' L'' N'' h'') : Stw L N h L'' N'' h'' :=
  ⟨t.two, fun i hi => ⟨(t.sl i (s.sl i hi).1).1, ((t.sl i (s.sl i hi).1).2).trans (s.sl i hi).2⟩, fun i hi => ⟨(t.sn i (s.sn i hi).1).1, ((t.sn i (s.sn i hi).1).2).trans (s.sn i hi).2⟩,
   Nat.le_trans s.len t.len, fun x c g o1 o2 => by obtain ⟨a, b, d⟩ := s.fr x c g o1 o2; exact t.fr x c a b d⟩
theorem cut_att {a : Ab} {k j : Id} (g : (a.cut k).att j = true) : a.att j = true := by
  by_cases z : j = k
  · exact absurd ((if_pos z).symm.trans g) Bool.false_ne_true
  · exact (if_neg z).symm.trans g
theorem cut_self {a : Ab} {k : Id} : (a.cut k).att k = false := if_pos rfl
theorem cut_stepL {S h} (o : Ok false S h) (k : Id) : Stp false S h (S.on (S.a.cut k)) h :=
  ⟨⟨o.c, o.inj, o.cl, fun i hi g => o.pu i hi (cut_att g)⟩, fun _ hi => ⟨hi, rfl⟩, fun _ hi _ _ => .inl ⟨hi, rfl⟩, Nat.le_refl _, fun _ _ e _ => e, fun _ _ _ => rfl⟩
theorem cut_stepN {S h k} (o : Ok true S h) (hk : k ∈ S.ids) : Stp true S h (S.on (S.a.cut k)) (h.set (S.A k 0) (.node [(.move, .int (mv k)), (.parent, .none), (.word, .str), (.place, .int (-1)),
        (.variations, .ref (S.A k 4)), (.remarks, .ref (S.A k 1)), (.nags, .ref (S.A k 2)), (.before, .ref (S.A k 3))])) := by
  have := Stp.set o hk (p := 0) (by decide) (S.a.cut k) (fun j hj => all5 (fun g => cell_re (a := S.a.cut k) rfl (if_neg fun e => g e rfl) 0) (fun _ => rfl) (fun _ => rfl) (fun _ => rfl) (fun _ => rfl)) (o.cl k hk) (fun _ _ => rfl) (fun _ _ => cut_att)
  have e : cell true (S.on (S.a.cut k)) k 0 = .node [_, (_, if (S.a.cut k).att k = true then _ else _), _, _, _, _, _, _] := rfl
  rw [e, cut_self] at this; exact this
theorem check_way_ok {S h i} (o : Ok true S h) (hi : i ∈ S.ids) (k : Int) (fu : Nat) {N : Nat} (hN : 1 ≤ N) :
    callN fu N 2 [.ref (S.A i 0), .int k] h = if 0 ≤ k ∧ k < (S.a.re i).kids.length then .ok .none h else .exc h := by
  obtain ⟨n, rfl, -⟩ := fuN hN
  rw [callN_eq (k := 2) (b := b_check_way) (hk := rfl) (hb := rfl) (hl := rfl)]
  by_cases g1 : 0 ≤ k
  · by_cases g2 : k < (S.a.re i).kids.length
    · simp [b_check_way, o.avar hi, o.lenK hi, g1, g2]
    · simp [b_check_way, o.avar hi, o.lenK hi, g1, g2]
  · simp [b_check_way, g1]
theorem popAtV_ok {h : H} {m q : Nat} {vs : List V} {v : V} (e : h[m]? = some (.lst vs)) (g : vs[q]? = some v) : popAtV h (.ref m) (.int q) = .ok v (h.set m (.lst (vs.eraseIdx q))) := by
  dsimp only [popAtV]; rw [gL_ok e]; dsimp only; rw [if_pos (Int.natCast_nonneg q), Int.toNat_natCast, g]
theorem insertV_ok {h : H} {m q : Nat} {vs : List V} (e : h[m]? = some (.lst vs)) (g : q ≤ vs.length) (hl : vs.length < ML) (v : V) : insertV h (.ref m) (.int q) v = .ok .none (h.set m (.lst (vs.take q ++ v :: vs.drop q))) := by
  dsimp only [insertV]; rw [gL_ok e]; dsimp only
  rw [if_pos ⟨by lia, by lia, hl⟩, Int.toNat_natCast]
theorem setIdxV_ok {h : H} {m q : Nat} {vs : List V} (e : h[m]? = some (.lst vs)) (g : q < vs.length) (v : V) : setIdxV h (.ref m) (.int q) v = .ok .none (h.set m (.lst (vs.set q v))) := by
  dsimp only [setIdxV]; rw [gL_ok e]; dsimp only
  rw [if_pos ⟨by lia, by lia⟩, Int.toNat_natCast]
/-- a way one place ahead -/
noncomputable def pro (ks : List Id) (q : Nat) (k : Id) : List Id := (ks.eraseIdx q).take (q - 1) ++ k :: (ks.eraseIdx q).drop (q - 1)
theorem pro_set {α : Type} (ks : List α) (q : Nat) (j k : α) (hk : ks[q + 1]? = some k) (hj : ks[q]? = some j) :
    (ks.set (q + 1) j).set q k = (ks.eraseIdx (q + 1)).take q ++ k :: (ks.eraseIdx (q + 1)).drop q := by
  induction ks generalizing q with
  | nil => simp at hk
  | cons x ks ih =>
    cases q with
    | zero =>
      cases ks with
      | nil => simp at hk
      | cons y ks => simp at hj hk; subst hj; subst hk; simp
    | succ q =>
      have := ih q (by simpa using hk) (by simpa using hj)
      simpa using this
theorem promote_ok {S : Sd} {h : H} {i : Id} {q : Nat} {k : Id} (o : Ok true S h) (hi : i ∈ S.ids) (hq : (S.a.re i).kids[q]? = some k) (hz : (S.a.re i).kids.length ≤ ML) (fu : Nat) {N : Nat} (hN : 2 ≤ N) :
    ∃ h', callN fu N 3 [.ref (S.A i 0), .int q] h = .ok .none h' ∧ Stp true S h (S.on (S.a.ks i (pro (S.a.re i).kids q k))) h' := by
  obtain ⟨n, rfl, hn⟩ := fuN hN
  have cw := check_way_ok o hi q fu hn
  have hql : q < (S.a.re i).kids.length := by
    rcases Nat.lt_or_ge q (S.a.re i).kids.length with g | g
    · exact g
    · rw [List.getElem?_eq_none g] at hq; cases hq
  rw [if_pos ⟨by lia, by lia⟩] at cw
  rw [callN_eq (k := 2) (b := b_promote_variation) (hk := rfl) (hb := rfl) (hl := rfl)]
  have hkm : k ∈ (S.a.re i).kids := List.mem_of_getElem? hq
  cases q with
  | zero =>
    refine ⟨h, ?_, ?_⟩
    · rw [b_promote_variation, ss_nxt (s_expr (x_call (x_args (x_var rfl) (x_args1 (x_var rfl))) cw)), ss_nxt (l' := params [.ref (S.A i 0), .int (0 : Nat)]) (h' := h) (s_else (e_cmp (x_var rfl) rfl rfl))]
      rfl
    · have e : S.a.ks i (pro (S.a.re i).kids 0 k) = S.a := by
        have : pro (S.a.re i).kids 0 k = (S.a.re i).kids := by
          cases g : (S.a.re i).kids with
          | nil => rw [g] at hq; simp at hq
          | cons x r => rw [g] at hq; simp at hq; subst hq; simp [pro]
        rw [this]; unfold Ab.ks Ab.put
        have : (fun j => if j = i then { S.a.re i with kids := (S.a.re i).kids } else S.a.re j) = S.a.re := by
          funext j; split
          · subst j; rfl
          · rfl
        rw [this]
      rw [e]; exact o.self
  | succ q =>
    have hj : (S.a.re i).kids[q]? = some (S.a.re i).kids[q] := List.getElem?_eq_getElem (by lia)
    generalize (S.a.re i).kids[q] = j at hj
    have s1 := ks_step o hi (ks := (S.a.re i).kids.set (q + 1) j) (fun c hc => by
      rcases List.mem_or_eq_of_mem_set hc with hc | rfl
      · exact o.cl i hi c hc
      · exact o.cl i hi c (List.mem_of_getElem? hj)) rfl
    have hre : ((S.on (S.a.ks i ((S.a.re i).kids.set (q + 1) j))).a.re i).kids = (S.a.re i).kids.set (q + 1) j := congrArg Rec.kids re_self
    have s2 := ks_step s1.ok (p := i) hi (ks := pro (S.a.re i).kids (q + 1) k) (fun c hc => by
      have : c ∈ (S.a.re i).kids := by
        unfold pro at hc
        rcases List.mem_append.1 hc with hc | hc
        · exact List.eraseIdx_subset (List.mem_of_mem_take hc)
        · rcases List.mem_cons.1 hc with rfl | hc
          · exact hkm
          · exact List.eraseIdx_subset (List.mem_of_mem_drop hc)
      exact o.cl i hi c this) rfl
    have e2 : ((S.on (S.a.ks i ((S.a.re i).kids.set (q + 1) j))).on ((S.on (S.a.ks i ((S.a.re i).kids.set (q + 1) j))).a.ks i (pro (S.a.re i).kids (q + 1) k))) = S.on (S.a.ks i (pro (S.a.re i).kids (q + 1) k)) := by
      simp only [Sd.on, Ab.ks, Ab.put]
      congr 2; funext x; split <;> simp [*]
    rw [e2] at s2
    refine ⟨_, ?_, s1.trans s2⟩
    have k1 := s1.ok.kids (i := i) hi
    rw [hre] at k1
    have a1 := s1.ok.avar (i := i) hi
    have si1 := setIdxV_ok (o.kids hi) (q := q + 1) (by simpa using hql) (.ref (S.A j 0))
    have si2 := setIdxV_ok k1 (q := q) (by simp; lia) (.ref (S.A k 0))
    have em : ((S.a.re i).kids.map fun k => V.ref (S.A k 0)).set (q + 1) (.ref (S.A j 0)) = (((S.a.re i).kids.set (q + 1) j).map fun k => V.ref (S.A k 0)) := by rw [List.map_set]
    rw [em] at si1
    have em2 : (((S.a.re i).kids.set (q + 1) j).map fun k => V.ref ((S.on (S.a.ks i ((S.a.re i).kids.set (q + 1) j))).A k 0)).set q (.ref (S.A k 0)) = ((pro (S.a.re i).kids (q + 1) k).map fun k => V.ref (S.A k 0)) := by
      have := pro_set _ _ _ _ hq hj
      unfold pro
      rw [Nat.add_sub_cancel, ← this]; simp only [Sd.on, List.map_set]
    rw [em2] at si2
    generalize h.set (S.A i 4) (.lst (((S.a.re i).kids.set (q + 1) j).map fun k => V.ref (S.A k 0))) = h1 at *
    have bs : ∀ h, binV .sub h (.int ((q + 1 : Nat) : Int)) (.int 1) = .ok (.int q) h := by
      intro h
      have hM : ML = 16777216 := rfl
      have s1 : sm ((q + 1 : Nat) : Int) := by unfold sm; lia
      have s2 : sm 1 := by unfold sm; lia
      have e : ((q + 1 : Nat) : Int) - 1 = q := by lia
      exact (if_pos ⟨s1, s2⟩).trans (by rw [e])
    have gt : cmpV .gt h (.int ((q + 1 : Nat) : Int)) (.int 0) = .ok (.bool true) h := congrArg (fun t => R.ok (V.bool t) h) (decide_eq_true (by lia : ((q + 1 : Nat) : Int) > 0))
    have ia := o.ikid hi hq
    have ib := o.ikid hi hj
    have av := o.avar hi
    have a1' : attrV h1 .variations (.ref (S.A i 0)) = .ok (.ref (S.A i 4)) h1 := a1
    have si2' : setIdxV h1 (.ref (S.A i 4)) (.int q) (.ref (S.A k 0)) = _ := si2
    have v0 : ∀ (l : Loc) (h : H), attrV h .variations (.ref (S.A i 0)) = .ok (.ref (S.A i 4)) h → l 0 = some (.ref (S.A i 0)) → evE ⟨fu, callN fu n⟩ (.attr (.var 0) .variations) l h = .ok (.ref (S.A i 4)) h := fun l h e e0 => x_attr (x_var e0) e
    rw [b_promote_variation, ss_nxt (s_expr (x_call (x_args (x_var rfl) (x_args1 (x_var rfl))) cw)),
      ss_nxt ((s_ite (e_cmp (x_var rfl) rfl gt)).trans ((ss_nxt (s_assign (x_idx (v0 _ _ av rfl) (x_var rfl) ia))).trans
        ((ss_nxt (s_setIdx (x_idx (v0 _ _ av rfl) (e_bin (x_var rfl) rfl (bs _)) ib) (v0 _ _ av rfl) (x_var rfl) si1)).trans (ss_nxt (s_setIdx (x_var rfl) (v0 _ _ a1' rfl) (e_bin (x_var rfl) rfl (bs _)) si2')))))]
    rfl
end MineB
end

section
namespace MineB
open Mine
set_option linter.unusedSimpArgs false
theorem lt_of_q {α : Type} {ks : List α} {q : Nat} {k : α} (h : ks[q]? = some k) : q < ks.length := by
  rcases Nat.lt_or_ge q ks.length with g | g
  · exact g
  · rw [List.getElem?_eq_none g] at h; cases h
theorem ks_ks (a : Ab) (i : Id) (xs ys : List Id) : (a.ks i xs).ks i ys = a.ks i ys := by
  show (Ab.put (Ab.put a i _) i _) = a.put i _
  rw [put_put]
  have h := congrArg (fun r : Rec => Rec.mk r.r r.n r.b ys) (re_self : (a.ks i xs).re i = ⟨(a.re i).r, (a.re i).n, (a.re i).b, xs⟩)
  exact congrArg (a.put i) h
theorem ks_re (a : Ab) (i : Id) (xs : List Id) : ((a.ks i xs).re i).kids = xs := congrArg Rec.kids re_self
theorem map_erase {α β : Type} (f : α → β) (ks : List α) (q : Nat) : (ks.map f).eraseIdx q = (ks.eraseIdx q).map f := by
  induction ks generalizing q with
  | nil => rfl
  | cons x ks ih => cases q with
    | zero => rfl
    | succ q => simp [ih]
/-- a way taken out of a list of ways -/
theorem pop_step {nd S h i} {q : Nat} {k : Id} (o : Ok nd S h) (hi : i ∈ S.ids) (hq : (S.a.re i).kids[q]? = some k) :
    ∃ h', popAtV h (.ref (S.A i 4)) (.int q) = .ok (.ref (S.A k 0)) h' ∧ Stp nd S h (S.on (S.a.ks i ((S.a.re i).kids.eraseIdx q))) h' := by
  refine ⟨_, ?_, ks_step o hi (fun c hc => o.cl i hi c (List.eraseIdx_subset hc)) rfl⟩
  rw [popAtV_ok (o.kids hi) (q := q) (v := .ref (S.A k 0)) (by simp [hq]), map_erase]
/-- a way put into a list of ways -/
theorem ins_step {nd S h i} {q : Nat} {k : Id} (o : Ok nd S h) (hi : i ∈ S.ids) (hk : k ∈ S.ids) (hq : q ≤ (S.a.re i).kids.length) (hz : (S.a.re i).kids.length < ML) :
    ∃ h', insertV h (.ref (S.A i 4)) (.int q) (.ref (S.A k 0)) = .ok .none h' ∧ Stp nd S h (S.on (S.a.ks i ((S.a.re i).kids.take q ++ k :: (S.a.re i).kids.drop q))) h' := by
  refine ⟨_, ?_, ks_step o hi (fun c hc => ?_) rfl⟩
  · rw [insertV_ok (o.kids hi) (q := q) (by simpa using hq) (by simpa using hz)]
    simp
  · rcases List.mem_append.1 hc with hc | hc
    · exact o.cl i hi c (List.mem_of_mem_take hc)
    · rcases List.mem_cons.1 hc with rfl | hc
      · exact hk
      · exact o.cl i hi c (List.mem_of_mem_drop hc)
theorem make_main_ok {S : Sd} {h : H} {i : Id} {q : Nat} {k : Id} (o : Ok true S h) (hi : i ∈ S.ids) (hq : (S.a.re i).kids[q]? = some k) (hz : (S.a.re i).kids.length ≤ ML) (fu : Nat) {N : Nat} (hN : 2 ≤ N) :
    ∃ h', callN fu N 4 [.ref (S.A i 0), .int q] h = .ok .none h' ∧ Stp true S h (S.on (S.a.ks i (k :: (S.a.re i).kids.eraseIdx q))) h' := by
  obtain ⟨n, rfl, hn⟩ := fuN hN
  have cw := check_way_ok o hi q fu hn
  have hql := lt_of_q hq
  rw [if_pos ⟨by lia, by lia⟩] at cw
  rw [callN_eq (k := 2) (b := b_make_main) (hk := rfl) (hb := rfl) (hl := rfl)]
  obtain ⟨h1, e1, s1⟩ := pop_step o hi hq
  obtain ⟨h2, e2, s2⟩ := ins_step s1.ok (i := i) (k := k) (q := 0) hi (o.cl i hi k (List.mem_of_getElem? hq)) (Nat.zero_le _) (by
    rw [show ((S.on (S.a.ks i ((S.a.re i).kids.eraseIdx q))).a.re i).kids = _ from ks_re _ _ _, List.length_eraseIdx]; split <;> lia)
  rw [show ((S.on (S.a.ks i ((S.a.re i).kids.eraseIdx q))).a.re i).kids = _ from ks_re _ _ _] at s2
  have e3 : (S.on (S.a.ks i ((S.a.re i).kids.eraseIdx q))).on ((S.on (S.a.ks i ((S.a.re i).kids.eraseIdx q))).a.ks i (((S.a.re i).kids.eraseIdx q).take 0 ++ k :: ((S.a.re i).kids.eraseIdx q).drop 0)) = S.on (S.a.ks i (k :: (S.a.re i).kids.eraseIdx q)) := by
    show ({ S with a := (S.a.ks i ((S.a.re i).kids.eraseIdx q)).ks i _ } : Sd) = _
    rw [ks_ks]; simp [Sd.on]
  rw [e3] at s2
  refine ⟨h2, ?_, s1.trans s2⟩
  have is := o.isK hi
  have e2' : insertV h1 (.ref (S.A i 4)) (.int 0) (.ref (S.A k 0)) = .ok .none h2 := e2
  simp [b_make_main, cw, o.avar hi, is, e1, e2']
theorem remove_ok {S : Sd} {h : H} {i : Id} {q : Nat} {k : Id} (o : Ok true S h) (hi : i ∈ S.ids) (hq : (S.a.re i).kids[q]? = some k) (fu : Nat) {N : Nat} (hN : 2 ≤ N) :
    ∃ h', callN fu N 5 [.ref (S.A i 0), .int q] h = .ok (.ref (S.A k 0)) h' ∧ Stp true S h (S.on ((S.a.ks i ((S.a.re i).kids.eraseIdx q)).cut k)) h' := by
  obtain ⟨n, rfl, hn⟩ := fuN hN
  have cw := check_way_ok o hi q fu hn
  have hql := lt_of_q hq
  rw [if_pos ⟨by lia, by lia⟩] at cw
  rw [callN_eq (k := 2) (b := b_remove_variation) (hk := rfl) (hb := rfl) (hl := rfl)]
  obtain ⟨h1, e1, s1⟩ := pop_step o hi hq
  have hk : k ∈ S.ids := o.cl i hi k (List.mem_of_getElem? hq)
  have s2 := cut_stepN s1.ok (k := k) hk
  refine ⟨_, ?_, s1.trans s2⟩
  have is := o.isK hi
  have n0 := s1.ok.n0 (i := k) hk
  have sa : setAttrV h1 .parent .none (.ref (S.A k 0)) = .ok .none (h1.set (S.A k 0) (.node [(.move, .int (mv k)), (.parent, .none), (.word, .str), (.place, .int (-1)),
        (.variations, .ref (S.A k 4)), (.remarks, .ref (S.A k 1)), (.nags, .ref (S.A k 2)), (.before, .ref (S.A k 3))])) := by
    have n0' : h1[S.A k 0]? = _ := n0
    dsimp only [setAttrV]; rw [n0']
    show (if 8 ≤ 20 then _ else _) = _
    rw [if_pos (by decide)]; rfl
  simp [b_remove_variation, cw, o.avar hi, is, e1, sa]
  rfl
/-- the three turns -/
noncomputable def turnA (d : Nat) (a : Ab) (i : Id) (q : Nat) (k : Id) : Ab := match d with
  | 3 => a.ks i (pro (a.re i).kids q k)
  | 4 => a.ks i (k :: (a.re i).kids.eraseIdx q)
  | _ => (a.ks i ((a.re i).kids.eraseIdx q)).cut k
theorem raises_turn {S : Sd} {h : H} {i : Id} (o : Ok true S h) (hi : i ∈ S.ids) {k : Int} (hk : ¬ (0 ≤ k ∧ k < (S.a.re i).kids.length)) (fu : Nat) {N f : Nat} (hN : 2 ≤ N) (hf : f = 3 ∨ f = 4 ∨ f = 5) :
    callN fu N f [.ref (S.A i 0), .int k] h = .exc h := by
  obtain ⟨n, rfl, hn⟩ := fuN hN
  have cw := check_way_ok o hi k fu hn
  rw [if_neg hk] at cw
  rcases hf with rfl | rfl | rfl
  · rw [callN_eq (k := 2) (b := b_promote_variation) (hk := rfl) (hb := rfl) (hl := rfl)]
    simp [b_promote_variation, cw]
  · rw [callN_eq (k := 2) (b := b_make_main) (hk := rfl) (hb := rfl) (hl := rfl)]
    simp [b_make_main, cw]
  · rw [callN_eq (k := 2) (b := b_remove_variation) (hk := rfl) (hb := rfl) (hl := rfl)]
    simp [b_remove_variation, cw]
theorem law_turn_bad {L N : Sd} {h : H} {i : Id} (t : Two L N h) (hl : i ∈ L.ids) (hn : i ∈ N.ids) (ha : L.a = N.a) {k : Int} (hk : ¬ (0 ≤ k ∧ k < (L.a.re i).kids.length))
    {d : Int} (hd : 3 ≤ d ∧ d ≤ 5) (kp : Nat) (fu : Nat) {M : Nat} (hM : 3 ≤ M) :
    callN fu M 27 [.int d, .ref (L.A i 0), .ref (N.A i 0), .int k, .ref kp] h = .ok (.bool true) h := by
  obtain ⟨n, rfl, hn'⟩ := fuN hM
  have hk' : ¬ (0 ≤ k ∧ k < (N.a.re i).kids.length) := by rw [← ha]; exact hk
  have r3 := raises_turn t.n hn hk' fu hn' (f := 3) (by simp)
  have r4 := raises_turn t.n hn hk' fu hn' (f := 4) (by simp)
  have r5 := raises_turn t.n hn hk' fu hn' (f := 5) (by simp)
  rw [callN_eq (k := 5) (b := b_law_turn) (hk := rfl) (hb := rfl) (hl := rfl)]
  have lk := t.l.lenK hl
  have hd' : d = 3 ∨ d = 4 ∨ d = 5 := by lia
  by_cases g1 : 0 ≤ k
  · have g2 : ¬ k < (L.a.re i).kids.length := fun g => hk ⟨g1, g⟩
    rcases hd' with rfl | rfl | rfl <;> simp [b_law_turn, t.l.ikids hl, r3, r4, r5, lk, g1, g2]
  · rcases hd' with rfl | rfl | rfl <;> simp [b_law_turn, t.l.ikids hl, r3, r4, r5, lk, g1]
end MineB
end

section
namespace MineB
open Mine
set_option linter.unusedSimpArgs false
/-- as Stw, but for one cell -/
structure StK (kp : Nat) (L N : Sd) (h : H) (L' N' : Sd) (h' : H) : Prop where
  two : Two L' N' h'
  sl : ∀ i ∈ L.ids, i ∈ L'.ids ∧ L'.A i 0 = L.A i 0
  sn : ∀ i ∈ N.ids, i ∈ N'.ids ∧ N'.A i 0 = N.A i 0
  len : h.length ≤ h'.length
  fr : ∀ x c, x ≠ kp → h[x]? = some c → Out L x → Out N x → h'[x]? = some c ∧ Out L' x ∧ Out N' x
theorem Stw.toK {L N h L' N' h'} (s : Stw L N h L' N' h') (kp : Nat) : StK kp L N h L' N' h' := ⟨s.two, s.sl, s.sn, s.len, fun x c _ => s.fr x c⟩
theorem StK.trans {kp L N h L' N' h' L'' N'' h''} (s : StK kp L N h L' N' h') (t : StK kp L' N' h' L'' N'' h'') : StK kp L N h L'' N'' h'' :=
  ⟨t.two, fun i hi => ⟨(t.sl i (s.sl i hi).1).1, ((t.sl i (s.sl i hi).1).2).trans (s.sl i hi).2⟩, fun i hi => ⟨(t.sn i (s.sn i hi).1).1, ((t.sn i (s.sn i hi).1).2).trans (s.sn i hi).2⟩,
   Nat.le_trans s.len t.len, fun x c e g o1 o2 => by obtain ⟨a, b, d⟩ := s.fr x c e g o1 o2; exact t.fr x c e a b d⟩
theorem Ok.setOut {nd S h x} (o : Ok nd S h) (ho : Out S x) (c : Cell) : Ok nd S (h.set x c) :=
  ⟨fun i hi p hp => by rw [List.getElem?_set_ne (Ne.symm (ho i hi p hp))]; exact o.c i hi p hp, o.inj, o.cl, o.pu⟩
theorem Two.setK {L N h kp} (t : Two L N h) (o1 : Out L kp) (o2 : Out N kp) (c : Cell) : StK kp L N h L N (h.set kp c) :=
  ⟨⟨t.l.setOut o1 c, t.n.setOut o2 c, t.d⟩, fun _ hi => ⟨hi, rfl⟩, fun _ hi => ⟨hi, rfl⟩, by simp, fun x c e g a b => ⟨by rw [List.getElem?_set_ne (Ne.symm e)]; exact g, a, b⟩⟩
theorem law_turn_ok {L N : Sd} {h : H} {i kd : Id} {q : Nat} (t : Two L N h) (hl : i ∈ L.ids) (hn : i ∈ N.ids) (ha : L.a = N.a) (hq : (L.a.re i).kids[q]? = some kd)
    (hz : (L.a.re i).kids.length ≤ ML) (hlv : lvl kd ≤ 36) {d : Nat} (hd : 3 ≤ d ∧ d ≤ 5) {kp : Nat} {x y : V} (hkp : h[kp]? = some (.lst [x, y])) (o1 : Out L kp) (o2 : Out N kp)
    {fu : Nat} (hf : FU ≤ fu) {M : Nat} (hM : 3 ≤ M) :
    ∃ L' N' h', C9 (callN fu M 27 [.int d, .ref (L.A i 0), .ref (N.A i 0), .int q, .ref kp] h = .ok (.bool true) h') (StK kp L N h L' N' h') (L'.a = turnA d L.a i q kd) (N'.a = turnA d L.a i q kd) (L'.ids = L.ids) (N'.ids = N.ids) (h'[kp]? = some (if d = 5 then .lst [.ref (L'.A kd 0), .ref (N'.A kd 0)] else .lst [x, y])) (Out L' kp) (Out N' kp) := by
  obtain ⟨n, rfl, hn'⟩ := fuN hM
  have hq2 : (N.a.re i).kids[q]? = some kd := by rw [← ha]; exact hq
  have hz2 : (N.a.re i).kids.length ≤ ML := by rw [← ha]; exact hz
  rw [callN_eq (k := 5) (b := b_law_turn) (hk := rfl) (hb := rfl) (hl := rfl)]
  have hql := lt_of_q hq
  have hkl : kd ∈ L.ids := t.l.cl i hl kd (List.mem_of_getElem? hq)
  have hkn : kd ∈ N.ids := t.n.cl i hn kd (List.mem_of_getElem? hq2)
  have g1 : (0 : Int) ≤ q := by lia
  have g2 : (q : Int) < (L.a.re i).kids.length := by lia
  have hd' : d = 3 ∨ d = 4 ∨ d = 5 := by lia
  rcases hd' with rfl | rfl | rfl
  · -- promote
    obtain ⟨h1, e1, s1⟩ := promote_ok t.n hn hq2 hz2 fu (N := n) (by lia)
    have w1 := t.right s1
    obtain ⟨h2, e2, s2⟩ := pop_step w1.two.l hl hq
    have w2 := w1.two.left s2
    have kr : ∀ (S : Sd) xs, ((S.on (S.a.ks i xs)).a.re i).kids = xs := fun S xs => ks_re _ _ _
    obtain ⟨h3, e3, s3⟩ := ins_step w2.two.l (i := i) (k := kd) (q := q - 1) hl hkl (by rw [kr, List.length_eraseIdx]; split <;> lia) (by rw [kr, List.length_eraseIdx]; split <;> lia)
    rw [kr] at s3
    have w3 := w2.two.left s3
    have w := (w1.trans w2).trans w3
    obtain ⟨k1, k2, k3⟩ := w.fr kp _ hkp o1 o2
    refine ⟨_, _, h3, ?_, w.toK kp, ?_, ?_, rfl, rfl, k1, k2, k3⟩
    · have lk1 := w1.two.l.lenK hl
      have e2' : popAtV h1 (.ref (L.A i 4)) (.int q) = .ok (.ref (L.A kd 0)) h2 := e2
      have e3' : insertV h2 (.ref (L.A i 4)) (.int ((q - 1 : Nat) : Int)) (.ref (L.A kd 0)) = .ok .none h3 := e3
      have is1 := w1.two.l.isK hl
      have is2 : isLst h2 (.ref (L.A i 4)) = true := w2.two.l.isK (i := i) hl
      have bs : ∀ h, binV .sub h (.int q) (.int 1) = .ok (.int (q - 1)) h := by
        intro h
        have hM : ML = 16777216 := rfl
        have s1 : sm (q : Int) := sm_len (by lia)
        have s2 : sm 1 := by unfold sm; lia
        exact bin_sub s1 s2
      have mxv : ∀ (h : H) (i j : Int), max2V h (.int i) (.int j) = .ok (.int (max i j)) h := fun _ _ _ => rfl
      have mx : max ((q : Int) - 1) 0 = ((q - 1 : Nat) : Int) := by lia
      simp [b_law_turn, t.l.ikids hl, e1, lk1, g1, g2, is1, e2', is2, bs, mxv, mx, e3']
    · show (L.a.ks i _).ks i _ = _
      rw [ks_ks]; rfl
    · show N.a.ks i (pro _ q kd) = _
      rw [← ha]; rfl
  · -- make_main
    obtain ⟨h1, e1, s1⟩ := make_main_ok t.n hn hq2 hz2 fu (N := n) (by lia)
    have w1 := t.right s1
    obtain ⟨h2, e2, s2⟩ := pop_step w1.two.l hl hq
    have w2 := w1.two.left s2
    have kr : ∀ (S : Sd) xs, ((S.on (S.a.ks i xs)).a.re i).kids = xs := fun S xs => ks_re _ _ _
    obtain ⟨h3, e3, s3⟩ := ins_step w2.two.l (i := i) (k := kd) (q := 0) hl hkl (Nat.zero_le _) (by rw [kr, List.length_eraseIdx]; split <;> lia)
    rw [kr] at s3
    have w3 := w2.two.left s3
    have w := (w1.trans w2).trans w3
    obtain ⟨k1, k2, k3⟩ := w.fr kp _ hkp o1 o2
    refine ⟨_, _, h3, ?_, w.toK kp, ?_, ?_, rfl, rfl, k1, k2, k3⟩
    · have lk1 := w1.two.l.lenK hl
      have e2' : popAtV h1 (.ref (L.A i 4)) (.int q) = .ok (.ref (L.A kd 0)) h2 := e2
      have e3' : insertV h2 (.ref (L.A i 4)) (.int 0) (.ref (L.A kd 0)) = .ok .none h3 := e3
      have is1 := w1.two.l.isK hl
      have is2 : isLst h2 (.ref (L.A i 4)) = true := w2.two.l.isK (i := i) hl
      simp [b_law_turn, t.l.ikids hl, e1, lk1, g1, g2, is1, e2', is2, e3']
    · show (L.a.ks i _).ks i _ = _
      rw [ks_ks]; simp [turnA]
    · show N.a.ks i (kd :: _) = _
      rw [← ha]; rfl
  · -- remove
    obtain ⟨h1, e1, s1⟩ := remove_ok t.n hn hq2 fu (N := n) (by lia)
    have w1 := t.right s1
    obtain ⟨h2, e2, s2⟩ := pop_step w1.two.l hl hq
    have w2 := w1.two.left s2
    have w2' := w2.two.left (cut_stepL w2.two.l kd)
    have w := (w1.trans w2).trans w2'
    obtain ⟨k1, k2, k3⟩ := w.fr kp _ hkp o1 o2
    have w3 := w.two.setK k2 k3 (.lst [.ref (L.A kd 0), y])
    have k4 : (h2.set kp (.lst [.ref (L.A kd 0), y]))[kp]? = some (.lst [.ref (L.A kd 0), y]) := get_set_self k1 _
    have w4 := w3.two.setK k2 k3 (.lst [.ref (L.A kd 0), .ref (N.A kd 0)])
    have k5 := get_set_self k4 (.lst [.ref (L.A kd 0), .ref (N.A kd 0)])
    obtain ⟨z, h5, e5, x5, p5, _⟩ := line_to_ok w4.two.n (i := kd) hkn hlv hf (N := n) (by lia)
    have ww := ((((w.toK kp).trans w3).trans w4).trans ((w4.two.ext x5).toK kp))
    have ww2 := ww.trans ((ww.two.ext (Ext.app h5 [.lst []])).toK kp)
    refine ⟨(L.on (L.a.ks i ((L.a.re i).kids.eraseIdx q))).on ((L.on (L.a.ks i ((L.a.re i).kids.eraseIdx q))).a.cut kd), N.on ((N.a.ks i ((N.a.re i).kids.eraseIdx q)).cut kd), h5 ++ [.lst []], ?_, ww2, ?_, ?_, rfl, rfl, ?_, k2, k3⟩
    · have lk1 := w1.two.l.lenK hl
      have e2' : popAtV h1 (.ref (L.A i 4)) (.int q) = .ok (.ref (L.A kd 0)) h2 := e2
      have is1 := w1.two.l.isK hl
      have si1 := setIdxV_ok k1 (q := 0) (by simp) (.ref (L.A kd 0))
      have si2 := setIdxV_ok k4 (q := 1) (by simp) (.ref (N.A kd 0))
      have e5' : callN fu n 9 [.ref (N.A kd 0)] ((h2.set kp (.lst [.ref (L.A kd 0), y])).set kp (.lst [.ref (L.A kd 0), .ref (N.A kd 0)])) = .ok (.ref z) h5 := e5
      have si1' : setIdxV h2 (.ref kp) (.int 0) (.ref (L.A kd 0)) = .ok .none (h2.set kp (.lst [.ref (L.A kd 0), y])) := by simpa using si1
      have si2' : setIdxV (h2.set kp (.lst [.ref (L.A kd 0), y])) (.ref kp) (.int 1) (.ref (N.A kd 0)) = .ok .none ((h2.set kp (.lst [.ref (L.A kd 0), y])).set kp (.lst [.ref (L.A kd 0), .ref (N.A kd 0)])) := by
        have := si2
        rw [show ((1 : Nat) : Int) = 1 from rfl] at this
        rw [this]; congr 1
      have pn : pth ((N.on ((N.a.ks i ((N.a.re i).kids.eraseIdx q)).cut kd))).a kd = [] := pth_not cut_self
      rw [pn] at p5
      have p6 : (h5 ++ [Cell.lst []])[z]? = some (intC []) := Ext.app h5 [.lst []] _ _ p5
      have p7 : (h5 ++ [Cell.lst []])[h5.length]? = some (intC []) := by simp [intC]
      have eq := eqV_ints (n := 7) p6 p7
      generalize (h2.set kp (.lst [.ref (L.A kd 0), y])).set kp (.lst [.ref (L.A kd 0), .ref (N.A kd 0)]) = h4 at *
      generalize (h2.set kp (.lst [.ref (L.A kd 0), y])) = h3 at *
      simp [b_law_turn, t.l.ikids hl, e1, lk1, g1, g2, is1, e2', si1', si2', e5', alloc, cEq eq]
    · rfl
    · show (N.a.ks i _).cut kd = _
      rw [← ha]; rfl
    · rw [if_pos rfl]
      exact Ext.app h5 [.lst []] _ _ (x5 _ _ k5)
end MineB
end

section
namespace MineB
open Mine
set_option linter.unusedSimpArgs false
noncomputable def pre (a : Ab) : Nat → Id → List Id
  | 0, _ => []
  | n + 1, i => i :: (a.re i).kids.flatMap (pre a n)
noncomputable def Dp (a : Ab) : Nat → Id → Prop
  | 0, _ => False
  | n + 1, i => ∀ k ∈ (a.re i).kids, Dp a n k
theorem Tr.dp {a ids} (t : Tr a ids) : ∀ (n : Nat) (i : Id), i ∈ ids → 36 < lvl i + n → Dp a n i
  | 0, i, hi, g => absurd g (by have := t.lv i hi; lia)
  | n + 1, i, hi, g => fun k hk => by
    have := t.kd i hi k hk
    refine t.dp n k this.1 ?_
    have e : lvl k = lvl i + 1 := by
      rw [← this.2.2.2]; unfold lvl up
      have := List.length_pos_iff.2 this.2.2.1
      simp; lia
    lia
theorem pre_ids {a ids} (t : Tr a ids) : ∀ (n : Nat) (i : Id), i ∈ ids → ∀ j ∈ pre a n i, j ∈ ids
  | 0, _, _, j, hj => by cases hj
  | n + 1, i, hi, j, hj => by
    rcases List.mem_cons.1 hj with rfl | hj
    · exact hi
    · obtain ⟨k, hk, hj⟩ := List.mem_flatMap.1 hj
      exact pre_ids t n k (t.kd i hi k hk).1 j hj
theorem pre_suf {a ids} (t : Tr a ids) : ∀ (n : Nat) (i : Id), i ∈ ids → ∀ j ∈ pre a n i, j.1 = i.1 ∧ i.2 <:+ j.2
  | 0, _, _, j, hj => by cases hj
  | n + 1, i, hi, j, hj => by
    rcases List.mem_cons.1 hj with rfl | hj
    · exact ⟨rfl, List.suffix_refl _⟩
    · obtain ⟨k, hk, hj⟩ := List.mem_flatMap.1 hj
      have := t.kd i hi k hk
      obtain ⟨e1, e2⟩ := pre_suf t n k this.1 j hj
      rw [← this.2.2.2]
      exact ⟨e1, List.IsSuffix.trans (List.tail_suffix _) e2⟩
theorem suf_eq {α : Type} {x y z : List α} (a : x <:+ z) (b : y <:+ z) (e : x.length = y.length) : x = y := by
  obtain ⟨p, rfl⟩ := a
  obtain ⟨q, g⟩ := b
  have : q.length = p.length := by have := congrArg List.length g; simp at this; lia
  exact (List.append_inj g this).2.symm
theorem kid_lvl {a ids} (t : Tr a ids) {i k} (hi : i ∈ ids) (hk : k ∈ (a.re i).kids) : lvl k = lvl i + 1 ∧ k.1 = i.1 := by
  have := t.kd i hi k hk
  rw [← this.2.2.2]; unfold lvl up
  have := List.length_pos_iff.2 this.2.2.1
  exact ⟨by simp; lia, rfl⟩
theorem pre_nodup {a ids} (t : Tr a ids) : ∀ (n : Nat) (i : Id), i ∈ ids → (pre a n i).Nodup
  | 0, _, _ => List.nodup_nil
  | n + 1, i, hi => by
    dsimp only [pre]; rw [List.nodup_cons]
    constructor
    · intro h
      obtain ⟨k, hk, hj⟩ := List.mem_flatMap.1 h
      have e := (pre_suf t n k (t.kd i hi k hk).1 i hj).2.length_le
      have := (kid_lvl t hi hk).1
      unfold lvl at this; lia
    · unfold List.Nodup
      rw [List.pairwise_flatMap]
      constructor
      · intro k hk; exact pre_nodup t n k (t.kd i hi k hk).1
      · have := t.nd i hi
        unfold List.Nodup at this
        refine List.Pairwise.imp_of_mem ?_ this
        intro k k' hk hk' ne x hx y hy e
        subst e
        have a1 := pre_suf t n k (t.kd i hi k hk).1 x hx
        have a2 := pre_suf t n k' (t.kd i hi k' hk').1 x hy
        have l1 := kid_lvl t hi hk
        have l2 := kid_lvl t hi hk'
        apply ne
        have := suf_eq a1.2 a2.2 (by have := l1.1; have := l2.1; unfold lvl at *; lia)
        exact Prod.ext (l1.2.trans l2.2.symm) this
theorem pre_len {a ids} (t : Tr a ids) (n : Nat) (i : Id) (hi : i ∈ ids) : (pre a n i).length ≤ ids.length :=
  (pre_nodup t n i hi).length_le_of_subset fun j hj => pre_ids t n i hi j hj
theorem pth_kid {a ids} (t : Tr a ids) {i k} (hi : i ∈ ids) (hk : k ∈ (a.re i).kids) : pth a k = pth a i ++ [mv k] := by
  have := t.kd i hi k hk
  rw [pth_att this.2.1 this.2.2.1, this.2.2.2]
/-! _law_all -/
noncomputable def AllL (S : Sd) (h : H) : List Id → List V → Prop
  | [], [] => True
  | j :: js, v :: vs => (∃ t pa, C3 (v = .ref t) (h[t]? = some (.tup [.ref (S.A j 0), .ref pa])) (h[pa]? = some (intC (pth S.a j)))) ∧ AllL S h js vs
  | _, _ => False
theorem AllL.imp {S : Sd} {h h' : H} : ∀ {js : List Id} {vs : List V}, AllL S h js vs →
    (∀ (t pa : Nat) (j : Id), h[t]? = some (.tup [.ref (S.A j 0), .ref pa]) → h'[t]? = some (.tup [.ref (S.A j 0), .ref pa])) → (∀ (pa : Nat) (j : Id), h[pa]? = some (intC (pth S.a j)) → h'[pa]? = some (intC (pth S.a j))) → AllL S h' js vs
  | [], [], _, _, _ => trivial
  | _ :: _, _ :: _, ⟨⟨t, pa, e, e1, e2⟩, r⟩, f, g => ⟨⟨t, pa, e, f t pa _ e1, g pa _ e2⟩, AllL.imp r f g⟩
  | [], _ :: _, h, _, _ => h.elim
  | _ :: _, [], h, _, _ => h.elim
theorem AllL.ext {S : Sd} {h h' : H} {js : List Id} {vs : List V} (a : AllL S h js vs) (e : Ext h h') : AllL S h' js vs :=
  a.imp (fun _ _ _ g => e _ _ g) (fun _ _ g => e _ _ g)
theorem AllL.set {S : Sd} {h : H} {js : List Id} {vs : List V} (a : AllL S h js vs) {m z : Nat} {r : List V} (e : h[m]? = some (.lst (.ref z :: r))) (c : Cell) : AllL S (h.set m c) js vs := by
  refine a.imp (fun t pa j g => ?_) (fun pa j g => ?_)
  · have : m ≠ t := by rintro rfl; rw [e] at g; cases g
    rw [List.getElem?_set_ne this]; exact g
  · have : m ≠ pa := by
      rintro rfl; rw [e] at g
      unfold intC at g
      cases h : pth S.a j <;> rw [h] at g <;> simp at g
    rw [List.getElem?_set_ne this]; exact g
theorem AllL.append {S : Sd} {h : H} : ∀ {js js' : List Id} {vs vs' : List V}, AllL S h js vs → AllL S h js' vs' → AllL S h (js ++ js') (vs ++ vs')
  | [], _, [], _, _, b => b
  | _ :: _, _, _ :: _, _, ⟨x, r⟩, b => ⟨x, AllL.append r b⟩
  | [], _, _ :: _, _, h, _ => h.elim
  | _ :: _, _, [], _, h, _ => h.elim
theorem AllL.len {S : Sd} {h : H} : ∀ {js : List Id} {vs : List V}, AllL S h js vs → js.length = vs.length
  | [], [], _ => rfl
  | _ :: _, _ :: _, ⟨_, r⟩ => by simp [AllL.len r]
  | [], _ :: _, h => h.elim
  | _ :: _, [], h => h.elim
theorem AllL.get {S : Sd} {h : H} : ∀ {js : List Id} {vs : List V} {k : Nat} {j : Id}, AllL S h js vs → js[k]? = some j →
    ∃ t pa, C3 (vs[k]? = some (.ref t)) (h[t]? = some (.tup [.ref (S.A j 0), .ref pa])) (h[pa]? = some (intC (pth S.a j)))
  | [], _, _, _, _, e => by simp at e
  | _ :: _, _ :: _, 0, _, ⟨⟨t, pa, rfl, b, c⟩, _⟩, e => by simp at e; subst e; exact ⟨t, pa, rfl, b, c⟩
  | _ :: _, _ :: _, k + 1, _, ⟨_, r⟩, e => by
    obtain ⟨t, pa, x⟩ := AllL.get (k := k) r (by simpa using e); exact ⟨t, pa, by simpa using x⟩
  | _ :: _, [], _, _, h, _ => h.elim
theorem extendV_ok {h : H} {m m' : Nat} {vs ws : List V} (e : h[m]? = some (.lst vs)) (e' : h[m']? = some (.lst ws)) (hl : vs.length + ws.length ≤ ML) : extendV h (.ref m) (.ref m') = .ok .none (h.set m (.lst (vs ++ ws))) := by
  have e1 : gL h (.ref m) = some (m, vs) := gL_ok e
  have e2 : gL h (.ref m') = some (m', ws) := gL_ok e'
  dsimp only [extendV]; rw [e1, e2]
  exact if_pos hl
theorem addV_ok {h : H} {m m' : Nat} {vs ws : List V} (e : h[m]? = some (.lst vs)) (e' : h[m']? = some (.lst ws)) (hl : vs.length + ws.length ≤ ML) : binV .add h (.ref m) (.ref m') = .ok (.ref h.length) (h ++ [.lst (vs ++ ws)]) := by
  show addV h (.ref m) (.ref m') = _
  dsimp only [addV]; rw [gL_ok e, gL_ok e']
  exact if_pos hl
noncomputable def allBody : Ss := .cons (.expr (.extend (.var 2) (.call 20 (.cons (.var 3) (.cons (.bin .add (.var 1) (.lst (.cons (.idx (.var 3) (.int 0)) .nil))) .nil))))) .nil
theorem law_all_ok {S : Sd} (t : Tr S.a S.ids) (hz : S.ids.length ≤ ML) {fu : Nat} (hf : FU ≤ fu) : ∀ (m : Nat) (i : Id) (h : H) (pp : Nat) (M : Nat), Ok false S h → i ∈ S.ids → Dp S.a m i → h[pp]? = some (intC (pth S.a i)) → m ≤ M →
    ∃ out h' z r, C5 (callN fu M 20 [.ref (S.A i 0), .ref pp] h = .ok (.ref out) h') (Ext h h') (h'[out]? = some (.lst (.ref z :: r))) (AllL S h' (pre S.a m i) (.ref z :: r)) (h.length ≤ out) := by
  intro m
  induction m with
  | zero => intro i h pp M _ _ d; exact d.elim
  | succ m ih =>
    intro i h pp M o hi d hpp hM
    obtain ⟨n, rfl, hn⟩ := fuN (c := m) (by omega)
    have hFU : ML + 100 ≤ fu := Nat.le_trans (by decide) hf
    have hM36 : 100 ≤ ML := by decide
    rw [callN_eq (k := 2) (b := b_law_all) (hk := rfl) (hb := rfl) (hl := rfl)]
    -- the loop
    have loop : ∀ (ks dn : List Id) (l : Loc) (h1 : H) (z : Nat) (r : List V), (S.a.re i).kids = dn ++ ks → l 1 = some (.ref pp) → l 2 = some (.ref (h.length + 1)) → Ext h h1 → h1[h.length + 1]? = some (.lst (.ref z :: r)) →
        AllL S h1 (i :: dn.flatMap (pre S.a m)) (.ref z :: r) → ∀ g, ks.length < g →
        ∃ l' h2 r', C5 (forN 3 (S.A i 4) (evSs ⟨fu, callN fu n⟩ allBody) g dn.length l h1 = .nxt l' h2) (l' 2 = some (.ref (h.length + 1))) (Ext h h2) (h2[h.length + 1]? = some (.lst (.ref z :: r'))) (AllL S h2 (pre S.a (m + 1) i) (.ref z :: r')) := by
      intro ks
      induction ks with
      | nil =>
        intro dn l h1 z r ek l1 l2 e hz1 al g hg
        obtain ⟨g', rfl, _⟩ := fuN (c := 0) (N := g) hg
        have o1 := o.ext e
        refine ⟨l, h1, r, for_end (o1.kids hi) (by simp [ek]), l2, e, hz1, ?_⟩
        dsimp only [pre]; rw [ek]; simpa using al
      | cons k ks ihk =>
        intro dn l h1 z r ek l1 l2 e hz1 al g hg
        obtain ⟨g', rfl, hg'⟩ := fuN (c := ks.length + 1) (N := g) hg
        have o1 := o.ext e
        have hkm : k ∈ (S.a.re i).kids := by rw [ek]; simp
        have hk : k ∈ S.ids := o.cl i hi k hkm
        have pl := pth_len S.a i
        have pl2 := t.lv i hi
        -- the path
        have x1 : (h1 ++ [intC [mv k]])[pp]? = some (intC (pth S.a i)) := Ext.app _ _ _ _ (e _ _ hpp)
        have x2 : (h1 ++ [intC [mv k]])[h1.length]? = some (intC [mv k]) := by simp
        have ad := addV_ok x1 x2 (by simp; lia)
        have ec : Cell.lst ((pth S.a i).map V.int ++ [mv k].map V.int) = intC (pth S.a k) := by rw [pth_kid t hi hkm]; simp [intC]
        rw [ec] at ad
        have o2 : Ok false S (h1 ++ [intC [mv k]] ++ [intC (pth S.a k)]) := (o1.ext (Ext.app _ _)).ext (Ext.app _ _)
        obtain ⟨out', h2, z', r', e3, x3, y3, al3, g3⟩ := ih k _ (h1 ++ [intC [mv k]]).length n o2 hk (d k hkm) (get_app_len _ _ _) hn
        have xx : Ext h1 h2 := ((Ext.app h1 _).trans (Ext.app _ _)).trans x3
        have hz2 := xx _ _ hz1
        have al2 := al.ext xx
        have ln := al2.len
        have ln3 := al3.len
        have tot : (i :: dn.flatMap (pre S.a m)).length + (pre S.a m k).length ≤ ML := by
          have := pre_len t (m + 1) i hi
          dsimp only [pre] at this; rw [ek] at this
          simp at this ⊢; lia
        have ex := extendV_ok hz2 y3 (by lia)
        have is := isLst_ok hz1
        have bd : evSs ⟨fu, callN fu n⟩ allBody (l.set 3 (.ref (S.A k 0))) h1 = .nxt (l.set 3 (.ref (S.A k 0))) (h2.set (h.length + 1) (.lst (.ref z :: (r ++ .ref z' :: r')))) := by
          have im := o1.imove hk
          have al' : alloc (.lst [.int (mv k)]) h1 = .ok (.ref h1.length) (h1 ++ [intC [mv k]]) := by simp [alloc, intC]
          simp [allBody, l1, l2, im, al', ad, is]
          have e3' : callN fu n 20 [.ref (S.A k 0), .ref (h1.length + 1)] (h1 ++ [intC [mv k], intC (pth S.a k)]) = .ok (.ref out') h2 := by simpa using e3
          rw [e3']; simp [ex]
        rw [for_nxt (o1.kids hi) (v := .ref (S.A k 0)) (by rw [ek]; simp) bd]
        have x5 : Ext h (h2.set (h.length + 1) (.lst (.ref z :: (r ++ .ref z' :: r')))) := (e.trans xx).set _ (by lia)
        have al5 : AllL S (h2.set (h.length + 1) (.lst (.ref z :: (r ++ .ref z' :: r')))) (i :: (dn ++ [k]).flatMap (pre S.a m)) (.ref z :: (r ++ .ref z' :: r')) := by
          have := (al2.append al3).set hz2 (.lst (.ref z :: (r ++ .ref z' :: r')))
          simpa using this
        have := ihk (dn ++ [k]) (l.set 3 (.ref (S.A k 0))) _ z _ (by rw [ek]; simp) l1 l2 x5 (get_set_self hz2 _) al5 g' (by lia)
        simpa using this
    have h0 : Ext h (h ++ [.tup [.ref (S.A i 0), .ref pp]] ++ [.lst [.ref h.length]]) := (Ext.app _ _).trans (Ext.app _ _)
    have kl : (S.a.re i).kids.length < fu := by have := t.kl hi; lia
    obtain ⟨l', h2, r', e4, l2, x4, z4, al4⟩ := loop (S.a.re i).kids [] (((params [.ref (S.A i 0), .ref pp])).set 2 (.ref (h.length + 1))) (h ++ [.tup [.ref (S.A i 0), .ref pp]] ++ [.lst [.ref h.length]]) h.length [] rfl
      rfl rfl h0 (by simp) ⟨⟨h.length, pp, rfl, by simp, h0 _ _ hpp⟩, trivial⟩ fu kl
    refine ⟨h.length + 1, h2, h.length, r', ?_, x4, z4, al4, by lia⟩
    rw [b_law_all, ss_nxt (l' := (params [.ref (S.A i 0), .ref pp]).set 2 (.ref (h.length + 1))) (h' := h ++ [.tup [.ref (S.A i 0), .ref pp]] ++ [.lst [.ref h.length]]) (by simp [alloc])]
    have o5 := o.ext h0
    rw [ss_nxt (l' := l') (h' := h2) (by
      have ik := o5.ikids hi
      have e4' := e4
      have : evE ⟨fu, callN fu n⟩ (.idx (.var 0) (.int 4)) ((params [.ref (S.A i 0), .ref pp]).set 2 (.ref (h.length + 1))) (h ++ [.tup [.ref (S.A i 0), .ref pp]] ++ [.lst [.ref h.length]]) = .ok (.ref (S.A i 4)) (h ++ [.tup [.ref (S.A i 0), .ref pp]] ++ [.lst [.ref h.length]]) := by
        exact x_idx (x_var rfl) rfl ik
      exact (s_forL this).trans e4')]
    simp [l2]
end MineB
end

section
namespace MineB
open Mine
set_option linter.unusedSimpArgs false
noncomputable def rf (S : Sd) (js : List Id) : List V := js.map fun j => V.ref (S.A j 0)
theorem popV_ok {h : H} {m : Nat} {vs : List V} {v : V} (e : h[m]? = some (.lst (vs ++ [v]))) : popV h (.ref m) = .ok v (h.set m (.lst vs)) := by
  dsimp only [popV]; rw [gL_ok e]; dsimp only; rw [List.getLast?_concat, List.dropLast_concat]
theorem revV_ok {h : H} {m : Nat} {vs : List V} (e : h[m]? = some (.lst vs)) : revV h (.ref m) = .ok (.ref h.length) (h ++ [.lst vs.reverse]) := by
  dsimp only [revV]; rw [gL_ok e]; rfl
theorem lenV_ok {h : H} {m : Nat} {vs : List V} (e : h[m]? = some (.lst vs)) : lenV h (.ref m) = .ok (.int vs.length) h := by
  exact len_ok e
/-- a loop that appends what it meets -/
theorem for_push {x a td : Nat} {b : Loc → H → F} (y : Nat) (hxy : x ≠ y) (hat : a ≠ td) (vs : List V)
    (hb : ∀ (l : Loc) (h : H) (w : V) (ws : List V), l y = some (.ref td) → h[td]? = some (.lst ws) → ws.length < ML → b (l.set x w) h = .nxt (l.set x w) (h.set td (.lst (ws ++ [w])))) :
    ∀ (rs dn : List V) (l : Loc) (h : H) (ws : List V), vs = dn ++ rs → l y = some (.ref td) → h[a]? = some (.lst vs) → h[td]? = some (.lst ws) → ws.length + rs.length ≤ ML →
      ∀ g, rs.length < g → ∃ l', forN x a b g dn.length l h = .nxt l' (h.set td (.lst (ws ++ rs))) ∧ ∀ z, z ≠ x → l' z = l z := by
  intro rs
  induction rs with
  | nil =>
    intro dn l h ws ev ly ha htd hz g hg
    obtain ⟨g', rfl, _⟩ := fuN (c := 0) (N := g) hg
    refine ⟨l, ?_, fun _ _ => rfl⟩
    rw [for_end ha (by simp [ev])]
    congr 1
    rw [List.append_nil]
    refine List.ext_getElem? fun q => ?_
    by_cases g : td = q
    · subst g; rw [get_set_self htd, htd]
    · rw [List.getElem?_set_ne g]
  | cons v rs ih =>
    intro dn l h ws ev ly ha htd hz g hg
    obtain ⟨g', rfl, hg'⟩ := fuN (c := rs.length + 1) (N := g) hg
    have hz' : ws.length + (rs.length + 1) ≤ ML := hz
    have bd := hb l h v ws ly htd (by lia)
    rw [for_nxt ha (v := v) (by rw [ev]; simp) bd]
    have htd2 := get_set_self htd (.lst (ws ++ [v]))
    have ha2 : (h.set td (.lst (ws ++ [v])))[a]? = some (.lst vs) := by rw [List.getElem?_set_ne (Ne.symm hat)]; exact ha
    obtain ⟨l', e, r⟩ := ih (dn ++ [v]) (l.set x v) (h.set td (.lst (ws ++ [v]))) (ws ++ [v]) (by rw [ev]; simp) ((if_neg (Ne.symm hxy)).trans ly) ha2 htd2 (by simp; lia) g' (by lia)
    refine ⟨l', ?_, fun z hz => (r z hz).trans (if_neg hz)⟩
    have : (dn ++ [v]).length = dn.length + 1 := by simp
    rw [this] at e
    rw [e, List.set_set]; simp
noncomputable def flat (a : Ab) (st : List (Nat × Id)) : List Id := st.flatMap fun p => pre a p.1 p.2
noncomputable def whBody : Ss := .cons (.assign 0 (.pop (.var 2))) (.cons (.expr (.append (.var 1) (.var 0))) (.cons (.forL 3 (.rev (.attr (.var 0) .variations)) (.cons (.expr (.append (.var 2) (.var 3))) .nil)) .nil))
theorem flat_len {a : Ab} : ∀ {st : List (Nat × Id)}, (∀ p ∈ st, Dp a p.1 p.2) → st.length ≤ (flat a st).length
  | [], _ => by simp
  | p :: st, h => by
    have h1 := flat_len (st := st) fun q hq => h q (List.mem_cons_of_mem _ hq)
    have h2 := h p List.mem_cons_self
    obtain ⟨n, i⟩ := p
    cases n with
    | zero => exact h2.elim
    | succ n =>
      have e : (flat a ((n + 1, i) :: st)).length = 1 + ((a.re i).kids.flatMap (pre a n)).length + (flat a st).length := by rw [flat, List.flatMap_cons, List.length_append, Nat.add_comm 1]; rfl
      rw [List.length_cons, e]; lia
theorem walkLoop {S : Sd} {h0 : H} (o : Ok true S h0) {fu n out td : Nat} (hot : out ≠ td) (ho : h0.length ≤ out) (ht : h0.length ≤ td) (hFU : ML + 100 ≤ fu) :
    ∀ (N : Nat) (st : List (Nat × Id)) (dn : List Id) (l : Loc) (h : H), (∀ p ∈ st, Dp S.a p.1 p.2 ∧ p.2 ∈ S.ids) → (flat S.a st).length < N → dn.length + (flat S.a st).length ≤ ML →
      l 1 = some (.ref out) → l 2 = some (.ref td) → Ext h0 h → h[out]? = some (.lst (rf S dn)) → h[td]? = some (.lst (rf S (st.map (·.2)).reverse)) →
      ∃ l' h', C4 (whileN (evE ⟨fu, callN fu n⟩ (.cmp .gt (.len (.var 2)) (.int 0))) (evSs ⟨fu, callN fu n⟩ whBody) N l h = .nxt l' h') (l' 1 = some (.ref out)) (Ext h0 h') (h'[out]? = some (.lst (rf S (dn ++ flat S.a st)))) := by
  intro N
  induction N with
  | zero => intro st dn l h _ g; exact absurd g (Nat.not_lt_zero _)
  | succ N ih =>
    intro st dn l h hst hN hz l1 l2 e eo et
    have lt := lenV_ok et
    cases st with
    | nil =>
      refine ⟨l, h, whl_end ?_, l1, e, by simpa [flat] using eo⟩
      simp [rf] at lt
      simp [l2, lt]
    | cons p st =>
      obtain ⟨m, i⟩ := p
      obtain ⟨hd, hi⟩ := hst _ List.mem_cons_self
      cases m with
      | zero => exact hd.elim
      | succ m =>
        have cd : evE ⟨fu, callN fu n⟩ (.cmp .gt (.len (.var 2)) (.int 0)) l h = .ok (.bool true) h := by
          simp [rf] at lt
          simp [l2, lt]
        have et' : h[td]? = some (.lst (rf S (st.map (·.2)).reverse ++ [.ref (S.A i 0)])) := by rw [et]; simp [rf]
        have pp := popV_ok et'
        have is := isLst_ok et
        have eo2 : (h.set td (.lst (rf S (st.map (·.2)).reverse)))[out]? = some (.lst (rf S dn)) := by rw [List.getElem?_set_ne (Ne.symm hot)]; exact eo
        have tot : dn.length + (1 + ((S.a.re i).kids.flatMap (pre S.a m)).length + (flat S.a st).length) ≤ ML := by
          have e : (flat S.a ((m + 1, i) :: st)).length = 1 + ((S.a.re i).kids.flatMap (pre S.a m)).length + (flat S.a st).length := by rw [flat, List.flatMap_cons, List.length_append, Nat.add_comm 1]; rfl
          rw [e] at hz; exact hz
        have ap := appendV_ok eo2 (by simp [rf]; lia) (.ref (S.A i 0))
        have iso := isLst_ok eo2
        have et2 : ((h.set td (.lst (rf S (st.map (·.2)).reverse))).set out (.lst (rf S dn ++ [.ref (S.A i 0)])))[td]? = some (.lst (rf S (st.map (·.2)).reverse)) := by
          rw [List.getElem?_set_ne hot]; exact get_set_self et _
        have x2 : Ext h0 ((h.set td (.lst (rf S (st.map (·.2)).reverse))).set out (.lst (rf S dn ++ [.ref (S.A i 0)]))) := (e.set _ ht).set _ ho
        have eo3 : ((h.set td (.lst (rf S (st.map (·.2)).reverse))).set out (.lst (rf S dn ++ [.ref (S.A i 0)])))[out]? = some (.lst (rf S (dn ++ [i]))) := by
          rw [get_set_self eo2]; simp [rf]
        generalize (h.set td (.lst (rf S (st.map (·.2)).reverse))).set out (.lst (rf S dn ++ [.ref (S.A i 0)])) = h2 at *
        have o2 := o.ext x2
        have rv := revV_ok (o2.kids hi)
        have x3 : Ext h0 (h2 ++ [.lst ((S.a.re i).kids.map fun k => V.ref (S.A k 0)).reverse]) := x2.app' _
        have et3 := Ext.app h2 [.lst ((S.a.re i).kids.map fun k => V.ref (S.A k 0)).reverse] _ _ et2
        have eo4 := Ext.app h2 [.lst ((S.a.re i).kids.map fun k => V.ref (S.A k 0)).reverse] _ _ eo3
        have htd : h2.length ≠ td := by have := lt_of_get et2; lia
        have kd := flat_len (a := S.a) (st := (S.a.re i).kids.map fun k => (m, k)) (by
          intro q hq; obtain ⟨k, hk, rfl⟩ := List.mem_map.1 hq; exact hd k hk)
        have fk : flat S.a ((S.a.re i).kids.map fun k => (m, k)) = (S.a.re i).kids.flatMap (pre S.a m) := by simp [flat, List.flatMap_map]
        rw [fk] at kd
        simp only [List.length_map] at kd
        have sl := flat_len (a := S.a) (st := st) fun q hq => (hst q (List.mem_cons_of_mem _ hq)).1
        obtain ⟨l', e5, r5⟩ := for_push (x := 3) (a := h2.length) (td := td) (b := evSs ⟨fu, callN fu n⟩ (.cons (.expr (.append (.var 2) (.var 3))) .nil)) 2 (by lia) htd
          (((S.a.re i).kids.map fun k => V.ref (S.A k 0)).reverse) (by
            intro l h w ws ly hw hws
            have a1 := appendV_ok hw hws w
            have a2 := isLst_ok hw
            simp [ly, a1, a2])
          (((S.a.re i).kids.map fun k => V.ref (S.A k 0)).reverse) [] (l.set 0 (.ref (S.A i 0))) (h2 ++ [.lst ((S.a.re i).kids.map fun k => V.ref (S.A k 0)).reverse]) (rf S (st.map (·.2)).reverse) (by simp) l2
          (by simp) et3 (by simp [rf]; lia) fu (by simp; lia)
        have bd : evSs ⟨fu, callN fu n⟩ whBody l h = .nxt l' ((h2 ++ [Cell.lst ((S.a.re i).kids.map fun k => V.ref (S.A k 0)).reverse]).set td (Cell.lst (rf S (st.map (·.2)).reverse ++ ((S.a.re i).kids.map fun k => V.ref (S.A k 0)).reverse))) := by
          rw [whBody, ss_nxt (l' := l.set 0 (.ref (S.A i 0))) (h' := h.set td (.lst (rf S (st.map (·.2)).reverse))) (by simp [l2, is, pp])]
          rw [ss_nxt (l' := l.set 0 (.ref (S.A i 0))) (h' := h2) (by simp [l1, iso, ap])]
          have av := o2.avar hi
          rw [ss_nxt (l' := l') (h' := (h2 ++ [Cell.lst ((S.a.re i).kids.map fun k => V.ref (S.A k 0)).reverse]).set td (Cell.lst (rf S (st.map (·.2)).reverse ++ ((S.a.re i).kids.map fun k => V.ref (S.A k 0)).reverse))) (by
            have : evE ⟨fu, callN fu n⟩ (.rev (.attr (.var 0) .variations)) (l.set 0 (.ref (S.A i 0))) h2 = .ok (.ref h2.length) (h2 ++ [.lst ((S.a.re i).kids.map fun k => V.ref (S.A k 0)).reverse]) := by
              simp [av, rv]
            exact (s_forL this).trans e5)]
          rfl
        rw [whl_nxt cd bd]
        have fe : flat S.a ((m + 1, i) :: st) = i :: flat S.a ((S.a.re i).kids.map (fun k => (m, k)) ++ st) := by
          rw [flat, List.flatMap_cons, flat, List.flatMap_append, List.flatMap_map]; rfl
        have ls : (flat S.a ((m + 1, i) :: st)).length = (flat S.a ((S.a.re i).kids.map (fun k => (m, k)) ++ st)).length + 1 := by rw [fe]; simp
        obtain ⟨l'', h'', e6, r6, x6, eo6⟩ := ih ((S.a.re i).kids.map (fun k => (m, k)) ++ st) (dn ++ [i]) l' _ (by
            intro q hq
            rcases List.mem_append.1 hq with hq | hq
            · obtain ⟨k, hk, rfl⟩ := List.mem_map.1 hq
              exact ⟨hd k hk, o.cl i hi k hk⟩
            · exact hst q (List.mem_cons_of_mem _ hq)) (by lia) (by have e9 : (dn ++ [i]).length = dn.length + 1 := (by simp); lia)
          ((r5 1 (by decide)).trans l1) ((r5 2 (by decide)).trans l2) (x3.set (.lst (rf S (st.map (·.2)).reverse ++ ((S.a.re i).kids.map fun k => V.ref (S.A k 0)).reverse)) ht)
          (by rw [List.getElem?_set_ne (Ne.symm hot)]; exact eo4)
          (by rw [get_set_self et3]; simp [rf, List.map_map, Function.comp_def])
        refine ⟨l'', h'', e6, r6, x6, ?_⟩
        rw [eo6, fe]; simp
theorem walk_len {S : Sd} {h : H} {i : Id} (o : Ok true S h) (hi : i ∈ S.ids) {m : Nat} (d : Dp S.a m i) (pl : (pre S.a m i).length ≤ ML) {fu : Nat} (hf : FU ≤ fu) {N : Nat} (hN : 1 ≤ N) :
    ∃ out h', C4 (callN fu N 10 [.ref (S.A i 0)] h = .ok (.ref out) h') (Ext h h') (h'[out]? = some (.lst (rf S (pre S.a m i)))) (h.length ≤ out) := by
  obtain ⟨n, rfl, -⟩ := fuN hN
  have hFU : ML + 100 ≤ fu := Nat.le_trans (by decide) hf
  rw [callN_eq (k := 1) (b := b_walk) (hk := rfl) (hb := rfl) (hl := rfl)]
  have e0 : Ext h (h ++ [.lst []] ++ [.lst [.ref (S.A i 0)]]) := (Ext.app _ _).trans (Ext.app _ _)
  obtain ⟨l', h', e, r1, x, eo⟩ := walkLoop o (fu := fu) (n := n) (out := h.length) (td := h.length + 1) (by lia) (by lia) (by lia) hFU fu [(m, i)] [] (((params [.ref (S.A i 0)]).set 1 (.ref h.length)).set 2 (.ref (h.length + 1)))
    (h ++ [.lst []] ++ [.lst [.ref (S.A i 0)]]) (by simpa using ⟨d, hi⟩) (by simp [flat]; lia) (by simp [flat]; lia) rfl rfl e0 (by simp [rf]) (by simp [rf])
  refine ⟨h.length, h', ?_, x, by simpa [flat] using eo, Nat.le_refl _⟩
  rw [b_walk, ss_nxt (l' := (params [.ref (S.A i 0)]).set 1 (.ref h.length)) (h' := h ++ [.lst []]) (by simp [alloc])]
  rw [ss_nxt (l' := ((params [.ref (S.A i 0)]).set 1 (.ref h.length)).set 2 (.ref (h.length + 1))) (h' := h ++ [.lst []] ++ [.lst [.ref (S.A i 0)]]) (by simp [alloc])]
  rw [ss_nxt (l' := l') (h' := h') (by exact e)]
  simp [r1]
theorem walk_ok {S : Sd} {h : H} {i : Id} (o : Ok true S h) (t : Tr S.a S.ids) (hz : S.ids.length ≤ ML) (hi : i ∈ S.ids) {m : Nat} (d : Dp S.a m i) {fu : Nat} (hf : FU ≤ fu) {N : Nat} (hN : 1 ≤ N) :
    ∃ out h', C4 (callN fu N 10 [.ref (S.A i 0)] h = .ok (.ref out) h') (Ext h h') (h'[out]? = some (.lst (rf S (pre S.a m i)))) (h.length ≤ out) :=
  walk_len o hi d (Nat.le_trans (pre_len t m i hi) hz) hf hN
end MineB
end

section
namespace MineB
open Mine
set_option linter.unusedSimpArgs false
noncomputable def addNew (xs ys : List Int) : List Int := ys.foldl (fun a y => if y ∈ a then a else a ++ [y]) xs
noncomputable def lab3 (m t : Rec) : Rec := ⟨addNew m.r t.r, addNew m.n t.n, addNew m.b t.b, m.kids⟩
noncomputable def mrg (e : Nat) (τ : Ab) : Nat → Ab → Id → Id → Ab
  | 0, a, _, _ => a
  | n + 1, a, m, t => (τ.re t).kids.foldl (fun s c => mrg e τ n (wab e s m (mv c)) (wid e s m (mv c)) c) (a.put m (lab3 (a.re m) (τ.re t)))
noncomputable def kstep (e : Nat) (a : Ab) (m : Id) : List Id → Ab × List (Id × Id)
  | [] => (a, [])
  | c :: cs => ((kstep e (wab e a m (mv c)) m cs).1, (wid e a m (mv c), c) :: (kstep e (wab e a m (mv c)) m cs).2)
noncomputable def step (e : Nat) (τ a : Ab) (m t : Id) : Ab × List (Id × Id) := kstep e (a.put m (lab3 (a.re m) (τ.re t))) m (τ.re t).kids
noncomputable def mfold (e : Nat) (τ : Ab) (n : Nat) (a : Ab) (ps : List (Id × Id)) : Ab := ps.foldl (fun s p => mrg e τ n s p.1 p.2) a
/-- ways lie one level on -/
noncomputable def KL (a : Ab) : Prop := ∀ i k, k ∈ (a.re i).kids → lvl k = lvl i + 1
theorem put_re (a : Ab) (i : Id) (r : Rec) (j : Id) : (a.put i r).re j = if j = i then r else a.re j := rfl
theorem put_comm (a : Ab) {i j : Id} (h : i ≠ j) (r s : Rec) : (a.put i r).put j s = (a.put j s).put i r := by
  refine congrArg (fun f => Ab.mk f a.att) (funext fun x => ?_)
  show (if x = j then s else if x = i then r else a.re x) = if x = i then r else if x = j then s else a.re x
  by_cases g : x = i
  · rw [if_pos g, if_pos g, if_neg (by rw [g]; exact h)]
  · rw [if_neg g, if_neg g]
theorem put_self (a : Ab) (i : Id) : a.put i (a.re i) = a := by
  exact congrArg (fun f => Ab.mk f a.att) (funext fun j => ite_id fun e => by rw [e])
theorem KL.wid {a : Ab} (k : KL a) (e : Nat) (p : Id) (v : Int) : lvl (wid e a p v) = lvl p + 1 := by
  unfold MineB.wid
  split
  · rename_i q g
    obtain ⟨c, hc, _⟩ := fidx_some g
    rw [hc]; exact k p c (List.mem_of_getElem? hc)
  · rfl
theorem KL.wab {a : Ab} (k : KL a) (e : Nat) (p : Id) (v : Int) : KL (wab e a p v) := by
  unfold MineB.wab
  split
  · exact k
  · intro i c hc
    rw [way_re] at hc
    by_cases g : i = p
    · subst g
      rw [if_pos rfl] at hc
      rcases List.mem_append.1 hc with hc | hc
      · exact k i c hc
      · rw [List.mem_singleton] at hc; subst hc; rfl
    · rw [if_neg g] at hc; exact k i c hc
theorem KL.lab {a : Ab} (k : KL a) (p : Id) (r : Rec) : KL (a.put p (lab3 (a.re p) r)) := by
  intro i c hc
  rw [put_re] at hc
  by_cases g : i = p
  · subst g; rw [if_pos rfl] at hc; exact k i c hc
  · rw [if_neg g] at hc; exact k i c hc
theorem KL.mrg (e : Nat) (τ : Ab) : ∀ (n : Nat) {a : Ab} (m t : Id), KL a → KL (mrg e τ n a m t)
  | 0, _, _, _, k => k
  | n + 1, a, m, t, k => by
    rw [MineB.mrg]
    have h := k.lab m (τ.re t)
    generalize a.put m (lab3 (a.re m) (τ.re t)) = s at h
    induction (τ.re t).kids generalizing s with
    | nil => exact h
    | cons c cs ih => exact ih _ (KL.mrg e τ n _ _ (h.wab e m (mv c)))
theorem KL.mfold {e : Nat} {τ : Ab} {n : Nat} {a : Ab} (k : KL a) (ps : List (Id × Id)) : KL (mfold e τ n a ps) := by
  unfold MineB.mfold
  induction ps generalizing a with
  | nil => exact k
  | cons p ps ih => exact ih (k.mrg e τ n p.1 p.2)
theorem wab_ne (e : Nat) (a : Ab) {p m : Id} (h : m ≠ p) (v : Int) : (wab e a p v).re m = a.re m := by
  unfold wab; split
  · rfl
  · rw [way_re, if_neg h]
theorem wid_put (e : Nat) (a : Ab) {p m : Id} (h : m ≠ p) (r : Rec) (v : Int) : wid e (a.put m r) p v = wid e a p v := by
  unfold wid; rw [put_re, if_neg (Ne.symm h)]
theorem wab_put (e : Nat) (a : Ab) {p m : Id} (h : m ≠ p) (r : Rec) (v : Int) : wab e (a.put m r) p v = (wab e a p v).put m r := by
  unfold wab
  rw [put_re, if_neg (Ne.symm h)]
  split
  · rfl
  · unfold Ab.way Ab.ks
    rw [put_re, if_neg (Ne.symm h), put_comm a h]
theorem lvl_ne {m p : Id} (h : lvl m < lvl p) : m ≠ p := fun e => by subst e; lia
/-- a merge below touches nothing above -/
theorem mrg_frame (e : Nat) (τ : Ab) : ∀ (n : Nat) (a : Ab) (p c m : Id), KL a → lvl m < lvl p → (mrg e τ n a p c).re m = a.re m ∧ ∀ r, mrg e τ n (a.put m r) p c = (mrg e τ n a p c).put m r
  | 0, a, p, c, m, k, h => ⟨rfl, fun _ => rfl⟩
  | n + 1, a, p, c, m, k, h => by
    have ne := lvl_ne h
    dsimp only [mrg]
    have k1 := k.lab p (τ.re c)
    have e1 : (a.put p (lab3 (a.re p) (τ.re c))).re m = a.re m := by rw [put_re, if_neg ne]
    have e2 : ∀ r, (a.put m r).put p (lab3 ((a.put m r).re p) (τ.re c)) = (a.put p (lab3 (a.re p) (τ.re c))).put m r := fun r => by
      rw [put_re, if_neg (Ne.symm ne), put_comm a ne]
    have gen : ∀ (cs : List Id) (s : Ab), KL s →
        (cs.foldl (fun s c => mrg e τ n (wab e s p (mv c)) (wid e s p (mv c)) c) s).re m = s.re m ∧
        ∀ r, cs.foldl (fun s c => mrg e τ n (wab e s p (mv c)) (wid e s p (mv c)) c) (s.put m r) = (cs.foldl (fun s c => mrg e τ n (wab e s p (mv c)) (wid e s p (mv c)) c) s).put m r := by
      intro cs
      induction cs with
      | nil => intro s _; exact ⟨rfl, fun _ => rfl⟩
      | cons c cs ih =>
        intro s ks
        have f := mrg_frame e τ n (wab e s p (mv c)) (wid e s p (mv c)) c m (ks.wab e p (mv c)) (by rw [ks.wid]; lia)
        have i := ih (mrg e τ n (wab e s p (mv c)) (wid e s p (mv c)) c) ((ks.wab e p (mv c)).mrg e τ n _ _)
        refine ⟨?_, fun r => ?_⟩
        · rw [List.foldl_cons, i.1, f.1, wab_ne e s ne]
        · rw [List.foldl_cons, List.foldl_cons, wid_put e s ne, wab_put e s ne, f.2, i.2]
    have g := gen (τ.re c).kids _ k1
    refine ⟨g.1.trans e1, fun r => ?_⟩
    rw [e2, g.2]
theorem mfold_frame (e : Nat) (τ : Ab) (n : Nat) (m : Id) : ∀ (ps : List (Id × Id)) (a : Ab), KL a → (∀ p ∈ ps, lvl m < lvl p.1) →
    (mfold e τ n a ps).re m = a.re m ∧ ∀ r, mfold e τ n (a.put m r) ps = (mfold e τ n a ps).put m r
  | [], _, _, _ => ⟨rfl, fun _ => rfl⟩
  | p :: ps, a, k, h => by
    have f := mrg_frame e τ n a p.1 p.2 m k (h p List.mem_cons_self)
    have i := mfold_frame e τ n m ps (mrg e τ n a p.1 p.2) (k.mrg e τ n _ _) fun q hq => h q (List.mem_cons_of_mem _ hq)
    refine ⟨i.1.trans f.1, fun r => ?_⟩
    show mfold e τ n (mrg e τ n (a.put m r) p.1 p.2) ps = _
    rw [f.2, i.2]; rfl
/-- what a step does is done at the one node -/
theorem wab_at (e : Nat) (a b : Ab) (p : Id) (v : Int) (h : a.re p = b.re p) : ∃ r, wab e a p v = a.put p r ∧ wab e b p v = b.put p r ∧ wid e a p v = wid e b p v := by
  unfold wab wid
  rw [← h]
  split
  · refine ⟨a.re p, (put_self a p).symm, ?_, rfl⟩
    rw [h, put_self]
  · refine ⟨{ a.re p with kids := (a.re p).kids ++ [kid p v e] }, rfl, ?_, rfl⟩
    unfold Ab.way Ab.ks; rw [← h]
theorem kstep_at (e : Nat) (m : Id) : ∀ (cs : List Id) (a b : Ab), a.re m = b.re m → ∃ r, (kstep e a m cs).1 = a.put m r ∧ (kstep e b m cs).1 = b.put m r ∧ (kstep e a m cs).2 = (kstep e b m cs).2
  | [], a, b, h => ⟨a.re m, (put_self a m).symm, by rw [h, put_self]; rfl, rfl⟩
  | c :: cs, a, b, h => by
    obtain ⟨r, e1, e2, e3⟩ := wab_at e a b m (mv c) h
    obtain ⟨s, f1, f2, f3⟩ := kstep_at e m cs (wab e a m (mv c)) (wab e b m (mv c)) (by rw [e1, e2, put_re, put_re]; simp)
    refine ⟨s, ?_, ?_, ?_⟩
    · dsimp only [kstep]; rw [f1, e1, put_put]
    · dsimp only [kstep]; rw [f2, e2, put_put]
    · dsimp only [kstep]; rw [f3, e3]
theorem step_at (e : Nat) (τ : Ab) (m t : Id) (a b : Ab) (h : a.re m = b.re m) : ∃ r, (step e τ a m t).1 = a.put m r ∧ (step e τ b m t).1 = b.put m r ∧ (step e τ a m t).2 = (step e τ b m t).2 := by
  obtain ⟨r, e1, e2, e3⟩ := kstep_at e m (τ.re t).kids (a.put m (lab3 (a.re m) (τ.re t))) (b.put m (lab3 (b.re m) (τ.re t))) (by rw [put_re, put_re, h])
  exact ⟨r, by rw [step, e1, put_put], by rw [step, e2, put_put], e3⟩
theorem kstep_lvl (e : Nat) (m : Id) : ∀ (cs : List Id) (a : Ab), KL a → ∀ p ∈ (kstep e a m cs).2, lvl p.1 = lvl m + 1
  | [], _, _, _, hp => by cases hp
  | c :: cs, a, k, p, hp => by
    dsimp only [kstep] at hp
    rcases List.mem_cons.1 hp with rfl | hp
    · exact k.wid e m (mv c)
    · exact kstep_lvl e m cs _ (k.wab e m (mv c)) p hp
/-- a merge is a step and the merges of its pairs -/
theorem mrg_step (e : Nat) (τ : Ab) (n : Nat) (a : Ab) (m t : Id) (k : KL a) : mrg e τ (n + 1) a m t = mfold e τ n (step e τ a m t).1 (step e τ a m t).2 := by
  dsimp only [mrg]; rw [step]
  have k1 := k.lab m (τ.re t)
  generalize a.put m (lab3 (a.re m) (τ.re t)) = s at k1
  induction (τ.re t).kids generalizing s with
  | nil => rfl
  | cons c cs ih =>
    have k2 := k1.wab e m (mv c)
    have k3 := k2.mrg e τ n (wid e s m (mv c)) c
    have f := mrg_frame e τ n (wab e s m (mv c)) (wid e s m (mv c)) c m k2 (by rw [k1.wid]; lia)
    rw [List.foldl_cons, ih _ k3]; dsimp only [kstep]
    obtain ⟨r, e1, e2, e3⟩ := kstep_at e m cs (mrg e τ n (wab e s m (mv c)) (wid e s m (mv c)) c) (wab e s m (mv c)) f.1
    show _ = mfold e τ n (mrg e τ n (kstep e (wab e s m (mv c)) m cs).1 (wid e s m (mv c)) c) _
    rw [e1, e2, e3, f.2]
/-- the queue: a pair off its head, its pairs at its end -/
theorem queue_step (e : Nat) (τ : Ab) (n : Nat) (a : Ab) (m t : Id) (A B : List (Id × Id)) (k : KL a) (hB : ∀ p ∈ B, lvl m < lvl p.1) :
    mfold e τ (n + 1) (mfold e τ n a B) ((m, t) :: A) = mfold e τ (n + 1) (mfold e τ n (step e τ a m t).1 (B ++ (step e τ a m t).2)) A := by
  show mfold e τ (n + 1) (mrg e τ (n + 1) (mfold e τ n a B) m t) A = _
  rw [mrg_step e τ n _ m t (k.mfold B)]
  have f := mfold_frame e τ n m B a k hB
  obtain ⟨r, e1, e2, e3⟩ := step_at e τ m t (mfold e τ n a B) a f.1
  congr 1
  rw [e1, e3, e2]
  unfold mfold at *
  rw [List.foldl_append, f.2]
theorem KL.of {a ids} (t : Tr a ids) : KL a := fun i k hk => by
  by_cases hi : i ∈ ids
  · exact (kid_lvl t hi hk).1
  · rw [(t.un i hi).1] at hk; cases hk
/-! the labels -/
noncomputable def pot (xs : List Int) : Nat := xs.length + ((if (0 : Int) ∈ xs then 0 else 1) + (if (1 : Int) ∈ xs then 0 else 1) + (if (2 : Int) ∈ xs then 0 else 1) + (if (3 : Int) ∈ xs then 0 else 1))
noncomputable def LabOk (m : Nat) (xs : List Int) : Prop := (∀ x ∈ xs, 0 ≤ x ∧ x < 4) ∧ pot xs ≤ m
theorem LabOk.nil {m : Nat} (h : 4 ≤ m) : LabOk m [] := ⟨(by intro x hx; cases hx), by simp [pot]; lia⟩
theorem LabOk.len {m : Nat} {xs : List Int} (h : LabOk m xs) : xs.length ≤ m := by have := h.2; unfold pot at this; lia
theorem LabOk.add {m : Nat} {xs : List Int} (h : LabOk m xs) {y : Int} (hy : 0 ≤ y ∧ y < 4) (g : y ∉ xs) : LabOk m (xs ++ [y]) := by
  refine ⟨fun x hx => ?_, ?_⟩
  · rcases List.mem_append.1 hx with hx | hx
    · exact h.1 x hx
    · rw [List.mem_singleton] at hx; subst hx; exact hy
  · have := h.2
    unfold pot at this ⊢
    have : y = 0 ∨ y = 1 ∨ y = 2 ∨ y = 3 := by lia
    rcases this with rfl | rfl | rfl | rfl <;> simp [g] at * <;> lia
theorem LabOk.more {m : Nat} {xs : List Int} (h : LabOk m xs) {y : Int} (hy : 0 ≤ y ∧ y < 4) : LabOk (m + 1) (xs ++ [y]) := by
  refine ⟨fun x hx => ?_, ?_⟩
  · rcases List.mem_append.1 hx with hx | hx
    · exact h.1 x hx
    · rw [List.mem_singleton] at hx; subst hx; exact hy
  · have h2 := h.2
    have mono : ∀ z : Int, (if z ∈ xs ++ [y] then 0 else 1) ≤ (if z ∈ xs then 0 else 1) := fun z => by
      by_cases g : z ∈ xs
      · simp [g]
      · simp only [g, if_false]; split <;> lia
    have a0 := mono 0; have a1 := mono 1; have a2 := mono 2; have a3 := mono 3
    unfold pot at h2 ⊢
    simp only [List.length_append, List.length_singleton]
    lia
theorem LabOk.addNew {m : Nat} {xs : List Int} (h : LabOk m xs) : ∀ {ys : List Int}, (∀ y ∈ ys, 0 ≤ y ∧ y < 4) → LabOk m (addNew xs ys) := by
  intro ys
  unfold MineB.addNew
  induction ys generalizing xs with
  | nil => intro _; exact h
  | cons y ys ih =>
    intro hy
    rw [List.foldl_cons]
    split
    · exact ih h fun z hz => hy z (List.mem_cons_of_mem _ hz)
    · exact ih (h.add (hy y List.mem_cons_self) ‹_›) fun z hz => hy z (List.mem_cons_of_mem _ hz)
noncomputable def RecOk (m : Nat) (r : Rec) : Prop := LabOk m r.r ∧ LabOk m r.n ∧ LabOk m r.b
noncomputable def Lbs (m : Nat) (a : Ab) : Prop := ∀ i, RecOk m (a.re i)
theorem RecOk.nil {m : Nat} (h : 4 ≤ m) : RecOk m nilRec := ⟨.nil h, .nil h, .nil h⟩
theorem RecOk.lab3 {m : Nat} {r t : Rec} (h : RecOk m r) (g : RecOk m t) : RecOk m (lab3 r t) :=
  ⟨h.1.addNew g.1.1, h.2.1.addNew g.2.1.1, h.2.2.addNew g.2.2.1⟩
theorem Lbs.put {m : Nat} {a : Ab} (h : Lbs m a) {i : Id} {r : Rec} (g : RecOk m r) : Lbs m (a.put i r) := fun j => by
  rw [put_re]; split
  · exact g
  · exact h j
theorem Lbs.way {m : Nat} {a : Ab} (h : Lbs m a) (p k : Id) : Lbs m (a.way p k) := h.put (h p)
theorem Lbs.wab {m : Nat} {a : Ab} (h : Lbs m a) (e : Nat) (p : Id) (v : Int) : Lbs m (wab e a p v) := by
  unfold MineB.wab; split
  · exact h
  · exact h.way _ _
end MineB
end

section
namespace MineB
open Mine
set_option linter.unusedSimpArgs false
theorem set_same {h : H} {x : Nat} {c : Cell} (e : h[x]? = some c) : h.set x c = h := by
  refine List.ext_getElem? fun q => ?_
  by_cases g : x = q
  · subst g; rw [get_set_self e, e]
  · rw [List.getElem?_set_ne g]
theorem for_addnew {z x y : Nat} {b : Loc → H → F} (Ph : H → Prop) (hP : ∀ h c, Ph h → Ph (h.set x c)) (Pl : Loc → Prop) (hPl : ∀ l v, Pl l → Pl (l.set z v)) {m : Nat} (hm : m < ML)
    (hb : ∀ (l : Loc) (h : H) (xs : List Int) (v : Int), Pl l → Ph h → h[x]? = some (intC xs) → xs.length < ML → b (l.set z (.int v)) h = .nxt (l.set z (.int v)) (if v ∈ xs then h else h.set x (intC (xs ++ [v]))))
    (hxy : x ≠ y) {ys : List Int} : ∀ (rs dn : List Int) (l : Loc) (h : H) (xs : List Int), ys = dn ++ rs → Pl l → Ph h → h[x]? = some (intC xs) → h[y]? = some (intC ys) → LabOk m xs → (∀ v ∈ rs, 0 ≤ v ∧ v < 4) →
      ∀ g, rs.length < g → ∃ l', forN z y b g dn.length l h = .nxt l' (h.set x (intC (addNew xs rs))) ∧ Pl l' := by
  intro rs
  induction rs with
  | nil =>
    intro dn l h xs ey pl ph hx hy lo hv g hg
    obtain ⟨g', rfl, _⟩ := fuN (c := 0) (N := g) hg
    exact ⟨l, by rw [for_end hy (by simp [ey])]; unfold addNew; rw [List.foldl_nil, set_same hx], pl⟩
  | cons v rs ih =>
    intro dn l h xs ey pl ph hx hy lo hv g hg
    obtain ⟨g', rfl, hg'⟩ := fuN (c := rs.length + 1) (N := g) hg
    have bd := hb l h xs v pl ph hx (Nat.lt_of_le_of_lt lo.len hm)
    rw [for_nxt hy (v := .int v) (by rw [ey]; simp) bd]
    have hl : (dn ++ [v]).length = dn.length + 1 := by simp
    by_cases gm : v ∈ xs
    · rw [if_pos gm]
      obtain ⟨l', e, r⟩ := ih (dn ++ [v]) (l.set z (.int v)) h xs (by rw [ey]; simp) (hPl _ _ pl) ph hx hy lo (fun w hw => hv w (List.mem_cons_of_mem _ hw)) g' (by lia)
      rw [hl] at e
      refine ⟨l', ?_, r⟩
      rw [e]; unfold addNew; rw [List.foldl_cons, if_pos gm]
    · rw [if_neg gm]
      have hy2 : (h.set x (intC (xs ++ [v])))[y]? = some (intC ys) := by rw [List.getElem?_set_ne hxy]; exact hy
      obtain ⟨l', e, r⟩ := ih (dn ++ [v]) (l.set z (.int v)) (h.set x (intC (xs ++ [v]))) (xs ++ [v]) (by rw [ey]; simp) (hPl _ _ pl) (hP _ _ ph) (get_set_self hx _) hy2
        (lo.add (hv v List.mem_cons_self) gm) (fun w hw => hv w (List.mem_cons_of_mem _ hw)) g' (by lia)
      rw [hl] at e
      refine ⟨l', ?_, r⟩
      rw [e, List.set_set]; unfold addNew; rw [List.foldl_cons, if_neg gm]
theorem all_int (xs : List Int) : (xs.map V.int).all V.isInt = true := by
  induction xs with
  | nil => rfl
  | cons x xs ih => exact ih
theorem contains_int (xs : List Int) (v : Int) : (xs.map V.int).contains (.int v) = decide (v ∈ xs) := by
  induction xs with
  | nil => simp
  | cons x xs ih => simp
theorem count_int (xs : List Int) (v : Int) : (((xs.map V.int).count (.int v) : Nat) : Int) = 0 ↔ v ∉ xs := by
  rw [show ((((xs.map V.int).count (.int v) : Nat) : Int) = 0) ↔ (xs.map V.int).count (.int v) = 0 by lia, List.count_eq_zero]
  simp
theorem add_new_ok {h : H} {x y : Nat} {xs ys : List Int} (hx : h[x]? = some (intC xs)) (hy : h[y]? = some (intC ys)) (hxy : x ≠ y) {m : Nat} (hm : m < ML) (lo : LabOk m xs) (ly : LabOk m ys)
    {fu : Nat} (hf : FU ≤ fu) {N : Nat} (hN : 1 ≤ N) : callN fu N 15 [.ref x, .ref y] h = .ok .none (h.set x (intC (addNew xs ys))) := by
  obtain ⟨n, rfl, -⟩ := fuN hN
  rw [callN_eq (k := 2) (b := b_add_new) (hk := rfl) (hb := rfl) (hl := rfl)]
  have hFU : ML < fu := Nat.lt_of_lt_of_le (by decide) hf
  obtain ⟨l', e, r⟩ := for_addnew (z := 2) (x := x) (y := y) (b := evSs ⟨fu, callN fu n⟩ (.cons (.ite (.cmp .notIn (.var 2) (.var 0)) (.cons (.expr (.append (.var 0) (.var 2))) .nil) .nil) .nil)) (fun _ => True) (fun _ _ _ => trivial)
    (fun l => l 0 = some (.ref x)) (fun l v hl => hl) hm (by
      intro l h xs v l0 _ hx hl
      have is := isLst_ok hx
      have ap := appendV_ok hx (by simpa using hl) (.int v)
      have e1 : Cell.lst (xs.map V.int ++ [.int v]) = intC (xs ++ [v]) := by simp [intC]
      rw [e1] at ap
      have cm : cmpV .notIn h (.int v) (.ref x) = .ok (.bool (!decide (v ∈ xs))) h := by
        show notInV h (.int v) (.ref x) = _
        dsimp only [notInV]; rw [gL_ok hx]; dsimp only; rw [if_pos (all_int xs), contains_int]
      by_cases g : v ∈ xs
      · simp [l0, cm, g]
      · simp [l0, cm, g, is, ap]) hxy ys [] (params [.ref x, .ref y]) h xs rfl rfl trivial hx hy lo ly.1 fu (by have := ly.len; lia)
  rw [b_add_new, ss_nxt (l' := l') (h' := h.set x (intC (addNew xs ys))) (by
    exact (s_forL (x_var rfl)).trans e)]
  rfl
noncomputable def lwBody : Ss := .cons (.forL 3 (.idx (.var 1) (.var 2)) (.cons (.ite (.cmp .eq (.count (.idx (.var 0) (.var 2)) (.var 3)) (.int 0)) (.cons (.expr (.append (.idx (.var 0) (.var 2)) (.var 3))) .nil) .nil) .nil)) .nil
theorem law_lab1 {S : Sd} {h : H} {m t : Id} (o : Ok false S h) (hm : m ∈ S.ids) (ht : t ∈ S.ids) (hmt : m ≠ t) {p : Nat} (h1 : 1 ≤ p) (h3 : p ≤ 3) {K : Nat} (hK : K < ML) (lo : LabOk K (lab S m p)) (lt : LabOk K (lab S t p))
    {fu n : Nat} (hf : FU ≤ fu) (l : Loc) (l0 : l 0 = some (.ref (S.A m 0))) (l1 : l 1 = some (.ref (S.A t 0))) :
    ∃ l' h', C4 (evSs ⟨fu, callN fu n⟩ lwBody (l.set 2 (.int p)) h = .nxt l' h') (l' 0 = some (.ref (S.A m 0))) (l' 1 = some (.ref (S.A t 0))) (Stp false S h (S.on (S.a.lb m p (addNew (lab S m p) (lab S t p)))) h') := by
  have hFU : ML < fu := Nat.lt_of_lt_of_le (by decide) hf
  have ne1 : S.A m 0 ≠ S.A m p := fun e => by have := (o.inj m hm m hm 0 (by lia) p (by lia) e).2; lia
  have ne2 : S.A m p ≠ S.A t p := fun e => hmt (o.inj m hm t ht p (by lia) p (by lia) e).1
  have ip : ∀ h', h'[S.A m 0]? = some (cell false S m 0) → idxV h' (.ref (S.A m 0)) (.int p) = .ok (.ref (S.A m p)) h' := by
    intro h' e
    refine idx_ok e ?_
    rcases p123 h1 h3 with rfl | rfl | rfl <;> rfl
  obtain ⟨l', e, r⟩ := for_addnew (z := 3) (x := S.A m p) (y := S.A t p) (b := evSs ⟨fu, callN fu n⟩ (.cons (.ite (.cmp .eq (.count (.idx (.var 0) (.var 2)) (.var 3)) (.int 0)) (.cons (.expr (.append (.idx (.var 0) (.var 2)) (.var 3))) .nil) .nil) .nil))
    (fun h => h[S.A m 0]? = some (cell false S m 0)) (fun h c g => by rw [List.getElem?_set_ne (Ne.symm ne1)]; exact g)
    (fun l => l 0 = some (.ref (S.A m 0)) ∧ l 1 = some (.ref (S.A t 0)) ∧ l 2 = some (.int p)) (fun l v hl => hl) hK (by
      intro l h xs v ⟨l0, l1, l2⟩ ph hx hl
      have is := isLst_ok hx
      have ap := appendV_ok hx (by simpa using hl) (.int v)
      have e1 : Cell.lst (xs.map V.int ++ [.int v]) = intC (xs ++ [v]) := by simp [intC]
      rw [e1] at ap
      have ix := ip h ph
      have ct : countV h (.ref (S.A m p)) (.int v) = .ok (.int ((xs.map V.int).count (.int v) : Nat)) h := by
        have e2 : gL h (.ref (S.A m p)) = some (S.A m p, xs.map V.int) := gL_ok hx
        dsimp only [countV]; rw [e2]; exact if_pos (all_int xs)
      have cm : cmpV .eq h (.int ((xs.map V.int).count (.int v) : Nat)) (.int 0) = .ok (.bool (decide (v ∉ xs))) h := by
        rw [← decide_eq_decide.2 (count_int xs v)]; rfl
      have st : evE ⟨fu, callN fu n⟩ (.cmp .eq (.count (.idx (.var 0) (.var 2)) (.var 3)) (.int 0)) (l.set 3 (.int v)) h = .ok (.bool (decide (v ∉ xs))) h := by
        have hv : evE ⟨fu, callN fu n⟩ (.var 3) (l.set 3 (.int v)) h = .ok (.int v) h := by simp 
        have ha : evE ⟨fu, callN fu n⟩ (.idx (.var 0) (.var 2)) (l.set 3 (.int v)) h = .ok (.ref (S.A m p)) h := by simp [l0, l2, ix]
        have hc : evE ⟨fu, callN fu n⟩ (.count (.idx (.var 0) (.var 2)) (.var 3)) (l.set 3 (.int v)) h = .ok (.int ((xs.map V.int).count (.int v) : Nat)) h := by
          exact x_count ha is hv ct
        exact e_cmp hc rfl cm
      by_cases g : v ∈ xs
      · have st' : evE ⟨fu, callN fu n⟩ (.cmp .eq (.count (.idx (.var 0) (.var 2)) (.var 3)) (.int 0)) (l.set 3 (.int v)) h = .ok (.bool false) h := by rw [st]; simp [g]
        rw [if_pos g, ss_nxt (s_else st')]; rfl
      · have st' : evE ⟨fu, callN fu n⟩ (.cmp .eq (.count (.idx (.var 0) (.var 2)) (.var 3)) (.int 0)) (l.set 3 (.int v)) h = .ok (.bool true) h := by rw [st]; simp [g]
        rw [if_neg g, ss_nxt (by rw [s_ite st']; exact ss_nxt (by exact ap_ok (x_idx (x_var l0) (x_var l2) ix) is (x_var rfl) ap))]; rfl) ne2
    (lab S t p) [] (l.set 2 (.int p)) h (lab S m p) rfl ⟨l0, l1, rfl⟩ (o.l0 hm) (o.lab hm h1 h3) (o.lab ht h1 h3) lo lt.1 fu (by have := lt.len; lia)
  refine ⟨l', _, ?_, r.1, r.2.1, lb_step o hm h1 h3 rfl⟩
  have ib := o.ilab ht h1 h3
  rw [lwBody, ss_nxt (l' := l') (h' := h.set (S.A m p) (intC (addNew (lab S m p) (lab S t p)))) (by
    have : evE ⟨fu, callN fu n⟩ (.idx (.var 1) (.var 2)) (l.set 2 (.int p)) h = .ok (.ref (S.A t p)) h := x_idx (l := l.set 2 (.int p)) (x_var l1) (x_var rfl) ib
    exact (s_forL this).trans e)]
  rfl
theorem lb2_eq {S : Sd} {m t : Id} (tm : t ≠ m) {r : Rec} : (S.on (S.a.put m r)).on ((S.on (S.a.put m r)).a.lb m 2 (addNew (lab (S.on (S.a.put m r)) m 2) (lab (S.on (S.a.put m r)) t 2))) = S.on (S.a.put m ⟨r.r, addNew r.n (S.a.re t).n, r.b, r.kids⟩) := by
  show S.on ((S.a.put m r).put m ⟨((S.a.put m r).re m).r, addNew ((S.a.put m r).re m).n ((S.a.put m r).re t).n, ((S.a.put m r).re m).b, ((S.a.put m r).re m).kids⟩) = _
  rw [put_put, re_self, re_ne tm]
theorem lb3_eq {S : Sd} {m t : Id} (tm : t ≠ m) {r : Rec} : (S.on (S.a.put m r)).on ((S.on (S.a.put m r)).a.lb m 3 (addNew (lab (S.on (S.a.put m r)) m 3) (lab (S.on (S.a.put m r)) t 3))) = S.on (S.a.put m ⟨r.r, r.n, addNew r.b (S.a.re t).b, r.kids⟩) := by
  show S.on ((S.a.put m r).put m ⟨((S.a.put m r).re m).r, ((S.a.put m r).re m).n, addNew ((S.a.put m r).re m).b ((S.a.put m r).re t).b, ((S.a.put m r).re m).kids⟩) = _
  rw [put_put, re_self, re_ne tm]
theorem lb2_put {S : Sd} {m : Id} {r : Rec} {ys : List Int} : (S.on (S.a.put m r)).a.lb m 2 ys = S.a.put m ⟨r.r, ys, r.b, r.kids⟩ := by
  show (S.a.put m r).put m ⟨((S.a.put m r).re m).r, ys, ((S.a.put m r).re m).b, ((S.a.put m r).re m).kids⟩ = _
  rw [put_put, re_self]
theorem lb3_put {S : Sd} {m : Id} {r : Rec} {ys : List Int} : (S.on (S.a.put m r)).a.lb m 3 ys = S.a.put m ⟨r.r, r.n, ys, r.kids⟩ := by
  show (S.a.put m r).put m ⟨((S.a.put m r).re m).r, ((S.a.put m r).re m).n, ys, ((S.a.put m r).re m).kids⟩ = _
  rw [put_put, re_self]
theorem lab2_put {S : Sd} {m : Id} {r : Rec} : lab (S.on (S.a.put m r)) m 2 = r.n := congrArg Rec.n re_self
theorem lab3_put {S : Sd} {m : Id} {r : Rec} : lab (S.on (S.a.put m r)) m 3 = r.b := congrArg Rec.b re_self
theorem labm_ok {S : Sd} {m : Id} {K : Nat} {r : Rec} {p : Nat} (g : LabOk K (lab (S.on ⟨fun _ => r, S.a.att⟩) m p)) : LabOk K (lab (S.on (S.a.put m r)) m p) := by
  have e : lab (S.on (S.a.put m r)) m p = lab (S.on ⟨fun _ => (S.a.put m r).re m, S.a.att⟩) m p := rfl
  rw [e, re_self]; exact g
theorem labt_ok {S : Sd} {m t : Id} (tm : t ≠ m) {K : Nat} {r : Rec} {p : Nat} (g : LabOk K (lab S t p)) : LabOk K (lab (S.on (S.a.put m r)) t p) := by
  have e : lab (S.on (S.a.put m r)) t p = lab (S.on ⟨fun _ => (S.a.put m r).re t, S.a.att⟩) t p := rfl
  rw [e, re_ne tm]; exact g
theorem law_labs {S : Sd} {h : H} {m t : Id} (o : Ok false S h) (hm : m ∈ S.ids) (ht : t ∈ S.ids) (hmt : m ≠ t) {K : Nat} (hK : K < ML) (lo : RecOk K (S.a.re m)) (lt : RecOk K (S.a.re t))
    {fu n : Nat} (hf : FU ≤ fu) (l : Loc) (l0 : l 0 = some (.ref (S.A m 0))) (l1 : l 1 = some (.ref (S.A t 0))) :
    ∃ l' h', C4 (evS ⟨fu, callN fu n⟩ (.forR2 2 1 4 lwBody) l h = .nxt l' h') (l' 0 = some (.ref (S.A m 0))) (l' 1 = some (.ref (S.A t 0))) (Stp false S h (S.on (S.a.put m (lab3 (S.a.re m) (S.a.re t)))) h') := by
  have tm : t ≠ m := Ne.symm hmt
  obtain ⟨la, ha, ea, la0, la1, sa⟩ := law_lab1 o hm ht hmt (p := 1) (by decide) (by decide) hK lo.1 lt.1 (n := n) hf l l0 l1
  have sa : Stp false S h (S.on (S.a.put m ⟨addNew (S.a.re m).r (S.a.re t).r, (S.a.re m).n, (S.a.re m).b, (S.a.re m).kids⟩)) ha := sa
  obtain ⟨lb, hb, eb, lb0, lb1, sb⟩ := law_lab1 sa.ok (m := m) (t := t) hm ht hmt (p := 2) (by decide) (by decide) hK (labm_ok lo.2.1) (labt_ok tm lt.2.1) (n := n) hf la la0 la1
  rw [lb2_eq tm] at sb
  obtain ⟨lc, hc, ec, lc0, lc1, sc⟩ := law_lab1 sb.ok (m := m) (t := t) hm ht hmt (p := 3) (by decide) (by decide) hK (labm_ok lo.2.2) (labt_ok tm lt.2.2) (n := n) hf lb lb0 lb1
  rw [lb3_eq tm] at sc
  refine ⟨lc, hc, ?_, lc0, lc1, (sa.trans sb).trans sc⟩
  show rangeN 2 _ 3 1 l h = _
  have ea' : evSs ⟨fu, callN fu n⟩ lwBody (l.set 2 (.int 1)) h = .nxt la ha := ea
  have eb' : evSs ⟨fu, callN fu n⟩ lwBody (la.set 2 (.int (1 + 1))) ha = .nxt lb hb := eb
  have ec' : evSs ⟨fu, callN fu n⟩ lwBody (lb.set 2 (.int (1 + 1 + 1))) hb = .nxt lc hc := ec
  rw [rng_nxt ea', rng_nxt eb', rng_nxt ec']; rfl
end MineB
end

section
namespace MineB
open Mine
set_option linter.unusedSimpArgs false
noncomputable def inT (a : Ab) (t : Nat) : List (Int × Nat) → Bool
  | [] => decide (t = 0)
  | x :: p => a.att (t, x :: p) && inT a t p
noncomputable def inTop (a : Ab) (i : Id) : Bool := inT a i.1 i.2
theorem inTop_kid {a : Ab} {k : Id} (h : a.att k = true) (hn : k.2 ≠ []) : inTop a k = inTop a (up k) := by
  obtain ⟨t, p⟩ := k
  cases p with
  | nil => exact (hn rfl).elim
  | cons x p => exact (congrArg (· && _) h).trans (Bool.true_and _)
theorem inTop_att {a b : Ab} (h : a.att = b.att) : inTop a = inTop b := by
  funext ⟨t, p⟩
  show inT a t p = inT b t p
  induction p with
  | nil => rfl
  | cons x p ih => dsimp only [inT]; rw [h, ih]
structure MI (e K : Nat) (S : Sd) : Prop where
  tr : Tr S.a S.ids
  ep : Ep e S.a S.ids
  lb : Lbs K S.a
theorem Tr.putk {a ids m r} (t : Tr a ids) (hm : m ∈ ids) (hr : r.kids = (a.re m).kids) : Tr (a.put m r) ids := by
  have e : ∀ i, ((a.put m r).re i).kids = (a.re i).kids := fun i => by
    rw [put_re]; split
    · subst i; exact hr
    · rfl
  refine ⟨fun i hi k hk => t.kd i hi k (e i ▸ hk), fun i hi => by rw [e]; exact t.nd i hi, t.lv, fun i hi => ?_⟩
  rw [put_re, if_neg (show i ≠ m from fun g => hi (by rw [g]; exact hm))]
  exact t.un i hi
theorem Ep.putk {e a ids m r} (t : Ep e a ids) (hr : r.kids = (a.re m).kids) : Ep e (a.put m r) ids := by
  have e : ∀ i, ((a.put m r).re i).kids = (a.re i).kids := fun i => by
    rw [put_re]; split
    · subst i; exact hr
    · rfl
  exact ⟨t.ep, fun i hi v q g => by rw [e]; exact t.nw i hi v q g⟩
theorem wab_att (e : Nat) (a : Ab) (p : Id) (v : Int) : (wab e a p v).att = a.att := by
  unfold wab; split <;> rfl
theorem mrg_att (e : Nat) (τ : Ab) : ∀ (n : Nat) (a : Ab) (m t : Id), (mrg e τ n a m t).att = a.att
  | 0, _, _, _ => rfl
  | n + 1, a, m, t => by
    dsimp only [mrg]
    have : ∀ (cs : List Id) (s : Ab), (cs.foldl (fun s c => mrg e τ n (wab e s m (mv c)) (wid e s m (mv c)) c) s).att = s.att := by
      intro cs
      induction cs with
      | nil => intro s; rfl
      | cons c cs ih => intro s; rw [List.foldl_cons, ih, mrg_att e τ n, wab_att]
    rw [this]; rfl
theorem wid_top {e a ids p} (t : Tr a ids) (ep : Ep e a ids) (hp : p ∈ ids) (v : Int) (h : inTop a p = true) : inTop a (wid e a p v) = true ∧ lvl (wid e a p v) = lvl p + 1 := by
  refine ⟨?_, (KL.of t).wid e p v⟩
  unfold wid
  cases g : fidx (a.re p).kids v with
  | some q =>
    obtain ⟨k, hk, _⟩ := fidx_some g
    simp only [hk, Option.getD_some]
    have := t.kd p hp k (List.mem_of_getElem? hk)
    rw [inTop_kid this.2.1 this.2.2.1, this.2.2.2]; exact h
  | none =>
    have hk := ep.fresh g
    simp only
    rw [inTop_kid ((t.un _ hk).2 (by simp [kid])) (by simp [kid]), up_kid]; exact h
theorem wids_len (e : Nat) (a : Ab) (ids : List Id) (p : Id) (v : Int) : (wids e a ids p v).length ≤ ids.length + 1 := by
  unfold wids; split <;> simp
/-- theirs stand as they stood -/
noncomputable def Agr (τ a : Ab) : Prop := a.att = τ.att ∧ ∀ j, inTop τ j = false → a.re j = τ.re j
theorem Agr.wab {τ a : Ab} (g : Agr τ a) {e : Nat} {p : Id} (hp : inTop τ p = true) (v : Int) : Agr τ (wab e a p v) :=
  ⟨(wab_att e a p v).trans g.1, fun j hj => by rw [wab_ne e a (show j ≠ p from fun x => by rw [x, hp] at hj; cases hj)]; exact g.2 j hj⟩
theorem Agr.put {τ a : Ab} (g : Agr τ a) {p : Id} (hp : inTop τ p = true) (r : Rec) : Agr τ (a.put p r) :=
  ⟨g.1, fun j hj => by rw [put_re, if_neg (show j ≠ p from fun x => by rw [x, hp] at hj; cases hj)]; exact g.2 j hj⟩
theorem pre_pos {a : Ab} {n : Nat} {i : Id} (d : Dp a n i) : i ∈ pre a n i := by
  cases n with
  | zero => exact d.elim
  | succ n => exact List.mem_cons_self
noncomputable def lmBody : Ss := .cons (.expr (.call 24 (.cons (.call 23 (.cons (.var 0) (.cons (.idx (.var 4) (.int 0)) .nil))) (.cons (.var 4) .nil)))) .nil
theorem law_merge_ok {e K : Nat} (hK : K < ML) {τ : Ab} {fu : Nat} (hf : FU ≤ fu) : ∀ (n : Nat) (S : Sd) (h : H) (m t : Id) (M : Nat), Ok false S h → MI e K S → Agr τ S.a → m ∈ S.ids → t ∈ S.ids → inTop τ m = true → inTop τ t = false →
    Dp τ n t → (∀ j ∈ pre τ n t, lvl m + lvl j ≤ 36 + lvl t) → S.ids.length + (pre τ n t).length ≤ ML + 1 → n + 2 ≤ M →
    ∃ S' h', C6 (callN fu M 24 [.ref (S.A m 0), .ref (S.A t 0)] h = .ok .none h') (Stp false S h S' h') (S'.a = mrg e τ n S.a m t) (MI e K S') (Agr τ S'.a) (S'.ids.length + 1 ≤ S.ids.length + (pre τ n t).length) := by
  intro n
  induction n with
  | zero => intro S h m t M _ _ _ _ _ _ _ d; exact d.elim
  | succ n ih =>
    intro S h m t M o mi ag hm ht im it d hl hz hM
    obtain ⟨N, rfl, hN⟩ := fuN (c := n + 2) (by omega)
    have hFU : ML < fu := Nat.lt_of_lt_of_le (by decide) hf
    have hmt : m ≠ t := fun g => by rw [g, it] at im; cases im
    have et : S.a.re t = τ.re t := ag.2 t it
    rw [callN_eq (k := 2) (b := b_law_merge) (hk := rfl) (hb := rfl) (hl := rfl)]
    obtain ⟨l1, h1, e1, l10, l11, s1⟩ := law_labs o hm ht hmt hK (mi.lb m) (mi.lb t) (n := N) hf (params [.ref (S.A m 0), .ref (S.A t 0)]) rfl rfl
    rw [et] at s1
    have loop : ∀ (cs dn : List Id) (S1 : Sd) (h1 : H) (l : Loc), (τ.re t).kids = dn ++ cs → Stp false S h S1 h1 → MI e K S1 → Agr τ S1.a → S1.ids.length + (cs.flatMap (pre τ n)).length ≤ ML →
        l 0 = some (.ref (S.A m 0)) → ∀ g, cs.length < g →
        ∃ l' h2 S2, C6 (forN 4 (S.A t 4) (evSs ⟨fu, callN fu N⟩ lmBody) g dn.length l h1 = .nxt l' h2) (Stp false S h S2 h2) (MI e K S2) (Agr τ S2.a) (S2.a = cs.foldl (fun s c => mrg e τ n (wab e s m (mv c)) (wid e s m (mv c)) c) S1.a) (S2.ids.length ≤ S1.ids.length + (cs.flatMap (pre τ n)).length) := by
      intro cs
      induction cs with
      | nil =>
        intro dn S1 h1 l ek s mi1 ag1 hz1 l0 g hg
        obtain ⟨g', rfl, _⟩ := fuN (c := 0) (N := g) hg
        have hk := s.ok.kids (s.self t ht).1
        rw [s.sA t ht, ag1.2 t it, ek] at hk
        exact ⟨l, h1, S1, for_end hk (by simp), s, mi1, ag1, rfl, by simp⟩
      | cons c cs ihc =>
        intro dn S1 h1 l ek s mi1 ag1 hz1 l0 g hg
        obtain ⟨g', rfl, hg'⟩ := fuN (c := cs.length + 1) (N := g) hg
        have hk := s.ok.kids (s.self t ht).1
        rw [s.sA t ht, ag1.2 t it, ek] at hk
        have hm1 := (s.self m hm).1
        have hck : c ∈ (τ.re t).kids := by rw [ek]; simp
        have hcS : c ∈ (S1.a.re t).kids := by rw [ag1.2 t it]; exact hck
        have kc := mi1.tr.kd t (s.self t ht).1 c hcS
        have itc : inTop τ c = false := by rw [inTop_kid (by rw [← ag1.1]; exact kc.2.1) kc.2.2.1, kc.2.2.2]; exact it
        have lc : lvl c = lvl t + 1 := (kid_lvl mi1.tr (s.self t ht).1 hcS).1
        have dc := d c hck
        have pc : ∀ j ∈ pre τ n c, j ∈ pre τ (n + 1) t := fun j hj => List.mem_cons_of_mem _ (List.mem_flatMap.2 ⟨c, hck, hj⟩)
        have lm : lvl m < 36 := by have := hl c (pc c (pre_pos dc)); lia
        have ln : 1 ≤ (pre τ n c).length := List.length_pos_of_mem (pre_pos dc)
        simp only [List.flatMap_cons, List.length_append] at hz1
        obtain ⟨S2, h2, e2, w2⟩ := law_way_ok (e := e) (mv c) s.ok mi1.tr mi1.ep hm1 lm (by lia) fu (N := N) (by lia)
        rw [s.sA m hm] at e2
        have wl := wids_len e S1.a S1.ids m (mv c)
        rw [← w2.ids] at wl
        have wt := wid_top (e := e) mi1.tr mi1.ep hm1 (mv c) (by rw [inTop_att ag1.1]; exact im)
        have s2 := s.trans w2.stp
        have ag2 : Agr τ S2.a := by rw [w2.a]; exact ag1.wab im (mv c)
        have mi2 : MI e K S2 := ⟨w2.tr, w2.ep, by rw [w2.a]; exact mi1.lb.wab e m (mv c)⟩
        obtain ⟨S3, h3, e3, s3, a3, mi3, ag3, z3⟩ := ih S2 h2 (wid e S1.a m (mv c)) c N w2.stp.ok mi2 ag2 w2.mem (w2.stp.self c kc.1).1 (by rw [← inTop_att ag1.1]; exact wt.1) itc dc
          (fun j hj => by have := hl j (pc j hj); rw [wt.2, lc]; lia) (by lia) (by lia)
        have bd : evSs ⟨fu, callN fu N⟩ lmBody (l.set 4 (.ref (S1.A c 0))) h1 = .nxt (l.set 4 (.ref (S1.A c 0))) h3 := by
          have im1 := s.ok.imove kc.1
          have e3' : callN fu N 24 [.ref (S2.A (wid e S1.a m (mv c)) 0), .ref (S1.A c 0)] h2 = .ok .none h3 := by
            rw [← w2.stp.sA c kc.1]; exact e3
          simp [lmBody, l0, im1, e2, e3']
        rw [for_nxt hk (v := .ref (S1.A c 0)) (by simp) bd]
        obtain ⟨l', h4, S4, e4, s4, mi4, ag4, a4, z4⟩ := ihc (dn ++ [c]) S3 h3 (l.set 4 (.ref (S1.A c 0))) (by rw [ek]; simp) (s2.trans s3) mi3 ag3 (by lia) l0 g' (by lia)
        refine ⟨l', h4, S4, by simpa using e4, s4, mi4, ag4, ?_, ?_⟩
        · rw [a4, a3, w2.a]; rfl
        · simp only [List.flatMap_cons, List.length_append]; lia
    have mi1 : MI e K (S.on (S.a.put m (lab3 (S.a.re m) (τ.re t)))) := ⟨mi.tr.putk hm rfl, mi.ep.putk rfl, mi.lb.put ((mi.lb m).lab3 (by rw [← et]; exact mi.lb t))⟩
    have pl : (pre τ (n + 1) t).length = ((τ.re t).kids.flatMap (pre τ n)).length + 1 := rfl
    have kl := mi.tr.kl ht
    rw [et] at kl
    obtain ⟨l2, h2, S2, e2, s2, mi2, ag2, a2, z2⟩ := loop (τ.re t).kids [] (S.on (S.a.put m (lab3 (S.a.re m) (τ.re t)))) h1 l1 rfl s1 mi1 (ag.put im _) (by
      show S.ids.length + _ ≤ ML; lia) l10 fu (by lia)
    refine ⟨S2, h2, ?_, s2, ?_, mi2, ag2, ?_⟩
    · have e1' : evS ⟨fu, callN fu N⟩ (.forR2 2 1 4 lwBody) (params [.ref (S.A m 0), .ref (S.A t 0)]) h = .nxt l1 h1 := e1
      have ik := s1.ok.ikids (i := t) ht
      have : evE ⟨fu, callN fu N⟩ (.idx (.var 1) (.int 4)) l1 h1 = .ok (.ref (S.A t 4)) h1 := by
        have ik' : idxV h1 (.ref (S.A t 0)) (.int 4) = .ok (.ref (S.A t 4)) h1 := ik
        exact x_idx (x_var l11) rfl ik'
      show toR (evSs _ (.cons (.forR2 2 1 4 lwBody) (.cons (.forL 4 (.idx (.var 1) (.int 4)) lmBody) .nil)) _ _) = _
      rw [ss_nxt e1', ss_nxt (l' := l2) (h' := h2) (by exact (s_forL this).trans e2)]; rfl
    · rw [a2]; rfl
    · rw [pl]
      have : S2.ids.length ≤ S.ids.length + ((τ.re t).kids.flatMap (pre τ n)).length := z2
      lia
end MineB
end

section
namespace MineB
open Mine
set_option linter.unusedSimpArgs false
noncomputable def PairsN (N : Sd) (h : H) : List (Id × Id) → List V → Prop
  | [], [] => True
  | p :: ps, v :: vs => (∃ t, C5 (v = .ref t) (h[t]? = some (.tup [.ref (N.A p.1 0), .ref (N.A p.2 0)])) (Out N t) (p.1 ∈ N.ids) (p.2 ∈ N.ids)) ∧ PairsN N h ps vs
  | _, _ => False
theorem PairsN.stp {N N' : Sd} {h h' : H} (s : Stp true N h N' h') : ∀ {ps : List (Id × Id)} {vs : List V}, PairsN N h ps vs → PairsN N' h' ps vs
  | [], [], _ => trivial
  | p :: ps, v :: vs, ⟨⟨t, e, g, o, m1, m2⟩, r⟩ =>
    ⟨⟨t, e, by rw [(s.self _ m1).2, (s.self _ m2).2]; exact (s.keep g o).1, (s.keep g o).2, (s.self _ m1).1, (s.self _ m2).1⟩, PairsN.stp s r⟩
  | [], _ :: _, h => h.elim
  | _ :: _, [], h => h.elim
theorem PairsN.set {N : Sd} {h : H} {m : Nat} {ws : List V} (e : h[m]? = some (.lst ws)) (c : Cell) : ∀ {ps : List (Id × Id)} {vs : List V}, PairsN N h ps vs → PairsN N (h.set m c) ps vs
  | [], [], _ => trivial
  | p :: ps, v :: vs, ⟨⟨t, e', g, o, m1, m2⟩, r⟩ =>
    ⟨⟨t, e', by rw [List.getElem?_set_ne (show m ≠ t from fun x => by rw [x, g] at e; cases e)]; exact g, o, m1, m2⟩, PairsN.set e c r⟩
  | [], _ :: _, h => h.elim
  | _ :: _, [], h => h.elim
theorem PairsN.append {N : Sd} {h : H} : ∀ {ps ps' : List (Id × Id)} {vs vs' : List V}, PairsN N h ps vs → PairsN N h ps' vs' → PairsN N h (ps ++ ps') (vs ++ vs')
  | [], _, [], _, _, b => b
  | _ :: _, _, _ :: _, _, ⟨x, r⟩, b => ⟨x, PairsN.append r b⟩
  | [], _, _ :: _, _, h, _ => h.elim
  | _ :: _, _, [], _, h, _ => h.elim
theorem PairsN.len {N : Sd} {h : H} : ∀ {ps : List (Id × Id)} {vs : List V}, PairsN N h ps vs → ps.length = vs.length
  | [], [], _ => rfl
  | _ :: _, _ :: _, ⟨_, r⟩ => by simp [PairsN.len r]
  | [], _ :: _, h => h.elim
  | _ :: _, [], h => h.elim
noncomputable def mtKids : Ss := .cons (.assign 7 (.call 6 (.cons (.var 4) (.cons (.attr (.var 6) .move) .nil)))) (.cons (.ite (.cmp .ge (.var 7) (.int 0)) (.cons (.expr (.append (.var 2) (.tup (.cons (.idx (.attr (.var 4) .variations) (.var 7)) (.cons (.var 6) .nil))))) .nil) (.cons (.expr (.append (.var 2) (.tup (.cons (.call 1 (.cons (.var 4) (.cons (.attr (.var 6) .move) (.cons (.attr (.var 6) .word) .nil)))) (.cons (.var 6) .nil))))) .nil)) .nil)
theorem out_len {nd S h} (o : Ok nd S h) {x : Nat} (hx : h.length ≤ x) : Out S x := fun i hi p hp e => by
  have := lt_of_get (o.c i hi p hp); lia
/-- the ways of a pair -/
noncomputable def Sub (S S1 : Sd) : Prop := ∀ i ∈ S.ids, i ∈ S1.ids ∧ ∀ p, S1.A i p = S.A i p
theorem Stp.sub {nd S h S' h'} (s : Stp nd S h S' h') : Sub S S' := fun i hi => ⟨(s.self i hi).1, s.sA i hi⟩
theorem Sub.trans {S T U : Sd} (a : Sub S T) (b : Sub T U) : Sub S U := fun i hi => ⟨(b i (a i hi).1).1, fun p => ((b i (a i hi).1).2 p).trans ((a i hi).2 p)⟩
theorem kids_loop {e K : Nat} {τ : Ab} {fu n : Nat} (hn : 2 ≤ n) {S SA : Sd} {h : H} {m t : Id} (hm : m ∈ SA.ids) (ht : t ∈ SA.ids) (im : inTop τ m = true) (it : inTop τ t = false) (lm : ∀ c ∈ (τ.re t).kids, lvl m < 36) (tda : Nat) (htd : h.length ≤ tda) :
    ∀ (cs dn : List Id) (S1 : Sd) (h1 : H) (l : Loc) (ps : List (Id × Id)) (vd vs : List V), (τ.re t).kids = dn ++ cs → Stp true S h S1 h1 → Sub SA S1 → MI e K S1 → Agr τ S1.a → S1.ids.length + cs.length ≤ ML → vd.length + vs.length + cs.length ≤ ML →
      l 2 = some (.ref tda) → l 4 = some (.ref (SA.A m 0)) → Out S1 tda → h1[tda]? = some (.lst (vd ++ vs)) → PairsN S1 h1 ps vs → ∀ g, cs.length < g →
      ∃ l' h2 S2 vs', C12 (forN 6 (SA.A t 4) (evSs ⟨fu, callN fu n⟩ mtKids) g dn.length l h1 = .nxt l' h2) (Stp true S h S2 h2) (Sub SA S2) (MI e K S2) (Agr τ S2.a) (S2.a = (kstep e S1.a m cs).1) (S2.ids.length ≤ S1.ids.length + cs.length) (Out S2 tda) (h2[tda]? = some (.lst (vd ++ vs'))) (PairsN S2 h2 (ps ++ (kstep e S1.a m cs).2) vs') ((∀ y, y ≠ 6 → y ≠ 7 → l' y = l y)) ((∀ p ∈ (kstep e S1.a m cs).2, inTop τ p.1 = true)) := by
  intro cs
  induction cs with
  | nil =>
    intro dn S1 h1 l ps vd vs ek s sb mi1 ag1 hz hz2 l2 l4 ot etd pn g hg
    obtain ⟨g', rfl, _⟩ := fuN (c := 0) (N := g) hg
    have hk := s.ok.kids (sb t ht).1
    rw [(sb t ht).2, ag1.2 t it, ek] at hk
    exact ⟨l, h1, S1, vs, for_end hk (by simp), s, sb, mi1, ag1, rfl, by simp, ot, etd, by rw [show (kstep e S1.a m []).2 = [] from rfl, List.append_nil]; exact pn, fun _ _ _ => rfl, fun p hp => by cases hp⟩
  | cons c cs ihc =>
    intro dn S1 h1 l ps vd vs ek s sb mi1 ag1 hz hz2 l2 l4 ot etd pn g hg
    obtain ⟨g', rfl, hg'⟩ := fuN (c := cs.length + 1) (N := g) hg
    simp only [List.length_cons] at hz hz2
    have hk := s.ok.kids (sb t ht).1
    rw [(sb t ht).2, ag1.2 t it, ek] at hk
    have hm1 := (sb m hm).1
    have hck : c ∈ (τ.re t).kids := by rw [ek]; simp
    have hcS : c ∈ (S1.a.re t).kids := by rw [ag1.2 t it]; exact hck
    have kc := mi1.tr.kd t (sb t ht).1 c hcS
    have wt := wid_top (e := e) mi1.tr mi1.ep hm1 (mv c) (by rw [inTop_att ag1.1]; exact im)
    rw [inTop_att ag1.1] at wt
    have kl := mi1.tr.kl hm1
    have fw := find_way_ok s.ok hm1 (mv c) fu (N := n) (by lia) (by lia)
    rw [(sb m hm).2] at fw
    have am := s.ok.amove kc.1
    have aw := s.ok.aword kc.1
    -- one turn
    have turn : ∃ S2 h2, evSs ⟨fu, callN fu n⟩ mtKids (l.set 6 (.ref (S1.A c 0))) h1 = F.nxt ((l.set 6 (.ref (S1.A c 0))).set 7 (.int (fwV (S1.a.re m).kids (mv c)))) (List.set (h2 ++ [Cell.tup [.ref (S2.A (wid e S1.a m (mv c)) 0), .ref (S2.A c 0)]]) tda (.lst (vd ++ (vs ++ [.ref h2.length]))))
        ∧ Way true e S1 h1 m (mv c) S2 h2 := by
      cases g : fidx (S1.a.re m).kids (mv c) with
      | some q =>
        obtain ⟨k, hkq, _⟩ := fidx_some g
        obtain ⟨e1, w⟩ := Way.of_old (e := e) s.ok mi1.tr mi1.ep hm1 g hkq
        refine ⟨S1, h1, ?_, w⟩
        have av := s.ok.avar hm1
        rw [(sb m hm).2, (sb m hm).2] at av
        have ik := s.ok.ikid hm1 hkq
        rw [(sb m hm).2] at ik
        have is := isLst_ok etd
        have etd2 := Ext.app h1 [.tup [.ref (S1.A k 0), .ref (S1.A c 0)]] _ _ etd
        have ap := appendV_ok etd2 (by simp; lia) (.ref h1.length)
        have fv : fwV (S1.a.re m).kids (mv c) = q := by rw [fwV, g]
        rw [fv] at fw
        have ge : cmpV .ge h1 (.int q) (.int 0) = .ok (.bool true) h1 := c_t (by lia)
        rw [e1, fv]
        simp [mtKids, l2, l4, am, fw, ge, is, av, ik, alloc, ap]
      | none =>
        have f := fresh_of mi1.tr mi1.ep hm1 (by lia) g
        obtain ⟨S2, h2, e2, nw⟩ := add_variation_ok s.ok f fu hn
        rw [(sb m hm).2, mv_kid] at e2
        have w := Way.of_new nw mi1.tr mi1.ep hm1 (lm c hck) g
        refine ⟨S2, h2, ?_, w⟩
        have ew : wid e S1.a m (mv c) = kid m (mv c) e := by rw [wid, g]
        have etd1 := (nw.stp.keep etd ot).1
        have is := isLst_ok etd
        have etd2 := Ext.app h2 [.tup [.ref (S2.A (kid m (mv c) e) 0), .ref (S2.A c 0)]] _ _ etd1
        have ap := appendV_ok etd2 (by simp; lia) (.ref h2.length)
        have fv : fwV (S1.a.re m).kids (mv c) = -1 := by rw [fwV, g]
        rw [fv] at fw
        have ge : cmpV .ge h1 (.int (-1)) (.int 0) = .ok (.bool false) h1 := rfl
        have ea : S1.A c 0 = S2.A c 0 := (nw.stp.sA c kc.1 0).symm
        rw [ew, fv]
        rw [← ea] at etd2 ap ⊢
        simp [mtKids, l2, l4, am, aw, fw, ge, is, e2, alloc, ap]
    obtain ⟨S2, h2, e2, w2⟩ := turn
    have wl := wids_len e S1.a S1.ids m (mv c)
    rw [← w2.ids] at wl
    have etd1 := w2.stp.keep etd ot
    have ag2 : Agr τ S2.a := by rw [w2.a]; exact ag1.wab im (mv c)
    have mi2 : MI e K S2 := ⟨w2.tr, w2.ep, by rw [w2.a]; exact mi1.lb.wab e m (mv c)⟩
    have hc2 := (w2.stp.self c kc.1).1
    -- the heap behind the turn
    have s2 := s.trans w2.stp
    have s3 := (s2.ext (Ext.app h2 [.tup [.ref (S2.A (wid e S1.a m (mv c)) 0), .ref (S2.A c 0)]])).setOut htd etd1.2 (.lst (vd ++ (vs ++ [.ref h2.length])))
    have etd2 := Ext.app h2 [.tup [.ref (S2.A (wid e S1.a m (mv c)) 0), .ref (S2.A c 0)]] _ _ etd1.1
    have pn2 : PairsN S2 (List.set (h2 ++ [Cell.tup [.ref (S2.A (wid e S1.a m (mv c)) 0), .ref (S2.A c 0)]]) tda (.lst (vd ++ (vs ++ [.ref h2.length])))) (ps ++ [(wid e S1.a m (mv c), c)]) (vs ++ [.ref h2.length]) := by
      refine PairsN.set etd2 _ ?_
      refine PairsN.append ((pn.stp w2.stp).stp (w2.stp.ok.estp (Ext.app _ _))) ?_
      exact ⟨⟨h2.length, rfl, by simp, out_len w2.stp.ok (Nat.le_refl _), w2.mem, hc2⟩, trivial⟩
    rw [for_nxt hk (v := .ref (S1.A c 0)) (by simp) e2]
    obtain ⟨l', h4, S4, vs', e4, s4, sb4, mi4, ag4, a4, z4, o4, et4, pn4, f4, tp4⟩ := ihc (dn ++ [c]) S2 _ ((l.set 6 (.ref (S1.A c 0))).set 7 (.int (fwV (S1.a.re m).kids (mv c)))) (ps ++ [(wid e S1.a m (mv c), c)]) vd (vs ++ [.ref h2.length]) (by rw [ek]; simp)
      s3 (sb.trans w2.stp.sub) mi2 ag2 (by lia) (by simp; lia) l2 l4 etd1.2 (get_set_self etd2 _) pn2 g' (by lia)
    refine ⟨l', h4, S4, vs', by simpa using e4, s4, sb4, mi4, ag4, ?_, by simp only [List.length_cons]; lia, o4, et4, ?_, fun y y6 y7 => (f4 y y6 y7).trans ((if_neg y7).trans (if_neg y6)), ?_⟩
    · rw [a4, w2.a]; rfl
    · rw [w2.a] at pn4
      have e : ps ++ (kstep e S1.a m (c :: cs)).2 = ps ++ [(wid e S1.a m (mv c), c)] ++ (kstep e (wab e S1.a m (mv c)) m cs).2 := by rw [List.append_assoc]; rfl
      rw [e]; exact pn4
    · intro p hp
      dsimp only [kstep] at hp
      rcases List.mem_cons.1 hp with rfl | hp
      · exact wt.1
      · exact tp4 p (by rw [w2.a]; exact hp)
end MineB
end

section
namespace MineB
open Mine
set_option linter.unusedSimpArgs false
set_option linter.unusedVariables false
theorem add_new_step {S : Sd} {h : H} {m t : Id} (o : Ok true S h) (hm : m ∈ S.ids) (ht : t ∈ S.ids) (hmt : m ≠ t) {p : Nat} (h1 : 1 ≤ p) (h3 : p ≤ 3) {K : Nat} (hK : K < ML) (lo : LabOk K (lab S m p)) (lt : LabOk K (lab S t p))
    {fu : Nat} (hf : FU ≤ fu) {N : Nat} (hN : 1 ≤ N) :
    ∃ h', callN fu N 15 [.ref (S.A m p), .ref (S.A t p)] h = .ok .none h' ∧ Stp true S h (S.on (S.a.lb m p (addNew (lab S m p) (lab S t p)))) h' :=
  ⟨_, add_new_ok (o.lab hm h1 h3) (o.lab ht h1 h3) (fun e => hmt (o.inj m hm t ht p (by lia) p (by lia) e).1) hK lo lt hf hN, lb_step o hm h1 h3 rfl⟩
theorem labs_N {S : Sd} {h : H} {m t : Id} (o : Ok true S h) (hm : m ∈ S.ids) (ht : t ∈ S.ids) (hmt : m ≠ t) {K : Nat} (hK : K < ML) (lo : RecOk K (S.a.re m)) (lt : RecOk K (S.a.re t))
    {fu : Nat} (hf : FU ≤ fu) {N : Nat} (hN : 1 ≤ N) :
    ∃ ha hb hc, C6 (callN fu N 15 [.ref (S.A m 1), .ref (S.A t 1)] h = .ok .none ha) (callN fu N 15 [.ref (S.A m 2), .ref (S.A t 2)] ha = .ok .none hb) (callN fu N 15 [.ref (S.A m 3), .ref (S.A t 3)] hb = .ok .none hc) (Stp true S h (S.on (S.a.put m (lab3 (S.a.re m) (S.a.re t)))) hc) ((∀ i ∈ S.ids, ha[S.A i 0]? = some (cell true S i 0))) ((∀ i ∈ S.ids, hb[S.A i 0]? = some (cell true S i 0))) := by
  have tm : t ≠ m := Ne.symm hmt
  obtain ⟨ha, ea, sa⟩ := add_new_step o hm ht hmt (p := 1) (by decide) (by decide) hK lo.1 lt.1 hf hN
  have sa : Stp true S h (S.on (S.a.put m ⟨addNew (S.a.re m).r (S.a.re t).r, (S.a.re m).n, (S.a.re m).b, (S.a.re m).kids⟩)) ha := sa
  obtain ⟨hb, eb, sb⟩ := add_new_step sa.ok (m := m) (t := t) hm ht hmt (p := 2) (by decide) (by decide) hK (labm_ok lo.2.1) (labt_ok tm lt.2.1) hf hN
  rw [lb2_eq tm] at sb
  obtain ⟨hc, ec, sc⟩ := add_new_step sb.ok (m := m) (t := t) hm ht hmt (p := 3) (by decide) (by decide) hK (labm_ok lo.2.2) (labt_ok tm lt.2.2) hf hN
  rw [lb3_eq tm] at sc
  exact ⟨ha, hb, hc, ea, eb, ec, (sa.trans sb).trans sc, fun i hi => sa.ok.n0 (i := i) hi, fun i hi => sb.ok.n0 (i := i) hi⟩
noncomputable def mtBody : Ss := .cons (.assign2 4 5 (.idx (.var 2) (.var 3))) (.cons (.aug 3 (.int 1)) (.cons (.expr (.call 15 (.cons (.attr (.var 4) .remarks) (.cons (.attr (.var 5) .remarks) .nil)))) (.cons (.expr (.call 15 (.cons (.attr (.var 4) .nags) (.cons (.attr (.var 5) .nags) .nil)))) (.cons (.expr (.call 15 (.cons (.attr (.var 4) .before) (.cons (.attr (.var 5) .before) .nil)))) (.cons (.forL 6 (.attr (.var 5) .variations) mtKids) .nil)))))
noncomputable def szP (τ : Ab) (n : Nat) (ps : List (Id × Id)) : Nat := (ps.map fun p => (pre τ n p.2).length).sum
theorem szP_app (τ : Ab) (n : Nat) (a b : List (Id × Id)) : szP τ n (a ++ b) = szP τ n a + szP τ n b := by simp [szP]
theorem kstep_snd (e : Nat) (m : Id) : ∀ (cs : List Id) (a : Ab), (kstep e a m cs).2.map (·.2) = cs
  | [], _ => rfl
  | c :: cs, a => congrArg (c :: ·) (kstep_snd e m cs _)
structure POk (τ : Ab) (n d : Nat) (p : Id × Id) : Prop where
  im : inTop τ p.1 = true
  it : inTop τ p.2 = false
  dp : Dp τ n p.2
  hl : ∀ j ∈ pre τ n p.2, lvl p.1 + lvl j ≤ 36 + lvl p.2
  lv : lvl p.1 = d
theorem queueLoop {e K : Nat} (hK : K < ML) {τ : Ab} {fu N : Nat} (hf : FU ≤ fu) (hN : 2 ≤ N) {S : Sd} {h : H} {td : Nat} (htd : h.length ≤ td) :
    ∀ (M n d : Nat) (A B : List (Id × Id)) (S1 : Sd) (h1 : H) (l : Loc) (vd vs : List V), (∀ p ∈ A, POk τ (n + 1) d p) → (∀ p ∈ B, POk τ n (d + 1) p) → szP τ (n + 1) A + szP τ n B < M →
      Stp true S h S1 h1 → MI e K S1 → Agr τ S1.a → S1.ids.length + szP τ (n + 1) A + szP τ n B ≤ ML + A.length + B.length → vd.length + szP τ (n + 1) A + szP τ n B ≤ ML →
      l 2 = some (.ref td) → l 3 = some (.int vd.length) → Out S1 td → h1[td]? = some (.lst (vd ++ vs)) → PairsN S1 h1 (A ++ B) vs →
      ∃ l' h' S', C6 (whileN (evE ⟨fu, callN fu N⟩ (.cmp .lt (.var 3) (.len (.var 2)))) (evSs ⟨fu, callN fu N⟩ mtBody) M l h1 = .nxt l' h') (Stp true S h S' h') (MI e K S') (Agr τ S'.a) (S'.a = mfold e τ (n + 1) (mfold e τ n S1.a B) A) (S'.ids.length + A.length + B.length ≤ S1.ids.length + szP τ (n + 1) A + szP τ n B) := by
  intro M
  induction M with
  | zero => intro n d A B S1 h1 l vd vs _ _ g; exact absurd g (Nat.not_lt_zero _)
  | succ M ih =>
    -- a turn
    have main : ∀ (n d : Nat) (p : Id × Id) (A B : List (Id × Id)) (S1 : Sd) (h1 : H) (l : Loc) (vd vs : List V), (∀ q ∈ p :: A, POk τ (n + 1) d q) → (∀ q ∈ B, POk τ n (d + 1) q) → szP τ (n + 1) (p :: A) + szP τ n B < M + 1 →
      Stp true S h S1 h1 → MI e K S1 → Agr τ S1.a → S1.ids.length + szP τ (n + 1) (p :: A) + szP τ n B ≤ ML + (p :: A).length + B.length → vd.length + szP τ (n + 1) (p :: A) + szP τ n B ≤ ML →
      l 2 = some (.ref td) → l 3 = some (.int vd.length) → Out S1 td → h1[td]? = some (.lst (vd ++ vs)) → PairsN S1 h1 (p :: A ++ B) vs →
      ∃ l' h' S', C6 (whileN (evE ⟨fu, callN fu N⟩ (.cmp .lt (.var 3) (.len (.var 2)))) (evSs ⟨fu, callN fu N⟩ mtBody) (M + 1) l h1 = .nxt l' h') (Stp true S h S' h') (MI e K S') (Agr τ S'.a) (S'.a = mfold e τ (n + 1) (mfold e τ n S1.a B) (p :: A)) (S'.ids.length + (p :: A).length + B.length ≤ S1.ids.length + szP τ (n + 1) (p :: A) + szP τ n B) := by
      intro n d p A B S1 h1 l vd vs hA hB hM s mi ag hz hz2 l2 l3 ot et pn
      refine Classical.byContradiction fun hneg => ?_
      obtain ⟨m, t⟩ := p
      have pk := hA _ List.mem_cons_self
      have pl := pn.len
      cases vs with
      | nil => simp at pl
      | cons v vs =>
      obtain ⟨⟨tp, rfl, gt, otp, hm, ht⟩, pr⟩ := pn
      change m ∈ S1.ids at hm
      change t ∈ S1.ids at ht
      have hmt : m ≠ t := fun g => by have := pk.im; have := pk.it; simp_all
      have et' : S1.a.re t = τ.re t := ag.2 t pk.it
      -- sizes
      have sA : szP τ (n + 1) ((m, t) :: A) = (1 + ((τ.re t).kids.flatMap (pre τ n)).length) + szP τ (n + 1) A := by
        show (pre τ (n + 1) t).length + _ = _
        rw [Nat.add_comm 1]; rfl
      have lA : ((m, t) :: A).length = A.length + 1 := rfl
      have kn : ∀ ks : List Id, (∀ k ∈ ks, Dp τ n k) → ks.length ≤ (ks.flatMap (pre τ n)).length := by
        intro ks
        induction ks with
        | nil => intro _; simp
        | cons k ks ihk =>
          intro hk
          have h1 := ihk fun q hq => hk q (List.mem_cons_of_mem _ hq)
          have h2 := List.length_pos_of_mem (pre_pos (hk k List.mem_cons_self))
          simp only [List.flatMap_cons, List.length_append, List.length_cons]; lia
      have kl := kn (τ.re t).kids pk.dp
      have sz1 : ∀ ps : List (Id × Id), (∀ q ∈ ps, Dp τ (n + 1) q.2) → ps.length ≤ szP τ (n + 1) ps := by
        intro ps
        induction ps with
        | nil => intro _; simp
        | cons k ks ihk =>
          intro hk
          have h1 := ihk fun q hq => hk q (List.mem_cons_of_mem _ hq)
          have h2 := List.length_pos_of_mem (pre_pos (hk k List.mem_cons_self))
          simp only [szP, List.map_cons, List.sum_cons, List.length_cons] at h1 ⊢; lia
      have sz0 : ∀ ps : List (Id × Id), (∀ q ∈ ps, Dp τ n q.2) → ps.length ≤ szP τ n ps := by
        intro ps
        induction ps with
        | nil => intro _; simp
        | cons k ks ihk =>
          intro hk
          have h1 := ihk fun q hq => hk q (List.mem_cons_of_mem _ hq)
          have h2 := List.length_pos_of_mem (pre_pos (hk k List.mem_cons_self))
          simp only [szP, List.map_cons, List.sum_cons, List.length_cons] at h1 ⊢; lia
      have zA := sz1 A fun q hq => (hA q (List.mem_cons_of_mem _ hq)).dp
      have zB := sz0 B fun q hq => (hB q hq).dp
      have lvs : vs.length = A.length + B.length := by simp at pl; lia
      -- the condition
      have lt := lenV_ok et
      have cd : evE ⟨fu, callN fu N⟩ (.cmp .lt (.var 3) (.len (.var 2))) l h1 = .ok (.bool true) h1 := by
        simp at lt
        simp [l2, l3, lt]; lia
      -- the labels
      obtain ⟨ha, hb, hc, ea, eb, ec, sl, na, nb⟩ := labs_N s.ok hm ht hmt hK (mi.lb m) (mi.lb t) hf (N := N) (by lia)
      rw [et'] at sl
      have s1 := s.trans sl
      have mi1 : MI e K (S1.on (S1.a.put m (lab3 (S1.a.re m) (τ.re t)))) := ⟨mi.tr.putk hm rfl, mi.ep.putk rfl, mi.lb.put ((mi.lb m).lab3 (by rw [← et']; exact mi.lb t))⟩
      have ag1 : Agr τ (S1.on (S1.a.put m (lab3 (S1.a.re m) (τ.re t)))).a := ag.put pk.im _
      have etc := (sl.keep et ot)
      have prc : PairsN (S1.on (S1.a.put m (lab3 (S1.a.re m) (τ.re t)))) hc (A ++ B) vs := PairsN.stp sl pr
      have lm : ∀ c ∈ (τ.re t).kids, lvl m < 36 := by
        intro c hck
        have dc := pk.dp c hck
        have pc : c ∈ pre τ (n + 1) t := List.mem_cons_of_mem _ (List.mem_flatMap.2 ⟨c, hck, pre_pos dc⟩)
        have := pk.hl c pc
        have lc : lvl c = lvl t + 1 := (kid_lvl mi.tr ht (by rw [et']; exact hck)).1
        simp only at this; lia
      have hFU : ML < fu := Nat.lt_of_lt_of_le (by decide) hf
      have hML : ML = 16777216 := rfl
      let l4 : Loc := (((l.set 4 (.ref (S1.A m 0))).set 5 (.ref (S1.A t 0))).set 3 (.int (vd.length + 1 : Nat)))
      obtain ⟨l', h2, S2, vs', e2, s2, sb2, mi2, ag2, a2, z2, o2, et2, pn2, f2, tp2⟩ := kids_loop (e := e) (K := K) (n := N) (fu := fu) hN (SA := S1) hm ht pk.im pk.it lm td htd (τ.re t).kids [] (S1.on (S1.a.put m (lab3 (S1.a.re m) (τ.re t)))) hc l4 (A ++ B) (vd ++ [.ref tp]) vs rfl s1 sl.sub mi1 ag1
            (by show S1.ids.length + _ ≤ ML; lia) (by simp; lia) l2 rfl etc.2 (by simpa using etc.1) prc fu (by lia)
      have eS : kstep e (S1.on (S1.a.put m (lab3 (S1.a.re m) (τ.re t)))).a m (τ.re t).kids = step e τ S1.a m t := rfl
      rw [eS] at a2 pn2 tp2
      have bd : evSs ⟨fu, callN fu N⟩ mtBody l h1 = .nxt l' h2 := by
        have ix : idxV h1 (.ref td) (.int vd.length) = .ok (.ref tp) h1 := idx_ok et (by rw [List.getElem?_append_right (Nat.le_refl _), Nat.sub_self]; rfl)
        have up : unpair h1 (.ref tp) = some (.ref (S1.A m 0), .ref (S1.A t 0)) := unpair_ok gt
        have ad : binV .add h1 (.int vd.length) (.int 1) = .ok (.int (vd.length + 1 : Nat)) h1 := by
          have s1 : sm (vd.length : Int) := sm_len (by lia)
          have s2 : sm 1 := by unfold sm; lia
          exact bin_add s1 s2
        have r1 := s.ok.arem hm
        have r2 := s.ok.arem ht
        have g1 : attrV ha .nags (.ref (S1.A m 0)) = .ok (.ref (S1.A m 2)) ha := attr_ok (na m hm) rfl
        have g2 : attrV ha .nags (.ref (S1.A t 0)) = .ok (.ref (S1.A t 2)) ha := attr_ok (na t ht) rfl
        have b1 : attrV hb .before (.ref (S1.A m 0)) = .ok (.ref (S1.A m 3)) hb := attr_ok (nb m hm) rfl
        have b2 : attrV hb .before (.ref (S1.A t 0)) = .ok (.ref (S1.A t 3)) hb := attr_ok (nb t ht) rfl
        have av : attrV hc .variations (.ref (S1.A t 0)) = .ok (.ref (S1.A t 4)) hc := sl.ok.avar (i := t) ht
        rw [mtBody, ss_nxt (l' := (l.set 4 (.ref (S1.A m 0))).set 5 (.ref (S1.A t 0))) (h' := h1) (by simp [l2, l3, ix, up])]
        rw [ss_nxt (l' := l4) (h' := h1) (by simp [l3, ad, l4])]
        rw [ss_nxt (l' := l4) (h' := ha) (by simp [l4, r1, r2, ea])]
        rw [ss_nxt (l' := l4) (h' := hb) (by simp [l4, g1, g2, eb])]
        rw [ss_nxt (l' := l4) (h' := hc) (by simp [l4, b1, b2, ec])]
        rw [ss_nxt (l' := l') (h' := h2) (by
          have : evE ⟨fu, callN fu N⟩ (.attr (.var 5) .variations) l4 hc = .ok (.ref (S1.A t 4)) hc := x_attr (x_var rfl) av
          exact (s_forL this).trans e2)]
        rfl
      have zp : szP τ n (step e τ S1.a m t).2 = ((τ.re t).kids.flatMap (pre τ n)).length := by
        have e1 := kstep_snd e m (τ.re t).kids (S1.a.put m (lab3 (S1.a.re m) (τ.re t)))
        have e2 : szP τ n (step e τ S1.a m t).2 = (((step e τ S1.a m t).2.map (·.2)).map fun c => (pre τ n c).length).sum := by simp [szP, List.map_map, Function.comp_def]
        rw [e2, show (step e τ S1.a m t).2.map (·.2) = _ from e1, List.length_flatMap]
      have lp : (step e τ S1.a m t).2.length = (τ.re t).kids.length := by
        have e1 := congrArg List.length (kstep_snd e m (τ.re t).kids (S1.a.put m (lab3 (S1.a.re m) (τ.re t))))
        rw [List.length_map] at e1; exact e1
      have z2' : S2.ids.length ≤ S1.ids.length + (τ.re t).kids.length := z2
      have kl1 : KL S1.a := KL.of mi.tr
      have lvp : ∀ q ∈ (step e τ S1.a m t).2, lvl q.1 = lvl m + 1 := kstep_lvl e m _ _ (kl1.lab m (τ.re t))
      have mem2 : ∀ q ∈ (step e τ S1.a m t).2, q.2 ∈ (τ.re t).kids := fun q hq => by
        have e1 := kstep_snd e m (τ.re t).kids (S1.a.put m (lab3 (S1.a.re m) (τ.re t)))
        rw [← e1]; exact List.mem_map_of_mem hq
      have zBp := szP_app τ n B (step e τ S1.a m t).2
      have lBp : (B ++ (step e τ S1.a m t).2).length = B.length + (τ.re t).kids.length := by rw [List.length_append, lp]
      have lvd : (vd ++ [V.ref tp]).length = vd.length + 1 := by simp
      obtain ⟨l'', h'', S', e', s', mi', ag', a', z'⟩ := ih n d A (B ++ (step e τ S1.a m t).2) S2 h2 l' (vd ++ [.ref tp]) vs' (fun q hq => hA q (List.mem_cons_of_mem _ hq))
        (fun q hq => by
          rcases List.mem_append.1 hq with hq | hq
          · exact hB q hq
          · have hck := mem2 q hq
            have hcS : q.2 ∈ (S1.a.re t).kids := by rw [et']; exact hck
            have kc := mi.tr.kd t ht q.2 hcS
            have lc : lvl q.2 = lvl t + 1 := (kid_lvl mi.tr ht hcS).1
            have dc := pk.dp q.2 hck
            refine ⟨tp2 q hq, by rw [inTop_kid (by rw [← ag.1]; exact kc.2.1) kc.2.2.1, kc.2.2.2]; exact pk.it, dc, fun j hj => ?_, by rw [lvp q hq]; have := pk.lv; simp only at this; lia⟩
            have := pk.hl j (List.mem_cons_of_mem _ (List.mem_flatMap.2 ⟨q.2, hck, hj⟩))
            have e9 : lvl m + lvl j ≤ 36 + lvl t := this
            have e10 := lvp q hq
            lia)
        (by lia) s2 mi2 ag2 (by lia) (by lia) ((f2 2 (by decide) (by decide)).trans l2) ((f2 3 (by decide) (by decide)).trans (by rw [lvd]; rfl)) o2 et2 (by rw [← List.append_assoc]; exact pn2)
      refine hneg ⟨l'', h'', S', (whl_nxt cd bd).trans e', s', mi', ag', ?_, by lia⟩
      rw [a', a2, queue_step e τ n S1.a m t A B kl1 (fun q hq => by
        have h1 := (hB q hq).lv
        have h2 := pk.lv
        simp only at h2; lia)]
    intro n d A B S1 h1 l vd vs hA hB hM s mi ag hz hz2 l2 l3 ot et pn
    cases A with
    | cons p A => exact main n d p A B S1 h1 l vd vs hA hB hM s mi ag hz hz2 l2 l3 ot et pn
    | nil =>
      cases B with
      | nil =>
        have pl := pn.len
        have : vs = [] := by cases vs with
          | nil => rfl
          | cons v vs => simp at pl
        subst this
        have lt := lenV_ok et
        simp at lt
        refine ⟨l, h1, S1, whl_end (by simp [l2, l3, lt]), s, mi, ag, rfl, Nat.le_refl _⟩
      | cons b B =>
        cases n with
        | zero => exact (hB b List.mem_cons_self).dp.elim
        | succ n =>
          have z0 : szP τ (n + 1 + 1) [] = 0 := rfl
          have z1 : szP τ n [] = 0 := rfl
          have l0 : ([] : List (Id × Id)).length = 0 := rfl
          obtain ⟨l', h', S', e', s', mi', ag', a', z'⟩ := main n (d + 1) b B [] S1 h1 l vd vs hB (fun q hq => by cases hq) (by lia) s mi ag (by lia) (by lia) l2 l3 ot et (by simpa using pn)
          exact ⟨l', h', S', e', s', mi', ag', a', by lia⟩
theorem merge_tree_ok {e K : Nat} (hK : K < ML) {τ : Ab} {fu : Nat} (hf : FU ≤ fu) {n : Nat} {S : Sd} {h : H} {m t : Id} (o : Ok true S h) (mi : MI e K S) (ag : Agr τ S.a) (hm : m ∈ S.ids) (ht : t ∈ S.ids) (im : inTop τ m = true) (it : inTop τ t = false)
    (d : Dp τ n t) (hl : ∀ j ∈ pre τ n t, lvl m + lvl j ≤ 36 + lvl t) (hz : S.ids.length + (pre τ n t).length ≤ ML + 1) (hz2 : (pre τ n t).length ≤ ML) {M : Nat} (hM : 3 ≤ M) :
    ∃ S' h', C5 (callN fu M 16 [.ref (S.A m 0), .ref (S.A t 0)] h = .ok .none h') (Stp true S h S' h') (S'.a = mrg e τ n S.a m t) (MI e K S') (S'.ids.length + 1 ≤ S.ids.length + (pre τ n t).length) := by
  obtain ⟨N, rfl, hN⟩ := fuN hM
  cases n with
  | zero => exact d.elim
  | succ n =>
    have hFU : ML + 100 ≤ fu := Nat.le_trans (by decide) hf
    rw [callN_eq (k := 2) (b := b_merge_tree) (hk := rfl) (hb := rfl) (hl := rfl)]
    have e0 : Ext h (h ++ [.tup [.ref (S.A m 0), .ref (S.A t 0)]] ++ [.lst [.ref h.length]]) := (Ext.app _ _).trans (Ext.app _ _)
    have zz : szP τ (n + 1) [(m, t)] = (pre τ (n + 1) t).length := by simp [szP]
    have z1 : szP τ n [] = 0 := rfl
    have z3 : [(m, t)].length = 1 := rfl
    have z4 : ([] : List (Id × Id)).length = 0 := rfl
    have z5 : ([] : List V).length = 0 := rfl
    obtain ⟨l', h', S', e1, s1, mi1, ag1, a1, z2⟩ := queueLoop hK hf (N := N) (e := e) (τ := τ) hN (S := S) (h := h) (td := h.length + 1) (by lia) fu n (lvl m) [(m, t)] [] S (h ++ [.tup [.ref (S.A m 0), .ref (S.A t 0)]] ++ [.lst [.ref h.length]])
      (((params [.ref (S.A m 0), .ref (S.A t 0)]).set 2 (.ref (h.length + 1))).set 3 (.int 0)) [] [.ref h.length] (fun q hq => by
        rw [List.mem_singleton] at hq; subst hq; exact ⟨im, it, d, hl, rfl⟩) (fun q hq => by cases hq) (by lia) (o.estp e0) mi ag (by lia) (by lia) rfl rfl (out_len o (by lia)) (by simp)
      ⟨⟨h.length, rfl, by simp, out_len o (Nat.le_refl _), hm, ht⟩, trivial⟩
    refine ⟨S', h', ?_, s1, a1, mi1, by lia⟩
    show toR (evSs _ (.cons (.assign 2 _) (.cons (.assign 3 (.int 0)) (.cons (.whil _ mtBody) .nil))) _ _) = _
    rw [ss_nxt (l' := (params [.ref (S.A m 0), .ref (S.A t 0)]).set 2 (.ref (h.length + 1))) (h' := h ++ [.tup [.ref (S.A m 0), .ref (S.A t 0)]] ++ [.lst [.ref h.length]]) (by simp [alloc])]
    rw [ss_nxt (l' := ((params [.ref (S.A m 0), .ref (S.A t 0)]).set 2 (.ref (h.length + 1))).set 3 (.int 0)) (h' := h ++ [.tup [.ref (S.A m 0), .ref (S.A t 0)]] ++ [.lst [.ref h.length]]) (by simp )]
    rw [ss_nxt (l' := l') (h' := h') (by exact e1)]; rfl
end MineB
end

section
namespace MineB
open Mine
set_option linter.unusedSimpArgs false
set_option linter.unusedVariables false
noncomputable def wline (e : Nat) : List Int → Ab → Id → Ab × Id
  | [], a, p => (a, p)
  | v :: vs, a, p => wline e vs (wab e a p v) (wid e a p v)
theorem pth_eq {a b : Ab} (h : a.att = b.att) : pth a = pth b := by
  funext ⟨t, p⟩
  show pthL a t p = pthL b t p
  induction p with
  | nil => rfl
  | cons x p ih => dsimp only [pthL]; rw [h, ih]
theorem wid_pth {e a ids p} (t : Tr a ids) (ep : Ep e a ids) (hp : p ∈ ids) (v : Int) : pth a (wid e a p v) = pth a p ++ [v] := by
  unfold wid
  cases g : fidx (a.re p).kids v with
  | some q =>
    obtain ⟨k, hk, hv⟩ := fidx_some g
    simp only [hk, Option.getD_some]
    rw [pth_kid t hp (List.mem_of_getElem? hk), hv]
  | none =>
    have hk := ep.fresh g
    simp only
    rw [pth_att ((t.un _ hk).2 (by simp [kid])) (by simp [kid]), up_kid, mv_kid]
structure Line (nd : Bool) (e K : Nat) (S : Sd) (h : H) (p : Id) (vs : List Int) (S' : Sd) (h' : H) : Prop where
  stp : Stp nd S h S' h'
  a : S'.a = (wline e vs S.a p).1
  mem : (wline e vs S.a p).2 ∈ S'.ids
  mi : MI e K S'
  pth : pth S'.a (wline e vs S.a p).2 = pth S.a p ++ vs
  len : S'.ids.length ≤ S.ids.length + vs.length
  att : S'.a.att = S.a.att
theorem Line.nil {nd e K S h p} (o : Ok nd S h) (mi : MI e K S) (hp : p ∈ S.ids) : Line nd e K S h p [] S h :=
  ⟨o.self, rfl, hp, mi, by rw [List.append_nil]; rfl, Nat.le_refl _, rfl⟩
theorem Line.cons {nd e K S h p v vs S1 h1 S2 h2} (mi : MI e K S) (hp : p ∈ S.ids) (w : Way nd e S h p v S1 h1) (r : Line nd e K S1 h1 (wid e S.a p v) vs S2 h2) : Line nd e K S h p (v :: vs) S2 h2 := by
  have ea : S1.a.att = S.a.att := by rw [w.a, wab_att]
  have r1 := r.a; have r2 := r.mem; have r4 := r.pth
  rw [w.a] at r1 r2 r4
  refine ⟨w.stp.trans r.stp, r1, r2, r.mi, ?_, ?_, r.att.trans ea⟩
  · show MineB.pth S2.a (wline e vs _ _).2 = _
    rw [r4, ← w.a, pth_eq ea, wid_pth mi.tr mi.ep hp]; simp
  · have := wids_len e S.a S.ids p v
    rw [← w.ids] at this
    have := r.len
    simp; lia
theorem Way.mi {nd e K S h p v S1 h1} (w : Way nd e S h p v S1 h1) (mi : MI e K S) : MI e K S1 := ⟨w.tr, w.ep, by rw [w.a]; exact mi.lb.wab e p v⟩
theorem law_line {e K fu n : Nat} (hn : 2 ≤ n) {ml : Nat} {all : List Int} : ∀ (vs dn : List Int) (S : Sd) (h : H) (p : Id) (l : Loc), all = dn ++ vs → Ok false S h → MI e K S → p ∈ S.ids → lvl p + vs.length ≤ 36 → S.ids.length + vs.length ≤ ML →
    h[ml]? = some (intC all) → Out S ml → l 2 = some (.ref (S.A p 0)) → ∀ g, vs.length < g →
    ∃ l' S' h', C4 (forN 7 ml (evSs ⟨fu, callN fu n⟩ (.cons (.assign 2 (.call 23 (.cons (.var 2) (.cons (.var 7) .nil)))) .nil)) g dn.length l h = .nxt l' h') (Line false e K S h p vs S' h') (l' 2 = some (.ref (S'.A (wline e vs S.a p).2 0))) (∀ y, y ≠ 2 → y ≠ 7 → l' y = l y) := by
  intro vs
  induction vs with
  | nil =>
    intro dn S h p l ea o mi hp hl hz hm om l2 g hg
    obtain ⟨g', rfl, _⟩ := fuN (c := 0) (N := g) hg
    exact ⟨l, S, h, for_end hm (by simp [ea]), Line.nil o mi hp, l2, fun _ _ _ => rfl⟩
  | cons v vs ih =>
    intro dn S h p l ea o mi hp hl hz hm om l2 g hg
    simp only [List.length_cons] at hl hz hg
    obtain ⟨g', rfl, hg'⟩ := fuN (c := vs.length + 1) (N := g) hg
    obtain ⟨S1, h1, e1, w⟩ := law_way_ok (e := e) v o mi.tr mi.ep hp (by lia) (by lia) fu hn
    have bd : evSs ⟨fu, callN fu n⟩ (.cons (.assign 2 (.call 23 (.cons (.var 2) (.cons (.var 7) .nil)))) .nil) (l.set 7 (.int v)) h = .nxt ((l.set 7 (.int v)).set 2 (.ref (S1.A (wid e S.a p v) 0))) h1 := by
      simp [l2, e1]
    rw [for_nxt hm (v := .int v) (by rw [ea]; simp) bd]
    have k := w.stp.keep hm om
    have wl := wids_len e S.a S.ids p v
    rw [← w.ids] at wl
    have lw := (KL.of mi.tr).wid e p v
    obtain ⟨l', S', h', e2, r, l2', f⟩ := ih (dn ++ [v]) S1 h1 (wid e S.a p v) ((l.set 7 (.int v)).set 2 (.ref (S1.A (wid e S.a p v) 0))) (by rw [ea]; simp) w.stp.ok (w.mi mi) w.mem (by lia) (by lia) k.1 k.2 rfl g' (by lia)
    refine ⟨l', S', h', by simpa using e2, Line.cons mi hp w r, ?_, fun y y2 y7 => (f y y2 y7).trans ((if_neg y2).trans (if_neg y7))⟩
    rw [l2', w.a]; rfl
theorem add_line_ok {e K fu : Nat} (hf : FU ≤ fu) {M : Nat} (hM : 3 ≤ M) {ml : Nat} {vs : List Int} {S : Sd} {h : H} {p : Id} (o : Ok true S h) (mi : MI e K S) (hp : p ∈ S.ids) (hl : lvl p + vs.length ≤ 36) (hz : S.ids.length + vs.length ≤ ML)
    (hm : h[ml]? = some (intC vs)) (om : Out S ml) :
    ∃ S' h', callN fu M 7 [.ref (S.A p 0), .ref ml] h = .ok (.ref (S'.A (wline e vs S.a p).2 0)) h' ∧ Line true e K S h p vs S' h' := by
  obtain ⟨n, rfl, hn⟩ := fuN hM
  have hFU : ML < fu := Nat.lt_of_lt_of_le (by decide) hf
  have loop : ∀ (ws dn : List Int) (S : Sd) (h : H) (p : Id) (l : Loc), vs = dn ++ ws → Ok true S h → MI e K S → p ∈ S.ids → lvl p + ws.length ≤ 36 → S.ids.length + ws.length ≤ ML →
    h[ml]? = some (intC vs) → Out S ml → l 0 = some (.ref (S.A p 0)) → ∀ g, ws.length < g →
    ∃ l' S' h', C3 (forN 2 ml (evSs ⟨fu, callN fu n⟩ (.cons (.assign 3 (.call 6 (.cons (.var 0) (.cons (.var 2) .nil)))) (.cons (.ite (.cmp .ge (.var 3) (.int 0)) (.cons (.assign 0 (.idx (.attr (.var 0) .variations) (.var 3))) .nil) (.cons (.assign 0 (.call 1 (.cons (.var 0) (.cons (.var 2) (.cons .str .nil))))) .nil)) .nil))) g dn.length l h = .nxt l' h') (Line true e K S h p ws S' h') (l' 0 = some (.ref (S'.A (wline e ws S.a p).2 0))) := by
    intro ws
    induction ws with
    | nil =>
      intro dn S h p l ea o mi hp hl hz hm om l0 g hg
      obtain ⟨g', rfl, _⟩ := fuN (c := 0) (N := g) hg
      exact ⟨l, S, h, for_end hm (by simp [ea]), Line.nil o mi hp, l0⟩
    | cons v ws ih =>
      intro dn S h p l ea o mi hp hl hz hm om l0 g hg
      simp only [List.length_cons] at hl hz hg
      obtain ⟨g', rfl, hg'⟩ := fuN (c := ws.length + 1) (N := g) hg
      have kl := mi.tr.kl hp
      have fw := find_way_ok o hp v fu (N := n) (by lia) (by lia)
      have turn : ∃ S1 h1 l1, C3 (evSs ⟨fu, callN fu n⟩ (.cons (.assign 3 (.call 6 (.cons (.var 0) (.cons (.var 2) .nil)))) (.cons (.ite (.cmp .ge (.var 3) (.int 0)) (.cons (.assign 0 (.idx (.attr (.var 0) .variations) (.var 3))) .nil) (.cons (.assign 0 (.call 1 (.cons (.var 0) (.cons (.var 2) (.cons .str .nil))))) .nil)) .nil)) (l.set 2 (.int v)) h = .nxt l1 h1) (Way true e S h p v S1 h1) (l1 0 = some (.ref (S1.A (wid e S.a p v) 0))) := by
        cases g : fidx (S.a.re p).kids v with
        | some q =>
          obtain ⟨k, hkq, _⟩ := fidx_some g
          obtain ⟨e1, w⟩ := Way.of_old (e := e) o mi.tr mi.ep hp g hkq
          have av := o.avar hp
          have ik := o.ikid hp hkq
          have fv : fwV (S.a.re p).kids v = q := by rw [fwV, g]
          rw [fv] at fw
          have ge : cmpV .ge h (.int q) (.int 0) = .ok (.bool true) h := c_t (by lia)
          refine ⟨S, h, ((l.set 2 (.int v)).set 3 (.int q)).set 0 (.ref (S.A k 0)), ?_, w, by rw [e1]; rfl⟩
          simp [l0, fw, ge, av, ik]
        | none =>
          have f := fresh_of mi.tr mi.ep hp (by lia) g
          obtain ⟨S1, h1, e1, nw⟩ := add_variation_ok o f fu hn
          rw [mv_kid] at e1
          have w := Way.of_new nw mi.tr mi.ep hp (by lia) g
          have ew : wid e S.a p v = kid p v e := by rw [wid, g]
          have fv : fwV (S.a.re p).kids v = -1 := by rw [fwV, g]
          rw [fv] at fw
          have ge : cmpV .ge h (.int (-1)) (.int 0) = .ok (.bool false) h := rfl
          refine ⟨S1, h1, ((l.set 2 (.int v)).set 3 (.int (-1))).set 0 (.ref (S1.A (kid p v e) 0)), ?_, w, by rw [ew]; rfl⟩
          simp [l0, fw, ge, e1]
      obtain ⟨S1, h1, l1, bd, w, l10⟩ := turn
      rw [for_nxt hm (v := .int v) (by rw [ea]; simp) bd]
      have k := w.stp.keep hm om
      have wl := wids_len e S.a S.ids p v
      rw [← w.ids] at wl
      have lw := (KL.of mi.tr).wid e p v
      obtain ⟨l', S', h', e2, r, l2'⟩ := ih (dn ++ [v]) S1 h1 (wid e S.a p v) l1 (by rw [ea]; simp) w.stp.ok (w.mi mi) w.mem (by lia) (by lia) k.1 k.2 l10 g' (by lia)
      refine ⟨l', S', h', by simpa using e2, Line.cons mi hp w r, ?_⟩
      rw [l2', w.a]; rfl
  rw [callN_eq (k := 2) (b := b_add_line) (hk := rfl) (hb := rfl) (hl := rfl)]
  obtain ⟨l', S', h', e1, r, l0⟩ := loop vs [] S h p (params [.ref (S.A p 0), .ref ml]) rfl o mi hp hl hz hm om rfl fu (by lia)
  refine ⟨S', h', ?_, r⟩
  rw [b_add_line, ss_nxt (l' := l') (h' := h') (by
    exact (s_forL (x_var rfl)).trans e1)]
  simp [l0]
end MineB
end

section
namespace MineB
open Mine
set_option linter.unusedSimpArgs false
set_option linter.unusedVariables false
theorem erase_perm {α : Type} : ∀ {ks : List α} {q : Nat} {k : α}, ks[q]? = some k → (k :: ks.eraseIdx q).Perm ks
  | [], q, k, h => by simp at h
  | x :: ks, 0, k, h => by simp at h; subst h; simp
  | x :: ks, q + 1, k, h => by
    have := erase_perm (ks := ks) (q := q) (k := k) (by simpa using h)
    simp only [List.eraseIdx_cons_succ]
    exact (List.Perm.swap x k _).trans (this.cons x)
theorem pro_perm {ks : List Id} {q : Nat} {k : Id} (h : ks[q]? = some k) : (pro ks q k).Perm ks := by
  unfold pro
  have := List.perm_middle (a := k) (l₁ := (ks.eraseIdx q).take (q - 1)) (l₂ := (ks.eraseIdx q).drop (q - 1))
  rw [List.take_append_drop] at this
  exact this.trans (erase_perm h)
theorem Tr.perm {a ids i ks} (t : Tr a ids) (hi : i ∈ ids) (h : ks.Perm (a.re i).kids) : Tr (a.ks i ks) ids := by
  refine ⟨fun j hj k hk => ?_, fun j hj => ?_, t.lv, fun j hj => ?_⟩
  · by_cases g : j = i
    · subst g
      have : k ∈ (a.re j).kids := by
        have hk' : k ∈ ks := by simpa [Ab.ks, Ab.put] using hk
        exact h.mem_iff.1 hk'
      exact t.kd j hj k this
    · have : k ∈ (a.re j).kids := by simpa [Ab.ks, Ab.put, g] using hk
      exact t.kd j hj k this
  · by_cases g : j = i
    · subst g
      have := (h.nodup_iff).2 (t.nd j hj)
      simpa [Ab.ks, Ab.put] using this
    · have := t.nd j hj
      simpa [Ab.ks, Ab.put, g] using this
  · have g : j ≠ i := fun e => hj (by rw [e]; exact hi)
    have := t.un j hj
    simpa [Ab.ks, Ab.put, g] using this
theorem Tr.rem {a ids i q kd} (t : Tr a ids) (hi : i ∈ ids) (h : (a.re i).kids[q]? = some kd) : Tr ((a.ks i ((a.re i).kids.eraseIdx q)).cut kd) ids := by
  have hkd := List.mem_of_getElem? h
  have tk := t.kd i hi kd hkd
  have nd := (erase_perm h).nodup_iff.2 (t.nd i hi)
  rw [List.nodup_cons] at nd
  refine ⟨fun j hj k hk => ?_, fun j hj => ?_, t.lv, fun j hj => ?_⟩
  · by_cases g : j = i
    · subst g
      have hk' : k ∈ (a.re j).kids.eraseIdx q := by simpa [Ab.ks, Ab.put, Ab.cut] using hk
      have tt := t.kd j hj k (List.eraseIdx_subset hk')
      have ne : k ≠ kd := fun e => nd.1 (by rw [← e]; exact hk')
      exact ⟨tt.1, by simpa [Ab.cut, Ab.ks, Ab.put, ne] using tt.2.1, tt.2.2⟩
    · have hk' : k ∈ (a.re j).kids := by simpa [Ab.ks, Ab.put, Ab.cut, g] using hk
      have tt := t.kd j hj k hk'
      have ne : k ≠ kd := fun e => g (by rw [← tt.2.2.2, ← tk.2.2.2, e])
      exact ⟨tt.1, by simpa [Ab.cut, Ab.ks, Ab.put, ne] using tt.2.1, tt.2.2⟩
  · by_cases g : j = i
    · subst g; simpa [Ab.ks, Ab.put, Ab.cut] using nd.2
    · have := t.nd j hj
      simpa [Ab.ks, Ab.put, Ab.cut, g] using this
  · have g : j ≠ i := fun e => hj (by rw [e]; exact hi)
    have g2 : j ≠ kd := fun e => hj (by rw [e]; exact tk.1)
    have := t.un j hj
    simpa [Ab.ks, Ab.put, Ab.cut, g, g2] using this
theorem Tr.turn {a ids i q kd d} (t : Tr a ids) (hi : i ∈ ids) (h : (a.re i).kids[q]? = some kd) : Tr (turnA d a i q kd) ids := by
  unfold turnA
  split
  · exact t.perm hi (pro_perm h)
  · exact t.perm hi (erase_perm h)
  · exact t.rem hi h
theorem LabOk.mono {m m' : Nat} {xs : List Int} (h : LabOk m xs) (g : m ≤ m') : LabOk m' xs := ⟨h.1, Nat.le_trans h.2 g⟩
theorem Lbs.mono {m m' : Nat} {a : Ab} (h : Lbs m a) (g : m ≤ m') : Lbs m' a := fun i => ⟨(h i).1.mono g, (h i).2.1.mono g, (h i).2.2.mono g⟩
theorem Lbs.turn {m d a i q kd} (h : Lbs m a) : Lbs m (turnA d a i q kd) := by
  unfold turnA
  split
  · exact h.put (h i)
  · exact h.put (h i)
  · intro j; exact (h.put (i := i) (r := { a.re i with kids := (a.re i).kids.eraseIdx q }) (h i)) j
theorem Ep0.mono {e ids} (h : Ep0 e ids) : Ep0 (e + 1) ids := fun i hi x hx => Nat.lt_succ_of_lt (h i hi x hx)
theorem pre_top {a ids} (t : Tr a ids) : ∀ (n : Nat) (i : Id), i ∈ ids → ∀ j ∈ pre a n i, inTop a j = inTop a i ∧ lvl j + (pth a i).length = (pth a j).length + lvl i
  | 0, _, _, j, hj => by cases hj
  | n + 1, i, hi, j, hj => by
    rcases List.mem_cons.1 hj with rfl | hj
    · exact ⟨rfl, by lia⟩
    · obtain ⟨k, hk, hj⟩ := List.mem_flatMap.1 hj
      have tk := t.kd i hi k hk
      obtain ⟨e1, e2⟩ := pre_top t n k tk.1 j hj
      refine ⟨by rw [e1, inTop_kid tk.2.1 tk.2.2.1, tk.2.2.2], ?_⟩
      have l := (kid_lvl t hi hk).1
      have p := pth_kid t hi hk
      have : (pth a k).length = (pth a i).length + 1 := by rw [p]; simp
      lia
theorem inTop_pth {a : Ab} {i : Id} (h : inTop a i = true) : (pth a i).length = lvl i := by
  obtain ⟨t, p⟩ := i
  show (pthL a t p).length = p.length
  change inT a t p = true at h
  induction p with
  | nil => rfl
  | cons x p ih =>
    dsimp only [inT] at h; rw [Bool.and_eq_true] at h
    dsimp only [pthL]; rw [if_pos h.1]; simp [ih h.2]
noncomputable def root : Id := (0, [])
/-- between the deeds -/
structure DI (e : Nat) (L N : Sd) (κ : Id) (h : H) (kp : Nat) : Prop where
  two : Two L N h
  a : L.a = N.a
  trL : Tr L.a L.ids
  trN : Tr N.a N.ids
  epL : Ep0 e L.ids
  epN : Ep0 e N.ids
  lb : Lbs (4 + e) L.a
  rL : root ∈ L.ids
  rN : root ∈ N.ids
  ra : L.a.att root = false
  kL : κ ∈ L.ids
  kN : κ ∈ N.ids
  ka : L.a.att κ = false
  kt : inTop L.a κ = false
  kc : h[kp]? = some (.lst [.ref (L.A κ 0), .ref (N.A κ 0)])
  oL : Out L kp
  oN : Out N kp
  zL : L.ids.length + 3 ≤ 5 * 2 ^ e
  zN : N.ids.length + 3 ≤ 5 * 2 ^ e
theorem DI.ext {e L N κ h h' kp} (d : DI e L N κ h kp) (x : Ext h h') : DI e L N κ h' kp :=
  { d with two := (d.two.ext x).two, kc := x _ _ d.kc }
theorem pow_le {e : Nat} (h : e ≤ 18) : 5 * 2 ^ e ≤ ML := by
  have : 2 ^ e ≤ 2 ^ 18 := Nat.pow_le_pow_right (by lia) h
  have h2 : ML = 16777216 := rfl
  lia
theorem pow_succ' (e : Nat) : 2 ^ (e + 1) = 2 * 2 ^ e := by rw [Nat.pow_succ]; lia
end MineB
end

section
namespace MineB
open Mine
set_option linter.unusedSimpArgs false
set_option linter.unusedVariables false
theorem md_ok (h : H) (i : Int) {j : Int} (hj : 0 < j) (hs : j < 4611686018427387904) : binV .mod h (.int i) (.int j) = .ok (.int (i % j)) h := by
  exact if_pos ⟨hj, by unfold sm; lia⟩
theorem fd_ok (h : H) {i j : Int} (hi : 0 ≤ i ∧ i < 4611686018427387904) (hj : 0 < j) (hs : j < 4611686018427387904) : binV .fdiv h (.int i) (.int j) = .ok (.int (i / j)) h := by
  exact if_pos ⟨hj, by unfold sm; lia, by unfold sm; lia⟩
theorem ad_ok (h : H) {i j : Int} (hi : 0 ≤ i ∧ i < 4611686018427387904) (hj : 0 ≤ j ∧ j < 4611686018427387904) : binV .add h (.int i) (.int j) = .ok (.int (i + j)) h := by
  unfold binV; exact if_pos ⟨by unfold sm; lia, by unfold sm; lia⟩
theorem sb_ok (h : H) {i j : Int} (hi : 0 ≤ i ∧ i < 4611686018427387904) (hj : 0 ≤ j ∧ j < 4611686018427387904) : binV .sub h (.int i) (.int j) = .ok (.int (i - j)) h := by
  unfold binV; exact if_pos ⟨by unfold sm; lia, by unfold sm; lia⟩
theorem cut_ok {h : H} {m : Nat} {vs : List V} (e : h[m]? = some (.lst vs)) {k : Int} (hk : 0 ≤ k ∧ k < 4611686018427387904) : cutV h (.ref m) (.int k) = .ok (.ref h.length) (h ++ [.lst (vs.take k.toNat)]) := by
  have e1 : gL h (.ref m) = some (m, vs) := gL_ok e
  dsimp only [cutV]; rw [e1]
  exact if_pos ⟨hk.1, by unfold sm; lia⟩
/-- the next deed's beginning -/
theorem DI.next {e : Nat} {L N : Sd} {κ : Id} {h : H} {kp : Nat} {L1 N1 : Sd} {h1 : H} (d : DI e L N κ h kp) (s : Stw L N h L1 N1 h1) (ha : L1.a = N1.a) (tL : Tr L1.a L1.ids) (tN : Tr N1.a N1.ids) (eL : Ep0 (e + 1) L1.ids) (eN : Ep0 (e + 1) N1.ids)
    (lb : Lbs (4 + (e + 1)) L1.a) (att : L1.a.att = L.a.att) (zL : L1.ids.length + 3 ≤ 5 * 2 ^ (e + 1)) (zN : N1.ids.length + 3 ≤ 5 * 2 ^ (e + 1)) : DI (e + 1) L1 N1 κ h1 kp := by
  obtain ⟨c, o1, o2⟩ := s.fr kp _ d.kc d.oL d.oN
  exact ⟨s.two, ha, tL, tN, eL, eN, lb, (s.sl _ d.rL).1, (s.sn _ d.rN).1, by rw [att]; exact d.ra, (s.sl _ d.kL).1, (s.sn _ d.kN).1, by rw [att]; exact d.ka,
    by rw [inTop_att att]; exact d.kt, by rw [(s.sl _ d.kL).2, (s.sn _ d.kN).2]; exact c, o1, o2, zL, zN⟩
theorem DI.miL {e L N κ h kp} (d : DI e L N κ h kp) : MI e (4 + e) L := ⟨d.trL, d.epL.to, d.lb⟩
theorem DI.miN {e L N κ h kp} (d : DI e L N κ h kp) : MI e (4 + e) N := ⟨d.trN, d.epN.to, by rw [← d.a]; exact d.lb⟩
noncomputable def Done (e : Nat) (L N : Sd) (h : H) (kp : Nat) (r : R V) : Prop := ∃ L' N' κ' h', C3 (r = .ok (.bool true) h') (DI (e + 1) L' N' κ' h' kp) (StK kp L N h L' N' h')
theorem deed_line {e : Nat} {L N : Sd} {κ i : Id} {h : H} {kp : Nat} (d : DI e L N κ h kp) (he : e ≤ 17) (hl : i ∈ L.ids) (hn : i ∈ N.ids) (lv : lvl i ≤ 24) {q : Int} (hq : 0 ≤ q ∧ q < 1099511627776) (w : Bool) {fu : Nat} (hf : FU ≤ fu) {M : Nat} (hM : 4 ≤ M) :
    Done e L N h kp (callN fu M 28 [.int 1, .int q, .ref (L.A i 0), .ref (N.A i 0), .ref kp, .bool w] h) := by
  obtain ⟨n, rfl, hn'⟩ := fuN hM
  have pw := pow_le (e := e) (by lia)
  have hML : ML = 16777216 := rfl
  have hFU : ML < fu := Nat.lt_of_lt_of_le (by decide) hf
  have zL := d.zL; have zN := d.zN
  rw [callN_eq (k := 6) (b := b_law_deed) (hk := rfl) (hb := rfl) (hl := rfl)]
  generalize hall : ([1 + q % 4, 1 + q / 4 % 4, 1 + q / 16 % 4] : List Int) = all
  generalize hvs : all.take (q / 64 % 4).toNat = vs
  have lvs : vs.length ≤ 3 := by rw [← hvs, ← hall, List.length_take]; simp; lia
  have x0 : Ext h (h ++ [intC all] ++ [intC vs]) := (Ext.app _ _).trans (Ext.app _ _)
  have d0 := d.ext x0
  have cu := cut_ok (h := h ++ [intC all]) (m := h.length) (vs := all.map V.int) (by simp [intC]) (k := q / 64 % 4) (by lia)
  rw [← List.map_take, hvs] at cu
  have omL : Out L (h.length + 1) := out_len d.two.l (by lia)
  have omN : Out N (h.length + 1) := out_len d.two.n (by lia)
  have gm : (h ++ [intC all] ++ [intC vs])[h.length + 1]? = some (intC vs) := by simp
  obtain ⟨l1, L1, h1, e1, r1, l12, f1⟩ := law_line (e := e) (K := 4 + e) (fu := fu) (n := n) (by lia) (ml := h.length + 1) (all := vs) vs [] L (h ++ [intC all] ++ [intC vs]) i
    ((params [.int 1, .int q, .ref (L.A i 0), .ref (N.A i 0), .ref kp, .bool w]).set 6 (.ref (h.length + 1))) rfl d0.two.l d.miL hl (by lia) (by lia) gm omL rfl fu (by lia)
  have s1 := d0.two.left r1.stp
  have k1 := r1.stp.keep gm omL
  obtain ⟨N1, h2, e2, r2⟩ := add_line_ok (e := e) (K := 4 + e) hf (M := n) hn' (ml := h.length + 1) (vs := vs) s1.two.n d.miN hn (by lia) (by lia) k1.1 omN
  have s2 := s1.two.right r2.stp
  have g2 := (r2.stp.keep k1.1 omN).1
  obtain ⟨x, h3, e3, x3, p3, _⟩ := line_to_ok r2.stp.ok r2.mem (r2.mi.tr.lv _ r2.mem) hf (N := n) (by lia)
  obtain ⟨y, h4, e4, x4, p4, _⟩ := line_to_ok (r2.stp.ok.ext x3) (r2.stp.self i hn).1 (r2.mi.tr.lv _ (r2.stp.self i hn).1) hf (N := n) (by lia)
  rw [r2.pth] at p3
  rw [pth_eq r2.att] at p4
  have pl := pth_len N.a i
  have ad := addV_ok p4 (x4 _ _ (x3 _ _ g2)) (by simp; lia)
  have ec : Cell.lst ((pth N.a i).map V.int ++ vs.map V.int) = intC (pth N.a i ++ vs) := by simp [intC]
  rw [ec] at ad
  have eq := eqV_ints (n := 7) (Ext.app h4 [intC (pth N.a i ++ vs)] _ _ (x4 _ _ p3)) (show (h4 ++ [intC (pth N.a i ++ vs)])[h4.length]? = some (intC (pth N.a i ++ vs)) by simp)
  have xx : Ext h2 (h4 ++ [intC (pth N.a i ++ vs)]) := (x3.trans x4).app' _
  have s3 := s2.two.ext xx
  have st : Stw L N h L1 N1 (h4 ++ [intC (pth N.a i ++ vs)]) := (((d.two.ext x0).trans s1).trans s2).trans s3
  have pp := pow_succ' e
  have z1 := r1.len; have z2 := r2.len
  refine ⟨L1, N1, κ, _, ?_, d.next st (by rw [r1.a, r2.a, d.a]) r1.mi.tr r2.mi.tr r1.mi.ep.to r2.mi.ep.to (r1.mi.lb.mono (by lia)) r1.att (by lia) (by lia), st.toK kp⟩
  have hc : cmpV .eq h (.int 1) (.int 1) = .ok (.bool true) h := rfl
  have e0 : evS ⟨fu, callN fu n⟩ (.assign 6 (.cut (.lst (.cons (.bin .add (.int 1) (.bin .mod (.var 1) (.int 4))) (.cons (.bin .add (.int 1) (.bin .mod (.bin .fdiv (.var 1) (.int 4)) (.int 4))) (.cons (.bin .add (.int 1) (.bin .mod (.bin .fdiv (.var 1) (.int 16)) (.int 4))) .nil)))) (.bin .mod (.bin .fdiv (.var 1) (.int 64)) (.int 4))))
      (params [.int 1, .int q, .ref (L.A i 0), .ref (N.A i 0), .ref kp, .bool w]) h = .nxt ((params [.int 1, .int q, .ref (L.A i 0), .ref (N.A i 0), .ref kp, .bool w]).set 6 (.ref (h.length + 1))) (h ++ [intC all] ++ [intC vs]) := by
    have a1 : ∀ h, binV .mod h (.int q) (.int 4) = .ok (.int (q % 4)) h := fun h => md_ok h q (by lia) (by lia)
    have a2 : ∀ h, binV .fdiv h (.int q) (.int 4) = .ok (.int (q / 4)) h := fun h => fd_ok h (by lia) (by lia) (by lia)
    have a3 : ∀ h, binV .fdiv h (.int q) (.int 16) = .ok (.int (q / 16)) h := fun h => fd_ok h (by lia) (by lia) (by lia)
    have a4 : ∀ h, binV .fdiv h (.int q) (.int 64) = .ok (.int (q / 64)) h := fun h => fd_ok h (by lia) (by lia) (by lia)
    have b1 : ∀ h, binV .mod h (.int (q / 4)) (.int 4) = .ok (.int (q / 4 % 4)) h := fun h => md_ok h _ (by lia) (by lia)
    have b2 : ∀ h, binV .mod h (.int (q / 16)) (.int 4) = .ok (.int (q / 16 % 4)) h := fun h => md_ok h _ (by lia) (by lia)
    have b3 : ∀ h, binV .mod h (.int (q / 64)) (.int 4) = .ok (.int (q / 64 % 4)) h := fun h => md_ok h _ (by lia) (by lia)
    have c1 : ∀ h, binV .add h (.int 1) (.int (q % 4)) = .ok (.int (1 + q % 4)) h := fun h => ad_ok h (by lia) (by lia)
    have c2 : ∀ h, binV .add h (.int 1) (.int (q / 4 % 4)) = .ok (.int (1 + q / 4 % 4)) h := fun h => ad_ok h (by lia) (by lia)
    have c3 : ∀ h, binV .add h (.int 1) (.int (q / 16 % 4)) = .ok (.int (1 + q / 16 % 4)) h := fun h => ad_ok h (by lia) (by lia)
    have al : (h ++ [.lst [.int (1 + q % 4), .int (1 + q / 4 % 4), .int (1 + q / 16 % 4)]]) = (h ++ [intC all]) := by rw [← hall]; rfl
    have cu' : cutV (h ++ [intC all]) (.ref h.length) (.int (q / 64 % 4)) = .ok (.ref (h.length + 1)) (h ++ [intC all] ++ [intC vs]) := by
      rw [cu, List.length_append]; rfl
    rw [← al] at cu' ⊢
    exact s_assign (x_cut (x_lst (x_args (e_bin rfl (e_bin (x_var rfl) rfl (a1 _)) (c1 _)) (x_args (e_bin rfl (e_bin (e_bin (x_var rfl) rfl (a2 _)) rfl (b1 _)) (c2 _)) (x_args1 (e_bin rfl (e_bin (e_bin (x_var rfl) rfl (a3 _)) rfl (b2 _)) (c3 _))))))
      (e_bin (e_bin (x_var rfl) rfl (a4 _)) rfl (b3 _)) cu')
  rw [b_law_deed]
  rw [ss_ret (v := .bool true) (h' := h4 ++ [intC (pth N.a i ++ vs)])]
  · rfl
  have cd : evE ⟨fu, callN fu n⟩ (.cmp .eq (.var 0) (.int 1)) (params [.int 1, .int q, .ref (L.A i 0), .ref (N.A i 0), .ref kp, .bool w]) h = .ok (.bool true) h := e_cmp (x_var rfl) rfl hc
  rw [s_ite cd, ss_nxt e0]
  rw [ss_nxt (l' := l1) (h' := h1) (by
    exact (s_forL (x_var rfl)).trans e1)]
  have l3 : l1 3 = some (.ref (N.A i 0)) := (f1 3 (by decide) (by decide)).trans rfl
  have l6 : l1 6 = some (.ref (h.length + 1)) := (f1 6 (by decide) (by decide)).trans rfl
  have e4' : callN fu n 9 [.ref (N.A i 0)] h3 = .ok (.ref y) h4 := by rw [← (r2.stp.self i hn).2]; exact e4
  refine ss_ret (s_ret (e_cmp (x_call (x_args1 (x_call (x_args (x_var l3) (x_args1 (x_var l6))) e2)) e3) (e_bin (x_call (x_args1 (x_var l3)) e4') (x_var l6) ad) ?_))
  rw [cEq eq, decide_eq_true rfl]
end MineB
end

section
namespace MineB
open Mine
set_option linter.unusedSimpArgs false
set_option linter.unusedVariables false
theorem lb_Tr {a ids i p xs} (t : Tr a ids) (hi : i ∈ ids) : Tr (a.lb i p xs) ids := by
  unfold Ab.lb
  split <;> exact t.putk hi rfl
theorem lb_Lbs {m a i p v} (l : Lbs m a) (S : Sd) (hS : S.a = a) (hv : 0 ≤ v ∧ v < 4) : Lbs (m + 1) (a.lb i p (lab S i p ++ [v])) := by
  subst hS
  have h := l i
  have lm := l.mono (m' := m + 1) (by lia)
  rcases p with _ | _ | _ | p
  · exact lm.put ⟨(lm i).1, (lm i).2.1, h.2.2.more hv⟩
  · exact lm.put ⟨h.1.more hv, (lm i).2⟩
  · exact lm.put ⟨(lm i).1, h.2.1.more hv, (lm i).2.2⟩
  · exact lm.put ⟨(lm i).1, (lm i).2.1, h.2.2.more hv⟩
theorem app_step {nd S h i} {p : Nat} (o : Ok nd S h) (hi : i ∈ S.ids) (h1 : 1 ≤ p) (h3 : p ≤ 3) (v : Int) (hz : (lab S i p).length < ML) :
    ∃ h', appendV h (.ref (S.A i p)) (.int v) = .ok .none h' ∧ Stp nd S h (S.on (S.a.lb i p (lab S i p ++ [v]))) h' := by
  refine ⟨_, ?_, lb_step o hi h1 h3 rfl⟩
  rw [appendV_ok (o.lab hi h1 h3) (by simpa using hz)]; simp
theorem idx3 (h : H) (f : Nat → Nat) {r : Nat} (hr : r < 3) : idxV (h ++ [.lst [.ref (f 1), .ref (f 2), .ref (f 3)]]) (.ref h.length) (.int r) = .ok (.ref (f (r + 1))) (h ++ [.lst [.ref (f 1), .ref (f 2), .ref (f 3)]]) := by
  have : r = 0 ∨ r = 1 ∨ r = 2 := by lia
  refine idx_ok (get_app_len _ _ _) ?_
  rcases this with rfl | rfl | rfl <;> rfl
theorem deed_label {e : Nat} {L N : Sd} {κ i : Id} {h : H} {kp : Nat} (d : DI e L N κ h kp) (he : e ≤ 17) (hl : i ∈ L.ids) (hn : i ∈ N.ids) {q : Int} (hq : 0 ≤ q ∧ q < 1099511627776) (w : Bool) {fu : Nat} {M : Nat} (hM : 1 ≤ M) :
    Done e L N h kp (callN fu M 28 [.int 2, .int q, .ref (L.A i 0), .ref (N.A i 0), .ref kp, .bool w] h) := by
  obtain ⟨n, rfl, -⟩ := fuN hM
  have hML : ML = 16777216 := rfl
  rw [callN_eq (k := 6) (b := b_law_deed) (hk := rfl) (hb := rfl) (hl := rfl)]
  have a1 : ∀ h, binV .mod h (.int q) (.int 3) = .ok (.int (q % 3)) h := fun h => md_ok h q (by lia) (by lia)
  have a2 : ∀ h, binV .fdiv h (.int q) (.int 3) = .ok (.int (q / 3)) h := fun h => fd_ok h (by lia) (by lia) (by lia)
  have b1 : ∀ h, binV .mod h (.int (q / 3)) (.int 4) = .ok (.int (q / 3 % 4)) h := fun h => md_ok h _ (by lia) (by lia)
  have c1 : ∀ h, binV .add h (.int 1) (.int (q % 3)) = .ok (.int (1 + q % 3)) h := fun h => ad_ok h (by lia) (by lia)
  obtain ⟨r, hr, hr3⟩ : ∃ r : Nat, q % 3 = r ∧ r < 3 := ⟨(q % 3).toNat, by lia, by lia⟩
  have hv : 0 ≤ q / 3 % 4 ∧ q / 3 % 4 < 4 := by lia
  generalize q / 3 % 4 = v at *
  rw [hr] at a1 c1
  have ri := d.lb i
  have lz : (lab L i (r + 1)).length < ML := by
    have : LabOk (4 + e) (lab L i (r + 1)) := by
      have : r = 0 ∨ r = 1 ∨ r = 2 := by lia
      rcases this with rfl | rfl | rfl
      · exact ri.1
      · exact ri.2.1
      · exact ri.2.2
    have := this.len; lia
  have labe : lab N i (r + 1) = lab L i (r + 1) := by unfold lab; rw [d.a]
  obtain ⟨h1, e1, s1⟩ := app_step d.two.l hl (p := r + 1) (by lia) (by lia) v lz
  have w1 := d.two.left s1
  have x1 : Ext h1 (h1 ++ [.lst [.ref (N.A i 1), .ref (N.A i 2), .ref (N.A i 3)]]) := Ext.app _ _
  have w2 := w1.two.ext x1
  obtain ⟨h2, e2, s2⟩ := app_step w2.two.n hn (p := r + 1) (by lia) (by lia) v (by rw [labe]; exact lz)
  have w3 := w2.two.right s2
  have st := (w1.trans w2).trans w3
  have pp := pow_succ' e
  have zL := d.zL; have zN := d.zN
  have ha : L.a.lb i (r + 1) (lab L i (r + 1) ++ [v]) = N.a.lb i (r + 1) (lab N i (r + 1) ++ [v]) := by rw [labe, d.a]
  refine ⟨_, _, κ, h2, ?_, d.next st ha (lb_Tr d.trL hl) (lb_Tr d.trN hn) d.epL.mono d.epN.mono (lb_Lbs d.lb L rfl hv) ?_ (by show L.ids.length + 3 ≤ _; lia) (by show N.ids.length + 3 ≤ _; lia), st.toK kp⟩
  · have hc : cmpV .eq h (.int 2) (.int 1) = .ok (.bool false) h := rfl
    have hc2 : cmpV .eq h (.int 2) (.int 2) = .ok (.bool true) h := rfl
    have il := d.two.l.ilab hl (p := r + 1) (by lia) (by lia)
    have ec : (1 + (r : Int)) = ((r + 1 : Nat) : Int) := by lia
    rw [← ec] at il
    have is1 := d.two.l.isL hl (p := r + 1) (by lia) (by lia)
    have is2 : isLst (h1 ++ [.lst [.ref (N.A i 1), .ref (N.A i 2), .ref (N.A i 3)]]) (.ref (N.A i (r + 1))) = true := w2.two.n.isL hn (p := r + 1) (by lia) (by lia)
    have r1 := w1.two.n.arem hn
    have r2 := w1.two.n.anag hn
    have r3 := w1.two.n.abef hn
    have ix := idx3 h1 (N.A i) hr3
    have al : alloc (.lst [.ref (N.A i 1), .ref (N.A i 2), .ref (N.A i 3)]) h1 = .ok (.ref h1.length) (h1 ++ [.lst [.ref (N.A i 1), .ref (N.A i 2), .ref (N.A i 3)]]) := rfl
    have vv : ∀ h', evE ⟨fu, callN fu n⟩ (.bin .mod (.bin .fdiv (.var 1) (.int 3)) (.int 4)) (params [.int 2, .int q, .ref (L.A i 0), .ref (N.A i 0), .ref kp, .bool w]) h' = .ok (.int v) h' := fun h' => e_bin (e_bin (x_var rfl) rfl (a2 _)) rfl (b1 _)
    rw [b_law_deed, ss_nxt (s_else (e_cmp (x_var rfl) rfl hc)), ss_ret ((s_ite (e_cmp (x_var rfl) rfl hc2)).trans (by
      exact (ss_nxt (by exact ap_ok (x_idx (x_var rfl) (e_bin rfl (e_bin (x_var rfl) rfl (a1 _)) (c1 _)) il) is1 (vv _) e1)).trans ((ss_nxt (by
        exact ap_ok (x_idx (x_lst (x_args (x_attr (x_var rfl) r1) (x_args (x_attr (x_var rfl) r2) (x_args1 (x_attr (x_var rfl) r3))))) (e_bin (x_var rfl) rfl (a1 _)) ix) is2 (vv _) e2)).trans (ss_ret (s_ret rfl)))))]
    rfl
  · show (L.a.lb i (r + 1) _).att = _
    unfold Ab.lb; rfl
theorem deed_add {e : Nat} {L N : Sd} {κ i : Id} {h : H} {kp : Nat} (d : DI e L N κ h kp) (he : e ≤ 17) (hl : i ∈ L.ids) (hn : i ∈ N.ids) (lv : lvl i ≤ 24) {q : Int} (hq : 0 ≤ q ∧ q < 1099511627776) {k : Int} (w : Bool)
    (hk1 : k ≠ 1) (hk2 : k ≠ 2) (hk3 : ¬ (3 ≤ k ∧ k ≤ 5)) (hk6 : k = 6 → w = true) {fu : Nat} (hf : FU ≤ fu) {M : Nat} (hM : 3 ≤ M) :
    Done e L N h kp (callN fu M 28 [.int k, .int q, .ref (L.A i 0), .ref (N.A i 0), .ref kp, .bool w] h) := by
  obtain ⟨n, rfl, hn'⟩ := fuN hM
  have hML : ML = 16777216 := rfl
  have pw := pow_le (e := e) (by lia)
  have zL := d.zL; have zN := d.zN
  have pp := pow_succ' e
  rw [callN_eq (k := 6) (b := b_law_deed) (hk := rfl) (hb := rfl) (hl := rfl)]
  have a1 : ∀ h, binV .mod h (.int q) (.int 4) = .ok (.int (q % 4)) h := fun h => md_ok h q (by lia) (by lia)
  have c1 : ∀ h, binV .add h (.int 1) (.int (q % 4)) = .ok (.int (1 + q % 4)) h := fun h => ad_ok h (by lia) (by lia)
  generalize 1 + q % 4 = v at *
  have kl := d.trL.kl hl
  have kn := d.trN.kl hn
  have f1 := find_way_ok d.two.n hn v fu (N := n) (by lia) (by lia)
  have f2 := law_first_ok d.two.l hl v fu (N := n) (by lia) (by lia)
  rw [d.a] at f2
  -- the new way on the lists' side
  have freshL : kid i v e ∉ L.ids := fun g => by have := d.epL _ g (v, e) List.mem_cons_self; exact absurd this (Nat.lt_irrefl e)
  have freshN : kid i v e ∉ N.ids := fun g => by have := d.epN _ g (v, e) List.mem_cons_self; exact absurd this (Nat.lt_irrefl e)
  have uL := d.trL.un _ freshL
  have uN := d.trN.un _ freshN
  have s1 := newL_ok d.two.l freshL uL.1 (fun _ => ⟨by simp [kid], hl⟩)
  have hik : i ≠ kid i v e := fun g => freshL (g ▸ hl)
  have hA : ∀ r, (L.add (kid i v e) (fL h.length)).A i r = L.A i r := fun r => congrFun (addA_ne L _ hik) r
  have hAk : (L.add (kid i v e) (fL h.length)).A (kid i v e) 0 = h.length + 4 := congrFun (addA_self L _ _) 0
  have hi1 : i ∈ (L.add (kid i v e) (fL h.length)).ids := List.mem_cons_of_mem _ hl
  have s2 := ks_step s1.ok hi1 (ks := (L.a.re i).kids ++ [kid i v e]) (by
      intro j hj
      rcases List.mem_append.1 hj with hj | hj
      · exact List.mem_cons_of_mem _ (d.two.l.cl i hl j hj)
      · rw [List.mem_singleton.1 hj]; exact List.mem_cons_self) rfl
  have e2 : ((L.a.re i).kids ++ [kid i v e]).map (fun j => V.ref ((L.add (kid i v e) (fL h.length)).A j 0)) = ((L.a.re i).kids.map fun j => V.ref ((L.add (kid i v e) (fL h.length)).A j 0)) ++ [V.ref (h.length + 4)] := by
    simp [hAk]
  have g4 := s1.ok.kids hi1
  rw [hA] at s2 g4
  rw [e2] at s2
  rw [mv_kid] at s1 s2 g4
  have ap := appendV_ok g4 (show ((L.a.re i).kids.map _).length < ML by simp; lia) (.ref (h.length + 4))
  have is := d.two.l.isK hl
  have ik := d.two.l.ikids hl
  have hap : ∃ h2, appendV (h ++ listCells (.int v) h.length) (.ref (L.A i 4)) (.ref (h.length + 4)) = .ok .none h2 ∧ Stp false (L.add (kid i v e) (fL h.length)) (h ++ listCells (.int v) h.length) ((L.add (kid i v e) (fL h.length)).on (L.a.ks i ((L.a.re i).kids ++ [kid i v e]))) h2 := ⟨_, ap, s2⟩
  obtain ⟨h2, ap2, s2'⟩ := hap
  have w1 := d.two.left (s1.trans s2')
  have fr : Fresh N i (kid i v e) := ⟨hn, freshN, rfl, by simp [kid], uN.1, uN.2 (by simp [kid]), by lia⟩
  obtain ⟨N1, h3, e3, nw⟩ := add_variation_ok w1.two.n fr fu (N := n) (by lia)
  rw [mv_kid] at e3
  have w2 := w1.two.right nw.stp
  have hkN : kid i v e ∈ N1.ids := by rw [nw.ids]; exact List.mem_cons_self
  have tN : Tr N1.a N1.ids := by rw [nw.a, nw.ids]; exact d.trN.way hn freshN (by lia)
  have tL : Tr (L.a.ks i ((L.a.re i).kids ++ [kid i v e])) (kid i v e :: L.ids) := d.trL.way hl freshL (by lia)
  obtain ⟨x, h4, e4, x4, p4, _⟩ := line_to_ok nw.stp.ok hkN (tN.lv _ hkN) hf (N := n) (by lia)
  have hiN : i ∈ N1.ids := (nw.stp.self i hn).1
  obtain ⟨y, h5, e5, x5, p5, _⟩ := line_to_ok (nw.stp.ok.ext x4) hiN (tN.lv _ hiN) hf (N := n) (by lia)
  rw [(nw.stp.self i hn).2] at e5
  have ea : N1.a.att = N.a.att := by rw [nw.a]; rfl
  have pk : pth N1.a (kid i v e) = pth N1.a i ++ [v] := by
    rw [pth_att (by rw [ea]; exact uN.2 (by simp [kid])) (by simp [kid]), up_kid, mv_kid]
  rw [pk] at p4
  have pl := pth_len N1.a i
  have ad := addV_ok (h := h5 ++ [intC [v]]) (m := y) (m' := h5.length) (vs := (pth N1.a i).map V.int) (ws := [v].map V.int) (Ext.app h5 [intC [v]] _ _ p5) (by simp [intC]) (by simp; lia)
  have ec : Cell.lst ((pth N1.a i).map V.int ++ [v].map V.int) = intC (pth N1.a i ++ [v]) := by simp [intC]
  rw [ec] at ad
  have eq := eqV_ints (n := 7) (Ext.app (h5 ++ [intC [v]]) [intC (pth N1.a i ++ [v])] _ _ (Ext.app h5 [intC [v]] _ _ (x5 _ _ p4))) (show (h5 ++ [intC [v]] ++ [intC (pth N1.a i ++ [v])])[(h5 ++ [intC [v]]).length]? = some (intC (pth N1.a i ++ [v])) from get_app_len _ _ _)
  have xx : Ext h3 (h5 ++ [intC [v]] ++ [intC (pth N1.a i ++ [v])]) := ((x4.trans x5).app' _).app' _
  have w3 := w2.two.ext xx
  have st := (w1.trans w2).trans w3
  have epL' := (d.epL.to (a := L.a)).way (v := v) hl
  have epN' := (d.epN.to (a := N.a)).way (v := v) hn
  refine ⟨_, N1, κ, h5 ++ [intC [v]] ++ [intC (pth N1.a i ++ [v])], ?_, d.next st ?_ tL tN epL'.to (by rw [nw.ids]; exact epN'.to) ((d.lb.way i (kid i v e)).mono (by lia)) rfl (by show L.ids.length + 1 + 3 ≤ _; lia) (by rw [nw.ids]; show N.ids.length + 1 + 3 ≤ _; lia), st.toK kp⟩
  · have hc1 : cmpV .eq h (.int k) (.int 1) = .ok (.bool false) h := c_f hk1
    have hc2 : cmpV .eq h (.int k) (.int 2) = .ok (.bool false) h := c_f hk2
    have hc3 : ∀ l, l 0 = some (.int k) → evE ⟨fu, callN fu n⟩ (.cmp2 .le .le (.int 3) (.var 0) (.int 5)) l h = .ok (.bool false) h := by
      intro l l0
      by_cases g : 3 ≤ k
      · have g5 : ¬ k ≤ 5 := fun x => hk3 ⟨g, x⟩
        simp [l0, g, g5]
      · simp [l0, g]
    have hc6 : ∀ l, l 0 = some (.int k) → l 5 = some (.bool w) → evE ⟨fu, callN fu n⟩ (.band (.cons (.cmp .eq (.var 0) (.int 6)) (.cons (.not (.var 5)) .nil))) l h = .ok (.bool false) h := by
      intro l l0 l5
      by_cases g : k = 6
      · have := hk6 g; subst this
        simp [l0, l5, g]
      · simp [l0, g]
    have hne : cmpV .ne h (.int (fwV (N.a.re i).kids v)) (.int (fwV (N.a.re i).kids v)) = .ok (.bool false) h := c_nf rfl
    let l0 : Loc := params [.int k, .int q, .ref (L.A i 0), .ref (N.A i 0), .ref kp, .bool w]
    show toR (evSs ⟨fu, callN fu n⟩ b_law_deed l0 h) = _
    rw [b_law_deed]
    rw [ss_nxt (l' := l0) (h' := h) (s_else (e_cmp (x_var rfl) rfl hc1))]
    rw [ss_nxt (l' := l0) (h' := h) (s_else (e_cmp (x_var rfl) rfl hc2))]
    rw [ss_nxt (l' := l0) (h' := h) (s_else (hc3 l0 rfl))]
    rw [ss_nxt (l' := l0) (h' := h) (s_else (hc6 l0 rfl rfl))]
    rw [ss_nxt (l' := l0.set 7 (.int v)) (h' := h) (s_assign (e_bin rfl (e_bin (x_var rfl) rfl (a1 _)) (c1 _)))]
    rw [ss_nxt (l' := l0.set 7 (.int v)) (h' := h) (s_else (e_cmp (x_call (x_args (x_var rfl) (x_args1 (x_var rfl))) f1) (x_call (x_args (x_var rfl) (x_args1 (x_var rfl))) f2) hne))]
    rw [ss_nxt (l' := l0.set 7 (.int v)) (h' := h2) (by
      have nl := ev_newlist (c := ⟨fu, callN fu n⟩) (a := .var 7) (l := l0.set 7 (.int v)) (h := h) (m := .int v) (by simp )
      have i4 : evE ⟨fu, callN fu n⟩ (.idx (.var 2) (.int 4)) (l0.set 7 (.int v)) h = .ok (.ref (L.A i 4)) h := x_idx (x_var rfl) rfl ik
      exact ap_ok i4 is nl ap2)]
    have al : alloc (.lst [.int v]) h5 = .ok (.ref h5.length) (h5 ++ [intC [v]]) := rfl
    have eq' := eq
    rw [List.length_append] at ad eq'
    rw [ss_ret (s_ret (by
      exact e_cmp (x_call (x_args1 (x_call (x_args (x_var rfl) (x_args (x_var rfl) (x_args1 rfl))) e3)) e4) (e_bin (x_call (x_args1 (x_var rfl)) e5) (x_lst (x_args1 (x_var rfl))) ad) (cEq eq')))]
    rw [decide_eq_true rfl]; rfl
  · show L.a.ks i ((L.a.re i).kids ++ [kid i v e]) = N1.a
    rw [nw.a, d.a]; rfl
end MineB
end

section
namespace MineB
open Mine
set_option linter.unusedSimpArgs false
set_option linter.unusedVariables false
theorem Agr.refl (a : Ab) : Agr a a := ⟨rfl, fun _ _ => rfl⟩
theorem deed_merge {e : Nat} {L N : Sd} {κ i : Id} {h : H} {kp : Nat} (d : DI e L N κ h kp) (he : e ≤ 17) (hl : i ∈ L.ids) (hn : i ∈ N.ids) (it : inTop L.a i = true) (hlv : ∀ j ∈ pre L.a 40 κ, lvl i + lvl j ≤ 36 + lvl κ)
    {q : Int} {fu : Nat} (hf : FU ≤ fu) {M : Nat} (hM : 44 ≤ M) :
    Done e L N h kp (callN fu M 28 [.int 6, .int q, .ref (L.A i 0), .ref (N.A i 0), .ref kp, .bool false] h) := by
  obtain ⟨n, rfl, hn'⟩ := fuN hM
  have hML : ML = 16777216 := rfl
  have pw := pow_le (e := e) (by lia)
  have pw2 := pow_le (e := e + 1) (by lia)
  have zL := d.zL; have zN := d.zN
  have pp := pow_succ' e
  rw [callN_eq (k := 6) (b := b_law_deed) (hk := rfl) (hb := rfl) (hl := rfl)]
  have dp := d.trL.dp 40 κ d.kL (by lia)
  have pl := pre_len d.trL 40 κ d.kL
  have pn := pre_len d.trN 40 κ d.kN
  rw [← d.a] at pn
  obtain ⟨L1, h1, e1, s1, a1, m1, _, z1⟩ := law_merge_ok (e := e) (K := 4 + e) (by lia) (τ := L.a) hf 40 L h i κ n d.two.l d.miL (Agr.refl _) hl d.kL it d.kt dp hlv (by lia) (by lia)
  have w1 := d.two.left s1
  obtain ⟨N1, h2, e2, s2, a2, m2, z2⟩ := merge_tree_ok (e := e) (K := 4 + e) (by lia) (τ := L.a) hf (n := 40) w1.two.n d.miN (by rw [← d.a]; exact Agr.refl _) hn d.kN it d.kt dp hlv (by lia) (by lia) (M := n) (by lia)
  have w2 := w1.two.right s2
  have st := w1.trans w2
  rw [← d.a] at a2
  refine ⟨L1, N1, κ, h2, ?_, d.next st (a1.trans a2.symm) m1.tr m2.tr m1.ep.to m2.ep.to (m1.lb.mono (by lia)) (by rw [a1, mrg_att]) (by lia) (by lia), st.toK kp⟩
  let l0 : Loc := params [.int 6, .int q, .ref (L.A i 0), .ref (N.A i 0), .ref kp, .bool false]
  show toR (evSs ⟨fu, callN fu n⟩ b_law_deed l0 h) = _
  have g1 : idxV h (.ref kp) (.int 0) = .ok (.ref (L.A κ 0)) h := idx_ok d.kc rfl
  have g2 : idxV h1 (.ref kp) (.int 1) = .ok (.ref (N.A κ 0)) h1 := idx_ok ((s1.keep d.kc d.oL).1) rfl
  rw [b_law_deed, ss_nxt (l' := l0) (h' := h) (s_else (e_cmp (x_var rfl) rfl rfl)), ss_nxt (l' := l0) (h' := h) (s_else (e_cmp (x_var rfl) rfl rfl)), ss_nxt (l' := l0) (h' := h) (s_else (x_cmp2 rfl (x_var rfl) rfl rfl rfl)),
    ss_ret ((s_ite (x_band (and_t (e_cmp (x_var rfl) rfl rfl) (and_t (x_not (t := false) (x_var rfl)) rfl)))).trans ((ss_nxt (s_expr (x_call (x_args (x_var rfl) (x_args1 (x_idx (x_var rfl) rfl g1))) e1))).trans
      ((ss_nxt (s_expr (x_call (x_args (x_var rfl) (x_args1 (x_idx (x_var rfl) rfl g2))) e2))).trans (ss_ret (s_ret rfl)))))]
  rfl
theorem deed_turn {e : Nat} {L N : Sd} {κ i : Id} {h : H} {kp : Nat} (d : DI e L N κ h kp) (he : e ≤ 17) (hl : i ∈ L.ids) (hn : i ∈ N.ids) {k : Nat} (hk : 3 ≤ k ∧ k ≤ 5) {q : Int} (hq : 0 ≤ q ∧ q < 1099511627776) (w : Bool) {fu : Nat} (hf : FU ≤ fu) {M : Nat} (hM : 4 ≤ M) :
    Done e L N h kp (callN fu M 28 [.int k, .int q, .ref (L.A i 0), .ref (N.A i 0), .ref kp, .bool w] h) := by
  obtain ⟨n, rfl, hn'⟩ := fuN hM
  have hML : ML = 16777216 := rfl
  have pw := pow_le (e := e) (by lia)
  have zL := d.zL; have zN := d.zN
  have pp := pow_succ' e
  rw [callN_eq (k := 6) (b := b_law_deed) (hk := rfl) (hb := rfl) (hl := rfl)]
  let l0 : Loc := params [.int k, .int q, .ref (L.A i 0), .ref (N.A i 0), .ref kp, .bool w]
  have bd : ∀ h2, callN fu n 27 [.int k, .ref (L.A i 0), .ref (N.A i 0), .int (q % 5 - 1), .ref kp] h = .ok (.bool true) h2 → toR (evSs ⟨fu, callN fu n⟩ b_law_deed l0 h) = .ok (.bool true) h2 := by
    intro h2 e2
    have a1 : ∀ h, binV .mod h (.int q) (.int 5) = .ok (.int (q % 5)) h := fun h => md_ok h q (by lia) (by lia)
    have b1 : ∀ h, binV .sub h (.int (q % 5)) (.int 1) = .ok (.int (q % 5 - 1)) h := fun h => sb_ok h (by lia) (by lia)
    have hc1 : cmpV .eq h (.int k) (.int 1) = .ok (.bool false) h := c_f (by lia)
    have hc2 : cmpV .eq h (.int k) (.int 2) = .ok (.bool false) h := c_f (by lia)
    have c3 : cmpV .le h (.int 3) (.int k) = .ok (.bool true) h := c_t (by lia)
    have c5 : cmpV .le h (.int k) (.int 5) = .ok (.bool true) h := c_t (by lia)
    rw [b_law_deed, ss_nxt (l' := l0) (h' := h) (s_else (e_cmp (x_var rfl) rfl hc1)), ss_nxt (l' := l0) (h' := h) (s_else (e_cmp (x_var rfl) rfl hc2)),
      ss_ret ((s_ite (x_cmp2 rfl (x_var rfl) c3 rfl c5)).trans (ss_ret (s_ret (x_call (x_args (x_var rfl) (x_args (x_var rfl) (x_args (x_var rfl) (x_args (e_bin (e_bin (x_var rfl) rfl (a1 _)) rfl (b1 _)) (x_args1 (x_var rfl)))))) e2))))]
    rfl
  by_cases g : 0 ≤ q % 5 - 1 ∧ q % 5 - 1 < (L.a.re i).kids.length
  · obtain ⟨j, hj⟩ : ∃ j : Nat, q % 5 - 1 = j := ⟨(q % 5 - 1).toNat, by lia⟩
    rw [hj] at g bd
    have hjl : j < (L.a.re i).kids.length := by lia
    obtain ⟨kd, hkd⟩ : ∃ kd, (L.a.re i).kids[j]? = some kd := ⟨_, List.getElem?_eq_getElem hjl⟩
    have tk := d.trL.kd i hl kd (List.mem_of_getElem? hkd)
    have kl := d.trL.kl hl
    obtain ⟨L1, N1, h1, e1, st, a1, a2, i1, i2, kc, o1, o2⟩ := law_turn_ok d.two hl hn d.a hkd (by lia) (d.trL.lv _ tk.1) hk d.kc d.oL d.oN hf (M := n) hn'
    have kdN : kd ∈ N.ids := d.two.n.cl i hn kd (by rw [← d.a]; exact List.mem_of_getElem? hkd)
    have tN : Tr N1.a N1.ids := by
      rw [a2, i2, d.a]; exact d.trN.turn hn (by rw [← d.a]; exact hkd)
    have tL : Tr L1.a L1.ids := by rw [a1, i1]; exact d.trL.turn hl hkd
    have lb : Lbs (4 + (e + 1)) L1.a := by rw [a1]; exact (d.lb.mono (by lia)).turn
    by_cases g5 : k = 5
    · subst g5
      rw [if_pos rfl] at kc
      have at1 : L1.a.att = (L.a.cut kd).att := by rw [a1]; rfl
      refine ⟨L1, N1, kd, h1, bd h1 e1, ⟨st.two, a1.trans a2.symm, tL, tN, by rw [i1]; exact d.epL.mono, by rw [i2]; exact d.epN.mono, lb, by rw [i1]; exact d.rL, by rw [i2]; exact d.rN, ?_, by rw [i1]; exact tk.1, by rw [i2]; exact kdN, ?_, ?_, kc, o1, o2, by rw [i1]; lia, by rw [i2]; lia⟩, st⟩
      · rw [at1]
        show (if root = kd then false else L.a.att root) = false
        rw [d.ra]; exact ite_id fun _ => rfl
      · rw [at1]; exact cut_self
      · obtain ⟨t, p⟩ := kd
        cases p with
        | nil => exact (tk.2.2.1 rfl).elim
        | cons x p =>
          show (L1.a.att (t, x :: p) && _) = false
          rw [at1, cut_self]; rfl
    · rw [if_neg g5] at kc
      have at1 : L1.a.att = L.a.att := by
        have g34 : k = 3 ∨ k = 4 := by lia
        rw [a1]
        rcases g34 with g34 | g34 <;> (rw [g34]; rfl)
      exact ⟨L1, N1, κ, h1, bd h1 e1, ⟨st.two, a1.trans a2.symm, tL, tN, by rw [i1]; exact d.epL.mono, by rw [i2]; exact d.epN.mono, lb, by rw [i1]; exact d.rL, by rw [i2]; exact d.rN, by rw [at1]; exact d.ra,
        by rw [i1]; exact d.kL, by rw [i2]; exact d.kN, by rw [at1]; exact d.ka, by rw [inTop_att at1]; exact d.kt, by rw [(st.sl _ d.kL).2, (st.sn _ d.kN).2]; exact kc, o1, o2, by rw [i1]; lia, by rw [i2]; lia⟩, st⟩
  · have e1 := law_turn_bad d.two hl hn d.a g (d := k) (by lia) kp fu (M := n) hn'
    have st := d.two.self
    exact ⟨L, N, κ, h, bd h e1, d.next st d.a d.trL d.trN d.epL.mono d.epN.mono (d.lb.mono (by lia)) rfl (by lia) (by lia), st.toK kp⟩
theorem law_deed_ok {e : Nat} {L N : Sd} {κ i : Id} {h : H} {kp : Nat} (d : DI e L N κ h kp) (he : e ≤ 17) (hl : i ∈ L.ids) (hn : i ∈ N.ids) (it : inTop L.a i = true) (lv : lvl i ≤ 24) {k : Int} (hk : 0 ≤ k ∧ k < 9) {q : Int} (hq : 0 ≤ q ∧ q < 1099511627776) (w : Bool)
    (hw : k = 6 → w = false → ∀ j ∈ pre L.a 40 κ, lvl i + lvl j ≤ 36 + lvl κ) {fu : Nat} (hf : FU ≤ fu) {M : Nat} (hM : 44 ≤ M) :
    Done e L N h kp (callN fu M 28 [.int k, .int q, .ref (L.A i 0), .ref (N.A i 0), .ref kp, .bool w] h) := by
  by_cases k1 : k = 1
  · subst k1; exact deed_line d he hl hn lv hq w hf (by lia)
  by_cases k2 : k = 2
  · subst k2; exact deed_label d he hl hn hq w (by lia)
  by_cases k3 : 3 ≤ k ∧ k ≤ 5
  · obtain ⟨k', rfl⟩ : ∃ k' : Nat, k = k' := ⟨k.toNat, by lia⟩
    exact deed_turn d he hl hn (k := k') (by lia) hq w hf (by lia)
  by_cases k6 : k = 6 ∧ w = false
  · obtain ⟨rfl, rfl⟩ := k6
    exact deed_merge d he hl hn it (hw rfl rfl) hf hM
  · exact deed_add d he hl hn lv hq w k1 k2 k3 (fun g => by
      cases w
      · exact (k6 ⟨g, rfl⟩).elim
      · rfl) hf (by lia)
end MineB
end

section
namespace MineB
open Mine
set_option linter.unusedSimpArgs false
set_option linter.unusedVariables false
structure LikeN (h : H) (a b : Nat) (la lb : List Nat) : Prop where
  ex : ∃ (v : Int) (p : V) (r n o k r2 n2 o2 k2 : Nat) (xs ys zs : List Int), C10 (h[a]? = some (.lst [.int v, .ref r, .ref n, .ref o, .ref k])) (h[b]? = some (.node [(.move, .int v), (.parent, p), (.word, .str), (.place, .int (-1)), (.variations, .ref k2), (.remarks, .ref r2), (.nags, .ref n2), (.before, .ref o2)])) (h[r]? = some (intC xs)) (h[n]? = some (intC ys)) (h[o]? = some (intC zs)) (h[r2]? = some (intC xs)) (h[n2]? = some (intC ys)) (h[o2]? = some (intC zs)) (h[k]? = some (.lst (la.map V.ref))) (h[k2]? = some (.lst (lb.map V.ref)))
  len : la.length = lb.length
  sz : la.length ≤ ML
theorem LikeN.ext {h h' a b la lb} (l : LikeN h a b la lb) (e : Ext h h') : LikeN h' a b la lb := by
  obtain ⟨⟨v, p, r, n, o, k, r2, n2, o2, k2, xs, ys, zs, a1, a2, a3, a4, a5, a6, a7, a8, a9, a10⟩, h2, h3⟩ := l
  exact ⟨⟨v, p, r, n, o, k, r2, n2, o2, k2, xs, ys, zs, e _ _ a1, e _ _ a2, e _ _ a3, e _ _ a4, e _ _ a5, e _ _ a6, e _ _ a7, e _ _ a8, e _ _ a9, e _ _ a10⟩, h2, h3⟩
noncomputable def Like (h : H) : Nat → Nat → Nat → Prop
  | 0, _, _ => False
  | n + 1, a, b => ∃ la lb, LikeN h a b la lb ∧ ∀ (q a' b' : Nat), la[q]? = some a' → lb[q]? = some b' → Like h n a' b'
theorem Like.ext {h h' : H} (e : Ext h h') : ∀ {n a b : Nat}, Like h n a b → Like h' n a b
  | 0, _, _, l => l.elim
  | n + 1, a, b, ⟨la, lb, l, r⟩ => ⟨la, lb, l.ext e, fun q a' b' x y => Like.ext e (r q a' b' x y)⟩
noncomputable def llFor : Ss := .cons (.ite (.not (.call 26 (.cons (.idx (.idx (.var 0) (.int 4)) (.var 2)) (.cons (.idx (.attr (.var 1) .variations) (.var 2)) .nil)))) (.cons (.ret (.bool false)) .nil) .nil) .nil
theorem law_like_ok {fu : Nat} : ∀ (n : Nat) (h : H) (a b M : Nat), Like h n a b → n ≤ M → ∃ h', callN fu M 26 [.ref a, .ref b] h = .ok (.bool true) h' ∧ Ext h h' := by
  intro n
  induction n with
  | zero => intro h a b M l; exact l.elim
  | succ n ih =>
    intro h a b M ⟨la, lb, l, rec⟩ hM
    obtain ⟨N, rfl, hN⟩ := fuN (c := n) (by omega)
    have l' := l
    obtain ⟨⟨v, p, r, nn, o, k, r2, n2, o2, k2, xs, ys, zs, a1, a2, a3, a4, a5, a6, a7, a8, a9, a10⟩, hlen, hsz⟩ := l'
    rw [callN_eq (k := 2) (b := b_law_like) (hk := rfl) (hb := rfl) (hl := rfl)]
    have loop : ∀ (m j : Nat) (h1 : H) (l1 : Loc), j + m = la.length → Ext h h1 → l1 0 = some (.ref a) → l1 1 = some (.ref b) →
        ∃ l2 h2, rangeN 2 (evSs ⟨fu, callN fu N⟩ llFor) m (j : Int) l1 h1 = .nxt l2 h2 ∧ Ext h h2 := by
      intro m
      induction m with
      | zero => intro j h1 l1 _ e _ _; exact ⟨l1, h1, rfl, e⟩
      | succ m ihm =>
        intro j h1 l1 hj e l10 l11
        obtain ⟨a', ha'⟩ : ∃ a', la[j]? = some a' := ⟨_, List.getElem?_eq_getElem (by lia)⟩
        obtain ⟨b', hb'⟩ : ∃ b', lb[j]? = some b' := ⟨_, List.getElem?_eq_getElem (by lia)⟩
        obtain ⟨h2, e2, x2⟩ := ih h1 a' b' N (Like.ext e (rec j a' b' ha' hb')) hN
        have i0 : idxV h1 (.ref a) (.int 4) = .ok (.ref k) h1 := idx_ok (e _ _ a1) rfl
        have i1 : idxV h1 (.ref k) (.int j) = .ok (.ref a') h1 := idx_ok (e _ _ a9) (by rw [List.getElem?_map, ha']; rfl)
        have i2 : attrV h1 .variations (.ref b) = .ok (.ref k2) h1 := attr_ok (e _ _ a2) rfl
        have i3 : idxV h1 (.ref k2) (.int j) = .ok (.ref b') h1 := idx_ok (e _ _ a10) (by rw [List.getElem?_map, hb']; rfl)
        have bd : evSs ⟨fu, callN fu N⟩ llFor (l1.set 2 (.int j)) h1 = .nxt (l1.set 2 (.int j)) h2 := by
          exact ss_nxt (l' := l1.set 2 (.int j)) (h' := h2) (s_else (x_not (t := true) (x_call (x_args (x_idx (x_idx (x_var (l := l1.set 2 (.int j)) l10) rfl i0) (x_var rfl) i1) (x_args1 (x_idx (x_attr (x_var (l := l1.set 2 (.int j)) l11) i2) (x_var rfl) i3))) e2)))
        obtain ⟨l3, h3, e3, x3⟩ := ihm (j + 1) h2 (l1.set 2 (.int j)) (by lia) (e.trans x2) l10 l11
        refine ⟨l3, h3, ?_, x3⟩
        exact (rng_nxt bd).trans e3
    have e0 : Ext h (h ++ [.lst [.int v, .ref r2, .ref n2, .ref o2]] ++ [.lst [.int v, .ref r, .ref nn, .ref o]]) := (Ext.app _ _).trans (Ext.app _ _)
    obtain ⟨l2, h2, e2, x2⟩ := loop la.length 0 _ (params [.ref a, .ref b]) (by lia) e0 rfl rfl
    refine ⟨h2, ?_, x2⟩
    have m1 : attrV h .move (.ref b) = .ok (.int v) h := attr_ok a2 rfl
    have m2 : attrV h .remarks (.ref b) = .ok (.ref r2) h := attr_ok a2 rfl
    have m3 : attrV h .nags (.ref b) = .ok (.ref n2) h := attr_ok a2 rfl
    have m4 : attrV h .before (.ref b) = .ok (.ref o2) h := attr_ok a2 rfl
    have al : alloc (.lst [.int v, .ref r2, .ref n2, .ref o2]) h = .ok (.ref h.length) (h ++ [.lst [.int v, .ref r2, .ref n2, .ref o2]]) := rfl
    have cu := cut_ok (Ext.app h [.lst [.int v, .ref r2, .ref n2, .ref o2]] _ _ a1) (k := 4) (by lia)
    have tk : List.take (4 : Int).toNat [V.int v, .ref r, .ref nn, .ref o, .ref k] = [.int v, .ref r, .ref nn, .ref o] := rfl
    rw [tk] at cu
    have cn : ∀ h2, h2 = (h ++ [.lst [.int v, .ref r2, .ref n2, .ref o2]] ++ [.lst [.int v, .ref r, .ref nn, .ref o]]) → eqV 9 h2 (.ref h.length) (.ref (h ++ [Cell.lst [.int v, .ref r2, .ref n2, .ref o2]]).length) = some true := by
      intro h2 e
      have y1 : h2[h.length]? = some (.lst [.int v, .ref r2, .ref n2, .ref o2]) := by subst e; simp
      have y2 : h2[(h ++ [Cell.lst [.int v, .ref r2, .ref n2, .ref o2]]).length]? = some (.lst [.int v, .ref r, .ref nn, .ref o]) := by subst e; exact get_app_len _ _ _
      have x : Ext h h2 := by subst e; exact e0
      have q1 := eqV_ints (n := 6) (x _ _ a6) (x _ _ a3)
      have q2 := eqV_ints (n := 6) (x _ _ a7) (x _ _ a4)
      have q3 := eqV_ints (n := 6) (x _ _ a8) (x _ _ a5)
      dsimp only [eqV]
      rw [y1, y2]
      show (if 4 = 4 then allEq (eqV 8 h2) _ _ else _) = _
      rw [if_pos rfl]; dsimp only [allEq]; rw [q1, q2, q3, eqV_int, decide_eq_true rfl, decide_eq_true rfl, decide_eq_true rfl, decide_eq_true rfl]; rfl
    have cn' := cn _ rfl
    generalize hh : (h ++ [.lst [.int v, .ref r2, .ref n2, .ref o2]] ++ [.lst [.int v, .ref r, .ref nn, .ref o]]) = h1 at *
    have c1 : cmpV .ne h1 (.ref h.length) (.ref (h ++ [Cell.lst [.int v, .ref r2, .ref n2, .ref o2]]).length) = .ok (.bool false) h1 := by
      exact cmp_ne cn'
    have v1 : attrV h1 .variations (.ref b) = .ok (.ref k2) h1 := attr_ok (e0 _ _ a2) rfl
    have v2 := lenV_ok (e0 _ _ a10)
    have i0 : idxV h1 (.ref a) (.int 4) = .ok (.ref k) h1 := idx_ok (e0 _ _ a1) rfl
    have v3 := lenV_ok (e0 _ _ a9)
    have c2 : cmpV .ne h1 (.int ((lb.map V.ref).length : Nat)) (.int ((la.map V.ref).length : Nat)) = .ok (.bool false) h1 := by
      rw [List.length_map, List.length_map, hlen]; exact c_nf rfl
    have cd : evE ⟨fu, callN fu N⟩ (.bor (.cons (.cmp .ne (.lst (.cons (.attr (.var 1) .move) (.cons (.attr (.var 1) .remarks) (.cons (.attr (.var 1) .nags) (.cons (.attr (.var 1) .before) .nil))))) (.cut (.var 0) (.int 4))) (.cons (.cmp .ne (.len (.attr (.var 1) .variations)) (.len (.idx (.var 0) (.int 4)))) .nil)))
        (params [.ref a, .ref b]) h = .ok (.bool false) h1 := by
      exact x_bor (or_f (e_cmp (x_lst (x_args (x_attr (x_var rfl) m1) (x_args (x_attr (x_var rfl) m2) (x_args (x_attr (x_var rfl) m3) (x_args1 (x_attr (x_var rfl) m4)))))) (x_cut (x_var rfl) rfl cu) c1)
        (or_f (e_cmp (x_len (x_attr (x_var rfl) v1) v2) (x_len (x_idx (x_var rfl) rfl i0) v3) c2) rfl))
    rw [b_law_like, ss_nxt (l' := params [.ref a, .ref b]) (h' := h1) (s_else cd)]
    have fr : evS ⟨fu, callN fu N⟩ (.forR1 2 (.len (.idx (.var 0) (.int 4))) llFor) (params [.ref a, .ref b]) h1 = .nxt l2 h2 := by
      rw [forR1_eq (n := la.length) (h' := h1) (by
        exact (x_len (x_idx (x_var rfl) rfl i0) v3).trans (by rw [List.length_map])) hsz]
      exact e2
    have fr' := fr
    unfold llFor at fr'
    rw [ss_nxt fr']; rfl
theorem lab_of {L N : Sd} {h : H} {i : Id} {x p : Nat} (ha : L.a = N.a) (g : h[x]? = some (.lst ((lab N i p).map V.int))) : h[x]? = some (.lst ((lab L i p).map V.int)) := by
  have e : lab L i p = lab ⟨L.a, [], fun _ _ => 0⟩ i p := rfl
  rw [e, ha]; exact g
theorem like_of {L N : Sd} {h : H} (t : Two L N h) (ha : L.a = N.a) (tr : Tr L.a L.ids) (hz : L.ids.length ≤ ML) : ∀ (n : Nat) (i : Id), i ∈ L.ids → i ∈ N.ids → Dp L.a n i → Like h n (L.A i 0) (N.A i 0)
  | 0, _, _, _, d => d.elim
  | n + 1, i, hl, hn, d => by
    refine ⟨(L.a.re i).kids.map fun k => L.A k 0, (L.a.re i).kids.map fun k => N.A k 0, ⟨⟨mv i, _, _, _, _, _, _, _, _, _, _, _, _, t.l.l0 hl, t.n.n0 hn, t.l.lab hl (p := 1) (by lia) (by lia), t.l.lab hl (p := 2) (by lia) (by lia), t.l.lab hl (p := 3) (by lia) (by lia), ?_, ?_, ?_, ?_, ?_⟩, by simp, ?_⟩, ?_⟩
    · have := t.n.lab hn (p := 1) (by decide) (by decide); exact lab_of ha this
    · have := t.n.lab hn (p := 2) (by decide) (by decide); exact lab_of ha this
    · have := t.n.lab hn (p := 3) (by decide) (by decide); exact lab_of ha this
    · have := t.l.kids hl; rw [List.map_map]; exact this
    · have := t.n.kids hn; rw [List.map_map, ha]; exact this
    · simp; exact Nat.le_trans (tr.kl hl) hz
    · intro q a' b' e1 e2
      rw [List.getElem?_map] at e1 e2
      cases g : (L.a.re i).kids[q]? with
      | none => rw [g] at e1; cases e1
      | some k =>
        rw [g] at e1 e2
        cases e1; cases e2
        have hk := List.mem_of_getElem? g
        exact like_of t ha tr hz n k (t.l.cl i hl k hk) (t.n.cl i hn k (by rw [← ha]; exact hk)) (d k hk)
end MineB
end

section
namespace MineB
open Mine
set_option linter.unusedSimpArgs false
set_option linter.unusedVariables false
/-! contents of lists -/
inductive Val | sc (v : V) | ce (c : Cell)
noncomputable def Is (m : Nat) (h : H) : Val → V → Prop
  | .sc w, v => v = w
  | .ce c, v => ∃ t, C3 (v = .ref t) (h[t]? = some c) (t ≠ m)
noncomputable def IsL (m : Nat) (h : H) : List Val → List V → Prop
  | [], [] => True
  | c :: cs, v :: vs => Is m h c v ∧ IsL m h cs vs
  | _, _ => False
theorem Is.ext {m : Nat} {h h' : H} (e : ExtB h h' m) : ∀ {c : Val} {v : V}, Is m h c v → Is m h' c v
  | .sc _, _, x => x
  | .ce _, _, ⟨t, a, b, d⟩ => ⟨t, a, e _ _ d b, d⟩
theorem IsL.ext {m : Nat} {h h' : H} (e : ExtB h h' m) : ∀ {cs : List Val} {vs : List V}, IsL m h cs vs → IsL m h' cs vs
  | [], [], _ => trivial
  | _ :: _, _ :: _, ⟨x, r⟩ => ⟨x.ext e, IsL.ext e r⟩
  | [], _ :: _, x => x.elim
  | _ :: _, [], x => x.elim
theorem IsL.append {m : Nat} {h : H} : ∀ {cs cs' : List Val} {vs vs' : List V}, IsL m h cs vs → IsL m h cs' vs' → IsL m h (cs ++ cs') (vs ++ vs')
  | [], _, [], _, _, b => b
  | _ :: _, _, _ :: _, _, ⟨x, r⟩, b => ⟨x, IsL.append r b⟩
  | [], _, _ :: _, _, h, _ => h.elim
  | _ :: _, _, [], _, h, _ => h.elim
theorem IsL.len {m : Nat} {h : H} : ∀ {cs : List Val} {vs : List V}, IsL m h cs vs → cs.length = vs.length
  | [], [], _ => rfl
  | _ :: _, _ :: _, ⟨_, r⟩ => by simp [IsL.len r]
  | [], _ :: _, h => h.elim
  | _ :: _, [], h => h.elim
/-- an element of a comprehension -/
noncomputable def El (two : Bool) (cond elt : Loc → H → R V) (h0 : H) (x : V × Option Val) : Prop := ∀ h1, Ext h0 h1 → h0.length < h1.length → ∃ l, bindT two h1 x.1 = some l ∧
  match x.2 with
  | none => ∃ h2, cond l h1 = .ok (.bool false) h2 ∧ Ext h1 h2
  | some c => ∃ h2 w h3, C5 (cond l h1 = .ok (.bool true) h2) (Ext h1 h2) (elt l h2 = .ok w h3) (Ext h2 h3) (Is h0.length h3 c w)
theorem compLoop {two : Bool} {cond elt : Loc → H → R V} {h0 : H} {a : Nat} : ∀ (its dn : List (V × Option Val)) (all : List (V × Option Val)) (h : H) (ws : List V) (cs : List Val) (g : Nat), all = dn ++ its → (∀ x ∈ its, El two cond elt h0 x) →
    h0[a]? = some (.lst (all.map (·.1))) → Ext h0 h → h0.length < h.length → h[h0.length]? = some (.lst ws) → IsL h0.length h cs ws → ws.length + its.length ≤ ML → its.length < g →
    ∃ h' ws', C4 (compN two cond elt a h0.length g dn.length h = .ok (.ref h0.length) h') (Ext h0 h') (h'[h0.length]? = some (.lst ws')) (IsL h0.length h' (cs ++ its.filterMap (·.2)) ws') := by
  intro its
  induction its with
  | nil =>
    intro dn all h ws cs g ea hE ha e hl ho il hz hg
    obtain ⟨g', rfl, _⟩ := fuN (c := 0) (N := g) hg
    refine ⟨h, ws, ?_, e, ho, by simpa using il⟩
    dsimp only [compN]; simp [e _ _ ha, ea]
  | cons x its ih =>
    intro dn all h ws cs g ea hE ha e hl ho il hz hg
    obtain ⟨g', rfl, hg'⟩ := fuN (c := its.length + 1) (N := g) hg
    obtain ⟨l, bl, r⟩ := hE x List.mem_cons_self h e hl
    have hg0 : (all.map (·.1))[dn.length]? = some x.1 := by rw [ea]; simp
    obtain ⟨v, o⟩ := x
    simp only [List.length_cons] at hz
    cases o with
    | none =>
      obtain ⟨h2, e1, x1⟩ := r
      obtain ⟨h', ws', e2, x2, o2, il2⟩ := ih (dn ++ [(v, none)]) all h2 ws cs g' (by rw [ea]; simp) (fun y hy => hE y (List.mem_cons_of_mem _ hy)) ha (e.trans x1) (Nat.lt_of_lt_of_le hl x1.len) (x1 _ _ ho) (il.ext (.of x1)) (by lia) (by lia)
      refine ⟨h', ws', ?_, x2, o2, by simpa using il2⟩
      simp at e2
      dsimp only [compN]; simp only [e _ _ ha, hg0, bl, e1]; exact e2
    | some c =>
      obtain ⟨h2, w, h3, e1, x1, e2, x2, iw⟩ := r
      have o3 := x2 _ _ (x1 _ _ ho)
      have ap := appendV_ok o3 (by lia) w
      have x3 : Ext h0 h3 := (e.trans x1).trans x2
      have x4 : Ext h0 (h3.set h0.length (.lst (ws ++ [w]))) := x3.set _ (Nat.le_refl _)
      have il3 : IsL h0.length (h3.set h0.length (.lst (ws ++ [w]))) (cs ++ [c]) (ws ++ [w]) :=
        IsL.ext (ExtB.set _ _ _) (IsL.append (il.ext (.of (x1.trans x2))) ⟨iw, trivial⟩)
      obtain ⟨h', ws', e4, x5, o5, il5⟩ := ih (dn ++ [(v, some c)]) all (h3.set h0.length (.lst (ws ++ [w]))) (ws ++ [w]) (cs ++ [c]) g' (by rw [ea]; simp) (fun y hy => hE y (List.mem_cons_of_mem _ hy)) ha x4
        (by have := lt_of_get o3; simp; lia) (get_set_self o3 _) il3 (by simp; lia) (by lia)
      refine ⟨h', ws', ?_, x5, o5, by simpa using il5⟩
      simp at e4
      dsimp only [compN]; simp only [e _ _ ha, hg0, bl, e1, e2, ap]; exact e4
theorem comp_ok {c : Ctx} (hf : FU ≤ c.fu) {two : Bool} {cond elt : Loc → H → R V} {h0 : H} {a : Nat} (its : List (V × Option Val)) (hE : ∀ x ∈ its, El two cond elt h0 x) (ha : h0[a]? = some (.lst (its.map (·.1)))) (hz : its.length ≤ ML) :
    ∃ h' ws, C4 (compV c two cond elt (.ref a) h0 = .ok (.ref h0.length) h') (Ext h0 h') (h'[h0.length]? = some (.lst ws)) (IsL h0.length h' (its.filterMap (·.2)) ws) := by
  have hFU : ML < c.fu := Nat.lt_of_lt_of_le (by decide) hf
  have := compLoop (two := two) (cond := cond) (elt := elt) (h0 := h0) (a := a) its [] its (h0 ++ [.lst []]) [] [] c.fu rfl hE ha (Ext.app _ _) (by simp) (by simp) trivial (by simpa using hz) (by lia)
  simpa [compV] using this
/-! equal contents -/
theorem allEq_some {f : V → V → Option Bool} : ∀ {xs ys : List V}, xs.length = ys.length → (∀ (q : Nat) x y, xs[q]? = some x → ys[q]? = some y → f x y = some true) → allEq f xs ys = some true
  | [], [], _, _ => rfl
  | x :: xs, y :: ys, e, h => by
    have h0 := h 0 x y rfl rfl
    have := allEq_some (f := f) (xs := xs) (ys := ys) (by simpa using e) fun q a b ha hb => h (q + 1) a b (by simpa using ha) (by simpa using hb)
    dsimp only [allEq]; simp [h0, this]
  | [], _ :: _, e, _ => by simp at e
  | _ :: _, [], e, _ => by simp at e
theorem IsL.get {m : Nat} {h : H} : ∀ {cs : List Val} {vs : List V} {q : Nat} {v : V}, IsL m h cs vs → vs[q]? = some v → ∃ c, cs[q]? = some c ∧ Is m h c v
  | [], [], q, v, _, e => by simp at e
  | c :: _, _ :: _, 0, v, ⟨x, _⟩, e => by simp at e; subst e; exact ⟨c, rfl, x⟩
  | _ :: _, _ :: _, q + 1, v, ⟨_, r⟩, e => by
    obtain ⟨c, a, b⟩ := IsL.get (q := q) r (by simpa using e)
    exact ⟨c, by simpa using a, b⟩
  | [], _ :: _, _, _, x, _ => x.elim
  | _ :: _, [], _, _, x, _ => x.elim
/-- contents that are compared -/
noncomputable def Flat : Val → Prop
  | .sc (.int _) => True
  | .ce c => (∃ xs, c = intC xs) ∨ (∃ (i : Int) (b : Bool), c = .tup [.int i, .bool b])
  | _ => False
theorem eqV_Is {m m' n : Nat} {h : H} {c : Val} {v w : V} (f : Flat c) (a : Is m h c v) (b : Is m' h c w) : eqV (n + 3) h v w = some true := by
  match c, f with
  | .sc (.int i), _ =>
    have a : v = .int i := a
    have b : w = .int i := b
    subst a; subst b; dsimp only [eqV]; simp
  | .ce c, .inl ⟨xs, e⟩ =>
    obtain ⟨t, rfl, t1, _⟩ := a
    obtain ⟨u, rfl, u1, _⟩ := b
    subst e
    rw [eqV_ints t1 u1]; simp
  | .ce c, .inr ⟨i, b', e⟩ =>
    obtain ⟨t, rfl, t1, _⟩ := a
    obtain ⟨u, rfl, u1, _⟩ := b
    subst e
    dsimp only [eqV]; simp only [t1, u1]; dsimp only [allEq, eqV]; simp
theorem eqV_IsL {m m' n : Nat} {h : H} {cs : List Val} {vs ws : List V} {x y : Nat} (f : ∀ c ∈ cs, Flat c) (hx : h[x]? = some (.lst vs)) (hy : h[y]? = some (.lst ws)) (a : IsL m h cs vs) (b : IsL m' h cs ws) : eqV (n + 4) h (.ref x) (.ref y) = some true := by
  have l1 := a.len; have l2 := b.len
  dsimp only [eqV]; simp only [hx, hy]
  rw [if_pos (by lia)]
  refine allEq_some (by lia) fun q v w hv hw => ?_
  obtain ⟨c, e1, i1⟩ := a.get hv
  obtain ⟨c', e2, i2⟩ := b.get hw
  rw [e1] at e2; cases e2
  exact eqV_Is (f c (List.mem_of_getElem? e1)) i1 i2
end MineB
end

section
namespace MineB
open Mine
set_option linter.unusedSimpArgs false
set_option linter.unusedVariables false
/-! lists of pairs with a flag -/
noncomputable def tupC (c : V × Bool) : Cell := .tup [c.1, .bool c.2]
noncomputable def TL (h : H) : List (V × Bool) → List V → Prop
  | [], [] => True
  | c :: cs, v :: vs => (∃ t, v = .ref t ∧ h[t]? = some (tupC c)) ∧ TL h cs vs
  | _, _ => False
theorem TL.imp {h h' : H} (f : ∀ (t : Nat) (c : V × Bool), h[t]? = some (tupC c) → h'[t]? = some (tupC c)) : ∀ {cs : List (V × Bool)} {vs : List V}, TL h cs vs → TL h' cs vs
  | [], [], _ => trivial
  | _ :: _, _ :: _, ⟨⟨t, a, b⟩, r⟩ => ⟨⟨t, a, f t _ b⟩, TL.imp f r⟩
  | [], _ :: _, x => x.elim
  | _ :: _, [], x => x.elim
theorem TL.ext {h h' : H} (e : Ext h h') {cs : List (V × Bool)} {vs : List V} (a : TL h cs vs) : TL h' cs vs := a.imp fun t c => e t _
theorem TL.set {h : H} {m : Nat} {ws : List V} (e : h[m]? = some (.lst ws)) (c : Cell) {cs : List (V × Bool)} {vs : List V} (a : TL h cs vs) : TL (h.set m c) cs vs :=
  a.imp fun t d g => by
    rw [List.getElem?_set_ne (show m ≠ t from fun x => by rw [x, g] at e; cases e)]; exact g
theorem TL.append {h : H} : ∀ {cs cs' : List (V × Bool)} {vs vs' : List V}, TL h cs vs → TL h cs' vs' → TL h (cs ++ cs') (vs ++ vs')
  | [], _, [], _, _, b => b
  | _ :: _, _, _ :: _, _, ⟨x, r⟩, b => ⟨x, TL.append r b⟩
  | [], _, _ :: _, _, h, _ => h.elim
  | _ :: _, _, [], _, h, _ => h.elim
theorem TL.len {h : H} : ∀ {cs : List (V × Bool)} {vs : List V}, TL h cs vs → cs.length = vs.length
  | [], [], _ => rfl
  | _ :: _, _ :: _, ⟨_, r⟩ => by simp [TL.len r]
  | [], _ :: _, h => h.elim
  | _ :: _, [], h => h.elim
theorem TL.last {h : H} : ∀ {cs : List (V × Bool)} {c : V × Bool} {vs : List V}, TL h (cs ++ [c]) vs → ∃ ws t, C3 (vs = ws ++ [.ref t]) (h[t]? = some (tupC c)) (TL h cs ws)
  | [], c, [], x => x.elim
  | [], c, v :: vs, ⟨⟨t, a, b⟩, r⟩ => by
    cases vs with
    | nil => exact ⟨[], t, by rw [a]; rfl, b, trivial⟩
    | cons _ _ => exact r.elim
  | d :: cs, c, [], x => x.elim
  | d :: cs, c, v :: vs, ⟨y, r⟩ => by
    obtain ⟨ws, t, a, b, e⟩ := TL.last (cs := cs) r
    exact ⟨v :: ws, t, by rw [a]; rfl, b, y, e⟩
theorem TL.to {h : H} {m : Nat} {ws : List V} (e : h[m]? = some (.lst ws)) : ∀ {cs : List (V × Bool)} {vs : List V}, TL h cs vs → IsL m h (cs.map fun c => .ce (tupC c)) vs
  | [], [], _ => trivial
  | c :: _, _ :: _, ⟨⟨t, a, b⟩, r⟩ => ⟨⟨t, a, b, fun x => by rw [← x, b] at e; cases e⟩, TL.to e r⟩
  | [], _ :: _, x => x.elim
  | _ :: _, [], x => x.elim
theorem TL.of {h : H} {m : Nat} : ∀ {cs : List (V × Bool)} {vs : List V}, IsL m h (cs.map fun c => .ce (tupC c)) vs → TL h cs vs
  | [], [], _ => trivial
  | c :: _, _ :: _, ⟨⟨t, a, b, _⟩, r⟩ => ⟨⟨t, a, b⟩, TL.of r⟩
  | [], _ :: _, x => x.elim
  | _ :: _, [], x => x.elim
noncomputable def bo (a : Ab) : Nat → Id → List (Id × Bool)
  | 0, _ => []
  | n + 1, i => (a.re i).kids.flatMap fun k => (k, false) :: (bo a n k ++ [(k, true)])
theorem bo_len {a : Ab} : ∀ (n : Nat) (i : Id), Dp a n i → (bo a n i).length + 2 ≤ 2 * (pre a n i).length
  | 0, _, d => d.elim
  | n + 1, i, d => by
    have : ∀ ks : List Id, (∀ k ∈ ks, Dp a n k) → (ks.flatMap fun k => (k, false) :: (bo a n k ++ [(k, true)])).length ≤ 2 * (ks.flatMap (pre a n)).length := by
      intro ks
      induction ks with
      | nil => intro _; simp
      | cons k ks ih =>
        intro hk
        have h1 := ih fun q hq => hk q (List.mem_cons_of_mem _ hq)
        have h2 := bo_len n k (hk k List.mem_cons_self)
        simp only [List.flatMap_cons, List.length_append, List.length_cons, List.length_nil] at h1 ⊢; lia
    have := this (a.re i).kids d
    dsimp only [bo, pre]; simp only [List.length_cons]; lia
noncomputable def mvs (ps : List (Id × Bool)) : List (V × Bool) := ps.map fun p => (.int (mv p.1), p.2)
noncomputable def rfs (S : Sd) (ps : List (Id × Bool)) : List (V × Bool) := ps.map fun p => (.ref (S.A p.1 0), p.2)
noncomputable def lbBody : Ss := .cons (.expr (.append (.var 1) (.tup (.cons (.idx (.var 2) (.int 0)) (.cons (.bool false) .nil))))) (.cons (.expr (.extend (.var 1) (.call 21 (.cons (.var 2) .nil)))) (.cons (.expr (.append (.var 1) (.tup (.cons (.idx (.var 2) (.int 0)) (.cons (.bool true) .nil))))) .nil))
theorem law_both_ok {S : Sd} (t : Tr S.a S.ids) (hz : 2 * S.ids.length ≤ ML) {fu : Nat} (hf : FU ≤ fu) : ∀ (m : Nat) (i : Id) (h : H) (M : Nat), Ok false S h → i ∈ S.ids → Dp S.a m i → m ≤ M →
    ∃ out h' vs, C5 (callN fu M 21 [.ref (S.A i 0)] h = .ok (.ref out) h') (Ext h h') (h'[out]? = some (.lst vs)) (TL h' (mvs (bo S.a m i)) vs) (h.length ≤ out) := by
  intro m
  induction m with
  | zero => intro i h M _ _ d; exact d.elim
  | succ m ih =>
    intro i h M o hi d hM
    obtain ⟨n, rfl, hn⟩ := fuN (c := m) (by omega)
    have hFU : ML + 100 ≤ fu := Nat.le_trans (by decide) hf
    rw [callN_eq (k := 1) (b := b_law_both) (hk := rfl) (hb := rfl) (hl := rfl)]
    have tot0 := bo_len (m + 1) i d
    have tot1 := pre_len t (m + 1) i hi
    have loop : ∀ (ks dn : List Id) (l : Loc) (h1 : H) (ws : List V), (S.a.re i).kids = dn ++ ks → l 1 = some (.ref h.length) → Ext h h1 → h1[h.length]? = some (.lst ws) →
        TL h1 (mvs (dn.flatMap fun k => (k, false) :: (bo S.a m k ++ [(k, true)]))) ws → ∀ g, ks.length < g →
        ∃ l' h2 ws', C5 (forN 2 (S.A i 4) (evSs ⟨fu, callN fu n⟩ lbBody) g dn.length l h1 = .nxt l' h2) (l' 1 = some (.ref h.length)) (Ext h h2) (h2[h.length]? = some (.lst ws')) (TL h2 (mvs (bo S.a (m + 1) i)) ws') := by
      intro ks
      induction ks with
      | nil =>
        intro dn l h1 ws ek l1 e hw al g hg
        obtain ⟨g', rfl, _⟩ := fuN (c := 0) (N := g) hg
        refine ⟨l, h1, ws, for_end ((o.ext e).kids hi) (by simp [ek]), l1, e, hw, ?_⟩
        dsimp only [bo]; rw [ek]; simpa using al
      | cons k ks ihk =>
        intro dn l h1 ws ek l1 e hw al g hg
        obtain ⟨g', rfl, hg'⟩ := fuN (c := ks.length + 1) (N := g) hg
        have o1 := o.ext e
        have hkm : k ∈ (S.a.re i).kids := by rw [ek]; simp
        have hk : k ∈ S.ids := o.cl i hi k hkm
        have tot : (dn.flatMap fun k => (k, false) :: (bo S.a m k ++ [(k, true)])).length + (2 + (bo S.a m k).length) ≤ ML := by
          dsimp only [bo] at tot0; rw [ek] at tot0
          simp only [List.flatMap_append, List.flatMap_cons, List.length_append, List.length_cons, List.length_nil] at tot0 ⊢; lia
        have ln := al.len
        have lm : (mvs (dn.flatMap fun k => (k, false) :: (bo S.a m k ++ [(k, true)]))).length = (dn.flatMap fun k => (k, false) :: (bo S.a m k ++ [(k, true)])).length := by simp [mvs]
        -- the first pair
        have ha := Ext.app h1 [.tup [.int (mv k), .bool false]] _ _ hw
        have ap1 := appendV_ok ha (by lia) (.ref h1.length)
        have hc1 : ∃ h2, C4 (appendV (h1 ++ [.tup [.int (mv k), .bool false]]) (.ref h.length) (.ref h1.length) = .ok .none h2) (Ext h h2) (h2[h.length]? = some (.lst (ws ++ [.ref h1.length]))) (TL h2 (mvs (dn.flatMap fun k => (k, false) :: (bo S.a m k ++ [(k, true)])) ++ [(.int (mv k), false)]) (ws ++ [.ref h1.length])) :=
          ⟨_, ap1, (e.app' _).set _ (Nat.le_refl _), get_set_self ha _, TL.set ha _ (TL.append (cs' := [(.int (mv k), false)]) (vs' := [.ref h1.length]) (al.ext (Ext.app _ _)) ⟨⟨h1.length, rfl, by simp [tupC]⟩, trivial⟩)⟩
        obtain ⟨h2, ap1', x2, hw2, al2⟩ := hc1
        -- the kid's own
        obtain ⟨out', h3, vs', e3, x3, y3, al3, g3⟩ := ih k h2 n (o.ext x2) hk (d k hkm) hn
        have hw3 := x3 _ _ hw2
        have ln3 := al3.len
        have lm3 : (mvs (bo S.a m k)).length = (bo S.a m k).length := by simp [mvs]
        have ex := extendV_ok hw3 y3 (by simp; lia)
        have hc2 : ∃ h4, C4 (extendV h3 (.ref h.length) (.ref out') = .ok .none h4) (Ext h h4) (h4[h.length]? = some (.lst (ws ++ [.ref h1.length] ++ vs'))) (TL h4 (mvs (dn.flatMap fun k => (k, false) :: (bo S.a m k ++ [(k, true)])) ++ [(.int (mv k), false)] ++ mvs (bo S.a m k)) (ws ++ [.ref h1.length] ++ vs')) :=
          ⟨_, ex, (x2.trans x3).set _ (Nat.le_refl _), get_set_self hw3 _, TL.set hw3 _ ((al2.ext x3).append al3)⟩
        obtain ⟨h4, ex', x4, hw4, al4⟩ := hc2
        -- the last pair
        have hb := Ext.app h4 [.tup [.int (mv k), .bool true]] _ _ hw4
        have ap2 := appendV_ok hb (by simp; lia) (.ref h4.length)
        have hc3 : ∃ h5, C4 (appendV (h4 ++ [.tup [.int (mv k), .bool true]]) (.ref h.length) (.ref h4.length) = .ok .none h5) (Ext h h5) (h5[h.length]? = some (.lst (ws ++ [.ref h1.length] ++ vs' ++ [.ref h4.length]))) (TL h5 (mvs (dn.flatMap fun k => (k, false) :: (bo S.a m k ++ [(k, true)])) ++ [(.int (mv k), false)] ++ mvs (bo S.a m k) ++ [(.int (mv k), true)]) (ws ++ [.ref h1.length] ++ vs' ++ [.ref h4.length])) :=
          ⟨_, ap2, (x4.app' _).set _ (Nat.le_refl _), get_set_self hb _, TL.set hb _ (TL.append (cs' := [(.int (mv k), true)]) (vs' := [.ref h4.length]) (al4.ext (Ext.app _ _)) ⟨⟨h4.length, rfl, by simp [tupC]⟩, trivial⟩)⟩
        obtain ⟨h5, ap2', x5, hw5, al5⟩ := hc3
        have bd : evSs ⟨fu, callN fu n⟩ lbBody (l.set 2 (.ref (S.A k 0))) h1 = .nxt (l.set 2 (.ref (S.A k 0))) h5 := by
          have im1 := o1.imove hk
          have im4 := (o.ext x4).imove hk
          have is1 := isLst_ok hw
          have is2 := isLst_ok hw2
          have is4 := isLst_ok hw4
          simp [lbBody, l1, im1, im4, alloc, is1, is2, is4, ap1', e3, ex', ap2']
        rw [for_nxt (o1.kids hi) (v := .ref (S.A k 0)) (by rw [ek]; simp) bd]
        have := ihk (dn ++ [k]) (l.set 2 (.ref (S.A k 0))) h5 _ (by rw [ek]; simp) l1 x5 hw5 (by simpa [mvs] using al5) g' (by lia)
        simpa using this
    have kl := t.kl hi
    obtain ⟨l', h2, ws', e2, l1, x2, hw2, al2⟩ := loop (S.a.re i).kids [] ((params [.ref (S.A i 0)]).set 1 (.ref h.length)) (h ++ [.lst []]) [] rfl rfl (Ext.app _ _) (by simp) trivial fu (by lia)
    refine ⟨h.length, h2, ws', ?_, x2, hw2, al2, Nat.le_refl _⟩
    rw [b_law_both, ss_nxt (l' := (params [.ref (S.A i 0)]).set 1 (.ref h.length)) (h' := h ++ [.lst []]) (by simp [alloc])]
    have o5 := o.ext (Ext.app h [.lst []])
    rw [ss_nxt (l' := l') (h' := h2) (by
      have : evE ⟨fu, callN fu n⟩ (.idx (.var 0) (.int 4)) ((params [.ref (S.A i 0)]).set 1 (.ref h.length)) (h ++ [.lst []]) = .ok (.ref (S.A i 4)) (h ++ [.lst []]) := by
        simp [o5.ikids hi]
      exact (s_forL this).trans e2)]
    simp [l1]
end MineB
end

section
namespace MineB
open Mine
set_option linter.unusedSimpArgs false
set_option linter.unusedVariables false
theorem ExtB.app (h : H) (e : H) (m : Nat) : ExtB h (h ++ e) m := .of (Ext.app h e)
theorem for_pushF {S : Sd} {c : Ctx} {a td : Nat} {all : List Id} : ∀ (rs dn : List Id) (l : Loc) (h : H) (us : List V) (cs : List (V × Bool)), all = dn ++ rs → l 2 = some (.ref td) → a ≠ td → h[a]? = some (.lst (rf S all)) → h[td]? = some (.lst us) → TL h cs us → us.length + rs.length ≤ ML →
    ∀ g, rs.length < g → ∃ l' h' us', C5 (forN 5 a (evSs c (.cons (.expr (.append (.var 2) (.tup (.cons (.var 5) (.cons (.bool false) .nil))))) .nil)) g dn.length l h = .nxt l' h') (ExtB h h' td) (h'[td]? = some (.lst us')) (TL h' (cs ++ rfs S (rs.map fun k => (k, false))) us') ((∀ y, y ≠ 5 → l' y = l y)) := by
  intro rs
  induction rs with
  | nil =>
    intro dn l h us cs ea l2 hat ha ht tl hz g hg
    obtain ⟨g', rfl, _⟩ := fuN (c := 0) (N := g) hg
    exact ⟨l, h, us, for_end ha (by simp [ea, rf]), ExtB.refl _ _, ht, by simpa [rfs] using tl, fun _ _ => rfl⟩
  | cons k rs ih =>
    intro dn l h us cs ea l2 hat ha ht tl hz g hg
    simp only [List.length_cons] at hz
    obtain ⟨g', rfl, hg'⟩ := fuN (c := rs.length + 1) (N := g) hg
    have ht1 := Ext.app h [.tup [.ref (S.A k 0), .bool false]] _ _ ht
    have ap := appendV_ok ht1 (by lia) (.ref h.length)
    have hc : ∃ h2, C4 (appendV (h ++ [.tup [.ref (S.A k 0), .bool false]]) (.ref td) (.ref h.length) = .ok .none h2) (ExtB h h2 td) (h2[td]? = some (.lst (us ++ [.ref h.length]))) (TL h2 (cs ++ [(.ref (S.A k 0), false)]) (us ++ [.ref h.length])) :=
      ⟨_, ap, (ExtB.app _ _ _).trans (ExtB.set _ _ _), get_set_self ht1 _, TL.set ht1 _ (TL.append (cs' := [(.ref (S.A k 0), false)]) (vs' := [.ref h.length]) (tl.ext (Ext.app _ _)) ⟨⟨h.length, rfl, by simp [tupC]⟩, trivial⟩)⟩
    obtain ⟨h2, ap', x2, ht2, tl2⟩ := hc
    have is := isLst_ok ht
    have bd : evSs c (.cons (.expr (.append (.var 2) (.tup (.cons (.var 5) (.cons (.bool false) .nil))))) .nil) (l.set 5 (.ref (S.A k 0))) h = .nxt (l.set 5 (.ref (S.A k 0))) h2 := by
      simp [l2, is, alloc, ap']
    rw [for_nxt ha (v := .ref (S.A k 0)) (by rw [ea]; simp [rf]) bd]
    obtain ⟨l', h', us', e, x, ht', tl', f⟩ := ih (dn ++ [k]) (l.set 5 (.ref (S.A k 0))) h2 _ _ (by rw [ea]; simp) l2 hat (x2 _ _ hat ha) ht2 tl2 (by simp; lia) g' (by lia)
    refine ⟨l', h', us', by simpa using e, x2.trans x, ht', by simpa [rfs] using tl', fun y y5 => (f y y5).trans (if_neg y5)⟩
noncomputable def flatB (a : Ab) (st : List (Nat × Id × Bool)) : List (Id × Bool) := st.flatMap fun p => if p.2.2 then [(p.2.1, true)] else (p.2.1, false) :: (bo a p.1 p.2.1 ++ [(p.2.1, true)])
theorem flatB_len {a : Ab} : ∀ (st : List (Nat × Id × Bool)), st.length ≤ (flatB a st).length
  | [] => by simp [flatB]
  | p :: st => by
    have := flatB_len (a := a) st
    obtain ⟨n, i, b⟩ := p
    cases b <;> simp [flatB] at this ⊢ <;> lia
noncomputable def wbBody : Ss := .cons (.assign2 3 4 (.pop (.var 2))) (.cons (.expr (.append (.var 1) (.tup (.cons (.var 3) (.cons (.var 4) .nil))))) (.cons (.ite (.not (.var 4)) (.cons (.expr (.append (.var 2) (.tup (.cons (.var 3) (.cons (.bool true) .nil))))) (.cons (.forL 5 (.rev (.attr (.var 3) .variations)) (.cons (.expr (.append (.var 2) (.tup (.cons (.var 5) (.cons (.bool false) .nil))))) .nil)) .nil)) .nil) .nil))
theorem bothLoop {S : Sd} {h0 : H} (o : Ok true S h0) {fu n out td : Nat} (hot : out ≠ td) (ho : h0.length ≤ out) (ht : h0.length ≤ td) (hFU : ML + 100 ≤ fu) :
    ∀ (N : Nat) (st : List (Nat × Id × Bool)) (dn : List (Id × Bool)) (l : Loc) (h : H) (ws us : List V), (∀ p ∈ st, p.2.1 ∈ S.ids ∧ (p.2.2 = false → Dp S.a p.1 p.2.1)) → (flatB S.a st).length < N → dn.length + (flatB S.a st).length ≤ ML →
      l 1 = some (.ref out) → l 2 = some (.ref td) → Ext h0 h → h[out]? = some (.lst ws) → TL h (rfs S dn) ws → h[td]? = some (.lst us) → TL h (rfs S (st.map (·.2)).reverse) us →
      ∃ l' h' ws', C5 (whileN (evE ⟨fu, callN fu n⟩ (.cmp .gt (.len (.var 2)) (.int 0))) (evSs ⟨fu, callN fu n⟩ wbBody) N l h = .nxt l' h') (l' 1 = some (.ref out)) (Ext h0 h') (h'[out]? = some (.lst ws')) (TL h' (rfs S (dn ++ flatB S.a st)) ws') := by
  intro N
  induction N with
  | zero => intro st dn l h ws us _ g; exact absurd g (Nat.not_lt_zero _)
  | succ N ih =>
    intro st dn l h ws us hst hN hz l1 l2 e eo tlo et tlt
    have lt := lenV_ok et
    have lnt := tlt.len
    have lno := tlo.len
    cases st with
    | nil =>
      have : us.length = 0 := by simpa [rfs] using lnt.symm
      refine ⟨l, h, ws, whl_end ?_, l1, e, eo, by simpa [flatB] using tlo⟩
      simp [this] at lt
      simp [l2, lt]
    | cons p st =>
      obtain ⟨m, k, b⟩ := p
      obtain ⟨hk, hd⟩ := hst _ List.mem_cons_self
      have hr : rfs S (((m, k, b) :: st).map (·.2)).reverse = rfs S (st.map (·.2)).reverse ++ [(.ref (S.A k 0), b)] := by simp [rfs]
      rw [hr] at tlt
      obtain ⟨us0, t, rfl, gt, tl0⟩ := tlt.last
      have cd : evE ⟨fu, callN fu n⟩ (.cmp .gt (.len (.var 2)) (.int 0)) l h = .ok (.bool true) h := by
        simp at lt
        simp [l2, lt]
      have pp := popV_ok et
      have is := isLst_ok et
      -- behind the pop and the output
      have eo1 : (h.set td (.lst us0))[out]? = some (.lst ws) := by rw [List.getElem?_set_ne (Ne.symm hot)]; exact eo
      have et1 := get_set_self et (.lst us0)
      have gt1 : (h.set td (.lst us0))[t]? = some (tupC (.ref (S.A k 0), b)) := by
        rw [List.getElem?_set_ne (show td ≠ t from fun x => by rw [x, gt] at et; cases et)]; exact gt
      have up : unpair (h.set td (.lst us0)) (.ref t) = some (.ref (S.A k 0), .bool b) := unpair_ok gt1
      have tlo1 := TL.set et (.lst us0) tlo
      have tl1 := TL.set et (.lst us0) tl0
      have x1 : Ext h0 (h.set td (.lst us0)) := e.set _ ht
      have hc1 : ∃ h1, C7 (popV h (.ref td) = .ok (.ref t) h1) (Ext h0 h1) (h1[out]? = some (.lst ws)) (TL h1 (rfs S dn) ws) (h1[td]? = some (.lst us0)) (TL h1 (rfs S (st.map (·.2)).reverse) us0) (unpair h1 (.ref t) = some (.ref (S.A k 0), .bool b)) := ⟨_, pp, x1, eo1, tlo1, et1, tl1, up⟩
      obtain ⟨h1, pp1, x1, eo1, tlo1, et1, tl1, up⟩ := hc1
      have fl : dn.length + 1 ≤ ML := by
        have := flatB_len (a := S.a) ((m, k, b) :: st)
        simp only [List.length_cons] at this; lia
      have lnd : (rfs S dn).length = dn.length := by simp [rfs]
      have eoa := Ext.app h1 [.tup [.ref (S.A k 0), .bool b]] _ _ eo1
      have eta := Ext.app h1 [.tup [.ref (S.A k 0), .bool b]] _ _ et1
      have ap2 := appendV_ok eoa (by lia) (.ref h1.length)
      have hc2 : ∃ h2, C6 (appendV (h1 ++ [.tup [.ref (S.A k 0), .bool b]]) (.ref out) (.ref h1.length) = .ok .none h2) (Ext h0 h2) (h2[out]? = some (.lst (ws ++ [.ref h1.length]))) (TL h2 (rfs S (dn ++ [(k, b)])) (ws ++ [.ref h1.length])) (h2[td]? = some (.lst us0)) (TL h2 (rfs S (st.map (·.2)).reverse) us0) :=
        ⟨_, ap2, (x1.app' _).set _ ho, get_set_self eoa _, by
          have := TL.set eoa (.lst (ws ++ [.ref h1.length])) (TL.append (cs' := [(.ref (S.A k 0), b)]) (vs' := [.ref h1.length]) (tlo1.ext (Ext.app _ _)) ⟨⟨h1.length, rfl, by simp [tupC]⟩, trivial⟩)
          simpa [rfs] using this, by rw [List.getElem?_set_ne hot]; exact eta, TL.set eoa _ (tl1.ext (Ext.app _ _))⟩
      obtain ⟨h2, ap2', x2, eo2, tlo2, et2, tl2⟩ := hc2
      have iso := isLst_ok eo1
      let l4 : Loc := (l.set 3 (.ref (S.A k 0))).set 4 (.bool b)
      have st1 : evS ⟨fu, callN fu n⟩ (.assign2 3 4 (.pop (.var 2))) l h = .nxt l4 h1 := by simp [l2, is, pp1, up, l4]
      have st2 : evS ⟨fu, callN fu n⟩ (.expr (.append (.var 1) (.tup (.cons (.var 3) (.cons (.var 4) .nil))))) l4 h1 = .nxt l4 h2 := by
        simp [l4, l1, iso, alloc, ap2']
      cases b with
      | true =>
        have bd : evSs ⟨fu, callN fu n⟩ wbBody l h = .nxt l4 h2 := by
          rw [wbBody, ss_nxt st1, ss_nxt st2]
          exact ss_nxt (s_else (x_not (t := true) (x_var rfl)))
        rw [whl_nxt cd bd]
        have fe : flatB S.a ((m, k, true) :: st) = (k, true) :: flatB S.a st := by simp [flatB]
        rw [fe] at hN hz
        simp only [List.length_cons] at hN hz
        obtain ⟨l', h', ws', e', r1, x', eo', tl'⟩ := ih st (dn ++ [(k, true)]) l4 h2 _ us0 (fun q hq => hst q (List.mem_cons_of_mem _ hq)) (by lia) (by simp; lia) l1 l2 x2 eo2 tlo2 et2 tl2
        refine ⟨l', h', ws', e', r1, x', eo', ?_⟩
        rw [fe]; simpa using tl'
      | false =>
        cases m with
        | zero => exact (hd rfl).elim
        | succ m =>
        have hd' := hd rfl
        have fe : flatB S.a ((m + 1, k, false) :: st) = (k, false) :: flatB S.a ((S.a.re k).kids.map (fun c => (m, c, false)) ++ (0, k, true) :: st) := by
          rw [flatB, List.flatMap_cons, flatB, List.flatMap_append, List.flatMap_cons, List.flatMap_map]
          exact congrArg ((k, false) :: ·) (List.append_assoc _ [(k, true)] _)
        rw [fe] at hN hz
        simp only [List.length_cons] at hN hz
        have fl2 := flatB_len (a := S.a) ((S.a.re k).kids.map (fun c => (m, c, false)) ++ (0, k, true) :: st)
        simp only [List.length_append, List.length_map, List.length_cons] at fl2
        have ln0 := tl2.len
        have lr : (rfs S (st.map (·.2)).reverse).length = st.length := by simp [rfs]
        -- the node again
        have etb := Ext.app h2 [.tup [.ref (S.A k 0), .bool true]] _ _ et2
        have eob := Ext.app h2 [.tup [.ref (S.A k 0), .bool true]] _ _ eo2
        have ap3 := appendV_ok etb (by lia) (.ref h2.length)
        have hc3 : ∃ h3, C6 (appendV (h2 ++ [.tup [.ref (S.A k 0), .bool true]]) (.ref td) (.ref h2.length) = .ok .none h3) (Ext h0 h3) (h3[out]? = some (.lst (ws ++ [.ref h1.length]))) (TL h3 (rfs S (dn ++ [(k, false)])) (ws ++ [.ref h1.length])) (h3[td]? = some (.lst (us0 ++ [.ref h2.length]))) (TL h3 (rfs S (st.map (·.2)).reverse ++ [(.ref (S.A k 0), true)]) (us0 ++ [.ref h2.length])) :=
          ⟨_, ap3, (x2.app' _).set _ ht, by rw [List.getElem?_set_ne (Ne.symm hot)]; exact eob, TL.set etb _ (tlo2.ext (Ext.app _ _)), get_set_self etb _,
            TL.set etb _ (TL.append (cs' := [(.ref (S.A k 0), true)]) (vs' := [.ref h2.length]) (tl2.ext (Ext.app _ _)) ⟨⟨h2.length, rfl, by simp [tupC]⟩, trivial⟩)⟩
        obtain ⟨h3, ap3', x3, eo3, tlo3, et3, tl3⟩ := hc3
        have o3 := o.ext x3
        have rv := revV_ok (o3.kids hk)
        have erv : ((S.a.re k).kids.map fun k => V.ref (S.A k 0)).reverse = rf S (S.a.re k).kids.reverse := by simp [rf]
        rw [erv] at rv
        have et4 := Ext.app h3 [.lst (rf S (S.a.re k).kids.reverse)] _ _ et3
        have hat : h3.length ≠ td := by have := lt_of_get et3; lia
        have hao : h3.length ≠ out := by have := lt_of_get eo3; lia
        obtain ⟨l5, h5, us5, e5, x5, et5, tl5, f5⟩ := for_pushF (S := S) (c := ⟨fu, callN fu n⟩) (a := h3.length) (td := td) (all := (S.a.re k).kids.reverse) (S.a.re k).kids.reverse [] l4 (h3 ++ [.lst (rf S (S.a.re k).kids.reverse)]) _ _ rfl l2 hat (by simp) et4 (tl3.ext (Ext.app _ _)) (by simp; lia) fu (by simp; lia)
        have x6 : Ext h0 h5 := (x3.app' [.lst (rf S (S.a.re k).kids.reverse)]).b ht x5
        have eo5 := x5 _ _ hot (Ext.app h3 [.lst (rf S (S.a.re k).kids.reverse)] _ _ eo3)
        have tlo5 : TL h5 (rfs S (dn ++ [(k, false)])) (ws ++ [.ref h1.length]) := (tlo3.ext (Ext.app h3 [.lst (rf S (S.a.re k).kids.reverse)])).imp fun t c g => x5 _ _ (fun x => by rw [x, et4] at g; cases g) g
        have bd : evSs ⟨fu, callN fu n⟩ wbBody l h = .nxt l5 h5 := by
          rw [wbBody, ss_nxt st1, ss_nxt st2]
          have is2 := isLst_ok et2
          have st3 : evS ⟨fu, callN fu n⟩ (.expr (.append (.var 2) (.tup (.cons (.var 3) (.cons (.bool true) .nil))))) l4 h2 = .nxt l4 h3 := by
            simp [l4, l2, is2, alloc, ap3']
          have st4 : evS ⟨fu, callN fu n⟩ (.forL 5 (.rev (.attr (.var 3) .variations)) (.cons (.expr (.append (.var 2) (.tup (.cons (.var 5) (.cons (.bool false) .nil))))) .nil)) l4 h3 = .nxt l5 h5 := by
            have av := o3.avar hk
            have : evE ⟨fu, callN fu n⟩ (.rev (.attr (.var 3) .variations)) l4 h3 = .ok (.ref h3.length) (h3 ++ [.lst (rf S (S.a.re k).kids.reverse)]) := by simp [l4, av, rv]
            exact (s_forL this).trans e5
          have cdn : evE ⟨fu, callN fu n⟩ (.not (.var 4)) l4 h2 = .ok (.bool true) h2 := by simp [l4]
          have st5 : evS ⟨fu, callN fu n⟩ (.ite (.not (.var 4)) (.cons (.expr (.append (.var 2) (.tup (.cons (.var 3) (.cons (.bool true) .nil))))) (.cons (.forL 5 (.rev (.attr (.var 3) .variations)) (.cons (.expr (.append (.var 2) (.tup (.cons (.var 5) (.cons (.bool false) .nil))))) .nil)) .nil)) .nil) l4 h2 = .nxt l5 h5 := by
            rw [s_ite cdn, ss_nxt st3, ss_nxt st4]; rfl
          rw [ss_nxt st5]; rfl
        rw [whl_nxt cd bd]
        obtain ⟨l', h', ws', e', r1, x', eo', tl'⟩ := ih ((S.a.re k).kids.map (fun c => (m, c, false)) ++ (0, k, true) :: st) (dn ++ [(k, false)]) l5 h5 _ us5 (fun q hq => by
            rcases List.mem_append.1 hq with hq | hq
            · obtain ⟨c, hc, rfl⟩ := List.mem_map.1 hq
              exact ⟨o.cl k hk c hc, fun _ => hd' c hc⟩
            · rcases List.mem_cons.1 hq with rfl | hq
              · exact ⟨hk, fun x => by cases x⟩
              · exact hst q (List.mem_cons_of_mem _ hq)) (by lia) (by simp only [List.length_append, List.length_singleton]; lia) ((f5 1 (by decide)).trans l1) ((f5 2 (by decide)).trans l2) x6 eo5 tlo5 et5
            (by simpa [rfs, List.map_map, Function.comp_def] using tl5)
        refine ⟨l', h', ws', e', r1, x', eo', ?_⟩
        rw [fe]; simpa using tl'
end MineB
end

section
namespace MineB
open Mine
set_option linter.unusedSimpArgs false
set_option linter.unusedVariables false
theorem walk_both_ok {S : Sd} {h : H} {i : Id} (o : Ok true S h) (t : Tr S.a S.ids) (hz : 2 * S.ids.length ≤ ML) (hi : i ∈ S.ids) {m : Nat} (d : Dp S.a m i) {fu : Nat} (hf : FU ≤ fu) {N : Nat} (hN : 1 ≤ N) :
    ∃ out h' ws, C4 (callN fu N 11 [.ref (S.A i 0)] h = .ok (.ref out) h') (Ext h h') (h'[out]? = some (.lst ws)) (TL h' (rfs S (bo S.a m i)) ws) := by
  obtain ⟨n, rfl, -⟩ := fuN hN
  have hFU : ML + 100 ≤ fu := Nat.le_trans (by decide) hf
  cases m with
  | zero => exact d.elim
  | succ m =>
  rw [callN_eq (k := 1) (b := b_walk_both) (hk := rfl) (hb := rfl) (hl := rfl)]
  have bl := bo_len (m + 1) i d
  have pl := pre_len t (m + 1) i hi
  have kl := t.kl hi
  -- out
  have x1 : Ext h (h ++ [.lst []]) := Ext.app _ _
  have o1 := o.ext x1
  have rv := revV_ok (o1.kids hi)
  have erv : ((S.a.re i).kids.map fun k => V.ref (S.A k 0)).reverse = rf S (S.a.re i).kids.reverse := by simp [rf]
  rw [erv] at rv
  -- the comprehension
  have hE : ∀ x ∈ ((S.a.re i).kids.reverse.map fun k => ((V.ref (S.A k 0), some (Val.ce (tupC (.ref (S.A k 0), false)))) : V × Option Val)), El false (fun _ h => .ok (.bool true) h) (evE ⟨fu, callN fu n⟩ (.tup (.cons (.var 0) (.cons (.bool false) .nil)))) (h ++ [.lst []] ++ [.lst (rf S (S.a.re i).kids.reverse)]) x := by
    intro x hx h1 e1 l1
    obtain ⟨k, hk, rfl⟩ := List.mem_map.1 hx
    refine ⟨_, rfl, h1, .ref h1.length, h1 ++ [tupC (.ref (S.A k 0), false)], rfl, Ext.refl _, by simp [alloc, tupC], Ext.app _ _, h1.length, rfl, by simp, by lia⟩
  obtain ⟨h2, us, e2, x2, hu, il⟩ := comp_ok (c := ⟨fu, callN fu n⟩) hf (a := (h ++ [Cell.lst []]).length) _ hE (by simp [rf, Function.comp_def]) (by simp; lia)
  have il' : IsL (h ++ [Cell.lst []] ++ [Cell.lst (rf S (S.a.re i).kids.reverse)]).length h2 ((rfs S ((S.a.re i).kids.reverse.map fun k => (k, false))).map fun c => .ce (tupC c)) us := by
    have e : ((S.a.re i).kids.reverse.map fun k => ((V.ref (S.A k 0), some (Val.ce (tupC (.ref (S.A k 0), false)))) : V × Option Val)).filterMap (·.2) = (rfs S ((S.a.re i).kids.reverse.map fun k => (k, false))).map fun c => Val.ce (tupC c) := by
      simp [rfs, List.filterMap_map, Function.comp_def]
    rw [e] at il; exact il
  have tl := TL.of il'
  have xx : Ext h h2 := (x1.app' _).trans x2
  let l2 : Loc := ((params [.ref (S.A i 0)]).set 1 (.ref h.length)).set 2 (.ref (h.length + 2))
  have hu' : h2[h.length + 2]? = some (.lst us) := by simpa using hu
  have fb : flatB S.a ((S.a.re i).kids.map fun k => (m, k, false)) = bo S.a (m + 1) i := by rw [flatB, List.flatMap_map]; rfl
  obtain ⟨l3, h3, ws, e3, r3, x3, ho, tlo⟩ := bothLoop o (fu := fu) (n := n) (out := h.length) (td := h.length + 2) (by lia) (by lia) (by lia) hFU fu ((S.a.re i).kids.map fun k => (m, k, false)) [] l2 h2 [] us (fun q hq => by
      obtain ⟨c, hc, rfl⟩ := List.mem_map.1 hq
      exact ⟨o.cl i hi c hc, fun _ => d c hc⟩) (by rw [fb]; lia) (by rw [fb]; simp; lia) rfl rfl xx (x2 _ _ (Ext.app _ _ _ _ (by simp))) trivial hu' (by simpa [rfs, List.map_map, Function.comp_def] using tl)
  rw [fb] at tlo
  refine ⟨h.length, h3, ws, ?_, x3, ho, tlo⟩
  rw [b_walk_both, ss_nxt (l' := (params [.ref (S.A i 0)]).set 1 (.ref h.length)) (h' := h ++ [.lst []]) (by simp [alloc])]
  have av := o1.avar hi
  rw [ss_nxt (l' := l2) (h' := h2) (by
    have : evE ⟨fu, callN fu n⟩ (.rev (.attr (.var 0) .variations)) ((params [.ref (S.A i 0)]).set 1 (.ref h.length)) (h ++ [.lst []]) = .ok (.ref (h ++ [Cell.lst []]).length) (h ++ [.lst []] ++ [.lst (rf S (S.a.re i).kids.reverse)]) := by
      exact x_rev (x_attr (x_var rfl) av) rv
    exact (s_assign (x_comp this e2)).trans (by rw [List.length_append, List.length_append]; rfl))]
  have e3' : evS ⟨fu, callN fu n⟩ (.whil (.cmp .gt (.len (.var 2)) (.int 0)) wbBody) l2 h2 = .nxt l3 h3 := by exact e3
  unfold wbBody at e3'
  rw [ss_nxt e3']
  simp [r3]
/-! the main line -/
noncomputable def mln (a : Ab) : Nat → Id → List Id
  | 0, _ => []
  | n + 1, i => match (a.re i).kids with | [] => [] | k :: _ => k :: mln a n k
theorem mln_len (a : Ab) : ∀ (n : Nat) (i : Id), (mln a n i).length ≤ n
  | 0, _ => Nat.le_refl _
  | n + 1, i => by
    dsimp only [mln]
    split
    · simp
    · rename_i k ks _
      have := mln_len a n k
      simp; lia
theorem main_line_ok {S : Sd} {h : H} {i : Id} (o : Ok true S h) (hi : i ∈ S.ids) {m : Nat} (d : Dp S.a m i) (hm : m ≤ 100) (hz : ∀ i ∈ S.ids, (S.a.re i).kids.length ≤ ML) {fu : Nat} (hf : FU ≤ fu) {N : Nat} (hN : 1 ≤ N) :
    ∃ out h', C3 (callN fu N 8 [.ref (S.A i 0)] h = .ok (.ref out) h') (Ext h h') (h'[out]? = some (.lst (rf S (mln S.a m i)))) := by
  obtain ⟨n, rfl, -⟩ := fuN hN
  have hM : ML = 16777216 := rfl
  have hFU : ML + 100 ≤ fu := Nat.le_trans (by decide) hf
  rw [callN_eq (k := 1) (b := b_main_line) (hk := rfl) (hb := rfl) (hl := rfl)]
  have loop : ∀ (m : Nat) (i : Id) (dn : List Id) (l : Loc) (h1 : H) (g : Nat), i ∈ S.ids → Dp S.a m i → m < g → dn.length + m ≤ 200 → l 0 = some (.ref (S.A i 0)) → l 1 = some (.ref h.length) → Ext h h1 → h1[h.length]? = some (.lst (rf S dn)) →
      ∃ l' h2, C4 (whileN (evE ⟨fu, callN fu n⟩ (.cmp .gt (.len (.attr (.var 0) .variations)) (.int 0))) (evSs ⟨fu, callN fu n⟩ (.cons (.assign 0 (.idx (.attr (.var 0) .variations) (.int 0))) (.cons (.expr (.append (.var 1) (.var 0))) .nil))) g l h1 = .nxt l' h2) (l' 1 = some (.ref h.length)) (Ext h h2) (h2[h.length]? = some (.lst (rf S (dn ++ mln S.a m i)))) := by
    intro m
    induction m with
    | zero => intro i dn l h1 g _ d; exact d.elim
    | succ m ih =>
      intro i dn l h1 g hi d hg hz2 l0 l1 e ho
      obtain ⟨g', rfl, hg'⟩ := fuN (c := m + 1) (N := g) hg
      have o1 := o.ext e
      have av := o1.avar hi
      have lk := o1.lenK hi
      cases hk : (S.a.re i).kids with
      | nil =>
        rw [hk] at lk
        refine ⟨l, h1, whl_end (by simp at lk; simp [l0, av, lk]), l1, e, ?_⟩
        dsimp only [mln]; rw [hk]; simpa using ho
      | cons k ks =>
        rw [hk] at lk
        have hkm : k ∈ (S.a.re i).kids := by rw [hk]; simp
        have cd : evE ⟨fu, callN fu n⟩ (.cmp .gt (.len (.attr (.var 0) .variations)) (.int 0)) l h1 = .ok (.bool true) h1 := by
          simp at lk; simp [l0, av, lk]
        have ik := o1.ikid hi (q := 0) (k := k) (by rw [hk]; rfl)
        have ap := appendV_ok ho (by simp [rf]; lia) (.ref (S.A k 0))
        have is := isLst_ok ho
        have bd : evSs ⟨fu, callN fu n⟩ (.cons (.assign 0 (.idx (.attr (.var 0) .variations) (.int 0))) (.cons (.expr (.append (.var 1) (.var 0))) .nil)) l h1 = .nxt (l.set 0 (.ref (S.A k 0))) (h1.set h.length (.lst (rf S dn ++ [.ref (S.A k 0)]))) := by
          have ik' : idxV h1 (.ref (S.A i 4)) (.int 0) = .ok (.ref (S.A k 0)) h1 := ik
          simp [l0, av, ik', l1, is, ap]
        rw [whl_nxt cd bd]
        obtain ⟨l', h2, e2, r1, x2, ho2⟩ := ih k (dn ++ [k]) (l.set 0 (.ref (S.A k 0))) (h1.set h.length (.lst (rf S dn ++ [.ref (S.A k 0)]))) g' (o.cl i hi k hkm) (d k hkm) (by lia) (by simp; lia) rfl l1 (e.set _ (Nat.le_refl _)) (by rw [get_set_self ho]; simp [rf])
        refine ⟨l', h2, e2, r1, x2, ?_⟩
        dsimp only [mln]; rw [hk]; simpa using ho2
  obtain ⟨l', h2, e2, r1, x2, ho⟩ := loop m i [] ((params [.ref (S.A i 0)]).set 1 (.ref h.length)) (h ++ [.lst []]) fu hi d (by lia) (by simp; lia) rfl rfl (Ext.app _ _) (by simp [rf])
  refine ⟨h.length, h2, ?_, x2, by simpa using ho⟩
  rw [b_main_line, ss_nxt (l' := (params [.ref (S.A i 0)]).set 1 (.ref h.length)) (h' := h ++ [.lst []]) (by simp [alloc])]
  rw [ss_nxt (l' := l') (h' := h2) (by exact e2)]
  simp [r1]
/-! all lines -/
noncomputable def leaf (a : Ab) (i : Id) : Bool := (a.re i).kids.isEmpty
theorem all_lines_ok {S : Sd} {h : H} {i : Id} (o : Ok true S h) (t : Tr S.a S.ids) (hz : S.ids.length ≤ ML) (hi : i ∈ S.ids) {m : Nat} (d : Dp S.a m i) {fu : Nat} (hf : FU ≤ fu) {N : Nat} (hN : 2 ≤ N) :
    ∃ out h' ws m0, C4 (callN fu N 12 [.ref (S.A i 0)] h = .ok (.ref out) h') (Ext h h') (h'[out]? = some (.lst ws)) (IsL m0 h' (((pre S.a m i).filter (leaf S.a)).map fun j => .ce (intC (pth S.a j))) ws) := by
  obtain ⟨n, rfl, hn⟩ := fuN hN
  rw [callN_eq (k := 1) (b := b_all_lines) (hk := rfl) (hb := rfl) (hl := rfl)]
  obtain ⟨out, h1, e1, x1, ho, _⟩ := walk_ok o t hz hi d hf (N := n) hn
  have o1 := o.ext x1
  have hE : ∀ x ∈ ((pre S.a m i).map fun j => ((V.ref (S.A j 0), if leaf S.a j then some (Val.ce (intC (pth S.a j))) else none) : V × Option Val)), El false (evE ⟨fu, callN fu n⟩ (.cmp .eq (.len (.attr (.var 0) .variations)) (.int 0))) (evE ⟨fu, callN fu n⟩ (.call 9 (.cons (.var 0) .nil))) h1 x := by
    intro x hx h2 e2 l2
    obtain ⟨j, hj, rfl⟩ := List.mem_map.1 hx
    have hj' := pre_ids t m i hi j hj
    have o2 := o1.ext e2
    refine ⟨fun x => if x = 0 then some (.ref (S.A j 0)) else none, rfl, ?_⟩
    have av := o2.avar hj'
    have lk := o2.lenK hj'
    have cd : evE ⟨fu, callN fu n⟩ (.cmp .eq (.len (.attr (.var 0) .variations)) (.int 0)) (fun x => if x = 0 then some (.ref (S.A j 0)) else none) h2 = .ok (.bool (leaf S.a j)) h2 := by
      simp [av, lk, leaf]
      cases (S.a.re j).kids <;> simp
    cases hl : leaf S.a j with
    | false => rw [hl] at cd; exact ⟨h2, cd, Ext.refl _⟩
    | true =>
      rw [hl] at cd
      obtain ⟨y, h3, e3, x3, p3, g3⟩ := line_to_ok o2 hj' (t.lv j hj') hf (N := n) hn
      exact ⟨h2, .ref y, h3, cd, Ext.refl _, by simp [e3], x3, y, rfl, p3, by lia⟩
  obtain ⟨h2, ws, e2, x2, hw, il⟩ := comp_ok (c := ⟨fu, callN fu n⟩) hf (a := out) _ hE (by rw [ho]; simp [rf, Function.comp_def]) (by have := pre_len t m i hi; simp; lia)
  refine ⟨h1.length, h2, ws, h1.length, ?_, x1.trans x2, hw, ?_⟩
  · have c1 : evE ⟨fu, callN fu n⟩ (.call 10 (.cons (.var 0) .nil)) (params [.ref (S.A i 0)]) h = .ok (.ref out) h1 := by simp [e1]
    rw [b_all_lines, ss_ret (s_ret (x_compIf c1 e2))]; rfl
  · have e : ((pre S.a m i).map fun j => ((V.ref (S.A j 0), if leaf S.a j then some (Val.ce (intC (pth S.a j))) else none) : V × Option Val)).filterMap (·.2) = ((pre S.a m i).filter (leaf S.a)).map fun j => .ce (intC (pth S.a j)) := by
      induction pre S.a m i with
      | nil => rfl
      | cons j js ih => cases hl : leaf S.a j <;> simp [hl] <;> simpa using ih
    rw [e] at il; exact il
end MineB
end

section
namespace MineB
open Mine
set_option linter.unusedSimpArgs false
set_option linter.unusedVariables false
noncomputable def TP (h : H) : List (V × V) → List V → Prop
  | [], [] => True
  | c :: cs, v :: vs => (∃ t, v = .ref t ∧ h[t]? = some (.tup [c.1, c.2])) ∧ TP h cs vs
  | _, _ => False
theorem TP.imp {h h' : H} (f : ∀ (t : Nat) (c : V × V), h[t]? = some (.tup [c.1, c.2]) → h'[t]? = some (.tup [c.1, c.2])) : ∀ {cs : List (V × V)} {vs : List V}, TP h cs vs → TP h' cs vs
  | [], [], _ => trivial
  | _ :: _, _ :: _, ⟨⟨t, a, b⟩, r⟩ => ⟨⟨t, a, f t _ b⟩, TP.imp f r⟩
  | [], _ :: _, x => x.elim
  | _ :: _, [], x => x.elim
theorem TP.ext {h h' : H} (e : Ext h h') {cs : List (V × V)} {vs : List V} (a : TP h cs vs) : TP h' cs vs := a.imp fun t c => e t _
theorem TP.set {h : H} {m : Nat} {ws : List V} (e : h[m]? = some (.lst ws)) (c : Cell) {cs : List (V × V)} {vs : List V} (a : TP h cs vs) : TP (h.set m c) cs vs :=
  a.imp fun t d g => by
    rw [List.getElem?_set_ne (show m ≠ t from fun x => by rw [x, g] at e; cases e)]; exact g
theorem TP.append {h : H} : ∀ {cs cs' : List (V × V)} {vs vs' : List V}, TP h cs vs → TP h cs' vs' → TP h (cs ++ cs') (vs ++ vs')
  | [], _, [], _, _, b => b
  | _ :: _, _, _ :: _, _, ⟨x, r⟩, b => ⟨x, TP.append r b⟩
  | [], _, _ :: _, _, h, _ => h.elim
  | _ :: _, _, [], _, h, _ => h.elim
theorem TP.len {h : H} : ∀ {cs : List (V × V)} {vs : List V}, TP h cs vs → cs.length = vs.length
  | [], [], _ => rfl
  | _ :: _, _ :: _, ⟨_, r⟩ => by simp [TP.len r]
  | [], _ :: _, h => h.elim
  | _ :: _, [], h => h.elim
theorem TP.last {h : H} : ∀ {cs : List (V × V)} {c : V × V} {vs : List V}, TP h (cs ++ [c]) vs → ∃ ws t, C3 (vs = ws ++ [.ref t]) (h[t]? = some (.tup [c.1, c.2])) (TP h cs ws)
  | [], c, [], x => x.elim
  | [], c, v :: vs, ⟨⟨t, a, b⟩, r⟩ => by
    cases vs with
    | nil => exact ⟨[], t, by rw [a]; rfl, b, trivial⟩
    | cons _ _ => exact r.elim
  | d :: cs, c, [], x => x.elim
  | d :: cs, c, v :: vs, ⟨y, r⟩ => by
    obtain ⟨ws, t, a, b, e⟩ := TP.last (cs := cs) r
    exact ⟨v :: ws, t, by rw [a]; rfl, b, y, e⟩
noncomputable def same1 (a b : Ab) (i j : Id) : Bool := decide (mv i = mv j) && (decide ((a.re i).r = (b.re j).r) && (decide ((a.re i).n = (b.re j).n) && (decide ((a.re i).b = (b.re j).b) && decide ((a.re i).kids.length = (b.re j).kids.length))))
noncomputable def sameT (a b : Ab) : Nat → Id → Id → Bool
  | 0, _, _ => false
  | n + 1, i, j => same1 a b i j && ((a.re i).kids.zip (b.re j).kids).all fun p => sameT a b n p.1 p.2
theorem same_node_ok {S T : Sd} {h : H} {i j : Id} (o : Ok true S h) (o' : Ok true T h) (hi : i ∈ S.ids) (hj : j ∈ T.ids) (fu : Nat) {N : Nat} (hN : 1 ≤ N) :
    callN fu N 13 [.ref (S.A i 0), .ref (T.A j 0)] h = .ok (.bool (same1 S.a T.a i j)) h := by
  obtain ⟨n, rfl, -⟩ := fuN hN
  rw [callN_eq (k := 2) (b := b_same_node) (hk := rfl) (hb := rfl) (hl := rfl)]
  have q : ∀ p, 1 ≤ p → p ≤ 3 → cmpV .eq h (.ref (S.A i p)) (.ref (T.A j p)) = .ok (.bool (decide (lab S i p = lab T j p))) h := fun p a b =>
    cmp_eq (eqV_ints (n := 7) (o.lab hi a b) (o'.lab hj a b))
  have q4 : cmpV .eq h (.int (S.a.re i).kids.length) (.int (T.a.re j).kids.length) = .ok (.bool (decide ((S.a.re i).kids.length = (T.a.re j).kids.length))) h :=
    congrArg (fun b => R.ok (V.bool b) h) (decide_eq_decide.2 Int.ofNat_inj)
  rw [b_same_node, ss_ret (s_ret (x_band (and_b (e_cmp (x_attr (x_var rfl) (o.amove hi)) (x_attr (x_var rfl) (o'.amove hj)) rfl) (and_b (e_cmp (x_attr (x_var rfl) (o.arem hi)) (x_attr (x_var rfl) (o'.arem hj)) (q 1 (by decide) (by decide)))
    (and_b (e_cmp (x_attr (x_var rfl) (o.anag hi)) (x_attr (x_var rfl) (o'.anag hj)) (q 2 (by decide) (by decide))) (and_b (e_cmp (x_attr (x_var rfl) (o.abef hi)) (x_attr (x_var rfl) (o'.abef hj)) (q 3 (by decide) (by decide)))
      (and_1 (e_cmp (x_len (x_attr (x_var rfl) (o.avar hi)) (o.lenK hi)) (x_len (x_attr (x_var rfl) (o'.avar hj)) (o'.lenK hj)) q4))))))))]
  rfl
noncomputable def rps (S T : Sd) (ps : List (Id × Id)) : List (V × V) := ps.map fun p => (.ref (S.A p.1 0), .ref (T.A p.2 0))
noncomputable def stBody : Ss := .cons (.assign2 0 1 (.pop (.var 2))) (.cons (.ite (.not (.call 13 (.cons (.var 0) (.cons (.var 1) .nil)))) (.cons (.ret (.bool false)) .nil) .nil) (.cons (.forR1 3 (.len (.attr (.var 0) .variations)) (.cons (.expr (.append (.var 2) (.tup (.cons (.idx (.attr (.var 0) .variations) (.var 3)) (.cons (.idx (.attr (.var 1) .variations) (.var 3)) .nil))))) .nil)) .nil))
theorem range_push {S T : Sd} {c : Ctx} {td : Nat} {i j : Id} (hi : i ∈ S.ids) (hj : j ∈ T.ids) (hlen : (S.a.re i).kids.length = (T.a.re j).kids.length) {h0 : H} (o : Ok true S h0) (o' : Ok true T h0) (htd : h0.length ≤ td) :
    ∀ (m q : Nat) (l : Loc) (h : H) (us : List V) (cs : List (V × V)), q + m = (S.a.re i).kids.length → l 0 = some (.ref (S.A i 0)) → l 1 = some (.ref (T.A j 0)) → l 2 = some (.ref td) → Ext h0 h → h[td]? = some (.lst us) → TP h cs us → us.length + m ≤ ML →
    ∃ l' h' us', C5 (rangeN 3 (evSs c (.cons (.expr (.append (.var 2) (.tup (.cons (.idx (.attr (.var 0) .variations) (.var 3)) (.cons (.idx (.attr (.var 1) .variations) (.var 3)) .nil))))) .nil)) m (q : Int) l h = .nxt l' h') (Ext h0 h') (h'[td]? = some (.lst us')) (TP h' (cs ++ rps S T (((S.a.re i).kids.zip (T.a.re j).kids).drop q)) us') (l' 2 = some (.ref td)) := by
  intro m
  induction m with
  | zero =>
    intro q l h us cs hq l0 l1 l2 e ht tp hz
    refine ⟨l, h, us, rfl, e, ht, ?_, l2⟩
    rw [List.drop_of_length_le (by simp; lia)]; simpa [rps] using tp
  | succ m ih =>
    intro q l h us cs hq l0 l1 l2 e ht tp hz
    have o1 := o.ext e
    have o2 := o'.ext e
    have a1 := o1.avar hi
    have a2 := o2.avar hj
    obtain ⟨x, hx⟩ : ∃ x, (S.a.re i).kids[q]? = some x := ⟨_, List.getElem?_eq_getElem (by lia)⟩
    obtain ⟨y, hy⟩ : ∃ y, (T.a.re j).kids[q]? = some y := ⟨_, List.getElem?_eq_getElem (by lia)⟩
    have i1 := o1.ikid hi hx
    have i2 := o2.ikid hj hy
    have is := isLst_ok ht
    have ht1 := Ext.app h [.tup [.ref (S.A x 0), .ref (T.A y 0)]] _ _ ht
    have ap := appendV_ok ht1 (by lia) (.ref h.length)
    have hc : ∃ h2, C4 (appendV (h ++ [.tup [.ref (S.A x 0), .ref (T.A y 0)]]) (.ref td) (.ref h.length) = .ok .none h2) (Ext h0 h2) (h2[td]? = some (.lst (us ++ [.ref h.length]))) (TP h2 (cs ++ [(.ref (S.A x 0), .ref (T.A y 0))]) (us ++ [.ref h.length])) :=
      ⟨_, ap, (e.app' _).set _ htd, get_set_self ht1 _, TP.set ht1 _ (TP.append (cs' := [(.ref (S.A x 0), .ref (T.A y 0))]) (vs' := [.ref h.length]) (tp.ext (Ext.app _ _)) ⟨⟨h.length, rfl, by simp⟩, trivial⟩)⟩
    obtain ⟨h2, ap', x2, ht2, tp2⟩ := hc
    have bd : evSs c (.cons (.expr (.append (.var 2) (.tup (.cons (.idx (.attr (.var 0) .variations) (.var 3)) (.cons (.idx (.attr (.var 1) .variations) (.var 3)) .nil))))) .nil) (l.set 3 (.int q)) h = .nxt (l.set 3 (.int q)) h2 := by
      simp [l0, l1, l2, is, a1, a2, i1, i2, alloc, ap']
    obtain ⟨l', h', us', e3, x3, ht3, tp3, r3⟩ := ih (q + 1) (l.set 3 (.int q)) h2 _ _ (by lia) l0 l1 l2 x2 ht2 tp2 (by simp; lia)
    refine ⟨l', h', us', ?_, x3, ht3, ?_, r3⟩
    · dsimp only [rangeN]; rw [bd]; exact e3
    · have hz : ((S.a.re i).kids.zip (T.a.re j).kids)[q]? = some (x, y) := by
        rw [List.getElem?_zip_eq_some]; exact ⟨hx, hy⟩
      have hql := lt_of_q hz
      have : ((S.a.re i).kids.zip (T.a.re j).kids).drop q = (x, y) :: ((S.a.re i).kids.zip (T.a.re j).kids).drop (q + 1) := by
        rw [List.drop_eq_getElem_cons hql]
        congr 1
        rw [List.getElem?_eq_getElem hql] at hz; exact Option.some.inj hz
      rw [this]; simpa [rps] using tp3
noncomputable def szS (a : Ab) (st : List (Nat × Id × Id)) : Nat := (st.map fun p => (pre a p.1 p.2.1).length).sum
theorem szS_len {a : Ab} : ∀ (st : List (Nat × Id × Id)), (∀ p ∈ st, Dp a p.1 p.2.1) → st.length ≤ szS a st
  | [], _ => by simp
  | p :: st, h => by
    have h1 := szS_len st fun q hq => h q (List.mem_cons_of_mem _ hq)
    have h2 := List.length_pos_of_mem (pre_pos (h p List.mem_cons_self))
    simp only [szS, List.map_cons, List.sum_cons, List.length_cons] at h1 ⊢; lia
theorem sameLoop {S T : Sd} {h0 : H} (o : Ok true S h0) (o' : Ok true T h0) {fu n td : Nat} (hn : 1 ≤ n) (ht : h0.length ≤ td) :
    ∀ (N : Nat) (st : List (Nat × Id × Id)) (l : Loc) (h : H) (us : List V), (∀ p ∈ st, p.2.1 ∈ S.ids ∧ p.2.2 ∈ T.ids ∧ Dp S.a p.1 p.2.1) → szS S.a st < N → szS S.a st ≤ ML →
      l 2 = some (.ref td) → Ext h0 h → h[td]? = some (.lst us) → TP h (rps S T (st.map (·.2)).reverse) us →
      ∃ l' h', whileN (evE ⟨fu, callN fu n⟩ (.cmp .gt (.len (.var 2)) (.int 0))) (evSs ⟨fu, callN fu n⟩ stBody) N l h = (if st.all (fun p => sameT S.a T.a p.1 p.2.1 p.2.2) then .nxt l' h' else .ret (.bool false) h') ∧ Ext h0 h' := by
  intro N
  induction N with
  | zero => intro st l h us _ g; exact absurd g (Nat.not_lt_zero _)
  | succ N ih =>
    intro st l h us hst hN hz l2 e et tp
    have lt := lenV_ok et
    have ln := tp.len
    cases st with
    | nil =>
      have : us.length = 0 := by simpa [rps] using ln.symm
      refine ⟨l, h, ?_, e⟩
      rw [whl_end (h' := h) (by simp [this] at lt; simp [l2, lt])]; simp
    | cons p st =>
      obtain ⟨m, i, j⟩ := p
      obtain ⟨hi, hj, hd⟩ := hst _ List.mem_cons_self
      change i ∈ S.ids at hi
      change j ∈ T.ids at hj
      change Dp S.a m i at hd
      have hr : rps S T (((m, i, j) :: st).map (·.2)).reverse = rps S T (st.map (·.2)).reverse ++ [(.ref (S.A i 0), .ref (T.A j 0))] := by simp [rps]
      rw [hr] at tp
      obtain ⟨us0, t, rfl, gt, tp0⟩ := tp.last
      have cd : evE ⟨fu, callN fu n⟩ (.cmp .gt (.len (.var 2)) (.int 0)) l h = .ok (.bool true) h := by
        simp at lt
        simp [l2, lt]
      have pp := popV_ok et
      have is := isLst_ok et
      have hc1 : ∃ h1, C5 (popV h (.ref td) = .ok (.ref t) h1) (Ext h0 h1) (h1[td]? = some (.lst us0)) (TP h1 (rps S T (st.map (·.2)).reverse) us0) (unpair h1 (.ref t) = some (.ref (S.A i 0), .ref (T.A j 0))) :=
        ⟨_, pp, e.set _ ht, get_set_self et _, TP.set et _ tp0, by
          have : (h.set td (.lst us0))[t]? = some (.tup [.ref (S.A i 0), .ref (T.A j 0)]) := by
            rw [List.getElem?_set_ne (show td ≠ t from fun x => by rw [x, gt] at et; cases et)]; exact gt
          simp [unpair, this]⟩
      obtain ⟨h1, pp1, x1, et1, tp1, up⟩ := hc1
      have o1 := o.ext x1
      have o2 := o'.ext x1
      have sn := same_node_ok o1 o2 hi hj fu hn
      let l4 : Loc := (l.set 0 (.ref (S.A i 0))).set 1 (.ref (T.A j 0))
      have st1 : evS ⟨fu, callN fu n⟩ (.assign2 0 1 (.pop (.var 2))) l h = .nxt l4 h1 := by simp [l2, is, pp1, up, l4]
      cases m with
      | zero => exact hd.elim
      | succ m =>
      cases hs : same1 S.a T.a i j with
      | false =>
        rw [hs] at sn
        have bd : evSs ⟨fu, callN fu n⟩ stBody l h = .ret (.bool false) h1 := by
          rw [stBody, ss_nxt st1]
          rw [ss_ret (v := .bool false) (h' := h1)]
          simp [l4, sn]
        refine ⟨l, h1, ?_, x1⟩
        rw [whl_ret cd bd]
        have hf : sameT S.a T.a (m + 1) i j = false := by dsimp only [sameT]; rw [hs]; rfl
        rw [List.all_cons, hf]; rfl
      | true =>
        rw [hs] at sn
        have hlen : (S.a.re i).kids.length = (T.a.re j).kids.length := by
          unfold same1 at hs; simp only [Bool.and_eq_true, decide_eq_true_eq] at hs; exact hs.2.2.2.2
        have sz : szS S.a ((m + 1, i, j) :: st) = (1 + ((S.a.re i).kids.flatMap (pre S.a m)).length) + szS S.a st := by
          show (pre S.a (m + 1) i).length + _ = _
          rw [Nat.add_comm 1]; rfl
        have zst := szS_len st fun q hq => (hst q (List.mem_cons_of_mem _ hq)).2.2
        have zk := szS_len (((S.a.re i).kids.zip (T.a.re j).kids).map fun p => (m, p)) (by
          intro q hq
          obtain ⟨p, hp, rfl⟩ := List.mem_map.1 hq
          exact hd p.1 (List.of_mem_zip hp).1)
        have szk : szS S.a (((S.a.re i).kids.zip (T.a.re j).kids).map fun p => (m, p)) = ((S.a.re i).kids.flatMap (pre S.a m)).length := by
          rw [List.length_flatMap]
          have : ∀ (xs ys : List Id), xs.length = ys.length → ((xs.zip ys).map fun p => (pre S.a m p.1).length).sum = (xs.map fun a => (pre S.a m a).length).sum := by
            intro xs
            induction xs with
            | nil => intro ys _; rfl
            | cons x xs ih => intro ys e; cases ys with
              | nil => simp at e
              | cons y ys => simp [ih ys (by simpa using e)]
          have := this _ _ hlen
          simpa [szS, List.map_map, Function.comp_def] using this
        have ln0 := tp1.len
        have lr : (rps S T (st.map (·.2)).reverse).length = st.length := by simp [rps]
        have lz : (((S.a.re i).kids.zip (T.a.re j).kids).map fun p => (m, p)).length = (S.a.re i).kids.length := by simp; lia
        have av := o1.avar hi
        have lk := o1.lenK hi
        obtain ⟨l5, h5, us5, e5, x5, et5, tp5, r5⟩ := range_push (c := ⟨fu, callN fu n⟩) (td := td) (i := i) (j := j) hi hj hlen o o' ht (S.a.re i).kids.length 0 l4 h1 us0 _ (by lia) rfl rfl l2 x1 et1 tp1 (by lia)
        rw [List.drop_zero] at tp5
        have bd : evSs ⟨fu, callN fu n⟩ stBody l h = .nxt l5 h5 := by
          rw [stBody, ss_nxt st1]
          rw [ss_nxt (l' := l4) (h' := h1) (by simp [l4, sn])]
          rw [ss_nxt (l' := l5) (h' := h5) (by
            rw [forR1_eq (n := (S.a.re i).kids.length) (h' := h1) (by simp [l4, av, lk]) (by lia)]
            exact e5)]
          rfl
        rw [whl_nxt cd bd]
        obtain ⟨l', h', e', x'⟩ := ih ((((S.a.re i).kids.zip (T.a.re j).kids).map fun p => (m, p)).reverse ++ st) l5 h5 us5 (fun q hq => by
            rcases List.mem_append.1 hq with hq | hq
            · obtain ⟨p, hp, rfl⟩ := List.mem_map.1 (List.mem_reverse.1 hq)
              have hz := List.of_mem_zip hp
              exact ⟨o.cl i hi _ hz.1, o'.cl j hj _ hz.2, hd _ hz.1⟩
            · exact hst q (List.mem_cons_of_mem _ hq))
          (by
            have : szS S.a ((((S.a.re i).kids.zip (T.a.re j).kids).map fun p => (m, p)).reverse ++ st) = szS S.a (((S.a.re i).kids.zip (T.a.re j).kids).map fun p => (m, p)) + szS S.a st := by simp [szS, List.sum_reverse]
            lia)
          (by
            have : szS S.a ((((S.a.re i).kids.zip (T.a.re j).kids).map fun p => (m, p)).reverse ++ st) = szS S.a (((S.a.re i).kids.zip (T.a.re j).kids).map fun p => (m, p)) + szS S.a st := by simp [szS, List.sum_reverse]
            lia) r5 x5 et5 (by simpa [rps, List.map_map, Function.comp_def] using tp5)
        refine ⟨l', h', ?_, x'⟩
        rw [e']
        have : ((((S.a.re i).kids.zip (T.a.re j).kids).map fun p => (m, p)).reverse ++ st).all (fun p => sameT S.a T.a p.1 p.2.1 p.2.2) = ((m + 1, i, j) :: st).all (fun p => sameT S.a T.a p.1 p.2.1 p.2.2) := by
          have hf : sameT S.a T.a (m + 1) i j = ((S.a.re i).kids.zip (T.a.re j).kids).all fun p => sameT S.a T.a m p.1 p.2 := by dsimp only [sameT]; rw [hs]; rfl
          rw [List.all_append, List.all_reverse, List.all_map, List.all_cons, hf]; rfl
        rw [this]
theorem same_tree_ok {S T : Sd} {h : H} {i j : Id} (o : Ok true S h) (o' : Ok true T h) (hi : i ∈ S.ids) (hj : j ∈ T.ids) {m : Nat} (d : Dp S.a m i) (pl : (pre S.a m i).length ≤ ML) {fu : Nat} (hf : FU ≤ fu) {N : Nat} (hN : 2 ≤ N) :
    ∃ h', callN fu N 14 [.ref (S.A i 0), .ref (T.A j 0)] h = .ok (.bool (sameT S.a T.a m i j)) h' ∧ Ext h h' := by
  obtain ⟨n, rfl, hn⟩ := fuN hN
  have hFU : ML + 100 ≤ fu := Nat.le_trans (by decide) hf
  rw [callN_eq (k := 2) (b := b_same_tree) (hk := rfl) (hb := rfl) (hl := rfl)]
  have zz : szS S.a [(m, i, j)] = (pre S.a m i).length := by simp [szS]
  have e0 : Ext h (h ++ [.tup [.ref (S.A i 0), .ref (T.A j 0)]] ++ [.lst [.ref h.length]]) := (Ext.app _ _).trans (Ext.app _ _)
  obtain ⟨l', h', e, x⟩ := sameLoop o o' (fu := fu) (n := n) (td := h.length + 1) hn (by lia) fu [(m, i, j)] ((params [.ref (S.A i 0), .ref (T.A j 0)]).set 2 (.ref (h.length + 1)))
    (h ++ [.tup [.ref (S.A i 0), .ref (T.A j 0)]] ++ [.lst [.ref h.length]]) [.ref h.length] (by simpa using ⟨hi, hj, d⟩) (by lia) (by lia) rfl e0 (by simp) ⟨⟨h.length, rfl, by simp⟩, trivial⟩
  refine ⟨h', ?_, x⟩
  rw [b_same_tree, ss_nxt (l' := (params [.ref (S.A i 0), .ref (T.A j 0)]).set 2 (.ref (h.length + 1))) (h' := h ++ [.tup [.ref (S.A i 0), .ref (T.A j 0)]] ++ [.lst [.ref h.length]]) (by simp [alloc])]
  have e1 : evS ⟨fu, callN fu n⟩ (.whil (.cmp .gt (.len (.var 2)) (.int 0)) stBody) ((params [.ref (S.A i 0), .ref (T.A j 0)]).set 2 (.ref (h.length + 1))) (h ++ [.tup [.ref (S.A i 0), .ref (T.A j 0)]] ++ [.lst [.ref h.length]]) = (if ([(m, i, j)].all fun p => sameT S.a T.a p.1 p.2.1 p.2.2) then .nxt l' h' else .ret (.bool false) h') := by exact e
  unfold stBody at e1
  cases hs : sameT S.a T.a m i j
  · have e2 : ([(m, i, j)].all fun p => sameT S.a T.a p.1 p.2.1 p.2.2) = false := by rw [List.all_cons, hs]; rfl
    rw [e2, if_neg Bool.false_ne_true] at e1
    rw [ss_ret e1]; rfl
  · have e2 : ([(m, i, j)].all fun p => sameT S.a T.a p.1 p.2.1 p.2.2) = true := by rw [List.all_cons, hs]; rfl
    rw [e2, if_pos rfl] at e1
    rw [ss_nxt e1]; rfl
end MineB
end

section
namespace MineB
open Mine
set_option linter.unusedSimpArgs false
set_option linter.unusedVariables false
noncomputable def tw (i : Id) : Id := (2, i.2)
noncomputable def twR (r : Rec) : Rec := { r with kids := r.kids.map tw }
theorem tw_inj {k k' : Id} (h : k.1 = k'.1) (e : tw k = tw k') : k = k' := by
  obtain ⟨t, p⟩ := k; obtain ⟨t', p'⟩ := k'
  simp [tw] at h e; rw [h, e]
theorem mv_tw (i : Id) : mv (tw i) = mv i := rfl
theorem ext_step {L T : Sd} {h : H} {i j : Id} (tt : Two L T h) (hi : i ∈ L.ids) (hj : j ∈ T.ids) {p : Nat} (h1 : 1 ≤ p) (h3 : p ≤ 3) (hz : (lab T j p).length + (lab L i p).length ≤ ML) :
    ∃ h', extendV h (.ref (T.A j p)) (.ref (L.A i p)) = .ok .none h' ∧ Stp true T h (T.on (T.a.lb j p (lab T j p ++ lab L i p))) h' := by
  refine ⟨_, ?_, lb_step tt.n hj h1 h3 rfl⟩
  rw [extendV_ok (tt.n.lab hj h1 h3) (tt.l.lab hi h1 h3) (by simpa using hz)]; simp
noncomputable def plBody : Ss := .cons (.expr (.call 25 (.cons (.var 2) (.cons (.call 1 (.cons (.var 1) (.cons (.idx (.var 2) (.int 0)) (.cons .str .nil)))) .nil)))) .nil
structure Pl (L T : Sd) (ks : List Id) (T' : Sd) : Prop where
  re : ∀ k ∈ ks, T'.a.re (tw k) = twR (L.a.re k)
  ot : ∀ j, (∀ k ∈ ks, j ≠ tw k) → T'.a.re j = T.a.re j
  ids : ∀ j, j ∈ T'.ids ↔ j ∈ T.ids ∨ ∃ k ∈ ks, j = tw k
  att : T'.a.att = T.a.att
theorem law_plant_ok {L : Sd} (t : Tr L.a L.ids) (hz : L.ids.length < ML) {K : Nat} (lb : Lbs K L.a) (hK : K < ML) {fu : Nat} (hf : FU ≤ fu) : ∀ (n : Nat) (T : Sd) (h : H) (i : Id) (M : Nat), Two L T h → i ∈ L.ids → Dp L.a n i → tw i ∈ T.ids → T.a.re (tw i) = nilRec →
    (∀ j, j ∉ T.ids → T.a.re j = nilRec ∧ (j.2 ≠ [] → T.a.att j = true)) → (∀ k ∈ pre L.a n i, k ≠ i → tw k ∉ T.ids) → n + 2 ≤ M →
    ∃ T' h', C3 (callN fu M 25 [.ref (L.A i 0), .ref (T.A (tw i) 0)] h = .ok .none h') (Stp true T h T' h') (Pl L T (pre L.a n i) T') := by
  intro n
  induction n with
  | zero => intro T h i M _ _ d; exact d.elim
  | succ n ih =>
    intro T h i M tt hi d ht hr hu hfr hM
    obtain ⟨N, rfl, hN⟩ := fuN (c := n + 2) (by omega)
    have hFU : ML < fu := Nat.lt_of_lt_of_le (by decide) hf
    rw [callN_eq (k := 2) (b := b_law_plant) (hk := rfl) (hb := rfl) (hl := rfl)]
    have r1 := (lb i).1.len; have r2 := (lb i).2.1.len; have r3 := (lb i).2.2.len
    obtain ⟨ha, ea, sa⟩ := ext_step tt hi ht (p := 1) (by decide) (by decide) (by show (T.a.re (tw i)).r.length + (L.a.re i).r.length ≤ ML; rw [hr, Nat.add_comm]; exact Nat.le_of_lt (Nat.lt_of_le_of_lt r1 hK))
    have eqa : T.a.lb (tw i) 1 (lab T (tw i) 1 ++ lab L i 1) = T.a.put (tw i) ⟨(L.a.re i).r, [], [], []⟩ := by
      show T.a.put (tw i) ⟨(T.a.re (tw i)).r ++ (L.a.re i).r, (T.a.re (tw i)).n, (T.a.re (tw i)).b, (T.a.re (tw i)).kids⟩ = _
      rw [hr]; rfl
    rw [eqa] at sa
    have wa := tt.right sa
    obtain ⟨hb, eb, sb⟩ := ext_step wa.two hi (j := tw i) ht (p := 2) (by decide) (by decide) (by rw [lab2_put, Nat.add_comm]; exact Nat.le_of_lt (Nat.lt_of_le_of_lt r2 hK))
    rw [lb2_put, lab2_put] at sb
    have sb : Stp true (T.on (T.a.put (tw i) ⟨(L.a.re i).r, [], [], []⟩)) ha (T.on (T.a.put (tw i) ⟨(L.a.re i).r, (L.a.re i).n, [], []⟩)) hb := sb
    have wb := wa.two.right sb
    obtain ⟨hc, ec, sc⟩ := ext_step wb.two hi (j := tw i) ht (p := 3) (by decide) (by decide) (by rw [lab3_put, Nat.add_comm]; exact Nat.le_of_lt (Nat.lt_of_le_of_lt r3 hK))
    rw [lb3_put, lab3_put] at sc
    have sc : Stp true (T.on (T.a.put (tw i) ⟨(L.a.re i).r, (L.a.re i).n, [], []⟩)) hb (T.on (T.a.put (tw i) ⟨(L.a.re i).r, (L.a.re i).n, (L.a.re i).b, []⟩)) hc := sc
    have sabc := (sa.trans sb).trans sc
    have w0 := tt.right sabc
    have tag : ∀ k ∈ pre L.a (n + 1) i, k.1 = i.1 := fun k hk => (pre_suf t (n + 1) i hi k hk).1
    have nod := pre_nodup t (n + 1) i hi
    have loop : ∀ (cs dn : List Id) (T1 : Sd) (h1 : H) (l : Loc), (L.a.re i).kids = dn ++ cs → Two L T1 h1 → Stp true T h T1 h1 → T1.a.re (tw i) = ⟨(L.a.re i).r, (L.a.re i).n, (L.a.re i).b, dn.map tw⟩ → (∀ k ∈ dn.flatMap (pre L.a n), T1.a.re (tw k) = twR (L.a.re k)) →
        (∀ j, j ≠ tw i → (∀ k ∈ dn.flatMap (pre L.a n), j ≠ tw k) → T1.a.re j = T.a.re j) → (∀ j, j ∈ T1.ids ↔ j ∈ T.ids ∨ ∃ k ∈ dn.flatMap (pre L.a n), j = tw k) → T1.a.att = T.a.att → l 1 = some (.ref (T.A (tw i) 0)) → ∀ g, cs.length < g →
        ∃ l' h2 T2, C3 (forN 2 (L.A i 4) (evSs ⟨fu, callN fu N⟩ plBody) g dn.length l h1 = .nxt l' h2) (Stp true T h T2 h2) (Pl L T (pre L.a (n + 1) i) T2) := by
      intro cs
      induction cs with
      | nil =>
        intro dn T1 h1 l ek w s ri re ot ids att l1 g hg
        obtain ⟨g', rfl, _⟩ := fuN (c := 0) (N := g) hg
        have ek' : dn = (L.a.re i).kids := by simpa using ek.symm
        refine ⟨l, h1, T1, for_end (w.l.kids hi) (by simp [ek]), s, ?_, ?_, ?_, att⟩
        · intro k hk
          rcases List.mem_cons.1 hk with rfl | hk
          · rw [ri, ek']; rfl
          · exact re k (by rw [ek']; exact hk)
        · intro j hj
          exact ot j (hj i List.mem_cons_self) fun k hk => hj k (List.mem_cons_of_mem _ (by rw [← ek']; exact hk))
        · intro j
          rw [ids j]; dsimp only [pre]; rw [ek']
          constructor
          · rintro (x | ⟨k, hk, x⟩)
            · exact .inl x
            · exact .inr ⟨k, List.mem_cons_of_mem _ hk, x⟩
          · rintro (x | ⟨k, hk, x⟩)
            · exact .inl x
            · rcases List.mem_cons.1 hk with rfl | hk
              · exact .inl (by rw [x]; exact ht)
              · exact .inr ⟨k, hk, x⟩
      | cons c cs ihc =>
        intro dn T1 h1 l ek w s ri re ot ids att l1 g hg
        obtain ⟨g', rfl, hg'⟩ := fuN (c := cs.length + 1) (N := g) hg
        have hck : c ∈ (L.a.re i).kids := by rw [ek]; simp
        have tk := t.kd i hi c hck
        have dc := d c hck
        have ep : pre L.a (n + 1) i = i :: (dn.flatMap (pre L.a n) ++ (pre L.a n c ++ cs.flatMap (pre L.a n))) := by dsimp only [pre]; rw [ek]; simp
        rw [ep, List.nodup_cons, List.nodup_append] at nod
        obtain ⟨ni, _, _, dis⟩ := nod
        have inP1 : ∀ k ∈ dn.flatMap (pre L.a n), k ∈ pre L.a (n + 1) i := fun k hk => by rw [ep]; simp [hk]
        have inP2 : ∀ k ∈ pre L.a n c, k ∈ pre L.a (n + 1) i := fun k hk => by rw [ep]; simp [hk]
        have nI1 : ∀ k ∈ dn.flatMap (pre L.a n), k ≠ i := fun k hk e => ni (by rw [← e]; simp [hk])
        have nI2 : ∀ k ∈ pre L.a n c, k ≠ i := fun k hk e => ni (by rw [← e]; simp [hk])
        have hiP : i ∈ pre L.a (n + 1) i := by rw [ep]; exact List.mem_cons_self
        have twne : ∀ k k', k ∈ pre L.a (n + 1) i → k' ∈ pre L.a (n + 1) i → k ≠ k' → tw k ≠ tw k' := fun k k' a b ne e => ne (tw_inj ((tag k a).trans (tag k' b).symm) e)
        have nT : ∀ k ∈ pre L.a n c, tw k ∉ T1.ids := by
          intro k hk hm
          rcases (ids _).1 hm with x | ⟨k', hk', x⟩
          · exact hfr k (inP2 k hk) (nI2 k hk) x
          · exact twne k k' (inP2 k hk) (inP1 k' hk') (fun e => dis k' hk' k (by simp [hk]) e.symm) x
        have htT : tw i ∈ T1.ids := (ids _).2 (.inl ht)
        have hcc := pre_pos dc
        have uT : ∀ j, j ∉ T1.ids → T1.a.re j = nilRec ∧ (j.2 ≠ [] → T1.a.att j = true) := by
          intro j hj
          have h1 : j ∉ T.ids := fun x => hj ((ids j).2 (.inl x))
          have h2 := ot j (fun x => hj (x ▸ htT)) (fun k hk x => hj ((ids j).2 (.inr ⟨k, hk, x⟩)))
          rw [h2, att]; exact hu j h1
        have hcn : c.2 ≠ [] := tk.2.2.1
        have kl := t.kl hi
        have fr : Fresh T1 (tw i) (tw c) := ⟨htT, nT c hcc, by
            have : up c = i := tk.2.2.2
            show ((2, c.2.tail) : Id) = (2, i.2)
            rw [← this]; rfl, hcn, (uT _ (nT c hcc)).1, (uT _ (nT c hcc)).2 hcn, by
            rw [ri]; rw [ek] at kl; simp at kl ⊢; lia⟩
        obtain ⟨T2, h2, e2, nw⟩ := add_variation_ok w.n fr fu (N := N) (by lia)
        rw [mv_tw, s.sA (tw i) ht] at e2
        have w2 := w.right nw.stp
        have tci : tw c ≠ tw i := twne c i (inP2 c hcc) hiP (nI2 c hcc)
        have re2 : ∀ j, j ≠ tw i → T2.a.re j = T1.a.re j := fun j hj => by rw [nw.a, way_re, if_neg hj]
        have re2i : T2.a.re (tw i) = ⟨(L.a.re i).r, (L.a.re i).n, (L.a.re i).b, (dn ++ [c]).map tw⟩ := by rw [nw.a, way_re, if_pos rfl, ri]; simp
        have att2 : T2.a.att = T1.a.att := by rw [nw.a]; rfl
        obtain ⟨T3, h3, e3, s3, p3⟩ := ih T2 h2 c N w2.two tk.1 dc (by rw [nw.ids]; exact List.mem_cons_self) (by rw [re2 _ tci]; exact fr.re) (by
            intro j hj
            rw [nw.ids] at hj
            have hj1 : j ∉ T1.ids := fun x => hj (List.mem_cons_of_mem _ x)
            rw [re2 j (fun x => hj1 (x ▸ htT)), att2]; exact uT j hj1) (by
            intro k hk ne
            rw [nw.ids]
            intro hm
            rcases List.mem_cons.1 hm with x | x
            · exact twne k c (inP2 k hk) (inP2 c hcc) ne x
            · exact nT k hk x) (by lia)
        have w3 := w2.two.right s3
        have bd : evSs ⟨fu, callN fu N⟩ plBody (l.set 2 (.ref (L.A c 0))) h1 = .nxt (l.set 2 (.ref (L.A c 0))) h3 := by
          have im := w.l.imove tk.1
          exact ss_nxt (s_expr (x_call (x_args (x_var (l := l.set 2 (.ref (L.A c 0))) rfl) (x_args1 (x_call (x_args (x_var (l := l.set 2 (.ref (L.A c 0))) l1) (x_args (x_idx (x_var rfl) rfl im) (x_args1 rfl))) e2))) e3))
        rw [for_nxt (w.l.kids hi) (v := .ref (L.A c 0)) (by rw [ek]; simp) bd]
        have := ihc (dn ++ [c]) T3 h3 (l.set 2 (.ref (L.A c 0))) (by rw [ek]; simp) w3.two ((s.trans nw.stp).trans s3)
          (by rw [p3.ot _ (fun k hk => twne i k hiP (inP2 k hk) (nI2 k hk).symm), re2i])
          (by
            intro k hk
            simp only [List.flatMap_append, List.mem_append, List.flatMap_cons, List.flatMap_nil, List.append_nil] at hk
            rcases hk with hk | hk
            · rw [p3.ot _ (fun k' hk' => twne k k' (inP1 k hk) (inP2 k' hk') (dis k hk k' (by simp [hk']))), re2 _ (twne k i (inP1 k hk) hiP (nI1 k hk))]
              exact re k hk
            · exact p3.re k hk)
          (by
            intro j hj hk
            simp only [List.flatMap_append, List.mem_append, List.flatMap_cons, List.flatMap_nil, List.append_nil] at hk
            rw [p3.ot j (fun k x => hk k (.inr x)), re2 j hj]
            exact ot j hj fun k x => hk k (.inl x))
          (by
            intro j
            rw [p3.ids j, nw.ids]
            simp only [List.flatMap_append, List.mem_append, List.flatMap_cons, List.flatMap_nil, List.append_nil, List.mem_cons, ids j]
            constructor
            · rintro ((rfl | x | ⟨k, hk, x⟩) | ⟨k, hk, x⟩)
              · exact .inr ⟨c, .inr hcc, rfl⟩
              · exact .inl x
              · exact .inr ⟨k, .inl hk, x⟩
              · exact .inr ⟨k, .inr hk, x⟩
            · rintro (x | ⟨k, hk | hk, x⟩)
              · exact .inl (.inr (.inl x))
              · exact .inl (.inr (.inr ⟨k, hk, x⟩))
              · exact .inr ⟨k, hk, x⟩)
          (by rw [p3.att, att2, att]) l1 g' (by lia)
        simpa using this
    have kl := t.kl hi
    obtain ⟨l', h2, T2, e2, s2, p2⟩ := loop (L.a.re i).kids [] (T.on (T.a.put (tw i) ⟨(L.a.re i).r, (L.a.re i).n, (L.a.re i).b, []⟩)) hc (params [.ref (L.A i 0), .ref (T.A (tw i) 0)]) rfl w0.two sabc
      (by simp [Sd.on, put_re]) (fun k hk => by cases hk) (fun j hj _ => by simp [Sd.on, put_re, hj]) (fun j => by simp [Sd.on]) rfl rfl fu (by lia)
    refine ⟨T2, h2, ?_, s2, p2⟩
    have i1 := tt.l.ilab hi (p := 1) (by lia) (by lia)
    have i2 := wa.two.l.ilab hi (p := 2) (by lia) (by lia)
    have i3 := wb.two.l.ilab hi (p := 3) (by lia) (by lia)
    have a1 := tt.n.arem ht
    have a2 : attrV ha .nags (.ref (T.A (tw i) 0)) = .ok (.ref (T.A (tw i) 2)) ha := wa.two.n.anag (i := tw i) ht
    have a3 : attrV hb .before (.ref (T.A (tw i) 0)) = .ok (.ref (T.A (tw i) 3)) hb := wb.two.n.abef (i := tw i) ht
    have is1 := tt.n.isL ht (p := 1) (by lia) (by lia)
    have is2 : isLst ha (.ref (T.A (tw i) 2)) = true := wa.two.n.isL (i := tw i) ht (p := 2) (by lia) (by lia)
    have is3 : isLst hb (.ref (T.A (tw i) 3)) = true := wb.two.n.isL (i := tw i) ht (p := 3) (by lia) (by lia)
    have eb' : extendV ha (.ref (T.A (tw i) 2)) (.ref (L.A i 2)) = .ok .none hb := eb
    have ec' : extendV hb (.ref (T.A (tw i) 3)) (.ref (L.A i 3)) = .ok .none hc := ec
    have ik := w0.two.l.ikids hi
    have i1' : idxV h (.ref (L.A i 0)) (.int 1) = .ok (.ref (L.A i 1)) h := i1
    have i2' : idxV ha (.ref (L.A i 0)) (.int 2) = .ok (.ref (L.A i 2)) ha := i2
    have i3' : idxV hb (.ref (L.A i 0)) (.int 3) = .ok (.ref (L.A i 3)) hb := i3
    let l0 : Loc := params [.ref (L.A i 0), .ref (T.A (tw i) 0)]
    rw [b_law_plant]
    rw [ss_nxt (l' := l0) (h' := ha) (s_expr (x_ext (x_attr (x_var rfl) a1) is1 (x_idx (x_var rfl) rfl i1') ea))]
    rw [ss_nxt (l' := l0) (h' := hb) (s_expr (x_ext (x_attr (x_var rfl) a2) is2 (x_idx (x_var rfl) rfl i2') eb'))]
    rw [ss_nxt (l' := l0) (h' := hc) (s_expr (x_ext (x_attr (x_var rfl) a3) is3 (x_idx (x_var rfl) rfl i3') ec'))]
    have e5 : evS ⟨fu, callN fu N⟩ (.forL 2 (.idx (.var 0) (.int 4)) plBody) l0 hc = .nxt l' h2 := by
      exact (s_forL (x_idx (x_var rfl) rfl ik)).trans e2
    unfold plBody at e5
    rw [ss_nxt e5]; rfl
/-! what same_tree says -/
theorem sameT_tw {a b : Ab} : ∀ (n : Nat) (i : Id), Dp a n i → (∀ k ∈ pre a n i, b.re (tw k) = twR (a.re k)) → sameT a b n i (tw i) = true ∧ pre b n (tw i) = (pre a n i).map tw
  | 0, _, d, _ => d.elim
  | n + 1, i, d, h => by
    have hi := h i (pre_pos (n := n + 1) d)
    have kids : ∀ k ∈ (a.re i).kids, sameT a b n k (tw k) = true ∧ pre b n (tw k) = (pre a n k).map tw := fun k hk =>
      sameT_tw n k (d k hk) fun j hj => h j (List.mem_cons_of_mem _ (List.mem_flatMap.2 ⟨k, hk, hj⟩))
    constructor
    · dsimp only [sameT]
      have s1 : same1 a b i (tw i) = true := by simp [same1, hi, twR, mv_tw]
      rw [s1, Bool.true_and, hi, List.all_eq_true]
      intro p hp
      have : ∀ (ks : List Id), (∀ k ∈ ks, sameT a b n k (tw k) = true) → ∀ p ∈ ks.zip (ks.map tw), sameT a b n p.1 p.2 = true := by
        intro ks
        induction ks with
        | nil => intro _ p hp; cases hp
        | cons k ks ih =>
          intro hk p hp
          rcases List.mem_cons.1 hp with rfl | hp
          · exact hk k List.mem_cons_self
          · exact ih (fun q hq => hk q (List.mem_cons_of_mem _ hq)) p hp
      exact this (a.re i).kids (fun k hk => (kids k hk).1) p hp
    · dsimp only [pre]; rw [hi]
      simp only [twR, List.map_cons, List.flatMap_map, List.map_flatMap]
      congr 1
      have : ∀ ks : List Id, (∀ k ∈ ks, pre b n (tw k) = (pre a n k).map tw) → (ks.flatMap fun k => pre b n (tw k)) = ks.flatMap fun k => (pre a n k).map tw := by
        intro ks
        induction ks with
        | nil => intro _; rfl
        | cons k ks ih => intro hk; simp only [List.flatMap_cons, hk k List.mem_cons_self, ih fun q hq => hk q (List.mem_cons_of_mem _ hq)]
      exact this _ fun k hk => (kids k hk).2
theorem sameT_nags {a b : Ab} : ∀ (n : Nat) (i j : Id), sameT a b n i j = true → (pre a n i).map (fun k => (a.re k).n) = (pre b n j).map (fun k => (b.re k).n)
  | 0, _, _, h => by cases h
  | n + 1, i, j, h => by
    dsimp only [sameT] at h; rw [Bool.and_eq_true, List.all_eq_true] at h
    obtain ⟨s1, al⟩ := h
    unfold same1 at s1
    simp only [Bool.and_eq_true, decide_eq_true_eq] at s1
    dsimp only [pre]; simp only [List.map_cons, List.map_flatMap]
    rw [s1.2.2.1]
    congr 1
    have : ∀ xs ys : List Id, xs.length = ys.length → (∀ p ∈ xs.zip ys, sameT a b n p.1 p.2 = true) → (xs.flatMap fun k => (pre a n k).map fun k => (a.re k).n) = ys.flatMap fun k => (pre b n k).map fun k => (b.re k).n := by
      intro xs
      induction xs with
      | nil => intro ys e _; cases ys with
        | nil => rfl
        | cons y ys => simp at e
      | cons x xs ih => intro ys e hp; cases ys with
        | nil => simp at e
        | cons y ys =>
          have h1 := sameT_nags n x y (hp (x, y) (by simp))
          have h2 := ih ys (by simpa using e) fun p hq => hp p (by simp [hq])
          simp only [List.flatMap_cons, h1, h2]
    exact this _ _ s1.2.2.2.2 al
end MineB
end

section
namespace MineB
open Mine
set_option linter.unusedSimpArgs false
set_option linter.unusedVariables false
structure Stq (S : Sd) (h : H) (S' : Sd) (h' : H) : Prop where
  ok : Ok true S' h'
  ids : S'.ids = S.ids
  self : ∀ i ∈ S.ids, S'.A i 0 = S.A i 0
  fr : ∀ x c, h[x]? = some c → Out S x → h'[x]? = some c ∧ Out S' x
theorem Stq.trans {S h S' h' S'' h''} (s : Stq S h S' h') (t : Stq S' h' S'' h'') : Stq S h S'' h'' :=
  ⟨t.ok, t.ids.trans s.ids, fun i hi => (t.self i (by rw [s.ids]; exact hi)).trans (s.self i hi), fun x c e o => by obtain ⟨a, b⟩ := s.fr x c e o; exact t.fr x c a b⟩
theorem Ok.stq {S h h'} (o : Ok true S h) (e : Ext h h') : Stq S h S h' := ⟨o.ext e, rfl, fun _ _ => rfl, fun x c g o => ⟨e _ _ g, o⟩⟩
noncomputable def fldOf : Nat → Fld
  | 1 => .remarks
  | 2 => .nags
  | 3 => .before
  | _ => .variations
noncomputable def Sd.fld (S : Sd) (i : Id) (p x : Nat) (a : Ab) : Sd := ⟨a, S.ids, fun j q => if j = i ∧ q = p then x else S.A j q⟩
theorem fld_gen {S : Sd} {h : H} {i : Id} {p : Nat} {a : Ab} {A' : Id → Nat → Nat} (o : Ok true S h) (hi : i ∈ S.ids) (hp : p < 5) (h1 : 1 ≤ p) (A0 : ∀ j, A' j 0 = S.A j 0) (Aq : ∀ j q, ¬ (j = i ∧ q = p) → A' j q = S.A j q) (Ap : A' i p = h.length)
    (hat : a.att = S.a.att) (hk : ∀ j ∈ S.ids, ∀ k ∈ (a.re j).kids, k ∈ S.ids) {c d : Cell} (hd : d = cell true ⟨a, S.ids, A'⟩ i 0) (hc : c = cell true ⟨a, S.ids, A'⟩ i p)
    (hcell : ∀ j ∈ S.ids, ∀ q < 5, ¬ (j = i ∧ q = p) → ¬ (j = i ∧ q = 0) → cell true ⟨a, S.ids, A'⟩ j q = cell true S j q) : Stq S h ⟨a, S.ids, A'⟩ ((h ++ [c]).set (S.A i 0) d) := by
  have g0' := Ext.app h [c] _ _ (o.c i hi 0 (by decide))
  have l0 := lt_of_get (o.c i hi 0 (by decide))
  refine ⟨⟨fun j hj q h5 => ?_, fun j hj k hk q hq q' hq' e => ?_, hk, fun j hj g => o.pu j hj (by rw [← hat]; exact g)⟩, rfl, fun j _ => A0 j, fun x d e ho => ⟨?_, fun j hj q hq => ?_⟩⟩
  · show ((h ++ [c]).set (S.A i 0) d)[A' j q]? = _
    by_cases e0 : j = i ∧ q = 0
    · obtain ⟨rfl, rfl⟩ := e0
      rw [A0, get_set_self g0', hd]
    · by_cases ej : j = i ∧ q = p
      · obtain ⟨rfl, rfl⟩ := ej
        rw [Ap, List.getElem?_set_ne (Nat.ne_of_lt l0), get_app_len, hc]
      · rw [Aq j q ej, List.getElem?_set_ne (fun e => e0 (by have := o.inj i hi j hj 0 (by decide) q h5 e; exact ⟨this.1.symm, this.2.symm⟩)), Ext.app h [c] _ _ (o.c j hj q h5), hcell j hj q h5 ej e0]
  · change A' j q = A' k q' at e
    by_cases e1 : j = i ∧ q = p
    · by_cases e2 : k = i ∧ q' = p
      · exact ⟨e1.1.trans e2.1.symm, e1.2.trans e2.2.symm⟩
      · rw [e1.1, e1.2, Ap, Aq _ _ e2] at e
        exact absurd (lt_of_get (o.c k hk q' hq')) (by rw [← e]; exact Nat.lt_irrefl _)
    · by_cases e2 : k = i ∧ q' = p
      · rw [e2.1, e2.2, Ap, Aq _ _ e1] at e
        exact absurd (lt_of_get (o.c j hj q hq)) (by rw [e]; exact Nat.lt_irrefl _)
      · rw [Aq _ _ e1, Aq _ _ e2] at e
        exact o.inj j hj k hk q hq q' hq' e
  · rw [List.getElem?_set_ne (ho i hi 0 (by decide))]; exact Ext.app h [c] _ _ e
  · show A' j q ≠ x
    by_cases ej : j = i ∧ q = p
    · rw [ej.1, ej.2, Ap]; exact Ne.symm (Nat.ne_of_lt (lt_of_get e))
    · rw [Aq j q ej]; exact ho j hj q hq
theorem setAttr_ok {h : H} {a : Nat} {fs : List (Fld × V)} {f : Fld} {v : V} (e : h[a]? = some (.node fs)) (k : fs.length ≤ 20) : setAttrV h f v (.ref a) = .ok .none (h.set a (.node (putF f v fs))) := by
  dsimp only [setAttrV]; rw [e]; exact if_pos k
noncomputable def nodeOf (m p : V) (a b c d : Nat) : Cell := .node [(.move, m), (.parent, p), (.word, .str), (.place, .int (-1)), (.variations, .ref a), (.remarks, .ref b), (.nags, .ref c), (.before, .ref d)]
theorem p1234 {p : Nat} (h1 : 1 ≤ p) (h4 : p ≤ 4) : p = 1 ∨ p = 2 ∨ p = 3 ∨ p = 4 := by lia
theorem put_cell {nd : Bool} {S : Sd} {i : Id} {r : Rec} (q : Nat) : cell nd (S.on (S.a.put i r)) i q = cell nd (S.on ⟨fun _ => r, S.a.att⟩) i q := cell_re (S := S.on ⟨fun _ => r, S.a.att⟩) re_self rfl q
theorem fld_step {S : Sd} {h : H} {i : Id} {p : Nat} {r : Rec} (o : Ok true S h) (hi : i ∈ S.ids) (h1 : 1 ≤ p) (h4 : p ≤ 4) (hqc : ∀ q < 5, q ≠ 0 → q ≠ p → cell true (S.on ⟨fun _ => r, S.a.att⟩) i q = cell true S i q) (hk : ∀ k ∈ r.kids, k ∈ S.ids)
    {c : Cell} (hc : c = cell true (S.on ⟨fun _ => r, S.a.att⟩) i p) :
    ∃ h', setAttrV (h ++ [c]) (fldOf p) (.ref h.length) (.ref (S.A i 0)) = .ok .none h' ∧ Stq S h (S.fld i p h.length (S.a.put i r)) h' := by
  have A0 : ∀ j, (S.fld i p h.length (S.a.put i r)).A j 0 = S.A j 0 := fun j => if_neg fun g => by rw [← g.2] at h1; exact absurd h1 (by decide)
  have Ai : ∀ q, (S.fld i p h.length (S.a.put i r)).A i q = if q = p then h.length else S.A i q := fun q => by
    show (if i = i ∧ q = p then _ else _) = _
    by_cases e : q = p
    · rw [if_pos ⟨rfl, e⟩, if_pos e]
    · rw [if_neg (fun g => e g.2), if_neg e]
  have rf : ∀ ks, refs (S.fld i p h.length (S.a.put i r)).A ks = refs S.A ks := fun ks => congrArg (fun f => Cell.lst (ks.map f)) (funext fun k => by rw [A0])
  have cells : ∀ j, ∀ q < 5, q ≠ 0 → cell true (S.fld i p h.length (S.a.put i r)) j q = cell true (S.on (S.a.put i r)) j q := fun j => all5 (fun g => (g rfl).elim) (fun _ => rfl) (fun _ => rfl) (fun _ => rfl) (fun _ => rf _)
  have e0 : cell true (S.fld i p h.length (S.a.put i r)) i 0 = nodeOf (.int (mv i)) (if S.a.att i = true then .ref (S.A (up i) 0) else .none) ((S.fld i p h.length (S.a.put i r)).A i 4) ((S.fld i p h.length (S.a.put i r)).A i 1) ((S.fld i p h.length (S.a.put i r)).A i 2) ((S.fld i p h.length (S.a.put i r)).A i 3) := by
    show nodeOf _ (if S.a.att i = true then .ref ((S.fld i p h.length (S.a.put i r)).A (up i) 0) else .none) _ _ _ _ = _
    rw [A0]
  refine ⟨_, setAttr_ok (Ext.app h [c] _ _ (o.c i hi 0 (by decide))) (Nat.le_of_ble_eq_true rfl), ?_⟩
  refine fld_gen (a := S.a.put i r) o hi (Nat.lt_succ_of_le h4) h1 A0 (fun j q g => if_neg g) (if_pos ⟨rfl, rfl⟩) rfl (fun j hj k hk' => ?_) ?_ ?_ fun j hj q hq n1 n2 => ?_
  · by_cases e : j = i
    · rw [e, re_self] at hk'; exact hk k hk'
    · rw [re_ne e] at hk'; exact o.cl j hj k hk'
  · refine Eq.trans ?_ e0.symm
    rw [Ai, Ai, Ai, Ai]
    rcases p1234 h1 h4 with rfl | rfl | rfl | rfl <;> rfl
  · refine hc.trans ((put_cell p).symm.trans (cells i p (Nat.lt_succ_of_le h4) (fun g => ?_)).symm)
    rw [g] at h1; exact absurd h1 (by decide)
  · by_cases ej : j = i
    · have q0 : q ≠ 0 := fun g => n2 ⟨ej, g⟩
      rw [ej]
      exact (cells i q hq q0).trans ((put_cell q).trans (hqc q hq q0 fun g => n1 ⟨ej, g⟩))
    · by_cases q0 : q = 0
      · have Aj : (S.fld i p h.length (S.a.put i r)).A j = S.A j := funext fun q => if_neg fun g => ej g.1
        rw [q0]
        show nodeOf (.int (mv j)) (if S.a.att j = true then .ref ((S.fld i p h.length (S.a.put i r)).A (up j) 0) else .none) ((S.fld i p h.length (S.a.put i r)).A j 4) ((S.fld i p h.length (S.a.put i r)).A j 1) ((S.fld i p h.length (S.a.put i r)).A j 2) ((S.fld i p h.length (S.a.put i r)).A j 3) = _
        rw [A0, Aj]; rfl
      · exact (cells j q hq q0).trans (cell_re (re_ne ej) rfl q)
noncomputable def clr (a : Ab) (i : Id) : Ab := a.put i ⟨[], [], [], (a.re i).kids⟩
/-- one label list made new -/
theorem lab_new {S : Sd} {h : H} {i : Id} {p : Nat} (o : Ok true S h) (hi : i ∈ S.ids) (h1 : 1 ≤ p) (h3 : p ≤ 3) :
    ∃ S' h', C3 (setAttrV (h ++ [.lst []]) (fldOf p) (.ref h.length) (.ref (S.A i 0)) = .ok .none h') (Stq S h S' h') (S'.a = S.a.lb i p []) := by
  revert h3 h1
  generalize p = p
  revert p
  refine all3 ?_ ?_ ?_
  · obtain ⟨h', e, s⟩ := fld_step (p := 1) (r := ⟨[], (S.a.re i).n, (S.a.re i).b, (S.a.re i).kids⟩) (c := .lst []) o hi (by decide) (by decide) (all5 (fun e => (e rfl).elim) (fun _ e => (e rfl).elim) (fun _ _ => rfl) (fun _ _ => rfl) fun _ _ => rfl) (o.cl i hi) rfl
    exact ⟨_, h', e, s, rfl⟩
  · obtain ⟨h', e, s⟩ := fld_step (p := 2) (r := ⟨(S.a.re i).r, [], (S.a.re i).b, (S.a.re i).kids⟩) (c := .lst []) o hi (by decide) (by decide) (all5 (fun e => (e rfl).elim) (fun _ _ => rfl) (fun _ e => (e rfl).elim) (fun _ _ => rfl) fun _ _ => rfl) (o.cl i hi) rfl
    exact ⟨_, h', e, s, rfl⟩
  · obtain ⟨h', e, s⟩ := fld_step (p := 3) (r := ⟨(S.a.re i).r, (S.a.re i).n, [], (S.a.re i).kids⟩) (c := .lst []) o hi (by decide) (by decide) (all5 (fun e => (e rfl).elim) (fun _ _ => rfl) (fun _ _ => rfl) (fun _ e => (e rfl).elim) fun _ _ => rfl) (o.cl i hi) rfl
    exact ⟨_, h', e, s, rfl⟩
theorem lb1_ab {a : Ab} {m : Id} {ys : List Int} : a.lb m 1 ys = a.put m ⟨ys, (a.re m).n, (a.re m).b, (a.re m).kids⟩ := rfl
theorem put_lb2 {a : Ab} {m : Id} {r : Rec} {ys : List Int} : (a.put m r).lb m 2 ys = a.put m ⟨r.r, ys, r.b, r.kids⟩ := lb2_put (S := ⟨a, [], fun _ _ => 0⟩)
theorem put_lb3 {a : Ab} {m : Id} {r : Rec} {ys : List Int} : (a.put m r).lb m 3 ys = a.put m ⟨r.r, r.n, ys, r.kids⟩ := lb3_put (S := ⟨a, [], fun _ _ => 0⟩)
noncomputable def srBody : Ss := .cons (.setAttr (.var 1) .remarks (.lst .nil)) (.cons (.setAttr (.var 1) .before (.lst .nil)) (.cons (.setAttr (.var 1) .nags (.lst .nil)) .nil))
theorem strip_remarks_ok {S : Sd} {h : H} {i : Id} (o : Ok true S h) (t : Tr S.a S.ids) (hz : S.ids.length ≤ ML) (hi : i ∈ S.ids) {m : Nat} (d : Dp S.a m i) {fu : Nat} (hf : FU ≤ fu) {N : Nat} (hN : 2 ≤ N) :
    ∃ S' h', C3 (callN fu N 18 [.ref (S.A i 0)] h = .ok .none h') (Stq S h S' h') (S'.a = (pre S.a m i).foldl clr S.a) := by
  obtain ⟨n, rfl, hn⟩ := fuN hN
  have hFU : ML + 100 ≤ fu := Nat.le_trans (by decide) hf
  rw [callN_eq (k := 1) (b := b_strip_remarks) (hk := rfl) (hb := rfl) (hl := rfl)]
  obtain ⟨out, h1, e1, x1, ho, ho'⟩ := walk_ok o t hz hi d hf (N := n) hn
  have pl := pre_len t m i hi
  have s1 := o.stq x1
  have oo : Out S out := out_len o ho'
  have loop : ∀ (js dn : List Id) (S1 : Sd) (h2 : H) (l : Loc), pre S.a m i = dn ++ js → Stq S h1 S1 h2 → ∀ g, js.length < g →
      ∃ l' S2 h3, C3 (forN 1 out (evSs ⟨fu, callN fu n⟩ srBody) g dn.length l h2 = .nxt l' h3) (Stq S h1 S2 h3) (S2.a = js.foldl clr S1.a) := by
    intro js
    induction js with
    | nil =>
      intro dn S1 h2 l ej s g hg
      obtain ⟨g', rfl, _⟩ := fuN (c := 0) (N := g) hg
      exact ⟨l, S1, h2, for_end (s.fr _ _ ho oo).1 (by simp [ej, rf]), s, rfl⟩
    | cons j js ih =>
      intro dn S1 h2 l ej s g hg
      obtain ⟨g', rfl, hg'⟩ := fuN (c := js.length + 1) (N := g) hg
      have hj : j ∈ S.ids := pre_ids t m i hi j (by rw [ej]; simp)
      have hj1 : j ∈ S1.ids := by rw [s.ids]; exact hj
      obtain ⟨Sa, ha, ea, sa, aa⟩ := lab_new s.ok hj1 (p := 1) (by lia) (by lia)
      obtain ⟨Sb, hb, eb, sb, ab⟩ := lab_new sa.ok (i := j) (by rw [sa.ids]; exact hj1) (p := 3) (by lia) (by lia)
      obtain ⟨Sc, hc, ec, sc, ac⟩ := lab_new sb.ok (i := j) (by rw [sb.ids, sa.ids]; exact hj1) (p := 2) (by lia) (by lia)
      have A1 := s.self j hj
      have A2 := sa.self j hj1
      have A3 := sb.self j (by rw [sa.ids]; exact hj1)
      rw [A1] at ea
      rw [A2, A1] at eb
      rw [A3, A2, A1] at ec
      have bd : evSs ⟨fu, callN fu n⟩ srBody (l.set 1 (.ref (S.A j 0))) h2 = .nxt (l.set 1 (.ref (S.A j 0))) hc := by
        have ea' : setAttrV (h2 ++ [.lst []]) .remarks (.ref h2.length) (.ref (S.A j 0)) = .ok .none ha := ea
        have eb' : setAttrV (ha ++ [.lst []]) .before (.ref ha.length) (.ref (S.A j 0)) = .ok .none hb := eb
        have ec' : setAttrV (hb ++ [.lst []]) .nags (.ref hb.length) (.ref (S.A j 0)) = .ok .none hc := ec
        exact (ss_nxt (sa_ok (x_lst rfl) (x_var (l := l.set 1 (.ref (S.A j 0))) rfl) ea')).trans ((ss_nxt (sa_ok (x_lst rfl) (x_var rfl) eb')).trans (ss_nxt (sa_ok (x_lst rfl) (x_var rfl) ec')))
      rw [for_nxt (s.fr _ _ ho oo).1 (v := .ref (S.A j 0)) (by rw [ej]; simp [rf]) bd]
      have ae : Sc.a = clr S1.a j := by
        rw [ac, ab, aa]
        rw [lb1_ab, put_lb3, put_lb2]; rfl
      obtain ⟨l', S2, h3, e3, s3, a3⟩ := ih (dn ++ [j]) Sc hc (l.set 1 (.ref (S.A j 0))) (by rw [ej]; simp) (((s.trans sa).trans sb).trans sc) g' (by lia)
      exact ⟨l', S2, h3, by simpa using e3, s3, by rw [a3, ae]; rfl⟩
  obtain ⟨l', S2, h3, e3, s3, a3⟩ := loop (pre S.a m i) [] S h1 (params [.ref (S.A i 0)]) rfl ((o.ext x1).stq (Ext.refl _)) fu (by lia)
  refine ⟨S2, h3, ?_, s1.trans s3, a3⟩
  have c1 : evE ⟨fu, callN fu n⟩ (.call 10 (.cons (.var 0) .nil)) (params [.ref (S.A i 0)]) h = .ok (.ref out) h1 := by simp [e1]
  have e5 : evS ⟨fu, callN fu n⟩ (.forL 1 (.call 10 (.cons (.var 0) .nil)) srBody) (params [.ref (S.A i 0)]) h = .nxt l' h3 := (s_forL c1).trans e3
  unfold srBody at e5
  rw [b_strip_remarks, ss_nxt e5]; rfl
theorem clr_kids (js : List Id) : ∀ (a : Ab) (j : Id), ((js.foldl clr a).re j).kids = (a.re j).kids := by
  induction js with
  | nil => intro a j; rfl
  | cons i js ih =>
    intro a j
    rw [List.foldl_cons, ih]
    unfold clr; rw [put_re]; split
    · subst j; rfl
    · rfl
theorem clr_re (js : List Id) : ∀ (a : Ab) (j : Id), (a.re j = ⟨[], [], [], (a.re j).kids⟩ ∨ j ∈ js) → (js.foldl clr a).re j = ⟨[], [], [], (a.re j).kids⟩ := by
  induction js with
  | nil => intro a j h; rcases h with h | h; exact h; cases h
  | cons i js ih =>
    intro a j h
    rw [List.foldl_cons]
    have e : ((clr a i).re j).kids = (a.re j).kids := clr_kids [i] a j
    rw [← e]
    apply ih
    by_cases g : j = i
    · subst g; left; unfold clr; rw [put_re]; simp
    · rcases h with h | h
      · left; unfold clr; rw [put_re, if_neg g]; exact h
      · right; rcases List.mem_cons.1 h with h | h
        · exact (g h).elim
        · exact h
theorem pre_kids {a b : Ab} (h : ∀ j, (b.re j).kids = (a.re j).kids) : ∀ n, pre b n = pre a n
  | 0 => rfl
  | n + 1 => by funext i; dsimp only [pre]; rw [h, pre_kids h n]
theorem mln_kids {a b : Ab} (h : ∀ j, (b.re j).kids = (a.re j).kids) : ∀ n i, mln b n i = mln a n i
  | 0, _ => rfl
  | n + 1, i => by
    dsimp only [mln]; rw [h]
    split
    · rfl
    · rw [mln_kids h n]
theorem Dp_kids {a b : Ab} (h : ∀ j, (b.re j).kids = (a.re j).kids) : ∀ n i, Dp a n i → Dp b n i
  | 0, _, d => d.elim
  | n + 1, i, d => fun k hk => Dp_kids h n k (d k (by rw [← h]; exact hk))
/-! the main line alone -/
theorem pre_put {a : Ab} {m : Id} {r : Rec} (k : KL a) : ∀ (n : Nat) (i : Id), lvl m < lvl i → pre (a.put m r) n i = pre a n i
  | 0, _, _ => rfl
  | n + 1, i, h => by
    have e : (a.put m r).re i = a.re i := by rw [put_re, if_neg (fun x => by rw [x] at h; lia)]
    dsimp only [pre]; rw [e]
    congr 1
    have : ∀ ks : List Id, (∀ c ∈ ks, pre (a.put m r) n c = pre a n c) → ks.flatMap (pre (a.put m r) n) = ks.flatMap (pre a n) := by
      intro ks
      induction ks with
      | nil => intro _; rfl
      | cons c ks ih => intro hc; simp only [List.flatMap_cons, hc c List.mem_cons_self, ih fun q hq => hc q (List.mem_cons_of_mem _ hq)]
    exact this _ fun c hc => pre_put k n c (by have := k i c hc; lia)
theorem mln_put {a : Ab} {m : Id} {r : Rec} (k : KL a) : ∀ (n : Nat) (i : Id), lvl m < lvl i → mln (a.put m r) n i = mln a n i
  | 0, _, _ => rfl
  | n + 1, i, h => by
    have e : (a.put m r).re i = a.re i := by rw [put_re, if_neg (fun x => by rw [x] at h; lia)]
    dsimp only [mln]; rw [e]
    split
    · rfl
    · rename_i c ks hk
      rw [mln_put k n c (by have := k i c (by rw [hk]; simp); lia)]
theorem Dp_put {a : Ab} {m : Id} {r : Rec} (k : KL a) : ∀ (n : Nat) (i : Id), lvl m < lvl i → Dp a n i → Dp (a.put m r) n i
  | 0, _, _, d => d.elim
  | n + 1, i, h, d => fun c hc => by
    have e : (a.put m r).re i = a.re i := by rw [put_re, if_neg (fun x => by rw [x] at h; lia)]
    rw [e] at hc
    exact Dp_put k n c (by have := k i c hc; lia) (d c hc)
noncomputable def Ch (a : Ab) : Id → List Int → Prop
  | i, [] => a.re i = nilRec
  | i, m :: ms => ∃ k, C3 (a.re i = ⟨[], [], [], [k]⟩) (mv k = m) (Ch a k ms)
theorem kids_new {S : Sd} {h : H} {i k : Id} {ks : List Id} (o : Ok true S h) (hi : i ∈ S.ids) (hk : (S.a.re i).kids = k :: ks) :
    ∃ S' h', C3 (setAttrV (h ++ [.lst [.ref (S.A k 0)]]) .variations (.ref h.length) (.ref (S.A i 0)) = .ok .none h') (Stq S h S' h') (S'.a = S.a.ks i [k]) := by
  obtain ⟨h', e, s⟩ := fld_step (p := 4) (r := ⟨(S.a.re i).r, (S.a.re i).n, (S.a.re i).b, [k]⟩) (c := .lst [.ref (S.A k 0)]) o hi (by decide) (by decide) (all5 (fun e => (e rfl).elim) (fun _ _ => rfl) (fun _ _ => rfl) (fun _ _ => rfl) fun _ e => (e rfl).elim)
    (fun c hc => by rw [List.mem_singleton.1 hc]; exact o.cl i hi k (by rw [hk]; exact List.mem_cons_self)) rfl
  exact ⟨_, h', e, s, rfl⟩
noncomputable def svBody : Ss := .cons (.setAttr (.var 1) .variations (.cut (.attr (.var 1) .variations) (.int 1))) (.cons (.assign 1 (.idx (.attr (.var 1) .variations) (.int 0))) .nil)
theorem svLoop {fu n : Nat} : ∀ (m : Nat) (S : Sd) (h : H) (i : Id) (l : Loc) (g : Nat), Ok true S h → KL S.a → i ∈ S.ids → Dp S.a m i → (∀ j ∈ pre S.a m i, S.a.re j = ⟨[], [], [], (S.a.re j).kids⟩) → m < g → l 1 = some (.ref (S.A i 0)) →
    ∃ l' S' h', C4 (whileN (evE ⟨fu, callN fu n⟩ (.cmp .gt (.len (.attr (.var 1) .variations)) (.int 0))) (evSs ⟨fu, callN fu n⟩ svBody) g l h = .nxt l' h') (Stq S h S' h') ((∀ j, lvl j < lvl i → S'.a.re j = S.a.re j)) (Ch S'.a i ((mln S.a m i).map mv)) := by
  intro m
  induction m with
  | zero => intro S h i l g _ _ _ d; exact d.elim
  | succ m ih =>
    intro S h i l g o kl hi d hL hg l1
    obtain ⟨g', rfl, hg'⟩ := fuN (c := m + 1) (N := g) hg
    have av := o.avar hi
    have lk := o.lenK hi
    have li := hL i (pre_pos (n := m + 1) d)
    cases hk : (S.a.re i).kids with
    | nil =>
      rw [hk] at lk
      refine ⟨l, S, h, whl_end (by simp at lk; simp [l1, av, lk]), o.stq (Ext.refl _), fun _ _ => rfl, ?_⟩
      dsimp only [mln]; rw [hk]; show S.a.re i = nilRec
      rw [li, hk]; rfl
    | cons k ks =>
      have hkm : k ∈ (S.a.re i).kids := by rw [hk]; simp
      have hkS := o.cl i hi k hkm
      have lv := kl i k hkm
      have lk2 := lk
      rw [hk] at lk2
      have cd : evE ⟨fu, callN fu n⟩ (.cmp .gt (.len (.attr (.var 1) .variations)) (.int 0)) l h = .ok (.bool true) h := by
        simp at lk2; simp [l1, av, lk2]
      obtain ⟨S1, h1, e1, s1, a1⟩ := kids_new o hi hk
      have cu := cut_ok (o.kids hi) (k := 1) (by lia)
      rw [hk] at cu
      have av1 := s1.ok.avar (i := i) (by rw [s1.ids]; exact hi)
      have ik1 := s1.ok.ikid (i := i) (q := 0) (k := k) (by rw [s1.ids]; exact hi) (by rw [a1, ks_re]; rfl)
      rw [s1.self i hi] at av1
      rw [s1.self k hkS] at ik1
      have bd : evSs ⟨fu, callN fu n⟩ svBody l h = .nxt (l.set 1 (.ref (S.A k 0))) h1 := by
        have cu' : cutV h (.ref (S.A i 4)) (.int 1) = .ok (.ref h.length) (h ++ [.lst [.ref (S.A k 0)]]) := cu
        have av' := Ext.app h [Cell.lst [.ref (S.A k 0)]]
        have ik1' : idxV h1 (.ref (S1.A i 4)) (.int 0) = .ok (.ref (S.A k 0)) h1 := ik1
        exact (ss_nxt (sa_ok (x_cut (x_attr (x_var l1) av) rfl cu') (x_var l1) e1)).trans (ss_nxt (s_assign (x_idx (x_attr (x_var l1) av1) rfl ik1')))
      rw [whl_nxt cd bd]
      have kl1 : KL S1.a := by
        rw [a1]; intro x c hc
        unfold Ab.ks at hc
        rw [put_re] at hc
        by_cases e : x = i
        · subst e; simp at hc; subst hc; exact lv
        · rw [if_neg e] at hc; exact kl x c hc
      have pk : pre S1.a m k = pre S.a m k := by rw [a1]; exact pre_put kl m k (by lia)
      have mk : mln S1.a m k = mln S.a m k := by rw [a1]; exact mln_put kl m k (by lia)
      have dk : Dp S1.a m k := by rw [a1]; exact Dp_put kl m k (by lia) (d k hkm)
      obtain ⟨l', S', h', e', s', f', c'⟩ := ih S1 h1 k (l.set 1 (.ref (S.A k 0))) g' s1.ok kl1 (by rw [s1.ids]; exact hkS) dk (by
          intro j hj
          rw [pk] at hj
          have hj' : j ∈ pre S.a (m + 1) i := List.mem_cons_of_mem _ (List.mem_flatMap.2 ⟨k, hkm, hj⟩)
          have := hL j hj'
          by_cases e : j = i
          · subst e; rw [a1]; unfold Ab.ks; rw [put_re, if_pos rfl, this]
          · rw [a1]; unfold Ab.ks; rw [put_re, if_neg e]; exact this) (by lia) (congrArg (fun a => some (V.ref a)) (s1.self k hkS).symm)
      refine ⟨l', S', h', e', s1.trans s', fun j hj => ?_, ?_⟩
      · rw [f' j (by lia), a1]; unfold Ab.ks; rw [put_re, if_neg (fun x => by rw [x] at hj; lia)]
      · dsimp only [mln]; rw [hk]
        refine ⟨k, ?_, rfl, ?_⟩
        · rw [f' i (by lia), a1]; unfold Ab.ks; rw [put_re, if_pos rfl, li]
        · rw [← mk]; exact c'
theorem strip_variations_ok {S : Sd} {h : H} {i : Id} (o : Ok true S h) (kl : KL S.a) (hi : i ∈ S.ids) {m : Nat} (d : Dp S.a m i) (hL : ∀ j ∈ pre S.a m i, S.a.re j = ⟨[], [], [], (S.a.re j).kids⟩) {fu : Nat} (hf : m < fu) {N : Nat} (hN : 1 ≤ N) :
    ∃ S' h', C3 (callN fu N 17 [.ref (S.A i 0)] h = .ok .none h') (Stq S h S' h') (Ch S'.a i ((mln S.a m i).map mv)) := by
  obtain ⟨n, rfl, -⟩ := fuN hN
  rw [callN_eq (k := 1) (b := b_strip_variations) (hk := rfl) (hb := rfl) (hl := rfl)]
  obtain ⟨l', S', h', e, s, _, c⟩ := svLoop (fu := fu) (n := n) m S h i ((params [.ref (S.A i 0)]).set 1 (.ref (S.A i 0))) fu o kl hi d hL hf rfl
  refine ⟨S', h', ?_, s, c⟩
  rw [b_strip_variations, ss_nxt (l' := (params [.ref (S.A i 0)]).set 1 (.ref (S.A i 0))) (h' := h) (by simp )]
  have e5 : evS ⟨fu, callN fu n⟩ (.whil (.cmp .gt (.len (.attr (.var 1) .variations)) (.int 0)) svBody) ((params [.ref (S.A i 0)]).set 1 (.ref (S.A i 0))) h = .nxt l' h' := by exact e
  unfold svBody at e5
  rw [ss_nxt e5]; rfl
/-! the bare lists -/
noncomputable def Bare (h : H) : Nat → List Int → Prop
  | k, [] => h[k]? = some (.lst [])
  | k, m :: ms => ∃ s r n o k', C6 (h[k]? = some (.lst [.ref s])) (h[s]? = some (.lst [.int m, .ref r, .ref n, .ref o, .ref k'])) (h[r]? = some (.lst [])) (h[n]? = some (.lst [])) (h[o]? = some (.lst [])) (Bare h k' ms)
theorem Bare.ext {h h' : H} (e : Ext h h') : ∀ {ms : List Int} {k : Nat}, Bare h k ms → Bare h' k ms
  | [], _, b => e _ _ b
  | _ :: _, _, ⟨s, r, n, o, k', a1, a2, a3, a4, a5, b⟩ => ⟨s, r, n, o, k', e _ _ a1, e _ _ a2, e _ _ a3, e _ _ a4, e _ _ a5, Bare.ext e b⟩
theorem like_bare {S : Sd} {h : H} (ok : Ok true S h) : ∀ (ms : List Int) (i : Id) (s r n o k : Nat), i ∈ S.ids → Ch S.a i ms → h[s]? = some (.lst [.int (mv i), .ref r, .ref n, .ref o, .ref k]) → h[r]? = some (.lst []) → h[n]? = some (.lst []) → h[o]? = some (.lst []) → Bare h k ms → Like h (ms.length + 1) s (S.A i 0)
  | [], i, s, r, n, o, k, hi, c, a1, a2, a3, a4, b => by
    have c : S.a.re i = nilRec := c
    have l1 := ok.lab hi (p := 1) (by lia) (by lia)
    have l2 := ok.lab hi (p := 2) (by lia) (by lia)
    have l3 := ok.lab hi (p := 3) (by lia) (by lia)
    have l4 := ok.kids hi
    simp only [lab, c, nilRec] at l1 l2 l3 l4
    refine ⟨[], [], ⟨⟨mv i, _, r, n, o, k, _, _, _, _, [], [], [], a1, ok.n0 hi, a2, a3, a4, l1, l2, l3, b, l4⟩, rfl, by simp⟩, fun q a b h1 _ => by simp at h1⟩
  | m :: ms, i, s, r, n, o, k, hi, ⟨c, hc, hm, hch⟩, a1, a2, a3, a4, ⟨s', r', n', o', k', b1, b2, b3, b4, b5, b6⟩ => by
    have l1 := ok.lab hi (p := 1) (by lia) (by lia)
    have l2 := ok.lab hi (p := 2) (by lia) (by lia)
    have l3 := ok.lab hi (p := 3) (by lia) (by lia)
    have l4 := ok.kids hi
    have hcS : c ∈ S.ids := ok.cl i hi c (by rw [hc]; simp)
    simp only [lab, hc] at l1 l2 l3 l4
    refine ⟨[s'], [S.A c 0], ⟨⟨mv i, _, r, n, o, k, _, _, _, _, [], [], [], a1, ok.n0 hi, a2, a3, a4, l1, l2, l3, b1, l4⟩, rfl, (by have hM : ML = 16777216 := rfl; simp; lia)⟩, fun q a b h1 h2 => ?_⟩
    have : q = 0 := by
      rcases Nat.lt_or_ge q 1 with g | g
      · lia
      · rw [List.getElem?_eq_none (by simpa using g)] at h1; cases h1
    subst this
    simp at h1 h2; subst h1; subst h2
    exact like_bare ok ms c s' r' n' o' k' hcS hch (by rw [hm]; exact b2) b3 b4 b5 b6
end MineB
end

section
namespace MineB
open Mine
set_option linter.unusedSimpArgs false
set_option linter.unusedVariables false
/-! the law's beginning -/
theorem mul_ok (h : H) {i j : Int} (hi : 0 ≤ i ∧ i < 4294967296) (hj : 0 ≤ j ∧ j < 4294967296) : binV .mul h (.int i) (.int j) = .ok (.int (i * j)) h := by
  exact if_pos ⟨hi.1, hi.2, hj.1, hj.2⟩
theorem fill_mul (xs : List Int) (h : xs.length < 6) : ∃ z, C3 (binV .mul [intC xs] (.int xs.length) (.int 1234567) = .ok (.int z) [intC xs]) (0 ≤ z) (z < 100000000) :=
  ⟨_, mul_ok [intC xs] (i := xs.length) (j := 1234567) (by lia) (by lia), by lia, by lia⟩
theorem fill_app (xs : List Int) (w : Int) (hx : xs.length < ML) : appendV [intC xs] (.ref 0) (.int w) = .ok .none ([intC xs].set 0 (.lst (xs.map V.int ++ [.int w]))) :=
  appendV_ok (h := [intC xs]) (m := 0) (vs := xs.map V.int) rfl (by rw [List.length_map]; exact hx) (.int w)
theorem fill_set (xs : List Int) (w : Int) : [intC xs].set 0 (.lst (xs.map V.int ++ [.int w])) = [intC (xs ++ [w])] := by simp [intC]
theorem fill_len (xs : List Int) : lenV [intC xs] (.ref 0) = .ok (.int xs.length) [intC xs] := by
  have lt := lenV_ok (h := [intC xs]) (m := 0) (vs := xs.map V.int) rfl
  rw [List.length_map] at lt
  exact lt
theorem fill_is (xs : List Int) : isLst [intC xs] (.ref 0) = true := isLst_ok (h := [intC xs]) (m := 0) (vs := xs.map V.int) rfl
theorem fill_ev (l : Loc) (l1 : l 1 = some (.ref 0)) (c : Ctx) (h0 h1 : H) (k1 k2 z w len : Int) (m1 : binV .mul h0 (.int len) (.int k1) = .ok (.int z) h0) (a1 : binV .add h0 (.int z) (.int k2) = .ok (.int w) h0) (lt : lenV h0 (.ref 0) = .ok (.int len) h0) (is : isLst h0 (.ref 0) = true) (ap : appendV h0 (.ref 0) (.int w) = .ok .none h1) :
    evSs c (.cons (.expr (.append (.var 1) (.bin .add (.bin .mul (.len (.var 1)) (.int k1)) (.int k2)))) .nil) l h0 = .nxt l h1 := by
  exact ss_nxt (ap_ok (x_var l1) is (e_bin (e_bin (x_len (x_var l1) lt) rfl m1) rfl a1) ap)
theorem fill_body (xs : List Int) (l : Loc) (l1 : l 1 = some (.ref 0)) (c : Ctx) (k1 k2 z w : Int) (m1 : binV .mul [intC xs] (.int xs.length) (.int k1) = .ok (.int z) [intC xs]) (a1 : binV .add [intC xs] (.int z) (.int k2) = .ok (.int w) [intC xs]) (hx : xs.length < ML) :
    evSs c (.cons (.expr (.append (.var 1) (.bin .add (.bin .mul (.len (.var 1)) (.int k1)) (.int k2)))) .nil) l [intC xs] = .nxt l [intC (xs ++ [w])] :=
  fill_ev l l1 c _ _ k1 k2 z w xs.length m1 a1 (fill_len xs) (fill_is xs) (fill_set xs w ▸ fill_app xs w hx)
theorem fill {fu n : Nat} : ∀ (m : Nat) (xs : List Int) (l : Loc) (g : Nat), xs.length ≤ 18 → 6 ≤ xs.length + m → m < g → l 1 = some (.ref 0) →
    ∃ ys, C3 (whileN (evE ⟨fu, callN fu n⟩ (.cmp .lt (.len (.var 1)) (.int 6))) (evSs ⟨fu, callN fu n⟩ (.cons (.expr (.append (.var 1) (.bin .add (.bin .mul (.len (.var 1)) (.int 1234567)) (.int 89)))) .nil)) g l [intC xs] = .nxt l [intC ys]) (6 ≤ ys.length) (ys.length ≤ 18) := by
  intro m
  induction m with
  | zero =>
    intro xs l g h18 h6 hg l1
    obtain ⟨g', rfl, _⟩ := fuN (c := 0) (N := g) hg
    have c1 : cmpV .lt [intC xs] (.int xs.length) (.int 6) = .ok (.bool false) [intC xs] := c_f (by lia)
    exact ⟨xs, whl_end (e_cmp (x_len (x_var l1) (fill_len xs)) rfl c1), by lia, h18⟩
  | succ m ih =>
    intro xs l g h18 h6 hg l1
    obtain ⟨g', rfl, hg'⟩ := fuN (c := m + 1) (N := g) hg
    by_cases h : xs.length < 6
    · obtain ⟨z, m1, z0, z1⟩ := fill_mul xs h
      have a1 := ad_ok [intC xs] (i := z) (j := 89) (by lia) (by lia)
      have hM : ML = 16777216 := rfl
      have c1 : cmpV .lt [intC xs] (.int xs.length) (.int 6) = .ok (.bool true) [intC xs] := c_t (by lia)
      have cd : evE ⟨fu, callN fu n⟩ (.cmp .lt (.len (.var 1)) (.int 6)) l [intC xs] = .ok (.bool true) [intC xs] := e_cmp (x_len (x_var l1) (fill_len xs)) rfl c1
      rw [whl_nxt cd (fill_body xs l l1 _ _ _ z (z + 89) m1 a1 (by lia))]
      exact ih _ l g' (by simp; lia) (by simp; lia) (by lia) l1
    · have c1 : cmpV .lt [intC xs] (.int xs.length) (.int 6) = .ok (.bool false) [intC xs] := c_f (by lia)
      exact ⟨xs, whl_end (e_cmp (x_len (x_var l1) (fill_len xs)) rfl c1), by lia, h18⟩
theorem new_root_ok (h : H) (fu : Nat) {N : Nat} (hN : 2 ≤ N) : callN fu N 19 [] h = .ok (.ref h.length) (h ++ nodeCells (.int 0) .none h.length) := by
  obtain ⟨n, rfl, hn⟩ := fuN hN
  rw [callN_eq (k := 0) (b := b_new_root) (hk := rfl) (hb := rfl) (hl := rfl)]
  rw [b_new_root, ss_ret (s_ret (x_new rfl rfl (newV_ok h _ _ fu hn)))]; rfl
noncomputable def kept0 : Id := (1, [])
noncomputable def a0 : Ab := ⟨fun _ => nilRec, fun i => decide (i.2 ≠ [])⟩
noncomputable def S0 : Sd := ⟨a0, [], fun _ _ => 0⟩
theorem ok0 (nd : Bool) (h : H) : Ok nd S0 h := ⟨fun _ h => (by cases h), fun _ h => (by cases h), fun _ h => (by cases h), fun _ h => (by cases h)⟩
noncomputable def st1 (ys : List Int) : H := [intC ys] ++ listCells (.int 0) 1
noncomputable def st2 (ys : List Int) : H := st1 ys ++ nodeCells (.int 0) .none 6
noncomputable def st3 (ys : List Int) : H := st2 ys ++ listCells (.int 0) 11
noncomputable def st4 (ys : List Int) : H := st3 ys ++ nodeCells (.int 0) .none 16
noncomputable def LS : Sd := (S0.add root (fL 1)).add kept0 (fL 11)
noncomputable def NS : Sd := (S0.add root (fN 6)).add kept0 (fN 16)
theorem start {ys : List Int} (l : Loc) {fu n : Nat} (hn : 2 ≤ n) :
    ∃ L N h kp, C8 (evS ⟨fu, callN fu n⟩ (.assign 2 (.lst (.cons (.int 0) (.cons (.lst .nil) (.cons (.lst .nil) (.cons (.lst .nil) (.cons (.lst .nil) .nil))))))) l [intC ys] = .nxt (l.set 2 (.ref (L.A root 0))) ([intC ys] ++ listCells (.int 0) 1)) (evS ⟨fu, callN fu n⟩ (.assign 3 (.call 19 .nil)) (l.set 2 (.ref (L.A root 0))) ([intC ys] ++ listCells (.int 0) 1) = .nxt ((l.set 2 (.ref (L.A root 0))).set 3 (.ref (N.A root 0))) ([intC ys] ++ listCells (.int 0) 1 ++ nodeCells (.int 0) .none 6)) (evS ⟨fu, callN fu n⟩ (.assign 4 (.lst (.cons (.lst (.cons (.int 0) (.cons (.lst .nil) (.cons (.lst .nil) (.cons (.lst .nil) (.cons (.lst .nil) .nil)))))) (.cons (.call 19 .nil) .nil)))) ((l.set 2 (.ref (L.A root 0))).set 3 (.ref (N.A root 0))) ([intC ys] ++ listCells (.int 0) 1 ++ nodeCells (.int 0) .none 6)
        = .nxt (((l.set 2 (.ref (L.A root 0))).set 3 (.ref (N.A root 0))).set 4 (.ref kp)) h) (DI 0 L N kept0 h kp) (h[0]? = some (intC ys)) (Out L 0) (Out N 0) (0 ≠ kp) := by
  have s1 : Stp false S0 [intC ys] (S0.add root (fL 1)) (st1 ys) := newL_ok (k := root) (ok0 _ _) (fun h => by cases h) rfl (fun h => by cases h)
  have w1 := (Two.mk (ok0 false [intC ys]) (ok0 true [intC ys]) fun _ h => by cases h).left s1
  have s2 : Stp true S0 (st1 ys) (S0.add root (fN 6)) (st2 ys) := newN_ok (k := root) w1.two.n (fun h => by cases h) rfl (fun h => by cases h)
  have w2 := w1.two.right s2
  have s3 : Stp false (S0.add root (fL 1)) (st2 ys) LS (st3 ys) := newL_ok (k := kept0) w2.two.l (by decide) rfl (fun h => by cases h)
  have w3 := w2.two.left s3
  have s4 : Stp true (S0.add root (fN 6)) (st3 ys) NS (st4 ys) := newN_ok (k := kept0) w3.two.n (by decide) rfl (fun h => by cases h)
  have two : Two LS NS (st4 ys) := (w3.two.right s4).two
  have w5 := two.ext (Ext.app (st4 ys) [.lst [.ref 15, .ref 16]])
  have tr : Tr a0 [kept0, root] := ⟨fun i hi k hk => (by cases hk), fun i hi => List.nodup_nil, by decide, fun i hi => ⟨rfl, fun g => decide_eq_true g⟩⟩
  have ep : Ep0 0 [kept0, root] := fun i hi => by
    rcases List.mem_cons.1 hi with rfl | hi
    · intro x hx; cases hx
    · rw [List.mem_singleton.1 hi]; intro x hx; cases hx
  have p3 := x_lst (c := ⟨fu, callN fu n⟩) (l := (l.set 2 (.ref (LS.A root 0))).set 3 (.ref (NS.A root 0))) (x_args (ev_newlist (a := .int 0) (m := .int 0) (h := [intC ys] ++ listCells (.int 0) 1 ++ nodeCells (.int 0) .none 6) rfl) (x_args1 (x_call (f := 19) (es := .nil) rfl (new_root_ok (st3 ys) fu hn))))
  have p4 := p3.trans (show R.ok _ _ = R.ok (V.ref 21) (st4 ys ++ [.lst [.ref 15, .ref 16]]) from rfl)
  have oL : ∀ i ∈ LS.ids, ∀ p < 5, LS.A i p ≠ 0 := by decide
  have oN : ∀ i ∈ NS.ids, ∀ p < 5, NS.A i p ≠ 0 := by decide
  have rn : root ∈ [kept0, root] := by decide
  have kn : kept0 ∈ [kept0, root] := by decide
  exact ⟨LS, NS, st4 ys ++ [.lst [.ref 15, .ref 16]], 21, s_assign (ev_newlist rfl), s_assign (x_call rfl (new_root_ok (st1 ys) fu hn)),
    s_assign (x := .ref 21) (h1 := st4 ys ++ [.lst [.ref 15, .ref 16]]) p4,
    ⟨w5.two, rfl, tr, tr, ep, ep, fun i => RecOk.nil (by decide), rn, rn, rfl, kn, kn, rfl, rfl, get_app_len (st4 ys) (.lst [.ref 15, .ref 16]) [], out_len two.l (Nat.le_refl 21), out_len two.n (Nat.le_refl 21), by decide, by decide⟩,
    rfl, oL, oN, by decide⟩
end MineB
end

section
namespace MineB
open Mine
set_option linter.unusedSimpArgs false
set_option linter.unusedVariables false
theorem dm_ok (h : H) {i j : Int} (hi : 0 ≤ i ∧ i < 4611686018427387904) (hj : 0 < j ∧ j < 4611686018427387904) : divmodV h (.int i) (.int j) = .ok (.ref h.length) (h ++ [.tup [.int (i / j), .int (i % j)]]) := by
  exact if_pos ⟨hj.1, by unfold sm; lia, by unfold sm; lia⟩
theorem maxL_ok : ∀ (xs : List Int), xs ≠ [] → ∃ m, C3 (maxL (xs.map V.int) = some m) ((∀ x ∈ xs, x ≤ m)) (m ∈ xs)
  | [], h => (h rfl).elim
  | [x], _ => ⟨x, rfl, fun y hy => by rw [List.mem_singleton] at hy; lia, List.mem_singleton.2 rfl⟩
  | x :: y :: r, _ => by
    obtain ⟨m, e, h, hin⟩ := maxL_ok (y :: r) (by simp)
    refine ⟨max x m, ?_, fun z hz => ?_, ?_⟩
    · simp only [List.map_cons] at e ⊢
      dsimp only [maxL]; rw [e]; rfl
    · rcases List.mem_cons.1 hz with rfl | hz
      · lia
      · have := h z hz; lia
    · rcases Int.le_total x m with g | g
      · rw [Int.max_eq_right g]; exact List.mem_cons_of_mem _ hin
      · rw [Int.max_eq_left g]; exact List.mem_cons_self
theorem IsL_ints {m : Nat} {h : H} : ∀ {xs : List Int} {ws : List V}, IsL m h (xs.map fun x => .sc (.int x)) ws → ws = xs.map V.int
  | [], [], _ => rfl
  | x :: xs, w :: ws, ⟨a, r⟩ => by
    have a : w = .int x := a
    rw [a, IsL_ints r]; rfl
  | [], _ :: _, x => x.elim
  | _ :: _, [], x => x.elim
/-- the longest path of the kept tree -/
theorem depth_ok {e : Nat} {L N : Sd} {κ : Id} {h : H} {kp : Nat} (d : DI e L N κ h kp) (he : e ≤ 18) {l : Loc} (l4 : l 4 = some (.ref kp)) {fu n : Nat} (hf : FU ≤ fu) (hn : 40 ≤ n) :
    ∃ m h', C5 (evE ⟨fu, callN fu n⟩ (.max1 (.comp (.len (.var 1)) true (.call 20 (.cons (.idx (.var 4) (.int 0)) (.cons (.lst .nil) .nil))))) l h = .ok (.int m) h') (Ext h h') ((∀ j ∈ pre L.a 40 κ, ((pth L.a j).length : Int) ≤ m)) (0 ≤ m) (m ≤ 36) := by
  have pw := pow_le he
  have zL := d.zL
  have x1 : Ext h (h ++ [intC []]) := Ext.app _ _
  have d1 := d.ext x1
  have pk : pth L.a κ = [] := pth_not d.ka
  obtain ⟨out, h2, z, r, e2, x2, y2, al, g2⟩ := law_all_ok d.trL (by lia) hf 40 κ (h ++ [intC []]) h.length n d1.two.l d.kL (d.trL.dp 40 κ d.kL (by lia)) (by rw [pk]; simp) hn
  have g0 : idxV h (.ref kp) (.int 0) = .ok (.ref (L.A κ 0)) h := idx_ok d.kc rfl
  have c1 : evE ⟨fu, callN fu n⟩ (.call 20 (.cons (.idx (.var 4) (.int 0)) (.cons (.lst .nil) .nil))) l h = .ok (.ref out) h2 := by
    have al : alloc (.lst []) h = .ok (.ref h.length) (h ++ [intC []]) := rfl
    exact x_call (x_args (x_idx (x_var l4) rfl g0) (x_args1 (x_lst rfl))) e2
  -- the items
  have items : ∀ (js : List Id) (vs : List V), AllL L h2 js vs → ∃ its : List (V × Option Val), C3 (its.map (·.1) = vs) (its.filterMap (·.2) = (js.map fun j => ((pth L.a j).length : Int)).map (fun x => Val.sc (.int x))) (∀ x ∈ its, El true (fun _ h => .ok (.bool true) h) (evE ⟨fu, callN fu n⟩ (.len (.var 1))) h2 x) := by
    intro js
    induction js with
    | nil => intro vs a; cases vs with
      | nil => exact ⟨[], rfl, rfl, fun x hx => by cases hx⟩
      | cons v vs => exact a.elim
    | cons j js ih => intro vs a; cases vs with
      | nil => exact a.elim
      | cons v vs =>
        obtain ⟨⟨t, pa, rfl, a1, a2⟩, a3⟩ := a
        obtain ⟨its, e1, e2, e3⟩ := ih vs a3
        refine ⟨(.ref t, some (.sc (.int (pth L.a j).length))) :: its, by simp [e1], by simp [e2], fun x hx => ?_⟩
        rcases List.mem_cons.1 hx with rfl | hx
        · intro h3 x3 l3
          have lt := lenV_ok (x3 _ _ a2)
          refine ⟨fun x => if x = 0 then some (.ref (L.A j 0)) else if x = 1 then some (.ref pa) else none, by dsimp only [bindT]; rw [unpair_ok (x3 _ _ a1)]; rfl, h3, .int (pth L.a j).length, h3, rfl, Ext.refl _, ?_, Ext.refl _, rfl⟩
          rw [List.length_map] at lt
          exact x_len (x_var rfl) lt
        · exact e3 x hx
  obtain ⟨its, i1, i2, i3⟩ := items _ _ al
  have pl := pre_len d.trL 40 κ d.kL
  have ll := al.len
  obtain ⟨h3, ws, e3, x3, y3, il⟩ := comp_ok (c := ⟨fu, callN fu n⟩) hf (a := out) its i3 (by rw [y2, i1]) (by have := congrArg List.length i1; simp at this ll; lia)
  rw [i2] at il
  have ew := IsL_ints il
  obtain ⟨m, em, hm, hin⟩ := maxL_ok ((pre L.a 40 κ).map fun j => ((pth L.a j).length : Int)) (by
    have := pre_pos (d.trL.dp 40 κ d.kL (by lia))
    intro h; rw [List.map_eq_nil_iff] at h; rw [h] at this; cases this)
  have mb : 0 ≤ m ∧ m ≤ 36 := by
    obtain ⟨j, hj, rfl⟩ := List.mem_map.1 hin
    have := pth_len L.a j
    have := d.trL.lv j (pre_ids d.trL 40 κ d.kL j hj)
    lia
  refine ⟨m, h3, ?_, (x1.trans x2).trans x3, fun j hj => hm _ (List.mem_map_of_mem hj), mb.1, mb.2⟩
  have mx : max1V h3 (.ref h2.length) = .ok (.int m) h3 := by
    rw [ew] at y3
    dsimp only [max1V]; rw [gL_ok y3]; dsimp only; rw [em]
  have e3' : compV ⟨fu, callN fu n⟩ true (fun _ h => .ok (.bool true) h) (evE ⟨fu, callN fu n⟩ (.len (.var 1))) (.ref out) h2 = .ok (.ref h2.length) h3 := e3
  exact x_max1 (x_comp c1 e3') mx
noncomputable def wideS : S := .ite (.band (.cons (.cmp .eq (.var 9) (.int 6)) (.cons (.not (.var 11)) .nil))) (.cons (.assign 11 (.cmp .gt (.bin .add (.len (.idx (.idx (.var 6) (.var 10)) (.int 1))) (.max1 (.comp (.len (.var 1)) true (.call 20 (.cons (.idx (.var 4) (.int 0)) (.cons (.lst .nil) .nil)))))) (.int 36))) .nil) .nil
theorem wide_ok {e : Nat} {L N : Sd} {κ i : Id} {h : H} {kp : Nat} (d : DI e L N κ h kp) (he : e ≤ 18) {l : Loc} (l4 : l 4 = some (.ref kp)) {k : Int} (l9 : l 9 = some (.int k)) {b : Bool} (l11 : l 11 = some (.bool b))
    {am t pa : Nat} {q : Nat} {vs : List V} (l6 : l 6 = some (.ref am)) (l10 : l 10 = some (.int q)) (ham : h[am]? = some (.lst vs)) (hv : vs[q]? = some (.ref t)) (ht : h[t]? = some (.tup [.ref (L.A i 0), .ref pa])) (hp : h[pa]? = some (intC (pth L.a i))) (hi : i ∈ L.ids) (it : inTop L.a i = true)
    {fu n : Nat} (hf : FU ≤ fu) (hn : 40 ≤ n) :
    ∃ l' h' w, C5 (evS ⟨fu, callN fu n⟩ wideS l h = .nxt l' h') (Ext h h') (l' 11 = some (.bool w)) ((∀ y, y ≠ 11 → l' y = l y)) ((k = 6 → w = false → ∀ j ∈ pre L.a 40 κ, lvl i + lvl j ≤ 36 + lvl κ)) := by
  by_cases g : k = 6 ∧ b = false
  · obtain ⟨rfl, rfl⟩ := g
    obtain ⟨m, h2, e2, x2, hm, m0, m36⟩ := depth_ok d he l4 hf hn (l := l)
    have i1 : idxV h (.ref am) (.int q) = .ok (.ref t) h := idx_ok ham hv
    have i2 : idxV h (.ref t) (.int 1) = .ok (.ref pa) h := idx_tok ht rfl
    have lt := lenV_ok hp
    rw [List.length_map] at lt
    have pl := inTop_pth it
    have lv := d.trL.lv i hi
    have pk : pth L.a κ = [] := pth_not d.ka
    have ad := ad_ok h2 (i := ((pth L.a i).length : Int)) (j := m) (by lia) (by lia)
    have e2' := e2
    refine ⟨l.set 11 (.bool (decide (((pth L.a i).length : Int) + m > 36))), h2, decide (((pth L.a i).length : Int) + m > 36), ?_, x2, rfl, fun y hy => if_neg hy, fun _ hw j hj => ?_⟩
    · have cd : evE ⟨fu, callN fu n⟩ (.band (.cons (.cmp .eq (.var 9) (.int 6)) (.cons (.not (.var 11)) .nil))) l h = .ok (.bool true) h := by
        exact x_band (and_t (e_cmp (x_var l9) rfl rfl) (and_t (x_not (t := false) (x_var l11)) rfl))
      have a1 : evE ⟨fu, callN fu n⟩ (.len (.idx (.idx (.var 6) (.var 10)) (.int 1))) l h = .ok (.int (pth L.a i).length) h := by
        exact x_len (x_idx (x_idx (x_var l6) (x_var l10) i1) rfl i2) lt
      have a2 : evE ⟨fu, callN fu n⟩ (.cmp .gt (.bin .add (.len (.idx (.idx (.var 6) (.var 10)) (.int 1))) (.max1 (.comp (.len (.var 1)) true (.call 20 (.cons (.idx (.var 4) (.int 0)) (.cons (.lst .nil) .nil)))))) (.int 36)) l h = .ok (.bool (decide (((pth L.a i).length : Int) + m > 36))) h2 := by
        exact e_cmp (e_bin a1 e2' ad) rfl rfl
      exact (s_ite cd).trans (ss_nxt (s_assign a2))
    · simp only [decide_eq_false_iff_not] at hw
      have h1 := hm j hj
      have h2 := (pre_top d.trL 40 κ d.kL j hj).2
      rw [pk] at h2
      simp only [List.length_nil] at h2
      lia
  · refine ⟨l, h, b, ?_, Ext.refl _, l11, fun _ _ => rfl, fun k6 hb => (g ⟨k6, hb⟩).elim⟩
    have : evE ⟨fu, callN fu n⟩ (.band (.cons (.cmp .eq (.var 9) (.int 6)) (.cons (.not (.var 11)) .nil))) l h = .ok (.bool false) h := by
      by_cases k6 : k = 6
      · have hb : b = true := by cases b; exact (g ⟨k6, rfl⟩).elim; rfl
        rw [hb] at l11; rw [k6] at l9
        exact x_band (and_t (e_cmp (x_var l9) rfl rfl) (and_f (x_not (t := true) (x_var l11))))
      · have c6 : cmpV .eq h (.int k) (.int 6) = .ok (.bool false) h := c_f k6
        exact x_band (and_f (e_cmp (x_var l9) rfl c6))
    exact s_else this
end MineB
end

section
namespace MineB
open Mine
set_option linter.unusedSimpArgs false
set_option linter.unusedVariables false
theorem all_root {L : Sd} {h : H} (o : Ok false L h) (t : Tr L.a L.ids) (hz : L.ids.length ≤ ML) (hr : root ∈ L.ids) {l : Loc} (l2 : l 2 = some (.ref (L.A root 0))) {fu n : Nat} (hf : FU ≤ fu) (hn : 40 ≤ n) :
    ∃ am h' z r, C4 (evS ⟨fu, callN fu n⟩ (.assign 6 (.call 20 (.cons (.var 2) (.cons (.lst .nil) .nil)))) l h = .nxt (l.set 6 (.ref am)) h') (Ext h h') (h'[am]? = some (.lst (.ref z :: r))) (AllL L h' (pre L.a 40 root) (.ref z :: r)) := by
  have x1 : Ext h (h ++ [intC []]) := Ext.app _ _
  obtain ⟨out, h2, z, r, e2, x2, y2, al, g2⟩ := law_all_ok t hz hf 40 root (h ++ [intC []]) h.length n (o.ext x1) hr (t.dp 40 root hr (by lia)) (get_app_len _ _ _) hn
  refine ⟨out, h2, z, r, ?_, x1.trans x2, y2, al⟩
  have al : alloc (.lst []) h = .ok (.ref h.length) (h ++ [intC []]) := rfl
  exact s_assign (x_call (x_args (x_var l2) (x_args1 (x_lst rfl))) e2)
noncomputable def dvS1 : S := .assign2 8 9 (.divmod (.bin .mod (.var 5) (.bin .pow (.int 10) (.int 9))) (.int 9))
noncomputable def dvS2 : S := .assign2 8 10 (.divmod (.var 8) (.len (.var 6)))
theorem mod9 (h : H) (x : Int) : ∃ X : Int, C3 (0 ≤ X) (X < 1000000000) (∀ h', binV .mod h' (.int x) (.int 1000000000) = .ok (.int X) h') :=
  ⟨x % 1000000000, by lia, by lia, fun h' => md_ok h' x (by lia) (by lia)⟩
theorem pow9 (h : H) : binV .pow h (.int 10) (.int 9) = .ok (.int 1000000000) h := rfl
theorem dv1_ok (h : H) (l : Loc) (x : Int) (l5 : l 5 = some (.int x)) (c : Ctx) : ∃ Q D : Int, C5 (0 ≤ Q) (Q < 1099511627776) (0 ≤ D) (D < 9) (∃ h', evS c dvS1 l h = .nxt ((l.set 8 (.int Q)).set 9 (.int D)) h' ∧ Ext h h') := by
  obtain ⟨X, x0, x1, mx⟩ := mod9 h x
  have dm := dm_ok h (i := X) (j := 9) (by lia) (by lia)
  refine ⟨X / 9, X % 9, by lia, by lia, by lia, by lia, h ++ [.tup [.int (X / 9), .int (X % 9)]], ?_, Ext.app _ _⟩
  generalize X / 9 = Q at *
  generalize X % 9 = D at *
  have pw := pow9 h
  generalize (1000000000 : Int) = k9 at *
  have up : unpair (h ++ [.tup [.int Q, .int D]]) (.ref h.length) = some (.int Q, .int D) := unpair_ok (by simp)
  exact s_assign2 (x_divmod (e_bin (x_var l5) (e_bin rfl rfl pw) (mx _)) rfl dm) up
theorem dv2_ok (h : H) (l : Loc) (Q : Int) (l8 : l 8 = some (.int Q)) (hQ : 0 ≤ Q ∧ Q < 1099511627776) {am : Nat} {vs : List V} (l6 : l 6 = some (.ref am)) (ham : h[am]? = some (.lst vs)) (hv : 0 < vs.length) (hz : vs.length ≤ ML) (c : Ctx) :
    ∃ (q : Int) (p : Nat), C4 (0 ≤ q) (q < 1099511627776) (p < vs.length) (∃ h', evS c dvS2 l h = .nxt ((l.set 8 (.int q)).set 10 (.int p)) h' ∧ Ext h h') := by
  have hM : ML = 16777216 := rfl
  have dm := dm_ok h (i := Q) (j := vs.length) (by lia) (by lia)
  have m1 : 0 ≤ Q % (vs.length : Int) := Int.emod_nonneg _ (by lia)
  have m2 : Q % (vs.length : Int) < vs.length := Int.emod_lt_of_pos _ (by lia)
  have d1 : 0 ≤ Q / (vs.length : Int) := Int.ediv_nonneg hQ.1 (by lia)
  have d2 : Q / (vs.length : Int) ≤ Q := Int.ediv_le_self _ hQ.1
  obtain ⟨p, hp⟩ : ∃ p : Nat, Q % (vs.length : Int) = p := ⟨(Q % (vs.length : Int)).toNat, by lia⟩
  refine ⟨Q / vs.length, p, d1, by lia, by lia, h ++ [.tup [.int (Q / vs.length), .int p]], ?_, Ext.app _ _⟩
  rw [hp] at dm
  generalize Q / (vs.length : Int) = q at *
  have up : unpair (h ++ [.tup [.int q, .int p]]) (.ref h.length) = some (.int q, .int p) := unpair_ok (by simp)
  have lt := lenV_ok ham
  exact s_assign2 (x_divmod (x_var l8) (x_len (x_var l6) lt) dm) up
noncomputable def bodyHd : Ss := .cons (.assign 6 (.call 20 (.cons (.var 2) (.cons (.lst .nil) .nil)))) (.cons (.assign 7 (.call 10 (.cons (.var 3) .nil))) (.cons (.ite (.cmp .ne (.len (.var 6)) (.len (.var 7))) (.cons (.ret (.bool false)) .nil) .nil) (.cons dvS1 (.cons dvS2
  (.cons (.ite (.cmp .eq (.var 9) (.int 8)) (.cons (.assign 10 (.bin .sub (.len (.var 6)) (.int 1))) .nil) .nil) (.cons (.ite (.cmp .gt (.len (.idx (.idx (.var 6) (.var 10)) (.int 1))) (.int 24)) (.cons (.assign 10 (.int 0)) .nil) .nil) (.cons (.assign 11 (.cmp .gt (.len (.var 6)) (.int 40)))
  (.cons wideS (.cons (.ite (.not (.call 28 (.cons (.var 9) (.cons (.var 8) (.cons (.idx (.idx (.var 6) (.var 10)) (.int 0)) (.cons (.idx (.var 7) (.var 10)) (.cons (.var 4) (.cons (.var 11) .nil)))))))) (.cons (.ret (.bool false)) .nil) .nil) .nil)))))))))
theorem body_ok {e : Nat} {L N : Sd} {κ : Id} {h : H} {kp : Nat} (d : DI e L N κ h kp) (he : e ≤ 17) {l : Loc} (l2 : l 2 = some (.ref (L.A root 0))) (l3 : l 3 = some (.ref (N.A root 0))) (l4 : l 4 = some (.ref kp)) {x : Int} (l5 : l 5 = some (.int x)) {fu n : Nat} (hf : FU ≤ fu) (hn : 44 ≤ n) :
    ∃ l' L' N' κ' h', C4 (evSs ⟨fu, callN fu n⟩ bodyHd l h = .nxt l' h') (DI (e + 1) L' N' κ' h' kp) (StK kp L N h L' N' h') (∀ y, y < 6 → l' y = l y) := by
  have pw := pow_le (e := e) (by lia)
  have hM : ML = 16777216 := rfl
  have zL := d.zL; have zN := d.zN
  obtain ⟨am, h1, z, r, e1, x1, y1, al1⟩ := all_root d.two.l d.trL (by lia) d.rL l2 hf (n := n) (by lia)
  have d1 := d.ext x1
  obtain ⟨wt, h2, e2, x2, y2, _⟩ := walk_ok d1.two.n d.trN (by lia) d.rN (d.trN.dp 40 root d.rN (by lia)) hf (N := n) (by lia)
  rw [← d.a] at y2
  have al2 := al1.ext x2
  have ym2 := x2 _ _ y1
  have ln := al2.len
  have pl := pre_len d.trL 40 root d.rL
  let la : Loc := (l.set 6 (.ref am)).set 7 (.ref wt)
  obtain ⟨Q, D, q0, q1, k0, k1, h3, e3, x3⟩ := dv1_ok h2 la x l5 ⟨fu, callN fu n⟩
  let lb : Loc := (la.set 8 (.int Q)).set 9 (.int D)
  obtain ⟨q, p0, qq0, qq1, hp0, h4, e4, x4⟩ := dv2_ok h3 lb Q rfl ⟨q0, q1⟩ (am := am) rfl (x3 _ _ ym2) (by simp) (by lia) ⟨fu, callN fu n⟩
  let lc : Loc := (lb.set 8 (.int q)).set 10 (.int p0)
  have x24 := x3.trans x4
  have ym4 := x24 _ _ ym2
  have al4 := al2.ext x24
  have yw4 := x24 _ _ y2
  have lt4 := lenV_ok ym4
  -- the last one, if it is asked
  have st6 : ∃ p1 : Nat, p1 < (V.ref z :: r).length ∧ evS ⟨fu, callN fu n⟩ (.ite (.cmp .eq (.var 9) (.int 8)) (.cons (.assign 10 (.bin .sub (.len (.var 6)) (.int 1))) .nil) .nil) lc h4 = .nxt (lc.set 10 (.int p1)) h4 := by
    by_cases g : D = 8
    · have sb := sb_ok h4 (i := ((V.ref z :: r).length : Int)) (j := 1) (by lia) (by lia)
      refine ⟨(V.ref z :: r).length - 1, by simp, ?_⟩
      have e9 : (((V.ref z :: r).length : Nat) : Int) - 1 = (((V.ref z :: r).length - 1 : Nat) : Int) := by simp
      rw [e9] at sb
      have cd : evE ⟨fu, callN fu n⟩ (.cmp .eq (.var 9) (.int 8)) lc h4 = .ok (.bool true) h4 := e_cmp (x_var rfl) rfl (c_eqt g)
      have a1 : evE ⟨fu, callN fu n⟩ (.bin .sub (.len (.var 6)) (.int 1)) lc h4 = .ok (.int (((V.ref z :: r).length - 1 : Nat) : Int)) h4 := by
        exact e_bin (x_len (x_var rfl) lt4) rfl sb
      exact (s_ite cd).trans (ss_nxt (s_assign a1))
    · refine ⟨p0, hp0, ?_⟩
      have cd : evE ⟨fu, callN fu n⟩ (.cmp .eq (.var 9) (.int 8)) lc h4 = .ok (.bool false) h4 := e_cmp (x_var rfl) rfl (c_eqf g)
      exact (s_else cd).trans (congrArg (fun l => F.nxt l h4) (funext fun y => (set_set (lb.set 8 (.int q)) 10 (.int p0) (.int p0) y).symm))
  obtain ⟨p1, hp1, e6⟩ := st6
  obtain ⟨i1, hi1⟩ : ∃ i, (pre L.a 40 root)[p1]? = some i := ⟨_, List.getElem?_eq_getElem (by lia)⟩
  obtain ⟨t1, pa1, g1, g2, g3⟩ := al4.get hi1
  have hr0 : (pre L.a 40 root)[0]? = some root := rfl
  have rt := inTop_pth (a := L.a) (i := root) rfl
  have it : ∀ i ∈ pre L.a 40 root, inTop L.a i = true := fun i hi => by rw [(pre_top d.trL 40 root d.rL i hi).1]; rfl
  have st7 : ∃ (p2 : Nat) (i : Id), C3 ((pre L.a 40 root)[p2]? = some i) (lvl i ≤ 24) (evS ⟨fu, callN fu n⟩ (.ite (.cmp .gt (.len (.idx (.idx (.var 6) (.var 10)) (.int 1))) (.int 24)) (.cons (.assign 10 (.int 0)) .nil) .nil) (lc.set 10 (.int p1)) h4 = .nxt (lc.set 10 (.int p2)) h4) := by
    have ix1 : idxV h4 (.ref am) (.int p1) = .ok (.ref t1) h4 := idx_ok ym4 g1
    have ix2 : idxV h4 (.ref t1) (.int 1) = .ok (.ref pa1) h4 := idx_tok g2 rfl
    have lt := lenV_ok g3
    rw [List.length_map, inTop_pth (it i1 (List.mem_of_getElem? hi1))] at lt
    by_cases g : 24 < lvl i1
    · refine ⟨0, root, hr0, by decide, ?_⟩
      have cd : evE ⟨fu, callN fu n⟩ (.cmp .gt (.len (.idx (.idx (.var 6) (.var 10)) (.int 1))) (.int 24)) (lc.set 10 (.int p1)) h4 = .ok (.bool true) h4 := by
        exact e_cmp (x_len (x_idx (x_idx (x_var rfl) (x_var rfl) ix1) rfl ix2) lt) rfl (c_gtt (by lia))
      exact (s_ite cd).trans ((ss_nxt (s_assign rfl)).trans (congrArg (fun l => F.nxt l h4) (funext fun y => set_set lc 10 (.int p1) (.int (0 : Nat)) y)))
    · refine ⟨p1, i1, hi1, by lia, ?_⟩
      have cd : evE ⟨fu, callN fu n⟩ (.cmp .gt (.len (.idx (.idx (.var 6) (.var 10)) (.int 1))) (.int 24)) (lc.set 10 (.int p1)) h4 = .ok (.bool false) h4 := by
        exact e_cmp (x_len (x_idx (x_idx (x_var rfl) (x_var rfl) ix1) rfl ix2) lt) rfl (c_gtf (by lia))
      exact s_else cd
  obtain ⟨p2, i, hi, lvi, e7⟩ := st7
  obtain ⟨t2, pa2, f1, f2, f3⟩ := al4.get hi
  have him := List.mem_of_getElem? hi
  have hiL := pre_ids d.trL 40 root d.rL i him
  have eP : pre N.a 40 root = pre L.a 40 root := by rw [d.a]
  have hiN := pre_ids d.trN 40 root d.rN i (by rw [eP]; exact him)
  let ld : Loc := (lc.set 10 (.int p2)).set 11 (.bool (decide (((V.ref z :: r).length : Int) > 40)))
  have d4 := d.ext ((x1.trans x2).trans x24)
  obtain ⟨l9, h5, w, e9, x5, w11, f9, hw⟩ := wide_ok d4 (by lia) (l := ld) l4 (k := D) rfl (b := decide (((V.ref z :: r).length : Int) > 40)) rfl
    (am := am) (q := p2) rfl rfl ym4 f1 f2 f3 hiL (it i him) hf (n := n) (by lia)
  have d5 := d4.ext x5
  obtain ⟨L', N', κ', h6, e10, d6, s6⟩ := law_deed_ok d5 he hiL hiN (it i him) lvi (k := D) ⟨k0, k1⟩ (q := q) ⟨qq0, qq1⟩ w hw hf (M := n) hn
  have st := ((d.two.ext (((x1.trans x2).trans x24).trans x5)).toK kp).trans s6
  refine ⟨l9, L', N', κ', h6, ?_, d6, st, fun y hy => by
    rw [f9 y (by lia)]
    exact (if_neg (by lia)).trans ((if_neg (by lia)).trans ((if_neg (by lia)).trans ((if_neg (by lia)).trans ((if_neg (by lia)).trans ((if_neg (by lia)).trans ((if_neg (by lia)).trans (if_neg (by lia))))))))⟩
  have m2 : evS ⟨fu, callN fu n⟩ (.assign 7 (.call 10 (.cons (.var 3) .nil))) (l.set 6 (.ref am)) h1 = .nxt la h2 := by
    exact s_assign (x_call (x_args1 (x_var l3)) e2)
  have m3 : evS ⟨fu, callN fu n⟩ (.ite (.cmp .ne (.len (.var 6)) (.len (.var 7))) (.cons (.ret (.bool false)) .nil) .nil) la h2 = .nxt la h2 := by
    have lt1 := lenV_ok ym2
    have lt2 := lenV_ok y2
    have : (rf N (pre L.a 40 root)).length = (V.ref z :: r).length := by rw [← ln]; simp [rf]
    rw [this] at lt2
    have cm : cmpV .ne h2 (.int ((V.ref z :: r).length : Nat)) (.int ((V.ref z :: r).length : Nat)) = .ok (.bool false) h2 := c_nf rfl
    exact s_else (e_cmp (x_len (x_var rfl) lt1) (x_len (x_var rfl) lt2) cm)
  have m8 : evS ⟨fu, callN fu n⟩ (.assign 11 (.cmp .gt (.len (.var 6)) (.int 40))) (lc.set 10 (.int p2)) h4 = .nxt ld h4 := by
    have cm : cmpV .gt h4 (.int ((V.ref z :: r).length : Nat)) (.int 40) = .ok (.bool (decide (((V.ref z :: r).length : Int) > 40))) h4 := rfl
    exact s_assign (e_cmp (x_len (x_var rfl) lt4) rfl cm)
  have m10 : evS ⟨fu, callN fu n⟩ (.ite (.not (.call 28 (.cons (.var 9) (.cons (.var 8) (.cons (.idx (.idx (.var 6) (.var 10)) (.int 0)) (.cons (.idx (.var 7) (.var 10)) (.cons (.var 4) (.cons (.var 11) .nil)))))))) (.cons (.ret (.bool false)) .nil) .nil) l9 h5 = .nxt l9 h6 := by
    have ix1 : idxV h5 (.ref am) (.int p2) = .ok (.ref t2) h5 := idx_ok (x5 _ _ ym4) f1
    have ix2 : idxV h5 (.ref t2) (.int 0) = .ok (.ref (L.A i 0)) h5 := idx_tok (x5 _ _ f2) rfl
    have ix3 : idxV h5 (.ref wt) (.int p2) = .ok (.ref (N.A i 0)) h5 := idx_ok (x5 _ _ yw4) (by rw [rf, List.getElem?_map, hi]; rfl)
    have v9 : l9 9 = some (.int D) := (f9 9 (by decide)).trans rfl
    have v8 : l9 8 = some (.int q) := (f9 8 (by decide)).trans rfl
    have v6 : l9 6 = some (.ref am) := (f9 6 (by decide)).trans rfl
    have v7 : l9 7 = some (.ref wt) := (f9 7 (by decide)).trans rfl
    have v10 : l9 10 = some (.int p2) := (f9 10 (by decide)).trans rfl
    have v4 : l9 4 = some (.ref kp) := (f9 4 (by decide)).trans l4
    exact s_else (x_not (t := true) (x_call (x_args (x_var v9) (x_args (x_var v8) (x_args (x_idx (x_idx (x_var v6) (x_var v10) ix1) rfl ix2) (x_args (x_idx (x_var v7) (x_var v10) ix3) (x_args (x_var v4) (x_args1 (x_var w11))))))) e10))
  rw [bodyHd, ss_nxt e1, ss_nxt m2, ss_nxt m3, ss_nxt e3, ss_nxt e4, ss_nxt e6, ss_nxt e7, ss_nxt m8, ss_nxt e9, ss_nxt m10]; rfl
theorem deeds {ys : List Int} (hy : ys.length ≤ 18) {kp : Nat} (h0 : 0 ≠ kp) {tL tN : Nat} {fu n : Nat} (hf : FU ≤ fu) (hn : 44 ≤ n) : ∀ (rs dn : List Int) (L N : Sd) (κ : Id) (h : H) (l : Loc), ys = dn ++ rs → DI dn.length L N κ h kp → L.A root 0 = tL → N.A root 0 = tN → h[0]? = some (intC ys) → Out L 0 → Out N 0 →
    l 2 = some (.ref tL) → l 3 = some (.ref tN) → l 4 = some (.ref kp) → ∀ g, rs.length < g →
    ∃ l' L' N' κ' h', C9 (forN 5 0 (evSs ⟨fu, callN fu n⟩ bodyHd) g dn.length l h = .nxt l' h') (DI ys.length L' N' κ' h' kp) (L'.A root 0 = tL) (N'.A root 0 = tN) (h'[0]? = some (intC ys)) (l' 1 = l 1) (l' 2 = some (.ref tL)) (l' 3 = some (.ref tN)) (l' 4 = some (.ref kp)) := by
  intro rs
  induction rs with
  | nil =>
    intro dn L N κ h l ey d aL aN hy0 o1 o2 l2 l3 l4 g hg
    obtain ⟨g', rfl, _⟩ := fuN (c := 0) (N := g) hg
    have e : ys = dn := by simpa using ey
    exact ⟨l, L, N, κ, h, for_end hy0 (by simp [e]), by rw [e]; exact d, aL, aN, hy0, rfl, l2, l3, l4⟩
  | cons x rs ih =>
    intro dn L N κ h l ey d aL aN hy0 o1 o2 l2 l3 l4 g hg
    obtain ⟨g', rfl, hg'⟩ := fuN (c := rs.length + 1) (N := g) hg
    have hd : dn.length ≤ 17 := by have := congrArg List.length ey; simp at this; lia
    obtain ⟨l1, L1, N1, κ1, h1, e1, d1, s1, f1⟩ := body_ok d hd (l := l.set 5 (.int x)) (by rw [aL]; exact l2) (by rw [aN]; exact l3) l4 (x := x) rfl hf hn
    rw [for_nxt hy0 (v := .int x) (by rw [ey]; simp) e1]
    obtain ⟨k0, k1, k2⟩ := s1.fr 0 _ h0 hy0 o1 o2
    have len : (dn ++ [x]).length = dn.length + 1 := by simp
    obtain ⟨l', L', N', κ', h', e2, r1, r2, r3, r4, r5, r6, r7, r8⟩ := ih (dn ++ [x]) L1 N1 κ1 h1 l1 (by rw [ey]; simp) (by rw [len]; exact d1) ((s1.sl _ d.rL).2.trans aL) ((s1.sn _ d.rN).2.trans aN) k0 k1 k2
      ((f1 2 (by decide)).trans l2) ((f1 3 (by decide)).trans l3) ((f1 4 (by decide)).trans l4) g' (by lia)
    rw [len] at e2
    exact ⟨l', L', N', κ', h', e2, r1, r2, r3, r4, r5.trans (f1 1 (by decide)), r6, r7, r8⟩
end MineB
end

section
namespace MineB
open Mine
set_option linter.unusedSimpArgs false
set_option linter.unusedVariables false
/-! behind the deeds -/
structure FS (L N : Sd) (h : H) : Prop where
  two : Two L N h
  a : L.a = N.a
  trL : Tr L.a L.ids
  trN : Tr N.a N.ids
  rL : root ∈ L.ids
  rN : root ∈ N.ids
  zL : 2 * L.ids.length + 100 ≤ ML
  zN : 2 * N.ids.length + 100 ≤ ML
theorem FS.ext {L N h h'} (f : FS L N h) (e : Ext h h') : FS L N h' := { f with two := (f.two.ext e).two }
theorem FS.dL {L N h} (f : FS L N h) : Dp L.a 40 root := f.trL.dp 40 root f.rL (by lia)
theorem FS.dN {L N h} (f : FS L N h) : Dp N.a 40 root := f.trN.dp 40 root f.rN (by lia)
theorem DI.fs {e L N κ h kp} (d : DI e L N κ h kp) (he : e ≤ 18) : FS L N h := by
  have pw : 5 * 2 ^ e ≤ 1310720 := by
    have : 2 ^ e ≤ 2 ^ 18 := Nat.pow_le_pow_right (by lia) he
    lia
  have hM : ML = 16777216 := rfl
  have zL := d.zL; have zN := d.zN
  exact ⟨d.two, d.a, d.trL, d.trN, d.rL, d.rN, by lia, by lia⟩
noncomputable def chk1 : S := .ite (.bor (.cons (.not (.call 26 (.cons (.var 2) (.cons (.var 3) .nil)))) (.cons (.not (.call 26 (.cons (.idx (.var 4) (.int 0)) (.cons (.idx (.var 4) (.int 1)) .nil)))) .nil))) (.cons (.ret (.bool false)) .nil) .nil
theorem chk1_ok {e L N κ h kp} (d : DI e L N κ h kp) (he : e ≤ 18) {l : Loc} (l2 : l 2 = some (.ref (L.A root 0))) (l3 : l 3 = some (.ref (N.A root 0))) (l4 : l 4 = some (.ref kp)) {fu n : Nat} (hn : 40 ≤ n) :
    ∃ h', evS ⟨fu, callN fu n⟩ chk1 l h = .nxt l h' ∧ Ext h h' := by
  have f := d.fs he
  have hM : ML = 16777216 := rfl
  have z := f.zL
  obtain ⟨h1, e1, x1⟩ := law_like_ok (fu := fu) 40 h _ _ n (like_of d.two d.a d.trL (by lia) 40 root d.rL d.rN f.dL) hn
  have d1 := d.ext x1
  obtain ⟨h2, e2, x2⟩ := law_like_ok (fu := fu) 40 h1 _ _ n (like_of d1.two d.a d.trL (by lia) 40 κ d.kL d.kN (d.trL.dp 40 κ d.kL (by lia))) hn
  refine ⟨h2, ?_, x1.trans x2⟩
  have i0 : idxV h1 (.ref kp) (.int 0) = .ok (.ref (L.A κ 0)) h1 := idx_ok d1.kc rfl
  have i1 : idxV h1 (.ref kp) (.int 1) = .ok (.ref (N.A κ 0)) h1 := idx_ok d1.kc rfl
  exact s_else (x_bor (or_f (x_not (t := true) (x_call (x_args (x_var l2) (x_args1 (x_var l3))) e1)) (or_f (x_not (t := true) (x_call (x_args (x_idx (x_var l4) rfl i0) (x_args1 (x_idx (x_var l4) rfl i1))) e2)) rfl)))
/-- the law's list of all nodes, as a comprehension's source -/
theorem its_all {L : Sd} {h : H} {f : Id → Option Val} {cond elt : Loc → H → R V} (hE : ∀ (j : Id) (t pa : Nat), j ∈ L.ids → h[pa]? = some (intC (pth L.a j)) → ∀ h1, Ext h h1 → h.length < h1.length → ∀ l : Loc, (l 0 = some (.ref (L.A j 0))) → (l 1 = some (.ref pa)) →
      match f j with
      | none => ∃ h2, cond l h1 = .ok (.bool false) h2 ∧ Ext h1 h2
      | some c => ∃ h2 w h3, C5 (cond l h1 = .ok (.bool true) h2) (Ext h1 h2) (elt l h2 = .ok w h3) (Ext h2 h3) (Is h.length h3 c w)) :
    ∀ (js : List Id) (vs : List V), (∀ j ∈ js, j ∈ L.ids) → AllL L h js vs → ∃ its : List (V × Option Val), C3 (its.map (·.1) = vs) (its.filterMap (·.2) = js.filterMap f) (∀ x ∈ its, El true cond elt h x) := by
  intro js
  induction js with
  | nil => intro vs _ a; cases vs with
    | nil => exact ⟨[], rfl, rfl, fun x hx => by cases hx⟩
    | cons v vs => exact a.elim
  | cons j js ih => intro vs hj a; cases vs with
    | nil => exact a.elim
    | cons v vs =>
      obtain ⟨⟨t, pa, rfl, a1, a2⟩, a3⟩ := a
      obtain ⟨its, e1, e2, e3⟩ := ih vs (fun q hq => hj q (List.mem_cons_of_mem _ hq)) a3
      refine ⟨(.ref t, f j) :: its, by simp [e1], by simp only [List.filterMap_cons, e2], fun x hx => ?_⟩
      rcases List.mem_cons.1 hx with rfl | hx
      · intro h3 x3 l3
        exact ⟨fun x => if x = 0 then some (.ref (L.A j 0)) else if x = 1 then some (.ref pa) else none, by dsimp only [bindT]; rw [unpair_ok (x3 _ _ a1)]; rfl, hE j t pa (hj j List.mem_cons_self) a2 h3 x3 l3 _ rfl rfl⟩
      · exact e3 x hx
noncomputable def chk2 : S := .ite (.cmp .ne (.comp (.call 9 (.cons (.var 0) .nil)) false (.call 10 (.cons (.var 3) .nil))) (.comp (.var 1) true (.var 6))) (.cons (.ret (.bool false)) .nil) .nil
theorem ne_false {h : H} {x y : Nat} (e : eqV 9 h (.ref x) (.ref y) = some true) : cmpV .ne h (.ref x) (.ref y) = .ok (.bool false) h := by
  exact cmp_ne e
theorem chk2_ok {L N h} (f : FS L N h) {l : Loc} (l3 : l 3 = some (.ref (N.A root 0))) {am : Nat} {vs : List V} (l6 : l 6 = some (.ref am)) (ham : h[am]? = some (.lst vs)) (al : AllL L h (pre L.a 40 root) vs) {fu n : Nat} (hf : FU ≤ fu) (hn : 40 ≤ n) :
    ∃ h', evS ⟨fu, callN fu n⟩ chk2 l h = .nxt l h' ∧ Ext h h' := by
  have hM : ML = 16777216 := rfl
  have zL := f.zL; have zN := f.zN
  obtain ⟨wt, h1, e1, x1, y1, _⟩ := walk_ok f.two.n f.trN (by lia) f.rN f.dN hf (N := n) (by lia)
  have f1 := f.ext x1
  have hE : ∀ x ∈ ((pre N.a 40 root).map fun j => ((V.ref (N.A j 0), some (Val.ce (intC (pth N.a j)))) : V × Option Val)), El false (fun _ h => .ok (.bool true) h) (evE ⟨fu, callN fu n⟩ (.call 9 (.cons (.var 0) .nil))) h1 x := by
    intro x hx h2 e2 l2
    obtain ⟨j, hj, rfl⟩ := List.mem_map.1 hx
    have hj' := pre_ids f.trN 40 root f.rN j hj
    obtain ⟨y, h3, e3, x3, p3, g3⟩ := line_to_ok (f1.two.n.ext e2) hj' (f.trN.lv j hj') hf (N := n) (by lia)
    exact ⟨_, rfl, h2, .ref y, h3, rfl, Ext.refl _, x_call (x_args1 (x_var rfl)) e3, x3, y, rfl, p3, by lia⟩
  have plN := pre_len f.trN 40 root f.rN
  have plL := pre_len f.trL 40 root f.rL
  obtain ⟨h2, ws, e2, x2, hw, il⟩ := comp_ok (c := ⟨fu, callN fu n⟩) hf (a := wt) _ hE (by rw [y1]; simp [rf, Function.comp_def]) (by simp; lia)
  have il1 : IsL h1.length h2 ((pre L.a 40 root).map fun j => .ce (intC (pth L.a j))) ws := by
    have e : ((pre N.a 40 root).map fun j => ((V.ref (N.A j 0), some (Val.ce (intC (pth N.a j)))) : V × Option Val)).filterMap (·.2) = (pre L.a 40 root).map fun j => .ce (intC (pth L.a j)) := by
      rw [f.a]; simp [List.filterMap_map, Function.comp_def]
    rw [e] at il; exact il
  have al2 := (al.ext x1).ext x2
  have ham2 := x2 _ _ (x1 _ _ ham)
  obtain ⟨its, i1, i2, i3⟩ := its_all (L := L) (h := h2) (f := fun j => some (.ce (intC (pth L.a j)))) (cond := fun _ h => .ok (.bool true) h) (elt := evE ⟨fu, callN fu n⟩ (.var 1)) (fun j t pa hj hp h3 x3 g3 l l0 l1 => by
    refine ⟨h3, .ref pa, h3, rfl, Ext.refl _, x_var l1, Ext.refl _, pa, rfl, x3 _ _ hp, ?_⟩
    have := lt_of_get hp; lia) (pre L.a 40 root) vs (pre_ids f.trL 40 root f.rL) al2
  have lv := al.len
  have li := congrArg List.length i1
  simp at li
  obtain ⟨h3, us, e3, x3, hu, il3⟩ := comp_ok (c := ⟨fu, callN fu n⟩) hf (a := am) its i3 (by rw [ham2, i1]) (by lia)
  have i2' : its.filterMap (·.2) = (pre L.a 40 root).map fun j => .ce (intC (pth L.a j)) := by rw [i2]; simp
  rw [i2'] at il3
  have eq := eqV_IsL (n := 5) (fun c hc => by obtain ⟨j, _, rfl⟩ := List.mem_map.1 hc; exact .inl ⟨_, rfl⟩) (x3 _ _ hw) hu (il1.ext (.of x3)) il3
  have nf := ne_false eq
  refine ⟨h3, ?_, (x1.trans x2).trans x3⟩
  have c1 : evE ⟨fu, callN fu n⟩ (.comp (.call 9 (.cons (.var 0) .nil)) false (.call 10 (.cons (.var 3) .nil))) l h = .ok (.ref h1.length) h2 := by
    have : evE ⟨fu, callN fu n⟩ (.call 10 (.cons (.var 3) .nil)) l h = .ok (.ref wt) h1 := x_call (x_args1 (x_var l3)) e1
    exact x_comp this e2
  have c2 : evE ⟨fu, callN fu n⟩ (.comp (.var 1) true (.var 6)) l h2 = .ok (.ref h2.length) h3 := by
    exact x_comp (x_var l6) e3
  exact s_else (e_cmp c1 c2 nf)
noncomputable def chk3 : S := .ite (.cmp .ne (.call 12 (.cons (.var 3) .nil)) (.compIf (.var 1) true (.var 6) (.cmp .eq (.idx (.var 0) (.int 4)) (.lst .nil)))) (.cons (.ret (.bool false)) .nil) .nil
theorem eqV_nil {h : H} {x : Nat} {vs : List V} (e : h[x]? = some (.lst vs)) : eqV 9 (h ++ [.lst []]) (.ref x) (.ref h.length) = some vs.isEmpty := by
  have e1 := Ext.app h [.lst []] _ _ e
  have e2 : (h ++ [Cell.lst []])[h.length]? = some (.lst []) := by simp
  dsimp only [eqV]; rw [e1, e2]
  cases vs with
  | nil => rfl
  | cons v vs => rfl
theorem eq_nil {h : H} {x : Nat} {vs : List V} (e : h[x]? = some (.lst vs)) : cmpV .eq (h ++ [.lst []]) (.ref x) (.ref h.length) = .ok (.bool vs.isEmpty) (h ++ [.lst []]) := cmp_eq (eqV_nil e)
theorem chk3_ok {L N h} (f : FS L N h) {l : Loc} (l3 : l 3 = some (.ref (N.A root 0))) {am : Nat} {vs : List V} (l6 : l 6 = some (.ref am)) (ham : h[am]? = some (.lst vs)) (al : AllL L h (pre L.a 40 root) vs) {fu n : Nat} (hf : FU ≤ fu) (hn : 40 ≤ n) :
    ∃ h', evS ⟨fu, callN fu n⟩ chk3 l h = .nxt l h' ∧ Ext h h' := by
  have hM : ML = 16777216 := rfl
  have zL := f.zL; have zN := f.zN
  obtain ⟨wt, h1, ws, m0, e1, x1, y1, il⟩ := all_lines_ok f.two.n f.trN (by lia) f.rN f.dN hf (N := n) (by lia)
  have f1 := f.ext x1
  rw [← f.a] at il
  have al1 := al.ext x1
  have ham1 := x1 _ _ ham
  obtain ⟨its, i1, i2, i3⟩ := its_all (L := L) (h := h1) (f := fun j => if leaf L.a j then some (.ce (intC (pth L.a j))) else none) (cond := evE ⟨fu, callN fu n⟩ (.cmp .eq (.idx (.var 0) (.int 4)) (.lst .nil))) (elt := evE ⟨fu, callN fu n⟩ (.var 1)) (fun j t pa hj hp h3 x3 g3 l l0 l1 => by
    have o3 := f1.two.l.ext x3
    have ik := o3.ikids hj
    have en := eq_nil (o3.kids hj)
    rw [List.isEmpty_map] at en
    have cd : evE ⟨fu, callN fu n⟩ (.cmp .eq (.idx (.var 0) (.int 4)) (.lst .nil)) l h3 = .ok (.bool (leaf L.a j)) (h3 ++ [.lst []]) := by
      exact e_cmp (x_idx (x_var l0) rfl ik) (x_lst rfl) en
    cases hl : leaf L.a j with
    | false => rw [hl] at cd; exact ⟨_, cd, Ext.app _ _⟩
    | true =>
      rw [hl] at cd
      refine ⟨_, .ref pa, _, cd, Ext.app _ _, x_var l1, Ext.refl _, pa, rfl, Ext.app _ _ _ _ (x3 _ _ hp), ?_⟩
      have := lt_of_get hp; lia) (pre L.a 40 root) vs (pre_ids f.trL 40 root f.rL) al1
  have plL := pre_len f.trL 40 root f.rL
  have lv := al.len
  have li := congrArg List.length i1
  simp at li
  obtain ⟨h3, us, e3, x3, hu, il3⟩ := comp_ok (c := ⟨fu, callN fu n⟩) hf (a := am) its i3 (by rw [ham1, i1]) (by lia)
  have i2' : its.filterMap (·.2) = ((pre L.a 40 root).filter (leaf L.a)).map fun j => .ce (intC (pth L.a j)) := by
    rw [i2]
    induction pre L.a 40 root with
    | nil => rfl
    | cons j js ih => cases hl : leaf L.a j <;> simp [hl] <;> simpa using ih
  rw [i2'] at il3
  have eq := eqV_IsL (n := 5) (fun c hc => by obtain ⟨j, _, rfl⟩ := List.mem_map.1 hc; exact .inl ⟨_, rfl⟩) (x3 _ _ y1) hu (il.ext (.of x3)) il3
  have nf := ne_false eq
  refine ⟨h3, ?_, x1.trans x3⟩
  have c1 : evE ⟨fu, callN fu n⟩ (.call 12 (.cons (.var 3) .nil)) l h = .ok (.ref wt) h1 := x_call (x_args1 (x_var l3)) e1
  have c2 : evE ⟨fu, callN fu n⟩ (.compIf (.var 1) true (.var 6) (.cmp .eq (.idx (.var 0) (.int 4)) (.lst .nil))) l h1 = .ok (.ref h1.length) h3 := by
    exact x_compIf (x_var l6) e3
  exact s_else (e_cmp c1 c2 nf)
noncomputable def chk4 : S := .ite (.cmp .ne (.comp (.tup (.cons (.attr (.var 0) .move) (.cons (.var 1) .nil))) true (.call 11 (.cons (.var 3) .nil))) (.call 21 (.cons (.var 2) .nil))) (.cons (.ret (.bool false)) .nil) .nil
theorem chk4_ok {L N h} (f : FS L N h) {l : Loc} (l2 : l 2 = some (.ref (L.A root 0))) (l3 : l 3 = some (.ref (N.A root 0))) {fu n : Nat} (hf : FU ≤ fu) (hn : 40 ≤ n) :
    ∃ h', evS ⟨fu, callN fu n⟩ chk4 l h = .nxt l h' ∧ Ext h h' := by
  have hM : ML = 16777216 := rfl
  have zL := f.zL; have zN := f.zN
  obtain ⟨wt, h1, ws, e1, x1, y1, tl⟩ := walk_both_ok f.two.n f.trN (by lia) f.rN f.dN hf (N := n) (by lia)
  have f1 := f.ext x1
  have bl := bo_len 40 root f.dN
  have pl := pre_len f.trN 40 root f.rN
  have bm : ∀ (m : Nat) (i : Id), i ∈ N.ids → ∀ p ∈ bo N.a m i, p.1 ∈ N.ids := by
    intro m
    induction m with
    | zero => intro i _ p hp; cases hp
    | succ m ih =>
      intro i hi p hp
      obtain ⟨k, hk, hp⟩ := List.mem_flatMap.1 hp
      have hkN := f.two.n.cl i hi k hk
      rcases List.mem_cons.1 hp with rfl | hp
      · exact hkN
      · rcases List.mem_append.1 hp with hp | hp
        · exact ih k hkN p hp
        · rw [List.mem_singleton] at hp; subst hp; exact hkN
  have items : ∀ (ps : List (Id × Bool)) (vs : List V), (∀ p ∈ ps, p.1 ∈ N.ids) → TL h1 (rfs N ps) vs → ∃ its : List (V × Option Val), C3 (its.map (·.1) = vs) (its.filterMap (·.2) = (mvs ps).map (fun c => .ce (tupC c))) (∀ x ∈ its, El true (fun _ h => .ok (.bool true) h) (evE ⟨fu, callN fu n⟩ (.tup (.cons (.attr (.var 0) .move) (.cons (.var 1) .nil)))) h1 x) := by
    intro ps
    induction ps with
    | nil => intro vs _ a; cases vs with
      | nil => exact ⟨[], rfl, rfl, fun x hx => by cases hx⟩
      | cons v vs => exact a.elim
    | cons p ps ih => intro vs hp a; cases vs with
      | nil => exact a.elim
      | cons v vs =>
        obtain ⟨⟨t, rfl, a1⟩, a3⟩ := a
        obtain ⟨its, e1, e2, e3⟩ := ih vs (fun q hq => hp q (List.mem_cons_of_mem _ hq)) a3
        refine ⟨(.ref t, some (.ce (tupC (.int (mv p.1), p.2)))) :: its, by simp [e1], by simp [e2, mvs], fun x hx => ?_⟩
        rcases List.mem_cons.1 hx with rfl | hx
        · intro h3 x3 l3
          have a1' : h3[t]? = some (.tup [.ref (N.A p.1 0), .bool p.2]) := x3 _ _ a1
          have am := (f1.two.n.ext x3).amove (hp p List.mem_cons_self)
          refine ⟨fun x => if x = 0 then some (.ref (N.A p.1 0)) else if x = 1 then some (.bool p.2) else none, by dsimp only [bindT]; rw [unpair_ok a1']; rfl, h3, .ref h3.length, h3 ++ [tupC (.int (mv p.1), p.2)], rfl, Ext.refl _, ?_, Ext.app _ _, h3.length, rfl, by simp, by lia⟩
          exact x_tup (x_args (x_attr (x_var rfl) am) (x_args1 (x_var rfl)))
        · exact e3 x hx
  obtain ⟨its, i1, i2, i3⟩ := items (bo N.a 40 root) ws (bm 40 root f.rN) tl
  have lt := tl.len
  have lr : (rfs N (bo N.a 40 root)).length = (bo N.a 40 root).length := by simp [rfs]
  have li := congrArg List.length i1
  simp at li
  obtain ⟨h2, us, e2, x2, hu, il⟩ := comp_ok (c := ⟨fu, callN fu n⟩) hf (a := wt) its i3 (by rw [y1, i1]) (by lia)
  rw [i2, ← f.a] at il
  have f2 := f1.ext x2
  obtain ⟨out, h3, ts, e3, x3, y3, tl3, _⟩ := law_both_ok f.trL (by lia) hf 40 root h2 n f2.two.l f.rL f.dL hn
  have eq := eqV_IsL (n := 5) (fun c hc => by obtain ⟨j, hj, rfl⟩ := List.mem_map.1 hc; obtain ⟨p, _, rfl⟩ := List.mem_map.1 hj; exact .inr ⟨_, _, rfl⟩) (x3 _ _ hu) y3 (il.ext (.of x3)) (tl3.to y3)
  have nf := ne_false eq
  refine ⟨h3, ?_, (x1.trans x2).trans x3⟩
  have c1 : evE ⟨fu, callN fu n⟩ (.comp (.tup (.cons (.attr (.var 0) .move) (.cons (.var 1) .nil))) true (.call 11 (.cons (.var 3) .nil))) l h = .ok (.ref h1.length) h2 := by
    have : evE ⟨fu, callN fu n⟩ (.call 11 (.cons (.var 3) .nil)) l h = .ok (.ref wt) h1 := x_call (x_args1 (x_var l3)) e1
    exact x_comp this e2
  have c2 : evE ⟨fu, callN fu n⟩ (.call 21 (.cons (.var 2) .nil)) l h2 = .ok (.ref out) h3 := x_call (x_args1 (x_var l2)) e3
  exact s_else (e_cmp c1 c2 nf)
end MineB
end

section
namespace MineB
open Mine
set_option linter.unusedSimpArgs false
set_option linter.unusedVariables false
theorem Dp_tw {a b : Ab} : ∀ (n : Nat) (i : Id), Dp a n i → (∀ k ∈ pre a n i, b.re (tw k) = twR (a.re k)) → Dp b n (tw i)
  | 0, _, d, _ => d.elim
  | n + 1, i, d, h => fun c hc => by
    rw [h i (pre_pos (n := n + 1) d)] at hc
    obtain ⟨k, hk, rfl⟩ := List.mem_map.1 hc
    exact Dp_tw n k (d k hk) fun j hj => h j (List.mem_cons_of_mem _ (List.mem_flatMap.2 ⟨k, hk, hj⟩))
noncomputable def twin0 (h : H) : Sd := S0.add (tw root) (fN h.length)
noncomputable def s10 : S := .assign 12 (.call 19 .nil)
noncomputable def s11 : S := .expr (.call 25 (.cons (.var 2) (.cons (.var 12) .nil)))
noncomputable def s12 : S := .ite (.not (.call 14 (.cons (.var 3) (.cons (.var 12) .nil)))) (.cons (.ret (.bool false)) .nil) .nil
noncomputable def s13 : S := .expr (.append (.attr (.idx (.call 10 (.cons (.var 12) .nil)) (.bin .mod (.idx (.var 1) .neg1) (.len (.var 6)))) .nags) (.int 9))
noncomputable def s14 : S := .ite (.bor (.cons (.call 14 (.cons (.var 3) (.cons (.var 12) .nil))) (.cons (.call 14 (.cons (.var 12) (.cons (.var 3) .nil))) .nil))) (.cons (.ret (.bool false)) .nil) .nil
theorem twin_ok {L N h} (f : FS L N h) {K : Nat} (lb : Lbs K L.a) (hK : K < 1000) {l : Loc} (l1 : l 1 = some (.ref 0)) (l2 : l 2 = some (.ref (L.A root 0))) (l3 : l 3 = some (.ref (N.A root 0))) {am : Nat} {vs : List V} (l6 : l 6 = some (.ref am)) (ham : h[am]? = some (.lst vs)) (al : AllL L h (pre L.a 40 root) vs)
    {ys : List Int} (hy : h[0]? = some (intC ys)) (hy6 : 6 ≤ ys.length) (oL : Out L am) (r : Ss) {fu n : Nat} (hf : FU ≤ fu) (hn : 44 ≤ n) :
    ∃ l' h', C3 (evSs ⟨fu, callN fu n⟩ (.cons s10 (.cons s11 (.cons s12 (.cons s13 (.cons s14 r))))) l h = evSs ⟨fu, callN fu n⟩ r l' h') (FS L N h') ((∀ y, y ≠ 12 → l' y = l y)) := by
  have hM : ML = 16777216 := rfl
  have zL := f.zL; have zN := f.zN
  have plL := pre_len f.trL 40 root f.rL
  -- the twin's root
  have s1 : Stp true S0 h (twin0 h) (h ++ nodeCells (.int 0) .none h.length) := newN_ok (k := tw root) (ok0 true h) (fun h => by cases h) rfl (fun h => by cases h)
  have x1 : Ext h (h ++ nodeCells (.int 0) .none h.length) := Ext.app _ _
  have f1 := f.ext x1
  have aT : (twin0 h).A (tw root) 0 = h.length := congrFun (addA_self S0 _ _) 0
  have dL := (s1.other f.two.l (fun _ h => by cases h)).2
  have dN := (s1.other f.two.n (fun _ h => by cases h)).2
  have e1 : evS ⟨fu, callN fu n⟩ s10 l h = .nxt (l.set 12 (.ref h.length)) (h ++ nodeCells (.int 0) .none h.length) := by
    have := new_root_ok h fu (N := n) (by lia)
    exact s_assign (x_call rfl this)
  have am1 := x1 _ _ ham
  have y01 := x1 _ _ hy
  have al1 := al.ext x1
  have oam : Out (twin0 h) am := s1.out (fun _ h => by cases h) (lt_of_get ham)
  have oy : Out (twin0 h) 0 := s1.out (fun _ h => by cases h) (lt_of_get hy)
  generalize h ++ nodeCells (.int 0) .none h.length = h1 at *
  -- planted
  have twoT : Two L (twin0 h) h1 := ⟨f1.two.l, s1.ok, dL.symm⟩
  have tag : ∀ k ∈ pre L.a 40 root, k.1 = root.1 := fun k hk => (pre_suf f.trL 40 root f.rL k hk).1
  obtain ⟨T, h2, e2, s2, p2⟩ := law_plant_ok f.trL (by lia) lb (by lia) hf 40 (twin0 h) h1 root n twoT f.rL f.dL List.mem_cons_self rfl (fun j hj => ⟨rfl, fun g => decide_eq_true g⟩)
    (fun k hk ne hm => by
      have : tw k = tw root := List.mem_singleton.1 hm
      exact ne (tw_inj (tag k hk) this)) (by lia)
  rw [aT] at e2
  have nN := s2.other f1.two.n dN
  have nL := s2.other f1.two.l dL
  have f2 : FS L N h2 := { f1 with two := ⟨nL.1, nN.1, f1.two.d⟩ }
  have am2 := (s2.keep am1 oam)
  have y02 := (s2.keep y01 oy)
  have rT : tw root ∈ T.ids := (s2.self _ List.mem_cons_self).1
  have aT2 : T.A (tw root) 0 = h.length := by rw [(s2.self _ List.mem_cons_self).2, aT]
  -- the same
  have reN : ∀ k ∈ pre N.a 40 root, T.a.re (tw k) = twR (N.a.re k) := by rw [← f.a]; exact p2.re
  obtain ⟨st, pt⟩ := sameT_tw (b := T.a) 40 root f.dN reN
  have eP : pre N.a 40 root = pre L.a 40 root := by rw [f.a]
  obtain ⟨h3, e3, x3⟩ := same_tree_ok f2.two.n s2.ok f.rN rT f.dN (by rw [eP]; lia) hf (N := n) (by lia)
  rw [aT2, st] at e3
  have f3 := f2.ext x3
  have oT3 := s2.ok.ext x3
  have dT := Dp_tw (b := T.a) 40 root f.dN reN
  have lT : (pre T.a 40 (tw root)).length = (pre L.a 40 root).length := by rw [pt, eP]; simp
  -- a sign more
  obtain ⟨wt, h4, e4, x4, y4, _⟩ := walk_len oT3 rT dT (by lia) hf (N := n) (by lia)
  rw [aT2] at e4
  have oT4 := oT3.ext x4
  have f4 := f3.ext x4
  have y04 := x4 _ _ (x3 _ _ y02.1)
  have am4 := x4 _ _ (x3 _ _ am2.1)
  obtain ⟨x, hx⟩ : ∃ x, ys.getLast? = some x := by
    cases hg : ys.getLast? with
    | some x => exact ⟨x, rfl⟩
    | none => rw [List.getLast?_eq_none_iff] at hg; rw [hg] at hy6; simp at hy6
  have lv := al.len
  have lp : 0 < (pre L.a 40 root).length := List.length_pos_of_mem (pre_pos f.dL)
  have md := md_ok h4 x (j := (vs.length : Int)) (by lia) (by lia)
  have m1 : 0 ≤ x % (vs.length : Int) := Int.emod_nonneg _ (by lia)
  have m2 : x % (vs.length : Int) < vs.length := Int.emod_lt_of_pos _ (by lia)
  obtain ⟨p, hp⟩ : ∃ p : Nat, x % (vs.length : Int) = p := ⟨(x % (vs.length : Int)).toNat, by lia⟩
  rw [hp] at md m2
  obtain ⟨i, hi⟩ : ∃ i, (pre N.a 40 root)[p]? = some i := ⟨_, List.getElem?_eq_getElem (by rw [eP]; lia)⟩
  have him := List.mem_of_getElem? hi
  have hiT : tw i ∈ T.ids := (p2.ids _).2 (.inr ⟨i, by rw [← eP]; exact him, rfl⟩)
  have rei := reN i him
  have labT : lab T (tw i) 2 = (N.a.re i).n := (congrArg Rec.n rei :)
  have lK : (lab T (tw i) 2).length < ML := by
    rw [labT, ← f.a]; have := (lb i).2.1.len; lia
  obtain ⟨h5, e5, s5⟩ := app_step oT4 hiT (p := 2) (by lia) (by lia) 9 lK
  have dT4N : Dj T N := nN.2
  have dT4L : Dj T L := nL.2
  have n5 := s5.other f4.two.n dT4N
  have l5' := s5.other f4.two.l dT4L
  have f5 : FS L N h5 := { f4 with two := ⟨l5'.1, n5.1, f4.two.d⟩ }
  -- no longer the same
  let T5 : Sd := T.on (T.a.lb (tw i) 2 (lab T (tw i) 2 ++ [9]))
  have kT5 : ∀ j, (T5.a.re j).kids = (T.a.re j).kids := fun j => by
    show ((T.a.lb (tw i) 2 _).re j).kids = _
    unfold Ab.lb; rw [put_re]; split
    · subst j; rfl
    · rfl
  have nT5 : (T5.a.re (tw i)).n = (N.a.re i).n ++ [9] := by
    show ((T.a.lb (tw i) 2 _).re (tw i)).n = _
    unfold Ab.lb; rw [re_self, labT]; rfl
  have pT5 : pre T5.a 40 = pre T.a 40 := pre_kids kT5 40
  have dT5 := Dp_kids (b := T5.a) kT5 40 _ dT
  have key : (pre N.a 40 root).map (fun k => (N.a.re k).n) ≠ (pre T5.a 40 (tw root)).map (fun k => (T5.a.re k).n) := by
    intro h
    have := congrArg (fun q => q[p]?) h
    simp only [List.getElem?_map, hi, pT5, pt, Option.map_some, nT5] at this
    have := congrArg List.length (Option.some.inj this)
    simp at this
  have sm1 : sameT N.a T5.a 40 root (tw root) = false := by
    cases hs : sameT N.a T5.a 40 root (tw root) with
    | false => rfl
    | true => exact (key (sameT_nags 40 _ _ hs)).elim
  have sm2 : sameT T5.a N.a 40 (tw root) root = false := by
    cases hs : sameT T5.a N.a 40 (tw root) root with
    | false => rfl
    | true => exact (key (sameT_nags 40 _ _ hs).symm).elim
  have a5 : T5.A (tw root) 0 = h.length := aT2
  obtain ⟨h6, e6, x6⟩ := same_tree_ok (T := T5) f5.two.n s5.ok f.rN rT f.dN (by rw [eP]; lia) hf (N := n) (by lia)
  rw [sm1, a5] at e6
  have f6 := f5.ext x6
  obtain ⟨h7, e7, x7⟩ := same_tree_ok (S := T5) (s5.ok.ext x6) f6.two.n rT f.rN dT5 (by rw [pT5, lT]; lia) hf (N := n) (by lia)
  rw [sm2, a5] at e7
  have f7 := f6.ext x7
  refine ⟨l.set 12 (.ref h.length), h7, ?_, f7, fun y hy => if_neg hy⟩
  have v2 : (l.set 12 (.ref h.length)) 2 = some (.ref (L.A root 0)) := l2
  have v3 : (l.set 12 (.ref h.length)) 3 = some (.ref (N.A root 0)) := l3
  have v1 : (l.set 12 (.ref h.length)) 1 = some (.ref 0) := l1
  have v6 : (l.set 12 (.ref h.length)) 6 = some (.ref am) := l6
  have v12 : (l.set 12 (.ref h.length)) 12 = some (.ref h.length) := rfl
  generalize l.set 12 (.ref h.length) = la at *
  have m11 : evS ⟨fu, callN fu n⟩ s11 la h1 = .nxt la h2 := s_expr (x_call (x_args (x_var v2) (x_args1 (x_var v12))) e2)
  have m12 : evS ⟨fu, callN fu n⟩ s12 la h2 = .nxt la h3 := s_else (x_not (t := true) (x_call (x_args (x_var v3) (x_args1 (x_var v12))) e3))
  have m13 : evS ⟨fu, callN fu n⟩ s13 la h3 = .nxt la h5 := by
    have i1 : idxV h4 (.ref 0) (.int (-1)) = .ok (.int x) h4 := by
      dsimp only [idxV]; rw [gLT_ok y04]; dsimp only
      rw [if_neg (by decide), if_pos rfl, List.getLast?_map, hx]; rfl
    have lt := lenV_ok am4
    have i2 : idxV h4 (.ref wt) (.int p) = .ok (.ref (T.A (tw i) 0)) h4 := by
      have : (pre T.a 40 (tw root))[p]? = some (tw i) := by rw [pt]; simp [hi]
      exact idx_ok y4 (by rw [rf, List.getElem?_map, this]; rfl)
    have an := oT4.anag hiT
    have is := oT4.isL hiT (p := 2) (by lia) (by lia)
    exact ap_ok (x_attr (x_idx (x_call (x_args1 (x_var v12)) e4) (e_bin (x_idx (x_var v1) rfl i1) (x_len (x_var v6) lt) md) i2) an) is rfl e5
  have m14 : evS ⟨fu, callN fu n⟩ s14 la h5 = .nxt la h7 := s_else (x_bor (or_f (x_call (x_args (x_var v3) (x_args1 (x_var v12))) e6) (or_f (x_call (x_args (x_var v12) (x_args1 (x_var v3))) e7) rfl)))
  rw [ss_nxt e1, ss_nxt m11, ss_nxt m12, ss_nxt m13, ss_nxt m14]
end MineB
end

section
namespace MineB
open Mine
set_option linter.unusedSimpArgs false
set_option linter.unusedVariables false
noncomputable def mlBody : Ss := .cons (.assign 14 (.idx (.idx (.var 14) (.int 4)) (.int 0))) (.cons (.expr (.append (.var 13) (.idx (.var 14) (.int 0)))) .nil)
noncomputable def mlCond : E := .cmp .ne (.idx (.var 14) (.int 4)) (.lst .nil)
theorem ne_nil {h : H} {x : Nat} {vs : List V} (e : h[x]? = some (.lst vs)) : cmpV .ne (h ++ [.lst []]) (.ref x) (.ref h.length) = .ok (.bool (!vs.isEmpty)) (h ++ [.lst []]) := cmp_ne (eqV_nil e)
theorem get_app (h r : H) (i : Nat) : (h ++ r)[h.length + i]? = r[i]? := by rw [List.getElem?_append_right (Nat.le_add_right _ _), Nat.add_sub_cancel_left]
noncomputable def listCells9 (m : V) (L : Nat) (v : V) : H := [.lst [], .lst [], .lst [], .lst [m, .ref L, .ref (L + 1), .ref (L + 2), v]]
theorem ev_nil4 {c : Ctx} {a b : E} {l : Loc} {h : H} {m v : V} (e : evE c a l h = .ok m h) (e' : ∀ h, evE c b l h = .ok v h) :
    evE c (.lst (.cons a (.cons (.lst .nil) (.cons (.lst .nil) (.cons (.lst .nil) (.cons b .nil)))))) l h = .ok (.ref (h.length + 3)) (h ++ listCells9 m h.length v) := by
  simp [e, e', alloc, listCells9]
theorem mainLoop {L : Sd} {h0 : H} (o : Ok false L h0) {fu n mm : Nat} (hmm : h0.length ≤ mm) : ∀ (m : Nat) (i : Id) (dn : List Int) (l : Loc) (h : H) (g : Nat), i ∈ L.ids → Dp L.a m i → m < g → dn.length + m ≤ 200 → l 14 = some (.ref (L.A i 0)) → l 13 = some (.ref mm) → Ext h0 h → h[mm]? = some (intC dn) →
    ∃ l' h', C4 (whileN (evE ⟨fu, callN fu n⟩ mlCond) (evSs ⟨fu, callN fu n⟩ mlBody) g l h = .nxt l' h') (Ext h0 h') (h'[mm]? = some (intC (dn ++ (mln L.a m i).map mv))) ((∀ y, y ≠ 14 → l' y = l y)) := by
  intro m
  induction m with
  | zero => intro i dn l h g _ d; exact d.elim
  | succ m ih =>
    intro i dn l h g hi d hg hz l14 l13 e hm
    have hM : ML = 16777216 := rfl
    obtain ⟨g', rfl, hg'⟩ := fuN (c := m + 1) (N := g) hg
    have o1 := o.ext e
    have ik := o1.ikids hi
    have en := ne_nil (o1.kids hi)
    rw [List.isEmpty_map] at en
    have cd : evE ⟨fu, callN fu n⟩ mlCond l h = .ok (.bool (!(L.a.re i).kids.isEmpty)) (h ++ [.lst []]) := by
      exact e_cmp (x_idx (x_var l14) rfl ik) (x_lst rfl) en
    have e2 : Ext h0 (h ++ [.lst []]) := e.app' _
    have hm2 := Ext.app h [.lst []] _ _ hm
    have o2 := o.ext e2
    cases hk : (L.a.re i).kids with
    | nil =>
      rw [hk] at cd
      refine ⟨l, _, whl_end cd, e2, ?_, fun _ _ => rfl⟩
      dsimp only [mln]; rw [hk]; simpa using hm2
    | cons k ks =>
      rw [hk] at cd
      have hkm : k ∈ (L.a.re i).kids := by rw [hk]; simp
      have hkL := o.cl i hi k hkm
      have ik2 := o2.ikids hi
      have i0 := o2.ikid hi (q := 0) (k := k) (by rw [hk]; rfl)
      have i0' : idxV (h ++ [.lst []]) (.ref (L.A i 4)) (.int 0) = .ok (.ref (L.A k 0)) (h ++ [.lst []]) := i0
      have im := o2.imove hkL
      have is := isLst_ok hm2
      have ap := appendV_ok hm2 (by simp; lia) (.int (mv k))
      have ec : Cell.lst (dn.map V.int ++ [.int (mv k)]) = intC (dn ++ [mv k]) := by simp [intC]
      rw [ec] at ap
      have bd : evSs ⟨fu, callN fu n⟩ mlBody l (h ++ [.lst []]) = .nxt (l.set 14 (.ref (L.A k 0))) (List.set (h ++ [Cell.lst []]) mm (intC (dn ++ [mv k]))) := by
        exact (ss_nxt (s_assign (x_idx (x_idx (x_var l14) rfl ik2) rfl i0'))).trans (ss_nxt (ap_ok (x_var (l := l.set 14 (.ref (L.A k 0))) l13) is (x_idx (x_var rfl) rfl im) ap))
      rw [whl_nxt cd bd]
      obtain ⟨l', h', e', x', hm', f'⟩ := ih k (dn ++ [mv k]) (l.set 14 (.ref (L.A k 0))) (List.set (h ++ [Cell.lst []]) mm (intC (dn ++ [mv k]))) g' hkL (d k hkm) (by lia) (by simp; lia) rfl l13 (e2.set _ hmm) (get_set_self hm2 _)
      refine ⟨l', h', e', x', ?_, fun y hy => (f' y hy).trans (if_neg hy)⟩
      dsimp only [mln]; rw [hk]; simpa using hm'
noncomputable def s18 : S := .ite (.cmp .ne (.comp (.attr (.var 0) .move) false (.call 8 (.cons (.var 3) .nil))) (.var 13)) (.cons (.ret (.bool false)) .nil) .nil
noncomputable def bareBody : Ss := .cons (.assign 15 (.lst (.cons (.lst (.cons (.var 16) (.cons (.lst .nil) (.cons (.lst .nil) (.cons (.lst .nil) (.cons (.var 15) .nil)))))) .nil))) .nil
theorem bareLoop {c : Ctx} {a : Nat} {all : List Int} : ∀ (rs dn : List Int) (l : Loc) (h : H) (k : Nat), all = dn ++ rs → h[a]? = some (intC all) → l 15 = some (.ref k) → Bare h k dn.reverse → ∀ g, rs.length < g →
    ∃ l' h' k', C5 (forN 16 a (evSs c bareBody) g dn.length l h = .nxt l' h') (Ext h h') (l' 15 = some (.ref k')) (Bare h' k' all.reverse) ((∀ y, y ≠ 15 → y ≠ 16 → l' y = l y)) := by
  intro rs
  induction rs with
  | nil =>
    intro dn l h k ea ha l15 b g hg
    obtain ⟨g', rfl, _⟩ := fuN (c := 0) (N := g) hg
    have e : all = dn := by simpa using ea
    exact ⟨l, h, k, for_end ha (by simp [e]), Ext.refl _, l15, by rw [e]; exact b, fun _ _ _ => rfl⟩
  | cons m rs ih =>
    intro dn l h k ea ha l15 b g hg
    obtain ⟨g', rfl, hg'⟩ := fuN (c := rs.length + 1) (N := g) hg
    have x1 := Ext.app h (listCells9 (.int m) h.length (.ref k))
    have ga := get_app h (listCells9 (.int m) h.length (.ref k))
    have bd : evSs c bareBody (l.set 16 (.int m)) h = .nxt ((l.set 16 (.int m)).set 15 (.ref (h ++ listCells9 (.int m) h.length (.ref k)).length)) (h ++ listCells9 (.int m) h.length (.ref k) ++ [.lst [.ref (h.length + 3)]]) :=
      ss_nxt (s_assign (x_lst (x_args1 (ev_nil4 (x_var rfl) fun _ => x_var (l := l.set 16 (.int m)) l15))))
    generalize h ++ listCells9 (.int m) h.length (.ref k) = h1 at *
    have x2 := Ext.app h1 [.lst [.ref (h.length + 3)]]
    rw [for_nxt ha (v := .int m) (by rw [ea]; simp) bd]
    have b2 : Bare (h1 ++ [.lst [.ref (h.length + 3)]]) h1.length (dn ++ [m]).reverse := by
      rw [List.reverse_append]
      exact ⟨h.length + 3, h.length, h.length + 1, h.length + 2, k, get_app_len _ _ _, x2 _ _ (ga 3), x2 _ _ (ga 0), x2 _ _ (ga 1), x2 _ _ (ga 2), b.ext (x1.trans x2)⟩
    obtain ⟨l', h', k', e', x', r15, b', f'⟩ := ih (dn ++ [m]) ((l.set 16 (.int m)).set 15 (.ref h1.length)) _ h1.length (by rw [ea]; simp) (x2 _ _ (x1 _ _ ha)) rfl b2 g' (by lia)
    refine ⟨l', h', k', by simpa using e', (x1.trans x2).trans x', r15, b', fun y y15 y16 => (f' y y15 y16).trans ((if_neg y15).trans (if_neg y16))⟩
theorem tail_ok {L N h} (f : FS L N h) {l : Loc} (l2 : l 2 = some (.ref (L.A root 0))) (l3 : l 3 = some (.ref (N.A root 0))) {fu n : Nat} (hf : FU ≤ fu) (hn : 60 ≤ n) :
    ∃ h', evSs ⟨fu, callN fu n⟩ (.cons (.assign 13 (.lst .nil)) (.cons (.assign 14 (.var 2)) (.cons (.whil mlCond mlBody) (.cons s18 (.cons (.expr (.call 18 (.cons (.var 3) .nil))) (.cons (.expr (.call 17 (.cons (.var 3) .nil))) (.cons (.assign 15 (.lst .nil))
      (.cons (.forL 16 (.rev (.var 13)) bareBody) (.cons (.ret (.call 26 (.cons (.lst (.cons (.int 0) (.cons (.lst .nil) (.cons (.lst .nil) (.cons (.lst .nil) (.cons (.var 15) .nil)))))) (.cons (.var 3) .nil)))) .nil))))))))) l h = .ret (.bool true) h' := by
  have hM : ML = 16777216 := rfl
  have hFU : ML + 100 ≤ fu := Nat.le_trans (by decide) hf
  have zL := f.zL; have zN := f.zN
  have plN := pre_len f.trN 40 root f.rN
  -- main
  let la : Loc := (l.set 13 (.ref h.length)).set 14 (.ref (L.A root 0))
  have x0 : Ext h (h ++ [.lst []]) := Ext.app _ _
  obtain ⟨lb, h1, e1, x1, m1, f1⟩ := mainLoop (L := L) (h0 := h) f.two.l (fu := fu) (n := n) (mm := h.length) (Nat.le_refl _) 40 root [] la (h ++ [.lst []]) fu f.rL f.dL (by lia) (by simp) rfl rfl x0 (by simp [intC])
  rw [List.nil_append] at m1
  have ff1 := f.ext x1
  have oN : Out N h.length := out_len f.two.n (Nat.le_refl _)
  -- the main line's moves
  obtain ⟨ot, h2, e2, x2, y2⟩ := main_line_ok ff1.two.n f.rN f.dN (by lia) (fun i hi => by have := f.trN.kl hi; lia) hf (N := n) (by lia)
  have ff2 := ff1.ext x2
  have eM : mln N.a 40 root = mln L.a 40 root := by rw [f.a]
  rw [eM] at y2
  have mlm : ∀ (m : Nat) (i : Id), i ∈ N.ids → ∀ j ∈ mln N.a m i, j ∈ N.ids := by
    intro m
    induction m with
    | zero => intro i _ j hj; cases hj
    | succ m ih =>
      intro i hi j hj
      dsimp only [mln] at hj
      cases hk : (N.a.re i).kids with
      | nil => rw [hk] at hj; cases hj
      | cons k ks =>
        rw [hk] at hj
        have hkN := f.two.n.cl i hi k (by rw [hk]; simp)
        rcases List.mem_cons.1 hj with rfl | hj
        · exact hkN
        · exact ih k hkN j hj
  have mlN := mlm 40 root f.rN
  rw [eM] at mlN
  have hE : ∀ x ∈ ((mln L.a 40 root).map fun j => ((V.ref (N.A j 0), some (Val.sc (.int (mv j)))) : V × Option Val)), El false (fun _ h => .ok (.bool true) h) (evE ⟨fu, callN fu n⟩ (.attr (.var 0) .move)) h2 x := by
    intro x hx h3 e3 l3
    obtain ⟨j, hj, rfl⟩ := List.mem_map.1 hx
    have am := (ff2.two.n.ext e3).amove (mlN j hj)
    exact ⟨_, rfl, h3, .int (mv j), h3, rfl, Ext.refl _, x_attr (x_var rfl) am, Ext.refl _, rfl⟩
  have lml := mln_len L.a 40 root
  obtain ⟨h3, ws, e3, x3, y3, il⟩ := comp_ok (c := ⟨fu, callN fu n⟩) hf (a := ot) _ hE (by rw [y2]; simp [rf, Function.comp_def]) (by simp; lia)
  have il' : IsL h2.length h3 (((mln L.a 40 root).map mv).map fun x => .sc (.int x)) ws := by
    have e : ((mln L.a 40 root).map fun j => ((V.ref (N.A j 0), some (Val.sc (.int (mv j)))) : V × Option Val)).filterMap (·.2) = ((mln L.a 40 root).map mv).map fun x => Val.sc (.int x) := by
      simp [List.filterMap_map, Function.comp_def]
    rw [e] at il; exact il
  have ew := IsL_ints il'
  rw [ew] at y3
  have m3 := x3 _ _ (x2 _ _ m1)
  have eq := eqV_ints (n := 7) y3 m3
  rw [decide_eq_true rfl] at eq
  have nf := ne_false eq
  have ff3 := ff2.ext x3
  -- bare
  obtain ⟨S1, h4, e4, s4, a4⟩ := strip_remarks_ok ff3.two.n f.trN (by lia) f.rN f.dN hf (N := n) (by lia)
  have m4 := s4.fr _ _ m3 oN
  have kids4 : ∀ j, (S1.a.re j).kids = (N.a.re j).kids := fun j => by rw [a4]; exact clr_kids _ _ _
  have r1 : root ∈ S1.ids := by rw [s4.ids]; exact f.rN
  have kl1 : KL S1.a := fun i k hk => by rw [kids4] at hk; exact KL.of f.trN i k hk
  have d1 := Dp_kids (b := S1.a) kids4 40 root f.dN
  obtain ⟨S2, h5, e5, s5, c5⟩ := strip_variations_ok (m := 40) s4.ok kl1 r1 d1 (fun j hj => by
    rw [pre_kids kids4] at hj
    rw [kids4 j, a4]; exact clr_re _ _ j (.inr hj)) (fu := fu) (by lia) (N := n) (by lia)
  have m5 := s5.fr _ _ m4.1 m4.2
  rw [mln_kids kids4, eM] at c5
  have A1 : S1.A root 0 = N.A root 0 := s4.self root f.rN
  have A2 : S2.A root 0 = N.A root 0 := (s5.self root r1).trans A1
  rw [A1] at e5
  have r2 : root ∈ S2.ids := by rw [s5.ids]; exact r1
  -- the bare lists
  let h6 := h5 ++ [Cell.lst []]
  have x6 : Ext h5 h6 := Ext.app _ _
  have m6 := x6 _ _ m5.1
  have rv := revV_ok m6
  rw [← List.map_reverse] at rv
  let h7 := h6 ++ [intC ((mln L.a 40 root).map mv).reverse]
  have x7 : Ext h6 h7 := Ext.app _ _
  let lc : Loc := lb.set 15 (.ref h5.length)
  obtain ⟨ld, h8, k8, e8, x8, l815, b8, f8⟩ := bareLoop (c := ⟨fu, callN fu n⟩) (a := h6.length) (all := ((mln L.a 40 root).map mv).reverse) ((mln L.a 40 root).map mv).reverse [] lc h7 h5.length rfl (by simp [h7]) rfl (x7 _ _ (by simp [h6])) fu (by simp; lia)
  rw [List.reverse_reverse] at b8
  have x58 := (x6.trans x7).trans x8
  let h9 := h8 ++ listCells9 (.int 0) h8.length (.ref k8)
  have x9 : Ext h8 h9 := Ext.app _ _
  have o9 := (s5.ok.ext x58).ext x9
  have lk := like_bare o9 ((mln L.a 40 root).map mv) root (h8.length + 3) h8.length (h8.length + 1) (h8.length + 2) k8 r2 c5 (get_app h8 _ 3) (get_app h8 _ 0) (get_app h8 _ 1) (get_app h8 _ 2) (b8.ext x9)
  rw [A2] at lk
  obtain ⟨h10, e10, x10⟩ := law_like_ok (fu := fu) _ h9 _ _ n lk (by simp; lia)
  refine ⟨h10, ?_⟩
  have v3 : lb 3 = some (.ref (N.A root 0)) := (f1 3 (by decide)).trans l3
  have v13 : lb 13 = some (.ref h.length) := (f1 13 (by decide)).trans rfl
  rw [ss_nxt (l' := l.set 13 (.ref h.length)) (h' := h ++ [.lst []]) (s_assign (x_lst rfl))]
  rw [ss_nxt (l' := la) (h' := h ++ [.lst []]) (by exact s_assign (x_var l2))]
  rw [ss_nxt (l' := lb) (h' := h1) (by exact e1)]
  have m18 : evS ⟨fu, callN fu n⟩ s18 lb h1 = .nxt lb h3 := by
    have c1 : evE ⟨fu, callN fu n⟩ (.comp (.attr (.var 0) .move) false (.call 8 (.cons (.var 3) .nil))) lb h1 = .ok (.ref h2.length) h3 := by
      have : evE ⟨fu, callN fu n⟩ (.call 8 (.cons (.var 3) .nil)) lb h1 = .ok (.ref ot) h2 := x_call (x_args1 (x_var v3)) e2
      exact x_comp this e3
    exact s_else (e_cmp c1 (x_var v13) nf)
  rw [ss_nxt m18]
  rw [ss_nxt (l' := lb) (h' := h4) (s_expr (x_call (x_args1 (x_var v3)) e4))]
  rw [ss_nxt (l' := lb) (h' := h5) (s_expr (x_call (x_args1 (x_var v3)) e5))]
  rw [ss_nxt (l' := lc) (h' := h6) (s_assign (x_lst rfl))]
  rw [ss_nxt (l' := ld) (h' := h8) (by
    have : evE ⟨fu, callN fu n⟩ (.rev (.var 13)) lc h6 = .ok (.ref h6.length) h7 := by
      have v : lc 13 = some (.ref h.length) := v13
      exact x_rev (x_var v) rv
    exact (s_forL this).trans e8)]
  have v3' : ld 3 = some (.ref (N.A root 0)) := (f8 3 (by decide) (by decide)).trans v3
  have nl : evE ⟨fu, callN fu n⟩ (.lst (.cons (.int 0) (.cons (.lst .nil) (.cons (.lst .nil) (.cons (.lst .nil) (.cons (.var 15) .nil)))))) ld h8 = .ok (.ref (h8.length + 3)) h9 := by
    exact ev_nil4 rfl fun _ => x_var l815
  have cl : evE ⟨fu, callN fu n⟩ (.call 26 (.cons (.lst (.cons (.int 0) (.cons (.lst .nil) (.cons (.lst .nil) (.cons (.lst .nil) (.cons (.var 15) .nil)))))) (.cons (.var 3) .nil))) ld h8 = .ok (.bool true) h10 := by
    exact x_call (x_args nl (x_args1 (x_var v3'))) e10
  exact ss_ret (s_ret cl)
end MineB
end

section
namespace MineB
open Mine
set_option linter.unusedSimpArgs false
set_option linter.unusedVariables false
theorem no_ints {z : Nat} {r : List V} {xs : List Int} (e : Cell.lst (xs.map V.int) = .lst (.ref z :: r)) : False := by
  cases xs with
  | nil => cases e
  | cons x xs => cases e
theorem law_true (xs : List Int) (fu : Nat) (hf : FU ≤ fu) : ∃ h', evSs ⟨fu, callN fu 100⟩ b_law (fun x => if x = 1 then some (.ref 0) else none) [.lst ((xs.take 18).map V.int)] = .ret (.bool true) h' := by
  have hM : ML = 16777216 := rfl
  have hFU : ML + 100 ≤ fu := Nat.le_trans (by decide) hf
  let l0 : Loc := fun x => if x = 1 then some (.ref 0) else none
  obtain ⟨ys, e0, y6, y18⟩ := fill (fu := fu) (n := 100) 6 (xs.take 18) l0 fu (by rw [List.length_take]; lia) (by lia) (by lia) rfl
  obtain ⟨L, N, h, kp, e1, e2, e3, d, hy, oL, oN, hkp⟩ := start (ys := ys) l0 (fu := fu) (n := 100) (by lia)
  let l3 : Loc := ((l0.set 2 (.ref (L.A root 0))).set 3 (.ref (N.A root 0))).set 4 (.ref kp)
  obtain ⟨l4, L', N', κ', h4, e4, d4, aL, aN, hy4, v1, v2, v3, v4⟩ := deeds y18 hkp hf (n := 100) (by lia) ys [] L N kept0 h l3 rfl d rfl rfl hy oL oN rfl rfl rfl fu (by lia)
  have v1' : l4 1 = some (.ref 0) := v1.trans rfl
  rw [← aL] at v2
  rw [← aN] at v3
  obtain ⟨h5, e5, x5⟩ := chk1_ok d4 y18 v2 v3 v4 (fu := fu) (n := 100) (by lia)
  have f5 := (d4.fs y18).ext x5
  have zL := f5.zL
  obtain ⟨am, h6, z, r, e6, x6, y6', al6⟩ := all_root f5.two.l f5.trL (by lia) f5.rL v2 hf (n := 100) (by lia)
  have f6 := f5.ext x6
  let l6 : Loc := l4.set 6 (.ref am)
  have w6 : l6 6 = some (.ref am) := rfl
  have w3 : l6 3 = some (.ref (N'.A root 0)) := v3
  have w2 : l6 2 = some (.ref (L'.A root 0)) := v2
  have w1 : l6 1 = some (.ref 0) := v1'
  obtain ⟨h7, e7, x7⟩ := chk2_ok f6 w3 w6 y6' al6 hf (n := 100) (by lia)
  have f7 := f6.ext x7
  obtain ⟨h8, e8, x8⟩ := chk3_ok f7 w3 w6 (x7 _ _ y6') (al6.ext x7) hf (n := 100) (by lia)
  have f8 := f7.ext x8
  obtain ⟨h9, e9, x9⟩ := chk4_ok f8 w2 w3 hf (n := 100) (by lia)
  have f9 := f8.ext x9
  have x69 := (x7.trans x8).trans x9
  have hy9 := x69 _ _ (x6 _ _ (x5 _ _ hy4))
  have oam : Out L' am := fun i hi => by
    have no : ∀ c, h6[am]? = some c → c = .lst (.ref z :: r) := fun c e => by rw [y6'] at e; exact (Option.some.inj e).symm
    -- a list of pairs is no list of the tree
    refine all5 (fun e => ?_) (fun e => ?_) (fun e => ?_) (fun e => ?_) fun e => ?_
    · have := no _ (e ▸ f6.two.l.l0 hi); cases this
    · exact no_ints (no _ (e ▸ f6.two.l.lab hi (p := 1) (by decide) (by decide)))
    · exact no_ints (no _ (e ▸ f6.two.l.lab hi (p := 2) (by decide) (by decide)))
    · exact no_ints (no _ (e ▸ f6.two.l.lab hi (p := 3) (by decide) (by decide)))
    · have e1 := Cell.lst.inj (no _ (e ▸ f6.two.l.kids hi))
      cases hl : (L'.a.re i).kids with
      | nil => rw [hl] at e1; cases e1
      | cons k ks =>
        rw [hl] at e1
        obtain ⟨t, pa, g1, g2, _⟩ := al6.get (k := 0) (j := root) rfl
        have hk := f6.two.l.l0 (f6.two.l.cl i hi k (by rw [hl]; exact List.mem_cons_self))
        rw [V.ref.inj ((List.cons.inj e1).1.trans (Option.some.inj g1)), g2] at hk
        cases hk
  obtain ⟨l10, h10, e10, f10, k10⟩ := twin_ok f9 d4.lb (by lia) w1 w2 w3 w6 (x69 _ _ y6') (al6.ext x69) hy9 y6 oam
    (.cons (.assign 13 (.lst .nil)) (.cons (.assign 14 (.var 2)) (.cons (.whil mlCond mlBody) (.cons s18 (.cons (.expr (.call 18 (.cons (.var 3) .nil))) (.cons (.expr (.call 17 (.cons (.var 3) .nil))) (.cons (.assign 15 (.lst .nil))
      (.cons (.forL 16 (.rev (.var 13)) bareBody) (.cons (.ret (.call 26 (.cons (.lst (.cons (.int 0) (.cons (.lst .nil) (.cons (.lst .nil) (.cons (.lst .nil) (.cons (.var 15) .nil)))))) (.cons (.var 3) .nil)))) .nil))))))))) hf (n := 100) (by lia)
  obtain ⟨h11, e11⟩ := tail_ok f10 (l := l10) ((k10 2 (by decide)).trans w2) ((k10 3 (by decide)).trans w3) hf (n := 100) (by lia)
  refine ⟨h11, ?_⟩
  have m0 : evS ⟨fu, callN fu 100⟩ (.whil (.cmp .lt (.len (.var 1)) (.int 6)) (.cons (.expr (.append (.var 1) (.bin .add (.bin .mul (.len (.var 1)) (.int 1234567)) (.int 89)))) .nil)) l0 [intC (xs.take 18)] = .nxt l0 [intC ys] := by exact e0
  have m4 : evS ⟨fu, callN fu 100⟩ (.forL 5 (.var 1) bodyHd) l3 h = .nxt l4 h4 := by
    exact (s_forL (x_var rfl)).trans e4
  have b : b_law = .cons (.whil (.cmp .lt (.len (.var 1)) (.int 6)) (.cons (.expr (.append (.var 1) (.bin .add (.bin .mul (.len (.var 1)) (.int 1234567)) (.int 89)))) .nil))
    (.cons (.assign 2 (.lst (.cons (.int 0) (.cons (.lst .nil) (.cons (.lst .nil) (.cons (.lst .nil) (.cons (.lst .nil) .nil)))))))
    (.cons (.assign 3 (.call 19 .nil))
    (.cons (.assign 4 (.lst (.cons (.lst (.cons (.int 0) (.cons (.lst .nil) (.cons (.lst .nil) (.cons (.lst .nil) (.cons (.lst .nil) .nil)))))) (.cons (.call 19 .nil) .nil))))
    (.cons (.forL 5 (.var 1) bodyHd) (.cons chk1 (.cons (.assign 6 (.call 20 (.cons (.var 2) (.cons (.lst .nil) .nil)))) (.cons chk2 (.cons chk3 (.cons chk4 (.cons s10 (.cons s11 (.cons s12 (.cons s13 (.cons s14
    (.cons (.assign 13 (.lst .nil)) (.cons (.assign 14 (.var 2)) (.cons (.whil mlCond mlBody) (.cons s18 (.cons (.expr (.call 18 (.cons (.var 3) .nil))) (.cons (.expr (.call 17 (.cons (.var 3) .nil))) (.cons (.assign 15 (.lst .nil))
      (.cons (.forL 16 (.rev (.var 13)) bareBody) (.cons (.ret (.call 26 (.cons (.lst (.cons (.int 0) (.cons (.lst .nil) (.cons (.lst .nil) (.cons (.lst .nil) (.cons (.var 15) .nil)))))) (.cons (.var 3) .nil)))) .nil))))))))))))))))))))))) := rfl
  show evSs _ b_law l0 [intC (xs.take 18)] = _
  rw [b, ss_nxt m0, ss_nxt e1, ss_nxt e2, ss_nxt e3, ss_nxt m4, ss_nxt e5, ss_nxt e6, ss_nxt e7, ss_nxt e8, ss_nxt e9, e10, e11]
end MineB
end

section
open PySem
namespace Mine
/-- positions (and a comprehension's scope), shaped as the tree -/
inductive PT | mk (ps : Pos) (sc : Option Scope) (kids : List PT)
instance : Inhabited PT := ⟨.mk default Option.none []⟩
noncomputable def PT.p : PT → Pos | .mk p _ _ => p
noncomputable def PT.sc : PT → Option Scope | .mk _ s _ => s
noncomputable def PT.ks : PT → List PT | .mk _ _ k => k
noncomputable def PT.k (t : PT) (i : Nat) : PT := t.ks.getD i default

mutual
noncomputable def posE : PySem.Expr → PT
  | .BoolOp _ vs pos => .mk pos Option.none (posEs vs)
  | .BinOp l _ r pos => .mk pos Option.none [posE l, posE r]
  | .UnaryOp _ x pos => .mk pos Option.none [posE x]
  | .ListComp e gs sc pos => .mk pos (some sc) (posE e :: posGs gs)
  | .Compare l _ cs pos => .mk pos Option.none (posE l :: posEs cs)
  | .Call f as _ pos => .mk pos Option.none (posE f :: posEs as)
  | .Constant _ _ pos => .mk pos Option.none []
  | .Attribute v _ pos => .mk pos Option.none [posE v]
  | .Subscript v s pos => .mk pos Option.none [posE v, posE s]
  | .Name _ pos => .mk pos Option.none []
  | .List es pos => .mk pos Option.none (posEs es)
  | .Tuple es _ pos => .mk pos Option.none (posEs es)
  | .Slice l u s pos => .mk pos Option.none [posO l, posO u, posO s]
  | _ => default
noncomputable def posO : Option PySem.Expr → PT
  | Option.none => default
  | some e => posE e
noncomputable def posEs : List PySem.Expr → List PT
  | [] => []
  | e :: r => posE e :: posEs r
noncomputable def posGs : List PySem.Comprehension → List PT
  | [] => []
  | ⟨t, i, fs, _⟩ :: r => posE t :: posE i :: (posEs fs ++ posGs r)
end
mutual
noncomputable def posS : PySem.Stmt → PT
  | .Return (some v) pos => .mk pos Option.none [posE v]
  | .Assign ts v pos => .mk pos Option.none (posE v :: posEs ts)
  | .AugAssign t _ v pos => .mk pos Option.none [posE t, posE v]
  | .For t i b _ pos => .mk pos Option.none [posE t, posE i, .mk default Option.none (posSs b)]
  | .While t b _ pos => .mk pos Option.none [posE t, .mk default Option.none (posSs b)]
  | .If t b o pos => .mk pos Option.none [posE t, .mk default Option.none (posSs b), .mk default Option.none (posSs o)]
  | .Raise (some e) _ pos => .mk pos Option.none [posE e]
  | .Try b hs _ _ pos => .mk pos Option.none [.mk default Option.none (posSs b), .mk default Option.none (posHs hs)]
  | .Expr v pos => .mk pos Option.none [posE v]
  | _ => default
noncomputable def posHs : List PySem.ExceptHandler → List PT
  | [] => []
  | .ExceptHandler t _ b pos :: r => .mk pos Option.none [posO t, .mk default Option.none (posSs b)] :: posHs r
noncomputable def posSs : List PySem.Stmt → List PT
  | [] => []
  | s :: r => posS s :: posSs r
end

noncomputable def fstr : Fld → Str
  | .move => "move" | .parent => "parent" | .word => "word" | .place => "place"
  | .variations => "variations" | .remarks => "remarks" | .nags => "nags" | .before => "before"
noncomputable def bopO : Bop → Operator
  | .add => .Add | .sub => .Sub | .mul => .Mult | .mod => .Mod | .fdiv => .FloorDiv | .pow => .Pow
noncomputable def copO : Cop → CmpOp
  | .eq => .Eq | .ne => .NotEq | .lt => .Lt | .le => .LtE | .gt => .Gt | .ge => .GtE | .notIn => .NotIn | .isNot => .IsNot
noncomputable def fnS (i : Nat) : Str := PySem.Str.ofString (fnNames.getD i "")
noncomputable def cnames (sc : Scope) : List Str := (sc.names.filter (fun p => p.2 == NameKind.local && p.1 != (".0" : Str))).map (·.1)
noncomputable def PT.scope (t : PT) : Scope := t.sc.getD default
noncomputable def nm (ns : List Str) (x : Nat) : Str := ns.getD x Str.empty

mutual
noncomputable def unE (ns : List Str) : E → PT → PySem.Expr
  | .none, t => .Constant .none 0 t.p
  | .bool b, t => .Constant (.bool b) 0 t.p
  | .int i, t => .Constant (.int i) 0 t.p
  | .str, t => .Constant (.str (PySem.Str.ofString "")) 0 t.p
  | .var x, t => .Name (nm ns x) t.p
  | .gint, t => .Name "NO_MOVE" t.p
  | .neg1, t => .UnaryOp .USub (.Constant (.int 1) 0 (t.k 0).p) t.p
  | .lst es, t => .List (unEs ns es t.ks) t.p
  | .tup es, t => .Tuple (unEs ns es t.ks) 0 t.p
  | .bin op a b, t => .BinOp (unE ns a (t.k 0)) (bopO op) (unE ns b (t.k 1)) t.p
  | .cmp op a b, t => .Compare (unE ns a (t.k 0)) [copO op] [unE ns b (t.k 1)] t.p
  | .cmp2 o1 o2 a b c, t => .Compare (unE ns a (t.k 0)) [copO o1, copO o2] [unE ns b (t.k 1), unE ns c (t.k 2)] t.p
  | .band es, t => .BoolOp .And (unEs ns es t.ks) t.p
  | .bor es, t => .BoolOp .Or (unEs ns es t.ks) t.p
  | .not a, t => .UnaryOp .Not (unE ns a (t.k 0)) t.p
  | .idx a i, t => .Subscript (unE ns a (t.k 0)) (unE ns i (t.k 1)) t.p
  | .rev a, t => .Subscript (unE ns a (t.k 0)) (.Slice Option.none Option.none (some (.UnaryOp .USub (.Constant (.int 1) 0 (((t.k 1).k 2).k 0).p) ((t.k 1).k 2).p)) (t.k 1).p) t.p
  | .cut a n, t => .Subscript (unE ns a (t.k 0)) (.Slice Option.none (some (unE ns n ((t.k 1).k 1))) Option.none (t.k 1).p) t.p
  | .attr a f, t => .Attribute (unE ns a (t.k 0)) (fstr f) t.p
  | .call f es, t => .Call (.Name (fnS f) (t.k 0).p) (unEs ns es (t.ks.drop 1)) [] t.p
  | .new a b, t => .Call (.Name "GameNode" (t.k 0).p) [unE ns a (t.k 1), unE ns b (t.k 2)] [] t.p
  | .len a, t => .Call (.Name "len" (t.k 0).p) [unE ns a (t.k 1)] [] t.p
  | .max2 a b, t => .Call (.Name "max" (t.k 0).p) [unE ns a (t.k 1), unE ns b (t.k 2)] [] t.p
  | .max1 a, t => .Call (.Name "max" (t.k 0).p) [unE ns a (t.k 1)] [] t.p
  | .divmod a b, t => .Call (.Name "divmod" (t.k 0).p) [unE ns a (t.k 1), unE ns b (t.k 2)] [] t.p
  | .list a, t => .Call (.Name "list" (t.k 0).p) [unE ns a (t.k 1)] [] t.p
  | .append a b, t => .Call (.Attribute (unE ns a ((t.k 0).k 0)) "append" (t.k 0).p) [unE ns b (t.k 1)] [] t.p
  | .extend a b, t => .Call (.Attribute (unE ns a ((t.k 0).k 0)) "extend" (t.k 0).p) [unE ns b (t.k 1)] [] t.p
  | .pop a, t => .Call (.Attribute (unE ns a ((t.k 0).k 0)) "pop" (t.k 0).p) [] [] t.p
  | .popAt a i, t => .Call (.Attribute (unE ns a ((t.k 0).k 0)) "pop" (t.k 0).p) [unE ns i (t.k 1)] [] t.p
  | .insert a i b, t => .Call (.Attribute (unE ns a ((t.k 0).k 0)) "insert" (t.k 0).p) [unE ns i (t.k 1), unE ns b (t.k 2)] [] t.p
  | .count a b, t => .Call (.Attribute (unE ns a ((t.k 0).k 0)) "count" (t.k 0).p) [unE ns b (t.k 1)] [] t.p
  | .comp e two s, t => .ListComp (unE (cnames t.scope) e (t.k 0)) [⟨unT (cnames t.scope) two (t.k 1), unE ns s (t.k 2), [], 0⟩] t.scope t.p
  | .compIf e two s c, t => .ListComp (unE (cnames t.scope) e (t.k 0)) [⟨unT (cnames t.scope) two (t.k 1), unE ns s (t.k 2), [unE (cnames t.scope) c (t.k 3)], 0⟩] t.scope t.p
noncomputable def unEs (ns : List Str) : Es → List PT → List PySem.Expr
  | .nil, _ => []
  | .cons e es, ts => unE ns e (ts.getD 0 default) :: unEs ns es (ts.drop 1)
/-- a comprehension's target -/
noncomputable def unT (ns : List Str) : Bool → PT → PySem.Expr
  | false, t => .Name (nm ns 0) t.p
  | true, t => .Tuple [.Name (nm ns 0) (t.k 0).p, .Name (nm ns 1) (t.k 1).p] 0 t.p
end

mutual
noncomputable def unS (ns : List Str) : S → PT → PySem.Stmt
  | .assign x e, t => .Assign [.Name (nm ns x) (t.k 1).p] (unE ns e (t.k 0)) t.p
  | .assign2 x y e, t => .Assign [.Tuple [.Name (nm ns x) ((t.k 1).k 0).p, .Name (nm ns y) ((t.k 1).k 1).p] 0 (t.k 1).p] (unE ns e (t.k 0)) t.p
  | .setAttr a f e, t => .Assign [.Attribute (unE ns a ((t.k 1).k 0)) (fstr f) (t.k 1).p] (unE ns e (t.k 0)) t.p
  | .setIdx a i e, t => .Assign [.Subscript (unE ns a ((t.k 1).k 0)) (unE ns i ((t.k 1).k 1)) (t.k 1).p] (unE ns e (t.k 0)) t.p
  | .aug x e, t => .AugAssign (.Name (nm ns x) (t.k 0).p) .Add (unE ns e (t.k 1)) t.p
  | .expr e, t => .Expr (unE ns e (t.k 0)) t.p
  | .ite c a b, t => .If (unE ns c (t.k 0)) (unSs ns a (t.k 1).ks) (unSs ns b (t.k 2).ks) t.p
  | .whil c b, t => .While (unE ns c (t.k 0)) (unSs ns b (t.k 1).ks) [] t.p
  | .forL x e b, t => .For (.Name (nm ns x) (t.k 0).p) (unE ns e (t.k 1)) (unSs ns b (t.k 2).ks) [] t.p
  | .forR1 x e b, t => .For (.Name (nm ns x) (t.k 0).p) (.Call (.Name "range" ((t.k 1).k 0).p) [unE ns e ((t.k 1).k 1)] [] (t.k 1).p) (unSs ns b (t.k 2).ks) [] t.p
  | .forR2 x i j b, t => .For (.Name (nm ns x) (t.k 0).p) (.Call (.Name "range" ((t.k 1).k 0).p) [.Constant (.int i) 0 ((t.k 1).k 1).p, .Constant (.int j) 0 ((t.k 1).k 2).p] [] (t.k 1).p) (unSs ns b (t.k 2).ks) [] t.p
  | .ret e, t => .Return (some (unE ns e (t.k 0))) t.p
  | .raise, t => .Raise (some (.Call (.Name "BadMove" ((t.k 0).k 0).p) [.Constant (.str (PySem.Str.ofString "no such way on")) 0 ((t.k 0).k 1).p] [] (t.k 0).p)) Option.none t.p
  | .tryB b x y, t => .Try (unSs ns b (t.k 0).ks) [.ExceptHandler (some (.Name "BadMove" (((t.k 1).k 0).k 0).p)) Option.none [.Return (some (unE ns (tailE x y) (((((t.k 1).k 0).k 1).ks.getD 0 default).k 0))) ((((t.k 1).k 0).k 1).ks.getD 0 default).p] ((t.k 1).k 0).p] [] [] t.p
noncomputable def unSs (ns : List Str) : Ss → List PT → List PySem.Stmt
  | .nil, _ => []
  | .cons s r, ts => unS ns s (ts.getD 0 default) :: unSs ns r (ts.drop 1)
end
end Mine
end

section
open PySem PySem.W PyProof.Rows PySem.Calls
set_option maxRecDepth 100000
set_option linter.unusedVariables false
namespace Mine

abbrev Iota := List (Addr × Addr)

noncomputable def VR (ι : Iota) : V → Value → Prop
  | .none, v => v = .none
  | .bool b, v => v = .bool b
  | .int i, v => ∃ t, v = .int i t
  | .str, v => ∃ t, v = .str (PySem.Str.ofString "") t
  | .ref n, v => ∃ p, ι[n]? = some p ∧ v = .ref p.1
noncomputable def VRs (ι : Iota) : List V → List Value → Prop
  | [], [] => True
  | v :: vs, c :: cs => VR ι v c ∧ VRs ι vs cs
  | _, _ => False
/-- a node's fields, entry by entry of its dict -/
noncomputable def FRs (ι : Iota) : List (Fld × V) → List DictEntry → Prop
  | [], [] => True
  | (f, v) :: r, e :: es => (∃ t, e.key = .str (fstr f) t) ∧ VR ι v e.val ∧ FRs ι r es
  | _, _ => False

abbrev tupOf (its : Array Value) (n : Nat) : Obj := { cls := .type "tuple", data := .seq its n }

noncomputable def CellAt (C : Addr) (ι : Iota) (h : Heap) (p : Addr × Addr) : Cell → Prop
  | .lst vs => p.2 = p.1 ∧ vs.length ≤ ML ∧ ∃ cs n, VRs ι vs cs ∧ h.get? p.1 = some (listOf cs.toArray n)
  | .tup vs => p.2 = p.1 ∧ vs.length ≤ ML ∧ ∃ cs n, VRs ι vs cs ∧ h.get? p.1 = some (tupOf cs.toArray n)
  | .node fs => fs.length ≤ 30 ∧ ∃ es n, FRs ι fs es ∧ h.get? p.1 = some (instObj C p.2) ∧ h.get? p.2 = some (dictOf es n)

structure Led (C : Addr) (base : Heap) (ι : Iota) (ah : H) (h : Heap) : Prop where
  len : ι.length = ah.length
  at_ : ∀ (i : Nat) (c : Cell) (p : Addr × Addr), ah[i]? = some c → ι[i]? = some p → CellAt C ι h p c
  apart : ∀ (i j : Nat) (p q : Addr × Addr), ι[i]? = some p → ι[j]? = some q → i ≠ j → p.1 ≠ q.1 ∧ p.1 ≠ q.2 ∧ p.2 ≠ q.1 ∧ p.2 ≠ q.2
  new : ∀ p ∈ ι, base.get? p.1 = none ∧ base.get? p.2 = none

/-- an address that is tracked -/
noncomputable def Tr (ι : Iota) (b : Addr) : Prop := ∃ p ∈ ι, b = p.1 ∨ b = p.2
noncomputable def Frm (frs : List Env) (b : Addr) : Prop := ∃ env ∈ frs, env.frame = some b

/-- what stands known of the program's top -/
structure St where
  base : Heap
  K : Frag
  C : Addr
  BM : Addr
  fa : Nat → Addr
  mg : Str → Option Value
  mb : Str → Option Value

structure Inv (X : St) (frs : List Env) (Cl : Addr) (ι : Iota) (ah : H) (h : Heap) : Prop where
  base : X.base.StaysIn h
  frames : h.FunFrames X.base frs
  led : Led X.C X.base ι ah h
  sepF : ∀ b, Tr ι b → ¬ Frm frs b
  sepL : ¬ Tr ι Cl
  locNew : X.base.get? Cl = none
  loc : ∃ o es n, h.get? Cl = some o ∧ o.data = .dict es n

noncomputable def Kp (frs : List Env) (ι : Iota) (h h' : Heap) : Prop :=
  ∀ b o, h.get? b = some o → ¬ Tr ι b → ∃ sl, h'.get? b = some { o with slots := sl } ∧ (sl = o.slots ∨ Frm frs b)

structure Step (X : St) (frs : List Env) (Cl : Addr) (ι : Iota) (s : Shared) (ι' : Iota) (ah' : H) (s' : Shared) : Prop where
  ext : ∃ t, ι' = ι ++ t ∧ ∀ b, Tr t b → s.heap.get? b = none
  kp : Kp frs ι s.heap s'.heap
  eq : ∃ h tk, s' = { s with heap := h, toks := tk }
  inv : Inv X frs Cl ι' ah' s'.heap

/-- an exception that has left a frame: its entry of the traceback is T -/
noncomputable def TrAt (h : Heap) (e T : Addr) (cls a0 : Value) : Prop :=
  ∃ oe vs oT ts, h.get? e = some oe ∧ (oe.cls = cls ∧ vs[0]? = some a0) ∧ oe.data = .fields vs ∧ vs[1]? = some (.ref T) ∧ T ≠ e ∧ h.get? T = some oT ∧ oT.data = .fields ts ∧ ts[3]? = some .none
noncomputable def ExcObj (X : St) (ι : Iota) (h0 : Heap) (ex : Value) (h : Heap) : Prop :=
  ∃ e T a0, ex = .ref e ∧ h0.get? e = none ∧ h0.get? T = none ∧ ¬ Tr ι e ∧ ¬ Tr ι T ∧ TrAt h e T (.ref X.BM) a0
/-- an exception that has left no frame yet -/
noncomputable def FreshExc (X : St) (ι : Iota) (h0 : Heap) (ex : Value) (h : Heap) : Prop :=
  ∃ e a0 oe vs, ex = .ref e ∧ h0.get? e = none ∧ ¬ Tr ι e ∧ h.get? e = some oe ∧ (oe.cls = .ref X.BM ∧ vs[0]? = some a0) ∧ oe.data = .fields vs ∧ vs[1]? = some .none

noncomputable def Post {α β : Type} (Rel : Iota → α → β → Prop) (X : St) (frs : List Env) (Cl : Addr) (ι : Iota) (s : Shared) (r : R α) (b : β) (s' : Shared) : Prop :=
  ∃ a ah' ι', r = .ok a ah' ∧ Step X frs Cl ι s ι' ah' s' ∧ Rel ι' a b
noncomputable def PExc {α : Type} (X : St) (frs : List Env) (Cl : Addr) (ι : Iota) (s : Shared) (r : R α) (ex : Value) (s' : Shared) : Prop :=
  ∃ ah' ι', r = .exc ah' ∧ Step X frs Cl ι s ι' ah' s' ∧ ExcObj X ι' s.heap ex s'.heap

theorem Tr.append {ι t : Iota} {b : Addr} : Tr (ι ++ t) b ↔ Tr ι b ∨ Tr t b := by
  unfold Tr
  constructor
  · rintro ⟨p, hp, h⟩
    rcases List.mem_append.mp hp with hp | hp
    · exact .inl ⟨p, hp, h⟩
    · exact .inr ⟨p, hp, h⟩
  · rintro (⟨p, hp, h⟩ | ⟨p, hp, h⟩)
    · exact ⟨p, List.mem_append.mpr (.inl hp), h⟩
    · exact ⟨p, List.mem_append.mpr (.inr hp), h⟩

theorem VR.mono {ι t : Iota} {v : V} {c : Value} (h : VR ι v c) : VR (ι ++ t) v c := by
  cases v with
  | ref n =>
    obtain ⟨p, hp, rfl⟩ := h
    exact ⟨p, by rw [List.getElem?_append_left (List.getElem?_eq_some_iff.mp hp).1]; exact hp, rfl⟩
  | _ => exact h
theorem VRs.mono {ι t : Iota} : ∀ {vs : List V} {cs : List Value}, VRs ι vs cs → VRs (ι ++ t) vs cs
  | [], [], _ => trivial
  | _ :: _, _ :: _, ⟨a, b⟩ => ⟨a.mono, VRs.mono b⟩
theorem FRs.mono {ι t : Iota} {fs : List (Fld × V)} {es : List DictEntry} (h : FRs ι fs es) : FRs (ι ++ t) fs es := by
  induction fs generalizing es with
  | nil => cases es with
    | nil => trivial
    | cons => exact h.elim
  | cons f fs ih => cases es with
    | nil => exact h.elim
    | cons e es => exact ⟨h.1, h.2.1.mono, ih h.2.2⟩
theorem FRs.length {ι : Iota} {fs : List (Fld × V)} {es : List DictEntry} (h : FRs ι fs es) : es.length = fs.length := by
  induction fs generalizing es with
  | nil => cases es with
    | nil => rfl
    | cons => exact h.elim
  | cons f fs ih => cases es with
    | nil => exact h.elim
    | cons e es => simp [ih h.2.2]
theorem VRs.length {ι : Iota} : ∀ {vs : List V} {cs : List Value}, VRs ι vs cs → cs.length = vs.length
  | [], [], _ => rfl
  | _ :: _, _ :: _, ⟨_, b⟩ => by simp [VRs.length b]
theorem VRs.get {ι : Iota} : ∀ {vs : List V} {cs : List Value}, VRs ι vs cs → ∀ (i : Nat) (v : V), vs[i]? = some v → ∃ c, cs[i]? = some c ∧ VR ι v c
  | [], [], _, _, _, e => by simp at e
  | v :: _, c :: _, ⟨a, _⟩, 0, u, e => by simp at e; subst e; exact ⟨c, by simp, a⟩
  | _ :: _, _ :: _, ⟨_, b⟩, i + 1, u, e => by simpa using VRs.get b i u (by simpa using e)
theorem VRs.append {ι : Iota} : ∀ {vs ws : List V} {cs ds : List Value}, VRs ι vs cs → VRs ι ws ds → VRs ι (vs ++ ws) (cs ++ ds)
  | [], _, [], _, _, h => h
  | _ :: _, _, _ :: _, _, ⟨a, b⟩, h => ⟨a, VRs.append b h⟩
theorem VRs.one {ι : Iota} {v : V} {c : Value} (h : VR ι v c) : VRs ι [v] [c] := ⟨h, trivial⟩
theorem VRs.reverse {ι : Iota} : ∀ {vs : List V} {cs : List Value}, VRs ι vs cs → VRs ι vs.reverse cs.reverse
  | [], [], _ => trivial
  | v :: vs, c :: cs, ⟨a, b⟩ => by rw [List.reverse_cons, List.reverse_cons]; exact VRs.append (VRs.reverse b) (VRs.one a)
theorem VRs.take {ι : Iota} : ∀ {vs : List V} {cs : List Value} (n : Nat), VRs ι vs cs → VRs ι (vs.take n) (cs.take n)
  | [], [], _, _ => by simp; trivial
  | _ :: _, _ :: _, 0, _ => by simp; trivial
  | _ :: _, _ :: _, n + 1, ⟨a, b⟩ => ⟨a, VRs.take n b⟩
theorem VRs.drop {ι : Iota} : ∀ {vs : List V} {cs : List Value} (n : Nat), VRs ι vs cs → VRs ι (vs.drop n) (cs.drop n)
  | [], [], _, _ => by simp; trivial
  | _ :: _, _ :: _, 0, h => h
  | _ :: _, _ :: _, n + 1, ⟨_, b⟩ => VRs.drop n b
theorem VRs.set {ι : Iota} {vs : List V} {cs : List Value} (n : Nat) {v : V} {c : Value} (h : VRs ι vs cs) (hv : VR ι v c) : VRs ι (vs.set n v) (cs.set n c) := by
  induction vs generalizing cs n with
  | nil => cases cs with
    | nil => trivial
    | cons => exact h.elim
  | cons u vs ih => cases cs with
    | nil => exact h.elim
    | cons d cs => cases n with
      | zero => exact ⟨hv, h.2⟩
      | succ n => exact ⟨h.1, ih n h.2⟩
theorem VRs.eraseIdx {ι : Iota} : ∀ {vs : List V} {cs : List Value} (n : Nat), VRs ι vs cs → VRs ι (vs.eraseIdx n) (cs.eraseIdx n)
  | [], [], _, _ => by simp; trivial
  | _ :: _, _ :: _, 0, ⟨_, b⟩ => b
  | _ :: _, _ :: _, n + 1, ⟨a, b⟩ => ⟨a, VRs.eraseIdx n b⟩
theorem VRs.dropLast {ι : Iota} {vs : List V} {cs : List Value} (h : VRs ι vs cs) : VRs ι vs.dropLast cs.dropLast := by
  rw [List.dropLast_eq_take, List.dropLast_eq_take, h.length]; exact h.take _

theorem CellAt.keeps {C : Addr} {ι t : Iota} {h h' : Heap} {p : Addr × Addr} {c : Cell} (x : CellAt C ι h p c) (k1 : ∀ o, h.get? p.1 = some o → h'.get? p.1 = some o) (k2 : ∀ o, h.get? p.2 = some o → h'.get? p.2 = some o) : CellAt C (ι ++ t) h' p c := by
  cases c with
  | lst vs => obtain ⟨e, z, cs, n, a, b⟩ := x; exact ⟨e, z, cs, n, a.mono, k1 _ b⟩
  | tup vs => obtain ⟨e, z, cs, n, a, b⟩ := x; exact ⟨e, z, cs, n, a.mono, k1 _ b⟩
  | node fs => obtain ⟨z, es, n, a, b, d⟩ := x; exact ⟨z, es, n, a.mono, k1 _ b, k2 _ d⟩

theorem CellAt.alive {C : Addr} {ι : Iota} {h : Heap} {p : Addr × Addr} {c : Cell} (x : CellAt C ι h p c) : (∃ o, h.get? p.1 = some o) ∧ ∃ o, h.get? p.2 = some o := by
  cases c with
  | lst vs => obtain ⟨e, _, cs, n, _, b⟩ := x; exact ⟨⟨_, b⟩, ⟨_, e ▸ b⟩⟩
  | tup vs => obtain ⟨e, _, cs, n, _, b⟩ := x; exact ⟨⟨_, b⟩, ⟨_, e ▸ b⟩⟩
  | node fs => obtain ⟨_, es, n, _, b, d⟩ := x; exact ⟨⟨_, b⟩, ⟨_, d⟩⟩

theorem Led.cell {C : Addr} {base : Heap} {ι : Iota} {ah : H} {h : Heap} (L : Led C base ι ah h) {i : Nat} {p : Addr × Addr} (e : ι[i]? = some p) : ∃ c, ah[i]? = some c ∧ CellAt C ι h p c := by
  have hi : i < ah.length := L.len ▸ (List.getElem?_eq_some_iff.mp e).1
  exact ⟨ah[i], List.getElem?_eq_getElem hi, L.at_ i _ p (List.getElem?_eq_getElem hi) e⟩
theorem Led.alive {C : Addr} {base : Heap} {ι : Iota} {ah : H} {h : Heap} (L : Led C base ι ah h) {b : Addr} (t : Tr ι b) : ∃ o, h.get? b = some o := by
  obtain ⟨p, hp, hb⟩ := t
  obtain ⟨i, hi, e⟩ := List.getElem_of_mem hp
  obtain ⟨c, _, hc⟩ := L.cell (i := i) (p := p) (by rw [List.getElem?_eq_getElem hi, e])
  rcases hb with rfl | rfl
  · exact hc.alive.1
  · exact hc.alive.2
theorem Led.ofRef {C : Addr} {base : Heap} {ι : Iota} {ah : H} {h : Heap} (L : Led C base ι ah h) {i : Nat} {c : Cell} (e : ah[i]? = some c) : ∃ p, ι[i]? = some p ∧ CellAt C ι h p c := by
  have hi : i < ι.length := L.len ▸ (List.getElem?_eq_some_iff.mp e).1
  exact ⟨ι[i], List.getElem?_eq_getElem hi, L.at_ i c _ e (List.getElem?_eq_getElem hi)⟩

theorem Kp.refl {frs : List Env} {ι : Iota} {h : Heap} : Kp frs ι h h := fun _ o e _ => ⟨o.slots, e, .inl rfl⟩
theorem Kp.of_keeps {frs : List Env} {ι : Iota} {h h' : Heap} (k : ∀ b o, h.get? b = some o → ¬ Tr ι b → h'.get? b = some o) : Kp frs ι h h' := fun b o e n => ⟨o.slots, k b o e n, .inl rfl⟩

theorem Kp.ns {frs : List Env} {ι : Iota} {h h' : Heap} {a : Addr} {m : Str → Option Value} (k : Kp frs ι h h') (n : ¬ Tr ι a) (hn : h.Ns a m) : h'.Ns a m := by
  obtain ⟨o, es, ep, ho, hd, r⟩ := hn
  obtain ⟨sl, hs, _⟩ := k a o ho n
  exact ⟨_, es, ep, hs, hd, r⟩

theorem Step.refl {X : St} {frs : List Env} {Cl : Addr} {ι : Iota} {ah : H} {s : Shared} (I : Inv X frs Cl ι ah s.heap) : Step X frs Cl ι s ι ah s :=
  ⟨⟨[], by simp, fun b h => by obtain ⟨p, hp, _⟩ := h; cases hp⟩, Kp.refl, ⟨s.heap, s.toks, rfl⟩, I⟩
theorem Step.toks {X : St} {frs : List Env} {Cl : Addr} {ι : Iota} {ah : H} {s : Shared} (I : Inv X frs Cl ι ah s.heap) (tk : Nat) : Step X frs Cl ι s ι ah { s with toks := tk } :=
  ⟨⟨[], by simp, fun b h => by obtain ⟨p, hp, _⟩ := h; cases hp⟩, Kp.refl, ⟨s.heap, tk, rfl⟩, I⟩

theorem Step.trans {X : St} {frs : List Env} {Cl : Addr} {ι ι₁ ι₂ : Iota} {ah₁ ah₂ : H} {s s₁ s₂ : Shared} (a : Step X frs Cl ι s ι₁ ah₁ s₁) (b : Step X frs Cl ι₁ s₁ ι₂ ah₂ s₂) : Step X frs Cl ι s ι₂ ah₂ s₂ := by
  obtain ⟨⟨t, rfl, ft⟩, k, ⟨h, tk, rfl⟩, i⟩ := a
  obtain ⟨⟨u, rfl, fu⟩, k', ⟨h', tk', rfl⟩, i'⟩ := b
  refine ⟨⟨t ++ u, by simp, fun b hb => ?_⟩, fun b o e n => ?_, ⟨h', tk', rfl⟩, i'⟩
  · rcases Tr.append.mp hb with hb | hb
    · exact ft b hb
    · cases q : s.heap.get? b with
      | none => rfl
      | some o =>
        have hn := fu b hb
        by_cases tb : Tr ι b
        · obtain ⟨o', ho'⟩ := i.led.alive (Tr.append.mpr (.inl tb))
          rw [hn] at ho'; cases ho'
        · obtain ⟨sl, hs, _⟩ := k b o q tb
          rw [hn] at hs; cases hs
  · obtain ⟨sl, hs, c⟩ := k b o e n
    have n' : ¬ Tr (ι ++ t) b := fun q => by
      rcases Tr.append.mp q with q | q
      · exact n q
      · rw [ft b q] at e; cases e
    obtain ⟨sl', hs', c'⟩ := k' b _ hs n'
    refine ⟨sl', hs', ?_⟩
    rcases c' with c' | c'
    · rcases c with c | c
      · exact .inl (c'.trans c)
      · exact .inr c
    · exact .inr c'

theorem Step.vr {X : St} {frs : List Env} {Cl : Addr} {ι ι₁ : Iota} {ah₁ : H} {s s₁ : Shared} (a : Step X frs Cl ι s ι₁ ah₁ s₁) {v : V} {c : Value} (h : VR ι v c) : VR ι₁ v c := by
  obtain ⟨⟨t, rfl, _⟩, _⟩ := a; exact h.mono
theorem Step.ns {X : St} {frs : List Env} {Cl : Addr} {ι ι₁ : Iota} {ah ah₁ : H} {s s₁ : Shared} {m : Str → Option Value} (a : Step X frs Cl ι s ι₁ ah₁ s₁) (I : Inv X frs Cl ι ah s.heap) (h : s.heap.Ns Cl m) : s₁.heap.Ns Cl m := a.kp.ns I.sepL h

theorem Post.trans {α β : Type} {Rel : Iota → α → β → Prop} {X : St} {frs : List Env} {Cl : Addr} {ι ι₁ : Iota} {ah₁ : H} {s s₁ s' : Shared} {r : R α} {b : β} (a : Step X frs Cl ι s ι₁ ah₁ s₁) (h : Post Rel X frs Cl ι₁ s₁ r b s') : Post Rel X frs Cl ι s r b s' := by
  obtain ⟨v, ah', ι', e, st, rel⟩ := h; exact ⟨v, ah', ι', e, a.trans st, rel⟩
theorem Step.alive {X : St} {frs : List Env} {Cl : Addr} {ι ι₁ : Iota} {ah₁ : H} {s s₁ : Shared} (a : Step X frs Cl ι s ι₁ ah₁ s₁) {b : Addr} {o : Obj} (h : s.heap.get? b = some o) : ∃ o', s₁.heap.get? b = some o' := by
  obtain ⟨⟨t, rfl, ft⟩, k, _, i⟩ := a
  by_cases n : Tr ι b
  · exact i.led.alive (Tr.append.mpr (.inl n))
  · obtain ⟨sl, hs, _⟩ := k b o h n
    exact ⟨_, hs⟩
theorem Step.freshBack {X : St} {frs : List Env} {Cl : Addr} {ι ι₁ : Iota} {ah₁ : H} {s s₁ : Shared} (a : Step X frs Cl ι s ι₁ ah₁ s₁) {b : Addr} (h : s₁.heap.get? b = none) : s.heap.get? b = none := by
  cases q : s.heap.get? b with
  | none => rfl
  | some o => obtain ⟨o', e⟩ := a.alive q; rw [h] at e; cases e
theorem PExc.trans {α : Type} {X : St} {frs : List Env} {Cl : Addr} {ι ι₁ : Iota} {ah₁ : H} {s s₁ s' : Shared} {r : R α} {ex : Value} (a : Step X frs Cl ι s ι₁ ah₁ s₁) (h : PExc X frs Cl ι₁ s₁ r ex s') : PExc X frs Cl ι s r ex s' := by
  obtain ⟨ah', ι', e, st, x, T, a0, h1, h2, h3, h4⟩ := h; exact ⟨ah', ι', e, a.trans st, x, T, a0, h1, a.freshBack h2, a.freshBack h3, h4⟩

theorem none_of_stays {base h : Heap} (k : base.StaysIn h) {b : Addr} (e : h.get? b = none) : base.get? b = none := by
  cases q : base.get? b with
  | none => rfl
  | some o => rw [k b o q] at e; cases e

/-- the heap has grown by things that are not tracked -/
theorem Inv.grown {X : St} {frs : List Env} {Cl : Addr} {ι : Iota} {ah : H} {h h' : Heap} (I : Inv X frs Cl ι ah h) (k : ∀ b o, h.get? b = some o → h'.get? b = some o) : Inv X frs Cl ι ah h' := by
  obtain ⟨o, es, n, a, b⟩ := I.loc
  refine ⟨fun b o e => k _ _ (I.base b o e), I.frames.of_keeps fun b o e _ => ⟨o, k _ _ e, rfl⟩, ⟨I.led.len, fun i c p e1 e2 => ?_, I.led.apart, I.led.new⟩, I.sepF, I.sepL, I.locNew, ⟨o, es, n, k _ _ a, b⟩⟩
  have := (I.led.at_ i c p e1 e2).keeps (t := []) (fun o e => k _ o e) (fun o e => k _ o e)
  rwa [List.append_nil] at this
theorem Step.grown {X : St} {frs : List Env} {Cl : Addr} {ι : Iota} {ah : H} {s : Shared} {h' : Heap} (I : Inv X frs Cl ι ah s.heap) (k : ∀ b o, s.heap.get? b = some o → h'.get? b = some o) (tk : Nat) : Step X frs Cl ι s ι ah { s with heap := h', toks := tk } :=
  ⟨⟨[], by simp, fun b h => by obtain ⟨p, hp, _⟩ := h; cases hp⟩, Kp.of_keeps fun b o e _ => k b o e, ⟨h', tk, rfl⟩, I.grown k⟩

/-- a new thing is tracked from here on -/
theorem Step.alloc {X : St} {frs : List Env} {Cl : Addr} {ι : Iota} {ah : H} {s : Shared} {h' : Heap} {p : Addr × Addr} {c : Cell} (I : Inv X frs Cl ι ah s.heap) (k : ∀ b o, s.heap.get? b = some o → h'.get? b = some o)
    (n1 : s.heap.get? p.1 = none) (n2 : s.heap.get? p.2 = none) (hc : CellAt X.C ι h' p c) (tk : Nat) : Step X frs Cl ι s (ι ++ [p]) (ah ++ [c]) { s with heap := h', toks := tk } := by
  have fresh : ∀ b, Tr [p] b → s.heap.get? b = none := fun b t => by
    obtain ⟨q, hq, hb⟩ := t
    rw [List.mem_singleton] at hq
    subst hq
    rcases hb with rfl | rfl <;> assumption
  obtain ⟨o, es, n, a, b⟩ := I.loc
  refine ⟨⟨[p], rfl, fresh⟩, Kp.of_keeps fun b o e _ => k b o e, ⟨h', tk, rfl⟩, ⟨fun b o e => k _ _ (I.base b o e), I.frames.of_keeps fun b o e _ => ⟨o, k _ _ e, rfl⟩, ⟨by simp [I.led.len], fun i d q e1 e2 => ?_, ?_, fun q hq => ?_⟩, fun b t => ?_, fun t => ?_, I.locNew, ⟨o, es, n, k _ _ a, b⟩⟩⟩
  · by_cases hi : i < ah.length
    · rw [List.getElem?_append_left hi] at e1
      rw [List.getElem?_append_left (I.led.len ▸ hi)] at e2
      exact (I.led.at_ i d q e1 e2).keeps (fun o e => k _ o e) (fun o e => k _ o e)
    · have hi' : i = ah.length := by
        have := (List.getElem?_eq_some_iff.mp e1).1
        simp at this; lia
      subst hi'
      rw [← I.led.len] at e2
      simp at e1 e2
      subst e1 e2
      have := hc.keeps (t := [p]) (fun o e => e) (fun o e => e)
      exact this
  · intro i j q r e1 e2 ne
    have old : ∀ (i : Nat) (q : Addr × Addr), i < ι.length → (ι ++ [p])[i]? = some q → ι[i]? = some q := fun i q hi e => by rwa [List.getElem?_append_left hi] at e
    have lt : ∀ (i : Nat) (q : Addr × Addr), (ι ++ [p])[i]? = some q → i < ι.length ∨ (i = ι.length ∧ q = p) := fun i q e => by
      by_cases hi : i < ι.length
      · exact .inl hi
      · have := (List.getElem?_eq_some_iff.mp e).1
        have hi' : i = ι.length := by simp at this; lia
        subst hi'
        simp at e
        exact .inr ⟨rfl, e.symm⟩
    have live : ∀ (i : Nat) (q : Addr × Addr), ι[i]? = some q → q.1 ≠ p.1 ∧ q.1 ≠ p.2 ∧ q.2 ≠ p.1 ∧ q.2 ≠ p.2 := fun i q e => by
      obtain ⟨c, _, hc⟩ := I.led.cell e
      obtain ⟨⟨o1, h1⟩, ⟨o2, h2⟩⟩ := hc.alive
      refine ⟨fun z => ?_, fun z => ?_, fun z => ?_, fun z => ?_⟩
      · rw [z, n1] at h1; cases h1
      · rw [z, n2] at h1; cases h1
      · rw [z, n1] at h2; cases h2
      · rw [z, n2] at h2; cases h2
    rcases lt i q e1 with hi | ⟨rfl, rfl⟩
    · rcases lt j r e2 with hj | ⟨rfl, rfl⟩
      · exact I.led.apart i j q r (old i q hi e1) (old j r hj e2) ne
      · exact live i q (old i q hi e1)
    · rcases lt j r e2 with hj | ⟨rfl, rfl⟩
      · obtain ⟨a, b, c, d⟩ := live j r (old j r hj e2)
        exact ⟨a.symm, c.symm, b.symm, d.symm⟩
      · exact absurd rfl ne
  · rcases List.mem_append.mp hq with hq | hq
    · exact I.led.new q hq
    · rw [List.mem_singleton] at hq
      subst hq
      exact ⟨none_of_stays I.base n1, none_of_stays I.base n2⟩
  · rcases Tr.append.mp t with t | t
    · exact I.sepF b t
    · rintro ⟨env, he, hf⟩
      obtain ⟨o, ho, _⟩ := (I.frames.mem (List.mem_filterMap.mpr ⟨env, he, hf⟩)).2
      rw [fresh b t] at ho; cases ho
  · rcases Tr.append.mp t with t | t
    · exact I.sepL t
    · rw [fresh Cl t] at a; cases a

/-- one tracked thing is changed -/
theorem Step.set {X : St} {frs : List Env} {Cl : Addr} {ι : Iota} {ah : H} {s : Shared} {h' : Heap} {i : Nat} {p : Addr × Addr} {c : Cell} {D : Addr} (I : Inv X frs Cl ι ah s.heap) (e : ι[i]? = some p) (hD : D = p.1 ∨ D = p.2)
    (k : ∀ b o, b ≠ D → s.heap.get? b = some o → h'.get? b = some o) (hc : CellAt X.C ι h' p c) (tk : Nat) : Step X frs Cl ι s ι (ah.set i c) { s with heap := h', toks := tk } := by
  have tD : Tr ι D := ⟨p, List.mem_of_getElem? e, hD⟩
  obtain ⟨o, es, n, a, b⟩ := I.loc
  have hb : ∀ b o, X.base.get? b = some o → b ≠ D := fun b o q z => by
    have := I.led.new p (List.mem_of_getElem? e)
    rcases hD with hD | hD
    · rw [z, hD, this.1] at q; cases q
    · rw [z, hD, this.2] at q; cases q
  refine ⟨⟨[], by simp, fun b h => by obtain ⟨p, hp, _⟩ := h; cases hp⟩, Kp.of_keeps fun b o q n => k b o (fun z => n (z ▸ tD)) q, ⟨h', tk, rfl⟩, ⟨fun b o q => k _ _ (hb b o q) (I.base b o q), ?_, ⟨by simp [I.led.len], fun j d q e1 e2 => ?_, I.led.apart, I.led.new⟩, I.sepF, I.sepL, I.locNew, ⟨o, es, n, k _ _ (fun z => I.sepL (z ▸ tD)) a, b⟩⟩⟩
  · have : ∀ {l : List Env}, (∀ env ∈ l, env ∈ frs) → s.heap.FunFrames X.base l → h'.FunFrames X.base l := by
      intro l
      induction l with
      | nil => intro _ _; trivial
      | cons env r ih =>
        intro hm ⟨hk, ⟨L, o, hf, hn, ho, hd⟩, hr⟩
        refine ⟨hk, ⟨L, o, hf, hn, k L o (fun z => I.sepF D tD ⟨env, hm env (.head _), by rw [hf, z]⟩) ho, hd⟩, ih (fun e he => hm e (.tail _ he)) hr⟩
    exact this (fun _ h => h) I.frames
  · by_cases hj : j = i
    · subst hj
      rw [e] at e2
      cases e2
      have hlt := (List.getElem?_eq_some_iff.mp e1).1
      rw [List.getElem?_set_self (by simpa using hlt)] at e1
      cases e1
      exact hc
    · rw [List.getElem?_set_ne (Ne.symm hj)] at e1
      obtain ⟨a1, a2, a3, a4⟩ := I.led.apart j i q p e2 e hj
      have := (I.led.at_ j d q e1 e2).keeps (t := []) (fun o z => k _ o (by rcases hD with rfl | rfl <;> assumption) z) (fun o z => k _ o (by rcases hD with rfl | rfl <;> assumption) z)
      rwa [List.append_nil] at this

structure AOk (A : Around) (frs : List Env) (n : Nat) : Prop where
  fr : A.frames = some frs
  hd : A.handled = none
  dp : A.depth + 2 * n + 2 ≤ 990
  un : A.units + 10 * n + 40 ≤ 9000
end Mine
end

section
open PySem PySem.W PyProof.Rows PySem.Calls
set_option maxRecDepth 100000
set_option linter.unusedVariables false
namespace Mine

noncomputable def LocR (ι : Iota) (ns : List Str) (l : Loc) (m : Str → Option Value) : Prop :=
  ∀ x v, l x = some v → x < ns.length ∧ ∃ c, m (nm ns x) = some c ∧ VR ι v c
structure Pt (X : St) (frs : List Env) (Cl : Addr) (ns : List Str) (l : Loc) (ι : Iota) (ah : H) (s : Shared) : Prop where
  inv : Inv X frs Cl ι ah s.heap
  loc : ∃ m, s.heap.Ns Cl m ∧ LocR ι ns l m

structure EnvOk (sc : Scope) (ns : List Str) (env : Env) (Cl : Addr) : Prop where
  kind : env.scope.kind = .function
  scope : env.scope = sc
  loc : env.locals = Cl
  glob : env.globals = mainGlobals
  bi : env.builtins = builtinsNs
  vars : ∀ n ∈ ns, env.kindOf n = some .local ∧ (n == ("__debug__" : Str)) = false
  nd : ns.Nodup

noncomputable def SimAt {α γ : Type} (prog : Program) (w : World) (X : St) (frs : List Env) (Cl : Addr) (ns : List Str) (l : Loc) (A : Around) (Rel : Iota → α → γ → Prop) (t : Sem γ) (r : H → R α) : Prop :=
  ∀ ι ah s, Pt X frs Cl ns l ι ah s → r ah ≠ .fail → wpAny (model prog w) A t (Post Rel X frs Cl ι s (r ah)) (PExc X frs Cl ι s (r ah)) s

section
variable {prog : Program} {w : World} {X : St} {frs : List Env} {Cl : Addr} {ns : List Str} {l : Loc} {A : Around} {env : Env} {sc : Scope}

theorem LocR.mono {ι t : Iota} {m : Str → Option Value} (h : LocR ι ns l m) : LocR (ι ++ t) ns l m := fun x v e => by
  obtain ⟨a, c, b, d⟩ := h x v e; exact ⟨a, c, b, d.mono⟩
theorem Pt.step {ι ι₁ : Iota} {ah ah₁ : H} {s s₁ : Shared} (P : Pt X frs Cl ns l ι ah s) (a : Step X frs Cl ι s ι₁ ah₁ s₁) : Pt X frs Cl ns l ι₁ ah₁ s₁ := by
  obtain ⟨I, m, hn, hl⟩ := P
  refine ⟨a.inv, m, a.ns I hn, ?_⟩
  obtain ⟨t, rfl, _⟩ := a.ext
  exact hl.mono

theorem wp_lift {α γ : Type} {Rel : Iota → α → γ → Prop} {ι ι₁ : Iota} {ah₁ : H} {s s₁ : Shared} {t : Sem γ} {r : R α} (st : Step X frs Cl ι s ι₁ ah₁ s₁)
    (h : wpAny (model prog w) A t (Post Rel X frs Cl ι₁ s₁ r) (PExc X frs Cl ι₁ s₁ r) s₁) : wpAny (model prog w) A t (Post Rel X frs Cl ι s r) (PExc X frs Cl ι s r) s₁ :=
  wpAny_mono h (fun _ _ q => Post.trans st q) fun _ _ q => PExc.trans st q

theorem SimAt.use {α β γ : Type} {Ra : Iota → α → γ → Prop} {t : Sem γ} {ra : H → R α} {f : α → H → R β} {P : γ → Shared → Prop} {ι : Iota} {ah : H} {s : Shared}
    (h : SimAt prog w X frs Cl ns l A Ra t ra) (pt : Pt X frs Cl ns l ι ah s) (hnf : (ra ah).bind f ≠ .fail)
    (k : ∀ v ah₁ ι₁ c s₁, ra ah = .ok v ah₁ → Step X frs Cl ι s ι₁ ah₁ s₁ → Pt X frs Cl ns l ι₁ ah₁ s₁ → Ra ι₁ v c → f v ah₁ ≠ .fail → P c s₁) :
    wpAny (model prog w) A t P (PExc X frs Cl ι s ((ra ah).bind f)) s := by
  have hra : ra ah ≠ .fail := fun e => hnf (by rw [e]; rfl)
  refine wpAny_mono (h ι ah s pt hra) (fun c s₁ h₁ => ?_) fun ex s₁ h₁ => ?_
  · obtain ⟨v, ah₁, ι₁, e, st, rel⟩ := h₁
    exact k v ah₁ ι₁ c s₁ e st (pt.step st) rel (by rw [e] at hnf; exact hnf)
  · obtain ⟨ah₁, ι₁, e, st, x⟩ := h₁
    exact ⟨ah₁, ι₁, by rw [e]; rfl, st, x⟩
/-- as use, for a whole answer: behind an ok the rest is shown from the new state -/
theorem SimAt.then {α β γ δ : Type} {Ra : Iota → α → γ → Prop} {Rb : Iota → β → δ → Prop} {t : Sem γ} {ra : H → R α} {f : α → H → R β} {g : γ → Sem δ} {ι : Iota} {ah : H} {s : Shared}
    (h : SimAt prog w X frs Cl ns l A Ra t ra) (pt : Pt X frs Cl ns l ι ah s) (hnf : (ra ah).bind f ≠ .fail)
    (k : ∀ v ah₁ ι₁ c s₁, Step X frs Cl ι s ι₁ ah₁ s₁ → Pt X frs Cl ns l ι₁ ah₁ s₁ → Ra ι₁ v c → f v ah₁ ≠ .fail → wpAny (model prog w) A (g c) (Post Rb X frs Cl ι₁ s₁ (f v ah₁)) (PExc X frs Cl ι₁ s₁ (f v ah₁)) s₁) :
    wpAny (model prog w) A t (fun c s₁ => wpAny (model prog w) A (g c) (Post Rb X frs Cl ι s ((ra ah).bind f)) (PExc X frs Cl ι s ((ra ah).bind f)) s₁) (PExc X frs Cl ι s ((ra ah).bind f)) s :=
  h.use pt hnf fun v ah₁ ι₁ c s₁ e st pt₁ rel hn => by
    have := wp_lift st (k v ah₁ ι₁ c s₁ st pt₁ rel hn)
    rw [e]; exact this

/-- the value comes at once; only the toks may turn -/
theorem sim_now {α γ : Type} {Rel : Iota → α → γ → Prop} {ι : Iota} {ah : H} {s : Shared} {c : γ} {v : α} {tk : Nat} (pt : Pt X frs Cl ns l ι ah s) (h : Rel ι v c) : Post Rel X frs Cl ι s (.ok v ah) c { s with toks := tk } :=
  ⟨v, ah, ι, rfl, Step.toks pt.inv tk, h⟩
theorem sim_here {α γ : Type} {Rel : Iota → α → γ → Prop} {ι : Iota} {ah : H} {s : Shared} {c : γ} {v : α} (pt : Pt X frs Cl ns l ι ah s) (h : Rel ι v c) : Post Rel X frs Cl ι s (.ok v ah) c s :=
  ⟨v, ah, ι, rfl, Step.refl pt.inv, h⟩

theorem sim_none {p : Pos} : SimAt prog w X frs Cl ns l A VR (eval (.Constant .none 0 p) env) (fun h => .ok V.none h) := fun _ _ _ pt _ => wpAny_Constant_none (sim_here pt rfl)
theorem sim_bool {p : Pos} {b : Bool} : SimAt prog w X frs Cl ns l A VR (eval (.Constant (.bool b) 0 p) env) (fun h => .ok (V.bool b) h) := fun _ _ _ pt _ => wpAny_Constant_bool (sim_here pt rfl)
theorem sim_int {p : Pos} {i : Int} : SimAt prog w X frs Cl ns l A VR (eval (.Constant (.int i) 0 p) env) (fun h => .ok (V.int i) h) := fun _ _ _ pt _ => wpAny_Constant_int (sim_now pt ⟨_, rfl⟩)
theorem sim_str {p : Pos} : SimAt prog w X frs Cl ns l A VR (eval (.Constant (.str (PySem.Str.ofString "")) 0 p) env) (fun h => .ok V.str h) := fun _ _ _ pt _ => wpAny_Constant_str (sim_now pt ⟨_, rfl⟩)
theorem sim_neg1 {p q : Pos} : SimAt prog w X frs Cl ns l A VR (eval (.UnaryOp .USub (.Constant (.int 1) 0 p) q) env) (fun h => .ok (V.int (-1)) h) := fun _ _ s pt _ =>
  wpAny_UnaryOp (wpAny_Constant_int (PySem.P.neg_int (sim_now (s := s) (tk := s.toks + 1 + 1) pt ⟨_, rfl⟩)))

theorem nm_mem {x : Nat} (h : x < ns.length) : nm ns x ∈ ns := by
  unfold nm; rw [List.getD_eq_getElem?_getD, List.getElem?_eq_getElem h]; exact List.getElem_mem h
theorem nm_inj (nd : ns.Nodup) {x y : Nat} (hx : x < ns.length) (hy : y < ns.length) (e : nm ns x = nm ns y) : x = y := by
  unfold nm at e
  rw [List.getD_eq_getElem?_getD, List.getD_eq_getElem?_getD, List.getElem?_eq_getElem hx, List.getElem?_eq_getElem hy] at e
  exact (List.getElem_inj nd).mp e

theorem sim_var {p : Pos} {x : Nat} (eo : EnvOk sc ns env Cl) : SimAt prog w X frs Cl ns l A VR (eval (.Name (nm ns x) p) env) (fun h => match l x with | some v => .ok v h | none => .fail) := fun ι ah s pt hnf => by
  cases e : l x with
  | none => rw [e] at hnf; exact absurd rfl hnf
  | some v =>
    obtain ⟨m, hn, hl⟩ := pt.loc
    obtain ⟨hx, c, hc, hv⟩ := hl x v e
    obtain ⟨h1, h2⟩ := eo.vars _ (nm_mem hx)
    exact wpAny_Name (wpAny_loadName_local eo.kind h1 (eo.loc ▸ hn) hc (sim_here pt hv)) h2
end
end Mine
end

section
open PySem PySem.W PyProof.Rows PySem.Calls
set_option maxRecDepth 100000
set_option linter.unusedVariables false
namespace Mine

structure StOk (X : St) : Prop where
  kin : X.K.In X.base
  g : X.base.Ns mainGlobals X.mg
  b : X.base.Ns builtinsNs X.mb
  nolimit : X.base.NoLimit

section
variable {prog : Program} {w : World} {X : St} {frs : List Env} {Cl : Addr} {A : Around} {ι : Iota} {ah : H} {s : Shared}

theorem ML_line : ML = sizeLine := by decide +kernel
theorem gL_open {x : V} {a : Value} {i : Nat} {vs : List V} (I : Inv X frs Cl ι ah s.heap) (h : VR ι x a) (e : gL ah x = some (i, vs)) :
    ∃ p cs n, a = .ref p.1 ∧ ι[i]? = some p ∧ p.2 = p.1 ∧ VRs ι vs cs ∧ s.heap.get? p.1 = some (listOf cs.toArray n) ∧ ah[i]? = some (.lst vs) ∧ vs.length ≤ ML ∧ x = .ref i := by
  cases x with
  | ref j =>
    simp only [gL] at e
    split at e
    · rename_i vs' q
      cases e
      obtain ⟨p, hp, rfl⟩ := h
      obtain ⟨p', hp', hc⟩ := I.led.ofRef q
      rw [hp] at hp'; cases hp'
      obtain ⟨e2, z, cs, n, hv, hg⟩ := hc
      exact ⟨p, cs, n, rfl, hp, e2, hv, hg, q, z, rfl⟩
    · cases e
  | _ => cases e

theorem post_alloc {c : Cell} {o : Obj} (I : Inv X frs Cl ι ah s.heap) (hc : CellAt X.C ι (s.heap.push o) (s.heap.objs.size, s.heap.objs.size) c) (tk : Nat) :
    Post VR X frs Cl ι s (alloc c ah) (.ref s.heap.objs.size) { s with heap := s.heap.push o, toks := tk } := by
  have n : s.heap.get? s.heap.objs.size = none := by
    cases q : s.heap.get? s.heap.objs.size with
    | none => rfl
    | some o => exact absurd (Heap.lt_size q) (Nat.lt_irrefl _)
  refine ⟨_, _, _, rfl, Step.alloc (p := (s.heap.objs.size, s.heap.objs.size)) I (fun b o e => Heap.get?_push_of_some _ e) n n hc tk, ?_⟩
  exact ⟨(s.heap.objs.size, s.heap.objs.size), by rw [← I.led.len]; simp, rfl⟩
theorem post_list {vs : List V} {cs : List Value} (I : Inv X frs Cl ι ah s.heap) (hv : VRs ι vs cs) (hz : vs.length ≤ ML) (tk : Nat) :
    Post VR X frs Cl ι s (alloc (.lst vs) ah) (.ref s.heap.objs.size) { s with heap := s.heap.push { cls := .type "list", data := .seq cs.toArray }, toks := tk } :=
  post_alloc (c := .lst vs) (o := { cls := .type "list", data := .seq cs.toArray }) I ⟨rfl, hz, cs, 0, hv, Heap.get?_push_size _ rfl⟩ tk
theorem post_tup {vs : List V} {cs : List Value} (I : Inv X frs Cl ι ah s.heap) (hv : VRs ι vs cs) (hz : vs.length ≤ ML) (tk : Nat) :
    Post VR X frs Cl ι s (alloc (.tup vs) ah) (.ref s.heap.objs.size) { s with heap := s.heap.push { cls := .type "tuple", data := .seq cs.toArray }, toks := tk } :=
  post_alloc (c := .tup vs) (o := { cls := .type "tuple", data := .seq cs.toArray }) I ⟨rfl, hz, cs, 0, hv, Heap.get?_push_size _ rfl⟩ tk
theorem post_now {x : V} {a : Value} {tk : Nat} (I : Inv X frs Cl ι ah s.heap) (h : VR ι x a) : Post VR X frs Cl ι s (.ok x ah) a { s with toks := tk } := ⟨x, ah, ι, rfl, Step.toks I tk, h⟩
theorem post_here {x : V} {a : Value} (I : Inv X frs Cl ι ah s.heap) (h : VR ι x a) : Post VR X frs Cl ι s (.ok x ah) a s := ⟨x, ah, ι, rfl, Step.refl I, h⟩
theorem post_grown {x : V} {a : Value} {h' : Heap} {tk : Nat} (I : Inv X frs Cl ι ah s.heap) (k : ∀ b o, s.heap.get? b = some o → h'.get? b = some o) (h : VR ι x a) : Post VR X frs Cl ι s (.ok x ah) a { s with heap := h', toks := tk } := ⟨x, ah, ι, rfl, Step.grown I k tk, h⟩
/-- a list of ours is written anew -/
theorem post_write {i : Nat} {p : Addr × Addr} {cs ds : List Value} {ws : List V} {n : Nat} {f : Array Value → Array Value} {x : V} {a : Value} (I : Inv X frs Cl ι ah s.heap) (hp : ι[i]? = some p) (e2 : p.2 = p.1)
    (hg : s.heap.get? p.1 = some (listOf cs.toArray n)) (hf : f cs.toArray = ds.toArray) (hv : VRs ι ws ds) (hz : ws.length ≤ ML) (hx : VR ι x a) (tk : Nat) :
    Post VR X frs Cl ι s (.ok x (ah.set i (.lst ws))) a { s with heap := s.heap.update p.1 (Obj.mapSeq f), toks := tk } := by
  refine ⟨x, _, ι, rfl, Step.set (D := p.1) I hp (.inl rfl) (fun b o nb e => (Heap.get?_update_other _ _ (Ne.symm nb)).trans e) ?_ tk, hx⟩
  have := PySem.IsL.update (l := p.1) (items := cs.toArray) (n := n) hg f
  rw [hf] at this
  exact ⟨e2, hz, ds, _, hv, this⟩

theorem int2_inv {f : Int → Int → R V} {a b : V} (h : int2 f a b ≠ .fail) : ∃ i j, a = .int i ∧ b = .int j ∧ f i j ≠ .fail := by
  cases a with
  | int i => cases b with
    | int j => exact ⟨i, j, rfl, rfl, h⟩
    | _ => exact absurd rfl h
  | _ => exact absurd rfl h
theorem ite_nf {c : Prop} [Decidable c] {r : R V} (h : (if c then r else .fail) ≠ .fail) : c := Decidable.byContradiction fun n => h (if_neg n)
theorem ite_both {c : Prop} [Decidable c] {r : R V} (h : (if c then r else .fail) ≠ .fail) : c ∧ (if c then r else .fail) = r := ⟨ite_nf h, if_pos (ite_nf h)⟩
theorem leaf_bin {op : Bop} {x y : V} {a b : Value} (I : Inv X frs Cl ι ah s.heap) (ha : VR ι x a) (hb : VR ι y b) (hnf : binV op ah x y ≠ .fail) {E : Value → Shared → Prop} :
    wpAny (model prog w) A (binaryOp (bopO op) a b) (Post VR X frs Cl ι s (binV op ah x y)) E s := by
  have noPy : ∀ i j : Int, sm j → Builtin.divisionGoesByPylong i j = false := fun i j hj => by
    refine PyProof.noPylong_of_log2 ?_
    have h2 : j.natAbs < 2 ^ 62 := by unfold sm at hj; lia
    by_cases h0 : j.natAbs = 0
    · rw [h0]; decide +kernel
    · have := (Nat.log2_lt h0).mpr h2; lia
  cases op with
  | add =>
    cases x with
    | int i =>
      obtain ⟨_, j, z, rfl, hn⟩ := int2_inv hnf
      cases z
      obtain ⟨t, rfl⟩ := ha
      obtain ⟨u, rfl⟩ := hb
      have e : binV .add ah (.int i) (.int j) = .ok (.int (i + j)) ah := (ite_both hn).2
      rw [e]; exact PySem.P.add_int (post_now I ⟨_, rfl⟩)
    | ref i =>
      change addV ah (.ref i) y ≠ .fail at hnf
      show wpAny _ _ _ (Post VR X frs Cl ι s (addV ah (.ref i) y)) _ _
      dsimp only [addV] at hnf ⊢
      cases g1 : gL ah (.ref i) with
      | none => rw [g1] at hnf; exact absurd rfl hnf
      | some xs =>
        rw [g1] at hnf
        cases g2 : gL ah y with
        | none => rw [g2] at hnf; exact absurd rfl hnf
        | some ys =>
          rw [g2] at hnf
          have hz : xs.2.length + ys.2.length ≤ ML := ite_nf hnf
          dsimp only
          rw [if_pos hz]
          obtain ⟨p, cs, n, rfl, _, _, hv, hg, _⟩ := gL_open I ha g1
          obtain ⟨q, ds, n', rfl, _, _, hv', hg', _⟩ := gL_open I hb g2
          refine PySem.P.add_list (hsz := ?_) hg hg' ?_
          · have := post_list (s := s) I (hv.append hv') (by rw [List.length_append]; exact hz) s.toks
            rw [show (cs ++ ds).toArray = cs.toArray ++ ds.toArray from by simp] at this
            exact this
          · rw [List.size_toArray, List.size_toArray, hv.length, hv'.length, ← ML_line]; exact hz
    | _ => exact absurd rfl hnf
  | sub =>
    obtain ⟨i, j, rfl, rfl, hn⟩ := int2_inv hnf
    obtain ⟨t, rfl⟩ := ha
    obtain ⟨u, rfl⟩ := hb
    have e : binV .sub ah (.int i) (.int j) = .ok (.int (i - j)) ah := (ite_both hn).2
    rw [e]; exact PySem.P.sub_int (post_now I ⟨_, rfl⟩)
  | mul =>
    obtain ⟨i, j, rfl, rfl, hn⟩ := int2_inv hnf
    obtain ⟨t, rfl⟩ := ha
    obtain ⟨u, rfl⟩ := hb
    have c := ite_nf hn
    have e : binV .mul ah (.int i) (.int j) = .ok (.int (i * j)) ah := (ite_both hn).2
    rw [e]
    exact PySem.P.mul_int (post_now I ⟨_, rfl⟩) (.of_left (PySem.intBits_le_64 (by lia) (by lia)))
  | mod =>
    obtain ⟨i, j, rfl, rfl, hn⟩ := int2_inv hnf
    obtain ⟨t, rfl⟩ := ha
    obtain ⟨u, rfl⟩ := hb
    have c := ite_nf hn
    have e : binV .mod ah (.int i) (.int j) = .ok (.int (i % j)) ah := (ite_both hn).2
    rw [e]
    refine PyProof.Rows.mod_int' (Int.ne_of_gt c.1) (post_now I ⟨s.toks, ?_⟩)
    rw [Int.fmod_eq_emod_of_nonneg _ (Int.le_of_lt c.1)]
  | fdiv =>
    obtain ⟨i, j, rfl, rfl, hn⟩ := int2_inv hnf
    obtain ⟨t, rfl⟩ := ha
    obtain ⟨u, rfl⟩ := hb
    have c := ite_nf hn
    have e : binV .fdiv ah (.int i) (.int j) = .ok (.int (i / j)) ah := (ite_both hn).2
    rw [e]
    refine PyProof.Rows.floordiv_int (Int.ne_of_gt c.1) (post_now I ⟨s.toks, ?_⟩) (.inl (noPy _ _ c.2.1))
    rw [Int.fdiv_eq_ediv_of_nonneg _ (Int.le_of_lt c.1)]
  | pow =>
    obtain ⟨i, j, rfl, rfl, hn⟩ := int2_inv hnf
    obtain ⟨t, rfl⟩ := ha
    obtain ⟨u, rfl⟩ := hb
    obtain ⟨rfl, rfl⟩ := ite_nf hn
    exact PyProof.Rows.pow_int (by decide) (by decide +kernel) (post_now I ⟨_, rfl⟩)

theorem allEq_refl {f : V → V → Option Bool} (hf : ∀ x r, f x x = some r → r = true) : ∀ {xs : List V} {r : Bool}, allEq f xs xs = some r → r = true
  | [], r, e => by cases e; rfl
  | x :: xs, r, e => by
    dsimp only [allEq] at e
    split at e
    · rename_i a b h1 h2
      cases e
      rw [hf _ _ h1, allEq_refl hf h2]; rfl
    · cases e
theorem eqV_refl {h : H} : ∀ (n : Nat) {x : V} {r : Bool}, eqV n h x x = some r → r = true := by
  intro n
  induction n with
  | zero => intro x r e; cases e
  | succ n ih =>
    intro x r e
    cases x with
    | int i => dsimp only [eqV] at e; simp at e; exact e
    | bool i => dsimp only [eqV] at e; simp at e; exact e
    | ref i =>
      dsimp only [eqV] at e
      split at e
      · rename_i h1 h2
        rw [h1] at h2; cases h2
        simp only [if_true] at e
        exact allEq_refl (fun x r => ih) e
      · rename_i h1 h2
        rw [h1] at h2; cases h2
        simp only [if_true] at e
        exact allEq_refl (fun x r => ih) e
      · cases e
    | _ => cases e
theorem allEq_get {f : V → V → Option Bool} : ∀ {xs ys : List V} {r : Bool}, allEq f xs ys = some r → ∃ g : Nat → Bool, (∀ j x y, xs[j]? = some x → ys[j]? = some y → f x y = some (g j)) ∧ xs.length = ys.length ∧ (List.range xs.length).all g = r
  | [], [], r, e => by cases e; exact ⟨fun _ => true, by simp, rfl, by simp⟩
  | x :: xs, y :: ys, r, e => by
    dsimp only [allEq] at e
    split at e
    · rename_i a b h1 h2
      cases e
      obtain ⟨g, hg, hl, hr⟩ := allEq_get h2
      refine ⟨fun j => match j with | 0 => a | j + 1 => g j, fun j u v e1 e2 => ?_, by simp [hl], ?_⟩
      · cases j with
        | zero => simp at e1 e2; subst e1 e2; exact h1
        | succ j => exact hg j u v (by simpa using e1) (by simpa using e2)
      · rw [List.length_cons, List.range_succ_eq_map, List.all_cons, List.all_map]
        show (a && (List.range xs.length).all g) = _
        rw [hr]
    · cases e
  | [], _ :: _, r, e => by cases e
  | _ :: _, [], r, e => by cases e

/-- what a comparison of two of our sequences rests on -/
noncomputable def SeqCmp (A : Around) (s : Shared) (p q : Addr) (r : Bool) : Prop :=
  (∃ (its its2 : Array Value) (g : Nat → Bool), s.heap.IsList p its ∧ s.heap.IsList q its2 ∧ its.size = its2.size ∧ (∀ k (h1 : k < its.size) (h2 : k < its2.size), PySem.SeqAt.EqAt A.in1 s its[k] its2[k] (g k)) ∧ (List.range its.size).all g = r) ∨
  (∃ its its2 : Array Value, s.heap.IsList p its ∧ s.heap.IsList q its2 ∧ (its.size != its2.size) = true ∧ r = false) ∨
  (∃ (its its2 : Array Value) (g : Nat → Bool), s.heap.IsTuple p its ∧ s.heap.IsTuple q its2 ∧ (∀ k (h1 : k < its.size) (h2 : k < its2.size), PySem.SeqAt.EqAt A.in1 s its[k] its2[k] (g k)) ∧ ((List.range (min its.size its2.size)).all g && its.size == its2.size) = r)
theorem SeqCmp.eq {A : Around} {p q : Addr} {r : Bool} (h : SeqCmp A s p q r) (hu : A.units < cLine) : PySem.SeqAt.RcAt A s (.ref p) (.ref q) r := by
  rcases h with ⟨its, its2, g, h1, h2, hs, he, rfl⟩ | ⟨its, its2, h1, h2, hs, rfl⟩ | ⟨its, its2, g, h1, h2, he, rfl⟩
  · exact PySem.SeqAt.RcAt.lists h1 h2 hs hu he
  · exact PySem.SeqAt.RcAt.lists_lengths h1 h2 hs hu
  · exact PySem.SeqAt.RcAt.tuples h1 h2 hu he
theorem SeqCmp.ne {A : Around} {p q : Addr} {r : Bool} (h : SeqCmp A s p q r) (hu : A.units < cLine) : PySem.SeqAt.RcNeAt A s (.ref p) (.ref q) (!r) := by
  rcases h with ⟨its, its2, g, h1, h2, hs, he, rfl⟩ | ⟨its, its2, h1, h2, hs, rfl⟩ | ⟨its, its2, g, h1, h2, he, rfl⟩
  · exact PySem.SeqAt.RcNeAt.lists h1 h2 hs hu he
  · exact PySem.SeqAt.RcNeAt.lists_lengths h1 h2 hs hu
  · exact PySem.SeqAt.RcNeAt.tuples h1 h2 hu he

theorem seqCmp_of {n : Nat} {i j : Nat} {p q : Addr × Addr} {r : Bool} {A : Around}
    (ih : ∀ {x y : V} {a b : Value} {r : Bool} {A : Around}, A.units + n < cLine → Inv X frs Cl ι ah s.heap → VR ι x a → VR ι y b → eqV n ah x y = some r → PySem.SeqAt.EqAt A s a b r)
    (hu : A.units + (n + 1) < cLine) (I : Inv X frs Cl ι ah s.heap) (hp : ι[i]? = some p) (hq : ι[j]? = some q) (e : eqV (n + 1) ah (.ref i) (.ref j) = some r) : SeqCmp A s p.1 q.1 r := by
  have core : ∀ {xs ys : List V} {cs ds : List Value} {r : Bool}, VRs ι xs cs → VRs ι ys ds → allEq (eqV n ah) xs ys = some r →
      ∃ g : Nat → Bool, (∀ k (h1 : k < cs.toArray.size) (h2 : k < ds.toArray.size), PySem.SeqAt.EqAt A.in1 s cs.toArray[k] ds.toArray[k] (g k)) ∧ cs.length = ds.length ∧ (List.range cs.length).all g = r := by
    intro xs ys cs ds r hv hw ea
    obtain ⟨g, hg, hl, hr⟩ := allEq_get ea
    refine ⟨g, fun k h1 h2 => ?_, by rw [hv.length, hw.length, hl], by rw [hv.length]; exact hr⟩
    have k1 : k < xs.length := by rw [← hv.length]; simpa using h1
    have k2 : k < ys.length := by rw [← hw.length]; simpa using h2
    obtain ⟨c, hc, vc⟩ := hv.get k xs[k] (List.getElem?_eq_getElem k1)
    obtain ⟨d, hd, vd⟩ := hw.get k ys[k] (List.getElem?_eq_getElem k2)
    have z := ih (A := A.in1) (by show A.units + 1 + n < cLine; lia) I vc vd (hg k _ _ (List.getElem?_eq_getElem k1) (List.getElem?_eq_getElem k2))
    have e1 : cs.toArray[k] = c := by
      rw [List.getElem_toArray]
      exact (List.getElem?_eq_some_iff.mp hc).2
    have e2 : ds.toArray[k] = d := by
      rw [List.getElem_toArray]
      exact (List.getElem?_eq_some_iff.mp hd).2
    rw [e1, e2]; exact z
  dsimp only [eqV] at e
  split at e
  · rename_i xs ys h1 h2
    obtain ⟨p', hp', hc1⟩ := I.led.ofRef h1
    obtain ⟨q', hq', hc2⟩ := I.led.ofRef h2
    rw [hp] at hp'; cases hp'
    rw [hq] at hq'; cases hq'
    obtain ⟨_, _, cs, m, hv, hg⟩ := hc1
    obtain ⟨_, _, ds, m', hw, hg'⟩ := hc2
    have l1 : s.heap.IsList p.1 cs.toArray := ⟨_, hg, rfl, m, rfl⟩
    have l2 : s.heap.IsList q.1 ds.toArray := ⟨_, hg', rfl, m', rfl⟩
    split at e
    · obtain ⟨g, h, hl, hr⟩ := core hv hw e
      exact .inl ⟨_, _, g, l1, l2, by simpa using hl, h, by rw [List.size_toArray]; exact hr⟩
    · rename_i ne
      cases e
      exact .inr (.inl ⟨_, _, l1, l2, by simp [hv.length, hw.length, ne], rfl⟩)
  · rename_i xs ys h1 h2
    obtain ⟨p', hp', hc1⟩ := I.led.ofRef h1
    obtain ⟨q', hq', hc2⟩ := I.led.ofRef h2
    rw [hp] at hp'; cases hp'
    rw [hq] at hq'; cases hq'
    obtain ⟨_, _, cs, m, hv, hg⟩ := hc1
    obtain ⟨_, _, ds, m', hw, hg'⟩ := hc2
    have l1 : s.heap.IsTuple p.1 cs.toArray := ⟨_, hg, rfl, m, rfl⟩
    have l2 : s.heap.IsTuple q.1 ds.toArray := ⟨_, hg', rfl, m', rfl⟩
    split at e
    · obtain ⟨g, h, hl, hr⟩ := core hv hw e
      exact .inr (.inr ⟨_, _, g, l1, l2, h, by rw [List.size_toArray, List.size_toArray, ← hl, Nat.min_self, hr]; simp⟩)
    · cases e
  · cases e

/-- two values of ours are compared -/
theorem eqAt_of : ∀ (n : Nat) {x y : V} {a b : Value} {r : Bool} {A : Around}, A.units + n < cLine → Inv X frs Cl ι ah s.heap → VR ι x a → VR ι y b → eqV n ah x y = some r → PySem.SeqAt.EqAt A s a b r := by
  intro n
  induction n with
  | zero => intro x y a b r A _ _ _ _ e; cases e
  | succ n ih =>
    intro x y a b r A hu I ha hb e
    cases x with
    | int i =>
      cases y with
      | int j =>
        dsimp only [eqV] at e; simp only [Option.some.injEq] at e
        subst e
        obtain ⟨t, rfl⟩ := ha
        obtain ⟨u, rfl⟩ := hb
        have := PySem.SeqAt.EqAt.int_int (A := A) (s := s) i t j u
        rwa [show (i == j) = decide (i = j) from by rw [Bool.eq_iff_iff]; simp] at this
      | _ => cases e
    | bool i =>
      cases y with
      | bool j =>
        dsimp only [eqV] at e; simp only [Option.some.injEq] at e
        subst e
        cases ha; cases hb
        have := PySem.SeqAt.EqAt.bool_bool (A := A) (s := s) i j
        rwa [show (i == j) = decide (i = j) from by rw [Bool.eq_iff_iff]; simp] at this
      | _ => cases e
    | ref i =>
      cases y with
      | ref j =>
        obtain ⟨p, hp, rfl⟩ := ha
        obtain ⟨q, hq, rfl⟩ := hb
        by_cases hij : p.1 = q.1
        · -- one thing
          have hi : i = j := by
            by_cases z : i = j
            · exact z
            · exact absurd hij (I.led.apart i j p q hp hq z).1
          subst hi
          rw [hp] at hq; cases hq
          have : r = true := eqV_refl _ e
          subst this
          exact PySem.SeqAt.EqAt.same _
        · exact PySem.SeqAt.EqAt.of_refs hij ((seqCmp_of ih hu I hp hq e).eq (by lia))
      | _ => cases e
    | _ => cases e

theorem ints_of {vs : List V} (h : vs.all V.isInt = true) : ∀ v ∈ vs, ∃ i, v = .int i := fun v hv => by
  have := List.all_eq_true.mp h v hv
  cases v <;> first | exact ⟨_, rfl⟩ | cases this
theorem vrs_mem {vs : List V} {cs : List Value} (h : VRs ι vs cs) : ∀ c ∈ cs, ∃ v ∈ vs, VR ι v c := by
  induction cs generalizing vs with
  | nil => intro c hc; cases hc
  | cons d ds ih =>
    cases vs with
    | nil => exact h.elim
    | cons v vs =>
      intro c hc
      rcases List.mem_cons.mp hc with rfl | hc
      · exact ⟨v, .head _, h.1⟩
      · obtain ⟨u, hu, hv⟩ := ih h.2 c hc
        exact ⟨u, .tail _ hu, hv⟩
noncomputable def isI (k : Int) : Value → Bool
  | .int i _ => i == k
  | _ => false
theorem gives_of {vs : List V} {cs : List Value} (h : VRs ι vs cs) (hi : vs.all V.isInt = true) (k : Int) (t : Tok) : ∀ y, y ∈ cs.toArray → PySem.MeetsSeq.EqGives y (.int k t) (isI k y) := fun y hy => by
  obtain ⟨v, hv, r⟩ := vrs_mem h y (by simpa using hy)
  obtain ⟨i, rfl⟩ := ints_of hi v hv
  obtain ⟨u, rfl⟩ := r
  exact PySem.MeetsSeq.EqGives.int i k u t
theorem any_of {vs : List V} {cs : List Value} (h : VRs ι vs cs) (hi : vs.all V.isInt = true) (k : Int) : cs.toArray.any (isI k) = vs.contains (.int k) := by
  rw [List.any_toArray]
  induction cs generalizing vs with
  | nil => cases vs with | nil => rfl | cons _ _ => exact h.elim
  | cons c cs ih =>
    cases vs with
    | nil => exact h.elim
    | cons v vs =>
      simp only [List.all_cons, Bool.and_eq_true] at hi
      rw [List.any_cons, ih h.2 hi.2]
      obtain ⟨i, rfl⟩ := ints_of (vs := [v]) (by simp [hi.1]) v (.head _)
      obtain ⟨u, rfl⟩ := h.1
      rw [List.contains_cons]
      congr 1
      show (i == k) = (V.int k == V.int i)
      rw [Bool.eq_iff_iff, beq_iff_eq, beq_iff_eq, V.int.injEq]
      exact eq_comm
theorem count_of {vs : List V} {cs : List Value} (h : VRs ι vs cs) (hi : vs.all V.isInt = true) (k : Int) : cs.toArray.toList.countP (isI k) = vs.count (.int k) := by
  show cs.countP (isI k) = _
  induction cs generalizing vs with
  | nil => cases vs with | nil => rfl | cons _ _ => exact h.elim
  | cons c cs ih =>
    cases vs with
    | nil => exact h.elim
    | cons v vs =>
      simp only [List.all_cons, Bool.and_eq_true] at hi
      obtain ⟨i, rfl⟩ := ints_of (vs := [v]) (by simp [hi.1]) v (.head _)
      obtain ⟨u, rfl⟩ := h.1
      rw [List.countP_cons, List.count_cons, ih h.2 hi.2]
      congr 1
      show (if (i == k) = true then 1 else 0) = if (V.int i == V.int k) = true then 1 else 0
      have : (i == k) = (V.int i == V.int k) := by rw [Bool.eq_iff_iff, beq_iff_eq, beq_iff_eq, V.int.injEq]
      rw [this]

theorem rc_of {x y : V} {a b : Value} {r : Bool} (hu : A.units + 20 < cLine) (I : Inv X frs Cl ι ah s.heap) (ha : VR ι x a) (hb : VR ι y b) (e : eqV 9 ah x y = some r) : PySem.SeqAt.RcAt A s a b r ∧ PySem.SeqAt.RcNeAt A s a b (!r) := by
  cases x with
  | int i =>
    cases y with
    | int j =>
      cases e
      obtain ⟨t, rfl⟩ := ha
      obtain ⟨u, rfl⟩ := hb
      rw [← show (i == j) = decide (i = j) from by rw [Bool.eq_iff_iff]; simp]
      exact ⟨.int_int i t j u, .int_int i t j u⟩
    | _ => cases e
  | bool i =>
    cases y with
    | bool j =>
      cases e
      cases ha; cases hb
      rw [← show (i == j) = decide (i = j) from by rw [Bool.eq_iff_iff]; simp]
      exact ⟨.bool_bool i j, .bool_bool i j⟩
    | _ => cases e
  | ref i =>
    cases y with
    | ref j =>
      obtain ⟨p, hp, rfl⟩ := ha
      obtain ⟨q, hq, rfl⟩ := hb
      have h := seqCmp_of (A := A) (n := 8) (fun h => eqAt_of 8 h) (by lia) I hp hq e
      exact ⟨h.eq (by lia), h.ne (by lia)⟩
    | _ => cases e
  | _ => cases e
theorem eqR_inv {h : H} {f : Bool → Bool} {o : Option Bool} (n : eqR h f o ≠ .fail) : ∃ r, o = some r := by
  cases o with
  | none => exact absurd rfl n
  | some r => exact ⟨r, rfl⟩
theorem leaf_cmp {op : Cop} {x y : V} {a b : Value} (hu : A.units + 20 < cLine) (I : Inv X frs Cl ι ah s.heap) (ha : VR ι x a) (hb : VR ι y b) (hnf : cmpV op ah x y ≠ .fail) {E : Value → Shared → Prop} :
    wpAny (model prog w) A (compareOp (copO op) a b) (Post VR X frs Cl ι s (cmpV op ah x y)) E s := by
  cases op with
  | eq =>
    obtain ⟨r, e⟩ := eqR_inv hnf
    show wpAny _ _ _ (Post VR X frs Cl ι s (eqR ah (fun r => r) (eqV 9 ah x y))) _ _
    rw [e]
    exact (rc_of hu I ha hb e).1 prog w E _ (post_here I rfl)
  | ne =>
    obtain ⟨r, e⟩ := eqR_inv hnf
    show wpAny _ _ _ (Post VR X frs Cl ι s (eqR ah (fun r => !r) (eqV 9 ah x y))) _ _
    rw [e]
    exact (rc_of hu I ha hb e).2 prog w E _ (post_here I rfl)
  | lt =>
    obtain ⟨i, j, rfl, rfl, _⟩ := int2_inv hnf
    obtain ⟨t, rfl⟩ := ha; obtain ⟨u, rfl⟩ := hb
    exact PySem.P.lt_int (post_here I rfl)
  | le =>
    obtain ⟨i, j, rfl, rfl, _⟩ := int2_inv hnf
    obtain ⟨t, rfl⟩ := ha; obtain ⟨u, rfl⟩ := hb
    exact PySem.P.le_int (post_here I rfl)
  | gt =>
    obtain ⟨i, j, rfl, rfl, _⟩ := int2_inv hnf
    obtain ⟨t, rfl⟩ := ha; obtain ⟨u, rfl⟩ := hb
    exact PySem.P.gt_int (post_here I rfl)
  | ge =>
    obtain ⟨i, j, rfl, rfl, _⟩ := int2_inv hnf
    obtain ⟨t, rfl⟩ := ha; obtain ⟨u, rfl⟩ := hb
    exact PySem.P.ge_int (post_here I rfl)
  | notIn =>
    change notInV ah x y ≠ .fail at hnf
    show wpAny _ _ _ (Post VR X frs Cl ι s (notInV ah x y)) _ _
    cases x with
    | int k =>
      obtain ⟨t, rfl⟩ := ha
      dsimp only [notInV] at hnf ⊢
      cases g : gL ah y with
      | none => rw [g] at hnf; exact absurd rfl hnf
      | some vs =>
        rw [g] at hnf
        have hi : vs.2.all V.isInt = true := ite_nf hnf
        dsimp only
        rw [if_pos hi]
        obtain ⟨p, cs, n, rfl, _, _, hv, hg, _⟩ := gL_open I hb g
        have l1 : s.heap.IsList p.1 cs.toArray := ⟨_, hg, rfl, n, rfl⟩
        refine PySem.SeqAt.notIn_listAt (isI k) l1 (fun y hy => (gives_of hv hi k t y hy).at _ _) ?_
        rw [any_of hv hi k]
        exact post_here I rfl
    | _ => exact absurd rfl hnf
  | isNot =>
    cases y with
    | none =>
      cases hb
      cases x with
      | none => cases ha; exact PySem.isNot_none (post_here I rfl)
      | ref i => obtain ⟨p, hp, rfl⟩ := ha; exact PySem.isNot_none (post_here I rfl)
      | _ => exact absurd rfl hnf
    | _ => exact absurd rfl hnf
end
end Mine
end

section
open PySem PySem.W PyProof.Rows PySem.Calls
set_option maxRecDepth 100000
set_option linter.unusedVariables false
namespace Mine

section
variable {prog : Program} {w : World} {X : St} {frs : List Env} {Cl : Addr} {A : Around} {ι : Iota} {ah : H} {s : Shared} {E : Value → Shared → Prop} {x y z : V} {a b c : Value}

theorem ML_63 {n : Nat} (h : n ≤ ML) : (n : Int) < 2 ^ 63 := by unfold ML at h; lia
theorem isL {p : Addr} {cs : List Value} {n : Nat} (hg : s.heap.get? p = some (listOf cs.toArray n)) : s.heap.IsList p cs.toArray := ⟨_, hg, rfl, n, rfl⟩

theorem leaf_len (I : Inv X frs Cl ι ah s.heap) (ha : VR ι x a) (hnf : lenV ah x ≠ .fail) : wpAny (model prog w) A (call (.builtin "len") [a]) (Post VR X frs Cl ι s (lenV ah x)) E s := by
  unfold lenV at hnf ⊢
  split at hnf
  · rename_i i vs e
    obtain ⟨p, cs, n, rfl, hp, e2, hv, hg, _, hz, rfl⟩ := gL_open I ha e
    refine PySem.Calls.call_len_list (isL hg) ?_ ?_
    · rw [List.size_toArray, hv.length]; exact ML_63 hz
    · rw [List.size_toArray, hv.length]; exact post_now I ⟨_, rfl⟩
  · exact absurd rfl hnf

/-- the slice of a subscript is no slice display -/
noncomputable def NoSl (sl : PySem.Expr) : Prop := ∀ o i, subscripted sl false o i = operate [o, i] (getItem o i)

theorem leaf_idx {value sl : PySem.Expr} (ns : NoSl sl) (I : Inv X frs Cl ι ah s.heap) (ha : VR ι x a) (hb : VR ι y b) (hnf : idxV ah x y ≠ .fail) :
    wpAny (model prog w) A (subscriptTail value sl a b) (Post VR X frs Cl ι s (idxV ah x y)) E s := by
  cases x with
  | ref i =>
    cases y with
    | int k =>
      obtain ⟨p, hp, rfl⟩ := ha
      obtain ⟨t, rfl⟩ := hb
      have core : ∀ vs : List V, getLT ah (.ref i) = some vs → ∃ cs, VRs ι vs cs ∧ vs.length ≤ ML ∧ (s.heap.IsList p.1 cs.toArray ∨ IsTup s.heap p.1 cs.toArray) := by
        intro vs e
        simp only [getLT] at e
        split at e
        · rename_i vs' q
          cases e
          obtain ⟨p', hp', _, z, cs, n, hv, hg⟩ := I.led.ofRef q
          rw [hp] at hp'; cases hp'
          exact ⟨cs, hv, z, .inl ⟨_, hg, rfl, n, rfl⟩⟩
        · rename_i vs' q
          cases e
          obtain ⟨p', hp', _, z, cs, n, hv, hg⟩ := I.led.ofRef q
          rw [hp] at hp'; cases hp'
          exact ⟨cs, hv, z, .inr ⟨_, hg, rfl, n, rfl⟩⟩
        · cases e
      cases e : getLT ah (.ref i) with
      | none => simp only [idxV, e] at hnf; exact absurd rfl hnf
      | some vs =>
        obtain ⟨cs, hv, hz, hk⟩ := core vs e
        simp only [idxV, e] at hnf ⊢
        by_cases h0 : 0 ≤ k
        · simp only [h0, if_true] at hnf ⊢
          cases q : vs[k.toNat]? with
          | none => rw [q] at hnf; exact absurd rfl hnf
          | some v =>
            dsimp only
            obtain ⟨d, hd, vd⟩ := hv.get _ _ q
            have hlt : k.toNat < vs.length := (List.getElem?_eq_some_iff.mp q).1
            have hk63 : k < 2 ^ 63 := by unfold ML at hz; lia
            rcases hk with hk | hk
            · exact tail_any hk.typeIs slot_list_getitem.lookup (wpAny_getItem_list hk h0 hk63 (by simpa using hd) (post_here I vd)) (ns _ _)
            · refine PyProof.Rows.item_tupleT (l := cs) (j := k.toNat) hk (by lia) hk63 ?_ hd (post_here I vd) (ns _ _)
              exact PySem.seqIndex_of h0 (by rw [hv.length]; lia)
        · simp only [h0, if_false] at hnf ⊢
          by_cases h1 : k = -1
          · simp only [h1, if_true] at hnf ⊢
            cases q : vs.getLast? with
            | none => rw [q] at hnf; exact absurd rfl hnf
            | some v =>
              dsimp only
              have q' : vs[vs.length - 1]? = some v := by rw [← List.getLast?_eq_getElem?]; exact q
              obtain ⟨d, hd, vd⟩ := hv.get _ _ q'
              have hlt : vs.length - 1 < vs.length := (List.getElem?_eq_some_iff.mp q').1
              have ei : ((-1 : Int) + cs.toArray.size).toNat = vs.length - 1 := by rw [List.size_toArray, hv.length]; lia
              rcases hk with hk | hk
              · refine tail_any hk.typeIs slot_list_getitem.lookup (PySem.wpAny_getItem_list_neg hk (by decide) (by rw [List.size_toArray, hv.length]; lia) (by decide) (x := d) ?_ (post_here I vd)) (ns _ _)
                rw [ei]; simpa using hd
              · refine PyProof.Rows.item_tupleT (l := cs) (j := vs.length - 1) hk (by decide) (by decide) ?_ hd (post_here I vd) (ns _ _)
                rw [PySem.seqIndex_neg (by decide) (by rw [hv.length]; lia), hv.length]
                congr 1; lia
          · simp only [h1, if_false] at hnf; exact absurd rfl hnf
    | _ => simp only [idxV] at hnf; exact absurd rfl (by split at hnf <;> first | exact hnf | simp_all)
  | _ => exact absurd rfl hnf

/-- a slice of a list -/
theorem leaf_slice {value sl : PySem.Expr} {i : Nat} {vs : List V} {lo hi st : Option Int} {vl vu vt : Value} {ws : List V → List V} {vc : List Value → List Value} {q : Addr} {ops : List Value} (I : Inv X frs Cl ι ah s.heap) (ha : VR ι x a) (e : gL ah x = some (i, vs))
    (hq : s.heap.IsSliceOf q vl vu vt) (pl : PySem.IsPart vl lo) (pu : PySem.IsPart vu hi) (pt : PySem.IsPart vt st) (h0 : st ≠ some 0)
    (hc : ∀ cs : List Value, cs.length = vs.length → PySem.slicePick cs.toArray lo hi st = (vc cs).toArray) (hw : ∀ cs, VRs ι vs cs → VRs ι (ws vs) (vc cs)) (hz : (ws vs).length ≤ vs.length)
    (ho : subscripted sl false a (.ref q) = operate ops (getItem a (.ref q))) :
    wpAny (model prog w) A (subscriptTail value sl a (.ref q)) (Post VR X frs Cl ι s (alloc (.lst (ws vs)) ah)) E s := by
  obtain ⟨p, cs, n, rfl, hp, e2, hv, hg, _, hz', rfl⟩ := gL_open I ha e
  have hsz : cs.toArray.size ≤ sizeLine := by rw [List.size_toArray, hv.length, ← ML_line]; exact hz'
  refine tail_any (isL hg).typeIs slot_list_getitem.lookup (PySem.wpAny_getItem_list_slice (hsz := hsz) (isL hg) hq pl pu pt h0 ?_) ho
  rw [hc cs hv.length]
  exact post_list I (hw cs hv) (Nat.le_trans hz hz') s.toks

theorem leaf_list (I : Inv X frs Cl ι ah s.heap) (ha : VR ι x a) (hnf : listV ah x ≠ .fail) : wpAny (model prog w) A (call (.type "list") [a]) (Post VR X frs Cl ι s (listV ah x)) E s := by
  unfold listV at hnf ⊢
  split at hnf
  · rename_i i vs e
    obtain ⟨p, cs, n, rfl, hp, e2, hv, hg, _, hz, rfl⟩ := gL_open I ha e
    have hsz : cs.toArray.size ≤ sizeLine := by rw [List.size_toArray, hv.length, ← ML_line]; exact hz
    refine PySem.call_list_seq (hsz := hsz) p.1 (.inl rfl) hg rfl rfl fun h' c' hk hD => ?_
    · have nn : s.heap.get? s.heap.objs.size = none := by
        cases q : s.heap.get? s.heap.objs.size with
        | none => rfl
        | some o => exact absurd (Heap.lt_size q) (Nat.lt_irrefl _)
      refine ⟨_, _, _, rfl, Step.alloc (p := (s.heap.objs.size, s.heap.objs.size)) (c := .lst vs) I hk nn nn ⟨rfl, hz, cs, c', hv, hD⟩ s.toks, ?_⟩
      exact ⟨(s.heap.objs.size, s.heap.objs.size), by rw [← I.led.len]; simp, rfl⟩
  · exact absurd rfl hnf

theorem leaf_max2 (hh : A.handled = none) (I : Inv X frs Cl ι ah s.heap) (ha : VR ι x a) (hb : VR ι y b) (hnf : max2V ah x y ≠ .fail) : wpAny (model prog w) A (call (.builtin "max") [a, b]) (Post VR X frs Cl ι s (max2V ah x y)) E s := by
  cases x <;> first | (exact absurd rfl hnf) | (cases y <;> first | (exact absurd rfl hnf) | skip)
  rename_i i j
  obtain ⟨t, rfl⟩ := ha; obtain ⟨u, rfl⟩ := hb
  refine PySem.max_two_ints hh fun h' tk hk => ?_
  by_cases c : j > i
  · rw [if_pos c]
    exact post_grown I hk ⟨u, by rw [Int.max_eq_right (Int.le_of_lt c)]⟩
  · rw [if_neg c]
    exact post_grown I hk ⟨t, by rw [Int.max_eq_left (by lia)]⟩

theorem leaf_divmod (I : Inv X frs Cl ι ah s.heap) (ha : VR ι x a) (hb : VR ι y b) (hnf : divmodV ah x y ≠ .fail) : wpAny (model prog w) A (call (.builtin "divmod") [a, b]) (Post VR X frs Cl ι s (divmodV ah x y)) E s := by
  cases x <;> first | (exact absurd rfl hnf) | (cases y <;> first | (exact absurd rfl hnf) | skip)
  rename_i i j
  obtain ⟨t, rfl⟩ := ha; obtain ⟨u, rfl⟩ := hb
  simp only [divmodV] at hnf ⊢
  split at hnf
  · rename_i c
    rw [if_pos c]
    have noPy : Builtin.divisionGoesByPylong i j = false := by
      refine PyProof.noPylong_of_log2 ?_
      have h2 : j.natAbs < 2 ^ 62 := by have := c.2.1; unfold sm at this; lia
      by_cases h0 : j.natAbs = 0
      · rw [h0]; decide +kernel
      · have := (Nat.log2_lt h0).mpr h2; lia
    refine PyProof.Rows.divmod_int (by lia) ?_ (.inl noPy)
    have := post_tup (vs := [.int (i / j), .int (i % j)]) (cs := [.int (i.fdiv j) s.toks, .int (i.fmod j) (s.toks + 1)]) I ⟨⟨s.toks, by rw [Int.fdiv_eq_ediv_of_nonneg _ (by lia)]⟩, ⟨s.toks + 1, by rw [Int.fmod_eq_emod_of_nonneg _ (by lia)]⟩, trivial⟩ (by simp [ML]) (s.toks + 1 + 1)
    exact this
  · exact absurd rfl hnf

theorem ints_pairs {vs : List V} {cs : List Value} (h : VRs ι vs cs) (hi : ∀ v ∈ vs, ∃ i, v = .int i) : ∃ xs : List (Int × Tok), cs.toArray = PySem.intItems xs.toArray ∧ vs = xs.map fun p => .int p.1 := by
  induction cs generalizing vs with
  | nil => cases vs with | nil => exact ⟨[], by simp [PySem.intItems], rfl⟩ | cons _ _ => exact h.elim
  | cons c cs ih =>
    cases vs with
    | nil => exact h.elim
    | cons v vs =>
      obtain ⟨xs, e1, e2⟩ := ih h.2 fun v hv => hi v (.tail _ hv)
      obtain ⟨i, rfl⟩ := hi v (.head _)
      obtain ⟨t, rfl⟩ := h.1
      refine ⟨(i, t) :: xs, ?_, by simp [e2]⟩
      simp only [PySem.intItems] at e1 ⊢
      apply Array.toList_inj.mp
      have := congrArg Array.toList e1
      simp at this ⊢
      exact this
theorem maxL_ints : ∀ {vs : List V} {m : Int}, maxL vs = some m → (∀ v ∈ vs, ∃ i, v = .int i) ∧ (∀ i, V.int i ∈ vs → i ≤ m) ∧ V.int m ∈ vs
  | [], m, e => by cases e
  | [v], m, e => by
    cases v <;> dsimp only [maxL] at e <;> simp at e
    subst e; simp
  | v :: u :: r, m, e => by
    cases v with
    | int i =>
      dsimp only [maxL] at e; simp only [Option.map_eq_some_iff] at e
      obtain ⟨k, hk, rfl⟩ := e
      obtain ⟨h1, h2, h3⟩ := maxL_ints hk
      refine ⟨fun v hv => ?_, fun j hj => ?_, ?_⟩
      · rcases List.mem_cons.mp hv with rfl | hv
        · exact ⟨i, rfl⟩
        · exact h1 v hv
      · rcases List.mem_cons.mp hj with hj | hj
        · cases hj; lia
        · have := h2 j hj; lia
      · by_cases c : i ≤ k
        · rw [Int.max_eq_right c]; exact .tail _ h3
        · rw [Int.max_eq_left (by lia)]; exact .head _
    | _ => cases e
theorem leaf_max1 (hh : A.handled = none) (I : Inv X frs Cl ι ah s.heap) (ha : VR ι x a) (hnf : max1V ah x ≠ .fail) : wpAny (model prog w) A (call (.builtin "max") [a]) (Post VR X frs Cl ι s (max1V ah x)) E s := by
  unfold max1V at hnf ⊢
  split at hnf
  · rename_i i vs e
    cases e' : maxL vs with
    | none => rw [e'] at hnf; exact absurd rfl hnf
    | some m =>
      dsimp only
      obtain ⟨p, cs, n, rfl, hp, e2, hv, hg, _, hz, rfl⟩ := gL_open I ha e
      obtain ⟨h1, h2, h3⟩ := maxL_ints e'
      obtain ⟨xs, ex, ev⟩ := ints_pairs hv h1
      have hl := isL hg
      rw [ex] at hl
      have hne : 0 < xs.toArray.size := by
        cases xs with
        | nil => rw [ev] at h3; cases h3
        | cons _ _ => simp
      refine PySem.max_intList hh hl hne fun v h' tk hx hk => post_grown I hk ?_
      obtain ⟨t, rfl⟩ := PySem.intItems_at hx
      have num : ∀ j (hj : j < xs.length), PySem.numAt xs.toArray j = xs[j].1 := fun j hj => by simp [PySem.numAt, hj]
      obtain ⟨b1, b2⟩ := PySem.argBest_gt (PySem.numAt xs.toArray) (xs.toArray.size - 1)
      generalize PySem.argBest (fun i j => decide (PySem.numAt xs.toArray i > PySem.numAt xs.toArray j)) (xs.toArray.size - 1) = k at b1 b2 hx ⊢
      have sz : xs.toArray.size = xs.length := List.size_toArray ..
      rw [sz] at hne b1 b2
      have kl : k < xs.length := by lia
      refine ⟨t, ?_⟩
      congr 1
      rw [num k kl] at b2 ⊢
      apply Int.le_antisymm
      · exact h2 _ (by rw [ev]; exact List.mem_map.mpr ⟨xs[k], List.getElem_mem kl, rfl⟩)
      · rw [ev] at h3
        obtain ⟨q, hq, eq⟩ := List.mem_map.mp h3
        obtain ⟨j, hj, rfl⟩ := List.getElem_of_mem hq
        have := b2 j (by lia)
        rw [num j hj] at this
        cases eq
        exact this
  · exact absurd rfl hnf
end
end Mine
end

section
open PySem PySem.W PyProof.Rows PySem.Calls Builtin Builtin.ObjectAttr
set_option maxRecDepth 100000
set_option linter.unusedVariables false
namespace Mine

structure ClsOk (X : St) : Prop where
  hasD : hasDictIn X.K X.C = true
  ga : findIn X.K (.ref X.C) "__getattribute__" = some (some (.builtin "object.__getattribute__"))
  fnd : ∀ f : Fld, findIn X.K (.ref X.C) (fstr f) = some none
  sa : findIn X.K (.ref X.C) "__setattr__" = some (some (.builtin "object.__setattr__"))
  po : plainOver X.K X.C = true

theorem fstr_inj (f g : Fld) : (fstr f == fstr g) = decide (f = g) := by cases f <;> cases g <;> decide +kernel

section
variable {prog : Program} {w : World} {X : St} {frs : List Env} {Cl : Addr} {A : Around} {ι : Iota} {ah : H} {s : Shared} {E : Value → Shared → Prop} {x y z : V} {a b c : Value}

theorem FRs.get {f : Fld} {v : V} {fs : List (Fld × V)} {es : List DictEntry} (h : FRs ι fs es) (hl : lk f fs = some v) : ∃ c, getL (fstr f) es = some (some c) ∧ VR ι v c := by
  induction fs generalizing es with
  | nil => cases hl
  | cons p r ih => cases es with
    | nil => exact h.elim
    | cons e es =>
      obtain ⟨g, u⟩ := p
      have hk' := h.1
      have hv := h.2.1
      have hr := h.2.2
      obtain ⟨t, hk⟩ := hk'
      dsimp only [lk] at hl
      have ks : e.key.isStr (fstr f) = decide (g = f) := by rw [hk]; exact fstr_inj g f
      by_cases c : g = f
      · rw [if_pos c] at hl; cases hl
        refine ⟨e.val, ?_, hv⟩
        unfold getL
        rw [List.find?_cons, ks, decide_eq_true c]
      · rw [if_neg c] at hl
        obtain ⟨d, hd, vd⟩ := ih hr hl
        refine ⟨d, ?_, vd⟩
        unfold getL at hd ⊢
        rw [List.find?_cons, ks, decide_eq_false c]
        split at hd
        · rename_i e' q; rw [q]; exact hd
        · rename_i q
          split at hd <;> cases hd
theorem FRs.put {f : Fld} {v : V} {c : Value} {hsh : Int} {t : Tok} (hv : VR ι v c) {fs : List (Fld × V)} {es : List DictEntry} (h : FRs ι fs es) : FRs ι (putF f v fs) (putL (fstr f) hsh (.str (fstr f) t) c es) := by
  induction fs generalizing es with
  | nil => cases es with
    | nil => exact ⟨⟨t, rfl⟩, hv, trivial⟩
    | cons => exact h.elim
  | cons p r ih => cases es with
    | nil => exact h.elim
    | cons e es =>
      obtain ⟨g, u⟩ := p
      have hk' := h.1
      have hu := h.2.1
      have hr := h.2.2
      obtain ⟨t', hk⟩ := hk'
      have ks : e.key.isStr (fstr f) = decide (g = f) := by rw [hk]; exact fstr_inj g f
      dsimp only [putF]; simp only [putL]
      by_cases z : g = f
      · rw [if_pos z, if_pos (by rw [ks]; simpa using z)]
        exact ⟨⟨t', hk⟩, hv, hr⟩
      · rw [if_neg z, if_neg (by rw [ks]; simpa using z)]
        exact ⟨⟨t', hk⟩, hu, ih hr⟩
theorem FRs.noRef {fs : List (Fld × V)} {es : List DictEntry} (h : FRs ι fs es) : es.any (·.refKey) = false := by
  induction fs generalizing es with
  | nil => cases es with
    | nil => rfl
    | cons => exact h.elim
  | cons p r ih => cases es with
    | nil => exact h.elim
    | cons e es =>
      have hr := h.2.2
      obtain ⟨t', hk⟩ := h.1
      rw [List.any_cons, ih hr, Bool.or_false]
      unfold DictEntry.refKey
      rw [hk]
theorem putF_length (f : Fld) (v : V) : ∀ fs : List (Fld × V), (putF f v fs).length ≤ fs.length + 1
  | [] => by dsimp only [putF]; simp
  | (g, u) :: r => by
    dsimp only [putF]
    split
    · simp
    · simp only [List.length_cons]; have := putF_length f v r; lia

theorem putL_length (name : Str) (hsh : Int) (k v : Value) : ∀ es : List DictEntry, (putL name hsh k v es).length ≤ es.length + 1
  | [] => by simp [putL]
  | e :: r => by
    simp only [putL]
    split
    · simp
    · simp only [List.length_cons]; have := putL_length name hsh k v r; lia

theorem handed_vr {v : V} {c : Value} (h : VR ι v c) : handedIn c = true := by
  cases v with
  | none => cases h; rfl
  | bool b => cases h; rfl
  | int i => obtain ⟨t, rfl⟩ := h; rfl
  | str => obtain ⟨t, rfl⟩ := h; rfl
  | ref n => obtain ⟨p, _, rfl⟩ := h; rfl

theorem node_open {i : Nat} {fs : List (Fld × V)} {p : Addr × Addr} (I : Inv X frs Cl ι ah s.heap) (e : ah[i]? = some (.node fs)) (hp : ι[i]? = some p) :
    fs.length ≤ 30 ∧ ∃ es n, FRs ι fs es ∧ InstAt s.heap p.1 (instObj X.C p.2) X.C (some (dictOf es n)) ∧ s.heap.get? p.2 = some (dictOf es n) ∧ s.heap.get? p.1 = some (instObj X.C p.2) := by
  obtain ⟨p', hp', z, es, n, hf, h1, h2⟩ := I.led.ofRef e
  rw [hp] at hp'; cases hp'
  exact ⟨z, es, n, hf, ⟨h1, rfl, rfl, h2⟩, h2, h1⟩

theorem leaf_attr {f : Fld} (O : StOk X) (Y : ClsOk X) (I : Inv X frs Cl ι ah s.heap) (ha : VR ι x a) (hnf : attrV ah f x ≠ .fail) {expr : Bool} :
    wpAny (model prog w) A (getAttr a (fstr f) expr) (Post VR X frs Cl ι s (attrV ah f x)) E s := by
  cases x with
  | ref i =>
    obtain ⟨p, hp, rfl⟩ := ha
    simp only [attrV] at hnf ⊢
    split at hnf
    · rename_i fs e
      cases q : lk f fs with
      | none => rw [q] at hnf; exact absurd rfl hnf
      | some v =>
        dsimp only
        obtain ⟨_, es, n, hf, Ia, _, _⟩ := node_open I e hp
        obtain ⟨c, hc, vc⟩ := hf.get q
        have KX : X.K.In s.heap := O.kin.keeps I.base
        exact get_value KX Ia Y.ga (findObj_own Y.hasD (Y.fnd f) rfl hc) (handed_vr vc) (post_now I vc)
    · exact absurd rfl hnf
  | _ => exact absurd rfl hnf

/-- a store into an instance's own dict, to the letter -/
theorem set_exact {x C dx : Addr} {ox : Obj} {es : List DictEntry} {n : Nat} {K : Frag} {name : Str} {v : Value} {Q : Unit → Shared → Prop} (KX : K.In s.heap) (I : InstAt s.heap x ox C (some (dictOf es n))) (hd : ox.dict = some dx) (D : s.heap.get? dx = some (dictOf es n))
    (hs : findIn K (.ref C) "__setattr__" = some (some (.builtin "object.__setattr__"))) (hp : plainOver K C = true) (hf : findIn K (.ref C) name = some none) (hh : hasDictIn K C = true) (hr : es.any (·.refKey) = false) (hz : es.length ≤ 900)
    (h : Q () { s with heap := s.heap.update dx (Obj.putName name (PyData.keyHash w.params name) (.str name (s.toks + 1)) v), toks := s.toks + 2 }) :
    wpAny (model prog w) A (setAttr (.ref x) name v) Q E s := by
  refine set_plain KX I hs (osa_open (r := none) KX I hp (by unfold takerIn; rw [hf]; rfl) fun b => ?_)
  obtain ⟨cd, hc, hcd⟩ := any_some hh
  obtain ⟨hx, hcl, _, _⟩ := I
  obtain ⟨sh, sg, sd, st, so⟩ := s
  obtain ⟨oc, odi, oda, osl⟩ := ox
  dsimp only at hcl hd
  subst hcl hd
  refine wpAny_bind (wpAny_pure (wpAny_bind (wpAny_bind (wpAny_loadPart hx (wpAny_bind ((looks_clsIn KX hc).at ?_))))))
  rw [hcd]
  refine wpAny_pure (a := some dx) (wpAny_bind (wpAny_pure (wpAny_bind ?_)))
  unfold nsSet
  refine wpAny_bind (wpAny_bind (wpAny_askSetting (wpAny_pure (wpAny_bind (wpAny_mkText (wpAny_bind (wpAny_loadPart D ?_)))))))
  dsimp only
  have c : (!es.toArray.any (·.key.isStr name) && es.toArray.any (·.refKey)) = false := by
    have : es.toArray.any (·.refKey) = false := by rw [List.any_toArray]; exact hr
    rw [this, Bool.and_false]
  rw [aRefKeyMayBeTheName_at, c]
  refine wpAny_updatePart D ?_
  have pd := putName_dict name (PyData.keyHash w.params name) (.str name (st + 1)) v es n
  have D' : (sh.update dx (Obj.putName name (PyData.keyHash w.params name) (.str name (st + 1)) v)).get? dx = some (Obj.putName name (PyData.keyHash w.params name) (.str name (st + 1)) v (dictOf es n)) :=
    Heap.get?_update_self _ D (by rw [pd]; rfl)
  have hl := putL_length name (PyData.keyHash w.params name) (.str name (st + 1)) v es
  refine wpAny_bind (wpAny_lookBehind D' (by rw [pd]; exact pastItsLine_dict (by rw [List.size_toArray, sizeLine_eq]; lia)) ?_)
  exact wpAny_pure h

theorem leaf_setAttr {f : Fld} {v : V} {c : Value} (O : StOk X) (Y : ClsOk X) (I : Inv X frs Cl ι ah s.heap) (ha : VR ι x a) (hv : VR ι v c) (hnf : setAttrV ah f v x ≠ .fail) :
    wpAny (model prog w) A (setAttr a (fstr f) c) (fun _ s' => Post VR X frs Cl ι s (setAttrV ah f v x) .none s') E s := by
  cases x with
  | ref i =>
    obtain ⟨p, hp, rfl⟩ := ha
    simp only [setAttrV] at hnf ⊢
    split at hnf
    · rename_i fs e
      split at hnf
      · rename_i hl
        rw [if_pos hl]
        obtain ⟨_, es, n, hf, Ia, D, D1⟩ := node_open I e hp
        have KX : X.K.In s.heap := O.kin.keeps I.base
        refine set_exact KX Ia rfl D Y.sa Y.po (Y.fnd f) Y.hasD hf.noRef (by rw [hf.length]; lia) ?_
        have pd := putName_dict (fstr f) (PyData.keyHash w.params (fstr f)) (.str (fstr f) (s.toks + 1)) c es n
        have ne : p.2 ≠ p.1 := fun z => by rw [z, D1] at D; cases D
        refine ⟨.none, _, ι, rfl, Step.set (D := p.2) I hp (.inr rfl) (fun b o nb q => (Heap.get?_update_other _ _ (Ne.symm nb)).trans q) ?_ (s.toks + 2), rfl⟩
        have D2 := Heap.get?_update_self (Obj.putName (fstr f) (PyData.keyHash w.params (fstr f)) (.str (fstr f) (s.toks + 1)) c) D (by rw [pd]; rfl)
        rw [pd] at D2
        exact ⟨Nat.le_trans (putF_length f v fs) (by lia), _, _, hf.put hv, (Heap.get?_update_other _ _ ne).trans D1, D2⟩
      · exact absurd rfl hnf
    · exact absurd rfl hnf
  | _ => exact absurd rfl hnf

theorem leaf_setIdx {v : V} {c : Value} (I : Inv X frs Cl ι ah s.heap) (ha : VR ι x a) (hb : VR ι y b) (hv : VR ι v c) (hnf : setIdxV ah x y v ≠ .fail) :
    wpAny (model prog w) A (setItem a b c) (fun _ s' => Post VR X frs Cl ι s (setIdxV ah x y v) .none s') E s := by
  cases e : gL ah x with
  | none => simp only [setIdxV, e] at hnf; exact absurd rfl hnf
  | some q =>
    obtain ⟨i, vs⟩ := q
    cases y with
    | int k =>
      simp only [setIdxV, e] at hnf ⊢
      split at hnf
      · rename_i hk
        rw [if_pos hk]
        obtain ⟨p, cs, n, rfl, hp, e2, hw, hg, _, hz, rfl⟩ := gL_open I ha e
        obtain ⟨t, rfl⟩ := hb
        refine ki_setAt hg hk.1 (by unfold ML at hz; lia) (by rw [List.size_toArray, hw.length]; exact hk.2) ?_
        exact post_write (ds := cs.set k.toNat c) (x := .none) (a := .none) I hp e2 hg (by apply Array.toList_inj.mp; simp) (hw.set _ hv) (by simpa using hz) rfl s.toks
      · exact absurd rfl hnf
    | _ => simp only [setIdxV, e] at hnf; exact absurd rfl hnf
end
end Mine
end

section
open PySem PySem.W PyProof.Rows PySem.Calls
set_option maxRecDepth 100000
set_option linter.unusedVariables false
namespace Mine

structure GlobOk (X : St) : Prop where
  len : X.mg "len" = none ∧ X.mb "len" = some (.builtin "len")
  max : X.mg "max" = none ∧ X.mb "max" = some (.builtin "max")
  divmod : X.mg "divmod" = none ∧ X.mb "divmod" = some (.builtin "divmod")
  list : X.mg "list" = none ∧ X.mb "list" = some (.type "list")
  range : X.mg "range" = none ∧ X.mb "range" = some (.type "range")
  node : X.mg "GameNode" = some (.ref X.C)
  nomove : ∃ t, X.mg "NO_MOVE" = some (.int 0 t)
  fn : ∀ i, 1 ≤ i → i < 29 → X.mg (fnS i) = some (.ref (X.fa i))
  bad : X.mg "BadMove" = some (.ref X.BM)

/-- the expression is no starred one -/
noncomputable def Plain1 (pe : PySem.Expr) (env : Env) : Prop := ∀ rest, starEach (pe :: rest) env = (false, eval pe env) :: starEach rest env

section
variable {prog : Program} {w : World} {X : St} {frs : List Env} {Cl : Addr} {ns : List Str} {l : Loc} {A : Around} {env : Env} {sc : Scope}

/-- two values, one after the other, then a leaf -/
theorem SimAt.then2 {γ : Type} {ta tb : Sem Value} {ra rb : H → R V} {f : V → V → H → R V} {g : Value → Value → Sem γ} {Rc : Iota → V → γ → Prop} {ι : Iota} {ah : H} {s : Shared}
    (ha : SimAt prog w X frs Cl ns l A VR ta ra) (hb : SimAt prog w X frs Cl ns l A VR tb rb) (pt : Pt X frs Cl ns l ι ah s)
    (hnf : ((ra ah).bind fun x h => (rb h).bind fun y h => f x y h) ≠ .fail)
    (k : ∀ x y ah₂ ι₂ c d s₂, Pt X frs Cl ns l ι₂ ah₂ s₂ → VR ι₂ x c → VR ι₂ y d → f x y ah₂ ≠ .fail → wpAny (model prog w) A (g c d) (Post Rc X frs Cl ι₂ s₂ (f x y ah₂)) (PExc X frs Cl ι₂ s₂ (f x y ah₂)) s₂) :
    wpAny (model prog w) A ta (fun c s₁ => wpAny (model prog w) A tb (fun d s₂ => wpAny (model prog w) A (g c d) (Post Rc X frs Cl ι s ((ra ah).bind fun x h => (rb h).bind fun y h => f x y h)) (PExc X frs Cl ι s ((ra ah).bind fun x h => (rb h).bind fun y h => f x y h)) s₂)
      (PExc X frs Cl ι s ((ra ah).bind fun x h => (rb h).bind fun y h => f x y h)) s₁) (PExc X frs Cl ι s ((ra ah).bind fun x h => (rb h).bind fun y h => f x y h)) s :=
  ha.use pt hnf fun x ah₁ ι₁ c s₁ e st pt₁ rx hn => by
    rw [e]
    show wpAny _ _ tb (fun d s₂ => wpAny _ _ (g c d) (Post Rc X frs Cl ι s ((rb ah₁).bind fun y h => f x y h)) (PExc X frs Cl ι s ((rb ah₁).bind fun y h => f x y h)) s₂) (PExc X frs Cl ι s ((rb ah₁).bind fun y h => f x y h)) s₁
    refine wpAny_mono (hb.use pt₁ hn (P := fun d s₂ => wpAny _ _ (g c d) (Post Rc X frs Cl ι₁ s₁ ((rb ah₁).bind fun y h => f x y h)) (PExc X frs Cl ι₁ s₁ ((rb ah₁).bind fun y h => f x y h)) s₂) fun y ah₂ ι₂ d s₂ e' st' pt₂ ry hn' => ?_)
      (fun d s₂ q => wpAny_mono q (fun _ _ q => Post.trans st q) fun _ _ q => PExc.trans st q) fun _ _ q => PExc.trans st q
    have := wp_lift st' (k x y ah₂ ι₂ c d s₂ pt₂ (st'.vr rx) ry hn')
    rw [e']; exact this

theorem Step.at {ι ι₁ : Iota} {ah₁ : H} {s s₁ : Shared} (a : Step X frs Cl ι s ι₁ ah₁ s₁) {i : Nat} {p : Addr × Addr} (h : ι[i]? = some p) : ι₁[i]? = some p := by
  obtain ⟨t, rfl, _⟩ := a.ext
  rw [List.getElem?_append_left (List.getElem?_eq_some_iff.mp h).1]; exact h
theorem SimAt.then2' {γ : Type} {ta tb : Sem Value} {ra rb : H → R V} {f : V → V → H → R V} {g : Value → Value → Sem γ} {Rc : Iota → V → γ → Prop} {ι : Iota} {ah : H} {s : Shared}
    (ha : SimAt prog w X frs Cl ns l A VR ta ra) (hb : SimAt prog w X frs Cl ns l A VR tb rb) (pt : Pt X frs Cl ns l ι ah s)
    (hnf : ((ra ah).bind fun x h => (rb h).bind fun y h => f x y h) ≠ .fail)
    (k : ∀ x y ah₂ (ι₂ : Iota) c d s₂, (∀ (i : Nat) (p : Addr × Addr), ι[i]? = some p → ι₂[i]? = some p) → Pt X frs Cl ns l ι₂ ah₂ s₂ → VR ι₂ x c → VR ι₂ y d → f x y ah₂ ≠ .fail → wpAny (model prog w) A (g c d) (Post Rc X frs Cl ι₂ s₂ (f x y ah₂)) (PExc X frs Cl ι₂ s₂ (f x y ah₂)) s₂) :
    wpAny (model prog w) A ta (fun c s₁ => wpAny (model prog w) A tb (fun d s₂ => wpAny (model prog w) A (g c d) (Post Rc X frs Cl ι s ((ra ah).bind fun x h => (rb h).bind fun y h => f x y h)) (PExc X frs Cl ι s ((ra ah).bind fun x h => (rb h).bind fun y h => f x y h)) s₂)
      (PExc X frs Cl ι s ((ra ah).bind fun x h => (rb h).bind fun y h => f x y h)) s₁) (PExc X frs Cl ι s ((ra ah).bind fun x h => (rb h).bind fun y h => f x y h)) s :=
  ha.use pt hnf fun x ah₁ ι₁ c s₁ e st pt₁ rx hn => by
    rw [e]
    show wpAny _ _ tb (fun d s₂ => wpAny _ _ (g c d) (Post Rc X frs Cl ι s ((rb ah₁).bind fun y h => f x y h)) (PExc X frs Cl ι s ((rb ah₁).bind fun y h => f x y h)) s₂) (PExc X frs Cl ι s ((rb ah₁).bind fun y h => f x y h)) s₁
    refine wpAny_mono (hb.use pt₁ hn (P := fun d s₂ => wpAny _ _ (g c d) (Post Rc X frs Cl ι₁ s₁ ((rb ah₁).bind fun y h => f x y h)) (PExc X frs Cl ι₁ s₁ ((rb ah₁).bind fun y h => f x y h)) s₂) fun y ah₂ ι₂ d s₂ e' st' pt₂ ry hn' => ?_)
      (fun d s₂ q => wpAny_mono q (fun _ _ q => Post.trans st q) fun _ _ q => PExc.trans st q) fun _ _ q => PExc.trans st q
    have := wp_lift st' (k x y ah₂ ι₂ c d s₂ (fun i p hp => st'.at (st.at hp)) pt₂ (st'.vr rx) ry hn')
    rw [e']; exact this

theorem sim_bin {pa pb : PySem.Expr} {ra rb : H → R V} {op : Bop} {p : Pos} (ha : SimAt prog w X frs Cl ns l A VR (eval pa env) ra) (hb : SimAt prog w X frs Cl ns l A VR (eval pb env) rb) :
    SimAt prog w X frs Cl ns l A VR (eval (.BinOp pa (bopO op) pb p) env) (fun h => (ra h).bind fun x h => (rb h).bind fun y h => binV op h x y) := fun ι ah s pt hnf =>
  wpAny_BinOp (ha.then2 hb pt hnf fun x y ah₂ ι₂ c d s₂ pt₂ rx ry hn => leaf_bin pt₂.inv rx ry hn)

theorem sim_cmp {pa pb : PySem.Expr} {ra rb : H → R V} {op : Cop} {p : Pos} (hm : behindInMarks (copO op) pb = false) (hu : A.units + 20 < cLine) (ha : SimAt prog w X frs Cl ns l A VR (eval pa env) ra) (hb : SimAt prog w X frs Cl ns l A VR (eval pb env) rb) :
    SimAt prog w X frs Cl ns l A VR (eval (.Compare pa [copO op] [pb] p) env) (fun h => (ra h).bind fun x h => (rb h).bind fun y h => cmpV op h x y) := fun ι ah s pt hnf =>
  wpAny_Compare1 (ha.then2 hb pt hnf fun x y ah₂ ι₂ c d s₂ pt₂ rx ry hn => leaf_cmp hu pt₂.inv rx ry hn) hm

theorem sim_idx {pa pi : PySem.Expr} {ra ri : H → R V} {p : Pos} (hs : NoSl pi) (ha : SimAt prog w X frs Cl ns l A VR (eval pa env) ra) (hi : SimAt prog w X frs Cl ns l A VR (eval pi env) ri) :
    SimAt prog w X frs Cl ns l A VR (eval (.Subscript pa pi p) env) (fun h => (ra h).bind fun x h => (ri h).bind fun y h => idxV h x y) := fun ι ah s pt hnf =>
  PyProof.Rows.Subscript_ (ha.then2 (g := fun c d => subscriptTail pa pi c d) hi pt hnf fun x y ah₂ ι₂ c d s₂ pt₂ rx ry hn => leaf_idx hs pt₂.inv rx ry hn)

theorem sim_attr {pa : PySem.Expr} {ra : H → R V} {f : Fld} {p : Pos} (O : StOk X) (Y : ClsOk X) (hbase : attributeBase pa (fstr f) env (eval pa env) = eval pa env) (ha : SimAt prog w X frs Cl ns l A VR (eval pa env) ra) :
    SimAt prog w X frs Cl ns l A VR (eval (.Attribute pa (fstr f) p) env) (fun h => (ra h).bind fun x h => attrV h f x) := fun ι ah s pt hnf => by
  refine PyProof.Rows.Attribute_any_ (ha.then pt hnf fun x ah₁ ι₁ c s₁ st pt₁ rx hn => leaf_attr O Y pt₁.inv rx hn) ?_
  rw [arm_eval_Attribute, hbase]

theorem bt1 {pa : PySem.Expr} (h : Plain1 pa env) (pos : Pos) : backTo pos (starEach [pa] env) = [(false, eval pa env)] := by rw [h]; rfl
theorem bt2 {pa pb : PySem.Expr} (h : Plain1 pa env) (h' : Plain1 pb env) (pos : Pos) : backTo pos (starEach [pa, pb] env) = [(false, eval pa env), (false, eval pb env)] := by rw [h, h']; rfl

theorem name_glob {g : Str} {v : Value} {p : Pos} {Q : Value → Shared → Prop} {E : Value → Shared → Prop} {s : Shared} (O : StOk X) (eo : EnvOk sc ns env Cl) (hb : X.base.StaysIn s.heap) (hk : env.kindOf g = some .globalImplicit) (hv : X.mg g = some v) (hd : (g == ("__debug__" : Str)) = false) (h : Q v s) :
    wpAny (model prog w) A (eval (.Name g p) env) Q E s :=
  Name_function_global eo.kind hk (loadGlobal_global (by rw [eo.glob]; exact O.g.keeps hb) hv h) hd
theorem name_bi {g : Str} {v : Value} {p : Pos} {Q : Value → Shared → Prop} {E : Value → Shared → Prop} {s : Shared} (O : StOk X) (eo : EnvOk sc ns env Cl) (hb : X.base.StaysIn s.heap) (hk : env.kindOf g = some .globalImplicit) (hv : X.mg g = none ∧ X.mb g = some v) (hd : (g == ("__debug__" : Str)) = false) (h : Q v s) :
    wpAny (model prog w) A (eval (.Name g p) env) Q E s :=
  Name_function_global eo.kind hk (loadGlobal_builtin (by rw [eo.glob]; exact O.g.keeps hb) hv.1 (by rw [eo.bi]; exact O.b.keeps hb) hv.2 h) hd

theorem sim_gint {p : Pos} (O : StOk X) (G : GlobOk X) (eo : EnvOk sc ns env Cl) (hk : env.kindOf "NO_MOVE" = some .globalImplicit) : SimAt prog w X frs Cl ns l A VR (eval (.Name "NO_MOVE" p) env) (fun h => .ok (V.int 0) h) := fun ι ah s pt _ => by
  obtain ⟨t, ht⟩ := G.nomove
  exact name_glob O eo pt.inv.base hk ht (by decide +kernel) (sim_here pt ⟨t, rfl⟩)

/-- a built-in of one argument -/
theorem sim_bi1 {g id : String} {pa : PySem.Expr} {ra : H → R V} {f : H → V → R V} {p p0 : Pos} (O : StOk X) (eo : EnvOk sc ns env Cl) (hv : X.mg g = none ∧ X.mb g = some (.builtin id)) (hk : env.kindOf g = some .globalImplicit) (hd : ((g : Str) == ("__debug__" : Str)) = false)
    (h1 : Plain1 pa env) (ha : SimAt prog w X frs Cl ns l A VR (eval pa env) ra)
    (leaf : ∀ x ah ι c s, Inv X frs Cl ι ah s.heap → VR ι x c → f ah x ≠ .fail → wpAny (model prog w) A (call (.builtin id) [c]) (Post VR X frs Cl ι s (f ah x)) (PExc X frs Cl ι s (f ah x)) s) :
    SimAt prog w X frs Cl ns l A VR (eval (.Call (.Name g p0) [pa] [] p) env) (fun h => (ra h).bind fun x h => f h x) := fun ι ah s pt hnf =>
  PyProof.Rows.Call_Name (bt1 h1 p) (name_bi O eo pt.inv.base hk hv hd
    (PySem.callWith_builtin1 (ha.then pt hnf fun x ah₁ ι₁ c s₁ _ pt₁ rx hn => leaf x ah₁ ι₁ c s₁ pt₁.inv rx hn)))
theorem sim_bi2 {g id : String} {pa pb : PySem.Expr} {ra rb : H → R V} {f : H → V → V → R V} {p p0 : Pos} (O : StOk X) (eo : EnvOk sc ns env Cl) (hv : X.mg g = none ∧ X.mb g = some (.builtin id)) (hk : env.kindOf g = some .globalImplicit) (hd : ((g : Str) == ("__debug__" : Str)) = false)
    (h1 : Plain1 pa env) (h2 : Plain1 pb env) (ha : SimAt prog w X frs Cl ns l A VR (eval pa env) ra) (hb : SimAt prog w X frs Cl ns l A VR (eval pb env) rb)
    (leaf : ∀ x y ah ι c d s, Inv X frs Cl ι ah s.heap → VR ι x c → VR ι y d → f ah x y ≠ .fail → wpAny (model prog w) A (call (.builtin id) [c, d]) (Post VR X frs Cl ι s (f ah x y)) (PExc X frs Cl ι s (f ah x y)) s) :
    SimAt prog w X frs Cl ns l A VR (eval (.Call (.Name g p0) [pa, pb] [] p) env) (fun h => (ra h).bind fun x h => (rb h).bind fun y h => f h x y) := fun ι ah s pt hnf =>
  PyProof.Rows.Call_Name (bt2 h1 h2 p) (name_bi O eo pt.inv.base hk hv hd
    (Calls.callWith_builtin rfl (Calls.evalArgs_plain (Calls.spliced_cons (wpAny_mono (ha.then2 (g := fun c d => call (.builtin id) [c, d]) hb pt hnf fun x y ah₂ ι₂ c d s₂ pt₂ rx ry hn => leaf x y ah₂ ι₂ c d s₂ pt₂.inv rx ry hn)
      (fun c s₁ h₁ => Calls.spliced_cons (wpAny_mono h₁ (fun d s₂ h₂ => Calls.spliced_nil h₂) fun _ _ e => e)) fun _ _ e => e)))))

theorem sim_list {pa : PySem.Expr} {ra : H → R V} {p p0 : Pos} (O : StOk X) (eo : EnvOk sc ns env Cl) (hv : X.mg "list" = none ∧ X.mb "list" = some (.type "list")) (hk : env.kindOf "list" = some .globalImplicit)
    (h1 : Plain1 pa env) (ha : SimAt prog w X frs Cl ns l A VR (eval pa env) ra) :
    SimAt prog w X frs Cl ns l A VR (eval (.Call (.Name "list" p0) [pa] [] p) env) (fun h => (ra h).bind fun x h => listV h x) := fun ι ah s pt hnf =>
  PyProof.Rows.Call_Name (bt1 h1 p) (name_bi O eo pt.inv.base hk hv (by decide +kernel)
    (PySem.callWith_type1 (ha.then pt hnf fun x ah₁ ι₁ c s₁ _ pt₁ rx hn => leaf_list pt₁.inv rx hn)))

/-- a list of ours at its place -/
theorem lst_open {i : Nat} {p : Addr × Addr} {ι : Iota} {ah : H} {h : Heap} {r : Nat × List V} (I : Inv X frs Cl ι ah h) (hp : ι[i]? = some p) (e : gL ah (.ref i) = some r) :
    r.1 = i ∧ p.2 = p.1 ∧ r.2.length ≤ ML ∧ ∃ cs n, VRs ι r.2 cs ∧ h.get? p.1 = some (listOf cs.toArray n) := by
  simp only [gL] at e
  split at e
  · rename_i vs q
    cases e
    obtain ⟨p', hp', e2, z, cs, n, hv, hg⟩ := I.led.ofRef q
    rw [hp] at hp'; cases hp'
    exact ⟨rfl, e2, z, cs, n, hv, hg⟩
  · cases e

/-- a method of a list: up to its arguments -/
theorem meth_open {name : Str} {id : String} {pa : PySem.Expr} {args : List PySem.Expr} {ra : H → R V} {g : V → H → R V} {p apos : Pos} {ι : Iota} {ah : H} {s : Shared}
    (slot : Slot "list" name id) (hty : typeOf (.builtin id) = pure (.type "method_descriptor")) (hbase : attributeBase pa name env (eval pa env) = eval pa env) (hline : (apos.endLine == p.line) = true)
    (hfew : ((backTo p (starEach args env)).all (fun x => !x.1) && (backToKw p (keywordEach [] env)).all (fun x => x.1.isSome) && decide (args.length + ([] : List Keyword).length + (if ([] : List Keyword).isEmpty then 0 else 1) < 30)) = true)
    (ha : SimAt prog w X frs Cl ns l A VR (eval pa env) ra) (pt : Pt X frs Cl ns l ι ah s) (hnf : ((ra ah).bind fun x h => if isLst h x then g x h else .fail) ≠ .fail)
    (k : ∀ i ah₁ ι₁ (q : Addr × Addr) s₁, Pt X frs Cl ns l ι₁ ah₁ s₁ → ι₁[i]? = some q → g (.ref i) ah₁ ≠ .fail →
      wpAny (model prog w) A (callWith p (.builtin id) [.ref q.1] (backTo p (starEach args env)) []) (Post VR X frs Cl ι₁ s₁ (g (.ref i) ah₁)) (PExc X frs Cl ι₁ s₁ (g (.ref i) ah₁)) s₁) :
    wpAny (model prog w) A (eval (.Call (.Attribute pa name apos) args [] p) env) (Post VR X frs Cl ι s ((ra ah).bind fun x h => if isLst h x then g x h else .fail)) (PExc X frs Cl ι s ((ra ah).bind fun x h => if isLst h x then g x h else .fail)) s := by
  refine wpAny_Call_method hbase hfew hline PySem.F.plainAttrs_list slot hty (ha.use pt hnf fun x ah₁ ι₁ c s₁ e st pt₁ rx hn => ?_)
  rw [e]
  show _ ∧ _ ∧ wpAny _ _ _ (Post VR X frs Cl ι s (if isLst ah₁ x then g x ah₁ else .fail)) (PExc X frs Cl ι s (if isLst ah₁ x then g x ah₁ else .fail)) s₁
  cases q : isLst ah₁ x with
  | false => rw [q] at hn; exact absurd rfl hn
  | true =>
    rw [q] at hn
    simp only [if_true] at hn ⊢
    obtain ⟨⟨i, vs⟩, e'⟩ := Option.isSome_iff_exists.mp q
    obtain ⟨pp, cs, n, rfl, hp, e2, hv, hg, _, hz, rfl⟩ := gL_open pt₁.inv rx e'
    exact ⟨(isL hg).typeIs, fun a ea => by cases ea; exact ⟨_, hg, rfl⟩, wp_lift st (k i ah₁ ι₁ pp s₁ pt₁ hp hn)⟩

theorem few0 (p : Pos) : ((backTo p (starEach [] env)).all (fun x => !x.1) && (backToKw p (keywordEach [] env)).all (fun x => x.1.isSome) && decide (([] : List PySem.Expr).length + ([] : List Keyword).length + (if ([] : List Keyword).isEmpty then 0 else 1) < 30)) = true := rfl
theorem few1 {pb : PySem.Expr} (h1 : Plain1 pb env) (p : Pos) : ((backTo p (starEach [pb] env)).all (fun x => !x.1) && (backToKw p (keywordEach [] env)).all (fun x => x.1.isSome) && decide ([pb].length + ([] : List Keyword).length + (if ([] : List Keyword).isEmpty then 0 else 1) < 30)) = true := by
  rw [bt1 h1]; rfl
theorem few2 {pb pc : PySem.Expr} (h1 : Plain1 pb env) (h2 : Plain1 pc env) (p : Pos) : ((backTo p (starEach [pb, pc] env)).all (fun x => !x.1) && (backToKw p (keywordEach [] env)).all (fun x => x.1.isSome) && decide ([pb, pc].length + ([] : List Keyword).length + (if ([] : List Keyword).isEmpty then 0 else 1) < 30)) = true := by
  rw [bt2 h1 h2]; rfl

theorem sim_append {pa pb : PySem.Expr} {ra rb : H → R V} {p apos : Pos} (hbase : attributeBase pa "append" env (eval pa env) = eval pa env) (hline : (apos.endLine == p.line) = true) (h1 : Plain1 pb env)
    (ha : SimAt prog w X frs Cl ns l A VR (eval pa env) ra) (hb : SimAt prog w X frs Cl ns l A VR (eval pb env) rb) :
    SimAt prog w X frs Cl ns l A VR (eval (.Call (.Attribute pa "append" apos) [pb] [] p) env) (fun h => (ra h).bind fun x h => if isLst h x then (rb h).bind fun y h => appendV h x y else .fail) := fun ι ah s pt hnf => by
  refine meth_open PySem.F.slot_list_append PySem.F.type_list_append hbase hline (few1 h1 p) ha pt hnf fun i ah₁ ι₁ q s₁ pt₁ hq hn => ?_
  rw [bt1 h1]
  refine PySem.P.append_list (hb.use pt₁ hn fun y ah₂ ι₂ d s₂ e st pt₂ ry hn' => ?_)
  cases eg : gL ah₂ (.ref i) with
  | none => simp only [appendV, eg] at hn'; exact absurd rfl hn'
  | some r =>
    obtain ⟨j, vs⟩ := r
    obtain ⟨ej, e2, hz, cs, n, hv, hg⟩ := lst_open pt₂.inv (st.at hq) eg
    simp only at ej hz hv
    subst ej
    simp only [appendV, eg] at hn'
    split at hn'
    · rename_i hl
      refine ⟨cs.toArray, n, by rw [List.size_toArray, hv.length, ← ML_line]; exact hz, hg, Post.trans st ?_⟩
      rw [e]
      show Post VR X frs Cl ι₂ s₂ (appendV ah₂ (.ref j) y) .none _
      simp only [appendV, eg]
      rw [if_pos hl]
      exact post_write (ds := cs ++ [d]) (x := .none) (a := .none) pt₂.inv (st.at hq) e2 hg (by simp) (hv.append (VRs.one ry)) (by simp; lia) rfl s₂.toks
    · exact absurd rfl hn'

theorem sim_extend {pa pb : PySem.Expr} {ra rb : H → R V} {p apos : Pos} (hbase : attributeBase pa "extend" env (eval pa env) = eval pa env) (hline : (apos.endLine == p.line) = true) (h1 : Plain1 pb env)
    (ha : SimAt prog w X frs Cl ns l A VR (eval pa env) ra) (hb : SimAt prog w X frs Cl ns l A VR (eval pb env) rb) :
    SimAt prog w X frs Cl ns l A VR (eval (.Call (.Attribute pa "extend" apos) [pb] [] p) env) (fun h => (ra h).bind fun x h => if isLst h x then (rb h).bind fun y h => extendV h x y else .fail) := fun ι ah s pt hnf => by
  refine meth_open PySem.F.slot_list_extend PySem.F.type_list_extend hbase hline (few1 h1 p) ha pt hnf fun i ah₁ ι₁ q s₁ pt₁ hq hn => ?_
  rw [bt1 h1]
  refine PySem.P.extend_list (hb.use pt₁ hn fun y ah₂ ι₂ d s₂ e st pt₂ ry hn' => ?_)
  cases eg : gL ah₂ (.ref i) with
  | none => simp only [extendV, eg] at hn'; exact absurd rfl hn'
  | some r =>
    cases eg' : gL ah₂ y with
    | none => simp only [extendV, eg, eg'] at hn'; exact absurd rfl hn'
    | some r' =>
      obtain ⟨j, vs⟩ := r
      obtain ⟨j', vs'⟩ := r'
      obtain ⟨ej, e2, hz, cs, n, hv, hg⟩ := lst_open pt₂.inv (st.at hq) eg
      obtain ⟨p', cs', n', rfl, hp', e2', hv', hg', _, hz', rfl⟩ := gL_open pt₂.inv ry eg'
      simp only at ej hz hv
      subst ej
      simp only [extendV, eg, eg'] at hn'
      split at hn'
      · rename_i hl
        have hl' : cs.toArray.size + cs'.toArray.size ≤ sizeLine := by simp only [List.size_toArray, hv.length, hv'.length]; rw [← ML_line]; exact hl
        refine ⟨p'.1, cs.toArray, cs'.toArray, n, n', by lia, by lia, PyProof.Rows.extend_door hl', rfl, hg, hg', Post.trans st ?_⟩
        rw [e]
        show Post VR X frs Cl ι₂ s₂ (extendV ah₂ (.ref j) (.ref j')) .none _
        simp only [extendV, eg, eg']
        rw [if_pos hl]
        exact post_write (ds := cs ++ cs') (x := .none) (a := .none) pt₂.inv (st.at hq) e2 hg (by simp) (hv.append hv') (by simp; lia) rfl s₂.toks
      · exact absurd rfl hn'

theorem sim_pop {pa : PySem.Expr} {ra : H → R V} {p apos : Pos} (hbase : attributeBase pa "pop" env (eval pa env) = eval pa env) (hline : (apos.endLine == p.line) = true)
    (ha : SimAt prog w X frs Cl ns l A VR (eval pa env) ra) :
    SimAt prog w X frs Cl ns l A VR (eval (.Call (.Attribute pa "pop" apos) [] [] p) env) (fun h => (ra h).bind fun x h => if isLst h x then popV h x else .fail) := fun ι ah s pt hnf => by
  refine meth_open (g := fun x h => popV h x) PySem.F.slot_list_pop PySem.F.type_list_pop hbase hline (few0 p) ha pt hnf fun i ah₁ ι₁ q s₁ pt₁ hq hn => ?_
  cases eg : gL ah₁ (.ref i) with
  | none => simp only [popV, eg] at hn; exact absurd rfl hn
  | some r =>
    obtain ⟨j, vs⟩ := r
    obtain ⟨ej, e2, hz, cs, n, hv, hg⟩ := lst_open pt₁.inv hq eg
    simp only at ej hz hv
    subst ej
    simp only [popV, eg] at hn ⊢
    cases el : vs.getLast? with
    | none => rw [el] at hn; exact absurd rfl hn
    | some v =>
      dsimp only
      have q' : vs[vs.length - 1]? = some v := by rw [← List.getLast?_eq_getElem?]; exact el
      obtain ⟨d, hd, vd⟩ := hv.get _ _ q'
      have hsz : cs.toArray.size ≤ sizeLine := by rw [List.size_toArray, hv.length, ← ML_line]; exact hz
      refine PySem.P.pop_list (hsz := hsz) (y := d) hg (by rw [List.size_toArray, hv.length]; simpa using hd) ?_
      refine post_write (ds := cs.dropLast) pt₁.inv hq e2 hg ?_ hv.dropLast (by simp; lia) vd s₁.toks
      apply Array.toList_inj.mp
      have : cs.length - 1 < cs.length := by
        have := (List.getElem?_eq_some_iff.mp hd).1; lia
      rw [Array.eraseIdxIfInBounds_eq]
      simp [this]

theorem sim_popAt {pa pb : PySem.Expr} {ra rb : H → R V} {p apos : Pos} (hbase : attributeBase pa "pop" env (eval pa env) = eval pa env) (hline : (apos.endLine == p.line) = true) (h1 : Plain1 pb env)
    (ha : SimAt prog w X frs Cl ns l A VR (eval pa env) ra) (hb : SimAt prog w X frs Cl ns l A VR (eval pb env) rb) :
    SimAt prog w X frs Cl ns l A VR (eval (.Call (.Attribute pa "pop" apos) [pb] [] p) env) (fun h => (ra h).bind fun x h => if isLst h x then (rb h).bind fun y h => popAtV h x y else .fail) := fun ι ah s pt hnf => by
  refine meth_open PySem.F.slot_list_pop PySem.F.type_list_pop hbase hline (few1 h1 p) ha pt hnf fun i ah₁ ι₁ q s₁ pt₁ hq hn => ?_
  rw [bt1 h1]
  refine PySem.P.pop_at_list (hb.use pt₁ hn fun y ah₂ ι₂ d s₂ e st pt₂ ry hn' => ?_)
  cases eg : gL ah₂ (.ref i) with
  | none => simp only [popAtV, eg] at hn'; exact absurd rfl hn'
  | some r =>
    obtain ⟨j, vs⟩ := r
    obtain ⟨ej, e2, hz, cs, n, hv, hg⟩ := lst_open pt₂.inv (st.at hq) eg
    simp only at ej hz hv
    subst ej
    cases y with
    | int k =>
      obtain ⟨t, rfl⟩ := ry
      simp only [popAtV, eg] at hn'
      split at hn'
      · rename_i h0
        cases el : vs[k.toNat]? with
        | none => rw [el] at hn'; exact absurd rfl hn'
        | some v =>
          have hlt : k.toNat < vs.length := (List.getElem?_eq_some_iff.mp el).1
          obtain ⟨d, hd, vd⟩ := hv.get _ _ el
          have hk63 : k < 2 ^ 63 := by unfold ML at hz; lia
          refine ⟨cs.toArray, n, k, t, k.toNat, d, by rw [List.size_toArray, hv.length, ← ML_line]; exact hz, rfl, hg, PySem.fitsIndex_of h0 hk63, PySem.seqIndex_of h0 (by rw [List.size_toArray, hv.length]; lia), by simpa using hd, Post.trans st ?_⟩
          rw [e]
          show Post VR X frs Cl ι₂ s₂ (popAtV ah₂ (.ref j) (.int k)) d _
          simp only [popAtV, eg, h0, if_true, el]
          refine post_write (ds := cs.eraseIdx k.toNat) pt₂.inv (st.at hq) e2 hg ?_ (hv.eraseIdx _) ?_ vd s₂.toks
          · apply Array.toList_inj.mp
            have : k.toNat < cs.length := by rw [hv.length]; exact hlt
            rw [Array.eraseIdxIfInBounds_eq]
            simp [this]
          · have := List.length_eraseIdx_le vs k.toNat; lia
      · exact absurd rfl hn'
    | _ => simp only [popAtV, eg] at hn'; exact absurd rfl hn'

theorem sim_count {pa pb : PySem.Expr} {ra rb : H → R V} {p apos : Pos} (hbase : attributeBase pa "count" env (eval pa env) = eval pa env) (hline : (apos.endLine == p.line) = true) (h1 : Plain1 pb env)
    (ha : SimAt prog w X frs Cl ns l A VR (eval pa env) ra) (hb : SimAt prog w X frs Cl ns l A VR (eval pb env) rb) :
    SimAt prog w X frs Cl ns l A VR (eval (.Call (.Attribute pa "count" apos) [pb] [] p) env) (fun h => (ra h).bind fun x h => if isLst h x then (rb h).bind fun y h => countV h x y else .fail) := fun ι ah s pt hnf => by
  refine meth_open PySem.F.slot_list_count PySem.F.type_list_count hbase hline (few1 h1 p) ha pt hnf fun i ah₁ ι₁ q s₁ pt₁ hq hn => ?_
  rw [bt1 h1]
  refine PySem.P.count_list (hb.use pt₁ hn fun y ah₂ ι₂ d s₂ e st pt₂ ry hn' => ?_)
  cases eg : gL ah₂ (.ref i) with
  | none => simp only [countV, eg] at hn'; exact absurd rfl hn'
  | some r =>
    obtain ⟨j, vs⟩ := r
    obtain ⟨ej, e2, hz, cs, n, hv, hg⟩ := lst_open pt₂.inv (st.at hq) eg
    simp only at ej hz hv
    subst ej
    cases y with
    | int k =>
      obtain ⟨t, rfl⟩ := ry
      simp only [countV, eg] at hn'
      split at hn'
      · rename_i hi
        refine ⟨cs.toArray, n, isI k, hg, gives_of hv hi k t, Post.trans st ?_⟩
        rw [e]
        show Post VR X frs Cl ι₂ s₂ (countV ah₂ (.ref j) (.int k)) _ _
        simp only [countV, eg]
        rw [if_pos hi, count_of hv hi k]
        exact post_now pt₂.inv ⟨_, rfl⟩
      · exact absurd rfl hn'
    | _ => simp only [countV, eg] at hn'; exact absurd rfl hn'

theorem leaf_insert {i : Nat} {q : Addr × Addr} {ι : Iota} {ah : H} {s : Shared} {y z : V} {b c : Value} {E : Value → Shared → Prop} (I : Inv X frs Cl ι ah s.heap) (hq : ι[i]? = some q) (hb : VR ι y b) (hc : VR ι z c) (hnf : insertV ah (.ref i) y z ≠ .fail) :
    wpAny (model prog w) A (call (.builtin "list.insert") [.ref q.1, b, c]) (Post VR X frs Cl ι s (insertV ah (.ref i) y z)) E s := by
  cases eg : gL ah (.ref i) with
  | none => simp only [insertV, eg] at hnf; exact absurd rfl hnf
  | some r =>
    obtain ⟨j, vs⟩ := r
    obtain ⟨ej, e2, hz, cs, n, hv, hg⟩ := lst_open I hq eg
    simp only at ej hz hv
    subst ej
    cases y with
    | int k =>
      obtain ⟨t, rfl⟩ := hb
      simp only [insertV, eg] at hnf ⊢
      split at hnf
      · rename_i hk
        rw [if_pos hk]
        have hk63 : k < 2 ^ 63 := by unfold ML at hz; lia
        have hsz : cs.toArray.size ≤ sizeLine := by rw [List.size_toArray, hv.length, ← ML_line]; exact hz
        refine call_meets PySem.F.slot_list_insert ⟨_, hg, rfl⟩ PySem.F.entry_list_insert (PySem.F.args_list_insert_3 _ _ _) (PySem.AutoSeq1.list_insert_list_int_val_1 q.1 _ n k t c (by simp [PySem.fitsIndex_of hk.1 hk63]) hsz) ⟨hg, ?_⟩
        refine post_write (ds := cs.take k.toNat ++ c :: cs.drop k.toNat) (x := .none) (a := .none) I hq e2 hg ?_ ((hv.take _).append (ws := z :: vs.drop k.toNat) (ds := c :: cs.drop k.toNat) ⟨hc, hv.drop _⟩) (by simp; lia) rfl s.toks
        have h1 : ¬ k < 0 := by lia
        have h2 : min k.toNat cs.toArray.size = k.toNat := by rw [List.size_toArray, hv.length]; lia
        show ((cs.toArray.extract 0 (if k < 0 then (k + (cs.toArray.size : Int)).toNat else min k.toNat cs.toArray.size)).push c ++ cs.toArray.extract (if k < 0 then (k + (cs.toArray.size : Int)).toNat else min k.toNat cs.toArray.size)) = _
        rw [if_neg h1, h2]
        apply Array.toList_inj.mp
        have : List.take (cs.length - k.toNat) (List.drop k.toNat cs) = List.drop k.toNat cs := List.take_of_length_le (by simp)
        simpa using this
      · exact absurd rfl hnf
    | _ => simp only [insertV, eg] at hnf; exact absurd rfl hnf

theorem sim_insert {pa pi pb : PySem.Expr} {ra ri rb : H → R V} {p apos : Pos} (hbase : attributeBase pa "insert" env (eval pa env) = eval pa env) (hline : (apos.endLine == p.line) = true) (h1 : Plain1 pi env) (h2 : Plain1 pb env)
    (ha : SimAt prog w X frs Cl ns l A VR (eval pa env) ra) (hi : SimAt prog w X frs Cl ns l A VR (eval pi env) ri) (hb : SimAt prog w X frs Cl ns l A VR (eval pb env) rb) :
    SimAt prog w X frs Cl ns l A VR (eval (.Call (.Attribute pa "insert" apos) [pi, pb] [] p) env) (fun h => (ra h).bind fun x h => if isLst h x then (ri h).bind fun y h => (rb h).bind fun z h => insertV h x y z else .fail) := fun ι ah s pt hnf => by
  refine meth_open PySem.F.slot_list_insert PySem.F.type_list_insert hbase hline (few2 h1 h2 p) ha pt hnf fun i ah₁ ι₁ q s₁ pt₁ hq hn => ?_
  rw [bt2 h1 h2]
  refine Calls.callWith_builtin rfl (Calls.evalArgs_plain (Calls.spliced_cons (wpAny_mono (hi.then2' (g := fun c d => call (.builtin "list.insert") [.ref q.1, c, d]) hb pt₁ hn fun x y ah₂ ι₂ c d s₂ ex pt₂ rx ry hn => ?_)
    (fun c s₁ h₁ => Calls.spliced_cons (wpAny_mono h₁ (fun d s₂ h₂ => Calls.spliced_nil h₂) fun _ _ e => e)) fun _ _ e => e)))
  exact leaf_insert pt₂.inv (ex i q hq) rx ry hn
end
end Mine
end

section
open PySem PySem.W PyProof.Rows PySem.Calls
set_option maxRecDepth 100000
set_option linter.unusedVariables false
namespace Mine

noncomputable def RB : Iota → Bool → Bool → Prop := fun _ a b => a = b
/-- a value as a test -/
noncomputable def tst (r : R V) : R Bool := r.bind fun v h => match v with
  | .bool b => .ok b h
  | _ => .fail

section
variable {prog : Program} {w : World} {X : St} {frs : List Env} {Cl : Addr} {ns : List Str} {l : Loc} {A : Around} {env : Env} {sc : Scope}

theorem SimAt.use2 {α₁ α₂ β γ δ : Type} {R1 : Iota → α₁ → γ → Prop} {R2 : Iota → α₂ → δ → Prop} {ta : Sem γ} {tb : Sem δ} {ra : H → R α₁} {rb : H → R α₂} {f : α₁ → α₂ → H → R β} {P : γ → δ → Shared → Prop} {ι : Iota} {ah : H} {s : Shared}
    (ha : SimAt prog w X frs Cl ns l A R1 ta ra) (hb : SimAt prog w X frs Cl ns l A R2 tb rb) (pt : Pt X frs Cl ns l ι ah s) (mono : ∀ {ι ι₁ : Iota} {ah₁ : H} {s s₁ : Shared} {v c}, Step X frs Cl ι s ι₁ ah₁ s₁ → R1 ι v c → R1 ι₁ v c)
    (hnf : ((ra ah).bind fun x h => (rb h).bind fun y h => f x y h) ≠ .fail)
    (k : ∀ x y ah₂ ι₂ c d s₂, ((ra ah).bind fun x h => (rb h).bind fun y h => f x y h) = f x y ah₂ → Step X frs Cl ι s ι₂ ah₂ s₂ → Pt X frs Cl ns l ι₂ ah₂ s₂ → R1 ι₂ x c → R2 ι₂ y d → f x y ah₂ ≠ .fail → P c d s₂) :
    wpAny (model prog w) A ta (fun c s₁ => wpAny (model prog w) A tb (fun d s₂ => P c d s₂)
      (PExc X frs Cl ι s ((ra ah).bind fun x h => (rb h).bind fun y h => f x y h)) s₁) (PExc X frs Cl ι s ((ra ah).bind fun x h => (rb h).bind fun y h => f x y h)) s :=
  ha.use pt hnf fun x ah₁ ι₁ c s₁ e st pt₁ rx hn => by
    rw [e]
    show wpAny _ _ tb (fun d s₂ => P c d s₂) (PExc X frs Cl ι s ((rb ah₁).bind fun y h => f x y h)) s₁
    refine wpAny_mono (hb.use pt₁ hn (P := fun d s₂ => P c d s₂) fun y ah₂ ι₂ d s₂ e' st' pt₂ ry hn' => ?_)
      (fun d s₂ q => q) fun _ _ q => PExc.trans st q
    exact k x y ah₂ ι₂ c d s₂ (by rw [e]; show (rb ah₁).bind _ = _; rw [e']; rfl) (st.trans st') pt₂ (mono st' rx) ry hn'
theorem vr_mono {ι ι₁ : Iota} {ah₁ : H} {s s₁ : Shared} {v : V} {c : Value} (a : Step X frs Cl ι s ι₁ ah₁ s₁) (h : VR ι v c) : VR ι₁ v c := a.vr h

theorem sim_rev {pa : PySem.Expr} {ra : H → R V} {p p1 p2 p3 : Pos} (ha : SimAt prog w X frs Cl ns l A VR (eval pa env) ra) :
    SimAt prog w X frs Cl ns l A VR (eval (.Subscript pa (.Slice Option.none Option.none (some (.UnaryOp .USub (.Constant (.int 1) 0 p3) p2)) p1) p) env) (fun h => (ra h).bind fun x h => revV h x) := fun ι ah s pt hnf =>
  PyProof.Rows.Subscript_ (ha.use pt hnf fun x ah₁ ι₁ c s₁ e st pt₁ rx hn => by
    refine wpAny_Slice (wpAny_pure (wpAny_pure ?_))
    refine wpAny_UnaryOp (wpAny_Constant_int (PySem.P.neg_int ?_))
    have g := Step.grown (s := s₁) pt₁.inv (h' := s₁.heap.push { cls := .type "slice", data := .fields #[.none, .none, .int (-1) (s₁.toks + 1)] }) (fun b o e => Heap.get?_push_of_some _ e) (s₁.toks + 1 + 1)
    have e' : ((ra ah).bind fun x h => revV h x) = revV ah₁ x := by rw [e]; rfl
    simp only [e'] at hnf ⊢
    refine wp_lift (st.trans g) ?_
    unfold revV at hn ⊢
    split at hn
    · rename_i i vs eg
      exact leaf_slice (ws := List.reverse) (vc := List.reverse) (lo := Option.none) (hi := Option.none) (st := some (-1)) g.inv rx eg (Heap.IsSliceOf.new ..) .none .none (.int _ _) (by decide) (fun cs _ => by rw [PySem.W.krv_pick]) (fun cs h => h.reverse) (by simp) (by with_unfolding_all rfl)
    · exact absurd rfl hn)

theorem sim_cut {pa pn : PySem.Expr} {ra rn : H → R V} {p p1 : Pos} (ha : SimAt prog w X frs Cl ns l A VR (eval pa env) ra) (hn' : SimAt prog w X frs Cl ns l A VR (eval pn env) rn) :
    SimAt prog w X frs Cl ns l A VR (eval (.Subscript pa (.Slice Option.none (some pn) Option.none p1) p) env) (fun h => (ra h).bind fun x h => (rn h).bind fun y h => cutV h x y) := fun ι ah s pt hnf => by
  refine PyProof.Rows.Subscript_ (wpAny_mono (ha.use2 hn' pt vr_mono hnf (P := fun c d s₂ => wpAny _ _ (subscriptTail pa (.Slice Option.none (some pn) Option.none p1) c (.ref s₂.heap.objs.size)) _ _ { s₂ with heap := s₂.heap.push { cls := .type "slice", data := .fields #[.none, d, .none] } }) fun x y ah₂ ι₂ c d s₂ e st pt₂ rx ry hn => ?_)
    (fun c s₁ h₁ => wpAny_Slice (wpAny_pure (wpAny_mono h₁ (fun d s₂ h₂ => wpAny_pure h₂) fun _ _ e => e))) fun _ _ e => e)
  have g := Step.grown (s := s₂) pt₂.inv (h' := s₂.heap.push { cls := .type "slice", data := .fields #[.none, d, .none] }) (fun b o e => Heap.get?_push_of_some _ e) s₂.toks
  simp only [e] at hnf ⊢
  refine wp_lift (st.trans g) ?_
  unfold cutV at hn ⊢
  split at hn
  · rename_i i vs k eg
    obtain ⟨t, rfl⟩ := ry
    split at hn
    · rename_i hk
      rw [if_pos hk]
      refine leaf_slice (ws := fun vs => vs.take k.toNat) (vc := fun cs => cs.take k.toNat) (lo := Option.none) (hi := some k) (st := Option.none) g.inv rx eg (Heap.IsSliceOf.new ..) .none (.int _ _) .none (by decide) (fun cs _ => ?_) (fun cs h => h.take _) (by simp; lia) (by with_unfolding_all rfl)
      have e2 : slicePick cs.toArray Option.none (some ((k.toNat : Nat) : Int)) Option.none = (cs.take k.toNat).toArray := by rw [PySem.slicePick_upto']
      rwa [Int.toNat_of_nonneg hk.1] at e2
    · exact absurd rfl hn
  · exact absurd rfl hn

theorem tst_bool {b : Bool} {h : H} : tst (.ok (.bool b) h) = .ok b h := rfl
theorem sim_test {pe : PySem.Expr} {ra : H → R V} (ha : SimAt prog w X frs Cl ns l A VR (eval pe env) ra)
    (he : isTrue pe env (eval pe env) = (do let v ← eval pe env; standAt pe.pos; holding [v] (truthy v))) : SimAt prog w X frs Cl ns l A RB (isTrue pe env (eval pe env)) (fun h => tst (ra h)) := fun ι ah s pt hnf =>
  wpAny_isTrue_value (ha.then pt hnf fun x ah₁ ι₁ c s₁ st pt₁ rx hn => by
    cases x with
    | bool b => cases rx; exact wpAny_truthy_bool (sim_here pt₁ rfl)
    | _ => exact absurd rfl hn) he
noncomputable def notR (r : R V) : R V := r.bind fun x h => match x with
  | .bool b => .ok (.bool (!b)) h
  | _ => .fail
theorem sim_not {pa : PySem.Expr} {ra : H → R V} {p : Pos} (ha : SimAt prog w X frs Cl ns l A VR (eval pa env) ra) :
    SimAt prog w X frs Cl ns l A VR (eval (.UnaryOp .Not pa p) env) (fun h => notR (ra h)) := fun ι ah s pt hnf =>
  wpAny_UnaryOp (ha.then pt hnf fun x ah₁ ι₁ c s₁ st pt₁ rx hn => by
    cases x with
    | bool b => cases rx; exact not_value (wpAny_truthy_bool (sim_here pt₁ rfl))
    | _ => exact absurd rfl hn)
theorem tst_not (r : R V) : tst (notR r) = (tst r).bind fun b h => .ok (!b) h := by
  cases r with
  | ok v h => cases v <;> rfl
  | _ => rfl
theorem sim_test_not {pa : PySem.Expr} {ra : H → R V} {p : Pos} (ha : SimAt prog w X frs Cl ns l A RB (isTrue pa env (eval pa env)) (fun h => tst (ra h))) :
    SimAt prog w X frs Cl ns l A RB (isTrue (.UnaryOp .Not pa p) env (eval (.UnaryOp .Not pa p) env)) (fun h => tst (notR (ra h))) := fun ι ah s pt hnf => by
  simp only [tst_not] at hnf ⊢
  refine wpAny_isTrue_Not (ha.use pt hnf fun x ah₁ ι₁ c s₁ e st pt₁ rx hn => ?_)
  cases rx
  rw [e]
  exact Post.trans st (sim_here pt₁ rfl)
theorem sim_test_cmp {pa pb : PySem.Expr} {ra rb : H → R V} {op : Cop} {p : Pos} (hm : behindInMarks (copO op) pb = false) (hu : A.units + 20 < cLine) (ha : SimAt prog w X frs Cl ns l A VR (eval pa env) ra) (hb : SimAt prog w X frs Cl ns l A VR (eval pb env) rb) :
    SimAt prog w X frs Cl ns l A RB (isTrue (.Compare pa [copO op] [pb] p) env (eval (.Compare pa [copO op] [pb] p) env)) (fun h => tst ((ra h).bind fun x h => (rb h).bind fun y h => cmpV op h x y)) := fun ι ah s pt hnf => by
  have e : ∀ h, tst ((ra h).bind fun x h => (rb h).bind fun y h => cmpV op h x y) = (ra h).bind fun x h => (rb h).bind fun y h => tst (cmpV op h x y) := fun h => by
    cases ra h with
    | ok v h =>
      show tst ((rb h).bind fun y h => cmpV op h v y) = (rb h).bind fun y h => tst (cmpV op h v y)
      cases rb h <;> rfl
    | _ => rfl
  simp only [e] at hnf ⊢
  refine wpAny_isTrue_Compare1 (ha.use2 hb pt vr_mono hnf fun x y ah₂ ι₂ c d s₂ e st pt₂ rx ry hn => ?_) hm
  simp only [e] at hnf ⊢
  have hn0 : cmpV op ah₂ x y ≠ .fail := fun z => hn (by rw [z]; rfl)
  refine wpAny_mono (leaf_cmp (E := fun _ _ => False) hu pt₂.inv rx ry hn0) (fun v s₃ h₃ => ?_) fun ex s₃ h₃ => h₃.elim
  obtain ⟨u, ah₃, ι₃, e3, st3, r3⟩ := h₃
  rw [e3] at hn ⊢
  cases u with
  | bool b => cases r3; exact wpAny_truthy_bool (Post.trans st ⟨b, ah₃, ι₃, rfl, st3, rfl⟩)
  | _ => exact absurd rfl hn

noncomputable def cmp2R (o1 o2 : Cop) (ra rb rd : H → R V) (h : H) : R V :=
  (ra h).bind fun x h => (rb h).bind fun y h => (cmpV o1 h x y).bind fun r h => match r with
      | .bool true => (rd h).bind fun z h => cmpV o2 h y z
      | .bool false => .ok (.bool false) h
      | _ => .fail

theorem cmpV_ok {op : Cop} {h : H} {x y : V} (hnf : cmpV op h x y ≠ .fail) : ∃ b, cmpV op h x y = .ok (.bool b) h := by
  have i2 : ∀ {f : Int → Int → Bool}, int2 (fun i j => .ok (.bool (f i j)) h) x y ≠ .fail → ∃ b, int2 (fun i j => .ok (.bool (f i j)) h) x y = .ok (.bool b) h := fun z => by
    obtain ⟨i, j, rfl, rfl, _⟩ := int2_inv z; exact ⟨_, rfl⟩
  have e2 : ∀ {f : Bool → Bool} {o : Option Bool}, eqR h f o ≠ .fail → ∃ b, eqR h f o = .ok (.bool b) h := fun z => by
    obtain ⟨r, rfl⟩ := eqR_inv z; exact ⟨_, rfl⟩
  cases op with
  | eq => exact e2 hnf
  | ne => exact e2 hnf
  | lt => exact i2 hnf
  | le => exact i2 hnf
  | gt => exact i2 hnf
  | ge => exact i2 hnf
  | notIn =>
    cases x with
    | int k =>
      change notInV h (.int k) y ≠ .fail at hnf
      show ∃ b, notInV h (.int k) y = _
      dsimp only [notInV] at hnf ⊢
      cases g : gL h y with
      | none => rw [g] at hnf; exact absurd rfl hnf
      | some vs => rw [g] at hnf; exact ⟨_, if_pos (ite_nf hnf)⟩
    | _ => exact absurd rfl hnf
  | isNot =>
    cases y with
    | none =>
      cases x with
      | none => exact ⟨_, rfl⟩
      | ref i => exact ⟨_, rfl⟩
      | _ => exact absurd rfl hnf
    | _ => exact absurd rfl hnf

theorem sim_cmp2 {pa pb pd : PySem.Expr} {ra rb rd : H → R V} {o1 o2 : Cop} {p : Pos} (hm : behindInMarks (copO o2) pd = false) (hu : A.units + 20 < cLine) (ha : SimAt prog w X frs Cl ns l A VR (eval pa env) ra) (hb : SimAt prog w X frs Cl ns l A VR (eval pb env) rb)
    (hd : SimAt prog w X frs Cl ns l A VR (eval pd env) rd) :
    SimAt prog w X frs Cl ns l A VR (eval (.Compare pa [copO o1, copO o2] [pb, pd] p) env) (cmp2R o1 o2 ra rb rd) := fun ι ah s pt hnf => by
  unfold cmp2R at hnf ⊢
  refine Compare_chain (wpAny_mono (ha.use2 hb pt vr_mono hnf fun x y ah₂ ι₂ c d s₂ e st pt₂ rx ry hn => ?_) (fun c s₁ h₁ => chain_link h₁) fun _ _ e => e) hm
  simp only [e] at hnf ⊢
  obtain ⟨b, hb1⟩ := cmpV_ok (op := o1) (h := ah₂) (x := x) (y := y) fun z => hn (by rw [z]; rfl)
  refine wpAny_mono (leaf_cmp (E := fun _ _ => False) hu pt₂.inv rx ry (by rw [hb1]; simp)) (fun v s₃ h₃ => ?_) fun ex s₃ h₃ => h₃.elim
  obtain ⟨u, ah₃, ι₃, e3, st3, r3⟩ := h₃
  have st' := st.trans st3
  have pt₃ := pt₂.step st3
  rw [e3] at hn ⊢
  rw [hb1] at e3
  cases e3
  cases r3
  refine wpAny_truthy_bool ?_
  cases b with
  | false => exact Post.trans st' (sim_here pt₃ rfl)
  | true =>
    refine chain_last (wpAny_mono ((hd.then pt₃ hn) fun z ah₄ ι₄ c4 s₄ st4 pt₄ rz hn4 => leaf_cmp hu pt₄.inv (st4.vr (st3.vr ry)) rz hn4) (fun v s₄ h₄ => wpAny_mono h₄ (fun _ _ q => Post.trans st' q) fun _ _ q => PExc.trans st' q) fun _ _ q => PExc.trans st' q)
theorem sim_test_cmp2 {pa pb pd : PySem.Expr} {ra rb rd : H → R V} {o1 o2 : Cop} {p : Pos} (hm : behindInMarks (copO o2) pd = false) (hu : A.units + 20 < cLine) (ha : SimAt prog w X frs Cl ns l A VR (eval pa env) ra) (hb : SimAt prog w X frs Cl ns l A VR (eval pb env) rb)
    (hd : SimAt prog w X frs Cl ns l A VR (eval pd env) rd) :
    SimAt prog w X frs Cl ns l A RB (isTrue (.Compare pa [copO o1, copO o2] [pb, pd] p) env (eval (.Compare pa [copO o1, copO o2] [pb, pd] p) env)) (fun h => tst (cmp2R o1 o2 ra rb rd h)) := fun ι ah s pt hnf => by
  have e : ∀ h, tst (cmp2R o1 o2 ra rb rd h) = (ra h).bind fun x h => (rb h).bind fun y h => tst ((cmpV o1 h x y).bind fun r h => match r with
      | .bool true => (rd h).bind fun z h => cmpV o2 h y z
      | .bool false => .ok (.bool false) h
      | _ => .fail) := fun h => by
    unfold cmp2R
    cases ra h with
    | ok v h =>
      simp only [R.bind]
      cases rb h <;> rfl
    | _ => rfl
  simp only [e] at hnf ⊢
  refine isTrue_chain (wpAny_mono (ha.use2 hb pt vr_mono hnf fun x y ah₂ ι₂ c d s₂ e st pt₂ rx ry hn => ?_) (fun c s₁ h₁ => test_link h₁) fun _ _ e => e) hm
  simp only [e] at hnf ⊢
  obtain ⟨b, hb1⟩ := cmpV_ok (op := o1) (h := ah₂) (x := x) (y := y) fun z => hn (by rw [z]; rfl)
  refine wpAny_mono (leaf_cmp (E := fun _ _ => False) hu pt₂.inv rx ry (by rw [hb1]; simp)) (fun v s₃ h₃ => ?_) fun ex s₃ h₃ => h₃.elim
  obtain ⟨u, ah₃, ι₃, e3, st3, r3⟩ := h₃
  have st' := st.trans st3
  have pt₃ := pt₂.step st3
  rw [e3] at hn ⊢
  rw [hb1] at e3
  cases e3
  cases r3
  refine wpAny_truthy_bool ?_
  cases b with
  | false => exact Post.trans st' (sim_here pt₃ rfl)
  | true =>
    have e5 : tst ((rd ah₂).bind fun z h => cmpV o2 h y z) = (rd ah₂).bind fun z h => tst (cmpV o2 h y z) := by cases rd ah₂ <;> rfl
    simp only [R.bind] at hn ⊢
    change tst ((rd ah₂).bind fun z h => cmpV o2 h y z) ≠ _ at hn
    rw [e5] at hn
    show wpAny _ _ _ (Post RB X frs Cl ι s (tst ((rd ah₂).bind fun z h => cmpV o2 h y z))) (PExc X frs Cl ι s (tst ((rd ah₂).bind fun z h => cmpV o2 h y z))) _
    rw [e5]
    refine test_last (wpAny_mono (hd.use pt₃ hn fun z ah₄ ι₄ c4 s₄ e4 st4 pt₄ rz hn4 => ?_) (fun _ _ q => q) (fun _ _ q => PExc.trans st' q))
    have st5 := st'.trans st4
    have hn0 : cmpV o2 ah₄ y z ≠ .fail := fun z => hn4 (by rw [z]; rfl)
    refine wpAny_mono (leaf_cmp (E := fun _ _ => False) hu pt₄.inv (st4.vr (st3.vr ry)) rz hn0) (fun v s₅ h₅ => ?_) fun ex s₃ h₃ => h₃.elim
    obtain ⟨u, ah₅, ι₅, e6, st6, r5⟩ := h₅
    have e7 : ((rd ah₂).bind fun z h => tst (cmpV o2 h y z)) = tst (cmpV o2 ah₄ y z) := by rw [e4]; rfl
    rw [e7, e6]
    rw [e6] at hn4
    cases u with
    | bool b => cases r5; exact wpAny_truthy_bool (Post.trans st5 ⟨b, ah₅, ι₅, rfl, st6, rfl⟩)
    | _ => exact absurd rfl hn4

section
variable (prog w X frs Cl ns l A env) (c : Ctx)
noncomputable def ESim (e : E) (t : PT) : Prop :=
  SimAt prog w X frs Cl ns l A VR (eval (unE ns e t) env) (evE c e l) ∧ SimAt prog w X frs Cl ns l A RB (isTrue (unE ns e t) env (eval (unE ns e t) env)) (fun h => tst (evE c e l h)) ∧ Plain1 (unE ns e t) env
noncomputable def AllSim : Es → List PT → Prop
  | .nil, _ => True
  | .cons e es, ts => ESim prog w X frs Cl ns l A env c e (ts.getD 0 default) ∧ AllSim es (ts.drop 1)
end
variable {c : Ctx}

theorem sim_items {p : Pos} : ∀ {es : Es} {ts : List PT}, AllSim prog w X frs Cl ns l A env c es ts → SimAt prog w X frs Cl ns l A VRs (spliced (backTo p (starEach (unEs ns es ts) env))) (evEs c es l)
  | .nil, _, _ => fun ι ah s pt hnf => wpAny_items_nil (sim_here pt trivial)
  | .cons e es, ts, ⟨⟨h1, _, h3⟩, h⟩ => fun ι ah s pt hnf => by
    have ih := sim_items (p := p) h
    refine wpAny_items_cons ?_ (h3 _)
    dsimp only [evEs] at hnf ⊢
    refine h1.use2 ih pt vr_mono hnf fun x y ah₂ ι₂ c d s₂ e st pt₂ rx ry hn => ?_
    simp only [e]
    exact Post.trans st (sim_here pt₂ ⟨rx, ry⟩)
theorem sim_lst {es : Es} {ts : List PT} {p : Pos} (h : AllSim prog w X frs Cl ns l A env c es ts) (hz : ∀ h vs h', evEs c es l h = .ok vs h' → vs.length ≤ ML) :
    SimAt prog w X frs Cl ns l A VR (eval (.List (unEs ns es ts) p) env) (fun h => (evEs c es l h).bind fun vs h => alloc (.lst vs) h) := fun ι ah s pt hnf => by
  refine wpAny_List ((sim_items h).use pt hnf fun vs ah₁ ι₁ cs s₁ e st pt₁ rx hn => ?_)
  have z := hz _ _ _ e
  refine ⟨by rw [VRs.length rx, ← ML_line]; exact z, ?_⟩
  simp only [e]
  exact Post.trans st (post_list pt₁.inv rx z s₁.toks)
theorem sim_tup {es : Es} {ts : List PT} {p : Pos} (h : AllSim prog w X frs Cl ns l A env c es ts) (hz : ∀ h vs h', evEs c es l h = .ok vs h' → vs.length ≤ ML) :
    SimAt prog w X frs Cl ns l A VR (eval (.Tuple (unEs ns es ts) 0 p) env) (fun h => (evEs c es l h).bind fun vs h => alloc (.tup vs) h) := fun ι ah s pt hnf => by
  refine wpAny_Tuple ((sim_items h).use pt hnf fun vs ah₁ ι₁ cs s₁ e st pt₁ rx hn => ?_)
  have z := hz _ _ _ e
  refine ⟨by rw [VRs.length rx, ← ML_line]; exact z, ?_⟩
  simp only [e]
  exact Post.trans st (post_tup pt₁.inv rx z s₁.toks)
noncomputable def Es.len : Es → Nat
  | .nil => 0
  | .cons _ es => es.len + 1
theorem evEs_len {c : Ctx} {l : Loc} : ∀ {es : Es} {h : H} {vs : List V} {h' : H}, evEs c es l h = .ok vs h' → vs.length = es.len
  | .nil, h, vs, h', e => by dsimp only [evEs] at e; cases e; rfl
  | .cons e es, h, vs, h', q => by
    dsimp only [evEs] at q
    cases e1 : evE c e l h with
    | ok v h1 =>
      rw [e1] at q
      simp only [R.bind] at q
      cases e2 : evEs c es l h1 with
      | ok ws h2 =>
        rw [e2] at q
        cases q
        dsimp only [Es.len]; simp [evEs_len e2]
      | _ => rw [e2] at q; cases q
    | _ => rw [e1] at q; cases q

theorem sim_boolAnd {p : Pos} : ∀ {es : Es} {ts : List PT}, AllSim prog w X frs Cl ns l A env c es ts → 0 < es.len → SimAt prog w X frs Cl ns l A VR (boolOp p .And (evalEach (unEs ns es ts) env)) (evAnd c es l)
  | .cons e .nil, ts, ⟨⟨h1, _, _⟩, _⟩, _ => fun ι ah s pt hnf => by
    show wpAny _ _ (eval (unE ns e (ts.getD 0 default)) env) _ _ _
    dsimp only [evAnd] at hnf ⊢
    refine h1.use pt hnf fun x ah₁ ι₁ d s₁ e st pt₁ rx hn => ?_
    simp only [e]
    cases x with
    | bool b =>
      cases rx
      cases b <;> exact Post.trans st (sim_here pt₁ rfl)
    | _ => exact absurd rfl hn
  | .cons e (.cons e' es), ts, ⟨⟨h1, _, _⟩, h⟩, _ => fun ι ah s pt hnf => by
    have ih := sim_boolAnd (p := p) h (by dsimp only [Es.len]; simp)
    show wpAny _ _ (do
      let v ← eval (unE ns e (ts.getD 0 default)) env
      standAt p
      let t ← holding [v] (truthy v)
      match BoolOp.And, t with
      | .And, false | .Or, true => pure v
      | _, _ => boolOp p .And (evalEach (unEs ns (.cons e' es) (ts.drop 1)) env)) _ _ _
    dsimp only [evAnd] at hnf ⊢
    refine wpAny_bind (h1.use pt hnf fun x ah₁ ι₁ d s₁ e st pt₁ rx hn => wpAny_bind (wpAny_standAt (wpAny_bind (wpAny_holding ?_))))
    simp only [e]
    cases x with
    | bool b =>
      cases rx
      refine wpAny_truthy_bool ?_
      cases b with
      | false => exact wpAny_pure (Post.trans st (sim_here pt₁ rfl))
      | true => exact wp_lift st (ih ι₁ ah₁ s₁ pt₁ hn)
    | _ => exact absurd rfl hn
theorem sim_boolOr {p : Pos} : ∀ {es : Es} {ts : List PT}, AllSim prog w X frs Cl ns l A env c es ts → 0 < es.len → SimAt prog w X frs Cl ns l A VR (boolOp p .Or (evalEach (unEs ns es ts) env)) (evOr c es l)
  | .cons e .nil, ts, ⟨⟨h1, _, _⟩, _⟩, _ => fun ι ah s pt hnf => by
    show wpAny _ _ (eval (unE ns e (ts.getD 0 default)) env) _ _ _
    dsimp only [evOr] at hnf ⊢
    refine h1.use pt hnf fun x ah₁ ι₁ d s₁ e st pt₁ rx hn => ?_
    simp only [e]
    cases x with
    | bool b =>
      cases rx
      cases b <;> exact Post.trans st (sim_here pt₁ rfl)
    | _ => exact absurd rfl hn
  | .cons e (.cons e' es), ts, ⟨⟨h1, _, _⟩, h⟩, _ => fun ι ah s pt hnf => by
    have ih := sim_boolOr (p := p) h (by dsimp only [Es.len]; simp)
    show wpAny _ _ (do
      let v ← eval (unE ns e (ts.getD 0 default)) env
      standAt p
      let t ← holding [v] (truthy v)
      match BoolOp.Or, t with
      | .And, false | .Or, true => pure v
      | _, _ => boolOp p .Or (evalEach (unEs ns (.cons e' es) (ts.drop 1)) env)) _ _ _
    dsimp only [evOr] at hnf ⊢
    refine wpAny_bind (h1.use pt hnf fun x ah₁ ι₁ d s₁ e st pt₁ rx hn => wpAny_bind (wpAny_standAt (wpAny_bind (wpAny_holding ?_))))
    simp only [e]
    cases x with
    | bool b =>
      cases rx
      refine wpAny_truthy_bool ?_
      cases b with
      | true => exact wpAny_pure (Post.trans st (sim_here pt₁ rfl))
      | false => exact wp_lift st (ih ι₁ ah₁ s₁ pt₁ hn)
    | _ => exact absurd rfl hn

theorem sim_allAnd : ∀ {es : Es} {ts : List PT}, AllSim prog w X frs Cl ns l A env c es ts → SimAt prog w X frs Cl ns l A RB (allTrue .And (unEs ns es ts) env) (fun h => tst (evAnd c es l h))
  | .nil, ts, _ => fun ι ah s pt hnf => wpAny_allTrue_And_nil (by dsimp only [evAnd]; simp only [tst_bool]; exact sim_here pt rfl)
  | .cons e es, ts, ⟨⟨_, h2, _⟩, h⟩ => fun ι ah s pt hnf => by
    have ih := sim_allAnd h
    have q : ∀ hh, tst (evAnd c (.cons e es) l hh) = (tst (evE c e l hh)).bind fun b h => if b then tst (evAnd c es l h) else .ok false h := fun hh => by
      dsimp only [evAnd]
      cases evE c e l hh with
      | ok v h1 =>
        cases v with
        | bool b => cases b <;> rfl
        | _ => rfl
      | _ => rfl
    simp only [q] at hnf ⊢
    refine wpAny_allTrue_And_cons (h2.use pt hnf fun x ah₁ ι₁ d s₁ e st pt₁ rx hn => ?_)
    cases rx
    simp only [e]
    cases x with
    | false => exact Post.trans st (sim_here pt₁ rfl)
    | true => exact wp_lift st (ih ι₁ ah₁ s₁ pt₁ hn)
theorem sim_allOr : ∀ {es : Es} {ts : List PT}, AllSim prog w X frs Cl ns l A env c es ts → SimAt prog w X frs Cl ns l A RB (allTrue .Or (unEs ns es ts) env) (fun h => tst (evOr c es l h))
  | .nil, ts, _ => fun ι ah s pt hnf => wpAny_allTrue_Or_nil (by dsimp only [evOr]; simp only [tst_bool]; exact sim_here pt rfl)
  | .cons e es, ts, ⟨⟨_, h2, _⟩, h⟩ => fun ι ah s pt hnf => by
    have ih := sim_allOr h
    have q : ∀ hh, tst (evOr c (.cons e es) l hh) = (tst (evE c e l hh)).bind fun b h => if b then .ok true h else tst (evOr c es l h) := fun hh => by
      dsimp only [evOr]
      cases evE c e l hh with
      | ok v h1 =>
        cases v with
        | bool b => cases b <;> rfl
        | _ => rfl
      | _ => rfl
    simp only [q] at hnf ⊢
    refine wpAny_allTrue_Or_cons (h2.use pt hnf fun x ah₁ ι₁ d s₁ e st pt₁ rx hn => ?_)
    cases rx
    simp only [e]
    cases x with
    | true => exact Post.trans st (sim_here pt₁ rfl)
    | false => exact wp_lift st (ih ι₁ ah₁ s₁ pt₁ hn)
end
end Mine
end

section
open PySem PySem.W PyProof.Rows PySem.Calls
set_option maxRecDepth 100000
set_option linter.unusedVariables false
namespace Mine

section
variable {X : St} {frs : List Env} {Cl Cl' L D : Addr} {ι ι₁ ι₂ : Iota} {ah ah₁ ah₂ : H} {h h' : Heap} {s s₁ s₂ : Shared} {env : Env}

/-- as Step, but the locals may have turned -/
structure StepL (X : St) (frs : List Env) (Cl : Addr) (ι : Iota) (s : Shared) (ι' : Iota) (ah' : H) (s' : Shared) : Prop where
  ext : ∃ t, ι' = ι ++ t ∧ ∀ b, Tr t b → s.heap.get? b = none
  kp : ∀ b o, s.heap.get? b = some o → ¬ Tr ι b → b ≠ Cl → ∃ sl, s'.heap.get? b = some { o with slots := sl } ∧ (sl = o.slots ∨ Frm frs b)
  eq : ∃ h tk, s' = { s with heap := h, toks := tk }
  inv : Inv X frs Cl ι' ah' s'.heap

theorem Step.toL (a : Step X frs Cl ι s ι₁ ah₁ s₁) : StepL X frs Cl ι s ι₁ ah₁ s₁ := ⟨a.ext, fun b o e n _ => a.kp b o e n, a.eq, a.inv⟩
theorem StepL.refl (I : Inv X frs Cl ι ah s.heap) : StepL X frs Cl ι s ι ah s := (Step.refl I).toL
theorem StepL.at (a : StepL X frs Cl ι s ι₁ ah₁ s₁) {i : Nat} {p : Addr × Addr} (h : ι[i]? = some p) : ι₁[i]? = some p := by
  obtain ⟨t, rfl, _⟩ := a.ext
  rw [List.getElem?_append_left (List.getElem?_eq_some_iff.mp h).1]; exact h

theorem StepL.alive (a : StepL X frs Cl ι s ι₁ ah₁ s₁) {b : Addr} {o : Obj} (h : s.heap.get? b = some o) : ∃ o', s₁.heap.get? b = some o' := by
  obtain ⟨⟨t, rfl, ft⟩, k, _, i⟩ := a
  by_cases n : Tr ι b
  · exact i.led.alive (Tr.append.mpr (.inl n))
  · by_cases c : b = Cl
    · obtain ⟨o, _, _, ho, _⟩ := i.loc
      exact ⟨o, c ▸ ho⟩
    · obtain ⟨sl, hs, _⟩ := k b o h n c
      exact ⟨_, hs⟩
theorem StepL.freshBack (a : StepL X frs Cl ι s ι₁ ah₁ s₁) {b : Addr} (h : s₁.heap.get? b = none) : s.heap.get? b = none := by
  cases q : s.heap.get? b with
  | none => rfl
  | some o => obtain ⟨o', e⟩ := a.alive q; rw [h] at e; cases e

theorem ext_not {t : Iota} (ft : ∀ b, Tr t b → s.heap.get? b = none) {b : Addr} {o : Obj} (e : s.heap.get? b = some o) (n : ¬ Tr ι b) : ¬ Tr (ι ++ t) b := fun q => by
  rcases Tr.append.mp q with q | q
  · exact n q
  · rw [ft b q] at e; cases e
theorem Step.notTr (a : Step X frs Cl ι s ι₁ ah₁ s₁) {b : Addr} {o : Obj} (e : s.heap.get? b = some o) (n : ¬ Tr ι b) : ¬ Tr ι₁ b := by
  obtain ⟨t, rfl, ft⟩ := a.ext; exact ext_not ft e n
theorem StepL.notTr (a : StepL X frs Cl ι s ι₁ ah₁ s₁) {b : Addr} {o : Obj} (e : s.heap.get? b = some o) (n : ¬ Tr ι b) : ¬ Tr ι₁ b := by
  obtain ⟨t, rfl, ft⟩ := a.ext; exact ext_not ft e n

theorem StepL.trans (a : StepL X frs Cl ι s ι₁ ah₁ s₁) (b : StepL X frs Cl ι₁ s₁ ι₂ ah₂ s₂) : StepL X frs Cl ι s ι₂ ah₂ s₂ := by
  obtain ⟨⟨t, rfl, ft⟩, k, ⟨h, tk, rfl⟩, i⟩ := a
  obtain ⟨⟨u, rfl, fu⟩, k', ⟨h', tk', rfl⟩, i'⟩ := b
  refine ⟨⟨t ++ u, by simp, fun b hb => ?_⟩, fun b o e n nc => ?_, ⟨h', tk', rfl⟩, i'⟩
  · rcases Tr.append.mp hb with hb | hb
    · exact ft b hb
    · cases q : s.heap.get? b with
      | none => rfl
      | some o =>
        have hn := fu b hb
        by_cases tb : Tr ι b
        · obtain ⟨o', ho'⟩ := i.led.alive (Tr.append.mpr (.inl tb))
          rw [hn] at ho'; cases ho'
        · by_cases bc : b = Cl
          · obtain ⟨o', _, _, ho', _⟩ := i.loc
            rw [bc, ho'] at hn; cases hn
          · obtain ⟨sl, hs, _⟩ := k b o q tb bc
            rw [hn] at hs; cases hs
  · obtain ⟨sl, hs, c⟩ := k b o e n nc
    obtain ⟨sl', hs', c'⟩ := k' b _ hs (ext_not ft e n) nc
    refine ⟨sl', hs', ?_⟩
    rcases c' with c' | c'
    · rcases c with c | c
      · exact .inl (c'.trans c)
      · exact .inr c
    · exact .inr c'

/-- something that is not tracked is written -/
theorem Inv.other (I : Inv X frs Cl ι ah h) (k : ∀ b o, b ≠ D → h.get? b = some o → h'.get? b = some o) (nT : ¬ Tr ι D) (nb : X.base.get? D = none)
    (hF : Frm frs D → ∃ o, h'.get? D = some o ∧ ∀ vs, o.data ≠ .fields vs) (hl : D = Cl → ∃ o es n, h'.get? Cl = some o ∧ o.data = .dict es n) : Inv X frs Cl ι ah h' := by
  have kT : ∀ b o, Tr ι b → h.get? b = some o → h'.get? b = some o := fun b o t e => k b o (fun z => nT (z ▸ t)) e
  refine ⟨fun b o e => k b o (fun z => by rw [z, nb] at e; cases e) (I.base b o e), ?_, ⟨I.led.len, fun i c p e1 e2 => ?_, I.led.apart, I.led.new⟩, I.sepF, I.sepL, I.locNew, ?_⟩
  · have : ∀ {l : List Env}, (∀ env ∈ l, env ∈ frs) → h.FunFrames X.base l → h'.FunFrames X.base l := by
      intro l
      induction l with
      | nil => intro _ _; trivial
      | cons env r ih =>
        intro hm ⟨hk, ⟨L, o, hf, hn, ho, hd⟩, hr⟩
        refine ⟨hk, ?_, ih (fun e he => hm e (.tail _ he)) hr⟩
        by_cases z : L = D
        · subst z
          obtain ⟨o', ho', hd'⟩ := hF ⟨env, hm env (.head _), hf⟩
          exact ⟨L, o', hf, hn, ho', hd'⟩
        · exact ⟨L, o, hf, hn, k L o z ho, hd⟩
    exact this (fun _ h => h) I.frames
  · have tp1 : Tr ι p.1 := ⟨p, List.mem_of_getElem? e2, .inl rfl⟩
    have tp2 : Tr ι p.2 := ⟨p, List.mem_of_getElem? e2, .inr rfl⟩
    have := (I.led.at_ i c p e1 e2).keeps (t := []) (fun o e => kT _ o tp1 e) (fun o e => kT _ o tp2 e)
    rwa [List.append_nil] at this
  · by_cases z : D = Cl
    · exact hl z
    · obtain ⟨o, es, n, a, b⟩ := I.loc
      exact ⟨o, es, n, k _ _ (Ne.symm z) a, b⟩
theorem Step.fresh (a : Step X frs Cl ι s ι₁ ah₁ s₁) (nD : s.heap.get? D = none) (k : ∀ b o, b ≠ D → s₁.heap.get? b = some o → h'.get? b = some o) (I : Inv X frs Cl ι₁ ah₁ h') (tk : Nat) : Step X frs Cl ι s ι₁ ah₁ { s₁ with heap := h', toks := tk } := by
  obtain ⟨e, kp, ⟨h1, tk1, rfl⟩, _⟩ := a
  refine ⟨e, fun b o e n => ?_, ⟨h', tk, rfl⟩, I⟩
  obtain ⟨sl, hs, c⟩ := kp b o e n
  exact ⟨sl, k b _ (fun z => by rw [z, nD] at e; cases e) hs, c⟩
theorem StepL.fresh (a : StepL X frs Cl ι s ι₁ ah₁ s₁) (nD : s.heap.get? D = none) (k : ∀ b o, b ≠ D → s₁.heap.get? b = some o → h'.get? b = some o) (I : Inv X frs Cl ι₁ ah₁ h') (tk : Nat) : StepL X frs Cl ι s ι₁ ah₁ { s₁ with heap := h', toks := tk } := by
  obtain ⟨e, kp, ⟨h1, tk1, rfl⟩, _⟩ := a
  refine ⟨e, fun b o e n nc => ?_, ⟨h', tk, rfl⟩, I⟩
  obtain ⟨sl, hs, c⟩ := kp b o e n nc
  exact ⟨sl, k b _ (fun z => by rw [z, nD] at e; cases e) hs, c⟩
theorem StepL.write (a : StepL X frs Cl ι s ι₁ ah₁ s₁) (k : ∀ b o, b ≠ Cl → s₁.heap.get? b = some o → h'.get? b = some o) (I : Inv X frs Cl ι₁ ah₁ h') (tk : Nat) : StepL X frs Cl ι s ι₁ ah₁ { s₁ with heap := h', toks := tk } := by
  obtain ⟨e, kp, ⟨h1, tk1, rfl⟩, _⟩ := a
  refine ⟨e, fun b o e n nc => ?_, ⟨h', tk, rfl⟩, I⟩
  obtain ⟨sl, hs, c⟩ := kp b o e n nc
  exact ⟨sl, k b _ nc hs, c⟩

theorem Inv.recl (I : Inv X frs Cl' ι ah h) (n : ¬ Tr ι Cl) (b : X.base.get? Cl = none) (l : ∃ o es n, h.get? Cl = some o ∧ o.data = .dict es n) : Inv X frs Cl ι ah h :=
  ⟨I.base, I.frames, I.led, I.sepF, n, b, l⟩
theorem Step.recl (I : Inv X frs Cl ι ah s.heap) (a : Step X frs Cl' ι s ι₁ ah₁ s₁) : Step X frs Cl ι s ι₁ ah₁ s₁ := by
  obtain ⟨o, es, n, ho, hd⟩ := I.loc
  obtain ⟨sl, hs, _⟩ := a.kp Cl o ho I.sepL
  exact ⟨a.ext, a.kp, a.eq, a.inv.recl (a.notTr ho I.sepL) I.locNew ⟨_, es, n, hs, hd⟩⟩

theorem nsDict {m : Str → Option Value} (hn : h.Ns Cl m) : ∃ o es n, h.get? Cl = some o ∧ o.data = .dict es n := by
  obtain ⟨o, es, ep, ho, hd, _⟩ := hn; exact ⟨o, es, ep, ho, hd⟩
theorem nsNoFields {m : Str → Option Value} (hn : h.Ns Cl m) : ∃ o, h.get? Cl = some o ∧ ∀ vs, o.data ≠ .fields vs := by
  obtain ⟨o, es, ep, ho, hd, _⟩ := hn; exact ⟨o, ho, fun vs e => by rw [hd] at e; cases e⟩
/-- the locals are written -/
theorem Inv.local_ {m : Str → Option Value} (I : Inv X frs Cl ι ah h) (k : ∀ b o, b ≠ Cl → h.get? b = some o → h'.get? b = some o) (hn : h'.Ns Cl m) : Inv X frs Cl ι ah h' :=
  I.other k I.sepL I.locNew (fun _ => nsNoFields hn) (fun _ => nsDict hn)

theorem fresh_none (hp : Heap) : hp.get? hp.objs.size = none := by
  cases q : hp.get? hp.objs.size with
  | none => rfl
  | some o => exact absurd (Heap.lt_size q) (Nat.lt_irrefl _)
theorem Inv.notFresh (I : Inv X frs Cl ι ah h) {b : Addr} (e : h.get? b = none) : ¬ Tr ι b ∧ ¬ Frm frs b ∧ b ≠ Cl ∧ X.base.get? b = none := by
  refine ⟨fun t => ?_, fun ⟨env, he, hf⟩ => ?_, fun z => ?_, none_of_stays I.base e⟩
  · obtain ⟨o, ho⟩ := I.led.alive t; rw [e] at ho; cases ho
  · obtain ⟨o, ho, _⟩ := (I.frames.mem (List.mem_filterMap.mpr ⟨env, he, hf⟩)).2
    rw [e] at ho; cases ho
  · obtain ⟨o, _, _, ho, _⟩ := I.loc; rw [z, ho] at e; cases e

/-- into a call's frame -/
theorem Inv.enter {m : Str → Option Value} (I : Inv X frs Cl ι ah h) (hL : h.get? L = none) (hf : env.frame = some L) (hk : env.scope.kind = .function) (k : ∀ b o, h.get? b = some o → h'.get? b = some o) (hn : h'.Ns L m) : Inv X (env :: frs) L ι ah h' := by
  obtain ⟨nT, nF, nC, nb⟩ := I.notFresh hL
  have I' := I.grown k
  refine ⟨I'.base, Heap.FunFrames.cons (by rw [hk]; decide) hf hn nb I'.frames, I'.led, fun b t => ?_, nT, nb, nsDict hn⟩
  rintro ⟨e, he, hb⟩
  rcases List.mem_cons.mp he with rfl | he
  · rw [hf] at hb; cases hb; exact nT t
  · exact I.sepF b t ⟨e, he, hb⟩
/-- out of a call's frame -/
theorem Step.leave {s' : Shared} (I : Inv X frs Cl ι ah s.heap) (hL : s.heap.get? L = none) (hf : env.frame = some L) (k : ∀ b o, s.heap.get? b = some o → s'.heap.get? b = some o) (he : ∃ h tk, s' = { s with heap := h, toks := tk })
    (a : StepL X (env :: frs) L ι s' ι₁ ah₁ s₁) : Step X frs Cl ι s ι₁ ah₁ s₁ := by
  obtain ⟨⟨t, rfl, ft⟩, kp, ⟨h1, tk1, rfl⟩, I1⟩ := a
  obtain ⟨hh, tk, rfl⟩ := he
  have ft' : ∀ b, Tr t b → s.heap.get? b = none := fun b tb => by
    cases q : s.heap.get? b with
    | none => rfl
    | some o => have := ft b tb; rw [k b o q] at this; cases this
  have kp' : Kp frs ι s.heap h1 := fun b o e n => by
    have nL : b ≠ L := fun z => by rw [z, hL] at e; cases e
    obtain ⟨sl, hs, c⟩ := kp b o (k b o e) n nL
    refine ⟨sl, hs, ?_⟩
    rcases c with c | ⟨e', he', hb⟩
    · exact .inl c
    · rcases List.mem_cons.mp he' with rfl | he'
      · rw [hf] at hb; cases hb; exact absurd rfl nL
      · exact .inr ⟨e', he', hb⟩
  obtain ⟨o, es, n, ho, hd⟩ := I.loc
  obtain ⟨sl, hs, _⟩ := kp' Cl o ho I.sepL
  exact ⟨⟨t, rfl, ft'⟩, kp', ⟨h1, tk1, rfl⟩, I1.base, I1.frames.2.2, I1.led, fun b tb ⟨e', he', hb⟩ => I1.sepF b tb ⟨e', .tail _ he', hb⟩, ext_not ft' ho I.sepL, I.locNew, ⟨_, es, n, hs, hd⟩⟩
end
end Mine
end

section
open PySem PySem.W PyProof.Rows PySem.Calls
set_option maxRecDepth 100000
set_option linter.unusedVariables false
namespace Mine

noncomputable def RetC (X : St) (frs : List Env) (Cl : Addr) (ι : Iota) (s : Shared) (r : R V) : Result → Shared → Prop := fun q s' => match q with
  | .ok (.ret v) => Post VR X frs Cl ι s r v s'
  | .ok _ => False
  | .error e => PExc X frs Cl ι s r e s'

structure AOc (A : Around) (frs : List Env) (n : Nat) : Prop where
  fr : A.frames = some frs
  hd : A.handled = none
  dp : A.depth + 2 * n + 1 ≤ 990
  un : A.units + 10 * n + 35 ≤ 9000
theorem AOk.c {A : Around} {frs : List Env} {n : Nat} (a : AOk A frs n) : AOc A frs n := ⟨a.fr, a.hd, by have := a.dp; lia, by have := a.un; lia⟩
theorem under_tc (A : Around) (C : Addr) (vs : List Value) : A.under (.builtin "type.__call__" ⟨.ref C :: vs, []⟩) = { A with depth := A.depth + 1, units := A.units + 1 } := by
  obtain ⟨hd, d, fr, gs, u⟩ := A
  unfold Around.under
  have h1 : (Code.builtin "type.__call__" ⟨.ref C :: vs, []⟩).weight = 1 := by kernel_rfl
  have h2 : (Code.builtin "type.__call__" ⟨.ref C :: vs, []⟩).cUnits = 1 := by kernel_rfl
  have h3 : (Code.builtin "type.__call__" ⟨.ref C :: vs, []⟩).envs = [] := by kernel_rfl
  have h4 : (Code.builtin "type.__call__" ⟨.ref C :: vs, []⟩).guards = [] := by kernel_rfl
  rw [h1, h2, h3, h4]
  rfl
theorem AOk.tc {A : Around} {frs : List Env} {n : Nat} (a : AOk A frs n) (C : Addr) (vs : List Value) : AOc (A.under (.builtin "type.__call__" ⟨.ref C :: vs, []⟩)) frs n := by
  rw [under_tc]
  exact ⟨a.fr, a.hd, by have := a.dp; show A.depth + 1 + 2 * n + 1 ≤ 990; lia, by have := a.un; show A.units + 1 + 10 * n + 35 ≤ 9000; lia⟩

/-- what stands known of the calls -/
noncomputable def CallOk (prog : Program) (w : World) (X : St) (c : Ctx) (n : Nat) : Prop :=
  ∀ f vs cs frs Cl ι ah s A, f < 29 → AOc A frs n → Inv X frs Cl ι ah s.heap → VRs ι vs cs → c.call f vs ah ≠ .fail →
    codeAny (model prog w) A (.call (.ref (X.fa f)) ⟨cs, []⟩) (RetC X frs Cl ι s (c.call f vs ah)) s

structure FunOk (X : St) : Prop where
  fn : ∀ i, i < 29 → ∃ o fd, X.base.get? (X.fa i) = some o ∧ o.data = .func fd
  mkc : makesIn X.K X.C = true
  ini : findIn X.K (.ref X.C) "__init__" = some (some (.ref (X.fa 0)))
  typ : typeIn X.K (.ref (X.fa 0)) = some (.type "function")
  keep : keepIn X.K (.ref X.C) = true

section
variable {prog : Program} {w : World} {X : St} {frs : List Env} {Cl : Addr} {ns : List Str} {l : Loc} {A : Around} {env : Env} {sc : Scope} {c : Ctx} {n : Nat}

theorem leaf_call (k : CallOk prog w X c n) {f : Nat} (hf : f < 29) {vs : List V} {cs : List Value} {ι : Iota} {ah : H} {s : Shared} (ao : AOk A frs n) (I : Inv X frs Cl ι ah s.heap) (hv : VRs ι vs cs) (hnf : c.call f vs ah ≠ .fail) :
    wpAny (model prog w) A (call (.ref (X.fa f)) cs) (Post VR X frs Cl ι s (c.call f vs ah)) (PExc X frs Cl ι s (c.call f vs ah)) s :=
  wpAny_call (codeAny_mono (k f vs cs frs Cl ι ah s A hf ao.c I hv hnf) fun r s' h => by
    cases r with
    | ok q => cases q <;> exact h
    | error e => exact h)

theorem sim_call {f : Nat} {es : Es} {ts : List PT} {p p0 : Pos} (O : StOk X) (G : GlobOk X) (U : FunOk X) (eo : EnvOk sc ns env Cl) (k : CallOk prog w X c n) (ao : AOk A frs n) (hf : 1 ≤ f ∧ f < 29) (hk : env.kindOf (fnS f) = some .globalImplicit) (hd : (fnS f == ("__debug__" : Str)) = false)
    (h : AllSim prog w X frs Cl ns l A env c es ts) :
    SimAt prog w X frs Cl ns l A VR (eval (.Call (.Name (fnS f) p0) (unEs ns es ts) [] p) env) (fun h => (evEs c es l h).bind fun vs h => c.call f vs h) := fun ι ah s pt hnf => by
  obtain ⟨o, fd, ho, hfd⟩ := U.fn f hf.2
  refine Call_Name rfl (name_glob O eo pt.inv.base hk (G.fn f hf.1 hf.2) hd ?_)
  have main := (sim_items (p := p) h).use pt hnf (P := fun vs s₁ => (s₁.heap.get? (X.fa f) = some o ∧ o.data = .func fd) ∧ wpAny (model prog w) A (call (.ref (X.fa f)) vs) (Post VR X frs Cl ι s ((evEs c es l ah).bind fun vs h => c.call f vs h)) (PExc X frs Cl ι s ((evEs c es l ah).bind fun vs h => c.call f vs h)) s₁)
    fun vs ah₁ ι₁ cs s₁ e st pt₁ rx hn => by
      refine ⟨⟨pt₁.inv.base _ _ ho, hfd⟩, ?_⟩
      have q : ((evEs c es l ah).bind fun vs h => c.call f vs h) = c.call f vs ah₁ := by rw [e]; rfl
      rw [q]
      exact wp_lift st (leaf_call k hf.2 ao pt₁.inv rx hn)
  cases es with
  | nil => exact Calls.callWith_function (o := o) (fd := fd) (PySem.evalArgs_none ⟨⟨pt.inv.base _ _ ho, hfd⟩, leaf_call (vs := []) (cs := []) k hf.2 ao pt.inv trivial hnf⟩)
  | cons e es =>
    have h3 := h.1.2.2
    have he : backTo p (starEach (unEs ns (.cons e es) ts) env) = (false, eval (unE ns e (ts.getD 0 default)) env) :: backTo p (starEach (unEs ns es (ts.drop 1)) env) := by
      show backTo p (starEach (unE ns e (ts.getD 0 default) :: unEs ns es (ts.drop 1)) env) = _
      rw [h3]; rfl
    rw [he] at main ⊢
    exact Calls.callWith_function (o := o) (fd := fd) (Calls.evalArgs_plain main)

theorem leaf_new (O : StOk X) (U : FunOk X) (k : CallOk prog w X c n) (ao : AOk A frs n) {x y : V} {a b : Value} {ι : Iota} {ah : H} {s : Shared} (I : Inv X frs Cl ι ah s.heap) (ha : VR ι x a) (hb : VR ι y b) (hnf : newV c ah x y ≠ .fail) :
    wpAny (model prog w) A (call (.ref X.C) [a, b]) (Post VR X frs Cl ι s (newV c ah x y)) (PExc X frs Cl ι s (newV c ah x y)) s := by
  have KX : X.K.In s.heap := O.kin.keeps I.base
  obtain ⟨hh, g, d, t, os⟩ := s
  refine wpAny_call (codeAny_mono (R := RetC X frs Cl ι ⟨hh, g, d, t, os⟩ (newV c ah x y)) ?_ fun r s' h => by
    cases r with
    | ok q => cases q <;> exact h
    | error e => exact h)
  refine make_core (makes_of KX U.mkc) (looks_findIn KX U.ini) (fun self => bind_fn KX self U.typ) (.inl rfl) ?_
  have kk : ∀ b o, hh.get? b = some o → ((hh.push emptyDict).push (instObj X.C hh.objs.size)).get? b = some o := fun b o e => Heap.get?_push_of_some _ (Heap.get?_push_of_some _ e)
  have n1 : hh.get? (hh.objs.size + 1) = none := by
    cases q : hh.get? (hh.objs.size + 1) with
    | none => rfl
    | some o => exact absurd (Heap.lt_size q) (Nat.not_lt.mpr (Nat.le_succ _))
  have g1 : ((hh.push emptyDict).push (instObj X.C hh.objs.size)).get? (hh.objs.size + 1) = some (instObj X.C hh.objs.size) := by
    have := Heap.get?_push_size (hh.push emptyDict) (o := instObj X.C hh.objs.size) rfl
    rwa [Heap.size_push] at this
  have g2 : ((hh.push emptyDict).push (instObj X.C hh.objs.size)).get? hh.objs.size = some (dictOf [] 0) := Heap.get?_push_of_some _ (Heap.get?_push_size _ rfl)
  have st0 := Step.alloc (s := ⟨hh, g, d, t, os⟩) (p := (hh.objs.size + 1, hh.objs.size)) (c := .node []) (h' := (hh.push emptyDict).push (instObj X.C hh.objs.size)) I kk n1 (fresh_none hh) ⟨by simp, [], 0, trivial, g1, g2⟩ t
  have hl : ah.length = ι.length := I.led.len.symm
  have hself : VR (ι ++ [(hh.objs.size + 1, hh.objs.size)]) (.ref ah.length) (.ref (hh.objs.size + 1)) := ⟨(hh.objs.size + 1, hh.objs.size), by rw [hl]; simp, rfl⟩
  have ao' := ao.tc X.C [a, b]
  unfold newV at hnf ⊢
  have hnc : c.call 0 [.ref ah.length, x, y] (ah ++ [.node []]) ≠ .fail := fun z => hnf (by rw [z]; rfl)
  refine codeAny_mono (k 0 [.ref ah.length, x, y] [.ref (hh.objs.size + 1), a, b] frs Cl _ _ ⟨(hh.push emptyDict).push (instObj X.C hh.objs.size), g, d, t, os⟩ _ (by decide) ao' st0.inv ⟨hself, st0.vr ha, st0.vr hb, trivial⟩ hnc) fun r s' z => ?_
  cases r with
  | error e =>
    obtain ⟨ah', ι', e1, st, x1⟩ := PExc.trans st0 z
    exact ⟨ah', ι', by rw [e1]; rfl, st, x1⟩
  | ok q =>
    cases q with
    | ret v =>
      obtain ⟨u, ah', ι', e1, st, r1⟩ := z
      rw [e1] at hnf ⊢
      cases u with
      | none =>
        cases r1
        exact ⟨rfl, .ref ah.length, ah', ι', rfl, st0.trans st, st.vr hself⟩
      | _ => exact absurd rfl hnf
    | _ => exact z.elim

theorem sim_new {pa pb : PySem.Expr} {ra rb : H → R V} {p p0 : Pos} (O : StOk X) (G : GlobOk X) (U : FunOk X) (eo : EnvOk sc ns env Cl) (k : CallOk prog w X c n) (ao : AOk A frs n) (hk : env.kindOf "GameNode" = some .globalImplicit) (h1 : Plain1 pa env) (h2 : Plain1 pb env)
    (ha : SimAt prog w X frs Cl ns l A VR (eval pa env) ra) (hb : SimAt prog w X frs Cl ns l A VR (eval pb env) rb) :
    SimAt prog w X frs Cl ns l A VR (eval (.Call (.Name "GameNode" p0) [pa, pb] [] p) env) (fun h => (ra h).bind fun x h => (rb h).bind fun y h => newV c h x y) := fun ι ah s pt hnf => by
  refine Call_Name rfl (name_glob O eo pt.inv.base hk G.node (by decide +kernel) ?_)
  refine callWith_K (e := pa) (rest := [pb]) (first := []) O.kin U.keep (wpAny_items_cons (wpAny_mono (ha.use2 hb pt vr_mono hnf (P := fun c d s₂ => X.K.In s₂.heap ∧ wpAny (model prog w) A (call (.ref X.C) [c, d]) (Post VR X frs Cl ι s ((ra ah).bind fun x h => (rb h).bind fun y h => newV _ h x y)) (PExc X frs Cl ι s ((ra ah).bind fun x h => (rb h).bind fun y h => newV _ h x y)) s₂) fun x y ah₂ ι₂ c d s₂ e st pt₂ rx ry hn => ?_)
    (fun c s₁ h₁ => wpAny_items_cons (wpAny_mono h₁ (fun d s₂ h₂ => wpAny_items_nil h₂) fun _ _ e => e) (h2 _)) fun _ _ e => e) (h1 _)) (h1 _) (by rw [h2]; rfl)
  refine ⟨O.kin.keeps pt₂.inv.base, ?_⟩
  rw [e]
  exact wp_lift st (leaf_new O U k ao pt₂.inv rx ry hn)
end

/-! comprehensions -/
section
variable {prog : Program} {w : World} {A : Around} {R : Result → Shared → Prop}
theorem codeAny_compLoop_any {elt target iter : PySem.Expr} {ifs : List PySem.Expr} {scope : Scope} {pos : Pos} {it acc : Value} {env : Env} (I : Nat → Shared → Prop)
    (turn : ∀ n s, I n s → wpAny (model prog w) A (pyNext it) (fun r s₁ => match r with
      | none => R (.ok .next) s₁
      | some v => wpAny (model prog w) A (letOwnedTupleGo target it v) (fun _ s₁' => wpAny (model prog w) A (assign target env v) (fun _ s₂ =>
          wpAny (model prog w) A (forIn ifs true fun c r => if r = true then do let ok ← isTrue c env (eval c env); pure (ForInStep.yield ok) else pure (ForInStep.yield r)) (fun ok s₃ =>
            if ok = true then wpAny (model prog w) A (eval elt env) (fun x s₄ =>
              wpAny (model prog w) A (call (.builtin "list.append") [acc, x]) (fun _ s₅ => ∃ m, m < n ∧ I m s₅) (notedBy (model prog w) A env fun e s' => R (.error e) s') s₄) (notedBy (model prog w) A env fun e s' => R (.error e) s') s₃
            else ∃ m, m < n ∧ I m s₃) (notedBy (model prog w) A env fun e s' => R (.error e) s') s₂) (notedBy (model prog w) A env fun e s' => R (.error e) s') s₁') (notedBy (model prog w) A env fun e s' => R (.error e) s') s₁) (notedBy (model prog w) A env fun e s' => R (.error e) s') s)
    (n : Nat) (s : Shared) (h : I n s) :
    codeAny (model prog w) A (.compLoop (.ListComp elt [⟨target, iter, ifs, 0⟩] scope pos) 0 it acc env) R s := by
  refine codeAny_loop rfl I (fun n s hI => ?_) n h
  show wpAny _ A ((compTurn (.ListComp elt [⟨target, iter, ifs, 0⟩] scope pos) 0 it acc env).onRaise (fun x => do noteFrame x env; theTreesLotGoes x)) _ _ s
  refine wpAny_noted ?_
  rw [compTurn_list]
  refine wpAny_bind (wpAny_standAt (wpAny_bind (wpAny_mono (turn n s hI) (fun r s₁ h₁ => ?_) fun _ _ h' => h')))
  cases r with
  | none => exact wpAny_pure h₁
  | some v =>
    refine wpAny_bind (wpAny_mono h₁ (fun _ s₁' h₁' => ?_) fun _ _ h' => h')
    refine wpAny_bind (wpAny_mono h₁' (fun _ s₂ h₂ => wpAny_bind (wpAny_mono h₂ (fun ok s₃ h₃ => ?_) fun _ _ h' => h')) fun _ _ h' => h')
    cases ok with
    | false => exact wpAny_pure ⟨rfl, h₃⟩
    | true =>
      exact wpAny_bind (wpAny_bind (wpAny_mono h₃ (fun x s₄ h₄ => wpAny_bind (wpAny_mono h₄ (fun _ s₅ h₅ => wpAny_pure (wpAny_pure ⟨rfl, h₅⟩)) fun _ _ h' => h')) fun _ _ h' => h'))
end
end Mine
end

section
open PySem PySem.W PyProof.Rows PySem.Calls
set_option maxRecDepth 100000
set_option linter.unusedVariables false
namespace Mine

section
variable {prog : Program} {w : World} {X : St} {frs : List Env} {Cl : Addr} {ns : List Str} {l : Loc} {A : Around} {env : Env} {sc : Scope} {c : Ctx} {n : Nat} {ι ι₁ : Iota} {ah ah₁ : H} {s s₁ : Shared}

theorem leaf_append {i : Nat} {q : Addr × Addr} {y : V} {b : Value} {E : Value → Shared → Prop} (I : Inv X frs Cl ι ah s.heap) (hq : ι[i]? = some q) (hb : VR ι y b) (hnf : appendV ah (.ref i) y ≠ .fail) :
    wpAny (model prog w) A (call (.builtin "list.append") [.ref q.1, b]) (Post VR X frs Cl ι s (appendV ah (.ref i) y)) E s := by
  cases eg : gL ah (.ref i) with
  | none => simp only [appendV, eg] at hnf; exact absurd rfl hnf
  | some r =>
    obtain ⟨j, vs⟩ := r
    obtain ⟨ej, e2, hz, cs, n, hv, hg⟩ := lst_open I hq eg
    simp only at ej hz hv
    subst ej
    simp only [appendV, eg] at hnf ⊢
    split at hnf
    · rename_i hl
      rw [if_pos hl]
      have hsz : cs.toArray.size ≤ sizeLine := by rw [List.size_toArray, hv.length, ← ML_line]; exact hz
      refine call_meets PySem.F.slot_list_append ⟨_, hg, rfl⟩ PySem.F.entry_list_append (PySem.F.args_list_append_2 _ _) (PySem.list_append q.1 _ n b hsz) ⟨hg, ?_⟩
      exact post_write (ds := cs ++ [b]) (x := .none) (a := .none) I hq e2 hg (by simp) (hv.append (VRs.one hb)) (by simp; lia) rfl s.toks
    · exact absurd rfl hnf

theorem iter_kept {I a : Addr} {i : Nat} (st : Step X frs Cl ι s ι₁ ah₁ s₁) (nT : ¬ Tr ι I) (h : s.heap.IsListIter I a i) : s₁.heap.IsListIter I a i := by
  obtain ⟨o, ho, hc, hd⟩ := h
  obtain ⟨sl, hs, _⟩ := st.kp I o ho nT
  exact ⟨_, hs, hc, hd⟩
theorem iter_keptL {I a : Addr} {i : Nat} (st : StepL X frs Cl ι s ι₁ ah₁ s₁) (nT : ¬ Tr ι I) (nC : I ≠ Cl) (h : s.heap.IsListIter I a i) : s₁.heap.IsListIter I a i := by
  obtain ⟨o, ho, hc, hd⟩ := h
  obtain ⟨sl, hs, _⟩ := st.kp I o ho nT nC
  exact ⟨_, hs, hc, hd⟩

theorem notClass (eo : EnvOk sc ns env Cl) : (env.scope.kind == .class || (env.scope.kind == .module && env.locals != env.globals)) = false := by
  rw [eo.kind]; rfl

/-- one name is bound -/
theorem locR_one {v : V} {d : Value} {m : Str → Option Value} {x : Nat} (nd : ns.Nodup) (hx : x < ns.length) (hv : VR ι v d) (h : LocR ι ns l m) : LocR ι ns (l.set x v) (fun y => if y = nm ns x then some d else m y) := fun y u e => by
  unfold Loc.set at e
  by_cases hy : y = x
  · subst hy
    rw [if_pos rfl] at e; cases e
    exact ⟨hx, d, if_pos rfl, hv⟩
  · rw [if_neg hy] at e
    obtain ⟨h1, c, h2, h3⟩ := h y u e
    refine ⟨h1, c, ?_, h3⟩
    show (if nm ns y = nm ns x then some d else m (nm ns y)) = some c
    rw [if_neg (fun z => hy (nm_inj nd h1 hx z))]; exact h2

theorem assign_one {d : Value} {x : Nat} {p : Pos} {m : Str → Option Value} {Q : Unit → Shared → Prop} {E : Value → Shared → Prop} (eo : EnvOk sc ns env Cl) (hx : x < ns.length) (hn : s.heap.Ns Cl m)
    (h : ∀ h' tk, (∀ b o, b ≠ Cl → s.heap.get? b = some o → h'.get? b = some o) → h'.Ns Cl (fun y => if y = nm ns x then some d else m y) → Q () { s with heap := h', toks := tk }) :
    wpAny (model prog w) A (assign (.Name (nm ns x) p) env d) Q E s :=
  wpAny_assign_Name (wpAny_storeName_local (eo.vars _ (nm_mem hx)).1 (eo.loc ▸ hn) (fun h' hn' hs' => h h' _ (fun b o nb e => hs'.extBut b o (by rw [eo.loc]; exact nb) e) (eo.loc ▸ hn')) (notClass eo))

theorem unpair_open {v a b : V} {d : Value} (I : Inv X frs Cl ι ah s.heap) (hv : VR ι v d) (e : unpair ah v = some (a, b)) : ∃ T c1 c2, d = .ref T ∧ s.heap.IsTuple T #[c1, c2] ∧ VR ι a c1 ∧ VR ι b c2 := by
  cases v with
  | ref i =>
    simp only [unpair] at e
    split at e
    · rename_i x y q
      cases e
      obtain ⟨p, hp, rfl⟩ := hv
      obtain ⟨p', hp', _, _, cs, n, hvs, hg⟩ := I.led.ofRef q
      rw [hp] at hp'; cases hp'
      match cs, hvs with
      | [c1, c2], ⟨h1, h2, _⟩ => exact ⟨p.1, c1, c2, rfl, ⟨_, hg, rfl, n, rfl⟩, h1, h2⟩
    · cases e
  | _ => cases e

theorem assign_two {a b : V} {v : V} {d : Value} {x y : Nat} {p p1 p2 : Pos} {m : Str → Option Value} {Q : Unit → Shared → Prop} {E : Value → Shared → Prop} (hh : A.handled = none) (eo : EnvOk sc ns env Cl) (hx : x < ns.length) (hy : y < ns.length) (I : Inv X frs Cl ι ah s.heap) (hn : s.heap.Ns Cl m) (hl : LocR ι ns l m)
    (hv : VR ι v d) (e : unpair ah v = some (a, b))
    (h : ∀ h' tk m', (∀ b o, b ≠ Cl → s.heap.get? b = some o → h'.get? b = some o) → h'.Ns Cl m' → LocR ι ns ((l.set x a).set y b) m' → Q () { s with heap := h', toks := tk }) :
    wpAny (model prog w) A (assign (.Tuple [.Name (nm ns x) p1, .Name (nm ns y) p2] 0 p) env d) Q E s := by
  obtain ⟨T, c1, c2, rfl, hT, va, vb⟩ := unpair_open I hv e
  refine PySem.wpAny_assign_Tuple hh hT rfl rfl fun h1 he1 => ?_
  have k1 : ∀ b o, s.heap.get? b = some o → h1.get? b = some o := fun b o e => he1 b o (Nat.ne_of_lt (Heap.lt_size e)) e
  show wpAny _ _ (assignInOrder [assign (.Name (nm ns x) p1) env, assign (.Name (nm ns y) p2) env] [c1, c2]) _ _ _
  refine wpAny_assignInOrder_more (assign_one eo hx (hn.keeps k1) fun h2 tk2 k2 hn2 => ?_)
  refine wpAny_assignInOrder_more (assign_one eo hy hn2 fun h3 tk3 k3 hn3 => ?_)
  refine wpAny_assignInOrder_none ?_
  exact h h3 tk3 _ (fun b o nb e => k3 b o nb (k2 b o nb (k1 b o e))) hn3 (locR_one eo.nd hy vb (locR_one eo.nd hx va hl))

/-- the target of a comprehension is bound -/
theorem sim_target {two : Bool} {t : PT} {It ax : Addr} {i : Nat} {v : V} {d : Value} {m : Str → Option Value} {l' : Loc} {Q : Unit → Shared → Prop} {E : Value → Shared → Prop} (hh : A.handled = none) (eo : EnvOk sc ns env Cl) (hlen : (if two then 1 else 0) < ns.length) (I : Inv X frs Cl ι ah s.heap)
    (hn : s.heap.Ns Cl m) (hit : s.heap.IsListIter It ax i) (hv : VR ι v d) (hb : bindT two ah v = some l')
    (h : ∀ h' tk m', (∀ b o, b ≠ Cl → s.heap.get? b = some o → h'.get? b = some o) → h'.Ns Cl m' → LocR ι ns l' m' → Q () { s with heap := h', toks := tk }) :
    wpAny (model prog w) A (letOwnedTupleGo (unT ns two t) (.ref It) d) (fun _ s₁ => wpAny (model prog w) A (assign (unT ns two t) env d) Q E s₁) E s := by
  have l0 : LocR ι ns (fun _ => none) m := fun x v e => by cases e
  cases two with
  | false =>
    simp only [bindT, Option.some.injEq] at hb
    subst hb
    refine wpAny_of_eq (a := ()) (by rfl) (assign_one eo hlen hn fun h' tk k hn' => h h' tk _ k hn' ?_)
    have := locR_one eo.nd hlen hv l0
    exact this
  | true =>
    simp only [bindT, Option.map_eq_some_iff] at hb
    obtain ⟨⟨a, b⟩, hab, rfl⟩ := hb
    obtain ⟨T, c1, c2, rfl, hT, va, vb⟩ := unpair_open I hv hab
    refine wpAny_letOwnedTupleGo_listiter hit ?_
    have h1 : 1 < ns.length := hlen
    refine assign_two hh eo (by lia : 0 < ns.length) h1 I hn l0 hv hab fun h' tk m' k hn' hl' => h h' tk m' k hn' ?_
    intro x u e
    refine hl' x u ?_
    simp only [Loc.set]
    simp only at e
    by_cases h1 : x = 1
    · subst h1; simpa using e
    · rw [if_neg h1]
      by_cases h0 : x = 0
      · subst h0; simpa using e
      · rw [if_neg h0] at e; rw [if_neg h1] at e; cases e
theorem Step.inIter {It : Addr} (a : Step X frs Cl ι s ι₁ ah₁ s₁) {h' : Heap} (nI : s.heap.get? It = none) (nT : ¬ Tr ι₁ It) (nC : It ≠ Cl) (nF : ¬ Frm frs It) (nb : X.base.get? It = none) (k : ∀ b o, b ≠ It → s₁.heap.get? b = some o → h'.get? b = some o) (tk : Nat) : Step X frs Cl ι s ι₁ ah₁ { s₁ with heap := h', toks := tk } :=
  a.fresh nI k (a.inv.other k nT nb (fun z => absurd z nF) (fun z => absurd z nC)) tk
theorem Step.inLoc {m : Str → Option Value} (a : Step X frs Cl ι s ι₁ ah₁ s₁) {h' : Heap} (nI : s.heap.get? Cl = none) (k : ∀ b o, b ≠ Cl → s₁.heap.get? b = some o → h'.get? b = some o) (hn : h'.Ns Cl m) (tk : Nat) : Step X frs Cl ι s ι₁ ah₁ { s₁ with heap := h', toks := tk } :=
  a.fresh nI k (a.inv.local_ k hn) tk

/-- one turn of a comprehension's loop, behind the drawing of an item -/
theorem comp_turn {cns : List Str} {cenv : Env} {C : Addr} {pe : PySem.Expr} {ifs : List PySem.Expr} {elt cond : Loc → H → R V} {r0 : R V} {out : Nat} {q : Addr × Addr} {l' : Loc} {kk : H → R V} {Fin : Shared → Prop} {Er : Value → Shared → Prop}
    (he : SimAt prog w X frs C cns l' A VR (eval pe cenv) (elt l')) (hc : SimAt prog w X frs C cns l' A RB (forIn ifs true fun c r => if r = true then do let ok ← isTrue c cenv (eval c cenv); pure (ForInStep.yield ok) else pure (ForInStep.yield r)) (fun h => tst (cond l' h)))
    (pt : Pt X frs C cns l' ι ah s) (hq : ι[out]? = some q) (hr : r0 ≠ .fail)
    (er : (match cond l' ah with
      | .ok (.bool true) h1 => (match elt l' h1 with
        | .ok w h2 => (match appendV h2 (.ref out) w with
          | .ok _ h3 => kk h3
          | _ => .fail)
        | _ => .fail)
      | .ok (.bool false) h1 => kk h1
      | _ => .fail) = r0)
    (fin : ∀ ι₂ ah₂ s₂, Step X frs C ι s ι₂ ah₂ s₂ → kk ah₂ = r0 → Fin s₂) :
    wpAny (model prog w) A (forIn ifs true fun c r => if r = true then do let ok ← isTrue c cenv (eval c cenv); pure (ForInStep.yield ok) else pure (ForInStep.yield r))
      (fun ok s₃ => if ok = true then wpAny (model prog w) A (eval pe cenv) (fun x s₄ => wpAny (model prog w) A (call (.builtin "list.append") [.ref q.1, x]) (fun _ s₅ => Fin s₅) Er s₄) Er s₃ else Fin s₃) Er s := by
  have hc0 : tst (cond l' ah) ≠ .fail := fun z => hr (by
    rw [← er]
    cases e : cond l' ah with
    | ok v h =>
      rw [e] at z
      cases v <;> first | rfl | cases z
    | _ => rfl)
  refine wpAny_mono (hc ι ah s pt hc0) (fun ok s₃ h₃ => ?_) fun ex s₃ h₃ => ?_
  · obtain ⟨b, ah₃, ι₃, e3, st3, r3⟩ := h₃
    cases r3
    change tst (cond l' ah) = _ at e3
    have e3' : cond l' ah = .ok (.bool ok) ah₃ := by
      cases e : cond l' ah with
      | ok v h =>
        rw [e] at e3
        cases v <;> cases e3
        rfl
      | _ => rw [e] at e3; cases e3
    rw [e3'] at er
    have pt₃ := pt.step st3
    cases ok with
    | false =>
      simp only [Bool.false_eq_true, if_false]
      exact fin _ _ _ st3 er
    | true =>
      simp only [if_true]
      dsimp only at er
      have he0 : elt l' ah₃ ≠ .fail := fun z => hr (by rw [← er, z])
      refine wpAny_mono (he ι₃ ah₃ s₃ pt₃ he0) (fun x s₄ h₄ => ?_) fun ex s₄ h₄ => ?_
      · obtain ⟨v, ah₄, ι₄, e4, st4, r4⟩ := h₄
        rw [e4] at er
        dsimp only at er
        have pt₄ := pt₃.step st4
        have ha0 : appendV ah₄ (.ref out) v ≠ .fail := fun z => hr (by rw [← er, z])
        refine wpAny_mono (leaf_append pt₄.inv (st4.at (st3.at hq)) r4 ha0) (fun _ s₅ h₅ => ?_) fun _ _ e => e
        obtain ⟨u, ah₅, ι₅, e5, st5, _⟩ := h₅
        rw [e5] at er
        exact fin _ _ _ ((st3.trans st4).trans st5) er
      · obtain ⟨ah₄, ι₄, e4, _⟩ := h₄
        rw [e4] at er
        exact absurd er.symm hr
  · obtain ⟨ah₃, ι₃, e3, _⟩ := h₃
    change tst (cond l' ah) = _ at e3
    exfalso
    refine hr ?_
    rw [← er]
    cases e : cond l' ah with
    | ok v h =>
      rw [e] at e3
      cases v <;> cases e3
    | _ => rfl

theorem comp_core {pe pi : PySem.Expr} {ifs : List PySem.Expr} {two : Bool} {tt : PT} {scope : Scope} {p : Pos} {elt cond : Loc → H → R V} {cns : List Str} {a : Nat} {pa : Addr × Addr} {r0 : R V} {RR : Value → Env → Result → Shared → Prop} {E : Value → Shared → Prop}
    (hcell : ∀ y ∈ scope.names, y.2 ≠ .cell) (hkind : scope.kind = .function)
    (eoc : ∀ C, EnvOk scope cns (compEnv scope C env) C) (hlen : (if two then 1 else 0) < cns.length) (hh : A.handled = none)
    (he : ∀ C l', SimAt prog w X frs C cns l' A VR (eval pe (compEnv scope C env)) (elt l'))
    (hc : ∀ C l', SimAt prog w X frs C cns l' A RB (forIn ifs true fun c r => if r = true then do let ok ← isTrue c (compEnv scope C env) (eval c (compEnv scope C env)); pure (ForInStep.yield ok) else pure (ForInStep.yield r)) (fun h => tst (cond l' h)))
    (pt₁ : Pt X frs Cl ns l ι₁ ah₁ s₁) (hpa : ι₁[a]? = some pa) (hr0 : compN two cond elt a ah₁.length c.fu 0 (ah₁ ++ [.lst []]) = r0) (hn : r0 ≠ .fail)
    (hRR : ∀ D C ι' ah' s' m, s₁.heap.get? D = none → s₁.heap.get? C = none → C ≠ D → r0 = .ok (.ref ah₁.length) ah' → Step X frs C ι₁ s₁ ι' ah' s' → ι'[ah₁.length]? = some (D, D) → s'.heap.Ns C m → RR (.ref D) (compEnv scope C env) (.ok .next) s') :
    wpAny (model prog w) A (pyIter (.ref pa.1)) (fun it s₂ => wpAny (model prog w) A (newList []) (fun acc s₃ => wpAny (model prog w) A (newFunctionEnv scope env.globals [] [] env.qual none .none (some env)) (fun cenv s₄ =>
      codeAny (model prog w) A (.compStart (.ListComp pe [⟨unT cns two tt, pi, ifs, 0⟩] scope p) 0 it acc { cenv with scope := scope }) (RR acc { cenv with scope := scope }) s₄) E s₃) E s₂) E s₁ := by
  refine Classical.byContradiction fun K => ?_
  have hlt : a < ah₁.length := by rw [← pt₁.inv.led.len]; exact (List.getElem?_eq_some_iff.mp hpa).1
  -- the source is a list
  obtain ⟨vs0, hvs0⟩ : ∃ vs, ah₁[a]? = some (.lst vs) := by
    cases hf : c.fu with
    | zero => rw [hf] at hr0; exact absurd hr0.symm hn
    | succ k =>
      rw [hf] at hr0
      dsimp only [compN] at hr0
      rw [List.getElem?_append_left hlt] at hr0
      split at hr0
      · rename_i vs q; exact ⟨vs, q⟩
      · exact absurd hr0.symm hn
  obtain ⟨pa', hpa', e2, hz, cs0, n0, hv0, hg0⟩ := pt₁.inv.led.ofRef hvs0
  rw [hpa] at hpa'; cases hpa'
  refine K (wpAny_pyIter_list (isL hg0) (wpAny_newObj_type (hd := by show ([] : List Value).toArray.size ≤ sizeLine; simp) (wpAny_newFunctionEnv hcell (by intro y hy; simp at hy) (fun h₁ hns₁ hsb₁ => ?_) hkind)))
  clear K
  dsimp only at hns₁ hsb₁ ⊢
  have nIt := fresh_none s₁.heap
  generalize hIt : s₁.heap.objs.size = It at hns₁ hsb₁ nIt ⊢
  generalize hH1 : s₁.heap.push { cls := .type "list_iterator", data := .fields #[.ref pa.1, .int 0 0] } = H1 at hns₁ hsb₁ ⊢
  have hD : H1.objs.size = It + 1 := by rw [← hH1, Heap.size_push, hIt]
  generalize hH2 : H1.push { cls := .type "list", dict := none, data := .seq ([] : List Value).toArray } = H2 at hns₁ hsb₁ ⊢
  have hC : H2.objs.size = It + 2 := by rw [← hH2, Heap.size_push, hD]
  have below : ∀ b o, s₁.heap.get? b = some o → b < It := fun b o e => hIt ▸ Heap.lt_size e
  have old : ∀ b o, s₁.heap.get? b = some o → h₁.get? b = some o := fun b o e => by
    have hb := below b o e
    exact hsb₁.extBut b o (by rw [hC]; exact Nat.ne_of_lt (Nat.lt_add_right 2 hb)) (Heap.get?_push_of_some _ (hH2 ▸ Heap.get?_push_of_some _ (hH1 ▸ Heap.get?_push_of_some _ e)))
  have nD : s₁.heap.get? H1.objs.size = none := by
    cases q : s₁.heap.get? H1.objs.size with
    | none => rfl
    | some o => have := below _ _ q; rw [hD] at this; exact absurd this (Nat.not_lt.mpr (Nat.le_succ _))
  have nC : s₁.heap.get? H2.objs.size = none := by
    cases q : s₁.heap.get? H2.objs.size with
    | none => rfl
    | some o => have := below _ _ q; rw [hC] at this; exact absurd this (Nat.not_lt.mpr (Nat.le_add_right _ _))
  have hit : h₁.IsListIter It pa.1 0 :=
    ⟨_, hsb₁.extBut _ _ (by rw [hC]; exact Nat.ne_of_lt (Nat.lt_add_of_pos_right (by decide))) (Heap.get?_push_of_some _ (hH2 ▸ Heap.get?_push_of_some _ (hH1 ▸ hIt ▸ Heap.get?_push_size _ rfl))), rfl, rfl⟩
  have hacc : h₁.get? H1.objs.size = some (listOf ([] : List Value).toArray 0) := hsb₁.extBut _ _ (by rw [hC, hD]; exact Nat.ne_of_lt (Nat.lt_succ_self _)) (Heap.get?_push_of_some _ (hH2 ▸ Heap.get?_push_size _ rfl))
  have st0 := Step.alloc (s := s₁) (p := (H1.objs.size, H1.objs.size)) (c := .lst []) (h' := h₁) pt₁.inv old nD nD ⟨rfl, by simp [ML], [], 0, trivial, hacc⟩ (s₁.toks + ([] : List (Str × Value)).length)
  obtain ⟨nTI, nFI, nCI, nbI⟩ := pt₁.inv.notFresh nIt
  obtain ⟨nTC, nFC, nCC, nbC⟩ := pt₁.inv.notFresh nC
  have nTI' : ¬ Tr (ι₁ ++ [(H1.objs.size, H1.objs.size)]) It := fun q => by
    rcases Tr.append.mp q with q | ⟨p, hp, q⟩
    · exact nTI q
    · rw [List.mem_singleton] at hp
      subst hp
      have : It = H1.objs.size := by rcases q with q | q <;> exact q
      rw [hD] at this
      exact absurd this (Nat.ne_of_lt (Nat.lt_succ_self _))
  have nTC' : ¬ Tr (ι₁ ++ [(H1.objs.size, H1.objs.size)]) H2.objs.size := fun q => by
    rcases Tr.append.mp q with q | ⟨p, hp, q⟩
    · exact nTC q
    · rw [List.mem_singleton] at hp
      subst hp
      have : H2.objs.size = H1.objs.size := by rcases q with q | q <;> exact q
      rw [hC, hD] at this
      exact absurd this (Nat.ne_of_gt (Nat.lt_succ_self _))
  have hIC : It ≠ H2.objs.size := by rw [hC]; exact Nat.ne_of_lt (Nat.lt_add_of_pos_right (by decide))
  have st1 : Step X frs H2.objs.size ι₁ s₁ (ι₁ ++ [(H1.objs.size, H1.objs.size)]) (ah₁ ++ [.lst []]) { s₁ with heap := h₁, toks := s₁.toks + ([] : List (Str × Value)).length } :=
    ⟨st0.ext, st0.kp, st0.eq, st0.inv.recl nTC' nbC (nsDict hns₁)⟩
  have hout : (ι₁ ++ [(H1.objs.size, H1.objs.size)])[ah₁.length]? = some (H1.objs.size, H1.objs.size) := by rw [← pt₁.inv.led.len]; simp
  have loop := codeAny_compLoop_any (prog := prog) (w := w) (A := A) (elt := pe) (target := unT cns two tt) (iter := pi) (ifs := ifs) (scope := scope) (pos := p) (it := .ref It) (acc := .ref H1.objs.size) (env := compEnv scope H2.objs.size env)
    (R := RR (.ref H1.objs.size) (compEnv scope H2.objs.size env))
    (fun nf s' => ∃ i ι' ah' m, compN two cond elt a ah₁.length nf i ah' = r0 ∧ Step X frs H2.objs.size ι₁ s₁ ι' ah' s' ∧ ι'[ah₁.length]? = some (H1.objs.size, H1.objs.size) ∧ s'.heap.IsListIter It pa.1 i ∧ s'.heap.Ns H2.objs.size m ∧ ¬ Tr ι' It) ?_
  · have start := loop c.fu { s₁ with heap := h₁, toks := s₁.toks + ([] : List (Str × Value)).length } ⟨0, _, _, _, hr0, st1, hout, hit, hns₁, nTI'⟩
    exact codeAny_compStart_list start (wpAny_pyIter_listiter hit start)
  · intro nf s' hi
    refine Classical.byContradiction fun K => ?_
    obtain ⟨i, ι', ah', m, hcN, st', hout', hit', hns', nT'⟩ := hi
    cases nf with
    | zero => exact absurd hcN.symm hn
    | succ nf =>
      have hpa' := st'.at hpa
      cases hcell' : ah'[a]? with
      | none => dsimp only [compN] at hcN; simp only [hcell'] at hcN; exact absurd hcN.symm hn
      | some cell =>
        cases cell with
        | lst vs =>
          obtain ⟨pa2, hpa2, e2', hz', cs, n', hv', hg'⟩ := st'.inv.led.ofRef hcell'
          rw [hpa'] at hpa2; cases hpa2
          dsimp only [compN] at hcN; simp only [hcell'] at hcN
          cases hvi : vs[i]? with
          | none =>
            rw [hvi] at hcN
            dsimp only at hcN
            refine K (wpAny_pyNext_list_end hh hit' (isL hg') ?_ fun h₂ he₂ => ?_)
            · have : vs.length ≤ i := List.getElem?_eq_none_iff.mp hvi
              have : cs.length ≤ i := by rw [hv'.length]; exact this
              simpa using this
            · have sI := st'.inIter nIt nT' hIC nFI nbI he₂ s'.toks
              have hns₂ : h₂.Ns H2.objs.size m := by
                obtain ⟨o, es, ep, ho, r⟩ := hns'
                exact ⟨o, es, ep, he₂ _ _ (Ne.symm hIC) ho, r⟩
              exact hRR _ _ ι' ah' _ m nD nC (by rw [hC, hD]; exact Nat.ne_of_gt (Nat.lt_succ_self _)) hcN.symm sI hout' hns₂
          | some v =>
            rw [hvi] at hcN
            dsimp only at hcN
            obtain ⟨d, hd, vd⟩ := hv'.get _ _ hvi
            cases hb : bindT two ah' v with
            | none => rw [hb] at hcN; exact absurd hcN.symm hn
            | some l' =>
              rw [hb] at hcN
              dsimp only at hcN
              refine K (wpAny_pyNext_list_item hit' (isL hg') (x := d) (by simpa using hd) fun h₂ hit₂ hs₂ => ?_)
              have sI := st'.inIter nIt nT' hIC nFI nbI hs₂.extBut s'.toks
              have hns₂ : h₂.Ns H2.objs.size m := by
                obtain ⟨o, es, ep, ho, r⟩ := hns'
                exact ⟨o, es, ep, hs₂.extBut _ _ (Ne.symm hIC) ho, r⟩
              refine sim_target (s := { s' with heap := h₂ }) hh (eoc _) hlen sI.inv hns₂ hit₂ vd hb fun h₃ tk m₃ k₃ hn₃ hl₃ => ?_
              have sL := sI.inLoc nC k₃ hn₃ tk
              have hit₃ : h₃.IsListIter It pa.1 (i + 1) := by
                obtain ⟨o, ho, r⟩ := hit₂
                exact ⟨o, k₃ _ _ hIC ho, r⟩
              refine comp_turn (cenv := compEnv scope H2.objs.size env) (he _ l') (hc _ l') ⟨sL.inv, m₃, hn₃, hl₃⟩ hout' hn hcN fun ι₄ ah₄ s₄ st4 hk4 => ?_
              exact ⟨nf, Nat.lt_succ_self _, i + 1, ι₄, ah₄, m₃, hk4, sL.trans st4, st4.at hout', iter_kept st4 nT' hit₃, st4.ns sL.inv hn₃, st4.notTr hit₃.choose_spec.1 nT'⟩
        | _ => dsimp only [compN] at hcN; simp only [hcell'] at hcN; exact absurd hcN.symm hn

theorem sim_comp {pe pi : PySem.Expr} {ifs : List PySem.Expr} {two : Bool} {tt : PT} {scope : Scope} {p : Pos} {elt cond : Loc → H → R V} {cns : List Str} {ri : H → R V}
    (hfree : ∀ y ∈ scope.names, y.2 ≠ .free) (hcell : ∀ y ∈ scope.names, y.2 ≠ .cell) (hkind : scope.kind = .function) (hnames : ∀ y ∈ scope.names, y.2 = .local → scope.names.lookup y.1 = some .local)
    (eoc : ∀ C, EnvOk scope cns (compEnv scope C env) C) (hlen : (if two then 1 else 0) < cns.length) (hh : A.handled = none) (hs : ∀ x, foldedSetIterable pi env x = pure x)
    (hi : SimAt prog w X frs Cl ns l A VR (eval pi env) ri)
    (he : ∀ C l', SimAt prog w X frs C cns l' A VR (eval pe (compEnv scope C env)) (elt l'))
    (hc : ∀ C l', SimAt prog w X frs C cns l' A RB (forIn ifs true fun c r => if r = true then do let ok ← isTrue c (compEnv scope C env) (eval c (compEnv scope C env)); pure (ForInStep.yield ok) else pure (ForInStep.yield r)) (fun h => tst (cond l' h))) :
    SimAt prog w X frs Cl ns l A VR (eval (.ListComp pe [⟨unT cns two tt, pi, ifs, 0⟩] scope p) env) (fun h => (ri h).bind fun x h => compV c two cond elt x h) := fun ι ah s pt hnf => by
  refine wpAny_ListComp hfree hkind hnames (hi.use pt hnf fun x ah₁ ι₁ d s₁ e st pt₁ rx hn => ?_) hs
  have e' : ((ri ah).bind fun x h => compV c two cond elt x h) = compV c two cond elt x ah₁ := by rw [e]; rfl
  simp only [e']
  cases x with
  | ref a =>
    obtain ⟨pa, hpa, rfl⟩ := rx
    simp only [compV] at hn ⊢
    generalize hr0 : compN two cond elt a ah₁.length c.fu 0 (ah₁ ++ [.lst []]) = r0 at hn ⊢
    refine comp_core (RR := fun acc cenv r s' => ∃ m, s'.heap.Ns cenv.locals m ∧ ∀ h', Heap.SameBut cenv.locals s'.heap h' →
          match r with | .ok _ => Post VR X frs Cl ι s r0 acc { s' with heap := h' } | .error x => wpAny (model prog w) A (passOn "comprehension.variables-let-go" x cenv) (Post VR X frs Cl ι s r0) (PExc X frs Cl ι s r0) { s' with heap := h' })
      hcell hkind eoc hlen hh he hc pt₁ hpa hr0 hn fun D C ι' ah' s' m nD nC _ hr sI hout hns => ⟨m, hns, fun h₃ hs₃ => ?_⟩
    obtain ⟨nTC, nFC, nCC, nbC⟩ := pt₁.inv.notFresh nC
    have sI' := Step.recl pt₁.inv sI
    have sF := sI'.inIter (It := C) nC sI.inv.sepL nCC nFC nbC hs₃.extBut s'.toks
    exact Post.trans st ⟨.ref ah₁.length, ah', ι', hr, sF, ⟨_, hout, rfl⟩⟩
  | _ => exact absurd rfl hn
end
end Mine
end

section
open PySem PySem.W PyProof.Rows PySem.Calls
set_option maxRecDepth 100000
set_option linter.unusedVariables false
namespace Mine

noncomputable def okG (sc : Scope) (g : Str) : Bool := decide (sc.names.lookup g = some NameKind.globalImplicit)
noncomputable def okSc (sc : Scope) (ns : List Str) : Bool := decide (sc.kind = .function) && (ns.all (fun n => decide (sc.names.lookup n = some NameKind.local) && !(n == ("__debug__" : Str))) && (decide ns.Nodup &&
  sc.names.all (fun y => decide (y.2 ≠ NameKind.free) && (decide (y.2 ≠ NameKind.cell) && (decide (y.2 ≠ NameKind.local) || decide (sc.names.lookup y.1 = some NameKind.local))))))
noncomputable def baseOk : E → Bool
  | .call _ .nil => false
  | _ => true
noncomputable def okF (sc : Scope) (f : Nat) : Bool := decide (1 ≤ f) && (decide (f < 29) && (okG sc (fnS f)))
noncomputable def lineOk (t : PT) : Bool := (t.k 0).p.endLine == t.p.line

mutual
noncomputable def okE (sc : Scope) (ns : List Str) : E → PT → Bool
  | .none, _ => true
  | .bool _, _ => true
  | .int _, _ => true
  | .str, _ => true
  | .var _, _ => true
  | .gint, _ => okG sc "NO_MOVE"
  | .neg1, _ => true
  | .lst es, t => okEs sc ns es t.ks && decide (es.len ≤ 1000)
  | .tup es, t => okEs sc ns es t.ks && decide (es.len ≤ 1000)
  | .bin _ a b, t => okE sc ns a (t.k 0) && okE sc ns b (t.k 1)
  | .cmp _ a b, t => okE sc ns a (t.k 0) && okE sc ns b (t.k 1)
  | .cmp2 _ _ a b d, t => okE sc ns a (t.k 0) && (okE sc ns b (t.k 1) && okE sc ns d (t.k 2))
  | .band es, t => okEs sc ns es t.ks && decide (0 < es.len)
  | .bor es, t => okEs sc ns es t.ks && decide (0 < es.len)
  | .not a, t => okE sc ns a (t.k 0)
  | .idx a i, t => okE sc ns a (t.k 0) && okE sc ns i (t.k 1)
  | .rev a, t => okE sc ns a (t.k 0)
  | .cut a n, t => okE sc ns a (t.k 0) && okE sc ns n ((t.k 1).k 1)
  | .attr a _, t => okE sc ns a (t.k 0) && baseOk a
  | .call f es, t => okEs sc ns es (t.ks.drop 1) && okF sc f
  | .new a b, t => okE sc ns a (t.k 1) && (okE sc ns b (t.k 2) && okG sc "GameNode")
  | .len a, t => okE sc ns a (t.k 1) && okG sc "len"
  | .max2 a b, t => okE sc ns a (t.k 1) && (okE sc ns b (t.k 2) && okG sc "max")
  | .max1 a, t => okE sc ns a (t.k 1) && okG sc "max"
  | .divmod a b, t => okE sc ns a (t.k 1) && (okE sc ns b (t.k 2) && okG sc "divmod")
  | .list a, t => okE sc ns a (t.k 1) && okG sc "list"
  | .append a b, t => okE sc ns a ((t.k 0).k 0) && (okE sc ns b (t.k 1) && (baseOk a && lineOk t))
  | .extend a b, t => okE sc ns a ((t.k 0).k 0) && (okE sc ns b (t.k 1) && (baseOk a && lineOk t))
  | .pop a, t => okE sc ns a ((t.k 0).k 0) && (baseOk a && lineOk t)
  | .popAt a i, t => okE sc ns a ((t.k 0).k 0) && (okE sc ns i (t.k 1) && (baseOk a && lineOk t))
  | .insert a i b, t => okE sc ns a ((t.k 0).k 0) && (okE sc ns i (t.k 1) && (okE sc ns b (t.k 2) && (baseOk a && lineOk t)))
  | .count a b, t => okE sc ns a ((t.k 0).k 0) && (okE sc ns b (t.k 1) && (baseOk a && lineOk t))
  | .comp e two s, t => okE t.scope (cnames t.scope) e (t.k 0) && (okE sc ns s (t.k 2) && (okSc t.scope (cnames t.scope) && decide ((if two then 1 else 0) < (cnames t.scope).length)))
  | .compIf e two s d, t => okE t.scope (cnames t.scope) e (t.k 0) && (okE sc ns s (t.k 2) && (okE t.scope (cnames t.scope) d (t.k 3) && (okSc t.scope (cnames t.scope) && decide ((if two then 1 else 0) < (cnames t.scope).length))))
noncomputable def okEs (sc : Scope) (ns : List Str) : Es → List PT → Bool
  | .nil, _ => true
  | .cons e es, ts => okE sc ns e (ts.getD 0 default) && okEs sc ns es (ts.drop 1)
end

theorem plain1_un (ns : List Str) (env : Env) : ∀ (e : E) (t : PT), Plain1 (unE ns e t) env := fun e t => by
  cases e <;> intro rest <;> rfl
theorem noSl_un (ns : List Str) : ∀ (e : E) (t : PT), NoSl (unE ns e t) := fun e t => by
  cases e <;> intro o i <;> rfl
theorem behind_un (ns : List Str) (op : CmpOp) : ∀ (e : E) (t : PT), behindInMarks op (unE ns e t) = false := fun e t => by
  cases e <;> rfl
theorem folded_un (ns : List Str) (env : Env) : ∀ (e : E) (t : PT) (x : Value), foldedSetIterable (unE ns e t) env x = pure x := fun e t x => by
  cases e <;> rfl
theorem abase_un (ns : List Str) (env : Env) (name : Str) : ∀ (e : E) (t : PT), baseOk e = true → attributeBase (unE ns e t) name env (eval (unE ns e t) env) = eval (unE ns e t) env := fun e t h => by
  cases e with
  | call f es => cases es with
    | nil => cases h
    | cons a b => rfl
  | _ => rfl

noncomputable def tstDflt : E → Bool
  | .not _ | .band _ | .bor _ | .cmp .. | .cmp2 .. => false
  | _ => true
theorem isT_un (ns : List Str) (env : Env) : ∀ (e : E) (t : PT), tstDflt e = true → isTrue (unE ns e t) env (eval (unE ns e t) env) = (do let v ← eval (unE ns e t) env; standAt (unE ns e t).pos; holding [v] (truthy v)) := fun e t h => by
  cases e <;> first | (cases h; done) | rfl

theorem okSc_env {sc : Scope} {ns : List Str} {env : Env} {C : Addr} (h : okSc sc ns = true) (hg : env.globals = mainGlobals) (hb : env.builtins = builtinsNs) (hs : env.scope = sc) (hl : env.locals = C) : EnvOk sc ns env C := by
  unfold okSc at h
  simp only [Bool.and_eq_true, decide_eq_true_eq, List.all_eq_true, Bool.not_eq_true'] at h
  obtain ⟨h1, h2, h3, h4⟩ := h
  exact ⟨by rw [hs]; exact h1, hs, hl, hg, hb, fun n hn => ⟨by unfold Env.kindOf; rw [hs]; exact (h2 n hn).1, (h2 n hn).2⟩, h3⟩
theorem okSc_names {sc : Scope} {ns : List Str} (h : okSc sc ns = true) : sc.kind = .function ∧ (∀ y ∈ sc.names, y.2 ≠ .free) ∧ (∀ y ∈ sc.names, y.2 ≠ .cell) ∧ (∀ y ∈ sc.names, y.2 = .local → sc.names.lookup y.1 = some .local) := by
  unfold okSc at h
  simp only [Bool.and_eq_true, decide_eq_true_eq, List.all_eq_true, Bool.or_eq_true] at h
  obtain ⟨h1, h2, h3, h4⟩ := h
  refine ⟨h1, fun y hy => (h4 y hy).1, fun y hy => (h4 y hy).2.1, fun y hy e => ?_⟩
  rcases (h4 y hy).2.2 with q | q
  · exact absurd e q
  · exact q
theorem okG_env {sc : Scope} {ns : List Str} {env : Env} {C : Addr} {g : Str} (eo : EnvOk sc ns env C) (h : okG sc g = true) : env.kindOf g = some .globalImplicit := by
  unfold Env.kindOf
  rw [eo.scope]
  simpa [okG] using h
theorem fn_notdebug : ∀ f, f < 29 → (fnS f == ("__debug__" : Str)) = false := by decide +kernel

structure Ground (prog : Program) (w : World) (X : St) (c : Ctx) (n : Nat) : Prop where
  O : StOk X
  Y : ClsOk X
  G : GlobOk X
  U : FunOk X
  k : CallOk prog w X c n

section
variable {prog : Program} {w : World} {X : St} {frs : List Env} {A : Around} {c : Ctx} {n : Nat}

theorem mkE {Cl : Addr} {ns : List Str} {l : Loc} {env : Env} {e : E} {t : PT} (h : SimAt prog w X frs Cl ns l A VR (eval (unE ns e t) env) (evE c e l)) (d : tstDflt e = true) : ESim prog w X frs Cl ns l A env c e t :=
  ⟨h, sim_test h (isT_un ns env e t d), plain1_un ns env e t⟩

theorem sim_cond1 {C : Addr} {cns : List Str} {l' : Loc} {cenv : Env} {pc : PySem.Expr} {rc : H → R V} (h : SimAt prog w X frs C cns l' A RB (isTrue pc cenv (eval pc cenv)) (fun h => tst (rc h))) :
    SimAt prog w X frs C cns l' A RB (forIn [pc] true fun c r => if r = true then do let ok ← isTrue c cenv (eval c cenv); pure (ForInStep.yield ok) else pure (ForInStep.yield r)) (fun h => tst (rc h)) := fun ι ah s pt hnf => by
  rw [List.forIn_cons]
  simp only [if_true]
  refine wpAny_bind (wpAny_bind (wpAny_mono (h ι ah s pt hnf) (fun b s₁ h₁ => wpAny_pure ?_) fun _ _ e => e))
  dsimp only
  rw [List.forIn_nil]
  exact wpAny_pure h₁
theorem sim_cond0 {C : Addr} {cns : List Str} {l' : Loc} {cenv : Env} :
    SimAt prog w X frs C cns l' A RB (forIn [] true fun c r => if r = true then do let ok ← isTrue c cenv (eval c cenv); pure (ForInStep.yield ok) else pure (ForInStep.yield r)) (fun h => tst (.ok (.bool true) h)) := fun ι ah s pt hnf => by
  rw [List.forIn_nil]
  exact wpAny_pure (sim_here pt rfl)

mutual
theorem sim_E (gr : Ground prog w X c n) (ao : AOk A frs n) : ∀ (e : E) (t : PT) {sc : Scope} {ns : List Str} {env : Env} {Cl : Addr} (l : Loc), EnvOk sc ns env Cl → okE sc ns e t = true → ESim prog w X frs Cl ns l A env c e t
  | .none, t, sc, ns, env, Cl, l, eo, ok => mkE sim_none rfl
  | .bool b, t, sc, ns, env, Cl, l, eo, ok => mkE sim_bool rfl
  | .int i, t, sc, ns, env, Cl, l, eo, ok => mkE sim_int rfl
  | .str, t, sc, ns, env, Cl, l, eo, ok => mkE sim_str rfl
  | .var x, t, sc, ns, env, Cl, l, eo, ok => mkE (sim_var eo) rfl
  | .gint, t, sc, ns, env, Cl, l, eo, ok => mkE (sim_gint gr.O gr.G eo (okG_env eo ok)) rfl
  | .neg1, t, sc, ns, env, Cl, l, eo, ok => mkE sim_neg1 rfl
  | .lst es, t, sc, ns, env, Cl, l, eo, ok => by
    dsimp only [okE] at ok; simp only [Bool.and_eq_true, decide_eq_true_eq] at ok
    exact mkE (sim_lst (sim_Es gr ao es t.ks l eo ok.1) fun h vs h' e => by rw [evEs_len e]; exact Nat.le_trans ok.2 (by decide)) rfl
  | .tup es, t, sc, ns, env, Cl, l, eo, ok => by
    dsimp only [okE] at ok; simp only [Bool.and_eq_true, decide_eq_true_eq] at ok
    exact mkE (sim_tup (sim_Es gr ao es t.ks l eo ok.1) fun h vs h' e => by rw [evEs_len e]; exact Nat.le_trans ok.2 (by decide)) rfl
  | .bin op a b, t, sc, ns, env, Cl, l, eo, ok => by
    dsimp only [okE] at ok; simp only [Bool.and_eq_true] at ok
    exact mkE (sim_bin (sim_E gr ao a _ l eo ok.1).1 (sim_E gr ao b _ l eo ok.2).1) rfl
  | .cmp op a b, t, sc, ns, env, Cl, l, eo, ok => by
    dsimp only [okE] at ok; simp only [Bool.and_eq_true] at ok
    have hu : A.units + 20 < cLine := by have := ao.un; show A.units + 20 < 9900; lia
    exact ⟨sim_cmp (behind_un ns _ b _) hu (sim_E gr ao a _ l eo ok.1).1 (sim_E gr ao b _ l eo ok.2).1, sim_test_cmp (behind_un ns _ b _) hu (sim_E gr ao a _ l eo ok.1).1 (sim_E gr ao b _ l eo ok.2).1, plain1_un ns env (.cmp op a b) t⟩
  | .cmp2 o1 o2 a b d, t, sc, ns, env, Cl, l, eo, ok => by
    dsimp only [okE] at ok; simp only [Bool.and_eq_true] at ok
    have hu : A.units + 20 < cLine := by have := ao.un; show A.units + 20 < 9900; lia
    exact ⟨sim_cmp2 (behind_un ns _ d _) hu (sim_E gr ao a _ l eo ok.1).1 (sim_E gr ao b _ l eo ok.2.1).1 (sim_E gr ao d _ l eo ok.2.2).1, sim_test_cmp2 (behind_un ns _ d _) hu (sim_E gr ao a _ l eo ok.1).1 (sim_E gr ao b _ l eo ok.2.1).1 (sim_E gr ao d _ l eo ok.2.2).1, plain1_un ns env (.cmp2 o1 o2 a b d) t⟩
  | .band es, t, sc, ns, env, Cl, l, eo, ok => by
    dsimp only [okE] at ok; simp only [Bool.and_eq_true, decide_eq_true_eq] at ok
    have h := sim_Es gr ao es t.ks l eo ok.1
    exact ⟨sim_boolAnd h ok.2, fun ι ah s pt hnf => wpAny_isTrue_BoolOp (sim_allAnd h ι ah s pt hnf), plain1_un ns env (.band es) t⟩
  | .bor es, t, sc, ns, env, Cl, l, eo, ok => by
    dsimp only [okE] at ok; simp only [Bool.and_eq_true, decide_eq_true_eq] at ok
    have h := sim_Es gr ao es t.ks l eo ok.1
    exact ⟨sim_boolOr h ok.2, fun ι ah s pt hnf => wpAny_isTrue_BoolOp (sim_allOr h ι ah s pt hnf), plain1_un ns env (.bor es) t⟩
  | .not a, t, sc, ns, env, Cl, l, eo, ok => by
    dsimp only [okE] at ok
    have h := sim_E gr ao a _ l eo ok
    exact ⟨sim_not h.1, sim_test_not h.2.1, plain1_un ns env (.not a) t⟩
  | .idx a i, t, sc, ns, env, Cl, l, eo, ok => by
    dsimp only [okE] at ok; simp only [Bool.and_eq_true] at ok
    exact mkE (sim_idx (noSl_un ns i _) (sim_E gr ao a _ l eo ok.1).1 (sim_E gr ao i _ l eo ok.2).1) rfl
  | .rev a, t, sc, ns, env, Cl, l, eo, ok => by
    dsimp only [okE] at ok
    exact mkE (sim_rev (sim_E gr ao a _ l eo ok).1) rfl
  | .cut a m, t, sc, ns, env, Cl, l, eo, ok => by
    dsimp only [okE] at ok; simp only [Bool.and_eq_true] at ok
    exact mkE (sim_cut (sim_E gr ao a _ l eo ok.1).1 (sim_E gr ao m _ l eo ok.2).1) rfl
  | .attr a f, t, sc, ns, env, Cl, l, eo, ok => by
    dsimp only [okE] at ok; simp only [Bool.and_eq_true] at ok
    exact mkE (sim_attr gr.O gr.Y (abase_un ns env _ a _ ok.2) (sim_E gr ao a _ l eo ok.1).1) rfl
  | .call f es, t, sc, ns, env, Cl, l, eo, ok => by
    dsimp only [okE] at ok; simp only [okF, Bool.and_eq_true, decide_eq_true_eq] at ok
    exact mkE (sim_call gr.O gr.G gr.U eo gr.k ao ⟨ok.2.1, ok.2.2.1⟩ (okG_env eo ok.2.2.2) (fn_notdebug f ok.2.2.1) (sim_Es gr ao es _ l eo ok.1)) rfl
  | .new a b, t, sc, ns, env, Cl, l, eo, ok => by
    dsimp only [okE] at ok; simp only [Bool.and_eq_true] at ok
    exact mkE (sim_new gr.O gr.G gr.U eo gr.k ao (okG_env eo ok.2.2) (plain1_un ns env a _) (plain1_un ns env b _) (sim_E gr ao a _ l eo ok.1).1 (sim_E gr ao b _ l eo ok.2.1).1) rfl
  | .len a, t, sc, ns, env, Cl, l, eo, ok => by
    dsimp only [okE] at ok; simp only [Bool.and_eq_true] at ok
    exact mkE (sim_bi1 gr.O eo gr.G.len (okG_env eo ok.2) (by decide +kernel) (plain1_un ns env a _) (sim_E gr ao a _ l eo ok.1).1 fun x ah ι c s I hv hn => leaf_len I hv hn) rfl
  | .max2 a b, t, sc, ns, env, Cl, l, eo, ok => by
    dsimp only [okE] at ok; simp only [Bool.and_eq_true] at ok
    exact mkE (sim_bi2 gr.O eo gr.G.max (okG_env eo ok.2.2) (by decide +kernel) (plain1_un ns env a _) (plain1_un ns env b _) (sim_E gr ao a _ l eo ok.1).1 (sim_E gr ao b _ l eo ok.2.1).1 fun x y ah ι c d s I hv hw hn => leaf_max2 ao.hd I hv hw hn) rfl
  | .max1 a, t, sc, ns, env, Cl, l, eo, ok => by
    dsimp only [okE] at ok; simp only [Bool.and_eq_true] at ok
    exact mkE (sim_bi1 gr.O eo gr.G.max (okG_env eo ok.2) (by decide +kernel) (plain1_un ns env a _) (sim_E gr ao a _ l eo ok.1).1 fun x ah ι c s I hv hn => leaf_max1 ao.hd I hv hn) rfl
  | .divmod a b, t, sc, ns, env, Cl, l, eo, ok => by
    dsimp only [okE] at ok; simp only [Bool.and_eq_true] at ok
    exact mkE (sim_bi2 gr.O eo gr.G.divmod (okG_env eo ok.2.2) (by decide +kernel) (plain1_un ns env a _) (plain1_un ns env b _) (sim_E gr ao a _ l eo ok.1).1 (sim_E gr ao b _ l eo ok.2.1).1 fun x y ah ι c d s I hv hw hn => leaf_divmod I hv hw hn) rfl
  | .list a, t, sc, ns, env, Cl, l, eo, ok => by
    dsimp only [okE] at ok; simp only [Bool.and_eq_true] at ok
    exact mkE (sim_list gr.O eo gr.G.list (okG_env eo ok.2) (plain1_un ns env a _) (sim_E gr ao a _ l eo ok.1).1) rfl
  | .append a b, t, sc, ns, env, Cl, l, eo, ok => by
    dsimp only [okE] at ok; simp only [Bool.and_eq_true] at ok
    exact mkE (sim_append (abase_un ns env _ a _ ok.2.2.1) ok.2.2.2 (plain1_un ns env b _) (sim_E gr ao a _ l eo ok.1).1 (sim_E gr ao b _ l eo ok.2.1).1) rfl
  | .extend a b, t, sc, ns, env, Cl, l, eo, ok => by
    dsimp only [okE] at ok; simp only [Bool.and_eq_true] at ok
    exact mkE (sim_extend (abase_un ns env _ a _ ok.2.2.1) ok.2.2.2 (plain1_un ns env b _) (sim_E gr ao a _ l eo ok.1).1 (sim_E gr ao b _ l eo ok.2.1).1) rfl
  | .pop a, t, sc, ns, env, Cl, l, eo, ok => by
    dsimp only [okE] at ok; simp only [Bool.and_eq_true] at ok
    exact mkE (sim_pop (abase_un ns env _ a _ ok.2.1) ok.2.2 (sim_E gr ao a _ l eo ok.1).1) rfl
  | .popAt a b, t, sc, ns, env, Cl, l, eo, ok => by
    dsimp only [okE] at ok; simp only [Bool.and_eq_true] at ok
    exact mkE (sim_popAt (abase_un ns env _ a _ ok.2.2.1) ok.2.2.2 (plain1_un ns env b _) (sim_E gr ao a _ l eo ok.1).1 (sim_E gr ao b _ l eo ok.2.1).1) rfl
  | .insert a i b, t, sc, ns, env, Cl, l, eo, ok => by
    dsimp only [okE] at ok; simp only [Bool.and_eq_true] at ok
    exact mkE (sim_insert (abase_un ns env _ a _ ok.2.2.2.1) ok.2.2.2.2 (plain1_un ns env i _) (plain1_un ns env b _) (sim_E gr ao a _ l eo ok.1).1 (sim_E gr ao i _ l eo ok.2.1).1 (sim_E gr ao b _ l eo ok.2.2.1).1) rfl
  | .count a b, t, sc, ns, env, Cl, l, eo, ok => by
    dsimp only [okE] at ok; simp only [Bool.and_eq_true] at ok
    exact mkE (sim_count (abase_un ns env _ a _ ok.2.2.1) ok.2.2.2 (plain1_un ns env b _) (sim_E gr ao a _ l eo ok.1).1 (sim_E gr ao b _ l eo ok.2.1).1) rfl
  | .comp e two s, t, sc, ns, env, Cl, l, eo, ok => by
    dsimp only [okE] at ok; simp only [Bool.and_eq_true, decide_eq_true_eq] at ok
    obtain ⟨o1, o2, o3, o4⟩ := ok
    obtain ⟨h1, h2, h3, h4⟩ := okSc_names o3
    have eoc : ∀ C, EnvOk t.scope (cnames t.scope) (compEnv t.scope C env) C := fun C => okSc_env o3 eo.glob eo.bi rfl rfl
    exact mkE (sim_comp h2 h3 h1 h4 eoc o4 ao.hd (folded_un ns env s _) (sim_E gr ao s _ l eo o2).1 (fun C l' => (sim_E gr ao e _ l' (eoc C) o1).1) (fun C l' => sim_cond0)) rfl
  | .compIf e two s d, t, sc, ns, env, Cl, l, eo, ok => by
    dsimp only [okE] at ok; simp only [Bool.and_eq_true, decide_eq_true_eq] at ok
    obtain ⟨o1, o2, o5, o3, o4⟩ := ok
    obtain ⟨h1, h2, h3, h4⟩ := okSc_names o3
    have eoc : ∀ C, EnvOk t.scope (cnames t.scope) (compEnv t.scope C env) C := fun C => okSc_env o3 eo.glob eo.bi rfl rfl
    exact mkE (sim_comp h2 h3 h1 h4 eoc o4 ao.hd (folded_un ns env s _) (sim_E gr ao s _ l eo o2).1 (fun C l' => (sim_E gr ao e _ l' (eoc C) o1).1) (fun C l' => sim_cond1 (sim_E gr ao d _ l' (eoc C) o5).2.1)) rfl
theorem sim_Es (gr : Ground prog w X c n) (ao : AOk A frs n) : ∀ (es : Es) (ts : List PT) {sc : Scope} {ns : List Str} {env : Env} {Cl : Addr} (l : Loc), EnvOk sc ns env Cl → okEs sc ns es ts = true → AllSim prog w X frs Cl ns l A env c es ts
  | .nil, ts, sc, ns, env, Cl, l, eo, ok => trivial
  | .cons e es, ts, sc, ns, env, Cl, l, eo, ok => by
    dsimp only [okEs] at ok; simp only [Bool.and_eq_true] at ok
    exact ⟨sim_E gr ao e _ l eo ok.1, sim_Es gr ao es _ l eo ok.2⟩
end
end
end Mine
end

section
open PySem PySem.W PyProof.Rows PySem.Calls
set_option maxRecDepth 100000
set_option linter.unusedVariables false
namespace Mine

noncomputable def PostS (X : St) (frs : List Env) (Cl : Addr) (ns : List Str) (ι : Iota) (s : Shared) (f : F) (fl : Flow) (s' : Shared) : Prop := match f with
  | .nxt l' ah' => fl = .next ∧ ∃ ι', StepL X frs Cl ι s ι' ah' s' ∧ Pt X frs Cl ns l' ι' ah' s'
  | .ret v ah' => ∃ ι' c, fl = .ret c ∧ StepL X frs Cl ι s ι' ah' s' ∧ VR ι' v c
  | _ => False
noncomputable def ExcS (rz : Bool) (X : St) (frs : List Env) (Cl : Addr) (ns : List Str) (ι : Iota) (s : Shared) (f : F) (e : Value) (s' : Shared) : Prop :=
  ∃ l' ah' ι', f = .exc l' ah' ∧ StepL X frs Cl ι s ι' ah' s' ∧ Pt X frs Cl ns l' ι' ah' s' ∧ (ExcObj X ι' s.heap e s'.heap ∨ (rz = true ∧ FreshExc X ι' s.heap e s'.heap))
noncomputable def SimS (rz : Bool) (prog : Program) (w : World) (X : St) (frs : List Env) (Cl : Addr) (ns : List Str) (l : Loc) (A : Around) (t : Sem Flow) (r : H → F) : Prop :=
  ∀ ι ah s, Pt X frs Cl ns l ι ah s → r ah ≠ .fail → wpAny (model prog w) A t (PostS X frs Cl ns ι s (r ah)) (ExcS rz X frs Cl ns ι s (r ah)) s

section
variable {prog : Program} {w : World} {X : St} {frs : List Env} {Cl : Addr} {ns : List Str} {l : Loc} {A : Around} {env : Env} {sc : Scope} {c : Ctx} {n : Nat} {ι ι₁ : Iota} {ah ah₁ : H} {s s₁ : Shared} {rz : Bool}

theorem PostS.trans {f : F} {fl : Flow} {s' : Shared} (a : StepL X frs Cl ι s ι₁ ah₁ s₁) (h : PostS X frs Cl ns ι₁ s₁ f fl s') : PostS X frs Cl ns ι s f fl s' := by
  cases f with
  | nxt l' ah' => obtain ⟨e, ι', st, pt⟩ := h; exact ⟨e, ι', a.trans st, pt⟩
  | ret v ah' => obtain ⟨ι', c, e, st, r⟩ := h; exact ⟨ι', c, e, a.trans st, r⟩
  | _ => exact h
theorem ExcS.trans {f : F} {e : Value} {s' : Shared} (a : StepL X frs Cl ι s ι₁ ah₁ s₁) (h : ExcS rz X frs Cl ns ι₁ s₁ f e s') : ExcS rz X frs Cl ns ι s f e s' := by
  obtain ⟨l', ah', ι', e', st, pt, x⟩ := h
  refine ⟨l', ah', ι', e', a.trans st, pt, ?_⟩
  rcases x with ⟨x, T, a0, h1, h2, h3, h4⟩ | ⟨hr, x, a0, oe, vs, h1, h2, h3⟩
  · exact .inl ⟨x, T, a0, h1, a.freshBack h2, a.freshBack h3, h4⟩
  · exact .inr ⟨hr, x, a0, oe, vs, h1, a.freshBack h2, h3⟩
theorem ws_lift {t : Sem Flow} {f : F} (st : StepL X frs Cl ι s ι₁ ah₁ s₁) (h : wpAny (model prog w) A t (PostS X frs Cl ns ι₁ s₁ f) (ExcS rz X frs Cl ns ι₁ s₁ f) s₁) : wpAny (model prog w) A t (PostS X frs Cl ns ι s f) (ExcS rz X frs Cl ns ι s f) s₁ :=
  wpAny_mono h (fun _ _ q => PostS.trans st q) fun _ _ q => ExcS.trans st q

/-- an expression in a statement -/
theorem SimAt.stm {α γ : Type} {Ra : Iota → α → γ → Prop} {t : Sem γ} {ra : H → R α} {k : α → H → F} {g : R α → F} {P : γ → Shared → Prop}
    (hg : ∀ v h, g (.ok v h) = k v h) (hge : ∀ h, g (.exc h) = .exc l h) (hgf : g .fail = .fail)
    (h : SimAt prog w X frs Cl ns l A Ra t ra) (pt : Pt X frs Cl ns l ι ah s) (hnf : g (ra ah) ≠ .fail)
    (kk : ∀ v ah₁ ι₁ c s₁, g (ra ah) = k v ah₁ → Step X frs Cl ι s ι₁ ah₁ s₁ → Pt X frs Cl ns l ι₁ ah₁ s₁ → Ra ι₁ v c → k v ah₁ ≠ .fail → P c s₁) :
    wpAny (model prog w) A t P (ExcS rz X frs Cl ns ι s (g (ra ah))) s := by
  have hra : ra ah ≠ .fail := fun e => hnf (by rw [e, hgf])
  refine wpAny_mono (h ι ah s pt hra) (fun c s₁ h₁ => ?_) fun ex s₁ h₁ => ?_
  · obtain ⟨v, ah₁, ι₁, e, st, rel⟩ := h₁
    have q : g (ra ah) = k v ah₁ := by rw [e, hg]
    exact kk v ah₁ ι₁ c s₁ q st (pt.step st) rel (by rw [← q]; exact hnf)
  · obtain ⟨ah₁, ι₁, e, st, x⟩ := h₁
    exact ⟨l, ah₁, ι₁, by rw [e, hge], st.toL, pt.step st, .inl x⟩
theorem store_one {d : Value} {x : Nat} {m : Str → Option Value} {Q : Unit → Shared → Prop} {E : Value → Shared → Prop} (eo : EnvOk sc ns env Cl) (hx : x < ns.length) (hn : s.heap.Ns Cl m)
    (h : ∀ h' tk, (∀ b o, b ≠ Cl → s.heap.get? b = some o → h'.get? b = some o) → h'.Ns Cl (fun y => if y = nm ns x then some d else m y) → Q () { s with heap := h', toks := tk }) :
    wpAny (model prog w) A (storeName env (nm ns x) d) Q E s :=
  wpAny_storeName_local (eo.vars _ (nm_mem hx)).1 (eo.loc ▸ hn) (fun h' hn' hs' => h h' _ (fun b o nb e => hs'.extBut b o (by rw [eo.loc]; exact nb) e) (eo.loc ▸ hn')) (notClass eo)

/-- the locals are written: the step and the point behind it -/
theorem stored {h' : Heap} {tk : Nat} {m' : Str → Option Value} {l' : Loc} (a : StepL X frs Cl ι s ι₁ ah₁ s₁) (k : ∀ b o, b ≠ Cl → s₁.heap.get? b = some o → h'.get? b = some o) (hn : h'.Ns Cl m') (hl : LocR ι₁ ns l' m') :
    StepL X frs Cl ι s ι₁ ah₁ { s₁ with heap := h', toks := tk } ∧ Pt X frs Cl ns l' ι₁ ah₁ { s₁ with heap := h', toks := tk } :=
  have I := a.inv.local_ k hn
  ⟨a.write k I tk, I, m', hn, hl⟩

noncomputable def notComp : E → Bool
  | .comp .. | .compIf .. => false
  | _ => true
theorem swaps_un (ns : List Str) (env : Env) (tgt : Option PySem.Expr) (line : Nat) : ∀ (e : E) (t : PT), notComp e = true → swapsWith (unE ns e t) tgt line env = pure false := fun e t h => by
  cases e <;> first | (cases h; done) | rfl
noncomputable def notTup : E → Bool
  | .tup _ => false
  | _ => true
theorem swapped_un (ns : List Str) (env : Env) (tt : List PySem.Expr) (k : Nat) (p : Pos) : ∀ (e : E) (t : PT), notTup e = true → swappedStores [.Tuple tt k p] (unE ns e t) env = pure none := fun e t h => by
  cases e <;> first | (cases h; done) | rfl
theorem swapped_attr (env : Env) (a : PySem.Expr) (x : Str) (p : Pos) (v : PySem.Expr) : swappedStores [.Attribute a x p] v env = pure none := by
  unfold swappedStores; rfl
theorem swapped_sub (env : Env) (a i : PySem.Expr) (p : Pos) (v : PySem.Expr) : swappedStores [.Subscript a i p] v env = pure none := by
  unfold swappedStores; rfl

theorem sim_assign {pe : PySem.Expr} {ra : H → R V} {x : Nat} {p p' : Pos} (eo : EnvOk sc ns env Cl) (hx : x < ns.length) (hs : swapsWith pe (some (.Name (nm ns x) p')) p.line env = pure false) (ha : SimAt prog w X frs Cl ns l A VR (eval pe env) ra) :
    SimS rz prog w X frs Cl ns l A (exec (.Assign [.Name (nm ns x) p'] pe p) env) (fun h => toF l (ra h) fun v h => .nxt (l.set x v) h) := fun ι ah s pt hnf => by
  refine PySem.wpAny_Assign_Name (ha.stm (g := fun r => toF l r fun v h => .nxt (l.set x v) h) (fun _ _ => rfl) (fun _ => rfl) rfl pt hnf fun v ah₁ ι₁ d s₁ e st pt₁ rv hn => ?_) hs
  obtain ⟨I₁, m, hns, hl⟩ := pt₁
  refine store_one eo hx hns fun h' tk k hn' => ?_
  dsimp only at e ⊢
  rw [e]
  obtain ⟨a, b⟩ := stored (tk := tk) st.toL k hn' (locR_one eo.nd hx rv hl)
  exact ⟨rfl, ι₁, a, b⟩

theorem sim_assign2 {pe : PySem.Expr} {ra : H → R V} {x y : Nat} {p p0 p1 p2 : Pos} (hh : A.handled = none) (eo : EnvOk sc ns env Cl) (hx : x < ns.length) (hy : y < ns.length) (hs : ∀ tgt line, swapsWith pe tgt line env = pure false) (hw : swappedStores [.Tuple [.Name (nm ns x) p1, .Name (nm ns y) p2] 0 p0] pe env = pure none) (ha : SimAt prog w X frs Cl ns l A VR (eval pe env) ra) :
    SimS rz prog w X frs Cl ns l A (exec (.Assign [.Tuple [.Name (nm ns x) p1, .Name (nm ns y) p2] 0 p0] pe p) env) (fun h => toF l (ra h) fun v h => match unpair h v with
      | some (a, b) => .nxt ((l.set x a).set y b) h
      | Option.none => .fail) := fun ι ah s pt hnf => by
  refine wpAny_Assign_stores (ha.stm (k := fun v h => match unpair h v with
      | some (a, b) => F.nxt ((l.set x a).set y b) h
      | Option.none => .fail) (g := fun r => toF l r fun v h => match unpair h v with
      | some (a, b) => .nxt ((l.set x a).set y b) h
      | Option.none => .fail) (fun _ _ => rfl) (fun _ => rfl) rfl pt hnf fun v ah₁ ι₁ d s₁ e st pt₁ rv hn => ?_) (show swapsWithSole [_] pe p.line env = _ from hs (some (.Tuple [.Name (nm ns x) p1, .Name (nm ns y) p2] 0 p0)) p.line) hw
  dsimp only at e hn ⊢
  rw [e]
  obtain ⟨I₁, m, hns, hl⟩ := pt₁
  cases q : unpair ah₁ v with
  | none => rw [q] at hn; exact absurd rfl hn
  | some ab =>
    obtain ⟨a, b⟩ := ab
    show wpAny _ _ (assign (.Tuple [.Name (nm ns x) p1, .Name (nm ns y) p2] 0 p0) env d) _ _ _
    refine assign_two hh eo hx hy I₁ hns hl rv q fun h' tk m' k hn' hl' => ?_
    obtain ⟨a, b⟩ := stored (tk := tk) st.toL k hn' hl'
    exact ⟨rfl, ι₁, a, b⟩

theorem sim_setAttr {pe pa : PySem.Expr} {rv ra : H → R V} {f : Fld} {p p' : Pos} (O : StOk X) (Y : ClsOk X) (hs : ∀ tgt line, swapsWith pe tgt line env = pure false) (hv : SimAt prog w X frs Cl ns l A VR (eval pe env) rv) (ha : SimAt prog w X frs Cl ns l A VR (eval pa env) ra) :
    SimS rz prog w X frs Cl ns l A (exec (.Assign [.Attribute pa (fstr f) p'] pe p) env) (fun h => toF l ((rv h).bind fun v h => (ra h).bind fun o h => setAttrV h f v o) fun _ h => .nxt l h) := fun ι ah s pt hnf => by
  have hnf' : ((rv ah).bind fun v h => (ra h).bind fun o h => setAttrV h f v o) ≠ .fail := fun z => hnf (by dsimp only; rw [z]; rfl)
  refine wpAny_Assign_stores ?_ (show swapsWithSole [_] pe p.line env = _ from hs (some (.Attribute pa (fstr f) p')) p.line) (swapped_attr ..)
  have main := hv.use2 ha pt vr_mono hnf' (P := fun d o s₂ => wpAny (model prog w) A (setAttr o (fstr f) d) (fun _ s₃ => PostS X frs Cl ns ι s (toF l ((rv ah).bind fun v h => (ra h).bind fun o h => setAttrV h f v o) fun _ h => .nxt l h) .next s₃) (fun _ _ => False) s₂) fun x y ah₂ ι₂ d o s₂ e st pt₂ rx ry hn => by
    rw [e]
    refine wpAny_mono (leaf_setAttr O Y pt₂.inv ry rx hn) (fun _ s₃ h₃ => ?_) fun _ _ e => e
    obtain ⟨u, ah₃, ι₃, e3, st3, _⟩ := h₃
    rw [e3]
    exact ⟨rfl, ι₃, (st.trans st3).toL, pt₂.step st3⟩
  have exc : ∀ e s', PExc X frs Cl ι s ((rv ah).bind fun v h => (ra h).bind fun o h => setAttrV h f v o) e s' → ExcS rz X frs Cl ns ι s (toF l ((rv ah).bind fun v h => (ra h).bind fun o h => setAttrV h f v o) fun _ h => .nxt l h) e s' := fun e s' ⟨ah', ι', e', st, x⟩ => ⟨l, ah', ι', by rw [e']; rfl, st.toL, pt.step st, .inl x⟩
  refine wpAny_mono main (fun d s₁ h₁ => ?_) exc
  show wpAny _ _ (assign (.Attribute pa (fstr f) p') env d) _ _ _
  rw [arm_assign_Attribute]
  refine wpAny_bind (wpAny_holding (wpAny_mono h₁ (fun o s₂ h₂ => ?_) exc))
  exact wpAny_bind (wpAny_standAt (wpAny_bind (wpAny_holding (wpAny_mono h₂ (fun _ s₃ h₃ => PySem.wpAny_release h₃) fun _ _ e => e.elim))))

theorem sim_expr {pe : PySem.Expr} {ra : H → R V} {p : Pos} (eo : EnvOk sc ns env Cl) (hs : swapsWith pe none p.line env = pure false) (ha : SimAt prog w X frs Cl ns l A VR (eval pe env) ra) :
    SimS rz prog w X frs Cl ns l A (exec (.Expr pe p) env) (fun h => toF l (ra h) fun _ h => .nxt l h) := fun ι ah s pt hnf => by
  refine wpAny_Expr_any (ha.stm (g := fun r => toF l r fun _ h => .nxt l h) (fun _ _ => rfl) (fun _ => rfl) rfl pt hnf fun v ah₁ ι₁ d s₁ e st pt₁ rv hn => ?_) (by unfold interactive; rw [eo.kind]; rfl) hs
  dsimp only at e ⊢
  rw [e]
  exact ⟨rfl, ι₁, st.toL, pt₁⟩

theorem sim_ret {pe : PySem.Expr} {ra : H → R V} {p : Pos} (ha : SimAt prog w X frs Cl ns l A VR (eval pe env) ra) :
    SimS rz prog w X frs Cl ns l A (exec (.Return (some pe) p) env) (fun h => toF l (ra h) fun v h => .ret v h) := fun ι ah s pt hnf => by
  refine wpAny_Return_some (ha.stm (g := fun r => toF l r fun v h => .ret v h) (fun _ _ => rfl) (fun _ => rfl) rfl pt hnf fun v ah₁ ι₁ d s₁ e st pt₁ rv hn => ?_)
  dsimp only at e ⊢
  rw [e]
  exact ⟨ι₁, d, rfl, st.toL, rv⟩

theorem sim_nil : SimS rz prog w X frs Cl ns l A (execs [] env) (fun h => .nxt l h) := fun ι ah s pt hnf =>
  wpAny_execs_nil ⟨rfl, ι, StepL.refl pt.inv, pt⟩
theorem sim_cons {st : PySem.Stmt} {rest : List PySem.Stmt} {rs : H → F} {rr : Loc → H → F} (hs : SimS rz prog w X frs Cl ns l A (exec st env) rs) (hr : ∀ l', SimS rz prog w X frs Cl ns l' A (execs rest env) (rr l')) :
    SimS rz prog w X frs Cl ns l A (execs (st :: rest) env) (fun h => match rs h with | .nxt l' h' => rr l' h' | x => x) := fun ι ah s pt hnf => by
  have h0 : rs ah ≠ .fail := fun z => hnf (by dsimp only; rw [z])
  refine wpAny_execs_cons (wpAny_mono (hs ι ah s pt h0) (fun fl s₁ h₁ => ?_) fun e s₁ h₁ => ?_)
  · dsimp only at hnf ⊢
    cases q : rs ah with
    | nxt l' ah₁ =>
      rw [q] at h₁ hnf
      obtain ⟨rfl, ι₁, st, pt₁⟩ := h₁
      exact ws_lift st (hr l' ι₁ ah₁ s₁ pt₁ hnf)
    | ret v ah₁ =>
      rw [q] at h₁
      obtain ⟨ι₁, c, rfl, st, rv⟩ := h₁
      exact ⟨ι₁, c, rfl, st, rv⟩
    | exc l' h' => rw [q] at h₁; exact h₁.elim
    | fail => exact absurd q h0
  · obtain ⟨l', ah', ι', e', st, pt', x⟩ := h₁
    exact ⟨l', ah', ι', by dsimp only; rw [e'], st, pt', x⟩

/-- an if -/
theorem sim_ite {pc : PySem.Expr} {b1 b2 : List PySem.Stmt} {rc : H → R V} {r1 r2 : H → F} {p : Pos} (hc : SimAt prog w X frs Cl ns l A RB (isTrue pc env (eval pc env)) (fun h => tst (rc h)))
    (h1 : SimS rz prog w X frs Cl ns l A (execs b1 env) r1) (h2 : SimS rz prog w X frs Cl ns l A (execs b2 env) r2) :
    SimS rz prog w X frs Cl ns l A (exec (.If pc b1 b2 p) env) (fun h => toF l (rc h) fun v h => match v with
      | .bool true => r1 h
      | .bool false => r2 h
      | _ => .fail) := fun ι ah s pt hnf => by
  have e0 : ∀ r : R V, (toF l r fun v h => match v with
      | .bool true => r1 h
      | .bool false => r2 h
      | _ => .fail) = match tst r with | .ok b h => (if b then r1 h else r2 h) | .exc h => .exc l h | .fail => .fail := fun r => by
    cases r with
    | ok v h =>
      cases v with
      | bool b => cases b <;> rfl
      | _ => rfl
    | _ => rfl
  simp only [e0] at hnf ⊢
  refine wpAny_If (hc.stm (k := fun b h => if b then r1 h else r2 h) (g := fun r => match r with | .ok b h => (if b then r1 h else r2 h) | .exc h => .exc l h | .fail => .fail) (fun _ _ => rfl) (fun _ => rfl) rfl pt hnf fun b ah₁ ι₁ d s₁ e st pt₁ rb hn => ?_)
  cases rb
  simp only [e]
  cases b with
  | true => exact ws_lift st.toL (h1 ι₁ ah₁ s₁ pt₁ hn)
  | false => exact ws_lift st.toL (h2 ι₁ ah₁ s₁ pt₁ hn)
end
end Mine
end

section
open PySem PySem.W PyProof.Rows PySem.Calls
set_option maxRecDepth 100000
set_option linter.unusedVariables false
namespace Mine

section
variable {prog : Program} {w : World} {X : St} {frs : List Env} {Cl : Addr} {ns : List Str} {l : Loc} {A : Around} {env : Env} {sc : Scope} {c : Ctx} {n : Nat} {ι ι₁ : Iota} {ah ah₁ : H} {s s₁ : Shared} {rz : Bool}

theorem exc_lift {r : R V} {k : V → H → F} {e : Value} {s' : Shared} (pt : Pt X frs Cl ns l ι ah s) (h : PExc X frs Cl ι s r e s') : ExcS rz X frs Cl ns ι s (toF l r k) e s' := by
  obtain ⟨ah', ι', e', st, x⟩ := h
  exact ⟨l, ah', ι', by rw [e']; rfl, st.toL, pt.step st, .inl x⟩

theorem sim_setIdx {pe pa pi : PySem.Expr} {rv ra ri : H → R V} {p p' : Pos} (hs : ∀ tgt line, swapsWith pe tgt line env = pure false) (hsl : (match pi with | .Slice _ _ none _ => true | _ => false) = false) (hv : SimAt prog w X frs Cl ns l A VR (eval pe env) rv) (ha : SimAt prog w X frs Cl ns l A VR (eval pa env) ra) (hi : SimAt prog w X frs Cl ns l A VR (eval pi env) ri) :
    SimS rz prog w X frs Cl ns l A (exec (.Assign [.Subscript pa pi p'] pe p) env) (fun h => toF l ((rv h).bind fun v h => (ra h).bind fun o h => (ri h).bind fun k h => setIdxV h o k v) fun _ h => .nxt l h) := fun ι ah s pt hnf => by
  have hnf' : ((rv ah).bind fun v h => (ra h).bind fun o h => (ri h).bind fun k h => setIdxV h o k v) ≠ .fail := fun z => hnf (by dsimp only; rw [z]; rfl)
  refine wpAny_Assign_stores ?_ (show swapsWithSole [_] pe p.line env = _ from hs (some (.Subscript pa pi p')) p.line) (swapped_sub ..)
  dsimp only
  generalize hr0 : ((rv ah).bind fun v h => (ra h).bind fun o h => (ri h).bind fun k h => setIdxV h o k v) = r0 at hnf'
  have exc : ∀ e s', PExc X frs Cl ι s r0 e s' → ExcS rz X frs Cl ns ι s (toF l r0 fun _ h => .nxt l h) e s' := fun e s' h => exc_lift pt h
  have main := hv.use (f := fun v h => (ra h).bind fun o h => (ri h).bind fun k h => setIdxV h o k v) pt (by rw [hr0]; exact hnf') (P := fun d s₁ => wpAny (model prog w) A (eval pa env) (fun o s₂ => wpAny (model prog w) A (eval pi env) (fun i s₃ => wpAny (model prog w) A (setItem o i d) (fun _ s₄ => PostS X frs Cl ns ι s (toF l r0 fun _ h => .nxt l h) .next s₄) (fun _ _ => False) s₃)
      (PExc X frs Cl ι s r0) s₂) (PExc X frs Cl ι s r0) s₁) fun v ah₁ ι₁ d s₁ e st pt₁ rv' hn => by
    have q : ((ra ah₁).bind fun o h => (ri h).bind fun k h => setIdxV h o k v) = r0 := by rw [← hr0, e]; rfl
    have m2 := ha.use2 hi pt₁ vr_mono hn (P := fun o i s₃ => wpAny (model prog w) A (setItem o i d) (fun _ s₄ => PostS X frs Cl ns ι s (toF l r0 fun _ h => .nxt l h) .next s₄) (fun _ _ => False) s₃) fun x y ah₂ ι₂ o i s₂ e2 st2 pt₂ rx ry hn2 => by
      refine wpAny_mono (leaf_setIdx pt₂.inv rx ry (st2.vr rv') hn2) (fun _ s₃ h₃ => ?_) fun _ _ e => e
      obtain ⟨u, ah₃, ι₃, e3, st3, _⟩ := h₃
      rw [← q, e2, e3]
      exact ⟨rfl, ι₃, ((st.trans st2).trans st3).toL, pt₂.step st3⟩
    rw [q] at m2
    exact wpAny_mono m2 (fun o s₂ h => wpAny_mono h (fun _ _ h => h) fun _ _ h => PExc.trans st h) fun _ _ h => PExc.trans st h
  rw [hr0] at main
  refine wpAny_mono main (fun d s₁ h₁ => ?_) exc
  show wpAny _ _ (assign (.Subscript pa pi p') env d) _ _ _
  rw [arm_assign_Subscript]
  refine wpAny_bind (wpAny_holding (wpAny_mono h₁ (fun o s₂ h₂ => ?_) exc))
  refine wpAny_bind (wpAny_holding (wpAny_mono h₂ (fun i s₃ h₃ => ?_) exc))
  exact wpAny_bind (wpAny_standAt (wpAny_bind (wpAny_holding (wpAny_mono h₃ (fun _ s₄ h₄ => PySem.wpAny_release h₄) fun _ _ e => e.elim))))

/-- a while -/
theorem sim_whil {pc : PySem.Expr} {body : List PySem.Stmt} {rc : Loc → H → R V} {rb : Loc → H → F} {p : Pos} {fu : Nat} (hc : ∀ l, SimAt prog w X frs Cl ns l A RB (isTrue pc env (eval pc env)) (fun h => tst (rc l h)))
    (hb : ∀ l, SimS rz prog w X frs Cl ns l A (execs body env) (rb l)) :
    SimS rz prog w X frs Cl ns l A (exec (.While pc body [] p) env) (fun h => whileN rc rb fu l h) := fun ι ah s pt hnf => by
  dsimp only at hnf ⊢
  generalize hf0 : whileN rc rb fu l ah = f0 at hnf ⊢
  refine wpAny_While (codeAny_whileLoop (fun nf s' => ∃ l' ι' ah', whileN rc rb nf l' ah' = f0 ∧ StepL X frs Cl ι s ι' ah' s' ∧ Pt X frs Cl ns l' ι' ah' s') ?_ fu ⟨l, ι, ah, hf0, StepL.refl pt.inv, pt⟩)
  intro nf s' hi
  refine Classical.byContradiction fun K => ?_
  obtain ⟨l', ι', ah', hN, st, pt'⟩ := hi
  cases nf with
  | zero => exact absurd hN.symm hnf
  | succ nf =>
    dsimp only [whileN] at hN
    have hc0 : tst (rc l' ah') ≠ .fail := fun z => hnf (by
      rw [← hN]
      cases e : rc l' ah' with
      | ok v h =>
        rw [e] at z
        cases v <;> first | rfl | cases z
      | _ => rfl)
    refine K (wpAny_mono (hc l' ι' ah' s' pt' hc0) (fun b s₂ h₂ => Classical.byContradiction fun K => ?_) fun ex s₂ h₂ => False.elim ?_)
    · obtain ⟨b', ah₂, ι₂, e2, st2, rb2⟩ := h₂
      cases rb2
      change tst (rc l' ah') = _ at e2
      have e2' : rc l' ah' = .ok (.bool b) ah₂ := by
        cases e : rc l' ah' with
        | ok v h =>
          rw [e] at e2
          cases v <;> cases e2
          rfl
        | _ => rw [e] at e2; cases e2
      rw [e2'] at hN
      have pt₂ := pt'.step st2
      cases b with
      | false =>
        refine K (wpAny_execs_nil ?_)
        dsimp only at hN ⊢
        rw [← hN]
        exact ⟨rfl, ι₂, st.trans st2.toL, pt₂⟩
      | true =>
        dsimp only at hN
        have hb0 : rb l' ah₂ ≠ .fail := fun z => hnf (by rw [← hN, z])
        refine K (wpAny_mono (hb l' ι₂ ah₂ s₂ pt₂ hb0) (fun fl s₃ h₃ => ?_) fun ex s₃ h₃ => ?_)
        · cases q : rb l' ah₂ with
          | nxt l₃ ah₃ =>
            rw [q] at h₃ hN
            obtain ⟨rfl, ι₃, st3, pt₃⟩ := h₃
            exact ⟨nf, Nat.lt_succ_self _, l₃, ι₃, ah₃, hN, (st.trans st2.toL).trans st3, pt₃⟩
          | ret v ah₃ =>
            rw [q] at h₃ hN
            obtain ⟨ι₃, d, rfl, st3, rv⟩ := h₃
            dsimp only at hN ⊢
            rw [← hN]
            exact ⟨ι₃, d, rfl, (st.trans st2.toL).trans st3, rv⟩
          | exc l₃ h₃' => rw [q] at h₃; exact h₃.elim
          | fail => exact absurd q hb0
        · obtain ⟨l₃, ah₃, ι₃, e3, _⟩ := h₃
          rw [e3] at hN
          exact absurd hN.symm hnf
    · obtain ⟨ah₂, ι₂, e2, _⟩ := h₂
      change tst (rc l' ah') = _ at e2
      refine hnf ?_
      rw [← hN]
      cases e : rc l' ah' with
      | ok v h =>
        rw [e] at e2
        cases v <;> cases e2
      | _ => rfl

theorem keptL_exact {It : Addr} {o : Obj} (st : StepL X frs Cl ι s ι₁ ah₁ s₁) (nT : ¬ Tr ι It) (nC : It ≠ Cl) (nF : ¬ Frm frs It) (h : s.heap.get? It = some o) : s₁.heap.get? It = some o := by
  obtain ⟨sl, hs, q⟩ := st.kp It o h nT nC
  rcases q with rfl | q
  · exact hs
  · exact absurd q nF

theorem StepL.inIter {It : Addr} (a : StepL X frs Cl ι s ι₁ ah₁ s₁) {h' : Heap} (nI : s.heap.get? It = none) (nT : ¬ Tr ι₁ It) (nC : It ≠ Cl) (nF : ¬ Frm frs It) (nb : X.base.get? It = none) (k : ∀ b o, b ≠ It → s₁.heap.get? b = some o → h'.get? b = some o) (tk : Nat) : StepL X frs Cl ι s ι₁ ah₁ { s₁ with heap := h', toks := tk } :=
  a.fresh nI k (a.inv.other k nT nb (fun z => absurd z nF) (fun z => absurd z nC)) tk
theorem Pt.inIter {It : Addr} (pt : Pt X frs Cl ns l ι ah s) {h' : Heap} (nT : ¬ Tr ι It) (nC : It ≠ Cl) (nF : ¬ Frm frs It) (nb : X.base.get? It = none) (k : ∀ b o, b ≠ It → s.heap.get? b = some o → h'.get? b = some o) (tk : Nat) : Pt X frs Cl ns l ι ah { s with heap := h', toks := tk } := by
  obtain ⟨I, m, hn, hl⟩ := pt
  refine ⟨I.other k nT nb (fun z => absurd z nF) (fun z => absurd z nC), m, ?_, hl⟩
  obtain ⟨o, es, ep, ho, r⟩ := hn
  exact ⟨o, es, ep, k _ _ (Ne.symm nC) ho, r⟩

/-- one turn of a for, behind the drawing of an item -/
theorem for_turn {body : List PySem.Stmt} {rb : Loc → H → F} {x : Nat} {v : V} {d : Value} {p : Pos} {f0 : F} {kk : Loc → H → F} {Nx : Shared → Prop} {Q : Flow → Shared → Prop} {Er : Value → Shared → Prop} (eo : EnvOk sc ns env Cl) (hx : x < ns.length)
    (hb : ∀ l, SimS rz prog w X frs Cl ns l A (execs body env) (rb l)) (pt : Pt X frs Cl ns l ι ah s) (hv : VR ι v d) (hnf : f0 ≠ .fail)
    (hN : (match rb (l.set x v) ah with | .nxt l' h' => kk l' h' | .ret v h' => .ret v h' | _ => .fail) = f0)
    (nxt : ∀ l' ι' ah' s', StepL X frs Cl ι s ι' ah' s' → Pt X frs Cl ns l' ι' ah' s' → kk l' ah' = f0 → Nx s')
    (ret : ∀ ι' ah' s' u e, StepL X frs Cl ι s ι' ah' s' → VR ι' u e → f0 = .ret u ah' → Q (.ret e) s') :
    wpAny (model prog w) A (assign (.Name (nm ns x) p) env d) (fun _ s₂ => wpAny (model prog w) A (execs body env) (fun f s₃ => match f with
          | .next | .cont => Nx s₃
          | .brk => Q .next s₃
          | .ret v => Q (.ret v) s₃) Er s₂) Er s := by
  obtain ⟨I, m, hns, hl⟩ := pt
  refine assign_one eo hx hns fun h' tk k hn' => ?_
  obtain ⟨st1, pt1⟩ := stored (tk := tk) (StepL.refl I) k hn' (locR_one eo.nd hx hv hl)
  have hb0 : rb (l.set x v) ah ≠ .fail := fun z => hnf (by rw [← hN, z])
  refine wpAny_mono (hb (l.set x v) ι ah _ pt1 hb0) (fun fl s₃ h₃ => ?_) fun ex s₃ h₃ => ?_
  · cases q : rb (l.set x v) ah with
    | nxt l₃ ah₃ =>
      rw [q] at h₃ hN
      obtain ⟨rfl, ι₃, st3, pt₃⟩ := h₃
      exact nxt l₃ ι₃ ah₃ s₃ (st1.trans st3) pt₃ hN
    | ret v ah₃ =>
      rw [q] at h₃ hN
      obtain ⟨ι₃, d, rfl, st3, rv⟩ := h₃
      exact ret ι₃ ah₃ s₃ v d (st1.trans st3) rv hN.symm
    | exc l₃ h₃' => rw [q] at h₃; exact h₃.elim
    | fail => exact absurd q hb0
  · obtain ⟨l₃, ah₃, ι₃, e3, _⟩ := h₃
    rw [e3] at hN
    exact absurd hN.symm hnf

theorem sim_forL {pe : PySem.Expr} {body : List PySem.Stmt} {re : H → R V} {rb : Loc → H → F} {x : Nat} {p p0 : Pos} {fu : Nat} (hh : A.handled = none) (eo : EnvOk sc ns env Cl) (hx : x < ns.length) (hs : ∀ y, foldedSetIterable pe env y = pure y)
    (he : SimAt prog w X frs Cl ns l A VR (eval pe env) re) (hb : ∀ l, SimS rz prog w X frs Cl ns l A (execs body env) (rb l)) :
    SimS rz prog w X frs Cl ns l A (exec (.For (.Name (nm ns x) p0) pe body [] p) env) (fun h => toF l (re h) fun v h => match v with
      | .ref a => forN x a rb fu 0 l h
      | _ => .fail) := fun ι ah s pt hnf => by
  refine wpAny_For (he.stm (k := fun v h => match v with
      | .ref a => forN x a rb fu 0 l h
      | _ => .fail) (g := fun r => toF l r fun v h => match v with
      | .ref a => forN x a rb fu 0 l h
      | _ => .fail) (fun _ _ => rfl) (fun _ => rfl) rfl pt hnf fun v ah₁ ι₁ d s₁ e st pt₁ rv hn => ?_) hs
  simp only [e]
  cases v with
  | ref a =>
    obtain ⟨pa, hpa, rfl⟩ := rv
    dsimp only at hn ⊢
    generalize hf0 : forN x a rb fu 0 l ah₁ = f0 at hn ⊢
    refine Classical.byContradiction fun K => ?_
    obtain ⟨vs0, hvs0⟩ : ∃ vs, ah₁[a]? = some (.lst vs) := by
      clear K
      cases fu with
      | zero => exact absurd hf0.symm hn
      | succ k =>
        dsimp only [forN] at hf0
        split at hf0
        · rename_i vs q; exact ⟨vs, q⟩
        · exact absurd hf0.symm hn
    obtain ⟨pa', hpa', e2, hz, cs0, n0, hv0, hg0⟩ := pt₁.inv.led.ofRef hvs0
    rw [hpa] at hpa'; cases hpa'
    have nIt := fresh_none s₁.heap
    obtain ⟨nTI, nFI, nCI, nbI⟩ := pt₁.inv.notFresh nIt
    refine K (wpAny_pyIter_list (isL hg0) ?_)
    clear K
    have kp0 : ∀ b o, s₁.heap.get? b = some o → (s₁.heap.push { cls := .type "list_iterator", data := .fields #[.ref pa.1, .int 0 0] }).get? b = some o := fun b o e => Heap.get?_push_of_some _ e
    have st0 : Step X frs Cl ι₁ s₁ ι₁ ah₁ { s₁ with heap := s₁.heap.push { cls := .type "list_iterator", data := .fields #[.ref pa.1, .int 0 0] } } := Step.grown pt₁.inv kp0 s₁.toks
    have hit0 : (s₁.heap.push { cls := .type "list_iterator", data := .fields #[.ref pa.1, .int 0 0] }).IsListIter s₁.heap.objs.size pa.1 0 := ⟨_, Heap.get?_push_size _ rfl, rfl, rfl⟩
    generalize hIt : s₁.heap.objs.size = It at nIt nTI nFI nCI nbI hit0 ⊢
    refine codeAny_forLoop (fun nf s' => ∃ i l' ι' ah', forN x a rb nf i l' ah' = f0 ∧ StepL X frs Cl ι₁ s₁ ι' ah' s' ∧ Pt X frs Cl ns l' ι' ah' s' ∧ s'.heap.IsListIter It pa.1 i ∧ ¬ Tr ι' It) ?_ fu ⟨0, l, ι₁, ah₁, hf0, st0.toL, pt₁.step st0, hit0, nTI⟩
    intro nf s' hi
    refine Classical.byContradiction fun K => ?_
    obtain ⟨i, l', ι', ah', hN, st', pt', hit', nT'⟩ := hi
    cases nf with
    | zero => exact absurd hN.symm hn
    | succ nf =>
      have hpa' := st'.at hpa
      cases hcell' : ah'[a]? with
      | none => dsimp only [forN] at hN; simp only [hcell'] at hN; exact absurd hN.symm hn
      | some cell =>
        cases cell with
        | lst vs =>
          obtain ⟨pa2, hpa2, e2', hz', cs, n', hv', hg'⟩ := pt'.inv.led.ofRef hcell'
          rw [hpa'] at hpa2; cases hpa2
          dsimp only [forN] at hN; simp only [hcell'] at hN
          cases hvi : vs[i]? with
          | none =>
            rw [hvi] at hN
            dsimp only at hN
            refine K (wpAny_pyNext_list_end hh hit' (isL hg') ?_ fun h₂ he₂ => wpAny_execs_nil ?_)
            · have : vs.length ≤ i := List.getElem?_eq_none_iff.mp hvi
              have : cs.length ≤ i := by rw [hv'.length]; exact this
              simpa using this
            · have sI := st'.inIter nIt nT' nCI nFI nbI he₂ s'.toks
              have pI := pt'.inIter nT' nCI nFI nbI he₂ s'.toks
              dsimp only
              rw [← hN]
              exact ⟨rfl, ι', st.toL.trans sI, pI⟩
          | some v =>
            rw [hvi] at hN
            dsimp only at hN
            obtain ⟨d, hd, vd⟩ := hv'.get _ _ hvi
            refine K (wpAny_pyNext_list_item hit' (isL hg') (x := d) (by simpa using hd) fun h₂ hit₂ hs₂ => ?_)
            have sI := st'.inIter nIt nT' nCI nFI nbI hs₂.extBut s'.toks
            have pI := pt'.inIter nT' nCI nFI nbI hs₂.extBut s'.toks
            refine for_turn (Q := fun fl s' => PostS X frs Cl ns ι s f0 fl s') eo hx hb pI vd hn hN (fun l₃ ι₃ ah₃ s₃ st3 pt3 hk3 => ?_) (fun ι₃ ah₃ s₃ u e st3 ru hr => ?_)
            · obtain ⟨o, ho, hr⟩ := id hit₂
              exact ⟨nf, Nat.lt_succ_self _, i + 1, l₃, ι₃, ah₃, hk3, sI.trans st3, pt3, iter_keptL st3 nT' nCI hit₂, st3.notTr ho nT'⟩
            · rw [hr]
              exact ⟨ι₃, e, rfl, (st.toL.trans sI).trans st3, ru⟩
        | _ => dsimp only [forN] at hN; simp only [hcell'] at hN; exact absurd hN.symm hn
  | _ => exact absurd rfl hn

theorem range_core {body : List PySem.Stmt} {rb : Loc → H → F} {x : Nat} {p0 : Pos} {E : Value → Shared → Prop} {r : Addr} {i0 b0 : Int} {k : Nat} {t u v : Tok} {f0 : F} {Q : Flow → Shared → Prop} {Eb : Value → Shared → Prop} (hh : A.handled = none) (eo : EnvOk sc ns env Cl) (hx : x < ns.length)
    (hb : ∀ l, SimS rz prog w X frs Cl ns l A (execs body env) (rb l)) (pt₁ : Pt X frs Cl ns l ι₁ ah₁ s₁) (hr : IsRange s₁.heap r i0 b0 1 t u v) (hsm : Builtin.Range.small i0 b0 1 = true) (hk : Builtin.Range.rangeSize i0 b0 1 = k) (hf0 : rangeN x rb k i0 l ah₁ = f0) (hn : f0 ≠ .fail)
    (fin : ∀ fl ι' s', StepL X frs Cl ι₁ s₁ ι' (match f0 with | .nxt _ h => h | .ret _ h => h | _ => []) s' → PostS X frs Cl ns ι₁ s₁ f0 fl s' → Q fl s') :
    wpAny (model prog w) A (pyIter (.ref r)) (fun it s₂ => codeAny (model prog w) A (.forLoop (.Name (nm ns x) p0) it body [] env) (fun r s' => match r with | .ok f => Q f s' | .error e => Eb e s') s₂) E s₁ := by
  refine wpAny_pyIter_range hr hsm ?_
  rw [hk]
  have nIt := fresh_none s₁.heap
  obtain ⟨nTI, nFI, nCI, nbI⟩ := pt₁.inv.notFresh nIt
  have kp0 : ∀ b o, s₁.heap.get? b = some o → (s₁.heap.push { cls := .type "range_iterator", data := .fields #[rawInt i0, rawInt (k : Int), rawInt 1] }).get? b = some o := fun b o e => Heap.get?_push_of_some _ e
  have st0 : Step X frs Cl ι₁ s₁ ι₁ ah₁ { s₁ with heap := s₁.heap.push { cls := .type "range_iterator", data := .fields #[rawInt i0, rawInt (k : Int), rawInt 1] } } := Step.grown pt₁.inv kp0 s₁.toks
  have hit0 : IsRangeIter (s₁.heap.push { cls := .type "range_iterator", data := .fields #[rawInt i0, rawInt (k : Int), rawInt 1] }) s₁.heap.objs.size i0 k 1 := Heap.get?_push_size _ rfl
  generalize hIt : s₁.heap.objs.size = It at nIt nTI nFI nCI nbI hit0 ⊢
  refine codeAny_forLoop (fun nf s' => ∃ l' ι' ah' i m, nf = m + 1 ∧ rangeN x rb m i l' ah' = f0 ∧ StepL X frs Cl ι₁ s₁ ι' ah' s' ∧ Pt X frs Cl ns l' ι' ah' s' ∧ IsRangeIter s'.heap It i m 1 ∧ ¬ Tr ι' It) ?_ (k + 1) ⟨l, ι₁, ah₁, i0, k, rfl, hf0, st0.toL, pt₁.step st0, hit0, nTI⟩
  intro nf s' hi
  refine Classical.byContradiction fun K => ?_
  obtain ⟨l', ι', ah', i, m, rfl, hN, st', pt', hit', nT'⟩ := hi
  cases m with
  | zero =>
    dsimp only [rangeN] at hN
    refine K (wpAny_pyNext_range_end hh hit' (by simp) fun h₂ he₂ => wpAny_execs_nil ?_)
    have sI := st'.inIter nIt nT' nCI nFI nbI he₂ s'.toks
    have pI := pt'.inIter nT' nCI nFI nbI he₂ s'.toks
    subst hN
    exact fin _ ι' _ sI ⟨rfl, ι', sI, pI⟩
  | succ m =>
    dsimp only [rangeN] at hN
    refine K (wpAny_pyNext_range_item hit' (by lia) fun h₂ hit₂ hs₂ => ?_)
    have sI := st'.inIter nIt nT' nCI nFI nbI hs₂.extBut (s'.toks + 1)
    have pI := pt'.inIter nT' nCI nFI nbI hs₂.extBut (s'.toks + 1)
    refine for_turn (v := .int i) (Q := fun fl s' => Q fl s') eo hx hb pI ⟨_, rfl⟩ hn hN (fun l₃ ι₃ ah₃ s₃ st3 pt3 hk3 => ?_) (fun ι₃ ah₃ s₃ u e st3 ru hr => ?_)
    · refine ⟨m + 1, Nat.lt_succ_self _, l₃, ι₃, ah₃, i + 1, m, rfl, hk3, sI.trans st3, pt3, ?_, st3.notTr hit₂ nT'⟩
      have := keptL_exact st3 nT' nCI nFI hit₂
      have e : (((m + 1 : Nat) : Int) - 1) = m := by lia
      rw [e] at this
      exact this
    · subst hr
      exact fin _ ι₃ _ (sI.trans st3) ⟨ι₃, e, rfl, sI.trans st3, ru⟩

theorem range_len (a b : Int) : Builtin.Range.rangeSize a b 1 = ((b - a).toNat : Nat) := by
  rw [rangeSize_one]; split <;> lia

theorem sim_forR1 {pe : PySem.Expr} {body : List PySem.Stmt} {re : H → R V} {rb : Loc → H → F} {x : Nat} {p p0 p1 p2 : Pos} (O : StOk X) (G : GlobOk X) (hh : A.handled = none) (eo : EnvOk sc ns env Cl) (hx : x < ns.length) (hk : env.kindOf "range" = some .globalImplicit) (h1 : Plain1 pe env)
    (he : SimAt prog w X frs Cl ns l A VR (eval pe env) re) (hb : ∀ l, SimS rz prog w X frs Cl ns l A (execs body env) (rb l)) :
    SimS rz prog w X frs Cl ns l A (exec (.For (.Name (nm ns x) p0) (.Call (.Name "range" p1) [pe] [] p2) body [] p) env) (fun h => toF l (re h) fun v h => match v with
      | .int n => if sm n then rangeN x rb n.toNat 0 l h else .fail
      | _ => .fail) := fun ι ah s pt hnf => by
  refine wpAny_For (PyProof.Rows.Call_Name (bt1 h1 p2) (name_bi O eo pt.inv.base hk G.range (by decide +kernel)
    (PySem.callWith_type1 (he.stm (k := fun v h => match v with
      | .int n => if sm n then rangeN x rb n.toNat 0 l h else .fail
      | _ => .fail) (g := fun r => toF l r fun v h => match v with
      | .int n => if sm n then rangeN x rb n.toNat 0 l h else .fail
      | _ => .fail) (fun _ _ => rfl) (fun _ => rfl) rfl pt hnf fun v ah₁ ι₁ d s₁ e st pt₁ rv hn => ?_)))) (fun _ => rfl)
  simp only [e]
  cases v with
  | int i =>
    obtain ⟨tk, rfl⟩ := rv
    dsimp only at hn ⊢
    by_cases hs : sm i
    · rw [if_pos hs] at hn ⊢
      refine call_range_1 ?_
      have st0 := Step.grown (s := s₁) pt₁.inv (h' := s₁.heap.push { cls := .type "range", data := .fields #[.int 0 s₁.toks, .int i tk, .int 1 (s₁.toks + 1)] }) (fun b o e => Heap.get?_push_of_some _ e) (s₁.toks + 1 + 1)
      refine range_core (k := i.toNat) hh eo hx hb (pt₁.step st0) (IsRange.new ..) (small_one (by decide) (by decide) (by unfold sm at hs; lia) (by unfold sm at hs; lia)) ?_ rfl hn fun fl ι' s' st' ps => ?_
      · rw [range_len]; simp
      · exact PostS.trans (st.toL.trans st0.toL) ps
    · rw [if_neg hs] at hn; exact absurd rfl hn
  | _ => exact absurd rfl hn

theorem sim_forR2 {body : List PySem.Stmt} {rb : Loc → H → F} {x : Nat} {i j : Int} {p p0 p1 p2 p3 p4 : Pos} (O : StOk X) (G : GlobOk X) (hh : A.handled = none) (eo : EnvOk sc ns env Cl) (hx : x < ns.length) (hk : env.kindOf "range" = some .globalImplicit) (hi : sm i) (hj : sm j)
    (hb : ∀ l, SimS rz prog w X frs Cl ns l A (execs body env) (rb l)) :
    SimS rz prog w X frs Cl ns l A (exec (.For (.Name (nm ns x) p0) (.Call (.Name "range" p1) [.Constant (.int i) 0 p3, .Constant (.int j) 0 p4] [] p2) body [] p) env) (fun h => rangeN x rb (j - i).toNat i l h) := fun ι ah s pt hnf => by
  refine wpAny_For (PyProof.Rows.Call_Name (bt2 (fun _ => rfl) (fun _ => rfl) p2) (name_bi O eo pt.inv.base hk G.range (by decide +kernel)
    (PySem.callWith_type rfl (Calls.evalArgs_plain (Calls.spliced_cons (wpAny_Constant_int (Calls.spliced_cons (wpAny_Constant_int (Calls.spliced_nil ?_)))))))) ) (fun _ => rfl)
  refine call_range_2 ?_
  have st0 := Step.grown (s := s) pt.inv (h' := s.heap.push { cls := .type "range", data := .fields #[.int i s.toks, .int j (s.toks + 1), .int 1 (s.toks + 1 + 1)] }) (fun b o e => Heap.get?_push_of_some _ e) (s.toks + 1 + 1 + 1)
  refine range_core (k := (j - i).toNat) hh eo hx hb (pt.step st0) (IsRange.new ..) (small_one (by unfold sm at hi; lia) (by unfold sm at hi; lia) (by unfold sm at hj; lia) (by unfold sm at hj; lia)) (range_len i j) rfl hnf fun fl ι' s' st' ps => ?_
  exact PostS.trans st0.toL ps
end
end Mine
end

section
open PySem PySem.W PyProof.Rows PySem.Calls
set_option maxRecDepth 100000
set_option linter.unusedVariables false
namespace Mine

section
variable {prog : Program} {w : World} {X : St} {frs : List Env} {Cl : Addr} {ns : List Str} {l : Loc} {A : Around} {env : Env} {sc : Scope} {c : Ctx} {n : Nat} {ι ι₁ : Iota} {ah ah₁ : H} {s s₁ : Shared} {rz : Bool}

theorem sim_aug {pe : PySem.Expr} {ra : H → R V} {x : Nat} {p p' : Pos} (eo : EnvOk sc ns env Cl) (hx : x < ns.length) (ha : SimAt prog w X frs Cl ns l A VR (eval pe env) ra) :
    SimS rz prog w X frs Cl ns l A (exec (.AugAssign (.Name (nm ns x) p') .Add pe p) env) (fun h => match l x with
      | some v => toF l ((ra h).bind fun w h => binV .add h v w) fun r h => (match r with | .int i => .nxt (l.set x (.int i)) h | _ => .fail)
      | Option.none => .fail) := fun ι ah s pt hnf => by
  dsimp only at hnf ⊢
  cases e : l x with
  | none => rw [e] at hnf; exact absurd rfl hnf
  | some v =>
    rw [e] at hnf
    obtain ⟨I, m, hns, hl⟩ := id pt
    obtain ⟨_, d0, hd0, hv0⟩ := hl x v e
    refine wpAny_AugAssign_Name (wpAny_loadName_local eo.kind (eo.vars _ (nm_mem hx)).1 (eo.loc ▸ hns) hd0 ?_)
    have hnf' : ((ra ah).bind fun w h => binV .add h v w) ≠ .fail := fun z => hnf (by dsimp only; rw [z]; rfl)
    refine wpAny_mono (ha.use pt hnf' (P := fun d s₁ => wpAny (model prog w) A (inplaceOp .Add d0 d) (fun r s₃ => wpAny (model prog w) A (storeName env (nm ns x) r) (fun _ => PostS X frs Cl ns ι s (toF l ((ra ah).bind fun w h => binV .add h v w) fun r h => (match r with | .int i => .nxt (l.set x (.int i)) h | _ => .fail)) .next) (fun _ _ => False) s₃) (fun _ _ => False) s₁) fun u ah₁ ι₁ d s₁ e1 st pt₁ rv hn => ?_) (fun d s₁ h₁ => wpAny_mono h₁ (fun r s₂ h₂ => wpAny_mono h₂ (fun _ _ h => h) fun _ _ h => h.elim) fun _ _ h => h.elim) fun _ _ h => exc_lift pt h
    have q : ((ra ah).bind fun w h => binV .add h v w) = binV .add ah₁ v u := by rw [e1]; rfl
    rw [q]
    dsimp only at hnf
    rw [q] at hnf
    cases v with
    | int i =>
      cases u with
      | int j =>
        obtain ⟨t1, rfl⟩ := st.vr hv0
        obtain ⟨t2, rfl⟩ := rv
        change (if sm i ∧ sm j then R.ok (V.int (i + j)) ah₁ else .fail) ≠ .fail at hn
        show wpAny _ _ _ (fun r s₃ => wpAny _ _ _ (fun _ => PostS X frs Cl ns ι s (toF l (if sm i ∧ sm j then R.ok (V.int (i + j)) ah₁ else .fail) _) _) _ _) _ _
        by_cases hs : sm i ∧ sm j
        · rw [if_pos hs]
          refine PySem.P.iadd_int ?_
          obtain ⟨I₁, m₁, hns₁, hl₁⟩ := pt₁
          refine store_one eo hx (s := { s₁ with toks := s₁.toks + 1 }) hns₁ fun h' tk k hn' => ?_
          obtain ⟨a, b⟩ := stored (tk := tk) st.toL k hn' (locR_one eo.nd hx (v := .int (i + j)) ⟨_, rfl⟩ hl₁)
          exact ⟨rfl, ι₁, a, b⟩
        · rw [if_neg hs] at hn; exact absurd rfl hn
      | _ => exact absurd rfl hn
    | ref i =>
      refine absurd ?_ hnf
      show toF l (addV ah₁ (.ref i) u) _ = _
      dsimp only [addV]
      cases gL ah₁ (.ref i) with
      | none => rfl
      | some p => cases gL ah₁ u with
        | none => rfl
        | some q =>
          dsimp only
          by_cases hz : p.2.length + q.2.length ≤ ML
          · rw [if_pos hz]; rfl
          · rw [if_neg hz]; rfl
    | _ => exact absurd rfl hn

/-- an assignment of a comprehension: the name takes the list ahead of the letting go -/
theorem sim_assignComp {pe pi : PySem.Expr} {ifs : List PySem.Expr} {two : Bool} {tt : PT} {scope : Scope} {p p' p2 : Pos} {elt cond : Loc → H → R V} {cns : List Str} {ri : H → R V} {x : Nat} (eo : EnvOk sc ns env Cl) (hx : x < ns.length)
    (hsw : swapsWith (.ListComp pe [⟨unT cns two tt, pi, ifs, 0⟩] scope p) (some (.Name (nm ns x) p')) p2.line env = pure true)
    (hfree : ∀ y ∈ scope.names, y.2 ≠ .free) (hcell : ∀ y ∈ scope.names, y.2 ≠ .cell) (hkind : scope.kind = .function) (hnames : ∀ y ∈ scope.names, y.2 = .local → scope.names.lookup y.1 = some .local)
    (eoc : ∀ C, EnvOk scope cns (compEnv scope C env) C) (hlen : (if two then 1 else 0) < cns.length) (hh : A.handled = none) (hs : ∀ x, foldedSetIterable pi env x = pure x)
    (hi : SimAt prog w X frs Cl ns l A VR (eval pi env) ri)
    (he : ∀ C l', SimAt prog w X frs C cns l' A VR (eval pe (compEnv scope C env)) (elt l'))
    (hc : ∀ C l', SimAt prog w X frs C cns l' A RB (forIn ifs true fun c r => if r = true then do let ok ← isTrue c (compEnv scope C env) (eval c (compEnv scope C env)); pure (ForInStep.yield ok) else pure (ForInStep.yield r)) (fun h => tst (cond l' h))) :
    SimS rz prog w X frs Cl ns l A (exec (.Assign [.Name (nm ns x) p'] (.ListComp pe [⟨unT cns two tt, pi, ifs, 0⟩] scope p) p2) env) (fun h => toF l ((ri h).bind fun x h => compV c two cond elt x h) fun v h => .nxt (l.set x v) h) := fun ι ah s pt hnf => by
  rw [exec_Assign_Name_used _ _ _ _ hsw]
  refine wpAny_bind (wpAny_standAt (wpAny_bind ?_))
  show wpAny _ A (do let _ ← comprehension (.ListComp pe [⟨unT cns two tt, pi, ifs, 0⟩] scope p) scope env _ (newList []) false (eval pi env) (some (assign (.Name (nm ns x) p') env))) _ _ s
  dsimp only at hnf ⊢
  have hnf' : ((ri ah).bind fun x h => compV c two cond elt x h) ≠ .fail := fun z => hnf (by rw [z]; rfl)
  generalize hF : (toF l ((ri ah).bind fun x h => compV c two cond elt x h) fun v h => F.nxt (l.set x v) h) = f0 at hnf ⊢
  refine wpAny_bind (wpAny_mono (wpAny_comprehension_use (Q := fun _ s' => PostS X frs Cl ns ι s f0 .next s') rfl hs hfree hkind hnames (hF ▸ wpAny_mono (hi.use pt hnf' (P := fun v s₁ => wpAny _ _ _ _ (ExcS rz X frs Cl ns ι s f0) s₁) fun v ah₁ ι₁ d s₁ e st pt₁ rx hn => ?_) (fun _ _ h => hF ▸ h) fun _ _ h => exc_lift pt h))
    (fun _ s' hq => wpAny_pure (wpAny_pure hq)) fun _ _ e => e)
  have e' : ((ri ah).bind fun x h => compV c two cond elt x h) = compV c two cond elt v ah₁ := by rw [e]; rfl
  rw [e'] at hF
  cases v with
  | ref a =>
    obtain ⟨pa, hpa, rfl⟩ := rx
    simp only [compV] at hn hF
    generalize hr0 : compN two cond elt a ah₁.length c.fu 0 (ah₁ ++ [.lst []]) = r0 at hn hF
    refine comp_core (RR := fun acc cenv r s' => match r with
      | .ok _ => wpAny (model prog w) A (assign (.Name (nm ns x) p') env acc) (fun _ s'' => ∃ m, s''.heap.Ns cenv.locals m ∧ ∀ h', Heap.SameBut cenv.locals s''.heap h' → PostS X frs Cl ns ι s f0 .next { s'' with heap := h' }) (ExcS rz X frs Cl ns ι s f0) s'
      | .error x => ∃ m, s'.heap.Ns cenv.locals m ∧ ∀ h', Heap.SameBut cenv.locals s'.heap h' → wpAny (model prog w) A (passOn "comprehension.variables-let-go" x cenv) (fun _ s' => PostS X frs Cl ns ι s f0 .next s') (ExcS rz X frs Cl ns ι s f0) { s' with heap := h' })
      hcell hkind eoc hlen hh he hc pt₁ hpa hr0 hn fun D C ι' ah' s' m nD nC hCD hr sI hout hns => ?_
    obtain ⟨nTC, nFC, nCC, nbC⟩ := pt₁.inv.notFresh nC
    have sI' := Step.recl pt₁.inv sI
    obtain ⟨I', m', hns', hl'⟩ := pt₁.step sI'
    refine assign_one eo hx hns' fun h₂ tk₂ k₂ hn₂ => ?_
    obtain ⟨sL, pL⟩ := stored (tk := tk₂) sI'.toL k₂ hn₂ (locR_one eo.nd hx (v := .ref ah₁.length) (d := .ref D) ⟨(D, D), hout, rfl⟩ hl')
    refine ⟨m, ?_, fun h₃ hs₃ => ?_⟩
    · obtain ⟨o, es, ep, ho, r⟩ := hns
      exact ⟨o, es, ep, k₂ _ _ nCC ho, r⟩
    · have nTC' : ¬ Tr ι' C := sI.inv.sepL
      have sF := sL.inIter (It := C) nC nTC' nCC nFC nbC hs₃.extBut tk₂
      have pF := pL.inIter (It := C) nTC' nCC nFC nbC hs₃.extBut tk₂
      rw [hr] at hF
      subst hF
      exact ⟨rfl, ι', st.toL.trans sF, pF⟩
  | _ => exact absurd rfl hn
end
end Mine
end

section
open PySem PySem.W PyProof.Rows PySem.Calls
set_option maxRecDepth 100000
set_option linter.unusedVariables false
namespace Mine

structure ExcOk (X : St) : Prop where
  cls : ∃ nm q N bs bm hdct sn sub ab col dd k0 k1 k2 k3 k5, X.base.get? X.BM = some (excClassObj nm q X.BM N bs bm hdct sn sub ab col dd k0 k1 k2 k3 k5 "Exception.__new__") ∧
    bm.contains (.type "Exception") = true ∧ bm.contains (.type "BaseException") = true ∧ bm.contains (.type "AttributeError") = false ∧ bm.contains (.type "NameError") = false

noncomputable def Noise (frs : List Env) (D : Addr → Prop) (h h' : Heap) : Prop := ∀ b o, h.get? b = some o → ¬ D b → ∃ sl, h'.get? b = some { o with slots := sl } ∧ (sl = o.slots ∨ Frm frs b)

section
variable {X : St} {frs outer : List Env} {Cl e T : Addr} {ns : List Str} {l : Loc} {env : Env} {ι ι₁ : Iota} {ah ah₁ : H} {s s₁ : Shared} {h h' : Heap} {D : Addr → Prop}

theorem Inv.noise (I : Inv X frs Cl ι ah h) (N : Noise frs D h h') (hD : ∀ b, D b → ¬ Tr ι b ∧ ¬ Frm frs b ∧ b ≠ Cl ∧ X.base.get? b = none) : Inv X frs Cl ι ah h' := by
  have exact_ : ∀ b o, h.get? b = some o → ¬ D b → ¬ Frm frs b → h'.get? b = some o := fun b o e n nf => by
    obtain ⟨sl, hs, q⟩ := N b o e n
    rcases q with rfl | q
    · exact hs
    · exact absurd q nf
  refine ⟨fun b o eb => ?_, ?_, ⟨I.led.len, fun i c p e1 e2 => ?_, I.led.apart, I.led.new⟩, I.sepF, I.sepL, I.locNew, ?_⟩
  · refine exact_ b o (I.base b o eb) (fun d => ?_) (fun ⟨env, he, hf⟩ => ?_)
    · rw [(hD b d).2.2.2] at eb; cases eb
    · rw [(I.frames.mem (List.mem_filterMap.mpr ⟨env, he, hf⟩)).1] at eb; cases eb
  · have : ∀ {l : List Env}, (∀ env ∈ l, env ∈ frs) → h.FunFrames X.base l → h'.FunFrames X.base l := by
      intro l
      induction l with
      | nil => intro _ _; trivial
      | cons env r ih =>
        intro hm ⟨hk, ⟨L, o, hf, hn, ho, hd⟩, hr⟩
        obtain ⟨sl, hs, _⟩ := N L o ho (fun d => (hD L d).2.1 ⟨env, hm env (.head _), hf⟩)
        exact ⟨hk, ⟨L, _, hf, hn, hs, hd⟩, ih (fun e he => hm e (.tail _ he)) hr⟩
    exact this (fun _ h => h) I.frames
  · have tp1 : Tr ι p.1 := ⟨p, List.mem_of_getElem? e2, .inl rfl⟩
    have tp2 : Tr ι p.2 := ⟨p, List.mem_of_getElem? e2, .inr rfl⟩
    have := (I.led.at_ i c p e1 e2).keeps (t := []) (fun o e => exact_ _ o e (fun d => (hD _ d).1 tp1) (I.sepF _ tp1)) (fun o e => exact_ _ o e (fun d => (hD _ d).1 tp2) (I.sepF _ tp2))
    rwa [List.append_nil] at this
  · obtain ⟨o, es, n, ho, hd⟩ := I.loc
    obtain ⟨sl, hs, _⟩ := N Cl o ho (fun d => (hD Cl d).2.2.1 rfl)
    exact ⟨_, es, n, hs, hd⟩
theorem Pt.noise (P : Pt X frs Cl ns l ι ah s) (N : Noise frs D s.heap h') (hD : ∀ b, D b → ¬ Tr ι b ∧ ¬ Frm frs b ∧ b ≠ Cl ∧ X.base.get? b = none) : Pt X frs Cl ns l ι ah { s with heap := h' } := by
  obtain ⟨I, m, hn, hl⟩ := P
  refine ⟨I.noise N hD, m, ?_, hl⟩
  obtain ⟨o, es, ep, ho, hd, r⟩ := hn
  obtain ⟨sl, hs, _⟩ := N Cl o ho (fun d => (hD Cl d).2.2.1 rfl)
  exact ⟨_, es, ep, hs, hd, r⟩
theorem StepL.noise (a : StepL X frs Cl ι s ι₁ ah₁ s₁) (N : Noise frs D s₁.heap h') (hD : ∀ b, D b → ¬ Tr ι₁ b ∧ ¬ Frm frs b ∧ b ≠ Cl ∧ X.base.get? b = none) (fr : ∀ b, D b → s.heap.get? b = none) : StepL X frs Cl ι s ι₁ ah₁ { s₁ with heap := h' } := by
  have I := a.inv.noise N hD
  obtain ⟨e, kp, ⟨h1, tk1, rfl⟩, _⟩ := a
  refine ⟨e, fun b o e n nc => ?_, ⟨h', tk1, rfl⟩, I⟩
  obtain ⟨sl, hs, c⟩ := kp b o e n nc
  obtain ⟨sl', hs', c'⟩ := N b _ hs (fun d => by rw [fr b d] at e; cases e)
  refine ⟨sl', hs', ?_⟩
  rcases c' with c' | c'
  · rcases c with c | c
    · exact .inl (c'.trans c)
    · exact .inr c
  · exact .inr c'

theorem frm_iff {b : Addr} : Frm frs b ↔ b ∈ frs.filterMap (·.frame) := by
  unfold Frm; rw [List.mem_filterMap]

/-- what is hidden while an exception flies: itself, its entry, the frames -/
noncomputable def hidden (frs : List Env) (e T : Addr) : List Addr := e :: T :: frs.filterMap (·.frame)
theorem noise_of (I : Inv X frs Cl ι ah h) (st : (hideAll h (hidden frs e T)).StaysIn h') (up : h.UpToSlots h') : Noise frs (fun b => b = e ∨ b = T) h h' := fun b o ho n => by
  by_cases hf : Frm frs b
  · obtain ⟨_, o', ho', hd⟩ := I.frames.mem (frm_iff.mp hf)
    rw [ho] at ho'; cases ho'
    obtain ⟨sl, hs⟩ := up b o ho hd
    exact ⟨sl, hs, .inr hf⟩
  · refine ⟨o.slots, st b o (hideAll_get _ ho ?_), .inl rfl⟩
    intro hm
    rcases List.mem_cons.mp hm with z | hm
    · exact n (.inl z)
    · rcases List.mem_cons.mp hm with z | hm
      · exact n (.inr z)
      · exact hf (frm_iff.mpr hm)
theorem stays_hide : (hideAll h (hidden frs e T)).StaysIn h := fun b o q => of_hideAll _ q
theorem flying_of {a0 : Value} (I : Inv X frs Cl ι ah h) (x : TrAt h e T (.ref X.BM) a0) : Heap.FlyingW (hideAll h (hidden frs e T)) frs e (.ref X.BM) a0 h := by
  obtain ⟨oe, vs, oT, ts, h1, h2, h3, h4, h5, h6, h7, h8⟩ := x
  refine ⟨stays_hide, hideAll_none _ (.head _), ?_, oe, vs, T, oT, ts, h1, h2, h3, h4, hideAll_none _ (.tail _ (.head _)), h5, h6, h7, h8⟩
  exact funFrames_hide I.frames fun env he a hf => .tail _ (.tail _ (List.mem_filterMap.mpr ⟨env, he, hf⟩))
/-- an exception's two things are no frames and no locals -/
theorem exc_apart {a0 : Value} (I : Inv X frs Cl ι ah h) (x : TrAt h e T (.ref X.BM) a0) (n1 : ¬ Tr ι e) (n2 : ¬ Tr ι T) (b1 : X.base.get? e = none) (b2 : X.base.get? T = none) :
    ∀ b, (b = e ∨ b = T) → ¬ Tr ι b ∧ ¬ Frm frs b ∧ b ≠ Cl ∧ X.base.get? b = none := by
  obtain ⟨oe, vs, oT, ts, h1, h2, h3, h4, h5, h6, h7, h8⟩ := x
  obtain ⟨o, es, n, ho, hd⟩ := I.loc
  rintro b (rfl | rfl)
  · refine ⟨n1, fun hf => ?_, fun z => ?_, b1⟩
    · obtain ⟨_, o', ho', hd'⟩ := I.frames.mem (frm_iff.mp hf)
      rw [h1] at ho'; cases ho'; exact hd' _ h3
    · rw [z, ho] at h1; cases h1; rw [hd] at h3; cases h3
  · refine ⟨n2, fun hf => ?_, fun z => ?_, b2⟩
    · obtain ⟨_, o', ho', hd'⟩ := I.frames.mem (frm_iff.mp hf)
      rw [h6] at ho'; cases ho'; exact hd' _ h7
    · rw [z, ho] at h6; cases h6; rw [hd] at h7; cases h7
end

section
variable {prog : Program} {w : World} {X : St} {outer : List Env} {Cl : Addr} {ns : List Str} {l : Loc} {A : Around} {env : Env} {sc : Scope} {c : Ctx} {n : Nat} {ι ι₁ : Iota} {ah ah₁ : H} {s s₁ : Shared} {rz : Bool}

theorem sim_try {b : List PySem.Stmt} {rb : H → F} {pe : PySem.Expr} {rk : Loc → H → R V} {p p1 p2 p3 : Pos} (O : StOk X) (G : GlobOk X) (EX : ExcOk X) (hfr : A.frames = some (env :: outer)) (hf : env.frame = some Cl) (eo : EnvOk sc ns env Cl) (hk : env.kindOf "BadMove" = some .globalImplicit)
    (hb : SimS false prog w X (env :: outer) Cl ns l A (execs b env) rb)
    (hs : ∀ e l', SimAt prog w X (env :: outer) Cl ns l' (A.mark (some (.ref e))) VR (eval pe env) (rk l')) (nx : ∀ l' h h', rk l' h ≠ .exc h') :
    SimS rz prog w X (env :: outer) Cl ns l A (exec (.Try b [.ExceptHandler (some (.Name "BadMove" p1)) Option.none [.Return (some pe) p2] p3] [] [] p) env) (fun h => match rb h with
      | .exc l' h' => toF l' (rk l' h') fun v h => .ret v h
      | r => r) := fun ι ah s pt hnf => by
  have hb0 : rb ah ≠ .fail := fun z => hnf (by dsimp only; rw [z])
  refine wpAny_Try_except (wpAny_mono (hb ι ah s pt hb0) (fun fl s₁ h₁ => ?_) fun ex s₁ h₁ => ?_)
  · dsimp only
    cases q : rb ah with
    | nxt l' ah₁ =>
      rw [q] at h₁
      obtain ⟨rfl, ι₁, st, pt₁⟩ := h₁
      exact wpAny_execs_nil ⟨rfl, ι₁, st, pt₁⟩
    | ret v ah₁ =>
      rw [q] at h₁
      obtain ⟨ι₁, c, rfl, st, rv⟩ := h₁
      exact ⟨ι₁, c, rfl, st, rv⟩
    | exc l' h' => rw [q] at h₁; exact h₁.elim
    | fail => exact absurd q hb0
  · dsimp only at hnf ⊢
    refine Classical.byContradiction fun K => ?_
    obtain ⟨l', ah', ι', e', st, pt', x⟩ := h₁
    rcases x with ⟨e, T, a0, rfl, f1, f2, n1, n2, tr⟩ | ⟨z, _⟩
    · rw [e'] at hnf K
      dsimp only at hnf K
      have hr0 : rk l' ah' ≠ .fail := fun z => hnf (by rw [z]; rfl)
      have b1 := none_of_stays pt.inv.base f1
      have b2 := none_of_stays pt.inv.base f2
      have ap := exc_apart pt'.inv tr n1 n2 b1 b2
      refine K (wpAny_looks_onW hfr hf (flying_of pt'.inv tr) fun h₄ hheld₄ hsm₄ => ?_)
      clear K
      refine wpAny_landsW hheld₄ fun h₅ hheld hsm₅' => Classical.byContradiction fun K => ?_
      have hsm₅ := hsm₄.trans hsm₅'
      have N₅ := noise_of pt'.inv hheld.1 hsm₅
      have P₅ := pt'.noise N₅ ap
      obtain ⟨ob, hob, hobc⟩ := hheld.there
      obtain ⟨nm, q, N, bs, bm, hdct, sn, sub, ab, col, dd, k0, k1, k2, k3, k5, hC, c1, c2, c3, c4⟩ := EX.cls
      refine K (wpAny_handleBy_cons (codeAny_handlers_test (name_glob O eo P₅.inv.base hk G.bad (by decide +kernel) ?_)) (by intro q; cases q))
      clear K
      refine wpAny_excMatches_sub_self (P₅.inv.base _ _ hC) hob hobc c2 (codeAny_handlers_suite ?_)
      refine lands_againW hheld fun h₆ hfl₆ hsm₆ => ?_
      have N₆ := noise_of pt'.inv hfl₆.1 (hsm₅.trans hsm₆)
      have P₆ := pt'.noise N₆ ap
      have S₆ := st.noise N₆ ap (fun b hb => by rcases hb with rfl | rfl <;> assumption)
      refine wpAny_execs_cons (wpAny_Return_some (wpAny_mono (hs e l' ι' ah' _ P₆ hr0) (fun d s₇ h₇ => ?_) fun ex s₇ h₇ => ?_))
      · obtain ⟨v, ah₇, ι₇, e7, st7, rv⟩ := h₇
        rw [e7]
        exact ⟨ι₇, d, rfl, S₆.trans st7.toL, rv⟩
      · obtain ⟨ah₇, ι₇, e7, _⟩ := h₇
        exact absurd e7 (nx l' ah' ah₇)
    · cases z
end
end Mine
end

section
open PySem PySem.W PyProof.Rows PySem.Calls Builtin Builtin.ObjectAttr
set_option maxRecDepth 100000
set_option linter.unusedVariables false
namespace Mine

section
variable {prog : Program} {w : World} {A : Around} {R : Result → Shared → Prop} {h : Heap} {g : Array GenState} {d : Drawn} {t : Nat} {os : OsState}
variable {nm q : Str} {C N : Addr} {bs bm bmB : List Value} {hdct : Bool} {sn : List Str} {sub : List Value} {ab : Bool} {col : Option Bool} {dd : Option Addr} {k0 k1 k2 k3 k5 : Option Value} {B newId initId : String}

theorem x_new (F : ExcBaseFacts B newId initId bmB) (c1 : bm.contains (.type B) = true) (c2 : bm.contains (.type "AttributeError") = false) (c3 : bm.contains (.type "NameError") = false) {rest : List Value} (hC : h.get? C = some (excClassObj nm q C N bs bm hdct sn sub ab col dd k0 k1 k2 k3 k5 newId))
    (hq : R (.ok (.ret (.ref (h.objs.size + 1)))) ⟨(h.push { cls := .type "tuple", data := .seq rest.toArray }).push
      { cls := .ref C, data := .fields #[.ref h.objs.size, .none, .none, .none, .bool false, .none] }, g, d, t, os⟩) (hrest : rest.length ≤ sizeLine := by size_fits) :
    codeAny (model prog w) A (.builtin newId ⟨.ref C :: rest, []⟩) R ⟨h, g, d, t, os⟩ := by
  have hends := F.ends
  have hcB : (Value.ref C :: bm).contains (.type B) = true := by rw [List.contains_cons, c1, Bool.or_true]
  have hcA : (Value.ref C :: bm).contains (.type "AttributeError") = false := by rw [List.contains_cons, c2]; rfl
  have hcN : (Value.ref C :: bm).contains (.type "NameError") = false := by rw [List.contains_cons, c3]; rfl
  refine codeAny_builtinAt F.entry ?_
  unfold Builtin.«BaseException.__new__»
  refine PySem.wpAt_bind ?_
  show PySem.wpAt _ _ _ (stack >>= _) _ _ _
  refine PySem.wpAt_bind (PySem.wpAt_stack fun p below => PySem.wpAt_of_wpAny ?_)
  wp_walk
  refine PySem.wpAt_of_wpAny ?_
  rw [F.owner]
  repeat (first | with_reducible refine wpAny_madeHere_exc F.canon hC ?_ | with_reducible refine wpAny_loadPart_at hC ?_ | (with_reducible refine wpAny_isSubtype_exc hC ?_; first | rw [hcB] | rw [hcA] | rw [hcN]) | wp_step)
  show R _ _
  rw [Heap.size_push]
  exact hq
end

section
variable {prog : Program} {w : World} {A : Around} {E : Value → Shared → Prop} {R : Result → Shared → Prop} {h : Heap} {g : Array GenState} {d : Drawn} {t : Nat} {os : OsState}
variable {nm q : Str} {C N : Addr} {bs bm bmB : List Value} {hdct : Bool} {sn : List Str} {sub : List Value} {ab : Bool} {col : Option Bool} {dd : Option Addr} {k0 k1 k2 k3 k5 : Option Value} {B newId initId : String}

theorem x_check_init (F : ExcBaseFacts B newId initId bmB) (c1 : bm.contains (.type B) = true) {M : Model} {e : Addr} {oe : Obj} {rest : List Value} {Q : Unit → Shared → Prop}
    (hC : h.get? C = some (excClassObj nm q C N bs bm hdct sn sub ab col dd k0 k1 k2 k3 k5 newId)) (he : h.get? e = some oe) (hcls : oe.cls = .ref C) (hq : Q () ⟨h, g, d, t, os⟩) :
    wpAny M A (checkBuiltinCall initId ⟨.ref e :: rest, []⟩) Q E ⟨h, g, d, t, os⟩ := by
  have hcB : (Value.ref C :: bm).contains (.type B) = true := by rw [List.contains_cons, c1, Bool.or_true]
  have hshort := F.noStar
  simp only [checkBuiltinCall, F.initKind, F.initSplit, F.initRow]
  repeat (first | (with_reducible refine wpAny_loadPart_at he ?_; rw [hcls]) | with_reducible refine wpAny_loadPart_at hC ?_ | (with_reducible refine wpAny_isSubtype_exc hC ?_; rw [hcB]) | wp_step)
  refine wpAny_onRaise ?_
  rw [show ∀ (a b : String) (n : Nat), Bind.check ⟨.positional, "*", B, .self, [⟨"args", .varPos, false⟩]⟩ a b n (List.map (fun x => x.fst) ({ pos := Value.ref e :: rest } : Args).kw) = pure () from
    fun a b n => check_star_args _ _ _ _ _ _]
  exact wpAny_pure hq

/-- Exception.__init__(e, ..): the arguments are laid anew -/
theorem x_init (F : ExcBaseFacts B newId initId bmB) (c1 : bm.contains (.type B) = true) {e T0 : Addr} {dct : Option Addr} {rest : List Value} {Q : Value → Shared → Prop}
    (hC : h.get? C = some (excClassObj nm q C N bs bm hdct sn sub ab col dd k0 k1 k2 k3 k5 newId)) (he : h.get? e = some { cls := .ref C, dict := dct, data := .fields #[.ref T0, .none, .none, .none, .bool false, .none] })
    (hq : ∀ h', (∀ b o, b ≠ e → h.get? b = some o → h'.get? b = some o) → h'.get? e = some { cls := .ref C, dict := dct, data := .fields #[.ref h.objs.size, .none, .none, .none, .bool false, .none] } → Q .none ⟨h', g, d, t, os⟩) (hrest : rest.length ≤ sizeLine := by size_fits) :
    wpAny (model prog w) A (call (.builtin initId) (.ref e :: rest)) Q E ⟨h, g, d, t, os⟩ := by
  refine wpAny_call (codeAny_call_builtin F.init.plain F.initEntry (x_check_init F c1 hC he rfl ?_))
  wp_walk
  refine hq _ (fun b o hb hbo => ?_) ?_
  · rw [Heap.get?_update_other _ _ (Ne.symm hb)]
    exact Heap.get?_push_of_some _ hbo
  · rw [Heap.get?_update_self _ (Heap.get?_push_of_some _ he) rfl]
    rfl

/-- an exception class with an __init__ of its own is called -/
theorem x_make (F : ExcBaseFacts B newId initId bmB) (c1 : bm.contains (.type B) = true) (c2 : bm.contains (.type "AttributeError") = false) (c3 : bm.contains (.type "NameError") = false) {rest : List Value} {fI : Addr} (hC : h.get? C = some (excClassObj nm q C N bs bm hdct sn sub ab col dd k0 k1 k2 k3 k5 newId))
    (hi : Looks (model prog w) h (typeLookup (.ref C) "__init__") (some (.ref fI))) (hb : ∀ self, Looks (model prog w) h (bindSpecial (.ref fI) self) (.ref fI, [self]))
    (hq : codeAny (model prog w) (A.under (.builtin "type.__call__" ⟨.ref C :: rest, []⟩)) (.call (.ref fI) ⟨.ref (h.objs.size + 1) :: rest, []⟩) (InitBack (h.objs.size + 1) R)
      ⟨(h.push { cls := .type "tuple", data := .seq rest.toArray }).push { cls := .ref C, data := .fields #[.ref h.objs.size, .none, .none, .none, .bool false, .none] }, g, d, t, os⟩) (hrest : rest.length ≤ sizeLine := by size_fits) :
    codeAny (model prog w) A (.call (.ref C) ⟨rest, []⟩) R ⟨h, g, d, t, os⟩ := by
  have f1 := tc_lookup
  have f2 := tc_bind (.ref C)
  have hT : (⟨h, g, d, t, os⟩ : Shared).TypeIs (.ref C) "type" := ⟨_, hC, rfl⟩
  refine codeAny_of_tree ?_
  show wpAny _ _ (callAny (.ref C) _) _ _ _
  repeat (any_goals (first | assumption | with_reducible refine wpAny_loadPart_at hC ?_ | wp_step))
  refine ⟨rfl, ?_⟩
  refine codeAny_call_builtin_at (Code.quiet_builtin _ (by decide +kernel)) entry_typeCall (wpAny_check_type_call_sub hC ?_)
  repeat (first | with_reducible refine wpAny_loadPart_at hC ?_ | with_reducible refine wpAny_madeBy_exc hC ?_ | wp_step)
  refine codeAny_call_builtin_code (Code.quiet_builtin _ F.quiet) (wpAny_check_new_subU F c1 .base hC ?_)
  refine x_new F c1 c2 c3 hC ?_ hrest
  show wpAny _ _ _ _ _ _
  have hC₁ := Heap.get?_push_of_some { cls := .ref C, data := .fields #[.ref h.objs.size, .none, .none, .none, .bool false, .none] }
    (Heap.get?_push_of_some { cls := .type "tuple", data := .seq rest.toArray } hC)
  have hget : ((h.push { cls := .type "tuple", data := .seq rest.toArray }).push
      { cls := .ref C, data := .fields #[.ref h.objs.size, .none, .none, .none, .bool false, .none] }).get? (h.objs.size + 1) = some
      { cls := .ref C, data := .fields #[.ref h.objs.size, .none, .none, .none, .bool false, .none] } := by heap_get
  have hcC : (Value.ref C :: bm).contains (.ref C) = true := by simp
  have k : ∀ b o, h.get? b = some o → ((h.push { cls := .type "tuple", data := .seq rest.toArray }).push { cls := .ref C, data := .fields #[.ref h.objs.size, .none, .none, .none, .bool false, .none] }).get? b = some o :=
    fun b o e => Heap.get?_push_of_some _ (Heap.get?_push_of_some _ e)
  have i1 := hi.keeps k
  have b1 := (hb (.ref (h.objs.size + 1))).keeps k
  unfold isInstance callSpecial? specialOf
  repeat (first | with_reducible refine wpAny_loadPart_at hget ?_ | wp_step)
  refine wpAny_isSubtype_exc hC₁ ?_
  rw [hcC]
  repeat (first | with_reducible refine wpAny_loadPart_at hget ?_ | wp_step)
  show wpAny _ _ (typeLookup (.ref C) _) _ _ _
  refine i1.at ?_
  refine wpAny_holding (wpAny_bind (b1.at ?_))
  refine wpAny_bind (wpAny_call (codeAny_mono hq fun r s' z => ?_))
  rcases r with e | (v | _ | _ | _) <;> first | exact z | exact z.elim | skip
  obtain ⟨rfl, z⟩ := z
  exact wpAny_pure (wpAny_pure z)
end
end Mine
end

section
open PySem PySem.W PyProof.Rows PySem.Calls Builtin Builtin.ObjectAttr
set_option maxRecDepth 100000
set_option linter.unusedVariables false
namespace Mine

structure ExcIn (X : St) (CE fI : Addr) : Prop where
  ini : findIn X.K (.ref X.BM) "__init__" = some (some (.ref fI))
  typ : typeIn X.K (.ref fI) = some (.type "function")
  keep : keepIn X.K (.ref X.BM) = true
  sa : findIn X.K (.ref X.BM) "__setattr__" = some (some (.builtin "object.__setattr__"))
  txt : findIn X.K (.ref X.BM) "text" = some none
  cd : ∃ cd, clsIn X.K X.BM = some cd ∧ cd.hasDict = true ∧ cd.mro = [.ref X.BM, .ref CE, .type "Exception", .type "BaseException", .type "object"]
  bi : X.mg "Exception" = none ∧ X.mb "Exception" = some (.type "Exception")

theorem x_findInit (K : Frag) : findCls K (.type "Exception") (.type "type") "__init__" = some (.val (.builtin "Exception.__init__")) := by
  kernel_rfl

section
variable {prog : Program} {w : World} {A : Around} {E : Value → Shared → Prop} {s : Shared} {X : St} {CE fI : Addr}

/-- a field is laid on an exception that has no dict yet -/
theorem x_store (EI : ExcIn X CE fI) (KX : X.K.In s.heap) {e : Addr} {fs : Array Value} {name : Str} {v : Value} {Q : Unit → Shared → Prop} (hname : findIn X.K (.ref X.BM) name = some none) (he : s.heap.get? e = some { cls := .ref X.BM, dict := none, data := .fields fs })
    (hq : ∀ h' tk d, (∀ b o, b ≠ e → s.heap.get? b = some o → h'.get? b = some o) → h'.get? e = some { cls := .ref X.BM, dict := some d, data := .fields fs } → Q () { s with heap := h', toks := tk }) :
    wpAny (model prog w) A (setAttr (.ref e) name v) Q E s := by
  obtain ⟨cd, hcd, hd, hm⟩ := EI.cd
  have I : InstAt s.heap e { cls := .ref X.BM, dict := none, data := .fields fs } X.BM none := ⟨he, rfl, rfl, trivial⟩
  have SF := PySem.F.store_object
  refine set_plain KX I EI.sa ?_
  have hmro : Looks (model prog w) s.heap (mroOf (.ref X.BM)) cd.mro := (looks_clsIn KX hcd).andThen .now
  have hsub : subIn X.K (.ref X.BM) (.type "object") = some true := by
    show mroIn X.K X.BM (.type "object") = some true
    unfold mroIn; rw [hcd, Option.bind_some, hm]; simp
  have sub : Looks (model prog w) s.heap (isInstance (.ref e) (.type "object")) true := I.type.andThen (looks_subIn KX hsub)
  refine codeAny_call_builtin SF.slot.plain SF.entry (@check_slot (model prog w) _ _ { s with toks := s.toks + 1 } "object.__setattr__" "object" "__setattr__" (.ref e) [.str name s.toks, v] [] _ SF.kind SF.split sub (SF.args (.ref e) (.str name s.toks) v) ?_)
  rw [osa_eq, refuse_eq]
  obtain ⟨hh, g, dr, t, os⟩ := s
  dsimp only at he hmro KX I hq ⊢
  refine wpAny_bind (wpAny_bind (I.type.at (wpAny_bind (hmro.at ?_))))
  rw [hm, refuseLoop_ref, refuseLoop_ref, PySem.F.store_Exception.passes]
  refine wpAny_pure (wpAny_bind (I.type.at (wpAny_bind ((looks_findIn KX hname).at (wpAny_bind (wpAny_pure ?_))))))
  dsimp only
  unfold storeInOwnDict
  refine wpAny_bind (wpAny_pure ?_)
  show wpAny _ _ (ownDictForStores (.ref e) >>= _) _ _ _
  refine wpAny_bind ?_
  unfold ownDictForStores instanceDict
  refine wpAny_bind (wpAny_loadPart he (wpAny_bind ((looks_clsIn KX hcd).at ?_)))
  rw [hd]
  dsimp only
  rw [if_neg (by simp)]
  rw [if_neg (by simp [typeHasDict])]
  have hx₁ : (hh.push { cls := .type "dict", data := .dict #[] }).get? e = some { cls := .ref X.BM, dict := none, data := .fields fs } := Heap.get?_push_of_some _ he
  have hxs : e ≠ hh.objs.size := Nat.ne_of_lt (Heap.lt_size he)
  refine wpAny_bind (wpAny_alloc ?_)
  refine wpAny_bind (wpAny_update hx₁ ?_)
  refine wpAny_pure ?_
  have hgd : ((hh.push { cls := .type "dict", data := .dict #[] }).update e fun o => { cls := o.cls, dict := some hh.objs.size, data := o.data, slots := o.slots }).get? hh.objs.size
      = some { cls := .type "dict", data := .dict #[] } :=
    (Heap.get?_update_other _ _ hxs).trans (Heap.get?_push_size _ rfl)
  have hnd : ((hh.push { cls := .type "dict", data := .dict #[] }).update e fun o => { cls := o.cls, dict := some hh.objs.size, data := o.data, slots := o.slots }).Ns hh.objs.size (fun _ => none) :=
    ⟨_, #[], _, hgd, rfl, fun e he => absurd he (by simp), fun _ => rfl⟩
  show wpAny _ _ (storeInDict hh.objs.size (.str name _) name v) _ _ _
  unfold storeInDict newKeyGuard
  refine wpAny_bind (wpAny_pure (wpAny_bind (wpAny_nsSet1 (Heap.Ns1.of_empty hnd) fun h' hn' hs => ?_)))
  obtain ⟨oD, esD, epD, hoD, hdD, hcD⟩ := hn'.count (Within.cons name v Within.nil)
  refine wpAny_bind (wpAny_lookBehind hoD (by rw [hdD]; exact pastItsLine_dict (Nat.le_trans hcD (by rw [List.length_cons, List.length_nil, sizeLine_eq]; lia))) ?_)
  refine wpAny_pure ?_
  refine hq h' _ hh.objs.size (fun b o hb hbo => ?_) ?_
  · exact (hs.2 b (Nat.ne_of_lt (Heap.lt_size hbo))).trans ((Heap.get?_update_other _ _ (Ne.symm hb)).trans (Heap.get?_push_of_some _ hbo))
  · exact (hs.2 e hxs).trans (Heap.get?_update_self _ hx₁ rfl)

theorem x_getm {pl : Sem Bool} {Q : Value × List Value → Shared → Prop} (KX : X.K.In s.heap) (h : Q (.builtin "Exception.__init__", []) { s with toks := s.toks + 1 }) :
    wpAny (model prog w) A (getMethod (.type "Exception") "__init__" pl) Q E s := by
  have hstub : opaqueClassAbove (.type "Exception") = pure none := by unfold opaqueClassAbove; dsimp only; rw [show Manifest.isStub "Exception" = false by decide +kernel]; rfl
  have ht : typeOf (.type "Exception") = pure (.type "type") := by first | rfl | kernel_rfl
  have L0 : Looks (model prog w) s.heap (typeOf (.type "Exception")) (.type "type") := Looks.of_pure ht
  have hg : findIn X.K (.type "type") "__getattribute__" = some (some (.builtin "type.__getattribute__")) := type_tga
  unfold getMethod specialOf
  refine wpAny_bind (wpAny_bind (L0.here ((looks_findIn KX hg).here ?_)))
  dsimp only
  rw [if_pos canon_tga]
  refine wpAny_bind (wpAny_mono (Q := fun v => Q (v, [])) (E := E) ?_ (fun _ _ z => wpAny_pure z) fun _ _ z => z)
  have LO : Looks (model prog w) s.heap (opaqueClassAbove (.type "Exception")) none := Looks.of_pure hstub
  exact cls_open KX LO L0 hg (looks_hook KX (r := none) (by rfl)) (by show subIn X.K _ _ = _; rfl) (x_findInit X.K)
    (wpAny_pure (by show wpAny _ _ (handedOut _) _ _ _; rw [handedOut_of (by rfl)]; exact wpAny_pure h))

theorem x_initCall {env : Env} {p1 p2 p5 : Pos} {ea eb : PySem.Expr} {Q : Value → Shared → Prop} (h1 : Plain1 ea env) (h2 : Plain1 eb env) (hline : (p2.endLine == p5.line) = true) (KX : X.K.In s.heap)
    (hn : ∀ Q : Value → Shared → Prop, Q (.type "Exception") s → wpAny (model prog w) A (eval (.Name "Exception" p1) env) Q E s)
    (h : wpAny (model prog w) A (eval ea env) (fun a s₁ => wpAny (model prog w) A (eval eb env) (fun b s₂ => wpAny (model prog w) A (call (.builtin "Exception.__init__") [a, b]) Q E s₂) E s₁) E { s with toks := s.toks + 1 }) :
    wpAny (model prog w) A (eval (.Call (.Attribute (.Name "Exception" p1) "__init__" p2) [ea, eb] [] p5) env) Q E s := by
  rw [arm_eval_Call, show attributeBase (.Name "Exception" p1) "__init__" env (eval (.Name "Exception" p1) env) = eval (.Name "Exception" p1) env from rfl]
  refine wpAny_bind (hn _ (wpAny_bind (wpAny_standAt ?_)))
  have hform : methodCallForm ([ea, eb].length + ([] : List Keyword).length) (backTo p5 (starEach [ea, eb] env)) (backToKw p5 (keywordEach [] env)) = true := few2 h1 h2 p5
  have hpos : methodCallPos true (.Name "Exception" p1) env p2 p5 = pure p5 := by unfold methodCallPos; simp [hline]
  unfold methodCall
  rw [hform]
  refine wpAny_bind (wpAny_holding ?_)
  show wpAny _ _ (getMethod (.type "Exception") "__init__" _) _ _ _
  refine x_getm KX ?_
  refine wpAny_bind (wpAny_of_eq hpos ?_)
  rw [bt2 h1 h2]
  exact Calls.callWith_builtin rfl (Calls.evalArgs_plain (Calls.spliced_cons (wpAny_mono h (fun c s₁ h₁ => Calls.spliced_cons (wpAny_mono h₁ (fun d s₂ h₂ => Calls.spliced_nil h₂) fun _ _ e => e)) fun _ _ e => e)))

/-- the body of an own exception's __init__ -/
theorem x_body {env : Env} {sc : Scope} {L e T0 : Addr} {m : Str → Option Value} {v : Value} {p1 p2 p3 p4 p5 p6 p7 p8 p9 p10 : Pos} {nm' q : Str} {N : Addr} {bs bm : List Value} {hdct : Bool} {sn : List Str} {sub : List Value} {ab : Bool} {col : Option Bool} {dd : Option Addr} {k0 k1 k2 k3 k5 : Option Value} {Q : Flow → Shared → Prop}
    (O : StOk X) (EI : ExcIn X CE fI) (eo : EnvOk sc ["self", "text"] env L) (hk : env.kindOf "Exception" = some .globalImplicit) (hline : (p2.endLine == p5.line) = true)
    (hC : X.base.get? X.BM = some (excClassObj nm' q X.BM N bs bm hdct sn sub ab col dd k0 k1 k2 k3 k5 "Exception.__new__")) (c1 : bm.contains (.type "Exception") = true)
    (hb : X.base.StaysIn s.heap) (nb : X.base.get? e = none) (hns : s.heap.Ns L m) (hself : m "self" = some (.ref e)) (htext : m "text" = some v) (hLe : L ≠ e)
    (he : s.heap.get? e = some { cls := .ref X.BM, dict := none, data := .fields #[.ref T0, .none, .none, .none, .bool false, .none] })
    (hq : ∀ h' tk d t, (∀ b o, b ≠ e → s.heap.get? b = some o → h'.get? b = some o) → h'.get? e = some { cls := .ref X.BM, dict := some d, data := .fields #[.ref t, .none, .none, .none, .bool false, .none] } → Q .next { s with heap := h', toks := tk }) :
    wpAny (model prog w) A (execs [.Expr (.Call (.Attribute (.Name "Exception" p1) "__init__" p2) [.Name "self" p3, .Name "text" p4] [] p5) p6, .Assign [.Attribute (.Name "self" p7) "text" p8] (.Name "text" p9) p10] env) Q E s := by
  have kx : ∀ {h : Heap}, (∀ b o, b ≠ e → s.heap.get? b = some o → h.get? b = some o) → X.base.StaysIn h := fun k b o eb => k b o (fun z => by rw [z, nb] at eb; cases eb) (hb b o eb)
  have kn : ∀ {h : Heap}, (∀ b o, b ≠ e → s.heap.get? b = some o → h.get? b = some o) → h.Ns L m := fun k => by
    obtain ⟨o, es, ep, ho, r⟩ := hns
    exact ⟨o, es, ep, k _ _ hLe ho, r⟩
  have nself : ∀ {s₁ : Shared} {p : Pos} {Q : Value → Shared → Prop}, s₁.heap.Ns L m → Q (.ref e) s₁ → wpAny (model prog w) A (eval (.Name "self" p) env) Q E s₁ := fun hn hq =>
    wpAny_Name (wpAny_loadName_local eo.kind (eo.vars "self" (.head _)).1 (eo.loc ▸ hn) hself hq) (by decide +kernel)
  have ntext : ∀ {s₁ : Shared} {p : Pos} {Q : Value → Shared → Prop}, s₁.heap.Ns L m → Q v s₁ → wpAny (model prog w) A (eval (.Name "text" p) env) Q E s₁ := fun hn hq =>
    wpAny_Name (wpAny_loadName_local eo.kind (eo.vars "text" (.tail _ (.head _))).1 (eo.loc ▸ hn) htext hq) (by decide +kernel)
  refine wpAny_execs_cons (wpAny_Expr_any (x_initCall (fun _ => rfl) (fun _ => rfl) hline (O.kin.keeps hb) (fun Q hq => name_bi O eo hb hk EI.bi (by decide +kernel) hq) ?_) (by unfold interactive; rw [eo.kind]; rfl) rfl)
  refine nself (s₁ := { s with toks := s.toks + 1 }) hns (ntext (s₁ := { s with toks := s.toks + 1 }) hns ?_)
  obtain ⟨hh, g, dr, t, os⟩ := s
  refine x_init (h := hh) PySem.F.excBase_Exception c1 (hb _ _ hC) he (fun h₁ k₁ he₁ => ?_) (by simp [sizeLine_eq])
  refine wpAny_execs_cons (wpAny_Assign_stores (ntext (s₁ := ⟨h₁, g, dr, t + 1, os⟩) (kn k₁) ?_) rfl (swapped_attr ..))
  show wpAny _ _ (assign (.Attribute (.Name "self" p7) "text" p8) env v) _ _ _
  rw [arm_assign_Attribute]
  refine wpAny_bind (wpAny_holding (nself (s₁ := ⟨h₁, g, dr, t + 1, os⟩) (kn k₁) (wpAny_bind (wpAny_standAt (wpAny_bind (wpAny_holding ?_))))))
  refine x_store EI (O.kin.keeps (kx k₁)) EI.txt he₁ fun h₂ tk d k₂ he₂ => PySem.wpAny_release (wpAny_execs_nil ?_)
  exact hq h₂ tk d _ (fun b o nb eb => k₂ b o nb (k₁ b o nb eb)) he₂
end
end Mine
end

section
open PySem PySem.W PyProof.Rows PySem.Calls Builtin Builtin.ObjectAttr
set_option maxRecDepth 100000
set_option linter.unusedVariables false
namespace Mine

section
variable {M : Model} {A : Around} {E : Value → Shared → Prop} {env : Env}
variable {nm q : Str} {C N : Addr} {bs bm : List Value} {hdct : Bool} {sn : List Str} {sub : List Value} {ab : Bool} {col : Option Bool} {dd : Option Addr} {k0 k1 k2 k3 k5 : Option Value} {newId : String}

theorem x_raiseStmt {s : Shared} {x : Sem Value} {Q : Flow → Shared → Prop} (hbase : bm.contains (.type "BaseException") = true) (hh : A.handled = none)
    (h : wpAny M A x (fun v s₁ => ∃ e t d, v = .ref e ∧ s₁.heap.get? C = some (excClassObj nm q C N bs bm hdct sn sub ab col dd k0 k1 k2 k3 k5 newId) ∧
      s₁.heap.get? e = some { cls := .ref C, dict := some d, data := .fields #[.ref t, .none, .none, .none, .bool false, .none] } ∧ E (.ref e) s₁) E s) :
    wpAny M A (raiseStmt env (some x) none) Q E s := by
  have hcB : (Value.ref C :: bm).contains (.type "BaseException") = true := by rw [List.contains_cons, hbase, Bool.or_true]
  unfold raiseStmt
  refine wpAny_bind (wpAny_mono h (fun v s₁ h₁ => ?_) fun _ _ x => x)
  obtain ⟨e, t, d, rfl, hC, he, hE⟩ := h₁
  obtain ⟨hp, g, dr, tk, os⟩ := s₁
  repeat (first | with_reducible refine wpAny_loadPart_at he ?_ | with_reducible refine wpAny_loadPart_at hC ?_ | (with_reducible refine wpAny_isSubtype_exc hC ?_; rw [hcB]) | wp_step)
  exact wpAny_raiseNew_none hh hE
end

/-- the __init__ of the own exceptions, as it stands on the heap -/
noncomputable def ExcFn (X : St) (fI : Addr) : Prop :=
  ∃ o fd p1 p2 p3 p4 p5 p6 p7 p8 p9 p10, X.base.get? fI = some o ∧ o.data = .func fd ∧ X.base.CodeRec fd.code fd.qualname ∧
    fd.body = .stmts [.Expr (.Call (.Attribute (.Name "Exception" p1) "__init__" p2) [.Name "self" p3, .Name "text" p4] [] p5) p6, .Assign [.Attribute (.Name "self" p7) "text" p8] (.Name "text" p9) p10] ∧
    (p2.endLine == p5.line) = true ∧ okSc fd.scope ["self", "text"] = true ∧ okG fd.scope "Exception" = true ∧ fd.scope.isCoroutine = false ∧ fd.scope.isGenerator = false ∧ fd.globals = mainGlobals ∧ fd.builtins = builtinsNs ∧
    ∀ a b, bindArgs fd ⟨[a, b], []⟩ = pure [(("self" : Str), a), (("text" : Str), b)]

section
variable {prog : Program} {w : World} {X : St} {frs : List Env} {Cl : Addr} {ns : List Str} {l : Loc} {A : Around} {env : Env} {sc : Scope} {n : Nat} {CE fI : Addr}

theorem sim_raise {txt : Str} {p p1 p2 p3 : Pos} (O : StOk X) (G : GlobOk X) (EX : ExcOk X) (EI : ExcIn X CE fI) (EF : ExcFn X fI) (eo : EnvOk sc ns env Cl) (ao : AOk A frs n) (hk : env.kindOf "BadMove" = some .globalImplicit) :
    SimS true prog w X frs Cl ns l A (exec (.Raise (some (.Call (.Name "BadMove" p1) [.Constant (.str txt) 0 p2] [] p3)) Option.none p) env) (fun h => .exc l h) := fun ι ah s pt hnf => by
  refine Classical.byContradiction fun K => ?_
  obtain ⟨nm, q, N, bs, bm, hdct, sn, sub, ab, col, dd, k0, k1, k2, k3, k5, hC, c1, c2, c3, c4⟩ := EX.cls
  obtain ⟨o, fd, q1, q2, q3, q4, q5, q6, q7, q8, q9, q10, ho, hfd, hcr, hbody, hline, hsc, hex, hco, hgen, hglob, hbi, hbind⟩ := EF
  refine K ?_
  clear K
  rw [arm_exec_Raise]
  dsimp only [evalOpt]; simp only [Option.map]
  refine wpAny_bind (wpAny_standAt (x_raiseStmt (C := X.BM) (nm := nm) (q := q) (N := N) (bs := bs) (bm := bm) (hdct := hdct) (sn := sn) (sub := sub) (ab := ab) (col := col) (dd := dd) (k0 := k0) (k1 := k1) (k2 := k2) (k3 := k3) (k5 := k5) (newId := "Exception.__new__") c2 ao.hd ?_))
  refine wpAny_bind (wpAny_mono (Call_Name rfl (name_glob O eo pt.inv.base hk G.bad (by decide +kernel) (callWith_K (e := .Constant (.str txt) 0 p2) (rest := []) (first := []) O.kin EI.keep (wpAny_items_cons (wpAny_Constant_str (wpAny_items_nil (Q := fun vs s₁ => _ ∧ _) ⟨O.kin.keeps pt.inv.base, ?_⟩)))))) (fun v s₁ h₁ => wpAny_bind (wpAny_standAt (wpAny_pure h₁))) fun _ _ e => e)
  have KX : X.K.In s.heap := O.kin.keeps pt.inv.base
  obtain ⟨hh, g, dr, t, os⟩ := s
  show wpAny _ _ (call (.ref X.BM) [Value.str txt t]) _ _ ⟨hh, g, dr, t + 1, os⟩
  refine wpAny_call (x_make (h := hh) PySem.F.excBase_Exception c1 c3 c4 (pt.inv.base _ _ hC) (looks_findIn KX EI.ini) (fun self => bind_fn KX self EI.typ) ?_ (by simp [sizeLine_eq]))
  generalize hH : (hh.push { cls := .type "tuple", data := .seq [Value.str txt t].toArray }).push { cls := .ref X.BM, data := .fields #[.ref hh.objs.size, .none, .none, .none, .bool false, .none] } = H
  have kH : ∀ b o, hh.get? b = some o → H.get? b = some o := fun b o e => hH ▸ Heap.get?_push_of_some _ (Heap.get?_push_of_some _ e)
  have he : H.get? (hh.objs.size + 1) = some { cls := .ref X.BM, dict := none, data := .fields #[.ref hh.objs.size, .none, .none, .none, .bool false, .none] } := by
    have := Heap.get?_push_size (hh.push { cls := .type "tuple", data := .seq [Value.str txt t].toArray }) (o := { cls := .ref X.BM, data := .fields #[.ref hh.objs.size, .none, .none, .none, .bool false, .none] }) rfl
    rw [Heap.size_push, hH] at this
    exact this
  have hsz : H.objs.size = hh.objs.size + 2 := by rw [← hH, Heap.size_push, Heap.size_push]
  have ne : hh.get? (hh.objs.size + 1) = none := by
    cases q : hh.get? (hh.objs.size + 1) with
    | none => rfl
    | some o => exact absurd (Heap.lt_size q) (Nat.not_lt.mpr (Nat.le_succ _))
  have bH : X.base.StaysIn H := fun b o e => kH _ _ (pt.inv.base b o e)
  have nb : X.base.get? (hh.objs.size + 1) = none := none_of_stays pt.inv.base ne
  refine codeAny_call_def (fd := fd) (binds := [("self", .ref (hh.objs.size + 1)), ("text", .str txt t)]) ?_ (bH _ _ ho) hfd (O.nolimit.keeps bH) (hcr.keeps bH) hbody (.of_eq (hbind _ _)) (okSc_names hsc).2.2.1 ?_ (fun h₀ hns hk₀ => ?_) hco hgen (okSc_names hsc).1
  · rw [under_tc]; have := ao.dp; show A.depth + 1 < 1000; lia
  · have e1 : EnvOk fd.scope ["self", "text"] (callEnv fd 0 0) 0 := okSc_env hsc hglob hbi rfl rfl
    intro y hy
    rcases List.mem_cons.mp hy with rfl | hy
    · exact (e1.vars "self" (.head _)).1
    · rw [List.mem_singleton] at hy; subst hy
      exact (e1.vars "text" (.tail _ (.head _))).1
  · have e1 : EnvOk fd.scope ["self", "text"] (callEnv fd H.objs.size fI) H.objs.size := okSc_env hsc hglob hbi rfl rfl
    dsimp only at hk₀ hns
    refine x_body (s := ⟨h₀, g, dr, _, os⟩) (T0 := hh.objs.size) (v := .str txt t) (e := hh.objs.size + 1) O EI e1 (okG_env e1 hex) hline hC c1 (fun b o e => hk₀ _ _ (bH b o e)) nb hns (by rfl) (by rfl) (by rw [hsz]; exact Nat.ne_of_gt (Nat.lt_succ_self _)) (hk₀ _ _ he) fun h' tk d t' k' he' => ?_
    refine ⟨rfl, hh.objs.size + 1, t', d, rfl, ?_, he', ?_⟩
    · exact k' _ _ (fun z => by have := pt.inv.base _ _ hC; rw [z] at this; dsimp only at this; rw [ne] at this; cases this) (hk₀ _ _ (bH _ _ hC))
    · have k2 : ∀ b o, hh.get? b = some o → h'.get? b = some o := fun b o e => k' b o (fun z => by rw [z, ne] at e; cases e) (hk₀ _ _ (kH _ _ e))
      have st := Step.grown (s := ⟨hh, g, dr, t, os⟩) pt.inv k2 tk
      obtain ⟨nT, _, _, _⟩ := pt.inv.notFresh ne
      exact ⟨l, ah, ι, rfl, st.toL, pt.step st, .inr ⟨rfl, hh.objs.size + 1, .ref t', _, _, rfl, ne, nT, he', ⟨rfl, rfl⟩, rfl, rfl⟩⟩
end
end Mine
end

section
open PySem PySem.W PyProof.Rows PySem.Calls
set_option maxRecDepth 100000
set_option linter.unusedVariables false
namespace Mine

mutual
noncomputable def raises : S → Bool
  | .ite _ a b => raisesB a || raisesB b
  | .whil _ b => raisesB b
  | .forL _ _ b => raisesB b
  | .forR1 _ _ b => raisesB b
  | .forR2 _ _ _ b => raisesB b
  | .raise => true
  | .tryB b _ _ => raisesB b
  | _ => false
noncomputable def raisesB : Ss → Bool
  | .nil => false
  | .cons s r => raises s || raisesB r
end
noncomputable def swapOk (ns : List Str) (x : Nat) (t : PT) : Bool := ((t.k 1).p.line == (t.k 0).p.line) && !((t.k 0).scope.names.any fun y => y.1 == nm ns x && (y.2 == .local || y.2 == .cell))
noncomputable def asgOk (ns : List Str) (x : Nat) (t : PT) : E → Bool
  | .comp .. => swapOk ns x t
  | .compIf .. => false
  | _ => true
noncomputable def smb (i : Int) : Bool := decide (-4611686018427387904 < i) && decide (i < 4611686018427387904)
theorem smb_sm {i : Int} (h : smb i = true) : sm i := by
  unfold smb at h; simp only [Bool.and_eq_true, decide_eq_true_eq] at h; exact h
mutual
noncomputable def okS (sc : Scope) (ns : List Str) : S → PT → Bool
  | .assign x e, t => decide (x < ns.length) && (okE sc ns e (t.k 0) && asgOk ns x t e)
  | .assign2 x y e, t => decide (x < ns.length) && (decide (y < ns.length) && (okE sc ns e (t.k 0) && (notComp e && notTup e)))
  | .setAttr a _ e, t => okE sc ns a ((t.k 1).k 0) && (okE sc ns e (t.k 0) && notComp e)
  | .setIdx a i e, t => okE sc ns a ((t.k 1).k 0) && (okE sc ns i ((t.k 1).k 1) && (okE sc ns e (t.k 0) && notComp e))
  | .aug x e, t => decide (x < ns.length) && okE sc ns e (t.k 1)
  | .expr e, t => okE sc ns e (t.k 0) && notComp e
  | .ite c a b, t => okE sc ns c (t.k 0) && (okSs sc ns a (t.k 1).ks && okSs sc ns b (t.k 2).ks)
  | .whil c b, t => okE sc ns c (t.k 0) && okSs sc ns b (t.k 1).ks
  | .forL x e b, t => decide (x < ns.length) && (okE sc ns e (t.k 1) && okSs sc ns b (t.k 2).ks)
  | .forR1 x e b, t => decide (x < ns.length) && (okE sc ns e ((t.k 1).k 1) && (okSs sc ns b (t.k 2).ks && okG sc "range"))
  | .forR2 x i j b, t => decide (x < ns.length) && (smb i && (smb j && (okSs sc ns b (t.k 2).ks && okG sc "range")))
  | .ret e, t => okE sc ns e (t.k 0)
  | .raise, _ => okG sc "BadMove"
  | .tryB b _ _, t => okSs sc ns b (t.k 0).ks && (!raisesB b && (okG sc "BadMove" && okG sc "len"))
noncomputable def okSs (sc : Scope) (ns : List Str) : Ss → List PT → Bool
  | .nil, _ => true
  | .cons s r, ts => okS sc ns s (ts.getD 0 default) && okSs sc ns r (ts.drop 1)
end

theorem noSlice_un (ns : List Str) : ∀ (e : E) (t : PT), (match unE ns e t with | .Slice _ _ none _ => true | _ => false) = false := fun e t => by
  cases e <;> rfl
theorem cmpV_noexc {op : Cop} {h h' : H} {x y : V} : cmpV op h x y ≠ .exc h' := by
  intro z
  obtain ⟨b, e⟩ := cmpV_ok (op := op) (h := h) (x := x) (y := y) (by rw [z]; simp)
  rw [z] at e; cases e
theorem lenV_noexc {h h' : H} {x : V} : lenV h x ≠ .exc h' := by
  unfold lenV; split <;> simp
theorem tail_noexc {c : Ctx} {x y : Nat} {l : Loc} {h h' : H} : evE c (.not (.cmp2 .le .lt (.int 0) (.var x) (.len (.var y)))) l h ≠ .exc h' := by
  dsimp only [evE]
  cases e1 : l x with
  | none => simp [R.bind]
  | some v =>
    simp only [R.bind]
    cases e2 : cmpV .le h (.int 0) v with
    | ok r h1 =>
      dsimp only
      cases r with
      | bool b =>
        cases b with
        | false => simp
        | true =>
          dsimp only
          cases e3 : l y with
          | none => simp
          | some u =>
            dsimp only
            cases e4 : lenV h1 u with
            | ok z h2 =>
              dsimp only
              cases e5 : cmpV .lt h2 v z with
              | ok r h3 => cases r <;> simp
              | exc h3 => exact absurd e5 cmpV_noexc
              | fail => simp
            | exc h2 => exact absurd e4 lenV_noexc
            | fail => simp
      | _ => simp
    | exc h1 => exact absurd e2 cmpV_noexc
    | fail => simp

structure GroundX (prog : Program) (w : World) (X : St) (c : Ctx) (n : Nat) : Prop extends Ground prog w X c n where
  EX : ExcOk X
  EI : ∃ CE fI, ExcIn X CE fI ∧ ExcFn X fI

theorem and_split {a b : Bool} (h : (a && b) = true) : a = true ∧ b = true := by rwa [Bool.and_eq_true] at h
theorem swap_comp {env : Env} {pe : PySem.Expr} {gs : List PySem.Comprehension} {scope : Scope} {p p' : Pos} {x : Str} {line : Nat} (h1 : env.blockKind = .function) (h2 : env.kindOf x = some .local) (h3 : (p'.line == p.line) = true)
    (h4 : (!(scope.names.any fun y => y.1 == x && (y.2 == .local || y.2 == .cell))) = true) : swapsWith (.ListComp pe gs scope p) (some (.Name x p')) line env = pure true := by
  have : swapsWith (.ListComp pe gs scope p) (some (.Name x p')) line env = pure (env.blockKind == .function && env.kindOf x == some .local && p'.line == p.line && !(scope.names.any fun y => y.1 == x && (y.2 == .local || y.2 == .cell))) := rfl
  rw [this, h1, h2, h3, h4]; rfl

section
variable {prog : Program} {w : World} {X : St} {outer : List Env} {Cl : Addr} {ns : List Str} {A : Around} {env : Env} {sc : Scope} {c : Ctx} {n : Nat}

mutual
theorem sim_S (gr : GroundX prog w X c n) (ao : AOk A (env :: outer) n) (hf : env.frame = some Cl) (eo : EnvOk sc ns env Cl) : ∀ (s : S) (t : PT) (l : Loc) (rz : Bool), okS sc ns s t = true → (raises s = true → rz = true) →
    SimS rz prog w X (env :: outer) Cl ns l A (exec (unS ns s t) env) (fun h => evS c s l h)
  | .assign x e, t, l, rz, ok, hr => by
    dsimp only [okS] at ok; simp only [Bool.and_eq_true, decide_eq_true_eq] at ok
    obtain ⟨hx, o1, o2⟩ := ok
    by_cases hc : notComp e = true
    · have := sim_assign (rz := rz) (p := t.p) (p' := (t.k 1).p) eo hx (swaps_un ns env _ _ e (t.k 0) hc) (sim_E gr.toGround ao e (t.k 0) l eo o1).1
      exact this
    · cases e with
      | comp e two s =>
        dsimp only [okE] at o1; simp only [Bool.and_eq_true, decide_eq_true_eq] at o1
        obtain ⟨q1, q2, q3, q4⟩ := o1
        obtain ⟨h1, h2, h3, h4⟩ := okSc_names q3
        have eoc : ∀ C, EnvOk (t.k 0).scope (cnames (t.k 0).scope) (compEnv (t.k 0).scope C env) C := fun C => okSc_env q3 eo.glob eo.bi rfl rfl
        have o2 := and_split (show (((t.k 1).p.line == (t.k 0).p.line) && !((t.k 0).scope.names.any fun y => y.1 == nm ns x && (y.2 == .local || y.2 == .cell))) = true from o2)
        have bk : env.blockKind = .function := by unfold Env.blockKind; rw [eo.kind]; rfl
        have := sim_assignComp (c := c) (rz := rz) (p2 := t.p) (p' := (t.k 1).p) (p := (t.k 0).p) (two := two) (tt := (t.k 0).k 1) eo hx (swap_comp bk (eo.vars _ (nm_mem hx)).1 o2.1 o2.2) h2 h3 h1 h4 eoc q4 ao.hd (folded_un ns env s _) (sim_E gr.toGround ao s _ l eo q2).1 (fun C l' => (sim_E gr.toGround ao e _ l' (eoc C) q1).1) (fun C l' => sim_cond0)
        exact this
      | compIf e two s d => exact Bool.noConfusion (show false = true from o2)
      | _ => exact absurd rfl hc
  | .assign2 x y e, t, l, rz, ok, hr => by
    dsimp only [okS] at ok; simp only [Bool.and_eq_true, decide_eq_true_eq] at ok
    obtain ⟨hx, hy, o1, o2, o3⟩ := ok
    have := sim_assign2 (rz := rz) (p := t.p) (p0 := (t.k 1).p) (p1 := ((t.k 1).k 0).p) (p2 := ((t.k 1).k 1).p) ao.hd eo hx hy (fun tgt line => swaps_un ns env tgt line e (t.k 0) o2) (swapped_un ns env _ _ _ e (t.k 0) o3) (sim_E gr.toGround ao e (t.k 0) l eo o1).1
    exact this
  | .setAttr a f e, t, l, rz, ok, hr => by
    dsimp only [okS] at ok; simp only [Bool.and_eq_true] at ok
    obtain ⟨o1, o2, o3⟩ := ok
    have := sim_setAttr (rz := rz) (f := f) (p := t.p) (p' := (t.k 1).p) gr.O gr.Y (fun tgt line => swaps_un ns env tgt line e (t.k 0) o3) (sim_E gr.toGround ao e (t.k 0) l eo o2).1 (sim_E gr.toGround ao a _ l eo o1).1
    exact this
  | .setIdx a i e, t, l, rz, ok, hr => by
    dsimp only [okS] at ok; simp only [Bool.and_eq_true] at ok
    obtain ⟨o1, o2, o3, o4⟩ := ok
    have := sim_setIdx (rz := rz) (p := t.p) (p' := (t.k 1).p) (fun tgt line => swaps_un ns env tgt line e (t.k 0) o4) (noSlice_un ns i _) (sim_E gr.toGround ao e (t.k 0) l eo o3).1 (sim_E gr.toGround ao a _ l eo o1).1 (sim_E gr.toGround ao i _ l eo o2).1
    exact this
  | .aug x e, t, l, rz, ok, hr => by
    dsimp only [okS] at ok; simp only [Bool.and_eq_true, decide_eq_true_eq] at ok
    have := sim_aug (rz := rz) (p := t.p) (p' := (t.k 0).p) eo ok.1 (sim_E gr.toGround ao e (t.k 1) l eo ok.2).1
    exact this
  | .expr e, t, l, rz, ok, hr => by
    dsimp only [okS] at ok; simp only [Bool.and_eq_true] at ok
    have := sim_expr (rz := rz) (p := t.p) eo (swaps_un ns env _ _ e (t.k 0) ok.2) (sim_E gr.toGround ao e (t.k 0) l eo ok.1).1
    exact this
  | .ite d a b, t, l, rz, ok, hr => by
    dsimp only [okS] at ok; simp only [Bool.and_eq_true] at ok
    have r1 : raisesB a = true → rz = true := fun z => hr (by dsimp only [raises]; simp [z])
    have r2 : raisesB b = true → rz = true := fun z => hr (by dsimp only [raises]; simp [z])
    have := sim_ite (p := t.p) (sim_E gr.toGround ao d (t.k 0) l eo ok.1).2.1 (sim_Ss gr ao hf eo a (t.k 1).ks l rz ok.2.1 r1) (sim_Ss gr ao hf eo b (t.k 2).ks l rz ok.2.2 r2)
    exact this
  | .whil d b, t, l, rz, ok, hr => by
    dsimp only [okS] at ok; simp only [Bool.and_eq_true] at ok
    have r1 : raisesB b = true → rz = true := fun z => hr (by dsimp only [raises]; simp [z])
    have := sim_whil (l := l) (p := t.p) (fu := c.fu) (fun l => (sim_E gr.toGround ao d (t.k 0) l eo ok.1).2.1) (fun l => sim_Ss gr ao hf eo b (t.k 1).ks l rz ok.2 r1)
    exact this
  | .forL x e b, t, l, rz, ok, hr => by
    dsimp only [okS] at ok; simp only [Bool.and_eq_true, decide_eq_true_eq] at ok
    have r1 : raisesB b = true → rz = true := fun z => hr (by dsimp only [raises]; simp [z])
    have := sim_forL (l := l) (p := t.p) (p0 := (t.k 0).p) (fu := c.fu) ao.hd eo ok.1 (folded_un ns env e _) (sim_E gr.toGround ao e (t.k 1) l eo ok.2.1).1 (fun l => sim_Ss gr ao hf eo b (t.k 2).ks l rz ok.2.2 r1)
    exact this
  | .forR1 x e b, t, l, rz, ok, hr => by
    dsimp only [okS] at ok; simp only [Bool.and_eq_true, decide_eq_true_eq] at ok
    have r1 : raisesB b = true → rz = true := fun z => hr (by dsimp only [raises]; simp [z])
    have := sim_forR1 (l := l) (p := t.p) (p0 := (t.k 0).p) (p1 := ((t.k 1).k 0).p) (p2 := (t.k 1).p) gr.O gr.G ao.hd eo ok.1 (okG_env eo ok.2.2.2) (plain1_un ns env e _) (sim_E gr.toGround ao e _ l eo ok.2.1).1 (fun l => sim_Ss gr ao hf eo b (t.k 2).ks l rz ok.2.2.1 r1)
    exact this
  | .forR2 x i j b, t, l, rz, ok, hr => by
    dsimp only [okS] at ok; simp only [Bool.and_eq_true, decide_eq_true_eq] at ok
    have r1 : raisesB b = true → rz = true := fun z => hr (by dsimp only [raises]; simp [z])
    have := sim_forR2 (l := l) (p := t.p) (p0 := (t.k 0).p) (p1 := ((t.k 1).k 0).p) (p2 := (t.k 1).p) (p3 := ((t.k 1).k 1).p) (p4 := ((t.k 1).k 2).p) gr.O gr.G ao.hd eo ok.1 (okG_env eo ok.2.2.2.2) (smb_sm ok.2.1) (smb_sm ok.2.2.1) (fun l => sim_Ss gr ao hf eo b (t.k 2).ks l rz ok.2.2.2.1 r1)
    exact this
  | .ret e, t, l, rz, ok, hr => by
    dsimp only [okS] at ok
    have := sim_ret (rz := rz) (p := t.p) (sim_E gr.toGround ao e (t.k 0) l eo ok).1
    exact this
  | .raise, t, l, rz, ok, hr => by
    dsimp only [okS] at ok
    obtain ⟨CE, fI, EI, EF⟩ := gr.EI
    have hz : rz = true := hr rfl
    subst hz
    have := sim_raise (prog := prog) (w := w) (l := l) (ns := ns) (txt := PySem.Str.ofString "no such way on") (p := t.p) (p1 := ((t.k 0).k 0).p) (p2 := ((t.k 0).k 1).p) (p3 := (t.k 0).p) gr.O gr.G gr.EX EI EF eo ao (okG_env eo ok)
    exact this
  | .tryB b x y, t, l, rz, ok, hr => by
    dsimp only [okS] at ok; simp only [Bool.and_eq_true, Bool.not_eq_true'] at ok
    obtain ⟨o1, o2, o3, o4⟩ := ok
    have hu : ∀ e : Addr, (A.mark (some (.ref e))).units + 20 < cLine := fun e => by have := ao.un; show A.units + 20 < 9900; lia
    have := sim_try (rz := rz) (l := l) (b := unSs ns b (t.k 0).ks) (rb := fun h => evSs c b l h) (rk := fun l' => evE c (.not (.cmp2 .le .lt (.int 0) (.var x) (.len (.var y)))) l') (p := t.p) (p1 := (((t.k 1).k 0).k 0).p) (p3 := ((t.k 1).k 0).p) gr.O gr.G gr.EX ao.fr hf eo (okG_env eo o3)
      (sim_Ss gr ao hf eo b (t.k 0).ks l false o1 (fun z => by rw [o2] at z; cases z))
      (pe := unE ns (.not (.cmp2 .le .lt (.int 0) (.var x) (.len (.var y)))) (((((t.k 1).k 0).k 1).ks.getD 0 default).k 0)) (p2 := ((((t.k 1).k 0).k 1).ks.getD 0 default).p)
      (fun e l' => by
        dsimp only [unE]
        exact sim_not (sim_cmp2 (behind_un ns _ (.len (.var y)) (((((((t.k 1).k 0).k 1).ks.getD 0 default).k 0).k 0).k 2)) (hu e) sim_int (sim_var eo) (sim_bi1 gr.O eo gr.G.len (okG_env eo o4) (by decide +kernel) (plain1_un ns env (.var y) _) (sim_var eo) fun x ah ι c s I hv hn => leaf_len I hv hn)))
      (fun l' h h' => tail_noexc)
    exact this
theorem sim_Ss (gr : GroundX prog w X c n) (ao : AOk A (env :: outer) n) (hf : env.frame = some Cl) (eo : EnvOk sc ns env Cl) : ∀ (s : Ss) (ts : List PT) (l : Loc) (rz : Bool), okSs sc ns s ts = true → (raisesB s = true → rz = true) →
    SimS rz prog w X (env :: outer) Cl ns l A (execs (unSs ns s ts) env) (fun h => evSs c s l h)
  | .nil, ts, l, rz, ok, hr => by
    have := sim_nil (prog := prog) (w := w) (X := X) (frs := env :: outer) (Cl := Cl) (ns := ns) (l := l) (A := A) (env := env) (rz := rz)
    exact this
  | .cons s r, ts, l, rz, ok, hr => by
    dsimp only [okSs] at ok; simp only [Bool.and_eq_true] at ok
    have r1 : raises s = true → rz = true := fun z => hr (by dsimp only [raisesB]; simp [z])
    have r2 : raisesB r = true → rz = true := fun z => hr (by dsimp only [raisesB]; simp [z])
    have := sim_cons (sim_S gr ao hf eo s (ts.getD 0 default) l rz ok.1 r1) (fun l' => sim_Ss gr ao hf eo r (ts.drop 1) l' rz ok.2 r2)
    exact this
end
end
end Mine
end

section
open PySem PySem.W PyProof.Rows PySem.Calls
set_option maxRecDepth 100000
set_option linter.unusedVariables false
namespace Mine

section
variable {M : Model} {A : Around} {X : St} {frs : List Env} {Cl L e T : Addr} {ns : List Str} {l : Loc} {env : Env} {ι ι₁ : Iota} {ah ah₁ : H} {s s₁ : Shared} {h h' : Heap}

/-- a thing that the hidden heap lacks and that stands is hidden -/
theorem hidden_of {b : Addr} {o : Obj} (n : (hideAll h (hidden frs e T)).get? b = none) (ho : h.get? b = some o) : b = e ∨ b = T ∨ Frm frs b := by
  by_cases hm : b ∈ hidden frs e T
  · rcases List.mem_cons.mp hm with z | hm
    · exact .inl z
    · rcases List.mem_cons.mp hm with z | hm
      · exact .inr (.inl z)
      · exact .inr (.inr (frm_iff.mpr hm))
  · have := hideAll_get _ ho hm
    rw [n] at this; cases this

theorem entry_fresh {T' : Addr} {oT : Obj} {ts : Array Value} (I : Inv X frs Cl ι₁ ah₁ s₁.heap) (st : StepL X frs Cl ι s ι₁ ah₁ s₁) (N : Noise frs (fun b => b = e ∨ b = T) s₁.heap h') (f1 : s.heap.get? e = none) (f2 : s.heap.get? T = none) (n1 : ¬ Tr ι₁ e) (n2 : ¬ Tr ι₁ T)
    (ap : ∀ b, (b = e ∨ b = T) → ¬ Frm frs b)
    (nb : (hideAll s₁.heap (hidden frs e T)).get? T' = none) (hT : h'.get? T' = some oT) (hd : oT.data = .fields ts) : s.heap.get? T' = none ∧ ¬ Tr ι₁ T' := by
  have nf : ¬ Frm frs T' := fun hf => by
    obtain ⟨_, o', ho', hd'⟩ := I.frames.mem (frm_iff.mp hf)
    obtain ⟨sl, hs, _⟩ := N T' o' ho' (fun d => ap _ d hf)
    rw [hT] at hs; cases hs
    exact hd' _ hd
  constructor
  · cases q : s.heap.get? T' with
    | none => rfl
    | some o =>
      obtain ⟨o', ho'⟩ := st.alive q
      rcases hidden_of nb ho' with z | z | z
      · rw [z, f1] at q; cases q
      · rw [z, f2] at q; cases q
      · exact absurd z nf
  · intro t
    obtain ⟨o', ho'⟩ := I.led.alive t
    rcases hidden_of nb ho' with z | z | z
    · exact n1 (z ▸ t)
    · exact n2 (z ▸ t)
    · exact nf z

/-- an exception leaves a frame -/
theorem leave_sim {ex : Value} {E : Value → Shared → Prop} (hfr : A.frames = some (env :: frs)) (hf : env.frame = some L) (hb : X.base.StaysIn s.heap)
    (pt : Pt X (env :: frs) L ns l ι₁ ah₁ s₁) (st : StepL X (env :: frs) L ι s ι₁ ah₁ s₁) (x : ExcObj X ι₁ s.heap ex s₁.heap ∨ FreshExc X ι₁ s.heap ex s₁.heap) :
    wpAny M A (leaving env ex) (fun _ s₂ => StepL X (env :: frs) L ι s ι₁ ah₁ s₂ ∧ ExcObj X ι₁ s.heap ex s₂.heap) E s₁ := by
  rcases x with ⟨e, T, a0, rfl, f1, f2, n1, n2, tr⟩ | ⟨e, a0, oe, vs, rfl, f1, n1, he, hc, hd, h1⟩
  · have ap := exc_apart pt.inv tr n1 n2 (none_of_stays hb f1) (none_of_stays hb f2)
    refine wpAny_leaves_onW hfr hf (flying_of pt.inv tr) fun h' hfl up => ?_
    have N := noise_of pt.inv hfl.1 up
    refine ⟨st.noise N ap (fun b hb => by rcases hb with rfl | rfl <;> assumption), ?_⟩
    obtain ⟨_, _, _, oe, vs, T', oT, ts, h1, h2, h3, h4, h5, h6, h7, h8, h9⟩ := hfl
    obtain ⟨g1, g2⟩ := entry_fresh pt.inv st N f1 f2 n1 n2 (fun b hb => (ap b hb).2.1) h5 h7 h8
    exact ⟨e, T', a0, rfl, f1, g1, n1, g2, oe, vs, oT, ts, h1, h2, h3, h4, h6, h7, h8, h9⟩
  · have nfr : ¬ Frm (env :: frs) e := fun hf => by
      obtain ⟨_, o', ho', hd'⟩ := pt.inv.frames.mem (frm_iff.mp hf)
      rw [he] at ho'; cases ho'; exact hd' _ hd
    have nL : e ≠ L := fun z => by
      obtain ⟨o, es, n, ho, hd'⟩ := pt.inv.loc
      rw [z, ho] at he; cases he; rw [hd'] at hd; cases hd
    have ap : ∀ b, (b = e ∨ b = e) → ¬ Tr ι₁ b ∧ ¬ Frm (env :: frs) b ∧ b ≠ L ∧ X.base.get? b = none := fun b hbe => by
      have : b = e := by rcases hbe with z | z <;> exact z
      subst this
      exact ⟨n1, nfr, nL, none_of_stays hb f1⟩
    have frH : s₁.heap.FunFrames (hideAll s₁.heap (hidden (env :: frs) e e)) (env :: frs) := funFrames_hide pt.inv.frames fun env he a hf => .tail _ (.tail _ (List.mem_filterMap.mpr ⟨env, he, hf⟩))
    refine wpAny_leaving_firstW (base := hideAll s₁.heap (hidden (env :: frs) e e)) (a0 := a0) hfr frH hf he stays_hide (hideAll_none _ (.head _)) hd h1 hc.2 fun h' hL => ?_
    obtain ⟨k1, k2, k3, k4⟩ := hL
    have N := noise_of (e := e) (T := e) pt.inv k1 k4
    refine ⟨st.noise N ap (fun b hb => by rcases hb with rfl | rfl <;> assumption), ?_⟩
    obtain ⟨oe', vs', T', oT, ts, h1', h2, h3, h4, h5, h6, h7, h8, h9⟩ := k3
    obtain ⟨g1, g2⟩ := entry_fresh pt.inv st N f1 f1 n1 n1 (fun b hb => (ap b hb).2.1) h5 h7 h8
    rw [hc.1] at h2
    exact ⟨e, T', a0, rfl, f1, g1, n1, g2, oe', vs', oT, ts, h1', h2, h3, h4, h6, h7, h8, h9⟩
end

noncomputable def vars (i : Nat) : List Str := (fnVars.getD i []).map PySem.Str.ofString
/-- a function of the program, as it stands on the heap -/
noncomputable def FnFull (X : St) (i k : Nat) (b : Ss) : Prop :=
  ∃ o fd ts, X.base.get? (X.fa i) = some o ∧ o.data = .func fd ∧ X.base.CodeRec fd.code fd.qualname ∧ fd.body = .stmts (unSs (vars i) b ts) ∧ fd.globals = mainGlobals ∧ fd.builtins = builtinsNs ∧
    okSc fd.scope (vars i) = true ∧ fd.scope.isCoroutine = false ∧ fd.scope.isGenerator = false ∧ okSs fd.scope (vars i) b ts = true ∧ k ≤ (vars i).length ∧ ∀ cs, cs.length = k → bindArgs fd ⟨cs, []⟩ = pure (((vars i).take k).zip cs)

theorem zip_lookup {cs : List Value} : ∀ {names : List Str}, names.Nodup → ∀ (x : Nat), x < names.length → ∀ c, cs[x]? = some c → ((names.zip cs).reverse).lookup (names.getD x Str.empty) = some c := by
  induction cs with
  | nil => intro names _ x _ c h; simp at h
  | cons d ds ih =>
    intro names nd x hx c h
    cases names with
    | nil => simp at hx
    | cons n ns =>
      rw [List.zip_cons_cons, List.reverse_cons, List.lookup_append]
      cases x with
      | zero =>
        simp only [List.getElem?_cons_zero, Option.some.injEq] at h
        subst h
        have : ((ns.zip ds).reverse).lookup n = none := by
          rw [List.lookup_eq_none_iff]
          intro p hp
          have hp' := List.mem_reverse.mp hp
          have : p.1 ∈ ns := (List.of_mem_zip hp').1
          have hne : n ≠ p.1 := fun z => (List.nodup_cons.mp nd).1 (z ▸ this)
          simpa using hne
        show (((ns.zip ds).reverse).lookup n).or _ = _
        rw [this]
        simp
      | succ x =>
        have hx' : x < ns.length := by simpa using hx
        have := ih (List.nodup_cons.mp nd).2 x hx' c (by simpa using h)
        show (((ns.zip ds).reverse).lookup (ns.getD x Str.empty)).or _ = _
        rw [this]; rfl

section
variable {prog : Program} {w : World} {X : St} {fu : Nat}

theorem params_loc {ι : Iota} {vs : List V} {cs : List Value} {ns : List Str} {k : Nat} (nd : ns.Nodup) (hk : k ≤ ns.length) (hv : VRs ι vs cs) (hl : vs.length = k) : LocR ι ns (params vs) (fun x => ((ns.take k).zip cs).reverse.lookup x) := fun x v e => by
  have hx : x < vs.length := (List.getElem?_eq_some_iff.mp e).1
  obtain ⟨c, hc, vc⟩ := hv.get x v e
  refine ⟨by lia, c, ?_, vc⟩
  have ndk : (ns.take k).Nodup := nd.sublist (List.take_sublist ..)
  have := zip_lookup (cs := cs) ndk x (by simp; lia) c hc
  have e2 : (ns.take k).getD x Str.empty = nm ns x := by
    unfold nm
    rw [List.getD_eq_getElem?_getD, List.getD_eq_getElem?_getD, List.getElem?_take_of_lt (by lia)]
  rw [e2] at this
  exact this

theorem call_fn {n f k : Nat} {b : Ss} (O : StOk X) (F : FnFull X f k b) (gr : GroundX prog w X ⟨fu, callN fu n⟩ n) {vs : List V} {cs : List Value} {frs : List Env} {Cl : Addr} {ι : Iota} {ah : H} {s : Shared} {A : Around} (ao : AOc A frs (n + 1)) (I : Inv X frs Cl ι ah s.heap) (hv : VRs ι vs cs) (hl : vs.length = k)
    {r : R V} (hr : r = match evSs ⟨fu, callN fu n⟩ b (params vs) ah with
        | .ret v h' => .ok v h'
        | .nxt _ h' => .ok .none h'
        | .exc _ h' => .exc h'
        | .fail => .fail) (hnf : r ≠ .fail) : codeAny (model prog w) A (.call (.ref (X.fa f)) ⟨cs, []⟩) (RetC X frs Cl ι s r) s := by
  obtain ⟨o, fd, ts, ho, hfd, hcr, hbody, hglob, hbi, hsc, hco, hgen, hok, hkl, hbind⟩ := F
  have hn := okSc_names hsc
  have e0 : EnvOk fd.scope (vars f) (callEnv fd 0 0) 0 := okSc_env hsc hglob hbi rfl rfl
  refine codeAny_call_def (fd := fd) (binds := ((vars f).take k).zip cs) ?_ (I.base _ _ ho) hfd (O.nolimit.keeps I.base) (hcr.keeps I.base) hbody (.of_eq (hbind cs (by rw [hv.length, hl]))) hn.2.2.1 (fun y hy => ?_) (fun h₀ hns hk₀ => ?_) hco hgen hn.1
  · have := ao.dp; show A.depth < 1000; lia
  · exact (e0.vars y.1 (List.mem_of_mem_take (List.of_mem_zip hy).1)).1
  · have eo : EnvOk fd.scope (vars f) (callEnv fd s.heap.objs.size (X.fa f)) s.heap.objs.size := okSc_env hsc hglob hbi rfl rfl
    have hf : (callEnv fd s.heap.objs.size (X.fa f)).frame = some s.heap.objs.size := rfl
    have I₀ := I.enter (fresh_none s.heap) hf eo.kind hk₀ hns
    generalize henv : callEnv fd s.heap.objs.size (X.fa f) = env at eo hf I₀ ⊢
    have ao' : AOk (A.deeper env) (env :: frs) n := ⟨by show A.frames.map _ = _; rw [ao.fr]; rfl, ao.hd, by have := ao.dp; show A.depth + 1 + 2 * n + 2 ≤ 990; lia, by have := ao.un; show A.units + 3 + 10 * n + 40 ≤ 9000; lia⟩
    have pt₀ : Pt X (env :: frs) s.heap.objs.size (vars f) (params vs) ι ah { s with heap := h₀, toks := s.toks + (((vars f).take k).zip cs).length } := ⟨I₀, _, hns, params_loc eo.nd hkl hv hl⟩
    have hs0 : evSs ⟨fu, callN fu n⟩ b (params vs) ah ≠ .fail := fun z => hnf (by rw [hr, z])
    have main := sim_Ss gr ao' hf eo b ts (params vs) true hok (fun _ => rfl) ι ah _ pt₀ hs0
    dsimp only at main
    have lv : ∀ {ι₁ ah₁ s₁}, StepL X (env :: frs) s.heap.objs.size ι { s with heap := h₀, toks := s.toks + (((vars f).take k).zip cs).length } ι₁ ah₁ s₁ → Step X frs Cl ι s ι₁ ah₁ s₁ := fun st => Step.leave I (fresh_none s.heap) hf hk₀ ⟨_, _, rfl⟩ st
    refine wpAny_mono main (fun fl s₁ h₁ => ?_) fun ex s₁ h₁ => ?_
    · cases q : evSs ⟨fu, callN fu n⟩ b (params vs) ah with
      | nxt l' ah₁ =>
        rw [q] at h₁ hr
        obtain ⟨rfl, ι₁, st, _⟩ := h₁
        exact ⟨.none, ah₁, ι₁, hr, lv st, rfl⟩
      | ret v ah₁ =>
        rw [q] at h₁ hr
        obtain ⟨ι₁, d, rfl, st, rv⟩ := h₁
        exact ⟨v, ah₁, ι₁, hr, lv st, rv⟩
      | exc l' h' => rw [q] at h₁; exact h₁.elim
      | fail => exact absurd q hs0
    · obtain ⟨l', ah₁, ι₁, e', st, pt₁, x⟩ := h₁
      rw [e'] at hr
      refine wpAny_mono (leave_sim (A := A.deeper env) ao'.fr hf (fun b o e => hk₀ b o (I.base b o e)) pt₁ st (x.imp_right (·.2))) (fun _ s₂ h₂ => ?_) fun _ _ h => h
      obtain ⟨st₂, e, T, a0, rfl, f1, f2, r3⟩ := h₂
      have back : ∀ b, h₀.get? b = none → s.heap.get? b = none := fun b hb => by
        cases q : s.heap.get? b with
        | none => rfl
        | some o => have := hk₀ b o q; rw [hb] at this; cases this
      exact ⟨ah₁, ι₁, hr, lv st₂, e, T, a0, rfl, back _ f1, back _ f2, r3⟩

structure Base0 (prog : Program) (w : World) (X : St) : Prop where
  O : StOk X
  Y : ClsOk X
  G : GlobOk X
  U : FunOk X
  EX : ExcOk X
  EI : ∃ CE fI, ExcIn X CE fI ∧ ExcFn X fI
  fn : ∀ i k b, i < 29 → fnArity[i]? = some k → fnBody[i]? = some b → FnFull X i k b

theorem call_ok (B : Base0 prog w X) : ∀ n, CallOk prog w X ⟨fu, callN fu n⟩ n := by
  intro n
  induction n with
  | zero => intro f vs cs frs Cl ι ah s A _ _ _ _ hnf; exact absurd rfl hnf
  | succ n ih =>
    have gr : GroundX prog w X ⟨fu, callN fu n⟩ n := ⟨⟨B.O, B.Y, B.G, B.U, ih⟩, B.EX, B.EI⟩
    intro f vs cs frs Cl ι ah s A hf ao I hv hnf
    dsimp only at hnf ⊢
    have hU : ∀ k b, fnArity[f]? = some k → fnBody[f]? = some b → callN fu (n + 1) f vs ah = if vs.length = k then (match evSs ⟨fu, callN fu n⟩ b (params vs) ah with
        | .ret v h' => .ok v h'
        | .nxt _ h' => .ok .none h'
        | .exc _ h' => .exc h'
        | .fail => .fail) else .fail := fun k b e1 e2 => by dsimp only [callN]; simp only [e1, e2] <;> rfl
    have la : fnArity.length = 30 := rfl
    have lb : fnBody.length = 30 := rfl
    have e1 : fnArity[f]? = some fnArity[f] := List.getElem?_eq_getElem (by lia)
    have e2 : fnBody[f]? = some fnBody[f] := List.getElem?_eq_getElem (by lia)
    have q := hU _ _ e1 e2
    by_cases hl : vs.length = fnArity[f]
    · rw [if_pos hl] at q
      exact call_fn B.O (B.fn f _ _ hf e1 e2) gr ao I hv hl q hnf
    · rw [if_neg hl] at q
      exact absurd q hnf
end
end Mine
end

section
open PySem PySem.W PyProof.Rows PySem.Calls
set_option maxRecDepth 100000
set_option linter.unusedVariables false
namespace Mine

section
variable {prog : Program} {w : World} {X : St} {outer : List Env} {L scr : Addr} {A : Around} {env : Env} {sc : Scope} {n fu : Nat} {s : Shared} {m : Str → Option Value}

noncomputable def stmt1 (p1 p2 p3 p4 p5 p6 p7 p8 : Pos) : PySem.Stmt := .Assign [.Name "nums" p1] (.Call (.Name "list" p2) [.Subscript (.Name "script" p3) (.Slice Option.none (some (.Constant (.int 18) 0 p4)) Option.none p5) p6] [] p7) p8

theorem law_run (B : Base0 prog w X) (ao : AOk A (env :: outer) n) (hf : env.frame = some L) (eo : EnvOk sc (vars 29) env L) (hkl : env.kindOf "list" = some .globalImplicit) (I : Inv X (env :: outer) L [] [] s.heap) (hns : s.heap.Ns L m) (hscr : m "script" = some (.ref scr)) {cs : List Value} {xs : List Int}
    (hl : s.heap.IsList scr cs.toArray) (hI : VRs [] (xs.map V.int) cs) (hz : xs.length ≤ 63) {ts : List PT} (hok : okSs sc (vars 29) b_law ts = true) {p1 p2 p3 p4 p5 p6 p7 p8 : Pos} {h' : H}
    (hlaw : evSs ⟨fu, callN fu n⟩ b_law (fun x => if x = 1 then some (.ref 0) else none) [.lst ((xs.take 18).map V.int)] = .ret (.bool true) h')
    {Q : Flow → Shared → Prop} {E : Value → Shared → Prop} (hq : ∀ h tk, X.base.StaysIn h → Q (.ret (.bool true)) { s with heap := h, toks := tk }) :
    wpAny (model prog w) A (execs (stmt1 p1 p2 p3 p4 p5 p6 p7 p8 :: unSs (vars 29) b_law ts) env) Q E s := by
  have gr : GroundX prog w X ⟨fu, callN fu n⟩ n := ⟨⟨B.O, B.Y, B.G, B.U, call_ok B n⟩, B.EX, B.EI⟩
  have e1 : nm (vars 29) 1 = "nums" := by decide +kernel
  have h1 : 1 < (vars 29).length := by decide +kernel
  refine wpAny_execs_cons (PySem.wpAny_Assign_Name ?_ rfl)
  refine PyProof.Rows.Call_Name rfl (name_bi B.O eo I.base hkl B.G.list (by decide +kernel) (PySem.callWith_type1 (PyProof.Rows.Subscript_ ?_)))
  refine wpAny_Name (wpAny_loadName_local eo.kind (eo.vars "script" (by decide +kernel)).1 (eo.loc ▸ hns) hscr ?_) (by decide +kernel)
  refine wpAny_Slice (wpAny_pure (wpAny_Constant_int (k := 0) (pos := p4) (wpAny_pure ?_)))
  have hcl : cs.length = xs.length := by rw [hI.length]; simp
  have hsz : cs.toArray.size ≤ sizeLine := by rw [List.size_toArray, hcl, sizeLine_eq]; lia
  have nS : ∀ b o, s.heap.get? b = some o → (s.heap.push { cls := .type "slice", data := .fields #[.none, .int 18 s.toks, .none] }).get? b = some o := fun b o e => Heap.get?_push_of_some _ e
  refine tail_any (hl.push _).typeIs slot_list_getitem.lookup (PySem.wpAny_getItem_list_slice (hsz := hsz) (hl.push _) (Heap.IsSliceOf.new ..) .none (.int _ _) .none (by decide) ?_) (by with_unfolding_all rfl)
  have hpick : slicePick cs.toArray Option.none (some (18 : Int)) Option.none = (cs.take 18).toArray := PySem.slicePick_upto' cs.toArray 18
  rw [hpick]
  generalize hH1 : s.heap.push { cls := .type "slice", data := .fields #[.none, .int 18 s.toks, .none] } = H1 at nS ⊢
  have k2 : ∀ b o, s.heap.get? b = some o → (H1.push { cls := .type "list", data := .seq (cs.take 18).toArray }).get? b = some o := fun b o e => Heap.get?_push_of_some _ (nS b o e)
  have g2 : (H1.push { cls := .type "list", data := .seq (cs.take 18).toArray }).get? H1.objs.size = some (listOf (cs.take 18).toArray 0) := Heap.get?_push_size _ rfl
  generalize hH2 : H1.push { cls := .type "list", data := .seq (cs.take 18).toArray } = H2 at k2 g2 ⊢
  have hsz2 : (cs.take 18).toArray.size ≤ sizeLine := by rw [List.size_toArray, List.length_take, sizeLine_eq]; lia
  refine PySem.call_list_seq (hsz := hsz2) H1.objs.size (.inl rfl) g2 rfl rfl fun h3 c3 hk hD => ?_
  have st1 := Step.grown (s := s) I k2 (s.toks + 1)
  have nn := fresh_none H2
  have hv18 : VRs [] ((xs.take 18).map V.int) (cs.take 18) := by rw [List.map_take]; exact hI.take 18
  have st2 := Step.alloc (s := { s with heap := H2, toks := s.toks + 1 }) (p := (H2.objs.size, H2.objs.size)) (c := .lst ((xs.take 18).map V.int)) st1.inv hk nn nn ⟨rfl, by simp [ML]; lia, cs.take 18, c3, hv18, hD⟩ (s.toks + 1)
  have st := st1.trans st2
  have hns3 : h3.Ns L m := by
    obtain ⟨o, es, ep, ho, r⟩ := hns
    exact ⟨o, es, ep, hk _ _ (k2 _ _ ho), r⟩
  rw [← e1]
  refine store_one (s := { s with heap := h3, toks := s.toks + 1 }) (d := .ref H2.objs.size) eo h1 hns3 fun h4 tk4 k4 hn4 => ?_
  have l0 : LocR [(H2.objs.size, H2.objs.size)] (vars 29) (fun _ => none) m := fun x v e => by cases e
  have hloc : LocR ([] ++ [(H2.objs.size, H2.objs.size)]) (vars 29) (fun x => if x = 1 then some (V.ref 0) else none) (fun y => if y = nm (vars 29) 1 then some (.ref H2.objs.size) else m y) :=
    locR_one eo.nd h1 (v := .ref 0) (d := .ref H2.objs.size) ⟨_, rfl, rfl⟩ l0
  obtain ⟨sL, pL⟩ := stored (tk := tk4) st.toL k4 hn4 hloc
  have main := sim_Ss gr ao hf eo b_law ts _ true hok (fun _ => rfl) _ _ _ pL (by show evSs ⟨fu, callN fu n⟩ b_law (fun x => if x = 1 then some (V.ref 0) else none) ([] ++ [.lst ((xs.take 18).map V.int)]) ≠ .fail; rw [List.nil_append, hlaw]; simp)
  dsimp only at main ⊢
  rw [List.nil_append, List.nil_append, hlaw] at main
  refine wpAny_mono main (fun fl s₁ h₁ => ?_) fun ex s₁ h₁ => ?_
  · obtain ⟨ι', c, rfl, st3, rv⟩ := h₁
    cases rv
    obtain ⟨h5, tk5, rfl⟩ := st3.eq
    exact hq h5 tk5 st3.inv.base
  · obtain ⟨_, _, _, e, _⟩ := h₁
    cases e
end
end Mine
end

section
open PySem PySem.W PyProof.Rows PySem.Calls
set_option Elab.async false
set_option maxRecDepth 100000
set_option maxHeartbeats 8000000
namespace Mine
noncomputable def pgB : List Stmt := PySem.Challenge.pw_nt0421_01.main.body
noncomputable def viewB : Program := { PySem.Challenge.pw_nt0421_01 with main := { PySem.Challenge.pw_nt0421_01.main with body := ([1, 2, 3, 5, 6, 7, 8, 9, 10, 11, 12, 13, 14, 15, 16, 17, 18, 19, 20, 21, 22, 23, 24, 26, 27, 28, 29, 30, 31, 32, 33, 34, 35] : List Nat).filterMap fun i => pgB[i]? } }
noncomputable def stB (i : Nat) : Stmt := (pgB[i]?).getD default

noncomputable def selB {β : Type} (d : β) (f : Str → PySem.Arguments → List Stmt → Scope → Pos → β) (g : List Stmt → β) (st : Stmt) : β :=
  PySem.Stmt.casesOn (motive_2 := fun _ => β) st (fun nm ps bd _ _ _ sc _ _ pos => f nm ps bd sc pos) (fun _ _ _ _ _ _ _ _ _ _ => d) (fun _ _ _ b _ _ _ _ _ _ _ => g b) (fun _ _ => d) (fun _ _ => d) (fun _ _ _ => d) (fun _ _ _ _ _ _ _ => d) (fun _ _ _ _ => d) (fun _ _ _ _ _ => d) (fun _ _ _ _ _ => d) (fun _ _ _ _ _ => d) (fun _ _ _ _ => d) (fun _ _ _ _ => d) (fun _ _ _ => d) (fun _ _ _ => d) (fun _ _ _ => d) (fun _ _ _ => d) (fun _ _ _ _ _ => d) (fun _ _ _ _ _ => d) (fun _ _ _ => d) (fun _ _ => d) (fun _ _ _ _ => d) (fun _ _ => d) (fun _ _ => d) (fun _ _ => d) (fun _ => d) (fun _ => d) (fun _ => d)
noncomputable def methB (st : Stmt) : Stmt := selB st (fun _ _ _ _ _ => st) (fun b => (b[0]?).getD default) st

noncomputable def sB (x : String) (t : Tok) : Value := Value.str (Str.ofString x) t
noncomputable def cmB (t : Tok) : Value := Value.str (Str.ofString "/claim/cut.py") t
noncomputable def entB (P : Params) (n : Str) (t : Tok) (v : Value) : DictEntry := { hash := PyData.keyHash P n, key := Value.str n t, val := v }
noncomputable def codeB (vs : List Value) : Obj := { cls := Value.type "code", data := Data.fields ⟨vs⟩ }
noncomputable def tupB (vs : List Value) : Obj := { cls := Value.type "tuple", data := Data.seq ⟨vs⟩ }
noncomputable def fldB (vs : List Value) : Obj := { cls := Value.none, data := Data.fields ⟨vs⟩ }
noncomputable def dctB (es : List DictEntry) (n : Nat) : Obj := { cls := Value.type "dict", data := Data.dict ⟨es⟩ n }
noncomputable def tokB (t : Nat) (vs : List Str) : List Value := (vs.zipIdx t).map fun x => .str x.1 x.2
noncomputable def fcB (F : FuncData → Obj) (nm : Str) (q : Str → Str) (ps : PySem.Arguments) (b : List Stmt) (sc : Scope) : Obj := F { name := nm, qualname := q nm, params := ps, body := FuncBody.stmts b, scope := sc, globals := 0, closure := [], defaults := Value.none, kwdefaults := Value.none }
noncomputable def cdfB (t b c : Nat) (nm : Str) (q : Str → Str) (ps : PySem.Arguments) (ln : Int) (nv : Nat) (v2 v3 : Value) : Obj :=
  codeB [.str nm t, .str (q nm) (t + 1), cmB (t + 2), .int ln 0, .int ps.args.length 0, .int 0 0, .int 0 0, .int 3 0, .ref b, .bool true, .int 181 0, .ref (b + 1), Value.none, v2, v3, .ref c, .int (t + 3 + nv : Nat) 0, .int ln 0, cmB (t + 4 + nv)]
noncomputable def funB {α : Type} (t b : Nat) (pm : Value) (q : Str → Str) (K : List Obj → Nat → Obj → Obj → Str → Nat → Int → List α) (st : Stmt) : List α := selB [] (fun nm ps bd sc pos =>
    (fun (vs : List Str) (c : Nat) (v2 v3 : Value) (os : List Obj) =>
      K (tupB [] :: fldB [] :: (os ++ [fcB (fun d => { cls := Value.none, data := .func d }) nm q ps bd sc])) (c + 1) (cdfB t b c nm q ps pos.line vs.length v2 v3)
        (fcB (fun d => { cls := Value.type "function", data := .func { d with globals := 3, pyModule := pm, code := .ref (c + 1) } }) nm q ps bd sc) nm (t + 5 + vs.length) pos.line)
    |> fun k => if sc.more.isEmpty then (fun vs => k vs (b + 4) (.ref (b + 2)) (.ref (b + 3)) [tupB (tokB (t + 3) vs), tupB []]) ((sc.names.filter fun x => x.2 == .local).map (·.1)) else k [] (b + 2) Value.none Value.none []) (fun _ => []) st
noncomputable def mB (st : Nat) : {α : Type} → (List Obj → Nat → Obj → Obj → Str → Nat → Int → List α) → List α := fun K =>
  bif st == 1 then funB 201 22 (sB "chess.errors" 187) (fun _ => "ChessError.__init__") K (methB (stB 1)) else funB 250 54 (sB "chess.gametree" 236) (fun _ => "GameNode.__init__") K (methB (stB 5))
noncomputable def fsB : List (Nat × Nat × Nat) := [(6, 68, 275), (7, 75, 285), (8, 82, 293), (9, 89, 302), (10, 96, 310), (11, 103, 319), (12, 110, 328), (13, 117, 338), (14, 124, 346), (15, 131, 354), (16, 138, 364), (17, 143, 370), (18, 148, 376), (19, 155, 384), (20, 162, 394), (21, 169, 403), (22, 176, 417), (23, 183, 425), (24, 190, 433), (26, 197, 441), (27, 204, 451), (28, 211, 460), (29, 218, 469), (30, 225, 478), (31, 232, 489), (32, 239, 498), (33, 246, 507), (34, 253, 521), (35, 260, 535)]
noncomputable def allB {α : Type} (K : List Obj → Nat → Obj → Obj → Str → Nat → Int → List α) : List α := fsB.flatMap fun x => funB x.2.2 x.2.1 (bif Nat.blt x.1 26 then sB "chess.gametree" 236 else sB "law_nt0421_01" 439) id K (stB x.1)
noncomputable def dictB (P : Params) (nm : Value) (k : Nat) : Obj := dctB (entB P "__name__" 165 nm :: ([entB P "__doc__" 166 (Value.none), entB P "__package__" 167 (Value.none), entB P "__loader__" 168 (Value.builtin "__main__.__loader__#opaque"), entB P "__spec__" 169 (Value.none), entB P "__annotations__" 170 (Value.ref 6), entB P "__builtins__" 171 (Value.ref 4), entB P "__file__" 173 (cmB 172), entB P "__cached__" 174 (Value.none), entB P "ChessError" 217 (Value.ref 31), entB P "BadMove" 233 (Value.ref 44), entB P "NO_MOVE" 235 (Value.int 0 234), entB P "GameNode" 274 (Value.ref 63)] ++
  allB fun _ c _ _ n t _ => [entB P n t (.ref (c + 1))]).take (k - 1)) k
noncomputable def fragB (P : Params) : Frag :=
  (3, dictB P (sB "law_nt0421_01" 439) 42) :: (mB 1 fun _ c co fn _ _ _ => [(c, co), (c + 1, fn)]) ++ [(30, dctB [entB P "__module__" 196 (sB "chess.errors" 187), entB P "__firstlineno__" 200 (Value.int 2 199), entB P "__init__" 208 (Value.ref 28), entB P "__static_attributes__" 210 (Value.ref 29), entB P "__weakref__" 212 (Value.ref 32), entB P "__doc__" 213 (Value.none)] 3), (31, { cls := Value.type "type", data := Data.cls { name := Str.ofString "ChessError", bases := [Value.type "Exception"], mro := [Value.ref 31, Value.type "Exception", Value.type "BaseException", Value.type "object"], ns := 30, qualname := Str.ofString "ChessError", subclasses := [Value.ref 44] }, slots := #[some (Value.ref 15), none, some (sB "ChessError" 189), some (sB "ChessError" 197), some (Value.builtin "Exception.__new__"), some (Value.bool true)] }), (43, dctB [entB P "__module__" 225 (sB "chess.errors" 187), entB P "__firstlineno__" 229 (Value.int 7 228), entB P "__static_attributes__" 230 (Value.ref 42), entB P "__doc__" 231 (Value.none)] 2), (44, { cls := Value.type "type", data := Data.cls { name := Str.ofString "BadMove", bases := [Value.ref 31], mro := [Value.ref 44, Value.ref 31, Value.type "Exception", Value.type "BaseException", Value.type "object"], ns := 43, qualname := Str.ofString "BadMove" }, slots := #[some (Value.ref 35), none, some (sB "BadMove" 218), some (sB "BadMove" 226), some (Value.builtin "Exception.__new__"), some (Value.bool true)] })] ++ (mB 5 fun _ c co fn _ _ _ => [(c, co), (c + 1, fn)]) ++ [(62, dctB [entB P "__module__" 245 (sB "chess.gametree" 236), entB P "__firstlineno__" 249 (Value.int 11 248), entB P "__init__" 258 (Value.ref 60), entB P "__static_attributes__" 267 (Value.ref 61), entB P "__dict__" 269 (Value.ref 64), entB P "__weakref__" 271 (Value.ref 65), entB P "__doc__" 272 (Value.none)] 4), (63, { cls := Value.type "type", data := Data.cls { name := Str.ofString "GameNode", bases := [Value.type "object"], mro := [Value.ref 63, Value.type "object"], ns := 62, qualname := Str.ofString "GameNode" }, slots := #[none, none, some (sB "GameNode" 238), some (sB "GameNode" 246), some (Value.builtin "object.__new__"), some (Value.bool true)] })] ++ allB fun _ c co fn _ _ _ => [(c, co), (c + 1, fn)]
noncomputable def asB : List Addr := [3, 27, 28, 30, 31, 43, 44, 59, 60, 62, 63] ++ allB fun _ c _ _ _ _ _ => [c, c + 1]
theorem fragB_as (P : Params) : asB = (fragB P).map (·.1) := by kernel_rfl
noncomputable def hkB : Hook := kHook fragB asB fragB_as
noncomputable def pB : Program := PySem.Challenge.rw_nt0421_01.row.prog
noncomputable def frB (P : Params) (i : Nat) : Obj := (((fragB P)[i]?).getD default).2
noncomputable def linB (k : Nat) : Obj := fldB ((([.int 2 0, .int 0 0, .ref 20, .int 7 0, .int 0 0, .ref 40, .int 11 0, .int 0 0, .ref 52] : List Value) ++ allB fun _ c _ _ _ _ ln => [Value.int ln 0, .int 0 0, .ref c]).take (3 * k))
noncomputable def mtB (_ : Params) (st : Nat) : List Obj := mB st fun os _ co fn _ _ _ => os ++ [co, fn]
noncomputable def objsB (P : Params) (o2 o3 o12 o31 : Obj) : List Obj :=
  [boot_o_0 P, boot_o_1 P, o2, o3, boot_o_4 P, boot_o_5 P, boot_o_6 P, boot_o_7 P, boot_o_8 P, boot_o_9 P, boot_o_10 P, tupB [], o12] ++
  ([codeB [sB "<module>" 182, sB "<module>" 183, cmB 184, Value.int 1 0, Value.int 0 0, Value.int 0 0, Value.int 0 0, Value.int 0 0, Value.ref 11, Value.bool false, Value.int 181 0, Value.ref 12, Value.none, Value.none, Value.none, Value.none, Value.int 185 0, Value.int 1 0, cmB 186],
   { cls := Value.type "frame", slots := #[some (Value.ref 13), some (Value.ref 3), some (Value.ref 3), none, some (sB "__main__" 164), none, some (Value.ref 0)] },
   tupB [Value.type "Exception"],
   { cls := Value.type "builtin_function_or_method", data := Data.fields #[Value.builtin "type.__prepare__", Value.type "type"] },
   dctB [entB P "__module__" 196 (sB "chess.errors" 187), entB P "__qualname__" 198 (sB "ChessError" 197), entB P "__firstlineno__" 200 (Value.int 2 199), entB P "__init__" 208 (Value.ref 28), entB P "__static_attributes__" 210 (Value.ref 29)] 5,
   tupB [],
   fldB [Value.int 4 0, Value.int 4 0, Value.ref 27],
   codeB [sB "ChessError" 191, sB "ChessError" 192, cmB 193, Value.int 2 0, Value.int 0 0, Value.int 0 0, Value.int 0 0, Value.int 0 0, Value.ref 18, Value.bool false, Value.int 181 0, Value.ref 19, Value.none, Value.none, Value.none, Value.none, Value.int 194 0, Value.int 2 0, cmB 195],
   { cls := Value.type "frame", slots := #[some (Value.ref 20), some (Value.ref 3), some (Value.ref 17), none, some (sB "chess.errors" 187), none, some (Value.ref 0)] }] ++
  (mtB P 1 ++
  ([tupB [sB "text" 209],
   frB P 3,
   o31,
   { cls := Value.type "getset_descriptor", data := Data.fields #[sB "__weakref__" 211, Value.ref 31, Value.builtin "ExceptionGroup.__weakref__", Value.none] },
   { cls := Value.type "super", data := Data.fields #[Value.ref 31, Value.ref 31, Value.ref 31] },
   { cls := Value.type "builtin_function_or_method", data := Data.fields #[Value.builtin "object.__init_subclass__", Value.ref 31] },
   tupB [Value.ref 31],
   { cls := Value.type "builtin_function_or_method", data := Data.fields #[Value.builtin "type.__prepare__", Value.type "type"] },
   dctB [entB P "__module__" 225 (sB "chess.errors" 187), entB P "__qualname__" 227 (sB "BadMove" 226), entB P "__firstlineno__" 229 (Value.int 7 228), entB P "__static_attributes__" 230 (Value.ref 42)] 4,
   tupB [],
   fldB [],
   codeB [sB "BadMove" 220, sB "BadMove" 221, cmB 222, Value.int 7 0, Value.int 0 0, Value.int 0 0, Value.int 0 0, Value.int 0 0, Value.ref 38, Value.bool false, Value.int 181 0, Value.ref 39, Value.none, Value.none, Value.none, Value.none, Value.int 223 0, Value.int 7 0, cmB 224],
   { cls := Value.type "frame", slots := #[some (Value.ref 40), some (Value.ref 3), some (Value.ref 37), none, some (sB "chess.errors" 187), none, some (Value.ref 0)] },
   tupB [],
   frB P 5,
   frB P 6,
   { cls := Value.type "super", data := Data.fields #[Value.ref 44, Value.ref 44, Value.ref 44] },
   { cls := Value.type "builtin_function_or_method", data := Data.fields #[Value.builtin "object.__init_subclass__", Value.ref 44] },
   tupB [],
   { cls := Value.type "builtin_function_or_method", data := Data.fields #[Value.builtin "type.__prepare__", Value.type "type"] },
   dctB [entB P "__module__" 245 (sB "chess.gametree" 236), entB P "__qualname__" 247 (sB "GameNode" 246), entB P "__firstlineno__" 249 (Value.int 11 248), entB P "__init__" 258 (Value.ref 60), entB P "__static_attributes__" 267 (Value.ref 61)] 5,
   tupB [],
   fldB [Value.int 13 0, Value.int 4 0, Value.ref 59],
   codeB [sB "GameNode" 240, sB "GameNode" 241, cmB 242, Value.int 11 0, Value.int 0 0, Value.int 0 0, Value.int 0 0, Value.int 0 0, Value.ref 50, Value.bool false, Value.int 181 0, Value.ref 51, Value.none, Value.none, Value.none, Value.none, Value.int 243 0, Value.int 11 0, cmB 244],
   { cls := Value.type "frame", slots := #[some (Value.ref 52), some (Value.ref 3), some (Value.ref 49), none, some (sB "chess.gametree" 236), none, some (Value.ref 0)] }] ++
  (mtB P 5 ++
  ([tupB [sB "before" 259, sB "move" 260, sB "nags" 261, sB "parent" 262, sB "place" 263, sB "remarks" 264, sB "variations" 265, sB "word" 266],
   frB P 9,
   frB P 10,
   { cls := Value.type "getset_descriptor", data := Data.fields #[sB "__dict__" 268, Value.ref 63, Value.builtin "function.__dict__", Value.builtin "function.__dict__#set"] },
   { cls := Value.type "getset_descriptor", data := Data.fields #[sB "__weakref__" 270, Value.ref 63, Value.builtin "ExceptionGroup.__weakref__", Value.none] },
   { cls := Value.type "super", data := Data.fields #[Value.ref 63, Value.ref 63, Value.ref 63] },
   { cls := Value.type "builtin_function_or_method", data := Data.fields #[Value.builtin "object.__init_subclass__", Value.ref 63] }] ++
  allB fun os _ co fn _ _ _ => os ++ [co, fn])))))
noncomputable def heapB (P : Params) (o2 o3 o12 o31 : Obj) (n : Nat) : Heap := ⟨⟨(objsB P o2 o3 o12 o31).take n⟩, {}⟩
noncomputable def o2B (P : Params) : Obj := { cls := Value.none, data := Data.dict #[entB P "type.__subclasses__.Exception.0" 214 (Value.int 31 0), entB P "type.__subclasses__.Exception.n" 215 (Value.int 1 0)] 2 }
noncomputable def o31B : Obj := { cls := Value.type "type", data := Data.cls { name := Str.ofString "ChessError", bases := [Value.type "Exception"], mro := [Value.ref 31, Value.type "Exception", Value.type "BaseException", Value.type "object"], ns := 30, qualname := Str.ofString "ChessError" }, slots := #[some (Value.ref 15), none, some (sB "ChessError" 189), some (sB "ChessError" 197), some (Value.builtin "Exception.__new__"), some (Value.bool true)] }
noncomputable def h0B (P : Params) : Heap := heapB P (boot_o_2 P) (boot_o_3 P) (fldB []) default 15
noncomputable def h1B (P : Params) : Heap := heapB P (o2B P) (dictB P (sB "chess.errors" 187) 10) (linB 1) o31B 35
noncomputable def h2B (P : Params) : Heap := heapB P (o2B P) (dictB P (sB "chess.gametree" 236) 12) (linB 2) (frB P 4) 47
noncomputable def h3B (P : Params) : Heap := heapB P (o2B P) (dictB P (sB "chess.gametree" 236) 18) (linB 8) (frB P 4) 103
noncomputable def h4B (P : Params) : Heap := heapB P (o2B P) (dictB P (sB "chess.gametree" 236) 31) (linB 21) (frB P 4) 190
noncomputable def h5B (P : Params) : Heap := heapB P (o2B P) (dictB P (sB "law_nt0421_01" 439) 42) (linB 32) (frB P 4) 265
noncomputable def envB : Env := { scope := pB.main.scope, locals := mainNs, globals := mainNs, cells := [], code := Value.ref 13, frame := some 14 }
noncomputable def bodB : List Stmt := behindTheImports pB
noncomputable def cdB : Code := Code.body bodB envB
noncomputable def posB (i : Nat) : Pos := (stB i).pos
noncomputable def stsB (k n : Nat) : List Stmt := (pgB.drop k).take n
noncomputable def qB : Pos := ⟨0, 0, 0, 0⟩
noncomputable def p2B : Pos := ⟨10, 0, 10, 8⟩
noncomputable def gsB : Array GenState := ⟨[]⟩
noncomputable def piB (w : World) (os : OsState) (n : Nat) (h : Heap) (t : Nat) (p : Pos) (k m : Nat) (h' : Heap) (t' : Nat) (p' : Pos) : Prop :=
  segRun treeTable pB w 11 (some (.ref 6)) 1 n ⟨h, gsB, {}, t, os⟩ (piecesOf (stsB k m) envB cdB p [topFrame qB]) = some (.next, ⟨h', gsB, {}, t', os⟩, cdB, p')
theorem piB0 (w : World) (os : OsState) : topGo treeTable pB w 11 (some (.ref 6)) 12 ⟨boot_heap w.params, gsB, boot_drawn, boot_toks, os⟩ (topStub pB) = some (⟨h0B w.params, gsB, {}, 187, os⟩, ⟨denote treeTable cdB, cdB, qB, [topFrame qB]⟩) := by kernel_rfl
theorem piBb (w : World) (os : OsState) : segRun treeTable pB w 11 (some (.ref 6)) 1 1 ⟨h0B w.params, gsB, {}, 187, os⟩ (blockOf bodB envB cdB qB [topFrame qB]) = some (.next, ⟨h0B w.params, gsB, {}, 187, os⟩, cdB, qB) := by kernel_rfl
theorem piB1 (w : World) (os : OsState) : piB w os 238 (h0B w.params) 187 qB 0 2 (h1B w.params) 218 (posB 1) := by delta piB; kernel_rfl
theorem piB2 (w : World) (os : OsState) : piB w os 232 (h1B w.params) 218 (posB 1) 2 3 (h2B w.params) 238 p2B := by delta piB; kernel_rfl
theorem piB3 (w : World) (os : OsState) : piB w os 385 (h2B w.params) 238 p2B 5 6 (h3B w.params) 319 (posB 10) := by delta piB; kernel_rfl
theorem piB4 (w : World) (os : OsState) : piB w os 397 (h3B w.params) 319 (posB 10) 11 13 (h4B w.params) 433 (posB 23) := by delta piB; kernel_rfl
theorem piB5 (w : World) (os : OsState) : piB w os 356 (h4B w.params) 433 (posB 23) 24 12 (h5B w.params) 541 (posB 35) := by delta piB; kernel_rfl
theorem piB6 (w : World) (os : OsState) : topRun treeTable pB w 11 (some (.ref 6)) 2 ⟨h5B w.params, gsB, {}, 541, os⟩ ⟨doneF .next, cdB, posB 35, [topFrame qB]⟩ = some ⟨h5B w.params, gsB, {}, 541, os⟩ := by kernel_rfl
theorem bodB_eq : bodB = stsB 0 2 ++ (stsB 2 3 ++ (stsB 5 6 ++ (stsB 11 13 ++ (stsB 24 12 ++ [])))) := by kernel_rfl
theorem rest_eq {tb : String → Option Builtin} {p : Program} {w : World} {n₀ N : Nat} {ann : Option Value} {s r : Shared} {b b' : List Stmt} {env : Env} {c : Code} {q : Pos} {B : List Frame} (e : b = b')
    (k : topRun tb p w n₀ ann N s (restOf b' env c q B) = some r) : topRun tb p w n₀ ann N s (restOf b env c q B) = some r := by subst e; exact k
theorem runB (w : World) (os : OsState) : topRun treeTable pB w 11 (some (.ref 6)) (12 + (1 + (238 + (232 + (385 + (397 + (356 + 2))))))) ⟨boot_heap w.params, gsB, boot_drawn, boot_toks, os⟩ (topStub pB) = some ⟨h5B w.params, gsB, {}, 541, os⟩ :=
  go_top (piB0 w os) (piece_block (piBb w os) (rest_eq bodB_eq (piece_app (piB1 w os) (piece_app (piB2 w os) (piece_app (piB3 w os) (piece_app (piB4 w os) (piece_app (piB5 w os) (piece_nil (piB6 w os)))))))))
noncomputable def xB (s : Shared) : Bool := xlAt viewB [] s && recOk (RowW.records PySem.Challenge.rw_nt0421_01.row.toRowW) s
theorem lk1 (w : World) (os : OsState) : (staticsOk (importedModules pB.main.body) (boot_heap w.params) (h5B w.params) && namesBound pB (h5B w.params) && gensDone ⟨h5B w.params, gsB, {}, 541, os⟩ && laidKept (boot_heap w.params) (h5B w.params)) = true := by kernel_rfl
theorem lk2 (w : World) (os : OsState) : openSeen viewB [] (importedModules pB.main.body) xB true ⟨h5B w.params, gsB, {}, 541, os⟩ = openGood viewB [] := by kernel_rfl
theorem lk3 (w : World) (os : OsState) : Hook.obs hkB ⟨h5B w.params, gsB, {}, 541, os⟩ = Hook.val hkB w := by kernel_rfl
theorem left_ok : LeftO PySem.Challenge.rw_nt0421_01.row.prog viewB [] (fun s => xlAt viewB [] s && recOk (RowW.records PySem.Challenge.rw_nt0421_01.row.toRowW) s) (Hook.obs hkB) (Hook.val hkB) 3332 :=
  LeftO.of_pieces (p := pB) (q := viewB) (Xt := xB) (Yf := Hook.obs hkB) (Ya := Hook.val hkB) (H₀ := boot_heap) (H₁ := h5B) (gs₀ := gsB) (gs₁ := gsB) (d₀ := boot_drawn) (d₁ := {}) (k₀ := boot_toks) (k₁ := 541) (m₀ := 11) (ann := some (.ref 6)) (M := 12 + (1 + (238 + (232 + (385 + (397 + (356 + 2)))))))
    (boot_open (by kernel_rfl) rfl (by intro s; kernel_rfl)) (by intro w; kernel_rfl) runB rfl (fun w => funext fun os => Prod.ext (lk1 w os) (Prod.ext (lk2 w os) (lk3 w os)))
theorem said_ok : OpenLaw.wellSaid PySem.Challenge.rw_nt0421_01 = true := by
  delta OpenLaw.wellSaid OpenRow.wellSaid OpenRow.partSaid looksOpen
  repeat' (with_reducible refine look_both ?_ ?_)
  all_goals decide +kernel
end Mine
end

section
open PySem PySem.W PyProof.Rows PySem.Calls
set_option maxRecDepth 100000
set_option linter.unusedVariables false
namespace Mine
noncomputable def fdL (K : Frag) (a : Addr) : Option FuncData := match K.lookup a with
  | some ⟨_, _, .func fd, _⟩ => some fd
  | _ => none
theorem fdL_get {K : Frag} {h : Heap} {a : Addr} {fd : FuncData} (X : K.In h) (e : fdL K a = some fd) : ∃ o, h.get? a = some o ∧ o.data = .func fd := by
  unfold fdL at e
  split at e
  · rename_i q; cases e; exact ⟨_, X _ _ q, rfl⟩
  · cases e
noncomputable def faL : List Addr := [60, 74, 81, 88, 95, 102, 109, 116, 123, 130, 137, 142, 147, 154, 161, 168, 175, 182, 189, 196, 203, 210, 217, 224, 231, 238, 245, 252, 259]
noncomputable def faOf (i : Nat) : Addr := faL.getD i 0
noncomputable def bodyG (fd : FuncData) : List PySem.Stmt := match fd.body with
  | .stmts ss => ss
  | _ => []
structure FnChk (K : Frag) (i k : Nat) (b : Ss) (fd : FuncData) : Prop where
  e : fdL K (faOf i) = some fd
  body : fd.body = .stmts (unSs (vars i) b (posSs (bodyG fd)))
  code : codeIn K fd.code fd.qualname = true
  glob : fd.globals = mainGlobals
  bi : fd.builtins = builtinsNs
  sc : okSc fd.scope (vars i) = true
  co : fd.scope.isCoroutine = false
  gen : fd.scope.isGenerator = false
  ok : okSs fd.scope (vars i) b (posSs (bodyG fd)) = true
  kl : k ≤ (vars i).length
  bind : ∀ cs, cs.length = k → bindArgs fd ⟨cs, []⟩ = pure (((vars i).take k).zip cs)
theorem FnChk.full {X : St} {i k : Nat} {b : Ss} {fd : FuncData} (c : FnChk X.K i k b fd) (KX : X.K.In X.base) (hf : X.fa i = faOf i) : FnFull X i k b := by
  obtain ⟨o, ho, hd⟩ := fdL_get KX c.e
  exact ⟨o, fd, _, hf ▸ ho, hd, codeRec_of KX c.code, c.body, c.glob, c.bi, c.sc, c.co, c.gen, c.ok, c.kl, c.bind⟩
end Mine
end

section
open PySem PySem.W PyProof.Rows PySem.Calls
set_option maxRecDepth 100000
set_option linter.unusedVariables false
namespace Mine
noncomputable def fdG (P : Params) (i : Nat) : FuncData := (fdL (fragB P) (faOf i)).getD default
theorem len0 {cs : List Value} (h : cs.length = 0) : cs = [] := List.length_eq_zero_iff.1 h
theorem len1 {cs : List Value} (h : cs.length = 1) : ∃ a, cs = [a] := by
  cases cs with
  | nil => cases h
  | cons a t => have := len0 (cs := t) (by simpa using h); subst this; exact ⟨a, rfl⟩
theorem len2 {cs : List Value} (h : cs.length = 2) : ∃ a b, cs = [a, b] := by
  cases cs with
  | nil => cases h
  | cons a t => obtain ⟨b, rfl⟩ := len1 (cs := t) (by simpa using h); exact ⟨a, b, rfl⟩
theorem len3 {cs : List Value} (h : cs.length = 3) : ∃ a b c, cs = [a, b, c] := by
  cases cs with
  | nil => cases h
  | cons a t => obtain ⟨b, c, rfl⟩ := len2 (cs := t) (by simpa using h); exact ⟨a, b, c, rfl⟩
theorem len4 {cs : List Value} (h : cs.length = 4) : ∃ a b c d, cs = [a, b, c, d] := by
  cases cs with
  | nil => cases h
  | cons a t => obtain ⟨b, c, d, rfl⟩ := len3 (cs := t) (by simpa using h); exact ⟨a, b, c, d, rfl⟩
theorem len5 {cs : List Value} (h : cs.length = 5) : ∃ a b c d e, cs = [a, b, c, d, e] := by
  cases cs with
  | nil => cases h
  | cons a t => obtain ⟨b, c, d, e, rfl⟩ := len4 (cs := t) (by simpa using h); exact ⟨a, b, c, d, e, rfl⟩
theorem len6 {cs : List Value} (h : cs.length = 6) : ∃ a b c d e f, cs = [a, b, c, d, e, f] := by
  cases cs with
  | nil => cases h
  | cons a t => obtain ⟨b, c, d, e, f, rfl⟩ := len5 (cs := t) (by simpa using h); exact ⟨a, b, c, d, e, f, rfl⟩
theorem fn_0 (P : Params) : FnChk (fragB P) 0 3 b_init (fdG P 0) := by
  refine ⟨by kernel_rfl, by kernel_rfl, by kernel_rfl, by kernel_rfl, by kernel_rfl, by kernel_rfl, by kernel_rfl, by kernel_rfl, by kernel_rfl, by decide +kernel, fun cs h => ?_⟩
  obtain ⟨a, b, c, rfl⟩ := len3 h; kernel_rfl
theorem fn_1 (P : Params) : FnChk (fragB P) 1 3 b_add_variation (fdG P 1) := by
  refine ⟨by kernel_rfl, by kernel_rfl, by kernel_rfl, by kernel_rfl, by kernel_rfl, by kernel_rfl, by kernel_rfl, by kernel_rfl, by kernel_rfl, by decide +kernel, fun cs h => ?_⟩
  obtain ⟨a, b, c, rfl⟩ := len3 h; kernel_rfl
theorem fn_2 (P : Params) : FnChk (fragB P) 2 2 b_check_way (fdG P 2) := by
  refine ⟨by kernel_rfl, by kernel_rfl, by kernel_rfl, by kernel_rfl, by kernel_rfl, by kernel_rfl, by kernel_rfl, by kernel_rfl, by kernel_rfl, by decide +kernel, fun cs h => ?_⟩
  obtain ⟨a, b, rfl⟩ := len2 h; kernel_rfl
theorem fn_3 (P : Params) : FnChk (fragB P) 3 2 b_promote_variation (fdG P 3) := by
  refine ⟨by kernel_rfl, by kernel_rfl, by kernel_rfl, by kernel_rfl, by kernel_rfl, by kernel_rfl, by kernel_rfl, by kernel_rfl, by kernel_rfl, by decide +kernel, fun cs h => ?_⟩
  obtain ⟨a, b, rfl⟩ := len2 h; kernel_rfl
theorem fn_4 (P : Params) : FnChk (fragB P) 4 2 b_make_main (fdG P 4) := by
  refine ⟨by kernel_rfl, by kernel_rfl, by kernel_rfl, by kernel_rfl, by kernel_rfl, by kernel_rfl, by kernel_rfl, by kernel_rfl, by kernel_rfl, by decide +kernel, fun cs h => ?_⟩
  obtain ⟨a, b, rfl⟩ := len2 h; kernel_rfl
theorem fn_5 (P : Params) : FnChk (fragB P) 5 2 b_remove_variation (fdG P 5) := by
  refine ⟨by kernel_rfl, by kernel_rfl, by kernel_rfl, by kernel_rfl, by kernel_rfl, by kernel_rfl, by kernel_rfl, by kernel_rfl, by kernel_rfl, by decide +kernel, fun cs h => ?_⟩
  obtain ⟨a, b, rfl⟩ := len2 h; kernel_rfl
theorem fn_6 (P : Params) : FnChk (fragB P) 6 2 b_find_way (fdG P 6) := by
  refine ⟨by kernel_rfl, by kernel_rfl, by kernel_rfl, by kernel_rfl, by kernel_rfl, by kernel_rfl, by kernel_rfl, by kernel_rfl, by kernel_rfl, by decide +kernel, fun cs h => ?_⟩
  obtain ⟨a, b, rfl⟩ := len2 h; kernel_rfl
theorem fn_7 (P : Params) : FnChk (fragB P) 7 2 b_add_line (fdG P 7) := by
  refine ⟨by kernel_rfl, by kernel_rfl, by kernel_rfl, by kernel_rfl, by kernel_rfl, by kernel_rfl, by kernel_rfl, by kernel_rfl, by kernel_rfl, by decide +kernel, fun cs h => ?_⟩
  obtain ⟨a, b, rfl⟩ := len2 h; kernel_rfl
theorem fn_8 (P : Params) : FnChk (fragB P) 8 1 b_main_line (fdG P 8) := by
  refine ⟨by kernel_rfl, by kernel_rfl, by kernel_rfl, by kernel_rfl, by kernel_rfl, by kernel_rfl, by kernel_rfl, by kernel_rfl, by kernel_rfl, by decide +kernel, fun cs h => ?_⟩
  obtain ⟨a, rfl⟩ := len1 h; kernel_rfl
theorem fn_9 (P : Params) : FnChk (fragB P) 9 1 b_line_to (fdG P 9) := by
  refine ⟨by kernel_rfl, by kernel_rfl, by kernel_rfl, by kernel_rfl, by kernel_rfl, by kernel_rfl, by kernel_rfl, by kernel_rfl, by kernel_rfl, by decide +kernel, fun cs h => ?_⟩
  obtain ⟨a, rfl⟩ := len1 h; kernel_rfl
theorem fn_10 (P : Params) : FnChk (fragB P) 10 1 b_walk (fdG P 10) := by
  refine ⟨by kernel_rfl, by kernel_rfl, by kernel_rfl, by kernel_rfl, by kernel_rfl, by kernel_rfl, by kernel_rfl, by kernel_rfl, by kernel_rfl, by decide +kernel, fun cs h => ?_⟩
  obtain ⟨a, rfl⟩ := len1 h; kernel_rfl
theorem fn_11 (P : Params) : FnChk (fragB P) 11 1 b_walk_both (fdG P 11) := by
  refine ⟨by kernel_rfl, by kernel_rfl, by kernel_rfl, by kernel_rfl, by kernel_rfl, by kernel_rfl, by kernel_rfl, by kernel_rfl, by kernel_rfl, by decide +kernel, fun cs h => ?_⟩
  obtain ⟨a, rfl⟩ := len1 h; kernel_rfl
theorem fn_12 (P : Params) : FnChk (fragB P) 12 1 b_all_lines (fdG P 12) := by
  refine ⟨by kernel_rfl, by kernel_rfl, by kernel_rfl, by kernel_rfl, by kernel_rfl, by kernel_rfl, by kernel_rfl, by kernel_rfl, by kernel_rfl, by decide +kernel, fun cs h => ?_⟩
  obtain ⟨a, rfl⟩ := len1 h; kernel_rfl
theorem fn_13 (P : Params) : FnChk (fragB P) 13 2 b_same_node (fdG P 13) := by
  refine ⟨by kernel_rfl, by kernel_rfl, by kernel_rfl, by kernel_rfl, by kernel_rfl, by kernel_rfl, by kernel_rfl, by kernel_rfl, by kernel_rfl, by decide +kernel, fun cs h => ?_⟩
  obtain ⟨a, b, rfl⟩ := len2 h; kernel_rfl
theorem fn_14 (P : Params) : FnChk (fragB P) 14 2 b_same_tree (fdG P 14) := by
  refine ⟨by kernel_rfl, by kernel_rfl, by kernel_rfl, by kernel_rfl, by kernel_rfl, by kernel_rfl, by kernel_rfl, by kernel_rfl, by kernel_rfl, by decide +kernel, fun cs h => ?_⟩
  obtain ⟨a, b, rfl⟩ := len2 h; kernel_rfl
theorem fn_15 (P : Params) : FnChk (fragB P) 15 2 b_add_new (fdG P 15) := by
  refine ⟨by kernel_rfl, by kernel_rfl, by kernel_rfl, by kernel_rfl, by kernel_rfl, by kernel_rfl, by kernel_rfl, by kernel_rfl, by kernel_rfl, by decide +kernel, fun cs h => ?_⟩
  obtain ⟨a, b, rfl⟩ := len2 h; kernel_rfl
theorem fn_16 (P : Params) : FnChk (fragB P) 16 2 b_merge_tree (fdG P 16) := by
  refine ⟨by kernel_rfl, by kernel_rfl, by kernel_rfl, by kernel_rfl, by kernel_rfl, by kernel_rfl, by kernel_rfl, by kernel_rfl, by kernel_rfl, by decide +kernel, fun cs h => ?_⟩
  obtain ⟨a, b, rfl⟩ := len2 h; kernel_rfl
theorem fn_17 (P : Params) : FnChk (fragB P) 17 1 b_strip_variations (fdG P 17) := by
  refine ⟨by kernel_rfl, by kernel_rfl, by kernel_rfl, by kernel_rfl, by kernel_rfl, by kernel_rfl, by kernel_rfl, by kernel_rfl, by kernel_rfl, by decide +kernel, fun cs h => ?_⟩
  obtain ⟨a, rfl⟩ := len1 h; kernel_rfl
theorem fn_18 (P : Params) : FnChk (fragB P) 18 1 b_strip_remarks (fdG P 18) := by
  refine ⟨by kernel_rfl, by kernel_rfl, by kernel_rfl, by kernel_rfl, by kernel_rfl, by kernel_rfl, by kernel_rfl, by kernel_rfl, by kernel_rfl, by decide +kernel, fun cs h => ?_⟩
  obtain ⟨a, rfl⟩ := len1 h; kernel_rfl
theorem fn_19 (P : Params) : FnChk (fragB P) 19 0 b_new_root (fdG P 19) := by
  refine ⟨by kernel_rfl, by kernel_rfl, by kernel_rfl, by kernel_rfl, by kernel_rfl, by kernel_rfl, by kernel_rfl, by kernel_rfl, by kernel_rfl, by decide +kernel, fun cs h => ?_⟩
  have := len0 h; subst this; kernel_rfl
theorem fn_20 (P : Params) : FnChk (fragB P) 20 2 b_law_all (fdG P 20) := by
  refine ⟨by kernel_rfl, by kernel_rfl, by kernel_rfl, by kernel_rfl, by kernel_rfl, by kernel_rfl, by kernel_rfl, by kernel_rfl, by kernel_rfl, by decide +kernel, fun cs h => ?_⟩
  obtain ⟨a, b, rfl⟩ := len2 h; kernel_rfl
theorem fn_21 (P : Params) : FnChk (fragB P) 21 1 b_law_both (fdG P 21) := by
  refine ⟨by kernel_rfl, by kernel_rfl, by kernel_rfl, by kernel_rfl, by kernel_rfl, by kernel_rfl, by kernel_rfl, by kernel_rfl, by kernel_rfl, by decide +kernel, fun cs h => ?_⟩
  obtain ⟨a, rfl⟩ := len1 h; kernel_rfl
theorem fn_22 (P : Params) : FnChk (fragB P) 22 2 b_law_first (fdG P 22) := by
  refine ⟨by kernel_rfl, by kernel_rfl, by kernel_rfl, by kernel_rfl, by kernel_rfl, by kernel_rfl, by kernel_rfl, by kernel_rfl, by kernel_rfl, by decide +kernel, fun cs h => ?_⟩
  obtain ⟨a, b, rfl⟩ := len2 h; kernel_rfl
theorem fn_23 (P : Params) : FnChk (fragB P) 23 2 b_law_way (fdG P 23) := by
  refine ⟨by kernel_rfl, by kernel_rfl, by kernel_rfl, by kernel_rfl, by kernel_rfl, by kernel_rfl, by kernel_rfl, by kernel_rfl, by kernel_rfl, by decide +kernel, fun cs h => ?_⟩
  obtain ⟨a, b, rfl⟩ := len2 h; kernel_rfl
theorem fn_24 (P : Params) : FnChk (fragB P) 24 2 b_law_merge (fdG P 24) := by
  refine ⟨by kernel_rfl, by kernel_rfl, by kernel_rfl, by kernel_rfl, by kernel_rfl, by kernel_rfl, by kernel_rfl, by kernel_rfl, by kernel_rfl, by decide +kernel, fun cs h => ?_⟩
  obtain ⟨a, b, rfl⟩ := len2 h; kernel_rfl
theorem fn_25 (P : Params) : FnChk (fragB P) 25 2 b_law_plant (fdG P 25) := by
  refine ⟨by kernel_rfl, by kernel_rfl, by kernel_rfl, by kernel_rfl, by kernel_rfl, by kernel_rfl, by kernel_rfl, by kernel_rfl, by kernel_rfl, by decide +kernel, fun cs h => ?_⟩
  obtain ⟨a, b, rfl⟩ := len2 h; kernel_rfl
theorem fn_26 (P : Params) : FnChk (fragB P) 26 2 b_law_like (fdG P 26) := by
  refine ⟨by kernel_rfl, by kernel_rfl, by kernel_rfl, by kernel_rfl, by kernel_rfl, by kernel_rfl, by kernel_rfl, by kernel_rfl, by kernel_rfl, by decide +kernel, fun cs h => ?_⟩
  obtain ⟨a, b, rfl⟩ := len2 h; kernel_rfl
theorem fn_27 (P : Params) : FnChk (fragB P) 27 5 b_law_turn (fdG P 27) := by
  refine ⟨by kernel_rfl, by kernel_rfl, by kernel_rfl, by kernel_rfl, by kernel_rfl, by kernel_rfl, by kernel_rfl, by kernel_rfl, by kernel_rfl, by decide +kernel, fun cs h => ?_⟩
  obtain ⟨a, b, c, d, e, rfl⟩ := len5 h; kernel_rfl
theorem fn_28 (P : Params) : FnChk (fragB P) 28 6 b_law_deed (fdG P 28) := by
  refine ⟨by kernel_rfl, by kernel_rfl, by kernel_rfl, by kernel_rfl, by kernel_rfl, by kernel_rfl, by kernel_rfl, by kernel_rfl, by kernel_rfl, by decide +kernel, fun cs h => ?_⟩
  obtain ⟨a, b, c, d, e, f, rfl⟩ := len6 h; kernel_rfl
theorem fn_all (P : Params) : ∀ i k b, i < 29 → fnArity[i]? = some k → fnBody[i]? = some b → FnChk (fragB P) i k b (fdG P i) := by
  intro i k b hi hk hb
  match i, hi, hk, hb with
  | 0, _, hk, hb => cases hk; cases hb; exact fn_0 P
  | 1, _, hk, hb => cases hk; cases hb; exact fn_1 P
  | 2, _, hk, hb => cases hk; cases hb; exact fn_2 P
  | 3, _, hk, hb => cases hk; cases hb; exact fn_3 P
  | 4, _, hk, hb => cases hk; cases hb; exact fn_4 P
  | 5, _, hk, hb => cases hk; cases hb; exact fn_5 P
  | 6, _, hk, hb => cases hk; cases hb; exact fn_6 P
  | 7, _, hk, hb => cases hk; cases hb; exact fn_7 P
  | 8, _, hk, hb => cases hk; cases hb; exact fn_8 P
  | 9, _, hk, hb => cases hk; cases hb; exact fn_9 P
  | 10, _, hk, hb => cases hk; cases hb; exact fn_10 P
  | 11, _, hk, hb => cases hk; cases hb; exact fn_11 P
  | 12, _, hk, hb => cases hk; cases hb; exact fn_12 P
  | 13, _, hk, hb => cases hk; cases hb; exact fn_13 P
  | 14, _, hk, hb => cases hk; cases hb; exact fn_14 P
  | 15, _, hk, hb => cases hk; cases hb; exact fn_15 P
  | 16, _, hk, hb => cases hk; cases hb; exact fn_16 P
  | 17, _, hk, hb => cases hk; cases hb; exact fn_17 P
  | 18, _, hk, hb => cases hk; cases hb; exact fn_18 P
  | 19, _, hk, hb => cases hk; cases hb; exact fn_19 P
  | 20, _, hk, hb => cases hk; cases hb; exact fn_20 P
  | 21, _, hk, hb => cases hk; cases hb; exact fn_21 P
  | 22, _, hk, hb => cases hk; cases hb; exact fn_22 P
  | 23, _, hk, hb => cases hk; cases hb; exact fn_23 P
  | 24, _, hk, hb => cases hk; cases hb; exact fn_24 P
  | 25, _, hk, hb => cases hk; cases hb; exact fn_25 P
  | 26, _, hk, hb => cases hk; cases hb; exact fn_26 P
  | 27, _, hk, hb => cases hk; cases hb; exact fn_27 P
  | 28, _, hk, hb => cases hk; cases hb; exact fn_28 P
  | n + 29, hi, _, _ => lia
end Mine
end

section
open PySem PySem.W PyProof.Rows PySem.Calls
set_option maxRecDepth 100000
set_option linter.unusedVariables false
namespace Mine
noncomputable def XOf (P : Params) (h : Heap) (mg mb : Str → Option Value) : St := ⟨h, fragB P, 63, 44, faOf, mg, mb⟩
section
variable {P : Params} {h : Heap} {mg mb : Str → Option Value} {p : Program} {loose : List Str} {mean : ExcName → Option Value}
theorem x_cls : ClsOk (XOf P h mg mb) where
  hasD := by show hasDictIn (fragB P) 63 = true; kernel_rfl
  ga := by show findIn (fragB P) (.ref 63) "__getattribute__" = _; kernel_rfl
  fnd := fun f => by show findIn (fragB P) (.ref 63) (fstr f) = _; cases f <;> kernel_rfl
  sa := by show findIn (fragB P) (.ref 63) "__setattr__" = _; kernel_rfl
  po := by show plainOver (fragB P) 63 = true; kernel_rfl
theorem x_glob (KX : (fragB P).In h) (T : Top p loose mean mg mb h) : GlobOk (XOf P h mg mb) where
  len := ⟨ns_none_of KX T.g (by kernel_rfl), (T.builtins _ (by decide +kernel)).trans (by kernel_rfl)⟩
  max := ⟨ns_none_of KX T.g (by kernel_rfl), (T.builtins _ (by decide +kernel)).trans (by kernel_rfl)⟩
  divmod := ⟨ns_none_of KX T.g (by kernel_rfl), (T.builtins _ (by decide +kernel)).trans (by kernel_rfl)⟩
  list := ⟨ns_none_of KX T.g (by kernel_rfl), (T.builtins _ (by decide +kernel)).trans (by kernel_rfl)⟩
  range := ⟨ns_none_of KX T.g (by kernel_rfl), (T.builtins _ (by decide +kernel)).trans (by kernel_rfl)⟩
  node := mg_of KX T.g (by show nsIn (fragB P) mainGlobals "GameNode" = some (some (.ref 63)); kernel_rfl)
  nomove := ⟨234, mg_of KX T.g (by show nsIn (fragB P) mainGlobals "NO_MOVE" = some (some (.int 0 234)); kernel_rfl)⟩
  fn := fun i h1 h29 => mg_of KX T.g (by
    show nsIn (fragB P) mainGlobals (fnS i) = some (some (.ref (faOf i)))
    match i, h1, h29 with
    | 1, _, _ | 2, _, _ | 3, _, _ | 4, _, _ | 5, _, _ | 6, _, _ | 7, _, _ | 8, _, _ | 9, _, _ | 10, _, _ | 11, _, _ | 12, _, _ | 13, _, _ | 14, _, _ | 15, _, _ | 16, _, _ | 17, _, _ | 18, _, _ | 19, _, _ | 20, _, _ | 21, _, _ | 22, _, _ | 23, _, _ | 24, _, _ | 25, _, _ | 26, _, _ | 27, _, _ | 28, _, _ => kernel_rfl
    | n + 29, _, h => lia)
  bad := mg_of KX T.g (by show nsIn (fragB P) mainGlobals "BadMove" = some (some (.ref 44)); kernel_rfl)
theorem x_fun (KX : (fragB P).In h) : FunOk (XOf P h mg mb) where
  fn := fun i hi => by
    obtain ⟨k, hk⟩ : ∃ k, fnArity[i]? = some k := ⟨_, List.getElem?_eq_getElem (show i < fnArity.length from Nat.lt_of_lt_of_le hi (by decide))⟩
    obtain ⟨b, hb⟩ : ∃ b, fnBody[i]? = some b := ⟨_, List.getElem?_eq_getElem (show i < fnBody.length from Nat.lt_of_lt_of_le hi (by decide))⟩
    obtain ⟨o, ho, hd⟩ := fdL_get KX (fn_all P i k b hi hk hb).e
    exact ⟨o, _, ho, hd⟩
  mkc := by show makesIn (fragB P) 63 = true; kernel_rfl
  ini := by show findIn (fragB P) (.ref 63) "__init__" = some (some (.ref (faOf 0))); kernel_rfl
  typ := by show typeIn (fragB P) (.ref (faOf 0)) = _; kernel_rfl
  keep := by show keepIn (fragB P) (.ref 63) = true; kernel_rfl
theorem x_excIn (KX : (fragB P).In h) (T : Top p loose mean mg mb h) : ExcIn (XOf P h mg mb) 31 28 where
  ini := by show findIn (fragB P) (.ref 44) "__init__" = some (some (.ref 28)); kernel_rfl
  typ := by show typeIn (fragB P) (.ref 28) = _; kernel_rfl
  keep := by show keepIn (fragB P) (.ref 44) = true; kernel_rfl
  sa := by show findIn (fragB P) (.ref 44) "__setattr__" = _; kernel_rfl
  txt := by show findIn (fragB P) (.ref 44) "text" = _; kernel_rfl
  cd := by
    show ∃ cd, clsIn (fragB P) 44 = some cd ∧ cd.hasDict = true ∧ cd.mro = [.ref 44, .ref 31, .type "Exception", .type "BaseException", .type "object"]
    exact ⟨(clsIn (fragB P) 44).getD default, by kernel_rfl, by kernel_rfl, by kernel_rfl⟩
  bi := ⟨ns_none_of KX T.g (by kernel_rfl), (T.builtins _ (by decide +kernel)).trans (by kernel_rfl)⟩
noncomputable def fdI (P : Params) : FuncData := (fdL (fragB P) 28).getD default
theorem x_excFn (KX : (fragB P).In h) : ExcFn (XOf P h mg mb) 28 := by
  have e : fdL (fragB P) 28 = some (fdI P) := by kernel_rfl
  obtain ⟨o, ho, hd⟩ := fdL_get KX e
  have bd : bodyG (fdI P) = bodyG (fdI P) := rfl
  refine ⟨o, fdI P, ((posSs (bodyG (fdI P))).getD 0 default |>.k 0 |>.k 0 |>.k 0).p, ((posSs (bodyG (fdI P))).getD 0 default |>.k 0 |>.k 0).p, ((posSs (bodyG (fdI P))).getD 0 default |>.k 0 |>.k 1).p, ((posSs (bodyG (fdI P))).getD 0 default |>.k 0 |>.k 2).p,
    ((posSs (bodyG (fdI P))).getD 0 default |>.k 0).p, ((posSs (bodyG (fdI P))).getD 0 default).p, ((posSs (bodyG (fdI P))).getD 1 default |>.k 1 |>.k 0).p, ((posSs (bodyG (fdI P))).getD 1 default |>.k 1).p, ((posSs (bodyG (fdI P))).getD 1 default |>.k 0).p, ((posSs (bodyG (fdI P))).getD 1 default).p,
    ho, hd, codeRec_of KX (by kernel_rfl), by kernel_rfl, by kernel_rfl, by kernel_rfl, by kernel_rfl, by kernel_rfl, by kernel_rfl, by kernel_rfl, by kernel_rfl, fun a b => by kernel_rfl⟩
theorem x_exc (KX : (fragB P).In h) : ExcOk (XOf P h mg mb) := by
  refine ⟨⟨"BadMove", "BadMove", 43, [.ref 31], [.ref 31, .type "Exception", .type "BaseException", .type "object"], true, [], [], false, none, none, some (.ref 35), none, some (.str "BadMove" 218), some (.str "BadMove" 226), some (.bool true),
    KX 44 _ (by show (fragB P).lookup 44 = _; kernel_rfl), by decide +kernel, by decide +kernel, by decide +kernel, by decide +kernel⟩⟩
theorem x_base {prog : Program} {w : World} (KX : (fragB P).In h) (T : Top p loose mean mg mb h) : Base0 prog w (XOf P h mg mb) where
  O := ⟨KX, T.g, T.b, T.nolimit⟩
  Y := x_cls
  G := x_glob KX T
  U := x_fun KX
  EX := x_exc KX
  EI := ⟨31, 28, x_excIn KX T, x_excFn KX⟩
  fn := fun i k b hi hk hb => (fn_all P i k b hi hk hb).full KX rfl
end
end Mine
end

section
open PySem PySem.W PyProof.Rows PySem.Calls
set_option maxRecDepth 100000
set_option linter.unusedVariables false
namespace Mine
theorem vrs_ints : ∀ {cs : List Value} {xs : List Int}, IntsAre cs xs → VRs [] (xs.map V.int) cs
  | [], [], _ => trivial
  | _, _, .cons n t r => ⟨⟨t, rfl⟩, vrs_ints r⟩
theorem below_inv {X : St} {A : Around} {env : Env} {L : Addr} {h1 : Heap} {m : Str → Option Value} (B : Below A X.base [env] h1) (F : Fr X.base L h1 m) (hf : env.frame = some L) : Inv X [env] L [] [] h1 where
  base := B.stays
  frames := B.frames
  led := ⟨rfl, fun i c p e _ => (by simp at e), fun i j p q e _ _ => (by simp at e), fun p hp => (by cases hp)⟩
  sepF := fun b ⟨p, hp, _⟩ => by cases hp
  sepL := fun ⟨p, hp, _⟩ => by cases hp
  locNew := by
    cases q : X.base.get? L with
    | none => rfl
    | some o => exact absurd (Heap.lt_size q) (Nat.not_lt_of_le F.above)
  loc := by
    obtain ⟨o, es, n, ho, hd, r⟩ := F.ns
    exact ⟨o, _, _, ho, hd⟩
noncomputable def fdLaw (P : Params) : FuncData := (fdL (fragB P) 264).getD default
noncomputable def hdT (ss : List PySem.Stmt) : PT := (posSs ss).getD 0 default
noncomputable def stm1 (ss : List PySem.Stmt) : PySem.Stmt := stmt1 ((hdT ss).k 1).p (((hdT ss).k 0).k 0).p ((((hdT ss).k 0).k 1).k 0).p (((((hdT ss).k 0).k 1).k 1).k 1).p ((((hdT ss).k 0).k 1).k 1).p (((hdT ss).k 0).k 1).p ((hdT ss).k 0).p (hdT ss).p
theorem law_body (P : Params) : bodyG (fdLaw P) = stm1 (bodyG (fdLaw P)) :: unSs (vars 29) b_law (posSs (bodyG (fdLaw P)).tail) := by kernel_rfl
theorem law_sc (P : Params) : okSc (fdLaw P).scope (vars 29) = true := by kernel_rfl
theorem law_ok (P : Params) : okSs (fdLaw P).scope (vars 29) b_law (posSs (bodyG (fdLaw P)).tail) = true := by kernel_rfl
theorem law_list (P : Params) : okG (fdLaw P).scope "list" = true := by kernel_rfl
theorem law_top {prog : Program} {w : World} {p : Program} {loose : List Str} {mean : ExcName → Option Value} {mg mb : Str → Option Value} {h0 : Heap} {L a scr : Addr} {name : Str} {scope : Scope} {cd : Value} {m : Str → Option Value} {cs : List Value} {xs : List Int} {s : Shared} {ss : List PySem.Stmt}
    (KX : (fragB w.params).In h0) (T : Top p loose mean mg mb h0) (F : Fr h0 L s.heap m) (hscr : m "script" = some (.ref scr)) (hL : h0.IsList scr cs.toArray) (hI : IntsAre cs xs) (hz : xs.length ≤ 63)
    (hss : ss = bodyG (fdLaw w.params)) (hsc : scope = (fdLaw w.params).scope) {Q : Flow → Shared → Prop} {E : Value → Shared → Prop} (hq : ∀ h tk, h0.StaysIn h → Q (.ret (.bool true)) { s with heap := h, toks := tk }) :
    wpAny (model prog w) (callerA.deeper (envOf name scope L a cd)) (execs ss (envOf name scope L a cd)) Q E s := by
  subst hss hsc
  have B := x_base (prog := prog) (w := w) KX T
  have hk : (fdLaw w.params).scope.kind = .function := (okSc_names (law_sc w.params)).1
  have bl := (below_caller h0).push (name := name) (scope := (fdLaw w.params).scope) (a := a) (cd := cd) F hk
  have ao : AOk (callerA.deeper (envOf name (fdLaw w.params).scope L a cd)) (envOf name (fdLaw w.params).scope L a cd :: []) 100 := ⟨bl.stack, rfl, Nat.le_of_ble_eq_true rfl, Nat.le_of_ble_eq_true rfl⟩
  have eo : EnvOk (fdLaw w.params).scope (vars 29) (envOf name (fdLaw w.params).scope L a cd) L := okSc_env (law_sc w.params) rfl rfl rfl rfl
  have I : Inv (XOf w.params h0 mg mb) [envOf name (fdLaw w.params).scope L a cd] L [] [] s.heap := below_inv bl F rfl
  obtain ⟨h', hlaw⟩ := MineB.law_true xs MineB.FU (Nat.le_refl _)
  have hL' : s.heap.IsList scr cs.toArray := by
    obtain ⟨o, ho, r⟩ := hL
    exact ⟨o, F.keep _ _ ho, r⟩
  rw [law_body]
  exact law_run B ao rfl eo (okG_env eo (law_list w.params)) I F.ns hscr hL' (vrs_ints hI) hz (law_ok w.params) hlaw hq
end Mine
end

open PySem PySem.W PyProof.Rows
set_option maxRecDepth 100000 in
set_option maxHeartbeats 8000000 in
theorem PySem.Challenge.cw_nt0421_01_holds : PySem.Challenge.rw_nt0421_01.Holds := by
  w_on
  refine holds_law Mine.said_ok fun said => ?_
  refine holds_open (q := Mine.viewB) (loose := []) (Xt := fun s => xlAt Mine.viewB [] s && recOk (RowW.records PySem.Challenge.rw_nt0421_01.row.toRowW) s) (XP := XL Mine.viewB []) (Yf := Hook.obs Mine.hkB) (Ya := Hook.val Mine.hkB) (YP := Hook.says Mine.hkB) (N := 3332) ?hl (Hook.of Mine.hkB) (Hook.keeps Mine.hkB) (fun s e => xl_of s (Bool.and_eq_true_iff.mp e).1) XL.keeps (by rfl) (by rfl) (by rfl) (fun s e => recFacts_of (Bool.and_eq_true_iff.mp e).2) (by rfl) said (by decide +kernel) ⟨rfl, rfl, rfl, rfl, rfl, by decide +kernel⟩ ?hw ?hc
  case hl => exact Mine.left_ok
  case hw => w_witness2
  case hc =>
    intro w s₀ s₁ mg mb G Y fa o pm cd doc dV kV ho hd hcd hD hmg hg args vals as hpre hlay hrd hwl hlo
    have KX := kIn_of Y
    have X := (Ground.X G).1
    have V := (Ground.X G).2
    refine Ground.open G ?_
    intro T B D TE TW
    try (refine guard_noD D (by decide +kernel) ?_; clear D)
    obtain ⟨_, _, M⟩ := bmod_of_top T
    have TA := at_of_top T
    try (obtain ⟨_, _, he, B0⟩ := based_of_top T rfl hmg ho hd; have he' : cd = _ := he; subst he'; clear he)
    clear hmg
    wrow_args hpre hlay hrd hwl hlo
    refine enter_call ?_
    w_top on
    try refine codeAny_mono ?_ (fun _ _ g => GoodW.toG g)
    have K0 := below_caller (Top.heap T)
    w_call any ho hd hcd hD T F
    clear hd TA
    refine Mine.law_top (w := _) ‹(Mine.fragB _).In _› ‹Top _ _ _ _ _ _› ‹Fr _ _ _ _› rfl ‹Heap.IsList _ _ _› ‹IntsAre _ _› (by omega) (by kernel_rfl) (by kernel_rfl) (fun h tk hst => ?_)
    exact ⟨.inl ⟨.bool true, .bool true, [], rfl, fun cls => rfl, .bool true, by kernel_rfl, unshared_nil⟩, hst, rfl, ‹Shared.gens _ = #[]›⟩
