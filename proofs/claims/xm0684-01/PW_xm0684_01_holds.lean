import PyProof.Rows.All
import Wide.All
import OpenK.AllK
import Wide.FinOn
import PySem.Challenge.RW_xm0684_01
set_option Elab.async false

/-! # M1 -/
section
open PySem PySem.W PyProof.Rows
namespace Mine

/-! ## the small language: own trees, own values, an evaluator -/

inductive Op | add | sub | mul | mod | fdiv | pow
inductive Cm | eq | ne | lt | gt | ge | isIn | notIn | isNone | notNone

/-- expressions -/
inductive PE
  | c (d : PyData)
  | v (i : Nat)
  | g (i : Nat)
  | tup (es : List PE)
  | lst (es : List PE)
  | bin (o : Op) (a b : PE)
  | neg (a : PE)
  | cmp (o : Cm) (a b : PE)
  | ite (t a b : PE)
  | not (a : PE)
  | and (a b : PE)
  | or (a b : PE)
  | or3 (a b d : PE)
  | idx (a b : PE)
  | rev (a : PE)
  | pre (a n : PE)
  | suf (a n : PE)
  | call (f : Nat) (es : List PE)
  | len (a : PE)
  | list (a : PE)
  | tuple (a : PE)
  | repr (a : PE)
  | int (a : PE)
  | sortk (a : PE) (f : Nat)
  | pop (a : PE)
  | extend (a e : PE)
  | append (a e : PE)
  | split (a : PE) (sep : Str)
  | join (sep : Str) (e : PE)
  | comp (x : Nat) (src : PE) (test : Option PE) (elt : PE)
  | compR (x : Nat) (cnt : PE) (elt : PE)
  | no

/-- statements -/
inductive PS
  | asg (x : Nat) (e : PE)
  | asgC (x : Nat) (e : PE)
  | asg2 (x y : Nat) (a b : PE)
  | put (a i e : PE)
  | ifs (t : PE) (a b : List PS)
  | whil (t : PE) (b : List PS)
  | forL (x : Nat) (e : PE) (b : List PS)
  | forR (x : Nat) (e : PE) (b : List PS)
  | ret (e : PE)
  | ex (e : PE)
  | no

/-- values: data that never change; a list of the store; a list that stood before the call -/
inductive V
  | d (x : PyData)
  | l (i : Nat)
  | fz (xs : List PyData)

abbrev Store := List (List PyData)
abbrev Vars := Nat → Option V
noncomputable def upd (vs : Vars) (x : Nat) (v : V) : Vars := fun y => if y = x then some v else vs y

inductive Fl
  | next
  | ret (v : V)

/-- a function: its parameters, its body -/
structure Fn where
  params : List Nat
  body : List PS

noncomputable def binop (o : Op) (a b : PyData) : Option PyData :=
  match o, a, b with
  | .add, .int x, .int y => some (.int (x + y))
  | .sub, .int x, .int y => some (.int (x - y))
  | .mul, .int x, .int y => if x.natAbs < 2 ^ 63 ∨ y.natAbs < 2 ^ 63 then some (.int (x * y)) else none
  | .mod, .int x, .int y => if y ≠ 0 then some (.int (x.fmod y)) else none
  | .fdiv, .int x, .int y => if y ≠ 0 ∧ y.natAbs < 1073741824 then some (.int (x.fdiv y)) else none
  | .pow, .int x, .int y => if 0 ≤ y ∧ y ≤ 1000000 ∧ x.natAbs < 2 ^ 64 then some (.int (x ^ y.toNat)) else none
  | .add, .str x, .str y => if x.length ≤ 1000000 ∧ y.length ≤ 1000000 then some (.str (x ++ y)) else none
  | _, _, _ => none

noncomputable def strLt (a b : Str) : Bool := decide (a.cps.toList < b.cps.toList)

/-- the order of two tuples of texts -/
noncomputable def tupLt : List PyData → List PyData → Option Bool
  | [], [] => some false
  | .str a :: r, .str b :: t => if a == b then tupLt r t else some (strLt a b)
  | _, _ => none

noncomputable def datOf (st : Store) : V → Option PyData
  | .d x => some x
  | .l i => (st[i]?).map .list
  | .fz xs => some (.list xs)

noncomputable def itemsOf (st : Store) : V → Option (List PyData)
  | .d (.tuple xs) => some xs
  | .l i => st[i]?
  | .fz xs => some xs
  | _ => none

noncomputable def listOf? (st : Store) : V → Option (List PyData)
  | .l i => st[i]?
  | .fz xs => some xs
  | _ => none

noncomputable def strsOf : List PyData → Option (List Str)
  | [] => some []
  | .str x :: r => (strsOf r).map (x :: ·)
  | _ => none

noncomputable def datsOf : List V → Option (List PyData)
  | [] => some []
  | .d x :: r => (datsOf r).map (x :: ·)
  | _ => none

noncomputable def shapedV (d : PyData) : Bool := PySem.SeqAt.shaped d

noncomputable def cmpop (o : Cm) (st : Store) (a b : V) : Option Bool :=
  match o with
  | .eq => match datOf st a, datOf st b with
    | some x, some y => if shapedV x && shapedV y then some (PyData.eqv x y) else none
    | _, _ => none
  | .ne => match datOf st a, datOf st b with
    | some x, some y => if shapedV x && shapedV y then some (!PyData.eqv x y) else none
    | _, _ => none
  | .lt => match a, b with
    | .d (.int x), .d (.int y) => some (decide (x < y))
    | .d (.tuple x), .d (.tuple y) => tupLt x y
    | _, _ => none
  | .gt => match a, b with
    | .d (.int x), .d (.int y) => some (decide (x > y))
    | _, _ => none
  | .ge => match a, b with
    | .d (.int x), .d (.int y) => some (decide (x ≥ y))
    | _, _ => none
  | .isIn => match datOf st a, itemsOf st b with
    | some x, some ys => if shapedV x && ys.all shapedV then some (ys.any fun y => PyData.eqv y x) else none
    | _, _ => none
  | .notIn => match datOf st a, itemsOf st b with
    | some x, some ys => if shapedV x && ys.all shapedV then some (!ys.any fun y => PyData.eqv y x) else none
    | _, _ => none
  | .isNone => match a, b with
    | .d x, .d .none => some (match x with | .none => true | _ => false)
    | _, _ => none
  | .notNone => match a, b with
    | .d x, .d .none => some (match x with | .none => false | _ => true)
    | _, _ => none

/-- an index into n items, from the end where it is negative -/
noncomputable def place (n : Nat) (k : Int) : Option Nat :=
  if 0 ≤ k then (if k < n then some k.toNat else none) else if 0 ≤ k + n then some (k + n).toNat else none

noncomputable def anyD : PyData := .tuple [.str "name", .str "Any", .tuple []]
noncomputable def bottomD : PyData := .tuple [.str "bottom"]
noncomputable def globD : Nat → Option PyData
  | 0 => some anyD
  | 1 => some bottomD
  | _ => none

/-- the comparison of two keys of a sort -/
noncomputable def keyLess : PyData → PyData → Option Bool
  | .tuple x, .tuple y => tupLt x y
  | _, _ => none

/-- the sort's questions, asked of the keys -/
noncomputable def runKas {α : Type} (ks : List PyData) : KasT α → Option α
  | .ret a => some a
  | .ask i j k => match ks[i]?, ks[j]? with
    | some x, some y => match keyLess x y with
      | some b => runKas ks (k b)
      | none => none
    | _, _ => none

noncomputable def firstStr (d : PyData) : Bool := match d with
  | .tuple (.str _ :: _) => true
  | _ => false

noncomputable def sortBy (ks xs : List PyData) : Option (List PyData) :=
  if xs.length ≤ 1 then none else if xs.length < 64 ∧ ks.length = xs.length ∧ ks.all firstStr = true then
    (runKas ks (kas_sort xs.length)).map fun p => p.toList.map fun i => xs.getD i .none
  else none

noncomputable def firstOf (d : PyData) : Option Str := match d with
  | .tuple (.str x :: _) => some x
  | _ => none

noncomputable def reprOk (d : PyData) : Bool := match d with
  | .tuple _ => d.showable && !d.hasDict && decide (d.depth ≤ 64) && decide (d.shown.length ≤ sizeLine)
  | _ => false

end Mine
namespace Mine

/-! ## the evaluator; n is its fuel -/

structure Env0 where
  fns : Nat → Option Fn

noncomputable def mkVars (ps : List Nat) (vs : List V) : Vars := fun x => ((ps.zip vs).reverse.lookup x)

mutual
noncomputable def evE (fs : Nat → Option Fn) : Nat → Vars → Store → PE → Option (V × Store)
  | 0, _, _, _ => none
  | n + 1, vs, st, e => match e with
    | .c d => some (.d d, st)
    | .v i => match vs i with
      | some v => some (v, st)
      | none => none
    | .g i => match globD i with
      | some d => some (.d d, st)
      | none => none
    | .tup es => match evEs fs n vs st es with
      | some (us, st1) => match datsOf us with
        | some ds => if ds.length ≤ 1000000 then some (.d (.tuple ds), st1) else none
        | none => none
      | none => none
    | .lst es => match evEs fs n vs st es with
      | some (us, st1) => match datsOf us with
        | some ds => if ds.length ≤ 1000000 then some (.l st1.length, st1 ++ [ds]) else none
        | none => none
      | none => none
    | .bin o a b => match evE fs n vs st a with
      | some (u, st1) => match evE fs n vs st1 b with
        | some (v, st2) => match u, v with
          | .d x, .d y => match binop o x y with
            | some z => some (.d z, st2)
            | none => none
          | .l i, .l j => match o, st2[i]?, st2[j]? with
            | .add, some xs, some ys => if xs.length + ys.length ≤ 1000000 then some (.l st2.length, st2 ++ [xs ++ ys]) else none
            | _, _, _ => none
          | _, _ => none
        | none => none
      | none => none
    | .neg a => match evE fs n vs st a with
      | some (.d (.int x), st1) => some (.d (.int (-x)), st1)
      | _ => none
    | .cmp o a b => match evE fs n vs st a with
      | some (u, st1) => match evE fs n vs st1 b with
        | some (v, st2) => match cmpop o st2 u v with
          | some r => some (.d (.bool r), st2)
          | none => none
        | none => none
      | none => none
    | .ite t a b => match evT fs n vs st t with
      | some (true, st1) => evE fs n vs st1 a
      | some (false, st1) => evE fs n vs st1 b
      | none => none
    | .not _ => none
    | .and _ _ => none
    | .or _ _ => none
    | .or3 _ _ _ => none
    | .idx a b => match evE fs n vs st a with
      | some (u, st1) => match evE fs n vs st1 b with
        | some (.d (.int k), st2) => if -(2 ^ 63) ≤ k ∧ k < 2 ^ 63 then match itemsOf st2 u with
          | some xs => match place xs.length k with
            | some j => match xs[j]? with
              | some x => some (.d x, st2)
              | none => none
            | none => none
          | none => none
          else none
        | _ => none
      | none => none
    | .rev a => match evE fs n vs st a with
      | some (.d (.tuple xs), st1) => if xs.length ≤ 1000000 then some (.d (.tuple xs.reverse), st1) else none
      | some (.l i, st1) => match st1[i]? with
        | some xs => if xs.length ≤ 1000000 then some (.l st1.length, st1 ++ [xs.reverse]) else none
        | none => none
      | _ => none
    | .pre a k => match evE fs n vs st a with
      | some (.l i, st1) => match evE fs n vs st1 k with
        | some (.d (.int j), st2) => match st2[i]? with
          | some xs => if 0 ≤ j ∧ j < 2 ^ 62 ∧ xs.length ≤ 1000000 then some (.l st2.length, st2 ++ [xs.take j.toNat]) else none
          | none => none
        | _ => none
      | _ => none
    | .suf a k => match evE fs n vs st a with
      | some (u, st1) => match evE fs n vs st1 k with
        | some (.d (.int j), st2) => if 0 ≤ j ∧ j < 2 ^ 62 then match u with
          | .l i => match st2[i]? with
            | some xs => if xs.length ≤ 1000000 then some (.l st2.length, st2 ++ [xs.drop j.toNat]) else none
            | none => none
          | .d (.tuple xs) => if 1 ≤ j ∧ j ≤ xs.length ∧ xs.length ≤ 1000000 then some (.d (.tuple (xs.drop j.toNat)), st2) else none
          | _ => none
          else none
        | _ => none
      | none => none
    | .call f es => match evEs fs n vs st es with
      | some (us, st1) => evF fs n f us st1
      | none => none
    | .len a => match evE fs n vs st a with
      | some (u, st1) => match listOf? st1 u with
        | some xs => if xs.length ≤ 1000000 then some (.d (.int xs.length), st1) else none
        | none => none
      | none => none
    | .list a => match evE fs n vs st a with
      | some (u, st1) => match itemsOf st1 u with
        | some xs => if xs.length ≤ 1000000 then some (.l st1.length, st1 ++ [xs]) else none
        | none => none
      | none => none
    | .tuple a => match evE fs n vs st a with
      | some (.l i, st1) => match st1[i]? with
        | some xs => if xs.length ≤ 1000000 then some (.d (.tuple xs), st1) else none
        | none => none
      | _ => none
    | .repr a => match evE fs n vs st a with
      | some (.d x, st1) => if reprOk x then some (.d (.str x.shown), st1) else none
      | _ => none
    | .int a => match evE fs n vs st a with
      | some (.d (.bool b), st1) => some (.d (.int (if b then 1 else 0)), st1)
      | _ => none
    | .sortk a f => match evE fs n vs st a with
      | some (.l i, st1) => match st1[i]? with
        | some xs => match evKeys fs n f xs st1 with
          | some (ks, st2) => match sortBy ks xs with
            | some ys => some (.l st2.length, st2 ++ [ys])
            | none => none
          | none => none
        | none => none
      | _ => none
    | .pop a => match evE fs n vs st a with
      | some (.l i, st1) => match st1[i]? with
        | some xs => match xs.getLast? with
          | some x => if xs.length ≤ 1000000 then some (.d x, st1.set i xs.dropLast) else none
          | none => none
        | none => none
      | _ => none
    | .extend a e => match evE fs n vs st a with
      | some (.l i, st1) => match evE fs n vs st1 e with
        | some (.d (.tuple ys), st2) => match st2[i]? with
          | some xs => if xs.length + ys.length ≤ 1000000 then some (.d .none, st2.set i (xs ++ ys)) else none
          | none => none
        | _ => none
      | _ => none
    | .append a e => match evE fs n vs st a with
      | some (.l i, st1) => match evE fs n vs st1 e with
        | some (.d y, st2) => match st2[i]? with
          | some xs => if xs.length ≤ 1000000 then some (.d .none, st2.set i (xs ++ [y])) else none
          | none => none
        | _ => none
      | _ => none
    | .split a sep => match evE fs n vs st a with
      | some (.d (.str x), st1) => if sep.length == 1 && decide (x.length ≤ 1000) then some (.l st1.length, st1 ++ [(Txt.split x sep).map .str]) else none
      | _ => none
    | .join sep e => match evE fs n vs st e with
      | some (.l i, st1) => match st1[i]? with
        | some xs => match strsOf xs with
          | some zs => if zs.length ≤ 1000 ∧ (zs.all fun z => decide (z.length ≤ 1000)) ∧ sep.length ≤ 10 then some (.d (.str (Txt.join sep zs)), st1) else none
          | none => none
        | none => none
      | _ => none
    | .comp x src t elt => match evE fs n vs st src with
      | some (.l i, st1) => match evComp fs n vs st1 x i 0 t elt [] with
        | some (ys, st2) => some (.l st2.length, st2 ++ [ys])
        | none => none
      | _ => none
    | .compR x cnt elt => match evE fs n vs st cnt with
      | some (.d (.int k), st1) => if 0 ≤ k ∧ k ≤ 1000000 then match evCompR fs n vs st1 x k.toNat 0 elt [] with
        | some (ys, st2) => some (.l st2.length, st2 ++ [ys])
        | none => none
        else none
      | _ => none
    | .no => none
termination_by structural n => n
noncomputable def evEs (fs : Nat → Option Fn) : Nat → Vars → Store → List PE → Option (List V × Store)
  | 0, _, _, _ => none
  | n + 1, vs, st, es => match es with
    | [] => some ([], st)
    | e :: r => match evE fs n vs st e with
      | some (u, st1) => match evEs fs n vs st1 r with
        | some (us, st2) => some (u :: us, st2)
        | none => none
      | none => none
termination_by structural n => n
noncomputable def evT (fs : Nat → Option Fn) : Nat → Vars → Store → PE → Option (Bool × Store)
  | 0, _, _, _ => none
  | n + 1, vs, st, e => match e with
    | .not a => match evT fs n vs st a with
      | some (b, st1) => some (!b, st1)
      | none => none
    | .and a b => match evT fs n vs st a with
      | some (true, st1) => evT fs n vs st1 b
      | some (false, st1) => some (false, st1)
      | none => none
    | .or a b => match evT fs n vs st a with
      | some (true, st1) => some (true, st1)
      | some (false, st1) => evT fs n vs st1 b
      | none => none
    | .or3 a b d => match evT fs n vs st a with
      | some (true, st1) => some (true, st1)
      | some (false, st1) => evT fs n vs st1 (.or b d)
      | none => none
    | .cmp o a b => match evE fs n vs st (.cmp o a b) with
      | some (.d (.bool b), st1) => some (b, st1)
      | _ => none
    | .v i => match evE fs n vs st (.v i) with
      | some (.d (.bool b), st1) => some (b, st1)
      | _ => none
    | .call f es => match evE fs n vs st (.call f es) with
      | some (.d (.bool b), st1) => some (b, st1)
      | _ => none
    | _ => none
termination_by structural n => n
noncomputable def evKeys (fs : Nat → Option Fn) : Nat → Nat → List PyData → Store → Option (List PyData × Store)
  | 0, _, _, _ => none
  | n + 1, f, xs, st => match xs with
    | [] => some ([], st)
    | x :: r => match evF fs n f [.d x] st with
      | some (.d k, st1) => match evKeys fs n f r st1 with
        | some (ks, st2) => some (k :: ks, st2)
        | none => none
      | _ => none
termination_by structural n => n
noncomputable def evComp (fs : Nat → Option Fn) : Nat → Vars → Store → Nat → Nat → Nat → Option PE → PE → List PyData → Option (List PyData × Store)
  | 0, _, _, _, _, _, _, _, _ => none
  | n + 1, vs, st, x, i, k, t, elt, acc => match st[i]? with
    | none => none
    | some xs => match xs[k]? with
      | none => some (acc, st)
      | some d => match (match t with
          | some t => evT fs n (upd vs x (.d d)) st t
          | none => some (true, st)) with
        | some (true, st1) => match evE fs n (upd vs x (.d d)) st1 elt with
          | some (.d y, st2) => if acc.length ≤ 1000000 then evComp fs n vs st2 x i (k + 1) t elt (acc ++ [y]) else none
          | _ => none
        | some (false, st1) => evComp fs n vs st1 x i (k + 1) t elt acc
        | none => none
termination_by structural n => n
noncomputable def evCompR (fs : Nat → Option Fn) : Nat → Vars → Store → Nat → Nat → Nat → PE → List PyData → Option (List PyData × Store)
  | 0, _, _, _, _, _, _, _ => none
  | n + 1, vs, st, x, k, j, elt, acc => match k with
    | 0 => some (acc, st)
    | k + 1 => match evE fs n (upd vs x (.d (.int j))) st elt with
      | some (.d y, st2) => if acc.length ≤ 1000000 then evCompR fs n vs st2 x k (j + 1) elt (acc ++ [y]) else none
      | _ => none
termination_by structural n => n
noncomputable def evS (fs : Nat → Option Fn) : Nat → Vars → Store → PS → Option (Fl × Vars × Store)
  | 0, _, _, _ => none
  | n + 1, vs, st, p => match p with
    | .asg x e => match evE fs n vs st e with
      | some (u, st1) => some (.next, upd vs x u, st1)
      | none => none
    | .asgC x e => match evE fs n vs st e with
      | some (u, st1) => some (.next, upd vs x u, st1)
      | none => none
    | .asg2 x y a b => match evE fs n vs st a with
      | some (u, st1) => match evE fs n vs st1 b with
        | some (v, st2) => some (.next, upd (upd vs x u) y v, st2)
        | none => none
      | none => none
    | .put a i e => match evE fs n vs st e with
      | some (.d y, st1) => match evE fs n vs st1 a with
        | some (.l l, st2) => match evE fs n vs st2 i with
          | some (.d (.int k), st3) => match st3[l]? with
            | some xs => if -(2 ^ 62) ≤ k ∧ k < 2 ^ 62 then match place xs.length k with
              | some j => some (.next, vs, st3.set l (xs.set j y))
              | none => none
              else none
            | none => none
          | _ => none
        | _ => none
      | _ => none
    | .ifs t a b => match evT fs n vs st t with
      | some (true, st1) => evSs fs n vs st1 a
      | some (false, st1) => evSs fs n vs st1 b
      | none => none
    | .whil t b => evWh fs n vs st t b
    | .forL x e b => match evE fs n vs st e with
      | some (.l i, st1) => evFor fs n vs st1 x i 0 b
      | _ => none
    | .forR x e b => match evE fs n vs st e with
      | some (.d (.int k), st1) => if 0 ≤ k ∧ k ≤ 1000000 then evForR fs n vs st1 x k.toNat 0 b else none
      | _ => none
    | .ret e => match evE fs n vs st e with
      | some (u, st1) => some (.ret u, vs, st1)
      | none => none
    | .ex e => match evE fs n vs st e with
      | some (.d .none, st1) => some (.next, vs, st1)
      | _ => none
    | .no => none
termination_by structural n => n
noncomputable def evSs (fs : Nat → Option Fn) : Nat → Vars → Store → List PS → Option (Fl × Vars × Store)
  | 0, _, _, _ => none
  | n + 1, vs, st, ps => match ps with
    | [] => some (.next, vs, st)
    | p :: r => match evS fs n vs st p with
      | some (.next, vs1, st1) => evSs fs n vs1 st1 r
      | some (.ret u, vs1, st1) => some (.ret u, vs1, st1)
      | none => none
termination_by structural n => n
noncomputable def evWh (fs : Nat → Option Fn) : Nat → Vars → Store → PE → List PS → Option (Fl × Vars × Store)
  | 0, _, _, _, _ => none
  | n + 1, vs, st, t, b => match evT fs n vs st t with
    | some (true, st1) => match evSs fs n vs st1 b with
      | some (.next, vs1, st2) => evWh fs n vs1 st2 t b
      | some (.ret u, vs1, st2) => some (.ret u, vs1, st2)
      | none => none
    | some (false, st1) => some (.next, vs, st1)
    | none => none
termination_by structural n => n
noncomputable def evFor (fs : Nat → Option Fn) : Nat → Vars → Store → Nat → Nat → Nat → List PS → Option (Fl × Vars × Store)
  | 0, _, _, _, _, _, _ => none
  | n + 1, vs, st, x, i, k, b => match st[i]? with
    | none => none
    | some xs => match xs[k]? with
      | none => some (.next, vs, st)
      | some d => match evSs fs n (upd vs x (.d d)) st b with
        | some (.next, vs1, st1) => evFor fs n vs1 st1 x i (k + 1) b
        | some (.ret u, vs1, st1) => some (.ret u, vs1, st1)
        | none => none
termination_by structural n => n
noncomputable def evForR (fs : Nat → Option Fn) : Nat → Vars → Store → Nat → Nat → Nat → List PS → Option (Fl × Vars × Store)
  | 0, _, _, _, _, _, _ => none
  | n + 1, vs, st, x, k, j, b => match k with
    | 0 => some (.next, vs, st)
    | k + 1 => match evSs fs n (upd vs x (.d (.int j))) st b with
      | some (.next, vs1, st1) => evForR fs n vs1 st1 x k (j + 1) b
      | some (.ret u, vs1, st1) => some (.ret u, vs1, st1)
      | none => none
termination_by structural n => n
noncomputable def evF (fs : Nat → Option Fn) : Nat → Nat → List V → Store → Option (V × Store)
  | 0, _, _, _ => none
  | n + 1, f, us, st => match fs f with
    | some F => if F.params.length = us.length then match evSs fs n (mkVars F.params us) st F.body with
      | some (.ret u, _, st1) => some (u, st1)
      | some (.next, _, st1) => some (.d .none, st1)
      | none => none
      else none
    | none => none
termination_by structural n => n
end

end Mine
end

/-! # M2 -/
section
open PySem PySem.W PyProof.Rows
namespace Mine
open PE PS

/-! ## the program, in the small language -/

noncomputable def nmL : List Str := ["kinds", "left", "found", "here", "kind", "variable", "is_whole", "word", "some", "part",
  "script", "told", "size", "trunk", "many", "things", "name", "rows", "row", "at", "other", "due", "whole", "none", "char", "turn"]
noncomputable def nm (i : Nat) : Str := nmL.getD i "?"
noncomputable def fnL : List Str := ["union_of", "members_of", "parts_of_kind", "shown_name", "written_kind", "kind_text", "kind_key",
  "_law_trunk", "_law_pull", "_law_one", "_law_member", "_law_due", "_law_is_right", "law"]
noncomputable def fnm (i : Nat) : Str := fnL.getD i "?"
noncomputable def gnm : Nat → Str
  | 0 => "ANY"
  | _ => "BOTTOM"

noncomputable def cs (s : String) : PE := .c (.str (Str.ofString s))
noncomputable def ci (i : Int) : PE := .c (.int i)

noncomputable def F0 : Fn := ⟨[0], [
  asg2 1 2 (rev (list (v 0))) (lst []),
  whil (cmp .ne (v 1) (lst [])) [
    asg 3 (pop (v 1)),
    ifs (cmp .eq (idx (v 3) (ci 0)) (cs "union"))
      [ex (extend (v 1) (rev (idx (v 3) (ci 1))))]
      [ifs (and (cmp .ne (v 3) (g 1)) (cmp .notIn (v 3) (v 2))) [ex (append (v 2) (v 3))] []]],
  ifs (cmp .isIn (g 0) (v 2)) [ret (g 0)] [],
  ifs (cmp .eq (v 2) (lst [])) [ret (g 1)] [],
  ret (ite (cmp .eq (len (v 2)) (ci 1)) (idx (v 2) (ci 0)) (tup [cs "union", tuple (sortk (v 2) 6)]))]⟩
noncomputable def F1 : Fn := ⟨[4], [
  ifs (cmp .eq (v 4) (g 1)) [ret (lst [])] [],
  ret (ite (cmp .eq (idx (v 4) (ci 0)) (cs "union")) (list (idx (v 4) (ci 1))) (lst [v 4]))]⟩
noncomputable def F2 : Fn := ⟨[4], [
  asg 7 (idx (v 4) (ci 0)),
  ifs (cmp .eq (v 7) (cs "name")) [ret (list (idx (v 4) (ci 2)))] [],
  ifs (cmp .eq (v 7) (cs "tuple")) [ret (bin .add (list (idx (v 4) (ci 1))) (ite (cmp .isNone (idx (v 4) (ci 2)) (c .none)) (lst []) (lst [idx (v 4) (ci 2)])))] [],
  PS.no, PS.no, PS.no]⟩
noncomputable def F3 : Fn := ⟨[5], [ret (idx (split (v 5) ".") (ci 0))]⟩
noncomputable def F4 : Fn := ⟨[4, 6], [
  asg 7 (idx (v 4) (ci 0)),
  asg 8 (ite (cmp .isIn (v 7) (tup [cs "name", cs "tuple", cs "union"])) (comp 9 (call 2 [v 4]) Option.none (call 4 [v 9, v 6])) (lst [])),
  ifs (cmp .eq (v 7) (cs "name")) [ret (bin .add (idx (v 4) (ci 1)) (ite (cmp .ne (v 8) (lst [])) (bin .add (bin .add (cs "{") (join ", " (v 8))) (cs "}")) (cs "")))] [],
  ifs (cmp .eq (v 7) (cs "tuple")) [
    ifs (cmp .notNone (idx (v 4) (ci 2)) (c .none)) [put (v 8) (neg (ci 1)) (bin .add (bin .add (cs "Vararg{") (idx (v 8) (neg (ci 1)))) (cs "}"))] [],
    ret (bin .add (bin .add (cs "Tuple{") (join ", " (v 8))) (cs "}"))] [],
  ifs (cmp .eq (v 7) (cs "union")) [PS.no] [],
  ifs (cmp .eq (v 7) (cs "all")) [PS.no] [],
  ifs (cmp .eq (v 7) (cs "typeof")) [ret (bin .add (bin .add (cs "Type{") (call 4 [idx (v 4) (ci 1), v 6])) (cs "}"))] [],
  ifs (cmp .eq (v 7) (cs "fn")) [PS.no] [],
  ifs (cmp .eq (v 7) (cs "n")) [PS.no] [],
  ret (ite (cmp .eq (v 7) (cs "var")) (ite (v 6) (idx (v 4) (ci 1)) (call 3 [idx (v 4) (ci 1)])) (cs "Union{}"))]⟩
noncomputable def F5 : Fn := ⟨[4], [ret (call 4 [v 4, c (.bool false)])]⟩
noncomputable def F6 : Fn := ⟨[4], [ret (tup [call 5 [v 4], call 4 [v 4, c (.bool true)], repr (v 4)])]⟩
noncomputable def F7 : Fn := ⟨[10], [
  asg 11 (ite (cmp .gt (len (v 10)) (ci 0)) (idx (v 10) (ci 0)) (ci 0)),
  asg 12 (ite (cmp .ge (v 11) (ci 0)) (v 11) (bin .sub (ci 31) (bin .mul (ci 2) (v 11)))),
  ifs (cmp .eq (v 11) (ci 0)) [ret (lst [ci 0, ci 0])] [],
  ret (lst [ite (cmp .ge (v 12) (bin .pow (ci 10) (ci 15))) (v 12) (ci 0),
    bin .mod (bin .add (bin .add (bin .mul (bin .mod (v 12) (ci 1999867)) (ci 2)) (int (cmp .lt (v 11) (ci 0)))) (ci 67)) (ci 2147483399)])]⟩
noncomputable def F8 : Fn := ⟨[13, 14], [
  ifs (cmp .gt (idx (v 13) (ci 0)) (ci 0)) [
    asg 2 (bin .mod (idx (v 13) (ci 0)) (v 14)),
    put (v 13) (ci 0) (bin .fdiv (idx (v 13) (ci 0)) (v 14)),
    ret (v 2)] [],
  ifs (cmp .eq (idx (v 13) (ci 1)) (ci 0)) [ret (ci 0)] [],
  put (v 13) (ci 1) (bin .mod (bin .add (bin .mul (idx (v 13) (ci 1)) (ci 40692)) (ci 97)) (ci 2147483399)),
  ret (bin .mod (bin .fdiv (idx (v 13) (ci 1)) (ci 32)) (v 14))]⟩
noncomputable def F9 : Fn := ⟨[13, 15], [ret (idx (v 15) (call 8 [v 13, len (v 15)]))]⟩
noncomputable def nameK (e : PE) : PE := tup [cs "name", e, tup []]
noncomputable def brk (s : String) (t : String) : PE := bin .add (bin .add (cs s) (v 16)) (cs t)
noncomputable def F10 : Fn := ⟨[13], [
  asg 16 (call 9 [v 13, lst [cs "Int64", cs "Bool", cs "Integer", cs "Char"]]),
  asg 4 (tup [cs "name", v 16, tup []]),
  ret (call 9 [v 13, lst [
    tup [v 4, v 16, v 16],
    tup [tup [cs "name", cs "Ref", tup [v 4]], brk "Ref{" "}", brk "Ref{" "}"],
    tup [tup [cs "tuple", tup [v 4], c .none], brk "Tuple{" "}", brk "Tuple{" "}"],
    tup [tup [cs "tuple", tup [], v 4], brk "Tuple{Vararg{" "}}", brk "Tuple{Vararg{" "}}"],
    tup [tup [cs "typeof", v 4], brk "Type{" "}", brk "Type{" "}"],
    tup [tup [cs "var", cs "T.1"], cs "T", cs "T.1"],
    tup [tup [cs "var", cs "T.2"], cs "T", cs "T.2"],
    tup [tup [cs "bottom"], cs "Union{}", cs "Union{}"],
    tup [v 4, v 16, v 16],
    tup [tup [cs "name", cs "Any", tup []], cs "Any", cs "Any"]]])]⟩
noncomputable def F11 : Fn := ⟨[17], [
  asgC 0 (comp 18 (v 17) Option.none (idx (v 18) (ci 0))),
  ifs (cmp .isIn (tup [cs "name", cs "Any", tup []]) (v 0)) [ret (tup [cs "name", cs "Any", tup []])] [],
  asg 2 (lst []),
  forL 18 (v 17) [
    ifs (and (cmp .ne (idx (v 18) (ci 0)) (tup [cs "bottom"])) (cmp .notIn (v 18) (v 2))) [
      asg 19 (len (comp 20 (v 2) (some (cmp .lt (suf (v 20) (ci 1)) (suf (v 18) (ci 1)))) (v 20))),
      asg 2 (bin .add (bin .add (pre (v 2) (v 19)) (lst [v 18])) (suf (v 2) (v 19)))] []],
  ifs (cmp .eq (v 2) (lst [])) [ret (tup [cs "bottom"])] [],
  ret (ite (cmp .eq (len (v 2)) (ci 1)) (idx (idx (v 2) (ci 0)) (ci 0)) (tup [cs "union", tuple (comp 18 (v 2) Option.none (idx (v 18) (ci 0)))]))]⟩
noncomputable def F12 : Fn := ⟨[11, 17], [
  asg 21 (call 11 [v 17]),
  ifs (or3 (cmp .ne (call 0 [v 11]) (v 21)) (cmp .ne (call 0 [rev (v 11)]) (v 21)) (cmp .ne (call 0 [lst [v 21]]) (v 21))) [ret (c (.bool false))] [],
  ret (cmp .eq (call 1 [v 21]) (ite (cmp .eq (v 21) (tup [cs "bottom"])) (lst []) (ite (cmp .eq (idx (v 21) (ci 0)) (cs "union")) (list (idx (v 21) (ci 1))) (lst [v 21]))))]⟩
noncomputable def F13 : Fn := ⟨[10], [
  asg2 22 23 (tup [cs "name", cs "Int64", tup []]) (tup [cs "bottom"]),
  ifs (not (call 12 [lst [v 23, v 22], lst [tup [v 23, cs "Union{}", cs "Union{}"], tup [v 22, cs "Int64", cs "Int64"]]])) [ret (c (.bool false))] [],
  asg2 24 20 (tup [cs "name", cs "Char", tup []]) (tup [cs "name", cs "Bool", tup []]),
  asg 17 (lst [tup [v 24, cs "Char", cs "Char"], tup [v 22, cs "Int64", cs "Int64"], tup [v 20, cs "Bool", cs "Bool"], tup [v 23, cs "Union{}", cs "Union{}"]]),
  ifs (not (call 12 [lst [v 24, tup [cs "union", tup [v 22, tup [cs "union", tup [v 20, v 23]]]], v 22], v 17])) [ret (c (.bool false))] [],
  asg 13 (call 7 [v 10]),
  asgC 17 (compR 25 (call 8 [v 13, ci 7]) (call 10 [v 13])),
  asgC 0 (comp 18 (v 17) Option.none (idx (v 18) (ci 0))),
  forR 25 (call 8 [v 13, ci 3]) [
    asg 14 (bin .add (ci 1) (call 8 [v 13, ci 3])),
    asg 0 (ite (cmp .gt (len (v 0)) (v 14)) (bin .add (lst [tup [cs "union", tuple (pre (v 0) (v 14))]]) (suf (v 0) (v 14))) (v 0))],
  ret (call 12 [v 0, v 17])]⟩

noncomputable def fns : Nat → Option Fn
  | 0 => some F0 | 1 => some F1 | 2 => some F2 | 3 => some F3 | 4 => some F4 | 5 => some F5 | 6 => some F6
  | 7 => some F7 | 8 => some F8 | 9 => some F9 | 10 => some F10 | 11 => some F11 | 12 => some F12 | 13 => some F13
  | _ => Option.none

end Mine
end

/-! # M3 -/
section
open PySem PySem.W PyProof.Rows
namespace Mine

/-! ## how the heap bears values -/

mutual
inductive RI (h : Heap) : Value → PyData → Prop
  | none : RI h .none .none
  | bool (b : Bool) : RI h (.bool b) (.bool b)
  | int (i : Int) (t : Tok) : RI h (.int i t) (.int i)
  | str (x : Str) (t : Tok) : RI h (.str x t) (.str x)
  | tuple {a : Addr} {o : Obj} {vs : Array Value} {n : Nat} {ds : List PyData} : h.get? a = some o → o.cls = .type "tuple" → o.data = .seq vs n → RIs h vs.toList ds → RI h (.ref a) (.tuple ds)
inductive RIs (h : Heap) : List Value → List PyData → Prop
  | nil : RIs h [] []
  | cons {v : Value} {vs : List Value} {d : PyData} {ds : List PyData} : RI h v d → RIs h vs ds → RIs h (v :: vs) (d :: ds)
end

noncomputable def TupKeep (h h' : Heap) : Prop := ∀ a o, h.get? a = some o → (o.cls = .type "tuple" ∧ ∃ vs n, o.data = .seq vs n) → h'.get? a = some o

mutual
theorem RI.keep {h h' : Heap} (k : TupKeep h h') : ∀ {v : Value} {d : PyData}, RI h v d → RI h' v d
  | _, _, .none => .none
  | _, _, .bool b => .bool b
  | _, _, .int i t => .int i t
  | _, _, .str x t => .str x t
  | _, _, .tuple e c d r => .tuple (k _ _ e ⟨c, _, _, d⟩) c d (RIs.keep k r)
theorem RIs.keep {h h' : Heap} (k : TupKeep h h') : ∀ {vs : List Value} {ds : List PyData}, RIs h vs ds → RIs h' vs ds
  | _, _, .nil => .nil
  | _, _, .cons r rs => .cons (RI.keep k r) (RIs.keep k rs)
end

mutual
theorem RI.reads {h : Heap} : ∀ {v : Value} {d : PyData}, RI h v d → Reads h v d []
  | _, _, .none => .none
  | _, _, .bool b => .bool b
  | _, _, .int i t => .int i t
  | _, _, .str x t => .str x t
  | _, _, .tuple e c d r => .tuple e c d (RIs.reads r)
theorem RIs.reads {h : Heap} : ∀ {vs : List Value} {ds : List PyData}, RIs h vs ds → ReadsAll h vs ds []
  | _, _, .nil => .nil
  | _, _, .cons r rs => .cons (as := []) (bs := []) (RI.reads r) (RIs.reads rs)
end

theorem RI.at {h : Heap} {v : Value} {ds : List PyData} (r : RI h v (.tuple ds)) : ∃ a vs, v = .ref a ∧ IsTup h a vs ∧ RIs h vs.toList ds := by
  cases r with
  | tuple e c d r => exact ⟨_, _, rfl, ⟨_, e, c, _, d⟩, r⟩

section
variable {h : Heap}
theorem RIs.length {vs : List Value} {ds : List PyData} (r : RIs h vs ds) : vs.length = ds.length := by
  induction vs generalizing ds with
  | nil => cases r; rfl
  | cons v vs ih => cases r with | cons _ r => rw [List.length_cons, List.length_cons, ih r]
theorem RIs.get {vs : List Value} {ds : List PyData} (r : RIs h vs ds) {i : Nat} {d : PyData} (e : ds[i]? = some d) : ∃ v, vs[i]? = some v ∧ RI h v d := by
  induction vs generalizing ds i with
  | nil => cases r; cases e
  | cons v vs ih =>
    cases r with
    | cons r rs =>
      cases i with
      | zero => cases e; exact ⟨v, rfl, r⟩
      | succ i => exact ih rs (by simpa using e)
theorem RIs.append {vs ws : List Value} {ds es : List PyData} (r : RIs h vs ds) (q : RIs h ws es) : RIs h (vs ++ ws) (ds ++ es) := by
  induction vs generalizing ds with
  | nil => cases r; exact q
  | cons v vs ih => cases r with | cons r rs => exact .cons r (ih rs)
theorem RIs.take {vs : List Value} {ds : List PyData} (r : RIs h vs ds) (k : Nat) : RIs h (vs.take k) (ds.take k) := by
  induction vs generalizing ds k with
  | nil => cases r; simp; exact .nil
  | cons v vs ih =>
    cases r with
    | cons r rs =>
      cases k with
      | zero => exact .nil
      | succ k => exact .cons r (ih rs k)
theorem RIs.drop {vs : List Value} {ds : List PyData} (r : RIs h vs ds) (k : Nat) : RIs h (vs.drop k) (ds.drop k) := by
  induction vs generalizing ds k with
  | nil => cases r; simp; exact .nil
  | cons v vs ih =>
    cases r with
    | cons r rs =>
      cases k with
      | zero => exact .cons r rs
      | succ k => exact ih rs k
theorem RIs.reverse {vs : List Value} {ds : List PyData} (r : RIs h vs ds) : RIs h vs.reverse ds.reverse := by
  induction vs generalizing ds with
  | nil => cases r; exact .nil
  | cons v vs ih =>
    cases r with
    | cons r rs =>
      rw [List.reverse_cons, List.reverse_cons]
      exact (ih rs).append (.cons r .nil)
theorem RIs.set {vs : List Value} {ds : List PyData} (r : RIs h vs ds) {v : Value} {d : PyData} (q : RI h v d) (k : Nat) : RIs h (vs.set k v) (ds.set k d) := by
  induction vs generalizing ds k with
  | nil => cases r; exact .nil
  | cons u vs ih =>
    cases r with
    | cons r rs =>
      cases k with
      | zero => exact .cons q rs
      | succ k => exact .cons r (ih rs k)
theorem RIs.snoc_inv {vs : List Value} {d : PyData} {ds : List PyData} (r : RIs h vs (ds ++ [d])) : ∃ ws v, vs = ws ++ [v] ∧ RIs h ws ds ∧ RI h v d := by
  induction ds generalizing vs with
  | nil => cases r with | cons r rs => cases rs; exact ⟨[], _, rfl, .nil, r⟩
  | cons e ds ih =>
    cases r with
    | cons r rs =>
      obtain ⟨ws, v, rfl, a, b⟩ := ih rs
      exact ⟨_ :: ws, v, rfl, .cons r a, b⟩
theorem RIs.one {v : Value} {d : PyData} (r : RI h v d) : RIs h [v] [d] := .cons r .nil
theorem RIs.map_strs {zs : List Str} {ts : List Tok} (hl : ts.length = zs.length) : RIs h (List.zipWith (fun z t => Value.str z t) zs ts) (zs.map .str) := by
  induction zs generalizing ts with
  | nil => exact .nil
  | cons z zs ih =>
    cases ts with
    | nil => cases hl
    | cons t ts => exact .cons (.str z t) (ih (by simpa using hl))
end

/-- a value u bears v: data, a list of the store (ρ says where it stands), a list that stood before -/
inductive RV (hB : Heap) (ρ : List Addr) (h : Heap) : Value → V → Prop
  | d {u : Value} {x : PyData} : RI h u x → RV hB ρ h u (.d x)
  | l {a : Addr} {i : Nat} : ρ[i]? = some a → RV hB ρ h (.ref a) (.l i)
  | fz {a : Addr} {vs : Array Value} {xs : List PyData} : hB.IsList a vs → RIs hB vs.toList xs → RV hB ρ h (.ref a) (.fz xs)

structure HOk (hB : Heap) (ρ : List Addr) (st : Store) (h : Heap) : Prop where
  base : ∀ a o, hB.get? a = some o → h.get? a = some o
  len : ρ.length = st.length
  lists : ∀ (i : Nat) a xs, ρ[i]? = some a → st[i]? = some xs → ∃ vs, h.PlainList a vs ∧ RIs h vs.toList xs
  nodup : ρ.Nodup
  fresh : ∀ a ∈ ρ, hB.get? a = none

/-- what a step may change: the lists of the store, the names' dict L (its meaning stays) -/
structure Ext (ρ ρ' : List Addr) (L : Addr) (h h' : Heap) : Prop where
  keep : ∀ a o, h.get? a = some o → a ∉ ρ → a ≠ L → h'.get? a = some o
  ns : ∀ m, h.Ns L m → h'.Ns L m
  tup : TupKeep h h'
  live : ∀ a o, h.get? a = some o → ∃ o', h'.get? a = some o'
  fresh : ∀ a ∈ ρ', h.get? a = none

/-- a call: the lists of the store alone -/
structure ExtX (ρ ρ' : List Addr) (h h' : Heap) : Prop where
  keep : ∀ a o, h.get? a = some o → a ∉ ρ → h'.get? a = some o
  tup : TupKeep h h'
  live : ∀ a o, h.get? a = some o → ∃ o', h'.get? a = some o'
  fresh : ∀ a ∈ ρ', h.get? a = none

/-- statements: the names' dict and the cells besides -/
structure ExtS (ρ ρ' : List Addr) (X : List Addr) (h h' : Heap) : Prop where
  keep : ∀ a o, h.get? a = some o → a ∉ ρ → a ∉ X → h'.get? a = some o
  tup : TupKeep h h'
  live : ∀ a o, h.get? a = some o → ∃ o', h'.get? a = some o'
  fresh : ∀ a ∈ ρ', h.get? a = none

noncomputable def EnvK (env : Env) : Prop := env.scope.kind = .function ∧ env.globals = mainGlobals ∧ env.builtins = builtinsNs

noncomputable def Loads (env : Env) (h : Heap) (x : Str) (u : Value) : Prop :=
  (env.kindOf x = some .local ∧ ∃ m, h.Ns env.locals m ∧ m x = some u) ∨ (env.kindOf x = some .cell ∧ ∃ c, env.cells.lookup x = some c ∧ h.IsCell c (some u))

abbrev Names := List (Str × NameKind)
noncomputable def glob (N : Names) (x : Str) : Prop := N.lookup x = some .globalImplicit
abbrev own (N : Names) (x : Str) : Prop := N.lookup x = some .local ∨ N.lookup x = some .cell

structure VOk (hB : Heap) (env : Env) (ρ : List Addr) (h : Heap) (vs : Vars) : Prop where
  new : hB.get? env.locals = none
  ns : ∃ m, h.Ns env.locals m
  vars : ∀ x v, vs x = some v → own env.scope.names (nm x) → ∃ u, Loads env h (nm x) u ∧ RV hB ρ h u v

section
variable {hB h h₁ h₂ : Heap} {ρ ρ₁ ρ₂ : List Addr} {L : Addr} {st : Store} {env : Env} {vs : Vars} {u : Value} {v : V}

theorem not_ns {a : Addr} {vs : Array Value} {m : Str → Option Value} (p : h.PlainList a vs) (n : h.Ns a m) : False := by
  obtain ⟨k, e⟩ := p
  obtain ⟨o, es, ep, ho, hd, _⟩ := n
  rw [e] at ho; cases ho; cases hd
theorem not_cell {a : Addr} {vs : Array Value} {x : Option Value} (p : h.PlainList a vs) (n : h.IsCell a x) : False := by
  obtain ⟨k, e⟩ := p
  obtain ⟨o, ho, hd⟩ := n
  rw [e] at ho; cases ho; cases hd
theorem cell_not_ns {a : Addr} {x : Option Value} {m : Str → Option Value} (p : h.IsCell a x) (n : h.Ns a m) : False := by
  obtain ⟨o, ho, hd⟩ := p
  obtain ⟨o', es, ep, ho', hd', _⟩ := n
  rw [ho] at ho'; cases ho'; rw [hd] at hd'; cases hd'
theorem HOk.at (H : HOk hB ρ st h) {a : Addr} (ha : a ∈ ρ) : ∃ (i : Nat) (xs : List PyData) (vs : Array Value), ρ[i]? = some a ∧ st[i]? = some xs ∧ h.PlainList a vs ∧ RIs h vs.toList xs := by
  obtain ⟨i, hi⟩ := List.mem_iff_getElem?.mp ha
  have hlt : i < st.length := by rw [← H.len]; exact (List.getElem?_eq_some_iff.mp hi).1
  obtain ⟨vs, p, r⟩ := H.lists i a _ hi (List.getElem?_eq_getElem hlt)
  exact ⟨i, _, vs, hi, List.getElem?_eq_getElem hlt, p, r⟩
theorem HOk.ns_off (H : HOk hB ρ st h) {m : Str → Option Value} (n : h.Ns L m) : L ∉ ρ := fun ha => by
  obtain ⟨_, _, _, _, _, p, _⟩ := H.at ha
  exact not_ns p n
theorem HOk.cell_off (H : HOk hB ρ st h) {c : Addr} {x : Option Value} (n : h.IsCell c x) : c ∉ ρ := fun ha => by
  obtain ⟨_, _, _, _, _, p, _⟩ := H.at ha
  exact not_cell p n
theorem HOk.tup_off (H : HOk hB ρ st h) {a : Addr} {o : Obj} (e : h.get? a = some o) (hc : o.cls = .type "tuple") : a ∉ ρ := fun ha => by
  obtain ⟨_, _, _, _, _, ⟨k, p⟩, _⟩ := H.at ha
  rw [e] at p; cases p; exact absurd (show Value.type "list" = Value.type "tuple" from hc) (by decide)
theorem HOk.get (H : HOk hB ρ st h) {i : Nat} {a : Addr} (e : ρ[i]? = some a) : ∃ (xs : List PyData) (vs : Array Value), st[i]? = some xs ∧ h.PlainList a vs ∧ RIs h vs.toList xs := by
  have hlt : i < st.length := by rw [← H.len]; exact (List.getElem?_eq_some_iff.mp e).1
  obtain ⟨vs, p, r⟩ := H.lists i a _ e (List.getElem?_eq_getElem hlt)
  exact ⟨_, vs, List.getElem?_eq_getElem hlt, p, r⟩

theorem Ext.refl : Ext ρ [] L h h := ⟨fun _ _ e _ _ => e, fun _ n => n, fun _ _ e _ => e, fun _ o e => ⟨o, e⟩, fun _ ha => nomatch ha⟩
theorem Ext.trans (x : Ext ρ ρ₁ L h h₁) (y : Ext (ρ ++ ρ₁) ρ₂ L h₁ h₂) : Ext ρ (ρ₁ ++ ρ₂) L h h₂ := by
  refine ⟨fun a o e ha hL => y.keep a o (x.keep a o e ha hL) (fun hm => ?_) hL, fun m n => y.ns m (x.ns m n), fun a o e c => y.tup a o (x.tup a o e c) c, fun a o e => ?_, fun a ha => ?_⟩
  · rcases List.mem_append.mp hm with hm | hm
    · exact ha hm
    · rw [x.fresh a hm] at e; cases e
  · obtain ⟨o', e'⟩ := x.live a o e
    exact y.live a o' e'
  · rcases List.mem_append.mp ha with hm | hm
    · exact x.fresh a hm
    · cases q : h.get? a with
      | none => rfl
      | some o => obtain ⟨o', e'⟩ := x.live a o q; rw [y.fresh a hm] at e'; cases e'
theorem ExtX.ext (x : ExtX ρ ρ₁ h h₁) (hL : L ∉ ρ) : Ext ρ ρ₁ L h h₁ :=
  ⟨fun a o e ha _ => x.keep a o e ha, fun _ n => n.at' fun o e => x.keep L o e hL, x.tup, x.live, x.fresh⟩
theorem ExtX.refl : ExtX ρ [] h h := ⟨fun _ _ e _ => e, fun _ _ e _ => e, fun _ o e => ⟨o, e⟩, fun _ ha => nomatch ha⟩
theorem ExtX.trans (x : ExtX ρ ρ₁ h h₁) (y : ExtX (ρ ++ ρ₁) ρ₂ h₁ h₂) : ExtX ρ (ρ₁ ++ ρ₂) h h₂ := by
  refine ⟨fun a o e ha => y.keep a o (x.keep a o e ha) (fun hm => ?_), fun a o e c => y.tup a o (x.tup a o e c) c, fun a o e => ?_, fun a ha => ?_⟩
  · rcases List.mem_append.mp hm with hm | hm
    · exact ha hm
    · rw [x.fresh a hm] at e; cases e
  · obtain ⟨o', e'⟩ := x.live a o e
    exact y.live a o' e'
  · rcases List.mem_append.mp ha with hm | hm
    · exact x.fresh a hm
    · cases q : h.get? a with
      | none => rfl
      | some o => obtain ⟨o', e'⟩ := x.live a o q; rw [y.fresh a hm] at e'; cases e'
theorem ExtS.trans {X : List Addr} (x : ExtS ρ ρ₁ X h h₁) (y : ExtS (ρ ++ ρ₁) ρ₂ X h₁ h₂) : ExtS ρ (ρ₁ ++ ρ₂) X h h₂ := by
  refine ⟨fun a o e ha hX => y.keep a o (x.keep a o e ha hX) (fun hm => ?_) hX, fun a o e c => y.tup a o (x.tup a o e c) c, fun a o e => ?_, fun a ha => ?_⟩
  · rcases List.mem_append.mp hm with hm | hm
    · exact ha hm
    · rw [x.fresh a hm] at e; cases e
  · obtain ⟨o', e'⟩ := x.live a o e
    exact y.live a o' e'
  · rcases List.mem_append.mp ha with hm | hm
    · exact x.fresh a hm
    · cases q : h.get? a with
      | none => rfl
      | some o => obtain ⟨o', e'⟩ := x.live a o q; rw [y.fresh a hm] at e'; cases e'
theorem ExtS.refl {X : List Addr} : ExtS ρ [] X h h := ⟨fun _ _ e _ _ => e, fun _ _ e _ => e, fun _ o e => ⟨o, e⟩, fun _ ha => nomatch ha⟩
theorem Ext.toS {X : List Addr} (x : Ext ρ ρ₁ L h h₁) (hL : L ∈ X) : ExtS ρ ρ₁ X h h₁ :=
  ⟨fun a o e ha hX => x.keep a o e ha fun q => hX (q ▸ hL), x.tup, x.live, x.fresh⟩

theorem RV.mono (r : RV hB ρ h u v) (k : TupKeep h h₁) : RV hB (ρ ++ ρ₁) h₁ u v := by
  cases r with
  | d r => exact .d (r.keep k)
  | l e => exact .l (by rw [List.getElem?_append_left (List.getElem?_eq_some_iff.mp e).1]; exact e)
  | fz a b => exact .fz a b
theorem RV.ext (r : RV hB ρ h u v) (x : Ext ρ ρ₁ L h h₁) : RV hB (ρ ++ ρ₁) h₁ u v := r.mono x.tup

theorem Loads.ext {x : Str} (l : Loads env h x u) (H : HOk hB ρ st h) (n : ∃ m, h.Ns env.locals m) (X : Ext ρ ρ₁ env.locals h h₁) : Loads env h₁ x u := by
  rcases l with ⟨hk, m, hn, hm⟩ | ⟨hk, c, hc, hi⟩
  · exact .inl ⟨hk, m, X.ns m hn, hm⟩
  · obtain ⟨m, hn⟩ := n
    obtain ⟨o, ho, hd⟩ := id hi
    exact .inr ⟨hk, c, hc, o, X.keep c o ho (H.cell_off hi) (fun q => cell_not_ns hi (q ▸ hn)), hd⟩
theorem VOk.ext (V : VOk hB env ρ h vs) (H : HOk hB ρ st h) (X : Ext ρ ρ₁ env.locals h h₁) : VOk hB env (ρ ++ ρ₁) h₁ vs :=
  ⟨V.new, V.ns.imp fun m n => X.ns m n, fun x v e o => by
    obtain ⟨u, l, r⟩ := V.vars x v e o
    exact ⟨u, l.ext H V.ns X, r.ext X⟩⟩
end

theorem VOk.extS {hB h h₁ : Heap} {ρ ρ₁ : List Addr} {st : Store} {env : Env} {vs : Vars} {X : List Addr} (V : VOk hB env ρ h vs) (H : HOk hB ρ st h) (x : ExtS ρ ρ₁ X h h₁) (hL : env.locals ∉ X) (hc : ∀ a ∈ X, ∀ y, ¬ h.IsCell a y) : VOk hB env (ρ ++ ρ₁) h₁ vs := by
  obtain ⟨m, hn⟩ := V.ns
  have hn' : h₁.Ns env.locals m := hn.at' fun o e => x.keep _ o e (H.ns_off hn) hL
  refine ⟨V.new, ⟨m, hn'⟩, fun y v e o => ?_⟩
  obtain ⟨u, l, r⟩ := V.vars y v e o
  refine ⟨u, ?_, r.mono x.tup⟩
  rcases l with ⟨hk, m', hn2, hm⟩ | ⟨hk, c, hc', hi⟩
  · exact .inl ⟨hk, m', hn2.at' fun o e => x.keep _ o e (H.ns_off hn2) hL, hm⟩
  · obtain ⟨o, ho, hd⟩ := id hi
    exact .inr ⟨hk, c, hc', o, x.keep c o ho (H.cell_off hi) (fun q => hc c q _ hi), hd⟩

/-- the room that n steps want -/
structure Room (A : Around) (n : Nat) : Prop where
  handled : A.handled = none
  guards : A.guards = some []
  depth : A.depth + n < recursionLimit
  units : A.units + 8 * n + 100 < cLine
theorem Room.le {A : Around} {n k : Nat} (r : Room A n) (h : k ≤ n) : Room A k := ⟨r.handled, r.guards, by have := r.depth; omega, by have := r.units; omega⟩
theorem Room.in1 {A : Around} {n : Nat} (r : Room A (n + 1)) : Room A.in1 n := ⟨r.handled, r.guards, by have := r.depth; rw [Around.in1_depth]; omega, by have := r.units; rw [Around.in1_units]; omega⟩
theorem Room.deeper {A : Around} {n : Nat} {env : Env} (r : Room A (n + 1)) : Room (A.deeper env) n :=
  ⟨r.handled, r.guards, by have := r.depth; show A.depth + 1 + n < _; omega, by have := r.units; show A.units + 3 + 8 * n + 100 < _; omega⟩
theorem Room.pred {A : Around} {n : Nat} (r : Room A (n + 1)) : Room A n := r.le (Nat.le_succ n)

end Mine
end

/-! # M4 -/
section
open PySem PySem.W PyProof.Rows
namespace Mine


noncomputable def relabN (N M : Names) : Names := M.map fun (n, k) => if (k == .free && N.lookup n == some .cell) then (n, .cell) else (n, k)

inductive IsOp : Op → Operator → Prop
  | add : IsOp .add .Add
  | sub : IsOp .sub .Sub
  | mul : IsOp .mul .Mult
  | mod : IsOp .mod .Mod
  | fdiv : IsOp .fdiv .FloorDiv
  | pow : IsOp .pow .Pow
inductive IsCm : Cm → CmpOp → Prop
  | eq : IsCm .eq .Eq
  | ne : IsCm .ne .NotEq
  | lt : IsCm .lt .Lt
  | gt : IsCm .gt .Gt
  | ge : IsCm .ge .GtE
  | isIn : IsCm .isIn .In
  | notIn : IsCm .notIn .NotIn
  | isNone : IsCm .isNone .Is
  | notNone : IsCm .notNone .IsNot


mutual
inductive IsE : Names → PE → Expr → Prop
  | cstr {N x k p} : IsE N (.c (.str x)) (.Constant (.str x) k p)
  | cint {N i k p} : IsE N (.c (.int i)) (.Constant (.int i) k p)
  | cnone {N k p} : IsE N (.c .none) (.Constant .none k p)
  | cbool {N b k p} : IsE N (.c (.bool b)) (.Constant (.bool b) k p)
  | v {N i x p} : nm i = x → own N x → IsE N (.v i) (.Name x p)
  | g {N i x p} : gnm i = x → glob N x → IsE N (.g i) (.Name x p)
  | tup {N es xs k p} : IsEs N es xs → IsE N (.tup es) (.Tuple xs k p)
  | lst {N es xs p} : IsEs N es xs → IsE N (.lst es) (.List xs p)
  | bin {N o op a b l r p} : IsOp o op → IsE N a l → IsE N b r → IsE N (.bin o a b) (.BinOp l op r p)
  | neg {N a x p} : IsE N a x → IsE N (.neg a) (.UnaryOp .USub x p)
  | cmp {N o op a b l r p} : IsCm o op → IsE N a l → IsE N b r → IsE N (.cmp o a b) (.Compare l [op] [r] p)
  | ite {N t a b t' a' b' p} : IsE N t t' → IsE N a a' → IsE N b b' → IsE N (.ite t a b) (.IfExp t' a' b' p)
  | not {N a x p} : IsE N a x → IsE N (.not a) (.UnaryOp .Not x p)
  | and {N a b x y p} : IsE N a x → IsE N b y → IsE N (.and a b) (.BoolOp .And [x, y] p)
  | or {N a b x y p} : IsE N a x → IsE N b y → IsE N (.or a b) (.BoolOp .Or [x, y] p)
  | or3 {N a b d x y z p} : IsE N a x → IsE N b y → IsE N d z → IsE N (.or3 a b d) (.BoolOp .Or [x, y, z] p)
  | idx {N a b o i p} : IsE N a o → IsE N b i → IsE N (.idx a b) (.Subscript o i p)
  | rev {N a o k p1 p2 p3 p} : IsE N a o → IsE N (.rev a) (.Subscript o (.Slice none none (some (.UnaryOp .USub (.Constant (.int 1) k p1) p2)) p3) p)
  | pre {N a j o i p3 p} : IsE N a o → IsE N j i → IsE N (.pre a j) (.Subscript o (.Slice none (some i) none p3) p)
  | suf {N a j o i p3 p} : IsE N a o → IsE N j i → IsE N (.suf a j) (.Subscript o (.Slice (some i) none none p3) p)
  | call {N f es x xs p1 p} : fnm f = x → f < 14 → glob N x → IsEs N es xs → xs ≠ [] → IsE N (.call f es) (.Call (.Name x p1) xs [] p)
  | len {N a x p1 p} : glob N "len" → IsE N a x → IsE N (.len a) (.Call (.Name "len" p1) [x] [] p)
  | list {N a x p1 p} : glob N "list" → IsE N a x → IsE N (.list a) (.Call (.Name "list" p1) [x] [] p)
  | tuple {N a x p1 p} : glob N "tuple" → IsE N a x → IsE N (.tuple a) (.Call (.Name "tuple" p1) [x] [] p)
  | repr {N a x p1 p} : glob N "repr" → IsE N a x → IsE N (.repr a) (.Call (.Name "repr" p1) [x] [] p)
  | int {N a x p1 p} : glob N "int" → IsE N a x → IsE N (.int a) (.Call (.Name "int" p1) [x] [] p)
  | sortk {N a f x y p1 p2 p3 p} : glob N "sorted" → fnm f = y → f < 14 → glob N y → IsE N a x → IsE N (.sortk a f) (.Call (.Name "sorted" p1) [x] [⟨some "key", .Name y p2, p3⟩] p)
  | pop {N i x p1 ap p} : (ap.endLine == p.line) = true → IsE N (.v i) (.Name x p1) → IsE N (.pop (.v i)) (.Call (.Attribute (.Name x p1) "pop" ap) [] [] p)
  | extend {N i e x y p1 ap p} : (ap.endLine == p.line) = true → IsE N (.v i) (.Name x p1) → IsE N e y → IsE N (.extend (.v i) e) (.Call (.Attribute (.Name x p1) "extend" ap) [y] [] p)
  | append {N i e x y p1 ap p} : (ap.endLine == p.line) = true → IsE N (.v i) (.Name x p1) → IsE N e y → IsE N (.append (.v i) e) (.Call (.Attribute (.Name x p1) "append" ap) [y] [] p)
  | split {N i x sep p1 ap k q p} : (ap.endLine == p.line) = true → IsE N (.v i) (.Name x p1) → IsE N (.split (.v i) sep) (.Call (.Attribute (.Name x p1) "split" ap) [.Constant (.str sep) k q] [] p)
  | join {N sep k q ap e y p} : (ap.endLine == p.line) = true → IsE N e y → IsE N (.join sep e) (.Call (.Attribute (.Constant (.str sep) k q) "join" ap) [y] [] p)
  | comp {N x x' src src' elt elt' p1 p} {scope : Scope} : scope.kind = .function → nm x = x' → x < 26 → scope.names.lookup x' = some .local → (∀ y ∈ scope.names, y.2 ≠ .cell) →
      (∀ y ∈ scope.names, y.2 = .local → scope.names.lookup y.1 = some .local) → (∀ y ∈ scope.names, y.2 = .free → N.lookup y.1 = some .cell) → (∀ y ∈ scope.names, y.2 = .local → (y.1 == x' || !((("?" : Str) :: nmL).contains y.1)) = true) →
      IsE N src src' → IsE (relabN N scope.names) elt elt' →
      IsE N (.comp x src none elt) (.ListComp elt' [⟨.Name x' p1, src', [], 0⟩] scope p)
  | compT {N x x' src src' t t' elt elt' p1 p} {scope : Scope} : scope.kind = .function → nm x = x' → x < 26 → scope.names.lookup x' = some .local → (∀ y ∈ scope.names, y.2 ≠ .cell) →
      (∀ y ∈ scope.names, y.2 = .local → scope.names.lookup y.1 = some .local) → (∀ y ∈ scope.names, y.2 = .free → N.lookup y.1 = some .cell) → (∀ y ∈ scope.names, y.2 = .local → (y.1 == x' || !((("?" : Str) :: nmL).contains y.1)) = true) →
      IsE N src src' → IsE (relabN N scope.names) t t' → IsE (relabN N scope.names) elt elt' →
      IsE N (.comp x src (some t) elt) (.ListComp elt' [⟨.Name x' p1, src', [t'], 0⟩] scope p)
  | compR {N x x' cnt cnt' elt elt' p1 p2 p3 p} {scope : Scope} : scope.kind = .function → nm x = x' → x < 26 → scope.names.lookup x' = some .local → (∀ y ∈ scope.names, y.2 ≠ .cell) →
      (∀ y ∈ scope.names, y.2 = .local → scope.names.lookup y.1 = some .local) → (∀ y ∈ scope.names, y.2 = .free → N.lookup y.1 = some .cell) → (∀ y ∈ scope.names, y.2 = .local → (y.1 == x' || !((("?" : Str) :: nmL).contains y.1)) = true) →
      glob N "range" → IsE N cnt cnt' → IsE (relabN N scope.names) elt elt' →
      IsE N (.compR x cnt elt) (.ListComp elt' [⟨.Name x' p1, .Call (.Name "range" p2) [cnt'] [] p3, [], 0⟩] scope p)
  | no {N e} : IsE N .no e
inductive IsEs : Names → List PE → List Expr → Prop
  | nil {N} : IsEs N [] []
  | cons {N e es x xs} : IsE N e x → IsEs N es xs → IsEs N (e :: es) (x :: xs)
end

noncomputable def isLC : Expr → Bool
  | .ListComp .. => true
  | _ => false

mutual
inductive IsS : Names → PS → Stmt → Prop
  | asg {N x x' e v p' p} : nm x = x' → x < 26 → own N x' → IsE N e v → (∀ env, swapsWith v (some (.Name x' p')) p.line env = pure false) → IsS N (.asg x e) (.Assign [.Name x' p'] v p)
  | asgC {N x x' e v p' p} : nm x = x' → x < 26 → N.lookup x' = some .local → IsE N e v → isLC v = true → (∀ env, env.scope.names = N → env.scope.kind = .function → swapsWith v (some (.Name x' p')) p.line env = pure true) → IsS N (.asgC x e) (.Assign [.Name x' p'] v p)
  | asg2s {N x y x' y' a b u v p1 p2 k1 p3 k2 p4 p} : nm x = x' → nm y = y' → x < 26 → y < 26 → N.lookup x' = some .local → N.lookup y' = some .local → x ≠ y → IsE N a u → IsE N b v →
      (∀ env, env.scope.names = N → env.scope.kind = .function → swappedStores [.Tuple [.Name x' p1, .Name y' p2] k1 p3] (.Tuple [u, v] k2 p4) env = pure (some [x', y'])) →
      IsS N (.asg2 x y a b) (.Assign [.Tuple [.Name x' p1, .Name y' p2] k1 p3] (.Tuple [u, v] k2 p4) p)
  | asg2n {N x y x' y' a b u v p1 p2 k1 p3 k2 p4 p} : nm x = x' → nm y = y' → x < 26 → y < 26 → own N x' → own N y' → x ≠ y → IsE N a u → IsE N b v →
      (∀ env, env.scope.names = N → env.scope.kind = .function → swappedStores [.Tuple [.Name x' p1, .Name y' p2] k1 p3] (.Tuple [u, v] k2 p4) env = pure none) →
      IsS N (.asg2 x y a b) (.Assign [.Tuple [.Name x' p1, .Name y' p2] k1 p3] (.Tuple [u, v] k2 p4) p)
  | put {N a i e o j v p' p} : IsE N a o → IsE N i j → IsE N e v → (∀ env, swapsWith v (some (.Subscript o j p')) p.line env = pure false) → IsS N (.put a i e) (.Assign [.Subscript o j p'] v p)
  | ifs {N t a b t' a' b' p} : IsE N t t' → IsSs N a a' → IsSs N b b' → IsS N (.ifs t a b) (.If t' a' b' p)
  | whil {N t b t' b' p} : IsE N t t' → IsSs N b b' → IsS N (.whil t b) (.While t' b' [] p)
  | forL {N x x' e e' b b' p1 p} : nm x = x' → x < 26 → own N x' → IsE N e e' → IsSs N b b' → IsS N (.forL x e b) (.For (.Name x' p1) e' b' [] p)
  | forR {N x x' e e' b b' p1 p2 p3 p} : nm x = x' → x < 26 → own N x' → glob N "range" → IsE N e e' → IsSs N b b' → IsS N (.forR x e b) (.For (.Name x' p1) (.Call (.Name "range" p2) [e'] [] p3) b' [] p)
  | ret {N e e' p} : IsE N e e' → IsS N (.ret e) (.Return (some e') p)
  | ex {N e e' p} : IsE N e e' → (∀ env, swapsWith e' none p.line env = pure false) → IsS N (.ex e) (.Expr e' p)
  | no {N s} : IsS N .no s
inductive IsSs : Names → List PS → List Stmt → Prop
  | nil {N} : IsSs N [] []
  | cons {N s ss x xs} : IsS N s x → IsSs N ss xs → IsSs N (s :: ss) (x :: xs)
end

/-- a def of the text -/
structure FD where
  params : Arguments
  body : List Stmt
  scope : Scope

noncomputable def fdOf : Stmt → FD
  | .FunctionDef _ a b _ _ _ sc _ _ _ => ⟨a, b, sc⟩
  | _ => ⟨default, [], default⟩
noncomputable def stmtAt (i : Nat) : Stmt := PySem.Challenge.pw_xm0684_01.main.body.getD i (.Pass ⟨0, 0, 0, 0⟩)
noncomputable def fd : Nat → FD
  | 0 => fdOf (stmtAt 3) | 1 => fdOf (stmtAt 4) | 2 => fdOf (stmtAt 5) | 3 => fdOf (stmtAt 6)
  | 4 => fdOf (stmtAt 9) | 5 => fdOf (stmtAt 10) | 6 => fdOf (stmtAt 11)
  | 7 => fdOf (stmtAt 13) | 8 => fdOf (stmtAt 14) | 9 => fdOf (stmtAt 15) | 10 => fdOf (stmtAt 16)
  | 11 => fdOf (stmtAt 17) | 12 => fdOf (stmtAt 18) | _ => fdOf (stmtAt 19)

end Mine
end

/-! # M5 -/
section
open PySem PySem.W PyProof.Rows
set_option maxRecDepth 100000
namespace Mine

set_option maxHeartbeats 8000000 in
theorem isAll : IsSs (fd 0).scope.names F0.body (fd 0).body ∧ IsSs (fd 1).scope.names F1.body (fd 1).body ∧ IsSs (fd 2).scope.names F2.body (fd 2).body ∧ IsSs (fd 3).scope.names F3.body (fd 3).body ∧ IsSs (fd 4).scope.names F4.body (fd 4).body ∧ IsSs (fd 5).scope.names F5.body (fd 5).body ∧ IsSs (fd 6).scope.names F6.body (fd 6).body ∧ IsSs (fd 7).scope.names F7.body (fd 7).body ∧ IsSs (fd 8).scope.names F8.body (fd 8).body ∧ IsSs (fd 9).scope.names F9.body (fd 9).body ∧ IsSs (fd 10).scope.names F10.body (fd 10).body ∧ IsSs (fd 11).scope.names F11.body (fd 11).body ∧ IsSs (fd 12).scope.names F12.body (fd 12).body ∧ IsSs (fd 13).scope.names F13.body (fd 13).body := by
  refine ⟨?_, ?_, ?_, ?_, ?_, ?_, ?_, ?_, ?_, ?_, ?_, ?_, ?_, ?_⟩
  all_goals repeat' (first
    | exact IsE.cstr | exact IsE.cint | exact IsE.cnone | exact IsE.cbool | exact IsEs.nil | exact IsSs.nil
    | refine IsEs.cons ?_ ?_ | refine IsSs.cons ?_ ?_
    | refine IsE.v rfl ?_ | refine IsE.g rfl ?_ | refine IsE.tup ?_ | refine IsE.lst ?_
    | refine IsE.bin (by constructor) ?_ ?_ | refine IsE.neg ?_ | refine IsE.cmp (by constructor) ?_ ?_
    | refine IsE.ite ?_ ?_ ?_ | refine IsE.not ?_ | refine IsE.and ?_ ?_ | refine IsE.or3 ?_ ?_ ?_
    | refine IsE.idx ?_ ?_ | refine IsE.rev ?_ | refine IsE.pre ?_ ?_ | refine IsE.suf ?_ ?_
    | refine IsE.len ?_ ?_ | refine IsE.list ?_ ?_ | refine IsE.tuple ?_ ?_ | refine IsE.repr ?_ ?_ | refine IsE.int ?_ ?_
    | refine IsE.sortk ?_ rfl (by decide) ?_ ?_
    | refine IsE.pop rfl ?_ | refine IsE.extend rfl ?_ ?_ | refine IsE.append rfl ?_ ?_ | refine IsE.split rfl ?_ | refine IsE.join rfl ?_
    | refine IsE.comp rfl rfl (by decide) ?_ (by decide +kernel) (by decide +kernel) (by decide +kernel) (by decide +kernel) ?_ ?_
    | refine IsE.compT rfl rfl (by decide) ?_ (by decide +kernel) (by decide +kernel) (by decide +kernel) (by decide +kernel) ?_ ?_ ?_
    | refine IsE.compR rfl rfl (by decide) ?_ (by decide +kernel) (by decide +kernel) (by decide +kernel) (by decide +kernel) ?_ ?_ ?_
    | refine IsE.call rfl (by decide) ?_ ?_ (List.cons_ne_nil _ _)
    | exact IsE.no | exact IsS.no
    | refine IsS.asg rfl (by decide) ?_ ?_ (fun env => rfl)
    | refine IsS.asgC rfl (by decide) ?_ ?_ rfl (by intro env hN hk; cases env; rename Scope => sc; cases sc; dsimp only at hN hk; subst hN hk; with_unfolding_all rfl)
    | refine IsS.asg2s rfl rfl (by decide) (by decide) ?_ ?_ (by decide) ?_ ?_ (by (intro env hN hk; cases env; rename Scope => sc; cases sc; dsimp only at hN hk; subst hN hk; with_unfolding_all rfl))
    | refine IsS.asg2n rfl rfl (by decide) (by decide) ?_ ?_ (by decide) ?_ ?_ (by (intro env hN hk; cases env; rename Scope => sc; cases sc; dsimp only at hN hk; subst hN hk; with_unfolding_all rfl))
    | refine IsS.put ?_ ?_ ?_ (fun env => rfl)
    | refine IsS.ifs ?_ ?_ ?_ | refine IsS.whil ?_ ?_
    | refine IsS.forR rfl (by decide) ?_ ?_ ?_ ?_ | refine IsS.forL rfl (by decide) ?_ ?_ ?_
    | refine IsS.ret ?_ | refine IsS.ex ?_ (fun env => rfl)
    | (show List.lookup _ _ = _; decide +kernel)
    | (refine Or.inl ?_; show List.lookup _ _ = _; decide +kernel)
    | (refine Or.inr ?_; show List.lookup _ _ = _; decide +kernel)
    | decide +kernel)
theorem is0 : IsSs (fd 0).scope.names F0.body (fd 0).body := isAll.1
theorem is1 : IsSs (fd 1).scope.names F1.body (fd 1).body := isAll.2.1
theorem is2 : IsSs (fd 2).scope.names F2.body (fd 2).body := isAll.2.2.1
theorem is3 : IsSs (fd 3).scope.names F3.body (fd 3).body := isAll.2.2.2.1
theorem is4 : IsSs (fd 4).scope.names F4.body (fd 4).body := isAll.2.2.2.2.1
theorem is5 : IsSs (fd 5).scope.names F5.body (fd 5).body := isAll.2.2.2.2.2.1
theorem is6 : IsSs (fd 6).scope.names F6.body (fd 6).body := isAll.2.2.2.2.2.2.1
theorem is7 : IsSs (fd 7).scope.names F7.body (fd 7).body := isAll.2.2.2.2.2.2.2.1
theorem is8 : IsSs (fd 8).scope.names F8.body (fd 8).body := isAll.2.2.2.2.2.2.2.2.1
theorem is9 : IsSs (fd 9).scope.names F9.body (fd 9).body := isAll.2.2.2.2.2.2.2.2.2.1
theorem is10 : IsSs (fd 10).scope.names F10.body (fd 10).body := isAll.2.2.2.2.2.2.2.2.2.2.1
theorem is11 : IsSs (fd 11).scope.names F11.body (fd 11).body := isAll.2.2.2.2.2.2.2.2.2.2.2.1
theorem is12 : IsSs (fd 12).scope.names F12.body (fd 12).body := isAll.2.2.2.2.2.2.2.2.2.2.2.2.1
theorem is13 : IsSs (fd 13).scope.names F13.body (fd 13).body := isAll.2.2.2.2.2.2.2.2.2.2.2.2.2
end Mine
end

/-! # M6 -/
section
open PySem PySem.W PyProof.Rows
namespace Mine

/-- the facts of the text's top, in the heap that stands before the call -/
structure TopF (mg mb : Str → Option Value) (hB : Heap) : Prop where
  g : hB.Ns mainGlobals mg
  b : hB.Ns builtinsNs mb
  fn : ∀ i, i < 14 → ∃ a o pm cd doc, mg (fnm i) = some (.ref a) ∧ hB.get? a = some o ∧ o.data = .func (Calls.docDef (fnm i) (fd i).params (fd i).body (fd i).scope pm cd doc) ∧ hB.CodeRec cd (fnm i)
  gl : ∀ i d, globD i = some d → ∃ u, mg (gnm i) = some u ∧ RI hB u d
  bi : ∀ p ∈ [(("len" : Str), Value.builtin "len"), ("repr", .builtin "repr"), ("sorted", .builtin "sorted"), ("list", .type "list"), ("tuple", .type "tuple"), ("int", .type "int"), ("range", .type "range")], mg p.1 = none ∧ mb p.1 = some p.2
  lim : hB.NoLimit

noncomputable def Post {α : Type} (hB : Heap) (ρ : List Addr) (L : Addr) (s : Shared) (st' : Store) (R : List Addr → Heap → α → Prop) (Q : α → Shared → Prop) : Prop :=
  ∀ a h' tk ρ', HOk hB (ρ ++ ρ') st' h' → Ext ρ ρ' L s.heap h' → R (ρ ++ ρ') h' a → Q a { s with heap := h', toks := tk }

section
variable {α : Type} {hB h₁ : Heap} {ρ ρ₁ : List Addr} {L : Addr} {s : Shared} {st st' : Store} {R : List Addr → Heap → α → Prop} {Q : α → Shared → Prop}
theorem HOk.nil (H : HOk hB ρ st h₁) : HOk hB (ρ ++ []) st h₁ := by rw [List.append_nil]; exact H
theorem Post.after (P : Post hB ρ L s st' R Q) {tk : Nat} (X : Ext ρ ρ₁ L s.heap h₁) : Post hB (ρ ++ ρ₁) L { s with heap := h₁, toks := tk } st' R Q := fun a h' tk' ρ' H X' r => by
  rw [List.append_assoc] at H r
  exact P a h' tk' (ρ₁ ++ ρ') H (X.trans X') r
theorem Post.same (P : Post hB ρ L s st R Q) (H : HOk hB ρ st s.heap) {a : α} (r : R ρ s.heap a) (tk : Nat) : Q a { s with toks := tk } := by
  exact P a s.heap tk [] H.nil Ext.refl (by rw [List.append_nil]; exact r)
theorem Post.same' (P : Post hB ρ L s st R Q) (H : HOk hB ρ st s.heap) {a : α} (r : R ρ s.heap a) : Q a s := P.same H r s.toks

theorem TupKeep.push (h : Heap) (o : Obj) : TupKeep h (h.push o) := fun _ _ e _ => Heap.get?_push_of_some _ e
theorem Ext.push (h : Heap) (o : Obj) : Ext ρ [] L h (h.push o) :=
  ⟨fun _ _ e _ _ => Heap.get?_push_of_some _ e, fun _ n => n.at' fun _ e => Heap.get?_push_of_some _ e, TupKeep.push h o, fun _ o' e => ⟨o', Heap.get?_push_of_some _ e⟩, fun _ ha => nomatch ha⟩
theorem size_none (h : Heap) : h.get? h.objs.size = none := by
  cases q : h.get? h.objs.size with
  | none => rfl
  | some o => exact absurd (Heap.lt_size q) (Nat.lt_irrefl _)
theorem Ext.pushL (h : Heap) (o : Obj) : Ext ρ [h.objs.size] L h (h.push o) :=
  { Ext.push (ρ := ρ) (L := L) h o with fresh := fun a ha => by rw [List.mem_singleton.mp ha]; exact size_none h }
theorem HOk.push (H : HOk hB ρ st h₁) (o : Obj) : HOk hB ρ st (h₁.push o) :=
  ⟨fun a o' e => Heap.get?_push_of_some _ (H.base a o' e), H.len, fun i a xs e1 e2 => by
    obtain ⟨vs, p, r⟩ := H.lists i a xs e1 e2
    exact ⟨vs, p.at fun _ e => Heap.get?_push_of_some _ e, r.keep (TupKeep.push _ _)⟩, H.nodup, H.fresh⟩
theorem HOk.live (H : HOk hB ρ st h₁) {a : Addr} (ha : a ∈ ρ) : ∃ o, h₁.get? a = some o := by
  obtain ⟨_, _, _, _, _, ⟨_, p⟩, _⟩ := H.at ha
  exact ⟨_, p⟩
theorem HOk.size_off (H : HOk hB ρ st h₁) : h₁.objs.size ∉ ρ := fun ha => by
  obtain ⟨o, e⟩ := H.live ha
  rw [size_none] at e; cases e
theorem HOk.base_none (H : HOk hB ρ st h₁) {a : Addr} (e : h₁.get? a = none) : hB.get? a = none := by
  cases q : hB.get? a with
  | none => rfl
  | some o => rw [H.base a o q] at e; cases e
/-- a new list joins the store -/
theorem HOk.add (H : HOk hB ρ st h₁) {h₂ : Heap} {D : Addr} {vs : Array Value} {xs : List PyData} (hk : ∀ a o, h₁.get? a = some o → h₂.get? a = some o) (hD : h₁.get? D = none) (p : h₂.PlainList D vs) (r : RIs h₂ vs.toList xs) :
    HOk hB (ρ ++ [D]) (st ++ [xs]) h₂ := by
  refine ⟨fun a o e => hk a o (H.base a o e), by simp [H.len], fun i a ys e1 e2 => ?_, ?_, fun a ha => ?_⟩
  · by_cases hi : i < ρ.length
    · rw [List.getElem?_append_left hi] at e1
      rw [List.getElem?_append_left (H.len ▸ hi)] at e2
      obtain ⟨ws, q, t⟩ := H.lists i a ys e1 e2
      exact ⟨ws, q.at fun o e => hk a o e, t.keep fun b o e _ => hk b o e⟩
    · have hi' : ρ.length ≤ i := Nat.not_lt.mp hi
      rw [List.getElem?_append_right hi'] at e1
      rw [List.getElem?_append_right (H.len ▸ hi')] at e2
      have h0 : i - ρ.length = 0 := by
        cases q : i - ρ.length with
        | zero => rfl
        | succ k => rw [q] at e1; simp at e1
      rw [h0] at e1
      rw [← H.len, h0] at e2
      simp at e1 e2
      subst e1 e2
      exact ⟨vs, p, r⟩
  · rw [List.nodup_append]
    exact ⟨H.nodup, by simp, fun a ha b hb q => by
      rw [List.mem_singleton.mp hb] at q
      obtain ⟨o, e⟩ := H.live ha
      rw [q, hD] at e; cases e⟩
  · rcases List.mem_append.mp ha with hm | hm
    · exact H.fresh a hm
    · rw [List.mem_singleton.mp hm]; exact H.base_none hD
theorem HOk.pushL (H : HOk hB ρ st h₁) {vs : Array Value} {xs : List PyData} {n : Nat} (r : RIs h₁ vs.toList xs) :
    HOk hB (ρ ++ [h₁.objs.size]) (st ++ [xs]) (h₁.push { cls := .type "list", data := .seq vs n }) :=
  H.add (fun _ _ e => Heap.get?_push_of_some _ e) (size_none _) ⟨n, Heap.get?_push_size _ rfl⟩ (r.keep (TupKeep.push _ _))
theorem idx_inj (hn : ρ.Nodup) {i j : Nat} {a : Addr} (e1 : ρ[i]? = some a) (e2 : ρ[j]? = some a) : i = j := by
  obtain ⟨h1, q1⟩ := List.getElem?_eq_some_iff.mp e1
  obtain ⟨h2, q2⟩ := List.getElem?_eq_some_iff.mp e2
  exact (List.getElem_inj hn).mp (q1.trans q2.symm)
/-- a list of the store changes -/
theorem HOk.set (H : HOk hB ρ st h₁) {h₂ : Heap} {i : Nat} {a : Addr} {vs : Array Value} {xs : List PyData} (e : ρ[i]? = some a) (hs : Heap.SameBut a h₁ h₂) (p : h₂.PlainList a vs) (r : RIs h₁ vs.toList xs) :
    HOk hB ρ (st.set i xs) h₂ ∧ Ext ρ [] L h₁ h₂ ∨ L = a := by
  by_cases hL : L = a
  · exact .inr hL
  left
  have hm : a ∈ ρ := List.mem_of_getElem? e
  have tk : TupKeep h₁ h₂ := fun b o q c => by
    refine (hs.2 b fun z => ?_).trans q
    subst z
    exact H.tup_off q c.1 hm
  refine ⟨⟨fun b o q => ?_, by simp [H.len], fun j b ys e1 e2 => ?_, H.nodup, H.fresh⟩, ⟨fun b o q hb _ => ?_, fun m n => ?_, tk, fun b o q => ?_, fun _ h => nomatch h⟩⟩
  · refine (hs.2 b fun z => ?_).trans (H.base b o q)
    subst z
    rw [H.fresh b hm] at q; cases q
  · by_cases hj : j = i
    · subst hj
      rw [e] at e1; cases e1
      have hlt : j < st.length := by rw [← H.len]; exact (List.getElem?_eq_some_iff.mp e).1
      rw [List.getElem?_set_self hlt] at e2
      cases e2
      exact ⟨vs, p, r.keep tk⟩
    · rw [List.getElem?_set_ne (Ne.symm hj)] at e2
      obtain ⟨ws, q, t⟩ := H.lists j b ys e1 e2
      exact ⟨ws, q.at fun o z => (hs.2 b fun zz => hj (idx_inj H.nodup (zz ▸ e1) e)).trans z, t.keep tk⟩
  · exact (hs.2 b fun z => hb (z ▸ hm)).trans q
  · exact n.at' fun o q => (hs.2 L hL).trans q
  · by_cases hb : b = a
    · subst hb; obtain ⟨n, q⟩ := p; exact ⟨_, q⟩
    · exact ⟨o, (hs.2 b hb).trans q⟩
end

/-- a tree, from a heap that bears the store st, yields R and leaves st' -/
noncomputable def Sw {α : Type} (prog : Program) (w : World) (hB : Heap) (A : Around) (env : Env) (vs : Vars) (st : Store) (t : Sem α) (R : List Addr → Heap → α → Prop) (st' : Store) : Prop :=
  ∀ (s : Shared) (ρ : List Addr) (Q : α → Shared → Prop) (E : Value → Shared → Prop), HOk hB ρ st s.heap → VOk hB env ρ s.heap vs → Post hB ρ env.locals s st' R Q → wpAny (model prog w) A t Q E s

noncomputable def RVs (hB : Heap) (ρ : List Addr) (h : Heap) : List Value → List V → Prop
  | [], [] => True
  | u :: us, v :: vs => RV hB ρ h u v ∧ RVs hB ρ h us vs
  | _, _ => False

theorem RVs.mono {hB h h₁ : Heap} {ρ ρ₁ : List Addr} (k : TupKeep h h₁) : ∀ {us : List Value} {vs : List V}, RVs hB ρ h us vs → RVs hB (ρ ++ ρ₁) h₁ us vs
  | [], [], _ => trivial
  | _ :: _, _ :: _, ⟨a, b⟩ => ⟨a.mono k, RVs.mono k b⟩
theorem RVs.dats {hB h : Heap} {ρ : List Addr} : ∀ {us : List Value} {vs : List V} {ds : List PyData}, RVs hB ρ h us vs → datsOf vs = some ds → RIs h us ds
  | [], [], _, _, e => by cases e; exact .nil
  | u :: us, v :: vs, ds, ⟨a, b⟩, e => by
    cases a with
    | d r =>
      unfold datsOf at e
      cases q : datsOf vs with
      | none => rw [q] at e; cases e
      | some es => rw [q] at e; cases e; exact .cons r (RVs.dats b q)
    | l _ => cases e
    | fz _ _ => cases e
  | [], _ :: _, _, h, _ => h.elim
  | _ :: _, [], _, h, _ => h.elim

/-- what is asked of an environment: its kind, its namespaces, a cell for each cell's name -/
structure EnvOk (env : Env) : Prop where
  kind : env.scope.kind = .function
  glob : env.globals = mainGlobals
  blt : env.builtins = builtinsNs
  cells : ∀ x, env.kindOf x = some .cell → ∃ c, env.cells.lookup x = some c

structure Snd (prog : Program) (w : World) (hB : Heap) (mg : Str → Option Value) (n : Nat) : Prop where
  e : ∀ {A env vs st p e v st'}, Room A n → EnvOk env → IsE env.scope.names p e → evE fns n vs st p = some (v, st') → Sw prog w hB A env vs st (eval e env) (fun ρ h u => RV hB ρ h u v) st'
  es : ∀ {A env vs st ps xs us st'} (pos : Pos), Room A n → EnvOk env → IsEs env.scope.names ps xs → evEs fns n vs st ps = some (us, st') → Sw prog w hB A env vs st (spliced (backTo pos (starEach xs env))) (fun ρ h u => RVs hB ρ h u us) st'
  t : ∀ {A env vs st p e b st'}, Room A n → EnvOk env → IsE env.scope.names p e → evT fns n vs st p = some (b, st') → Sw prog w hB A env vs st (isTrue e env (eval e env)) (fun _ _ c => c = b) st'
  f : ∀ {A i us st v st' a}, Room A n → i < 14 → mg (fnm i) = some (.ref a) → evF fns n i us st = some (v, st') → ∀ (s : Shared) (ρ : List Addr) (args : List Value) (Q : Value → Shared → Prop) (E : Value → Shared → Prop), HOk hB ρ st s.heap → RVs hB ρ s.heap args us →
    (∀ u h' tk ρ', HOk hB (ρ ++ ρ') st' h' → ExtX ρ ρ' s.heap h' → RV hB (ρ ++ ρ') h' u v → Q u { s with heap := h', toks := tk }) → wpAny (model prog w) A (call (.ref a) args) Q E s

section
variable {prog : Program} {w : World} {hB : Heap} {mg mb : Str → Option Value} {A : Around} {env : Env} {vs : Vars} {st st' : Store} {n : Nat} {v : V} {e : Expr}

theorem noStar {N : Names} {p : PE} (i : IsE N p e) (env : Env) (rest : List Expr) : starEach (e :: rest) env = (false, eval e env) :: starEach rest env ∨ p = .no := by
  cases i <;> first | exact .inl rfl | exact .inr rfl

theorem sw_global {x : Str} {u : Value} {pos : Pos} (K : EnvOk env) (hg : hB.Ns mainGlobals mg) (hm : mg x = some u) (hx : env.kindOf x = some .globalImplicit) (hd : (x == ("__debug__" : Str)) = false)
    {s : Shared} {Q : Value → Shared → Prop} {E : Value → Shared → Prop} (base : ∀ a o, hB.get? a = some o → s.heap.get? a = some o) (h : Q u s) : wpAny (model prog w) A (eval (.Name x pos) env) Q E s :=
  Calls.Name_function_global K.kind hx (Calls.loadGlobal_global (K.glob ▸ hg.keeps base) hm h) hd
theorem sw_builtin {x : Str} {u : Value} {pos : Pos} (K : EnvOk env) (hg : hB.Ns mainGlobals mg) (hm : mg x = none) (hb : hB.Ns builtinsNs mb) (hv : mb x = some u) (hx : env.kindOf x = some .globalImplicit) (hd : (x == ("__debug__" : Str)) = false)
    {s : Shared} {Q : Value → Shared → Prop} {E : Value → Shared → Prop} (base : ∀ a o, hB.get? a = some o → s.heap.get? a = some o) (h : Q u s) : wpAny (model prog w) A (eval (.Name x pos) env) Q E s :=
  Calls.Name_function_global K.kind hx (Calls.loadGlobal_builtin (K.glob ▸ hg.keeps base) hm (K.blt ▸ hb.keeps base) hv h) hd
theorem nm_debug (i : Nat) : (nm i == ("__debug__" : Str)) = false := by
  unfold nm
  by_cases h : i < 26
  · have : ∀ j : Fin 26, (nmL.getD j.1 "?" == ("__debug__" : Str)) = false := by decide +kernel
    exact this ⟨i, h⟩
  · rw [List.getD_eq_getElem?_getD, List.getElem?_eq_none (by show 26 ≤ i; omega)]
    decide +kernel
theorem fnm_debug (i : Nat) : (fnm i == ("__debug__" : Str)) = false := by
  unfold fnm
  by_cases h : i < 14
  · have : ∀ j : Fin 14, (fnL.getD j.1 "?" == ("__debug__" : Str)) = false := by decide +kernel
    exact this ⟨i, h⟩
  · rw [List.getD_eq_getElem?_getD, List.getElem?_eq_none (by show 14 ≤ i; omega)]
    decide +kernel
theorem gnm_debug (i : Nat) : (gnm i == ("__debug__" : Str)) = false := by
  match i with
  | 0 => decide +kernel
  | _ + 1 => exact (by decide +kernel : (("BOTTOM" : Str) == ("__debug__" : Str)) = false)

theorem load_name {x : Nat} {pos : Pos} (K : EnvOk env) (V : VOk hB env ρ s.heap vs) (e : vs x = some v) (o : own env.scope.names (nm x)) {Q : Value → Shared → Prop} {E : Value → Shared → Prop} (h : ∀ u, RV hB ρ s.heap u v → Q u s) :
    wpAny (model prog w) A (eval (.Name (nm x) pos) env) Q E s := by
  obtain ⟨u, l, r⟩ := V.vars x v e o
  rcases l with ⟨hk, m, hn, hm⟩ | ⟨hk, c, hc, hi⟩
  · exact wpAny_Name (wpAny_loadName_local K.kind hk hn hm (h u r)) (nm_debug x)
  · exact wpAny_Name (wpAny_loadName_cell K.kind hk hc hi (h u r)) (nm_debug x)

/-! ### the nodes -/
theorem n_const {d : PyData} (i : IsE env.scope.names (.c d) e) : Sw prog w hB A env vs st (eval e env) (fun ρ h u => RV hB ρ h u (.d d)) st := by
  intro s ρ Q E H V P
  cases i with
  | cstr => exact Calls.Constant_str (P.same H (.d (.str _ _)) _)
  | cint => exact wpAny_Constant_int (P.same H (.d (.int _ _)) _)
  | cnone => exact Constant_none (P.same' H (.d .none))
  | cbool => exact Constant_bool (P.same' H (.d (.bool _)))
theorem n_var {x : Nat} (K : EnvOk env) (i : IsE env.scope.names (.v x) e) (h : vs x = some v) : Sw prog w hB A env vs st (eval e env) (fun ρ h u => RV hB ρ h u v) st := by
  intro s ρ Q E H V P
  cases i with
  | v hx ho =>
    subst hx
    exact load_name K V h ho fun u r => P.same' H r
theorem n_glob {x : Nat} {d : PyData} (T : TopF mg mb hB) (K : EnvOk env) (i : IsE env.scope.names (.g x) e) (h : globD x = some d) : Sw prog w hB A env vs st (eval e env) (fun ρ h u => RV hB ρ h u (.d d)) st := by
  intro s ρ Q E H V P
  cases i with
  | g hx hg =>
    subst hx
    obtain ⟨u, hm, r⟩ := T.gl x d h
    exact sw_global K T.g hm hg (gnm_debug x) H.base (P.same' H (.d (r.keep fun a o e _ => H.base a o e)))
end
end Mine
end

/-! # M7 -/
section
open PySem PySem.W PyProof.Rows
namespace Mine

section
variable {prog : Program} {w : World} {hB : Heap} {mg mb : Str → Option Value} {A : Around} {env : Env} {vs : Vars} {st st' st1 st2 : Store} {n : Nat} {v : V} {e : Expr}

theorem len_line {α : Type} {l : List α} (h : l.length ≤ 1000000) : l.length ≤ sizeLine := by rw [sizeLine_eq]; omega

theorem n_tup {es : List PE} {xs : List Expr} {us : List V} {ds : List PyData} {k : Nat} {pos : Pos} (S : Snd prog w hB mg n) (R : Room A n) (K : EnvOk env) (i : IsEs env.scope.names es xs) (h : evEs fns n vs st es = some (us, st1)) (hd : datsOf us = some ds) (hl : ds.length ≤ 1000000) :
    Sw prog w hB A env vs st (eval (.Tuple xs k pos) env) (fun ρ h u => RV hB ρ h u (.d (.tuple ds))) st1 := by
  intro s ρ Q E H V P
  refine Tuple_ (S.es pos R K i h s ρ _ E H V fun as h1 tk ρ1 H1 X1 r1 => ?_)
  have r := r1.dats hd
  refine wpAny_newTuple ?_ (len_line (by rw [r.length]; exact hl))
  have X := X1.trans (Ext.push (ρ := ρ ++ ρ1) (L := env.locals) h1 { cls := .type "tuple", data := .seq as.toArray })
  refine P _ _ tk _ (by rw [List.append_nil]; exact H1.push _) X (.d (.tuple (Heap.get?_push_size _ rfl) rfl rfl (by simpa using r.keep (TupKeep.push _ _))))

theorem n_lst {es : List PE} {xs : List Expr} {us : List V} {ds : List PyData} {pos : Pos} (S : Snd prog w hB mg n) (R : Room A n) (K : EnvOk env) (i : IsEs env.scope.names es xs) (h : evEs fns n vs st es = some (us, st1)) (hd : datsOf us = some ds) (hl : ds.length ≤ 1000000) :
    Sw prog w hB A env vs st (eval (.List xs pos) env) (fun ρ h u => RV hB ρ h u (.l st1.length)) (st1 ++ [ds]) := by
  intro s ρ Q E H V P
  refine List_ (S.es pos R K i h s ρ _ E H V fun as h1 tk ρ1 H1 X1 r1 => ?_)
  have r := r1.dats hd
  refine wpAny_newList ?_ (len_line (by rw [r.length]; exact hl))
  have X := X1.trans (Ext.pushL (ρ := ρ ++ ρ1) (L := env.locals) h1 { cls := .type "list", data := .seq as.toArray })
  have H2 := H1.pushL (vs := as.toArray) (n := 0) (xs := ds) (by simpa using r)
  rw [List.append_assoc] at H2
  refine P _ _ tk _ H2 X (.l ?_)
  rw [← H1.len, ← List.append_assoc]; simp

/-! ### reading values -/
theorem RV.int_inv {ρ : List Addr} {h : Heap} {u : Value} {i : Int} (r : RV hB ρ h u (.d (.int i))) : ∃ t, u = .int i t := by
  cases r with | d r => cases r; exact ⟨_, rfl⟩
theorem RV.str_inv {ρ : List Addr} {h : Heap} {u : Value} {x : Str} (r : RV hB ρ h u (.d (.str x))) : ∃ t, u = .str x t := by
  cases r with | d r => cases r; exact ⟨_, rfl⟩
theorem RV.bool_inv {ρ : List Addr} {h : Heap} {u : Value} {b : Bool} (r : RV hB ρ h u (.d (.bool b))) : u = .bool b := by
  cases r with | d r => cases r; rfl
theorem RV.none_inv {ρ : List Addr} {h : Heap} {u : Value} (r : RV hB ρ h u (.d .none)) : u = .none := by
  cases r with | d r => cases r; rfl
theorem RV.tup_inv {ρ : List Addr} {h : Heap} {u : Value} {ds : List PyData} (r : RV hB ρ h u (.d (.tuple ds))) : ∃ a ws, u = .ref a ∧ IsTup h a ws ∧ RIs h ws.toList ds := by
  cases r with | d r => exact r.at
theorem RV.lst_inv {ρ : List Addr} {h : Heap} {u : Value} {i : Nat} (r : RV hB ρ h u (.l i)) : ∃ a, u = .ref a ∧ ρ[i]? = some a := by
  cases r with | l e => exact ⟨_, rfl, e⟩
/-- the items of a value of the store -/
theorem HOk.plain {ρ : List Addr} {h : Heap} (H : HOk hB ρ st h) {i : Nat} {a : Addr} {xs : List PyData} (e : ρ[i]? = some a) (x : st[i]? = some xs) : ∃ ws, h.PlainList a ws ∧ RIs h ws.toList xs := H.lists i a xs e x
theorem RIs.size {h : Heap} {ws : Array Value} {xs : List PyData} (r : RIs h ws.toList xs) : ws.size = xs.length := by rw [← r.length]; simp

theorem datOf_reads {ρ : List Addr} {h : Heap} {u : Value} {d : PyData} (H : HOk hB ρ st h) (r : RV hB ρ h u v) (e : datOf st v = some d) : ∃ as, Reads h u d as := by
  cases r with
  | d r => cases e; exact ⟨_, r.reads⟩
  | l q =>
    rename_i a i
    replace e : (st[i]?).map PyData.list = some d := e
    cases z : st[i]? with
    | none => rw [z] at e; cases e
    | some xs =>
      rw [z] at e; cases e
      obtain ⟨ws, ⟨n, p⟩, r⟩ := H.plain q z
      exact ⟨_, .list p rfl rfl r.reads⟩
  | fz p r =>
    cases e
    obtain ⟨o, ho, hc, n, hd⟩ := p
    exact ⟨_, .list (H.base _ _ ho) hc hd (r.keep fun a o e _ => H.base a o e).reads⟩

/-! ### the operators -/
theorem str_line {x : Str} (h : x.length ≤ 1000000) : x.length ≤ sizeLine := by rw [sizeLine_eq]; omega

theorem op_ok {o : Op} {op : Operator} (io : IsOp o op) {x y z : PyData} (e : binop o x y = some z) {s : Shared} {a b : Value} (ra : RI s.heap a x) (rb : RI s.heap b y) {Q : Value → Shared → Prop} {E : Value → Shared → Prop}
    (h : ∀ u tk, RI s.heap u z → Q u { s with toks := tk }) : wpAny (model prog w) A (binaryOp op a b) Q E s := by
  cases io with
  | add =>
    cases x <;> cases y <;> try (cases e; done)
    · cases e; cases ra; cases rb
      exact add_int (h _ _ (.int _ _))
    · rename_i x y
      simp only [binop] at e
      split at e
      · rename_i hz
        cases e; cases ra; cases rb
        exact add_str (fun t tk => h _ tk (.str _ t)) (by rw [sizeLine_eq]; omega)
      · cases e
  | sub =>
    cases x <;> cases y <;> try (cases e; done)
    cases e; cases ra; cases rb
    exact sub_int (h _ _ (.int _ _))
  | mul =>
    cases x <;> cases y <;> try (cases e; done)
    rename_i x y
    simp only [binop] at e
    split at e
    · rename_i hz
      cases e; cases ra; cases rb
      refine PyProof.Rows.mul_int (h _ _ (.int _ _)) ?_
      have big : ∀ k : Int, k.natAbs < 2 ^ 63 → Builtin.Int.intBits k ≤ 64 := fun k hk => intBits_le_64 (by omega) (by omega)
      rcases hz with hz | hz
      · exact IntMulOk.of_left (big _ hz)
      · exact IntMulOk.of_right (big _ hz)
    · cases e
  | mod =>
    cases x <;> cases y <;> try (cases e; done)
    simp only [binop] at e
    split at e
    · rename_i hz
      cases e; cases ra; cases rb
      exact mod_int hz (h _ _ (.int _ _))
    · cases e
  | fdiv =>
    cases x <;> cases y <;> try (cases e; done)
    simp only [binop] at e
    split at e
    · rename_i hz
      cases e; cases ra; cases rb
      exact floordiv_int hz.1 (h _ _ (.int _ _)) (.inl (PyProof.noPylong_small hz.2))
    · cases e
  | pow =>
    cases x <;> cases y <;> try (cases e; done)
    simp only [binop] at e
    split at e
    · rename_i hz
      cases e; cases ra; cases rb
      exact pow_int_small hz.1 hz.2.1 hz.2.2 (h _ _ (.int _ _))
    · cases e
end
end Mine
end

/-! # M8 -/
section
open PySem PySem.W PyProof.Rows
namespace Mine
open PySem.SeqAt PySem.MeetsSeq
open AutoSeq1 (wpAny_loadPart')

/-- the pairs of two tuples of texts -/
inductive LtZ (P : Prop) : List (Value × Value) → Bool → Prop
  | nil : P → LtZ P [] false
  | eq {a : Str} {t u : Tok} {r : List (Value × Value)} {b : Bool} : LtZ P r b → LtZ P ((.str a t, .str a u) :: r) b
  | ne {a c : Str} {t u : Tok} {r : List (Value × Value)} : a ≠ c → LtZ P ((.str a t, .str c u) :: r) (strLt a c)

theorem rc_lt_str {prog : Program} {w : World} {A : Around} {E : Value → Shared → Prop} {a c : Str} {t u : Tok} {h : Heap} {g : Array GenState} {d : Drawn} {tk : Nat} {os : OsState} {Q : Value → Shared → Prop} (q : Q (.bool (strLt a c)) ⟨h, g, d, tk, os⟩) :
    wpAny (model prog w) A (richCompare .Lt (.str a t) (.str c u)) Q E ⟨h, g, d, tk, os⟩ := PyProof.Rows.lt_str q
set_option maxHeartbeats 4000000 in
theorem tuple_lt_strs (l b : Addr) (items items2 : Array Value) (n n2 : Nat) (dd dd2 : Option Addr) (sl sl2 : Array (Option Value)) (r : Bool) (hr : LtZ (items.size = items2.size) (items.toList.zip items2.toList) r) :
    Meets (Builtin.«tuple.__lt__» ⟨[.ref l, .ref b], []⟩)
      (fun A R s => s.heap.get? l = some { cls := .type "tuple", dict := dd, data := .seq items n, slots := sl } ∧ s.heap.get? b = some { cls := .type "tuple", dict := dd2, data := .seq items2 n2, slots := sl2 } ∧
        R (.ok (.ret (.bool r))) s) :=
  .of_wp fun prog w A R s h => by
    obtain ⟨hp, g, d, tk, os⟩ := s; obtain ⟨hl, hb, h⟩ := h
    have f2 := AutoSeq1.sub_tuple_tuple
    wp_walk using wpAny_loadPart' hl, wpAny_loadPart' hb, wpAny_forIn_list _ (fun rest b s' => b.1 = none ∧ s' = ⟨hp, g, d, tk, os⟩ ∧ LtZ (items.size = items2.size) rest r) _
    case turn =>
      rintro ⟨y, x⟩ rest b s' ⟨hb', rfl, hz'⟩
      cases hz' with
      | eq hz' =>
        refine wpAny_bind ((eqGives_str _ _ _ _) prog w _ _ _ _ ?_)
        rw [beq_self_eq_true]
        wp_walk
        exact ⟨rfl, rfl, hz'⟩
      | ne hne =>
        refine wpAny_bind ((eqGives_str _ _ _ _) prog w _ _ _ _ ?_)
        rw [beq_eq_false_iff_ne.mpr hne]
        wp_walk using rc_lt_str
        exact ⟨_, rfl, h⟩
    case fin =>
      rintro ⟨b1, b2⟩ s' ⟨hb', rfl, hz'⟩
      simp only at hb'
      subst hb'
      cases hz' with
      | nil hz =>
        wp_walk
        exact ⟨_, rfl, by simpa [Builtin.Tuple.tupleCompareSizes, hz] using h⟩
    case h =>
      exact ⟨rfl, rfl, hr⟩
end Mine
end

/-! # M9 -/
section
open PySem PySem.W PyProof.Rows
namespace Mine
open PySem.SeqAt PySem.MeetsSeq

section
variable {prog : Program} {w : World} {hB : Heap} {A : Around} {st : Store} {s : Shared} {ρ : List Addr} {Q : Value → Shared → Prop} {E : Value → Shared → Prop}

theorem ltZ_of {P : Prop} : ∀ {vs ws : List Value} {xs ys : List PyData} {r : Bool} {h : Heap}, RIs h vs xs → RIs h ws ys → tupLt xs ys = some r → (xs.length = ys.length → P) → LtZ P (vs.zip ws) r
  | [], [], _, _, r, h, a, b, e, hP => by cases a; cases b; cases e; exact .nil (hP rfl)
  | [], w :: ws, _, _, r, h, a, b, e, _ => by
    cases a; cases b with | cons b1 b2 => cases e
  | v :: vs, [], _, _, r, h, a, b, e, _ => by
    cases b; cases a with | cons b1 b2 => rename_i d ds; cases d <;> simp [tupLt] at e
  | v :: vs, w :: ws, _, _, r, h, a, b, e, hP => by
    cases a with | cons a1 a2 =>
    cases b with | cons b1 b2 =>
    rename_i d ds d' ds'
    cases a1 <;> cases b1 <;> try (cases e; done)
    rename_i x t y u
    replace e : (if x == y then tupLt ds ds' else some (strLt x y)) = some r := e
    split at e
    · rename_i hxy
      have hxy' : x = y := by simpa using hxy
      subst hxy'
      exact .eq (ltZ_of a2 b2 e fun q => hP (by simp [q]))
    · rename_i hxy
      cases e
      exact .ne (by simpa using hxy)
theorem shaped_all {xs : List PyData} (h : xs.all shapedV = true) : PyData.canLayAll0 xs = true ∧ PyData.depthAll xs ≤ 64 := by
  induction xs with
  | nil => simp [PyData.canLayAll0, PyData.depthAll]
  | cons x xs ih =>
    rw [List.all_cons, Bool.and_eq_true] at h
    have h2 := ih h.2
    have h1 := canLay_of_shaped h.1
    have h3 := depth_of_shaped h.1
    simp only [PyData.canLayAll0, PyData.depthAll, h1, h2.1, Bool.and_self, true_and]
    omega

theorem cmp_ok {o : Cm} {op : CmpOp} (io : IsCm o op) {a b : V} {r : Bool} (e : cmpop o st a b = some r) {u v : Value} (H : HOk hB ρ st s.heap) (ra : RV hB ρ s.heap u a) (rb : RV hB ρ s.heap v b) (hu : A.units + 100 < cLine)
    (h : Q (.bool r) s) : wpAny (model prog w) A (compareOp op u v) Q E s := by
  cases io with
  | eq =>
    simp only [cmpop] at e
    split at e
    · rename_i x y hx hy
      split at e
      · rename_i hs
        rw [Bool.and_eq_true] at hs
        cases e
        obtain ⟨as, qa⟩ := datOf_reads H ra hx
        obtain ⟨bs, qb⟩ := datOf_reads H rb hy
        exact eq_dataH qa qb hs.1 hs.2 (by omega) h
      · cases e
    · cases e
  | ne =>
    simp only [cmpop] at e
    split at e
    · rename_i x y hx hy
      split at e
      · rename_i hs
        rw [Bool.and_eq_true] at hs
        cases e
        obtain ⟨as, qa⟩ := datOf_reads H ra hx
        obtain ⟨bs, qb⟩ := datOf_reads H rb hy
        exact ne_dataH qa qb hs.1 hs.2 (by omega) h
      · cases e
    · cases e
  | lt =>
    simp only [cmpop] at e
    split at e
    · cases e
      obtain ⟨t, rfl⟩ := RV.int_inv ra
      obtain ⟨t', rfl⟩ := RV.int_inv rb
      exact lt_int h
    · rename_i x y
      obtain ⟨a, ws, rfl, ta, qa⟩ := RV.tup_inv ra
      obtain ⟨b, zs, rfl, tb, qb⟩ := RV.tup_inv rb
      have z := ltZ_of (P := ws.size = zs.size) qa qb e fun hl => by rw [qa.size, qb.size, hl]
      obtain ⟨⟨cls, dd, data, sl⟩, ho, hc, n, hd⟩ := ta
      obtain ⟨⟨cls2, dd2, data2, sl2⟩, ho2, hc2, n2, hd2⟩ := tb
      simp only at hc hd hc2 hd2
      subst hc hd hc2 hd2
      show wpAny (model prog w) A (richCompare .Lt (.ref a) (.ref b)) Q E s
      exact richCompare_meets_room (op := .Lt) ⟨_, ho, rfl⟩ ⟨_, ho2, rfl⟩ F.slot_tuple_lt F.entry_tuple_lt (F.args_tuple_lt_2 _ _) (tuple_lt_strs a b ws zs n n2 dd dd2 sl sl2 r z)
        ⟨ho, ho2, show Value.bool r ≠ Value.notImplemented ∧ Q (.bool r) s from ⟨(fun x => nomatch x), h⟩⟩ (by omega)
    · cases e
  | gt =>
    simp only [cmpop] at e
    split at e
    · cases e
      obtain ⟨t, rfl⟩ := RV.int_inv ra
      obtain ⟨t', rfl⟩ := RV.int_inv rb
      exact gt_int h
    · cases e
  | ge =>
    simp only [cmpop] at e
    split at e
    · cases e
      obtain ⟨t, rfl⟩ := RV.int_inv ra
      obtain ⟨t', rfl⟩ := RV.int_inv rb
      exact ge_int h
    · cases e
  | isIn =>
    simp only [cmpop] at e
    split at e
    · rename_i x ys hx hy
      split at e
      · rename_i hs
        rw [Bool.and_eq_true] at hs
        cases e
        obtain ⟨as, qa⟩ := datOf_reads H ra hx
        obtain ⟨hl, hd⟩ := shaped_all hs.2
        have hc := canLay_of_shaped hs.1
        have hu' : A.units + 1 + min (PyData.depthAll ys) x.depth < cLine := by
          have := Nat.min_le_left (PyData.depthAll ys) x.depth
          omega
        cases b with
        | d y =>
          cases y <;> try (cases hy; done)
          cases hy
          cases rb with | d rb => exact in_tuple_reads rb.reads qa hl hc hu' h
        | l i =>
          obtain ⟨bs, qb⟩ := datOf_reads (d := .list ys) H rb (by show (st[i]?).map PyData.list = _; rw [show st[i]? = some ys from hy]; rfl)
          exact in_list_reads qb qa hl hc hu' h
        | fz zs =>
          cases hy
          obtain ⟨bs, qb⟩ := datOf_reads (d := .list ys) H rb rfl
          exact in_list_reads qb qa hl hc hu' h
      · cases e
    · cases e
  | notIn =>
    simp only [cmpop] at e
    split at e
    · rename_i x ys hx hy
      split at e
      · rename_i hs
        rw [Bool.and_eq_true] at hs
        cases e
        obtain ⟨as, qa⟩ := datOf_reads H ra hx
        obtain ⟨hl, hd⟩ := shaped_all hs.2
        have hc := canLay_of_shaped hs.1
        have hu' : A.units + 1 + min (PyData.depthAll ys) x.depth < cLine := by
          have := Nat.min_le_left (PyData.depthAll ys) x.depth
          omega
        cases b with
        | d y =>
          cases y <;> try (cases hy; done)
          cases hy
          cases rb with | d rb => exact notIn_tuple_reads rb.reads qa hl hc hu' h
        | l i =>
          obtain ⟨bs, qb⟩ := datOf_reads (d := .list ys) H rb (by show (st[i]?).map PyData.list = _; rw [show st[i]? = some ys from hy]; rfl)
          exact notIn_list_reads qb qa hl hc hu' h
        | fz zs =>
          cases hy
          obtain ⟨bs, qb⟩ := datOf_reads (d := .list ys) H rb rfl
          exact notIn_list_reads qb qa hl hc hu' h
      · cases e
    · cases e
  | isNone =>
    simp only [cmpop] at e
    split at e
    · rename_i x
      have := RV.none_inv rb
      subst this
      cases ra with
      | d ra =>
        cases ra with
        | none => cases e; exact PySem.wpAny_is_plain rfl h
        | _ => cases e; exact is_none_ne (by intro x; cases x) h
    · cases e
  | notNone =>
    simp only [cmpop] at e
    split at e
    · rename_i x
      have := RV.none_inv rb
      subst this
      cases ra with
      | d ra =>
        cases ra with
        | none => cases e; exact PySem.wpAny_isNot_plain rfl h
        | _ => cases e; exact isnot_none_ne (by intro x; cases x) h
    · cases e
end
end Mine
end

/-! # M10 -/
section
open PySem PySem.W PyProof.Rows
namespace Mine

section
variable {prog : Program} {w : World} {hB : Heap} {mg mb : Str → Option Value} {A : Around} {env : Env} {vs : Vars} {st st' st1 st2 : Store} {n : Nat} {v : V} {e : Expr} {s : Shared} {ρ : List Addr} {E : Value → Shared → Prop}

theorem sub_ops (sl : Expr) (o i : Value) : ∃ ops, subscripted sl false o i = operate ops (getItem o i) := by
  unfold subscripted
  split
  · exact ⟨_, rfl⟩
  · rename_i h; cases h
  · exact ⟨_, rfl⟩
theorem not_behind {N : Names} {p : PE} {x : Expr} (i : IsE N p x) (hp : p ≠ .no) (op : CmpOp) : behindInMarks op x = false := by
  cases i <;> first | rfl | exact absurd rfl hp
theorem evE_no (h : evE fns n vs st .no = some (v, st')) : False := by
  cases n with
  | zero => simp [evE] at h
  | succ n => simp [evE] at h

theorem Post.push {α : Type} {R : List Addr → Heap → α → Prop} {Q : α → Shared → Prop} {L : Addr} (P : Post hB ρ L s st R Q) (H : HOk hB ρ st s.heap) {a : α} (o : Obj) (r : R ρ (s.heap.push o) a) : Q a { s with heap := s.heap.push o } := by
  have := P a (s.heap.push o) s.toks [] (by rw [List.append_nil]; exact H.push o) (Ext.push _ _) (by rw [List.append_nil]; exact r)
  exact this
/-- a new list is left -/
theorem Post.newL {L : Addr} {Q : Value → Shared → Prop} {xs : List PyData} {h' : Heap} {D : Addr} {ws : Array Value} (P : Post hB ρ L s (st ++ [xs]) (fun ρ h u => RV hB ρ h u (.l st.length)) Q) (H : HOk hB ρ st s.heap)
    (hk : ∀ a o, s.heap.get? a = some o → h'.get? a = some o) (hD : s.heap.get? D = none) (p : h'.PlainList D ws) (r : RIs s.heap ws.toList xs) (tk : Nat) : Q (.ref D) { s with heap := h', toks := tk } := by
  refine P _ _ tk [D] (H.add hk hD p (r.keep fun a o e _ => hk a o e)) ⟨fun a o e _ _ => hk a o e, fun m n => n.keeps hk, fun a o e _ => hk a o e, fun a o e => ⟨o, hk a o e⟩, fun a ha => by rw [List.mem_singleton.mp ha]; exact hD⟩ (.l ?_)
  rw [← H.len]; simp
theorem Post.pushL {L : Addr} {Q : Value → Shared → Prop} {xs : List PyData} {ws : Array Value} {n : Nat} (P : Post hB ρ L s (st ++ [xs]) (fun ρ h u => RV hB ρ h u (.l st.length)) Q) (H : HOk hB ρ st s.heap)
    (r : RIs s.heap ws.toList xs) : Q (.ref s.heap.objs.size) { s with heap := s.heap.push { cls := .type "list", data := .seq ws n } } :=
  P.newL H (fun _ _ e => Heap.get?_push_of_some _ e) (size_none _) ⟨n, Heap.get?_push_size _ rfl⟩ r s.toks
theorem Post.pushT {L : Addr} {Q : Value → Shared → Prop} {xs : List PyData} {ws : Array Value} {n : Nat} (P : Post hB ρ L s st (fun ρ h u => RV hB ρ h u (.d (.tuple xs))) Q) (H : HOk hB ρ st s.heap)
    (r : RIs s.heap ws.toList xs) : Q (.ref s.heap.objs.size) { s with heap := s.heap.push { cls := .type "tuple", data := .seq ws n } } :=
  P.push H _ (.d (.tuple (Heap.get?_push_size _ rfl) rfl rfl (r.keep (TupKeep.push _ _))))

theorem n_bin {o : Op} {a b : PE} {l r : Expr} {op : Operator} {pos : Pos} {x y z : PyData} (S : Snd prog w hB mg n) (R : Room A n) (K : EnvOk env) (io : IsOp o op) (i : IsE env.scope.names a l) (j : IsE env.scope.names b r)
    (ha : evE fns n vs st a = some (.d x, st1)) (hb : evE fns n vs st1 b = some (.d y, st2)) (hz : binop o x y = some z) :
    Sw prog w hB A env vs st (eval (.BinOp l op r pos) env) (fun ρ h u => RV hB ρ h u (.d z)) st2 := by
  intro s ρ Q E H V P
  refine wpAny_BinOp (S.e R K i ha s ρ _ E H V fun u h1 tk ρ1 H1 X1 r1 => ?_)
  refine S.e R K j hb _ _ _ E H1 (V.ext H X1) fun v h2 tk2 ρ2 H2 X2 r2 => ?_
  have P2 := (P.after (tk := tk) X1).after (tk := tk2) X2
  have r1' := r1.ext X2
  cases r1' with | d ra =>
  cases r2 with | d rb =>
  exact op_ok io hz ra rb fun u t ru => P2.same H2 (.d ru) t

theorem n_binL {a b : PE} {l r : Expr} {pos : Pos} {i j : Nat} {xs ys : List PyData} (S : Snd prog w hB mg n) (R : Room A n) (K : EnvOk env) (ia : IsE env.scope.names a l) (ib : IsE env.scope.names b r)
    (ha : evE fns n vs st a = some (.l i, st1)) (hb : evE fns n vs st1 b = some (.l j, st2)) (hx : st2[i]? = some xs) (hy : st2[j]? = some ys) (hl : xs.length + ys.length ≤ 1000000) :
    Sw prog w hB A env vs st (eval (.BinOp l .Add r pos) env) (fun ρ h u => RV hB ρ h u (.l st2.length)) (st2 ++ [xs ++ ys]) := by
  intro s ρ Q E H V P
  refine wpAny_BinOp (S.e R K ia ha s ρ _ E H V fun u h1 tk ρ1 H1 X1 r1 => ?_)
  refine S.e R K ib hb _ _ _ E H1 (V.ext H X1) fun v h2 tk2 ρ2 H2 X2 r2 => ?_
  have P2 := (P.after (tk := tk) X1).after (tk := tk2) X2
  obtain ⟨a, rfl, ea⟩ := (r1.ext X2).lst_inv
  obtain ⟨b, rfl, eb⟩ := r2.lst_inv
  obtain ⟨ws, ⟨k, pa⟩, qa⟩ := H2.plain ea hx
  obtain ⟨zs, ⟨k', pb⟩, qb⟩ := H2.plain eb hy
  refine PySem.P.add_list pa pb ?_ (by rw [qa.size, qb.size]; exact Nat.le_trans hl (by rw [sizeLine_eq]; omega))
  exact P2.pushL H2 (by rw [Array.toList_append]; exact qa.append qb)

theorem n_neg {a : PE} {x : Expr} {pos : Pos} {i : Int} (S : Snd prog w hB mg n) (R : Room A n) (K : EnvOk env) (ia : IsE env.scope.names a x) (ha : evE fns n vs st a = some (.d (.int i), st1)) :
    Sw prog w hB A env vs st (eval (.UnaryOp .USub x pos) env) (fun ρ h u => RV hB ρ h u (.d (.int (-i)))) st1 := by
  intro s ρ Q E H V P
  refine wpAny_UnaryOp (S.e R K ia ha s ρ _ E H V fun u h1 tk ρ1 H1 X1 r1 => ?_)
  obtain ⟨t, rfl⟩ := r1.int_inv
  exact neg_int ((P.after (tk := tk) X1).same H1 (.d (.int _ _)) _)

theorem n_cmp {o : Cm} {a b : PE} {l r : Expr} {op : CmpOp} {pos : Pos} {u v : V} {c : Bool} (S : Snd prog w hB mg n) (R : Room A n) (K : EnvOk env) (io : IsCm o op) (i : IsE env.scope.names a l) (j : IsE env.scope.names b r)
    (ha : evE fns n vs st a = some (u, st1)) (hb : evE fns n vs st1 b = some (v, st2)) (hz : cmpop o st2 u v = some c) :
    Sw prog w hB A env vs st (eval (.Compare l [op] [r] pos) env) (fun ρ h u => RV hB ρ h u (.d (.bool c))) st2 := by
  intro s ρ Q E H V P
  refine wpAny_Compare1 (S.e R K i ha s ρ _ E H V fun u h1 tk ρ1 H1 X1 r1 => ?_) (not_behind j (fun q => evE_no (q ▸ hb)) op)
  refine S.e R K j hb _ _ _ E H1 (V.ext H X1) fun v h2 tk2 ρ2 H2 X2 r2 => ?_
  have P2 := (P.after (tk := tk) X1).after (tk := tk2) X2
  exact cmp_ok io hz H2 (r1.ext X2) r2 (by have := R.units; omega) (P2.same' H2 (.d (.bool _)))

theorem n_cmpT {o : Cm} {a b : PE} {l r : Expr} {op : CmpOp} {pos : Pos} {u v : V} {c : Bool} {whole : Sem Value} (S : Snd prog w hB mg n) (R : Room A n) (K : EnvOk env) (io : IsCm o op) (i : IsE env.scope.names a l) (j : IsE env.scope.names b r)
    (ha : evE fns n vs st a = some (u, st1)) (hb : evE fns n vs st1 b = some (v, st2)) (hz : cmpop o st2 u v = some c) :
    Sw prog w hB A env vs st (isTrue (.Compare l [op] [r] pos) env whole) (fun _ _ d => d = c) st2 := by
  intro s ρ Q E H V P
  refine wpAny_isTrue_Compare1 (S.e R K i ha s ρ _ E H V fun u h1 tk ρ1 H1 X1 r1 => ?_) (not_behind j (fun q => evE_no (q ▸ hb)) op)
  refine S.e R K j hb _ _ _ E H1 (V.ext H X1) fun v h2 tk2 ρ2 H2 X2 r2 => ?_
  have P2 := (P.after (tk := tk) X1).after (tk := tk2) X2
  exact cmp_ok io hz H2 (r1.ext X2) r2 (by have := R.units; omega) (wpAny_truthy_bool (P2.same' H2 rfl))

theorem n_ite {t a b : PE} {t' a' b' : Expr} {pos : Pos} {c : Bool} (S : Snd prog w hB mg n) (R : Room A n) (K : EnvOk env) (it : IsE env.scope.names t t') (ia : IsE env.scope.names a a') (ib : IsE env.scope.names b b')
    (ht : evT fns n vs st t = some (c, st1)) (h : evE fns n vs st1 (if c then a else b) = some (v, st2)) :
    Sw prog w hB A env vs st (eval (.IfExp t' a' b' pos) env) (fun ρ h u => RV hB ρ h u v) st2 := by
  intro s ρ Q E H V P
  refine IfExp_ (S.t R K it ht s ρ _ E H V fun d h1 tk ρ1 H1 X1 r1 => ?_)
  subst r1
  cases d with
  | true => exact S.e R K ia h _ _ _ E H1 (V.ext H X1) (P.after X1)
  | false => exact S.e R K ib h _ _ _ E H1 (V.ext H X1) (P.after X1)

theorem itemsOf_at {h : Heap} {u : Value} {xs : List PyData} (H : HOk hB ρ st h) (r : RV hB ρ h u v) (e : itemsOf st v = some xs) :
    ∃ a ws, u = .ref a ∧ (IsTup h a ws ∨ h.IsList a ws) ∧ RIs h ws.toList xs := by
  cases r with
  | d r =>
    rename_i x
    cases x <;> try (cases e; done)
    cases e
    obtain ⟨a, ws, rfl, t, r⟩ := r.at
    exact ⟨a, ws, rfl, .inl t, r⟩
  | l q =>
    obtain ⟨ws, ⟨k, p⟩, r⟩ := H.plain q e
    exact ⟨_, ws, rfl, .inr ⟨_, p, rfl, k, rfl⟩, r⟩
  | fz p r =>
    cases e
    obtain ⟨o, ho, hc, k, hd⟩ := p
    exact ⟨_, _, rfl, .inr ⟨o, H.base _ _ ho, hc, k, hd⟩, r.keep fun a o e _ => H.base a o e⟩

theorem place_seq {m : Nat} {k : Int} {j : Nat} (h : place m k = some j) : seqIndex? k m = some j := by
  unfold place at h
  unfold seqIndex?
  split at h
  · split at h
    · cases h
      rename_i h1 h2
      have e : ¬ k < 0 := by omega
      simp only [e, if_false]
      rw [if_pos (by simp; omega)]
    · cases h
  · split at h
    · cases h
      rename_i h1 h2
      have e : k < 0 := by omega
      simp only [e, if_true]
      rw [if_pos (by simp; omega)]
    · cases h

theorem getItem_seq {Q : Value → Shared → Prop} {a : Addr} {ws : Array Value} {k : Int} {t : Tok} {j : Nat} {x : Value} {value slice : Expr} (h : IsTup s.heap a ws ∨ s.heap.IsList a ws) (h1 : -(2 ^ 63) ≤ k) (h2 : k < 2 ^ 63) (hp : place ws.size k = some j)
    (hx : ws[j]? = some x) (hQ : Q x s) : wpAny (model prog w) A (subscriptTail value slice (.ref a) (.int k t)) Q E s := by
  obtain ⟨ops, he⟩ := sub_ops slice (.ref a) (.int k t)
  rcases h with h | h
  · exact tail_any h.typeIs slot_tuple_getitem.lookup (getItem_tuple h h1 h2 (place_seq hp) hx hQ) he
  · refine tail_any h.typeIs slot_list_getitem.lookup ?_ he
    unfold place at hp
    split at hp
    · split at hp
      · cases hp
        exact wpAny_getItem_list h (by assumption) h2 hx hQ
      · cases hp
    · split at hp
      · cases hp
        exact wpAny_getItem_list_neg h (by omega) (by omega) h1 hx hQ
      · cases hp

theorem n_idx {a b : PE} {o i : Expr} {pos : Pos} {u : V} {k : Int} {xs : List PyData} {j : Nat} {x : PyData} (S : Snd prog w hB mg n) (R : Room A n) (K : EnvOk env) (ia : IsE env.scope.names a o) (ib : IsE env.scope.names b i)
    (ha : evE fns n vs st a = some (u, st1)) (hb : evE fns n vs st1 b = some (.d (.int k), st2)) (h1 : -(2 ^ 63) ≤ k) (h2 : k < 2 ^ 63) (hx : itemsOf st2 u = some xs) (hp : place xs.length k = some j) (hj : xs[j]? = some x) :
    Sw prog w hB A env vs st (eval (.Subscript o i pos) env) (fun ρ h u => RV hB ρ h u (.d x)) st2 := by
  intro s ρ Q E H V P
  refine Subscript_ (S.e R K ia ha s ρ _ E H V fun u h1' tk ρ1 H1 X1 r1 => ?_)
  refine S.e R K ib hb _ _ _ E H1 (V.ext H X1) fun v h2' tk2 ρ2 H2 X2 r2 => ?_
  have P2 := (P.after (tk := tk) X1).after (tk := tk2) X2
  obtain ⟨t, rfl⟩ := r2.int_inv
  obtain ⟨a, ws, rfl, q, r⟩ := itemsOf_at H2 (r1.ext X2) hx
  obtain ⟨y, hy, ry⟩ := r.get hj
  exact getItem_seq q h1 h2 (by rw [r.size]; exact hp) (by rw [← Array.getElem?_toList]; exact hy) (P2.same' H2 (.d ry))
end
end Mine
end

/-! # M11 -/
section
open PySem PySem.W PyProof.Rows
namespace Mine

section
variable {prog : Program} {w : World} {hB : Heap} {mg mb : Str → Option Value} {A : Around} {env : Env} {vs : Vars} {st st' st1 st2 : Store} {n : Nat} {v : V} {e : Expr} {s : Shared} {ρ : List Addr} {E : Value → Shared → Prop}

theorem adjust_rev (n : Nat) : Builtin.Slice.sliceAdjust none none (-1) (n : Int) = ((n : Int) - 1, -1) := by
  unfold Builtin.Slice.sliceAdjust
  have h1 : ((-1 : Int) < 0) := by omega
  simp only [h1, if_true]
theorem places_rev (n : Nat) : Builtin.Slice.slicePlaces ((n : Int) - 1) (-1) (-1) = n := by
  unfold Builtin.Slice.slicePlaces
  have h1 : ¬ ((-1 : Int) > 0) := by omega
  simp only [h1, if_false, show (- -1 : Int) = 1 by decide, Int.ediv_one]
  split <;> omega
theorem sliceApplied_rev {sl : Addr} {n : Nat} {u : Tok} {Q : Int × Int × Nat → Shared → Prop} (hs : s.heap.IsSliceOf sl .none .none (.int (-1) u)) (h : Q ((n : Int) - 1, -1, n) s) :
    wpAny (model prog w) A (Builtin.Slice.sliceApplied (.ref sl) (pure (n : Int))) Q E s := by
  obtain ⟨os, hos, hcs, hds⟩ := id hs
  unfold Builtin.Slice.sliceApplied Builtin.Slice.sliceFields
  refine wpAny_bind (wpAny_bind (wpAny_field hos hds (x := .none) rfl (wpAny_bind (wpAny_field hos hds (x := .none) rfl (wpAny_bind (wpAny_field hos hds (x := .int (-1) u) rfl (wpAny_pure ?_)))))))
  refine wpAny_bind (slicePart_int ?_)
  show wpAny _ _ (if ((-1 : Int) == 0) = true then _ else _) _ _ s
  rw [if_neg (by decide)]
  refine wpAny_bind (slicePart_none (wpAny_bind (slicePart_none (wpAny_bind (wpAny_pure ?_)))))
  show wpAny _ _ (match Builtin.Slice.sliceAdjust none none (-1) (n : Int) with | (lo, hi) => pure (lo, (-1 : Int), Builtin.Slice.slicePlaces lo hi (-1))) _ _ s
  rw [adjust_rev n]
  show wpAny _ _ (pure ((n : Int) - 1, (-1 : Int), Builtin.Slice.slicePlaces ((n : Int) - 1) (-1) (-1))) _ _ s
  rw [places_rev n]
  exact wpAny_pure h
theorem pick_rev (xs : Array Value) : ((List.range xs.size).filterMap fun (k : Nat) => xs[((xs.size : Int) - 1 + (k : Int) * (-1)).toNat]?).toArray = xs.toList.reverse.toArray := by
  have e : (List.range xs.size).filterMap (fun (k : Nat) => xs[((xs.size : Int) - 1 + (k : Int) * (-1)).toNat]?) = ((List.range xs.size).map fun k => xs.size - 1 - k).filterMap (xs[·]?) := by
    rw [List.filterMap_map]
    congr 1
    funext k
    have : ((xs.size : Int) - 1 + (k : Int) * (-1)).toNat = xs.size - 1 - k := by omega
    show xs[((xs.size : Int) - 1 + (k : Int) * (-1)).toNat]? = xs[xs.size - 1 - k]?
    rw [this]
  rw [e, krv_range, List.filterMap_reverse, krv_all]
theorem getItem_tuple_rev {t sl : Addr} {items : Array Value} {u : Tok} {Q : Value → Shared → Prop} (ht : IsTup s.heap t items) (hs : s.heap.IsSliceOf sl .none .none (.int (-1) u)) 
    (h : Q (.ref s.heap.objs.size) { s with heap := s.heap.push { cls := .type "tuple", data := .seq items.toList.reverse.toArray } })
    (hsz : items.size ≤ sizeLine) : wpAny (model prog w) A (getItem (.ref t) (.ref sl)) Q E s := by
  have hdrop : sizeOk (.seq items.toList.reverse.toArray) := by
    show items.toList.reverse.toArray.size ≤ sizeLine
    rw [List.size_toArray, List.length_reverse, Array.length_toList]
    omega
  obtain ⟨os, hos, hcs, hds⟩ := id hs
  have hTs : s.TypeIs (.ref sl) "slice" := ⟨os, hos, hcs⟩
  unfold getItem
  try with_reducible refine wpAny_holding ?_
  first | refine wpAny_bind (wpAny_pure ?_) | skip
  refine wpAny_bind (wpAny_sequenceKey ht.typeIs (by decide) ?_)
  refine wpAny_bind (wpAny_callSpecial?_slot (name := Str.ofString "__getitem__") ht.typeIs slot_tuple_getitem
    (wpAny_call_entry slot_tuple_getitem ht.typeIs entry_tuple_getitem ?_ (args_tuple_getitem _ _)))
  show wpAny _ _ (Builtin.Tuple.tupleItemsOf (.ref t) >>= _) _ _ s
  refine wpAny_bind (tupleItemsOf_ ht ?_)
  refine wpAny_bind (wpAny_typeOf hTs ?_)
  rw [if_pos (by decide)]
  refine wpAny_bind (sliceApplied_rev hs ?_)
  have hno : ¬ ((((items.size : Int) - 1) == 0 && (-1 : Int) == 1 && items.size == items.size) = true) := by
    have : ((-1 : Int) == 1) = false := by decide
    rw [this]; simp
  show wpAny _ _ (if (((items.size : Int) - 1) == 0 && (-1 : Int) == 1 && items.size == items.size) = true then _ else _) _ _ s
  rw [if_neg hno, pick_rev items]
  first
    | exact wpAny_bind (m := Builtin.Tuple.tupleExact _) (wpAny_newObj_type (wpAny_pure ⟨_, rfl, wpAny_pure h⟩) hdrop)
    | exact wpAny_bind (m := Builtin.Tuple.tupleExact _) (wpAny_newObj_type (wpAny_bind (wpAny_pure (wpAny_pure ⟨_, rfl, wpAny_pure h⟩))) hdrop)
    | exact wpAny_bind (wpAny_bind (m := Builtin.Tuple.tupleExact _) (wpAny_newObj_type (wpAny_pure (wpAny_pure ⟨_, rfl, wpAny_pure h⟩)) hdrop))
    | exact wpAny_bind (wpAny_bind (m := Builtin.Tuple.tupleExact _) (wpAny_newObj_type (wpAny_pure ⟨_, rfl, wpAny_pure h⟩) hdrop))

theorem line6 {k : Nat} (h : k ≤ 1000000) : k ≤ sizeLine := Nat.le_trans h (by rw [sizeLine_eq]; omega)

/-- the state once a slice's object stands -/
theorem Post.obj {α : Type} {R : List Addr → Heap → α → Prop} {Q : α → Shared → Prop} {L : Addr} (P : Post hB ρ L s st' R Q) (o : Obj) (tk : Nat) : Post hB ρ L { s with heap := s.heap.push o, toks := tk } st' R Q := fun a h' tk' ρ' H X r =>
  P a h' tk' ρ' H (Ext.trans (Ext.push (ρ := ρ) s.heap o) (by rw [List.append_nil]; exact X)) r

theorem minus_one {k : Nat} {p1 p2 : Pos} {Q : Value → Shared → Prop} (h : ∀ t tk, Q (.int (-1) t) { s with toks := tk }) : wpAny (model prog w) A (eval (.UnaryOp .USub (.Constant (.int 1) k p1) p2) env) Q E s :=
  wpAny_UnaryOp (wpAny_Constant_int (neg_int (h _ _)))

theorem n_revT {a : PE} {o : Expr} {k : Nat} {p1 p2 p3 pos : Pos} {xs : List PyData} (S : Snd prog w hB mg n) (R : Room A n) (K : EnvOk env) (ia : IsE env.scope.names a o)
    (ha : evE fns n vs st a = some (.d (.tuple xs), st1)) (hl : xs.length ≤ 1000000) :
    Sw prog w hB A env vs st (eval (.Subscript o (.Slice none none (some (.UnaryOp .USub (.Constant (.int 1) k p1) p2)) p3) pos) env) (fun ρ h u => RV hB ρ h u (.d (.tuple xs.reverse))) st1 := by
  intro s ρ Q E H V P
  refine Subscript_ (S.e R K ia ha s ρ _ E H V fun u h1 tk ρ1 H1 X1 r1 => ?_)
  refine wpAny_Slice (wpAny_pure (wpAny_pure (minus_one fun t tk2 => ?_)))
  obtain ⟨a, ws, rfl, ht, r⟩ := r1.tup_inv
  obtain ⟨ops, he⟩ := sub_ops (.Slice none none (some (.UnaryOp .USub (.Constant (.int 1) k p1) p2)) p3) (.ref a) (.ref h1.objs.size)
  have P2 := ((P.after (tk := tk) X1).obj { cls := .type "slice", data := .fields #[.none, .none, .int (-1) t] } tk2)
  have ht2 := ht.keeps (h' := h1.push { cls := .type "slice", data := .fields #[.none, .none, .int (-1) t] }) fun _ _ e => Heap.get?_push_of_some _ e
  refine tail_any (s := { s with heap := h1.push { cls := .type "slice", data := .fields #[.none, .none, .int (-1) t] }, toks := tk2 }) ht2.typeIs slot_tuple_getitem.lookup ?_ he
  refine getItem_tuple_rev ht2 (Heap.IsSliceOf.new ..) ?_ (by rw [r.size]; exact line6 hl)
  exact P2.pushT (H1.push _) (by simpa using (r.keep (TupKeep.push _ _)).reverse)

theorem n_revL {a : PE} {o : Expr} {k : Nat} {p1 p2 p3 pos : Pos} {i : Nat} {xs : List PyData} (S : Snd prog w hB mg n) (R : Room A n) (K : EnvOk env) (ia : IsE env.scope.names a o)
    (ha : evE fns n vs st a = some (.l i, st1)) (hx : st1[i]? = some xs) (hl : xs.length ≤ 1000000) :
    Sw prog w hB A env vs st (eval (.Subscript o (.Slice none none (some (.UnaryOp .USub (.Constant (.int 1) k p1) p2)) p3) pos) env) (fun ρ h u => RV hB ρ h u (.l st1.length)) (st1 ++ [xs.reverse]) := by
  intro s ρ Q E H V P
  refine Subscript_ (S.e R K ia ha s ρ _ E H V fun u h1 tk ρ1 H1 X1 r1 => ?_)
  refine wpAny_Slice (wpAny_pure (wpAny_pure (minus_one fun t tk2 => ?_)))
  obtain ⟨a, rfl, ea⟩ := r1.lst_inv
  obtain ⟨ws, ⟨c, p⟩, r⟩ := H1.plain ea hx
  obtain ⟨ops, he⟩ := sub_ops (.Slice none none (some (.UnaryOp .USub (.Constant (.int 1) k p1) p2)) p3) (.ref a) (.ref h1.objs.size)
  have P2 := ((P.after (tk := tk) X1).obj { cls := .type "slice", data := .fields #[.none, .none, .int (-1) t] } tk2)
  have hl2 : (h1.push { cls := .type "slice", data := .fields #[.none, .none, .int (-1) t] }).IsList a ws := ⟨_, Heap.get?_push_of_some _ p, rfl, c, rfl⟩
  refine tail_any (s := { s with heap := h1.push { cls := .type "slice", data := .fields #[.none, .none, .int (-1) t] }, toks := tk2 }) hl2.typeIs slot_list_getitem.lookup ?_ he
  refine wpAny_getItem_list_slice hl2 (Heap.IsSliceOf.new ..) .none .none (.int _ _) (by decide) ?_ (by rw [r.size]; exact line6 hl)
  rw [krv_pick]
  exact P2.pushL (H1.push _) (by simpa using (r.keep (TupKeep.push _ _)).reverse)

theorem n_preL {a b : PE} {o i : Expr} {p3 pos : Pos} {l : Nat} {j : Int} {xs : List PyData} (S : Snd prog w hB mg n) (R : Room A n) (K : EnvOk env) (ia : IsE env.scope.names a o) (ib : IsE env.scope.names b i)
    (ha : evE fns n vs st a = some (.l l, st1)) (hb : evE fns n vs st1 b = some (.d (.int j), st2)) (hx : st2[l]? = some xs) (h0 : 0 ≤ j) (hl : xs.length ≤ 1000000) :
    Sw prog w hB A env vs st (eval (.Subscript o (.Slice none (some i) none p3) pos) env) (fun ρ h u => RV hB ρ h u (.l st2.length)) (st2 ++ [xs.take j.toNat]) := by
  intro s ρ Q E H V P
  refine Subscript_ (S.e R K ia ha s ρ _ E H V fun u h1 tk ρ1 H1 X1 r1 => ?_)
  refine wpAny_Slice (wpAny_pure ?_)
  refine S.e R K ib hb _ _ _ E H1 (V.ext H X1) fun v h2 tk2 ρ2 H2 X2 r2 => ?_
  refine wpAny_pure ?_
  obtain ⟨a, rfl, ea⟩ := (r1.ext X2).lst_inv
  obtain ⟨t, rfl⟩ := r2.int_inv
  obtain ⟨ws, ⟨c, p⟩, r⟩ := H2.plain ea hx
  obtain ⟨ops, he⟩ := sub_ops (.Slice none (some i) none p3) (.ref a) (.ref h2.objs.size)
  have P2 := ((P.after (tk := tk) X1).after (tk := tk2) X2).obj { cls := .type "slice", data := .fields #[.none, .int j t, .none] } tk2
  have hl2 : (h2.push { cls := .type "slice", data := .fields #[.none, .int j t, .none] }).IsList a ws := ⟨_, Heap.get?_push_of_some _ p, rfl, c, rfl⟩
  refine tail_any (s := { s with heap := h2.push { cls := .type "slice", data := .fields #[.none, .int j t, .none] }, toks := tk2 }) hl2.typeIs slot_list_getitem.lookup ?_ he
  refine wpAny_getItem_list_slice hl2 (Heap.IsSliceOf.new ..) .none (.int _ _) .none (by decide) ?_ (by rw [r.size]; exact line6 hl)
  obtain ⟨j, rfl⟩ := Int.eq_ofNat_of_zero_le h0
  rw [slicePick_upto']
  exact P2.pushL (H2.push _) (by simpa using (r.keep (TupKeep.push _ _)).take j)

theorem n_sufL {a b : PE} {o i : Expr} {p3 pos : Pos} {l : Nat} {j : Int} {xs : List PyData} (S : Snd prog w hB mg n) (R : Room A n) (K : EnvOk env) (ia : IsE env.scope.names a o) (ib : IsE env.scope.names b i)
    (ha : evE fns n vs st a = some (.l l, st1)) (hb : evE fns n vs st1 b = some (.d (.int j), st2)) (hx : st2[l]? = some xs) (h0 : 0 ≤ j) (hl : xs.length ≤ 1000000) :
    Sw prog w hB A env vs st (eval (.Subscript o (.Slice (some i) none none p3) pos) env) (fun ρ h u => RV hB ρ h u (.l st2.length)) (st2 ++ [xs.drop j.toNat]) := by
  intro s ρ Q E H V P
  refine Subscript_ (S.e R K ia ha s ρ _ E H V fun u h1 tk ρ1 H1 X1 r1 => ?_)
  refine wpAny_Slice ?_
  refine S.e R K ib hb _ _ _ E H1 (V.ext H X1) fun v h2 tk2 ρ2 H2 X2 r2 => ?_
  refine wpAny_pure (wpAny_pure ?_)
  obtain ⟨a, rfl, ea⟩ := (r1.ext X2).lst_inv
  obtain ⟨t, rfl⟩ := r2.int_inv
  obtain ⟨ws, ⟨c, p⟩, r⟩ := H2.plain ea hx
  obtain ⟨ops, he⟩ := sub_ops (.Slice (some i) none none p3) (.ref a) (.ref h2.objs.size)
  have P2 := ((P.after (tk := tk) X1).after (tk := tk2) X2).obj { cls := .type "slice", data := .fields #[.int j t, .none, .none] } tk2
  have hl2 : (h2.push { cls := .type "slice", data := .fields #[.int j t, .none, .none] }).IsList a ws := ⟨_, Heap.get?_push_of_some _ p, rfl, c, rfl⟩
  refine tail_any (s := { s with heap := h2.push { cls := .type "slice", data := .fields #[.int j t, .none, .none] }, toks := tk2 }) hl2.typeIs slot_list_getitem.lookup ?_ he
  refine wpAny_getItem_list_slice hl2 (Heap.IsSliceOf.new ..) (.int _ _) .none .none (by decide) ?_ (by rw [r.size]; exact line6 hl)
  obtain ⟨j, rfl⟩ := Int.eq_ofNat_of_zero_le h0
  rw [slicePick_from']
  exact P2.pushL (H2.push _) (by simpa using (r.keep (TupKeep.push _ _)).drop j)

theorem n_sufT {a b : PE} {o i : Expr} {p3 pos : Pos} {j : Int} {xs : List PyData} (S : Snd prog w hB mg n) (R : Room A n) (K : EnvOk env) (ia : IsE env.scope.names a o) (ib : IsE env.scope.names b i)
    (ha : evE fns n vs st a = some (.d (.tuple xs), st1)) (hb : evE fns n vs st1 b = some (.d (.int j), st2)) (h1j : 1 ≤ j) (hj : j ≤ xs.length) (hl : xs.length ≤ 1000000) :
    Sw prog w hB A env vs st (eval (.Subscript o (.Slice (some i) none none p3) pos) env) (fun ρ h u => RV hB ρ h u (.d (.tuple (xs.drop j.toNat)))) st2 := by
  intro s ρ Q E H V P
  refine Subscript_ (S.e R K ia ha s ρ _ E H V fun u h1 tk ρ1 H1 X1 r1 => ?_)
  refine wpAny_Slice ?_
  refine S.e R K ib hb _ _ _ E H1 (V.ext H X1) fun v h2 tk2 ρ2 H2 X2 r2 => ?_
  refine wpAny_pure (wpAny_pure ?_)
  obtain ⟨a, ws, rfl, ht, r⟩ := (r1.ext X2).tup_inv
  obtain ⟨t, rfl⟩ := r2.int_inv
  obtain ⟨j, rfl⟩ := Int.eq_ofNat_of_zero_le (show 0 ≤ j by omega)
  obtain ⟨ops, he⟩ := sub_ops (.Slice (some i) none none p3) (.ref a) (.ref h2.objs.size)
  have P2 := ((P.after (tk := tk) X1).after (tk := tk2) X2).obj { cls := .type "slice", data := .fields #[.int j t, .none, .none] } tk2
  have ht2 := ht.keeps (h' := h2.push { cls := .type "slice", data := .fields #[.int j t, .none, .none] }) fun _ _ e => Heap.get?_push_of_some _ e
  refine tail_any (s := { s with heap := h2.push { cls := .type "slice", data := .fields #[.int j t, .none, .none] }, toks := tk2 }) ht2.typeIs slot_tuple_getitem.lookup ?_ he
  refine getItem_tuple_from ht2 (Heap.IsSliceOf.new ..) (by omega) (by rw [r.size]; omega) ?_ (by rw [r.size]; exact line6 hl)
  exact P2.pushT (H2.push _) (by simpa using (r.keep (TupKeep.push _ _)).drop j)

/-! ### tests -/
theorem n_not {a : PE} {x : Expr} {pos : Pos} {whole : Sem Value} {c : Bool} (S : Snd prog w hB mg n) (R : Room A n) (K : EnvOk env) (ia : IsE env.scope.names a x) (ha : evT fns n vs st a = some (c, st1)) :
    Sw prog w hB A env vs st (isTrue (.UnaryOp .Not x pos) env whole) (fun _ _ d => d = !c) st1 := by
  intro s ρ Q E H V P
  exact isTrue_not (S.t R K ia ha s ρ _ E H V fun d h1 tk ρ1 H1 X1 r1 => (P.after (tk := tk) X1).same' H1 (by rw [r1]))
theorem n_and {a b : PE} {x y : Expr} {pos : Pos} {whole : Sem Value} {c : Bool} (S : Snd prog w hB mg n) (R : Room A n) (K : EnvOk env) (ia : IsE env.scope.names a x) (ib : IsE env.scope.names b y)
    (h : (match evT fns n vs st a with
      | some (true, st1) => evT fns n vs st1 b
      | some (false, st1) => some (false, st1)
      | none => none) = some (c, st2)) :
    Sw prog w hB A env vs st (isTrue (.BoolOp .And [x, y] pos) env whole) (fun _ _ d => d = c) st2 := by
  intro s ρ Q E H V P
  cases ha : evT fns n vs st a with
  | none => rw [ha] at h; cases h
  | some q =>
    obtain ⟨d, st1⟩ := q
    rw [ha] at h
    refine isTrue_and (S.t R K ia ha s ρ _ E H V fun d' h1 tk ρ1 H1 X1 r1 => ?_)
    subst r1
    cases d' with
    | true =>
      simp only [if_true]
      refine isTrue_and (S.t R K ib h _ _ _ E H1 (V.ext H X1) fun d h2 tk2 ρ2 H2 X2 r2 => ?_)
      have P2 := (P.after (tk := tk) X1).after (tk := tk2) X2
      subst r2
      cases d with
      | true => simp only [if_true]; exact isTrue_and_nil (P2.same' H2 rfl)
      | false => exact P2.same' H2 rfl
    | false => cases h; exact (P.after (tk := tk) X1).same' H1 rfl
theorem n_or {a b : PE} {x y : Expr} {pos : Pos} {whole : Sem Value} {c : Bool} (S : Snd prog w hB mg n) (R : Room A n) (K : EnvOk env) (ia : IsE env.scope.names a x) (ib : IsE env.scope.names b y)
    (h : (match evT fns n vs st a with
      | some (true, st1) => some (true, st1)
      | some (false, st1) => evT fns n vs st1 b
      | none => none) = some (c, st2)) :
    Sw prog w hB A env vs st (isTrue (.BoolOp .Or [x, y] pos) env whole) (fun _ _ d => d = c) st2 := by
  intro s ρ Q E H V P
  cases ha : evT fns n vs st a with
  | none => rw [ha] at h; cases h
  | some q =>
    obtain ⟨d, st1⟩ := q
    rw [ha] at h
    refine isTrue_or (S.t R K ia ha s ρ _ E H V fun d' h1 tk ρ1 H1 X1 r1 => ?_)
    subst r1
    cases d' with
    | false =>
      simp only [Bool.false_eq_true, if_false]
      refine isTrue_or (S.t R K ib h _ _ _ E H1 (V.ext H X1) fun d h2 tk2 ρ2 H2 X2 r2 => ?_)
      have P2 := (P.after (tk := tk) X1).after (tk := tk2) X2
      subst r2
      cases d with
      | false => simp only [Bool.false_eq_true, if_false]; exact isTrue_or_nil (P2.same' H2 rfl)
      | true => exact P2.same' H2 rfl
    | true => cases h; exact (P.after (tk := tk) X1).same' H1 rfl
theorem n_or3 {a b d : PE} {x y z : Expr} {pos : Pos} {whole : Sem Value} {c : Bool} {m : Nat} (S : Snd prog w hB mg n) (S' : Snd prog w hB mg m) (R : Room A n) (hm : m ≤ n) (K : EnvOk env) (ia : IsE env.scope.names a x) (ib : IsE env.scope.names b y) (id : IsE env.scope.names d z)
    (h : (match evT fns n vs st a with
      | some (true, st1) => some (true, st1)
      | some (false, st1) => (match evT fns m vs st1 b with
          | some (true, st1) => some (true, st1)
          | some (false, st1) => evT fns m vs st1 d
          | none => none)
      | none => none) = some (c, st2)) :
    Sw prog w hB A env vs st (isTrue (.BoolOp .Or [x, y, z] pos) env whole) (fun _ _ d => d = c) st2 := by
  intro s ρ Q E H V P
  cases ha : evT fns n vs st a with
  | none => rw [ha] at h; cases h
  | some q =>
    obtain ⟨d, st1⟩ := q
    rw [ha] at h
    refine isTrue_or (S.t R K ia ha s ρ _ E H V fun d' h1 tk ρ1 H1 X1 r1 => ?_)
    subst r1
    cases d' with
    | false =>
      simp only [Bool.false_eq_true, if_false]
      exact n_or S' (R.le hm) K ib id h _ _ Q E H1 (V.ext H X1) (P.after (tk := tk) X1)
    | true => cases h; exact (P.after (tk := tk) X1).same' H1 rfl
end
end Mine
end

/-! # M12 -/
section
open PySem PySem.W PyProof.Rows
namespace Mine

/-- all objects of a heap but the one at L -/
noncomputable def ledger (h : Heap) (L : Addr) : List (Addr × Obj) := (List.range h.objs.size).filterMap fun a => if a = L then none else (h.get? a).map fun o => (a, o)
theorem mem_ledger {h : Heap} {L a : Addr} {o : Obj} : (a, o) ∈ ledger h L ↔ h.get? a = some o ∧ a ≠ L := by
  unfold ledger
  rw [List.mem_filterMap]
  constructor
  · rintro ⟨b, hb, e⟩
    split at e
    · cases e
    · rename_i hne
      cases q : h.get? b with
      | none => rw [q] at e; cases e
      | some o' => rw [q] at e; cases e; exact ⟨q, hne⟩
  · rintro ⟨e, hne⟩
    exact ⟨a, List.mem_range.mpr (Heap.lt_size e), by rw [if_neg hne, e]; rfl⟩
noncomputable def h0 : Heap := { objs := #[] }
theorem h0_none (a : Addr) : h0.get? a = none := by
  cases q : h0.get? a with
  | none => rfl
  | some o => exact absurd (Heap.lt_size q) (Nat.not_lt_zero _)
theorem ledger_news (h : Heap) (L : Addr) : News h0 L h (ledger h L) := fun p hp => by
  obtain ⟨a, o⟩ := p
  obtain ⟨e, hne⟩ := mem_ledger.mp hp
  exact ⟨e, hne, h0_none a⟩
theorem fr0 {h : Heap} {L : Addr} {m : Str → Option Value} (n : h.Ns L m) : Fr h0 L h m := ⟨n, fun b o e => by rw [h0_none] at e; (cases e), Nat.zero_le _⟩

section
variable {prog : Program} {w : World} {hB : Heap} {mg mb : Str → Option Value} {A : Around} {env : Env} {vs : Vars} {st st' st1 st2 : Store} {n : Nat} {v : V} {e : Expr} {s : Shared} {ρ : List Addr} {E : Value → Shared → Prop} {L : Addr}

theorem ns_no_seq {h : Heap} {L : Addr} {m : Str → Option Value} (n : h.Ns L m) {o : Obj} {vs : Array Value} {k : Nat} (e : h.get? L = some o) (d : o.data = .seq vs k) : False := by
  obtain ⟨o', es, ep, ho, hd, _⟩ := n
  rw [e] at ho; cases ho; rw [d] at hd; cases hd
/-- a heap that keeps all but the names' dict, whose meaning stays; a new list in it -/
theorem Post.newLL {Q : Value → Shared → Prop} {xs : List PyData} {h' : Heap} {D : Addr} {ws : Array Value} {m : Str → Option Value} (P : Post hB ρ L s (st ++ [xs]) (fun ρ h u => RV hB ρ h u (.l st.length)) Q) (H : HOk hB ρ st s.heap)
    (hn : s.heap.Ns L m) (hB0 : hB.get? L = none) (hk : ∀ a o, s.heap.get? a = some o → a ≠ L → h'.get? a = some o) (hn' : h'.Ns L m) (hD : s.heap.get? D = none) (p : h'.PlainList D ws) (r : RIs s.heap ws.toList xs) (tk : Nat) : Q (.ref D) { s with heap := h', toks := tk } := by
  have hL : L ∉ ρ := H.ns_off hn
  have tup : TupKeep s.heap h' := fun a o e c => by
    by_cases q : a = L
    · subst q; obtain ⟨_, vs, k, d⟩ := c; exact (ns_no_seq hn e d).elim
    · exact hk a o e q
  have H2 : HOk hB (ρ ++ [D]) (st ++ [xs]) h' := by
    refine ⟨fun a o e => ?_, by simp [H.len], fun i a ys e1 e2 => ?_, ?_, fun a ha => ?_⟩
    · by_cases q : a = L
      · subst q; rw [hB0] at e; cases e
      · exact hk a o (H.base a o e) q
    · by_cases hi : i < ρ.length
      · rw [List.getElem?_append_left hi] at e1
        rw [List.getElem?_append_left (H.len ▸ hi)] at e2
        obtain ⟨ws, q, t⟩ := H.lists i a ys e1 e2
        exact ⟨ws, q.at fun o e => hk a o e fun z => hL (z ▸ List.mem_of_getElem? e1), t.keep tup⟩
      · have hi' : ρ.length ≤ i := Nat.not_lt.mp hi
        rw [List.getElem?_append_right hi'] at e1
        rw [List.getElem?_append_right (H.len ▸ hi')] at e2
        have h0 : i - ρ.length = 0 := by
          cases q : i - ρ.length with
          | zero => rfl
          | succ k => rw [q] at e1; simp at e1
        rw [h0] at e1
        rw [← H.len, h0] at e2
        simp at e1 e2
        subst e1 e2
        exact ⟨ws, p, r.keep tup⟩
    · rw [List.nodup_append]
      exact ⟨H.nodup, by simp, fun a ha b hb q => by
        rw [List.mem_singleton.mp hb] at q
        obtain ⟨o, e⟩ := H.live ha
        rw [q, hD] at e; cases e⟩
    · rcases List.mem_append.mp ha with hm | hm
      · exact H.fresh a hm
      · rw [List.mem_singleton.mp hm]; exact H.base_none hD
  refine P _ _ tk [D] H2 ⟨fun a o e _ hne => hk a o e hne, fun m' n => ?_, tup, fun a o e => ?_, fun a ha => by rw [List.mem_singleton.mp ha]; exact hD⟩ (.l (by rw [← H.len]; simp))
  · have : m' = m := by funext x; exact n.agree hn x
    exact this ▸ hn'
  · by_cases q : a = L
    · subst q; obtain ⟨o', _, _, ho', _⟩ := hn'; exact ⟨o', ho'⟩
    · exact ⟨o, hk a o e q⟩

theorem star_eq {N : Names} {p : PE} {x : Expr} (i : IsE N p x) (hp : p ≠ .no) (env : Env) (rest : List Expr) : starEach (x :: rest) env = (false, eval x env) :: starEach rest env := by
  rcases noStar i env rest with h | h
  · exact h
  · exact absurd h hp

/-- one argument -/
theorem one_arg {a : PE} {x : Expr} {u : V} {pos : Pos} (S : Snd prog w hB mg n) (R : Room A n) (K : EnvOk env) (i : IsE env.scope.names a x) (ha : evE fns n vs st a = some (u, st1)) :
    Sw prog w hB A env vs st (spliced (backTo pos (starEach [x] env))) (fun ρ h us => ∃ y, us = [y] ∧ RV hB ρ h y u) st1 := by
  intro s ρ Q E H V P
  refine args_cons (S.e R K i ha s ρ _ E H V fun y h1 tk ρ1 H1 X1 r1 => args_nil (P _ h1 tk ρ1 H1 X1 ⟨y, rfl, r1⟩)) (star_eq i (fun q => evE_no (q ▸ ha)) env [])
end
end Mine
end

/-! # M13 -/
section
open PySem PySem.W PyProof.Rows
namespace Mine

section
variable {prog : Program} {w : World} {hB : Heap} {mg mb : Str → Option Value} {A : Around} {env : Env} {vs : Vars} {st st' st1 st2 : Store} {n : Nat} {v : V} {e : Expr} {s : Shared} {ρ : List Addr} {E : Value → Shared → Prop} {L : Addr}

theorem n_call {f : Nat} {es : List PE} {xs : List Expr} {us : List V} {p1 pos : Pos} (T : TopF mg mb hB) (S : Snd prog w hB mg n) (R : Room A n) (K : EnvOk env) (hf : f < 14) (hg : glob env.scope.names (fnm f)) (i : IsEs env.scope.names es xs) (hne : xs ≠ [])
    (h1 : evEs fns n vs st es = some (us, st1)) (h2 : evF fns n f us st1 = some (v, st2)) :
    Sw prog w hB A env vs st (eval (.Call (.Name (fnm f) p1) xs [] pos) env) (fun ρ h u => RV hB ρ h u v) st2 := by
  intro s ρ Q E H V P
  obtain ⟨a, o, pm, cd, doc, hm, ho, hd, hc⟩ := T.fn f hf
  refine Call_Name rfl (sw_global K T.g hm hg (fnm_debug f) H.base ?_)
  cases i with
  | nil => exact absurd rfl hne
  | cons ix ixs =>
    rename_i p ps x rest
    have hp : p ≠ .no := fun q => by
      subst q
      cases n with
      | zero => simp [evEs] at h1
      | succ n =>
        cases n with
        | zero => simp [evEs, evE] at h1
        | succ n => simp [evEs, evE] at h1
    refine callWith_def hd ?_ (star_eq ix hp env rest)
    refine S.es pos R K (.cons ix ixs) h1 s ρ _ E H V fun us' h1' tk ρ1 H1 X1 r1 => ⟨H1.base _ _ ho, ?_⟩
    refine S.f R hf hm h2 _ _ _ Q E H1 r1 fun u h2' tk2 ρ2 H2 X2 r2 => ?_
    obtain ⟨m, hn⟩ := V.ns
    have hL : env.locals ∉ ρ ++ ρ1 := H1.ns_off (X1.ns m hn)
    exact P.after (tk := tk) X1 u h2' tk2 ρ2 H2 (X2.ext hL) r2

theorem int_small {k : Nat} (h : k ≤ 1000000) : (k : Int) < 2 ^ 63 := by omega

theorem isList_of {h : Heap} {u : Value} {xs : List PyData} (H : HOk hB ρ st h) (r : RV hB ρ h u v) (e : listOf? st v = some xs) : ∃ a ws, u = .ref a ∧ h.IsList a ws ∧ RIs h ws.toList xs := by
  cases r with
  | d r => cases e
  | l q =>
    obtain ⟨ws, ⟨k, p⟩, r⟩ := H.plain q e
    exact ⟨_, ws, rfl, ⟨_, p, rfl, k, rfl⟩, r⟩
  | fz p r =>
    cases e
    obtain ⟨o, ho, hc, k, hd⟩ := p
    exact ⟨_, _, rfl, ⟨o, H.base _ _ ho, hc, k, hd⟩, r.keep fun a o e _ => H.base a o e⟩

theorem TopF.blt (T : TopF mg mb hB) {x : Str} {b : Value} (h : (x, b) ∈ [(("len" : Str), Value.builtin "len"), ("repr", .builtin "repr"), ("sorted", .builtin "sorted"), ("list", .type "list"), ("tuple", .type "tuple"), ("int", .type "int"), ("range", .type "range")]) : mg x = none ∧ mb x = some b := T.bi _ h

theorem n_len {a : PE} {x : Expr} {u : V} {xs : List PyData} {p1 pos : Pos} (T : TopF mg mb hB) (S : Snd prog w hB mg n) (R : Room A n) (K : EnvOk env) (hg : glob env.scope.names "len") (i : IsE env.scope.names a x)
    (ha : evE fns n vs st a = some (u, st1)) (hx : listOf? st1 u = some xs) (hl : xs.length ≤ 1000000) :
    Sw prog w hB A env vs st (eval (.Call (.Name "len" p1) [x] [] pos) env) (fun ρ h u => RV hB ρ h u (.d (.int xs.length))) st1 := by
  intro s ρ Q E H V P
  have tb := T.blt (x := "len") (b := .builtin "len") (by simp)
  refine Call_Name rfl (sw_builtin K T.g tb.1 T.b tb.2 hg (by decide +kernel) H.base ?_)
  refine PyProof.Rows.callWith_builtin1 (one_arg S R K i ha s ρ _ E H V fun us h1 tk ρ1 H1 X1 r1 => ?_) (star_eq i (fun q => evE_no (q ▸ ha)) env []) rfl
  obtain ⟨y, rfl, r1⟩ := r1
  obtain ⟨l, ws, rfl, hl', r⟩ := isList_of H1 r1 hx
  have P1 := P.after (tk := tk) X1
  rw [← r.size] at P1 hl
  exact Calls.call_len_list hl' (int_small hl) (P1.same H1 (.d (.int _ _)) _)

theorem n_list {a : PE} {x : Expr} {u : V} {xs : List PyData} {p1 pos : Pos} (T : TopF mg mb hB) (S : Snd prog w hB mg n) (R : Room A n) (K : EnvOk env) (hg : glob env.scope.names "list") (i : IsE env.scope.names a x)
    (ha : evE fns n vs st a = some (u, st1)) (hx : itemsOf st1 u = some xs) (hl : xs.length ≤ 1000000) :
    Sw prog w hB A env vs st (eval (.Call (.Name "list" p1) [x] [] pos) env) (fun ρ h u => RV hB ρ h u (.l st1.length)) (st1 ++ [xs]) := by
  intro s ρ Q E H V P
  have tb := T.blt (x := "list") (b := .type "list") (by simp)
  refine Call_Name rfl (sw_builtin K T.g tb.1 T.b tb.2 hg (by decide +kernel) H.base ?_)
  refine PyProof.Rows.callWith_type1 (one_arg S R K i ha s ρ _ E H V fun us h1 tk ρ1 H1 X1 r1 => ?_) (star_eq i (fun q => evE_no (q ▸ ha)) env []) rfl
  obtain ⟨y, rfl, r1⟩ := r1
  obtain ⟨l, ws, rfl, hl', r⟩ := itemsOf_at H1 r1 hx
  have P1 := P.after (tk := tk) X1
  have fin : ∀ (h' : Heap) (c' : Nat), (∀ (b : Addr) (o' : Obj), h1.get? b = some o' → h'.get? b = some o') → h'.get? h1.objs.size = some { cls := Value.type "list", data := Data.seq ws c' } → Q (Value.ref h1.objs.size) { s with heap := h', toks := tk } := fun h' c' hk hD =>
    P1.newL (s := { s with heap := h1, toks := tk }) H1 hk (size_none _) ⟨c', hD⟩ r tk
  have hz : ws.size ≤ sizeLine := by rw [r.size]; exact line6 hl
  rcases hl' with ⟨o, ho, hc, k, hd⟩ | ⟨o, ho, hc, k, hd⟩
  · exact call_list_seq l (.inr rfl) ho hc hd fin hz
  · exact call_list_seq l (.inl rfl) ho hc hd fin hz

theorem n_tuple {a : PE} {x : Expr} {j : Nat} {xs : List PyData} {p1 pos : Pos} (T : TopF mg mb hB) (S : Snd prog w hB mg n) (R : Room A n) (K : EnvOk env) (hg : glob env.scope.names "tuple") (i : IsE env.scope.names a x)
    (ha : evE fns n vs st a = some (.l j, st1)) (hx : st1[j]? = some xs) (hl : xs.length ≤ 1000000) :
    Sw prog w hB A env vs st (eval (.Call (.Name "tuple" p1) [x] [] pos) env) (fun ρ h u => RV hB ρ h u (.d (.tuple xs))) st1 := by
  intro s ρ Q E H V P
  have tb := T.blt (x := "tuple") (b := .type "tuple") (by simp)
  refine Call_Name rfl (sw_builtin K T.g tb.1 T.b tb.2 hg (by decide +kernel) H.base ?_)
  refine PyProof.Rows.callWith_type1 (one_arg S R K i ha s ρ _ E H V fun us h1 tk ρ1 H1 X1 r1 => ?_) (star_eq i (fun q => evE_no (q ▸ ha)) env []) rfl
  obtain ⟨y, rfl, r1⟩ := r1
  obtain ⟨l, ws, rfl, hl', r⟩ := isList_of (v := .l j) H1 r1 hx
  have P1 := P.after (tk := tk) X1
  refine call_tuple_list hl' (fun h' hk => ?_) (by rw [r.size]; exact line6 hl)
  have H2 : HOk hB (ρ ++ ρ1) st1 (h'.push { cls := .type "tuple", data := .seq ws }) := by
    refine HOk.push ⟨fun a o e => hk a o (H1.base a o e), H1.len, fun i a xs e1 e2 => ?_, H1.nodup, H1.fresh⟩ _
    obtain ⟨vs, p, r⟩ := H1.lists i a xs e1 e2
    exact ⟨vs, p.at fun o e => hk a o e, r.keep fun a o e _ => hk a o e⟩
  have X2 : Ext (ρ ++ ρ1) [] env.locals h1 (h'.push { cls := .type "tuple", data := .seq ws }) :=
    ⟨fun a o e _ _ => Heap.get?_push_of_some _ (hk a o e), fun m n => n.keeps fun a o e => Heap.get?_push_of_some _ (hk a o e), fun a o e _ => Heap.get?_push_of_some _ (hk a o e), fun a o e => ⟨o, Heap.get?_push_of_some _ (hk a o e)⟩, fun a ha => nomatch ha⟩
  refine P1 _ _ tk [] (by rw [List.append_nil]; exact H2) X2 (.d (.tuple (Heap.get?_push_size _ rfl) rfl rfl (r.keep fun a o e _ => Heap.get?_push_of_some _ (hk a o e))))

theorem n_int {a : PE} {x : Expr} {b : Bool} {p1 pos : Pos} (T : TopF mg mb hB) (S : Snd prog w hB mg n) (R : Room A n) (K : EnvOk env) (hg : glob env.scope.names "int") (i : IsE env.scope.names a x)
    (ha : evE fns n vs st a = some (.d (.bool b), st1)) :
    Sw prog w hB A env vs st (eval (.Call (.Name "int" p1) [x] [] pos) env) (fun ρ h u => RV hB ρ h u (.d (.int (if b then 1 else 0)))) st1 := by
  intro s ρ Q E H V P
  have tb := T.blt (x := "int") (b := .type "int") (by simp)
  refine Call_Name rfl (sw_builtin K T.g tb.1 T.b tb.2 hg (by decide +kernel) H.base ?_)
  refine PyProof.Rows.callWith_type1 (one_arg S R K i ha s ρ _ E H V fun us h1 tk ρ1 H1 X1 r1 => ?_) (star_eq i (fun q => evE_no (q ▸ ha)) env []) rfl
  obtain ⟨y, rfl, r1⟩ := r1
  have P1 := P.after (tk := tk) X1
  have := r1.bool_inv
  subst this
  exact call_int_bool (P1.same H1 (.d (.int _ _)) _)

theorem Post.kept {α : Type} {R : List Addr → Heap → α → Prop} {Q : α → Shared → Prop} (P : Post hB ρ L s st R Q) (H : HOk hB ρ st s.heap) {h' : Heap} (hk : ∀ a o, s.heap.get? a = some o → h'.get? a = some o) {a : α} (tk : Nat) (r : R ρ h' a) : Q a { s with heap := h', toks := tk } := by
  have H2 : HOk hB ρ st h' := by
    refine ⟨fun a o e => hk a o (H.base a o e), H.len, fun i a xs e1 e2 => ?_, H.nodup, H.fresh⟩
    obtain ⟨vs, p, r⟩ := H.lists i a xs e1 e2
    exact ⟨vs, p.at fun o e => hk a o e, r.keep fun a o e _ => hk a o e⟩
  exact P a h' tk [] (by rw [List.append_nil]; exact H2) ⟨fun a o e _ _ => hk a o e, fun m n => n.keeps hk, fun a o e _ => hk a o e, fun a o e => ⟨o, hk a o e⟩, fun a ha => nomatch ha⟩ (by rw [List.append_nil]; exact r)

theorem n_repr {a : PE} {x : Expr} {d : PyData} {p1 pos : Pos} (T : TopF mg mb hB) (S : Snd prog w hB mg n) (R : Room A n) (K : EnvOk env) (hg : glob env.scope.names "repr") (i : IsE env.scope.names a x)
    (ha : evE fns n vs st a = some (.d d, st1)) (hd : reprOk d = true) :
    Sw prog w hB A env vs st (eval (.Call (.Name "repr" p1) [x] [] pos) env) (fun ρ h u => RV hB ρ h u (.d (.str d.shown))) st1 := by
  intro s ρ Q E H V P
  have tb := T.blt (x := "repr") (b := .builtin "repr") (by simp)
  refine Call_Name rfl (sw_builtin K T.g tb.1 T.b tb.2 hg (by decide +kernel) H.base ?_)
  refine PyProof.Rows.callWith_builtin1 (one_arg S R K i ha s ρ _ E H V fun us h1 tk ρ1 H1 X1 r1 => ?_) (star_eq i (fun q => evE_no (q ▸ ha)) env []) rfl
  obtain ⟨y, rfl, r1⟩ := r1
  have P1 := P.after (tk := tk) X1
  unfold reprOk at hd
  split at hd
  · simp only [Bool.and_eq_true, decide_eq_true_eq, Bool.not_eq_true'] at hd
    obtain ⟨⟨⟨h1', h2'⟩, h3'⟩, h4'⟩ := hd
    cases r1 with | d r1 =>
    obtain ⟨l, ws, rfl, ht, r⟩ := id r1.at
    refine repr_of_reads' (h₀ := h1) r1.reads h1' (fun q => by rw [h2'] at q; cases q) R.guards (by have := R.units; omega) (fun _ _ e => e) (fun h' u tk2 hk => ?_) h4'
    exact P1.kept (s := { s with heap := h1, toks := tk }) H1 hk tk2 (.d (.str _ _))
  · cases hd
end
end Mine
end

/-! # M14 -/
section
open PySem PySem.W PyProof.Rows
namespace Mine

open PySem.MeetsSeq AutoSeq1 in
theorem list_extend_tup (l : Addr) (items : Array Value) (n : Nat) (b : Addr) (items2 : Array Value) (n2 : Nat) (dd : Option Addr) (sl : Array (Option Value)) (hs0 : ¬(!items.isEmpty && Builtin.List.listTooLong (items.size + items2.size)) = true) (hs1 : items.size ≤ sizeLine) (hs2 : items.size + items2.size ≤ sizeLine + 1) :
    Meets (Builtin.«list.extend» ⟨[.ref l, .ref b], []⟩) (fun _ R s => s.heap.get? l = some { cls := .type "list", dict := none, data := .seq items n, slots := #[] } ∧ s.heap.get? b = some { cls := .type "tuple", dict := dd, data := .seq items2 n2, slots := sl } ∧ R (.ok (.ret Value.none)) { s with heap := s.heap.update l (Obj.mapSeq fun x => x ++ items2), toks := s.toks }) :=
  .of_wp fun prog w A R s h => by
    obtain ⟨hp, g, d, tk, os⟩ := s
    obtain ⟨hl, hb, h⟩ := h
    have f2 := AutoSeq1.sub_tuple_tuple; have f3 := AutoSeq1.sub_list_list; have f4 := AutoSeq1.sub_tuple_list; have f5 := AutoSeq1.sub_list_tuple
    have hz' : (items ++ items2).size ≤ sizeLine + 1 := by rw [Array.size_append]; exact hs2
    wp_walk using (wpAny_updateSeq hl rfl (hz := hs1) (_hz' := hz')), wpAny_loadPart' hl, wpAny_loadPart' hb
    exact ⟨_, rfl, h⟩

section
variable {prog : Program} {w : World} {hB : Heap} {mg mb : Str → Option Value} {A : Around} {env : Env} {vs : Vars} {st st' st1 st2 : Store} {n : Nat} {v : V} {e : Expr} {s : Shared} {ρ : List Addr} {E : Value → Shared → Prop} {L : Addr}

theorem meth_eq {o : Expr} {name : Str} {apos pos : Pos} {args : List Expr} (hl : (apos.endLine == pos.line) = true) (hf : methodCallForm (args.length + 0) (backTo pos (starEach args env)) [] = true)
    (hb : attributeBase o name env (eval o env) = eval o env) : ∃ pl : Sem Bool, eval (.Call (.Attribute o name apos) args [] pos) env = (do
      let ov ← eval o env
      standAt apos.atName
      let (f, first) ← holding [ov] (getMethod ov name pl)
      callWith pos f first (backTo pos (starEach args env)) []) := by
  refine ⟨(do return (← importBound o env).getD true), ?_⟩
  rw [arm_eval_Call, hb]
  have hk : backToKw pos (keywordEach [] env) = [] := rfl
  have hp : methodCallPos true o env apos pos = pure pos := by
    unfold methodCallPos; simp [hl]
  unfold methodCall
  simp only [hk, List.length_nil]
  rw [hf, hp]
  rfl

theorem Post.setL {α : Type} {R : List Addr → Heap → α → Prop} {Q : α → Shared → Prop} {i : Nat} {a : Addr} {ws : Array Value} {xs : List PyData} {h' : Heap} {m : Str → Option Value} (P : Post hB ρ L s (st.set i xs) R Q) (H : HOk hB ρ st s.heap) (hn : s.heap.Ns L m)
    (e : ρ[i]? = some a) (hs : Heap.SameBut a s.heap h') (p : h'.PlainList a ws) (r : RIs s.heap ws.toList xs) {x : α} (tk : Nat) (rx : TupKeep s.heap h' → R ρ h' x) : Q x { s with heap := h', toks := tk } := by
  rcases H.set (L := L) e hs p r with ⟨H2, X⟩ | hL
  · exact P x h' tk [] (by rw [List.append_nil]; exact H2) X (by rw [List.append_nil]; exact rx X.tup)
  · subst hL
    exact absurd (List.mem_of_getElem? e) (H.ns_off hn)

theorem mapSeq_plain (f : Array Value → Array Value) (its : Array Value) (n : Nat) : ∃ k, Obj.mapSeq f { cls := .type "list", data := .seq its n } = { cls := .type "list", data := .seq (f its) k } := ⟨_, rfl⟩
theorem upd_plain {h : Heap} {a : Addr} {its : Array Value} (p : h.PlainList a its) (f : Array Value → Array Value) : (h.update a (Obj.mapSeq f)).PlainList a (f its) := by
  obtain ⟨n, ho⟩ := p
  obtain ⟨k, hk⟩ := mapSeq_plain f its n
  exact ⟨k, by rw [Heap.get?_update_self _ ho (by rw [hk]; rfl), hk]⟩

theorem n_pop {i : Nat} {x : Str} {j : Nat} {xs : List PyData} {y : PyData} {p1 ap pos : Pos} (S : Snd prog w hB mg n) (R : Room A n) (K : EnvOk env) (hl : (ap.endLine == pos.line) = true) (ia : IsE env.scope.names (.v i) (.Name x p1))
    (ha : evE fns n vs st (.v i) = some (.l j, st1)) (hx : st1[j]? = some xs) (hy : xs.getLast? = some y) (hz : xs.length ≤ 1000000) :
    Sw prog w hB A env vs st (eval (.Call (.Attribute (.Name x p1) "pop" ap) [] [] pos) env) (fun ρ h u => RV hB ρ h u (.d y)) (st1.set j xs.dropLast) := by
  intro s ρ Q E H V P
  obtain ⟨pl, he⟩ := meth_eq (o := .Name x p1) (name := "pop") (args := []) (env := env) hl rfl rfl
  refine MethodCall_ (S.e R K ia ha s ρ _ E H V fun u h1 tk ρ1 H1 X1 r1 => ?_) he
  obtain ⟨a, rfl, ea⟩ := r1.lst_inv
  obtain ⟨ws, p, r⟩ := H1.plain ea hx
  obtain ⟨k, ho⟩ := id p
  refine getMethod_list_of PySem.F.slot_list_pop PySem.F.type_list_pop ⟨_, ho, rfl, k, rfl⟩ ⟨_, ho, rfl⟩ ?_
  have hne : xs ≠ [] := fun q => by subst q; cases hy
  have hxs : xs.dropLast ++ [y] = xs := by
    rw [List.getLast?_eq_some_getLast hne] at hy
    cases hy
    exact List.dropLast_concat_getLast hne
  obtain ⟨ws', z, hws, rws, rz⟩ := RIs.snoc_inv (h := h1) (vs := ws.toList) (ds := xs.dropLast) (d := y) (by rw [hxs]; exact r)
  have hsz : ws.size = ws'.length + 1 := by rw [← Array.length_toList, hws]; simp
  have hw : ws = (ws' ++ [z]).toArray := by rw [← hws]
  obtain ⟨m, hn⟩ := V.ns
  refine PySem.P.pop_list (y := z) ho (by subst hw; simp) ?_ (by rw [r.size]; exact line6 hz)
  have P1 := P.after (tk := tk) X1
  refine P1.setL (s := { s with heap := h1, toks := tk }) (i := j) H1 (X1.ns m hn) ea (Heap.SameBut.update ..) (upd_plain p _) ?_ tk fun tk' => .d (rz.keep tk')
  subst hw
  have : ((ws' ++ [z]).toArray.eraseIdxIfInBounds ((ws' ++ [z]).toArray.size - 1)).toList = ws' := by
    simp [Array.eraseIdxIfInBounds]
    rw [List.eraseIdx_append_of_length_le (Nat.le_refl _)]
    simp
  show RIs h1 ((ws' ++ [z]).toArray.eraseIdxIfInBounds ((ws' ++ [z]).toArray.size - 1)).toList _
  rw [this]
  exact rws

theorem one_form {p : PE} {y : Expr} {pos : Pos} (i : IsE env.scope.names p y) (hp : p ≠ .no) : methodCallForm ([y].length + 0) (backTo pos (starEach [y] env)) [] = true := by
  rw [star_eq i hp env []]; rfl

theorem n_extend {i : Nat} {e : PE} {x : Str} {y : Expr} {j : Nat} {xs ys : List PyData} {p1 ap pos : Pos} (S : Snd prog w hB mg n) (R : Room A n) (K : EnvOk env) (hl : (ap.endLine == pos.line) = true) (ia : IsE env.scope.names (.v i) (.Name x p1)) (ib : IsE env.scope.names e y)
    (ha : evE fns n vs st (.v i) = some (.l j, st1)) (hb : evE fns n vs st1 e = some (.d (.tuple ys), st2)) (hx : st2[j]? = some xs) (hz : xs.length + ys.length ≤ 1000000) :
    Sw prog w hB A env vs st (eval (.Call (.Attribute (.Name x p1) "extend" ap) [y] [] pos) env) (fun ρ h u => RV hB ρ h u (.d .none)) (st2.set j (xs ++ ys)) := by
  intro s ρ Q E H V P
  have hp : e ≠ .no := fun q => evE_no (q ▸ hb)
  obtain ⟨pl, he⟩ := meth_eq (o := .Name x p1) (name := "extend") (args := [y]) (env := env) hl (one_form ib hp) rfl
  refine MethodCall_ (S.e R K ia ha s ρ _ E H V fun u h1 tk ρ1 H1 X1 r1 => ?_) he
  obtain ⟨a, rfl, ea⟩ := r1.lst_inv
  obtain ⟨m, hn⟩ := V.ns
  obtain ⟨o, ho, hc, hdict, k', hdat⟩ : ∃ o, h1.get? a = some o ∧ o.cls = .type "list" ∧ o.dict = none ∧ ∃ its k, o.data = .seq its k := by
    obtain ⟨_, _, _, _, _, ⟨k, p⟩, _⟩ := H1.at (List.mem_of_getElem? ea)
    exact ⟨_, p, rfl, rfl, _, k, rfl⟩
  obtain ⟨k', hdat⟩ := hdat
  refine getMethod_list_of PySem.F.slot_list_extend PySem.F.type_list_extend ⟨o, ho, hc, k', hdat⟩ ⟨o, ho, hdict⟩ ?_
  refine PyProof.Rows.callWith_method1 (one_arg S R K ib hb { s with heap := h1, toks := tk } _ _ E H1 (V.ext H X1) fun us h2 tk2 ρ2 H2 X2 r2 => ?_) (star_eq ib hp env []) rfl
  obtain ⟨b, rfl, r2⟩ := r2
  obtain ⟨b, zs, rfl, ht, rb⟩ := r2.tup_inv
  have ea2 : (ρ ++ ρ1 ++ ρ2)[j]? = some a := by rw [List.getElem?_append_left (List.getElem?_eq_some_iff.mp ea).1]; exact ea
  obtain ⟨ws, p, r⟩ := H2.plain ea2 hx
  obtain ⟨k, hp2⟩ := id p
  have P2 := (P.after (tk := tk) X1).after (tk := tk2) X2
  have hsz : ws.size + zs.size ≤ 1000000 := by rw [r.size, rb.size]; exact hz
  obtain ⟨⟨bc, bd, bdat, bs⟩, hb1, hb2, kb, hb3⟩ := ht
  simp only at hb2 hb3
  subst hb2 hb3
  refine call_meets PySem.F.slot_list_extend ⟨_, hp2, rfl⟩ PySem.F.entry_list_extend (PySem.F.args_list_extend_2 _ _) (list_extend_tup a ws k b zs kb bd bs ?_ (line6 (by omega)) (by have := line6 hsz; omega)) ⟨hp2, hb1, ?_⟩
  · have h1 : Builtin.List.listTooLong (ws.size + zs.size) = false := by
      exact decide_eq_false (by have := line6 hsz; omega)
    rw [h1]; simp
  refine P2.setL (s := { s with heap := h2, toks := tk2 }) (i := j) H2 (X2.ns m (X1.ns m hn)) ea2 (Heap.SameBut.update ..) (upd_plain p _) ?_ tk2 fun tk' => .d .none
  show RIs h2 (ws ++ zs).toList _
  rw [Array.toList_append]
  exact r.append rb

theorem n_append {i : Nat} {e : PE} {x : Str} {y : Expr} {j : Nat} {xs : List PyData} {d : PyData} {p1 ap pos : Pos} (S : Snd prog w hB mg n) (R : Room A n) (K : EnvOk env) (hl : (ap.endLine == pos.line) = true) (ia : IsE env.scope.names (.v i) (.Name x p1)) (ib : IsE env.scope.names e y)
    (ha : evE fns n vs st (.v i) = some (.l j, st1)) (hb : evE fns n vs st1 e = some (.d d, st2)) (hx : st2[j]? = some xs) (hz : xs.length ≤ 1000000) :
    Sw prog w hB A env vs st (eval (.Call (.Attribute (.Name x p1) "append" ap) [y] [] pos) env) (fun ρ h u => RV hB ρ h u (.d .none)) (st2.set j (xs ++ [d])) := by
  intro s ρ Q E H V P
  have hp : e ≠ .no := fun q => evE_no (q ▸ hb)
  obtain ⟨pl, he⟩ := meth_eq (o := .Name x p1) (name := "append") (args := [y]) (env := env) hl (one_form ib hp) rfl
  refine MethodCall_ (S.e R K ia ha s ρ _ E H V fun u h1 tk ρ1 H1 X1 r1 => ?_) he
  obtain ⟨a, rfl, ea⟩ := r1.lst_inv
  obtain ⟨m, hn⟩ := V.ns
  obtain ⟨o, ho, hc, hdict, k', hdat⟩ : ∃ o, h1.get? a = some o ∧ o.cls = .type "list" ∧ o.dict = none ∧ ∃ its k, o.data = .seq its k := by
    obtain ⟨_, _, _, _, _, ⟨k, p⟩, _⟩ := H1.at (List.mem_of_getElem? ea)
    exact ⟨_, p, rfl, rfl, _, k, rfl⟩
  obtain ⟨k', hdat⟩ := hdat
  refine getMethod_list_of PySem.F.slot_list_append PySem.F.type_list_append ⟨o, ho, hc, k', hdat⟩ ⟨o, ho, hdict⟩ ?_
  refine PyProof.Rows.callWith_method1 (one_arg S R K ib hb { s with heap := h1, toks := tk } _ _ E H1 (V.ext H X1) fun us h2 tk2 ρ2 H2 X2 r2 => ?_) (star_eq ib hp env []) rfl
  obtain ⟨b, rfl, r2⟩ := r2
  have ea2 : (ρ ++ ρ1 ++ ρ2)[j]? = some a := by rw [List.getElem?_append_left (List.getElem?_eq_some_iff.mp ea).1]; exact ea
  obtain ⟨ws, p, r⟩ := H2.plain ea2 hx
  have P2 := (P.after (tk := tk) X1).after (tk := tk2) X2
  cases r2 with | d rb =>
  refine wpAny_list_append_plain p (fun h' hp' hs => ?_) (by rw [r.size]; exact line6 hz)
  refine P2.setL (s := { s with heap := h2, toks := tk2 }) (i := j) H2 (X2.ns m (X1.ns m hn)) ea2 hs hp' ?_ tk2 fun tk' => .d .none
  rw [Array.toList_push]
  exact r.append (.one rb)

theorem strsAre_of {h : Heap} : ∀ {ws : List Value} {xs : List PyData} {zs : List Str}, RIs h ws xs → strsOf xs = some zs → StrsAre ws zs
  | _, [], zs, r, e => by cases r; cases e; exact .nil
  | _, d :: xs, zs, r, e => by
    cases r with | cons a b =>
    cases d <;> try (cases e; done)
    rename_i z
    replace e : (strsOf xs).map (z :: ·) = some zs := e
    cases q : strsOf xs with
    | none => rw [q] at e; cases e
    | some ys =>
      rw [q] at e; cases e
      cases a
      exact .cons _ _ (strsAre_of b q)

theorem sum_le {zs : List Str} (h : (zs.all fun z => decide (z.length ≤ 1000)) = true) : (zs.map (·.length)).sum ≤ zs.length * 1000 := by
  induction zs with
  | nil => simp
  | cons z zs ih =>
    rw [List.all_cons, Bool.and_eq_true] at h
    have := ih h.2
    have h1 : z.length ≤ 1000 := by simpa using h.1
    simp only [List.map_cons, List.sum_cons, List.length_cons]
    omega

theorem n_join {e : PE} {sep : Str} {y : Expr} {j k : Nat} {xs : List PyData} {zs : List Str} {q ap pos : Pos} (S : Snd prog w hB mg n) (R : Room A n) (K : EnvOk env) (hl : (ap.endLine == pos.line) = true) (ib : IsE env.scope.names e y)
    (hb : evE fns n vs st e = some (.l j, st1)) (hx : st1[j]? = some xs) (hzs : strsOf xs = some zs) (hz : zs.length ≤ 1000) (hz2 : (zs.all fun z => decide (z.length ≤ 1000)) = true) (hsep : sep.length ≤ 10) :
    Sw prog w hB A env vs st (eval (.Call (.Attribute (.Constant (.str sep) k q) "join" ap) [y] [] pos) env) (fun ρ h u => RV hB ρ h u (.d (.str (Txt.join sep zs)))) st1 := by
  intro s ρ Q E H V P
  have hp : e ≠ .no := fun q => evE_no (q ▸ hb)
  obtain ⟨pl, he⟩ := meth_eq (o := .Constant (.str sep) k q) (name := "join") (args := [y]) (env := env) hl (one_form ib hp) rfl
  refine MethodCall_ (Calls.Constant_str ?_) he
  with_reducible refine GM.join ?_
  refine PyProof.Rows.callWith_method1 (one_arg S R K ib hb _ _ _ E H V (fun us h2 tk2 ρ2 H2 X2 r2 => ?_)) (star_eq ib hp env []) rfl
  obtain ⟨b, rfl, r2⟩ := r2
  obtain ⟨l, ws, rfl, hl', r⟩ := isList_of (v := .l j) H2 r2 hx
  refine join_list hl' (strsAre_of r hzs) ?_ fun t' tk3 => ?_
  · have h1 := sum_le hz2
    have h2 : zs.length * sep.length ≤ zs.length * 10 := Nat.mul_le_mul_left _ hsep
    omega
  · exact (P.after (tk := tk2) X2).same (s := { s with heap := h2, toks := tk2 }) H2 (.d (.str _ _)) tk3

theorem n_split {i : Nat} {x : Str} {sep : Str} {z : Str} {k : Nat} {p1 ap q pos : Pos} (S : Snd prog w hB mg n) (R : Room A n) (K : EnvOk env) (hl : (ap.endLine == pos.line) = true) (ia : IsE env.scope.names (.v i) (.Name x p1))
    (ha : evE fns n vs st (.v i) = some (.d (.str z), st1)) (hs : (sep.length == 1) = true) (hz : z.length ≤ 1000) :
    Sw prog w hB A env vs st (eval (.Call (.Attribute (.Name x p1) "split" ap) [.Constant (.str sep) k q] [] pos) env) (fun ρ h u => RV hB ρ h u (.l st1.length)) (st1 ++ [(Txt.split z sep).map .str]) := by
  intro s ρ Q E H V P
  obtain ⟨pl, he⟩ := meth_eq (o := .Name x p1) (name := "split") (args := [.Constant (.str sep) k q]) (env := env) hl rfl rfl
  refine MethodCall_ (S.e R K ia ha s ρ _ E H V fun u h1 tk ρ1 H1 X1 r1 => ?_) he
  obtain ⟨t, rfl⟩ := r1.str_inv
  obtain ⟨m, hn⟩ := V.ns
  with_reducible refine GM.split ?_
  refine PyProof.Rows.callWith_method1 (args_cons (Calls.Constant_str (args_nil ?_))) rfl rfl
  have hn1 := X1.ns m hn
  have P1 := P.after (tk := tk) X1
  refine splitN1 (s := { s with heap := h1, toks := tk + 1 }) (fr0 hn1) (ledger_news h1 env.locals) (by rw [eq_of_beq hs]; rfl) (fun l h' k' hl' F N => ?_) (by have := line6 (show z.length + 2 ≤ 1000000 by omega); exact this)
  have P1' : Post hB (ρ ++ ρ1) env.locals { s with heap := h1, toks := tk + 1 } (st1 ++ [(Txt.split z sep).map .str]) (fun ρ h u => RV hB ρ h u (.l st1.length)) Q := P1
  refine P1'.newLL (s := { s with heap := h1, toks := tk + 1 }) (ws := (strValues l).toArray) H1 hn1 V.new (fun a o e hne => N.get (.tail _ (mem_ledger.mpr ⟨e, hne⟩))) F.ns (size_none _) ⟨0, N.get (.head _)⟩ ?_ k'
  rw [← hl']
  show RIs h1 (strValues l) _
  clear hl' N
  unfold strValues
  induction l with
  | nil => exact .nil
  | cons p l ih => exact .cons (.str _ _) ih
end
end Mine
end

/-! # M15 -/
section
open PySem PySem.W PyProof.Rows
namespace Mine

theorem nm_inj {x y : Nat} (hx : x < 26) (h : nm y = nm x) : y = x := by
  by_cases hy : y < 26
  · have : ∀ i j : Fin 26, nm j.1 = nm i.1 → j = i := by decide +kernel
    exact congrArg Fin.val (this ⟨x, hx⟩ ⟨y, hy⟩ h)
  · have e : nm y = "?" := by
      unfold nm
      rw [List.getD_eq_getElem?_getD, List.getElem?_eq_none (by show 26 ≤ y; omega)]; rfl
    have : ∀ i : Fin 26, ¬ ("?" : Str) = nm i.1 := by decide +kernel
    exact absurd (e ▸ h) (this ⟨x, hx⟩)
theorem nm_known (y : Nat) : ((("?" : Str) :: nmL).contains (nm y)) = true := by
  by_cases hy : y < 26
  · have : ∀ i : Fin 26, ((("?" : Str) :: nmL).contains (nm i.1)) = true := by decide +kernel
    exact this ⟨y, hy⟩
  · have e : nm y = "?" := by
      unfold nm
      rw [List.getD_eq_getElem?_getD, List.getElem?_eq_none (by show 26 ≤ y; omega)]; rfl
    rw [e]; decide +kernel

theorem lookup_mem {β : Type} {y : Str} {v : β} : ∀ {l : List (Str × β)}, l.lookup y = some v → (y, v) ∈ l
  | [], h => by simp at h
  | (z, u) :: l, h => by
    rw [List.lookup_cons] at h
    cases q : y == z with
    | true =>
      rw [q] at h; cases h
      rw [eq_of_beq q]; exact List.mem_cons_self
    | false => rw [q] at h; exact List.mem_cons_of_mem _ (lookup_mem h)
theorem mem_lookup {β : Type} {y : Str} {v : β} : ∀ {l : List (Str × β)}, (y, v) ∈ l → ∃ u, l.lookup y = some u
  | (z, u) :: l, h => by
    rw [List.lookup_cons]
    cases q : y == z with
    | true => exact ⟨u, rfl⟩
    | false =>
      rcases List.mem_cons.mp h with h | h
      · cases h; simp at q
      · exact mem_lookup h

theorem relab_cell {N M : Names} {y : Str} (hc : ∀ p ∈ M, p.2 ≠ .cell) (h : (relabN N M).lookup y = some .cell) : (y, .free) ∈ M ∧ N.lookup y = some .cell := by
  have hm := lookup_mem h
  obtain ⟨⟨a, k⟩, hp, e⟩ := List.mem_map.mp hm
  dsimp only at e
  split at e
  · rename_i q
    cases e
    simp only [Bool.and_eq_true, beq_iff_eq] at q
    exact ⟨by rw [← q.1]; exact hp, q.2⟩
  · cases e
    exact absurd rfl (hc _ hp)
theorem relab_local {N M : Names} {y : Str} (h : (relabN N M).lookup y = some .local) : (y, .local) ∈ M := by
  have hm := lookup_mem h
  obtain ⟨⟨a, k⟩, hp, e⟩ := List.mem_map.mp hm
  dsimp only at e
  split at e
  · cases e
  · cases e; exact hp

theorem closure_go {env : Env} : ∀ (names : Names) (acc : List (Str × Addr)), (∀ p ∈ acc, env.cells.lookup p.1 = some p.2) → (∀ y ∈ names, y.2 = .free → ∃ c, env.cells.lookup y.1 = some c) →
    ∃ cl, ((forIn names acc fun x (s : List (Str × Addr)) => if (x.snd == NameKind.free) = true then (do
                let l ← cellOf env x.fst
                pure (ForInStep.yield ((x.fst, l) :: s))) else pure (ForInStep.yield s)) : Sem (List (Str × Addr))) = pure cl ∧ (∀ p ∈ cl, env.cells.lookup p.1 = some p.2) ∧ (∀ p ∈ acc, p ∈ cl) ∧ ∀ y, (y, .free) ∈ names → ∃ c, (y, c) ∈ cl
  | [], acc, h1, _ => ⟨acc, rfl, h1, fun _ h => h, fun _ h => nomatch h⟩
  | (z, k) :: r, acc, h1, h2 => by
    rw [List.forIn_cons]
    cases q : k == NameKind.free with
    | true =>
      have hk : k = .free := eq_of_beq q
      obtain ⟨c, hc⟩ := h2 _ List.mem_cons_self hk
      have e1 : cellOf env z = pure c := by unfold cellOf; rw [hc]
      obtain ⟨cl, e, a, b, d⟩ := closure_go r ((z, c) :: acc) (fun p hp => by
        rcases List.mem_cons.mp hp with rfl | hp
        · exact hc
        · exact h1 p hp) fun y hy => h2 y (List.mem_cons_of_mem _ hy)
      refine ⟨cl, ?_, a, fun p hp => b p (List.mem_cons_of_mem _ hp), fun y hy => ?_⟩
      · simp only [q, if_true, e1, pure_bind]
        exact e
      · rcases List.mem_cons.mp hy with hy | hy
        · cases hy; exact ⟨c, b _ List.mem_cons_self⟩
        · exact d y hy
    | false =>
      obtain ⟨cl, e, a, b, d⟩ := closure_go r acc h1 fun y hy => h2 y (List.mem_cons_of_mem _ hy)
      refine ⟨cl, ?_, a, b, fun y hy => ?_⟩
      · simp only [q, Bool.false_eq_true, if_false, pure_bind]
        exact e
      · rcases List.mem_cons.mp hy with hy | hy
        · cases hy; simp at q
        · exact d y hy
theorem closure_ok {scope : Scope} {env : Env} (h : ∀ y ∈ scope.names, y.2 = .free → ∃ c, env.cells.lookup y.1 = some c) :
    ∃ cl, closureFor scope env = pure cl ∧ ∀ y, (y, .free) ∈ scope.names → cl.lookup y = env.cells.lookup y := by
  obtain ⟨cl, e, a, _, d⟩ := closure_go scope.names [] (fun _ h => nomatch h) h
  refine ⟨cl, ?_, fun y hy => ?_⟩
  · simp only [closureFor]
    rw [e]; rfl
  · obtain ⟨c, hc⟩ := d y hy
    obtain ⟨u, hu⟩ := mem_lookup hc
    rw [hu, a _ (lookup_mem hu)]

/-- what is known of a comprehension's scope -/
structure CompS (N : Names) (x : Nat) (scope : Scope) : Prop where
  kind : scope.kind = .function
  lt : x < 26
  xl : scope.names.lookup (nm x) = some .local
  cell : ∀ y ∈ scope.names, y.2 ≠ .cell
  names : ∀ y ∈ scope.names, y.2 = .local → scope.names.lookup y.1 = some .local
  free : ∀ y ∈ scope.names, y.2 = .free → N.lookup y.1 = some .cell
  own : ∀ y ∈ scope.names, y.2 = .local → (y.1 == nm x || !((("?" : Str) :: nmL).contains y.1)) = true

section
variable {hB h : Heap} {env : Env} {scope : Scope} {cl : List (Str × Addr)} {C : Addr} {x : Nat} {vs : Vars} {ρ : List Addr}
theorem comp_names (hk : env.scope.kind = .function) : (compEnvC scope cl C env).scope.names = relabN env.scope.names scope.names := by
  show (relabel scope env).names = _
  unfold relabel relabN
  simp only [hk]
  apply List.map_congr_left
  intro p _
  obtain ⟨a, k⟩ := p
  simp [Env.kindOf]
theorem EnvOk.comp (K : EnvOk env) (c : CompS env.scope.names x scope) (hcl : ∀ y, (y, .free) ∈ scope.names → cl.lookup y = env.cells.lookup y) : EnvOk (compEnvC scope cl C env) := by
  refine ⟨c.kind, K.glob, K.blt, fun y hy => ?_⟩
  have hy' : (relabN env.scope.names scope.names).lookup y = some .cell := by rw [← comp_names (cl := cl) (C := C) K.kind]; exact hy
  obtain ⟨h1, h2⟩ := relab_cell c.cell hy'
  obtain ⟨a, ha⟩ := K.cells y h2
  exact ⟨a, (hcl y h1).trans ha⟩
theorem VOk.comp (V0 : VOk hB env ρ h vs) (K : EnvOk env) (c : CompS env.scope.names x scope) (hcl : ∀ y, (y, .free) ∈ scope.names → cl.lookup y = env.cells.lookup y) {m : Str → Option Value} {u : Value} {v : V} (hC : h.Ns C m) (hm : m (nm x) = some u) (r : RV hB ρ h u v) (hB0 : hB.get? C = none) :
    VOk hB (compEnvC scope cl C env) ρ h (upd vs x v) := by
  refine ⟨hB0, ⟨m, hC⟩, fun y v' e o => ?_⟩
  have hn := comp_names (scope := scope) (cl := cl) (C := C) K.kind
  rw [hn] at o
  unfold upd at e
  by_cases q : y = x
  · rw [if_pos q] at e; cases e; subst q
    refine ⟨u, .inl ⟨lookup_relabel_local c.xl, m, hC, hm⟩, r⟩
  · rw [if_neg q] at e
    rcases o with o | o
    · have hl := relab_local o
      have := c.own _ hl rfl
      simp only [nm_known, Bool.not_true, Bool.or_false] at this
      exact absurd (nm_inj c.lt (eq_of_beq this)) q
    · obtain ⟨h1, h2⟩ := relab_cell c.cell o
      obtain ⟨u', l, r'⟩ := V0.vars y v' e (.inr h2)
      refine ⟨u', ?_, r'⟩
      rcases l with ⟨hk, _⟩ | ⟨hk, a, ha, hi⟩
      · have h2' : env.kindOf (nm y) = some .cell := h2
        rw [hk] at h2'; cases h2'
      · exact .inr ⟨by show (compEnvC scope cl C env).scope.names.lookup _ = _; rw [hn]; exact o, a, (hcl _ h1).trans ha, hi⟩
end

section
variable {prog : Program} {w : World} {hB : Heap} {mg mb : Str → Option Value} {A : Around} {env : Env} {vs : Vars} {st st' st1 st2 : Store} {n : Nat} {v : V} {e : Expr} {s : Shared} {ρ : List Addr} {E : Value → Shared → Prop} {L : Addr}

/-- inside a comprehension: the store, the names' dict C, the list that grows -/
structure CInv (hB : Heap) (env : Env) (ρ : List Addr) (st : Store) (vs : Vars) (h : Heap) (C D : Addr) (acc : List PyData) : Prop where
  hk : HOk hB ρ st h
  vk : VOk hB env ρ h vs
  cn : ∃ m, h.Ns C m
  dl : ∃ ws, h.PlainList D ws ∧ RIs h ws.toList acc
  CL : C ≠ env.locals
  hC : hB.get? C = none
  Dρ : D ∉ ρ
  hD : hB.get? D = none

theorem CInv.CD {C D : Addr} {acc : List PyData} {h : Heap} (I : CInv hB env ρ st vs h C D acc) : C ≠ D := fun q => by
  obtain ⟨m, hn⟩ := I.cn
  obtain ⟨ws, p, _⟩ := I.dl
  exact not_ns p (q ▸ hn)
theorem CInv.Cρ {C D : Addr} {acc : List PyData} {h : Heap} (I : CInv hB env ρ st vs h C D acc) : C ∉ ρ := let ⟨_, hn⟩ := I.cn; I.hk.ns_off hn
theorem CInv.DL {C D : Addr} {acc : List PyData} {h : Heap} (I : CInv hB env ρ st vs h C D acc) : D ≠ env.locals := fun q => by
  obtain ⟨m, hn⟩ := I.vk.ns
  obtain ⟨ws, p, _⟩ := I.dl
  exact not_ns p (q ▸ hn)

theorem ExtS.nil_of {X : List Addr} {h h' : Heap} (hk : ∀ a o, h.get? a = some o → a ∉ X → h'.get? a = some o) (tup : TupKeep h h') (live : ∀ a o, h.get? a = some o → ∃ o', h'.get? a = some o') : ExtS ρ [] X h h' :=
  ⟨fun a o e _ hX => hk a o e hX, tup, live, fun _ ha => nomatch ha⟩

theorem HOk.keep {h h' : Heap} {X : List Addr} (H : HOk hB ρ st h) (x : ExtS ρ [] X h h') (hX : ∀ a ∈ X, a ∉ ρ ∧ hB.get? a = none) (hk : ∀ a ∈ ρ, ∀ o, h.get? a = some o → h'.get? a = some o) : HOk hB ρ st h' := by
  refine ⟨fun a o e => ?_, H.len, fun i a xs e1 e2 => ?_, H.nodup, H.fresh⟩
  · refine x.keep a o (H.base a o e) (fun hm => ?_) fun hm => ?_
    · rw [H.fresh a hm] at e; cases e
    · rw [(hX a hm).2] at e; cases e
  · obtain ⟨ws, p, r⟩ := H.lists i a xs e1 e2
    exact ⟨ws, p.at fun o e => hk a (List.mem_of_getElem? e1) o e, r.keep x.tup⟩

theorem tup_but {h h' : Heap} {a : Addr} (hs : Heap.SameBut a h h') (hn : ∀ o, h.get? a = some o → ¬ (o.cls = .type "tuple" ∧ ∃ vs n, o.data = .seq vs n)) : TupKeep h h' := fun b o e c =>
  (hs.2 b fun q => by subst q; exact hn o e c).trans e
theorem live_but {h h' : Heap} {a : Addr} (hs : Heap.SameBut a h h') (ha : ∃ o, h'.get? a = some o) : ∀ b o, h.get? b = some o → ∃ o', h'.get? b = some o' := fun b o e => by
  by_cases q : b = a
  · subst q; exact ha
  · exact ⟨o, (hs.2 b q).trans e⟩

noncomputable def evO (n : Nat) (vs : Vars) (st : Store) (pt : Option PE) : Option (Bool × Store) :=
  match pt with
  | some t => evT fns n vs st t
  | none => some (true, st)

theorem comp_turn {x : Nat} {scope : Scope} {cl : List (Str × Addr)} {C D : Addr} {acc : List PyData} {px : Pos} {ifs : List Expr} {elt : Expr} {pt : Option PE} {pe : PE} {d : PyData} {u : Value} {G : Shared → Prop}
    (S : Snd prog w hB mg n) (R : Room A n) (K : EnvOk env) (c : CompS env.scope.names x scope) (hcl : ∀ y, (y, .free) ∈ scope.names → cl.lookup y = env.cells.lookup y)
    (I : CInv hB env ρ st vs s.heap C D acc) (r : RI s.heap u d) (ie : IsE (relabN env.scope.names scope.names) pe elt)
    (ht : (pt = none ∧ ifs = []) ∨ ∃ t tx, pt = some t ∧ ifs = [tx] ∧ IsE (relabN env.scope.names scope.names) t tx)
    (hev : (∃ st1 y, acc.length ≤ 1000000 ∧ evO n (upd vs x (.d d)) st pt = some (true, st1) ∧ evE fns n (upd vs x (.d d)) st1 pe = some (.d y, st2) ∧
        ∀ h' tk ρ1, CInv hB env (ρ ++ ρ1) st2 vs h' C D (acc ++ [y]) → ExtS ρ ρ1 [C, D] s.heap h' → G { s with heap := h', toks := tk }) ∨
      (evO n (upd vs x (.d d)) st pt = some (false, st2) ∧
        ∀ h' tk ρ1, CInv hB env (ρ ++ ρ1) st2 vs h' C D acc → ExtS ρ ρ1 [C, D] s.heap h' → G { s with heap := h', toks := tk })) :
    wpAny (model prog w) A (assign (.Name (nm x) px) (compEnvC scope cl C env) u) (fun _ s₂ =>
      wpAny (model prog w) A (forIn ifs true fun c r => if r = true then do let ok ← isTrue c (compEnvC scope cl C env) (eval c (compEnvC scope cl C env)); pure (ForInStep.yield ok) else pure (ForInStep.yield r)) (fun ok s₃ =>
        if ok = true then wpAny (model prog w) A (eval elt (compEnvC scope cl C env)) (fun x s₄ => wpAny (model prog w) A (call (.builtin "list.append") [.ref D, x]) (fun _ s₅ => G s₅) E s₄) E s₃
        else G s₃) E s₂) E s := by
  obtain ⟨m, hn⟩ := I.cn
  have K' := K.comp (C := C) c hcl
  have hcn := comp_names (scope := scope) (cl := cl) (C := C) K.kind
  refine wpAny_assign_Name (wpAny_storeName_local (lookup_relabel_local c.xl) hn (fun h₃ hn₃ hs₃ => ?_) (by simp [compEnvC, relabel, c.kind]))
  have hnseq : ∀ o, s.heap.get? C = some o → ¬ (o.cls = .type "tuple" ∧ ∃ vs n, o.data = .seq vs n) := fun o e q => by
    obtain ⟨_, vs, k, d⟩ := q; exact ns_no_seq hn e d
  have X0 : ExtS ρ [] [C, D] s.heap h₃ := ExtS.nil_of (fun a o e hX => (hs₃.2 a fun q => by have q' : a = C := q; exact hX (q' ▸ List.mem_cons_self)).trans e) (tup_but hs₃ hnseq) (live_but hs₃ (by obtain ⟨o, _, _, ho, _⟩ := hn₃; exact ⟨o, ho⟩))
  have X0' : ExtS ρ [] [C] s.heap h₃ := ExtS.nil_of (fun a o e hX => (hs₃.2 a fun q => by have q' : a = C := q; exact hX (q' ▸ List.mem_cons_self)).trans e) (tup_but hs₃ hnseq) (live_but hs₃ (by obtain ⟨o, _, _, ho, _⟩ := hn₃; exact ⟨o, ho⟩))
  have H3 : HOk hB ρ st h₃ := I.hk.keep X0' (fun a ha => by rw [List.mem_singleton.mp ha]; exact ⟨I.Cρ, I.hC⟩) fun a ha o e => (hs₃.2 a fun q => by have q' : a = C := q; exact I.Cρ (q' ▸ ha)).trans e
  have V3 : VOk hB env ρ h₃ vs := by
    have := I.vk.extS I.hk X0' (fun q => I.CL (List.mem_singleton.mp q).symm) fun a ha y hc => by
      rw [List.mem_singleton.mp ha] at hc; exact cell_not_ns hc hn
    rw [List.append_nil] at this; exact this
  obtain ⟨ws, pD, rD⟩ := I.dl
  have pD3 : h₃.PlainList D ws := pD.at fun o e => (hs₃.2 D fun q => I.CD (show D = C from q).symm).trans e
  have VC : VOk hB (compEnvC scope cl C env) ρ h₃ (upd vs x (.d d)) := V3.comp K c hcl hn₃ (by simp) (.d (r.keep X0.tup)) I.hC
  -- the tests
  have tests : ∀ (b : Bool) (st1 : Store) (Q : Bool → Shared → Prop), evO n (upd vs x (.d d)) st pt = some (b, st1) →
      (∀ h4 tk ρ1, HOk hB (ρ ++ ρ1) st1 h4 → Ext ρ ρ1 C h₃ h4 → Q b { s with heap := h4, toks := tk }) →
      wpAny (model prog w) A (forIn ifs true fun c r => if r = true then do let ok ← isTrue c (compEnvC scope cl C env) (eval c (compEnvC scope cl C env)); pure (ForInStep.yield ok) else pure (ForInStep.yield r)) Q E { s with heap := h₃, toks := s.toks + 1 } := by
    intro b st1 Q hb hQ
    rcases ht with ⟨rfl, rfl⟩ | ⟨t, tx, rfl, rfl, it⟩
    · cases hb
      exact wpAny_tests_nil (hQ h₃ _ [] H3.nil Ext.refl)
    · refine wpAny_tests_one (S.t R K' (by rw [hcn]; exact it) hb { s with heap := h₃, toks := s.toks + 1 } ρ _ E H3 VC fun b' h4 tk ρ1 H4 X4 r4 => ?_)
      subst r4
      exact hQ h4 tk ρ1 H4 X4
  -- from the tests' heap on
  have toS : ∀ {ρ1 : List Addr} {h4 : Heap}, Ext ρ ρ1 C h₃ h4 → ExtS ρ ρ1 [C, D] s.heap h4 := fun {ρ1 h4} X4 => by
    have := X0.trans (ρ₁ := []) (ρ₂ := ρ1) (by rw [List.append_nil]; exact X4.toS (X := [C, D]) List.mem_cons_self)
    simpa using this
  have inv : ∀ {ρ1 : List Addr} {h4 : Heap} {st1 : Store}, HOk hB (ρ ++ ρ1) st1 h4 → Ext ρ ρ1 C h₃ h4 → CInv hB env (ρ ++ ρ1) st1 vs h4 C D acc := fun {ρ1 h4 st1} H4 X4 => by
    refine ⟨H4, ?_, ⟨_, X4.ns _ hn₃⟩, ⟨ws, pD3.at fun o e => X4.keep D o e I.Dρ (Ne.symm I.CD), rD.keep fun a o e c => X4.tup a o (X0.tup a o e c) c⟩, I.CL, I.hC, fun hm => ?_, I.hD⟩
    · exact V3.extS H3 (X4.toS (X := [C]) List.mem_cons_self) (fun q => I.CL (List.mem_singleton.mp q).symm) fun a ha y hc => by
        rw [List.mem_singleton.mp ha] at hc; exact cell_not_ns hc hn₃
    · rcases List.mem_append.mp hm with hm | hm
      · exact I.Dρ hm
      · obtain ⟨k, e⟩ := pD3; rw [X4.fresh D hm] at e; cases e
  rcases hev with ⟨st1, y, hlen, h1, h2, hG⟩ | ⟨h1, hG⟩
  · refine tests true st1 _ h1 fun h4 tk ρ1 H4 X4 => ?_
    simp only [if_true]
    refine S.e R K' (by rw [hcn]; exact ie) h2 { s with heap := h4, toks := tk } (ρ ++ ρ1) _ E H4 (VC.ext H3 X4) fun y' h5 tk2 ρ2 H5 X5 r5 => ?_
    have X45 := X4.trans X5
    rw [List.append_assoc] at H5 r5
    have I5 := inv H5 X45
    cases r5 with | d r5 =>
    obtain ⟨ws5, p5, rd5⟩ := I5.dl
    refine wpAny_list_append_plain p5 (fun h6 p6 hs6 => ?_) (by rw [rd5.size]; exact line6 hlen)
    have hnl : ∀ o, h5.get? D = some o → ¬ (o.cls = .type "tuple" ∧ ∃ vs n, o.data = .seq vs n) := fun o e q => by
      obtain ⟨k, e'⟩ := p5; rw [e'] at e; cases e; exact absurd (show Value.type "list" = Value.type "tuple" from q.1) (by decide)
    have X6 : ExtS (ρ ++ (ρ1 ++ ρ2)) [] [D] h5 h6 := ExtS.nil_of (fun a o e hX => (hs6.2 a fun q => hX (q ▸ List.mem_cons_self)).trans e) (tup_but hs6 hnl) (live_but hs6 (by obtain ⟨k, e⟩ := p6; exact ⟨_, e⟩))
    have X6' : ExtS (ρ ++ (ρ1 ++ ρ2)) [] [C, D] h5 h6 := ⟨fun a o e h1 h2 => X6.keep a o e h1 fun q => h2 (List.mem_cons_of_mem _ q), X6.tup, X6.live, X6.fresh⟩
    obtain ⟨m5, hn5⟩ := I5.cn
    refine hG h6 tk2 (ρ1 ++ ρ2) ⟨?_, ?_, ⟨m5, hn5.at' fun o e => (hs6.2 C I5.CD).trans e⟩, ⟨_, p6, ?_⟩, I.CL, I.hC, I5.Dρ, I.hD⟩ ?_
    · refine ⟨fun a o e => ?_, I5.hk.len, fun i a xs e1 e2 => ?_, I5.hk.nodup, I5.hk.fresh⟩
      · refine (hs6.2 a fun q => ?_).trans (I5.hk.base a o e)
        subst q
        rw [I.hD] at e; cases e
      · obtain ⟨ws, p, r⟩ := I5.hk.lists i a xs e1 e2
        exact ⟨ws, p.at fun o e => (hs6.2 a fun q => I5.Dρ (q ▸ List.mem_of_getElem? e1)).trans e, r.keep X6.tup⟩
    · have := I5.vk.extS I5.hk X6 (fun q => I5.DL (List.mem_singleton.mp q).symm) fun a ha y hc => by
        rw [List.mem_singleton.mp ha] at hc; exact not_cell p5 hc
      rw [List.append_nil] at this; exact this
    · rw [Array.toList_push]
      exact (rd5.keep X6.tup).append (.one (r5.keep X6.tup))
    · have := (toS X45).trans (ρ₂ := []) X6'
      simpa using this
  · refine tests false st2 _ h1 fun h4 tk ρ1 H4 X4 => ?_
    simp only [Bool.false_eq_true, if_false]
    exact hG h4 tk ρ1 (inv H4 X4) (toS X4)
end
end Mine
end

/-! # M16 -/
section
open PySem PySem.W PyProof.Rows
namespace Mine

section
variable {prog : Program} {w : World} {hB : Heap} {mg mb : Str → Option Value} {A : Around} {env : Env} {vs : Vars} {st st' st1 st2 : Store} {n : Nat} {v : V} {e : Expr} {s : Shared} {ρ : List Addr} {E : Value → Shared → Prop} {L : Addr}

theorem ExtS.new {X : List Addr} {h0 h h' : Heap} {ρ1 ρ2 : List Addr} (x : ExtS ρ ρ1 [] h0 h) (y : ExtS (ρ ++ ρ1) ρ2 X h h') (hX : ∀ a ∈ X, h0.get? a = none) : ExtS ρ (ρ1 ++ ρ2) [] h0 h' := by
  refine ⟨fun a o e ha _ => y.keep a o (x.keep a o e ha (fun q => nomatch q)) (fun hm => ?_) fun hm => ?_, fun a o e c => y.tup a o (x.tup a o e c) c, fun a o e => ?_, fun a ha => ?_⟩
  · rcases List.mem_append.mp hm with hm | hm
    · exact ha hm
    · rw [x.fresh a hm] at e; cases e
  · rw [hX a hm] at e; cases e
  · obtain ⟨o', e'⟩ := x.live a o e
    exact y.live a o' e'
  · rcases List.mem_append.mp ha with hm | hm
    · exact x.fresh a hm
    · cases q : h0.get? a with
      | none => rfl
      | some o => obtain ⟨o', e'⟩ := x.live a o q; rw [y.fresh a hm] at e'; cases e'
theorem ExtS.but {h0 h h' : Heap} {ρ1 : List Addr} {It : Addr} (x : ExtS ρ ρ1 [] h0 h) (hk : ∀ b o, b ≠ It → h.get? b = some o → h'.get? b = some o) (h1 : h0.get? It = none) : ExtS ρ ρ1 [] h0 h' := by
  have ne : ∀ {a : Addr} {o : Obj}, h0.get? a = some o → a ≠ It := fun {a o} e q => by rw [q, h1] at e; cases e
  refine ⟨fun a o e ha _ => hk a o (ne e) (x.keep a o e ha (fun q => nomatch q)), fun a o e c => hk a o (ne e) (x.tup a o e c), fun a o e => ?_, x.fresh⟩
  obtain ⟨o', e'⟩ := x.live a o e
  exact ⟨o', hk a o' (ne e) e'⟩
theorem ExtS.keeps {h0 h : Heap} (hk : ∀ b o, h0.get? b = some o → h.get? b = some o) : ExtS ρ [] [] h0 h := ⟨fun a o e _ _ => hk a o e, fun a o e _ => hk a o e, fun a o e => ⟨o, hk a o e⟩, fun _ ha => nomatch ha⟩

/-- an object of fields (an iterator): no list of the store, no cell, no names' dict -/
def Flds (h : Heap) (It : Addr) : Prop := ∃ o fs, h.get? It = some o ∧ o.data = .fields fs
theorem Flds.off {h : Heap} {It : Addr} (f : Flds h It) (H : HOk hB ρ st h) : It ∉ ρ := fun ha => by
  obtain ⟨o, fs, e, d⟩ := f
  obtain ⟨_, _, _, _, _, ⟨k, p⟩, _⟩ := H.at ha
  rw [e] at p; cases p; cases d
theorem Flds.not_ns {h : Heap} {It : Addr} (f : Flds h It) {m : Str → Option Value} (n : h.Ns It m) : False := by
  obtain ⟨o, fs, e, d⟩ := f
  obtain ⟨o', _, _, e', d', _⟩ := n
  rw [e] at e'; cases e'; rw [d] at d'; cases d'
theorem Flds.not_cell {h : Heap} {It : Addr} (f : Flds h It) {y : Option Value} (n : h.IsCell It y) : False := by
  obtain ⟨o, fs, e, d⟩ := f
  obtain ⟨o', e', d'⟩ := n
  rw [e] at e'; cases e'; rw [d] at d'; cases d'
theorem Flds.not_list {h : Heap} {It : Addr} (f : Flds h It) {ws : Array Value} (n : h.PlainList It ws) : False := by
  obtain ⟨o, fs, e, d⟩ := f
  obtain ⟨k, e'⟩ := n
  rw [e] at e'; cases e'; cases d

theorem VOk.but {h h' : Heap} {It : Addr} (V0 : VOk hB env ρ h vs) (f : Flds h It) (hk : ∀ b o, b ≠ It → h.get? b = some o → h'.get? b = some o) : VOk hB env ρ h' vs := by
  have tup : TupKeep h h' := fun a o e c => hk a o (fun q => by subst q; obtain ⟨o', fs, e', d⟩ := f; rw [e] at e'; cases e'; obtain ⟨_, vs, k, d'⟩ := c; rw [d] at d'; cases d') e
  obtain ⟨m, hn⟩ := V0.ns
  refine ⟨V0.new, ⟨m, hn.at' fun o e => hk _ o (fun q => f.not_ns (q ▸ hn)) e⟩, fun y v e o => ?_⟩
  obtain ⟨u, l, r⟩ := V0.vars y v e o
  refine ⟨u, ?_, ?_⟩
  · rcases l with ⟨hk1, m', hn2, hm⟩ | ⟨hk1, c, hc', hi⟩
    · exact .inl ⟨hk1, m', hn2.at' fun o e => hk _ o (fun q => f.not_ns (q ▸ hn2)) e, hm⟩
    · obtain ⟨o, ho, hd⟩ := id hi
      exact .inr ⟨hk1, c, hc', o, hk c o (fun q => f.not_cell (q ▸ hi)) ho, hd⟩
  · have := r.mono (ρ₁ := []) tup
    rw [List.append_nil] at this; exact this
theorem HOk.but {h h' : Heap} {It : Addr} (H : HOk hB ρ st h) (f : Flds h It) (hI : hB.get? It = none) (hk : ∀ b o, b ≠ It → h.get? b = some o → h'.get? b = some o) : HOk hB ρ st h' := by
  have tup : TupKeep h h' := fun a o e c => hk a o (fun q => by subst q; obtain ⟨o', fs, e', d⟩ := f; rw [e] at e'; cases e'; obtain ⟨_, vs, k, d'⟩ := c; rw [d] at d'; cases d') e
  refine ⟨fun a o e => hk a o (fun q => by rw [q, hI] at e; cases e) (H.base a o e), H.len, fun i a xs e1 e2 => ?_, H.nodup, H.fresh⟩
  obtain ⟨ws, p, r⟩ := H.lists i a xs e1 e2
  exact ⟨ws, p.at fun o e => hk a o (fun q => f.off H (q ▸ List.mem_of_getElem? e1)) e, r.keep tup⟩
theorem CInv.but {h h' : Heap} {It C D : Addr} {acc : List PyData} (I : CInv hB env ρ st vs h C D acc) (f : Flds h It) (hI : hB.get? It = none) (hk : ∀ b o, b ≠ It → h.get? b = some o → h'.get? b = some o) : CInv hB env ρ st vs h' C D acc := by
  have tup : TupKeep h h' := fun a o e c => hk a o (fun q => by subst q; obtain ⟨o', fs, e', d⟩ := f; rw [e] at e'; cases e'; obtain ⟨_, vs, k, d'⟩ := c; rw [d] at d'; cases d') e
  obtain ⟨m, hn⟩ := I.cn
  obtain ⟨ws, p, r⟩ := I.dl
  exact ⟨I.hk.but f hI hk, I.vk.but f hk, ⟨m, hn.at' fun o e => hk _ o (fun q => f.not_ns (q ▸ hn)) e⟩, ⟨ws, p.at fun o e => hk _ o (fun q => f.not_list (q ▸ p)) e, r.keep tup⟩, I.CL, I.hC, I.Dρ, I.hD⟩

theorem HOk.keeps {h h' : Heap} (H : HOk hB ρ st h) (hk : ∀ b o, h.get? b = some o → h'.get? b = some o) : HOk hB ρ st h' := by
  refine ⟨fun a o e => hk a o (H.base a o e), H.len, fun i a xs e1 e2 => ?_, H.nodup, H.fresh⟩
  obtain ⟨ws, p, r⟩ := H.lists i a xs e1 e2
  exact ⟨ws, p.at fun o e => hk a o e, r.keep fun a o e _ => hk a o e⟩
theorem VOk.keeps {h h' : Heap} (V0 : VOk hB env ρ h vs) (H : HOk hB ρ st h) (hk : ∀ b o, h.get? b = some o → h'.get? b = some o) : VOk hB env ρ h' vs := by
  have := V0.extS (X := []) (ρ₁ := []) H (ExtS.keeps hk) (fun q => nomatch q) fun a q => nomatch q
  rw [List.append_nil] at this; exact this

/-- the frame about a comprehension's loop: iterator It, names' dict C, list D -/
theorem comp_frame {elt target iter : Expr} {ifs : List Expr} {scope : Scope} {cl : List (Str × Addr)} {pos : Pos} {s₂ : Shared} {It : Addr} {RR : Value → Addr → Result → Shared → Prop} {x : Nat}
    (H : HOk hB ρ st s.heap) (V0 : VOk hB env ρ s.heap vs) (c : CompS env.scope.names x scope)
    (h2k : ∀ b o, s.heap.get? b = some o → s₂.heap.get? b = some o) (hIt : Flds s₂.heap It) (hIt0 : s.heap.get? It = none)
    (loop : ∀ C D h' tk, CInv hB env ρ st vs h' C D [] → (∀ b o, s₂.heap.get? b = some o → h'.get? b = some o) → s.heap.get? C = none → s.heap.get? D = none →
      codeAny (model prog w) A (.compLoop (.ListComp elt [⟨target, iter, ifs, 0⟩] scope pos) 0 (.ref It) (.ref D) (compEnvC scope cl C env)) (RR (.ref D) C) { s₂ with heap := h', toks := tk })
    (self : ∀ (s' : Shared) (Q : Value → Shared → Prop) (E' : Value → Shared → Prop), (∀ b o, s₂.heap.get? b = some o → s'.heap.get? b = some o) → Q (.ref It) s' → wpAny (model prog w) A (pyIter (.ref It)) Q E' s') :
    wpAny (model prog w) A (newList []) (fun acc s₃ => wpAny (model prog w) A (newFunctionEnv scope env.globals cl [] env.qual none .none (some env)) (fun cenv s₄ =>
      codeAny (model prog w) A (.compStart (.ListComp elt [⟨target, iter, ifs, 0⟩] scope pos) 0 (.ref It) acc { cenv with scope := relabel scope env }) (RR acc cenv.locals) s₄) E s₃) E s₂ := by
  refine wpAny_newObj_type (wpAny_newFunctionEnv c.cell (by intro y hy; simp at hy) (fun h₁ hns₁ hsb₁ => ?_) c.kind)
  dsimp only at hns₁ hsb₁ ⊢
  generalize hH2 : s₂.heap.push { cls := .type "list", dict := none, data := .seq ([] : List Value).toArray } = H2 at hns₁ hsb₁ ⊢
  have hC : H2.objs.size = s₂.heap.objs.size + 1 := by rw [← hH2, Heap.size_push]
  have fresh : ∀ {h : Heap} {a : Addr}, h.objs.size ≤ a → h.get? a = none := fun {h a} ha => by
    cases e : h.get? a with
    | none => rfl
    | some o' => exact absurd (Heap.lt_size e) (Nat.not_lt.mpr ha)
  have old2 : ∀ b o, s₂.heap.get? b = some o → h₁.get? b = some o := fun b o e => by
    have hb := Heap.lt_size e
    refine hsb₁.extBut b o (fun q => ?_) (Heap.get?_push_of_some _ (hH2 ▸ Heap.get?_push_of_some _ e))
    have q' : b = H2.objs.size := q
    rw [hC] at q'
    exact Nat.ne_of_lt (Nat.lt_succ_of_lt hb) q'
  have old : ∀ b o, s.heap.get? b = some o → h₁.get? b = some o := fun b o e => old2 b o (h2k b o e)
  have none0 : ∀ {a : Addr}, s₂.heap.get? a = none → s.heap.get? a = none := fun {a} ha => by
    cases e : s.heap.get? a with
    | none => rfl
    | some o => rw [h2k _ _ e] at ha; cases ha
  have hD0 : s.heap.get? s₂.heap.objs.size = none := none0 (fresh (Nat.le_refl _))
  have hC0 : s.heap.get? H2.objs.size = none := none0 (fresh (by rw [hC]; exact Nat.le_succ _))
  have hacc : h₁.get? s₂.heap.objs.size = some { cls := .type "list", data := .seq #[] } := hsb₁.extBut _ _ (fun q => by
    have q' : s₂.heap.objs.size = H2.objs.size := q
    rw [hC] at q'; omega) (Heap.get?_push_of_some _ (hH2 ▸ Heap.get?_push_size _ rfl))
  have inv : CInv hB env ρ st vs h₁ H2.objs.size s₂.heap.objs.size [] := by
    refine ⟨H.keeps old, V0.keeps H old, ⟨_, hns₁⟩, ⟨#[], ⟨0, hacc⟩, .nil⟩, fun q => ?_, H.base_none hC0, fun hm => ?_, H.base_none hD0⟩
    · obtain ⟨m, hn⟩ := V0.ns
      obtain ⟨o, _, _, e, _⟩ := hn
      rw [← q, hC0] at e; cases e
    · obtain ⟨o, e⟩ := H.live hm
      rw [hD0] at e; cases e
  have lp := loop H2.objs.size s₂.heap.objs.size h₁ (s₂.toks + ([] : List (Str × Value)).length) inv old2 hC0 hD0
  exact codeAny_compStart_list lp (self _ _ _ old2 lp)

theorem evComp_step {k : Nat} {x i j : Nat} {pt : Option PE} {pe : PE} {acc ys : List PyData} (h : evComp fns (k + 1) vs st x i j pt pe acc = some (ys, st2)) :
    ∃ xs, st[i]? = some xs ∧ ((xs[j]? = none ∧ ys = acc ∧ st2 = st) ∨ ∃ d, xs[j]? = some d ∧
      ((∃ st1 y st1', evO k (upd vs x (.d d)) st pt = some (true, st1) ∧ evE fns k (upd vs x (.d d)) st1 pe = some (.d y, st1') ∧ acc.length ≤ 1000000 ∧ evComp fns k vs st1' x i (j + 1) pt pe (acc ++ [y]) = some (ys, st2)) ∨
       (∃ st1, evO k (upd vs x (.d d)) st pt = some (false, st1) ∧ evComp fns k vs st1 x i (j + 1) pt pe acc = some (ys, st2)))) := by
  rw [evComp] at h
  cases e1 : st[i]? with
  | none => rw [e1] at h; cases h
  | some xs =>
    rw [e1] at h
    refine ⟨xs, rfl, ?_⟩
    dsimp only at h
    cases e2 : xs[j]? with
    | none => rw [e2] at h; cases h; exact .inl ⟨rfl, rfl, rfl⟩
    | some d =>
      rw [e2] at h
      refine .inr ⟨d, rfl, ?_⟩
      dsimp only at h
      replace h : (match evO k (upd vs x (.d d)) st pt with
        | some (true, st1) => (match evE fns k (upd vs x (.d d)) st1 pe with
          | some (.d y, st2) => if acc.length ≤ 1000000 then evComp fns k vs st2 x i (j + 1) pt pe (acc ++ [y]) else none
          | _ => none)
        | some (false, st1) => evComp fns k vs st1 x i (j + 1) pt pe acc
        | none => none) = some (ys, st2) := h
      cases e3 : evO k (upd vs x (.d d)) st pt with
      | none => rw [e3] at h; cases h
      | some q =>
        obtain ⟨b, st1⟩ := q
        rw [e3] at h
        cases b with
        | false => exact .inr ⟨st1, rfl, h⟩
        | true =>
          dsimp only at h
          cases e4 : evE fns k (upd vs x (.d d)) st1 pe with
          | none => rw [e4] at h; cases h
          | some q =>
            obtain ⟨u, st1'⟩ := q
            rw [e4] at h
            cases u with
            | d y =>
              dsimp only at h
              split at h
              · rename_i hl; exact .inl ⟨st1, y, st1', rfl, e4, hl, h⟩
              · cases h
            | l i => cases h
            | fz xs => cases h

theorem comp_list {x i : Nat} {scope : Scope} {cl : List (Str × Addr)} {px pos : Pos} {iter elt : Expr} {ifs : List Expr} {pt : Option PE} {pe : PE} {a : Addr} {ys : List PyData} {RR : Value → Addr → Result → Shared → Prop}
    (S : ∀ k ≤ n, Snd prog w hB mg k) (R : Room A n) (K : EnvOk env) (c : CompS env.scope.names x scope) (hcl : ∀ y, (y, .free) ∈ scope.names → cl.lookup y = env.cells.lookup y)
    (H : HOk hB ρ st s.heap) (V0 : VOk hB env ρ s.heap vs) (ea : ρ[i]? = some a) (ie : IsE (relabN env.scope.names scope.names) pe elt)
    (ht : (pt = none ∧ ifs = []) ∨ ∃ t tx, pt = some t ∧ ifs = [tx] ∧ IsE (relabN env.scope.names scope.names) t tx)
    (hev : evComp fns n vs st x i 0 pt pe [] = some (ys, st2))
    (hRR : ∀ D C h' tk ρ', CInv hB env (ρ ++ ρ') st2 vs h' C D ys → ExtS ρ ρ' [] s.heap h' → s.heap.get? C = none → s.heap.get? D = none → RR (.ref D) C (.ok .next) { s with heap := h', toks := tk }) :
    wpAny (model prog w) A (pyIter (.ref a)) (fun it s₂ => wpAny (model prog w) A (newList []) (fun acc s₃ => wpAny (model prog w) A (newFunctionEnv scope env.globals cl [] env.qual none .none (some env)) (fun cenv s₄ =>
      codeAny (model prog w) A (.compStart (.ListComp elt [⟨.Name (nm x) px, iter, ifs, 0⟩] scope pos) 0 it acc { cenv with scope := relabel scope env }) (RR acc cenv.locals) s₄) E s₃) E s₂) E s := by
  obtain ⟨xs0, ws0, hx0, ⟨k0, p0⟩, r0⟩ := H.get ea
  refine wpAny_pyIter_list ⟨_, p0, rfl, k0, rfl⟩ ?_
  have hI0 : s.heap.get? s.heap.objs.size = none := size_none _
  have hIb := H.base_none hI0
  have itNew : (s.heap.push { cls := .type "list_iterator", data := .fields #[.ref a, .int 0 0] }).IsListIter s.heap.objs.size a 0 := ⟨_, Heap.get?_push_size _ rfl, rfl, rfl⟩
  refine comp_frame (s := s) (st := st) (vs := vs) (ρ := ρ) (hB := hB) H V0 c (fun b o e => Heap.get?_push_of_some _ e) ⟨_, _, Heap.get?_push_size _ rfl, rfl⟩ hI0 (fun C D h' tk inv hk hC0 hD0 => ?_) fun s' Q E' hk hq => ?_
  · refine codeAny_compLoop_tests (fun k s' => ∃ h' tk ρ' j acc stc, s' = { s with heap := h', toks := tk } ∧ CInv hB env (ρ ++ ρ') stc vs h' C D acc ∧ ExtS ρ ρ' [] s.heap h' ∧ h'.IsListIter s.heap.objs.size a j ∧ k ≤ n ∧ evComp fns k vs stc x i j pt pe acc = some (ys, st2)) ?_ n
      ⟨h', tk, [], 0, [], st, rfl, by rw [List.append_nil]; exact inv, ExtS.keeps fun b o e => hk b o (Heap.get?_push_of_some _ e), ?_, Nat.le_refl _, hev⟩
    · rintro k s' ⟨h1, tk1, ρ1, j, acc, stc, rfl, I, X, it, hkn, hev'⟩
      cases k with
      | zero => simp [evComp] at hev'
      | succ k =>
        have ea1 : (ρ ++ ρ1)[i]? = some a := by rw [List.getElem?_append_left (List.getElem?_eq_some_iff.mp ea).1]; exact ea
        obtain ⟨xs, hxs, alt⟩ := evComp_step hev'
        obtain ⟨ws, ⟨kk, p⟩, r⟩ := I.hk.plain ea1 hxs
        have hl : h1.IsList a ws := ⟨_, p, rfl, kk, rfl⟩
        have fI : Flds h1 s.heap.objs.size := by obtain ⟨o, e, _, d⟩ := it; exact ⟨o, _, e, d⟩
        rcases alt with ⟨h2, rfl, rfl⟩ | ⟨d, hd, alt⟩
        · refine wpAny_pyNext_list_end R.handled it hl (by rw [← Array.getElem?_toList, List.getElem?_eq_none_iff, r.length]; exact List.getElem?_eq_none_iff.mp h2) fun h3 hk3 => ?_
          exact hRR D C h3 tk1 ρ1 (I.but fI hIb fun b o hb e => hk3 b o hb e) (X.but (fun b o hb e => hk3 b o hb e) hI0) hC0 hD0
        · obtain ⟨u, hu, ru⟩ := r.get hd
          refine wpAny_pyNext_list_item it hl (by rw [← Array.getElem?_toList]; exact hu) fun h3 it3 hs3 => ?_
          have hk3 : ∀ b o, b ≠ s.heap.objs.size → h1.get? b = some o → h3.get? b = some o := fun b o hb e => (hs3.2 b hb).trans e
          have I3 := I.but fI hIb hk3
          have X3 := X.but hk3 hI0
          have fI3 : Flds h3 s.heap.objs.size := by obtain ⟨o, e, _, d⟩ := it3; exact ⟨o, _, e, d⟩
          have tup3 : TupKeep h1 h3 := fun a o e c => hk3 a o (fun q => by subst q; obtain ⟨o', fs, e', d⟩ := fI; rw [e] at e'; cases e'; obtain ⟨_, vs, k, d'⟩ := c; rw [d] at d'; cases d') e
          have next : ∀ (acc' : List PyData) (stc' : Store), evComp fns k vs stc' x i (j + 1) pt pe acc' = some (ys, st2) → ∀ h4 tk4 ρ2, CInv hB env (ρ ++ ρ1 ++ ρ2) stc' vs h4 C D acc' → ExtS (ρ ++ ρ1) ρ2 [C, D] h3 h4 →
              ∃ m, m < k + 1 ∧ ∃ h' tk ρ' j acc stc, ({ s with heap := h4, toks := tk4 } : Shared) = { s with heap := h', toks := tk } ∧ CInv hB env (ρ ++ ρ') stc vs h' C D acc ∧ ExtS ρ ρ' [] s.heap h' ∧ h'.IsListIter s.heap.objs.size a j ∧ m ≤ n ∧ evComp fns m vs stc x i j pt pe acc = some (ys, st2) := by
            intro acc' stc' hev4 h4 tk4 ρ2 I4 X4
            refine ⟨k, Nat.lt_succ_self _, h4, tk4, ρ1 ++ ρ2, j + 1, acc', stc', rfl, by rw [← List.append_assoc]; exact I4, X3.new X4 (fun b hb => ?_), ?_, by omega, hev4⟩
            · rcases List.mem_cons.mp hb with rfl | hb
              · exact hC0
              · rw [List.mem_singleton.mp hb]; exact hD0
            · obtain ⟨o, e, cc, d⟩ := it3
              refine ⟨o, X4.keep _ o e (fI3.off I3.hk) (fun hm => ?_), cc, d⟩
              rcases List.mem_cons.mp hm with q | hm
              · obtain ⟨m, hn⟩ := I3.cn; exact fI3.not_ns (q ▸ hn)
              · obtain ⟨ws, p, _⟩ := I3.dl; exact fI3.not_list (List.mem_singleton.mp hm ▸ p)
          dsimp only
          rcases alt with ⟨st1, y, st1', h1e, h2e, hlen, h3e⟩ | ⟨st1, h1e, h3e⟩
          · exact comp_turn (s := { s with heap := h3, toks := tk1 }) (st2 := st1') (acc := acc) (d := d) (S k (by omega)) (R.le (by omega)) K c hcl I3 (ru.keep tup3) ie ht (.inl ⟨st1, y, hlen, h1e, h2e, fun h4 tk4 ρ2 I4 X4 => next _ _ h3e h4 tk4 ρ2 I4 X4⟩)
          · exact comp_turn (s := { s with heap := h3, toks := tk1 }) (st2 := st1) (acc := acc) (d := d) (S k (by omega)) (R.le (by omega)) K c hcl I3 (ru.keep tup3) ie ht (.inr ⟨h1e, fun h4 tk4 ρ2 I4 X4 => next _ _ h3e h4 tk4 ρ2 I4 X4⟩)
    · obtain ⟨o, e, cc, d⟩ := itNew; exact ⟨o, hk _ _ e, cc, d⟩
  · obtain ⟨o, e, cc, d⟩ := itNew
    exact wpAny_pyIter_listiter (i := 0) (l := a) ⟨o, hk _ _ e, cc, d⟩ hq
end
end Mine
end

/-! # M17 -/
section
open PySem PySem.W PyProof.Rows
namespace Mine

section
variable {prog : Program} {w : World} {hB : Heap} {mg mb : Str → Option Value} {A : Around} {env : Env} {vs : Vars} {st st' st1 st2 : Store} {n : Nat} {v : V} {e : Expr} {s : Shared} {ρ : List Addr} {E : Value → Shared → Prop} {L : Addr}

theorem evCompR_step {m k j : Nat} {x : Nat} {pe : PE} {acc ys : List PyData} (h : evCompR fns (m + 1) vs st x k j pe acc = some (ys, st2)) :
    (k = 0 ∧ ys = acc ∧ st2 = st) ∨ ∃ k' y st1, k = k' + 1 ∧ evE fns m (upd vs x (.d (.int j))) st pe = some (.d y, st1) ∧ acc.length ≤ 1000000 ∧ evCompR fns m vs st1 x k' (j + 1) pe (acc ++ [y]) = some (ys, st2) := by
  cases k with
  | zero => simp only [evCompR] at h; cases h; exact .inl ⟨rfl, rfl, rfl⟩
  | succ k =>
    rw [evCompR] at h
    refine .inr ⟨k, ?_⟩
    cases e4 : evE fns m (upd vs x (.d (.int j))) st pe with
    | none => rw [e4] at h; cases h
    | some q =>
      obtain ⟨u, st1'⟩ := q
      rw [e4] at h
      cases u with
      | d y =>
        dsimp only at h
        split at h
        · rename_i hl; exact ⟨y, st1', rfl, rfl, hl, h⟩
        · cases h
      | l i => cases h
      | fz xs => cases h

theorem comp_range {x : Nat} {K0 : Nat} {scope : Scope} {cl : List (Str × Addr)} {px pos : Pos} {iter elt : Expr} {pe : PE} {a : Addr} {t u' v' : Tok} {ys : List PyData} {RR : Value → Addr → Result → Shared → Prop}
    (S : ∀ k ≤ n, Snd prog w hB mg k) (R : Room A n) (K : EnvOk env) (c : CompS env.scope.names x scope) (hcl : ∀ y, (y, .free) ∈ scope.names → cl.lookup y = env.cells.lookup y)
    (H : HOk hB ρ st s.heap) (V0 : VOk hB env ρ s.heap vs) (hr : IsRange s.heap a 0 (K0 : Int) 1 t u' v') (hK : K0 ≤ 1000000) (ie : IsE (relabN env.scope.names scope.names) pe elt)
    (hev : evCompR fns n vs st x K0 0 pe [] = some (ys, st2))
    (hRR : ∀ D C h' tk ρ', CInv hB env (ρ ++ ρ') st2 vs h' C D ys → ExtS ρ ρ' [] s.heap h' → s.heap.get? C = none → s.heap.get? D = none → RR (.ref D) C (.ok .next) { s with heap := h', toks := tk }) :
    wpAny (model prog w) A (pyIter (.ref a)) (fun it s₂ => wpAny (model prog w) A (newList []) (fun acc s₃ => wpAny (model prog w) A (newFunctionEnv scope env.globals cl [] env.qual none .none (some env)) (fun cenv s₄ =>
      codeAny (model prog w) A (.compStart (.ListComp elt [⟨.Name (nm x) px, iter, [], 0⟩] scope pos) 0 it acc { cenv with scope := relabel scope env }) (RR acc cenv.locals) s₄) E s₃) E s₂) E s := by
  have hsize : Builtin.Range.rangeSize 0 (K0 : Int) 1 = (K0 : Int) := by rw [rangeSize_nat]; simp
  refine wpAny_pyIter_range hr (small_one (by decide) (by decide) (by omega) (by omega)) ?_
  rw [hsize]
  have hI0 : s.heap.get? s.heap.objs.size = none := size_none _
  have hIb := H.base_none hI0
  have itNew : IsRangeIter (s.heap.push { cls := .type "range_iterator", data := .fields #[rawInt 0, rawInt (K0 : Int), rawInt 1] }) s.heap.objs.size 0 (K0 : Int) 1 := Heap.get?_push_size _ rfl
  refine comp_frame (s := s) (st := st) (vs := vs) (ρ := ρ) (hB := hB) H V0 c (fun b o e => Heap.get?_push_of_some _ e) ⟨_, _, Heap.get?_push_size _ rfl, rfl⟩ hI0 (fun C D h' tk inv hk hC0 hD0 => ?_) fun s' Q E' hk hq => ?_
  · refine codeAny_compLoop_tests (fun m s' => ∃ h' tk ρ', ∃ j k : Nat, ∃ acc stc, s' = { s with heap := h', toks := tk } ∧ CInv hB env (ρ ++ ρ') stc vs h' C D acc ∧ ExtS ρ ρ' [] s.heap h' ∧ IsRangeIter h' s.heap.objs.size (j : Int) (k : Int) 1 ∧ m ≤ n ∧ evCompR fns m vs stc x k j pe acc = some (ys, st2)) ?_ n
      ⟨h', tk, [], 0, K0, [], st, rfl, by rw [List.append_nil]; exact inv, ExtS.keeps fun b o e => hk b o (Heap.get?_push_of_some _ e), hk _ _ itNew, Nat.le_refl _, hev⟩
    rintro m s' ⟨h1, tk1, ρ1, j, k, acc, stc, rfl, I, X, it, hkn, hev'⟩
    cases m with
    | zero => simp [evCompR] at hev'
    | succ m =>
      have fI : Flds h1 s.heap.objs.size := ⟨_, _, it, rfl⟩
      rcases evCompR_step hev' with ⟨rfl, rfl, rfl⟩ | ⟨k', y, st1, rfl, he, hlen, hrest⟩
      · refine wpAny_pyNext_range_end R.handled it (by simp) fun h3 hk3 => ?_
        exact hRR D C h3 tk1 ρ1 (I.but fI hIb fun b o hb e => hk3 b o hb e) (X.but (fun b o hb e => hk3 b o hb e) hI0) hC0 hD0
      · refine wpAny_pyNext_range_item it (by omega) fun h3 it3 hs3 => ?_
        have hk3 : ∀ b o, b ≠ s.heap.objs.size → h1.get? b = some o → h3.get? b = some o := fun b o hb e => (hs3.2 b hb).trans e
        have I3 := I.but fI hIb hk3
        have X3 := X.but hk3 hI0
        have fI3 : Flds h3 s.heap.objs.size := ⟨_, _, it3, rfl⟩
        dsimp only
        refine comp_turn (s := { s with heap := h3, toks := tk1 + 1 }) (st2 := st1) (acc := acc) (d := .int j) (pt := none) (S m (by omega)) (R.le (by omega)) K c hcl I3 (.int _ _) ie (.inl ⟨rfl, rfl⟩) (.inl ⟨_, y, hlen, rfl, he, fun h4 tk4 ρ2 I4 X4 => ?_⟩)
        refine ⟨m, Nat.lt_succ_self _, h4, tk4, ρ1 ++ ρ2, j + 1, k', acc ++ [y], st1, rfl, by rw [← List.append_assoc]; exact I4, X3.new X4 (fun b hb => ?_), ?_, by omega, hrest⟩
        · rcases List.mem_cons.mp hb with rfl | hb
          · exact hC0
          · rw [List.mem_singleton.mp hb]; exact hD0
        · have e : h4.get? s.heap.objs.size = _ := X4.keep _ _ it3 (fI3.off I3.hk) (fun hm => by
            rcases List.mem_cons.mp hm with q | hm
            · obtain ⟨m, hn⟩ := I3.cn; exact fI3.not_ns (q ▸ hn)
            · obtain ⟨ws, p, _⟩ := I3.dl; exact fI3.not_list (List.mem_singleton.mp hm ▸ p))
          have e1 : (j : Int) + 1 = ((j + 1 : Nat) : Int) := by omega
          have e2 : ((k' + 1 : Nat) : Int) - 1 = (k' : Int) := by omega
          rw [e1, e2] at e
          exact e
  · exact wpAny_pyIter_rangeiter (hk _ _ itNew) hq

theorem HOk.join {h : Heap} {D : Addr} {ws : Array Value} {xs : List PyData} (H : HOk hB ρ st h) (hD : D ∉ ρ) (hB0 : hB.get? D = none) (p : h.PlainList D ws) (r : RIs h ws.toList xs) : HOk hB (ρ ++ [D]) (st ++ [xs]) h := by
  refine ⟨H.base, by simp [H.len], fun i a ys e1 e2 => ?_, ?_, fun a ha => ?_⟩
  · by_cases hi : i < ρ.length
    · rw [List.getElem?_append_left hi] at e1
      rw [List.getElem?_append_left (H.len ▸ hi)] at e2
      exact H.lists i a ys e1 e2
    · have hi' : ρ.length ≤ i := Nat.not_lt.mp hi
      rw [List.getElem?_append_right hi'] at e1
      rw [List.getElem?_append_right (H.len ▸ hi')] at e2
      have h0 : i - ρ.length = 0 := by
        cases q : i - ρ.length with
        | zero => rfl
        | succ k => rw [q] at e1; simp at e1
      rw [h0] at e1
      rw [← H.len, h0] at e2
      simp at e1 e2
      subst e1 e2
      exact ⟨ws, p, r⟩
  · rw [List.nodup_append]
    exact ⟨H.nodup, by simp, fun a ha b hb q => by
      rw [List.mem_singleton.mp hb] at q
      exact hD (q ▸ ha)⟩
  · rcases List.mem_append.mp ha with hm | hm
    · exact H.fresh a hm
    · rw [List.mem_singleton.mp hm]; exact hB0

theorem CInv.letC {h h' : Heap} {C D : Addr} {acc : List PyData} (I : CInv hB env ρ st vs h C D acc) (hs : Heap.SameBut C h h') : HOk hB (ρ ++ [D]) (st ++ [acc]) h' := by
  obtain ⟨m, hn⟩ := I.cn
  have hk : ∀ b o, b ≠ C → h.get? b = some o → h'.get? b = some o := fun b o hb e => (hs.2 b hb).trans e
  have tup : TupKeep h h' := fun a o e c => hk a o (fun q => by subst q; obtain ⟨_, vs, k, d⟩ := c; exact ns_no_seq hn e d) e
  obtain ⟨ws, p, r⟩ := I.dl
  refine HOk.join (ws := ws) ⟨fun a o e => hk a o (fun q => by rw [q, I.hC] at e; cases e) (I.hk.base a o e), I.hk.len, fun i a xs e1 e2 => ?_, I.hk.nodup, I.hk.fresh⟩ I.Dρ I.hD (p.at fun o e => hk _ o (Ne.symm I.CD) e) (r.keep tup)
  obtain ⟨ws, p, r⟩ := I.hk.lists i a xs e1 e2
  exact ⟨ws, p.at fun o e => hk a o (fun q => I.Cρ (q ▸ List.mem_of_getElem? e1)) e, r.keep tup⟩

/-- how a comprehension ends, as a value -/
theorem comp_done {ys : List PyData} {Q : Value → Shared → Prop} {C D : Addr} {h' : Heap} {tk : Nat} {ρ' : List Addr} (P : Post hB ρ env.locals s (st2 ++ [ys]) (fun ρ h u => RV hB ρ h u (.l st2.length)) Q) (H : HOk hB ρ st s.heap) (V0 : VOk hB env ρ s.heap vs)
    (I : CInv hB env (ρ ++ ρ') st2 vs h' C D ys) (X : ExtS ρ ρ' [] s.heap h') (hC0 : s.heap.get? C = none) (hD0 : s.heap.get? D = none) :
    compPost (model prog w) A E none Q (.ref D) C (.ok .next) { s with heap := h', toks := tk } := by
  obtain ⟨m, hn⟩ := I.cn
  refine ⟨m, hn, fun h'' hs => ?_⟩
  have hk : ∀ b o, b ≠ C → h'.get? b = some o → h''.get? b = some o := fun b o hb e => (hs.2 b hb).trans e
  have neC : ∀ {a : Addr} {o : Obj}, s.heap.get? a = some o → a ≠ C := fun {a o} e q => by rw [q, hC0] at e; cases e
  have H2 := I.letC hs
  rw [List.append_assoc] at H2
  obtain ⟨mL, hnL⟩ := V0.ns
  refine P _ h'' tk (ρ' ++ [D]) H2 ⟨fun a o e ha _ => hk a o (neC e) (X.keep a o e ha fun q => nomatch q), fun m' n => ?_, fun a o e c => hk a o (neC e) (X.tup a o e c), fun a o e => ?_, fun a ha => ?_⟩ (.l ?_)
  · exact n.at' fun o e => hk _ o (neC e) (X.keep _ o e (H.ns_off n) fun q => nomatch q)
  · obtain ⟨o', e'⟩ := X.live a o e
    exact ⟨o', hk a o' (neC e) e'⟩
  · rcases List.mem_append.mp ha with hm | hm
    · exact X.fresh a hm
    · rw [List.mem_singleton.mp hm]; exact hD0
  · rw [← List.append_assoc, ← I.hk.len]; simp

theorem folded_none {N : Names} {p : PE} {x : Expr} (i : IsE N p x) (hp : p ≠ .no) (env : Env) (u : Value) : foldedSetIterable x env u = pure u := by
  cases i <;> first | rfl | exact absurd rfl hp

theorem comp_clos (K : EnvOk env) {x : Nat} {scope : Scope} (c : CompS env.scope.names x scope) : ∃ cl, closureFor scope env = pure cl ∧ ∀ y, (y, .free) ∈ scope.names → cl.lookup y = env.cells.lookup y :=
  closure_ok fun y hy hf => K.cells y.1 (c.free y hy hf)

/-- the source of a comprehension over a list, then its loop, whatever its end -/
theorem comp_srcL {x i : Nat} {scope : Scope} {px pos : Pos} {iter elt : Expr} {ifs : List Expr} {src : PE} {pt : Option PE} {pe : PE} {ys : List PyData} {use : Option (Value → Sem Unit)} {Q : Value → Shared → Prop}
    (S : ∀ k ≤ n, Snd prog w hB mg k) (R : Room A n) (K : EnvOk env) (c : CompS env.scope.names x scope) (is : IsE env.scope.names src iter) (ie : IsE (relabN env.scope.names scope.names) pe elt)
    (ht : (pt = none ∧ ifs = []) ∨ ∃ t tx, pt = some t ∧ ifs = [tx] ∧ IsE (relabN env.scope.names scope.names) t tx)
    (hs : evE fns n vs st src = some (.l i, st1)) (hev : evComp fns n vs st1 x i 0 pt pe [] = some (ys, st2))
    (H : HOk hB ρ st s.heap) (V0 : VOk hB env ρ s.heap vs)
    (hRR : ∀ (h1 : Heap) (tk1 : Nat) (ρ1 : List Addr), HOk hB (ρ ++ ρ1) st1 h1 → VOk hB env (ρ ++ ρ1) h1 vs → Ext ρ ρ1 env.locals s.heap h1 → ∀ D C h' tk ρ', CInv hB env (ρ ++ ρ1 ++ ρ') st2 vs h' C D ys → ExtS (ρ ++ ρ1) ρ' [] h1 h' → h1.get? C = none → h1.get? D = none → compPost (model prog w) A E use Q (.ref D) C (.ok .next) { s with heap := h', toks := tk }) :
    wpAny (model prog w) A (comprehension (.ListComp elt [⟨.Name (nm x) px, iter, ifs, 0⟩] scope pos) scope env (firstIterPos [⟨.Name (nm x) px, iter, ifs, 0⟩] pos) (newList []) (firstAsync [⟨.Name (nm x) px, iter, ifs, 0⟩]) (firstIter [⟨.Name (nm x) px, iter, ifs, 0⟩] env) use) Q E s := by
  obtain ⟨cl, hclos, hcl⟩ := comp_clos K c
  refine wpAny_comprehension_free (use := use) rfl (folded_none is (fun q => evE_no (q ▸ hs)) env) hclos c.kind c.names ?_
  refine S n (Nat.le_refl _) |>.e R K is hs s ρ _ E H V0 fun u h1 tk1 ρ1 H1 X1 r1 => ?_
  obtain ⟨a, rfl, ea⟩ := r1.lst_inv
  exact comp_list (s := { s with heap := h1, toks := tk1 }) S R K c hcl H1 (V0.ext H X1) ea ie ht hev fun D C h' tk ρ' I X hC hD => hRR h1 tk1 ρ1 H1 (V0.ext H X1) X1 D C h' tk ρ' I X hC hD

theorem n_comp {x i : Nat} {scope : Scope} {px pos : Pos} {iter elt : Expr} {ifs : List Expr} {src : PE} {pt : Option PE} {pe : PE} {ys : List PyData}
    (S : ∀ k ≤ n, Snd prog w hB mg k) (R : Room A n) (K : EnvOk env) (c : CompS env.scope.names x scope) (is : IsE env.scope.names src iter) (ie : IsE (relabN env.scope.names scope.names) pe elt)
    (ht : (pt = none ∧ ifs = []) ∨ ∃ t tx, pt = some t ∧ ifs = [tx] ∧ IsE (relabN env.scope.names scope.names) t tx)
    (hs : evE fns n vs st src = some (.l i, st1)) (hev : evComp fns n vs st1 x i 0 pt pe [] = some (ys, st2)) :
    Sw prog w hB A env vs st (eval (.ListComp elt [⟨.Name (nm x) px, iter, ifs, 0⟩] scope pos) env) (fun ρ h u => RV hB ρ h u (.l st2.length)) (st2 ++ [ys]) := by
  intro s ρ Q E H V0 P
  rw [eval_ListComp]
  refine comp_srcL S R K c is ie ht hs hev H V0 fun h1 tk1 ρ1 H1 V1 X1 D C h' tk ρ' I X hC hD => ?_
  have P1 := P.after (tk := tk1) X1
  exact comp_done (s := { s with heap := h1, toks := tk1 }) P1 H1 V1 I X hC hD

theorem comp_srcR {x K0 : Nat} {scope : Scope} {px pos p2 p3 : Pos} {cnt elt : Expr} {pc pe : PE} {ys : List PyData} {use : Option (Value → Sem Unit)} {Q : Value → Shared → Prop} (T : TopF mg mb hB)
    (S : ∀ k ≤ n, Snd prog w hB mg k) (R : Room A n) (K : EnvOk env) (c : CompS env.scope.names x scope) (hg : glob env.scope.names "range") (is : IsE env.scope.names pc cnt) (ie : IsE (relabN env.scope.names scope.names) pe elt)
    (hs : evE fns n vs st pc = some (.d (.int (K0 : Int)), st1)) (hK : K0 ≤ 1000000) (hev : evCompR fns n vs st1 x K0 0 pe [] = some (ys, st2))
    (H : HOk hB ρ st s.heap) (V0 : VOk hB env ρ s.heap vs)
    (hRR : ∀ (h1 : Heap) (tk1 : Nat) (ρ1 : List Addr), HOk hB (ρ ++ ρ1) st1 h1 → VOk hB env (ρ ++ ρ1) h1 vs → Ext ρ ρ1 env.locals s.heap h1 → ∀ D C h' tk ρ', CInv hB env (ρ ++ ρ1 ++ ρ') st2 vs h' C D ys → ExtS (ρ ++ ρ1) ρ' [] h1 h' → h1.get? C = none → h1.get? D = none → compPost (model prog w) A E use Q (.ref D) C (.ok .next) { s with heap := h', toks := tk }) :
    wpAny (model prog w) A (comprehension (.ListComp elt [⟨.Name (nm x) px, .Call (.Name "range" p2) [cnt] [] p3, [], 0⟩] scope pos) scope env (firstIterPos [⟨.Name (nm x) px, .Call (.Name "range" p2) [cnt] [] p3, [], 0⟩] pos) (newList []) (firstAsync [⟨.Name (nm x) px, .Call (.Name "range" p2) [cnt] [] p3, [], 0⟩]) (firstIter [⟨.Name (nm x) px, .Call (.Name "range" p2) [cnt] [] p3, [], 0⟩] env) use) Q E s := by
  obtain ⟨cl, hclos, hcl⟩ := comp_clos K c
  refine wpAny_comprehension_free (use := use) rfl (fun _ => rfl) hclos c.kind c.names ?_
  have tb := T.blt (x := "range") (b := .type "range") (by simp)
  show wpAny (model prog w) A (eval (.Call (.Name "range" p2) [cnt] [] p3) env) _ E s
  refine Call_Name rfl (sw_builtin K T.g tb.1 T.b tb.2 hg (by decide +kernel) H.base ?_)
  refine PyProof.Rows.callWith_type1 (one_arg (S n (Nat.le_refl _)) R K is hs s ρ _ E H V0 fun us h1 tk ρ1 H1 X1 r1 => ?_) (star_eq is (fun q => evE_no (q ▸ hs)) env []) rfl
  obtain ⟨y, rfl, r1⟩ := r1
  obtain ⟨t, rfl⟩ := r1.int_inv
  refine call_range_1 ?_
  have hk : ∀ b o, h1.get? b = some o → (h1.push { cls := .type "range", data := .fields #[.int 0 tk, .int (K0 : Int) t, .int 1 (tk + 1)] }).get? b = some o := fun b o e => Heap.get?_push_of_some _ e
  have X2 : Ext ρ ρ1 env.locals s.heap (h1.push { cls := .type "range", data := .fields #[.int 0 tk, .int (K0 : Int) t, .int 1 (tk + 1)] }) := by
    have := X1.trans (Ext.push (ρ := ρ ++ ρ1) (L := env.locals) h1 { cls := .type "range", data := .fields #[.int 0 tk, .int (K0 : Int) t, .int 1 (tk + 1)] })
    simpa using this
  exact comp_range (s := { s with heap := h1.push { cls := .type "range", data := .fields #[.int 0 tk, .int (K0 : Int) t, .int 1 (tk + 1)] }, toks := tk + 1 + 1 }) S R K c hcl (H1.keeps hk) ((V0.ext H X1).keeps H1 hk) (IsRange.new ..) hK ie hev
    fun D C h' tk ρ' I X hC hD => hRR _ (tk + 1 + 1) ρ1 (H1.keeps hk) ((V0.ext H X1).keeps H1 hk) X2 D C h' tk ρ' I X hC hD

theorem n_compR {x K0 : Nat} {scope : Scope} {px pos p2 p3 : Pos} {cnt elt : Expr} {pc pe : PE} {ys : List PyData} (T : TopF mg mb hB)
    (S : ∀ k ≤ n, Snd prog w hB mg k) (R : Room A n) (K : EnvOk env) (c : CompS env.scope.names x scope) (hg : glob env.scope.names "range") (is : IsE env.scope.names pc cnt) (ie : IsE (relabN env.scope.names scope.names) pe elt)
    (hs : evE fns n vs st pc = some (.d (.int (K0 : Int)), st1)) (hK : K0 ≤ 1000000) (hev : evCompR fns n vs st1 x K0 0 pe [] = some (ys, st2)) :
    Sw prog w hB A env vs st (eval (.ListComp elt [⟨.Name (nm x) px, .Call (.Name "range" p2) [cnt] [] p3, [], 0⟩] scope pos) env) (fun ρ h u => RV hB ρ h u (.l st2.length)) (st2 ++ [ys]) := by
  intro s ρ Q E H V0 P
  rw [eval_ListComp]
  refine comp_srcR T S R K c hg is ie hs hK hev H V0 fun h1 tk1 ρ1 H1 V1 X1 D C h' tk ρ' I X hC hD => ?_
  have P1 := P.after (tk := tk1) X1
  exact comp_done (s := { s with heap := h1, toks := tk1 }) P1 H1 V1 I X hC hD
end
end Mine
end

/-! # M18 -/
section
open PySem PySem.W PyProof.Rows
namespace Mine
open PySem.MeetsSeq

section
variable {prog : Program} {w : World} {hB : Heap} {mg mb : Str → Option Value} {A : Around} {env : Env} {vs : Vars} {st st' st1 st2 : Store} {n : Nat} {v : V} {e : Expr} {s : Shared} {ρ : List Addr} {E : Value → Shared → Prop} {L : Addr}

theorem kat_ltz {fin : Bool} {Q : Bool → Shared → Prop} : ∀ {l : List (Value × Value)} {r : Bool}, LtZ (fin = false) l r → Q r s → ∀ i, KatLex prog w A true fin Q l i s
  | _, _, .nil h, hq, i => kat_nil (h ▸ hq)
  | _, _, .eq (a := a) (t := t) (u := u) r, hq, i => kat_cons ((eqGives_str a a t u) prog w _ _ _ _ (by rw [beq_self_eq_true]; exact kat_yes (kat_ltz r hq (i + 1))))
  | _, _, .ne (a := a) (c := c) (t := t) (u := u) (r := r) hne, hq, i => kat_cons ((eqGives_str a c t u) prog w _ _ _ _ (by
      rw [beq_eq_false_iff_ne.mpr hne]
      refine kat_no ?_
      cases q : (true && i == 0) with
      | true => exact oneLt_str hq
      | false => exact kat_one _ _ (PyProof.Rows.lt_str hq)))

theorem key_lt {x y : PyData} {r : Bool} {u v : Value} {Q : Bool → Shared → Prop} (hr : keyLess x y = some r) (hu : RI s.heap u x) (hv : RI s.heap v y) (hq : Q r s) : wpAny (model prog w) A (keyLt' (tuples' true) u v) Q E s := by
  unfold keyLess at hr
  split at hr
  · rename_i xs ys
    obtain ⟨a, ws, rfl, ⟨ox, ha, hca, n1, hda⟩, ra⟩ := hu.at
    obtain ⟨b, zs, rfl, ⟨oy, hb, hcb, n2, hdb⟩, rb⟩ := hv.at
    refine kat_lt ha hda hb hdb (kat_ltz (ltZ_of ra rb hr fun hl => ?_) hq 0)
    rw [ra.size, rb.size, hl]
    exact decide_eq_false (Nat.lt_irrefl _)
  · cases hr

theorem RIs.getD {h : Heap} {ws : List Value} {xs : List PyData} (r : RIs h ws xs) (i : Nat) : RI h (ws.getD i .none) (xs.getD i .none) := by
  by_cases hi : i < xs.length
  · obtain ⟨v, hv, rv⟩ := r.get (List.getElem?_eq_getElem hi)
    rw [List.getD_eq_getElem?_getD, List.getD_eq_getElem?_getD, hv, List.getElem?_eq_getElem hi]
    exact rv
  · rw [List.getD_eq_getElem?_getD, List.getD_eq_getElem?_getD, List.getElem?_eq_none (by rw [r.length]; omega), List.getElem?_eq_none (by omega)]
    exact .none
theorem RIs.getDs {h : Heap} {ws : List Value} {xs : List PyData} (r : RIs h ws xs) : ∀ (p : List Nat), RIs h (p.map fun i => ws.getD i .none) (p.map fun i => xs.getD i .none)
  | [] => .nil
  | i :: p => .cons (r.getD i) (r.getDs p)

theorem run_asks {α : Type} {ks : List Value} {kds : List PyData} {G : α → Shared → Prop} : ∀ (t : KasT α) (a : α) (s : Shared), RIs s.heap ks kds → runKas kds t = some a → G a s → t.kasWp (kas_ask prog w A (tuples' true) ks) G s
  | .ret b, a, s, _, e, h => by cases e; exact h
  | .ask i j k, a, s, r, e, h => by
    unfold runKas at e
    split at e
    · rename_i x y hx hy
      split at e
      · rename_i b hb
        have h1 : RI s.heap (ks.getD i .none) x := by have := r.getD i; rw [List.getD_eq_getElem?_getD (l := kds), hx] at this; exact this
        have h2 : RI s.heap (ks.getD j .none) y := by have := r.getD j; rw [List.getD_eq_getElem?_getD (l := kds), hy] at this; exact this
        exact key_lt hb h1 h2 (run_asks (k b) a s r e h)
      · cases e
    · cases e

theorem tups_of {h : Heap} : ∀ {ks : List Value} {kds : List PyData}, RIs h ks kds → kds.all firstStr = true → ∃ fs, KatTups h ks fs ∧ fs.length = ks.length ∧ ∀ v ∈ fs, ∃ a t, v = Value.str a t
  | [], _, r, _ => ⟨[], .nil, rfl, fun _ h => nomatch h⟩
  | k :: ks, _, r, hf => by
    cases r with | cons r1 r2 =>
    rename_i d ds
    rw [List.all_cons, Bool.and_eq_true] at hf
    obtain ⟨fs, ht, hl, hs⟩ := tups_of r2 hf.2
    have h1 := hf.1
    unfold firstStr at h1
    split at h1
    · rename_i x rest
      obtain ⟨a, ws, rfl, ⟨o, ha, hc, n, hd⟩, ra⟩ := r1.at
      obtain ⟨u, hu, ru⟩ := ra.get (i := 0) (d := .str x) rfl
      cases ru
      rename_i t
      refine ⟨.str x t :: fs, .cons ha hc hd (by rw [← Array.getElem?_toList]; exact hu) ht, by simp [hl], fun v hv => ?_⟩
      rcases List.mem_cons.mp hv with rfl | hv
      · exact ⟨_, _, rfl⟩
      · exact hs v hv
    · cases h1

/-- the sort's heap: its two lists D and kS, apart from the store -/
structure SInv (hB : Heap) (ρ ρ' : List Addr) (h₀ : Heap) (L : Addr) (m : Str → Option Value) (D kS : Addr) (e1 : Nat) (st : Store) (h : Heap) (ks : List Value) (e : Nat) : Prop where
  hk : HOk hB (ρ ++ ρ') st h
  xs : ExtS ρ ρ' [L] h₀ h
  ns : h.Ns L m
  dl : h.get? D = some (seqObj "list" #[] e1)
  kl : h.get? kS = some (seqObj "list" ks.toArray e)
  d0 : h₀.get? D = none
  k0 : h₀.get? kS = none
  dρ : D ∉ ρ ++ ρ'
  kρ : kS ∉ ρ ++ ρ'
  dk : D ≠ kS
  dL : D ≠ L
  kL : kS ≠ L
  bL : hB.get? L = none
  bD : hB.get? D = none
  bK : hB.get? kS = none

noncomputable def ledgerBut (h : Heap) (L a : Addr) : List (Addr × Obj) := (ledger h L).filter fun p => p.1 ≠ a
theorem mem_ledgerBut {h : Heap} {L a b : Addr} {o : Obj} : (b, o) ∈ ledgerBut h L a ↔ h.get? b = some o ∧ b ≠ L ∧ b ≠ a := by
  unfold ledgerBut
  rw [List.mem_filter, mem_ledger]
  simp [and_assoc]
theorem but_news {h : Heap} {L a : Addr} {o : Obj} (ha : h.get? a = some o) (hL : a ≠ L) : News h0 L h ((a, o) :: ledgerBut h L a) := fun p hp => by
  rcases List.mem_cons.mp hp with rfl | hp
  · exact ⟨ha, hL, h0_none _⟩
  · obtain ⟨b, o'⟩ := p
    obtain ⟨e, h1, _⟩ := mem_ledgerBut.mp hp
    exact ⟨e, h1, h0_none _⟩
theorem but_upd {h : Heap} {L a : Addr} {o : Obj} : UpdF a o ((a, o) :: ledgerBut h L a) (fun o' => (a, o') :: ledgerBut h L a) := .head fun p hp => (mem_ledgerBut (b := p.1) (o := p.2).mp hp).2.2
theorem but_keep {h h' : Heap} {L a : Addr} {o : Obj} (N : News h0 L h' ((a, o) :: ledgerBut h L a)) : ∀ b o', b ∉ [L, a] → h.get? b = some o' → h'.get? b = some o' := fun b o' hb e => by
  simp only [List.mem_cons, List.not_mem_nil, or_false, not_or] at hb
  exact N.get (.tail _ (mem_ledgerBut.mpr ⟨e, hb.1, hb.2⟩))

theorem HOk.butX {h h' : Heap} {X : List Addr} (H : HOk hB ρ st h) (hk : ∀ b o, b ∉ X → h.get? b = some o → h'.get? b = some o) (hX : ∀ a ∈ X, a ∉ ρ ∧ hB.get? a = none) (tup : TupKeep h h') : HOk hB ρ st h' := by
  refine ⟨fun a o e => hk a o (fun q => by rw [(hX a q).2] at e; cases e) (H.base a o e), H.len, fun i a xs e1 e2 => ?_, H.nodup, H.fresh⟩
  obtain ⟨ws, p, r⟩ := H.lists i a xs e1 e2
  exact ⟨ws, p.at fun o e => hk a o (fun q => (hX a q).1 (List.mem_of_getElem? e1)) e, r.keep tup⟩

section
variable {h₀ h h' : Heap} {ρ' : List Addr} {m : Str → Option Value} {D kS : Addr} {e1 e : Nat} {ks : List Value}
theorem SInv.tup (I : SInv hB ρ ρ' h₀ L m D kS e1 st h ks e) {a : Addr} (ha : a = kS ∨ a = D) (hk : ∀ b o, b ∉ [L, a] → h.get? b = some o → h'.get? b = some o) : TupKeep h h' := fun b o e c => by
  refine hk b o (fun q => ?_) e
  rcases List.mem_cons.mp q with rfl | q
  · obtain ⟨_, vs, k, d⟩ := c; exact ns_no_seq I.ns e d
  · rw [List.mem_singleton.mp q] at e
    rcases ha with rfl | rfl
    · rw [I.kl] at e; cases e; exact absurd (show Value.type "list" = Value.type "tuple" from c.1) (by decide)
    · rw [I.dl] at e; cases e; exact absurd (show Value.type "list" = Value.type "tuple" from c.1) (by decide)
/-- one of the two lists changes -/
theorem SInv.change (I : SInv hB ρ ρ' h₀ L m D kS e1 st h ks e) {a : Addr} (ha : a = kS ∨ a = D) (hk : ∀ b o, b ∉ [L, a] → h.get? b = some o → h'.get? b = some o) (hn : h'.Ns L m) :
    HOk hB (ρ ++ ρ') st h' ∧ ExtS ρ ρ' [L] h₀ h' := by
  have tup := I.tup ha hk
  have a0 : h₀.get? a = none := by
    rcases ha with rfl | rfl
    · exact I.k0
    · exact I.d0
  refine ⟨I.hk.butX hk (fun b hb => ?_) tup, fun b o e1 h1 h2 => ?_, fun b o e c => tup b o (I.xs.tup b o e c) c, fun b o e1 => ?_, I.xs.fresh⟩
  · rcases List.mem_cons.mp hb with rfl | hb
    · exact ⟨I.hk.ns_off I.ns, I.bL⟩
    · rw [List.mem_singleton.mp hb]
      rcases ha with rfl | rfl
      · exact ⟨I.kρ, I.bK⟩
      · exact ⟨I.dρ, I.bD⟩
  · refine hk b o (fun q => ?_) (I.xs.keep b o e1 h1 h2)
    rcases List.mem_cons.mp q with rfl | q
    · exact h2 List.mem_cons_self
    · rw [List.mem_singleton.mp q, a0] at e1; cases e1
  · obtain ⟨o', e'⟩ := I.xs.live b o e1
    by_cases q : b = L
    · subst q; obtain ⟨o', _, _, ho', _⟩ := hn; exact ⟨o', ho'⟩
    · refine ⟨o', hk b o' (fun hm => ?_) e'⟩
      rcases List.mem_cons.mp hm with hm | hm
      · exact q hm
      · rw [List.mem_singleton.mp hm, a0] at e1; cases e1
end

theorem evKeys_step {k f : Nat} {x : PyData} {r kds : List PyData} (h : evKeys fns (k + 1) f (x :: r) st = some (kds, st2)) : ∃ kd st1 rest, evF fns k f [.d x] st = some (.d kd, st1) ∧ evKeys fns k f r st1 = some (rest, st2) ∧ kds = kd :: rest := by
  rw [evKeys] at h
  cases e1 : evF fns k f [.d x] st with
  | none => rw [e1] at h; cases h
  | some q =>
    obtain ⟨u, st1⟩ := q
    rw [e1] at h
    cases u with
    | d kd =>
      dsimp only at h
      cases e2 : evKeys fns k f r st1 with
      | none => rw [e2] at h; cases h
      | some q =>
        obtain ⟨rest, st3⟩ := q
        rw [e2] at h
        cases h
        exact ⟨kd, st1, rest, rfl, e2, rfl⟩
    | l i => cases h
    | fz xs => cases h

theorem sort_keys {f : Nat} {fa : Addr} {D kS : Addr} {e1 : Nat} {m : Str → Option Value} {Fin : List Value → Nat → Shared → Prop} (S : ∀ k ≤ n, Snd prog w hB mg k) (hf : f < 14) (hm : mg (fnm f) = some (.ref fa)) :
    ∀ (k : Nat), k ≤ n → (∀ j, j < k → Room A j) → ∀ (xs : List PyData) (us ks : List Value) (pre kds : List PyData) (st : Store) (ρ' : List Addr) (h : Heap) (tk e : Nat), SInv hB ρ ρ' s.heap L m D kS e1 st h ks e → RIs h us xs → RIs h ks pre →
      evKeys fns k f xs st = some (kds, st2) → (∀ h' tk' ρ'' ks' e', SInv hB ρ ρ'' s.heap L m D kS e1 st2 h' ks' e' → (∀ a o, s.heap.get? a = some o → (o.cls = .type "tuple" ∧ ∃ vs n, o.data = .seq vs n) → h'.get? a = some o) → RIs h' ks' (pre ++ kds) → TupKeep h h' → Fin ks' e' { s with heap := h', toks := tk' }) →
      KatKeys prog w A h0 L m kS (.ref fa) Fin us ks e { s with heap := h, toks := tk }
  | 0, _, _, xs, us, ks, pre, kds, st, ρ', h, tk, e, I, ru, rk, he, hF => by simp [evKeys] at he
  | k + 1, hk, R, xs, us, ks, pre, kds, st, ρ', h, tk, e, I, ru, rk, he, hF => by
    cases xs with
    | nil =>
      rw [evKeys] at he
      cases he
      cases ru
      refine KatKeys.nil (hF h tk ρ' ks e I I.xs.tup (by rw [List.append_nil]; exact rk) fun _ _ e _ => e)
    | cons x r =>
      obtain ⟨kd, st1, rest, h1, h2, rfl⟩ := evKeys_step he
      cases ru with | cons r1 r2 =>
      refine KatKeys.cons ((S k (by omega)).f (R k (Nat.lt_succ_self _)) hf hm h1 _ (ρ ++ ρ') [_] _ _ I.hk ⟨.d r1, trivial⟩ fun u h2' tk2 ρ2 H2 X2 ru => ?_)
      cases ru with | d ru =>
      have dl2 := X2.keep D _ I.dl I.dρ
      have kl2 := X2.keep kS _ I.kl I.kρ
      have hn2 : h2'.Ns L m := I.ns.at' fun o e => X2.keep L o e (I.hk.ns_off I.ns)
      have X2' := I.xs.trans (ρ₂ := ρ2) ⟨fun a o e h1 _ => X2.keep a o e h1, X2.tup, X2.live, X2.fresh⟩
      rw [List.append_assoc] at H2
      have I2 : SInv hB ρ (ρ' ++ ρ2) s.heap L m D kS e1 st1 h2' ks e := by
        refine ⟨H2, X2', hn2, dl2, kl2, I.d0, I.k0, fun hm => ?_, fun hm => ?_, I.dk, I.dL, I.kL, I.bL, I.bD, I.bK⟩
        · rw [← List.append_assoc] at hm
          rcases List.mem_append.mp hm with hm | hm
          · exact I.dρ hm
          · have := X2.fresh D hm; rw [show (Shared.heap { s with heap := h, toks := tk }) = h from rfl, I.dl] at this; cases this
        · rw [← List.append_assoc] at hm
          rcases List.mem_append.mp hm with hm | hm
          · exact I.kρ hm
          · have := X2.fresh kS hm; rw [show (Shared.heap { s with heap := h, toks := tk }) = h from rfl, I.kl] at this; cases this
      refine KatBack.intro (g := fun o' => (kS, o') :: ledgerBut h2' L kS) (fr0 hn2) (but_news kl2 I.kL) but_upd fun h3 c F3 N3 => ?_
      have hk3 := but_keep N3
      obtain ⟨H3, X3⟩ := I2.change (.inl rfl) hk3 F3.ns
      have tup3 := I2.tup (.inl rfl) hk3
      have I3 : SInv hB ρ (ρ' ++ ρ2) s.heap L m D kS e1 st1 h3 (ks ++ [u]) c := ⟨H3, X3, F3.ns, hk3 D _ (fun q => by
        rcases List.mem_cons.mp q with q | q
        · exact I.dL q
        · exact I.dk (List.mem_singleton.mp q)) dl2, N3.get (.head _), I.d0, I.k0, I2.dρ, I2.kρ, I.dk, I.dL, I.kL, I.bL, I.bD, I.bK⟩
      have tup13 : TupKeep h h3 := fun a o e c => tup3 a o (X2.tup a o e c) c
      refine sort_keys S hf hm k (by omega) (fun j hj => R j (Nat.lt_succ_of_lt hj)) r _ (ks ++ [u]) (pre ++ [kd]) rest st1 (ρ' ++ ρ2) h3 tk2 c I3 (r2.keep tup13) ((rk.keep tup13).append (.one (ru.keep tup3))) h2 fun h' tk' ρ'' ks' e' I' ht hk' tt => ?_
      exact hF h' tk' ρ'' ks' e' I' ht (by rw [List.append_assoc] at hk'; exact hk') fun a o e c => tt a o (tup13 a o e c) c

theorem n_sortk {a : PE} {f j : Nat} {x : Expr} {xs ks ys : List PyData} {p1 p2 p3 pos : Pos} (T : TopF mg mb hB) (S : ∀ k ≤ n, Snd prog w hB mg k) (R : Room A n) (R2 : ∀ k, k < n → Room A.in1.in1 k) (K : EnvOk env) (hg : glob env.scope.names "sorted") (hf : f < 14) (hgf : glob env.scope.names (fnm f)) (ia : IsE env.scope.names a x)
    (ha : evE fns n vs st a = some (.l j, st1)) (hx : st1[j]? = some xs) (hks : evKeys fns n f xs st1 = some (ks, st2)) (hs : sortBy ks xs = some ys) :
    Sw prog w hB A env vs st (eval (.Call (.Name "sorted" p1) [x] [⟨some "key", .Name (fnm f) p2, p3⟩] pos) env) (fun ρ h u => RV hB ρ h u (.l st2.length)) (st2 ++ [ys]) := by
  intro s ρ Q E H V0 P
  have tb := T.blt (x := "sorted") (b := .builtin "sorted") (by simp)
  have hp : a ≠ .no := fun q => evE_no (q ▸ ha)
  show wpAny (model prog w) A (eval (.Name "sorted" p1) env >>= fun g => callWith pos g [] (backTo pos (starEach [x] env)) (backToKw pos (keywordEach [⟨some "key", .Name (fnm f) p2, p3⟩] env))) Q E s
  refine wpAny_bind (sw_builtin K T.g tb.1 T.b tb.2 hg (by decide +kernel) H.base ?_)
  have hst := star_eq ia hp env []
  refine callWith_kw (one_arg (S n (Nat.le_refl _)) R K ia ha s ρ _ E H V0 fun us h1 tk ρ1 H1 X1 r1 => ?_) (by rw [hst]; rfl) (by rw [hst]; rfl) rfl rfl
  obtain ⟨y, rfl, r1⟩ := r1
  obtain ⟨l, rfl, ea⟩ := r1.lst_inv
  obtain ⟨fa, o, pm, cd, doc, hm, ho, hd, hc⟩ := T.fn f hf
  refine wpAny_evalAll_cons (wpAny_bind (sw_global K T.g hm hgf (fnm_debug f) H1.base (wpAny_bind (wpAny_standAt (wpAny_pure (wpAny_evalAll_nil ?_))))))
  show wpAny (model prog w) A (call (.builtin "sorted") [.ref l] [(Str.ofString "key", .ref fa)]) Q E { s with heap := h1, toks := tk }
  obtain ⟨ws, ⟨c0, p⟩, r⟩ := H1.plain ea hx
  obtain ⟨m, hn⟩ := V0.ns
  have hn1 := X1.ns m hn
  have V1 := V0.ext H X1
  have P1 := P.after (tk := tk) X1
  unfold sortBy at hs
  split at hs
  · cases hs
  rename_i hlt
  by_cases hcond : xs.length < 64 ∧ ks.length = xs.length ∧ ks.all firstStr = true
  case neg => rw [if_neg hcond] at hs; cases hs
  rw [if_pos hcond] at hs
  obtain ⟨h64, hkl, hfs⟩ := hcond
  cases hrun : runKas ks (kas_sort xs.length) with
  | none => rw [hrun] at hs; cases hs
  | some pr =>
  rw [hrun] at hs
  cases hs
  have hwl : ws.toList.length = xs.length := r.length
  have hLρ : env.locals ∉ ρ ++ ρ1 := H1.ns_off hn1
  refine kat_sortedK (b := false) (f := .ref fa) (vs := ws.toList) (fr0 hn1) (ledger_news h1 env.locals) ⟨_, p, rfl, c0, by simp⟩ (by omega) (by omega) (ksk_s1 _ _) (fun x => ksk_l1 _ _) (fun x => ksk_t1 _ _) fun D kS e1 h2 F2 N2 hDk hlow => ?_
  have hk2 : ∀ b o, b ≠ env.locals → h1.get? b = some o → h2.get? b = some o := fun b o hb e => N2.get (.tail _ (.tail _ (mem_ledger.mpr ⟨e, hb⟩)))
  have kl2 : h2.get? kS = some (seqObj "list" #[] 0) := N2.get (.head _)
  have dl2 : h2.get? D = some (seqObj "list" #[] e1) := N2.get (.tail _ (.head _))
  have kL : kS ≠ env.locals := (N2 _ (.head _)).2.1
  have dL : D ≠ env.locals := (N2 _ (.tail _ (.head _))).2.1
  have dnew : h1.get? D = none := by
    cases q : h1.get? D with
    | none => rfl
    | some o => exact absurd (hlow _ (mem_ledger.mpr ⟨q, dL⟩)) (Nat.lt_irrefl _)
  have knew : h1.get? kS = none := by
    cases q : h1.get? kS with
    | none => rfl
    | some o => exact absurd (Nat.lt_trans hDk (hlow _ (mem_ledger.mpr ⟨q, kL⟩))) (Nat.lt_irrefl _)
  have offρ : ∀ {a : Addr}, h1.get? a = none → a ∉ ρ ++ ρ1 := fun {a} ha hm => by
    obtain ⟨o, e⟩ := H1.live hm; rw [ha] at e; cases e
  have tup2 : TupKeep h1 h2 := fun b o e c => hk2 b o (fun q => by subst q; obtain ⟨_, vs, k, d⟩ := c; exact ns_no_seq hn1 e d) e
  have I0 : SInv hB (ρ ++ ρ1) [] h1 env.locals m D kS e1 st1 h2 [] 0 := by
    refine ⟨?_, ⟨fun a o e _ h2' => hk2 a o (fun q => h2' (by rw [q]; exact List.mem_cons_self)) e, tup2, fun a o e => ?_, fun _ h => nomatch h⟩, F2.ns, dl2, kl2, dnew, knew, by rw [List.append_nil]; exact offρ dnew, by rw [List.append_nil]; exact offρ knew, Nat.ne_of_lt hDk, dL, kL, V0.new, H1.base_none dnew, H1.base_none knew⟩
    · rw [List.append_nil]
      exact H1.butX (X := [env.locals]) (fun b o hb e => hk2 b o (fun q => hb (by rw [q]; exact List.mem_cons_self)) e) (fun a ha => by rw [List.mem_singleton.mp ha]; exact ⟨hLρ, V0.new⟩) tup2
    · by_cases q : a = env.locals
      · subst q; obtain ⟨o', _, _, ho', _⟩ := F2.ns; exact ⟨o', ho'⟩
      · exact ⟨o, hk2 a o q e⟩
  refine sort_keys (s := { s with heap := h1, toks := tk }) (ρ := ρ ++ ρ1) S hf hm n (Nat.le_refl _) R2 xs ws.toList [] [] ks st1 [] h2 tk 0 I0 (r.keep tup2) .nil hks fun h3 tk3 ρ3 ks' e' I3 ht3 rk3 tt3 => ?_
  rw [List.nil_append] at rk3
  obtain ⟨fs, hkt, hfl, hfstr⟩ := tups_of rk3 hfs
  have hkslen : ks'.length = xs.length := by rw [rk3.length, hkl]
  refine kat_kind (T := .type "str") hkt (by rw [hfl, hkslen]; omega) (fun v hv => ?_) (by decide) ?_
  · obtain ⟨a, t, rfl⟩ := hfstr v hv
    exact Looks.of_pure rfl
  show (kas_sort ws.toList.length).kasWp (kas_ask prog w A.in1.in1 (tuples' true) ks') _ _
  rw [hwl]
  refine run_asks (kas_sort xs.length) pr _ rk3 hrun ?_
  refine KatFin.intro (g := fun o' => (kS, o') :: ledgerBut h3 env.locals kS) (fr0 I3.ns) (but_news I3.kl kL) but_upd fun h4 c4 F4 N4 => ?_
  have hk4 := but_keep N4
  obtain ⟨H4, X4⟩ := I3.change (.inl rfl) hk4 F4.ns
  have tup4 := I3.tup (.inl rfl) hk4
  have dl4 : h4.get? D = some (seqObj "list" #[] e1) := hk4 D _ (fun q => by
    rcases List.mem_cons.mp q with q | q
    · exact dL q
    · exact Nat.ne_of_lt hDk (List.mem_singleton.mp q)) I3.dl
  have I4 : SInv hB (ρ ++ ρ1) ρ3 h1 env.locals m D kS e1 st2 h4 [] c4 := ⟨H4, X4, F4.ns, dl4, N4.get (.head _), dnew, knew, I3.dρ, I3.kρ, Nat.ne_of_lt hDk, dL, kL, V0.new, I3.bD, I3.bK⟩
  refine KasFin.intro (g := fun o' => (D, o') :: ledgerBut h4 env.locals D) (fr0 I4.ns) (but_news dl4 dL) but_upd fun h5 c5 F5 N5 => ?_
  have hk5 := but_keep N5
  obtain ⟨H5, X5⟩ := I4.change (.inr rfl) hk5 F5.ns
  have tup5 := I4.tup (.inr rfl) hk5
  have dl5 : h5.PlainList D (List.toArray (katRev false (pr.toList.map fun i => (katRev false ws.toList).getD i Value.none))) := ⟨c5, N5.get (.head _)⟩
  have tall : TupKeep h1 h5 := fun a o e c => tup5 a o (tup4 a o (tt3 a o (tup2 a o e c) c) c) c
  have rout : RIs h5 (List.toArray (katRev false (pr.toList.map fun i => (katRev false ws.toList).getD i Value.none))).toList (pr.toList.map fun i => xs.getD i .none) := (r.keep tall).getDs pr.toList
  have H6 := H5.join I4.dρ I4.bD dl5 rout
  rw [List.append_assoc] at H6
  refine P1 (.ref D) h5 tk3 (ρ3 ++ [D]) H6 ⟨fun a o e h1' h2' => X5.keep a o e h1' (fun q => h2' (List.mem_singleton.mp q)), fun m' n' => ?_, X5.tup, X5.live, fun a ha => ?_⟩ (.l ?_)
  · have : m' = m := by funext x; exact n'.agree hn1 x
    rw [this]; exact F5.ns
  · rcases List.mem_append.mp ha with hm | hm
    · exact X5.fresh a hm
    · rw [List.mem_singleton.mp hm]; exact dnew
  · rw [← List.append_assoc, ← H5.len]; simp
end
end Mine
end

/-! # M19 -/
section
open PySem PySem.W PyProof.Rows
namespace Mine

section
variable {prog : Program} {w : World} {hB : Heap} {mg mb : Str → Option Value} {A : Around} {env : Env} {vs : Vars} {st st' st1 st2 : Store} {n : Nat} {e : Expr} {s : Shared} {ρ : List Addr} {E : Value → Shared → Prop} {L : Addr}

theorem set_pos {l : Addr} {items : Array Value} {k : Int} {t : Tok} {v : Value} {Q : Unit → Shared → Prop} (hl : s.heap.PlainList l items) (h0 : 0 ≤ k) (hfit : k < 2 ^ 63) (hn : k < items.size)
    (hQ : Q () { s with heap := s.heap.update l (Obj.mapSeq (·.setIfInBounds k.toNat v)) }) : wpAny (model prog w) A (setItem (.ref l) (.int k t) v) Q E s := by
  obtain ⟨ne, ho⟩ := id hl
  have hd : (({ cls := .type "list", data := .seq items ne } : Obj)).data = .seq items ne := rfl
  have hT : s.TypeIs (.ref l) "list" := ⟨_, ho, rfl⟩
  unfold setItem
  try with_reducible refine wpAny_holding ?_
  first | refine wpAny_bind (wpAny_pure ?_) | skip
  refine wpAny_bind (wpAny_sequenceKey hT (by decide) ?_)
  refine wpAny_bind (wpAny_callSpecial?_slot (name := Str.ofString "__setitem__") hT PySem.slot_list_setitem
    (wpAny_call_entry PySem.slot_list_setitem hT PySem.entry_list_setitem ?_ (args_list_setitem _ _ _)))
  show wpAny _ _ (Builtin.List.listSubscript? (.int k t) >>= _) _ _ s
  refine wpAny_bind (wpAny_listSubscript_int (fitsIndex_of h0 hfit) ?_)
  clear hfit
  obtain ⟨j, rfl⟩ := Int.eq_ofNat_of_zero_le h0
  have hj : j < items.size := by omega
  have hx' : items[j]? = some items[j] := Array.getElem?_eq_getElem hj
  show wpAny _ _ ((seqItemAt l j >>= fun r => pure (r.map (j, ·))) >>= _) _ _ s
  refine wpAny_bind (wpAny_bind (wpAny_seqItemAt ho hd (wpAny_pure ?_)))
  rw [hx']
  show wpAny _ _ (setSeqItemAt l j v >>= _) _ _ s
  refine wpAny_bind (wpAny_setSeqItemAt ho hd ?_)
  first
    | exact wpAny_bind (wpAny_pure (wpAny_pure ⟨.none, rfl, wpAny_pure hQ⟩))
    | exact wpAny_pure ⟨.none, rfl, wpAny_pure hQ⟩

theorem set_neg {l : Addr} {items : Array Value} {k : Int} {t : Tok} {v : Value} {Q : Unit → Shared → Prop} (hl : s.heap.PlainList l items) (h0 : k < 0) (h1 : -(items.size : Int) ≤ k) (hfit : -(2 ^ 63) ≤ k)
    (hQ : Q () { s with heap := s.heap.update l (Obj.mapSeq (·.setIfInBounds (k + items.size).toNat v)) }) : wpAny (model prog w) A (setItem (.ref l) (.int k t) v) Q E s := by
  obtain ⟨ne, ho⟩ := id hl
  have hd : (({ cls := .type "list", data := .seq items ne } : Obj)).data = .seq items ne := rfl
  have hT : s.TypeIs (.ref l) "list" := ⟨_, ho, rfl⟩
  unfold setItem
  try with_reducible refine wpAny_holding ?_
  first | refine wpAny_bind (wpAny_pure ?_) | skip
  refine wpAny_bind (wpAny_sequenceKey hT (by decide) ?_)
  refine wpAny_bind (wpAny_callSpecial?_slot (name := Str.ofString "__setitem__") hT PySem.slot_list_setitem
    (wpAny_call_entry PySem.slot_list_setitem hT PySem.entry_list_setitem ?_ (args_list_setitem _ _ _)))
  show wpAny _ _ (Builtin.List.listSubscript? (.int k t) >>= _) _ _ s
  refine wpAny_bind (wpAny_listSubscript_int (fitsIndex_neg h0 hfit) ?_)
  clear hfit
  have hidx := seqIndex_neg h0 h1
  have hj : (k + items.size).toNat < items.size := by omega
  have hx : items[(k + items.size).toNat]? = some items[(k + items.size).toNat] := Array.getElem?_eq_getElem hj
  generalize hJ : (k + (items.size : Int)).toNat = J at *
  obtain ⟨j, rfl⟩ : ∃ j : Nat, k = Int.negSucc j := by
    cases k with
    | ofNat n => exact absurd h0 (Int.not_lt.mpr (Int.natCast_nonneg n))
    | negSucc n => exact ⟨n, rfl⟩
  show wpAny _ _ ((Builtin.List.listItems (.ref l) >>= fun xs => pure ((seqIndex? (Int.negSucc j) xs.size).bind fun i => xs[i]?.map (i, ·))) >>= _) _ _ s
  refine wpAny_bind (wpAny_bind ?_)
  show wpAny _ _ (seqItems? (.ref l) >>= _) _ _ s
  refine wpAny_bind (wpAny_seqItems ho hd (wpAny_pure (wpAny_pure ?_)))
  rw [hidx]
  simp only [Option.bind_some, hx, Option.map_some]
  show wpAny _ _ (setSeqItemAt l J v >>= _) _ _ s
  refine wpAny_bind (wpAny_setSeqItemAt ho hd ?_)
  first
    | exact wpAny_bind (wpAny_pure (wpAny_pure ⟨.none, rfl, wpAny_pure hQ⟩))
    | exact wpAny_pure ⟨.none, rfl, wpAny_pure hQ⟩

theorem set_place {l : Addr} {items : Array Value} {k : Int} {t : Tok} {v : Value} {j : Nat} {Q : Unit → Shared → Prop} (hl : s.heap.PlainList l items) (h1 : -(2 ^ 62) ≤ k) (h2 : k < 2 ^ 62) (hp : place items.size k = some j)
    (hQ : Q () { s with heap := s.heap.update l (Obj.mapSeq (·.setIfInBounds j v)) }) : wpAny (model prog w) A (setItem (.ref l) (.int k t) v) Q E s := by
  unfold place at hp
  split at hp
  · split at hp
    · cases hp
      exact set_pos hl (by assumption) (by omega) (by omega) hQ
    · cases hp
  · split at hp
    · cases hp
      exact set_neg hl (by omega) (by omega) (by omega) hQ
    · cases hp

/-! ## the frame of a function's call -/
noncomputable def fr (env : Env) : List Addr := env.locals :: env.cells.map (·.2)
structure FOk (hB : Heap) (env : Env) (h : Heap) : Prop where
  cell : ∀ x c, (x, c) ∈ env.cells → (∃ v, h.IsCell c v) ∧ hB.get? c = none
  inj : ∀ x y c, (x, c) ∈ env.cells → (y, c) ∈ env.cells → x = y

inductive FlOk (hB : Heap) (ρ : List Addr) (h : Heap) : Fl → Flow → Prop
  | next : FlOk hB ρ h .next .next
  | ret {v u} : RV hB ρ h u v → FlOk hB ρ h (.ret v) (.ret u)

noncomputable def PostS {α : Type} (hB : Heap) (env : Env) (ρ : List Addr) (s : Shared) (st' : Store) (vs' : Vars) (R : List Addr → Heap → α → Prop) (Q : α → Shared → Prop) : Prop :=
  ∀ a h' tk ρ', HOk hB (ρ ++ ρ') st' h' → VOk hB env (ρ ++ ρ') h' vs' → FOk hB env h' → ExtS ρ ρ' (fr env) s.heap h' → R (ρ ++ ρ') h' a → Q a { s with heap := h', toks := tk }

theorem mem_cells {x : Str} {c : Addr} (h : env.cells.lookup x = some c) : (x, c) ∈ env.cells := lookup_mem h
theorem cell_fr {x : Str} {c : Addr} (h : (x, c) ∈ env.cells) : c ∈ fr env := List.mem_cons_of_mem _ (List.mem_map.mpr ⟨_, h, rfl⟩)
theorem L_fr : env.locals ∈ fr env := List.mem_cons_self

theorem FOk.ext {h h' : Heap} {ρ' : List Addr} (F : FOk hB env h) (H : HOk hB ρ st h) (V0 : VOk hB env ρ h vs) (X : Ext ρ ρ' env.locals h h') : FOk hB env h' := by
  refine ⟨fun x c hc => ?_, F.inj⟩
  obtain ⟨⟨v, o, ho, hd⟩, hb⟩ := F.cell x c hc
  obtain ⟨m, hn⟩ := V0.ns
  exact ⟨⟨v, o, X.keep c o ho (H.cell_off ⟨o, ho, hd⟩) (fun q => cell_not_ns ⟨o, ho, hd⟩ (q ▸ hn)), hd⟩, hb⟩

theorem PostS.after {α : Type} {R : List Addr → Heap → α → Prop} {Q : α → Shared → Prop} {ρ1 : List Addr} {h1 : Heap} {vs' : Vars} (P : PostS hB env ρ s st' vs' R Q) {tk : Nat} (X : ExtS ρ ρ1 (fr env) s.heap h1) : PostS hB env (ρ ++ ρ1) { s with heap := h1, toks := tk } st' vs' R Q := fun a h' tk' ρ' H V0 F X' r => by
  rw [List.append_assoc] at H r V0
  exact P a h' tk' (ρ1 ++ ρ') H V0 F (X.trans X') r
theorem PostS.afterE {α : Type} {R : List Addr → Heap → α → Prop} {Q : α → Shared → Prop} {ρ1 : List Addr} {h1 : Heap} {vs' : Vars} (P : PostS hB env ρ s st' vs' R Q) {tk : Nat} (X : Ext ρ ρ1 env.locals s.heap h1) : PostS hB env (ρ ++ ρ1) { s with heap := h1, toks := tk } st' vs' R Q :=
  P.after (X.toS L_fr)
theorem PostS.here {α : Type} {R : List Addr → Heap → α → Prop} {Q : α → Shared → Prop} (P : PostS hB env ρ s st vs R Q) (H : HOk hB ρ st s.heap) (V0 : VOk hB env ρ s.heap vs) (F : FOk hB env s.heap) {a : α} (r : R ρ s.heap a) (tk : Nat) : Q a { s with toks := tk } := by
  exact P a s.heap tk [] H.nil (by rw [List.append_nil]; exact V0) F ExtS.refl (by rw [List.append_nil]; exact r)
theorem PostS.here' {α : Type} {R : List Addr → Heap → α → Prop} {Q : α → Shared → Prop} (P : PostS hB env ρ s st vs R Q) (H : HOk hB ρ st s.heap) (V0 : VOk hB env ρ s.heap vs) (F : FOk hB env s.heap) {a : α} (r : R ρ s.heap a) : Q a s := P.here H V0 F r s.toks

/-- a name is bound -/
theorem store_name {x : Nat} {u : Value} {v : V} {Q : Unit → Shared → Prop} (K : EnvOk env) (hx : x < 26) (ho : own env.scope.names (nm x)) (H : HOk hB ρ st s.heap) (V0 : VOk hB env ρ s.heap vs) (F : FOk hB env s.heap) (r : RV hB ρ s.heap u v)
    (P : PostS hB env ρ s st (upd vs x v) (fun _ _ _ => True) Q) : wpAny (model prog w) A (storeName env (nm x) u) Q E s := by
  obtain ⟨m, hn⟩ := V0.ns
  have hL := H.ns_off hn
  rcases ho with hl | hl
  · refine wpAny_storeName_local hl hn (fun h' hn' hs => ?_) (by rw [K.kind]; rfl)
    have hk : ∀ b o, b ∉ [env.locals] → s.heap.get? b = some o → h'.get? b = some o := fun b o hb e => (hs.2 b fun q => hb (List.mem_singleton.mpr q)).trans e
    have tup : TupKeep s.heap h' := tup_but hs fun o e q => by obtain ⟨_, vs, k, d⟩ := q; exact ns_no_seq hn e d
    have lv := live_but hs (by obtain ⟨o, _, _, ho, _⟩ := hn'; exact ⟨o, ho⟩)
    have X : ExtS ρ [] (fr env) s.heap h' := ExtS.nil_of (fun a o e hX => hk a o (fun q => hX (by rw [List.mem_singleton.mp q]; exact L_fr)) e) tup lv
    have H' : HOk hB ρ st h' := H.butX hk (fun a ha => by rw [List.mem_singleton.mp ha]; exact ⟨hL, V0.new⟩) tup
    have cells : ∀ {c : Addr} {y : Option Value}, s.heap.IsCell c y → h'.IsCell c y := fun {c y} hc => by
      obtain ⟨o, e, d⟩ := id hc
      exact ⟨o, hk c o (fun q => cell_not_ns hc (List.mem_singleton.mp q ▸ hn)) e, d⟩
    have V' : VOk hB env ρ h' (upd vs x v) := by
      refine ⟨V0.new, ⟨_, hn'⟩, fun y v' e o => ?_⟩
      unfold upd at e
      by_cases q : y = x
      · subst q
        rw [if_pos rfl] at e; cases e
        have := r.mono (ρ₁ := []) tup
        rw [List.append_nil] at this
        exact ⟨u, .inl ⟨hl, _, hn', by simp⟩, this⟩
      · rw [if_neg q] at e
        obtain ⟨u', l, r'⟩ := V0.vars y v' e o
        have := r'.mono (ρ₁ := []) tup
        rw [List.append_nil] at this
        refine ⟨u', ?_, this⟩
        rcases l with ⟨hk1, m', hn2, hm⟩ | ⟨hk1, c, hc, hi⟩
        · refine .inl ⟨hk1, _, hn', ?_⟩
          rw [if_neg fun z => q (nm_inj hx z), hn.agree hn2]
          exact hm
        · exact .inr ⟨hk1, c, hc, cells hi⟩
    exact P () h' _ [] (by rw [List.append_nil]; exact H') (by rw [List.append_nil]; exact V') ⟨fun y c hc => by
      obtain ⟨⟨z, hz⟩, hb⟩ := F.cell y c hc; exact ⟨⟨z, cells hz⟩, hb⟩, F.inj⟩ X trivial
  · obtain ⟨c, hc⟩ := K.cells (nm x) hl
    have hcm := mem_cells hc
    obtain ⟨⟨z, hz⟩, hcb⟩ := F.cell _ _ hcm
    refine wpAny_storeName_cell K.kind hl hc hz fun h' hc' hs => ?_
    have cL : c ≠ env.locals := fun q => cell_not_ns hz (q ▸ hn)
    have hk : ∀ b o, b ∉ [c] → s.heap.get? b = some o → h'.get? b = some o := fun b o hb e => (hs.2 b fun q => hb (List.mem_singleton.mpr q)).trans e
    have tup : TupKeep s.heap h' := tup_but hs fun o e q => by
      obtain ⟨o', e', d'⟩ := hz
      rw [e] at e'; cases e'
      obtain ⟨_, vs, k, d⟩ := q; rw [d] at d'; cases d'
    have lv := live_but hs (by obtain ⟨o, ho, _⟩ := hc'; exact ⟨o, ho⟩)
    have X : ExtS ρ [] (fr env) s.heap h' := ExtS.nil_of (fun a o e hX => hk a o (fun q => hX (by rw [List.mem_singleton.mp q]; exact cell_fr hcm)) e) tup lv
    have H' : HOk hB ρ st h' := H.butX hk (fun a ha => by rw [List.mem_singleton.mp ha]; exact ⟨H.cell_off hz, hcb⟩) tup
    have ns' : ∀ {m : Str → Option Value}, s.heap.Ns env.locals m → h'.Ns env.locals m := fun {m} n => n.at' fun o e => hk _ o (fun q => cL (List.mem_singleton.mp q).symm) e
    have V' : VOk hB env ρ h' (upd vs x v) := by
      refine ⟨V0.new, ⟨_, ns' hn⟩, fun y v' e o => ?_⟩
      unfold upd at e
      by_cases q : y = x
      · subst q
        rw [if_pos rfl] at e; cases e
        have := r.mono (ρ₁ := []) tup
        rw [List.append_nil] at this
        exact ⟨u, .inr ⟨hl, c, hc, hc'⟩, this⟩
      · rw [if_neg q] at e
        obtain ⟨u', l, r'⟩ := V0.vars y v' e o
        have := r'.mono (ρ₁ := []) tup
        rw [List.append_nil] at this
        refine ⟨u', ?_, this⟩
        rcases l with ⟨hk1, m', hn2, hm⟩ | ⟨hk1, c2, hc2, hi⟩
        · exact .inl ⟨hk1, m', ns' hn2, hm⟩
        · refine .inr ⟨hk1, c2, hc2, ?_⟩
          obtain ⟨o, e, d⟩ := id hi
          refine ⟨o, hk c2 o (fun z => ?_) e, d⟩
          have z' := List.mem_singleton.mp z
          subst z'
          exact q (nm_inj hx (F.inj _ _ _ (mem_cells hc2) hcm))
    refine P () h' _ [] (by rw [List.append_nil]; exact H') (by rw [List.append_nil]; exact V') ⟨fun y c2 hc2 => ?_, F.inj⟩ X trivial
    obtain ⟨⟨z2, hz2⟩, hb⟩ := F.cell y c2 hc2
    refine ⟨?_, hb⟩
    by_cases q : c2 = c
    · subst q; exact ⟨_, hc'⟩
    · obtain ⟨o, e, d⟩ := hz2
      exact ⟨z2, o, hk c2 o (fun z => q (List.mem_singleton.mp z)) e, d⟩
end
end Mine
end

/-! # M20 -/
section
open PySem PySem.W PyProof.Rows
namespace Mine

/-- statements -/
structure SndS (prog : Program) (w : World) (hB : Heap) (n : Nat) : Prop where
  s : ∀ {A env vs st p x fl vs' st'}, Room A n → EnvOk env → IsS env.scope.names p x → evS fns n vs st p = some (fl, vs', st') → ∀ (s : Shared) (ρ : List Addr) (Q : Flow → Shared → Prop) (E : Value → Shared → Prop),
    HOk hB ρ st s.heap → VOk hB env ρ s.heap vs → FOk hB env s.heap → PostS hB env ρ s st' vs' (fun ρ h r => FlOk hB ρ h fl r) Q → wpAny (model prog w) A (exec x env) Q E s
  ss : ∀ {A env vs st p x fl vs' st'}, Room A n → EnvOk env → IsSs env.scope.names p x → evSs fns n vs st p = some (fl, vs', st') → ∀ (s : Shared) (ρ : List Addr) (Q : Flow → Shared → Prop) (E : Value → Shared → Prop),
    HOk hB ρ st s.heap → VOk hB env ρ s.heap vs → FOk hB env s.heap → PostS hB env ρ s st' vs' (fun ρ h r => FlOk hB ρ h fl r) Q → wpAny (model prog w) A (execs x env) Q E s

section
variable {prog : Program} {w : World} {hB : Heap} {mg mb : Str → Option Value} {A : Around} {env : Env} {vs vs' : Vars} {st st' st1 st2 st3 : Store} {n : Nat} {v : V} {e : Expr} {s : Shared} {ρ : List Addr} {E : Value → Shared → Prop} {L : Addr} {Q : Flow → Shared → Prop}

theorem PostS.unit {f : Flow} {fl : Fl} (P : PostS hB env ρ s st' vs' (fun ρ h r => FlOk hB ρ h fl r) Q) (hf : ∀ ρ h, FlOk hB ρ h fl f) : PostS hB env ρ s st' vs' (fun _ _ (_ : Unit) => True) (fun _ => Q f) :=
  fun _ h' tk ρ' H V0 F X _ => P f h' tk ρ' H V0 F X (hf _ _)

theorem s_asg {x : Nat} {p' p : Pos} {pe : PE} (S : Snd prog w hB mg n) (R : Room A n) (K : EnvOk env) (hx : x < 26) (ho : own env.scope.names (nm x)) (ie : IsE env.scope.names pe e) (hsw : swapsWith e (some (.Name (nm x) p')) p.line env = pure false)
    (he : evE fns n vs st pe = some (v, st1)) (H : HOk hB ρ st s.heap) (V0 : VOk hB env ρ s.heap vs) (F : FOk hB env s.heap) (P : PostS hB env ρ s st1 (upd vs x v) (fun ρ h r => FlOk hB ρ h .next r) Q) :
    wpAny (model prog w) A (exec (.Assign [.Name (nm x) p'] e p) env) Q E s := by
  refine wpAny_Assign_Name (S.e R K ie he s ρ _ E H V0 fun u h1 tk ρ1 H1 X1 r1 => ?_) hsw
  exact store_name (Q := fun _ => Q .next) K hx ho H1 (V0.ext H X1) (F.ext H V0 X1) r1 ((P.afterE (tk := tk) X1).unit fun _ _ => .next)

theorem rv_keeps {h h' : Heap} {u : Value} (r : RV hB ρ h u v) (hk : ∀ a o, h.get? a = some o → h'.get? a = some o) : RV hB ρ h' u v := by
  have := r.mono (ρ₁ := []) (fun a o e _ => hk a o e)
  rw [List.append_nil] at this; exact this
theorem rv_tup {h h' : Heap} {ρ' : List Addr} {u : Value} (r : RV hB ρ h u v) (x : ExtS ρ ρ' (fr env) h h') : RV hB (ρ ++ ρ') h' u v := r.mono x.tup

theorem FOk.keeps {h h' : Heap} (F : FOk hB env h) (hk : ∀ a o, h.get? a = some o → h'.get? a = some o) : FOk hB env h' :=
  ⟨fun x c hc => let ⟨⟨v, o, e, d⟩, hb⟩ := F.cell x c hc; ⟨⟨v, o, hk c o e, d⟩, hb⟩, F.inj⟩

/-- a tuple of two values is built, to be taken apart -/
theorem two_vals {a b : PE} {u v : Expr} {ua vb : V} {k2 : Nat} {p4 : Pos} {Q : Value → Shared → Prop} (S : Snd prog w hB mg n) (R : Room A n) (K : EnvOk env) (ia : IsE env.scope.names a u) (ib : IsE env.scope.names b v)
    (ha : evE fns n vs st a = some (ua, st1)) (hb : evE fns n vs st1 b = some (vb, st2)) (H : HOk hB ρ st s.heap) (V0 : VOk hB env ρ s.heap vs) (F : FOk hB env s.heap)
    (h : ∀ t x y h' tk ρ', HOk hB (ρ ++ ρ') st2 h' → VOk hB env (ρ ++ ρ') h' vs → FOk hB env h' → Ext ρ ρ' env.locals s.heap h' → h'.IsTuple t #[x, y] → RV hB (ρ ++ ρ') h' x ua → RV hB (ρ ++ ρ') h' y vb → Q (.ref t) { s with heap := h', toks := tk }) :
    wpAny (model prog w) A (eval (.Tuple [u, v] k2 p4) env) Q E s := by
  have hpa : a ≠ .no := fun q => evE_no (q ▸ ha)
  have hpb : b ≠ .no := fun q => evE_no (q ▸ hb)
  refine Tuple_ (args_cons (S.e R K ia ha s ρ _ E H V0 fun x h1 tk1 ρ1 H1 X1 r1 => args_cons (S.e R K ib hb _ _ _ E H1 (V0.ext H X1) fun y h2 tk2 ρ2 H2 X2 r2 => args_nil ?_) (star_eq ib hpb env [])) (star_eq ia hpa env [v]))
  refine wpAny_newTuple ?_ (by rw [sizeLine_eq]; simp)
  have hk : ∀ a o, h2.get? a = some o → (h2.push { cls := .type "tuple", data := .seq #[x, y] }).get? a = some o := fun a o e => Heap.get?_push_of_some _ e
  have X12 := X1.trans X2
  have X3 := X12.trans (Ext.push (ρ := ρ ++ (ρ1 ++ ρ2)) (L := env.locals) h2 { cls := .type "tuple", data := .seq #[x, y] })
  rw [List.append_nil] at X3
  have H2' := H2; rw [List.append_assoc] at H2'
  have r1' := r1.ext X2; rw [List.append_assoc] at r1'
  have r2' := r2; rw [List.append_assoc] at r2'
  exact h _ x y _ tk2 (ρ1 ++ ρ2) (H2'.keeps hk) ((V0.ext H X12).keeps H2' hk) ((F.ext H V0 X12).keeps hk) X3 ⟨_, Heap.get?_push_size _ rfl, rfl, _, rfl⟩ (rv_keeps r1' hk) (rv_keeps r2' hk)

theorem s_asg2n {x y : Nat} {a b : PE} {u v : Expr} {ua vb : V} {p1 p2 p3 p4 p : Pos} {k1 k2 : Nat} (S : Snd prog w hB mg n) (R : Room A n) (K : EnvOk env) (hx : x < 26) (hy : y < 26) (hox : own env.scope.names (nm x)) (hoy : own env.scope.names (nm y))
    (ia : IsE env.scope.names a u) (ib : IsE env.scope.names b v) (hsw : swappedStores [.Tuple [.Name (nm x) p1, .Name (nm y) p2] k1 p3] (.Tuple [u, v] k2 p4) env = pure none)
    (ha : evE fns n vs st a = some (ua, st1)) (hb : evE fns n vs st1 b = some (vb, st2)) (H : HOk hB ρ st s.heap) (V0 : VOk hB env ρ s.heap vs) (F : FOk hB env s.heap) (P : PostS hB env ρ s st2 (upd (upd vs x ua) y vb) (fun ρ h r => FlOk hB ρ h .next r) Q) :
    wpAny (model prog w) A (exec (.Assign [.Tuple [.Name (nm x) p1, .Name (nm y) p2] k1 p3] (.Tuple [u, v] k2 p4) p) env) Q E s := by
  refine wpAny_Assign_stores (two_vals S R K ia ib ha hb H V0 F fun t xu yv h1 tk ρ1 H1 V1 F1 X1 ht ru rv => ?_) rfl hsw
  show wpAny (model prog w) A (assign (.Tuple [.Name (nm x) p1, .Name (nm y) p2] k1 p3) env (.ref t)) _ E _
  refine wpAny_assign_Tuple R.handled ht rfl rfl fun h2 hx2 => ?_
  have hk : ∀ b o, h1.get? b = some o → h2.get? b = some o := fun b o e => hx2 b o (fun q => Nat.lt_irrefl _ (q ▸ Heap.lt_size e)) e
  have X2 : Ext (ρ ++ ρ1) [] env.locals h1 h2 := ⟨fun a o e _ _ => hk a o e, fun m n => n.keeps hk, fun a o e _ => hk a o e, fun a o e => ⟨o, hk a o e⟩, fun a ha => nomatch ha⟩
  have P1 := (P.afterE (tk := tk) X1).afterE (s := { s with heap := h1, toks := tk }) (tk := tk) X2
  rw [List.append_nil] at P1
  refine assignInOrder_cons (wpAny_assign_Name (store_name (s := { s with heap := h2, toks := tk }) K hx hox (H1.keeps hk) (V1.keeps H1 hk) (F1.keeps hk) (rv_keeps ru hk) fun _ h3 tk3 ρ3 H3 V3 F3 X3 _ => ?_))
  refine assignInOrder_cons (wpAny_assign_Name (store_name (s := { s with heap := h3, toks := tk3 }) K hy hoy H3 V3 F3 (rv_tup (rv_keeps rv hk) X3) ?_))
  intro _ h4 tk4 ρ4 H4 V4 F4 X4 _
  refine assignInOrder_nil ?_
  exact (P1.after (s := { s with heap := h2, toks := tk }) (tk := tk3) X3) .next h4 tk4 ρ4 H4 V4 F4 X4 .next

theorem upd_comm {x y : Nat} {a b : V} (h : x ≠ y) : upd (upd vs y b) x a = upd (upd vs x a) y b := by
  funext z
  unfold upd
  by_cases h1 : z = x
  · rw [if_pos h1, if_neg (fun q => h (h1 ▸ q)), if_pos h1]
  · rw [if_neg h1, if_neg h1]

theorem s_asg2s {x y : Nat} {a b : PE} {u v : Expr} {ua vb : V} {p1 p2 p3 p4 p : Pos} {k1 k2 : Nat} (S : Snd prog w hB mg n) (R : Room A n) (K : EnvOk env) (hx : x < 26) (hy : y < 26) (hox : own env.scope.names (nm x)) (hoy : own env.scope.names (nm y)) (hne : x ≠ y)
    (ia : IsE env.scope.names a u) (ib : IsE env.scope.names b v) (hsw : swappedStores [.Tuple [.Name (nm x) p1, .Name (nm y) p2] k1 p3] (.Tuple [u, v] k2 p4) env = pure (some [nm x, nm y]))
    (ha : evE fns n vs st a = some (ua, st1)) (hb : evE fns n vs st1 b = some (vb, st2)) (H : HOk hB ρ st s.heap) (V0 : VOk hB env ρ s.heap vs) (F : FOk hB env s.heap) (P : PostS hB env ρ s st2 (upd (upd vs x ua) y vb) (fun ρ h r => FlOk hB ρ h .next r) Q) :
    wpAny (model prog w) A (exec (.Assign [.Tuple [.Name (nm x) p1, .Name (nm y) p2] k1 p3] (.Tuple [u, v] k2 p4) p) env) Q E s := by
  rw [exec_Assign_arm]
  refine wpAny_bind (wpAny_standAt (wpAny_bind (wpAny_of_eq (a := false) rfl ?_)))
  simp only [Bool.false_eq_true, if_false]
  refine wpAny_bind (two_vals S R K ia ib ha hb H V0 F fun t xu yv h1 tk ρ1 H1 V1 F1 X1 ht ru rv => ?_)
  refine wpAny_bind (wpAny_of_eq hsw ?_)
  show wpAny (model prog w) A (do
      rule "assign.swapped-stores"
      let items ← unpackItems (.ref t) 2 none
      assignInOrder (List.map (fun n => bindName env n) [nm y, nm x]) items.reverse
      pure Flow.next) Q E _
  refine wpAny_bind (wpAny_rule (wpAny_bind ?_))
  have := wpAny_unpackItems_tuple (prog := prog) (w := w) (A := A) (E := E) (s := { s with heap := h1, toks := tk }) (Q := fun items s' => wpAny (model prog w) A (do
      assignInOrder (List.map (fun n => bindName env n) [nm y, nm x]) items.reverse
      pure Flow.next) Q E s') R.handled ht (fun h2 hx2 => ?_)
  · exact this
  have hk : ∀ b o, h1.get? b = some o → h2.get? b = some o := fun b o e => hx2 b o (fun q => Nat.lt_irrefl _ (q ▸ Heap.lt_size e)) e
  have X2 : Ext (ρ ++ ρ1) [] env.locals h1 h2 := ⟨fun a o e _ _ => hk a o e, fun m n => n.keeps hk, fun a o e _ => hk a o e, fun a o e => ⟨o, hk a o e⟩, fun a ha => nomatch ha⟩
  have P1 := (P.afterE (tk := tk) X1).afterE (s := { s with heap := h1, toks := tk }) (tk := tk) X2
  rw [List.append_nil, ← upd_comm hne] at P1
  show wpAny (model prog w) A (assignInOrder [bindName env (nm y), bindName env (nm x)] [yv, xu] >>= fun _ => pure Flow.next) Q E _
  refine wpAny_bind (assignInOrder_cons (wpAny_bindName (store_name (s := { s with heap := h2, toks := tk }) K hy hoy (H1.keeps hk) (V1.keeps H1 hk) (F1.keeps hk) (rv_keeps rv hk) fun _ h3 tk3 ρ3 H3 V3 F3 X3 _ => ?_)))
  refine assignInOrder_cons (wpAny_bindName (store_name (s := { s with heap := h3, toks := tk3 }) K hx hox H3 V3 F3 (rv_tup (rv_keeps ru hk) X3) ?_))
  intro _ h4 tk4 ρ4 H4 V4 F4 X4 _
  refine assignInOrder_nil (wpAny_pure ?_)
  exact (P1.after (s := { s with heap := h2, toks := tk }) (tk := tk3) X3) .next h4 tk4 ρ4 H4 V4 F4 X4 .next

theorem s_put {a i pe : PE} {o j v : Expr} {p' p : Pos} {l : Nat} {k : Int} {jj : Nat} {xs : List PyData} {y : PyData} (S : Snd prog w hB mg n) (R : Room A n) (K : EnvOk env) (ia : IsE env.scope.names a o) (ii : IsE env.scope.names i j) (ie : IsE env.scope.names pe v)
    (hsw : swapsWith v (some (.Subscript o j p')) p.line env = pure false) (he : evE fns n vs st pe = some (.d y, st1)) (ha : evE fns n vs st1 a = some (.l l, st2)) (hi : evE fns n vs st2 i = some (.d (.int k), st3)) (hx : st3[l]? = some xs)
    (hk1 : -(2 ^ 62) ≤ k) (hk2 : k < 2 ^ 62) (hp : place xs.length k = some jj) (H : HOk hB ρ st s.heap) (V0 : VOk hB env ρ s.heap vs) (F : FOk hB env s.heap) (P : PostS hB env ρ s (st3.set l (xs.set jj y)) vs (fun ρ h r => FlOk hB ρ h .next r) Q) :
    wpAny (model prog w) A (exec (.Assign [.Subscript o j p'] v p) env) Q E s := by
  refine wpAny_Assign_Subscript (S.e R K ie he s ρ _ E H V0 fun yv h1 tk1 ρ1 H1 X1 r1 => ?_) hsw
  refine S.e R K ia ha _ _ _ E H1 (V0.ext H X1) fun lv h2 tk2 ρ2 H2 X2 r2 => ?_
  refine S.e R K ii hi _ _ _ E H2 ((V0.ext H X1).ext H1 X2) fun iv h3 tk3 ρ3 H3 X3 r3 => ?_
  have V3 := ((V0.ext H X1).ext H1 X2).ext H2 X3
  have F3 := ((F.ext H V0 X1).ext H1 (V0.ext H X1) X2).ext H2 ((V0.ext H X1).ext H1 X2) X3
  have P3 := ((P.afterE (tk := tk1) X1).afterE (tk := tk2) X2).afterE (tk := tk3) X3
  obtain ⟨a, rfl, ea⟩ := (r2.ext X3).lst_inv
  obtain ⟨t, rfl⟩ := r3.int_inv
  have r1' := (r1.ext X2).ext X3
  cases r1' with | d ry =>
  obtain ⟨ws, pl, r⟩ := H3.plain ea hx
  refine set_place pl hk1 hk2 (by rw [r.size]; exact hp) ?_
  have pl' := upd_plain pl (fun xs => xs.setIfInBounds jj yv)
  have hr : RIs h3 (ws.setIfInBounds jj yv).toList (xs.set jj y) := by
    rw [Array.toList_setIfInBounds]
    exact r.set ry jj
  rcases H3.set (L := env.locals) ea (Heap.SameBut.update h3 a (Obj.mapSeq fun xs => xs.setIfInBounds jj yv)) pl' hr with ⟨H4, X4⟩ | hL
  · have P4 := P3 .next (h3.update a (Obj.mapSeq fun xs => xs.setIfInBounds jj yv)) tk3 [] (by rw [List.append_nil]; exact H4) (V3.ext H3 X4) (F3.ext H3 V3 X4) (X4.toS L_fr) .next
    exact P4
  · obtain ⟨m, hn⟩ := V3.ns
    exact absurd (hL ▸ List.mem_of_getElem? ea) (H3.ns_off hn)

theorem s_if {t : PE} {a b : List PS} {t' : Expr} {a' b' : List Stmt} {p : Pos} {c : Bool} {fl : Fl} (S : Snd prog w hB mg n) (SS : SndS prog w hB n) (R : Room A n) (K : EnvOk env) (it : IsE env.scope.names t t') (ia : IsSs env.scope.names a a') (ib : IsSs env.scope.names b b')
    (ht : evT fns n vs st t = some (c, st1)) (h : evSs fns n vs st1 (if c then a else b) = some (fl, vs', st2)) (H : HOk hB ρ st s.heap) (V0 : VOk hB env ρ s.heap vs) (F : FOk hB env s.heap) (P : PostS hB env ρ s st2 vs' (fun ρ h r => FlOk hB ρ h fl r) Q) :
    wpAny (model prog w) A (exec (.If t' a' b' p) env) Q E s := by
  refine wpAny_If (S.t R K it ht s ρ _ E H V0 fun d h1 tk ρ1 H1 X1 r1 => ?_)
  subst r1
  cases d with
  | true => exact SS.ss R K ia h _ _ Q E H1 (V0.ext H X1) (F.ext H V0 X1) (P.afterE X1)
  | false => exact SS.ss R K ib h _ _ Q E H1 (V0.ext H X1) (F.ext H V0 X1) (P.afterE X1)

theorem s_ret {pe : PE} {p : Pos} (S : Snd prog w hB mg n) (R : Room A n) (K : EnvOk env) (ie : IsE env.scope.names pe e) (he : evE fns n vs st pe = some (v, st1)) (H : HOk hB ρ st s.heap) (V0 : VOk hB env ρ s.heap vs) (F : FOk hB env s.heap) (P : PostS hB env ρ s st1 vs (fun ρ h r => FlOk hB ρ h (.ret v) r) Q) :
    wpAny (model prog w) A (exec (.Return (some e) p) env) Q E s := by
  refine wpAny_Return_some (S.e R K ie he s ρ _ E H V0 fun u h1 tk ρ1 H1 X1 r1 => ?_)
  exact P (.ret u) h1 tk ρ1 H1 (V0.ext H X1) (F.ext H V0 X1) (X1.toS L_fr) (.ret r1)

theorem s_ex {pe : PE} {p : Pos} (S : Snd prog w hB mg n) (R : Room A n) (K : EnvOk env) (ie : IsE env.scope.names pe e) (hsw : swapsWith e none p.line env = pure false) (he : evE fns n vs st pe = some (.d .none, st1)) (H : HOk hB ρ st s.heap) (V0 : VOk hB env ρ s.heap vs) (F : FOk hB env s.heap) (P : PostS hB env ρ s st1 vs (fun ρ h r => FlOk hB ρ h .next r) Q) :
    wpAny (model prog w) A (exec (.Expr e p) env) Q E s := by
  refine wpAny_Expr (S.e R K ie he s ρ _ E H V0 fun u h1 tk ρ1 H1 X1 r1 => ?_) (by unfold interactive; rw [K.kind]; rfl) hsw
  have := r1.none_inv
  subst this
  exact P .next h1 tk ρ1 H1 (V0.ext H X1) (F.ext H V0 X1) (X1.toS L_fr) .next

theorem s_while {t : PE} {b : List PS} {t' : Expr} {b' : List Stmt} {p : Pos} {fl : Fl} (S : ∀ k ≤ n, Snd prog w hB mg k) (SS : ∀ k ≤ n, SndS prog w hB k) (R : Room A n) (K : EnvOk env) (it : IsE env.scope.names t t') (ib : IsSs env.scope.names b b')
    (h : evWh fns n vs st t b = some (fl, vs', st2)) (H : HOk hB ρ st s.heap) (V0 : VOk hB env ρ s.heap vs) (F : FOk hB env s.heap) (P : PostS hB env ρ s st2 vs' (fun ρ h r => FlOk hB ρ h fl r) Q) :
    wpAny (model prog w) A (exec (.While t' b' [] p) env) Q E s := by
  refine wpAny_While (codeAny_whileLoop (fun k s' => ∃ h' tk ρ' vsc stc, s' = { s with heap := h', toks := tk } ∧ HOk hB (ρ ++ ρ') stc h' ∧ VOk hB env (ρ ++ ρ') h' vsc ∧ FOk hB env h' ∧ ExtS ρ ρ' (fr env) s.heap h' ∧ k ≤ n ∧ evWh fns k vsc stc t b = some (fl, vs', st2)) ?_ n
    ⟨s.heap, s.toks, [], vs, st, rfl, H.nil, by rw [List.append_nil]; exact V0, F, ExtS.refl, Nat.le_refl _, h⟩)
  rintro k s' ⟨h1, tk1, ρ1, vsc, stc, rfl, H1, V1, F1, X1, hkn, hev⟩
  cases k with
  | zero => simp [evWh] at hev
  | succ k =>
    rw [evWh] at hev
    cases ht : evT fns k vsc stc t with
    | none => rw [ht] at hev; cases hev
    | some q =>
      obtain ⟨c, st1⟩ := q
      rw [ht] at hev
      refine (S k (by omega)).t (R.le (by omega)) K it ht { s with heap := h1, toks := tk1 } _ _ _ H1 V1 fun d h2 tk2 ρ2 H2 X2 r2 => ?_
      subst r2
      have X12 := X1.trans (X2.toS L_fr)
      have V2 := V1.ext H1 X2
      have F2 := F1.ext H1 V1 X2
      cases d with
      | false =>
        cases hev
        simp only [Bool.false_eq_true, if_false]
        refine wpAny_execs_nil ?_
        rw [List.append_assoc] at H2 V2
        exact P .next h2 tk2 (ρ1 ++ ρ2) H2 V2 F2 X12 .next
      | true =>
        simp only [if_true]
        dsimp only at hev
        cases hb : evSs fns k vsc st1 b with
        | none => rw [hb] at hev; cases hev
        | some q =>
          obtain ⟨f, vs1, st3⟩ := q
          rw [hb] at hev
          refine (SS k (by omega)).ss (R.le (by omega)) K ib hb _ _ _ _ H2 V2 F2 fun r h3 tk3 ρ3 H3 V3 F3 X3 r3 => ?_
          have X13 := X12.trans (by rw [← List.append_assoc]; exact X3)
          rw [List.append_assoc (ρ ++ ρ1) ρ2 ρ3, List.append_assoc ρ ρ1] at H3 V3
          rw [List.append_assoc] at X13
          cases r3 with
          | next => exact ⟨k, Nat.lt_succ_self _, h3, tk3, ρ1 ++ (ρ2 ++ ρ3), vs1, st3, rfl, H3, V3, F3, X13, by omega, hev⟩
          | ret r4 =>
            cases hev
            rw [List.append_assoc (ρ ++ ρ1) ρ2 ρ3, List.append_assoc ρ ρ1] at r4
            exact P (.ret _) h3 tk3 _ H3 V3 F3 X13 (.ret r4)

theorem Flds.off_fr {h : Heap} {It : Addr} (f : Flds h It) (V0 : VOk hB env ρ h vs) (F : FOk hB env h) : It ∉ fr env := fun hm => by
  rcases List.mem_cons.mp hm with q | hm
  · obtain ⟨m, hn⟩ := V0.ns; exact f.not_ns (q ▸ hn)
  · obtain ⟨⟨x, c⟩, hc, rfl⟩ := List.mem_map.mp hm
    obtain ⟨⟨v, hv⟩, _⟩ := F.cell x c hc
    exact f.not_cell hv
theorem FOk.but {h h' : Heap} {It : Addr} (F : FOk hB env h) (f : Flds h It) (hk : ∀ b o, b ≠ It → h.get? b = some o → h'.get? b = some o) : FOk hB env h' :=
  ⟨fun x c hc => by
    obtain ⟨⟨v, o, e, d⟩, hb⟩ := F.cell x c hc
    exact ⟨⟨v, o, hk c o (fun q => f.not_cell (y := v) (q ▸ ⟨o, e, d⟩)) e, d⟩, hb⟩, F.inj⟩
theorem ExtS.butX {X : List Addr} {h0 h h' : Heap} {ρ1 : List Addr} {It : Addr} (x : ExtS ρ ρ1 X h0 h) (hk : ∀ b o, b ≠ It → h.get? b = some o → h'.get? b = some o) (h1 : h0.get? It = none) : ExtS ρ ρ1 X h0 h' := by
  have ne : ∀ {a : Addr} {o : Obj}, h0.get? a = some o → a ≠ It := fun {a o} e q => by rw [q, h1] at e; cases e
  refine ⟨fun a o e ha hX => hk a o (ne e) (x.keep a o e ha hX), fun a o e c => hk a o (ne e) (x.tup a o e c), fun a o e => ?_, x.fresh⟩
  obtain ⟨o', e'⟩ := x.live a o e
  exact ⟨o', hk a o' (ne e) e'⟩

theorem s_forL {x i : Nat} {pe : PE} {b : List PS} {b' : List Stmt} {p1 p : Pos} {fl : Fl} (S : ∀ k ≤ n, Snd prog w hB mg k) (SS : ∀ k ≤ n, SndS prog w hB k) (R : Room A n) (K : EnvOk env) (hx : x < 26) (ho : own env.scope.names (nm x)) (ie : IsE env.scope.names pe e) (ib : IsSs env.scope.names b b')
    (he : evE fns n vs st pe = some (.l i, st1)) (h : evFor fns n vs st1 x i 0 b = some (fl, vs', st2)) (H : HOk hB ρ st s.heap) (V0 : VOk hB env ρ s.heap vs) (F : FOk hB env s.heap) (P : PostS hB env ρ s st2 vs' (fun ρ h r => FlOk hB ρ h fl r) Q) :
    wpAny (model prog w) A (exec (.For (.Name (nm x) p1) e b' [] p) env) Q E s := by
  refine wpAny_For ((S n (Nat.le_refl _)).e R K ie he s ρ _ E H V0 fun u h0 tk0 ρ0 H0 X0 r0 => ?_) (folded_none ie (fun q => evE_no (q ▸ he)) env)
  obtain ⟨a, rfl, ea⟩ := r0.lst_inv
  obtain ⟨xs0, ws0, hx0, ⟨k0, p0⟩, _⟩ := H0.get ea
  refine wpAny_pyIter_list ⟨_, p0, rfl, k0, rfl⟩ ?_
  have V00 := V0.ext H X0
  have F00 := F.ext H V0 X0
  have hI0 : h0.get? h0.objs.size = none := size_none _
  have hI00 : s.heap.get? h0.objs.size = none := by
    cases q : s.heap.get? h0.objs.size with
    | none => rfl
    | some o => obtain ⟨o', e'⟩ := X0.live _ _ q; rw [hI0] at e'; cases e'
  have hIb := H0.base_none hI0
  have hkp : ∀ b o, h0.get? b = some o → (h0.push { cls := .type "list_iterator", data := .fields #[.ref a, .int 0 0] }).get? b = some o := fun b o e => Heap.get?_push_of_some _ e
  have Xp : ExtS ρ ρ0 (fr env) s.heap (h0.push { cls := .type "list_iterator", data := .fields #[.ref a, .int 0 0] }) := by
    have := (X0.toS L_fr).trans (ExtS.keeps (ρ := ρ ++ ρ0) hkp |> fun z => (⟨fun a o e h1 _ => z.keep a o e h1 fun q => (nomatch q), z.tup, z.live, z.fresh⟩ : ExtS (ρ ++ ρ0) [] (fr env) h0 _))
    rw [List.append_nil] at this; exact this
  refine codeAny_forLoop (fun k s' => ∃ h' tk ρ' j vsc stc, s' = { s with heap := h', toks := tk } ∧ HOk hB (ρ ++ ρ') stc h' ∧ VOk hB env (ρ ++ ρ') h' vsc ∧ FOk hB env h' ∧ ExtS ρ ρ' (fr env) s.heap h' ∧ h'.IsListIter h0.objs.size a j ∧ (ρ ++ ρ')[i]? = some a ∧ k ≤ n ∧ evFor fns k vsc stc x i j b = some (fl, vs', st2)) ?_ n
    ⟨_, tk0, ρ0, 0, vs, st1, rfl, H0.keeps hkp, V00.keeps H0 hkp, F00.keeps hkp, Xp, ⟨_, Heap.get?_push_size _ rfl, rfl, rfl⟩, ea, Nat.le_refl _, h⟩
  rintro k s' ⟨h1, tk1, ρ1, j, vsc, stc, rfl, H1, V1, F1, X1, it, ea1, hkn, hev⟩
  cases k with
  | zero => simp [evFor] at hev
  | succ k =>
    rw [evFor] at hev
    cases hxs : stc[i]? with
    | none => rw [hxs] at hev; cases hev
    | some xs =>
      rw [hxs] at hev
      dsimp only at hev
      obtain ⟨ws, ⟨kk, pl⟩, r⟩ := H1.plain ea1 hxs
      have hl : h1.IsList a ws := ⟨_, pl, rfl, kk, rfl⟩
      have fI : Flds h1 h0.objs.size := by obtain ⟨o, e, _, d⟩ := it; exact ⟨o, _, e, d⟩
      cases hd : xs[j]? with
      | none =>
        rw [hd] at hev; cases hev
        refine wpAny_pyNext_list_end R.handled it hl (by rw [← Array.getElem?_toList, List.getElem?_eq_none_iff, r.length]; exact List.getElem?_eq_none_iff.mp hd) fun h3 hk3 => ?_
        refine wpAny_execs_nil ?_
        exact P .next h3 tk1 ρ1 (H1.but fI hIb fun b o hb e => hk3 b o hb e) (V1.but fI fun b o hb e => hk3 b o hb e) (F1.but fI fun b o hb e => hk3 b o hb e) (X1.butX (fun b o hb e => hk3 b o hb e) hI00) .next
      | some d =>
        rw [hd] at hev
        dsimp only at hev
        obtain ⟨u, hu, ru⟩ := r.get hd
        refine wpAny_pyNext_list_item it hl (by rw [← Array.getElem?_toList]; exact hu) fun h3 it3 hs3 => ?_
        have hk3 : ∀ b o, b ≠ h0.objs.size → h1.get? b = some o → h3.get? b = some o := fun b o hb e => (hs3.2 b hb).trans e
        have H3 := H1.but fI hIb hk3
        have V3 := V1.but fI hk3
        have F3 := F1.but fI hk3
        have X3 := X1.butX hk3 hI00
        have fI3 : Flds h3 h0.objs.size := by obtain ⟨o, e, _, d⟩ := it3; exact ⟨o, _, e, d⟩
        have tup3 : TupKeep h1 h3 := fun a o e c => hk3 a o (fun q => by subst q; obtain ⟨o', fs, e', d⟩ := fI; rw [e] at e'; cases e'; obtain ⟨_, vs, k, d'⟩ := c; rw [d] at d'; cases d') e
        dsimp only
        refine wpAny_assign_Name (store_name (s := { s with heap := h3, toks := tk1 }) (v := .d d) K hx ho H3 V3 F3 (.d (ru.keep tup3)) fun _ h4 tk4 ρ4 H4 V4 F4 X4 _ => ?_)
        have X34 := X3.trans X4
        have it4 : h4.IsListIter h0.objs.size a (j + 1) := by
          obtain ⟨o, e, cc, dd⟩ := it3
          exact ⟨o, X4.keep _ o e (fI3.off H3) (fI3.off_fr V3 F3), cc, dd⟩
        have fI4 : Flds h4 h0.objs.size := by obtain ⟨o, e, _, d⟩ := it4; exact ⟨o, _, e, d⟩
        cases hb : evSs fns k (upd vsc x (.d d)) stc b with
        | none => rw [hb] at hev; cases hev
        | some q =>
          obtain ⟨f, vs1, st3⟩ := q
          rw [hb] at hev
          refine (SS k (by omega)).ss (R.le (by omega)) K ib hb _ _ _ _ H4 V4 F4 fun rr h5 tk5 ρ5 H5 V5 F5 X5 r5 => ?_
          have X35 := X34.trans (by rw [← List.append_assoc]; exact X5)
          rw [List.append_assoc (ρ ++ ρ1) ρ4 ρ5, List.append_assoc ρ ρ1] at H5 V5
          rw [List.append_assoc] at X35
          cases r5 with
          | next =>
            refine ⟨k, Nat.lt_succ_self _, h5, tk5, ρ1 ++ (ρ4 ++ ρ5), j + 1, vs1, st3, rfl, H5, V5, F5, X35, ?_, ?_, by omega, hev⟩
            · obtain ⟨o, e, cc, dd⟩ := it4
              exact ⟨o, X5.keep _ o e (fI4.off H4) (fI4.off_fr V4 F4), cc, dd⟩
            · rw [← List.append_assoc, List.getElem?_append_left (List.getElem?_eq_some_iff.mp ea1).1]; exact ea1
          | ret r6 =>
            cases hev
            rw [List.append_assoc (ρ ++ ρ1) ρ4 ρ5, List.append_assoc ρ ρ1] at r6
            exact P (.ret _) h5 tk5 _ H5 V5 F5 X35 (.ret r6)
end
end Mine
end

/-! # M21 -/
section
open PySem PySem.W PyProof.Rows
namespace Mine

section
variable {prog : Program} {w : World} {hB : Heap} {mg mb : Str → Option Value} {A : Around} {env : Env} {vs vs' : Vars} {st st' st1 st2 st3 : Store} {n : Nat} {v : V} {e : Expr} {s : Shared} {ρ : List Addr} {E : Value → Shared → Prop} {L : Addr} {Q : Flow → Shared → Prop}

theorem s_forR {x K0 : Nat} {pe : PE} {b : List PS} {b' : List Stmt} {p1 p2 p3 p : Pos} {fl : Fl} (T : TopF mg mb hB) (S : ∀ k ≤ n, Snd prog w hB mg k) (SS : ∀ k ≤ n, SndS prog w hB k) (R : Room A n) (K : EnvOk env) (hx : x < 26) (ho : own env.scope.names (nm x)) (hg : glob env.scope.names "range") (ie : IsE env.scope.names pe e) (ib : IsSs env.scope.names b b')
    (he : evE fns n vs st pe = some (.d (.int (K0 : Int)), st1)) (hK : K0 ≤ 1000000) (h : evForR fns n vs st1 x K0 0 b = some (fl, vs', st2)) (H : HOk hB ρ st s.heap) (V0 : VOk hB env ρ s.heap vs) (F : FOk hB env s.heap) (P : PostS hB env ρ s st2 vs' (fun ρ h r => FlOk hB ρ h fl r) Q) :
    wpAny (model prog w) A (exec (.For (.Name (nm x) p1) (.Call (.Name "range" p2) [e] [] p3) b' [] p) env) Q E s := by
  refine wpAny_For ?_ (fun _ => rfl)
  have tb := T.blt (x := "range") (b := .type "range") (by simp)
  refine Call_Name rfl (sw_builtin K T.g tb.1 T.b tb.2 hg (by decide +kernel) H.base ?_)
  refine PyProof.Rows.callWith_type1 (one_arg (S n (Nat.le_refl _)) R K ie he s ρ _ E H V0 fun us h0 tk0 ρ0 H0 X0 r0 => ?_) (star_eq ie (fun q => evE_no (q ▸ he)) env []) rfl
  obtain ⟨y, rfl, r0⟩ := r0
  obtain ⟨t, rfl⟩ := r0.int_inv
  refine call_range_1 ?_
  have hsize : Builtin.Range.rangeSize 0 (K0 : Int) 1 = (K0 : Int) := by rw [rangeSize_nat]; simp
  refine wpAny_pyIter_range (IsRange.new ..) (small_one (by decide) (by decide) (by omega) (by omega)) ?_
  rw [hsize]
  dsimp only
  generalize hh : h0.push { cls := .type "range", data := .fields #[.int 0 tk0, .int (K0 : Int) t, .int 1 (tk0 + 1)] } = hr
  have hk1 : ∀ b o, h0.get? b = some o → hr.get? b = some o := fun b o e => hh ▸ Heap.get?_push_of_some _ e
  have V00 := V0.ext H X0
  have F00 := F.ext H V0 X0
  have H1 := H0.keeps hk1
  have V1 := V00.keeps H0 hk1
  have F1 := F00.keeps hk1
  have hI0 : hr.get? hr.objs.size = none := size_none _
  have hI00 : s.heap.get? hr.objs.size = none := by
    cases q : s.heap.get? hr.objs.size with
    | none => rfl
    | some o => obtain ⟨o', e'⟩ := X0.live _ _ q; have := hk1 _ _ e'; rw [hI0] at this; cases this
  have hIb := H1.base_none hI0
  have hkp : ∀ b o, hr.get? b = some o → (hr.push { cls := .type "range_iterator", data := .fields #[rawInt 0, rawInt (K0 : Int), rawInt 1] }).get? b = some o := fun b o e => Heap.get?_push_of_some _ e
  have hk2 : ∀ b o, h0.get? b = some o → (hr.push { cls := .type "range_iterator", data := .fields #[rawInt 0, rawInt (K0 : Int), rawInt 1] }).get? b = some o := fun b o e => hkp b o (hk1 b o e)
  have Xp : ExtS ρ ρ0 (fr env) s.heap (hr.push { cls := .type "range_iterator", data := .fields #[rawInt 0, rawInt (K0 : Int), rawInt 1] }) := by
    have := (X0.toS L_fr).trans (ExtS.keeps (ρ := ρ ++ ρ0) hk2 |> fun z => (⟨fun a o e h1 _ => z.keep a o e h1 fun q => (nomatch q), z.tup, z.live, z.fresh⟩ : ExtS (ρ ++ ρ0) [] (fr env) h0 _))
    rw [List.append_nil] at this; exact this
  refine codeAny_forLoop (fun m s' => ∃ h' tk ρ', ∃ j k : Nat, ∃ vsc stc, s' = { s with heap := h', toks := tk } ∧ HOk hB (ρ ++ ρ') stc h' ∧ VOk hB env (ρ ++ ρ') h' vsc ∧ FOk hB env h' ∧ ExtS ρ ρ' (fr env) s.heap h' ∧ IsRangeIter h' hr.objs.size (j : Int) (k : Int) 1 ∧ m ≤ n ∧ evForR fns m vsc stc x k j b = some (fl, vs', st2)) ?_ n
    ⟨_, tk0 + 1 + 1, ρ0, 0, K0, vs, st1, rfl, H1.keeps hkp, V1.keeps H1 hkp, F1.keeps hkp, Xp, Heap.get?_push_size _ rfl, Nat.le_refl _, h⟩
  rintro m s' ⟨h1, tk1, ρ1, j, k, vsc, stc, rfl, H1, V1, F1, X1, it, hkn, hev⟩
  cases m with
  | zero => simp [evForR] at hev
  | succ m =>
    have fI : Flds h1 hr.objs.size := ⟨_, _, it, rfl⟩
    cases k with
    | zero =>
      simp only [evForR] at hev
      cases hev
      refine wpAny_pyNext_range_end R.handled it (by simp) fun h3 hk3 => ?_
      refine wpAny_execs_nil ?_
      exact P .next h3 tk1 ρ1 (H1.but fI hIb fun b o hb e => hk3 b o hb e) (V1.but fI fun b o hb e => hk3 b o hb e) (F1.but fI fun b o hb e => hk3 b o hb e) (X1.butX (fun b o hb e => hk3 b o hb e) hI00) .next
    | succ k =>
      rw [evForR] at hev
      refine wpAny_pyNext_range_item it (by omega) fun h3 it3 hs3 => ?_
      have hk3 : ∀ b o, b ≠ hr.objs.size → h1.get? b = some o → h3.get? b = some o := fun b o hb e => (hs3.2 b hb).trans e
      have H3 := H1.but fI hIb hk3
      have V3 := V1.but fI hk3
      have F3 := F1.but fI hk3
      have X3 := X1.butX hk3 hI00
      have fI3 : Flds h3 hr.objs.size := ⟨_, _, it3, rfl⟩
      have e1 : (j : Int) + 1 = ((j + 1 : Nat) : Int) := by omega
      have e2 : ((k + 1 : Nat) : Int) - 1 = (k : Int) := by omega
      rw [e1, e2] at it3
      dsimp only
      refine wpAny_assign_Name (store_name (s := { s with heap := h3, toks := tk1 + 1 }) (v := .d (.int (j : Int))) K hx ho H3 V3 F3 (.d (.int _ _)) fun _ h4 tk4 ρ4 H4 V4 F4 X4 _ => ?_)
      have X34 := X3.trans X4
      have it4 : IsRangeIter h4 hr.objs.size ((j + 1 : Nat) : Int) (k : Int) 1 := X4.keep _ _ it3 (fI3.off H3) (fI3.off_fr V3 F3)
      have fI4 : Flds h4 hr.objs.size := ⟨_, _, it4, rfl⟩
      cases hb : evSs fns m (upd vsc x (.d (.int (j : Int)))) stc b with
      | none => rw [hb] at hev; cases hev
      | some q =>
        obtain ⟨f, vs1, st3⟩ := q
        rw [hb] at hev
        refine (SS m (by omega)).ss (R.le (by omega)) K ib hb _ _ _ _ H4 V4 F4 fun rr h5 tk5 ρ5 H5 V5 F5 X5 r5 => ?_
        have X35 := X34.trans (by rw [← List.append_assoc]; exact X5)
        rw [List.append_assoc (ρ ++ ρ1) ρ4 ρ5, List.append_assoc ρ ρ1] at H5 V5
        rw [List.append_assoc] at X35
        cases r5 with
        | next =>
          exact ⟨m, Nat.lt_succ_self _, h5, tk5, ρ1 ++ (ρ4 ++ ρ5), j + 1, k, vs1, st3, rfl, H5, V5, F5, X35, X5.keep _ _ it4 (fI4.off H4) (fI4.off_fr V4 F4), by omega, hev⟩
        | ret r6 =>
          cases hev
          rw [List.append_assoc (ρ ++ ρ1) ρ4 ρ5, List.append_assoc ρ ρ1] at r6
          exact P (.ret _) h5 tk5 _ H5 V5 F5 X35 (.ret r6)

theorem VOk.butA {h h' : Heap} {It : Addr} (V0 : VOk hB env ρ h vs) (hL : It ≠ env.locals) (hc : ∀ y, ¬ h.IsCell It y) (hk : ∀ b o, b ≠ It → h.get? b = some o → h'.get? b = some o) (tup : TupKeep h h') : VOk hB env ρ h' vs := by
  obtain ⟨m, hn⟩ := V0.ns
  refine ⟨V0.new, ⟨m, hn.at' fun o e => hk _ o (Ne.symm hL) e⟩, fun y v e o => ?_⟩
  obtain ⟨u, l, r⟩ := V0.vars y v e o
  refine ⟨u, ?_, ?_⟩
  · rcases l with ⟨hk1, m', hn2, hm⟩ | ⟨hk1, c, hc', hi⟩
    · exact .inl ⟨hk1, m', hn2.at' fun o e => hk _ o (Ne.symm hL) e, hm⟩
    · obtain ⟨o, ho, hd⟩ := id hi
      exact .inr ⟨hk1, c, hc', o, hk c o (fun q => hc _ (q ▸ hi)) ho, hd⟩
  · have := r.mono (ρ₁ := []) tup
    rw [List.append_nil] at this; exact this
theorem VOk.snoc {h : Heap} {ρ1 : List Addr} (V0 : VOk hB env ρ h vs) : VOk hB env (ρ ++ ρ1) h vs :=
  ⟨V0.new, V0.ns, fun x v e o => let ⟨u, l, r⟩ := V0.vars x v e o; ⟨u, l, r.mono fun _ _ e _ => e⟩⟩

/-- how a comprehension ends whose list is bound to a name before the frame goes -/
theorem comp_used {x : Nat} {p' : Pos} {ys : List PyData} {C D : Addr} {h1 h' : Heap} {tk tk1 : Nat} {ρ1 ρ' : List Addr} {QQ : Value → Shared → Prop} (K : EnvOk env) (hx : x < 26) (ho : own env.scope.names (nm x))
    (P : PostS hB env ρ s (st2 ++ [ys]) (upd vs x (.l st2.length)) (fun _ _ (_ : Unit) => True) (fun _ s' => QQ .none s')) (X1 : Ext ρ ρ1 env.locals s.heap h1) (V1 : VOk hB env (ρ ++ ρ1) h1 vs) (F1 : FOk hB env h1) (H1 : HOk hB (ρ ++ ρ1) st1 h1)
    (I : CInv hB env (ρ ++ ρ1 ++ ρ') st2 vs h' C D ys) (X : ExtS (ρ ++ ρ1) ρ' [] h1 h') (hC0 : h1.get? C = none) (hD0 : h1.get? D = none) :
    compPost (model prog w) A E (some (assign (.Name (nm x) p') env)) QQ (.ref D) C (.ok .next) { s with heap := h', toks := tk } := by
  obtain ⟨ws, pD, rD⟩ := I.dl
  obtain ⟨m, hn⟩ := I.cn
  have HD : HOk hB (ρ ++ ρ1 ++ ρ' ++ [D]) (st2 ++ [ys]) h' := I.hk.join I.Dρ I.hD pD rD
  have VD : VOk hB env (ρ ++ ρ1 ++ ρ' ++ [D]) h' vs := I.vk.snoc
  have FD : FOk hB env h' := ⟨fun y c hc => by
    obtain ⟨⟨v, o, e, d⟩, hb⟩ := F1.cell y c hc
    exact ⟨⟨v, o, X.keep c o e (H1.cell_off ⟨o, e, d⟩) (fun q => nomatch q), d⟩, hb⟩, F1.inj⟩
  have rD2 : RV hB (ρ ++ ρ1 ++ ρ' ++ [D]) h' (.ref D) (.l st2.length) := .l (by rw [← I.hk.len]; simp)
  have hs0 : ∀ {a : Addr}, h1.get? a = none → s.heap.get? a = none := fun {a} ha => by
    cases q : s.heap.get? a with
    | none => rfl
    | some o => obtain ⟨o', e'⟩ := X1.live _ _ q; rw [ha] at e'; cases e'
  have XD : ExtS ρ (ρ1 ++ (ρ' ++ [D])) (fr env) s.heap h' := (X1.toS L_fr).trans ⟨fun a o e h1 _ => X.keep a o e h1 (fun q => nomatch q), X.tup, X.live, fun a ha => by
    rcases List.mem_append.mp ha with hm | hm
    · exact X.fresh a hm
    · rw [List.mem_singleton.mp hm]; exact hD0⟩
  show wpAny (model prog w) A (assign (.Name (nm x) p') env (.ref D)) (fun _ s'' => ∃ m, s''.heap.Ns C m ∧ ∀ h', Heap.SameBut C s''.heap h' → QQ .none { s'' with heap := h' }) E { s with heap := h', toks := tk }
  refine wpAny_assign_Name (store_name (s := { s with heap := h', toks := tk }) K hx ho HD VD FD rD2 fun _ h2 tk2 ρ2 H2 V2 F2 X2 _ => ?_)
  have Cfr : C ∉ fr env := fun hm => by
    rcases List.mem_cons.mp hm with q | hm
    · exact I.CL q
    · obtain ⟨⟨z, c⟩, hc, q⟩ := List.mem_map.mp hm
      obtain ⟨⟨v, hv⟩, _⟩ := FD.cell z c hc
      have q' : c = C := q
      exact cell_not_ns hv (q' ▸ hn)
  have Cρ : C ∉ ρ ++ ρ1 ++ ρ' ++ [D] := HD.ns_off hn
  have hn2 : h2.Ns C m := hn.at' fun o e => X2.keep C o e Cρ Cfr
  refine ⟨m, hn2, fun h3 hs => ?_⟩
  have hk : ∀ b o, b ≠ C → h2.get? b = some o → h3.get? b = some o := fun b o hb e => (hs.2 b hb).trans e
  have tup : TupKeep h2 h3 := fun a o e c => hk a o (fun q => by subst q; obtain ⟨_, vs, k, d⟩ := c; exact ns_no_seq hn2 e d) e
  have H3 := H2.butX (X := [C]) (fun b o hb e => hk b o (fun q => hb (List.mem_singleton.mpr q)) e) (fun a ha => by rw [List.mem_singleton.mp ha]; exact ⟨H2.ns_off hn2, I.hC⟩) tup
  have V3 := V2.butA I.CL (fun y hc => cell_not_ns hc hn2) hk tup
  have F3 : FOk hB env h3 := ⟨fun y c hc => by
    obtain ⟨⟨v, o, e, d⟩, hb⟩ := F2.cell y c hc
    exact ⟨⟨v, o, hk c o (fun q => cell_not_ns (x := v) ⟨o, q ▸ e, d⟩ hn2) e, d⟩, hb⟩, F2.inj⟩
  have XT : ExtS ρ (ρ1 ++ (ρ' ++ [D]) ++ ρ2) (fr env) s.heap h3 := (XD.trans (by simpa using X2)).butX hk (hs0 hC0)
  have e1 : ρ ++ ρ1 ++ ρ' ++ [D] ++ ρ2 = ρ ++ (ρ1 ++ (ρ' ++ [D]) ++ ρ2) := by simp
  rw [e1] at H3 V3
  exact P () h3 tk2 _ H3 V3 F3 XT trivial
end
end Mine
end

/-! # M22 -/
section
open PySem PySem.W PyProof.Rows
namespace Mine

section
variable {prog : Program} {w : World} {hB : Heap} {mg mb : Str → Option Value} {A : Around} {env : Env} {vs vs' : Vars} {st st' st1 st2 st3 : Store} {n : Nat} {v : V} {e : Expr} {s : Shared} {ρ : List Addr} {E : Value → Shared → Prop} {L : Addr} {Q : Flow → Shared → Prop}

theorem s_asgL {x y i : Nat} {p' p px pos : Pos} {scope : Scope} {iter elt : Expr} {ifs : List Expr} {src : PE} {pt : Option PE} {pe : PE} {ys : List PyData}
    (S : ∀ k ≤ n, Snd prog w hB mg k) (R : Room A n) (K : EnvOk env) (hx : x < 26) (ho : own env.scope.names (nm x)) (c : CompS env.scope.names y scope) (is : IsE env.scope.names src iter) (ie : IsE (relabN env.scope.names scope.names) pe elt)
    (ht : (pt = none ∧ ifs = []) ∨ ∃ t tx, pt = some t ∧ ifs = [tx] ∧ IsE (relabN env.scope.names scope.names) t tx)
    (hsw : swapsWith (.ListComp elt [⟨.Name (nm y) px, iter, ifs, 0⟩] scope pos) (some (.Name (nm x) p')) p.line env = pure true)
    (hs : evE fns n vs st src = some (.l i, st1)) (hev : evComp fns n vs st1 y i 0 pt pe [] = some (ys, st2))
    (H : HOk hB ρ st s.heap) (V0 : VOk hB env ρ s.heap vs) (F : FOk hB env s.heap) (P : PostS hB env ρ s (st2 ++ [ys]) (upd vs x (.l st2.length)) (fun ρ h r => FlOk hB ρ h .next r) Q) :
    wpAny (model prog w) A (exec (.Assign [.Name (nm x) p'] (.ListComp elt [⟨.Name (nm y) px, iter, ifs, 0⟩] scope pos) p) env) Q E s := by
  rw [exec_Assign_Name_used _ _ _ _ hsw]
  refine wpAny_bind (wpAny_standAt (wpAny_bind ?_))
  refine wpAny_bind (wpAny_mono (comp_srcL (use := some (assign (.Name (nm x) p') env)) (Q := fun _ s' => Q .next s') S R K c is ie ht hs hev H V0 fun h1 tk1 ρ1 H1 V1 X1 D C h' tk ρ' I X hC hD => ?_) (fun _ s' hq => wpAny_pure (wpAny_pure hq)) fun _ _ e => e)
  exact comp_used (tk1 := tk1) K hx ho (P.unit fun _ _ => .next) X1 V1 (F.ext H V0 X1) H1 I X hC hD

theorem s_asgR {x y K0 : Nat} {p' p p2 p3 px pos : Pos} {scope : Scope} {cnt elt : Expr} {pc pe : PE} {ys : List PyData} (T : TopF mg mb hB)
    (S : ∀ k ≤ n, Snd prog w hB mg k) (R : Room A n) (K : EnvOk env) (hx : x < 26) (ho : own env.scope.names (nm x)) (c : CompS env.scope.names y scope) (hg : glob env.scope.names "range") (is : IsE env.scope.names pc cnt) (ie : IsE (relabN env.scope.names scope.names) pe elt)
    (hsw : swapsWith (.ListComp elt [⟨.Name (nm y) px, .Call (.Name "range" p2) [cnt] [] p3, [], 0⟩] scope pos) (some (.Name (nm x) p')) p.line env = pure true)
    (hs : evE fns n vs st pc = some (.d (.int (K0 : Int)), st1)) (hK : K0 ≤ 1000000) (hev : evCompR fns n vs st1 y K0 0 pe [] = some (ys, st2))
    (H : HOk hB ρ st s.heap) (V0 : VOk hB env ρ s.heap vs) (F : FOk hB env s.heap) (P : PostS hB env ρ s (st2 ++ [ys]) (upd vs x (.l st2.length)) (fun ρ h r => FlOk hB ρ h .next r) Q) :
    wpAny (model prog w) A (exec (.Assign [.Name (nm x) p'] (.ListComp elt [⟨.Name (nm y) px, .Call (.Name "range" p2) [cnt] [] p3, [], 0⟩] scope pos) p) env) Q E s := by
  rw [exec_Assign_Name_used _ _ _ _ hsw]
  refine wpAny_bind (wpAny_standAt (wpAny_bind ?_))
  refine wpAny_bind (wpAny_mono (comp_srcR (use := some (assign (.Name (nm x) p') env)) (Q := fun _ s' => Q .next s') T S R K c hg is ie hs hK hev H V0 fun h1 tk1 ρ1 H1 V1 X1 D C h' tk ρ' I X hC hD => ?_) (fun _ s' hq => wpAny_pure (wpAny_pure hq)) fun _ _ e => e)
  exact comp_used (tk1 := tk1) K hx ho (P.unit fun _ _ => .next) X1 V1 (F.ext H V0 X1) H1 I X hC hD
end

/-! ## calls -/
structure FnOk (i : Nat) (F : Fn) : Prop where
  body : IsSs (fd i).scope.names F.body (fd i).body
  kind : (fd i).scope.kind = .function
  co : (fd i).scope.isCoroutine = false
  gen : (fd i).scope.isGenerator = false
  bind : ∀ (args : List Value) (pm cd doc : Value), args.length = F.params.length → bindArgs (Calls.docDef (fnm i) (fd i).params (fd i).body (fd i).scope pm cd doc) ⟨args, []⟩ = pure ((F.params.map nm).zip args)
  lt : ∀ p ∈ F.params, p < 26
  own : ∀ p ∈ F.params, own (fd i).scope.names (nm p)
  cells : ((fd i).scope.names.filter fun p => p.2 == .cell).length ≤ 1

theorem len1 {α : Type} {l : List α} (h : l.length = 1) : ∃ a, l = [a] := List.length_eq_one_iff.mp h
theorem len2 {α : Type} {l : List α} (h : l.length = 2) : ∃ a b, l = [a, b] := by
  match l, h with
  | [a, b], _ => exact ⟨a, b, rfl⟩

set_option maxRecDepth 100000
theorem fn0 : FnOk 0 F0 := ⟨is0, by decide +kernel, by decide +kernel, by decide +kernel, fun args pm cd doc h => by obtain ⟨u, rfl⟩ := len1 h; with_unfolding_all rfl, by decide, by decide +kernel, by decide +kernel⟩
theorem fn1 : FnOk 1 F1 := ⟨is1, by decide +kernel, by decide +kernel, by decide +kernel, fun args pm cd doc h => by obtain ⟨u, rfl⟩ := len1 h; with_unfolding_all rfl, by decide, by decide +kernel, by decide +kernel⟩
theorem fn2 : FnOk 2 F2 := ⟨is2, by decide +kernel, by decide +kernel, by decide +kernel, fun args pm cd doc h => by obtain ⟨u, rfl⟩ := len1 h; with_unfolding_all rfl, by decide, by decide +kernel, by decide +kernel⟩
theorem fn3 : FnOk 3 F3 := ⟨is3, by decide +kernel, by decide +kernel, by decide +kernel, fun args pm cd doc h => by obtain ⟨u, rfl⟩ := len1 h; with_unfolding_all rfl, by decide, by decide +kernel, by decide +kernel⟩
theorem fn4 : FnOk 4 F4 := ⟨is4, by decide +kernel, by decide +kernel, by decide +kernel, fun args pm cd doc h => by obtain ⟨u, v, rfl⟩ := len2 h; with_unfolding_all rfl, by decide, by decide +kernel, by decide +kernel⟩
theorem fn5 : FnOk 5 F5 := ⟨is5, by decide +kernel, by decide +kernel, by decide +kernel, fun args pm cd doc h => by obtain ⟨u, rfl⟩ := len1 h; with_unfolding_all rfl, by decide, by decide +kernel, by decide +kernel⟩
theorem fn6 : FnOk 6 F6 := ⟨is6, by decide +kernel, by decide +kernel, by decide +kernel, fun args pm cd doc h => by obtain ⟨u, rfl⟩ := len1 h; with_unfolding_all rfl, by decide, by decide +kernel, by decide +kernel⟩
theorem fn7 : FnOk 7 F7 := ⟨is7, by decide +kernel, by decide +kernel, by decide +kernel, fun args pm cd doc h => by obtain ⟨u, rfl⟩ := len1 h; with_unfolding_all rfl, by decide, by decide +kernel, by decide +kernel⟩
theorem fn8 : FnOk 8 F8 := ⟨is8, by decide +kernel, by decide +kernel, by decide +kernel, fun args pm cd doc h => by obtain ⟨u, v, rfl⟩ := len2 h; with_unfolding_all rfl, by decide, by decide +kernel, by decide +kernel⟩
theorem fn9 : FnOk 9 F9 := ⟨is9, by decide +kernel, by decide +kernel, by decide +kernel, fun args pm cd doc h => by obtain ⟨u, v, rfl⟩ := len2 h; with_unfolding_all rfl, by decide, by decide +kernel, by decide +kernel⟩
theorem fn10 : FnOk 10 F10 := ⟨is10, by decide +kernel, by decide +kernel, by decide +kernel, fun args pm cd doc h => by obtain ⟨u, rfl⟩ := len1 h; with_unfolding_all rfl, by decide, by decide +kernel, by decide +kernel⟩
theorem fn11 : FnOk 11 F11 := ⟨is11, by decide +kernel, by decide +kernel, by decide +kernel, fun args pm cd doc h => by obtain ⟨u, rfl⟩ := len1 h; with_unfolding_all rfl, by decide, by decide +kernel, by decide +kernel⟩
theorem fn12 : FnOk 12 F12 := ⟨is12, by decide +kernel, by decide +kernel, by decide +kernel, fun args pm cd doc h => by obtain ⟨u, v, rfl⟩ := len2 h; with_unfolding_all rfl, by decide, by decide +kernel, by decide +kernel⟩
theorem fn13 : FnOk 13 F13 := ⟨is13, by decide +kernel, by decide +kernel, by decide +kernel, fun args pm cd doc h => by obtain ⟨u, rfl⟩ := len1 h; with_unfolding_all rfl, by decide, by decide +kernel, by decide +kernel⟩

theorem fn_ok : ∀ (i : Nat), i < 14 → ∃ F, fns i = some F ∧ FnOk i F
  | 0, _ => ⟨_, rfl, fn0⟩ | 1, _ => ⟨_, rfl, fn1⟩ | 2, _ => ⟨_, rfl, fn2⟩ | 3, _ => ⟨_, rfl, fn3⟩ | 4, _ => ⟨_, rfl, fn4⟩ | 5, _ => ⟨_, rfl, fn5⟩ | 6, _ => ⟨_, rfl, fn6⟩
  | 7, _ => ⟨_, rfl, fn7⟩ | 8, _ => ⟨_, rfl, fn8⟩ | 9, _ => ⟨_, rfl, fn9⟩ | 10, _ => ⟨_, rfl, fn10⟩ | 11, _ => ⟨_, rfl, fn11⟩ | 12, _ => ⟨_, rfl, fn12⟩ | 13, _ => ⟨_, rfl, fn13⟩
  | i + 14, h => absurd h (by omega)
end Mine
end

/-! # M23 -/
section
open PySem PySem.W PyProof.Rows
namespace Mine

theorem bindL_look {k : Str → Option NameKind} {y : Str} (hy : k y = some .local) : ∀ (binds : List (Str × Value)) (m : Str → Option Value), bindL k binds m y = (binds.reverse.lookup y).or (m y)
  | [], m => rfl
  | (n, v) :: r, m => by
    show bindL k r _ y = _
    rw [bindL_look hy r, List.reverse_cons, List.lookup_append]
    cases q : r.reverse.lookup y with
    | some u => rfl
    | none =>
      simp only [Option.none_or]
      by_cases h : y = n
      · subst h; rw [if_pos hy]; simp
      · have e : (y == n) = false := by simpa using h
        have e2 : List.lookup y [(n, v)] = none := by rw [List.lookup_cons, e]; rfl
        rw [e2, Option.none_or]
        split
        · exact if_neg h
        · rfl
theorem bindC_look {k : Str → Option NameKind} {y : Str} (hy : k y ≠ some .local) : ∀ (binds : List (Str × Value)) (m : Str → Option Value), bindC k binds m y = (binds.reverse.lookup y).or (m y)
  | [], m => rfl
  | (n, v) :: r, m => by
    show bindC k r _ y = _
    rw [bindC_look hy r, List.reverse_cons, List.lookup_append]
    cases q : r.reverse.lookup y with
    | some u => rfl
    | none =>
      simp only [Option.none_or]
      by_cases h : y = n
      · subst h; rw [if_neg hy]; simp
      · have e : (y == n) = false := by simpa using h
        have e2 : List.lookup y [(n, v)] = none := by rw [List.lookup_cons, e]; rfl
        rw [e2, Option.none_or]
        split
        · rfl
        · exact if_neg h

theorem cells_none : ∀ {names : Names} {n : Nat} {acc : List (Str × Addr)}, names.filter (fun p => p.2 == .cell) = [] → cellsFrom n names acc = acc
  | [], _, _, _ => rfl
  | (x, k) :: r, n, acc, h => by
    rw [List.filter_cons] at h
    split at h
    · cases h
    · rename_i hk
      show (if (k == NameKind.cell) = true then _ else _) = _
      rw [if_neg hk]
      exact cells_none h
theorem cells_one : ∀ {names : Names} {n : Nat} {acc : List (Str × Addr)} {p : Str × NameKind}, names.filter (fun p => p.2 == .cell) = [p] → cellsFrom n names acc = (p.1, n) :: acc
  | [], _, _, _, h => by cases h
  | (x, k) :: r, n, acc, p, h => by
    rw [List.filter_cons] at h
    show (if (k == NameKind.cell) = true then _ else _) = _
    split at h
    · rename_i hk
      rw [if_pos hk]
      rw [List.cons.injEq] at h
      obtain ⟨rfl, h⟩ := h
      exact cells_none h
    · rename_i hk
      rw [if_neg hk]
      exact cells_one h
theorem cells_are {names : Names} (h : (names.filter fun p => p.2 == .cell).length ≤ 1) (n : Nat) :
    (cellsFrom n names [] = [] ∧ ∀ x, names.lookup x ≠ some .cell) ∨ ∃ x, cellsFrom n names [] = [(x, n)] ∧ ∀ y, names.lookup y = some .cell → y = x := by
  match hf : names.filter (fun p => p.2 == .cell), h with
  | [], _ =>
    refine .inl ⟨cells_none hf, fun x hx => ?_⟩
    have : (x, NameKind.cell) ∈ names.filter fun p => p.2 == .cell := List.mem_filter.mpr ⟨lookup_mem hx, rfl⟩
    rw [hf] at this; cases this
  | [p], _ =>
    refine .inr ⟨p.1, cells_one hf, fun y hy => ?_⟩
    have : (y, NameKind.cell) ∈ names.filter fun p => p.2 == .cell := List.mem_filter.mpr ⟨lookup_mem hy, rfl⟩
    rw [hf, List.mem_singleton] at this
    rw [← this]
  | p :: q :: r, h => exact absurd (hf ▸ h) (by simp)

section
variable {prog : Program} {w : World} {hB : Heap} {mg mb : Str → Option Value} {A : Around} {env : Env} {vs vs' : Vars} {st st' st1 st2 st3 : Store} {n : Nat} {v : V} {e : Expr} {s : Shared} {ρ : List Addr} {E : Value → Shared → Prop} {L : Addr} {Q : Value → Shared → Prop}

theorem zip_look {h : Heap} {x : Nat} (hx : x < 26) : ∀ (ps : List Nat) (us : List V) (args : List Value), RVs hB ρ h args us →
    (∀ v, (ps.zip us).reverse.lookup x = some v → ∃ u, ((ps.map nm).zip args).reverse.lookup (nm x) = some u ∧ RV hB ρ h u v) ∧ ((ps.zip us).reverse.lookup x = none → ((ps.map nm).zip args).reverse.lookup (nm x) = none)
  | [], us, args, _ => ⟨fun v h => by simp at h, fun _ => by simp⟩
  | p :: ps, [], [], _ => ⟨fun v h => by simp at h, fun _ => by simp⟩
  | p :: ps, u :: us, [], h => h.elim
  | p :: ps, [], a :: args, h => h.elim
  | p :: ps, u :: us, a :: args, ⟨r, rs⟩ => by
    obtain ⟨h1, h2⟩ := zip_look hx ps us args rs
    simp only [List.map_cons, List.zip_cons_cons, List.reverse_cons, List.lookup_append]
    have hb : (nm x == nm p) = (x == p) := by
      cases q : x == p with
      | true => rw [eq_of_beq q]; exact beq_self_eq_true _
      | false =>
        cases q2 : nm x == nm p with
        | false => rfl
        | true =>
          have := nm_inj hx (eq_of_beq q2).symm
          rw [this] at q; simp at q
    cases q : (ps.zip us).reverse.lookup x with
    | some v0 =>
      obtain ⟨u0, e0, r0⟩ := h1 v0 q
      rw [e0]
      exact ⟨fun v h => by cases h; exact ⟨u0, rfl, r0⟩, fun h => by cases h⟩
    | none =>
      rw [h2 q]
      simp only [Option.none_or, List.lookup_cons, hb]
      cases x == p with
      | true => exact ⟨fun v h => by cases h; exact ⟨a, rfl, r⟩, fun h => by cases h⟩
      | false => exact ⟨fun v h => (by cases h), fun _ => rfl⟩

theorem mkVars_lt {ps : List Nat} {us : List V} (hp : ∀ p ∈ ps, p < 26) {x : Nat} {v : V} (h : mkVars ps us x = some v) : x < 26 ∧ x ∈ ps := by
  unfold mkVars at h
  have hm : (x, v) ∈ (ps.zip us).reverse := by
    generalize (ps.zip us).reverse = l at h
    induction l with
    | nil => simp at h
    | cons q l ih =>
      obtain ⟨z, w⟩ := q
      rw [List.lookup_cons] at h
      cases hq : x == z with
      | true => rw [hq] at h; cases h; rw [eq_of_beq hq]; exact List.mem_cons_self
      | false => rw [hq] at h; exact List.mem_cons_of_mem _ (ih h)
  have := (List.of_mem_zip (List.mem_reverse.mp hm)).1
  exact ⟨hp x this, this⟩

theorem RVs.length {h : Heap} : ∀ {args : List Value} {us : List V}, RVs hB ρ h args us → args.length = us.length
  | [], [], _ => rfl
  | _ :: _, _ :: _, ⟨_, b⟩ => by rw [List.length_cons, List.length_cons, RVs.length b]
  | [], _ :: _, h => h.elim
  | _ :: _, [], h => h.elim

theorem snd_f {i : Nat} {us : List V} {a : Addr} (T : TopF mg mb hB) (SS : SndS prog w hB n) (R : Room A (n + 1)) (hi : i < 14) (hm : mg (fnm i) = some (.ref a)) (h : evF fns (n + 1) i us st = some (v, st')) (s : Shared) (ρ : List Addr) (args : List Value) (H : HOk hB ρ st s.heap) (ra : RVs hB ρ s.heap args us)
    (P : ∀ u h' tk ρ', HOk hB (ρ ++ ρ') st' h' → ExtX ρ ρ' s.heap h' → RV hB (ρ ++ ρ') h' u v → Q u { s with heap := h', toks := tk }) : wpAny (model prog w) A (call (.ref a) args) Q E s := by
  obtain ⟨F, hF, O⟩ := fn_ok i hi
  obtain ⟨a', o, pm, cd, doc, hm', ho, hd, hc⟩ := T.fn i hi
  rw [hm'] at hm; cases hm
  rw [evF] at h
  rw [hF] at h
  dsimp only at h
  split at h
  case isFalse => cases h
  rename_i hlen
  have hal : args.length = F.params.length := by rw [ra.length, hlen]
  refine wpAny_call (call_cells_ret (name := fnm i) (params := (fd i).params) (body := (fd i).body) (scope := (fd i).scope) (binds := (F.params.map nm).zip args) (by have := R.depth; omega) (H.base _ _ ho) hd (T.lim.keeps H.base) (hc.keeps H.base) (O.bind args pm cd doc hal) (fun x hx => ?_) (fun h₁ tk Fr Cl => ?_) O.co O.gen O.kind)
  · have hx1 : x.1 ∈ F.params.map nm := (List.of_mem_zip (a := x.1) (b := x.2) hx).1
    obtain ⟨p, hp, e⟩ := List.mem_map.mp hx1
    rw [← e]
    rcases O.own p hp with h1 | h1
    · exact .inl h1
    · refine .inr ⟨h1, ?_⟩
      rcases cells_are O.cells (s.heap.objs.size + 1) with ⟨_, h2⟩ | ⟨z, h2, h3⟩
      · exact absurd h1 (h2 _)
      · rw [h2, h3 _ h1]; simp
  · generalize hL : s.heap.objs.size = L at Fr Cl
    generalize henv : envOfC (fnm i) (fd i).scope L a cd = env at Fr Cl
    have hLn : s.heap.get? L = none := hL ▸ size_none _
    have above : ∀ {b : Addr}, L ≤ b → s.heap.get? b = none := fun {b} hb => by
      cases q : s.heap.get? b with
      | none => rfl
      | some o => exact absurd (Heap.lt_size q) (by rw [hL]; exact Nat.not_lt.mpr hb)
    have eL : env.locals = L := by rw [← henv]; rfl
    have eS : env.scope = (fd i).scope := by rw [← henv]; rfl
    have eC : env.cells = cellsFrom (L + 1) (fd i).scope.names [] := by rw [← henv]; rfl
    have eK : ∀ x, env.kindOf x = (fd i).scope.names.lookup x := fun x => by rw [← henv]; rfl
    have K : EnvOk env := by
      refine ⟨by rw [eS]; exact O.kind, by rw [← henv]; rfl, by rw [← henv]; rfl, fun x hx => ?_⟩
      rw [eK] at hx
      rw [eC]
      rcases cells_are O.cells (L + 1) with ⟨_, h2⟩ | ⟨z, h2, h3⟩
      · exact absurd hx (h2 _)
      · rw [h2, h3 _ hx]; exact ⟨L + 1, by simp⟩
    have H1 := H.keeps Fr.keep
    have cells : ∀ x c, (x, c) ∈ env.cells → c = L + 1 ∧ (cellsFrom (L + 1) (fd i).scope.names []).lookup x = some c ∧ env.cells = [(x, L + 1)] := fun x c hx => by
      rw [eC] at hx ⊢
      rcases cells_are O.cells (L + 1) with ⟨h1, _⟩ | ⟨z, h2, h3⟩
      · rw [h1] at hx; cases hx
      · rw [h2] at hx ⊢
        rw [List.mem_singleton] at hx
        cases hx
        exact ⟨rfl, by simp, rfl⟩
    have F1 : FOk hB env h₁ := by
      refine ⟨fun x c hx => ?_, fun x y c hx hy => ?_⟩
      · obtain ⟨h1, h2, _⟩ := cells x c hx
        exact ⟨⟨_, Cl.cell x c h2⟩, H.base_none (above (by rw [h1]; exact Nat.le_succ _))⟩
      · obtain ⟨_, _, h3⟩ := cells x c hx
        rw [h3, List.mem_singleton] at hy
        cases hy; rfl
    have V1 : VOk hB env ρ h₁ (mkVars F.params us) := by
      refine ⟨by rw [eL]; exact H.base_none hLn, ⟨_, eL ▸ Fr.ns⟩, fun x v e o => ?_⟩
      obtain ⟨hx, hxp⟩ := mkVars_lt O.lt e
      obtain ⟨u, hu, ru⟩ := (zip_look hx F.params us args ra).1 v e
      have ru' : RV hB ρ h₁ u v := by
        have := ru.mono (ρ₁ := []) (fun a o e _ => Fr.keep a o e)
        rw [List.append_nil] at this; exact this
      refine ⟨u, ?_, ru'⟩
      rw [eS] at o
      rcases o with o | o
      · refine .inl ⟨by rw [eK]; exact o, _, eL ▸ Fr.ns, ?_⟩
        rw [bindL_look (by rw [eK]; exact o), hu]; rfl
      · have hk : env.kindOf (nm x) = some .cell := by rw [eK]; exact o
        obtain ⟨c, hc⟩ := K.cells _ hk
        refine .inr ⟨hk, c, hc, ?_⟩
        have := Cl.cell (nm x) c (by rw [← eC]; exact hc)
        rw [bindC_look (by rw [hk]; simp), hu] at this
        exact this
    have X1 : ∀ {h' : Heap} {ρ' : List Addr}, ExtS ρ ρ' (fr env) h₁ h' → ExtX ρ ρ' s.heap h' := fun {h' ρ'} X => by
      refine ⟨fun b o e hb => X.keep b o (Fr.keep b o e) hb (fun hm => ?_), fun b o e c => X.tup b o (Fr.keep b o e) c, fun b o e => X.live b o (Fr.keep b o e), fun b hb => ?_⟩
      · rcases List.mem_cons.mp hm with q | hm
        · rw [q, eL, hLn] at e; cases e
        · obtain ⟨⟨z, c⟩, hc, q⟩ := List.mem_map.mp hm
          have q' : c = b := q
          rw [← q', (cells z c hc).1, above (Nat.le_succ _)] at e; cases e
      · cases q : s.heap.get? b with
        | none => rfl
        | some o => have := Fr.keep b o q; rw [X.fresh b hb] at this; cases this
    cases hb : evSs fns n (mkVars F.params us) st F.body with
    | none => rw [hb] at h; cases h
    | some q =>
      obtain ⟨fl, vs1, st1⟩ := q
      rw [hb] at h
      refine SS.ss (A := A.deeper env) R.deeper K (by rw [eS]; exact O.body) hb { s with heap := h₁, toks := tk } ρ _ _ H1 V1 F1 fun r h' tk' ρ' H' V' F' X' r' => ?_
      cases fl with
      | next =>
        cases h
        cases r'
        exact P _ h' tk' ρ' H' (X1 X') (.d .none)
      | ret u =>
        cases h
        cases r' with | ret r' => exact P _ h' tk' ρ' H' (X1 X') r'
end
end Mine
end

/-! # M24 -/
section
open PySem PySem.W PyProof.Rows
namespace Mine

section
variable {prog : Program} {w : World} {hB : Heap} {mg mb : Str → Option Value} {A : Around} {env : Env} {vs vs' : Vars} {st st' st1 st2 st3 : Store} {n : Nat} {v : V} {e : Expr} {p : PE}

theorem snd_e (T : TopF mg mb hB) (S : ∀ k ≤ n, Snd prog w hB mg k) (R : Room A (n + 1)) (K : EnvOk env) (i : IsE env.scope.names p e) (h : evE fns (n + 1) vs st p = some (v, st')) : Sw prog w hB A env vs st (eval e env) (fun ρ h u => RV hB ρ h u v) st' := by
  have S0 := S n (Nat.le_refl _)
  have R0 := R.pred
  cases i with
  | cstr =>
    rw [evE] at h
    cases h
    exact n_const .cstr
  | cint =>
    rw [evE] at h
    cases h
    exact n_const .cint
  | cnone =>
    rw [evE] at h
    cases h
    exact n_const .cnone
  | cbool =>
    rw [evE] at h
    cases h
    exact n_const .cbool
  | v hx ho =>
    rw [evE] at h
    split at h
    rotate_left
    · cases h
    rename_i u h1
    cases h
    exact n_var K (.v hx ho) h1
  | g hx hg =>
    rw [evE] at h
    split at h
    rotate_left
    · cases h
    rename_i d h1
    cases h
    exact n_glob T K (.g hx hg) h1
  | tup ies =>
    rw [evE] at h
    split at h
    rotate_left
    · cases h
    rename_i us st1 h1
    split at h
    rotate_left
    · cases h
    rename_i ds hd
    split at h
    rotate_left
    · cases h
    rename_i hl
    cases h
    exact n_tup S0 R0 K ies h1 hd hl
  | lst ies =>
    rw [evE] at h
    split at h
    rotate_left
    · cases h
    rename_i us st1 h1
    split at h
    rotate_left
    · cases h
    rename_i ds hd
    split at h
    rotate_left
    · cases h
    rename_i hl
    cases h
    exact n_lst S0 R0 K ies h1 hd hl
  | bin io ia ib =>
    rw [evE] at h
    split at h
    rotate_left
    · cases h
    rename_i u st1 h1
    split at h
    rotate_left
    · cases h
    rename_i v2 st2 h2
    split at h
    · rename_i x y
      split at h
      rotate_left
      · cases h
      rename_i z hz
      cases h
      exact n_bin S0 R0 K io ia ib h1 h2 hz
    · split at h
      · rename_i xs ys hx hy
        split at h
        rotate_left
        · cases h
        rename_i hl
        cases h
        cases io
        exact n_binL S0 R0 K ia ib h1 h2 (by assumption) (by assumption) hl
      · cases h
    · cases h
  | neg ia =>
    rw [evE] at h
    split at h
    rotate_left
    · cases h
    rename_i x st1 h1
    cases h
    exact n_neg S0 R0 K ia h1
  | cmp io ia ib =>
    rw [evE] at h
    split at h
    rotate_left
    · cases h
    rename_i u st1 h1
    split at h
    rotate_left
    · cases h
    rename_i v2 st2 h2
    split at h
    rotate_left
    · cases h
    rename_i r hr
    cases h
    exact n_cmp S0 R0 K io ia ib h1 h2 hr
  | ite it ia ib =>
    rw [evE] at h
    split at h
    · rename_i st1 h1
      exact n_ite (c := true) S0 R0 K it ia ib h1 h
    · rename_i st1 h1
      exact n_ite (c := false) S0 R0 K it ia ib h1 h
    · cases h
  | not ia =>
    rw [evE] at h
    cases h
  | and ia ib =>
    rw [evE] at h
    cases h
  | or ia ib =>
    rw [evE] at h
    cases h
  | or3 ia ib ic =>
    rw [evE] at h
    cases h
  | idx ia ib =>
    rw [evE] at h
    split at h
    rotate_left
    · cases h
    rename_i u st1 h1
    split at h
    rotate_left
    · cases h
    rename_i k st2 h2
    split at h
    rotate_left
    · cases h
    rename_i hc
    split at h
    rotate_left
    · cases h
    rename_i xs hx
    split at h
    rotate_left
    · cases h
    rename_i j hp
    split at h
    rotate_left
    · cases h
    rename_i x hj
    cases h
    exact n_idx S0 R0 K ia ib h1 h2 hc.1 hc.2 hx hp hj
  | rev ia =>
    rw [evE] at h
    split at h
    · rename_i xs st1 h1
      split at h
      rotate_left
      · cases h
      rename_i hl
      cases h
      exact n_revT S0 R0 K ia h1 hl
    · rename_i i st1 h1
      split at h
      rotate_left
      · cases h
      rename_i xs hx
      split at h
      rotate_left
      · cases h
      rename_i hl
      cases h
      exact n_revL S0 R0 K ia h1 hx hl
    · cases h
  | pre ia ib =>
    rw [evE] at h
    split at h
    rotate_left
    · cases h
    rename_i i st1 h1
    split at h
    rotate_left
    · cases h
    rename_i j st2 h2
    split at h
    rotate_left
    · cases h
    rename_i xs hx
    split at h
    rotate_left
    · cases h
    rename_i hc
    cases h
    exact n_preL S0 R0 K ia ib h1 h2 hx hc.1 hc.2.2
  | suf ia ib =>
    rw [evE] at h
    split at h
    rotate_left
    · cases h
    rename_i u st1 h1
    split at h
    rotate_left
    · cases h
    rename_i j st2 h2
    split at h
    rotate_left
    · cases h
    rename_i hc
    split at h
    · rename_i i
      split at h
      rotate_left
      · cases h
      rename_i xs hx
      split at h
      rotate_left
      · cases h
      rename_i hl
      cases h
      exact n_sufL S0 R0 K ia ib h1 h2 hx hc.1 hl
    · rename_i xs
      split at h
      rotate_left
      · cases h
      rename_i hl
      cases h
      exact n_sufT S0 R0 K ia ib h1 h2 hl.1 hl.2.1 hl.2.2
    · cases h
  | call hf hlt hg ies hne =>
    subst hf
    rw [evE] at h
    split at h
    rotate_left
    · cases h
    rename_i us st1 h1
    exact n_call T S0 R0 K hlt hg ies hne h1 h
  | len hg ia =>
    rw [evE] at h
    split at h
    rotate_left
    · cases h
    rename_i u st1 h1
    split at h
    rotate_left
    · cases h
    rename_i xs hx
    split at h
    rotate_left
    · cases h
    rename_i hl
    cases h
    exact n_len T S0 R0 K hg ia h1 hx hl
  | list hg ia =>
    rw [evE] at h
    split at h
    rotate_left
    · cases h
    rename_i u st1 h1
    split at h
    rotate_left
    · cases h
    rename_i xs hx
    split at h
    rotate_left
    · cases h
    rename_i hl
    cases h
    exact n_list T S0 R0 K hg ia h1 hx hl
  | tuple hg ia =>
    rw [evE] at h
    split at h
    rotate_left
    · cases h
    rename_i i st1 h1
    split at h
    rotate_left
    · cases h
    rename_i xs hx
    split at h
    rotate_left
    · cases h
    rename_i hl
    cases h
    exact n_tuple T S0 R0 K hg ia h1 hx hl
  | repr hg ia =>
    rw [evE] at h
    split at h
    rotate_left
    · cases h
    rename_i x st1 h1
    split at h
    rotate_left
    · cases h
    rename_i hl
    cases h
    exact n_repr T S0 R0 K hg ia h1 hl
  | int hg ia =>
    rw [evE] at h
    split at h
    rotate_left
    · cases h
    rename_i b st1 h1
    cases h
    exact n_int T S0 R0 K hg ia h1
  | sortk hg hf hlt hgf ia =>
    subst hf
    rw [evE] at h
    split at h
    rotate_left
    · cases h
    rename_i j st1 h1
    split at h
    rotate_left
    · cases h
    rename_i xs hx
    split at h
    rotate_left
    · cases h
    rename_i ks st2 hk
    split at h
    rotate_left
    · cases h
    rename_i ys hs
    cases h
    exact n_sortk T S R0 (fun k hk => (R.in1.le (k := k + 1) (by omega)).in1) K hg hlt hgf ia h1 hx hk hs
  | pop hl ia =>
    rw [evE] at h
    split at h
    rotate_left
    · cases h
    rename_i j st1 h1
    split at h
    rotate_left
    · cases h
    rename_i xs hx
    split at h
    rotate_left
    · cases h
    rename_i y hy
    split at h
    rotate_left
    · cases h
    rename_i hz
    cases h
    exact n_pop S0 R0 K hl ia h1 hx hy hz
  | extend hl ia ib =>
    rw [evE] at h
    split at h
    rotate_left
    · cases h
    rename_i j st1 h1
    split at h
    rotate_left
    · cases h
    rename_i ys st2 h2
    split at h
    rotate_left
    · cases h
    rename_i xs hx
    split at h
    rotate_left
    · cases h
    rename_i hz
    cases h
    exact n_extend S0 R0 K hl ia ib h1 h2 hx hz
  | append hl ia ib =>
    rw [evE] at h
    split at h
    rotate_left
    · cases h
    rename_i j st1 h1
    split at h
    rotate_left
    · cases h
    rename_i y st2 h2
    split at h
    rotate_left
    · cases h
    rename_i xs hx
    split at h
    rotate_left
    · cases h
    rename_i hz
    cases h
    exact n_append S0 R0 K hl ia ib h1 h2 hx hz
  | split hl ia =>
    rw [evE] at h
    split at h
    rotate_left
    · cases h
    rename_i x st1 h1
    split at h
    rotate_left
    · cases h
    rename_i hz
    cases h
    rw [Bool.and_eq_true] at hz
    exact n_split S0 R0 K hl ia h1 hz.1 (by simpa using hz.2)
  | join hl ib =>
    rw [evE] at h
    split at h
    rotate_left
    · cases h
    rename_i j st1 h1
    split at h
    rotate_left
    · cases h
    rename_i xs hx
    split at h
    rotate_left
    · cases h
    rename_i zs hzs
    split at h
    rotate_left
    · cases h
    rename_i hz
    cases h
    exact n_join S0 R0 K hl ib h1 hx hzs hz.1 hz.2.1 hz.2.2
  | comp hk hx hlt hl hc hn hf ho is ie =>
    subst hx
    rw [evE] at h
    split at h
    rotate_left
    · cases h
    rename_i i st1 h1
    split at h
    rotate_left
    · cases h
    rename_i ys st2 h2
    cases h
    exact n_comp S R0 K ⟨hk, hlt, hl, hc, hn, hf, ho⟩ is ie (.inl ⟨rfl, rfl⟩) h1 h2
  | compT hk hx hlt hl hc hn hf ho is it ie =>
    subst hx
    rw [evE] at h
    split at h
    rotate_left
    · cases h
    rename_i i st1 h1
    split at h
    rotate_left
    · cases h
    rename_i ys st2 h2
    cases h
    exact n_comp S R0 K ⟨hk, hlt, hl, hc, hn, hf, ho⟩ is ie (.inr ⟨_, _, rfl, rfl, it⟩) h1 h2
  | compR hk hx hlt hl hc hn hf ho hg is ie =>
    subst hx
    rw [evE] at h
    split at h
    rotate_left
    · cases h
    rename_i k st1 h1
    split at h
    rotate_left
    · cases h
    rename_i hr
    split at h
    rotate_left
    · cases h
    rename_i ys st2 h2
    cases h
    obtain ⟨K0, rfl⟩ := Int.eq_ofNat_of_zero_le hr.1
    exact n_compR T S R0 K ⟨hk, hlt, hl, hc, hn, hf, ho⟩ hg is ie h1 (by have := hr.2; omega) h2
  | no =>
    rw [evE] at h
    cases h

theorem snd_es {ps : List PE} {xs : List Expr} {us : List V} (pos : Pos) (S : ∀ k ≤ n, Snd prog w hB mg k) (R : Room A (n + 1)) (K : EnvOk env) (i : IsEs env.scope.names ps xs) (h : evEs fns (n + 1) vs st ps = some (us, st')) : Sw prog w hB A env vs st (spliced (backTo pos (starEach xs env))) (fun ρ h u => RVs hB ρ h u us) st' := by
  have S0 := S n (Nat.le_refl _)
  have R0 := R.pred
  intro s ρ Q E H V0 P
  cases i with
  | nil =>
    rw [evEs] at h
    cases h
    exact args_nil (P.same' H trivial)
  | cons ix ixs =>
    rw [evEs] at h
    split at h
    rotate_left
    · cases h
    rename_i u st1 h1
    split at h
    rotate_left
    · cases h
    rename_i us' st2 h2
    cases h
    refine args_cons (S0.e R0 K ix h1 s ρ _ E H V0 fun y h1' tk ρ1 H1 X1 r1 => ?_) (star_eq ix (fun q => evE_no (q ▸ h1)) env _)
    refine S0.es pos R0 K ixs h2 _ _ _ E H1 (V0.ext H X1) fun ys h2' tk2 ρ2 H2 X2 r2 => ?_
    exact (P.after (tk := tk) X1) _ h2' tk2 ρ2 H2 X2 ⟨r1.ext X2, r2⟩

theorem snd_t {b : Bool} (S : ∀ k ≤ n, Snd prog w hB mg k) (R : Room A (n + 1)) (K : EnvOk env) (i : IsE env.scope.names p e) (h : evT fns (n + 1) vs st p = some (b, st')) : Sw prog w hB A env vs st (isTrue e env (eval e env)) (fun _ _ c => c = b) st' := by
  have S0 := S n (Nat.le_refl _)
  have R0 := R.pred
  cases i with
  | not ia =>
    rw [evT] at h
    split at h
    rotate_left
    · cases h
    rename_i c st1 h1
    cases h
    exact n_not S0 R0 K ia h1
  | and ia ib =>
    rw [evT] at h
    exact n_and S0 R0 K ia ib h
  | or ia ib =>
    rw [evT] at h
    exact n_or S0 R0 K ia ib h
  | or3 ia ib ic =>
    rw [evT] at h
    cases n with
    | zero => simp [evT] at h
    | succ m =>
      rename_i a1 b1 d1 _ _ _ _
      refine n_or3 (m := m) S0 (S m (by omega)) R0 (by omega) K ia ib ic ?_
      cases ha : evT fns (m + 1) vs st a1 with
      | none => rw [ha] at h; cases h
      | some q =>
        obtain ⟨c, st1⟩ := q
        rw [ha] at h
        cases c with
        | true => exact h
        | false =>
          replace h : evT fns (m + 1) vs st1 (.or b1 d1) = some (b, st') := h
          rw [evT] at h
          exact h
  | cmp io ia ib =>
    rw [evT] at h
    split at h
    rotate_left
    · cases h
    rename_i c st1 h1
    cases h
    cases n with
    | zero => simp [evE] at h1
    | succ m =>
      rw [evE] at h1
      split at h1
      rotate_left
      · cases h1
      rename_i u st1 h2
      split at h1
      rotate_left
      · cases h1
      rename_i u' st2 h3
      split at h1
      rotate_left
      · cases h1
      rename_i r h4
      cases h1
      exact n_cmpT (S m (by omega)) (R.le (by omega)) K io ia ib h2 h3 h4
  | v hx ho =>
    rw [evT] at h
    split at h
    rotate_left
    · cases h
    rename_i c st1 h1
    cases h
    intro s ρ Q E H V0 P
    refine isTrue_plain (S0.e R0 K (.v hx ho) h1 s ρ _ E H V0 fun u h1' tk ρ1 H1 X1 r1 => ?_)
    have := r1.bool_inv
    subst this
    exact wpAny_truthy_bool ((P.after (tk := tk) X1).same' H1 rfl)
  | call hf hlt hg ies hne =>
    rw [evT] at h
    split at h
    rotate_left
    · cases h
    rename_i c st1 h1
    cases h
    intro s ρ Q E H V0 P
    refine isTrue_plain (S0.e R0 K (.call hf hlt hg ies hne) h1 s ρ _ E H V0 fun u h1' tk ρ1 H1 X1 r1 => ?_)
    have := r1.bool_inv
    subst this
    exact wpAny_truthy_bool ((P.after (tk := tk) X1).same' H1 rfl)
  | _ => (first | (cases h; done) | (simp [evT] at h))
end
end Mine
end

/-! # M25 -/
section
open PySem PySem.W PyProof.Rows
namespace Mine

section
variable {prog : Program} {w : World} {hB : Heap} {mg mb : Str → Option Value} {A : Around} {env : Env} {vs vs' : Vars} {st st' st1 st2 st3 : Store} {n : Nat} {v : V} {p : PS} {x : Stmt} {fl : Fl} {s : Shared} {ρ : List Addr} {Q : Flow → Shared → Prop} {E : Value → Shared → Prop}

theorem snd_s (T : TopF mg mb hB) (S : ∀ k ≤ n, Snd prog w hB mg k) (SS : ∀ k ≤ n, SndS prog w hB k) (R : Room A (n + 1)) (K : EnvOk env) (i : IsS env.scope.names p x) (h : evS fns (n + 1) vs st p = some (fl, vs', st'))
    (H : HOk hB ρ st s.heap) (V0 : VOk hB env ρ s.heap vs) (F : FOk hB env s.heap) (P : PostS hB env ρ s st' vs' (fun ρ h r => FlOk hB ρ h fl r) Q) : wpAny (model prog w) A (exec x env) Q E s := by
  have S0 := S n (Nat.le_refl _)
  have SS0 := SS n (Nat.le_refl _)
  have R0 := R.pred
  cases i with
  | asg hx hlt ho ie hsw =>
    subst hx
    rw [evS] at h
    split at h
    rotate_left
    · cases h
    rename_i u st1 h1
    cases h
    exact s_asg S0 R0 K hlt ho ie (hsw env) h1 H V0 F P
  | asgC hx hlt ho ie hlc hsw =>
    subst hx
    rw [evS] at h
    split at h
    rotate_left
    · cases h
    rename_i u st1 h1
    cases h
    have hsw' := hsw env rfl K.kind
    cases n with
    | zero => simp [evE] at h1
    | succ m =>
      have Sm : ∀ k ≤ m, Snd prog w hB mg k := fun k hk => S k (by omega)
      have Rm : Room A m := R.le (by omega)
      cases ie with
      | comp hk hx hlt2 hl hc hn hf hw is ie =>
        subst hx
        rw [evE] at h1
        split at h1
        rotate_left
        · cases h1
        rename_i i st1 h2
        split at h1
        rotate_left
        · cases h1
        rename_i ys st2 h3
        cases h1
        exact s_asgL Sm Rm K hlt (.inl ho) ⟨hk, hlt2, hl, hc, hn, hf, hw⟩ is ie (.inl ⟨rfl, rfl⟩) hsw' h2 h3 H V0 F P
      | compT hk hx hlt2 hl hc hn hf hw is it ie =>
        subst hx
        rw [evE] at h1
        split at h1
        rotate_left
        · cases h1
        rename_i i st1 h2
        split at h1
        rotate_left
        · cases h1
        rename_i ys st2 h3
        cases h1
        exact s_asgL Sm Rm K hlt (.inl ho) ⟨hk, hlt2, hl, hc, hn, hf, hw⟩ is ie (.inr ⟨_, _, rfl, rfl, it⟩) hsw' h2 h3 H V0 F P
      | compR hk hx hlt2 hl hc hn hf hw hg is ie =>
        subst hx
        rw [evE] at h1
        split at h1
        rotate_left
        · cases h1
        rename_i k st1 h2
        split at h1
        rotate_left
        · cases h1
        rename_i hr
        split at h1
        rotate_left
        · cases h1
        rename_i ys st2 h3
        cases h1
        obtain ⟨K0, rfl⟩ := Int.eq_ofNat_of_zero_le hr.1
        exact s_asgR T Sm Rm K hlt (.inl ho) ⟨hk, hlt2, hl, hc, hn, hf, hw⟩ hg is ie hsw' h2 (by have := hr.2; omega) h3 H V0 F P
      | no =>
        rw [evE] at h1
        cases h1
      | _ => cases hlc
  | asg2s hx hy hlx hly hox hoy hne ia ib hsw =>
    subst hx hy
    rw [evS] at h
    split at h
    rotate_left
    · cases h
    rename_i u st1 h1
    split at h
    rotate_left
    · cases h
    rename_i u2 st2 h2
    cases h
    exact s_asg2s S0 R0 K hlx hly (.inl hox) (.inl hoy) hne ia ib (hsw env rfl K.kind) h1 h2 H V0 F P
  | asg2n hx hy hlx hly hox hoy hne ia ib hsw =>
    subst hx hy
    rw [evS] at h
    split at h
    rotate_left
    · cases h
    rename_i u st1 h1
    split at h
    rotate_left
    · cases h
    rename_i u2 st2 h2
    cases h
    exact s_asg2n S0 R0 K hlx hly hox hoy ia ib (hsw env rfl K.kind) h1 h2 H V0 F P
  | put ia ii ie hsw =>
    rw [evS] at h
    split at h
    rotate_left
    · cases h
    rename_i y st1 h1
    split at h
    rotate_left
    · cases h
    rename_i l st2 h2
    split at h
    rotate_left
    · cases h
    rename_i k st3 h3
    split at h
    rotate_left
    · cases h
    rename_i xs h4
    split at h
    rotate_left
    · cases h
    rename_i hc
    split at h
    rotate_left
    · cases h
    rename_i j h5
    cases h
    exact s_put S0 R0 K ia ii ie (hsw env) h1 h2 h3 h4 hc.1 hc.2 h5 H V0 F P
  | ifs it ia ib =>
    rw [evS] at h
    split at h
    · rename_i st1 h1
      exact s_if (c := true) S0 SS0 R0 K it ia ib h1 h H V0 F P
    · rename_i st1 h1
      exact s_if (c := false) S0 SS0 R0 K it ia ib h1 h H V0 F P
    · cases h
  | whil it ib =>
    rw [evS] at h
    exact s_while S SS R0 K it ib h H V0 F P
  | forL hx hlt ho ie ib =>
    subst hx
    rw [evS] at h
    split at h
    rotate_left
    · cases h
    rename_i i st1 h1
    exact s_forL S SS R0 K hlt ho ie ib h1 h H V0 F P
  | forR hx hlt ho hg ie ib =>
    subst hx
    rw [evS] at h
    split at h
    rotate_left
    · cases h
    rename_i k st1 h1
    split at h
    rotate_left
    · cases h
    rename_i hr
    obtain ⟨K0, rfl⟩ := Int.eq_ofNat_of_zero_le hr.1
    exact s_forR T S SS R0 K hlt ho hg ie ib h1 (by have := hr.2; omega) h H V0 F P
  | ret ie =>
    rw [evS] at h
    split at h
    rotate_left
    · cases h
    rename_i u st1 h1
    cases h
    exact s_ret S0 R0 K ie h1 H V0 F P
  | ex ie hsw =>
    rw [evS] at h
    split at h
    rotate_left
    · cases h
    rename_i st1 h1
    cases h
    exact s_ex S0 R0 K ie (hsw env) h1 H V0 F P
  | no =>
    rw [evS] at h
    cases h

theorem snd_ss {ps : List PS} {xs : List Stmt} (SS : ∀ k ≤ n, SndS prog w hB k) (R : Room A (n + 1)) (K : EnvOk env) (i : IsSs env.scope.names ps xs) (h : evSs fns (n + 1) vs st ps = some (fl, vs', st'))
    (H : HOk hB ρ st s.heap) (V0 : VOk hB env ρ s.heap vs) (F : FOk hB env s.heap) (P : PostS hB env ρ s st' vs' (fun ρ h r => FlOk hB ρ h fl r) Q) : wpAny (model prog w) A (execs xs env) Q E s := by
  have SS0 := SS n (Nat.le_refl _)
  have R0 := R.pred
  cases i with
  | nil =>
    rw [evSs] at h
    cases h
    exact wpAny_execs_nil (P.here' H V0 F .next)
  | cons ix ixs =>
    rw [evSs] at h
    refine wpAny_execs_cons ?_
    split at h
    · rename_i vs1 st1 h1
      refine SS0.s R0 K ix h1 s ρ _ E H V0 F fun r h' tk ρ1 H1 V1 F1 X1 r1 => ?_
      cases r1
      exact SS0.ss R0 K ixs h _ _ Q E H1 V1 F1 (P.after (tk := tk) X1)
    · rename_i u vs1 st1 h1
      cases h
      refine SS0.s R0 K ix h1 s ρ _ E H V0 F fun r h' tk ρ1 H1 V1 F1 X1 r1 => ?_
      cases r1 with
      | ret r1 => exact P (.ret _) h' tk ρ1 H1 V1 F1 X1 (.ret r1)
    · cases h

theorem snd_all (T : TopF mg mb hB) : ∀ n, ∀ k ≤ n, Snd prog w hB mg k ∧ SndS prog w hB k
  | 0, k, hk => by
    obtain rfl : k = 0 := by omega
    refine ⟨⟨?_, ?_, ?_, ?_⟩, ⟨?_, ?_⟩⟩
    · intro A env vs st p e v st' _ _ _ h; simp [evE] at h
    · intro A env vs st ps xs us st' pos _ _ _ h; simp [evEs] at h
    · intro A env vs st p e b st' _ _ _ h; simp [evT] at h
    · intro A i us st v st' a _ _ _ h; simp [evF] at h
    · intro A env vs st p x fl vs' st' _ _ _ h; simp [evS] at h
    · intro A env vs st p x fl vs' st' _ _ _ h; simp [evSs] at h
  | n + 1, k, hk => by
    have ih := snd_all T n
    by_cases hkn : k ≤ n
    · exact ih k hkn
    obtain rfl : k = n + 1 := by omega
    have S : ∀ k ≤ n, Snd prog w hB mg k := fun k hk => (ih k hk).1
    have SS : ∀ k ≤ n, SndS prog w hB k := fun k hk => (ih k hk).2
    refine ⟨⟨?_, ?_, ?_, ?_⟩, ⟨?_, ?_⟩⟩
    · intro A env vs st p e v st' R K i h; exact snd_e T S R K i h
    · intro A env vs st ps xs us st' pos R K i h; exact snd_es pos S R K i h
    · intro A env vs st p e b st' R K i h; exact snd_t S R K i h
    · intro A i us st v st' a R hi hm h s ρ args Q E H ra P; exact snd_f T (SS n (Nat.le_refl _)) R hi hm h s ρ args H ra P
    · intro A env vs st p x fl vs' st' R K i h s ρ Q E H V0 F P; exact snd_s T S SS R K i h H V0 F P
    · intro A env vs st p x fl vs' st' R K i h s ρ Q E H V0 F P; exact snd_ss SS R K i h H V0 F P

/-- what the evaluator says of a call holds of the call -/
theorem run_fn (T : TopF mg mb hB) {i : Nat} {us : List V} {a : Addr} {Q : Value → Shared → Prop} (R : Room A n) (hi : i < 14) (hm : mg (fnm i) = some (.ref a)) (h : evF fns n i us [] = some (v, st')) (s : Shared) (args : List Value) (hs : s.heap = hB) (ra : RVs hB [] hB args us)
    (P : ∀ u h' tk ρ', HOk hB ρ' st' h' → ExtX [] ρ' hB h' → RV hB ρ' h' u v → Q u { s with heap := h', toks := tk }) : wpAny (model prog w) A (call (.ref a) args) Q E s := by
  subst hs
  refine ((snd_all T n n (Nat.le_refl _)).1).f R hi hm h s [] args Q E ⟨fun _ _ e => e, rfl, fun i a xs e => (by simp at e), List.nodup_nil, fun _ h => nomatch h⟩ ra fun u h' tk ρ' H X r => ?_
  rw [List.nil_append] at H r
  exact P u h' tk ρ' H X r
end
end Mine
end

/-! # P1 -/
section
open PySem PySem.W PyProof.Rows
namespace Mine

/-! ## the sort of the library, asked an injective rank, sorts -/
noncomputable def Wk {α : Type} (σ : Nat → Nat) (n : Nat) : KasT α → (α → Prop) → Prop
  | .ret a, Q => Q a
  | .ask i j k, Q => i < n ∧ j < n ∧ Wk σ n (k (decide (σ i < σ j))) Q
section
variable {α β : Type} {σ : Nat → Nat} {n : Nat}
theorem Wk.bind {f : α → KasT β} {Q : β → Prop} : ∀ {t : KasT α}, Wk σ n t (fun a => Wk σ n (f a) Q) → Wk σ n (t.bind f) Q
  | .ret _, h => h
  | .ask _ _ _, ⟨h1, h2, h3⟩ => ⟨h1, h2, Wk.bind h3⟩
theorem Wk.mono {Q Q' : α → Prop} (hq : ∀ a, Q a → Q' a) : ∀ {t : KasT α}, Wk σ n t Q → Wk σ n t Q'
  | .ret _, h => hq _ h
  | .ask _ _ _, ⟨h1, h2, h3⟩ => ⟨h1, h2, Wk.mono hq h3⟩

structure Pm (σ : Nat → Nat) (n : Nat) (p : Array Nat) : Prop where
  perm : p.Perm (List.range n).toArray
  inj : ∀ i j, i < n → j < n → σ i = σ j → i = j
abbrev at' (p : Array Nat) (i : Nat) : Nat := p.getD i 0
theorem Pm.size {p : Array Nat} (h : Pm σ n p) : p.size = n := by
  have := h.perm.toList.length_eq
  simpa using this
theorem Pm.lt {p : Array Nat} (h : Pm σ n p) {i : Nat} (hi : i < n) : at' p i < n := by
  have hs := h.size
  have hi' : i < p.size := by omega
  have e : at' p i = p[i] := by simp [at', Array.getD, hi']
  have hm : p[i] ∈ p.toList := by simp
  have := (h.perm.toList.mem_iff).mp hm
  simp at this
  omega
theorem Pm.ne {p : Array Nat} (h : Pm σ n p) {i j : Nat} (hij : i ≠ j) (hi : i < n) (hj : j < n) : σ (at' p i) ≠ σ (at' p j) := fun q => by
  have h1 := h.inj _ _ (h.lt hi) (h.lt hj) q
  have hs := h.size
  have hi' : i < p.size := by omega
  have hj' : j < p.size := by omega
  have ei : at' p i = p.toList[i]'(by simpa using hi') := by simp [at', Array.getD, hi']
  have ej : at' p j = p.toList[j]'(by simpa using hj') := by simp [at', Array.getD, hj']
  have hn : p.toList.Nodup := (h.perm.toList.nodup_iff).mpr (by simpa using List.nodup_range)
  rw [ei, ej] at h1
  exact hij ((List.getElem_inj hn).mp h1)
theorem at_of {p q : Array Nat} {i j : Nat} (h : p[i]? = q[j]?) : at' p i = at' q j := by
  unfold at'
  rw [Array.getD_eq_getD_getElem?, Array.getD_eq_getD_getElem?, h]

noncomputable def Up (σ : Nat → Nat) (p : Array Nat) (k : Nat) : Prop := ∀ i j, i < j → j < k → σ (at' p i) < σ (at' p j)
noncomputable def Dn (σ : Nat → Nat) (p : Array Nat) (k : Nat) : Prop := ∀ i j, i < j → j < k → σ (at' p j) < σ (at' p i)

theorem w_asc {p : Array Nat} (h : Pm σ n p) : ∀ (f m : Nat), 1 ≤ m → Up σ p m → m + f ≤ n → Wk σ n (kas_asc p f m) fun r => m ≤ r ∧ r ≤ m + f ∧ Up σ p r ∧ (r < m + f → σ (at' p r) < σ (at' p (r - 1)))
  | 0, m, _, hu, _ => ⟨Nat.le_refl _, Nat.le_refl _, hu, fun q => absurd q (by omega)⟩
  | f + 1, m, hm, hu, hf => by
    refine ⟨h.lt (by omega), h.lt (by omega), ?_⟩
    cases hc : decide (σ (p.getD m 0) < σ (p.getD (m - 1) 0)) with
    | true =>
      have hc' : σ (at' p m) < σ (at' p (m - 1)) := of_decide_eq_true hc
      exact ⟨Nat.le_refl _, by omega, hu, fun _ => hc'⟩
    | false =>
      have hc' : ¬ σ (at' p m) < σ (at' p (m - 1)) := of_decide_eq_false hc
      have hne := h.ne (i := m) (j := m - 1) (by omega) (by omega) (by omega)
      have hu' : Up σ p (m + 1) := fun i j hij hj => by
        by_cases hjm : j = m
        · subst hjm
          by_cases him : i = j - 1
          · subst him; omega
          · have := hu i (j - 1) (by omega) (by omega); omega
        · exact hu i j hij (by omega)
      refine Wk.mono ?_ (w_asc h f (m + 1) (by omega) hu' (by omega))
      intro r ⟨h1, h2, h3, h4⟩
      exact ⟨by omega, by omega, h3, fun q => h4 (by omega)⟩

theorem w_desc {p : Array Nat} (h : Pm σ n p) : ∀ (f m : Nat), 1 ≤ m → Dn σ p m → m + f ≤ n → Wk σ n (kas_desc f p m 0) fun r => r.1 = p ∧ m ≤ r.2.1 ∧ r.2.1 ≤ n ∧ Dn σ p r.2.1 ∧ r.2.2 = 0
  | 0, m, _, hu, hf => ⟨rfl, Nat.le_refl _, by omega, hu, rfl⟩
  | f + 1, m, hm, hu, hf => by
    refine ⟨h.lt (by omega), h.lt (by omega), ?_⟩
    cases hc : decide (σ (p.getD m 0) < σ (p.getD (m - 1) 0)) with
    | true =>
      have hc' : σ (at' p m) < σ (at' p (m - 1)) := of_decide_eq_true hc
      have hu' : Dn σ p (m + 1) := fun i j hij hj => by
        by_cases hjm : j = m
        · subst hjm
          by_cases him : i = j - 1
          · subst him; omega
          · have := hu i (j - 1) (by omega) (by omega); omega
        · exact hu i j hij (by omega)
      show Wk σ n (kas_desc f p (m + 1) 0) _
      refine Wk.mono ?_ (w_desc h f (m + 1) (by omega) hu' (by omega))
      intro r ⟨h1, h2, h3⟩
      exact ⟨h1, by omega, h3⟩
    | false =>
      have hc' : ¬ σ (at' p m) < σ (at' p (m - 1)) := of_decide_eq_false hc
      have hne := h.ne (i := m) (j := m - 1) (by omega) (by omega) (by omega)
      refine ⟨h.lt (by omega), h.lt (by omega), ?_⟩
      have hd : decide (σ (p.getD (m - 1) 0) < σ (p.getD m 0)) = true := decide_eq_true (by
        have : σ (at' p (m - 1)) < σ (at' p m) := by omega
        exact this)
      rw [hd]
      exact ⟨rfl, Nat.le_refl _, show m ≤ n by omega, hu, rfl⟩

theorem rev_at {p : Array Nat} {m k : Nat} (hm : m ≤ p.size) (hk : k < m) : at' (kas_rev p 0 m) k = at' p (m - 1 - k) := by
  unfold kas_rev
  apply at_of
  rw [getElem?_mirror hm ((m - 0) / 2) (by omega) k]
  split
  · congr 1; omega
  · congr 1; omega
theorem rev_at' {p : Array Nat} {m k : Nat} (hm : m ≤ p.size) (hk : m ≤ k) : at' (kas_rev p 0 m) k = at' p k := by
  unfold kas_rev
  apply at_of
  rw [getElem?_mirror hm ((m - 0) / 2) (by omega) k]
  rw [if_neg (by omega)]
theorem Pm.rev {p : Array Nat} (h : Pm σ n p) (m : Nat) : Pm σ n (kas_rev p 0 m) := ⟨(mirror_perm _ _ _ _).trans h.perm, h.inj⟩

theorem w_count {p : Array Nat} (h : Pm σ n p) (hn : 1 ≤ n) : Wk σ n (kas_count n p) fun r => Pm σ n r.2 ∧ 1 ≤ r.1 ∧ r.1 ≤ n ∧ Up σ r.2 r.1 := by
  unfold kas_count
  refine Wk.bind (Wk.mono ?_ (w_asc h (n - 1) 1 (Nat.le_refl _) (fun i j hij hj => absurd hj (by omega)) (by omega)))
  intro m ⟨h1, h2, h3, h4⟩
  by_cases hm : m = n
  · rw [if_pos (by simp [hm])]
    exact ⟨h, h1, by omega, h3⟩
  · rw [if_neg (by simpa using hm)]
    by_cases hm1 : m > 1
    · rw [if_pos hm1]
      refine ⟨h.lt (by omega), h.lt (by omega), ?_⟩
      have hd : decide (σ (p.getD 0 0) < σ (p.getD (m - 1) 0)) = true := decide_eq_true (h3 0 (m - 1) (by omega) (by omega))
      rw [hd]
      exact ⟨h, h1, by omega, h3⟩
    · rw [if_neg hm1]
      have e : m = 1 := by omega
      subst e
      have h5 := h4 (by omega)
      unfold kas_descPart
      refine Wk.bind (Wk.mono ?_ (w_desc h (n - (1 + 1)) 2 (by omega) (fun i j hij hj => ?_) (by omega)))
      · rintro ⟨q, m', qz⟩ ⟨e1, g2, g3, g4, e2⟩
        have e1' : q = p := e1
        have e2' : qz = 0 := e2
        subst e1' e2'
        replace g2 : 2 ≤ m' := g2
        replace g3 : m' ≤ n := g3
        replace g4 : Dn σ q m' := g4
        show Wk σ n (kas_tail3 m' n q) _
        unfold kas_tail3
        have hs := h.size
        have hup : Up σ (kas_rev q 0 m') m' := fun i j hij hj => by
          rw [rev_at (by omega) (by omega), rev_at (by omega) hj]
          exact g4 (m' - 1 - j) (m' - 1 - i) (by omega) (by omega)
        refine Wk.bind (Wk.mono ?_ (w_asc (h.rev m') (n - m') m' (by omega) hup (by omega)))
        intro k ⟨k1, k2, k3, _⟩
        exact ⟨h.rev m', by omega, by omega, k3⟩
      · have : i = 0 := by omega
        have : j = 1 := by omega
        subst_vars
        exact h5

theorem w_place {p : Array Nat} (h : Pm σ n p) {k : Nat} (hk : k < n) (hu : Up σ p k) : ∀ (f l r : Nat), l ≤ r → r ≤ k → r - l ≤ f → (∀ i, i < l → σ (at' p i) < σ (at' p k)) → (∀ i, r ≤ i → i < k → σ (at' p k) < σ (at' p i)) →
    Wk σ n (kas_place p k f l r) fun x => x ≤ k ∧ (∀ i, i < x → σ (at' p i) < σ (at' p k)) ∧ (∀ i, x ≤ i → i < k → σ (at' p k) < σ (at' p i))
  | 0, l, r, h1, h2, h3, h4, h5 => ⟨by omega, h4, fun i hi => h5 i (by omega)⟩
  | f + 1, l, r, h1, h2, h3, h4, h5 => by
    unfold kas_place
    by_cases hlr : l ≥ r
    · rw [if_pos hlr]
      exact ⟨by omega, h4, fun i hi => h5 i (by omega)⟩
    · rw [if_neg hlr]
      refine ⟨h.lt (by omega), h.lt (by omega), ?_⟩
      cases hc : decide (σ (p.getD k 0) < σ (p.getD ((l + r) / 2) 0)) with
      | true =>
        have hc' : σ (at' p k) < σ (at' p ((l + r) / 2)) := of_decide_eq_true hc
        refine w_place h hk hu f l ((l + r) / 2) (by omega) (by omega) (by omega) h4 fun i hi hik => ?_
        by_cases q : i = (l + r) / 2
        · rw [q]; exact hc'
        · have := hu ((l + r) / 2) i (by omega) hik; omega
      | false =>
        have hc' : ¬ σ (at' p k) < σ (at' p ((l + r) / 2)) := of_decide_eq_false hc
        have hne := h.ne (i := k) (j := (l + r) / 2) (by omega) hk (by omega)
        refine w_place h hk hu f ((l + r) / 2 + 1) r (by omega) h2 (by omega) (fun i hi => ?_) h5
        by_cases q : i = (l + r) / 2
        · rw [q]; omega
        · have := hu i ((l + r) / 2) (by omega) (by omega); omega

theorem w_bin : ∀ (f : Nat) (p : Array Nat) (k : Nat), Pm σ n p → 1 ≤ k → k + f = n → Up σ p k → Wk σ n (kas_bin f p k) fun q => Pm σ n q ∧ Up σ q n
  | 0, p, k, h, _, hk, hu => ⟨h, by have : k = n := by omega
                                    rw [← this]; exact hu⟩
  | f + 1, p, k, h, h1, hk, hu => by
    unfold kas_bin
    refine Wk.bind (Wk.mono ?_ (w_place h (by omega) hu k 0 k (by omega) (Nat.le_refl _) (by omega) (fun i hi => absurd hi (by omega)) (fun i hi hik => absurd hik (by omega))))
    intro l ⟨hl, ha, hb⟩
    have hs := h.size
    have eb : ∀ i, at' (bubble p k (k - l)) i = if i = l then at' p k else if l < i ∧ i ≤ k then at' p (i - 1) else at' p i := fun i => by
      have := getElem?_bubble (xs := p) (src := k) (by omega) (k - l) (by omega) i
      rw [show k - (k - l) = l by omega] at this
      by_cases q1 : i = l
      · rw [if_pos q1]; rw [if_pos q1] at this; exact at_of this
      · rw [if_neg q1]; rw [if_neg q1] at this
        by_cases q2 : l < i ∧ i ≤ k
        · rw [if_pos q2]; rw [if_pos q2] at this; exact at_of this
        · rw [if_neg q2]; rw [if_neg q2] at this; exact at_of this
    refine w_bin f _ (k + 1) ⟨(bubble_perm _ _ _).trans h.perm, h.inj⟩ (by omega) (by omega) fun i j hij hj => ?_
    rw [eb, eb]
    by_cases qj : j = l
    · rw [if_neg (by omega), if_neg (by omega), if_pos qj]
      exact ha i (by omega)
    · rw [if_neg qj]
      by_cases qi : i = l
      · rw [if_pos qi, if_pos (by omega)]
        exact hb (j - 1) (by omega) (by omega)
      · rw [if_neg qi]
        by_cases ri : l < i ∧ i ≤ k
        · rw [if_pos ri, if_pos (by omega)]
          exact hu (i - 1) (j - 1) (by omega) (by omega)
        · rw [if_neg ri]
          by_cases rj : l < j ∧ j ≤ k
          · rw [if_pos rj]
            exact hu i (j - 1) (by omega) (by omega)
          · rw [if_neg rj]
            exact hu i j hij (by omega)

theorem w_sort (hn : 1 ≤ n) (inj : ∀ i j, i < n → j < n → σ i = σ j → i = j) : Wk σ n (kas_sort n) fun q => Pm σ n q ∧ Up σ q n := by
  unfold kas_sort
  refine Wk.bind (Wk.mono ?_ (w_count (p := List.toArray (List.range n)) ⟨.refl _, inj⟩ hn))
  rintro ⟨m, p⟩ ⟨h, h1, h2, h3⟩
  by_cases hm : m < n
  · show Wk σ n (if m < n then kas_bin (n - max m 1) p (max m 1) else .ret p) _
    rw [if_pos hm]
    have e : max m 1 = m := by omega
    rw [e]
    exact w_bin (n - m) p m h h1 (by omega) h3
  · show Wk σ n (if m < n then kas_bin (n - max m 1) p (max m 1) else .ret p) _
    rw [if_neg hm]
    have e : m = n := by omega
    exact ⟨h, e ▸ h3⟩

theorem run_of_wk {ks : List PyData} (hk : ∀ i j, i < n → j < n → ∃ x y, ks[i]? = some x ∧ ks[j]? = some y ∧ keyLess x y = some (decide (σ i < σ j))) {Q : α → Prop} : ∀ {t : KasT α}, Wk σ n t Q → ∃ a, runKas ks t = some a ∧ Q a
  | .ret a, h => ⟨a, rfl, h⟩
  | .ask i j k, ⟨h1, h2, h3⟩ => by
    obtain ⟨x, y, e1, e2, e3⟩ := hk i j h1 h2
    obtain ⟨a, e4, hq⟩ := run_of_wk hk h3
    refine ⟨a, ?_, hq⟩
    unfold runKas
    rw [e1, e2]
    dsimp only
    rw [e3]
    exact e4

/-- what the sort gives -/
theorem sort_ok {ks : List PyData} (hn : 1 ≤ n) (inj : ∀ i j, i < n → j < n → σ i = σ j → i = j) (hk : ∀ i j, i < n → j < n → ∃ x y, ks[i]? = some x ∧ ks[j]? = some y ∧ keyLess x y = some (decide (σ i < σ j))) :
    ∃ p, runKas ks (kas_sort n) = some p ∧ p.toList.Perm (List.range n) ∧ p.toList.Pairwise (fun i j => σ i < σ j) := by
  obtain ⟨p, e, h, hu⟩ := run_of_wk hk (w_sort hn inj)
  refine ⟨p, e, by simpa using h.perm.toList, ?_⟩
  have hs := h.size
  rw [List.pairwise_iff_getElem]
  intro i j hi hj hij
  have hi' : i < p.size := by simpa using hi
  have hj' : j < p.size := by simpa using hj
  have := hu i j hij (by omega)
  have ei : at' p i = p.toList[i] := by simp [at', Array.getD, hi']
  have ej : at' p j = p.toList[j] := by simp [at', Array.getD, hj']
  rw [ei, ej] at this
  exact this
end
end Mine
end

/-! # P2 -/
section
open PySem PySem.W PyProof.Rows
set_option maxRecDepth 100000
namespace Mine

/-! ## the table of members, by text and whole -/
noncomputable def nmK (s : Str) : PyData := .tuple [.str "name", .str s, .tuple []]
noncomputable def tab : List (PyData × Str × Str) := [
  (nmK "Any", "Any", "Any"),
  (nmK "Bool", "Bool", "Bool"),
  (nmK "Char", "Char", "Char"),
  (nmK "Int64", "Int64", "Int64"),
  (nmK "Integer", "Integer", "Integer"),
  (.tuple [.str "name", .str "Ref", .tuple [nmK "Bool"]], "Ref{Bool}", "Ref{Bool}"),
  (.tuple [.str "name", .str "Ref", .tuple [nmK "Char"]], "Ref{Char}", "Ref{Char}"),
  (.tuple [.str "name", .str "Ref", .tuple [nmK "Int64"]], "Ref{Int64}", "Ref{Int64}"),
  (.tuple [.str "name", .str "Ref", .tuple [nmK "Integer"]], "Ref{Integer}", "Ref{Integer}"),
  (.tuple [.str "var", .str "T.1"], "T", "T.1"),
  (.tuple [.str "var", .str "T.2"], "T", "T.2"),
  (.tuple [.str "tuple", .tuple [nmK "Bool"], .none], "Tuple{Bool}", "Tuple{Bool}"),
  (.tuple [.str "tuple", .tuple [nmK "Char"], .none], "Tuple{Char}", "Tuple{Char}"),
  (.tuple [.str "tuple", .tuple [nmK "Int64"], .none], "Tuple{Int64}", "Tuple{Int64}"),
  (.tuple [.str "tuple", .tuple [nmK "Integer"], .none], "Tuple{Integer}", "Tuple{Integer}"),
  (.tuple [.str "tuple", .tuple [], nmK "Bool"], "Tuple{Vararg{Bool}}", "Tuple{Vararg{Bool}}"),
  (.tuple [.str "tuple", .tuple [], nmK "Char"], "Tuple{Vararg{Char}}", "Tuple{Vararg{Char}}"),
  (.tuple [.str "tuple", .tuple [], nmK "Int64"], "Tuple{Vararg{Int64}}", "Tuple{Vararg{Int64}}"),
  (.tuple [.str "tuple", .tuple [], nmK "Integer"], "Tuple{Vararg{Integer}}", "Tuple{Vararg{Integer}}"),
  (.tuple [.str "typeof", nmK "Bool"], "Type{Bool}", "Type{Bool}"),
  (.tuple [.str "typeof", nmK "Char"], "Type{Char}", "Type{Char}"),
  (.tuple [.str "typeof", nmK "Int64"], "Type{Int64}", "Type{Int64}"),
  (.tuple [.str "typeof", nmK "Integer"], "Type{Integer}", "Type{Integer}"),
  (.tuple [.str "bottom"], "Union{}", "Union{}")]

noncomputable def tabAt (i : Nat) : PyData × Str × Str := tab.getD i (.none, "", "")
noncomputable def kindD (i : Nat) : PyData := (tabAt i).1
noncomputable def txtD (i : Nat) : Str := (tabAt i).2.1
noncomputable def whoD (i : Nat) : Str := (tabAt i).2.2
noncomputable def rowD (i : Nat) : PyData := .tuple [kindD i, .str (txtD i), .str (whoD i)]
noncomputable def keyD (i : Nat) : PyData := .tuple [.str (txtD i), .str (whoD i), .str (kindD i).shown]

theorem all1 {p : Nat → Bool} (h : ((List.range 24).all p) = true) : ∀ i, i < 24 → p i = true := fun i hi => List.all_eq_true.mp h i (List.mem_range.mpr hi)
theorem all2 {p : Nat → Nat → Bool} (h : ((List.range 24).all fun i => (List.range 24).all (p i)) = true) : ∀ i j, i < 24 → j < 24 → p i j = true := fun i j hi hj => all1 (all1 h i hi) j hj

theorem kind_shaped : ∀ i, i < 24 → shapedV (kindD i) = true := all1 (by decide +kernel)
theorem row_shaped : ∀ i, i < 24 → shapedV (rowD i) = true := all1 (by decide +kernel)
theorem kind_eqv {i j : Nat} (hi : i < 24) (hj : j < 24) : PyData.eqv (kindD i) (kindD j) = (i == j) := eq_of_beq (all2 (p := fun i j => PyData.eqv (kindD i) (kindD j) == (i == j)) (by decide +kernel) i j hi hj)
theorem row_eqv {i j : Nat} (hi : i < 24) (hj : j < 24) : PyData.eqv (rowD i) (rowD j) = (i == j) := eq_of_beq (all2 (p := fun i j => PyData.eqv (rowD i) (rowD j) == (i == j)) (by decide +kernel) i j hi hj)
theorem key_less {i j : Nat} (hi : i < 24) (hj : j < 24) : keyLess (keyD i) (keyD j) = some (decide (i < j)) := eq_of_beq (all2 (p := fun i j => keyLess (keyD i) (keyD j) == some (decide (i < j))) (by decide +kernel) i j hi hj)
theorem row_less {i j : Nat} (hi : i < 24) (hj : j < 24) : tupLt [.str (txtD i), .str (whoD i)] [.str (txtD j), .str (whoD j)] = some (decide (i < j)) :=
  eq_of_beq (all2 (p := fun i j => tupLt [.str (txtD i), .str (whoD i)] [.str (txtD j), .str (whoD j)] == some (decide (i < j))) (by decide +kernel) i j hi hj)
theorem kind_bottom : kindD 23 = bottomD := rfl
theorem kind_any : kindD 0 = anyD := rfl

/-- a kind is a tuple that opens with its word -/
theorem kind_head : ∀ i, i < 24 → ∃ x rest, kindD i = .tuple (.str x :: rest) ∧ (x == ("union" : Str)) = false ∧ shapedV (.str x) = true
  | 0, _ => ⟨_, _, rfl, by decide +kernel, by decide +kernel⟩
  | 1, _ => ⟨_, _, rfl, by decide +kernel, by decide +kernel⟩
  | 2, _ => ⟨_, _, rfl, by decide +kernel, by decide +kernel⟩
  | 3, _ => ⟨_, _, rfl, by decide +kernel, by decide +kernel⟩
  | 4, _ => ⟨_, _, rfl, by decide +kernel, by decide +kernel⟩
  | 5, _ => ⟨_, _, rfl, by decide +kernel, by decide +kernel⟩
  | 6, _ => ⟨_, _, rfl, by decide +kernel, by decide +kernel⟩
  | 7, _ => ⟨_, _, rfl, by decide +kernel, by decide +kernel⟩
  | 8, _ => ⟨_, _, rfl, by decide +kernel, by decide +kernel⟩
  | 9, _ => ⟨_, _, rfl, by decide +kernel, by decide +kernel⟩
  | 10, _ => ⟨_, _, rfl, by decide +kernel, by decide +kernel⟩
  | 11, _ => ⟨_, _, rfl, by decide +kernel, by decide +kernel⟩
  | 12, _ => ⟨_, _, rfl, by decide +kernel, by decide +kernel⟩
  | 13, _ => ⟨_, _, rfl, by decide +kernel, by decide +kernel⟩
  | 14, _ => ⟨_, _, rfl, by decide +kernel, by decide +kernel⟩
  | 15, _ => ⟨_, _, rfl, by decide +kernel, by decide +kernel⟩
  | 16, _ => ⟨_, _, rfl, by decide +kernel, by decide +kernel⟩
  | 17, _ => ⟨_, _, rfl, by decide +kernel, by decide +kernel⟩
  | 18, _ => ⟨_, _, rfl, by decide +kernel, by decide +kernel⟩
  | 19, _ => ⟨_, _, rfl, by decide +kernel, by decide +kernel⟩
  | 20, _ => ⟨_, _, rfl, by decide +kernel, by decide +kernel⟩
  | 21, _ => ⟨_, _, rfl, by decide +kernel, by decide +kernel⟩
  | 22, _ => ⟨_, _, rfl, by decide +kernel, by decide +kernel⟩
  | 23, _ => ⟨_, _, rfl, by decide +kernel, by decide +kernel⟩
  | i + 24, h => absurd h (by omega)
theorem repr_ok : ∀ i, i < 24 → reprOk (kindD i) = true := all1 (by decide +kernel)
theorem key_first (i : Nat) : firstStr (keyD i) = true := rfl
end Mine
end

/-! # P3 -/
section
open PySem PySem.W PyProof.Rows
set_option maxRecDepth 100000
namespace Mine
open PE PS

/-- a block ends with u, in the store st' -/
noncomputable def Runs (n : Nat) (vs : Vars) (st : Store) (ps : List PS) (u : V) (st' : Store) : Prop := ∃ vs', evSs fns n vs st ps = some (.ret u, vs', st')
section
variable {n : Nat} {vs vs1 : Vars} {st st1 st2 : Store} {p : PS} {r : List PS} {u v : V} {e t : PE} {x y : Nat}
theorem r_next (h : evS fns n vs st p = some (.next, vs1, st1)) (k : Runs n vs1 st1 r v st2) : Runs (n + 1) vs st (p :: r) v st2 := by
  obtain ⟨vs', k⟩ := k
  exact ⟨vs', by rw [evSs]; simp only [h]; exact k⟩
theorem r_asg (u : V) (st1 : Store) (h : evE fns n vs st e = some (u, st1)) (k : Runs (n + 1) (upd vs x u) st1 r v st2) : Runs (n + 2) vs st (.asg x e :: r) v st2 :=
  r_next (by rw [evS]; simp only [h]) k
theorem r_asgC (u : V) (st1 : Store) (h : evE fns n vs st e = some (u, st1)) (k : Runs (n + 1) (upd vs x u) st1 r v st2) : Runs (n + 2) vs st (.asgC x e :: r) v st2 :=
  r_next (by rw [evS]; simp only [h]) k
theorem r_asg2 {a b : PE} (u w : V) (st1 st3 : Store) (h : evE fns n vs st a = some (u, st1)) (h2 : evE fns n vs st1 b = some (w, st3)) (k : Runs (n + 1) (upd (upd vs x u) y w) st3 r v st2) : Runs (n + 2) vs st (.asg2 x y a b :: r) v st2 :=
  r_next (by rw [evS]; simp only [h, h2]) k
theorem r_skip {a : List PS} (st1 : Store) (h : evT fns (n + 1) vs st t = some (false, st1)) (k : Runs (n + 2) vs st1 r v st2) : Runs (n + 3) vs st (.ifs t a [] :: r) v st2 :=
  r_next (by rw [evS]; simp only [h]; rw [evSs]) k
theorem r_then {a b : List PS} (st1 : Store) (h : evT fns n vs st t = some (true, st1)) (k : Runs n vs st1 a v st2) : Runs (n + 2) vs st (.ifs t a b :: r) v st2 := by
  obtain ⟨vs', k⟩ := k
  exact ⟨vs', by rw [evSs, evS]; simp only [h, k]⟩
theorem r_ret (h : evE fns n vs st e = some (u, st1)) : Runs (n + 2) vs st (.ret e :: r) u st1 := ⟨vs, by rw [evSs, evS]; simp only [h]⟩
noncomputable def v0 : Vars := fun _ => Option.none
theorem mk1 (p : Nat) (u : V) : mkVars [p] [u] = upd v0 p u := by
  funext x
  unfold mkVars upd v0
  simp only [List.zip_cons_cons, List.zip_nil_left, List.reverse_cons, List.reverse_nil, List.nil_append, List.lookup_cons, List.lookup_nil]
  by_cases h : x = p
  · subst h; simp
  · have e : (x == p) = false := by simpa using h
    rw [e, if_neg h]
theorem mk2 (p q : Nat) (u w : V) : mkVars [p, q] [u, w] = upd (upd v0 p u) q w := by
  funext x
  unfold mkVars upd v0
  simp only [List.zip_cons_cons, List.zip_nil_left, List.reverse_cons, List.reverse_nil, List.nil_append, List.lookup_cons, List.lookup_nil, List.cons_append]
  by_cases h : x = q
  · subst h; simp
  · have e : (x == q) = false := by simpa using h
    rw [e, if_neg h]
    by_cases h : x = p
    · subst h; simp
    · have e : (x == p) = false := by simpa using h
      simp only [e, if_neg h]
theorem f_run1 {i p : Nat} {b : List PS} {w : V} (hF : fns i = some ⟨[p], b⟩) (h : Runs n (upd v0 p w) st b u st1) : evF fns (n + 1) i [w] st = some (u, st1) := by
  obtain ⟨vs', h⟩ := h
  rw [evF]; simp only [hF, List.length_cons, List.length_nil, if_true, mk1, h]
theorem f_run2 {i p q : Nat} {b : List PS} {w z : V} (hF : fns i = some ⟨[p, q], b⟩) (h : Runs n (upd (upd v0 p w) q z) st b u st1) : evF fns (n + 1) i [w, z] st = some (u, st1) := by
  obtain ⟨vs', h⟩ := h
  rw [evF]; simp only [hF, List.length_cons, List.length_nil, if_true, mk2, h]
end

theorem sh_name : shapedV (.str (Str.ofString "name")) = true := by decide +kernel
theorem sh_tuple : shapedV (.str (Str.ofString "tuple")) = true := by decide +kernel
theorem sh_union : shapedV (.str (Str.ofString "union")) = true := by decide +kernel
theorem sh_all : shapedV (.str (Str.ofString "all")) = true := by decide +kernel
theorem sh_typeof : shapedV (.str (Str.ofString "typeof")) = true := by decide +kernel
theorem sh_fn : shapedV (.str (Str.ofString "fn")) = true := by decide +kernel
theorem sh_n : shapedV (.str (Str.ofString "n")) = true := by decide +kernel
theorem sh_var : shapedV (.str (Str.ofString "var")) = true := by decide +kernel
theorem sh_bottom : shapedV (.str (Str.ofString "bottom")) = true := by decide +kernel
theorem q_name_name : (Str.ofString "name" == Str.ofString "name") = true := by decide +kernel
theorem q_name_tuple : (Str.ofString "name" == Str.ofString "tuple") = false := by decide +kernel
theorem q_name_union : (Str.ofString "name" == Str.ofString "union") = false := by decide +kernel
theorem q_name_all : (Str.ofString "name" == Str.ofString "all") = false := by decide +kernel
theorem q_name_typeof : (Str.ofString "name" == Str.ofString "typeof") = false := by decide +kernel
theorem q_name_fn : (Str.ofString "name" == Str.ofString "fn") = false := by decide +kernel
theorem q_name_n : (Str.ofString "name" == Str.ofString "n") = false := by decide +kernel
theorem q_name_var : (Str.ofString "name" == Str.ofString "var") = false := by decide +kernel
theorem q_name_bottom : (Str.ofString "name" == Str.ofString "bottom") = false := by decide +kernel
theorem q_tuple_name : (Str.ofString "tuple" == Str.ofString "name") = false := by decide +kernel
theorem q_tuple_tuple : (Str.ofString "tuple" == Str.ofString "tuple") = true := by decide +kernel
theorem q_tuple_union : (Str.ofString "tuple" == Str.ofString "union") = false := by decide +kernel
theorem q_tuple_all : (Str.ofString "tuple" == Str.ofString "all") = false := by decide +kernel
theorem q_tuple_typeof : (Str.ofString "tuple" == Str.ofString "typeof") = false := by decide +kernel
theorem q_tuple_fn : (Str.ofString "tuple" == Str.ofString "fn") = false := by decide +kernel
theorem q_tuple_n : (Str.ofString "tuple" == Str.ofString "n") = false := by decide +kernel
theorem q_tuple_var : (Str.ofString "tuple" == Str.ofString "var") = false := by decide +kernel
theorem q_tuple_bottom : (Str.ofString "tuple" == Str.ofString "bottom") = false := by decide +kernel
theorem q_union_name : (Str.ofString "union" == Str.ofString "name") = false := by decide +kernel
theorem q_union_tuple : (Str.ofString "union" == Str.ofString "tuple") = false := by decide +kernel
theorem q_union_union : (Str.ofString "union" == Str.ofString "union") = true := by decide +kernel
theorem q_union_all : (Str.ofString "union" == Str.ofString "all") = false := by decide +kernel
theorem q_union_typeof : (Str.ofString "union" == Str.ofString "typeof") = false := by decide +kernel
theorem q_union_fn : (Str.ofString "union" == Str.ofString "fn") = false := by decide +kernel
theorem q_union_n : (Str.ofString "union" == Str.ofString "n") = false := by decide +kernel
theorem q_union_var : (Str.ofString "union" == Str.ofString "var") = false := by decide +kernel
theorem q_union_bottom : (Str.ofString "union" == Str.ofString "bottom") = false := by decide +kernel
theorem q_all_name : (Str.ofString "all" == Str.ofString "name") = false := by decide +kernel
theorem q_all_tuple : (Str.ofString "all" == Str.ofString "tuple") = false := by decide +kernel
theorem q_all_union : (Str.ofString "all" == Str.ofString "union") = false := by decide +kernel
theorem q_all_all : (Str.ofString "all" == Str.ofString "all") = true := by decide +kernel
theorem q_all_typeof : (Str.ofString "all" == Str.ofString "typeof") = false := by decide +kernel
theorem q_all_fn : (Str.ofString "all" == Str.ofString "fn") = false := by decide +kernel
theorem q_all_n : (Str.ofString "all" == Str.ofString "n") = false := by decide +kernel
theorem q_all_var : (Str.ofString "all" == Str.ofString "var") = false := by decide +kernel
theorem q_all_bottom : (Str.ofString "all" == Str.ofString "bottom") = false := by decide +kernel
theorem q_typeof_name : (Str.ofString "typeof" == Str.ofString "name") = false := by decide +kernel
theorem q_typeof_tuple : (Str.ofString "typeof" == Str.ofString "tuple") = false := by decide +kernel
theorem q_typeof_union : (Str.ofString "typeof" == Str.ofString "union") = false := by decide +kernel
theorem q_typeof_all : (Str.ofString "typeof" == Str.ofString "all") = false := by decide +kernel
theorem q_typeof_typeof : (Str.ofString "typeof" == Str.ofString "typeof") = true := by decide +kernel
theorem q_typeof_fn : (Str.ofString "typeof" == Str.ofString "fn") = false := by decide +kernel
theorem q_typeof_n : (Str.ofString "typeof" == Str.ofString "n") = false := by decide +kernel
theorem q_typeof_var : (Str.ofString "typeof" == Str.ofString "var") = false := by decide +kernel
theorem q_typeof_bottom : (Str.ofString "typeof" == Str.ofString "bottom") = false := by decide +kernel
theorem q_fn_name : (Str.ofString "fn" == Str.ofString "name") = false := by decide +kernel
theorem q_fn_tuple : (Str.ofString "fn" == Str.ofString "tuple") = false := by decide +kernel
theorem q_fn_union : (Str.ofString "fn" == Str.ofString "union") = false := by decide +kernel
theorem q_fn_all : (Str.ofString "fn" == Str.ofString "all") = false := by decide +kernel
theorem q_fn_typeof : (Str.ofString "fn" == Str.ofString "typeof") = false := by decide +kernel
theorem q_fn_fn : (Str.ofString "fn" == Str.ofString "fn") = true := by decide +kernel
theorem q_fn_n : (Str.ofString "fn" == Str.ofString "n") = false := by decide +kernel
theorem q_fn_var : (Str.ofString "fn" == Str.ofString "var") = false := by decide +kernel
theorem q_fn_bottom : (Str.ofString "fn" == Str.ofString "bottom") = false := by decide +kernel
theorem q_n_name : (Str.ofString "n" == Str.ofString "name") = false := by decide +kernel
theorem q_n_tuple : (Str.ofString "n" == Str.ofString "tuple") = false := by decide +kernel
theorem q_n_union : (Str.ofString "n" == Str.ofString "union") = false := by decide +kernel
theorem q_n_all : (Str.ofString "n" == Str.ofString "all") = false := by decide +kernel
theorem q_n_typeof : (Str.ofString "n" == Str.ofString "typeof") = false := by decide +kernel
theorem q_n_fn : (Str.ofString "n" == Str.ofString "fn") = false := by decide +kernel
theorem q_n_n : (Str.ofString "n" == Str.ofString "n") = true := by decide +kernel
theorem q_n_var : (Str.ofString "n" == Str.ofString "var") = false := by decide +kernel
theorem q_n_bottom : (Str.ofString "n" == Str.ofString "bottom") = false := by decide +kernel
theorem q_var_name : (Str.ofString "var" == Str.ofString "name") = false := by decide +kernel
theorem q_var_tuple : (Str.ofString "var" == Str.ofString "tuple") = false := by decide +kernel
theorem q_var_union : (Str.ofString "var" == Str.ofString "union") = false := by decide +kernel
theorem q_var_all : (Str.ofString "var" == Str.ofString "all") = false := by decide +kernel
theorem q_var_typeof : (Str.ofString "var" == Str.ofString "typeof") = false := by decide +kernel
theorem q_var_fn : (Str.ofString "var" == Str.ofString "fn") = false := by decide +kernel
theorem q_var_n : (Str.ofString "var" == Str.ofString "n") = false := by decide +kernel
theorem q_var_var : (Str.ofString "var" == Str.ofString "var") = true := by decide +kernel
theorem q_var_bottom : (Str.ofString "var" == Str.ofString "bottom") = false := by decide +kernel
theorem q_bottom_name : (Str.ofString "bottom" == Str.ofString "name") = false := by decide +kernel
theorem q_bottom_tuple : (Str.ofString "bottom" == Str.ofString "tuple") = false := by decide +kernel
theorem q_bottom_union : (Str.ofString "bottom" == Str.ofString "union") = false := by decide +kernel
theorem q_bottom_all : (Str.ofString "bottom" == Str.ofString "all") = false := by decide +kernel
theorem q_bottom_typeof : (Str.ofString "bottom" == Str.ofString "typeof") = false := by decide +kernel
theorem q_bottom_fn : (Str.ofString "bottom" == Str.ofString "fn") = false := by decide +kernel
theorem q_bottom_n : (Str.ofString "bottom" == Str.ofString "n") = false := by decide +kernel
theorem q_bottom_var : (Str.ofString "bottom" == Str.ofString "var") = false := by decide +kernel
theorem q_bottom_bottom : (Str.ofString "bottom" == Str.ofString "bottom") = true := by decide +kernel

theorem eqv_str (a b : Str) : PyData.eqv (.str a) (.str b) = (a == b) := rfl

/-- parts_of_kind -/
theorem parts_name {n : Nat} {st : Store} {s : Str} {xs : List PyData} (hl : xs.length ≤ 1000000) : evF fns (n + 20) 2 [.d (.tuple [.str "name", .str s, .tuple xs])] st = some (.l st.length, st ++ [xs]) := by
  refine f_run1 (n := n + 19) rfl (r_asg (n := n + 17) (.d (.str "name")) st ?_ (r_then (n := n + 16) st ?_ (r_ret (n := n + 14) ?_)))
  · simp [evE, ci, itemsOf, place, upd]
  · simp [evT, evE, cs, cmpop, datOf, upd, sh_name, eqv_str, q_name_name]
  · simp [evE, ci, itemsOf, place, upd, hl]
end Mine
end

/-! # P4 -/
section
open PySem PySem.W PyProof.Rows
set_option maxRecDepth 100000
namespace Mine
open PE PS

/-! ## rules of the evaluator -/
section
variable {n : Nat} {vs vs1 : Vars} {st st1 st2 st3 : Store} {u v w : V} {a b e t : PE} {i j k x : Nat} {d y : PyData} {xs ys : List PyData}
theorem e_c : evE fns (n + 1) vs st (.c d) = some (.d d, st) := by rw [evE]
theorem e_v (h : vs i = some v) : evE fns (n + 1) vs st (.v i) = some (v, st) := by rw [evE]; simp only [h]
theorem e_g (h : globD i = some d) : evE fns (n + 1) vs st (.g i) = some (.d d, st) := by rw [evE]; simp only [h]
theorem es_nil : evEs fns (n + 1) vs st [] = some ([], st) := by rw [evEs]
theorem es_cons {us : List V} {es : List PE} (h1 : evE fns n vs st e = some (u, st1)) (h2 : evEs fns n vs st1 es = some (us, st2)) : evEs fns (n + 1) vs st (e :: es) = some (u :: us, st2) := by
  rw [evEs]; simp only [h1, h2]
theorem e_tup {us : List V} {es : List PE} (h1 : evEs fns n vs st es = some (us, st1)) (h2 : datsOf us = some ys) (h3 : ys.length ≤ 1000000) : evE fns (n + 1) vs st (.tup es) = some (.d (.tuple ys), st1) := by
  rw [evE]; simp only [h1, h2, h3, if_true]
theorem e_lst {us : List V} {es : List PE} (h1 : evEs fns n vs st es = some (us, st1)) (h2 : datsOf us = some ys) (h3 : ys.length ≤ 1000000) : evE fns (n + 1) vs st (.lst es) = some (.l st1.length, st1 ++ [ys]) := by
  rw [evE]; simp only [h1, h2, h3, if_true]
theorem e_bin {o : Op} {z : PyData} (h1 : evE fns n vs st a = some (.d d, st1)) (h2 : evE fns n vs st1 b = some (.d y, st2)) (h3 : binop o d y = some z) : evE fns (n + 1) vs st (.bin o a b) = some (.d z, st2) := by
  rw [evE]; simp only [h1, h2, h3]
theorem e_binL (h1 : evE fns n vs st a = some (.l i, st1)) (h2 : evE fns n vs st1 b = some (.l j, st2)) (h3 : st2[i]? = some xs) (h4 : st2[j]? = some ys) (h5 : xs.length + ys.length ≤ 1000000) : evE fns (n + 1) vs st (.bin .add a b) = some (.l st2.length, st2 ++ [xs ++ ys]) := by
  rw [evE]; simp only [h1, h2, h3, h4, h5, if_true]
theorem e_neg {z : Int} (h1 : evE fns n vs st a = some (.d (.int z), st1)) : evE fns (n + 1) vs st (.neg a) = some (.d (.int (-z)), st1) := by rw [evE]; simp only [h1]
theorem e_cmp {o : Cm} {r : Bool} (h1 : evE fns n vs st a = some (u, st1)) (h2 : evE fns n vs st1 b = some (v, st2)) (h3 : cmpop o st2 u v = some r) : evE fns (n + 1) vs st (.cmp o a b) = some (.d (.bool r), st2) := by
  rw [evE]; simp only [h1, h2, h3]
theorem t_cmp {o : Cm} {r : Bool} (h1 : evE fns n vs st a = some (u, st1)) (h2 : evE fns n vs st1 b = some (v, st2)) (h3 : cmpop o st2 u v = some r) : evT fns (n + 2) vs st (.cmp o a b) = some (r, st2) := by
  rw [evT]; simp only [e_cmp h1 h2 h3]
theorem t_v {r : Bool} (h : vs i = some (.d (.bool r))) : evT fns (n + 2) vs st (.v i) = some (r, st) := by rw [evT]; simp only [e_v h]
theorem t_call {r : Bool} {f : Nat} {es : List PE} {us : List V} (h1 : evEs fns n vs st es = some (us, st1)) (h2 : evF fns n f us st1 = some (.d (.bool r), st2)) : evT fns (n + 2) vs st (.call f es) = some (r, st2) := by
  have : evE fns (n + 1) vs st (.call f es) = some (.d (.bool r), st2) := by rw [evE]; simp only [h1, h2]
  rw [evT]; simp only [this]
theorem t_not {r : Bool} (h : evT fns n vs st a = some (r, st1)) : evT fns (n + 1) vs st (.not a) = some (!r, st1) := by rw [evT]; simp only [h]
theorem t_and_f (h : evT fns n vs st a = some (false, st1)) : evT fns (n + 1) vs st (.and a b) = some (false, st1) := by rw [evT]; simp only [h]
theorem t_and_t {r : Bool} (h : evT fns n vs st a = some (true, st1)) (h2 : evT fns n vs st1 b = some (r, st2)) : evT fns (n + 1) vs st (.and a b) = some (r, st2) := by rw [evT]; simp only [h, h2]
theorem t_or3_f {c : PE} (h : evT fns (n + 1) vs st a = some (false, st1)) (h2 : evT fns n vs st1 b = some (false, st2)) (h3 : evT fns n vs st2 c = some (false, st3)) : evT fns (n + 2) vs st (.or3 a b c) = some (false, st3) := by
  rw [evT]; simp only [h]; rw [evT]; simp only [h2, h3]
theorem e_ite_t (h : evT fns n vs st t = some (true, st1)) (h2 : evE fns n vs st1 a = some (u, st2)) : evE fns (n + 1) vs st (.ite t a b) = some (u, st2) := by rw [evE]; simp only [h, h2]
theorem e_ite_f (h : evT fns n vs st t = some (false, st1)) (h2 : evE fns n vs st1 b = some (u, st2)) : evE fns (n + 1) vs st (.ite t a b) = some (u, st2) := by rw [evE]; simp only [h, h2]
theorem e_idx {z : Int} (h1 : evE fns n vs st a = some (u, st1)) (h2 : evE fns n vs st1 b = some (.d (.int z), st2)) (hz : -(2 ^ 63) ≤ z ∧ z < 2 ^ 63) (h3 : itemsOf st2 u = some xs) (h4 : place xs.length z = some j) (h5 : xs[j]? = some d) : evE fns (n + 1) vs st (.idx a b) = some (.d d, st2) := by
  rw [evE]; simp only [h1, h2, h3, h4, h5, if_pos hz]
theorem e_call {f : Nat} {es : List PE} {us : List V} (h1 : evEs fns n vs st es = some (us, st1)) (h2 : evF fns n f us st1 = some (u, st2)) : evE fns (n + 1) vs st (.call f es) = some (u, st2) := by rw [evE]; simp only [h1, h2]
theorem e_len (h1 : evE fns n vs st a = some (u, st1)) (h2 : listOf? st1 u = some xs) (h3 : xs.length ≤ 1000000) : evE fns (n + 1) vs st (.len a) = some (.d (.int xs.length), st1) := by rw [evE]; simp only [h1, h2, h3, if_true]
theorem e_list (h1 : evE fns n vs st a = some (u, st1)) (h2 : itemsOf st1 u = some xs) (h3 : xs.length ≤ 1000000) : evE fns (n + 1) vs st (.list a) = some (.l st1.length, st1 ++ [xs]) := by rw [evE]; simp only [h1, h2, h3, if_true]
theorem e_tuple (h1 : evE fns n vs st a = some (.l i, st1)) (h2 : st1[i]? = some xs) (h3 : xs.length ≤ 1000000) : evE fns (n + 1) vs st (.tuple a) = some (.d (.tuple xs), st1) := by rw [evE]; simp only [h1, h2, h3, if_true]
theorem e_repr (h1 : evE fns n vs st a = some (.d d, st1)) (h2 : reprOk d = true) : evE fns (n + 1) vs st (.repr a) = some (.d (.str d.shown), st1) := by rw [evE]; simp only [h1, h2, if_true]
theorem e_int {r : Bool} (h1 : evE fns n vs st a = some (.d (.bool r), st1)) : evE fns (n + 1) vs st (.int a) = some (.d (.int (if r then 1 else 0)), st1) := by rw [evE]; simp only [h1]
theorem e_join {sep : Str} {zs : List Str} (h1 : evE fns n vs st e = some (.l i, st1)) (h2 : st1[i]? = some xs) (h3 : strsOf xs = some zs) (h4 : zs.length ≤ 1000 ∧ (zs.all fun z => decide (z.length ≤ 1000)) = true ∧ sep.length ≤ 10) : evE fns (n + 1) vs st (.join sep e) = some (.d (.str (Txt.join sep zs)), st1) := by
  rw [evE]; simp only [h1, h2, h3, if_pos h4]
theorem e_split {sep z : Str} (h1 : evE fns n vs st a = some (.d (.str z), st1)) (h4 : (sep.length == 1 && decide (z.length ≤ 1000)) = true) : evE fns (n + 1) vs st (.split a sep) = some (.l st1.length, st1 ++ [(Txt.split z sep).map .str]) := by
  rw [evE]; simp only [h1, if_pos h4]
theorem e_revT (h1 : evE fns n vs st a = some (.d (.tuple xs), st1)) (h3 : xs.length ≤ 1000000) : evE fns (n + 1) vs st (.rev a) = some (.d (.tuple xs.reverse), st1) := by rw [evE]; simp only [h1, h3, if_true]
theorem e_revL (h1 : evE fns n vs st a = some (.l i, st1)) (h2 : st1[i]? = some xs) (h3 : xs.length ≤ 1000000) : evE fns (n + 1) vs st (.rev a) = some (.l st1.length, st1 ++ [xs.reverse]) := by rw [evE]; simp only [h1, h2, h3, if_true]
theorem e_pre {z : Int} (h1 : evE fns n vs st a = some (.l i, st1)) (h2 : evE fns n vs st1 b = some (.d (.int z), st2)) (h3 : st2[i]? = some xs) (h4 : 0 ≤ z ∧ z < 2 ^ 62 ∧ xs.length ≤ 1000000) : evE fns (n + 1) vs st (.pre a b) = some (.l st2.length, st2 ++ [xs.take z.toNat]) := by
  rw [evE]; simp only [h1, h2, h3, if_pos h4]
theorem e_sufL {z : Int} (h1 : evE fns n vs st a = some (.l i, st1)) (h2 : evE fns n vs st1 b = some (.d (.int z), st2)) (h3 : st2[i]? = some xs) (h4 : 0 ≤ z ∧ z < 2 ^ 62) (h5 : xs.length ≤ 1000000) : evE fns (n + 1) vs st (.suf a b) = some (.l st2.length, st2 ++ [xs.drop z.toNat]) := by
  rw [evE]; simp only [h1, h2, h3, if_pos h4, if_pos h5]
theorem e_sufT {z : Int} (h1 : evE fns n vs st a = some (.d (.tuple xs), st1)) (h2 : evE fns n vs st1 b = some (.d (.int z), st2)) (h4 : 0 ≤ z ∧ z < 2 ^ 62) (h5 : 1 ≤ z ∧ z ≤ xs.length ∧ xs.length ≤ 1000000) : evE fns (n + 1) vs st (.suf a b) = some (.d (.tuple (xs.drop z.toNat)), st2) := by
  rw [evE]; simp only [h1, h2, if_pos h4, if_pos h5]
theorem e_pop (h1 : evE fns n vs st a = some (.l i, st1)) (h2 : st1[i]? = some xs) (h3 : xs.getLast? = some y) (h4 : xs.length ≤ 1000000) : evE fns (n + 1) vs st (.pop a) = some (.d y, st1.set i xs.dropLast) := by rw [evE]; simp only [h1, h2, h3, h4, if_true]
theorem e_extend (h1 : evE fns n vs st a = some (.l i, st1)) (h2 : evE fns n vs st1 e = some (.d (.tuple ys), st2)) (h3 : st2[i]? = some xs) (h4 : xs.length + ys.length ≤ 1000000) : evE fns (n + 1) vs st (.extend a e) = some (.d .none, st2.set i (xs ++ ys)) := by rw [evE]; simp only [h1, h2, h3, h4, if_true]
theorem e_append (h1 : evE fns n vs st a = some (.l i, st1)) (h2 : evE fns n vs st1 e = some (.d y, st2)) (h3 : st2[i]? = some xs) (h4 : xs.length ≤ 1000000) : evE fns (n + 1) vs st (.append a e) = some (.d .none, st2.set i (xs ++ [y])) := by rw [evE]; simp only [h1, h2, h3, h4, if_true]
theorem e_sortk {f : Nat} {ks : List PyData} (h1 : evE fns n vs st a = some (.l i, st1)) (h2 : st1[i]? = some xs) (h3 : evKeys fns n f xs st1 = some (ks, st2)) (h4 : sortBy ks xs = some ys) : evE fns (n + 1) vs st (.sortk a f) = some (.l st2.length, st2 ++ [ys]) := by rw [evE]; simp only [h1, h2, h3, h4]
theorem e_comp {pt : Option PE} (h1 : evE fns n vs st a = some (.l i, st1)) (h2 : evComp fns n vs st1 x i 0 pt e [] = some (ys, st2)) : evE fns (n + 1) vs st (.comp x a pt e) = some (.l st2.length, st2 ++ [ys]) := by rw [evE]; simp only [h1, h2]
theorem e_compR {z : Int} (h1 : evE fns n vs st a = some (.d (.int z), st1)) (hz : 0 ≤ z ∧ z ≤ 1000000) (h2 : evCompR fns n vs st1 x z.toNat 0 e [] = some (ys, st2)) : evE fns (n + 1) vs st (.compR x a e) = some (.l st2.length, st2 ++ [ys]) := by rw [evE]; simp only [h1, h2, if_pos hz]
theorem c_end {pt : Option PE} (h1 : st[i]? = some xs) (h2 : xs[k]? = none) : evComp fns (n + 1) vs st x i k pt e ys = some (ys, st) := by rw [evComp]; simp only [h1, h2]
theorem c_item {zs : List PyData} (h1 : st[i]? = some xs) (h2 : xs[k]? = some d) (h3 : evE fns n (upd vs x (.d d)) st e = some (.d y, st1)) (h4 : ys.length ≤ 1000000) (h5 : evComp fns n vs st1 x i (k + 1) none e (ys ++ [y]) = some (zs, st2)) : evComp fns (n + 1) vs st x i k none e ys = some (zs, st2) := by
  rw [evComp]; simp only [h1, h2, h3, if_pos h4, h5]
theorem c_yes {zs : List PyData} (h1 : st[i]? = some xs) (h2 : xs[k]? = some d) (ht : evT fns n (upd vs x (.d d)) st t = some (true, st1)) (h3 : evE fns n (upd vs x (.d d)) st1 e = some (.d y, st2)) (h4 : ys.length ≤ 1000000) (h5 : evComp fns n vs st2 x i (k + 1) (some t) e (ys ++ [y]) = some (zs, st3)) : evComp fns (n + 1) vs st x i k (some t) e ys = some (zs, st3) := by
  rw [evComp]; simp only [h1, h2, ht, h3, if_pos h4, h5]
theorem c_no {zs : List PyData} (h1 : st[i]? = some xs) (h2 : xs[k]? = some d) (ht : evT fns n (upd vs x (.d d)) st t = some (false, st1)) (h5 : evComp fns n vs st1 x i (k + 1) (some t) e ys = some (zs, st2)) : evComp fns (n + 1) vs st x i k (some t) e ys = some (zs, st2) := by
  rw [evComp]; simp only [h1, h2, ht, h5]
end
section
variable {n : Nat} {vs vs1 : Vars} {st st1 st2 st3 : Store} {u v w : V} {a b e t : PE} {i j k x l : Nat} {d y : PyData} {xs ys : List PyData} {r : List PS}
theorem r_put {z : Int} (h1 : evE fns n vs st e = some (.d y, st1)) (h2 : evE fns n vs st1 a = some (.l l, st2)) (h3 : evE fns n vs st2 b = some (.d (.int z), st3)) (h4 : st3[l]? = some xs) (h5 : -(2 ^ 62) ≤ z ∧ z < 2 ^ 62) (h6 : place xs.length z = some j) (kk : Runs (n + 1) vs (st3.set l (xs.set j y)) r v st') : Runs (n + 2) vs st (.put a b e :: r) v st' :=
  r_next (by rw [evS]; simp only [h1, h2, h3, h4, if_pos h5, h6]) kk
theorem get_app {st ex : Store} {i : Nat} {xs : List PyData} (h : st[i]? = some xs) : (st ++ ex)[i]? = some xs := by
  rw [List.getElem?_append_left (List.getElem?_eq_some_iff.mp h).1]; exact h
theorem get_last {st : Store} {xs : List PyData} : (st ++ [xs])[st.length]? = some xs := by simp
end
end Mine
end

/-! # P5 -/
section
open PySem PySem.W PyProof.Rows
set_option maxRecDepth 100000
namespace Mine
open PE PS

/-- a later store keeps the lists of an earlier one -/
def Kp (st st' : Store) : Prop := ∀ (i : Nat) xs, st[i]? = some xs → st'[i]? = some xs
theorem Kp.refl (st : Store) : Kp st st := fun _ _ e => e
theorem Kp.trans {a b c : Store} (h : Kp a b) (k : Kp b c) : Kp a c := fun i xs e => k i xs (h i xs e)
theorem Kp.app {a b : Store} (h : Kp a b) (x : Store) : Kp a (b ++ x) := fun i xs e => get_app (h i xs e)
theorem kp_app (a x : Store) : Kp a (a ++ x) := (Kp.refl a).app x
theorem Kp.len {a b : Store} (h : Kp a b) : a.length ≤ b.length := by
  by_cases q : a.length ≤ b.length
  · exact q
  · have hi : b.length < a.length := by omega
    have := h b.length _ (List.getElem?_eq_getElem hi)
    simp at this
theorem Kp.set {a b : Store} (h : Kp a b) {l : Nat} (hl : a.length ≤ l) (ys : List PyData) : Kp a (b.set l ys) := fun i xs e => by
  have hi := (List.getElem?_eq_some_iff.mp e).1
  rw [List.getElem?_set_ne (by omega)]
  exact h i xs e

theorem cmp_str {st : Store} {a b : Str} {r : Bool} (ha : shapedV (.str a) = true) (hb : shapedV (.str b) = true) (h : (a == b) = r) : cmpop .eq st (.d (.str a)) (.d (.str b)) = some r := by
  simp only [cmpop, datOf, ha, hb, Bool.and_self, if_true, eqv_str, h]
theorem add_str' {a b : Str} (h : a.length ≤ 1000000 ∧ b.length ≤ 1000000) : binop .add (.str a) (.str b) = some (.str (a ++ b)) := by
  simp only [binop, if_pos h]
theorem ne_lists {st : Store} {i j : Nat} {xs ys : List PyData} {r : Bool} (h1 : st[i]? = some xs) (h2 : st[j]? = some ys) (sx : shapedV (.list xs) = true) (sy : shapedV (.list ys) = true) (he : (!PyData.eqv (.list xs) (.list ys)) = r) : cmpop .ne st (.l i) (.l j) = some r := by
  simp only [cmpop, datOf, h1, h2, Option.map_some, sx, sy, Bool.and_self, if_true, he]
theorem i0 : -(2 ^ 63) ≤ (0 : Int) ∧ (0 : Int) < 2 ^ 63 := by decide
theorem i1 : -(2 ^ 63) ≤ (1 : Int) ∧ (1 : Int) < 2 ^ 63 := by decide
theorem i2 : -(2 ^ 63) ≤ (2 : Int) ∧ (2 : Int) < 2 ^ 63 := by decide
theorem im1 : -(2 ^ 63) ≤ (-1 : Int) ∧ (-1 : Int) < 2 ^ 63 := by decide
theorem jm1 : -(2 ^ 62) ≤ (-1 : Int) ∧ (-1 : Int) < 2 ^ 62 := by decide
theorem small3 {α : Type} {l : List α} (h : l.length ≤ 100) : l.length ≤ 1000000 := by omega
theorem lt10 {k : Nat} (h : k ≤ 10000) : k ≤ 1000000 := by omega
theorem shl0 : shapedV (.list []) = true := by decide +kernel

def wds : PyData := .tuple [.str "name", .str "tuple", .str "union"]
theorem in_words {st : Store} {a : Str} {r : Bool} (ha : shapedV (.str a) = true) (h : ((Str.ofString "name" == a) || ((Str.ofString "tuple" == a) || (Str.ofString "union" == a))) = r) : cmpop .isIn st (.d (.str a)) (.d (.tuple [.str "name", .str "tuple", .str "union"])) = some r := by
  simp only [cmpop, datOf, itemsOf, ha, List.all_cons, List.all_nil, sh_name, sh_tuple, sh_union, Bool.and_self, if_true, List.any_cons, List.any_nil, eqv_str, Bool.or_false, h]

section
variable {K : PyData} {xs : List PyData} {b : Bool} {t s : Str}

theorem parts_tupN (n : Nat) (st : Store) (hl : xs.length ≤ 100) : ∃ st' i, evF fns (n + 20) 2 [.d (.tuple [.str "tuple", .tuple xs, .none])] st = some (.l i, st') ∧ Kp st st' ∧ st'[i]? = some xs ∧ st.length ≤ i := by
  refine ⟨_, _, f_run1 (n := n + 19) rfl (r_asg _ _ (e_idx (e_v rfl) e_c i0 rfl rfl rfl) (r_skip _ (t_cmp (e_v rfl) e_c (cmp_str sh_tuple sh_name q_tuple_name)) (r_then _ (t_cmp (e_v rfl) e_c (cmp_str sh_tuple sh_tuple q_tuple_tuple))
    (r_ret (e_binL (xs := xs) (ys := []) (e_list (xs := xs) (e_idx (e_v rfl) e_c i1 rfl rfl rfl) rfl (small3 hl)) (e_ite_t (t_cmp (e_idx (e_v rfl) e_c i2 rfl rfl rfl) e_c rfl) (e_lst es_nil rfl (by decide))) (get_app get_last) get_last (by simpa using small3 hl)))))), ?_, ?_, ?_⟩
  · exact ((kp_app _ _).app _).app _
  · simp
  · simp
theorem parts_tupV (n : Nat) (st : Store) {ys : List PyData} : ∃ st' i, evF fns (n + 20) 2 [.d (.tuple [.str "tuple", .tuple [], .tuple ys])] st = some (.l i, st') ∧ Kp st st' ∧ st'[i]? = some [.tuple ys] ∧ st.length ≤ i := by
  refine ⟨_, _, f_run1 (n := n + 19) rfl (r_asg _ _ (e_idx (e_v rfl) e_c i0 rfl rfl rfl) (r_skip _ (t_cmp (e_v rfl) e_c (cmp_str sh_tuple sh_name q_tuple_name)) (r_then _ (t_cmp (e_v rfl) e_c (cmp_str sh_tuple sh_tuple q_tuple_tuple))
    (r_ret (e_binL (xs := []) (ys := [.tuple ys]) (e_list (xs := []) (e_idx (e_v rfl) e_c i1 rfl rfl rfl) rfl (by decide)) (e_ite_f (t_cmp (e_idx (e_v rfl) e_c i2 rfl rfl rfl) e_c rfl) (e_lst (es_cons (e_idx (e_v rfl) e_c i2 rfl rfl rfl) es_nil) rfl (by simp))) (get_app get_last) get_last (by simp)))))), ?_, ?_, ?_⟩
  · exact ((kp_app _ _).app _).app _
  · simp
  · simp

/-- written_kind of a kind -/
def WK (f : Nat) (k : PyData) (b : Bool) (t : Str) : Prop := ∀ (n : Nat) (st : Store), ∃ st', evF fns (n + f) 4 [.d k, .d (.bool b)] st = some (.d (.str t), st') ∧ Kp st st'

theorem wk_name (hs : s.length ≤ 1000) : WK 60 (nmK s) b (s ++ "") := fun n st => by
  refine ⟨_, f_run2 (n := n + 59) rfl (r_asg _ _ (e_idx (e_v rfl) e_c i0 rfl rfl rfl) (r_asg _ _ (e_ite_t (t_cmp (e_v rfl) (e_tup (es_cons e_c (es_cons e_c (es_cons e_c es_nil))) rfl (by decide)) (in_words sh_name (by rw [q_name_name]; rfl)))
    (e_comp (e_call (es_cons (e_v rfl) es_nil) (parts_name (xs := []) (by decide))) (c_end get_last rfl)))
    (r_then _ (t_cmp (e_v rfl) e_c (cmp_str sh_name sh_name q_name_name))
      (r_ret (e_bin (e_idx (e_v rfl) e_c i1 rfl rfl rfl) (e_ite_f (t_cmp (e_v rfl) (e_lst es_nil rfl (by decide)) (ne_lists (get_app get_last) get_last shl0 shl0 rfl)) e_c) (add_str' ⟨by omega, by decide +kernel⟩)))))), ?_⟩
  exact ((kp_app _ _).app _).app _

theorem WK.fn {f : Nat} {k : PyData} (h : WK f k b t) : ∃ g : Nat → Store → Store, ∀ n st, evF fns (n + f) 4 [.d k, .d (.bool b)] st = some (.d (.str t), g n st) ∧ Kp st (g n st) := by
  have : ∀ n, ∃ g : Store → Store, ∀ st, evF fns (n + f) 4 [.d k, .d (.bool b)] st = some (.d (.str t), g st) ∧ Kp st (g st) := fun n => Classical.skolem.mp (h n)
  exact Classical.skolem.mp this

theorem wk_ref (hK : WK 60 K b t) (h1 : t.length ≤ 1000) (h2 : shapedV (.list [.str t]) = true) (h3 : (Txt.join ", " [t]).length ≤ 10000) (h4 : (("{" : Str) ++ Txt.join ", " [t]).length ≤ 10000) (h5 : ((("{" : Str) ++ Txt.join ", " [t]) ++ "}").length ≤ 10000) :
    WK 120 (.tuple [.str "name", .str "Ref", .tuple [K]]) b ("Ref" ++ ((("{" : Str) ++ Txt.join ", " [t]) ++ "}")) := fun n st => by
  obtain ⟨g, hg⟩ := hK.fn
  refine ⟨_, f_run2 (n := n + 119) rfl (r_asg _ _ (e_idx (e_v rfl) e_c i0 rfl rfl rfl) (r_asg _ _ (e_ite_t (t_cmp (e_v rfl) (e_tup (es_cons e_c (es_cons e_c (es_cons e_c es_nil))) rfl (by decide)) (in_words sh_name (by rw [q_name_name]; rfl)))
    (e_comp (e_call (es_cons (e_v rfl) es_nil) (parts_name (xs := [K]) (by simp))) (c_item get_last rfl (e_call (es_cons (e_v rfl) (es_cons (e_v rfl) es_nil)) (hg (n + 52) _).1) (by simp) (c_end ((hg (n + 52) _).2 _ _ get_last) rfl))))
    (r_then _ (t_cmp (e_v rfl) e_c (cmp_str sh_name sh_name q_name_name))
      (r_ret (e_bin (e_idx (e_v rfl) e_c i1 rfl rfl rfl) (e_ite_t (t_cmp (e_v rfl) (e_lst es_nil rfl (by decide)) (ne_lists (get_app get_last) get_last h2 shl0 rfl))
        (e_bin (e_bin e_c (e_join (e_v rfl) (get_app get_last) rfl ⟨by simp, by simpa using h1, by decide +kernel⟩) (add_str' ⟨by decide +kernel, lt10 h3⟩)) e_c (add_str' ⟨lt10 h4, by decide +kernel⟩))) (add_str' ⟨by decide +kernel, lt10 h5⟩)))))), ?_⟩
  exact (((kp_app _ _).trans (hg _ _).2).app _).app _

theorem r_block {n : Nat} {vs vs1 : Vars} {st st1 st2 st3 : Store} {t : PE} {a b' r : List PS} {v : V} (h : evT fns n vs st t = some (true, st1)) (h2 : evSs fns n vs st1 a = some (.next, vs1, st2)) (k : Runs (n + 1) vs1 st2 r v st3) : Runs (n + 2) vs st (.ifs t a b' :: r) v st3 :=
  r_next (by rw [evS]; simp only [h, h2]) k
theorem b_put {n : Nat} {vs : Vars} {st st1 st2 st3 : Store} {a i e : PE} {y : PyData} {l j : Nat} {z : Int} {xs : List PyData} (h1 : evE fns (n + 1) vs st e = some (.d y, st1)) (h2 : evE fns (n + 1) vs st1 a = some (.l l, st2)) (h3 : evE fns (n + 1) vs st2 i = some (.d (.int z), st3)) (h4 : st3[l]? = some xs) (h5 : -(2 ^ 62) ≤ z ∧ z < 2 ^ 62) (h6 : place xs.length z = some j) :
    evSs fns (n + 3) vs st [.put a i e] = some (.next, vs, st3.set l (xs.set j y)) := by
  rw [evSs, evS]; simp only [h1, h2, h3, h4, if_pos h5, h6]; rw [evSs]

theorem wk_tupN (hK : WK 60 K b t) (h1 : t.length ≤ 1000) (h3 : (Txt.join ", " [t]).length ≤ 10000) (h4 : (("Tuple{" : Str) ++ Txt.join ", " [t]).length ≤ 10000) :
    WK 120 (.tuple [.str "tuple", .tuple [K], .none]) b ((("Tuple{" : Str) ++ Txt.join ", " [t]) ++ "}") := fun n st => by
  obtain ⟨g, hg⟩ := hK.fn
  obtain ⟨st2, i, e2, k2, g2, l2⟩ := parts_tupN (xs := [K]) (n + 93) st (by simp)
  refine ⟨_, f_run2 (n := n + 119) rfl (r_asg _ _ (e_idx (e_v rfl) e_c i0 rfl rfl rfl) (r_asg _ _ (e_ite_t (t_cmp (e_v rfl) (e_tup (es_cons e_c (es_cons e_c (es_cons e_c es_nil))) rfl (by decide)) (in_words sh_tuple (by rw [q_tuple_tuple]; simp)))
    (e_comp (e_call (es_cons (e_v rfl) es_nil) e2) (c_item g2 rfl (e_call (es_cons (e_v rfl) (es_cons (e_v rfl) es_nil)) (hg (n + 52) _).1) (by simp) (c_end ((hg (n + 52) _).2 _ _ g2) rfl))))
    (r_skip _ (t_cmp (e_v rfl) e_c (cmp_str sh_tuple sh_name q_tuple_name)) (r_then _ (t_cmp (e_v rfl) e_c (cmp_str sh_tuple sh_tuple q_tuple_tuple))
      (r_skip _ (t_cmp (e_idx (e_v rfl) e_c i2 rfl rfl rfl) e_c rfl) (r_ret (e_bin (e_bin e_c (e_join (e_v rfl) get_last rfl ⟨by simp, by simpa using h1, by decide +kernel⟩) (add_str' ⟨by decide +kernel, lt10 h3⟩)) e_c (add_str' ⟨lt10 h4, by decide +kernel⟩)))))))), ?_⟩
  exact (k2.trans (hg _ _).2).app _

theorem wk_tupV {ks : List PyData} (hK : WK 60 (.tuple ks) b t) (h1 : (("Vararg{" : Str) ++ t).length ≤ 1000) (h0 : t.length ≤ 1000) (h2 : ((("Vararg{" : Str) ++ t) ++ "}").length ≤ 1000) (h3 : (Txt.join ", " [(("Vararg{" : Str) ++ t) ++ "}"]).length ≤ 10000) (h4 : (("Tuple{" : Str) ++ Txt.join ", " [(("Vararg{" : Str) ++ t) ++ "}"]).length ≤ 10000) :
    WK 120 (.tuple [.str "tuple", .tuple [], .tuple ks]) b ((("Tuple{" : Str) ++ Txt.join ", " [(("Vararg{" : Str) ++ t) ++ "}"]) ++ "}") := fun n st => by
  obtain ⟨g, hg⟩ := hK.fn
  obtain ⟨st2, i, e2, k2, g2, l2⟩ := parts_tupV (ys := ks) (n + 93) st
  have k3 := k2.trans (hg (n + 52) st2).2
  refine ⟨_, f_run2 (n := n + 119) rfl (r_asg _ _ (e_idx (e_v rfl) e_c i0 rfl rfl rfl) (r_asg _ _ (e_ite_t (t_cmp (e_v rfl) (e_tup (es_cons e_c (es_cons e_c (es_cons e_c es_nil))) rfl (by decide)) (in_words sh_tuple (by rw [q_tuple_tuple]; simp)))
    (e_comp (e_call (es_cons (e_v rfl) es_nil) e2) (c_item g2 rfl (e_call (es_cons (e_v rfl) (es_cons (e_v rfl) es_nil)) (hg (n + 52) _).1) (by simp) (c_end ((hg (n + 52) _).2 _ _ g2) rfl))))
    (r_skip _ (t_cmp (e_v rfl) e_c (cmp_str sh_tuple sh_name q_tuple_name)) (r_then _ (t_cmp (e_v rfl) e_c (cmp_str sh_tuple sh_tuple q_tuple_tuple))
      (r_block (t_cmp (e_idx (e_v rfl) e_c i2 rfl rfl rfl) e_c rfl) (b_put (e_bin (e_bin e_c (e_idx (e_v rfl) (e_neg e_c) im1 get_last rfl rfl) (add_str' ⟨by decide +kernel, by omega⟩)) e_c (add_str' ⟨by omega, by decide +kernel⟩)) (e_v rfl) (e_neg e_c) get_last jm1 rfl)
        (r_ret (e_bin (e_bin e_c (e_join (zs := [(("Vararg{" : Str) ++ t) ++ "}"]) (e_v rfl) (List.getElem?_set_self (by simp)) rfl ⟨by simp, by simpa using h2, by decide +kernel⟩) (add_str' ⟨by decide +kernel, lt10 h3⟩)) e_c (add_str' ⟨lt10 h4, by decide +kernel⟩)))))))), ?_⟩
  exact (k3.app _).set k3.len _

theorem wk_type (hK : WK 60 K b t) (h1 : t.length ≤ 1000) (h4 : (("Type{" : Str) ++ t).length ≤ 10000) :
    WK 120 (.tuple [.str "typeof", K]) b ((("Type{" : Str) ++ t) ++ "}") := fun n st => by
  obtain ⟨g, hg⟩ := hK.fn
  refine ⟨_, f_run2 (n := n + 119) rfl (r_asg _ _ (e_idx (e_v rfl) e_c i0 rfl rfl rfl) (r_asg _ _ (e_ite_f (t_cmp (e_v rfl) (e_tup (es_cons e_c (es_cons e_c (es_cons e_c es_nil))) rfl (by decide)) (in_words sh_typeof (by rw [q_name_typeof, q_tuple_typeof, q_union_typeof]; rfl)))
    (e_lst es_nil rfl (by decide)))
    (r_skip _ (t_cmp (e_v rfl) e_c (cmp_str sh_typeof sh_name q_typeof_name)) (r_skip _ (t_cmp (e_v rfl) e_c (cmp_str sh_typeof sh_tuple q_typeof_tuple)) (r_skip _ (t_cmp (e_v rfl) e_c (cmp_str sh_typeof sh_union q_typeof_union)) (r_skip _ (t_cmp (e_v rfl) e_c (cmp_str sh_typeof sh_all q_typeof_all))
     (r_then _ (t_cmp (e_v rfl) e_c (cmp_str sh_typeof sh_typeof q_typeof_typeof))
      (r_ret (e_bin (e_bin e_c (e_call (es_cons (e_idx (e_v rfl) e_c i1 rfl rfl rfl) (es_cons (e_v rfl) es_nil)) (hg (n + 46) _).1) (add_str' ⟨by decide +kernel, by omega⟩)) e_c (add_str' ⟨lt10 h4, by decide +kernel⟩)))))))))), ?_⟩
  exact (kp_app _ _).trans (hg _ _).2

theorem wk_var (b : Bool) {z : Str} (hz : (Str.length "." == 1 && decide (s.length ≤ 1000)) = true) (hp : place ((Txt.split s ".").map PyData.str).length 0 = some 0) (hs : ((Txt.split s ".").map PyData.str)[0]? = some (.str z)) :
    WK 60 (.tuple [.str "var", .str s]) b (if b then s else z) := fun n st => by
  have e3 : evF fns (n + 45) 3 [.d (.str s)] (st ++ [[]]) = some (.d (.str z), st ++ [[]] ++ [(Txt.split s ".").map PyData.str]) :=
    f_run1 rfl (r_ret (e_idx (e_split (e_v rfl) hz) e_c i0 get_last hp hs))
  have key : ∃ st', evE fns (n + 47) (upd (upd (upd (upd v0 4 (.d (.tuple [.str "var", .str s]))) 6 (.d (.bool b))) 7 (.d (.str "var"))) 8 (.l st.length)) (st ++ [[]]) (ite (v 6) (idx (v 4) (ci 1)) (call 3 [idx (v 4) (ci 1)])) = some (.d (.str (if b then s else z)), st') ∧ Kp st st' := by
    cases b with
    | true => exact ⟨_, e_ite_t (t_v rfl) (e_idx (e_v rfl) e_c i1 rfl rfl rfl), kp_app _ _⟩
    | false => exact ⟨_, e_ite_f (t_v rfl) (e_call (es_cons (e_idx (e_v rfl) e_c i1 rfl rfl rfl) es_nil) e3), (kp_app _ _).app _⟩
  obtain ⟨st', ek, kk⟩ := key
  refine ⟨st', f_run2 (n := n + 59) rfl (r_asg _ _ (e_idx (e_v rfl) e_c i0 rfl rfl rfl) (r_asg _ _ (e_ite_f (t_cmp (e_v rfl) (e_tup (es_cons e_c (es_cons e_c (es_cons e_c es_nil))) rfl (by decide)) (in_words sh_var (by rw [q_name_var, q_tuple_var, q_union_var]; rfl)))
    (e_lst es_nil rfl (by decide)))
    (r_skip _ (t_cmp (e_v rfl) e_c (cmp_str sh_var sh_name q_var_name)) (r_skip _ (t_cmp (e_v rfl) e_c (cmp_str sh_var sh_tuple q_var_tuple)) (r_skip _ (t_cmp (e_v rfl) e_c (cmp_str sh_var sh_union q_var_union)) (r_skip _ (t_cmp (e_v rfl) e_c (cmp_str sh_var sh_all q_var_all))
     (r_skip _ (t_cmp (e_v rfl) e_c (cmp_str sh_var sh_typeof q_var_typeof)) (r_skip _ (t_cmp (e_v rfl) e_c (cmp_str sh_var sh_fn q_var_fn)) (r_skip _ (t_cmp (e_v rfl) e_c (cmp_str sh_var sh_n q_var_n))
      (r_ret (e_ite_t (t_cmp (e_v rfl) e_c (cmp_str sh_var sh_var q_var_var)) ek))))))))))), kk⟩
end
end Mine
end

/-! # P6 -/
section
open PySem PySem.W PyProof.Rows
set_option maxRecDepth 100000
namespace Mine
open PE PS

theorem WK.up {k : PyData} {b : Bool} {t : Str} (h : WK 60 k b t) : WK 120 k b t := fun n st => h (n + 60) st
theorem WK.as {f : Nat} {k : PyData} {b : Bool} {t u : Str} (h : WK f k b t) (e : t = u) : WK f k b u := e ▸ h

theorem wk1 (b : Bool) : WK 120 (kindD 1) b (if b then whoD 1 else txtD 1) := by
  cases b
  · exact WK.as ((wk_name (s := "Bool") (by decide +kernel)).up) (by decide +kernel)
  · exact WK.as ((wk_name (s := "Bool") (by decide +kernel)).up) (by decide +kernel)
theorem wk2 (b : Bool) : WK 120 (kindD 2) b (if b then whoD 2 else txtD 2) := by
  cases b
  · exact WK.as ((wk_name (s := "Char") (by decide +kernel)).up) (by decide +kernel)
  · exact WK.as ((wk_name (s := "Char") (by decide +kernel)).up) (by decide +kernel)
theorem wk3 (b : Bool) : WK 120 (kindD 3) b (if b then whoD 3 else txtD 3) := by
  cases b
  · exact WK.as ((wk_name (s := "Int64") (by decide +kernel)).up) (by decide +kernel)
  · exact WK.as ((wk_name (s := "Int64") (by decide +kernel)).up) (by decide +kernel)
theorem wk4 (b : Bool) : WK 120 (kindD 4) b (if b then whoD 4 else txtD 4) := by
  cases b
  · exact WK.as ((wk_name (s := "Integer") (by decide +kernel)).up) (by decide +kernel)
  · exact WK.as ((wk_name (s := "Integer") (by decide +kernel)).up) (by decide +kernel)
theorem wk5 (b : Bool) : WK 120 (kindD 5) b (if b then whoD 5 else txtD 5) := by
  cases b
  · exact WK.as (wk_ref (t := "Bool") (WK.as (u := "Bool") (wk_name (s := "Bool") (by decide +kernel)) (by decide +kernel)) (by decide +kernel) (by decide +kernel) (by decide +kernel) (by decide +kernel) (by decide +kernel)) (by decide +kernel)
  · exact WK.as (wk_ref (t := "Bool") (WK.as (u := "Bool") (wk_name (s := "Bool") (by decide +kernel)) (by decide +kernel)) (by decide +kernel) (by decide +kernel) (by decide +kernel) (by decide +kernel) (by decide +kernel)) (by decide +kernel)
theorem wk6 (b : Bool) : WK 120 (kindD 6) b (if b then whoD 6 else txtD 6) := by
  cases b
  · exact WK.as (wk_ref (t := "Char") (WK.as (u := "Char") (wk_name (s := "Char") (by decide +kernel)) (by decide +kernel)) (by decide +kernel) (by decide +kernel) (by decide +kernel) (by decide +kernel) (by decide +kernel)) (by decide +kernel)
  · exact WK.as (wk_ref (t := "Char") (WK.as (u := "Char") (wk_name (s := "Char") (by decide +kernel)) (by decide +kernel)) (by decide +kernel) (by decide +kernel) (by decide +kernel) (by decide +kernel) (by decide +kernel)) (by decide +kernel)
theorem wk7 (b : Bool) : WK 120 (kindD 7) b (if b then whoD 7 else txtD 7) := by
  cases b
  · exact WK.as (wk_ref (t := "Int64") (WK.as (u := "Int64") (wk_name (s := "Int64") (by decide +kernel)) (by decide +kernel)) (by decide +kernel) (by decide +kernel) (by decide +kernel) (by decide +kernel) (by decide +kernel)) (by decide +kernel)
  · exact WK.as (wk_ref (t := "Int64") (WK.as (u := "Int64") (wk_name (s := "Int64") (by decide +kernel)) (by decide +kernel)) (by decide +kernel) (by decide +kernel) (by decide +kernel) (by decide +kernel) (by decide +kernel)) (by decide +kernel)
theorem wk8 (b : Bool) : WK 120 (kindD 8) b (if b then whoD 8 else txtD 8) := by
  cases b
  · exact WK.as (wk_ref (t := "Integer") (WK.as (u := "Integer") (wk_name (s := "Integer") (by decide +kernel)) (by decide +kernel)) (by decide +kernel) (by decide +kernel) (by decide +kernel) (by decide +kernel) (by decide +kernel)) (by decide +kernel)
  · exact WK.as (wk_ref (t := "Integer") (WK.as (u := "Integer") (wk_name (s := "Integer") (by decide +kernel)) (by decide +kernel)) (by decide +kernel) (by decide +kernel) (by decide +kernel) (by decide +kernel) (by decide +kernel)) (by decide +kernel)
theorem wk9 (b : Bool) : WK 120 (kindD 9) b (if b then whoD 9 else txtD 9) := by
  cases b
  · exact WK.as ((wk_var (s := "T.1") (z := "T") _ (by decide +kernel) (by kernel_rfl) (by kernel_rfl)).up) (by decide +kernel)
  · exact WK.as ((wk_var (s := "T.1") (z := "T") _ (by decide +kernel) (by kernel_rfl) (by kernel_rfl)).up) (by decide +kernel)
theorem wk10 (b : Bool) : WK 120 (kindD 10) b (if b then whoD 10 else txtD 10) := by
  cases b
  · exact WK.as ((wk_var (s := "T.2") (z := "T") _ (by decide +kernel) (by kernel_rfl) (by kernel_rfl)).up) (by decide +kernel)
  · exact WK.as ((wk_var (s := "T.2") (z := "T") _ (by decide +kernel) (by kernel_rfl) (by kernel_rfl)).up) (by decide +kernel)
theorem wk11 (b : Bool) : WK 120 (kindD 11) b (if b then whoD 11 else txtD 11) := by
  cases b
  · exact WK.as (wk_tupN (t := "Bool") (WK.as (u := "Bool") (wk_name (s := "Bool") (by decide +kernel)) (by decide +kernel)) (by decide +kernel) (by decide +kernel) (by decide +kernel)) (by decide +kernel)
  · exact WK.as (wk_tupN (t := "Bool") (WK.as (u := "Bool") (wk_name (s := "Bool") (by decide +kernel)) (by decide +kernel)) (by decide +kernel) (by decide +kernel) (by decide +kernel)) (by decide +kernel)
theorem wk12 (b : Bool) : WK 120 (kindD 12) b (if b then whoD 12 else txtD 12) := by
  cases b
  · exact WK.as (wk_tupN (t := "Char") (WK.as (u := "Char") (wk_name (s := "Char") (by decide +kernel)) (by decide +kernel)) (by decide +kernel) (by decide +kernel) (by decide +kernel)) (by decide +kernel)
  · exact WK.as (wk_tupN (t := "Char") (WK.as (u := "Char") (wk_name (s := "Char") (by decide +kernel)) (by decide +kernel)) (by decide +kernel) (by decide +kernel) (by decide +kernel)) (by decide +kernel)
theorem wk13 (b : Bool) : WK 120 (kindD 13) b (if b then whoD 13 else txtD 13) := by
  cases b
  · exact WK.as (wk_tupN (t := "Int64") (WK.as (u := "Int64") (wk_name (s := "Int64") (by decide +kernel)) (by decide +kernel)) (by decide +kernel) (by decide +kernel) (by decide +kernel)) (by decide +kernel)
  · exact WK.as (wk_tupN (t := "Int64") (WK.as (u := "Int64") (wk_name (s := "Int64") (by decide +kernel)) (by decide +kernel)) (by decide +kernel) (by decide +kernel) (by decide +kernel)) (by decide +kernel)
theorem wk14 (b : Bool) : WK 120 (kindD 14) b (if b then whoD 14 else txtD 14) := by
  cases b
  · exact WK.as (wk_tupN (t := "Integer") (WK.as (u := "Integer") (wk_name (s := "Integer") (by decide +kernel)) (by decide +kernel)) (by decide +kernel) (by decide +kernel) (by decide +kernel)) (by decide +kernel)
  · exact WK.as (wk_tupN (t := "Integer") (WK.as (u := "Integer") (wk_name (s := "Integer") (by decide +kernel)) (by decide +kernel)) (by decide +kernel) (by decide +kernel) (by decide +kernel)) (by decide +kernel)
theorem wk15 (b : Bool) : WK 120 (kindD 15) b (if b then whoD 15 else txtD 15) := by
  cases b
  · exact WK.as (wk_tupV (t := "Bool") (WK.as (u := "Bool") (wk_name (s := "Bool") (by decide +kernel)) (by decide +kernel)) (by decide +kernel) (by decide +kernel) (by decide +kernel) (by decide +kernel) (by decide +kernel)) (by decide +kernel)
  · exact WK.as (wk_tupV (t := "Bool") (WK.as (u := "Bool") (wk_name (s := "Bool") (by decide +kernel)) (by decide +kernel)) (by decide +kernel) (by decide +kernel) (by decide +kernel) (by decide +kernel) (by decide +kernel)) (by decide +kernel)
theorem wk16 (b : Bool) : WK 120 (kindD 16) b (if b then whoD 16 else txtD 16) := by
  cases b
  · exact WK.as (wk_tupV (t := "Char") (WK.as (u := "Char") (wk_name (s := "Char") (by decide +kernel)) (by decide +kernel)) (by decide +kernel) (by decide +kernel) (by decide +kernel) (by decide +kernel) (by decide +kernel)) (by decide +kernel)
  · exact WK.as (wk_tupV (t := "Char") (WK.as (u := "Char") (wk_name (s := "Char") (by decide +kernel)) (by decide +kernel)) (by decide +kernel) (by decide +kernel) (by decide +kernel) (by decide +kernel) (by decide +kernel)) (by decide +kernel)
theorem wk17 (b : Bool) : WK 120 (kindD 17) b (if b then whoD 17 else txtD 17) := by
  cases b
  · exact WK.as (wk_tupV (t := "Int64") (WK.as (u := "Int64") (wk_name (s := "Int64") (by decide +kernel)) (by decide +kernel)) (by decide +kernel) (by decide +kernel) (by decide +kernel) (by decide +kernel) (by decide +kernel)) (by decide +kernel)
  · exact WK.as (wk_tupV (t := "Int64") (WK.as (u := "Int64") (wk_name (s := "Int64") (by decide +kernel)) (by decide +kernel)) (by decide +kernel) (by decide +kernel) (by decide +kernel) (by decide +kernel) (by decide +kernel)) (by decide +kernel)
theorem wk18 (b : Bool) : WK 120 (kindD 18) b (if b then whoD 18 else txtD 18) := by
  cases b
  · exact WK.as (wk_tupV (t := "Integer") (WK.as (u := "Integer") (wk_name (s := "Integer") (by decide +kernel)) (by decide +kernel)) (by decide +kernel) (by decide +kernel) (by decide +kernel) (by decide +kernel) (by decide +kernel)) (by decide +kernel)
  · exact WK.as (wk_tupV (t := "Integer") (WK.as (u := "Integer") (wk_name (s := "Integer") (by decide +kernel)) (by decide +kernel)) (by decide +kernel) (by decide +kernel) (by decide +kernel) (by decide +kernel) (by decide +kernel)) (by decide +kernel)
theorem wk19 (b : Bool) : WK 120 (kindD 19) b (if b then whoD 19 else txtD 19) := by
  cases b
  · exact WK.as (wk_type (t := "Bool") (WK.as (u := "Bool") (wk_name (s := "Bool") (by decide +kernel)) (by decide +kernel)) (by decide +kernel) (by decide +kernel)) (by decide +kernel)
  · exact WK.as (wk_type (t := "Bool") (WK.as (u := "Bool") (wk_name (s := "Bool") (by decide +kernel)) (by decide +kernel)) (by decide +kernel) (by decide +kernel)) (by decide +kernel)
theorem wk20 (b : Bool) : WK 120 (kindD 20) b (if b then whoD 20 else txtD 20) := by
  cases b
  · exact WK.as (wk_type (t := "Char") (WK.as (u := "Char") (wk_name (s := "Char") (by decide +kernel)) (by decide +kernel)) (by decide +kernel) (by decide +kernel)) (by decide +kernel)
  · exact WK.as (wk_type (t := "Char") (WK.as (u := "Char") (wk_name (s := "Char") (by decide +kernel)) (by decide +kernel)) (by decide +kernel) (by decide +kernel)) (by decide +kernel)
theorem wk21 (b : Bool) : WK 120 (kindD 21) b (if b then whoD 21 else txtD 21) := by
  cases b
  · exact WK.as (wk_type (t := "Int64") (WK.as (u := "Int64") (wk_name (s := "Int64") (by decide +kernel)) (by decide +kernel)) (by decide +kernel) (by decide +kernel)) (by decide +kernel)
  · exact WK.as (wk_type (t := "Int64") (WK.as (u := "Int64") (wk_name (s := "Int64") (by decide +kernel)) (by decide +kernel)) (by decide +kernel) (by decide +kernel)) (by decide +kernel)
theorem wk22 (b : Bool) : WK 120 (kindD 22) b (if b then whoD 22 else txtD 22) := by
  cases b
  · exact WK.as (wk_type (t := "Integer") (WK.as (u := "Integer") (wk_name (s := "Integer") (by decide +kernel)) (by decide +kernel)) (by decide +kernel) (by decide +kernel)) (by decide +kernel)
  · exact WK.as (wk_type (t := "Integer") (WK.as (u := "Integer") (wk_name (s := "Integer") (by decide +kernel)) (by decide +kernel)) (by decide +kernel) (by decide +kernel)) (by decide +kernel)
theorem wk_all : ∀ (i : Nat), 1 ≤ i → i < 23 → ∀ b, WK 120 (kindD i) b (if b then whoD i else txtD i)
  | 0, h, _ => absurd h (by omega)
  | 1, _, _ => wk1
  | 2, _, _ => wk2
  | 3, _, _ => wk3
  | 4, _, _ => wk4
  | 5, _, _ => wk5
  | 6, _, _ => wk6
  | 7, _, _ => wk7
  | 8, _, _ => wk8
  | 9, _, _ => wk9
  | 10, _, _ => wk10
  | 11, _, _ => wk11
  | 12, _, _ => wk12
  | 13, _, _ => wk13
  | 14, _, _ => wk14
  | 15, _, _ => wk15
  | 16, _, _ => wk16
  | 17, _, _ => wk17
  | 18, _, _ => wk18
  | 19, _, _ => wk19
  | 20, _, _ => wk20
  | 21, _, _ => wk21
  | 22, _, _ => wk22
  | i + 23, _, h => absurd h (by omega)

theorem key_ok {i : Nat} (h1 : 1 ≤ i) (h2 : i < 23) (n : Nat) (st : Store) : ∃ st', evF fns (n + 140) 6 [.d (kindD i)] st = some (.d (keyD i), st') ∧ Kp st st' := by
  obtain ⟨st1, e1, k1⟩ := wk_all i h1 h2 false (n + 10) st
  obtain ⟨st2, e2, k2⟩ := wk_all i h1 h2 true (n + 13) st1
  simp only [Bool.false_eq_true, if_false] at e1
  simp only [if_true] at e2
  have e5 : evF fns (n + 134) 5 [.d (kindD i)] st = some (.d (.str (txtD i)), st1) := f_run1 rfl (r_ret (e_call (es_cons (e_v rfl) (es_cons e_c es_nil)) e1))
  exact ⟨st2, f_run1 rfl (r_ret (e_tup (es_cons (e_call (es_cons (e_v rfl) es_nil) e5) (es_cons (e_call (es_cons (e_v rfl) (es_cons e_c es_nil)) e2) (es_cons (e_repr (e_v rfl) (repr_ok i (by omega))) es_nil))) rfl (by simp))), k1.trans k2⟩

theorem keys_ok : ∀ (is : List Nat), (∀ i ∈ is, 1 ≤ i ∧ i < 23) → ∀ (n : Nat) (st : Store), ∃ st', evKeys fns (n + 150 + is.length) 6 (is.map kindD) st = some (is.map keyD, st') ∧ Kp st st'
  | [], _, n, st => ⟨st, by rw [List.length_nil, List.map_nil, evKeys]; rfl, Kp.refl _⟩
  | i :: is, h, n, st => by
    obtain ⟨st1, e1, k1⟩ := key_ok (h i List.mem_cons_self).1 (h i List.mem_cons_self).2 (n + 10 + is.length) st
    obtain ⟨st2, e2, k2⟩ := keys_ok is (fun j hj => h j (List.mem_cons_of_mem _ hj)) n st1
    refine ⟨st2, ?_, k1.trans k2⟩
    rw [show n + 10 + is.length + 140 = n + 150 + is.length by omega] at e1
    rw [List.length_cons, List.map_cons, show n + 150 + (is.length + 1) = n + 150 + is.length + 1 by omega, evKeys]
    simp only [e1, e2, List.map_cons]

theorem sort_kinds {is : List Nat} (h : ∀ i ∈ is, i < 24) (hn : is.Nodup) (h2 : 2 ≤ is.length) (h64 : is.length < 64) : ∃ js : List Nat, sortBy (is.map keyD) (is.map kindD) = some (js.map kindD) ∧ js.Perm is ∧ js.Pairwise (· < ·) := by
  obtain ⟨p, e, hp, hs⟩ := sort_ok (σ := fun i => is.getD i 0) (n := is.length) (ks := is.map keyD) (by omega) (fun i j hi hj q => by
    rw [List.getD_eq_getElem?_getD, List.getD_eq_getElem?_getD, List.getElem?_eq_getElem hi, List.getElem?_eq_getElem hj] at q
    exact (List.getElem_inj hn).mp q) (fun i j hi hj => by
    refine ⟨keyD is[i], keyD is[j], by simp [hi], by simp [hj], ?_⟩
    rw [key_less (h _ (List.getElem_mem hi)) (h _ (List.getElem_mem hj)), List.getD_eq_getElem?_getD, List.getD_eq_getElem?_getD, List.getElem?_eq_getElem hi, List.getElem?_eq_getElem hj]; rfl)
  refine ⟨p.toList.map fun i => is.getD i 0, ?_, ?_, ?_⟩
  · unfold sortBy
    rw [List.length_map, if_neg (by omega), if_pos ⟨h64, by simp, by simp [key_first]⟩, e]
    simp only [Option.map_some, List.map_map]
    congr 1
    apply List.map_congr_left
    intro i hi
    have hi' : i < is.length := List.mem_range.mp ((hp.mem_iff).mp hi)
    simp [List.getD_eq_getElem?_getD, hi']
  · refine (hp.map _).trans ?_
    have : (List.range is.length).map (fun i => is.getD i 0) = is := by
      apply List.ext_getElem
      · simp
      · intro i h1 h2
        simp at h1
        simp [h1]
    rw [this]
  · rw [List.pairwise_map]
    exact hs
end Mine
end

/-! # P7 -/
section
open PySem PySem.W PyProof.Rows
set_option maxRecDepth 100000
namespace Mine
open PE PS

/-! ## shapes -/
noncomputable def OkL (k : Nat) (ds : List PyData) : Prop := ∀ d ∈ ds, d.canLay0 = true ∧ d.depth ≤ k
theorem OkL.all {k : Nat} : ∀ {ds : List PyData}, OkL k ds → PyData.canLayAll0 ds = true ∧ PyData.depthAll ds ≤ k
  | [], _ => by simp [PyData.canLayAll0, PyData.depthAll]
  | d :: ds, h => by
    have h1 := h d List.mem_cons_self
    have h2 := OkL.all (ds := ds) fun e he => h e (List.mem_cons_of_mem _ he)
    simp only [PyData.canLayAll0, PyData.depthAll, h1.1, h2.1, Bool.and_self, true_and]
    omega
theorem OkL.of_all {k : Nat} : ∀ {ds : List PyData}, PyData.canLayAll0 ds = true → PyData.depthAll ds ≤ k → OkL k ds
  | [], _, _ => fun _ h => nomatch h
  | d :: ds, h1, h2 => by
    simp only [PyData.canLayAll0, Bool.and_eq_true] at h1
    simp only [PyData.depthAll] at h2
    have := OkL.of_all (k := k) h1.2 (by omega)
    intro e he
    rcases List.mem_cons.mp he with rfl | he
    · exact ⟨h1.1, by omega⟩
    · exact this e he
theorem OkL.shaped {k : Nat} {ds : List PyData} (h : OkL k ds) (hk : k ≤ 60) : shapedV (.list ds) = true := by
  obtain ⟨h1, h2⟩ := h.all
  show SeqAt.shaped _ = true
  unfold SeqAt.shaped
  rw [Bool.and_eq_true]
  refine ⟨by simpa only [PyData.canLay0] using h1, decide_eq_true ?_⟩
  simp only [PyData.depth]; omega
theorem OkL.mem {k : Nat} {ds es : List PyData} (h : OkL k ds) (hs : ∀ e ∈ es, e ∈ ds) : OkL k es := fun e he => h e (hs e he)
theorem OkL.mono {k l : Nat} {ds : List PyData} (h : OkL k ds) (hl : k ≤ l) : OkL l ds := fun e he => ⟨(h e he).1, Nat.le_trans (h e he).2 hl⟩
noncomputable def nodeD (ds : List PyData) : PyData := .tuple [.str "union", .tuple ds]
theorem node_ok {k : Nat} {ds : List PyData} (h : OkL k ds) : (nodeD ds).canLay0 = true ∧ (nodeD ds).depth ≤ k + 2 := by
  obtain ⟨h1, h2⟩ := h.all
  have h0 : (PyData.str (Str.ofString "union")).canLay0 = true := by decide +kernel
  have h3 : (PyData.str (Str.ofString "union")).depth = 0 := rfl
  unfold nodeD
  refine ⟨?_, ?_⟩
  · simp only [PyData.canLay0, PyData.canLayAll0, h1, Bool.and_true]
    exact h0
  · simp only [PyData.depth, PyData.depthAll]
    omega
theorem node_kids {k : Nat} {ds : List PyData} (h : (nodeD ds).canLay0 = true ∧ (nodeD ds).depth ≤ k) : OkL k ds := by
  obtain ⟨h1, h2⟩ := h
  unfold nodeD at h1 h2
  simp only [PyData.canLay0, PyData.canLayAll0, Bool.and_eq_true] at h1
  simp only [PyData.depth, PyData.depthAll] at h2
  exact OkL.of_all h1.2.1 (by omega)
theorem kind_ok (i : Nat) (hi : i < 24) : (kindD i).canLay0 = true ∧ (kindD i).depth ≤ 10 := by
  have := all1 (p := fun i => (kindD i).canLay0 && decide ((kindD i).depth ≤ 10)) (by decide +kernel) i hi
  rw [Bool.and_eq_true] at this
  exact ⟨this.1, of_decide_eq_true this.2⟩
theorem kinds_ok {is : List Nat} (h : ∀ i ∈ is, i < 24) : OkL 10 (is.map kindD) := fun d hd => by
  obtain ⟨i, hi, rfl⟩ := List.mem_map.mp hd
  exact kind_ok i (h i hi)

/-- a stack of kinds (the top first), its members in order, its steps -/
inductive FS : List PyData → List Nat → Nat → Prop
  | nil : FS [] [] 0
  | leaf {i s is m} : i < 24 → FS s is m → FS (kindD i :: s) (i :: is) (m + 1)
  | node {ds s is m} : FS (ds ++ s) is m → FS (nodeD ds :: s) is (m + 1)

theorem FS.len : ∀ {s : List PyData} {is : List Nat} {m : Nat}, FS s is m → s.length ≤ m ∧ is.length ≤ m
  | _, _, _, .nil => by simp
  | _, _, _, .leaf _ h => by have := h.len; simp; omega
  | _, _, _, .node h => by have := h.len; simp at this ⊢; omega

noncomputable def addOne (F : List Nat) (i : Nat) : List Nat := if i = 23 ∨ i ∈ F then F else F ++ [i]
noncomputable def addAll (F : List Nat) : List Nat → List Nat
  | [] => F
  | i :: is => addAll (addOne F i) is

theorem any_kind {F : List Nat} {i : Nat} (hF : ∀ j ∈ F, j < 24) (hi : i < 24) : ((F.map kindD).any fun y => PyData.eqv y (kindD i)) = decide (i ∈ F) := by
  induction F with
  | nil => rfl
  | cons j F ih =>
    rw [List.map_cons, List.any_cons, kind_eqv (hF j List.mem_cons_self) hi, ih fun k hk => hF k (List.mem_cons_of_mem _ hk)]
    by_cases h : j = i
    · subst h; simp
    · have e : (j == i) = false := by simpa using h
      rw [e, Bool.false_or]
      have : (i ∈ j :: F) ↔ i ∈ F := by simp [Ne.symm h]
      simp only [this]
theorem all_shaped {F : List Nat} (hF : ∀ j ∈ F, j < 24) : (F.map kindD).all shapedV = true := by
  rw [List.all_eq_true]
  intro d hd
  obtain ⟨i, hi, rfl⟩ := List.mem_map.mp hd
  exact kind_shaped i (hF i hi)
theorem in_kinds {st : Store} {F : List Nat} {i l : Nat} (h : st[l]? = some (F.map kindD)) (hF : ∀ j ∈ F, j < 24) (hi : i < 24) : cmpop .isIn st (.d (kindD i)) (.l l) = some (decide (i ∈ F)) := by
  simp only [cmpop, datOf, itemsOf, h, kind_shaped i hi, all_shaped hF, Bool.and_self, if_true, any_kind hF hi]
theorem notin_kinds {st : Store} {F : List Nat} {i l : Nat} (h : st[l]? = some (F.map kindD)) (hF : ∀ j ∈ F, j < 24) (hi : i < 24) : cmpop .notIn st (.d (kindD i)) (.l l) = some (!decide (i ∈ F)) := by
  simp only [cmpop, datOf, itemsOf, h, kind_shaped i hi, all_shaped hF, Bool.and_self, if_true, any_kind hF hi]
theorem ne_bottom {st : Store} {i : Nat} (hi : i < 24) : cmpop .ne st (.d (kindD i)) (.d bottomD) = some (!(i == 23)) := by
  have h := kind_shaped i hi
  have h2 := kind_shaped 23 (by omega)
  have h3 := kind_eqv hi (show 23 < 24 by omega)
  rw [← kind_bottom]
  simp only [cmpop, datOf, h, h2, Bool.and_self, if_true, h3]
theorem eqv_nil {xs : List PyData} : PyData.eqv (.list xs) (.list []) = xs.isEmpty := by
  cases xs <;> rfl
theorem ne_nil_l {st : Store} {i j k : Nat} {xs : List PyData} (h1 : st[i]? = some xs) (h2 : st[j]? = some []) (h : OkL k xs) (hk : k ≤ 60) : cmpop .ne st (.l i) (.l j) = some (!xs.isEmpty) := ne_lists h1 h2 (h.shaped hk) shl0 (by rw [eqv_nil])
theorem eq_nil_l {st : Store} {i j k : Nat} {xs : List PyData} (h1 : st[i]? = some xs) (h2 : st[j]? = some []) (h : OkL k xs) (hk : k ≤ 60) : cmpop .eq st (.l i) (.l j) = some xs.isEmpty := by
  simp only [cmpop, datOf, h1, h2, Option.map_some, h.shaped hk, shl0, Bool.and_self, if_true, eqv_nil]

section
variable {n : Nat} {vs vs1 vs2 : Vars} {st st1 st2 st3 : Store} {u v w : V} {a b e t : PE} {i j k x l : Nat} {d y : PyData} {xs ys : List PyData} {r : List PS} {p : PS}
theorem b_nil : evSs fns (n + 1) vs st [] = some (.next, vs, st) := by rw [evSs]
theorem b_cons (h : evS fns n vs st p = some (.next, vs1, st1)) (k : evSs fns n vs1 st1 r = some (.next, vs2, st2)) : evSs fns (n + 1) vs st (p :: r) = some (.next, vs2, st2) := by
  rw [evSs]; simp only [h, k]
theorem z_asg (h : evE fns n vs st e = some (u, st1)) : evS fns (n + 1) vs st (.asg x e) = some (.next, upd vs x u, st1) := by rw [evS]; simp only [h]
theorem z_if_t {a b : List PS} (h : evT fns n vs st t = some (true, st1)) (k : evSs fns n vs st1 a = some (.next, vs1, st2)) : evS fns (n + 1) vs st (.ifs t a b) = some (.next, vs1, st2) := by rw [evS]; simp only [h, k]
theorem z_if_f {a b : List PS} (h : evT fns n vs st t = some (false, st1)) (k : evSs fns n vs st1 b = some (.next, vs1, st2)) : evS fns (n + 1) vs st (.ifs t a b) = some (.next, vs1, st2) := by rw [evS]; simp only [h, k]
theorem z_ex (h : evE fns n vs st e = some (.d .none, st1)) : evS fns (n + 1) vs st (.ex e) = some (.next, vs, st1) := by rw [evS]; simp only [h]
theorem w_end {b : List PS} (h : evT fns n vs st t = some (false, st1)) : evWh fns (n + 1) vs st t b = some (.next, vs, st1) := by rw [evWh]; simp only [h]
theorem w_turn {b : List PS} (h : evT fns n vs st t = some (true, st1)) (h2 : evSs fns n vs st1 b = some (.next, vs1, st2)) (h3 : evWh fns n vs1 st2 t b = some (.next, vs2, st3)) : evWh fns (n + 1) vs st t b = some (.next, vs2, st3) := by rw [evWh]; simp only [h, h2, h3]
end

noncomputable def uCond : PE := cmp .ne (v 1) (lst [])
noncomputable def uBody : List PS := [
    asg 3 (pop (v 1)),
    ifs (cmp .eq (idx (v 3) (ci 0)) (cs "union"))
      [ex (extend (v 1) (rev (idx (v 3) (ci 1))))]
      [ifs (and (cmp .ne (v 3) (g 1)) (cmp .notIn (v 3) (v 2))) [ex (append (v 2) (v 3))] []]]

theorem addOne_lt {F : List Nat} {i : Nat} (hF : ∀ j ∈ F, j < 24) (hi : i < 24) : ∀ j ∈ addOne F i, j < 24 := fun j hj => by
  unfold addOne at hj
  split at hj
  · exact hF j hj
  · rcases List.mem_append.mp hj with h | h
    · exact hF j h
    · rw [List.mem_singleton.mp h]; exact hi

/-- the loop of union_of -/
theorem u_loop {base : Store} {l f : Nat} (hbl : base.length ≤ l) (hbf : base.length ≤ f) (hlf : l ≠ f) : ∀ {s : List PyData} {is : List Nat} {m : Nat}, FS s is m → m ≤ 100 → OkL 60 s → ∀ (n : Nat) (vs : Vars) (st : Store) (F : List Nat), Kp base st → F.length + m ≤ 200 → (∀ j ∈ F, j < 24) →
    vs 1 = some (.l l) → vs 2 = some (.l f) → st[l]? = some s.reverse → st[f]? = some (F.map kindD) →
    ∃ vs' st', evWh fns (n + m + 20) vs st uCond uBody = some (.next, vs', st') ∧ Kp base st' ∧ st'[f]? = some ((addAll F is).map kindD) ∧ vs' 2 = some (.l f) ∧ st.length ≤ st'.length
  | _, _, _, .nil, _, _, n, vs, st, F, hk, _, hF, h1, h2, hl, hf => by
    refine ⟨vs, _, w_end (n := n + 19) (t_cmp (e_v h1) (e_lst es_nil rfl (by decide)) (ne_nil_l (get_app hl) get_last (k := 0) (fun _ h => nomatch h) (by omega))), hk.app _, get_app hf, h2, by simp⟩
  | _, _, _, .leaf (i := i) (s := s) (is := is) (m := m) hi hs, hm, hok, n, vs, st, F, hk, hFm, hF, h1, h2, hl, hf => by
    obtain ⟨x, rest, hx, hux, hsx⟩ := kind_head i hi
    have hl' : (st ++ [[]])[l]? = some (s.reverse ++ [kindD i]) := by rw [← List.reverse_cons]; exact get_app hl
    have hok' : OkL 60 (s.reverse ++ [kindD i]) := hok.mem fun e he => by simpa [or_comm] using he
    have hlen : (s.reverse ++ [kindD i]).length ≤ 1000000 := by have := hs.len.1; simp; omega
    have hfl : (st ++ [[]])[f]? = some (F.map kindD) := get_app hf
    have hl2 := (List.getElem?_eq_some_iff.mp hl').1
    have hl3 : ((st ++ [[]]).set l s.reverse)[l]? = some s.reverse := List.getElem?_set_self hl2
    have hf3 : ((st ++ [[]]).set l s.reverse)[f]? = some (F.map kindD) := by rw [List.getElem?_set_ne hlf]; exact hfl
    have k3 : Kp base ((st ++ [[]]).set l s.reverse) := (hk.app _).set hbl _
    have cond : evT fns (n + m + 20) vs st uCond = some (true, st ++ [[]]) := t_cmp (n := n + m + 18) (e_v h1) (e_lst es_nil rfl (by decide)) (by
      rw [ne_nil_l hl' get_last hok' (by omega)]; simp)
    have hpop : evE fns (n + m + 17 + 1) vs (st ++ [[]]) (pop (v 1)) = some (.d (kindD i), (st ++ [[]]).set l s.reverse) := by
      have := e_pop (n := n + m + 17) (vs := vs) (a := v 1) (e_v h1) hl' (y := kindD i) (by simp) hlen
      simpa using this
    have hidx : ∀ N st, evE fns (N + 2) (upd vs 3 (.d (kindD i))) st (idx (v 3) (ci 0)) = some (.d (.str x), st) := fun N st => e_idx (e_v rfl) e_c i0 (xs := .str x :: rest) (by rw [hx]; rfl) (j := 0) (by simp [place]) rfl
    have v1 : upd vs 3 (.d (kindD i)) 1 = some (.l l) := h1
    have v2 : upd vs 3 (.d (kindD i)) 2 = some (.l f) := h2
    have test : evT fns (n + m + 17) (upd vs 3 (.d (kindD i))) ((st ++ [[]]).set l s.reverse) (cmp .eq (idx (v 3) (ci 0)) (cs "union")) = some (false, (st ++ [[]]).set l s.reverse) :=
      t_cmp (hidx _ _) e_c (cmp_str hsx sh_union hux)
    have ih := u_loop hbl hbf hlf hs (by omega) (hok.mem fun e he => List.mem_cons_of_mem _ he)
    by_cases hadd : i = 23 ∨ i ∈ F
    · have e1 : addOne F i = F := if_pos hadd
      have inner : evT fns (n + m + 15) (upd vs 3 (.d (kindD i))) ((st ++ [[]]).set l s.reverse) (and (cmp .ne (v 3) (g 1)) (cmp .notIn (v 3) (v 2))) = some (false, (st ++ [[]]).set l s.reverse) := by
        by_cases h23 : i = 23
        · exact t_and_f (t_cmp (e_v rfl) (e_g rfl) (by rw [ne_bottom hi, h23]; rfl))
        · refine t_and_t (t_cmp (e_v rfl) (e_g rfl) (by rw [ne_bottom hi]; simp [h23])) (t_cmp (e_v rfl) (e_v v2) (by rw [notin_kinds hf3 hF hi]; simp [hadd.resolve_left h23]))
      obtain ⟨vs', st', e2, k2, g2, v2', ln⟩ := ih n (upd vs 3 (.d (kindD i))) _ F k3 (by omega) hF v1 v2 hl3 hf3
      refine ⟨vs', st', w_turn (n := n + m + 20) cond (b_cons (z_asg hpop) (b_cons (z_if_f test (b_cons (z_if_f inner b_nil) b_nil)) b_nil)) e2, k2, ?_, v2', ?_⟩
      · show _ = some ((addAll (addOne F i) is).map kindD)
        rw [e1]; exact g2
      · simp at ln; omega
    · have e1 : addOne F i = F ++ [i] := if_neg hadd
      have n1 : i ≠ 23 := fun q => hadd (Or.inl q)
      have n2 : i ∉ F := fun q => hadd (Or.inr q)
      have inner : evT fns (n + m + 15) (upd vs 3 (.d (kindD i))) ((st ++ [[]]).set l s.reverse) (and (cmp .ne (v 3) (g 1)) (cmp .notIn (v 3) (v 2))) = some (true, (st ++ [[]]).set l s.reverse) :=
        t_and_t (t_cmp (e_v rfl) (e_g rfl) (by rw [ne_bottom hi]; simp [n1])) (t_cmp (e_v rfl) (e_v v2) (by rw [notin_kinds hf3 hF hi]; simp [n2]))
      have app : evE fns (n + m + 13) (upd vs 3 (.d (kindD i))) ((st ++ [[]]).set l s.reverse) (append (v 2) (v 3)) = some (.d .none, ((st ++ [[]]).set l s.reverse).set f (F.map kindD ++ [kindD i])) :=
        e_append (e_v v2) (e_v rfl) hf3 (by simp; omega)
      have hf4 : (((st ++ [[]]).set l s.reverse).set f (F.map kindD ++ [kindD i]))[f]? = some ((F ++ [i]).map kindD) := by
        rw [List.getElem?_set_self (List.getElem?_eq_some_iff.mp hf3).1]; simp
      have hl4 : (((st ++ [[]]).set l s.reverse).set f (F.map kindD ++ [kindD i]))[l]? = some s.reverse := by
        rw [List.getElem?_set_ne (Ne.symm hlf)]; exact hl3
      obtain ⟨vs', st', e2, k2, g2, v2', ln⟩ := ih n (upd vs 3 (.d (kindD i))) _ (F ++ [i]) (k3.set hbf _) (by simp; omega) (e1 ▸ addOne_lt hF hi) v1 v2 hl4 hf4
      refine ⟨vs', st', w_turn (n := n + m + 20) cond (b_cons (z_asg hpop) (b_cons (z_if_f test (b_cons (z_if_t inner (b_cons (z_ex app) b_nil)) b_nil)) b_nil)) e2, k2, ?_, v2', ?_⟩
      · show _ = some ((addAll (addOne F i) is).map kindD)
        rw [e1]; exact g2
      · simp at ln; omega
  | _, _, _, .node (ds := ds) (s := s) (is := is) (m := m) hs, hm, hok, n, vs, st, F, hk, hFm, hF, h1, h2, hl, hf => by
    have hl' : (st ++ [[]])[l]? = some (s.reverse ++ [nodeD ds]) := by rw [← List.reverse_cons]; exact get_app hl
    have hok' : OkL 60 (s.reverse ++ [nodeD ds]) := hok.mem fun e he => by simpa [or_comm] using he
    have hokd : OkL 60 ds := node_kids (hok _ List.mem_cons_self)
    have hsl := hs.len.1
    rw [List.length_append] at hsl
    have hlen : (s.reverse ++ [nodeD ds]).length ≤ 1000000 := by simp; omega
    have hfl : (st ++ [[]])[f]? = some (F.map kindD) := get_app hf
    have hl2 := (List.getElem?_eq_some_iff.mp hl').1
    have hl3 : ((st ++ [[]]).set l s.reverse)[l]? = some s.reverse := List.getElem?_set_self hl2
    have hf3 : ((st ++ [[]]).set l s.reverse)[f]? = some (F.map kindD) := by rw [List.getElem?_set_ne hlf]; exact hfl
    have k3 : Kp base ((st ++ [[]]).set l s.reverse) := (hk.app _).set hbl _
    have cond : evT fns (n + m + 20) vs st uCond = some (true, st ++ [[]]) := t_cmp (n := n + m + 18) (e_v h1) (e_lst es_nil rfl (by decide)) (by
      rw [ne_nil_l hl' get_last hok' (by omega)]; simp)
    have hpop : evE fns (n + m + 17 + 1) vs (st ++ [[]]) (pop (v 1)) = some (.d (nodeD ds), (st ++ [[]]).set l s.reverse) := by
      have := e_pop (n := n + m + 17) (vs := vs) (a := v 1) (e_v h1) hl' (y := nodeD ds) (by simp) hlen
      simpa using this
    have v1 : upd vs 3 (.d (nodeD ds)) 1 = some (.l l) := h1
    have v2 : upd vs 3 (.d (nodeD ds)) 2 = some (.l f) := h2
    have test : evT fns (n + m + 17) (upd vs 3 (.d (nodeD ds))) ((st ++ [[]]).set l s.reverse) (cmp .eq (idx (v 3) (ci 0)) (cs "union")) = some (true, (st ++ [[]]).set l s.reverse) :=
      t_cmp (e_idx (e_v rfl) e_c i0 rfl rfl rfl) e_c (cmp_str sh_union sh_union q_union_union)
    have ext : evE fns (n + m + 15) (upd vs 3 (.d (nodeD ds))) ((st ++ [[]]).set l s.reverse) (extend (v 1) (rev (idx (v 3) (ci 1)))) = some (.d .none, ((st ++ [[]]).set l s.reverse).set l (s.reverse ++ ds.reverse)) :=
      e_extend (e_v v1) (e_revT (e_idx (e_v rfl) e_c i1 rfl rfl rfl) (by omega)) hl3 (by simp; omega)
    have hl4 : (((st ++ [[]]).set l s.reverse).set l (s.reverse ++ ds.reverse))[l]? = some (ds ++ s).reverse := by
      rw [List.getElem?_set_self (by simpa using hl2), List.reverse_append]
    have hf4 : (((st ++ [[]]).set l s.reverse).set l (s.reverse ++ ds.reverse))[f]? = some (F.map kindD) := by
      rw [List.getElem?_set_ne hlf]; exact hf3
    obtain ⟨vs', st', e2, k2, g2, v2', ln⟩ := u_loop hbl hbf hlf hs (by omega) (fun e he => by
      rcases List.mem_append.mp he with h | h
      · exact hokd e h
      · exact hok e (List.mem_cons_of_mem _ h)) n (upd vs 3 (.d (nodeD ds))) _ F (k3.set hbl _) (by omega) hF v1 v2 hl4 hf4
    refine ⟨vs', st', w_turn (n := n + m + 20) cond (b_cons (z_asg hpop) (b_cons (z_if_t test (b_cons (z_ex ext) b_nil)) b_nil)) e2, k2, g2, v2', ?_⟩
    simp at ln; omega
end Mine
end

/-! # P8 -/
section
open PySem PySem.W PyProof.Rows
set_option maxRecDepth 100000
namespace Mine
open PE PS

theorem strict_ext : ∀ {a b : List Nat}, a.Pairwise (· < ·) → b.Pairwise (· < ·) → (∀ x, x ∈ a ↔ x ∈ b) → a = b
  | [], [], _, _, _ => rfl
  | [], y :: b, _, _, h => by have := (h y).mpr List.mem_cons_self; cases this
  | x :: a, [], _, _, h => by have := (h x).mp List.mem_cons_self; cases this
  | x :: a, y :: b, ha, hb, h => by
    rw [List.pairwise_cons] at ha hb
    have hxy : x = y := by
      rcases List.mem_cons.mp ((h x).mp List.mem_cons_self) with q | q
      · exact q
      · rcases List.mem_cons.mp ((h y).mpr List.mem_cons_self) with q2 | q2
        · exact q2.symm
        · have := hb.1 x q; have := ha.1 y q2; omega
    subst hxy
    congr 1
    refine strict_ext ha.2 hb.2 fun z => ⟨fun hz => ?_, fun hz => ?_⟩
    · rcases List.mem_cons.mp ((h z).mp (List.mem_cons_of_mem _ hz)) with q | q
      · have := ha.1 z hz; omega
      · exact q
    · rcases List.mem_cons.mp ((h z).mpr (List.mem_cons_of_mem _ hz)) with q | q
      · have := hb.1 z hz; omega
      · exact q

noncomputable def S (is : List Nat) : List Nat := (List.range 24).filter fun j => decide (j ∈ is) && j != 23
theorem S_lt (is : List Nat) : (S is).Pairwise (· < ·) := List.pairwise_lt_range.filter _
theorem S_mem {is : List Nat} {j : Nat} : j ∈ S is ↔ j < 24 ∧ j ∈ is ∧ j ≠ 23 := by
  unfold S
  rw [List.mem_filter, List.mem_range]
  simp
theorem S_len (is : List Nat) : (S is).length ≤ 24 := by
  have := List.length_filter_le (fun j => decide (j ∈ is) && j != 23) (List.range 24)
  rw [List.length_range] at this
  exact this
theorem S_ext {a b : List Nat} (h : ∀ j, j ∈ a ↔ j ∈ b) : S a = S b := by
  unfold S
  congr 1
  funext j
  rw [show decide (j ∈ a) = decide (j ∈ b) from decide_eq_decide.mpr (h j)]
theorem S_S (is : List Nat) : S (S is) = S is := strict_ext (S_lt _) (S_lt _) fun j => by simp only [S_mem]; constructor <;> (intro h; simp_all)

theorem addOne_mem {F : List Nat} {i j : Nat} (_ : 23 ∉ F) : j ∈ addOne F i ↔ j ∈ F ∨ (j = i ∧ j ≠ 23) := by
  unfold addOne
  split
  · rename_i h
    constructor
    · exact .inl
    · rintro (q | ⟨rfl, q⟩)
      · exact q
      · exact h.resolve_left q
  · rename_i h
    rw [List.mem_append, List.mem_singleton]
    constructor
    · rintro (q | rfl)
      · exact .inl q
      · exact .inr ⟨rfl, fun q => h (.inl q)⟩
    · rintro (q | ⟨rfl, _⟩)
      · exact .inl q
      · exact .inr rfl
theorem addOne_nodup {F : List Nat} {i : Nat} (hn : F.Nodup) : (addOne F i).Nodup := by
  unfold addOne
  split
  · exact hn
  · rename_i h
    rw [List.nodup_append]
    exact ⟨hn, by simp, fun a ha b hb q => h (.inr (by rw [List.mem_singleton.mp hb] at q; exact q ▸ ha))⟩
theorem addAll_spec : ∀ (is F : List Nat), F.Nodup → 23 ∉ F → (addAll F is).Nodup ∧ 23 ∉ addAll F is ∧ ∀ j, j ∈ addAll F is ↔ (j ∈ F ∨ (j ∈ is ∧ j ≠ 23))
  | [], F, hn, h => ⟨hn, h, fun j => by simp [addAll]⟩
  | i :: is, F, hn, h => by
    have h1 : 23 ∉ addOne F i := fun q => by
      rcases (addOne_mem h).mp q with q | q
      · exact h q
      · exact q.2 rfl
    obtain ⟨a, b, c⟩ := addAll_spec is (addOne F i) (addOne_nodup hn) h1
    refine ⟨a, b, fun j => ?_⟩
    rw [show addAll F (i :: is) = addAll (addOne F i) is from rfl, c, addOne_mem h, List.mem_cons]
    constructor
    · rintro ((q | ⟨rfl, q⟩) | ⟨q, q2⟩)
      · exact .inl q
      · exact .inr ⟨.inl rfl, q⟩
      · exact .inr ⟨.inr q, q2⟩
    · rintro (q | ⟨rfl | q, q2⟩)
      · exact .inl (.inl q)
      · exact .inl (.inr ⟨rfl, q2⟩)
      · exact .inr ⟨q, q2⟩

noncomputable def uni (js : List Nat) : PyData := if 0 ∈ js then anyD else match js with
  | [] => bottomD
  | [i] => kindD i
  | js => nodeD (js.map kindD)

theorem FS.lt : ∀ {s : List PyData} {is : List Nat} {m : Nat}, FS s is m → ∀ i ∈ is, i < 24
  | _, _, _, .nil => fun _ h => nomatch h
  | _, _, _, .leaf hi h => fun j hj => by
    rcases List.mem_cons.mp hj with rfl | hj
    · exact hi
    · exact h.lt j hj
  | _, _, _, .node h => h.lt

section
variable {n : Nat} {vs vs1 : Vars} {st st1 st2 : Store} {t : PE} {b r : List PS} {v : V}
theorem r_while (h : evWh fns n vs st t b = some (.next, vs1, st1)) (k : Runs (n + 1) vs1 st1 r v st2) : Runs (n + 2) vs st (.whil t b :: r) v st2 := r_next (by rw [evS]; exact h) k
theorem eq_int {a b : Int} : cmpop .eq st (.d (.int a)) (.d (.int b)) = some (a == b) := rfl
end

theorem union_ok {i0 : Nat} {ts : List PyData} {is : List Nat} {m : Nat} {st : Store} (h0 : st[i0]? = some ts) (hs : FS ts is m) (hm : m ≤ 100) (hok : OkL 60 ts) (n : Nat) :
    ∃ st', evF fns (n + m + 300) 0 [.l i0] st = some (.d (uni (S is)), st') ∧ Kp st st' := by
  have hl := hs.len
  obtain ⟨vs', st1, e1, k1, g1, v2, ln⟩ := u_loop (base := st) (l := (st ++ [ts]).length) (f := (st ++ [ts] ++ [ts.reverse]).length) (by simp) (by simp) (by simp) hs hm hok (n + 276)
    (upd (upd (upd v0 0 (.l i0)) 1 (.l (st ++ [ts]).length)) 2 (.l (st ++ [ts] ++ [ts.reverse]).length)) (st ++ [ts] ++ [ts.reverse] ++ [[]]) [] (((kp_app _ _).app _).app _) (by simp; omega) (fun _ h => nomatch h) rfl rfl (get_app get_last) get_last
  rw [show n + 276 + m + 20 = n + m + 296 by omega] at e1
  generalize hD : addAll [] is = D at g1
  obtain ⟨dn, d23, dm⟩ := addAll_spec is [] List.nodup_nil (by simp)
  rw [hD] at dn d23 dm
  have dm' : ∀ j, j ∈ D ↔ j ∈ S is := fun j => by
    rw [dm, S_mem]
    constructor
    · rintro (q | ⟨q, q2⟩)
      · cases q
      · exact ⟨hs.lt j q, q, q2⟩
    · rintro ⟨_, q, q2⟩
      exact .inr ⟨q, q2⟩
  have dlt : ∀ j ∈ D, j < 24 := fun j hj => (S_mem.mp ((dm' j).mp hj)).1
  have sn : (S is).Nodup := (S_lt is).imp fun h => Nat.ne_of_lt h
  have dp : D.Perm (S is) := (List.perm_ext_iff_of_nodup dn sn).mpr dm'
  have dl : D.length ≤ 24 := by rw [dp.length_eq]; exact S_len is
  have start : ∀ {r v st2}, Runs (n + m + 297) vs' st1 r v st2 → Runs (n + m + 299) (upd v0 0 (.l i0)) st (asg2 1 2 (rev (list (PE.v 0))) (lst []) :: whil uCond uBody :: r) v st2 := fun k =>
    r_asg2 (n := n + m + 297) _ _ _ _ (e_revL (e_list (e_v rfl) (xs := ts) h0 (by omega)) get_last (by omega)) (e_lst es_nil rfl (by decide)) (r_while (n := n + m + 296) e1 k)
  have any_in : ∀ N, evT fns (N + 3) vs' st1 (cmp .isIn (g 0) (PE.v 2)) = some (decide (0 ∈ D), st1) := fun N =>
    t_cmp (n := N + 1) (u := .d anyD) (e_g rfl) (e_v v2) (by rw [← kind_any]; exact in_kinds g1 dlt (by omega))
  by_cases hz : 0 ∈ D
  · have hu : uni (S is) = anyD := if_pos ((dm' 0).mp hz)
    rw [hu]
    exact ⟨st1, f_run1 (n := n + m + 299) rfl (start (r_then (n := n + m + 295) st1 ((any_in (n + m + 292)).trans (by simp [hz])) (r_ret (n := n + m + 293) (e_g rfl)))), k1⟩
  have hz' : 0 ∉ S is := fun q => hz ((dm' 0).mpr q)
  have skip0 : ∀ {r v st2}, Runs (n + m + 296) vs' st1 r v st2 → Runs (n + m + 297) vs' st1 (ifs (cmp .isIn (g 0) (PE.v 2)) [ret (g 0)] [] :: r) v st2 := fun k =>
    r_skip (n := n + m + 294) st1 ((any_in (n + m + 292)).trans (by simp [hz])) k
  have emp : evT fns (n + m + 294) vs' st1 (cmp .eq (PE.v 2) (lst [])) = some ((D.map kindD).isEmpty, st1 ++ [[]]) := t_cmp (n := n + m + 292) (e_v v2) (e_lst es_nil rfl (by decide)) (eq_nil_l (get_app g1) get_last (kinds_ok dlt) (by omega))
  cases D with
  | nil =>
    have hS : S is = [] := List.perm_nil.mp dp.symm
    rw [hS]
    exact ⟨_, f_run1 (n := n + m + 299) rfl (start (skip0 (r_then (n := n + m + 294) _ emp (r_ret (n := n + m + 292) (e_g rfl))))), k1.app _⟩
  | cons i D' =>
    have emp' : evT fns (n + m + 294) vs' st1 (cmp .eq (PE.v 2) (lst [])) = some (false, st1 ++ [[]]) := emp
    have g2 : (st1 ++ [[]])[(st ++ [ts] ++ [ts.reverse]).length]? = some ((i :: D').map kindD) := get_app g1
    have hlen : evT fns (n + m + 291) vs' (st1 ++ [[]]) (cmp .eq (len (PE.v 2)) (ci 1)) = some (((((i :: D').map kindD).length : Nat) : Int) == 1, st1 ++ [[]]) :=
      t_cmp (n := n + m + 289) (e_len (e_v v2) g2 (by simp at dl ⊢; omega)) e_c eq_int
    cases D' with
    | nil =>
      have hS : S is = [i] := List.perm_singleton.mp dp.symm
      have hi : uni (S is) = kindD i := by
        rw [hS]
        unfold uni
        rw [if_neg (by rw [hS] at hz'; exact hz')]
      rw [hi]
      exact ⟨_, f_run1 (n := n + m + 299) rfl (start (skip0 (r_skip (n := n + m + 293) _ emp' (r_ret (n := n + m + 293) (e_ite_t (n := n + m + 292) (by
        have := t_cmp (n := n + m + 290) (vs := vs') (st := st1 ++ [[]]) (o := .eq) (b := ci 1) (e_len (e_v v2) g2 (by simp)) e_c eq_int
        exact this) (e_idx (e_v v2) e_c Mine.i0 (xs := [kindD i]) g2 rfl rfl)))))), k1.app _⟩
    | cons j D'' =>
      have hsl : (S is).length = (i :: j :: D'').length := dp.length_eq.symm
      obtain ⟨js, hsort, jp, jlt⟩ := sort_kinds (is := i :: j :: D'') dlt dn (by simp) (by simp at dl ⊢; omega)
      have hjs : js = S is := strict_ext jlt (S_lt is) fun x => by rw [jp.mem_iff, dm']
      subst hjs
      have hu : uni (S is) = nodeD ((S is).map kindD) := by
        match hq : S is, hsl with
        | [], h => simp at h
        | [a], h => simp at h
        | a :: b :: r, _ =>
          unfold uni
          rw [if_neg (by rw [hq] at hz'; exact hz')]
      rw [hu]
      obtain ⟨st2, ek, kk⟩ := keys_ok (i :: j :: D'') (fun x hx => ⟨Nat.pos_of_ne_zero fun q => hz (q ▸ hx), by
        have := dlt x hx
        have : x ≠ 23 := fun q => d23 (q ▸ hx)
        omega⟩) (n + m + 287 - 150 - (i :: j :: D'').length) (st1 ++ [[]])
      rw [show n + m + 287 - 150 - (i :: j :: D'').length + 150 + (i :: j :: D'').length = n + m + 287 by omega] at ek
      refine ⟨_, f_run1 (n := n + m + 299) rfl (start (skip0 (r_skip (n := n + m + 293) _ emp' (r_ret (n := n + m + 293) (e_ite_f (n := n + m + 292) (by
        have := t_cmp (n := n + m + 290) (vs := vs') (st := st1 ++ [[]]) (o := .eq) (b := ci 1) (e_len (e_v v2) g2 (by simp at dl ⊢; omega)) e_c eq_int
        rw [this]
        congr 2) (e_tup (es_cons e_c (es_cons (e_tuple (e_sortk (e_v v2) g2 ek hsort) get_last (by have := S_len is; simp; omega)) es_nil)) rfl (by simp))))))), ((k1.app _).trans kk).app _⟩
end Mine
end

/-! # P9 -/
section
open PySem PySem.W PyProof.Rows
set_option maxRecDepth 100000
namespace Mine
open PE PS

theorem any_row {F : List Nat} {i : Nat} (hF : ∀ j ∈ F, j < 24) (hi : i < 24) : ((F.map rowD).any fun y => PyData.eqv y (rowD i)) = decide (i ∈ F) := by
  induction F with
  | nil => rfl
  | cons j F ih =>
    rw [List.map_cons, List.any_cons, row_eqv (hF j List.mem_cons_self) hi, ih fun k hk => hF k (List.mem_cons_of_mem _ hk)]
    by_cases h : j = i
    · subst h; simp
    · have e : (j == i) = false := by simpa using h
      rw [e, Bool.false_or]
      have : (i ∈ j :: F) ↔ i ∈ F := by simp [Ne.symm h]
      simp only [this]
theorem all_shaped_row {F : List Nat} (hF : ∀ j ∈ F, j < 24) : (F.map rowD).all shapedV = true := by
  rw [List.all_eq_true]
  intro d hd
  obtain ⟨i, hi, rfl⟩ := List.mem_map.mp hd
  exact row_shaped i (hF i hi)
theorem notin_rows {st : Store} {F : List Nat} {i l : Nat} (h : st[l]? = some (F.map rowD)) (hF : ∀ j ∈ F, j < 24) (hi : i < 24) : cmpop .notIn st (.d (rowD i)) (.l l) = some (!decide (i ∈ F)) := by
  simp only [cmpop, datOf, itemsOf, h, row_shaped i hi, all_shaped_row hF, Bool.and_self, if_true, any_row hF hi]
theorem rows_ok {is : List Nat} (h : ∀ i ∈ is, i < 24) : OkL 20 (is.map rowD) := fun d hd => by
  obtain ⟨i, hi, rfl⟩ := List.mem_map.mp hd
  have := all1 (p := fun i => (rowD i).canLay0 && decide ((rowD i).depth ≤ 20)) (by decide +kernel) i (h i hi)
  rw [Bool.and_eq_true] at this
  exact ⟨this.1, of_decide_eq_true this.2⟩

/-- the place of a new member -/
noncomputable def ins (F : List Nat) (j : Nat) : List Nat := F.take (F.filter (· < j)).length ++ [j] ++ F.drop (F.filter (· < j)).length
theorem ins_spec {j : Nat} : ∀ {F : List Nat}, F.Pairwise (· < ·) → j ∉ F → (ins F j).Pairwise (· < ·) ∧ ∀ x, x ∈ ins F j ↔ x ∈ F ∨ x = j
  | [], _, _ => by simp [ins]
  | y :: F, h, hj => by
    rw [List.pairwise_cons] at h
    have hjF : j ∉ F := fun q => hj (List.mem_cons_of_mem _ q)
    have hjy : j ≠ y := fun q => hj (q ▸ List.mem_cons_self)
    obtain ⟨a, b⟩ := ins_spec h.2 hjF
    by_cases hy : y < j
    · have e : ins (y :: F) j = y :: ins F j := by
        unfold ins
        rw [List.filter_cons_of_pos (by simpa using hy)]
        simp
      rw [e]
      refine ⟨List.pairwise_cons.mpr ⟨fun x hx => ?_, a⟩, fun x => ?_⟩
      · rcases (b x).mp hx with q | rfl
        · exact h.1 x q
        · exact hy
      · rw [List.mem_cons, b, List.mem_cons]
        constructor
        · rintro (q | q | q) <;> simp [q]
        · rintro ((q | q) | q) <;> simp [q]
    · have hf : (y :: F).filter (· < j) = [] := by
        rw [List.filter_eq_nil_iff]
        intro x hx
        rcases List.mem_cons.mp hx with rfl | hx
        · simpa using hy
        · have := h.1 x hx
          simp
          omega
      have e : ins (y :: F) j = j :: y :: F := by
        unfold ins
        rw [hf]
        simp
      rw [e]
      refine ⟨List.pairwise_cons.mpr ⟨fun x hx => ?_, List.pairwise_cons.mpr h⟩, fun x => ?_⟩
      · rcases List.mem_cons.mp hx with rfl | hx
        · omega
        · have := h.1 x hx; omega
      · rw [List.mem_cons]; exact or_comm

section
variable {n : Nat} {vs vs1 : Vars} {st st1 st2 : Store} {t e : PE} {b r : List PS} {x i k : Nat} {xs : List PyData} {d : PyData} {v : V} {res : Option (Fl × Vars × Store)}
theorem g_end (h1 : st[i]? = some xs) (h2 : xs[k]? = none) : evFor fns (n + 1) vs st x i k b = some (.next, vs, st) := by rw [evFor]; simp only [h1, h2]
theorem g_turn (h1 : st[i]? = some xs) (h2 : xs[k]? = some d) (hb : evSs fns n (upd vs x (.d d)) st b = some (.next, vs1, st1)) (h3 : evFor fns n vs1 st1 x i (k + 1) b = res) : evFor fns (n + 1) vs st x i k b = res := by rw [evFor]; simp only [h1, h2, hb, h3]
theorem r_forL (he : evE fns n vs st e = some (.l i, st1)) (h : evFor fns n vs st1 x i 0 b = some (.next, vs1, st2)) {st3 : Store} (kk : Runs (n + 1) vs1 st2 r v st3) : Runs (n + 2) vs st (.forL x e b :: r) v st3 := r_next (by rw [evS]; simp only [he, h]) kk
end

theorem comp_rows {i : Nat} : ∀ (rest pfx : List Nat) (n : Nat) (vs : Vars) (st : Store) (acc : List PyData), st[i]? = some ((pfx ++ rest).map rowD) → acc.length + rest.length ≤ 1000 →
    evComp fns (n + rest.length + 4) vs st 18 i pfx.length none (idx (v 18) (ci 0)) acc = some (acc ++ rest.map kindD, st)
  | [], pfx, n, vs, st, acc, h, _ => by
    rw [List.map_nil, List.append_nil]
    exact c_end (n := n + 3) h (by simp)
  | j :: rest, pfx, n, vs, st, acc, h, hl => by
    have ih := comp_rows rest (pfx ++ [j]) n vs st (acc ++ [kindD j]) (by simpa using h) (by simp at hl ⊢; omega)
    rw [List.length_append, List.length_singleton, List.append_assoc] at ih
    exact c_item (n := n + rest.length + 4) (d := rowD j) h (by simp) (e_idx (n := n + rest.length + 3) (e_v rfl) e_c Mine.i0 (xs := [kindD j, .str (txtD j), .str (whoD j)]) rfl rfl rfl) (by simp at hl; omega) ih

theorem comp_lt {f j : Nat} (hj : j < 24) : ∀ (rest pfx : List Nat) (n : Nat) (vs : Vars) (st : Store) (acc : List PyData), st[f]? = some ((pfx ++ rest).map rowD) → acc.length + rest.length ≤ 1000 → vs 18 = some (.d (rowD j)) → (∀ x ∈ rest, x < 24) →
    evComp fns (n + rest.length + 8) vs st 20 f pfx.length (some (cmp .lt (suf (v 20) (ci 1)) (suf (v 18) (ci 1)))) (v 20) acc = some (acc ++ (rest.filter (· < j)).map rowD, st)
  | [], pfx, n, vs, st, acc, h, _, _, _ => by
    rw [List.filter_nil, List.map_nil, List.append_nil]
    exact c_end (n := n + 7) h (by simp)
  | x :: rest, pfx, n, vs, st, acc, h, hl, h18, hx => by
    have hxx := hx x List.mem_cons_self
    have h18' : upd vs 20 (.d (rowD x)) 18 = some (.d (rowD j)) := h18
    have test : evT fns (n + rest.length + 8) (upd vs 20 (.d (rowD x))) st (cmp .lt (suf (v 20) (ci 1)) (suf (v 18) (ci 1))) = some (decide (x < j), st) :=
      t_cmp (n := n + rest.length + 6) (e_sufT (n := n + rest.length + 5) (e_v rfl) (xs := [kindD x, .str (txtD x), .str (whoD x)]) e_c (by decide) (by simp)) (e_sufT (n := n + rest.length + 5) (e_v h18') (xs := [kindD j, .str (txtD j), .str (whoD j)]) e_c (by decide) (by simp)) (row_less hxx hj)
    by_cases hlt : x < j
    · have ih := comp_lt hj rest (pfx ++ [x]) n vs st (acc ++ [rowD x]) (by simpa using h) (by simp at hl ⊢; omega) h18 fun y hy => hx y (List.mem_cons_of_mem _ hy)
      rw [List.length_append, List.length_singleton, List.append_assoc] at ih
      rw [List.filter_cons_of_pos (by simpa using hlt)]
      exact c_yes (n := n + rest.length + 8) (d := rowD x) h (by simp) (test.trans (by simp [hlt])) (e_v rfl) (by simp at hl; omega) ih
    · have ih := comp_lt hj rest (pfx ++ [x]) n vs st acc (by simpa using h) (by simp at hl ⊢; omega) h18 fun y hy => hx y (List.mem_cons_of_mem _ hy)
      rw [List.length_append, List.length_singleton] at ih
      rw [List.filter_cons_of_neg (by simpa using hlt)]
      exact c_no (n := n + rest.length + 8) (d := rowD x) h (by simp) (test.trans (by simp [hlt])) ih

noncomputable def dBody : List PS := [
    ifs (and (cmp .ne (idx (v 18) (ci 0)) (tup [cs "bottom"])) (cmp .notIn (v 18) (v 2))) [
      asg 19 (len (comp 20 (v 2) (some (cmp .lt (suf (v 20) (ci 1)) (suf (v 18) (ci 1)))) (v 20))),
      asg 2 (bin .add (bin .add (pre (v 2) (v 19)) (lst [v 18])) (suf (v 2) (v 19)))] []]

theorem d_loop {i : Nat} : ∀ (rest pfx : List Nat) (n : Nat) (vs : Vars) (st : Store) (f : Nat) (F : List Nat), st[i]? = some ((pfx ++ rest).map rowD) → (∀ x ∈ rest, x < 24) → vs 2 = some (.l f) → st[f]? = some (F.map rowD) → F.Pairwise (· < ·) → (∀ x ∈ F, x < 24) → F.length + rest.length ≤ 50 →
    ∃ vs' st' f', ∃ F' : List Nat, evFor fns (n + rest.length + 100) vs st 18 i pfx.length dBody = some (.next, vs', st') ∧ Kp st st' ∧ vs' 2 = some (.l f') ∧ st'[f']? = some (F'.map rowD) ∧ F'.Pairwise (· < ·) ∧ (∀ x ∈ F', x < 24) ∧ F'.length ≤ 50 ∧ ∀ x, x ∈ F' ↔ x ∈ F ∨ (x ∈ rest ∧ x ≠ 23)
  | [], pfx, n, vs, st, f, F, h, _, h2, hf, hp, hlt, hl => ⟨vs, st, f, F, g_end (n := n + 99) h (by simp), Kp.refl _, h2, hf, hp, hlt, by simpa using hl, fun x => by simp⟩
  | j :: rest, pfx, n, vs, st, f, F, h, hx, h2, hf, hp, hlt, hl => by
    have hj := hx j List.mem_cons_self
    have hrest : ∀ x ∈ rest, x < 24 := fun x hx' => hx x (List.mem_cons_of_mem _ hx')
    have v2 : upd vs 18 (.d (rowD j)) 2 = some (.l f) := h2
    have tne : evT fns (n + rest.length + 97) (upd vs 18 (.d (rowD j))) st (cmp .ne (idx (v 18) (ci 0)) (tup [cs "bottom"])) = some (!(j == 23), st) :=
      t_cmp (n := n + rest.length + 95) (e_idx (n := n + rest.length + 94) (e_v rfl) e_c Mine.i0 (xs := [kindD j, .str (txtD j), .str (whoD j)]) rfl rfl rfl) (e_tup (n := n + rest.length + 94) (es_cons e_c es_nil) rfl (by simp)) (ne_bottom hj)
    have tni : evT fns (n + rest.length + 97) (upd vs 18 (.d (rowD j))) st (cmp .notIn (v 18) (v 2)) = some (!decide (j ∈ F), st) :=
      t_cmp (n := n + rest.length + 95) (e_v rfl) (e_v v2) (notin_rows hf hlt hj)
    by_cases hadd : j = 23 ∨ j ∈ F
    · have test : evT fns (n + rest.length + 98) (upd vs 18 (.d (rowD j))) st (and (cmp .ne (idx (v 18) (ci 0)) (tup [cs "bottom"])) (cmp .notIn (v 18) (v 2))) = some (false, st) := by
        by_cases h23 : j = 23
        · exact t_and_f (tne.trans (by simp [h23]))
        · exact t_and_t (tne.trans (by simp [h23])) (tni.trans (by simp [hadd.resolve_left h23]))
      obtain ⟨vs', st', f', F', e, k, a, b, c, d, l, m⟩ := d_loop rest (pfx ++ [j]) n (upd vs 18 (.d (rowD j))) st f F (by simpa using h) hrest v2 hf hp hlt (by simp at hl ⊢; omega)
      rw [List.length_append, List.length_singleton] at e
      refine ⟨vs', st', f', F', g_turn (n := n + rest.length + 100) (d := rowD j) h (by simp) (b_cons (n := n + rest.length + 99) (z_if_f (n := n + rest.length + 98) test b_nil) b_nil) e, k, a, b, c, d, l, fun x => ?_⟩
      rw [m, List.mem_cons]
      constructor
      · rintro (q | ⟨q, q2⟩)
        · exact .inl q
        · exact .inr ⟨.inr q, q2⟩
      · rintro (q | ⟨rfl | q, q2⟩)
        · exact .inl q
        · exact .inl (hadd.resolve_left q2)
        · exact .inr ⟨q, q2⟩
    · have n1 : j ≠ 23 := fun q => hadd (.inl q)
      have n2 : j ∉ F := fun q => hadd (.inr q)
      have test : evT fns (n + rest.length + 98) (upd vs 18 (.d (rowD j))) st (and (cmp .ne (idx (v 18) (ci 0)) (tup [cs "bottom"])) (cmp .notIn (v 18) (v 2))) = some (true, st) :=
        t_and_t (tne.trans (by simp [n1])) (tni.trans (by simp [n2]))
      have hFl : F.length ≤ 50 := by simp at hl; omega
      have cmpl := comp_lt (f := f) hj F [] (n + rest.length + 94 - 8 - F.length) (upd vs 18 (.d (rowD j))) st [] (by simpa using hf) (by simp; omega) rfl hlt
      rw [show n + rest.length + 94 - 8 - F.length + F.length + 8 = n + rest.length + 94 by omega, List.length_nil, List.nil_append] at cmpl
      have e19 : evE fns (n + rest.length + 96) (upd vs 18 (.d (rowD j))) st (len (comp 20 (v 2) (some (cmp .lt (suf (v 20) (ci 1)) (suf (v 18) (ci 1)))) (v 20))) = some (.d (.int ((F.filter (· < j)).map rowD).length), st ++ [(F.filter (· < j)).map rowD]) :=
        e_len (n := n + rest.length + 95) (e_comp (n := n + rest.length + 94) (e_v v2) cmpl) get_last (by
          have := List.length_filter_le (fun x => decide (x < j)) F
          rw [List.length_map]; omega)
      obtain ⟨ip, im⟩ := ins_spec hp n2
      have hfl : (F.filter (· < j)).length ≤ F.length := List.length_filter_le _ _
      have hlen19 : (0 : Int) ≤ (((F.filter (· < j)).map rowD).length : Nat) ∧ ((((F.filter (· < j)).map rowD).length : Nat) : Int) < 2 ^ 62 := by rw [List.length_map]; omega
      have hmap : (F.map rowD).take ((((F.filter (· < j)).map rowD).length : Nat) : Int).toNat ++ [rowD j] ++ (F.map rowD).drop ((((F.filter (· < j)).map rowD).length : Nat) : Int).toNat = (ins F j).map rowD := by
        unfold ins
        simp [List.map_take, List.map_drop]
      have g1 : (st ++ [(F.filter (· < j)).map rowD])[f]? = some (F.map rowD) := get_app hf
      have e2 : ∃ st2, evE fns (n + rest.length + 95) (upd (upd vs 18 (.d (rowD j))) 19 (.d (.int ((F.filter (· < j)).map rowD).length))) (st ++ [(F.filter (· < j)).map rowD]) (bin .add (bin .add (pre (v 2) (v 19)) (lst [v 18])) (suf (v 2) (v 19))) = some (.l st2.length, st2 ++ [(ins F j).map rowD]) ∧ Kp st st2 := by
        have v2' : upd (upd vs 18 (.d (rowD j))) 19 (.d (.int ((F.filter (· < j)).map rowD).length)) 2 = some (.l f) := h2
        generalize hA : ((((F.filter (· < j)).map rowD).length : Nat) : Int) = A at *
        have hLF : (F.map rowD).length ≤ 50 := by rw [List.length_map]; exact hFl
        have e1 := e_binL (n := n + rest.length + 93) (xs := (F.map rowD).take A.toNat) (ys := [rowD j]) (e_pre (n := n + rest.length + 92) (e_v v2') (e_v (i := 19) (v := .d (.int A)) rfl) g1 ⟨hlen19.1, hlen19.2, by omega⟩) (e_lst (n := n + rest.length + 92) (ys := [rowD j]) (es_cons (e_v (i := 18) (v := .d (rowD j)) rfl) es_nil) rfl (by simp)) (get_app get_last) get_last (by
          rw [List.length_take, List.length_singleton]; omega)
        have e := e_binL (n := n + rest.length + 94) (ys := (F.map rowD).drop A.toNat) e1 (e_sufL (n := n + rest.length + 93) (e_v v2') (e_v (i := 19) (v := .d (.int A)) rfl) (get_app (get_app (get_app g1))) hlen19 (by omega)) (get_app get_last) get_last (by
          rw [List.length_append, List.length_singleton, List.length_drop, List.length_take]; omega)
        rw [hmap] at e
        exact ⟨_, e, ((((kp_app _ _).app _).app _).app _).app _⟩
      obtain ⟨st2, e2, k2⟩ := e2
      have hilen : (ins F j).length = F.length + 1 := by
        unfold ins
        simp
        omega
      obtain ⟨vs', st', f', F', e, k, a, b, c, d, l, m⟩ := d_loop rest (pfx ++ [j]) n (upd (upd (upd vs 18 (.d (rowD j))) 19 (.d (.int ((F.filter (· < j)).map rowD).length))) 2 (.l st2.length)) (st2 ++ [(ins F j).map rowD]) st2.length (ins F j)
        (by simpa using get_app (k2 _ _ h)) hrest rfl get_last ip (fun x hx' => by
          rcases (im x).mp hx' with q | rfl
          · exact hlt x q
          · exact hj) (by rw [hilen]; simp at hl; omega)
      rw [List.length_append, List.length_singleton] at e
      refine ⟨vs', st', f', F', g_turn (n := n + rest.length + 100) (d := rowD j) h (by simp) (b_cons (n := n + rest.length + 99) (z_if_t (n := n + rest.length + 98) test (b_cons (n := n + rest.length + 97) (z_asg e19) (b_cons (n := n + rest.length + 96) (z_asg e2) b_nil))) b_nil) e, (k2.app _).trans k, a, b, c, d, l, fun x => ?_⟩
      rw [m, im, List.mem_cons]
      constructor
      · rintro ((q | rfl) | ⟨q, q2⟩)
        · exact .inl q
        · exact .inr ⟨.inl rfl, n1⟩
        · exact .inr ⟨.inr q, q2⟩
      · rintro (q | ⟨rfl | q, q2⟩)
        · exact .inl (.inl q)
        · exact .inl (.inr rfl)
        · exact .inr ⟨q, q2⟩
end Mine
end

/-! # P10 -/
section
open PySem PySem.W PyProof.Rows
set_option maxRecDepth 100000
namespace Mine
open PE PS

theorem e_any {n : Nat} {vs : Vars} {st : Store} : evE fns (n + 8) vs st (tup [cs "name", cs "Any", tup []]) = some (.d anyD, st) :=
  e_tup (n := n + 7) (es_cons e_c (es_cons e_c (es_cons (e_tup (n := n + 3) es_nil rfl (by simp)) es_nil))) rfl (by simp)
theorem e_bot {n : Nat} {vs : Vars} {st : Store} : evE fns (n + 8) vs st (tup [cs "bottom"]) = some (.d bottomD, st) :=
  e_tup (n := n + 7) (es_cons e_c es_nil) rfl (by simp)

theorem due_ok {i0 : Nat} {is : List Nat} {st : Store} (h0 : st[i0]? = some (is.map rowD)) (hi : ∀ i ∈ is, i < 24) (hl : is.length ≤ 20) (n : Nat) :
    ∃ st', evF fns (n + 300) 11 [.l i0] st = some (.d (uni (S is)), st') ∧ Kp st st' := by
  have c1 := comp_rows (i := i0) is [] (n + 296 - 4 - is.length) (upd v0 17 (.l i0)) st [] (by simpa using h0) (by simp; omega)
  rw [show n + 296 - 4 - is.length + is.length + 4 = n + 296 by omega, List.length_nil, List.nil_append] at c1
  have a1 : evE fns (n + 297) (upd v0 17 (.l i0)) st (comp 18 (v 17) none (idx (v 18) (ci 0))) = some (.l st.length, st ++ [is.map kindD]) := e_comp (n := n + 296) (e_v rfl) c1
  have any_in : evT fns (n + 295) (upd (upd v0 17 (.l i0)) 0 (.l st.length)) (st ++ [is.map kindD]) (cmp .isIn (tup [cs "name", cs "Any", tup []]) (v 0)) = some (decide (0 ∈ is), st ++ [is.map kindD]) :=
    t_cmp (n := n + 293) (e_any (n := n + 285)) (e_v rfl) (by rw [← kind_any]; exact in_kinds get_last hi (by omega))
  have start : ∀ {r v st2}, Runs (n + 298) (upd (upd v0 17 (.l i0)) 0 (.l st.length)) (st ++ [is.map kindD]) r v st2 → Runs (n + 299) (upd v0 17 (.l i0)) st (asgC 0 (comp 18 (PE.v 17) none (idx (PE.v 18) (ci 0))) :: r) v st2 := fun k => r_asgC (n := n + 297) _ _ a1 k
  by_cases hz : 0 ∈ is
  · have hu : uni (S is) = anyD := if_pos (S_mem.mpr ⟨by omega, hz, by omega⟩)
    rw [hu]
    have any_in' : evT fns (n + 296) (upd (upd v0 17 (.l i0)) 0 (.l st.length)) (st ++ [is.map kindD]) (cmp .isIn (tup [cs "name", cs "Any", tup []]) (v 0)) = some (true, st ++ [is.map kindD]) :=
      t_cmp (n := n + 294) (e_any (n := n + 286)) (e_v rfl) (by rw [← kind_any, in_kinds get_last hi (by omega)]; simp [hz])
    exact ⟨_, f_run1 (n := n + 299) rfl (start (r_then (n := n + 296) _ any_in' (r_ret (n := n + 294) (e_any (n := n + 286))))), kp_app _ _⟩
  have any_f : evT fns (n + 296) (upd (upd v0 17 (.l i0)) 0 (.l st.length)) (st ++ [is.map kindD]) (cmp .isIn (tup [cs "name", cs "Any", tup []]) (v 0)) = some (false, st ++ [is.map kindD]) :=
    t_cmp (n := n + 294) (e_any (n := n + 286)) (e_v rfl) (by rw [← kind_any, in_kinds get_last hi (by omega)]; simp [hz])
  obtain ⟨vs', st2, f, F, e2, k2, v2, g2, hp, hlt, hF, hm⟩ := d_loop (i := i0) is [] (n + 294 - 100 - is.length) (upd (upd (upd v0 17 (.l i0)) 0 (.l st.length)) 2 (.l (st ++ [is.map kindD]).length)) (st ++ [is.map kindD] ++ [[]]) (st ++ [is.map kindD]).length [] (by rw [List.nil_append]; exact get_app (get_app h0)) hi rfl get_last List.Pairwise.nil (fun _ h => nomatch h) (by simp; omega)
  rw [show n + 294 - 100 - is.length + is.length + 100 = n + 294 by omega, List.length_nil] at e2
  have hFS : F = S is := strict_ext hp (S_lt is) fun x => by
    rw [hm, S_mem]
    constructor
    · rintro (q | ⟨q, q2⟩)
      · cases q
      · exact ⟨hi x q, q, q2⟩
    · rintro ⟨_, q, q2⟩
      exact .inr ⟨q, q2⟩
  have hz' : 0 ∉ F := fun q => by rw [hFS, S_mem] at q; exact hz q.2.1
  have loop : ∀ {r v st3}, Runs (n + 295) vs' st2 r v st3 → Runs (n + 298) (upd (upd v0 17 (.l i0)) 0 (.l st.length)) (st ++ [is.map kindD])
      (ifs (cmp .isIn (tup [cs "name", cs "Any", tup []]) (PE.v 0)) [ret (tup [cs "name", cs "Any", tup []])] [] :: asg 2 (lst []) :: forL 18 (PE.v 17) dBody :: r) v st3 := fun k =>
    r_skip (n := n + 295) _ any_f (r_asg (n := n + 295) _ _ (e_lst es_nil rfl (by decide)) (r_forL (n := n + 294) (e_v rfl) e2 k))
  have k3 : Kp st st2 := ((kp_app _ _).app _).trans k2
  have emp : evT fns (n + 293) vs' st2 (cmp .eq (v 2) (lst [])) = some ((F.map rowD).isEmpty, st2 ++ [[]]) := t_cmp (n := n + 291) (e_v v2) (e_lst es_nil rfl (by decide)) (eq_nil_l (get_app g2) get_last (rows_ok hlt) (by omega))
  rw [← hFS]
  cases F with
  | nil => exact ⟨_, f_run1 (n := n + 299) rfl (start (loop (r_then (n := n + 293) _ emp (r_ret (n := n + 291) (e_bot (n := n + 283)))))), k3.app _⟩
  | cons i F' =>
    have emp' : evT fns (n + 293) vs' st2 (cmp .eq (v 2) (lst [])) = some (false, st2 ++ [[]]) := emp
    have g3 : (st2 ++ [[]])[f]? = some ((i :: F').map rowD) := get_app g2
    cases F' with
    | nil =>
      have hu : uni [i] = kindD i := if_neg hz'
      rw [hu]
      exact ⟨_, f_run1 (n := n + 299) rfl (start (loop (r_skip (n := n + 292) _ emp' (r_ret (n := n + 292) (e_ite_t (n := n + 291) (by
        have := t_cmp (n := n + 289) (vs := vs') (st := st2 ++ [[]]) (o := .eq) (b := ci 1) (e_len (e_v v2) g3 (by simp)) e_c eq_int
        exact this) (e_idx (n := n + 290) (e_idx (n := n + 289) (e_v v2) e_c Mine.i0 (xs := [rowD i]) g3 rfl rfl) e_c Mine.i0 (xs := [kindD i, .str (txtD i), .str (whoD i)]) rfl rfl rfl)))))), k3.app _⟩
    | cons j F'' =>
      have hu : uni (i :: j :: F'') = nodeD ((i :: j :: F'').map kindD) := if_neg hz'
      rw [hu]
      have c2 := comp_rows (i := f) (i :: j :: F'') [] (n + 286 - 4 - (i :: j :: F'').length) vs' (st2 ++ [[]]) [] (by simpa using g3) (by simp at hF ⊢; omega)
      rw [show n + 286 - 4 - (i :: j :: F'').length + (i :: j :: F'').length + 4 = n + 286 by omega, List.length_nil, List.nil_append] at c2
      refine ⟨_, f_run1 (n := n + 299) rfl (start (loop (r_skip (n := n + 292) _ emp' (r_ret (n := n + 292) (e_ite_f (n := n + 291) (by
        have := t_cmp (n := n + 289) (vs := vs') (st := st2 ++ [[]]) (o := .eq) (b := ci 1) (e_len (e_v v2) g3 (by simp at hF ⊢; omega)) e_c eq_int
        rw [this]
        congr 2) (e_tup (n := n + 290) (es_cons e_c (es_cons (e_tuple (n := n + 287) (e_comp (n := n + 286) (e_v v2) c2) get_last (by simp at hF ⊢; omega)) es_nil)) rfl (by simp))))))), (k3.app _).app _⟩
end Mine
end

/-! # P11 -/
section
open PySem PySem.W PyProof.Rows
set_option maxRecDepth 100000
namespace Mine
open PE PS

theorem FS.append : ∀ {a : List PyData} {is : List Nat} {m : Nat}, FS a is m → ∀ {b : List PyData} {js : List Nat} {k : Nat}, FS b js k → FS (a ++ b) (is ++ js) (m + k)
  | _, _, _, .nil, b, js, k, h => by simpa using h
  | _, _, _, .leaf (s := s) (is := is) (m := m) hi hs, b, js, k, h => by
    rw [show m + 1 + k = (m + k) + 1 by omega]
    exact .leaf hi (hs.append h)
  | _, _, _, .node (ds := ds) (s := s) (m := m) hs, b, js, k, h => by
    rw [show m + 1 + k = (m + k) + 1 by omega]
    refine .node ?_
    have := hs.append h
    rw [List.append_assoc] at this
    exact this
theorem FS.split {c : List PyData} {is : List Nat} {m : Nat} (h : FS c is m) : ∀ (a b : List PyData), c = a ++ b → ∃ is1 is2 m1 m2, FS a is1 m1 ∧ FS b is2 m2 ∧ is = is1 ++ is2 ∧ m = m1 + m2 := by
  induction h with
  | nil =>
    intro a b e
    obtain ⟨rfl, rfl⟩ := List.append_eq_nil_iff.mp e.symm
    exact ⟨[], [], 0, 0, .nil, .nil, rfl, rfl⟩
  | leaf hi hs ih =>
    rename_i i s is m
    intro a b e
    cases a with
    | nil => exact ⟨[], _, 0, _, .nil, by rw [List.nil_append] at e; exact e ▸ .leaf hi hs, rfl, (Nat.zero_add _).symm⟩
    | cons x a =>
      rw [List.cons_append, List.cons.injEq] at e
      obtain ⟨rfl, e⟩ := e
      obtain ⟨is1, is2, m1, m2, h1, h2, e1, e2⟩ := ih a b e
      exact ⟨i :: is1, is2, m1 + 1, m2, .leaf hi h1, h2, by rw [e1]; rfl, by omega⟩
  | node hs ih =>
    rename_i ds s is m
    intro a b e
    cases a with
    | nil => exact ⟨[], _, 0, _, .nil, by rw [List.nil_append] at e; exact e ▸ .node hs, rfl, (Nat.zero_add _).symm⟩
    | cons x a =>
      rw [List.cons_append, List.cons.injEq] at e
      obtain ⟨rfl, e⟩ := e
      obtain ⟨is1, is2, m1, m2, h1, h2, e1, e2⟩ := ih (ds ++ a) b (by rw [e, List.append_assoc])
      exact ⟨is1, is2, m1 + 1, m2, .node h1, h2, e1, by omega⟩
theorem FS.rev : ∀ {ts : List PyData} {is : List Nat} {m : Nat}, FS ts is m → ∃ is', FS ts.reverse is' m ∧ ∀ x, x ∈ is' ↔ x ∈ is
  | [], _, _, h => ⟨_, h, fun _ => Iff.rfl⟩
  | t :: ts, is, m, h => by
    obtain ⟨is1, is2, m1, m2, h1, h2, rfl, rfl⟩ := h.split [t] ts rfl
    obtain ⟨is', h3, hm⟩ := h2.rev
    refine ⟨is' ++ is1, by rw [List.reverse_cons, Nat.add_comm]; exact h3.append h1, fun x => ?_⟩
    rw [List.mem_append, List.mem_append, hm]; exact or_comm
theorem FS.kinds : ∀ {is : List Nat}, (∀ i ∈ is, i < 24) → FS (is.map kindD) is is.length
  | [], _ => .nil
  | i :: is, h => .leaf (h i List.mem_cons_self) (FS.kinds fun j hj => h j (List.mem_cons_of_mem _ hj))

inductive DueIs (js : List Nat) : PyData → Prop
  | kind {i : Nat} : i < 24 → uni (S [i]) = kindD i → DueIs js (kindD i)
  | node {F : List Nat} : (∀ i ∈ F, i < 24) → F.length ≤ 24 → uni (S F) = nodeD (F.map kindD) → DueIs js (nodeD (F.map kindD))
theorem uni_one {i : Nat} (hi : i < 24) : uni (S [i]) = kindD i := by
  by_cases h23 : i = 23
  · subst h23
    have : S [23] = [] := by decide +kernel
    rw [this]; rfl
  · have : S [i] = [i] := strict_ext (S_lt _) (by simp) fun x => by
      rw [S_mem]
      simp only [List.mem_singleton]
      constructor
      · exact fun h => h.2.1
      · rintro rfl; exact ⟨hi, rfl, h23⟩
    rw [this]
    by_cases h0 : i = 0
    · subst h0; rfl
    · exact if_neg (by simpa using fun q => h0 q.symm)
theorem due_is (js : List Nat) : DueIs js (uni (S js)) := by
  by_cases hz : 0 ∈ S js
  · have e : uni (S js) = kindD 0 := if_pos hz
    rw [e]
    exact DueIs.kind (by omega) (uni_one (by omega))
  · cases hS : S js with
    | nil =>
      have e : uni ([] : List Nat) = kindD 23 := rfl
      rw [e]
      exact DueIs.kind (by omega) (uni_one (by omega))
    | cons i F =>
      have hlt : ∀ x ∈ i :: F, x < 24 := fun x hx => (S_mem.mp (hS ▸ hx)).1
      rw [hS] at hz
      cases F with
      | nil =>
        have e : uni [i] = kindD i := if_neg hz
        rw [e]
        exact DueIs.kind (hlt i List.mem_cons_self) (uni_one (hlt i List.mem_cons_self))
      | cons j F =>
        have e : uni (i :: j :: F) = nodeD ((i :: j :: F).map kindD) := if_neg hz
        rw [e]
        refine DueIs.node hlt (by rw [← hS]; exact S_len js) ?_
        rw [← hS, S_S, hS]
        exact e

theorem due_fs {js : List Nat} {D : PyData} (h : DueIs js D) : ∃ ks k, FS [D] ks k ∧ k ≤ 25 ∧ uni (S ks) = D ∧ OkL 12 [D] := by
  cases h with
  | kind hi e => exact ⟨_, 1, .leaf hi .nil, by omega, e, fun d hd => by rw [List.mem_singleton.mp hd]; have := kind_ok _ hi; exact ⟨this.1, by omega⟩⟩
  | node hF hl e =>
    refine ⟨_, _, .node (by rw [List.append_nil]; exact FS.kinds hF), by omega, e, fun d hd => by rw [List.mem_singleton.mp hd]; exact node_ok (kinds_ok hF)⟩

theorem ne_self {st : Store} {D : PyData} {k : Nat} (h : OkL k [D]) (hk : k ≤ 60) : cmpop .ne st (.d D) (.d D) = some false := by
  have h1 := h D List.mem_cons_self
  have hs : shapedV D = true := by
    show SeqAt.shaped _ = true
    unfold SeqAt.shaped
    rw [Bool.and_eq_true]
    exact ⟨h1.1, decide_eq_true (by omega)⟩
  simp only [cmpop, datOf, hs, Bool.and_self, if_true, PySem.SeqAt.eqv_refl D h1.1, Bool.not_true]
theorem eq_lists {st : Store} {i j k : Nat} {xs : List PyData} (h1 : st[i]? = some xs) (h2 : st[j]? = some xs) (h : OkL k xs) (hk : k ≤ 60) : cmpop .eq st (.l i) (.l j) = some true := by
  have hr : PyData.eqv (.list xs) (.list xs) = true := PySem.SeqAt.eqv_refl _ (by simpa only [PyData.canLay0] using h.all.1)
  simp only [cmpop, datOf, h1, h2, Option.map_some, h.shaped hk, Bool.and_self, if_true, hr]
theorem eq_bottom {st : Store} {i : Nat} (hi : i < 24) : cmpop .eq st (.d (kindD i)) (.d bottomD) = some (i == 23) := by
  have h := kind_shaped i hi
  have h2 := kind_shaped 23 (by omega)
  have h3 := kind_eqv hi (show 23 < 24 by omega)
  rw [← kind_bottom]
  simp only [cmpop, datOf, h, h2, Bool.and_self, if_true, h3]
theorem node_bottom {st : Store} {ds : List PyData} {k : Nat} (h : OkL k [nodeD ds]) (hk : k ≤ 60) : cmpop .eq st (.d (nodeD ds)) (.d bottomD) = some false := by
  have h1 := h _ List.mem_cons_self
  have hs : shapedV (nodeD ds) = true := by
    show SeqAt.shaped _ = true
    unfold SeqAt.shaped
    rw [Bool.and_eq_true]
    exact ⟨h1.1, decide_eq_true (by omega)⟩
  have h2 := kind_shaped 23 (by omega)
  rw [kind_bottom] at h2
  have h3 : PyData.eqv (nodeD ds) bottomD = false := by
    show PyData.eqv (.tuple [.str (Str.ofString "union"), .tuple ds]) (.tuple [.str (Str.ofString "bottom")]) = false
    simp only [PyData.eqv, PyData.eqvAll, Bool.and_false]
  simp only [cmpop, datOf, hs, h2, Bool.and_self, if_true, h3]

/-- members_of, and the law's own word for it -/
theorem members_ok {js : List Nat} {D : PyData} (h : DueIs js D) : ∃ xs, OkL 20 xs ∧ (∀ (n : Nat) (st : Store), ∃ st' i, evF fns (n + 30) 1 [.d D] st = some (.l i, st') ∧ Kp st st' ∧ st'[i]? = some xs) ∧
    (∀ (n : Nat) (vs : Vars) (st : Store), vs 21 = some (.d D) → ∃ st' i, evE fns (n + 30) vs st (ite (cmp .eq (v 21) (tup [cs "bottom"])) (lst []) (ite (cmp .eq (idx (v 21) (ci 0)) (cs "union")) (list (idx (v 21) (ci 1))) (lst [v 21]))) = some (.l i, st') ∧ Kp st st' ∧ st'[i]? = some xs) := by
  cases h with
  | @kind i hi e =>
    obtain ⟨x, rest, hx, hux, hsx⟩ := kind_head i hi
    have hpl : place (.str x :: rest : List PyData).length 0 = some 0 := by simp [place]
    by_cases h23 : i = 23
    · refine ⟨[], (fun _ h => nomatch h), fun n st => ⟨_, _, f_run1 (n := n + 29) rfl (r_then (n := n + 27) _ (t_cmp (n := n + 25) (e_v rfl) (e_g rfl) ((eq_bottom hi).trans (by simp [h23]))) (r_ret (n := n + 25) (e_lst es_nil rfl (by simp)))), kp_app _ _, get_last⟩, fun n vs st h21 => ?_⟩
      exact ⟨_, _, e_ite_t (n := n + 29) (t_cmp (n := n + 27) (e_v h21) (e_bot (n := n + 19)) ((eq_bottom hi).trans (by simp [h23]))) (e_lst es_nil rfl (by simp)), kp_app _ _, get_last⟩
    · refine ⟨[kindD i], fun d hd => by rw [List.mem_singleton.mp hd]; have := kind_ok i hi; exact ⟨this.1, by omega⟩, fun n st => ?_, fun n vs st h21 => ?_⟩
      · exact ⟨_, _, f_run1 (n := n + 29) rfl (r_skip (n := n + 26) _ (t_cmp (n := n + 25) (e_v rfl) (e_g rfl) ((eq_bottom hi).trans (by simp [h23]))) (r_ret (n := n + 26) (e_ite_f (n := n + 25) (t_cmp (n := n + 23) (e_idx (n := n + 22) (e_v rfl) e_c Mine.i0 (xs := .str x :: rest) (by rw [hx]; rfl) hpl rfl) e_c (cmp_str hsx sh_union hux)) (e_lst (es_cons (e_v rfl) es_nil) rfl (by simp))))), kp_app _ _, get_last⟩
      · exact ⟨_, _, e_ite_f (n := n + 29) (t_cmp (n := n + 27) (e_v h21) (e_bot (n := n + 19)) ((eq_bottom hi).trans (by simp [h23]))) (e_ite_f (n := n + 28) (t_cmp (n := n + 26) (e_idx (n := n + 25) (e_v h21) e_c Mine.i0 (xs := .str x :: rest) (by rw [hx]; rfl) hpl rfl) e_c (cmp_str hsx sh_union hux)) (e_lst (es_cons (e_v h21) es_nil) rfl (by simp))), kp_app _ _, get_last⟩
  | @node F hF hl e =>
    have hok : OkL 12 [nodeD (F.map kindD)] := fun d hd => by rw [List.mem_singleton.mp hd]; exact node_ok (kinds_ok hF)
    have hFl : (F.map kindD).length ≤ 1000000 := by rw [List.length_map]; omega
    refine ⟨F.map kindD, (kinds_ok hF).mono (by omega), fun n st => ?_, fun n vs st h21 => ?_⟩
    · exact ⟨_, _, f_run1 (n := n + 29) rfl (r_skip (n := n + 26) _ (t_cmp (n := n + 25) (e_v rfl) (e_g rfl) (node_bottom hok (by omega))) (r_ret (n := n + 26) (e_ite_t (n := n + 25) (t_cmp (n := n + 23) (e_idx (n := n + 22) (e_v rfl) e_c Mine.i0 rfl rfl rfl) e_c (cmp_str sh_union sh_union q_union_union)) (e_list (n := n + 24) (e_idx (n := n + 23) (e_v rfl) e_c i1 rfl rfl rfl) rfl hFl)))), kp_app _ _, get_last⟩
    · exact ⟨_, _, e_ite_f (n := n + 29) (t_cmp (n := n + 27) (e_v h21) (e_bot (n := n + 19)) (node_bottom hok (by omega))) (e_ite_t (n := n + 28) (t_cmp (n := n + 26) (e_idx (n := n + 25) (e_v h21) e_c Mine.i0 rfl rfl rfl) e_c (cmp_str sh_union sh_union q_union_union)) (e_list (n := n + 27) (e_idx (n := n + 26) (e_v h21) e_c i1 rfl rfl rfl) rfl hFl)), kp_app _ _, get_last⟩
end Mine
end

/-! # P12 -/
section
open PySem PySem.W PyProof.Rows
set_option maxRecDepth 100000
namespace Mine
open PE PS

theorem union_at {i0 : Nat} {ts : List PyData} {is : List Nat} {m : Nat} {st : Store} (N : Nat) (hN : m + 300 ≤ N) (h0 : st[i0]? = some ts) (hs : FS ts is m) (hm : m ≤ 100) (hok : OkL 60 ts) : ∃ st', evF fns N 0 [.l i0] st = some (.d (uni (S is)), st') ∧ Kp st st' := by
  have := union_ok h0 hs hm hok (N - m - 300)
  rw [show N - m - 300 + m + 300 = N by omega] at this
  exact this

theorem is_right_ok {i j : Nat} {ts : List PyData} {is js : List Nat} {m : Nat} {st : Store} (h1 : st[i]? = some ts) (hs : FS ts is m) (hm : m ≤ 40) (hok : OkL 60 ts) (h2 : st[j]? = some (js.map rowD)) (hj : ∀ x ∈ js, x < 24) (hl : js.length ≤ 20) (hS : S is = S js) (n : Nat) :
    ∃ st', evF fns (n + 400) 12 [.l i, .l j] st = some (.d (.bool true), st') ∧ Kp st st' := by
  obtain ⟨st1, e1, k1⟩ := due_ok h2 hj hl (n + 96)
  have hD := due_is js
  have huD : uni (S is) = uni (S js) := by rw [hS]
  obtain ⟨is', hrev, hmem⟩ := hs.rev
  have huR : uni (S is') = uni (S js) := by rw [S_ext hmem, hS]
  generalize uni (S js) = D at hD e1 huD huR
  obtain ⟨ks, k, hfd, hk, huk, hokD⟩ := due_fs hD
  obtain ⟨xs, hxs, hm1, hm2⟩ := members_ok hD
  have tl := hs.len.1
  -- the three questions
  obtain ⟨st2, e2, k2⟩ := union_at (n + 392) (by omega) (k1 _ _ h1) hs (by omega) hok
  have g2 : st2[i]? = some ts := k2 _ _ (k1 _ _ h1)
  obtain ⟨st4, e4, k4⟩ := union_at (st := st2 ++ [ts.reverse]) (i0 := st2.length) (n + 391) (by omega) get_last hrev (by omega) (hok.mem fun e he => List.mem_reverse.mp he)
  obtain ⟨st5, e5, k5⟩ := union_at (st := st4 ++ [[D]]) (i0 := st4.length) (n + 391) (by omega) get_last hfd (by omega) (hokD.mono (by omega))
  rw [huD] at e2
  rw [huR] at e4
  rw [huk] at e5
  obtain ⟨st6, a, e6, k6, g6⟩ := hm1 (n + 363) st5
  obtain ⟨st7, b, e7, k7, g7⟩ := hm2 (n + 364) (upd (upd (upd v0 11 (.l i)) 17 (.l j)) 21 (.d D)) st6 rfl
  refine ⟨st7, f_run2 (n := n + 399) rfl (r_asg (n := n + 397) (.d D) st1 (e_call (n := n + 396) (es_cons (n := n + 395) (e_v rfl) es_nil) e1)
    (r_skip (n := n + 395) st5 (t_or3_f (n := n + 394) (t_cmp (n := n + 393) (e_call (n := n + 392) (es_cons (n := n + 391) (e_v rfl) es_nil) e2) (e_v rfl) (ne_self hokD (by omega)))
        (t_cmp (n := n + 392) (e_call (n := n + 391) (es_cons (n := n + 390) (e_revL (n := n + 389) (e_v rfl) g2 (by omega)) es_nil) e4) (e_v rfl) (ne_self hokD (by omega)))
        (t_cmp (n := n + 392) (e_call (n := n + 391) (es_cons (n := n + 390) (e_lst (n := n + 389) (es_cons (n := n + 388) (e_v rfl) es_nil) rfl (by simp)) es_nil) e5) (e_v rfl) (ne_self hokD (by omega))))
      (r_ret (n := n + 395) (e_cmp (n := n + 394) (e_call (n := n + 393) (es_cons (n := n + 392) (e_v rfl) es_nil) e6) e7 (eq_lists (k7 _ _ g6) g7 hxs (by omega)))))), ?_⟩
  exact ((((((k1.trans k2).app _).trans k4).app _).trans k5).trans k6).trans k7
end Mine
end

/-! # P13 -/
section
open PySem PySem.W PyProof.Rows
set_option maxRecDepth 100000
namespace Mine
open PE PS

theorem b_mul {x y : Int} (h : y.natAbs < 2 ^ 63) : binop .mul (.int x) (.int y) = some (.int (x * y)) := by simp only [binop]; rw [if_pos (.inr h)]
theorem b_mul' {x y : Int} (h : x.natAbs < 2 ^ 63) : binop .mul (.int x) (.int y) = some (.int (x * y)) := by simp only [binop]; rw [if_pos (.inl h)]
theorem b_mod {x y : Int} (h : y ≠ 0) : binop .mod (.int x) (.int y) = some (.int (x.fmod y)) := by simp only [binop]; rw [if_pos h]
theorem b_fdiv {x y : Int} (h : y ≠ 0) (h2 : y.natAbs < 1073741824) : binop .fdiv (.int x) (.int y) = some (.int (x.fdiv y)) := by simp only [binop]; rw [if_pos ⟨h, h2⟩]
theorem b_pow : binop .pow (.int 10) (.int 15) = some (.int 1000000000000000) := by
  simp only [binop]
  rw [if_pos (by decide)]
  rfl
theorem gt_int {st : Store} {a b : Int} : cmpop .gt st (.d (.int a)) (.d (.int b)) = some (decide (a > b)) := rfl
theorem ge_int' {st : Store} {a b : Int} : cmpop .ge st (.d (.int a)) (.d (.int b)) = some (decide (a ≥ b)) := rfl
theorem lt_int' {st : Store} {a b : Int} : cmpop .lt st (.d (.int a)) (.d (.int b)) = some (decide (a < b)) := rfl
theorem fmod_range {x y : Int} (h : 1 ≤ y) : 0 ≤ x.fmod y ∧ x.fmod y < y := by
  rw [Int.fmod_eq_emod_of_nonneg _ (by omega)]
  exact ⟨Int.emod_nonneg _ (by omega), Int.emod_lt_of_pos _ (by omega)⟩
theorem fdiv_nonneg' {x y : Int} (hx : 0 ≤ x) (h : 1 ≤ y) : 0 ≤ x.fdiv y := by
  rw [Int.fdiv_eq_ediv_of_nonneg _ (by omega)]
  exact Int.ediv_nonneg hx (by omega)

/-- the two numbers of the trunk -/
def Trk (st : Store) (t : Nat) : Prop := ∃ a b : Int, st[t]? = some [.int a, .int b] ∧ 0 ≤ a ∧ 0 ≤ b ∧ b < 2147483399
/-- all lists but one are kept -/
def KpX (t : Nat) (st st' : Store) : Prop := ∀ (i : Nat) xs, i ≠ t → st[i]? = some xs → st'[i]? = some xs
theorem KpX.refl (t : Nat) (st : Store) : KpX t st st := fun _ _ _ e => e
theorem KpX.trans {t : Nat} {a b c : Store} (h : KpX t a b) (k : KpX t b c) : KpX t a c := fun i xs hi e => k i xs hi (h i xs hi e)
theorem KpX.app {t : Nat} {a b : Store} (h : KpX t a b) (x : Store) : KpX t a (b ++ x) := fun i xs hi e => get_app (h i xs hi e)
theorem Kp.x {a b : Store} (h : Kp a b) (t : Nat) : KpX t a b := fun i xs _ e => h i xs e
theorem KpX.set (t : Nat) (st : Store) (ys : List PyData) : KpX t st (st.set t ys) := fun i xs hi e => by rw [List.getElem?_set_ne (Ne.symm hi)]; exact e
theorem Trk.app {st : Store} {t : Nat} (h : Trk st t) (x : Store) : Trk (st ++ x) t := let ⟨a, b, e, r⟩ := h; ⟨a, b, get_app e, r⟩
theorem j0 : -(2 ^ 62) ≤ (0 : Int) ∧ (0 : Int) < 2 ^ 62 := by decide
theorem j1 : -(2 ^ 62) ≤ (1 : Int) ∧ (1 : Int) < 2 ^ 62 := by decide

theorem pull_ok {t : Nat} {st : Store} {m : Int} (h : Trk st t) (hm : 1 ≤ m) (hm2 : m ≤ 100) (n : Nat) : ∃ r st', evF fns (n + 30) 8 [.l t, .d (.int m)] st = some (.d (.int r), st') ∧ 0 ≤ r ∧ r < m ∧ Trk st' t ∧ KpX t st st' ∧ st'.length = st.length := by
  obtain ⟨a, b, h, ha, hb, hb2⟩ := h
  have ht := (List.getElem?_eq_some_iff.mp h).1
  by_cases h1 : a > 0
  · have hs1 : (st.set t [.int (a.fdiv m), .int b])[t]? = some [.int (a.fdiv m), .int b] := List.getElem?_set_self ht
    refine ⟨a.fmod m, st.set t [.int (a.fdiv m), .int b], f_run2 (n := n + 29) rfl (r_then (n := n + 27) _ (t_cmp (n := n + 25) (e_idx (n := n + 24) (e_v rfl) e_c Mine.i0 h rfl rfl) e_c (gt_int.trans (by simp [h1])))
      (r_asg (n := n + 25) _ _ (e_bin (n := n + 24) (e_idx (n := n + 23) (e_v rfl) e_c Mine.i0 h rfl rfl) (e_v rfl) (b_mod (by omega)))
        (r_put (n := n + 24) (e_bin (n := n + 23) (e_idx (n := n + 22) (e_v rfl) e_c Mine.i0 h rfl rfl) (e_v rfl) (b_fdiv (by omega) (by omega))) (e_v rfl) e_c h j0 rfl
          (r_ret (n := n + 23) (e_v rfl))))), (fmod_range hm).1, (fmod_range hm).2, ⟨_, _, hs1, fdiv_nonneg' ha hm, hb, hb2⟩, KpX.set _ _ _, by simp⟩
  · have sk1 : evT fns (n + 27) (upd (upd v0 13 (.l t)) 14 (.d (.int m))) st (cmp .gt (idx (v 13) (ci 0)) (ci 0)) = some (false, st) := t_cmp (n := n + 25) (e_idx (n := n + 24) (e_v rfl) e_c Mine.i0 h rfl rfl) e_c (gt_int.trans (by simp [h1]))
    by_cases h2 : b = 0
    · refine ⟨0, st, f_run2 (n := n + 29) rfl (r_skip (n := n + 26) st sk1 (r_then (n := n + 26) _ (t_cmp (n := n + 24) (e_idx (n := n + 23) (e_v rfl) e_c i1 h rfl rfl) e_c (eq_int.trans (by simp [h2]))) (r_ret (n := n + 24) e_c))), by omega, by omega, ⟨a, b, h, ha, hb, hb2⟩, KpX.refl _ _, rfl⟩
    · have hs1 : (st.set t [.int a, .int ((b * 40692 + 97).fmod 2147483399)])[t]? = some [.int a, .int ((b * 40692 + 97).fmod 2147483399)] := List.getElem?_set_self ht
      have hr := fmod_range (x := b * 40692 + 97) (y := 2147483399) (by omega)
      refine ⟨(((b * 40692 + 97).fmod 2147483399).fdiv 32).fmod m, st.set t [.int a, .int ((b * 40692 + 97).fmod 2147483399)], f_run2 (n := n + 29) rfl (r_skip (n := n + 26) st sk1 (r_skip (n := n + 25) st (t_cmp (n := n + 24) (e_idx (n := n + 23) (e_v rfl) e_c i1 h rfl rfl) e_c (eq_int.trans (by simp [h2])))
        (r_put (n := n + 25) (e_bin (n := n + 24) (e_bin (n := n + 23) (e_bin (n := n + 22) (e_idx (n := n + 21) (e_v rfl) e_c i1 h rfl rfl) e_c (b_mul (by decide))) e_c rfl) e_c (b_mod (by decide))) (e_v rfl) e_c h j1 rfl
          (r_ret (n := n + 24) (e_bin (n := n + 23) (e_bin (n := n + 22) (e_idx (n := n + 21) (e_v rfl) e_c i1 hs1 rfl rfl) e_c (b_fdiv (by decide) (by decide))) (e_v rfl) (b_mod (by omega))))))), (fmod_range hm).1, (fmod_range hm).2, ⟨_, _, hs1, ha, hr.1, hr.2⟩, KpX.set _ _ _, by simp⟩

theorem one_ok {t q : Nat} {st : Store} {xs : List PyData} (h : Trk st t) (hq : st[q]? = some xs) (hne : q ≠ t) (h1 : 1 ≤ xs.length) (h2 : xs.length ≤ 20) (n : Nat) :
    ∃ (r : Nat) (x : PyData) (st' : Store), evF fns (n + 40) 9 [.l t, .l q] st = some (.d x, st') ∧ xs[r]? = some x ∧ Trk st' t ∧ KpX t st st' := by
  obtain ⟨z, st', e, z0, z1, ht, hk, _⟩ := pull_ok (m := (xs.length : Int)) h (by omega) (by omega) (n + 5)
  have hz : z.toNat < xs.length := by omega
  refine ⟨z.toNat, xs[z.toNat], st', f_run2 (n := n + 39) rfl (r_ret (n := n + 37) (e_idx (n := n + 36) (e_v rfl) (e_call (n := n + 35) (es_cons (n := n + 34) (e_v rfl) (es_cons (n := n + 33) (e_len (n := n + 32) (e_v rfl) hq (by omega)) es_nil)) e) (by omega) (xs := xs) (j := z.toNat) (hk q xs hne hq) (by
    unfold place
    rw [if_pos z0, if_pos z1]) (List.getElem?_eq_getElem hz))), List.getElem?_eq_getElem hz, ht, hk⟩
end Mine
end

/-! # P14 -/
section
open PySem PySem.W PyProof.Rows
set_option maxRecDepth 100000
namespace Mine
open PE PS

theorem trunk_ok (n : Nat) (st : Store) (xs : List Int) (hx : xs.length ≤ 63) : ∃ i st', evF fns (n + 60) 7 [.fz (xs.map .int)] st = some (.l i, st') ∧ Kp st st' ∧ Trk st' i ∧ st.length ≤ i := by
  have told : ∃ z : Int, evE fns (n + 57) (upd v0 10 (.fz (xs.map .int))) st (ite (cmp .gt (len (v 10)) (ci 0)) (idx (v 10) (ci 0)) (ci 0)) = some (.d (.int z), st) := by
    cases xs with
    | nil => exact ⟨0, e_ite_f (n := n + 56) (t_cmp (n := n + 54) (e_len (n := n + 53) (e_v rfl) (xs := []) rfl (by simp)) e_c gt_int) e_c⟩
    | cons z r => exact ⟨z, e_ite_t (n := n + 56) (t_cmp (n := n + 54) (e_len (n := n + 53) (e_v rfl) (xs := (z :: r).map .int) rfl (by simp at hx ⊢; omega)) e_c (gt_int.trans (by simp))) (e_idx (n := n + 55) (e_v rfl) e_c Mine.i0 (xs := (z :: r).map .int) rfl (j := 0) (by simp [place]) rfl)⟩
  obtain ⟨z, hz⟩ := told
  have size : ∃ y : Int, 0 ≤ y ∧ evE fns (n + 56) (upd (upd v0 10 (.fz (xs.map .int))) 11 (.d (.int z))) st (ite (cmp .ge (v 11) (ci 0)) (v 11) (bin .sub (ci 31) (bin .mul (ci 2) (v 11)))) = some (.d (.int y), st) := by
    by_cases h : z ≥ 0
    · exact ⟨z, h, e_ite_t (n := n + 55) (t_cmp (n := n + 53) (e_v rfl) e_c (ge_int'.trans (by simp [h]))) (e_v rfl)⟩
    · exact ⟨31 - 2 * z, by omega, e_ite_f (n := n + 55) (t_cmp (n := n + 53) (e_v rfl) e_c (ge_int'.trans (by simp [h]))) (e_bin (n := n + 54) e_c (e_bin (n := n + 53) e_c (e_v rfl) (b_mul' (by decide))) rfl)⟩
  obtain ⟨y, hy0, hy⟩ := size
  by_cases h0 : z = 0
  · refine ⟨st.length, st ++ [[.int 0, .int 0]], f_run1 (n := n + 59) rfl (r_asg (n := n + 57) _ _ hz (r_asg (n := n + 56) _ _ hy (r_then (n := n + 55) st (t_cmp (n := n + 53) (e_v rfl) e_c (eq_int.trans (by simp [h0]))) (r_ret (n := n + 53) (e_lst (n := n + 52) (es_cons (n := n + 51) e_c (es_cons (n := n + 50) e_c es_nil)) rfl (by simp)))))), kp_app _ _, ⟨0, 0, get_last, by omega, by omega, by omega⟩, Nat.le_refl _⟩
  · have sk : evT fns (n + 55) (upd (upd (upd v0 10 (.fz (xs.map .int))) 11 (.d (.int z))) 12 (.d (.int y))) st (cmp .eq (v 11) (ci 0)) = some (false, st) := t_cmp (n := n + 53) (e_v rfl) e_c (eq_int.trans (by simp [h0]))
    have ea : ∃ a : Int, 0 ≤ a ∧ evE fns (n + 52) (upd (upd (upd v0 10 (.fz (xs.map .int))) 11 (.d (.int z))) 12 (.d (.int y))) st (ite (cmp .ge (v 12) (bin .pow (ci 10) (ci 15))) (v 12) (ci 0)) = some (.d (.int a), st) := by
      by_cases h : y ≥ 1000000000000000
      · exact ⟨y, hy0, e_ite_t (n := n + 51) (t_cmp (n := n + 49) (e_v rfl) (e_bin (n := n + 48) e_c e_c b_pow) (ge_int'.trans (by simp [h]))) (e_v rfl)⟩
      · exact ⟨0, by omega, e_ite_f (n := n + 51) (t_cmp (n := n + 49) (e_v rfl) (e_bin (n := n + 48) e_c e_c b_pow) (ge_int'.trans (by simp [h]))) e_c⟩
    obtain ⟨a, ha, ea⟩ := ea
    have hr := fmod_range (x := y.fmod 1999867 * 2 + (if decide (z < 0) then 1 else 0) + 67) (y := 2147483399) (by omega)
    refine ⟨st.length, st ++ [[.int a, .int ((y.fmod 1999867 * 2 + (if decide (z < 0) then 1 else 0) + 67).fmod 2147483399)]], f_run1 (n := n + 59) rfl (r_asg (n := n + 57) _ _ hz (r_asg (n := n + 56) _ _ hy (r_skip (n := n + 54) st sk
      (r_ret (n := n + 54) (e_lst (n := n + 53) (es_cons (n := n + 52) ea (es_cons (n := n + 51) (e_bin (n := n + 50) (e_bin (n := n + 49) (e_bin (n := n + 48) (e_bin (n := n + 47) (e_bin (n := n + 46) (e_v rfl) e_c (b_mod (by decide))) e_c (b_mul (by decide))) (e_int (n := n + 47) (e_cmp (n := n + 46) (e_v rfl) e_c lt_int')) rfl) e_c rfl) e_c (b_mod (by decide))) es_nil)) rfl (by simp)))))), kp_app _ _, ⟨_, _, get_last, ha, hr.1, hr.2⟩, Nat.le_refl _⟩

/-! ### a member -/
noncomputable def nms : List PyData := [.str "Int64", .str "Bool", .str "Integer", .str "Char"]
noncomputable def offs : List Nat := [2, 0, 3, 1]
noncomputable def mrows (s : Str) : List PyData :=
  let k : PyData := .tuple [.str "name", .str s, .tuple []]
  [.tuple [k, .str s, .str s],
   .tuple [.tuple [.str "name", .str "Ref", .tuple [k]], .str (("Ref{" : Str) ++ s ++ "}"), .str (("Ref{" : Str) ++ s ++ "}")],
   .tuple [.tuple [.str "tuple", .tuple [k], .none], .str (("Tuple{" : Str) ++ s ++ "}"), .str (("Tuple{" : Str) ++ s ++ "}")],
   .tuple [.tuple [.str "tuple", .tuple [], k], .str (("Tuple{Vararg{" : Str) ++ s ++ "}}"), .str (("Tuple{Vararg{" : Str) ++ s ++ "}}")],
   .tuple [.tuple [.str "typeof", k], .str (("Type{" : Str) ++ s ++ "}"), .str (("Type{" : Str) ++ s ++ "}")],
   .tuple [.tuple [.str "var", .str "T.1"], .str "T", .str "T.1"],
   .tuple [.tuple [.str "var", .str "T.2"], .str "T", .str "T.2"],
   .tuple [.tuple [.str "bottom"], .str "Union{}", .str "Union{}"],
   .tuple [k, .str s, .str s],
   .tuple [.tuple [.str "name", .str "Any", .tuple []], .str "Any", .str "Any"]]
noncomputable def midx (a : Nat) : List Nat := [1 + a, 5 + a, 11 + a, 15 + a, 19 + a, 9, 10, 23, 1 + a, 0]
theorem mrows0 : mrows "Int64" = (midx 2).map rowD := by kernel_rfl
theorem mrows1 : mrows "Bool" = (midx 0).map rowD := by kernel_rfl
theorem mrows2 : mrows "Integer" = (midx 3).map rowD := by kernel_rfl
theorem mrows3 : mrows "Char" = (midx 1).map rowD := by kernel_rfl

theorem e_brk {n : Nat} {vs : Vars} {st : Store} {s : Str} {p q : String} (h16 : vs 16 = some (.d (.str s))) (hs : s.length ≤ 100) (hp : (Str.ofString p).length ≤ 100) (hq : (Str.ofString q).length ≤ 100) (hc : (Str.ofString p ++ s).length ≤ 1000) :
    evE fns (n + 10) vs st (brk p q) = some (.d (.str (Str.ofString p ++ s ++ Str.ofString q)), st) :=
  e_bin (n := n + 9) (e_bin (n := n + 8) e_c (e_v h16) (add_str' ⟨by omega, by omega⟩)) e_c (add_str' ⟨by omega, by omega⟩)

theorem mlist {n : Nat} {vs : Vars} {st : Store} {s : Str} (h16 : vs 16 = some (.d (.str s))) (h4 : vs 4 = some (.d (.tuple [.str "name", .str s, .tuple []]))) (hs : s.length ≤ 100)
    (c1 : (("Ref{" : Str) ++ s).length ≤ 1000) (c2 : (("Tuple{" : Str) ++ s).length ≤ 1000) (c3 : (("Tuple{Vararg{" : Str) ++ s).length ≤ 1000) (c4 : (("Type{" : Str) ++ s).length ≤ 1000) :
    evE fns (n + 60) vs st (lst [
    tup [v 4, v 16, v 16],
    tup [tup [cs "name", cs "Ref", tup [v 4]], brk "Ref{" "}", brk "Ref{" "}"],
    tup [tup [cs "tuple", tup [v 4], c .none], brk "Tuple{" "}", brk "Tuple{" "}"],
    tup [tup [cs "tuple", tup [], v 4], brk "Tuple{Vararg{" "}}", brk "Tuple{Vararg{" "}}"],
    tup [tup [cs "typeof", v 4], brk "Type{" "}", brk "Type{" "}"],
    tup [tup [cs "var", cs "T.1"], cs "T", cs "T.1"],
    tup [tup [cs "var", cs "T.2"], cs "T", cs "T.2"],
    tup [tup [cs "bottom"], cs "Union{}", cs "Union{}"],
    tup [v 4, v 16, v 16],
    tup [tup [cs "name", cs "Any", tup []], cs "Any", cs "Any"]]) = some (.l st.length, st ++ [mrows s]) := by
  have L : ∀ {x : String}, (Str.ofString x).length ≤ 100 → (Str.ofString x).length ≤ 100 := fun h => h
  refine e_lst (n := n + 59) (es_cons (n := n + 58) (e_tup (n := n + 57) (es_cons (n := n + 56) (e_v h4) (es_cons (n := n + 55) (e_v h16) (es_cons (n := n + 54) (e_v h16) es_nil))) rfl (by simp))
    (es_cons (n := n + 57) (e_tup (n := n + 56) (es_cons (n := n + 55) (e_tup (n := n + 54) (es_cons (n := n + 53) e_c (es_cons (n := n + 52) e_c (es_cons (n := n + 51) (e_tup (n := n + 50) (es_cons (n := n + 49) (e_v h4) es_nil) rfl (by simp)) es_nil))) rfl (by simp)) (es_cons (n := n + 54) (e_brk (n := n + 44) h16 hs (by decide +kernel) (by decide +kernel) c1) (es_cons (n := n + 53) (e_brk (n := n + 43) h16 hs (by decide +kernel) (by decide +kernel) c1) es_nil))) rfl (by simp))
    (es_cons (n := n + 56) (e_tup (n := n + 55) (es_cons (n := n + 54) (e_tup (n := n + 53) (es_cons (n := n + 52) e_c (es_cons (n := n + 51) (e_tup (n := n + 50) (es_cons (n := n + 49) (e_v h4) es_nil) rfl (by simp)) (es_cons (n := n + 50) e_c es_nil))) rfl (by simp)) (es_cons (n := n + 53) (e_brk (n := n + 43) h16 hs (by decide +kernel) (by decide +kernel) c2) (es_cons (n := n + 52) (e_brk (n := n + 42) h16 hs (by decide +kernel) (by decide +kernel) c2) es_nil))) rfl (by simp))
    (es_cons (n := n + 55) (e_tup (n := n + 54) (es_cons (n := n + 53) (e_tup (n := n + 52) (es_cons (n := n + 51) e_c (es_cons (n := n + 50) (e_tup (n := n + 49) es_nil rfl (by simp)) (es_cons (n := n + 49) (e_v h4) es_nil))) rfl (by simp)) (es_cons (n := n + 52) (e_brk (n := n + 42) h16 hs (by decide +kernel) (by decide +kernel) c3) (es_cons (n := n + 51) (e_brk (n := n + 41) h16 hs (by decide +kernel) (by decide +kernel) c3) es_nil))) rfl (by simp))
    (es_cons (n := n + 54) (e_tup (n := n + 53) (es_cons (n := n + 52) (e_tup (n := n + 51) (es_cons (n := n + 50) e_c (es_cons (n := n + 49) (e_v h4) es_nil)) rfl (by simp)) (es_cons (n := n + 51) (e_brk (n := n + 41) h16 hs (by decide +kernel) (by decide +kernel) c4) (es_cons (n := n + 50) (e_brk (n := n + 40) h16 hs (by decide +kernel) (by decide +kernel) c4) es_nil))) rfl (by simp))
    (es_cons (n := n + 53) (e_tup (n := n + 52) (es_cons (n := n + 51) (e_tup (n := n + 50) (es_cons (n := n + 49) e_c (es_cons (n := n + 48) e_c es_nil)) rfl (by simp)) (es_cons (n := n + 50) e_c (es_cons (n := n + 49) e_c es_nil))) rfl (by simp))
    (es_cons (n := n + 52) (e_tup (n := n + 51) (es_cons (n := n + 50) (e_tup (n := n + 49) (es_cons (n := n + 48) e_c (es_cons (n := n + 47) e_c es_nil)) rfl (by simp)) (es_cons (n := n + 49) e_c (es_cons (n := n + 48) e_c es_nil))) rfl (by simp))
    (es_cons (n := n + 51) (e_tup (n := n + 50) (es_cons (n := n + 49) (e_tup (n := n + 48) (es_cons (n := n + 47) e_c es_nil) rfl (by simp)) (es_cons (n := n + 48) e_c (es_cons (n := n + 47) e_c es_nil))) rfl (by simp))
    (es_cons (n := n + 50) (e_tup (n := n + 49) (es_cons (n := n + 48) (e_v h4) (es_cons (n := n + 47) (e_v h16) (es_cons (n := n + 46) (e_v h16) es_nil))) rfl (by simp))
    (es_cons (n := n + 49) (e_tup (n := n + 48) (es_cons (n := n + 47) (e_any (n := n + 39)) (es_cons (n := n + 46) e_c (es_cons (n := n + 45) e_c es_nil))) rfl (by simp)) es_nil)))))))))) rfl (by show 10 ≤ 1000000; omega)

theorem midx_lt {a r i : Nat} (ha : a < 4) (h : (midx a)[r]? = some i) : i < 24 := by
  have hm := List.mem_of_getElem? h
  simp only [midx, List.mem_cons, List.not_mem_nil, or_false] at hm
  omega

theorem member_ok {t : Nat} {st : Store} (h : Trk st t) (n : Nat) : ∃ (i : Nat) (st' : Store), i < 24 ∧ evF fns (n + 100) 10 [.l t] st = some (.d (rowD i), st') ∧ Trk st' t ∧ KpX t st st' := by
  have ht : t < st.length := let ⟨_, _, e, _⟩ := h; (List.getElem?_eq_some_iff.mp e).1
  obtain ⟨r, x, st1, e1, hx, t1, k1⟩ := one_ok (q := st.length) (h.app [nms]) get_last (by omega) (by decide) (by decide) (n + 56)
  have name : ∃ (s : Str) (a : Nat), x = .str s ∧ a < 4 ∧ s.length ≤ 100 ∧ mrows s = (midx a).map rowD ∧ (("Ref{" : Str) ++ s).length ≤ 1000 ∧ (("Tuple{" : Str) ++ s).length ≤ 1000 ∧ (("Tuple{Vararg{" : Str) ++ s).length ≤ 1000 ∧ (("Type{" : Str) ++ s).length ≤ 1000 := by
    match r, hx with
    | 0, e => cases e; exact ⟨_, 2, rfl, by omega, by decide +kernel, mrows0, by decide +kernel, by decide +kernel, by decide +kernel, by decide +kernel⟩
    | 1, e => cases e; exact ⟨_, 0, rfl, by omega, by decide +kernel, mrows1, by decide +kernel, by decide +kernel, by decide +kernel, by decide +kernel⟩
    | 2, e => cases e; exact ⟨_, 3, rfl, by omega, by decide +kernel, mrows2, by decide +kernel, by decide +kernel, by decide +kernel, by decide +kernel⟩
    | 3, e => cases e; exact ⟨_, 1, rfl, by omega, by decide +kernel, mrows3, by decide +kernel, by decide +kernel, by decide +kernel, by decide +kernel⟩
    | r + 4, e => simp [nms] at e
  obtain ⟨s, a, rfl, ha, hs, hm, c1, c2, c3, c4⟩ := name
  have ml := mlist (n := n + 32) (vs := upd (upd (upd v0 13 (.l t)) 16 (.d (.str s))) 4 (.d (.tuple [.str "name", .str s, .tuple []]))) (st := st1) (s := s) rfl rfl hs c1 c2 c3 c4
  rw [hm] at ml
  have htl : t < st1.length := let ⟨_, _, e, _⟩ := t1; (List.getElem?_eq_some_iff.mp e).1
  obtain ⟨r2, y, st2, e2, hy, t2, k2⟩ := one_ok (q := st1.length) (t1.app [(midx a).map rowD]) get_last (by omega) (by simp [midx]) (by simp [midx]) (n + 54)
  obtain ⟨i, hi, rfl⟩ : ∃ i, (midx a)[r2]? = some i ∧ rowD i = y := by
    rw [List.getElem?_map] at hy
    cases hq : (midx a)[r2]? with
    | none => rw [hq] at hy; cases hy
    | some i => rw [hq] at hy; cases hy; exact ⟨i, rfl, rfl⟩
  refine ⟨i, st2, midx_lt ha hi, f_run1 (n := n + 99) rfl (r_asg (n := n + 97) (.d (.str s)) st1 (e_call (n := n + 96) (es_cons (n := n + 95) (e_v rfl) (es_cons (n := n + 94) (e_lst (n := n + 93) (es_cons (n := n + 92) e_c (es_cons (n := n + 91) e_c (es_cons (n := n + 90) e_c (es_cons (n := n + 89) e_c es_nil)))) rfl (by simp)) es_nil)) e1)
    (r_asg (n := n + 96) _ _ (e_tup (n := n + 95) (es_cons (n := n + 94) e_c (es_cons (n := n + 93) (e_v rfl) (es_cons (n := n + 92) (e_tup (n := n + 91) es_nil rfl (by simp)) es_nil))) rfl (by simp))
      (r_ret (n := n + 95) (e_call (n := n + 94) (es_cons (n := n + 93) (e_v rfl) (es_cons (n := n + 92) ml es_nil)) e2)))), t2, ?_⟩
  exact (((KpX.refl t st).app _).trans k1).trans (((KpX.refl t st1).app _).trans k2)
end Mine
end

/-! # P15 -/
section
open PySem PySem.W PyProof.Rows
set_option maxRecDepth 100000
namespace Mine
open PE PS

section
variable {n : Nat} {vs vs1 : Vars} {st st1 st2 : Store} {t e : PE} {b r : List PS} {x i j k : Nat} {xs ys zs : List PyData} {d y : PyData} {v : V} {res : Option (Fl × Vars × Store)}
theorem cr_end : evCompR fns (n + 1) vs st x 0 j e ys = some (ys, st) := by simp only [evCompR]
theorem cr_item (h3 : evE fns n (upd vs x (.d (.int j))) st e = some (.d y, st1)) (h4 : ys.length ≤ 1000000) (h5 : evCompR fns n vs st1 x k (j + 1) e (ys ++ [y]) = some (zs, st2)) : evCompR fns (n + 1) vs st x (k + 1) j e ys = some (zs, st2) := by
  rw [evCompR]; simp only [h3, if_pos h4, h5]
theorem gr_end : evForR fns (n + 1) vs st x 0 j b = some (.next, vs, st) := by simp only [evForR]
theorem gr_turn (hb : evSs fns n (upd vs x (.d (.int j))) st b = some (.next, vs1, st1)) (h3 : evForR fns n vs1 st1 x k (j + 1) b = res) : evForR fns (n + 1) vs st x (k + 1) j b = res := by rw [evForR]; simp only [hb, h3]
theorem r_forR {z : Int} (he : evE fns n vs st e = some (.d (.int z), st1)) (hz : 0 ≤ z ∧ z ≤ 1000000) (h : evForR fns n vs st1 x z.toNat 0 b = some (.next, vs1, st2)) {st3 : Store} (kk : Runs (n + 1) vs1 st2 r v st3) : Runs (n + 2) vs st (.forR x e b :: r) v st3 := r_next (by rw [evS]; simp only [he, if_pos hz, h]) kk
end

theorem members_loop {t : Nat} : ∀ (k n j : Nat) (vs : Vars) (st : Store) (acc : List PyData), vs 13 = some (.l t) → Trk st t → acc.length + k ≤ 1000 →
    ∃ (is : List Nat) (st' : Store), (∀ i ∈ is, i < 24) ∧ is.length = k ∧ evCompR fns (n + k + 120) vs st 25 k j (call 10 [v 13]) acc = some (acc ++ is.map rowD, st') ∧ Trk st' t ∧ KpX t st st'
  | 0, n, j, vs, st, acc, h13, ht, hl => ⟨[], st, fun _ h => (by cases h), rfl, by rw [List.map_nil, List.append_nil]; exact cr_end (n := n + 119), ht, KpX.refl _ _⟩
  | k + 1, n, j, vs, st, acc, h13, ht, hl => by
    obtain ⟨i, st1, hi, e1, t1, k1⟩ := member_ok ht (n + k + 19)
    obtain ⟨is, st2, his, hlen, e2, t2, k2⟩ := members_loop k n (j + 1) vs st1 (acc ++ [rowD i]) h13 t1 (by simp; omega)
    refine ⟨i :: is, st2, fun x hx => ?_, by simp [hlen], ?_, t2, k1.trans k2⟩
    · rcases List.mem_cons.mp hx with rfl | hx
      · exact hi
      · exact his x hx
    · rw [List.append_assoc] at e2
      exact cr_item (n := n + k + 120) (e_call (n := n + k + 119) (es_cons (n := n + k + 118) (e_v (i := 13) (v := .l t) h13) es_nil) e1) (by omega) e2

noncomputable def wBody : List PS := [
    asg 14 (bin .add (ci 1) (call 8 [v 13, ci 3])),
    asg 0 (ite (cmp .gt (len (v 0)) (v 14)) (bin .add (lst [tup [cs "union", tuple (pre (v 0) (v 14))]]) (suf (v 0) (v 14))) (v 0))]

theorem wraps_loop {t rr : Nat} {is : List Nat} : ∀ (k n j : Nat) (vs : Vars) (st : Store) (cc m d : Nat) (ts : List PyData), vs 13 = some (.l t) → vs 17 = some (.l rr) → vs 0 = some (.l cc) → cc ≠ t → Trk st t → st[cc]? = some ts → FS ts is m → m + k ≤ 100 → OkL d ts →
    ∃ (vs' : Vars) (st' : Store) (c' m' : Nat) (ts' : List PyData), evForR fns (n + k + 100) vs st 25 k j wBody = some (.next, vs', st') ∧ vs' 17 = some (.l rr) ∧ vs' 0 = some (.l c') ∧ st'[c']? = some ts' ∧ FS ts' is m' ∧ m' ≤ m + k ∧ OkL (d + 2 * k) ts' ∧ KpX t st st'
  | 0, n, j, vs, st, cc, m, d, ts, h13, h17, h0, hct, ht, hc, hs, hm, hok => ⟨vs, st, cc, m, ts, gr_end (n := n + 99), h17, h0, hc, hs, by omega, hok, KpX.refl _ _⟩
  | k + 1, n, j, vs, st, cc, m, d, ts, h13, h17, h0, hct, ht, hc, hs, hm, hok => by
    obtain ⟨r, st1, e1, r0, r1, t1, k1, _⟩ := pull_ok (m := 3) ht (by omega) (by omega) (n + k + 66)
    have hlen := hs.len.1
    have hc1 : st1[cc]? = some ts := k1 cc ts hct hc
    have h13a : upd vs 25 (.d (.int (j : Int))) 13 = some (.l t) := h13
    have e14 : evE fns (n + k + 98) (upd vs 25 (.d (.int (j : Int)))) st (bin .add (ci 1) (call 8 [v 13, ci 3])) = some (.d (.int (1 + r)), st1) :=
      e_bin (n := n + k + 97) e_c (e_call (n := n + k + 96) (es_cons (n := n + k + 95) (e_v h13a) (es_cons (n := n + k + 94) e_c es_nil)) (by exact e1)) rfl
    have h0a : upd (upd vs 25 (.d (.int (j : Int)))) 14 (.d (.int (1 + r))) 0 = some (.l cc) := h0
    by_cases hgt : ((ts.length : Nat) : Int) > 1 + r
    · have test : evT fns (n + k + 96) (upd (upd vs 25 (.d (.int (j : Int)))) 14 (.d (.int (1 + r)))) st1 (cmp .gt (len (v 0)) (v 14)) = some (true, st1) :=
        t_cmp (n := n + k + 94) (e_len (n := n + k + 93) (e_v h0a) hc1 (by omega)) (e_v rfl) (gt_int.trans (by simp [hgt]))
      have hj14 : 0 ≤ 1 + r ∧ 1 + r < 2 ^ 62 := by omega
      have e0 : ∃ st2, evE fns (n + k + 97) (upd (upd vs 25 (.d (.int (j : Int)))) 14 (.d (.int (1 + r)))) st1 (ite (cmp .gt (len (v 0)) (v 14)) (bin .add (lst [tup [cs "union", tuple (pre (v 0) (v 14))]]) (suf (v 0) (v 14))) (v 0)) = some (.l st2.length, st2 ++ [[nodeD (ts.take (1 + r).toNat)] ++ ts.drop (1 + r).toNat]) ∧ Kp st1 st2 := by
        refine ⟨_, e_ite_t (n := n + k + 96) test (e_binL (n := n + k + 95) (xs := [nodeD (ts.take (1 + r).toNat)]) (ys := ts.drop (1 + r).toNat)
          (e_lst (n := n + k + 94) (ys := [nodeD (ts.take (1 + r).toNat)]) (es_cons (n := n + k + 93) (e_tup (n := n + k + 92) (ys := [.str (Str.ofString "union"), .tuple (ts.take (1 + r).toNat)]) (es_cons (n := n + k + 91) e_c (es_cons (n := n + k + 90) (e_tuple (n := n + k + 89) (e_pre (n := n + k + 88) (e_v h0a) (e_v (i := 14) (v := .d (.int (1 + r))) rfl) hc1 ⟨hj14.1, hj14.2, by omega⟩) get_last (by rw [List.length_take]; omega)) es_nil)) rfl (by simp)) es_nil) rfl (by simp))
          (e_sufL (n := n + k + 94) (e_v h0a) (e_v (i := 14) (v := .d (.int (1 + r))) rfl) (get_app (get_app hc1)) hj14 (by omega)) (get_app get_last) get_last (by rw [List.length_singleton, List.length_drop]; omega)), ?_⟩
        exact ((kp_app _ _).app _).app _
      obtain ⟨st2, e0, k2⟩ := e0
      have t2 : Trk (st2 ++ [[nodeD (ts.take (1 + r).toNat)] ++ ts.drop (1 + r).toNat]) t := let ⟨a, b, e, q⟩ := t1; ⟨a, b, get_app (k2 _ _ e), q⟩
      have htl : t < st2.length := let ⟨_, _, e, _⟩ := t1; (List.getElem?_eq_some_iff.mp (k2 _ _ e)).1
      have hs2 : FS ([nodeD (ts.take (1 + r).toNat)] ++ ts.drop (1 + r).toNat) is (m + 1) := FS.node (s := ts.drop (1 + r).toNat) ((List.take_append_drop (1 + r).toNat ts).symm ▸ hs)
      have hok2 : OkL (d + 2) ([nodeD (ts.take (1 + r).toNat)] ++ ts.drop (1 + r).toNat) := fun e he => by
        rcases List.mem_append.mp he with q | q
        · rw [List.mem_singleton.mp q]
          exact node_ok (hok.mem fun z hz => List.mem_of_mem_take hz)
        · have := hok e (List.mem_of_mem_drop q)
          exact ⟨this.1, by omega⟩
      obtain ⟨vs', st', c', m', ts', e2, a17, a0, ac, as, am, aok, ak⟩ := wraps_loop k n (j + 1) (upd (upd (upd vs 25 (.d (.int (j : Int)))) 14 (.d (.int (1 + r)))) 0 (.l st2.length)) _ st2.length (m + 1) (d + 2) _ h13 h17 rfl (by omega) t2 get_last hs2 (by omega) hok2
      exact ⟨vs', st', c', m', ts', gr_turn (n := n + k + 100) (b_cons (n := n + k + 99) (z_asg e14) (b_cons (n := n + k + 98) (z_asg e0) b_nil)) e2, a17, a0, ac, as, by omega, aok.mono (by omega), (k1.trans ((k2.app _).x t)).trans ak⟩
    · have test : evT fns (n + k + 96) (upd (upd vs 25 (.d (.int (j : Int)))) 14 (.d (.int (1 + r)))) st1 (cmp .gt (len (v 0)) (v 14)) = some (false, st1) :=
        t_cmp (n := n + k + 94) (e_len (n := n + k + 93) (e_v h0a) hc1 (by omega)) (e_v rfl) (gt_int.trans (by simp [hgt]))
      have e0 : evE fns (n + k + 97) (upd (upd vs 25 (.d (.int (j : Int)))) 14 (.d (.int (1 + r)))) st1 (ite (cmp .gt (len (v 0)) (v 14)) (bin .add (lst [tup [cs "union", tuple (pre (v 0) (v 14))]]) (suf (v 0) (v 14))) (v 0)) = some (.l cc, st1) :=
        e_ite_f (n := n + k + 96) test (e_v h0a)
      obtain ⟨vs', st', c', m', ts', e2, a17, a0, ac, as, am, aok, ak⟩ := wraps_loop k n (j + 1) (upd (upd (upd vs 25 (.d (.int (j : Int)))) 14 (.d (.int (1 + r)))) 0 (.l cc)) st1 cc m d ts h13 h17 rfl hct t1 hc1 hs (by omega) hok
      exact ⟨vs', st', c', m', ts', gr_turn (n := n + k + 100) (b_cons (n := n + k + 99) (z_asg e14) (b_cons (n := n + k + 98) (z_asg e0) b_nil)) e2, a17, a0, ac, as, by omega, aok.mono (by omega), k1.trans ak⟩
end Mine
end

/-! # P16 -/
section
open PySem PySem.W PyProof.Rows
set_option maxRecDepth 100000
namespace Mine
open PE PS

noncomputable def ts2 : List PyData := [kindD 2, nodeD [kindD 3, nodeD [kindD 1, kindD 23]], kindD 3]
theorem fs2 : FS ts2 [2, 3, 1, 23, 3] 7 := .leaf (by omega) (.node (.leaf (by omega) (.node (.leaf (by omega) (.leaf (by omega) (.leaf (by omega) .nil))))))
theorem ok2 : OkL 60 ts2 := by
  have h1 : OkL 10 [kindD 1, kindD 23] := kinds_ok (is := [1, 23]) (by decide)
  have h2 : OkL 12 [kindD 3, nodeD [kindD 1, kindD 23]] := fun d hd => by
    rcases List.mem_cons.mp hd with rfl | hd
    · have := kind_ok 3 (by omega); exact ⟨this.1, by omega⟩
    · rw [List.mem_singleton.mp hd]; exact node_ok h1
  intro d hd
  rcases List.mem_cons.mp hd with rfl | hd
  · have := kind_ok 2 (by omega); exact ⟨this.1, by omega⟩
  · rcases List.mem_cons.mp hd with rfl | hd
    · have := node_ok h2; exact ⟨this.1, by omega⟩
    · rw [List.mem_singleton.mp hd]
      have := kind_ok 3 (by omega); exact ⟨this.1, by omega⟩

theorem e_nm {n : Nat} {vs : Vars} {st : Store} {s : String} : evE fns (n + 8) vs st (tup [cs "name", cs s, tup []]) = some (.d (.tuple [.str "name", .str (Str.ofString s), .tuple []]), st) :=
  e_tup (n := n + 7) (es_cons e_c (es_cons e_c (es_cons (e_tup (n := n + 3) es_nil rfl (by simp)) es_nil))) rfl (by simp)

theorem e_row {n : Nat} {vs : Vars} {st : Store} {s : String} {i : Nat} {d : PyData} (h : vs i = some (.d d)) : evE fns (n + 8) vs st (tup [v i, cs s, cs s]) = some (.d (.tuple [d, .str (Str.ofString s), .str (Str.ofString s)]), st) :=
  e_tup (n := n + 7) (es_cons (e_v h) (es_cons e_c (es_cons e_c es_nil))) rfl (by simp)

theorem law_true (xs : List Int) (hx : xs.length ≤ 63) : ∃ st, evF fns 600 13 [.fz (xs.map .int)] [] = some (.d (.bool true), st) := by
  generalize hA : upd v0 10 (.fz (xs.map .int)) = A
  -- the first fixed question
  obtain ⟨st1, q1, -⟩ := is_right_ok (i := ([] : Store).length) (j := (([] : Store) ++ [[kindD 23, kindD 3]]).length) (ts := [kindD 23, kindD 3]) (is := [23, 3]) (js := [23, 3]) (m := 2) (st := [] ++ [[kindD 23, kindD 3]] ++ [[23, 3].map rowD]) (get_app get_last) (FS.kinds (is := [23, 3]) (by decide)) (by omega) ((kinds_ok (is := [23, 3]) (by decide)).mono (by omega)) get_last (by decide) (by decide) rfl 193
  generalize hB : upd (upd A 22 (.d (kindD 3))) 23 (.d (kindD 23)) = B
  have b22 : B 22 = some (.d (kindD 3)) := by rw [← hB]; rfl
  have b23 : B 23 = some (.d (kindD 23)) := by rw [← hB]; rfl
  have b10 : B 10 = some (.fz (xs.map .int)) := by rw [← hB, ← hA]; rfl
  have t1 : evT fns 596 B [] (not (call 12 [lst [v 23, v 22], lst [tup [v 23, cs "Union{}", cs "Union{}"], tup [v 22, cs "Int64", cs "Int64"]]])) = some (false, st1) :=
    t_not (n := 595) (t_call (n := 593) (es_cons (n := 592) (e_lst (n := 591) (ys := [kindD 23, kindD 3]) (es_cons (n := 590) (e_v b23) (es_cons (n := 589) (e_v b22) es_nil)) rfl (by simp))
      (es_cons (n := 591) (e_lst (n := 590) (ys := [23, 3].map rowD) (es_cons (n := 589) (e_row (n := 581) b23) (es_cons (n := 588) (e_row (n := 580) b22) es_nil)) rfl (by simp)) es_nil)) q1)
  -- the second
  generalize hC : upd (upd B 24 (.d (kindD 2))) 20 (.d (kindD 1)) = C
  have c24 : C 24 = some (.d (kindD 2)) := by rw [← hC]; rfl
  have c20 : C 20 = some (.d (kindD 1)) := by rw [← hC]; rfl
  have c22 : C 22 = some (.d (kindD 3)) := by rw [← hC]; exact b22
  have c23 : C 23 = some (.d (kindD 23)) := by rw [← hC]; exact b23
  have c10 : C 10 = some (.fz (xs.map .int)) := by rw [← hC]; exact b10
  have rows2 : evE fns 594 C st1 (lst [tup [v 24, cs "Char", cs "Char"], tup [v 22, cs "Int64", cs "Int64"], tup [v 20, cs "Bool", cs "Bool"], tup [v 23, cs "Union{}", cs "Union{}"]]) = some (.l st1.length, st1 ++ [[2, 3, 1, 23].map rowD]) :=
    e_lst (n := 593) (es_cons (n := 592) (e_row (n := 584) c24) (es_cons (n := 591) (e_row (n := 583) c22) (es_cons (n := 590) (e_row (n := 582) c20) (es_cons (n := 589) (e_row (n := 581) c23) es_nil)))) rfl (by simp)
  obtain ⟨st2, q2, -⟩ := is_right_ok (i := (st1 ++ [[2, 3, 1, 23].map rowD]).length) (j := st1.length) (ts := ts2) (is := [2, 3, 1, 23, 3]) (js := [2, 3, 1, 23]) (m := 7) (st := st1 ++ [[2, 3, 1, 23].map rowD] ++ [ts2]) get_last fs2 (by omega) ok2 (get_app get_last) (by decide) (by decide) (by decide +kernel) 190
  generalize hD : upd C 17 (.l st1.length) = D
  have d24 : D 24 = some (.d (kindD 2)) := by rw [← hD]; exact c24
  have d20 : D 20 = some (.d (kindD 1)) := by rw [← hD]; exact c20
  have d22 : D 22 = some (.d (kindD 3)) := by rw [← hD]; exact c22
  have d23 : D 23 = some (.d (kindD 23)) := by rw [← hD]; exact c23
  have d10 : D 10 = some (.fz (xs.map .int)) := by rw [← hD]; exact c10
  have d17 : D 17 = some (.l st1.length) := by rw [← hD]; rfl
  have t2 : evT fns 593 D (st1 ++ [[2, 3, 1, 23].map rowD]) (not (call 12 [lst [v 24, tup [cs "union", tup [v 22, tup [cs "union", tup [v 20, v 23]]]], v 22], v 17])) = some (false, st2) :=
    t_not (n := 592) (t_call (n := 590) (es_cons (n := 589) (e_lst (n := 588) (ys := ts2) (es_cons (n := 587) (e_v d24) (es_cons (n := 586) (e_tup (n := 585) (es_cons (n := 584) e_c (es_cons (n := 583) (e_tup (n := 582) (es_cons (n := 581) (e_v d22) (es_cons (n := 580) (e_tup (n := 579) (es_cons (n := 578) e_c (es_cons (n := 577) (e_tup (n := 576) (es_cons (n := 575) (e_v d20) (es_cons (n := 574) (e_v d23) es_nil)) rfl (by simp)) es_nil)) rfl (by simp)) es_nil)) rfl (by simp)) es_nil)) rfl (by simp)) (es_cons (n := 585) (e_v d22) es_nil))) rfl (by simp [ts2]))
      (es_cons (n := 588) (e_v d17) es_nil)) q2)
  -- the trunk
  obtain ⟨t, st3, e3, k3, trk3, -⟩ := trunk_ok 531 st2 xs hx
  generalize hE : upd D 13 (.l t) = G
  have g13 : G 13 = some (.l t) := by rw [← hE]; rfl
  -- the members
  obtain ⟨z, st4, e4, z0, z1, trk4, k4, -⟩ := pull_ok (m := 7) trk3 (by omega) (by omega) 559
  obtain ⟨is, st5, his, hlen, e5, trk5, k5⟩ := members_loop (t := t) z.toNat (590 - 120 - z.toNat) 0 G st4 [] g13 trk4 (by simp; omega)
  rw [show 590 - 120 - z.toNat + z.toNat + 120 = 590 by omega, List.nil_append] at e5
  have il : is.length ≤ 6 := by omega
  have tl5 : t < st5.length := let ⟨_, _, e, _⟩ := trk5; (List.getElem?_eq_some_iff.mp e).1
  have e6 : evE fns 591 G st3 (compR 25 (call 8 [v 13, ci 7]) (call 10 [v 13])) = some (.l st5.length, st5 ++ [is.map rowD]) :=
    e_compR (n := 590) (e_call (n := 589) (es_cons (n := 588) (e_v g13) (es_cons (n := 587) e_c es_nil)) e4) ⟨z0, by omega⟩ e5
  generalize hH : upd G 17 (.l st5.length) = H
  have h17 : H 17 = some (.l st5.length) := by rw [← hH]; rfl
  have h13 : H 13 = some (.l t) := by rw [← hH]; exact g13
  have c7 := comp_rows (i := st5.length) is [] (589 - 4 - is.length) H (st5 ++ [is.map rowD]) [] (by rw [List.nil_append]; exact get_last) (by simp; omega)
  rw [show 589 - 4 - is.length + is.length + 4 = 589 by omega, List.length_nil, List.nil_append] at c7
  have e7 : evE fns 590 H (st5 ++ [is.map rowD]) (comp 18 (v 17) none (idx (v 18) (ci 0))) = some (.l (st5 ++ [is.map rowD]).length, st5 ++ [is.map rowD] ++ [is.map kindD]) := e_comp (n := 589) (e_v h17) c7
  generalize hI : upd H 0 (.l (st5 ++ [is.map rowD]).length) = I
  have i0' : I 0 = some (.l (st5 ++ [is.map rowD]).length) := by rw [← hI]; rfl
  have i13 : I 13 = some (.l t) := by rw [← hI]; exact h13
  have i17 : I 17 = some (.l st5.length) := by rw [← hI]; exact h17
  -- the wraps
  have trk7 : Trk (st5 ++ [is.map rowD] ++ [is.map kindD]) t := (trk5.app _).app _
  obtain ⟨z2, st8, e8, z20, z21, trk8, k8, -⟩ := pull_ok (m := 3) trk7 (by omega) (by omega) 558
  have ne1 : (st5 ++ [is.map rowD]).length ≠ t := by simp; omega
  have ne2 : st5.length ≠ t := by omega
  have r8 : st8[st5.length]? = some (is.map rowD) := k8 _ _ ne2 (get_app get_last)
  have kk8 : st8[(st5 ++ [is.map rowD]).length]? = some (is.map kindD) := k8 _ _ ne1 get_last
  obtain ⟨vs9, st9, cc, m9, ts9, e9, a17, a0, g9, f9, hm9, ok9, k9⟩ := wraps_loop (t := t) (rr := st5.length) (is := is) z2.toNat (589 - 100 - z2.toNat) 0 I st8 (st5 ++ [is.map rowD]).length is.length 10 (is.map kindD) i13 i17 i0' ne1 trk8 kk8 (FS.kinds his) (by omega) (kinds_ok his)
  rw [show 589 - 100 - z2.toNat + z2.toNat + 100 = 589 by omega] at e9
  have r9 : st9[st5.length]? = some (is.map rowD) := k9 _ _ ne2 r8
  obtain ⟨st10, q10, -⟩ := is_right_ok (i := cc) (j := st5.length) (ts := ts9) (is := is) (js := is) (m := m9) g9 f9 (by omega) (ok9.mono (by omega)) r9 his (by omega) rfl 187
  refine ⟨st10, f_run1 (n := 599) rfl ?_⟩
  rw [hA]
  refine r_asg2 (n := 597) (.d (kindD 3)) (.d (kindD 23)) [] [] (e_nm (n := 589)) (e_bot (n := 589)) ?_
  rw [hB]
  refine r_skip (n := 595) st1 t1 (r_asg2 (n := 595) (.d (kindD 2)) (.d (kindD 1)) st1 st1 (e_nm (n := 587)) (e_nm (n := 587)) ?_)
  rw [hC]
  refine r_asg (n := 594) _ _ rows2 ?_
  rw [hD]
  refine r_skip (n := 592) st2 t2 (r_asg (n := 592) (.l t) st3 (e_call (n := 591) (es_cons (n := 590) (e_v d10) es_nil) e3) ?_)
  rw [hE]
  refine r_asgC (n := 591) _ _ e6 ?_
  rw [hH]
  refine r_asgC (n := 590) _ _ e7 ?_
  rw [hI]
  refine r_forR (n := 589) (e_call (n := 588) (es_cons (n := 587) (e_v i13) (es_cons (n := 586) e_c es_nil)) e8) ⟨z20, by omega⟩ e9 ?_
  exact r_ret (n := 588) (e_call (n := 587) (es_cons (n := 586) (e_v a0) (es_cons (n := 585) (e_v a17) es_nil)) q10)
end Mine
end

/-! # HD -/
section
open PySem PySem.W PyProof.Rows
namespace Mine
/-! The eight names below are taken ahead for the size of the compiled file alone: `open_top` lays, for each table that it makes,
a twin and a lemma that the two are equal; where the twin's name is taken it works with the table itself. Nothing uses these eight theorems. -/
theorem _root_.PySem.W.Fast.tw8075568018651887793 : True := trivial
theorem _root_.PySem.W.Fast.tw17409144025567561759 : True := trivial
theorem _root_.PySem.W.Fast.tw12615489289205918108 : True := trivial
theorem _root_.PySem.W.Fast.tw14979626087600564940 : True := trivial
theorem _root_.PySem.W.Fast.tw17111948838632640456 : True := trivial
theorem _root_.PySem.W.Fast.tw7131626054202286345 : True := trivial
theorem _root_.PySem.W.Fast.tw15319007112934793488 : True := trivial
theorem _root_.PySem.W.Fast.tw7433093208181500128 : True := trivial
set_option maxRecDepth 100000 in
set_option maxHeartbeats 8000000 in
open_top hd for PySem.Challenge.rw_xm0684_01
end Mine
end

/-! # J1 -/
section
open PySem PySem.W PyProof.Rows
namespace Mine
set_option maxRecDepth 100000

theorem rec_mem {p : Program} {k : Nat} {d : DefRec} (h : (recsOf p)[k]? = some d) : d ∈ recsOf p := List.mem_of_getElem? h

noncomputable def recAt (k : Nat) : DefRec := (recsOf hd.view_39).getD k ⟨"", default, [], default, default⟩
def RecOk (d : DefRec) (i : Nat) : Prop := d ∈ recsOf hd.view_39 ∧ d.name = fnm i ∧ d.params = (fd i).params ∧ d.body = (fd i).body ∧ d.scope = (fd i).scope
theorem rec0 : RecOk (recAt 0) 0 := ⟨rec_mem (k := 0) (by with_unfolding_all rfl), by with_unfolding_all rfl, by with_unfolding_all rfl, by with_unfolding_all rfl, by with_unfolding_all rfl⟩
theorem rec1 : RecOk (recAt 1) 1 := ⟨rec_mem (k := 1) (by with_unfolding_all rfl), by with_unfolding_all rfl, by with_unfolding_all rfl, by with_unfolding_all rfl, by with_unfolding_all rfl⟩
theorem rec2 : RecOk (recAt 2) 2 := ⟨rec_mem (k := 2) (by with_unfolding_all rfl), by with_unfolding_all rfl, by with_unfolding_all rfl, by with_unfolding_all rfl, by with_unfolding_all rfl⟩
theorem rec3 : RecOk (recAt 3) 3 := ⟨rec_mem (k := 3) (by with_unfolding_all rfl), by with_unfolding_all rfl, by with_unfolding_all rfl, by with_unfolding_all rfl, by with_unfolding_all rfl⟩
theorem rec4 : RecOk (recAt 6) 4 := ⟨rec_mem (k := 6) (by with_unfolding_all rfl), by with_unfolding_all rfl, by with_unfolding_all rfl, by with_unfolding_all rfl, by with_unfolding_all rfl⟩
theorem rec5 : RecOk (recAt 7) 5 := ⟨rec_mem (k := 7) (by with_unfolding_all rfl), by with_unfolding_all rfl, by with_unfolding_all rfl, by with_unfolding_all rfl, by with_unfolding_all rfl⟩
theorem rec6 : RecOk (recAt 8) 6 := ⟨rec_mem (k := 8) (by with_unfolding_all rfl), by with_unfolding_all rfl, by with_unfolding_all rfl, by with_unfolding_all rfl, by with_unfolding_all rfl⟩
theorem rec7 : RecOk (recAt 9) 7 := ⟨rec_mem (k := 9) (by with_unfolding_all rfl), by with_unfolding_all rfl, by with_unfolding_all rfl, by with_unfolding_all rfl, by with_unfolding_all rfl⟩
theorem rec8 : RecOk (recAt 10) 8 := ⟨rec_mem (k := 10) (by with_unfolding_all rfl), by with_unfolding_all rfl, by with_unfolding_all rfl, by with_unfolding_all rfl, by with_unfolding_all rfl⟩
theorem rec9 : RecOk (recAt 11) 9 := ⟨rec_mem (k := 11) (by with_unfolding_all rfl), by with_unfolding_all rfl, by with_unfolding_all rfl, by with_unfolding_all rfl, by with_unfolding_all rfl⟩
theorem rec10 : RecOk (recAt 12) 10 := ⟨rec_mem (k := 12) (by with_unfolding_all rfl), by with_unfolding_all rfl, by with_unfolding_all rfl, by with_unfolding_all rfl, by with_unfolding_all rfl⟩
theorem rec11 : RecOk (recAt 13) 11 := ⟨rec_mem (k := 13) (by with_unfolding_all rfl), by with_unfolding_all rfl, by with_unfolding_all rfl, by with_unfolding_all rfl, by with_unfolding_all rfl⟩
theorem rec12 : RecOk (recAt 14) 12 := ⟨rec_mem (k := 14) (by with_unfolding_all rfl), by with_unfolding_all rfl, by with_unfolding_all rfl, by with_unfolding_all rfl, by with_unfolding_all rfl⟩
theorem rec13 : RecOk (recAt 15) 13 := ⟨rec_mem (k := 15) (by with_unfolding_all rfl), by with_unfolding_all rfl, by with_unfolding_all rfl, by with_unfolding_all rfl, by with_unfolding_all rfl⟩
theorem rec_ok : ∀ (i : Nat), i < 14 → ∃ d, RecOk d i
  | 0, _ => ⟨_, rec0⟩
  | 1, _ => ⟨_, rec1⟩
  | 2, _ => ⟨_, rec2⟩
  | 3, _ => ⟨_, rec3⟩
  | 4, _ => ⟨_, rec4⟩
  | 5, _ => ⟨_, rec5⟩
  | 6, _ => ⟨_, rec6⟩
  | 7, _ => ⟨_, rec7⟩
  | 8, _ => ⟨_, rec8⟩
  | 9, _ => ⟨_, rec9⟩
  | 10, _ => ⟨_, rec10⟩
  | 11, _ => ⟨_, rec11⟩
  | 12, _ => ⟨_, rec12⟩
  | 13, _ => ⟨_, rec13⟩
  | i + 14, h => absurd h (by omega)

section
variable {P : Params} {mg mb : Str → Option Value} {h : Heap} {loose : List Str} {mean : ExcName → Option Value}

theorem mg_some (X : (hd.heap_39 P).In h) (g : h.Ns mainGlobals mg) {x : Str} {v : Value} (e : nsIn (hd.heap_39 P) mainGlobals x = some (some v)) : mg x = some v := mg_of X g e

theorem any_ok (X : (hd.heap_39 P).In h) (g : h.Ns mainGlobals mg) : ∃ u, mg "ANY" = some u ∧ RI h u anyD := by
  refine ⟨.ref 16, mg_some X g (by kernel_rfl), ?_⟩
  have h15 : h.get? 15 = some { cls := .type "tuple", data := .seq #[] 0 } := X 15 _ (by kernel_rfl)
  have h16 : h.get? 16 = some { cls := .type "tuple", data := .seq #[.str "name" 189, .str "Any" 190, .ref 15] 0 } := X 16 _ (by kernel_rfl)
  exact .tuple h16 rfl rfl (.cons (.str _ _) (.cons (.str _ _) (.cons (.tuple h15 rfl rfl .nil) .nil)))
theorem bottom_ok (X : (hd.heap_39 P).In h) (g : h.Ns mainGlobals mg) : ∃ u, mg "BOTTOM" = some u ∧ RI h u bottomD := by
  refine ⟨.ref 17, mg_some X g (by kernel_rfl), ?_⟩
  have h17 : h.get? 17 = some { cls := .type "tuple", data := .seq #[.str "bottom" 192] 0 } := X 17 _ (by kernel_rfl)
  exact .tuple h17 rfl rfl (.cons (.str _ _) .nil)

theorem topf (T : Top hd.view_39 loose mean mg mb h) (X : (hd.heap_39 P).In h) : TopF mg mb h := by
  refine ⟨T.g, T.b, fun i hi => ?_, fun i d e => ?_, fun p hp => ?_, T.nolimit⟩
  · obtain ⟨d, hm, e1, e2, e3, e4⟩ := rec_ok i hi
    obtain ⟨a, o, pm, cd, doc, h1, h2, h3, h4⟩ := T.fn d hm
    rw [e1] at h1 h4
    rw [e1, e2, e3, e4] at h3
    exact ⟨a, o, pm, cd, doc, h1, h2, h3, h4⟩
  · match i, e with
    | 0, e => cases e; exact any_ok X T.g
    | 1, e => cases e; exact bottom_ok X T.g
  · simp only [List.mem_cons, List.not_mem_nil, or_false] at hp
    rcases hp with rfl | rfl | rfl | rfl | rfl | rfl | rfl
    · exact ⟨ns_none_of X T.g (by kernel_rfl), (T.builtins _ (by decide +kernel)).trans (by kernel_rfl)⟩
    · exact ⟨ns_none_of X T.g (by kernel_rfl), (T.builtins _ (by decide +kernel)).trans (by kernel_rfl)⟩
    · exact ⟨ns_none_of X T.g (by kernel_rfl), (T.builtins _ (by decide +kernel)).trans (by kernel_rfl)⟩
    · exact ⟨ns_none_of X T.g (by kernel_rfl), (T.builtins _ (by decide +kernel)).trans (by kernel_rfl)⟩
    · exact ⟨ns_none_of X T.g (by kernel_rfl), (T.builtins _ (by decide +kernel)).trans (by kernel_rfl)⟩
    · exact ⟨ns_none_of X T.g (by kernel_rfl), (T.builtins _ (by decide +kernel)).trans (by kernel_rfl)⟩
    · exact ⟨ns_none_of X T.g (by kernel_rfl), (T.builtins _ (by decide +kernel)).trans (by kernel_rfl)⟩
end
end Mine
end

/-! # J2 -/
section
open PySem PySem.W PyProof.Rows
namespace Mine
theorem ris_ints {h : Heap} : ∀ {vs : List Value} {ns : List Int}, IntsAre vs ns → RIs h vs (ns.map .int)
  | _, _, .nil => .nil
  | _, _, .cons n t r => .cons (.int n t) (ris_ints r)

theorem room_caller : Room callerA 600 := by
  refine ⟨rfl, rfl, ?_, ?_⟩
  · decide +kernel
  · decide +kernel

set_option maxRecDepth 100000 in
set_option maxHeartbeats 4000000 in
theorem main_walk : PySem.Challenge.rw_xm0684_01.Holds := by
  refine hd ?_
  k_fill
  intro w s₀ s₁ mg mb G Y fa o pm cd doc dV kV ho hd hcd hD hmg hg args vals as hpre hlay hrd hwl hlo
  have KX := kIn_of Y
  refine Ground.open G ?_
  intro T B D TE TW
  wrow_args hpre hlay hrd hwl hlo
  rename_i xs hs _ hL _ _ _ _ la vals ads hIs ra wl rd hI rw hlen _
  have hlen' : xs.length ≤ 63 := by omega
  obtain ⟨st, hlaw⟩ := law_true xs hlen'
  have F := topf T KX
  have hm : mg (fnm 13) = some (.ref fa) := hmg
  refine run_fn (n := 600) F room_caller (by decide) hm hlaw s₁ [.ref la] rfl ⟨.fz hIs (by simpa using ris_ints hI), trivial⟩ fun u h' tk ρ' H X r => ?_
  have hu := r.bool_inv
  subst hu
  have hpost : Challenge.rw_xm0684_01.row.claim.post [ofPy (PyData.list (List.map PyData.int xs))] (WData.bool true) [ofPy (PyData.list (List.map PyData.int xs))] = true := by
    first | wrow_post | rfl
  exact GoodW.toG ⟨.inl ⟨_, .bool true, [], rfl, fun _ => rfl, .bool true, hpost, fun _ => ⟨.nil, fun _ h => nomatch h⟩⟩, fun b o e => X.keep b o e (fun q => nomatch q), rfl, hg⟩
end Mine
end

theorem PySem.Challenge.cw_xm0684_01_holds : PySem.Challenge.rw_xm0684_01.Holds :=
  Mine.main_walk
