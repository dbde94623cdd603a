import PyProof.Rows.All
import Wide.All
import OpenK.AllK
import Wide.FinOn
import PySem.Challenge.RW_tk0019_01
set_option Elab.async false
/-! THE MACHINE: a small evaluator of our own, over values by structure (ints, bools, pairs) and lists by a number. -/
namespace Mine
set_option genSizeOf false
set_option genSizeOfSpec false
set_option genInjectivity false
open PySem (PyData)

inductive V where
  | none
  | bool (b : Bool)
  | int (i : Int)
  | lst (k : Nat)
  | pair (a b : V)
  | trip (a b c : V)


inductive Bop | add | sub | mul | fdiv | mod | pow
inductive Cop | eq | ne | lt | le | gt | ge

mutual
inductive Ex where
  | loc (x : Nat)
  | glo (x : Nat)
  | int (i : Int)
  | bool (b : Bool)
  | neg (e : Ex)
  | pair (a b : Ex)
  | trip (a b c : Ex)
  | lst0
  | lst1 (a : Ex)
  | lst2 (a b : Ex)
  | lst3 (a b c : Ex)
  | bin (op : Bop) (a b : Ex)
  | rep (a n : Ex)
  | cmp (op : Cop) (a b : Ex)
  | ife (t : Te) (a b : Ex)
  | sub (a i : Ex)
  | slTo (a i : Ex)
  | slFrom (a i : Ex)
  | call1 (f : Nat) (a : Ex)
  | call2 (f : Nat) (a b : Ex)
  | abs (a : Ex)
  | len (a : Ex)
  | max (a b : Ex)
  | mklist (a : Ex)
  | toInt (a : Ex)
  | comp1 (elt : Ex) (x : Nat) (it : It)
  | comp2 (elt : Ex) (x y : Nat) (it : It)
inductive It where
  | rng1 (a : Ex)
  | rng2 (a b : Ex)
  | enm (a : Ex)
  | rev (a : Ex)
  | seq (a : Ex)
inductive Te where
  | tt
  | ff
  | cmp (op : Cop) (a b : Ex)
  | and (a b : Te)
  | or (a b : Te)
end

inductive St where
  | asg (x : Nat) (e : Ex)
  | asg2 (x y : Nat) (a b : Ex)
  | unp (x y : Nat) (e : Ex)
  | asgc (x : Nat) (e : Ex)
  | augsub (x : Nat) (e : Ex)
  | put (a i v : Ex)
  | app (a v : Ex)
  | ite (t : Te) (a b : List St)
  | whl (t : Te) (b : List St)
  | for1 (x : Nat) (it : It) (b : List St)
  | for2 (x y : Nat) (it : It) (b : List St)
  | ret (e : Ex)
  | raise

structure S where
  h : List (Nat × List V)
  n : Nat
abbrev Loc := List (Nat × V)

noncomputable def gets {α : Type} : List (Nat × α) → Nat → Option α
  | [], _ => none
  | p :: r, k => match Nat.beq p.1 k with
    | true => some p.2
    | false => gets r k
noncomputable def puts {α : Type} : List (Nat × α) → Nat → α → List (Nat × α)
  | [], k, v => [(k, v)]
  | p :: r, k, v => match Nat.beq p.1 k with
    | true => (k, v) :: r
    | false => p :: puts r k v

/-- a new list -/
noncomputable def S.new (s : S) (l : List V) : V × S := (.lst s.n, ⟨(s.n, l) :: s.h, s.n + 1⟩)
noncomputable def S.set (s : S) (k : Nat) (l : List V) : S := ⟨puts s.h k l, s.n⟩

inductive Fl where
  | nxt
  | ret (v : V)

noncomputable def memN : List Nat → Nat → Bool
  | [], _ => false
  | a :: r, k => match Nat.beq a k with
    | true => true
    | false => memN r k

/-- at most so many items -/
noncomputable def short : Nat → List V → Bool
  | _, [] => true
  | 0, _ :: _ => false
  | n + 1, _ :: r => short n r

noncomputable def idx (l : List V) (i : Int) : Option V := match i with
  | .ofNat n => l[n]?
  | .negSucc n => match Nat.ble (n + 1) l.length with
    | true => l[l.length - (n + 1)]?
    | false => none
noncomputable def cutTo (l : List V) (i : Int) : List V := match i with
  | .ofNat n => l.take n
  | .negSucc n => l.take (l.length - (n + 1))
noncomputable def inLong (i : Int) : Bool := match PySem.W.Z.ltB i (2 ^ 60) with
  | true => PySem.W.Z.ltB (-(2 ^ 60)) i
  | false => false

noncomputable def intsFrom (a : Int) : Nat → List V
  | 0 => []
  | n + 1 => .int a :: intsFrom (a + 1) n
noncomputable def nums : Nat → List V → List V
  | _, [] => []
  | i, v :: r => .pair (.int (.ofNat i)) v :: nums (i + 1) r

/-- the value of an operation upon two values -/
noncomputable def binop (op : Bop) (a b : V) (s : S) : Option (V × S) := match a, b with
  | .int x, .int y => match op with
    | .add => some (.int (x + y), s)
    | .sub => some (.int (x - y), s)
    | .mul => match Nat.blt y.natAbs (2 ^ 64) with
      | true => some (.int (x * y), s)
      | false => none
    | .fdiv => match PySem.W.Z.eqB y 0 with
      | true => none
      | false => match Nat.blt y.natAbs (2 ^ 64) with
        | true => some (.int (x.fdiv y), s)
        | false => none
    | .mod => match PySem.W.Z.eqB y 0 with
      | true => none
      | false => some (.int (x.fmod y), s)
    | .pow => match y with
      | .ofNat n => match Nat.ble n 64 with
        | true => match Nat.blt x.natAbs (2 ^ 64) with
          | true => some (.int (x ^ n), s)
          | false => none
        | false => none
      | .negSucc _ => none
  | .lst k, .lst j => match op with
    | .add => match gets s.h k, gets s.h j with
      | some l, some m => match short 512 l with
        | true => match short 512 m with
          | true => some (s.new (l ++ m))
          | false => none
        | false => none
      | _, _ => none
    | _ => none
  | _, _ => none

/-- plain data: intsFrom and pairs of ints, lists of those -/
noncomputable def pairEq : V → V → Option Bool
  | .pair (.int a) (.int b), .pair (.int c) (.int d) => match PySem.W.Z.eqB a c with
    | true => some (PySem.W.Z.eqB b d)
    | false => some false
  | _, _ => none
noncomputable def rowOk : List V → Bool
  | [] => true
  | .pair (.int _) (.int _) :: r => rowOk r
  | _ :: _ => false
noncomputable def rowEq : List V → List V → Bool
  | [], [] => true
  | a :: r, b :: t => match pairEq a b with
    | some true => rowEq r t
    | _ => false
  | _, _ => false
noncomputable def eqv (a b : V) (s : S) : Option Bool := match a, b with
  | .int x, .int y => some (PySem.W.Z.eqB x y)
  | .pair .., .pair .. => pairEq a b
  | .lst k, .lst j => match gets s.h k, gets s.h j with
    | some l, some m => match rowOk l with
      | true => match rowOk m with
        | true => match short 512 l with
          | true => match short 512 m with
            | true => some (rowEq l m)
            | false => none
          | false => none
        | false => none
      | false => none
    | _, _ => none
  | _, _ => none
noncomputable def cmpop (op : Cop) (a b : V) (s : S) : Option Bool := match op with
  | .eq => eqv a b s
  | .ne => match eqv a b s with
    | some r => some (!r)
    | none => none
  | .lt => match a, b with
    | .int x, .int y => some (PySem.W.Z.ltB x y)
    | _, _ => none
  | .le => match a, b with
    | .int x, .int y => some (PySem.W.Z.leB x y)
    | _, _ => none
  | .gt => match a, b with
    | .int x, .int y => some (PySem.W.Z.ltB y x)
    | _, _ => none
  | .ge => match a, b with
    | .int x, .int y => some (PySem.W.Z.leB y x)
    | _, _ => none

noncomputable def item (a i : V) (s : S) : Option V := match i with
  | .int k => match inLong k with
    | true => match a with
      | .lst n => match gets s.h n with
        | some l => idx l k
        | none => none
      | .pair x y => idx [x, y] k
      | .trip x y z => idx [x, y, z] k
      | _ => none
    | false => none
  | _ => none

structure Ev where
  e : List Nat → Ex → Loc → S → Option (V × S)
  s : List Nat → List St → Loc → S → Option (Fl × Loc × S)
  c : List Nat → Nat → List V → S → Option (V × S)

section
variable (ih : Ev) (lk : List Nat)

noncomputable def e2 (a b : Ex) (l : Loc) (s : S) (k : V → V → S → Option (V × S)) : Option (V × S) := match ih.e lk a l s with
  | some (x, s) => match ih.e lk b l s with
    | some (y, s) => k x y s
    | none => none
  | none => none

/-- the items of an iterable; the list that is walked, if one is -/
noncomputable def iter (it : It) (l : Loc) (s : S) : Option (List V × List Nat × S) := match it with
  | .rng1 a => match ih.e lk a l s with
    | some (.int x, s) => match inLong x with
      | true => match PySem.W.Z.ltB x 512 with
        | true => some (intsFrom 0 x.toNat, lk, s)
        | false => none
      | false => none
    | _ => none
  | .rng2 a b => match ih.e lk a l s with
    | some (.int x, s) => match ih.e lk b l s with
      | some (.int y, s) => match inLong x with
        | true => match inLong y with
          | true => match PySem.W.Z.ltB (y - x) 512 with
            | true => some (intsFrom x (y - x).toNat, lk, s)
            | false => none
          | false => none
        | false => none
      | _ => none
    | _ => none
  | .enm a => match ih.e lk a l s with
    | some (.lst k, s) => match gets s.h k with
      | some v => match short 512 v with
        | true => some (nums 0 v, k :: lk, s)
        | false => none
      | none => none
    | _ => none
  | .rev a => match ih.e lk a l s with
    | some (.lst k, s) => match gets s.h k with
      | some v => match short 512 v with
        | true => some (v.reverse, k :: lk, s)
        | false => none
      | none => none
    | _ => none
  | .seq a => match ih.e lk a l s with
    | some (.lst k, s) => match gets s.h k with
      | some v => match short 512 v with
        | true => some (v, k :: lk, s)
        | false => none
      | none => none
    | _ => none

noncomputable def bind1 (x : Nat) (v : V) (l : Loc) : Option Loc := some (puts l x v)
noncomputable def bind2 (x y : Nat) (v : V) (l : Loc) : Option Loc := match v with
  | .pair a b => some (puts (puts l x a) y b)
  | _ => none

/-- the elements of a comprehension -/
noncomputable def elts (b : V → Loc → Option Loc) (e : Ex) : List V → Loc → S → Option (List V × S)
  | [], _, s => some ([], s)
  | v :: r, l, s => match b v l with
    | some l => match ih.e lk e l s with
      | some (x, s) => match elts b e r l s with
        | some (xs, s) => some (x :: xs, s)
        | none => none
      | none => none
    | none => none

noncomputable def test : Te → Loc → S → Option (Bool × S)
  | .tt, _, s => some (true, s)
  | .ff, _, s => some (false, s)
  | .cmp op a b, l, s => match ih.e lk a l s with
    | some (x, s) => match ih.e lk b l s with
      | some (y, s) => match cmpop op x y s with
        | some r => some (r, s)
        | none => none
      | none => none
    | none => none
  | .and a b, l, s => match test a l s with
    | some (true, s) => test b l s
    | some (false, s) => some (false, s)
    | none => none
  | .or a b, l, s => match test a l s with
    | some (true, s) => some (true, s)
    | some (false, s) => test b l s
    | none => none

noncomputable def glob (x : Nat) : Option V := match x with
  | 0 => some (.pair (.int 0) (.int 1))
  | 1 => some (.pair (.int 1) (.int 1))
  | _ => none

noncomputable def stepE (e : Ex) (l : Loc) (s : S) : Option (V × S) := match e with
  | .loc x => match gets l x with
    | some v => some (v, s)
    | none => none
  | .glo x => match glob x with
    | some v => some (v, s)
    | none => none
  | .int i => some (.int i, s)
  | .bool b => some (.bool b, s)
  | .neg e => match ih.e lk e l s with
    | some (.int i, s) => some (.int (-i), s)
    | _ => none
  | .pair a b => e2 ih lk a b l s fun x y s => some (.pair x y, s)
  | .trip a b c => match ih.e lk a l s with
    | some (x, s) => match ih.e lk b l s with
      | some (y, s) => match ih.e lk c l s with
        | some (z, s) => some (.trip x y z, s)
        | none => none
      | none => none
    | none => none
  | .lst0 => some (s.new [])
  | .lst1 a => match ih.e lk a l s with
    | some (x, s) => some (s.new [x])
    | none => none
  | .lst2 a b => e2 ih lk a b l s fun x y s => some (s.new [x, y])
  | .lst3 a b c => match ih.e lk a l s with
    | some (x, s) => match ih.e lk b l s with
      | some (y, s) => match ih.e lk c l s with
        | some (z, s) => some (s.new [x, y, z])
        | none => none
      | none => none
    | none => none
  | .bin op a b => e2 ih lk a b l s (binop op)
  | .rep a n => e2 ih lk a n l s fun x y s => match y with
    | .int i => match PySem.W.Z.ltB i 512 with
      | true => match inLong i with
        | true => some (s.new (List.replicate i.toNat x))
        | false => none
      | false => none
    | _ => none
  | .cmp op a b => e2 ih lk a b l s fun x y s => match cmpop op x y s with
    | some r => some (.bool r, s)
    | none => none
  | .ife t a b => match test ih lk t l s with
    | some (true, s) => ih.e lk a l s
    | some (false, s) => ih.e lk b l s
    | none => none
  | .sub a i => e2 ih lk a i l s fun x y s => match item x y s with
    | some v => some (v, s)
    | none => none
  | .slTo a i => e2 ih lk a i l s fun x y s => match x, y with
    | .lst k, .int n => match gets s.h k with
      | some v => match short 512 v with
        | true => match inLong n with
          | true => some (s.new (cutTo v n))
          | false => none
        | false => none
      | none => none
    | _, _ => none
  | .slFrom a i => e2 ih lk a i l s fun x y s => match x, y with
    | .lst k, .int (.ofNat n) => match gets s.h k with
      | some v => match short 512 v with
        | true => some (s.new (v.drop n))
        | false => none
      | none => none
    | _, _ => none
  | .call1 f a => match ih.e lk a l s with
    | some (x, s) => ih.c lk f [x] s
    | none => none
  | .call2 f a b => e2 ih lk a b l s fun x y s => ih.c lk f [x, y] s
  | .abs a => match ih.e lk a l s with
    | some (.int i, s) => some (.int (.ofNat i.natAbs), s)
    | _ => none
  | .len a => match ih.e lk a l s with
    | some (.lst k, s) => match gets s.h k with
      | some v => match short 512 v with
        | true => some (.int (.ofNat v.length), s)
        | false => none
      | none => none
    | _ => none
  | .max a b => e2 ih lk a b l s fun x y s => match x, y with
    | .int i, .int j => match PySem.W.Z.ltB i j with
      | true => some (.int j, s)
      | false => some (.int i, s)
    | _, _ => none
  | .mklist a => match ih.e lk a l s with
    | some (.lst k, s) => match gets s.h k with
      | some v => match short 512 v with
        | true => some (s.new v)
        | false => none
      | none => none
    | _ => none
  | .toInt a => match ih.e lk a l s with
    | some (.int i, s) => some (.int i, s)
    | _ => none
  | .comp1 e x it => match iter ih lk it l s with
    | some (vs, lk', s) => match elts ih lk' (bind1 x) e vs l s with
      | some (xs, s) => some (s.new xs)
      | none => none
    | none => none
  | .comp2 e x y it => match iter ih lk it l s with
    | some (vs, lk', s) => match elts ih lk' (bind2 x y) e vs l s with
      | some (xs, s) => some (s.new xs)
      | none => none
    | none => none

/-- a for loop over known items -/
noncomputable def loopF (b : V → Loc → Option Loc) (lk : List Nat) (body : List St) : List V → Loc → S → Option (Fl × Loc × S)
  | [], l, s => some (.nxt, l, s)
  | v :: r, l, s => match b v l with
    | some l => match ih.s lk body l s with
      | some (.nxt, l, s) => loopF b lk body r l s
      | some (.ret v, l, s) => some (.ret v, l, s)
      | none => none
    | none => none

noncomputable def loopW (t : Te) (body : List St) : Nat → Loc → S → Option (Fl × Loc × S)
  | 0, _, _ => none
  | n + 1, l, s => match test ih lk t l s with
    | some (true, s) => match ih.s lk body l s with
      | some (.nxt, l, s) => loopW t body n l s
      | some (.ret v, l, s) => some (.ret v, l, s)
      | none => none
    | some (false, s) => some (.nxt, l, s)
    | none => none

noncomputable def stepS (c : St) (l : Loc) (s : S) : Option (Fl × Loc × S) := match c with
  | .asg x e => match ih.e lk e l s with
    | some (v, s) => some (.nxt, puts l x v, s)
    | none => none
  | .asgc x e => match ih.e lk e l s with
    | some (v, s) => some (.nxt, puts l x v, s)
    | none => none
  | .asg2 x y a b => match ih.e lk a l s with
    | some (u, s) => match ih.e lk b l s with
      | some (v, s) => some (.nxt, puts (puts l y v) x u, s)
      | none => none
    | none => none
  | .unp x y e => match ih.e lk e l s with
    | some (.pair u v, s) => some (.nxt, puts (puts l x u) y v, s)
    | _ => none
  | .augsub x e => match gets l x with
    | some (.int i) => match ih.e lk e l s with
      | some (.int j, s) => some (.nxt, puts l x (.int (i - j)), s)
      | _ => none
    | _ => none
  | .put a i v => match ih.e lk v l s with
    | some (w, s) => match ih.e lk a l s with
      | some (.lst k, s) => match ih.e lk i l s with
        | some (.int (.ofNat n), s) => match memN lk k with
          | true => none
          | false => match gets s.h k with
            | some vs => match short 512 vs with
              | true => match Nat.blt n vs.length with
                | true => some (.nxt, l, s.set k (vs.set n w))
                | false => none
              | false => none
            | none => none
        | _ => none
      | _ => none
    | none => none
  | .app a v => match ih.e lk a l s with
    | some (.lst k, s) => match ih.e lk v l s with
      | some (w, s) => match memN lk k with
        | true => none
        | false => match gets s.h k with
          | some vs => match short 512 vs with
            | true => some (.nxt, l, s.set k (vs ++ [w]))
            | false => none
          | none => none
      | none => none
    | _ => none
  | .ite t a b => match test ih lk t l s with
    | some (true, s) => ih.s lk a l s
    | some (false, s) => ih.s lk b l s
    | none => none
  | .whl t b => loopW ih lk t b 64 l s
  | .for1 x it b => match iter ih lk it l s with
    | some (vs, lk', s) => loopF ih (bind1 x) lk' b vs l s
    | none => none
  | .for2 x y it b => match iter ih lk it l s with
    | some (vs, lk', s) => loopF ih (bind2 x y) lk' b vs l s
    | none => none
  | .ret e => match ih.e lk e l s with
    | some (v, s) => some (.ret v, l, s)
    | none => none
  | .raise => none

noncomputable def stepSs : List St → Loc → S → Option (Fl × Loc × S)
  | [], l, s => some (.nxt, l, s)
  | c :: r, l, s => match stepS ih lk c l s with
    | some (.nxt, l, s) => stepSs r l s
    | some (.ret v, l, s) => some (.ret v, l, s)
    | none => none
end

/-- the names of the parameters by number, the body -/
abbrev Fun := List Nat × List St
noncomputable def zipL : List Nat → List V → Option Loc
  | [], [] => some []
  | x :: xs, v :: vs => match zipL xs vs with
    | some l => some ((x, v) :: l)
    | none => none
  | _, _ => none
noncomputable def stepC (tbl : List (Nat × Fun)) (ih : Ev) (lk : List Nat) (f : Nat) (vs : List V) (s : S) : Option (V × S) := match gets tbl f with
  | some (ps, b) => match zipL ps vs with
    | some l => match ih.s lk b l s with
      | some (.ret v, _, s) => some (v, s)
      | _ => none
    | none => none
  | none => none

noncomputable def evs (tbl : List (Nat × Fun)) : Nat → Ev
  | 0 => ⟨fun _ _ _ _ => none, fun _ _ _ _ => none, fun _ _ _ _ => none⟩
  | n + 1 => ⟨fun lk e l s => stepE (evs tbl n) lk e l s, fun lk b l s => stepSs (evs tbl n) lk b l s, fun lk f vs s => stepC tbl (evs tbl n) lk f vs s⟩
end Mine
namespace Mine
/-- gcd -/
noncomputable def n_gcd : List String := ["a", "b"]
noncomputable def b_gcd : List St := [.asg2 0 1 (.abs (.loc 0)) (.abs (.loc 1)), .whl (.cmp .ne (.loc 1) (.int 0)) [.asg2 0 1 (.loc 1) (.bin .mod (.loc 0) (.loc 1))], .ret (.loc 0)]
/-- rat -/
noncomputable def n_rat : List String := ["top", "bottom", "g"]
noncomputable def b_rat : List St := [.ite (.cmp .eq (.loc 1) (.int 0)) [.raise] [], .asg 2 (.ife (.cmp .gt (.loc 1) (.int 0)) (.call2 0 (.loc 0) (.loc 1)) (.bin .sub (.int 0) (.call2 0 (.loc 0) (.loc 1)))), .ret (.pair (.bin .fdiv (.loc 0) (.loc 2)) (.bin .fdiv (.loc 1) (.loc 2)))]
/-- radd -/
noncomputable def n_radd : List String := ["a", "b"]
noncomputable def b_radd : List St := [.ret (.call2 1 (.bin .add (.bin .mul (.sub (.loc 0) (.int 0)) (.sub (.loc 1) (.int 1))) (.bin .mul (.sub (.loc 1) (.int 0)) (.sub (.loc 0) (.int 1)))) (.bin .mul (.sub (.loc 0) (.int 1)) (.sub (.loc 1) (.int 1))))]
/-- rmul -/
noncomputable def n_rmul : List String := ["a", "b"]
noncomputable def b_rmul : List St := [.ret (.call2 1 (.bin .mul (.sub (.loc 0) (.int 0)) (.sub (.loc 1) (.int 0))) (.bin .mul (.sub (.loc 0) (.int 1)) (.sub (.loc 1) (.int 1))))]
/-- rdiv -/
noncomputable def n_rdiv : List String := ["a", "b"]
noncomputable def b_rdiv : List St := [.ret (.call2 1 (.bin .mul (.sub (.loc 0) (.int 0)) (.sub (.loc 1) (.int 1))) (.bin .mul (.sub (.loc 0) (.int 1)) (.sub (.loc 1) (.int 0))))]
/-- rneg -/
noncomputable def n_rneg : List String := ["a"]
noncomputable def b_rneg : List St := [.ret (.pair (.bin .sub (.int 0) (.sub (.loc 0) (.int 0))) (.sub (.loc 0) (.int 1)))]
/-- qtrim -/
noncomputable def n_qtrim : List String := ["row", "size"]
noncomputable def b_qtrim : List St := [.asg 1 (.len (.loc 0)), .whl (.and (.cmp .gt (.loc 1) (.int 0)) (.and (.cmp .eq (.sub (.sub (.loc 0) (.bin .sub (.loc 1) (.int 1))) (.int 0)) (.int 0)) .tt)) [.augsub 1 (.int 1)], .ret (.mklist (.slTo (.loc 0) (.loc 1)))]
/-- qadd -/
noncomputable def n_qadd : List String := ["a", "b", "size", "at"]
noncomputable def b_qadd : List St := [.asg 2 (.max (.len (.loc 0)) (.len (.loc 1))), .ret (.call1 6 (.comp1 (.call2 2 (.ife (.cmp .lt (.loc 3) (.len (.loc 0))) (.sub (.loc 0) (.loc 3)) (.glo 0)) (.ife (.cmp .lt (.loc 3) (.len (.loc 1))) (.sub (.loc 1) (.loc 3)) (.glo 0))) 3 (.rng1 (.loc 2))))]
/-- qneg -/
noncomputable def n_qneg : List String := ["p", "number"]
noncomputable def b_qneg : List St := [.ret (.comp1 (.call1 5 (.loc 1)) 1 (.seq (.loc 0)))]
/-- qsub -/
noncomputable def n_qsub : List String := ["a", "b"]
noncomputable def b_qsub : List St := [.ret (.call2 7 (.loc 0) (.call1 8 (.loc 1)))]
/-- qscale -/
noncomputable def n_qscale : List String := ["p", "r", "number"]
noncomputable def b_qscale : List St := [.ret (.ife (.cmp .ne (.sub (.loc 1) (.int 0)) (.int 0)) (.comp1 (.call2 3 (.loc 2) (.loc 1)) 2 (.seq (.loc 0))) (.lst0))]
/-- qraise -/
noncomputable def n_qraise : List String := ["p", "many"]
noncomputable def b_qraise : List St := [.ret (.ife (.cmp .gt (.len (.loc 0)) (.int 0)) (.bin .add (.rep (.glo 0) (.loc 1)) (.mklist (.loc 0))) (.lst0))]
/-- qmul -/
noncomputable def n_qmul : List String := ["a", "b", "found", "one", "left", "other", "right"]
noncomputable def b_qmul : List St := [.ite (.or (.cmp .eq (.len (.loc 0)) (.int 0)) (.or (.cmp .eq (.len (.loc 1)) (.int 0)) .ff)) [.ret (.lst0)] [], .asg 2 (.rep (.glo 0) (.bin .sub (.bin .add (.len (.loc 0)) (.len (.loc 1))) (.int 1))), .for2 3 4 (.enm (.loc 0)) [.for2 5 6 (.enm (.loc 1)) [.put (.loc 2) (.bin .add (.loc 3) (.loc 5)) (.call2 2 (.sub (.loc 2) (.bin .add (.loc 3) (.loc 5))) (.call2 3 (.loc 4) (.loc 6)))]], .ret (.loc 2)]
/-- qdivmod -/
noncomputable def n_qdivmod : List String := ["a", "b", "rest", "found", "number", "power", "lower"]
noncomputable def b_qdivmod : List St := [.ite (.cmp .eq (.len (.loc 1)) (.int 0)) [.raise] [], .asg2 2 3 (.mklist (.loc 0)) (.rep (.glo 0) (.max (.int 0) (.bin .add (.bin .sub (.len (.loc 0)) (.len (.loc 1))) (.int 1)))), .whl (.cmp .ge (.len (.loc 2)) (.len (.loc 1))) [.asg2 4 5 (.call2 4 (.sub (.loc 2) (.neg (.int 1))) (.sub (.loc 1) (.neg (.int 1)))) (.bin .sub (.len (.loc 2)) (.len (.loc 1))), .put (.loc 3) (.loc 5) (.loc 4), .asg 6 (.call2 9 (.slTo (.loc 2) (.neg (.int 1))) (.call2 11 (.call2 10 (.slTo (.loc 1) (.neg (.int 1))) (.loc 4)) (.loc 5))), .asg 2 (.loc 6)], .ret (.pair (.call1 6 (.loc 3)) (.loc 2))]
/-- qderive -/
noncomputable def n_qderive : List String := ["p", "power", "number"]
noncomputable def b_qderive : List St := [.ret (.slFrom (.comp2 (.call2 3 (.loc 2) (.pair (.loc 1) (.int 1))) 1 2 (.enm (.loc 0))) (.int 1))]
/-- qintegral -/
noncomputable def n_qintegral : List String := ["p", "power", "number", "found"]
noncomputable def b_qintegral : List St := [.asgc 3 (.comp2 (.call2 4 (.loc 2) (.pair (.bin .add (.loc 1) (.int 1)) (.int 1))) 1 2 (.enm (.loc 0))), .ret (.ife (.cmp .gt (.len (.loc 3)) (.int 0)) (.bin .add (.lst1 (.glo 0)) (.loc 3)) (.lst0))]
/-- qat -/
noncomputable def n_qat : List String := ["p", "r", "found", "number"]
noncomputable def b_qat : List St := [.asg 2 (.glo 0), .for1 3 (.rev (.loc 0)) [.asg 2 (.call2 2 (.call2 3 (.loc 2) (.loc 1)) (.loc 3))], .ret (.loc 2)]
/-- qcompose -/
noncomputable def n_qcompose : List String := ["a", "b", "found", "number"]
noncomputable def b_qcompose : List St := [.asg 2 (.lst0), .for1 3 (.rev (.loc 0)) [.asg 2 (.call2 7 (.call2 12 (.loc 2) (.loc 1)) (.call1 6 (.lst1 (.loc 3))))], .ret (.loc 2)]
/-- binomial_row -/
noncomputable def n_binomial_row : List String := ["n", "found", "k"]
noncomputable def b_binomial_row : List St := [.asg 1 (.lst1 (.int 1)), .for1 2 (.rng1 (.loc 0)) [.app (.loc 1) (.bin .fdiv (.bin .mul (.sub (.loc 1) (.loc 2)) (.bin .sub (.loc 0) (.loc 2))) (.bin .add (.loc 2) (.int 1)))], .ret (.loc 1)]
/-- bernoulli_row -/
noncomputable def n_bernoulli_row : List String := ["n", "found", "m", "row", "total", "k"]
noncomputable def b_bernoulli_row : List St := [.asg 1 (.lst1 (.glo 1)), .for1 2 (.rng2 (.int 1) (.bin .add (.loc 0) (.int 1))) [.asg2 3 4 (.call1 18 (.bin .add (.loc 2) (.int 1))) (.glo 0), .for1 5 (.rng1 (.loc 2)) [.asg 4 (.call2 2 (.loc 4) (.call2 3 (.call2 1 (.sub (.loc 3) (.loc 5)) (.int 1)) (.sub (.loc 1) (.loc 5))))], .app (.loc 1) (.call1 5 (.call2 4 (.loc 4) (.pair (.bin .add (.loc 2) (.int 1)) (.int 1))))], .ret (.loc 1)]
/-- power_sum -/
noncomputable def n_power_sum : List String := ["k", "row", "known", "found", "power"]
noncomputable def b_power_sum : List St := [.asg2 1 2 (.call1 18 (.bin .add (.loc 0) (.int 1))) (.call1 19 (.loc 0)), .asg 3 (.lst1 (.glo 0)), .for1 4 (.rng2 (.int 1) (.bin .add (.loc 0) (.int 2))) [.app (.loc 3) (.call2 4 (.call2 3 (.call2 1 (.sub (.loc 1) (.loc 4)) (.int 1)) (.sub (.loc 2) (.bin .sub (.bin .add (.loc 0) (.int 1)) (.loc 4)))) (.pair (.bin .add (.loc 0) (.int 1)) (.int 1)))], .ret (.loc 3)]
/-- polynomial_sum -/
noncomputable def n_polynomial_sum : List String := ["p", "found", "power", "coefficient"]
noncomputable def b_polynomial_sum : List St := [.asg 1 (.lst0), .for2 2 3 (.enm (.loc 0)) [.ite (.cmp .ne (.loc 3) (.glo 0)) [.asg 1 (.call2 7 (.loc 1) (.call2 10 (.call1 20 (.loc 2)) (.loc 3)))] []], .ret (.loc 1)]
/-- _law_draw -/
noncomputable def n_law_draw : List String := ["pool", "many", "spot"]
noncomputable def b_law_draw : List St := [.asg 2 (.sub (.loc 0) (.int 1)), .put (.loc 0) (.int 1) (.bin .add (.loc 2) (.int 1)), .ite (.cmp .lt (.loc 2) (.len (.sub (.loc 0) (.int 0)))) [.ret (.bin .mod (.abs (.sub (.sub (.loc 0) (.int 0)) (.loc 2))) (.loc 1))] [], .ret (.bin .mod (.sub (.trip (.int 0) (.int 1) (.int 0)) (.bin .mod (.loc 2) (.int 3))) (.loc 1))]
/-- _law_bernoulli -/
noncomputable def n_law_bernoulli : List String := ["row", "n", "some", "power"]
noncomputable def b_law_bernoulli : List St := [.asg 2 (.call1 18 (.loc 1)), .ret (.comp1 (.call2 1 (.bin .mul (.sub (.loc 2) (.loc 3)) (.sub (.sub (.loc 0) (.bin .sub (.loc 1) (.loc 3))) (.int 0))) (.sub (.sub (.loc 0) (.bin .sub (.loc 1) (.loc 3))) (.int 1))) 3 (.rng1 (.bin .add (.loc 1) (.int 1))))]
/-- _law_cut_right -/
noncomputable def n_law_cut_right : List String := ["pool", "n", "m", "row", "here", "ahead", "total", "part"]
noncomputable def b_law_cut_right : List St := [.asg2 1 2 (.bin .add (.int 2) (.call2 22 (.loc 0) (.int 3))) (.bin .add (.int 2) (.call2 22 (.loc 0) (.int 2))), .asg 3 (.call1 19 (.loc 1)), .asg2 4 5 (.call2 23 (.loc 3) (.loc 1)) (.call2 23 (.loc 3) (.bin .sub (.loc 1) (.int 1))), .ite (.cmp .ne (.call2 9 (.call2 17 (.loc 4) (.lst2 (.pair (.int 1) (.int 1)) (.pair (.int 1) (.int 1)))) (.loc 4)) (.bin .add (.rep (.pair (.int 0) (.int 1)) (.bin .sub (.loc 1) (.int 1))) (.lst1 (.pair (.loc 1) (.int 1))))) [.ret (.bool false)] [], .ite (.or (.cmp .ne (.call2 17 (.loc 4) (.lst2 (.pair (.int 1) (.int 1)) (.pair (.neg (.int 1)) (.int 1)))) (.call2 10 (.loc 4) (.pair (.bin .pow (.neg (.int 1)) (.loc 1)) (.int 1)))) (.or (.cmp .ne (.call1 14 (.loc 4)) (.call2 10 (.loc 5) (.pair (.loc 1) (.int 1)))) .ff)) [.ret (.bool false)] [], .asg 6 (.loc 4), .for1 7 (.rng2 (.int 1) (.loc 2)) [.asg 6 (.call2 7 (.loc 6) (.call2 17 (.loc 4) (.lst2 (.pair (.loc 7) (.loc 2)) (.pair (.int 1) (.int 1)))))], .ite (.cmp .ne (.call2 10 (.loc 6) (.pair (.bin .pow (.loc 2) (.bin .sub (.loc 1) (.int 1))) (.int 1))) (.call2 17 (.loc 4) (.lst2 (.pair (.int 0) (.int 1)) (.pair (.loc 2) (.int 1))))) [.ret (.bool false)] [], .ret (.cmp .eq (.call2 10 (.call1 20 (.bin .sub (.loc 1) (.int 1))) (.pair (.loc 1) (.int 1))) (.call2 9 (.loc 4) (.lst1 (.sub (.loc 3) (.loc 1)))))]
/-- _law_sums_right -/
noncomputable def n_law_sums_right : List String := ["pool", "k", "whole", "left", "rests", "turn", "rest", "some", "power", "odds"]
noncomputable def b_law_sums_right : List St := [.asg 1 (.bin .add (.int 1) (.call2 22 (.loc 0) (.int 5))), .asg 2 (.call1 20 (.loc 1)), .asg2 3 4 (.loc 2) (.lst0), .for1 5 (.rng1 (.bin .add (.bin .fdiv (.loc 1) (.int 2)) (.int 2))) [.unp 3 6 (.call2 13 (.loc 3) (.lst3 (.pair (.int 0) (.int 1)) (.pair (.neg (.int 1)) (.int 2)) (.pair (.int 1) (.int 2)))), .app (.loc 4) (.loc 6)], .ite (.or (.cmp .ne (.loc 3) (.lst0)) (.or (.cmp .ne (.sub (.loc 4) (.int 0)) (.lst0)) (.or (.and (.cmp .gt (.loc 1) (.int 2)) (.and (.cmp .eq (.bin .mod (.loc 1) (.int 2)) (.int 1)) (.and (.cmp .ne (.sub (.loc 4) (.int 1)) (.lst0)) .tt))) .ff))) [.ret (.bool false)] [], .for1 6 (.seq (.loc 4)) [.ite (.and (.cmp .eq (.bin .mod (.loc 1) (.int 2)) (.int 1)) (.and (.cmp .gt (.len (.loc 6)) (.int 1)) .tt)) [.ret (.bool false)] [], .ite (.and (.cmp .eq (.bin .mod (.loc 1) (.int 2)) (.int 0)) (.and (.cmp .ne (.loc 6) (.lst0)) (.and (.cmp .ne (.loc 6) (.call2 10 (.lst2 (.pair (.neg (.int 1)) (.int 1)) (.pair (.int 2) (.int 1))) (.pair (.bin .sub (.int 0) (.sub (.sub (.loc 6) (.int 0)) (.int 0))) (.sub (.sub (.loc 6) (.int 0)) (.int 1))))) .tt))) [.ret (.bool false)] []], .ite (.cmp .gt (.loc 1) (.int 4)) [.ret (.bool true)] [], .asg 7 (.call1 18 (.loc 1)), .asg 9 (.call1 21 (.comp1 (.pair (.bin .mul (.sub (.loc 7) (.loc 8)) (.bin .pow (.int 2) (.loc 8))) (.int 1)) 8 (.rng1 (.bin .add (.loc 1) (.int 1))))), .ret (.cmp .eq (.loc 9) (.call2 9 (.call2 17 (.loc 2) (.lst2 (.pair (.int 0) (.int 1)) (.pair (.int 2) (.int 1)))) (.call2 10 (.loc 2) (.pair (.bin .pow (.int 2) (.loc 1)) (.int 1)))))]
/-- _law_integral_right -/
noncomputable def n_law_integral_right : List String := ["pool", "m", "n", "row", "one", "other", "choices"]
noncomputable def b_law_integral_right : List St := [.asg2 1 2 (.bin .add (.int 1) (.call2 22 (.loc 0) (.int 3))) (.bin .add (.int 1) (.call2 22 (.loc 0) (.int 3))), .asg 3 (.call1 19 (.bin .add (.loc 1) (.loc 2))), .asg2 4 5 (.call2 23 (.loc 3) (.loc 1)) (.call2 23 (.loc 3) (.loc 2)), .ite (.cmp .ne (.call2 16 (.call1 15 (.loc 4)) (.pair (.int 1) (.int 1))) (.pair (.int 0) (.int 1))) [.ret (.bool false)] [], .asg 6 (.sub (.call1 18 (.bin .add (.loc 1) (.loc 2))) (.loc 1)), .ret (.cmp .eq (.call2 16 (.call1 15 (.call2 12 (.loc 4) (.loc 5))) (.pair (.int 1) (.int 1))) (.call2 1 (.bin .mul (.bin .pow (.neg (.int 1)) (.bin .sub (.loc 2) (.int 1))) (.sub (.sub (.loc 3) (.bin .add (.loc 1) (.loc 2))) (.int 0))) (.bin .mul (.loc 6) (.sub (.sub (.loc 3) (.bin .add (.loc 1) (.loc 2))) (.int 1)))))]
/-- law -/
noncomputable def n_law : List String := ["script", "cell", "pool", "form"]
noncomputable def b_law : List St := [.asg 2 (.lst2 (.comp1 (.toInt (.loc 1)) 1 (.seq (.slTo (.loc 0) (.int 3)))) (.int 0)), .asg 3 (.call2 22 (.loc 2) (.int 3)), .ite (.cmp .eq (.loc 3) (.int 0)) [.ret (.call1 24 (.loc 2))] [], .ret (.ife (.cmp .eq (.loc 3) (.int 1)) (.call1 25 (.loc 2)) (.call1 26 (.loc 2)))]
noncomputable def tbl : List (Nat × Fun) := [(0, ([0, 1], b_gcd)), (1, ([0, 1], b_rat)), (2, ([0, 1], b_radd)), (3, ([0, 1], b_rmul)), (4, ([0, 1], b_rdiv)), (5, ([0], b_rneg)), (6, ([0], b_qtrim)), (7, ([0, 1], b_qadd)), (8, ([0], b_qneg)), (9, ([0, 1], b_qsub)), (10, ([0, 1], b_qscale)), (11, ([0, 1], b_qraise)), (12, ([0, 1], b_qmul)), (13, ([0, 1], b_qdivmod)), (14, ([0], b_qderive)), (15, ([0], b_qintegral)), (16, ([0, 1], b_qat)), (17, ([0, 1], b_qcompose)), (18, ([0], b_binomial_row)), (19, ([0], b_bernoulli_row)), (20, ([0], b_power_sum)), (21, ([0], b_polynomial_sum)), (22, ([0, 1], b_law_draw)), (23, ([0, 1], b_law_bernoulli)), (24, ([0], b_law_cut_right)), (25, ([0], b_law_sums_right)), (26, ([0], b_law_integral_right)), (27, ([0], b_law))]
noncomputable def runLaw (xs : List Int) : Option (V × S) := (evs tbl 100).c [0] 27 [.lst 0] ⟨[(0, xs.map .int)], 1⟩
noncomputable def isT : Option (V × S) → Bool
  | some (.bool true, _) => true
  | _ => false
end Mine
/-! THE RELATIONS: values, lists and locals of the machine in the interpreter's heap. -/
namespace Mine
set_option genSizeOf false
set_option genSizeOfSpec false
set_option genInjectivity false
open PySem PySem.Spec PySem.Calls PyProof.Rows PyProof.V PySem.W

noncomputable def VR (T : Nat → Addr) (n : Nat) (h : Heap) : V → Value → Prop
  | .none, w => w = .none
  | .bool b, w => w = .bool b
  | .int i, w => ∃ t, w = .int i t
  | .lst k, w => k < n ∧ w = .ref (T k)
  | .pair a b, w => ∃ p u v, w = .ref p ∧ IsTup h p #[u, v] ∧ VR T n h a u ∧ VR T n h b v
  | .trip a b c, w => ∃ p u v x, w = .ref p ∧ IsTup h p #[u, v, x] ∧ VR T n h a u ∧ VR T n h b v ∧ VR T n h c x
noncomputable def VRs (T : Nat → Addr) (n : Nat) (h : Heap) : List V → List Value → Prop
  | [], ws => ws = []
  | v :: vs, ws => ∃ w r, ws = w :: r ∧ VR T n h v w ∧ VRs T n h vs r

theorem VR.mono {T T' : Nat → Addr} {n n' : Nat} {h h' : Heap} (hT : ∀ k, k < n → T' k = T k) (hn : n ≤ n') (hk : ∀ p xs, IsTup h p xs → IsTup h' p xs) :
    ∀ (v : V) {w : Value}, VR T n h v w → VR T' n' h' v w
  | .none, _, e => e
  | .bool _, _, e => e
  | .int _, _, e => e
  | .lst k, _, e => ⟨Nat.lt_of_lt_of_le e.1 hn, by rw [e.2, hT k e.1]⟩
  | .pair a b, _, ⟨p, u, v, e, t, x, y⟩ => ⟨p, u, v, e, hk _ _ t, VR.mono hT hn hk a x, VR.mono hT hn hk b y⟩
  | .trip a b c, _, ⟨p, u, v, z, e, t, x, y, q⟩ => ⟨p, u, v, z, e, hk _ _ t, VR.mono hT hn hk a x, VR.mono hT hn hk b y, VR.mono hT hn hk c q⟩
theorem VRs.mono {T T' : Nat → Addr} {n n' : Nat} {h h' : Heap} (hT : ∀ k, k < n → T' k = T k) (hn : n ≤ n') (hk : ∀ p xs, IsTup h p xs → IsTup h' p xs) :
    ∀ (vs : List V) {ws : List Value}, VRs T n h vs ws → VRs T' n' h' vs ws
  | [], _, e => e
  | v :: vs, _, ⟨w, r, e, x, y⟩ => ⟨w, r, e, VR.mono hT hn hk v x, VRs.mono hT hn hk vs y⟩
theorem VRs.length {T : Nat → Addr} {n : Nat} {h : Heap} : ∀ {vs : List V} {ws : List Value}, VRs T n h vs ws → ws.length = vs.length
  | [], _, e => by rw [show _ = [] from e]; rfl
  | _ :: vs, _, ⟨w, r, e, _, y⟩ => by rw [e, List.length_cons, List.length_cons, VRs.length y]
theorem VRs.get {T : Nat → Addr} {n : Nat} {h : Heap} : ∀ {vs : List V} {ws : List Value}, VRs T n h vs ws → ∀ {i : Nat} {v : V}, vs[i]? = some v → ∃ w, ws[i]? = some w ∧ VR T n h v w
  | [], _, _, i, v, g => by simp at g
  | a :: vs, _, ⟨w, r, e, x, y⟩, 0, v, g => by
    subst e
    simp at g
    subst g
    exact ⟨w, rfl, x⟩
  | a :: vs, _, ⟨w, r, e, x, y⟩, i + 1, v, g => by
    subst e
    obtain ⟨w', h1, h2⟩ := VRs.get y (i := i) (v := v) (by simpa using g)
    exact ⟨w', by simpa using h1, h2⟩
theorem VRs.append {T : Nat → Addr} {n : Nat} {h : Heap} : ∀ {vs us : List V} {ws xs : List Value}, VRs T n h vs ws → VRs T n h us xs → VRs T n h (vs ++ us) (ws ++ xs)
  | [], _, _, _, e, f => by rw [show _ = [] from e]; exact f
  | v :: vs, _, _, _, ⟨w, r, e, x, y⟩, f => ⟨w, r ++ _, by rw [e]; rfl, x, VRs.append y f⟩
theorem VRs.set {T : Nat → Addr} {n : Nat} {h : Heap} : ∀ {vs : List V} {ws : List Value} (i : Nat) {v : V} {w : Value}, VRs T n h vs ws → VR T n h v w → VRs T n h (vs.set i v) (ws.set i w)
  | [], _, i, _, _, e, _ => by rw [show _ = [] from e]; exact rfl
  | a :: vs, _, 0, v, w, ⟨w', r, e, x, y⟩, f => by subst e; exact ⟨w, r, rfl, f, y⟩
  | a :: vs, _, i + 1, v, w, ⟨w', r, e, x, y⟩, f => by subst e; exact ⟨w', r.set i w, rfl, x, VRs.set i y f⟩
theorem VRs.take {T : Nat → Addr} {n : Nat} {h : Heap} : ∀ (i : Nat) {vs : List V} {ws : List Value}, VRs T n h vs ws → VRs T n h (vs.take i) (ws.take i)
  | 0, _, _, _ => by simp [VRs]
  | i + 1, [], _, e => by rw [show _ = [] from e]; exact rfl
  | i + 1, a :: vs, _, ⟨w', r, e, x, y⟩ => by subst e; exact ⟨w', r.take i, rfl, x, VRs.take i y⟩
theorem VRs.drop {T : Nat → Addr} {n : Nat} {h : Heap} : ∀ (i : Nat) {vs : List V} {ws : List Value}, VRs T n h vs ws → VRs T n h (vs.drop i) (ws.drop i)
  | 0, _, _, e => by simpa using e
  | i + 1, [], _, e => by rw [show _ = [] from e]; exact rfl
  | i + 1, a :: vs, _, ⟨w', r, e, x, y⟩ => by subst e; exact VRs.drop i y
theorem VRs.replicate {T : Nat → Addr} {n : Nat} {h : Heap} {v : V} {w : Value} (e : VR T n h v w) : ∀ i, VRs T n h (List.replicate i v) (List.replicate i w)
  | 0 => rfl
  | i + 1 => ⟨w, List.replicate i w, rfl, e, VRs.replicate e i⟩
theorem VRs.reverse {T : Nat → Addr} {n : Nat} {h : Heap} : ∀ {vs : List V} {ws : List Value}, VRs T n h vs ws → VRs T n h vs.reverse ws.reverse
  | [], _, e => by rw [show _ = [] from e]; exact rfl
  | a :: vs, _, ⟨w', r, e, x, y⟩ => by
    subst e
    rw [List.reverse_cons, List.reverse_cons]
    exact VRs.append (VRs.reverse y) ⟨w', [], rfl, x, rfl⟩

/-- the machine's lists in the heap -/
structure Inv (h₀ : Heap) (lk : List Nat) (T : Nat → Addr) (s : S) (h : Heap) : Prop where
  base : ∀ a o, h₀.get? a = some o → h.get? a = some o
  dom : ∀ k l, gets s.h k = some l → k < s.n
  lst : ∀ k, k < s.n → ∃ l ws, gets s.h k = some l ∧ h.IsList (T k) ws.toArray ∧ VRs T s.n h l ws
  inj : ∀ k j, k < s.n → j < s.n → T k = T j → k = j
  fresh : ∀ k, k < s.n → memN lk k = false → h₀.get? (T k) = none
  plain : ∀ k, k < s.n → memN lk k = false → ∃ o, h.get? (T k) = some o ∧ o.dict = none

/-- own places: no list, no tuple -/
def NoSeq (h : Heap) (own : Addr → Prop) : Prop := ∀ a o, own a → h.get? a = some o → ∀ xs n, o.data ≠ .seq xs n

structure Post (h₀ : Heap) (own : Addr → Prop) (lk : List Nat) (T : Nat → Addr) (s : S) (h : Heap) (T' : Nat → Addr) (s' : S) (h' : Heap) : Prop where
  inv : Inv h₀ lk T' s' h'
  agree : ∀ k, k < s.n → T' k = T k
  le : s.n ≤ s'.n
  ext : ∀ a o, h.get? a = some o → ¬ own a → (∀ k, k < s.n → T k ≠ a) → h'.get? a = some o
  live : ∀ a o, h.get? a = some o → ∃ o', h'.get? a = some o'
  new : ∀ k, s.n ≤ k → k < s'.n → h.get? (T' k) = none
  lock : ∀ k, memN lk k = true → k < s.n → gets s'.h k = gets s.h k
  lockh : ∀ k o, memN lk k = true → k < s.n → h.get? (T k) = some o → h'.get? (T k) = some o
  noseq : NoSeq h' own

section
variable {h₀ h h' h'' : Heap} {own : Addr → Prop} {lk : List Nat} {T T' T'' : Nat → Addr} {s s' s'' : S}

theorem Inv.notTup (I : Inv h₀ lk T s h) {k : Nat} (hk : k < s.n) {p : Addr} {xs : Array Value} (ht : IsTup h p xs) : T k ≠ p := by
  intro e
  obtain ⟨l, ws, _, ⟨o, ho, hc, _⟩, _⟩ := I.lst k hk
  obtain ⟨o', ho', hc', _⟩ := ht
  rw [e, ho'] at ho
  cases ho
  rw [hc'] at hc
  exact absurd (Value.type.inj hc) (by decide)
theorem NoSeq.tup (N : NoSeq h own) {p : Addr} {xs : Array Value} (ht : IsTup h p xs) : ¬ own p := by
  intro hp
  obtain ⟨o, ho, _, n, hd⟩ := ht
  exact N p o hp ho _ _ hd
theorem NoSeq.list (N : NoSeq h own) {p : Addr} {xs : Array Value} (ht : h.IsList p xs) : ¬ own p := by
  intro hp
  obtain ⟨o, ho, _, n, hd⟩ := ht
  exact N p o hp ho _ _ hd

theorem Post.tup (P : Post h₀ own lk T s h T' s' h') (I : Inv h₀ lk T s h) (N : NoSeq h own) {p : Addr} {xs : Array Value} (ht : IsTup h p xs) : IsTup h' p xs := by
  have h1 := N.tup ht
  have h2 : ∀ k, k < s.n → T k ≠ p := fun k hk => I.notTup hk ht
  obtain ⟨o, ho, r⟩ := ht
  exact ⟨o, P.ext p o ho h1 h2, r⟩
theorem Post.vr (P : Post h₀ own lk T s h T' s' h') (I : Inv h₀ lk T s h) (N : NoSeq h own) {v : V} {w : Value} (e : VR T s.n h v w) : VR T' s'.n h' v w :=
  VR.mono P.agree P.le (fun _ _ ht => P.tup I N ht) v e
theorem Post.vrs (P : Post h₀ own lk T s h T' s' h') (I : Inv h₀ lk T s h) (N : NoSeq h own) {v : List V} {w : List Value} (e : VRs T s.n h v w) : VRs T' s'.n h' v w :=
  VRs.mono P.agree P.le (fun _ _ ht => P.tup I N ht) v e

theorem Post.refl (I : Inv h₀ lk T s h) (N : NoSeq h own) : Post h₀ own lk T s h T s h :=
  ⟨I, fun _ _ => rfl, Nat.le_refl _, fun _ _ e _ _ => e, fun _ o e => ⟨o, e⟩, fun k a b => absurd b (Nat.not_lt.mpr a), fun _ _ _ => rfl, fun _ _ _ _ e => e, N⟩
theorem Post.trans (P : Post h₀ own lk T s h T' s' h') (R : Post h₀ own lk T' s' h' T'' s'' h'') : Post h₀ own lk T s h T'' s'' h'' where
  inv := R.inv
  agree := fun _ hk => (R.agree _ (Nat.lt_of_lt_of_le hk P.le)).trans (P.agree _ hk)
  le := Nat.le_trans P.le R.le
  ext := fun a o e ho ht => R.ext a o (P.ext a o e ho ht) ho fun k hk q => by
    by_cases hks : k < s.n
    · exact ht k hks (by rw [← P.agree k hks]; exact q)
    · have := P.new k (Nat.le_of_not_lt hks) hk
      rw [q, e] at this
      cases this
  live := fun a o e => let ⟨o', e'⟩ := P.live a o e; R.live a o' e'
  new := fun k a b => by
    by_cases hk : k < s'.n
    · rw [R.agree k hk]; exact P.new k a hk
    · have h1 := R.new k (Nat.le_of_not_lt hk) b
      cases e : h.get? (T'' k) with
      | none => rfl
      | some o =>
        obtain ⟨o', e'⟩ := P.live _ _ e
        rw [e'] at h1; cases h1
  lock := fun k a b => (R.lock k a (Nat.lt_of_lt_of_le b P.le)).trans (P.lock k a b)
  lockh := fun k o a b e => by
    have h1 := P.lockh k o a b e
    have h2 := P.agree k b
    rw [← h2] at h1 ⊢
    exact R.lockh k o a (Nat.lt_of_lt_of_le b P.le) h1
  noseq := R.noseq
/-- two, the second with other own places, that are the first's or new -/
theorem Post.transN {own' : Addr → Prop} (P : Post h₀ own lk T s h T' s' h') (R : Post h₀ own' lk T' s' h' T'' s'' h'') (hs : ∀ a o, own' a → h.get? a = some o → own a) (N : NoSeq h'' own) : Post h₀ own lk T s h T'' s'' h'' where
  inv := R.inv
  agree := fun _ hk => (R.agree _ (Nat.lt_of_lt_of_le hk P.le)).trans (P.agree _ hk)
  le := Nat.le_trans P.le R.le
  ext := fun a o e ho ht => R.ext a o (P.ext a o e ho ht) (fun q => ho (hs a o q e)) fun k hk q => by
    by_cases hks : k < s.n
    · exact ht k hks (by rw [← P.agree k hks]; exact q)
    · have := P.new k (Nat.le_of_not_lt hks) hk
      rw [q, e] at this
      cases this
  live := fun a o e => let ⟨o', e'⟩ := P.live a o e; R.live a o' e'
  new := fun k a b => by
    by_cases hk : k < s'.n
    · rw [R.agree k hk]; exact P.new k a hk
    · have h1 := R.new k (Nat.le_of_not_lt hk) b
      cases e : h.get? (T'' k) with
      | none => rfl
      | some o =>
        obtain ⟨o', e'⟩ := P.live _ _ e
        rw [e'] at h1; cases h1
  lock := fun k a b => (R.lock k a (Nat.lt_of_lt_of_le b P.le)).trans (P.lock k a b)
  lockh := fun k o a b e => by
    have h1 := P.lockh k o a b e
    have h2 := P.agree k b
    rw [← h2] at h1 ⊢
    exact R.lockh k o a (Nat.lt_of_lt_of_le b P.le) h1
  noseq := N
/-- more own places -/
theorem Post.wider {own' : Addr → Prop} (P : Post h₀ own lk T s h T' s' h') (hs : ∀ a o, h.get? a = some o → own a → own' a) (N : NoSeq h' own') : Post h₀ own' lk T s h T' s' h' :=
  ⟨P.inv, P.agree, P.le, fun a o e ho ht => P.ext a o e (fun x => ho (hs a o e x)) ht, P.live, P.new, P.lock, P.lockh, N⟩

/-- the heap keeps all but the own places -/
theorem Post.keep (I : Inv h₀ lk T s h) (N : NoSeq h own) (hb : ∀ a o, h₀.get? a = some o → ¬ own a) (N' : NoSeq h' own) (hk : ∀ a o, h.get? a = some o → ¬ own a → h'.get? a = some o) (hl : ∀ a o, h.get? a = some o → ∃ o', h'.get? a = some o') :
    Post h₀ own lk T s h T s h' where
  inv := {
    base := fun a o e => hk a o (I.base a o e) (hb a o e)
    dom := I.dom
    lst := fun k hlt => by
      obtain ⟨l, ws, e, hL, hv⟩ := I.lst k hlt
      have hno := N.list hL
      obtain ⟨o, ho, r⟩ := hL
      refine ⟨l, ws, e, ⟨o, hk _ _ ho hno, r⟩, VRs.mono (fun _ _ => rfl) (Nat.le_refl _) (fun p xs ht => ?_) l hv⟩
      have hno' := N.tup ht
      obtain ⟨o', ho', r'⟩ := ht
      exact ⟨o', hk _ _ ho' hno', r'⟩
    inj := I.inj
    fresh := I.fresh
    plain := fun k hlt hm => let ⟨o, ho, hd⟩ := I.plain k hlt hm; ⟨o, hk _ _ ho (let ⟨_, _, _, hL, _⟩ := I.lst k hlt; N.list hL), hd⟩ }
  agree := fun _ _ => rfl
  le := Nat.le_refl _
  ext := fun a o e ho _ => hk a o e ho
  live := hl
  new := fun k a b => absurd b (Nat.not_lt.mpr a)
  lock := fun _ _ _ => rfl
  lockh := fun k o _ hlt e => hk _ _ e (let ⟨_, _, _, hL, _⟩ := I.lst k hlt; N.list hL)
  noseq := N'

theorem gets_puts {α : Type} (k : Nat) (v : α) : ∀ (l : List (Nat × α)) (j : Nat), gets (puts l k v) j = if j = k then some v else gets l j
  | [], j => by
    show (match Nat.beq k j with | true => some v | false => none) = _
    by_cases h : j = k
    · subst h; rw [Nat.beq_refl]; simp
    · have : Nat.beq k j = false := by
        cases e : Nat.beq k j with
        | false => rfl
        | true => exact absurd (Nat.eq_of_beq_eq_true e).symm h
      rw [this, if_neg h]; rfl
  | p :: r, j => by
    have ih := gets_puts k v r j
    unfold puts
    cases e : Nat.beq p.1 k with
    | true =>
      have e' : p.1 = k := Nat.eq_of_beq_eq_true e
      show (match Nat.beq k j with | true => some v | false => gets r j) = _
      by_cases h : j = k
      · subst h; rw [Nat.beq_refl]; simp
      · have hb : Nat.beq k j = false := by
          cases e : Nat.beq k j with
          | false => rfl
          | true => exact absurd (Nat.eq_of_beq_eq_true e).symm h
        rw [hb, if_neg h]
        show gets r j = gets (p :: r) j
        unfold gets
        rw [e', hb]
        cases r <;> rfl
    | false =>
      show (match Nat.beq p.1 j with | true => some p.2 | false => gets (puts r k v) j) = _
      rw [ih]
      have e0 : gets (p :: r) j = match Nat.beq p.1 j with | true => some p.2 | false => gets r j := rfl
      rw [e0]
      by_cases h : j = k
      · subst h; rw [e]
      · rw [if_neg h, if_neg h]
theorem gets_cons {α : Type} (p : Nat × α) (r : List (Nat × α)) (j : Nat) : gets (p :: r) j = if j = p.1 then some p.2 else gets r j := by
  show (match Nat.beq p.1 j with | true => some p.2 | false => gets r j) = _
  by_cases h : j = p.1
  · subst h; rw [Nat.beq_refl]; simp
  · have hb : Nat.beq p.1 j = false := by
      cases e : Nat.beq p.1 j with
      | false => rfl
      | true => exact absurd (Nat.eq_of_beq_eq_true e).symm h
    rw [hb, if_neg h]

theorem ltp {k n : Nat} (h : k < n + 1) (hk : ¬ k = n) : k < n := Nat.lt_of_le_of_ne (Nat.le_of_lt_succ h) hk
/-- a new list at D -/
theorem Post.alloc (I : Inv h₀ lk T s h) (N : NoSeq h own) (hb : ∀ a o, h₀.get? a = some o → ¬ own a) (N' : NoSeq h' own) (hk : ∀ a o, h.get? a = some o → ¬ own a → h'.get? a = some o) (hl : ∀ a o, h.get? a = some o → ∃ o', h'.get? a = some o')
    {D : Addr} {l : List V} {ws : List Value} (hD : h.get? D = none) (hL' : PlainL h' D ws.toArray) (hv : VRs T s.n h l ws) :
    Post h₀ own lk T s h (fun k => if k = s.n then D else T k) (s.new l).2 h' := by
  have P := Post.keep I N hb N' hk hl
  have J := P.inv
  have hL := hL'.isList
  have ag : ∀ k, k < s.n → (if k = s.n then D else T k) = T k := fun k hk => if_neg (Nat.ne_of_lt hk)
  have vm : ∀ {vs : List V} {us : List Value}, VRs T s.n h vs us → VRs (fun k => if k = s.n then D else T k) (s.n + 1) h' vs us := fun {vs us} e =>
    VRs.mono ag (Nat.le_succ _) (fun p xs ht => P.tup I N ht) vs e
  have vm' : ∀ {vs : List V} {us : List Value}, VRs T s.n h' vs us → VRs (fun k => if k = s.n then D else T k) (s.n + 1) h' vs us := fun {vs us} e =>
    VRs.mono ag (Nat.le_succ _) (fun _ _ ht => ht) vs e
  have notD : ∀ k, k < s.n → T k ≠ D := fun k hk e => by
    obtain ⟨_, _, _, ⟨o, ho, _⟩, _⟩ := I.lst k hk
    rw [e, hD] at ho; cases ho
  refine ⟨⟨J.base, ?_, ?_, ?_, ?_, ?_⟩, ag, Nat.le_succ _, fun a o e ho _ => hk a o e ho, hl, ?_, ?_, fun k o a b e => P.lockh k o a b e, N'⟩
  · intro k x e
    show k < s.n + 1
    rw [show (s.new l).2.h = (s.n, l) :: s.h from rfl, gets_cons] at e
    by_cases hks : k = s.n
    · rw [hks]; exact Nat.lt_succ_self _
    · rw [if_neg hks] at e; exact Nat.lt_succ_of_lt (I.dom k x e)
  · intro k hk'
    by_cases hks : k = s.n
    · subst hks
      refine ⟨l, ws, ?_, ?_, vm hv⟩
      · show gets ((s.n, l) :: s.h) s.n = _
        rw [gets_cons, if_pos rfl]
      · rw [if_pos rfl]; exact hL
    · have hlt : k < s.n := ltp hk' hks
      obtain ⟨x, us, e, hLk, hvk⟩ := J.lst k hlt
      refine ⟨x, us, ?_, ?_, vm' hvk⟩
      · show gets ((s.n, l) :: s.h) k = _
        rw [gets_cons, if_neg hks]; exact e
      · rw [if_neg hks]; exact hLk
  · intro k j hk' hj' e
    have h1 : k < s.n + 1 := hk'
    have h2 : j < s.n + 1 := hj'
    by_cases hks : k = s.n
    · by_cases hjs : j = s.n
      · exact hks.trans hjs.symm
      · simp only [if_pos hks, if_neg hjs] at e
        exact absurd e.symm (notD j (ltp h2 hjs))
    · by_cases hjs : j = s.n
      · simp only [if_neg hks, if_pos hjs] at e
        exact absurd e (notD k (ltp h1 hks))
      · simp only [if_neg hks, if_neg hjs] at e
        exact I.inj k j (ltp h1 hks) (ltp h2 hjs) e
  · intro k hk' hm
    have h1 : k < s.n + 1 := hk'
    by_cases hks : k = s.n
    · simp only [if_pos hks]
      cases e : h₀.get? D with
      | none => rfl
      | some o => have := I.base _ _ e; rw [hD] at this; cases this
    · simp only [if_neg hks]; exact I.fresh k (ltp h1 hks) hm
  · intro k hk' hm
    have h1 : k < s.n + 1 := hk'
    by_cases hks : k = s.n
    · simp only [if_pos hks]
      obtain ⟨o, _, ho, _, hd, _⟩ := hL'
      exact ⟨o, ho, hd⟩
    · simp only [if_neg hks]; exact J.plain k (ltp h1 hks) hm
  · intro k a b
    have h1 : k < s.n + 1 := b
    have : k = s.n := Nat.le_antisymm (Nat.le_of_lt_succ h1) a
    simp only [if_pos this]; exact hD
  · intro k _ hk'
    show gets ((s.n, l) :: s.h) k = _
    rw [gets_cons, if_neg (Nat.ne_of_lt hk')]

/-- a list changed -/
theorem Post.change (I : Inv h₀ lk T s h) (N : NoSeq h own) {k : Nat} (hkn : k < s.n) (hlk : memN lk k = false) {l : List V} {ws : List Value} (hs : Heap.SameBut (T k) h h') (hL' : PlainL h' (T k) ws.toArray) (hv : VRs T s.n h l ws) :
    Post h₀ own lk T s h T (s.set k l) h' := by
  have hL := hL'.isList
  have tup : ∀ p xs, IsTup h p xs → IsTup h' p xs := fun p xs ht => by
    have hne := I.notTup hkn ht
    obtain ⟨o, ho, r⟩ := ht
    exact ⟨o, (hs.2 p (Ne.symm hne)).trans ho, r⟩
  have hlive : ∀ a o, h.get? a = some o → ∃ o', h'.get? a = some o' := fun a o e => by
    by_cases ha : a = T k
    · subst ha; obtain ⟨o', ho', _⟩ := hL; exact ⟨o', ho'⟩
    · exact ⟨o, (hs.2 a ha).trans e⟩
  refine ⟨⟨?_, ?_, ?_, I.inj, I.fresh, ?_⟩, fun _ _ => rfl, Nat.le_refl _, ?_, hlive, fun j a b => absurd b (Nat.not_lt.mpr a), ?_, fun j o hm hj e => (hs.2 (T j) fun q => by rw [I.inj j k hj hkn q, hlk] at hm; cases hm).trans e, ?_⟩
  · intro a o e
    have hne : a ≠ T k := fun q => by
      have := I.fresh k hkn hlk
      rw [← q, e] at this; cases this
    exact (hs.2 a hne).trans (I.base a o e)
  · intro j x e
    show j < s.n
    rw [show (s.set k l).h = puts s.h k l from rfl, gets_puts] at e
    by_cases hj : j = k
    · rw [hj]; exact hkn
    · rw [if_neg hj] at e; exact I.dom j x e
  · intro j hj
    by_cases hjk : j = k
    · subst hjk
      refine ⟨l, ws, ?_, hL, VRs.mono (fun _ _ => rfl) (Nat.le_refl _) tup l hv⟩
      show gets (puts s.h j l) j = _
      rw [gets_puts, if_pos rfl]
    · obtain ⟨x, us, e, hLj, hvj⟩ := I.lst j hj
      refine ⟨x, us, ?_, ?_, VRs.mono (fun _ _ => rfl) (Nat.le_refl _) tup x hvj⟩
      · show gets (puts s.h k l) j = _
        rw [gets_puts, if_neg hjk]; exact e
      · obtain ⟨o, ho, r⟩ := hLj
        exact ⟨o, (hs.2 (T j) fun q => hjk (I.inj j k hj hkn q)).trans ho, r⟩
  · intro j hj hm
    by_cases hjk : j = k
    · subst hjk
      obtain ⟨o, _, ho, _, hd, _⟩ := hL'
      exact ⟨o, ho, hd⟩
    · obtain ⟨o, ho, hd⟩ := I.plain j hj hm
      exact ⟨o, (hs.2 (T j) fun q => hjk (I.inj j k hj hkn q)).trans ho, hd⟩
  · intro a o e _ ht
    exact (hs.2 a (fun q => ht k hkn q.symm)).trans e
  · intro j hm hj
    have hjk : j ≠ k := fun q => by rw [q, hlk] at hm; cases hm
    show gets (puts s.h k l) j = _
    rw [gets_puts, if_neg hjk]
  · intro a o ho e xs n hd
    by_cases ha : a = T k
    · obtain ⟨_, _, _, hLk, _⟩ := I.lst k hkn
      exact N.list hLk (ha ▸ ho)
    · exact N a o ho ((hs.2 a ha).symm.trans e) xs n hd
end
end Mine
/-! THE TEXT AND THE MACHINE: which of the machine's terms stands for which of the text's; the ground that a frame stands on. -/
namespace Mine
set_option genSizeOf false
set_option genSizeOfSpec false
set_option genInjectivity false
open PySem PySem.Spec PySem.Calls PyProof.Rows PyProof.V PySem.W

abbrev Kd := Str → Option NameKind
noncomputable def opB : Bop → Operator
  | .add => .Add
  | .sub => .Sub
  | .mul => .Mult
  | .fdiv => .FloorDiv
  | .mod => .Mod
  | .pow => .Pow
noncomputable def opC : Cop → CmpOp
  | .eq => .Eq
  | .ne => .NotEq
  | .lt => .Lt
  | .le => .LtE
  | .gt => .Gt
  | .ge => .GtE

/-- the kinds of names within a comprehension's block -/
noncomputable def kdIn (scope : Scope) (kd : Kd) : Kd := fun y => (scope.names.map fun x => if (x.2 == .free && kd x.1 == some .cell) then (x.1, NameKind.cell) else x).lookup y

/-- what a comprehension's block must be, its targets being xs -/
structure BlockOk (scope : Scope) (kd : Kd) (xs : List Str) : Prop where
  kind : scope.kind = .function
  names : ∀ y ∈ scope.names, y.2 = .local → scope.names.lookup y.1 = some .local
  nocell : ∀ y ∈ scope.names, y.2 ≠ .cell
  free : ∀ y ∈ scope.names, y.2 = .free → kd y.1 = some .cell
  locs : ∀ y ∈ scope.names, y.2 = .local → y.1 ∈ xs ∨ y.1 = ".0"
  tgt : ∀ x ∈ xs, scope.names.lookup x = some .local
  nd : (scope.names.map (·.1)).Nodup

def one (A : Expr) : Prop := ∀ (env : Env) (r : List Expr), starEach (A :: r) env = (false, eval A env) :: starEach r env
def two (A B : Expr) : Prop := one A ∧ one B
def three (A B C : Expr) : Prop := one A ∧ one B ∧ one C
theorem one.args {A : Expr} (h : one A) (pos : Pos) (ev : Env) : backTo pos (starEach [A] ev) = [(false, eval A ev)] := by rw [h ev []]; rfl
theorem two.args {A B : Expr} (h : two A B) (pos : Pos) (ev : Env) : backTo pos (starEach [A, B] ev) = [(false, eval A ev), (false, eval B ev)] := by rw [h.1 ev [B], h.2 ev []]; rfl
theorem three.args {A B C : Expr} (h : three A B C) (pos : Pos) (ev : Env) : backTo pos (starEach [A, B, C] ev) = [(false, eval A ev), (false, eval B ev), (false, eval C ev)] := by rw [h.1 ev [B, C], h.2.1 ev [C], h.2.2 ev []]; rfl
def tailOk (I : Expr) : Prop := ∀ o j : Value, subscripted I false o j = operate [o, j] (getItem o j)
def foldOk (I : Expr) : Prop := ∀ (env : Env) (x : Value), foldedSetIterable I env x = pure x
/-- a name of the interpreter's -/
def gl (kd : Kd) (nm x : Str) : Prop := nm = x ∧ kd x = some .globalImplicit ∧ (x == ("__debug__" : Str)) = false

mutual
inductive IsE (fnm : Nat → Str) (ns : Nat → Str) : Kd → Ex → Expr → Prop
  | loc {kd x nm p} : nm = ns x → (kd nm = some .local ∨ kd nm = some .cell) → (nm == ("__debug__" : Str)) = false → IsE fnm ns kd (.loc x) (.Name nm p)
  | glo0 {kd nm p} : gl kd nm "R0" → IsE fnm ns kd (.glo 0) (.Name nm p)
  | glo1 {kd nm p} : gl kd nm "R1" → IsE fnm ns kd (.glo 1) (.Name nm p)
  | int {kd i k p} : IsE fnm ns kd (.int i) (.Constant (.int i) k p)
  | bool {kd b k p} : IsE fnm ns kd (.bool b) (.Constant (.bool b) k p)
  | neg {kd e E p} : IsE fnm ns kd e E → IsE fnm ns kd (.neg e) (.UnaryOp .USub E p)
  | pair {kd a b A B k p} : IsE fnm ns kd a A → IsE fnm ns kd b B → two A B → IsE fnm ns kd (.pair a b) (.Tuple [A, B] k p)
  | trip {kd a b c A B C k p} : IsE fnm ns kd a A → IsE fnm ns kd b B → IsE fnm ns kd c C → three A B C → IsE fnm ns kd (.trip a b c) (.Tuple [A, B, C] k p)
  | lst0 {kd p} : IsE fnm ns kd .lst0 (.List [] p)
  | lst1 {kd a A p} : IsE fnm ns kd a A → one A → IsE fnm ns kd (.lst1 a) (.List [A] p)
  | lst2 {kd a b A B p} : IsE fnm ns kd a A → IsE fnm ns kd b B → two A B → IsE fnm ns kd (.lst2 a b) (.List [A, B] p)
  | lst3 {kd a b c A B C p} : IsE fnm ns kd a A → IsE fnm ns kd b B → IsE fnm ns kd c C → three A B C → IsE fnm ns kd (.lst3 a b c) (.List [A, B, C] p)
  | bin {kd op a b A B o p} : opB op = o → IsE fnm ns kd a A → IsE fnm ns kd b B → IsE fnm ns kd (.bin op a b) (.BinOp A o B p)
  | rep {kd a b A B q p} : IsE fnm ns kd a A → IsE fnm ns kd b B → one A → IsE fnm ns kd (.rep a b) (.BinOp (.List [A] q) .Mult B p)
  | cmp {kd op a b A B o p} : opC op = o → IsE fnm ns kd a A → IsE fnm ns kd b B → behindInMarks o B = false → IsE fnm ns kd (.cmp op a b) (.Compare A [o] [B] p)
  | ife {kd t a b T A B p} : IsT fnm ns kd t T → IsE fnm ns kd a A → IsE fnm ns kd b B → IsE fnm ns kd (.ife t a b) (.IfExp T A B p)
  | sub {kd a i A I p} : IsE fnm ns kd a A → IsE fnm ns kd i I → tailOk I → IsE fnm ns kd (.sub a i) (.Subscript A I p)
  | slTo {kd a i A I q p} : IsE fnm ns kd a A → IsE fnm ns kd i I → IsE fnm ns kd (.slTo a i) (.Subscript A (.Slice none (some I) none q) p)
  | slFrom {kd a i A I q p} : IsE fnm ns kd a A → IsE fnm ns kd i I → IsE fnm ns kd (.slFrom a i) (.Subscript A (.Slice (some I) none none q) p)
  | call1 {kd f a A nm q p} : gl kd nm (fnm f) → IsE fnm ns kd a A → one A → IsE fnm ns kd (.call1 f a) (.Call (.Name nm q) [A] [] p)
  | call2 {kd f a b A B nm q p} : gl kd nm (fnm f) → IsE fnm ns kd a A → IsE fnm ns kd b B → two A B → IsE fnm ns kd (.call2 f a b) (.Call (.Name nm q) [A, B] [] p)
  | abs {kd a A nm q p} : gl kd nm "abs" → IsE fnm ns kd a A → one A → IsE fnm ns kd (.abs a) (.Call (.Name nm q) [A] [] p)
  | len {kd a A nm q p} : gl kd nm "len" → IsE fnm ns kd a A → one A → IsE fnm ns kd (.len a) (.Call (.Name nm q) [A] [] p)
  | max {kd a b A B nm q p} : gl kd nm "max" → IsE fnm ns kd a A → IsE fnm ns kd b B → two A B → IsE fnm ns kd (.max a b) (.Call (.Name nm q) [A, B] [] p)
  | mklist {kd a A nm q p} : gl kd nm "list" → IsE fnm ns kd a A → one A → IsE fnm ns kd (.mklist a) (.Call (.Name nm q) [A] [] p)
  | toInt {kd a A nm q p} : gl kd nm "int" → IsE fnm ns kd a A → one A → IsE fnm ns kd (.toInt a) (.Call (.Name nm q) [A] [] p)
  | comp1 {kd e x it E nm px I scope p} : nm = ns x → (∀ a, it ≠ .enm a) → BlockOk scope kd [nm] → IsI fnm ns kd it I → foldOk I → IsE fnm ns (kdIn scope kd) e E → IsE fnm ns kd (.comp1 e x it) (.ListComp E [⟨.Name nm px, I, [], 0⟩] scope p)
  | comp2 {kd e x y a E n1 n2 p1 p2 k q I scope p} : n1 = ns x → n2 = ns y → BlockOk scope kd [n1, n2] → IsI fnm ns kd (.enm a) I → foldOk I → IsE fnm ns (kdIn scope kd) e E →
      IsE fnm ns kd (.comp2 e x y (.enm a)) (.ListComp E [⟨.Tuple [.Name n1 p1, .Name n2 p2] k q, I, [], 0⟩] scope p)
inductive IsI (fnm : Nat → Str) (ns : Nat → Str) : Kd → It → Expr → Prop
  | rng1 {kd a A nm q p} : gl kd nm "range" → IsE fnm ns kd a A → one A → IsI fnm ns kd (.rng1 a) (.Call (.Name nm q) [A] [] p)
  | rng2 {kd a b A B nm q p} : gl kd nm "range" → IsE fnm ns kd a A → IsE fnm ns kd b B → two A B → IsI fnm ns kd (.rng2 a b) (.Call (.Name nm q) [A, B] [] p)
  | enm {kd a A nm q p} : gl kd nm "enumerate" → IsE fnm ns kd a A → one A → IsI fnm ns kd (.enm a) (.Call (.Name nm q) [A] [] p)
  | rev {kd a A nm q p} : gl kd nm "reversed" → IsE fnm ns kd a A → one A → IsI fnm ns kd (.rev a) (.Call (.Name nm q) [A] [] p)
  | seq {kd a A} : IsE fnm ns kd a A → IsI fnm ns kd (.seq a) A
inductive IsT (fnm : Nat → Str) (ns : Nat → Str) : Kd → Te → Expr → Prop
  | cmp {kd op a b A B o p} : opC op = o → IsE fnm ns kd a A → IsE fnm ns kd b B → behindInMarks o B = false → IsT fnm ns kd (.cmp op a b) (.Compare A [o] [B] p)
  | tt {kd p} : IsT fnm ns kd .tt (.BoolOp .And [] p)
  | ff {kd p} : IsT fnm ns kd .ff (.BoolOp .Or [] p)
  | and {kd a b A r p} : IsT fnm ns kd a A → IsT fnm ns kd b (.BoolOp .And r p) → IsT fnm ns kd (.and a b) (.BoolOp .And (A :: r) p)
  | or {kd a b A r p} : IsT fnm ns kd a A → IsT fnm ns kd b (.BoolOp .Or r p) → IsT fnm ns kd (.or a b) (.BoolOp .Or (A :: r) p)
end

/-- an environment of a frame of the text, or of a comprehension's block in one -/
structure EnvS (ev : Env) (kd : Kd) : Prop where
  kind : ev.scope.kind = .function
  kof : ∀ x, ev.kindOf x = kd x
  glob : ev.globals = mainGlobals
  bi : ev.builtins = builtinsNs
  cov : ∀ z, kd z = some .cell → ∃ a, ev.cells.lookup z = some a

def sw (kd : Kd) (E : Expr) (t : Option Expr) (ln : Nat) (b : Bool) : Prop := ∀ ev : Env, EnvS ev kd → swapsWith E t ln ev = pure b
def swSole (kd : Kd) (ts : List Expr) (E : Expr) (ln : Nat) : Prop := ∀ ev : Env, EnvS ev kd → swapsWithSole ts E ln ev = pure false
def swStores (kd : Kd) (ts : List Expr) (E : Expr) (r : Option (List Str)) : Prop := ∀ ev : Env, EnvS ev kd → swappedStores ts E ev = pure r

mutual
inductive IsS (fnm : Nat → Str) (ns : Nat → Str) (kd : Kd) : St → Stmt → Prop
  | asg {x e nm E p' p} : nm = ns x → (kd nm = some .local ∨ kd nm = some .cell) → IsE fnm ns kd e E → sw kd E (some (.Name nm p')) p.line false → IsS fnm ns kd (.asg x e) (.Assign [.Name nm p'] E p)
  | asgc2 {x z y e a nm E n1 n2 p1 p2 k q' I scope q p' p} : nm = ns x → kd nm = some .local → n1 = ns z → n2 = ns y → BlockOk scope kd [n1, n2] → IsI fnm ns kd (.enm a) I → foldOk I → IsE fnm ns (kdIn scope kd) e E →
      sw kd (.ListComp E [⟨.Tuple [.Name n1 p1, .Name n2 p2] k q', I, [], 0⟩] scope q) (some (.Name nm p')) p.line true →
      IsS fnm ns kd (.asgc x (.comp2 e z y (.enm a))) (.Assign [.Name nm p'] (.ListComp E [⟨.Tuple [.Name n1 p1, .Name n2 p2] k q', I, [], 0⟩] scope q) p)
  | asg2 {x y a b n1 n2 p1 p2 k q A B k' q' p} : n1 = ns x → n2 = ns y → kd n1 = some .local → kd n2 = some .local → IsE fnm ns kd a A → IsE fnm ns kd b B → two A B →
      swSole kd [.Tuple [.Name n1 p1, .Name n2 p2] k q] (.Tuple [A, B] k' q') p.line → swStores kd [.Tuple [.Name n1 p1, .Name n2 p2] k q] (.Tuple [A, B] k' q') (some [n1, n2]) →
      IsS fnm ns kd (.asg2 x y a b) (.Assign [.Tuple [.Name n1 p1, .Name n2 p2] k q] (.Tuple [A, B] k' q') p)
  | unp {x y e n1 n2 p1 p2 k q E p} : n1 = ns x → n2 = ns y → kd n1 = some .local → kd n2 = some .local → IsE fnm ns kd e E →
      swSole kd [.Tuple [.Name n1 p1, .Name n2 p2] k q] E p.line → swStores kd [.Tuple [.Name n1 p1, .Name n2 p2] k q] E none → IsS fnm ns kd (.unp x y e) (.Assign [.Tuple [.Name n1 p1, .Name n2 p2] k q] E p)
  | augsub {x e nm E q p} : nm = ns x → kd nm = some .local → IsE fnm ns kd e E → IsS fnm ns kd (.augsub x e) (.AugAssign (.Name nm q) .Sub E p)
  | put {a i v A I W q p} : IsE fnm ns kd a A → IsE fnm ns kd i I → IsE fnm ns kd v W → sw kd W (some (.Subscript A I q)) p.line false → IsS fnm ns kd (.put a i v) (.Assign [.Subscript A I q] W p)
  | app {a v A W apos pos p} : IsE fnm ns kd a A → IsE fnm ns kd v W → one W → (∀ ev : Env, attributeBase A "append" ev (eval A ev) = eval A ev) → (apos.endLine == pos.line) = true →
      IsS fnm ns kd (.app a v) (.Expr (.Call (.Attribute A "append" apos) [W] [] pos) p)
  | ite {t a b T A B p} : IsT fnm ns kd t T → IsSs fnm ns kd a A → IsSs fnm ns kd b B → IsS fnm ns kd (.ite t a b) (.If T A B p)
  | whl {t b T B p} : IsT fnm ns kd t T → IsSs fnm ns kd b B → IsS fnm ns kd (.whl t b) (.While T B [] p)
  | for1 {x it b nm p1 I B p} : nm = ns x → (∀ a, it ≠ .enm a) → kd nm = some .local → IsI fnm ns kd it I → foldOk I → IsSs fnm ns kd b B → IsS fnm ns kd (.for1 x it b) (.For (.Name nm p1) I B [] p)
  | for2 {x y a b n1 n2 p1 p2 k q I B p} : n1 = ns x → n2 = ns y → kd n1 = some .local → kd n2 = some .local → IsI fnm ns kd (.enm a) I → foldOk I → IsSs fnm ns kd b B →
      IsS fnm ns kd (.for2 x y (.enm a) b) (.For (.Tuple [.Name n1 p1, .Name n2 p2] k q) I B [] p)
  | ret {e E p} : IsE fnm ns kd e E → IsS fnm ns kd (.ret e) (.Return (some E) p)
  | raise {s} : IsS fnm ns kd .raise s
inductive IsSs (fnm : Nat → Str) (ns : Nat → Str) (kd : Kd) : List St → List Stmt → Prop
  | nil : IsSs fnm ns kd [] []
  | cons {c C r R} : IsS fnm ns kd c C → IsSs fnm ns kd r R → IsSs fnm ns kd (c :: r) (C :: R)
end

structure NsOk (ns : Nat → Str) : Prop where
  inj : ∀ x y, ns x = ns y → x = y
  dot : ∀ x, ns x ≠ ".0"

structure Ctx where
  prog : Program
  w : World
  h₀ : Heap
  mg : Str → Option Value
  mb : Str → Option Value
  tbl : List (Nat × Fun)
  fnm : Nat → Str

def AOk (n : Nat) (A : Around) : Prop := A.handled = none ∧ A.depth + n < 900 ∧ A.units + 4 * n + 200 < cLine
theorem AOk.pred {n : Nat} {A : Around} (h : AOk (n + 1) A) : AOk n A := ⟨h.1, by have := h.2.1; omega, by have := h.2.2; omega⟩
theorem AOk.deeper {n : Nat} {A : Around} {ev : Env} (h : AOk (n + 1) A) : AOk n (A.deeper ev) := ⟨h.1, by have := h.2.1; show A.depth + 1 + n < 900; omega, by have := h.2.2; show A.units + 3 + 4 * n + 200 < cLine; omega⟩

structure FnOk (c : Ctx) (f : Nat) (ps : List Nat) (b : List St) (a : Addr) (o : Obj) (fd : FuncData) (stmts : List Stmt) (ns : Nat → Str) : Prop where
  at_ : c.mg (c.fnm f) = some (.ref a)
  obj : c.h₀.get? a = some o
  data : o.data = .func fd
  rec_ : c.h₀.CodeRec fd.code fd.qualname
  body : fd.body = .stmts stmts
  clo : fd.closure = []
  glob : fd.globals = mainGlobals
  bi : fd.builtins = builtinsNs
  co : fd.scope.isCoroutine = false
  gen : fd.scope.isGenerator = false
  kind : fd.scope.kind = .function
  bind : ∀ vs : List Value, vs.length = ps.length → bindArgs fd ⟨vs, []⟩ = pure ((ps.map ns).zip vs)
  pk : ∀ x ∈ ps, fd.scope.names.lookup (ns x) = some .local ∨ fd.scope.names.lookup (ns x) = some .cell
  nd : (fd.scope.names.map (·.1)).Nodup
  pnd : ps.Nodup
  nso : NsOk ns
  is : IsSs c.fnm ns (fun x => fd.scope.names.lookup x) b stmts

structure Ctx.Ok (c : Ctx) : Prop where
  g : c.h₀.Ns mainGlobals c.mg
  b : c.h₀.Ns builtinsNs c.mb
  nolimit : c.h₀.NoLimit
  r0 : ∃ p t u, c.mg "R0" = some (.ref p) ∧ IsTup c.h₀ p #[.int 0 t, .int 1 u]
  r1 : ∃ p t u, c.mg "R1" = some (.ref p) ∧ IsTup c.h₀ p #[.int 1 t, .int 1 u]
  b_abs : c.mg "abs" = none ∧ c.mb "abs" = some (.builtin "abs")
  b_len : c.mg "len" = none ∧ c.mb "len" = some (.builtin "len")
  b_max : c.mg "max" = none ∧ c.mb "max" = some (.builtin "max")
  b_list : c.mg "list" = none ∧ c.mb "list" = some (.type "list")
  b_int : c.mg "int" = none ∧ c.mb "int" = some (.type "int")
  b_range : c.mg "range" = none ∧ c.mb "range" = some (.type "range")
  b_enum : c.mg "enumerate" = none ∧ c.mb "enumerate" = some (.type "enumerate")
  b_rev : c.mg "reversed" = none ∧ c.mb "reversed" = some (.type "reversed")
  fn : ∀ f ps b, gets c.tbl f = some (ps, b) → ∃ a o fd stmts ns, FnOk c f ps b a o fd stmts ns

/-- the locals -/
structure EnvM (ev : Env) (ns : Nat → Str) (T : Nat → Addr) (n : Nat) (h : Heap) (l : Loc) (m : Str → Option Value) : Prop where
  tab : h.Ns ev.locals m
  cells : ∀ p ∈ ev.cells, ∃ v, h.IsCell p.2 v
  loc : ∀ x v, gets l x = some v → ev.kindOf (ns x) = some .local → ∃ w, m (ns x) = some w ∧ VR T n h v w
  cel : ∀ x v, gets l x = some v → ev.kindOf (ns x) = some .cell → ∃ a w, ev.cells.lookup (ns x) = some a ∧ h.IsCell a (some w) ∧ VR T n h v w

structure Sit (c : Ctx) (lk : List Nat) (kd : Kd) (ns : Nat → Str) (ev : Env) (l : Loc) (T : Nat → Addr) (s : S) (h : Heap) (m : Str → Option Value) : Prop where
  inv : Inv c.h₀ lk T s h
  env : EnvM ev ns T s.n h l m
  st : EnvS ev kd
  nso : NsOk ns
  loc0 : c.h₀.get? ev.locals = none
  cell0 : ∀ p ∈ ev.cells, c.h₀.get? p.2 = none

noncomputable def own1 (ev : Env) : Addr → Prop := fun a => a = ev.locals
noncomputable def own2 (ev : Env) : Addr → Prop := fun a => a = ev.locals ∨ ∃ p ∈ ev.cells, p.2 = a

section
variable {c : Ctx} {lk : List Nat} {kd : Kd} {ns : Nat → Str} {ev : Env} {l : Loc} {T T' : Nat → Addr} {s s' : S} {h h' : Heap} {m m' : Str → Option Value}
theorem noseq1 (hn : h.Ns ev.locals m) : NoSeq h (own1 ev) := by
  intro a o ha ho xs n hd
  obtain ⟨o', es, ep, ho', hd', _⟩ := hn
  rw [show a = ev.locals from ha, ho'] at ho
  cases ho
  rw [hd'] at hd; cases hd
theorem noseq2 (hn : h.Ns ev.locals m) (hc : ∀ p ∈ ev.cells, ∃ v, h.IsCell p.2 v) : NoSeq h (own2 ev) := by
  intro a o ha ho xs n hd
  rcases ha with ha | ⟨p, hp, rfl⟩
  · exact noseq1 hn a o ha ho xs n hd
  · obtain ⟨v, o', ho', hd'⟩ := hc p hp
    rw [ho'] at ho
    cases ho
    rw [hd'] at hd; cases hd
theorem Sit.ns1 (X : Sit c lk kd ns ev l T s h m) : NoSeq h (own1 ev) := noseq1 X.env.tab
theorem Sit.ns2 (X : Sit c lk kd ns ev l T s h m) : NoSeq h (own2 ev) := noseq2 X.env.tab X.env.cells
theorem Sit.off1 (X : Sit c lk kd ns ev l T s h m) : ∀ a o, c.h₀.get? a = some o → ¬ own1 ev a := fun a o e q => by
  rw [show a = ev.locals from q, X.loc0] at e; cases e
theorem Sit.off2 (X : Sit c lk kd ns ev l T s h m) : ∀ a o, c.h₀.get? a = some o → ¬ own2 ev a := fun a o e q => by
  rcases q with q | ⟨p, hp, rfl⟩
  · exact X.off1 a o e q
  · rw [X.cell0 p hp] at e; cases e
/-- the tracked lists are neither the locals nor a cell -/
theorem Inv.notNs (I : Inv c.h₀ lk T s h) {L : Addr} (hn : h.Ns L m) {k : Nat} (hk : k < s.n) : T k ≠ L := by
  intro e
  obtain ⟨_, _, _, ⟨o, ho, _, n, hd⟩, _⟩ := I.lst k hk
  obtain ⟨o', es, ep, ho', hd', _⟩ := hn
  rw [e, ho'] at ho
  cases ho
  rw [hd'] at hd; cases hd
theorem Inv.notCell (I : Inv c.h₀ lk T s h) {a : Addr} {v : Option Value} (hc : h.IsCell a v) {k : Nat} (hk : k < s.n) : T k ≠ a := by
  intro e
  obtain ⟨_, _, _, ⟨o, ho, _, n, hd⟩, _⟩ := I.lst k hk
  obtain ⟨o', ho', hd'⟩ := hc
  rw [e, ho'] at ho
  cases ho
  rw [hd'] at hd; cases hd
theorem ns_not_cell {L a : Addr} {v : Option Value} (hn : h.Ns L m) (hc : h.IsCell a v) : a ≠ L := by
  intro e
  obtain ⟨o, es, ep, ho, hd, _⟩ := hn
  obtain ⟨o', ho', hd'⟩ := hc
  rw [e, ho] at ho'
  cases ho'
  rw [hd] at hd'; cases hd'
/-- a cell stands where only the locals are one's own -/
theorem Post.cell1 (P : Post c.h₀ (own1 ev) lk T s h T' s' h') (I : Inv c.h₀ lk T s h) (hn : h.Ns ev.locals m) {a : Addr} {v : Option Value} (hc : h.IsCell a v) : h'.IsCell a v := by
  have h1 := ns_not_cell hn hc
  have h2 : ∀ k, k < s.n → T k ≠ a := fun k hk => I.notCell hc hk
  obtain ⟨o, ho, hd⟩ := hc
  exact ⟨o, P.ext a o ho h1 h2, hd⟩
theorem Sit.next (X : Sit c lk kd ns ev l T s h m) (P : Post c.h₀ (own1 ev) lk T s h T' s' h') (hn : h'.Ns ev.locals m) : Sit c lk kd ns ev l T' s' h' m where
  inv := P.inv
  env := {
    tab := hn
    cells := fun p hp => let ⟨v, hv⟩ := X.env.cells p hp; ⟨v, P.cell1 X.inv X.env.tab hv⟩
    loc := fun x v e k => let ⟨w, a, b⟩ := X.env.loc x v e k; ⟨w, a, P.vr X.inv X.ns1 b⟩
    cel := fun x v e k => let ⟨a, w, p, q, r⟩ := X.env.cel x v e k; ⟨a, w, p, P.cell1 X.inv X.env.tab q, P.vr X.inv X.ns1 r⟩ }
  st := X.st
  nso := X.nso
  loc0 := X.loc0
  cell0 := X.cell0
theorem Sit.refl (X : Sit c lk kd ns ev l T s h m) : Post c.h₀ (own1 ev) lk T s h T s h := Post.refl X.inv X.ns1
/-- all that stood stands -/
theorem Sit.grown (X : Sit c lk kd ns ev l T s h m) (hk : ∀ a o, h.get? a = some o → h'.get? a = some o) : Post c.h₀ (own1 ev) lk T s h T s h' ∧ h'.Ns ev.locals m :=
  ⟨Post.keep X.inv X.ns1 X.off1 (noseq1 (X.env.tab.keeps hk)) (fun a o e _ => hk a o e) (fun a o e => ⟨o, hk a o e⟩), X.env.tab.keeps hk⟩
theorem Sit.grownList (X : Sit c lk kd ns ev l T s h m) (hk : ∀ a o, h.get? a = some o → h'.get? a = some o) {D : Addr} {vs : List V} {ws : List Value} (hD : h.get? D = none) (hL : PlainL h' D ws.toArray) (hv : VRs T s.n h vs ws) :
    Post c.h₀ (own1 ev) lk T s h (fun k => if k = s.n then D else T k) (s.new vs).2 h' ∧ h'.Ns ev.locals m ∧ VR (fun k => if k = s.n then D else T k) (s.new vs).2.n h' (s.new vs).1 (.ref D) :=
  ⟨Post.alloc X.inv X.ns1 X.off1 (noseq1 (X.env.tab.keeps hk)) (fun a o e _ => hk a o e) (fun a o e => ⟨o, hk a o e⟩) hD hL hv, X.env.tab.keeps hk, Nat.lt_succ_self _, by simp⟩
end
theorem fresh_none {h : Heap} {a : Addr} (ha : h.objs.size ≤ a) : h.get? a = none := by
  cases e : h.get? a with
  | none => rfl
  | some o => exact absurd (Heap.lt_size e) (Nat.not_lt.mpr ha)
theorem push_tup (h : Heap) (xs : List Value) : IsTup (h.push { cls := .type "tuple", data := .seq xs.toArray }) h.objs.size xs.toArray := ⟨_, Heap.get?_push_size _ rfl, rfl, _, rfl⟩
theorem push_list (h : Heap) (xs : List Value) : PlainL (h.push { cls := .type "list", data := .seq xs.toArray }) h.objs.size xs.toArray := ⟨_, _, Heap.get?_push_size _ rfl, rfl, rfl, rfl⟩
end Mine
/-! EXPRESSIONS: each of the machine's steps is the interpreter's. -/
namespace Mine
open PySem PySem.Spec PySem.Calls PyProof.Rows PyProof.V PySem.W

def K1 (c : Ctx) (ev : Env) (lk : List Nat) (T : Nat → Addr) (s : S) (sh : Shared) (m : Str → Option Value) (v : V) (s' : S) (Q : Value → Shared → Prop) : Prop :=
  ∀ T' h' tk w, Post c.h₀ (own1 ev) lk T s sh.heap T' s' h' → h'.Ns ev.locals m → VR T' s'.n h' v w → Q w { sh with heap := h', toks := tk }
def SE (c : Ctx) (n : Nat) : Prop := ∀ (lk : List Nat) (kd : Kd) (ns : Nat → Str) (e : Ex) (E : Expr) (ev : Env) (l : Loc) (s : S) (v : V) (s' : S) (T : Nat → Addr) (sh : Shared) (m : Str → Option Value) (A : Around) (Q : Value → Shared → Prop) (Er : Value → Shared → Prop),
  IsE c.fnm ns kd e E → Sit c lk kd ns ev l T s sh.heap m → AOk n A → (evs c.tbl n).e lk e l s = some (v, s') → K1 c ev lk T s sh m v s' Q → wpAny (model c.prog c.w) A (eval E ev) Q Er sh

section
variable {c : Ctx} {n : Nat} {lk : List Nat} {kd : Kd} {ns : Nat → Str} {ev : Env} {l : Loc} {T : Nat → Addr} {s s' : S} {sh : Shared} {m : Str → Option Value} {A : Around} {Q : Value → Shared → Prop} {Er : Value → Shared → Prop} {v : V}

theorem SE.use (H : SE c n) {e : Ex} {E : Expr} (h : IsE c.fnm ns kd e E) (X : Sit c lk kd ns ev l T s sh.heap m) (a : AOk n A) (r : (evs c.tbl n).e lk e l s = some (v, s'))
    (k : ∀ T' h' tk w, Sit c lk kd ns ev l T' s' h' m → Post c.h₀ (own1 ev) lk T s sh.heap T' s' h' → VR T' s'.n h' v w → Q w { sh with heap := h', toks := tk }) : wpAny (model c.prog c.w) A (eval E ev) Q Er sh :=
  H lk kd ns e E ev l s v s' T sh m A Q Er h X a r fun T' h' tk w P hn hv => k T' h' tk w (X.next P hn) P hv

/-- two expressions, one behind the other -/
theorem SE.use2 (H : SE c n) {a b : Ex} {B1 B2 : Expr} {u v : V} {s1 s2 : S} (h1 : IsE c.fnm ns kd a B1) (h2 : IsE c.fnm ns kd b B2) (X : Sit c lk kd ns ev l T s sh.heap m) (o : AOk n A)
    (r1 : (evs c.tbl n).e lk a l s = some (u, s1)) (r2 : (evs c.tbl n).e lk b l s1 = some (v, s2)) {Q : Value → Value → Shared → Prop}
    (k : ∀ T' h' tk x y, Sit c lk kd ns ev l T' s2 h' m → Post c.h₀ (own1 ev) lk T s sh.heap T' s2 h' → VR T' s2.n h' u x → VR T' s2.n h' v y → Q x y { sh with heap := h', toks := tk }) :
    wpAny (model c.prog c.w) A (eval B1 ev) (fun x s₁ => wpAny (model c.prog c.w) A (eval B2 ev) (fun y s₂ => Q x y s₂) Er s₁) Er sh :=
  H.use h1 X o r1 fun _ h1 t1 x X1 P1 v1 => H.use (sh := { sh with heap := h1, toks := t1 }) h2 X1 o r2 fun T2 h2 t2 y X2 P2 v2 =>
    k T2 h2 t2 x y X2 (P1.trans P2) (P2.vr X1.inv X1.ns1 v1) v2

theorem K1.here (k : K1 c ev lk T s sh m v s' Q) {T' : Nat → Addr} {h' : Heap} {tk : Nat} {w : Value} (P : Post c.h₀ (own1 ev) lk T s sh.heap T' s' h') (hn : h'.Ns ev.locals m) (hv : VR T' s'.n h' v w) : Q w { sh with heap := h', toks := tk } := k T' h' tk w P hn hv

theorem glob_name (C : c.Ok) (X : Sit c lk kd ns ev l T s sh.heap m) {nm x : Str} {p : Pos} {w : Value} (g : gl kd nm x) (hv : c.mg x = some w) (h : Q w sh) : wpAny (model c.prog c.w) A (eval (.Name nm p) ev) Q Er sh := by
  obtain ⟨rfl, hk, hd⟩ := g
  refine Name_function_global X.st.kind ((X.st.kof _).trans hk) (loadGlobal_global (mg := c.mg) (env := ev) ?_ hv h) hd
  rw [X.st.glob]
  exact C.g.keeps X.inv.base
theorem built_name (C : c.Ok) (X : Sit c lk kd ns ev l T s sh.heap m) {nm x : Str} {p : Pos} {w : Value} (g : gl kd nm x) (hv : c.mg x = none ∧ c.mb x = some w) (h : Q w sh) : wpAny (model c.prog c.w) A (eval (.Name nm p) ev) Q Er sh := by
  obtain ⟨rfl, hk, hd⟩ := g
  refine Name_function_global X.st.kind ((X.st.kof _).trans hk) (loadGlobal_builtin (mg := c.mg) (mb := c.mb) (env := ev) ?_ hv.1 ?_ hv.2 h) hd
  · rw [X.st.glob]; exact C.g.keeps X.inv.base
  · rw [X.st.bi]; exact C.b.keeps X.inv.base

theorem e_loc {x : Nat} {nm : Str} {p : Pos} (hnm : nm = ns x) (hk : kd nm = some .local ∨ kd nm = some .cell) (hd : (nm == ("__debug__" : Str)) = false) (X : Sit c lk kd ns ev l T s sh.heap m)
    (r : stepE (evs c.tbl n) lk (.loc x) l s = some (v, s')) (k : K1 c ev lk T s sh m v s' Q) : wpAny (model c.prog c.w) A (eval (.Name nm p) ev) Q Er sh := by
  subst hnm
  simp only [stepE] at r
  split at r
  · rename_i v' hg
    cases r
    rcases hk with hk | hk
    · obtain ⟨w, hw, hv⟩ := X.env.loc x v hg ((X.st.kof _).trans hk)
      exact wpAny_Name (wpAny_loadName_local X.st.kind ((X.st.kof _).trans hk) X.env.tab hw (k.here (tk := sh.toks) X.refl X.env.tab hv)) hd
    · obtain ⟨a, w, hl, hc, hv⟩ := X.env.cel x v hg ((X.st.kof _).trans hk)
      exact wpAny_Name (wpAny_loadName_cell X.st.kind ((X.st.kof _).trans hk) hl hc (k.here (tk := sh.toks) X.refl X.env.tab hv)) hd
  · cases r

theorem pair_of_base (X : Sit c lk kd ns ev l T s sh.heap m) {p : Addr} {i j : Int} {t u : Tok} (h : IsTup c.h₀ p #[.int i t, .int j u]) : VR T s.n sh.heap (.pair (.int i) (.int j)) (.ref p) :=
  ⟨p, _, _, rfl, h.keeps X.inv.base, ⟨t, rfl⟩, ⟨u, rfl⟩⟩

theorem e_glo0 (C : c.Ok) {nm : Str} {p : Pos} (g : gl kd nm "R0") (X : Sit c lk kd ns ev l T s sh.heap m) (r : stepE (evs c.tbl n) lk (.glo 0) l s = some (v, s')) (k : K1 c ev lk T s sh m v s' Q) :
    wpAny (model c.prog c.w) A (eval (.Name nm p) ev) Q Er sh := by
  cases r
  obtain ⟨q, t, u, h1, h2⟩ := C.r0
  exact glob_name C X g h1 (k.here (tk := sh.toks) X.refl X.env.tab (pair_of_base X h2))
theorem e_glo1 (C : c.Ok) {nm : Str} {p : Pos} (g : gl kd nm "R1") (X : Sit c lk kd ns ev l T s sh.heap m) (r : stepE (evs c.tbl n) lk (.glo 1) l s = some (v, s')) (k : K1 c ev lk T s sh m v s' Q) :
    wpAny (model c.prog c.w) A (eval (.Name nm p) ev) Q Er sh := by
  cases r
  obtain ⟨q, t, u, h1, h2⟩ := C.r1
  exact glob_name C X g h1 (k.here (tk := sh.toks) X.refl X.env.tab (pair_of_base X h2))
theorem e_int {i : Int} {kk : Nat} {p : Pos} (X : Sit c lk kd ns ev l T s sh.heap m) (r : stepE (evs c.tbl n) lk (.int i) l s = some (v, s')) (k : K1 c ev lk T s sh m v s' Q) :
    wpAny (model c.prog c.w) A (eval (.Constant (.int i) kk p) ev) Q Er sh := by
  cases r
  exact wpAny_Constant_int (k.here X.refl X.env.tab ⟨_, rfl⟩)
theorem e_bool {b : Bool} {kk : Nat} {p : Pos} (X : Sit c lk kd ns ev l T s sh.heap m) (r : stepE (evs c.tbl n) lk (.bool b) l s = some (v, s')) (k : K1 c ev lk T s sh m v s' Q) :
    wpAny (model c.prog c.w) A (eval (.Constant (.bool b) kk p) ev) Q Er sh := by
  cases r
  exact wpAny_Constant_bool (k.here (tk := sh.toks) X.refl X.env.tab rfl)
theorem e_neg (H : SE c n) {e : Ex} {E : Expr} {p : Pos} (h : IsE c.fnm ns kd e E) (X : Sit c lk kd ns ev l T s sh.heap m) (o : AOk (n + 1) A)
    (r : stepE (evs c.tbl n) lk (.neg e) l s = some (v, s')) (k : K1 c ev lk T s sh m v s' Q) : wpAny (model c.prog c.w) A (eval (.UnaryOp .USub E p) ev) Q Er sh := by
  simp only [stepE] at r
  split at r
  · rename_i i s1 r1
    cases r
    refine UnaryOp_ (H.use h X o.pred r1 fun T1 h1 t1 x X1 P1 v1 => ?_)
    obtain ⟨t, rfl⟩ := v1
    exact PyProof.Rows.neg_int (k.here P1 X1.env.tab ⟨_, rfl⟩)
  · cases r

theorem push_keep (h : Heap) (o : Obj) : ∀ a o', h.get? a = some o' → (h.push o).get? a = some o' := fun _ _ e => Heap.get?_push_of_some o e
theorem K1.of_grown (k : K1 c ev lk T s sh m v s' Q) {T1 : Nat → Addr} {h1 : Heap} (X1 : Sit c lk kd ns ev l T1 s' h1 m) (P1 : Post c.h₀ (own1 ev) lk T s sh.heap T1 s' h1) {h2 : Heap} (hk : ∀ a o, h1.get? a = some o → h2.get? a = some o)
    {w : Value} {tk : Nat} (hv : VR T1 s'.n h2 v w) : Q w { sh with heap := h2, toks := tk } :=
  let ⟨P, hn⟩ := X1.grown hk
  k.here (P1.trans P) hn hv
theorem K1.of_list {vs : List V} {s1 : S} (k : K1 c ev lk T s sh m (s1.new vs).1 (s1.new vs).2 Q) {T1 : Nat → Addr} {h1 : Heap} (X1 : Sit c lk kd ns ev l T1 s1 h1 m) (P1 : Post c.h₀ (own1 ev) lk T s sh.heap T1 s1 h1) {h2 : Heap}
    (hk : ∀ a o, h1.get? a = some o → h2.get? a = some o) {D : Addr} {ws : List Value} {tk : Nat} (hD : h1.get? D = none) (hL : PlainL h2 D ws.toArray) (hv : VRs T1 s1.n h1 vs ws) : Q (.ref D) { sh with heap := h2, toks := tk } :=
  let ⟨P, hn, hw⟩ := X1.grownList hk hD hL hv
  k.here (P1.trans P) hn hw
theorem VR.keeps {T : Nat → Addr} {n : Nat} {h h' : Heap} {v : V} {w : Value} (hk : ∀ a o, h.get? a = some o → h'.get? a = some o) (e : VR T n h v w) : VR T n h' v w := VR.mono (fun _ _ => rfl) (Nat.le_refl _) (fun _ _ ht => ht.keeps hk) v e

theorem e_pair (H : SE c n) {a b : Ex} {B1 B2 : Expr} {kk : Nat} {p : Pos} (h1 : IsE c.fnm ns kd a B1) (h2 : IsE c.fnm ns kd b B2) (w2 : two B1 B2) (X : Sit c lk kd ns ev l T s sh.heap m) (o : AOk (n + 1) A)
    (r : stepE (evs c.tbl n) lk (.pair a b) l s = some (v, s')) (k : K1 c ev lk T s sh m v s' Q) : wpAny (model c.prog c.w) A (eval (.Tuple [B1, B2] kk p) ev) Q Er sh := by
  simp only [stepE, e2] at r
  split at r
  · rename_i x s1 r1
    split at r
    · rename_i y s2 r2
      cases r
      refine wpAny_Tuple_spliced ?_
      rw [w2.args]
      refine spliced_cons (wpAny_mono (H.use2 h1 h2 X o.pred r1 r2 (Q := fun x y s₂ => [x, y].length ≤ sizeLine ∧ Q (.ref s₂.heap.objs.size) { s₂ with heap := s₂.heap.push { cls := .type "tuple", data := .seq [x, y].toArray } })
        fun T' h' tk x y X' P' vx vy => ⟨(by show 2 ≤ sizeLine; decide), ?_⟩) (fun x s₁ h₁ => spliced_cons (wpAny_mono h₁ (fun y s₂ h₂ => spliced_nil h₂) fun _ _ e => e)) fun _ _ e => e)
      exact k.of_grown X' P' (push_keep _ _) ⟨_, x, y, rfl, push_tup _ _, vx.keeps (push_keep _ _), vy.keeps (push_keep _ _)⟩
    · cases r
  · cases r
theorem e_trip (H : SE c n) {a b d : Ex} {B1 B2 B3 : Expr} {kk : Nat} {p : Pos} (h1 : IsE c.fnm ns kd a B1) (h2 : IsE c.fnm ns kd b B2) (h3 : IsE c.fnm ns kd d B3) (w2 : three B1 B2 B3) (X : Sit c lk kd ns ev l T s sh.heap m) (o : AOk (n + 1) A)
    (r : stepE (evs c.tbl n) lk (.trip a b d) l s = some (v, s')) (k : K1 c ev lk T s sh m v s' Q) : wpAny (model c.prog c.w) A (eval (.Tuple [B1, B2, B3] kk p) ev) Q Er sh := by
  simp only [stepE] at r
  split at r
  · rename_i x s1 r1
    split at r
    · rename_i y s2 r2
      split at r
      · rename_i z s3 r3
        cases r
        refine wpAny_Tuple_spliced ?_
        rw [w2.args]
        refine spliced_cons (H.use h1 X o.pred r1 fun T1 h1 t1 x X1 P1 vx => ?_)
        refine spliced_cons (H.use (sh := { sh with heap := h1, toks := t1 }) h2 X1 o.pred r2 fun T2 h2 t2 y X2 P2 vy => ?_)
        refine spliced_cons (H.use (sh := { sh with heap := h2, toks := t2 }) h3 X2 o.pred r3 fun T3 h3 t3 z X3 P3 vz => ?_)
        refine spliced_nil ⟨(by show 3 ≤ sizeLine; decide), ?_⟩
        have vx' := (P2.trans P3).vr X1.inv X1.ns1 vx
        have vy' := P3.vr X2.inv X2.ns1 vy
        exact k.of_grown X3 ((P1.trans P2).trans P3) (push_keep _ _) ⟨_, x, y, z, rfl, push_tup _ _, vx'.keeps (push_keep _ _), vy'.keeps (push_keep _ _), vz.keeps (push_keep _ _)⟩
      · cases r
    · cases r
  · cases r
theorem e_lst0 {p : Pos} (X : Sit c lk kd ns ev l T s sh.heap m) (r : stepE (evs c.tbl n) lk .lst0 l s = some (v, s')) (k : K1 c ev lk T s sh m v s' Q) : wpAny (model c.prog c.w) A (eval (.List [] p) ev) Q Er sh := by
  cases r
  refine wpAny_List_spliced (spliced_nil ⟨(by show 0 ≤ sizeLine; decide), ?_⟩)
  exact k.of_list X X.refl (push_keep _ _) (fresh_none (Nat.le_refl _)) (push_list _ _) rfl
theorem e_lst1 (H : SE c n) {a : Ex} {B1 : Expr} {p : Pos} (h1 : IsE c.fnm ns kd a B1) (w2 : one B1) (X : Sit c lk kd ns ev l T s sh.heap m) (o : AOk (n + 1) A)
    (r : stepE (evs c.tbl n) lk (.lst1 a) l s = some (v, s')) (k : K1 c ev lk T s sh m v s' Q) : wpAny (model c.prog c.w) A (eval (.List [B1] p) ev) Q Er sh := by
  simp only [stepE] at r
  split at r
  · rename_i x s1 r1
    cases r
    refine wpAny_List_spliced ?_
    rw [w2.args]
    refine spliced_cons (H.use h1 X o.pred r1 fun T1 h1 t1 x X1 P1 vx => ?_)
    refine spliced_nil ⟨(by show 1 ≤ sizeLine; decide), ?_⟩
    exact k.of_list X1 P1 (push_keep _ _) (fresh_none (Nat.le_refl _)) (push_list _ _) ⟨x, [], rfl, vx, rfl⟩
  · cases r
theorem e_lst2 (H : SE c n) {a b : Ex} {B1 B2 : Expr} {p : Pos} (h1 : IsE c.fnm ns kd a B1) (h2 : IsE c.fnm ns kd b B2) (w2 : two B1 B2) (X : Sit c lk kd ns ev l T s sh.heap m) (o : AOk (n + 1) A)
    (r : stepE (evs c.tbl n) lk (.lst2 a b) l s = some (v, s')) (k : K1 c ev lk T s sh m v s' Q) : wpAny (model c.prog c.w) A (eval (.List [B1, B2] p) ev) Q Er sh := by
  simp only [stepE, e2] at r
  split at r
  · rename_i x s1 r1
    split at r
    · rename_i y s2 r2
      cases r
      refine wpAny_List_spliced ?_
      rw [w2.args]
      refine spliced_cons (H.use h1 X o.pred r1 fun T1 h1 t1 x X1 P1 vx => ?_)
      refine spliced_cons (H.use (sh := { sh with heap := h1, toks := t1 }) h2 X1 o.pred r2 fun T2 h2 t2 y X2 P2 vy => ?_)
      refine spliced_nil ⟨(by show 2 ≤ sizeLine; decide), ?_⟩
      exact k.of_list X2 (P1.trans P2) (push_keep _ _) (fresh_none (Nat.le_refl _)) (push_list _ _) ⟨x, [y], rfl, P2.vr X1.inv X1.ns1 vx, y, [], rfl, vy, rfl⟩
    · cases r
  · cases r
theorem e_lst3 (H : SE c n) {a b d : Ex} {B1 B2 B3 : Expr} {p : Pos} (h1 : IsE c.fnm ns kd a B1) (h2 : IsE c.fnm ns kd b B2) (h3 : IsE c.fnm ns kd d B3) (w2 : three B1 B2 B3) (X : Sit c lk kd ns ev l T s sh.heap m) (o : AOk (n + 1) A)
    (r : stepE (evs c.tbl n) lk (.lst3 a b d) l s = some (v, s')) (k : K1 c ev lk T s sh m v s' Q) : wpAny (model c.prog c.w) A (eval (.List [B1, B2, B3] p) ev) Q Er sh := by
  simp only [stepE] at r
  split at r
  · rename_i x s1 r1
    split at r
    · rename_i y s2 r2
      split at r
      · rename_i z s3 r3
        cases r
        refine wpAny_List_spliced ?_
        rw [w2.args]
        refine spliced_cons (H.use h1 X o.pred r1 fun T1 h1 t1 x X1 P1 vx => ?_)
        refine spliced_cons (H.use (sh := { sh with heap := h1, toks := t1 }) h2 X1 o.pred r2 fun T2 h2 t2 y X2 P2 vy => ?_)
        refine spliced_cons (H.use (sh := { sh with heap := h2, toks := t2 }) h3 X2 o.pred r3 fun T3 h3 t3 z X3 P3 vz => ?_)
        refine spliced_nil ⟨(by show 3 ≤ sizeLine; decide), ?_⟩
        have vx' := (P2.trans P3).vr X1.inv X1.ns1 vx
        have vy' := P3.vr X2.inv X2.ns1 vy
        exact k.of_list X3 ((P1.trans P2).trans P3) (push_keep _ _) (fresh_none (Nat.le_refl _)) (push_list _ _) ⟨x, [y, z], rfl, vx', y, [z], rfl, vy', z, [], rfl, vz, rfl⟩
      · cases r
    · cases r
  · cases r
end
end Mine
/-! EXPRESSIONS 2: operations, comparisons, items, cuts, built-ins. -/
namespace Mine
open PySem PySem.Spec PySem.Calls PyProof.Rows PyProof.V PySem.W

theorem eqB_eq (a b : Int) : PySem.W.Z.eqB a b = (a == b) := by
  have h := PySem.W.Z.eqB_iff a b
  cases e : PySem.W.Z.eqB a b with
  | true => rw [h.mp e]; simp
  | false =>
    have : a ≠ b := fun q => by rw [h.mpr q] at e; cases e
    simp [this]
theorem ltB_eq (a b : Int) : PySem.W.Z.ltB a b = decide (a < b) := by
  have h := PySem.W.Z.ltB_iff a b
  cases e : PySem.W.Z.ltB a b with
  | true => simp [h.mp e]
  | false =>
    have : ¬ a < b := fun q => by rw [h.mpr q] at e; cases e
    simp [this]
theorem leB_eq (a b : Int) : PySem.W.Z.leB a b = decide (a ≤ b) := by
  have h := PySem.W.Z.leB_iff a b
  cases e : PySem.W.Z.leB a b with
  | true => simp [h.mp e]
  | false =>
    have : ¬ a ≤ b := fun q => by rw [h.mpr q] at e; cases e
    simp [this]
theorem inLong_lt {i : Int} (h : inLong i = true) : -(2 ^ 60) < i ∧ i < 2 ^ 60 := by
  unfold inLong at h
  split at h
  · rename_i h1
    exact ⟨(PySem.W.Z.ltB_iff _ _).mp h, (PySem.W.Z.ltB_iff _ _).mp h1⟩
  · cases h
theorem short_le : ∀ {n : Nat} {l : List V}, short n l = true → l.length ≤ n
  | _, [], _ => Nat.zero_le _
  | 0, _ :: _, h => by cases h
  | n + 1, _ :: r, h => Nat.succ_le_succ (short_le (n := n) (l := r) h)

noncomputable def allN (L : Addr) (h : Heap) : List (Addr × Obj) := (List.range h.objs.size).filterMap fun a => if a = L then none else (h.get? a).map fun o => (a, o)
theorem allN_of {L : Addr} {h : Heap} {a : Addr} {o : Obj} (hn : a ≠ L) (e : h.get? a = some o) : (a, o) ∈ allN L h := by
  unfold allN
  refine List.mem_filterMap.mpr ⟨a, List.mem_range.mpr (Heap.lt_size e), ?_⟩
  rw [if_neg hn, e]; rfl
theorem of_allN {L : Addr} {h : Heap} {p : Addr × Obj} (e : p ∈ allN L h) : p.1 ≠ L ∧ h.get? p.1 = some p.2 := by
  obtain ⟨a, _, q⟩ := List.mem_filterMap.mp e
  by_cases ha : a = L
  · rw [if_pos ha] at q; cases q
  · rw [if_neg ha] at q
    obtain ⟨o, ho, rfl⟩ := Option.map_eq_some_iff.mp q
    exact ⟨ha, ho⟩
theorem empty_get (a : Addr) : ({} : Heap).get? a = none := fresh_none (Nat.zero_le _)
theorem fr0 {L : Addr} {h : Heap} {m : Str → Option Value} (hn : h.Ns L m) : Fr {} L h m := ⟨hn, fun b o e => absurd e (by rw [empty_get]; simp), Nat.zero_le _⟩
theorem news0 {L : Addr} {h : Heap} : News {} L h (allN L h) := fun _ hp => ⟨(of_allN hp).2, (of_allN hp).1, empty_get _⟩

section
variable {c : Ctx} {n : Nat} {lk : List Nat} {kd : Kd} {ns : Nat → Str} {ev : Env} {l : Loc} {T : Nat → Addr} {s s' : S} {sh : Shared} {m : Str → Option Value} {A : Around} {Q : Value → Shared → Prop} {Er : Value → Shared → Prop} {v : V} {h h' : Heap}

theorem Sit.grownButList (X : Sit c lk kd ns ev l T s h m) (hk : ∀ a o, a ≠ ev.locals → h.get? a = some o → h'.get? a = some o) (hn : h'.Ns ev.locals m) {D : Addr} {vs : List V} {ws : List Value} (hD : h.get? D = none) (hL : PlainL h' D ws.toArray) (hv : VRs T s.n h vs ws) :
    Post c.h₀ (own1 ev) lk T s h (fun k => if k = s.n then D else T k) (s.new vs).2 h' ∧ VR (fun k => if k = s.n then D else T k) (s.new vs).2.n h' (s.new vs).1 (.ref D) :=
  ⟨Post.alloc X.inv X.ns1 X.off1 (noseq1 hn) (fun a o e q => hk a o q e) (fun a o e => by
    by_cases ha : a = ev.locals
    · subst ha; obtain ⟨o', _, _, ho', _⟩ := hn; exact ⟨o', ho'⟩
    · exact ⟨o, hk a o ha e⟩) hD hL hv, Nat.lt_succ_self _, by simp⟩
theorem K1.of_listBut {vs : List V} {s1 : S} (k : K1 c ev lk T s sh m (s1.new vs).1 (s1.new vs).2 Q) {T1 : Nat → Addr} {h1 : Heap} (X1 : Sit c lk kd ns ev l T1 s1 h1 m) (P1 : Post c.h₀ (own1 ev) lk T s sh.heap T1 s1 h1) {h2 : Heap}
    (hk : ∀ a o, a ≠ ev.locals → h1.get? a = some o → h2.get? a = some o) (hn : h2.Ns ev.locals m) {D : Addr} {ws : List Value} {tk : Nat} (hD : h1.get? D = none) (hL : PlainL h2 D ws.toArray) (hv : VRs T1 s1.n h1 vs ws) : Q (.ref D) { sh with heap := h2, toks := tk } :=
  let ⟨P, hw⟩ := X1.grownButList hk hn hD hL hv
  k.here (P1.trans P) hn hw
theorem keep_of {L : Addr} {x : List (Addr × Obj)} (N : News {} L h' (x ++ allN L h)) : ∀ a o, a ≠ L → h.get? a = some o → h'.get? a = some o := fun _ _ hn e => (N _ (List.mem_append_right _ (allN_of hn e))).1

/-- a tracked list -/
theorem Sit.list (X : Sit c lk kd ns ev l T s h m) {k : Nat} {vs : List V} (g : gets s.h k = some vs) : ∃ ws, h.IsList (T k) ws.toArray ∧ VRs T s.n h vs ws := by
  have hk := X.inv.dom k vs g
  obtain ⟨l', ws, e, hL, hv⟩ := X.inv.lst k hk
  rw [g] at e; cases e
  exact ⟨ws, hL, hv⟩

theorem b_op {op : Bop} {a b : V} {x y : Value} {s1 : S} {T1 : Nat → Addr} {h1 : Heap} {tk : Nat} (X1 : Sit c lk kd ns ev l T1 s1 h1 m) (P1 : Post c.h₀ (own1 ev) lk T s sh.heap T1 s1 h1) (hx : VR T1 s1.n h1 a x) (hy : VR T1 s1.n h1 b y)
    (r : binop op a b s1 = some (v, s')) (k : K1 c ev lk T s sh m v s' Q) : wpAny (model c.prog c.w) A (binaryOp (opB op) x y) Q Er { sh with heap := h1, toks := tk } := by
  unfold binop at r
  split at r
  · rename_i i j
    obtain ⟨t, rfl⟩ := hx
    obtain ⟨u, rfl⟩ := hy
    split at r
    · cases r
      exact PyProof.Rows.add_int (k.here P1 X1.env.tab ⟨_, rfl⟩)
    · cases r
      exact PyProof.Rows.sub_int (k.here P1 X1.env.tab ⟨_, rfl⟩)
    · split at r
      · rename_i hb
        cases r
        refine PyProof.Rows.mul_int (k.here P1 X1.env.tab ⟨_, rfl⟩) (IntMulOk.of_right (intBits_le ?_))
        exact X.blt_true hb
      · cases r
    · split at r
      · cases r
      · rename_i hz
        split at r
        · rename_i hb
          cases r
          have hj : j ≠ 0 := fun q => by rw [(PySem.W.Z.eqB_iff j 0).mpr q] at hz; cases hz
          refine PyProof.Rows.floordiv_int hj (k.here P1 X1.env.tab ⟨_, rfl⟩) (Or.inl ?_)
          have hlt : j.natAbs < 2 ^ 64 := X.blt_true hb
          unfold Builtin.divisionGoesByPylong
          have hl : j.natAbs.log2 < 64 := by
            by_cases h0 : j.natAbs = 0
            · rw [h0]; decide
            · exact (Nat.log2_lt h0).mpr hlt
          have hd : ¬ ((if (j == 0) = true then 0 else j.natAbs.log2 / 30 + 1) > 300) := by
            split
            · omega
            · omega
          simp only [Bool.and_eq_false_iff, decide_eq_false_iff_not]
          exact Or.inl hd
        · cases r
    · split at r
      · cases r
      · rename_i hz
        cases r
        have hj : j ≠ 0 := fun q => by rw [(PySem.W.Z.eqB_iff j 0).mpr q] at hz; cases hz
        exact mod_int' hj (k.here P1 X1.env.tab ⟨_, rfl⟩)
    · split at r
      · rename_i e
        split at r
        · rename_i hn
          split at r
          · rename_i hb
            cases r
            have h1 : e ≤ 64 := Nat.le_of_ble_eq_true hn
            refine pow_int_small (Int.natCast_nonneg e) (by show (e : Int) ≤ _; omega) (X.blt_true hb) ?_
            exact k.here P1 X1.env.tab ⟨_, rfl⟩
          · cases r
        · cases r
      · cases r
  · rename_i i j
    split at r
    · split at r
      · rename_i vs us g1 g2
        split at r
        · rename_i hs1
          split at r
          · rename_i hs2
            cases r
            obtain ⟨ws, hL1, hv1⟩ := X1.list g1
            obtain ⟨xs, hL2, hv2⟩ := X1.list g2
            obtain ⟨_, rfl⟩ := hx
            obtain ⟨_, rfl⟩ := hy
            have l1 := short_le hs1
            have l2 := short_le hs2
            have e1 := hv1.length
            have e2 := hv2.length
            refine add_lists (s := { sh with heap := h1, toks := tk }) (fr0 X1.env.tab) news0 hL1 hL2 (fun h' F' N' => ?_) (by rw [e1, e2]; show _ ≤ 2 ^ 24; omega)
            exact k.of_listBut X1 P1 (keep_of (x := [_]) N') F'.ns (fresh_none (Nat.le_refl _)) ⟨_, _, (N' _ (List.mem_cons_self ..)).1, rfl, rfl, rfl⟩ (hv1.append hv2)
          · cases r
        · cases r
      · cases r
    · cases r
  · cases r

theorem e_bin (H : SE c n) {op : Bop} {a b : Ex} {B1 B2 : Expr} {oo : Operator} {p : Pos} (ho : opB op = oo) (h1 : IsE c.fnm ns kd a B1) (h2 : IsE c.fnm ns kd b B2) (X : Sit c lk kd ns ev l T s sh.heap m) (o : AOk (n + 1) A)
    (r : stepE (evs c.tbl n) lk (.bin op a b) l s = some (v, s')) (k : K1 c ev lk T s sh m v s' Q) : wpAny (model c.prog c.w) A (eval (.BinOp B1 oo B2 p) ev) Q Er sh := by
  subst ho
  simp only [stepE, e2] at r
  split at r
  · rename_i x s1 r1
    split at r
    · rename_i y s2 r2
      refine wpAny_BinOp (H.use2 h1 h2 X o.pred r1 r2 (Q := fun x y s₂ => wpAny (model c.prog c.w) A (binaryOp (opB op) x y) Q Er s₂) fun T' h' tk x y X' P' vx vy => ?_)
      exact b_op X' P' vx vy r k
    · cases r
  · cases r
end
end Mine
namespace Mine
open PySem PySem.Spec PySem.Calls PyProof.Rows PyProof.V PySem.W

/-! comparisons -/
noncomputable def pd : V → PyData
  | .pair (.int a) (.int b) => .tuple [.int a, .int b]
  | _ => .none
theorem reads_pair {T : Nat → Addr} {n : Nat} {h : Heap} {a b : Int} {w : Value} (e : VR T n h (.pair (.int a) (.int b)) w) : ∃ as, Reads h w (pd (.pair (.int a) (.int b))) as := by
  obtain ⟨p, u, x, rfl, ⟨o, ho, hc, k, hd⟩, ⟨t, rfl⟩, ⟨t', rfl⟩⟩ := e
  exact ⟨_, .tuple ho hc hd (.cons (.int a t) (.cons (.int b t') .nil))⟩
theorem reads_row {T : Nat → Addr} {n : Nat} {h : Heap} : ∀ {l : List V} {ws : List Value}, rowOk l = true → VRs T n h l ws → ∃ as, ReadsAll h ws (l.map pd) as
  | [], _, _, e => by rw [show _ = [] from e]; exact ⟨_, .nil⟩
  | .pair (.int a) (.int b) :: r, _, hr, ⟨w, ws, e, hv, hvs⟩ => by
    subst e
    obtain ⟨as, h1⟩ := reads_pair hv
    obtain ⟨bs, h2⟩ := reads_row (l := r) hr hvs
    exact ⟨_, .cons h1 h2⟩
theorem shaped_pair (a b : Int) : SeqAt.shaped (pd (.pair (.int a) (.int b))) = true := by
  simp [SeqAt.shaped, pd, PyData.canLay0, PyData.canLayAll0, PyData.depth, PyData.depthAll]
theorem lay_row : ∀ {l : List V}, rowOk l = true → PyData.canLayAll0 (l.map pd) = true ∧ PyData.depthAll (l.map pd) ≤ 1
  | [], _ => by simp [PyData.canLayAll0, PyData.depthAll]
  | .pair (.int a) (.int b) :: r, h => by
    have ih := lay_row (l := r) h
    constructor
    · simp only [List.map_cons, pd, PyData.canLayAll0, PyData.canLay0, ih.1, Bool.and_true]
    · simp only [List.map_cons, pd, PyData.depthAll, PyData.depth]
      have := ih.2
      omega
theorem shaped_row {l : List V} (h : rowOk l = true) : SeqAt.shaped (.list (l.map pd)) = true := by
  have q := lay_row h
  simp only [SeqAt.shaped, PyData.canLay0, PyData.depth, q.1, Bool.true_and]
  have := q.2
  exact decide_eq_true (by omega)
theorem eqv_pair (a b x y : Int) : pairEq (.pair (.int a) (.int b)) (.pair (.int x) (.int y)) = some (PyData.eqv (pd (.pair (.int a) (.int b))) (pd (.pair (.int x) (.int y)))) := by
  simp only [pairEq, pd, PyData.eqv, PyData.eqvAll, eqB_eq, Bool.and_true]
  cases h : (a == x) <;> simp
theorem eqv_row : ∀ {l r : List V}, rowOk l = true → rowOk r = true → rowEq l r = PyData.eqv (.list (l.map pd)) (.list (r.map pd))
  | [], [], _, _ => by simp [rowEq, PyData.eqv, PyData.eqvAll]
  | [], .pair (.int a) (.int b) :: r, _, _ => by simp [rowEq, PyData.eqv, PyData.eqvAll]
  | .pair (.int a) (.int b) :: l, [], _, _ => by simp [rowEq, PyData.eqv, PyData.eqvAll]
  | .pair (.int a) (.int b) :: l, .pair (.int x) (.int y) :: r, h1, h2 => by
    have ih := eqv_row (l := l) (r := r) h1 h2
    have e := eqv_pair a b x y
    simp only [PyData.eqv] at ih
    simp only [rowEq, e, List.map_cons, PyData.eqv, PyData.eqvAll]
    cases hh : PyData.eqv (pd (.pair (.int a) (.int b))) (pd (.pair (.int x) (.int y))) with
    | true => simp [ih]
    | false => simp

section
variable {c : Ctx} {n : Nat} {lk : List Nat} {kd : Kd} {ns : Nat → Str} {ev : Env} {l : Loc} {T : Nat → Addr} {s s' : S} {sh : Shared} {m : Str → Option Value} {A : Around} {Q : Value → Shared → Prop} {Er : Value → Shared → Prop} {v : V} {h h' : Heap}

theorem AOk.room {A : Around} (a : AOk n A) : A.units + 64 < cLine := by have := a.2.2; omega

theorem c_eqv {a b : V} {x y : Value} {r : Bool} (X : Sit c lk kd ns ev l T s sh.heap m) (o : AOk n A) (hx : VR T s.n sh.heap a x) (hy : VR T s.n sh.heap b y) (e : eqv a b s = some r) (ne : Bool)
    (k : Q (.bool (if ne then !r else r)) sh) : wpAny (model c.prog c.w) A (compareOp (if ne then .NotEq else .Eq) x y) Q Er sh := by
  have key : ∀ {d1 d2 : PyData} {as bs : List Addr}, Reads sh.heap x d1 as → Reads sh.heap y d2 bs → SeqAt.shaped d1 = true → SeqAt.shaped d2 = true → r = PyData.eqv d1 d2 → wpAny (model c.prog c.w) A (compareOp (if ne then .NotEq else .Eq) x y) Q Er sh := by
    intro d1 d2 as bs ra rb s1 s2 hr
    cases ne with
    | true => exact ne_dataH ra rb s1 s2 o.room (by rw [← hr]; exact k)
    | false => exact eq_dataH ra rb s1 s2 o.room (by rw [← hr]; exact k)
  unfold eqv at e
  split at e
  · rename_i i j
    cases e
    obtain ⟨t, rfl⟩ := hx
    obtain ⟨u, rfl⟩ := hy
    exact key (.int i t) (.int j u) (by simp [SeqAt.shaped, PyData.canLay0, PyData.depth]) (by simp [SeqAt.shaped, PyData.canLay0, PyData.depth]) (by simp only [PyData.eqv]; exact eqB_eq i j)
  · rename_i a1 a2 b1 b2
    unfold pairEq at e
    split at e
    · rename_i p q x' y' e1 e2
      cases e1; cases e2
      obtain ⟨as, ra⟩ := reads_pair hx
      obtain ⟨bs, rb⟩ := reads_pair hy
      refine key ra rb (shaped_pair _ _) (shaped_pair _ _) ?_
      have q1 := eqv_pair p q x' y'
      have : pairEq (.pair (.int p) (.int q)) (.pair (.int x') (.int y')) = some r := e
      rw [q1] at this
      exact (Option.some.inj this).symm
    · cases e
  · rename_i i j
    split at e
    · rename_i us vs g1 g2
      split at e
      · rename_i o1
        split at e
        · rename_i o2
          split at e
          · split at e
            · cases e
              obtain ⟨ws, ⟨ob, ho, hc, kk, hd⟩, hv1⟩ := X.list g1
              obtain ⟨xs, ⟨ob', ho', hc', kk', hd'⟩, hv2⟩ := X.list g2
              obtain ⟨_, rfl⟩ := hx
              obtain ⟨_, rfl⟩ := hy
              obtain ⟨as, ra⟩ := reads_row o1 hv1
              obtain ⟨bs, rb⟩ := reads_row o2 hv2
              exact key (.list ho hc hd (by simpa using ra)) (.list ho' hc' hd' (by simpa using rb)) (shaped_row o1) (shaped_row o2) (eqv_row o1 o2)
            · cases e
          · cases e
        · cases e
      · cases e
    · cases e
  · cases e

theorem c_op {op : Cop} {a b : V} {x y : Value} {r : Bool} (X : Sit c lk kd ns ev l T s sh.heap m) (o : AOk n A) (hx : VR T s.n sh.heap a x) (hy : VR T s.n sh.heap b y) (e : cmpop op a b s = some r) (k : Q (.bool r) sh) :
    wpAny (model c.prog c.w) A (compareOp (opC op) x y) Q Er sh := by
  unfold cmpop at e
  split at e
  · exact c_eqv X o hx hy e false k
  · split at e
    · rename_i r' e'
      cases e
      exact c_eqv X o hx hy e' true k
    · cases e
  · split at e
    · rename_i i j
      cases e
      obtain ⟨t, rfl⟩ := hx
      obtain ⟨u, rfl⟩ := hy
      exact PyProof.Rows.lt_int (by rw [← ltB_eq]; exact k)
    · cases e
  · split at e
    · rename_i i j
      cases e
      obtain ⟨t, rfl⟩ := hx
      obtain ⟨u, rfl⟩ := hy
      exact PyProof.Rows.le_int (by rw [← leB_eq]; exact k)
    · cases e
  · split at e
    · rename_i i j
      cases e
      obtain ⟨t, rfl⟩ := hx
      obtain ⟨u, rfl⟩ := hy
      exact PyProof.Rows.gt_int (by rw [← ltB_eq]; exact k)
    · cases e
  · split at e
    · rename_i i j
      cases e
      obtain ⟨t, rfl⟩ := hx
      obtain ⟨u, rfl⟩ := hy
      exact PyProof.Rows.ge_int (by rw [← leB_eq]; exact k)
    · cases e

theorem e_cmp (H : SE c n) {op : Cop} {a b : Ex} {B1 B2 : Expr} {oo : CmpOp} {p : Pos} (ho : opC op = oo) (h1 : IsE c.fnm ns kd a B1) (h2 : IsE c.fnm ns kd b B2) (hm : behindInMarks oo B2 = false) (X : Sit c lk kd ns ev l T s sh.heap m) (o : AOk (n + 1) A)
    (r : stepE (evs c.tbl n) lk (.cmp op a b) l s = some (v, s')) (k : K1 c ev lk T s sh m v s' Q) : wpAny (model c.prog c.w) A (eval (.Compare B1 [oo] [B2] p) ev) Q Er sh := by
  subst ho
  simp only [stepE, e2] at r
  split at r
  · rename_i x s1 r1
    split at r
    · rename_i y s2 r2
      split at r
      · rename_i b' rc
        cases r
        refine wpAny_Compare1 (H.use2 h1 h2 X o.pred r1 r2 (Q := fun x y s₂ => wpAny (model c.prog c.w) A (compareOp (opC op) x y) Q Er s₂) fun T' h' tk x y X' P' vx vy => ?_) hm
        exact c_op (sh := { sh with heap := h', toks := tk }) X' o.pred vx vy rc (k.here P' X'.env.tab rfl)
      · cases r
    · cases r
  · cases r

/-! tests -/
def KT1 (c : Ctx) (kd : Kd) (ns : Nat → Str) (ev : Env) (lk : List Nat) (l : Loc) (T : Nat → Addr) (s : S) (sh : Shared) (m : Str → Option Value) (b : Bool) (s' : S) (Q : Bool → Shared → Prop) : Prop :=
  ∀ T' h' tk, Sit c lk kd ns ev l T' s' h' m → Post c.h₀ (own1 ev) lk T s sh.heap T' s' h' → Q b { sh with heap := h', toks := tk }
def TT (c : Ctx) (n : Nat) (kd : Kd) (ns : Nat → Str) (ev : Env) (lk : List Nat) (l : Loc) (m : Str → Option Value) (A : Around) (Er : Value → Shared → Prop) (t : Te) : Prop :=
  ∀ (E : Expr) (T : Nat → Addr) (s s' : S) (sh : Shared) (b : Bool) (Q : Bool → Shared → Prop) (whole : Sem Value), IsT c.fnm ns kd t E → Sit c lk kd ns ev l T s sh.heap m → AOk n A → test (evs c.tbl n) lk t l s = some (b, s') →
    KT1 c kd ns ev lk l T s sh m b s' Q → wpAny (model c.prog c.w) A (PySem.isTrue E ev whole) Q Er sh
def TInv (fm ns : Nat → Str) (kd : Kd) (E : Expr) : Te → Prop
  | .tt => ∃ p, E = .BoolOp .And [] p
  | .ff => ∃ p, E = .BoolOp .Or [] p
  | .cmp op a b => ∃ A B p, E = .Compare A [opC op] [B] p ∧ IsE fm ns kd a A ∧ IsE fm ns kd b B ∧ behindInMarks (opC op) B = false
  | .and a b => ∃ A r p, E = .BoolOp .And (A :: r) p ∧ IsT fm ns kd a A ∧ IsT fm ns kd b (.BoolOp .And r p)
  | .or a b => ∃ A r p, E = .BoolOp .Or (A :: r) p ∧ IsT fm ns kd a A ∧ IsT fm ns kd b (.BoolOp .Or r p)
theorem t_inv {fm ns : Nat → Str} {kd : Kd} {E : Expr} {t : Te} (h : IsT fm ns kd t E) : TInv fm ns kd E t := by
  cases h with
  | cmp ho h1 h2 hm => subst ho; exact ⟨_, _, _, rfl, h1, h2, hm⟩
  | tt => exact ⟨_, rfl⟩
  | ff => exact ⟨_, rfl⟩
  | and h1 h2 => exact ⟨_, _, _, rfl, h1, h2⟩
  | or h1 h2 => exact ⟨_, _, _, rfl, h1, h2⟩
theorem tt_tt : TT c n kd ns ev lk l m A Er .tt := by
  intro E T s s' sh b Q whole h X o r k
  obtain ⟨p, rfl⟩ := t_inv h
  cases r
  exact isTrue_and_nil (k T sh.heap sh.toks X X.refl)
theorem tt_ff : TT c n kd ns ev lk l m A Er .ff := by
  intro E T s s' sh b Q whole h X o r k
  obtain ⟨p, rfl⟩ := t_inv h
  cases r
  exact isTrue_or_nil (k T sh.heap sh.toks X X.refl)
theorem tt_cmp (H : SE c n) (op : Cop) (a b : Ex) : TT c n kd ns ev lk l m A Er (.cmp op a b) := by
  intro E T s s' sh bb Q whole h X o r k
  obtain ⟨_, _, p, rfl, h1, h2, hm⟩ := t_inv h
  simp only [test] at r
  split at r
  · rename_i x s1 r1
    split at r
    · rename_i y s2 r2
      split at r
      · rename_i b' rc
        cases r
        refine wpAny_isTrue_Compare1 (H.use2 h1 h2 X o r1 r2 (Q := fun x y s₂ => wpAny (model c.prog c.w) A (compareOp (opC op) x y) (fun c' s₃ => wpAny (model c.prog c.w) A (truthy c') Q Er s₃) Er s₂) fun T' h' tk x y X' P' vx vy => ?_) hm
        exact c_op (sh := { sh with heap := h', toks := tk }) X' o vx vy rc (wpAny_pure (k T' h' tk X' P'))
      · cases r
    · cases r
  · cases r
theorem tt_and {a b : Te} (Ha : TT c n kd ns ev lk l m A Er a) (Hb : TT c n kd ns ev lk l m A Er b) : TT c n kd ns ev lk l m A Er (.and a b) := by
  intro E T s s' sh bb Q whole h X o r k
  obtain ⟨_, _, p, rfl, h1, h2⟩ := t_inv h
  simp only [test] at r
  split at r
  · rename_i s1 r1
    refine isTrue_and (Ha _ _ _ _ _ _ _ _ h1 X o r1 fun T' h' tk X' P' => ?_)
    rw [if_pos rfl]
    exact Hb _ _ _ _ { sh with heap := h', toks := tk } _ _ _ h2 X' o r fun T2 h2 t2 X2 P2 => k T2 h2 t2 X2 (P'.trans P2)
  · rename_i s1 r1
    cases r
    refine isTrue_and (Ha _ _ _ _ _ _ _ _ h1 X o r1 fun T' h' tk X' P' => ?_)
    rw [if_neg (by decide)]
    exact k T' h' tk X' P'
  · cases r
theorem tt_or {a b : Te} (Ha : TT c n kd ns ev lk l m A Er a) (Hb : TT c n kd ns ev lk l m A Er b) : TT c n kd ns ev lk l m A Er (.or a b) := by
  intro E T s s' sh bb Q whole h X o r k
  obtain ⟨_, _, p, rfl, h1, h2⟩ := t_inv h
  simp only [test] at r
  split at r
  · rename_i s1 r1
    cases r
    refine isTrue_or (Ha _ _ _ _ _ _ _ _ h1 X o r1 fun T' h' tk X' P' => ?_)
    rw [if_pos rfl]
    exact k T' h' tk X' P'
  · rename_i s1 r1
    refine isTrue_or (Ha _ _ _ _ _ _ _ _ h1 X o r1 fun T' h' tk X' P' => ?_)
    rw [if_neg (by decide)]
    exact Hb _ _ _ _ { sh with heap := h', toks := tk } _ _ _ h2 X' o r fun T2 h2 t2 X2 P2 => k T2 h2 t2 X2 (P'.trans P2)
  · cases r
theorem tt_all (H : SE c n) (t : Te) : TT c n kd ns ev lk l m A Er t := by
  refine @Te.rec (fun _ => True) (fun _ => True) (fun t => TT c n kd ns ev lk l m A Er t) ?_ ?_ ?_ ?_ ?_ ?_ ?_ ?_ ?_ ?_ ?_ ?_ ?_ ?_ ?_ ?_ ?_ ?_ ?_ ?_ ?_ ?_ ?_ ?_ ?_ ?_ ?_ ?_ ?_ ?_ ?_ ?_ ?_ ?_ ?_ ?_ ?_ t
  all_goals first | exact tt_tt | exact tt_ff | exact fun op a b _ _ => tt_cmp H op a b | exact fun _ _ ha hb => tt_and ha hb | exact fun _ _ ha hb => tt_or ha hb | (intros; trivial)
theorem t_test (H : SE c n) {t : Te} {E : Expr} (h : IsT c.fnm ns kd t E) {T : Nat → Addr} {s s' : S} {sh : Shared} {b : Bool} {Q : Bool → Shared → Prop} (whole : Sem Value) (X : Sit c lk kd ns ev l T s sh.heap m) (o : AOk n A) (r : test (evs c.tbl n) lk t l s = some (b, s'))
    (k : KT1 c kd ns ev lk l T s sh m b s' Q) : wpAny (model c.prog c.w) A (PySem.isTrue E ev whole) Q Er sh := tt_all H t E T s s' sh b Q whole h X o r k

theorem K1.after (k : K1 c ev lk T s sh m v s' Q) {T1 : Nat → Addr} {s1 : S} {h1 : Heap} {tk : Nat} (P1 : Post c.h₀ (own1 ev) lk T s sh.heap T1 s1 h1) : K1 c ev lk T1 s1 { sh with heap := h1, toks := tk } m v s' Q :=
  fun T' h' tk' w P hn hv => k T' h' tk' w (P1.trans P) hn hv

theorem e_ife (H : SE c n) {t : Te} {a b : Ex} {E1 B1 B2 : Expr} {p : Pos} (h0 : IsT c.fnm ns kd t E1) (h1 : IsE c.fnm ns kd a B1) (h2 : IsE c.fnm ns kd b B2) (X : Sit c lk kd ns ev l T s sh.heap m) (o : AOk (n + 1) A)
    (r : stepE (evs c.tbl n) lk (.ife t a b) l s = some (v, s')) (k : K1 c ev lk T s sh m v s' Q) : wpAny (model c.prog c.w) A (eval (.IfExp E1 B1 B2 p) ev) Q Er sh := by
  simp only [stepE] at r
  split at r
  · rename_i s1 r1
    refine wpAny_IfExp (t_test H h0 _ X o.pred r1 fun T' h' tk X' P' => ?_)
    rw [if_pos rfl]
    exact H _ _ _ _ _ _ _ _ _ _ _ { sh with heap := h', toks := tk } _ _ _ _ h1 X' o.pred r (k.after P')
  · rename_i s1 r1
    refine wpAny_IfExp (t_test H h0 _ X o.pred r1 fun T' h' tk X' P' => ?_)
    rw [if_neg (by decide)]
    exact H _ _ _ _ _ _ _ _ _ _ _ { sh with heap := h', toks := tk } _ _ _ _ h2 X' o.pred r (k.after P')
  · cases r
end
end Mine
namespace Mine
open PySem PySem.Spec PySem.Calls PyProof.Rows PyProof.V PySem.W

theorem idx_seq {l : List V} {k : Int} {v : V} (h : idx l k = some v) : ∃ j, seqIndex? k l.length = some j ∧ l[j]? = some v ∧ ((0 ≤ k ∧ j = k.toNat) ∨ (k < 0 ∧ -(l.length : Int) ≤ k ∧ j = (k + l.length).toNat)) := by
  unfold idx at h
  split at h
  · rename_i i
    have hlt : i < l.length := (List.getElem?_eq_some_iff.mp h).1
    refine ⟨i, ?_, h, Or.inl ⟨Int.natCast_nonneg i, rfl⟩⟩
    unfold seqIndex?
    have h1 : ¬ (Int.ofNat i < 0) := by simp
    simp only [h1, if_false]
    have h2 : (0 ≤ Int.ofNat i) := by simp
    have h3 : Int.ofNat i < (l.length : Int) := by show (i : Int) < _; omega
    simp [hlt]
  · rename_i i
    split at h
    · rename_i hb
      have hb' : i + 1 ≤ l.length := Nat.le_of_ble_eq_true hb
      have e1 : Int.negSucc i + (l.length : Int) = ((l.length - (i + 1) : Nat) : Int) := by omega
      refine ⟨l.length - (i + 1), ?_, h, Or.inr ⟨by omega, by omega, by rw [e1]; rfl⟩⟩
      unfold seqIndex?
      have h1 : Int.negSucc i < 0 := by omega
      simp only [h1, if_true, e1]
      have h3 : ((l.length - (i + 1) : Nat) : Int) < (l.length : Int) := by omega
      simp
      omega
    · cases h

section
variable {c : Ctx} {n : Nat} {lk : List Nat} {kd : Kd} {ns : Nat → Str} {ev : Env} {l : Loc} {T : Nat → Addr} {s s' : S} {sh : Shared} {m : Str → Option Value} {A : Around} {Q : Value → Shared → Prop} {Er : Value → Shared → Prop} {v : V} {h h' : Heap}

theorem item_tup {A1 I : Expr} {p : Addr} {xs : List V} {ws : List Value} {k : Int} {t : Tok} (hs : tailOk I) (ht : IsTup sh.heap p ws.toArray) (hv : VRs T s.n sh.heap xs ws) (hk : inLong k = true) (r : idx xs k = some v)
    (q : ∀ w, VR T s.n sh.heap v w → Q w sh) : wpAny (model c.prog c.w) A (subscriptTail A1 I (.ref p) (.int k t)) Q Er sh := by
  obtain ⟨j, h1, h2, _⟩ := idx_seq r
  obtain ⟨w, h3, h4⟩ := hv.get h2
  have hl := inLong_lt hk
  refine item_tupleT (l := ws) (j := j) (x := w) ht (by omega) (by omega) (by rw [hv.length]; exact h1) h3 (q w h4) (hs _ _)
theorem item_list {A1 I : Expr} {p : Addr} {xs : List V} {ws : List Value} {k : Int} {t : Tok} (hs : tailOk I) (ht : sh.heap.IsList p ws.toArray) (hv : VRs T s.n sh.heap xs ws) (hk : inLong k = true) (r : idx xs k = some v)
    (q : ∀ w, VR T s.n sh.heap v w → Q w sh) : wpAny (model c.prog c.w) A (subscriptTail A1 I (.ref p) (.int k t)) Q Er sh := by
  obtain ⟨j, h1, h2, hj⟩ := idx_seq r
  obtain ⟨w, h3, h4⟩ := hv.get h2
  have hl := inLong_lt hk
  have e := hv.length
  refine tail_any (ops := [.ref p, .int k t]) ht.typeIs slot_list_getitem.lookup ?_ (hs _ _)
  rcases hj with ⟨h0, rfl⟩ | ⟨h0, hlo, rfl⟩
  · exact wpAny_getItem_list ht h0 (by omega) (by simpa using h3) (q w h4)
  · refine wpAny_getItem_list_neg ht h0 (by simp only [List.size_toArray]; rw [e]; exact hlo) (by omega) ?_ (q w h4)
    simp only [List.size_toArray, e]
    simpa using h3

theorem e_sub (H : SE c n) {a i : Ex} {B1 B2 : Expr} {p : Pos} (h1 : IsE c.fnm ns kd a B1) (h2 : IsE c.fnm ns kd i B2) (hs : tailOk B2) (X : Sit c lk kd ns ev l T s sh.heap m) (o : AOk (n + 1) A)
    (r : stepE (evs c.tbl n) lk (.sub a i) l s = some (v, s')) (k : K1 c ev lk T s sh m v s' Q) : wpAny (model c.prog c.w) A (eval (.Subscript B1 B2 p) ev) Q Er sh := by
  simp only [stepE, e2] at r
  split at r
  · rename_i x s1 r1
    split at r
    · rename_i y s2 r2
      split at r
      · rename_i u ri
        cases r
        refine Subscript_ (H.use2 h1 h2 X o.pred r1 r2 (Q := fun x y s₂ => wpAny (model c.prog c.w) A (subscriptTail B1 B2 x y) Q Er s₂) fun T' h' tk x' y' X' P' vx vy => ?_)
        unfold item at ri
        split at ri
        · rename_i kk
          obtain ⟨t, rfl⟩ := vy
          split at ri
          · rename_i hk
            split at ri
            · split at ri
              · rename_i g
                obtain ⟨ws, hL, hv⟩ := X'.list g
                obtain ⟨_, rfl⟩ := vx
                exact item_list (sh := { sh with heap := h', toks := tk }) (s := s') hs hL hv hk ri fun w hw => k.here P' X'.env.tab hw
              · cases ri
            · obtain ⟨q, u1, u2, rfl, ht, w1, w2⟩ := vx
              exact item_tup (sh := { sh with heap := h', toks := tk }) (ws := [u1, u2]) (xs := [_, _]) (s := s') hs ht ⟨u1, _, rfl, w1, u2, _, rfl, w2, rfl⟩ hk ri fun w hw => k.here P' X'.env.tab hw
            · obtain ⟨q, u1, u2, u3, rfl, ht, w1, w2, w3⟩ := vx
              exact item_tup (sh := { sh with heap := h', toks := tk }) (ws := [u1, u2, u3]) (xs := [_, _, _]) (s := s') hs ht ⟨u1, _, rfl, w1, u2, _, rfl, w2, u3, _, rfl, w3, rfl⟩ hk ri fun w hw => k.here P' X'.env.tab hw
            · cases ri
          · cases ri
        · cases ri
      · cases r
    · cases r
  · cases r

/-! cuts -/
theorem pick_to (ws : List Value) (i : Int) : slicePick ws.toArray none (some i) none = (match i with | .ofNat k => ws.take k | .negSucc k => ws.take (ws.length - (k + 1))).toArray := by
  cases i with
  | ofNat k => exact slicePick_upto' ws.toArray k
  | negSucc k =>
    have h := slicePick_butLast ws.toArray (k + 1) (Nat.le_add_left 1 k)
    simp only [List.size_toArray] at h
    exact h
theorem pick_from (ws : List Value) (k : Nat) : slicePick ws.toArray (some (k : Int)) none none = (ws.drop k).toArray := slicePick_from' ws.toArray k

theorem slice_tail {A1 : Expr} {lo hi : Option Expr} {q : Pos} {p sl : Addr} {ws : List Value} {vl vu : Value} {lo' hi' : Option Int} (ht : sh.heap.IsList p ws.toArray) (hsl : sh.heap.IsSliceOf sl vl vu .none) (pl : IsPart vl lo') (pu : IsPart vu hi') (hsz : ws.length ≤ 512)
    (k : Q (.ref sh.heap.objs.size) { sh with heap := sh.heap.push { cls := .type "list", data := .seq (slicePick ws.toArray lo' hi' none) } }) :
    wpAny (model c.prog c.w) A (subscriptTail A1 (.Slice lo hi none q) (.ref p) (.ref sl)) Q Er sh :=
  tail_any (ops := [.ref sl, .ref p]) ht.typeIs slot_list_getitem.lookup (wpAny_getItem_list_slice ht hsl pl pu .none (by simp) k (by simp only [List.size_toArray]; show _ ≤ 2 ^ 24; omega)) rfl

theorem e_slTo (H : SE c n) {a i : Ex} {B1 B2 : Expr} {q p : Pos} (h1 : IsE c.fnm ns kd a B1) (h2 : IsE c.fnm ns kd i B2) (X : Sit c lk kd ns ev l T s sh.heap m) (o : AOk (n + 1) A)
    (r : stepE (evs c.tbl n) lk (.slTo a i) l s = some (v, s')) (k : K1 c ev lk T s sh m v s' Q) : wpAny (model c.prog c.w) A (eval (.Subscript B1 (.Slice none (some B2) none q) p) ev) Q Er sh := by
  simp only [stepE, e2] at r
  split at r
  · rename_i x s1 r1
    split at r
    · rename_i y s2 r2
      split at r
      · rename_i kk nn
        split at r
        · rename_i vs g
          split at r
          · rename_i hsh
            split at r
            · rename_i hlong
              cases r
              refine Subscript_ (H.use h1 X o.pred r1 fun T1 h1 t1 x X1 P1 vx => wpAny_Slice ?_)
              rw [evalPart_none, evalPart_some]
              refine wpAny_pure (H.use (sh := { sh with heap := h1, toks := t1 }) h2 X1 o.pred r2 fun T2 h2 t2 y X2 P2 vy => wpAny_pure ?_)
              obtain ⟨ws, hL, hv⟩ := X2.list g
              have vx' := P2.vr X1.inv X1.ns1 vx
              obtain ⟨_, rfl⟩ := vx'
              obtain ⟨t, rfl⟩ := vy
              refine slice_tail (sh := { sh with heap := h2.push _, toks := t2 }) (hL.push _) (Heap.IsSliceOf.new ..) .none (.int nn t) (by rw [hv.length]; exact short_le hsh) ?_
              rw [pick_to]
              refine k.of_list X2 (P1.trans P2) (fun a o e => push_keep _ _ _ _ (push_keep _ _ _ _ e)) (D := (h2.push _).objs.size) (fresh_none (by rw [Heap.size_push]; exact Nat.le_succ _)) (push_list _ _) ?_
              unfold cutTo
              have e := hv.length
              cases nn with
              | ofNat j => exact hv.take j
              | negSucc j =>
                have : ws.length - (j + 1) = vs.length - (j + 1) := by rw [e]
                show VRs _ _ _ (vs.take (vs.length - (j + 1))) (ws.take (ws.length - (j + 1)))
                rw [this]; exact hv.take _
            · cases r
          · cases r
        · cases r
      · cases r
    · cases r
  · cases r
theorem e_slFrom (H : SE c n) {a i : Ex} {B1 B2 : Expr} {q p : Pos} (h1 : IsE c.fnm ns kd a B1) (h2 : IsE c.fnm ns kd i B2) (X : Sit c lk kd ns ev l T s sh.heap m) (o : AOk (n + 1) A)
    (r : stepE (evs c.tbl n) lk (.slFrom a i) l s = some (v, s')) (k : K1 c ev lk T s sh m v s' Q) : wpAny (model c.prog c.w) A (eval (.Subscript B1 (.Slice (some B2) none none q) p) ev) Q Er sh := by
  simp only [stepE, e2] at r
  split at r
  · rename_i x s1 r1
    split at r
    · rename_i y s2 r2
      split at r
      · rename_i kk nn
        split at r
        · rename_i vs g
          split at r
          · rename_i hsh
            cases r
            refine Subscript_ (H.use h1 X o.pred r1 fun T1 h1 t1 x X1 P1 vx => wpAny_Slice ?_)
            rw [evalPart_none, evalPart_some]
            refine H.use (sh := { sh with heap := h1, toks := t1 }) h2 X1 o.pred r2 fun T2 h2 t2 y X2 P2 vy => ?_
            refine wpAny_pure (wpAny_pure ?_)
            obtain ⟨ws, hL, hv⟩ := X2.list g
            have vx' := P2.vr X1.inv X1.ns1 vx
            obtain ⟨_, rfl⟩ := vx'
            obtain ⟨t, rfl⟩ := vy
            refine slice_tail (sh := { sh with heap := h2.push _, toks := t2 }) (hL.push _) (Heap.IsSliceOf.new ..) (.int _ t) .none (by rw [hv.length]; exact short_le hsh) ?_
            rw [show Int.ofNat nn = (nn : Int) from rfl, pick_from]
            exact k.of_list X2 (P1.trans P2) (fun a o e => push_keep _ _ _ _ (push_keep _ _ _ _ e)) (D := (h2.push _).objs.size) (fresh_none (by rw [Heap.size_push]; exact Nat.le_succ _)) (push_list _ _) (hv.drop nn)
          · cases r
        · cases r
      · cases r
    · cases r
  · cases r

/-! built-ins -/
theorem e_abs (C : c.Ok) (H : SE c n) {a : Ex} {B1 : Expr} {nm : Str} {q p : Pos} (g : gl kd nm "abs") (h1 : IsE c.fnm ns kd a B1) (w1 : one B1) (X : Sit c lk kd ns ev l T s sh.heap m) (o : AOk (n + 1) A)
    (r : stepE (evs c.tbl n) lk (.abs a) l s = some (v, s')) (k : K1 c ev lk T s sh m v s' Q) : wpAny (model c.prog c.w) A (eval (.Call (.Name nm q) [B1] [] p) ev) Q Er sh := by
  simp only [stepE] at r
  split at r
  · rename_i i s1 r1
    cases r
    refine wpAny_Call_NameR (built_name C X g C.b_abs (PyProof.Rows.callWith_builtin1 (rest := []) ?_ (w1 ev []) rfl))
    rw [w1.args]
    refine spliced_cons (H.use h1 X o.pred r1 fun T1 h1 t1 x X1 P1 vx => spliced_nil ?_)
    obtain ⟨t, rfl⟩ := vx
    refine PyProof.Rows.call_abs_int fun u tk => ?_
    have e : (if i < 0 then -i else i) = Int.ofNat i.natAbs := by show _ = (i.natAbs : Int); split <;> omega
    rw [e]
    exact k.here P1 X1.env.tab ⟨_, rfl⟩
  · cases r
theorem e_len (C : c.Ok) (H : SE c n) {a : Ex} {B1 : Expr} {nm : Str} {q p : Pos} (g : gl kd nm "len") (h1 : IsE c.fnm ns kd a B1) (w1 : one B1) (X : Sit c lk kd ns ev l T s sh.heap m) (o : AOk (n + 1) A)
    (r : stepE (evs c.tbl n) lk (.len a) l s = some (v, s')) (k : K1 c ev lk T s sh m v s' Q) : wpAny (model c.prog c.w) A (eval (.Call (.Name nm q) [B1] [] p) ev) Q Er sh := by
  simp only [stepE] at r
  split at r
  · rename_i kk s1 r1
    split at r
    · rename_i vs gv
      split at r
      · rename_i hsh
        cases r
        refine wpAny_Call_NameR (built_name C X g C.b_len (PyProof.Rows.callWith_builtin1 (rest := []) ?_ (w1 ev []) rfl))
        rw [w1.args]
        refine spliced_cons (H.use h1 X o.pred r1 fun T1 h1 t1 x X1 P1 vx => spliced_nil ?_)
        obtain ⟨ws, hL, hv⟩ := X1.list gv
        obtain ⟨_, rfl⟩ := vx
        have e := hv.length
        have hs := short_le hsh
        refine PyProof.Rows.len_list (s := { sh with heap := h1, toks := t1 }) hL (by simp only [List.size_toArray, e]; omega) ?_
        simp only [List.size_toArray, e]
        exact k.here P1 X1.env.tab ⟨_, rfl⟩
      · cases r
    · cases r
  · cases r
theorem e_max (C : c.Ok) (H : SE c n) {a b : Ex} {B1 B2 : Expr} {nm : Str} {q p : Pos} (g : gl kd nm "max") (h1 : IsE c.fnm ns kd a B1) (h2 : IsE c.fnm ns kd b B2) (w2 : two B1 B2) (X : Sit c lk kd ns ev l T s sh.heap m) (o : AOk (n + 1) A)
    (r : stepE (evs c.tbl n) lk (.max a b) l s = some (v, s')) (k : K1 c ev lk T s sh m v s' Q) : wpAny (model c.prog c.w) A (eval (.Call (.Name nm q) [B1, B2] [] p) ev) Q Er sh := by
  simp only [stepE, e2] at r
  split at r
  · rename_i x s1 r1
    split at r
    · rename_i y s2 r2
      split at r
      · rename_i i j
        refine wpAny_Call_NameR (built_name C X g C.b_max (PyProof.Rows.callWith_builtin1 (rest := [B2]) ?_ (w2.1 ev [B2]) (by rw [w2.2.args]; rfl)))
        rw [w2.args]
        refine spliced_cons (H.use h1 X o.pred r1 fun T1 h1 t1 x X1 P1 vx => spliced_cons (H.use (sh := { sh with heap := h1, toks := t1 }) h2 X1 o.pred r2 fun T2 h2 t2 y X2 P2 vy => spliced_nil ?_))
        obtain ⟨t, rfl⟩ := vx
        obtain ⟨u, rfl⟩ := vy
        refine max_two_ints (s := { sh with heap := h2, toks := t2 }) o.1 fun h' tk hk => ?_
        split at r
        · rename_i hlt
          cases r
          have hij := (PySem.W.Z.ltB_iff _ _).mp hlt
          simp only [hij, if_true]
          exact k.of_grown X2 (P1.trans P2) hk ⟨_, rfl⟩
        · rename_i hlt
          cases r
          have hij : ¬ i < j := fun q => by rw [(PySem.W.Z.ltB_iff _ _).mpr q] at hlt; cases hlt
          simp only [hij, if_false]
          exact k.of_grown X2 (P1.trans P2) hk ⟨_, rfl⟩
      · cases r
    · cases r
  · cases r
theorem e_mklist (C : c.Ok) (H : SE c n) {a : Ex} {B1 : Expr} {nm : Str} {q p : Pos} (g : gl kd nm "list") (h1 : IsE c.fnm ns kd a B1) (w1 : one B1) (X : Sit c lk kd ns ev l T s sh.heap m) (o : AOk (n + 1) A)
    (r : stepE (evs c.tbl n) lk (.mklist a) l s = some (v, s')) (k : K1 c ev lk T s sh m v s' Q) : wpAny (model c.prog c.w) A (eval (.Call (.Name nm q) [B1] [] p) ev) Q Er sh := by
  simp only [stepE] at r
  split at r
  · rename_i kk s1 r1
    split at r
    · rename_i vs gv
      split at r
      · rename_i hsh
        cases r
        refine wpAny_Call_NameR (built_name C X g C.b_list (PyProof.Rows.callWith_type1 (rest := []) ?_ (w1 ev []) rfl))
        rw [w1.args]
        refine spliced_cons (H.use h1 X o.pred r1 fun T1 h1 t1 x X1 P1 vx => spliced_nil ?_)
        obtain ⟨ws, ⟨ob, ho, hc, nn, hd⟩, hv⟩ := X1.list gv
        obtain ⟨_, rfl⟩ := vx
        have e := hv.length
        have hs := short_le hsh
        refine call_list_seq (s := { sh with heap := h1, toks := t1 }) _ (Or.inl rfl) ho hc hd (fun h' c' hk hnew => ?_) (by simp only [List.size_toArray, e]; show _ ≤ 2 ^ 24; omega)
        exact k.of_list X1 P1 hk (fresh_none (Nat.le_refl _)) ⟨_, _, hnew, rfl, rfl, rfl⟩ hv
      · cases r
    · cases r
  · cases r
theorem e_toInt (C : c.Ok) (H : SE c n) {a : Ex} {B1 : Expr} {nm : Str} {q p : Pos} (g : gl kd nm "int") (h1 : IsE c.fnm ns kd a B1) (w1 : one B1) (X : Sit c lk kd ns ev l T s sh.heap m) (o : AOk (n + 1) A)
    (r : stepE (evs c.tbl n) lk (.toInt a) l s = some (v, s')) (k : K1 c ev lk T s sh m v s' Q) : wpAny (model c.prog c.w) A (eval (.Call (.Name nm q) [B1] [] p) ev) Q Er sh := by
  simp only [stepE] at r
  split at r
  · rename_i i s1 r1
    cases r
    refine wpAny_Call_NameR (built_name C X g C.b_int (PyProof.Rows.callWith_type1 (rest := []) ?_ (w1 ev []) rfl))
    rw [w1.args]
    refine spliced_cons (H.use h1 X o.pred r1 fun T1 h1 t1 x X1 P1 vx => spliced_nil ?_)
    obtain ⟨t, rfl⟩ := vx
    exact call_int_int (s := { sh with heap := h1, toks := t1 }) (k.here P1 X1.env.tab ⟨_, rfl⟩)
  · cases r

theorem foldl_rep (x : Value) : ∀ (n : Nat) (acc : Array Value), List.foldl (fun x1 x2 => x1 ++ x2) acc (List.replicate n #[x]) = acc ++ (List.replicate n x).toArray
  | 0, acc => by simp
  | n + 1, acc => by
    rw [List.replicate_succ, List.foldl_cons, foldl_rep x n, List.replicate_succ]
    apply Array.ext'
    simp
theorem e_rep (H : SE c n) {a b : Ex} {B1 B2 : Expr} {q p : Pos} (h1 : IsE c.fnm ns kd a B1) (h2 : IsE c.fnm ns kd b B2) (w1 : one B1) (X : Sit c lk kd ns ev l T s sh.heap m) (o : AOk (n + 1) A)
    (r : stepE (evs c.tbl n) lk (.rep a b) l s = some (v, s')) (k : K1 c ev lk T s sh m v s' Q) : wpAny (model c.prog c.w) A (eval (.BinOp (.List [B1] q) .Mult B2 p) ev) Q Er sh := by
  simp only [stepE, e2] at r
  split at r
  · rename_i x s1 r1
    split at r
    · rename_i y s2 r2
      split at r
      · rename_i i
        split at r
        · rename_i hb
          split at r
          · rename_i hlong
            cases r
            refine wpAny_BinOp (wpAny_List_spliced ?_)
            rw [w1.args]
            refine spliced_cons (H.use h1 X o.pred r1 fun T1 h1 t1 x X1 P1 vx => spliced_nil ⟨by show 1 ≤ sizeLine; decide, ?_⟩)
            have G := X1.grown (push_keep h1 { cls := .type "list", data := .seq [x].toArray })
            have X1' := X1.next G.1 G.2
            refine H.use (sh := { sh with heap := h1.push { cls := .type "list", data := .seq [x].toArray }, toks := t1 }) h2 X1' o.pred r2 fun T2 h2 t2 y X2 P2 vy => ?_
            obtain ⟨t, rfl⟩ := vy
            have hl : h2.get? h1.objs.size = some { cls := .type "list", data := .seq [x].toArray } := by
              refine P2.ext _ _ (Heap.get?_push_size _ rfl) (fun q => ?_) fun k hk q => ?_
              · have := X1.env.tab.lt; rw [← show h1.objs.size = ev.locals from q] at this; exact Nat.lt_irrefl _ this
              · obtain ⟨_, _, _, ⟨ob, ho, _⟩, _⟩ := X1.inv.lst k hk
                rw [q] at ho; exact Nat.lt_irrefl _ (Heap.lt_size ho)
            have hlo := inLong_lt hlong
            have hi := (PySem.W.Z.ltB_iff _ _).mp hb
            refine mul_list (s := { sh with heap := h2, toks := t2 }) (fr0 X2.env.tab) news0 hl (by omega) (by omega) (by simp only [List.size_toArray, List.length_cons, List.length_nil]; omega) fun h' F' N' => ?_
            have hnew := (N' _ (List.mem_cons_self ..)).1
            have e0 : (if (([x].toArray).isEmpty = true) then 0 else i.toNat) = i.toNat := rfl
            rw [e0, show ([x].toArray) = #[x] from rfl, foldl_rep] at hnew
            have hx : VR T2 s2.n h2 _ x := (P2.vr X1'.inv X1'.ns1 (vx.keeps (push_keep _ _)))
            refine k.of_listBut X2 ((P1.trans G.1).trans P2) (keep_of (x := [_]) N') F'.ns (fresh_none (Nat.le_refl _)) ⟨_, 0, hnew, rfl, rfl, ?_⟩ (VRs.replicate hx i.toNat)
            simp
          · cases r
        · cases r
      · cases r
    · cases r
  · cases r
end
end Mine
/-! ITERABLES: what a loop walks over. -/
namespace Mine
set_option genSizeOf false
set_option genSizeOfSpec false
set_option genInjectivity false
open PySem PySem.Spec PySem.Calls PyProof.Rows PyProof.V PySem.W

section
variable {h₀ h h' h'' : Heap} {own : Addr → Prop} {lk lk' : List Nat} {T T' T'' : Nat → Addr} {s s' s'' : S}

/-- places of a walk change: they are none of h's, no tracked list, no tuple -/
theorem Post.skip {wr : Addr → Prop} (P : Post h₀ own lk T s h T' s' h') (I : Inv h₀ lk T s h) (hf : ∀ a, wr a → h.get? a = none) (ht : ∀ a, wr a → ∀ k, k < s'.n → T' k ≠ a) (hu : ∀ a, wr a → ∀ xs, ¬ IsTup h' a xs)
    (hk : ∀ a o, ¬ wr a → h'.get? a = some o → h''.get? a = some o) (N : NoSeq h'' own) : Post h₀ own lk T s h T' s' h'' where
  inv := {
    base := fun a o e => hk a o (fun q => by have := I.base a o e; rw [hf a q] at this; cases this) (P.inv.base a o e)
    dom := P.inv.dom
    lst := fun k hlt => by
      obtain ⟨l, ws, e, hL, hv⟩ := P.inv.lst k hlt
      obtain ⟨o, ho, r⟩ := hL
      refine ⟨l, ws, e, ⟨o, hk _ _ (fun q => ht _ q k hlt rfl) ho, r⟩, VRs.mono (fun _ _ => rfl) (Nat.le_refl _) (fun p xs hp => ?_) l hv⟩
      have hnp : ¬ wr p := fun q => hu p q xs hp
      obtain ⟨o', ho', r'⟩ := hp
      exact ⟨o', hk _ _ hnp ho', r'⟩
    inj := P.inv.inj
    fresh := P.inv.fresh
    plain := fun k hlt hm => let ⟨o, ho, hd⟩ := P.inv.plain k hlt hm; ⟨o, hk _ _ (fun q => ht _ q k hlt rfl) ho, hd⟩ }
  agree := P.agree
  le := P.le
  ext := fun a o e ho hn => hk a o (fun q => by rw [hf a q] at e; cases e) (P.ext a o e ho hn)
  live := fun a o e => let ⟨o', e'⟩ := P.live a o e; ⟨o', hk a o' (fun q => by rw [hf a q] at e; cases e) e'⟩
  new := P.new
  lock := P.lock
  lockh := fun k o a b e => by
    have := P.lockh k o a b e
    exact hk _ _ (fun q => by rw [hf _ q] at e; cases e) this
  noseq := N
/-- what was locked for a while -/
theorem Post.unlock (P : Post h₀ own lk' T s h T' s' h') (I : Inv h₀ lk T s h) (hl : ∀ k, memN lk k = true → memN lk' k = true) (hl' : ∀ k, memN lk' k = true → memN lk k = true ∨ k < s.n) : Post h₀ own lk T s h T' s' h' where
  inv := {
    base := P.inv.base
    dom := P.inv.dom
    lst := P.inv.lst
    inj := P.inv.inj
    fresh := fun k hk hm => by
      cases e : memN lk' k with
      | false => exact P.inv.fresh k hk e
      | true =>
        rcases hl' k e with q | q
        · rw [hm] at q; cases q
        · rw [P.agree k q]; exact I.fresh k q hm
    plain := fun k hk hm => by
      cases e : memN lk' k with
      | false => exact P.inv.plain k hk e
      | true =>
        rcases hl' k e with q | q
        · rw [hm] at q; cases q
        · obtain ⟨o, ho, hd⟩ := I.plain k q hm
          exact ⟨o, by rw [P.agree k q]; exact P.lockh k o e q ho, hd⟩ }
  agree := P.agree
  le := P.le
  ext := P.ext
  live := P.live
  new := P.new
  lock := fun k a b => P.lock k (hl k a) b
  lockh := fun k o a b e => P.lockh k o (hl k a) b e
  noseq := P.noseq
theorem Inv.more (I : Inv h₀ lk T s h) (hl : ∀ k, memN lk k = true → memN lk' k = true) : Inv h₀ lk' T s h :=
  have w : ∀ k, memN lk' k = false → memN lk k = false := fun k hm => by cases e : memN lk k with | false => rfl | true => rw [hl k e] at hm; cases hm
  ⟨I.base, I.dom, I.lst, I.inj, fun k hk hm => I.fresh k hk (w k hm), fun k hk hm => I.plain k hk (w k hm)⟩
theorem Sit.more {c : Ctx} {kd : Kd} {ns : Nat → Str} {ev : Env} {l : Loc} {m : Str → Option Value} (X : Sit c lk kd ns ev l T s h m) (hl : ∀ k, memN lk k = true → memN lk' k = true) : Sit c lk' kd ns ev l T s h m :=
  ⟨X.inv.more hl, X.env, X.st, X.nso, X.loc0, X.cell0⟩
end

/-- drawing items by a target's form: an iterator at I, what it reads, what it writes -/
structure Turns (prog : Program) (w : World) (A : Around) (tgt : Expr) (I : Addr) (fp wr : List Addr) (n : Nat) (P : Nat → Value → Heap → Prop) (St : Nat → Heap → Prop) : Prop where
  frame : ∀ i h h', St i h → (∀ b ∈ fp, ∀ o, h.get? b = some o → h'.get? b = some o) → St i h'
  item : ∀ i (s : Shared) (Q : Value → Shared → Prop) (E : Value → Shared → Prop), i < n → St i s.heap →
    (∀ v h' tk, P i v h' → St (i + 1) h' → (∀ b o, b ∉ wr → s.heap.get? b = some o → h'.get? b = some o) → Q v { s with heap := h', toks := tk }) →
    wpAny (model prog w) A (pyNext (.ref I)) (fun r s₁ => match r with | none => False | some v => wpAny (model prog w) A (letOwnedTupleGo tgt (.ref I) v) (fun _ s₂ => Q v s₂) E s₁) E s
  done : ∀ (s : Shared) (Q : Shared → Prop) (E : Value → Shared → Prop), St n s.heap → (∀ h' tk, (∀ b o, b ∉ wr → s.heap.get? b = some o → h'.get? b = some o) → Q { s with heap := h', toks := tk }) →
    wpAny (model prog w) A (pyNext (.ref I)) (fun r s₁ => match r with | none => Q s₁ | some _ => False) E s
  nos : ∀ i h, St i h → ∀ b ∈ wr, ∃ o, h.get? b = some o ∧ ∀ xs k, o.data ≠ .seq xs k
  self : ∀ i (s : Shared) (Q : Value → Shared → Prop) (E : Value → Shared → Prop), St i s.heap → Q (.ref I) s → wpAny (model prog w) A (pyIter (.ref I)) Q E s

theorem Turns.ofWalks {prog : Program} {w : World} {A : Around} {nm : Str} {p : Pos} {I : Addr} {fp wr : List Addr} {n : Nat} {P : Nat → Value → Prop} {St : Nat → Heap → Prop} (W : Walks prog w A I fp wr n P St)
    (nos : ∀ i h, St i h → ∀ b ∈ wr, ∃ o, h.get? b = some o ∧ ∀ xs k, o.data ≠ .seq xs k) : Turns prog w A (.Name nm p) I fp wr n (fun i v _ => P i v) St where
  frame := W.frame
  item := fun i s Q E hi hst k => W.item i s _ E hi hst fun v h' tk hP hS hk => wpAny_of_eq (a := ()) rfl (k v h' tk hP hS hk)
  done := fun s Q E hst k => W.done s _ E hst k
  nos := nos
  self := W.self

/-- the iterables' items, by value -/
def Items (base : List V) (ws : List Value) (vs : List V) (P : Nat → Value → Heap → Prop) : Prop := ∀ (i : Nat) (v : Value) (u : V) (T : Nat → Addr) (n : Nat) (h : Heap), VRs T n h base ws → P i v h → vs[i]? = some u → VR T n h u v

structure Iterd (c : Ctx) (A : Around) (tgt : Expr) (ev : Env) (lk : List Nat) (kd : Kd) (ns : Nat → Str) (l : Loc) (T : Nat → Addr) (s : S) (sh : Shared) (m : Str → Option Value) (vs : List V) (lk' : List Nat) (s1 : S) (it : Value) (s₂ : Shared) : Prop where
  out : ∃ (T1 : Nat → Addr) (h1 h2 : Heap) (tk : Nat) (I : Addr) (fp wr : List Addr) (P : Nat → Value → Heap → Prop) (St : Nat → Heap → Prop) (base : List V) (ws : List Value),
    s₂ = { sh with heap := h2, toks := tk } ∧ it = .ref I ∧ Turns c.prog c.w A tgt I fp wr vs.length P St ∧ St 0 h2 ∧ Sit c lk kd ns ev l T1 s1 h1 m ∧ Post c.h₀ (own1 ev) lk T s sh.heap T1 s1 h1 ∧
    (∀ a o, h1.get? a = some o → h2.get? a = some o) ∧ (∀ b ∈ wr, h1.get? b = none) ∧ (∀ b ∈ fp, b ∈ wr ∨ ∃ k, k < s1.n ∧ memN lk' k = true ∧ b = T1 k) ∧ VRs T1 s1.n h1 base ws ∧ Items base ws vs P
  lk1 : ∀ k, memN lk k = true → memN lk' k = true
  lk2 : ∀ k, memN lk' k = true → memN lk k = true ∨ k < s1.n
  short : vs.length ≤ 512

theorem memN_cons (a : Nat) (r : List Nat) (k : Nat) : memN (a :: r) k = (Nat.beq a k || memN r k) := by
  show (match Nat.beq a k with | true => true | false => memN r k) = _
  cases Nat.beq a k <;> rfl
theorem intsFrom_length (a : Int) : ∀ n : Nat, (intsFrom a n).length = n
  | 0 => rfl
  | n + 1 => by rw [intsFrom, List.length_cons, intsFrom_length (a + 1) n]
theorem intsFrom_get : ∀ (n : Nat) (a : Int) (i : Nat) {u : V}, (intsFrom a n)[i]? = some u → u = .int (a + i)
  | 0, _, _, _, h => by simp [intsFrom] at h
  | n + 1, a, 0, u, h => by simp [intsFrom] at h; rw [← h]; simp
  | n + 1, a, i + 1, u, h => by
    have h' : (intsFrom (a + 1) n)[i]? = some u := by simpa [intsFrom] using h
    rw [intsFrom_get n (a + 1) i h']
    congr 1
    push_cast
    omega
theorem nums_length : ∀ (i : Nat) (l : List V), (nums i l).length = l.length
  | _, [] => rfl
  | i, _ :: r => by rw [nums, List.length_cons, nums_length (i + 1) r, List.length_cons]
theorem nums_get : ∀ (l : List V) (j i : Nat) {u : V}, (nums j l)[i]? = some u → ∃ v, l[i]? = some v ∧ u = .pair (.int ((j + i : Nat) : Int)) v
  | [], _, _, _, h => by simp [nums] at h
  | v :: r, j, 0, u, h => by simp [nums] at h; exact ⟨v, rfl, by rw [← h]; rfl⟩
  | v :: r, j, i + 1, u, h => by
    obtain ⟨v', h1, h2⟩ := nums_get r (j + 1) i (by simpa [nums] using h)
    exact ⟨v', by simpa using h1, by rw [h2, show j + 1 + i = j + (i + 1) by omega]⟩
theorem range_size (a b : Int) : Builtin.Range.rangeSize a b 1 = (((b - a).toNat : Nat) : Int) := by
  unfold Builtin.Range.rangeSize
  simp only [show (1 : Int) > 0 by decide, if_true, Int.ediv_one]
  by_cases h : a < b
  · rw [if_pos h]; omega
  · rw [if_neg h]; omega

section
variable {c : Ctx} {n : Nat} {lk lk' : List Nat} {kd : Kd} {ns : Nat → Str} {ev : Env} {l : Loc} {T : Nat → Addr} {s s' : S} {sh : Shared} {m : Str → Option Value} {A : Around} {Er : Value → Shared → Prop} {vs : List V} {h h' : Heap}

/-- a range's walk -/
theorem walk_range {nm : Str} {p : Pos} (o : AOk n A) {T1 : Nat → Addr} {s1 : S} {h1 : Heap} {tk : Nat} (X1 : Sit c lk kd ns ev l T1 s1 h1 m) (P1 : Post c.h₀ (own1 ev) lk T s sh.heap T1 s1 h1) {a b : Int} (ha : inLong a = true) (hb : inLong b = true)
    (hd : (b - a).toNat ≤ 512) {h2 : Heap} (hk : ∀ x o, h1.get? x = some o → h2.get? x = some o) {r : Addr} {t u v : Tok} (hr : IsRange h2 r a b 1 t u v) :
    wpAny (model c.prog c.w) A (pyIter (.ref r)) (fun it s₂ => Iterd c A (.Name nm p) ev lk kd ns l T s sh m (intsFrom a (b - a).toNat) lk s1 it s₂) Er { sh with heap := h2, toks := tk } := by
  have la := inLong_lt ha
  have lb := inLong_lt hb
  refine wpAny_pyIter_range (s := { sh with heap := h2, toks := tk }) hr (small_one (by omega) (by omega) (by omega) (by omega)) ?_
  have keep : ∀ x o, h1.get? x = some o → (h2.push { cls := .type "range_iterator", data := .fields #[rawInt a, rawInt (Builtin.Range.rangeSize a b 1), rawInt 1] }).get? x = some o := fun x o e => push_keep _ _ _ _ (hk x o e)
  have hnew : h1.get? h2.objs.size = none := by
    cases e : h1.get? h2.objs.size with
    | none => rfl
    | some ob => exact absurd (Heap.lt_size (hk _ _ e)) (Nat.lt_irrefl _)
  refine ⟨⟨T1, h1, _, tk, h2.objs.size, [h2.objs.size], [h2.objs.size], _, _, [], [], rfl, rfl, Turns.ofWalks (Walks.range (prog := c.prog) (w := c.w) (A := A) o.1 h2.objs.size a 1 _) ?_, ?_, X1, P1, keep, ?_, ?_, rfl, ?_⟩, fun _ h => h, fun _ h => Or.inl h, by rw [intsFrom_length]; exact hd⟩
  · intro i h hst b hb
    rw [List.mem_singleton.mp hb]
    refine ⟨_, hst, fun xs k e => by cases e⟩
  · rw [intsFrom_length]
    have : IsRangeIter (h2.push { cls := .type "range_iterator", data := .fields #[rawInt a, rawInt (Builtin.Range.rangeSize a b 1), rawInt 1] }) h2.objs.size a (Builtin.Range.rangeSize a b 1) 1 := Heap.get?_push_size _ rfl
    have e0 : a + ((0 : Nat) : Int) * 1 = a := by simp
    have e1 : (((b - a).toNat : Nat) : Int) - ((0 : Nat) : Int) = Builtin.Range.rangeSize a b 1 := by rw [range_size]; simp
    show IsRangeIter _ _ (a + ((0 : Nat) : Int) * 1) ((((b - a).toNat : Nat) : Int) - ((0 : Nat) : Int)) 1
    rw [e0, e1]; exact this
  · intro b hb; rw [List.mem_singleton.mp hb]; exact hnew
  · intro b hb; exact Or.inl hb
  · intro i w u T' n' h' _ hP hu
    obtain ⟨t, rfl⟩ := hP
    rw [intsFrom_get _ _ _ hu]
    exact ⟨t, by rw [Int.mul_one]⟩

theorem i_iter1 (C : c.Ok) (H : SE c n) {it : It} {E : Expr} {nm : Str} {p : Pos} (hi : IsI c.fnm ns kd it E) (hnot : ∀ a, it ≠ .enm a) (X : Sit c lk kd ns ev l T s sh.heap m) (o : AOk (n + 1) A) (r : iter (evs c.tbl n) lk it l s = some (vs, lk', s')) :
    wpAny (model c.prog c.w) A (eval E ev) (fun x s₁ => wpAny (model c.prog c.w) A (pyIter x) (fun it s₂ => Iterd c A (.Name nm p) ev lk kd ns l T s sh m vs lk' s' it s₂) Er s₁) Er sh := by
  cases hi with
  | rng1 g h1 w1 =>
    simp only [iter] at r
    split at r
    · rename_i x s1 r1
      split at r
      · rename_i hx
        split at r
        · rename_i hb
          cases r
          refine wpAny_Call_NameR (built_name C X g C.b_range (PyProof.Rows.callWith_type1 (rest := []) ?_ (w1 ev []) rfl))
          rw [w1.args]
          refine spliced_cons (H.use h1 X o.pred r1 fun T1 h1 t1 y X1 P1 vx => spliced_nil ?_)
          obtain ⟨t, rfl⟩ := vx
          have hb' := (PySem.W.Z.ltB_iff _ _).mp hb
          refine range1_rows (s := { sh with heap := h1, toks := t1 }) (fr0 X1.env.tab) news0 fun h' tk t₁ u₁ v₁ hr _ _ hk => ?_
          have := walk_range (nm := nm) (p := p) (tk := tk) (Er := Er) o X1 P1 (a := 0) (b := x) (by decide) hx (by omega) hk hr
          rw [show x - 0 = x by omega] at this
          exact this
        · cases r
      · cases r
    · cases r
  | rng2 g h1 h2 w2 =>
    simp only [iter] at r
    split at r
    · rename_i x s1 r1
      split at r
      · rename_i y s2 r2
        split at r
        · rename_i hx
          split at r
          · rename_i hy
            split at r
            · rename_i hb
              cases r
              refine wpAny_Call_NameR (built_name C X g C.b_range (PyProof.Rows.callWith_type1 (rest := [_]) ?_ (w2.1 ev [_]) (by rw [w2.2.args]; rfl)))
              rw [w2.args]
              refine spliced_cons (H.use h1 X o.pred r1 fun T1 h1 t1 x' X1 P1 vx => spliced_cons (H.use (sh := { sh with heap := h1, toks := t1 }) h2 X1 o.pred r2 fun T2 h2 t2 y' X2 P2 vy => spliced_nil ?_))
              obtain ⟨t, rfl⟩ := vx
              obtain ⟨u, rfl⟩ := vy
              have hb' := (PySem.W.Z.ltB_iff _ _).mp hb
              refine range2_rows (s := { sh with heap := h2, toks := t2 }) (fr0 X2.env.tab) news0 fun h' tk t₁ u₁ v₁ hr _ _ hk => ?_
              exact walk_range (nm := nm) (p := p) (tk := tk) o X2 (P1.trans P2) hx hy (by omega) hk hr
            · cases r
          · cases r
        · cases r
      · cases r
    · cases r
  | enm _ _ _ => exact absurd rfl (hnot _)
  | rev g h1 w1 =>
    simp only [iter] at r
    split at r
    · rename_i kk s1 r1
      split at r
      · rename_i us gv
        split at r
        · rename_i hsh
          cases r
          refine wpAny_Call_NameR (built_name C X g C.b_rev (PyProof.Rows.callWith_type1 (rest := []) ?_ (w1 ev []) rfl))
          rw [w1.args]
          refine spliced_cons (H.use h1 X o.pred r1 fun T1 h1 t1 x X1 P1 vx => spliced_nil ?_)
          obtain ⟨ws, hL, hv⟩ := X1.list gv
          obtain ⟨hlt, rfl⟩ := vx
          refine call_reversed_list (s := { sh with heap := h1, toks := t1 }) hL ?_
          have hI : (h1.push (revObj (T1 kk) ((ws.toArray.size : Int) - 1))).IsRevIter h1.objs.size (T1 kk) ((ws.toArray.size : Int) - 1) := ⟨_, Heap.get?_push_size _ rfl, rfl, rfl⟩
          refine wpAny_pyIter_revIter (s := { sh with heap := h1.push (revObj (T1 kk) ((ws.toArray.size : Int) - 1)), toks := t1 }) hI ?_
          have hne : T1 kk ≠ h1.objs.size := fun e => by
            obtain ⟨ob, ho, _⟩ := hL
            rw [e] at ho; exact Nat.lt_irrefl _ (Heap.lt_size ho)
          have e := hv.length
          have W := Walks.listRev (prog := c.prog) (w := c.w) (A := A) o.1 h1.objs.size (T1 kk) hne ws.toArray
          have ez : ws.toArray.size = us.reverse.length := by simp [e]
          rw [ez] at W
          refine ⟨⟨T1, h1, _, t1, h1.objs.size, [h1.objs.size, T1 kk], [h1.objs.size], _, _, us, ws, rfl, rfl, Turns.ofWalks W ?_, ?_, X1, P1, push_keep _ _, ?_, ?_, hv, ?_⟩, ?_, ?_, by rw [List.length_reverse]; exact short_le hsh⟩
          · intro i h hst b hb
            rw [List.mem_singleton.mp hb]
            obtain ⟨_, ⟨ob, ho, _, hd⟩, _⟩ := hst
            exact ⟨ob, ho, fun xs k q => by rw [hd] at q; cases q⟩
          · refine ⟨Nat.zero_le _, ?_, hL.push _⟩
            have e1 : ((us.reverse.length : Nat) : Int) - 1 - ((0 : Nat) : Int) = ((ws.toArray.size : Nat) : Int) - 1 := by rw [ez]; simp
            rw [e1]; exact hI
          · intro b hb; rw [List.mem_singleton.mp hb]; exact fresh_none (Nat.le_refl _)
          · intro b hb
            rcases List.mem_cons.mp hb with rfl | hb
            · exact Or.inl (List.mem_singleton.mpr rfl)
            · exact Or.inr ⟨kk, hlt, by rw [memN_cons, Nat.beq_refl]; rfl, List.mem_singleton.mp hb⟩
          · intro i w u T' n' h' hb hP hu
            have hu' : us[us.length - 1 - i]? = some u := by
              have hlt' : i < us.length := by have := (List.getElem?_eq_some_iff.mp hu).1; simpa using this
              rw [List.getElem?_reverse hlt'] at hu
              exact hu
            obtain ⟨w', h3, h4⟩ := hb.get hu'
            have hP' : ws[us.length - 1 - i]? = some w := by
              have : ws.toArray[us.reverse.length - 1 - i]? = some w := hP
              simpa using this
            rw [h3] at hP'
            cases hP'
            exact h4
          · intro k hk; rw [memN_cons, hk]; simp
          · intro k hk
            rw [memN_cons] at hk
            cases q : Nat.beq kk k with
            | true => exact Or.inr (by rw [← Nat.eq_of_beq_eq_true q]; exact hlt)
            | false => rw [q] at hk; exact Or.inl (by simpa using hk)
        · cases r
      · cases r
    · cases r
  | seq h1 =>
    simp only [iter] at r
    split at r
    · rename_i kk s1 r1
      split at r
      · rename_i us gv
        split at r
        · rename_i hsh
          cases r
          refine H.use h1 X o.pred r1 fun T1 h1 t1 x X1 P1 vx => ?_
          obtain ⟨ws, hL, hv⟩ := X1.list gv
          obtain ⟨hlt, rfl⟩ := vx
          refine wpAny_pyIter_list (s := { sh with heap := h1, toks := t1 }) hL ?_
          have hne : T1 kk ≠ h1.objs.size := fun e => by
            obtain ⟨ob, ho, _⟩ := hL
            rw [e] at ho; exact Nat.lt_irrefl _ (Heap.lt_size ho)
          have e := hv.length
          have W := Walks.list (prog := c.prog) (w := c.w) (A := A) o.1 h1.objs.size (T1 kk) hne ws.toArray
          have ez : ws.toArray.size = vs.length := by simp [e]
          rw [ez] at W
          refine ⟨⟨T1, h1, _, t1, h1.objs.size, [h1.objs.size, T1 kk], [h1.objs.size], _, _, vs, ws, rfl, rfl, Turns.ofWalks W ?_, ?_, X1, P1, push_keep _ _, ?_, ?_, hv, ?_⟩, ?_, ?_, short_le hsh⟩
          · intro i h hst b hb
            rw [List.mem_singleton.mp hb]
            obtain ⟨⟨ob, ho, _, hd⟩, _⟩ := hst
            exact ⟨ob, ho, fun xs k q => by rw [hd] at q; cases q⟩
          · exact ⟨⟨_, Heap.get?_push_size _ rfl, rfl, rfl⟩, hL.push _⟩
          · intro b hb; rw [List.mem_singleton.mp hb]; exact fresh_none (Nat.le_refl _)
          · intro b hb
            rcases List.mem_cons.mp hb with rfl | hb
            · exact Or.inl (List.mem_singleton.mpr rfl)
            · exact Or.inr ⟨kk, hlt, by rw [memN_cons, Nat.beq_refl]; rfl, List.mem_singleton.mp hb⟩
          · intro i w u T' n' h' hb hP hu
            obtain ⟨w', h3, h4⟩ := hb.get hu
            have hP' : ws[i]? = some w := by
              have : ws.toArray[i]? = some w := hP
              simpa using this
            rw [h3] at hP'
            cases hP'
            exact h4
          · intro k hk; rw [memN_cons, hk]; simp
          · intro k hk
            rw [memN_cons] at hk
            cases q : Nat.beq kk k with
            | true => exact Or.inr (by rw [← Nat.eq_of_beq_eq_true q]; exact hlt)
            | false => rw [q] at hk; exact Or.inl (by simpa using hk)
        · cases r
      · cases r
    · cases r
end
end Mine
namespace Mine
open PySem PySem.Spec PySem.Calls PyProof.Rows PyProof.V PySem.W

theorem Turns.ofEnum {prog : Program} {w : World} {A : Around} {elts : List Expr} {k : Nat} {p : Pos} {I it ax : Addr} {ws : List Value} (hh : A.handled = none) (h1 : I ≠ it) (h2 : ax ≠ I) (h3 : ax ≠ it) :
    Turns prog w A (.Tuple elts k p) I [I, it, ax] [I, it] ws.length (fun i v h => ∃ t x q, v = .ref q ∧ ws[i]? = some x ∧ IsTup h q #[.int (i : Int) t, x])
      (fun i h => (∃ old, IsEnum h I it i old) ∧ h.IsListIter it ax i ∧ h.IsList ax ws.toArray) := by
  have W := WalksT.enumerate (prog := prog) (w := w) hh I it ax h1 h2 h3 ws.toArray
  have e : ws.toArray.size = ws.length := by simp
  rw [e] at W
  refine ⟨W.frame, ?_, fun s Q E hst hk => W.done s _ E hst hk, ?_, W.self⟩
  · intro i s Q E hi hst hk
    refine W.item i s _ E hi hst fun q vals h' tk hP _ hT hM hkeep => ?_
    refine W.go elts k p i q { s with heap := h', toks := tk } _ E hM fun h'' hst' hkeep' => ?_
    obtain ⟨t, x, hx, rfl⟩ := hP
    have hq : q ∉ [I, it] := W.apart i q h' hM
    refine hk _ h'' tk ⟨t, x, q, rfl, by simpa using hx, ?_⟩ hst' fun b o hb eo => hkeep' b o hb (hkeep b o hb eo)
    obtain ⟨o, ho, r⟩ := hT
    exact ⟨o, hkeep' q o hq ho, r⟩
  · intro i h hst b hb
    rcases List.mem_cons.mp hb with rfl | hb
    · obtain ⟨⟨old, he⟩, _⟩ := hst
      exact ⟨_, he, fun xs k q => by cases q⟩
    · rw [List.mem_singleton.mp hb]
      obtain ⟨_, ⟨o, ho, _, hd⟩, _⟩ := hst
      exact ⟨o, ho, fun xs k q => by rw [hd] at q; cases q⟩

section
variable {c : Ctx} {n : Nat} {lk lk' : List Nat} {kd : Kd} {ns : Nat → Str} {ev : Env} {l : Loc} {T : Nat → Addr} {s s' : S} {sh : Shared} {m : Str → Option Value} {A : Around} {Er : Value → Shared → Prop} {vs : List V} {h h' : Heap}
theorem i_iter2 (C : c.Ok) (H : SE c n) {a : Ex} {E : Expr} {elts : List Expr} {k : Nat} {p : Pos} (hi : IsI c.fnm ns kd (.enm a) E) (X : Sit c lk kd ns ev l T s sh.heap m) (o : AOk (n + 1) A) (r : iter (evs c.tbl n) lk (.enm a) l s = some (vs, lk', s')) :
    wpAny (model c.prog c.w) A (eval E ev) (fun x s₁ => wpAny (model c.prog c.w) A (pyIter x) (fun it s₂ => Iterd c A (.Tuple elts k p) ev lk kd ns l T s sh m vs lk' s' it s₂) Er s₁) Er sh := by
  cases hi with
  | enm g h1 w1 =>
    simp only [iter] at r
    split at r
    · rename_i kk s1 r1
      split at r
      · rename_i us gv
        split at r
        · rename_i hsh
          cases r
          refine wpAny_Call_NameR (built_name C X g C.b_enum (PyProof.Rows.callWith_type1 (rest := []) ?_ (w1 ev []) rfl))
          rw [w1.args]
          refine spliced_cons (H.use h1 X o.pred r1 fun T1 h1 t1 x X1 P1 vx => spliced_nil ?_)
          obtain ⟨ws, hL, hv⟩ := X1.list gv
          obtain ⟨hlt, rfl⟩ := vx
          refine call_enumerate_list (s := { sh with heap := h1, toks := t1 }) hL fun h' he hit hsz hk => ?_
          refine wpAny_pyIter_enum (s := { sh with heap := h', toks := t1 }) he ?_
          have hltA : T1 kk < h1.objs.size := by obtain ⟨ob, ho, _⟩ := hL; exact Heap.lt_size ho
          have e := hv.length
          have W := Turns.ofEnum (prog := c.prog) (w := c.w) (elts := elts) (k := k) (p := p) (I := h1.objs.size + 1) (it := h1.objs.size) (ax := T1 kk) (ws := ws) o.1 (Nat.succ_ne_self _) (Nat.ne_of_lt (Nat.lt_succ_of_lt hltA)) (Nat.ne_of_lt hltA)
          have ez : ws.length = (nums 0 us).length := by rw [nums_length, e]
          rw [ez] at W
          refine ⟨⟨T1, h1, h', t1, _, _, _, _, _, us, ws, rfl, rfl, W, ⟨⟨_, he⟩, hit, ?_⟩, X1, P1, hk, ?_, ?_, hv, ?_⟩, ?_, ?_, by rw [nums_length]; exact short_le hsh⟩
          · obtain ⟨ob, ho, rr⟩ := hL
            exact ⟨ob, hk _ _ ho, rr⟩
          · intro b hb
            rcases List.mem_cons.mp hb with rfl | hb
            · exact fresh_none (Nat.le_succ _)
            · rw [List.mem_singleton.mp hb]; exact fresh_none (Nat.le_refl _)
          · intro b hb
            rcases List.mem_cons.mp hb with rfl | hb
            · exact Or.inl (List.mem_cons_self ..)
            · rcases List.mem_cons.mp hb with rfl | hb
              · exact Or.inl (List.mem_cons_of_mem _ (List.mem_singleton.mpr rfl))
              · exact Or.inr ⟨kk, hlt, by rw [memN_cons, Nat.beq_refl]; rfl, List.mem_singleton.mp hb⟩
          · intro i w u T' n' h' hb hP hu
            obtain ⟨v', h3, rfl⟩ := nums_get _ _ _ hu
            obtain ⟨t, x, q, rfl, hx, ht⟩ := hP
            obtain ⟨w', h4, h5⟩ := hb.get h3
            rw [hx] at h4
            cases h4
            exact ⟨q, _, _, rfl, ht, ⟨t, by rw [Nat.zero_add]⟩, h5⟩
          · intro k hk; rw [memN_cons, hk]; simp
          · intro k hk
            rw [memN_cons] at hk
            cases q : Nat.beq kk k with
            | true => exact Or.inr (by rw [← Nat.eq_of_beq_eq_true q]; exact hlt)
            | false => rw [q] at hk; exact Or.inl (by simpa using hk)
        · cases r
      · cases r
    · cases r
end
end Mine
/-! STORES, TARGETS. -/
namespace Mine
open PySem PySem.Spec PySem.Calls PyProof.Rows PyProof.V PySem.W

noncomputable def dels (l : Loc) (x : Nat) : Loc := l.filter fun p => !Nat.beq p.1 x
theorem gets_dels (x : Nat) : ∀ (l : Loc) (y : Nat), gets (dels l x) y = if y = x then none else gets l y
  | [], y => by by_cases h : y = x <;> simp [dels, gets, h]
  | p :: r, y => by
    have ih := gets_dels x r y
    by_cases h : p.1 = x
    · have : dels (p :: r) x = dels r x := by simp [dels, h]
      rw [this, ih, gets_cons]
      by_cases hy : y = x
      · simp [hy]
      · have : ¬ y = p.1 := fun q => hy (q.trans h)
        simp [hy, this]
    · have hb : Nat.beq p.1 x = false := by
        cases e : Nat.beq p.1 x with
        | false => rfl
        | true => exact absurd (Nat.eq_of_beq_eq_true e) h
      have : dels (p :: r) x = p :: dels r x := by simp [dels, hb]
      rw [this, gets_cons, gets_cons, ih]
      by_cases hy : y = p.1
      · subst hy; simp [h]
      · simp [hy]

section
variable {c : Ctx} {n : Nat} {lk lk' : List Nat} {kd : Kd} {ns : Nat → Str} {ev : Env} {l l' : Loc} {T T' : Nat → Addr} {s s' : S} {sh : Shared} {m : Str → Option Value} {A : Around} {Er : Value → Shared → Prop} {vs : List V} {h h' : Heap}

theorem Sit.congr (X : Sit c lk kd ns ev l T s h m) (e : ∀ y v, gets l' y = some v → gets l y = some v) : Sit c lk kd ns ev l' T s h m :=
  ⟨X.inv, ⟨X.env.tab, X.env.cells, fun x v q => X.env.loc x v (e x v q), fun x v q => X.env.cel x v (e x v q)⟩, X.st, X.nso, X.loc0, X.cell0⟩

theorem Sit.clsOff (X : Sit c lk kd ns ev l T s h m) : (ev.scope.kind == .class || (ev.scope.kind == .module && ev.locals != ev.globals)) = false := by rw [X.st.kind]; rfl

/-- a local gets a value -/
theorem st_local (X : Sit c lk kd ns ev l T s sh.heap m) {x : Nat} {u : V} {w : Value} {Q : Unit → Shared → Prop} (hk : kd (ns x) = some .local) (hv : VR T s.n sh.heap u w)
    (k : ∀ h' m' tk, Sit c lk kd ns ev (puts l x u) T s h' m' → Post c.h₀ (own1 ev) lk T s sh.heap T s h' → Q () { sh with heap := h', toks := tk }) : wpAny (model c.prog c.w) A (storeName ev (ns x) w) Q Er sh := by
  refine wpAny_storeName_local ((X.st.kof _).trans hk) X.env.tab (fun h' hn hs => ?_) X.clsOff
  have hkeep : ∀ a o, sh.heap.get? a = some o → ¬ own1 ev a → h'.get? a = some o := fun a o e q => (hs.2 a q).trans e
  have P : Post c.h₀ (own1 ev) lk T s sh.heap T s h' := Post.keep X.inv X.ns1 X.off1 (noseq1 hn) hkeep fun a o e => by
    by_cases ha : a = ev.locals
    · subst ha; obtain ⟨o', _, _, ho', _⟩ := hn; exact ⟨o', ho'⟩
    · exact ⟨o, hkeep a o e ha⟩
  refine k h' _ _ ⟨P.inv, ⟨hn, ?_, ?_, ?_⟩, X.st, X.nso, X.loc0, X.cell0⟩ P
  · intro p hp
    obtain ⟨v, hc⟩ := X.env.cells p hp
    exact ⟨v, P.cell1 X.inv X.env.tab hc⟩
  · intro y v hy hky
    rw [gets_puts] at hy
    by_cases hyx : y = x
    · subst hyx
      rw [if_pos rfl] at hy
      cases hy
      exact ⟨w, if_pos rfl, P.vr X.inv X.ns1 hv⟩
    · rw [if_neg hyx] at hy
      obtain ⟨w', h1, h2⟩ := X.env.loc y v hy hky
      exact ⟨w', (if_neg fun q => hyx (X.nso.inj _ _ q)).trans h1, P.vr X.inv X.ns1 h2⟩
  · intro y v hy hky
    rw [gets_puts] at hy
    by_cases hyx : y = x
    · subst hyx
      rw [X.st.kof, hk] at hky; cases hky
    · rw [if_neg hyx] at hy
      obtain ⟨a, w', h1, h2, h3⟩ := X.env.cel y v hy hky
      exact ⟨a, w', h1, P.cell1 X.inv X.env.tab h2, P.vr X.inv X.ns1 h3⟩

/-- a target and the machine's binding -/
structure Tgt (c : Ctx) (kd : Kd) (ns : Nat → Str) (xs : List Nat) (b : V → Loc → Option Loc) (tgt : Expr) : Prop where
  asg : ∀ {lk : List Nat} {ev : Env} {l l' : Loc} {T : Nat → Addr} {s : S} {sh : Shared} {m : Str → Option Value} {A : Around} {Er : Value → Shared → Prop} {u : V} {w : Value} {Q : Unit → Shared → Prop}, A.handled = none → Sit c lk kd ns ev l T s sh.heap m → VR T s.n sh.heap u w → b u l = some l' →
    (∀ h' m' tk, Sit c lk kd ns ev l' T s h' m' → Post c.h₀ (own1 ev) lk T s sh.heap T s h' → Q () { sh with heap := h', toks := tk }) → wpAny (model c.prog c.w) A (assign tgt ev w) Q Er sh
  same : ∀ {u : V} {l1 l2 l1' l2' : Loc}, (∀ y, y ∉ xs → gets l1 y = gets l2 y) → b u l1 = some l1' → b u l2 = some l2' → ∀ y, gets l1' y = gets l2' y
  total : ∀ {u : V} {l1 l2 l1' : Loc}, b u l1 = some l1' → ∃ l2', b u l2 = some l2'

theorem tgt1 {x : Nat} {nm : Str} {p : Pos} (hnm : nm = ns x) (hk : kd nm = some .local) : Tgt c kd ns [x] (bind1 x) (.Name nm p) where
  asg := fun {lk ev l l' T s sh m A Er u w Q} _ X hv hb k => by
    subst hnm
    cases hb
    exact wpAny_assign_Name (st_local X hk hv k)
  same := fun {u l1 l2 l1' l2'} he h1 h2 y => by
    cases h1; cases h2
    rw [gets_puts, gets_puts]
    by_cases hy : y = x
    · simp [hy]
    · rw [if_neg hy, if_neg hy]; exact he y (by simp [hy])
  total := fun _ => ⟨_, rfl⟩
theorem tgt2 {x y : Nat} {n1 n2 : Str} {p1 p2 q : Pos} {kk : Nat} (hn1 : n1 = ns x) (hn2 : n2 = ns y) (hk1 : kd n1 = some .local) (hk2 : kd n2 = some .local) : Tgt c kd ns [x, y] (bind2 x y) (.Tuple [.Name n1 p1, .Name n2 p2] kk q) where
  asg := fun {lk ev l l' T s sh m A Er u w Q} hh X hv hb k => by
    subst hn1; subst hn2
    unfold bind2 at hb
    split at hb
    · rename_i a b
      cases hb
      obtain ⟨t, w1, w2, rfl, ht, v1, v2⟩ := hv
      refine wpAny_assign_Tuple hh ht rfl rfl fun h' hx => ?_
      have hkeep : ∀ a o, sh.heap.get? a = some o → h'.get? a = some o := fun a o e => hx a o (Nat.ne_of_lt (Heap.lt_size e)) e
      have G := X.grown hkeep
      have X1 := X.next G.1 G.2
      show wpAny _ A (assignInOrder [assign (.Name (ns x) p1) ev, assign (.Name (ns y) p2) ev] [w1, w2]) Q Er { sh with heap := h' }
      simp only [assignInOrder]
      refine wpAny_bind (wpAny_holding (wpAny_assign_Name (st_local (sh := { sh with heap := h' }) X1 hk1 (v1.keeps hkeep) fun h2 m2 t2 X2 P2 => ?_)))
      refine wpAny_bind (wpAny_holding (wpAny_assign_Name (st_local (sh := { sh with heap := h2, toks := t2 }) X2 hk2 (P2.vr X1.inv X1.ns1 (v2.keeps hkeep)) fun h3 m3 t3 X3 P3 => ?_)))
      exact wpAny_pure (k h3 m3 t3 X3 ((G.1.trans P2).trans P3))
    · cases hb
  same := fun {u l1 l2 l1' l2'} he h1 h2 z => by
    unfold bind2 at h1 h2
    split at h1
    · cases h1; cases h2
      rw [gets_puts, gets_puts, gets_puts, gets_puts]
      by_cases hz : z = y
      · simp [hz]
      · rw [if_neg hz, if_neg hz]
        by_cases hz' : z = x
        · simp [hz']
        · rw [if_neg hz', if_neg hz']; exact he z (by simp [hz, hz'])
    · cases h1
  total := fun {u l1 l2 l1'} h1 => by
    unfold bind2 at h1 ⊢
    split at h1
    · exact ⟨_, rfl⟩
    · cases h1
end
end Mine
/-! COMPREHENSIONS. -/
namespace Mine
open PySem PySem.Spec PySem.Calls PyProof.Rows PyProof.V PySem.W

noncomputable def clo (cells : List (Str × Addr)) : List (Str × NameKind) → List (Str × Addr) → List (Str × Addr)
  | [], acc => acc
  | (z, k) :: r, acc => if k == .free then (match cells.lookup z with | some a => clo cells r ((z, a) :: acc) | none => clo cells r acc) else clo cells r acc
theorem clo_mem {cells : List (Str × Addr)} : ∀ {ns : List (Str × NameKind)} {acc : List (Str × Addr)} {p : Str × Addr}, p ∈ clo cells ns acc → p ∈ acc ∨ cells.lookup p.1 = some p.2
  | [], _, _, h => Or.inl h
  | (z, k) :: r, acc, p, h => by
    unfold clo at h
    split at h
    · split at h
      · rename_i a e
        rcases clo_mem h with q | q
        · rcases List.mem_cons.mp q with rfl | q
          · exact Or.inr e
          · exact Or.inl q
        · exact Or.inr q
      · exact clo_mem h
    · exact clo_mem h
theorem clo_lookup {cells : List (Str × Addr)} : ∀ {ns : List (Str × NameKind)} {acc : List (Str × Addr)} {z : Str} {a : Addr}, (acc.lookup z = some a ∨ (z, NameKind.free) ∈ ns) → cells.lookup z = some a → (∀ y b, acc.lookup y = some b → cells.lookup y = some b) → (clo cells ns acc).lookup z = some a
  | [], acc, z, a, h, _, _ => h.elim id fun q => nomatch q
  | (z', k) :: r, acc, z, a, h, e, hacc => by
    unfold clo
    by_cases hk : (k == .free) = true
    · rw [if_pos hk]
      split
      · rename_i a' e'
        have hacc' : ∀ y b, ((z', a') :: acc).lookup y = some b → cells.lookup y = some b := fun y b hb => by
          rw [List.lookup_cons] at hb
          by_cases hy : (y == z') = true
          · rw [hy] at hb; cases hb; rw [eq_of_beq hy]; exact e'
          · rw [Bool.not_eq_true] at hy; rw [hy] at hb; exact hacc y b hb
        refine clo_lookup ?_ e hacc'
        rw [List.lookup_cons]
        by_cases hz : (z == z') = true
        · rw [hz]
          left
          have := eq_of_beq hz
          subst this
          rw [e] at e'; cases e'; rfl
        · rw [Bool.not_eq_true] at hz
          rw [hz]
          rcases h with h | h
          · exact Or.inl h
          · rcases List.mem_cons.mp h with q | q
            · cases q; simp at hz
            · exact Or.inr q
      · rename_i e'
        refine clo_lookup ?_ e hacc
        rcases h with h | h
        · exact Or.inl h
        · rcases List.mem_cons.mp h with q | q
          · cases q; rw [e] at e'; cases e'
          · exact Or.inr q
    · rw [if_neg hk]
      refine clo_lookup ?_ e hacc
      rcases h with h | h
      · exact Or.inl h
      · rcases List.mem_cons.mp h with q | q
        · cases q; simp at hk
        · exact Or.inr q
theorem clo_loop {ev : Env} : ∀ (l : List (Str × NameKind)) (acc : List (Str × Addr)), (∀ y ∈ l, y.2 = .free → ∃ a, ev.cells.lookup y.1 = some a) →
    (forIn l acc (fun x r => if (x.snd == NameKind.free) = true then do let d ← cellOf ev x.fst; pure (ForInStep.yield ((x.fst, d) :: r)) else pure (ForInStep.yield r)) : Sem (List (Str × Addr))) = pure (clo ev.cells l acc)
  | [], acc, _ => rfl
  | (z, k) :: r, acc, hl => by
    have hr : ∀ y ∈ r, y.2 = .free → ∃ a, ev.cells.lookup y.1 = some a := fun y hy => hl y (List.mem_cons_of_mem _ hy)
    rw [List.forIn_cons]
    by_cases hk : (k == NameKind.free) = true
    · obtain ⟨a, ha⟩ := hl (z, k) (List.mem_cons_self ..) (eq_of_beq hk)
      have ha' : ev.cells.lookup z = some a := ha
      have hc : cellOf ev z = pure a := by unfold cellOf; rw [ha']
      have ih := clo_loop r ((z, a) :: acc) hr
      unfold clo
      simp only [hk, if_true, hc, ha']
      exact ih
    · have ih := clo_loop r acc hr
      unfold clo
      simp only [hk]
      exact ih
theorem closureFor_clo {scope : Scope} {ev : Env} (h : ∀ y ∈ scope.names, y.2 = .free → ∃ a, ev.cells.lookup y.1 = some a) : closureFor scope ev = pure (clo ev.cells scope.names []) := by
  simp only [closureFor]
  rw [clo_loop scope.names [] h]
  rfl
end Mine
namespace Mine
open PySem PySem.Spec PySem.Calls PyProof.Rows PyProof.V PySem.W

theorem lookup_mem {α β : Type} [BEq α] [LawfulBEq α] : ∀ {l : List (α × β)} {a : α} {b : β}, l.lookup a = some b → (a, b) ∈ l
  | [], _, _, h => by simp at h
  | (x, y) :: r, a, b, h => by
    rw [List.lookup_cons] at h
    by_cases q : (a == x) = true
    · rw [q] at h; cases h; rw [eq_of_beq q]; exact List.mem_cons_self ..
    · rw [Bool.not_eq_true] at q; rw [q] at h; exact List.mem_cons_of_mem _ (lookup_mem h)

theorem kdIn_cell {scope : Scope} {kd : Kd} {xs : List Str} {z : Str} (B : BlockOk scope kd xs) (h : kdIn scope kd z = some .cell) : (z, NameKind.free) ∈ scope.names ∧ kd z = some .cell := by
  have h1 := lookup_mem h
  obtain ⟨x, hx, e⟩ := List.mem_map.mp h1
  by_cases q : (x.2 == .free && kd x.1 == some .cell) = true
  · rw [if_pos q] at e
    have e1 : x.1 = z := congrArg Prod.fst e
    obtain ⟨q1, q2⟩ := Bool.and_eq_true_iff.mp q
    have q1' : x.2 = .free := eq_of_beq q1
    exact ⟨by rw [← e1, ← q1']; exact hx, by rw [← e1]; exact eq_of_beq q2⟩
  · rw [if_neg q] at e
    subst e
    exact absurd rfl (B.nocell _ hx)
theorem kdIn_local {scope : Scope} {kd : Kd} {z : Str} (h : kdIn scope kd z = some .local) : (z, NameKind.local) ∈ scope.names := by
  have h1 := lookup_mem h
  obtain ⟨x, hx, e⟩ := List.mem_map.mp h1
  by_cases q : (x.2 == .free && kd x.1 == some .cell) = true
  · rw [if_pos q] at e
    cases e
  · rw [if_neg q] at e
    subst e
    exact hx
theorem kdIn_tgt {scope : Scope} {kd : Kd} {z : Str} (h : scope.names.lookup z = some .local) : kdIn scope kd z = some .local := by
  unfold kdIn
  generalize scope.names = l at h
  induction l with
  | nil => simp at h
  | cons x r ih =>
    obtain ⟨y, k⟩ := x
    rw [List.lookup_cons] at h
    rw [List.map_cons]
    by_cases q : (z == y) = true
    · rw [q] at h
      cases h
      simp [List.lookup_cons, q]
    · rw [Bool.not_eq_true] at q
      rw [q] at h
      by_cases q2 : (k == NameKind.free && kd y == some .cell) = true
      · simp only [q2, if_true, List.lookup_cons, q]; exact ih h
      · rw [if_neg q2, List.lookup_cons, q]; exact ih h
theorem relabel_kd {scope : Scope} {kd : Kd} {ev : Env} (h : EnvS ev kd) (y : Str) : (relabel scope ev).names.lookup y = kdIn scope kd y := by
  unfold relabel kdIn
  simp only [h.kind, h.kof, beq_self_eq_true, Bool.and_true]

theorem gets_foldl (l : Loc) : ∀ (xs : List Nat) (y : Nat), gets (xs.foldl dels l) y = if y ∈ xs then none else gets l y := by
  intro xs
  induction xs generalizing l with
  | nil => intro y; simp
  | cons x r ih =>
    intro y
    rw [List.foldl_cons, ih, gets_dels]
    by_cases h1 : y ∈ r
    · simp [h1]
    · by_cases h2 : y = x <;> simp [h1, h2]

section
variable {h₀ h h' h'' : Heap} {own : Addr → Prop} {lk lk' : List Nat} {T T' T'' : Nat → Addr} {s s' s'' : S}
/-- a list of one's own becomes one of the machine's -/
theorem Post.adopt (P : Post h₀ own lk T s h T' s' h') (I : Inv h₀ lk T s h) {D : Addr} {l : List V} {ws : List Value} (hD : h.get? D = none) (hT : ∀ k, k < s'.n → T' k ≠ D) (hL' : PlainL h' D ws.toArray) (hv : VRs T' s'.n h' l ws) :
    Post h₀ own lk T s h (fun k => if k = s'.n then D else T' k) (s'.new l).2 h' := by
  have J := P.inv
  have hL := hL'.isList
  have ag : ∀ k, k < s'.n → (if k = s'.n then D else T' k) = T' k := fun k hk => if_neg (Nat.ne_of_lt hk)
  have vm : ∀ {vs : List V} {us : List Value}, VRs T' s'.n h' vs us → VRs (fun k => if k = s'.n then D else T' k) (s'.n + 1) h' vs us := fun {vs us} e =>
    VRs.mono ag (Nat.le_succ _) (fun _ _ ht => ht) vs e
  refine ⟨⟨J.base, ?_, ?_, ?_, ?_, ?_⟩, fun k hk => (ag k (Nat.lt_of_lt_of_le hk P.le)).trans (P.agree k hk), Nat.le_succ_of_le P.le, P.ext, P.live, ?_, ?_, ?_, P.noseq⟩
  · intro k x e
    show k < s'.n + 1
    rw [show (s'.new l).2.h = (s'.n, l) :: s'.h from rfl, gets_cons] at e
    by_cases hks : k = s'.n
    · rw [hks]; exact Nat.lt_succ_self _
    · rw [if_neg hks] at e; exact Nat.lt_succ_of_lt (J.dom k x e)
  · intro k hk'
    by_cases hks : k = s'.n
    · subst hks
      refine ⟨l, ws, ?_, ?_, vm hv⟩
      · show gets ((s'.n, l) :: s'.h) s'.n = _
        rw [gets_cons, if_pos rfl]
      · rw [if_pos rfl]; exact hL
    · have hlt : k < s'.n := ltp hk' hks
      obtain ⟨x, us, e, hLk, hvk⟩ := J.lst k hlt
      refine ⟨x, us, ?_, ?_, vm hvk⟩
      · show gets ((s'.n, l) :: s'.h) k = _
        rw [gets_cons, if_neg hks]; exact e
      · rw [if_neg hks]; exact hLk
  · intro k j hk' hj' e
    have h1 : k < s'.n + 1 := hk'
    have h2 : j < s'.n + 1 := hj'
    by_cases hks : k = s'.n
    · by_cases hjs : j = s'.n
      · exact hks.trans hjs.symm
      · simp only [if_pos hks, if_neg hjs] at e
        exact absurd e.symm (hT j (ltp h2 hjs))
    · by_cases hjs : j = s'.n
      · simp only [if_neg hks, if_pos hjs] at e
        exact absurd e (hT k (ltp h1 hks))
      · simp only [if_neg hks, if_neg hjs] at e
        exact J.inj k j (ltp h1 hks) (ltp h2 hjs) e
  · intro k hk' hm
    have h1 : k < s'.n + 1 := hk'
    by_cases hks : k = s'.n
    · simp only [if_pos hks]
      cases e : h₀.get? D with
      | none => rfl
      | some o => have := I.base _ _ e; rw [hD] at this; cases this
    · simp only [if_neg hks]; exact J.fresh k (ltp h1 hks) hm
  · intro k hk' hm
    have h1 : k < s'.n + 1 := hk'
    by_cases hks : k = s'.n
    · simp only [if_pos hks]
      obtain ⟨o, _, ho, _, hd, _⟩ := hL'
      exact ⟨o, ho, hd⟩
    · simp only [if_neg hks]; exact J.plain k (ltp h1 hks) hm
  · intro k a b
    have h1 : k < s'.n + 1 := b
    by_cases hks : k = s'.n
    · simp only [if_pos hks]; exact hD
    · simp only [if_neg hks]; exact P.new k a (ltp h1 hks)
  · intro k hm hk'
    show gets ((s'.n, l) :: s'.h) k = _
    rw [gets_cons, if_neg (Nat.ne_of_lt (Nat.lt_of_lt_of_le hk' P.le))]
    exact P.lock k hm hk'
  · intro k o a b e
    exact P.lockh k o a b e
end

section
variable {c : Ctx} {n : Nat} {lk lk' : List Nat} {kd : Kd} {ns : Nat → Str} {ev : Env} {l l' : Loc} {T T' : Nat → Addr} {s s' : S} {sh : Shared} {m : Str → Option Value} {A : Around} {Er : Value → Shared → Prop} {vs : List V} {h h' : Heap}

/-- places of a walk change -/
theorem Sit.skip {wr : Addr → Prop} (X : Sit c lk kd ns ev l T s h m) (hk : ∀ a o, ¬ wr a → h.get? a = some o → h'.get? a = some o) (h1 : ∀ a, wr a → ∀ k, k < s.n → T k ≠ a) (h2 : ∀ a, wr a → ∀ xs, ¬ IsTup h a xs) (h3 : ¬ wr ev.locals) (h4 : ∀ p ∈ ev.cells, ¬ wr p.2)
    (h5 : ∀ a, wr a → c.h₀.get? a = none) : Sit c lk kd ns ev l T s h' m where
  inv := {
    base := fun a o e => hk a o (fun q => by rw [h5 a q] at e; cases e) (X.inv.base a o e)
    dom := X.inv.dom
    lst := fun k hlt => by
      obtain ⟨l', ws, e, hL, hv⟩ := X.inv.lst k hlt
      obtain ⟨o, ho, r⟩ := hL
      refine ⟨l', ws, e, ⟨o, hk _ _ (fun q => h1 _ q k hlt rfl) ho, r⟩, VRs.mono (fun _ _ => rfl) (Nat.le_refl _) (fun p xs hp => ?_) l' hv⟩
      have hnp : ¬ wr p := fun q => h2 p q xs hp
      obtain ⟨o', ho', r'⟩ := hp
      exact ⟨o', hk _ _ hnp ho', r'⟩
    inj := X.inv.inj
    fresh := X.inv.fresh
    plain := fun k hlt hm => let ⟨o, ho, hd⟩ := X.inv.plain k hlt hm; ⟨o, hk _ _ (fun q => h1 _ q k hlt rfl) ho, hd⟩ }
  env := {
    tab := let ⟨o, es, ep, ho, r⟩ := X.env.tab; ⟨o, es, ep, hk _ _ h3 ho, r⟩
    cells := fun p hp => let ⟨v, o, ho, r⟩ := X.env.cells p hp; ⟨v, o, hk _ _ (h4 p hp) ho, r⟩
    loc := fun x v e k => let ⟨w, a, b⟩ := X.env.loc x v e k; ⟨w, a, VR.mono (fun _ _ => rfl) (Nat.le_refl _) (fun p xs hp => by
      have hnp : ¬ wr p := fun q => h2 p q xs hp
      obtain ⟨o', ho', r'⟩ := hp
      exact ⟨o', hk _ _ hnp ho', r'⟩) v b⟩
    cel := fun x v e k => let ⟨a, w, p, ⟨o, ho, q⟩, r⟩ := X.env.cel x v e k; ⟨a, w, p, ⟨o, hk _ _ (fun q => h4 _ (lookup_mem p) q) ho, q⟩, VR.mono (fun _ _ => rfl) (Nat.le_refl _) (fun p xs hp => by
      have hnp : ¬ wr p := fun q => h2 p q xs hp
      obtain ⟨o', ho', r'⟩ := hp
      exact ⟨o', hk _ _ hnp ho', r'⟩) v r⟩ }
  st := X.st
  nso := X.nso
  loc0 := X.loc0
  cell0 := X.cell0

theorem compLoop_any {R : Result → Shared → Prop} {elt target iter : Expr} {scope : Scope} {pos : Pos} {it acc : Value} {env : Env} (J : Nat → Shared → Prop)
    (turn : ∀ n s, J n s → wpAny (model c.prog c.w) A (pyNext it) (fun r s₁ => match r with
      | none => R (.ok .next) s₁
      | some v => wpAny (model c.prog c.w) A (letOwnedTupleGo target it v) (fun _ s₁' => wpAny (model c.prog c.w) A (assign target env v) (fun _ s₂ => wpAny (model c.prog c.w) A (eval elt env) (fun x s₃ =>
          wpAny (model c.prog c.w) A (call (.builtin "list.append") [acc, x]) (fun _ s₄ => ∃ m, m < n ∧ J m s₄) (notedBy (model c.prog c.w) A env fun e s' => R (.error e) s') s₃)
          (notedBy (model c.prog c.w) A env fun e s' => R (.error e) s') s₂) (notedBy (model c.prog c.w) A env fun e s' => R (.error e) s') s₁') (notedBy (model c.prog c.w) A env fun e s' => R (.error e) s') s₁) (notedBy (model c.prog c.w) A env fun e s' => R (.error e) s') s)
    (n : Nat) {s : Shared} (h : J n s) : codeAny (model c.prog c.w) A (.compLoop (.ListComp elt [⟨target, iter, [], 0⟩] scope pos) 0 it acc env) R s := by
  refine codeAny_loop rfl J (fun n s hI => ?_) n h
  show wpAny _ _ ((compTurn (.ListComp elt [⟨target, iter, [], 0⟩] scope pos) 0 it acc env).onRaise (fun x => do noteFrame x env; theTreesLotGoes x)) _ _ s
  refine wpAny_noted ?_
  rw [compTurn_list1]
  refine wpAny_bind (wpAny_standAt (wpAny_bind (wpAny_mono (turn n s hI) (fun r s₁ h₁ => ?_) fun _ _ h' => h')))
  cases r with
  | none => exact wpAny_pure h₁
  | some v =>
    exact wpAny_bind (wpAny_mono h₁ (fun _ s₁' h₁' => wpAny_bind (wpAny_mono h₁' (fun _ s₂ h₂ => wpAny_bind (wpAny_bind (wpAny_mono h₂ (fun x s₃ h₃ => wpAny_bind (wpAny_mono h₃
      (fun _ s₄ h₄ => wpAny_pure (wpAny_pure ⟨rfl, h₄⟩)) fun _ _ h' => h')) fun _ _ h' => h'))) fun _ _ h' => h')) fun _ _ h' => h')
end
end Mine
namespace Mine
open PySem PySem.Spec PySem.Calls PyProof.Rows PyProof.V PySem.W

def CompJ (c : Ctx) (n : Nat) (lk' : List Nat) (kdi : Kd) (ns : Nat → Str) (cenv : Env) (sh : Shared) (T1 : Nat → Addr) (s1 : S) (h1 : Heap) (St : Nat → Heap → Prop) (wr : List Addr) (D : Addr) (xs : List Nat) (b : V → Loc → Option Loc) (e : Ex) (vs xs' : List V) (s2 : S)
    (q : Nat) (s' : Shared) : Prop := ∃ (i : Nat) (li : Loc) (si : S) (Ti : Nat → Addr) (hi : Heap) (tki : Nat) (mi : Str → Option Value) (lx : Loc) (done rest : List V) (ys : List Value),
      s' = { sh with heap := hi, toks := tki } ∧ q = vs.length - i ∧ i ≤ vs.length ∧ St i hi ∧ Post c.h₀ (fun _ => False) lk' T1 s1 h1 Ti si hi ∧ Sit c lk' kdi ns cenv lx Ti si hi mi ∧ (∀ y, y ∉ xs → gets lx y = gets li y) ∧
      PlainL hi D ys.toArray ∧ VRs Ti si.n hi done ys ∧ done.length = i ∧ (∀ k, k < si.n → Ti k ≠ D) ∧ (∀ b ∈ wr, ∀ k, k < si.n → Ti k ≠ b) ∧ elts (evs c.tbl n) lk' b e (vs.drop i) li si = some (rest, s2) ∧ xs' = done ++ rest
section
variable {c : Ctx} {n : Nat} {lk lk' : List Nat} {kd : Kd} {ns : Nat → Str} {ev : Env} {l l' : Loc} {T T' : Nat → Addr} {s s' s1 s2 : S} {sh s₂ : Shared} {m : Str → Option Value} {A : Around} {Er : Value → Shared → Prop} {vs : List V} {h h' : Heap}

theorem noseqF {h : Heap} : NoSeq h (fun _ => False) := fun _ _ q => q.elim

/-- one's own is not the base's -/
theorem comp_core (H : SE c n) {e : Ex} {E tgt iterE : Expr} {xs : List Nat} {xn : List Str} {b : V → Loc → Option Loc} {scope : Scope} {pos : Pos} {it : Value} {xs' : List V} (hB : BlockOk scope kd xn) (hxn : ∀ z ∈ xn, ∃ x ∈ xs, z = ns x)
    (ht : Tgt c (kdIn scope kd) ns xs b tgt) (hE : IsE c.fnm ns (kdIn scope kd) e E) (o : AOk (n + 1) A) (X0 : Sit c lk kd ns ev l T s sh.heap m) (Z : Iterd c A tgt ev lk kd ns l T s sh m vs lk' s1 it s₂)
    (r : elts (evs c.tbl n) lk' b e vs l s1 = some (xs', s2)) {RR : Value → Addr → Result → Shared → Prop}
    (k : ∀ T' h' tk D C m', Sit c lk kd ns ev l T' (s2.new xs').2 h' m → Post c.h₀ (own1 ev) lk T s sh.heap T' (s2.new xs').2 h' → VR T' (s2.new xs').2.n h' (s2.new xs').1 (.ref D) → h'.Ns C m' → sh.heap.get? C = none →
      (∀ k, k < (s2.new xs').2.n → T' k ≠ C) → C ≠ ev.locals → (∀ p ∈ ev.cells, p.2 ≠ C) → RR (.ref D) C (.ok .next) { sh with heap := h', toks := tk }) :
    wpAny (model c.prog c.w) A (newList []) (fun acc s₃ => wpAny (model c.prog c.w) A (newFunctionEnv scope ev.globals (clo ev.cells scope.names []) [] ev.qual none .none (some ev)) (fun cenv s₄ =>
      codeAny (model c.prog c.w) A (.compStart (.ListComp E [⟨tgt, iterE, [], 0⟩] scope pos) 0 it acc { cenv with scope := relabel scope ev }) (RR acc cenv.locals) s₄) Er s₃) Er s₂ := by
  refine Classical.byContradiction fun hG => ?_
  obtain ⟨⟨T1, h1, h2, tk, I, fp, wr, P, St, base, ws, rfl, rfl, W, hst, X1, P1, hk12, hwr, hfp, hbase, hitems⟩, hlk1, hlk2, hshort⟩ := Z
  refine hG ?_
  refine wpAny_newObj_type (wpAny_newFunctionEnv hB.nocell (by intro y hy; simp at hy) (fun h₁ hns₁ hsb₁ => ?_) hB.kind)
  dsimp only at hns₁ hsb₁ ⊢
  generalize hH2 : h2.push { cls := .type "list", dict := none, data := .seq ([] : List Value).toArray } = H2 at hns₁ hsb₁ ⊢
  have hC : H2.objs.size = h2.objs.size + 1 := by rw [← hH2, Heap.size_push]
  -- D: the list; C: the block's names
  have hDC : h2.objs.size ≠ H2.objs.size := by rw [hC]; exact Nat.ne_of_lt (Nat.lt_succ_self _)
  have old2 : ∀ b ob, h2.get? b = some ob → h₁.get? b = some ob := fun b ob e => hsb₁.extBut b ob (by
    rw [hC]; exact Nat.ne_of_lt (Nat.lt_succ_of_lt (Heap.lt_size e))) (Heap.get?_push_of_some _ (hH2 ▸ Heap.get?_push_of_some _ e))
  have old1 : ∀ b ob, h1.get? b = some ob → h₁.get? b = some ob := fun b ob e => old2 b ob (hk12 b ob e)
  have hacc : PlainL h₁ h2.objs.size ([] : List Value).toArray := ⟨_, _, hsb₁.extBut _ _ hDC (Heap.get?_push_of_some _ (hH2 ▸ Heap.get?_push_size _ rfl)), rfl, rfl, rfl⟩
  have hD2 : h2.get? h2.objs.size = none := fresh_none (Nat.le_refl _)
  have hC2 : h2.get? H2.objs.size = none := fresh_none (by rw [hC]; exact Nat.le_succ _)
  have none1 : ∀ {a}, h2.get? a = none → h1.get? a = none := fun {a} q => by
    cases e : h1.get? a with
    | none => rfl
    | some ob => rw [hk12 _ _ e] at q; cases q
  have hD1 := none1 hD2
  have hC1 := none1 hC2
  have none0 : ∀ {a}, h1.get? a = none → sh.heap.get? a = none := fun {a} q => by
    cases e : sh.heap.get? a with
    | none => rfl
    | some ob => obtain ⟨o', e'⟩ := P1.live _ _ e; rw [e'] at q; cases q
  have noneB : ∀ {a}, h1.get? a = none → c.h₀.get? a = none := fun {a} q => by
    cases e : c.h₀.get? a with
    | none => rfl
    | some ob => rw [X1.inv.base _ _ e] at q; cases q
  have nL : ∀ {a}, h1.get? a = none → a ≠ ev.locals := fun {a} q e => by
    obtain ⟨ob, _, _, ho, _⟩ := X1.env.tab
    rw [e, ho] at q; cases q
  have nCell : ∀ {a}, h1.get? a = none → ∀ p ∈ ev.cells, p.2 ≠ a := fun {a} q p hp e => by
    obtain ⟨_, ob, ho, _⟩ := X1.env.cells p hp
    rw [e, q] at ho; cases ho
  have nT1 : ∀ {a}, h1.get? a = none → ∀ k, k < s1.n → T1 k ≠ a := fun {a} q k hk e => by
    obtain ⟨_, _, _, ⟨ob, ho, _⟩, _⟩ := X1.inv.lst k hk
    rw [e, q] at ho; cases ho
  have wrLt : ∀ b ∈ wr, b < h2.objs.size := fun b hb => let ⟨_, ho, _⟩ := W.nos 0 h2 hst b hb; Heap.lt_size ho
  have wrD : ∀ b ∈ wr, b ≠ h2.objs.size := fun b hb => Nat.ne_of_lt (wrLt b hb)
  have wrC : ∀ b ∈ wr, b ≠ H2.objs.size := fun b hb => by rw [hC]; exact Nat.ne_of_lt (Nat.lt_succ_of_lt (wrLt b hb))
  have X1' := X1.more hlk1
  have hcl : ∀ {p}, p ∈ clo ev.cells scope.names [] → ev.cells.lookup p.1 = some p.2 := fun {p} hp => (clo_mem hp).elim (fun q => nomatch q) id
  have hclM : ∀ {p}, p ∈ clo ev.cells scope.names [] → (p.1, p.2) ∈ ev.cells := fun hp => lookup_mem (hcl hp)
  -- the start
  have P0 : Post c.h₀ (fun _ => False) lk' T1 s1 h1 T1 s1 h₁ := Post.keep X1'.inv noseqF (fun _ _ _ q => q) noseqF (fun a ob e _ => old1 a ob e) fun a ob e => ⟨ob, old1 a ob e⟩
  have S0 : Sit c lk' (kdIn scope kd) ns (compEnvC scope (clo ev.cells scope.names []) H2.objs.size ev) (xs.foldl dels l) T1 s1 h₁ (fun x => ([] : List (Str × Value)).reverse.lookup x) := by
    refine ⟨P0.inv, ⟨hns₁, ?_, ?_, ?_⟩, ⟨hB.kind, fun y => relabel_kd X1.st y, X1.st.glob, X1.st.bi, ?_⟩, X1.nso, noneB hC1, fun p hp => X1.cell0 _ (hclM hp)⟩
    · intro p hp
      obtain ⟨v, ob, ho, hd⟩ := X1.env.cells _ (hclM hp)
      exact ⟨v, ob, old1 _ _ ho, hd⟩
    · intro x v hg hkx
      exfalso
      have hkx' : kdIn scope kd (ns x) = some .local := (relabel_kd X1.st (ns x)).symm.trans hkx
      rcases hB.locs _ (kdIn_local hkx') rfl with q | q
      · obtain ⟨x', hx', e⟩ := hxn _ q
        have : x = x' := X1.nso.inj _ _ e
        rw [gets_foldl, this, if_pos hx'] at hg
        cases hg
      · exact X1.nso.dot x q
    · intro x v hg hkx
      have hkx' : kdIn scope kd (ns x) = some .cell := (relabel_kd X1.st (ns x)).symm.trans hkx
      obtain ⟨hfree, hkc⟩ := kdIn_cell hB hkx'
      have hg' : gets l x = some v := by
        rw [gets_foldl] at hg
        split at hg
        · cases hg
        · exact hg
      obtain ⟨a, w, ha, ⟨ob, ho, hd⟩, hv⟩ := X1.env.cel x v hg' ((X1.st.kof _).trans hkc)
      exact ⟨a, w, clo_lookup (Or.inr hfree) ha (fun _ _ q => by simp at q), ⟨ob, old1 _ _ ho, hd⟩, hv.keeps old1⟩
    · intro z hz
      obtain ⟨hfree, hkc⟩ := kdIn_cell hB hz
      obtain ⟨a, ha⟩ := X1.st.cov z hkc
      exact ⟨a, clo_lookup (Or.inr hfree) ha (fun _ _ q => by simp at q)⟩
  have hst0 : St 0 h₁ := W.frame _ _ _ hst fun b _ ob e => old2 b ob e
  generalize hcenv : compEnvC scope (clo ev.cells scope.names []) H2.objs.size ev = cenv at S0
  have hcL : cenv.locals = H2.objs.size := by rw [← hcenv]; rfl
  have hcCells : ∀ p ∈ cenv.cells, (p.1, p.2) ∈ ev.cells := by rw [← hcenv]; exact fun p hp => hclM hp
  have loop : ∀ s₃ : Shared, s₃ = { sh with heap := h₁, toks := tk } →
      codeAny (model c.prog c.w) A (.compLoop (.ListComp E [⟨tgt, iterE, [], 0⟩] scope pos) 0 (.ref I) (.ref h2.objs.size) cenv) (RR (.ref h2.objs.size) H2.objs.size) s₃ := by
    rintro s₃ rfl
    refine compLoop_any (c := c) (CompJ c n lk' (kdIn scope kd) ns cenv sh T1 s1 h1 St wr h2.objs.size xs b e vs xs' s2)
      ?_ vs.length ⟨0, l, s1, T1, h₁, tk, _, xs.foldl dels l, [], xs', [], rfl, rfl, Nat.zero_le _, hst0, P0, S0, fun y hy => by rw [gets_foldl, if_neg hy], hacc, rfl, rfl, nT1 hD1, fun b hb => nT1 (hwr b hb), r, rfl⟩
    intro q s' hJ
    refine Classical.byContradiction fun hG => ?_
    obtain ⟨i, li, si, Ti, hi, tki, mi, lx, done, rest, ys, rfl, rfl, hile, hsti, Pi, Si, heq, hDi, hvi, hlen, hDT, hwT, hr, hxs⟩ := hJ
    refine hG ?_
    have wrU : ∀ a, a ∈ wr → ∀ us, ¬ IsTup hi a us := fun a ha us ⟨ob, ho, _, kk, hd⟩ => by
      obtain ⟨ob', ho', hn'⟩ := W.nos i hi hsti a ha
      rw [ho] at ho'; cases ho'
      exact hn' _ _ hd
    by_cases hlt : i < vs.length
    · -- one more item
      have hdrop : vs.drop i = vs[i] :: vs.drop (i + 1) := List.drop_eq_getElem_cons hlt
      refine Classical.byContradiction fun hG => ?_
      rw [hdrop] at hr
      simp only [elts] at hr
      split at hr
      · rename_i l' hb
        split at hr
        · rename_i x si' hx
          split at hr
          · rename_i xs'' sr hrest
            cases hr
            refine hG ?_
            refine wpAny_mono (W.item i { sh with heap := hi, toks := tki } (fun v s₁' => wpAny (model c.prog c.w) A (assign tgt cenv v) (fun _ s₂ => wpAny (model c.prog c.w) A (eval E cenv) (fun x s₃ =>
              wpAny (model c.prog c.w) A (call (.builtin "list.append") [.ref h2.objs.size, x]) (fun _ s₄ => ∃ m, m < vs.length - i ∧ CompJ c n lk' (kdIn scope kd) ns cenv sh T1 s1 h1 St wr h2.objs.size xs b e vs xs' s2 m s₄)
              (notedBy (model c.prog c.w) A cenv fun e s' => RR (.ref h2.objs.size) H2.objs.size (.error e) s') s₃) (notedBy (model c.prog c.w) A cenv fun e s' => RR (.ref h2.objs.size) H2.objs.size (.error e) s') s₂) (notedBy (model c.prog c.w) A cenv fun e s' => RR (.ref h2.objs.size) H2.objs.size (.error e) s') s₁') _ hlt hsti fun v h3 t3 hP hst3 hk3 => ?_) (fun r s₁ hr => ?_) fun _ _ e => e
            · -- the item is drawn
              have P3 := Pi.skip (wr := fun a => a ∈ wr) X1'.inv (fun a ha => hwr a ha) hwT wrU (fun a ob ha e => hk3 a ob ha e) noseqF
              have S3 : Sit c lk' (kdIn scope kd) ns cenv lx Ti si h3 mi := Si.skip (wr := fun a => a ∈ wr) (fun a ob ha e => hk3 a ob ha e) hwT wrU (fun q => wrC _ q hcL) (fun p hp q => nCell (hwr _ q) _ (hcCells p hp) rfl) fun a ha => noneB (hwr a ha)
              have hD3 : PlainL h3 h2.objs.size ys.toArray := let ⟨ob, nn, ho, rr⟩ := hDi; ⟨ob, nn, hk3 _ _ (fun q => wrD _ q rfl) ho, rr⟩
              have hv3 : VR Ti si.n h3 vs[i] v := hitems i v vs[i] Ti si.n h3 (P3.vrs X1'.inv noseqF hbase) hP (List.getElem?_eq_getElem hlt)
              obtain ⟨lx', hbx⟩ := ht.total (l2 := lx) hb
              refine ht.asg (sh := { sh with heap := h3, toks := t3 }) o.1 S3 hv3 hbx fun h4 m4 t4 S4 P4 => ?_
              have S4' : Sit c lk' (kdIn scope kd) ns cenv l' Ti si h4 m4 := S4.congr fun y v hy => by rw [← ht.same heq hbx hb y] at hy; exact hy
              refine H.use (sh := { sh with heap := h4, toks := t4 }) hE S4' o.pred hx fun T5 h5 t5 w S5 P5 hv5 => ?_
              have own1C : ∀ a ob, own1 cenv a → h1.get? a = some ob → False := fun a ob q e => by
                rw [show a = cenv.locals from q, hcL, hC1] at e; cases e
              have P34 := (P3.transN P4 own1C noseqF)
              have P35 := (P34.transN P5 own1C noseqF)
              -- the list stands
              have hD4 : PlainL h4 h2.objs.size ys.toArray := let ⟨ob, nn, ho, rr⟩ := hD3; ⟨ob, nn, P4.ext _ _ ho (fun q => hDC (show h2.objs.size = H2.objs.size by rw [← hcL]; exact q)) hDT, rr⟩
              have hD5 : PlainL h5 h2.objs.size ys.toArray := let ⟨ob, nn, ho, rr⟩ := hD4; ⟨ob, nn, P5.ext _ _ ho (fun q => hDC (show h2.objs.size = H2.objs.size by rw [← hcL]; exact q)) hDT, rr⟩
              have hDT5 : ∀ k, k < si'.n → T5 k ≠ h2.objs.size := fun k hk q => by
                by_cases hks : k < si.n
                · rw [P5.agree k hks] at q; exact hDT k hks q
                · have := P5.new k (Nat.le_of_not_lt hks) hk
                  obtain ⟨ob, nn, ho, _⟩ := hD4
                  rw [q] at this; rw [this] at ho; cases ho
              have hylen : ys.length ≤ 512 := by rw [hvi.length, hlen]; exact Nat.le_trans hile hshort
              refine list_append_plainL (s := { sh with heap := h5, toks := t5 }) hD5 (fun h6 hL6 hs6 => ?_) (by show ys.length ≤ 2 ^ 24; exact Nat.le_trans hylen (by decide))
              have e6 : (ys.toArray.push w) = (ys ++ [w]).toArray := by simp
              rw [e6] at hL6
              have keep6 : ∀ a ob, ¬ (a = h2.objs.size) → h5.get? a = some ob → h6.get? a = some ob := fun a ob q e => (hs6.2 a q).trans e
              have dU : ∀ a, a = h2.objs.size → ∀ us, ¬ IsTup h5 a us := fun a ha us ⟨ob, ho, hc', _⟩ => by
                obtain ⟨ob', nn, ho', hc'', _⟩ := hD5
                rw [ha] at ho; rw [ho] at ho'; cases ho'
                rw [hc'] at hc''; exact absurd (Value.type.inj hc'') (by decide)
              have P6 := P35.skip (wr := fun a => a = h2.objs.size) X1'.inv (fun a ha => by rw [ha]; exact hD1) (fun a ha k hk => by rw [ha]; exact hDT5 k hk) dU keep6 noseqF
              have S6 : Sit c lk' (kdIn scope kd) ns cenv l' T5 si' h6 m4 := S5.skip (wr := fun a => a = h2.objs.size) keep6 (fun a ha k hk => by rw [ha]; exact hDT5 k hk) dU (fun q => hDC (by rw [← hcL]; exact q.symm))
                (fun p hp q => nCell hD1 _ (hcCells p hp) q) (fun a ha => by rw [ha]; exact noneB hD1)
              have tup56 : ∀ p us, IsTup h5 p us → IsTup h6 p us := fun p us hp => by
                have hne : ¬ (p = h2.objs.size) := fun q => dU p q us hp
                obtain ⟨ob, ho, rr⟩ := hp
                exact ⟨ob, keep6 _ _ hne ho, rr⟩
              have tupi5 : ∀ {vs us}, VRs Ti si.n hi vs us → VRs T5 si'.n h6 vs us := fun {vs us} q => by
                have q3 : VRs Ti si.n h3 vs us := VRs.mono (fun _ _ => rfl) (Nat.le_refl _) (fun p us hp => by
                  have hne : p ∉ wr := fun q => wrU p q us hp
                  obtain ⟨ob, ho, rr⟩ := hp
                  exact ⟨ob, hk3 _ _ hne ho, rr⟩) vs q
                have q4 := P4.vrs S3.inv S3.ns1 q3
                have q5 := P5.vrs S4.inv S4.ns1 q4
                exact VRs.mono (fun _ _ => rfl) (Nat.le_refl _) tup56 vs q5
              have hwT5 : ∀ b ∈ wr, ∀ k, k < si'.n → T5 k ≠ b := fun b hb k hk q => by
                by_cases hks : k < si.n
                · rw [P5.agree k hks] at q; exact hwT b hb k hks q
                · have := P5.new k (Nat.le_of_not_lt hks) hk
                  obtain ⟨ob, ho, _⟩ := W.nos (i + 1) h3 hst3 b hb
                  have ho4 := P4.ext b ob ho (fun q => wrC b hb (by rw [← hcL]; exact q)) (hwT b hb)
                  rw [q, ho4] at this; cases this
              refine ⟨vs.length - (i + 1), Nat.sub_lt_sub_left hlt (Nat.lt_succ_self i), i + 1, l', si', T5, h6, t5, m4, l', done ++ [x], xs'', ys ++ [w], rfl, rfl, hlt, ?_, P6, S6, fun _ _ => rfl, hL6, VRs.append (tupi5 hvi) ⟨w, [], rfl, VR.mono (fun _ _ => rfl) (Nat.le_refl _) tup56 _ hv5, rfl⟩, by simp [hlen], hDT5, hwT5, hrest, by simpa using hxs⟩
              refine W.frame _ _ _ hst3 fun b hb ob e => ?_
              rcases hfp b hb with q | ⟨kk, hk1, hkl, rfl⟩
              · have e4 := P4.ext b ob e (fun q' => wrC b q (by rw [← hcL]; exact q')) (hwT b q)
                have e5 := P5.ext b ob e4 (fun q' => wrC b q (by rw [← hcL]; exact q')) (hwT b q)
                exact keep6 b ob (wrD b q) e5
              · have hks : kk < si.n := Nat.lt_of_lt_of_le hk1 Pi.le
                have ag : Ti kk = T1 kk := Pi.agree kk hk1
                have e4 : h4.get? (Ti kk) = some ob := P4.lockh kk ob hkl hks (by rw [ag]; exact e)
                have e5 := P5.lockh kk ob hkl hks e4
                rw [ag] at e5
                exact keep6 _ ob (nT1 hD1 kk hk1) e5
            · cases r with
              | none => exact hr.elim
              | some v => exact hr
          · cases hr
        · cases hr
      · cases hr
    · -- the end
      have hin : i = vs.length := Nat.le_antisymm hile (Nat.le_of_not_lt hlt)
      subst hin
      have hnil : vs.drop vs.length = [] := List.drop_length
      rw [hnil] at hr
      simp only [elts] at hr
      cases hr
      refine wpAny_mono (W.done { sh with heap := hi, toks := tki } (fun s₁ => RR (.ref h2.objs.size) H2.objs.size (.ok .next) s₁) _ hsti fun h3 t3 hk3 => ?_) (fun r s₁ hr => ?_) fun _ _ e => e
      · have P3 := Pi.skip (wr := fun a => a ∈ wr) X1'.inv (fun a ha => hwr a ha) hwT wrU (fun a ob ha e => hk3 a ob ha e) noseqF
        have hD3 : PlainL h3 h2.objs.size ys.toArray := let ⟨ob, nn, ho, rr⟩ := hDi; ⟨ob, nn, hk3 _ _ (fun q => wrD _ q rfl) ho, rr⟩
        have S3 : Sit c lk' (kdIn scope kd) ns cenv lx Ti s2 h3 mi := Si.skip (wr := fun a => a ∈ wr) (fun a ob ha e => hk3 a ob ha e) hwT wrU (fun q => wrC _ q hcL) (fun p hp q => nCell (hwr _ q) _ (hcCells p hp) rfl) fun a ha => noneB (hwr a ha)
        have hv3 : VRs Ti s2.n h3 done ys := VRs.mono (fun _ _ => rfl) (Nat.le_refl _) (fun p us hp => by
          have hne : p ∉ wr := fun q => wrU p q us hp
          obtain ⟨ob, ho, rr⟩ := hp
          exact ⟨ob, hk3 _ _ hne ho, rr⟩) done hvi
        have e0 : xs' = done := by simpa using hxs
        subst e0
        have Pa := P3.adopt X1'.inv hD1 hDT hD3 hv3
        have Pu := Pa.unlock X1.inv hlk1 hlk2
        have hnsL : h3.Ns ev.locals m := by
          have hT' : ∀ k, k < s1.n → T1 k ≠ ev.locals := fun k hk => X1.inv.notNs X1.env.tab hk
          obtain ⟨ob, es, ep, ho, rr⟩ := X1.env.tab
          exact ⟨ob, es, ep, Pu.ext _ _ ho (fun q => q) hT', rr⟩
        have Pw := Pu.wider (own' := own1 ev) (fun _ _ _ q => q.elim) (noseq1 hnsL)
        have hCn : h3.Ns H2.objs.size mi := by rw [← hcL]; exact S3.env.tab
        refine k _ h3 t3 h2.objs.size H2.objs.size mi (X1.next Pw hnsL) (P1.trans Pw) ⟨Nat.lt_succ_self _, by simp⟩ hCn (none0 hC1) ?_ (nL hC1) (nCell hC1)
        intro kk hkk
        have hlt' : kk < s2.n + 1 := hkk
        by_cases hks : kk = s2.n
        · simp only [if_pos hks]; exact hDC
        · simp only [if_neg hks]
          exact S3.inv.notNs hCn (ltp hlt' hks)
      · cases r with
        | none => exact hr
        | some v => exact hr.elim
  subst hcenv
  exact codeAny_compStart_list (loop _ rfl) (W.self 0 _ _ _ hst0 (loop _ rfl))
end
end Mine
/-! EXPRESSIONS, whole. -/
namespace Mine
open PySem PySem.Spec PySem.Calls PyProof.Rows PyProof.V PySem.W

def SC (c : Ctx) (n : Nat) : Prop := ∀ (lk : List Nat) (f : Nat) (a : Addr) (vs : List V) (ws : List Value) (s : S) (v : V) (s' : S) (T : Nat → Addr) (sh : Shared) (A : Around) (Q : Value → Shared → Prop) (Er : Value → Shared → Prop),
  c.mg (c.fnm f) = some (.ref a) → Inv c.h₀ lk T s sh.heap → VRs T s.n sh.heap vs ws → AOk n A → (evs c.tbl n).c lk f vs s = some (v, s') →
  (∀ T' h' tk w, Post c.h₀ (fun _ => False) lk T s sh.heap T' s' h' → VR T' s'.n h' v w → Q w { sh with heap := h', toks := tk }) → wpAny (model c.prog c.w) A (call (.ref a) ws) Q Er sh

section
variable {c : Ctx} {n : Nat} {lk lk' : List Nat} {kd : Kd} {ns : Nat → Str} {ev : Env} {l l' : Loc} {T T' : Nat → Addr} {s s' s1 s2 : S} {sh s₂ : Shared} {m : Str → Option Value} {A : Around} {Q : Value → Shared → Prop} {Er : Value → Shared → Prop} {vs : List V} {v : V} {h h' : Heap}

theorem comp_free {scope : Scope} {xn : List Str} (X : Sit c lk kd ns ev l T s sh.heap m) (hB : BlockOk scope kd xn) : closureFor scope ev = pure (clo ev.cells scope.names []) :=
  closureFor_clo fun y hy hf => X.st.cov _ (hB.free y hy hf)

theorem comp_end (X : Sit c lk kd ns ev l T s sh.heap m) {T' : Nat → Addr} {xs' : List V} {s2 : S} {h' h'' : Heap} {C : Addr} {m' : Str → Option Value} (X' : Sit c lk kd ns ev l T' (s2.new xs').2 h' m) (P : Post c.h₀ (own1 ev) lk T s sh.heap T' (s2.new xs').2 h')
    (hn : h'.Ns C m') (h0 : sh.heap.get? C = none) (hT : ∀ k, k < (s2.new xs').2.n → T' k ≠ C) (hL : C ≠ ev.locals) (hs : Heap.SameBut C h' h'') : Post c.h₀ (own1 ev) lk T s sh.heap T' (s2.new xs').2 h'' ∧ h''.Ns ev.locals m := by
  have keep : ∀ a ob, ¬ (a = C) → h'.get? a = some ob → h''.get? a = some ob := fun a ob q e => (hs.2 a q).trans e
  have hns : h''.Ns ev.locals m := let ⟨ob, es, ep, ho, r⟩ := X'.env.tab; ⟨ob, es, ep, keep _ _ (Ne.symm hL) ho, r⟩
  refine ⟨P.skip (wr := fun a => a = C) X.inv (fun a ha => by rw [ha]; exact h0) (fun a ha k hk => by rw [ha]; exact hT k hk) (fun a ha us ⟨ob, ho, _, kk, hd⟩ => ?_) keep (noseq1 hns), hns⟩
  obtain ⟨ob', es, ep, ho', hd', _⟩ := hn
  rw [ha, ho'] at ho
  cases ho
  rw [hd'] at hd; cases hd

theorem e_comp1 (C : c.Ok) (H : SE c n) {e : Ex} {x : Nat} {it : It} {E I : Expr} {nm : Str} {px p : Pos} {scope : Scope} (hnm : nm = ns x) (hB : BlockOk scope kd [nm]) (hI : IsI c.fnm ns kd it I) (hnot : ∀ a, it ≠ .enm a) (hf : foldOk I) (hE : IsE c.fnm ns (kdIn scope kd) e E)
    (X : Sit c lk kd ns ev l T s sh.heap m) (o : AOk (n + 1) A) (r : stepE (evs c.tbl n) lk (.comp1 e x it) l s = some (v, s')) (k : K1 c ev lk T s sh m v s' Q) :
    wpAny (model c.prog c.w) A (eval (.ListComp E [⟨.Name nm px, I, [], 0⟩] scope p) ev) Q Er sh := by
  simp only [stepE] at r
  split at r
  · rename_i vs lk' s1 r1
    split at r
    · rename_i xs s2 r2
      cases r
      rw [eval_ListComp]
      refine wpAny_comprehension_free (g := ⟨.Name nm px, I, [], 0⟩) (gs := []) (use := none) rfl (hf ev) (comp_free X hB) hB.kind hB.names ?_
      refine wpAny_mono (i_iter1 (Er := Er) (nm := nm) (p := px) C H hI hnot X o r1) (fun y s₁ h₁ => wpAny_mono h₁ (fun itv s₂ Z => ?_) fun _ _ e => e) fun _ _ e => e
      refine comp_core (RR := fun acc C r s' => compPost (model c.prog c.w) A Er none Q acc C r s') H (xs := [x]) (xn := [nm]) hB (fun z hz => ⟨x, by simp, by rw [List.mem_singleton.mp hz]; exact hnm⟩)
        (tgt1 hnm (kdIn_tgt (hB.tgt nm (by simp)))) hE o X Z r2 fun T' h' tk D Ca m' X' P hv hn h0 hT hL hc => ?_
      refine ⟨m', hn, fun h'' hs => ?_⟩
      have G := comp_end X X' P hn h0 hT hL hs
      exact k.here (tk := tk) G.1 G.2 ⟨hv.1, hv.2⟩
    · cases r
  · cases r
theorem e_comp2 (C : c.Ok) (H : SE c n) {e : Ex} {x y : Nat} {a : Ex} {E I : Expr} {n1 n2 : Str} {p1 p2 q p : Pos} {kk : Nat} {scope : Scope} (hn1 : n1 = ns x) (hn2 : n2 = ns y) (hB : BlockOk scope kd [n1, n2]) (hI : IsI c.fnm ns kd (.enm a) I) (hf : foldOk I)
    (hE : IsE c.fnm ns (kdIn scope kd) e E) (X : Sit c lk kd ns ev l T s sh.heap m) (o : AOk (n + 1) A) (r : stepE (evs c.tbl n) lk (.comp2 e x y (.enm a)) l s = some (v, s')) (k : K1 c ev lk T s sh m v s' Q) :
    wpAny (model c.prog c.w) A (eval (.ListComp E [⟨.Tuple [.Name n1 p1, .Name n2 p2] kk q, I, [], 0⟩] scope p) ev) Q Er sh := by
  simp only [stepE] at r
  split at r
  · rename_i vs lk' s1 r1
    split at r
    · rename_i xs s2 r2
      cases r
      rw [eval_ListComp]
      refine wpAny_comprehension_free (g := ⟨.Tuple [.Name n1 p1, .Name n2 p2] kk q, I, [], 0⟩) (gs := []) (use := none) rfl (hf ev) (comp_free X hB) hB.kind hB.names ?_
      refine wpAny_mono (i_iter2 (Er := Er) (elts := [.Name n1 p1, .Name n2 p2]) (k := kk) (p := q) C H hI X o r1) (fun yv s₁ h₁ => wpAny_mono h₁ (fun itv s₂ Z => ?_) fun _ _ e => e) fun _ _ e => e
      refine comp_core (RR := fun acc C r s' => compPost (model c.prog c.w) A Er none Q acc C r s') H (xs := [x, y]) (xn := [n1, n2]) hB (fun z hz => ?_)
        (tgt2 hn1 hn2 (kdIn_tgt (hB.tgt n1 (by simp))) (kdIn_tgt (hB.tgt n2 (by simp)))) hE o X Z r2 fun T' h' tk D Ca m' X' P hv hn h0 hT hL hc => ?_
      · rcases List.mem_cons.mp hz with rfl | hz
        · exact ⟨x, by simp, hn1⟩
        · exact ⟨y, by simp, by rw [List.mem_singleton.mp hz]; exact hn2⟩
      · refine ⟨m', hn, fun h'' hs => ?_⟩
        have G := comp_end X X' P hn h0 hT hL hs
        exact k.here (tk := tk) G.1 G.2 ⟨hv.1, hv.2⟩
    · cases r
  · cases r

theorem call_go (HC : SC c n) {f : Nat} {a : Addr} {us : List V} {ws : List Value} (hm : c.mg (c.fnm f) = some (.ref a)) {T1 : Nat → Addr} {s1 : S} {h1 : Heap} {tk : Nat} (X1 : Sit c lk kd ns ev l T1 s1 h1 m) (P1 : Post c.h₀ (own1 ev) lk T s sh.heap T1 s1 h1)
    (hv : VRs T1 s1.n h1 us ws) (o : AOk n A) (r : (evs c.tbl n).c lk f us s1 = some (v, s')) (k : K1 c ev lk T s sh m v s' Q) : wpAny (model c.prog c.w) A (call (.ref a) ws) Q Er { sh with heap := h1, toks := tk } := by
  refine HC lk f a us ws s1 v s' T1 { sh with heap := h1, toks := tk } A Q Er hm X1.inv hv o r fun T' h' tk' w P hw => ?_
  have hns : h'.Ns ev.locals m := by
    have hT' : ∀ k, k < s1.n → T1 k ≠ ev.locals := fun k hk => X1.inv.notNs X1.env.tab hk
    obtain ⟨ob, es, ep, ho, rr⟩ := X1.env.tab
    exact ⟨ob, es, ep, P.ext _ _ ho (fun q => q) hT', rr⟩
  exact k.here (P1.trans (P.wider (own' := own1 ev) (fun _ _ _ q => q.elim) (noseq1 hns))) hns hw

theorem fn_at (C : c.Ok) {f : Nat} {us : List V} (r : (evs c.tbl n).c lk f us s = some (v, s')) : ∃ ps b a o fd stmts ns, gets c.tbl f = some (ps, b) ∧ FnOk c f ps b a o fd stmts ns := by
  cases n with
  | zero => cases r
  | succ n =>
    have r' : stepC c.tbl (evs c.tbl n) lk f us s = some (v, s') := r
    unfold stepC at r'
    split at r'
    · rename_i ps b e
      obtain ⟨a, o, fd, stmts, ns, F⟩ := C.fn f ps b e
      exact ⟨ps, b, a, o, fd, stmts, ns, e, F⟩
    · cases r'

theorem e_call1 (C : c.Ok) (H : SE c n) (HC : SC c n) {f : Nat} {a : Ex} {B1 : Expr} {nm : Str} {q p : Pos} (g : gl kd nm (c.fnm f)) (h1 : IsE c.fnm ns kd a B1) (w1 : one B1) (X : Sit c lk kd ns ev l T s sh.heap m) (o : AOk (n + 1) A)
    (r : stepE (evs c.tbl n) lk (.call1 f a) l s = some (v, s')) (k : K1 c ev lk T s sh m v s' Q) : wpAny (model c.prog c.w) A (eval (.Call (.Name nm q) [B1] [] p) ev) Q Er sh := by
  simp only [stepE] at r
  split at r
  · rename_i x s1 r1
    obtain ⟨ps, b, fa, ob, fd, stmts, ns', _, F⟩ := fn_at C r
    refine wpAny_Call_NameR (glob_name C X g F.at_ (callWith_function (o := ob) (fd := fd) ?_))
    rw [w1.args]
    refine evalArgs_plain (spliced_cons (H.use h1 X o.pred r1 fun T1 h1 t1 y X1 P1 vx => spliced_nil ⟨⟨X1.inv.base _ _ F.obj, F.data⟩, ?_⟩))
    exact call_go (sh := sh) (T := T) (s := s) (ws := [y]) (us := [x]) HC F.at_ X1 P1 ⟨y, [], rfl, vx, rfl⟩ o.pred r k
  · cases r
theorem e_call2 (C : c.Ok) (H : SE c n) (HC : SC c n) {f : Nat} {a b : Ex} {B1 B2 : Expr} {nm : Str} {q p : Pos} (g : gl kd nm (c.fnm f)) (h1 : IsE c.fnm ns kd a B1) (h2 : IsE c.fnm ns kd b B2) (w2 : two B1 B2) (X : Sit c lk kd ns ev l T s sh.heap m) (o : AOk (n + 1) A)
    (r : stepE (evs c.tbl n) lk (.call2 f a b) l s = some (v, s')) (k : K1 c ev lk T s sh m v s' Q) : wpAny (model c.prog c.w) A (eval (.Call (.Name nm q) [B1, B2] [] p) ev) Q Er sh := by
  simp only [stepE, e2] at r
  split at r
  · rename_i x s1 r1
    split at r
    · rename_i y s2 r2
      obtain ⟨ps, b, fa, ob, fd, stmts, ns', _, F⟩ := fn_at C r
      refine wpAny_Call_NameR (glob_name C X g F.at_ (callWith_function (o := ob) (fd := fd) ?_))
      rw [w2.args]
      refine evalArgs_plain (spliced_cons (H.use h1 X o.pred r1 fun T1 h1 t1 y' X1 P1 vx => spliced_cons (H.use (sh := { sh with heap := h1, toks := t1 }) h2 X1 o.pred r2 fun T2 h2 t2 z' X2 P2 vy => spliced_nil ⟨⟨X2.inv.base _ _ F.obj, F.data⟩, ?_⟩)))
      exact call_go (sh := sh) (T := T) (s := s) (ws := [y', z']) (us := [x, y]) HC F.at_ X2 (P1.trans P2) ⟨y', [z'], rfl, P2.vr X1.inv X1.ns1 vx, z', [], rfl, vy, rfl⟩ o.pred r k
    · cases r
  · cases r

theorem se_step (C : c.Ok) (H : SE c n) (HC : SC c n) : SE c (n + 1) := by
  intro lk kd ns e E ev l s v s' T sh m A Q Er h X o r k
  have r' : stepE (evs c.tbl n) lk e l s = some (v, s') := r
  cases h with
  | loc h1 h2 h3 => exact e_loc h1 h2 h3 X r' k
  | glo0 g => exact e_glo0 C g X r' k
  | glo1 g => exact e_glo1 C g X r' k
  | int => exact e_int X r' k
  | bool => exact e_bool X r' k
  | neg h1 => exact e_neg H h1 X o r' k
  | pair h1 h2 h3 => exact e_pair H h1 h2 h3 X o r' k
  | trip h1 h2 h3 h4 => exact e_trip H h1 h2 h3 h4 X o r' k
  | lst0 => exact e_lst0 X r' k
  | lst1 h1 h2 => exact e_lst1 H h1 h2 X o r' k
  | lst2 h1 h2 h3 => exact e_lst2 H h1 h2 h3 X o r' k
  | lst3 h1 h2 h3 h4 => exact e_lst3 H h1 h2 h3 h4 X o r' k
  | bin h0 h1 h2 => exact e_bin H h0 h1 h2 X o r' k
  | rep h1 h2 h3 => exact e_rep H h1 h2 h3 X o r' k
  | cmp h0 h1 h2 h3 => exact e_cmp H h0 h1 h2 h3 X o r' k
  | ife h0 h1 h2 => exact e_ife H h0 h1 h2 X o r' k
  | sub h1 h2 h3 => exact e_sub H h1 h2 h3 X o r' k
  | slTo h1 h2 => exact e_slTo H h1 h2 X o r' k
  | slFrom h1 h2 => exact e_slFrom H h1 h2 X o r' k
  | call1 g h1 h2 => exact e_call1 C H HC g h1 h2 X o r' k
  | call2 g h1 h2 h3 => exact e_call2 C H HC g h1 h2 h3 X o r' k
  | abs g h1 h2 => exact e_abs C H g h1 h2 X o r' k
  | len g h1 h2 => exact e_len C H g h1 h2 X o r' k
  | max g h1 h2 h3 => exact e_max C H g h1 h2 h3 X o r' k
  | mklist g h1 h2 => exact e_mklist C H g h1 h2 X o r' k
  | toInt g h1 h2 => exact e_toInt C H g h1 h2 X o r' k
  | comp1 h1 h0 h2 h3 h4 h5 => exact e_comp1 C H h1 h2 h3 h0 h4 h5 X o r' k
  | comp2 h1 h2 h3 h4 h5 h6 => exact e_comp2 C H h1 h2 h3 h4 h5 h6 X o r' k
end
end Mine
namespace Mine
open PySem

section
variable {prog : Program} {w : World} {A : Around} {E : Value → Shared → Prop} {s : Shared}
/-- an item is set, the list stays plain -/
theorem set_plain {l : Addr} {items : Array Value} {j : Nat} {k : Int} (hk : k = (j : Int)) {t : Tok} {v : Value} {Q : Unit → Shared → Prop} (hl : PlainL s.heap l items) (hj : j < items.size) (hs : items.size ≤ 512)
    (hQ : ∀ h', PlainL h' l (items.setIfInBounds j v) → Heap.SameBut l s.heap h' → Q () { s with heap := h' }) : wpAny (model prog w) A (setItem (.ref l) (.int k t) v) Q E s := by
  have hT := hl.isList.typeIs
  obtain ⟨ob, q, hg, hcls, hdict, hdata⟩ := hl
  have hfin : ∃ ob', (s.heap.update l (Obj.mapSeq (·.setIfInBounds j v))).get? l = some ob' ∧ ob'.cls = .type "list" ∧ ob'.dict = none ∧ ∃ q', ob'.data = .seq (items.setIfInBounds j v) q' := by
    obtain ⟨q', hq⟩ := Obj.data_mapSeq hdata (·.setIfInBounds j v)
    refine ⟨_, Heap.get?_update_self _ hg (Obj.isFreed_of_seq hq), (Obj.cls_mapSeq ..).trans hcls, ?_, q', hq⟩
    obtain ⟨c, d, dt, sl⟩ := ob
    subst hdata
    exact hdict
  obtain ⟨ob', h1, h2, h3, q', h4⟩ := hfin
  have fin := hQ _ ⟨ob', q', h1, h2, h3, h4⟩ (Heap.SameBut.update ..)
  have h0 : (0 : Int) ≤ k := by rw [hk]; exact Int.natCast_nonneg j
  have hfit : k < 2 ^ 63 := by omega
  have hfi := fitsIndex_of h0 hfit
  clear hfit
  have hx : items[j]? = some items[j] := Array.getElem?_eq_getElem hj
  unfold setItem
  try with_reducible refine wpAny_holding ?_
  first | refine wpAny_bind (wpAny_pure ?_) | skip
  refine wpAny_bind (wpAny_sequenceKey hT (by decide) ?_)
  refine wpAny_bind (wpAny_callSpecial?_slot (name := Str.ofString "__setitem__") hT slot_list_setitem
    (wpAny_call_entry slot_list_setitem hT entry_list_setitem ?_ (args_list_setitem _ _ _)))
  show wpAny _ _ (Builtin.List.listSubscript? (.int k t) >>= _) _ _ s
  refine wpAny_bind (wpAny_listSubscript_int hfi ?_)
  subst hk
  show wpAny _ _ ((seqItemAt l j >>= fun r => pure (r.map (j, ·))) >>= _) _ _ s
  refine wpAny_bind (wpAny_bind (wpAny_seqItemAt hg hdata (wpAny_pure ?_)))
  rw [hx]
  show wpAny _ _ (setSeqItemAt l j v >>= _) _ _ s
  refine wpAny_bind (wpAny_setSeqItemAt hg hdata ?_)
  first
    | exact wpAny_bind (wpAny_pure (wpAny_pure ⟨.none, rfl, wpAny_pure fin⟩))
    | exact wpAny_pure ⟨.none, rfl, wpAny_pure fin⟩
end
end Mine
/-! STATEMENTS. -/
namespace Mine
open PySem PySem.Spec PySem.Calls PyProof.Rows PyProof.V PySem.W

noncomputable def FlR (T : Nat → Addr) (n : Nat) (h : Heap) : Fl → Flow → Prop
  | .nxt, f => f = .next
  | .ret v, f => ∃ w, f = .ret w ∧ VR T n h v w
def K2 (c : Ctx) (ev : Env) (lk : List Nat) (kd : Kd) (ns : Nat → Str) (T : Nat → Addr) (s : S) (sh : Shared) (f : Fl) (l' : Loc) (s' : S) (Q : Flow → Shared → Prop) : Prop :=
  ∀ T' h' tk m' fl, Sit c lk kd ns ev l' T' s' h' m' → Post c.h₀ (own2 ev) lk T s sh.heap T' s' h' → FlR T' s'.n h' f fl → Q fl { sh with heap := h', toks := tk }
/-- two names' cells are two -/
def Apart (ev : Env) : Prop := ∀ x y a, ev.cells.lookup x = some a → ev.cells.lookup y = some a → x = y
def SS (c : Ctx) (n : Nat) : Prop := ∀ (lk : List Nat) (kd : Kd) (ns : Nat → Str) (b : List St) (B : List Stmt) (ev : Env) (l : Loc) (s : S) (f : Fl) (l' : Loc) (s' : S) (T : Nat → Addr) (sh : Shared) (m : Str → Option Value) (A : Around) (Q : Flow → Shared → Prop) (Er : Value → Shared → Prop),
  IsSs c.fnm ns kd b B → Apart ev → Sit c lk kd ns ev l T s sh.heap m → AOk n A → (evs c.tbl n).s lk b l s = some (f, l', s') → K2 c ev lk kd ns T s sh f l' s' Q → wpAny (model c.prog c.w) A (execs B ev) Q Er sh

section
variable {c : Ctx} {n : Nat} {lk lk' : List Nat} {kd : Kd} {ns : Nat → Str} {ev : Env} {l l' : Loc} {T T' : Nat → Addr} {s s' s1 s2 : S} {sh s₂ : Shared} {m m' : Str → Option Value} {A : Around} {Q : Flow → Shared → Prop} {Er : Value → Shared → Prop} {vs : List V} {v : V} {h h' : Heap} {f : Fl}

theorem Post.own12 (P : Post c.h₀ (own1 ev) lk T s h T' s' h') (X : Sit c lk' kd ns ev l T' s' h' m) : Post c.h₀ (own2 ev) lk T s h T' s' h' := P.wider (fun _ _ _ q => Or.inl q) X.ns2
theorem Sit.refl2 (X : Sit c lk kd ns ev l T s h m) : Post c.h₀ (own2 ev) lk T s h T s h := Post.refl X.inv X.ns2

/-- a cell gets a value -/
theorem st_cell (X : Sit c lk kd ns ev l T s sh.heap m) (ha : Apart ev) {x : Nat} {u : V} {w : Value} {Q : Unit → Shared → Prop} (hk : kd (ns x) = some .cell) (hv : VR T s.n sh.heap u w)
    (k : ∀ h' m' tk, Sit c lk kd ns ev (puts l x u) T s h' m' → Post c.h₀ (own2 ev) lk T s sh.heap T s h' → Q () { sh with heap := h', toks := tk }) : wpAny (model c.prog c.w) A (storeName ev (ns x) w) Q Er sh := by
  obtain ⟨a, hl⟩ := X.st.cov _ hk
  have hmem := lookup_mem hl
  obtain ⟨v0, hc⟩ := X.env.cells _ hmem
  refine wpAny_storeName_cell X.st.kind ((X.st.kof _).trans hk) hl hc fun h' hc' hs => ?_
  have hne : ev.locals ≠ a := Ne.symm (ns_not_cell X.env.tab hc)
  have hkeep0 : ∀ b o, sh.heap.get? b = some o → b ≠ a → h'.get? b = some o := fun b o e q => (hs.2 b q).trans e
  have hn : h'.Ns ev.locals m := let ⟨o, es, ep, ho, r⟩ := X.env.tab; ⟨o, es, ep, hkeep0 _ _ ho hne, r⟩
  have hcs : ∀ p ∈ ev.cells, ∃ v, h'.IsCell p.2 v := fun p hp => by
    by_cases hpa : p.2 = a
    · exact ⟨_, hpa ▸ hc'⟩
    · obtain ⟨v, o, ho, hd⟩ := X.env.cells p hp
      exact ⟨v, o, hkeep0 _ _ ho hpa, hd⟩
  have P : Post c.h₀ (own2 ev) lk T s sh.heap T s h' := Post.keep X.inv X.ns2 X.off2 (noseq2 hn hcs) (fun b o e q => hkeep0 b o e fun hb => q (Or.inr ⟨_, hmem, hb.symm⟩)) fun b o e => by
    by_cases hb : b = a
    · subst hb; obtain ⟨o', ho', _⟩ := hc'; exact ⟨o', ho'⟩
    · exact ⟨o, hkeep0 b o e hb⟩
  refine k h' m _ ⟨P.inv, ⟨hn, hcs, ?_, ?_⟩, X.st, X.nso, X.loc0, X.cell0⟩ P
  · intro y v hy hky
    rw [gets_puts] at hy
    by_cases hyx : y = x
    · subst hyx
      rw [X.st.kof, hk] at hky; cases hky
    · rw [if_neg hyx] at hy
      obtain ⟨w', h1, h2⟩ := X.env.loc y v hy hky
      exact ⟨w', h1, P.vr X.inv X.ns2 h2⟩
  · intro y v hy hky
    rw [gets_puts] at hy
    by_cases hyx : y = x
    · subst hyx
      rw [if_pos rfl] at hy
      cases hy
      exact ⟨a, w, hl, hc', P.vr X.inv X.ns2 hv⟩
    · rw [if_neg hyx] at hy
      obtain ⟨b, w', h1, ⟨o, ho, hd⟩, h3⟩ := X.env.cel y v hy hky
      have hba : b ≠ a := fun q => hyx (X.nso.inj _ _ (ha _ _ a (q ▸ h1) hl))
      exact ⟨b, w', h1, ⟨o, hkeep0 _ _ ho hba, hd⟩, P.vr X.inv X.ns2 h3⟩

theorem st_any (X : Sit c lk kd ns ev l T s sh.heap m) (ha : Apart ev) {x : Nat} {u : V} {w : Value} {Q : Unit → Shared → Prop} (hk : kd (ns x) = some .local ∨ kd (ns x) = some .cell) (hv : VR T s.n sh.heap u w)
    (k : ∀ h' m' tk, Sit c lk kd ns ev (puts l x u) T s h' m' → Post c.h₀ (own2 ev) lk T s sh.heap T s h' → Q () { sh with heap := h', toks := tk }) : wpAny (model c.prog c.w) A (storeName ev (ns x) w) Q Er sh := by
  rcases hk with hk | hk
  · exact st_local X hk hv fun h' m' tk X' P => k h' m' tk X' (P.own12 X')
  · exact st_cell X ha hk hv k

theorem s_asg (H : SE c n) (ha : Apart ev) {x : Nat} {e : Ex} {nm : Str} {E : Expr} {p' p : Pos} (hnm : nm = ns x) (hk : kd nm = some .local ∨ kd nm = some .cell) (hE : IsE c.fnm ns kd e E) (hs : sw kd E (some (.Name nm p')) p.line false)
    (X : Sit c lk kd ns ev l T s sh.heap m) (o : AOk (n + 1) A) (r : stepS (evs c.tbl n) lk (.asg x e) l s = some (f, l', s')) (k : K2 c ev lk kd ns T s sh f l' s' Q) : wpAny (model c.prog c.w) A (exec (.Assign [.Name nm p'] E p) ev) Q Er sh := by
  subst hnm
  simp only [stepS] at r
  split at r
  · rename_i u s1 r1
    cases r
    refine wpAny_Assign_Name (H.use hE X o.pred r1 fun T1 h1 t1 w X1 P1 vw => ?_) (hs ev X.st)
    exact st_any (sh := { sh with heap := h1, toks := t1 }) X1 ha hk vw fun h2 m2 t2 X2 P2 => k T1 h2 t2 m2 .next X2 ((P1.own12 X1).trans P2) rfl
  · cases r

theorem s_ret (H : SE c n) {e : Ex} {E : Expr} {p : Pos} (hE : IsE c.fnm ns kd e E) (X : Sit c lk kd ns ev l T s sh.heap m) (o : AOk (n + 1) A) (r : stepS (evs c.tbl n) lk (.ret e) l s = some (f, l', s')) (k : K2 c ev lk kd ns T s sh f l' s' Q) :
    wpAny (model c.prog c.w) A (exec (.Return (some E) p) ev) Q Er sh := by
  simp only [stepS] at r
  split at r
  · rename_i u s1 r1
    cases r
    exact wpAny_Return_some (H.use hE X o.pred r1 fun T1 h1 t1 w X1 P1 vw => k T1 h1 t1 m (.ret w) X1 (P1.own12 X1) ⟨w, rfl, vw⟩)
  · cases r

theorem s_augsub (H : SE c n) {x : Nat} {e : Ex} {nm : Str} {E : Expr} {q p : Pos} (hnm : nm = ns x) (hk : kd nm = some .local) (hE : IsE c.fnm ns kd e E)
    (X : Sit c lk kd ns ev l T s sh.heap m) (o : AOk (n + 1) A) (r : stepS (evs c.tbl n) lk (.augsub x e) l s = some (f, l', s')) (k : K2 c ev lk kd ns T s sh f l' s' Q) : wpAny (model c.prog c.w) A (exec (.AugAssign (.Name nm q) .Sub E p) ev) Q Er sh := by
  subst hnm
  simp only [stepS] at r
  split at r
  · rename_i i hg
    split at r
    · rename_i j s1 r1
      cases r
      obtain ⟨w, hw, t, rfl⟩ := X.env.loc x _ hg ((X.st.kof _).trans hk)
      refine wpAny_AugAssign_Name (wpAny_loadName_local X.st.kind ((X.st.kof _).trans hk) X.env.tab hw (H.use hE X o.pred r1 fun T1 h1 t1 w X1 P1 vw => ?_))
      obtain ⟨u, rfl⟩ := vw
      refine PySem.AutoIntOps.isub_0 ?_
      exact st_local (u := .int (i - j)) (sh := { sh with heap := h1, toks := t1 + 1 }) X1 hk ⟨_, rfl⟩ fun h2 m2 t2 X2 P2 => k T1 h2 t2 m2 .next X2 ((P1.trans P2).own12 X2) rfl
    · cases r
  · cases r
end
end Mine
/-! STATEMENTS, more. -/
namespace Mine
open PySem PySem.Spec PySem.Calls PyProof.Rows PyProof.V PySem.W

section
variable {c : Ctx} {n : Nat} {lk lk' : List Nat} {kd : Kd} {ns : Nat → Str} {ev : Env} {l l' : Loc} {T T' : Nat → Addr} {s s' s1 s2 : S} {sh s₂ : Shared} {m m' : Str → Option Value} {A : Around} {Q : Flow → Shared → Prop} {Er : Value → Shared → Prop} {vs : List V} {v : V} {h h' : Heap} {f : Fl}

theorem comp_end2 (X : Sit c lk kd ns ev l T s sh.heap m) {T' : Nat → Addr} {S' : S} {h' h'' : Heap} {C : Addr} {mm m' : Str → Option Value} {l' : Loc} (X' : Sit c lk kd ns ev l' T' S' h' mm) (P : Post c.h₀ (own1 ev) lk T s sh.heap T' S' h')
    (hn : h'.Ns C m') (h0 : sh.heap.get? C = none) (hT : ∀ k, k < S'.n → T' k ≠ C) (hL : C ≠ ev.locals) (hc : ∀ p ∈ ev.cells, p.2 ≠ C) (hs : Heap.SameBut C h' h'') : Sit c lk kd ns ev l' T' S' h'' mm ∧ Post c.h₀ (own1 ev) lk T s sh.heap T' S' h'' := by
  have keep : ∀ a ob, ¬ (a = C) → h'.get? a = some ob → h''.get? a = some ob := fun a ob q e => (hs.2 a q).trans e
  have hu : ∀ a, a = C → ∀ xs, ¬ IsTup h' a xs := fun a ha us ⟨ob, ho, _, kk, hd⟩ => by
    obtain ⟨ob', es, ep, ho', hd', _⟩ := hn
    rw [ha, ho'] at ho
    cases ho
    rw [hd'] at hd; cases hd
  have hb : c.h₀.get? C = none := by
    cases e : c.h₀.get? C with
    | none => rfl
    | some ob => rw [X.inv.base _ _ e] at h0; cases h0
  have S'' : Sit c lk kd ns ev l' T' S' h'' mm := X'.skip (wr := fun a => a = C) keep (fun a ha k hk => by rw [ha]; exact hT k hk) hu (fun q => hL q.symm) (fun p hp q => hc p hp q) fun a ha => by rw [ha]; exact hb
  exact ⟨S'', P.skip (wr := fun a => a = C) X.inv (fun a ha => by rw [ha]; exact h0) (fun a ha k hk => by rw [ha]; exact hT k hk) hu keep S''.ns1⟩

theorem s_asgc2 (C : c.Ok) (H : SE c n) {x z y : Nat} {e a : Ex} {nm n1 n2 : Str} {E I : Expr} {p1 p2 q' q p' p : Pos} {kk : Nat} {scope : Scope} (hnm : nm = ns x) (hk : kd nm = some .local) (hn1 : n1 = ns z) (hn2 : n2 = ns y) (hB : BlockOk scope kd [n1, n2]) (hI : IsI c.fnm ns kd (.enm a) I) (hf : foldOk I)
    (hE : IsE c.fnm ns (kdIn scope kd) e E) (hs : sw kd (.ListComp E [⟨.Tuple [.Name n1 p1, .Name n2 p2] kk q', I, [], 0⟩] scope q) (some (.Name nm p')) p.line true)
    (X : Sit c lk kd ns ev l T s sh.heap m) (o : AOk (n + 1 + 1) A) (r : stepS (evs c.tbl (n + 1)) lk (.asgc x (.comp2 e z y (.enm a))) l s = some (f, l', s')) (k : K2 c ev lk kd ns T s sh f l' s' Q) :
    wpAny (model c.prog c.w) A (exec (.Assign [.Name nm p'] (.ListComp E [⟨.Tuple [.Name n1 p1, .Name n2 p2] kk q', I, [], 0⟩] scope q) p) ev) Q Er sh := by
  subst hnm
  simp only [stepS] at r
  split at r
  · rename_i v s1 r1
    cases r
    have r1' : stepE (evs c.tbl n) lk (.comp2 e z y (.enm a)) l s = some (v, s') := r1
    simp only [stepE] at r1'
    split at r1'
    · rename_i vs lk' s1 ri
      split at r1'
      · rename_i xs s2 r2
        cases r1'
        rw [exec_Assign_Name_used _ _ _ _ (hs ev X.st)]
        refine wpAny_bind (wpAny_standAt ?_)
        show wpAny _ A (evalThenUse (.ListComp E [⟨.Tuple [.Name n1 p1, .Name n2 p2] kk q', I, [], 0⟩] scope q) ev (assign (.Name (ns x) p') ev) >>= fun _ => pure Flow.next) Q Er sh
        refine wpAny_bind ?_
        show wpAny _ A (comprehension _ scope ev _ (newList []) false (eval I ev) (some (assign (.Name (ns x) p') ev)) >>= fun _ => pure ()) _ Er sh
        refine wpAny_bind (wpAny_mono (wpAny_comprehension_free (E := Er) (Q := fun _ s' => Q .next s') (g := ⟨.Tuple [.Name n1 p1, .Name n2 p2] kk q', I, [], 0⟩) (gs := []) (use := some (assign (.Name (ns x) p') ev)) rfl (hf ev) (comp_free X hB) hB.kind hB.names ?_) (fun _ _ hq => wpAny_pure (wpAny_pure hq)) fun _ _ e => e)
        refine wpAny_mono (i_iter2 (Er := Er) (elts := [.Name n1 p1, .Name n2 p2]) (k := kk) (p := q') C H hI X o.pred ri) (fun yv s₁ h₁ => wpAny_mono h₁ (fun itv s₂ Z => ?_) fun _ _ e => e) fun _ _ e => e
        refine comp_core (RR := fun acc C r s' => compPost (model c.prog c.w) A Er (some (assign (.Name (ns x) p') ev)) (fun _ s' => Q .next s') acc C r s') H (xs := [z, y]) (xn := [n1, n2]) hB (fun w hw => by rcases List.mem_cons.mp hw with rfl | hw; exact ⟨z, by simp, hn1⟩; exact ⟨y, by simp, by rw [List.mem_singleton.mp hw]; exact hn2⟩)
          (tgt2 hn1 hn2 (kdIn_tgt (hB.tgt n1 (by simp))) (kdIn_tgt (hB.tgt n2 (by simp)))) hE o.pred X Z r2 fun T' h' tk D Ca m' X' P hv hn h0 hT hL hc => ?_
        show wpAny _ A (assign (.Name (ns x) p') ev (.ref D)) _ Er { sh with heap := h', toks := tk }
        refine wpAny_assign_Name (st_local (u := (s2.new xs).1) (sh := { sh with heap := h', toks := tk }) X' hk hv fun h2 m2 t2 X2 P2 => ?_)
        have hnC : h2.Ns Ca m' := let ⟨ob, es, ep, ho, rr⟩ := hn; ⟨ob, es, ep, P2.ext _ _ ho hL hT, rr⟩
        refine ⟨m', hnC, fun h'' hsb => ?_⟩
        have G := comp_end2 X X2 (P.trans P2) hnC h0 hT hL hc hsb
        exact k T' h'' t2 m2 .next G.1 (G.2.own12 G.1) rfl
      · cases r1'
    · cases r1'
  · cases r

theorem s_asg2 (H : SE c n) {x y : Nat} {a b : Ex} {n1 n2 : Str} {p1 p2 q q' p : Pos} {kk k' : Nat} {B1 B2 : Expr} (hn1 : n1 = ns x) (hn2 : n2 = ns y) (hk1 : kd n1 = some .local) (hk2 : kd n2 = some .local) (h1 : IsE c.fnm ns kd a B1) (h2 : IsE c.fnm ns kd b B2) (w : two B1 B2)
    (hs : swSole kd [.Tuple [.Name n1 p1, .Name n2 p2] kk q] (.Tuple [B1, B2] k' q') p.line) (hw : swStores kd [.Tuple [.Name n1 p1, .Name n2 p2] kk q] (.Tuple [B1, B2] k' q') (some [n1, n2]))
    (X : Sit c lk kd ns ev l T s sh.heap m) (o : AOk (n + 1) A) (r : stepS (evs c.tbl n) lk (.asg2 x y a b) l s = some (f, l', s')) (k : K2 c ev lk kd ns T s sh f l' s' Q) :
    wpAny (model c.prog c.w) A (exec (.Assign [.Tuple [.Name n1 p1, .Name n2 p2] kk q] (.Tuple [B1, B2] k' q') p) ev) Q Er sh := by
  subst hn1 hn2
  simp only [stepS] at r
  split at r
  · rename_i u s1 r1
    split at r
    · rename_i v s2 r2
      cases r
      have rp : stepE (evs c.tbl n) lk (.pair a b) l s = some (.pair u v, s') := by simp only [stepE, e2, r1, r2]
      rw [exec_Assign_arm]
      refine wpAny_bind (wpAny_standAt ?_)
      rw [hs ev X.st]
      refine wpAny_bind (wpAny_pure ?_)
      rw [if_neg (by decide)]
      refine wpAny_bind (e_pair H h1 h2 w X o rp fun T1 h1 t1 vt P1 hn1 hv => ?_)
      rw [hw ev X.st]
      refine wpAny_bind (wpAny_pure ?_)
      obtain ⟨pt, w1, w2, rfl, ht, v1, v2⟩ := hv
      have X1 := X.next P1 hn1
      show wpAny _ A (do rule "assign.swapped-stores"; let items ← unpackItems (.ref pt) 2 none; assignInOrder [bindName ev (ns y), bindName ev (ns x)] items.reverse; pure Flow.next) Q Er { sh with heap := h1, toks := t1 }
      refine wpAny_bind (wpAny_rule (wpAny_bind (wpAny_unpackItems_tuple (items := #[w1, w2]) o.1 ht fun h2 hx => ?_)))
      have hkeep : ∀ a o, h1.get? a = some o → h2.get? a = some o := fun a o e => hx a o (Nat.ne_of_lt (Heap.lt_size e)) e
      have G := X1.grown hkeep
      have X2 := X1.next G.1 G.2
      show wpAny _ A (assignInOrder [bindName ev (ns y), bindName ev (ns x)] [w2, w1] >>= fun _ => pure Flow.next) Q Er { sh with heap := h2, toks := t1 }
      simp only [assignInOrder]
      refine wpAny_bind (wpAny_bind (wpAny_holding (wpAny_bindName (st_local (sh := { sh with heap := h2, toks := t1 }) X2 hk2 (v2.keeps hkeep) fun h3 m3 t3 X3 P3 => ?_))))
      refine wpAny_bind (wpAny_holding (wpAny_bindName (st_local (sh := { sh with heap := h3, toks := t3 }) X3 hk1 (P3.vr X2.inv X2.ns1 (v1.keeps hkeep)) fun h4 m4 t4 X4 P4 => ?_)))
      exact wpAny_pure (wpAny_pure (k T1 h4 t4 m4 .next X4 ((((P1.trans G.1).trans P3).trans P4).own12 X4) rfl))
    · cases r
  · cases r

theorem s_unp (H : SE c n) {x y : Nat} {e : Ex} {n1 n2 : Str} {p1 p2 q p : Pos} {kk : Nat} {E : Expr} (hn1 : n1 = ns x) (hn2 : n2 = ns y) (hk1 : kd n1 = some .local) (hk2 : kd n2 = some .local) (hE : IsE c.fnm ns kd e E)
    (hs : swSole kd [.Tuple [.Name n1 p1, .Name n2 p2] kk q] E p.line) (hw : swStores kd [.Tuple [.Name n1 p1, .Name n2 p2] kk q] E none)
    (X : Sit c lk kd ns ev l T s sh.heap m) (o : AOk (n + 1) A) (r : stepS (evs c.tbl n) lk (.unp x y e) l s = some (f, l', s')) (k : K2 c ev lk kd ns T s sh f l' s' Q) :
    wpAny (model c.prog c.w) A (exec (.Assign [.Tuple [.Name n1 p1, .Name n2 p2] kk q] E p) ev) Q Er sh := by
  simp only [stepS] at r
  split at r
  · rename_i u v s1 r1
    cases r
    refine wpAny_Assign_stores (H.use hE X o.pred r1 fun T1 h1 t1 w X1 P1 vw => ?_) (hs ev X.st) (hw ev X.st)
    show wpAny _ A (assign (.Tuple [.Name n1 p1, .Name n2 p2] kk q) ev w) (fun _ => Q .next) Er { sh with heap := h1, toks := t1 }
    exact (tgt2 (c := c) (kd := kd) hn1 hn2 hk1 hk2).asg (sh := { sh with heap := h1, toks := t1 }) o.1 X1 vw rfl fun h2 m2 t2 X2 P2 => k T1 h2 t2 m2 .next X2 ((P1.trans P2).own12 X2) rfl
  · cases r

theorem s_ite (H : SE c n) (HS : SS c n) (ha : Apart ev) {t : Te} {a b : List St} {Tt : Expr} {B1 B2 : List Stmt} {p : Pos} (ht : IsT c.fnm ns kd t Tt) (h1 : IsSs c.fnm ns kd a B1) (h2 : IsSs c.fnm ns kd b B2)
    (X : Sit c lk kd ns ev l T s sh.heap m) (o : AOk (n + 1) A) (r : stepS (evs c.tbl n) lk (.ite t a b) l s = some (f, l', s')) (k : K2 c ev lk kd ns T s sh f l' s' Q) : wpAny (model c.prog c.w) A (exec (.If Tt B1 B2 p) ev) Q Er sh := by
  simp only [stepS] at r
  split at r
  · rename_i s1 rt
    refine wpAny_If (t_test H ht _ X o.pred rt fun T1 h1' t1 X1 P1 => ?_)
    exact HS lk kd ns a B1 ev l s1 f l' s' T1 { sh with heap := h1', toks := t1 } m A Q Er h1 ha X1 o.pred r fun T2 h2 t2 m2 fl X2 P2 hf => k T2 h2 t2 m2 fl X2 ((P1.own12 X1).trans P2) hf
  · rename_i s1 rt
    refine wpAny_If (t_test H ht _ X o.pred rt fun T1 h1' t1 X1 P1 => ?_)
    exact HS lk kd ns b B2 ev l s1 f l' s' T1 { sh with heap := h1', toks := t1 } m A Q Er h2 ha X1 o.pred r fun T2 h2 t2 m2 fl X2 P2 hf => k T2 h2 t2 m2 fl X2 ((P1.own12 X1).trans P2) hf
  · cases r
end
end Mine
/-! STATEMENTS: lists that change. -/
namespace Mine
open PySem PySem.Spec PySem.Calls PyProof.Rows PyProof.V PySem.W

section
variable {c : Ctx} {n : Nat} {lk lk' : List Nat} {kd : Kd} {ns : Nat → Str} {ev : Env} {l l' : Loc} {T T' : Nat → Addr} {s s' s1 s2 : S} {sh s₂ : Shared} {m m' : Str → Option Value} {A : Around} {Q : Flow → Shared → Prop} {Er : Value → Shared → Prop} {vs : List V} {v : V} {h h' : Heap} {f : Fl}

theorem Sit.plainList (X : Sit c lk kd ns ev l T s h m) {k : Nat} {vs : List V} (g : gets s.h k = some vs) (hlk : memN lk k = false) : ∃ ws, PlainL h (T k) ws.toArray ∧ VRs T s.n h vs ws := by
  have hk := X.inv.dom k vs g
  obtain ⟨ws, ⟨o, ho, hc, q, hd⟩, hv⟩ := X.list g
  obtain ⟨o', ho', hdn⟩ := X.inv.plain k hk hlk
  rw [ho] at ho'; cases ho'
  exact ⟨ws, ⟨o, q, ho, hc, hdn, hd⟩, hv⟩

theorem Sit.changed (X : Sit c lk kd ns ev l T s h m) {k : Nat} (hk : k < s.n) (hlk : memN lk k = false) {us : List V} {ws : List Value} (hs : Heap.SameBut (T k) h h') (hL : PlainL h' (T k) ws.toArray) (hv : VRs T s.n h us ws) :
    Sit c lk kd ns ev l T (s.set k us) h' m ∧ Post c.h₀ (own2 ev) lk T s h T (s.set k us) h' := by
  have P := Post.change X.inv X.ns2 hk hlk hs hL hv
  refine ⟨⟨P.inv, ⟨?_, ?_, ?_, ?_⟩, X.st, X.nso, X.loc0, X.cell0⟩, P⟩
  · have hne : ev.locals ≠ T k := Ne.symm (X.inv.notNs X.env.tab hk)
    obtain ⟨o, es, ep, ho, r⟩ := X.env.tab
    exact ⟨o, es, ep, (hs.2 _ hne).trans ho, r⟩
  · intro p hp
    obtain ⟨w, hc⟩ := X.env.cells p hp
    have hne : p.2 ≠ T k := Ne.symm (X.inv.notCell hc hk)
    obtain ⟨o, ho, r⟩ := hc
    exact ⟨w, o, (hs.2 _ hne).trans ho, r⟩
  · intro x w e q
    obtain ⟨w', h1, h2⟩ := X.env.loc x w e q
    exact ⟨w', h1, P.vr X.inv X.ns2 h2⟩
  · intro x w e q
    obtain ⟨a, w', h1, hc, h3⟩ := X.env.cel x w e q
    have hne : a ≠ T k := Ne.symm (X.inv.notCell hc hk)
    obtain ⟨o, ho, r⟩ := hc
    exact ⟨a, w', h1, ⟨o, (hs.2 _ hne).trans ho, r⟩, P.vr X.inv X.ns2 h3⟩

theorem s_put (H : SE c n) {a i e : Ex} {B1 I W : Expr} {q p : Pos} (g1 : IsE c.fnm ns kd a B1) (g2 : IsE c.fnm ns kd i I) (g3 : IsE c.fnm ns kd e W) (hs : sw kd W (some (.Subscript B1 I q)) p.line false)
    (X : Sit c lk kd ns ev l T s sh.heap m) (o : AOk (n + 1) A) (r : stepS (evs c.tbl n) lk (.put a i e) l s = some (f, l', s')) (k : K2 c ev lk kd ns T s sh f l' s' Q) : wpAny (model c.prog c.w) A (exec (.Assign [.Subscript B1 I q] W p) ev) Q Er sh := by
  simp only [stepS] at r
  split at r
  · rename_i u s1 r1
    split at r
    · rename_i kk s2 r2
      split at r
      · rename_i nn s3 r3
        split at r
        · cases r
        · rename_i hlk
          split at r
          · rename_i us g
            split at r
            · rename_i hsh
              split at r
              · rename_i hb
                cases r
                refine wpAny_Assign_Subscript (H.use g3 X o.pred r1 fun T1 h1 t1 w X1 P1 v1 => H.use (sh := { sh with heap := h1, toks := t1 }) g1 X1 o.pred r2 fun T2 h2 t2 y X2 P2 v2 => H.use (sh := { sh with heap := h2, toks := t2 }) g2 X2 o.pred r3 fun T3 h3 t3 z X3 P3 v3 => ?_) (hs ev X.st)
                obtain ⟨hkl, rfl⟩ := v2
                obtain ⟨t, rfl⟩ := v3
                have g' := g
                obtain ⟨ws, hL, hv⟩ := X3.plainList g hlk
                have hk3 := X3.inv.dom kk us g
                have e1 := hv.length
                have hn : nn < ws.length := by rw [e1]; exact Nat.le_of_ble_eq_true hb
                have hle := short_le hsh
                have hw := P3.vr X2.inv X2.ns1 (P2.vr X1.inv X1.ns1 v1)
                have eT : T2 kk = T3 kk := (P3.agree kk hkl).symm
                rw [eT]
                refine set_plain (s := { sh with heap := h3, toks := t3 }) (j := nn) rfl hL (by simpa using hn) (by show ws.length ≤ 512; rw [e1]; exact hle) fun h4 hL4 hs4 => ?_
                have e4 : (ws.toArray.setIfInBounds nn w) = (ws.set nn w).toArray := by simp
                rw [e4] at hL4
                have G := X3.changed hk3 hlk hs4 hL4 (hv.set nn hw)
                exact k T3 h4 t3 m .next G.1 ((((P1.trans P2).trans P3).own12 X3).trans G.2) rfl
              · cases r
            · cases r
          · cases r
      · cases r
    · cases r
  · cases r
theorem s_app (H : SE c n) {a e : Ex} {B1 W : Expr} {apos pos p : Pos} (g1 : IsE c.fnm ns kd a B1) (g2 : IsE c.fnm ns kd e W) (w1 : one W) (hb : ∀ ev : Env, attributeBase B1 "append" ev (eval B1 ev) = eval B1 ev) (hl : (apos.endLine == pos.line) = true)
    (X : Sit c lk kd ns ev l T s sh.heap m) (o : AOk (n + 1) A) (r : stepS (evs c.tbl n) lk (.app a e) l s = some (f, l', s')) (k : K2 c ev lk kd ns T s sh f l' s' Q) : wpAny (model c.prog c.w) A (exec (.Expr (.Call (.Attribute B1 "append" apos) [W] [] pos) p) ev) Q Er sh := by
  simp only [stepS] at r
  split at r
  · rename_i kk s1 r1
    split at r
    · rename_i u s2 r2
      split at r
      · cases r
      · rename_i hlk
        split at r
        · rename_i us g
          split at r
          · rename_i hsh
            cases r
            refine wpAny_Expr ?_ (by unfold interactive; rw [X.st.kind]; rfl) rfl
            have hargs : backTo pos (starEach [W] ev) = [(false, eval W ev)] := w1.args pos ev
            refine wpAny_Call_append (hb ev) (by rw [hargs]; rfl) hl hargs (H.use g1 X o.pred r1 fun T1 h1 t1 y X1 P1 v1 => ?_)
            obtain ⟨hk1, rfl⟩ := v1
            obtain ⟨us1, ws1, _, ⟨ob, hob, hc, q, hd⟩, _⟩ := X1.inv.lst kk hk1
            obtain ⟨ob', hob', hdn⟩ := X1.inv.plain kk hk1 hlk
            rw [hob] at hob'; cases hob'
            refine ⟨T1 kk, _, rfl, ⟨ob, q, hob, hc, hdn, hd⟩, H.use (sh := { sh with heap := h1, toks := t1 }) g2 X1 o.pred r2 fun T2 h2 t2 z X2 P2 v2 => ?_⟩
            obtain ⟨ws, hL, hv⟩ := X2.plainList g hlk
            have hk2 := X2.inv.dom kk us g
            have e1 := hv.length
            have hle := short_le hsh
            have eT : T1 kk = T2 kk := (P2.agree kk hk1).symm
            rw [eT]
            refine list_append_plainL (s := { sh with heap := h2, toks := t2 }) hL (fun h4 hL4 hs4 => ?_) (by show ws.length ≤ 2 ^ 24; rw [e1]; exact Nat.le_trans hle (by decide))
            have e4 : (ws.toArray.push z) = (ws ++ [z]).toArray := by simp
            rw [e4] at hL4
            have G := X2.changed hk2 hlk hs4 hL4 (hv.append (us := [u]) ⟨z, [], rfl, v2, rfl⟩)
            exact k T2 h4 t2 m .next G.1 (((P1.trans P2).own12 X2).trans G.2) rfl
          · cases r
        · cases r
    · cases r
  · cases r
end
end Mine
/-! LOOPS, blocks. -/
namespace Mine
open PySem PySem.Spec PySem.Calls PyProof.Rows PyProof.V PySem.W

def ForJ (c : Ctx) (n : Nat) (lk' : List Nat) (kd : Kd) (ns : Nat → Str) (ev : Env) (sh : Shared) (T1 : Nat → Addr) (s1 : S) (h1 : Heap) (Sti : Nat → Heap → Prop) (wr : List Addr) (bb : V → Loc → Option Loc) (b : List St) (vs : List V) (ff : Fl) (l' : Loc) (sE : S)
    (q : Nat) (s' : Shared) : Prop := ∃ (i : Nat) (li : Loc) (si : S) (Ti : Nat → Addr) (hi : Heap) (tki : Nat) (mi : Str → Option Value),
      s' = { sh with heap := hi, toks := tki } ∧ q = vs.length - i ∧ i ≤ vs.length ∧ Sti i hi ∧ Post c.h₀ (own2 ev) lk' T1 s1 h1 Ti si hi ∧ Sit c lk' kd ns ev li Ti si hi mi ∧
      (∀ b ∈ wr, ∀ k, k < si.n → Ti k ≠ b) ∧ loopF (evs c.tbl n) bb lk' b (vs.drop i) li si = some (ff, l', sE)
section
variable {c : Ctx} {n : Nat} {lk lk' : List Nat} {kd : Kd} {ns : Nat → Str} {ev : Env} {l l' : Loc} {T T' : Nat → Addr} {s s' s1 s2 : S} {sh s₂ : Shared} {m m' : Str → Option Value} {A : Around} {Q : Flow → Shared → Prop} {Er : Value → Shared → Prop} {vs : List V} {v : V} {h h' : Heap} {f : Fl}

theorem s_whl (H : SE c n) (HS : SS c n) (ha : Apart ev) {t : Te} {b : List St} {Tt : Expr} {B : List Stmt} {p : Pos} (ht : IsT c.fnm ns kd t Tt) (hb : IsSs c.fnm ns kd b B)
    (X : Sit c lk kd ns ev l T s sh.heap m) (o : AOk (n + 1) A) (r : stepS (evs c.tbl n) lk (.whl t b) l s = some (f, l', s')) (k : K2 c ev lk kd ns T s sh f l' s' Q) : wpAny (model c.prog c.w) A (exec (.While Tt B [] p) ev) Q Er sh := by
  simp only [stepS] at r
  refine wpAny_While ?_
  refine codeAny_whileLoop (fun q s₁ => ∃ (li : Loc) (si : S) (Ti : Nat → Addr) (hi : Heap) (tki : Nat) (mi : Str → Option Value), s₁ = { sh with heap := hi, toks := tki } ∧ Sit c lk kd ns ev li Ti si hi mi ∧ Post c.h₀ (own2 ev) lk T s sh.heap Ti si hi ∧ loopW (evs c.tbl n) lk t b q li si = some (f, l', s'))
    ?_ 64 ⟨l, s, T, sh.heap, sh.toks, m, rfl, X, X.refl2, r⟩
  intro q s₁ hJ
  refine Classical.byContradiction fun hG => ?_
  obtain ⟨li, si, Ti, hi, tki, mi, rfl, Xi, Pi, ri⟩ := hJ
  refine hG ?_
  cases q with
  | zero => cases ri
  | succ q =>
    simp only [loopW] at ri
    split at ri
    · rename_i s1 rt
      split at ri
      · rename_i l1 s2 rb
        refine t_test (sh := { sh with heap := hi, toks := tki }) H ht _ Xi o.pred rt fun T1 h1 t1 X1 P1 => ?_
        refine HS lk kd ns b B ev li s1 .nxt l1 s2 T1 { sh with heap := h1, toks := t1 } mi A _ _ hb ha X1 o.pred rb fun T2 h2 t2 m2 fl X2 P2 hf => ?_
        cases hf
        exact ⟨q, Nat.lt_succ_self _, l1, s2, T2, h2, t2, m2, rfl, X2, (Pi.trans (P1.own12 X1)).trans P2, ri⟩
      · rename_i v l1 s2 rb
        cases ri
        refine t_test (sh := { sh with heap := hi, toks := tki }) H ht _ Xi o.pred rt fun T1 h1 t1 X1 P1 => ?_
        refine HS lk kd ns b B ev li s1 (.ret v) l' s' T1 { sh with heap := h1, toks := t1 } mi A _ _ hb ha X1 o.pred rb fun T2 h2 t2 m2 fl X2 P2 hf => ?_
        obtain ⟨w, rfl, hw⟩ := hf
        exact k T2 h2 t2 m2 (.ret w) X2 ((Pi.trans (P1.own12 X1)).trans P2) ⟨w, rfl, hw⟩
      · cases ri
    · rename_i s1 rt
      cases ri
      refine t_test (sh := { sh with heap := hi, toks := tki }) H ht _ Xi o.pred rt fun T1 h1 t1 X1 P1 => ?_
      exact wpAny_execs_nil (k T1 h1 t1 mi .next X1 (Pi.trans (P1.own12 X1)) rfl)
    · cases ri

theorem for_core (HS : SS c n) (ha : Apart ev) {b : List St} {B : List Stmt} {tgt : Expr} {xs : List Nat} {bb : V → Loc → Option Loc} {it : Value} {ff : Fl} {sE : S} (ht : Tgt c kd ns xs bb tgt) (hbody : IsSs c.fnm ns kd b B)
    (o : AOk (n + 1) A) (Z : Iterd c A tgt ev lk kd ns l T s sh m vs lk' s1 it s₂) (r : loopF (evs c.tbl n) bb lk' b vs l s1 = some (ff, l', sE)) (k : K2 c ev lk kd ns T s sh ff l' sE Q) :
    codeAny (model c.prog c.w) A (.forLoop tgt it B [] ev) (fun r s' => match r with | .ok f => Q f s' | .error e => cameBackBy (model c.prog c.w) A ev Er e s') s₂ := by
  refine Classical.byContradiction fun hG => ?_
  obtain ⟨⟨T1, h1, h2, tk, I, fp, wr, P, St, base, ws, rfl, rfl, W, hst, X1, P1, hk12, hwr, hfp, hbase, hitems⟩, hlk1, hlk2, hshort⟩ := Z
  refine hG ?_
  have X1' := X1.more hlk1
  have G := X1'.grown hk12
  have S0 := X1'.next G.1 G.2
  have P0 := G.1.own12 S0
  have noneB : ∀ {a}, h1.get? a = none → c.h₀.get? a = none := fun {a} q => by
    cases e : c.h₀.get? a with
    | none => rfl
    | some ob => rw [X1.inv.base _ _ e] at q; cases q
  have nL : ∀ {a}, h1.get? a = none → a ≠ ev.locals := fun {a} q e => by
    obtain ⟨ob, _, _, ho, _⟩ := X1.env.tab
    rw [e, ho] at q; cases q
  have nCell : ∀ {a}, h1.get? a = none → ∀ p ∈ ev.cells, p.2 ≠ a := fun {a} q p hp e => by
    obtain ⟨_, ob, ho, _⟩ := X1.env.cells p hp
    rw [e, q] at ho; cases ho
  have nT1 : ∀ {a}, h1.get? a = none → ∀ k, k < s1.n → T1 k ≠ a := fun {a} q k hk e => by
    obtain ⟨_, _, _, ⟨ob, ho, _⟩, _⟩ := X1.inv.lst k hk
    rw [e, q] at ho; cases ho
  have nOwn : ∀ {a}, h1.get? a = none → ¬ own2 ev a := fun {a} q w => by
    rcases w with w | ⟨p, hp, w⟩
    · exact nL q w
    · exact nCell q p hp w
  -- the end, whichever
  have fin : ∀ {Ti si hi tki mi li fl}, Sit c lk' kd ns ev li Ti si hi mi → Post c.h₀ (own2 ev) lk' T1 s1 h1 Ti si hi → FlR Ti si.n hi ff fl → l' = li → sE = si → Q fl { sh with heap := hi, toks := tki } := by
    intro Ti si hi tki mi li fl Xi Pi hf e1 e2
    subst e1 e2
    have Pu := Pi.unlock X1.inv hlk1 hlk2
    exact k Ti hi tki mi fl ⟨Pu.inv, Xi.env, Xi.st, Xi.nso, Xi.loc0, Xi.cell0⟩ ((P1.own12 X1).trans Pu) hf
  refine codeAny_forLoop_any (ForJ c n lk' kd ns ev sh T1 s1 h1 St wr bb b vs ff l' sE)
      ?_ vs.length ⟨0, l, s1, T1, h2, tk, m, rfl, rfl, Nat.zero_le _, hst, P0, S0, fun b hb => nT1 (hwr b hb), r⟩
  intro q s₁ hJ
  refine Classical.byContradiction fun hG => ?_
  obtain ⟨i, li, si, Ti, hi, tki, mi, rfl, rfl, hile, hsti, Pi, Si, hwT, hr⟩ := hJ
  refine hG ?_
  have wrU : ∀ a, a ∈ wr → ∀ us, ¬ IsTup hi a us := fun a ha us ⟨ob, ho, _, kk, hd⟩ => by
    obtain ⟨ob', ho', hn'⟩ := W.nos i hi hsti a ha
    rw [ho] at ho'; cases ho'
    exact hn' _ _ hd
  have drawn : ∀ {h3 : Heap}, (∀ b o, b ∉ wr → hi.get? b = some o → h3.get? b = some o) → Sit c lk' kd ns ev li Ti si h3 mi ∧ Post c.h₀ (own2 ev) lk' T1 s1 h1 Ti si h3 := by
    intro h3 hk3
    have S3 : Sit c lk' kd ns ev li Ti si h3 mi := Si.skip (wr := fun a => a ∈ wr) (fun a ob ha e => hk3 a ob ha e) hwT wrU (fun q => nL (hwr _ q) rfl) (fun p hp q => nCell (hwr _ q) p hp rfl) fun a ha => noneB (hwr a ha)
    exact ⟨S3, Pi.skip (wr := fun a => a ∈ wr) X1'.inv (fun a ha => hwr a ha) hwT wrU (fun a ob ha e => hk3 a ob ha e) S3.ns2⟩
  by_cases hlt : i < vs.length
  · have hdrop : vs.drop i = vs[i] :: vs.drop (i + 1) := List.drop_eq_getElem_cons hlt
    rw [hdrop] at hr
    simp only [loopF] at hr
    split at hr
    · rename_i l1 hb1
      refine wpAny_mono (W.item i { sh with heap := hi, toks := tki } (fun v s₁' => wpAny (model c.prog c.w) A (assign tgt ev v) (fun _ s₂ => wpAny (model c.prog c.w) A (execs B ev) (fun f s₃ => match f with
            | .next | .cont => ∃ m, m < vs.length - i ∧ ForJ c n lk' kd ns ev sh T1 s1 h1 St wr bb b vs ff l' sE m s₃
            | .brk => Q .next s₃
            | .ret v => Q (.ret v) s₃) (notedBy (model c.prog c.w) A ev fun e s' => cameBackBy (model c.prog c.w) A ev Er e s') s₂) (notedBy (model c.prog c.w) A ev fun e s' => cameBackBy (model c.prog c.w) A ev Er e s') s₁') _ hlt hsti fun v h3 t3 hP hst3 hk3 => ?_) (fun r s₁ hr => ?_) fun _ _ e => e
      · obtain ⟨S3, P3⟩ := drawn hk3
        have hv3 : VR Ti si.n h3 vs[i] v := hitems i v vs[i] Ti si.n h3 (P3.vrs X1'.inv X1'.ns2 hbase) hP (List.getElem?_eq_getElem hlt)
        refine ht.asg (sh := { sh with heap := h3, toks := t3 }) o.1 S3 hv3 hb1 fun h4 m4 t4 S4 P4 => ?_
        have P34 := P3.trans (P4.own12 S4)
        split at hr
        · rename_i l2 si2 rb
          refine HS lk' kd ns b B ev l1 si .nxt l2 si2 Ti { sh with heap := h4, toks := t4 } m4 A _ _ hbody ha S4 o.pred rb fun T5 h5 t5 m5 fl X5 P5 hf => ?_
          cases hf
          have hwT5 : ∀ b ∈ wr, ∀ k, k < si2.n → T5 k ≠ b := fun b hb k hk q => by
            by_cases hks : k < si.n
            · rw [P5.agree k hks] at q; exact hwT b hb k hks q
            · have hnew := P5.new k (Nat.le_of_not_lt hks) hk
              obtain ⟨ob, ho, _⟩ := W.nos (i + 1) h3 hst3 b hb
              have ho4 := P4.ext b ob ho (fun q => nL (hwr b hb) q) (hwT b hb)
              rw [q, ho4] at hnew; cases hnew
          refine ⟨vs.length - (i + 1), Nat.sub_lt_sub_left hlt (Nat.lt_succ_self i), i + 1, l2, si2, T5, h5, t5, m5, rfl, rfl, hlt, ?_, P34.trans P5, X5, hwT5, hr⟩
          refine W.frame _ _ _ hst3 fun b hb ob e => ?_
          rcases hfp b hb with q | ⟨kk, hk1, hkl, rfl⟩
          · have e4 := P4.ext b ob e (fun q' => nL (hwr b q) q') (hwT b q)
            exact P5.ext b ob e4 (nOwn (hwr b q)) (hwT b q)
          · have hks : kk < si.n := Nat.lt_of_lt_of_le hk1 Pi.le
            have ag : Ti kk = T1 kk := Pi.agree kk hk1
            have e4 : h4.get? (Ti kk) = some ob := P4.lockh kk ob hkl hks (by rw [ag]; exact e)
            have e5 := P5.lockh kk ob hkl hks e4
            rw [ag] at e5
            exact e5
        · rename_i vv l2 si2 rb
          cases hr
          refine HS lk' kd ns b B ev l1 si (.ret vv) l' sE Ti { sh with heap := h4, toks := t4 } m4 A _ _ hbody ha S4 o.pred rb fun T5 h5 t5 m5 fl X5 P5 hf => ?_
          have hq := fin (tki := t5) X5 (P34.trans P5) hf rfl rfl
          obtain ⟨w, rfl, hw⟩ := hf
          exact hq
        · cases hr
      · cases r with
        | none => exact hr.elim
        | some v => exact hr
    · cases hr
  · have hin : i = vs.length := Nat.le_antisymm hile (Nat.le_of_not_lt hlt)
    subst hin
    have hnil : vs.drop vs.length = [] := List.drop_length
    rw [hnil] at hr
    simp only [loopF] at hr
    cases hr
    refine wpAny_mono (W.done { sh with heap := hi, toks := tki } (fun s₁ => Q .next s₁) _ hsti fun h3 t3 hk3 => ?_) (fun r s₁ hr => ?_) fun _ _ e => e
    · obtain ⟨S3, P3⟩ := drawn hk3
      exact fin S3 P3 rfl rfl rfl
    · cases r with
      | none => exact wpAny_execs_nil hr
      | some v => exact hr.elim
end
end Mine
/-! STATEMENTS, whole; blocks. -/
namespace Mine
open PySem PySem.Spec PySem.Calls PyProof.Rows PyProof.V PySem.W

section
variable {c : Ctx} {n : Nat} {lk lk' : List Nat} {kd : Kd} {ns : Nat → Str} {ev : Env} {l l' : Loc} {T T' : Nat → Addr} {s s' s1 s2 : S} {sh s₂ : Shared} {m m' : Str → Option Value} {A : Around} {Q : Flow → Shared → Prop} {Er : Value → Shared → Prop} {vs : List V} {v : V} {h h' : Heap} {f : Fl}

theorem s_for1 (C : c.Ok) (H : SE c n) (HS : SS c n) (ha : Apart ev) {x : Nat} {it : It} {b : List St} {nm : Str} {p1 p : Pos} {I : Expr} {B : List Stmt} (hnm : nm = ns x) (hnot : ∀ a, it ≠ .enm a) (hk : kd nm = some .local) (hI : IsI c.fnm ns kd it I) (hf : foldOk I) (hb : IsSs c.fnm ns kd b B)
    (X : Sit c lk kd ns ev l T s sh.heap m) (o : AOk (n + 1) A) (r : stepS (evs c.tbl n) lk (.for1 x it b) l s = some (f, l', s')) (k : K2 c ev lk kd ns T s sh f l' s' Q) : wpAny (model c.prog c.w) A (exec (.For (.Name nm p1) I B [] p) ev) Q Er sh := by
  simp only [stepS] at r
  split at r
  · rename_i vs lk' s1 ri
    refine wpAny_For (wpAny_mono (i_iter1 (Er := Er) (nm := nm) (p := p1) C H hI hnot X o ri) (fun y s₁ h₁ => wpAny_mono h₁ (fun itv s₂ Z => ?_) fun _ _ e => e) fun _ _ e => e) (hf ev)
    exact for_core HS ha (tgt1 hnm hk) hb o Z r k
  · cases r
theorem s_for2 (C : c.Ok) (H : SE c n) (HS : SS c n) (ha : Apart ev) {x y : Nat} {a : Ex} {b : List St} {n1 n2 : Str} {p1 p2 q p : Pos} {kk : Nat} {I : Expr} {B : List Stmt} (hn1 : n1 = ns x) (hn2 : n2 = ns y) (hk1 : kd n1 = some .local) (hk2 : kd n2 = some .local) (hI : IsI c.fnm ns kd (.enm a) I) (hf : foldOk I) (hb : IsSs c.fnm ns kd b B)
    (X : Sit c lk kd ns ev l T s sh.heap m) (o : AOk (n + 1) A) (r : stepS (evs c.tbl n) lk (.for2 x y (.enm a) b) l s = some (f, l', s')) (k : K2 c ev lk kd ns T s sh f l' s' Q) : wpAny (model c.prog c.w) A (exec (.For (.Tuple [.Name n1 p1, .Name n2 p2] kk q) I B [] p) ev) Q Er sh := by
  simp only [stepS] at r
  split at r
  · rename_i vs lk' s1 ri
    refine wpAny_For (wpAny_mono (i_iter2 (Er := Er) (elts := [.Name n1 p1, .Name n2 p2]) (k := kk) (p := q) C H hI X o ri) (fun yv s₁ h₁ => wpAny_mono h₁ (fun itv s₂ Z => ?_) fun _ _ e => e) fun _ _ e => e) (hf ev)
    exact for_core HS ha (tgt2 hn1 hn2 hk1 hk2) hb o Z r k
  · cases r

theorem e_zero {e : Ex} : (evs c.tbl 0).e lk e l s = none := rfl

/-- one statement -/
theorem s_one (C : c.Ok) (H : SE c n) (HS : SS c n) (Hp : ∀ k, n = k + 1 → SE c k) {t : St} {B : Stmt} (h : IsS c.fnm ns kd t B) (ha : Apart ev) (X : Sit c lk kd ns ev l T s sh.heap m) (o : AOk (n + 1) A) (r : stepS (evs c.tbl n) lk t l s = some (f, l', s')) (k : K2 c ev lk kd ns T s sh f l' s' Q) :
    wpAny (model c.prog c.w) A (exec B ev) Q Er sh := by
  cases h with
  | asg h1 h2 h3 h4 => exact s_asg H ha h1 h2 h3 h4 X o r k
  | asgc2 h1 h2 h3 h3' h4 h5 h6 h7 h8 =>
    cases n with
    | zero => simp only [stepS, e_zero] at r; cases r
    | succ n => exact s_asgc2 C (Hp n rfl) h1 h2 h3 h3' h4 h5 h6 h7 h8 X o r k
  | asg2 h1 h2 h3 h4 h5 h6 h7 h8 h9 => exact s_asg2 H h1 h2 h3 h4 h5 h6 h7 h8 h9 X o r k
  | unp h1 h2 h3 h4 h5 h6 h7 => exact s_unp H h1 h2 h3 h4 h5 h6 h7 X o r k
  | augsub h1 h2 h3 => exact s_augsub H h1 h2 h3 X o r k
  | put h1 h2 h3 h4 => exact s_put H h1 h2 h3 h4 X o r k
  | app h1 h2 h3 h4 h5 => exact s_app H h1 h2 h3 h4 h5 X o r k
  | ite h1 h2 h3 => exact s_ite H HS ha h1 h2 h3 X o r k
  | whl h1 h2 => exact s_whl H HS ha h1 h2 X o r k
  | for1 h1 h0 h2 h3 h4 h5 => exact s_for1 C H HS ha h1 h0 h2 h3 h4 h5 X o r k
  | for2 h1 h2 h3 h4 h5 h6 h7 => exact s_for2 C H HS ha h1 h2 h3 h4 h5 h6 h7 X o r k
  | ret h1 => exact s_ret H h1 X o r k
  | raise => cases r

theorem ss_step (C : c.Ok) (H : SE c n) (HS : SS c n) (Hp : ∀ k, n = k + 1 → SE c k) : SS c (n + 1) := by
  intro lk kd ns b B ev l s f l' s' T sh m A Q Er hb ha X o r k
  have r' : stepSs (evs c.tbl n) lk b l s = some (f, l', s') := r
  clear r
  induction b generalizing B l s T sh m Q with
  | nil =>
    cases hb
    cases r'
    exact wpAny_execs_nil (k T sh.heap sh.toks m .next X X.refl2 rfl)
  | cons t b ih =>
    cases hb with
    | cons h1 h2 =>
      simp only [stepSs] at r'
      split at r'
      · rename_i l1 s1 r1
        refine wpAny_execs_cons (s_one C H HS Hp h1 ha X o r1 fun T1 h1 t1 m1 fl X1 P1 hf => ?_)
        cases hf
        exact ih _ l1 s1 T1 { sh with heap := h1, toks := t1 } m1 _ h2 X1 (fun T2 h2 t2 m2 fl X2 P2 hf => k T2 h2 t2 m2 fl X2 (P1.trans P2) hf) r'
      · rename_i v l1 s1 r1
        cases r'
        refine wpAny_execs_cons (s_one C H HS Hp h1 ha X o r1 fun T1 h1 t1 m1 fl X1 P1 hf => ?_)
        have hf' := hf
        obtain ⟨w, rfl, hw⟩ := hf
        exact k T1 h1 t1 m1 (.ret w) X1 P1 hf'
      · cases r'
end
end Mine
/-! CALLS; all of the machine's runs are the interpreter's. -/
namespace Mine
open PySem PySem.Spec PySem.Calls PyProof.Rows PyProof.V PySem.W

theorem lookup_of_nodup {α β : Type} [BEq α] [LawfulBEq α] : ∀ {l : List (α × β)} {a : α} {b : β}, (l.map (·.1)).Nodup → (a, b) ∈ l → l.lookup a = some b
  | (k, v) :: r, a, b, hn, hm => by
    rw [List.map_cons, List.nodup_cons] at hn
    rw [List.lookup_cons]
    rcases List.mem_cons.mp hm with e | hm
    · cases e; simp
    · have hne : a ≠ k := fun e => hn.1 (e ▸ List.mem_map.mpr ⟨(a, b), hm, rfl⟩)
      have : (a == k) = false := by simp [hne]
      rw [this]
      exact lookup_of_nodup hn.2 hm
theorem cellsFrom_nodup : ∀ (names : List (Str × NameKind)) (k : Nat) (acc : List (Str × Addr)), (names.map (·.1) ++ acc.map (·.1)).Nodup → ((cellsFrom k names acc).map (·.1)).Nodup
  | [], _, _, h => by simpa [cellsFrom] using h
  | (nm, kind) :: r, k, acc, h => by
    unfold cellsFrom
    split
    · refine cellsFrom_nodup r (k + 1) _ ?_
      rw [List.map_cons]
      exact (List.perm_middle.nodup_iff).mpr h
    · rw [List.map_cons, List.cons_append, List.nodup_cons] at h
      exact cellsFrom_nodup r k acc h.2
theorem cellsFrom_mem : ∀ (names : List (Str × NameKind)) (k : Nat) (acc : List (Str × Addr)) (z : Str), ((z, NameKind.cell) ∈ names ∨ ∃ a, (z, a) ∈ acc) → ∃ a, (z, a) ∈ cellsFrom k names acc
  | [], _, _, z, h => by
    rcases h with h | h
    · exact nomatch h
    · exact h
  | (nm, kind) :: r, k, acc, z, h => by
    unfold cellsFrom
    split
    · refine cellsFrom_mem r (k + 1) _ z ?_
      rcases h with h | ⟨a, h⟩
      · rcases List.mem_cons.mp h with e | h
        · cases e; exact Or.inr ⟨k, List.mem_cons_self ..⟩
        · exact Or.inl h
      · exact Or.inr ⟨a, List.mem_cons_of_mem _ h⟩
    · rename_i hk
      refine cellsFrom_mem r k acc z ?_
      rcases h with h | h
      · rcases List.mem_cons.mp h with e | h
        · cases e; exact absurd rfl hk
        · exact Or.inl h
      · exact Or.inr h

section
variable {c : Ctx} {n : Nat} {lk : List Nat} {ns : Nat → Str} {T : Nat → Addr} {N : Nat} {h : Heap} {ko : Str → Option NameKind}
theorem bindL_zip (hns : NsOk ns) : ∀ {ps : List Nat} {vs : List V} {ws : List Value} {l : Loc} (m : Str → Option Value), ps.Nodup → zipL ps vs = some l → VRs T N h vs ws → ∀ x v, gets l x = some v → ko (ns x) = some .local →
    ∃ w, bindL ko ((ps.map ns).zip ws) m (ns x) = some w ∧ VR T N h v w
  | [], [], ws, l, m, _, e, _, x, v, g, _ => by cases e; cases g
  | [], _ :: _, ws, l, m, _, e, _, _, _, _, _ => by cases e
  | _ :: _, [], ws, l, m, _, e, _, _, _, _, _ => by cases e
  | p :: ps, u :: vs, ws, l, m, hn, e, hv, x, v, g, hk => by
    obtain ⟨w, r, rfl, hu, hr⟩ := hv
    rw [List.nodup_cons] at hn
    simp only [zipL] at e
    split at e
    · rename_i l' e'
      cases e
      rw [gets_cons] at g
      show ∃ w', bindL ko ((ps.map ns).zip r) _ (ns x) = some w' ∧ _
      by_cases hxp : x = p
      · subst hxp
        rw [if_pos rfl] at g
        cases g
        rw [if_pos hk]
        refine ⟨w, ?_, hu⟩
        have : ∀ (qs : List Nat) (rs : List Value) (m : Str → Option Value), x ∉ qs → m (ns x) = some w → bindL ko ((qs.map ns).zip rs) m (ns x) = some w := by
          intro qs
          induction qs with
          | nil => intro rs m _ hm; exact hm
          | cons q qs ih =>
            intro rs m hq hm
            cases rs with
            | nil => exact hm
            | cons y rs =>
              show bindL ko ((qs.map ns).zip rs) _ (ns x) = some w
              refine ih rs _ (fun z => hq (List.mem_cons_of_mem _ z)) ?_
              split
              · show (if ns x = ns q then some y else m (ns x)) = some w
                rw [if_neg fun z => hq (by rw [hns.inj x q z]; exact List.mem_cons_self ..)]; exact hm
              · exact hm
        exact this ps r _ hn.1 (if_pos rfl)
      · rw [if_neg hxp] at g
        exact bindL_zip hns _ hn.2 e' hr x v g hk
    · cases e
theorem bindC_zip (hns : NsOk ns) : ∀ {ps : List Nat} {vs : List V} {ws : List Value} {l : Loc} (m : Str → Option Value), ps.Nodup → zipL ps vs = some l → VRs T N h vs ws → ∀ x v, gets l x = some v → ko (ns x) = some .cell →
    ∃ w, bindC ko ((ps.map ns).zip ws) m (ns x) = some w ∧ VR T N h v w
  | [], [], ws, l, m, _, e, _, x, v, g, _ => by cases e; cases g
  | [], _ :: _, ws, l, m, _, e, _, _, _, _, _ => by cases e
  | _ :: _, [], ws, l, m, _, e, _, _, _, _, _ => by cases e
  | p :: ps, u :: vs, ws, l, m, hn, e, hv, x, v, g, hk => by
    obtain ⟨w, r, rfl, hu, hr⟩ := hv
    rw [List.nodup_cons] at hn
    simp only [zipL] at e
    split at e
    · rename_i l' e'
      cases e
      rw [gets_cons] at g
      show ∃ w', bindC ko ((ps.map ns).zip r) _ (ns x) = some w' ∧ _
      by_cases hxp : x = p
      · subst hxp
        rw [if_pos rfl] at g
        cases g
        rw [if_neg (by rw [hk]; decide)]
        refine ⟨w, ?_, hu⟩
        have : ∀ (qs : List Nat) (rs : List Value) (m : Str → Option Value), x ∉ qs → m (ns x) = some w → bindC ko ((qs.map ns).zip rs) m (ns x) = some w := by
          intro qs
          induction qs with
          | nil => intro rs m _ hm; exact hm
          | cons q qs ih =>
            intro rs m hq hm
            cases rs with
            | nil => exact hm
            | cons y rs =>
              show bindC ko ((qs.map ns).zip rs) _ (ns x) = some w
              refine ih rs _ (fun z => hq (List.mem_cons_of_mem _ z)) ?_
              split
              · exact hm
              · show (if ns x = ns q then some y else m (ns x)) = some w
                rw [if_neg fun z => hq (by rw [hns.inj x q z]; exact List.mem_cons_self ..)]; exact hm
        exact this ps r _ hn.1 (if_pos rfl)
      · rw [if_neg hxp] at g
        exact bindC_zip hns _ hn.2 e' hr x v g hk
    · cases e
theorem zipL_length : ∀ {ps : List Nat} {vs : List V} {l : Loc}, zipL ps vs = some l → vs.length = ps.length
  | [], [], l, e => rfl
  | [], _ :: _, l, e => by cases e
  | _ :: _, [], l, e => by cases e
  | p :: ps, v :: vs, l, e => by
    simp only [zipL] at e
    split at e
    · rename_i l' e'
      simp [zipL_length e']
    · cases e
end

theorem sc_step {c : Ctx} {n : Nat} (C : c.Ok) (HS : SS c n) : SC c (n + 1) := by
  intro lk f a vs ws s v s' T sh A Q Er hm I hv o r k
  have r' : stepC c.tbl (evs c.tbl n) lk f vs s = some (v, s') := r
  unfold stepC at r'
  split at r'
  · rename_i ps b e
    obtain ⟨fa, fo, fd, stmts, ns, F⟩ := C.fn f ps b e
    split at r'
    · rename_i l hz
      split at r'
      · rename_i v' l2 s2 hb
        cases r'
        have hfa : fa = a := by have := F.at_; rw [hm] at this; cases this; rfl
        subst hfa
        have hlen : ws.length = ps.length := by rw [hv.length, zipL_length hz]
        have hnd : ((cellsFrom (sh.heap.objs.size + 1) fd.scope.names []).map (·.1)).Nodup := cellsFrom_nodup _ _ _ (by simpa using F.nd)
        have hcov : ∀ z, fd.scope.names.lookup z = some .cell → ∃ a, (cellsFrom (sh.heap.objs.size + 1) fd.scope.names []).lookup z = some a := fun z hz => by
          obtain ⟨a, ha⟩ := cellsFrom_mem fd.scope.names (sh.heap.objs.size + 1) [] z (Or.inl (lookup_mem hz))
          exact ⟨a, lookup_of_nodup hnd ha⟩
        refine wpAny_call (codeAny_call_cells (body := stmts) (Nat.lt_trans (by have := o.2.1; omega) (show 900 < recursionLimit by decide)) (I.base _ _ F.obj) F.data (C.nolimit.keeps I.base) (F.rec_.keeps I.base) F.body (F.bind ws hlen) F.clo ?_ ?_ F.co F.gen F.kind)
        · intro x hx
          obtain ⟨q, hq, eq⟩ := List.mem_map.mp (List.of_mem_zip (a := x.1) (b := x.2) hx).1
          rw [← eq]
          rcases F.pk q hq with h1 | h1
          · exact Or.inl h1
          · refine Or.inr ⟨h1, ?_⟩
            obtain ⟨a, ha⟩ := hcov _ h1
            rw [ha]; rfl
        · intro s₁ x
          generalize hev : callEnvC fd sh.heap.objs.size fa = ev at x
          have hL : ev.locals = sh.heap.objs.size := by rw [← hev]; rfl
          have hC : ev.cells = cellsFrom (sh.heap.objs.size + 1) fd.scope.names [] := by rw [← hev]; rfl
          have hSc : ev.scope = fd.scope := by rw [← hev]; rfl
          obtain ⟨h1, t1, rfl, hk⟩ := x.done
          have hns := x.toInCall.ns
          have P0 : Post c.h₀ (fun _ => False) lk T s sh.heap T s h1 := Post.keep I noseqF (fun _ _ _ q => q) noseqF (fun b ob e _ => hk b ob e) fun b ob e => ⟨ob, hk b ob e⟩
          have hnone : ∀ {b : Addr}, sh.heap.objs.size ≤ b → c.h₀.get? b = none := fun {b} hb => by
            cases e : c.h₀.get? b with
            | none => rfl
            | some ob => have := I.base _ _ e; rw [fresh_none hb] at this; cases this
          have hfresh : ∀ b, own2 ev b → sh.heap.objs.size ≤ b := fun b hb => by
            rcases hb with rfl | ⟨p, hp, rfl⟩
            · exact Nat.le_of_eq hL.symm
            · exact hL ▸ Nat.le_of_lt (x.above p.1 p.2 hp)
          have hv1 := P0.vrs I noseqF hv
          have hko : ∀ y, ev.kindOf y = fd.scope.names.lookup y := fun y => by rw [← hev]; rfl
          have X : Sit c lk (fun y => fd.scope.names.lookup y) ns ev l T s h1 (bindL ev.kindOf ((ps.map ns).zip ws) fun _ => none) := by
            refine ⟨P0.inv, ⟨hns, fun p hp => ⟨_, x.cell p.1 p.2 (lookup_of_nodup (hC ▸ hnd) hp)⟩, ?_, ?_⟩, ⟨by rw [hSc]; exact F.kind, hko, by rw [← hev]; exact F.glob, by rw [← hev]; exact F.bi, fun z hz => hC ▸ hcov z hz⟩, F.nso, hnone (Nat.le_of_eq hL.symm), fun p hp => hnone (hfresh _ (Or.inr ⟨p, hp, rfl⟩))⟩
            · intro y u g hy
              exact bindL_zip F.nso _ F.pnd hz hv1 y u g hy
            · intro y u g hy
              obtain ⟨w, h1, h2⟩ := bindC_zip (ko := ev.kindOf) F.nso (fun _ => none) F.pnd hz hv1 y u g hy
              obtain ⟨a, ha⟩ := hcov (ns y) ((hko _).symm.trans hy)
              rw [← hC] at ha
              exact ⟨a, w, ha, h1 ▸ x.cell _ _ ha, h2⟩
          have hap : Apart ev := fun y z a h1 h2 => name_of_addr x.apart (lookup_mem h1) (lookup_mem h2)
          refine HS lk _ ns b stmts ev l s (.ret v) _ s' T { sh with heap := h1, toks := t1 } _ (A.deeper ev) _ _ F.is hap X o.deeper hb fun T2 h2 t2 m2 fl X2 P2 hf => ?_
          obtain ⟨w, rfl, hw⟩ := hf
          exact k T2 h2 t2 w (P0.transN P2 (fun b ob hb e => absurd (Heap.lt_size e) (Nat.not_lt.mpr (hfresh b hb))) noseqF) hw
      · cases r'
    · cases r'
  · cases r'

/-- every run of the machine is one of the interpreter's -/
theorem all_steps {c : Ctx} (C : c.Ok) : ∀ n : Nat, (SE c n ∧ SS c n ∧ SC c n) ∧ ∀ k, n = k + 1 → SE c k
  | 0 => ⟨⟨by unfold SE; intros; rename_i r _; exact (nomatch r), by unfold SS; intros; rename_i r _; exact (nomatch r), by unfold SC; intros; rename_i r _; exact (nomatch r)⟩, fun _ e => nomatch e⟩
  | n + 1 =>
    have I := all_steps C n
    have H := I.1.1
    have HS := I.1.2.1
    have HC := I.1.2.2
    have Hp := I.2
    ⟨⟨se_step C H HC, ss_step C H HS Hp, sc_step C HS⟩, fun k e => by cases e; exact H⟩
end Mine
/-! THE PLAIN LAW: the machine answers True to every script. -/
namespace Mine
set_option maxRecDepth 100000
noncomputable def retT : Option (Fl × Loc × S) → Bool
  | some (.ret (.bool true), _, _) => true
  | _ => false
theorem retT_of : ∀ {r : Option (Fl × Loc × S)}, retT r = true → ∃ l s, r = some (.ret (.bool true), l, s)
  | some (.ret (.bool true), l, s), _ => ⟨l, s, rfl⟩
noncomputable def stD (b c0 c1 : List V) (i : Int) : S := ⟨[(3, [.lst 2, .int i]), (2, c1), (1, c0), (0, b)], 4⟩
theorem cut_0_0 (b c0 c1 : List V) : retT (stepSs (evs tbl 95) [0] (b_law_cut_right.drop 1) (puts (puts [(0, .lst 3)] 2 (.int 2)) 1 (.int 2)) (stD b c0 c1 3)) = true := by kernel_rfl
theorem cut_0_1 (b c0 c1 : List V) : retT (stepSs (evs tbl 95) [0] (b_law_cut_right.drop 1) (puts (puts [(0, .lst 3)] 2 (.int 3)) 1 (.int 2)) (stD b c0 c1 3)) = true := by kernel_rfl
theorem cut_1_0 (b c0 c1 : List V) : retT (stepSs (evs tbl 95) [0] (b_law_cut_right.drop 1) (puts (puts [(0, .lst 3)] 2 (.int 2)) 1 (.int 3)) (stD b c0 c1 3)) = true := by kernel_rfl
theorem cut_1_1 (b c0 c1 : List V) : retT (stepSs (evs tbl 95) [0] (b_law_cut_right.drop 1) (puts (puts [(0, .lst 3)] 2 (.int 3)) 1 (.int 3)) (stD b c0 c1 3)) = true := by kernel_rfl
theorem cut_2_0 (b c0 c1 : List V) : retT (stepSs (evs tbl 95) [0] (b_law_cut_right.drop 1) (puts (puts [(0, .lst 3)] 2 (.int 2)) 1 (.int 4)) (stD b c0 c1 3)) = true := by kernel_rfl
theorem cut_2_1 (b c0 c1 : List V) : retT (stepSs (evs tbl 95) [0] (b_law_cut_right.drop 1) (puts (puts [(0, .lst 3)] 2 (.int 3)) 1 (.int 4)) (stD b c0 c1 3)) = true := by kernel_rfl
theorem sums_0 (b c0 c1 : List V) : retT (stepSs (evs tbl 95) [0] (b_law_sums_right.drop 1) (puts [(0, .lst 3)] 1 (.int 1)) (stD b c0 c1 2)) = true := by kernel_rfl
theorem sums_1 (b c0 c1 : List V) : retT (stepSs (evs tbl 95) [0] (b_law_sums_right.drop 1) (puts [(0, .lst 3)] 1 (.int 2)) (stD b c0 c1 2)) = true := by kernel_rfl
theorem sums_2 (b c0 c1 : List V) : retT (stepSs (evs tbl 95) [0] (b_law_sums_right.drop 1) (puts [(0, .lst 3)] 1 (.int 3)) (stD b c0 c1 2)) = true := by kernel_rfl
theorem sums_3 (b c0 c1 : List V) : retT (stepSs (evs tbl 95) [0] (b_law_sums_right.drop 1) (puts [(0, .lst 3)] 1 (.int 4)) (stD b c0 c1 2)) = true := by kernel_rfl
theorem sums_4 (b c0 c1 : List V) : retT (stepSs (evs tbl 95) [0] (b_law_sums_right.drop 1) (puts [(0, .lst 3)] 1 (.int 5)) (stD b c0 c1 2)) = true := by kernel_rfl
theorem integral_0_0 (b c0 c1 : List V) : retT (stepSs (evs tbl 95) [0] (b_law_integral_right.drop 1) (puts (puts [(0, .lst 3)] 2 (.int 1)) 1 (.int 1)) (stD b c0 c1 3)) = true := by kernel_rfl
theorem integral_0_1 (b c0 c1 : List V) : retT (stepSs (evs tbl 95) [0] (b_law_integral_right.drop 1) (puts (puts [(0, .lst 3)] 2 (.int 2)) 1 (.int 1)) (stD b c0 c1 3)) = true := by kernel_rfl
theorem integral_0_2 (b c0 c1 : List V) : retT (stepSs (evs tbl 95) [0] (b_law_integral_right.drop 1) (puts (puts [(0, .lst 3)] 2 (.int 3)) 1 (.int 1)) (stD b c0 c1 3)) = true := by kernel_rfl
theorem integral_1_0 (b c0 c1 : List V) : retT (stepSs (evs tbl 95) [0] (b_law_integral_right.drop 1) (puts (puts [(0, .lst 3)] 2 (.int 1)) 1 (.int 2)) (stD b c0 c1 3)) = true := by kernel_rfl
theorem integral_1_1 (b c0 c1 : List V) : retT (stepSs (evs tbl 95) [0] (b_law_integral_right.drop 1) (puts (puts [(0, .lst 3)] 2 (.int 2)) 1 (.int 2)) (stD b c0 c1 3)) = true := by kernel_rfl
theorem integral_1_2 (b c0 c1 : List V) : retT (stepSs (evs tbl 95) [0] (b_law_integral_right.drop 1) (puts (puts [(0, .lst 3)] 2 (.int 3)) 1 (.int 2)) (stD b c0 c1 3)) = true := by kernel_rfl
theorem integral_2_0 (b c0 c1 : List V) : retT (stepSs (evs tbl 95) [0] (b_law_integral_right.drop 1) (puts (puts [(0, .lst 3)] 2 (.int 1)) 1 (.int 3)) (stD b c0 c1 3)) = true := by kernel_rfl
theorem integral_2_1 (b c0 c1 : List V) : retT (stepSs (evs tbl 95) [0] (b_law_integral_right.drop 1) (puts (puts [(0, .lst 3)] 2 (.int 2)) 1 (.int 3)) (stD b c0 c1 3)) = true := by kernel_rfl
theorem integral_2_2 (b c0 c1 : List V) : retT (stepSs (evs tbl 95) [0] (b_law_integral_right.drop 1) (puts (puts [(0, .lst 3)] 2 (.int 3)) 1 (.int 3)) (stD b c0 c1 3)) = true := by kernel_rfl
end Mine
namespace Mine
set_option genSizeOf false
set_option genSizeOfSpec false
set_option genInjectivity false
set_option maxRecDepth 100000
section
variable {ih : Ev} {lk lk' : List Nat} {l : Loc} {s s1 s2 s3 : S} {x y v : V} {vs xs : List V}
theorem asg_of {k : Nat} {e : Ex} (h : ih.e lk e l s = some (v, s1)) : stepS ih lk (.asg k e) l s = some (.nxt, puts l k v, s1) := by simp only [stepS, h]
theorem ret_of {e : Ex} (h : ih.e lk e l s = some (v, s1)) : stepS ih lk (.ret e) l s = some (.ret v, l, s1) := by simp only [stepS, h]
theorem lst2_of {a b : Ex} (h1 : ih.e lk a l s = some (x, s1)) (h2 : ih.e lk b l s1 = some (y, s2)) : stepE ih lk (.lst2 a b) l s = some (s2.new [x, y]) := by simp only [stepE, e2, h1, h2]
theorem comp1_of {e : Ex} {k : Nat} {it : It} (h1 : iter ih lk it l s = some (vs, lk', s1)) (h2 : elts ih lk' (bind1 k) e vs l s1 = some (xs, s2)) : stepE ih lk (.comp1 e k it) l s = some (s2.new xs) := by simp only [stepE, h1, h2]
theorem seq_of {a : Ex} {k : Nat} (h1 : ih.e lk a l s = some (.lst k, s1)) (h2 : gets s1.h k = some vs) (h3 : short 512 vs = true) : iter ih lk (.seq a) l s = some (vs, k :: lk, s1) := by simp only [iter, h1, h2, h3]
theorem slTo_of {a i : Ex} {k : Nat} {n : Int} (h1 : ih.e lk a l s = some (.lst k, s1)) (h2 : ih.e lk i l s1 = some (.int n, s2)) (h3 : gets s2.h k = some vs) (h4 : short 512 vs = true) (h5 : inLong n = true) : stepE ih lk (.slTo a i) l s = some (s2.new (cutTo vs n)) := by
  simp only [stepE, e2, h1, h2, h3, h4, h5]
theorem cons_nxt {t : St} {r : List St} {l1 : Loc} (h : stepS ih lk t l s = some (.nxt, l1, s1)) : stepSs ih lk (t :: r) l s = stepSs ih lk r l1 s1 := by simp only [stepSs, h]
theorem cons_ret {t : St} {r : List St} {l1 : Loc} (h : stepS ih lk t l s = some (.ret v, l1, s1)) : stepSs ih lk (t :: r) l s = some (.ret v, l1, s1) := by simp only [stepSs, h]
theorem short_of : ∀ (n : Nat) (l : List V), l.length ≤ n → short n l = true
  | _, [], _ => by unfold short; rfl
  | 0, _ :: _, h => by simp at h
  | n + 1, _ :: r, h => by unfold short; exact short_of n r (by simpa using h)
theorem call_of {tb : List (Nat × Fun)} {f : Nat} {ps : List Nat} {b : List St} {l1 : Loc} (h0 : gets tb f = some (ps, b)) (h1 : zipL ps vs = some l) (h2 : ih.s lk b l s = some (.ret v, l1, s1)) : stepC tb ih lk f vs s = some (v, s1) := by
  simp only [stepC, h0, h1, h2]
end
theorem e_of {tb : List (Nat × Fun)} (n : Nat) {lk : List Nat} {e : Ex} {l : Loc} {s : S} {r : Option (V × S)} (h : stepE (evs tb n) lk e l s = r) : (evs tb (n + 1)).e lk e l s = r := h
theorem c_of {tb : List (Nat × Fun)} (n : Nat) {lk : List Nat} {f : Nat} {vs : List V} {s : S} {r : Option (V × S)} (h : stepC tb (evs tb n) lk f vs s = r) : (evs tb (n + 1)).c lk f vs s = r := h
theorem s_of {tb : List (Nat × Fun)} (n : Nat) {lk : List Nat} {b : List St} {l : Loc} {s : S} {r : Option (Fl × Loc × S)} (h : stepSs (evs tb n) lk b l s = r) : (evs tb (n + 1)).s lk b l s = r := h
inductive Cells3 : List V → Prop
  | c0 : Cells3 []
  | c1 (x : Int) : Cells3 [.int x]
  | c2 (x y : Int) : Cells3 [.int x, .int y]
  | c3 (x y z : Int) : Cells3 [.int x, .int y, .int z]
theorem cells3 : ∀ ns : List Int, Cells3 ((ns.map V.int).take 3)
  | [] => .c0
  | [x] => .c1 x
  | [x, y] => .c2 x y
  | x :: y :: z :: r => .c3 x y z
theorem ofNat_fmod (a : Nat) (m : Int) (h : 0 < m) : 0 ≤ (Int.ofNat a).fmod m ∧ (Int.ofNat a).fmod m < m := ⟨Int.fmod_nonneg_of_pos _ h, Int.fmod_lt_of_pos _ h⟩

theorem pool_run {b c : List V} (hb : short 512 b = true) (hc : b.take 3 = c) (h3 : Cells3 c) : stepS (evs tbl 99) [0] (.asg 2 (.lst2 (.comp1 (.toInt (.loc 1)) 1 (.seq (.slTo (.loc 0) (.int 3)))) (.int 0))) [(0, .lst 0)] ⟨[(0, b)], 1⟩ =
    some (.nxt, [(0, .lst 0), (2, .lst 3)], stD b c c 0) := by
  subst hc
  have h1 : (evs tbl 97).e [0] (.slTo (.loc 0) (.int 3)) [(0, .lst 0)] ⟨[(0, b)], 1⟩ = some (.lst 1, ⟨[(1, b.take 3), (0, b)], 2⟩) :=
    e_of 96 (slTo_of (k := 0) (n := 3) (vs := b) (s1 := ⟨[(0, b)], 1⟩) (s2 := ⟨[(0, b)], 1⟩) rfl rfl rfl hb (by kernel_rfl))
  have h2 : iter (evs tbl 97) [0] (.seq (.slTo (.loc 0) (.int 3))) [(0, .lst 0)] ⟨[(0, b)], 1⟩ = some (b.take 3, [1, 0], ⟨[(1, b.take 3), (0, b)], 2⟩) :=
    seq_of h1 rfl (short_of 512 _ (by simp only [List.length_take]; omega))
  have h4 : elts (evs tbl 97) [1, 0] (bind1 1) (.toInt (.loc 1)) (b.take 3) [(0, .lst 0)] ⟨[(1, b.take 3), (0, b)], 2⟩ = some (b.take 3, ⟨[(1, b.take 3), (0, b)], 2⟩) := by
    generalize b.take 3 = c at h3 ⊢
    cases h3 <;> rfl
  exact asg_of (e_of 98 (lst2_of (b := .int 0) (s1 := ⟨[(2, b.take 3), (1, b.take 3), (0, b)], 3⟩) (s2 := ⟨[(2, b.take 3), (1, b.take 3), (0, b)], 3⟩) (x := .lst 2) (y := .int 0) (e_of 97 (comp1_of h2 h4)) (e_of 97 rfl)))

theorem form_run {b c0 c : List V} (h3 : Cells3 c) : ∃ d : Int, (0 ≤ d ∧ d < 3) ∧ stepS (evs tbl 99) [0] (.asg 3 (.call2 22 (.loc 2) (.int 3))) [(0, .lst 0), (2, .lst 3)] (stD b c0 c 0) = some (.nxt, [(0, .lst 0), (2, .lst 3), (3, .int d)], stD b c0 c 1) := by
  cases h3 with
  | c0 => exact ⟨0, by decide, by kernel_rfl⟩
  | c1 x => exact ⟨_, ofNat_fmod x.natAbs 3 (by decide), by kernel_rfl⟩
  | c2 x y => exact ⟨_, ofNat_fmod x.natAbs 3 (by decide), by kernel_rfl⟩
  | c3 x y z => exact ⟨_, ofNat_fmod x.natAbs 3 (by decide), by kernel_rfl⟩
theorem cut_run {b c0 c : List V} (h3 : Cells3 c) : ∃ d e : Int, (0 ≤ d ∧ d < 3) ∧ (0 ≤ e ∧ e < 2) ∧
    stepS (evs tbl 95) [0] (.asg2 1 2 (.bin .add (.int 2) (.call2 22 (.loc 0) (.int 3))) (.bin .add (.int 2) (.call2 22 (.loc 0) (.int 2)))) [(0, .lst 3)] (stD b c0 c 1) = some (.nxt, puts (puts [(0, .lst 3)] 2 (.int (2 + e))) 1 (.int (2 + d)), stD b c0 c 3) := by
  cases h3 with
  | c0 => exact ⟨1, 0, by decide, by decide, by kernel_rfl⟩
  | c1 x => exact ⟨1, 0, by decide, by decide, by kernel_rfl⟩
  | c2 x y => exact ⟨_, 0, ofNat_fmod y.natAbs 3 (by decide), by decide, by kernel_rfl⟩
  | c3 x y z => exact ⟨_, _, ofNat_fmod y.natAbs 3 (by decide), ofNat_fmod z.natAbs 2 (by decide), by kernel_rfl⟩
theorem integral_run {b c0 c : List V} (h3 : Cells3 c) : ∃ d e : Int, (0 ≤ d ∧ d < 3) ∧ (0 ≤ e ∧ e < 3) ∧
    stepS (evs tbl 95) [0] (.asg2 1 2 (.bin .add (.int 1) (.call2 22 (.loc 0) (.int 3))) (.bin .add (.int 1) (.call2 22 (.loc 0) (.int 3)))) [(0, .lst 3)] (stD b c0 c 1) = some (.nxt, puts (puts [(0, .lst 3)] 2 (.int (1 + e))) 1 (.int (1 + d)), stD b c0 c 3) := by
  cases h3 with
  | c0 => exact ⟨1, 0, by decide, by decide, by kernel_rfl⟩
  | c1 x => exact ⟨1, 0, by decide, by decide, by kernel_rfl⟩
  | c2 x y => exact ⟨_, 0, ofNat_fmod y.natAbs 3 (by decide), by decide, by kernel_rfl⟩
  | c3 x y z => exact ⟨_, _, ofNat_fmod y.natAbs 3 (by decide), ofNat_fmod z.natAbs 3 (by decide), by kernel_rfl⟩
theorem sums_run {b c0 c : List V} (h3 : Cells3 c) : ∃ d : Int, (0 ≤ d ∧ d < 5) ∧
    stepS (evs tbl 95) [0] (.asg 1 (.bin .add (.int 1) (.call2 22 (.loc 0) (.int 5)))) [(0, .lst 3)] (stD b c0 c 1) = some (.nxt, puts [(0, .lst 3)] 1 (.int (1 + d)), stD b c0 c 2) := by
  cases h3 with
  | c0 => exact ⟨1, by decide, by kernel_rfl⟩
  | c1 x => exact ⟨1, by decide, by kernel_rfl⟩
  | c2 x y => exact ⟨_, ofNat_fmod y.natAbs 5 (by decide), by kernel_rfl⟩
  | c3 x y z => exact ⟨_, ofNat_fmod y.natAbs 5 (by decide), by kernel_rfl⟩
theorem nat_of {d : Int} {k : Nat} (h : 0 ≤ d ∧ d < (k : Int)) : ∃ j : Nat, j < k ∧ d = (j : Int) := by
  obtain ⟨j, rfl⟩ := Int.eq_ofNat_of_zero_le h.1
  exact ⟨j, Int.ofNat_lt.mp h.2, rfl⟩
theorem low {j n : Nat} (h : j < n + 1) : j < n ∨ j = n := Nat.lt_succ_iff_lt_or_eq.mp h
theorem upTo2 {d : Int} (h : 0 ≤ d ∧ d < 2) : d = 0 ∨ d = 1 := by
  obtain ⟨j, hj, rfl⟩ := nat_of (k := 2) h
  rcases low hj with hj | rfl
  · rcases low hj with hj | rfl
    · exact absurd hj (Nat.not_lt_zero _)
    · exact .inl rfl
  · exact .inr rfl
theorem upTo3 {d : Int} (h : 0 ≤ d ∧ d < 3) : d = 0 ∨ d = 1 ∨ d = 2 := by
  obtain ⟨j, hj, rfl⟩ := nat_of (k := 3) h
  rcases low hj with hj | rfl
  · exact (upTo2 ⟨Int.natCast_nonneg j, Int.ofNat_lt.mpr hj⟩).imp id .inl
  · exact .inr (.inr rfl)
theorem upTo4 {d : Int} (h : 0 ≤ d ∧ d < 4) : d = 0 ∨ d = 1 ∨ d = 2 ∨ d = 3 := by
  obtain ⟨j, hj, rfl⟩ := nat_of (k := 4) h
  rcases low hj with hj | rfl
  · exact (upTo3 ⟨Int.natCast_nonneg j, Int.ofNat_lt.mpr hj⟩).imp id (Or.imp id .inl)
  · exact .inr (.inr (.inr rfl))
theorem upTo5 {d : Int} (h : 0 ≤ d ∧ d < 5) : d = 0 ∨ d = 1 ∨ d = 2 ∨ d = 3 ∨ d = 4 := by
  obtain ⟨j, hj, rfl⟩ := nat_of (k := 5) h
  rcases low hj with hj | rfl
  · exact (upTo4 ⟨Int.natCast_nonneg j, Int.ofNat_lt.mpr hj⟩).imp id (Or.imp id (Or.imp id .inl))
  · exact .inr (.inr (.inr (.inr rfl)))
theorem cut_all {b c0 c : List V} (h3 : Cells3 c) : ∃ s', (evs tbl 97).c [0] 24 [.lst 3] (stD b c0 c 1) = some (.bool true, s') := by
  obtain ⟨d, e, hd, he, h⟩ := cut_run (b := b) (c0 := c0) h3
  have hr : ∃ l' s', stepSs (evs tbl 95) [0] b_law_cut_right [(0, .lst 3)] (stD b c0 c 1) = some (.ret (.bool true), l', s') := by
    unfold b_law_cut_right
    rw [cons_nxt h]
    rcases upTo3 hd with rfl | rfl | rfl <;> rcases upTo2 he with rfl | rfl
    · exact retT_of (cut_0_0 b c0 c)
    · exact retT_of (cut_0_1 b c0 c)
    · exact retT_of (cut_1_0 b c0 c)
    · exact retT_of (cut_1_1 b c0 c)
    · exact retT_of (cut_2_0 b c0 c)
    · exact retT_of (cut_2_1 b c0 c)
  obtain ⟨l', s', hr⟩ := hr
  exact ⟨s', c_of 96 (call_of (ps := [0]) (b := b_law_cut_right) (l := [(0, .lst 3)]) (by kernel_rfl) rfl (s_of 95 hr))⟩
theorem sums_all {b c0 c : List V} (h3 : Cells3 c) : ∃ s', (evs tbl 97).c [0] 25 [.lst 3] (stD b c0 c 1) = some (.bool true, s') := by
  obtain ⟨d, hd, h⟩ := sums_run (b := b) (c0 := c0) h3
  have hr : ∃ l' s', stepSs (evs tbl 95) [0] b_law_sums_right [(0, .lst 3)] (stD b c0 c 1) = some (.ret (.bool true), l', s') := by
    unfold b_law_sums_right
    rw [cons_nxt h]
    rcases upTo5 hd with rfl | rfl | rfl | rfl | rfl
    · exact retT_of (sums_0 b c0 c)
    · exact retT_of (sums_1 b c0 c)
    · exact retT_of (sums_2 b c0 c)
    · exact retT_of (sums_3 b c0 c)
    · exact retT_of (sums_4 b c0 c)
  obtain ⟨l', s', hr⟩ := hr
  exact ⟨s', c_of 96 (call_of (ps := [0]) (b := b_law_sums_right) (l := [(0, .lst 3)]) (by kernel_rfl) rfl (s_of 95 hr))⟩
theorem integral_all {b c0 c : List V} (h3 : Cells3 c) : ∃ s', (evs tbl 97).c [0] 26 [.lst 3] (stD b c0 c 1) = some (.bool true, s') := by
  obtain ⟨d, e, hd, he, h⟩ := integral_run (b := b) (c0 := c0) h3
  have hr : ∃ l' s', stepSs (evs tbl 95) [0] b_law_integral_right [(0, .lst 3)] (stD b c0 c 1) = some (.ret (.bool true), l', s') := by
    unfold b_law_integral_right
    rw [cons_nxt h]
    rcases upTo3 hd with rfl | rfl | rfl <;> rcases upTo3 he with rfl | rfl | rfl
    · exact retT_of (integral_0_0 b c0 c)
    · exact retT_of (integral_0_1 b c0 c)
    · exact retT_of (integral_0_2 b c0 c)
    · exact retT_of (integral_1_0 b c0 c)
    · exact retT_of (integral_1_1 b c0 c)
    · exact retT_of (integral_1_2 b c0 c)
    · exact retT_of (integral_2_0 b c0 c)
    · exact retT_of (integral_2_1 b c0 c)
    · exact retT_of (integral_2_2 b c0 c)
  obtain ⟨l', s', hr⟩ := hr
  exact ⟨s', c_of 96 (call_of (ps := [0]) (b := b_law_integral_right) (l := [(0, .lst 3)]) (by kernel_rfl) rfl (s_of 95 hr))⟩

theorem law_run (ns : List Int) (h : ns.length ≤ 63) : ∃ l' s', (evs tbl 100).s [0] b_law [(0, .lst 0)] ⟨[(0, ns.map .int)], 1⟩ = some (.ret (.bool true), l', s') := by
  have hb : short 512 (ns.map V.int) = true := short_of 512 _ (by simp only [List.length_map]; omega)
  have h3 := cells3 ns
  generalize ns.map V.int = b at hb h3
  show ∃ l' s', stepSs (evs tbl 99) [0] b_law [(0, .lst 0)] ⟨[(0, b)], 1⟩ = _
  unfold b_law
  rw [cons_nxt (pool_run hb rfl h3)]
  obtain ⟨d, hd, hf⟩ := form_run (b := b) (c0 := b.take 3) h3
  rw [cons_nxt hf]
  rcases upTo3 hd with rfl | rfl | rfl
  · obtain ⟨s', hc⟩ := cut_all (b := b) (c0 := b.take 3) h3
    have : stepS (evs tbl 99) [0] (.ite (.cmp .eq (.loc 3) (.int 0)) [.ret (.call1 24 (.loc 2))] []) [(0, .lst 0), (2, .lst 3), (3, .int 0)] (stD b (b.take 3) (b.take 3) 1) = some (.ret (.bool true), [(0, .lst 0), (2, .lst 3), (3, .int 0)], s') := by
      show stepSs (evs tbl 98) [0] [.ret (.call1 24 (.loc 2))] [(0, .lst 0), (2, .lst 3), (3, .int 0)] (stD b (b.take 3) (b.take 3) 1) = _
      exact cons_ret (ret_of (e_of 97 hc))
    exact ⟨_, s', cons_ret this⟩
  · obtain ⟨s', hc⟩ := sums_all (b := b) (c0 := b.take 3) h3
    have h1 : stepS (evs tbl 99) [0] (.ite (.cmp .eq (.loc 3) (.int 0)) [.ret (.call1 24 (.loc 2))] []) [(0, .lst 0), (2, .lst 3), (3, .int 1)] (stD b (b.take 3) (b.take 3) 1) = some (.nxt, [(0, .lst 0), (2, .lst 3), (3, .int 1)], stD b (b.take 3) (b.take 3) 1) := by kernel_rfl
    rw [cons_nxt h1]
    exact ⟨_, s', cons_ret (ret_of (e_of 98 hc))⟩
  · obtain ⟨s', hc⟩ := integral_all (b := b) (c0 := b.take 3) h3
    have h1 : stepS (evs tbl 99) [0] (.ite (.cmp .eq (.loc 3) (.int 0)) [.ret (.call1 24 (.loc 2))] []) [(0, .lst 0), (2, .lst 3), (3, .int 2)] (stD b (b.take 3) (b.take 3) 1) = some (.nxt, [(0, .lst 0), (2, .lst 3), (3, .int 2)], stD b (b.take 3) (b.take 3) 1) := by kernel_rfl
    rw [cons_nxt h1]
    exact ⟨_, s', cons_ret (ret_of (e_of 98 hc))⟩
end Mine
namespace Mine
open PySem PySem.W PyProof.Rows
set_option maxRecDepth 100000
set_option maxHeartbeats 8000000
open_top hd for PySem.Challenge.rw_tk0019_01
end Mine
namespace Mine
open PySem PySem.Spec PySem.Calls PyProof.Rows PyProof.V PySem.W

noncomputable def junk (i : Nat) : Str := ⟨#[0, i]⟩
noncomputable def nsOf (l : List Str) (i : Nat) : Str := match l[i]? with
  | some s => s
  | none => junk i
noncomputable def cleanB (l : List Str) : Bool := l.all fun s => match s.cps.toList with
  | 0 :: _ => false
  | _ => !(s == (".0" : Str))
theorem cleanB_at {l : List Str} (h : cleanB l = true) {i : Nat} {s : Str} (e : l[i]? = some s) : (∀ j, s ≠ junk j) ∧ s ≠ ".0" := by
  have := List.all_eq_true.mp h s (List.mem_of_getElem? e)
  refine ⟨fun j q => ?_, fun q => ?_⟩
  · subst q; simp [junk] at this
  · subst q
    revert this
    split <;> simp
theorem nodup_inj {l : List Str} (hn : l.Nodup) (x y : Nat) (h1 : x < l.length) (h2 : y < l.length) (e : l[x] = l[y]) : x = y := by
  have hp := List.pairwise_iff_getElem.mp hn
  rcases Nat.lt_trichotomy x y with q | q | q
  · exact absurd e (hp x y h1 h2 q)
  · exact q
  · exact absurd e.symm (hp y x h2 h1 q)
theorem nsOk_of {l : List Str} (hn : l.Nodup) (hc : cleanB l = true) : NsOk (nsOf l) where
  inj := fun x y e => by
    unfold nsOf at e
    split at e
    · rename_i s hs
      split at e
      · rename_i t ht
        subst e
        have h1 := List.getElem?_eq_some_iff.mp hs
        have h2 := List.getElem?_eq_some_iff.mp ht
        obtain ⟨l1, e1⟩ := h1
        obtain ⟨l2, e2⟩ := h2
        exact (nodup_inj hn) x y l1 l2 (e1.trans e2.symm)
      · exact absurd e ((cleanB_at hc hs).1 y)
    · split at e
      · rename_i t ht
        exact absurd e.symm ((cleanB_at hc ht).1 x)
      · simpa [junk] using e
  dot := fun x e => by
    unfold nsOf at e
    split at e
    · rename_i s hs
      exact (cleanB_at hc hs).2 e
    · have : (junk x).cps.toList.head? = (Str.ofString ".0").cps.toList.head? := by rw [e]
      revert this
      show some 0 = _ → False
      intro h
      have h2 : (Str.ofString ".0").cps.toList.head? = some 46 := by kernel_rfl
      rw [h2] at h
      exact absurd h (by decide)

noncomputable def blockB (scope : Scope) (kd : Kd) (xs : List Str) : Bool :=
  decide (scope.kind = .function) && scope.names.all (fun y => !(y.2 == .local) || scope.names.lookup y.1 == some .local) && scope.names.all (fun y => !(y.2 == .cell)) &&
    scope.names.all (fun y => !(y.2 == .free) || kd y.1 == some .cell) && scope.names.all (fun y => !(y.2 == .local) || (xs.contains y.1 || y.1 == (".0" : Str))) && xs.all (fun x => scope.names.lookup x == some .local) && decide (scope.names.map (·.1)).Nodup
theorem blockOk_of {scope : Scope} {kd : Kd} {xs : List Str} (h : blockB scope kd xs = true) : BlockOk scope kd xs := by
  unfold blockB at h
  simp only [Bool.and_eq_true, decide_eq_true_eq, List.all_eq_true, Bool.or_eq_true, Bool.not_eq_true', beq_eq_false_iff_ne, beq_iff_eq, List.contains_iff_mem] at h
  obtain ⟨⟨⟨⟨⟨⟨h1, h2⟩, h3⟩, h4⟩, h5⟩, h6⟩, h7⟩ := h
  exact ⟨h1, fun y hy e => (h2 y hy).resolve_left fun q => q e, fun y hy => h3 y hy, fun y hy e => (h4 y hy).resolve_left fun q => q e, fun y hy e => (h5 y hy).resolve_left fun q => q e, h6, h7⟩

theorem sw_comp {kd : Kd} {E : Expr} {gens : List Comprehension} {scope : Scope} {q p' : Pos} {nm : Str} {ln : Nat} (hk : kd nm = some .local) (hl : (p'.line == q.line) = true) (hn : (scope.names.any fun x => x.1 == nm && (x.2 == .local || x.2 == .cell)) = false) :
    sw kd (.ListComp E gens scope q) (some (.Name nm p')) ln true := fun ev h => by
  show (pure (ev.blockKind == .function && ev.kindOf nm == some .local && p'.line == q.line && !(scope.names.any fun x => x.1 == nm && (x.2 == .local || x.2 == .cell))) : Sem Bool) = pure true
  rw [h.kof, hk, hl, hn]
  have : ev.blockKind = .function := by unfold Env.blockKind; rw [h.kind]; rfl
  rw [this]; rfl
theorem stores_of {kd : Kd} {n1 n2 : Str} {p1 p2 q q' : Pos} {kk k' : Nat} {A B : Expr} (h1 : kd n1 = some .local) (h2 : kd n2 = some .local) (hl : (p1.line == p2.line) = true) (hne : (n1 == n2) = false)
    (hs : ([A, B].any fun | .Starred .. => true | _ => false) = false) (hf : [A, B].all (foldedForSure 8) = false) (hc : [A, B].all (constantsAlone 8) = false) :
    swStores kd [.Tuple [.Name n1 p1, .Name n2 p2] kk q] (.Tuple [A, B] k' q') (some [n1, n2]) := fun ev h => by
  have hb : ev.blockKind = .function := by unfold Env.blockKind; rw [h.kind]; rfl
  have e1 : (p1.line == p1.line) = true := by simp
  have e2 : (p2.line == p1.line) = true := by rw [beq_iff_eq] at hl ⊢; exact hl.symm
  have e3 : (some NameKind.local == some NameKind.local) = true := rfl
  have hnames : [Expr.Name n1 p1, Expr.Name n2 p2].filterMap (fun
    | .Name id pos => if ev.kindOf id == some .local && pos.line == p1.line then some id else none
    | _ => none) = [n1, n2] := by
    simp only [List.filterMap_cons, List.filterMap_nil, h.kof, h1, h2, e1, e2, e3, Bool.and_self, if_true]
  have key : ∀ names : List Str, names = [n1, n2] → (if names.length != 2 || names.eraseDups.length != names.length then (pure none : Sem (Option (List Str)))
      else if [A, B].all (foldedForSure 8) then pure none else if [A, B].all (constantsAlone 8) then (do unsupported "assign.tuple-of-constant-expressions:order-of-the-stores"; pure (some names)) else pure (some names)) = pure (some [n1, n2]) := by
    rintro names rfl
    have hd : ([n1, n2].eraseDups.length != [n1, n2].length) = false := by
      have : n2 ≠ n1 := fun q => by subst q; simp at hne
      simp [List.eraseDups_cons, this]
    rw [hf, hc, hd]
    rfl
  unfold swappedStores
  dsimp only
  refine (if_neg ?_).trans ((if_neg ?_).trans (key _ hnames))
  · rw [hb]; show ¬ (false = true); decide
  · exact fun q => absurd (hs.symm.trans q) (by decide)
theorem or_of {o : Option NameKind} (h : (o == some .local || o == some .cell) = true) : o = some .local ∨ o = some .cell := by
  simpa [Bool.or_eq_true, beq_iff_eq] using h
theorem loc_of {fm ns : Nat → Str} {kd : Kd} {x : Nat} {nm : Str} {p : Pos} (h : (nm == ns x && (kd nm == some .local || kd nm == some .cell) && !(nm == ("__debug__" : Str))) = true) : IsE fm ns kd (.loc x) (.Name nm p) := by
  simp only [Bool.and_eq_true, beq_iff_eq, Bool.not_eq_true'] at h
  exact .loc h.1.1 (or_of h.1.2) h.2
theorem gl_of {kd : Kd} {nm x : Str} (h : (nm == x && kd x == some .globalImplicit && !(x == ("__debug__" : Str))) = true) : gl kd nm x := by
  simp only [Bool.and_eq_true, beq_iff_eq, Bool.not_eq_true'] at h
  exact ⟨h.1.1, h.1.2, h.2⟩
end Mine
namespace Mine
open PySem PySem.Spec PySem.Calls PyProof.Rows PyProof.V PySem.W
set_option maxRecDepth 100000
noncomputable def fnm (i : Nat) : Str := match (["gcd", "rat", "radd", "rmul", "rdiv", "rneg", "qtrim", "qadd", "qneg", "qsub", "qscale", "qraise", "qmul", "qdivmod", "qderive", "qintegral", "qat", "qcompose", "binomial_row", "bernoulli_row", "power_sum", "polynomial_sum", "_law_draw", "_law_bernoulli", "_law_cut_right", "_law_sums_right", "_law_integral_right", "law"] : List String)[i]? with
  | some s => Str.ofString s
  | none => junk i
theorem text_0 : ∃ d, (recsOf hd.view_39)[0]? = some d ∧ IsSs fnm (nsOf (n_gcd.map Str.ofString)) (fun x => d.scope.names.lookup x) b_gcd d.body := by
  refine ⟨_, rfl, ?_⟩
  unfold b_gcd
  repeat' first
    | exact loc_of (by kernel_rfl)
    | exact or_of (by kernel_rfl)
    | exact blockOk_of (by kernel_rfl)
    | exact gl_of (by kernel_rfl)
    | exact sw_comp (by kernel_rfl) (by kernel_rfl) (by kernel_rfl)
    | exact stores_of (by kernel_rfl) (by kernel_rfl) (by kernel_rfl) (by kernel_rfl) (by kernel_rfl) (by kernel_rfl) (by kernel_rfl)
    | exact fun _ _ => rfl
    | exact ⟨fun _ _ => rfl, fun _ _ => rfl⟩
    | exact ⟨fun _ _ => rfl, fun _ _ => rfl, fun _ _ => rfl⟩
    | exact fun _ => rfl
    | exact fun _ q => nomatch q
    | kernel_rfl
    | constructor

theorem text_1 : ∃ d, (recsOf hd.view_39)[1]? = some d ∧ IsSs fnm (nsOf (n_rat.map Str.ofString)) (fun x => d.scope.names.lookup x) b_rat d.body := by
  refine ⟨_, rfl, ?_⟩
  unfold b_rat
  repeat' first
    | exact loc_of (by kernel_rfl)
    | exact or_of (by kernel_rfl)
    | exact blockOk_of (by kernel_rfl)
    | exact gl_of (by kernel_rfl)
    | exact sw_comp (by kernel_rfl) (by kernel_rfl) (by kernel_rfl)
    | exact stores_of (by kernel_rfl) (by kernel_rfl) (by kernel_rfl) (by kernel_rfl) (by kernel_rfl) (by kernel_rfl) (by kernel_rfl)
    | exact fun _ _ => rfl
    | exact ⟨fun _ _ => rfl, fun _ _ => rfl⟩
    | exact ⟨fun _ _ => rfl, fun _ _ => rfl, fun _ _ => rfl⟩
    | exact fun _ => rfl
    | exact fun _ q => nomatch q
    | kernel_rfl
    | constructor

theorem text_2 : ∃ d, (recsOf hd.view_39)[2]? = some d ∧ IsSs fnm (nsOf (n_radd.map Str.ofString)) (fun x => d.scope.names.lookup x) b_radd d.body := by
  refine ⟨_, rfl, ?_⟩
  unfold b_radd
  repeat' first
    | exact loc_of (by kernel_rfl)
    | exact or_of (by kernel_rfl)
    | exact blockOk_of (by kernel_rfl)
    | exact gl_of (by kernel_rfl)
    | exact sw_comp (by kernel_rfl) (by kernel_rfl) (by kernel_rfl)
    | exact stores_of (by kernel_rfl) (by kernel_rfl) (by kernel_rfl) (by kernel_rfl) (by kernel_rfl) (by kernel_rfl) (by kernel_rfl)
    | exact fun _ _ => rfl
    | exact ⟨fun _ _ => rfl, fun _ _ => rfl⟩
    | exact ⟨fun _ _ => rfl, fun _ _ => rfl, fun _ _ => rfl⟩
    | exact fun _ => rfl
    | exact fun _ q => nomatch q
    | kernel_rfl
    | constructor

theorem text_3 : ∃ d, (recsOf hd.view_39)[3]? = some d ∧ IsSs fnm (nsOf (n_rmul.map Str.ofString)) (fun x => d.scope.names.lookup x) b_rmul d.body := by
  refine ⟨_, rfl, ?_⟩
  unfold b_rmul
  repeat' first
    | exact loc_of (by kernel_rfl)
    | exact or_of (by kernel_rfl)
    | exact blockOk_of (by kernel_rfl)
    | exact gl_of (by kernel_rfl)
    | exact sw_comp (by kernel_rfl) (by kernel_rfl) (by kernel_rfl)
    | exact stores_of (by kernel_rfl) (by kernel_rfl) (by kernel_rfl) (by kernel_rfl) (by kernel_rfl) (by kernel_rfl) (by kernel_rfl)
    | exact fun _ _ => rfl
    | exact ⟨fun _ _ => rfl, fun _ _ => rfl⟩
    | exact ⟨fun _ _ => rfl, fun _ _ => rfl, fun _ _ => rfl⟩
    | exact fun _ => rfl
    | exact fun _ q => nomatch q
    | kernel_rfl
    | constructor

theorem text_4 : ∃ d, (recsOf hd.view_39)[4]? = some d ∧ IsSs fnm (nsOf (n_rdiv.map Str.ofString)) (fun x => d.scope.names.lookup x) b_rdiv d.body := by
  refine ⟨_, rfl, ?_⟩
  unfold b_rdiv
  repeat' first
    | exact loc_of (by kernel_rfl)
    | exact or_of (by kernel_rfl)
    | exact blockOk_of (by kernel_rfl)
    | exact gl_of (by kernel_rfl)
    | exact sw_comp (by kernel_rfl) (by kernel_rfl) (by kernel_rfl)
    | exact stores_of (by kernel_rfl) (by kernel_rfl) (by kernel_rfl) (by kernel_rfl) (by kernel_rfl) (by kernel_rfl) (by kernel_rfl)
    | exact fun _ _ => rfl
    | exact ⟨fun _ _ => rfl, fun _ _ => rfl⟩
    | exact ⟨fun _ _ => rfl, fun _ _ => rfl, fun _ _ => rfl⟩
    | exact fun _ => rfl
    | exact fun _ q => nomatch q
    | kernel_rfl
    | constructor

theorem text_5 : ∃ d, (recsOf hd.view_39)[5]? = some d ∧ IsSs fnm (nsOf (n_rneg.map Str.ofString)) (fun x => d.scope.names.lookup x) b_rneg d.body := by
  refine ⟨_, rfl, ?_⟩
  unfold b_rneg
  repeat' first
    | exact loc_of (by kernel_rfl)
    | exact or_of (by kernel_rfl)
    | exact blockOk_of (by kernel_rfl)
    | exact gl_of (by kernel_rfl)
    | exact sw_comp (by kernel_rfl) (by kernel_rfl) (by kernel_rfl)
    | exact stores_of (by kernel_rfl) (by kernel_rfl) (by kernel_rfl) (by kernel_rfl) (by kernel_rfl) (by kernel_rfl) (by kernel_rfl)
    | exact fun _ _ => rfl
    | exact ⟨fun _ _ => rfl, fun _ _ => rfl⟩
    | exact ⟨fun _ _ => rfl, fun _ _ => rfl, fun _ _ => rfl⟩
    | exact fun _ => rfl
    | exact fun _ q => nomatch q
    | kernel_rfl
    | constructor

theorem text_6 : ∃ d, (recsOf hd.view_39)[6]? = some d ∧ IsSs fnm (nsOf (n_qtrim.map Str.ofString)) (fun x => d.scope.names.lookup x) b_qtrim d.body := by
  refine ⟨_, rfl, ?_⟩
  unfold b_qtrim
  repeat' first
    | exact loc_of (by kernel_rfl)
    | exact or_of (by kernel_rfl)
    | exact blockOk_of (by kernel_rfl)
    | exact gl_of (by kernel_rfl)
    | exact sw_comp (by kernel_rfl) (by kernel_rfl) (by kernel_rfl)
    | exact stores_of (by kernel_rfl) (by kernel_rfl) (by kernel_rfl) (by kernel_rfl) (by kernel_rfl) (by kernel_rfl) (by kernel_rfl)
    | exact fun _ _ => rfl
    | exact ⟨fun _ _ => rfl, fun _ _ => rfl⟩
    | exact ⟨fun _ _ => rfl, fun _ _ => rfl, fun _ _ => rfl⟩
    | exact fun _ => rfl
    | exact fun _ q => nomatch q
    | kernel_rfl
    | constructor

theorem text_7 : ∃ d, (recsOf hd.view_39)[7]? = some d ∧ IsSs fnm (nsOf (n_qadd.map Str.ofString)) (fun x => d.scope.names.lookup x) b_qadd d.body := by
  refine ⟨_, rfl, ?_⟩
  unfold b_qadd
  repeat' first
    | exact loc_of (by kernel_rfl)
    | exact or_of (by kernel_rfl)
    | exact blockOk_of (by kernel_rfl)
    | exact gl_of (by kernel_rfl)
    | exact sw_comp (by kernel_rfl) (by kernel_rfl) (by kernel_rfl)
    | exact stores_of (by kernel_rfl) (by kernel_rfl) (by kernel_rfl) (by kernel_rfl) (by kernel_rfl) (by kernel_rfl) (by kernel_rfl)
    | exact fun _ _ => rfl
    | exact ⟨fun _ _ => rfl, fun _ _ => rfl⟩
    | exact ⟨fun _ _ => rfl, fun _ _ => rfl, fun _ _ => rfl⟩
    | exact fun _ => rfl
    | exact fun _ q => nomatch q
    | kernel_rfl
    | constructor

theorem text_8 : ∃ d, (recsOf hd.view_39)[8]? = some d ∧ IsSs fnm (nsOf (n_qneg.map Str.ofString)) (fun x => d.scope.names.lookup x) b_qneg d.body := by
  refine ⟨_, rfl, ?_⟩
  unfold b_qneg
  repeat' first
    | exact loc_of (by kernel_rfl)
    | exact or_of (by kernel_rfl)
    | exact blockOk_of (by kernel_rfl)
    | exact gl_of (by kernel_rfl)
    | exact sw_comp (by kernel_rfl) (by kernel_rfl) (by kernel_rfl)
    | exact stores_of (by kernel_rfl) (by kernel_rfl) (by kernel_rfl) (by kernel_rfl) (by kernel_rfl) (by kernel_rfl) (by kernel_rfl)
    | exact fun _ _ => rfl
    | exact ⟨fun _ _ => rfl, fun _ _ => rfl⟩
    | exact ⟨fun _ _ => rfl, fun _ _ => rfl, fun _ _ => rfl⟩
    | exact fun _ => rfl
    | exact fun _ q => nomatch q
    | kernel_rfl
    | constructor

theorem text_9 : ∃ d, (recsOf hd.view_39)[9]? = some d ∧ IsSs fnm (nsOf (n_qsub.map Str.ofString)) (fun x => d.scope.names.lookup x) b_qsub d.body := by
  refine ⟨_, rfl, ?_⟩
  unfold b_qsub
  repeat' first
    | exact loc_of (by kernel_rfl)
    | exact or_of (by kernel_rfl)
    | exact blockOk_of (by kernel_rfl)
    | exact gl_of (by kernel_rfl)
    | exact sw_comp (by kernel_rfl) (by kernel_rfl) (by kernel_rfl)
    | exact stores_of (by kernel_rfl) (by kernel_rfl) (by kernel_rfl) (by kernel_rfl) (by kernel_rfl) (by kernel_rfl) (by kernel_rfl)
    | exact fun _ _ => rfl
    | exact ⟨fun _ _ => rfl, fun _ _ => rfl⟩
    | exact ⟨fun _ _ => rfl, fun _ _ => rfl, fun _ _ => rfl⟩
    | exact fun _ => rfl
    | exact fun _ q => nomatch q
    | kernel_rfl
    | constructor

theorem text_10 : ∃ d, (recsOf hd.view_39)[10]? = some d ∧ IsSs fnm (nsOf (n_qscale.map Str.ofString)) (fun x => d.scope.names.lookup x) b_qscale d.body := by
  refine ⟨_, rfl, ?_⟩
  unfold b_qscale
  repeat' first
    | exact loc_of (by kernel_rfl)
    | exact or_of (by kernel_rfl)
    | exact blockOk_of (by kernel_rfl)
    | exact gl_of (by kernel_rfl)
    | exact sw_comp (by kernel_rfl) (by kernel_rfl) (by kernel_rfl)
    | exact stores_of (by kernel_rfl) (by kernel_rfl) (by kernel_rfl) (by kernel_rfl) (by kernel_rfl) (by kernel_rfl) (by kernel_rfl)
    | exact fun _ _ => rfl
    | exact ⟨fun _ _ => rfl, fun _ _ => rfl⟩
    | exact ⟨fun _ _ => rfl, fun _ _ => rfl, fun _ _ => rfl⟩
    | exact fun _ => rfl
    | exact fun _ q => nomatch q
    | kernel_rfl
    | constructor

theorem text_11 : ∃ d, (recsOf hd.view_39)[11]? = some d ∧ IsSs fnm (nsOf (n_qraise.map Str.ofString)) (fun x => d.scope.names.lookup x) b_qraise d.body := by
  refine ⟨_, rfl, ?_⟩
  unfold b_qraise
  repeat' first
    | exact loc_of (by kernel_rfl)
    | exact or_of (by kernel_rfl)
    | exact blockOk_of (by kernel_rfl)
    | exact gl_of (by kernel_rfl)
    | exact sw_comp (by kernel_rfl) (by kernel_rfl) (by kernel_rfl)
    | exact stores_of (by kernel_rfl) (by kernel_rfl) (by kernel_rfl) (by kernel_rfl) (by kernel_rfl) (by kernel_rfl) (by kernel_rfl)
    | exact fun _ _ => rfl
    | exact ⟨fun _ _ => rfl, fun _ _ => rfl⟩
    | exact ⟨fun _ _ => rfl, fun _ _ => rfl, fun _ _ => rfl⟩
    | exact fun _ => rfl
    | exact fun _ q => nomatch q
    | kernel_rfl
    | constructor

theorem text_12 : ∃ d, (recsOf hd.view_39)[12]? = some d ∧ IsSs fnm (nsOf (n_qmul.map Str.ofString)) (fun x => d.scope.names.lookup x) b_qmul d.body := by
  refine ⟨_, rfl, ?_⟩
  unfold b_qmul
  repeat' first
    | exact loc_of (by kernel_rfl)
    | exact or_of (by kernel_rfl)
    | exact blockOk_of (by kernel_rfl)
    | exact gl_of (by kernel_rfl)
    | exact sw_comp (by kernel_rfl) (by kernel_rfl) (by kernel_rfl)
    | exact stores_of (by kernel_rfl) (by kernel_rfl) (by kernel_rfl) (by kernel_rfl) (by kernel_rfl) (by kernel_rfl) (by kernel_rfl)
    | exact fun _ _ => rfl
    | exact ⟨fun _ _ => rfl, fun _ _ => rfl⟩
    | exact ⟨fun _ _ => rfl, fun _ _ => rfl, fun _ _ => rfl⟩
    | exact fun _ => rfl
    | exact fun _ q => nomatch q
    | kernel_rfl
    | constructor

theorem text_13 : ∃ d, (recsOf hd.view_39)[13]? = some d ∧ IsSs fnm (nsOf (n_qdivmod.map Str.ofString)) (fun x => d.scope.names.lookup x) b_qdivmod d.body := by
  refine ⟨_, rfl, ?_⟩
  unfold b_qdivmod
  repeat' first
    | exact loc_of (by kernel_rfl)
    | exact or_of (by kernel_rfl)
    | exact blockOk_of (by kernel_rfl)
    | exact gl_of (by kernel_rfl)
    | exact sw_comp (by kernel_rfl) (by kernel_rfl) (by kernel_rfl)
    | exact stores_of (by kernel_rfl) (by kernel_rfl) (by kernel_rfl) (by kernel_rfl) (by kernel_rfl) (by kernel_rfl) (by kernel_rfl)
    | exact fun _ _ => rfl
    | exact ⟨fun _ _ => rfl, fun _ _ => rfl⟩
    | exact ⟨fun _ _ => rfl, fun _ _ => rfl, fun _ _ => rfl⟩
    | exact fun _ => rfl
    | exact fun _ q => nomatch q
    | kernel_rfl
    | constructor

theorem text_14 : ∃ d, (recsOf hd.view_39)[14]? = some d ∧ IsSs fnm (nsOf (n_qderive.map Str.ofString)) (fun x => d.scope.names.lookup x) b_qderive d.body := by
  refine ⟨_, rfl, ?_⟩
  unfold b_qderive
  repeat' first
    | exact loc_of (by kernel_rfl)
    | exact or_of (by kernel_rfl)
    | exact blockOk_of (by kernel_rfl)
    | exact gl_of (by kernel_rfl)
    | exact sw_comp (by kernel_rfl) (by kernel_rfl) (by kernel_rfl)
    | exact stores_of (by kernel_rfl) (by kernel_rfl) (by kernel_rfl) (by kernel_rfl) (by kernel_rfl) (by kernel_rfl) (by kernel_rfl)
    | exact fun _ _ => rfl
    | exact ⟨fun _ _ => rfl, fun _ _ => rfl⟩
    | exact ⟨fun _ _ => rfl, fun _ _ => rfl, fun _ _ => rfl⟩
    | exact fun _ => rfl
    | exact fun _ q => nomatch q
    | kernel_rfl
    | constructor

theorem text_15 : ∃ d, (recsOf hd.view_39)[15]? = some d ∧ IsSs fnm (nsOf (n_qintegral.map Str.ofString)) (fun x => d.scope.names.lookup x) b_qintegral d.body := by
  refine ⟨_, rfl, ?_⟩
  unfold b_qintegral
  repeat' first
    | exact loc_of (by kernel_rfl)
    | exact or_of (by kernel_rfl)
    | exact blockOk_of (by kernel_rfl)
    | exact gl_of (by kernel_rfl)
    | exact sw_comp (by kernel_rfl) (by kernel_rfl) (by kernel_rfl)
    | exact stores_of (by kernel_rfl) (by kernel_rfl) (by kernel_rfl) (by kernel_rfl) (by kernel_rfl) (by kernel_rfl) (by kernel_rfl)
    | exact fun _ _ => rfl
    | exact ⟨fun _ _ => rfl, fun _ _ => rfl⟩
    | exact ⟨fun _ _ => rfl, fun _ _ => rfl, fun _ _ => rfl⟩
    | exact fun _ => rfl
    | exact fun _ q => nomatch q
    | kernel_rfl
    | constructor

theorem text_16 : ∃ d, (recsOf hd.view_39)[16]? = some d ∧ IsSs fnm (nsOf (n_qat.map Str.ofString)) (fun x => d.scope.names.lookup x) b_qat d.body := by
  refine ⟨_, rfl, ?_⟩
  unfold b_qat
  repeat' first
    | exact loc_of (by kernel_rfl)
    | exact or_of (by kernel_rfl)
    | exact blockOk_of (by kernel_rfl)
    | exact gl_of (by kernel_rfl)
    | exact sw_comp (by kernel_rfl) (by kernel_rfl) (by kernel_rfl)
    | exact stores_of (by kernel_rfl) (by kernel_rfl) (by kernel_rfl) (by kernel_rfl) (by kernel_rfl) (by kernel_rfl) (by kernel_rfl)
    | exact fun _ _ => rfl
    | exact ⟨fun _ _ => rfl, fun _ _ => rfl⟩
    | exact ⟨fun _ _ => rfl, fun _ _ => rfl, fun _ _ => rfl⟩
    | exact fun _ => rfl
    | exact fun _ q => nomatch q
    | kernel_rfl
    | constructor

theorem text_17 : ∃ d, (recsOf hd.view_39)[17]? = some d ∧ IsSs fnm (nsOf (n_qcompose.map Str.ofString)) (fun x => d.scope.names.lookup x) b_qcompose d.body := by
  refine ⟨_, rfl, ?_⟩
  unfold b_qcompose
  repeat' first
    | exact loc_of (by kernel_rfl)
    | exact or_of (by kernel_rfl)
    | exact blockOk_of (by kernel_rfl)
    | exact gl_of (by kernel_rfl)
    | exact sw_comp (by kernel_rfl) (by kernel_rfl) (by kernel_rfl)
    | exact stores_of (by kernel_rfl) (by kernel_rfl) (by kernel_rfl) (by kernel_rfl) (by kernel_rfl) (by kernel_rfl) (by kernel_rfl)
    | exact fun _ _ => rfl
    | exact ⟨fun _ _ => rfl, fun _ _ => rfl⟩
    | exact ⟨fun _ _ => rfl, fun _ _ => rfl, fun _ _ => rfl⟩
    | exact fun _ => rfl
    | exact fun _ q => nomatch q
    | kernel_rfl
    | constructor

theorem text_18 : ∃ d, (recsOf hd.view_39)[18]? = some d ∧ IsSs fnm (nsOf (n_binomial_row.map Str.ofString)) (fun x => d.scope.names.lookup x) b_binomial_row d.body := by
  refine ⟨_, rfl, ?_⟩
  unfold b_binomial_row
  repeat' first
    | exact loc_of (by kernel_rfl)
    | exact or_of (by kernel_rfl)
    | exact blockOk_of (by kernel_rfl)
    | exact gl_of (by kernel_rfl)
    | exact sw_comp (by kernel_rfl) (by kernel_rfl) (by kernel_rfl)
    | exact stores_of (by kernel_rfl) (by kernel_rfl) (by kernel_rfl) (by kernel_rfl) (by kernel_rfl) (by kernel_rfl) (by kernel_rfl)
    | exact fun _ _ => rfl
    | exact ⟨fun _ _ => rfl, fun _ _ => rfl⟩
    | exact ⟨fun _ _ => rfl, fun _ _ => rfl, fun _ _ => rfl⟩
    | exact fun _ => rfl
    | exact fun _ q => nomatch q
    | kernel_rfl
    | constructor

theorem text_19 : ∃ d, (recsOf hd.view_39)[19]? = some d ∧ IsSs fnm (nsOf (n_bernoulli_row.map Str.ofString)) (fun x => d.scope.names.lookup x) b_bernoulli_row d.body := by
  refine ⟨_, rfl, ?_⟩
  unfold b_bernoulli_row
  repeat' first
    | exact loc_of (by kernel_rfl)
    | exact or_of (by kernel_rfl)
    | exact blockOk_of (by kernel_rfl)
    | exact gl_of (by kernel_rfl)
    | exact sw_comp (by kernel_rfl) (by kernel_rfl) (by kernel_rfl)
    | exact stores_of (by kernel_rfl) (by kernel_rfl) (by kernel_rfl) (by kernel_rfl) (by kernel_rfl) (by kernel_rfl) (by kernel_rfl)
    | exact fun _ _ => rfl
    | exact ⟨fun _ _ => rfl, fun _ _ => rfl⟩
    | exact ⟨fun _ _ => rfl, fun _ _ => rfl, fun _ _ => rfl⟩
    | exact fun _ => rfl
    | exact fun _ q => nomatch q
    | kernel_rfl
    | constructor

theorem text_20 : ∃ d, (recsOf hd.view_39)[20]? = some d ∧ IsSs fnm (nsOf (n_power_sum.map Str.ofString)) (fun x => d.scope.names.lookup x) b_power_sum d.body := by
  refine ⟨_, rfl, ?_⟩
  unfold b_power_sum
  repeat' first
    | exact loc_of (by kernel_rfl)
    | exact or_of (by kernel_rfl)
    | exact blockOk_of (by kernel_rfl)
    | exact gl_of (by kernel_rfl)
    | exact sw_comp (by kernel_rfl) (by kernel_rfl) (by kernel_rfl)
    | exact stores_of (by kernel_rfl) (by kernel_rfl) (by kernel_rfl) (by kernel_rfl) (by kernel_rfl) (by kernel_rfl) (by kernel_rfl)
    | exact fun _ _ => rfl
    | exact ⟨fun _ _ => rfl, fun _ _ => rfl⟩
    | exact ⟨fun _ _ => rfl, fun _ _ => rfl, fun _ _ => rfl⟩
    | exact fun _ => rfl
    | exact fun _ q => nomatch q
    | kernel_rfl
    | constructor

theorem text_21 : ∃ d, (recsOf hd.view_39)[21]? = some d ∧ IsSs fnm (nsOf (n_polynomial_sum.map Str.ofString)) (fun x => d.scope.names.lookup x) b_polynomial_sum d.body := by
  refine ⟨_, rfl, ?_⟩
  unfold b_polynomial_sum
  repeat' first
    | exact loc_of (by kernel_rfl)
    | exact or_of (by kernel_rfl)
    | exact blockOk_of (by kernel_rfl)
    | exact gl_of (by kernel_rfl)
    | exact sw_comp (by kernel_rfl) (by kernel_rfl) (by kernel_rfl)
    | exact stores_of (by kernel_rfl) (by kernel_rfl) (by kernel_rfl) (by kernel_rfl) (by kernel_rfl) (by kernel_rfl) (by kernel_rfl)
    | exact fun _ _ => rfl
    | exact ⟨fun _ _ => rfl, fun _ _ => rfl⟩
    | exact ⟨fun _ _ => rfl, fun _ _ => rfl, fun _ _ => rfl⟩
    | exact fun _ => rfl
    | exact fun _ q => nomatch q
    | kernel_rfl
    | constructor

theorem text_22 : ∃ d, (recsOf hd.view_39)[22]? = some d ∧ IsSs fnm (nsOf (n_law_draw.map Str.ofString)) (fun x => d.scope.names.lookup x) b_law_draw d.body := by
  refine ⟨_, rfl, ?_⟩
  unfold b_law_draw
  repeat' first
    | exact loc_of (by kernel_rfl)
    | exact or_of (by kernel_rfl)
    | exact blockOk_of (by kernel_rfl)
    | exact gl_of (by kernel_rfl)
    | exact sw_comp (by kernel_rfl) (by kernel_rfl) (by kernel_rfl)
    | exact stores_of (by kernel_rfl) (by kernel_rfl) (by kernel_rfl) (by kernel_rfl) (by kernel_rfl) (by kernel_rfl) (by kernel_rfl)
    | exact fun _ _ => rfl
    | exact ⟨fun _ _ => rfl, fun _ _ => rfl⟩
    | exact ⟨fun _ _ => rfl, fun _ _ => rfl, fun _ _ => rfl⟩
    | exact fun _ => rfl
    | exact fun _ q => nomatch q
    | kernel_rfl
    | constructor

theorem text_23 : ∃ d, (recsOf hd.view_39)[23]? = some d ∧ IsSs fnm (nsOf (n_law_bernoulli.map Str.ofString)) (fun x => d.scope.names.lookup x) b_law_bernoulli d.body := by
  refine ⟨_, rfl, ?_⟩
  unfold b_law_bernoulli
  repeat' first
    | exact loc_of (by kernel_rfl)
    | exact or_of (by kernel_rfl)
    | exact blockOk_of (by kernel_rfl)
    | exact gl_of (by kernel_rfl)
    | exact sw_comp (by kernel_rfl) (by kernel_rfl) (by kernel_rfl)
    | exact stores_of (by kernel_rfl) (by kernel_rfl) (by kernel_rfl) (by kernel_rfl) (by kernel_rfl) (by kernel_rfl) (by kernel_rfl)
    | exact fun _ _ => rfl
    | exact ⟨fun _ _ => rfl, fun _ _ => rfl⟩
    | exact ⟨fun _ _ => rfl, fun _ _ => rfl, fun _ _ => rfl⟩
    | exact fun _ => rfl
    | exact fun _ q => nomatch q
    | kernel_rfl
    | constructor

theorem text_24 : ∃ d, (recsOf hd.view_39)[24]? = some d ∧ IsSs fnm (nsOf (n_law_cut_right.map Str.ofString)) (fun x => d.scope.names.lookup x) b_law_cut_right d.body := by
  refine ⟨_, rfl, ?_⟩
  unfold b_law_cut_right
  repeat' first
    | exact loc_of (by kernel_rfl)
    | exact or_of (by kernel_rfl)
    | exact blockOk_of (by kernel_rfl)
    | exact gl_of (by kernel_rfl)
    | exact sw_comp (by kernel_rfl) (by kernel_rfl) (by kernel_rfl)
    | exact stores_of (by kernel_rfl) (by kernel_rfl) (by kernel_rfl) (by kernel_rfl) (by kernel_rfl) (by kernel_rfl) (by kernel_rfl)
    | exact fun _ _ => rfl
    | exact ⟨fun _ _ => rfl, fun _ _ => rfl⟩
    | exact ⟨fun _ _ => rfl, fun _ _ => rfl, fun _ _ => rfl⟩
    | exact fun _ => rfl
    | exact fun _ q => nomatch q
    | kernel_rfl
    | constructor

theorem text_25 : ∃ d, (recsOf hd.view_39)[25]? = some d ∧ IsSs fnm (nsOf (n_law_sums_right.map Str.ofString)) (fun x => d.scope.names.lookup x) b_law_sums_right d.body := by
  refine ⟨_, rfl, ?_⟩
  unfold b_law_sums_right
  repeat' first
    | exact loc_of (by kernel_rfl)
    | exact or_of (by kernel_rfl)
    | exact blockOk_of (by kernel_rfl)
    | exact gl_of (by kernel_rfl)
    | exact sw_comp (by kernel_rfl) (by kernel_rfl) (by kernel_rfl)
    | exact stores_of (by kernel_rfl) (by kernel_rfl) (by kernel_rfl) (by kernel_rfl) (by kernel_rfl) (by kernel_rfl) (by kernel_rfl)
    | exact fun _ _ => rfl
    | exact ⟨fun _ _ => rfl, fun _ _ => rfl⟩
    | exact ⟨fun _ _ => rfl, fun _ _ => rfl, fun _ _ => rfl⟩
    | exact fun _ => rfl
    | exact fun _ q => nomatch q
    | kernel_rfl
    | constructor

theorem text_26 : ∃ d, (recsOf hd.view_39)[26]? = some d ∧ IsSs fnm (nsOf (n_law_integral_right.map Str.ofString)) (fun x => d.scope.names.lookup x) b_law_integral_right d.body := by
  refine ⟨_, rfl, ?_⟩
  unfold b_law_integral_right
  repeat' first
    | exact loc_of (by kernel_rfl)
    | exact or_of (by kernel_rfl)
    | exact blockOk_of (by kernel_rfl)
    | exact gl_of (by kernel_rfl)
    | exact sw_comp (by kernel_rfl) (by kernel_rfl) (by kernel_rfl)
    | exact stores_of (by kernel_rfl) (by kernel_rfl) (by kernel_rfl) (by kernel_rfl) (by kernel_rfl) (by kernel_rfl) (by kernel_rfl)
    | exact fun _ _ => rfl
    | exact ⟨fun _ _ => rfl, fun _ _ => rfl⟩
    | exact ⟨fun _ _ => rfl, fun _ _ => rfl, fun _ _ => rfl⟩
    | exact fun _ => rfl
    | exact fun _ q => nomatch q
    | kernel_rfl
    | constructor

theorem text_27 : ∃ d, (recsOf hd.view_39)[27]? = some d ∧ IsSs fnm (nsOf (n_law.map Str.ofString)) (fun x => d.scope.names.lookup x) b_law d.body := by
  refine ⟨_, rfl, ?_⟩
  unfold b_law
  repeat' first
    | exact loc_of (by kernel_rfl)
    | exact or_of (by kernel_rfl)
    | exact blockOk_of (by kernel_rfl)
    | exact gl_of (by kernel_rfl)
    | exact sw_comp (by kernel_rfl) (by kernel_rfl) (by kernel_rfl)
    | exact stores_of (by kernel_rfl) (by kernel_rfl) (by kernel_rfl) (by kernel_rfl) (by kernel_rfl) (by kernel_rfl) (by kernel_rfl)
    | exact fun _ _ => rfl
    | exact ⟨fun _ _ => rfl, fun _ _ => rfl⟩
    | exact ⟨fun _ _ => rfl, fun _ _ => rfl, fun _ _ => rfl⟩
    | exact fun _ => rfl
    | exact fun _ q => nomatch q
    | kernel_rfl
    | constructor
end Mine
namespace Mine
open PySem PySem.Spec PySem.Calls PyProof.Rows PyProof.V PySem.W
set_option maxRecDepth 100000
noncomputable def chk (d : DefRec) (ps : List Nat) (l : List Str) : Bool :=
  !d.scope.isCoroutine && !d.scope.isGenerator && decide (d.scope.kind = .function) && (ps.all fun x => d.scope.names.lookup (nsOf l x) == some .local || d.scope.names.lookup (nsOf l x) == some .cell) &&
    decide (d.scope.names.map (·.1)).Nodup && decide ps.Nodup && decide l.Nodup && cleanB l
def Bnd (d : DefRec) (ps : List Nat) (ns : Nat → Str) : Prop := ∀ (pm code doc : Value) (vs : List Value), vs.length = ps.length → bindArgs (docDef d.name d.params d.body d.scope pm code doc) ⟨vs, []⟩ = pure ((ps.map ns).zip vs)
theorem bnd1 {d : DefRec} {p : Nat} {ns : Nat → Str} (h : ∀ (pm code doc v : Value), bindArgs (docDef d.name d.params d.body d.scope pm code doc) ⟨[v], []⟩ = pure [(ns p, v)]) : Bnd d [p] ns := fun pm code doc vs e => by
  obtain ⟨v, r, rfl⟩ := List.exists_cons_of_length_eq_add_one e
  rw [List.eq_nil_of_length_eq_zero (Nat.succ.inj e)]
  exact h pm code doc v
theorem bnd2 {d : DefRec} {p q : Nat} {ns : Nat → Str} (h : ∀ (pm code doc u v : Value), bindArgs (docDef d.name d.params d.body d.scope pm code doc) ⟨[u, v], []⟩ = pure [(ns p, u), (ns q, v)]) : Bnd d [p, q] ns := fun pm code doc vs e => by
  obtain ⟨u, r, rfl⟩ := List.exists_cons_of_length_eq_add_one e
  obtain ⟨v, t, rfl⟩ := List.exists_cons_of_length_eq_add_one (Nat.succ.inj e)
  rw [List.eq_nil_of_length_eq_zero (Nat.succ.inj (Nat.succ.inj e))]
  exact h pm code doc u v
theorem fnOk_of {c : Ctx} {p : Program} {loose : List Str} {mean : ExcName → Option Value} {mb : Str → Option Value} (T : Top p loose mean c.mg mb c.h₀) {f : Nat} {ps : List Nat} {b : List St} {l : List Str}
    (h1 : ∃ d, (recsOf p)[f]? = some d ∧ d.name = c.fnm f ∧ chk d ps l = true ∧ Bnd d ps (nsOf l)) (h2 : ∃ d, (recsOf p)[f]? = some d ∧ IsSs c.fnm (nsOf l) (fun x => d.scope.names.lookup x) b d.body) : ∃ a o fd stmts ns, FnOk c f ps b a o fd stmts ns := by
  obtain ⟨d, hd, hn, hc, hb⟩ := h1
  obtain ⟨d', hd', his⟩ := h2
  rw [hd] at hd'; cases hd'
  obtain ⟨a, o, pm, code, doc, g1, g2, g3, g4⟩ := T.fn d (List.mem_of_getElem? hd)
  unfold chk at hc
  simp only [Bool.and_eq_true, decide_eq_true_eq, List.all_eq_true, Bool.or_eq_true, Bool.not_eq_true', beq_iff_eq] at hc
  obtain ⟨⟨⟨⟨⟨⟨⟨c1, c2⟩, c3⟩, c4⟩, c5⟩, c6⟩, c7⟩, c8⟩ := hc
  exact ⟨a, o, _, d.body, nsOf l, { at_ := by rw [← hn]; exact g1, obj := g2, data := g3, rec_ := g4, body := rfl, clo := rfl, glob := rfl, bi := rfl, co := c1, gen := c2, kind := c3, bind := hb pm code doc, pk := c4, nd := c5, pnd := c6, nso := nsOk_of c7 c8, is := his }⟩
theorem more_0 : ∃ d, (recsOf hd.view_39)[0]? = some d ∧ d.name = fnm 0 ∧ chk d [0, 1] (n_gcd.map Str.ofString) = true ∧ Bnd d [0, 1] (nsOf (n_gcd.map Str.ofString)) := by
  refine ⟨_, rfl, ?_, ?_, ?_⟩
  · kernel_rfl
  · kernel_rfl
  · exact bnd2 (fun pm code doc u v => rfl)
theorem more_1 : ∃ d, (recsOf hd.view_39)[1]? = some d ∧ d.name = fnm 1 ∧ chk d [0, 1] (n_rat.map Str.ofString) = true ∧ Bnd d [0, 1] (nsOf (n_rat.map Str.ofString)) := by
  refine ⟨_, rfl, ?_, ?_, ?_⟩
  · kernel_rfl
  · kernel_rfl
  · exact bnd2 (fun pm code doc u v => rfl)
theorem more_2 : ∃ d, (recsOf hd.view_39)[2]? = some d ∧ d.name = fnm 2 ∧ chk d [0, 1] (n_radd.map Str.ofString) = true ∧ Bnd d [0, 1] (nsOf (n_radd.map Str.ofString)) := by
  refine ⟨_, rfl, ?_, ?_, ?_⟩
  · kernel_rfl
  · kernel_rfl
  · exact bnd2 (fun pm code doc u v => rfl)
theorem more_3 : ∃ d, (recsOf hd.view_39)[3]? = some d ∧ d.name = fnm 3 ∧ chk d [0, 1] (n_rmul.map Str.ofString) = true ∧ Bnd d [0, 1] (nsOf (n_rmul.map Str.ofString)) := by
  refine ⟨_, rfl, ?_, ?_, ?_⟩
  · kernel_rfl
  · kernel_rfl
  · exact bnd2 (fun pm code doc u v => rfl)
theorem more_4 : ∃ d, (recsOf hd.view_39)[4]? = some d ∧ d.name = fnm 4 ∧ chk d [0, 1] (n_rdiv.map Str.ofString) = true ∧ Bnd d [0, 1] (nsOf (n_rdiv.map Str.ofString)) := by
  refine ⟨_, rfl, ?_, ?_, ?_⟩
  · kernel_rfl
  · kernel_rfl
  · exact bnd2 (fun pm code doc u v => rfl)
theorem more_5 : ∃ d, (recsOf hd.view_39)[5]? = some d ∧ d.name = fnm 5 ∧ chk d [0] (n_rneg.map Str.ofString) = true ∧ Bnd d [0] (nsOf (n_rneg.map Str.ofString)) := by
  refine ⟨_, rfl, ?_, ?_, ?_⟩
  · kernel_rfl
  · kernel_rfl
  · exact bnd1 (fun pm code doc v => rfl)
theorem more_6 : ∃ d, (recsOf hd.view_39)[6]? = some d ∧ d.name = fnm 6 ∧ chk d [0] (n_qtrim.map Str.ofString) = true ∧ Bnd d [0] (nsOf (n_qtrim.map Str.ofString)) := by
  refine ⟨_, rfl, ?_, ?_, ?_⟩
  · kernel_rfl
  · kernel_rfl
  · exact bnd1 (fun pm code doc v => rfl)
theorem more_7 : ∃ d, (recsOf hd.view_39)[7]? = some d ∧ d.name = fnm 7 ∧ chk d [0, 1] (n_qadd.map Str.ofString) = true ∧ Bnd d [0, 1] (nsOf (n_qadd.map Str.ofString)) := by
  refine ⟨_, rfl, ?_, ?_, ?_⟩
  · kernel_rfl
  · kernel_rfl
  · exact bnd2 (fun pm code doc u v => rfl)
theorem more_8 : ∃ d, (recsOf hd.view_39)[8]? = some d ∧ d.name = fnm 8 ∧ chk d [0] (n_qneg.map Str.ofString) = true ∧ Bnd d [0] (nsOf (n_qneg.map Str.ofString)) := by
  refine ⟨_, rfl, ?_, ?_, ?_⟩
  · kernel_rfl
  · kernel_rfl
  · exact bnd1 (fun pm code doc v => rfl)
theorem more_9 : ∃ d, (recsOf hd.view_39)[9]? = some d ∧ d.name = fnm 9 ∧ chk d [0, 1] (n_qsub.map Str.ofString) = true ∧ Bnd d [0, 1] (nsOf (n_qsub.map Str.ofString)) := by
  refine ⟨_, rfl, ?_, ?_, ?_⟩
  · kernel_rfl
  · kernel_rfl
  · exact bnd2 (fun pm code doc u v => rfl)
theorem more_10 : ∃ d, (recsOf hd.view_39)[10]? = some d ∧ d.name = fnm 10 ∧ chk d [0, 1] (n_qscale.map Str.ofString) = true ∧ Bnd d [0, 1] (nsOf (n_qscale.map Str.ofString)) := by
  refine ⟨_, rfl, ?_, ?_, ?_⟩
  · kernel_rfl
  · kernel_rfl
  · exact bnd2 (fun pm code doc u v => rfl)
theorem more_11 : ∃ d, (recsOf hd.view_39)[11]? = some d ∧ d.name = fnm 11 ∧ chk d [0, 1] (n_qraise.map Str.ofString) = true ∧ Bnd d [0, 1] (nsOf (n_qraise.map Str.ofString)) := by
  refine ⟨_, rfl, ?_, ?_, ?_⟩
  · kernel_rfl
  · kernel_rfl
  · exact bnd2 (fun pm code doc u v => rfl)
theorem more_12 : ∃ d, (recsOf hd.view_39)[12]? = some d ∧ d.name = fnm 12 ∧ chk d [0, 1] (n_qmul.map Str.ofString) = true ∧ Bnd d [0, 1] (nsOf (n_qmul.map Str.ofString)) := by
  refine ⟨_, rfl, ?_, ?_, ?_⟩
  · kernel_rfl
  · kernel_rfl
  · exact bnd2 (fun pm code doc u v => rfl)
theorem more_13 : ∃ d, (recsOf hd.view_39)[13]? = some d ∧ d.name = fnm 13 ∧ chk d [0, 1] (n_qdivmod.map Str.ofString) = true ∧ Bnd d [0, 1] (nsOf (n_qdivmod.map Str.ofString)) := by
  refine ⟨_, rfl, ?_, ?_, ?_⟩
  · kernel_rfl
  · kernel_rfl
  · exact bnd2 (fun pm code doc u v => rfl)
theorem more_14 : ∃ d, (recsOf hd.view_39)[14]? = some d ∧ d.name = fnm 14 ∧ chk d [0] (n_qderive.map Str.ofString) = true ∧ Bnd d [0] (nsOf (n_qderive.map Str.ofString)) := by
  refine ⟨_, rfl, ?_, ?_, ?_⟩
  · kernel_rfl
  · kernel_rfl
  · exact bnd1 (fun pm code doc v => rfl)
theorem more_15 : ∃ d, (recsOf hd.view_39)[15]? = some d ∧ d.name = fnm 15 ∧ chk d [0] (n_qintegral.map Str.ofString) = true ∧ Bnd d [0] (nsOf (n_qintegral.map Str.ofString)) := by
  refine ⟨_, rfl, ?_, ?_, ?_⟩
  · kernel_rfl
  · kernel_rfl
  · exact bnd1 (fun pm code doc v => rfl)
theorem more_16 : ∃ d, (recsOf hd.view_39)[16]? = some d ∧ d.name = fnm 16 ∧ chk d [0, 1] (n_qat.map Str.ofString) = true ∧ Bnd d [0, 1] (nsOf (n_qat.map Str.ofString)) := by
  refine ⟨_, rfl, ?_, ?_, ?_⟩
  · kernel_rfl
  · kernel_rfl
  · exact bnd2 (fun pm code doc u v => rfl)
theorem more_17 : ∃ d, (recsOf hd.view_39)[17]? = some d ∧ d.name = fnm 17 ∧ chk d [0, 1] (n_qcompose.map Str.ofString) = true ∧ Bnd d [0, 1] (nsOf (n_qcompose.map Str.ofString)) := by
  refine ⟨_, rfl, ?_, ?_, ?_⟩
  · kernel_rfl
  · kernel_rfl
  · exact bnd2 (fun pm code doc u v => rfl)
theorem more_18 : ∃ d, (recsOf hd.view_39)[18]? = some d ∧ d.name = fnm 18 ∧ chk d [0] (n_binomial_row.map Str.ofString) = true ∧ Bnd d [0] (nsOf (n_binomial_row.map Str.ofString)) := by
  refine ⟨_, rfl, ?_, ?_, ?_⟩
  · kernel_rfl
  · kernel_rfl
  · exact bnd1 (fun pm code doc v => rfl)
theorem more_19 : ∃ d, (recsOf hd.view_39)[19]? = some d ∧ d.name = fnm 19 ∧ chk d [0] (n_bernoulli_row.map Str.ofString) = true ∧ Bnd d [0] (nsOf (n_bernoulli_row.map Str.ofString)) := by
  refine ⟨_, rfl, ?_, ?_, ?_⟩
  · kernel_rfl
  · kernel_rfl
  · exact bnd1 (fun pm code doc v => rfl)
theorem more_20 : ∃ d, (recsOf hd.view_39)[20]? = some d ∧ d.name = fnm 20 ∧ chk d [0] (n_power_sum.map Str.ofString) = true ∧ Bnd d [0] (nsOf (n_power_sum.map Str.ofString)) := by
  refine ⟨_, rfl, ?_, ?_, ?_⟩
  · kernel_rfl
  · kernel_rfl
  · exact bnd1 (fun pm code doc v => rfl)
theorem more_21 : ∃ d, (recsOf hd.view_39)[21]? = some d ∧ d.name = fnm 21 ∧ chk d [0] (n_polynomial_sum.map Str.ofString) = true ∧ Bnd d [0] (nsOf (n_polynomial_sum.map Str.ofString)) := by
  refine ⟨_, rfl, ?_, ?_, ?_⟩
  · kernel_rfl
  · kernel_rfl
  · exact bnd1 (fun pm code doc v => rfl)
theorem more_22 : ∃ d, (recsOf hd.view_39)[22]? = some d ∧ d.name = fnm 22 ∧ chk d [0, 1] (n_law_draw.map Str.ofString) = true ∧ Bnd d [0, 1] (nsOf (n_law_draw.map Str.ofString)) := by
  refine ⟨_, rfl, ?_, ?_, ?_⟩
  · kernel_rfl
  · kernel_rfl
  · exact bnd2 (fun pm code doc u v => rfl)
theorem more_23 : ∃ d, (recsOf hd.view_39)[23]? = some d ∧ d.name = fnm 23 ∧ chk d [0, 1] (n_law_bernoulli.map Str.ofString) = true ∧ Bnd d [0, 1] (nsOf (n_law_bernoulli.map Str.ofString)) := by
  refine ⟨_, rfl, ?_, ?_, ?_⟩
  · kernel_rfl
  · kernel_rfl
  · exact bnd2 (fun pm code doc u v => rfl)
theorem more_24 : ∃ d, (recsOf hd.view_39)[24]? = some d ∧ d.name = fnm 24 ∧ chk d [0] (n_law_cut_right.map Str.ofString) = true ∧ Bnd d [0] (nsOf (n_law_cut_right.map Str.ofString)) := by
  refine ⟨_, rfl, ?_, ?_, ?_⟩
  · kernel_rfl
  · kernel_rfl
  · exact bnd1 (fun pm code doc v => rfl)
theorem more_25 : ∃ d, (recsOf hd.view_39)[25]? = some d ∧ d.name = fnm 25 ∧ chk d [0] (n_law_sums_right.map Str.ofString) = true ∧ Bnd d [0] (nsOf (n_law_sums_right.map Str.ofString)) := by
  refine ⟨_, rfl, ?_, ?_, ?_⟩
  · kernel_rfl
  · kernel_rfl
  · exact bnd1 (fun pm code doc v => rfl)
theorem more_26 : ∃ d, (recsOf hd.view_39)[26]? = some d ∧ d.name = fnm 26 ∧ chk d [0] (n_law_integral_right.map Str.ofString) = true ∧ Bnd d [0] (nsOf (n_law_integral_right.map Str.ofString)) := by
  refine ⟨_, rfl, ?_, ?_, ?_⟩
  · kernel_rfl
  · kernel_rfl
  · exact bnd1 (fun pm code doc v => rfl)
theorem more_27 : ∃ d, (recsOf hd.view_39)[27]? = some d ∧ d.name = fnm 27 ∧ chk d [0] (n_law.map Str.ofString) = true ∧ Bnd d [0] (nsOf (n_law.map Str.ofString)) := by
  refine ⟨_, rfl, ?_, ?_, ?_⟩
  · kernel_rfl
  · kernel_rfl
  · exact bnd1 (fun pm code doc v => rfl)
theorem gets_mem {α : Type} : ∀ {l : List (Nat × α)} {k : Nat} {v : α}, gets l k = some v → (k, v) ∈ l
  | p :: r, k, v, h => by
    rw [gets_cons] at h
    by_cases e : k = p.1
    · rw [if_pos e] at h
      cases h
      rw [e]
      exact List.mem_cons_self ..
    · rw [if_neg e] at h
      exact List.mem_cons_of_mem _ (gets_mem h)
theorem all_fns {c : Ctx} (hf : c.fnm = fnm) (ht : c.tbl = tbl) {loose : List Str} {mean : ExcName → Option Value} {mb : Str → Option Value} (T : Top hd.view_39 loose mean c.mg mb c.h₀) :
    ∀ f ps b, gets c.tbl f = some (ps, b) → ∃ a o fd stmts ns, FnOk c f ps b a o fd stmts ns := by
  intro f ps b h
  rw [ht] at h
  have h := gets_mem h
  obtain ⟨prog, w, h₀, mg, mb', tb, fn⟩ := c
  cases hf
  have all : ∀ p ∈ tbl, ∃ a o fd stmts ns, FnOk ⟨prog, w, h₀, mg, mb', tb, fnm⟩ p.1 p.2.1 p.2.2 a o fd stmts ns := by
    unfold tbl
    exact List.forall_mem_cons.mpr ⟨fnOk_of T more_0 text_0, List.forall_mem_cons.mpr ⟨fnOk_of T more_1 text_1, List.forall_mem_cons.mpr ⟨fnOk_of T more_2 text_2, List.forall_mem_cons.mpr ⟨fnOk_of T more_3 text_3, List.forall_mem_cons.mpr ⟨fnOk_of T more_4 text_4, List.forall_mem_cons.mpr ⟨fnOk_of T more_5 text_5, List.forall_mem_cons.mpr ⟨fnOk_of T more_6 text_6, List.forall_mem_cons.mpr ⟨fnOk_of T more_7 text_7, List.forall_mem_cons.mpr ⟨fnOk_of T more_8 text_8, List.forall_mem_cons.mpr ⟨fnOk_of T more_9 text_9, List.forall_mem_cons.mpr ⟨fnOk_of T more_10 text_10, List.forall_mem_cons.mpr ⟨fnOk_of T more_11 text_11, List.forall_mem_cons.mpr ⟨fnOk_of T more_12 text_12, List.forall_mem_cons.mpr ⟨fnOk_of T more_13 text_13, List.forall_mem_cons.mpr ⟨fnOk_of T more_14 text_14, List.forall_mem_cons.mpr ⟨fnOk_of T more_15 text_15, List.forall_mem_cons.mpr ⟨fnOk_of T more_16 text_16, List.forall_mem_cons.mpr ⟨fnOk_of T more_17 text_17, List.forall_mem_cons.mpr ⟨fnOk_of T more_18 text_18, List.forall_mem_cons.mpr ⟨fnOk_of T more_19 text_19, List.forall_mem_cons.mpr ⟨fnOk_of T more_20 text_20, List.forall_mem_cons.mpr ⟨fnOk_of T more_21 text_21, List.forall_mem_cons.mpr ⟨fnOk_of T more_22 text_22, List.forall_mem_cons.mpr ⟨fnOk_of T more_23 text_23, List.forall_mem_cons.mpr ⟨fnOk_of T more_24 text_24, List.forall_mem_cons.mpr ⟨fnOk_of T more_25 text_25, List.forall_mem_cons.mpr ⟨fnOk_of T more_26 text_26, List.forall_mem_cons.mpr ⟨fnOk_of T more_27 text_27, List.forall_mem_nil _⟩⟩⟩⟩⟩⟩⟩⟩⟩⟩⟩⟩⟩⟩⟩⟩⟩⟩⟩⟩⟩⟩⟩⟩⟩⟩⟩⟩
  exact all _ h
end Mine
namespace Mine
open PySem PySem.Spec PySem.Calls PyProof.Rows PyProof.V PySem.W
set_option maxRecDepth 100000

theorem vrs_ints {T : Nat → Addr} {n : Nat} {h : Heap} : ∀ {vs : List Value} {ns : List Int}, IntsAre vs ns → VRs T n h (ns.map .int) vs
  | _, _, .nil => rfl
  | _, _, .cons i t r => ⟨_, _, rfl, ⟨t, rfl⟩, vrs_ints r⟩

theorem ctx_ok {w : World} {h₀ : Heap} {mg mb : Str → Option Value} {loose : List Str} {mean : ExcName → Option Value} (prog : Program) (KX : (hd.heap_39 w.params).In h₀) (T : Top hd.view_39 loose mean mg mb h₀) :
    Ctx.Ok ⟨prog, w, h₀, mg, mb, tbl, fnm⟩ where
  g := T.g
  b := T.b
  nolimit := T.nolimit
  r0 := by
    refine ⟨42, ?_⟩
    have h1 : mg "R0" = some (.ref 42) := mg_of KX T.g (by kernel_rfl)
    have h2 : ∃ o, (hd.heap_39 w.params).lookup 42 = some o ∧ o.cls = .type "tuple" ∧ ∃ n t u, o.data = .seq #[.int 0 t, .int 1 u] n := ⟨_, rfl, rfl, _, _, _, rfl⟩
    obtain ⟨o, e1, e2, n, t, u, e3⟩ := h2
    exact ⟨t, u, h1, o, KX _ _ e1, e2, n, e3⟩
  r1 := by
    refine ⟨43, ?_⟩
    have h1 : mg "R1" = some (.ref 43) := mg_of KX T.g (by kernel_rfl)
    have h2 : ∃ o, (hd.heap_39 w.params).lookup 43 = some o ∧ o.cls = .type "tuple" ∧ ∃ n t u, o.data = .seq #[.int 1 t, .int 1 u] n := ⟨_, rfl, rfl, _, _, _, rfl⟩
    obtain ⟨o, e1, e2, n, t, u, e3⟩ := h2
    exact ⟨t, u, h1, o, KX _ _ e1, e2, n, e3⟩
  b_abs := ⟨mg_none_of KX T.g (by kernel_rfl), (T.builtins _ (by decide +kernel)).trans (by kernel_rfl)⟩
  b_len := ⟨mg_none_of KX T.g (by kernel_rfl), (T.builtins _ (by decide +kernel)).trans (by kernel_rfl)⟩
  b_max := ⟨mg_none_of KX T.g (by kernel_rfl), (T.builtins _ (by decide +kernel)).trans (by kernel_rfl)⟩
  b_list := ⟨mg_none_of KX T.g (by kernel_rfl), (T.builtins _ (by decide +kernel)).trans (by kernel_rfl)⟩
  b_int := ⟨mg_none_of KX T.g (by kernel_rfl), (T.builtins _ (by decide +kernel)).trans (by kernel_rfl)⟩
  b_range := ⟨mg_none_of KX T.g (by kernel_rfl), (T.builtins _ (by decide +kernel)).trans (by kernel_rfl)⟩
  b_enum := ⟨mg_none_of KX T.g (by kernel_rfl), (T.builtins _ (by decide +kernel)).trans (by kernel_rfl)⟩
  b_rev := ⟨mg_none_of KX T.g (by kernel_rfl), (T.builtins _ (by decide +kernel)).trans (by kernel_rfl)⟩
  fn := all_fns (c := ⟨prog, w, h₀, mg, mb, tbl, fnm⟩) rfl rfl T

theorem final {w : World} {h₀ : Heap} {mg mb : Str → Option Value} {loose : List Str} {mean : ExcName → Option Value} (prog : Program) (KX : (hd.heap_39 w.params).In h₀) (T : Top hd.view_39 loose mean mg mb h₀)
    {d : DefRec} (hd' : (recsOf hd.view_39)[27]? = some d) {sh : Shared} {L fa a : Addr} {cd : Value} {m : Str → Option Value} (F : Fr h₀ L sh.heap m) {vs : List Value} {ns : List Int} (hL : h₀.IsList a vs.toArray) (hI : IntsAre vs ns) (hn : ns.length ≤ 63)
    (hm : m (Str.ofString "script") = some (.ref a)) {A : Around} (hA : AOk 100 A) {Q : Flow → Shared → Prop} {E : Value → Shared → Prop}
    (hQ : ∀ h' tk m', Fr h₀ L h' m' → Q (.ret (.bool true)) { sh with heap := h', toks := tk }) : wpAny (model prog w) A (execs d.body (envOf d.name d.scope L fa cd)) Q E sh := by
  have C := ctx_ok prog KX T
  obtain ⟨l', s', hr⟩ := law_run ns hn
  obtain ⟨d1, e1, his⟩ := text_27
  rw [hd'] at e1; cases e1
  obtain ⟨d2, e2, hname, hc, _⟩ := more_27
  rw [hd'] at e2; cases e2
  unfold chk at hc
  simp only [Bool.and_eq_true, decide_eq_true_eq, List.all_eq_true, Bool.or_eq_true, Bool.not_eq_true', beq_iff_eq] at hc
  obtain ⟨⟨⟨⟨⟨⟨⟨c1, c2⟩, c3⟩, c4⟩, c5⟩, c6⟩, c7⟩, c8⟩ := hc
  have hL' : sh.heap.IsList a vs.toArray := let ⟨o, ho, r⟩ := hL; ⟨o, F.keep _ _ ho, r⟩
  have hloc0 : h₀.get? L = none := fresh_none F.above
  have hv : ∀ {n : Nat} {h : Heap}, VRs (fun _ => a) n h (ns.map .int) vs := vrs_ints hI
  have I : Inv h₀ [0] (fun _ => a) ⟨[(0, ns.map .int)], 1⟩ sh.heap := by
    refine ⟨F.keep, ?_, ?_, ?_, ?_, ?_⟩
    · intro k l e
      rw [gets_cons] at e
      show k < 1
      by_cases hk : k = 0
      · omega
      · rw [if_neg hk] at e; cases e
    · intro k hk
      have : k = 0 := by have : k < 1 := hk; omega
      subst this
      exact ⟨_, vs, rfl, hL', hv⟩
    · intro k j hk hj _
      have : k < 1 := hk
      have : j < 1 := hj
      omega
    · intro k hk hm
      have : k = 0 := by have : k < 1 := hk; omega
      subst this; cases hm
    · intro k hk hm
      have : k = 0 := by have : k < 1 := hk; omega
      subst this; cases hm
  have hkl : d.scope.names.lookup (Str.ofString "script") = some .local := by
    have : ∃ d, (recsOf hd.view_39)[27]? = some d ∧ d.scope.names.lookup (Str.ofString "script") = some .local := ⟨_, rfl, by kernel_rfl⟩
    obtain ⟨d3, e3, q⟩ := this
    rw [hd'] at e3; cases e3
    exact q
  have hncell : ∀ z, d.scope.names.lookup z ≠ some .cell := by
    have : ∃ d, (recsOf hd.view_39)[27]? = some d ∧ (d.scope.names.all fun y => !(y.2 == .cell)) = true := ⟨_, rfl, by kernel_rfl⟩
    obtain ⟨d3, e3, q⟩ := this
    rw [hd'] at e3; cases e3
    intro z hz
    have := List.all_eq_true.mp q _ (lookup_mem hz)
    simp at this
  have X : Sit ⟨prog, w, h₀, mg, mb, tbl, fnm⟩ [0] (fun x => d.scope.names.lookup x) (nsOf (n_law.map Str.ofString)) (envOf d.name d.scope L fa cd) [(0, .lst 0)] (fun _ => a) ⟨[(0, ns.map .int)], 1⟩ sh.heap m := by
    refine ⟨I, ⟨F.ns, fun p hp => (nomatch hp), ?_, ?_⟩, ⟨c3, fun _ => rfl, rfl, rfl, fun z hz => absurd hz (hncell z)⟩, nsOk_of c7 c8, hloc0, fun p hp => (nomatch hp)⟩
    · intro x v hg _
      rw [gets_cons] at hg
      by_cases hx : x = 0
      · subst hx
        rw [if_pos rfl] at hg
        cases hg
        exact ⟨.ref a, hm, Nat.lt_succ_self 0, rfl⟩
      · rw [if_neg hx] at hg; cases hg
    · intro x v _ hk
      exact absurd hk (hncell _)
  have HS := (all_steps C 100).1.2.1
  refine HS [0] _ _ b_law d.body (envOf d.name d.scope L fa cd) _ _ _ _ _ _ sh m A Q E his (fun x y b h _ => (nomatch h)) X hA hr fun T' h' tk m' fl X' P hf => ?_
  obtain ⟨w', rfl, hw⟩ := hf
  have hw' : w' = .bool true := hw
  subst hw'
  exact hQ h' tk m' ⟨X'.env.tab, X'.inv.base, F.above⟩
end Mine
open PySem PySem.W PyProof.Rows
set_option maxRecDepth 100000 in
set_option maxHeartbeats 8000000 in
theorem PySem.Challenge.cw_tk0019_01_holds : PySem.Challenge.rw_tk0019_01.Holds := by
  exact Mine.hd (by
    k_go0
    refine Mine.final (d := ⟨_, _, _, _, _⟩) _ (by assumption) (by assumption) rfl (by assumption) (by assumption) (by assumption) ?_ ?_ ?_ ?_
    · omega
    · rfl
    · exact ⟨rfl, by show 1 + claimMargin + 1 + 100 < 900; decide, by show 4 + 3 + 4 * 100 + 200 < cLine; decide⟩
    · intro h' tk m' F'
      exact goodW_bool F' (by assumption) (fun _ => rfl) (by kernel_rfl) rfl)
