import PyProof.Rows.All
import Wide.All
import OpenK.AllK
import Wide.FinOn
import PySem.Challenge.RW_xm0418_01
set_option Elab.async false
set_option maxRecDepth 100000

namespace Mj
open PySem
noncomputable section

inductive V where
  | non
  | bool (b : Bool)
  | int (i : Int)
  | ref (i : Nat)
  | fn (k : Nat)
  | sc (i : Nat)
  | dr (i : Nat)
  | rm (i : Nat) (m : Int)
  | sres (m r : Int)
  | ires (m r : Int)
  | unk
  | wid

/-- a name's kind -/
inductive Kd where
  | l | c | f | g
noncomputable def Kd.py : Kd → NameKind
  | .l => .local
  | .c => .cell
  | .f => .free
  | .g => .globalImplicit

inductive Ex where
  | num (i : Int) (p : Pos)
  | tru (b : Bool) (p : Pos)
  | nam (k : Nat) (p : Pos)
  | bin (o : Operator) (a b : Ex) (p : Pos)
  | neg (a : Ex) (p : Pos)
  | nott (a : Ex) (p : Pos)
  | boo (o : BoolOp) (a b : Ex) (p : Pos)
  | cmp (o : CmpOp) (a b : Ex) (p : Pos)
  | ife (t a b : Ex) (p : Pos)
  | lst (es : List Ex) (p : Pos)
  | tup (es : List Ex) (p : Pos)
  | idx (a i : Ex) (p : Pos)
  | slc (a : Ex) (lo hi : Option Ex) (q p : Pos)
  | call (f : Ex) (as : List Ex) (p : Pos)
  | bcl (b : Nat) (q : Pos) (as : List Ex) (p : Pos)
  | met (o : Ex) (m : Nat) (q : Pos) (as : List Ex) (p : Pos)
  | com (elt : Ex) (gens : List (Ex × Ex × List Ex)) (sc : List (Nat × Kd)) (p : Pos)

inductive Sx where
  | asg (t e : Ex) (p : Pos)
  | ast (ts : List Ex) (q : Pos) (e : Ex) (p : Pos)
  | aug (k : Nat) (q : Pos) (o : Operator) (e : Ex) (p : Pos)
  | iff (t : Ex) (a b : List Sx) (p : Pos)
  | whl (t : Ex) (b : List Sx) (p : Pos)
  | forr (t i : Ex) (b : List Sx) (p : Pos)
  | ret (e : Ex) (p : Pos)
  | exp (e : Ex) (p : Pos)
  | rai (k : Nat) (p1 : Pos) (m : Nat) (p2 p3 p4 : Pos)

structure Fn where
  ps : List (Nat × Pos)
  sc : List (Nat × Kd)
  body : List Sx

inductive O where
  | list (xs : List V)
  | wlist (xs : List V)
  | pre (xs : List V)
  | symq
  | lim (n : Nat)
  | tup (xs : List V)
  | range (a b c : Int)
  | cell (v : Option V)
  | lit (l i : Nat)
  | rit (x : Int) (left : Nat) (step : Int)
  | eit (it i : Nat)
  | dead
structure Cell where
  own : Bool
  o : O
inductive T where
  | e
  | n (v : Option Cell) (a b c d : T)
structure Hp where
  n : Nat
  l : T
inductive Slot where
  | loc (v : Option V)
  | cel (i : Nat)
  | glo
noncomputable abbrev Vars := List (Nat × Slot)

noncomputable def lk {α : Type} (k : Nat) (l : List (Nat × α)) : Option α :=
  @List.rec (Nat × α) (fun _ => Option α) none (fun x _ ih => @Bool.rec (fun _ => Option α) ih (some x.2) (Nat.beq x.1 k)) l
noncomputable def up {α : Type} (k : Nat) (a : α) (l : List (Nat × α)) : List (Nat × α) :=
  @List.rec (Nat × α) (fun _ => List (Nat × α)) [] (fun x r ih => @Bool.rec (fun _ => List (Nat × α)) (x :: ih) ((k, a) :: r) (Nat.beq x.1 k)) l
noncomputable def T.get (t : T) : Nat → Option Cell :=
  @T.rec (fun _ => Nat → Option Cell) (fun _ => none) (fun v _ _ _ _ a b c d k => @Nat.rec (fun _ => Option Cell) v (fun m _ => @Nat.rec (fun _ => Option Cell) (a (Nat.div m 4)) (fun i _ => @Nat.rec (fun _ => Option Cell) (b (Nat.div m 4)) (fun i _ => @Nat.rec (fun _ => Option Cell) (c (Nat.div m 4)) (fun _ _ => (d (Nat.div m 4))) i) i) (Nat.mod m 4)) k) t
/-- a new branch -/
noncomputable def T.br (f : Nat) : Nat → Cell → T :=
  @Nat.rec (fun _ => Nat → Cell → T) (fun _ _ => .e) (fun _ ih k x => @Nat.rec (fun _ => T) (.n (some x) .e .e .e .e) (fun m _ => @Nat.rec (fun _ => T) (.n none (ih (Nat.div m 4) x) .e .e .e) (fun i _ => @Nat.rec (fun _ => T) (.n none .e (ih (Nat.div m 4) x) .e .e) (fun i _ => @Nat.rec (fun _ => T) (.n none .e .e (ih (Nat.div m 4) x) .e) (fun _ _ => (.n none .e .e .e (ih (Nat.div m 4) x))) i) i) (Nat.mod m 4)) k) f
noncomputable def T.set (f : Nat) (t : T) : Nat → Cell → T :=
  @T.rec (fun _ => Nat → Cell → T) (T.br f) (fun v a b c d ia ib ic id k x => @Nat.rec (fun _ => T) (.n (some x) a b c d) (fun m _ => @Nat.rec (fun _ => T) (.n v (ia (Nat.div m 4) x) b c d) (fun i _ => @Nat.rec (fun _ => T) (.n v a (ib (Nat.div m 4) x) c d) (fun i _ => @Nat.rec (fun _ => T) (.n v a b (ic (Nat.div m 4) x) d) (fun _ _ => (.n v a b c (id (Nat.div m 4) x))) i) i) (Nat.mod m 4)) k) t
noncomputable def Hp.get (h : Hp) (i : Nat) : Option Cell := h.l.get i
noncomputable def Hp.put (h : Hp) (i : Nat) (c : Cell) : Hp := ⟨h.n, h.l.set (Nat.succ i) i c⟩
noncomputable def Hp.new (h : Hp) (o : O) : Hp := ⟨Nat.succ h.n, h.l.set (Nat.succ h.n) h.n ⟨true, o⟩⟩
/-- a new object that is never turned -/
noncomputable def Hp.fix (h : Hp) (o : O) : Hp := ⟨Nat.succ h.n, h.l.set (Nat.succ h.n) h.n ⟨false, o⟩⟩
/-- an own object's new contents -/
noncomputable def Hp.set (h : Hp) (i : Nat) (o : O) : Option Hp :=
  @Option.rec Cell (fun _ => Option Hp) none (fun c => @Bool.rec (fun _ => Option Hp) none (some (h.put i ⟨true, o⟩)) c.own) (T.get h.l i)
noncomputable def Hp.obj (h : Hp) (i : Nat) : Option O := @Option.rec Cell (fun _ => Option O) none (fun c => some c.o) (T.get h.l i)

noncomputable def len {α : Type} (l : List α) : Nat := @List.rec α (fun _ => Nat) 0 (fun _ _ ih => Nat.succ ih) l
noncomputable def snoc {α : Type} (l : List α) (x : α) : List α := @List.rec α (fun _ => List α) [x] (fun y _ ih => y :: ih) l
noncomputable def nth {α : Type} (l : List α) (n : Nat) : Option α :=
  @List.rec α (fun _ => Nat → Option α) (fun _ => none) (fun x _ ih n => @Nat.rec (fun _ => Option α) (some x) (fun m _ => ih m) n) l n
/-- a list's items, whether it is known to be plain or not -/
noncomputable def O.items (o : O) : Option (List V) := @O.rec (fun _ => Option (List V)) (fun xs => some xs) (fun xs => some xs) (fun _ => none) none (fun _ => none) (fun _ => none) (fun _ _ _ => none) (fun _ => none) (fun _ _ => none) (fun _ _ _ => none) (fun _ _ => none) none o
noncomputable def O.seq (o : O) : Option (List V) := @O.rec (fun _ => Option (List V)) (fun xs => some xs) (fun xs => some xs) (fun _ => none) none (fun _ => none) (fun xs => some xs) (fun _ _ _ => none) (fun _ => none) (fun _ _ => none) (fun _ _ _ => none) (fun _ _ => none) none o
noncomputable def O.cel (o : O) : Option V := @O.rec (fun _ => Option V) (fun _ => none) (fun _ => none) (fun _ => none) none (fun _ => none) (fun _ => none) (fun _ _ _ => none) (fun v => v) (fun _ _ => none) (fun _ _ _ => none) (fun _ _ => none) none o
noncomputable def Hp.lst (h : Hp) (i : Nat) : Option (List V) := @Option.rec Cell (fun _ => Option (List V)) none (fun c => O.items c.o) (T.get h.l i)
noncomputable def bd {α β : Type} (o : Option (α × Hp)) (f : α → Hp → Option β) : Option β :=
  @Option.rec (α × Hp) (fun _ => Option β) none (fun p => @Prod.rec α Hp (fun _ => Option β) f p) o
noncomputable def gd {β : Type} (b : Bool) (x : Option β) : Option β := @Bool.rec (fun _ => Option β) none x b

noncomputable def tiny (x : Int) : Bool := Nat.blt x.natAbs 1073741824
noncomputable def small (x : Int) : Bool := Nat.blt x.natAbs 18446744073709551616
noncomputable def intl (l : List V) : Option (List Int) :=
  @List.rec V (fun _ => Option (List Int)) (some []) (fun v _ ih => (@V.rec (fun _ => Option (List Int) → Option (List Int)) (fun _ => none) (fun _ _ => none) (fun i o => @Option.rec (List Int) (fun _ => Option (List Int)) none (fun l => some (i :: l)) o) (fun _ _ => none) (fun _ _ => none) (fun _ _ => none) (fun _ _ => none) (fun _ _ _ => none) (fun _ _ _ => none) (fun _ _ _ => none) (fun _ => none) (fun _ => none)) v ih) l

noncomputable def binII (o : Operator) : Int → Int → Hp → Option (V × Hp) := @Operator.rec (fun _ => Int → Int → Hp → Option (V × Hp)) (fun x y h => some (.int (x + y), h)) (fun x y h => some (.int (x - y), h)) (fun x y h => gd (small x) (some (.int (x * y), h))) (fun _ _ _ => none) (fun _ _ _ => none) (fun x y h => gd (!W.Z.eqB y 0) (some (.int (x.fmod y), h))) (fun x y h => gd (W.Z.leB 0 y && W.Z.leB y 1000 && small x) (some (.int (x ^ y.toNat), h))) (fun x y h => gd (W.Z.leB 0 y && W.Z.leB y 1000 && small x) (some (.int (x * 2 ^ y.toNat), h))) (fun x y h => gd (W.Z.leB 0 y) (some (.int (x.fdiv (2 ^ y.toNat)), h))) (fun x y h => some (.int (Builtin.bitOr x y), h)) (fun _ _ _ => none) (fun x y h => some (.int (Builtin.bitAnd x y), h)) (fun x y h => gd (!W.Z.eqB y 0 && tiny y) (some (.int (x.fdiv y), h))) o
noncomputable def binRR (o : Operator) (i j : Nat) (h : Hp) : Option (V × Hp) := match o with
  | .Add => match h.lst i with
    | some xs => match h.lst j with
      | some ys => gd (Nat.ble (xs.length + ys.length) 1000) (some (.ref h.n, h.new (.list (xs ++ ys))))
      | _ => none
    | _ => none
  | _ => none
noncomputable def binRI (o : Operator) (i : Nat) (y : Int) (h : Hp) : Option (V × Hp) := match o with
  | .Mult => match h.lst i with
    | some xs => match xs with
      | [x] => gd (W.Z.leB 0 y && W.Z.leB y 1000) (some (.ref h.n, h.new (.list (List.replicate y.toNat x))))
      | _ => none
    | _ => none
  | _ => none
noncomputable def binI (x : Int) (o : Operator) (b : V) : Hp → Option (V × Hp) := @V.rec (fun _ => Operator → Int → Hp → Option (V × Hp)) (fun _ _ _ => none) (fun _ _ _ _ => none) (fun y o x h => binII o x y h) (fun _ _ _ _ => none) (fun _ _ _ _ => none) (fun _ _ _ _ => none) (fun _ _ _ _ => none) (fun _ _ _ _ _ => none) (fun _ _ _ _ _ => none) (fun _ _ _ _ _ => none) (fun _ _ _ => none) (fun _ _ _ => none) b o x
noncomputable def binR (i : Nat) (o : Operator) (b : V) : Hp → Option (V × Hp) := @V.rec (fun _ => Operator → Nat → Hp → Option (V × Hp)) (fun _ _ _ => none) (fun _ _ _ _ => none) (fun y o i h => binRI o i y h) (fun j o i h => binRR o i j h) (fun _ _ _ _ => none) (fun _ _ _ _ => none) (fun _ _ _ _ => none) (fun _ _ _ _ _ => none) (fun _ _ _ _ _ => none) (fun _ _ _ _ _ => none) (fun _ _ _ => none) (fun _ _ _ => none) b o i
noncomputable def binS (a : V) (o : Operator) (b : V) (h : Hp) : Option (V × Hp) := match a with
  | .dr i => match b with
    | .int y => match o with
      | .Mod => gd (!W.Z.eqB y 0) (some (.rm i y, h))
      | _ => none
    | _ => none
  | .ires m r => match b with
    | .int y => match o with
      | .Mod => gd (W.Z.eqB m y && !W.Z.eqB y 0) (some (.int r, h))
      | _ => none
    | _ => none
  | _ => none
noncomputable def bino (o : Operator) (a b : V) : Hp → Option (V × Hp) := @V.rec (fun _ => Operator → V → Hp → Option (V × Hp)) (fun _ _ _ => none) (fun _ _ _ _ => none) (fun x o b h => binI x o b h) (fun i o b h => binR i o b h) (fun _ _ _ _ => none) (fun _ _ _ _ => none) (fun i o b h => binS (.dr i) o b h) (fun _ _ _ _ _ => none) (fun _ _ _ _ _ => none) (fun m r o b h => binS (.ires m r) o b h) (fun _ _ _ => none) (fun _ _ _ => none) a o b

noncomputable def leq (h : Hp) (i j : Nat) : Option Bool := match h.lst i with
  | some xs => match h.lst j with
    | some ys => match intl xs with
      | some a => match intl ys with
        | some b => some (decide (a = b))
        | none => none
      | none => none
    | none => none
  | none => match h.obj i with
    | some o => match o with
      | .lim n => match h.obj j with
        | some p => match p with
          | .lim m => gd (Nat.ble n 15 && Nat.ble m 15) (some (Nat.beq n m))
          | _ => none
        | none => none
      | _ => none
    | none => none
/-- the limbs of a number -/
noncomputable def limbs (w : Nat) : Nat → Nat → List Int :=
  @Nat.rec (fun _ => Nat → List Int) (fun _ => []) (fun _ ih n => @Bool.rec (fun _ => List Int) (Int.ofNat (Nat.mod n (Nat.pow 2 w)) :: ih (Nat.div n (Nat.pow 2 w))) [] (Nat.beq n 0))
noncomputable def cod (w : Nat) (n : Nat) : List Int := limbs w 12 n
noncomputable def valL (w : Nat) : List Int → Nat
  | [] => 0
  | x :: r => Nat.add x.toNat (Nat.mul (Nat.pow 2 w) (valL w r))
noncomputable def eqv (h : Hp) (a b : V) : Option Bool := match a with
  | .int x => match b with
    | .int y => some (W.Z.eqB x y)
    | _ => none
  | .bool x => match b with
    | .bool y => some (x == y)
    | _ => none
  | .ref i => match b with
    | .ref j => match h.obj i with
      | some (.tup [.bool x, .ref i']) => match h.obj j with
        | some (.tup [.bool y, .ref j']) => match leq h i' j' with
          | some r => some ((x == y) && r)
          | none => none
        | _ => none
      | _ => leq h i j
    | _ => none
  | _ => none
noncomputable def inn (h : Hp) (a b : V) : Option Bool := match a with
  | .int x => match b with
    | .ref j => match h.obj j with
      | some (.tup xs) => match intl xs with
        | some l => some (l.any fun y => W.Z.eqB x y)
        | none => none
      | _ => match h.lst j with
        | some xs => match intl xs with
          | some l => some (l.any fun y => W.Z.eqB x y)
          | none => none
        | none => none
    | _ => none
  | _ => none
noncomputable def two (a b : V) (f : Int → Int → Option Bool) : Option Bool :=
  (@V.rec (fun _ => V → (Int → Int → Option Bool) → Option Bool) (fun _ _ => none) (fun _ _ _ => none) (fun x b f => (@V.rec (fun _ => Int → (Int → Int → Option Bool) → Option Bool) (fun _ _ => none) (fun _ _ _ => none) (fun y x f => f x y) (fun _ _ _ => none) (fun _ _ _ => none) (fun _ _ _ => none) (fun _ _ _ => none) (fun _ _ _ _ => none) (fun _ _ _ _ => none) (fun _ _ _ _ => none) (fun _ _ => none) (fun _ _ => none)) b x f) (fun _ _ _ => none) (fun _ _ _ => none) (fun _ _ _ => none) (fun _ _ _ => none) (fun _ _ _ _ => none) (fun _ _ _ _ => none) (fun _ _ _ _ => none) (fun _ _ => none) (fun _ _ => none)) a b f
noncomputable def cmpo (o : CmpOp) (a b : V) (h : Hp) : Option Bool := match o with
  | .Eq => eqv h a b
  | .NotEq => match eqv h a b with
    | some r => some (!r)
    | none => none
  | .In => inn h a b
  | .NotIn => match inn h a b with
    | some r => some (!r)
    | none => none
  | .Lt => two a b fun x y => some (W.Z.ltB x y)
  | .LtE => two a b fun x y => some (W.Z.leB x y)
  | .Gt => two a b fun x y => some (W.Z.ltB y x)
  | .GtE => two a b fun x y => some (W.Z.leB y x)
  | _ => none

/-- an item by its place -/
noncomputable def item (xs : List V) (k : Int) : Option V := match k with
  | .ofNat n => nth xs n
  | .negSucc n => gd (Nat.blt n xs.length) (nth xs (xs.length - 1 - n))
noncomputable def setAt (xs : List V) (k : Int) (v : V) : Option (List V) := match k with
  | .ofNat n => gd (Nat.blt n xs.length) (some (xs.set n v))
  | .negSucc _ => none
noncomputable def natOf (v : V) : Option Nat := match v with
  | .int (.ofNat n) => some n
  | _ => none

/-- next of an iterator: the item, or the end -/
noncomputable def nxt (tt : Bool) (I : Nat) (h : Hp) : Option (Option V × Hp) := match h.obj I with
  | some (.lit l i) => match h.lst l with
    | some xs => match nth xs i with
      | some v => match h.set I (.lit l (i + 1)) with
        | some h => some (some v, h)
        | none => none
      | none => match h.set I .dead with
        | some h => some (none, h)
        | none => none
    | _ => none
  | some (.rit x left step) => match left with
    | left + 1 => match h.set I (.rit (x + step) left step) with
      | some h => some (some (.int x), h)
      | none => none
    | 0 => match h.set I .dead with
      | some h => some (none, h)
      | none => none
  | some (.eit J i) => match h.obj J with
    | some (.lit l i') => gd (tt && (Nat.beq i i' && !Nat.beq I J)) (match h.lst l with
      | some xs => match nth xs i with
        | some v => match h.set J (.lit l (i + 1)) with
          | some h => match h.set I (.eit J (i + 1)) with
            | some h => some (some (.ref h.n), h.new (.tup [.int (.ofNat i), v]))
            | none => none
          | none => none
        | none => match h.set J .dead with
          | some h => match h.set I .dead with
            | some h => some (none, h)
            | none => none
          | none => none
      | _ => none)
    | _ => none
  | _ => none
/-- iter(x) -/
noncomputable def itr (v : V) (h : Hp) : Option (Nat × Hp) := match v with
  | .ref i => match h.obj i with
    | some (.list _) => some (h.n, h.new (.lit i 0))
    | some (.wlist _) => some (h.n, h.new (.lit i 0))
    | some (.range a b c) => gd (tiny a && tiny b && tiny c) (some (h.n, h.new (.rit a (Builtin.Range.rangeSize a b c).toNat c)))
    | some (.eit _ _) => some (i, h)
    | _ => none
  | _ => none

noncomputable def stoC (i : Nat) (v : V) (vs : Vars) (h : Hp) : Option (Vars × Hp) := match h.obj i with
  | some (.cell _) => match h.set i (.cell (some v)) with
    | some h => some (vs, h)
    | none => none
  | _ => none
noncomputable def stoS (sl : Slot) : Nat → V → Vars → Hp → Option (Vars × Hp) := @Slot.rec (fun _ => Nat → V → Vars → Hp → Option (Vars × Hp)) (fun _ k v vs h => some (up k (.loc (some v)) vs, h)) (fun i _ v vs h => stoC i v vs h) (fun _ _ _ _ => none) sl
noncomputable def sto (k : Nat) (v : V) (vs : Vars) (h : Hp) : Option (Vars × Hp) := @Option.rec Slot (fun _ => Option (Vars × Hp)) none (fun sl => stoS sl k v vs h) (lk k vs)
noncomputable def stos (ts : List Ex) : List V → Vars → Hp → Option (Vars × Hp) :=
  @List.rec Ex (fun _ => List V → Vars → Hp → Option (Vars × Hp)) (fun xs vs h => match xs with
    | [] => some (vs, h)
    | _ => none) (fun t _ ih xs vs h => match xs with
    | v :: xs => match t with
      | .nam k _ => bd (sto k v vs h) fun vs h => ih xs vs h
      | _ => none
    | [] => none) ts
/-- the target of a loop -/
noncomputable def tgt (t : Ex) (v : V) (vs : Vars) (h : Hp) : Option (Vars × Hp) := match t with
  | .nam k _ => sto k v vs h
  | .tup ts _ => match v with
    | .ref i => match h.obj i with
      | some (.tup xs) => stos ts xs vs h
      | _ => none
    | _ => none
  | _ => none
noncomputable def cvars (vs : Vars) (l : List (Nat × Kd)) : Option Vars :=
  @List.rec (Nat × Kd) (fun _ => Option Vars) (some []) (fun x _ ih => match ih with
    | some c => match lk x.1 c with
      | some _ => none
      | none => match x.2 with
        | .l => some ((x.1, .loc none) :: c)
        | .g => some ((x.1, .glo) :: c)
        | .f => match lk x.1 vs with
          | some sl => match sl with
            | .cel i => some ((x.1, .cel i) :: c)
            | _ => none
          | none => none
        | .c => none
    | none => none) l
/-- the arguments by name, the last one first -/
noncomputable def zipb (ps : List (Nat × Pos)) : List V → List (Nat × V) → Option (List (Nat × V)) :=
  @List.rec (Nat × Pos) (fun _ => List V → List (Nat × V) → Option (List (Nat × V))) (fun xs acc => match xs with
    | [] => some acc
    | _ => none) (fun p _ ih xs acc => match xs with
    | v :: xs => ih xs ((p.1, v) :: acc)
    | [] => none) ps
/-- a function's names at its entry -/
noncomputable def ent (bs : List (Nat × V)) (l : List (Nat × Kd)) : Hp → Option (Vars × Hp) :=
  @List.rec (Nat × Kd) (fun _ => Hp → Option (Vars × Hp)) (fun h => some ([], h)) (fun x _ ih h => match x.2 with
    | .l => bd (ih h) fun c h => some ((x.1, .loc (lk x.1 bs)) :: c, h)
    | .g => bd (ih h) fun c h => some ((x.1, .glo) :: c, h)
    | .c => bd (ih (h.new (.cell (lk x.1 bs)))) fun c h' => some ((x.1, .cel h.n) :: c, h')
    | .f => none) l

inductive Fl where
  | nxt
  | ret (v : V)

structure Ops where
  ev : Vars → Ex → Hp → Option (V × Hp)
  tst : Vars → Ex → Hp → Option (Bool × Hp)
  sx : Vars → Sx → Hp → Option ((Fl × Vars) × Hp)
  wh : Vars → Ex → List Sx → Hp → Option ((Fl × Vars) × Hp)
  fo : Vars → Ex → Nat → List Sx → Hp → Option ((Fl × Vars) × Hp)
  cl : Vars → Ex → Ex × List Ex → List (Ex × Ex × List Ex) → Nat → Nat → Hp → Option (Vars × Hp)
  ca : Nat → List V → Hp → Option (V × Hp)

noncomputable def evs (ev : Ex → Hp → Option (V × Hp)) (l : List Ex) : Hp → Option (List V × Hp) :=
  @List.rec Ex (fun _ => Hp → Option (List V × Hp)) (fun h => some ([], h)) (fun e _ ih h => bd (ev e h) fun v h => bd (ih h) fun vs h => some (v :: vs, h)) l
noncomputable def sxs (sx : Vars → Sx → Hp → Option ((Fl × Vars) × Hp)) (vs : Vars) (l : List Sx) : Hp → Option ((Fl × Vars) × Hp) :=
  @List.rec Sx (fun _ => Vars → Hp → Option ((Fl × Vars) × Hp)) (fun vs h => some ((.nxt, vs), h)) (fun s _ ih vs h => bd (sx vs s h) fun x h => match x with
    | (.nxt, vs) => ih vs h
    | (.ret v, vs) => some ((.ret v, vs), h)) l vs
noncomputable def tsts (tst : Ex → Hp → Option (Bool × Hp)) (l : List Ex) : Hp → Option (Bool × Hp) :=
  @List.rec Ex (fun _ => Hp → Option (Bool × Hp)) (fun h => some (true, h)) (fun e _ ih h => bd (tst e h) fun b h => match b with
    | true => ih h
    | false => some (false, h)) l

/-- what the text's names stand for, the functions, and what is known of their calls -/
structure Wd where
  fns : List (Nat × Fn)
  sum : Nat → List V → Hp → Option (V × Hp)

noncomputable def bcl0 (vs : List V) (h : Hp) : Option (V × Hp) := match vs with
    | [.ref i] => match h.lst i with
      | some xs => gd (Nat.ble xs.length 1000) (some (.int (.ofNat xs.length), h))
      | _ => none
    | _ => none
noncomputable def bcl1 (vs : List V) (h : Hp) : Option (V × Hp) := match vs with
    | [.int a] => gd (tiny a) (some (.ref h.n, h.new (.range 0 a 1)))
    | [.int a, .int b] => gd (tiny a && tiny b) (some (.ref h.n, h.new (.range a b 1)))
    | [.int a, .int b, .int c] => gd (tiny a && tiny b && tiny c && !W.Z.eqB c 0) (some (.ref h.n, h.new (.range a b c)))
    | _ => none
noncomputable def bcl2 (vs : List V) (h : Hp) : Option (V × Hp) := match vs with
    | [.ref i] => match h.lst i with
      | some _ => some (.ref (h.n + 1), (h.new (.lit i 0)).new (.eit h.n 0))
      | _ => none
    | _ => none
noncomputable def bcl3 (vs : List V) (h : Hp) : Option (V × Hp) := match vs with
    | [.ref i] => match h.lst i with
      | some xs => match intl xs with
        | some l => some (.int l.sum, h)
        | none => none
      | _ => none
    | _ => none
noncomputable def bcl4 (vs : List V) (h : Hp) : Option (V × Hp) := match vs with
    | [.int a, .int b] => some (.int (if b < a then b else a), h)
    | _ => none
noncomputable def bcl5 (vs : List V) (h : Hp) : Option (V × Hp) := match vs with
    | [.int a] => some (.int (if a < 0 then -a else a), h)
    | [.sc i] => some (.dr i, h)
    | [.sres m r] => some (.ires m r, h)
    | _ => none
noncomputable def bcl6 (vs : List V) (h : Hp) : Option (V × Hp) := match vs with
    | [.int a] => some (.int a, h)
    | [.sc i] => some (.sc i, h)
    | [.sres m r] => some (.sres m r, h)
    | [.bool b] => some (.int (match b with | true => 1 | false => 0), h)
    | _ => none
noncomputable def bcl (b : Nat) : List V → Hp → Option (V × Hp) := @Bool.rec (fun _ => List V → Hp → Option (V × Hp)) (@Bool.rec (fun _ => List V → Hp → Option (V × Hp)) (@Bool.rec (fun _ => List V → Hp → Option (V × Hp)) (@Bool.rec (fun _ => List V → Hp → Option (V × Hp)) (@Bool.rec (fun _ => List V → Hp → Option (V × Hp)) (@Bool.rec (fun _ => List V → Hp → Option (V × Hp)) (@Bool.rec (fun _ => List V → Hp → Option (V × Hp)) (fun _ _ => none) bcl5 (Nat.beq b 5)) bcl4 (Nat.beq b 4)) bcl3 (Nat.beq b 3)) bcl2 (Nat.beq b 2)) bcl1 (Nat.beq b 1)) bcl0 (Nat.beq b 0)) bcl6 (Nat.beq b 6)

/-- the built-in names' numbers -/
noncomputable def bid (b : Nat) : Nat := 40 + b
/-- what the top's names stand for -/
noncomputable def glov (k : Nat) : Option V := @Bool.rec (fun _ => Option V) (@Bool.rec (fun _ => Option V) (@Bool.rec (fun _ => Option V) none (some (.ref 2)) (Nat.beq k 39)) (some (.ref 0)) (Nat.beq k 38)) (some (.fn k)) (Nat.blt k 38)
noncomputable def isTup : Ex → Bool
  | .tup .. => true
  | _ => false
noncomputable def isCom : Ex → Bool
  | .com .. => true
  | _ => false
/-- surely no constant expression -/
noncomputable def leaf : Ex → Bool
  | .nam .. => true
  | .call .. => true
  | .bcl .. => true
  | .lst .. => true
  | .com .. => true
  | .cmp .. => true
  | .boo .. => true
  | .ife .. => true
  | .met .. => true
  | _ => false
noncomputable def live : Nat → Ex → Bool
  | 0, e => leaf e
  | n + 1, e => match e with
    | .idx a i _ => live n a || live n i
    | .bin _ a b _ => live n a || live n b
    | .neg a _ => live n a
    | .nott a _ => live n a
    | e => leaf e
noncomputable def lines (n : Nat) (vs : Vars) : List Ex → Bool
  | [] => true
  | .nam k p :: r => Nat.beq p.line n && (match lk k vs with | some (.loc _) => true | _ => false) && lines n vs r
  | _ => false
noncomputable def keys : List Ex → List Nat
  | [] => []
  | .nam k _ :: r => k :: keys r
  | _ :: r => keys r
noncomputable def dist : List Nat → Bool
  | [] => true
  | k :: r => r.all (fun j => !Nat.beq k j) && dist r
/-- how a tuple's targets are stored: swapped or in order -/
noncomputable def road (ts : List Ex) (e : Ex) (vs : Vars) : Option Bool := match e with
  | .tup es _ => gd (Nat.beq ts.length es.length) (match Nat.ble ts.length 3 with
    | true => match ts with
      | .nam _ p :: _ => match lines p.line vs ts with
        | true => gd (dist (keys ts) && es.any (live 8) && Nat.ble 2 ts.length) (some true)
        | false => gd (ts.any fun t => match t with | .nam k _ => (match lk k vs with | some (.cel _) => true | _ => false) | _ => false) (some false)
      | _ => none
    | false => some false)
  | _ => some false

noncomputable def augo (o : Operator) (x y : V) : Option V := match x with
  | .int a => match y with
    | .int b => match o with
      | .Add => some (.int (a + b))
      | .Sub => some (.int (a - b))
      | .RShift => gd (W.Z.leB 0 b) (some (.int (a.fdiv (2 ^ b.toNat))))
      | .BitOr => some (.int (Builtin.bitOr a b))
      | .Mod => gd (!W.Z.eqB b 0) (some (.int (a.fmod b)))
      | _ => none
    | _ => none
  | _ => none
section
variable (W : Wd) (R : Ops)
noncomputable def namS (sl : Slot) : Nat → Hp → Option (V × Hp) := @Slot.rec (fun _ => Nat → Hp → Option (V × Hp)) (fun o _ h => @Option.rec V (fun _ => Option (V × Hp)) none (fun v => some (v, h)) o) (fun i _ h => @Option.rec O (fun _ => Option (V × Hp)) none (fun o => @Option.rec V (fun _ => Option (V × Hp)) none (fun v => some (v, h)) (O.cel o)) (h.obj i)) (fun k h => @Option.rec V (fun _ => Option (V × Hp)) none (fun v => some (v, h)) (glov k)) sl
noncomputable def evNam (vs : Vars) (k : Nat) (h : Hp) : Option (V × Hp) := @Option.rec Slot (fun _ => Option (V × Hp)) none (fun sl => namS sl k h) (lk k vs)
noncomputable def evBin (vs : Vars) (o : Operator) (a b : Ex) (h : Hp) : Option (V × Hp) := bd (R.ev vs a h) fun x h => bd (R.ev vs b h) fun y h => bino o x y h
noncomputable def evNeg (vs : Vars) (a : Ex) (h : Hp) : Option (V × Hp) := bd (R.ev vs a h) fun x h => match x with
    | .int i => some (.int (-i), h)
    | _ => none
noncomputable def evNot (vs : Vars) (a : Ex) (h : Hp) : Option (V × Hp) := bd (R.ev vs a h) fun x h => match x with
    | .bool b => some (.bool (!b), h)
    | _ => none
noncomputable def evBoo (vs : Vars) (o : BoolOp) (a b : Ex) (h : Hp) : Option (V × Hp) := bd (R.ev vs a h) fun x h => match x with
    | .bool p => match o with
      | .And => match p with
        | true => R.ev vs b h
        | false => some (.bool false, h)
      | .Or => match p with
        | true => some (.bool true, h)
        | false => R.ev vs b h
    | _ => none
noncomputable def evCmp (vs : Vars) (o : CmpOp) (a b : Ex) (h : Hp) : Option (V × Hp) := bd (R.ev vs a h) fun x h => bd (R.ev vs b h) fun y h => match cmpo o x y h with
    | some r => some (.bool r, h)
    | none => none
noncomputable def evIfe (vs : Vars) (t a b : Ex) (h : Hp) : Option (V × Hp) := bd (R.tst vs t h) fun c h => match c with
    | true => R.ev vs a h
    | false => R.ev vs b h
noncomputable def evLst (vs : Vars) (es : List Ex) (h : Hp) : Option (V × Hp) := bd (evs (R.ev vs) es h) fun xs h => gd (Nat.ble xs.length 1000) (some (.ref h.n, h.new (.list xs)))
noncomputable def evTup (vs : Vars) (es : List Ex) (h : Hp) : Option (V × Hp) := bd (evs (R.ev vs) es h) fun xs h => gd (Nat.ble xs.length 1000) (some (.ref h.n, h.new (.tup xs)))
noncomputable def getIdx (j : Nat) (k : Int) (h : Hp) : Option (V × Hp) := gd (tiny k) (@Option.rec O (fun _ => Option (V × Hp)) none (fun o => @Option.rec (List V) (fun _ => Option (V × Hp)) none (fun xs => @Option.rec V (fun _ => Option (V × Hp)) none (fun v => some (v, h)) (item xs k)) (O.seq o)) (h.obj j))
noncomputable def idxI (v : V) : Nat → Hp → Option (V × Hp) := @V.rec (fun _ => Nat → Hp → Option (V × Hp)) (fun _ _ => none) (fun _ _ _ => none) (fun k j h => getIdx j k h) (fun _ _ _ => none) (fun _ _ _ => none) (fun _ _ _ => none) (fun _ _ _ => none) (fun _ _ _ _ => none) (fun _ _ _ _ => none) (fun _ _ _ _ => none) (fun _ _ => none) (fun _ _ => none) v
noncomputable def idxV (x : V) : V → Hp → Option (V × Hp) := @V.rec (fun _ => V → Hp → Option (V × Hp)) (fun _ _ => none) (fun _ _ _ => none) (fun _ _ _ => none) (fun j y h => idxI y j h) (fun _ _ _ => none) (fun _ _ _ => none) (fun _ _ _ => none) (fun _ _ _ _ => none) (fun _ _ _ _ => none) (fun _ _ _ _ => none) (fun _ _ => none) (fun _ _ => none) x
noncomputable def evIdx (vs : Vars) (a i : Ex) (h : Hp) : Option (V × Hp) := bd (R.ev vs a h) fun x h => bd (R.ev vs i h) fun y h => idxV x y h
noncomputable def evPart (vs : Vars) (o : Option Ex) (h : Hp) : Option (Option Nat × Hp) := match o with
  | none => some (none, h)
  | some e => bd (R.ev vs e h) fun y h => match natOf y with
    | some n => some (some n, h)
    | none => none
noncomputable def cut (lo hi : Option Nat) (xs : List V) : Option (List V) := match hi with
  | none => (match lo with | none => some xs | some a => some (xs.drop a))
  | some b => (match lo with | none => some (xs.take b) | some a => gd (Nat.ble a b && Nat.ble b xs.length) (some ((xs.drop a).take (b - a))))
noncomputable def pcut (lo hi : Option Nat) (xs : List V) : Option (List V) := match lo with
  | none => match hi with
    | some b => gd (Nat.ble b xs.length) (some (xs.take b))
    | none => none
  | some _ => none
noncomputable def slcOf (j : Nat) (lo hi : Option Nat) (h : Hp) : Option (List V) := match h.obj j with
  | some o => match o with
    | .list xs => gd (Nat.ble xs.length 1000) (cut lo hi xs)
    | .wlist xs => gd (Nat.ble xs.length 1000) (cut lo hi xs)
    | .pre xs => pcut lo hi xs
    | _ => none
  | none => none
noncomputable def evSlc (vs : Vars) (a : Ex) (lo hi : Option Ex) (h : Hp) : Option (V × Hp) := bd (R.ev vs a h) fun x h =>
    bd (evPart R vs lo h) fun lo h => bd (evPart R vs hi h) fun hi h =>
    match x with
    | .ref j => match slcOf j lo hi h with
      | some ys => some (.ref h.n, h.new (.list ys))
      | none => none
    | _ => none
noncomputable def isNam : Ex → Bool
  | .nam .. => true
  | _ => false
noncomputable def callV (g : V) : Ops → List V → Hp → Option (V × Hp) := @V.rec (fun _ => Ops → List V → Hp → Option (V × Hp)) (fun _ _ _ => none) (fun _ _ _ _ => none) (fun _ _ _ _ => none) (fun _ _ _ _ => none) (fun k R xs h => R.ca k xs h) (fun _ _ _ _ => none) (fun _ _ _ _ => none) (fun _ _ _ _ _ => none) (fun _ _ _ _ _ => none) (fun _ _ _ _ _ => none) (fun _ _ _ => none) (fun _ _ _ => none) g
noncomputable def evCall (vs : Vars) (f : Ex) (as : List Ex) (h : Hp) : Option (V × Hp) := gd (isNam f) (bd (R.ev vs f h) fun g h => bd (evs (R.ev vs) as h) fun xs h => callV g R xs h)
noncomputable def evBcl (vs : Vars) (b : Nat) (as : List Ex) (h : Hp) : Option (V × Hp) := @Option.rec Slot (fun _ => Option (V × Hp)) none (fun sl => @Slot.rec (fun _ => Option (V × Hp)) (fun _ => none) (fun _ => none) (bd (evs (R.ev vs) as h) fun xs h => bcl b xs h) sl) (lk (bid b) vs)
noncomputable def apnd (i : Nat) (v : V) (h : Hp) : Option Hp := match h.obj i with
  | some (.list l) => gd (Nat.ble (len l) 1000) (h.set i (.list (snoc l v)))
  | _ => none
noncomputable def isObj : Ex → Bool
  | .nam .. => true
  | .idx .. => true
  | .bin .. => true
  | _ => false
noncomputable def evMet (vs : Vars) (o : Ex) (m : Nat) (q : Pos) (as : List Ex) (p : Pos) (h : Hp) : Option (V × Hp) := gd (isObj o && Nat.beq q.endLine p.line) (bd (R.ev vs o h) fun x h => match m with
    | 0 => match x with
      | .ref i => match h.obj i with
        | some (.list _) => match as with
          | [a] => bd (R.ev vs a h) fun v h => match apnd i v h with
            | some h => some (.non, h)
            | none => none
          | _ => none
        | _ => none
      | _ => none
    | _ => match x with
      | .int i => match as with
        | [] => some (.int (.ofNat (Builtin.Int.intBits i)), h)
        | _ => none
      | _ => none)
noncomputable def evCom (vs : Vars) (elt : Ex) (gens : List (Ex × Ex × List Ex)) (sc : List (Nat × Kd)) (h : Hp) : Option (V × Hp) := match gens with
    | (t, i, ifs) :: rest => bd (R.ev vs i h) fun x h => bd (itr x h) fun I h =>
      match cvars vs sc with
      | some cv => bd (R.cl cv elt (t, ifs) rest I h.n (h.new (.list []))) fun _ h' => some (.ref h.n, h')
      | none => none
    | [] => none
noncomputable def evF (vs : Vars) (e : Ex) : Hp → Option (V × Hp) :=
  @Ex.rec (fun _ => Ops → Vars → Hp → Option (V × Hp)) (fun _ => PUnit) (fun _ => PUnit) (fun _ => PUnit) (fun _ => PUnit) (fun _ => PUnit)
    (fun i _ _ _ h => some (.int i, h))
    (fun b _ _ _ h => some (.bool b, h))
    (fun k _ _ vs h => evNam vs k h)
    (fun o a b _ _ _ R vs h => evBin R vs o a b h)
    (fun a _ _ R vs h => evNeg R vs a h)
    (fun a _ _ R vs h => evNot R vs a h)
    (fun o a b _ _ _ R vs h => evBoo R vs o a b h)
    (fun o a b _ _ _ R vs h => evCmp R vs o a b h)
    (fun t a b _ _ _ _ R vs h => evIfe R vs t a b h)
    (fun es _ _ R vs h => evLst R vs es h)
    (fun es _ _ R vs h => evTup R vs es h)
    (fun a i _ _ _ R vs h => evIdx R vs a i h)
    (fun a lo hi _ _ _ _ _ R vs h => evSlc R vs a lo hi h)
    (fun f as _ _ _ R vs h => evCall R vs f as h)
    (fun b _ as _ _ R vs h => evBcl R vs b as h)
    (fun o m q as p _ _ R vs h => evMet R vs o m q as p h)
    (fun elt gens sc _ _ _ R vs h => evCom R vs elt gens sc h)
    ⟨⟩ (fun _ _ _ _ => ⟨⟩) ⟨⟩ (fun _ _ => ⟨⟩) ⟨⟩ (fun _ _ _ _ => ⟨⟩) (fun _ _ _ _ => ⟨⟩) (fun _ _ _ _ => ⟨⟩) e R vs

noncomputable def tsCmp (vs : Vars) (o : CmpOp) (a b : Ex) (h : Hp) : Option (Bool × Hp) := bd (R.ev vs a h) fun x h => bd (R.ev vs b h) fun y h => match cmpo o x y h with
    | some r => some (r, h)
    | none => none
noncomputable def tsBoo (vs : Vars) (o : BoolOp) (a b : Ex) (h : Hp) : Option (Bool × Hp) := bd (R.tst vs a h) fun p h => match o with
    | .And => match p with
      | true => R.tst vs b h
      | false => some (false, h)
    | .Or => match p with
      | true => some (true, h)
      | false => R.tst vs b h
noncomputable def tsNot (vs : Vars) (a : Ex) (h : Hp) : Option (Bool × Hp) := bd (R.tst vs a h) fun p h => some (!p, h)
noncomputable def tsEv (vs : Vars) (e : Ex) (h : Hp) : Option (Bool × Hp) := bd (R.ev vs e h) fun x h => match x with
    | .bool b => some (b, h)
    | _ => none
noncomputable def tstF (vs : Vars) (e : Ex) : Hp → Option (Bool × Hp) :=
  @Ex.rec (fun _ => Ops → Vars → Hp → Option (Bool × Hp)) (fun _ => PUnit) (fun _ => PUnit) (fun _ => PUnit) (fun _ => PUnit) (fun _ => PUnit)
    (fun i p R vs h => tsEv R vs (.num i p) h)
    (fun b p R vs h => tsEv R vs (.tru b p) h)
    (fun k p R vs h => tsEv R vs (.nam k p) h)
    (fun o a b p _ _ R vs h => tsEv R vs (.bin o a b p) h)
    (fun a p _ R vs h => tsEv R vs (.neg a p) h)
    (fun a _ _ R vs h => tsNot R vs a h)
    (fun o a b _ _ _ R vs h => tsBoo R vs o a b h)
    (fun o a b _ _ _ R vs h => tsCmp R vs o a b h)
    (fun _ _ _ _ _ _ _ _ _ _ => none)
    (fun es p _ R vs h => tsEv R vs (.lst es p) h)
    (fun es p _ R vs h => tsEv R vs (.tup es p) h)
    (fun a i p _ _ R vs h => tsEv R vs (.idx a i p) h)
    (fun a lo hi q p _ _ _ R vs h => tsEv R vs (.slc a lo hi q p) h)
    (fun f as p _ _ R vs h => tsEv R vs (.call f as p) h)
    (fun b q as p _ R vs h => tsEv R vs (.bcl b q as p) h)
    (fun o m q as p _ _ R vs h => tsEv R vs (.met o m q as p) h)
    (fun elt gens sc p _ _ R vs h => tsEv R vs (.com elt gens sc p) h)
    ⟨⟩ (fun _ _ _ _ => ⟨⟩) ⟨⟩ (fun _ _ => ⟨⟩) ⟨⟩ (fun _ _ _ _ => ⟨⟩) (fun _ _ _ _ => ⟨⟩) (fun _ _ _ _ => ⟨⟩) e R vs

noncomputable def setIt (j : Nat) (k : Int) (v : V) (h : Hp) : Option Hp := gd (tiny k) (match h.lst j with
  | some xs => match setAt xs k v with
    | some l => h.set j (.wlist l)
    | none => none
  | none => none)
noncomputable def sxAsg (vs : Vars) (t e : Ex) (h : Hp) : Option ((Fl × Vars) × Hp) := bd (R.ev vs e h) fun v h => match t with
    | .nam k _ => bd (sto k v vs h) fun vs h => some ((.nxt, vs), h)
    | .idx a i _ => gd (!isCom e) (bd (R.ev vs a h) fun x h => bd (R.ev vs i h) fun y h => match x with
      | .ref j => match y with
        | .int k => match setIt j k v h with
            | some h => some ((.nxt, vs), h)
            | none => none
        | _ => none
      | _ => none)
    | _ => none
noncomputable def sxAst (vs : Vars) (ts : List Ex) (e : Ex) (h : Hp) : Option ((Fl × Vars) × Hp) := gd (!isCom e) (bd (R.ev vs e h) fun v h => match v with
    | .ref i => match h.obj i with
      | some (.tup xs) => match road ts e vs with
        | some true => bd (stos ts.reverse xs.reverse vs h) fun vs h => some ((.nxt, vs), h)
        | some false => bd (stos ts xs vs h) fun vs h => some ((.nxt, vs), h)
        | none => none
      | _ => none
    | _ => none)
noncomputable def sxAug (vs : Vars) (k : Nat) (o : Operator) (e : Ex) (h : Hp) : Option ((Fl × Vars) × Hp) := match lk k vs with
    | some sl => match sl with
      | .loc q => match q with
        | some x => bd (R.ev vs e h) fun y h => match augo o x y with
          | some r => bd (sto k r vs h) fun vs h => some ((.nxt, vs), h)
          | none => none
        | none => none
      | _ => none
    | none => none
noncomputable def sxIff (vs : Vars) (t : Ex) (a b : List Sx) (h : Hp) : Option ((Fl × Vars) × Hp) := bd (R.tst vs t h) fun c h => match c with
    | true => sxs R.sx vs a h
    | false => sxs R.sx vs b h
noncomputable def sxFor (vs : Vars) (t i : Ex) (b : List Sx) (h : Hp) : Option ((Fl × Vars) × Hp) := bd (R.ev vs i h) fun x h => bd (itr x h) fun I h => R.fo vs t I b h
noncomputable def sxRet (vs : Vars) (e : Ex) (h : Hp) : Option ((Fl × Vars) × Hp) := bd (R.ev vs e h) fun v h => some ((.ret v, vs), h)
noncomputable def sxExp (vs : Vars) (e : Ex) (h : Hp) : Option ((Fl × Vars) × Hp) := gd (!isCom e) (bd (R.ev vs e h) fun v h => match v with
    | .non => some ((.nxt, vs), h)
    | _ => none)
noncomputable def sxF (vs : Vars) (s : Sx) : Hp → Option ((Fl × Vars) × Hp) :=
  @Sx.rec (fun _ => Ops → Vars → Hp → Option ((Fl × Vars) × Hp)) (fun _ => PUnit)
    (fun t e _ R vs h => sxAsg R vs t e h)
    (fun ts _ e _ R vs h => sxAst R vs ts e h)
    (fun k _ o e _ R vs h => sxAug R vs k o e h)
    (fun t a b _ _ _ R vs h => sxIff R vs t a b h)
    (fun t b _ _ R vs h => R.wh vs t b h)
    (fun t i b _ _ R vs h => sxFor R vs t i b h)
    (fun e _ R vs h => sxRet R vs e h)
    (fun e _ R vs h => sxExp R vs e h)
    (fun _ _ _ _ _ _ _ _ _ => none)
    ⟨⟩ (fun _ _ _ _ => ⟨⟩) s R vs

noncomputable def whF (vs : Vars) (t : Ex) (b : List Sx) (h : Hp) : Option ((Fl × Vars) × Hp) :=
  bd (R.tst vs t h) fun c h => match c with
    | true => bd (sxs R.sx vs b h) fun x h => match x with
      | (.nxt, vs) => R.wh vs t b h
      | (.ret v, vs) => some ((.ret v, vs), h)
    | false => some ((.nxt, vs), h)
noncomputable def foF (vs : Vars) (t : Ex) (I : Nat) (b : List Sx) (h : Hp) : Option ((Fl × Vars) × Hp) :=
  gd (isNam t || isTup t) (bd (nxt (isTup t) I h) fun o h => match o with
    | none => some ((.nxt, vs), h)
    | some v => bd (tgt t v vs h) fun vs h => bd (sxs R.sx vs b h) fun x h => match x with
      | (.nxt, vs) => R.fo vs t I b h
      | (.ret v, vs) => some ((.ret v, vs), h))
noncomputable def clIn (vs : Vars) (elt : Ex) (g : Ex × List Ex) (rest : List (Ex × Ex × List Ex)) (I D : Nat) (h : Hp) : Option (Vars × Hp) := match rest with
  | [] => bd (R.ev vs elt h) fun x h => match h.obj D with
    | some (.list l) => gd (Nat.ble (len l) 1000) (match h.set D (.list (snoc l x)) with
      | some h => R.cl vs elt g rest I D h
      | none => none)
    | _ => none
  | (t2, i2, ifs2) :: rest2 => bd (R.ev vs i2 h) fun x h => bd (itr x h) fun I2 h => bd (R.cl vs elt (t2, ifs2) rest2 I2 D h) fun vs h => R.cl vs elt g rest I D h
noncomputable def clF (vs : Vars) (elt : Ex) (g : Ex × List Ex) (rest : List (Ex × Ex × List Ex)) (I D : Nat) (h : Hp) : Option (Vars × Hp) := match g.1 with
  | .nam k _ => bd (nxt false I h) fun o h => match o with
    | none => some (vs, h)
    | some v => bd (sto k v vs h) fun vs h => bd (tsts (R.tst vs) g.2 h) fun c h => match c with
      | true => clIn R vs elt g rest I D h
      | false => R.cl vs elt g rest I D h
  | _ => none
noncomputable def caF (k : Nat) (xs : List V) (h : Hp) : Option (V × Hp) := match lk k W.fns with
  | some f => match W.sum k xs h with
    | some r => some r
    | none => match zipb f.ps xs [] with
      | some bs => bd (ent bs f.sc h) fun vs h => bd (sxs R.sx vs f.body h) fun x h => match x with
        | (.ret v, _) => some (v, h)
        | (.nxt, _) => some (.non, h)
      | none => none
  | none => none
end
noncomputable def ops (W : Wd) (n : Nat) : Ops :=
  @Nat.rec (fun _ => Ops) ⟨fun _ _ _ => none, fun _ _ _ => none, fun _ _ _ => none, fun _ _ _ _ => none, fun _ _ _ _ _ => none, fun _ _ _ _ _ _ _ => none, fun _ _ _ => none⟩ (fun _ R => ⟨evF R, tstF R, sxF R, whF R, foF R, clF R, caF W R⟩) n

noncomputable def names : List Str := [Str.ofString "normal", Str.ofString "is_even", Str.ofString "compare", Str.ofString "add", Str.ofString "sub", Str.ofString "divrem_limb", Str.ofString "shift_left", Str.ofString "shift_right", Str.ofString "bits", Str.ofString "bit", Str.ofString "trailing", Str.ofString "last_bits", Str.ofString "two_sign", Str.ofString "jacobi", Str.ofString "signed", Str.ofString "s_neg", Str.ofString "s_sign", Str.ofString "s_add", Str.ofString "s_sub", Str.ofString "s_mul", Str.ofString "tdiv", Str.ofString "inner", Str.ofString "exact", Str.ofString "pivot_row", Str.ofString "cleared", Str.ofString "steps_down", Str.ofString "det_bareiss", Str.ofString "mul_school", Str.ofString "divrem_small", Str.ofString "guessed_limb", Str.ofString "take_away", Str.ofString "put_back", Str.ofString "divide_rows", Str.ofString "divrem_school", Str.ofString "_law_woven", Str.ofString "_law_limbs", Str.ofString "_law_rows", Str.ofString "law", Str.ofString "NOUGHT", Str.ofString "UNIT", Str.ofString "len", Str.ofString "range", Str.ofString "enumerate", Str.ofString "sum", Str.ofString "min", Str.ofString "abs", Str.ofString "int", Str.ofString "a", Str.ofString "end", Str.ofString "b", Str.ofString "at", Str.ofString "w", Str.ofString "found", Str.ofString "carry", Str.ofString "mask", Str.ofString "OutOfRange", Str.ofString "below nought", Str.ofString "borrow", Str.ofString "base", Str.ofString "limb", Str.ofString "DivisionByZero", Str.ofString "division by nought", Str.ofString "rest", Str.ofString "n", Str.ofString "spots", Str.ofString "few", Str.ofString "one", Str.ofString "above", Str.ofString "nought", Str.ofString "many", Str.ofString ".0", Str.ofString "twos", Str.ofString "divrem", Str.ofString "an even number below", Str.ofString "is_below", Str.ofString "nat", Str.ofString "x", Str.ofString "y", Str.ofString "mul", Str.ofString "quotient", Str.ofString "other", Str.ofString "value", Str.ofString "rows", Str.ofString "top", Str.ofString "column", Str.ofString "row", Str.ofString "head", Str.ofString "before", Str.ofString "pivot", Str.ofString "own", Str.ofString "here", Str.ofString "columns", Str.ofString "places", Str.ofString "is_odd", Str.ofString "spot", Str.ofString "last", Str.ofString "first", Str.ofString "second", Str.ofString "high", Str.ofString "size", Str.ofString "shift", Str.ofString "divisor", Str.ofString "thread", Str.ofString "number", Str.ofString "p", Str.ofString "told", Str.ofString "script", Str.ofString "color", Str.ofString "even", Str.ofString "some", Str.ofString "pairs", Str.ofString "due", Str.ofString "by", Str.ofString "ways", Str.ofString "squares"]
noncomputable def f_normal : Fn where
  ps := [(47, ⟨8, 11, 8, 12⟩)]
  sc := [(47, .l), (48, .l), (40, .g)]
  body := [
    (.asg (.nam 48 ⟨9, 4, 9, 7⟩) (.bcl 0 ⟨9, 10, 9, 13⟩ [(.nam 47 ⟨9, 14, 9, 15⟩)] ⟨9, 10, 9, 16⟩) ⟨9, 4, 9, 16⟩),
    (.whl (.boo .And (.cmp .Gt (.nam 48 ⟨10, 10, 10, 13⟩) (.num 0 ⟨10, 16, 10, 17⟩) ⟨10, 10, 10, 17⟩) (.cmp .Eq (.idx (.nam 47 ⟨10, 22, 10, 23⟩) (.bin .Sub (.nam 48 ⟨10, 24, 10, 27⟩) (.num 1 ⟨10, 30, 10, 31⟩) ⟨10, 24, 10, 31⟩) ⟨10, 22, 10, 32⟩) (.num 0 ⟨10, 36, 10, 37⟩) ⟨10, 22, 10, 37⟩) ⟨10, 10, 10, 37⟩) [(.aug 48 ⟨11, 8, 11, 11⟩ .Sub (.num 1 ⟨11, 15, 11, 16⟩) ⟨11, 8, 11, 16⟩)] ⟨10, 4, 11, 16⟩),
    (.ret (.slc (.nam 47 ⟨12, 11, 12, 12⟩) none (some (.nam 48 ⟨12, 14, 12, 17⟩)) ⟨12, 13, 12, 17⟩ ⟨12, 11, 12, 18⟩) ⟨12, 4, 12, 18⟩)]
noncomputable def f_is_even : Fn where
  ps := [(47, ⟨13, 12, 13, 13⟩)]
  sc := [(47, .l), (40, .g)]
  body := [
    (.ret (.boo .Or (.cmp .Eq (.bcl 0 ⟨14, 11, 14, 14⟩ [(.nam 47 ⟨14, 15, 14, 16⟩)] ⟨14, 11, 14, 17⟩) (.num 0 ⟨14, 21, 14, 22⟩) ⟨14, 11, 14, 22⟩) (.cmp .Eq (.bin .BitAnd (.idx (.nam 47 ⟨14, 26, 14, 27⟩) (.num 0 ⟨14, 28, 14, 29⟩) ⟨14, 26, 14, 30⟩) (.num 1 ⟨14, 33, 14, 34⟩) ⟨14, 26, 14, 34⟩) (.num 0 ⟨14, 38, 14, 39⟩) ⟨14, 26, 14, 39⟩) ⟨14, 11, 14, 39⟩) ⟨14, 4, 14, 39⟩)]
noncomputable def f_compare : Fn where
  ps := [(47, ⟨15, 12, 15, 13⟩), (49, ⟨15, 15, 15, 16⟩)]
  sc := [(47, .l), (49, .l), (50, .l), (40, .g), (41, .g)]
  body := [
    (.iff (.cmp .NotEq (.bcl 0 ⟨16, 7, 16, 10⟩ [(.nam 47 ⟨16, 11, 16, 12⟩)] ⟨16, 7, 16, 13⟩) (.bcl 0 ⟨16, 17, 16, 20⟩ [(.nam 49 ⟨16, 21, 16, 22⟩)] ⟨16, 17, 16, 23⟩) ⟨16, 7, 16, 23⟩) [(.ret (.ife (.cmp .Lt (.bcl 0 ⟨17, 21, 17, 24⟩ [(.nam 47 ⟨17, 25, 17, 26⟩)] ⟨17, 21, 17, 27⟩) (.bcl 0 ⟨17, 30, 17, 33⟩ [(.nam 49 ⟨17, 34, 17, 35⟩)] ⟨17, 30, 17, 36⟩) ⟨17, 21, 17, 36⟩) (.neg (.num 1 ⟨17, 16, 17, 17⟩) ⟨17, 15, 17, 17⟩) (.num 1 ⟨17, 42, 17, 43⟩) ⟨17, 15, 17, 43⟩) ⟨17, 8, 17, 43⟩)] [] ⟨16, 4, 17, 43⟩),
    (.forr (.nam 50 ⟨18, 8, 18, 10⟩) (.bcl 1 ⟨18, 14, 18, 19⟩ [(.bin .Sub (.bcl 0 ⟨18, 20, 18, 23⟩ [(.nam 47 ⟨18, 24, 18, 25⟩)] ⟨18, 20, 18, 26⟩) (.num 1 ⟨18, 29, 18, 30⟩) ⟨18, 20, 18, 30⟩), (.neg (.num 1 ⟨18, 33, 18, 34⟩) ⟨18, 32, 18, 34⟩), (.neg (.num 1 ⟨18, 37, 18, 38⟩) ⟨18, 36, 18, 38⟩)] ⟨18, 14, 18, 39⟩) [(.iff (.cmp .NotEq (.idx (.nam 47 ⟨19, 11, 19, 12⟩) (.nam 50 ⟨19, 13, 19, 15⟩) ⟨19, 11, 19, 16⟩) (.idx (.nam 49 ⟨19, 20, 19, 21⟩) (.nam 50 ⟨19, 22, 19, 24⟩) ⟨19, 20, 19, 25⟩) ⟨19, 11, 19, 25⟩) [(.ret (.ife (.cmp .Lt (.idx (.nam 47 ⟨20, 25, 20, 26⟩) (.nam 50 ⟨20, 27, 20, 29⟩) ⟨20, 25, 20, 30⟩) (.idx (.nam 49 ⟨20, 33, 20, 34⟩) (.nam 50 ⟨20, 35, 20, 37⟩) ⟨20, 33, 20, 38⟩) ⟨20, 25, 20, 38⟩) (.neg (.num 1 ⟨20, 20, 20, 21⟩) ⟨20, 19, 20, 21⟩) (.num 1 ⟨20, 44, 20, 45⟩) ⟨20, 19, 20, 45⟩) ⟨20, 12, 20, 45⟩)] [] ⟨19, 8, 20, 45⟩)] ⟨18, 4, 20, 45⟩),
    (.ret (.num 0 ⟨21, 11, 21, 12⟩) ⟨21, 4, 21, 12⟩)]
noncomputable def f_add : Fn where
  ps := [(47, ⟨22, 8, 22, 9⟩), (49, ⟨22, 11, 22, 12⟩), (51, ⟨22, 14, 22, 15⟩)]
  sc := [(47, .l), (49, .l), (51, .l), (52, .l), (53, .l), (54, .l), (50, .l), (40, .g), (41, .g)]
  body := [
    (.iff (.cmp .Lt (.bcl 0 ⟨23, 7, 23, 10⟩ [(.nam 47 ⟨23, 11, 23, 12⟩)] ⟨23, 7, 23, 13⟩) (.bcl 0 ⟨23, 16, 23, 19⟩ [(.nam 49 ⟨23, 20, 23, 21⟩)] ⟨23, 16, 23, 22⟩) ⟨23, 7, 23, 22⟩) [(.ast [(.nam 47 ⟨24, 8, 24, 9⟩), (.nam 49 ⟨24, 11, 24, 12⟩)] ⟨24, 8, 24, 12⟩ (.tup [(.nam 49 ⟨24, 16, 24, 17⟩), (.nam 47 ⟨24, 19, 24, 20⟩)] ⟨24, 15, 24, 21⟩) ⟨24, 8, 24, 21⟩)] [] ⟨23, 4, 24, 21⟩),
    (.ast [(.nam 52 ⟨25, 4, 25, 9⟩), (.nam 53 ⟨25, 11, 25, 16⟩), (.nam 54 ⟨25, 18, 25, 22⟩)] ⟨25, 4, 25, 22⟩ (.tup [(.lst [] ⟨25, 26, 25, 28⟩), (.num 0 ⟨25, 30, 25, 31⟩), (.bin .Sub (.bin .LShift (.num 1 ⟨25, 34, 25, 35⟩) (.nam 51 ⟨25, 39, 25, 40⟩) ⟨25, 34, 25, 40⟩) (.num 1 ⟨25, 44, 25, 45⟩) ⟨25, 33, 25, 45⟩)] ⟨25, 25, 25, 46⟩) ⟨25, 4, 25, 46⟩),
    (.forr (.nam 50 ⟨26, 8, 26, 10⟩) (.bcl 1 ⟨26, 14, 26, 19⟩ [(.bcl 0 ⟨26, 20, 26, 23⟩ [(.nam 49 ⟨26, 24, 26, 25⟩)] ⟨26, 20, 26, 26⟩)] ⟨26, 14, 26, 27⟩) [(.aug 53 ⟨27, 8, 27, 13⟩ .Add (.bin .Add (.idx (.nam 47 ⟨27, 17, 27, 18⟩) (.nam 50 ⟨27, 19, 27, 21⟩) ⟨27, 17, 27, 22⟩) (.idx (.nam 49 ⟨27, 25, 27, 26⟩) (.nam 50 ⟨27, 27, 27, 29⟩) ⟨27, 25, 27, 30⟩) ⟨27, 17, 27, 30⟩) ⟨27, 8, 27, 30⟩), (.exp (.met (.nam 52 ⟨28, 8, 28, 13⟩) 0 ⟨28, 8, 28, 20⟩ [(.bin .BitAnd (.nam 53 ⟨28, 21, 28, 26⟩) (.nam 54 ⟨28, 29, 28, 33⟩) ⟨28, 21, 28, 33⟩)] ⟨28, 8, 28, 34⟩) ⟨28, 8, 28, 34⟩), (.aug 53 ⟨29, 8, 29, 13⟩ .RShift (.nam 51 ⟨29, 18, 29, 19⟩) ⟨29, 8, 29, 19⟩)] ⟨26, 4, 29, 19⟩),
    (.forr (.nam 50 ⟨30, 8, 30, 10⟩) (.bcl 1 ⟨30, 14, 30, 19⟩ [(.bcl 0 ⟨30, 20, 30, 23⟩ [(.nam 49 ⟨30, 24, 30, 25⟩)] ⟨30, 20, 30, 26⟩), (.bcl 0 ⟨30, 28, 30, 31⟩ [(.nam 47 ⟨30, 32, 30, 33⟩)] ⟨30, 28, 30, 34⟩)] ⟨30, 14, 30, 35⟩) [(.aug 53 ⟨31, 8, 31, 13⟩ .Add (.idx (.nam 47 ⟨31, 17, 31, 18⟩) (.nam 50 ⟨31, 19, 31, 21⟩) ⟨31, 17, 31, 22⟩) ⟨31, 8, 31, 22⟩), (.exp (.met (.nam 52 ⟨32, 8, 32, 13⟩) 0 ⟨32, 8, 32, 20⟩ [(.bin .BitAnd (.nam 53 ⟨32, 21, 32, 26⟩) (.nam 54 ⟨32, 29, 32, 33⟩) ⟨32, 21, 32, 33⟩)] ⟨32, 8, 32, 34⟩) ⟨32, 8, 32, 34⟩), (.aug 53 ⟨33, 8, 33, 13⟩ .RShift (.nam 51 ⟨33, 18, 33, 19⟩) ⟨33, 8, 33, 19⟩)] ⟨30, 4, 33, 19⟩),
    (.iff (.cmp .Gt (.nam 53 ⟨34, 7, 34, 12⟩) (.num 0 ⟨34, 15, 34, 16⟩) ⟨34, 7, 34, 16⟩) [(.exp (.met (.nam 52 ⟨35, 8, 35, 13⟩) 0 ⟨35, 8, 35, 20⟩ [(.nam 53 ⟨35, 21, 35, 26⟩)] ⟨35, 8, 35, 27⟩) ⟨35, 8, 35, 27⟩)] [] ⟨34, 4, 35, 27⟩),
    (.ret (.nam 52 ⟨36, 11, 36, 16⟩) ⟨36, 4, 36, 16⟩)]
noncomputable def f_sub : Fn where
  ps := [(47, ⟨37, 8, 37, 9⟩), (49, ⟨37, 11, 37, 12⟩), (51, ⟨37, 14, 37, 15⟩)]
  sc := [(47, .l), (49, .l), (51, .l), (52, .l), (57, .l), (58, .l), (50, .l), (59, .l), (2, .g), (55, .g), (41, .g), (40, .g), (0, .g)]
  body := [
    (.iff (.cmp .Lt (.call (.nam 2 ⟨38, 7, 38, 14⟩) [(.nam 47 ⟨38, 15, 38, 16⟩), (.nam 49 ⟨38, 18, 38, 19⟩)] ⟨38, 7, 38, 20⟩) (.num 0 ⟨38, 23, 38, 24⟩) ⟨38, 7, 38, 24⟩) [(.rai 55 ⟨39, 14, 39, 24⟩ 56 ⟨39, 25, 39, 39⟩ ⟨39, 14, 39, 40⟩ ⟨39, 8, 39, 40⟩)] [] ⟨38, 4, 39, 40⟩),
    (.ast [(.nam 52 ⟨40, 4, 40, 9⟩), (.nam 57 ⟨40, 11, 40, 17⟩), (.nam 58 ⟨40, 19, 40, 23⟩)] ⟨40, 4, 40, 23⟩ (.tup [(.lst [] ⟨40, 27, 40, 29⟩), (.num 0 ⟨40, 31, 40, 32⟩), (.bin .LShift (.num 1 ⟨40, 34, 40, 35⟩) (.nam 51 ⟨40, 39, 40, 40⟩) ⟨40, 34, 40, 40⟩)] ⟨40, 26, 40, 41⟩) ⟨40, 4, 40, 41⟩),
    (.forr (.nam 50 ⟨41, 8, 41, 10⟩) (.bcl 1 ⟨41, 14, 41, 19⟩ [(.bcl 0 ⟨41, 20, 41, 23⟩ [(.nam 47 ⟨41, 24, 41, 25⟩)] ⟨41, 20, 41, 26⟩)] ⟨41, 14, 41, 27⟩) [(.asg (.nam 59 ⟨42, 8, 42, 12⟩) (.bin .Sub (.bin .Sub (.idx (.nam 47 ⟨42, 15, 42, 16⟩) (.nam 50 ⟨42, 17, 42, 19⟩) ⟨42, 15, 42, 20⟩) (.nam 57 ⟨42, 23, 42, 29⟩) ⟨42, 15, 42, 29⟩) (.ife (.cmp .Lt (.nam 50 ⟨42, 42, 42, 44⟩) (.bcl 0 ⟨42, 47, 42, 50⟩ [(.nam 49 ⟨42, 51, 42, 52⟩)] ⟨42, 47, 42, 53⟩) ⟨42, 42, 42, 53⟩) (.idx (.nam 49 ⟨42, 33, 42, 34⟩) (.nam 50 ⟨42, 35, 42, 37⟩) ⟨42, 33, 42, 38⟩) (.num 0 ⟨42, 59, 42, 60⟩) ⟨42, 33, 42, 60⟩) ⟨42, 15, 42, 61⟩) ⟨42, 8, 42, 61⟩), (.asg (.nam 57 ⟨43, 8, 43, 14⟩) (.ife (.cmp .Lt (.nam 59 ⟨43, 22, 43, 26⟩) (.num 0 ⟨43, 29, 43, 30⟩) ⟨43, 22, 43, 30⟩) (.num 1 ⟨43, 17, 43, 18⟩) (.num 0 ⟨43, 36, 43, 37⟩) ⟨43, 17, 43, 37⟩) ⟨43, 8, 43, 37⟩), (.exp (.met (.nam 52 ⟨44, 8, 44, 13⟩) 0 ⟨44, 8, 44, 20⟩ [(.ife (.cmp .Lt (.nam 59 ⟨44, 36, 44, 40⟩) (.num 0 ⟨44, 43, 44, 44⟩) ⟨44, 36, 44, 44⟩) (.bin .Add (.nam 59 ⟨44, 21, 44, 25⟩) (.nam 58 ⟨44, 28, 44, 32⟩) ⟨44, 21, 44, 32⟩) (.nam 59 ⟨44, 50, 44, 54⟩) ⟨44, 21, 44, 54⟩)] ⟨44, 8, 44, 55⟩) ⟨44, 8, 44, 55⟩)] ⟨41, 4, 44, 55⟩),
    (.ret (.call (.nam 0 ⟨45, 11, 45, 17⟩) [(.nam 52 ⟨45, 18, 45, 23⟩)] ⟨45, 11, 45, 24⟩) ⟨45, 4, 45, 24⟩)]
noncomputable def f_divrem_limb : Fn where
  ps := [(47, ⟨46, 16, 46, 17⟩), (59, ⟨46, 19, 46, 23⟩), (51, ⟨46, 25, 46, 26⟩)]
  sc := [(47, .l), (59, .l), (51, .l), (52, .l), (62, .l), (50, .l), (60, .g), (40, .g), (41, .g), (0, .g)]
  body := [
    (.iff (.cmp .Eq (.nam 59 ⟨47, 7, 47, 11⟩) (.num 0 ⟨47, 15, 47, 16⟩) ⟨47, 7, 47, 16⟩) [(.rai 60 ⟨48, 14, 48, 28⟩ 61 ⟨48, 29, 48, 49⟩ ⟨48, 14, 48, 50⟩ ⟨48, 8, 48, 50⟩)] [] ⟨47, 4, 48, 50⟩),
    (.ast [(.nam 52 ⟨49, 4, 49, 9⟩), (.nam 62 ⟨49, 11, 49, 15⟩)] ⟨49, 4, 49, 15⟩ (.tup [(.bin .Mult (.lst [(.num 0 ⟨49, 20, 49, 21⟩)] ⟨49, 19, 49, 22⟩) (.bcl 0 ⟨49, 25, 49, 28⟩ [(.nam 47 ⟨49, 29, 49, 30⟩)] ⟨49, 25, 49, 31⟩) ⟨49, 19, 49, 31⟩), (.num 0 ⟨49, 33, 49, 34⟩)] ⟨49, 18, 49, 35⟩) ⟨49, 4, 49, 35⟩),
    (.forr (.nam 50 ⟨50, 8, 50, 10⟩) (.bcl 1 ⟨50, 14, 50, 19⟩ [(.bin .Sub (.bcl 0 ⟨50, 20, 50, 23⟩ [(.nam 47 ⟨50, 24, 50, 25⟩)] ⟨50, 20, 50, 26⟩) (.num 1 ⟨50, 29, 50, 30⟩) ⟨50, 20, 50, 30⟩), (.neg (.num 1 ⟨50, 33, 50, 34⟩) ⟨50, 32, 50, 34⟩), (.neg (.num 1 ⟨50, 37, 50, 38⟩) ⟨50, 36, 50, 38⟩)] ⟨50, 14, 50, 39⟩) [(.asg (.nam 62 ⟨51, 8, 51, 12⟩) (.bin .BitOr (.bin .LShift (.nam 62 ⟨51, 15, 51, 19⟩) (.nam 51 ⟨51, 23, 51, 24⟩) ⟨51, 15, 51, 24⟩) (.idx (.nam 47 ⟨51, 27, 51, 28⟩) (.nam 50 ⟨51, 29, 51, 31⟩) ⟨51, 27, 51, 32⟩) ⟨51, 15, 51, 32⟩) ⟨51, 8, 51, 32⟩), (.asg (.idx (.nam 52 ⟨52, 8, 52, 13⟩) (.nam 50 ⟨52, 14, 52, 16⟩) ⟨52, 8, 52, 17⟩) (.bin .FloorDiv (.nam 62 ⟨52, 20, 52, 24⟩) (.nam 59 ⟨52, 28, 52, 32⟩) ⟨52, 20, 52, 32⟩) ⟨52, 8, 52, 32⟩), (.aug 62 ⟨53, 8, 53, 12⟩ .Mod (.nam 59 ⟨53, 16, 53, 20⟩) ⟨53, 8, 53, 20⟩)] ⟨50, 4, 53, 20⟩),
    (.ret (.tup [(.call (.nam 0 ⟨54, 12, 54, 18⟩) [(.nam 52 ⟨54, 19, 54, 24⟩)] ⟨54, 12, 54, 25⟩), (.nam 62 ⟨54, 27, 54, 31⟩)] ⟨54, 11, 54, 32⟩) ⟨54, 4, 54, 32⟩)]
noncomputable def f_shift_left : Fn where
  ps := [(47, ⟨55, 15, 55, 16⟩), (63, ⟨55, 18, 55, 19⟩), (51, ⟨55, 21, 55, 22⟩)]
  sc := [(47, .l), (63, .l), (51, .l), (64, .l), (65, .l), (52, .l), (53, .l), (54, .l), (66, .l), (40, .g)]
  body := [
    (.iff (.cmp .Eq (.bcl 0 ⟨56, 7, 56, 10⟩ [(.nam 47 ⟨56, 11, 56, 12⟩)] ⟨56, 7, 56, 13⟩) (.num 0 ⟨56, 17, 56, 18⟩) ⟨56, 7, 56, 18⟩) [(.ret (.lst [] ⟨57, 15, 57, 17⟩) ⟨57, 8, 57, 17⟩)] [] ⟨56, 4, 57, 17⟩),
    (.ast [(.nam 64 ⟨58, 4, 58, 9⟩), (.nam 65 ⟨58, 11, 58, 14⟩)] ⟨58, 4, 58, 14⟩ (.tup [(.bin .FloorDiv (.nam 63 ⟨58, 18, 58, 19⟩) (.nam 51 ⟨58, 23, 58, 24⟩) ⟨58, 18, 58, 24⟩), (.bin .Mod (.nam 63 ⟨58, 26, 58, 27⟩) (.nam 51 ⟨58, 30, 58, 31⟩) ⟨58, 26, 58, 31⟩)] ⟨58, 17, 58, 32⟩) ⟨58, 4, 58, 32⟩),
    (.ast [(.nam 52 ⟨59, 4, 59, 9⟩), (.nam 53 ⟨59, 11, 59, 16⟩), (.nam 54 ⟨59, 18, 59, 22⟩)] ⟨59, 4, 59, 22⟩ (.tup [(.bin .Mult (.lst [(.num 0 ⟨59, 27, 59, 28⟩)] ⟨59, 26, 59, 29⟩) (.nam 64 ⟨59, 32, 59, 37⟩) ⟨59, 26, 59, 37⟩), (.num 0 ⟨59, 39, 59, 40⟩), (.bin .Sub (.bin .LShift (.num 1 ⟨59, 43, 59, 44⟩) (.nam 51 ⟨59, 48, 59, 49⟩) ⟨59, 43, 59, 49⟩) (.num 1 ⟨59, 53, 59, 54⟩) ⟨59, 42, 59, 54⟩)] ⟨59, 25, 59, 55⟩) ⟨59, 4, 59, 55⟩),
    (.forr (.nam 66 ⟨60, 8, 60, 11⟩) (.nam 47 ⟨60, 15, 60, 16⟩) [(.aug 53 ⟨61, 8, 61, 13⟩ .BitOr (.bin .LShift (.nam 66 ⟨61, 17, 61, 20⟩) (.nam 65 ⟨61, 24, 61, 27⟩) ⟨61, 17, 61, 27⟩) ⟨61, 8, 61, 27⟩), (.exp (.met (.nam 52 ⟨62, 8, 62, 13⟩) 0 ⟨62, 8, 62, 20⟩ [(.bin .BitAnd (.nam 53 ⟨62, 21, 62, 26⟩) (.nam 54 ⟨62, 29, 62, 33⟩) ⟨62, 21, 62, 33⟩)] ⟨62, 8, 62, 34⟩) ⟨62, 8, 62, 34⟩), (.aug 53 ⟨63, 8, 63, 13⟩ .RShift (.nam 51 ⟨63, 18, 63, 19⟩) ⟨63, 8, 63, 19⟩)] ⟨60, 4, 63, 19⟩),
    (.iff (.cmp .Gt (.nam 53 ⟨64, 7, 64, 12⟩) (.num 0 ⟨64, 15, 64, 16⟩) ⟨64, 7, 64, 16⟩) [(.exp (.met (.nam 52 ⟨65, 8, 65, 13⟩) 0 ⟨65, 8, 65, 20⟩ [(.nam 53 ⟨65, 21, 65, 26⟩)] ⟨65, 8, 65, 27⟩) ⟨65, 8, 65, 27⟩)] [] ⟨64, 4, 65, 27⟩),
    (.ret (.nam 52 ⟨66, 11, 66, 16⟩) ⟨66, 4, 66, 16⟩)]
noncomputable def f_shift_right : Fn where
  ps := [(47, ⟨67, 16, 67, 17⟩), (63, ⟨67, 19, 67, 20⟩), (51, ⟨67, 22, 67, 23⟩)]
  sc := [(47, .l), (63, .l), (51, .l), (64, .l), (65, .l), (52, .l), (54, .l), (50, .l), (67, .l), (41, .g), (40, .g), (0, .g)]
  body := [
    (.ast [(.nam 64 ⟨68, 4, 68, 9⟩), (.nam 65 ⟨68, 11, 68, 14⟩)] ⟨68, 4, 68, 14⟩ (.tup [(.bin .FloorDiv (.nam 63 ⟨68, 18, 68, 19⟩) (.nam 51 ⟨68, 23, 68, 24⟩) ⟨68, 18, 68, 24⟩), (.bin .Mod (.nam 63 ⟨68, 26, 68, 27⟩) (.nam 51 ⟨68, 30, 68, 31⟩) ⟨68, 26, 68, 31⟩)] ⟨68, 17, 68, 32⟩) ⟨68, 4, 68, 32⟩),
    (.ast [(.nam 52 ⟨69, 4, 69, 9⟩), (.nam 54 ⟨69, 11, 69, 15⟩)] ⟨69, 4, 69, 15⟩ (.tup [(.lst [] ⟨69, 19, 69, 21⟩), (.bin .Sub (.bin .LShift (.num 1 ⟨69, 24, 69, 25⟩) (.nam 51 ⟨69, 29, 69, 30⟩) ⟨69, 24, 69, 30⟩) (.num 1 ⟨69, 34, 69, 35⟩) ⟨69, 23, 69, 35⟩)] ⟨69, 18, 69, 36⟩) ⟨69, 4, 69, 36⟩),
    (.forr (.nam 50 ⟨70, 8, 70, 10⟩) (.bcl 1 ⟨70, 14, 70, 19⟩ [(.nam 64 ⟨70, 20, 70, 25⟩), (.bcl 0 ⟨70, 27, 70, 30⟩ [(.nam 47 ⟨70, 31, 70, 32⟩)] ⟨70, 27, 70, 33⟩)] ⟨70, 14, 70, 34⟩) [(.asg (.nam 67 ⟨71, 8, 71, 13⟩) (.ife (.cmp .Lt (.bin .Add (.nam 50 ⟨71, 29, 71, 31⟩) (.num 1 ⟨71, 34, 71, 35⟩) ⟨71, 29, 71, 35⟩) (.bcl 0 ⟨71, 38, 71, 41⟩ [(.nam 47 ⟨71, 42, 71, 43⟩)] ⟨71, 38, 71, 44⟩) ⟨71, 29, 71, 44⟩) (.idx (.nam 47 ⟨71, 16, 71, 17⟩) (.bin .Add (.nam 50 ⟨71, 18, 71, 20⟩) (.num 1 ⟨71, 23, 71, 24⟩) ⟨71, 18, 71, 24⟩) ⟨71, 16, 71, 25⟩) (.num 0 ⟨71, 50, 71, 51⟩) ⟨71, 16, 71, 51⟩) ⟨71, 8, 71, 51⟩), (.exp (.met (.nam 52 ⟨72, 8, 72, 13⟩) 0 ⟨72, 8, 72, 20⟩ [(.bin .BitAnd (.bin .BitOr (.bin .RShift (.idx (.nam 47 ⟨72, 22, 72, 23⟩) (.nam 50 ⟨72, 24, 72, 26⟩) ⟨72, 22, 72, 27⟩) (.nam 65 ⟨72, 31, 72, 34⟩) ⟨72, 22, 72, 34⟩) (.bin .LShift (.nam 67 ⟨72, 37, 72, 42⟩) (.bin .Sub (.nam 51 ⟨72, 46, 72, 47⟩) (.nam 65 ⟨72, 50, 72, 53⟩) ⟨72, 46, 72, 53⟩) ⟨72, 37, 72, 53⟩) ⟨72, 22, 72, 53⟩) (.nam 54 ⟨72, 57, 72, 61⟩) ⟨72, 21, 72, 61⟩)] ⟨72, 8, 72, 62⟩) ⟨72, 8, 72, 62⟩)] ⟨70, 4, 72, 62⟩),
    (.ret (.call (.nam 0 ⟨73, 11, 73, 17⟩) [(.nam 52 ⟨73, 18, 73, 23⟩)] ⟨73, 11, 73, 24⟩) ⟨73, 4, 73, 24⟩)]
noncomputable def f_bits : Fn where
  ps := [(47, ⟨74, 9, 74, 10⟩), (51, ⟨74, 12, 74, 13⟩)]
  sc := [(47, .l), (51, .l), (40, .g)]
  body := [
    (.ret (.ife (.cmp .Gt (.bcl 0 ⟨75, 52, 75, 55⟩ [(.nam 47 ⟨75, 56, 75, 57⟩)] ⟨75, 52, 75, 58⟩) (.num 0 ⟨75, 61, 75, 62⟩) ⟨75, 52, 75, 62⟩) (.bin .Add (.bin .Mult (.bin .Sub (.bcl 0 ⟨75, 12, 75, 15⟩ [(.nam 47 ⟨75, 16, 75, 17⟩)] ⟨75, 12, 75, 18⟩) (.num 1 ⟨75, 21, 75, 22⟩) ⟨75, 12, 75, 22⟩) (.nam 51 ⟨75, 26, 75, 27⟩) ⟨75, 11, 75, 27⟩) (.met (.idx (.nam 47 ⟨75, 30, 75, 31⟩) (.neg (.num 1 ⟨75, 33, 75, 34⟩) ⟨75, 32, 75, 34⟩) ⟨75, 30, 75, 35⟩) 1 ⟨75, 30, 75, 46⟩ [] ⟨75, 30, 75, 48⟩) ⟨75, 11, 75, 48⟩) (.num 0 ⟨75, 68, 75, 69⟩) ⟨75, 11, 75, 69⟩) ⟨75, 4, 75, 69⟩)]
noncomputable def f_bit : Fn where
  ps := [(47, ⟨76, 8, 76, 9⟩), (63, ⟨76, 11, 76, 12⟩), (51, ⟨76, 14, 76, 15⟩)]
  sc := [(47, .l), (63, .l), (51, .l), (40, .g)]
  body := [
    (.ret (.ife (.cmp .Lt (.bin .FloorDiv (.nam 63 ⟨77, 37, 77, 38⟩) (.nam 51 ⟨77, 42, 77, 43⟩) ⟨77, 37, 77, 43⟩) (.bcl 0 ⟨77, 46, 77, 49⟩ [(.nam 47 ⟨77, 50, 77, 51⟩)] ⟨77, 46, 77, 52⟩) ⟨77, 37, 77, 52⟩) (.bin .BitAnd (.bin .RShift (.idx (.nam 47 ⟨77, 11, 77, 12⟩) (.bin .FloorDiv (.nam 63 ⟨77, 13, 77, 14⟩) (.nam 51 ⟨77, 18, 77, 19⟩) ⟨77, 13, 77, 19⟩) ⟨77, 11, 77, 20⟩) (.bin .Mod (.nam 63 ⟨77, 24, 77, 25⟩) (.nam 51 ⟨77, 28, 77, 29⟩) ⟨77, 24, 77, 29⟩) ⟨77, 11, 77, 29⟩) (.num 1 ⟨77, 32, 77, 33⟩) ⟨77, 11, 77, 33⟩) (.num 0 ⟨77, 58, 77, 59⟩) ⟨77, 11, 77, 59⟩) ⟨77, 4, 77, 59⟩)]
noncomputable def f_trailing : Fn where
  ps := [(47, ⟨78, 13, 78, 14⟩), (51, ⟨78, 16, 78, 17⟩)]
  sc := [(47, .l), (51, .l), (50, .l), (59, .l), (42, .g), (55, .g)]
  body := [
    (.forr (.tup [(.nam 50 ⟨79, 8, 79, 10⟩), (.nam 59 ⟨79, 12, 79, 16⟩)] ⟨79, 8, 79, 16⟩) (.bcl 2 ⟨79, 20, 79, 29⟩ [(.nam 47 ⟨79, 30, 79, 31⟩)] ⟨79, 20, 79, 32⟩) [(.iff (.cmp .Gt (.nam 59 ⟨80, 11, 80, 15⟩) (.num 0 ⟨80, 18, 80, 19⟩) ⟨80, 11, 80, 19⟩) [(.ret (.bin .Sub (.bin .Add (.bin .Mult (.nam 50 ⟨81, 19, 81, 21⟩) (.nam 51 ⟨81, 24, 81, 25⟩) ⟨81, 19, 81, 25⟩) (.met (.bin .BitAnd (.nam 59 ⟨81, 29, 81, 33⟩) (.neg (.nam 59 ⟨81, 37, 81, 41⟩) ⟨81, 36, 81, 41⟩) ⟨81, 29, 81, 41⟩) 1 ⟨81, 28, 81, 53⟩ [] ⟨81, 28, 81, 55⟩) ⟨81, 19, 81, 55⟩) (.num 1 ⟨81, 58, 81, 59⟩) ⟨81, 19, 81, 59⟩) ⟨81, 12, 81, 59⟩)] [] ⟨80, 8, 81, 59⟩)] ⟨79, 4, 81, 59⟩),
    (.rai 55 ⟨82, 10, 82, 20⟩ 68 ⟨82, 21, 82, 29⟩ ⟨82, 10, 82, 30⟩ ⟨82, 4, 82, 30⟩)]
noncomputable def f_last_bits : Fn where
  ps := [(47, ⟨84, 14, 84, 15⟩), (69, ⟨84, 17, 84, 21⟩), (51, ⟨84, 23, 84, 24⟩)]
  sc := [(47, .c), (69, .l), (51, .c), (43, .g), (41, .g)]
  body := [
    (.ret (.bcl 3 ⟨85, 11, 85, 14⟩ [(.com (.bin .LShift (.call (.nam 9 ⟨85, 16, 85, 19⟩) [(.nam 47 ⟨85, 20, 85, 21⟩), (.nam 63 ⟨85, 23, 85, 24⟩), (.nam 51 ⟨85, 26, 85, 27⟩)] ⟨85, 16, 85, 28⟩) (.nam 63 ⟨85, 32, 85, 33⟩) ⟨85, 16, 85, 33⟩) [((.nam 63 ⟨85, 38, 85, 39⟩), (.bcl 1 ⟨85, 43, 85, 48⟩ [(.nam 69 ⟨85, 49, 85, 53⟩)] ⟨85, 43, 85, 54⟩), [])] [(70, .l), (63, .l), (9, .g), (47, .f), (51, .f)] ⟨85, 15, 85, 55⟩)] ⟨85, 11, 85, 56⟩) ⟨85, 4, 85, 56⟩)]
noncomputable def f_two_sign : Fn where
  ps := [(71, ⟨86, 13, 86, 17⟩), (47, ⟨86, 19, 86, 20⟩), (51, ⟨86, 22, 86, 23⟩)]
  sc := [(71, .l), (47, .l), (51, .l), (11, .g)]
  body := [
    (.ret (.ife (.boo .And (.cmp .Eq (.bin .Mod (.nam 71 ⟨87, 17, 87, 21⟩) (.num 2 ⟨87, 24, 87, 25⟩) ⟨87, 17, 87, 25⟩) (.num 1 ⟨87, 29, 87, 30⟩) ⟨87, 17, 87, 30⟩) (.cmp .In (.call (.nam 11 ⟨87, 35, 87, 44⟩) [(.nam 47 ⟨87, 45, 87, 46⟩), (.num 3 ⟨87, 48, 87, 49⟩), (.nam 51 ⟨87, 51, 87, 52⟩)] ⟨87, 35, 87, 53⟩) (.tup [(.num 3 ⟨87, 58, 87, 59⟩), (.num 5 ⟨87, 61, 87, 62⟩)] ⟨87, 57, 87, 63⟩) ⟨87, 35, 87, 63⟩) ⟨87, 17, 87, 63⟩) (.neg (.num 1 ⟨87, 12, 87, 13⟩) ⟨87, 11, 87, 13⟩) (.num 1 ⟨87, 69, 87, 70⟩) ⟨87, 11, 87, 70⟩) ⟨87, 4, 87, 70⟩)]
noncomputable def f_jacobi : Fn where
  ps := [(47, ⟨88, 11, 88, 12⟩), (63, ⟨88, 14, 88, 15⟩), (51, ⟨88, 17, 88, 18⟩), (72, ⟨88, 20, 88, 26⟩)]
  sc := [(47, .l), (63, .l), (51, .l), (72, .l), (52, .l), (71, .l), (1, .g), (55, .g), (40, .g), (10, .g), (7, .g), (12, .g), (11, .g), (2, .g)]
  body := [
    (.iff (.call (.nam 1 ⟨89, 7, 89, 14⟩) [(.nam 63 ⟨89, 15, 89, 16⟩)] ⟨89, 7, 89, 17⟩) [(.rai 55 ⟨90, 14, 90, 24⟩ 73 ⟨90, 25, 90, 47⟩ ⟨90, 14, 90, 48⟩ ⟨90, 8, 90, 48⟩)] [] ⟨89, 4, 90, 48⟩),
    (.ast [(.nam 52 ⟨91, 4, 91, 9⟩), (.nam 47 ⟨91, 11, 91, 12⟩)] ⟨91, 4, 91, 12⟩ (.tup [(.num 1 ⟨91, 16, 91, 17⟩), (.idx (.call (.nam 72 ⟨91, 19, 91, 25⟩) [(.nam 47 ⟨91, 26, 91, 27⟩), (.nam 63 ⟨91, 29, 91, 30⟩), (.nam 51 ⟨91, 32, 91, 33⟩)] ⟨91, 19, 91, 34⟩) (.num 1 ⟨91, 35, 91, 36⟩) ⟨91, 19, 91, 37⟩)] ⟨91, 15, 91, 38⟩) ⟨91, 4, 91, 38⟩),
    (.whl (.cmp .Gt (.bcl 0 ⟨92, 10, 92, 13⟩ [(.nam 47 ⟨92, 14, 92, 15⟩)] ⟨92, 10, 92, 16⟩) (.num 0 ⟨92, 19, 92, 20⟩) ⟨92, 10, 92, 20⟩) [(.asg (.nam 71 ⟨93, 8, 93, 12⟩) (.call (.nam 10 ⟨93, 15, 93, 23⟩) [(.nam 47 ⟨93, 24, 93, 25⟩), (.nam 51 ⟨93, 27, 93, 28⟩)] ⟨93, 15, 93, 29⟩) ⟨93, 8, 93, 29⟩), (.asg (.nam 47 ⟨94, 8, 94, 9⟩) (.call (.nam 7 ⟨94, 12, 94, 23⟩) [(.nam 47 ⟨94, 24, 94, 25⟩), (.nam 71 ⟨94, 27, 94, 31⟩), (.nam 51 ⟨94, 33, 94, 34⟩)] ⟨94, 12, 94, 35⟩) ⟨94, 8, 94, 35⟩), (.asg (.nam 52 ⟨95, 8, 95, 13⟩) (.bin .Mult (.nam 52 ⟨95, 16, 95, 21⟩) (.call (.nam 12 ⟨95, 24, 95, 32⟩) [(.nam 71 ⟨95, 33, 95, 37⟩), (.nam 63 ⟨95, 39, 95, 40⟩), (.nam 51 ⟨95, 42, 95, 43⟩)] ⟨95, 24, 95, 44⟩) ⟨95, 16, 95, 44⟩) ⟨95, 8, 95, 44⟩), (.iff (.boo .And (.cmp .Eq (.call (.nam 11 ⟨96, 11, 96, 20⟩) [(.nam 47 ⟨96, 21, 96, 22⟩), (.num 2 ⟨96, 24, 96, 25⟩), (.nam 51 ⟨96, 27, 96, 28⟩)] ⟨96, 11, 96, 29⟩) (.num 3 ⟨96, 33, 96, 34⟩) ⟨96, 11, 96, 34⟩) (.cmp .Eq (.call (.nam 11 ⟨96, 39, 96, 48⟩) [(.nam 63 ⟨96, 49, 96, 50⟩), (.num 2 ⟨96, 52, 96, 53⟩), (.nam 51 ⟨96, 55, 96, 56⟩)] ⟨96, 39, 96, 57⟩) (.num 3 ⟨96, 61, 96, 62⟩) ⟨96, 39, 96, 62⟩) ⟨96, 11, 96, 62⟩) [(.asg (.nam 52 ⟨97, 12, 97, 17⟩) (.neg (.nam 52 ⟨97, 21, 97, 26⟩) ⟨97, 20, 97, 26⟩) ⟨97, 12, 97, 26⟩)] [] ⟨96, 8, 97, 26⟩), (.ast [(.nam 47 ⟨98, 8, 98, 9⟩), (.nam 63 ⟨98, 11, 98, 12⟩)] ⟨98, 8, 98, 12⟩ (.tup [(.idx (.call (.nam 72 ⟨98, 16, 98, 22⟩) [(.nam 63 ⟨98, 23, 98, 24⟩), (.nam 47 ⟨98, 26, 98, 27⟩), (.nam 51 ⟨98, 29, 98, 30⟩)] ⟨98, 16, 98, 31⟩) (.num 1 ⟨98, 32, 98, 33⟩) ⟨98, 16, 98, 34⟩), (.nam 47 ⟨98, 36, 98, 37⟩)] ⟨98, 15, 98, 38⟩) ⟨98, 8, 98, 38⟩)] ⟨92, 4, 98, 38⟩),
    (.ret (.ife (.cmp .Eq (.call (.nam 2 ⟨99, 20, 99, 27⟩) [(.nam 63 ⟨99, 28, 99, 29⟩), (.lst [(.num 1 ⟨99, 32, 99, 33⟩)] ⟨99, 31, 99, 34⟩)] ⟨99, 20, 99, 35⟩) (.num 0 ⟨99, 39, 99, 40⟩) ⟨99, 20, 99, 40⟩) (.nam 52 ⟨99, 11, 99, 16⟩) (.num 0 ⟨99, 46, 99, 47⟩) ⟨99, 11, 99, 47⟩) ⟨99, 4, 99, 47⟩)]
noncomputable def f_signed : Fn where
  ps := [(74, ⟨101, 11, 101, 19⟩), (75, ⟨101, 21, 101, 24⟩)]
  sc := [(74, .l), (75, .l), (40, .g)]
  body := [
    (.ret (.tup [(.boo .And (.nam 74 ⟨102, 12, 102, 20⟩) (.cmp .Gt (.bcl 0 ⟨102, 25, 102, 28⟩ [(.nam 75 ⟨102, 29, 102, 32⟩)] ⟨102, 25, 102, 33⟩) (.num 0 ⟨102, 36, 102, 37⟩) ⟨102, 25, 102, 37⟩) ⟨102, 12, 102, 37⟩), (.nam 75 ⟨102, 39, 102, 42⟩)] ⟨102, 11, 102, 43⟩) ⟨102, 4, 102, 43⟩)]
noncomputable def f_s_neg : Fn where
  ps := [(76, ⟨103, 10, 103, 11⟩)]
  sc := [(76, .l), (14, .g)]
  body := [
    (.ret (.call (.nam 14 ⟨104, 11, 104, 17⟩) [(.nott (.idx (.nam 76 ⟨104, 22, 104, 23⟩) (.num 0 ⟨104, 24, 104, 25⟩) ⟨104, 22, 104, 26⟩) ⟨104, 18, 104, 26⟩), (.idx (.nam 76 ⟨104, 28, 104, 29⟩) (.num 1 ⟨104, 30, 104, 31⟩) ⟨104, 28, 104, 32⟩)] ⟨104, 11, 104, 33⟩) ⟨104, 4, 104, 33⟩)]
noncomputable def f_s_sign : Fn where
  ps := [(76, ⟨105, 11, 105, 12⟩)]
  sc := [(76, .l), (40, .g)]
  body := [
    (.iff (.cmp .Eq (.bcl 0 ⟨106, 7, 106, 10⟩ [(.idx (.nam 76 ⟨106, 11, 106, 12⟩) (.num 1 ⟨106, 13, 106, 14⟩) ⟨106, 11, 106, 15⟩)] ⟨106, 7, 106, 16⟩) (.num 0 ⟨106, 20, 106, 21⟩) ⟨106, 7, 106, 21⟩) [(.ret (.num 0 ⟨107, 15, 107, 16⟩) ⟨107, 8, 107, 16⟩)] [] ⟨106, 4, 107, 16⟩),
    (.ret (.ife (.idx (.nam 76 ⟨108, 17, 108, 18⟩) (.num 0 ⟨108, 19, 108, 20⟩) ⟨108, 17, 108, 21⟩) (.neg (.num 1 ⟨108, 12, 108, 13⟩) ⟨108, 11, 108, 13⟩) (.num 1 ⟨108, 27, 108, 28⟩) ⟨108, 11, 108, 28⟩) ⟨108, 4, 108, 28⟩)]
noncomputable def f_s_add : Fn where
  ps := [(76, ⟨109, 10, 109, 11⟩), (77, ⟨109, 13, 109, 14⟩), (51, ⟨109, 16, 109, 17⟩)]
  sc := [(76, .l), (77, .l), (51, .l), (14, .g), (3, .g), (2, .g), (4, .g)]
  body := [
    (.iff (.cmp .Eq (.idx (.nam 76 ⟨110, 7, 110, 8⟩) (.num 0 ⟨110, 9, 110, 10⟩) ⟨110, 7, 110, 11⟩) (.idx (.nam 77 ⟨110, 15, 110, 16⟩) (.num 0 ⟨110, 17, 110, 18⟩) ⟨110, 15, 110, 19⟩) ⟨110, 7, 110, 19⟩) [(.ret (.call (.nam 14 ⟨111, 15, 111, 21⟩) [(.idx (.nam 76 ⟨111, 22, 111, 23⟩) (.num 0 ⟨111, 24, 111, 25⟩) ⟨111, 22, 111, 26⟩), (.call (.nam 3 ⟨111, 28, 111, 31⟩) [(.idx (.nam 76 ⟨111, 32, 111, 33⟩) (.num 1 ⟨111, 34, 111, 35⟩) ⟨111, 32, 111, 36⟩), (.idx (.nam 77 ⟨111, 38, 111, 39⟩) (.num 1 ⟨111, 40, 111, 41⟩) ⟨111, 38, 111, 42⟩), (.nam 51 ⟨111, 44, 111, 45⟩)] ⟨111, 28, 111, 46⟩)] ⟨111, 15, 111, 47⟩) ⟨111, 8, 111, 47⟩)] [] ⟨110, 4, 111, 47⟩),
    (.iff (.cmp .Lt (.call (.nam 2 ⟨112, 7, 112, 14⟩) [(.idx (.nam 76 ⟨112, 15, 112, 16⟩) (.num 1 ⟨112, 17, 112, 18⟩) ⟨112, 15, 112, 19⟩), (.idx (.nam 77 ⟨112, 21, 112, 22⟩) (.num 1 ⟨112, 23, 112, 24⟩) ⟨112, 21, 112, 25⟩)] ⟨112, 7, 112, 26⟩) (.num 0 ⟨112, 29, 112, 30⟩) ⟨112, 7, 112, 30⟩) [(.ret (.call (.nam 14 ⟨113, 15, 113, 21⟩) [(.idx (.nam 77 ⟨113, 22, 113, 23⟩) (.num 0 ⟨113, 24, 113, 25⟩) ⟨113, 22, 113, 26⟩), (.call (.nam 4 ⟨113, 28, 113, 31⟩) [(.idx (.nam 77 ⟨113, 32, 113, 33⟩) (.num 1 ⟨113, 34, 113, 35⟩) ⟨113, 32, 113, 36⟩), (.idx (.nam 76 ⟨113, 38, 113, 39⟩) (.num 1 ⟨113, 40, 113, 41⟩) ⟨113, 38, 113, 42⟩), (.nam 51 ⟨113, 44, 113, 45⟩)] ⟨113, 28, 113, 46⟩)] ⟨113, 15, 113, 47⟩) ⟨113, 8, 113, 47⟩)] [] ⟨112, 4, 113, 47⟩),
    (.ret (.call (.nam 14 ⟨114, 11, 114, 17⟩) [(.idx (.nam 76 ⟨114, 18, 114, 19⟩) (.num 0 ⟨114, 20, 114, 21⟩) ⟨114, 18, 114, 22⟩), (.call (.nam 4 ⟨114, 24, 114, 27⟩) [(.idx (.nam 76 ⟨114, 28, 114, 29⟩) (.num 1 ⟨114, 30, 114, 31⟩) ⟨114, 28, 114, 32⟩), (.idx (.nam 77 ⟨114, 34, 114, 35⟩) (.num 1 ⟨114, 36, 114, 37⟩) ⟨114, 34, 114, 38⟩), (.nam 51 ⟨114, 40, 114, 41⟩)] ⟨114, 24, 114, 42⟩)] ⟨114, 11, 114, 43⟩) ⟨114, 4, 114, 43⟩)]
noncomputable def f_s_sub : Fn where
  ps := [(76, ⟨115, 10, 115, 11⟩), (77, ⟨115, 13, 115, 14⟩), (51, ⟨115, 16, 115, 17⟩)]
  sc := [(76, .l), (77, .l), (51, .l), (17, .g), (15, .g)]
  body := [
    (.ret (.call (.nam 17 ⟨116, 11, 116, 16⟩) [(.nam 76 ⟨116, 17, 116, 18⟩), (.call (.nam 15 ⟨116, 20, 116, 25⟩) [(.nam 77 ⟨116, 26, 116, 27⟩)] ⟨116, 20, 116, 28⟩), (.nam 51 ⟨116, 30, 116, 31⟩)] ⟨116, 11, 116, 32⟩) ⟨116, 4, 116, 32⟩)]
noncomputable def f_s_mul : Fn where
  ps := [(76, ⟨117, 10, 117, 11⟩), (77, ⟨117, 13, 117, 14⟩), (51, ⟨117, 16, 117, 17⟩), (78, ⟨117, 19, 117, 22⟩)]
  sc := [(76, .l), (77, .l), (51, .l), (78, .l), (14, .g)]
  body := [
    (.ret (.call (.nam 14 ⟨118, 11, 118, 17⟩) [(.cmp .NotEq (.idx (.nam 76 ⟨118, 18, 118, 19⟩) (.num 0 ⟨118, 20, 118, 21⟩) ⟨118, 18, 118, 22⟩) (.idx (.nam 77 ⟨118, 26, 118, 27⟩) (.num 0 ⟨118, 28, 118, 29⟩) ⟨118, 26, 118, 30⟩) ⟨118, 18, 118, 30⟩), (.call (.nam 78 ⟨118, 32, 118, 35⟩) [(.idx (.nam 76 ⟨118, 36, 118, 37⟩) (.num 1 ⟨118, 38, 118, 39⟩) ⟨118, 36, 118, 40⟩), (.idx (.nam 77 ⟨118, 42, 118, 43⟩) (.num 1 ⟨118, 44, 118, 45⟩) ⟨118, 42, 118, 46⟩), (.nam 51 ⟨118, 48, 118, 49⟩)] ⟨118, 32, 118, 50⟩)] ⟨118, 11, 118, 51⟩) ⟨118, 4, 118, 51⟩)]
noncomputable def f_tdiv : Fn where
  ps := [(76, ⟨119, 9, 119, 10⟩), (77, ⟨119, 12, 119, 13⟩), (51, ⟨119, 15, 119, 16⟩), (72, ⟨119, 18, 119, 24⟩)]
  sc := [(76, .l), (77, .l), (51, .l), (72, .l), (79, .l), (62, .l), (40, .g), (60, .g), (14, .g)]
  body := [
    (.iff (.cmp .Eq (.bcl 0 ⟨120, 7, 120, 10⟩ [(.idx (.nam 77 ⟨120, 11, 120, 12⟩) (.num 1 ⟨120, 13, 120, 14⟩) ⟨120, 11, 120, 15⟩)] ⟨120, 7, 120, 16⟩) (.num 0 ⟨120, 20, 120, 21⟩) ⟨120, 7, 120, 21⟩) [(.rai 60 ⟨121, 14, 121, 28⟩ 61 ⟨121, 29, 121, 49⟩ ⟨121, 14, 121, 50⟩ ⟨121, 8, 121, 50⟩)] [] ⟨120, 4, 121, 50⟩),
    (.ast [(.nam 79 ⟨122, 4, 122, 12⟩), (.nam 62 ⟨122, 14, 122, 18⟩)] ⟨122, 4, 122, 18⟩ (.call (.nam 72 ⟨122, 21, 122, 27⟩) [(.idx (.nam 76 ⟨122, 28, 122, 29⟩) (.num 1 ⟨122, 30, 122, 31⟩) ⟨122, 28, 122, 32⟩), (.idx (.nam 77 ⟨122, 34, 122, 35⟩) (.num 1 ⟨122, 36, 122, 37⟩) ⟨122, 34, 122, 38⟩), (.nam 51 ⟨122, 40, 122, 41⟩)] ⟨122, 21, 122, 42⟩) ⟨122, 4, 122, 42⟩),
    (.ret (.tup [(.call (.nam 14 ⟨123, 12, 123, 18⟩) [(.cmp .NotEq (.idx (.nam 76 ⟨123, 19, 123, 20⟩) (.num 0 ⟨123, 21, 123, 22⟩) ⟨123, 19, 123, 23⟩) (.idx (.nam 77 ⟨123, 27, 123, 28⟩) (.num 0 ⟨123, 29, 123, 30⟩) ⟨123, 27, 123, 31⟩) ⟨123, 19, 123, 31⟩), (.nam 79 ⟨123, 33, 123, 41⟩)] ⟨123, 12, 123, 42⟩), (.call (.nam 14 ⟨123, 44, 123, 50⟩) [(.idx (.nam 76 ⟨123, 51, 123, 52⟩) (.num 0 ⟨123, 53, 123, 54⟩) ⟨123, 51, 123, 55⟩), (.nam 62 ⟨123, 57, 123, 61⟩)] ⟨123, 44, 123, 62⟩)] ⟨123, 11, 123, 63⟩) ⟨123, 4, 123, 63⟩)]
noncomputable def f_inner : Fn where
  ps := [(66, ⟨127, 10, 127, 13⟩), (80, ⟨127, 15, 127, 20⟩), (51, ⟨127, 22, 127, 23⟩), (78, ⟨127, 25, 127, 28⟩)]
  sc := [(66, .l), (80, .l), (51, .l), (78, .l), (52, .l), (50, .l), (81, .l), (38, .g), (42, .g), (17, .g), (19, .g)]
  body := [
    (.asg (.nam 52 ⟨128, 4, 128, 9⟩) (.nam 38 ⟨128, 12, 128, 18⟩) ⟨128, 4, 128, 18⟩),
    (.forr (.tup [(.nam 50 ⟨129, 8, 129, 10⟩), (.nam 81 ⟨129, 12, 129, 17⟩)] ⟨129, 8, 129, 17⟩) (.bcl 2 ⟨129, 21, 129, 30⟩ [(.nam 66 ⟨129, 31, 129, 34⟩)] ⟨129, 21, 129, 35⟩) [(.asg (.nam 52 ⟨130, 8, 130, 13⟩) (.call (.nam 17 ⟨130, 16, 130, 21⟩) [(.nam 52 ⟨130, 22, 130, 27⟩), (.call (.nam 19 ⟨130, 29, 130, 34⟩) [(.nam 81 ⟨130, 35, 130, 40⟩), (.idx (.nam 80 ⟨130, 42, 130, 47⟩) (.nam 50 ⟨130, 48, 130, 50⟩) ⟨130, 42, 130, 51⟩), (.nam 51 ⟨130, 53, 130, 54⟩), (.nam 78 ⟨130, 56, 130, 59⟩)] ⟨130, 29, 130, 60⟩), (.nam 51 ⟨130, 62, 130, 63⟩)] ⟨130, 16, 130, 64⟩) ⟨130, 8, 130, 64⟩)] ⟨129, 4, 130, 64⟩),
    (.ret (.nam 52 ⟨131, 11, 131, 16⟩) ⟨131, 4, 131, 16⟩)]
noncomputable def f_exact : Fn where
  ps := [(76, ⟨132, 10, 132, 11⟩), (77, ⟨132, 13, 132, 14⟩), (51, ⟨132, 16, 132, 17⟩), (72, ⟨132, 19, 132, 25⟩)]
  sc := [(76, .l), (77, .l), (51, .l), (72, .l), (52, .l), (62, .l), (20, .g)]
  body := [
    (.ast [(.nam 52 ⟨133, 4, 133, 9⟩), (.nam 62 ⟨133, 11, 133, 15⟩)] ⟨133, 4, 133, 15⟩ (.call (.nam 20 ⟨133, 18, 133, 22⟩) [(.nam 76 ⟨133, 23, 133, 24⟩), (.nam 77 ⟨133, 26, 133, 27⟩), (.nam 51 ⟨133, 29, 133, 30⟩), (.nam 72 ⟨133, 32, 133, 38⟩)] ⟨133, 18, 133, 39⟩) ⟨133, 4, 133, 39⟩),
    (.ret (.nam 52 ⟨134, 11, 134, 16⟩) ⟨134, 4, 134, 16⟩)]
noncomputable def f_pivot_row : Fn where
  ps := [(82, ⟨135, 14, 135, 18⟩), (83, ⟨135, 20, 135, 23⟩), (84, ⟨135, 25, 135, 31⟩)]
  sc := [(82, .l), (83, .l), (84, .l), (50, .l), (41, .g), (40, .g), (16, .g)]
  body := [
    (.forr (.nam 50 ⟨136, 8, 136, 10⟩) (.bcl 1 ⟨136, 14, 136, 19⟩ [(.nam 83 ⟨136, 20, 136, 23⟩), (.bcl 0 ⟨136, 25, 136, 28⟩ [(.nam 82 ⟨136, 29, 136, 33⟩)] ⟨136, 25, 136, 34⟩)] ⟨136, 14, 136, 35⟩) [(.iff (.cmp .NotEq (.call (.nam 16 ⟨137, 11, 137, 17⟩) [(.idx (.idx (.nam 82 ⟨137, 18, 137, 22⟩) (.nam 50 ⟨137, 23, 137, 25⟩) ⟨137, 18, 137, 26⟩) (.nam 84 ⟨137, 27, 137, 33⟩) ⟨137, 18, 137, 34⟩)] ⟨137, 11, 137, 35⟩) (.num 0 ⟨137, 39, 137, 40⟩) ⟨137, 11, 137, 40⟩) [(.ret (.nam 50 ⟨138, 19, 138, 21⟩) ⟨138, 12, 138, 21⟩)] [] ⟨137, 8, 138, 21⟩)] ⟨136, 4, 138, 21⟩),
    (.ret (.neg (.num 1 ⟨139, 12, 139, 13⟩) ⟨139, 11, 139, 13⟩) ⟨139, 4, 139, 13⟩)]
noncomputable def f_cleared : Fn where
  ps := [(85, ⟨140, 12, 140, 15⟩), (86, ⟨140, 17, 140, 21⟩), (84, ⟨140, 23, 140, 29⟩), (87, ⟨140, 31, 140, 37⟩), (51, ⟨140, 39, 140, 40⟩), (78, ⟨140, 42, 140, 45⟩), (72, ⟨140, 47, 140, 53⟩)]
  sc := [(85, .l), (86, .l), (84, .l), (87, .l), (51, .l), (78, .l), (72, .l), (88, .l), (89, .l), (52, .l), (50, .l), (81, .l), (90, .l), (42, .g), (18, .g), (19, .g), (22, .g)]
  body := [
    (.ast [(.nam 88 ⟨141, 4, 141, 9⟩), (.nam 89 ⟨141, 11, 141, 14⟩)] ⟨141, 4, 141, 14⟩ (.tup [(.idx (.nam 86 ⟨141, 18, 141, 22⟩) (.nam 84 ⟨141, 23, 141, 29⟩) ⟨141, 18, 141, 30⟩), (.idx (.nam 85 ⟨141, 32, 141, 35⟩) (.nam 84 ⟨141, 36, 141, 42⟩) ⟨141, 32, 141, 43⟩)] ⟨141, 17, 141, 44⟩) ⟨141, 4, 141, 44⟩),
    (.asg (.nam 52 ⟨142, 4, 142, 9⟩) (.lst [] ⟨142, 12, 142, 14⟩) ⟨142, 4, 142, 14⟩),
    (.forr (.tup [(.nam 50 ⟨143, 8, 143, 10⟩), (.nam 81 ⟨143, 12, 143, 17⟩)] ⟨143, 8, 143, 17⟩) (.bcl 2 ⟨143, 21, 143, 30⟩ [(.nam 85 ⟨143, 31, 143, 34⟩)] ⟨143, 21, 143, 35⟩) [(.asg (.nam 90 ⟨144, 8, 144, 12⟩) (.call (.nam 18 ⟨144, 15, 144, 20⟩) [(.call (.nam 19 ⟨144, 21, 144, 26⟩) [(.nam 81 ⟨144, 27, 144, 32⟩), (.nam 88 ⟨144, 34, 144, 39⟩), (.nam 51 ⟨144, 41, 144, 42⟩), (.nam 78 ⟨144, 44, 144, 47⟩)] ⟨144, 21, 144, 48⟩), (.call (.nam 19 ⟨144, 50, 144, 55⟩) [(.nam 89 ⟨144, 56, 144, 59⟩), (.idx (.nam 86 ⟨144, 61, 144, 65⟩) (.nam 50 ⟨144, 66, 144, 68⟩) ⟨144, 61, 144, 69⟩), (.nam 51 ⟨144, 71, 144, 72⟩), (.nam 78 ⟨144, 74, 144, 77⟩)] ⟨144, 50, 144, 78⟩), (.nam 51 ⟨144, 80, 144, 81⟩)] ⟨144, 15, 144, 82⟩) ⟨144, 8, 144, 82⟩), (.exp (.met (.nam 52 ⟨145, 8, 145, 13⟩) 0 ⟨145, 8, 145, 20⟩ [(.call (.nam 22 ⟨145, 21, 145, 26⟩) [(.nam 90 ⟨145, 27, 145, 31⟩), (.nam 87 ⟨145, 33, 145, 39⟩), (.nam 51 ⟨145, 41, 145, 42⟩), (.nam 72 ⟨145, 44, 145, 50⟩)] ⟨145, 21, 145, 51⟩)] ⟨145, 8, 145, 52⟩) ⟨145, 8, 145, 52⟩)] ⟨143, 4, 145, 52⟩),
    (.ret (.nam 52 ⟨146, 11, 146, 16⟩) ⟨146, 4, 146, 16⟩)]
noncomputable def f_steps_down : Fn where
  ps := [(47, ⟨147, 15, 147, 16⟩), (91, ⟨147, 18, 147, 25⟩), (51, ⟨147, 27, 147, 28⟩), (78, ⟨147, 30, 147, 33⟩), (72, ⟨147, 35, 147, 41⟩)]
  sc := [(47, .l), (91, .l), (51, .l), (78, .l), (72, .l), (82, .l), (92, .l), (93, .l), (87, .l), (84, .l), (83, .l), (94, .l), (50, .l), (39, .g), (41, .g), (40, .g), (23, .g), (24, .g)]
  body := [
    (.ast [(.nam 82 ⟨148, 4, 148, 8⟩), (.nam 92 ⟨148, 10, 148, 16⟩), (.nam 93 ⟨148, 18, 148, 24⟩), (.nam 87 ⟨148, 26, 148, 32⟩)] ⟨148, 4, 148, 32⟩ (.tup [(.com (.slc (.nam 85 ⟨148, 37, 148, 40⟩) none none ⟨148, 41, 148, 42⟩ ⟨148, 37, 148, 43⟩) [((.nam 85 ⟨148, 48, 148, 51⟩), (.nam 47 ⟨148, 55, 148, 56⟩), [])] [(70, .l), (85, .l)] ⟨148, 36, 148, 57⟩), (.lst [] ⟨148, 59, 148, 61⟩), (.tru false ⟨148, 63, 148, 68⟩), (.nam 39 ⟨148, 70, 148, 74⟩)] ⟨148, 35, 148, 75⟩) ⟨148, 4, 148, 75⟩),
    (.forr (.nam 84 ⟨149, 8, 149, 14⟩) (.bcl 1 ⟨149, 18, 149, 23⟩ [(.nam 91 ⟨149, 24, 149, 31⟩)] ⟨149, 18, 149, 32⟩) [(.asg (.nam 83 ⟨150, 8, 150, 11⟩) (.bcl 0 ⟨150, 14, 150, 17⟩ [(.nam 92 ⟨150, 18, 150, 24⟩)] ⟨150, 14, 150, 25⟩) ⟨150, 8, 150, 25⟩), (.asg (.nam 94 ⟨151, 8, 151, 12⟩) (.call (.nam 23 ⟨151, 15, 151, 24⟩) [(.nam 82 ⟨151, 25, 151, 29⟩), (.nam 83 ⟨151, 31, 151, 34⟩), (.nam 84 ⟨151, 36, 151, 42⟩)] ⟨151, 15, 151, 43⟩) ⟨151, 8, 151, 43⟩), (.iff (.cmp .GtE (.nam 94 ⟨152, 11, 152, 15⟩) (.num 0 ⟨152, 19, 152, 20⟩) ⟨152, 11, 152, 20⟩) [(.iff (.cmp .NotEq (.nam 94 ⟨153, 15, 153, 19⟩) (.nam 83 ⟨153, 23, 153, 26⟩) ⟨153, 15, 153, 26⟩) [(.ast [(.idx (.nam 82 ⟨154, 16, 154, 20⟩) (.nam 83 ⟨154, 21, 154, 24⟩) ⟨154, 16, 154, 25⟩), (.idx (.nam 82 ⟨154, 27, 154, 31⟩) (.nam 94 ⟨154, 32, 154, 36⟩) ⟨154, 27, 154, 37⟩)] ⟨154, 16, 154, 37⟩ (.tup [(.idx (.nam 82 ⟨154, 41, 154, 45⟩) (.nam 94 ⟨154, 46, 154, 50⟩) ⟨154, 41, 154, 51⟩), (.idx (.nam 82 ⟨154, 53, 154, 57⟩) (.nam 83 ⟨154, 58, 154, 61⟩) ⟨154, 53, 154, 62⟩)] ⟨154, 40, 154, 63⟩) ⟨154, 16, 154, 63⟩), (.asg (.nam 93 ⟨155, 16, 155, 22⟩) (.nott (.nam 93 ⟨155, 29, 155, 35⟩) ⟨155, 25, 155, 35⟩) ⟨155, 16, 155, 35⟩)] [] ⟨153, 12, 155, 35⟩), (.forr (.nam 50 ⟨156, 16, 156, 18⟩) (.bcl 1 ⟨156, 22, 156, 27⟩ [(.bin .Add (.nam 83 ⟨156, 28, 156, 31⟩) (.num 1 ⟨156, 34, 156, 35⟩) ⟨156, 28, 156, 35⟩), (.bcl 0 ⟨156, 37, 156, 40⟩ [(.nam 82 ⟨156, 41, 156, 45⟩)] ⟨156, 37, 156, 46⟩)] ⟨156, 22, 156, 47⟩) [(.asg (.idx (.nam 82 ⟨157, 16, 157, 20⟩) (.nam 50 ⟨157, 21, 157, 23⟩) ⟨157, 16, 157, 24⟩) (.call (.nam 24 ⟨157, 27, 157, 34⟩) [(.idx (.nam 82 ⟨157, 35, 157, 39⟩) (.nam 50 ⟨157, 40, 157, 42⟩) ⟨157, 35, 157, 43⟩), (.idx (.nam 82 ⟨157, 45, 157, 49⟩) (.nam 83 ⟨157, 50, 157, 53⟩) ⟨157, 45, 157, 54⟩), (.nam 84 ⟨157, 56, 157, 62⟩), (.nam 87 ⟨157, 64, 157, 70⟩), (.nam 51 ⟨157, 72, 157, 73⟩), (.nam 78 ⟨157, 75, 157, 78⟩), (.nam 72 ⟨157, 80, 157, 86⟩)] ⟨157, 27, 157, 87⟩) ⟨157, 16, 157, 87⟩)] ⟨156, 12, 157, 87⟩), (.asg (.nam 87 ⟨158, 12, 158, 18⟩) (.idx (.idx (.nam 82 ⟨158, 21, 158, 25⟩) (.nam 83 ⟨158, 26, 158, 29⟩) ⟨158, 21, 158, 30⟩) (.nam 84 ⟨158, 31, 158, 37⟩) ⟨158, 21, 158, 38⟩) ⟨158, 12, 158, 38⟩), (.exp (.met (.nam 92 ⟨159, 12, 159, 18⟩) 0 ⟨159, 12, 159, 25⟩ [(.nam 84 ⟨159, 26, 159, 32⟩)] ⟨159, 12, 159, 33⟩) ⟨159, 12, 159, 33⟩)] [] ⟨152, 8, 159, 33⟩)] ⟨149, 4, 159, 33⟩),
    (.ret (.tup [(.nam 82 ⟨160, 12, 160, 16⟩), (.nam 92 ⟨160, 18, 160, 24⟩), (.nam 93 ⟨160, 26, 160, 32⟩)] ⟨160, 11, 160, 33⟩) ⟨160, 4, 160, 33⟩)]
noncomputable def f_det_bareiss : Fn where
  ps := [(47, ⟨161, 16, 161, 17⟩), (51, ⟨161, 19, 161, 20⟩), (78, ⟨161, 22, 161, 25⟩), (72, ⟨161, 27, 161, 33⟩)]
  sc := [(47, .l), (51, .l), (78, .l), (72, .l), (82, .l), (92, .l), (93, .l), (95, .l), (40, .g), (39, .g), (25, .g), (38, .g), (15, .g)]
  body := [
    (.iff (.cmp .Eq (.bcl 0 ⟨162, 7, 162, 10⟩ [(.nam 47 ⟨162, 11, 162, 12⟩)] ⟨162, 7, 162, 13⟩) (.num 0 ⟨162, 17, 162, 18⟩) ⟨162, 7, 162, 18⟩) [(.ret (.nam 39 ⟨163, 15, 163, 19⟩) ⟨163, 8, 163, 19⟩)] [] ⟨162, 4, 163, 19⟩),
    (.ast [(.nam 82 ⟨164, 4, 164, 8⟩), (.nam 92 ⟨164, 10, 164, 16⟩), (.nam 93 ⟨164, 18, 164, 24⟩)] ⟨164, 4, 164, 24⟩ (.call (.nam 25 ⟨164, 27, 164, 37⟩) [(.nam 47 ⟨164, 38, 164, 39⟩), (.bcl 0 ⟨164, 41, 164, 44⟩ [(.nam 47 ⟨164, 45, 164, 46⟩)] ⟨164, 41, 164, 47⟩), (.nam 51 ⟨164, 49, 164, 50⟩), (.nam 78 ⟨164, 52, 164, 55⟩), (.nam 72 ⟨164, 57, 164, 63⟩)] ⟨164, 27, 164, 64⟩) ⟨164, 4, 164, 64⟩),
    (.iff (.cmp .Lt (.bcl 0 ⟨165, 7, 165, 10⟩ [(.nam 92 ⟨165, 11, 165, 17⟩)] ⟨165, 7, 165, 18⟩) (.bcl 0 ⟨165, 21, 165, 24⟩ [(.nam 47 ⟨165, 25, 165, 26⟩)] ⟨165, 21, 165, 27⟩) ⟨165, 7, 165, 27⟩) [(.ret (.nam 38 ⟨166, 15, 166, 21⟩) ⟨166, 8, 166, 21⟩)] [] ⟨165, 4, 166, 21⟩),
    (.asg (.nam 95 ⟨167, 4, 167, 8⟩) (.idx (.idx (.nam 82 ⟨167, 11, 167, 15⟩) (.neg (.num 1 ⟨167, 17, 167, 18⟩) ⟨167, 16, 167, 18⟩) ⟨167, 11, 167, 19⟩) (.bin .Sub (.bcl 0 ⟨167, 20, 167, 23⟩ [(.nam 47 ⟨167, 24, 167, 25⟩)] ⟨167, 20, 167, 26⟩) (.num 1 ⟨167, 29, 167, 30⟩) ⟨167, 20, 167, 30⟩) ⟨167, 11, 167, 31⟩) ⟨167, 4, 167, 31⟩),
    (.ret (.ife (.nam 93 ⟨168, 26, 168, 32⟩) (.call (.nam 15 ⟨168, 11, 168, 16⟩) [(.nam 95 ⟨168, 17, 168, 21⟩)] ⟨168, 11, 168, 22⟩) (.nam 95 ⟨168, 38, 168, 42⟩) ⟨168, 11, 168, 42⟩) ⟨168, 4, 168, 42⟩)]
noncomputable def f_mul_school : Fn where
  ps := [(47, ⟨170, 15, 170, 16⟩), (49, ⟨170, 18, 170, 19⟩), (51, ⟨170, 21, 170, 22⟩)]
  sc := [(47, .l), (49, .l), (51, .l), (52, .l), (54, .l), (50, .l), (59, .l), (53, .l), (94, .l), (80, .l), (40, .g), (42, .g), (0, .g)]
  body := [
    (.ast [(.nam 52 ⟨171, 4, 171, 9⟩), (.nam 54 ⟨171, 11, 171, 15⟩)] ⟨171, 4, 171, 15⟩ (.tup [(.bin .Mult (.lst [(.num 0 ⟨171, 20, 171, 21⟩)] ⟨171, 19, 171, 22⟩) (.bin .Add (.bcl 0 ⟨171, 26, 171, 29⟩ [(.nam 47 ⟨171, 30, 171, 31⟩)] ⟨171, 26, 171, 32⟩) (.bcl 0 ⟨171, 35, 171, 38⟩ [(.nam 49 ⟨171, 39, 171, 40⟩)] ⟨171, 35, 171, 41⟩) ⟨171, 26, 171, 41⟩) ⟨171, 19, 171, 42⟩), (.bin .Sub (.bin .LShift (.num 1 ⟨171, 45, 171, 46⟩) (.nam 51 ⟨171, 50, 171, 51⟩) ⟨171, 45, 171, 51⟩) (.num 1 ⟨171, 55, 171, 56⟩) ⟨171, 44, 171, 56⟩)] ⟨171, 18, 171, 57⟩) ⟨171, 4, 171, 57⟩),
    (.forr (.tup [(.nam 50 ⟨172, 8, 172, 10⟩), (.nam 59 ⟨172, 12, 172, 16⟩)] ⟨172, 8, 172, 16⟩) (.bcl 2 ⟨172, 20, 172, 29⟩ [(.nam 47 ⟨172, 30, 172, 31⟩)] ⟨172, 20, 172, 32⟩) [(.asg (.nam 53 ⟨173, 8, 173, 13⟩) (.num 0 ⟨173, 16, 173, 17⟩) ⟨173, 8, 173, 17⟩), (.forr (.tup [(.nam 94 ⟨174, 12, 174, 16⟩), (.nam 80 ⟨174, 18, 174, 23⟩)] ⟨174, 12, 174, 23⟩) (.bcl 2 ⟨174, 27, 174, 36⟩ [(.nam 49 ⟨174, 37, 174, 38⟩)] ⟨174, 27, 174, 39⟩) [(.aug 53 ⟨175, 12, 175, 17⟩ .Add (.bin .Add (.idx (.nam 52 ⟨175, 21, 175, 26⟩) (.bin .Add (.nam 50 ⟨175, 27, 175, 29⟩) (.nam 94 ⟨175, 32, 175, 36⟩) ⟨175, 27, 175, 36⟩) ⟨175, 21, 175, 37⟩) (.bin .Mult (.nam 59 ⟨175, 40, 175, 44⟩) (.nam 80 ⟨175, 47, 175, 52⟩) ⟨175, 40, 175, 52⟩) ⟨175, 21, 175, 52⟩) ⟨175, 12, 175, 52⟩), (.asg (.idx (.nam 52 ⟨176, 12, 176, 17⟩) (.bin .Add (.nam 50 ⟨176, 18, 176, 20⟩) (.nam 94 ⟨176, 23, 176, 27⟩) ⟨176, 18, 176, 27⟩) ⟨176, 12, 176, 28⟩) (.bin .BitAnd (.nam 53 ⟨176, 31, 176, 36⟩) (.nam 54 ⟨176, 39, 176, 43⟩) ⟨176, 31, 176, 43⟩) ⟨176, 12, 176, 43⟩), (.aug 53 ⟨177, 12, 177, 17⟩ .RShift (.nam 51 ⟨177, 22, 177, 23⟩) ⟨177, 12, 177, 23⟩)] ⟨174, 8, 177, 23⟩), (.asg (.idx (.nam 52 ⟨178, 8, 178, 13⟩) (.bin .Add (.nam 50 ⟨178, 14, 178, 16⟩) (.bcl 0 ⟨178, 19, 178, 22⟩ [(.nam 49 ⟨178, 23, 178, 24⟩)] ⟨178, 19, 178, 25⟩) ⟨178, 14, 178, 25⟩) ⟨178, 8, 178, 26⟩) (.nam 53 ⟨178, 29, 178, 34⟩) ⟨178, 8, 178, 34⟩)] ⟨172, 4, 178, 34⟩),
    (.ret (.call (.nam 0 ⟨179, 11, 179, 17⟩) [(.nam 52 ⟨179, 18, 179, 23⟩)] ⟨179, 11, 179, 24⟩) ⟨179, 4, 179, 24⟩)]
noncomputable def f_divrem_small : Fn where
  ps := [(47, ⟨180, 17, 180, 18⟩), (49, ⟨180, 20, 180, 21⟩), (51, ⟨180, 23, 180, 24⟩)]
  sc := [(47, .l), (49, .l), (51, .l), (79, .l), (62, .l), (5, .g)]
  body := [
    (.ast [(.nam 79 ⟨181, 4, 181, 12⟩), (.nam 62 ⟨181, 14, 181, 18⟩)] ⟨181, 4, 181, 18⟩ (.call (.nam 5 ⟨181, 21, 181, 32⟩) [(.nam 47 ⟨181, 33, 181, 34⟩), (.idx (.nam 49 ⟨181, 36, 181, 37⟩) (.num 0 ⟨181, 38, 181, 39⟩) ⟨181, 36, 181, 40⟩), (.nam 51 ⟨181, 42, 181, 43⟩)] ⟨181, 21, 181, 44⟩) ⟨181, 4, 181, 44⟩),
    (.ret (.tup [(.nam 79 ⟨182, 12, 182, 20⟩), (.ife (.cmp .Gt (.nam 62 ⟨182, 32, 182, 36⟩) (.num 0 ⟨182, 39, 182, 40⟩) ⟨182, 32, 182, 40⟩) (.lst [(.nam 62 ⟨182, 23, 182, 27⟩)] ⟨182, 22, 182, 28⟩) (.lst [] ⟨182, 46, 182, 48⟩) ⟨182, 22, 182, 48⟩)] ⟨182, 11, 182, 49⟩) ⟨182, 4, 182, 49⟩)]
noncomputable def f_guessed_limb : Fn where
  ps := [(83, ⟨183, 17, 183, 20⟩), (96, ⟨183, 22, 183, 27⟩), (97, ⟨183, 29, 183, 35⟩), (51, ⟨183, 37, 183, 38⟩)]
  sc := [(83, .l), (96, .l), (97, .l), (51, .l), (98, .l), (58, .l), (59, .l), (62, .l), (44, .g)]
  body := [
    (.ast [(.nam 98 ⟨184, 4, 184, 8⟩), (.nam 58 ⟨184, 10, 184, 14⟩)] ⟨184, 4, 184, 14⟩ (.tup [(.bin .BitOr (.bin .LShift (.idx (.nam 83 ⟨184, 18, 184, 21⟩) (.num 2 ⟨184, 22, 184, 23⟩) ⟨184, 18, 184, 24⟩) (.nam 51 ⟨184, 28, 184, 29⟩) ⟨184, 18, 184, 29⟩) (.idx (.nam 83 ⟨184, 32, 184, 35⟩) (.num 1 ⟨184, 36, 184, 37⟩) ⟨184, 32, 184, 38⟩) ⟨184, 18, 184, 38⟩), (.bin .LShift (.num 1 ⟨184, 40, 184, 41⟩) (.nam 51 ⟨184, 45, 184, 46⟩) ⟨184, 40, 184, 46⟩)] ⟨184, 17, 184, 47⟩) ⟨184, 4, 184, 47⟩),
    (.asg (.nam 59 ⟨185, 4, 185, 8⟩) (.bcl 4 ⟨185, 11, 185, 14⟩ [(.bin .FloorDiv (.nam 98 ⟨185, 15, 185, 19⟩) (.nam 96 ⟨185, 23, 185, 28⟩) ⟨185, 15, 185, 28⟩), (.bin .Sub (.nam 58 ⟨185, 30, 185, 34⟩) (.num 1 ⟨185, 37, 185, 38⟩) ⟨185, 30, 185, 38⟩)] ⟨185, 11, 185, 39⟩) ⟨185, 4, 185, 39⟩),
    (.asg (.nam 62 ⟨186, 4, 186, 8⟩) (.bin .Sub (.nam 98 ⟨186, 11, 186, 15⟩) (.bin .Mult (.nam 59 ⟨186, 18, 186, 22⟩) (.nam 96 ⟨186, 25, 186, 30⟩) ⟨186, 18, 186, 30⟩) ⟨186, 11, 186, 30⟩) ⟨186, 4, 186, 30⟩),
    (.whl (.boo .And (.cmp .Lt (.nam 62 ⟨187, 10, 187, 14⟩) (.nam 58 ⟨187, 17, 187, 21⟩) ⟨187, 10, 187, 21⟩) (.cmp .Gt (.bin .Mult (.nam 59 ⟨187, 26, 187, 30⟩) (.nam 97 ⟨187, 33, 187, 39⟩) ⟨187, 26, 187, 39⟩) (.bin .BitOr (.bin .LShift (.nam 62 ⟨187, 42, 187, 46⟩) (.nam 51 ⟨187, 50, 187, 51⟩) ⟨187, 42, 187, 51⟩) (.idx (.nam 83 ⟨187, 54, 187, 57⟩) (.num 0 ⟨187, 58, 187, 59⟩) ⟨187, 54, 187, 60⟩) ⟨187, 42, 187, 60⟩) ⟨187, 26, 187, 60⟩) ⟨187, 10, 187, 60⟩) [(.aug 59 ⟨188, 8, 188, 12⟩ .Sub (.num 1 ⟨188, 16, 188, 17⟩) ⟨188, 8, 188, 17⟩), (.aug 62 ⟨189, 8, 189, 12⟩ .Add (.nam 96 ⟨189, 16, 189, 21⟩) ⟨189, 8, 189, 21⟩)] ⟨187, 4, 189, 21⟩),
    (.ret (.nam 59 ⟨190, 11, 190, 15⟩) ⟨190, 4, 190, 15⟩)]
noncomputable def f_take_away : Fn where
  ps := [(62, ⟨191, 14, 191, 18⟩), (49, ⟨191, 20, 191, 21⟩), (59, ⟨191, 23, 191, 27⟩), (50, ⟨191, 29, 191, 31⟩), (51, ⟨191, 33, 191, 34⟩)]
  sc := [(62, .l), (49, .l), (59, .l), (50, .l), (51, .l), (53, .l), (58, .l), (94, .l), (80, .l), (90, .l), (42, .g), (40, .g)]
  body := [
    (.ast [(.nam 53 ⟨192, 4, 192, 9⟩), (.nam 58 ⟨192, 11, 192, 15⟩)] ⟨192, 4, 192, 15⟩ (.tup [(.num 0 ⟨192, 19, 192, 20⟩), (.bin .LShift (.num 1 ⟨192, 22, 192, 23⟩) (.nam 51 ⟨192, 27, 192, 28⟩) ⟨192, 22, 192, 28⟩)] ⟨192, 18, 192, 29⟩) ⟨192, 4, 192, 29⟩),
    (.forr (.tup [(.nam 94 ⟨193, 8, 193, 12⟩), (.nam 80 ⟨193, 14, 193, 19⟩)] ⟨193, 8, 193, 19⟩) (.bcl 2 ⟨193, 23, 193, 32⟩ [(.nam 49 ⟨193, 33, 193, 34⟩)] ⟨193, 23, 193, 35⟩) [(.asg (.nam 90 ⟨194, 8, 194, 12⟩) (.bin .Sub (.idx (.nam 62 ⟨194, 15, 194, 19⟩) (.bin .Add (.nam 50 ⟨194, 20, 194, 22⟩) (.nam 94 ⟨194, 25, 194, 29⟩) ⟨194, 20, 194, 29⟩) ⟨194, 15, 194, 30⟩) (.bin .Mod (.bin .Add (.bin .Mult (.nam 59 ⟨194, 34, 194, 38⟩) (.nam 80 ⟨194, 41, 194, 46⟩) ⟨194, 34, 194, 46⟩) (.nam 53 ⟨194, 49, 194, 54⟩) ⟨194, 34, 194, 54⟩) (.nam 58 ⟨194, 58, 194, 62⟩) ⟨194, 33, 194, 62⟩) ⟨194, 15, 194, 62⟩) ⟨194, 8, 194, 62⟩), (.asg (.nam 53 ⟨195, 8, 195, 13⟩) (.bin .Add (.bin .FloorDiv (.bin .Add (.bin .Mult (.nam 59 ⟨195, 17, 195, 21⟩) (.nam 80 ⟨195, 24, 195, 29⟩) ⟨195, 17, 195, 29⟩) (.nam 53 ⟨195, 32, 195, 37⟩) ⟨195, 17, 195, 37⟩) (.nam 58 ⟨195, 42, 195, 46⟩) ⟨195, 16, 195, 46⟩) (.ife (.cmp .Lt (.nam 90 ⟨195, 55, 195, 59⟩) (.num 0 ⟨195, 62, 195, 63⟩) ⟨195, 55, 195, 63⟩) (.num 1 ⟨195, 50, 195, 51⟩) (.num 0 ⟨195, 69, 195, 70⟩) ⟨195, 50, 195, 70⟩) ⟨195, 16, 195, 71⟩) ⟨195, 8, 195, 71⟩), (.asg (.idx (.nam 62 ⟨196, 8, 196, 12⟩) (.bin .Add (.nam 50 ⟨196, 13, 196, 15⟩) (.nam 94 ⟨196, 18, 196, 22⟩) ⟨196, 13, 196, 22⟩) ⟨196, 8, 196, 23⟩) (.ife (.cmp .Lt (.nam 90 ⟨196, 41, 196, 45⟩) (.num 0 ⟨196, 48, 196, 49⟩) ⟨196, 41, 196, 49⟩) (.bin .Add (.nam 90 ⟨196, 26, 196, 30⟩) (.nam 58 ⟨196, 33, 196, 37⟩) ⟨196, 26, 196, 37⟩) (.nam 90 ⟨196, 55, 196, 59⟩) ⟨196, 26, 196, 59⟩) ⟨196, 8, 196, 59⟩)] ⟨193, 4, 196, 59⟩),
    (.asg (.nam 90 ⟨197, 4, 197, 8⟩) (.bin .Sub (.idx (.nam 62 ⟨197, 11, 197, 15⟩) (.bin .Add (.nam 50 ⟨197, 16, 197, 18⟩) (.bcl 0 ⟨197, 21, 197, 24⟩ [(.nam 49 ⟨197, 25, 197, 26⟩)] ⟨197, 21, 197, 27⟩) ⟨197, 16, 197, 27⟩) ⟨197, 11, 197, 28⟩) (.nam 53 ⟨197, 31, 197, 36⟩) ⟨197, 11, 197, 36⟩) ⟨197, 4, 197, 36⟩),
    (.asg (.idx (.nam 62 ⟨198, 4, 198, 8⟩) (.bin .Add (.nam 50 ⟨198, 9, 198, 11⟩) (.bcl 0 ⟨198, 14, 198, 17⟩ [(.nam 49 ⟨198, 18, 198, 19⟩)] ⟨198, 14, 198, 20⟩) ⟨198, 9, 198, 20⟩) ⟨198, 4, 198, 21⟩) (.ife (.cmp .Lt (.nam 90 ⟨198, 39, 198, 43⟩) (.num 0 ⟨198, 46, 198, 47⟩) ⟨198, 39, 198, 47⟩) (.bin .Add (.nam 90 ⟨198, 24, 198, 28⟩) (.nam 58 ⟨198, 31, 198, 35⟩) ⟨198, 24, 198, 35⟩) (.nam 90 ⟨198, 53, 198, 57⟩) ⟨198, 24, 198, 57⟩) ⟨198, 4, 198, 57⟩),
    (.ret (.ife (.cmp .Lt (.nam 90 ⟨199, 16, 199, 20⟩) (.num 0 ⟨199, 23, 199, 24⟩) ⟨199, 16, 199, 24⟩) (.num 1 ⟨199, 11, 199, 12⟩) (.num 0 ⟨199, 30, 199, 31⟩) ⟨199, 11, 199, 31⟩) ⟨199, 4, 199, 31⟩)]
noncomputable def f_divide_rows : Fn where
  ps := [(62, ⟨207, 16, 207, 20⟩), (49, ⟨207, 22, 207, 23⟩), (51, ⟨207, 25, 207, 26⟩)]
  sc := [(62, .l), (49, .l), (51, .l), (99, .l), (79, .l), (50, .l), (59, .l), (40, .g), (41, .g), (29, .g), (30, .g), (31, .g)]
  body := [
    (.asg (.nam 99 ⟨208, 4, 208, 8⟩) (.bcl 0 ⟨208, 11, 208, 14⟩ [(.nam 49 ⟨208, 15, 208, 16⟩)] ⟨208, 11, 208, 17⟩) ⟨208, 4, 208, 17⟩),
    (.asg (.nam 79 ⟨209, 4, 209, 12⟩) (.bin .Mult (.lst [(.num 0 ⟨209, 16, 209, 17⟩)] ⟨209, 15, 209, 18⟩) (.bin .Sub (.bcl 0 ⟨209, 22, 209, 25⟩ [(.nam 62 ⟨209, 26, 209, 30⟩)] ⟨209, 22, 209, 31⟩) (.nam 99 ⟨209, 34, 209, 38⟩) ⟨209, 22, 209, 38⟩) ⟨209, 15, 209, 39⟩) ⟨209, 4, 209, 39⟩),
    (.forr (.nam 50 ⟨210, 8, 210, 10⟩) (.bcl 1 ⟨210, 14, 210, 19⟩ [(.bin .Sub (.bin .Sub (.bcl 0 ⟨210, 20, 210, 23⟩ [(.nam 62 ⟨210, 24, 210, 28⟩)] ⟨210, 20, 210, 29⟩) (.nam 99 ⟨210, 32, 210, 36⟩) ⟨210, 20, 210, 36⟩) (.num 1 ⟨210, 39, 210, 40⟩) ⟨210, 20, 210, 40⟩), (.neg (.num 1 ⟨210, 43, 210, 44⟩) ⟨210, 42, 210, 44⟩), (.neg (.num 1 ⟨210, 47, 210, 48⟩) ⟨210, 46, 210, 48⟩)] ⟨210, 14, 210, 49⟩) [(.asg (.nam 59 ⟨211, 8, 211, 12⟩) (.call (.nam 29 ⟨211, 15, 211, 27⟩) [(.slc (.nam 62 ⟨211, 28, 211, 32⟩) (some (.bin .Sub (.bin .Add (.nam 50 ⟨211, 33, 211, 35⟩) (.nam 99 ⟨211, 38, 211, 42⟩) ⟨211, 33, 211, 42⟩) (.num 2 ⟨211, 45, 211, 46⟩) ⟨211, 33, 211, 46⟩)) (some (.bin .Add (.bin .Add (.nam 50 ⟨211, 47, 211, 49⟩) (.nam 99 ⟨211, 52, 211, 56⟩) ⟨211, 47, 211, 56⟩) (.num 1 ⟨211, 59, 211, 60⟩) ⟨211, 47, 211, 60⟩)) ⟨211, 33, 211, 60⟩ ⟨211, 28, 211, 61⟩), (.idx (.nam 49 ⟨211, 63, 211, 64⟩) (.bin .Sub (.nam 99 ⟨211, 65, 211, 69⟩) (.num 1 ⟨211, 72, 211, 73⟩) ⟨211, 65, 211, 73⟩) ⟨211, 63, 211, 74⟩), (.idx (.nam 49 ⟨211, 76, 211, 77⟩) (.bin .Sub (.nam 99 ⟨211, 78, 211, 82⟩) (.num 2 ⟨211, 85, 211, 86⟩) ⟨211, 78, 211, 86⟩) ⟨211, 76, 211, 87⟩), (.nam 51 ⟨211, 89, 211, 90⟩)] ⟨211, 15, 211, 91⟩) ⟨211, 8, 211, 91⟩), (.iff (.cmp .Eq (.call (.nam 30 ⟨212, 11, 212, 20⟩) [(.nam 62 ⟨212, 21, 212, 25⟩), (.nam 49 ⟨212, 27, 212, 28⟩), (.nam 59 ⟨212, 30, 212, 34⟩), (.nam 50 ⟨212, 36, 212, 38⟩), (.nam 51 ⟨212, 40, 212, 41⟩)] ⟨212, 11, 212, 42⟩) (.num 1 ⟨212, 46, 212, 47⟩) ⟨212, 11, 212, 47⟩) [(.aug 59 ⟨213, 12, 213, 16⟩ .Sub (.num 1 ⟨213, 20, 213, 21⟩) ⟨213, 12, 213, 21⟩), (.exp (.call (.nam 31 ⟨214, 12, 214, 20⟩) [(.nam 62 ⟨214, 21, 214, 25⟩), (.nam 49 ⟨214, 27, 214, 28⟩), (.nam 50 ⟨214, 30, 214, 32⟩), (.nam 51 ⟨214, 34, 214, 35⟩)] ⟨214, 12, 214, 36⟩) ⟨214, 12, 214, 36⟩)] [] ⟨212, 8, 214, 36⟩), (.asg (.idx (.nam 79 ⟨215, 8, 215, 16⟩) (.nam 50 ⟨215, 17, 215, 19⟩) ⟨215, 8, 215, 20⟩) (.nam 59 ⟨215, 23, 215, 27⟩) ⟨215, 8, 215, 27⟩)] ⟨210, 4, 215, 27⟩),
    (.ret (.nam 79 ⟨216, 11, 216, 19⟩) ⟨216, 4, 216, 19⟩)]
noncomputable def f_divrem_school : Fn where
  ps := [(47, ⟨217, 18, 217, 19⟩), (49, ⟨217, 21, 217, 22⟩), (51, ⟨217, 24, 217, 25⟩)]
  sc := [(47, .l), (49, .l), (51, .l), (100, .l), (101, .l), (62, .l), (79, .l), (40, .g), (60, .g), (2, .g), (28, .g), (8, .g), (6, .g), (32, .g), (0, .g), (7, .g)]
  body := [
    (.iff (.cmp .Eq (.bcl 0 ⟨218, 7, 218, 10⟩ [(.nam 49 ⟨218, 11, 218, 12⟩)] ⟨218, 7, 218, 13⟩) (.num 0 ⟨218, 17, 218, 18⟩) ⟨218, 7, 218, 18⟩) [(.rai 60 ⟨219, 14, 219, 28⟩ 61 ⟨219, 29, 219, 49⟩ ⟨219, 14, 219, 50⟩ ⟨219, 8, 219, 50⟩)] [] ⟨218, 4, 219, 50⟩),
    (.iff (.cmp .Lt (.call (.nam 2 ⟨220, 7, 220, 14⟩) [(.nam 47 ⟨220, 15, 220, 16⟩), (.nam 49 ⟨220, 18, 220, 19⟩)] ⟨220, 7, 220, 20⟩) (.num 0 ⟨220, 23, 220, 24⟩) ⟨220, 7, 220, 24⟩) [(.ret (.tup [(.lst [] ⟨221, 16, 221, 18⟩), (.slc (.nam 47 ⟨221, 20, 221, 21⟩) none none ⟨221, 22, 221, 23⟩ ⟨221, 20, 221, 24⟩)] ⟨221, 15, 221, 25⟩) ⟨221, 8, 221, 25⟩)] [] ⟨220, 4, 221, 25⟩),
    (.iff (.cmp .Eq (.bcl 0 ⟨222, 7, 222, 10⟩ [(.nam 49 ⟨222, 11, 222, 12⟩)] ⟨222, 7, 222, 13⟩) (.num 1 ⟨222, 17, 222, 18⟩) ⟨222, 7, 222, 18⟩) [(.ret (.call (.nam 28 ⟨223, 15, 223, 27⟩) [(.nam 47 ⟨223, 28, 223, 29⟩), (.nam 49 ⟨223, 31, 223, 32⟩), (.nam 51 ⟨223, 34, 223, 35⟩)] ⟨223, 15, 223, 36⟩) ⟨223, 8, 223, 36⟩)] [] ⟨222, 4, 223, 36⟩),
    (.asg (.nam 100 ⟨224, 4, 224, 9⟩) (.bin .Sub (.nam 51 ⟨224, 12, 224, 13⟩) (.call (.nam 8 ⟨224, 16, 224, 20⟩) [(.lst [(.idx (.nam 49 ⟨224, 22, 224, 23⟩) (.neg (.num 1 ⟨224, 25, 224, 26⟩) ⟨224, 24, 224, 26⟩) ⟨224, 22, 224, 27⟩)] ⟨224, 21, 224, 28⟩), (.nam 51 ⟨224, 30, 224, 31⟩)] ⟨224, 16, 224, 32⟩) ⟨224, 12, 224, 32⟩) ⟨224, 4, 224, 32⟩),
    (.asg (.nam 101 ⟨225, 4, 225, 11⟩) (.call (.nam 6 ⟨225, 14, 225, 24⟩) [(.nam 49 ⟨225, 25, 225, 26⟩), (.nam 100 ⟨225, 28, 225, 33⟩), (.nam 51 ⟨225, 35, 225, 36⟩)] ⟨225, 14, 225, 37⟩) ⟨225, 4, 225, 37⟩),
    (.asg (.nam 62 ⟨226, 4, 226, 8⟩) (.call (.nam 6 ⟨226, 11, 226, 21⟩) [(.nam 47 ⟨226, 22, 226, 23⟩), (.nam 100 ⟨226, 25, 226, 30⟩), (.nam 51 ⟨226, 32, 226, 33⟩)] ⟨226, 11, 226, 34⟩) ⟨226, 4, 226, 34⟩),
    (.asg (.nam 62 ⟨227, 4, 227, 8⟩) (.bin .Add (.nam 62 ⟨227, 11, 227, 15⟩) (.bin .Mult (.lst [(.num 0 ⟨227, 19, 227, 20⟩)] ⟨227, 18, 227, 21⟩) (.bin .Sub (.bin .Add (.bcl 0 ⟨227, 25, 227, 28⟩ [(.nam 47 ⟨227, 29, 227, 30⟩)] ⟨227, 25, 227, 31⟩) (.num 1 ⟨227, 34, 227, 35⟩) ⟨227, 25, 227, 35⟩) (.bcl 0 ⟨227, 38, 227, 41⟩ [(.nam 62 ⟨227, 42, 227, 46⟩)] ⟨227, 38, 227, 47⟩) ⟨227, 25, 227, 47⟩) ⟨227, 18, 227, 48⟩) ⟨227, 11, 227, 48⟩) ⟨227, 4, 227, 48⟩),
    (.asg (.nam 79 ⟨228, 4, 228, 12⟩) (.call (.nam 32 ⟨228, 15, 228, 26⟩) [(.nam 62 ⟨228, 27, 228, 31⟩), (.nam 101 ⟨228, 33, 228, 40⟩), (.nam 51 ⟨228, 42, 228, 43⟩)] ⟨228, 15, 228, 44⟩) ⟨228, 4, 228, 44⟩),
    (.ret (.tup [(.call (.nam 0 ⟨229, 12, 229, 18⟩) [(.nam 79 ⟨229, 19, 229, 27⟩)] ⟨229, 12, 229, 28⟩), (.call (.nam 7 ⟨229, 30, 229, 41⟩) [(.call (.nam 0 ⟨229, 42, 229, 48⟩) [(.nam 62 ⟨229, 49, 229, 53⟩)] ⟨229, 42, 229, 54⟩), (.nam 100 ⟨229, 56, 229, 61⟩), (.nam 51 ⟨229, 63, 229, 64⟩)] ⟨229, 30, 229, 65⟩)] ⟨229, 11, 229, 66⟩) ⟨229, 4, 229, 66⟩)]
noncomputable def f_law_woven : Fn where
  ps := [(102, ⟨231, 15, 231, 21⟩), (69, ⟨231, 23, 231, 27⟩)]
  sc := [(102, .l), (69, .l), (40, .g)]
  body := [
    (.asg (.idx (.nam 102 ⟨232, 4, 232, 10⟩) (.num 0 ⟨232, 11, 232, 12⟩) ⟨232, 4, 232, 13⟩) (.bin .Add (.idx (.nam 102 ⟨232, 16, 232, 22⟩) (.num 0 ⟨232, 23, 232, 24⟩) ⟨232, 16, 232, 25⟩) (.num 1 ⟨232, 28, 232, 29⟩) ⟨232, 16, 232, 29⟩) ⟨232, 4, 232, 29⟩),
    (.iff (.cmp .LtE (.idx (.nam 102 ⟨233, 7, 233, 13⟩) (.num 0 ⟨233, 14, 233, 15⟩) ⟨233, 7, 233, 16⟩) (.bcl 0 ⟨233, 20, 233, 23⟩ [(.idx (.nam 102 ⟨233, 24, 233, 30⟩) (.num 1 ⟨233, 31, 233, 32⟩) ⟨233, 24, 233, 33⟩)] ⟨233, 20, 233, 34⟩) ⟨233, 7, 233, 34⟩) [(.ret (.bin .Mod (.idx (.idx (.nam 102 ⟨234, 15, 234, 21⟩) (.num 1 ⟨234, 22, 234, 23⟩) ⟨234, 15, 234, 24⟩) (.bin .Sub (.idx (.nam 102 ⟨234, 25, 234, 31⟩) (.num 0 ⟨234, 32, 234, 33⟩) ⟨234, 25, 234, 34⟩) (.num 1 ⟨234, 37, 234, 38⟩) ⟨234, 25, 234, 38⟩) ⟨234, 15, 234, 39⟩) (.nam 69 ⟨234, 42, 234, 46⟩) ⟨234, 15, 234, 46⟩) ⟨234, 8, 234, 46⟩)] [] ⟨233, 4, 234, 46⟩),
    (.ret (.bin .Mod (.bin .Add (.bin .Add (.bin .Mult (.num 5 ⟨235, 12, 235, 13⟩) (.idx (.nam 102 ⟨235, 16, 235, 22⟩) (.num 0 ⟨235, 23, 235, 24⟩) ⟨235, 16, 235, 25⟩) ⟨235, 12, 235, 25⟩) (.bin .FloorDiv (.idx (.nam 102 ⟨235, 28, 235, 34⟩) (.num 0 ⟨235, 35, 235, 36⟩) ⟨235, 28, 235, 37⟩) (.num 2 ⟨235, 41, 235, 42⟩) ⟨235, 28, 235, 42⟩) ⟨235, 12, 235, 42⟩) (.num 4 ⟨235, 45, 235, 46⟩) ⟨235, 12, 235, 46⟩) (.nam 69 ⟨235, 50, 235, 54⟩) ⟨235, 11, 235, 54⟩) ⟨235, 4, 235, 54⟩)]
noncomputable def f_law_limbs : Fn where
  ps := [(103, ⟨236, 15, 236, 21⟩), (51, ⟨236, 23, 236, 24⟩)]
  sc := [(103, .l), (51, .l), (52, .l)]
  body := [
    (.asg (.nam 52 ⟨237, 4, 237, 9⟩) (.lst [] ⟨237, 12, 237, 14⟩) ⟨237, 4, 237, 14⟩),
    (.whl (.cmp .Gt (.nam 103 ⟨238, 10, 238, 16⟩) (.num 0 ⟨238, 19, 238, 20⟩) ⟨238, 10, 238, 20⟩) [(.exp (.met (.nam 52 ⟨239, 8, 239, 13⟩) 0 ⟨239, 8, 239, 20⟩ [(.bin .Mod (.nam 103 ⟨239, 21, 239, 27⟩) (.bin .Pow (.num 2 ⟨239, 30, 239, 31⟩) (.nam 51 ⟨239, 35, 239, 36⟩) ⟨239, 30, 239, 36⟩) ⟨239, 21, 239, 36⟩)] ⟨239, 8, 239, 37⟩) ⟨239, 8, 239, 37⟩), (.asg (.nam 103 ⟨240, 8, 240, 14⟩) (.bin .FloorDiv (.nam 103 ⟨240, 17, 240, 23⟩) (.bin .Pow (.num 2 ⟨240, 27, 240, 28⟩) (.nam 51 ⟨240, 32, 240, 33⟩) ⟨240, 27, 240, 33⟩) ⟨240, 17, 240, 33⟩) ⟨240, 8, 240, 33⟩)] ⟨238, 4, 240, 33⟩),
    (.ret (.nam 52 ⟨241, 11, 241, 16⟩) ⟨241, 4, 241, 16⟩)]
noncomputable def f_law_rows : Fn where
  ps := [(104, ⟨242, 14, 242, 15⟩), (51, ⟨242, 17, 242, 18⟩)]
  sc := [(104, .c), (51, .c), (105, .c), (82, .l), (50, .c), (41, .g)]
  body := [
    (.asg (.nam 105 ⟨243, 4, 243, 8⟩) (.com (.call (.nam 13 ⟨243, 12, 243, 18⟩) [(.call (.nam 35 ⟨243, 19, 243, 29⟩) [(.nam 66 ⟨243, 30, 243, 33⟩), (.nam 51 ⟨243, 35, 243, 36⟩)] ⟨243, 19, 243, 37⟩), (.call (.nam 35 ⟨243, 39, 243, 49⟩) [(.nam 104 ⟨243, 50, 243, 51⟩), (.nam 51 ⟨243, 53, 243, 54⟩)] ⟨243, 39, 243, 55⟩), (.nam 51 ⟨243, 57, 243, 58⟩), (.nam 33 ⟨243, 60, 243, 73⟩)] ⟨243, 12, 243, 74⟩) [((.nam 66 ⟨243, 79, 243, 82⟩), (.bcl 1 ⟨243, 86, 243, 91⟩ [(.nam 104 ⟨243, 92, 243, 93⟩)] ⟨243, 86, 243, 94⟩), [])] [(70, .l), (66, .l), (13, .g), (35, .g), (33, .g), (104, .f), (51, .f)] ⟨243, 11, 243, 95⟩) ⟨243, 4, 243, 95⟩),
    (.asg (.nam 82 ⟨244, 4, 244, 8⟩) (.lst [(.bin .Mult (.lst [(.num 1 ⟨244, 13, 244, 14⟩)] ⟨244, 12, 244, 15⟩) (.bin .Add (.nam 104 ⟨244, 19, 244, 20⟩) (.num 1 ⟨244, 23, 244, 24⟩) ⟨244, 19, 244, 24⟩) ⟨244, 12, 244, 25⟩)] ⟨244, 11, 244, 26⟩) ⟨244, 4, 244, 26⟩),
    (.forr (.nam 50 ⟨245, 8, 245, 10⟩) (.bcl 1 ⟨245, 14, 245, 19⟩ [(.nam 104 ⟨245, 20, 245, 21⟩)] ⟨245, 14, 245, 22⟩) [(.exp (.met (.nam 82 ⟨246, 8, 246, 12⟩) 0 ⟨246, 8, 246, 19⟩ [(.bin .Add (.lst [(.bin .Sub (.num 0 ⟨246, 21, 246, 22⟩) (.num 1 ⟨246, 25, 246, 26⟩) ⟨246, 21, 246, 26⟩)] ⟨246, 20, 246, 27⟩) (.com (.bin .Add (.idx (.nam 105 ⟨246, 31, 246, 35⟩) (.bin .Mod (.bin .Sub (.nam 94 ⟨246, 37, 246, 41⟩) (.nam 50 ⟨246, 44, 246, 46⟩) ⟨246, 37, 246, 46⟩) (.nam 104 ⟨246, 50, 246, 51⟩) ⟨246, 36, 246, 51⟩) ⟨246, 31, 246, 52⟩) (.bcl 6 ⟨246, 55, 246, 58⟩ [(.cmp .Eq (.nam 94 ⟨246, 59, 246, 63⟩) (.nam 50 ⟨246, 67, 246, 69⟩) ⟨246, 59, 246, 69⟩)] ⟨246, 55, 246, 70⟩) ⟨246, 31, 246, 70⟩) [((.nam 94 ⟨246, 75, 246, 79⟩), (.bcl 1 ⟨246, 83, 246, 88⟩ [(.nam 104 ⟨246, 89, 246, 90⟩)] ⟨246, 83, 246, 91⟩), [])] [(70, .l), (94, .l), (46, .g), (50, .f), (104, .f), (105, .f)] ⟨246, 30, 246, 92⟩) ⟨246, 20, 246, 92⟩)] ⟨246, 8, 246, 93⟩) ⟨246, 8, 246, 93⟩)] ⟨245, 4, 246, 93⟩),
    (.ret (.tup [(.nam 82 ⟨247, 12, 247, 16⟩), (.nam 105 ⟨247, 18, 247, 22⟩)] ⟨247, 11, 247, 23⟩) ⟨247, 4, 247, 23⟩)]
noncomputable def f_law : Fn where
  ps := [(106, ⟨248, 8, 248, 14⟩)]
  sc := [(106, .l), (102, .l), (51, .l), (104, .c), (82, .l), (105, .c), (66, .l), (108, .l), (109, .l), (110, .l), (50, .l), (94, .l), (52, .l), (111, .l), (112, .l), (113, .l), (114, .c), (34, .g), (36, .g), (41, .g), (26, .g), (27, .g), (33, .g), (35, .g), (21, .g), (46, .g)]
  body := [
    (.asg (.nam 102 ⟨249, 4, 249, 10⟩) (.lst [(.num 0 ⟨249, 14, 249, 15⟩), (.com (.bcl 5 ⟨249, 18, 249, 21⟩ [(.bcl 6 ⟨249, 22, 249, 25⟩ [(.nam 107 ⟨249, 26, 249, 31⟩)] ⟨249, 22, 249, 32⟩)] ⟨249, 18, 249, 33⟩) [((.nam 107 ⟨249, 38, 249, 43⟩), (.slc (.nam 106 ⟨249, 47, 249, 53⟩) none (some (.num 5 ⟨249, 55, 249, 56⟩)) ⟨249, 54, 249, 56⟩ ⟨249, 47, 249, 57⟩), [])] [(70, .l), (107, .l), (45, .g), (46, .g)] ⟨249, 17, 249, 58⟩)] ⟨249, 13, 249, 59⟩) ⟨249, 4, 249, 59⟩),
    (.ast [(.nam 51 ⟨250, 4, 250, 5⟩), (.nam 104 ⟨250, 7, 250, 8⟩)] ⟨250, 4, 250, 8⟩ (.tup [(.bin .Add (.num 3 ⟨250, 12, 250, 13⟩) (.call (.nam 34 ⟨250, 16, 250, 26⟩) [(.nam 102 ⟨250, 27, 250, 33⟩), (.num 6 ⟨250, 35, 250, 36⟩)] ⟨250, 16, 250, 37⟩) ⟨250, 12, 250, 37⟩), (.idx (.lst [(.num 3 ⟨250, 40, 250, 41⟩), (.num 7 ⟨250, 43, 250, 44⟩), (.num 11 ⟨250, 46, 250, 48⟩)] ⟨250, 39, 250, 49⟩) (.call (.nam 34 ⟨250, 50, 250, 60⟩) [(.nam 102 ⟨250, 61, 250, 67⟩), (.num 3 ⟨250, 69, 250, 70⟩)] ⟨250, 50, 250, 71⟩) ⟨250, 39, 250, 72⟩)] ⟨250, 11, 250, 73⟩) ⟨250, 4, 250, 73⟩),
    (.ast [(.nam 82 ⟨251, 4, 251, 8⟩), (.nam 105 ⟨251, 10, 251, 14⟩)] ⟨251, 4, 251, 14⟩ (.call (.nam 36 ⟨251, 17, 251, 26⟩) [(.nam 104 ⟨251, 27, 251, 28⟩), (.nam 51 ⟨251, 30, 251, 31⟩)] ⟨251, 17, 251, 32⟩) ⟨251, 4, 251, 32⟩),
    (.iff (.cmp .NotEq (.com (.nam 66 ⟨252, 8, 252, 11⟩) [((.nam 85 ⟨252, 16, 252, 19⟩), (.nam 82 ⟨252, 23, 252, 27⟩), []), ((.nam 66 ⟨252, 32, 252, 35⟩), (.nam 85 ⟨252, 39, 252, 42⟩), [(.cmp .NotIn (.nam 66 ⟨252, 46, 252, 49⟩) (.tup [(.num 1 ⟨252, 58, 252, 59⟩), (.bin .Sub (.num 0 ⟨252, 61, 252, 62⟩) (.num 1 ⟨252, 65, 252, 66⟩) ⟨252, 61, 252, 66⟩)] ⟨252, 57, 252, 67⟩) ⟨252, 46, 252, 67⟩)])] [(70, .l), (85, .l), (66, .l)] ⟨252, 7, 252, 68⟩) (.lst [] ⟨252, 72, 252, 74⟩) ⟨252, 7, 252, 74⟩) [(.ret (.tru false ⟨253, 15, 253, 20⟩) ⟨253, 8, 253, 20⟩)] [] ⟨252, 4, 253, 20⟩),
    (.asg (.nam 108 ⟨254, 4, 254, 8⟩) (.com (.com (.tup [(.cmp .Lt (.nam 66 ⟨254, 14, 254, 17⟩) (.num 0 ⟨254, 20, 254, 21⟩) ⟨254, 14, 254, 21⟩), (.lst [(.num 1 ⟨254, 24, 254, 25⟩)] ⟨254, 23, 254, 26⟩)] ⟨254, 13, 254, 27⟩) [((.nam 66 ⟨254, 32, 254, 35⟩), (.nam 85 ⟨254, 39, 254, 42⟩), [])] [(70, .l), (66, .l)] ⟨254, 12, 254, 43⟩) [((.nam 85 ⟨254, 48, 254, 51⟩), (.nam 82 ⟨254, 55, 254, 59⟩), [])] [(70, .l), (85, .l)] ⟨254, 11, 254, 60⟩) ⟨254, 4, 254, 60⟩),
    (.asg (.nam 109 ⟨255, 4, 255, 8⟩) (.lst [(.call (.nam 34 ⟨255, 12, 255, 22⟩) [(.nam 102 ⟨255, 23, 255, 29⟩), (.bin .Add (.nam 104 ⟨255, 31, 255, 32⟩) (.num 1 ⟨255, 35, 255, 36⟩) ⟨255, 31, 255, 36⟩)] ⟨255, 12, 255, 37⟩), (.call (.nam 34 ⟨255, 39, 255, 49⟩) [(.nam 102 ⟨255, 50, 255, 56⟩), (.bin .Add (.nam 104 ⟨255, 58, 255, 59⟩) (.num 1 ⟨255, 62, 255, 63⟩) ⟨255, 58, 255, 63⟩)] ⟨255, 39, 255, 64⟩)] ⟨255, 11, 255, 65⟩) ⟨255, 4, 255, 65⟩),
    (.asg (.nam 110 ⟨256, 4, 256, 9⟩) (.lst [(.tup [(.idx (.nam 109 ⟨256, 14, 256, 18⟩) (.num 0 ⟨256, 19, 256, 20⟩) ⟨256, 14, 256, 21⟩), (.idx (.nam 109 ⟨256, 23, 256, 27⟩) (.num 1 ⟨256, 28, 256, 29⟩) ⟨256, 23, 256, 30⟩)] ⟨256, 13, 256, 31⟩), (.tup [(.idx (.nam 109 ⟨256, 34, 256, 38⟩) (.num 1 ⟨256, 39, 256, 40⟩) ⟨256, 34, 256, 41⟩), (.idx (.nam 109 ⟨256, 43, 256, 47⟩) (.num 1 ⟨256, 48, 256, 49⟩) ⟨256, 43, 256, 50⟩)] ⟨256, 33, 256, 51⟩)] ⟨256, 12, 256, 52⟩) ⟨256, 4, 256, 52⟩),
    (.iff (.cmp .Eq (.nam 104 ⟨257, 7, 257, 8⟩) (.num 3 ⟨257, 12, 257, 13⟩) ⟨257, 7, 257, 13⟩) [(.asg (.nam 110 ⟨258, 8, 258, 13⟩) (.com (.tup [(.nam 50 ⟨258, 18, 258, 20⟩), (.nam 94 ⟨258, 22, 258, 26⟩)] ⟨258, 17, 258, 27⟩) [((.nam 50 ⟨258, 32, 258, 34⟩), (.bcl 1 ⟨258, 38, 258, 43⟩ [(.num 4 ⟨258, 44, 258, 45⟩)] ⟨258, 38, 258, 46⟩), []), ((.nam 94 ⟨258, 51, 258, 55⟩), (.bcl 1 ⟨258, 59, 258, 64⟩ [(.bin .Add (.nam 50 ⟨258, 65, 258, 67⟩) (.num 1 ⟨258, 70, 258, 71⟩) ⟨258, 65, 258, 71⟩)] ⟨258, 59, 258, 72⟩), [])] [(70, .l), (50, .l), (94, .l), (41, .g)] ⟨258, 16, 258, 73⟩) ⟨258, 8, 258, 73⟩), (.asg (.nam 52 ⟨259, 8, 259, 13⟩) (.call (.nam 26 ⟨259, 16, 259, 27⟩) [(.nam 108 ⟨259, 28, 259, 32⟩), (.nam 51 ⟨259, 34, 259, 35⟩), (.nam 27 ⟨259, 37, 259, 47⟩), (.nam 33 ⟨259, 49, 259, 62⟩)] ⟨259, 16, 259, 63⟩) ⟨259, 8, 259, 63⟩), (.iff (.cmp .NotEq (.call (.nam 27 ⟨260, 11, 260, 21⟩) [(.idx (.nam 52 ⟨260, 22, 260, 27⟩) (.num 1 ⟨260, 28, 260, 29⟩) ⟨260, 22, 260, 30⟩), (.idx (.nam 52 ⟨260, 32, 260, 37⟩) (.num 1 ⟨260, 38, 260, 39⟩) ⟨260, 32, 260, 40⟩), (.nam 51 ⟨260, 42, 260, 43⟩)] ⟨260, 11, 260, 44⟩) (.call (.nam 35 ⟨260, 48, 260, 58⟩) [(.num 256 ⟨260, 59, 260, 62⟩), (.nam 51 ⟨260, 64, 260, 65⟩)] ⟨260, 48, 260, 66⟩) ⟨260, 11, 260, 66⟩) [(.ret (.tru false ⟨261, 19, 261, 24⟩) ⟨261, 12, 261, 24⟩)] [] ⟨260, 8, 261, 24⟩)] [] ⟨257, 4, 261, 24⟩),
    (.forr (.tup [(.nam 50 ⟨262, 8, 262, 10⟩), (.nam 94 ⟨262, 12, 262, 16⟩)] ⟨262, 8, 262, 16⟩) (.nam 110 ⟨262, 20, 262, 25⟩) [(.asg (.nam 111 ⟨263, 8, 263, 11⟩) (.tup [(.tru false ⟨263, 15, 263, 20⟩), (.call (.nam 35 ⟨263, 22, 263, 32⟩) [(.ife (.cmp .Eq (.nam 50 ⟨263, 42, 263, 44⟩) (.nam 94 ⟨263, 48, 263, 52⟩) ⟨263, 42, 263, 52⟩) (.bin .Add (.nam 104 ⟨263, 33, 263, 34⟩) (.num 1 ⟨263, 37, 263, 38⟩) ⟨263, 33, 263, 38⟩) (.num 0 ⟨263, 58, 263, 59⟩) ⟨263, 33, 263, 59⟩), (.nam 51 ⟨263, 61, 263, 62⟩)] ⟨263, 22, 263, 63⟩)] ⟨263, 14, 263, 64⟩) ⟨263, 8, 263, 64⟩), (.iff (.cmp .NotEq (.call (.nam 21 ⟨264, 11, 264, 16⟩) [(.idx (.nam 108 ⟨264, 17, 264, 21⟩) (.nam 50 ⟨264, 22, 264, 24⟩) ⟨264, 17, 264, 25⟩), (.idx (.nam 108 ⟨264, 27, 264, 31⟩) (.nam 94 ⟨264, 32, 264, 36⟩) ⟨264, 27, 264, 37⟩), (.nam 51 ⟨264, 39, 264, 40⟩), (.nam 27 ⟨264, 42, 264, 52⟩)] ⟨264, 11, 264, 53⟩) (.nam 111 ⟨264, 57, 264, 60⟩) ⟨264, 11, 264, 60⟩) [(.ret (.tru false ⟨265, 19, 265, 24⟩) ⟨265, 12, 265, 24⟩)] [] ⟨264, 8, 265, 24⟩)] ⟨262, 4, 265, 24⟩),
    (.ast [(.nam 112 ⟨266, 4, 266, 6⟩), (.nam 113 ⟨266, 8, 266, 12⟩)] ⟨266, 4, 266, 12⟩ (.tup [(.bin .Add (.num 1 ⟨266, 16, 266, 17⟩) (.call (.nam 34 ⟨266, 20, 266, 30⟩) [(.nam 102 ⟨266, 31, 266, 37⟩), (.bin .Sub (.nam 104 ⟨266, 39, 266, 40⟩) (.num 1 ⟨266, 43, 266, 44⟩) ⟨266, 39, 266, 44⟩)] ⟨266, 20, 266, 45⟩) ⟨266, 16, 266, 45⟩), (.num 0 ⟨266, 47, 266, 48⟩)] ⟨266, 15, 266, 49⟩) ⟨266, 4, 266, 49⟩),
    (.forr (.nam 66 ⟨267, 8, 267, 11⟩) (.bcl 1 ⟨267, 15, 267, 20⟩ [(.num 1 ⟨267, 21, 267, 22⟩), (.nam 104 ⟨267, 24, 267, 25⟩)] ⟨267, 15, 267, 26⟩) [(.asg (.nam 113 ⟨268, 8, 268, 12⟩) (.bin .Add (.nam 113 ⟨268, 15, 268, 19⟩) (.bcl 6 ⟨268, 22, 268, 25⟩ [(.boo .And (.cmp .Eq (.idx (.nam 105 ⟨268, 26, 268, 30⟩) (.nam 66 ⟨268, 31, 268, 34⟩) ⟨268, 26, 268, 35⟩) (.num 1 ⟨268, 39, 268, 40⟩) ⟨268, 26, 268, 40⟩) (.cmp .Eq (.idx (.nam 105 ⟨268, 45, 268, 49⟩) (.bin .Mod (.bin .Add (.nam 66 ⟨268, 51, 268, 54⟩) (.nam 112 ⟨268, 57, 268, 59⟩) ⟨268, 51, 268, 59⟩) (.nam 104 ⟨268, 63, 268, 64⟩) ⟨268, 50, 268, 64⟩) ⟨268, 45, 268, 65⟩) (.num 1 ⟨268, 69, 268, 70⟩) ⟨268, 45, 268, 70⟩) ⟨268, 26, 268, 70⟩)] ⟨268, 22, 268, 71⟩) ⟨268, 15, 268, 71⟩) ⟨268, 8, 268, 71⟩)] ⟨267, 4, 268, 71⟩),
    (.asg (.nam 114 ⟨269, 4, 269, 11⟩) (.com (.bin .Mod (.bin .Mult (.nam 66 ⟨269, 15, 269, 18⟩) (.nam 66 ⟨269, 21, 269, 24⟩) ⟨269, 15, 269, 24⟩) (.nam 104 ⟨269, 27, 269, 28⟩) ⟨269, 15, 269, 28⟩) [((.nam 66 ⟨269, 33, 269, 36⟩), (.bcl 1 ⟨269, 40, 269, 45⟩ [(.num 1 ⟨269, 46, 269, 47⟩), (.nam 104 ⟨269, 49, 269, 50⟩)] ⟨269, 40, 269, 51⟩), [])] [(70, .l), (66, .l), (104, .f)] ⟨269, 14, 269, 52⟩) ⟨269, 4, 269, 52⟩),
    (.iff (.cmp .NotEq (.com (.bcl 6 ⟨270, 8, 270, 11⟩ [(.cmp .In (.nam 66 ⟨270, 12, 270, 15⟩) (.nam 114 ⟨270, 19, 270, 26⟩) ⟨270, 12, 270, 26⟩)] ⟨270, 8, 270, 27⟩) [((.nam 66 ⟨270, 32, 270, 35⟩), (.bcl 1 ⟨270, 39, 270, 44⟩ [(.num 1 ⟨270, 45, 270, 46⟩), (.nam 104 ⟨270, 48, 270, 49⟩)] ⟨270, 39, 270, 50⟩), [])] [(70, .l), (66, .l), (46, .g), (114, .f)] ⟨270, 7, 270, 51⟩) (.com (.bcl 6 ⟨270, 56, 270, 59⟩ [(.cmp .Eq (.idx (.nam 105 ⟨270, 60, 270, 64⟩) (.nam 66 ⟨270, 65, 270, 68⟩) ⟨270, 60, 270, 69⟩) (.num 1 ⟨270, 73, 270, 74⟩) ⟨270, 60, 270, 74⟩)] ⟨270, 56, 270, 75⟩) [((.nam 66 ⟨270, 80, 270, 83⟩), (.bcl 1 ⟨270, 87, 270, 92⟩ [(.num 1 ⟨270, 93, 270, 94⟩), (.nam 104 ⟨270, 96, 270, 97⟩)] ⟨270, 87, 270, 98⟩), [])] [(70, .l), (66, .l), (46, .g), (105, .f)] ⟨270, 55, 270, 99⟩) ⟨270, 7, 270, 99⟩) [(.ret (.tru false ⟨271, 15, 271, 20⟩) ⟨271, 8, 271, 20⟩)] [] ⟨270, 4, 271, 20⟩),
    (.ret (.cmp .Eq (.bin .Mult (.num 4 ⟨272, 11, 272, 12⟩) (.nam 113 ⟨272, 15, 272, 19⟩) ⟨272, 11, 272, 19⟩) (.bin .Sub (.nam 104 ⟨272, 23, 272, 24⟩) (.num 3 ⟨272, 27, 272, 28⟩) ⟨272, 23, 272, 28⟩) ⟨272, 11, 272, 28⟩) ⟨272, 4, 272, 28⟩)]
noncomputable def fnTab : List (Nat × Fn) := [(0, f_normal), (1, f_is_even), (2, f_compare), (3, f_add), (4, f_sub), (5, f_divrem_limb), (6, f_shift_left), (7, f_shift_right), (8, f_bits), (9, f_bit), (10, f_trailing), (11, f_last_bits), (12, f_two_sign), (13, f_jacobi), (14, f_signed), (15, f_s_neg), (16, f_s_sign), (17, f_s_add), (18, f_s_sub), (19, f_s_mul), (20, f_tdiv), (21, f_inner), (22, f_exact), (23, f_pivot_row), (24, f_cleared), (25, f_steps_down), (26, f_det_bareiss), (27, f_mul_school), (28, f_divrem_small), (29, f_guessed_limb), (30, f_take_away), (32, f_divide_rows), (33, f_divrem_school), (34, f_law_woven), (35, f_law_limbs), (36, f_law_rows), (37, f_law)]
noncomputable def nsum : Nat → List V → Hp → Option (V × Hp) := fun _ _ _ => none
noncomputable def W0 : Wd := ⟨fnTab, nsum⟩
end
end Mj

namespace Mj
open PySem PySem.Calls PyProof.Rows

/-! names -/
noncomputable def nm (k : Nat) : Str := match names[k]? with
  | some s => s
  | none => ⟨#[k + 2000000]⟩
noncomputable def code (s : Str) : Nat := s.cps.toList.foldl (fun n c => n * 2097152 + c + 1) 0
noncomputable def distN : List Nat → Bool
  | [] => true
  | k :: r => r.all (fun j => !Nat.beq k j) && distN r
theorem names_dist : distN (names.map code) = true := by decide +kernel
theorem names_low : names.all (fun s => s.cps.toList.all fun c => Nat.blt c 2000000) = true := by decide +kernel
theorem distN_inj : ∀ {l : List Nat} {i j : Nat} {x : Nat}, distN l = true → l[i]? = some x → l[j]? = some x → i = j
  | [], i, j, x, _, h, _ => by simp at h
  | k :: r, i, j, x, hd, h1, h2 => by
    unfold distN at hd
    rw [Bool.and_eq_true] at hd
    obtain ⟨ha, hr⟩ := hd
    have off : ∀ m, r[m]? = some k → False := fun m e => by
      have := List.all_eq_true.mp ha k (List.mem_of_getElem? e)
      simp at this
    cases i with
    | zero => cases j with
      | zero => rfl
      | succ j => simp only [List.getElem?_cons_zero, List.getElem?_cons_succ, Option.some.injEq] at h1 h2; subst h1; exact (off j h2).elim
    | succ i => cases j with
      | zero => simp only [List.getElem?_cons_zero, List.getElem?_cons_succ, Option.some.injEq] at h1 h2; subst h2; exact (off i h1).elim
      | succ j => simp only [List.getElem?_cons_succ] at h1 h2; rw [distN_inj hr h1 h2]
theorem nm_inj {i j : Nat} (e : nm i = nm j) : i = j := by
  unfold nm at e
  cases hi : names[i]? with
  | none =>
    cases hj : names[j]? with
    | none => rw [hi, hj] at e; have := congrArg Str.cps e; simp at this; exact this
    | some s =>
      rw [hi, hj] at e
      have := List.all_eq_true.mp (List.all_eq_true.mp names_low s (List.mem_of_getElem? hj)) (i + 2000000) (by
        have e' : (⟨#[i + 2000000]⟩ : Str) = s := e
        rw [← e']; simp)
      simp at this
      omega
  | some t =>
    cases hj : names[j]? with
    | none =>
      rw [hi, hj] at e
      have := List.all_eq_true.mp (List.all_eq_true.mp names_low t (List.mem_of_getElem? hi)) (j + 2000000) (by
        have e' : t = ⟨#[j + 2000000]⟩ := e
        rw [e']; simp)
      simp at this
      omega
    | some s =>
      rw [hi, hj] at e
      have e' : t = s := e
      subst e'
      exact distN_inj names_dist (x := code t) (by simp [hi]) (by simp [hj])

/-! the mini-language's terms as the model's -/
noncomputable def pyNames : List (Nat × Kd) → List (Str × NameKind)
  | [] => []
  | x :: r => (nm x.1, x.2.py) :: pyNames r
noncomputable def pyScope (sc : List (Nat × Kd)) : Scope := { kind := .function, names := pyNames sc, isGenerator := false, isCoroutine := false, more := [] }
noncomputable def bname (b : Nat) : Str := nm (bid b)
noncomputable def mname (m : Nat) : Str := match m with
  | 0 => Str.ofString "append"
  | _ => Str.ofString "bit_length"
mutual
noncomputable def Ex.py : Ex → Expr
  | .num i p => .Constant (.int i) 0 p
  | .tru b p => .Constant (.bool b) 0 p
  | .nam k p => .Name (nm k) p
  | .bin o a b p => .BinOp a.py o b.py p
  | .neg a p => .UnaryOp .USub a.py p
  | .nott a p => .UnaryOp .Not a.py p
  | .boo o a b p => .BoolOp o [a.py, b.py] p
  | .cmp o a b p => .Compare a.py [o] [b.py] p
  | .ife t a b p => .IfExp t.py a.py b.py p
  | .lst es p => .List (pys es) p
  | .tup es p => .Tuple (pys es) 0 p
  | .idx a i p => .Subscript a.py i.py p
  | .slc a lo hi q p => .Subscript a.py (.Slice (pyo lo) (pyo hi) none q) p
  | .call f as p => .Call f.py (pys as) [] p
  | .bcl b q as p => .Call (.Name (bname b) q) (pys as) [] p
  | .met o m q as p => .Call (.Attribute o.py (mname m) q) (pys as) [] p
  | .com elt gens sc p => .ListComp elt.py (pyg gens) (pyScope sc) p
noncomputable def pys : List Ex → List Expr
  | [] => []
  | e :: r => e.py :: pys r
noncomputable def pyo : Option Ex → Option Expr
  | none => none
  | some e => some e.py
noncomputable def pyg : List (Ex × Ex × List Ex) → List Comprehension
  | [] => []
  | (t, i, ifs) :: r => ⟨t.py, i.py, pys ifs, 0⟩ :: pyg r
end
mutual
noncomputable def Sx.py : Sx → Stmt
  | .asg t e p => .Assign [t.py] e.py p
  | .ast ts q e p => .Assign [.Tuple (pys ts) 0 q] e.py p
  | .aug k q o e p => .AugAssign (.Name (nm k) q) o e.py p
  | .iff t a b p => .If t.py (pyb a) (pyb b) p
  | .whl t b p => .While t.py (pyb b) [] p
  | .forr t i b p => .For t.py i.py (pyb b) [] p
  | .ret e p => .Return (some e.py) p
  | .exp e p => .Expr e.py p
  | .rai k p1 m p2 p3 p4 => .Raise (some (.Call (.Name (nm k) p1) [.Constant (.str (nm m)) 0 p2] [] p3)) none p4
noncomputable def pyb : List Sx → List Stmt
  | [] => []
  | s :: r => s.py :: pyb r
end

/-! the relation of the small heap to the model's -/
structure Ctx where
  prog : Program
  w : World
  b : Heap
  fa : Nat → Addr
  ρ0 : List Addr
  mg : Str → Option Value
  mb : Str → Option Value
  y : Nat → Int
  q : List V
  wd : Nat
  hwd : 3 ≤ wd ∧ wd ≤ 8
variable (C : Ctx)

noncomputable def VR (ρ : List Addr) (x : V) (v : Value) : Prop := match x with
  | .non => v = .none
  | .bool b => v = .bool b
  | .int i => ∃ t, v = .int i t
  | .ref i => ∃ a, ρ[i]? = some a ∧ v = .ref a
  | .fn k => v = .ref (C.fa k)
  | .sc i => ∃ x t, v = .int x t ∧ (if x < 0 then -x else x) = C.y i
  | .dr i => ∃ t, v = .int (C.y i) t
  | .rm i m => ∃ t, v = .int ((C.y i).fmod m) t
  | .sres m r => ∃ x t, v = .int x t ∧ (if x < 0 then -x else x).fmod m = r
  | .ires m r => ∃ x t, v = .int x t ∧ x.fmod m = r
  | .unk => ∃ x t, v = .int x t
  | .wid => ∃ t, v = .int (Int.ofNat C.wd) t
noncomputable def VRs (ρ : List Addr) : List V → List Value → Prop
  | [], [] => True
  | x :: xs, v :: vs => VR C ρ x v ∧ VRs ρ xs vs
  | _, _ => False
noncomputable def OR (ρ : List Addr) (H : Heap) (a : Addr) (o : O) : Prop := match o with
  | .list xs => ∃ vs, PlainL H a vs.toArray ∧ VRs C ρ xs vs
  | .wlist xs => ∃ vs, H.IsList a vs.toArray ∧ VRs C ρ xs vs
  | .pre xs => ∃ vs : List Value, H.IsList a vs.toArray ∧ xs.length ≤ vs.length ∧ vs.length ≤ 1000 ∧ VRs C ρ xs (vs.take xs.length)
  | .symq => ∃ vs, PlainL H a vs.toArray ∧ VRs C ρ C.q vs
  | .lim n => ∃ vs, PlainL H a vs.toArray ∧ VRs C ρ ((cod C.wd n).map .int) vs
  | .tup xs => ∃ vs, IsTup H a vs.toArray ∧ VRs C ρ xs vs
  | .range x y z => ∃ t u v, IsRange H a x y z t u v
  | .cell none => H.IsCell a none
  | .cell (some x) => ∃ v, H.IsCell a (some v) ∧ VR C ρ x v
  | .lit l i => ∃ b, ρ[l]? = some b ∧ H.IsListIter a b i
  | .rit x left step => IsRangeIter H a x left step
  | .eit it i => ∃ b old, ρ[it]? = some b ∧ IsEnum H a b i old
  | .dead => True
noncomputable def O.alive : O → Prop
  | .dead => False
  | _ => True
theorem OR.obj {ρ : List Addr} {H : Heap} {a : Addr} {o : O} (h : OR C ρ H a o) (al : o.alive) : ∃ x, H.get? a = some x := by
  cases o with
  | list xs => obtain ⟨vs, ⟨o, n, e, _⟩, _⟩ := h; exact ⟨_, e⟩
  | wlist xs => obtain ⟨vs, ⟨o, e, _⟩, _⟩ := h; exact ⟨_, e⟩
  | pre xs => obtain ⟨vs, ⟨o, e, _⟩, _⟩ := h; exact ⟨_, e⟩
  | symq => obtain ⟨vs, ⟨o, n, e, _⟩, _⟩ := h; exact ⟨_, e⟩
  | lim => obtain ⟨vs, ⟨o, n, e, _⟩, _⟩ := h; exact ⟨_, e⟩
  | tup xs => obtain ⟨vs, ⟨o, e, _⟩, _⟩ := h; exact ⟨_, e⟩
  | range x y z => obtain ⟨t, u, v, e⟩ := h; exact ⟨_, e⟩
  | cell v => cases v with
    | none => obtain ⟨o, e, _⟩ := h; exact ⟨_, e⟩
    | some x => obtain ⟨v, ⟨o, e, _⟩, _⟩ := h; exact ⟨_, e⟩
  | lit l i => obtain ⟨b, _, ⟨o, e, _⟩⟩ := h; exact ⟨_, e⟩
  | rit x l s => exact ⟨_, h⟩
  | eit it i => obtain ⟨b, old, _, e⟩ := h; exact ⟨_, e⟩
  | dead => exact al.elim
theorem OR.at {ρ : List Addr} {H H' : Heap} {a : Addr} {o : O} (h : OR C ρ H a o) (k : ∀ x, H.get? a = some x → H'.get? a = some x) : OR C ρ H' a o := by
  cases o with
  | list xs => obtain ⟨vs, ⟨o, n, e, r'⟩, r⟩ := h; exact ⟨vs, ⟨o, n, k _ e, r'⟩, r⟩
  | wlist xs => obtain ⟨vs, ⟨o, e, r'⟩, r⟩ := h; exact ⟨vs, ⟨o, k _ e, r'⟩, r⟩
  | pre xs => obtain ⟨vs, ⟨o, e, r'⟩, r⟩ := h; exact ⟨vs, ⟨o, k _ e, r'⟩, r⟩
  | symq => obtain ⟨vs, ⟨o, n, e, r'⟩, r⟩ := h; exact ⟨vs, ⟨o, n, k _ e, r'⟩, r⟩
  | lim => obtain ⟨vs, ⟨o, n, e, r'⟩, r⟩ := h; exact ⟨vs, ⟨o, n, k _ e, r'⟩, r⟩
  | tup xs => obtain ⟨vs, ⟨o, e, r'⟩, r⟩ := h; exact ⟨vs, ⟨o, k _ e, r'⟩, r⟩
  | range x y z => obtain ⟨t, u, v, e⟩ := h; exact ⟨t, u, v, k _ e⟩
  | cell v => cases v with
    | none => obtain ⟨o, e, r⟩ := h; exact ⟨o, k _ e, r⟩
    | some x => obtain ⟨v, ⟨o, e, r'⟩, r⟩ := h; exact ⟨v, ⟨o, k _ e, r'⟩, r⟩
  | lit l i => obtain ⟨b, hb, ⟨o, e, r⟩⟩ := h; exact ⟨b, hb, ⟨o, k _ e, r⟩⟩
  | rit x l s => exact k _ h
  | eit it i => obtain ⟨b, old, hb, e⟩ := h; exact ⟨b, old, hb, k _ e⟩
  | dead => trivial
theorem OR.data {ρ : List Addr} {H : Heap} {a : Addr} {o : O} (h : OR C ρ H a o) (al : o.alive) : ∃ x, H.get? a = some x ∧ ∀ es ep, x.data ≠ .dict es ep := by
  cases o with
  | list xs => obtain ⟨vs, ⟨o, n, e, _, _, d⟩, _⟩ := h; exact ⟨_, e, fun _ _ q => by rw [d] at q; cases q⟩
  | wlist xs => obtain ⟨vs, ⟨o, e, _, n, d⟩, _⟩ := h; exact ⟨_, e, fun _ _ q => by rw [d] at q; cases q⟩
  | pre xs => obtain ⟨vs, ⟨o, e, _, n, d⟩, _⟩ := h; exact ⟨_, e, fun _ _ q => by rw [d] at q; cases q⟩
  | symq => obtain ⟨vs, ⟨o, n, e, _, _, d⟩, _⟩ := h; exact ⟨_, e, fun _ _ q => by rw [d] at q; cases q⟩
  | lim => obtain ⟨vs, ⟨o, n, e, _, _, d⟩, _⟩ := h; exact ⟨_, e, fun _ _ q => by rw [d] at q; cases q⟩
  | tup xs => obtain ⟨vs, ⟨o, e, _, n, d⟩, _⟩ := h; exact ⟨_, e, fun _ _ q => by rw [d] at q; cases q⟩
  | range x y z => obtain ⟨t, u, v, e⟩ := h; exact ⟨_, e, fun _ _ q => by cases q⟩
  | cell v => cases v with
    | none => obtain ⟨o, e, d⟩ := h; exact ⟨_, e, fun _ _ q => by rw [d] at q; cases q⟩
    | some x => obtain ⟨v, ⟨o, e, d⟩, _⟩ := h; exact ⟨_, e, fun _ _ q => by rw [d] at q; cases q⟩
  | lit l i => obtain ⟨b, _, ⟨o, e, _, d⟩⟩ := h; exact ⟨_, e, fun _ _ q => by rw [d] at q; cases q⟩
  | rit x l s => exact ⟨_, h, fun _ _ q => by cases q⟩
  | eit it i => obtain ⟨b, old, _, e⟩ := h; exact ⟨_, e, fun _ _ q => by cases q⟩
  | dead => exact al.elim
/-- no object of ours is a frame's dict -/
theorem OR.ne {ρ : List Addr} {H : Heap} {a L : Addr} {o : O} {m : Str → Option Value} (h : OR C ρ H a o) (al : o.alive) (n : H.Ns L m) : a ≠ L := fun e => by
  obtain ⟨x, hx, d⟩ := h.data C al
  obtain ⟨y, es, ep, hy, dd, _⟩ := n
  rw [e, hy] at hx; cases hx
  exact d _ _ dd
theorem pre_get {ρ ρ' : List Addr} (h : ρ <+: ρ') {i : Nat} {a : Addr} (e : ρ[i]? = some a) : ρ'[i]? = some a := by
  obtain ⟨t, rfl⟩ := h
  rw [List.getElem?_append_left (List.getElem?_eq_some_iff.mp e).1]; exact e
theorem VR.mono {ρ ρ' : List Addr} (h : ρ <+: ρ') {x : V} {v : Value} (r : VR C ρ x v) : VR C ρ' x v := by
  cases x with
  | ref i => obtain ⟨a, e, r⟩ := r; exact ⟨a, pre_get h e, r⟩
  | _ => exact r
theorem VRs.mono {ρ ρ' : List Addr} (h : ρ <+: ρ') : ∀ {xs : List V} {vs : List Value}, VRs C ρ xs vs → VRs C ρ' xs vs
  | [], [], _ => trivial
  | _ :: _, _ :: _, r => ⟨r.1.mono C h, VRs.mono h r.2⟩
  | [], _ :: _, r => r.elim
  | _ :: _, [], r => r.elim
theorem OR.mono {ρ ρ' : List Addr} (p : ρ <+: ρ') {H : Heap} {a : Addr} {o : O} (h : OR C ρ H a o) : OR C ρ' H a o := by
  cases o with
  | list xs => obtain ⟨vs, e, r⟩ := h; exact ⟨vs, e, r.mono C p⟩
  | wlist xs => obtain ⟨vs, e, r⟩ := h; exact ⟨vs, e, r.mono C p⟩
  | pre xs => obtain ⟨vs, e, l1, l2, r⟩ := h; exact ⟨vs, e, l1, l2, r.mono C p⟩
  | symq => obtain ⟨vs, e, r⟩ := h; exact ⟨vs, e, r.mono C p⟩
  | lim => obtain ⟨vs, e, r⟩ := h; exact ⟨vs, e, r.mono C p⟩
  | tup xs => obtain ⟨vs, e, r⟩ := h; exact ⟨vs, e, r.mono C p⟩
  | range x y z => exact h
  | cell v => cases v with
    | none => exact h
    | some x => obtain ⟨v, e, r⟩ := h; exact ⟨v, e, r.mono C p⟩
  | lit l i => obtain ⟨b, hb, e⟩ := h; exact ⟨b, pre_get p hb, e⟩
  | rit x l s => exact h
  | eit it i => obtain ⟨b, old, hb, e⟩ := h; exact ⟨b, old, pre_get p hb, e⟩
  | dead => trivial

/-! look-ups -/
theorem lk_nil {α : Type} (k : Nat) : lk k ([] : List (Nat × α)) = none := rfl
theorem lk_cons {α : Type} (k : Nat) (x : Nat × α) (r : List (Nat × α)) : lk k (x :: r) = if x.1 = k then some x.2 else lk k r := by
  show @Bool.rec (fun _ => Option α) (lk k r) (some x.2) (Nat.beq x.1 k) = _
  by_cases h : x.1 = k
  · rw [if_pos h, h, Nat.beq_refl]
  · rw [if_neg h, show Nat.beq x.1 k = false from Bool.eq_false_iff.mpr fun e => h (Nat.eq_of_beq_eq_true e)]
theorem up_cons {α : Type} (k : Nat) (a : α) (x : Nat × α) (r : List (Nat × α)) : up k a (x :: r) = if x.1 = k then (k, a) :: r else x :: up k a r := by
  show @Bool.rec (fun _ => List (Nat × α)) (x :: up k a r) ((k, a) :: r) (Nat.beq x.1 k) = _
  by_cases h : x.1 = k
  · rw [if_pos h, h, Nat.beq_refl]
  · rw [if_neg h, show Nat.beq x.1 k = false from Bool.eq_false_iff.mpr fun e => h (Nat.eq_of_beq_eq_true e)]
theorem lk_up {α : Type} (k : Nat) (a : α) : ∀ (l : List (Nat × α)) (j : Nat), (lk k l).isSome = true → lk j (up k a l) = if j = k then some a else lk j l
  | [], _, h => by simp [lk_nil] at h
  | x :: r, j, h => by
    rw [up_cons]
    by_cases hx : x.1 = k
    · rw [if_pos hx, lk_cons, lk_cons]
      by_cases hj : j = k
      · subst hj; simp
      · simp only [hj, if_false]
        rw [if_neg fun e => hj e.symm, if_neg fun e => hj (by rw [← e, hx])]
    · rw [if_neg hx, lk_cons, lk_cons, lk_up k a r j (by rw [lk_cons, if_neg hx] at h; exact h)]
      by_cases hj : j = k
      · subst hj; simp [hx]
      · simp [hj]
theorem div4 {m : Nat} : m % 4 = 0 ∨ m % 4 = 1 ∨ m % 4 = 2 ∨ m % 4 = 3 := by omega
theorem T.get_e (k : Nat) : T.e.get k = none := rfl
theorem T.get_0 (v : Option Cell) (a b c d : T) : (T.n v a b c d).get 0 = v := rfl
theorem T.get_1 (v : Option Cell) (a b c d : T) {m : Nat} (h : m % 4 = 0) : (T.n v a b c d).get (m + 1) = a.get (m / 4) := by
  show @Nat.rec (fun _ => Option Cell) (a.get (m / 4)) (fun i _ => @Nat.rec (fun _ => Option Cell) (b.get (m / 4)) (fun i _ => @Nat.rec (fun _ => Option Cell) (c.get (m / 4)) (fun _ _ => d.get (m / 4)) i) i) (m % 4) = _
  rw [h]; rfl
theorem T.get_2 (v : Option Cell) (a b c d : T) {m : Nat} (h : m % 4 = 1) : (T.n v a b c d).get (m + 1) = b.get (m / 4) := by
  show @Nat.rec (fun _ => Option Cell) (a.get (m / 4)) (fun i _ => @Nat.rec (fun _ => Option Cell) (b.get (m / 4)) (fun i _ => @Nat.rec (fun _ => Option Cell) (c.get (m / 4)) (fun _ _ => d.get (m / 4)) i) i) (m % 4) = _
  rw [h]; rfl
theorem T.get_3 (v : Option Cell) (a b c d : T) {m : Nat} (h : m % 4 = 2) : (T.n v a b c d).get (m + 1) = c.get (m / 4) := by
  show @Nat.rec (fun _ => Option Cell) (a.get (m / 4)) (fun i _ => @Nat.rec (fun _ => Option Cell) (b.get (m / 4)) (fun i _ => @Nat.rec (fun _ => Option Cell) (c.get (m / 4)) (fun _ _ => d.get (m / 4)) i) i) (m % 4) = _
  rw [h]; rfl
theorem T.get_4 (v : Option Cell) (a b c d : T) {m : Nat} (h : m % 4 = 3) : (T.n v a b c d).get (m + 1) = d.get (m / 4) := by
  show @Nat.rec (fun _ => Option Cell) (a.get (m / 4)) (fun i _ => @Nat.rec (fun _ => Option Cell) (b.get (m / 4)) (fun i _ => @Nat.rec (fun _ => Option Cell) (c.get (m / 4)) (fun _ _ => d.get (m / 4)) i) i) (m % 4) = _
  rw [h]; rfl
theorem T.br_0 (f : Nat) (x : Cell) : T.br (f + 1) 0 x = .n (some x) .e .e .e .e := rfl
theorem T.br_1 (f : Nat) (x : Cell) {m : Nat} (h : m % 4 = 0) : T.br (f + 1) (m + 1) x = .n none (T.br f (m / 4) x) .e .e .e := by
  show @Nat.rec (fun _ => T) (.n none (T.br f (m / 4) x) .e .e .e) (fun i _ => @Nat.rec (fun _ => T) (.n none .e (T.br f (m / 4) x) .e .e) (fun i _ => @Nat.rec (fun _ => T) (.n none .e .e (T.br f (m / 4) x) .e) (fun _ _ => (.n none .e .e .e (T.br f (m / 4) x))) i) i) (m % 4) = _
  rw [h]; rfl
theorem T.br_2 (f : Nat) (x : Cell) {m : Nat} (h : m % 4 = 1) : T.br (f + 1) (m + 1) x = .n none .e (T.br f (m / 4) x) .e .e := by
  show @Nat.rec (fun _ => T) (.n none (T.br f (m / 4) x) .e .e .e) (fun i _ => @Nat.rec (fun _ => T) (.n none .e (T.br f (m / 4) x) .e .e) (fun i _ => @Nat.rec (fun _ => T) (.n none .e .e (T.br f (m / 4) x) .e) (fun _ _ => (.n none .e .e .e (T.br f (m / 4) x))) i) i) (m % 4) = _
  rw [h]; rfl
theorem T.br_3 (f : Nat) (x : Cell) {m : Nat} (h : m % 4 = 2) : T.br (f + 1) (m + 1) x = .n none .e .e (T.br f (m / 4) x) .e := by
  show @Nat.rec (fun _ => T) (.n none (T.br f (m / 4) x) .e .e .e) (fun i _ => @Nat.rec (fun _ => T) (.n none .e (T.br f (m / 4) x) .e .e) (fun i _ => @Nat.rec (fun _ => T) (.n none .e .e (T.br f (m / 4) x) .e) (fun _ _ => (.n none .e .e .e (T.br f (m / 4) x))) i) i) (m % 4) = _
  rw [h]; rfl
theorem T.br_4 (f : Nat) (x : Cell) {m : Nat} (h : m % 4 = 3) : T.br (f + 1) (m + 1) x = .n none .e .e .e (T.br f (m / 4) x) := by
  show @Nat.rec (fun _ => T) (.n none (T.br f (m / 4) x) .e .e .e) (fun i _ => @Nat.rec (fun _ => T) (.n none .e (T.br f (m / 4) x) .e .e) (fun i _ => @Nat.rec (fun _ => T) (.n none .e .e (T.br f (m / 4) x) .e) (fun _ _ => (.n none .e .e .e (T.br f (m / 4) x))) i) i) (m % 4) = _
  rw [h]; rfl
theorem T.set_0 (f : Nat) (v : Option Cell) (a b c d : T) (x : Cell) : T.set f (.n v a b c d) 0 x = .n (some x) a b c d := rfl
theorem T.set_1 (f : Nat) (v : Option Cell) (a b c d : T) (x : Cell) {m : Nat} (h : m % 4 = 0) : T.set f (.n v a b c d) (m + 1) x = .n v (T.set f a (m / 4) x) b c d := by
  show @Nat.rec (fun _ => T) (.n v (T.set f a (m / 4) x) b c d) (fun i _ => @Nat.rec (fun _ => T) (.n v a (T.set f b (m / 4) x) c d) (fun i _ => @Nat.rec (fun _ => T) (.n v a b (T.set f c (m / 4) x) d) (fun _ _ => (.n v a b c (T.set f d (m / 4) x))) i) i) (m % 4) = _
  rw [h]; rfl
theorem T.set_2 (f : Nat) (v : Option Cell) (a b c d : T) (x : Cell) {m : Nat} (h : m % 4 = 1) : T.set f (.n v a b c d) (m + 1) x = .n v a (T.set f b (m / 4) x) c d := by
  show @Nat.rec (fun _ => T) (.n v (T.set f a (m / 4) x) b c d) (fun i _ => @Nat.rec (fun _ => T) (.n v a (T.set f b (m / 4) x) c d) (fun i _ => @Nat.rec (fun _ => T) (.n v a b (T.set f c (m / 4) x) d) (fun _ _ => (.n v a b c (T.set f d (m / 4) x))) i) i) (m % 4) = _
  rw [h]; rfl
theorem T.set_3 (f : Nat) (v : Option Cell) (a b c d : T) (x : Cell) {m : Nat} (h : m % 4 = 2) : T.set f (.n v a b c d) (m + 1) x = .n v a b (T.set f c (m / 4) x) d := by
  show @Nat.rec (fun _ => T) (.n v (T.set f a (m / 4) x) b c d) (fun i _ => @Nat.rec (fun _ => T) (.n v a (T.set f b (m / 4) x) c d) (fun i _ => @Nat.rec (fun _ => T) (.n v a b (T.set f c (m / 4) x) d) (fun _ _ => (.n v a b c (T.set f d (m / 4) x))) i) i) (m % 4) = _
  rw [h]; rfl
theorem T.set_4 (f : Nat) (v : Option Cell) (a b c d : T) (x : Cell) {m : Nat} (h : m % 4 = 3) : T.set f (.n v a b c d) (m + 1) x = .n v a b c (T.set f d (m / 4) x) := by
  show @Nat.rec (fun _ => T) (.n v (T.set f a (m / 4) x) b c d) (fun i _ => @Nat.rec (fun _ => T) (.n v a (T.set f b (m / 4) x) c d) (fun i _ => @Nat.rec (fun _ => T) (.n v a b (T.set f c (m / 4) x) d) (fun _ _ => (.n v a b c (T.set f d (m / 4) x))) i) i) (m % 4) = _
  rw [h]; rfl
theorem T.get_br : ∀ (f k j : Nat) (x : Cell), k < f → (T.br f k x).get j = if j = k then some x else none
  | 0, _, _, _, h => absurd h (Nat.not_lt_zero _)
  | f + 1, 0, 0, x, _ => rfl
  | f + 1, 0, j + 1, x, _ => by
    rw [T.br_0, if_neg (Nat.succ_ne_zero j)]
    rcases div4 (m := j) with h | h | h | h
    · rw [T.get_1 _ _ _ _ _ h]; rfl
    · rw [T.get_2 _ _ _ _ _ h]; rfl
    · rw [T.get_3 _ _ _ _ _ h]; rfl
    · rw [T.get_4 _ _ _ _ _ h]; rfl
  | f + 1, m + 1, 0, x, _ => by
    rw [if_neg (by omega)]
    rcases div4 (m := m) with h | h | h | h
    · rw [T.br_1 f x h]; rfl
    · rw [T.br_2 f x h]; rfl
    · rw [T.br_3 f x h]; rfl
    · rw [T.br_4 f x h]; rfl
  | f + 1, m + 1, j + 1, x, hk => by
    rcases div4 (m := m) with h | h | h | h
    · rw [T.br_1 f x h]
      rcases div4 (m := j) with g | g | g | g
      · rw [T.get_1 _ _ _ _ _ g, T.get_br f _ _ _ (by omega)]
        by_cases e : j = m
        · rw [if_pos (by rw [e]), if_pos (by rw [e])]
        · rw [if_neg (by omega), if_neg (by omega)]
      · rw [T.get_2 _ _ _ _ _ g, T.get_e, if_neg (by omega)]
      · rw [T.get_3 _ _ _ _ _ g, T.get_e, if_neg (by omega)]
      · rw [T.get_4 _ _ _ _ _ g, T.get_e, if_neg (by omega)]
    · rw [T.br_2 f x h]
      rcases div4 (m := j) with g | g | g | g
      · rw [T.get_1 _ _ _ _ _ g, T.get_e, if_neg (by omega)]
      · rw [T.get_2 _ _ _ _ _ g, T.get_br f _ _ _ (by omega)]
        by_cases e : j = m
        · rw [if_pos (by rw [e]), if_pos (by rw [e])]
        · rw [if_neg (by omega), if_neg (by omega)]
      · rw [T.get_3 _ _ _ _ _ g, T.get_e, if_neg (by omega)]
      · rw [T.get_4 _ _ _ _ _ g, T.get_e, if_neg (by omega)]
    · rw [T.br_3 f x h]
      rcases div4 (m := j) with g | g | g | g
      · rw [T.get_1 _ _ _ _ _ g, T.get_e, if_neg (by omega)]
      · rw [T.get_2 _ _ _ _ _ g, T.get_e, if_neg (by omega)]
      · rw [T.get_3 _ _ _ _ _ g, T.get_br f _ _ _ (by omega)]
        by_cases e : j = m
        · rw [if_pos (by rw [e]), if_pos (by rw [e])]
        · rw [if_neg (by omega), if_neg (by omega)]
      · rw [T.get_4 _ _ _ _ _ g, T.get_e, if_neg (by omega)]
    · rw [T.br_4 f x h]
      rcases div4 (m := j) with g | g | g | g
      · rw [T.get_1 _ _ _ _ _ g, T.get_e, if_neg (by omega)]
      · rw [T.get_2 _ _ _ _ _ g, T.get_e, if_neg (by omega)]
      · rw [T.get_3 _ _ _ _ _ g, T.get_e, if_neg (by omega)]
      · rw [T.get_4 _ _ _ _ _ g, T.get_br f _ _ _ (by omega)]
        by_cases e : j = m
        · rw [if_pos (by rw [e]), if_pos (by rw [e])]
        · rw [if_neg (by omega), if_neg (by omega)]
theorem T.get_set (f : Nat) (t : T) : ∀ (k j : Nat) (x : Cell), k < f → (T.set f t k x).get j = if j = k then some x else t.get j := by
  induction t with
  | e => intro k j x h; exact T.get_br f k j x h
  | n v a b c d ia ib ic id =>
    intro k j x hk
    match k, j with
    | 0, 0 => rfl
    | 0, j + 1 =>
      rw [T.set_0, if_neg (Nat.succ_ne_zero j)]
      rcases div4 (m := j) with h | h | h | h
      · rw [T.get_1 _ _ _ _ _ h, T.get_1 _ _ _ _ _ h]
      · rw [T.get_2 _ _ _ _ _ h, T.get_2 _ _ _ _ _ h]
      · rw [T.get_3 _ _ _ _ _ h, T.get_3 _ _ _ _ _ h]
      · rw [T.get_4 _ _ _ _ _ h, T.get_4 _ _ _ _ _ h]
    | m + 1, 0 =>
      rw [if_neg (by omega)]
      rcases div4 (m := m) with h | h | h | h
      · rw [T.set_1 f v a b c d x h]; rfl
      · rw [T.set_2 f v a b c d x h]; rfl
      · rw [T.set_3 f v a b c d x h]; rfl
      · rw [T.set_4 f v a b c d x h]; rfl
    | m + 1, j + 1 =>
      rcases div4 (m := m) with h | h | h | h
      · rw [T.set_1 f v a b c d x h]
        rcases div4 (m := j) with g | g | g | g
        · rw [T.get_1 _ _ _ _ _ g, T.get_1 _ _ _ _ _ g, ia _ _ _ (by omega)]
          by_cases e : j = m
          · rw [if_pos (by rw [e]), if_pos (by rw [e])]
          · rw [if_neg (by omega), if_neg (by omega)]
        · rw [T.get_2 _ _ _ _ _ g, T.get_2 _ _ _ _ _ g, if_neg (by omega)]
        · rw [T.get_3 _ _ _ _ _ g, T.get_3 _ _ _ _ _ g, if_neg (by omega)]
        · rw [T.get_4 _ _ _ _ _ g, T.get_4 _ _ _ _ _ g, if_neg (by omega)]
      · rw [T.set_2 f v a b c d x h]
        rcases div4 (m := j) with g | g | g | g
        · rw [T.get_1 _ _ _ _ _ g, T.get_1 _ _ _ _ _ g, if_neg (by omega)]
        · rw [T.get_2 _ _ _ _ _ g, T.get_2 _ _ _ _ _ g, ib _ _ _ (by omega)]
          by_cases e : j = m
          · rw [if_pos (by rw [e]), if_pos (by rw [e])]
          · rw [if_neg (by omega), if_neg (by omega)]
        · rw [T.get_3 _ _ _ _ _ g, T.get_3 _ _ _ _ _ g, if_neg (by omega)]
        · rw [T.get_4 _ _ _ _ _ g, T.get_4 _ _ _ _ _ g, if_neg (by omega)]
      · rw [T.set_3 f v a b c d x h]
        rcases div4 (m := j) with g | g | g | g
        · rw [T.get_1 _ _ _ _ _ g, T.get_1 _ _ _ _ _ g, if_neg (by omega)]
        · rw [T.get_2 _ _ _ _ _ g, T.get_2 _ _ _ _ _ g, if_neg (by omega)]
        · rw [T.get_3 _ _ _ _ _ g, T.get_3 _ _ _ _ _ g, ic _ _ _ (by omega)]
          by_cases e : j = m
          · rw [if_pos (by rw [e]), if_pos (by rw [e])]
          · rw [if_neg (by omega), if_neg (by omega)]
        · rw [T.get_4 _ _ _ _ _ g, T.get_4 _ _ _ _ _ g, if_neg (by omega)]
      · rw [T.set_4 f v a b c d x h]
        rcases div4 (m := j) with g | g | g | g
        · rw [T.get_1 _ _ _ _ _ g, T.get_1 _ _ _ _ _ g, if_neg (by omega)]
        · rw [T.get_2 _ _ _ _ _ g, T.get_2 _ _ _ _ _ g, if_neg (by omega)]
        · rw [T.get_3 _ _ _ _ _ g, T.get_3 _ _ _ _ _ g, if_neg (by omega)]
        · rw [T.get_4 _ _ _ _ _ g, T.get_4 _ _ _ _ _ g, id _ _ _ (by omega)]
          by_cases e : j = m
          · rw [if_pos (by rw [e]), if_pos (by rw [e])]
          · rw [if_neg (by omega), if_neg (by omega)]
/-! the functions that are written by recursors, said by matches -/
theorem Hp.obj_eq (h : Hp) (i : Nat) : h.obj i = match h.get i with
    | some c => some c.o
    | none => none := by
  show @Option.rec Cell (fun _ => Option O) none (fun c => some c.o) (h.get i) = _
  cases h.get i <;> rfl
theorem Hp.lst_eq (h : Hp) (i : Nat) : h.lst i = match h.obj i with
    | some o => match o with
      | .list xs => some xs
      | .wlist xs => some xs
      | _ => none
    | none => none := by
  rw [Hp.obj_eq]
  show @Option.rec Cell (fun _ => Option (List V)) none (fun c => O.items c.o) (h.get i) = _
  cases h.get i with
  | none => rfl
  | some c =>
    obtain ⟨own, o⟩ := c
    cases o <;> rfl
theorem Hp.set_eq (h : Hp) (i : Nat) (o : O) : h.set i o = match h.get i with
    | some ⟨true, _⟩ => some (h.put i ⟨true, o⟩)
    | _ => none := by
  show @Option.rec Cell (fun _ => Option Hp) none (fun c => @Bool.rec (fun _ => Option Hp) none (some (h.put i ⟨true, o⟩)) c.own) (h.get i) = _
  cases h.get i with
  | none => rfl
  | some c =>
    obtain ⟨own, o⟩ := c
    cases own <;> rfl
theorem intl_int (i : Int) (xs : List V) : intl (.int i :: xs) = match intl xs with
    | some l => some (i :: l)
    | none => none := by
  show @Option.rec (List Int) (fun _ => Option (List Int)) none (fun l => some (i :: l)) (intl xs) = _
  cases intl xs <;> rfl
theorem len_eq {α : Type} : ∀ l : List α, len l = l.length
  | [] => rfl
  | _ :: r => congrArg Nat.succ (len_eq r)
theorem snoc_eq {α : Type} (x : α) : ∀ l : List α, snoc l x = l ++ [x]
  | [] => rfl
  | y :: r => congrArg (y :: ·) (snoc_eq x r)
theorem sto_eq (k : Nat) (v : V) (vs : Vars) (h : Hp) : sto k v vs h = match lk k vs with
    | some (.loc _) => some (up k (.loc (some v)) vs, h)
    | some (.cel i) => match h.obj i with
      | some (.cell _) => match h.set i (.cell (some v)) with
        | some h => some (vs, h)
        | none => none
      | _ => none
    | _ => none := by
  unfold sto
  cases lk k vs with
  | none => rfl
  | some sl => cases sl <;> rfl
theorem evNam_eq (vs : Vars) (k : Nat) (h : Hp) : evNam vs k h = match lk k vs with
    | some sl => match sl with
      | .loc o => match o with
        | some v => some (v, h)
        | none => none
      | .cel i => match h.obj i with
        | some (.cell (some v)) => some (v, h)
        | _ => none
      | .glo => match glov k with
        | some v => some (v, h)
        | none => none
    | none => none := by
  unfold evNam
  cases lk k vs with
  | none => rfl
  | some sl =>
    cases sl with
    | loc o => cases o <;> rfl
    | cel i =>
      show @Option.rec O (fun _ => Option (V × Hp)) none (fun o => @Option.rec V (fun _ => Option (V × Hp)) none (fun v => some (v, h)) (O.cel o)) (h.obj i) = match h.obj i with
        | some (.cell (some v)) => some (v, h)
        | _ => none
      cases h.obj i with
      | none => rfl
      | some o =>
        cases o with
        | cell v => cases v <;> rfl
        | _ => rfl
    | glo =>
      show @Option.rec V (fun _ => Option (V × Hp)) none (fun v => some (v, h)) (glov k) = match glov k with
        | some v => some (v, h)
        | none => none
      cases glov k <;> rfl
theorem getIdx_eq (j : Nat) (k : Int) (h : Hp) : getIdx j k h = gd (tiny k) (match h.obj j with
    | some o => match o with
      | .list xs => match item xs k with
        | some v => some (v, h)
        | none => none
      | .wlist xs => match item xs k with
        | some v => some (v, h)
        | none => none
      | .tup xs => match item xs k with
        | some v => some (v, h)
        | none => none
      | _ => none
    | none => none) := by
  unfold getIdx
  have it : ∀ xs : List V, @Option.rec V (fun _ => Option (V × Hp)) none (fun v => some (v, h)) (item xs k) = match item xs k with
      | some v => some (v, h)
      | none => none := fun xs => by cases item xs k <;> rfl
  cases h.obj j with
  | none => rfl
  | some o =>
    cases o with
    | list xs => exact congrArg (gd (tiny k)) (it xs)
    | wlist xs => exact congrArg (gd (tiny k)) (it xs)
    | tup xs => exact congrArg (gd (tiny k)) (it xs)
    | _ => rfl
noncomputable def bclS (b : Nat) (vs : List V) (h : Hp) : Option (V × Hp) := match b with
  | 0 => match vs with
    | [.ref i] => match h.lst i with
      | some xs => gd (Nat.ble xs.length 1000) (some (.int (.ofNat xs.length), h))
      | _ => none
    | _ => none
  | 1 => match vs with
    | [.int a] => gd (tiny a) (some (.ref h.n, h.new (.range 0 a 1)))
    | [.int a, .int b] => gd (tiny a && tiny b) (some (.ref h.n, h.new (.range a b 1)))
    | [.int a, .int b, .int c] => gd (tiny a && tiny b && tiny c && !W.Z.eqB c 0) (some (.ref h.n, h.new (.range a b c)))
    | _ => none
  | 2 => match vs with
    | [.ref i] => match h.lst i with
      | some _ => some (.ref (h.n + 1), (h.new (.lit i 0)).new (.eit h.n 0))
      | _ => none
    | _ => none
  | 3 => match vs with
    | [.ref i] => match h.lst i with
      | some xs => match intl xs with
        | some l => some (.int l.sum, h)
        | none => none
      | _ => none
    | _ => none
  | 4 => match vs with
    | [.int a, .int b] => some (.int (if b < a then b else a), h)
    | _ => none
  | 5 => match vs with
    | [.int a] => some (.int (if a < 0 then -a else a), h)
    | [.sc i] => some (.dr i, h)
    | [.sres m r] => some (.ires m r, h)
    | _ => none
  | 6 => match vs with
    | [.int a] => some (.int a, h)
    | [.sc i] => some (.sc i, h)
    | [.sres m r] => some (.sres m r, h)
    | [.bool b] => some (.int (match b with | true => 1 | false => 0), h)
    | _ => none
  | _ => none
theorem bcl_eq (b : Nat) (vs : List V) (h : Hp) : bcl b vs h = bclS b vs h := by
  match b with
  | 0 => rfl
  | 1 => rfl
  | 2 => rfl
  | 3 => rfl
  | 4 => rfl
  | 5 => rfl
  | 6 => rfl
  | n + 7 => rfl
/-! one step of each walk over a list -/
theorem evs_cons (ev : Ex → Hp → Option (V × Hp)) (x : Ex) (r : List Ex) (h : Hp) : evs ev (x :: r) h = bd (ev x h) fun v h => bd (evs ev r h) fun vs h => some (v :: vs, h) := rfl
theorem tsts_cons (tst : Ex → Hp → Option (Bool × Hp)) (x : Ex) (r : List Ex) (h : Hp) : tsts tst (x :: r) h = bd (tst x h) fun b h => match b with
    | true => tsts tst r h
    | false => some (false, h) := rfl
theorem sxs_cons (sx : Vars → Sx → Hp → Option ((Fl × Vars) × Hp)) (vs : Vars) (x : Sx) (r : List Sx) (h : Hp) : sxs sx vs (x :: r) h = bd (sx vs x h) fun x h => match x with
    | (.nxt, vs) => sxs sx vs r h
    | (.ret v, vs) => some ((.ret v, vs), h) := rfl
theorem stos_cons (t : Ex) (ts : List Ex) (v : V) (xs : List V) (vs : Vars) (h : Hp) : stos (t :: ts) (v :: xs) vs h = match t with
    | .nam k _ => bd (sto k v vs h) fun vs h => stos ts xs vs h
    | _ => none := rfl
theorem zipb_cons (p : Nat × Pos) (ps : List (Nat × Pos)) (x : V) (xs : List V) (acc : List (Nat × V)) : zipb (p :: ps) (x :: xs) acc = zipb ps xs ((p.1, x) :: acc) := rfl
theorem ent_cons (bs : List (Nat × V)) (x : Nat × Kd) (r : List (Nat × Kd)) (h : Hp) : ent bs (x :: r) h = match x.2 with
    | .l => bd (ent bs r h) fun c h => some ((x.1, .loc (lk x.1 bs)) :: c, h)
    | .g => bd (ent bs r h) fun c h => some ((x.1, .glo) :: c, h)
    | .c => bd (ent bs r (h.new (.cell (lk x.1 bs)))) fun c h' => some ((x.1, .cel h.n) :: c, h')
    | .f => none := rfl
theorem cvars_step (vs : Vars) (x : Nat × Kd) (r : List (Nat × Kd)) : cvars vs (x :: r) = match cvars vs r with
    | some c => match lk x.1 c with
      | some _ => none
      | none => match x.2 with
        | .l => some ((x.1, .loc none) :: c)
        | .g => some ((x.1, .glo) :: c)
        | .f => match lk x.1 vs with
          | some sl => match sl with
            | .cel i => some ((x.1, .cel i) :: c)
            | _ => none
          | none => none
        | .c => none
    | none => none := rfl
theorem get_put {h : Hp} {i : Nat} {c c' : Cell} (_e : h.get i = some c) (j : Nat) : (h.put i c').get j = if j = i then some c' else h.get j :=
  T.get_set (i + 1) h.l i j c' (Nat.lt_succ_self _)
theorem get_new (h : Hp) (o : O) (j : Nat) : (h.new o).get j = if j = h.n then some ⟨true, o⟩ else h.get j :=
  T.get_set (h.n + 1) h.l h.n j _ (Nat.lt_succ_self _)
theorem get_fix (h : Hp) (o : O) (j : Nat) : (h.fix o).get j = if j = h.n then some ⟨false, o⟩ else h.get j :=
  T.get_set (h.n + 1) h.l h.n j _ (Nat.lt_succ_self _)
theorem bd_some {α β : Type} {o : Option (α × Hp)} {f : α → Hp → Option β} {r : β} (h : bd o f = some r) : ∃ a h', o = some (a, h') ∧ f a h' = some r := by
  cases o with
  | none => cases h
  | some p => exact ⟨p.1, p.2, rfl, h⟩
theorem gd_some {β : Type} {b : Bool} {x : Option β} {r : β} (h : gd b x = some r) : b = true ∧ x = some r := by
  cases b with
  | false => cases h
  | true => exact ⟨rfl, h⟩
theorem nth_get {α : Type} : ∀ (l : List α) (n : Nat), nth l n = l[n]?
  | [], n => by simp [nth]
  | x :: r, 0 => rfl
  | x :: r, n + 1 => by
    show nth r n = _
    rw [nth_get r n]; simp
theorem obj_some {h : Hp} {i : Nat} {o : O} (e : h.obj i = some o) : ∃ own, h.get i = some ⟨own, o⟩ := by
  rw [Hp.obj_eq] at e
  cases hg : h.get i with
  | none => rw [hg] at e; cases e
  | some c => rw [hg] at e; cases e; exact ⟨c.own, rfl⟩
theorem set_some {h h' : Hp} {i : Nat} {o : O} (e : h.set i o = some h') : ∃ o', h.get i = some ⟨true, o'⟩ ∧ h' = h.put i ⟨true, o⟩ := by
  rw [Hp.set_eq] at e
  split at e
  · rename_i o' hg; cases e; exact ⟨o', hg, rfl⟩
  · cases e

/-! the invariant -/
structure Inv (h₀ : Heap) (L : Addr) (ρ : List Addr) (vs : Vars) (h : Hp) (H : Heap) : Prop where
  pre : C.ρ0 <+: ρ
  len : ρ.length = h.n
  fr : ∃ m, Fr h₀ L H m ∧ ∀ k x, lk k vs = some (.loc (some x)) → ∃ v, m (nm k) = some v ∧ VR C ρ x v
  ob : ∀ i c, h.get i = some c → c.o.alive → ∃ a, ρ[i]? = some a ∧ OR C ρ H a c.o ∧ (c.own = true → h₀.get? a = none)
  sep : ∀ i j ci cj a, h.get i = some ci → h.get j = some cj → ci.own = true → ci.o.alive → cj.o.alive → ρ[i]? = some a → ρ[j]? = some a → i = j
variable {C}
namespace Inv
variable {h₀ : Heap} {L : Addr} {ρ : List Addr} {vs : Vars} {h : Hp} {H H' : Heap}
theorem ge (I : Inv C h₀ L ρ vs h H) {i : Nat} {c : Cell} (e : h.get i = some c) (al : c.o.alive) : i < h.n := by
  obtain ⟨a, ha, _⟩ := I.ob i c e al
  rw [← I.len]; exact (List.getElem?_eq_some_iff.mp ha).1
/-- an object of the small heap -/
theorem obj (I : Inv C h₀ L ρ vs h H) {i : Nat} {o : O} {a : Addr} (e : h.obj i = some o) (al : o.alive) (ha : ρ[i]? = some a) : OR C ρ H a o := by
  obtain ⟨own, hg⟩ := obj_some e
  obtain ⟨b, hb, r, _⟩ := I.ob i _ hg al
  rw [ha] at hb; cases hb; exact r
/-- a list of the small heap -/
theorem lst (I : Inv C h₀ L ρ vs h H) {i : Nat} {xs : List V} {a : Addr} (e : h.lst i = some xs) (ha : ρ[i]? = some a) : ∃ ws, H.IsList a ws.toArray ∧ VRs C ρ xs ws := by
  rw [Hp.lst_eq] at e
  split at e
  · rename_i o ho
    split at e
    · cases e
      obtain ⟨ws, p, q⟩ := I.obj ho trivial ha
      exact ⟨ws, p.isList, q⟩
    · cases e; exact I.obj ho trivial ha
    · cases e
  · cases e
theorem sub (I : Inv C h₀ L ρ vs h H) (k : ∀ b o, H.get? b = some o → H'.get? b = some o) : Inv C h₀ L ρ vs h H' where
  pre := I.pre
  len := I.len
  fr := let ⟨m, F, r⟩ := I.fr; ⟨m, ⟨F.ns.at' fun o e => k _ o e, fun b o e => k b o (F.keep b o e), F.above⟩, r⟩
  ob := fun i c e al => let ⟨a, ha, r, x⟩ := I.ob i c e al; ⟨a, ha, r.at C (k a), x⟩
  sep := I.sep
/-- a new own object -/
theorem new (I : Inv C h₀ L ρ vs h H) (k : ∀ b o, H.get? b = some o → H'.get? b = some o) {a : Addr} (fresh : H.get? a = none) {o : O} (r : OR C (ρ ++ [a]) H' a o) :
    Inv C h₀ L (ρ ++ [a]) vs (h.new o) H' := by
  have p : ρ <+: ρ ++ [a] := ⟨[a], rfl⟩
  have I' := I.sub k
  have at_n : (ρ ++ [a])[h.n]? = some a := by rw [← I.len]; simp
  have a0 : h₀.get? a = none := by
    cases q : h₀.get? a with
    | none => rfl
    | some o => obtain ⟨m, F, _⟩ := I.fr; have := F.keep a o q; rw [fresh] at this; cases this
  have old : ∀ i c b, h.get i = some c → c.o.alive → ρ[i]? = some b → b ≠ a := fun i c b e al hb q => by
    obtain ⟨b', hb', r, _⟩ := I.ob i c e al
    rw [hb] at hb'; cases hb'
    obtain ⟨x, hx⟩ := r.obj C al
    rw [q, fresh] at hx; cases hx
  refine ⟨I.pre.trans p, by rw [List.length_append, I.len]; rfl, let ⟨m, F, r⟩ := I'.fr; ⟨m, F, fun k x e => let ⟨v, hv, q⟩ := r k x e; ⟨v, hv, q.mono C p⟩⟩, fun i c e al => ?_, fun i j ci cj b ei ej ow al al' hi hj => ?_⟩
  · rw [get_new] at e
    by_cases hi : i = h.n
    · subst hi; rw [if_pos rfl] at e; cases e
      exact ⟨a, at_n, r, fun _ => a0⟩
    · rw [if_neg hi] at e
      obtain ⟨b, hb, r, x⟩ := I'.ob i c e al
      exact ⟨b, pre_get p hb, r.mono C p, x⟩
  · rw [get_new] at ei ej
    have back : ∀ i c, i ≠ h.n → h.get i = some c → c.o.alive → (ρ ++ [a])[i]? = some b → ρ[i]? = some b := fun i c _ e al hb => by
      obtain ⟨b', hb', _⟩ := I.ob i c e al
      have := pre_get p hb'
      rw [hb] at this; cases this; exact hb'
    by_cases h1 : i = h.n <;> by_cases h2 : j = h.n
    · rw [h1, h2]
    · rw [if_neg h2] at ej
      subst h1; rw [at_n] at hi; cases hi
      exact (old j cj _ ej al' (back j cj h2 ej al' hj) rfl).elim
    · rw [if_neg h1] at ei
      subst h2; rw [at_n] at hj; cases hj
      exact (old i ci _ ei al (back i ci h1 ei al hi) rfl).elim
    · rw [if_neg h1] at ei; rw [if_neg h2] at ej
      exact I.sep i j ci cj b ei ej ow al al' (back i ci h1 ei al hi) (back j cj h2 ej al' hj)
/-- an own object turned -/
theorem set (I : Inv C h₀ L ρ vs h H) {i : Nat} {o' o : O} {a : Addr} (e : h.get i = some ⟨true, o'⟩) (al : o'.alive) (ha : ρ[i]? = some a) (k : ∀ b x, b ≠ a → H.get? b = some x → H'.get? b = some x) (r : OR C ρ H' a o) :
    Inv C h₀ L ρ vs (h.put i ⟨true, o⟩) H' := by
  obtain ⟨a', ha', ra, a0⟩ := I.ob i _ e al
  rw [ha] at ha'; cases ha'
  have a0 := a0 rfl
  have aL : a ≠ L := let ⟨m, F, _⟩ := I.fr; ra.ne C al F.ns
  refine ⟨I.pre, I.len, let ⟨m, F, r⟩ := I.fr; ⟨m, ⟨F.ns.at' fun x q => k _ x (Ne.symm aL) q, fun b x q => k b x (fun z => by rw [z, a0] at q; cases q) (F.keep b x q), F.above⟩, r⟩, fun j c ej alj => ?_, fun j l cj cl b ej el ow alj all hj hl => ?_⟩
  · rw [get_put e] at ej
    by_cases hj : j = i
    · subst hj; rw [if_pos rfl] at ej; cases ej
      exact ⟨a, ha, r, fun _ => a0⟩
    · rw [if_neg hj] at ej
      obtain ⟨b, hb, rb, x⟩ := I.ob j c ej alj
      have : b ≠ a := fun z => hj (I.sep i j _ c a e ej rfl al alj ha (z ▸ hb)).symm
      exact ⟨b, hb, rb.at C fun y q => k b y this q, x⟩
  · rw [get_put e] at ej el
    by_cases h1 : j = i <;> by_cases h2 : l = i
    · rw [h1, h2]
    · subst h1
      rw [if_neg h2] at el
      exact I.sep j l _ cl b e el rfl al all hj hl
    · subst h2
      rw [if_neg h1] at ej
      exact I.sep j l cj _ b ej e ow alj al hj hl
    · rw [if_neg h1] at ej; rw [if_neg h2] at el
      exact I.sep j l cj cl b ej el ow alj all hj hl
/-- a local name stored -/
theorem loc (I : Inv C h₀ L ρ vs h H) {m : Str → Option Value} (F : Fr h₀ L H m) (hm : ∀ k x, lk k vs = some (.loc (some x)) → ∃ v, m (nm k) = some v ∧ VR C ρ x v) {k : Nat} {sl : Slot} (hk : lk k vs = some sl) {x : V} {v : Value} (r : VR C ρ x v)
    (hn : H'.Ns L (fun y => if y = nm k then some v else m y)) (hs : Heap.SameBut L H H') : Inv C h₀ L ρ (up k (.loc (some x)) vs) h H' := by
  have F' := F.set hn hs
  refine ⟨I.pre, I.len, ⟨_, F', fun j y e => ?_⟩, fun i c e al => ?_, I.sep⟩
  · rw [lk_up k _ vs j (by rw [hk]; rfl)] at e
    by_cases hj : j = k
    · subst hj; rw [if_pos rfl] at e; cases e
      exact ⟨v, by simp, r⟩
    · rw [if_neg hj] at e
      obtain ⟨u, hu, q⟩ := hm j y e
      exact ⟨u, by show (if nm j = nm k then some v else m (nm j)) = some u; rw [if_neg fun z => hj (nm_inj z)]; exact hu, q⟩
  · obtain ⟨a, ha, r, x⟩ := I.ob i c e al
    exact ⟨a, ha, r.at C fun y q => (hs.2 a (r.ne C al F.ns)).trans q, x⟩
end Inv

noncomputable def Rest (s s' : Shared) : Prop := s'.gens = s.gens ∧ s'.drawn = s.drawn ∧ s'.os = s.os
theorem Rest.refl (s : Shared) : Rest s s := ⟨rfl, rfl, rfl⟩
theorem Rest.trans {a b c : Shared} (h : Rest a b) (k : Rest b c) : Rest a c := ⟨k.1.trans h.1, k.2.1.trans h.2.1, k.2.2.trans h.2.2⟩

structure AOk (n : Nat) (A : Around) : Prop where
  handled : A.handled = none
  depth : A.depth + n < recursionLimit
  units : A.units + 8 * n + 100 < cLine
theorem AOk.less {n m : Nat} {A : Around} (h : AOk n A) (k : m ≤ n) : AOk m A := ⟨h.handled, by have := h.depth; omega, by have := h.units; omega⟩
theorem AOk.room {n : Nat} {A : Around} (h : AOk n A) : A.depth < recursionLimit := by have := h.depth; omega
theorem AOk.line {n : Nat} {A : Around} (h : AOk n A) : A.units + 64 < cLine := by have := h.units; omega
end Mj

namespace Mj
open PySem PySem.Calls PyProof.Rows
variable {C : Ctx} {A : Around} {E : Value → Shared → Prop} {s : Shared} {h₀ : Heap} {L : Addr} {ρ : List Addr} {vs : Vars} {h h' : Hp}

/-- what is known behind a step that yields a value -/
noncomputable abbrev Post (C : Ctx) (h₀ : Heap) (L : Addr) (ρ : List Addr) (vs : Vars) (h' : Hp) (s : Shared) (x : V) (Q : Value → Shared → Prop) : Prop :=
  ∀ ρ' s' v', ρ <+: ρ' → Rest s s' → Inv C h₀ L ρ' vs h' s'.heap → VR C ρ' x v' → Q v' s'
/-- what is known behind a step that yields none of the program's values -/
noncomputable abbrev PostU (C : Ctx) (h₀ : Heap) (L : Addr) (ρ : List Addr) (vs : Vars) (h' : Hp) (s : Shared) (Q : Shared → Prop) : Prop :=
  ∀ ρ' s', ρ <+: ρ' → Rest s s' → Inv C h₀ L ρ' vs h' s'.heap → Q s'
theorem pre_refl (ρ : List Addr) : ρ <+: ρ := ⟨[], List.append_nil ρ⟩
theorem size_none (H : Heap) : H.get? H.objs.size = none := by
  cases e : H.get? H.objs.size with
  | none => rfl
  | some o => exact absurd (Heap.lt_size e) (Nat.lt_irrefl _)
theorem Post.here {x : V} {v : Value} {Q : Value → Shared → Prop} (K : Post C h₀ L ρ vs h s x Q) (I : Inv C h₀ L ρ vs h s.heap) (r : VR C ρ x v) {t : Nat} : Q v { s with toks := t } :=
  K ρ _ v (pre_refl ρ) ⟨rfl, rfl, rfl⟩ I r
theorem Post.same {x : V} {v : Value} {Q : Value → Shared → Prop} (K : Post C h₀ L ρ vs h s x Q) (I : Inv C h₀ L ρ vs h s.heap) (r : VR C ρ x v) : Q v s :=
  K ρ _ v (pre_refl ρ) (Rest.refl s) I r
/-- pushed: an own object more -/
theorem Post.push {o : O} {ob : Obj} {Q : Value → Shared → Prop} (K : Post C h₀ L ρ vs (h.new o) s (.ref h.n) Q) (I : Inv C h₀ L ρ vs h s.heap)
    (r : OR C (ρ ++ [s.heap.objs.size]) (s.heap.push ob) s.heap.objs.size o) {t : Nat} : Q (.ref s.heap.objs.size) { s with heap := s.heap.push ob, toks := t } :=
  K (ρ ++ [s.heap.objs.size]) _ _ ⟨_, rfl⟩ ⟨rfl, rfl, rfl⟩ (I.new (fun _ _ e => Heap.get?_push_of_some _ e) (size_none _) r) ⟨_, by rw [← I.len]; simp, rfl⟩
theorem isL_push (H : Heap) (items : Array Value) : PlainL (H.push { cls := .type "list", data := .seq items }) H.objs.size items := ⟨_, _, Heap.get?_push_size _ rfl, rfl, rfl, rfl⟩
theorem isT_push (H : Heap) (items : Array Value) : IsTup (H.push { cls := .type "tuple", data := .seq items }) H.objs.size items := ⟨_, Heap.get?_push_size _ rfl, rfl, _, rfl⟩

theorem VRs.length {ρ : List Addr} : ∀ {xs : List V} {ws : List Value}, VRs C ρ xs ws → xs.length = ws.length
  | [], [], _ => rfl
  | _ :: _, _ :: _, r => by simp [VRs.length r.2]
  | [], _ :: _, r => r.elim
  | _ :: _, [], r => r.elim
theorem VRs.get {ρ : List Addr} : ∀ {xs : List V} {ws : List Value}, VRs C ρ xs ws → ∀ {i : Nat} {x : V}, xs[i]? = some x → ∃ v, ws[i]? = some v ∧ VR C ρ x v
  | [], [], _, i, x, e => by simp at e
  | _ :: _, _ :: _, r, 0, x, e => by simp at e; subst e; exact ⟨_, rfl, r.1⟩
  | _ :: _, _ :: _, r, i + 1, x, e => by simp at e; simpa using VRs.get r.2 e
  | [], _ :: _, r, _, _, _ => r.elim
  | _ :: _, [], r, _, _, _ => r.elim
theorem VRs.none {ρ : List Addr} {xs : List V} {ws : List Value} (r : VRs C ρ xs ws) {i : Nat} (e : xs[i]? = none) : ws[i]? = none := by
  rw [List.getElem?_eq_none_iff] at e ⊢; rw [← r.length]; exact e
theorem VRs.append {ρ : List Addr} : ∀ {xs ys : List V} {ws us : List Value}, VRs C ρ xs ws → VRs C ρ ys us → VRs C ρ (xs ++ ys) (ws ++ us)
  | [], _, [], _, _, q => q
  | _ :: _, _, _ :: _, _, r, q => ⟨r.1, VRs.append r.2 q⟩
  | [], _, _ :: _, _, r, _ => r.elim
  | _ :: _, _, [], _, r, _ => r.elim
theorem VRs.set {ρ : List Addr} : ∀ {xs : List V} {ws : List Value} {x : V} {v : Value} (i : Nat), VRs C ρ xs ws → VR C ρ x v → VRs C ρ (xs.set i x) (ws.set i v)
  | [], [], _, _, _, _, _ => trivial
  | _ :: _, _ :: _, _, _, 0, r, q => ⟨q, r.2⟩
  | _ :: _, _ :: _, _, _, i + 1, r, q => ⟨r.1, VRs.set i r.2 q⟩
  | [], _ :: _, _, _, _, r, _ => r.elim
  | _ :: _, [], _, _, _, r, _ => r.elim
theorem VRs.take {ρ : List Addr} : ∀ {xs : List V} {ws : List Value} (n : Nat), VRs C ρ xs ws → VRs C ρ (xs.take n) (ws.take n)
  | [], [], n, _ => by simp [VRs]
  | _ :: _, _ :: _, 0, _ => trivial
  | _ :: _, _ :: _, n + 1, r => ⟨r.1, VRs.take n r.2⟩
  | [], _ :: _, _, r => r.elim
  | _ :: _, [], _, r => r.elim
theorem VRs.drop {ρ : List Addr} : ∀ {xs : List V} {ws : List Value} (n : Nat), VRs C ρ xs ws → VRs C ρ (xs.drop n) (ws.drop n)
  | [], [], n, _ => by simp [VRs]
  | _ :: _, _ :: _, 0, r => r
  | _ :: _, _ :: _, n + 1, r => VRs.drop n r.2
  | [], _ :: _, _, r => r.elim
  | _ :: _, [], _, r => r.elim
theorem VRs.rep {ρ : List Addr} {x : V} {v : Value} (r : VR C ρ x v) : ∀ n : Nat, VRs C ρ (List.replicate n x) (List.replicate n v)
  | 0 => trivial
  | n + 1 => ⟨r, VRs.rep r n⟩
theorem VRs.rev {ρ : List Addr} : ∀ {xs : List V} {ws : List Value}, VRs C ρ xs ws → VRs C ρ xs.reverse ws.reverse
  | [], [], _ => trivial
  | _ :: _, _ :: _, r => by
    rw [List.reverse_cons, List.reverse_cons]
    exact VRs.append (VRs.rev r.2) ⟨r.1, trivial⟩
  | [], _ :: _, r => r.elim
  | _ :: _, [], r => r.elim
theorem intl_are {ρ : List Addr} : ∀ {xs : List V} {ws : List Value} {ns : List Int}, intl xs = some ns → VRs C ρ xs ws → IntsAre ws ns
  | [], [], _, e, _ => by cases e; exact .nil
  | x :: xs, w :: ws, ns, e, r => by
    cases x with
    | int i =>
      have e' : (match intl xs with | some l => some (i :: l) | none => none) = some ns := (intl_int i xs).symm.trans e
      cases hq : intl xs with
      | none => rw [hq] at e'; cases e'
      | some l =>
        rw [hq] at e'; cases e'
        obtain ⟨t, rfl⟩ := r.1
        exact .cons i t (intl_are hq r.2)
    | _ => cases e
  | [], _ :: _, _, _, r => r.elim
  | _ :: _, [], _, _, r => r.elim

/-! integers and lists under the operators -/
theorem small_lt {x : Int} (e : small x = true) : x.natAbs < 2 ^ 64 := Nat.le_of_ble_eq_true e
theorem tiny_lt {x : Int} (e : tiny x = true) : x.natAbs < 1073741824 := Nat.le_of_ble_eq_true e
theorem bits_le64 {x : Int} (hx : x.natAbs < 2 ^ 64) : Builtin.Int.intBits x ≤ 64 := by
  unfold Builtin.Int.intBits
  split
  · omega
  · by_cases z : x.natAbs = 0
    · rw [z]; decide
    · have := (Nat.log2_lt z).mpr hx
      omega
theorem mulOk {x y : Int} (hx : small x = true) : IntMulOk x y := by
  unfold IntMulOk
  have := bits_le64 (small_lt hx)
  have e : decide (Builtin.Int.intBits x > shortFactorBits) = false := decide_eq_false (by unfold shortFactorBits; omega)
  rw [e]; simp
theorem add_w {l b : Addr} {its its2 : Array Value} {Q : Value → Shared → Prop} (hl : s.heap.IsList l its) (hb : s.heap.IsList b its2)
    (k : Q (.ref s.heap.objs.size) { s with heap := s.heap.push { cls := .type "list", data := .seq (its ++ its2) } }) (hsz : its.size + its2.size ≤ sizeLine) :
    wpAny (model C.prog C.w) A (binaryOp .Add (.ref l) (.ref b)) Q E s := by
  obtain ⟨⟨cls, dd, data, sl⟩, ho, hc, n, hd⟩ := id hl
  obtain ⟨⟨cls2, dd2, data2, sl2⟩, ho2, hc2, n2, hd2⟩ := id hb
  simp only at hc hd hc2 hd2
  subst hc hd hc2 hd2
  exact concat_meets ⟨_, ho, rfl⟩ ⟨_, ho2, rfl⟩ noFill_list_add seq_list_add F.slot_list_add F.entry_list_add (F.args_list_add_2 _ _) (list_addW l b its its2 n n2 dd dd2 sl sl2 hsz) ⟨ho, ho2, k⟩
theorem mul_w {l : Addr} {ws : List Value} {x : Int} {u : Tok} {Q : Value → Shared → Prop} (hl : s.heap.IsList l ws.toArray)
    (hlo : -(2 ^ 63 : Int) ≤ x) (hhi : x < 2 ^ 63) (hsz : ws.length * x.toNat ≤ 2 ^ 24)
    (k : Q (.ref s.heap.objs.size) { s with heap := s.heap.push { cls := .type "list", data := .seq (List.replicate x.toNat ws).flatten.toArray } }) :
    wpAny (model C.prog C.w) A (binaryOp .Mult (.ref l) (.int x u)) Q E s := by
  obtain ⟨⟨cls, d, data, sl⟩, ho, hcl, n, hd⟩ := id hl
  simp only at hcl hd
  subst hcl hd
  have hsz' : ws.toArray.size * x.toNat ≤ 2 ^ 24 := by simpa using hsz
  refine wpAny_binaryOp_repeat_ref (T := "list") (U := "int") (by decide) ⟨_, ho, rfl⟩ (fun s' => typeIs_int s' x u) noFill_list_mul F.fills_int_mul F.slot_int_rmul repeat_list F.slot_int_index.lookup
    (call_meets F.slot_int_rmul (typeIs_int s x u) F.entry_int_rmul (F.args_int_rmul_2 _ _) (lm_int_rmul_list_any x u l ws.toArray n d sl)
      ⟨ho, rfl, ⟨_, ho, rfl⟩, call_meets F.slot_list_mul ⟨_, ho, rfl⟩ F.entry_list_mul (F.args_list_mul_2 _ _)
        (lm_list_mul_any l ws.toArray n d sl x u (by simp [Builtin.List.listFitsIndex]; omega) (by omega) (by simp [Builtin.List.listTooLong, sizeLine]; omega))
        ⟨ho, ?_⟩⟩)
  rw [listMul_foldl_if]; exact k
theorem rep_flat {v : Value} : ∀ n : Nat, (List.replicate n [v]).flatten = List.replicate n v
  | 0 => rfl
  | n + 1 => by simp [List.replicate_succ, rep_flat n]
theorem iadd_int' {a b : Int} {t u : Tok} {Q : Value → Shared → Prop} (k : Q (.int (a + b) s.toks) { s with toks := s.toks + 1 }) : wpAny (model C.prog C.w) A (inplaceOp .Add (.int a t) (.int b u)) Q E s := iadd_int k

theorem bino_ok {o : Operator} {x y r : V} {a b : Value} {Q : Value → Shared → Prop} (e : bino o x y h = some (r, h')) (I : Inv C h₀ L ρ vs h s.heap) (rx : VR C ρ x a) (ry : VR C ρ y b)
    (K : Post C h₀ L ρ vs h' s r Q) : wpAny (model C.prog C.w) A (binaryOp o a b) Q E s := by
  cases x with
  | int x =>
    cases y with
    | int y =>
      obtain ⟨t, rfl⟩ := rx
      obtain ⟨u, rfl⟩ := ry
      cases o with
      | Add => cases e; exact PyProof.Rows.add_int (K.here I ⟨_, rfl⟩)
      | Sub => cases e; exact sub_int' (K.here I ⟨_, rfl⟩)
      | Mult =>
        obtain ⟨g, e⟩ := gd_some e
        cases e
        exact mul_int (K.here I ⟨_, rfl⟩) (mulOk g)
      | FloorDiv =>
        obtain ⟨g, e⟩ := gd_some e
        cases e
        simp only [Bool.and_eq_true] at g
        have hy : y ≠ 0 := fun z => by subst z; have := g.1; revert this; decide
        exact floordiv_int hy (K.here I ⟨_, rfl⟩) (.inl (PyProof.noPylong_small (tiny_lt g.2)))
      | Mod =>
        obtain ⟨g, e⟩ := gd_some e
        cases e
        have hy : y ≠ 0 := fun z => by subst z; revert g; decide
        exact mod_int' hy (K.here I ⟨_, rfl⟩)
      | LShift =>
        obtain ⟨g, e⟩ := gd_some e
        cases e
        simp only [Bool.and_eq_true] at g
        obtain ⟨⟨g1, g2⟩, g3⟩ := g
        rw [W.Z.leB_iff] at g1 g2
        exact lshift_int_small g1 (by omega) (small_lt g3) (K.here I ⟨_, rfl⟩)
      | RShift =>
        obtain ⟨g, e⟩ := gd_some e
        cases e
        rw [W.Z.leB_iff] at g
        exact rshift_int g (K.here I ⟨_, rfl⟩)
      | BitAnd => cases e; exact and_int (K.here I ⟨_, rfl⟩)
      | BitOr => cases e; exact or_int (K.here I ⟨_, rfl⟩)
      | Pow =>
        obtain ⟨g, e⟩ := gd_some e
        cases e
        simp only [Bool.and_eq_true] at g
        obtain ⟨⟨g1, g2⟩, g3⟩ := g
        rw [W.Z.leB_iff] at g1 g2
        exact pow_int_small g1 (by omega) (small_lt g3) (K.here I ⟨_, rfl⟩)
      | _ => cases e
    | _ => cases e
  | ref i =>
    obtain ⟨ai, hi, rfl⟩ := rx
    cases y with
    | ref j =>
      obtain ⟨aj, hj, rfl⟩ := ry
      cases o with
      | Add =>
        change binRR .Add i j h = _ at e
        simp only [binRR] at e
        split at e
        · rename_i xs hx
          split at e
          · rename_i ys hy
            obtain ⟨g, e⟩ := gd_some e
            cases e
            obtain ⟨wx, lx, qx⟩ := I.lst hx hi
            obtain ⟨wy, ly, qy⟩ := I.lst hy hj
            have g' := Nat.le_of_ble_eq_true g
            refine add_w lx ly ?_ ?_
            · have : wx.toArray ++ wy.toArray = (wx ++ wy).toArray := by simp
              rw [this]
              exact K.push (t := s.toks) I ⟨wx ++ wy, isL_push _ _, (VRs.append qx qy).mono C ⟨_, rfl⟩⟩
            · have := qx.length; have := qy.length
              simp only [List.size_toArray]
              unfold sizeLine; omega
          · cases e
        · cases e
      | _ => cases e
    | int y =>
      obtain ⟨u, rfl⟩ := ry
      cases o with
      | Mult =>
        change binRI .Mult i y h = _ at e
        simp only [binRI] at e
        split at e
        · rename_i xs hx
          split at e
          · rename_i x
            obtain ⟨g, e⟩ := gd_some e
            cases e
            simp only [Bool.and_eq_true] at g
            rw [W.Z.leB_iff, W.Z.leB_iff] at g
            obtain ⟨wx, lx, qx⟩ := I.lst hx hi
            match wx, lx, qx with
            | [w], lx, qx =>
              refine mul_w lx (by omega) (by omega) ?_ ?_
              · simp only [List.length_cons, List.length_nil]; omega
              · rw [rep_flat]
                exact K.push (t := s.toks) I ⟨_, isL_push _ _, (VRs.rep qx.1 _).mono C ⟨_, rfl⟩⟩
            | [], _, q => exact q.elim
            | _ :: _ :: _, _, q => exact q.2.elim
          · cases e
        · cases e
      | _ => cases e
    | _ => cases e
  | dr i =>
    cases y with
    | int y =>
      obtain ⟨t, rfl⟩ := rx
      obtain ⟨u, rfl⟩ := ry
      cases o with
      | Mod =>
        obtain ⟨g, e⟩ := gd_some e
        cases e
        have hy : y ≠ 0 := fun z => by subst z; revert g; decide
        exact mod_int' hy (K.here I ⟨_, rfl⟩)
      | _ => cases e
    | _ => cases e
  | ires m r' =>
    cases y with
    | int y =>
      obtain ⟨x, t, rfl, hx⟩ := rx
      obtain ⟨u, rfl⟩ := ry
      cases o with
      | Mod =>
        obtain ⟨g, e⟩ := gd_some e
        cases e
        simp only [Bool.and_eq_true] at g
        have hm := (W.Z.eqB_iff _ _).mp g.1
        subst hm
        have hy : m ≠ 0 := fun z => by subst z; have := g.2; revert this; decide
        exact mod_int' hy (K.here I (by rw [← hx]; exact ⟨_, rfl⟩))
      | _ => cases e
    | _ => cases e
  | _ => cases e
end Mj

namespace Mj
open PySem PySem.Calls PyProof.Rows
variable {C : Ctx} {A : Around} {E : Value → Shared → Prop} {s : Shared} {h₀ : Heap} {L : Addr} {ρ : List Addr} {vs : Vars} {h h' : Hp}

theorem eqB_eq (x y : Int) : W.Z.eqB x y = (x == y) := by
  rw [Bool.eq_iff_iff, W.Z.eqB_iff]; simp
theorem ltB_eq (x y : Int) : W.Z.ltB x y = decide (x < y) := by
  rw [Bool.eq_iff_iff, W.Z.ltB_iff]; simp
theorem leB_eq (x y : Int) : W.Z.leB x y = decide (x ≤ y) := by
  rw [Bool.eq_iff_iff, W.Z.leB_iff]; simp

/-! comparisons -/
theorem reads_pair {H : Heap} {a b : Addr} {p : Bool} {ws : List Value} {ns : List Int} (ht : IsTup H a #[.bool p, .ref b]) (hl : H.IsList b ws.toArray) (hi : IntsAre ws ns) :
    Reads H (.ref a) (.tuple [.bool p, .list (ns.map PyData.int)]) ([] ++ ([b] ++ [])) := by
  obtain ⟨o, ho, hc, n, hd⟩ := ht
  exact .tuple ho hc hd (.cons (.bool p) (.cons (W.reads_of_ints hl hi) .nil))
theorem shaped_pair (p : Bool) (ns : List Int) : PySem.SeqAt.shaped (.tuple [.bool p, .list (ns.map PyData.int)]) = true := by
  have h1 := W.depthAll_ints ns
  have h2 : PyData.depth (.tuple [.bool p, .list (ns.map PyData.int)]) ≤ 64 := by simp only [PyData.depth, PyData.depthAll]; omega
  show (PyData.canLay0 (.tuple [.bool p, .list (ns.map PyData.int)]) && decide (PyData.depth (.tuple [.bool p, .list (ns.map PyData.int)]) ≤ 64)) = true
  rw [Bool.and_eq_true]
  exact ⟨by simp only [PyData.canLay0, PyData.canLayAll0, W.canLayAll0_ints]; rfl, decide_eq_true h2⟩
theorem noMix_pair (p q : Bool) (ns ms : List Int) : PySem.SeqAt.noMix (.tuple [.bool p, .list (ns.map PyData.int)]) (.tuple [.bool q, .list (ms.map PyData.int)]) = true := by
  simp only [PySem.SeqAt.noMix, PySem.SeqAt.noMixAll, W.noMix_ints]; rfl
theorem same_pair (p q : Bool) (ns ms : List Int) : PySem.Spec.same (.tuple [.bool p, .list (ns.map PyData.int)]) (.tuple [.bool q, .list (ms.map PyData.int)]) = ((p == q) && decide (ns = ms)) := by
  simp only [PySem.Spec.same, PySem.Spec.sameAll, W.same_ints, Bool.and_true]

theorem cod_val : ((List.range 16).all fun n => Nat.beq (valL 3 (cod 3 n)) n && Nat.beq (valL 4 (cod 4 n)) n && Nat.beq (valL 5 (cod 5 n)) n && Nat.beq (valL 6 (cod 6 n)) n && Nat.beq (valL 7 (cod 7 n)) n && Nat.beq (valL 8 (cod 8 n)) n) = true := by decide +kernel
theorem cod_back {w n : Nat} (h1 : 3 ≤ w) (h2 : w ≤ 8) (hn : n ≤ 15) : valL w (cod w n) = n := by
  have := List.all_eq_true.mp cod_val n (List.mem_range.mpr (by omega))
  simp only [Bool.and_eq_true] at this
  have hw : w = 3 ∨ w = 4 ∨ w = 5 ∨ w = 6 ∨ w = 7 ∨ w = 8 := by omega
  rcases hw with rfl | rfl | rfl | rfl | rfl | rfl
  · exact Nat.eq_of_beq_eq_true this.1.1.1.1.1
  · exact Nat.eq_of_beq_eq_true this.1.1.1.1.2
  · exact Nat.eq_of_beq_eq_true this.1.1.1.2
  · exact Nat.eq_of_beq_eq_true this.1.1.2
  · exact Nat.eq_of_beq_eq_true this.1.2
  · exact Nat.eq_of_beq_eq_true this.2
theorem cod_same {w n m : Nat} (h1 : 3 ≤ w) (h2 : w ≤ 8) (hn : n ≤ 15) (hm : m ≤ 15) : Nat.beq n m = decide (cod w n = cod w m) := by
  by_cases h : n = m
  · subst h; simp
  · have : cod w n ≠ cod w m := fun e => h (by rw [← cod_back h1 h2 hn, e, cod_back h1 h2 hm])
    rw [decide_eq_false this]
    exact Bool.eq_false_iff.mpr fun e => h (Nat.eq_of_beq_eq_true e)
theorem intl_of : ∀ ns : List Int, intl (ns.map .int) = some ns
  | [] => rfl
  | n :: ns => by
    rw [List.map_cons, intl_int, intl_of ns]
theorem leq_some {i j : Nat} {r : Bool} (e : leq h i j = some r) (I : Inv C h₀ L ρ vs h s.heap) {a b : Addr} (hi : ρ[i]? = some a) (hj : ρ[j]? = some b) :
    ∃ ws us ns ms, s.heap.IsList a ws.toArray ∧ s.heap.IsList b us.toArray ∧ IntsAre ws ns ∧ IntsAre us ms ∧ r = decide (ns = ms) := by
  unfold leq at e
  split at e
  · rename_i xs hx
    split at e
    · rename_i ys hy
      split at e
      · rename_i ns hn
        split at e
        · rename_i ms hm
          cases e
          obtain ⟨ws, l1, q1⟩ := I.lst hx hi
          obtain ⟨us, l2, q2⟩ := I.lst hy hj
          exact ⟨ws, us, ns, ms, l1, l2, intl_are hn q1, intl_are hm q2, rfl⟩
        · cases e
      · cases e
    · cases e
  · split at e
    · rename_i o ho
      split at e
      · rename_i n
        split at e
        · rename_i p hp
          split at e
          · rename_i m
            obtain ⟨g, e⟩ := gd_some e
            cases e
            rw [Bool.and_eq_true] at g
            obtain ⟨ws, l1, q1⟩ := I.obj ho trivial hi
            obtain ⟨us, l2, q2⟩ := I.obj hp trivial hj
            exact ⟨ws, us, cod C.wd n, cod C.wd m, l1.isList, l2.isList, intl_are (intl_of _) q1, intl_are (intl_of _) q2, cod_same C.hwd.1 C.hwd.2 (Nat.le_of_ble_eq_true g.1) (Nat.le_of_ble_eq_true g.2)⟩
          · cases e
        · cases e
      · cases e
    · cases e
theorem eqv_ok {x y : V} {a b : Value} {r : Bool} {Q : Value → Shared → Prop} (e : eqv h x y = some r) (I : Inv C h₀ L ρ vs h s.heap) (rx : VR C ρ x a) (ry : VR C ρ y b) (hu : A.units + 64 < cLine) :
    (Q (.bool r) s → wpAny (model C.prog C.w) A (compareOp .Eq a b) Q E s) ∧ (Q (.bool !r) s → wpAny (model C.prog C.w) A (compareOp .NotEq a b) Q E s) := by
  cases x with
  | int x =>
    cases y with
    | int y =>
      cases e
      obtain ⟨t, rfl⟩ := rx
      obtain ⟨u, rfl⟩ := ry
      rw [eqB_eq]
      exact ⟨fun k => PyProof.Rows.eq_int k, fun k => ne_int k⟩
    | _ => cases e
  | bool x =>
    cases y with
    | bool y =>
      cases e
      cases rx; cases ry
      exact ⟨fun k => eq_bool k, fun k => ne_bool k⟩
    | _ => cases e
  | ref i =>
    cases y with
    | ref j =>
      obtain ⟨a, hi, rfl⟩ := rx
      obtain ⟨b, hj, rfl⟩ := ry
      simp only [eqv] at e
      split at e
      · rename_i p i' hx
        split at e
        · rename_i q j' hy
          split at e
          · rename_i r' hl
            cases e
            obtain ⟨w1, t1, q1⟩ := I.obj hx trivial hi
            obtain ⟨w2, t2, q2⟩ := I.obj hy trivial hj
            match w1, t1, q1 with
            | [v1, v2], t1, q1 =>
              match w2, t2, q2 with
              | [u1, u2], t2, q2 =>
                obtain ⟨e1, ⟨a', ha', e2⟩, _⟩ := q1
                obtain ⟨e3, ⟨b', hb', e4⟩, _⟩ := q2
                cases e1; cases e2; cases e3; cases e4
                obtain ⟨ws, us, ns, ms, l1, l2, i1, i2, rfl⟩ := leq_some hl I ha' hb'
                have R1 := reads_pair t1 l1 i1
                have R2 := reads_pair t2 l2 i2
                exact ⟨fun k => eq_dataH_same R1 R2 (shaped_pair _ _) (shaped_pair _ _) hu (noMix_pair _ _ _ _) (by rw [same_pair]; exact k),
                  fun k => ne_dataH_same R1 R2 (shaped_pair _ _) (shaped_pair _ _) hu (noMix_pair _ _ _ _) (by rw [same_pair]; exact k)⟩
              | [], _, q => exact q.elim
              | [_], _, q => exact q.2.elim
              | _ :: _ :: _ :: _, _, q => exact q.2.2.elim
            | [], _, q => exact q.elim
            | [_], _, q => exact q.2.elim
            | _ :: _ :: _ :: _, _, q => exact q.2.2.elim
          · cases e
        · cases e
      · obtain ⟨ws, us, ns, ms, l1, l2, i1, i2, rfl⟩ := leq_some e I hi hj
        exact ⟨fun k => W.eq_intsK l1 i1 l2 i2 hu k, fun k => W.ne_intsK l1 i1 l2 i2 hu k⟩
    | _ => cases e
  | _ => cases e
theorem any_eqB (x : Int) (l : List Int) : (l.any fun y => W.Z.eqB x y) = l.any fun y => y == x := by
  congr 1
  funext y
  rw [eqB_eq, Bool.eq_iff_iff, beq_iff_eq, beq_iff_eq]; exact eq_comm
theorem inn_ok {x y : V} {a b : Value} {r : Bool} {Q : Value → Shared → Prop} (e : inn h x y = some r) (I : Inv C h₀ L ρ vs h s.heap) (rx : VR C ρ x a) (ry : VR C ρ y b) :
    (Q (.bool r) s → wpAny (model C.prog C.w) A (compareOp .In a b) Q E s) ∧ (Q (.bool !r) s → wpAny (model C.prog C.w) A (compareOp .NotIn a b) Q E s) := by
  cases x with
  | int x =>
    cases y with
    | ref j =>
      obtain ⟨t, rfl⟩ := rx
      obtain ⟨b, hj, rfl⟩ := ry
      simp only [inn] at e
      split at e
      · rename_i xs hx
        split at e
        · rename_i l hl
          cases e
          obtain ⟨ws, t1, q1⟩ := I.obj hx trivial hj
          have i1 := intl_are hl q1
          rw [any_eqB]
          exact ⟨fun k => in_tuple_ints t1 i1 k, fun k => notin_tuple_ints t1 i1 k⟩
        · cases e
      · split at e
        · rename_i xs hx
          split at e
          · rename_i l hl
            cases e
            obtain ⟨ws, t1, q1⟩ := I.lst hx hj
            have i1 := intl_are hl q1
            rw [any_eqB]
            exact ⟨fun k => in_list_ints t1 i1 k, fun k => notin_list_ints t1 i1 k⟩
          · cases e
        · cases e
    | _ => cases e
  | _ => cases e
theorem two_ok {x y : V} {f : Int → Int → Option Bool} {r : Bool} {a b : Value} (e : two x y f = some r) (rx : VR C ρ x a) (ry : VR C ρ y b) : ∃ m n t u, x = .int m ∧ y = .int n ∧ a = .int m t ∧ b = .int n u := by
  cases x with
  | int x =>
    cases y with
    | int y =>
      obtain ⟨t, rfl⟩ := rx
      obtain ⟨u, rfl⟩ := ry
      exact ⟨x, y, t, u, rfl, rfl, rfl, rfl⟩
    | _ => cases e
  | _ => cases e
theorem cmpo_ok {o : CmpOp} {x y : V} {a b : Value} {r : Bool} {Q : Value → Shared → Prop} (e : cmpo o x y h = some r) (I : Inv C h₀ L ρ vs h s.heap) (rx : VR C ρ x a) (ry : VR C ρ y b) (hu : A.units + 64 < cLine)
    (K : Q (.bool r) s) : wpAny (model C.prog C.w) A (compareOp o a b) Q E s := by
  cases o with
  | Eq => exact (eqv_ok e I rx ry hu).1 K
  | NotEq =>
    simp only [cmpo] at e
    split at e
    · rename_i r' he; cases e; exact (eqv_ok he I rx ry hu).2 K
    · cases e
  | In => exact (inn_ok e I rx ry).1 K
  | NotIn =>
    simp only [cmpo] at e
    split at e
    · rename_i r' he; cases e; exact (inn_ok he I rx ry).2 K
    · cases e
  | Lt =>
    obtain ⟨m, n, t, u, rfl, rfl, rfl, rfl⟩ := two_ok e rx ry
    cases e
    exact PyProof.Rows.lt_int (by rw [ltB_eq] at K; exact K)
  | LtE =>
    obtain ⟨m, n, t, u, rfl, rfl, rfl, rfl⟩ := two_ok e rx ry
    cases e
    exact PyProof.Rows.le_int (by rw [leB_eq] at K; exact K)
  | Gt =>
    obtain ⟨m, n, t, u, rfl, rfl, rfl, rfl⟩ := two_ok e rx ry
    cases e
    exact PyProof.Rows.gt_int (by rw [ltB_eq] at K; exact K)
  | GtE =>
    obtain ⟨m, n, t, u, rfl, rfl, rfl, rfl⟩ := two_ok e rx ry
    cases e
    exact PyProof.Rows.ge_int (by rw [leB_eq] at K; exact K)
  | Is => cases e
  | IsNot => cases e

/-! iterators -/
theorem small_of_tiny {a b c : Int} (ha : tiny a = true) (hb : tiny b = true) (hc : tiny c = true) : Builtin.Range.small a b c = true := by
  have ha := tiny_lt ha; have hb := tiny_lt hb; have hc := tiny_lt hc
  have h1 := rangeSize_toNat a b c
  have h2 := rangeSize_toNat_le a b c
  unfold Builtin.Range.small Builtin.Range.rangeFitsLong
  simp only [Bool.and_eq_true, Bool.or_eq_true, decide_eq_true_eq, beq_iff_eq]
  refine ⟨⟨⟨⟨⟨by omega, by omega⟩, ⟨by omega, by omega⟩⟩, ⟨by omega, by omega⟩⟩, ⟨by omega, by omega⟩⟩, .inr ?_⟩
  split <;> simp only [Bool.and_eq_true, decide_eq_true_eq] <;> omega
theorem itr_ok {x : V} {i : Nat} {v : Value} {Q : Value → Shared → Prop} (e : itr x h = some (i, h')) (I : Inv C h₀ L ρ vs h s.heap) (r : VR C ρ x v)
    (K : Post C h₀ L ρ vs h' s (.ref i) Q) : wpAny (model C.prog C.w) A (pyIter v) Q E s := by
  cases x with
  | ref j =>
    obtain ⟨a, hj, rfl⟩ := r
    simp only [itr] at e
    split at e
    · rename_i xs hx
      cases e
      obtain ⟨ws, l1, q1⟩ := I.obj hx trivial hj
      exact wpAny_pyIter_list l1.isList (K.push (t := s.toks) I ⟨a, pre_get ⟨_, rfl⟩ hj, ⟨_, Heap.get?_push_size _ rfl, rfl, rfl⟩⟩)
    · rename_i xs hx
      cases e
      obtain ⟨ws, l1, q1⟩ := I.obj hx trivial hj
      exact wpAny_pyIter_list l1 (K.push (t := s.toks) I ⟨a, pre_get ⟨_, rfl⟩ hj, ⟨_, Heap.get?_push_size _ rfl, rfl, rfl⟩⟩)
    · rename_i x y z hx
      obtain ⟨g, e⟩ := gd_some e
      cases e
      simp only [Bool.and_eq_true] at g
      obtain ⟨t, u, w, hr⟩ := I.obj hx trivial hj
      refine wpAny_pyIter_range hr (small_of_tiny g.1.1 g.1.2 g.2) ?_
      have q := rangeSize_toNat x y z
      refine K.push (t := s.toks) I ?_
      show IsRangeIter _ _ _ _ _
      rw [← q]
      exact Heap.get?_push_size _ rfl
    · rename_i J k hx
      cases e
      obtain ⟨b, old, hb, he⟩ := I.obj hx trivial hj
      exact wpAny_pyIter_enum he (K.same I ⟨a, hj, rfl⟩)
    · cases e
  | _ => cases e
theorem cast_pred (left : Nat) : ((left + 1 : Nat) : Int) - 1 = (left : Int) := by omega
theorem set_own {i : Nat} {o o' : O} (e : h.set i o = some h') (ho : h.obj i = some o') : h.get i = some ⟨true, o'⟩ ∧ h' = h.put i ⟨true, o⟩ := by
  obtain ⟨o'', hg, rfl⟩ := set_some e
  rw [Hp.obj_eq] at ho
  rw [hg] at ho
  cases ho
  exact ⟨hg, rfl⟩
theorem notFreed {H : Heap} {a : Addr} {o : Obj} (e : H.get? a = some o) : o.isFreed = false := (Heap.get?_some_iff.mp e).2
theorem go_name {M : Model} {x : Str} {p : Pos} {it v : Value} {Q : Unit → Shared → Prop} (k : Q () s) : wpAny M A (letOwnedTupleGo (.Name x p) it v) Q E s := wpAny_pure k
theorem go_list {t : Expr} {I l : Addr} {i : Nat} {v : Value} {Q : Unit → Shared → Prop} (ht : (∃ x p, t = .Name x p) ∨ ∃ es k p, t = .Tuple es k p) (hit : s.heap.IsListIter I l i) (k : Q () s) :
    wpAny (model C.prog C.w) A (letOwnedTupleGo t (.ref I) v) Q E s := by
  rcases ht with ⟨x, p, rfl⟩ | ⟨es, n, p, rfl⟩
  · exact go_name k
  · cases v with
    | ref T => exact wpAny_letOwnedTupleGo_listiter hit k
    | _ => exact wpAny_pure k
theorem go_int {t : Expr} {it : Value} {i : Int} {u : Tok} {Q : Unit → Shared → Prop} (ht : (∃ x p, t = .Name x p) ∨ ∃ es k p, t = .Tuple es k p) (k : Q () s) :
    wpAny (model C.prog C.w) A (letOwnedTupleGo t it (.int i u)) Q E s := by
  rcases ht with ⟨x, p, rfl⟩ | ⟨es, n, p, rfl⟩
  · exact go_name k
  · cases it <;> exact wpAny_pure k
theorem nxt_ok {tt : Bool} {i : Nat} {a : Addr} {t : Expr} {o : Option V} {Kn : Shared → Prop} {P : Value → Shared → Prop} (e : nxt tt i h = some (o, h')) (I : Inv C h₀ L ρ vs h s.heap) (hi : ρ[i]? = some a)
    (ht : (∃ x p, t = .Name x p) ∨ ∃ es k p, t = .Tuple es k p) (htt : tt = true → ∃ es k p, t = .Tuple es k p) (hh : A.handled = none)
    (KN : o = none → PostU C h₀ L ρ vs h' s Kn) (KS : ∀ x, o = some x → Post C h₀ L ρ vs h' s x P) :
    wpAny (model C.prog C.w) A (pyNext (.ref a)) (fun r s₁ => match r with
      | none => Kn s₁
      | some v => wpAny (model C.prog C.w) A (letOwnedTupleGo t (.ref a) v) (fun _ s₂ => P v s₂) E s₁) E s := by
  unfold nxt at e
  split at e
  · rename_i l k hx
    obtain ⟨b, hb, hit⟩ := I.obj hx trivial hi
    split at e
    · rename_i xs hl
      obtain ⟨ws, l1, q1⟩ := I.lst hl hb
      rw [nth_get] at e
      split at e
      · rename_i x hx'
        split at e
        · rename_i h1 hs
          cases e
          obtain ⟨hg, rfl⟩ := set_own hs hx
          obtain ⟨v, hv, rv⟩ := q1.get hx'
          refine wpAny_pyNext_list_item hit l1 (by simpa using hv) fun H' hit' hs' => ?_
          refine go_list ht hit' ?_
          exact KS x rfl ρ _ v (pre_refl ρ) ⟨rfl, rfl, rfl⟩ (I.set hg trivial hi (fun c y hc q => (hs'.2 c hc).trans q) ⟨b, hb, hit'⟩) rv
        · cases e
      · rename_i hx'
        split at e
        · rename_i h1 hs
          cases e
          obtain ⟨hg, rfl⟩ := set_own hs hx
          refine wpAny_pyNext_list_end hh hit l1 (by simpa using q1.none hx') fun H' he => ?_
          exact KN rfl ρ _ (pre_refl ρ) ⟨rfl, rfl, rfl⟩ (I.set hg trivial hi (fun c y hc q => he c y hc q) trivial)
        · cases e
    · cases e
  · rename_i x left step hx
    have hit : IsRangeIter s.heap a x left step := I.obj hx trivial hi
    cases left with
    | succ left =>
      simp only at e
      split at e
      · rename_i h1 hs
        cases e
        obtain ⟨hg, rfl⟩ := set_own hs hx
        refine wpAny_pyNext_range_item hit (by omega) fun H' hit' hs' => ?_
        refine go_int ht ?_
        refine KS _ rfl ρ _ _ (pre_refl ρ) ⟨rfl, rfl, rfl⟩ (I.set hg trivial hi (fun c y hc q => (hs'.2 c hc).trans q) ?_) ⟨_, rfl⟩
        have e1 : ((left + 1 : Nat) : Int) - 1 = (left : Int) := by omega
        rw [e1] at hit'
        exact hit'
      · cases e
    | zero =>
      simp only at e
      split at e
      · rename_i h1 hs
        cases e
        obtain ⟨hg, rfl⟩ := set_own hs hx
        refine wpAny_pyNext_range_end hh hit (by omega) fun H' he => ?_
        exact KN rfl ρ _ (pre_refl ρ) ⟨rfl, rfl, rfl⟩ (I.set hg trivial hi (fun c y hc q => he c y hc q) trivial)
      · cases e
  · rename_i J k hx
    obtain ⟨b, old, hb, he⟩ := I.obj hx trivial hi
    split at e
    · rename_i l k' hJ
      obtain ⟨g, e2⟩ := gd_some e
      clear e
      simp only [Bool.and_eq_true, Bool.not_eq_true'] at g
      obtain ⟨g1, g2, g3⟩ := g
      have hk : k = k' := Nat.eq_of_beq_eq_true g2
      subst hk
      have hne : i ≠ J := fun z => by rw [z, Nat.beq_refl] at g3; cases g3
      obtain ⟨es, n, p, rfl⟩ := htt g1
      obtain ⟨c, hc, hit⟩ := I.obj hJ trivial hb
      split at e2
      · rename_i xs hl
        obtain ⟨ws, l1, q1⟩ := I.lst hl hc
        rw [nth_get] at e2
        split at e2
        · rename_i x hx'
          split at e2
          · rename_i h1 hs1
            split at e2
            · rename_i h2 hs2
              cases e2
              obtain ⟨hg1, rfl⟩ := set_own hs1 hJ
              obtain ⟨o2, hg2, rfl⟩ := set_some hs2
              rw [get_put hg1, if_neg hne] at hg2
              have ho2 : o2 = .eit J k := by
                rw [Hp.obj_eq] at hx
                rw [hg2] at hx
                cases hx; rfl
              subst ho2
              have hab : a ≠ b := fun z => hne (I.sep i J _ _ a hg2 hg1 rfl trivial trivial hi (z ▸ hb))
              obtain ⟨v, hv, rv⟩ := q1.get hx'
              refine wpAny_pyNext_enum_item he hit l1 (by simpa using hv) hab fun H' heo hit' ht' hz hk' => ?_
              refine wpAny_letOwnedTupleGo_enum heo fun H2 he2 hs2' => ?_
              replace hs2' : Heap.SameBut a H' H2 := hs2'
              have aS : a ≠ s.heap.objs.size := fun z => by rw [z] at he; have := size_none s.heap; rw [he] at this; cases this
              have bS : b ≠ s.heap.objs.size := fun z => by
                obtain ⟨y, hy, _⟩ := hit
                have := size_none s.heap
                rw [← z, hy] at this; cases this
              obtain ⟨ob, hob, _⟩ := id hit'
              obtain ⟨ob0, hob0, _⟩ := id hit
              have hne' : b ≠ a := Ne.symm hab
              have b2 : H2.get? b = some ob := (hs2'.2 b hne').trans hob
              have fo : ob.isFreed = false := notFreed hob
              have I1 : Inv C h₀ L ρ vs (h.put J ⟨true, .lit l (k + 1)⟩) (s.heap.update b fun _ => ob) := by
                refine I.set hg1 trivial hb (fun d y hd q => (Heap.get?_update_ne _ _ _ _ hd).trans q) ⟨c, hc, ?_⟩
                obtain ⟨y, hy, r⟩ := hit'
                rw [hob] at hy; cases hy
                exact ⟨ob, Heap.get?_update_self _ hob0 fo, r⟩
              have hg2' : (h.put J ⟨true, .lit l (k + 1)⟩).get i = some ⟨true, .eit J k⟩ := by rw [get_put hg1, if_neg hne]; exact hg2
              have he0 : (s.heap.update b fun _ => ob).get? a = some _ := (Heap.get?_update_ne _ _ _ _ hab).trans he
              have I2 := I1.set (o := .eit J (k + 1)) (H' := (s.heap.update b fun _ => ob).update a fun _ => { cls := .type "enumerate", dict := none, data := .fields #[.none, .bool false, .ref b, rawInt ((k : Int) + 1), .none, v], slots := #[] }) hg2' trivial hi
                (fun d y hd q => (Heap.get?_update_ne _ _ _ _ hd).trans q) ⟨b, v, hb, Heap.get?_update_self _ he0 rfl⟩
              refine KS _ rfl (ρ ++ [s.heap.objs.size]) _ _ ⟨_, rfl⟩ ⟨rfl, rfl, rfl⟩ (I2.new (a := s.heap.objs.size) ?_ ?_ ?_) ⟨_, by rw [show ((h.put J ⟨true, .lit l (k + 1)⟩).put i ⟨true, .eit J (k + 1)⟩).n = h.n from rfl, ← I.len]; simp, rfl⟩
              · intro d y q
                by_cases hd : d = a
                · subst hd
                  rw [Heap.get?_update_self _ he0 rfl] at q
                  cases q
                  exact he2
                · rw [Heap.get?_update_ne _ _ _ _ hd] at q
                  by_cases hd' : d = b
                  · subst hd'
                    rw [Heap.get?_update_self _ hob0 fo] at q
                    cases q; exact b2
                  · rw [Heap.get?_update_ne _ _ _ _ hd'] at q
                    exact (hs2'.2 d hd).trans (hk' d y hd hd' q)
              · rw [Heap.get?_update_ne _ _ _ _ (Ne.symm aS), Heap.get?_update_ne _ _ _ _ (Ne.symm bS)]
                exact size_none _
              · refine ⟨[.int k s.toks, v], ⟨_, (hs2'.2 _ (Ne.symm aS)).trans ht', rfl, _, rfl⟩, ⟨_, rfl⟩, rv.mono C ⟨_, rfl⟩, trivial⟩
            · cases e2
          · cases e2
        · rename_i hx'
          split at e2
          · rename_i h1 hs1
            split at e2
            · rename_i h2 hs2
              cases e2
              obtain ⟨hg1, rfl⟩ := set_own hs1 hJ
              obtain ⟨o2, hg2, rfl⟩ := set_some hs2
              rw [get_put hg1, if_neg hne] at hg2
              have ho2 : o2 = .eit J k := by
                rw [Hp.obj_eq] at hx
                rw [hg2] at hx
                cases hx; rfl
              subst ho2
              refine wpAny_pyNext_enum_end hh he hit l1 (by simpa using q1.none hx') fun H' he' => ?_
              refine KN rfl ρ _ (pre_refl ρ) ⟨rfl, rfl, rfl⟩ ?_
              have I1 : Inv C h₀ L ρ vs (h.put J ⟨true, .dead⟩) H' := I.set hg1 trivial hb (fun c y hc q => he' c y hc q) trivial
              have hg2' : (h.put J ⟨true, .dead⟩).get i = some ⟨true, .eit J k⟩ := by rw [get_put hg1, if_neg hne]; exact hg2
              exact I1.set hg2' trivial hi (fun c y _ q => q) trivial
            · cases e2
          · cases e2
      · cases e2
    · cases e
  · cases e
end Mj

namespace Mj
open PySem PySem.Calls PyProof.Rows

noncomputable def SlotOK (ρ : List Addr) (env : Env) (k : Nat) : Slot → Prop
  | .loc _ => env.kindOf (nm k) = some .local
  | .cel i => env.kindOf (nm k) = some .cell ∧ ∃ c, env.cells.lookup (nm k) = some c ∧ ρ[i]? = some c
  | .glo => env.kindOf (nm k) = some .globalImplicit
structure EnvOK (L : Addr) (ρ : List Addr) (vs : Vars) (env : Env) : Prop where
  kind : env.scope.kind = .function
  loc : env.locals = L
  glb : env.globals = mainGlobals
  bui : env.builtins = builtinsNs
  names : ∀ k sl, lk k vs = some sl → SlotOK ρ env k sl
theorem SlotOK.mono {ρ ρ' : List Addr} (p : ρ <+: ρ') {env : Env} {k : Nat} {sl : Slot} (h : SlotOK ρ env k sl) : SlotOK ρ' env k sl := by
  cases sl with
  | cel i => obtain ⟨h1, c, h2, h3⟩ := h; exact ⟨h1, c, h2, pre_get p h3⟩
  | _ => exact h
theorem EnvOK.mono {L : Addr} {ρ ρ' : List Addr} {vs : Vars} {env : Env} (p : ρ <+: ρ') (h : EnvOK L ρ vs env) : EnvOK L ρ' vs env :=
  ⟨h.kind, h.loc, h.glb, h.bui, fun k sl e => (h.names k sl e).mono p⟩
theorem EnvOK.up {L : Addr} {ρ : List Addr} {vs : Vars} {env : Env} (h : EnvOK L ρ vs env) {k : Nat} {o : Option V} {x : V} (e : lk k vs = some (.loc o)) : EnvOK L ρ (up k (.loc (some x)) vs) env :=
  ⟨h.kind, h.loc, h.glb, h.bui, fun j sl q => by
    rw [lk_up k _ vs j (by rw [e]; rfl)] at q
    by_cases hj : j = k
    · subst hj; rw [if_pos rfl] at q; cases q
      have ok := h.names j (.loc o) e
      exact ok
    · rw [if_neg hj] at q; exact h.names j sl q⟩

/-- the built-in names' values -/
noncomputable def bval (b : Nat) : Value := match b with
  | 0 => .builtin "len"
  | 1 => .type "range"
  | 2 => .type "enumerate"
  | 3 => .builtin "sum"
  | 4 => .builtin "min"
  | 5 => .builtin "abs"
  | _ => .type "int"
structure FnOK (C : Ctx) (k : Nat) (f : Fn) : Prop where
  ex : ∃ o fd, C.b.get? (C.fa k) = some o ∧ o.data = .func fd ∧ fd.body = .stmts (pyb f.body) ∧ fd.scope.names = pyNames f.sc ∧ fd.scope.kind = .function ∧ fd.scope.isGenerator = false ∧ fd.scope.isCoroutine = false ∧
    fd.globals = mainGlobals ∧ fd.builtins = builtinsNs ∧ fd.closure = [] ∧ C.b.CodeRec fd.code fd.qualname ∧
    ∀ ws : List Value, ws.length = f.ps.length → bindArgs fd ⟨ws, []⟩ = pure ((f.ps.map fun p => nm p.1).zip ws)
  hk : ∀ x ∈ f.sc, (pyNames f.sc).lookup (nm x.1) = some x.2.py
  nd : ((cellsFrom 0 (pyNames f.sc) []).map (·.1)).Nodup
  pk : ∀ p ∈ f.ps, (pyNames f.sc).lookup (nm p.1) = some .local ∨ (pyNames f.sc).lookup (nm p.1) = some .cell
structure Base (C : Ctx) (fns : List (Nat × Fn)) : Prop where
  ns : C.b.Ns mainGlobals C.mg
  bn : C.b.Ns builtinsNs C.mb
  fn : ∀ k, k < 38 → C.mg (nm k) = some (.ref (C.fa k))
  nought : ∃ a, C.ρ0[0]? = some a ∧ C.mg (nm 38) = some (.ref a)
  unit : ∃ a, C.ρ0[2]? = some a ∧ C.mg (nm 39) = some (.ref a)
  bmg : ∀ b, b < 7 → C.mg (bname b) = none
  bmb : ∀ b, b < 7 → C.mb (bname b) = some (bval b)
  lim : C.b.NoLimit
  fns : ∀ k f, lk k fns = some f → FnOK C k f
theorem nm_debug (k : Nat) : (nm k == ("__debug__" : Str)) = false := by
  have all : (names.all fun s => !(s == ("__debug__" : Str))) = true := by decide +kernel
  unfold nm
  split
  · rename_i s e
    have := List.all_eq_true.mp all s (List.mem_of_getElem? e)
    simpa using this
  · have : (⟨#[k + 2000000]⟩ : Str) ≠ ("__debug__" : Str) := fun e => by
      have h : (#[k + 2000000] : Array Nat).size = ("__debug__" : Str).cps.size := congrArg (fun s : Str => s.cps.size) e
      have h1 : (#[k + 2000000] : Array Nat).size = 1 := rfl
      have h2 : ("__debug__" : Str).cps.size = 9 := by decide +kernel
      rw [h1, h2] at h
      cases h
    exact beq_eq_false_iff_ne.mpr this

variable {C : Ctx} {fns : List (Nat × Fn)} {A : Around} {E : Value → Shared → Prop} {s : Shared} {h₀ : Heap} {L : Addr} {ρ : List Addr} {vs : Vars} {h h' : Hp} {env : Env}
theorem glov_ok {k : Nat} {x : V} (B : Base C fns) (e : glov k = some x) : ∃ v, C.mg (nm k) = some v ∧ VR C C.ρ0 x v := by
  unfold glov at e
  cases h1 : Nat.blt k 38 with
  | true =>
    rw [h1] at e; cases e
    exact ⟨_, B.fn k (Nat.le_of_ble_eq_true h1), rfl⟩
  | false =>
    rw [h1] at e
    cases h2 : Nat.beq k 38 with
    | true =>
      simp only [h2] at e; cases e
      have := Nat.eq_of_beq_eq_true h2
      subst this
      obtain ⟨a, ha, hm⟩ := B.nought
      exact ⟨_, hm, a, ha, rfl⟩
    | false =>
      simp only [h2] at e
      cases h3 : Nat.beq k 39 with
      | true =>
        simp only [h3] at e; cases e
        have := Nat.eq_of_beq_eq_true h3
        subst this
        obtain ⟨a, ha, hm⟩ := B.unit
        exact ⟨_, hm, a, ha, rfl⟩
      | false => simp only [h3] at e; cases e
theorem stays (hb : C.b.StaysIn h₀) (I : Inv C h₀ L ρ vs h s.heap) : ∀ b o, C.b.get? b = some o → s.heap.get? b = some o := fun b o e => by
  obtain ⟨m, F, _⟩ := I.fr
  exact F.keep b o (hb b o e)
theorem nam_ok {k : Nat} {p : Pos} {x : V} {Q : Value → Shared → Prop} (B : Base C fns) (e : evNam vs k h = some (x, h')) (hb : C.b.StaysIn h₀) (V : EnvOK L ρ vs env) (I : Inv C h₀ L ρ vs h s.heap)
    (K : Post C h₀ L ρ vs h' s x Q) : wpAny (model C.prog C.w) A (eval (.Name (nm k) p) env) Q E s := by
  rw [evNam_eq] at e
  split at e
  · rename_i sl hk
    have ok := V.names k sl hk
    split at e
    · split at e
      · rename_i v
        cases e
        obtain ⟨m, F, hm⟩ := I.fr
        obtain ⟨w, hw, r⟩ := hm k _ hk
        have n := F.ns
        rw [← V.loc] at n
        exact wpAny_Name (wpAny_loadName_local V.kind ok n hw (K.same I r)) (nm_debug k)
      · cases e
    · rename_i i
      obtain ⟨ok, c, hc, hi⟩ := ok
      split at e
      · rename_i x' hx
        cases e
        obtain ⟨w, hw, r⟩ := I.obj hx trivial hi
        exact wpAny_Name (wpAny_loadName_cell V.kind ok hc hw (K.same I r)) (nm_debug k)
      · cases e
    · split at e
      · rename_i x' hx
        cases e
        obtain ⟨v, hv, r⟩ := glov_ok B hx
        have n : s.heap.Ns env.globals C.mg := by rw [V.glb]; exact B.ns.keeps (stays hb I)
        exact Name_function_global V.kind ok (loadGlobal_global n hv (K.same I (r.mono C I.pre))) (nm_debug k)
      · cases e
  · cases e
theorem bname_ok {b : Nat} {p : Pos} {Q : Value → Shared → Prop} (B : Base C fns) (hb7 : b < 7) (hk : lk (bid b) vs = some .glo) (hb : C.b.StaysIn h₀) (V : EnvOK L ρ vs env) (I : Inv C h₀ L ρ vs h s.heap)
    (K : Q (bval b) s) : wpAny (model C.prog C.w) A (eval (.Name (bname b) p) env) Q E s := by
  have ok : env.kindOf (bname b) = some .globalImplicit := V.names _ _ hk
  have n : s.heap.Ns env.globals C.mg := by rw [V.glb]; exact B.ns.keeps (stays hb I)
  have n' : s.heap.Ns env.builtins C.mb := by rw [V.bui]; exact B.bn.keeps (stays hb I)
  exact Name_function_global V.kind ok (loadGlobal_builtin n (B.bmg b hb7) n' (B.bmb b hb7) K) (nm_debug _)

/-! storing -/
theorem kindp (V : EnvOK L ρ vs env) : (env.scope.kind == .class || (env.scope.kind == .module && env.locals != env.globals)) = false := by rw [V.kind]; rfl
theorem sto_ok {k : Nat} {x : V} {v : Value} {vs' : Vars} {Q : Unit → Shared → Prop} (e : sto k x vs h = some (vs', h')) (V : EnvOK L ρ vs env) (I : Inv C h₀ L ρ vs h s.heap) (r : VR C ρ x v)
    (K : ∀ s', EnvOK L ρ vs' env → Rest s s' → Inv C h₀ L ρ vs' h' s'.heap → Q () s') : wpAny (model C.prog C.w) A (storeName env (nm k) v) Q E s := by
  rw [sto_eq] at e
  split at e
  · rename_i o hk
    cases e
    obtain ⟨m, F, hm⟩ := I.fr
    have n := F.ns
    rw [← V.loc] at n
    refine wpAny_storeName_local (V.names k _ hk) n (fun H' hn hs => ?_) (kindp V)
    rw [V.loc] at hn hs
    exact K _ (V.up hk) ⟨rfl, rfl, rfl⟩ (I.loc F hm hk r hn hs)
  · rename_i i hk
    split at e
    · rename_i o hx
      split at e
      · rename_i h1 hs
        cases e
        obtain ⟨hg, rfl⟩ := set_own hs hx
        obtain ⟨ok, c, hc, hi⟩ := V.names k _ hk
        have cell : ∃ v₀, s.heap.IsCell c v₀ := by
          have := I.obj hx trivial hi
          cases o with
          | none => exact ⟨_, this⟩
          | some y => obtain ⟨w, hw, _⟩ := this; exact ⟨_, hw⟩
        obtain ⟨v₀, hv₀⟩ := cell
        refine wpAny_storeName_cell V.kind ok hc hv₀ fun H' hn hs' => ?_
        exact K _ V ⟨rfl, rfl, rfl⟩ (I.set hg trivial hi (fun b y hb q => (hs'.2 b hb).trans q) ⟨v, hn, r⟩)
      · cases e
    · cases e
  · cases e
theorem assign_nam {k : Nat} {p : Pos} {x : V} {v : Value} {vs' : Vars} {Q : Unit → Shared → Prop} (e : sto k x vs h = some (vs', h')) (V : EnvOK L ρ vs env) (I : Inv C h₀ L ρ vs h s.heap) (r : VR C ρ x v)
    (K : ∀ s', EnvOK L ρ vs' env → Rest s s' → Inv C h₀ L ρ vs' h' s'.heap → Q () s') : wpAny (model C.prog C.w) A (assign (.Name (nm k) p) env v) Q E s :=
  wpAny_assign_Name (sto_ok e V I r K)
theorem assignEach_py : ∀ es : List Ex, assignEach (pys es) env = es.map fun e => (false, assign e.py env)
  | [] => rfl
  | e :: r => by
    have ih := assignEach_py r
    cases e <;> (simp only [pys, Ex.py, List.map_cons]; rw [← ih]; rfl)
theorem stos_ok : ∀ {ts : List Ex} {xs : List V} {ws : List Value} {vs vs' : Vars} {h h' : Hp} {s : Shared} {Q : Unit → Shared → Prop}, stos ts xs vs h = some (vs', h') → EnvOK L ρ vs env → Inv C h₀ L ρ vs h s.heap → VRs C ρ xs ws →
    (∀ s', EnvOK L ρ vs' env → Rest s s' → Inv C h₀ L ρ vs' h' s'.heap → Q () s') → wpAny (model C.prog C.w) A (assignInOrder (ts.map fun e => assign e.py env) ws) Q E s
  | [], [], [], vs, vs', h, h', s, Q, e, V, I, _, K => by
    cases e
    exact wpAny_pure (K s V (Rest.refl s) I)
  | t :: ts, x :: xs, w :: ws, vs, vs', h, h', s, Q, e, V, I, r, K => by
    rw [stos_cons] at e
    split at e
    · rename_i k p
      obtain ⟨vs1, h1, e1, e2⟩ := bd_some e
      show wpAny _ _ (do holding ws (assign (.Name (nm k) p) env w); assignInOrder (ts.map fun e => assign e.py env) ws) Q E s
      refine wpAny_bind (wpAny_holding (assign_nam e1 V I r.1 fun s1 V1 R1 I1 => ?_))
      exact stos_ok e2 V1 I1 r.2 fun s2 V2 R2 I2 => K s2 V2 (R1.trans R2) I2
    · cases e
  | [], _ :: _, _, _, _, _, _, _, _, e, _, _, _, _ => by cases e
  | _ :: _, [], _, _, _, _, _, _, _, e, _, _, _, _ => by cases e
  | [], [], _ :: _, _, _, _, _, _, _, _, _, _, r, _ => r.elim
  | _ :: _, _ :: _, [], _, _, _, _, _, _, _, _, _, r, _ => r.elim
theorem isTuple_of {H : Heap} {a : Addr} {items : Array Value} (h : IsTup H a items) : H.IsTuple a items := h
theorem stos_len : ∀ {ts : List Ex} {xs : List V} {vs : Vars} {h : Hp} {r : Vars × Hp}, stos ts xs vs h = some r → ts.length = xs.length
  | [], [], _, _, _, _ => rfl
  | t :: ts, x :: xs, vs, h, r, e => by
    rw [stos_cons] at e
    split at e
    · obtain ⟨vs1, h1, _, e2⟩ := bd_some e
      simp [stos_len e2]
    · cases e
  | [], _ :: _, _, _, _, e => by cases e
  | _ :: _, [], _, _, _, e => by cases e
theorem assign_tup {ts : List Ex} {n : Nat} {p : Pos} {xs : List V} {a : Addr} {i : Nat} {vs' : Vars} {Q : Unit → Shared → Prop} (hx : h.obj i = some (.tup xs)) (hi : ρ[i]? = some a) (e : stos ts xs vs h = some (vs', h')) (hh : A.handled = none)
    (V : EnvOK L ρ vs env) (I : Inv C h₀ L ρ vs h s.heap)
    (K : ∀ s', EnvOK L ρ vs' env → Rest s s' → Inv C h₀ L ρ vs' h' s'.heap → Q () s') : wpAny (model C.prog C.w) A (assign (.Tuple (pys ts) n p) env (.ref a)) Q E s := by
  obtain ⟨ws, t1, q1⟩ := I.obj hx trivial hi
  refine wpAny_assign_Tuple hh (isTuple_of t1) ?_ ?_ fun H' he => ?_
  · rw [assignEach_py, List.length_map, stos_len e]
    simp [q1.length]
  · rw [assignEach_py, List.findIdx?_eq_none_iff]
    intro x hx
    obtain ⟨y, _, rfl⟩ := List.mem_map.mp hx
    rfl
  · rw [assignEach_py, List.map_map]
    have I' : Inv C h₀ L ρ vs h H' := I.sub fun b o q => he b o (Nat.ne_of_lt (Heap.lt_size q)) q
    exact stos_ok (s := { s with heap := H' }) e V I' q1 fun s2 V2 R2 I2 => K s2 V2 ⟨R2.1, R2.2.1, R2.2.2⟩ I2
theorem tgt_ok {t : Ex} {x : V} {v : Value} {vs' : Vars} {Q : Unit → Shared → Prop} (e : tgt t x vs h = some (vs', h')) (hh : A.handled = none) (V : EnvOK L ρ vs env) (I : Inv C h₀ L ρ vs h s.heap) (r : VR C ρ x v)
    (K : ∀ s', EnvOK L ρ vs' env → Rest s s' → Inv C h₀ L ρ vs' h' s'.heap → Q () s') : wpAny (model C.prog C.w) A (assign t.py env v) Q E s := by
  unfold tgt at e
  split at e
  · exact assign_nam e V I r K
  · split at e
    · split at e
      · rename_i xs hx
        obtain ⟨a, ha, rfl⟩ := r
        exact assign_tup hx ha e hh V I K
      · cases e
    · cases e
  · cases e
end Mj

namespace Mj
open PySem PySem.Calls PyProof.Rows
variable {prog : Program} {w : World} {A : Around} {R : Result → Shared → Prop} {s : Shared}
noncomputable abbrev Nt (prog : Program) (w : World) (A : Around) (env : Env) (R : Result → Shared → Prop) : Value → Shared → Prop := notedBy (model prog w) A env fun e s' => R (.error e) s'
theorem while_turn {test : Expr} {body : List Stmt} {env : Env}
    (h : wpAny (model prog w) A (isTrue test env (eval test env)) (fun b s₂ => match b with
      | true => wpAny (model prog w) A (execs body env) (fun f s₃ => match f with
        | .next => codeAny (model prog w) A (.whileLoop test body [] env) R s₃
        | .cont => codeAny (model prog w) A (.whileLoop test body [] env) R s₃
        | .brk => R (.ok .next) s₃
        | .ret v => R (.ok (.ret v)) s₃) (Nt prog w A env R) s₂
      | false => R (.ok .next) s₂) (Nt prog w A env R) s) : codeAny (model prog w) A (.whileLoop test body [] env) R s := by
  refine codeAny_of_tree ?_
  show wpAny _ A ((whileTurn test body [] env).onRaise (fun x => do noteFrame x env; theTreesLotGoes x)) _ _ s
  refine wpAny_noted ?_
  simp only [whileTurn]
  refine wpAny_bind (wpAny_mono h (fun b s₂ h₂ => ?_) fun _ _ h' => h')
  cases b with
  | false =>
    simp only [Bool.false_eq_true, if_false] at h₂ ⊢
    exact wpAny_bind (wpAny_execs_nil (wpAny_pure h₂))
  | true =>
    simp only [if_true] at h₂ ⊢
    refine wpAny_bind (wpAny_mono h₂ (fun f s₃ h₃ => ?_) fun _ _ h' => h')
    cases f with
    | next => exact wpAny_pure ⟨rfl, h₃⟩
    | cont => exact wpAny_pure ⟨rfl, h₃⟩
    | brk => exact wpAny_pure h₃
    | ret v => exact wpAny_pure h₃
theorem for_turn {target : Expr} {it : Value} {body : List Stmt} {env : Env}
    (h : wpAny (model prog w) A (pyNext it) (fun r s₁ => match r with
      | none => R (.ok .next) s₁
      | some v => wpAny (model prog w) A (letOwnedTupleGo target it v) (fun _ s₁' =>
          wpAny (model prog w) A (assign target env v) (fun _ s₂ => wpAny (model prog w) A (execs body env) (fun f s₃ => match f with
            | .next => codeAny (model prog w) A (.forLoop target it body [] env) R s₃
            | .cont => codeAny (model prog w) A (.forLoop target it body [] env) R s₃
            | .brk => R (.ok .next) s₃
            | .ret v => R (.ok (.ret v)) s₃) (Nt prog w A env R) s₂) (Nt prog w A env R) s₁') (Nt prog w A env R) s₁) (Nt prog w A env R) s) :
    codeAny (model prog w) A (.forLoop target it body [] env) R s := by
  refine codeAny_of_tree ?_
  show wpAny _ A ((forTurn target it body [] env).onRaise (fun x => do noteFrame x env; theTreesLotGoes x)) _ _ s
  refine wpAny_noted ?_
  simp only [forTurn]
  refine wpAny_bind (wpAny_standAt (wpAny_bind (wpAny_onRaise (wpAny_mono h (fun r s₁ h₁ => ?_) fun _ _ h' => wpAny_standAt h'))))
  cases r with
  | none => exact wpAny_pure ⟨rfl, codeAny_block (wpAny_execs_nil h₁)⟩
  | some v =>
    refine wpAny_bind (wpAny_mono h₁ (fun _ s₁' h₁' => ?_) fun _ _ h' => h')
    refine wpAny_bind (wpAny_mono h₁' (fun _ s₂ h₂ => wpAny_bind (wpAny_mono h₂ (fun f s₃ h₃ => ?_) fun _ _ h' => h')) fun _ _ h' => h')
    cases f with
    | next => exact wpAny_pure ⟨rfl, h₃⟩
    | cont => exact wpAny_pure ⟨rfl, h₃⟩
    | brk => exact wpAny_pure h₃
    | ret v => exact wpAny_pure h₃

noncomputable def compBody (e : Expr) (k : Nat) (t i : Expr) (ifs : List Expr) (inner : Sem Unit) (it acc : Value) (env : Env) : Sem Fin := do
      standAt i.pos
      match ← pyNext it with
      | none => pure (.done .next)
      | some v =>
        letOwnedTupleGo t it v
        assign t env v
        let mut ok := true
        for c in ifs do
          if ok then ok ← isTrue c env (eval c env)
        if ok then
          inner
        again (.compLoop e k it acc env)
theorem compTurn_last {elt t i : Expr} {ifs : List Expr} {gens : List Comprehension} {k : Nat} (scope : Scope) (pos : Pos) (it acc : Value) (env : Env) (hk : gens[k]? = some ⟨t, i, ifs, 0⟩) (hk1 : gens[k + 1]? = none) :
    compTurn (.ListComp elt gens scope pos) k it acc env = compBody (.ListComp elt gens scope pos) k t i ifs (do let _ ← call (.builtin "list.append") [acc, ← eval elt env]) it acc env := by
  unfold compTurn compBody
  simp only [hk, hk1]
  rfl
theorem compTurn_more {elt t i t2 i2 : Expr} {ifs ifs2 : List Expr} {gens : List Comprehension} {k : Nat} (scope : Scope) (pos : Pos) (it acc : Value) (env : Env) (hk : gens[k]? = some ⟨t, i, ifs, 0⟩) (hk1 : gens[k + 1]? = some ⟨t2, i2, ifs2, 0⟩) :
    compTurn (.ListComp elt gens scope pos) k it acc env = compBody (.ListComp elt gens scope pos) k t i ifs (do
      let x ← eval i2 env
      standAt i2.pos
      let x ← foldedSetIterable i2 env x
      let _ ← runOwn (.compStart (.ListComp elt gens scope pos) (k + 1) (← holding [x] (pyIter x)) acc env) env) it acc env := by
  unfold compTurn compBody
  simp only [hk, hk1]
  simp only [show ((0 : Int) != 0) = false from rfl, Bool.false_eq_true, if_false, bind_assoc, pure_bind]
  rfl
theorem comp_turn {elt t i : Expr} {ifs : List Expr} {gens : List Comprehension} {k : Nat} {scope : Scope} {pos : Pos} {it acc : Value} {env : Env} {inner : Sem Unit}
    (ht : compTurn (.ListComp elt gens scope pos) k it acc env = compBody (.ListComp elt gens scope pos) k t i ifs inner it acc env)
    (h : wpAny (model prog w) A (pyNext it) (fun r s₁ => match r with
      | none => R (.ok .next) s₁
      | some v => wpAny (model prog w) A (letOwnedTupleGo t it v) (fun _ s₁' => wpAny (model prog w) A (assign t env v) (fun _ s₂ =>
          wpAny (model prog w) A (forIn ifs true fun c r => if r = true then do let ok ← isTrue c env (eval c env); pure (ForInStep.yield ok) else pure (ForInStep.yield r)) (fun ok s₃ => match ok with
            | true => wpAny (model prog w) A inner (fun _ s₄ => codeAny (model prog w) A (.compLoop (.ListComp elt gens scope pos) k it acc env) R s₄) (Nt prog w A env R) s₃
            | false => codeAny (model prog w) A (.compLoop (.ListComp elt gens scope pos) k it acc env) R s₃) (Nt prog w A env R) s₂) (Nt prog w A env R) s₁') (Nt prog w A env R) s₁) (Nt prog w A env R) s) :
    codeAny (model prog w) A (.compLoop (.ListComp elt gens scope pos) k it acc env) R s := by
  refine codeAny_of_tree ?_
  show wpAny _ A ((compTurn (.ListComp elt gens scope pos) k it acc env).onRaise (fun x => do noteFrame x env; theTreesLotGoes x)) _ _ s
  refine wpAny_noted ?_
  rw [ht]
  unfold compBody
  refine wpAny_bind (wpAny_standAt (wpAny_bind (wpAny_mono h (fun r s₁ h₁ => ?_) fun _ _ h' => h')))
  cases r with
  | none => exact wpAny_pure h₁
  | some v =>
    refine wpAny_bind (wpAny_mono h₁ (fun _ s₁' h₁' => ?_) fun _ _ h' => h')
    refine wpAny_bind (wpAny_mono h₁' (fun _ s₂ h₂ => wpAny_bind (wpAny_mono h₂ (fun ok s₃ h₃ => ?_) fun _ _ h' => h')) fun _ _ h' => h')
    cases ok with
    | false => exact wpAny_pure ⟨rfl, h₃⟩
    | true => exact wpAny_bind (wpAny_mono h₃ (fun _ s₄ h₄ => wpAny_pure ⟨rfl, h₄⟩) fun _ _ h' => h')
theorem tests_nil {env : Env} {E : Value → Shared → Prop} {Q : Bool → Shared → Prop} (h : Q true s) :
    wpAny (model prog w) A (forIn ([] : List Expr) true fun c r => if r = true then do let ok ← isTrue c env (eval c env); pure (ForInStep.yield ok) else pure (ForInStep.yield r)) Q E s :=
  wpAny_pure h
theorem tests_off {env : Env} {E : Value → Shared → Prop} {Q : Bool → Shared → Prop} (h : Q false s) : ∀ l : List Expr,
    wpAny (model prog w) A (forIn l false fun c r => if r = true then do let ok ← isTrue c env (eval c env); pure (ForInStep.yield ok) else pure (ForInStep.yield r)) Q E s
  | [] => wpAny_pure h
  | c :: l => by
    simp only [List.forIn_cons, Bool.false_eq_true, if_false]
    exact wpAny_bind (wpAny_pure (tests_off h l))
theorem tests_cons {env : Env} {E : Value → Shared → Prop} {c : Expr} {l : List Expr} {Q : Bool → Shared → Prop}
    (h : wpAny (model prog w) A (isTrue c env (eval c env)) (fun b s₁ => match b with
      | true => wpAny (model prog w) A (forIn l true fun c r => if r = true then do let ok ← isTrue c env (eval c env); pure (ForInStep.yield ok) else pure (ForInStep.yield r)) Q E s₁
      | false => Q false s₁) E s) :
    wpAny (model prog w) A (forIn (c :: l) true fun c r => if r = true then do let ok ← isTrue c env (eval c env); pure (ForInStep.yield ok) else pure (ForInStep.yield r)) Q E s := by
  simp only [List.forIn_cons, if_true]
  refine wpAny_bind (wpAny_bind (wpAny_mono h (fun b s' hb => ?_) fun _ _ x => x))
  cases b with
  | true => exact wpAny_pure hb
  | false => exact wpAny_pure (tests_off hb l)
theorem comp_start {elt t i : Expr} {ifs : List Expr} {gens : List Comprehension} {k : Nat} {scope : Scope} {pos : Pos} {it acc : Value} {env : Env} (hk : gens[k]? = some ⟨t, i, ifs, 0⟩)
    (h0 : codeAny (model prog w) A (.compLoop (.ListComp elt gens scope pos) k it acc env) R s)
    (h : wpAny (model prog w) A (pyIter it) (fun it' s' => codeAny (model prog w) A (.compLoop (.ListComp elt gens scope pos) k it' acc env) R s') (Nt prog w A env R) s) :
    codeAny (model prog w) A (.compStart (.ListComp elt gens scope pos) k it acc env) R s := by
  refine codeAny_of_tree ?_
  show wpAny _ _ ((compStart (.ListComp elt gens scope pos) k it acc env).onRaise (fun x => do noteFrame x env; standAt theWindowsPlace)) _ _ s
  refine wpAny_notedAt ?_
  have e : compStart (.ListComp elt gens scope pos) k it acc env = (do
    if (← ask).params.followText "comprehension-iter-twice" then return ← again (.compLoop (.ListComp elt gens scope pos) k it acc env)
    rule "comprehension.iter-twice"
    standAt i.pos
    again (.compLoop (.ListComp elt gens scope pos) k (← pyIter it) acc env)) := by
    unfold compStart
    have q : (clausesOf (.ListComp elt gens scope pos))[k]? = some ⟨t, i, ifs, 0⟩ := hk
    simp only [q]
    rfl
  rw [e]
  refine wpAny_bind (wpAny_askSetting (wpAny_ite ?_))
  split
  · first
      | exact wpAny_bind (wpAny_pure (wpAny_pure (And.intro rfl h0)))
      | exact wpAny_pure (And.intro rfl h0)
  · exact wpAny_bind (wpAny_rule (wpAny_bind (wpAny_standAt (wpAny_bind (wpAny_mono h (fun it' s' h' => wpAny_pure (And.intro rfl h')) fun _ _ x => x)))))
end Mj

namespace Mj
open PySem PySem.Calls PyProof.Rows

noncomputable abbrev PostB (C : Ctx) (h₀ : Heap) (L : Addr) (ρ : List Addr) (vs : Vars) (h' : Hp) (s : Shared) (b : Bool) (Q : Bool → Shared → Prop) : Prop :=
  ∀ ρ' s', ρ <+: ρ' → Rest s s' → Inv C h₀ L ρ' vs h' s'.heap → Q b s'
noncomputable def FlR (C : Ctx) (ρ : List Addr) : Fl → Flow → Prop
  | .nxt, f => f = .next
  | .ret x, f => ∃ v, f = .ret v ∧ VR C ρ x v
noncomputable abbrev PostS (C : Ctx) (h₀ : Heap) (L : Addr) (ρ : List Addr) (env : Env) (vs : Vars) (h' : Hp) (s : Shared) (fl : Fl) (Q : Flow → Shared → Prop) : Prop :=
  ∀ ρ' s' f, ρ <+: ρ' → Rest s s' → EnvOK L ρ' vs env → Inv C h₀ L ρ' vs h' s'.heap → FlR C ρ' fl f → Q f s'
noncomputable abbrev PostC (C : Ctx) (h₀ : Heap) (L : Addr) (ρ : List Addr) (env : Env) (vs : Vars) (h' : Hp) (s : Shared) (Q : Shared → Prop) : Prop :=
  ∀ ρ' s', ρ <+: ρ' → Rest s s' → EnvOK L ρ' vs env → Inv C h₀ L ρ' vs h' s'.heap → Q s'

/-- the heap without our own objects -/
structure Frozen (C : Ctx) (h₀ : Heap) (L : Addr) (ρ : List Addr) (vs : Vars) (h : Hp) (H g : Heap) : Prop where
  size : g.objs.size = H.objs.size
  sub : ∀ b o, g.get? b = some o → H.get? b = some o
  sup : ∀ b o, h₀.get? b = some o → g.get? b = some o
  own : ∀ i c a, h.get i = some c → c.own = true → c.o.alive → ρ[i]? = some a → g.get? a = none
  fr : ∃ m, Fr h₀ L H m ∧ g.Ns L m ∧ ∀ k x, lk k vs = some (.loc (some x)) → ∃ v, m (nm k) = some v ∧ VR C ρ x v
  get : ∀ b o, H.get? b = some o → (∀ i c, h.get i = some c → c.own = true → c.o.alive → ρ[i]? = some b → False) → g.get? b = some o
/-- what is known behind a call: the callee's own word -/
noncomputable abbrev PostK (C : Ctx) (h₀ : Heap) (L : Addr) (ρ : List Addr) (vs : Vars) (h h' : Hp) (s : Shared) (x : V) (Q : Value → Shared → Prop) : Prop :=
  ∀ ρ' s' v' g L' vs', ρ <+: ρ' → Rest s s' → Frozen C h₀ L ρ vs h s.heap g → Inv C g L' ρ' vs' h' s'.heap → VR C ρ' x v' → Q v' s'
theorem Frozen.leave {C : Ctx} {h₀ g : Heap} {L L' : Addr} {ρ ρ' : List Addr} {vs vs' : Vars} {h : Hp} {H H' : Heap} (Z : Frozen C h₀ L ρ vs h H g) (p : ρ <+: ρ') {h' : Hp} (J : Inv C g L' ρ' vs' h' H') : Inv C h₀ L ρ' vs h' H' where
  pre := J.pre
  len := J.len
  fr := by
    obtain ⟨m, F, n, hm⟩ := Z.fr
    obtain ⟨m', F', _⟩ := J.fr
    exact ⟨m, ⟨n.at' fun o e => F'.keep _ o e, fun b o e => F'.keep b o (Z.sup b o e), F.above⟩, fun k x e => let ⟨v, hv, q⟩ := hm k x e; ⟨v, hv, q.mono C p⟩⟩
  ob := fun i c e al => by
    obtain ⟨a, ha, r, x⟩ := J.ob i c e al
    refine ⟨a, ha, r, fun ow => ?_⟩
    cases q : h₀.get? a with
    | none => rfl
    | some o => have := Z.sup a o q; rw [x ow] at this; cases this
  sep := J.sep
theorem PostK.of {C : Ctx} {h₀ : Heap} {L : Addr} {ρ : List Addr} {vs : Vars} {h h' : Hp} {s : Shared} {x : V} {Q : Value → Shared → Prop} (K : Post C h₀ L ρ vs h' s x Q) : PostK C h₀ L ρ vs h h' s x Q :=
  fun ρ' s' v' _ _ _ p r Z J q => K ρ' s' v' p r (Z.leave p J) q
/-- what is known of a mini-interpreter of fuel n -/
structure Snd (C : Ctx) (R : Ops) (n : Nat) : Prop where
  ev : ∀ {vs e h v h'}, R.ev vs e h = some (v, h') → ∀ {A E env h₀ L ρ s Q}, AOk n A → C.b.StaysIn h₀ → EnvOK L ρ vs env → Inv C h₀ L ρ vs h s.heap →
    Post C h₀ L ρ vs h' s v Q → wpAny (model C.prog C.w) A (eval e.py env) Q E s
  ts : ∀ {vs e h b h'}, R.tst vs e h = some (b, h') → ∀ {A E env h₀ L ρ s Q}, AOk n A → C.b.StaysIn h₀ → EnvOK L ρ vs env → Inv C h₀ L ρ vs h s.heap →
    PostB C h₀ L ρ vs h' s b Q → wpAny (model C.prog C.w) A (isTrue e.py env (eval e.py env)) Q E s
  sx : ∀ {vs x h fl vs' h'}, R.sx vs x h = some ((fl, vs'), h') → ∀ {A E env h₀ L ρ s Q}, AOk n A → C.b.StaysIn h₀ → EnvOK L ρ vs env → Inv C h₀ L ρ vs h s.heap →
    PostS C h₀ L ρ env vs' h' s fl Q → wpAny (model C.prog C.w) A (exec x.py env) Q E s
  wh : ∀ {vs t b h fl vs' h'}, R.wh vs t b h = some ((fl, vs'), h') → ∀ {A env h₀ L ρ s} {Z : Result → Shared → Prop}, AOk n A → C.b.StaysIn h₀ → EnvOK L ρ vs env → Inv C h₀ L ρ vs h s.heap →
    PostS C h₀ L ρ env vs' h' s fl (fun f s => Z (.ok f) s) → codeAny (model C.prog C.w) A (.whileLoop t.py (pyb b) [] env) Z s
  fo : ∀ {vs t i b h fl vs' h'}, R.fo vs t i b h = some ((fl, vs'), h') → ∀ {A env h₀ L ρ s a} {Z : Result → Shared → Prop}, AOk n A → C.b.StaysIn h₀ → EnvOK L ρ vs env → Inv C h₀ L ρ vs h s.heap → ρ[i]? = some a →
    PostS C h₀ L ρ env vs' h' s fl (fun f s => Z (.ok f) s) → codeAny (model C.prog C.w) A (.forLoop t.py (.ref a) (pyb b) [] env) Z s
  cl : ∀ {vs elt g rest i d h vs' h'}, R.cl vs elt g rest i d h = some (vs', h') → ∀ {A env h₀ L ρ s a b full k scope pos ix} {Z : Result → Shared → Prop}, AOk n A → C.b.StaysIn h₀ → EnvOK L ρ vs env → Inv C h₀ L ρ vs h s.heap →
    ρ[i]? = some a → ρ[d]? = some b → full.drop k = (g.1, ix, g.2) :: rest →
    PostC C h₀ L ρ env vs' h' s (fun s => Z (.ok .next) s) → codeAny (model C.prog C.w) A (.compLoop (.ListComp elt.py (pyg full) scope pos) k (.ref a) (.ref b) env) Z s
  ca : ∀ {k xs h v h'}, R.ca k xs h = some (v, h') → ∀ {A E h₀ L ρ vs s Q ws}, AOk n A → C.b.StaysIn h₀ → Inv C h₀ L ρ vs h s.heap → VRs C ρ xs ws →
    PostK C h₀ L ρ vs h h' s v Q → wpAny (model C.prog C.w) A (call (.ref (C.fa k)) ws) Q E s
  cf : ∀ {k xs h v h'}, R.ca k xs h = some (v, h') → ∃ o fd, C.b.get? (C.fa k) = some o ∧ o.data = .func fd

variable {C : Ctx} {W : Wd} {R : Ops} {n : Nat} {A : Around} {E : Value → Shared → Prop} {s : Shared} {h₀ : Heap} {L : Addr} {ρ : List Addr} {vs : Vars} {h h' : Hp} {env : Env}
theorem Post.aft {x : V} {s1 : Shared} {ρ1 : List Addr} {Q : Value → Shared → Prop} (K : Post C h₀ L ρ vs h' s x Q) (p : ρ <+: ρ1) (r : Rest s s1) : Post C h₀ L ρ1 vs h' s1 x Q :=
  fun ρ' s' v' p' r' I q => K ρ' s' v' (p.trans p') (r.trans r') I q
theorem Post.put {x : V} {v : Value} {s1 : Shared} {ρ1 : List Addr} {Q : Value → Shared → Prop} (K : Post C h₀ L ρ vs h' s x Q) (p : ρ <+: ρ1) (r : Rest s s1) (I : Inv C h₀ L ρ1 vs h' s1.heap) (q : VR C ρ1 x v) : Q v s1 :=
  K ρ1 s1 v p r I q
theorem postB_aft {b : Bool} {s1 : Shared} {ρ1 : List Addr} {Q : Bool → Shared → Prop} (K : PostB C h₀ L ρ vs h' s b Q) (p : ρ <+: ρ1) (r : Rest s s1) : PostB C h₀ L ρ1 vs h' s1 b Q :=
  fun ρ' s' p' r' I => K ρ' s' (p.trans p') (r.trans r') I

/-! lists of expressions -/
theorem trees_py (pos : Pos) : ∀ es : List Ex, backTo pos (starEach (pys es) env) = es.map fun e => (false, eval e.py env)
  | [] => rfl
  | e :: r => by
    have ih := trees_py pos r
    cases e <;> (simp only [pys, Ex.py, List.map_cons]; rw [← ih]; rfl)
theorem evs_ok (S : Snd C R n) : ∀ {es : List Ex} {h : Hp} {xs : List V} {h' : Hp} {ρ : List Addr} {s : Shared} {Q : List Value → Shared → Prop}, evs (R.ev vs) es h = some (xs, h') → AOk n A → C.b.StaysIn h₀ → EnvOK L ρ vs env → Inv C h₀ L ρ vs h s.heap →
    (∀ ρ' s' ws, ρ <+: ρ' → Rest s s' → Inv C h₀ L ρ' vs h' s'.heap → VRs C ρ' xs ws → Q ws s') → wpAny (model C.prog C.w) A (spliced (es.map fun e => (false, eval e.py env))) Q E s
  | [], h, xs, h', ρ, s, Q, e, _, _, _, I, K => by
    cases e
    exact spliced_nil (K ρ s [] (pre_refl ρ) (Rest.refl s) I trivial)
  | x :: r, h, xs, h', ρ, s, Q, e, ao, st, V, I, K => by
    rw [evs_cons] at e
    obtain ⟨v, h1, e1, e⟩ := bd_some e
    obtain ⟨ys, h2, e2, e⟩ := bd_some e
    cases e
    refine spliced_cons (S.ev e1 ao st V I fun ρ1 s1 a p1 r1 I1 q1 => ?_)
    exact evs_ok S e2 ao st (V.mono p1) I1 fun ρ2 s2 ws p2 r2 I2 q2 => K ρ2 s2 (a :: ws) (p1.trans p2) (r1.trans r2) I2 ⟨q1.mono C p2, q2⟩

/-! the expressions -/
theorem num_ok {i : Int} {p : Pos} {Q : Value → Shared → Prop} (I : Inv C h₀ L ρ vs h s.heap) (K : Post C h₀ L ρ vs h s (.int i) Q) : wpAny (model C.prog C.w) A (eval (.Constant (.int i) 0 p) env) Q E s :=
  fun _ _ _ => K.here I ⟨_, rfl⟩
theorem bin_ok (S : Snd C R n) {o : Operator} {a b : Ex} {p : Pos} {v : V} {Q : Value → Shared → Prop} (e : evBin R vs o a b h = some (v, h')) (ao : AOk n A) (st : C.b.StaysIn h₀) (V : EnvOK L ρ vs env) (I : Inv C h₀ L ρ vs h s.heap)
    (K : Post C h₀ L ρ vs h' s v Q) : wpAny (model C.prog C.w) A (eval (Ex.bin o a b p).py env) Q E s := by
  obtain ⟨x, h1, e1, e⟩ := bd_some e
  obtain ⟨y, h2, e2, e⟩ := bd_some e
  exact wpAny_BinOp (S.ev e1 ao st V I fun ρ1 s1 a p1 r1 I1 q1 => S.ev e2 ao st (V.mono p1) I1 fun ρ2 s2 b p2 r2 I2 q2 => bino_ok e I2 (q1.mono C p2) q2 (K.aft (p1.trans p2) (r1.trans r2)))
theorem neg_ok (S : Snd C R n) {a : Ex} {p : Pos} {v : V} {Q : Value → Shared → Prop} (e : evNeg R vs a h = some (v, h')) (ao : AOk n A) (st : C.b.StaysIn h₀) (V : EnvOK L ρ vs env) (I : Inv C h₀ L ρ vs h s.heap)
    (K : Post C h₀ L ρ vs h' s v Q) : wpAny (model C.prog C.w) A (eval (Ex.neg a p).py env) Q E s := by
  obtain ⟨x, h1, e1, e⟩ := bd_some e
  split at e
  · cases e
    refine wpAny_UnaryOp (S.ev e1 ao st V I fun ρ1 s1 a p1 r1 I1 q1 => ?_)
    obtain ⟨t, rfl⟩ := q1
    exact neg_int ((K.aft p1 r1).here I1 ⟨_, rfl⟩)
  · cases e
theorem nott_ok (S : Snd C R n) {a : Ex} {p : Pos} {v : V} {Q : Value → Shared → Prop} (e : evNot R vs a h = some (v, h')) (ao : AOk n A) (st : C.b.StaysIn h₀) (V : EnvOK L ρ vs env) (I : Inv C h₀ L ρ vs h s.heap)
    (K : Post C h₀ L ρ vs h' s v Q) : wpAny (model C.prog C.w) A (eval (Ex.nott a p).py env) Q E s := by
  obtain ⟨x, h1, e1, e⟩ := bd_some e
  split at e
  · cases e
    refine wpAny_UnaryOp (S.ev e1 ao st V I fun ρ1 s1 a p1 r1 I1 q1 => ?_)
    cases q1
    exact not_of (wpAny_truthy_bool ((K.aft p1 r1).same I1 rfl))
  · cases e
theorem boo_ok (S : Snd C R n) {o : BoolOp} {a b : Ex} {p : Pos} {v : V} {Q : Value → Shared → Prop} (e : evBoo R vs o a b h = some (v, h')) (ao : AOk n A) (st : C.b.StaysIn h₀) (V : EnvOK L ρ vs env) (I : Inv C h₀ L ρ vs h s.heap)
    (K : Post C h₀ L ρ vs h' s v Q) : wpAny (model C.prog C.w) A (eval (Ex.boo o a b p).py env) Q E s := by
  obtain ⟨x, h1, e1, e⟩ := bd_some e
  split at e
  · rename_i c
    show wpAny _ A (boolOp p o [eval a.py env, eval b.py env]) Q E s
    refine wpAny_bind (S.ev e1 ao st V I fun ρ1 s1 a1 p1 r1 I1 q1 => wpAny_bind (wpAny_standAt (wpAny_bind (wpAny_holding ?_))))
    cases q1
    refine wpAny_truthy_bool ?_
    have snd : R.ev vs b h1 = some (v, h') → wpAny (model C.prog C.w) A (boolOp p o [eval b.py env]) Q E s1 := fun e => S.ev e ao st (V.mono p1) I1 (K.aft p1 r1)
    cases o with
    | And => cases c with
      | true => exact snd e
      | false => cases e; exact wpAny_pure ((K.aft p1 r1).same I1 rfl)
    | Or => cases c with
      | true => cases e; exact wpAny_pure ((K.aft p1 r1).same I1 rfl)
      | false => exact snd e
  · cases e
theorem noMarks (o : CmpOp) (b : Ex) : behindInMarks o b.py = false := by cases b <;> rfl
theorem cmp_ok (S : Snd C R n) {o : CmpOp} {a b : Ex} {p : Pos} {v : V} {Q : Value → Shared → Prop} (e : evCmp R vs o a b h = some (v, h')) (ao : AOk n A) (st : C.b.StaysIn h₀) (V : EnvOK L ρ vs env) (I : Inv C h₀ L ρ vs h s.heap)
    (K : Post C h₀ L ρ vs h' s v Q) : wpAny (model C.prog C.w) A (eval (Ex.cmp o a b p).py env) Q E s := by
  obtain ⟨x, h1, e1, e⟩ := bd_some e
  obtain ⟨y, h2, e2, e⟩ := bd_some e
  split at e
  · rename_i r hr
    cases e
    refine wpAny_Compare1 (S.ev e1 ao st V I fun ρ1 s1 a p1 r1 I1 q1 => S.ev e2 ao st (V.mono p1) I1 fun ρ2 s2 b p2 r2 I2 q2 => cmpo_ok hr I2 (q1.mono C p2) q2 ao.line ((K.aft (p1.trans p2) (r1.trans r2)).same I2 rfl)) (noMarks _ _)
  · cases e
theorem ife_ok (S : Snd C R n) {t a b : Ex} {p : Pos} {v : V} {Q : Value → Shared → Prop} (e : evIfe R vs t a b h = some (v, h')) (ao : AOk n A) (st : C.b.StaysIn h₀) (V : EnvOK L ρ vs env) (I : Inv C h₀ L ρ vs h s.heap)
    (K : Post C h₀ L ρ vs h' s v Q) : wpAny (model C.prog C.w) A (eval (Ex.ife t a b p).py env) Q E s := by
  obtain ⟨x, h1, e1, e⟩ := bd_some e
  refine wpAny_IfExp (S.ts e1 ao st V I fun ρ1 s1 p1 r1 I1 => ?_)
  cases x with
  | true => exact S.ev e ao st (V.mono p1) I1 (K.aft p1 r1)
  | false => exact S.ev e ao st (V.mono p1) I1 (K.aft p1 r1)
theorem lst_ok (S : Snd C R n) {es : List Ex} {p : Pos} {v : V} {Q : Value → Shared → Prop} (e : evLst R vs es h = some (v, h')) (ao : AOk n A) (st : C.b.StaysIn h₀) (V : EnvOK L ρ vs env) (I : Inv C h₀ L ρ vs h s.heap)
    (K : Post C h₀ L ρ vs h' s v Q) : wpAny (model C.prog C.w) A (eval (Ex.lst es p).py env) Q E s := by
  obtain ⟨xs, h1, e1, e⟩ := bd_some e
  obtain ⟨g, e⟩ := gd_some e
  cases e
  refine wpAny_List ?_
  rw [trees_py]
  refine evs_ok S e1 ao st V I fun ρ1 s1 ws p1 r1 I1 q1 => ⟨?_, ?_⟩
  · rw [← q1.length]; exact Nat.le_trans (Nat.le_of_ble_eq_true g) (by decide)
  · exact (K.aft p1 r1).push (t := s1.toks) I1 ⟨ws, isL_push _ _, q1.mono C ⟨_, rfl⟩⟩
theorem tup_ok (S : Snd C R n) {es : List Ex} {p : Pos} {v : V} {Q : Value → Shared → Prop} (e : evTup R vs es h = some (v, h')) (ao : AOk n A) (st : C.b.StaysIn h₀) (V : EnvOK L ρ vs env) (I : Inv C h₀ L ρ vs h s.heap)
    (K : Post C h₀ L ρ vs h' s v Q) : wpAny (model C.prog C.w) A (eval (Ex.tup es p).py env) Q E s := by
  obtain ⟨xs, h1, e1, e⟩ := bd_some e
  obtain ⟨g, e⟩ := gd_some e
  cases e
  refine wpAny_Tuple ?_
  rw [trees_py]
  refine evs_ok S e1 ao st V I fun ρ1 s1 ws p1 r1 I1 q1 => ⟨?_, ?_⟩
  · rw [← q1.length]; exact Nat.le_trans (Nat.le_of_ble_eq_true g) (by decide)
  · exact (K.aft p1 r1).push (t := s1.toks) I1 ⟨ws, isT_push _ _, q1.mono C ⟨_, rfl⟩⟩

theorem noSlice (i : Ex) (o k : Value) : subscripted i.py false o k = operate [o, k] (getItem o k) := by cases i <;> rfl
theorem get_neg {xs : List V} {n : Nat} {v : V} (e : item xs (.negSucc n) = some v) : n < xs.length ∧ xs[xs.length - 1 - n]? = some v := by
  obtain ⟨g, e⟩ := gd_some e
  rw [nth_get] at e
  exact ⟨Nat.le_of_ble_eq_true g, e⟩
theorem small63 {k : Int} (g : tiny k = true) : -(2 ^ 63 : Int) ≤ k ∧ k < 2 ^ 63 := by have := tiny_lt g; omega
theorem item_list {i : Ex} {value : Expr} {ws : List Value} {xs : List V} {a : Addr} {k : Int} {t : Tok} {v : V} {Q : Value → Shared → Prop} (hl : s.heap.IsList a ws.toArray) (q : VRs C ρ xs ws) (g : tiny k = true) (e : item xs k = some v)
    (K : ∀ w, VR C ρ v w → Q w s) : wpAny (model C.prog C.w) A (subscriptTail value i.py (.ref a) (.int k t)) Q E s := by
  obtain ⟨g1, g2⟩ := small63 g
  refine tail_any hl.typeIs slot_list_getitem.lookup ?_ (noSlice i _ _)
  cases k with
  | ofNat m =>
    have e : nth xs m = some v := e
    rw [nth_get] at e
    obtain ⟨w, hw, r⟩ := q.get e
    exact wpAny_getItem_list hl (by simp) g2 (by simpa using hw) (K w r)
  | negSucc m =>
    obtain ⟨hm, e⟩ := get_neg e
    obtain ⟨w, hw, r⟩ := q.get e
    have hx : xs.length = ws.length := q.length
    refine wpAny_getItem_list_neg (x := w) hl (by omega) (by simp; omega) g1 ?_ (K w r)
    have : (Int.negSucc m + (ws.toArray.size : Int)).toNat = xs.length - 1 - m := by simp; omega
    rw [this]; simpa using hw
theorem item_tup {i : Ex} {value : Expr} {ws : List Value} {xs : List V} {a : Addr} {k : Int} {t : Tok} {v : V} {Q : Value → Shared → Prop} (hl : IsTup s.heap a ws.toArray) (q : VRs C ρ xs ws) (g : tiny k = true) (e : item xs k = some v)
    (K : ∀ w, VR C ρ v w → Q w s) : wpAny (model C.prog C.w) A (subscriptTail value i.py (.ref a) (.int k t)) Q E s := by
  obtain ⟨g1, g2⟩ := small63 g
  have hx : xs.length = ws.length := q.length
  cases k with
  | ofNat m =>
    have e : nth xs m = some v := e
    rw [nth_get] at e
    obtain ⟨w, hw, r⟩ := q.get e
    refine item_tupleT (j := m) hl g1 g2 ?_ hw (K w r) (noSlice i _ _)
    have := (List.getElem?_eq_some_iff.mp hw).1
    unfold seqIndex?
    simp
    omega
  | negSucc m =>
    obtain ⟨hm, e⟩ := get_neg e
    obtain ⟨w, hw, r⟩ := q.get e
    refine item_tupleT (j := xs.length - 1 - m) hl g1 g2 ?_ hw (K w r) (noSlice i _ _)
    unfold seqIndex?
    simp
    omega
theorem idx_ok (S : Snd C R n) {a i : Ex} {p : Pos} {v : V} {Q : Value → Shared → Prop} (e : evIdx R vs a i h = some (v, h')) (ao : AOk n A) (st : C.b.StaysIn h₀) (V : EnvOK L ρ vs env) (I : Inv C h₀ L ρ vs h s.heap)
    (K : Post C h₀ L ρ vs h' s v Q) : wpAny (model C.prog C.w) A (eval (Ex.idx a i p).py env) Q E s := by
  obtain ⟨x, h1, e1, e⟩ := bd_some e
  obtain ⟨y, h2, e2, e⟩ := bd_some e
  refine Subscript_ (S.ev e1 ao st V I fun ρ1 s1 a1 p1 r1 I1 q1 => S.ev e2 ao st (V.mono p1) I1 fun ρ2 s2 b2 p2 r2 I2 q2 => ?_)
  have q1 := q1.mono C p2
  have K := K.aft (p1.trans p2) (r1.trans r2)
  cases x with
  | ref j => cases y with
    | int k =>
      obtain ⟨a, hj, rfl⟩ := q1
      obtain ⟨t, rfl⟩ := q2
      replace e : getIdx j k h2 = some (v, h') := e
      rw [getIdx_eq] at e
      obtain ⟨g, e⟩ := gd_some e
      split at e
      · rename_i o ho
        split at e
        · split at e
          · rename_i u hu
            cases e
            obtain ⟨ws, l1, q1⟩ := I2.obj ho trivial hj
            exact item_list l1.isList q1 g hu fun w r => K.same I2 r
          · cases e
        · split at e
          · rename_i u hu
            cases e
            obtain ⟨ws, l1, q1⟩ := I2.obj ho trivial hj
            exact item_list l1 q1 g hu fun w r => K.same I2 r
          · cases e
        · split at e
          · rename_i u hu
            cases e
            obtain ⟨ws, l1, q1⟩ := I2.obj ho trivial hj
            exact item_tup l1 q1 g hu fun w r => K.same I2 r
          · cases e
        · cases e
      · cases e
    | _ => cases e
  | _ => cases e
end Mj

namespace Mj
open PySem PySem.Calls PyProof.Rows
variable {C : Ctx} {W : Wd} {R : Ops} {n : Nat} {A : Around} {E : Value → Shared → Prop} {s : Shared} {h₀ : Heap} {L : Addr} {ρ : List Addr} {vs : Vars} {h h' : Hp} {env : Env} {fns : List (Nat × Fn)}

/-! slices -/
noncomputable def PartR (o : Option Nat) (v : Value) : Prop := match o with
  | none => v = .none
  | some n => ∃ t, v = .int (n : Int) t
theorem PartR.part {o : Option Nat} {v : Value} (r : PartR o v) : IsPart v (o.map fun n => (n : Int)) := by
  cases o with
  | none => cases r; exact .none
  | some n => obtain ⟨t, rfl⟩ := r; exact .int _ t
theorem part_ok (S : Snd C R n) {o : Option Ex} {x : Option Nat} {Q : Value → Shared → Prop} (e : evPart R vs o h = some (x, h')) (ao : AOk n A) (st : C.b.StaysIn h₀) (V : EnvOK L ρ vs env) (I : Inv C h₀ L ρ vs h s.heap)
    (K : ∀ ρ' s' v', ρ <+: ρ' → Rest s s' → Inv C h₀ L ρ' vs h' s'.heap → PartR x v' → Q v' s') : wpAny (model C.prog C.w) A (evalPart (pyo o) env) Q E s := by
  cases o with
  | none => cases e; exact wpAny_pure (K ρ s _ (pre_refl ρ) (Rest.refl s) I rfl)
  | some a =>
    unfold evPart at e
    obtain ⟨y, h1, e1, e⟩ := bd_some e
    refine S.ev e1 ao st V I fun ρ1 s1 v1 p1 r1 I1 q1 => ?_
    split at e
    · rename_i m hm
      cases e
      cases y with
      | int i => cases i with
        | ofNat k => cases hm; exact K ρ1 s1 v1 p1 r1 I1 q1
        | negSucc k => cases hm
      | _ => cases hm
    · cases e
theorem cut_ok {lo hi : Option Nat} {xs ys : List V} {ws : List Value} (e : cut lo hi xs = some ys) (q : VRs C ρ xs ws) :
    ∃ us, slicePick ws.toArray (lo.map fun n => (n : Int)) (hi.map fun n => (n : Int)) none = us.toArray ∧ VRs C ρ ys us := by
  cases hi with
  | none => cases lo with
    | none => cases e; exact ⟨ws, slicePick_all _, q⟩
    | some a => cases e; exact ⟨ws.drop a, slicePick_from' _ _, q.drop a⟩
  | some b => cases lo with
    | none => cases e; exact ⟨ws.take b, slicePick_upto' _ _, q.take b⟩
    | some a =>
      obtain ⟨g, e⟩ := gd_some e
      cases e
      rw [Bool.and_eq_true] at g
      have g1 := Nat.le_of_ble_eq_true g.1
      have g2 := Nat.le_of_ble_eq_true g.2
      rw [q.length] at g2
      exact ⟨(ws.drop a).take (b - a), slicePick_run _ a b (by simpa using g2) g1, (q.drop a).take _⟩
theorem slcOf_ok {j : Nat} {lo hi : Option Nat} {ys : List V} {a : Addr} (e : slcOf j lo hi h = some ys) (I : Inv C h₀ L ρ vs h s.heap) (hj : ρ[j]? = some a) :
    ∃ ws us : List Value, s.heap.IsList a ws.toArray ∧ ws.length ≤ 1000 ∧ slicePick ws.toArray (lo.map fun n => (n : Int)) (hi.map fun n => (n : Int)) none = us.toArray ∧ VRs C ρ ys us := by
  unfold slcOf at e
  split at e
  · rename_i o ho
    split at e
    · replace ⟨g, e⟩ := gd_some e
      obtain ⟨ws, l1, q1⟩ := I.obj ho trivial hj
      obtain ⟨us, hu, qu⟩ := cut_ok e q1
      exact ⟨ws, us, l1.isList, by rw [← q1.length]; exact Nat.le_of_ble_eq_true g, hu, qu⟩
    · replace ⟨g, e⟩ := gd_some e
      obtain ⟨ws, l1, q1⟩ := I.obj ho trivial hj
      obtain ⟨us, hu, qu⟩ := cut_ok e q1
      exact ⟨ws, us, l1, by rw [← q1.length]; exact Nat.le_of_ble_eq_true g, hu, qu⟩
    · rename_i xs
      obtain ⟨ws, l1, g1, g2, q1⟩ := I.obj ho trivial hj
      unfold pcut at e
      split at e
      · split at e
        · rename_i b
          replace ⟨g, e⟩ := gd_some e
          cases e
          have g := Nat.le_of_ble_eq_true g
          refine ⟨ws, ws.take b, l1, g2, slicePick_upto' _ _, ?_⟩
          have := q1.take b
          rwa [List.take_take, Nat.min_eq_left g] at this
        · cases e
      · cases e
    · cases e
  · cases e
theorem slc_ok (S : Snd C R n) {a : Ex} {lo hi : Option Ex} {q p : Pos} {v : V} {Q : Value → Shared → Prop} (e : evSlc R vs a lo hi h = some (v, h')) (ao : AOk n A) (st : C.b.StaysIn h₀) (V : EnvOK L ρ vs env) (I : Inv C h₀ L ρ vs h s.heap)
    (K : Post C h₀ L ρ vs h' s v Q) : wpAny (model C.prog C.w) A (eval (Ex.slc a lo hi q p).py env) Q E s := by
  obtain ⟨x, h1, e1, e⟩ := bd_some e
  obtain ⟨y, h2, e2, e⟩ := bd_some e
  obtain ⟨z, h3, e3, e⟩ := bd_some e
  refine Subscript_ (S.ev e1 ao st V I fun ρ1 s1 a1 p1 r1 I1 q1 => wpAny_Slice (part_ok S e2 ao st (V.mono p1) I1 fun ρ2 s2 b2 p2 r2 I2 q2 => part_ok S e3 ao st (V.mono (p1.trans p2)) I2 fun ρ3 s3 b3 p3 r3 I3 q3 => wpAny_pure ?_))
  have q1 := (q1.mono C p2).mono C p3
  have K := K.aft ((p1.trans p2).trans p3) ((r1.trans r2).trans r3)
  cases x with
  | ref j =>
    obtain ⟨a, hj, rfl⟩ := q1
    dsimp only at e
    split at e
    · rename_i ys hy
      cases e
      obtain ⟨ws, us, l1, hw, hu, qu⟩ := slcOf_ok hy I3 hj
      have I4 : Inv C h₀ L ρ3 vs h3 (s3.heap.push { cls := .type "slice", data := .fields #[b2, b3, .none] }) := I3.sub fun _ _ e => Heap.get?_push_of_some _ e
      refine tail_any (ops := [.ref s3.heap.objs.size, .ref a]) (Heap.IsList.typeIs (s := { s3 with heap := s3.heap.push { cls := .type "slice", data := .fields #[b2, b3, .none] } }) (l1.push _)) slot_list_getitem.lookup
        (wpAny_getItem_list_slice (l1.push _) (Heap.IsSliceOf.new ..) q2.part q3.part .none (by simp) ?_ ?_) rfl
      · rw [hu]
        exact (K.aft (s1 := { s3 with heap := s3.heap.push { cls := .type "slice", data := .fields #[b2, b3, .none] } }) (pre_refl ρ3) ⟨rfl, rfl, rfl⟩).push (t := s3.toks) I4 ⟨us, isL_push _ _, qu.mono C ⟨_, rfl⟩⟩
      · exact Nat.le_trans (by simpa using hw) (by decide)
    · cases e
  | _ => cases e
end Mj

namespace Mj
open PySem PySem.Calls PyProof.Rows
variable {C : Ctx} {W : Wd} {R : Ops} {n : Nat} {A : Around} {E : Value → Shared → Prop} {s : Shared} {h₀ : Heap} {L : Addr} {ρ : List Addr} {vs : Vars} {h h' : Hp} {env : Env} {fns : List (Nat × Fn)}

/-- an object that stands in the heap already, counted as ours -/
theorem Inv.add {H : Heap} (I : Inv C h₀ L ρ vs h H) {a : Addr} (old : ∀ i c, h.get i = some c → c.o.alive → ρ[i]? = some a → False) (a0 : h₀.get? a = none) {o : O} (r : OR C (ρ ++ [a]) H a o) :
    Inv C h₀ L (ρ ++ [a]) vs (h.new o) H := by
  have p : ρ <+: ρ ++ [a] := ⟨[a], rfl⟩
  have at_n : (ρ ++ [a])[h.n]? = some a := by rw [← I.len]; simp
  refine ⟨I.pre.trans p, by rw [List.length_append, I.len]; rfl, let ⟨m, F, r⟩ := I.fr; ⟨m, F, fun k x e => let ⟨v, hv, q⟩ := r k x e; ⟨v, hv, q.mono C p⟩⟩, fun i c e al => ?_, fun i j ci cj b ei ej ow al al' hi hj => ?_⟩
  · rw [get_new] at e
    by_cases hi : i = h.n
    · subst hi; rw [if_pos rfl] at e; cases e
      exact ⟨a, at_n, r, fun _ => a0⟩
    · rw [if_neg hi] at e
      obtain ⟨b, hb, r, x⟩ := I.ob i c e al
      exact ⟨b, pre_get p hb, r.mono C p, x⟩
  · rw [get_new] at ei ej
    have back : ∀ i c, i ≠ h.n → h.get i = some c → c.o.alive → (ρ ++ [a])[i]? = some b → ρ[i]? = some b := fun i c _ e al hb => by
      obtain ⟨b', hb', _⟩ := I.ob i c e al
      have := pre_get p hb'
      rw [hb] at this; cases this; exact hb'
    by_cases h1 : i = h.n <;> by_cases h2 : j = h.n
    · rw [h1, h2]
    · rw [if_neg h2] at ej
      subst h1; rw [at_n] at hi; cases hi
      exact (old j cj ej al' (back j cj h2 ej al' hj)).elim
    · rw [if_neg h1] at ei
      subst h2; rw [at_n] at hj; cases hj
      exact (old i ci ei al (back i ci h1 ei al hi)).elim
    · rw [if_neg h1] at ei; rw [if_neg h2] at ej
      exact I.sep i j ci cj b ei ej ow al al' (back i ci h1 ei al hi) (back j cj h2 ej al' hj)
theorem Inv.lt {H : Heap} (I : Inv C h₀ L ρ vs h H) {i : Nat} {c : Cell} {a : Addr} (e : h.get i = some c) (al : c.o.alive) (ha : ρ[i]? = some a) : a < H.objs.size := by
  obtain ⟨b, hb, r, _⟩ := I.ob i c e al
  rw [ha] at hb; cases hb
  obtain ⟨x, hx⟩ := r.obj C al
  exact Heap.lt_size hx
theorem Inv.off {H : Heap} (I : Inv C h₀ L ρ vs h H) {a : Addr} (h : H.objs.size ≤ a) : h₀.get? a = none := by
  obtain ⟨m, F, _⟩ := I.fr
  cases e : h₀.get? a with
  | none => rfl
  | some o => exact absurd (Heap.lt_size (F.keep _ _ e)) (Nat.not_lt.mpr h)

/-! built-in names -/
theorem sum_w {ws : List Value} {ns : List Int} {l : Addr} {Q : Value → Shared → Prop} (hh : A.handled = none) (hl : s.heap.IsList l ws.toArray) (hi : IntsAre ws ns)
    (K : ∀ h' tk t', (∀ b o, s.heap.get? b = some o → h'.get? b = some o) → Q (.int ns.sum t') { s with heap := h', toks := tk }) : wpAny (model C.prog C.w) A (call (.builtin "sum") [.ref l]) Q E s := by
  obtain ⟨xs, hx⟩ := hi.allInts.items
  have hn : numsOf ws.toArray.toList = ns := by rw [show ws.toArray.toList = ws from rfl, hi.numsOf]
  rw [hx] at hl hn
  rw [nums_intItems] at hn
  refine sum_intListG hh hl fun h' tk t' hk => ?_
  have := K h' tk t' hk
  rw [preSum_eq, List.take_of_length_le (by simp), hn]
  exact this
theorem builtin_call {id : String} {as : List Ex} {p : Pos} {Q : Value → Shared → Prop} (S : Snd C R n) {xs : List V} (e : evs (R.ev vs) as h = some (xs, h')) (hx : xs ≠ []) (ao : AOk n A) (st : C.b.StaysIn h₀) (V : EnvOK L ρ vs env) (I : Inv C h₀ L ρ vs h s.heap) (f : Value)
    (hf : f = .builtin id ∨ f = .type id)
    (K : ∀ ρ' s' ws, ρ <+: ρ' → Rest s s' → Inv C h₀ L ρ' vs h' s'.heap → VRs C ρ' xs ws → wpAny (model C.prog C.w) A (call f ws) Q E s') :
    wpAny (model C.prog C.w) A (callWith p f [] (backTo p (starEach (pys as) env)) (backToKw p (keywordEach [] env))) Q E s := by
  rw [trees_py]
  have ne : as ≠ [] := fun z => by subst z; cases e; exact hx rfl
  cases as with
  | nil => exact (ne rfl).elim
  | cons a r =>
    have args : wpAny (model C.prog C.w) A (evalArgs f true ((a :: r).map fun e => (false, eval e.py env)) []) (fun a s₁ => wpAny (model C.prog C.w) A (call f ([] ++ a.pos) a.kw) Q E s₁) E s :=
      evalArgs_plain (evs_ok S e ao st V I fun ρ1 s1 ws p1 r1 I1 q1 => K ρ1 s1 ws p1 r1 I1 q1)
    have pl : (((a :: r).map fun e => (false, eval e.py env)).any fun x => x.1) = false := by
      rw [List.any_map, List.any_eq_false]; intro x _; simp
    rcases hf with rfl | rfl
    · exact callWith_builtin pl args
    · exact PySem.callWith_type pl args
theorem bcl_ok {b : Nat} {xs : List V} {v : V} {ws : List Value} {Q : Value → Shared → Prop} (e : bcl b xs h = some (v, h')) (hh : A.handled = none) (I : Inv C h₀ L ρ vs h s.heap) (q : VRs C ρ xs ws)
    (K : Post C h₀ L ρ vs h' s v Q) : wpAny (model C.prog C.w) A (call (bval b) ws) Q E s := by
  have one : ∀ {x : V} {ws : List Value}, VRs C ρ [x] ws → ∃ w, ws = [w] ∧ VR C ρ x w := fun {x ws} q => by
    cases ws with
    | nil => exact q.elim
    | cons w r => cases r with
      | nil => exact ⟨w, rfl, q.1⟩
      | cons _ _ => exact q.2.elim
  have two : ∀ {x y : V} {ws : List Value}, VRs C ρ [x, y] ws → ∃ w u, ws = [w, u] ∧ VR C ρ x w ∧ VR C ρ y u := fun {x y ws} q => by
    cases ws with
    | nil => exact q.elim
    | cons w r => obtain ⟨u, rfl, q2⟩ := one q.2; exact ⟨w, u, rfl, q.1, q2⟩
  have three : ∀ {x y z : V} {ws : List Value}, VRs C ρ [x, y, z] ws → ∃ w u t, ws = [w, u, t] ∧ VR C ρ x w ∧ VR C ρ y u ∧ VR C ρ z t := fun {x y z ws} q => by
    cases ws with
    | nil => exact q.elim
    | cons w r => obtain ⟨u, t, rfl, q2⟩ := two q.2; exact ⟨w, u, t, rfl, q.1, q2⟩
  rw [bcl_eq] at e
  unfold bclS at e
  split at e
  · split at e
    · obtain ⟨w, rfl, a, ha, rfl⟩ := one q
      split at e
      · rename_i xs hx
        obtain ⟨g, e⟩ := gd_some e
        cases e
        obtain ⟨us, l1, q1⟩ := I.lst hx ha
        refine len_list l1 ?_ ?_
        · have : us.length ≤ 1000 := by rw [← q1.length]; exact Nat.le_of_ble_eq_true g
          simp; omega
        · have : (us.toArray.size : Int) = (xs.length : Int) := by simp [q1.length]
          rw [this]
          exact K.here I ⟨_, rfl⟩
      · cases e
    · cases e
  · split at e
    · obtain ⟨w, rfl, t, rfl⟩ := one q
      obtain ⟨g, e⟩ := gd_some e
      cases e
      exact call_range_1 (K.push I ⟨_, _, _, Heap.get?_push_size _ rfl⟩)
    · obtain ⟨w, u, rfl, ⟨t, rfl⟩, ⟨t', rfl⟩⟩ := two q
      obtain ⟨g, e⟩ := gd_some e
      cases e
      exact call_range_2 (K.push I ⟨_, _, _, Heap.get?_push_size _ rfl⟩)
    · obtain ⟨w, u, z, rfl, ⟨t, rfl⟩, ⟨t', rfl⟩, ⟨t'', rfl⟩⟩ := three q
      obtain ⟨g, e⟩ := gd_some e
      cases e
      simp only [Bool.and_eq_true] at g
      refine call_range_3 ?_ (K.push (t := s.toks) I ⟨_, _, _, Heap.get?_push_size _ rfl⟩) (.inl (PyProof.noPylong_small (tiny_lt g.1.2)))
      have := g.2
      rw [eqB_eq] at this
      simpa using this
    · cases e
  · split at e
    · rename_i i0
      obtain ⟨w, rfl, a, ha, rfl⟩ := one q
      split at e
      · rename_i xs hx
        cases e
        obtain ⟨us, l1, q1⟩ := I.lst hx ha
        refine call_enumerate_list l1 fun H' he hl hsz hk => ?_
        have I0 := I.sub hk
        have I1 : Inv C h₀ L (ρ ++ [s.heap.objs.size]) vs (h.new (.lit i0 0)) H' := I.new hk (size_none _) ⟨a, pre_get ⟨_, rfl⟩ ha, hl⟩
        have pn : (ρ ++ [s.heap.objs.size])[h.n]? = some s.heap.objs.size := by rw [← I.len]; simp
        have I2 : Inv C h₀ L (ρ ++ [s.heap.objs.size] ++ [s.heap.objs.size + 1]) vs ((h.new (.lit i0 0)).new (.eit h.n 0)) H' := by
          refine I1.add (fun i c e al hi => ?_) (I.off (Nat.le_succ _)) ⟨s.heap.objs.size, .none, pre_get ⟨_, rfl⟩ pn, he⟩
          rw [get_new] at e
          by_cases hn : i = h.n
          · subst hn; rw [pn] at hi
            have := Option.some.inj hi
            omega
          · rw [if_neg hn] at e
            obtain ⟨b, hb, _⟩ := I.ob i c e al
            have hb' := pre_get (⟨[s.heap.objs.size], rfl⟩ : ρ <+: ρ ++ [s.heap.objs.size]) hb
            rw [hi] at hb'
            have h1 := Option.some.inj hb'
            have h2 := I.lt e al hb
            rw [← h1] at h2
            exact absurd h2 (Nat.not_lt.mpr (Nat.le_succ _))
        exact K _ { s with heap := H' } _ ⟨[s.heap.objs.size, s.heap.objs.size + 1], by simp⟩ ⟨rfl, rfl, rfl⟩ I2 ⟨_, by rw [List.append_assoc, ← I.len]; simp, rfl⟩
      · cases e
    · cases e
  · split at e
    · obtain ⟨w, rfl, a, ha, rfl⟩ := one q
      split at e
      · rename_i xs hx
        split at e
        · rename_i l hl
          cases e
          obtain ⟨us, l1, q1⟩ := I.lst hx ha
          exact sum_w hh l1 (intl_are hl q1) fun h' tk t' hk => K ρ _ _ (pre_refl ρ) ⟨rfl, rfl, rfl⟩ (I.sub hk) ⟨_, rfl⟩
        · cases e
      · cases e
    · cases e
  · split at e
    · rename_i a b
      obtain ⟨w, u, rfl, ⟨t, rfl⟩, ⟨t', rfl⟩⟩ := two q
      cases e
      refine min_two_ints hh fun h' tk hk => ?_
      have hq : VR C ρ (.int (if b < a then b else a)) (if b < a then Value.int b t' else Value.int a t) := by
        by_cases hc : b < a
        · rw [if_pos hc, if_pos hc]; exact ⟨_, rfl⟩
        · rw [if_neg hc, if_neg hc]; exact ⟨_, rfl⟩
      exact K ρ { s with heap := h', toks := tk } _ (pre_refl ρ) ⟨rfl, rfl, rfl⟩ (I.sub hk) hq
    · cases e
  · split at e
    · obtain ⟨w, rfl, t, rfl⟩ := one q
      cases e
      exact call_abs_int fun u tk => K.here I ⟨_, rfl⟩
    · obtain ⟨w, rfl, x, t, rfl, hx⟩ := one q
      cases e
      exact call_abs_int fun u tk => K.here I (by rw [hx]; exact ⟨_, rfl⟩)
    · obtain ⟨w, rfl, x, t, rfl, hx⟩ := one q
      cases e
      exact call_abs_int fun u tk => K.here I ⟨_, _, rfl, hx⟩
    · cases e
  · split at e
    · obtain ⟨w, rfl, t, rfl⟩ := one q
      cases e
      exact call_int_int (K.same I ⟨_, rfl⟩)
    · obtain ⟨w, rfl, x, t, rfl, hx⟩ := one q
      cases e
      exact call_int_int (K.same I ⟨_, _, rfl, hx⟩)
    · obtain ⟨w, rfl, x, t, rfl, hx⟩ := one q
      cases e
      exact call_int_int (K.same I ⟨_, _, rfl, hx⟩)
    · rename_i c
      obtain ⟨w, rfl, rfl⟩ := one q
      cases e
      refine call_int_bool ?_
      cases c with
      | true => exact K.here I ⟨_, rfl⟩
      | false => exact K.here I ⟨_, rfl⟩
    · cases e
  · cases e
theorem bcl_ne {b : Nat} {xs : List V} {r : V × Hp} (e : bcl b xs h = some r) : xs ≠ [] ∧ b < 7 := by
  rw [bcl_eq] at e
  unfold bclS at e
  split at e <;> first
    | (constructor
       · intro z; subst z; simp at e
       · decide)
    | cases e
theorem evBcl_eq (R : Ops) (vs : Vars) (b : Nat) (as : List Ex) (h : Hp) : evBcl R vs b as h = match lk (bid b) vs with
    | some .glo => bd (evs (R.ev vs) as h) fun xs h => bcl b xs h
    | _ => none := by
  unfold evBcl
  cases lk (bid b) vs with
  | none => rfl
  | some sl => cases sl <;> rfl
theorem ebcl_ok (B : Base C fns) (S : Snd C R n) {b : Nat} {q : Pos} {as : List Ex} {p : Pos} {v : V} {Q : Value → Shared → Prop} (e : evBcl R vs b as h = some (v, h')) (ao : AOk n A) (st : C.b.StaysIn h₀) (V : EnvOK L ρ vs env) (I : Inv C h₀ L ρ vs h s.heap)
    (K : Post C h₀ L ρ vs h' s v Q) : wpAny (model C.prog C.w) A (eval (Ex.bcl b q as p).py env) Q E s := by
  rw [evBcl_eq] at e
  split at e
  · rename_i hk
    obtain ⟨xs, h1, e1, e⟩ := bd_some e
    obtain ⟨hne, hb⟩ := bcl_ne e
    show wpAny _ A (eval (.Call (.Name (bname b) q) (pys as) [] p) env) Q E s
    refine wpAny_Call_Name_kw (bname_ok B hb hk st V I ?_)
    have hf : ∃ id, bval b = .builtin id ∨ bval b = .type id := by
      unfold bval
      split
      all_goals first | exact ⟨_, .inl rfl⟩ | exact ⟨_, .inr rfl⟩
    obtain ⟨id, hf⟩ := hf
    exact builtin_call S e1 hne ao st V I _ hf fun ρ1 s1 ws p1 r1 I1 q1 => bcl_ok e ao.handled I1 q1 (K.aft p1 r1)
  · cases e
end Mj

namespace Mj
open PySem PySem.Calls PyProof.Rows
variable {C : Ctx} {W : Wd} {R : Ops} {n : Nat} {A : Around} {E : Value → Shared → Prop} {s : Shared} {h₀ : Heap} {L : Addr} {ρ : List Addr} {vs : Vars} {h h' : Hp} {env : Env} {fns : List (Nat × Fn)}

noncomputable def IsFn (a : Addr) (H : Heap) : Prop := ∃ o fd, H.get? a = some o ∧ o.data = .func fd
theorem keeps_fn {M : Model} {a : Addr} (H : Heap) (x : IsFn a H) : ∃ k, (k = Keeper.frame ∨ k = Keeper.machine ∨ k = Keeper.boundFrame) ∧ PySem.W.Looks M H (keeperOf (.ref a)) k := by
  obtain ⟨o, fd, e, d⟩ := x
  refine ⟨.frame, .inl rfl, fun A Q E s k q => ?_⟩
  unfold keeperOf
  refine wpAny_bind (wpAny_load (k _ _ e) ?_)
  rw [d]
  exact wpAny_pure q
theorem callV_eq (g : V) (R : Ops) (xs : List V) (h : Hp) : callV g R xs h = match g with
    | .fn k => R.ca k xs h
    | _ => none := by
  cases g <;> rfl
theorem call_ok (S : Snd C R n) {f : Ex} {as : List Ex} {p : Pos} {v : V} {Q : Value → Shared → Prop} (e : evCall R vs f as h = some (v, h')) (ao : AOk n A) (st : C.b.StaysIn h₀) (V : EnvOK L ρ vs env) (I : Inv C h₀ L ρ vs h s.heap)
    (K : Post C h₀ L ρ vs h' s v Q) : wpAny (model C.prog C.w) A (eval (Ex.call f as p).py env) Q E s := by
  cases f with
  | nam k q =>
    replace ⟨gn, e⟩ := gd_some e
    replace ⟨g, h1, e1, e⟩ := bd_some e
    replace ⟨xs, h2, e2, e⟩ := bd_some e
    show wpAny _ A (eval (.Call (.Name (nm k) q) (pys as) [] p) env) Q E s
    refine wpAny_Call_Name_kw (S.ev e1 ao st V I fun ρ1 s1 a1 p1 r1 I1 q1 => ?_)
    rw [callV_eq] at e
    split at e
    · rename_i j
      cases q1
      refine PySem.W.callWith_of (P := IsFn (C.fa j)) (by rw [trees_py]; simp [backToKw, keywordEach]) (fun H x => keeps_fn H x) ?_
      rw [trees_py]
      have fin : ∀ ρ2 s2 ws, ρ1 <+: ρ2 → Rest s1 s2 → Inv C h₀ L ρ2 vs h2 s2.heap → VRs C ρ2 xs ws → IsFn (C.fa j) s2.heap ∧ wpAny (model C.prog C.w) A (call (.ref (C.fa j)) ws) Q E s2 := fun ρ2 s2 ws p2 r2 I2 q2 => by
        obtain ⟨o, fd, ho, hd⟩ := S.cf e
        exact ⟨⟨o, fd, stays st I2 _ _ ho, hd⟩, S.ca e ao st I2 q2 (PostK.of (K.aft (p1.trans p2) (r1.trans r2)))⟩
      cases as with
      | nil =>
        cases e2
        exact evalArgs_nil3 (fin ρ1 s1 [] (pre_refl _) (Rest.refl _) I1 trivial)
      | cons a r =>
        exact evalArgs_plain (evs_ok S e2 ao st (V.mono p1) I1 fun ρ2 s2 ws p2 r2 I2 q2 => fin ρ2 s2 ws p2 r2 I2 q2)
    · cases e
  | _ => cases e
theorem base_ok {o : Ex} {name : Str} (g : isObj o = true) : attributeBase o.py name env (eval o.py env) = eval o.py env := by cases o <;> first | rfl | cases g
theorem met_ok (S : Snd C R n) {o : Ex} {m : Nat} {q : Pos} {as : List Ex} {p : Pos} {v : V} {Q : Value → Shared → Prop} (e : evMet R vs o m q as p h = some (v, h')) (ao : AOk n A) (st : C.b.StaysIn h₀) (V : EnvOK L ρ vs env) (I : Inv C h₀ L ρ vs h s.heap)
    (K : Post C h₀ L ρ vs h' s v Q) : wpAny (model C.prog C.w) A (eval (Ex.met o m q as p).py env) Q E s := by
  replace ⟨g, e⟩ := gd_some e
  rw [Bool.and_eq_true] at g
  replace ⟨x, h1, e1, e⟩ := bd_some e
  have hl : (q.endLine == p.line) = true := by rw [beq_iff_eq]; exact Nat.eq_of_beq_eq_true g.2
  split at e
  · split at e
    · rename_i i
      split at e
      · rename_i xs hx
        split at e
        · rename_i a
          replace ⟨y, h2, e2, e⟩ := bd_some e
          split at e
          · rename_i h3 hs
            cases e
            show wpAny _ A (eval (.Call (.Attribute o.py (Str.ofString "append") q) [a.py] [] p) env) Q E s
            have tr : backTo p (starEach [a.py] env) = [(false, eval a.py env)] := trees_py p [a]
            refine wpAny_Call_append (base_ok g.1) (by rw [tr]; rfl) hl tr ?_
            refine S.ev e1 ao st V I fun ρ1 s1 a1 p1 r1 I1 q1 => ?_
            obtain ⟨D, hD, rfl⟩ := q1
            obtain ⟨ws, l1, q1⟩ := I1.obj hx trivial hD
            refine ⟨D, ws.toArray, rfl, l1, S.ev e2 ao st (V.mono p1) I1 fun ρ2 s2 b2 p2 r2 I2 q2 => ?_⟩
            unfold apnd at hs
            simp only [len_eq, snoc_eq] at hs
            split at hs
            · rename_i l hl
              obtain ⟨gs, hs⟩ := gd_some hs
              have hD2 := pre_get p2 hD
              obtain ⟨us, l2, q3⟩ := I2.obj hl trivial hD2
              obtain ⟨hg, rfl⟩ := set_own hs hl
              refine list_append_plainL l2 (fun H' hn hs' => ?_) ?_
              · have I3 : Inv C h₀ L ρ2 vs (h2.put i ⟨true, .list (l ++ [y])⟩) H' := I2.set hg trivial hD2 (fun b y hb q => (hs'.2 b hb).trans q) ⟨us ++ [b2], by simpa using hn, q3.append ⟨q2, trivial⟩⟩
                exact K ρ2 { s2 with heap := H' } _ (p1.trans p2) ((r1.trans r2).trans ⟨rfl, rfl, rfl⟩) I3 rfl
              · have : us.length ≤ 1000 := by rw [← q3.length]; exact Nat.le_of_ble_eq_true gs
                exact Nat.le_trans (by simpa using this) (by decide)
            · cases hs
          · cases e
        · cases e
      · cases e
    · cases e
  · rename_i hm
    have hm : mname m = Str.ofString "bit_length" := by
      cases m with
      | zero => exact (hm rfl).elim
      | succ m => rfl
    split at e
    · rename_i i
      split at e
      · cases e
        show wpAny _ A (eval (.Call (.Attribute o.py (mname m) q) [] [] p) env) Q E s
        rw [hm, arm_eval_Call, base_ok g.1]
        refine wpAny_bind (S.ev e1 ao st V I fun ρ1 s1 a1 p1 r1 I1 q1 => wpAny_bind (wpAny_standAt ?_))
        obtain ⟨t, rfl⟩ := q1
        have hform : methodCallForm (([] : List Expr).length + ([] : List Keyword).length) (backTo p (starEach [] env)) (backToKw p (keywordEach [] env)) = true := rfl
        have hpos : methodCallPos true o.py env q p = pure p := by unfold methodCallPos; simp [hl]
        unfold methodCall
        rw [hform]
        refine wpAny_bind (wpAny_holding (getMethod_int_bit_length ?_))
        refine wpAny_bind (wpAny_of_eq hpos ?_)
        exact callWith_builtin rfl (evalArgs_nil3 (call_int_bit_length ((K.aft p1 r1).here I1 ⟨_, rfl⟩)))
      · cases e
    · cases e
end Mj

namespace Mj
open PySem PySem.Calls PyProof.Rows
variable {C : Ctx} {W : Wd} {R : Ops} {n : Nat} {A : Around} {E : Value → Shared → Prop} {s : Shared} {h₀ g : Heap} {L L' : Addr} {ρ ρ' : List Addr} {vs vs' : Vars} {h h' : Hp} {env : Env} {fns : List (Nat × Fn)} {H H' : Heap}

open Classical in
theorem Inv.freeze (I : Inv C h₀ L ρ vs h H) : ∃ g, Frozen C h₀ L ρ vs h H g := by
  let own : List Addr := (List.range h.n).filterMap fun i => if ∃ c, h.get i = some c ∧ c.own = true ∧ c.o.alive then ρ[i]? else none
  have mem : ∀ a, a ∈ own ↔ ∃ i c, h.get i = some c ∧ c.own = true ∧ c.o.alive ∧ ρ[i]? = some a := fun a => by
    constructor
    · intro hm
      obtain ⟨i, _, hi⟩ := List.mem_filterMap.mp hm
      split at hi
      · rename_i hc
        obtain ⟨c, e, o, al⟩ := hc
        exact ⟨i, c, e, o, al, hi⟩
      · cases hi
    · rintro ⟨i, c, e, o, al, hi⟩
      refine List.mem_filterMap.mpr ⟨i, List.mem_range.mpr (I.ge e al), ?_⟩
      rw [if_pos ⟨c, e, o, al⟩]; exact hi
  have sup : ∀ b o, h₀.get? b = some o → (PySem.W.hideAll H own).get? b = some o := fun b o e => by
    obtain ⟨m, F, _⟩ := I.fr
    refine PySem.W.hideAll_get own (F.keep b o e) fun hm => ?_
    obtain ⟨i, c, ei, ow, al, hi⟩ := (mem b).mp hm
    obtain ⟨a', ha', _, x⟩ := I.ob i c ei al
    rw [hi] at ha'; cases ha'
    rw [x ow] at e; cases e
  refine ⟨PySem.W.hideAll H own, PySem.W.hideAll_size _ _, fun b o e => PySem.W.of_hideAll own e, sup, fun i c a e ow al hi => PySem.W.hideAll_none own ((mem a).mpr ⟨i, c, e, ow, al, hi⟩), ?_, fun b o e hn => PySem.W.hideAll_get own e fun hm => ?_⟩
  · obtain ⟨m, F, hm⟩ := I.fr
    refine ⟨m, F, F.ns.at' fun o e => PySem.W.hideAll_get own e fun hL => ?_, hm⟩
    obtain ⟨i, c, ei, ow, al, hi⟩ := (mem L).mp hL
    obtain ⟨a', ha', r, _⟩ := I.ob i c ei al
    rw [hi] at ha'; cases ha'
    exact r.ne C al F.ns rfl
  · obtain ⟨i, c, ei, ow, al, hi⟩ := (mem b).mp hm
    exact hn i c ei ow al hi
theorem Frozen.enter (Z : Frozen C h₀ L ρ vs h H g) (I : Inv C h₀ L ρ vs h H) {m : Str → Option Value} (k : ∀ b o, H.get? b = some o → H'.get? b = some o) (hL : H.objs.size ≤ L') (n : H'.Ns L' m)
    (hm : ∀ k x, lk k vs' = some (.loc (some x)) → ∃ v, m (nm k) = some v ∧ VR C ρ x v) : Inv C g L' ρ vs' h H' where
  pre := I.pre
  len := I.len
  fr := ⟨m, ⟨n, fun b o e => k b o (Z.sub b o e), by rw [Z.size]; exact hL⟩, hm⟩
  ob := fun i c e al => by
    obtain ⟨a, ha, r, _⟩ := I.ob i c e al
    exact ⟨a, ha, r.at C (k a), fun ow => Z.own i c a e ow al ha⟩
  sep := I.sep
/-- another frame's dict changed -/
theorem Inv.but (I : Inv C h₀ L ρ vs h H) {D : Addr} {m : Str → Option Value} (n : H.Ns D m) (hL : D ≠ L) (hs : Heap.SameBut D H H') (h0 : h₀.get? D = none) : Inv C h₀ L ρ vs h H' where
  pre := I.pre
  len := I.len
  fr := let ⟨m, F, r⟩ := I.fr; ⟨m, ⟨F.ns.sameBut hs (Ne.symm hL), fun b o e => (hs.2 b (fun z => by subst z; rw [h0] at e; cases e)).trans (F.keep b o e), F.above⟩, r⟩
  ob := fun i c e al => by
    obtain ⟨a, ha, r, x⟩ := I.ob i c e al
    exact ⟨a, ha, r.at C fun y q => (hs.2 a (r.ne C al n)).trans q, x⟩
  sep := I.sep
theorem Frozen.stays (Z : Frozen C h₀ L ρ vs h H g) (st : C.b.StaysIn h₀) : C.b.StaysIn g := fun b o e => Z.sup b o (st b o e)
end Mj

namespace Mj
open PySem PySem.Calls PyProof.Rows
variable {C : Ctx} {W : Wd} {R : Ops} {n : Nat} {A : Around} {E : Value → Shared → Prop} {s : Shared} {h₀ : Heap} {L : Addr} {ρ : List Addr} {vs : Vars} {h h' : Hp} {env : Env} {fns : List (Nat × Fn)}

theorem nm_beq (i j : Nat) : (nm i == nm j) = (i == j) := by
  by_cases e : i = j
  · subst e; simp
  · rw [beq_eq_false_iff_ne.mpr e, beq_eq_false_iff_ne.mpr fun z => e (nm_inj z)]
/-! a comprehension's names -/
theorem cvars_cons {x : Nat × Kd} {r : List (Nat × Kd)} {cv : Vars} (e : cvars vs (x :: r) = some cv) :
    ∃ c sl, cvars vs r = some c ∧ lk x.1 c = none ∧ cv = (x.1, sl) :: c ∧ ((x.2 = .l ∧ sl = .loc none) ∨ (x.2 = .g ∧ sl = .glo) ∨ ∃ i, x.2 = .f ∧ sl = .cel i ∧ lk x.1 vs = some (.cel i)) := by
  rw [cvars_step] at e
  split at e
  · rename_i c hc
    split at e
    · cases e
    · rename_i hl
      split at e
      · rename_i d; cases e; exact ⟨c, _, hc, hl, rfl, .inl ⟨d, rfl⟩⟩
      · rename_i d; cases e; exact ⟨c, _, hc, hl, rfl, .inr (.inl ⟨d, rfl⟩)⟩
      · rename_i d
        split at e
        · rename_i sl hs
          split at e
          · cases e; exact ⟨c, _, hc, hl, rfl, .inr (.inr ⟨_, d, rfl, hs⟩)⟩
          · cases e
        · cases e
      · cases e
  · cases e
theorem cvars_dom : ∀ {sc : List (Nat × Kd)} {cv : Vars}, cvars vs sc = some cv → ∀ x ∈ sc, ∃ sl, lk x.1 cv = some sl
  | [], _, _, x, hx => by simp at hx
  | y :: r, cv, e, x, hx => by
    obtain ⟨c, sl, hc, _, rfl, _⟩ := cvars_cons e
    rw [lk_cons]
    by_cases h : y.1 = x.1
    · rw [if_pos h]; exact ⟨_, rfl⟩
    · rw [if_neg h]
      rcases List.mem_cons.mp hx with q | q
      · subst q; exact (h rfl).elim
      · exact cvars_dom hc x q
theorem cvars_nocell {sc : List (Nat × Kd)} {cv : Vars} (e : cvars vs sc = some cv) : ∀ y ∈ pyNames sc, y.2 ≠ .cell := by
  induction sc generalizing cv with
  | nil => intro y hy; simp [pyNames] at hy
  | cons x r ih =>
    obtain ⟨c, sl, hc, _, _, d⟩ := cvars_cons e
    intro y hy
    rcases List.mem_cons.mp hy with q | q
    · subst q
      rcases d with ⟨d, _⟩ | ⟨d, _⟩ | ⟨_, d, _⟩ <;> (simp only [d]; intro z; cases z)
    · exact ih hc y q
theorem pyNames_mem {sc : List (Nat × Kd)} {y : Str × NameKind} (h : y ∈ pyNames sc) : ∃ x ∈ sc, y = (nm x.1, x.2.py) := by
  induction sc with
  | nil => simp [pyNames] at h
  | cons x r ih =>
    rcases List.mem_cons.mp h with q | q
    · exact ⟨x, .head _, q⟩
    · obtain ⟨z, hz, e⟩ := ih q; exact ⟨z, .tail _ hz, e⟩
theorem cvars_local {sc : List (Nat × Kd)} {cv : Vars} (e : cvars vs sc = some cv) : ∀ y ∈ pyNames sc, y.2 = .local → (pyNames sc).lookup y.1 = some .local := by
  induction sc generalizing cv with
  | nil => intro y hy; simp [pyNames] at hy
  | cons x r ih =>
    obtain ⟨c, sl, hc, hl, _, d⟩ := cvars_cons e
    intro y hy hy2
    rcases List.mem_cons.mp hy with q | q
    · subst q
      show List.lookup (nm x.1) ((nm x.1, x.2.py) :: pyNames r) = _
      rw [List.lookup_cons, beq_self_eq_true]
      exact congrArg some hy2
    · obtain ⟨z, hz, rfl⟩ := pyNames_mem q
      have ne : (nm z.1 == nm x.1) = false := by
        rw [nm_beq]
        refine beq_eq_false_iff_ne.mpr fun k => ?_
        obtain ⟨sl', h'⟩ := cvars_dom hc z hz
        rw [k, hl] at h'; cases h'
      show List.lookup (nm z.1) ((nm x.1, x.2.py) :: pyNames r) = _
      rw [List.lookup_cons, ne]
      exact ih hc _ q hy2
/-- the cells that a comprehension takes over -/
noncomputable def clo (env : Env) : List (Nat × Kd) → List (Str × Addr) → List (Str × Addr)
  | [], acc => acc
  | x :: r, acc => match x.2 with
    | .f => clo env r ((nm x.1, (env.cells.lookup (nm x.1)).getD 0) :: acc)
    | _ => clo env r acc
theorem closure_ok (V : EnvOK L ρ vs env) : ∀ {sc : List (Nat × Kd)} {cv : Vars} (acc : List (Str × Addr)), cvars vs sc = some cv →
    (forIn (pyNames sc) acc fun x cs => if (x.2 == NameKind.free) = true then do let c ← cellOf env x.1; pure (ForInStep.yield ((x.1, c) :: cs)) else pure (ForInStep.yield cs) : Sem (List (Str × Addr))) = pure (clo env sc acc)
  | [], _, acc, _ => rfl
  | x :: r, cv, acc, e => by
    obtain ⟨c, sl, hc, hl, _, d⟩ := cvars_cons e
    show (forIn ((nm x.1, x.2.py) :: pyNames r) acc _ : Sem _) = _
    rw [List.forIn_cons]
    unfold clo
    rcases d with ⟨d, _⟩ | ⟨d, _⟩ | ⟨i, d, _, hv⟩
    · simp only [d, Kd.py]
      rw [if_neg (by decide), pure_bind]
      exact closure_ok V acc hc
    · simp only [d, Kd.py]
      rw [if_neg (by decide), pure_bind]
      exact closure_ok V acc hc
    · obtain ⟨_, a, ha, _⟩ := V.names _ _ hv
      simp only [d, Kd.py]
      rw [if_pos (by decide)]
      have q : cellOf env (nm x.1) = pure a := by unfold cellOf; rw [ha]
      rw [q, ha]
      simp only [pure_bind, Option.getD_some]
      exact closure_ok V _ hc
theorem closure_for (V : EnvOK L ρ vs env) {sc : List (Nat × Kd)} {cv : Vars} (e : cvars vs sc = some cv) : closureFor (pyScope sc) env = pure (clo env sc []) := by
  have q := closure_ok V [] e
  show (forIn (pyNames sc) [] _ >>= fun cs => pure cs : Sem _) = _
  rw [bind_pure]
  exact q
theorem clo_mem {sc : List (Nat × Kd)} : ∀ {acc : List (Str × Addr)} {cv : Vars}, cvars vs sc = some cv → EnvOK L ρ vs env → (∀ y a, acc.lookup y = some a → env.cells.lookup y = some a) →
    (∀ y a, (clo env sc acc).lookup y = some a → env.cells.lookup y = some a) ∧ (∀ y, (acc.lookup y).isSome → ((clo env sc acc).lookup y).isSome) ∧ (∀ k i, lk k cv = some (.cel i) → ((clo env sc acc).lookup (nm k)).isSome) := by
  induction sc with
  | nil => intro acc cv e V h; cases e; exact ⟨h, fun _ x => x, fun k i q => by cases q⟩
  | cons x r ih =>
    intro acc cv e V h
    obtain ⟨c, sl, hc, hl, rfl, d⟩ := cvars_cons e
    unfold clo
    have other : ∀ {sl : Slot}, (∀ i, sl ≠ .cel i) → ∀ k i, lk k ((x.1, sl) :: c) = some (.cel i) → lk k c = some (.cel i) := fun {sl} ns k i q => by
      rw [lk_cons] at q
      split at q
      · cases q; exact (ns i rfl).elim
      · exact q
    rcases d with ⟨d, q⟩ | ⟨d, q⟩ | ⟨i, d, q, hv⟩
    · subst q
      simp only [d]
      obtain ⟨h1, h2, h3⟩ := ih hc V h
      exact ⟨h1, h2, fun k i e => h3 k i (other (fun i z => by cases z) k i e)⟩
    · subst q
      simp only [d]
      obtain ⟨h1, h2, h3⟩ := ih hc V h
      exact ⟨h1, h2, fun k i e => h3 k i (other (fun i z => by cases z) k i e)⟩
    · subst q
      simp only [d]
      obtain ⟨_, a, ha, _⟩ := V.names _ _ hv
      rw [ha, Option.getD_some]
      obtain ⟨h1, h2, h3⟩ := ih (acc := (nm x.1, a) :: acc) hc V (fun y b q => by
        rw [List.lookup_cons] at q
        split at q
        · rename_i hy
          cases q
          rw [eq_of_beq hy]; exact ha
        · exact h y b q)
      refine ⟨h1, fun y q => h2 y ?_, fun k j e => ?_⟩
      · rw [List.lookup_cons]
        split
        · rfl
        · exact q
      · rw [lk_cons] at e
        split at e
        · rename_i hk
          rw [← hk]
          exact h2 _ (by rw [List.lookup_cons, beq_self_eq_true]; rfl)
        · exact h3 k j e
noncomputable def Slot.nk : Slot → NameKind
  | .loc _ => .local
  | .cel _ => .cell
  | .glo => .globalImplicit
theorem kind_comp (V : EnvOK L ρ vs env) : ∀ {sc : List (Nat × Kd)} {cv : Vars}, cvars vs sc = some cv → ∀ k sl, lk k cv = some sl →
    ((pyNames sc).map fun (n, k) => if (k == NameKind.free && env.scope.kind == .function && env.kindOf n == some .cell) then (n, NameKind.cell) else (n, k)).lookup (nm k) = some sl.nk
  | [], _, e, k, sl, q => by cases e; cases q
  | x :: r, cv, e, k, sl, q => by
    obtain ⟨c, sl', hc, hl, rfl, d⟩ := cvars_cons e
    rw [lk_cons] at q
    show List.lookup (nm k) ((if (x.2.py == NameKind.free && env.scope.kind == .function && env.kindOf (nm x.1) == some .cell) = true then (nm x.1, NameKind.cell) else (nm x.1, x.2.py)) :: _) = _
    have step : ∀ kd : NameKind, x.1 ≠ k → List.lookup (nm k) ((nm x.1, kd) :: (pyNames r).map fun (n, k) => if (k == NameKind.free && env.scope.kind == .function && env.kindOf n == some .cell) then (n, NameKind.cell) else (n, k)) = some sl.nk := fun kd hn => by
      rw [List.lookup_cons, nm_beq, beq_eq_false_iff_ne.mpr (Ne.symm hn)]
      rw [if_neg hn] at q
      exact kind_comp V hc k sl q
    by_cases hk : x.1 = k
    · subst hk
      rw [if_pos rfl] at q; cases q
      rcases d with ⟨d, q⟩ | ⟨d, q⟩ | ⟨i, d, q, hv⟩
      · subst q; simp [d, Kd.py, Slot.nk]
      · subst q; simp [d, Kd.py, Slot.nk]
      · subst q
        obtain ⟨hkd, _⟩ := V.names _ _ hv
        simp [d, Kd.py, Slot.nk, V.kind, hkd]
    · split
      · exact step _ hk
      · exact step _ hk
theorem EnvOK.comp (V : EnvOK L ρ vs env) {sc : List (Nat × Kd)} {cv : Vars} (e : cvars vs sc = some cv) (D : Addr) : EnvOK D ρ cv (compEnvC (pyScope sc) (clo env sc []) D env) where
  kind := rfl
  loc := rfl
  glb := V.glb
  bui := V.bui
  names := fun k sl q => by
    have kd : (compEnvC (pyScope sc) (clo env sc []) D env).kindOf (nm k) = some sl.nk := kind_comp V e k sl q
    cases sl with
    | loc o => exact kd
    | glo => exact kd
    | cel i =>
      refine ⟨kd, ?_⟩
      obtain ⟨h1, h2, h3⟩ := clo_mem (acc := []) e V (fun y a z => by simp at z)
      obtain ⟨c, hc⟩ := Option.isSome_iff_exists.mp (h3 k i q)
      refine ⟨c, hc, ?_⟩
      have hv : lk k vs = some (.cel i) := by
        clear kd h1 h2 h3 hc
        induction sc generalizing cv with
        | nil => cases e; cases q
        | cons x r ih =>
          obtain ⟨c', sl', hc, hl, rfl, d⟩ := cvars_cons e
          rw [lk_cons] at q
          split at q
          · rename_i hk
            cases q
            rcases d with ⟨_, z⟩ | ⟨_, z⟩ | ⟨j, _, z, hv⟩
            · cases z
            · cases z
            · cases z; rw [← hk]; exact hv
          · exact ih hc q
      obtain ⟨_, c', hc', hi⟩ := V.names _ _ hv
      have := h1 _ _ hc
      rw [hc'] at this; cases this
      exact hi

/-! a comprehension -/
theorem self_ok {i : Nat} {a : Addr} {x : V} {h1 : Hp} {Q : Value → Shared → Prop} (e : itr x h1 = some (i, h)) (I : Inv C h₀ L ρ vs h s.heap) (hi : ρ[i]? = some a) (K : Q (.ref a) s) : wpAny (model C.prog C.w) A (pyIter (.ref a)) Q E s := by
  have lit : ∀ {l k : Nat}, h.obj i = some (.lit l k) → wpAny (model C.prog C.w) A (pyIter (.ref a)) Q E s := fun ho => by
    obtain ⟨b, _, hit⟩ := I.obj ho trivial hi
    exact wpAny_pyIter_listiter hit K
  have new : ∀ {o : O}, (h1.new o).obj h1.n = some o := fun {o} => by
    rw [Hp.obj_eq, get_new, if_pos rfl]
  unfold itr at e
  split at e
  · split at e
    · cases e; exact lit new
    · cases e; exact lit new
    · obtain ⟨_, e⟩ := gd_some e
      cases e
      have hr := I.obj new trivial hi
      exact wpAny_pyIter_rangeiter hr K
    · rename_i J k hx
      cases e
      obtain ⟨b, old, hb, he⟩ := I.obj hx trivial hi
      exact wpAny_pyIter_enum he K
    · cases e
  · cases e
theorem noFold (i : Ex) (env : Env) (x : Value) : foldedSetIterable i.py env x = pure x := by cases i <;> rfl
theorem lk_cv : ∀ {sc : List (Nat × Kd)} {cv : Vars}, cvars vs sc = some cv → ∀ k x, lk k cv = some (.loc (some x)) → False
  | [], _, e, k, x, q => by cases e; cases q
  | y :: r, cv, e, k, x, q => by
    obtain ⟨c, sl', hc, hl, rfl, d⟩ := cvars_cons e
    rw [lk_cons] at q
    split at q
    · cases q
      rcases d with ⟨_, z⟩ | ⟨_, z⟩ | ⟨_, _, z, _⟩ <;> cases z
    · exact lk_cv hc k x q
/-- what stands behind a comprehension's loops: the frame of its own may change once more -/
noncomputable abbrev PostM (C : Ctx) (h₀ : Heap) (L : Addr) (ρ : List Addr) (vs : Vars) (h' : Hp) (s : Shared) (x : V) (P : Value → Addr → Shared → Prop) : Prop :=
  ∀ ρ' s' v' D m, ρ <+: ρ' → Rest s s' → Inv C h₀ L ρ' vs h' s'.heap → VR C ρ' x v' → s'.heap.Ns D m → D ≠ L → h₀.get? D = none → P v' D s'
theorem com_core (S : Snd C R n) {elt : Ex} {gens : List (Ex × Ex × List Ex)} {sc : List (Nat × Kd)} {p pos : Pos} {v : V} {use : Option (Value → Sem Unit)} {Q : Value → Shared → Prop} (e : evCom R vs elt gens sc h = some (v, h')) (ao : AOk n A) (st : C.b.StaysIn h₀) (V : EnvOK L ρ vs env) (I : Inv C h₀ L ρ vs h s.heap)
    (K : PostM C h₀ L ρ vs h' s v (fun v' D s' => compPost (model C.prog C.w) A E use Q v' D (.ok .next) s')) :
    wpAny (model C.prog C.w) A (comprehension (Ex.com elt gens sc p).py (pyScope sc) env pos (newList []) false (firstIter (pyg gens) env) use) Q E s := by
  cases gens with
  | nil => cases e
  | cons g rest =>
    obtain ⟨t, i, ifs⟩ := g
    unfold evCom at e
    replace ⟨x, h1, e1, e⟩ := bd_some e
    replace ⟨it, h2, e2, e⟩ := bd_some e
    split at e
    · rename_i cv hcv
      replace ⟨cv', h3, e3, e⟩ := bd_some e
      cases e
      refine wpAny_comprehension_free (cl := clo env sc []) (g := ⟨t.py, i.py, pys ifs, 0⟩) (gs := pyg rest) rfl (fun x => noFold i env x) (closure_for V hcv) rfl (cvars_local hcv) ?_
      show wpAny (model C.prog C.w) A (eval i.py env) _ E s
      refine S.ev e1 ao st V I fun ρ1 s1 a1 p1 r1 I1 q1 => itr_ok e2 I1 q1 fun ρ2 s2 b2 p2 r2 I2 q2 => ?_
      obtain ⟨a, ha, rfl⟩ := q2
      refine wpAny_newObj_type ?_
      refine wpAny_newFunctionEnv (cvars_nocell hcv) (by intro y hy; simp at hy) (fun h₁ hns hsb => ?_) rfl
      dsimp only at hns hsb ⊢
      have I3 : Inv C h₀ L (ρ2 ++ [s2.heap.objs.size]) vs (h2.new (.list [])) (s2.heap.push { cls := .type "list", data := .seq ([] : List Value).toArray }) :=
        I2.new (fun _ _ e => Heap.get?_push_of_some _ e) (size_none _) ⟨[], isL_push _ _, trivial⟩
      generalize hH : s2.heap.push { cls := .type "list", data := .seq ([] : List Value).toArray } = H3 at hns hsb I3
      have p3 : ρ2 <+: ρ2 ++ [s2.heap.objs.size] := ⟨_, rfl⟩
      obtain ⟨g, Z⟩ := I3.freeze
      have keep : ∀ b o, H3.get? b = some o → h₁.get? b = some o := fun b o e => hsb.extBut b o (Nat.ne_of_lt (Heap.lt_size e)) (Heap.get?_push_of_some _ e)
      have I4 : Inv C g H3.objs.size (ρ2 ++ [s2.heap.objs.size]) cv (h2.new (.list [])) h₁ := Z.enter I3 keep (Nat.le_refl _) hns fun k x q => (lk_cv hcv k x q).elim
      have V4 : EnvOK H3.objs.size (ρ2 ++ [s2.heap.objs.size]) cv (compEnvC (pyScope sc) (clo env sc []) H3.objs.size env) := (V.mono ((p1.trans p2).trans p3)).comp hcv _
      have hD : (ρ2 ++ [s2.heap.objs.size])[h2.n]? = some s2.heap.objs.size := by rw [← I2.len]; simp
      have ne : H3.objs.size ≠ L := by
        obtain ⟨m, F, _⟩ := I3.fr
        obtain ⟨o, es, ep, ho, _⟩ := F.ns
        exact fun z => Nat.lt_irrefl _ (z ▸ Heap.lt_size ho)
      have fin : ∀ s4 : Shared, s4 = { s2 with heap := h₁, toks := s2.toks + ([] : List (Str × Value)).length } → codeAny (model C.prog C.w) A (.compLoop (.ListComp elt.py (pyg ((t, i, ifs) :: rest)) (pyScope sc) p) 0 (.ref a) (.ref s2.heap.objs.size) (compEnvC (pyScope sc) (clo env sc []) H3.objs.size env))
          (compPost (model C.prog C.w) A E use Q (.ref s2.heap.objs.size) H3.objs.size) s4 := by
        rintro s4 rfl
        refine S.cl e3 ao (Z.stays st) V4 I4 (pre_get p3 ha) hD (full := (t, i, ifs) :: rest) rfl fun ρ5 s5 p5 r5 V5 I5 => ?_
        have q : VR C ρ5 (.ref h2.n) (.ref s2.heap.objs.size) := ⟨_, pre_get p5 hD, rfl⟩
        obtain ⟨m5, F5, _⟩ := I5.fr
        exact K ρ5 s5 _ _ _ ((p1.trans p2).trans (p3.trans p5)) ((r1.trans r2).trans ⟨r5.1, r5.2.1, r5.2.2⟩) (Z.leave p5 I5) q F5.ns ne (I3.off (Nat.le_refl _))
      refine comp_start (t := t.py) (i := i.py) (ifs := pys ifs) rfl (fin _ rfl) ?_
      refine self_ok (s := { s2 with heap := h₁, toks := s2.toks + ([] : List (Str × Value)).length }) e2 (vs := vs) (ρ := ρ2) (L := L) (h₀ := h₀) (C := C) (I2.sub fun b o e => keep b o (hH ▸ Heap.get?_push_of_some _ e)) ha (fin _ rfl)
    · cases e
theorem com_ok (S : Snd C R n) {elt : Ex} {gens : List (Ex × Ex × List Ex)} {sc : List (Nat × Kd)} {p : Pos} {v : V} {Q : Value → Shared → Prop} (e : evCom R vs elt gens sc h = some (v, h')) (ao : AOk n A) (st : C.b.StaysIn h₀) (V : EnvOK L ρ vs env) (I : Inv C h₀ L ρ vs h s.heap)
    (K : Post C h₀ L ρ vs h' s v Q) : wpAny (model C.prog C.w) A (eval (Ex.com elt gens sc p).py env) Q E s := by
  show wpAny _ A (eval (.ListComp elt.py (pyg gens) (pyScope sc) p) env) Q E s
  rw [eval_ListComp]
  have fa : firstAsync (pyg gens) = false := by
    cases gens with
    | nil => rfl
    | cons g r => obtain ⟨t, i, ifs⟩ := g; rfl
  rw [fa]
  exact com_core (p := p) (use := none) S e ao st V I fun ρ' s' v' D m p r I' q n ne h0 =>
    ⟨m, n, fun H hs => K ρ' { s' with heap := H } v' p ⟨r.1, r.2.1, r.2.2⟩ (I'.but n ne hs h0) q⟩
end Mj

namespace Mj
open PySem PySem.Calls PyProof.Rows
variable {C : Ctx} {W : Wd} {R : Ops} {n : Nat} {A : Around} {E : Value → Shared → Prop} {s : Shared} {h₀ : Heap} {L : Addr} {ρ : List Addr} {vs vs' : Vars} {h h' : Hp} {env : Env} {fns : List (Nat × Fn)}

theorem ev_ok (B : Base C fns) (S : Snd C R n) {e : Ex} {v : V} {Q : Value → Shared → Prop} (x : evF R vs e h = some (v, h')) (ao : AOk n A) (st : C.b.StaysIn h₀) (V : EnvOK L ρ vs env) (I : Inv C h₀ L ρ vs h s.heap)
    (K : Post C h₀ L ρ vs h' s v Q) : wpAny (model C.prog C.w) A (eval e.py env) Q E s := by
  cases e with
  | num i p => cases x; exact num_ok I K
  | tru b p => cases x; exact wpAny_Constant_bool (K.same I rfl)
  | nam k p => exact nam_ok B x st V I K
  | bin o a b p => exact bin_ok S x ao st V I K
  | neg a p => exact neg_ok S x ao st V I K
  | nott a p => exact nott_ok S x ao st V I K
  | boo o a b p => exact boo_ok S x ao st V I K
  | cmp o a b p => exact cmp_ok S x ao st V I K
  | ife t a b p => exact ife_ok S x ao st V I K
  | lst es p => exact lst_ok S x ao st V I K
  | tup es p => exact tup_ok S x ao st V I K
  | idx a i p => exact idx_ok S x ao st V I K
  | slc a lo hi q p => exact slc_ok S x ao st V I K
  | call f as p => exact call_ok S x ao st V I K
  | bcl b q as p => exact ebcl_ok B S x ao st V I K
  | met o m q as p => exact met_ok S x ao st V I K
  | com elt gens sc p => exact com_ok S x ao st V I K

/-! tests -/
theorem tscmp_ok (S : Snd C R n) {o : CmpOp} {a b : Ex} {p : Pos} {v : Bool} {whole : Sem Value} {Q : Bool → Shared → Prop} (e : tsCmp R vs o a b h = some (v, h')) (ao : AOk n A) (st : C.b.StaysIn h₀) (V : EnvOK L ρ vs env) (I : Inv C h₀ L ρ vs h s.heap)
    (K : PostB C h₀ L ρ vs h' s v Q) : wpAny (model C.prog C.w) A (isTrue (Ex.cmp o a b p).py env whole) Q E s := by
  replace ⟨x, h1, e1, e⟩ := bd_some e
  replace ⟨y, h2, e2, e⟩ := bd_some e
  split at e
  · rename_i r hr
    cases e
    exact wpAny_isTrue_Compare1 (S.ev e1 ao st V I fun ρ1 s1 a p1 r1 I1 q1 => S.ev e2 ao st (V.mono p1) I1 fun ρ2 s2 b p2 r2 I2 q2 => cmpo_ok hr I2 (q1.mono C p2) q2 ao.line (wpAny_truthy_bool (K ρ2 s2 (p1.trans p2) (r1.trans r2) I2))) (noMarks _ _)
  · cases e
theorem allTrue_cons (o : BoolOp) (x : Expr) (r : List Expr) (env : Env) : allTrue o (x :: r) env = (do
    match o, ← isTrue x env (eval x env) with
    | .And, false => pure false
    | .Or, true => pure true
    | _, _ => allTrue o r env) := rfl
theorem tsboo_ok (S : Snd C R n) {o : BoolOp} {a b : Ex} {p : Pos} {v : Bool} {whole : Sem Value} {Q : Bool → Shared → Prop} (e : tsBoo R vs o a b h = some (v, h')) (ao : AOk n A) (st : C.b.StaysIn h₀) (V : EnvOK L ρ vs env) (I : Inv C h₀ L ρ vs h s.heap)
    (K : PostB C h₀ L ρ vs h' s v Q) : wpAny (model C.prog C.w) A (isTrue (Ex.boo o a b p).py env whole) Q E s := by
  replace ⟨x, h1, e1, e⟩ := bd_some e
  show wpAny _ A (allTrue o [a.py, b.py] env) Q E s
  rw [allTrue_cons]
  refine wpAny_bind (S.ts e1 ao st V I fun ρ1 s1 p1 r1 I1 => ?_)
  cases o with
  | And => cases x with
    | true =>
      show wpAny _ A (allTrue _ [b.py] env) Q E s1
      rw [allTrue_cons]
      refine wpAny_bind (S.ts e ao st (V.mono p1) I1 fun ρ2 s2 p2 r2 I2 => ?_)
      cases v with
      | true => exact wpAny_pure (K ρ2 s2 (p1.trans p2) (r1.trans r2) I2)
      | false => exact wpAny_pure (K ρ2 s2 (p1.trans p2) (r1.trans r2) I2)
    | false => cases e; exact wpAny_pure (K ρ1 s1 p1 r1 I1)
  | Or => cases x with
    | true => cases e; exact wpAny_pure (K ρ1 s1 p1 r1 I1)
    | false =>
      show wpAny _ A (allTrue _ [b.py] env) Q E s1
      rw [allTrue_cons]
      refine wpAny_bind (S.ts e ao st (V.mono p1) I1 fun ρ2 s2 p2 r2 I2 => ?_)
      cases v with
      | true => exact wpAny_pure (K ρ2 s2 (p1.trans p2) (r1.trans r2) I2)
      | false => exact wpAny_pure (K ρ2 s2 (p1.trans p2) (r1.trans r2) I2)
theorem tsev_ok (S : Snd C R n) {a : Ex} {v : Bool} {Q : Bool → Shared → Prop} (e : tsEv R vs a h = some (v, h')) (ao : AOk n A) (st : C.b.StaysIn h₀) (V : EnvOK L ρ vs env) (I : Inv C h₀ L ρ vs h s.heap)
    (K : PostB C h₀ L ρ vs h' s v Q) (pl : ∀ whole : Sem Value, isTrue a.py env whole = (do let v ← whole; standAt a.py.pos; holding [v] (truthy v))) : wpAny (model C.prog C.w) A (isTrue a.py env (eval a.py env)) Q E s := by
  replace ⟨x, h1, e1, e⟩ := bd_some e
  refine isTrue_plain (S.ev e1 ao st V I fun ρ1 s1 a p1 r1 I1 q1 => ?_) (pl _)
  split at e
  · cases e; cases q1; exact wpAny_truthy_bool (K ρ1 s1 p1 r1 I1)
  · cases e
theorem ts_ok (S : Snd C R n) {e : Ex} {v : Bool} {Q : Bool → Shared → Prop} (x : tstF R vs e h = some (v, h')) (ao : AOk n A) (st : C.b.StaysIn h₀) (V : EnvOK L ρ vs env) (I : Inv C h₀ L ρ vs h s.heap)
    (K : PostB C h₀ L ρ vs h' s v Q) : wpAny (model C.prog C.w) A (isTrue e.py env (eval e.py env)) Q E s := by
  cases e with
  | cmp o a b p => exact tscmp_ok S x ao st V I K
  | boo o a b p => exact tsboo_ok S x ao st V I K
  | nott a p =>
    have x : tsNot R vs a h = some (v, h') := x
    unfold tsNot at x
    replace ⟨y, h1, e1, x⟩ := bd_some x
    cases x
    exact isTrue_not (S.ts e1 ao st V I fun ρ1 s1 p1 r1 I1 => K ρ1 s1 p1 r1 I1)
  | ife t a b p => cases x
  | _ => exact tsev_ok S x ao st V I K fun _ => rfl

theorem tsts_ok (S : Snd C R n) : ∀ {es : List Ex} {h h' : Hp} {ρ : List Addr} {s : Shared} {v : Bool} {Q : Bool → Shared → Prop}, tsts (R.tst vs) es h = some (v, h') → AOk n A → C.b.StaysIn h₀ → EnvOK L ρ vs env → Inv C h₀ L ρ vs h s.heap → PostB C h₀ L ρ vs h' s v Q →
    wpAny (model C.prog C.w) A (forIn (pys es) true fun c r => if r = true then do let ok ← isTrue c env (eval c env); pure (ForInStep.yield ok) else pure (ForInStep.yield r)) Q E s
  | [], h, h', ρ, s, v, Q, x, ao, st, V, I, K => by cases x; exact tests_nil (K ρ s (pre_refl ρ) (Rest.refl s) I)
  | e :: r, h, h', ρ, s, v, Q, x, ao, st, V, I, K => by
    rw [tsts_cons] at x
    replace ⟨y, h1, e1, x⟩ := bd_some x
    refine tests_cons (S.ts e1 ao st V I fun ρ1 s1 p1 r1 I1 => ?_)
    cases y with
    | true => exact tsts_ok S x ao st (V.mono p1) I1 (postB_aft K p1 r1)
    | false => cases x; exact K ρ1 s1 p1 r1 I1

/-! one turn of a comprehension's loop -/
theorem cl_ok (S : Snd C R n) {elt : Ex} {g : Ex × List Ex} {rest : List (Ex × Ex × List Ex)} {i d : Nat} (x : clF R vs elt g rest i d h = some (vs', h')) {a b : Addr} {full : List (Ex × Ex × List Ex)} {k : Nat} {scope : Scope} {pos : Pos} {ix : Ex}
    {Z : Result → Shared → Prop} (ao : AOk n A) (st : C.b.StaysIn h₀) (V : EnvOK L ρ vs env) (I : Inv C h₀ L ρ vs h s.heap) (ha : ρ[i]? = some a) (hb : ρ[d]? = some b) (hf : full.drop k = (g.1, ix, g.2) :: rest)
    (K : PostC C h₀ L ρ env vs' h' s (fun s => Z (.ok .next) s)) : codeAny (model C.prog C.w) A (.compLoop (.ListComp elt.py (pyg full) scope pos) k (.ref a) (.ref b) env) Z s := by
  have gens : ∀ (l : List (Ex × Ex × List Ex)) (k : Nat) (t i : Ex) (ifs : List Ex) (r : List (Ex × Ex × List Ex)), l.drop k = (t, i, ifs) :: r → (pyg l)[k]? = some ⟨t.py, i.py, pys ifs, 0⟩ ∧ l.drop (k + 1) = r := fun l => by
    induction l with
    | nil => intro k t i ifs r h; simp at h
    | cons y l ih =>
      intro k t i ifs r h
      cases k with
      | zero => simp at h; obtain ⟨rfl, rfl⟩ := h; exact ⟨rfl, by simp⟩
      | succ k => obtain ⟨h1, h2⟩ := ih k t i ifs r (by simpa using h); exact ⟨by obtain ⟨t', i', ifs'⟩ := y; simpa [pyg] using h1, by simpa using h2⟩
  have glen : ∀ (l : List (Ex × Ex × List Ex)) (k : Nat), l.drop k = [] → (pyg l)[k]? = none := fun l => by
    induction l with
    | nil => intro k _; simp [pyg]
    | cons y l ih =>
      intro k h
      cases k with
      | zero => simp at h
      | succ k => obtain ⟨t', i', ifs'⟩ := y; simpa [pyg] using ih k (by simpa using h)
  obtain ⟨hk, hd⟩ := gens full k _ _ _ _ hf
  obtain ⟨t, ifs⟩ := g
  unfold clF at x
  dsimp only at hk hf x
  cases t with
  | nam tk tp =>
    replace ⟨o, h1, e1, x⟩ := bd_some x
    have turn : ∀ {inner : Sem Unit}, compTurn (.ListComp elt.py (pyg full) scope pos) k (.ref a) (.ref b) env = compBody (.ListComp elt.py (pyg full) scope pos) k (.Name (nm tk) tp) ix.py (pys ifs) inner (.ref a) (.ref b) env →
        (∀ vs2 h2 ρ2 s2, ρ <+: ρ2 → Rest s s2 → EnvOK L ρ2 vs2 env → Inv C h₀ L ρ2 vs2 h2 s2.heap → clIn R vs2 elt (.nam tk tp, ifs) rest i d h2 = some (vs', h') →
          wpAny (model C.prog C.w) A inner (fun _ s₄ => codeAny (model C.prog C.w) A (.compLoop (.ListComp elt.py (pyg full) scope pos) k (.ref a) (.ref b) env) Z s₄) (Nt C.prog C.w A env Z) s2) →
        codeAny (model C.prog C.w) A (.compLoop (.ListComp elt.py (pyg full) scope pos) k (.ref a) (.ref b) env) Z s := fun {inner} hinner hin => by
      refine comp_turn hinner ?_
      refine nxt_ok (t := .Name (nm tk) tp) e1 I ha (.inl ⟨_, _, rfl⟩) (fun z => by cases z) ao.handled (fun z => ?_) fun v z => ?_
      · subst z
        intro ρ1 s1 p1 r1 I1
        cases x
        exact K ρ1 s1 p1 r1 (V.mono p1) I1
      · subst z
        intro ρ1 s1 w p1 r1 I1 q1
        replace ⟨vs2, h2, e2, x⟩ := bd_some x
        replace ⟨c, h3, e3, x⟩ := bd_some x
        refine assign_nam e2 (V.mono p1) I1 q1 fun s2 V2 r2 I2 => ?_
        refine tsts_ok S e3 ao st V2 I2 fun ρ3 s3 p3 r3 I3 => ?_
        have p := p1.trans p3
        have r := (r1.trans r2).trans r3
        cases c with
        | true => exact hin vs2 h3 ρ3 s3 p r (V2.mono p3) I3 x
        | false => exact S.cl x ao st (V2.mono p3) I3 (pre_get p ha) (pre_get p hb) hf fun ρ4 s4 p4 r4 V4 I4 => K ρ4 s4 (p.trans p4) (r.trans r4) V4 I4
    cases rest with
    | nil =>
      refine turn (compTurn_last scope pos _ _ env hk (glen full _ hd)) fun vs2 h2 ρ2 s2 p2 r2 V2 I2 x => ?_
      unfold clIn at x
      replace ⟨y, h3, e3, x⟩ := bd_some x
      simp only [len_eq, snoc_eq] at x
      split at x
      · rename_i l hl
        obtain ⟨gs, x⟩ := gd_some x
        split at x
        · rename_i h4 hs
          obtain ⟨hg, rfl⟩ := set_own hs hl
          refine wpAny_bind (S.ev e3 ao st V2 I2 fun ρ3 s3 w p3 r3 I3 q3 => ?_)
          have hb3 := pre_get (p2.trans p3) hb
          obtain ⟨us, l1, q1⟩ := I3.obj hl trivial hb3
          refine wpAny_bind (list_append_plainL l1 (fun H' hn hs' => ?_) ?_)
          · have I4 : Inv C h₀ L ρ3 vs2 (h3.put d ⟨true, .list (l ++ [y])⟩) H' := I3.set hg trivial hb3 (fun b y hb q => (hs'.2 b hb).trans q) ⟨us ++ [w], by simpa using hn, q1.append ⟨q3, trivial⟩⟩
            exact wpAny_pure (S.cl (s := { s3 with heap := H' }) x ao st (V2.mono p3) I4 (pre_get (p2.trans p3) ha) hb3 hf fun ρ4 s4 p4 r4 V4 I4 => K ρ4 s4 ((p2.trans p3).trans p4) ((r2.trans r3).trans ⟨r4.1, r4.2.1, r4.2.2⟩) V4 I4)
          · have : us.length ≤ 1000 := by rw [← q1.length]; exact Nat.le_of_ble_eq_true gs
            exact Nat.le_trans (by simpa using this) (by decide)
        · cases x
      · cases x
    | cons g2 rest2 =>
      obtain ⟨t2, i2, ifs2⟩ := g2
      obtain ⟨hk2, hd2⟩ := gens full _ _ _ _ _ hd
      refine turn (compTurn_more scope pos _ _ env hk hk2) fun vs2 h2 ρ2 s2 p2 r2 V2 I2 x => ?_
      unfold clIn at x
      replace ⟨y, h3, e3, x⟩ := bd_some x
      replace ⟨j, h4, e4, x⟩ := bd_some x
      replace ⟨vs5, h5, e5, x⟩ := bd_some x
      refine wpAny_bind (S.ev e3 ao st V2 I2 fun ρ3 s3 w p3 r3 I3 q3 => wpAny_bind (wpAny_standAt (wpAny_bind (wpAny_of_eq (noFold i2 env w) ?_))))
      refine wpAny_bind (wpAny_holding (itr_ok e4 I3 q3 fun ρ4 s4 u p4 r4 I4 q4 => ?_))
      obtain ⟨c, hc, rfl⟩ := q4
      have P := (p2.trans p3).trans p4
      have RR := (r2.trans r3).trans r4
      have body : codeAny (model C.prog C.w) A (.compLoop (.ListComp elt.py (pyg full) scope pos) (k + 1) (.ref c) (.ref b) env)
          (fun r s' => match r with | .ok f => wpAny (model C.prog C.w) A (pure ()) (fun _ s₄ => codeAny (model C.prog C.w) A (.compLoop (.ListComp elt.py (pyg full) scope pos) k (.ref a) (.ref b) env) Z s₄) (Nt C.prog C.w A env Z) s' | .error e => cameBackBy (model C.prog C.w) A env (Nt C.prog C.w A env Z) e s') s4 := by
        refine S.cl e5 ao st ((V2.mono p3).mono p4) I4 hc (pre_get P hb) hd fun ρ5 s5 p5 r5 V5 I5 => ?_
        exact wpAny_pure (S.cl x ao st V5 I5 (pre_get (P.trans p5) ha) (pre_get (P.trans p5) hb) hf fun ρ6 s6 p6 r6 V6 I6 => K ρ6 s6 ((P.trans p5).trans p6) ((RR.trans r5).trans r6) V6 I6)
      refine wpAny_bind (wpAny_runOwn ?_)
      exact comp_start hk2 body (self_ok e4 I4 hc body)
  | _ => cases x
end Mj

namespace Mj
open PySem PySem.Calls PyProof.Rows
variable {C : Ctx} {W : Wd} {R : Ops} {n : Nat} {A : Around} {E : Value → Shared → Prop} {s : Shared} {h₀ : Heap} {L : Addr} {ρ : List Addr} {vs vs' : Vars} {h h' : Hp} {env : Env} {fns : List (Nat × Fn)}

theorem postS_aft {fl : Fl} {s1 : Shared} {ρ1 : List Addr} {Q : Flow → Shared → Prop} (K : PostS C h₀ L ρ env vs h' s fl Q) (p : ρ <+: ρ1) (r : Rest s s1) : PostS C h₀ L ρ1 env vs h' s1 fl Q :=
  fun ρ' s' f p' r' V I q => K ρ' s' f (p.trans p') (r.trans r') V I q
theorem sxs_ok (S : Snd C R n) : ∀ {b : List Sx} {vs vs' : Vars} {h h' : Hp} {ρ : List Addr} {s : Shared} {fl : Fl} {Q : Flow → Shared → Prop}, sxs R.sx vs b h = some ((fl, vs'), h') → AOk n A → C.b.StaysIn h₀ → EnvOK L ρ vs env → Inv C h₀ L ρ vs h s.heap →
    PostS C h₀ L ρ env vs' h' s fl Q → wpAny (model C.prog C.w) A (execs (pyb b) env) Q E s
  | [], vs, vs', h, h', ρ, s, fl, Q, x, ao, st, V, I, K => by
    cases x
    exact wpAny_execs_nil (K ρ s _ (pre_refl ρ) (Rest.refl s) V I rfl)
  | t :: r, vs, vs', h, h', ρ, s, fl, Q, x, ao, st, V, I, K => by
    rw [sxs_cons] at x
    replace ⟨y, h1, e1, x⟩ := bd_some x
    obtain ⟨fl1, vs1⟩ := y
    refine wpAny_execs_cons (S.sx e1 ao st V I fun ρ1 s1 f p1 r1 V1 I1 q1 => ?_)
    cases fl1 with
    | nxt => cases q1; exact sxs_ok S x ao st V1 I1 (postS_aft K p1 r1)
    | ret v =>
      obtain ⟨w, rfl, q⟩ := q1
      cases x
      exact K ρ1 s1 _ p1 r1 V1 I1 ⟨w, rfl, q⟩
theorem noSwap {e : Ex} (g : isCom e = false) (t : Option Expr) (l : Nat) : swapsWith e.py t l env = pure false := by
  cases e with
  | com => cases g
  | _ => cases t <;> rfl
theorem not_com {e : Ex} (g : (!isCom e) = true) : isCom e = false := by simpa using g
theorem set_ok {j : Nat} {k : Int} {v : V} {a : Addr} {t : Tok} {w : Value} {Q : Unit → Shared → Prop} (e : setIt j k v h = some h') (I : Inv C h₀ L ρ vs h s.heap) (hj : ρ[j]? = some a) (r : VR C ρ v w)
    (K : ∀ s', Rest s s' → Inv C h₀ L ρ vs h' s'.heap → Q () s') : wpAny (model C.prog C.w) A (setItem (.ref a) (.int k t) w) Q E s := by
  obtain ⟨g, e⟩ := gd_some e
  have g12 := small63 g
  obtain ⟨g1, g2⟩ := g12
  split at e
  · rename_i xs hx
    split at e
    · rename_i l hl
      cases k with
      | ofNat m =>
        obtain ⟨gm, hl⟩ := gd_some hl
        cases hl
        have gm : m < xs.length := Nat.le_of_ble_eq_true gm
        obtain ⟨ws, l1, q1⟩ := I.lst hx hj
        obtain ⟨o', hg, rfl⟩ := set_some e
        have al : o'.alive := by
          rw [Hp.lst_eq, Hp.obj_eq] at hx
          rw [hg] at hx
          dsimp only at hx
          split at hx <;> first | exact True.intro | cases hx
        have hlt : (m : Int) < (ws.toArray.size : Int) := by rw [List.size_toArray, ← q1.length]; exact Int.ofNat_lt.mpr gm
        refine wpAny_setItem_list (prog := C.prog) (w := C.w) (s := s) (l := a) (items := ws.toArray) (k := (m : Int)) (t := t) (v := w) (Q := Q) l1 (Int.natCast_nonneg m) g2 hlt fun H' hn hs => ?_
        exact K { s with heap := H' } ⟨rfl, rfl, rfl⟩ (I.set hg al hj (fun b y hb q => (hs.2 b hb).trans q) ⟨ws.set m w, by simpa using hn, q1.set m r⟩)
      | negSucc m => cases hl
    · cases e
  · cases e
theorem asg_ok (S : Snd C R n) {t e : Ex} {p : Pos} {fl : Fl} {Q : Flow → Shared → Prop} (x : sxAsg R vs t e h = some ((fl, vs'), h')) (ao : AOk n A) (st : C.b.StaysIn h₀) (V : EnvOK L ρ vs env) (I : Inv C h₀ L ρ vs h s.heap)
    (K : PostS C h₀ L ρ env vs' h' s fl Q) (ce : ∀ elt gens sc p v h', e = .com elt gens sc p → R.ev vs e h = some (v, h') → ∃ R' n', n' ≤ n ∧ Snd C R' n' ∧ evCom R' vs elt gens sc h = some (v, h')) : wpAny (model C.prog C.w) A (exec (Sx.asg t e p).py env) Q E s := by
  cases t with
  | nam k q =>
    unfold sxAsg at x
    replace ⟨v, h1, e1, x⟩ := bd_some x
    replace ⟨vs2, h2, e2, x⟩ := bd_some x
    cases x
    show wpAny _ A (exec (.Assign [.Name (nm k) q] e.py p) env) Q E s
    have plain : swapsWith e.py (some (.Name (nm k) q)) p.line env = pure false → wpAny (model C.prog C.w) A (exec (.Assign [.Name (nm k) q] e.py p) env) Q E s := fun hs =>
      wpAny_Assign_Name (S.ev e1 ao st V I fun ρ1 s1 a p1 r1 I1 q1 => sto_ok e2 (V.mono p1) I1 q1 fun s2 V2 r2 I2 => K ρ1 s2 _ p1 (r1.trans r2) V2 I2 rfl) hs
    cases hc : isCom e with
    | false => exact plain (noSwap hc _ _)
    | true =>
      cases e with
      | com elt gens sc pc =>
        obtain ⟨b, hb, hk⟩ : ∃ b : Bool, swapsWith (Ex.com elt gens sc pc).py (some (.Name (nm k) q)) p.line env = pure b ∧ (b = true → env.kindOf (nm k) = some .local) := by
          refine ⟨_, rfl, fun hb => ?_⟩
          simp only [Bool.and_eq_true, beq_iff_eq] at hb
          exact hb.1.1.2
        cases b with
        | false => exact plain hb
        | true =>
          have hk := hk rfl
          obtain ⟨R', n', hn', S', e1⟩ := ce _ _ _ _ _ _ rfl e1
          rw [exec_Assign_Name_used _ _ _ _ hb]
          refine wpAny_bind (wpAny_standAt (wpAny_bind ?_))
          have fa : firstAsync (pyg gens) = false := by
            cases gens with
            | nil => rfl
            | cons g r => obtain ⟨t, i, ifs⟩ := g; rfl
          show wpAny _ A (do let _ ← comprehension (Ex.com elt gens sc pc).py (pyScope sc) env (firstIterPos (pyg gens) pc) (newList []) (firstAsync (pyg gens)) (firstIter (pyg gens) env) (some (assign (.Name (nm k) q) env))) _ _ s
          rw [fa]
          refine wpAny_bind (wpAny_mono (com_core (E := E) (Q := fun _ s' => Q .next s') (p := pc) (use := some (assign (.Name (nm k) q) env)) S' e1 (ao.less hn') st V I fun ρ1 s1 a D m p1 r1 I1 q1 n1 ne h0 => ?_) (fun _ s' hq => wpAny_pure (wpAny_pure hq)) fun _ _ e => e)
          show wpAny _ A (assign (.Name (nm k) q) env a) _ _ _
          rw [sto_eq] at e2
          have V1 := V.mono p1
          split at e2
          · rename_i o hsl
            cases e2
            obtain ⟨m', F, hm⟩ := I1.fr
            have n' := F.ns
            rw [← V.loc] at n'
            refine wpAny_assign_Name (wpAny_storeName_local hk n' (fun H' hn hs => ?_) (kindp V))
            rw [V.loc] at hn hs
            have I2 := I1.loc F hm hsl q1 hn hs
            refine ⟨m, n1.sameBut hs ne, fun H2 hs2 => ?_⟩
            exact K ρ1 { s1 with heap := H2, toks := s1.toks + 1 } _ p1 ⟨r1.1, r1.2.1, r1.2.2⟩ (V1.up hsl) (I2.but (n1.sameBut hs ne) ne hs2 h0) rfl
          · rename_i i hsl
            obtain ⟨hc, _⟩ := V.names _ _ hsl
            rw [hk] at hc; cases hc
          · cases e2
      | _ => cases hc
  | idx a i q =>
    unfold sxAsg at x
    replace ⟨v, h1, e1, x⟩ := bd_some x
    obtain ⟨g, x⟩ := gd_some x
    replace ⟨y, h2, e2, x⟩ := bd_some x
    replace ⟨z, h3, e3, x⟩ := bd_some x
    show wpAny _ A (exec (.Assign [.Subscript a.py i.py q] e.py p) env) Q E s
    rw [exec_Assign_Subscript _ _ _ _ _ (noSwap (not_com g) _ _)]
    refine wpAny_bind (wpAny_standAt (wpAny_bind (S.ev e1 ao st V I fun ρ1 s1 w p1 r1 I1 q1 => wpAny_bind ?_)))
    rw [assign_Subscript]
    refine wpAny_bind (wpAny_holding (S.ev e2 ao st (V.mono p1) I1 fun ρ2 s2 u p2 r2 I2 q2 => wpAny_bind (wpAny_holding (S.ev e3 ao st ((V.mono p1).mono p2) I2 fun ρ3 s3 t p3 r3 I3 q3 => wpAny_bind (wpAny_standAt (wpAny_bind (wpAny_holding ?_)))))))
    split at x
    · split at x
      · split at x
        · rename_i h4 hs
          cases x
          obtain ⟨a, ha, rfl⟩ := q2
          obtain ⟨t, rfl⟩ := q3
          refine set_ok hs I3 (pre_get p3 ha) ((q1.mono C p2).mono C p3) fun s4 r4 I4 => wpAny_release (wpAny_pure ?_)
          exact K ρ3 s4 _ ((p1.trans p2).trans p3) (((r1.trans r2).trans r3).trans r4) (((V.mono p1).mono p2).mono p3) I4 rfl
        · cases x
      · cases x
    · cases x
  | _ =>
    unfold sxAsg at x
    replace ⟨v, h1, e1, x⟩ := bd_some x
    cases x
theorem augo_ok {o : Operator} {x y r : V} {a b : Value} {Q : Value → Shared → Prop} (e : augo o x y = some r) (I : Inv C h₀ L ρ vs h s.heap) (rx : VR C ρ x a) (ry : VR C ρ y b) (K : Post C h₀ L ρ vs h s r Q) :
    wpAny (model C.prog C.w) A (inplaceOp o a b) Q E s := by
  unfold augo at e
  split at e
  · split at e
    · obtain ⟨t, rfl⟩ := rx
      obtain ⟨u, rfl⟩ := ry
      split at e
      · cases e; exact iadd_int (K.here I ⟨_, rfl⟩)
      · cases e; exact isub_int (K.here I ⟨_, rfl⟩)
      · obtain ⟨g, e⟩ := gd_some e
        cases e
        rw [leB_eq] at g
        exact irshift_int (of_decide_eq_true g) (K.here I ⟨_, rfl⟩)
      · cases e; exact ior_int (K.here I ⟨_, rfl⟩)
      · obtain ⟨g, e⟩ := gd_some e
        cases e
        rw [eqB_eq] at g
        exact imod_int (by simpa using g) (K.here I ⟨_, rfl⟩)
      · cases e
    · cases e
  · cases e
theorem aug_ok (S : Snd C R n) {k : Nat} {q : Pos} {o : Operator} {e : Ex} {p : Pos} {fl : Fl} {Q : Flow → Shared → Prop} (x : sxAug R vs k o e h = some ((fl, vs'), h')) (ao : AOk n A) (st : C.b.StaysIn h₀) (V : EnvOK L ρ vs env) (I : Inv C h₀ L ρ vs h s.heap)
    (K : PostS C h₀ L ρ env vs' h' s fl Q) : wpAny (model C.prog C.w) A (exec (Sx.aug k q o e p).py env) Q E s := by
  unfold sxAug at x
  split at x
  · rename_i sl hk
    split at x
    · split at x
      · rename_i v
        replace ⟨y, h1, e1, x⟩ := bd_some x
        split at x
        · rename_i r hr
          replace ⟨vs2, h2, e2, x⟩ := bd_some x
          cases x
          show wpAny _ A (exec (.AugAssign (.Name (nm k) q) o e.py p) env) Q E s
          obtain ⟨m, F, hm⟩ := I.fr
          obtain ⟨w, hw, rw'⟩ := hm k _ hk
          have n' := F.ns
          rw [← V.loc] at n'
          refine wpAny_AugAssign_Name (wpAny_loadName_local V.kind (V.names _ _ hk) n' hw (S.ev e1 ao st V I fun ρ1 s1 a p1 r1 I1 q1 => ?_))
          exact augo_ok hr I1 (rw'.mono C p1) q1 fun ρ2 s2 b p2 r2 I2 q2 => sto_ok e2 ((V.mono p1).mono p2) I2 q2 fun s3 V3 r3 I3 => K ρ2 s3 _ (p1.trans p2) ((r1.trans r2).trans r3) V3 I3 rfl
        · cases x
      · cases x
    · cases x
  · cases x
theorem iff_ok (S : Snd C R n) {t : Ex} {a b : List Sx} {p : Pos} {fl : Fl} {Q : Flow → Shared → Prop} (x : sxIff R vs t a b h = some ((fl, vs'), h')) (ao : AOk n A) (st : C.b.StaysIn h₀) (V : EnvOK L ρ vs env) (I : Inv C h₀ L ρ vs h s.heap)
    (K : PostS C h₀ L ρ env vs' h' s fl Q) : wpAny (model C.prog C.w) A (exec (Sx.iff t a b p).py env) Q E s := by
  replace ⟨y, h1, e1, x⟩ := bd_some x
  show wpAny _ A (exec (.If t.py (pyb a) (pyb b) p) env) Q E s
  refine wpAny_If (S.ts e1 ao st V I fun ρ1 s1 p1 r1 I1 => ?_)
  cases y with
  | true => exact sxs_ok S x ao st (V.mono p1) I1 (postS_aft K p1 r1)
  | false => exact sxs_ok S x ao st (V.mono p1) I1 (postS_aft K p1 r1)
theorem ret_ok (S : Snd C R n) {e : Ex} {p : Pos} {fl : Fl} {Q : Flow → Shared → Prop} (x : sxRet R vs e h = some ((fl, vs'), h')) (ao : AOk n A) (st : C.b.StaysIn h₀) (V : EnvOK L ρ vs env) (I : Inv C h₀ L ρ vs h s.heap)
    (K : PostS C h₀ L ρ env vs' h' s fl Q) : wpAny (model C.prog C.w) A (exec (Sx.ret e p).py env) Q E s := by
  replace ⟨y, h1, e1, x⟩ := bd_some x
  cases x
  show wpAny _ A (exec (.Return (some e.py) p) env) Q E s
  exact wpAny_Return_some (S.ev e1 ao st V I fun ρ1 s1 a p1 r1 I1 q1 => K ρ1 s1 _ p1 r1 (V.mono p1) I1 ⟨a, rfl, q1⟩)
theorem exp_ok (S : Snd C R n) {e : Ex} {p : Pos} {fl : Fl} {Q : Flow → Shared → Prop} (x : sxExp R vs e h = some ((fl, vs'), h')) (ao : AOk n A) (st : C.b.StaysIn h₀) (V : EnvOK L ρ vs env) (I : Inv C h₀ L ρ vs h s.heap)
    (K : PostS C h₀ L ρ env vs' h' s fl Q) : wpAny (model C.prog C.w) A (exec (Sx.exp e p).py env) Q E s := by
  obtain ⟨g, x⟩ := gd_some x
  replace ⟨y, h1, e1, x⟩ := bd_some x
  show wpAny _ A (exec (.Expr e.py p) env) Q E s
  split at x
  · cases x
    refine wpAny_Expr (S.ev e1 ao st V I fun ρ1 s1 a p1 r1 I1 q1 => ?_) (by unfold interactive; rw [V.kind]; rfl) (noSwap (not_com g) _ _)
    cases q1
    exact K ρ1 s1 _ p1 r1 (V.mono p1) I1 rfl
  · cases x
theorem whl_ok (S : Snd C R n) {t : Ex} {b : List Sx} {p : Pos} {fl : Fl} {Q : Flow → Shared → Prop} (x : R.wh vs t b h = some ((fl, vs'), h')) (ao : AOk n A) (st : C.b.StaysIn h₀) (V : EnvOK L ρ vs env) (I : Inv C h₀ L ρ vs h s.heap)
    (K : PostS C h₀ L ρ env vs' h' s fl Q) : wpAny (model C.prog C.w) A (exec (Sx.whl t b p).py env) Q E s := by
  show wpAny _ A (exec (.While t.py (pyb b) [] p) env) Q E s
  exact wpAny_While (S.wh x ao st V I K)
theorem forr_ok (S : Snd C R n) {t i : Ex} {b : List Sx} {p : Pos} {fl : Fl} {Q : Flow → Shared → Prop} (x : sxFor R vs t i b h = some ((fl, vs'), h')) (ao : AOk n A) (st : C.b.StaysIn h₀) (V : EnvOK L ρ vs env) (I : Inv C h₀ L ρ vs h s.heap)
    (K : PostS C h₀ L ρ env vs' h' s fl Q) : wpAny (model C.prog C.w) A (exec (Sx.forr t i b p).py env) Q E s := by
  replace ⟨y, h1, e1, x⟩ := bd_some x
  replace ⟨j, h2, e2, x⟩ := bd_some x
  show wpAny _ A (exec (.For t.py i.py (pyb b) [] p) env) Q E s
  refine wpAny_For (S.ev e1 ao st V I fun ρ1 s1 a p1 r1 I1 q1 => itr_ok e2 I1 q1 fun ρ2 s2 c p2 r2 I2 q2 => ?_) (fun v => noFold i env v)
  obtain ⟨a, ha, rfl⟩ := q2
  exact S.fo x ao st ((V.mono p1).mono p2) I2 ha fun ρ3 s3 f p3 r3 V3 I3 q3 => K ρ3 s3 f ((p1.trans p2).trans p3) ((r1.trans r2).trans r3) V3 I3 q3

/-! one turn of a loop -/
theorem wh_ok (S : Snd C R n) {t : Ex} {b : List Sx} {fl : Fl} {Z : Result → Shared → Prop} (x : whF R vs t b h = some ((fl, vs'), h')) (ao : AOk n A) (st : C.b.StaysIn h₀) (V : EnvOK L ρ vs env) (I : Inv C h₀ L ρ vs h s.heap)
    (K : PostS C h₀ L ρ env vs' h' s fl (fun f s => Z (.ok f) s)) : codeAny (model C.prog C.w) A (.whileLoop t.py (pyb b) [] env) Z s := by
  replace ⟨y, h1, e1, x⟩ := bd_some x
  refine while_turn (S.ts e1 ao st V I fun ρ1 s1 p1 r1 I1 => ?_)
  cases y with
  | false => cases x; exact K ρ1 s1 _ p1 r1 (V.mono p1) I1 rfl
  | true =>
    replace ⟨z, h2, e2, x⟩ := bd_some x
    obtain ⟨fl2, vs2⟩ := z
    refine sxs_ok S e2 ao st (V.mono p1) I1 fun ρ2 s2 f p2 r2 V2 I2 q2 => ?_
    cases fl2 with
    | nxt => cases q2; exact S.wh x ao st V2 I2 (postS_aft K (p1.trans p2) (r1.trans r2))
    | ret v =>
      obtain ⟨w, rfl, q⟩ := q2
      cases x
      exact K ρ2 s2 _ (p1.trans p2) (r1.trans r2) V2 I2 ⟨w, rfl, q⟩
theorem tgt_shape {t : Ex} (e : (isNam t || isTup t) = true) : (∃ x p, t.py = .Name x p) ∨ ∃ es k p, t.py = .Tuple es k p := by
  cases t with
  | nam k p => exact .inl ⟨_, _, rfl⟩
  | tup es p => exact .inr ⟨_, _, _, rfl⟩
  | _ => cases e
theorem isTup_shape {t : Ex} (e : isTup t = true) : ∃ es k p, t.py = .Tuple es k p := by
  cases t with
  | tup es p => exact ⟨_, _, _, rfl⟩
  | _ => cases e
theorem fo_ok (S : Snd C R n) {t : Ex} {i : Nat} {a : Addr} {b : List Sx} {fl : Fl} {Z : Result → Shared → Prop} (x : foF R vs t i b h = some ((fl, vs'), h')) (ao : AOk n A) (st : C.b.StaysIn h₀) (V : EnvOK L ρ vs env) (I : Inv C h₀ L ρ vs h s.heap)
    (ha : ρ[i]? = some a) (K : PostS C h₀ L ρ env vs' h' s fl (fun f s => Z (.ok f) s)) : codeAny (model C.prog C.w) A (.forLoop t.py (.ref a) (pyb b) [] env) Z s := by
  replace ⟨g, x⟩ := gd_some x
  replace ⟨o, h1, e1, x⟩ := bd_some x
  refine for_turn ?_
  refine nxt_ok (t := t.py) e1 I ha (tgt_shape g) isTup_shape ao.handled (fun z => ?_) fun v z => ?_
  · subst z
    intro ρ1 s1 p1 r1 I1
    cases x
    exact K ρ1 s1 _ p1 r1 (V.mono p1) I1 rfl
  · subst z
    intro ρ1 s1 w p1 r1 I1 q1
    replace ⟨vs2, h2, e2, x⟩ := bd_some x
    replace ⟨z, h3, e3, x⟩ := bd_some x
    obtain ⟨fl3, vs3⟩ := z
    refine tgt_ok e2 ao.handled (V.mono p1) I1 q1 fun s2 V2 r2 I2 => ?_
    refine sxs_ok S e3 ao st V2 I2 fun ρ3 s3 f p3 r3 V3 I3 q3 => ?_
    have p := p1.trans p3
    have r := (r1.trans r2).trans r3
    cases fl3 with
    | nxt => cases q3; exact S.fo x ao st V3 I3 (pre_get p ha) (postS_aft K p r)
    | ret v =>
      obtain ⟨w, rfl, q⟩ := q3
      cases x
      exact K ρ3 s3 _ p r V3 I3 ⟨w, rfl, q⟩
end Mj

namespace Mj
open PySem PySem.Calls PyProof.Rows
variable {C : Ctx} {W : Wd} {R : Ops} {n : Nat} {A : Around} {E : Value → Shared → Prop} {s : Shared} {h₀ : Heap} {L : Addr} {ρ : List Addr} {vs vs' : Vars} {h h' : Hp} {env : Env} {fns : List (Nat × Fn)}

theorem live_const : ∀ {n : Nat} {e : Ex}, live n e = true → constantsAlone n e.py = false
  | 0, e, g => by
    cases e with
    | nam k p => exact nm_debug k
    | call | bcl | lst | com | cmp | boo | ife | met => rfl
    | _ => cases g
  | n + 1, e, g => by
    cases e with
    | nam k p => exact nm_debug k
    | idx a i p =>
      have g : (live n a || live n i) = true := g
      show (constantsAlone n a.py && constantsAlone n i.py) = false
      rcases Bool.or_eq_true _ _ ▸ g with q | q
      · rw [live_const q]; rfl
      · rw [live_const q]; simp
    | bin o a b p =>
      have g : (live n a || live n b) = true := g
      show (constantsAlone n a.py && constantsAlone n b.py) = false
      rcases Bool.or_eq_true _ _ ▸ g with q | q
      · rw [live_const q]; rfl
      · rw [live_const q]; simp
    | neg a p => exact live_const (n := n) (e := a) g
    | nott a p => exact live_const (n := n) (e := a) g
    | call | bcl | lst | com | cmp | boo | ife | met => rfl
    | _ => cases g
theorem live_fold {n : Nat} {e : Ex} (g : live (n + 1) e = true) : foldedForSure (n + 1) e.py = false := by
  cases e with
  | neg a p =>
    have g : live n a = true := g
    cases a with
    | num => cases n <;> cases g
    | tru => cases n <;> cases g
    | _ => rfl
  | nott a p =>
    have g : live n a = true := g
    cases a with
    | num => cases n <;> cases g
    | tru => cases n <;> cases g
    | _ => rfl
  | num | tru | tup => cases g
  | _ => rfl
theorem all_false {P : Expr → Bool} {Q : Ex → Bool} (hpq : ∀ e, Q e = true → P e.py = false) : ∀ {es : List Ex}, es.any Q = true → (pys es).all P = false
  | [], g => by cases g
  | e :: r, g => by
    rw [List.any_cons, Bool.or_eq_true] at g
    show (P e.py && (pys r).all P) = false
    rcases g with q | q
    · rw [hpq e q]; rfl
    · rw [all_false hpq q]; simp
theorem any_none {f : Expr → Bool} (hf : ∀ e : Ex, f e.py = false) : ∀ es : List Ex, (pys es).any f = false
  | [] => rfl
  | e :: r => by show (f e.py || (pys r).any f) = false; rw [hf e, any_none hf r]; rfl
theorem pys_len : ∀ es : List Ex, (pys es).length = es.length
  | [] => rfl
  | e :: r => by show (pys r).length + 1 = _; rw [pys_len r]; rfl
noncomputable def swNames (env : Env) (line : Nat) (ts : List Expr) : List Str := ts.filterMap fun
    | .Name id pos => if env.kindOf id == some .local && pos.line == line then some id else none
    | _ => none
theorem swapped_tup {ts es : List Ex} {q p : Pos} {l : Nat} (hl : l = ((pys ts).head?.map (·.pos.line)).getD 0) (hb : env.blockKind = .function) (hlen : ts.length = es.length) :
    swappedStores [.Tuple (pys ts) 0 q] (Ex.tup es p).py env = (do
      if !(ts.length == 2 || ts.length == 3) then return none
      if (swNames env l (pys ts)).length != ts.length || (swNames env l (pys ts)).eraseDups.length != (swNames env l (pys ts)).length then return none
      if (pys es).all (foldedForSure 8) then return none
      if (pys es).all (constantsAlone 8) then unsupported "assign.tuple-of-constant-expressions:order-of-the-stores"
      return some (swNames env l (pys ts))) := by
  subst hl
  show swappedStores [.Tuple (pys ts) 0 q] (.Tuple (pys es) 0 p) env = _
  unfold swappedStores
  simp only [pys_len, hb, hlen, bne_self_eq_false, Bool.or_false]
  rw [any_none (fun e => by cases e <;> rfl)]
  rfl
theorem sw_lines (V : EnvOK L ρ vs env) {l : Nat} : ∀ {ts : List Ex}, lines l vs ts = true → swNames env l (pys ts) = (keys ts).map nm ∧ (keys ts).length = ts.length
  | [], _ => ⟨rfl, rfl⟩
  | t :: r, g => by
    cases t with
    | nam k p =>
      have g : (Nat.beq p.line l && (match lk k vs with | some (.loc _) => true | _ => false) && lines l vs r) = true := g
      simp only [Bool.and_eq_true] at g
      obtain ⟨⟨g1, g2⟩, g3⟩ := g
      obtain ⟨h1, h2⟩ := sw_lines V g3
      have hk : env.kindOf (nm k) = some .local := by
        split at g2
        · rename_i o ho; exact V.names _ _ ho
        · cases g2
      refine ⟨?_, by show (keys r).length + 1 = _; rw [h2]; rfl⟩
      show (List.filterMap _ (Expr.Name (nm k) p :: pys r)) = _
      have hc : (env.kindOf (nm k) == some .local && p.line == l) = true := by rw [hk, Nat.eq_of_beq_eq_true g1]; simp
      rw [List.filterMap_cons_some (b := nm k)]
      · exact congrArg (nm k :: ·) h1
      · show (if (env.kindOf (nm k) == some .local && p.line == l) = true then some (nm k) else none) = _
        rw [if_pos hc]
    | _ => cases g
theorem sw_le (l : Nat) (ts : List Ex) : (swNames env l (pys ts)).length ≤ ts.length := by
  rw [← pys_len]; exact List.length_filterMap_le _ _
theorem sw_drop (V : EnvOK L ρ vs env) {l : Nat} : ∀ {ts : List Ex}, (ts.any fun t => match t with | .nam k _ => (match lk k vs with | some (.cel _) => true | _ => false) | _ => false) = true → (swNames env l (pys ts)).length < ts.length
  | [], g => by cases g
  | t :: r, g => by
    rw [List.any_cons, Bool.or_eq_true] at g
    have step : (swNames env l (pys (t :: r))).length ≤ (swNames env l (pys r)).length + 1 := by
      show (List.filterMap _ (t.py :: pys r)).length ≤ _
      rw [List.filterMap_cons]
      split <;> simp [swNames]
    rcases g with g | g
    · cases t with
      | nam k p =>
        have hk : env.kindOf (nm k) = some .cell := by
          dsimp only at g
          split at g
          · rename_i i ho; exact (V.names _ _ ho).1
          · cases g
        have : swNames env l (pys (.nam k p :: r)) = swNames env l (pys r) := by
          show (List.filterMap _ (Expr.Name (nm k) p :: pys r)) = _
          rw [List.filterMap_cons_none]
          · rfl
          · show (if (env.kindOf (nm k) == some .local && p.line == l) = true then some (nm k) else none) = _
            rw [hk]; rfl
        rw [this]
        exact Nat.lt_succ_of_le (sw_le l r)
      | _ => cases g
    · exact Nat.lt_of_le_of_lt step (Nat.succ_lt_succ (sw_drop V g))
theorem nmne {a b : Nat} (g : Nat.beq a b = false) : nm b ≠ nm a := fun e => by rw [nm_inj e, Nat.beq_refl] at g; cases g
theorem dist_dups : ∀ {ks : List Nat}, ks.length ≤ 3 → dist ks = true → (ks.map nm).eraseDups.length = (ks.map nm).length
  | [], _, _ => rfl
  | [a], _, _ => by simp [List.eraseDups_cons]
  | [a, b], _, g => by
    simp [dist] at g
    have h : nm b ≠ nm a := nmne g
    simp [List.eraseDups_cons, h]
  | [a, b, c], _, g => by
    simp [dist] at g
    have h1 : nm b ≠ nm a := nmne g.1.1
    have h2 : nm c ≠ nm a := nmne g.1.2
    have h3 : nm c ≠ nm b := nmne g.2
    simp [List.eraseDups_cons, h1, h2, h3]
  | _ :: _ :: _ :: _ :: _, h, _ => by simp at h
theorem blockFn (V : EnvOK L ρ vs env) : env.blockKind = .function := by unfold Env.blockKind; rw [V.kind]; rfl
theorem road_ok (V : EnvOK L ρ vs env) {ts : List Ex} {e : Ex} {b : Bool} {q : Pos} (x : road ts e vs = some b) :
    swappedStores [.Tuple (pys ts) 0 q] e.py env = pure (match b with | true => some ((keys ts).map nm) | false => none) := by
  unfold road at x
  split at x
  · rename_i es p
    replace ⟨g, x⟩ := gd_some x
    have hlen : ts.length = es.length := Nat.eq_of_beq_eq_true g
    rw [swapped_tup rfl (blockFn V) hlen]
    split at x
    · rename_i hle
      have hle : ts.length ≤ 3 := Nat.le_of_ble_eq_true hle
      split at x
      · rename_i kk p' r x0 x1
        split at x
        · rename_i hl
          replace ⟨g2, x⟩ := gd_some x
          cases x
          simp only [Bool.and_eq_true] at g2
          obtain ⟨⟨g2, g3⟩, g4⟩ := g2
          have g4 := Nat.le_of_ble_eq_true g4
          obtain ⟨h1, h2⟩ := sw_lines V hl
          have hline : ((pys (Ex.nam kk p' :: r)).head?.map (·.pos.line)).getD 0 = p'.line := rfl
          rw [hline, h1]
          have c1 : (!((Ex.nam kk p' :: r).length == 2 || (Ex.nam kk p' :: r).length == 3)) = false := by
            have : (Ex.nam kk p' :: r).length = 2 ∨ (Ex.nam kk p' :: r).length = 3 := by omega
            rcases this with q | q <;> rw [q] <;> rfl
          rw [c1]
          have c2 : (((keys (Ex.nam kk p' :: r)).map nm).length != (Ex.nam kk p' :: r).length || ((keys (Ex.nam kk p' :: r)).map nm).eraseDups.length != ((keys (Ex.nam kk p' :: r)).map nm).length) = false := by
            rw [dist_dups (by rw [h2]; exact hle) g2, List.length_map, h2]; simp
          rw [c2, all_false (fun e => live_fold) g3, all_false (fun e => live_const) g3]
          rfl
        · replace ⟨g2, x⟩ := gd_some x
          cases x
          have hd := sw_drop (l := ((pys (Ex.nam kk p' :: r)).head?.map (·.pos.line)).getD 0) V g2
          have c2 : ((swNames env (((pys (Ex.nam kk p' :: r)).head?.map (·.pos.line)).getD 0) (pys (Ex.nam kk p' :: r))).length != (Ex.nam kk p' :: r).length) = true := bne_iff_ne.mpr (Nat.ne_of_lt hd)
          rw [c2]
          cases (!((Ex.nam kk p' :: r).length == 2 || (Ex.nam kk p' :: r).length == 3)) <;> rfl
      · cases x
    · rename_i hle
      cases x
      have : ¬ ts.length ≤ 3 := fun z => by rw [Nat.ble_eq_true_of_le z] at hle; cases hle
      have c1 : (!(ts.length == 2 || ts.length == 3)) = true := by
        have h2 : ts.length ≠ 2 := by omega
        have h3 : ts.length ≠ 3 := by omega
        simp [h2, h3]
      rw [c1]
      rfl
  · rename_i hn
    cases x
    cases e with
    | tup es p => exact (hn _ _ rfl).elim
    | _ => rfl
theorem stos_bind : ∀ {ts : List Ex} {xs : List V} {ws : List Value} {vs vs' : Vars} {h h' : Hp} {s : Shared} {Q : Unit → Shared → Prop}, stos ts xs vs h = some (vs', h') → EnvOK L ρ vs env → Inv C h₀ L ρ vs h s.heap → VRs C ρ xs ws →
    (∀ s', EnvOK L ρ vs' env → Rest s s' → Inv C h₀ L ρ vs' h' s'.heap → Q () s') → wpAny (model C.prog C.w) A (assignInOrder ((keys ts).map fun k => bindName env (nm k)) ws) Q E s
  | [], [], [], vs, vs', h, h', s, Q, e, V, I, _, K => by
    cases e
    exact wpAny_pure (K s V (Rest.refl s) I)
  | t :: ts, x :: xs, w :: ws, vs, vs', h, h', s, Q, e, V, I, r, K => by
    rw [stos_cons] at e
    split at e
    · rename_i k p
      obtain ⟨vs1, h1, e1, e2⟩ := bd_some e
      show wpAny _ _ (do holding ws (bindName env (nm k) w); assignInOrder ((keys ts).map fun k => bindName env (nm k)) ws) Q E s
      refine wpAny_bind (wpAny_holding (wpAny_bindName (sto_ok e1 V I r.1 fun s1 V1 R1 I1 => ?_)))
      exact stos_bind e2 V1 I1 r.2 fun s2 V2 R2 I2 => K s2 V2 (R1.trans R2) I2
    · cases e
  | [], _ :: _, _, _, _, _, _, _, _, e, _, _, _, _ => by cases e
  | _ :: _, [], _, _, _, _, _, _, _, e, _, _, _, _ => by cases e
  | [], [], _ :: _, _, _, _, _, _, _, _, _, _, r, _ => r.elim
  | _ :: _, _ :: _, [], _, _, _, _, _, _, _, _, _, r, _ => r.elim
theorem keys_append : ∀ a b : List Ex, keys (a ++ b) = keys a ++ keys b
  | [], b => rfl
  | t :: a, b => by
    have ih := keys_append a b
    cases t with
    | nam k p => show k :: keys (a ++ b) = k :: keys a ++ keys b; rw [ih]; rfl
    | _ => exact ih
theorem keys_reverse : ∀ a : List Ex, keys a.reverse = (keys a).reverse
  | [] => rfl
  | t :: a => by
    rw [List.reverse_cons, keys_append, keys_reverse a]
    cases t with
    | nam k p => show _ = (k :: keys a).reverse; rw [List.reverse_cons]; rfl
    | _ => show _ ++ [] = _; rw [List.append_nil]; rfl
theorem ast_ok (S : Snd C R n) {ts : List Ex} {q : Pos} {e : Ex} {p : Pos} {fl : Fl} {Q : Flow → Shared → Prop} (x : sxAst R vs ts e h = some ((fl, vs'), h')) (ao : AOk n A) (st : C.b.StaysIn h₀) (V : EnvOK L ρ vs env) (I : Inv C h₀ L ρ vs h s.heap)
    (K : PostS C h₀ L ρ env vs' h' s fl Q) : wpAny (model C.prog C.w) A (exec (Sx.ast ts q e p).py env) Q E s := by
  obtain ⟨g, x⟩ := gd_some x
  replace ⟨v, h1, e1, x⟩ := bd_some x
  show wpAny _ A (exec (.Assign [.Tuple (pys ts) 0 q] e.py p) env) Q E s
  have hs : swapsWithSole [.Tuple (pys ts) 0 q] e.py p.line env = pure false := by show swapsWith e.py (some (.Tuple (pys ts) 0 q)) p.line env = _; exact noSwap (not_com g) _ _
  split at x
  · rename_i i
    split at x
    · rename_i xs hx
      split at x
      · rename_i hr
        replace ⟨vs2, h2, e2, x⟩ := bd_some x
        cases x
        have hw := road_ok (q := q) V hr
        refine Assign_Tuple_swapped (S.ev e1 ao st V I fun ρ1 s1 a p1 r1 I1 q1 => ?_) hs hw
        obtain ⟨a, ha, rfl⟩ := q1
        obtain ⟨ws, l1, q1⟩ := I1.obj hx trivial ha
        have hkl : ((keys ts).map nm).length = ws.toArray.size := by
          have h1 : ts.length = xs.length := by have := stos_len e2; simpa using this
          have h2 : (keys ts).length = ts.length := by
            unfold road at hr
            split at hr
            · obtain ⟨_, hr⟩ := gd_some hr
              split at hr
              · split at hr
                · split at hr
                  · rename_i hl; exact (sw_lines V hl).2
                  · obtain ⟨_, hr⟩ := gd_some hr; cases hr
                · cases hr
              · cases hr
            · cases hr
          rw [List.length_map, h2, h1, q1.length]; rfl
        rw [hkl]
        refine unpackItems_tuple ao.handled l1 fun H' he => ?_
        have I2 : Inv C h₀ L ρ1 vs h1 H' := I1.sub fun b o q => he b o (Nat.ne_of_lt (Heap.lt_size q)) q
        have hrev : ((keys ts).map nm).reverse.map (fun n => bindName env n) = (keys ts.reverse).map fun k => bindName env (nm k) := by
          rw [keys_reverse, ← List.map_reverse, List.map_map]; rfl
        rw [hrev]
        exact stos_bind (s := { s1 with heap := H' }) e2 (V.mono p1) I2 q1.rev fun s3 V3 r3 I3 => K ρ1 s3 _ p1 (r1.trans ⟨r3.1, r3.2.1, r3.2.2⟩) V3 I3 rfl
      · rename_i hr
        replace ⟨vs2, h2, e2, x⟩ := bd_some x
        cases x
        have hw := road_ok (q := q) V hr
        refine Assign_Tuple (S.ev e1 ao st V I fun ρ1 s1 a p1 r1 I1 q1 => ?_) hs hw
        obtain ⟨a, ha, rfl⟩ := q1
        exact assign_tup hx ha e2 ao.handled (V.mono p1) I1 fun s2 V2 r2 I2 => K ρ1 s2 _ p1 (r1.trans r2) V2 I2 rfl
      · cases x
    · cases x
  · cases x
end Mj

namespace Mj
open PySem PySem.Calls PyProof.Rows
variable {C : Ctx} {W : Wd} {R : Ops} {n : Nat} {A : Around} {E : Value → Shared → Prop} {s : Shared} {h₀ g H : Heap} {L : Addr} {ρ : List Addr} {vs vs' : Vars} {h h' : Hp} {env : Env} {fns : List (Nat × Fn)}

/-- what the arguments' list says of the frame's two maps -/
noncomputable def BindR (C : Ctx) (ρ : List Addr) (kd : Str → Option NameKind) (bs : List (Nat × V)) (m cm : Str → Option Value) : Prop := ∀ k,
  (kd (nm k) = some .local → ∀ x, lk k bs = some x → ∃ v, m (nm k) = some v ∧ VR C ρ x v) ∧
  (kd (nm k) ≠ some .local → (lk k bs = none → cm (nm k) = none) ∧ ∀ x, lk k bs = some x → ∃ v, cm (nm k) = some v ∧ VR C ρ x v)
theorem bind_nil (kd : Str → Option NameKind) : BindR C ρ kd [] (fun _ => none) (fun _ => none) := fun k => ⟨fun _ x e => (by rw [lk_nil] at e; cases e), fun _ => ⟨fun _ => rfl, fun x e => (by rw [lk_nil] at e; cases e)⟩⟩
theorem bind_ok {kd : Str → Option NameKind} : ∀ {ps : List (Nat × Pos)} {xs : List V} {ws : List Value} {acc bs : List (Nat × V)} {m cm : Str → Option Value}, zipb ps xs acc = some bs → VRs C ρ xs ws → BindR C ρ kd acc m cm →
    BindR C ρ kd bs (bindL kd ((ps.map fun p => nm p.1).zip ws) m) (bindC kd ((ps.map fun p => nm p.1).zip ws) cm)
  | [], [], [], acc, bs, m, cm, e, _, b => by cases e; exact b
  | p :: ps, x :: xs, w :: ws, acc, bs, m, cm, e, r, b => by
    rw [zipb_cons] at e
    refine bind_ok (m := if kd (nm p.1) = some .local then fun y => if y = nm p.1 then some w else m y else m) (cm := if kd (nm p.1) = some .local then cm else fun y => if y = nm p.1 then some w else cm y) e r.2 fun k => ⟨fun hk y hy => ?_, fun hk => ⟨fun hy => ?_, fun y hy => ?_⟩⟩
    · rw [lk_cons] at hy
      split at hy
      · rename_i q
        cases hy
        dsimp only at q
        subst q
        rw [if_pos hk]
        exact ⟨w, by simp, r.1⟩
      · rename_i q
        obtain ⟨v, hv, rv⟩ := (b k).1 hk y hy
        refine ⟨v, ?_, rv⟩
        split
        · show (if nm k = nm p.1 then some w else m (nm k)) = _
          rw [if_neg fun z => q (nm_inj z).symm]; exact hv
        · exact hv
    · rw [lk_cons] at hy
      split at hy
      · cases hy
      · rename_i q
        have hv := ((b k).2 hk).1 hy
        split
        · exact hv
        · show (if nm k = nm p.1 then some w else cm (nm k)) = _
          rw [if_neg fun z => q (nm_inj z).symm]; exact hv
    · rw [lk_cons] at hy
      split at hy
      · rename_i q
        cases hy
        dsimp only at q
        subst q
        rw [if_neg hk]
        exact ⟨w, by simp, r.1⟩
      · rename_i q
        obtain ⟨v, hv, rv⟩ := ((b k).2 hk).2 y hy
        refine ⟨v, ?_, rv⟩
        split
        · exact hv
        · show (if nm k = nm p.1 then some w else cm (nm k)) = _
          rw [if_neg fun z => q (nm_inj z).symm]; exact hv
  | [], [], _ :: _, _, _, _, _, _, r, _ => r.elim
  | _ :: _, _ :: _, [], _, _, _, _, _, r, _ => r.elim
  | [], _ :: _, _, _, _, _, _, e, _, _ => by cases e
  | _ :: _, [], _, _, _, _, _, e, _, _ => by cases e
theorem acc_sub : ∀ {names : List (Str × NameKind)} {n : Nat} {acc : List (Str × Addr)} {y : Str × Addr}, y ∈ acc → y ∈ cellsFrom n names acc
  | [], _, _, _, h => h
  | (name, kind) :: r, n, acc, y, h => by
    unfold cellsFrom
    split
    · exact acc_sub (.tail _ h)
    · exact acc_sub h
theorem cell_in : ∀ {names : List (Str × NameKind)} {n : Nat} {acc : List (Str × Addr)} {y : Str}, (y, NameKind.cell) ∈ names → ∃ c, (y, c) ∈ cellsFrom n names acc
  | (name, kind) :: r, n, acc, y, h => by
    unfold cellsFrom
    rcases List.mem_cons.mp h with q | q
    · cases q
      rw [if_pos (by rfl)]
      exact ⟨n, acc_sub (.head _)⟩
    · split
      · exact cell_in q
      · exact cell_in q
theorem mem_lookup : ∀ {l : List (Str × Addr)} {y : Str} {c : Addr}, (y, c) ∈ l → (l.lookup y).isSome = true
  | (z, d) :: r, y, c, h => by
    rw [List.lookup_cons]
    split
    · rfl
    · rename_i q
      rcases List.mem_cons.mp h with e | e
      · cases e; simp at q
      · exact mem_lookup e
theorem lookup_mem : ∀ {l : List (Str × NameKind)} {y : Str} {k : NameKind}, l.lookup y = some k → (y, k) ∈ l
  | (z, d) :: r, y, k, h => by
    rw [List.lookup_cons] at h
    split at h
    · rename_i q; cases h; rw [eq_of_beq q]; exact .head _
    · exact .tail _ (lookup_mem h)
/-- the frame's names at the entry -/
theorem ent_ok {bs : List (Nat × V)} {full : List (Str × NameKind)} {cs : List (Str × Addr)} {m cm : Str → Option Value} (hm : BindR C ρ (fun y => full.lookup y) bs m cm) (hcell : ∀ y c, cs.lookup y = some c → H.IsCell c (cm y)) (hg : ∀ a, L < a → g.get? a = none) :
    ∀ {sc : List (Nat × Kd)} {c : Vars} {h h' : Hp} {ρ1 : List Addr} {k : Nat} {acc : List (Str × Addr)}, ent bs sc h = some (c, h') → ρ <+: ρ1 → (∀ x ∈ sc, full.lookup (nm x.1) = some x.2.py) → (∀ y a, (y, a) ∈ cellsFrom k (pyNames sc) acc → cs.lookup y = some a) →
      Inv C g L ρ1 [] h H → (∀ i c a, h.get i = some c → c.o.alive → ρ1[i]? = some a → a < k) → L < k →
      ∃ ρ', ρ1 <+: ρ' ∧ Inv C g L ρ' [] h' H ∧ ∀ j sl, lk j c = some sl → (match sl with
        | .loc o => full.lookup (nm j) = some .local ∧ o = lk j bs
        | .glo => full.lookup (nm j) = some .globalImplicit
        | .cel i => full.lookup (nm j) = some .cell ∧ ∃ a, cs.lookup (nm j) = some a ∧ ρ'[i]? = some a)
  | [], c, h, h', ρ1, k, acc, e, p, hx, hc, I, lt, hk => by
    cases e
    exact ⟨ρ1, pre_refl _, I, fun j sl q => by cases q⟩
  | (x, d) :: r, c, h, h', ρ1, k, acc, e, p, hx, hc, I, lt, hk => by
    rw [ent_cons] at e
    dsimp only at e
    have hx1 := hx (x, d) (.head _)
    have hxr : ∀ y ∈ r, full.lookup (nm y.1) = some y.2.py := fun y hy => hx y (.tail _ hy)
    split at e
    · replace ⟨c', h1, e1, e⟩ := bd_some e
      cases e
      obtain ⟨ρ', p', I', K⟩ := ent_ok hm hcell hg e1 p hxr hc I lt hk
      refine ⟨ρ', p', I', fun j sl q => ?_⟩
      rw [lk_cons] at q
      split at q
      · rename_i z; dsimp only at z; subst z; cases q; exact ⟨hx1, rfl⟩
      · exact K j sl q
    · replace ⟨c', h1, e1, e⟩ := bd_some e
      cases e
      obtain ⟨ρ', p', I', K⟩ := ent_ok hm hcell hg e1 p hxr hc I lt hk
      refine ⟨ρ', p', I', fun j sl q => ?_⟩
      rw [lk_cons] at q
      split at q
      · rename_i z; dsimp only at z; subst z; cases q; exact hx1
      · exact K j sl q
    · replace ⟨c', h1, e1, e⟩ := bd_some e
      cases e
      have hc' : ∀ y a, (y, a) ∈ cellsFrom (k + 1) (pyNames r) ((nm x, k) :: acc) → cs.lookup y = some a := hc
      have hcx : cs.lookup (nm x) = some k := hc' _ _ (acc_sub (.head _))
      have I1 : Inv C g L (ρ1 ++ [k]) [] (h.new (.cell (lk x bs))) H := by
        refine I.add (fun i c ei al hi => Nat.lt_irrefl _ (lt i c k ei al hi)) (hg k hk) ?_
        have hkd : full.lookup (nm x) ≠ some .local := by rw [hx1]; intro z; cases z
        have hcl := hcell _ _ hcx
        cases hl : lk x bs with
        | none => rw [((hm x).2 hkd).1 hl] at hcl; exact hcl
        | some u =>
          obtain ⟨v, hv, rv⟩ := ((hm x).2 hkd).2 u hl
          rw [hv] at hcl
          exact ⟨v, hcl, rv.mono C (p.trans ⟨_, rfl⟩)⟩
      have at_n : (ρ1 ++ [k])[h.n]? = some k := by rw [← I.len]; simp
      obtain ⟨ρ', p', I', K⟩ := ent_ok hm hcell hg e1 (p.trans (⟨[k], rfl⟩ : ρ1 <+: ρ1 ++ [k])) hxr hc' I1 (fun i c a ei al hi => by
        rw [get_new] at ei
        by_cases q : i = h.n
        · subst q; rw [at_n] at hi; cases hi; exact Nat.lt_succ_self _
        · rw [if_neg q] at ei
          obtain ⟨b, hb, _⟩ := I.ob i c ei al
          have := pre_get (⟨[k], rfl⟩ : ρ1 <+: ρ1 ++ [k]) hb
          rw [hi] at this; cases this
          exact Nat.lt_succ_of_lt (lt i c _ ei al hb)) (Nat.lt_succ_of_lt hk)
      refine ⟨ρ', List.IsPrefix.trans (⟨[k], rfl⟩ : ρ1 <+: ρ1 ++ [k]) p', I', fun j sl q => ?_⟩
      rw [lk_cons] at q
      split at q
      · rename_i z; dsimp only at z; subst z; cases q; exact ⟨hx1, k, hcx, pre_get p' at_n⟩
      · exact K j sl q
    · cases e
theorem Inv.revars {m : Str → Option Value} (I : Inv C g L ρ vs h H) (n : H.Ns L m) (hv : ∀ k x, lk k vs' = some (.loc (some x)) → ∃ v, m (nm k) = some v ∧ VR C ρ x v) : Inv C g L ρ vs' h H where
  pre := I.pre
  len := I.len
  fr := let ⟨_, F, _⟩ := I.fr; ⟨m, ⟨n, F.keep, F.above⟩, hv⟩
  ob := I.ob
  sep := I.sep
/-- the oracle's word -/
noncomputable def SumOK (C : Ctx) (W : Wd) (N : Nat) : Prop := ∀ {k xs h v h' f}, lk k W.fns = some f → W.sum k xs h = some (v, h') → ∀ {A : Around} {E h₀ L ρ vs} {s : Shared} {Q ws}, AOk N A → C.b.StaysIn h₀ → Inv C h₀ L ρ vs h s.heap → VRs C ρ xs ws →
    PostK C h₀ L ρ vs h h' s v Q → wpAny (model C.prog C.w) A (call (.ref (C.fa k)) ws) Q E s
theorem zipb_len : ∀ {ps : List (Nat × Pos)} {xs : List V} {acc bs : List (Nat × V)}, zipb ps xs acc = some bs → ps.length = xs.length
  | [], [], _, _, _ => rfl
  | _ :: _, _ :: _, _, _, e => by rw [zipb_cons] at e; simp [zipb_len e]
  | [], _ :: _, _, _, e => by cases e
  | _ :: _, [], _, _, e => by cases e
/-- into a function's body, whatever is frozen -/
theorem enter0 (B : Base C fns) {n : Nat} {k : Nat} {f : Fn} (hf : lk k fns = some f) {xs : List V} {bs : List (Nat × V)} (hbs : zipb f.ps xs [] = some bs) {vs1 : Vars} {h1 : Hp} (e1 : ent bs f.sc h = some (vs1, h1)) {ws : List Value} {Q : Value → Shared → Prop}
    (ao : AOk (n + 1) A) (keep : ∀ b o, C.b.get? b = some o → s.heap.get? b = some o) (gsz : g.objs.size = s.heap.objs.size)
    (mk : ∀ hh m, (∀ b o, s.heap.get? b = some o → hh.get? b = some o) → hh.Ns s.heap.objs.size m → Inv C g s.heap.objs.size ρ [] h hh) (hlt : ∀ i c a, h.get i = some c → c.o.alive → ρ[i]? = some a → a < s.heap.objs.size) (q : VRs C ρ xs ws)
    (K : ∀ L1 ρ1 s1 env A' E', ρ <+: ρ1 → Rest s s1 → EnvOK L1 ρ1 vs1 env → Inv C g L1 ρ1 vs1 h1 s1.heap → AOk n A' →
      wpAny (model C.prog C.w) A' (execs (pyb f.body) env) (fun f s' => Q (match f with | .ret v => v | _ => .none) s') E' s1) : wpAny (model C.prog C.w) A (call (.ref (C.fa k)) ws) Q E s := by
  obtain ⟨⟨o, fd, ho, hd, hbody, hnames, hkind, hgen, hco, hglb, hbui, hclo, hcode, hbind⟩, hk, hnd, hpk⟩ := B.fns k f hf
  have hb := hbind ws (by rw [← q.length, zipb_len hbs])
  refine wpAny_call (codeAny_call_cells (fd := fd) (body := pyb f.body) ao.room (keep _ _ ho) hd (B.lim.keeps keep) (hcode.keeps keep) hbody hb hclo (fun z hz => ?_) (fun s₁ X => ?_) hco hgen hkind)
  · obtain ⟨p, hp, e⟩ : ∃ p ∈ f.ps, z.1 = nm p.1 := by
      have := (List.of_mem_zip (a := z.1) (b := z.2) hz).1
      obtain ⟨p, hp, e⟩ := List.mem_map.mp this
      exact ⟨p, hp, e.symm⟩
    rw [e, hnames]
    rcases hpk p hp with h1 | h1
    · exact .inl h1
    · obtain ⟨c, hc⟩ := cell_in (n := s.heap.objs.size + 1) (acc := []) (lookup_mem h1)
      exact .inr ⟨h1, mem_lookup hc⟩
  · obtain ⟨hh, tk, rfl⟩ := X.toInCall.same
    have env_kind : (callEnvC fd s.heap.objs.size (C.fa k)).kindOf = fun y => (pyNames f.sc).lookup y := by
      funext y; show List.lookup y fd.scope.names = _; rw [hnames]
    have env_cells : (callEnvC fd s.heap.objs.size (C.fa k)).cells = cellsFrom (s.heap.objs.size + 1) (pyNames f.sc) [] := by
      show cellsFrom _ fd.scope.names [] = _; rw [hnames]
    have X' := X
    rw [env_kind, env_cells] at X'
    have hns : hh.Ns s.heap.objs.size (bindL (fun y => (pyNames f.sc).lookup y) ((f.ps.map fun p => nm p.1).zip ws) fun _ => none) := X'.toInCall.ns
    have I1 : Inv C g s.heap.objs.size ρ [] h hh := mk hh _ X'.toInCall.keep hns
    have BR : BindR C ρ (fun y => (pyNames f.sc).lookup y) bs (bindL (fun y => (pyNames f.sc).lookup y) ((f.ps.map fun p => nm p.1).zip ws) fun _ => none) (bindC (fun y => (pyNames f.sc).lookup y) ((f.ps.map fun p => nm p.1).zip ws) fun _ => none) :=
      bind_ok hbs q (bind_nil _)
    obtain ⟨ρ1, p1, I2, SL⟩ := ent_ok (H := hh) (g := g) (L := s.heap.objs.size) BR X'.cell (fun a ha => by
        cases e : g.get? a with
        | none => rfl
        | some o => have := Heap.lt_size e; rw [gsz] at this; exact absurd this (Nat.not_lt.mpr (Nat.le_of_lt ha)))
      e1 (pre_refl ρ) hk (fun y a hm => lookup_of_mem_nodup (by rw [cellsFrom_names (pyNames f.sc) (s.heap.objs.size + 1) 0 [] [] rfl]; exact hnd) hm) I1 (fun i c a ei al hi => Nat.lt_succ_of_lt (hlt i c a ei al hi)) (Nat.lt_succ_self _)
    have I3 : Inv C g s.heap.objs.size ρ1 vs1 h1 hh := I2.revars hns fun j x e => by
      obtain ⟨e1, e2⟩ := SL j _ e
      obtain ⟨v, hv, rv⟩ := (BR j).1 e1 x e2.symm
      exact ⟨v, hv, rv.mono C p1⟩
    have V1 : EnvOK s.heap.objs.size ρ1 vs1 (callEnvC fd s.heap.objs.size (C.fa k)) := ⟨hkind, rfl, hglb, hbui, fun j sl e => by
      have := SL j sl e
      cases sl with
      | loc o => show Env.kindOf _ _ = _; rw [env_kind]; exact this.1
      | glo => show Env.kindOf _ _ = _; rw [env_kind]; exact this
      | cel i =>
        refine ⟨by rw [env_kind]; exact this.1, ?_⟩
        rw [env_cells]; exact this.2⟩
    have ao' : AOk n (A.deeper (callEnvC fd s.heap.objs.size (C.fa k))) := ⟨ao.handled, by have := ao.depth; show A.depth + 1 + n < _; omega, by have := ao.units; show A.units + 3 + 8 * n + 100 < _; omega⟩
    exact K s.heap.objs.size ρ1 _ _ _ _ p1 ⟨rfl, rfl, rfl⟩ V1 I3 ao'
/-- into a function's body -/
theorem enter_ok (B : Base C fns) {n : Nat} {k : Nat} {f : Fn} (hf : lk k fns = some f) {xs : List V} {bs : List (Nat × V)} (hbs : zipb f.ps xs [] = some bs) {vs1 : Vars} {h1 : Hp} (e1 : ent bs f.sc h = some (vs1, h1)) {ws : List Value} {Q : Value → Shared → Prop}
    (ao : AOk (n + 1) A) (st : C.b.StaysIn h₀) (I : Inv C h₀ L ρ vs h s.heap) (q : VRs C ρ xs ws)
    (K : ∀ g L1 ρ1 s1 env A' E', Frozen C h₀ L ρ vs h s.heap g → ρ <+: ρ1 → Rest s s1 → C.b.StaysIn g → EnvOK L1 ρ1 vs1 env → Inv C g L1 ρ1 vs1 h1 s1.heap → AOk n A' →
      wpAny (model C.prog C.w) A' (execs (pyb f.body) env) (fun f s' => Q (match f with | .ret v => v | _ => .none) s') E' s1) : wpAny (model C.prog C.w) A (call (.ref (C.fa k)) ws) Q E s := by
  obtain ⟨g, Z⟩ := I.freeze
  exact enter0 B hf hbs e1 ao (stays st I) Z.size (fun hh m k n => Z.enter I k (Nat.le_refl _) n fun k x q => by cases q) (fun i c a ei al hi => I.lt ei al hi) q
    fun L1 ρ1 s1 env A' E' p r V I ao => K g L1 ρ1 s1 env A' E' Z p r (Z.stays st) V I ao
theorem ca_ok (B : Base C W.fns) {N : Nat} (O : SumOK C W N) (S : Snd C R n) (hN : N ≤ n + 1) {k : Nat} {xs : List V} {v : V} {ws : List Value} {Q : Value → Shared → Prop} (x : caF W R k xs h = some (v, h')) (ao : AOk (n + 1) A) (st : C.b.StaysIn h₀) (I : Inv C h₀ L ρ vs h s.heap)
    (q : VRs C ρ xs ws) (K : PostK C h₀ L ρ vs h h' s v Q) : wpAny (model C.prog C.w) A (call (.ref (C.fa k)) ws) Q E s := by
  unfold caF at x
  split at x
  · rename_i f hf
    split at x
    · rename_i r hr
      cases x
      exact O hf hr (ao.less hN) st I q K
    · split at x
      · rename_i bs hbs
        replace ⟨vs1, h1, e1, x⟩ := bd_some x
        replace ⟨y, h2, e2, x⟩ := bd_some x
        obtain ⟨fl, vs2⟩ := y
        refine enter_ok B hf hbs e1 ao st I q fun g L1 ρ1 s1 env A' E' Z p1 r1 st' V1 I3 ao' => ?_
        refine sxs_ok S e2 ao' st' V1 I3 fun ρ2 s2 fl2 p2 r2 V2 I4 q4 => ?_
        cases fl with
        | nxt => cases q4; cases x; exact K ρ2 s2 _ _ _ _ (p1.trans p2) (r1.trans r2) Z I4 rfl
        | ret u =>
          obtain ⟨w, rfl, qw⟩ := q4
          cases x
          exact K ρ2 s2 _ _ _ _ (p1.trans p2) (r1.trans r2) Z I4 qw
      · cases x
  · cases x
theorem sx_ok (S : Snd C R n) (ce : ∀ {vs h elt gens sc p v h'}, R.ev vs (.com elt gens sc p) h = some (v, h') → ∃ R' n', n' ≤ n ∧ Snd C R' n' ∧ evCom R' vs elt gens sc h = some (v, h')) {t : Sx} {fl : Fl} {Q : Flow → Shared → Prop} (x : sxF R vs t h = some ((fl, vs'), h')) (ao : AOk n A) (st : C.b.StaysIn h₀) (V : EnvOK L ρ vs env) (I : Inv C h₀ L ρ vs h s.heap)
    (K : PostS C h₀ L ρ env vs' h' s fl Q) : wpAny (model C.prog C.w) A (exec t.py env) Q E s := by
  cases t with
  | asg t e p => exact asg_ok S x ao st V I K fun elt gens sc p v h' z y => by subst z; exact ce y
  | ast ts q e p => exact ast_ok S x ao st V I K
  | aug k q o e p => exact aug_ok S x ao st V I K
  | iff t a b p => exact iff_ok S x ao st V I K
  | whl t b p => exact whl_ok S x ao st V I K
  | forr t i b p => exact forr_ok S x ao st V I K
  | ret e p => exact ret_ok S x ao st V I K
  | exp e p => exact exp_ok S x ao st V I K
  | rai => cases x
end Mj

namespace Mj
open PySem PySem.Calls PyProof.Rows
variable {C : Ctx} {W : Wd}
theorem snd_ops (B : Base C W.fns) {N : Nat} (O : SumOK C W N) : ∀ n, Snd C (ops W n) (n + N)
  | 0 => {
    ev := fun x => by cases x
    ts := fun x => by cases x
    sx := fun x => by cases x
    wh := fun x => by cases x
    fo := fun x => by cases x
    cl := fun x => by cases x
    ca := fun x => by cases x
    cf := fun x => by cases x }
  | n + 1 =>
    have S := snd_ops B O n
    have le : ∀ {A : Around}, AOk (n + 1 + N) A → AOk (n + N) A := fun ao => ao.less (by omega)
    { ev := fun x _ _ _ _ _ _ _ _ ao st V I K => ev_ok B S x (le ao) st V I K
      ts := fun x _ _ _ _ _ _ _ _ ao st V I K => ts_ok S x (le ao) st V I K
      sx := fun x _ _ _ _ _ _ _ _ ao st V I K => sx_ok S (fun y => by
        cases n with
        | zero => cases y
        | succ n => exact ⟨ops W n, n + N, by omega, snd_ops B O n, y⟩) x (le ao) st V I K
      wh := fun x _ _ _ _ _ _ _ ao st V I K => wh_ok S x (le ao) st V I K
      fo := fun x _ _ _ _ _ _ _ _ ao st V I ha K => fo_ok S x (le ao) st V I ha K
      cl := fun x _ _ _ _ _ _ _ _ _ _ _ _ _ _ ao st V I ha hb hf K => cl_ok S x (le ao) st V I ha hb hf K
      ca := fun x _ _ _ _ _ _ _ _ _ ao st I q K => ca_ok B O S (by omega) x (ao.less (by omega)) st I q K
      cf := fun {k xs h v h'} x => by
        have x : caF W (ops W n) k xs h = some (v, h') := x
        unfold caF at x
        split at x
        · rename_i f hf
          obtain ⟨⟨o, fd, ho, hd, _⟩, _⟩ := B.fns k f hf
          exact ⟨o, fd, ho, hd⟩
        · cases x }
end Mj

namespace Mj
open PySem
noncomputable section
noncomputable def h4 : Hp := ((((⟨0, .e⟩ : Hp).fix (.tup [.bool false, .ref 1])).fix (.list [])).fix (.tup [.bool false, .ref 3])).fix (.list [.int 1])
noncomputable def W1 : Wd := ⟨fnTab, fun _ _ _ => none⟩
noncomputable def isOk : Option (V × Hp) → Bool
  | some _ => true
  | none => false
noncomputable def sizeOf : Option (V × Hp) → Nat
  | some x => x.2.n
  | none => 0
end
end Mj

namespace Mj
open PySem PySem.Calls PyProof.Rows
noncomputable section
/-! an invariant on a heap gives one on a smaller heap, numbered anew -/
noncomputable def eqInts : List Int → List Int → Bool
  | [], ys => match ys with | [] => true | _ => false
  | x :: xs, ys => match ys with | y :: ys => W.Z.eqB x y && eqInts xs ys | [] => false
/-- what the context's list of draws and width are, where it is said -/
structure Par where
  q : Option (List V)
  wd : Option Nat
noncomputable def isW (P : Par) (a : Int) : Bool := match P.wd with
  | some w => W.Z.eqB a (Int.ofNat w)
  | none => false
noncomputable def eqV (P : Par) (x y : V) : Bool := match x with
  | .non => match y with | .non => true | _ => false
  | .bool a => match y with | .bool b => a == b | _ => false
  | .int a => match y with | .int b => W.Z.eqB a b | .unk => true | .wid => isW P a | _ => false
  | .fn a => match y with | .fn b => Nat.beq a b | _ => false
  | .sc a => match y with | .sc b => Nat.beq a b | .unk => true | _ => false
  | .dr a => match y with | .dr b => Nat.beq a b | .unk => true | _ => false
  | .rm a m => match y with | .rm b k => Nat.beq a b && W.Z.eqB m k | .unk => true | _ => false
  | .ires m r => match y with | .ires k t => W.Z.eqB m k && W.Z.eqB r t | .unk => true | _ => false
  | .sres m r => match y with | .sres k t => W.Z.eqB m k && W.Z.eqB r t | .unk => true | _ => false
  | .unk => match y with | .unk => true | _ => false
  | .wid => match y with | .wid => true | _ => false
  | .ref _ => false
noncomputable def mkT : List Nat → Nat → T → T
  | [], _, t => t
  | x :: r, k, t => mkT r (Nat.succ k) (t.set (Nat.succ k) k ⟨true, .lit x 0⟩)
noncomputable def nthT (t : T) (j : Nat) : Option Nat := match t.get j with
  | some c => match c.o with
    | .lit x _ => some x
    | _ => none
  | none => none
noncomputable def renV (P : Par) (t : T) (x y : V) : Bool := match y with
  | .ref j => match x with
    | .ref i => match nthT t j with
      | some k => Nat.beq k i
      | none => false
    | _ => false
  | _ => eqV P x y
noncomputable def renVs (P : Par) (t : T) : List V → List V → Bool
  | [], ys => match ys with | [] => true | _ => false
  | x :: xs, ys => match ys with | y :: ys => renV P t x y && renVs P t xs ys | [] => false
noncomputable def renQ (P : Par) (f : List V → Bool) : Bool := match P.q with
  | some q => f q
  | none => false
noncomputable def renL (P : Par) (xs : List V) (n : Nat) : Bool := match P.wd with
  | some w => match intl xs with
    | some ns => eqInts ns (cod w n)
    | none => false
  | none => false
noncomputable def renO (P : Par) (t : T) (o p : O) : Bool := match o with
  | .list xs => match p with
    | .list ys => renVs P t xs ys
    | .wlist ys => renVs P t xs ys
    | .symq => renQ P fun q => renVs P t xs q
    | .lim n => renL P xs n
    | _ => false
  | .wlist xs => match p with
    | .wlist ys => renVs P t xs ys
    | _ => false
  | .symq => match p with
    | .list ys => renQ P fun q => renVs P t q ys
    | .symq => true
    | _ => false
  | .lim n => match p with
    | .lim m => Nat.beq n m
    | _ => false
  | .tup xs => match p with
    | .tup ys => renVs P t xs ys
    | _ => false
  | .cell x => match p with
    | .cell y => match x with
      | none => match y with | none => true | some _ => false
      | some x => match y with | some y => renV P t x y | none => false
    | _ => false
  | _ => false
noncomputable def optP (v : Option Cell) (P : Nat → Cell → Bool) : Bool := match v with
  | none => true
  | some c => P 0 c
noncomputable def T.allk (t : T) : (Nat → Cell → Bool) → Bool :=
  @T.rec (fun _ => (Nat → Cell → Bool) → Bool) (fun _ => true) (fun v _ _ _ _ a b c d P => optP v P && (a (fun k => P (Nat.succ (Nat.mul 4 k))) && (b (fun k => P (Nat.succ (Nat.succ (Nat.mul 4 k)))) && (c (fun k => P (Nat.succ (Nat.succ (Nat.succ (Nat.mul 4 k))))) && d (fun k => P (Nat.succ (Nat.succ (Nat.succ (Nat.succ (Nat.mul 4 k)))))))))) t
noncomputable def uniq (j i : Nat) : Nat → List Nat → Bool
  | _, [] => true
  | k, x :: r => (Nat.beq k j || !Nat.beq x i) && uniq j i (Nat.succ k) r
noncomputable def base4 (f : List Nat) : Bool := match f with
  | a :: b :: c :: d :: _ => Nat.beq a 0 && Nat.beq b 1 && Nat.beq c 2 && Nat.beq d 3
  | _ => false
noncomputable def chkO (P : Par) (f : List Nat) (t : T) (h : Hp) (j : Nat) (c2 : Cell) : Bool := match nthT t j with
  | some i => match h.get i with
    | some c => renO P t c.o c2.o && (match c2.own with | true => c.own && uniq j i 0 f | false => true)
    | none => false
  | none => false
noncomputable def chkS (P : Par) (t : T) (vs : Vars) (k : Nat) (sl : Slot) : Bool := match sl with
  | .loc none => match lk k vs with
    | some (.loc _) => true
    | _ => false
  | .loc (some y) => match lk k vs with
    | some (.loc (some x)) => renV P t x y
    | _ => false
  | .cel j => match lk k vs with
    | some (.cel i) => (match nthT t j with | some k => Nat.beq k i | none => false)
    | _ => false
  | .glo => match lk k vs with
    | some .glo => true
    | _ => false
noncomputable def chkT (P : Par) (f : List Nat) (t : T) (h h2 : Hp) (vs vs2 : Vars) : Bool := h2.l.allk (chkO P f t h) && vs2.all fun x => chkS P t vs x.1 x.2
noncomputable def chk (P : Par) (f : List Nat) (h h2 : Hp) (vs vs2 : Vars) : Bool := Nat.beq h2.n f.length && base4 f && chkT P f (mkT f 0 .e) h h2 vs vs2
end
theorem mkT_get : ∀ {f : List Nat} {k : Nat} {t : T} {j i : Nat}, (∀ j, k ≤ j → t.get j = none) → nthT (mkT f k t) j = some i → (j < k ∧ nthT t j = some i) ∨ (k ≤ j ∧ f[j - k]? = some i)
  | [], k, t, j, i, ht, e => by
    by_cases h : k ≤ j
    · have e : nthT t j = some i := e
      unfold nthT at e
      rw [ht j h] at e; cases e
    · exact .inl ⟨by omega, e⟩
  | x :: r, k, t, j, i, ht, e => by
    have g : ∀ j, (t.set (k + 1) k ⟨true, .lit x 0⟩).get j = if j = k then some ⟨true, .lit x 0⟩ else t.get j := fun j => T.get_set (k + 1) t k j _ (Nat.lt_succ_self k)
    rcases mkT_get (f := r) (k := k + 1) (t := t.set (k + 1) k ⟨true, .lit x 0⟩) (fun j hj => by rw [g, if_neg (by omega)]; exact ht j (by omega)) e with ⟨h1, h2⟩ | ⟨h1, h2⟩
    · unfold nthT at h2
      rw [g] at h2
      by_cases hj : j = k
      · rw [if_pos hj] at h2
        have h2 : some x = some i := h2
        right
        refine ⟨by omega, ?_⟩
        rw [show j - k = 0 by omega]
        exact h2
      · rw [if_neg hj] at h2
        exact .inl ⟨by omega, h2⟩
    · right
      refine ⟨by omega, ?_⟩
      rw [show j - k = (j - (k + 1)) + 1 by omega]
      simpa using h2
theorem nthT_nth {f : List Nat} {j i : Nat} (e : nthT (mkT f 0 .e) j = some i) : nth f j = some i := by
  rcases mkT_get (fun j _ => rfl) e with ⟨h, _⟩ | ⟨_, h⟩
  · omega
  · rw [nth_get]; simpa using h
theorem T.allk_get : ∀ {t : T} {P : Nat → Cell → Bool} {k : Nat} {c : Cell}, t.allk P = true → t.get k = some c → P k c = true := by
  intro t
  induction t with
  | e => intro P k c _ hg; cases hg
  | n v a b c d ia ib ic id =>
    intro P k x h hg
    have h : (optP v P && (a.allk (fun k => P (4 * k + 1)) && (b.allk (fun k => P (4 * k + 1 + 1)) && (c.allk (fun k => P (4 * k + 1 + 1 + 1)) && d.allk (fun k => P (4 * k + 1 + 1 + 1 + 1)))))) = true := h
    simp only [Bool.and_eq_true] at h
    match k with
    | 0 => have hg : v = some x := hg; subst hg; exact h.1
    | m + 1 =>
      rcases div4 (m := m) with g | g | g | g
      · rw [T.get_1 _ _ _ _ _ g] at hg
        have := ia h.2.1 hg
        have hk : 4 * (m / 4) + 1 = m + 1 := by omega
        simpa only [hk] using this
      · rw [T.get_2 _ _ _ _ _ g] at hg
        have := ib h.2.2.1 hg
        have hk : 4 * (m / 4) + 1 + 1 = m + 1 := by omega
        simpa only [hk] using this
      · rw [T.get_3 _ _ _ _ _ g] at hg
        have := ic h.2.2.2.1 hg
        have hk : 4 * (m / 4) + 1 + 1 + 1 = m + 1 := by omega
        simpa only [hk] using this
      · rw [T.get_4 _ _ _ _ _ g] at hg
        have := id h.2.2.2.2 hg
        have hk : 4 * (m / 4) + 1 + 1 + 1 + 1 = m + 1 := by omega
        simpa only [hk] using this
theorem uniq_get : ∀ {l : List Nat} {j i k m : Nat}, uniq j i k l = true → l[m]? = some i → k + m = j
  | [], _, _, _, _, _, e => by simp at e
  | x :: r, j, i, k, m, h, e => by
    have h : ((Nat.beq k j || !Nat.beq x i) && uniq j i (k + 1) r) = true := h
    simp only [Bool.and_eq_true] at h
    cases m with
    | zero =>
      simp at e
      subst e
      have h1 := h.1
      rw [Nat.beq_refl] at h1
      simp at h1
      omega
    | succ m =>
      simp at e
      have := uniq_get h.2 e
      omega
theorem lk_all {α : Type} {P : Nat → α → Bool} : ∀ {l : List (Nat × α)} {k : Nat} {a : α}, (l.all fun x => P x.1 x.2) = true → lk k l = some a → P k a = true
  | [], _, _, _, e => by cases e
  | x :: r, k, a, h, e => by
    rw [List.all_cons, Bool.and_eq_true] at h
    rw [lk_cons] at e
    split at e
    · rename_i hk; cases e; subst hk; exact h.1
    · exact lk_all h.2 e

variable {C : Ctx} {h₀ H : Heap} {L : Addr} {ρ : List Addr} {vs vs2 : Vars} {h h2 : Hp} {env : Env} {f : List Nat} {P : Par}
noncomputable def rho (ρ : List Addr) (f : List Nat) : List Addr := f.map fun i => (ρ[i]?).getD 0
theorem rho_get {j i : Nat} {a : Addr} (e : nth f j = some i) (ha : ρ[i]? = some a) : (rho ρ f)[j]? = some a := by
  rw [nth_get] at e
  simp [rho, e, ha]
theorem rho_back {j i : Nat} {a : Addr} (e : nth f j = some i) {c : Addr} (hc : ρ[i]? = some c) (ha : (rho ρ f)[j]? = some a) : ρ[i]? = some a := by
  have := rho_get e hc
  rw [this] at ha; cases ha; exact hc
/-- the context is as it is said -/
structure ParOK (C : Ctx) (P : Par) : Prop where
  q : ∀ q, P.q = some q → C.q = q
  wd : ∀ w, P.wd = some w → C.wd = w
  nr : ∀ ρ ρ' ws, VRs C ρ C.q ws → VRs C ρ' C.q ws
theorem eqV_ok (PO : ParOK C P) {x y : V} {v : Value} {ρ' : List Addr} (e : eqV P x y = true) (r : VR C ρ x v) : VR C ρ' y v := by
  cases x <;> cases y <;> first
    | cases e; done
    | (have e := e; simp only [eqV, Bool.and_eq_true] at e; obtain ⟨e1, e2⟩ := e; have e1 := (W.Z.eqB_iff _ _).mp e1; have e2 := (W.Z.eqB_iff _ _).mp e2; subst e1; subst e2; exact r)
    | (have e := e; simp only [eqV, Bool.and_eq_true] at e; obtain ⟨e1, e2⟩ := e; have e1 := Nat.eq_of_beq_eq_true e1; have e2 := (W.Z.eqB_iff _ _).mp e2; subst e1; subst e2; exact r)
    | (have e := (W.Z.eqB_iff _ _).mp e; subst e; exact r)
    | (have e := Nat.eq_of_beq_eq_true e; subst e; exact r)
    | (have e := eq_of_beq e; subst e; exact r)
    | (have e : isW P _ = true := e
       unfold isW at e
       split at e
       · rename_i w hw
         have e := (W.Z.eqB_iff _ _).mp e
         obtain ⟨t, rfl⟩ := r
         exact ⟨t, by rw [e, PO.wd w hw]⟩
       · cases e)
    | exact r
    | (obtain ⟨t, rfl⟩ := r; exact ⟨_, _, rfl⟩)
    | (obtain ⟨x, t, rfl, _⟩ := r; exact ⟨_, _, rfl⟩)
theorem renV_ok (PO : ParOK C P) {x y : V} {v : Value} (e : renV P (mkT f 0 .e) x y = true) (r : VR C ρ x v) : VR C (rho ρ f) y v := by
  unfold renV at e
  split at e
  · split at e
    · split at e
      · rename_i hk
        have := Nat.eq_of_beq_eq_true e
        subst this
        obtain ⟨a, ha, rfl⟩ := r
        exact ⟨a, rho_get (nthT_nth hk) ha, rfl⟩
      · cases e
    · cases e
  · exact eqV_ok PO e r
theorem renVs_ok (PO : ParOK C P) : ∀ {xs ys : List V} {ws : List Value}, renVs P (mkT f 0 .e) xs ys = true → VRs C ρ xs ws → VRs C (rho ρ f) ys ws
  | [], [], [], _, _ => trivial
  | x :: xs, y :: ys, w :: ws, e, r => by
    have e : (renV P (mkT f 0 .e) x y && renVs P (mkT f 0 .e) xs ys) = true := e
    rw [Bool.and_eq_true] at e
    exact ⟨renV_ok PO e.1 r.1, renVs_ok PO e.2 r.2⟩
  | [], _ :: _, _, e, _ => by cases e
  | _ :: _, [], _, e, _ => by cases e
  | [], [], _ :: _, _, r => r.elim
  | _ :: _, _ :: _, [], _, r => r.elim
theorem renQ_some {g : List V → Bool} (PO : ParOK C P) (e : renQ P g = true) : g C.q = true := by
  unfold renQ at e
  split at e
  · rename_i q hq; rw [PO.q q hq]; exact e
  · cases e
theorem VRs.ints {ρ' : List Addr} : ∀ {ns : List Int} {ws : List Value}, VRs C ρ (ns.map .int) ws → VRs C ρ' (ns.map .int) ws
  | [], [], _ => trivial
  | _ :: _, _ :: _, r => ⟨r.1, VRs.ints r.2⟩
  | [], _ :: _, r => r.elim
  | _ :: _, [], r => r.elim
theorem intl_map : ∀ {xs : List V} {ns : List Int}, intl xs = some ns → xs = ns.map .int
  | [], _, e => by cases e; rfl
  | x :: xs, ns, e => by
    cases x with
    | int i =>
      have e' : (match intl xs with | some l => some (i :: l) | none => none) = some ns := (intl_int i xs).symm.trans e
      cases hq : intl xs with
      | none => rw [hq] at e'; cases e'
      | some l => rw [hq] at e'; cases e'; rw [List.map_cons, ← intl_map hq]
    | _ => cases e
theorem eqInts_eq : ∀ {xs ys : List Int}, eqInts xs ys = true → xs = ys
  | [], [], _ => rfl
  | x :: xs, y :: ys, e => by
    have e : (W.Z.eqB x y && eqInts xs ys) = true := e
    rw [Bool.and_eq_true] at e
    rw [(W.Z.eqB_iff _ _).mp e.1, eqInts_eq e.2]
  | [], _ :: _, e => by cases e
  | _ :: _, [], e => by cases e
theorem renL_ok (PO : ParOK C P) {xs : List V} {n : Nat} (e : renL P xs n = true) : xs = (cod C.wd n).map .int := by
  unfold renL at e
  split at e
  · rename_i w hw
    split at e
    · rename_i ns hn
      rw [PO.wd w hw, ← eqInts_eq e]; exact intl_map hn
    · cases e
  · cases e
theorem renO_ok (PO : ParOK C P) {o p : O} {a : Addr} (e : renO P (mkT f 0 .e) o p = true) (r : OR C ρ H a o) : OR C (rho ρ f) H a p := by
  unfold renO at e
  split at e
  · split at e
    · obtain ⟨ws, l, r⟩ := r; exact ⟨ws, l, renVs_ok PO e r⟩
    · obtain ⟨ws, l, r⟩ := r; exact ⟨ws, l.isList, renVs_ok PO e r⟩
    · obtain ⟨ws, l, r⟩ := r; exact ⟨ws, l, renVs_ok PO (renQ_some PO e) r⟩
    · obtain ⟨ws, l, r⟩ := r; rw [renL_ok PO e] at r; exact ⟨ws, l, r.ints⟩
    · cases e
  · split at e
    · obtain ⟨ws, l, r⟩ := r; exact ⟨ws, l, renVs_ok PO e r⟩
    · cases e
  · split at e
    · obtain ⟨ws, l, r⟩ := r; exact ⟨ws, l, renVs_ok PO (renQ_some (g := fun q => renVs P (mkT f 0 .e) q _) PO e) r⟩
    · obtain ⟨ws, l, r⟩ := r; exact ⟨ws, l, PO.nr _ _ _ r⟩
    · cases e
  · split at e
    · obtain ⟨ws, l, r⟩ := r
      rw [Nat.eq_of_beq_eq_true e] at r
      exact ⟨ws, l, r.ints⟩
    · cases e
  · split at e
    · obtain ⟨ws, l, r⟩ := r; exact ⟨ws, l, renVs_ok PO e r⟩
    · cases e
  · split at e
    · split at e
      · split at e
        · exact r
        · cases e
      · split at e
        · obtain ⟨w, l, r⟩ := r; exact ⟨w, l, renV_ok PO e r⟩
        · cases e
    · cases e
  · cases e
theorem renO_alive {t : T} {o p : O} (e : renO P t o p = true) : o.alive := by
  cases o with
  | dead => cases e
  | _ => exact True.intro
theorem ren_ok (PO : ParOK C P) (h4 : C.ρ0.length = 4) (e : chk P f h h2 vs vs2 = true) (I : Inv C h₀ L ρ vs h H) : Inv C h₀ L (rho ρ f) vs2 h2 H ∧ (EnvOK L ρ vs env → EnvOK L (rho ρ f) vs2 env) := by
  unfold chk chkT at e
  simp only [Bool.and_eq_true] at e
  obtain ⟨⟨e1, e2⟩, e3, e4⟩ := e
  have src : ∀ j c2, h2.get j = some c2 → ∃ i c, nth f j = some i ∧ h.get i = some c ∧ renO P (mkT f 0 .e) c.o c2.o = true ∧ (c2.own = true → c.own = true ∧ uniq j i 0 f = true) := fun j c2 ej => by
    have := T.allk_get e3 ej
    unfold chkO at this
    split at this
    · rename_i i hi
      split at this
      · rename_i c hc
        rw [Bool.and_eq_true] at this
        refine ⟨i, c, nthT_nth hi, hc, this.1, fun ow => ?_⟩
        have t := this.2
        rw [ow] at t
        simpa only [Bool.and_eq_true] using t
      · cases this
    · cases this
  have slot : ∀ k sl, lk k vs2 = some sl → chkS P (mkT f 0 .e) vs k sl = true := fun k sl ek => lk_all e4 ek
  refine ⟨⟨?_, ?_, ?_, fun j c2 ej al => ?_, fun i j ci cj a ei ej ow ali alj hi hj => ?_⟩, fun V => ⟨V.kind, V.loc, V.glb, V.bui, fun k sl ek => ?_⟩⟩
  · obtain ⟨t, ht⟩ := I.pre
    unfold base4 at e2
    split at e2
    · rename_i a b c d r
      simp only [Bool.and_eq_true] at e2
      have ha := Nat.eq_of_beq_eq_true e2.1.1.1
      have hb := Nat.eq_of_beq_eq_true e2.1.1.2
      have hc := Nat.eq_of_beq_eq_true e2.1.2
      have hd := Nat.eq_of_beq_eq_true e2.2
      subst ha hb hc hd
      match hρ : C.ρ0, h4 with
      | [w, x, y, z], _ =>
        rw [hρ] at ht
        exact ⟨rho ρ r, by rw [← ht]; simp [rho]⟩
    · cases e2
  · rw [show (rho ρ f).length = f.length by simp [rho]]
    exact (Nat.eq_of_beq_eq_true e1).symm
  · obtain ⟨m, F, hm⟩ := I.fr
    refine ⟨m, F, fun k y ek => ?_⟩
    have := slot k _ ek
    unfold chkS at this
    dsimp only at this
    split at this
    · rename_i x hx
      obtain ⟨v, hv, r⟩ := hm k x hx
      exact ⟨v, hv, renV_ok PO this r⟩
    · cases this
  · obtain ⟨i, c, hi, hc, hr, how⟩ := src j c2 ej
    have alc := renO_alive hr
    obtain ⟨a, ha, r, x⟩ := I.ob i c hc alc
    exact ⟨a, rho_get hi ha, renO_ok PO hr r, fun ow => x (how ow).1⟩
  · obtain ⟨si, c, hsi, hc, hr, how⟩ := src i ci ei
    obtain ⟨sj, d, hsj, hd, hr', _⟩ := src j cj ej
    have alc := renO_alive hr
    have ald := renO_alive hr'
    obtain ⟨_, h1, _⟩ := I.ob si c hc alc
    obtain ⟨_, h2, _⟩ := I.ob sj d hd ald
    have := I.sep si sj c d a hc hd (how ow).1 alc ald (rho_back hsi h1 hi) (rho_back hsj h2 hj)
    subst this
    rw [nth_get] at hsj
    have := uniq_get (how ow).2 hsj
    omega
  · have := slot k sl ek
    unfold chkS at this
    cases sl with
    | loc o =>
      cases o with
      | none =>
        dsimp only at this
        split at this
        · rename_i o' ho; exact V.names _ _ ho
        · cases this
      | some y =>
        dsimp only at this
        split at this
        · rename_i o' ho; exact V.names _ _ ho
        · cases this
    | cel j =>
      dsimp only at this
      split at this
      · rename_i i hi
        obtain ⟨kd, c, hc, hci⟩ := V.names _ _ hi
        refine ⟨kd, c, hc, ?_⟩
        split at this
        · rename_i k' hk'
          have := Nat.eq_of_beq_eq_true this
          subst this
          exact rho_get (nthT_nth hk') hci
        · cases this
      · cases this
    | glo =>
      dsimp only at this
      split at this
      · rename_i ho; exact V.names _ _ ho
      · cases this
/-- one object's contents said otherwise -/
theorem Inv.item {i : Nat} {c : Cell} {o : O} (I : Inv C h₀ L ρ vs h H) (e : h.get i = some c) (al : c.o.alive) (k : ∀ a, OR C ρ H a c.o → OR C ρ H a o) : Inv C h₀ L ρ vs (h.put i ⟨c.own, o⟩) H where
  pre := I.pre
  len := I.len
  fr := I.fr
  ob := fun j d ej alj => by
    rw [get_put e] at ej
    by_cases hj : j = i
    · subst hj; rw [if_pos rfl] at ej; cases ej
      obtain ⟨a, ha, r, x⟩ := I.ob j c e al
      exact ⟨a, ha, k a r, x⟩
    · rw [if_neg hj] at ej; exact I.ob j d ej alj
  sep := fun j l cj cl b ej el ow alj all hj hl => by
    rw [get_put e] at ej el
    by_cases h1 : j = i <;> by_cases h2 : l = i
    · rw [h1, h2]
    · subst h1; rw [if_pos rfl] at ej; cases ej
      rw [if_neg h2] at el
      exact I.sep j l c cl b e el ow al all hj hl
    · subst h2; rw [if_pos rfl] at el; cases el
      rw [if_neg h1] at ej
      exact I.sep j l cj c b ej e ow alj al hj hl
    · rw [if_neg h1] at ej; rw [if_neg h2] at el
      exact I.sep j l cj cl b ej el ow alj all hj hl
end Mj

namespace Mj
open PySem PySem.Calls PyProof.Rows
noncomputable section
/-! small signed integers: what s_add and s_mul answer -/
noncomputable def sgn (s : Bool) (n : Nat) : Int := match s with
  | true => -(Int.ofNat n)
  | false => Int.ofNat n
noncomputable def dec (w : Nat) (h : Hp) (a : Nat) : Option Int := match h.obj a with
  | some (.tup [.bool s, .ref l]) => match h.obj l with
    | some (.list xs) => match intl xs with
      | some ns => gd (eqInts ns (cod w (valL w ns)) && (!s || !Nat.beq (valL w ns) 0)) (some (sgn s (valL w ns)))
      | none => none
    | _ => none
  | _ => none
noncomputable def isNeg (x : Int) : Bool := W.Z.ltB x 0
noncomputable def hIn (w : Nat) (x y : Int) : Hp := (((((⟨4, .e⟩ : Hp).fix (.list ((cod w x.natAbs).map .int))).fix (.tup [.bool (isNeg x), .ref 4])).fix (.list ((cod w y.natAbs).map .int))).fix (.tup [.bool (isNeg y), .ref 6]))
noncomputable def outS (w : Nat) (z : Int) (h : Hp) : V × Hp := (.ref (Nat.succ h.n), (h.new (.list ((cod w z.natAbs).map .int))).new (.tup [.bool (isNeg z), .ref h.n]))
noncomputable def okS (w : Nat) (z : Int) (r : Option (V × Hp)) : Bool := match r with
  | some (.ref r, h) => match h.get r with
    | some ⟨true, .tup [.bool s, .ref l]⟩ => (s == isNeg z) && match h.get l with
      | some ⟨true, .list xs⟩ => match intl xs with
        | some ns => eqInts ns (cod w z.natAbs)
        | none => false
      | _ => false
    | _ => false
  | _ => false
noncomputable def argsS (k : Nat) (w : Nat) : List V := match k with
  | 17 => [.ref 5, .ref 7, .int (Int.ofNat w)]
  | _ => [.ref 5, .ref 7, .int (Int.ofNat w), .fn 27]
noncomputable def runS (k w : Nat) (x y : Int) : Option (V × Hp) := (ops W1 60).ca k (argsS k w) (hIn w x y)
noncomputable def tabAdd (w : Nat) : Bool := (List.range 25).all fun i => okS w (Int.ofNat i - 12 + 1) (runS 17 w (Int.ofNat i - 12) 1) && okS w (Int.ofNat i - 12 + (-1)) (runS 17 w (Int.ofNat i - 12) (-1))
noncomputable def tabMul (w : Nat) : Bool := okS w 1 (runS 19 w 1 1) && okS w (-1) (runS 19 w 1 (-1)) && okS w (-1) (runS 19 w (-1) 1) && okS w 1 (runS 19 w (-1) (-1))
noncomputable def isOne (y : Int) : Bool := Nat.beq y.natAbs 1
noncomputable def natW (w : Int) : Option Nat := match w with
  | .ofNat n => gd (Nat.ble 3 n && Nat.ble n 8) (some n)
  | _ => none
/-- the same where the width is not said -/
noncomputable def decL (h : Hp) (a : Nat) : Option Int := match h.obj a with
  | some (.tup [.bool s, .ref l]) => match h.obj l with
    | some (.lim n) => gd (Nat.ble n 13 && (!s || !Nat.beq n 0)) (some (sgn s n))
    | some (.list []) => gd (!s) (some 0)
    | _ => none
  | _ => none
noncomputable def outL (z : Int) (h : Hp) : V × Hp := (.ref (Nat.succ h.n), (h.new (.lim z.natAbs)).new (.tup [.bool (isNeg z), .ref h.n]))
noncomputable def sum17 (xs : List V) (h : Hp) : Option (V × Hp) := match xs with
  | [.ref a, .ref b, .int w] => match natW w with
    | some w => match dec w h a with
      | some x => match dec w h b with
        | some y => gd (Nat.ble x.natAbs 12 && isOne y) (some (outS w (x + y) h))
        | none => none
      | none => none
    | none => none
  | [.ref a, .ref b, .wid] => match decL h a with
    | some x => match decL h b with
      | some y => gd (Nat.ble x.natAbs 12 && isOne y) (some (outL (x + y) h))
      | none => none
    | none => none
  | _ => none
noncomputable def sum19 (xs : List V) (h : Hp) : Option (V × Hp) := match xs with
  | [.ref a, .ref b, .int w, .fn 27] => match natW w with
    | some w => match dec w h a with
      | some x => match dec w h b with
        | some y => gd (isOne x && isOne y) (some (outS w (x * y) h))
        | none => none
      | none => none
    | none => none
  | [.ref a, .ref b, .wid, .fn 27] => match decL h a with
    | some x => match decL h b with
      | some y => gd (isOne x && isOne y) (some (outL (x * y) h))
      | none => none
    | none => none
  | _ => none
noncomputable def sum35 (xs : List V) (h : Hp) : Option (V × Hp) := match xs with
  | [.int (.ofNat n), .wid] => gd (Nat.ble n 12) (some (.ref h.n, h.new (.lim n)))
  | _ => none
noncomputable def sumF (k : Nat) (xs : List V) (h : Hp) : Option (V × Hp) := match k with
  | 17 => sum17 xs h
  | 19 => sum19 xs h
  | 35 => sum35 xs h
  | _ => none
noncomputable def run35 (w n : Nat) : Option (V × Hp) := (ops W1 60).ca 35 [.int (Int.ofNat n), .int (Int.ofNat w)] ⟨4, .e⟩
noncomputable def ok35 (w n : Nat) : Bool := match run35 w n with
  | some (.ref r, h) => match h.get r with
    | some ⟨true, .list xs⟩ => match intl xs with
      | some ns => eqInts ns (cod w n)
      | none => false
    | _ => false
  | _ => false
noncomputable def tab35 (w : Nat) : Bool := (List.range 13).all fun n => ok35 w n
noncomputable def W2 : Wd := ⟨fnTab, sumF⟩
end
theorem tabMul_ok : tabMul 3 = true ∧ tabMul 4 = true ∧ tabMul 5 = true ∧ tabMul 6 = true ∧ tabMul 7 = true ∧ tabMul 8 = true := by decide +kernel
theorem tab35_ok : tab35 3 = true ∧ tab35 4 = true ∧ tab35 5 = true ∧ tab35 6 = true ∧ tab35 7 = true ∧ tab35 8 = true := by decide +kernel
theorem tabAdd3 : tabAdd 3 = true := by decide +kernel
theorem tabAdd4 : tabAdd 4 = true := by decide +kernel
theorem tabAdd5 : tabAdd 5 = true := by decide +kernel
theorem tabAdd6 : tabAdd 6 = true := by decide +kernel
theorem tabAdd7 : tabAdd 7 = true := by decide +kernel
theorem tabAdd8 : tabAdd 8 = true := by decide +kernel
end Mj

namespace Mj
open PySem PySem.Calls PyProof.Rows
variable {C : Ctx} {A : Around} {E : Value → Shared → Prop} {s : Shared} {h₀ g H : Heap} {L L' : Addr} {ρ ρ' : List Addr} {vs vs' : Vars} {h h' : Hp}

theorem Inv.fixd (I : Inv C h₀ L ρ vs h H) {a : Addr} {o : O} (no : ∀ i c, h.get i = some c → c.own = false) (r : OR C (ρ ++ [a]) H a o) :
    Inv C h₀ L (ρ ++ [a]) vs (h.fix o) H ∧ ∀ i c, (h.fix o).get i = some c → c.own = false := by
  have p : ρ <+: ρ ++ [a] := ⟨[a], rfl⟩
  have at_n : (ρ ++ [a])[h.n]? = some a := by rw [← I.len]; simp
  have no' : ∀ i c, (h.fix o).get i = some c → c.own = false := fun i c e => by
    rw [get_fix] at e
    split at e
    · cases e; rfl
    · exact no i c e
  refine ⟨⟨I.pre.trans p, by rw [List.length_append, I.len]; rfl, let ⟨m, F, r⟩ := I.fr; ⟨m, F, fun k x e => let ⟨v, hv, q⟩ := r k x e; ⟨v, hv, q.mono C p⟩⟩, fun i c e al => ?_, fun i j ci cj b ei ej ow al al' hi hj => ?_⟩, no'⟩
  · rw [get_fix] at e
    by_cases hi : i = h.n
    · subst hi; rw [if_pos rfl] at e; cases e
      exact ⟨a, at_n, r, fun z => by cases z⟩
    · rw [if_neg hi] at e
      obtain ⟨b, hb, r, x⟩ := I.ob i c e al
      exact ⟨b, pre_get p hb, r.mono C p, x⟩
  · rw [no' i ci ei] at ow; cases ow
theorem neg_of (s : Bool) (n : Nat) (h : (!s || !Nat.beq n 0) = true) : isNeg (sgn s n) = s ∧ (sgn s n).natAbs = n := by
  cases s with
  | false =>
    refine ⟨?_, Int.natAbs_natCast n⟩
    unfold isNeg sgn; rw [ltB_eq]; simp
  | true =>
    have hn : n ≠ 0 := fun z => by subst z; simp at h
    refine ⟨?_, by unfold sgn; simp⟩
    unfold isNeg sgn; rw [ltB_eq]; simp; omega
/-- a small signed integer as the model has it -/
theorem dec_ok {w a : Nat} {x : Int} {v : Value} (e : dec w h a = some x) (I : Inv C h₀ L ρ vs h H) (r : VR C ρ (.ref a) v) : ∃ A B ws, v = .ref A ∧ IsTup H A #[.bool (isNeg x), .ref B] ∧ PlainL H B ws.toArray ∧ VRs C ρ ((cod w x.natAbs).map .int) ws := by
  obtain ⟨A, hA, rfl⟩ := r
  unfold dec at e
  split at e
  · rename_i s l hx
    split at e
    · rename_i xs hl
      split at e
      · rename_i ns hn
        obtain ⟨g, e⟩ := gd_some e
        cases e
        rw [Bool.and_eq_true] at g
        obtain ⟨h1, h2⟩ := neg_of s (valL w ns) g.2
        obtain ⟨us, t1, q1⟩ := I.obj hx trivial hA
        match us, q1, t1 with
        | [u1, u2], q1, t1 =>
          obtain ⟨e1, ⟨B, hB, e2⟩, _⟩ := q1
          have e1 : u1 = .bool s := e1
          subst e1; subst e2
          obtain ⟨ws, l1, q2⟩ := I.obj hl trivial hB
          refine ⟨A, B, ws, rfl, by rw [h1]; exact t1, l1, ?_⟩
          rw [h2, ← eqInts_eq g.1, ← intl_map hn]; exact q2
        | [], q, _ => exact q.elim
        | [_], q, _ => exact q.2.elim
        | _ :: _ :: _ :: _, q, _ => exact q.2.2.elim
      · cases e
    · cases e
  · cases e
theorem okS_some {w : Nat} {z : Int} {r : Option (V × Hp)} (e : okS w z r = true) : ∃ i l h, r = some (.ref i, h) ∧ h.get i = some ⟨true, .tup [.bool (isNeg z), .ref l]⟩ ∧ h.get l = some ⟨true, .list ((cod w z.natAbs).map .int)⟩ := by
  unfold okS at e
  split at e
  · rename_i i h
    split at e
    · rename_i s l hi
      rw [Bool.and_eq_true] at e
      obtain ⟨e1, e2⟩ := e
      have e1 := eq_of_beq e1
      subst e1
      split at e2
      · rename_i xs hl
        split at e2
        · rename_i ns hn
          rw [intl_map hn, eqInts_eq e2] at hl
          exact ⟨i, l, h, rfl, hi, hl⟩
        · cases e2
      · cases e2
    · cases e
  · cases e
theorem hIn_inv {w : Nat} {x y : Int} {A1 A2 B1 B2 : Addr} {us ws : List Value} (h4 : C.ρ0.length = 4) (I : Inv C h₀ L ρ vs h H) (t1 : IsTup H A1 #[.bool (isNeg x), .ref B1]) (l1 : PlainL H B1 us.toArray) (q1 : VRs C ρ ((cod w x.natAbs).map .int) us)
    (t2 : IsTup H A2 #[.bool (isNeg y), .ref B2]) (l2 : PlainL H B2 ws.toArray) (q2 : VRs C ρ ((cod w y.natAbs).map .int) ws) :
    Inv C h₀ L (C.ρ0 ++ [B1] ++ [A1] ++ [B2] ++ [A2]) [] (hIn w x y) H ∧ ∀ i c, (hIn w x y).get i = some c → c.own = false := by
  have I0 : Inv C h₀ L C.ρ0 [] ⟨4, .e⟩ H := ⟨pre_refl _, h4, let ⟨m, F, _⟩ := I.fr; ⟨m, F, fun k x e => by cases e⟩, fun i c e => (by cases e), fun i j ci cj a e => (by cases e)⟩
  obtain ⟨I1, n1⟩ := I0.fixd (a := B1) (o := .list ((cod w x.natAbs).map .int)) (fun i c e => by cases e) ⟨us, l1, q1.ints⟩
  obtain ⟨I2, n2⟩ := I1.fixd (a := A1) (o := .tup [.bool (isNeg x), .ref 4]) n1 ⟨[.bool (isNeg x), .ref B1], t1, rfl, ⟨B1, by simp [h4], rfl⟩, trivial⟩
  obtain ⟨I3, n3⟩ := I2.fixd (a := B2) (o := .list ((cod w y.natAbs).map .int)) n2 ⟨ws, l2, q2.ints⟩
  exact I3.fixd (a := A2) (o := .tup [.bool (isNeg y), .ref 6]) n3 ⟨[.bool (isNeg y), .ref B2], t2, rfl, ⟨B2, by simp [h4], rfl⟩, trivial⟩
/-- a run on two small signed integers, said of any heap that has them -/
theorem ora_ok (B : Base C fnTab) (h4 : C.ρ0.length = 4) {k w : Nat} {x y z : Int} {A1 A2 B1 B2 : Addr} {us ws : List Value} {args : List Value} {Q : Value → Shared → Prop} (ok : okS w z (runS k w x y) = true)
    (ao : AOk 60 A) (st : C.b.StaysIn h₀) (I : Inv C h₀ L ρ vs h s.heap) (t1 : IsTup s.heap A1 #[.bool (isNeg x), .ref B1]) (l1 : PlainL s.heap B1 us.toArray) (q1 : VRs C ρ ((cod w x.natAbs).map .int) us)
    (t2 : IsTup s.heap A2 #[.bool (isNeg y), .ref B2]) (l2 : PlainL s.heap B2 ws.toArray) (q2 : VRs C ρ ((cod w y.natAbs).map .int) ws)
    {o : O} (ho : ∀ {ρ H a}, OR C ρ H a (.list ((cod w z.natAbs).map .int)) → OR C ρ H a o) (ha : VRs C (C.ρ0 ++ [B1] ++ [A1] ++ [B2] ++ [A2]) (argsS k w) args) (K : PostK C h₀ L ρ vs h ((h.new o).new (.tup [.bool (isNeg z), .ref h.n])) s (.ref (h.n + 1)) Q) : wpAny (model C.prog C.w) A (call (.ref (C.fa k)) args) Q E s := by
  obtain ⟨I2, no⟩ := hIn_inv h4 I t1 l1 q1 t2 l2 q2
  obtain ⟨r, l, h3, hr, hr1, hr2⟩ := okS_some ok
  have S : Snd C (ops W1 60) (60 + 0) := snd_ops (W := W1) B (N := 0) (fun hf hs => by cases hs) 60
  refine S.ca (show (ops W1 60).ca k (argsS k w) (hIn w x y) = some (.ref r, h3) from hr) ao st I2 ha fun ρ3 s' v' g2 L' vs' p3 rst Z2 J2 q3 => ?_
  obtain ⟨g, Z⟩ := I.freeze
  have all2 : ∀ b o, s.heap.get? b = some o → g2.get? b = some o := fun b o e => Z2.get b o e fun i c ei ow _ _ => by rw [no i c ei] at ow; cases ow
  obtain ⟨m', F', _⟩ := J2.fr
  have keep : ∀ b o, s.heap.get? b = some o → s'.heap.get? b = some o := fun b o e => F'.keep b o (all2 b o e)
  obtain ⟨at', hat, rt, ot⟩ := J2.ob r _ hr1 trivial
  obtain ⟨al, hal, rl, ol⟩ := J2.ob l _ hr2 trivial
  have newt : s.heap.get? at' = none := by
    cases q : s.heap.get? at' with
    | none => rfl
    | some o => have := all2 _ _ q; rw [ot rfl] at this; cases this
  have newl : s.heap.get? al = none := by
    cases q : s.heap.get? al with
    | none => rfl
    | some o => have := all2 _ _ q; rw [ol rfl] at this; cases this
  have ne : al ≠ at' := fun z => by
    subst z
    have := J2.sep r l _ _ al hr1 hr2 rfl trivial trivial hat hal
    subst this
    rw [hr1] at hr2; cases hr2
  have I0 : Inv C g L' ρ [] h s'.heap := ⟨I.pre, I.len, ⟨m', ⟨F'.ns, fun b o e => keep b o (Z.sub b o e), by rw [Z.size, ← Z2.size]; exact F'.above⟩, fun k x e => by cases e⟩,
    fun i c e al => let ⟨a, ha, r, _⟩ := I.ob i c e al; ⟨a, ha, r.at C (keep a), fun ow => Z.own i c a e ow al ha⟩, I.sep⟩
  have old : ∀ i c a, h.get i = some c → c.o.alive → ρ[i]? = some a → s.heap.get? a ≠ none := fun i c a e al hi z => by
    obtain ⟨b, hb, r, _⟩ := I.ob i c e al
    rw [hi] at hb; cases hb
    obtain ⟨x, hx⟩ := r.obj C al
    rw [z] at hx; cases hx
  have g0 : ∀ a, s.heap.get? a = none → g.get? a = none := fun a e => by
    cases q : g.get? a with
    | none => rfl
    | some o => have := Z.sub a o q; rw [e] at this; cases this
  obtain ⟨wl, pl, ql⟩ := rl
  have I1 : Inv C g L' (ρ ++ [al]) [] (h.new o) s'.heap := I0.add (fun i c e al' hi => old i c al e al' hi newl) (g0 _ newl) (ho ⟨wl, pl, ql.ints⟩)
  have at_n : (ρ ++ [al])[h.n]? = some al := by rw [← I.len]; simp
  obtain ⟨wt, pt, qt⟩ := rt
  match wt, pt, qt with
  | [u1, u2], pt, qt =>
    obtain ⟨e1, ⟨al', hal', e2⟩, _⟩ := qt
    have e1 : u1 = .bool (isNeg z) := e1
    rw [hal] at hal'; cases hal'
    subst e1; subst e2
    have J : Inv C g L' (ρ ++ [al] ++ [at']) [] ((h.new o).new (.tup [.bool (isNeg z), .ref h.n])) s'.heap := by
      refine I1.add (fun i c e al' hi => ?_) (g0 _ newt) ⟨[.bool (isNeg z), .ref al], pt, rfl, ⟨al, pre_get ⟨_, rfl⟩ at_n, rfl⟩, trivial⟩
      rw [get_new] at e
      by_cases q : i = h.n
      · subst q; rw [at_n] at hi; exact ne (Option.some.inj hi)
      · rw [if_neg q] at e
        obtain ⟨b, hb, _⟩ := I.ob i c e al'
        have := pre_get (⟨[al], rfl⟩ : ρ <+: ρ ++ [al]) hb
        rw [hi] at this; cases this
        exact old i c _ e al' hb newt
    have qv : v' = .ref at' := by
      obtain ⟨a, ha, e⟩ := q3
      rw [hat] at ha; cases ha; exact e
    subst qv
    exact K _ s' _ g L' [] ⟨[al, at'], by simp⟩ rst Z J ⟨at', by rw [List.append_assoc, ← I.len]; simp, rfl⟩
  | [], _, q => exact q.elim
  | [_], _, q => exact q.2.elim
  | _ :: _ :: _ :: _, _, q => exact q.2.2.elim
theorem natW_some {w : Int} {n : Nat} (e : natW w = some n) : w = Int.ofNat n ∧ 3 ≤ n ∧ n ≤ 8 := by
  unfold natW at e
  split at e
  · obtain ⟨g, e⟩ := gd_some e
    cases e
    rw [Bool.and_eq_true] at g
    exact ⟨rfl, Nat.le_of_ble_eq_true g.1, Nat.le_of_ble_eq_true g.2⟩
  · cases e
theorem w_cases {P : Nat → Prop} {n : Nat} (h1 : 3 ≤ n) (h2 : n ≤ 8) (h3 : P 3) (h4 : P 4) (h5 : P 5) (h6 : P 6) (h7 : P 7) (h8 : P 8) : P n := by
  have : n = 3 ∨ n = 4 ∨ n = 5 ∨ n = 6 ∨ n = 7 ∨ n = 8 := by omega
  rcases this with rfl | rfl | rfl | rfl | rfl | rfl <;> assumption
theorem one_cases {y : Int} (e : isOne y = true) : y = 1 ∨ y = -1 := by
  have := Nat.eq_of_beq_eq_true e
  omega
theorem decL_ok {a : Nat} {x : Int} {v : Value} (e : decL h a = some x) (I : Inv C h₀ L ρ vs h H) (r : VR C ρ (.ref a) v) : ∃ A B ws, v = .ref A ∧ IsTup H A #[.bool (isNeg x), .ref B] ∧ PlainL H B ws.toArray ∧ VRs C ρ ((cod C.wd x.natAbs).map .int) ws := by
  obtain ⟨A, hA, rfl⟩ := r
  unfold decL at e
  split at e
  · rename_i s l hx
    obtain ⟨us, t1, q1⟩ := I.obj hx trivial hA
    match us, q1, t1 with
    | [u1, u2], q1, t1 =>
      obtain ⟨e1, ⟨B, hB, e2⟩, _⟩ := q1
      have e1 : u1 = .bool s := e1
      subst e1; subst e2
      split at e
      · rename_i n hl
        obtain ⟨g, e⟩ := gd_some e
        cases e
        rw [Bool.and_eq_true] at g
        obtain ⟨h1, h2⟩ := neg_of s n g.2
        obtain ⟨ws, l1, q2⟩ := I.obj hl trivial hB
        exact ⟨A, B, ws, rfl, by rw [h1]; exact t1, l1, by rw [h2]; exact q2⟩
      · rename_i hl
        obtain ⟨g, e⟩ := gd_some e
        cases e
        obtain ⟨ws, l1, q2⟩ := I.obj hl trivial hB
        have hs : s = false := by simpa using g
        subst hs
        exact ⟨A, B, ws, rfl, t1, l1, q2⟩
      · cases e
    | [], q, _ => exact q.elim
    | [_], q, _ => exact q.2.elim
    | _ :: _ :: _ :: _, q, _ => exact q.2.2.elim
  · cases e
theorem add_fact {w : Nat} {x y : Int} (w1 : 3 ≤ w) (w2 : w ≤ 8) (g : (Nat.ble x.natAbs 12 && isOne y) = true) : okS w (x + y) (runS 17 w x y) = true := by
  rw [Bool.and_eq_true] at g
  have tab : tabAdd w = true := w_cases (P := fun n => tabAdd n = true) w1 w2 tabAdd3 tabAdd4 tabAdd5 tabAdd6 tabAdd7 tabAdd8
  have hx12 := Nat.le_of_ble_eq_true g.1
  have hi : (x + 12).toNat ∈ List.range 25 := List.mem_range.mpr (by omega)
  have := List.all_eq_true.mp tab _ hi
  have ex : Int.ofNat (x + 12).toNat - 12 = x := by
    show (((x + 12).toNat : Nat) : Int) - 12 = x
    omega
  rw [ex, Bool.and_eq_true] at this
  rcases one_cases g.2 with rfl | rfl
  · exact this.1
  · exact this.2
theorem mul_fact {w : Nat} {x y : Int} (w1 : 3 ≤ w) (w2 : w ≤ 8) (g : (isOne x && isOne y) = true) : okS w (x * y) (runS 19 w x y) = true := by
  rw [Bool.and_eq_true] at g
  have tab : tabMul w = true := by
    obtain ⟨a3, a4, a5, a6, a7, a8⟩ := tabMul_ok
    exact w_cases (P := fun n => tabMul n = true) w1 w2 a3 a4 a5 a6 a7 a8
  unfold tabMul at tab
  simp only [Bool.and_eq_true] at tab
  rcases one_cases g.1 with rfl | rfl <;> rcases one_cases g.2 with rfl | rfl
  · exact tab.1.1.1
  · exact tab.1.1.2
  · exact tab.1.2
  · exact tab.2
theorem ok35_some {w n : Nat} (e : ok35 w n = true) : ∃ i h, run35 w n = some (.ref i, h) ∧ h.get i = some ⟨true, .list ((cod w n).map .int)⟩ := by
  unfold ok35 at e
  split at e
  · rename_i i h hr
    split at e
    · rename_i xs hi
      split at e
      · rename_i ns hn
        rw [intl_map hn, eqInts_eq e] at hi
        exact ⟨i, h, hr, hi⟩
      · cases e
    · cases e
  · cases e
theorem ora35_ok (B : Base C fnTab) (h4 : C.ρ0.length = 4) {n : Nat} {args : List Value} {Q : Value → Shared → Prop} (ok : ok35 C.wd n = true)
    (ao : AOk 60 A) (st : C.b.StaysIn h₀) (I : Inv C h₀ L ρ vs h s.heap) (ha : VRs C C.ρ0 [.int (Int.ofNat n), .int (Int.ofNat C.wd)] args) (K : PostK C h₀ L ρ vs h (h.new (.lim n)) s (.ref h.n) Q) : wpAny (model C.prog C.w) A (call (.ref (C.fa 35)) args) Q E s := by
  have I2 : Inv C h₀ L C.ρ0 [] ⟨4, .e⟩ s.heap := ⟨pre_refl _, h4, let ⟨m, F, _⟩ := I.fr; ⟨m, F, fun k x e => by cases e⟩, fun i c e => (by cases e), fun i j ci cj a e => (by cases e)⟩
  obtain ⟨l, h3, hr, hr2⟩ := ok35_some ok
  have S : Snd C (ops W1 60) (60 + 0) := snd_ops (W := W1) B (N := 0) (fun hf hs => by cases hs) 60
  refine S.ca (show (ops W1 60).ca 35 _ _ = some (.ref l, h3) from hr) ao st I2 ha fun ρ3 s' v' g2 L' vs' p3 rst Z2 J2 q3 => ?_
  obtain ⟨g, Z⟩ := I.freeze
  have all2 : ∀ b o, s.heap.get? b = some o → g2.get? b = some o := fun b o e => Z2.get b o e fun i c ei ow _ _ => by cases ei
  obtain ⟨m', F', _⟩ := J2.fr
  have keep : ∀ b o, s.heap.get? b = some o → s'.heap.get? b = some o := fun b o e => F'.keep b o (all2 b o e)
  obtain ⟨al, hal, rl, ol⟩ := J2.ob l _ hr2 trivial
  have newl : s.heap.get? al = none := by
    cases q : s.heap.get? al with
    | none => rfl
    | some o => have := all2 _ _ q; rw [ol rfl] at this; cases this
  have I0 : Inv C g L' ρ [] h s'.heap := ⟨I.pre, I.len, ⟨m', ⟨F'.ns, fun b o e => keep b o (Z.sub b o e), by rw [Z.size, ← Z2.size]; exact F'.above⟩, fun k x e => by cases e⟩,
    fun i c e al => let ⟨a, ha, r, _⟩ := I.ob i c e al; ⟨a, ha, r.at C (keep a), fun ow => Z.own i c a e ow al ha⟩, I.sep⟩
  have old : ∀ i c a, h.get i = some c → c.o.alive → ρ[i]? = some a → s.heap.get? a ≠ none := fun i c a e al hi z => by
    obtain ⟨b, hb, r, _⟩ := I.ob i c e al
    rw [hi] at hb; cases hb
    obtain ⟨x, hx⟩ := r.obj C al
    rw [z] at hx; cases hx
  have g0 : g.get? al = none := by
    cases q : g.get? al with
    | none => rfl
    | some o => have := Z.sub al o q; rw [newl] at this; cases this
  obtain ⟨wl, pl, ql⟩ := rl
  have I1 : Inv C g L' (ρ ++ [al]) [] (h.new (.lim n)) s'.heap := I0.add (fun i c e al' hi => old i c al e al' hi newl) g0 ⟨wl, pl, ql.ints⟩
  have qv : v' = .ref al := by
    obtain ⟨a, ha, e⟩ := q3
    rw [hal] at ha; cases ha; exact e
  subst qv
  exact K _ s' _ g L' [] ⟨[al], rfl⟩ rst Z I1 ⟨al, by rw [← I.len]; simp, rfl⟩
theorem sum_ok (h4 : C.ρ0.length = 4) (B : Base C fnTab) : SumOK C W2 60 := by
  intro k xs h v h' f hf e A E h₀ L ρ vs s Q ws ao st I q K
  have e : sumF k xs h = some (v, h') := e
  have w1 := C.hwd.1
  have w2 := C.hwd.2
  unfold sumF at e
  split at e
  · unfold sum17 at e
    split at e
    · rename_i a b w
      split at e
      · rename_i n hw
        obtain ⟨rfl, w1, w2⟩ := natW_some hw
        split at e
        · rename_i x hx
          split at e
          · rename_i y hy
            obtain ⟨g, e⟩ := gd_some e
            cases e
            match ws, q with
            | [u1, u2, u3], q =>
              obtain ⟨q1, q2, ⟨t, rfl⟩, _⟩ := q
              obtain ⟨A1, B1, us, rfl, t1, l1, r1⟩ := dec_ok hx I q1
              obtain ⟨A2, B2, ws, rfl, t2, l2, r2⟩ := dec_ok hy I q2
              exact ora_ok B h4 (add_fact w1 w2 g) ao st I t1 l1 r1 t2 l2 r2 (fun r => r) ⟨⟨A1, by simp [h4], rfl⟩, ⟨A2, by simp [h4], rfl⟩, ⟨t, rfl⟩, trivial⟩ K
            | [], q => exact q.elim
            | [_], q => exact q.2.elim
            | [_, _], q => exact q.2.2.elim
            | _ :: _ :: _ :: _ :: _, q => exact q.2.2.2.elim
          · cases e
        · cases e
      · cases e
    · rename_i a b
      split at e
      · rename_i x hx
        split at e
        · rename_i y hy
          obtain ⟨g, e⟩ := gd_some e
          cases e
          match ws, q with
          | [u1, u2, u3], q =>
            obtain ⟨q1, q2, ⟨t, rfl⟩, _⟩ := q
            obtain ⟨A1, B1, us, rfl, t1, l1, r1⟩ := decL_ok hx I q1
            obtain ⟨A2, B2, ws, rfl, t2, l2, r2⟩ := decL_ok hy I q2
            exact ora_ok B h4 (add_fact w1 w2 g) ao st I t1 l1 r1 t2 l2 r2 (o := .lim (x + y).natAbs) (fun r => r) ⟨⟨A1, by simp [h4], rfl⟩, ⟨A2, by simp [h4], rfl⟩, ⟨t, rfl⟩, trivial⟩ K
          | [], q => exact q.elim
          | [_], q => exact q.2.elim
          | [_, _], q => exact q.2.2.elim
          | _ :: _ :: _ :: _ :: _, q => exact q.2.2.2.elim
        · cases e
      · cases e
    · cases e
  · unfold sum19 at e
    split at e
    · rename_i a b w
      split at e
      · rename_i n hw
        obtain ⟨rfl, w1, w2⟩ := natW_some hw
        split at e
        · rename_i x hx
          split at e
          · rename_i y hy
            obtain ⟨g, e⟩ := gd_some e
            cases e
            match ws, q with
            | [u1, u2, u3, u4], q =>
              obtain ⟨q1, q2, ⟨t, rfl⟩, q4, _⟩ := q
              obtain ⟨A1, B1, us, rfl, t1, l1, r1⟩ := dec_ok hx I q1
              obtain ⟨A2, B2, ws, rfl, t2, l2, r2⟩ := dec_ok hy I q2
              exact ora_ok B h4 (mul_fact w1 w2 g) ao st I t1 l1 r1 t2 l2 r2 (fun r => r) ⟨⟨A1, by simp [h4], rfl⟩, ⟨A2, by simp [h4], rfl⟩, ⟨t, rfl⟩, q4, trivial⟩ K
            | [], q => exact q.elim
            | [_], q => exact q.2.elim
            | [_, _], q => exact q.2.2.elim
            | [_, _, _], q => exact q.2.2.2.elim
            | _ :: _ :: _ :: _ :: _ :: _, q => exact q.2.2.2.2.elim
          · cases e
        · cases e
      · cases e
    · rename_i a b
      split at e
      · rename_i x hx
        split at e
        · rename_i y hy
          obtain ⟨g, e⟩ := gd_some e
          cases e
          match ws, q with
          | [u1, u2, u3, u4], q =>
            obtain ⟨q1, q2, ⟨t, rfl⟩, q4, _⟩ := q
            obtain ⟨A1, B1, us, rfl, t1, l1, r1⟩ := decL_ok hx I q1
            obtain ⟨A2, B2, ws, rfl, t2, l2, r2⟩ := decL_ok hy I q2
            exact ora_ok B h4 (mul_fact w1 w2 g) ao st I t1 l1 r1 t2 l2 r2 (o := .lim (x * y).natAbs) (fun r => r) ⟨⟨A1, by simp [h4], rfl⟩, ⟨A2, by simp [h4], rfl⟩, ⟨t, rfl⟩, q4, trivial⟩ K
          | [], q => exact q.elim
          | [_], q => exact q.2.elim
          | [_, _], q => exact q.2.2.elim
          | [_, _, _], q => exact q.2.2.2.elim
          | _ :: _ :: _ :: _ :: _ :: _, q => exact q.2.2.2.2.elim
        · cases e
      · cases e
    · cases e
  · unfold sum35 at e
    split at e
    · rename_i n e0
      obtain ⟨g, e⟩ := gd_some e
      cases e
      have ok : ok35 C.wd n = true := by
        have tab : tab35 C.wd = true := by
          obtain ⟨a3, a4, a5, a6, a7, a8⟩ := tab35_ok
          exact w_cases (P := fun n => tab35 n = true) w1 w2 a3 a4 a5 a6 a7 a8
        exact List.all_eq_true.mp tab n (List.mem_range.mpr (Nat.lt_succ_of_le (Nat.le_of_ble_eq_true g)))
      match ws, q with
      | [u1, u2], q =>
        obtain ⟨⟨t, rfl⟩, ⟨t', rfl⟩, _⟩ := q
        exact ora35_ok B h4 ok ao st I ⟨⟨t, rfl⟩, ⟨t', rfl⟩, trivial⟩ K
      | [], q => exact q.elim
      | [_], q => exact q.2.elim
      | _ :: _ :: _ :: _, q => exact q.2.2.elim
    · cases e
  · cases e
end Mj

namespace Mj
open PySem PySem.Calls PyProof.Rows
noncomputable section
/-! the law's five parts, and the states between them -/
noncomputable def segA : List Sx := f_law.body.take 2
noncomputable def segB : List Sx := (f_law.body.drop 2).take 3
noncomputable def segS : List Sx := (f_law.body.drop 5).take 1
noncomputable def segC : List Sx := (f_law.body.drop 6).take 3
noncomputable def segD : List Sx := f_law.body.drop 9
noncomputable def RR : Ops := ops W2 150
/-- the draws' list as it is known -/
noncomputable def qAll : List V := [.unk, .unk, .dr 2, .dr 3, .dr 4]
noncomputable def qOf (m : Nat) : List V := qAll.take m
noncomputable def scr (r1 r2 : Nat) : List V := [.sres 6 (Int.ofNat r1), .sres 3 (Int.ofNat r2), .sc 2, .sc 3, .sc 4]
noncomputable def scrO (m r1 r2 : Nat) : O := match m with
  | 5 => .pre (scr r1 r2)
  | m => .wlist ((scr r1 r2).take m)
noncomputable def vsOf (known : List (Nat × V)) : Vars := f_law.sc.map fun x => (x.1, match x.2 with
  | .l => .loc (lk x.1 known)
  | .c => .cel (match lk x.1 [(104, 4), (105, 5), (114, 6)] with | some i => i | none => 0)
  | .g => .glo
  | .f => .glo)
noncomputable def celId (vs : Vars) (k : Nat) : Nat := match lk k vs with
  | some (.cel i) => i
  | _ => 0
noncomputable def locId (vs : Vars) (k : Nat) : Nat := match lk k vs with
  | some (.loc (some (.ref i))) => i
  | _ => 0
noncomputable def refAt (h : Hp) (i n : Nat) : Nat := match h.obj i with
  | some (.list xs) => match nth xs n with | some (.ref j) => j | _ => 0
  | some (.wlist xs) => match nth xs n with | some (.ref j) => j | _ => 0
  | some (.tup xs) => match nth xs n with | some (.ref j) => j | _ => 0
  | some (.cell (some (.ref j))) => j
  | _ => 0
noncomputable def kids (h : Hp) (i : Nat) : List Nat := match h.lst i with
  | some xs => xs.map fun x => match x with | .ref j => j | _ => 0
  | none => []
noncomputable def headF (vs : Vars) (h : Hp) : List Nat := [0, 1, 2, 3, celId vs 104, celId vs 105, celId vs 114, locId vs 102, refAt h (locId vs 102) 1]
/-- behind A -/
noncomputable def hB (p : Nat) : Hp := ((((h4.fix (.cell (some (.int (Int.ofNat p))))).new (.cell none)).new (.cell none)).new (.wlist [.int 2, .ref 8])).fix .symq
noncomputable def vsB (w : Nat) : Vars := vsOf [(102, .ref 7), (51, .int (Int.ofNat w))]
noncomputable def hEnt (m r1 r2 : Nat) : Hp := h4.fix (scrO m r1 r2)
noncomputable def entA (m r1 r2 : Nat) : Option (Vars × Hp) := ent [(106, .ref 4)] f_law.sc (hEnt m r1 r2)
noncomputable def okN (P : Par) (F : Vars → Hp → List Nat) (b : List Sx) (vs : Vars) (h h2 : Hp) (vs2 : Vars) : Bool := match sxs RR.sx vs b h with
  | some ((.nxt, vs'), h') => chk P (F vs' h') h' h2 vs' vs2
  | _ => false
noncomputable def w0 (m r1 : Nat) : Nat := match m with | 0 => 6 | _ => Nat.add 3 r1
noncomputable def p0 (m r2 : Nat) : Nat := match m with | 0 => 3 | 1 => 3 | _ => (match r2 with | 0 => 3 | 1 => 7 | _ => 11)
noncomputable def okA (m r1 r2 : Nat) : Bool := match entA m r1 r2 with
  | some (vs, h) => okN ⟨some (qOf m), none⟩ headF segA vs h (hB (p0 m r2)) (vsB (w0 m r1))
  | none => false
/-- behind B; for p above 3 the width is said no more -/
noncomputable def entO (p : Nat) : O := match p with
  | 3 => .list [.int 1]
  | _ => .lim 1
noncomputable def wV (w p : Nat) : V := match p with
  | 3 => .int (Int.ofNat w)
  | _ => .wid
noncomputable def told (p : Nat) : List Int := match p with
  | 3 => [0, 1, -1]
  | 7 => [0, 1, 1, -1, 1, -1, -1]
  | _ => [0, 1, -1, 1, 1, 1, -1, -1, -1, 1, -1]
noncomputable def neg1 (p i j : Nat) : Bool := match i with
  | 0 => false
  | i + 1 => match j with
    | 0 => true
    | j + 1 => !Nat.beq i j && (match nth (told p) (Nat.mod (Nat.sub (Nat.add j p) i) p) with | some x => isNeg x | none => false)
noncomputable def fixs (os : List O) (h : Hp) : Hp := os.foldl (fun h o => h.fix o) h
noncomputable def evenO (p : Nat) : List O :=
  (.list ((List.range (p + 1)).map fun i => .ref (Nat.add 11 i))) ::
  (((List.range (p + 1)).map fun i => O.list ((List.range (p + 1)).map fun j => .ref (Nat.add (Nat.add 11 (p + 1)) (Nat.mul 2 (Nat.add (Nat.mul (p + 1) i) j))))) ++
   ((List.range (p + 1)).flatMap fun i => (List.range (p + 1)).flatMap fun j => [O.tup [.bool (neg1 p i j), .ref (Nat.succ (Nat.add (Nat.add 11 (p + 1)) (Nat.mul 2 (Nat.add (Nat.mul (p + 1) i) j))))], entO p]))
noncomputable def hMid (c p : Nat) : Hp := (((((h4.fix (.cell (some (.int (Int.ofNat p))))).fix (.cell (some (.ref 9)))).new (.cell none)).new (.wlist [.int (Int.ofNat c), .ref 8])).fix .symq).fix (.list ((told p).map .int))
noncomputable def hS (p : Nat) : Hp := fixs (evenO p) (hMid 2 p)
noncomputable def vsS (w p : Nat) : Vars := vsOf [(102, .ref 7), (51, wV w p), (108, .ref 10)]
noncomputable def evenF (h : Hp) (e : Nat) : List Nat := e :: (kids h e ++ ((kids h e).flatMap fun r => (kids h r).flatMap fun t => [t, refAt h t 1]))
noncomputable def fS (vs : Vars) (h : Hp) : List Nat := headF vs h ++ (refAt h (celId vs 105) 0 :: evenF h (locId vs 108))
noncomputable def okB (w p : Nat) : Bool := okN ⟨none, some w⟩ fS segB (vsB w) (hB p) (hS p) (vsS w p)
/-- behind S -/
noncomputable def idN (p : Nat) : Nat := Nat.add (Nat.add 11 (p + 1)) (Nat.mul 2 (Nat.mul (p + 1) (p + 1)))
noncomputable def hC0 (p : Nat) : Hp := fixs (evenO p) (hMid 4 p)
noncomputable def hC (p : Nat) (x y : V) : Hp := (hC0 p).fix (.list [x, y])
noncomputable def vsC (w p : Nat) : Vars := vsOf [(102, .ref 7), (51, wV w p), (108, .ref 10), (109, .ref (idN p))]
noncomputable def drX (m p : Nat) : V := if 3 ≤ m then .rm 2 (Int.ofNat (p + 1)) else .int (Int.ofNat (20 % (p + 1)))
noncomputable def drY (m p : Nat) : V := if 4 ≤ m then .rm 3 (Int.ofNat (p + 1)) else .int (Int.ofNat (26 % (p + 1)))
noncomputable def fC (vs : Vars) (h : Hp) : List Nat := fS vs h ++ [locId vs 109]
noncomputable def okSs (w p m : Nat) : Bool := okN ⟨some (qOf m), none⟩ fC segS (vsS w p) ((hS p).put 8 ⟨false, .list (qOf m)⟩) (hC p (drX m p) (drY m p)) (vsC w p)
/-- behind C -/
noncomputable def vsD : Vars := vsOf [(102, .ref 7)]
noncomputable def fD (vs : Vars) (h : Hp) : List Nat := headF vs h ++ [refAt h (celId vs 105) 0]
noncomputable def okC (w p : Nat) (x y : V) : Bool := okN ⟨none, none⟩ fD segC (vsC w p) (hC p x y) (hMid 4 p) vsD
/-- the end -/
noncomputable def qD (m p r : Nat) : List V := [V.unk, .unk, .unk, .unk, .ires (Int.ofNat (p - 1)) (Int.ofNat r)].take m
noncomputable def okD (p m r : Nat) : Bool := match sxs RR.sx vsD segD ((hMid 4 p).put 8 ⟨false, .list (qD m p r)⟩) with
  | some ((.ret (.bool true), _), _) => true
  | _ => false
end
end Mj

namespace Mj
open PySem PySem.Calls PyProof.Rows
/-- what the kernel's runs say -/
structure Tabs : Prop where
  a : ∀ m r1 r2, m ≤ 5 → r1 < 6 → r2 < 3 → okA m r1 r2 = true
  b : ∀ w p, 3 ≤ w → w ≤ 8 → p = 3 ∨ p = 7 ∨ p = 11 → okB w p = true
  s3 : ∀ w m, 3 ≤ w → w ≤ 8 → m ≤ 5 → okSs w 3 m = true
  s7 : ∀ m, m ≤ 5 → okSs 0 7 m = true
  s11 : ∀ m, m ≤ 5 → okSs 0 11 m = true
  c3 : ∀ w, 3 ≤ w → w ≤ 8 → okC w 3 .unk .unk = true
  c7 : ∀ a b, a < 8 → b < 8 → okC 0 7 (.int (Int.ofNat a)) (.int (Int.ofNat b)) = true
  c11 : ∀ a b, a < 12 → b < 12 → okC 0 11 (.int (Int.ofNat a)) (.int (Int.ofNat b)) = true
  d : ∀ p m r, p = 3 ∨ p = 7 ∨ p = 11 → m ≤ 5 → r < p - 1 → okD p m r = true

variable {C : Ctx} {A : Around} {E : Value → Shared → Prop} {s : Shared} {h₀ g H : Heap} {L : Addr} {ρ : List Addr} {vs vs2 : Vars} {h h2 : Hp} {env : Env}
theorem execs_app : ∀ (a b : List Stmt) (env : Env), execs (a ++ b) env = (do match ← execs a env with | .next => execs b env | f => pure f)
  | [], b, env => by
    show execs b env = (pure Flow.next >>= _)
    rw [pure_bind]
  | x :: a, b, env => by
    rw [List.cons_append, execs_cons, execs_cons, bind_assoc]
    congr 1
    funext f
    cases f with
    | next => exact execs_app a b env
    | _ => rw [pure_bind]
theorem pyb_append : ∀ a b : List Sx, pyb (a ++ b) = pyb a ++ pyb b
  | [], _ => rfl
  | x :: a, b => by show x.py :: pyb (a ++ b) = _; rw [pyb_append a b]; rfl
theorem execs_append {M : Model} {a b : List Sx} {Q : Flow → Shared → Prop} (h : wpAny M A (execs (pyb a) env) (fun f s' => match f with | .next => wpAny M A (execs (pyb b) env) Q E s' | f => Q f s') E s) : wpAny M A (execs (pyb (a ++ b)) env) Q E s := by
  rw [pyb_append, execs_app]
  refine wpAny_bind (wpAny_mono h (fun f s' hf => ?_) fun _ _ x => x)
  cases f with
  | next => exact hf
  | _ => exact wpAny_pure hf
theorem seg_ok {n : Nat} {P : Par} {F : Vars → Hp → List Nat} (S : Snd C RR n) (PO : ParOK C P) (h4 : C.ρ0.length = 4) {b : List Sx} {Q : Flow → Shared → Prop} (ok : okN P F b vs h h2 vs2 = true) (ao : AOk n A) (st : C.b.StaysIn h₀) (V : EnvOK L ρ vs env)
    (I : Inv C h₀ L ρ vs h s.heap) (K : ∀ ρ2 s2, Rest s s2 → EnvOK L ρ2 vs2 env → Inv C h₀ L ρ2 vs2 h2 s2.heap → Q .next s2) : wpAny (model C.prog C.w) A (execs (pyb b) env) Q E s := by
  unfold okN at ok
  split at ok
  · rename_i vs' h' hr
    refine sxs_ok S hr ao st V I fun ρ1 s1 f p1 r1 V1 I1 q1 => ?_
    cases q1
    obtain ⟨I2, V2⟩ := ren_ok PO h4 ok I1
    exact K _ s1 r1 (V2 V1) I2
  · cases ok
/-- said by its objects alone -/
theorem Inv.ext (I : Inv C h₀ L ρ vs h H) (e : ∀ i, h2.get i = h.get i) (n : h2.n = h.n) : Inv C h₀ L ρ vs h2 H where
  pre := I.pre
  len := I.len.trans n.symm
  fr := I.fr
  ob := fun i c x al => I.ob i c (by rw [← e]; exact x) al
  sep := fun i j ci cj a ei ej => I.sep i j ci cj a (by rw [← e]; exact ei) (by rw [← e]; exact ej)
theorem VRs.wk : ∀ {l : List (V × V)} {ws : List Value}, (∀ p ∈ l, ∀ v, VR C ρ p.1 v → VR C ρ p.2 v) → VRs C ρ (l.map (·.1)) ws → VRs C ρ (l.map (·.2)) ws
  | [], [], _, _ => trivial
  | p :: _, w :: _, h, r => ⟨h p (.head _) w r.1, VRs.wk (fun q hq => h q (.tail _ hq)) r.2⟩
  | [], _ :: _, _, r => r.elim
  | _ :: _, [], _, r => r.elim
theorem get_hC (p : Nat) (x y : V) (j : Nat) : (hC p x y).get j = if j = (hC0 p).n then some ⟨false, .list [x, y]⟩ else (hC0 p).get j := get_fix _ _ _
theorem hC_wk {p : Nat} {x y x' y' : V} (I : Inv C h₀ L ρ vs (hC p x y) H) (hx : ∀ v, VR C ρ x v → VR C ρ x' v) (hy : ∀ v, VR C ρ y v → VR C ρ y' v) : Inv C h₀ L ρ vs (hC p x' y') H := by
  have e := get_hC p x y (hC0 p).n
  rw [if_pos rfl] at e
  have I2 := I.item e trivial (o := .list [x', y']) fun a r => by
    obtain ⟨ws, l, r⟩ := r
    refine ⟨ws, l, ?_⟩
    exact VRs.wk (l := [(x, x'), (y, y')]) (fun q hq v r => by
      rcases List.mem_cons.mp hq with rfl | hq
      · exact hx v r
      · rcases List.mem_cons.mp hq with rfl | hq
        · exact hy v r
        · cases hq) r
  refine I2.ext (fun j => ?_) rfl
  rw [get_put e, get_hC, get_hC]
  split <;> rfl
theorem get_fixs : ∀ (os : List O) (h : Hp) (i : Nat), i < h.n → (fixs os h).get i = h.get i
  | [], _, _, _ => rfl
  | o :: os, h, i, hi => by
    show (fixs os (h.fix o)).get i = _
    rw [get_fixs os (h.fix o) i (Nat.lt_succ_of_lt hi), get_fix, if_neg (Nat.ne_of_lt hi)]
theorem mid8 (c p : Nat) : (hMid c p).get 8 = some ⟨false, .symq⟩ := by
  unfold hMid
  rw [get_fix, if_neg (by show ¬ (8 = 9); decide), get_fix, if_pos (by rfl)]
theorem hS8 (p : Nat) : (hS p).get 8 = some ⟨false, .symq⟩ := by
  unfold hS
  rw [get_fixs _ _ _ (by show 8 < 10; decide)]
  exact mid8 2 p
theorem body_eq : f_law.body = segA ++ (segB ++ (segS ++ (segC ++ segD))) := rfl
theorem fmod_nat {y : Int} {m : Nat} (hm : 0 < m) : ∃ r : Nat, r < m ∧ y.fmod (Int.ofNat m) = Int.ofNat r := by
  have h1 : 0 ≤ y.fmod (Int.ofNat m) := Int.fmod_nonneg_of_pos _ (by show (0 : Int) < (m : Int); omega)
  have h2 : y.fmod (Int.ofNat m) < Int.ofNat m := Int.fmod_lt_of_pos _ (by show (0 : Int) < (m : Int); omega)
  refine ⟨(y.fmod (Int.ofNat m)).toNat, ?_, ?_⟩
  · have : (Int.ofNat m) = (m : Int) := rfl
    omega
  · exact (Int.toNat_of_nonneg h1).symm
theorem drX_ok {m p : Nat} : ∃ r : Nat, r < p + 1 ∧ ∀ v, VR C ρ (drX m p) v → VR C ρ (.int (Int.ofNat r)) v := by
  unfold drX
  split
  · obtain ⟨r, h1, h2⟩ := fmod_nat (y := C.y 2) (m := p + 1) (Nat.succ_pos p)
    exact ⟨r, h1, fun v ⟨t, e⟩ => ⟨t, by rw [e, h2]⟩⟩
  · exact ⟨20 % (p + 1), Nat.mod_lt _ (Nat.succ_pos p), fun v r => r⟩
theorem drY_ok {m p : Nat} : ∃ r : Nat, r < p + 1 ∧ ∀ v, VR C ρ (drY m p) v → VR C ρ (.int (Int.ofNat r)) v := by
  unfold drY
  split
  · obtain ⟨r, h1, h2⟩ := fmod_nat (y := C.y 3) (m := p + 1) (Nat.succ_pos p)
    exact ⟨r, h1, fun v ⟨t, e⟩ => ⟨t, by rw [e, h2]⟩⟩
  · exact ⟨26 % (p + 1), Nat.mod_lt _ (Nat.succ_pos p), fun v r => r⟩
theorem unk_ok {x : Nat} {v : Value} (r : VR C ρ (.int (Int.ofNat x)) v) : VR C ρ .unk v := by obtain ⟨t, rfl⟩ := r; exact ⟨_, _, rfl⟩
theorem qD_ok {m p r : Nat} (hm : m ≤ 5) (hr : m = 5 → (C.y 4).fmod (Int.ofNat (p - 1)) = Int.ofNat r) {ws : List Value} (q : VRs C ρ (qOf m) ws) : VRs C ρ (qD m p r) ws := by
  have hl : ∀ l : List (V × V), (∀ p ∈ l, ∀ v, VR C ρ p.1 v → VR C ρ p.2 v) → qOf m = l.map (·.1) → qD m p r = l.map (·.2) → VRs C ρ (qD m p r) ws := fun l h e1 e2 => by
    rw [e1] at q; rw [e2]; exact VRs.wk h q
  have d : ∀ i v, VR C ρ (V.dr i) v → VR C ρ V.unk v := fun i v ⟨t, e⟩ => ⟨_, t, e⟩
  have h5 : m = 0 ∨ m = 1 ∨ m = 2 ∨ m = 3 ∨ m = 4 ∨ m = 5 := by omega
  have all : ∀ (l : List (V × V)), l <+: [(V.unk, V.unk), (.unk, .unk), (.dr 2, .unk), (.dr 3, .unk)] → ∀ p ∈ l, ∀ v, VR C ρ p.1 v → VR C ρ p.2 v := fun l hl p hp v r => by
    have := hl.subset hp
    simp only [List.mem_cons, List.not_mem_nil, or_false] at this
    rcases this with rfl | rfl | rfl | rfl
    · exact r
    · exact r
    · exact d _ _ r
    · exact d _ _ r
  rcases h5 with rfl | rfl | rfl | rfl | rfl | rfl
  · exact hl [] (all _ ⟨_, rfl⟩) rfl rfl
  · exact hl [(.unk, .unk)] (all _ ⟨_, rfl⟩) rfl rfl
  · exact hl [(.unk, .unk), (.unk, .unk)] (all _ ⟨_, rfl⟩) rfl rfl
  · exact hl [(.unk, .unk), (.unk, .unk), (.dr 2, .unk)] (all _ ⟨_, rfl⟩) rfl rfl
  · exact hl [(.unk, .unk), (.unk, .unk), (.dr 2, .unk), (.dr 3, .unk)] (all _ ⟨_, rfl⟩) rfl rfl
  · refine hl ([(.unk, .unk), (.unk, .unk), (.dr 2, .unk), (.dr 3, .unk)] ++ [(.dr 4, .ires (Int.ofNat (p - 1)) (Int.ofNat r))]) (fun p hp v rv => ?_) rfl rfl
    rcases List.mem_append.mp hp with h | h
    · exact all _ ⟨[], rfl⟩ p h v rv
    · rw [List.mem_singleton] at h
      subst h
      obtain ⟨t, e⟩ := rv
      exact ⟨_, t, e, hr rfl⟩
end Mj

namespace Mj

theorem ta0 : ((List.range 6).all fun r1 => (List.range 3).all fun r2 => okA 0 r1 r2) = true := by decide +kernel
theorem ta1 : ((List.range 6).all fun r1 => (List.range 3).all fun r2 => okA 1 r1 r2) = true := by decide +kernel
theorem ta2 : ((List.range 6).all fun r1 => (List.range 3).all fun r2 => okA 2 r1 r2) = true := by decide +kernel
theorem ta3 : ((List.range 6).all fun r1 => (List.range 3).all fun r2 => okA 3 r1 r2) = true := by decide +kernel
theorem ta4 : ((List.range 6).all fun r1 => (List.range 3).all fun r2 => okA 4 r1 r2) = true := by decide +kernel
theorem ta5 : ((List.range 6).all fun r1 => (List.range 3).all fun r2 => okA 5 r1 r2) = true := by decide +kernel
theorem tb3_3 : okB 3 3 = true := by decide +kernel
theorem tb3_4 : okB 4 3 = true := by decide +kernel
theorem tb3_5 : okB 5 3 = true := by decide +kernel
theorem tb3_6 : okB 6 3 = true := by decide +kernel
theorem tb3_7 : okB 7 3 = true := by decide +kernel
theorem tb3_8 : okB 8 3 = true := by decide +kernel
theorem tb7_3 : okB 3 7 = true := by decide +kernel
theorem tb7_4 : okB 4 7 = true := by decide +kernel
theorem tb7_5 : okB 5 7 = true := by decide +kernel
theorem tb7_6 : okB 6 7 = true := by decide +kernel
theorem tb7_7 : okB 7 7 = true := by decide +kernel
theorem tb7_8 : okB 8 7 = true := by decide +kernel
theorem tb11_3 : okB 3 11 = true := by decide +kernel
theorem tb11_4 : okB 4 11 = true := by decide +kernel
theorem tb11_5 : okB 5 11 = true := by decide +kernel
theorem tb11_6 : okB 6 11 = true := by decide +kernel
theorem tb11_7 : okB 7 11 = true := by decide +kernel
theorem tb11_8 : okB 8 11 = true := by decide +kernel
theorem ts3_3 : ((List.range 6).all fun m => okSs 3 3 m) = true := by decide +kernel
theorem ts3_4 : ((List.range 6).all fun m => okSs 4 3 m) = true := by decide +kernel
theorem ts3_5 : ((List.range 6).all fun m => okSs 5 3 m) = true := by decide +kernel
theorem ts3_6 : ((List.range 6).all fun m => okSs 6 3 m) = true := by decide +kernel
theorem ts3_7 : ((List.range 6).all fun m => okSs 7 3 m) = true := by decide +kernel
theorem ts3_8 : ((List.range 6).all fun m => okSs 8 3 m) = true := by decide +kernel
theorem ts7 : ((List.range 6).all fun m => okSs 0 7 m) = true := by decide +kernel
theorem ts11 : ((List.range 6).all fun m => okSs 0 11 m) = true := by decide +kernel
theorem tc3_3 : okC 3 3 .unk .unk = true := by decide +kernel
theorem tc3_4 : okC 4 3 .unk .unk = true := by decide +kernel
theorem tc3_5 : okC 5 3 .unk .unk = true := by decide +kernel
theorem tc3_6 : okC 6 3 .unk .unk = true := by decide +kernel
theorem tc3_7 : okC 7 3 .unk .unk = true := by decide +kernel
theorem tc3_8 : okC 8 3 .unk .unk = true := by decide +kernel
theorem tc7_0 : ((List.range 8).all fun b => okC 0 7 (.int 0) (.int (Int.ofNat b))) = true := by decide +kernel
theorem tc7_1 : ((List.range 8).all fun b => okC 0 7 (.int 1) (.int (Int.ofNat b))) = true := by decide +kernel
theorem tc7_2 : ((List.range 8).all fun b => okC 0 7 (.int 2) (.int (Int.ofNat b))) = true := by decide +kernel
theorem tc7_3 : ((List.range 8).all fun b => okC 0 7 (.int 3) (.int (Int.ofNat b))) = true := by decide +kernel
theorem tc7_4 : ((List.range 8).all fun b => okC 0 7 (.int 4) (.int (Int.ofNat b))) = true := by decide +kernel
theorem tc7_5 : ((List.range 8).all fun b => okC 0 7 (.int 5) (.int (Int.ofNat b))) = true := by decide +kernel
theorem tc7_6 : ((List.range 8).all fun b => okC 0 7 (.int 6) (.int (Int.ofNat b))) = true := by decide +kernel
theorem tc7_7 : ((List.range 8).all fun b => okC 0 7 (.int 7) (.int (Int.ofNat b))) = true := by decide +kernel
theorem tc11_0 : ((List.range 12).all fun b => okC 0 11 (.int 0) (.int (Int.ofNat b))) = true := by decide +kernel
theorem tc11_1 : ((List.range 12).all fun b => okC 0 11 (.int 1) (.int (Int.ofNat b))) = true := by decide +kernel
theorem tc11_2 : ((List.range 12).all fun b => okC 0 11 (.int 2) (.int (Int.ofNat b))) = true := by decide +kernel
theorem tc11_3 : ((List.range 12).all fun b => okC 0 11 (.int 3) (.int (Int.ofNat b))) = true := by decide +kernel
theorem tc11_4 : ((List.range 12).all fun b => okC 0 11 (.int 4) (.int (Int.ofNat b))) = true := by decide +kernel
theorem tc11_5 : ((List.range 12).all fun b => okC 0 11 (.int 5) (.int (Int.ofNat b))) = true := by decide +kernel
theorem tc11_6 : ((List.range 12).all fun b => okC 0 11 (.int 6) (.int (Int.ofNat b))) = true := by decide +kernel
theorem tc11_7 : ((List.range 12).all fun b => okC 0 11 (.int 7) (.int (Int.ofNat b))) = true := by decide +kernel
theorem tc11_8 : ((List.range 12).all fun b => okC 0 11 (.int 8) (.int (Int.ofNat b))) = true := by decide +kernel
theorem tc11_9 : ((List.range 12).all fun b => okC 0 11 (.int 9) (.int (Int.ofNat b))) = true := by decide +kernel
theorem tc11_10 : ((List.range 12).all fun b => okC 0 11 (.int 10) (.int (Int.ofNat b))) = true := by decide +kernel
theorem tc11_11 : ((List.range 12).all fun b => okC 0 11 (.int 11) (.int (Int.ofNat b))) = true := by decide +kernel
theorem td3 : ((List.range 2).all fun r => okD 3 5 r) = true := by decide +kernel
theorem te3 : ((List.range 5).all fun m => okD 3 m 0) = true := by decide +kernel
theorem td7 : ((List.range 6).all fun r => okD 7 5 r) = true := by decide +kernel
theorem te7 : ((List.range 5).all fun m => okD 7 m 0) = true := by decide +kernel
theorem td11 : ((List.range 10).all fun r => okD 11 5 r) = true := by decide +kernel
theorem te11 : ((List.range 5).all fun m => okD 11 m 0) = true := by decide +kernel

theorem lt_cases {P : Nat → Prop} {n k : Nat} (h : n < k) (a : ∀ i, i ∈ List.range k → P i) : P n := a n (List.mem_range.mpr h)
theorem all_r {f : Nat → Bool} {k n : Nat} (h : (List.range k).all f = true) (hn : n < k) : f n = true := List.all_eq_true.mp h n (List.mem_range.mpr hn)
theorem okD_less {p m r : Nat} (h : m < 5) : okD p m r = okD p m 0 := by
  have e : qD m p r = qD m p 0 := by
    have : m = 0 ∨ m = 1 ∨ m = 2 ∨ m = 3 ∨ m = 4 := by omega
    rcases this with rfl | rfl | rfl | rfl | rfl <;> rfl
  unfold okD
  rw [e]
theorem tabs : Tabs where
  a := fun m r1 r2 hm h1 h2 => by
    have : m = 0 ∨ m = 1 ∨ m = 2 ∨ m = 3 ∨ m = 4 ∨ m = 5 := by omega
    rcases this with rfl | rfl | rfl | rfl | rfl | rfl
    · exact all_r (all_r (f := fun r1 => (List.range 3).all fun r2 => okA 0 r1 r2) ta0 h1) h2
    · exact all_r (all_r (f := fun r1 => (List.range 3).all fun r2 => okA 1 r1 r2) ta1 h1) h2
    · exact all_r (all_r (f := fun r1 => (List.range 3).all fun r2 => okA 2 r1 r2) ta2 h1) h2
    · exact all_r (all_r (f := fun r1 => (List.range 3).all fun r2 => okA 3 r1 r2) ta3 h1) h2
    · exact all_r (all_r (f := fun r1 => (List.range 3).all fun r2 => okA 4 r1 r2) ta4 h1) h2
    · exact all_r (all_r (f := fun r1 => (List.range 3).all fun r2 => okA 5 r1 r2) ta5 h1) h2
  b := fun w p h1 h2 hp => by
    rcases hp with rfl | rfl | rfl
    · exact w_cases (P := fun w => okB w 3 = true) h1 h2 tb3_3 tb3_4 tb3_5 tb3_6 tb3_7 tb3_8
    · exact w_cases (P := fun w => okB w 7 = true) h1 h2 tb7_3 tb7_4 tb7_5 tb7_6 tb7_7 tb7_8
    · exact w_cases (P := fun w => okB w 11 = true) h1 h2 tb11_3 tb11_4 tb11_5 tb11_6 tb11_7 tb11_8
  s3 := fun w m h1 h2 hm => w_cases (P := fun w => okSs w 3 m = true) h1 h2 (all_r (f := fun m => okSs 3 3 m) ts3_3 (Nat.lt_succ_of_le hm)) (all_r (f := fun m => okSs 4 3 m) ts3_4 (Nat.lt_succ_of_le hm)) (all_r (f := fun m => okSs 5 3 m) ts3_5 (Nat.lt_succ_of_le hm)) (all_r (f := fun m => okSs 6 3 m) ts3_6 (Nat.lt_succ_of_le hm)) (all_r (f := fun m => okSs 7 3 m) ts3_7 (Nat.lt_succ_of_le hm)) (all_r (f := fun m => okSs 8 3 m) ts3_8 (Nat.lt_succ_of_le hm))
  s7 := fun m hm => all_r (f := fun m => okSs 0 7 m) ts7 (Nat.lt_succ_of_le hm)
  s11 := fun m hm => all_r (f := fun m => okSs 0 11 m) ts11 (Nat.lt_succ_of_le hm)
  c3 := fun w h1 h2 => w_cases (P := fun w => okC w 3 .unk .unk = true) h1 h2 tc3_3 tc3_4 tc3_5 tc3_6 tc3_7 tc3_8
  c7 := fun a b ha hb => by
    have : a = 0 ∨ a = 1 ∨ a = 2 ∨ a = 3 ∨ a = 4 ∨ a = 5 ∨ a = 6 ∨ a = 7 := by omega
    rcases this with rfl | rfl | rfl | rfl | rfl | rfl | rfl | rfl
    · exact all_r (f := fun b => okC 0 7 (.int 0) (.int (Int.ofNat b))) tc7_0 hb
    · exact all_r (f := fun b => okC 0 7 (.int 1) (.int (Int.ofNat b))) tc7_1 hb
    · exact all_r (f := fun b => okC 0 7 (.int 2) (.int (Int.ofNat b))) tc7_2 hb
    · exact all_r (f := fun b => okC 0 7 (.int 3) (.int (Int.ofNat b))) tc7_3 hb
    · exact all_r (f := fun b => okC 0 7 (.int 4) (.int (Int.ofNat b))) tc7_4 hb
    · exact all_r (f := fun b => okC 0 7 (.int 5) (.int (Int.ofNat b))) tc7_5 hb
    · exact all_r (f := fun b => okC 0 7 (.int 6) (.int (Int.ofNat b))) tc7_6 hb
    · exact all_r (f := fun b => okC 0 7 (.int 7) (.int (Int.ofNat b))) tc7_7 hb
  c11 := fun a b ha hb => by
    have : a = 0 ∨ a = 1 ∨ a = 2 ∨ a = 3 ∨ a = 4 ∨ a = 5 ∨ a = 6 ∨ a = 7 ∨ a = 8 ∨ a = 9 ∨ a = 10 ∨ a = 11 := by omega
    rcases this with rfl | rfl | rfl | rfl | rfl | rfl | rfl | rfl | rfl | rfl | rfl | rfl
    · exact all_r (f := fun b => okC 0 11 (.int 0) (.int (Int.ofNat b))) tc11_0 hb
    · exact all_r (f := fun b => okC 0 11 (.int 1) (.int (Int.ofNat b))) tc11_1 hb
    · exact all_r (f := fun b => okC 0 11 (.int 2) (.int (Int.ofNat b))) tc11_2 hb
    · exact all_r (f := fun b => okC 0 11 (.int 3) (.int (Int.ofNat b))) tc11_3 hb
    · exact all_r (f := fun b => okC 0 11 (.int 4) (.int (Int.ofNat b))) tc11_4 hb
    · exact all_r (f := fun b => okC 0 11 (.int 5) (.int (Int.ofNat b))) tc11_5 hb
    · exact all_r (f := fun b => okC 0 11 (.int 6) (.int (Int.ofNat b))) tc11_6 hb
    · exact all_r (f := fun b => okC 0 11 (.int 7) (.int (Int.ofNat b))) tc11_7 hb
    · exact all_r (f := fun b => okC 0 11 (.int 8) (.int (Int.ofNat b))) tc11_8 hb
    · exact all_r (f := fun b => okC 0 11 (.int 9) (.int (Int.ofNat b))) tc11_9 hb
    · exact all_r (f := fun b => okC 0 11 (.int 10) (.int (Int.ofNat b))) tc11_10 hb
    · exact all_r (f := fun b => okC 0 11 (.int 11) (.int (Int.ofNat b))) tc11_11 hb
  d := fun p m r hp hm hr => by
    rcases Nat.lt_or_eq_of_le hm with h | rfl
    · rw [okD_less h]
      rcases hp with rfl | rfl | rfl
      · exact all_r (f := fun m => okD 3 m 0) te3 h
      · exact all_r (f := fun m => okD 7 m 0) te7 h
      · exact all_r (f := fun m => okD 11 m 0) te11 h
    · rcases hp with rfl | rfl | rfl
      · exact all_r (f := fun r => okD 3 5 r) td3 hr
      · exact all_r (f := fun r => okD 7 5 r) td7 hr
      · exact all_r (f := fun r => okD 11 5 r) td11 hr
end Mj

namespace Mj
open PySem PySem.Calls PyProof.Rows
variable {C : Ctx} {A : Around} {E : Value → Shared → Prop} {s : Shared} {h₀ g H : Heap} {L : Addr} {ρ : List Addr} {vs vs2 : Vars} {h h2 : Hp} {env : Env}
noncomputable def NoOwn (h : Hp) : Prop := ∀ i c, h.get i = some c → c.own = false
theorem NoOwn.fix (n : NoOwn h) (o : O) : NoOwn (h.fix o) := fun i c e => by
  rw [get_fix] at e
  split at e
  · cases e; rfl
  · exact n i c e
theorem noOwn4 : NoOwn h4 := by
  unfold h4
  exact NoOwn.fix (NoOwn.fix (NoOwn.fix (NoOwn.fix (fun i c e => by cases e) _) _) _) _
noncomputable def noRef : V → Bool
  | .ref _ => false
  | _ => true
theorem VRs.noref : ∀ {l : List V} {ρ ρ' : List Addr} {ws : List Value}, l.all noRef = true → VRs C ρ l ws → VRs C ρ' l ws
  | [], _, _, [], _, _ => trivial
  | x :: l, _, _, w :: ws, h, r => by
    rw [List.all_cons, Bool.and_eq_true] at h
    refine ⟨?_, VRs.noref h.2 r.2⟩
    cases x with
    | ref => exact absurd h.1 Bool.false_ne_true
    | _ => exact r.1
  | [], _, _, _ :: _, _, r => r.elim
  | _ :: _, _, _, [], _, r => r.elim
theorem qOf_noref (m : Nat) : (qOf m).all noRef = true := by
  rw [List.all_eq_true]
  intro x hx
  have := List.mem_of_mem_take hx
  exact List.all_eq_true.mp (show qAll.all noRef = true from rfl) x this
theorem w0_ok {m r1 : Nat} (h : r1 < 6) : 3 ≤ w0 m r1 ∧ w0 m r1 ≤ 8 := by
  cases m with
  | zero => show 3 ≤ 6 ∧ 6 ≤ 8; omega
  | succ m => show 3 ≤ 3 + r1 ∧ 3 + r1 ≤ 8; omega
theorem p0_ok (m r2 : Nat) : p0 m r2 = 3 ∨ p0 m r2 = 7 ∨ p0 m r2 = 11 := by
  match m, r2 with
  | 0, _ => exact .inl rfl
  | 1, _ => exact .inl rfl
  | m + 2, 0 => exact .inl rfl
  | m + 2, 1 => exact .inr (.inl rfl)
  | m + 2, r + 2 => exact .inr (.inr rfl)
theorem lk37 : lk 37 fnTab = some f_law := rfl
theorem law_run (T : Tabs) (B : Base C fnTab) (h4 : C.ρ0.length = 4) {m r1 r2 : Nat} (hm : m ≤ 5) (hr1 : r1 < 6) (hr2 : r2 < 3) (hq : C.q = qOf m) (hw : C.wd = w0 m r1) {ws : List Value} {Q : Value → Shared → Prop}
    (ao : AOk 211 A) (st : C.b.StaysIn s.heap) (pre : C.ρ0 <+: ρ) (len : ρ.length = 5) (ob : ∀ i c, (hEnt m r1 r2).get i = some c → ∃ a, ρ[i]? = some a ∧ OR C ρ s.heap a c.o) (q : VRs C ρ [.ref 4] ws)
    (K : ∀ s', Rest s s' → (∀ b o, s.heap.get? b = some o → s'.heap.get? b = some o) → Q (.bool true) s') : wpAny (model C.prog C.w) A (call (.ref (C.fa 37)) ws) Q E s := by
  have S : Snd C RR (150 + 60) := snd_ops (W := W2) B (sum_ok h4 B) 150
  have nr : ∀ ρ ρ' ws, VRs C ρ C.q ws → VRs C ρ' C.q ws := fun ρ ρ' ws r => by rw [hq] at r ⊢; exact VRs.noref (qOf_noref m) r
  have P1 : ParOK C ⟨some (qOf m), none⟩ := ⟨fun q e => by cases e; exact hq, fun w e => (by cases e), nr⟩
  have P2 : ParOK C ⟨none, some (w0 m r1)⟩ := ⟨fun q e => (by cases e), fun w e => by cases e; exact hw, nr⟩
  have P3 : ParOK C ⟨none, none⟩ := ⟨fun q e => (by cases e), fun w e => (by cases e), nr⟩
  obtain ⟨wl, wh⟩ := w0_ok (m := m) hr1
  have hp := p0_ok m r2
  have okA := T.a m r1 r2 hm hr1 hr2
  unfold Mj.okA at okA
  split at okA
  · rename_i vs0 h0 hent
    have no : NoOwn (hEnt m r1 r2) := noOwn4.fix (scrO m r1 r2)
    refine enter0 (g := s.heap) (n := 150 + 60) B lk37 (bs := [(106, .ref 4)]) rfl hent ao st rfl (fun hh m k n => ⟨pre, len, ⟨m, ⟨n, k, Nat.le_refl _⟩, fun k x e => (by cases e)⟩, fun i c e al => (by
      obtain ⟨a, ha, r⟩ := ob i c e
      exact ⟨a, ha, r.at C (k a), fun ow => (by rw [no i c e] at ow; cases ow)⟩), fun i j ci cj a ei _ ow _ _ _ _ => (by rw [no i ci ei] at ow; cases ow)⟩) (fun i c a e al hi => by
        obtain ⟨b, hb, r⟩ := ob i c e
        rw [hi] at hb; cases hb
        obtain ⟨x, hx⟩ := r.obj C al
        exact Heap.lt_size hx) q fun L1 ρ1 s1 env A' E' p1 r1' V1 I1 ao' => ?_
    have st' : C.b.StaysIn s.heap := st
    have keep : ∀ b o, s.heap.get? b = some o → s.heap.get? b = some o := fun b o e => e
    rw [body_eq]
    -- the thread and the first two draws
    refine execs_append (seg_ok S P1 h4 okA ao' st' V1 I1 fun ρ2 s2 rA V2 I2 => ?_)
    generalize hpp : p0 m r2 = p at *
    generalize hww : w0 m r1 = w at *
    -- rows, told, even
    refine execs_append (seg_ok S P2 h4 (T.b w p wl wh hp) ao' st' V2 I2 fun ρ3 s3 rB V3 I3 => ?_)
    -- two draws more
    have I3' : Inv C s.heap L1 ρ3 (vsS w p) ((hS p).put 8 ⟨false, .list (qOf m)⟩) s3.heap := I3.item (hS8 p) trivial fun a r => by
      obtain ⟨us, l, r⟩ := r; exact ⟨us, l, by rw [hq] at r; exact r⟩
    have okS : okSs w p m = true := by
      rcases hp with rfl | rfl | rfl
      · exact T.s3 w m wl wh hm
      · exact T.s7 m hm
      · exact T.s11 m hm
    refine execs_append (seg_ok S P1 h4 okS ao' st' V3 I3' fun ρ4 s4 rS V4 I4 => ?_)
    -- the pairs
    have tail : ∀ x y : V, Inv C s.heap L1 ρ4 (vsC w p) (hC p x y) s4.heap → Mj.okC w p x y = true →
        wpAny (model C.prog C.w) A' (execs (pyb (segC ++ segD)) env) (fun f s' => Q (match f with | .ret v => v | _ => .none) s') E' s4 := fun x y I4 okC => by
      refine execs_append (seg_ok S P3 h4 okC ao' st' V4 I4 fun ρ5 s5 rC V5 I5 => ?_)
      -- the last draw and the end
      obtain ⟨r, hr, hr5⟩ : ∃ r : Nat, r < p - 1 ∧ (m = 5 → (C.y 4).fmod (Int.ofNat (p - 1)) = Int.ofNat r) := by
        obtain ⟨r, h1, h2⟩ := fmod_nat (y := C.y 4) (m := p - 1) (by omega)
        exact ⟨r, h1, fun _ => h2⟩
      have I5' : Inv C s.heap L1 ρ5 vsD ((hMid 4 p).put 8 ⟨false, .list (qD m p r)⟩) s5.heap := I5.item (mid8 4 p) trivial fun a z => by
        obtain ⟨us, l, z⟩ := z; exact ⟨us, l, qD_ok hm hr5 (by rw [hq] at z; exact z)⟩
      have okD := T.d p m r hp hm hr
      unfold Mj.okD at okD
      split at okD
      · rename_i vs' h' hD
        refine sxs_ok S hD ao' st' V5 I5' fun ρ6 s6 f p6 r6 V6 I6 q6 => ?_
        obtain ⟨v, rfl, qv⟩ := q6
        cases qv
        refine K s6 (((((r1'.trans rA).trans rB).trans rS).trans rC).trans r6) fun b o e => ?_
        obtain ⟨_, F, _⟩ := I6.fr
        exact F.keep b o (keep b o e)
      · cases okD
    rcases hp with rfl | rfl | rfl
    · obtain ⟨a, _, ha⟩ := drX_ok (C := C) (ρ := ρ4) (m := m) (p := 3)
      obtain ⟨b, _, hb⟩ := drY_ok (C := C) (ρ := ρ4) (m := m) (p := 3)
      exact tail .unk .unk (hC_wk I4 (fun v r => unk_ok (ha v r)) fun v r => unk_ok (hb v r)) (T.c3 w wl wh)
    · obtain ⟨a, ha1, ha⟩ := drX_ok (C := C) (ρ := ρ4) (m := m) (p := 7)
      obtain ⟨b, hb1, hb⟩ := drY_ok (C := C) (ρ := ρ4) (m := m) (p := 7)
      exact tail _ _ (hC_wk I4 ha hb) (T.c7 a b ha1 hb1)
    · obtain ⟨a, ha1, ha⟩ := drX_ok (C := C) (ρ := ρ4) (m := m) (p := 11)
      obtain ⟨b, hb1, hb⟩ := drY_ok (C := C) (ρ := ρ4) (m := m) (p := 11)
      exact tail _ _ (hC_wk I4 ha hb) (T.c11 a b ha1 hb1)
  · cases okA
end Mj

namespace Mj
open PySem PySem.Calls PySem.W PyProof.Rows
/-- the objects that stand behind the top: the module's dict, NOUGHT, UNIT and their lists -/
noncomputable def KS : Params → Frag := fun P =>
  [(3, { cls := Value.type "dict", data := Data.dict #[{ hash := PyData.keyHash P (Str.ofString "__name__"), key := Value.str (Str.ofString "__name__") 165, val := Value.str (Str.ofString "law_xm0418_01") 632 }, { hash := PyData.keyHash P (Str.ofString "__doc__"), key := Value.str (Str.ofString "__doc__") 166, val := Value.none }, { hash := PyData.keyHash P (Str.ofString "__package__"), key := Value.str (Str.ofString "__package__") 167, val := Value.none }, { hash := PyData.keyHash P (Str.ofString "__loader__"), key := Value.str (Str.ofString "__loader__") 168, val := Value.builtin "__main__.__loader__#opaque" }, { hash := PyData.keyHash P (Str.ofString "__spec__"), key := Value.str (Str.ofString "__spec__") 169, val := Value.none }, { hash := PyData.keyHash P (Str.ofString "__annotations__"), key := Value.str (Str.ofString "__annotations__") 170, val := Value.ref 6 }, { hash := PyData.keyHash P (Str.ofString "__builtins__"), key := Value.str (Str.ofString "__builtins__") 171, val := Value.ref 4 }, { hash := PyData.keyHash P (Str.ofString "__file__"), key := Value.str (Str.ofString "__file__") 173, val := Value.str (Str.ofString "/claim/cut.py") 172 }, { hash := PyData.keyHash P (Str.ofString "__cached__"), key := Value.str (Str.ofString "__cached__") 174, val := Value.none }, { hash := PyData.keyHash P (Str.ofString "GmpError"), key := Value.str (Str.ofString "GmpError") 208, val := Value.ref 24 }, { hash := PyData.keyHash P (Str.ofString "DivisionByZero"), key := Value.str (Str.ofString "DivisionByZero") 224, val := Value.ref 37 }, { hash := PyData.keyHash P (Str.ofString "OutOfRange"), key := Value.str (Str.ofString "OutOfRange") 240, val := Value.ref 49 }, { hash := PyData.keyHash P (Str.ofString "normal"), key := Value.str (Str.ofString "normal") 248, val := Value.ref 58 }, { hash := PyData.keyHash P (Str.ofString "is_even"), key := Value.str (Str.ofString "is_even") 255, val := Value.ref 65 }, { hash := PyData.keyHash P (Str.ofString "compare"), key := Value.str (Str.ofString "compare") 264, val := Value.ref 72 }, { hash := PyData.keyHash P (Str.ofString "add"), key := Value.str (Str.ofString "add") 277, val := Value.ref 79 }, { hash := PyData.keyHash P (Str.ofString "sub"), key := Value.str (Str.ofString "sub") 291, val := Value.ref 86 }, { hash := PyData.keyHash P (Str.ofString "divrem_limb"), key := Value.str (Str.ofString "divrem_limb") 303, val := Value.ref 93 }, { hash := PyData.keyHash P (Str.ofString "shift_left"), key := Value.str (Str.ofString "shift_left") 318, val := Value.ref 100 }, { hash := PyData.keyHash P (Str.ofString "shift_right"), key := Value.str (Str.ofString "shift_right") 333, val := Value.ref 107 }, { hash := PyData.keyHash P (Str.ofString "bits"), key := Value.str (Str.ofString "bits") 341, val := Value.ref 114 }, { hash := PyData.keyHash P (Str.ofString "bit"), key := Value.str (Str.ofString "bit") 350, val := Value.ref 121 }, { hash := PyData.keyHash P (Str.ofString "trailing"), key := Value.str (Str.ofString "trailing") 360, val := Value.ref 128 }, { hash := PyData.keyHash P (Str.ofString "last_bits"), key := Value.str (Str.ofString "last_bits") 368, val := Value.ref 133 }, { hash := PyData.keyHash P (Str.ofString "two_sign"), key := Value.str (Str.ofString "two_sign") 377, val := Value.ref 140 }, { hash := PyData.keyHash P (Str.ofString "jacobi"), key := Value.str (Str.ofString "jacobi") 389, val := Value.ref 147 }, { hash := PyData.keyHash P (Str.ofString "signed"), key := Value.str (Str.ofString "signed") 399, val := Value.ref 154 }, { hash := PyData.keyHash P (Str.ofString "s_neg"), key := Value.str (Str.ofString "s_neg") 406, val := Value.ref 161 }, { hash := PyData.keyHash P (Str.ofString "s_sign"), key := Value.str (Str.ofString "s_sign") 413, val := Value.ref 168 }, { hash := PyData.keyHash P (Str.ofString "s_add"), key := Value.str (Str.ofString "s_add") 422, val := Value.ref 175 }, { hash := PyData.keyHash P (Str.ofString "s_sub"), key := Value.str (Str.ofString "s_sub") 431, val := Value.ref 182 }, { hash := PyData.keyHash P (Str.ofString "s_mul"), key := Value.str (Str.ofString "s_mul") 441, val := Value.ref 189 }, { hash := PyData.keyHash P (Str.ofString "tdiv"), key := Value.str (Str.ofString "tdiv") 453, val := Value.ref 196 }, { hash := PyData.keyHash P (Str.ofString "NOUGHT"), key := Value.str (Str.ofString "NOUGHT") 456, val := Value.ref 198 }, { hash := PyData.keyHash P (Str.ofString "UNIT"), key := Value.str (Str.ofString "UNIT") 458, val := Value.ref 200 }, { hash := PyData.keyHash P (Str.ofString "inner"), key := Value.str (Str.ofString "inner") 471, val := Value.ref 207 }, { hash := PyData.keyHash P (Str.ofString "exact"), key := Value.str (Str.ofString "exact") 483, val := Value.ref 214 }, { hash := PyData.keyHash P (Str.ofString "pivot_row"), key := Value.str (Str.ofString "pivot_row") 493, val := Value.ref 221 }, { hash := PyData.keyHash P (Str.ofString "cleared"), key := Value.str (Str.ofString "cleared") 512, val := Value.ref 228 }, { hash := PyData.keyHash P (Str.ofString "steps_down"), key := Value.str (Str.ofString "steps_down") 518, val := Value.ref 233 }, { hash := PyData.keyHash P (Str.ofString "det_bareiss"), key := Value.str (Str.ofString "det_bareiss") 532, val := Value.ref 240 }, { hash := PyData.keyHash P (Str.ofString "mul_school"), key := Value.str (Str.ofString "mul_school") 550, val := Value.ref 247 }, { hash := PyData.keyHash P (Str.ofString "divrem_small"), key := Value.str (Str.ofString "divrem_small") 561, val := Value.ref 254 }, { hash := PyData.keyHash P (Str.ofString "guessed_limb"), key := Value.str (Str.ofString "guessed_limb") 575, val := Value.ref 261 }, { hash := PyData.keyHash P (Str.ofString "take_away"), key := Value.str (Str.ofString "take_away") 591, val := Value.ref 268 }, { hash := PyData.keyHash P (Str.ofString "put_back"), key := Value.str (Str.ofString "put_back") 605, val := Value.ref 275 }, { hash := PyData.keyHash P (Str.ofString "divide_rows"), key := Value.str (Str.ofString "divide_rows") 618, val := Value.ref 282 }, { hash := PyData.keyHash P (Str.ofString "divrem_school"), key := Value.str (Str.ofString "divrem_school") 631, val := Value.ref 289 }, { hash := PyData.keyHash P (Str.ofString "_law_woven"), key := Value.str (Str.ofString "_law_woven") 641, val := Value.ref 296 }, { hash := PyData.keyHash P (Str.ofString "_law_limbs"), key := Value.str (Str.ofString "_law_limbs") 650, val := Value.ref 303 }, { hash := PyData.keyHash P (Str.ofString "_law_rows"), key := Value.str (Str.ofString "_law_rows") 656, val := Value.ref 308 }, { hash := PyData.keyHash P (Str.ofString "law"), key := Value.str (Str.ofString "law") 662, val := Value.ref 313 }] 52 }),
   (197, { cls := Value.type "list", data := Data.seq #[] }),
   (198, { cls := Value.type "tuple", data := Data.seq #[Value.bool false, Value.ref 197] }),
   (199, { cls := Value.type "list", data := Data.seq #[Value.int 1 457] }),
   (200, { cls := Value.type "tuple", data := Data.seq #[Value.bool false, Value.ref 199] })]
noncomputable def vw : Program := { PySem.Challenge.pw_xm0418_01 with main := { PySem.Challenge.pw_xm0418_01.main with body := PySem.Challenge.pw_xm0418_01.main.body.filter fun s => match s with | .FunctionDef .. => true | .ClassDef .. => true | _ => false } }
theorem KS_keys (P : Params) : ([3, 197, 198, 199, 200] : List Addr) = (KS P).map (·.1) := by kernel_rfl
noncomputable abbrev HK : Hook := kHook KS [3, 197, 198, 199, 200] KS_keys
noncomputable abbrev rr : OpenRow := PySem.Challenge.rw_xm0418_01.row
theorem lawSaid : PySem.Challenge.rw_xm0418_01.wellSaid = true := by
  rw [PySem.W.Fast.te9446332074065402090]
  kernel_rfl
theorem left : LeftO rr.prog vw [Str.ofString "NOUGHT", Str.ofString "UNIT"] (fun s => xlAt vw [] s && recOk (RowW.records (OpenRow.toRowW rr)) s) (Hook.obs HK) (Hook.val HK) 4002 := by
  intro w
  unfold openEnds topFrom
  rw [PySem.W.Fast.te14082659384304107361, PySem.W.Fast.te4187177175401517315]
  kernel_rfl
noncomputable def faL : List Nat := [58, 65, 72, 79, 86, 93, 100, 107, 114, 121, 128, 133, 140, 147, 154, 161, 168, 175, 182, 189, 196, 207, 214, 221, 228, 233, 240, 247, 254, 261, 268, 275, 282, 289, 296, 303, 308, 313]
noncomputable def faOf (k : Nat) : Nat := match nth faL k with
  | some a => a
  | none => 0
noncomputable def pyParams (ps : List (Nat × Pos)) : Arguments := ⟨[], ps.map fun p => ⟨nm p.1, none, p.2⟩, none, [], [], none, []⟩
noncomputable def FactsR (d : DefRec) : Str × Arguments × List (Str × NameKind) × ScopeKind × Bool × Bool × List Stmt := (d.name, d.params, d.scope.names, d.scope.kind, d.scope.isGenerator, d.scope.isCoroutine, d.body)
noncomputable def DueR (x : Nat × Fn) : Str × Arguments × List (Str × NameKind) × ScopeKind × Bool × Bool × List Stmt := (nm x.1, pyParams x.2.ps, pyNames x.2.sc, .function, false, false, pyb x.2.body)
theorem recs1 : ((recsOf vw).map FactsR).take 31 = (fnTab.take 31).map DueR := by kernel_rfl
theorem recs2 : ((recsOf vw).map FactsR).drop 32 = (fnTab.drop 31).map DueR := by kernel_rfl
theorem lk_mem {α : Type} : ∀ {l : List (Nat × α)} {k : Nat} {a : α}, lk k l = some a → (k, a) ∈ l
  | [], _, _, e => by cases e
  | x :: r, k, a, e => by
    rw [lk_cons] at e
    split at e
    · rename_i h; cases e; subst h; exact .head _
    · exact .tail _ (lk_mem e)
theorem rec_of {k : Nat} {f : Fn} (e : lk k fnTab = some f) : ∃ d ∈ recsOf vw, FactsR d = DueR (k, f) := by
  have h := lk_mem e
  rw [← List.take_append_drop 31 fnTab] at h
  rcases List.mem_append.mp h with h | h
  · have := List.mem_map_of_mem (f := DueR) h
    rw [← recs1] at this
    exact List.mem_map.mp (List.mem_of_mem_take this)
  · have := List.mem_map_of_mem (f := DueR) h
    rw [← recs2] at this
    exact List.mem_map.mp (List.mem_of_mem_drop this)
noncomputable def distS : List Str → Bool
  | [] => true
  | k :: r => r.all (fun j => !(k == j)) && distS r
theorem distS_nodup : ∀ {l : List Str}, distS l = true → l.Nodup
  | [], _ => List.nodup_nil
  | k :: r, h => by
    have h : (r.all (fun j => !(k == j)) && distS r) = true := h
    rw [Bool.and_eq_true] at h
    refine List.nodup_cons.mpr ⟨fun hm => ?_, distS_nodup h.2⟩
    have := List.all_eq_true.mp h.1 k hm
    simp at this
/-- the names' kinds are as the function's list says -/
noncomputable def kindsOK (f : Fn) : Bool := (f.sc.all fun x => (pyNames f.sc).lookup (nm x.1) == some x.2.py) && ((f.ps.all fun p => (pyNames f.sc).lookup (nm p.1) == some .local || (pyNames f.sc).lookup (nm p.1) == some .cell) && distS ((cellsFrom 0 (pyNames f.sc) []).map (·.1)))
theorem kinds_ok : (fnTab.all fun x => kindsOK x.2) = true := by kernel_rfl
noncomputable def bindsOK (n : Str) (f : Fn) : Prop := ∀ (body : List Stmt) (scope : Scope) (pm cd doc : Value) (ws : List Value), ws.length = f.ps.length → bindArgs (docDef n (pyParams f.ps) body scope pm cd doc) ⟨ws, []⟩ = pure ((f.ps.map fun p => nm p.1).zip ws)
theorem len1 {ws : List Value} (h : ws.length = 1) : ∃ x0, ws = [x0] := by
  obtain _ | ⟨x0, r0⟩ := ws
  · cases h
  obtain _ | ⟨y, z⟩ := r0
  · exact ⟨x0, rfl⟩
  · cases h
theorem len2 {ws : List Value} (h : ws.length = 2) : ∃ x0 x1, ws = [x0, x1] := by
  obtain _ | ⟨x0, r0⟩ := ws
  · cases h
  obtain _ | ⟨x1, r1⟩ := r0
  · cases h
  obtain _ | ⟨y, z⟩ := r1
  · exact ⟨x0, x1, rfl⟩
  · cases h
theorem len3 {ws : List Value} (h : ws.length = 3) : ∃ x0 x1 x2, ws = [x0, x1, x2] := by
  obtain _ | ⟨x0, r0⟩ := ws
  · cases h
  obtain _ | ⟨x1, r1⟩ := r0
  · cases h
  obtain _ | ⟨x2, r2⟩ := r1
  · cases h
  obtain _ | ⟨y, z⟩ := r2
  · exact ⟨x0, x1, x2, rfl⟩
  · cases h
theorem len4 {ws : List Value} (h : ws.length = 4) : ∃ x0 x1 x2 x3, ws = [x0, x1, x2, x3] := by
  obtain _ | ⟨x0, r0⟩ := ws
  · cases h
  obtain _ | ⟨x1, r1⟩ := r0
  · cases h
  obtain _ | ⟨x2, r2⟩ := r1
  · cases h
  obtain _ | ⟨x3, r3⟩ := r2
  · cases h
  obtain _ | ⟨y, z⟩ := r3
  · exact ⟨x0, x1, x2, x3, rfl⟩
  · cases h
theorem len5 {ws : List Value} (h : ws.length = 5) : ∃ x0 x1 x2 x3 x4, ws = [x0, x1, x2, x3, x4] := by
  obtain _ | ⟨x0, r0⟩ := ws
  · cases h
  obtain _ | ⟨x1, r1⟩ := r0
  · cases h
  obtain _ | ⟨x2, r2⟩ := r1
  · cases h
  obtain _ | ⟨x3, r3⟩ := r2
  · cases h
  obtain _ | ⟨x4, r4⟩ := r3
  · cases h
  obtain _ | ⟨y, z⟩ := r4
  · exact ⟨x0, x1, x2, x3, x4, rfl⟩
  · cases h
theorem len7 {ws : List Value} (h : ws.length = 7) : ∃ x0 x1 x2 x3 x4 x5 x6, ws = [x0, x1, x2, x3, x4, x5, x6] := by
  obtain _ | ⟨x0, r0⟩ := ws
  · cases h
  obtain _ | ⟨x1, r1⟩ := r0
  · cases h
  obtain _ | ⟨x2, r2⟩ := r1
  · cases h
  obtain _ | ⟨x3, r3⟩ := r2
  · cases h
  obtain _ | ⟨x4, r4⟩ := r3
  · cases h
  obtain _ | ⟨x5, r5⟩ := r4
  · cases h
  obtain _ | ⟨x6, r6⟩ := r5
  · cases h
  obtain _ | ⟨y, z⟩ := r6
  · exact ⟨x0, x1, x2, x3, x4, x5, x6, rfl⟩
  · cases h
theorem binds0 : bindsOK (nm 0) f_normal := fun body scope pm cd doc ws h => by
  obtain ⟨x0, rfl⟩ := len1 (show ws.length = 1 from h)
  kernel_rfl
theorem binds1 : bindsOK (nm 1) f_is_even := fun body scope pm cd doc ws h => by
  obtain ⟨x0, rfl⟩ := len1 (show ws.length = 1 from h)
  kernel_rfl
theorem binds2 : bindsOK (nm 2) f_compare := fun body scope pm cd doc ws h => by
  obtain ⟨x0, x1, rfl⟩ := len2 (show ws.length = 2 from h)
  kernel_rfl
theorem binds3 : bindsOK (nm 3) f_add := fun body scope pm cd doc ws h => by
  obtain ⟨x0, x1, x2, rfl⟩ := len3 (show ws.length = 3 from h)
  kernel_rfl
theorem binds4 : bindsOK (nm 4) f_sub := fun body scope pm cd doc ws h => by
  obtain ⟨x0, x1, x2, rfl⟩ := len3 (show ws.length = 3 from h)
  kernel_rfl
theorem binds5 : bindsOK (nm 5) f_divrem_limb := fun body scope pm cd doc ws h => by
  obtain ⟨x0, x1, x2, rfl⟩ := len3 (show ws.length = 3 from h)
  kernel_rfl
theorem binds6 : bindsOK (nm 6) f_shift_left := fun body scope pm cd doc ws h => by
  obtain ⟨x0, x1, x2, rfl⟩ := len3 (show ws.length = 3 from h)
  kernel_rfl
theorem binds7 : bindsOK (nm 7) f_shift_right := fun body scope pm cd doc ws h => by
  obtain ⟨x0, x1, x2, rfl⟩ := len3 (show ws.length = 3 from h)
  kernel_rfl
theorem binds8 : bindsOK (nm 8) f_bits := fun body scope pm cd doc ws h => by
  obtain ⟨x0, x1, rfl⟩ := len2 (show ws.length = 2 from h)
  kernel_rfl
theorem binds9 : bindsOK (nm 9) f_bit := fun body scope pm cd doc ws h => by
  obtain ⟨x0, x1, x2, rfl⟩ := len3 (show ws.length = 3 from h)
  kernel_rfl
theorem binds10 : bindsOK (nm 10) f_trailing := fun body scope pm cd doc ws h => by
  obtain ⟨x0, x1, rfl⟩ := len2 (show ws.length = 2 from h)
  kernel_rfl
theorem binds11 : bindsOK (nm 11) f_last_bits := fun body scope pm cd doc ws h => by
  obtain ⟨x0, x1, x2, rfl⟩ := len3 (show ws.length = 3 from h)
  kernel_rfl
theorem binds12 : bindsOK (nm 12) f_two_sign := fun body scope pm cd doc ws h => by
  obtain ⟨x0, x1, x2, rfl⟩ := len3 (show ws.length = 3 from h)
  kernel_rfl
theorem binds13 : bindsOK (nm 13) f_jacobi := fun body scope pm cd doc ws h => by
  obtain ⟨x0, x1, x2, x3, rfl⟩ := len4 (show ws.length = 4 from h)
  kernel_rfl
theorem binds14 : bindsOK (nm 14) f_signed := fun body scope pm cd doc ws h => by
  obtain ⟨x0, x1, rfl⟩ := len2 (show ws.length = 2 from h)
  kernel_rfl
theorem binds15 : bindsOK (nm 15) f_s_neg := fun body scope pm cd doc ws h => by
  obtain ⟨x0, rfl⟩ := len1 (show ws.length = 1 from h)
  kernel_rfl
theorem binds16 : bindsOK (nm 16) f_s_sign := fun body scope pm cd doc ws h => by
  obtain ⟨x0, rfl⟩ := len1 (show ws.length = 1 from h)
  kernel_rfl
theorem binds17 : bindsOK (nm 17) f_s_add := fun body scope pm cd doc ws h => by
  obtain ⟨x0, x1, x2, rfl⟩ := len3 (show ws.length = 3 from h)
  kernel_rfl
theorem binds18 : bindsOK (nm 18) f_s_sub := fun body scope pm cd doc ws h => by
  obtain ⟨x0, x1, x2, rfl⟩ := len3 (show ws.length = 3 from h)
  kernel_rfl
theorem binds19 : bindsOK (nm 19) f_s_mul := fun body scope pm cd doc ws h => by
  obtain ⟨x0, x1, x2, x3, rfl⟩ := len4 (show ws.length = 4 from h)
  kernel_rfl
theorem binds20 : bindsOK (nm 20) f_tdiv := fun body scope pm cd doc ws h => by
  obtain ⟨x0, x1, x2, x3, rfl⟩ := len4 (show ws.length = 4 from h)
  kernel_rfl
theorem binds21 : bindsOK (nm 21) f_inner := fun body scope pm cd doc ws h => by
  obtain ⟨x0, x1, x2, x3, rfl⟩ := len4 (show ws.length = 4 from h)
  kernel_rfl
theorem binds22 : bindsOK (nm 22) f_exact := fun body scope pm cd doc ws h => by
  obtain ⟨x0, x1, x2, x3, rfl⟩ := len4 (show ws.length = 4 from h)
  kernel_rfl
theorem binds23 : bindsOK (nm 23) f_pivot_row := fun body scope pm cd doc ws h => by
  obtain ⟨x0, x1, x2, rfl⟩ := len3 (show ws.length = 3 from h)
  kernel_rfl
theorem binds24 : bindsOK (nm 24) f_cleared := fun body scope pm cd doc ws h => by
  obtain ⟨x0, x1, x2, x3, x4, x5, x6, rfl⟩ := len7 (show ws.length = 7 from h)
  kernel_rfl
theorem binds25 : bindsOK (nm 25) f_steps_down := fun body scope pm cd doc ws h => by
  obtain ⟨x0, x1, x2, x3, x4, rfl⟩ := len5 (show ws.length = 5 from h)
  kernel_rfl
theorem binds26 : bindsOK (nm 26) f_det_bareiss := fun body scope pm cd doc ws h => by
  obtain ⟨x0, x1, x2, x3, rfl⟩ := len4 (show ws.length = 4 from h)
  kernel_rfl
theorem binds27 : bindsOK (nm 27) f_mul_school := fun body scope pm cd doc ws h => by
  obtain ⟨x0, x1, x2, rfl⟩ := len3 (show ws.length = 3 from h)
  kernel_rfl
theorem binds28 : bindsOK (nm 28) f_divrem_small := fun body scope pm cd doc ws h => by
  obtain ⟨x0, x1, x2, rfl⟩ := len3 (show ws.length = 3 from h)
  kernel_rfl
theorem binds29 : bindsOK (nm 29) f_guessed_limb := fun body scope pm cd doc ws h => by
  obtain ⟨x0, x1, x2, x3, rfl⟩ := len4 (show ws.length = 4 from h)
  kernel_rfl
theorem binds30 : bindsOK (nm 30) f_take_away := fun body scope pm cd doc ws h => by
  obtain ⟨x0, x1, x2, x3, x4, rfl⟩ := len5 (show ws.length = 5 from h)
  kernel_rfl
theorem binds32 : bindsOK (nm 32) f_divide_rows := fun body scope pm cd doc ws h => by
  obtain ⟨x0, x1, x2, rfl⟩ := len3 (show ws.length = 3 from h)
  kernel_rfl
theorem binds33 : bindsOK (nm 33) f_divrem_school := fun body scope pm cd doc ws h => by
  obtain ⟨x0, x1, x2, rfl⟩ := len3 (show ws.length = 3 from h)
  kernel_rfl
theorem binds34 : bindsOK (nm 34) f_law_woven := fun body scope pm cd doc ws h => by
  obtain ⟨x0, x1, rfl⟩ := len2 (show ws.length = 2 from h)
  kernel_rfl
theorem binds35 : bindsOK (nm 35) f_law_limbs := fun body scope pm cd doc ws h => by
  obtain ⟨x0, x1, rfl⟩ := len2 (show ws.length = 2 from h)
  kernel_rfl
theorem binds36 : bindsOK (nm 36) f_law_rows := fun body scope pm cd doc ws h => by
  obtain ⟨x0, x1, rfl⟩ := len2 (show ws.length = 2 from h)
  kernel_rfl
theorem binds37 : bindsOK (nm 37) f_law := fun body scope pm cd doc ws h => by
  obtain ⟨x0, rfl⟩ := len1 (show ws.length = 1 from h)
  kernel_rfl
noncomputable def AllB : List (Nat × Fn) → Prop
  | [] => True
  | x :: r => bindsOK (nm x.1) x.2 ∧ AllB r
theorem AllB.mem : ∀ {l : List (Nat × Fn)} {x : Nat × Fn}, AllB l → x ∈ l → bindsOK (nm x.1) x.2
  | _ :: _, _, h, .head _ => h.1
  | _ :: _, _, h, .tail _ m => AllB.mem h.2 m
theorem binds_ok : AllB fnTab := ⟨binds0, binds1, binds2, binds3, binds4, binds5, binds6, binds7, binds8, binds9, binds10, binds11, binds12, binds13, binds14, binds15, binds16, binds17, binds18, binds19, binds20, binds21, binds22, binds23, binds24, binds25, binds26, binds27, binds28, binds29, binds30, binds32, binds33, binds34, binds35, binds36, binds37, trivial⟩
theorem globs (P : Params) : ((List.range 38).all fun k => nsIn (KS P) mainGlobals (nm k) == some (some (.ref (faOf k)))) = true := by kernel_rfl
theorem glob38 (P : Params) : nsIn (KS P) mainGlobals (nm 38) = some (some (.ref 198)) := by kernel_rfl
theorem glob39 (P : Params) : nsIn (KS P) mainGlobals (nm 39) = some (some (.ref 200)) := by kernel_rfl
theorem globB (P : Params) : ((List.range 7).all fun b => nsIn (KS P) mainGlobals (bname b) == some none) = true := by kernel_rfl
theorem bootB : ((List.range 7).all fun b => bootBuiltins (bname b) == some (bval b)) = true := by kernel_rfl
theorem bname_ne : ((List.range 7).all fun b => !(bname b == ("__name__" : Str))) = true := by decide +kernel
noncomputable def rho0 : List Addr := [198, 197, 200, 199]
noncomputable def ctx (prog : Program) (w : World) (h : Heap) (mg mb : Str → Option Value) (y : Nat → Int) (q : List V) (wd : Nat) (hwd : 3 ≤ wd ∧ wd ≤ 8) : Ctx := ⟨prog, w, h, faOf, rho0, mg, mb, y, q, wd, hwd⟩
theorem glob_fn {P : Params} {h : Heap} {mg : Str → Option Value} (X : (KS P).In h) (g : h.Ns mainGlobals mg) {k : Nat} (hk : k < 38) : mg (nm k) = some (.ref (faOf k)) := mg_of X g (eq_of_beq (List.all_eq_true.mp (globs P) k (List.mem_range.mpr hk)))
theorem lt38 {k : Nat} {f : Fn} (e : lk k fnTab = some f) : k < 38 := by
  have : (fnTab.all fun x => Nat.blt x.1 38) = true := by decide +kernel
  have := List.all_eq_true.mp this _ (lk_mem e)
  exact Nat.le_of_ble_eq_true this
theorem top_ok {P : Params} {prog : Program} {w : World} {loose : List Str} {mean : ExcName → Option Value} {h : Heap} {mg mb : Str → Option Value} {y : Nat → Int} {q : List V} {wd : Nat} {hwd : 3 ≤ wd ∧ wd ≤ 8} (X : (KS P).In h) (T : Top vw loose mean mg mb h) :
    Base (ctx prog w h mg mb y q wd hwd) fnTab where
  ns := T.g
  bn := T.b
  fn := fun k hk => glob_fn X T.g hk
  nought := ⟨198, rfl, mg_of X T.g (glob38 P)⟩
  unit := ⟨200, rfl, mg_of X T.g (glob39 P)⟩
  bmg := fun b hb => mg_none_of X T.g (eq_of_beq (List.all_eq_true.mp (globB P) b (List.mem_range.mpr hb)))
  bmb := fun b hb => by
    have h1 := List.all_eq_true.mp bname_ne b (List.mem_range.mpr hb)
    have h2 := List.all_eq_true.mp bootB b (List.mem_range.mpr hb)
    exact (T.builtins _ (fun e => by rw [e] at h1; simp at h1)).trans (eq_of_beq h2)
  lim := T.nolimit
  fns := fun k f e => by
    obtain ⟨d, hd, hf⟩ := rec_of e
    obtain ⟨a, o, pm, cd, doc, h1, h2, h3, h4⟩ := T.fn d hd
    unfold FactsR DueR at hf
    simp only [Prod.mk.injEq] at hf
    obtain ⟨e1, e2, e4, e5, e6, e7, e3⟩ := hf
    rw [e1, glob_fn X T.g (lt38 e)] at h1
    have ha : faOf k = a := by cases h1; rfl
    have hk := List.all_eq_true.mp kinds_ok _ (lk_mem e)
    unfold kindsOK at hk
    simp only [Bool.and_eq_true] at hk
    obtain ⟨k1, k2, k3⟩ := hk
    have hb := AllB.mem binds_ok (lk_mem e)
    rw [e1, e2, e3] at h3
    refine ⟨⟨o, _, (by show h.get? (faOf k) = _; rw [ha]; exact h2), h3, rfl, e4, e5, e6, e7, rfl, rfl, rfl, (by rw [e1] at h4; exact h4), fun ws hw => hb _ _ _ _ _ ws hw⟩, fun x hx => eq_of_beq (List.all_eq_true.mp k1 x hx), distS_nodup k3, fun p hp => ?_⟩
    have := List.all_eq_true.mp k2 p hp
    rw [Bool.or_eq_true] at this
    exact this.imp eq_of_beq eq_of_beq
end Mj

namespace Mj
open PySem PySem.Calls PySem.W PyProof.Rows
noncomputable def absI (x : Int) : Int := if x < 0 then -x else x
theorem script_case {H : Heap} {l : Addr} {ws : List Value} {xs : List Int} (hL : H.IsList l ws.toArray) (hI : IntsAre ws xs) (hlen : xs.length ≤ 63) :
    ∃ (m r1 r2 : Nat) (y : Nat → Int), m ≤ 5 ∧ r1 < 6 ∧ r2 < 3 ∧ ∀ (C : Ctx) (ρ : List Addr), C.y = y → OR C ρ H l (scrO m r1 r2) := by
  obtain ⟨r1, h1, e1⟩ := fmod_nat (y := absI (xs.getD 0 0)) (m := 6) (by decide)
  obtain ⟨r2, h2, e2⟩ := fmod_nat (y := absI (xs.getD 1 0)) (m := 3) (by decide)
  have hlw := hI.length
  have sc : ∀ {C : Ctx} {ρ : List Addr} {i : Nat} {x : Int} (t : Tok), C.y i = absI x → VR C ρ (.sc i) (.int x t) := fun {C ρ i x} t h => ⟨x, t, rfl, h.symm⟩
  have s6 : ∀ {C : Ctx} {ρ : List Addr} {x : Int} (t : Tok), (absI x).fmod (Int.ofNat 6) = Int.ofNat r1 → VR C ρ (.sres 6 (Int.ofNat r1)) (.int x t) := fun {C ρ x} t h => ⟨x, t, rfl, h⟩
  have s3 : ∀ {C : Ctx} {ρ : List Addr} {x : Int} (t : Tok), (absI x).fmod (Int.ofNat 3) = Int.ofNat r2 → VR C ρ (.sres 3 (Int.ofNat r2)) (.int x t) := fun {C ρ x} t h => ⟨x, t, rfl, h⟩
  have main : ∃ m, m ≤ 5 ∧ ∀ (C : Ctx) (ρ : List Addr), C.y = (fun i => absI (xs.getD i 0)) → OR C ρ H l (scrO m r1 r2) := by
    cases hI with
    | nil => exact ⟨0, by decide, fun C ρ hy => ⟨_, hL, trivial⟩⟩
    | cons a t hI => cases hI with
      | nil => exact ⟨1, by decide, fun C ρ hy => ⟨_, hL, s6 t e1, trivial⟩⟩
      | cons b u hI => cases hI with
        | nil => exact ⟨2, by decide, fun C ρ hy => ⟨_, hL, s6 t e1, s3 u e2, trivial⟩⟩
        | cons c v hI => cases hI with
          | nil => exact ⟨3, by decide, fun C ρ hy => ⟨_, hL, s6 t e1, s3 u e2, sc v (by rw [hy]; rfl), trivial⟩⟩
          | cons d x hI => cases hI with
            | nil => exact ⟨4, by decide, fun C ρ hy => ⟨_, hL, s6 t e1, s3 u e2, sc v (by rw [hy]; rfl), sc x (by rw [hy]; rfl), trivial⟩⟩
            | cons e z hI =>
              refine ⟨5, by decide, fun C ρ hy => ⟨_, hL, ?_, ?_, s6 t e1, s3 u e2, sc v (by rw [hy]; rfl), sc x (by rw [hy]; rfl), sc z (by rw [hy]; rfl), trivial⟩⟩
              · show 5 ≤ _; simp
              · rw [hlw]; omega
  obtain ⟨m, hm, h⟩ := main
  exact ⟨m, r1, r2, _, hm, h1, h2, fun C ρ hy => h C ρ hy⟩
theorem base_tup {P : Params} {h : Heap} (X : (KS P).In h) : IsTup h 198 #[.bool false, .ref 197] ∧ PlainL h 197 #[] ∧ IsTup h 200 #[.bool false, .ref 199] ∧ ∃ t, PlainL h 199 #[.int 1 t] := by
  have e1 : (KS P).lookup 198 = some { cls := .type "tuple", data := .seq #[.bool false, .ref 197] } := by kernel_rfl
  have e2 : (KS P).lookup 197 = some { cls := .type "list", data := .seq #[] } := by kernel_rfl
  have e3 : (KS P).lookup 200 = some { cls := .type "tuple", data := .seq #[.bool false, .ref 199] } := by kernel_rfl
  have e4 : (KS P).lookup 199 = some { cls := .type "list", data := .seq #[.int 1 457] } := by kernel_rfl
  exact ⟨⟨_, X _ _ e1, rfl, _, rfl⟩, ⟨_, _, X _ _ e2, rfl, rfl, rfl⟩, ⟨_, X _ _ e3, rfl, _, rfl⟩, ⟨457, _, _, X _ _ e4, rfl, rfl, rfl⟩⟩
theorem law_good (TB : Tabs) {prog : Program} {w : World} {s₁ : Shared} {mg mb : Str → Option Value} {l : Addr} {ws : List Value} {xs : List Int} {E : Value → Shared → Prop} {Q : Value → Shared → Prop} {loose : List Str} {mean : ExcName → Option Value} (X : (KS w.params).In s₁.heap) (TT : Top vw loose mean mg mb s₁.heap) (hL : s₁.heap.IsList l ws.toArray) (hI : IntsAre ws xs) (hlen : xs.length ≤ 63)
    (K : ∀ s', Rest s₁ s' → (∀ b o, s₁.heap.get? b = some o → s'.heap.get? b = some o) → Q (.bool true) s') : wpAny (model prog w) callerA (call (.ref 313) [.ref l]) Q E s₁ := by
  obtain ⟨m, r1, r2, y, hm, hr1, hr2, hO⟩ := script_case hL hI hlen
  obtain ⟨t1, l1, t2, t, l2⟩ := base_tup X
  let C : Ctx := ctx prog w s₁.heap mg mb y (qOf m) (w0 m r1) (w0_ok hr1)
  have hB : Base C fnTab := top_ok X TT
  refine law_run (C := C) (ρ := rho0 ++ [l]) TB hB rfl hm hr1 hr2 rfl rfl ?_ (fun b o e => e) ⟨[l], rfl⟩ rfl (fun i c e => ?_) ⟨⟨l, rfl, rfl⟩, trivial⟩ K
  · exact ⟨rfl, by decide, by decide⟩
  · unfold hEnt at e
    rw [get_fix] at e
    split at e
    · rename_i hi
      subst hi
      cases e
      exact ⟨l, rfl, hO C _ rfl⟩
    · unfold h4 at e
      rw [get_fix] at e
      split at e
      · rename_i hi; subst hi; cases e
        exact ⟨199, rfl, [.int 1 t], l2, ⟨t, rfl⟩, trivial⟩
      · rw [get_fix] at e
        split at e
        · rename_i hi; subst hi; cases e
          exact ⟨200, rfl, [.bool false, .ref 199], t2, rfl, ⟨199, rfl, rfl⟩, trivial⟩
        · rw [get_fix] at e
          split at e
          · rename_i hi; subst hi; cases e
            exact ⟨197, rfl, [], l1, trivial⟩
          · rw [get_fix] at e
            split at e
            · rename_i hi; subst hi; cases e
              exact ⟨198, rfl, [.bool false, .ref 197], t1, rfl, ⟨197, rfl, rfl⟩, trivial⟩
            · cases e
end Mj

open PySem PySem.W PyProof.Rows
set_option maxHeartbeats 8000000 in
theorem PySem.Challenge.cw_xm0418_01_holds : PySem.Challenge.rw_xm0418_01.Holds := by
  refine holds_law Mj.lawSaid fun said => ?_
  refine PySem.W.holds_open (q := Mj.vw) (loose := [Str.ofString "NOUGHT", Str.ofString "UNIT"]) (Xt := fun s => xlAt Mj.vw [] s && recOk (RowW.records (OpenRow.toRowW Mj.rr)) s) (XP := XL Mj.vw []) (Yf := Hook.obs Mj.HK) (Ya := Hook.val Mj.HK) (YP := Hook.says Mj.HK) (N := 4002) Mj.left (Hook.of Mj.HK) (Hook.keeps Mj.HK) (fun s e => xl_of s (Bool.and_eq_true_iff.mp e).1) XL.keeps (d := ?d) (kwd := ?kwd) ?a ?b ?c (fun s e => recFacts_of (Bool.and_eq_true_iff.mp e).2) (by rfl) said ?e ?f ?g ?hc
  case a => rfl
  case b => rfl
  case c => rfl
  case e => kernel_rfl
  case f => exact ⟨rfl, rfl, rfl, rfl, rfl, by decide +kernel⟩
  case g => w_witness2
  intro w s₀ s₁ mg mb G Y fa o pm cd doc dV kV ho hd hcd hD hmg hg args vals as hpre hlay hrd hwl hlo
  have KX := kIn_of Y
  clear hd hcd hD
  refine Ground.open G ?_
  intro T B D TE TW
  refine guard_noD D (by decide +kernel) ?_
  wrow_args hpre hlay hrd hwl hlo
  have hfa : fa = 313 := by
    have e : nsIn (Mj.KS w.params) mainGlobals (Str.ofString "law") = some (some (.ref 313)) := by kernel_rfl
    have hm : mg (Str.ofString "law") = some (.ref fa) := hmg
    rw [mg_of KX T.g e] at hm
    exact (Value.ref.inj (Option.some.inj hm)).symm
  subst hfa
  refine Mj.law_good Mj.tabs KX T (by assumption) (by assumption) (by omega) fun s' R keep => ?_
  refine GoodW.toG ⟨.inl ⟨.bool true, .bool true, [], rfl, fun cls => rfl, .bool true, ?_, fun _ => ⟨List.nodup_nil, fun a h => nomatch h⟩⟩, keep, R.2.2, R.1.trans hg⟩
  first | kernel_rfl | wrow_post
