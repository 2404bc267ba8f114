import PyProof.Rows.All
import Wide.All
import OpenK.AllK
import Wide.FinOn
import PySem.Challenge.RW_og0094_01
set_option Elab.async false
set_option linter.unusedVariables false
set_option linter.unusedSimpArgs false
set_option linter.all false
set_option maxRecDepth 100000
set_option autoImplicit false
section
set_option tactic.hygienic false
set_option genSizeOf false
set_option genInjectivity false
namespace Og
open PySem
theorem bindO {α β : Type} {o : Option α} {f : α → Option β} {b : β} (e : o.bind f = some b) : ∃ a, o = some a ∧ f a = some b := Option.bind_eq_some_iff.mp e
theorem mapO {α β : Type} {o : Option α} {f : α → β} {b : β} (e : o.map f = some b) : ∃ a, o = some a ∧ f a = b := Option.map_eq_some_iff.mp e
theorem iteE {α : Type} {c : Prop} [Decidable c] {a b : Option α} {d : α} {P : Prop} (e : (if c then a else b) = some d) (h1 : c → a = some d → P) (h2 : ¬ c → b = some d → P) : P :=
  if h : c then h1 h ((if_pos h).symm.trans e) else h2 h ((if_neg h).symm.trans e)
theorem iteN {α : Type} {c : Prop} [Decidable c] {a : Option α} {d : α} (e : (if c then a else none) = some d) : c ∧ a = some d :=
  iteE e (fun h k => ⟨h, k⟩) fun _ k => nomatch k
theorem bindE {α β : Type} {o : Option α} {f : α → Option β} {b : β} {P : Prop} (e : o.bind f = some b) (k : ∀ a, o = some a → f a = some b → P) : P := match bindO e with | ⟨a, h, j⟩ => k a h j
theorem mapE {α β : Type} {o : Option α} {f : α → β} {b : β} {P : Prop} (e : o.map f = some b) (k : ∀ a, o = some a → f a = b → P) : P := match mapO e with | ⟨a, h, j⟩ => k a h j
theorem bindP {α γ β : Type} {o : Option (α × γ)} {f : α × γ → Option β} {b : β} {P : Prop} (e : o.bind f = some b) (k : ∀ a c, o = some (a, c) → f (a, c) = some b → P) : P := match bindO e with | ⟨(a, c), h, j⟩ => k a c h j
theorem hide {P : Prop} (h : ∀ G : Prop, (P → G) → G) : P := h P id
theorem bindP3 {α γ δ β : Type} {o : Option (α × γ × δ)} {f : α × γ × δ → Option β} {b : β} {P : Prop} (e : o.bind f = some b) (k : ∀ a c d, o = some (a, c, d) → f (a, c, d) = some b → P) : P := match bindO e with | ⟨(a, c, d), h, j⟩ => k a c d h j
noncomputable def AllP {α β : Type} (P : α → β → Prop) : List (α × β) → Prop
  | [] => True
  | p :: l => P p.1 p.2 ∧ AllP P l
theorem look {α β : Type} [BEq α] [LawfulBEq α] {P : α → β → Prop} {x : α} {k : β} : ∀ {l : List (α × β)}, l.lookup x = some k → AllP P l → P x k
  | [], h, _ => nomatch h
  | (a, b) :: l, h, ⟨h1, h2⟩ => by
    rw [List.lookup_cons] at h
    cases hb : x == a with
    | true => rw [hb] at h; cases h; cases eq_of_beq hb; exact h1
    | false => rw [hb] at h; exact look h h2
set_option genInjectivity true in
/-- pure data: what the interpreter reckons with -/
inductive D where
  | none | bool (b : Bool) | int (i : Int) | str (s : Str)
  | tup (l : List D) | lst (l : List D) | rng (n : Int)
  | inst (c : Addr) (ns : List Str) (ds : List D)
  | ptr (i : Nat)
  deriving Inhabited
set_option genInjectivity true in
/-- a thing that may still be changed -/
inductive Ob where
  | lst (l : List D)
  | inst (c : Addr) (ns : List Str) (ds : List D)
  deriving Inhabited
abbrev Sto := List Ob
abbrev Vars := List (Str × D)
set_option genInjectivity true in
inductive Fl where
  | next | ret (d : D)
structure Fn where
  params : List Str
  body : List Stmt
  scope : Scope
  keep : Bool := false
set_option genInjectivity true in
inductive G where
  | val (d : D) | fn (f : Addr) | cls (c init : Addr) (keep : Bool) | bi
structure Tab where
  fn : Addr → Option Fn
  glob : Str → Option G
  meth : Addr → Str → Option Addr
  attr : Addr → List Str
  hint : Nat → Option Nat
mutual
/-- no pointer within -/
noncomputable def np : D → Bool
  | .tup l => npL l
  | .lst l => npL l
  | .inst _ _ ds => npL ds
  | .ptr _ => false
  | _ => true
noncomputable def npL : List D → Bool
  | [] => true
  | d :: ds => np d && npL ds
end
mutual
noncomputable def fz (r : Nat → Option D) : D → Option D
  | .tup l => (fzL r l).map .tup
  | .lst l => (fzL r l).map .lst
  | .inst c ns ds => (fzL r ds).map (.inst c ns)
  | .ptr i => r i
  | .none => some .none
  | .bool b => some (.bool b)
  | .int i => some (.int i)
  | .str s => some (.str s)
  | .rng n => some (.rng n)
noncomputable def fzL (r : Nat → Option D) : List D → Option (List D)
  | [] => some []
  | d :: ds => (fz r d).bind fun d => (fzL r ds).map (d :: ·)
end
noncomputable def rsvO (f : List D → Option (List D)) : Ob → Option D
  | .lst l => (f l).map .lst
  | .inst c ns ds => (f ds).map (.inst c ns)
noncomputable def rsv (st : Sto) (n₀ : Nat) : Nat → Nat → Option D
  | 0, i => if i < n₀ then some (.ptr i) else none
  | k + 1, i => if i < n₀ then some (.ptr i) else (st[i]?).bind (rsvO (fzL (rsv st n₀ k)))
noncomputable def freeze (st : Sto) (n₀ : Nat) (d : D) : Option D := fz (rsv st n₀ 4) d
noncomputable def fzOb (st : Sto) (n₀ : Nat) : Ob → Option Ob
  | .lst l => (fzL (rsv st n₀ 4) l).map .lst
  | .inst c ns ds => (fzL (rsv st n₀ 4) ds).map (.inst c ns)
noncomputable def fzSto (st : Sto) (n₀ : Nat) : Sto → Option Sto
  | [] => some []
  | o :: os => (fzOb st n₀ o).bind fun o => (fzSto st n₀ os).map (o :: ·)
noncomputable def fzVars (st : Sto) (n₀ : Nat) : Vars → Option Vars
  | [] => some []
  | (x, d) :: r => (freeze st n₀ d).bind fun d => (fzVars st n₀ r).map ((x, d) :: ·)
noncomputable def setV (x : Str) (d : D) : Vars → Vars
  | [] => [(x, d)]
  | (y, e) :: r => if y == x then (x, d) :: r else (y, e) :: setV x d r
noncomputable def obL : Ob → Option (List D)
  | .lst l => some l
  | .inst _ _ _ => Option.none
theorem obLE {o : Ob} {l : List D} (h : obL o = some l) : o = .lst l := by cases o <;> cases h; rfl
theorem obind {α β : Type} {o : Option α} {a : α} {f : α → Option β} (h : o = some a) : o.bind f = f a := by subst h; rfl
noncomputable def lstOf (st : Sto) : D → Option (List D)
  | .lst l => some l
  | .ptr i => (st[i]?).bind obL
  | _ => Option.none
noncomputable def seqOf (st : Sto) : D → Option (List D)
  | .tup l => some l
  | d => lstOf st d
noncomputable def strsOf : List D → Option (List Str)
  | [] => some []
  | .str s :: r => (strsOf r).map (s :: ·)
  | _ => Option.none
noncomputable def intsOf : List D → Option (List Int)
  | [] => some []
  | .int i :: r => (intsOf r).map (i :: ·)
  | _ => Option.none
mutual
noncomputable def toPy : D → Option PyData
  | .none => some .none
  | .bool b => some (.bool b)
  | .int i => some (.int i)
  | .str s => some (.str s)
  | .tup l => (toPyL l).map .tuple
  | .lst l => (toPyL l).map .list
  | _ => Option.none
noncomputable def toPyL : List D → Option (List PyData)
  | [] => some []
  | d :: ds => (toPy d).bind fun d => (toPyL ds).map (d :: ·)
end
theorem lst_ptr {st : Sto} {i : Nat} {l : List D} (h : st[i]? = some (.lst l)) : lstOf st (.ptr i) = some l := obind h
/-- a list or tuple as data -/
noncomputable def pyOf (st : Sto) : D → Option PyData
  | .tup l => (toPyL l).map .tuple
  | .lst l => (toPyL l).map .list
  | .ptr i => ((st[i]?).bind obL).bind fun l => (toPyL l).map .list
  | _ => Option.none
noncomputable def reps (l : List D) : Nat → List D
  | 0 => []
  | n + 1 => l ++ reps l n
noncomputable def addD (st : Sto) (a b : D) : Option (D × Sto) :=
  match a with
  | .int x => match b with
    | .int y => some (.int (x + y), st)
    | _ => Option.none
  | .str x => match b with
    | .str y => if x.length + y.length ≤ 10000 then some (.str (x ++ y), st) else Option.none
    | _ => Option.none
  | a => (lstOf st a).bind fun k => (lstOf st b).bind fun l => if k.length + l.length ≤ 10000 then some (.ptr st.length, st ++ [.lst (k ++ l)]) else Option.none
noncomputable def mulD (st : Sto) (a b : D) : Option (D × Sto) :=
  match b with
  | .int n => match a with
    | .int x => if x.natAbs < 2 ^ 64 ∨ n.natAbs < 2 ^ 64 then some (.int (x * n), st) else Option.none
    | .str x => if x.length ≤ 10 ∧ 0 ≤ n ∧ n ≤ 10000 then some (.str (Txt.mul x n), st) else Option.none
    | x => (lstOf st x).bind fun k => if k.length ≤ 10 ∧ 0 ≤ n ∧ n ≤ 10000 then some (.lst (reps k n.toNat), st) else Option.none
  | _ => Option.none
noncomputable def intD (st : Sto) (f : Int → Int → Option Int) (a b : D) : Option (D × Sto) :=
  match a with
  | .int x => match b with
    | .int y => (f x y).map fun z => (.int z, st)
    | _ => Option.none
  | _ => Option.none
noncomputable def binop (op : Operator) (a b : D) (st : Sto) : Option (D × Sto) :=
  match op with
  | .Add => addD st a b
  | .Mult => mulD st a b
  | .Sub => intD st (fun x y => some (x - y)) a b
  | .Mod => intD st (fun x y => if y = 0 then none else some (x.fmod y)) a b
  | .FloorDiv => intD st (fun x y => if 0 < y ∧ y < 1000000000 then some (x.fdiv y) else none) a b
  | .Pow => intD st (fun x y => if 0 ≤ y ∧ (Builtin.Int.intBits x : Int) * y ≤ 2 ^ 27 then some (x ^ y.toNat) else none) a b
  | _ => Option.none
/-- two lists or tuples; against an empty list nothing within is looked at -/
noncomputable def seqEq (st : Sto) (x y : D) : Option Bool :=
  if (lstOf st y).any List.isEmpty = true ∧ (lstOf st x).isSome = true then (lstOf st x).map List.isEmpty
  else (pyOf st x).bind fun p => (pyOf st y).bind fun q => if SeqAt.shaped p && SeqAt.shaped q then some (PyData.eqv p q) else Option.none
theorem seqEq_nil {st : Sto} {x y : D} {k : List D} (h1 : lstOf st x = some k) (h2 : lstOf st y = some []) : seqEq st x y = some k.isEmpty := by
  rw [seqEq, h1, h2]; rfl
noncomputable def eqD (st : Sto) (a b : D) : Option Bool :=
  match a with
  | .int x => match b with
    | .int y => some (x == y)
    | _ => Option.none
  | .str x => match b with
    | .str y => some (x == y)
    | _ => Option.none
  | a => seqEq st a b
noncomputable def neD (st : Sto) (a b : D) : Option Bool :=
  match a with
  | .int x => match b with
    | .int y => some (x != y)
    | _ => Option.none
  | .str x => match b with
    | .str y => some (x != y)
    | _ => Option.none
  | .bool x => match b with
    | .bool y => some (x != y)
    | _ => Option.none
  | a => (seqEq st a b).map (!·)
noncomputable def inD (st : Sto) (a b : D) : Option Bool :=
  match a with
  | .str x => match b with
    | .str y => some (Txt.contains y x)
    | b => ((seqOf st b).bind strsOf).map fun l => l.any (· == x)
  | _ => Option.none
noncomputable def ltD (f : Int → Int → Bool) (a b : D) : Option Bool :=
  match a with
  | .int x => match b with
    | .int y => some (f x y)
    | _ => Option.none
  | _ => Option.none
noncomputable def leD (a b : D) : Option Bool :=
  match a with
  | .int x => match b with
    | .int y => some (decide (x ≤ y))
    | _ => Option.none
  | .str x => match b with
    | .str y => some (!(decide (y.cps.toList < x.cps.toList)))
    | _ => Option.none
  | _ => Option.none
noncomputable def cmpop (op : CmpOp) (a b : D) (st : Sto) : Option Bool :=
  match op with
  | .Eq => eqD st a b
  | .NotEq => neD st a b
  | .Lt => ltD (fun x y => decide (x < y)) a b
  | .LtE => leD a b
  | .Gt => ltD (fun x y => decide (x > y)) a b
  | .GtE => ltD (fun x y => decide (x ≥ y)) a b
  | .In => inD st a b
  | .NotIn => (inD st a b).map (!·)
  | .Is => Option.none
  | .IsNot => Option.none
noncomputable def constD : Const → Option D
  | .none => some .none
  | .bool b => some (.bool b)
  | .int i => some (.int i)
  | .str s => some (.str s)
  | _ => Option.none
/-- x[i] -/
noncomputable def getI (st : Sto) (o i : D) : Option D :=
  match i with
  | .int k => match o with
    | .str s => if fitsSsize k = true ∧ (Txt.charAt s k).isSome = true then some (.str (Txt.item s k)) else Option.none
    | .tup l => if 0 ≤ k ∧ k < 10000 then l[k.toNat]? else Option.none
    | o => (lstOf st o).bind fun l => if l.length ≤ 10000 then (if 0 ≤ k then l[k.toNat]? else if -(l.length : Int) ≤ k then l[(k + l.length).toNat]? else Option.none) else Option.none
  | _ => Option.none
theorem getI_ptr {st : Sto} {i : Nat} {k : Int} {l : List D} (h : lstOf st (.ptr i) = some l) : getI st (.ptr i) (.int k) = if l.length ≤ 10000 then (if 0 ≤ k then l[k.toNat]? else if -(l.length : Int) ≤ k then l[(k + l.length).toNat]? else Option.none) else Option.none := obind h
noncomputable def partI : D → Option (Option Int)
  | .none => some Option.none
  | .int i => some (some i)
  | _ => Option.none
/-- x[lo:hi] -/
noncomputable def getS (st : Sto) (o lo hi : D) : Option D :=
  match partI lo, partI hi with
  | some l, some u => match o with
    | .str s => if s.length ≤ 10000 then some (.str (Txt.slice s l u)) else Option.none
    | o => match lstOf st o, l, u with
      | some xs, Option.none, some k => if xs.length ≤ 10000 ∧ 0 ≤ k then some (.lst (xs.take k.toNat)) else Option.none
      | _, _, _ => Option.none
  | _, _ => Option.none
noncomputable def fieldOf (ns : List Str) (ds : List D) (a : Str) : Option D :=
  match ns, ds with
  | n :: ns, d :: ds => if n == a then some d else fieldOf ns ds a
  | _, _ => Option.none
noncomputable def putF (a : Str) (v : D) : List Str → List D → List Str × List D
  | n :: ns, d :: ds => if n == a then (n :: ns, v :: ds) else let r := putF a v ns ds; (n :: r.1, d :: r.2)
  | _, _ => ([a], [v])
noncomputable def obA (T : Tab) (a : Str) : Ob → Option D
  | .inst c ns ds => if (T.attr c).contains a then fieldOf ns ds a else Option.none
  | .lst _ => Option.none
noncomputable def getA (T : Tab) (st : Sto) (o : D) (a : Str) : Option D :=
  match o with
  | .inst c ns ds => if (T.attr c).contains a then fieldOf ns ds a else Option.none
  | .ptr i => (st[i]?).bind (obA T a)
  | _ => Option.none
noncomputable def chars (s : Str) : List D := s.cps.toList.map fun c => .str ⟨#[c]⟩
noncomputable def upto (n : Int) : List D := (List.range n.toNat).map fun (k : Nat) => .int (k : Int)
/-- the items of a loop's source -/
noncomputable def itemsOf : D → Option (List D)
  | .lst l => if npL l && decide (l.length ≤ 10000) then some l else Option.none
  | .str s => if s.length ≤ 10000 ∧ (s.cps.all (· < 128)) = true then some (chars s) else Option.none
  | .rng n => some (upto n)
  | _ => Option.none
noncomputable def strD : D → Option Str
  | .str s => some s
  | _ => Option.none
noncomputable def numD : D → Option Int
  | .int i => some i
  | _ => Option.none
noncomputable def itsD : D → Option (List D)
  | .lst l => some l
  | _ => Option.none
theorem strDE {d : D} {s : Str} (h : strD d = some s) : d = .str s := by cases d <;> cases h; rfl
theorem numDE {d : D} {i : Int} (h : numD d = some i) : d = .int i := by cases d <;> cases h; rfl
theorem itsDE {d : D} {l : List D} (h : itsD d = some l) : d = .lst l := by cases d <;> cases h; rfl
noncomputable def lenD (st : Sto) (d : D) : Option Nat := match strD d with
  | some s => some s.length
  | none => (lstOf st d).map List.length
inductive Bk where
  | len | int | str | max | chr | ord | sum | tuple | range
noncomputable def biTab : List (Str × Bk) := [("len", .len), ("int", .int), ("str", .str), ("max", .max), ("chr", .chr), ("ord", .ord), ("sum", .sum), ("tuple", .tuple), ("range", .range)]
noncomputable def bi1 (st : Sto) (d : D) : Bk → Option D
  | .len => (lenD st d).bind fun n => if n ≤ 100000 then some (.int n) else Option.none
  | .int => (strD d).bind fun s => if s.length ≤ 640 then (intText? s).map .int else Option.none
  | .str => (numD d).bind fun i => if i.natAbs < 10000000000 then some (.str (toString i)) else Option.none
  | .max => Option.none
  | .chr => (numD d).bind fun i => if 0 ≤ i ∧ i ≤ 1114111 then some (.str ⟨#[i.toNat]⟩) else Option.none
  | .ord => (strD d).bind fun s => if s.length = 1 then some (.int (s.cps.getD 0 0 : Nat)) else Option.none
  | .sum => (itsD d).bind fun l => (intsOf l).bind fun ns => if ns.length ≤ 10000 ∧ (ns.all fun i => decide (0 ≤ i) && decide (i ≤ 1000000000)) = true then some (.int ns.sum) else Option.none
  | .tuple => (lstOf st d).bind fun l => if l.length ≤ 10000 then some (.tup l) else Option.none
  | .range => (numD d).bind fun n => if 0 ≤ n ∧ n ≤ 10000 then some (.rng n) else Option.none
noncomputable def bi2 (a b : D) : Bk → Option D
  | .max => (numD a).bind fun a => (numD b).map fun b => .int (if b > a then b else a)
  | _ => Option.none
noncomputable def biRun (st : Sto) (k : Bk) : List D → Option D
  | [d] => bi1 st d k
  | [a, b] => bi2 a b k
  | _ => Option.none
/-- a built-in called by its name -/
noncomputable def biCall (x : Str) (args : List D) (st : Sto) : Option D := (biTab.lookup x).bind fun k => biRun st k args
inductive Sm where
  | join | split | find | lower
noncomputable def smTab : List (Str × Sm) := [("join", .join), ("split", .split), ("find", .find), ("lower", .lower)]
noncomputable def sm0 (s : Str) : Sm → Option D
  | .lower => if s.length ≤ 10000 then some (.str (Txt.lower s)) else Option.none
  | _ => Option.none
noncomputable def sm1 (s : Str) (d : D) : Sm → Option D
  | .join => (itsD d).bind fun l => (strsOf l).bind fun ys => if (ys.map (·.length)).sum + ys.length * s.length ≤ 16777216 then some (.str (Txt.join s ys)) else Option.none
  | .split => (strD d).bind fun y => if (y.length == 0) = false ∧ s.length ≤ 1000 ∧ (Builtin.Str.partsBetween s (Builtin.Str.occurrences s y 0 s.length (s.length + 1)) y.length).length ≤ 10000 then some (.lst ((Txt.split s y).map .str)) else Option.none
  | _ => Option.none
noncomputable def sm2 (s : Str) (a b : D) : Sm → Option D
  | .find => (strD a).bind fun y => (numD b).map fun i => .int (Txt.find3 s y i)
  | _ => Option.none
noncomputable def smRun (s : Str) (k : Sm) : List D → Option D
  | [] => sm0 s k
  | [d] => sm1 s d k
  | [a, b] => sm2 s a b k
  | _ => Option.none
/-- a method of a str -/
noncomputable def strMeth (s m : Str) (args : List D) (st : Sto) : Option D := (smTab.lookup m).bind fun k => smRun s k args
noncomputable def obC : Ob → Option (Addr × List Str)
  | .inst c ns _ => some (c, ns)
  | .lst _ => Option.none
noncomputable def clsOf (st : Sto) : D → Option (Addr × List Str)
  | .inst c ns _ => some (c, ns)
  | .ptr i => (st[i]?).bind obC
  | _ => Option.none
abbrev CF := Addr → List D → Sto → Option (D × Sto)
/-- which method stands behind a dot -/
inductive Pick where
  | str (s : Str) | fn (f : Addr) | lst
noncomputable def pickC (T : Tab) (m : Str) (c : Addr × List Str) : Option Pick := (T.meth c.1 m).bind fun f => if c.2.contains m then Option.none else some (.fn f)
noncomputable def pickO (T : Tab) (m : Str) : Ob → Option Pick
  | .inst c ns _ => pickC T m (c, ns)
  | .lst _ => some .lst
noncomputable def pick (T : Tab) (st : Sto) (o : D) (m : Str) : Option Pick :=
  match o with
  | .str s => some (.str s)
  | .inst c ns _ => pickC T m (c, ns)
  | .ptr i => (st[i]?).bind (pickO T m)
  | _ => Option.none
/-- a list's own methods -/
noncomputable def lmO (m : Str) (i : Nat) (x : D) (st : Sto) : Option Ob → Option (D × Sto)
  | some (.lst l) =>
    if m == ("append" : Str) then (if l.length ≤ 10000 then some (.none, st.set i (.lst (l ++ [x]))) else Option.none)
    else if m == ("extend" : Str) then (match x with | .lst k => if l.length + k.length ≤ 10000 then some (.none, st.set i (.lst (l ++ k))) else Option.none | _ => Option.none)
    else Option.none
  | some (.inst _ _ _) => Option.none
  | none => Option.none
noncomputable def lstMeth (m : Str) (i : Nat) (x : D) (st : Sto) : Option (D × Sto) := lmO m i x st st[i]?
theorem lm_eq {m : Str} {i : Nat} {x : D} {st : Sto} {o} (h : st[i]? = o) : lstMeth m i x st = lmO m i x st o := congrArg _ h
theorem lmE {m : Str} {i : Nat} {x : D} {st : Sto} {r : D × Sto} (e : lstMeth m i x st = some r) : ∃ l, st[i]? = some (.lst l) ∧ ((m = ("append" : Str) ∧ l.length ≤ 10000 ∧ r = (.none, st.set i (.lst (l ++ [x])))) ∨
    (m = ("extend" : Str) ∧ ∃ k, x = .lst k ∧ l.length + k.length ≤ 10000 ∧ r = (.none, st.set i (.lst (l ++ k))))) := by
  cases h : st[i]? with
  | none => cases (lm_eq h).symm.trans e
  | some o =>
    replace e := (lm_eq h).symm.trans e
    cases o with
    | inst c ns ds => cases e
    | lst l =>
      refine ⟨l, rfl, iteE e (fun hm e => ?_) fun _ e => ?_⟩
      · obtain ⟨hl, e⟩ := iteN e; cases e; exact .inl ⟨eq_of_beq hm, hl, rfl⟩
      · obtain ⟨hm, e⟩ := iteN e
        cases x with
        | lst k => obtain ⟨hl, e⟩ := iteN e; cases e; exact .inr ⟨eq_of_beq hm, k, rfl, hl, rfl⟩
        | _ => cases e
/-- a method called; the receiver and the arguments are reckoned -/
noncomputable def methCall (cf : CF) (p : Pick) (o : D) (m : Str) (args : List D) (st : Sto) : Option (D × Sto) :=
  match p with
  | .str s => (strMeth s m args st).map (·, st)
  | .fn f => cf f (o :: args) st
  | .lst => match o, args with
    | .ptr i, [x] => lstMeth m i x st
    | _, _ => Option.none
/-- a global name called -/
noncomputable def ncG (cf : CF) (x : Str) (args : List D) (st : Sto) : Option G → Option (D × Sto)
  | some (.fn f) => cf f args st
  | some (.cls c ini keep) => (cf ini (.ptr st.length :: args) (st ++ [.inst c [] []])).bind fun r =>
      match r.1 with
      | .none => if keep then some (.ptr st.length, r.2)
        else (freeze r.2 st.length (.ptr st.length)).bind fun d => (fzSto r.2 st.length (r.2.take st.length)).map fun st' => (d, st')
      | _ => Option.none
  | some .bi => (biCall x args st).map (·, st)
  | some (.val _) => Option.none
  | none => Option.none
noncomputable def nameCall (T : Tab) (cf : CF) (x : Str) (args : List D) (st : Sto) : Option (D × Sto) := ncG cf x args st (T.glob x)
theorem nc_eq {T : Tab} {cf : CF} {x : Str} {args : List D} {st : Sto} {g} (h : T.glob x = g) : nameCall T cf x args st = ncG cf x args st g := congrArg _ h
/-- a name's letters -/
noncomputable def nm : Expr → Option Str
  | .Name x _ => some x
  | _ => Option.none
theorem nmE {e : Expr} {x : Str} (h : nm e = some x) : ∃ p, e = .Name x p := by
  unfold nm at h
  split at h
  · cases h; exact ⟨_, rfl⟩
  · cases h
theorem anyE {α : Type} {o : Option α} {f : α → Bool} (h : o.any f = true) : ∃ a, o = some a ∧ f a = true := match o, h with | some a, h => ⟨a, rfl, h⟩
theorem andI {a b : Bool} (h : a = true) (k : b = true) : (a && b) = true := Bool.and_eq_true_iff.mpr ⟨h, k⟩
theorem and1 {a b : Bool} (h : (a && b) = true) : a = true := (Bool.and_eq_true_iff.mp h).1
theorem and2 {a b : Bool} (h : (a && b) = true) : b = true := (Bool.and_eq_true_iff.mp h).2
noncomputable def bindNames : List Expr → List D → Vars → Option Vars
  | [], [], vs => some vs
  | [], _ :: _, _ => Option.none
  | _ :: _, [], _ => Option.none
  | e :: es, d :: ds, vs => (nm e).bind fun x => bindNames es ds (setV x d vs)
noncomputable def tupD : D → Option (List D)
  | .tup l => some l
  | _ => Option.none
theorem tupE {d : D} {l : List D} (h : tupD d = some l) : d = .tup l := by cases d <;> cases h; rfl
/-- a loop's target -/
noncomputable def bindT (t : Expr) (d : D) (vs : Vars) : Option Vars :=
  match t with
  | .Name x _ => some (setV x d vs)
  | .Tuple es _ _ => (tupD d).bind fun ds => bindNames es ds vs
  | _ => Option.none
theorem bindTE {t : Expr} {d : D} {vs vs' : Vars} (h : bindT t d vs = some vs') : (∃ x p, t = .Name x p ∧ vs' = setV x d vs) ∨ ∃ es k p ds, t = .Tuple es k p ∧ d = .tup ds ∧ bindNames es ds vs = some vs' := by
  unfold bindT at h
  split at h
  · cases h; exact .inl ⟨_, _, rfl, rfl⟩
  · obtain ⟨ds, h1, h2⟩ := bindO h; exact .inr ⟨_, _, _, ds, rfl, tupE h1, h2⟩
  · cases h
noncomputable def okN (sc : Scope) (e : Expr) : Bool := (nm e).any fun x => sc.names.lookup x == some .local
theorem okNE {sc : Scope} {e : Expr} (h : okN sc e = true) : ∃ x p, e = .Name x p ∧ sc.names.lookup x = some .local := by
  obtain ⟨x, h1, h2⟩ := anyE h
  obtain ⟨p, rfl⟩ := nmE h1
  exact ⟨x, p, rfl, eq_of_beq h2⟩
noncomputable def allNames (sc : Scope) : List Expr → Bool
  | [] => true
  | e :: es => okN sc e && allNames sc es
noncomputable def okT (sc : Scope) : Expr → Bool
  | .Name x _ => sc.names.lookup x == some .local
  | .Tuple es _ _ => allNames sc es
  | _ => false
theorem okTE {sc : Scope} {t : Expr} (h : okT sc t = true) : (∃ x p, t = .Name x p ∧ sc.names.lookup x = some .local) ∨ ∃ es k p, t = .Tuple es k p ∧ allNames sc es = true := by
  unfold okT at h
  split at h
  · exact .inl ⟨_, _, rfl, eq_of_beq h⟩
  · exact .inr ⟨_, _, _, rfl, h⟩
  · cases h
noncomputable def compLoop (t : Expr) (test : Vars → Sto → Option (Bool × Sto)) (elt : Vars → Sto → Option (D × Sto)) : List D → Vars → Sto → Option (List D × Sto)
  | [], _, st => some ([], st)
  | d :: ds, vs, st => (bindT t d vs).bind fun vs => (test vs st).bind fun r =>
      if r.1 then (elt vs r.2).bind fun q => (compLoop t test elt ds vs q.2).map fun p => (q.1 :: p.1, p.2)
      else compLoop t test elt ds vs r.2
/-- no super() -/
noncomputable def notSuper : Expr → Bool
  | .Call (.Name x _) [] [] _ => x != ("super" : Str)
  | _ => true
noncomputable def negOf : Expr → Option Int
  | .Constant c _ _ => match c with | .int i => some i | _ => none
  | _ => none
noncomputable def isName : Expr → Bool
  | .Name _ _ => true
  | _ => false
abbrev Ev := Scope → Vars → Sto → Option (D × Sto)
abbrev EvT := Scope → Vars → Sto → Option (Bool × Sto)
/-- a comprehension's scope that is plain enough -/
noncomputable def compOk (sc sc' : Scope) (vs : Vars) : Bool := sc'.kind == .function && sc'.names.all fun p => p.2 != .cell && (p.2 != .local || sc'.names.lookup p.1 == some .local) && (p.2 != .free || ((vs.lookup p.1).isSome && sc.names.lookup p.1 == some .cell))
/-- the scope of a comprehension within sc: what is the frame's cell is a cell here too -/
noncomputable def relab (sc sc' : Scope) : Scope := { sc' with names := sc'.names.map fun p => if p.2 == .free && sc.kind == .function && sc.names.lookup p.1 == some .cell then (p.1, .cell) else p }
mutual
noncomputable def ev (T : Tab) (cf : CF) : Expr → Ev
  | .Constant c _ _, _, _, st => (constD c).map (·, st)
  | .Name x _, sc, vs, st => if x == ("__debug__" : Str) then none else match sc.names.lookup x with
    | some .local => (vs.lookup x).map (·, st)
    | some .cell => (vs.lookup x).map (·, st)
    | some .globalImplicit => (match T.glob x with | some (.val d) => some (d, st) | _ => none)
    | _ => none
  | .BoolOp op es _, sc, vs, st => evB T cf op es sc vs st
  | .BinOp l op r _, sc, vs, st => (ev T cf l sc vs st).bind fun a => (ev T cf r sc vs a.2).bind fun b => binop op a.1 b.1 b.2
  | .UnaryOp op x _, sc, vs, st => match op with
    | .Not => (ev T cf x sc vs st).bind fun a => match a.1 with | .bool b => some (.bool (!b), a.2) | _ => none
    | .USub => (negOf x).map fun i => (.int (-i), st)
    | _ => none
  | .IfExp t b o _, sc, vs, st => (evT T cf t (ev T cf t) sc vs st).bind fun c => if c.1 then ev T cf b sc vs c.2 else ev T cf o sc vs c.2
  | .List es _, sc, vs, st => (evs T cf es sc vs st).bind fun r => if r.1.length ≤ 1000 then some (.ptr r.2.length, r.2 ++ [.lst r.1]) else none
  | .Tuple es _ _, sc, vs, st => (evs T cf es sc vs st).bind fun r => if r.1.length ≤ 1000 then some (.tup r.1, r.2) else none
  | .Compare l ops rs _, sc, vs, st => match ops, rs with
    | [op], [r] => (ev T cf l sc vs st).bind fun a => (ev T cf r sc vs a.2).bind fun b => (cmpop op a.1 b.1 b.2).map fun c => (.bool c, b.2)
    | [op, op2], [r, r2] => if behindInMarks op2 r2 then none else (ev T cf l sc vs st).bind fun a => (ev T cf r sc vs a.2).bind fun b => (cmpop op a.1 b.1 b.2).bind fun c =>
      if c then (ev T cf r2 sc vs b.2).bind fun e => (cmpop op2 b.1 e.1 e.2).map fun c => (.bool c, e.2) else some (.bool false, b.2)
    | _, _ => none
  | .Call f args kws pos, sc, vs, st => match kws with
    | [] => match f with
      | .Name x _ => (if x == ("__debug__" : Str) || args.length > 12 then none else match sc.names.lookup x with
    | some .globalImplicit => (evs T cf args sc vs st).bind fun r => nameCall T cf x r.1 r.2
    | _ => none)
      | .Attribute o m ap => (if args.length > 12 || !notSuper o || ap.endLine != pos.line then none else (ev T cf o sc vs st).bind fun a => (pick T a.2 a.1 m).bind fun p => (evs T cf args sc vs a.2).bind fun r => methCall cf p a.1 m r.1 r.2)
      | _ => none
    | _ :: _ => none
  | .Attribute o a _, sc, vs, st => if !notSuper o then none else (ev T cf o sc vs st).bind fun r => (getA T r.2 r.1 a).map fun d => (d, r.2)
  | .Subscript o i _, sc, vs, st => match i with
    | .Slice lo hi step _ => if isName o && step.isNone then (ev T cf o sc vs st).bind fun a => (evO T cf lo sc vs a.2).bind fun l => (evO T cf hi sc vs l.2).bind fun u =>
      (getS u.2 a.1 l.1 u.1).map fun d => (d, u.2) else none
    | i => (ev T cf o sc vs st).bind fun a => (ev T cf i sc vs a.2).bind fun k => (getI k.2 a.1 k.1).map fun d => (d, k.2)
  | .ListComp elt gs sc' _, sc, vs, st => match gs with
    | [⟨t, it, ifs, k⟩] => (ev T cf it sc vs st).bind fun a => (itemsOf a.1).bind fun items =>
      if (k == 0 && okT sc' t && compOk sc sc' vs && decide (items.length ≤ 10000)) = true then
        (compLoop t (evTs T cf .And ifs (relab sc sc')) (ev T cf elt (relab sc sc')) items (vs.filter fun p => sc.names.lookup p.1 == some .cell && sc'.names.lookup p.1 == some .free) a.2).map fun r => (.lst r.1, r.2)
      else none
    | _ => none
  | .NamedExpr _ _ _, _, _, _ => none
  | .Lambda _ _ _ _, _, _, _ => none
  | .Dict _ _ _, _, _, _ => none
  | .Set _ _ _, _, _, _ => none
  | .SetComp _ _ _ _, _, _, _ => none
  | .DictComp _ _ _ _ _, _, _, _ => none
  | .GeneratorExp _ _ _ _, _, _, _ => none
  | .Await _ _, _, _, _ => none
  | .Yield _ _, _, _, _ => none
  | .YieldFrom _ _, _, _, _ => none
  | .FormattedValue _ _ _ _, _, _, _ => none
  | .JoinedStr _ _, _, _, _ => none
  | .Starred _ _, _, _, _ => none
  | .Slice _ _ _ _, _, _, _ => none
noncomputable def evO (T : Tab) (cf : CF) : Option Expr → Ev
  | none, _, _, st => some (.none, st)
  | some e, sc, vs, st => ev T cf e sc vs st
noncomputable def evs (T : Tab) (cf : CF) : List Expr → Scope → Vars → Sto → Option (List D × Sto)
  | [], _, _, st => some ([], st)
  | e :: es, sc, vs, st => (ev T cf e sc vs st).bind fun a => (evs T cf es sc vs a.2).map fun r => (a.1 :: r.1, r.2)
noncomputable def evB (T : Tab) (cf : CF) : BoolOp → List Expr → Ev
  | _, [], _, _, _ => none
  | _, [e], sc, vs, st => ev T cf e sc vs st
  | op, e :: es, sc, vs, st => (ev T cf e sc vs st).bind fun a => match a.1, op with
    | .bool false, .And => some a
    | .bool true, .Or => some a
    | .bool _, _ => evB T cf op es sc vs a.2
    | _, _ => none
noncomputable def evT (T : Tab) (cf : CF) : Expr → Ev → EvT
  | .UnaryOp .Not x _, _, sc, vs, st => (evT T cf x (ev T cf x) sc vs st).map fun r => (!r.1, r.2)
  | .BoolOp op es _, _, sc, vs, st => evTs T cf op es sc vs st
  | .IfExp _ _ _ _, _, _, _, _ => none
  | _, w, sc, vs, st => (w sc vs st).bind fun a => match a.1 with | .bool b => some (b, a.2) | _ => none
noncomputable def evTs (T : Tab) (cf : CF) : BoolOp → List Expr → EvT
  | op, [], _, _, st => some (op == .And, st)
  | op, e :: es, sc, vs, st => (evT T cf e (ev T cf e) sc vs st).bind fun a => match a.1, op with
    | false, .And => some (false, a.2)
    | true, .Or => some (true, a.2)
    | _, _ => evTs T cf op es sc vs a.2
end
abbrev Xr := Option (Fl × Vars × Sto)
abbrev ExF := Scope → Nat → Vars → Sto → Xr
noncomputable def whileL (test : Vars → Sto → Option (Bool × Sto)) (body : Vars → Sto → Xr) : Nat → Vars → Sto → Xr
  | 0, _, _ => none
  | n + 1, vs, st => (test vs st).bind fun c =>
      if c.1 then (body vs c.2).bind fun r => match r.1 with
        | .next => whileL test body n r.2.1 r.2.2
        | .ret d => some (.ret d, r.2)
      else some (.next, vs, c.2)
noncomputable def forL (t : Expr) (body : Vars → Sto → Xr) : List D → Vars → Sto → Xr
  | [], vs, st => some (.next, vs, st)
  | d :: ds, vs, st => (bindT t d vs).bind fun vs => (body vs st).bind fun r => match r.1 with
      | .next => forL t body ds r.2.1 r.2.2
      | .ret d => some (.ret d, r.2)
/-- what stands behind a statement: things made since the frame's start and no more changed become plain data -/
noncomputable def cpH (base : Nat) (vs : Vars) (st : Sto) : Option Nat → Option (Vars × Sto)
  | none => some (vs, st)
  | some k => if st.length ≤ base + k then some (vs, st) else
      (fzVars st (base + k) vs).bind fun vs' => (fzSto st (base + k) (st.take (base + k))).map fun st' => (vs', st')
noncomputable def compact (T : Tab) (line base : Nat) (vs : Vars) (st : Sto) : Option (Vars × Sto) := cpH base vs st (T.hint line)
theorem compact_eq {T : Tab} {line base : Nat} {vs : Vars} {st : Sto} {o} (h : T.hint line = o) : compact T line base vs st = cpH base vs st o := congrArg _ h
noncomputable def isComp : Expr → Bool
  | .ListComp _ _ _ _ => true
  | .SetComp _ _ _ _ => true
  | .DictComp _ _ _ _ _ => true
  | _ => false
noncomputable def distinct : List Expr → Bool
  | [] => true
  | e :: es => ((nm e).any fun x => es.all fun e => (nm e).any (x != ·)) && distinct es
/-- two or three names at once: a written tuple's items go in from behind -/
noncomputable def setAll : List Expr → List D → Vars → Option Vars
  | [], [], vs => some vs
  | [], _ :: _, _ => none
  | _ :: _, [], _ => none
  | e :: es, d :: ds, vs => (nm e).bind fun x => (setAll es ds vs).map (setV x d)
/-- a written tuple whose stores' order is known -/
noncomputable def swapOk : Expr → Bool
  | .Tuple es _ _ => es.all (foldedForSure 8) || !(es.all (constantsAlone 8))
  | _ => true
mutual
noncomputable def ex (T : Tab) (cf : CF) : Stmt → ExF
  | .Expr e _, sc, _, vs, st => if isComp e then none else (ev T cf e sc vs st).bind fun a => match a.1 with
    | .none => some (.next, vs, a.2)
    | _ => none
  | .Pass _, _, _, vs, st => some (.next, vs, st)
  | .Return o _, sc, _, vs, st => match o with
    | some e => (ev T cf e sc vs st).map fun a => (.ret a.1, vs, a.2)
    | none => some (.ret .none, vs, st)
  | .Assign tg e _, sc, _, vs, st => match tg with
    | [t] => match t with
      | .Name x _ => (if sc.names.lookup x == some .local || (sc.names.lookup x == some .cell && sc.names.all fun p => p.2 != .cell || p.1 == x) then
      (ev T cf e sc vs st).map fun a => (.next, setV x a.1 vs, a.2) else none)
      | .Attribute o a _ => (if isComp e then none else (ev T cf e sc vs st).bind fun v => (ev T cf o sc vs v.2).bind fun p => match p.1 with
    | .ptr i => (match p.2[i]? with
      | some (.inst c ns ds) => if (T.attr c).contains a && decide (ns.length ≤ 100) then let r := putF a v.1 ns ds; some (.next, vs, p.2.set i (.inst c r.1 r.2)) else none
      | _ => none)
    | _ => none)
      | .Subscript o k _ => (if isComp e then none else (ev T cf e sc vs st).bind fun v => (ev T cf o sc vs v.2).bind fun p => (ev T cf k sc vs p.2).bind fun q => match p.1, q.1 with
    | .ptr i, .int j => (match q.2[i]? with
      | some (.lst l) => if l.length ≤ 10000 then
          (if 0 ≤ j ∧ j < l.length then some (.next, vs, q.2.set i (.lst (l.set j.toNat v.1)))
           else if j < 0 ∧ -(l.length : Int) ≤ j then some (.next, vs, q.2.set i (.lst (l.set (j + l.length).toNat v.1))) else none) else none
      | _ => none)
    | _, _ => none)
      | .Tuple ts _ _ => (if isComp e || !allNames sc ts || !distinct ts || !swapOk e then none else (ev T cf e sc vs st).bind fun a => match a.1 with
    | .tup ds => (setAll ts ds vs).map fun vs' => (.next, vs', a.2)
    | _ => none)
      | _ => none
    | _ => none
  | .If t b o _, sc, base, vs, st => (evT T cf t (ev T cf t) sc vs st).bind fun c => if c.1 then exs T cf b sc base vs c.2 else exs T cf o sc base vs c.2
  | .While t b o _, sc, base, vs, st => match o with
    | [] => whileL (evT T cf t (ev T cf t) sc) (exs T cf b sc base) 64 vs st
    | _ :: _ => none
  | .For t it b o _, sc, base, vs, st => match o with
    | [] => match it with
      | .List es _ => (if okT sc t then (evs T cf es sc vs st).bind fun a => if npL a.1 && decide (a.1.length ≤ 1000) then forL t (exs T cf b sc base) a.1 vs a.2 else none else none)
      | it => (if okT sc t then (ev T cf it sc vs st).bind fun a => (itemsOf a.1).bind fun items => forL t (exs T cf b sc base) items vs a.2 else none)
    | _ :: _ => none
  | .FunctionDef .., _, _, _, _ => none
  | .AsyncFunctionDef .., _, _, _, _ => none
  | .ClassDef .., _, _, _, _ => none
  | .Delete .., _, _, _, _ => none
  | .TypeAlias .., _, _, _, _ => none
  | .AugAssign .., _, _, _, _ => none
  | .AnnAssign .., _, _, _, _ => none
  | .AsyncFor .., _, _, _, _ => none
  | .With .., _, _, _, _ => none
  | .AsyncWith .., _, _, _, _ => none
  | .Match .., _, _, _, _ => none
  | .Raise .., _, _, _, _ => none
  | .Try .., _, _, _, _ => none
  | .TryStar .., _, _, _, _ => none
  | .Assert .., _, _, _, _ => none
  | .Import .., _, _, _, _ => none
  | .ImportFrom .., _, _, _, _ => none
  | .Global .., _, _, _, _ => none
  | .Nonlocal .., _, _, _, _ => none
  | .Break .., _, _, _, _ => none
  | .Continue .., _, _, _, _ => none
noncomputable def exs (T : Tab) (cf : CF) : List Stmt → ExF
  | [], _, _, vs, st => some (.next, vs, st)
  | s :: rest, sc, base, vs, st => (ex T cf s sc base vs st).bind fun r => match r.1 with
    | .next => (compact T s.pos.line base r.2.1 r.2.2).bind fun q => exs T cf rest sc base q.1 q.2
    | .ret d => some (.ret d, r.2)
end
noncomputable def retD : Fl → D
  | .ret d => d
  | .next => D.none
noncomputable def callB (T : Tab) (cf : CF) (fn : Fn) (args : List D) (st : Sto) : Option (D × Sto) :=
  if fn.params.length = args.length then
    (exs T cf fn.body fn.scope st.length (fn.params.zip args) st).bind fun r =>
      if fn.keep then some (retD r.1, r.2.2)
      else (freeze r.2.2 st.length (retD r.1)).bind fun d => (fzSto r.2.2 st.length (r.2.2.take st.length)).map fun st' => (d, st')
  else none
noncomputable def callF (T : Tab) : Nat → CF
  | 0, _, _, _ => none
  | n + 1, f, args, st => (T.fn f).bind fun fn => callB T (callF T n) fn args st
theorem callF_some {T : Tab} {n f : Nat} {fn : Fn} {args : List D} {st : Sto} (h : T.fn f = some fn) (hl : fn.params.length = args.length) :
    callF T (n + 1) f args st = (exs T (callF T n) fn.body fn.scope st.length (fn.params.zip args) st).bind fun r =>
      if fn.keep then some (retD r.1, r.2.2)
      else (freeze r.2.2 st.length (retD r.1)).bind fun d => (fzSto r.2.2 st.length (r.2.2.take st.length)).map fun st' => (d, st') :=
  (congrArg (Option.bind · _) h).trans (if_pos hl)
section
variable {T : Tab} {cf : CF} {sc sc' : Scope} {vs : Vars} {st : Sto} {p p2 : Pos} {base : Nat}
theorem iv_const {c : Const} {k} : ev T cf (.Constant c k p) sc vs st = (constD c).map (·, st) := rfl
theorem iv_name {x : Str} : ev T cf (.Name x p) sc vs st = if x == ("__debug__" : Str) then none else match sc.names.lookup x with
    | some .local => (vs.lookup x).map (·, st)
    | some .cell => (vs.lookup x).map (·, st)
    | some .globalImplicit => (match T.glob x with | some (.val d) => some (d, st) | _ => none)
    | _ => none := rfl
theorem iv_boolop {op es} : ev T cf (.BoolOp op es p) sc vs st = evB T cf op es sc vs st := rfl
theorem iv_binop {l op r} : ev T cf (.BinOp l op r p) sc vs st = (ev T cf l sc vs st).bind fun a => (ev T cf r sc vs a.2).bind fun b => binop op a.1 b.1 b.2 := rfl
theorem iv_not {x} : ev T cf (.UnaryOp .Not x p) sc vs st = (ev T cf x sc vs st).bind fun a => match a.1 with | .bool b => some (.bool (!b), a.2) | _ => none := rfl
theorem iv_neg {i : Int} {k} : ev T cf (.UnaryOp .USub (.Constant (.int i) k p2) p) sc vs st = some (.int (-i), st) := rfl
theorem iv_ifexp {t b o} : ev T cf (.IfExp t b o p) sc vs st = (evT T cf t (ev T cf t) sc vs st).bind fun c => if c.1 then ev T cf b sc vs c.2 else ev T cf o sc vs c.2 := rfl
theorem iv_list {es} : ev T cf (.List es p) sc vs st = (evs T cf es sc vs st).bind fun r => if r.1.length ≤ 1000 then some (.ptr r.2.length, r.2 ++ [.lst r.1]) else none := rfl
theorem iv_tuple {es k} : ev T cf (.Tuple es k p) sc vs st = (evs T cf es sc vs st).bind fun r => if r.1.length ≤ 1000 then some (.tup r.1, r.2) else none := rfl
theorem iv_cmp1 {l op r} : ev T cf (.Compare l [op] [r] p) sc vs st = (ev T cf l sc vs st).bind fun a => (ev T cf r sc vs a.2).bind fun b => (cmpop op a.1 b.1 b.2).map fun c => (.bool c, b.2) := rfl
theorem iv_cmp2 {l op op2 r r2} : ev T cf (.Compare l [op, op2] [r, r2] p) sc vs st = if behindInMarks op2 r2 then none else (ev T cf l sc vs st).bind fun a => (ev T cf r sc vs a.2).bind fun b => (cmpop op a.1 b.1 b.2).bind fun c =>
      if c then (ev T cf r2 sc vs b.2).bind fun e => (cmpop op2 b.1 e.1 e.2).map fun c => (.bool c, e.2) else some (.bool false, b.2) := rfl
theorem iv_callN {x : Str} {args} : ev T cf (.Call (.Name x p2) args [] p) sc vs st = if x == ("__debug__" : Str) || args.length > 12 then none else match sc.names.lookup x with
    | some .globalImplicit => (evs T cf args sc vs st).bind fun r => nameCall T cf x r.1 r.2
    | _ => none := rfl
theorem iv_callA {o m ap args} : ev T cf (.Call (.Attribute o m ap) args [] p) sc vs st = if args.length > 12 || !notSuper o || ap.endLine != p.line then none else (ev T cf o sc vs st).bind fun a => (pick T a.2 a.1 m).bind fun p => (evs T cf args sc vs a.2).bind fun r => methCall cf p a.1 m r.1 r.2 := rfl
theorem iv_attr {o a} : ev T cf (.Attribute o a p) sc vs st = if !notSuper o then none else (ev T cf o sc vs st).bind fun r => (getA T r.2 r.1 a).map fun d => (d, r.2) := rfl
theorem iv_slice {x xp lo hi q} : ev T cf (.Subscript (.Name x xp) (.Slice lo hi none q) p) sc vs st = (ev T cf (.Name x xp) sc vs st).bind fun a => (evO T cf lo sc vs a.2).bind fun l => (evO T cf hi sc vs l.2).bind fun u => (getS u.2 a.1 l.1 u.1).map fun d => (d, u.2) := rfl
theorem iv_comp1 {elt t it ifs k} : ev T cf (.ListComp elt [⟨t, it, ifs, k⟩] sc' p) sc vs st = (ev T cf it sc vs st).bind fun a => (itemsOf a.1).bind fun items =>
      if (k == 0 && okT sc' t && compOk sc sc' vs && decide (items.length ≤ 10000)) = true then
        (compLoop t (evTs T cf .And ifs (relab sc sc')) (ev T cf elt (relab sc sc')) items (vs.filter fun p => sc.names.lookup p.1 == some .cell && sc'.names.lookup p.1 == some .free) a.2).map fun r => (.lst r.1, r.2)
      else none := rfl
theorem ivO_none : evO T cf none sc vs st = some (.none, st) := rfl
theorem ivO_some {e} : evO T cf (some e) sc vs st = ev T cf e sc vs st := rfl
theorem ivB_cons {op e f es} : evB T cf op (e :: f :: es) sc vs st = (ev T cf e sc vs st).bind fun a => match a.1, op with
    | .bool false, .And => some a
    | .bool true, .Or => some a
    | .bool _, _ => evB T cf op (f :: es) sc vs a.2
    | _, _ => none := by cases op <;> rfl
theorem ivT_not {x} {w : Ev} : evT T cf (.UnaryOp .Not x p) w sc vs st = (evT T cf x (ev T cf x) sc vs st).map fun r => (!r.1, r.2) := rfl
theorem ivT_bool {op es} {w : Ev} : evT T cf (.BoolOp op es p) w sc vs st = evTs T cf op es sc vs st := rfl
theorem ivT_cmp {l ops rs} {w : Ev} : evT T cf (.Compare l ops rs p) w sc vs st = (w sc vs st).bind fun a => match a.1 with | .bool b => some (b, a.2) | _ => none := rfl
theorem ivT_name {x} {w : Ev} : evT T cf (.Name x p) w sc vs st = (w sc vs st).bind fun a => match a.1 with | .bool b => some (b, a.2) | _ => none := rfl
theorem ivT_attr {o a} {w : Ev} : evT T cf (.Attribute o a p) w sc vs st = (w sc vs st).bind fun a => match a.1 with | .bool b => some (b, a.2) | _ => none := rfl
theorem ivT_call {f a k} {w : Ev} : evT T cf (.Call f a k p) w sc vs st = (w sc vs st).bind fun a => match a.1 with | .bool b => some (b, a.2) | _ => none := rfl
theorem ix_expr {e} : ex T cf (.Expr e p) sc base vs st = if isComp e then none else (ev T cf e sc vs st).bind fun a => match a.1 with
    | .none => some (.next, vs, a.2)
    | _ => none := rfl
theorem ix_pass : ex T cf (.Pass p) sc base vs st = some (.next, vs, st) := rfl
theorem ix_ret {e} : ex T cf (.Return (some e) p) sc base vs st = (ev T cf e sc vs st).map fun a => (.ret a.1, vs, a.2) := rfl
theorem ix_ret0 : ex T cf (.Return none p) sc base vs st = some (.ret .none, vs, st) := rfl
theorem ix_name {x xp e} : ex T cf (.Assign [.Name x xp] e p) sc base vs st = if sc.names.lookup x == some .local || (sc.names.lookup x == some .cell && sc.names.all fun p => p.2 != .cell || p.1 == x) then
      (ev T cf e sc vs st).map fun a => (.next, setV x a.1 vs, a.2) else none := rfl
theorem ix_attr {o a q e} : ex T cf (.Assign [.Attribute o a q] e p) sc base vs st = if isComp e then none else (ev T cf e sc vs st).bind fun v => (ev T cf o sc vs v.2).bind fun p => match p.1 with
    | .ptr i => (match p.2[i]? with
      | some (.inst c ns ds) => if (T.attr c).contains a && decide (ns.length ≤ 100) then let r := putF a v.1 ns ds; some (.next, vs, p.2.set i (.inst c r.1 r.2)) else none
      | _ => none)
    | _ => none := rfl
theorem ix_sub {o k q e} : ex T cf (.Assign [.Subscript o k q] e p) sc base vs st = if isComp e then none else (ev T cf e sc vs st).bind fun v => (ev T cf o sc vs v.2).bind fun p => (ev T cf k sc vs p.2).bind fun q => match p.1, q.1 with
    | .ptr i, .int j => (match q.2[i]? with
      | some (.lst l) => if l.length ≤ 10000 then
          (if 0 ≤ j ∧ j < l.length then some (.next, vs, q.2.set i (.lst (l.set j.toNat v.1)))
           else if j < 0 ∧ -(l.length : Int) ≤ j then some (.next, vs, q.2.set i (.lst (l.set (j + l.length).toNat v.1))) else none) else none
      | _ => none)
    | _, _ => none := rfl
theorem ix_tup {ts k q e} : ex T cf (.Assign [.Tuple ts k q] e p) sc base vs st = if isComp e || !allNames sc ts || !distinct ts || !swapOk e then none else (ev T cf e sc vs st).bind fun a => match a.1 with
    | .tup ds => (setAll ts ds vs).map fun vs' => (.next, vs', a.2)
    | _ => none := rfl
theorem ix_if {t b o} : ex T cf (.If t b o p) sc base vs st = (evT T cf t (ev T cf t) sc vs st).bind fun c => if c.1 then exs T cf b sc base vs c.2 else exs T cf o sc base vs c.2 := rfl
theorem ix_while {t b} : ex T cf (.While t b [] p) sc base vs st = whileL (evT T cf t (ev T cf t) sc) (exs T cf b sc base) 64 vs st := rfl
theorem ix_forL {t es q b} : ex T cf (.For t (.List es q) b [] p) sc base vs st = if okT sc t then (evs T cf es sc vs st).bind fun a => if npL a.1 && decide (a.1.length ≤ 1000) then forL t (exs T cf b sc base) a.1 vs a.2 else none else none := rfl
end
end Og
end
section
namespace Og
open PySem
noncomputable def topBody : List Stmt := PySem.Challenge.pw_og0094_01.main.body
noncomputable def fnIn (n : Str) : List Stmt → Option Fn
  | [] => none
  | .FunctionDef m a b _ _ _ sc _ _ _ :: r => if m == n then some { params := a.args.map (·.arg), body := b, scope := sc } else fnIn n r
  | _ :: r => fnIn n r
noncomputable def clsIn (n : Str) : List Stmt → Option (List Stmt)
  | [] => none
  | .ClassDef m _ _ b _ _ _ _ _ _ _ :: r => if m == n then some b else clsIn n r
  | _ :: r => clsIn n r
noncomputable def fnTop (n : Str) : Option Fn := fnIn n topBody
noncomputable def fnCls (c n : Str) : Option Fn := (clsIn c topBody).bind (fnIn n)
noncomputable def fnList : List (Addr × Option Fn) := [
  (69, fnCls "Picture" "__init__"),
  (76, fnCls "Picture" "told"),
  (81, fnCls "Picture" "has"),
  (102, fnCls "Sign" "__init__"),
  (123, fnTop "sign_at"),
  (128, fnTop "count_at"),
  (135, fnTop "signs_of"),
  (142, fnTop "symbols_of"),
  (147, fnTop "size_of_symbols"),
  (161, fnCls "Order" "__init__"),
  (168, fnCls "Order" "digits"),
  (175, fnCls "Order" "add_behind"),
  (182, fnCls "Order" "take_nine"),
  (189, fnCls "Order" "take_zero"),
  (196, fnCls "Order" "take_point"),
  (203, fnCls "Order" "take_scaling"),
  (210, fnCls "Order" "take_inserted"),
  (217, fnCls "Order" "float_on"),
  (224, fnCls "Order" "may_float"),
  (231, fnCls "Order" "take_sign"),
  (238, fnCls "Order" "take_money"),
  (245, fnCls "Order" "take_end"),
  (252, fnCls "Order" "take"),
  (259, fnCls "Order" "is_whole"),
  (266, fnCls "Order" "scale"),
  (278, fnTop "number_picture"),
  (283, fnTop "text_category"),
  (290, fnTop "text_picture"),
  (295, fnTop "read_picture"),
  (302, fnTop "shown_sign"),
  (307, fnTop "show_picture"),
  (314, fnTop "places"),
  (321, fnTop "_law_take"),
  (328, (fnTop "_law_bag").map fun f => { f with keep := true }),
  (335, fnTop "_law_number"),
  (342, fnTop "_law_text"),
  (349, fnTop "_law_edited"),
  (356, fnTop "_law_short"),
  (363, fnTop "_law_spelled")]
noncomputable def fnTab (a : Addr) : Option Fn := (fnList.lookup a).join
noncomputable def gl (x : String) (g : G) : Str × G := (x, g)
noncomputable def globTab : List (Str × G) := [
  gl "SIGNS" (.val (.str "ABPSVXZ90/,.+-*$")),
  gl "TEXT_SIGNS" (.val (.str "A X 9 B 0 /")),
  gl "PLAIN_SIGNS" (.val (.str "9 P S V")),
  gl "LAID_NOWHERE" (.val (.str "P S V")),
  gl "ALONE" (.val (.str "S V . CR DB")),
  gl "FIGURES" (.val (.str "0123456789")),
  gl "MOST_TEXT" (.val (.int 30)),
  gl "MOST_DIGITS" (.val (.int 18)),
  gl "MOST_SIZE" (.val (.int 9999)),
  gl "Picture" (.cls 84 69 false),
  gl "Sign" (.cls 112 102 false),
  gl "Order" (.cls 269 161 true),
  gl "sign_at" (.fn 123), gl "count_at" (.fn 128), gl "signs_of" (.fn 135), gl "symbols_of" (.fn 142), gl "size_of_symbols" (.fn 147),
  gl "number_picture" (.fn 278), gl "text_category" (.fn 283), gl "text_picture" (.fn 290), gl "read_picture" (.fn 295),
  gl "shown_sign" (.fn 302), gl "show_picture" (.fn 307), gl "places" (.fn 314),
  gl "_law_take" (.fn 321), gl "_law_bag" (.fn 328), gl "_law_number" (.fn 335), gl "_law_text" (.fn 342), gl "_law_edited" (.fn 349),
  gl "_law_short" (.fn 356), gl "_law_spelled" (.fn 363),
  gl "len" (.bi), gl "int" (.bi), gl "str" (.bi), gl "max" (.bi), gl "chr" (.bi), gl "ord" (.bi), gl "sum" (.bi), gl "tuple" (.bi), gl "range" (.bi)]
noncomputable def ml (x : String) (a : Addr) : Str × Addr := (x, a)
noncomputable def methTab : Addr → List (Str × Addr)
  | 84 => [ml "told" 76, ml "has" 81]
  | 269 => [ml "digits" 168, ml "add_behind" 175, ml "take_nine" 182, ml "take_zero" 189, ml "take_point" 196, ml "take_scaling" 203,
      ml "take_inserted" 210, ml "float_on" 217, ml "may_float" 224, ml "take_sign" 231, ml "take_money" 238, ml "take_end" 245, ml "take" 252, ml "is_whole" 259, ml "scale" 266]
  | _ => []
noncomputable def attrTab : Addr → List Str
  | 84 => ["text", "symbols", "category", "digits", "scale", "is_signed", "size"].map Str.ofString
  | 112 => ["sign", "count", "at"].map Str.ofString
  | 269 => ["seen", "is_plain", "point", "lead", "trail", "nines", "zero", "zeros", "floats", "behind", "is_late", "sign", "money", "last", "is_over", "is_inserted"].map Str.ofString
  | _ => []
/-- law's statements behind which what was made is plain data (line, things kept) -/
noncomputable def hintTab : Nat → Option Nat
  | 306 => some 1
  | 317 => some 1
  | _ => none
noncomputable def T : Tab where
  fn := fnTab
  glob := fun x => globTab.lookup x
  meth := fun c m => (methTab c).lookup m
  attr := attrTab
  hint := hintTab
noncomputable def lawFn : Option Fn := fnTop "law"
noncomputable def runLaw (script : List Int) : Option (Fl × Vars × Sto) :=
  lawFn.bind fun f => exs T (callF T 12) f.body f.scope 0 [("script", .lst (script.map .int))] []
end Og
end
section
set_option genSizeOf false
set_option tactic.hygienic false
namespace Og
open PySem
/-- every object off X is kept, and stays off X' -/
noncomputable def Ext (h : Heap) (X : List Addr) (h' : Heap) (X' : List Addr) : Prop := ∀ a o, a ∉ X → h.get? a = some o → a ∉ X' ∧ h'.get? a = some o
theorem Ext.refl (h : Heap) (X : List Addr) : Ext h X h X := fun _ _ n e => ⟨n, e⟩
theorem Ext.trans {h h' h'' : Heap} {X X' X'' : List Addr} (a : Ext h X h' X') (b : Ext h' X' h'' X'') : Ext h X h'' X'' := fun x o n e => let q := a x o n e; b x o q.1 q.2
abbrev Hd := List (Addr × Addr)
abbrev Sub (σ σ' : Hd) : Prop := ∀ (i : Nat) (p : Addr × Addr), σ[i]? = some p → σ'[i]? = some p
noncomputable def keysOk : List Str → List DictEntry → Prop
  | [], es => es = []
  | n :: ns, es => ∃ e r, es = e :: r ∧ (∃ t, e.key = .str n t) ∧ keysOk ns r
mutual
/-- the value v stands for the datum -/
noncomputable def Rl (h : Heap) (X : List Addr) (σ : Hd) : D → Value → Prop
  | .none, v => v = .none
  | .bool b, v => v = .bool b
  | .int i, v => ∃ t, v = .int i t
  | .str s, v => ∃ t, v = .str s t
  | .tup l, v => ∃ a vs, v = .ref a ∧ a ∉ X ∧ h.IsTuple a (List.toArray vs) ∧ RlL h X σ l vs
  | .lst l, v => ∃ a vs, v = .ref a ∧ a ∉ X ∧ h.IsList a (List.toArray vs) ∧ RlL h X σ l vs
  | .rng n, v => ∃ a t u w, v = .ref a ∧ a ∉ X ∧ IsRange h a 0 n 1 t u w ∧ 0 ≤ n ∧ n ≤ 10000
  | .inst c ns ds, v => ∃ x dx es k, v = .ref x ∧ x ∉ X ∧ dx ∉ X ∧ h.get? x = some (W.instObj c dx) ∧ h.get? dx = some (W.dictOf es k) ∧ keysOk ns es ∧ RlL h X σ ds (es.map (·.val))
  | .ptr i, v => ∃ p, σ[i]? = some p ∧ v = .ref p.1
noncomputable def RlL (h : Heap) (X : List Addr) (σ : Hd) : List D → List Value → Prop
  | [], vs => vs = []
  | d :: ds, vs => ∃ v r, vs = v :: r ∧ Rl h X σ d v ∧ RlL h X σ ds r
end
section
variable {h h' : Heap} {X X' : List Addr} {σ σ' : Hd}
theorem isTuple_ext (H : Ext h X h' X') {a : Addr} {xs : Array Value} (n : a ∉ X) (x : h.IsTuple a xs) : a ∉ X' ∧ h'.IsTuple a xs :=
  let ⟨o, ho, r⟩ := x; let q := H a o n ho; ⟨q.1, o, q.2, r⟩
theorem isList_ext (H : Ext h X h' X') {a : Addr} {xs : Array Value} (n : a ∉ X) (x : h.IsList a xs) : a ∉ X' ∧ h'.IsList a xs :=
  let ⟨o, ho, r⟩ := x; let q := H a o n ho; ⟨q.1, o, q.2, r⟩
mutual
theorem Rl.both (H : Ext h X h' X') : ∀ (d : D) (v : Value), (np d = true ∨ Sub σ σ') → Rl h X σ d v → Rl h' X' σ' d v
  | .none, _, _, r => r
  | .bool _, _, _, r => r
  | .int _, _, _, r => r
  | .str _, _, _, r => r
  | .tup l, _, q, r => by
    obtain ⟨a, vs, e, n, t, r⟩ := r
    exact ⟨a, vs, e, (isTuple_ext H n t).1, (isTuple_ext H n t).2, RlL.both H l vs q r⟩
  | .lst l, _, q, r => by
    obtain ⟨a, vs, e, n, t, r⟩ := r
    exact ⟨a, vs, e, (isList_ext H n t).1, (isList_ext H n t).2, RlL.both H l vs q r⟩
  | .rng _, _, _, r => by
    obtain ⟨a, t, u, w, e, n, r, z⟩ := r
    exact ⟨a, t, u, w, e, (H a _ n r).1, (H a _ n r).2, z⟩
  | .inst _ _ ds, _, q, r => by
    obtain ⟨x, dx, es, k, e, n1, n2, g1, g2, ks, r⟩ := r
    exact ⟨x, dx, es, k, e, (H x _ n1 g1).1, (H dx _ n2 g2).1, (H x _ n1 g1).2, (H dx _ n2 g2).2, ks, RlL.both H ds _ q r⟩
  | .ptr i, _, q, r => by
    obtain ⟨p, a, b⟩ := r
    rcases q with q | S
    · cases q
    · exact ⟨p, S i p a, b⟩
theorem RlL.both (H : Ext h X h' X') : ∀ (l : List D) (vs : List Value), (npL l = true ∨ Sub σ σ') → RlL h X σ l vs → RlL h' X' σ' l vs
  | [], _, _, r => r
  | d :: ds, _, q, r => by
    obtain ⟨v, u, e, a, b⟩ := r
    exact ⟨v, u, e, Rl.both H d v (q.imp and1 id) a, RlL.both H ds u (q.imp and2 id) b⟩
end
theorem Rl.mono (H : Ext h X h' X') (S : Sub σ σ') (d : D) (v : Value) (r : Rl h X σ d v) : Rl h' X' σ' d v := Rl.both H d v (.inr S) r
theorem RlL.mono (H : Ext h X h' X') (S : Sub σ σ') (l : List D) (vs : List Value) (r : RlL h X σ l vs) : RlL h' X' σ' l vs := RlL.both H l vs (.inr S) r
theorem Rl.npm (H : Ext h X h' X') (d : D) (v : Value) (q : np d = true) (r : Rl h X σ d v) : Rl h' X' σ' d v := Rl.both H d v (.inl q) r
theorem RlL.length : ∀ {l : List D} {vs : List Value}, RlL h X σ l vs → vs.length = l.length
  | [], _, e => by cases e; rfl
  | _ :: _, _, xx0 => by
    obtain ⟨_, _, e, _, b⟩ := xx0
    cases e; simp [b.length]
theorem RlL.append : ∀ {l k : List D} {vs us : List Value}, RlL h X σ l vs → RlL h X σ k us → RlL h X σ (l ++ k) (vs ++ us)
  | [], _, _, _, e, b => by cases e; exact b
  | _ :: _, _, _, _, xx0, b => by
    obtain ⟨v, r, e, a, c⟩ := xx0
    cases e; exact ⟨v, _, rfl, a, c.append b⟩
theorem RlL.snoc {l : List D} {vs : List Value} {d : D} {v : Value} (a : RlL h X σ l vs) (b : Rl h X σ d v) : RlL h X σ (l ++ [d]) (vs ++ [v]) :=
  a.append ⟨v, [], rfl, b, rfl⟩
theorem RlL.get : ∀ {l : List D} {vs : List Value} {i : Nat} {d : D}, RlL h X σ l vs → l[i]? = some d → ∃ v, vs[i]? = some v ∧ Rl h X σ d v
  | [], _, _, _, _, q => by simp at q
  | _ :: _, _, 0, _, xx0, q => by
    obtain ⟨v, r, e, a, _⟩ := xx0
    cases e; simp at q; subst q; exact ⟨v, rfl, a⟩
  | _ :: _, _, i + 1, _, xx0, q => by
    obtain ⟨v, r, e, _, b⟩ := xx0
    cases e; simp at q; simpa using b.get q
theorem RlL.set : ∀ {l : List D} {vs : List Value} {i : Nat} {d : D} {v : Value}, RlL h X σ l vs → Rl h X σ d v → RlL h X σ (l.set i d) (vs.set i v)
  | [], _, _, _, _, e, _ => by cases e; rfl
  | _ :: _, _, 0, _, _, xx0, q => by
    obtain ⟨_, r, e, _, b⟩ := xx0
    cases e; exact ⟨_, r, rfl, q, b⟩
  | _ :: _, _, i + 1, _, _, xx0, q => by
    obtain ⟨v, r, e, a, b⟩ := xx0
    cases e; exact ⟨v, _, rfl, a, b.set q⟩
theorem RlL.take : ∀ {l : List D} {vs : List Value} (n : Nat), RlL h X σ l vs → RlL h X σ (l.take n) (vs.take n)
  | _, _, 0, _ => rfl
  | [], _, _ + 1, e => by cases e; rfl
  | _ :: _, _, n + 1, xx0 => by
    obtain ⟨v, r, e, a, b⟩ := xx0
    cases e; exact ⟨v, _, rfl, a, b.take n⟩
end
noncomputable def ObR (h : Heap) (X : List Addr) (σ : Hd) : Ob → Addr × Addr → Prop
  | .lst l, p => p.1 = p.2 ∧ ∃ vs, h.PlainList p.2 (List.toArray vs) ∧ RlL h X σ l vs
  | .inst c ns ds, p => p.1 ∉ X ∧ h.get? p.1 = some (W.instObj c p.2) ∧ ∃ es k, h.get? p.2 = some (W.dictOf es k) ∧ keysOk ns es ∧ RlL h X σ ds (es.map (·.val))
/-- the addresses that may change -/
abbrev Xs (Ls : List Addr) (σ : Hd) : List Addr := Ls ++ σ.map (·.2)
/-- the heap bears the store -/
structure HS (h₀ : Heap) (Ls : List Addr) (σ : Hd) (h : Heap) (st : Sto) : Prop where
  nd : (Xs Ls σ).Nodup
  al : ∀ a ∈ Ls, ∃ o, h.get? a = some o
  base : ∀ a o, h₀.get? a = some o → a ∉ Xs Ls σ ∧ h.get? a = some o
  len : σ.length = st.length
  ob : ∀ (i : Nat) (ob : Ob), st[i]? = some ob → ∃ p, σ[i]? = some p ∧ ObR h (Xs Ls σ) σ ob p
theorem ObR.alive {h : Heap} {X : List Addr} {σ : Hd} {ob : Ob} {p : Addr × Addr} (r : ObR h X σ ob p) : ∃ o, h.get? p.2 = some o := by
  cases ob with
  | lst l => obtain ⟨_, vs, ⟨_, ho⟩, _⟩ := r; exact ⟨_, ho⟩
  | inst c ns ds => obtain ⟨_, _, es, k, ho, _⟩ := r; exact ⟨_, ho⟩
theorem ObR.mono {h h' : Heap} {X X' : List Addr} {σ σ' : Hd} (H : Ext h X h' X') (S : Sub σ σ') {ob : Ob} {p : Addr × Addr} (k : ∀ o, h.get? p.2 = some o → h'.get? p.2 = some o)
    (r : ObR h X σ ob p) : ObR h' X' σ' ob p := by
  cases ob with
  | lst l => obtain ⟨e, vs, ⟨o, ho⟩, l⟩ := r; exact ⟨e, vs, ⟨o, k _ ho⟩, RlL.mono H S _ _ l⟩
  | inst c ns ds => obtain ⟨e, g, es, n, ho, ks, l⟩ := r; exact ⟨(H _ _ e g).1, (H _ _ e g).2, es, n, k _ ho, ks, RlL.mono H S _ _ l⟩
theorem HS.alive {h₀ : Heap} {Ls : List Addr} {σ : Hd} {h : Heap} {st : Sto} (S : HS h₀ Ls σ h st) : ∀ a ∈ Xs Ls σ, ∃ o, h.get? a = some o := by
  intro a ha
  rcases List.mem_append.mp ha with ha | ha
  · exact S.al a ha
  · obtain ⟨p, hp, rfl⟩ := List.mem_map.mp ha
    obtain ⟨i, hi⟩ := List.mem_iff_getElem?.mp hp
    have : i < st.length := by rw [← S.len]; exact (List.getElem?_eq_some_iff.mp hi).1
    obtain ⟨q, hq, r⟩ := S.ob i _ (List.getElem?_eq_getElem this)
    rw [hi] at hq; cases hq
    exact r.alive
theorem HS.fresh {h₀ : Heap} {Ls : List Addr} {σ : Hd} {h : Heap} {st : Sto} (S : HS h₀ Ls σ h st) {a : Addr} (ha : h.get? a = none) : a ∉ Xs Ls σ := fun q => by
  obtain ⟨o, ho⟩ := S.alive a q
  rw [ha] at ho; cases ho
theorem get_size (h : Heap) : h.get? h.objs.size = none := by
  cases q : h.get? h.objs.size with
  | none => rfl
  | some o => exact absurd (Heap.lt_size q) (Nat.lt_irrefl _)
/-- nothing is lost: only new objects -/
abbrev Kps (h h' : Heap) : Prop := ∀ a o, h.get? a = some o → h'.get? a = some o
theorem kps_push (h : Heap) (o : Obj) : Kps h (h.push o) := fun _ _ e => Heap.get?_push_of_some _ e
theorem kps_ext {h h' : Heap} (k : Kps h h') (X : List Addr) : Ext h X h' X := fun a o n e => ⟨n, k a o e⟩
theorem kps_extBut {h h' : Heap} (k : Heap.ExtBut h.objs.size h h') : Kps h h' := fun a o e => k a o (fun q => by rw [q, get_size] at e; cases e) e
theorem HS.grow {h₀ : Heap} {Ls : List Addr} {σ : Hd} {h h' : Heap} {st : Sto} (S : HS h₀ Ls σ h st) (k : Kps h h') : HS h₀ Ls σ h' st where
  nd := S.nd
  al := fun a ha => let ⟨o, ho⟩ := S.al a ha; ⟨o, k a o ho⟩
  base := fun a o e => ⟨(S.base a o e).1, k a o (S.base a o e).2⟩
  len := S.len
  ob := fun i ob e => let ⟨p, hp, r⟩ := S.ob i ob e; ⟨p, hp, r.mono (kps_ext k _) (fun _ _ q => q) fun o q => k _ o q⟩
theorem getElem?_append_some {α : Type} {l t : List α} {i : Nat} {a : α} (e : l[i]? = some a) : (l ++ t)[i]? = some a := by
  rw [List.getElem?_append_left (List.getElem?_eq_some_iff.mp e).1]; exact e
/-- a new thing that may be changed -/
theorem HS.make {h₀ : Heap} {Ls : List Addr} {σ : Hd} {h h' : Heap} {st : Sto} (S : HS h₀ Ls σ h st) (k : Kps h h') {p : Addr × Addr} {ob : Ob} (hn : h.get? p.2 = none) (r : ObR h' (Xs Ls (σ ++ [p])) (σ ++ [p]) ob p) :
    HS h₀ Ls (σ ++ [p]) h' (st ++ [ob]) ∧ Ext h (Xs Ls σ) h' (Xs Ls (σ ++ [p])) := by
  have hX : Xs Ls (σ ++ [p]) = Xs Ls σ ++ [p.2] := by simp [Xs]
  have E : Ext h (Xs Ls σ) h' (Xs Ls (σ ++ [p])) := by
    intro a o n e
    refine ⟨?_, k a o e⟩
    rw [hX]
    intro q
    rcases List.mem_append.mp q with q | q
    · exact n q
    · rw [List.mem_singleton.mp q, hn] at e; cases e
  refine ⟨⟨?_, fun a ha => let ⟨o, ho⟩ := S.al a ha; ⟨o, k a o ho⟩, fun a o e => ?_, by simp [S.len], fun i ob' e => ?_⟩, E⟩
  · rw [hX, List.nodup_append]
    refine ⟨S.nd, by simp, fun a ha b hb q => ?_⟩
    rw [List.mem_singleton.mp hb] at q
    subst q
    exact S.fresh hn ha
  · have B := S.base a o e
    exact E a o B.1 B.2
  · by_cases hi : i < st.length
    · rw [List.getElem?_append_left hi] at e
      obtain ⟨q, hq, r'⟩ := S.ob i ob' e
      exact ⟨q, getElem?_append_some hq, r'.mono E (fun _ _ z => getElem?_append_some z) fun o z => k _ o z⟩
    · have hi' : i = st.length := by
        have := (List.getElem?_eq_some_iff.mp e).1
        simp at this; first | lia | omega
      subst hi'
      simp at e
      subst e
      exact ⟨p, by simp [← S.len], r⟩
theorem nodup_getElem? {l : List Addr} (nd : l.Nodup) {i j : Nat} {a : Addr} (hi : l[i]? = some a) (hj : l[j]? = some a) : i = j := by
  obtain ⟨hi', e1⟩ := List.getElem?_eq_some_iff.mp hi
  obtain ⟨hj', e2⟩ := List.getElem?_eq_some_iff.mp hj
  rw [List.Nodup, List.pairwise_iff_getElem] at nd
  rcases Nat.lt_trichotomy i j with q | q | q
  · exact absurd (e1.trans e2.symm) (nd i j hi' hj' q)
  · exact q
  · exact absurd (e2.trans e1.symm) (nd j i hj' hi' q)
/-- a thing is changed -/
theorem HS.put {h₀ : Heap} {Ls : List Addr} {σ : Hd} {h h' : Heap} {st : Sto} (S : HS h₀ Ls σ h st) {i : Nat} {p : Addr × Addr} (hp : σ[i]? = some p) (k : ∀ a o, a ≠ p.2 → h.get? a = some o → h'.get? a = some o)
    {ob : Ob} (r : ObR h' (Xs Ls σ) σ ob p) : HS h₀ Ls σ h' (st.set i ob) ∧ Ext h (Xs Ls σ) h' (Xs Ls σ) ∧ ∀ a ∈ Ls, ∀ o, h.get? a = some o → h'.get? a = some o := by
  have hpm : p.2 ∈ σ.map (·.2) := List.mem_map.mpr ⟨p, List.mem_of_getElem? hp, rfl⟩
  have hpX : p.2 ∈ Xs Ls σ := List.mem_append.mpr (.inr hpm)
  have E : Ext h (Xs Ls σ) h' (Xs Ls σ) := fun a o n e => ⟨n, k a o (fun q => n (q ▸ hpX)) e⟩
  have nd := List.nodup_append.mp S.nd
  have KL : ∀ a ∈ Ls, ∀ o, h.get? a = some o → h'.get? a = some o := fun a ha o e => k a o (fun q => nd.2.2 a ha _ hpm q) e
  refine ⟨⟨S.nd, fun a ha => let ⟨o, ho⟩ := S.al a ha; ⟨o, KL a ha o ho⟩, fun a o e => E a o (S.base a o e).1 (S.base a o e).2, by simp [S.len], fun j ob' e => ?_⟩, E, KL⟩
  by_cases hj : i = j
  · subst hj
    have hi : i < st.length := by rw [← S.len]; exact (List.getElem?_eq_some_iff.mp hp).1
    rw [List.getElem?_set_self hi] at e
    cases e
    exact ⟨p, hp, r⟩
  · rw [List.getElem?_set_ne hj] at e
    obtain ⟨q, hq, r'⟩ := S.ob j ob' e
    refine ⟨q, hq, r'.mono E (fun _ _ z => z) fun o z => k _ o (fun w => hj ?_) z⟩
    have h1 : (σ.map (·.2))[i]? = some p.2 := by simp [hp]
    have h2 : (σ.map (·.2))[j]? = some p.2 := by simp [hq, w]
    exact nodup_getElem? nd.2.1 h1 h2
end Og
end
section
set_option tactic.hygienic false
namespace Og
open PySem
section
variable {h : Heap} {X X' : List Addr} {σ σ' : Hd} {r : Nat → Option D}
mutual
theorem fz_rl (E : Ext h X h X') (R : ∀ (i : Nat) (d' : D), r i = some d' → ∀ p, σ[i]? = some p → Rl h X' σ' d' (.ref p.1)) : ∀ (d d' : D) (v : Value), fz r d = some d' → Rl h X σ d v → Rl h X' σ' d' v
  | .none, _, _, q, x => by cases q; exact x
  | .bool _, _, _, q, x => by cases q; exact x
  | .int _, _, _, q, x => by cases q; exact x
  | .str _, _, _, q, x => by cases q; exact x
  | .rng _, _, _, q, xx => by
    obtain ⟨a, t, u, w, e, n, x, z⟩ := xx
    cases q; exact ⟨a, t, u, w, e, (E a _ n x).1, x, z⟩
  | .tup l, _, _, q, xx => by
    obtain ⟨a, vs, e, n, t, x⟩ := xx
    obtain ⟨l', q3, rfl⟩ := mapO q; replace q := q3
    exact ⟨a, vs, e, (isTuple_ext E n t).1, t, fzL_rl E R l l' vs q x⟩
  | .lst l, _, _, q, xx => by
    obtain ⟨a, vs, e, n, t, x⟩ := xx
    obtain ⟨l', q3, rfl⟩ := mapO q; replace q := q3
    exact ⟨a, vs, e, (isList_ext E n t).1, t, fzL_rl E R l l' vs q x⟩
  | .inst _ _ ds, _, _, q, xx => by
    obtain ⟨x, dx, es, k, e, n1, n2, g1, g2, ks, y⟩ := xx
    obtain ⟨l', q3, rfl⟩ := mapO q; replace q := q3
    exact ⟨x, dx, es, k, e, (E _ _ n1 g1).1, (E _ _ n2 g2).1, g1, g2, ks, fzL_rl E R ds l' _ q y⟩
  | .ptr i, _, _, q, xx => by
    obtain ⟨p, a, b⟩ := xx
    subst b; exact R i _ q p a
theorem fzL_rl (E : Ext h X h X') (R : ∀ (i : Nat) (d' : D), r i = some d' → ∀ p, σ[i]? = some p → Rl h X' σ' d' (.ref p.1)) : ∀ (l l' : List D) (vs : List Value), fzL r l = some l' → RlL h X σ l vs → RlL h X' σ' l' vs
  | [], _, _, q, x => by cases q; exact x
  | d :: ds, _, _, q, xx => by
    obtain ⟨v, u, e, a, b⟩ := xx
    refine bindE q fun d' q1 q => ?_
    obtain ⟨l', q2, rfl⟩ := mapO q
    exact ⟨v, u, e, fz_rl E R d d' v q1 a, fzL_rl E R ds l' u q2 b⟩
end
end
theorem fzSto_get {st : Sto} {n₀ : Nat} : ∀ {l l' : Sto}, fzSto st n₀ l = some l' → l'.length = l.length ∧ ∀ (i : Nat) (ob' : Ob), l'[i]? = some ob' → ∃ ob, l[i]? = some ob ∧ fzOb st n₀ ob = some ob'
  | [], _, q => by cases q; exact ⟨rfl, fun i ob' e => by simp at e⟩
  | o :: os, _, q => by
    refine bindE q fun o' q1 q => ?_
    obtain ⟨os', q2, rfl⟩ := mapO q
    obtain ⟨a, b⟩ := fzSto_get q2
    refine ⟨by simp [a], fun i ob' e => ?_⟩
    cases i with
    | zero => simp at e; subst e; exact ⟨o, rfl, q1⟩
    | succ i => simp at e; simpa using b i ob' e
theorem mem_take_xs {Ls : List Addr} {σ : Hd} {n : Nat} {a : Addr} (q : a ∈ Xs Ls (σ.take n)) : a ∈ Xs Ls σ := by
  rcases List.mem_append.mp q with q | q
  · exact List.mem_append.mpr (.inl q)
  · obtain ⟨p, hp, rfl⟩ := List.mem_map.mp q
    exact List.mem_append.mpr (.inr (List.mem_map.mpr ⟨p, List.mem_of_mem_take hp, rfl⟩))
theorem not_take_xs {Ls : List Addr} {σ : Hd} {n i : Nat} {p : Addr × Addr} (nd : (Xs Ls σ).Nodup) (hp : σ[i]? = some p) (hi : ¬ i < n) : p.2 ∉ Xs Ls (σ.take n) := by
  have nd' := List.nodup_append.mp nd
  intro q
  rcases List.mem_append.mp q with q | q
  · exact nd'.2.2 _ q _ (List.mem_map.mpr ⟨p, List.mem_of_getElem? hp, rfl⟩) rfl
  · obtain ⟨j, hj⟩ := List.mem_iff_getElem?.mp q
    have hj' : j < n := by
      have := (List.getElem?_eq_some_iff.mp hj).1
      simp at this; first | lia | omega
    have h1 : (σ.map (·.2))[i]? = some p.2 := by simp [hp]
    have h2 : (σ.map (·.2))[j]? = some p.2 := by
      rw [List.map_take, List.getElem?_take] at hj
      simpa [hj'] using hj
    have := nodup_getElem? nd'.2.1 h1 h2
    first | lia | omega
theorem ext_take {h : Heap} {Ls : List Addr} {σ : Hd} (n : Nat) : Ext h (Xs Ls σ) h (Xs Ls (σ.take n)) := fun u_ u_ m e => ⟨fun q => m (mem_take_xs q), e⟩
theorem rsv_rl {h₀ h : Heap} {Ls : List Addr} {σ : Hd} {st : Sto} (S : HS h₀ Ls σ h st) (n₀ : Nat) : ∀ (k i : Nat) (d' : D), rsv st n₀ k i = some d' → ∀ p, σ[i]? = some p → Rl h (Xs Ls (σ.take n₀)) (σ.take n₀) d' (.ref p.1)
  | 0, i, d', q, p, hp => by
    obtain ⟨hi, q⟩ := iteN q
    cases q
    exact ⟨p, by rw [List.getElem?_take, if_pos hi]; exact hp, rfl⟩
  | k + 1, i, d', q, p, hp => by
    refine iteE q (fun hi q => ?_) fun hi q => bindE q fun ob hl q => ?_
    · cases q
      exact ⟨p, by rw [List.getElem?_take, if_pos hi]; exact hp, rfl⟩
    have nX := not_take_xs S.nd hp hi
    cases ob with
    | lst l =>
      refine hide fun G kG => ?_
      obtain ⟨l', q1, rfl⟩ := mapO q
      obtain ⟨p', hp', e, vs, t, x⟩ := S.ob i _ hl
      refine kG ?_
      clear kG G
      rw [hp] at hp'; cases hp'
      exact ⟨p.1, vs, rfl, by rw [e]; exact nX, by rw [e]; exact t.isList, fzL_rl (ext_take n₀) (rsv_rl S n₀ k) l l' vs q1 x⟩
    | inst c ns ds =>
      refine hide fun G kG => ?_
      obtain ⟨l', q1, rfl⟩ := mapO q
      obtain ⟨p', hp', m, g, es, kk, t, ks, x⟩ := S.ob i _ hl
      refine kG ?_
      clear kG G
      rw [hp] at hp'; cases hp'
      exact ⟨p.1, p.2, es, kk, rfl, (ext_take n₀ _ _ m g).1, nX, g, t, ks, fzL_rl (ext_take n₀) (rsv_rl S n₀ k) ds l' _ q1 x⟩
/-- what was made behind the first n₀ things is plain data from now on -/
theorem HS.cut {h₀ h : Heap} {Ls : List Addr} {σ : Hd} {st st' : Sto} (S : HS h₀ Ls σ h st) (n₀ : Nat) (e : fzSto st n₀ (st.take n₀) = some st') :
    HS h₀ Ls (σ.take n₀) h st' ∧ ∀ d d' v, freeze st n₀ d = some d' → Rl h (Xs Ls σ) σ d v → Rl h (Xs Ls (σ.take n₀)) (σ.take n₀) d' v := by
  obtain ⟨hlen, hget⟩ := fzSto_get e
  refine ⟨⟨?_, S.al, fun a o q => ⟨fun m => (S.base a o q).1 (mem_take_xs m), (S.base a o q).2⟩, by rw [hlen]; simp [S.len], fun i ob' q => ?_⟩, fun d d' v q x => fz_rl (ext_take n₀) (rsv_rl S n₀ 4) d d' v q x⟩
  · refine List.Nodup.sublist ?_ S.nd
    exact (List.Sublist.refl Ls).append ((List.take_sublist _ _).map _)
  · obtain ⟨ob, hob, hfz⟩ := hget i ob' q
    rw [List.getElem?_take] at hob
    split at hob
    · rename_i hi
      obtain ⟨p, hp, x⟩ := S.ob i ob hob
      refine ⟨p, by rw [List.getElem?_take, if_pos hi]; exact hp, ?_⟩
      cases ob with
      | lst l =>
        obtain ⟨l', h3, rfl⟩ := mapO hfz; replace hfz := h3
        obtain ⟨e1, vs, t, x⟩ := x
        exact ⟨e1, vs, t, fzL_rl (ext_take n₀) (rsv_rl S n₀ 4) l l' vs hfz x⟩
      | inst c ns ds =>
        refine hide fun G kG => ?_
        obtain ⟨l', h3, rfl⟩ := mapO hfz; replace hfz := h3
        obtain ⟨m, g, es, k, t, ks, x⟩ := x
        refine kG ?_
        clear kG G
        exact ⟨(ext_take n₀ _ _ m g).1, g, es, k, t, ks, fzL_rl (ext_take n₀) (rsv_rl S n₀ 4) ds l' _ hfz x⟩
    · cases hob
end Og
end
section
set_option genSizeOf false
set_option tactic.hygienic false
namespace Og
open PySem PySem.W
/-- what the built-in names stand for -/
noncomputable def bkV : Bk → Value
  | .len => .builtin "len"
  | .int => .type "int"
  | .str => .type "str"
  | .max => .builtin "max"
  | .chr => .builtin "chr"
  | .ord => .builtin "ord"
  | .sum => .builtin "sum"
  | .tuple => .type "tuple"
  | .range => .type "range"
noncomputable def biVal (x : Str) : Option Value := (biTab.lookup x).map bkV
structure FnOk (h₀ : Heap) (f : Addr) (fn : Fn) (fd : FuncData) : Prop where
  obj : ∃ o, h₀.get? f = some o ∧ o.data = .func fd
  body : fd.body = .stmts fn.body
  scope : fd.scope = fn.scope
  code : h₀.CodeRec fd.code fd.qualname
  glob : fd.globals = mainGlobals
  bi : fd.builtins = builtinsNs
  bind : ∀ (s : Shared) (vs : List Value), vs.length = fn.params.length → BindsTo s fd ⟨vs, []⟩ (fn.params.zip vs)
  loc : ∀ x ∈ fn.params, fn.scope.names.lookup x = some .local
  nodup : fn.params.Nodup
  kind : fn.scope.kind = .function
  cell : ∀ x ∈ fn.scope.names, x.2 ≠ .cell
  co : fn.scope.isCoroutine = false
  gen : fn.scope.isGenerator = false
/-- the ground that a call stands on: the text's own functions, classes and names -/
structure Bed (w : World) (T : Tab) (K : Frag) (h₀ : Heap) (mg mb : Str → Option Value) : Prop where
  X : K.In h₀
  g : h₀.Ns mainGlobals mg
  b : h₀.Ns builtinsNs mb
  lim : h₀.NoLimit
  val : ∀ x d, T.glob x = some (.val d) → ∃ v, mg x = some v ∧ ∀ h X σ, Rl h X σ d v
  fn : ∀ x f, T.glob x = some (.fn f) → mg x = some (.ref f) ∧ keepIn K (.ref f) = true
  cls : ∀ x c i k, T.glob x = some (.cls c i k) → mg x = some (.ref c) ∧ keepIn K (.ref c) = true ∧ makesIn K c = true ∧ findIn K (.ref c) "__init__" = some (some (.ref i)) ∧ typeIn K (.ref i) = some (.type "function")
  bi : ∀ x, T.glob x = some .bi → mg x = none ∧ ∃ v, biVal x = some v ∧ mb x = some v
  fnObj : ∀ f fn, T.fn f = some fn → ∃ fd, FnOk h₀ f fn fd
  meth : ∀ c m f, T.meth c m = some f → plainGet K c m = true ∧ findIn K (.ref c) m = some (some (.ref f)) ∧ typeIn K (.ref f) = some (.type "function") ∧ keepIn K (.ref f) = true
  attr : ∀ c a, (T.attr c).contains a = true → plainGet K c a = true ∧ hasDictIn K c = true ∧ findIn K (.ref c) a = some none ∧
    findIn K (.ref c) "__setattr__" = some (some (.builtin "object.__setattr__")) ∧ plainOver K c = true ∧ takerIn K c a = some none
structure EnvOk (env : Env) (sc : Scope) : Prop where
  scope : env.scope = sc
  kind : sc.kind = .function
  glob : env.globals = mainGlobals
  bi : env.builtins = builtinsNs
/-- room for n calls deeper -/
noncomputable def AOk (n : Nat) (A : Around) : Prop := A.handled = none ∧ A.depth + 3 * n + 3 < recursionLimit ∧ A.units + 20 * n + 110 < cLine
/-- a step of the run: from s to s' -/
structure Stp (h₀ : Heap) (Ls : List Addr) (σ : Hd) (s : Shared) (σ' : Hd) (s' : Shared) (st' : Sto) : Prop where
  same : ∃ h' tk, s' = { s with heap := h', toks := tk }
  hs : HS h₀ Ls σ' s'.heap st'
  pre : ∃ τ, σ' = σ ++ τ
  ext : Ext s.heap (Xs Ls σ) s'.heap (Xs Ls σ')
  kept : ∀ a ∈ Ls, ∀ o, s.heap.get? a = some o → s'.heap.get? a = some o
theorem Stp.sub {h₀ : Heap} {Ls : List Addr} {σ σ' : Hd} {s s' : Shared} {st' : Sto} (p : Stp h₀ Ls σ s σ' s' st') : Sub σ σ' := fun i q e => by
  obtain ⟨τ, rfl⟩ := p.pre
  exact getElem?_append_some e
theorem Stp.trans {h₀ : Heap} {Ls : List Addr} {σ σ' σ'' : Hd} {s s' s'' : Shared} {st' st'' : Sto} (p : Stp h₀ Ls σ s σ' s' st') (q : Stp h₀ Ls σ' s' σ'' s'' st'') : Stp h₀ Ls σ s σ'' s'' st'' where
  same := by
    obtain ⟨h', tk, rfl⟩ := p.same
    obtain ⟨h'', tk', rfl⟩ := q.same
    exact ⟨h'', tk', rfl⟩
  hs := q.hs
  pre := by
    obtain ⟨τ, rfl⟩ := p.pre
    obtain ⟨τ', rfl⟩ := q.pre
    exact ⟨τ ++ τ', List.append_assoc ..⟩
  ext := p.ext.trans q.ext
  kept := fun a ha o e => q.kept a ha o (p.kept a ha o e)
theorem Stp.toks {h₀ : Heap} {Ls : List Addr} {σ : Hd} {s : Shared} {st : Sto} (S : HS h₀ Ls σ s.heap st) (t : Nat) : Stp h₀ Ls σ s σ { s with toks := t } st :=
  ⟨⟨s.heap, t, rfl⟩, S, ⟨[], by simp⟩, Ext.refl _ _, fun u_ u_ u_ e => e⟩
theorem Stp.refl {h₀ : Heap} {Ls : List Addr} {σ : Hd} {s : Shared} {st : Sto} (S : HS h₀ Ls σ s.heap st) : Stp h₀ Ls σ s σ s st := Stp.toks S s.toks
theorem Stp.grow {h₀ : Heap} {Ls : List Addr} {σ : Hd} {s : Shared} {st : Sto} (S : HS h₀ Ls σ s.heap st) {h' : Heap} (t : Nat) (k : Kps s.heap h') : Stp h₀ Ls σ s σ { s with heap := h', toks := t } st :=
  ⟨⟨h', t, rfl⟩, S.grow k, ⟨[], by simp⟩, kps_ext k _, fun u_ u_ u_ e => k _ _ e⟩
/-- a value carried over a step -/
theorem Stp.rl {h₀ : Heap} {Ls : List Addr} {σ σ' : Hd} {s s' : Shared} {st' : Sto} (p : Stp h₀ Ls σ s σ' s' st') {d : D} {v : Value} (r : Rl s.heap (Xs Ls σ) σ d v) : Rl s'.heap (Xs Ls σ') σ' d v := Rl.mono p.ext p.sub d v r
theorem Stp.rlL {h₀ : Heap} {Ls : List Addr} {σ σ' : Hd} {s s' : Shared} {st' : Sto} (p : Stp h₀ Ls σ s σ' s' st') {l : List D} {vs : List Value} (r : RlL s.heap (Xs Ls σ) σ l vs) : RlL s'.heap (Xs Ls σ') σ' l vs := RlL.mono p.ext p.sub l vs r
/-- the frame's names -/
structure FR (Ls : List Addr) (σ : Hd) (h : Heap) (env : Env) (sc : Scope) (vs : Vars) : Prop where
  loc : env.locals ∈ Ls
  ns : ∃ m, h.Ns env.locals m ∧ ∀ x d, vs.lookup x = some d → sc.names.lookup x = some .local → ∃ v, m x = some v ∧ Rl h (Xs Ls σ) σ d v
  cl : ∀ x d, vs.lookup x = some d → sc.names.lookup x = some .cell → ∃ c v, env.cells.lookup x = some c ∧ c ∈ Ls ∧ h.IsCell c (some v) ∧ Rl h (Xs Ls σ) σ d v
theorem FR.step {h₀ : Heap} {Ls : List Addr} {σ σ' : Hd} {s s' : Shared} {st' : Sto} {env : Env} {sc : Scope} {vs : Vars} (f : FR Ls σ s.heap env sc vs) (p : Stp h₀ Ls σ s σ' s' st') : FR Ls σ' s'.heap env sc vs where
  loc := f.loc
  ns := by
    obtain ⟨m, hn, hv⟩ := f.ns
    refine ⟨m, hn.at' fun o e => p.kept _ f.loc o e, fun x d e k => ?_⟩
    obtain ⟨v, h1, h2⟩ := hv x d e k
    exact ⟨v, h1, p.rl h2⟩
  cl := fun x d e k => by
    refine hide fun G kG => ?_
    obtain ⟨c, v, h1, h2, ⟨o, ho, hd⟩, h3⟩ := f.cl x d e k
    refine kG ?_
    clear kG G
    exact ⟨c, v, h1, h2, ⟨o, p.kept c h2 o ho, hd⟩, p.rl h3⟩
abbrev Bot : Value → Shared → Prop := fun _ _ => False
/-- what an expression's tree ends with -/
abbrev PV (h₀ : Heap) (Ls : List Addr) (σ : Hd) (s : Shared) (st' : Sto) (d : D) : Value → Shared → Prop :=
  fun v s' => ∃ σ', Stp h₀ Ls σ s σ' s' st' ∧ Rl s'.heap (Xs Ls σ') σ' d v
abbrev PB (h₀ : Heap) (Ls : List Addr) (σ : Hd) (s : Shared) (st' : Sto) (b : Bool) : Bool → Shared → Prop :=
  fun c s' => c = b ∧ ∃ σ', Stp h₀ Ls σ s σ' s' st'
abbrev PL (h₀ : Heap) (Ls : List Addr) (σ : Hd) (s : Shared) (st' : Sto) (l : List D) : List Value → Shared → Prop :=
  fun vs s' => ∃ σ', Stp h₀ Ls σ s σ' s' st' ∧ RlL s'.heap (Xs Ls σ') σ' l vs
section
variable (prog : Program) (w : World) (T : Tab) (K : Frag) (h₀ : Heap) (n : Nat) (cf : CF)
/-- calls are sound -/
noncomputable def CFok : Prop := ∀ f ds st d st', cf f ds st = some (d, st') → ∀ (A : Around), A.handled = none → A.depth + 3 * n + 1 < recursionLimit → A.units + 20 * n + 100 < cLine →
  ∀ Ls σ (s : Shared) vs, HS h₀ Ls σ s.heap st → RlL s.heap (Xs Ls σ) σ ds vs →
    codeAny (model prog w) A (.call (.ref f) ⟨vs, []⟩) (fun r s' => ∃ v, r = .ok (.ret v) ∧ PV h₀ Ls σ s st' d v s') s
noncomputable def SE (e : Expr) : Prop := ∀ (A : Around) env sc vs st d st' Ls σ (s : Shared), AOk n A → EnvOk env sc → ev T cf e sc vs st = some (d, st') → HS h₀ Ls σ s.heap st → FR Ls σ s.heap env sc vs →
  wpAny (model prog w) A (eval e env) (PV h₀ Ls σ s st' d) Bot s
noncomputable def SO (e : Option Expr) : Prop := ∀ (A : Around) env sc vs st d st' Ls σ (s : Shared), AOk n A → EnvOk env sc → evO T cf e sc vs st = some (d, st') → HS h₀ Ls σ s.heap st → FR Ls σ s.heap env sc vs →
  wpAny (model prog w) A (evalPart e env) (PV h₀ Ls σ s st' d) Bot s
noncomputable def SL (es : List Expr) : Prop := ∀ (A : Around) env sc vs st l st' Ls σ (s : Shared) pos, AOk n A → EnvOk env sc → evs T cf es sc vs st = some (l, st') → HS h₀ Ls σ s.heap st → FR Ls σ s.heap env sc vs →
  wpAny (model prog w) A (spliced (backTo pos (starEach es env))) (PL h₀ Ls σ s st' l) Bot s
noncomputable def ST (e : Expr) : Prop := ∀ (A : Around) env sc vs st b st' Ls σ (s : Shared), AOk n A → EnvOk env sc → evT T cf e (ev T cf e) sc vs st = some (b, st') → HS h₀ Ls σ s.heap st → FR Ls σ s.heap env sc vs →
  wpAny (model prog w) A (isTrue e env (eval e env)) (PB h₀ Ls σ s st' b) Bot s
noncomputable def STs (op : BoolOp) (es : List Expr) : Prop := ∀ (A : Around) env sc vs st b st' Ls σ (s : Shared), AOk n A → EnvOk env sc → evTs T cf op es sc vs st = some (b, st') → HS h₀ Ls σ s.heap st → FR Ls σ s.heap env sc vs →
  wpAny (model prog w) A (allTrue op es env) (PB h₀ Ls σ s st' b) Bot s
noncomputable def SB (op : BoolOp) (es : List Expr) : Prop := ∀ (A : Around) env sc vs st d st' Ls σ (s : Shared) pos, AOk n A → EnvOk env sc → evB T cf op es sc vs st = some (d, st') → HS h₀ Ls σ s.heap st → FR Ls σ s.heap env sc vs →
  wpAny (model prog w) A (boolOp pos op (evalEach es env)) (PV h₀ Ls σ s st' d) Bot s
end
section
variable {prog : Program} {w : World} {T : Tab} {K : Frag} {h₀ : Heap} {n : Nat} {cf : CF} {mg mb : Str → Option Value}
theorem se_const (c k pos) : SE prog w T h₀ n cf (.Constant c k pos) := by
  intro A env sc vs st d st' Ls σ s hA hE e S F
  obtain ⟨d', hd, q⟩ := mapO e
  cases q
  cases c <;> cases hd
  · exact wpAny_Constant_none ⟨σ, Stp.refl S, rfl⟩
  · exact wpAny_Constant_bool ⟨σ, Stp.refl S, rfl⟩
  · exact wpAny_Constant_int ⟨σ, Stp.toks S _, _, rfl⟩
  · exact wpAny_Constant_str ⟨σ, Stp.toks S _, _, rfl⟩
theorem kindOf_eq {env : Env} {sc : Scope} (hE : EnvOk env sc) (x : Str) : env.kindOf x = sc.names.lookup x := by rw [← hE.scope]; rfl
theorem load_global {A : Around} {env : Env} {sc : Scope} {s : Shared} {x : Str} {pos : Pos} {v : Value} {Q : Value → Shared → Prop} {st : Sto} {Ls : List Addr} {σ : Hd}
    (Gd : Bed w T K h₀ mg mb) (hE : EnvOk env sc) (S : HS h₀ Ls σ s.heap st) (hk : sc.names.lookup x = some .globalImplicit) (hd : (x == ("__debug__" : Str)) = false) (hv : mg x = some v) (h : Q v s) :
    wpAny (model prog w) A (eval (.Name x pos) env) Q Bot s :=
  Calls.Name_function_global (by rw [hE.scope]; exact hE.kind) (by rw [kindOf_eq hE]; exact hk) (Calls.loadGlobal_global (by rw [hE.glob]; exact Gd.g.keeps fun a o e => (S.base a o e).2) hv h) hd
theorem load_builtin {A : Around} {env : Env} {sc : Scope} {s : Shared} {x : Str} {pos : Pos} {v : Value} {Q : Value → Shared → Prop} {st : Sto} {Ls : List Addr} {σ : Hd}
    (Gd : Bed w T K h₀ mg mb) (hE : EnvOk env sc) (S : HS h₀ Ls σ s.heap st) (hk : sc.names.lookup x = some .globalImplicit) (hd : (x == ("__debug__" : Str)) = false) (hn : mg x = none) (hv : mb x = some v) (h : Q v s) :
    wpAny (model prog w) A (eval (.Name x pos) env) Q Bot s :=
  Calls.Name_function_global (by rw [hE.scope]; exact hE.kind) (by rw [kindOf_eq hE]; exact hk) (Calls.loadGlobal_builtin (by rw [hE.glob]; exact Gd.g.keeps fun a o e => (S.base a o e).2) hn (by rw [hE.bi]; exact Gd.b.keeps fun a o e => (S.base a o e).2) hv h) hd
set_option tactic.hygienic true in
theorem se_name (Gd : Bed w T K h₀ mg mb) (x pos) : SE prog w T h₀ n cf (.Name x pos) := by
  intro A env sc vs st d st' Ls σ s hA hE e S F
  simp only [iv_const, iv_name, iv_boolop, iv_binop, iv_not, iv_neg, iv_ifexp, iv_list, iv_tuple, iv_cmp1, iv_cmp2, iv_callN, iv_callA, iv_attr, iv_slice, iv_comp1] at e
  split at e
  · cases e
  · rename_i hx
    have hx' : (x == ("__debug__" : Str)) = false := by simpa using hx
    split at e
    · rename_i hk
      obtain ⟨d', hd, q⟩ := mapO e
      cases q
      obtain ⟨m, hn, hv⟩ := F.ns
      obtain ⟨v, h1, h2⟩ := hv x _ hd hk
      exact wpAny_Name (wpAny_loadName_local (by rw [hE.scope]; exact hE.kind) (by rw [kindOf_eq hE]; exact hk) hn h1 ⟨σ, Stp.refl S, h2⟩) hx'
    · rename_i hk
      obtain ⟨d', hd, q⟩ := mapO e
      cases q
      obtain ⟨c, v, h1, h2, h3, h4⟩ := F.cl x _ hd hk
      exact wpAny_Name (wpAny_loadName_cell (by rw [hE.scope]; exact hE.kind) (by rw [kindOf_eq hE]; exact hk) h1 h3 ⟨σ, Stp.refl S, h4⟩) hx'
    · rename_i hk
      split at e
      · rename_i d' hg
        cases e
        obtain ⟨v, hv, hr⟩ := Gd.val x _ hg
        exact load_global Gd hE S hk hx' hv ⟨σ, Stp.refl S, hr _ _ _⟩
      · cases e
    · cases e
/-- one behind the other -/
theorem pv_bind {A : Around} {t : Sem Value} {Ls : List Addr} {σ : Hd} {s : Shared} {st : Sto} {a : D} {Q : Value → Shared → Prop} (h : wpAny (model prog w) A t (PV h₀ Ls σ s st a) Bot s)
    (k : ∀ v s₁ σ₁, Stp h₀ Ls σ s σ₁ s₁ st → Rl s₁.heap (Xs Ls σ₁) σ₁ a v → Q v s₁) : wpAny (model prog w) A t Q Bot s :=
  wpAny_mono h (fun v s₁ ⟨σ₁, p, r⟩ => k v s₁ σ₁ p r) fun u_ u_ x => x
theorem pv_step {Ls : List Addr} {σ σ₁ : Hd} {s s₁ s₂ : Shared} {st₁ st' : Sto} {d : D} {v : Value} (p : Stp h₀ Ls σ s σ₁ s₁ st₁) (q : PV h₀ Ls σ₁ s₁ st' d v s₂) : PV h₀ Ls σ s st' d v s₂ :=
  let ⟨σ₂, q1, q2⟩ := q; ⟨σ₂, p.trans q1, q2⟩
theorem pb_step {Ls : List Addr} {σ σ₁ : Hd} {s s₁ s₂ : Shared} {st₁ st' : Sto} {b c : Bool} (p : Stp h₀ Ls σ s σ₁ s₁ st₁) (q : PB h₀ Ls σ₁ s₁ st' b c s₂) : PB h₀ Ls σ s st' b c s₂ :=
  let ⟨e, σ₂, q1⟩ := q; ⟨e, σ₂, p.trans q1⟩
theorem wp_pv {A : Around} {t : Sem Value} {Ls : List Addr} {σ σ₁ : Hd} {s s₁ : Shared} {st₁ st' : Sto} {d : D} (p : Stp h₀ Ls σ s σ₁ s₁ st₁) (h : wpAny (model prog w) A t (PV h₀ Ls σ₁ s₁ st' d) Bot s₁) :
    wpAny (model prog w) A t (PV h₀ Ls σ s st' d) Bot s₁ := wpAny_mono h (fun u_ u_ q => pv_step p q) fun u_ u_ x => x
theorem wp_pb {A : Around} {t : Sem Bool} {Ls : List Addr} {σ σ₁ : Hd} {s s₁ : Shared} {st₁ st' : Sto} {b : Bool} (p : Stp h₀ Ls σ s σ₁ s₁ st₁) (h : wpAny (model prog w) A t (PB h₀ Ls σ₁ s₁ st' b) Bot s₁) :
    wpAny (model prog w) A t (PB h₀ Ls σ s st' b) Bot s₁ := wpAny_mono h (fun u_ u_ q => pb_step p q) fun u_ u_ x => x
theorem se_ifexp {t b o : Expr} (pos) (ht : ST prog w T h₀ n cf t) (hb : SE prog w T h₀ n cf b) (ho : SE prog w T h₀ n cf o) : SE prog w T h₀ n cf (.IfExp t b o pos) := by
  intro A env sc vs st d st' Ls σ s hA hE e S F
  refine bindP e fun c st₁ h1 e => ?_
  refine wpAny_IfExp (wpAny_mono (ht A env sc vs st c st₁ Ls σ s hA hE h1 S F) (fun c' s₁ q => ?_) fun u_ u_ x => x)
  obtain ⟨rfl, σ₁, p⟩ := q
  dsimp only at e
  cases c' with
  | true => exact wp_pv p (hb A env sc vs st₁ d st' Ls σ₁ s₁ hA hE (by simpa using e) p.hs (F.step p))
  | false => exact wp_pv p (ho A env sc vs st₁ d st' Ls σ₁ s₁ hA hE (by simpa using e) p.hs (F.step p))
theorem sl_nil : SL prog w T h₀ n cf [] := by
  intro A env sc vs st l st' Ls σ s pos hA hE e S F
  cases e
  exact wpAny_items_nil ⟨σ, Stp.refl S, rfl⟩
theorem starEach_plain {e : Expr} (h : ∀ x p, e ≠ .Starred x p) (rest : List Expr) (env : Env) : starEach (e :: rest) env = (false, eval e env) :: starEach rest env := by
  cases e <;> first | rfl | exact absurd rfl (h _ _)
theorem ev_starred {x : Expr} {p : Pos} {sc : Scope} {vs : Vars} {st : Sto} : ev T cf (.Starred x p) sc vs st = none := rfl
theorem sl_cons {e : Expr} {es : List Expr} (he : SE prog w T h₀ n cf e) (hes : SL prog w T h₀ n cf es) : SL prog w T h₀ n cf (e :: es) := by
  intro A env sc vs st l st' Ls σ s pos hA hE q S F
  refine bindP q fun a st₁ h1 q => ?_
  obtain ⟨⟨l', st₂⟩, h2, q⟩ := mapO q
  dsimp only at h2 q
  cases q
  refine wpAny_items_cons (pv_bind (he A env sc vs st a st₁ Ls σ s hA hE h1 S F) fun v s₁ σ₁ p r => ?_) (starEach_plain (fun x p c => by subst c; rw [ev_starred] at h1; cases h1) _ _)
  refine wpAny_mono (hes A env sc vs st₁ l' _ Ls σ₁ s₁ pos hA hE h2 p.hs (F.step p)) (fun us s₂ q => ?_) fun u_ u_ x => x
  obtain ⟨σ₂, p₂, r₂⟩ := q
  exact ⟨σ₂, p.trans p₂, v, us, rfl, p₂.rl r, r₂⟩
end
end Og
end
section
set_option tactic.hygienic false
namespace Og
open PySem PySem.W PyProof.Rows PySem.MeetsSeq
section
variable {prog : Program} {w : World} {A : Around} {s : Shared}
theorem lists_add {E : Value → Shared → Prop} {l b : Addr} {vs ws : List Value} {Q : Value → Shared → Prop} (hl : s.heap.IsList l vs.toArray) (hb : s.heap.IsList b ws.toArray)
    (h : Q (.ref s.heap.objs.size) { s with heap := s.heap.push { cls := .type "list", data := .seq (vs ++ ws).toArray } }) (hsz : vs.length + ws.length ≤ sizeLine) :
    wpAny (model prog w) A (binaryOp .Add (.ref l) (.ref b)) Q E s := by
  refine hide fun G kG => ?_
  obtain ⟨⟨c1, d1, x1, s1⟩, ho, hc, n, hd⟩ := id hl
  obtain ⟨⟨c2, d2, x2, s2⟩, ho2, hc2, n2, hd2⟩ := id hb
  refine kG ?_
  clear kG G
  simp only at hc hd hc2 hd2
  subst hc hd hc2 hd2
  have e : vs.toArray ++ ws.toArray = (vs ++ ws).toArray := by simp
  refine concat_meets ⟨_, ho, rfl⟩ ⟨_, ho2, rfl⟩ noFill_list_add seq_list_add PySem.F.slot_list_add PySem.F.entry_list_add (PySem.F.args_list_add_2 _ _)
    (list_addW l b vs.toArray ws.toArray n n2 d1 d2 s1 s2 (by simpa using hsz)) ⟨ho, ho2, ?_⟩
  rw [e]; exact h
theorem list_times {E : Value → Shared → Prop} {l : Addr} {vs : List Value} {x : Int} {u : Tok} {Q : Value → Shared → Prop} (hl : s.heap.IsList l vs.toArray) (h0 : 0 ≤ x) (h1 : x ≤ 10000) (hsz : vs.length ≤ 10)
    (h : Q (.ref s.heap.objs.size) { s with heap := s.heap.push { cls := .type "list", data := .seq (List.foldl (fun x1 x2 => x1 ++ x2) #[] (List.replicate (if vs.toArray.isEmpty = true then 0 else x.toNat) vs.toArray)) } }) :
    wpAny (model prog w) A (binaryOp .Mult (.ref l) (.int x u)) Q E s := by
  refine hide fun G kG => ?_
  obtain ⟨⟨c1, d1, x1, s1⟩, ho, hc, k, hd⟩ := id hl
  refine kG ?_
  clear kG G
  simp only at hc hd
  subst hc hd
  have hz : vs.toArray.size * x.toNat ≤ 2 ^ 24 := by
    have : vs.length * x.toNat ≤ 10 * 10000 := Nat.mul_le_mul hsz (by first | exact Nat.le_trans (by assumption) (Nat.le_of_ble_eq_true rfl) | lia | omega)
    rw [List.size_toArray]; first | exact Nat.le_trans (by assumption) (Nat.le_of_ble_eq_true rfl) | lia | omega
  refine wpAny_binaryOp_repeat_ref (T := "list") (U := "int") (by decide) ⟨_, ho, rfl⟩ (fun s' => typeIs_int s' x u) noFill_list_mul PySem.F.fills_int_mul PySem.F.slot_int_rmul repeat_list PySem.F.slot_int_index.lookup
    (call_meets PySem.F.slot_int_rmul (typeIs_int s x u) PySem.F.entry_int_rmul (PySem.F.args_int_rmul_2 _ _) (lm_int_rmul_list_any x u l vs.toArray k d1 s1)
      ⟨ho, rfl, ⟨_, ho, rfl⟩, call_meets PySem.F.slot_list_mul ⟨_, ho, rfl⟩ PySem.F.entry_list_mul (PySem.F.args_list_mul_2 _ _)
        (lm_list_mul_any l vs.toArray k d1 s1 x u (by simp [Builtin.List.listFitsIndex]; first | exact Nat.le_trans (by assumption) (Nat.le_of_ble_eq_true rfl) | lia | omega) (by first | exact Nat.le_trans (by assumption) (Nat.le_of_ble_eq_true rfl) | lia | omega) (by simp [Builtin.List.listTooLong, sizeLine]; first | exact Nat.le_trans (by assumption) (Nat.le_of_ble_eq_true rfl) | lia | omega))
        ⟨ho, h⟩⟩)
end
section
variable {h : Heap} {X : List Addr} {σ : Hd}
theorem rlL_reps {l : List D} {vs : List Value} (r : RlL h X σ l vs) : ∀ n, RlL h X σ (reps l n) (List.replicate n vs).flatten
  | 0 => rfl
  | n + 1 => r.append (rlL_reps r n)
theorem foldl_app (vs : List Value) : ∀ (n : Nat) (acc : Array Value), List.foldl (fun x1 x2 => x1 ++ x2) acc (List.replicate n vs.toArray) = acc ++ (List.replicate n vs).flatten.toArray
  | 0, acc => by simp
  | n + 1, acc => by rw [List.replicate_succ, List.foldl_cons, foldl_app vs n, List.replicate_succ, List.flatten_cons]; simp
end
/-- a list, met as a value -/
theorem lst_rl {h₀ h : Heap} {Ls : List Addr} {σ : Hd} {st : Sto} (S : HS h₀ Ls σ h st) {d : D} {v : Value} {l : List D} (e : lstOf st d = some l) (r : Rl h (Xs Ls σ) σ d v) :
    ∃ a vs, v = .ref a ∧ h.IsList a (List.toArray vs) ∧ RlL h (Xs Ls σ) σ l vs := by
  cases d with
  | lst l' => cases e; obtain ⟨a, vs, e, _, t, x⟩ := r; exact ⟨a, vs, e, t, x⟩
  | ptr i =>
    refine bindE e fun o hl e => ?_
    cases obLE e
    refine hide fun G kG => ?_
    obtain ⟨p, hp, rfl⟩ := r
    obtain ⟨p', hp', e1, vs, t, x⟩ := S.ob i _ hl
    refine kG ?_
    clear kG G
    rw [hp] at hp'; cases hp'
    exact ⟨p.1, vs, rfl, by rw [e1]; exact t.isList, x⟩
  | _ => cases e
/-- a new frozen list or tuple -/
theorem new_list {h₀ : Heap} {Ls : List Addr} {σ : Hd} {s : Shared} {st : Sto} (S : HS h₀ Ls σ s.heap st) {l : List D} {vs : List Value} (r : RlL s.heap (Xs Ls σ) σ l vs) (t : Nat) :
    PV h₀ Ls σ s st (.lst l) (.ref s.heap.objs.size) { s with heap := s.heap.push { cls := .type "list", data := .seq vs.toArray }, toks := t } := by
  have k := kps_push s.heap { cls := .type "list", data := .seq vs.toArray }
  exact ⟨σ, Stp.grow S t k, _, vs, rfl, S.fresh (get_size _), ⟨_, Heap.get?_push_size _ rfl, rfl, 0, rfl⟩, RlL.mono (kps_ext k _) (fun u_ u_ e => e) l vs r⟩
theorem new_tuple {h₀ : Heap} {Ls : List Addr} {σ : Hd} {s : Shared} {st : Sto} (S : HS h₀ Ls σ s.heap st) {l : List D} {vs : List Value} (r : RlL s.heap (Xs Ls σ) σ l vs) (t : Nat) :
    PV h₀ Ls σ s st (.tup l) (.ref s.heap.objs.size) { s with heap := s.heap.push { cls := .type "tuple", data := .seq vs.toArray }, toks := t } := by
  have k := kps_push s.heap { cls := .type "tuple", data := .seq vs.toArray }
  exact ⟨σ, Stp.grow S t k, _, vs, rfl, S.fresh (get_size _), ⟨_, Heap.get?_push_size _ rfl, rfl, 0, rfl⟩, RlL.mono (kps_ext k _) (fun u_ u_ e => e) l vs r⟩
/-- a new list that may be changed -/
theorem new_ptr {h₀ : Heap} {Ls : List Addr} {σ : Hd} {s : Shared} {st : Sto} (S : HS h₀ Ls σ s.heap st) {l : List D} {vs : List Value} (r : RlL s.heap (Xs Ls σ) σ l vs) (t : Nat) :
    PV h₀ Ls σ s (st ++ [.lst l]) (.ptr st.length) (.ref s.heap.objs.size) { s with heap := s.heap.push { cls := .type "list", data := .seq vs.toArray }, toks := t } := by
  have k := kps_push s.heap { cls := .type "list", data := .seq vs.toArray }
  have E : Ext s.heap (Xs Ls σ) (s.heap.push { cls := .type "list", data := .seq vs.toArray }) (Xs Ls (σ ++ [(s.heap.objs.size, s.heap.objs.size)])) := by
    intro a o n e
    refine ⟨?_, k a o e⟩
    intro q
    have : Xs Ls (σ ++ [(s.heap.objs.size, s.heap.objs.size)]) = Xs Ls σ ++ [s.heap.objs.size] := by simp [Xs]
    rw [this] at q
    rcases List.mem_append.mp q with q | q
    · exact n q
    · rw [List.mem_singleton.mp q, get_size] at e; cases e
  obtain ⟨S', E'⟩ := S.make k (p := (s.heap.objs.size, s.heap.objs.size)) (ob := .lst l) (get_size _)
    ⟨rfl, vs, ⟨0, Heap.get?_push_size _ rfl⟩, RlL.mono E (fun u_ u_ e => getElem?_append_some e) l vs r⟩
  exact ⟨_, ⟨⟨_, t, rfl⟩, S', ⟨_, rfl⟩, E', fun a u_ o e => k a o e⟩, _, by simp [← S.len]; rfl, rfl⟩
section
variable {prog : Program} {w : World} {h₀ : Heap} {A : Around} {s : Shared} {Ls : List Addr} {σ : Hd} {st st' : Sto}
theorem pv_toks (S : HS h₀ Ls σ s.heap st) (t : Nat) {d : D} {v : Value} (r : Rl s.heap (Xs Ls σ) σ d v) : PV h₀ Ls σ s st d v { s with toks := t } := ⟨σ, Stp.toks S t, r⟩
theorem intD_ok {f : Int → Int → Option Int} {a b d : D} {st st' : Sto} (e : intD st f a b = some (d, st')) : ∃ x y, a = .int x ∧ b = .int y ∧ ∃ z, f x y = some z ∧ d = .int z ∧ st' = st := by
  cases a with
  | int x =>
    cases b with
    | int y =>
      obtain ⟨z, hz, e⟩ := mapO e
      cases e
      exact ⟨x, y, rfl, rfl, z, hz, rfl, rfl⟩
    | _ => cases e
  | _ => cases e
set_option tactic.hygienic true in
theorem binop_ok (S : HS h₀ Ls σ s.heap st) {op : Operator} {a b d : D} {va vb : Value} (ra : Rl s.heap (Xs Ls σ) σ a va) (rb : Rl s.heap (Xs Ls σ) σ b vb) (e : binop op a b st = some (d, st')) :
    wpAny (model prog w) A (binaryOp op va vb) (PV h₀ Ls σ s st' d) Bot s := by
  cases op with
  | Add =>
    have e : addD st a b = some (d, st') := e
    have L : ∀ k, lstOf st a = some k → ((lstOf st b).bind fun l => if k.length + l.length ≤ 10000 then some (D.ptr st.length, st ++ [Ob.lst (k ++ l)]) else none) = some (d, st') → wpAny (model prog w) A (binaryOp .Add va vb) (PV h₀ Ls σ s st' d) Bot s := by
      intro k hk e
      refine bindE e fun l hl e => ?_
      obtain ⟨hc, e⟩ := iteN e
      cases e
      obtain ⟨x, vs, rfl, t1, r1⟩ := lst_rl S hk ra
      obtain ⟨y, us, rfl, t2, r2⟩ := lst_rl S hl rb
      have := new_ptr S (r1.append r2) s.toks
      exact lists_add t1 t2 this (by rw [r1.length, r2.length, sizeLine_eq]; first | exact Nat.le_trans (by assumption) (Nat.le_of_ble_eq_true rfl) | lia | omega)
    cases a with
    | int x =>
      cases b with
      | int y =>
        obtain ⟨t, rfl⟩ := ra; obtain ⟨u, rfl⟩ := rb; cases e
        exact PyProof.Rows.add_int (pv_toks S _ ⟨_, rfl⟩)
      | _ => cases e
    | str x =>
      cases b with
      | str y =>
        obtain ⟨t, rfl⟩ := ra; obtain ⟨u, rfl⟩ := rb
        obtain ⟨hc, e⟩ := iteN e
        cases e
        exact PySem.SB.add (fun t' k => pv_toks S _ ⟨_, rfl⟩) (by rw [sizeLine_eq]; first | exact Nat.le_trans (by assumption) (Nat.le_of_ble_eq_true rfl) | lia | omega)
      | _ => cases e
    | lst l => exact L l rfl e
    | ptr i => exact bindE e L
    | _ => cases e
  | Mult =>
    cases b with
    | int n =>
      have e : mulD st a (.int n) = some (d, st') := e
      have L : ∀ k, lstOf st a = some k → (if k.length ≤ 10 ∧ 0 ≤ n ∧ n ≤ 10000 then some (D.lst (reps k n.toNat), st) else none) = some (d, st') → wpAny (model prog w) A (binaryOp .Mult va vb) (PV h₀ Ls σ s st' d) Bot s := by
        intro k hk e
        obtain ⟨hc, e⟩ := iteN e
        cases e
        obtain ⟨x, vs, rfl, t1, r1⟩ := lst_rl S hk ra
        obtain ⟨u, rfl⟩ := rb
        refine list_times t1 hc.2.1 hc.2.2 (by rw [r1.length]; exact hc.1) ?_
        have e1 : List.foldl (fun x1 x2 => x1 ++ x2) #[] (List.replicate (if vs.toArray.isEmpty = true then 0 else n.toNat) vs.toArray) = (List.replicate n.toNat vs).flatten.toArray := by
          rw [foldl_app]
          cases vs with
          | nil => simp
          | cons v vs => simp
        rw [e1]
        exact new_list S (rlL_reps r1 n.toNat) s.toks
      cases a with
      | int x =>
        obtain ⟨t, rfl⟩ := ra; obtain ⟨u, rfl⟩ := rb
        obtain ⟨hc, e⟩ := iteN e
        cases e
        refine PySem.P.mul_int (pv_toks S _ ⟨_, rfl⟩) ?_
        rcases hc with hc | hc
        · exact IntMulOk.of_left (intBits_le hc)
        · exact IntMulOk.of_right (intBits_le hc)
      | str x =>
        obtain ⟨t, rfl⟩ := ra; obtain ⟨u, rfl⟩ := rb
        obtain ⟨hc, e⟩ := iteN e
        cases e
        have hm : x.length * n.toNat ≤ 10 * 10000 := Nat.mul_le_mul hc.1 (by first | exact Nat.le_trans (by assumption) (Nat.le_of_ble_eq_true rfl) | lia | omega)
        refine PySem.SB.mul ⟨?_, fun h1 h2 => ?_, fun u_ u_ => ?_⟩ (fun t' k => pv_toks S _ ⟨_, rfl⟩)
        · have a1 : ¬ n < -(2 ^ 63 : Int) := by first | exact Nat.le_trans (by assumption) (Nat.le_of_ble_eq_true rfl) | lia | omega
          have a2 : ¬ n ≥ 2 ^ 63 := by first | exact Nat.le_trans (by assumption) (Nat.le_of_ble_eq_true rfl) | lia | omega
          rw [decide_eq_false a1, decide_eq_false a2]; rfl
        · have h3 : (10 : Int) ≤ (2 ^ 63 - 1) / n := by
            rw [Int.le_ediv_iff_mul_le (by first | exact Nat.le_trans (by assumption) (Nat.le_of_ble_eq_true rfl) | lia | omega)]; first | exact Nat.le_trans (by assumption) (Nat.le_of_ble_eq_true rfl) | lia | omega
          first | exact Nat.le_trans (by assumption) (Nat.le_of_ble_eq_true rfl) | lia | omega
        · simp [Builtin.Str.tooLong, sizeLine]; first | exact Nat.le_trans (by assumption) (Nat.le_of_ble_eq_true rfl) | lia | omega
      | lst l => exact L l rfl e
      | ptr i => exact bindE e L
      | _ => cases e
    | _ => cases e
  | Sub =>
    obtain ⟨x, y, rfl, rfl, z, hz, rfl, rfl⟩ := intD_ok e
    obtain ⟨t, rfl⟩ := ra; obtain ⟨u, rfl⟩ := rb
    cases hz
    exact PyProof.Rows.sub_int (pv_toks S _ ⟨_, rfl⟩)
  | Mod =>
    obtain ⟨x, y, rfl, rfl, z, hz, rfl, rfl⟩ := intD_ok e
    obtain ⟨t, rfl⟩ := ra; obtain ⟨u, rfl⟩ := rb
    split at hz
    · cases hz
    · rename_i hc; cases hz
      exact PyProof.Rows.mod_int hc (pv_toks S _ ⟨_, rfl⟩)
  | FloorDiv =>
    obtain ⟨x, y, rfl, rfl, z, hz, rfl, rfl⟩ := intD_ok e
    obtain ⟨t, rfl⟩ := ra; obtain ⟨u, rfl⟩ := rb
    split at hz
    · rename_i hc; cases hz
      exact floordiv_int (by first | exact Nat.le_trans (by assumption) (Nat.le_of_ble_eq_true rfl) | lia | omega) (pv_toks S _ ⟨_, rfl⟩) (Or.inl (PyProof.noPylong_small (by first | exact Nat.le_trans (by assumption) (Nat.le_of_ble_eq_true rfl) | lia | omega)))
    · cases hz
  | Pow =>
    obtain ⟨x, y, rfl, rfl, z, hz, rfl, rfl⟩ := intD_ok e
    obtain ⟨t, rfl⟩ := ra; obtain ⟨u, rfl⟩ := rb
    split at hz
    · rename_i hc; cases hz
      exact pow_int hc.1 hc.2 (pv_toks S _ ⟨_, rfl⟩)
    · cases hz
  | _ => cases e
end
end Og
end
section
set_option tactic.hygienic false
namespace Og
open PySem PySem.W PyProof.Rows
section
variable {h : Heap} {X : List Addr} {σ : Hd}
mutual
theorem rl_reads : ∀ (d : D) (v : Value) (p : PyData), toPy d = some p → Rl h X σ d v → ∃ as, Reads h v p as
  | .none, _, _, q, r => by cases q; cases r; exact ⟨[], .none⟩
  | .bool b, _, _, q, r => by cases q; cases r; exact ⟨[], .bool b⟩
  | .int i, _, _, q, xx0 => by
    obtain ⟨t, r⟩ := xx0
    cases q; subst r; exact ⟨[], .int i t⟩
  | .str x, _, _, q, xx0 => by
    obtain ⟨t, r⟩ := xx0
    cases q; subst r; exact ⟨[], .str x t⟩
  | .tup l, _, _, q, xx0 => by
    obtain ⟨a, vs, e, n, ⟨o, ho, hc, k, hd⟩, r⟩ := xx0
    obtain ⟨ps, hp, rfl⟩ := mapO q
    obtain ⟨as, hr⟩ := rlL_reads l vs ps hp r
    subst e
    exact ⟨as, .tuple ho hc hd hr⟩
  | .lst l, _, _, q, xx0 => by
    obtain ⟨a, vs, e, n, ⟨o, ho, hc, k, hd⟩, r⟩ := xx0
    obtain ⟨ps, hp, rfl⟩ := mapO q
    obtain ⟨as, hr⟩ := rlL_reads l vs ps hp r
    subst e
    exact ⟨a :: as, .list ho hc hd hr⟩
  | .rng _, _, _, q, _ => by cases q
  | .inst _ _ _, _, _, q, _ => by cases q
  | .ptr _, _, _, q, _ => by cases q
theorem rlL_reads : ∀ (l : List D) (vs : List Value) (ps : List PyData), toPyL l = some ps → RlL h X σ l vs → ∃ as, ReadsAll h vs ps as
  | [], _, _, q, r => by cases q; cases r; exact ⟨[], .nil⟩
  | d :: ds, _, _, q, xx0 => by
    obtain ⟨v, u, e, a, b⟩ := xx0
    refine bindE q fun p hp q => ?_
    obtain ⟨ps, hps, rfl⟩ := mapO q
    obtain ⟨as, ha⟩ := rl_reads d v p hp a
    obtain ⟨bs, hb⟩ := rlL_reads ds u ps hps b
    subst e
    exact ⟨as ++ bs, .cons ha hb⟩
end
end
theorem py_rl {h₀ h : Heap} {Ls : List Addr} {σ : Hd} {st : Sto} (S : HS h₀ Ls σ h st) {d : D} {v : Value} {p : PyData} (e : pyOf st d = some p) (r : Rl h (Xs Ls σ) σ d v) : ∃ as, Reads h v p as := by
  cases d with
  | tup l => exact rl_reads (.tup l) v p e r
  | lst l => exact rl_reads (.lst l) v p e r
  | ptr i =>
    refine bindE e fun l hl e => ?_
    refine bindE hl fun o hl e2 => ?_
    cases obLE e2
    refine hide fun G kG => ?_
    obtain ⟨ps, hps, rfl⟩ := mapO e
    obtain ⟨q, hq, rfl⟩ := r
    obtain ⟨q', hq', e1, vs, ⟨k, ho⟩, x⟩ := S.ob i _ hl
    rw [hq] at hq'; cases hq'
    obtain ⟨as, hr⟩ := rlL_reads l vs ps hps x
    refine kG ?_
    clear kG G
    exact ⟨q.1 :: as, .list (by rw [e1]; exact ho) rfl rfl hr⟩
  | _ => cases e
theorem strs_rl {h : Heap} {X : List Addr} {σ : Hd} : ∀ {l : List D} {ys : List Str} {vs : List Value}, strsOf l = some ys → RlL h X σ l vs → ∃ ts : List (Str × Tok), vs = ts.map (fun p => Value.str p.1 p.2) ∧ ts.map (·.1) = ys
  | [], _, _, q, r => by cases q; cases r; exact ⟨[], rfl, rfl⟩
  | .str x :: l, _, _, q, xx0 => by
    obtain ⟨v, u, e, ⟨t, a⟩, b⟩ := xx0
    obtain ⟨ys, hy, rfl⟩ := mapO q
    obtain ⟨ts, h1, h2⟩ := strs_rl hy b
    subst e a h1
    exact ⟨(x, t) :: ts, rfl, by rw [← h2]; rfl⟩
  | .none :: _, _, _, q, _ => by cases q
  | .bool _ :: _, _, _, q, _ => by cases q
  | .int _ :: _, _, _, q, _ => by cases q
  | .tup _ :: _, _, _, q, _ => by cases q
  | .lst _ :: _, _, _, q, _ => by cases q
  | .rng _ :: _, _, _, q, _ => by cases q
  | .inst _ _ _ :: _, _, _, q, _ => by cases q
  | .ptr _ :: _, _, _, q, _ => by cases q
/-- is this str x -/
noncomputable def hits (x : Str) : Value → Bool
  | .str y _ => y == x
  | _ => false
theorem any_hits (x : Str) (ts : List (Str × Tok)) : (ts.map (fun p => Value.str p.1 p.2)).toArray.any (hits x) = (ts.map (·.1)).any (· == x) := by
  rw [List.any_toArray, List.any_map, List.any_map]; rfl
theorem hits_eq {A : Around} {s : Shared} {ts : List (Str × Tok)} {x : Str} {t : Tok} (y : Value) (hy : y ∈ (ts.map (fun p => Value.str p.1 p.2)).toArray) : SeqAt.EqAt A s y (.str x t) (hits x y) := by
  simp only [List.mem_toArray, List.mem_map] at hy
  obtain ⟨p, _, rfl⟩ := hy
  exact SeqAt.EqAt.str_str p.1 p.2 x t
section
variable {prog : Program} {w : World} {h₀ : Heap} {A : Around} {s : Shared} {Ls : List Addr} {σ : Hd} {st : Sto}
theorem in_ok {E : Value → Shared → Prop} (S : HS h₀ Ls σ s.heap st) {d : D} {v : Value} {x : Str} {t : Tok} {l : List D} {ys : List Str} (e : seqOf st d = some l) (e2 : strsOf l = some ys) (r : Rl s.heap (Xs Ls σ) σ d v) {Q : Value → Shared → Prop} :
    (Q (.bool (ys.any (· == x))) s → wpAny (model prog w) A (compareOp .In (.str x t) v) Q E s) ∧ (Q (.bool (!ys.any (· == x))) s → wpAny (model prog w) A (compareOp .NotIn (.str x t) v) Q E s) := by
  have key : ∃ a vs, v = .ref a ∧ (s.heap.IsTuple a (List.toArray vs) ∨ s.heap.IsList a (List.toArray vs)) ∧ RlL s.heap (Xs Ls σ) σ l vs := by
    cases d with
    | tup l' => cases e; obtain ⟨a, vs, e, _, t, x⟩ := r; exact ⟨a, vs, e, .inl t, x⟩
    | lst l' => obtain ⟨a, vs, e, t, x⟩ := lst_rl S (d := .lst l') e r; exact ⟨a, vs, e, .inr t, x⟩
    | ptr i => obtain ⟨a, vs, e, t, x⟩ := lst_rl S (d := .ptr i) e r; exact ⟨a, vs, e, .inr t, x⟩
    | _ => cases e
  refine hide fun G kG => ?_
  obtain ⟨a, vs, rfl, ht, hr⟩ := key
  obtain ⟨ts, rfl, h2⟩ := strs_rl e2 hr
  refine kG ?_
  clear kG G
  subst h2
  rcases ht with ht | ht
  · exact ⟨fun q => SeqAt.in_tupleAt (hits x) ht (fun y hy => hits_eq y hy) (by rw [any_hits]; exact q), fun q => SeqAt.notIn_tupleAt (hits x) ht (fun y hy => hits_eq y hy) (by rw [any_hits]; exact q)⟩
  · exact ⟨fun q => SeqAt.in_listAt (hits x) ht (fun y hy => hits_eq y hy) (by rw [any_hits]; exact q), fun q => SeqAt.notIn_listAt (hits x) ht (fun y hy => hits_eq y hy) (by rw [any_hits]; exact q)⟩
set_option tactic.hygienic true in
theorem seqEq_ok {E : Value → Shared → Prop} (S : HS h₀ Ls σ s.heap st) (hu : A.units + 64 < cLine) {x y : D} {vx vy : Value} {c : Bool} (rx : Rl s.heap (Xs Ls σ) σ x vx) (ry : Rl s.heap (Xs Ls σ) σ y vy) (e : seqEq st x y = some c) {Q : Value → Shared → Prop} :
    (Q (.bool c) s → wpAny (model prog w) A (compareOp .Eq vx vy) Q E s) ∧ (Q (.bool (!c)) s → wpAny (model prog w) A (compareOp .NotEq vx vy) Q E s) := by
  refine iteE e (fun hh e => ?_) fun hh e => ?_
  · obtain ⟨k, h1, rfl⟩ := mapO e
    have h2 : lstOf st y = some [] := by
      cases hy : lstOf st y with
      | none => rw [hy] at hh; cases hh.1
      | some l =>
        rw [hy] at hh
        rw [List.isEmpty_iff.mp hh.1]
    refine hide fun G kG => ?_
    obtain ⟨a, vs, rfl, t1, r1⟩ := lst_rl S h1 rx
    obtain ⟨b, us, rfl, t2, r2⟩ := lst_rl S h2 ry
    refine kG ?_
    clear kG G
    cases r2
    have hl := r1.length
    cases k with
    | nil =>
      have hv : vs = [] := List.length_eq_zero_iff.mp hl
      subst hv
      have nn : ∀ j (h1 : j < ([] : List Value).toArray.size) (h2 : j < ([] : List Value).toArray.size), SeqAt.EqAt A.in1 s (([] : List Value).toArray[j]) (([] : List Value).toArray[j]) true := fun j h1 => absurd h1 (by simp)
      exact ⟨fun q => SeqAt.RcAt.lists t1 t2 rfl (by first | lia | omega) (e := fun u_ => true) nn prog w E Q (by simpa using q), fun q => SeqAt.RcNeAt.lists t1 t2 rfl (by first | lia | omega) (e := fun u_ => true) nn prog w E Q (by simpa using q)⟩
    | cons d ds =>
      have hne : (vs.toArray.size != ([] : List Value).toArray.size) = true := by simp [hl]
      exact ⟨fun q => SeqAt.RcAt.lists_lengths t1 t2 hne (by first | lia | omega) prog w E Q (by simpa using q), fun q => SeqAt.RcNeAt.lists_lengths t1 t2 hne (by first | lia | omega) prog w E Q (by simpa using q)⟩
  · refine bindE e fun p hp e => bindE e fun q hq e => ?_
    obtain ⟨hs, e⟩ := iteN e
    cases e
    obtain ⟨as, ra⟩ := py_rl S hp rx
    obtain ⟨bs, rb⟩ := py_rl S hq ry
    have hs' := Bool.and_eq_true_iff.mp hs
    exact ⟨fun z => SeqAt.compareEq_shaped ra rb hs'.1 hs'.2 hu z, fun z => SeqAt.compareNe_shaped ra rb hs'.1 hs'.2 hu z⟩
theorem inD_ok (S : HS h₀ Ls σ s.heap st) {a b : D} {va vb : Value} {c : Bool} (ra : Rl s.heap (Xs Ls σ) σ a va) (rb : Rl s.heap (Xs Ls σ) σ b vb) (e : inD st a b = some c) {Q : Value → Shared → Prop} :
    (Q (.bool c) s → wpAny (model prog w) A (compareOp .In va vb) Q Bot s) ∧ (Q (.bool (!c)) s → wpAny (model prog w) A (compareOp .NotIn va vb) Q Bot s) := by
  cases a with
  | str x =>
    obtain ⟨t, rfl⟩ := ra
    have L : ∀ c, (((seqOf st b).bind strsOf).map fun l => l.any (· == x)) = some c → (Q (.bool c) s → wpAny (model prog w) A (compareOp .In (.str x t) vb) Q Bot s) ∧ (Q (.bool (!c)) s → wpAny (model prog w) A (compareOp .NotIn (.str x t) vb) Q Bot s) := by
      intro c e
      obtain ⟨ys, h1, rfl⟩ := mapO e
      exact bindE h1 fun l h2 h3 => in_ok S h2 h3 rb
    cases b with
    | str y =>
      obtain ⟨u, rfl⟩ := rb; cases e
      exact ⟨PySem.SB.contains, PySem.SB.notContains⟩
    | tup l => exact L c e
    | lst l => exact L c e
    | ptr i => exact L c e
    | _ => cases e
  | _ => cases e
theorem ltD_ok {f : Int → Int → Bool} {a b : D} {c : Bool} (e : ltD f a b = some c) : ∃ x y, a = .int x ∧ b = .int y ∧ c = f x y := by
  cases a with
  | int x =>
    cases b with
    | int y => cases e; exact ⟨x, y, rfl, rfl, rfl⟩
    | _ => cases e
  | _ => cases e
theorem cmpop_ok (S : HS h₀ Ls σ s.heap st) (hu : A.units + 64 < cLine) {op : CmpOp} {a b : D} {va vb : Value} {c : Bool} (ra : Rl s.heap (Xs Ls σ) σ a va) (rb : Rl s.heap (Xs Ls σ) σ b vb) (e : cmpop op a b st = some c) {Q : Value → Shared → Prop} (hq : Q (.bool c) s) :
    wpAny (model prog w) A (compareOp op va vb) Q Bot s := by
  cases op with
  | Eq =>
    have e : eqD st a b = some c := e
    cases a with
    | int x =>
      cases b with
      | int y => obtain ⟨t, rfl⟩ := ra; obtain ⟨u, rfl⟩ := rb; cases e; exact PyProof.Rows.eq_int hq
      | _ => cases e
    | str x =>
      cases b with
      | str y => obtain ⟨t, rfl⟩ := ra; obtain ⟨u, rfl⟩ := rb; cases e; exact PyProof.Rows.eq_str hq
      | _ => cases e
    | _ => exact (seqEq_ok S hu ra rb e).1 hq
  | NotEq =>
    have e : neD st a b = some c := e
    have L : (seqEq st a b).map (!·) = some c → wpAny (model prog w) A (compareOp .NotEq va vb) Q Bot s := fun e => by
      obtain ⟨c', h1, rfl⟩ := mapO e
      exact (seqEq_ok S hu ra rb h1).2 hq
    cases a with
    | int x =>
      cases b with
      | int y => obtain ⟨t, rfl⟩ := ra; obtain ⟨u, rfl⟩ := rb; cases e; exact PyProof.Rows.ne_int hq
      | _ => cases e
    | str x =>
      cases b with
      | str y => obtain ⟨t, rfl⟩ := ra; obtain ⟨u, rfl⟩ := rb; cases e; exact PyProof.Rows.ne_str hq
      | _ => cases e
    | bool x =>
      cases b with
      | bool y => cases ra; cases rb; cases e; exact PyProof.Rows.ne_bool hq
      | _ => cases e
    | _ => exact L e
  | Lt =>
    obtain ⟨x, y, rfl, rfl, rfl⟩ := ltD_ok e
    obtain ⟨t, rfl⟩ := ra; obtain ⟨u, rfl⟩ := rb; exact PyProof.Rows.lt_int hq
  | Gt =>
    obtain ⟨x, y, rfl, rfl, rfl⟩ := ltD_ok e
    obtain ⟨t, rfl⟩ := ra; obtain ⟨u, rfl⟩ := rb; exact PyProof.Rows.gt_int hq
  | GtE =>
    obtain ⟨x, y, rfl, rfl, rfl⟩ := ltD_ok e
    obtain ⟨t, rfl⟩ := ra; obtain ⟨u, rfl⟩ := rb; exact PyProof.Rows.ge_int hq
  | LtE =>
    have e : leD a b = some c := e
    cases a with
    | int x =>
      cases b with
      | int y => obtain ⟨t, rfl⟩ := ra; obtain ⟨u, rfl⟩ := rb; cases e; exact PyProof.Rows.le_int hq
      | _ => cases e
    | str x =>
      cases b with
      | str y => obtain ⟨t, rfl⟩ := ra; obtain ⟨u, rfl⟩ := rb; cases e; exact PySem.P.le_str (by simpa using hq)
      | _ => cases e
    | _ => cases e
  | In => exact (inD_ok S ra rb e).1 hq
  | NotIn =>
    obtain ⟨c', e1, rfl⟩ := mapO (show (inD st a b).map (!·) = some c from e)
    exact (inD_ok S ra rb e1).2 hq
  | Is => cases e
  | IsNot => cases e
end
end Og
end
section
set_option tactic.hygienic false
namespace Og
open PySem PySem.W PyProof.Rows
section
variable {prog : Program} {w : World} {A : Around} {s : Shared}
theorem subscripted_plain {slice : Expr} (hns : ∀ a b c p, slice ≠ .Slice a b c p) (o i : Value) : subscripted slice false o i = operate [o, i] (PySem.getItem o i) := by
  cases slice <;> first | rfl | exact absurd rfl (hns _ _ _ _)
theorem sub_item {E : Value → Shared → Prop} {env : Env} {value slice : Expr} {pos : Pos} {Q : Value → Shared → Prop} (hns : ∀ a b c p, slice ≠ .Slice a b c p)
    (h : wpAny (model prog w) A (eval value env) (fun o s₁ => wpAny (model prog w) A (eval slice env) (fun i s₂ => ItemOn (model prog w) A E o i Q s₂) E s₁) E s) :
    wpAny (model prog w) A (eval (.Subscript value slice pos) env) Q E s := by
  refine Subscript_ (wpAny_mono h (fun o s₁ h₁ => wpAny_mono h₁ (fun i s₂ h₂ => ?_) fun u_ u_ x => x) fun u_ u_ x => x)
  obtain ⟨T, id, hl, hT, hg⟩ := h₂
  unfold subscriptTail
  refine wpAny_bind ?_
  rw [getitemInPython_of_ne hT.not_modules]
  refine wpAny_bind (wpAny_specialOf hT hl ?_)
  refine wpAny_pure ?_
  rw [subscripted_plain hns]
  exact wpAny_bind (wpAny_operateT (wpAny_mono hg (fun r s₃ h₃ => wpAny_bind (wpAny_letTemporaryGo (wpAny_pure h₃))) fun u_ u_ x => x))
variable {h₀ : Heap} {Ls : List Addr} {σ : Hd} {st : Sto}
set_option tactic.hygienic true in
theorem getI_ok (S : HS h₀ Ls σ s.heap st) {o i d : D} {vo vi : Value} (ro : Rl s.heap (Xs Ls σ) σ o vo) (ri : Rl s.heap (Xs Ls σ) σ i vi) (e : getI st o i = some d) :
    ItemOn (model prog w) A Bot vo vi (PV h₀ Ls σ s st d) s := by
  cases i with
  | int k =>
    obtain ⟨u, rfl⟩ := ri
    have L : ∀ l, lstOf st o = some l → (if l.length ≤ 10000 then (if 0 ≤ k then l[k.toNat]? else if -(l.length : Int) ≤ k then l[(k + l.length).toNat]? else none) else none) = some d → ItemOn (model prog w) A Bot vo (.int k u) (PV h₀ Ls σ s st d) s := by
      intro l hl e
      obtain ⟨a, vs, rfl, t, r⟩ := lst_rl S hl ro
      obtain ⟨hlen, e⟩ := iteN e
      refine iteE e (fun h0 e => ?_) fun h0 e => ?_
      · obtain ⟨v, hv, rv⟩ := r.get e
        have hlt := (List.getElem?_eq_some_iff.mp hv).1
        have := r.length
        exact ⟨"list", _, slot_list_getitem.lookup, t.typeIs, wpAny_getItem_list t h0 (by first | exact Nat.le_trans (by assumption) (Nat.le_of_ble_eq_true rfl) | lia | omega) (by simpa using hv) ⟨σ, Stp.refl S, rv⟩⟩
      · obtain ⟨h1, e⟩ := iteN e
        obtain ⟨v, hv, rv⟩ := r.get e
        have hl' := r.length
        refine ⟨"list", _, slot_list_getitem.lookup, t.typeIs, wpAny_getItem_list_neg t (by first | exact Nat.le_trans (by assumption) (Nat.le_of_ble_eq_true rfl) | lia | omega) (by simp [hl']; first | exact Nat.le_trans (by assumption) (Nat.le_of_ble_eq_true rfl) | lia | omega) (by first | exact Nat.le_trans (by assumption) (Nat.le_of_ble_eq_true rfl) | lia | omega) ?_ ⟨σ, Stp.refl S, rv⟩⟩
        simpa [hl'] using hv
    cases o with
    | str x =>
      obtain ⟨t, rfl⟩ := ro
      obtain ⟨hc, e⟩ := iteN e
      cases e
      exact ⟨"str", _, PySem.F.slot_str_getitem.lookup, typeIs_str _ _ _, PySem.SB.getItem hc.1 hc.2 (pv_toks S _ ⟨_, rfl⟩)⟩
    | tup l =>
      obtain ⟨a, vs, rfl, _, t, r⟩ := ro
      obtain ⟨hc, e⟩ := iteN e
      obtain ⟨v, hv, rv⟩ := r.get e
      refine ⟨"tuple", _, slot_tuple_getitem.lookup, IsTup.typeIs t, PyProof.Rows.getItem_tuple t (by first | exact Nat.le_trans (by assumption) (Nat.le_of_ble_eq_true rfl) | lia | omega) (by first | exact Nat.le_trans (by assumption) (Nat.le_of_ble_eq_true rfl) | lia | omega) (j := _) ?_ (by simpa using hv) ⟨σ, Stp.refl S, rv⟩⟩
      have hlt := (List.getElem?_eq_some_iff.mp hv).1
      unfold seqIndex?
      simp only [List.size_toArray]
      (repeat' split) <;> first | rfl | first | exact Nat.le_trans (by assumption) (Nat.le_of_ble_eq_true rfl) | lia | omega | (exfalso; simp_all; done) | (exfalso; simp_all; first | exact Nat.le_trans (by assumption) (Nat.le_of_ble_eq_true rfl) | lia | omega)
    | lst l => exact L l rfl e
    | ptr i => exact bindE e L
    | _ => cases e
  | _ => cases e
end
section
variable {prog : Program} {w : World} {T : Tab} {K : Frag} {h₀ : Heap} {n : Nat} {cf : CF} {mg mb : Str → Option Value}
theorem ev_sub {o i : Expr} {pos : Pos} (hns : ∀ a b c p, i ≠ .Slice a b c p) (sc : Scope) (vs : Vars) (st : Sto) :
    ev T cf (.Subscript o i pos) sc vs st = (ev T cf o sc vs st).bind fun a => (ev T cf i sc vs a.2).bind fun k => (getI k.2 a.1 k.1).map fun d => (d, k.2) := by
  cases i <;> first | exact absurd rfl (hns _ _ _ _) | rfl
theorem se_sub {o i : Expr} (pos) (hns : ∀ a b c p, i ≠ .Slice a b c p) (ho : SE prog w T h₀ n cf o) (hi : SE prog w T h₀ n cf i) : SE prog w T h₀ n cf (.Subscript o i pos) := by
  intro A env sc vs st d st' Ls σ s hA hE e S F
  rw [ev_sub hns] at e
  refine bindP e fun a st₁ h1 e => ?_
  refine bindP e fun k st₂ h2 e => ?_
  obtain ⟨d', h3, e⟩ := mapO e
  dsimp only at h2 h3 e
  cases e
  refine sub_item hns (pv_bind (ho A env sc vs st a st₁ Ls σ s hA hE h1 S F) fun v s₁ σ₁ p r => ?_)
  refine pv_bind (hi A env sc vs st₁ k _ Ls σ₁ s₁ hA hE h2 p.hs (F.step p)) fun u s₂ σ₂ p₂ r₂ => ?_
  obtain ⟨T', id, g1, g2, g3⟩ := getI_ok (prog := prog) (w := w) (A := A) p₂.hs (p₂.rl r) r₂ h3
  exact ⟨T', id, g1, g2, wpAny_mono g3 (fun u_ u_ q => pv_step (p.trans p₂) q) fun u_ u_ x => x⟩
theorem so_none : SO prog w T h₀ n cf none := by
  intro A env sc vs st d st' Ls σ s hA hE e S F
  cases e
  exact evalPart_none_step ⟨σ, Stp.refl S, rfl⟩
theorem so_some {e : Expr} (he : SE prog w T h₀ n cf e) : SO prog w T h₀ n cf (some e) := by
  intro A env sc vs st d st' Ls σ s hA hE q S F
  simp only [ivO_none, ivO_some] at q
  exact evalPart_some_step (he A env sc vs st d st' Ls σ s hA hE q S F)
theorem part_rl {h : Heap} {X : List Addr} {σ : Hd} {d : D} {v : Value} {p : Option Int} (e : partI d = some p) (r : Rl h X σ d v) : ∃ q : Option (Int × Tok), v = partValue q ∧ q.map (·.1) = p := by
  cases d with
  | none => cases e; cases r; exact ⟨none, rfl, rfl⟩
  | int i => cases e; obtain ⟨t, rfl⟩ := r; exact ⟨some (i, t), rfl, rfl⟩
  | _ => cases e
set_option tactic.hygienic true in
theorem se_slice {x : Str} {xp pos p : Pos} {lo hi : Option Expr} (ho : SE prog w T h₀ n cf (.Name x xp)) (hl : SO prog w T h₀ n cf lo) (hh : SO prog w T h₀ n cf hi) :
    SE prog w T h₀ n cf (.Subscript (.Name x xp) (.Slice lo hi none p) pos) := by
  intro A env sc vs st d st' Ls σ s hA hE e S F
  have e' : (ev T cf (.Name x xp) sc vs st).bind (fun a => (evO T cf lo sc vs a.2).bind fun l => (evO T cf hi sc vs l.2).bind fun u => (getS u.2 a.1 l.1 u.1).map fun d => (d, u.2)) = some (d, st') := by
    exact e
  refine bindP e' fun a st₁ h1 e => ?_
  refine bindP e fun l st₂ h2 e => ?_
  refine bindP e fun u st₃ h3 e => ?_
  obtain ⟨d', h4, e⟩ := mapO e
  dsimp only at h2 h3 h4 e
  cases e
  refine Subscript_Slice (pv_bind (ho A env sc vs st a st₁ Ls σ s hA hE h1 S F) fun v s₁ σ₁ p₁ r₁ => ?_)
  refine wpAny_Slice (pv_bind (hl A env sc vs st₁ l st₂ Ls σ₁ s₁ hA hE h2 p₁.hs (F.step p₁)) fun vl s₂ σ₂ p₂ r₂ => ?_)
  refine pv_bind (hh A env sc vs st₂ u _ Ls σ₂ s₂ hA hE h3 p₂.hs ((F.step p₁).step p₂)) fun vu s₃ σ₃ p₃ r₃ => ?_
  refine evalPart_none_step ?_
  have q₁ := p₁.trans (p₂.trans p₃)
  have ra := (p₂.trans p₃).rl r₁
  have rl := p₃.rl r₂
  have S₃ := p₃.hs
  unfold getS at h4
  split at h4
  · rename_i l' u' hl' hu'
    obtain ⟨ql, rfl, hql⟩ := part_rl hl' rl
    obtain ⟨qu, rfl, hqu⟩ := part_rl hu' r₃
    have kk := kps_push s₃.heap { cls := .type "slice", data := .fields #[partValue ql, partValue qu, .none] }
    have hsl : (s₃.heap.push { cls := .type "slice", data := .fields #[partValue ql, partValue qu, .none] }).IsSlice s₃.heap.objs.size ql qu none := ⟨_, Heap.get?_push_size _ rfl, rfl, rfl⟩
    have G := Stp.grow (st := st') S₃ s₃.toks kk
    split at h4
    · split at h4
      · rename_i hx
        cases h4
        rename Str => x'
        obtain ⟨t, rfl⟩ := ra
        refine ⟨"str", _, PySem.F.slot_str_getitem.lookup, typeIs_str _ _ _, wpAny_getItem_str_slice hsl rfl ?_⟩
        unfold sliceMade slicePicked
        rw [hql, hqu]
        refine post_val_or_str ⟨?_, fun t' k => pv_step (q₁.trans G) (pv_toks G.hs k ?_)⟩
        · have := Txt.slice_le x' l' u'
          unfold Txt.slice at this
          exact Nat.le_trans this (by rw [sizeLine_eq]; first | exact Nat.le_trans (by assumption) (Nat.le_of_ble_eq_true rfl) | lia | omega)
        · unfold Txt.slice; exact ⟨t', rfl⟩
      · cases h4
    · split at h4
      · rename_i xs k hxs
        split at h4
        · rename_i hk
          cases h4
          obtain ⟨ad, vs', rfl, t, r⟩ := lst_rl S₃ hxs ra
          have t' := t.push { cls := .type "slice", data := .fields #[partValue ql, partValue qu, .none] }
          refine ⟨"list", _, slot_list_getitem.lookup, t'.typeIs, ?_⟩
          refine wpAny_getItem_list_slice t' (lo := none) (hi := some k) (st := none) (Heap.IsSliceOf.new ..) ?_ ?_ .none (by simp) ?_ (by have := r.length; simp [sizeLine_eq]; first | exact Nat.le_trans (by assumption) (Nat.le_of_ble_eq_true rfl) | lia | omega)
          · cases ql with
            | none => exact .none
            | some q => simp at hql
          · cases qu with
            | none => simp at hqu
            | some q => simp at hqu; subst hqu; exact .int _ _
          · obtain ⟨b, rfl⟩ : ∃ b : Nat, k = b := ⟨k.toNat, by first | exact Nat.le_trans (by assumption) (Nat.le_of_ble_eq_true rfl) | lia | omega⟩
            rw [slicePick_upto']
            have := new_list G.hs (RlL.mono G.ext G.sub _ _ (r.take b)) s₃.toks
            exact pv_step (q₁.trans G) (by simpa using this)
        · cases h4
      · cases h4
  · cases h4
end
end Og
end
section
set_option tactic.hygienic false
namespace Og
open PySem PySem.W PyProof.Rows
section
variable {prog : Program} {w : World} {T : Tab} {K : Frag} {h₀ : Heap} {n : Nat} {cf : CF} {mg mb : Str → Option Value}
theorem AOk.u {A : Around} (h : AOk n A) : A.units + 64 < cLine := by have := h.2.2; first | exact Nat.le_trans (by assumption) (Nat.le_of_ble_eq_true rfl) | lia | omega
theorem truthy_bool {A : Around} {s : Shared} {b : Bool} {Q : Bool → Shared → Prop} {E : Value → Shared → Prop} (h : Q b s) : wpAny (model prog w) A (truthy (.bool b)) Q E s := wpAny_pure (a := b) h
theorem pl_bind {A : Around} {t : Sem (List Value)} {Ls : List Addr} {σ : Hd} {s : Shared} {st : Sto} {a : List D} {Q : List Value → Shared → Prop} (h : wpAny (model prog w) A t (PL h₀ Ls σ s st a) Bot s)
    (k : ∀ v s₁ σ₁, Stp h₀ Ls σ s σ₁ s₁ st → RlL s₁.heap (Xs Ls σ₁) σ₁ a v → Q v s₁) : wpAny (model prog w) A t Q Bot s :=
  wpAny_mono h (fun v s₁ ⟨σ₁, p, r⟩ => k v s₁ σ₁ p r) fun u_ u_ x => x
theorem se_binop {l r : Expr} (op pos) (hl : SE prog w T h₀ n cf l) (hr : SE prog w T h₀ n cf r) : SE prog w T h₀ n cf (.BinOp l op r pos) := by
  intro A env sc vs st d st' Ls σ s hA hE e S F
  refine bindP e fun a st₁ h1 e => ?_
  refine bindP e fun b st₂ h2 e => ?_
  dsimp only at h2 e
  refine wpAny_BinOp (pv_bind (hl A env sc vs st a st₁ Ls σ s hA hE h1 S F) fun va s₁ σ₁ p r => ?_)
  refine pv_bind (hr A env sc vs st₁ b st₂ Ls σ₁ s₁ hA hE h2 p.hs (F.step p)) fun vb s₂ σ₂ p₂ r₂ => ?_
  exact wp_pv (p.trans p₂) (binop_ok p₂.hs (p₂.rl r) r₂ e)
theorem se_list {es : List Expr} (pos) (h : SL prog w T h₀ n cf es) : SE prog w T h₀ n cf (.List es pos) := by
  intro A env sc vs st d st' Ls σ s hA hE e S F
  refine bindP e fun a st₁ h1 e => ?_
  dsimp only at e
  split at e
  · rename_i hlen
    cases e
    refine wpAny_List (pl_bind (h A env sc vs st a _ Ls σ s pos hA hE h1 S F) fun us s₁ σ₁ p r => ⟨?_, pv_step p (new_ptr p.hs r s₁.toks)⟩)
    rw [r.length, sizeLine_eq]; first | exact Nat.le_trans (by assumption) (Nat.le_of_ble_eq_true rfl) | lia | omega
  · cases e
theorem se_tuple {es : List Expr} (k pos) (h : SL prog w T h₀ n cf es) : SE prog w T h₀ n cf (.Tuple es k pos) := by
  intro A env sc vs st d st' Ls σ s hA hE e S F
  refine bindP e fun a st₁ h1 e => ?_
  dsimp only at e
  split at e
  · rename_i hlen
    cases e
    refine wpAny_Tuple (pl_bind (h A env sc vs st a _ Ls σ s pos hA hE h1 S F) fun us s₁ σ₁ p r => ⟨?_, pv_step p (new_tuple p.hs r s₁.toks)⟩)
    rw [r.length, sizeLine_eq]; first | exact Nat.le_trans (by assumption) (Nat.le_of_ble_eq_true rfl) | lia | omega
  · cases e
theorem se_not {x : Expr} (pos) (h : SE prog w T h₀ n cf x) : SE prog w T h₀ n cf (.UnaryOp .Not x pos) := by
  intro A env sc vs st d st' Ls σ s hA hE e S F
  refine bindP e fun a st₁ h1 e => ?_
  dsimp only at e
  split at e
  · cases e
    refine UnaryOp_ (pv_bind (h A env sc vs st _ _ Ls σ s hA hE h1 S F) fun va s₁ σ₁ p r => ?_)
    subst r
    exact not_value (truthy_bool ⟨σ₁, p, rfl⟩)
  · cases e
theorem se_neg (i k p pos) : SE prog w T h₀ n cf (.UnaryOp .USub (.Constant (.int i) k p) pos) := by
  intro A env sc vs st d st' Ls σ s hA hE e S F
  cases e
  refine UnaryOp_ (wpAny_Constant_int ?_)
  exact PySem.P.neg_int ⟨σ, Stp.toks S _, _, rfl⟩
theorem sb_one {e : Expr} (op : BoolOp) (h : SE prog w T h₀ n cf e) : SB prog w T h₀ n cf op [e] := by
  intro A env sc vs st d st' Ls σ s pos hA hE q S F
  have q' : ev T cf e sc vs st = some (d, st') := by cases op <;> exact q
  exact h A env sc vs st d st' Ls σ s hA hE q' S F
theorem sb_cons {e e2 : Expr} {es : List Expr} (op : BoolOp) (h : SE prog w T h₀ n cf e) (hs : SB prog w T h₀ n cf op (e2 :: es)) : SB prog w T h₀ n cf op (e :: e2 :: es) := by
  intro A env sc vs st d st' Ls σ s pos hA hE q S F
  have q' : (ev T cf e sc vs st).bind (fun a => match a.1, op with | .bool false, .And => some a | .bool true, .Or => some a | .bool _, _ => evB T cf op (e2 :: es) sc vs a.2 | _, _ => none) = some (d, st') := by
    rw [← q]; cases op <;> rfl
  refine bindP q' fun a st₁ h1 e => ?_
  dsimp only at e
  show wpAny (model prog w) A (do
    let v ← eval _ env
    standAt pos
    let t ← holding [v] (truthy v)
    match op, t with
    | .And, false | .Or, true => pure v
    | _, _ => boolOp pos op (eval e2 env :: evalEach es env)) _ _ _
  refine wpAny_bind (pv_bind (h A env sc vs st a _ Ls σ s hA hE h1 S F) fun va s₁ σ₁ p r => ?_)
  refine wpAny_bind (wpAny_standAt (wpAny_bind (wpAny_holding ?_)))
  cases a with
  | bool b =>
    subst r
    refine truthy_bool ?_
    cases op <;> cases b <;> simp only [Option.some.injEq, Prod.mk.injEq] at e
    · obtain ⟨rfl, rfl⟩ := e; exact wpAny_pure ⟨σ₁, p, rfl⟩
    · exact wp_pv p (hs A env sc vs st₁ d st' Ls σ₁ s₁ pos hA hE e p.hs (F.step p))
    · exact wp_pv p (hs A env sc vs st₁ d st' Ls σ₁ s₁ pos hA hE e p.hs (F.step p))
    · obtain ⟨rfl, rfl⟩ := e; exact wpAny_pure ⟨σ₁, p, rfl⟩
  | _ => cases op <;> simp at e
theorem se_boolop {es : List Expr} (op pos) (h : SB prog w T h₀ n cf op es) : SE prog w T h₀ n cf (.BoolOp op es pos) := by
  intro A env sc vs st d st' Ls σ s hA hE e S F
  simp only [iv_const, iv_name, iv_boolop, iv_binop, iv_not, iv_neg, iv_ifexp, iv_list, iv_tuple, iv_cmp1, iv_cmp2, iv_callN, iv_callA, iv_attr, iv_slice, iv_comp1] at e
  rw [arm_eval_BoolOp]
  exact h A env sc vs st d st' Ls σ s pos hA hE e S F
theorem ev_marks {op : CmpOp} {r : Expr} {sc : Scope} {vs : Vars} {st : Sto} {q : D × Sto} (h : ev T cf r sc vs st = some q) : behindInMarks op r = false := by
  cases r <;> first | rfl | (cases h; done)
theorem ev_cmp1 {l r : Expr} {op : CmpOp} {pos : Pos} {sc : Scope} {vs : Vars} {st : Sto} : ev T cf (.Compare l [op] [r] pos) sc vs st =
    (ev T cf l sc vs st).bind fun a => (ev T cf r sc vs a.2).bind fun b => (cmpop op a.1 b.1 b.2).map fun c => (.bool c, b.2) := by simp only [iv_const, iv_name, iv_boolop, iv_binop, iv_not, iv_neg, iv_ifexp, iv_list, iv_tuple, iv_cmp1, iv_cmp2, iv_callN, iv_callA, iv_attr, iv_slice, iv_comp1]
theorem ev_cmp2 {l r r2 : Expr} {op op2 : CmpOp} {pos : Pos} {sc : Scope} {vs : Vars} {st : Sto} : ev T cf (.Compare l [op, op2] [r, r2] pos) sc vs st =
    if behindInMarks op2 r2 then none else (ev T cf l sc vs st).bind fun a => (ev T cf r sc vs a.2).bind fun b => (cmpop op a.1 b.1 b.2).bind fun c =>
      if c then (ev T cf r2 sc vs b.2).bind fun e => (cmpop op2 b.1 e.1 e.2).map fun c => (.bool c, e.2) else some (.bool false, b.2) := by simp only [iv_const, iv_name, iv_boolop, iv_binop, iv_not, iv_neg, iv_ifexp, iv_list, iv_tuple, iv_cmp1, iv_cmp2, iv_callN, iv_callA, iv_attr, iv_slice, iv_comp1]
theorem se_cmp1 {l r : Expr} (op pos) (hl : SE prog w T h₀ n cf l) (hr : SE prog w T h₀ n cf r) : SE prog w T h₀ n cf (.Compare l [op] [r] pos) := by
  intro A env sc vs st d st' Ls σ s hA hE e S F
  rw [ev_cmp1] at e
  refine bindP e fun a st₁ h1 e => ?_
  refine bindP e fun b st₂ h2 e => ?_
  obtain ⟨c, h3, e⟩ := mapO e
  dsimp only at h2 h3 e
  cases e
  refine wpAny_Compare1 (pv_bind (hl A env sc vs st a st₁ Ls σ s hA hE h1 S F) fun va s₁ σ₁ p r => ?_) (ev_marks h2)
  refine pv_bind (hr A env sc vs st₁ b _ Ls σ₁ s₁ hA hE h2 p.hs (F.step p)) fun vb s₂ σ₂ p₂ r₂ => ?_
  exact cmpop_ok p₂.hs hA.u (p₂.rl r) r₂ h3 ⟨σ₂, p.trans p₂, rfl⟩
theorem se_cmp2 {l r r2 : Expr} (op op2 pos) (hl : SE prog w T h₀ n cf l) (hr : SE prog w T h₀ n cf r) (hr2 : SE prog w T h₀ n cf r2) : SE prog w T h₀ n cf (.Compare l [op, op2] [r, r2] pos) := by
  intro A env sc vs st d st' Ls σ s hA hE e S F
  rw [ev_cmp2] at e
  by_cases hm' : behindInMarks op2 r2 = true
  · rw [if_pos hm'] at e; cases e
  rw [if_neg hm'] at e
  have hm : behindInMarks op2 r2 = false := by simpa using hm'
  refine bindP e fun a st₁ h1 e => ?_
  refine bindP e fun b st₂ h2 e => ?_
  refine bindE e fun c h3 e => ?_
  dsimp only at h2 h3 e
  refine Compare_chain (rs := []) (ops := []) (pv_bind (hl A env sc vs st a st₁ Ls σ s hA hE h1 S F) fun va s₁ σ₁ p r => ?_) (by simpa [lastMarks] using hm)
  refine chain_link (pv_bind (hr A env sc vs st₁ b _ Ls σ₁ s₁ hA hE h2 p.hs (F.step p)) fun vb s₂ σ₂ p₂ r₂ => ?_)
  refine cmpop_ok p₂.hs hA.u (p₂.rl r) r₂ h3 (truthy_bool ?_)
  cases c with
  | false =>
    simp at e
    obtain ⟨rfl, rfl⟩ := e
    exact ⟨σ₂, p.trans p₂, rfl⟩
  | true =>
    simp only [if_true] at e ⊢
    refine bindP e fun e' st₃ h4 e => ?_
    obtain ⟨c', h5, e⟩ := mapO e
    dsimp only at h5 e
    cases e
    refine chain_last (pv_bind (hr2 A env sc vs st₂ e' _ Ls σ₂ s₂ hA hE h4 p₂.hs ((F.step p).step p₂)) fun vc s₃ σ₃ p₃ r₃ => ?_)
    exact cmpop_ok p₃.hs hA.u (p₃.rl r₂) r₃ h5 ⟨σ₃, p.trans (p₂.trans p₃), rfl⟩
/-- a test that is any other expression -/
theorem st_value {e : Expr} (h : SE prog w T h₀ n cf e) (hv : ∀ w sc vs st, evT T cf e w sc vs st = (w sc vs st).bind fun a => match a.1 with | .bool b => some (b, a.2) | _ => none)
    (hi : ∀ env whole, isTrue e env whole = (do let v ← whole; standAt e.pos; holding [v] (truthy v))) : ST prog w T h₀ n cf e := by
  intro A env sc vs st b st' Ls σ s hA hE q S F
  rw [hv] at q
  refine bindP q fun a st₁ h1 q => ?_
  dsimp only at q
  split at q
  · cases q
    refine wpAny_isTrue_value (pv_bind (h A env sc vs st _ _ Ls σ s hA hE h1 S F) fun va s₁ σ₁ p r => ?_) (hi _ _)
    subst r
    exact truthy_bool ⟨rfl, σ₁, p⟩
  · cases q
theorem evT_cmp {l : Expr} {ops : List CmpOp} {rs : List Expr} {pos : Pos} {w : Ev} {sc : Scope} {vs : Vars} {st : Sto} : evT T cf (.Compare l ops rs pos) w sc vs st = (w sc vs st).bind fun a => match a.1 with | .bool b => some (b, a.2) | _ => none := rfl
theorem st_cmp1 {l r : Expr} (op pos) (hl : SE prog w T h₀ n cf l) (hr : SE prog w T h₀ n cf r) : ST prog w T h₀ n cf (.Compare l [op] [r] pos) := by
  intro A env sc vs st bb st' Ls σ s hA hE e S F
  rw [evT_cmp, ev_cmp1] at e
  refine bindP e fun d st₀ h0 e => ?_
  refine bindP h0 fun a st₁ h1 e0 => ?_
  refine bindP e0 fun b st₂ h2 e0 => ?_
  obtain ⟨c, h3, e0⟩ := mapO e0
  dsimp only at h2 h3 e e0
  cases e0
  cases e
  refine wpAny_isTrue_Compare1 (pv_bind (hl A env sc vs st a st₁ Ls σ s hA hE h1 S F) fun va s₁ σ₁ p r => ?_) (ev_marks h2)
  refine pv_bind (hr A env sc vs st₁ b _ Ls σ₁ s₁ hA hE h2 p.hs (F.step p)) fun vb s₂ σ₂ p₂ r₂ => ?_
  exact cmpop_ok p₂.hs hA.u (p₂.rl r) r₂ h3 (truthy_bool ⟨rfl, σ₂, p.trans p₂⟩)
theorem st_cmp2 {l r r2 : Expr} (op op2 pos) (hl : SE prog w T h₀ n cf l) (hr : SE prog w T h₀ n cf r) (hr2 : SE prog w T h₀ n cf r2) : ST prog w T h₀ n cf (.Compare l [op, op2] [r, r2] pos) := by
  intro A env sc vs st bb st' Ls σ s hA hE e S F
  rw [evT_cmp, ev_cmp2] at e
  by_cases hm' : behindInMarks op2 r2 = true
  · rw [if_pos hm'] at e; simp at e
  rw [if_neg hm'] at e
  have hm : behindInMarks op2 r2 = false := by simpa using hm'
  refine bindP e fun d st₀ h0 ee => ?_
  refine bindP h0 fun a st₁ h1 e => ?_
  refine bindP e fun b st₂ h2 e => ?_
  refine bindE e fun c h3 e => ?_
  dsimp only at h2 h3 e ee
  refine isTrue_chain (rs := []) (ops := []) (pv_bind (hl A env sc vs st a _ Ls σ s hA hE h1 S F) fun va s₁ σ₁ p r => ?_) (by simpa [lastMarks] using hm)
  refine test_link (pv_bind (hr A env sc vs _ b _ Ls σ₁ s₁ hA hE h2 p.hs (F.step p)) fun vb s₂ σ₂ p₂ r₂ => ?_)
  refine cmpop_ok p₂.hs hA.u (p₂.rl r) r₂ h3 (truthy_bool ?_)
  cases c with
  | false =>
    simp at e
    obtain ⟨rfl, rfl⟩ := e
    cases ee
    exact ⟨rfl, σ₂, p.trans p₂⟩
  | true =>
    simp only [if_true] at e ⊢
    refine bindP e fun e' st₃ h4 e => ?_
    obtain ⟨c', h5, e⟩ := mapO e
    dsimp only at h5 e
    cases e
    cases ee
    refine test_last (pv_bind (hr2 A env sc vs st₂ e' _ Ls σ₂ s₂ hA hE h4 p₂.hs ((F.step p).step p₂)) fun vc s₃ σ₃ p₃ r₃ => ?_)
    exact cmpop_ok p₃.hs hA.u (p₃.rl r₂) r₃ h5 (truthy_bool ⟨rfl, σ₃, p.trans (p₂.trans p₃)⟩)
theorem st_not {x : Expr} (pos) (h : ST prog w T h₀ n cf x) : ST prog w T h₀ n cf (.UnaryOp .Not x pos) := by
  intro A env sc vs st b st' Ls σ s hA hE e S F
  have e' : (evT T cf x (ev T cf x) sc vs st).map (fun r => (!r.1, r.2)) = some (b, st') := by rw [← e]; simp only [ivT_not, ivT_bool, ivT_cmp, ivT_name, ivT_attr, ivT_call]
  obtain ⟨⟨c, st₁⟩, h1, e⟩ := mapO e'
  cases e
  refine wpAny_isTrue_Not (wpAny_mono (h A env sc vs st c _ Ls σ s hA hE h1 S F) (fun c' s₁ q => ?_) fun u_ u_ x => x)
  obtain ⟨rfl, σ₁, p⟩ := q
  exact ⟨rfl, σ₁, p⟩
theorem st_boolop {es : List Expr} (op pos) (h : STs prog w T h₀ n cf op es) : ST prog w T h₀ n cf (.BoolOp op es pos) := by
  intro A env sc vs st b st' Ls σ s hA hE e S F
  have e' : evTs T cf op es sc vs st = some (b, st') := by rw [← e]; simp only [ivT_not, ivT_bool, ivT_cmp, ivT_name, ivT_attr, ivT_call]
  exact wpAny_isTrue_BoolOp (h A env sc vs st b st' Ls σ s hA hE e' S F)
theorem sts_nil (op) : STs prog w T h₀ n cf op [] := by
  intro A env sc vs st b st' Ls σ s hA hE e S F
  cases e
  exact wpAny_pure ⟨rfl, σ, Stp.refl S⟩
theorem sts_cons {e : Expr} {es : List Expr} (op) (h : ST prog w T h₀ n cf e) (hs : STs prog w T h₀ n cf op es) : STs prog w T h₀ n cf op (e :: es) := by
  intro A env sc vs st b st' Ls σ s hA hE q S F
  refine bindP q fun c st₁ h1 q => ?_
  dsimp only at q
  cases op with
  | And =>
    refine wpAny_allTrue_And_cons (wpAny_mono (h A env sc vs st c _ Ls σ s hA hE h1 S F) (fun c' s₁ z => ?_) fun u_ u_ x => x)
    obtain ⟨rfl, σ₁, p⟩ := z
    cases c' with
    | false => cases q; exact ⟨rfl, σ₁, p⟩
    | true => exact wp_pb p (hs A env sc vs st₁ b st' Ls σ₁ s₁ hA hE q p.hs (F.step p))
  | Or =>
    refine wpAny_allTrue_Or_cons (wpAny_mono (h A env sc vs st c _ Ls σ s hA hE h1 S F) (fun c' s₁ z => ?_) fun u_ u_ x => x)
    obtain ⟨rfl, σ₁, p⟩ := z
    cases c' with
    | true => cases q; exact ⟨rfl, σ₁, p⟩
    | false => exact wp_pb p (hs A env sc vs st₁ b st' Ls σ₁ s₁ hA hE q p.hs (F.step p))
end
end Og
end
section
set_option tactic.hygienic false
namespace Og
open PySem PySem.W PyProof.Rows
section
variable {h : Heap} {X : List Addr} {σ : Hd}
theorem isStr_str (n m : Str) (t : Tok) : (Value.str n t).isStr m = (n == m) := rfl
set_option tactic.hygienic true in
theorem getL_field {a : Str} : ∀ {ns : List Str} {ds : List D} {es : List DictEntry} {d : D}, keysOk ns es → RlL h X σ ds (es.map (·.val)) → fieldOf ns ds a = some d → ∃ v, getL a es = some (some v) ∧ Rl h X σ d v
  | [], _, _, _, _, _, q => by cases q
  | _ :: _, [], _, _, _, _, q => by cases q
  | n :: ns, d' :: ds, _, d, xx0, xx1, q => by
    obtain ⟨e, r, rfl, ⟨t, hk⟩, ko⟩ := xx0
    obtain ⟨v, u, e1, r1, r2⟩ := xx1
    simp only [List.map_cons, List.cons.injEq] at e1
    obtain ⟨rfl, rfl⟩ := e1
    replace q : (if n == a then some d' else fieldOf ns ds a) = some d := q
    unfold getL
    simp only [List.find?_cons, hk, isStr_str]
    split at q
    · rename_i hn
      cases q
      rw [hn]
      exact ⟨_, rfl, r1⟩
    · rename_i hn
      obtain ⟨v, g, rv⟩ := getL_field ko r2 q
      have hn' : (n == a) = false := by simpa using hn
      rw [hn']
      refine ⟨v, ?_, rv⟩
      unfold getL at g
      split at g
      · rename_i e' he; rw [he]; exact g
      · split at g <;> cases g
theorem getL_none {m : Str} : ∀ {ns : List Str} {es : List DictEntry}, keysOk ns es → ns.contains m = false → getL m es = some none
  | [], _, e, _ => by cases e; rfl
  | n :: ns, _, xx0, q => by
    obtain ⟨e, r, rfl, ⟨t, hk⟩, ko⟩ := xx0
    simp only [List.contains_cons, Bool.or_eq_false_iff] at q
    have g := getL_none ko q.2
    have hn : (n == m) = false := by
      have := q.1
      simp only [beq_eq_false_iff_ne, ne_eq] at this ⊢
      exact fun z => this z.symm
    unfold getL at g ⊢
    simp only [List.find?_cons, hk, isStr_str, hn, List.any_cons]
    split at g
    · cases g
    · rename_i hf
      rw [hf]
      have : e.refKey = false := by unfold DictEntry.refKey; rw [hk]
      simp only [this, Bool.false_or]
      exact g
theorem handed_rl : ∀ {d : D} {v : Value}, Rl h X σ d v → handedIn v = true
  | .none, _, r => by cases r; rfl
  | .bool _, _, r => by cases r; rfl
  | .int _, _, xx0 => by
    obtain ⟨_, r⟩ := xx0
    cases r; rfl
  | .str _, _, xx0 => by
    obtain ⟨_, r⟩ := xx0
    cases r; rfl
  | .tup _, _, xx0 => by
    obtain ⟨_, _, r, _⟩ := xx0
    cases r; rfl
  | .lst _, _, xx0 => by
    obtain ⟨_, _, r, _⟩ := xx0
    cases r; rfl
  | .rng _, _, xx0 => by
    obtain ⟨_, _, _, _, r, _⟩ := xx0
    cases r; rfl
  | .inst _ _ _, _, xx0 => by
    obtain ⟨_, _, _, _, r, _⟩ := xx0
    cases r; rfl
  | .ptr _, _, xx0 => by
    obtain ⟨_, _, r⟩ := xx0
    cases r; rfl
end
/-- an object of a class, met as a value -/
theorem inst_rl {h₀ h : Heap} {Ls : List Addr} {σ : Hd} {st : Sto} (S : HS h₀ Ls σ h st) {o : D} {v : Value} {c : Addr × List Str} (e : clsOf st o = some c) (r : Rl h (Xs Ls σ) σ o v) :
    ∃ x dx es k ds, v = .ref x ∧ InstAt h x (instObj c.1 dx) c.1 (some (dictOf es k)) ∧ keysOk c.2 es ∧ RlL h (Xs Ls σ) σ ds (es.map (·.val)) ∧
      ∀ T a d, getA T st o a = some d → (T.attr c.1).contains a = true ∧ fieldOf c.2 ds a = some d := by
  cases o with
  | inst c' ns ds =>
    cases e
    refine hide fun G kG => ?_
    obtain ⟨x, dx, es, k, rfl, n1, n2, g1, g2, ks, q⟩ := r
    refine kG ?_
    clear kG G
    refine ⟨x, dx, es, k, ds, rfl, ⟨g1, rfl, rfl, g2⟩, ks, q, fun T a d z => ?_⟩
    exact iteN z
  | ptr i =>
    refine bindE e fun ob hi e => ?_
    cases ob with
    | lst l => cases e
    | inst c' ns ds =>
      cases e
      refine hide fun G kG => ?_
      obtain ⟨p, hp, rfl⟩ := r
      obtain ⟨p', hp', n1, g1, es, k, g2, ks, q⟩ := S.ob i _ hi
      refine kG ?_
      clear kG G
      rw [hp] at hp'; cases hp'
      exact ⟨p.1, p.2, es, k, ds, rfl, ⟨g1, rfl, rfl, g2⟩, ks, q, fun T a d z => iteN ((obind hi).symm.trans z)⟩
  | _ => cases e
theorem getA_cls {T : Tab} {st : Sto} {o d : D} {a : Str} (e : getA T st o a = some d) : ∃ c, clsOf st o = some c := by
  cases o with
  | inst c ns ds => exact ⟨_, rfl⟩
  | ptr i =>
    refine bindE e fun ob hi e => ?_
    cases ob with
    | lst l => cases e
    | inst c ns ds => exact ⟨(c, ns), obind hi⟩
  | _ => cases e
section
variable {prog : Program} {w : World} {T : Tab} {K : Frag} {h₀ : Heap} {n : Nat} {cf : CF} {mg mb : Str → Option Value}
set_option tactic.hygienic true in
theorem base_plain {o : Expr} {a : Str} {env : Env} (h : notSuper o = true) : attributeBase o a env (eval o env) = eval o env := by
  unfold attributeBase
  split
  · rename_i id p pos
    have : (id != ("super" : Str)) = true := h
    simp [this]
  · rfl
theorem Bed.inK (Gd : Bed w T K h₀ mg mb) {Ls : List Addr} {σ : Hd} {h : Heap} {st : Sto} (S : HS h₀ Ls σ h st) : K.In h := Gd.X.keeps fun a o e => (S.base a o e).2
theorem getA_ok (Gd : Bed w T K h₀ mg mb) {A : Around} {Ls : List Addr} {σ : Hd} {s : Shared} {st : Sto} (S : HS h₀ Ls σ s.heap st) {o d : D} {v : Value} {a : Str} {b : Bool} (r : Rl s.heap (Xs Ls σ) σ o v) (e : getA T st o a = some d) :
    wpAny (model prog w) A (getAttr v a b) (PV h₀ Ls σ s st d) Bot s := by
  refine hide fun G kG => ?_
  obtain ⟨c, hc⟩ := getA_cls e
  obtain ⟨x, dx, es, k, ds, rfl, I, ks, q, f⟩ := inst_rl S hc r
  obtain ⟨ha, hf⟩ := f T a d e
  obtain ⟨g1, g2, g3, -⟩ := Gd.attr _ _ ha
  obtain ⟨v, gv, rv⟩ := getL_field ks q hf
  refine kG ?_
  clear kG G
  exact get_value (Gd.inK S) I (plainGet_of g1).1 (findObj_own g2 g3 rfl gv) (handed_rl rv) (pv_toks S _ rv)
theorem se_attr (Gd : Bed w T K h₀ mg mb) {o : Expr} (a pos) (ho : SE prog w T h₀ n cf o) : SE prog w T h₀ n cf (.Attribute o a pos) := by
  intro A env sc vs st d st' Ls σ s hA hE e S F
  simp only [iv_const, iv_name, iv_boolop, iv_binop, iv_not, iv_neg, iv_ifexp, iv_list, iv_tuple, iv_cmp1, iv_cmp2, iv_callN, iv_callA, iv_attr, iv_slice, iv_comp1] at e
  split at e
  · cases e
  · rename_i hn
    refine bindP e fun x st₁ h1 e => ?_
    obtain ⟨d', h2, e⟩ := mapO e
    cases e
    rw [arm_eval_Attribute, base_plain (by simpa using hn)]
    refine wpAny_bind (pv_bind (ho A env sc vs st x _ Ls σ s hA hE h1 S F) fun v s₁ σ₁ p r => ?_)
    refine wpAny_bind (wpAny_standAt (wpAny_bind (wpAny_holding ?_)))
    refine pv_bind (getA_ok Gd p.hs r h2) fun u s₂ σ₂ p₂ r₂ => ?_
    exact wpAny_bind (wpAny_letTemporaryGo (wpAny_pure ⟨σ₂, p.trans p₂, r₂⟩))
theorem star_all {sc : Scope} {vs : Vars} {env : Env} (pos : Pos) : ∀ {es : List Expr} {st : Sto} {q : List D × Sto}, evs T cf es sc vs st = some q → (backTo pos (starEach es env)).any (·.1) = false
  | [], _, _, _ => rfl
  | e :: es, st, q, h => by
    refine bindP h fun a st₁ h1 h => ?_
    obtain ⟨r, h2, h⟩ := mapO h
    rw [starEach_plain (fun x p c => by subst c; rw [ev_starred] at h1; cases h1)]
    show (false || (backTo pos (starEach es env)).any (·.1)) = false
    rw [star_all pos h2]; rfl
theorem any_all {l : List (Bool × Sem Value)} (h : l.any (·.1) = false) : l.all (fun x => !x.1) = true := by
  induction l with
  | nil => rfl
  | cons a l ih => simp only [List.any_cons, Bool.or_eq_false_iff] at h; simp only [List.all_cons, h.1, ih h.2]; rfl
theorem evalArgs_of {A : Around} {env : Env} {sc : Scope} {vs : Vars} {st : Sto} {pos : Pos} {f : Value} {es : List Expr} {q : List D × Sto} {s : Shared} {Q : Args → Shared → Prop} (he : evs T cf es sc vs st = some q)
    (h : wpAny (model prog w) A (spliced (backTo pos (starEach es env))) (fun us s₁ => Q ⟨us, []⟩ s₁) Bot s) : wpAny (model prog w) A (evalArgs f true (backTo pos (starEach es env)) []) Q Bot s := by
  cases es with
  | nil =>
    unfold evalArgs
    show wpAny (model prog w) A (spliced [] >>= _) Q Bot s
    refine wpAny_bind (wpAny_mono (show wpAny (model prog w) A (spliced []) _ _ _ from h) (fun us s₁ h₁ => wpAny_bind (wpAny_pure ?_)) fun u_ u_ x => x)
    refine wpAny_holding ?_
    exact wpAny_bind (wpAny_pure (wpAny_bind (wpAny_pure (wpAny_pure h₁))))
  | cons e es =>
    refine bindP he fun a st₁ h1 he => ?_
    rw [starEach_plain (fun x p c => by subst c; rw [ev_starred] at h1; cases h1)] at h ⊢
    exact Calls.evalArgs_plain h
end
end Og
end
section
set_option tactic.hygienic false
namespace Og
open PySem PySem.W PyProof.Rows
section
variable {prog : Program} {w : World} {A : Around} {s : Shared}
theorem meets_extendW (l b : Addr) (items items2 : Array Value) (n n2 : Nat) (dd2 : Option Addr) (sl2 : Array (Option Value)) (hs0 : ¬(!items.isEmpty && Builtin.List.listTooLong (items.size + items2.size)) = true) (hs1 : items.size ≤ sizeLine) (hs2 : items.size + items2.size ≤ sizeLine + 1) :
    Meets (Builtin.«list.extend» ⟨[.ref l, .ref b], []⟩) (fun u_ R s => s.heap.get? l = some { cls := .type "list", data := .seq items n } ∧ s.heap.get? b = some { cls := .type "list", dict := dd2, data := .seq items2 n2, slots := sl2 } ∧ R (.ok (.ret Value.none)) { s with heap := s.heap.update l (Obj.mapSeq fun x => x ++ items2), toks := s.toks }) :=
  .of_wp fun prog w A R s h => by
    obtain ⟨hp, g, d, tk, os⟩ := s; obtain ⟨hl, hb, h⟩ := h; have f1 := AutoSeq1.idx_int; have f2 := AutoSeq1.sub_tuple_tuple; have f3 := AutoSeq1.sub_list_list; have f4 := AutoSeq1.sub_tuple_list; have f5 := AutoSeq1.sub_list_tuple
    have hz' : (items ++ items2).size ≤ sizeLine + 1 := by rw [Array.size_append]; exact hs2
    wp_walk using (wpAny_updateSeq hl rfl (hz := hs1) (_hz' := hz')), wpAny_loadPart' hl, wpAny_loadPart' hb; exact ⟨_, rfl, h⟩
theorem list_extendW {E : Value → Shared → Prop} {l b : Addr} {items items2 : Array Value} {n : Nat} {Q : Value → Shared → Prop} (ho : s.heap.get? l = some { cls := .type "list", data := .seq items n }) (hb : s.heap.IsList b items2)
    (hsz : items.size + items2.size ≤ sizeLine) (h : ∀ h' n', Heap.SameBut l s.heap h' → h'.get? l = some { cls := .type "list", data := .seq (items ++ items2) n' } → Q .none { s with heap := h' }) :
    wpAny (model prog w) A (call (.builtin "list.extend") [.ref l, .ref b]) Q E s := by
  refine hide fun G kG => ?_
  obtain ⟨⟨c2, d2, x2, s2⟩, ho2, hc2, n2, hd2⟩ := id hb
  refine kG ?_
  clear kG G
  simp only at hc2 hd2
  subst hc2 hd2
  refine call_meets PySem.F.slot_list_extend ⟨_, ho, rfl⟩ PySem.F.entry_list_extend (PySem.F.args_list_extend_2 _ _) (meets_extendW l b items items2 n n2 d2 s2 (extend_door hsz) (Nat.le_trans (Nat.le_add_right _ _) hsz) (by first | exact Nat.le_trans (by assumption) (Nat.le_of_ble_eq_true rfl) | lia | omega)) ⟨ho, ho2, ?_⟩
  refine h _ (if (items ++ items2).size == items.size then n else n + 1) (Heap.SameBut.update ..) ?_
  rw [Heap.get?_update_self _ ho (by rw [mapSeq_app]; rfl), mapSeq_app]
theorem split_at {E : Value → Shared → Prop} {x y : Str} {t u : Tok} {Q : Value → Shared → Prop} (hy : (y.length == 0) = false) (hsz : x.length ≤ sizeLine)
    (hsz2 : (Builtin.Str.partsBetween x (Builtin.Str.occurrences x y 0 x.length (x.length + 1)) y.length).length ≤ sizeLine)
    (h : ∀ (l : List (Str × Tok)) k, l.map (·.1) = Txt.split x y → Q (.ref s.heap.objs.size) { s with heap := s.heap.push { cls := .type "list", data := .seq (strValues l).toArray }, toks := k }) :
    wpAny (model prog w) A (call (.builtin "str.split") [.str x t, .str y u]) Q E s := by
  cases h1 : (decide (x.length < y.length) || decide (Builtin.Str.strKind x < Builtin.Str.strKind y))
  · cases hf : (Builtin.Str.occurrences x y 0 x.length (x.length + 1)).isEmpty
    · refine call_meets PySem.F.slot_str_split (typeIs_str _ _ _) PySem.F.entry_str_split (PySem.F.args_str_split_2 _ _) (meets_str_split_sep x y t u h1 hy hf hsz hsz2) ?_
      have := h (numbered s.toks (Builtin.Str.partsBetween x (Builtin.Str.occurrences x y 0 x.length (x.length + 1)) y.length))
        (s.toks + (Builtin.Str.partsBetween x (Builtin.Str.occurrences x y 0 x.length (x.length + 1)) y.length).length) ((numbered_texts _ _).trans ((if_neg (ne_true_of_eq_false h1)).trans (if_neg (ne_true_of_eq_false hf))).symm)
      rw [← strsFrom_eq] at this
      exact this
    · exact call_meets PySem.F.slot_str_split (typeIs_str _ _ _) PySem.F.entry_str_split (PySem.F.args_str_split_2 _ _) (meets_str_split_not_found x y t u h1 hy hf)
        (h [(x, t)] _ ((if_neg (ne_true_of_eq_false h1)).trans (if_pos hf)).symm)
  · exact call_meets PySem.F.slot_str_split (typeIs_str _ _ _) PySem.F.entry_str_split (PySem.F.args_str_split_2 _ _) (meets_str_split_cannot_occur x y t u h1)
      (h [(x, t)] _ (if_pos h1).symm)
variable {h₀ : Heap} {Ls : List Addr} {σ : Hd} {st st' : Sto}
theorem rlL_strs {h : Heap} {X : List Addr} : ∀ (l : List (Str × Tok)), RlL h X σ ((l.map (·.1)).map .str) (strValues l)
  | [] => rfl
  | p :: l => ⟨.str p.1 p.2, strValues l, rfl, ⟨_, rfl⟩, rlL_strs l⟩
theorem ints_rl {h : Heap} {X : List Addr} {σ : Hd} : ∀ {l : List D} {ys : List Int} {vs : List Value}, intsOf l = some ys → RlL h X σ l vs → ∃ ts : List (Int × Tok), vs = ts.map (fun p => Value.int p.1 p.2) ∧ ts.map (·.1) = ys
  | [], _, _, q, r => by cases q; cases r; exact ⟨[], rfl, rfl⟩
  | .int x :: l, _, _, q, xx0 => by
    obtain ⟨v, u, e, ⟨t, a⟩, b⟩ := xx0
    obtain ⟨ys, hy, rfl⟩ := mapO q
    obtain ⟨ts, h1, h2⟩ := ints_rl hy b
    subst e a h1
    exact ⟨(x, t) :: ts, rfl, by rw [← h2]; rfl⟩
  | .none :: _, _, _, q, _ => by cases q
  | .bool _ :: _, _, _, q, _ => by cases q
  | .str _ :: _, _, _, q, _ => by cases q
  | .tup _ :: _, _, _, q, _ => by cases q
  | .lst _ :: _, _, _, q, _ => by cases q
  | .rng _ :: _, _, _, q, _ => by cases q
  | .inst _ _ _ :: _, _, _, q, _ => by cases q
  | .ptr _ :: _, _, _, q, _ => by cases q
theorem preSum_eq (xs : Array (Int × Tok)) : ∀ j, j ≤ xs.size → preSum (numAt xs) j = ((xs.toList.map (·.1)).take j).sum
  | 0, _ => rfl
  | j + 1, h => by
    show preSum (numAt xs) j + numAt xs j = _
    rw [preSum_eq xs j (by first | exact Nat.le_trans (by assumption) (Nat.le_of_ble_eq_true rfl) | lia | omega)]
    have hj : j < (xs.toList.map (·.1)).length := by simp; first | exact Nat.le_trans (by assumption) (Nat.le_of_ble_eq_true rfl) | lia | omega
    rw [List.take_succ_eq_append_getElem hj, List.sum_append]
    have : numAt xs j = (xs.toList.map (·.1))[j] := by
      have h' : j < xs.size := by first | exact Nat.le_trans (by assumption) (Nat.le_of_ble_eq_true rfl) | lia | omega
      unfold numAt; simp [h']
    rw [this]; simp
theorem sum_le {ys : List Int} {B : Int} (h : ∀ i ∈ ys, 0 ≤ i ∧ i ≤ B) : 0 ≤ ys.sum ∧ ys.sum ≤ ys.length * B := by
  induction ys with
  | nil => simp
  | cons a l ih =>
    have h1 := h a (.head _)
    have h2 := ih fun i hi => h i (.tail _ hi)
    simp only [List.sum_cons, List.length_cons]
    have : ((l.length + 1 : Nat) : Int) * B = l.length * B + B := by rw [Int.natCast_add, Int.add_mul]; simp
    rw [this]
    first | exact Nat.le_trans (by assumption) (Nat.le_of_ble_eq_true rfl) | lia | omega
/-- the built-in behind a method's name -/
noncomputable def strId (m : Str) : String := if m == ("join" : Str) then "str.join" else if m == ("split" : Str) then "str.split" else if m == ("find" : Str) then "str.find" else "str.lower"
noncomputable def lstId (m : Str) : String := if m == ("append" : Str) then "list.append" else "list.extend"
theorem strMeth_get {x m : Str} {t : Tok} {args : List D} {d : D} (e : strMeth x m args st = some d) {pl : Sem Bool} {Q : Value × List Value → Shared → Prop} {E : Value → Shared → Prop}
    (q : Q (.builtin (strId m), [.str x t]) s) : wpAny (model prog w) A (getMethod (.str x t) m pl) Q E s := by
  refine bindE e fun k h e => ?_
  clear e
  exact look (P := fun m _ => Q (.builtin (strId m), [.str x t]) s → wpAny (model prog w) A (getMethod (.str x t) m pl) Q E s) h ⟨fun q => GM.join q, fun q => GM.split q, fun q => GM.find q, fun q => GM.lower q, trivial⟩ q
theorem lstMeth_get {m : Str} {i : Nat} {x : D} {r : D × Sto} (e : lstMeth m i x st = some r) {a : Addr} {us : Array Value} (pl : s.heap.PlainList a us) {pl' : Sem Bool} {Q : Value × List Value → Shared → Prop} {E : Value → Shared → Prop}
    (q : Q (.builtin (lstId m), [.ref a]) s) : wpAny (model prog w) A (getMethod (.ref a) m pl') Q E s := by
  obtain ⟨n, hpl⟩ := pl
  obtain ⟨l, -, ⟨rfl, -⟩ | ⟨rfl, -⟩⟩ := lmE e
  · exact Calls.getMethod_list_append hpl rfl rfl q
  · exact getMethod_builtin (T := "list") ⟨_, hpl, rfl⟩ PySem.F.plainAttrs_list PySem.F.slot_list_extend PySem.F.type_list_extend (fun a e => by cases e; exact ⟨_, hpl, rfl⟩) q
theorem sm_join {x : Str} {t : Tok} {args : List D} {vs : List Value} {d : D} (S : HS h₀ Ls σ s.heap st) (r : RlL s.heap (Xs Ls σ) σ args vs) (e : smRun x .join args = some d) :
    wpAny (model prog w) A (call (.builtin "str.join") (.str x t :: vs) []) (PV h₀ Ls σ s st d) Bot s := by
  match args, e with
  | [a], e =>
    refine bindE e fun l h1 e => ?_
    cases itsDE h1
    refine bindE e fun ys hys e => ?_
    obtain ⟨hsz, e⟩ := iteN e
    cases e
    obtain ⟨v, u, rfl, ⟨a, us, rfl, hn, hl, rl⟩, r2⟩ := r
    cases r2
    obtain ⟨ts, rfl, rfl⟩ := strs_rl hys rl
    refine SC.join (l := ts) hl rfl ?_ fun t' k => pv_toks S _ ⟨_, rfl⟩
    unfold JoinOk
    rw [StrLaws.joinTotal]
    simp only [Bool.not_eq_true', Builtin.Str.tooLong, sizeLine]
    exact decide_eq_false (by first | exact Nat.le_trans (by assumption) (Nat.le_of_ble_eq_true rfl) | lia | omega)
  | [], e => cases e
  | [_, _], e => cases e
  | _ :: _ :: _ :: _, e => cases e
theorem sm_split {x : Str} {t : Tok} {args : List D} {vs : List Value} {d : D} (S : HS h₀ Ls σ s.heap st) (r : RlL s.heap (Xs Ls σ) σ args vs) (e : smRun x .split args = some d) :
    wpAny (model prog w) A (call (.builtin "str.split") (.str x t :: vs) []) (PV h₀ Ls σ s st d) Bot s := by
  match args, e with
  | [a], e =>
    refine bindE e fun y h1 e => ?_
    cases strDE h1
    obtain ⟨hc, e⟩ := iteN e
    cases e
    obtain ⟨v, u, rfl, ⟨t', rfl⟩, r2⟩ := r
    cases r2
    refine split_at hc.1 (by rw [sizeLine_eq]; first | exact Nat.le_trans (by assumption) (Nat.le_of_ble_eq_true rfl) | lia | omega) (by rw [sizeLine_eq]; first | exact Nat.le_trans (by assumption) (Nat.le_of_ble_eq_true rfl) | lia | omega) fun l k hl => ?_
    rw [← hl]
    exact new_list S (rlL_strs l) k
  | [], e => cases e
  | [_, _], e => cases e
  | _ :: _ :: _ :: _, e => cases e
theorem sm_find {x : Str} {t : Tok} {args : List D} {vs : List Value} {d : D} (S : HS h₀ Ls σ s.heap st) (r : RlL s.heap (Xs Ls σ) σ args vs) (e : smRun x .find args = some d) :
    wpAny (model prog w) A (call (.builtin "str.find") (.str x t :: vs) []) (PV h₀ Ls σ s st d) Bot s := by
  match args, e with
  | [a, b], e =>
    refine bindE e fun y h1 e => mapE e fun i h2 e => ?_
    cases strDE h1
    cases numDE h2
    cases e
    obtain ⟨v, u, rfl, ⟨t', rfl⟩, v2, u2, rfl, ⟨t2, rfl⟩, r2⟩ := r
    cases r2
    exact SC.find3 (pv_toks S _ ⟨_, rfl⟩)
  | [], e => cases e
  | [_], e => cases e
  | _ :: _ :: _ :: _, e => cases e
theorem sm_lower {x : Str} {t : Tok} {args : List D} {vs : List Value} {d : D} (S : HS h₀ Ls σ s.heap st) (r : RlL s.heap (Xs Ls σ) σ args vs) (e : smRun x .lower args = some d) :
    wpAny (model prog w) A (call (.builtin "str.lower") (.str x t :: vs) []) (PV h₀ Ls σ s st d) Bot s := by
  match args, e with
  | [], e =>
    obtain ⟨hl, e⟩ := iteN e
    cases e
    cases r
    exact PyProof.Rows.SCL.lower (by first | exact Nat.le_trans (by assumption) (Nat.le_of_ble_eq_true rfl) | lia | omega) fun _ => pv_toks S _ ⟨_, rfl⟩
  | [_], e => cases e
  | [_, _], e => cases e
  | _ :: _ :: _ :: _, e => cases e
theorem strMeth_ok {x m : Str} {t : Tok} {args : List D} {vs : List Value} {d : D} (S : HS h₀ Ls σ s.heap st) (r : RlL s.heap (Xs Ls σ) σ args vs) (e : strMeth x m args st = some d) :
    wpAny (model prog w) A (call (.builtin (strId m)) (.str x t :: vs) []) (PV h₀ Ls σ s st d) Bot s :=
  bindE e fun k h e => look (P := fun m k => smRun x k args = some d → wpAny (model prog w) A (call (.builtin (strId m)) (.str x t :: vs) []) (PV h₀ Ls σ s st d) Bot s) h ⟨fun e => sm_join S r e, fun e => sm_split S r e, fun e => sm_find S r e, fun e => sm_lower S r e, trivial⟩ e
theorem lstMeth_ok {m : Str} {i : Nat} {x d : D} {v v2 : Value} (S : HS h₀ Ls σ s.heap st) (r : Rl s.heap (Xs Ls σ) σ (.ptr i) v) (r2 : Rl s.heap (Xs Ls σ) σ x v2) (e : lstMeth m i x st = some (d, st')) :
    wpAny (model prog w) A (call (.builtin (lstId m)) [v, v2] []) (PV h₀ Ls σ s st' d) Bot s := by
  refine hide fun G kG => ?_
  obtain ⟨l, hl, H⟩ := lmE e
  obtain ⟨p, hp, rfl⟩ := r
  obtain ⟨p', hp', e1, vs, pl, rl⟩ := S.ob i _ hl
  refine kG ?_
  clear kG G
  rw [hp] at hp'; cases hp'
  have fin : ∀ (h' : Heap) (l' : List D) (vs' : List Value), Heap.SameBut p.2 s.heap h' → h'.PlainList p.2 vs'.toArray → (RlL s.heap (Xs Ls σ) σ l' vs') → PV h₀ Ls σ s (st.set i (.lst l')) .none .none { s with heap := h' } := by
    intro h' l' vs' hs hpl hr
    have kk : ∀ a o, a ≠ p.2 → s.heap.get? a = some o → h'.get? a = some o := fun a o n q => (hs.2 a n).trans q
    have E0 : Ext s.heap (Xs Ls σ) h' (Xs Ls σ) := fun a o n q => ⟨n, kk a o (fun z => n (z ▸ List.mem_append.mpr (.inr (List.mem_map.mpr ⟨p, List.mem_of_getElem? hp, rfl⟩)))) q⟩
    obtain ⟨S', E', KL⟩ := S.put (ob := .lst l') hp kk ⟨e1, vs', hpl, RlL.mono E0 (fun u_ u_ q => q) _ _ hr⟩
    exact ⟨σ, ⟨⟨h', s.toks, rfl⟩, S', ⟨[], by simp⟩, E', KL⟩, rfl⟩
  rcases H with ⟨rfl, hlen, he⟩ | ⟨rfl, k, rfl, hlen, he⟩
  · cases he
    rw [e1]
    refine wpAny_list_append_plain pl (fun h' hpl hs => ?_) (by have := rl.length; simp [sizeLine_eq]; first | exact Nat.le_trans (by assumption) (Nat.le_of_ble_eq_true rfl) | lia | omega)
    exact fin h' _ (vs ++ [v2]) hs (by simpa using hpl) (rl.snoc r2)
  · cases he
    obtain ⟨b, us, rfl, hnb, hlb, rlb⟩ := r2
    rw [e1]
    obtain ⟨n, ho⟩ := pl
    have h1 := rl.length
    have h2 := rlb.length
    have hsz : vs.toArray.size + us.toArray.size ≤ sizeLine := by simp [sizeLine_eq]; first | exact Nat.le_trans (by assumption) (Nat.le_of_ble_eq_true rfl) | lia | omega
    refine list_extendW ho hlb hsz (fun h' n' hs hpl => ?_)
    exact fin h' _ (vs ++ us) hs ⟨n', by simpa using hpl⟩ (rl.append rlb)
end
end Og
end
section
set_option tactic.hygienic false
namespace Og
open PySem PySem.W PyProof.Rows
section
variable {prog : Program} {w : World} {A : Around} {s : Shared} {h₀ : Heap} {Ls : List Addr} {σ : Hd} {st st' : Sto}
theorem pv_grow (S : HS h₀ Ls σ s.heap st) {h' : Heap} (k : Kps s.heap h') (t : Nat) {d : D} {v : Value} (r : ∀ X, Rl h' X σ d v) : PV h₀ Ls σ s st d v { s with heap := h', toks := t } :=
  ⟨σ, Stp.grow S t k, r _⟩
theorem bi_one {args : List D} {vs : List Value} {k : Bk} {d : D} {X : List Addr} (r : RlL s.heap X σ args vs) (e : biRun st k args = some d) (hk : k ≠ .max) : ∃ a v, vs = [v] ∧ bi1 st a k = some d ∧ Rl s.heap X σ a v := by
  match args, e with
  | [a], e => obtain ⟨v, u, rfl, r1, r2⟩ := r; cases r2; exact ⟨a, v, rfl, e, r1⟩
  | [], e => cases e
  | [_, _], e => cases k <;> first | exact absurd rfl hk | cases e
  | _ :: _ :: _ :: _, e => cases e
theorem lenDE {a : D} {n : Nat} (h : lenD st a = some n) : (∃ y, a = .str y ∧ n = y.length) ∨ ∃ l, lstOf st a = some l ∧ n = l.length := by
  unfold lenD at h
  cases hs : strD a with
  | some y => rw [hs] at h; cases h; exact .inl ⟨y, strDE hs, rfl⟩
  | none => rw [hs] at h; obtain ⟨l, hl, rfl⟩ := mapO h; exact .inr ⟨l, hl, rfl⟩
theorem bk_len {args : List D} {vs : List Value} {d : D} (S : HS h₀ Ls σ s.heap st) (r : RlL s.heap (Xs Ls σ) σ args vs) (e : biRun st .len args = some d) : wpAny (model prog w) A (call (.builtin "len") vs []) (PV h₀ Ls σ s st d) Bot s := by
  obtain ⟨a, v, rfl, e, r⟩ := bi_one r e nofun
  refine bindE e fun n hn e => ?_
  obtain ⟨hl, e⟩ := iteN e
  cases e
  rcases lenDE hn with ⟨y, rfl, rfl⟩ | ⟨l, hL, rfl⟩
  · obtain ⟨t', rfl⟩ := r
    exact PySem.P.len_str (by first | lia | omega) (pv_toks S _ ⟨_, rfl⟩)
  · obtain ⟨a, us, rfl, t, q⟩ := lst_rl S hL r
    have hlen := q.length
    refine Calls.call_len_list t (by simp; first | lia | omega) (pv_toks S _ ⟨s.toks + 1, ?_⟩)
    simp [hlen]
theorem bk_int {args : List D} {vs : List Value} {d : D} (S : HS h₀ Ls σ s.heap st) (r : RlL s.heap (Xs Ls σ) σ args vs) (e : biRun st .int args = some d) : wpAny (model prog w) A (call (.type "int") vs []) (PV h₀ Ls σ s st d) Bot s := by
  obtain ⟨a, v, rfl, e, r⟩ := bi_one r e nofun
  refine bindE e fun y hy e => ?_
  cases strDE hy
  obtain ⟨hl, e⟩ := iteN e
  obtain ⟨i, hi, rfl⟩ := mapO e
  obtain ⟨t', rfl⟩ := r
  exact PySem.W.KIN.call_text hi (by assumption) (pv_toks S _ ⟨_, rfl⟩)
theorem bk_str {args : List D} {vs : List Value} {d : D} (S : HS h₀ Ls σ s.heap st) (r : RlL s.heap (Xs Ls σ) σ args vs) (e : biRun st .str args = some d) : wpAny (model prog w) A (call (.type "str") vs []) (PV h₀ Ls σ s st d) Bot s := by
  obtain ⟨a, v, rfl, e, r⟩ := bi_one r e nofun
  refine bindE e fun i hy e => ?_
  cases numDE hy
  obtain ⟨hi, e⟩ := iteN e
  cases e
  obtain ⟨t', rfl⟩ := r
  refine PySem.P.str_of_int ?_ (pv_toks S _ ⟨_, rfl⟩)
  rcases Nat.eq_zero_or_pos i.natAbs with h0 | h0
  · rw [h0]; decide
  · exact (Nat.log2_lt (by first | lia | omega)).mpr (Nat.lt_trans hi (by decide +kernel))
theorem bk_max (hA : A.handled = none) {args : List D} {vs : List Value} {d : D} (S : HS h₀ Ls σ s.heap st) (r : RlL s.heap (Xs Ls σ) σ args vs) (e : biRun st .max args = some d) : wpAny (model prog w) A (call (.builtin "max") vs []) (PV h₀ Ls σ s st d) Bot s := by
  match args, e with
  | [a, b], e =>
    refine bindE e fun i h1 e => mapE e fun j h2 e => ?_
    cases numDE h1
    cases numDE h2
    cases e
    obtain ⟨v, u, rfl, ⟨t', rfl⟩, v2, u2, rfl, ⟨t2, rfl⟩, r2⟩ := r
    cases r2
    refine max_two_ints hA fun h' tk k => pv_grow S k tk fun X => ?_
    by_cases hc : j > i
    · rw [if_pos hc]; exact ⟨_, congrArg (Value.int · _) (if_pos hc).symm⟩
    · rw [if_neg hc]; exact ⟨_, congrArg (Value.int · _) (if_neg hc).symm⟩
  | [], e => cases e
  | [_], e => cases e
  | _ :: _ :: _ :: _, e => cases e
theorem bk_chr {args : List D} {vs : List Value} {d : D} (S : HS h₀ Ls σ s.heap st) (r : RlL s.heap (Xs Ls σ) σ args vs) (e : biRun st .chr args = some d) : wpAny (model prog w) A (call (.builtin "chr") vs []) (PV h₀ Ls σ s st d) Bot s := by
  obtain ⟨a, v, rfl, e, r⟩ := bi_one r e nofun
  refine bindE e fun i hy e => ?_
  cases numDE hy
  obtain ⟨hc, e⟩ := iteN e
  cases e
  obtain ⟨t', rfl⟩ := r
  exact PyProof.Rows.chr_of_range hc.1 hc.2 (pv_toks S _ ⟨_, rfl⟩)
theorem bk_ord {args : List D} {vs : List Value} {d : D} (S : HS h₀ Ls σ s.heap st) (r : RlL s.heap (Xs Ls σ) σ args vs) (e : biRun st .ord args = some d) : wpAny (model prog w) A (call (.builtin "ord") vs []) (PV h₀ Ls σ s st d) Bot s := by
  obtain ⟨a, v, rfl, e, r⟩ := bi_one r e nofun
  refine bindE e fun i hy e => ?_
  cases strDE hy
  obtain ⟨hc, e⟩ := iteN e
  cases e
  obtain ⟨t', rfl⟩ := r
  exact PyProof.Rows.ord_of_one hc (pv_toks S _ ⟨_, rfl⟩)
theorem bk_sum (hA : A.handled = none) {args : List D} {vs : List Value} {d : D} (S : HS h₀ Ls σ s.heap st) (r : RlL s.heap (Xs Ls σ) σ args vs) (e : biRun st .sum args = some d) : wpAny (model prog w) A (call (.builtin "sum") vs []) (PV h₀ Ls σ s st d) Bot s := by
  obtain ⟨a, v, rfl, e, r⟩ := bi_one r e nofun
  refine bindE e fun l hy e1 => bindE e1 fun ys hys e2 => ?_
  obtain ⟨hc, e3⟩ := iteN e2
  cases itsDE hy
  cases e3
  clear e e1 e2 hy
  obtain ⟨a, us, rfl, hn, hl, rl⟩ := r
  obtain ⟨ts, rfl, rfl⟩ := ints_rl hys rl
  have hl' : s.heap.IsList a (intItems ts.toArray) := by
    have : (List.map (fun p => Value.int p.1 p.2) ts).toArray = intItems ts.toArray := by simp [intItems]
    rw [← this]; exact hl
  have hall : ∀ i ∈ ts.map (·.1), 0 ≤ i ∧ i ≤ 1000000000 := fun i hi => by
    have := List.all_eq_true.mp hc.2 i hi
    simpa using this
  have hlen : ts.length ≤ 10000 := by simpa using hc.1
  clear hc hl
  have pre : ∀ j, j ≤ ts.length → 0 ≤ preSum (numAt ts.toArray) j ∧ preSum (numAt ts.toArray) j ≤ 10000 * 1000000000 := fun j hj => by
    rw [preSum_eq _ j (by simpa using hj)]
    have h1 := sum_le (B := 1000000000) (ys := (ts.map (·.1)).take j) fun i hi => hall i (List.mem_of_mem_take hi)
    have h2 : (((ts.map (·.1)).take j).length : Int) ≤ 10000 := by
      have : ((ts.map (·.1)).take j).length ≤ 10000 := by simp; first | lia | omega
      first | lia | omega
    have h3 : (((ts.map (·.1)).take j).length : Int) * 1000000000 ≤ 10000 * 1000000000 := Int.mul_le_mul_of_nonneg_right h2 (by decide)
    exact ⟨h1.1, Int.le_trans h1.2 h3⟩
  refine sum_intList hA hl' (fun j hj => ⟨?_, ?_⟩) fun h' tk t' k => pv_grow S k tk fun X => ⟨t', ?_⟩
  · have hj' : j < ts.length := by simpa using hj
    have : numAt ts.toArray j = (ts.map (·.1))[j]'(by simpa using hj') := by unfold numAt; simp [hj']
    have := hall (numAt ts.toArray j) (this ▸ List.getElem_mem _)
    unfold InLong; first | lia | omega
  · have := pre (j + 1) (by have : j < ts.length := by simpa using hj
                            first | lia | omega)
    unfold InLong; first | lia | omega
  · rw [preSum_eq _ _ (Nat.le_refl _)]
    congr 1
    show (List.take ts.toArray.size (List.map (fun x => x.fst) ts)).sum = _
    rw [List.take_of_length_le (by simp)]
theorem bk_tuple {args : List D} {vs : List Value} {d : D} (S : HS h₀ Ls σ s.heap st) (r : RlL s.heap (Xs Ls σ) σ args vs) (e : biRun st .tuple args = some d) : wpAny (model prog w) A (call (.type "tuple") vs []) (PV h₀ Ls σ s st d) Bot s := by
  obtain ⟨a, v, rfl, e, r⟩ := bi_one r e nofun
  refine bindE e fun l hl e => ?_
  obtain ⟨hc, e⟩ := iteN e
  cases e
  obtain ⟨a, us, rfl, t, q⟩ := lst_rl S hl r
  have hlen := q.length
  refine call_tuple_list t (fun h' k => ?_) (by simp [sizeLine_eq]; first | lia | omega)
  have G := Stp.grow (st := st) S s.toks k
  exact pv_step G (new_tuple G.hs (G.rlL q) s.toks)
theorem bk_range {args : List D} {vs : List Value} {d : D} (S : HS h₀ Ls σ s.heap st) (r : RlL s.heap (Xs Ls σ) σ args vs) (e : biRun st .range args = some d) : wpAny (model prog w) A (call (.type "range") vs []) (PV h₀ Ls σ s st d) Bot s := by
  obtain ⟨a, v, rfl, e, r⟩ := bi_one r e nofun
  refine bindE e fun n hy e => ?_
  cases numDE hy
  obtain ⟨hn, e⟩ := iteN e
  cases e
  obtain ⟨t', rfl⟩ := r
  refine call_range_1 ⟨σ, Stp.grow S _ (kps_push _ _), _, _, _, _, rfl, S.fresh (get_size _), IsRange.new .., hn⟩
theorem biCall_ok {x : Str} {args : List D} {vs : List Value} {f : Value} {d : D} (hA : A.handled = none) (S : HS h₀ Ls σ s.heap st) (r : RlL s.heap (Xs Ls σ) σ args vs) (hf : biVal x = some f) (e : biCall x args st = some d) :
    wpAny (model prog w) A (call f vs []) (PV h₀ Ls σ s st d) Bot s :=
  bindE e fun k h e => by
    obtain ⟨k', h', rfl⟩ := mapO hf
    cases h.symm.trans h'
    cases k with
    | len => exact bk_len S r e
    | int => exact bk_int S r e
    | str => exact bk_str S r e
    | max => exact bk_max hA S r e
    | chr => exact bk_chr S r e
    | ord => exact bk_ord S r e
    | sum => exact bk_sum hA S r e
    | tuple => exact bk_tuple S r e
    | range => exact bk_range S r e
end
end Og
end
section
set_option tactic.hygienic false
namespace Og
open PySem PySem.W PyProof.Rows
section
variable {prog : Program} {w : World} {T : Tab} {K : Frag} {h₀ : Heap} {n : Nat} {cf : CF} {mg mb : Str → Option Value}
theorem AOk.call {A : Around} (h : AOk n A) : A.handled = none ∧ A.depth + 3 * n + 1 < recursionLimit ∧ A.units + 20 * n + 100 < cLine := ⟨h.1, by have := h.2.1; first | lia | omega, by have := h.2.2; first | lia | omega⟩
/-- a function of the text, called -/
theorem fn_call (hcf : CFok prog w h₀ n cf) {A : Around} (hA : AOk n A) {Ls : List Addr} {σ : Hd} {s : Shared} {st st' : Sto} {f : Addr} {ds : List D} {vs : List Value} {d : D}
    (e : cf f ds st = some (d, st')) (S : HS h₀ Ls σ s.heap st) (r : RlL s.heap (Xs Ls σ) σ ds vs) : wpAny (model prog w) A (call (.ref f) vs []) (PV h₀ Ls σ s st' d) Bot s := by
  obtain ⟨a1, a2, a3⟩ := hA.call
  exact wpAny_call (codeAny_mono (hcf f ds st d st' e A a1 a2 a3 Ls σ s vs S r) fun r s' ⟨v, hr, q⟩ => by subst hr; exact q)
theorem callWith_fn {A : Around} {env : Env} {sc : Scope} {vs : Vars} {st : Sto} {pos : Pos} {f : Value} {first : List Value} {es : List Expr} {q : List D × Sto} {s : Shared} {Q : Value → Shared → Prop} (hk : keepIn K f = true) (he : evs T cf es sc vs st = some q)
    (h : wpAny (model prog w) A (spliced (backTo pos (starEach es env))) (fun us s₁ => K.In s₁.heap ∧ wpAny (model prog w) A (call f (first ++ us) []) Q Bot s₁) Bot s) :
    wpAny (model prog w) A (callWith pos f first (backTo pos (starEach es env)) []) Q Bot s :=
  callWith_of (by rw [star_all pos he]; rfl) (keeps_K hk) (evalArgs_of he h)
/-- a new object of a class -/
theorem cls_call (Gd : Bed w T K h₀ mg mb) (hcf : CFok prog w h₀ n cf) {A : Around} (hA : AOk n A) {Ls : List Addr} {σ : Hd} {s : Shared} {st st' : Sto} {x : Str} {c ini : Addr} {keep : Bool} {ds : List D} {vs : List Value} {d : D}
    (hx : T.glob x = some (.cls c ini keep)) (e : nameCall T cf x ds st = some (d, st')) (S : HS h₀ Ls σ s.heap st) (r : RlL s.heap (Xs Ls σ) σ ds vs) :
    wpAny (model prog w) A (call (.ref c) vs []) (PV h₀ Ls σ s st' d) Bot s := by
  obtain ⟨-, -, hm, hi, ht⟩ := Gd.cls _ _ _ _ hx
  simp only [nameCall, hx] at e
  refine bindP e fun d₁ st₁ h1 e => ?_
  have X := Gd.inK S
  obtain ⟨hh, g, dr, t, os⟩ := s
  refine wpAny_call (make_core (makes_of X hm) (looks_findIn X hi) (fun self => bind_fn X self ht) (.inl rfl) ?_)
  have k1 := kps_push hh emptyDict
  have k2 := kps_push (hh.push emptyDict) (instObj c hh.objs.size)
  have kk : Kps hh ((hh.push emptyDict).push (instObj c hh.objs.size)) := fun a o q => k2 a o (k1 a o q)
  have hx1 : ((hh.push emptyDict).push (instObj c hh.objs.size)).get? (hh.objs.size + 1) = some (instObj c hh.objs.size) := by heap_get
  have hd1 : ((hh.push emptyDict).push (instObj c hh.objs.size)).get? hh.objs.size = some emptyDict := Heap.get?_push_of_some _ (Heap.get?_push_size _ rfl)
  have nd : hh.get? (hh.objs.size + 1) = none := by
    cases q : hh.get? (hh.objs.size + 1) with
    | none => rfl
    | some o => exact absurd (Heap.lt_size q) (Nat.not_lt.mpr (Nat.le_succ _))
  have hXs : Xs Ls (σ ++ [(hh.objs.size + 1, hh.objs.size)]) = Xs Ls σ ++ [hh.objs.size] := by simp [Xs]
  have nX : hh.objs.size + 1 ∉ Xs Ls (σ ++ [(hh.objs.size + 1, hh.objs.size)]) := by
    rw [hXs]
    intro q
    rcases List.mem_append.mp q with q | q
    · exact S.fresh nd q
    · have := List.mem_singleton.mp q; first | lia | omega
  obtain ⟨S', E'⟩ := S.make kk (p := (hh.objs.size + 1, hh.objs.size)) (ob := .inst c [] []) (get_size _) ⟨nX, hx1, [], 0, hd1, rfl, rfl⟩
  have hl : (σ ++ [(hh.objs.size + 1, hh.objs.size)])[st.length]? = some (hh.objs.size + 1, hh.objs.size) := by rw [← S.len]; simp
  have P0 : Stp h₀ Ls σ ⟨hh, g, dr, t, os⟩ (σ ++ [(hh.objs.size + 1, hh.objs.size)]) ⟨(hh.push emptyDict).push (instObj c hh.objs.size), g, dr, t, os⟩ (st ++ [.inst c [] []]) :=
    ⟨⟨_, t, rfl⟩, S', ⟨_, rfl⟩, E', fun a u_ o q => kk a o q⟩
  obtain ⟨a1, a2, a3⟩ := hA
  have hu : (A.under (.builtin "type.__call__" ⟨.ref c :: vs, []⟩)).handled = none ∧ (A.under (.builtin "type.__call__" ⟨.ref c :: vs, []⟩)).depth + 3 * n + 1 < recursionLimit ∧ (A.under (.builtin "type.__call__" ⟨.ref c :: vs, []⟩)).units + 20 * n + 100 < cLine := by
    have w1 : Code.weight (.builtin "type.__call__" ⟨.ref c :: vs, []⟩) = 1 := by kernel_rfl
    have w2 : Code.cUnits (.builtin "type.__call__" ⟨.ref c :: vs, []⟩) = 1 := by kernel_rfl
    refine ⟨a1, ?_, ?_⟩
    · show A.depth + Code.weight _ + 3 * n + 1 < recursionLimit
      rw [w1]; first | lia | omega
    · show A.units + Code.cUnits _ + 20 * n + 100 < cLine
      rw [w2]; first | lia | omega
  refine codeAny_mono (hcf ini _ _ _ _ h1 _ hu.1 hu.2.1 hu.2.2 Ls _ ⟨(hh.push emptyDict).push (instObj c hh.objs.size), g, dr, t, os⟩ (.ref (hh.objs.size + 1) :: vs) S' ⟨_, vs, rfl, ⟨_, hl, rfl⟩, P0.rlL r⟩) ?_
  rintro r s' ⟨v, rfl, σ₁, P1, rv⟩
  have P := P0.trans P1
  split at e
  · rename_i hd
    dsimp only at hd
    subst hd
    cases rv
    refine ⟨rfl, ?_⟩
    have hl' : σ₁[st.length]? = some (hh.objs.size + 1, hh.objs.size) := P1.sub _ _ hl
    split at e
    · cases e
      exact ⟨σ₁, P, _, hl', rfl⟩
    · refine bindE e fun d₂ h2 e => ?_
      obtain ⟨st₂, h3, e⟩ := mapO e
      cases e
      obtain ⟨S₂, fz⟩ := P1.hs.cut st.length h3
      have ht : σ₁.take st.length = σ := by
        obtain ⟨τ, rfl⟩ := P.pre
        rw [← S.len]; simp
      rw [ht] at S₂ fz
      have E2 : Ext s'.heap (Xs Ls σ₁) s'.heap (Xs Ls σ) := by have := ext_take (h := s'.heap) (Ls := Ls) (σ := σ₁) st.length; rwa [ht] at this
      exact ⟨σ, ⟨P.same, S₂, ⟨[], by simp⟩, P.ext.trans E2, P.kept⟩, fz _ _ _ h2 ⟨_, hl', rfl⟩⟩
  · cases e
theorem bi_shape {x : Str} {f : Value} (h : biVal x = some f) : (∃ i, f = .builtin i) ∨ ∃ t, f = .type t := by
  obtain ⟨k, -, rfl⟩ := mapO h
  cases k <;> first | exact .inl ⟨_, rfl⟩ | exact .inr ⟨_, rfl⟩
theorem se_call (Gd : Bed w T K h₀ mg mb) (hcf : CFok prog w h₀ n cf) {es : List Expr} (x np pos) (h : SL prog w T h₀ n cf es) : SE prog w T h₀ n cf (.Call (.Name x np) es [] pos) := by
  intro A env sc vs st d st' Ls σ s hA hE e S F
  simp only [iv_const, iv_name, iv_boolop, iv_binop, iv_not, iv_neg, iv_ifexp, iv_list, iv_tuple, iv_cmp1, iv_cmp2, iv_callN, iv_callA, iv_attr, iv_slice, iv_comp1] at e
  split at e
  · cases e
  · rename_i hx
    have hx' : (x == ("__debug__" : Str)) = false := by
      simp only [Bool.or_eq_true, not_or, Bool.not_eq_true] at hx; exact hx.1
    split at e
    · rename_i hk
      refine bindP e fun ds st₁ h1 e => ?_
      dsimp only at e
      refine wpAny_Call_ofName ?_
      show wpAny (model prog w) A (eval (.Name x np) env) (fun f s₁ => wpAny (model prog w) A (callWith pos f [] (backTo pos (starEach es env)) []) _ _ s₁) _ _
      have e0 := e
      cases hf : T.glob x with
      | none => cases (nc_eq hf).symm.trans e
      | some g =>
      replace e := (nc_eq hf).symm.trans e
      cases g with
      | fn f =>
        obtain ⟨g1, g2⟩ := Gd.fn _ _ hf
        refine load_global Gd hE S hk hx' g1 (callWith_fn g2 h1 (pl_bind (h A env sc vs st ds st₁ Ls σ s pos hA hE h1 S F) fun us s₁ σ₁ p r => ⟨Gd.inK p.hs, ?_⟩))
        exact wp_pv p (fn_call hcf hA e p.hs r)
      | cls c ini keep =>
        obtain ⟨g1, g2, -⟩ := Gd.cls _ _ _ _ hf
        refine load_global Gd hE S hk hx' g1 (callWith_fn g2 h1 (pl_bind (h A env sc vs st ds st₁ Ls σ s pos hA hE h1 S F) fun us s₁ σ₁ p r => ⟨Gd.inK p.hs, ?_⟩))
        exact wp_pv p (cls_call Gd hcf hA hf e0 p.hs r)
      | bi =>
        obtain ⟨d', h2, e⟩ := mapO e
        cases e
        obtain ⟨g1, f, g2, g3⟩ := Gd.bi _ hf
        refine load_builtin Gd hE S hk hx' g1 g3 ?_
        have body : wpAny (model prog w) A (evalArgs f true (backTo pos (starEach es env)) []) (fun a s₁ => wpAny (model prog w) A (call f ([] ++ a.pos) a.kw) (PV h₀ Ls σ s st' d) Bot s₁) Bot s :=
          evalArgs_of h1 (pl_bind (h A env sc vs st ds _ Ls σ s pos hA hE h1 S F) fun us s₁ σ₁ p r => wp_pv p (biCall_ok hA.1 p.hs r g2 h2))
        rcases bi_shape g2 with ⟨i, rfl⟩ | ⟨t, rfl⟩
        · exact Calls.callWith_builtin (star_all pos h1) body
        · exact PySem.callWith_type (star_all pos h1) body
      | val d => cases e
    · cases e
theorem pickC_fn {T : Tab} {m : Str} {c : Addr × List Str} {p : Pick} (h : pickC T m c = some p) : ∃ f, p = .fn f ∧ T.meth c.1 m = some f ∧ c.2.contains m = false := by
  refine bindE h fun f h1 h => ?_
  refine iteE h (fun u_ k => nomatch k) fun hc k => ?_
  cases k
  exact ⟨f, rfl, h1, Bool.eq_false_iff.mpr hc⟩
theorem pick_str {st : Sto} {o : D} {m x : Str} (h : pick T st o m = some (.str x)) : o = .str x := by
  cases o with
  | str s => cases h; rfl
  | inst c ns ds => obtain ⟨f, e, -⟩ := pickC_fn h; cases e
  | ptr i =>
    obtain ⟨ob, -, h⟩ := bindO h
    cases ob with
    | lst l => cases h
    | inst c ns ds => obtain ⟨f, e, -⟩ := pickC_fn h; cases e
  | _ => cases h
theorem pick_fn {st : Sto} {o : D} {m : Str} {f : Addr} (h : pick T st o m = some (.fn f)) : ∃ c, clsOf st o = some c ∧ T.meth c.1 m = some f ∧ c.2.contains m = false := by
  cases o with
  | inst c ns ds => obtain ⟨f, e, h⟩ := pickC_fn h; cases e; exact ⟨_, rfl, h⟩
  | ptr i =>
    refine bindE h fun ob hi h => ?_
    cases ob with
    | lst l => cases h
    | inst c ns ds => obtain ⟨f, e, h⟩ := pickC_fn h; cases e; exact ⟨_, obind hi, h⟩
  | _ => cases h
theorem pick_lst {st : Sto} {o : D} {m : Str} (h : pick T st o m = some .lst) : ∃ i l, o = .ptr i ∧ st[i]? = some (.lst l) := by
  cases o with
  | inst c ns ds => obtain ⟨f, e, h⟩ := pickC_fn h; cases e
  | ptr i =>
    refine bindE h fun ob hi h => ?_
    cases ob with
    | lst l => exact ⟨i, l, rfl, hi⟩
    | inst c ns ds => obtain ⟨f, e, h⟩ := pickC_fn h; cases e
  | _ => cases h
theorem se_meth (Gd : Bed w T K h₀ mg mb) (hcf : CFok prog w h₀ n cf) {o : Expr} {es : List Expr} (m ap pos) (ho : SE prog w T h₀ n cf o) (h : SL prog w T h₀ n cf es) : SE prog w T h₀ n cf (.Call (.Attribute o m ap) es [] pos) := by
  intro A env sc vs st d st' Ls σ s hA hE e S F
  simp only [iv_const, iv_name, iv_boolop, iv_binop, iv_not, iv_neg, iv_ifexp, iv_list, iv_tuple, iv_cmp1, iv_cmp2, iv_callN, iv_callA, iv_attr, iv_slice, iv_comp1] at e
  split at e
  · cases e
  · rename_i hx
    simp only [Bool.or_eq_true, not_or, Bool.not_eq_true, decide_eq_true_eq, Bool.not_eq_false', bne_iff_ne, ne_eq, Decidable.not_not] at hx
    obtain ⟨⟨hlen, hsup⟩, hline⟩ := hx
    refine bindP e fun a st₁ h1 e => ?_
    refine bindE e fun pk h2 e => ?_
    refine bindP e fun ds st₂ h3 e => ?_
    dsimp only at h2 h3 e
    rw [arm_eval_Call, base_plain (by simpa using hsup)]
    refine wpAny_bind (pv_bind (ho A env sc vs st a _ Ls σ s hA hE h1 S F) fun v s₁ σ₁ p r => ?_)
    refine wpAny_bind (wpAny_standAt ?_)
    have hform : methodCallForm (es.length + ([] : List Keyword).length) (backTo pos (starEach es env)) (backToKw pos (keywordEach [] env)) = true := by
      unfold methodCallForm
      rw [any_all (star_all pos h3)]
      show (true && decide (es.length + 0 + 0 < 30)) = true
      simp; first | lia | omega
    have hpos : methodCallPos true o env ap pos = pure pos := by unfold methodCallPos; simp [hline]
    unfold methodCall
    rw [hform]
    have fin : ∀ (f : Value), (∀ Q : Value × List Value → Shared → Prop, Q (f, [v]) s₁ → wpAny (model prog w) A (getMethod v m (do return (← importBound o env).getD true)) Q Bot s₁) →
        wpAny (model prog w) A (callWith pos f [v] (backTo pos (starEach es env)) []) (PV h₀ Ls σ s st' d) Bot s₁ →
        wpAny (model prog w) A (do
          let (f, first) ← holding [v] (calleeOf true o env v m)
          let callPos ← methodCallPos true o env ap pos
          callWith callPos f first (backTo pos (starEach es env)) (backToKw pos (keywordEach [] env))) (PV h₀ Ls σ s st' d) Bot s₁ := fun f hm hc =>
      wpAny_bind (wpAny_holding (hm _ (wpAny_bind (wpAny_of_eq hpos hc))))
    have hS := h A env sc vs st₁ ds st₂ Ls σ₁ s₁ pos hA hE h3 p.hs (F.step p)
    have F₁ := F.step p
    cases pk with
    | str x =>
      have := pick_str h2
      subst this
      obtain ⟨t, rfl⟩ := r
      obtain ⟨d', h4, e⟩ := mapO e
      cases e
      refine fin (.builtin (strId m)) (fun Q q => strMeth_get h4 q) (Calls.callWith_builtin (star_all pos h3) (evalArgs_of h3 (pl_bind hS fun us s₂ σ₂ p₂ r₂ => ?_)))
      exact wp_pv (p.trans p₂) (strMeth_ok p₂.hs r₂ h4)
    | fn f =>
      refine hide fun G kG => ?_
      obtain ⟨c, hc, hm, hn⟩ := pick_fn h2
      obtain ⟨g1, g2, g3, g4⟩ := Gd.meth _ _ _ hm
      obtain ⟨x, dx, es', k, ds', rfl, I, ks, -, -⟩ := inst_rl p.hs hc r
      refine kG ?_
      clear kG G
      have hsh : shadowIn (some (dictOf es' k)) m = some false := by show (lookIn m (dictOf es' k)).map _ = _; rw [lookIn_dict, getL_none ks hn]; rfl
      refine fin (.ref f) (fun Q q => method_fn (Gd.inK p.hs) I (plainGet_of g1).1 (plainGet_of g1).2 g2 g3 hsh q) (callWith_fn g4 h3 (pl_bind hS fun us s₂ σ₂ p₂ r₂ => ⟨Gd.inK p₂.hs, ?_⟩))
      exact wp_pv (p.trans p₂) (fn_call hcf hA e p₂.hs ⟨_, us, rfl, p₂.rl r, r₂⟩)
    | lst =>
      obtain ⟨i, l, rfl, hl⟩ := pick_lst h2
      rcases ds with _ | ⟨x, _ | ⟨y, zs⟩⟩
      · cases e
      · replace e : lstMeth m i x st₂ = some (d, st') := e
        have r0 := r
        refine hide fun G kG => ?_
        obtain ⟨pp, hp, rfl⟩ := r
        obtain ⟨p', hp', e1, us, pl, -⟩ := p.hs.ob i _ hl
        refine kG ?_
        clear kG G
        rw [hp] at hp'; cases hp'
        refine fin (.builtin (lstId m)) (fun Q q => lstMeth_get e (by rw [e1]; exact pl) q) (Calls.callWith_builtin (star_all pos h3) (evalArgs_of h3 (pl_bind hS fun us s₂ σ₂ p₂ r₂ => ?_)))
        obtain ⟨v2, u2, rfl, q1, q2⟩ := r₂
        cases q2
        exact wp_pv (p.trans p₂) (lstMeth_ok p₂.hs (p₂.rl r0) q1 e)
      · cases e
end
end Og
end
section
set_option tactic.hygienic false
namespace Og
open PySem PySem.W PyProof.Rows
section
variable {h₀ h h' : Heap} {N Ls : List Addr} {σ : Hd} {st : Sto}
/-- new addresses that may change -/
theorem HS.enter (S : HS h₀ Ls σ h st) (nd : N.Nodup) (fr : ∀ a ∈ N, h.get? a = none) (k : Kps h h') (al : ∀ a ∈ N, ∃ o, h'.get? a = some o) :
    HS h₀ (N ++ Ls) σ h' st ∧ Ext h (Xs Ls σ) h' (Xs (N ++ Ls) σ) := by
  have hX : Xs (N ++ Ls) σ = N ++ Xs Ls σ := by simp [Xs]
  have E : Ext h (Xs Ls σ) h' (Xs (N ++ Ls) σ) := by
    intro a o n e
    refine ⟨?_, k a o e⟩
    rw [hX]
    intro q
    rcases List.mem_append.mp q with q | q
    · rw [fr a q] at e; cases e
    · exact n q
  refine ⟨⟨?_, fun a ha => ?_, fun a o e => E a o (S.base a o e).1 (S.base a o e).2, S.len, fun i ob e => ?_⟩, E⟩
  · rw [hX, List.nodup_append]
    refine ⟨nd, S.nd, fun a ha b hb q => ?_⟩
    subst q
    obtain ⟨o, ho⟩ := S.alive a hb
    rw [fr a ha] at ho; cases ho
  · rcases List.mem_append.mp ha with ha | ha
    · exact al a ha
    · obtain ⟨o, ho⟩ := S.al a ha; exact ⟨o, k a o ho⟩
  · obtain ⟨p, hp, r⟩ := S.ob i ob e
    exact ⟨p, hp, r.mono E (fun u_ u_ z => z) fun o z => k _ o z⟩
/-- addresses that may change are changed -/
theorem HS.touch (S : HS h₀ Ls σ h st) (sub : ∀ a ∈ N, a ∈ Ls) (k : ∀ a o, a ∉ N → h.get? a = some o → h'.get? a = some o) (al : ∀ a ∈ N, ∃ o, h'.get? a = some o) :
    HS h₀ Ls σ h' st ∧ Ext h (Xs Ls σ) h' (Xs Ls σ) := by
  have nd := List.nodup_append.mp S.nd
  have E : Ext h (Xs Ls σ) h' (Xs Ls σ) := fun a o n e => ⟨n, k a o (fun q => n (List.mem_append.mpr (.inl (sub a q)))) e⟩
  refine ⟨⟨S.nd, fun a ha => ?_, fun a o e => E a o (S.base a o e).1 (S.base a o e).2, S.len, fun i ob e => ?_⟩, E⟩
  · by_cases q : a ∈ N
    · exact al a q
    · obtain ⟨o, ho⟩ := S.al a ha; exact ⟨o, k a o q ho⟩
  · obtain ⟨p, hp, r⟩ := S.ob i ob e
    exact ⟨p, hp, r.mono E (fun u_ u_ z => z) fun o z => k _ o (fun q => nd.2.2 _ (sub _ q) _ (List.mem_map.mpr ⟨p, List.mem_of_getElem? hp, rfl⟩) rfl) z⟩
/-- addresses that may change are given up -/
theorem HS.away (S : HS h₀ (N ++ Ls) σ h st) (k : ∀ a o, a ∉ N → h.get? a = some o → h'.get? a = some o) :
    HS h₀ Ls σ h' st ∧ (∀ a o, a ∉ Xs (N ++ Ls) σ → h.get? a = some o → a ∉ Xs Ls σ ∧ h'.get? a = some o) ∧ ∀ a ∈ Ls, ∀ o, h.get? a = some o → h'.get? a = some o := by
  have hX : Xs (N ++ Ls) σ = N ++ Xs Ls σ := by simp [Xs]
  have nd := S.nd
  rw [hX] at nd
  have nd := List.nodup_append.mp nd
  have E : Ext h (Xs (N ++ Ls) σ) h' (Xs Ls σ) := fun a o n e => by
    rw [hX] at n
    exact ⟨fun q => n (List.mem_append.mpr (.inr q)), k a o (fun q => n (List.mem_append.mpr (.inl q))) e⟩
  have KL : ∀ a ∈ Ls, ∀ o, h.get? a = some o → h'.get? a = some o := fun a ha o e => k a o (fun q => nd.2.2 a q a (List.mem_append.mpr (.inl ha)) rfl) e
  refine ⟨⟨nd.2.1, fun a ha => ?_, fun a o e => E a o (S.base a o e).1 (S.base a o e).2, S.len, fun i ob e => ?_⟩, E, KL⟩
  · obtain ⟨o, ho⟩ := S.al a (List.mem_append.mpr (.inr ha)); exact ⟨o, KL a ha o ho⟩
  · obtain ⟨p, hp, r⟩ := S.ob i ob e
    exact ⟨p, hp, r.mono E (fun u_ u_ z => z) fun o z => k _ o (fun q => nd.2.2 _ q _ (List.mem_append.mpr (.inr (List.mem_map.mpr ⟨p, List.mem_of_getElem? hp, rfl⟩))) rfl) z⟩
end
theorem fresh_ge {h : Heap} {a : Addr} (q : h.objs.size ≤ a) : h.get? a = none := by
  cases e : h.get? a with
  | none => rfl
  | some o => exact absurd (Heap.lt_size e) (Nat.not_lt.mpr q)
/-- an iterator at the start of the items -/
structure IterAt (prog : Program) (w : World) (A : Around) (h : Heap) (X : List Addr) (items : List D) (I : Addr) (fp : List Addr) (P : Nat → Value → Prop) (St : Nat → Heap → Prop) : Prop where
  W : Walks prog w A I fp [I] items.length P St
  fp : ∀ b ∈ fp, b ≠ I → b ∉ X ∧ ∃ o, h.get? b = some o
  al : ∀ i h', St i h' → ∃ o, h'.get? I = some o
  nc : ∀ i h', St i h' → ∀ o, h'.get? I = some o → ∀ v, o.data ≠ .cell v
  val : ∀ i v d, P i v → items[i]? = some d → ∀ h' X' σ', Ext h X h' X' → Rl h' X' σ' d v
  tup : (∀ i h', St i h' → ∃ l j, h'.IsListIter I l j) ∨ ∀ d ∈ items, ∀ ds, d ≠ .tup ds
section
variable {prog : Program} {w : World} {A : Around} {s : Shared} {h₀ : Heap} {Ls : List Addr} {σ : Hd} {st : Sto}
theorem npL_get : ∀ {l : List D} {i : Nat} {d : D}, npL l = true → l[i]? = some d → np d = true
  | [], _, _, _, q => by simp at q
  | x :: l, 0, _, h, q => Option.some.inj q ▸ and1 h
  | x :: l, i + 1, _, h, q => npL_get (l := l) (i := i) (and2 h) q
theorem iter_lst {X : List Addr} {l : List D} {a : Addr} {vs : List Value} (hA : A.handled = none) (hn : a ∉ X) (hl : s.heap.IsList a vs.toArray) (hnp : npL l = true) (r : RlL s.heap X σ l vs) {E : Value → Shared → Prop} {Q : Value → Shared → Prop}
    (h : ∀ o fp P St, IterAt prog w A s.heap X l s.heap.objs.size fp P St → St 0 (s.heap.push o) → Q (.ref s.heap.objs.size) { s with heap := s.heap.push o }) : wpAny (model prog w) A (pyIter (.ref a)) Q E s := by
  have hlen := r.length
  obtain ⟨oa, hoa, -⟩ := id hl
  have hne : a ≠ s.heap.objs.size := Nat.ne_of_lt (Heap.lt_size hoa)
  refine wpAny_pyIter_list hl (h _ [s.heap.objs.size, a] (fun i v => vs.toArray[i]? = some v) (fun i h => h.IsListIter s.heap.objs.size a i ∧ h.IsList a vs.toArray) ⟨?_, ?_, ?_, ?_, ?_, ?_⟩ ⟨⟨_, Heap.get?_push_size _ rfl, rfl, rfl⟩, hl.push _⟩)
  · have := Walks.list (prog := prog) (w := w) hA s.heap.objs.size a hne vs.toArray
    rw [show vs.toArray.size = l.length by simp [hlen]] at this
    exact this
  · intro b hb hbI
    simp at hb
    rcases hb with hb | hb
    · exact absurd hb hbI
    · subst hb; exact ⟨hn, oa, hoa⟩
  · intro i h' q; obtain ⟨o, ho, -⟩ := q.1; exact ⟨o, ho⟩
  · intro i h' q o ho v z; obtain ⟨o', ho', _, hd⟩ := q.1; rw [ho] at ho'; cases ho'; rw [hd] at z; cases z
  · intro i v d hP hd h' X' σ' e
    obtain ⟨v', hv', rv⟩ := r.get hd
    have : v' = v := by
      have : vs[i]? = some v := by simpa using hP
      rw [hv'] at this; exact Option.some.inj this
    subst this
    exact Rl.npm e d v' (npL_get hnp hd) rv
  · exact .inl fun i h' q => ⟨a, i, q.1⟩
set_option tactic.hygienic true in
theorem iter_ok (hA : A.handled = none) {X : List Addr} {d : D} {v : Value} {items : List D} (e : itemsOf d = some items) (r : Rl s.heap X σ d v) {E : Value → Shared → Prop} {Q : Value → Shared → Prop}
    (h : ∀ o fp P St, IterAt prog w A s.heap X items s.heap.objs.size fp P St → St 0 (s.heap.push o) → Q (.ref s.heap.objs.size) { s with heap := s.heap.push o }) : wpAny (model prog w) A (pyIter v) Q E s := by
  cases d with
  | lst l =>
      obtain ⟨hc, e⟩ := iteN e
      cases e
      obtain ⟨a, vs, rfl, hn, hl, q⟩ := r
      exact iter_lst hA hn hl (by simpa using (Bool.and_eq_true_iff.mp hc).1) q h
  | str x =>
      obtain ⟨hc, e⟩ := iteN e
      cases e
      obtain ⟨t, rfl⟩ := r
      refine wpAny_pyIter_ascii hc.2 (h _ [s.heap.objs.size] (SignAt x) (fun i h => h.IsStrIter s.heap.objs.size "str_ascii_iterator" x t i) ⟨?_, ?_, ?_, ?_, ?_, ?_⟩ ⟨_, Heap.get?_push_size _ rfl, rfl, rfl⟩)
      · have := Walks.strAscii (prog := prog) (w := w) hA s.heap.objs.size x t
        rw [show x.cps.size = (chars x).length by simp [chars]] at this
        exact this
      · intro b hb hbI; simp at hb; exact absurd hb hbI
      · intro i h' q; obtain ⟨o, ho, -⟩ := q; exact ⟨o, ho⟩
      · intro i h' q o ho v z; obtain ⟨o', ho', _, hd⟩ := q; rw [ho] at ho'; cases ho'; rw [hd] at z; cases z
      · intro i v d ⟨c, u, h1, h2⟩ hd h' X' σ' e
        simp only [chars, List.getElem?_map, Option.map_eq_some_iff] at hd
        obtain ⟨c', hc', rfl⟩ := hd
        have : c' = c := by rw [Array.getElem?_toList, h1] at hc'; exact (Option.some.inj hc').symm
        subst this
        exact ⟨u, h2⟩
      · refine .inr fun d hd ds q => ?_
        simp only [chars, List.mem_map] at hd
        obtain ⟨c, _, rfl⟩ := hd
        cases q
  | rng n =>
    cases e
    refine hide fun G kG => ?_
    obtain ⟨a, t, u, w', rfl, hn, hr, h0, h1⟩ := r
    obtain ⟨m, rfl⟩ : ∃ m : Nat, n = m := ⟨n.toNat, by first | lia | omega⟩
    refine kG ?_
    clear kG G
    have hsz : Builtin.Range.rangeSize 0 (m : Int) 1 = m := by
      rw [rangeSize_one]; split <;> first | lia | omega
    refine wpAny_pyIter_range hr (small_one (by first | lia | omega) (by first | lia | omega) (by first | lia | omega) (by first | lia | omega)) (h _ [s.heap.objs.size] (fun i v => ∃ t, v = .int (0 + i * 1) t) (fun i h => IsRangeIter h s.heap.objs.size (0 + (i : Nat) * 1) ((m : Int) - (i : Nat)) 1) ⟨?_, ?_, ?_, ?_, ?_, ?_⟩ ?_)
    · have := Walks.range (prog := prog) (w := w) hA s.heap.objs.size 0 1 m
      rw [show (upto (m : Int)).length = m by simp [upto]]
      exact this
    · intro b hb hbI; simp at hb; exact absurd hb hbI
    · intro i h' q; exact ⟨_, q⟩
    · intro i h' q o ho v z; rw [q] at ho; cases ho; cases z
    · intro i v d ⟨t, h1⟩ hd h' X' σ' e
      simp only [upto, List.getElem?_map, Option.map_eq_some_iff] at hd
      obtain ⟨c', hc', rfl⟩ := hd
      have : c' = i := by
        have := (List.getElem?_eq_some_iff.mp hc')
        obtain ⟨_, q⟩ := this; simpa using q.symm
      subst this
      exact ⟨t, by rw [h1]; simp⟩
    · refine .inr fun d hd ds q => ?_
      simp only [upto, List.mem_map] at hd
      obtain ⟨c, _, rfl⟩ := hd
      cases q
    · rw [hsz]
      have := Heap.get?_push_size s.heap (o := { cls := .type "range_iterator", data := .fields #[rawInt 0, rawInt (m : Int), rawInt 1] }) rfl
      simpa [IsRangeIter] using this
  | _ => cases e
end
end Og
end
section
set_option tactic.hygienic false
namespace Og
open PySem PySem.W PyProof.Rows
theorem setV_lookup {x : Str} {d : D} (y : Str) : ∀ vs : Vars, (setV x d vs).lookup y = if y == x then some d else vs.lookup y
  | [] => by show (match y == x with | true => some d | false => none) = _; cases y == x <;> rfl
  | (z, e) :: r => by
    show (if z == x then (x, d) :: r else (z, e) :: setV x d r).lookup y = _
    by_cases hz : z == x
    · rw [if_pos hz]
      have hz := eq_of_beq hz
      subst hz
      simp only [List.lookup_cons]
      cases y == z <;> rfl
    · rw [if_neg hz]
      simp only [List.lookup_cons, setV_lookup y r]
      by_cases hy : y == z
      · have hy' := eq_of_beq hy
        subst hy'
        simp [hz]
      · have : (y == z) = false := by simpa using hy
        rw [this]
/-- a step that changes nothing but one namespace -/
structure Tch (h₀ : Heap) (Ls : List Addr) (σ : Hd) (L : Addr) (s s' : Shared) (st : Sto) : Prop where
  same : ∃ h' tk, s' = { s with heap := h', toks := tk }
  off : ∀ a o, a ≠ L → s.heap.get? a = some o → s'.heap.get? a = some o
  hs : HS h₀ Ls σ s'.heap st
  ext : Ext s.heap (Xs Ls σ) s'.heap (Xs Ls σ)
theorem Tch.trans {h₀ : Heap} {Ls : List Addr} {σ : Hd} {L : Addr} {s s' s'' : Shared} {st : Sto} (p : Tch h₀ Ls σ L s s' st) (q : Tch h₀ Ls σ L s' s'' st) : Tch h₀ Ls σ L s s'' st where
  same := by obtain ⟨h', tk, rfl⟩ := p.same; obtain ⟨h'', tk', rfl⟩ := q.same; exact ⟨h'', tk', rfl⟩
  off := fun a o n e => q.off a o n (p.off a o n e)
  hs := q.hs
  ext := p.ext.trans q.ext
theorem Tch.refl {h₀ : Heap} {Ls : List Addr} {σ : Hd} {L : Addr} {s : Shared} {st : Sto} (S : HS h₀ Ls σ s.heap st) : Tch h₀ Ls σ L s s st := ⟨⟨_, _, rfl⟩, fun u_ u_ u_ e => e, S, Ext.refl _ _⟩
section
variable {prog : Program} {w : World} {A : Around} {s : Shared} {h₀ : Heap} {Ls : List Addr} {σ : Hd} {st : Sto} {env : Env} {sc : Scope} {vs : Vars}
/-- a name of the frame is set -/
theorem set_local (hE : EnvOk env sc) (S : HS h₀ Ls σ s.heap st) (F : FR Ls σ s.heap env sc vs) {x : Str} {d : D} {v : Value} (hx : sc.names.lookup x = some .local) (r : Rl s.heap (Xs Ls σ) σ d v) {E : Value → Shared → Prop} {Q : Unit → Shared → Prop}
    (h : ∀ s', Tch h₀ Ls σ env.locals s s' st → FR Ls σ s'.heap env sc (setV x d vs) → Q () s') : wpAny (model prog w) A (storeName env x v) Q E s := by
  obtain ⟨m, hn, hv⟩ := F.ns
  refine wpAny_storeName_local (by rw [kindOf_eq hE]; exact hx) hn (fun h' hn' hs' => ?_) (by rw [hE.scope, hE.kind]; rfl)
  obtain ⟨S', E'⟩ := S.touch (N := [env.locals]) (h' := h') (fun a ha => by rw [List.mem_singleton.mp ha]; exact F.loc) (fun a o n e => (hs'.2 a (fun q => n (by rw [q]; simp))).trans e)
    (fun a ha => by rw [List.mem_singleton.mp ha]; obtain ⟨o, es, ep, ho, _⟩ := hn'; exact ⟨o, ho⟩)
  refine h _ ⟨⟨h', _, rfl⟩, fun a o n e => (hs'.2 a n).trans e, S', E'⟩ ⟨F.loc, ⟨_, hn', fun y e hy hk => ?_⟩, fun y e hy hk => ?_⟩
  · rw [setV_lookup] at hy
    by_cases q : y = x
    · subst q
      simp at hy
      subst hy
      exact ⟨v, by simp, Rl.mono E' (fun u_ u_ z => z) _ _ r⟩
    · have q' : (y == x) = false := by simpa using q
      rw [q'] at hy
      obtain ⟨u, h1, h2⟩ := hv y e (by simpa using hy) hk
      exact ⟨u, by simp [q, h1], Rl.mono E' (fun u_ u_ z => z) _ _ h2⟩
  · rw [setV_lookup] at hy
    by_cases q : y = x
    · subst q; rw [hx] at hk; cases hk
    · have q' : (y == x) = false := by simpa using q
      rw [q'] at hy
      refine hide fun G kG => ?_
      obtain ⟨c, u, h1, h2, ⟨o, ho, hd⟩, h4⟩ := F.cl y e (by simpa using hy) hk
      refine kG ?_
      clear kG G
      refine ⟨c, u, h1, h2, ⟨o, (hs'.2 c (fun z => ?_)).trans ho, hd⟩, Rl.mono E' (fun u_ u_ z => z) _ _ h4⟩
      subst z
      obtain ⟨o', es, ep, ho', hd', _⟩ := hn
      rw [ho] at ho'; cases ho'
      rw [hd] at hd'; cases hd'
theorem assignEach_name {x : Str} {p : Pos} {es : List Expr} : assignEach (.Name x p :: es) env = (false, assign (.Name x p) env) :: assignEach es env := by
  rfl
theorem names_len : ∀ {es : List Expr} {ds : List D} {vs vs' : Vars}, bindNames es ds vs = some vs' → es.length = ds.length ∧ (assignEach es env).length = es.length ∧ (assignEach es env).findIdx? (·.1) = none
  | [], [], _, _, _ => ⟨rfl, rfl, rfl⟩
  | [], _ :: _, _, _, h => by cases h
  | e :: es, [], _, _, h => by cases h
  | e :: es, d :: ds, vs, vs', h => by
    obtain ⟨x, hx, hh⟩ := bindO h; replace h := hh; clear hh
    obtain ⟨p, rfl⟩ := nmE hx
    obtain ⟨h1, h2, h3⟩ := names_len h
    rw [assignEach_name]
    refine ⟨by simp [h1], by simp [h2], ?_⟩
    rw [List.findIdx?_cons]
    simp [h3]
theorem names_ok (hE : EnvOk env sc) {E : Value → Shared → Prop} {Q : Unit → Shared → Prop} : ∀ {es : List Expr} {ds : List D} {us : List Value} {vs vs' : Vars} {s : Shared}, HS h₀ Ls σ s.heap st → FR Ls σ s.heap env sc vs → allNames sc es = true → bindNames es ds vs = some vs' →
    RlL s.heap (Xs Ls σ) σ ds us → (∀ s', Tch h₀ Ls σ env.locals s s' st → FR Ls σ s'.heap env sc vs' → Q () s') → wpAny (model prog w) A (assignInOrder ((assignEach es env).map (·.2)) us) Q E s
  | [], [], us, vs, vs', s, S, F, _, h, r, k => by
    cases h
    cases r
    exact wpAny_pure (k s (Tch.refl S) F)
  | [], _ :: _, _, _, _, _, _, _, _, h, _, _ => by cases h
  | e :: es, [], _, _, _, _, _, _, _, h, _, _ => by cases h
  | e :: es, d :: ds, us, vs, vs', s, S, F, a, h, xx0, k => by
    obtain ⟨v, us', e1, r1, r2⟩ := xx0
    obtain ⟨x, p, rfl, hx⟩ := okNE (and1 a)
    subst e1
    rw [assignEach_name]
    refine wpAny_assignInOrder_more (wpAny_assign_Name (set_local hE S F hx r1 fun s₁ T F₁ => ?_))
    exact names_ok hE T.hs F₁ (and2 a) h (RlL.mono T.ext (fun u_ u_ z => z) _ _ r2) fun s' T' F' => k s' (T.trans T') F'
/-- a loop's target is bound -/
theorem bind_ok (hA : A.handled = none) (hE : EnvOk env sc) (S : HS h₀ Ls σ s.heap st) (F : FR Ls σ s.heap env sc vs) {t : Expr} {d : D} {v : Value} {vs' : Vars} (ok : okT sc t = true) (e : bindT t d vs = some vs') (r : Rl s.heap (Xs Ls σ) σ d v)
    {E : Value → Shared → Prop} {Q : Unit → Shared → Prop} (h : ∀ s', Tch h₀ Ls σ env.locals s s' st → FR Ls σ s'.heap env sc vs' → Q () s') : wpAny (model prog w) A (assign t env v) Q E s := by
  rcases bindTE e with ⟨x, p, rfl, rfl⟩ | ⟨es, k, p, ds, rfl, rfl, e⟩
  · exact wpAny_assign_Name (set_local hE S F (eq_of_beq ok) r h)
  · refine hide fun G kG => ?_
    obtain ⟨a, us, rfl, hn, ht, q⟩ := r
    obtain ⟨h1, h2, h3⟩ := names_len (env := env) e
    refine kG ?_
    clear kG G
    refine wpAny_assign_Tuple hA ht (by rw [h2, h1, ← q.length]; simp) h3 fun h' hk => ?_
    have kk := kps_extBut hk
    obtain ⟨S', E'⟩ : HS h₀ Ls σ h' st ∧ Ext s.heap (Xs Ls σ) h' (Xs Ls σ) := ⟨S.grow kk, kps_ext kk _⟩
    have P := Stp.grow S s.toks kk
    have F' := F.step P
    refine names_ok (s := { s with heap := h' }) hE S' F' ok e (RlL.mono E' (fun u_ u_ z => z) _ _ q) fun s' T' F' => h s' ?_ F'
    exact Tch.trans ⟨⟨h', s.toks, rfl⟩, fun a o n e => kk a o e, S', E'⟩ T'
/-- the cells that a comprehension takes along -/
theorem closure_ok (sc' : Scope) (hc : ∀ p ∈ sc'.names, p.2 = .free → ∃ c, env.cells.lookup p.1 = some c) :
    ∃ cl, closureFor sc' env = pure cl ∧ ∀ x c, (x, NameKind.free) ∈ sc'.names → env.cells.lookup x = some c → cl.lookup x = some c := by
  unfold closureFor
  have key : ∀ (l : List (Str × NameKind)) (acc : List (Str × Addr)), (∀ p ∈ l, p.2 = .free → ∃ c, env.cells.lookup p.1 = some c) →
      (∀ x c, acc.lookup x = some c → env.cells.lookup x = some c) →
      ∃ cl, (forIn l acc (fun (a : Str × NameKind) (r : List (Str × Addr)) => match a with
        | (name, kind) => if (kind == .free) = true then do let c ← cellOf env name; pure (ForInStep.yield ((name, c) :: r)) else pure (ForInStep.yield r)) : Sem (List (Str × Addr))) = pure cl ∧
        (∀ x c, cl.lookup x = some c → env.cells.lookup x = some c) ∧ (∀ x, (acc.lookup x).isSome = true → (cl.lookup x).isSome = true) ∧ ∀ x, (x, NameKind.free) ∈ l → (cl.lookup x).isSome = true := by
    intro l
    induction l with
    | nil => intro acc h1 h2; exact ⟨acc, rfl, h2, fun u_ q => q, fun u_ q => by simp at q⟩
    | cons p l ih =>
      intro acc h1 h2
      obtain ⟨y, k⟩ := p
      rw [List.forIn_cons]
      by_cases hk : k = .free
      · subst hk
        obtain ⟨c, hc⟩ := h1 _ (.head _) rfl
        obtain ⟨cl, e1, e2, e3, e4⟩ := ih ((y, c) :: acc) (fun q hq => h1 q (.tail _ hq)) (fun x c' hx => by
          simp only [List.lookup_cons] at hx
          split at hx
          · rename_i hxy; cases hx; rw [eq_of_beq hxy]; exact hc
          · exact h2 x c' hx)
        refine ⟨cl, ?_, e2, fun x q => e3 x ?_, fun x q => ?_⟩
        · rw [← e1]
          have : cellOf env y = pure c := by unfold cellOf; rw [hc]
          simp [this]
        · simp only [List.lookup_cons]; split
          · rfl
          · exact q
        · rcases List.mem_cons.mp q with q | q
          · cases q; exact e3 _ (by simp)
          · exact e4 x q
      · obtain ⟨cl, e1, e2, e3, e4⟩ := ih acc (fun q hq => h1 q (.tail _ hq)) h2
        have hk' : (k == NameKind.free) = false := by simpa using hk
        refine ⟨cl, ?_, e2, e3, fun x q => ?_⟩
        · rw [← e1]; simp [hk']
        · rcases List.mem_cons.mp q with q | q
          · cases q; exact absurd rfl hk
          · exact e4 x q
  obtain ⟨cl, e1, e2, e3, e4⟩ := key sc'.names [] hc (fun x c q => by simp at q)
  refine ⟨cl, ?_, fun x c hx he => ?_⟩
  · rw [← e1]
    simp
  · have := e4 x hx
    obtain ⟨c', hc'⟩ := Option.isSome_iff_exists.mp this
    rw [hc', ← he, e2 x c' hc']
end
end Og
end
section
set_option genSizeOf false
set_option tactic.hygienic false
namespace Og
open PySem PySem.W PyProof.Rows
section
variable {prog : Program} {w : World} {A : Around} {E : Value → Shared → Prop} {s : Shared}
theorem comp_rule {elt t iter : Expr} {ifs : List Expr} {scope : Scope} {pos : Pos} {it acc : Value} {env : Env} {R : Result → Shared → Prop} (I : Nat → Shared → Prop)
    (turn : ∀ n s, I n s → wpAny (model prog w) A (pyNext it) (fun r s₁ => match r with
      | none => R (.ok .next) s₁
      | some v => wpAny (model prog w) A (letOwnedTupleGo t it v) (fun u_ s₁' => wpAny (model prog w) A (assign t env v) (fun u_ s₂ =>
          wpAny (model prog w) A (forIn ifs true fun c r => if r = true then do let ok ← isTrue c env (eval c env); pure (ForInStep.yield ok) else pure (ForInStep.yield r)) (fun ok s₃ =>
            if ok = true then wpAny (model prog w) A (eval elt env) (fun x s₄ =>
              wpAny (model prog w) A (call (.builtin "list.append") [acc, x]) (fun u_ s₅ => ∃ m, m < n ∧ I m s₅) Bot s₄) Bot s₃
            else ∃ m, m < n ∧ I m s₃) Bot s₂) Bot s₁') Bot s₁) Bot s)
    (n : Nat) (h : I n s) : codeAny (model prog w) A (.compLoop (.ListComp elt [⟨t, iter, ifs, 0⟩] scope pos) 0 it acc env) R s := by
  refine codeAny_loop rfl I (fun n s hI => ?_) n h
  show wpAny _ A ((compTurn (.ListComp elt [⟨t, iter, ifs, 0⟩] scope pos) 0 it acc env).onRaise (fun x => do noteFrame x env; theTreesLotGoes x)) _ _ s
  refine wpAny_noted ?_
  rw [compTurn_list]
  have bot : ∀ (v : Value) (s : Shared), Bot v s → notedBy (model prog w) A env (fun e s' => R (.error e) s') v s := fun u_ u_ x => x.elim
  refine wpAny_bind (wpAny_standAt (wpAny_bind (wpAny_mono (turn n s hI) (fun r s₁ h₁ => ?_) bot)))
  cases r with
  | none => exact wpAny_pure h₁
  | some v =>
    refine wpAny_bind (wpAny_mono h₁ (fun u_ s₁' h₁' => ?_) bot)
    refine wpAny_bind (wpAny_mono h₁' (fun u_ s₂ h₂ => wpAny_bind (wpAny_mono h₂ (fun ok s₃ h₃ => ?_) bot)) bot)
    cases ok with
    | false => exact wpAny_pure ⟨rfl, h₃⟩
    | true => exact wpAny_bind (wpAny_bind (wpAny_mono h₃ (fun x s₄ h₄ => wpAny_bind (wpAny_mono h₄ (fun u_ s₅ h₅ => wpAny_pure (wpAny_pure ⟨rfl, h₅⟩)) bot)) bot))
end
/-- the tests of a comprehension -/
noncomputable def SF (prog : Program) (w : World) (T : Tab) (h₀ : Heap) (n : Nat) (cf : CF) (es : List Expr) : Prop := ∀ (A : Around) env sc vs st b st' Ls σ (s : Shared), AOk n A → EnvOk env sc → evTs T cf .And es sc vs st = some (b, st') → HS h₀ Ls σ s.heap st → FR Ls σ s.heap env sc vs →
  wpAny (model prog w) A (forIn es true fun c r => if r = true then do let ok ← isTrue c env (eval c env); pure (ForInStep.yield ok) else pure (ForInStep.yield r)) (PB h₀ Ls σ s st' b) Bot s
section
variable {prog : Program} {w : World} {T : Tab} {K : Frag} {h₀ : Heap} {n : Nat} {cf : CF} {mg mb : Str → Option Value}
theorem sf_false {A : Around} {env : Env} {s : Shared} {Q : Bool → Shared → Prop} (h : Q false s) : ∀ es : List Expr,
    wpAny (model prog w) A (forIn es false fun c r => if r = true then do let ok ← isTrue c env (eval c env); pure (ForInStep.yield ok) else pure (ForInStep.yield r)) Q Bot s
  | [] => wpAny_pure h
  | e :: es => by
    rw [List.forIn_cons]
    exact wpAny_bind (wpAny_pure (sf_false h es))
theorem sf_nil : SF prog w T h₀ n cf [] := by
  intro A env sc vs st b st' Ls σ s hA hE e S F
  cases e
  exact wpAny_pure ⟨rfl, σ, Stp.refl S⟩
theorem sf_cons {e : Expr} {es : List Expr} (h : ST prog w T h₀ n cf e) (hs : SF prog w T h₀ n cf es) : SF prog w T h₀ n cf (e :: es) := by
  intro A env sc vs st b st' Ls σ s hA hE q S F
  refine bindP q fun c st₁ h1 q => ?_
  dsimp only at q
  rw [List.forIn_cons]
  refine wpAny_bind (wpAny_bind (wpAny_mono (h A env sc vs st c _ Ls σ s hA hE h1 S F) (fun c' s₁ z => wpAny_pure ?_) fun u_ u_ x => x))
  obtain ⟨rfl, σ₁, p⟩ := z
  cases c' with
  | false => cases q; exact sf_false ⟨rfl, σ₁, p⟩ es
  | true => exact wp_pb p (hs A env sc vs st₁ b st' Ls σ₁ s₁ hA hE q p.hs (F.step p))
end
/-- what an inner run leaves of the outer frame -/
structure Out (Ls : List Addr) (σ : Hd) (s : Shared) (Ls' : List Addr) (σ' : Hd) (s' : Shared) : Prop where
  same : ∃ h' tk, s' = { s with heap := h', toks := tk }
  pre : ∃ τ, σ' = σ ++ τ
  ext : Ext s.heap (Xs Ls σ) s'.heap (Xs Ls' σ')
  kept : ∀ a ∈ Ls, ∀ o, s.heap.get? a = some o → s'.heap.get? a = some o
theorem Out.stp {h₀ : Heap} {N Ls : List Addr} {σ σ' σ'' : Hd} {s s' s'' : Shared} {st' : Sto} (o : Out Ls σ s (N ++ Ls) σ' s') (p : Stp h₀ (N ++ Ls) σ' s' σ'' s'' st') : Out Ls σ s (N ++ Ls) σ'' s'' where
  same := by obtain ⟨h', tk, rfl⟩ := o.same; obtain ⟨h'', tk', rfl⟩ := p.same; exact ⟨h'', tk', rfl⟩
  pre := by obtain ⟨τ, rfl⟩ := o.pre; obtain ⟨τ', rfl⟩ := p.pre; exact ⟨τ ++ τ', List.append_assoc ..⟩
  ext := o.ext.trans p.ext
  kept := fun a ha q e => p.kept a (List.mem_append.mpr (.inr ha)) q (o.kept a ha q e)
/-- a change at inner addresses alone -/
theorem Out.own {N M Ls : List Addr} {σ σ' : Hd} {s s' s'' : Shared} (o : Out Ls σ s (N ++ Ls) σ' s') (nd : (Xs (N ++ Ls) σ').Nodup) (same : ∃ h' tk, s'' = { s' with heap := h', toks := tk }) (sub : ∀ a ∈ M, a ∈ N)
    (k : ∀ a q, a ∉ M → s'.heap.get? a = some q → s''.heap.get? a = some q) (e : Ext s'.heap (Xs (N ++ Ls) σ') s''.heap (Xs (N ++ Ls) σ')) : Out Ls σ s (N ++ Ls) σ' s'' where
  same := by obtain ⟨h', tk, rfl⟩ := o.same; obtain ⟨h'', tk', rfl⟩ := same; exact ⟨h'', tk', rfl⟩
  pre := o.pre
  ext := o.ext.trans e
  kept := fun a ha q z => k a q (fun m => by
    rw [show Xs (N ++ Ls) σ' = N ++ Xs Ls σ' by simp [Xs]] at nd
    exact (List.nodup_append.mp nd).2.2 a (sub a m) a (List.mem_append.mpr (.inl ha)) rfl) (o.kept a ha q z)
theorem Out.tch {h₀ : Heap} {N Ls : List Addr} {σ σ' : Hd} {s s' s'' : Shared} {st : Sto} {L : Addr} (o : Out Ls σ s (N ++ Ls) σ' s') (hL : L ∈ N) (p : Tch h₀ (N ++ Ls) σ' L s' s'' st) : Out Ls σ s (N ++ Ls) σ' s'' :=
  o.own (M := [L]) p.hs.nd p.same (fun a ha => by rw [List.mem_singleton.mp ha]; exact hL) (fun a q n e => p.off a q (fun z => n (by rw [z]; simp)) e) p.ext
/-- what is given back of an inner run -/
theorem Out.leave {h₀ : Heap} {N Ls : List Addr} {σ σ' : Hd} {s s' : Shared} {st' : Sto} (o : Out Ls σ s (N ++ Ls) σ' s') (S : HS h₀ (N ++ Ls) σ' s'.heap st') {h'' : Heap} {tk : Nat} (k : ∀ a q, a ∉ N → s'.heap.get? a = some q → h''.get? a = some q) :
    Stp h₀ Ls σ s σ' { s' with heap := h'', toks := tk } st' := by
  obtain ⟨S', E', K'⟩ := S.away k
  exact ⟨by obtain ⟨h', t, rfl⟩ := o.same; exact ⟨h'', tk, rfl⟩, S', o.pre, fun a q n e => let z := o.ext a q n e; E' a q z.1 z.2, fun a ha q e => K' a ha q (o.kept a ha q e)⟩
section
variable {prog : Program} {w : World} {T : Tab} {K : Frag} {h₀ : Heap} {n : Nat} {cf : CF} {mg mb : Str → Option Value}
theorem IterAt.let_ok {A A' : Around} {h : Heap} {X X' : List Addr} {σ : Hd} {items : List D} {I : Addr} {fp : List Addr} {P : Nat → Value → Prop} {St : Nat → Heap → Prop} (IT : IterAt prog w A h X items I fp P St) {i j : Nat} {s : Shared} (st : St j s.heap)
    {t : Expr} {d : D} {v : Value} {vs vs' : Vars} (hd : items[i]? = some d) (hb : bindT t d vs = some vs') (r : Rl s.heap X' σ d v) {E : Value → Shared → Prop} {Q : Unit → Shared → Prop} (q : Q () s) : wpAny (model prog w) A' (letOwnedTupleGo t (.ref I) v) Q E s := by
  rcases bindTE hb with ⟨x, p, rfl, -⟩ | ⟨es, k, p, ds, rfl, rfl, -⟩
  · exact wpAny_of_eq (a := ()) (by rfl) q
  · obtain ⟨a, us, rfl, -⟩ := r
    rcases IT.tup with z | z
    · obtain ⟨l, j, hl⟩ := z _ _ st
      exact wpAny_letOwnedTupleGo_listiter hl q
    · exact absurd rfl (z _ (List.mem_of_getElem? hd) ds)
/-- what holds between two turns of a comprehension -/
inductive CLoop (T : Tab) (cf : CF) (h₀ : Heap) (t : Expr) (ifs : List Expr) (elt : Expr) (sc : Scope) (items res : List Og.D) (st' : Sto) (Ls L3 : List Addr) (σ : Hd) (s : Shared) (Zz : Addr) (cenv : Env) (St : Nat → Heap → Prop) (h₁ : Heap) (X₀ : List Addr) (k : Nat) (s' : Shared) : Prop
  | mk (i : Nat) (σ' : Hd) (stc : Sto) (vsc : Vars) (acc rest : List Og.D) (ys : List Value) (hk : k = items.length + 1 - i) (hi : i ≤ items.length) (ec : compLoop t (evTs T cf .And ifs sc) (ev T cf elt sc) (items.drop i) vsc stc = some (rest, st'))
      (er : res = acc ++ rest) (hacc : acc.length ≤ i) (O : Out Ls σ s L3 σ' s') (S : HS h₀ L3 σ' s'.heap stc) (F : FR L3 σ' s'.heap cenv sc vsc) (pl : s'.heap.PlainList Zz ys.toArray) (r : RlL s'.heap (Xs L3 σ') σ' acc ys) (sti : St i s'.heap) (EX : Ext h₁ X₀ s'.heap (Xs L3 σ'))
theorem comp_loop {A : Around} (hA : AOk n A) {elt t iter : Expr} {ifs : List Expr} {scope : Scope} {pos : Pos} {cenv : Env} {sc : Scope} {Ls : List Addr} {σ : Hd} {s : Shared} {I Zz : Addr} {items : List Og.D} {fp : List Addr} {P : Nat → Value → Prop} {St : Nat → Heap → Prop} {X₀ : List Addr} {h₁ : Heap}
    (hE : EnvOk cenv sc) (he : SE prog w T h₀ n cf elt) (hf : SF prog w T h₀ n cf ifs) (ok : okT sc t = true) (hlen : items.length ≤ 10000)
    (IT : IterAt prog w A h₁ X₀ items I fp P St) (d1 : cenv.locals ≠ Zz) (d2 : cenv.locals ≠ I) (d3 : Zz ≠ I) {st' : Sto} {vs : Vars} {st : Sto} {res : List Og.D} (e : compLoop t (evTs T cf .And ifs sc) (ev T cf elt sc) items vs st = some (res, st'))
    {s₀ : Shared} {σ₀ : Hd} (O : Out Ls σ s ([Zz, I, cenv.locals] ++ Ls) σ₀ s₀) (S : HS h₀ ([Zz, I, cenv.locals] ++ Ls) σ₀ s₀.heap st) (F : FR ([Zz, I, cenv.locals] ++ Ls) σ₀ s₀.heap cenv sc vs) (pl : s₀.heap.PlainList Zz #[]) (st0 : St 0 s₀.heap)
    (EX : Ext h₁ X₀ s₀.heap (Xs ([Zz, I, cenv.locals] ++ Ls) σ₀)) {R : Result → Shared → Prop}
    (h : ∀ σ' s' v, Out Ls σ s ([cenv.locals] ++ Ls) σ' s' → HS h₀ ([cenv.locals] ++ Ls) σ' s'.heap st' → (∃ m, s'.heap.Ns cenv.locals m) → Rl s'.heap (Xs ([cenv.locals] ++ Ls) σ') σ' (.lst res) v → v = .ref Zz → R (.ok .next) s') :
    codeAny (model prog w) A (.compLoop (.ListComp elt [⟨t, iter, ifs, 0⟩] scope pos) 0 (.ref I) (.ref Zz) cenv) R s₀ := by
  have mC : cenv.locals ∈ [Zz, I, cenv.locals] := by simp
  have mD : Zz ∈ [Zz, I, cenv.locals] := by simp
  have mI : I ∈ [Zz, I, cenv.locals] := by simp
  have inX : ∀ {a : Addr} (σ' : Hd), a ∈ [Zz, I, cenv.locals] → a ∈ Xs ([Zz, I, cenv.locals] ++ Ls) σ' := fun σ' q => List.mem_append.mpr (.inl (List.mem_append.mpr (.inl q)))
  refine comp_rule (CLoop T cf h₀ t ifs elt sc items res st' Ls ([Zz, I, cenv.locals] ++ Ls) σ s Zz cenv St h₁ X₀) ?_ (items.length + 1) (.mk 0 σ₀ st vs [] res [] rfl (Nat.zero_le _) (by simpa using e) rfl (Nat.zero_le _) O S F pl rfl st0 EX)
  rintro k s₁ ⟨i, σ₁, stc, vsc, acc, rest, ys, rfl, hi, ec, er, hacc, O₁, S₁, F₁, pl₁, r₁, sti, EX₁⟩
  by_cases hlast : i = items.length
  · subst hlast
    rw [List.drop_length] at ec
    replace ec : some (([] : List Og.D), stc) = some (rest, st') := ec
    simp only [Option.some.injEq, Prod.mk.injEq] at ec
    obtain ⟨rfl, rfl⟩ := ec
    rw [List.append_nil] at er
    subst er
    obtain ⟨m, hn, -⟩ := F₁.ns
    refine IT.W.done s₁ _ _ sti fun h' tk hk => ?_
    have hk' : ∀ b o, b ≠ I → s₁.heap.get? b = some o → h'.get? b = some o := fun b o n e => hk b o (by simpa using n) e
    have S₁' : HS h₀ ([Zz, I] ++ ([cenv.locals] ++ Ls)) σ₁ s₁.heap stc := S₁
    obtain ⟨S', E', K'⟩ := S₁'.away (h' := h') fun a o n e => hk' a o (fun z => n (by simp [z])) e
    have EX' : Ext s₁.heap (Xs ([Zz, I, cenv.locals] ++ Ls) σ₁) h' (Xs ([cenv.locals] ++ Ls) σ₁) := E'
    refine h σ₁ _ (.ref Zz) ⟨?_, O₁.pre, O₁.ext.trans EX', fun a ha q e => K' a (List.mem_append.mpr (.inr ha)) q (O₁.kept a ha q e)⟩ S' ⟨m, hn.at' fun o e => hk' _ o d2 e⟩ ⟨Zz, ys, rfl, ?_, ?_, RlL.mono EX' (fun u_ u_ z => z) _ _ r₁⟩ rfl
    · obtain ⟨h', tk, rfl⟩ := O₁.same; exact ⟨_, _, rfl⟩
    · have nd := S₁'.nd
      rw [show Xs ([Zz, I] ++ ([cenv.locals] ++ Ls)) σ₁ = [Zz, I] ++ Xs ([cenv.locals] ++ Ls) σ₁ by simp [Xs]] at nd
      exact fun z => (List.nodup_append.mp nd).2.2 Zz (by simp) Zz z rfl
    · obtain ⟨z, q⟩ := pl₁; exact ⟨_, hk' Zz _ d3 q, rfl, z, rfl⟩
  · have hi' : i < items.length := by first | lia | omega
    obtain ⟨d, hd⟩ : ∃ d, items[i]? = some d := ⟨items[i], by simp [hi']⟩
    have hdrop : items.drop i = d :: items.drop (i + 1) := by
      rw [List.drop_eq_getElem_cons hi']
      congr 1
      exact Option.some.inj (by rw [← hd]; simp [hi'])
    rw [hdrop] at ec
    refine bindE ec fun vs₂ hb ec => ?_
    refine bindP ec fun c st₃ ht ec => ?_
    dsimp only at ec
    refine IT.W.item i s₁ _ _ hi' sti fun v h' tk hP st2 hk => ?_
    have hk' : ∀ b o, b ≠ I → s₁.heap.get? b = some o → h'.get? b = some o := fun b o n e => hk b o (by simpa using n) e
    obtain ⟨S₂, E₂⟩ := S₁.touch (N := [I]) (h' := h') (fun a ha => by rw [List.mem_singleton.mp ha]; exact List.mem_append.mpr (.inl mI)) (fun a o n e => hk' a o (by simpa using n) e) (fun a ha => by rw [List.mem_singleton.mp ha]; exact IT.al _ _ st2)
    have O₂ : Out Ls σ s ([Zz, I, cenv.locals] ++ Ls) σ₁ { s₁ with heap := h', toks := tk } := O₁.own (M := [I]) S₁.nd ⟨h', tk, rfl⟩ (fun a ha => by rw [List.mem_singleton.mp ha]; exact mI) (fun a q n e => hk' a q (by simpa using n) e) E₂
    have F₂ : FR ([Zz, I, cenv.locals] ++ Ls) σ₁ h' cenv sc vsc := by
      refine ⟨F₁.loc, ?_, fun x d' e k => ?_⟩
      · obtain ⟨m, hn, hv⟩ := F₁.ns
        refine ⟨m, hn.at' fun o e => hk' _ o d2 e, fun x d' e k => ?_⟩
        obtain ⟨u, h1, h2⟩ := hv x d' e k
        exact ⟨u, h1, Rl.mono E₂ (fun u_ u_ z => z) _ _ h2⟩
      · refine hide fun G kG => ?_
        obtain ⟨c', u, h1, h2, ⟨o, ho, hd'⟩, h3⟩ := F₁.cl x d' e k
        refine kG ?_
        clear kG G
        refine ⟨c', u, h1, h2, ⟨o, hk' c' o (fun z => ?_) ho, hd'⟩, Rl.mono E₂ (fun u_ u_ z => z) _ _ h3⟩
        subst z
        exact IT.nc _ _ sti _ ho _ hd'
    have rv : Rl h' (Xs ([Zz, I, cenv.locals] ++ Ls) σ₁) σ₁ d v := IT.val i v d hP hd _ _ _ (EX₁.trans E₂)
    refine IT.let_ok st2 hd hb rv (bind_ok hA.1 hE S₂ F₂ ok hb rv fun s₃ T₃ F₃ => ?_)
    have O₃ := O₂.tch mC T₃
    have stf : ∀ (s' : Shared), (∀ a o, a ∈ [I] → h'.get? a = some o → s'.heap.get? a = some o) → (∀ a o, a ∉ Xs ([Zz, I, cenv.locals] ++ Ls) σ₁ → h'.get? a = some o → s'.heap.get? a = some o) → St (i + 1) s'.heap := by
      intro s' k1 k2
      refine IT.W.frame _ _ _ st2 fun b hb o hbo => ?_
      by_cases hbI : b = I
      · exact k1 b o (by simp [hbI]) hbo
      · obtain ⟨q1, q2⟩ := IT.fp b hb hbI
        obtain ⟨o', ho'⟩ := q2
        have := (EX₁.trans E₂) b o' q1 ho'
        have z := this.2
        rw [hbo] at z; cases z
        exact k2 b o this.1 hbo
    refine wpAny_mono (hf A cenv sc vs₂ stc c st₃ _ σ₁ s₃ hA hE ht T₃.hs F₃) (fun c' s₄ q => ?_) fun u_ u_ x => x
    obtain ⟨rfl, σ₄, P₄⟩ := q
    have O₄ := O₃.stp P₄
    have K₄ : ∀ a ∈ [I], ∀ o, h'.get? a = some o → s₄.heap.get? a = some o := fun a ha o e => P₄.kept a (by rw [List.mem_singleton.mp ha]; exact List.mem_append.mpr (.inl mI)) o (T₃.off a o (by rw [List.mem_singleton.mp ha]; exact d2.symm) e)
    have X₄ : Ext h' (Xs ([Zz, I, cenv.locals] ++ Ls) σ₁) s₄.heap (Xs ([Zz, I, cenv.locals] ++ Ls) σ₄) := T₃.ext.trans P₄.ext
    have plk : ∀ {s' : Shared}, s₁.heap.PlainList Zz ys.toArray → (∀ o, h'.get? Zz = some o → s'.heap.get? Zz = some o) → s'.heap.PlainList Zz ys.toArray := fun ⟨z, q⟩ k => ⟨z, k _ (hk' Zz _ d3 q)⟩
    have pl₄ : s₄.heap.PlainList Zz ys.toArray := plk pl₁ fun o e => P₄.kept Zz (List.mem_append.mpr (.inl mD)) o (T₃.off Zz o d1.symm e)
    have r₄ := RlL.mono (E₂.trans X₄) P₄.sub _ _ r₁
    cases c' with
    | false =>
      simp only [Bool.false_eq_true, if_false] at ec ⊢
      exact ⟨items.length + 1 - (i + 1), by first | lia | omega, .mk (i + 1) σ₄ st₃ vs₂ acc rest ys rfl hi' ec er (by first | lia | omega) O₄ P₄.hs (F₃.step P₄) pl₄ r₄ (stf s₄ (fun a o ha e => K₄ a ha o e) (fun a o n e => (X₄ a o n e).2)) (EX₁.trans (E₂.trans X₄))⟩
    | true =>
      simp only [if_true] at ec ⊢
      refine bindP ec fun y st₅ hy ec => ?_
      obtain ⟨⟨rest', st₆⟩, hr, ec⟩ := mapO ec
      dsimp only at hr ec
      cases ec
      refine pv_bind (he A cenv sc vs₂ st₃ y st₅ _ σ₄ s₄ hA hE hy P₄.hs (F₃.step P₄)) fun u s₅ σ₅ P₅ r₅ => ?_
      have pl₅ : s₅.heap.PlainList Zz ys.toArray := by obtain ⟨z, q⟩ := pl₄; exact ⟨z, P₅.kept Zz (List.mem_append.mpr (.inl mD)) _ q⟩
      have hys := r₄.length
      refine wpAny_list_append_plain pl₅ (fun h₆ pl₆ hs₆ => ?_) (by simp [sizeLine_eq]; first | lia | omega)
      have O₅ := O₄.stp P₅
      obtain ⟨S₆, E₆⟩ := P₅.hs.touch (N := [Zz]) (h' := h₆) (fun a ha => by rw [List.mem_singleton.mp ha]; exact List.mem_append.mpr (.inl mD)) (fun a o n e => (hs₆.2 a (by simpa using n)).trans e) (fun a ha => by rw [List.mem_singleton.mp ha]; obtain ⟨z, q⟩ := pl₆; exact ⟨_, q⟩)
      have O₆ : Out Ls σ s ([Zz, I, cenv.locals] ++ Ls) σ₅ { s₅ with heap := h₆ } := O₅.own (M := [Zz]) P₅.hs.nd ⟨h₆, s₅.toks, rfl⟩ (fun a ha => by rw [List.mem_singleton.mp ha]; exact mD) (fun a q n e => (hs₆.2 a (by simpa using n)).trans e) E₆
      have F₅ := (F₃.step P₄).step P₅
      have F₆ : FR ([Zz, I, cenv.locals] ++ Ls) σ₅ h₆ cenv sc vs₂ := by
        refine ⟨F₅.loc, ?_, fun x d' e k => ?_⟩
        · obtain ⟨m, hn, hv⟩ := F₅.ns
          refine ⟨m, hn.at' fun o e => (hs₆.2 _ d1).trans e, fun x d' e k => ?_⟩
          obtain ⟨u, h1, h2⟩ := hv x d' e k
          exact ⟨u, h1, Rl.mono E₆ (fun u_ u_ z => z) _ _ h2⟩
        · refine hide fun G kG => ?_
          obtain ⟨c', u, h1, h2, ⟨o, ho, hd'⟩, h3⟩ := F₅.cl x d' e k
          refine kG ?_
          clear kG G
          refine ⟨c', u, h1, h2, ⟨o, (hs₆.2 c' (fun z => ?_)).trans ho, hd'⟩, Rl.mono E₆ (fun u_ u_ z => z) _ _ h3⟩
          subst z
          obtain ⟨z, q⟩ := pl₅
          rw [ho] at q; cases q; cases hd'
      refine ⟨items.length + 1 - (i + 1), by first | lia | omega, .mk (i + 1) σ₅ st₅ vs₂ (acc ++ [y]) rest' (ys ++ [u]) rfl hi' hr (by rw [er]; simp) (by simp; first | lia | omega) O₆ S₆ F₆ (by simpa using pl₆) ?_ (stf _ (fun a o ha e => ?_) (fun a o n e => ?_)) (EX₁.trans (E₂.trans (X₄.trans (P₅.ext.trans E₆))))⟩
      · exact RlL.mono E₆ (fun u_ u_ z => z) _ _ ((P₅.rlL r₄).snoc r₅)
      · refine (hs₆.2 a (by rw [List.mem_singleton.mp ha]; exact d3.symm)).trans (P₅.kept a (by rw [List.mem_singleton.mp ha]; exact List.mem_append.mpr (.inl mI)) o (K₄ a ha o e))
      · exact ((X₄.trans (P₅.ext.trans E₆)) a o n e).2
end
end Og
end
section
set_option tactic.hygienic false
namespace Og
open PySem PySem.W PyProof.Rows
theorem relab_eq {env : Env} {sc : Scope} (hE : EnvOk env sc) (sc' : Scope) : relabel sc' env = relab sc sc' := by
  obtain ⟨h, -, -, -⟩ := hE
  subst h
  rfl
theorem relab_local {sc sc' : Scope} {x : Str} (h : sc'.names.lookup x = some .local) : (relab sc sc').names.lookup x = some .local := by
  unfold relab
  dsimp only
  generalize sc'.names = l at h ⊢
  induction l with
  | nil => simp at h
  | cons p l ih =>
    obtain ⟨a, k⟩ := p
    simp only [List.lookup_cons] at h
    rw [List.map_cons]
    by_cases hx : x == a
    · rw [hx] at h
      simp at h
      subst h
      have := eq_of_beq hx
      subst this
      simp [List.lookup_cons]
    · have hx' : (x == a) = false := by simpa using hx
      rw [hx'] at h
      have := ih h
      split
      · simp only [List.lookup_cons, hx']; exact this
      · simp only [List.lookup_cons, hx']; exact this
theorem relab_notlocal {sc sc' : Scope} {x : Str} (h : (relab sc sc').names.lookup x = some .local) : sc'.names.lookup x ≠ some .free := by
  unfold relab at h
  dsimp only at h
  generalize sc'.names = l at h ⊢
  induction l with
  | nil => simp at h
  | cons p l ih =>
    obtain ⟨a, k⟩ := p
    rw [List.map_cons] at h
    simp only [List.lookup_cons]
    by_cases hx : x == a
    · have := eq_of_beq hx
      subst this
      split at h
      · simp [List.lookup_cons] at h
      · simp [List.lookup_cons] at h; subst h; simp
    · have hx' : (x == a) = false := by simpa using hx
      rw [hx']
      refine ih ?_
      split at h
      · simpa only [List.lookup_cons, hx'] using h
      · simpa only [List.lookup_cons, hx'] using h
theorem relab_cell {sc sc' : Scope} {x : Str} (h : (relab sc sc').names.lookup x = some .cell) (hn : ∀ p ∈ sc'.names, p.2 ≠ .cell) : (x, NameKind.free) ∈ sc'.names ∧ sc.names.lookup x = some .cell := by
  unfold relab at h
  dsimp only at h
  generalize hl : sc'.names = l at h hn ⊢
  clear hl
  induction l with
  | nil => simp at h
  | cons p l ih =>
    rw [List.map_cons] at h
    obtain ⟨a, k⟩ := p
    by_cases hx : x == a
    · have := eq_of_beq hx
      subst this
      split at h
      · rename_i hc
        simp only [Bool.and_eq_true, beq_iff_eq] at hc
        obtain ⟨⟨h1, h2⟩, h3⟩ := hc
        subst h1
        exact ⟨.head _, h3⟩
      · simp [List.lookup_cons] at h
        exact absurd h (hn _ (.head _))
    · have hx' : (x == a) = false := by simpa using hx
      have : (List.map (fun p => if p.2 == .free && sc.kind == .function && sc.names.lookup p.1 == some .cell then (p.1, .cell) else p) l).lookup x = some NameKind.cell := by
        split at h
        · simpa only [List.lookup_cons, hx'] using h
        · simpa only [List.lookup_cons, hx'] using h
      obtain ⟨q1, q2⟩ := ih this (fun p hp => hn p (.tail _ hp))
      exact ⟨.tail _ q1, q2⟩
theorem okT_relab {sc sc' : Scope} {t : Expr} (h : okT sc' t = true) : okT (relab sc sc') t = true := by
  have names : ∀ es : List Expr, allNames sc' es = true → allNames (relab sc sc') es = true := by
    intro es
    induction es with
    | nil => intro _; rfl
    | cons e es ih =>
      intro h
      obtain ⟨x, p, rfl, hx⟩ := okNE (and1 h)
      exact Bool.and_eq_true_iff.mpr ⟨beq_iff_eq.mpr (relab_local hx), ih (and2 h)⟩
  rcases okTE h with ⟨x, p, rfl, h⟩ | ⟨es, k, p, rfl, h⟩
  · exact beq_iff_eq.mpr (relab_local (eq_of_beq h))
  · exact names _ h
theorem filter_pass {f : Str → Bool} {x : Str} {d : D} : ∀ {vs : Vars}, (vs.filter fun p => f p.1).lookup x = some d → f x = true
  | [], h => by simp at h
  | p :: vs, h => by
    obtain ⟨a, b⟩ := p
    rw [List.filter_cons] at h
    split at h
    · rename_i hf
      simp only [List.lookup_cons] at h
      split at h
      · rename_i hx; rw [eq_of_beq hx]; exact hf
      · exact filter_pass h
    · exact filter_pass h
theorem filter_lookup {f : Str → Bool} {x : Str} {d : D} : ∀ {vs : Vars}, (vs.filter fun p => f p.1).lookup x = some d → vs.lookup x = some d
  | [], h => by simp at h
  | p :: vs, h => by
    obtain ⟨a, b⟩ := p
    rw [List.filter_cons] at h
    split at h
    · simp only [List.lookup_cons] at h ⊢
      split
      · rename_i hx; rw [hx] at h; exact h
      · rename_i hx; rw [hx] at h; exact filter_lookup h
    · rename_i hf
      have := filter_lookup h
      simp only [List.lookup_cons]
      split
      · rename_i hx
        have hx := eq_of_beq hx
        subst hx
        have := filter_pass h
        exact absurd this (by assumption)
      · exact this
section
variable {prog : Program} {w : World} {T : Tab} {K : Frag} {h₀ : Heap} {n : Nat} {cf : CF} {mg mb : Str → Option Value}
theorem both_start {A : Around} {h : Heap} {X : List Addr} {items : List D} {I : Addr} {fp : List Addr} {P : Nat → Value → Prop} {St : Nat → Heap → Prop} (IT : IterAt prog w A h X items I fp P St) {s : Shared} (st : St 0 s.heap) {elt target iter : Expr} {ifs : List Expr} {scope : Scope} {pos : Pos} {acc : Value} {env : Env} {R : Result → Shared → Prop}
    (m : codeAny (model prog w) A (.compLoop (.ListComp elt [⟨target, iter, ifs, 0⟩] scope pos) 0 (.ref I) acc env) R s) : codeAny (model prog w) A (.compStart (.ListComp elt [⟨target, iter, ifs, 0⟩] scope pos) 0 (.ref I) acc env) R s :=
  codeAny_compStart_list m (IT.W.self 0 s _ _ st m)
theorem ev_comp {elt t it : Expr} {ifs : List Expr} {k : Int} {sc' : Scope} {pos : Pos} {sc : Scope} {vs : Vars} {st : Sto} : ev T cf (.ListComp elt [⟨t, it, ifs, k⟩] sc' pos) sc vs st =
    (ev T cf it sc vs st).bind fun a => (itemsOf a.1).bind fun items =>
      if (k == 0 && okT sc' t && compOk sc sc' vs && decide (items.length ≤ 10000)) = true then
        (compLoop t (evTs T cf .And ifs (relab sc sc')) (ev T cf elt (relab sc sc')) items (vs.filter fun p => sc.names.lookup p.1 == some .cell && sc'.names.lookup p.1 == some .free) a.2).map fun r => (.lst r.1, r.2)
      else none := by simp only [iv_const, iv_name, iv_boolop, iv_binop, iv_not, iv_neg, iv_ifexp, iv_list, iv_tuple, iv_cmp1, iv_cmp2, iv_callN, iv_callA, iv_attr, iv_slice, iv_comp1]
theorem comp_core {elt t it : Expr} {ifs : List Expr} {k : Int} {sc' : Scope} {pos : Pos} (hi : SE prog w T h₀ n cf it) (he : SE prog w T h₀ n cf elt) (hf : SF prog w T h₀ n cf ifs) {A : Around} {env : Env} {sc : Scope} {vs : Vars} {st : Sto} {d : D} {st' : Sto} {Ls : List Addr} {σ : Hd} {s : Shared}
    (hA : AOk n A) (hE : EnvOk env sc) (e : ev T cf (.ListComp elt [⟨t, it, ifs, k⟩] sc' pos) sc vs st = some (d, st')) (S : HS h₀ Ls σ s.heap st) (F : FR Ls σ s.heap env sc vs) (use : Option (Value → Sem Unit)) (Q : Value → Shared → Prop)
    (hQ : ∀ σ' s' C v, Out Ls σ s ([C] ++ Ls) σ' s' → HS h₀ ([C] ++ Ls) σ' s'.heap st' → (∃ m, s'.heap.Ns C m) → Rl s'.heap (Xs ([C] ++ Ls) σ') σ' d v → compPost (model prog w) A Bot use Q v C (.ok .next) s') :
    wpAny (model prog w) A (comprehension (.ListComp elt [⟨t, it, ifs, k⟩] sc' pos) sc' env it.pos (newList []) (k != 0) (eval it env) use) Q Bot s := by
  rw [ev_comp] at e
  refine bindP e fun a st₁ h1 e => ?_
  refine bindE e fun items h2 e => ?_
  dsimp only at e h2
  split at e
  · rename_i hc
    obtain ⟨⟨res, st₂⟩, h3, e⟩ := mapO e
    dsimp only at h3 e
    cases e
    simp only [Bool.and_eq_true, beq_iff_eq, decide_eq_true_eq] at hc
    obtain ⟨⟨⟨rfl, hok⟩, hcomp⟩, hlen⟩ := hc
    unfold compOk at hcomp
    simp only [Bool.and_eq_true, beq_iff_eq, List.all_eq_true] at hcomp
    obtain ⟨hkind, hnames⟩ := hcomp
    have n1 : ∀ p ∈ sc'.names, p.2 ≠ .cell := fun p hp => by have := (hnames p hp).1.1; simpa using this
    have n2 : ∀ p ∈ sc'.names, p.2 = .local → sc'.names.lookup p.1 = some .local := fun p hp q => by have := (hnames p hp).1.2; simpa [q] using this
    have n3 : ∀ p ∈ sc'.names, p.2 = .free → (vs.lookup p.1).isSome = true ∧ sc.names.lookup p.1 = some .cell := fun p hp q => by have := (hnames p hp).2; simpa [q] using this
    obtain ⟨cl, hcl, hclo⟩ := closure_ok (env := env) sc' fun p hp q => by
      obtain ⟨z1, z2⟩ := n3 p hp q
      obtain ⟨d, hd⟩ := Option.isSome_iff_exists.mp z1
      obtain ⟨c, v, q1, -⟩ := F.cl _ d hd z2
      exact ⟨c, q1⟩
    refine wpAny_comprehension_free (gs := []) (g := ⟨t, it, ifs, 0⟩) rfl (fun x => ?_) hcl hkind n2 ?_
    · unfold foldedSetIterable
      cases it <;> first | rfl | (cases h1; done)
    refine pv_bind (hi A env sc vs st a _ Ls σ s hA hE h1 S F) fun v s₁ σ₁ p₁ r₁ => ?_
    refine iter_ok hA.1 h2 r₁ fun o fp P St IT st0 => ?_
    generalize hs₂ : ({ s₁ with heap := s₁.heap.push o } : Shared) = s₂
    refine wpAny_newObj_type (wpAny_newFunctionEnv n1 (by intro y hy; simp at hy) (fun h₅ hns hsb => ?_) hkind)
    have e2 : s₂.heap = s₁.heap.push o := by rw [← hs₂]
    dsimp only at hns hsb ⊢
    generalize hI : s₁.heap.objs.size = I at IT st0 ⊢
    have eD : s₂.heap.objs.size = I + 1 := by rw [e2, Heap.size_push, hI]
    generalize hD : s₂.heap.objs.size = Dz at hns hsb ⊢
    generalize hH : s₂.heap.push { cls := .type "list", dict := none, data := .seq ([] : List Value).toArray } = H2 at hns hsb ⊢
    have eC : H2.objs.size = I + 2 := by rw [← hH, Heap.size_push, eD]
    generalize hC : H2.objs.size = C at hns hsb ⊢
    have dCD : C ≠ Dz := by rw [← hC, eC, ← hD, eD]; exact Nat.ne_of_gt (Nat.lt_succ_self _)
    have dCI : C ≠ I := by rw [← hC, eC]; exact Nat.ne_of_gt (Nat.lt_succ_of_lt (Nat.lt_succ_self _))
    have dDI : Dz ≠ I := by rw [← hD, eD]; exact Nat.ne_of_gt (Nat.lt_succ_self _)
    have toH : ∀ a q, H2.get? a = some q → h₅.get? a = some q := fun a q e => by
      have : a ≠ C := fun z => by rw [z, ← hC, get_size] at e; cases e
      exact (hsb.2 a this).trans (Heap.get?_push_of_some _ e)
    have kk : Kps s₁.heap h₅ := fun a q e => toH a q (by rw [← hH]; exact Heap.get?_push_of_some _ (by rw [e2]; exact Heap.get?_push_of_some _ e))
    have kI : ∀ q, (s₁.heap.push o).get? I = some q → h₅.get? I = some q := fun q e => toH I q (by rw [← hH]; exact Heap.get?_push_of_some _ (by rw [e2]; exact e))
    have hDat : h₅.get? Dz = some { cls := .type "list", dict := none, data := .seq ([] : List Value).toArray } := toH Dz _ (by rw [← hH, ← hD]; exact Heap.get?_push_size _ rfl)
    refine hide fun G kG => ?_
    obtain ⟨oI, hoI⟩ := IT.al _ _ st0
    obtain ⟨oC, esC, epC, hoC, -⟩ := id hns
    obtain ⟨S₅, E₅⟩ := p₁.hs.enter (N := [Dz, I, C]) (h' := h₅) (by simp [dCD.symm, dCI.symm, dDI]) (fun a ha => fresh_ge (by
        rw [hI]
        simp only [List.mem_cons, List.not_mem_nil, or_false] at ha
        rcases ha with rfl | rfl | rfl
        · rw [← hD, eD]; exact Nat.le_add_right _ _
        · exact Nat.le_refl _
        · rw [← hC, eC]; exact Nat.le_add_right _ _)) kk (fun a ha => by
        simp only [List.mem_cons, List.not_mem_nil, or_false] at ha
        rcases ha with rfl | rfl | rfl
        · exact ⟨_, hDat⟩
        · exact ⟨_, kI _ hoI⟩
        · exact ⟨_, hoC⟩)
    refine kG ?_
    clear kG G
    have O₅ : Out Ls σ s ([Dz, I, C] ++ Ls) σ₁ { s₂ with heap := h₅, toks := s₂.toks + ([] : List (Str × Value)).length } := by
      refine ⟨?_, p₁.pre, p₁.ext.trans E₅, fun a ha q e => kk a q (p₁.kept a ha q e)⟩
      obtain ⟨h', tk, rfl⟩ := p₁.same
      rw [← hs₂]; exact ⟨_, _, rfl⟩
    have hEc : EnvOk { newEnv sc' C env.globals cl env.qual none .none (some env) 0 with scope := relab sc sc' } (relab sc sc') := ⟨rfl, hkind, hE.glob, hE.bi⟩
    have F₅ : FR ([Dz, I, C] ++ Ls) σ₁ h₅ { newEnv sc' C env.globals cl env.qual none .none (some env) 0 with scope := relab sc sc' } (relab sc sc') (vs.filter fun p => sc.names.lookup p.1 == some .cell && sc'.names.lookup p.1 == some .free) := by
      refine ⟨by show C ∈ _; simp, ⟨_, hns, fun x d' hx hk => ?_⟩, fun x d' hx hk => ?_⟩
      · exfalso
        have := filter_pass (f := fun y => sc.names.lookup y == some .cell && sc'.names.lookup y == some .free) hx
        simp only [Bool.and_eq_true, beq_iff_eq] at this
        exact relab_notlocal hk this.2
      · refine hide fun G kG => ?_
        obtain ⟨z1, z2⟩ := relab_cell hk n1
        have hx' := filter_lookup (f := fun y => sc.names.lookup y == some .cell && sc'.names.lookup y == some .free) hx
        obtain ⟨c, u, q1, q2, ⟨oc, hoc, hdc⟩, q4⟩ := (F.step p₁).cl x d' hx' z2
        refine kG ?_
        clear kG G
        exact ⟨c, u, hclo x c z1 q1, List.mem_append.mpr (.inr q2), ⟨oc, kk _ _ hoc, hdc⟩, Rl.mono E₅ (fun u_ u_ z => z) _ _ q4⟩
    rw [relab_eq hE]
    have st5 : St 0 h₅ := IT.W.frame _ _ _ st0 fun b hb q hq => by
      by_cases hbI : b = I
      · rw [hbI] at hq ⊢; exact kI q hq
      · obtain ⟨-, q', hq'⟩ := IT.fp b hb hbI
        have := kps_push s₁.heap o b q' hq'
        rw [hq] at this; cases this
        exact kk b _ hq'
    refine both_start IT st5 ?_
    · refine comp_loop (s := s) (Ls := Ls) (σ := σ) (σ₀ := σ₁) (cenv := { newEnv sc' C env.globals cl env.qual none .none (some env) 0 with scope := relab sc sc' }) hA hEc he hf (okT_relab hok) hlen IT dCD dCI dDI h3 O₅ S₅ F₅ ⟨0, hDat⟩ st5 E₅ ?_
      · exact fun σ' s' v O' S' hm rv hv => by subst hv; exact hQ σ' s' C _ O' S' hm rv
  · cases e
theorem se_comp {elt t it : Expr} {ifs : List Expr} (k : Int) (sc' : Scope) (pos : Pos) (hi : SE prog w T h₀ n cf it) (he : SE prog w T h₀ n cf elt) (hf : SF prog w T h₀ n cf ifs) : SE prog w T h₀ n cf (.ListComp elt [⟨t, it, ifs, k⟩] sc' pos) := by
  intro A env sc vs st d st' Ls σ s hA hE e S F
  rw [arm_eval_ListComp]
  refine comp_core hi he hf hA hE e S F none _ fun σ' s' C v O S' ⟨m, hm⟩ r => ⟨m, hm, fun h' hs => ?_⟩
  have off : ∀ a q, a ∉ [C] → s'.heap.get? a = some q → h'.get? a = some q := fun a q n e => (hs.2 a (by simpa using n)).trans e
  obtain ⟨S₂, E₂, K₂⟩ := S'.away off
  exact ⟨σ', O.leave (tk := s'.toks) S' off, Rl.mono E₂ (fun u_ u_ z => z) _ _ r⟩
end
end Og
end
section
set_option genSizeOf false
set_option tactic.hygienic false
namespace Og
open PySem PySem.W PyProof.Rows
section
variable (prog : Program) (w : World) (T : Tab) (h₀ : Heap) (n : Nat) (cf : CF)
noncomputable def PSub : Expr → Prop
  | .Attribute o _ _ => SE prog w T h₀ n cf o
  | .Slice lo hi _ _ => SO prog w T h₀ n cf lo ∧ SO prog w T h₀ n cf hi
  | _ => True
structure PE (e : Expr) : Prop where
  se : SE prog w T h₀ n cf e
  st : ST prog w T h₀ n cf e
  sub : PSub prog w T h₀ n cf e
noncomputable def PLs (es : List Expr) : Prop := ∀ e ∈ es, PE prog w T h₀ n cf e
structure PC (g : Comprehension) : Prop where
  it : PE prog w T h₀ n cf g.iter
  ifs : PLs prog w T h₀ n cf g.ifs
end
section
variable {prog : Program} {w : World} {T : Tab} {K : Frag} {h₀ : Heap} {n : Nat} {cf : CF} {mg mb : Str → Option Value}
theorem sl_all : ∀ {es : List Expr}, PLs prog w T h₀ n cf es → SL prog w T h₀ n cf es
  | [], _ => sl_nil
  | e :: es, h => sl_cons (h e (.head _)).se (sl_all fun x hx => h x (.tail _ hx))
theorem sb_all (op : BoolOp) : ∀ {es : List Expr}, PLs prog w T h₀ n cf es → SB prog w T h₀ n cf op es
  | [], _ => by intro A env sc vs st d st' Ls σ s pos hA hE e S F; cases op <;> cases e
  | [e], h => sb_one op (h e (.head _)).se
  | e :: e2 :: es, h => sb_cons op (h e (.head _)).se (sb_all op fun x hx => h x (.tail _ hx))
theorem sts_all (op : BoolOp) : ∀ {es : List Expr}, PLs prog w T h₀ n cf es → STs prog w T h₀ n cf op es
  | [], _ => sts_nil op
  | e :: es, h => sts_cons op (h e (.head _)).st (sts_all op fun x hx => h x (.tail _ hx))
theorem sf_all : ∀ {es : List Expr}, PLs prog w T h₀ n cf es → SF prog w T h₀ n cf es
  | [], _ => sf_nil
  | e :: es, h => sf_cons (h e (.head _)).st (sf_all fun x hx => h x (.tail _ hx))
theorem se_none {e : Expr} (h : ∀ sc vs st, ev T cf e sc vs st = none) : SE prog w T h₀ n cf e := by
  intro A env sc vs st d st' Ls σ s hA hE q S F
  rw [h] at q; cases q
theorem st_none {e : Expr} (h : ∀ sc vs st, evT T cf e (ev T cf e) sc vs st = none) : ST prog w T h₀ n cf e := by
  intro A env sc vs st d st' Ls σ s hA hE q S F
  rw [h] at q; cases q
theorem pe_none {e : Expr} (h : ∀ sc vs st, ev T cf e sc vs st = none) (hv : ∀ w sc vs st, evT T cf e w sc vs st = (w sc vs st).bind fun a => match a.1 with | .bool b => some (b, a.2) | _ => none) (hs : PSub prog w T h₀ n cf e) : PE prog w T h₀ n cf e :=
  ⟨se_none h, st_none fun sc vs st => by rw [hv, h]; rfl, hs⟩
theorem pe_value {e : Expr} (h : SE prog w T h₀ n cf e) (hv : ∀ w sc vs st, evT T cf e w sc vs st = (w sc vs st).bind fun a => match a.1 with | .bool b => some (b, a.2) | _ => none)
    (hi : ∀ env whole, isTrue e env whole = (do let v ← whole; standAt e.pos; holding [v] (truthy v))) (hs : PSub prog w T h₀ n cf e) : PE prog w T h₀ n cf e := ⟨h, st_value h hv hi, hs⟩
theorem pe_unary {x : Expr} (op pos) (hx : PE prog w T h₀ n cf x) : PE prog w T h₀ n cf (.UnaryOp op x pos) := by
  refine ⟨?_, ?_, trivial⟩
  · cases op with
    | Not => exact se_not pos hx.se
    | USub =>
      cases x with
      | Constant c k p =>
        cases c with
        | int i => exact se_neg i k p pos
        | _ => exact se_none fun _ _ _ => rfl
      | _ => exact se_none fun _ _ _ => rfl
    | _ => exact se_none fun _ _ _ => rfl
  · cases op with
    | Not => exact st_not pos hx.st
    | USub =>
      cases x with
      | Constant c k p =>
        cases c with
        | int i => exact st_none fun _ _ _ => rfl
        | _ => exact st_none fun _ _ _ => rfl
      | _ => exact st_none fun _ _ _ => rfl
    | _ => exact st_none fun _ _ _ => rfl
theorem pe_compare {l : Expr} {rs : List Expr} (ops pos) (hl : PE prog w T h₀ n cf l) (hr : PLs prog w T h₀ n cf rs) : PE prog w T h₀ n cf (.Compare l ops rs pos) := by
  rcases ops with _ | ⟨op, _ | ⟨op2, _ | ⟨op3, ops⟩⟩⟩
  · exact pe_none (fun _ _ _ => rfl) (fun _ _ _ _ => evT_cmp) trivial
  · rcases rs with _ | ⟨r, _ | ⟨r2, rs⟩⟩
    · exact pe_none (fun _ _ _ => rfl) (fun _ _ _ _ => evT_cmp) trivial
    · exact ⟨se_cmp1 op pos hl.se (hr r (by simp)).se, st_cmp1 op pos hl.se (hr r (by simp)).se, trivial⟩
    · exact pe_none (fun _ _ _ => rfl) (fun _ _ _ _ => evT_cmp) trivial
  · rcases rs with _ | ⟨r, _ | ⟨r2, _ | ⟨r3, rs⟩⟩⟩
    · exact pe_none (fun _ _ _ => rfl) (fun _ _ _ _ => evT_cmp) trivial
    · exact pe_none (fun _ _ _ => rfl) (fun _ _ _ _ => evT_cmp) trivial
    · have h1 := (hr r (by simp)).se
      have h2 := (hr r2 (by simp)).se
      exact ⟨se_cmp2 op op2 pos hl.se h1 h2, st_cmp2 op op2 pos hl.se h1 h2, trivial⟩
    · exact pe_none (fun _ _ _ => rfl) (fun _ _ _ _ => evT_cmp) trivial
  · exact pe_none (fun _ _ _ => rfl) (fun _ _ _ _ => evT_cmp) trivial
theorem pe_call (Gd : Bed w T K h₀ mg mb) (hcf : CFok prog w h₀ n cf) {f : Expr} {args : List Expr} (kws pos) (hf : PE prog w T h₀ n cf f) (ha : PLs prog w T h₀ n cf args) : PE prog w T h₀ n cf (.Call f args kws pos) := by
  refine pe_value ?_ (fun _ _ _ _ => rfl) (fun _ _ => rfl) trivial
  cases kws with
  | cons k ks => cases f <;> exact se_none fun _ _ _ => rfl
  | nil =>
    cases f with
    | Name x np => exact se_call Gd hcf x np pos (sl_all ha)
    | Attribute o m ap => exact se_meth Gd hcf m ap pos hf.sub (sl_all ha)
    | _ => exact se_none fun _ _ _ => rfl
theorem pe_sub {o i : Expr} (pos) (ho : PE prog w T h₀ n cf o) (hi : PE prog w T h₀ n cf i) : PE prog w T h₀ n cf (.Subscript o i pos) := by
  refine pe_value ?_ (fun _ _ _ _ => rfl) (fun _ _ => rfl) trivial
  by_cases h : ∃ a b c p, i = .Slice a b c p
  · obtain ⟨a, b, c, p, rfl⟩ := h
    cases o with
    | Name x xp =>
      cases c with
      | none => exact se_slice ho.se hi.sub.1 hi.sub.2
      | some c => exact se_none fun _ _ _ => rfl
    | _ => exact se_none fun _ _ _ => rfl
  · exact se_sub pos (fun a b c p q => h ⟨a, b, c, p, q⟩) ho.se hi.se
theorem pe_comp {elt : Expr} {gs : List Comprehension} (sc' pos) (he : PE prog w T h₀ n cf elt) (hg : ∀ g ∈ gs, PC prog w T h₀ n cf g) : PE prog w T h₀ n cf (.ListComp elt gs sc' pos) := by
  refine pe_value ?_ (fun _ _ _ _ => rfl) (fun _ _ => rfl) trivial
  rcases gs with _ | ⟨g, _ | ⟨g2, gs⟩⟩
  · exact se_none fun _ _ _ => rfl
  · obtain ⟨t, it, ifs, k⟩ := g
    have := hg _ (.head _)
    exact se_comp k sc' pos this.it.se he.se (sf_all this.ifs)
  · obtain ⟨t, it, ifs, k⟩ := g
    exact se_none fun _ _ _ => rfl
mutual
theorem pe_all (Gd : Bed w T K h₀ mg mb) (hcf : CFok prog w h₀ n cf) : ∀ e : Expr, PE prog w T h₀ n cf e
  | .BoolOp op es p => ⟨se_boolop op p (sb_all op (pl_all Gd hcf es)), st_boolop op p (sts_all op (pl_all Gd hcf es)), trivial⟩
  | .NamedExpr t v p => pe_none (fun _ _ _ => rfl) (fun _ _ _ _ => rfl) trivial
  | .BinOp l op r p => pe_value (se_binop op p (pe_all Gd hcf l).se (pe_all Gd hcf r).se) (fun _ _ _ _ => rfl) (fun _ _ => rfl) trivial
  | .UnaryOp op x p => pe_unary op p (pe_all Gd hcf x)
  | .Lambda a b s p => pe_none (fun _ _ _ => rfl) (fun _ _ _ _ => rfl) trivial
  | .IfExp t b o p => ⟨se_ifexp p (pe_all Gd hcf t).st (pe_all Gd hcf b).se (pe_all Gd hcf o).se, st_none fun _ _ _ => rfl, trivial⟩
  | .Dict k v p => pe_none (fun _ _ _ => rfl) (fun _ _ _ _ => rfl) trivial
  | .Set k v p => pe_none (fun _ _ _ => rfl) (fun _ _ _ _ => rfl) trivial
  | .ListComp e gs s p => pe_comp s p (pe_all Gd hcf e) (pg_all Gd hcf gs)
  | .SetComp e gs s p => pe_none (fun _ _ _ => rfl) (fun _ _ _ _ => rfl) trivial
  | .DictComp k v gs s p => pe_none (fun _ _ _ => rfl) (fun _ _ _ _ => rfl) trivial
  | .GeneratorExp e gs s p => pe_none (fun _ _ _ => rfl) (fun _ _ _ _ => rfl) trivial
  | .Await e p => pe_none (fun _ _ _ => rfl) (fun _ _ _ _ => rfl) trivial
  | .Yield e p => pe_none (fun _ _ _ => rfl) (fun _ _ _ _ => rfl) trivial
  | .YieldFrom e p => pe_none (fun _ _ _ => rfl) (fun _ _ _ _ => rfl) trivial
  | .Compare l ops rs p => pe_compare ops p (pe_all Gd hcf l) (pl_all Gd hcf rs)
  | .Call f args kws p => pe_call Gd hcf kws p (pe_all Gd hcf f) (pl_all Gd hcf args)
  | .FormattedValue v c f p => pe_none (fun _ _ _ => rfl) (fun _ _ _ _ => rfl) trivial
  | .JoinedStr vs p => pe_none (fun _ _ _ => rfl) (fun _ _ _ _ => rfl) trivial
  | .Constant c k p => pe_value (se_const c k p) (fun _ _ _ _ => rfl) (fun _ _ => rfl) trivial
  | .Attribute o a p => pe_value (se_attr Gd a p (pe_all Gd hcf o).se) (fun _ _ _ _ => rfl) (fun _ _ => rfl) (pe_all Gd hcf o).se
  | .Subscript o i p => pe_sub p (pe_all Gd hcf o) (pe_all Gd hcf i)
  | .Starred v p => pe_none (fun _ _ _ => rfl) (fun _ _ _ _ => rfl) trivial
  | .Name x p => pe_value (se_name Gd x p) (fun _ _ _ _ => rfl) (fun _ _ => rfl) trivial
  | .List es p => pe_value (se_list p (sl_all (pl_all Gd hcf es))) (fun _ _ _ _ => rfl) (fun _ _ => rfl) trivial
  | .Tuple es k p => pe_value (se_tuple k p (sl_all (pl_all Gd hcf es))) (fun _ _ _ _ => rfl) (fun _ _ => rfl) trivial
  | .Slice lo hi s p => pe_none (fun _ _ _ => rfl) (fun _ _ _ _ => rfl) ⟨po_all Gd hcf lo, po_all Gd hcf hi⟩
theorem pl_all (Gd : Bed w T K h₀ mg mb) (hcf : CFok prog w h₀ n cf) : ∀ es : List Expr, ∀ e ∈ es, PE prog w T h₀ n cf e
  | [], _, h => by simp at h
  | x :: es, e, h => by
    have h1 := pe_all Gd hcf x
    have h2 := pl_all Gd hcf es
    rcases List.mem_cons.mp h with q | q
    · exact q ▸ h1
    · exact h2 e q
theorem po_all (Gd : Bed w T K h₀ mg mb) (hcf : CFok prog w h₀ n cf) : ∀ o : Option Expr, SO prog w T h₀ n cf o
  | none => so_none
  | some e => so_some (pe_all Gd hcf e).se
theorem pc_all (Gd : Bed w T K h₀ mg mb) (hcf : CFok prog w h₀ n cf) : ∀ g : Comprehension, PC prog w T h₀ n cf g
  | ⟨t, it, ifs, k⟩ => ⟨pe_all Gd hcf it, pl_all Gd hcf ifs⟩
theorem pg_all (Gd : Bed w T K h₀ mg mb) (hcf : CFok prog w h₀ n cf) : ∀ gs : List Comprehension, ∀ g ∈ gs, PC prog w T h₀ n cf g
  | [], _, h => by simp at h
  | x :: gs, g, h => by
    have h1 := pc_all Gd hcf x
    have h2 := pg_all Gd hcf gs
    rcases List.mem_cons.mp h with q | q
    · exact q ▸ h1
    · exact h2 g q
end
end
end Og
end
section
set_option tactic.hygienic false
namespace Og
open PySem PySem.W PyProof.Rows
/-- a frame's own place: its namespace or a cell of its own -/
noncomputable def Own (env : Env) (sc : Scope) (a : Addr) : Prop := a = env.locals ∨ ∃ x, sc.names.lookup x = some .cell ∧ env.cells.lookup x = some a
/-- a statement's step -/
structure Stx (h₀ : Heap) (Ls : List Addr) (O : Addr → Prop) (base : Nat) (σ : Hd) (s : Shared) (σ' : Hd) (s' : Shared) (st' : Sto) : Prop where
  same : ∃ h' tk, s' = { s with heap := h', toks := tk }
  hs : HS h₀ Ls σ' s'.heap st'
  ge : base ≤ σ.length
  pre : ∃ τ, σ' = σ.take base ++ τ
  ext : Ext s.heap (Xs Ls σ) s'.heap (Xs Ls σ')
  kept : ∀ a ∈ Ls, ¬ O a → ∀ o, s.heap.get? a = some o → s'.heap.get? a = some o
section
variable {h₀ : Heap} {Ls : List Addr} {O : Addr → Prop} {base : Nat} {σ σ' σ'' : Hd} {s s' s'' : Shared} {st st' st'' : Sto}
theorem Stx.of (p : Stp h₀ Ls σ s σ' s' st') (ge : base ≤ σ.length) : Stx h₀ Ls O base σ s σ' s' st' where
  same := p.same
  hs := p.hs
  ge := ge
  pre := by obtain ⟨τ, rfl⟩ := p.pre; exact ⟨σ.drop base ++ τ, by rw [← List.append_assoc, List.take_append_drop]⟩
  ext := p.ext
  kept := fun a ha u_ o e => p.kept a ha o e
theorem Stx.refl (S : HS h₀ Ls σ s.heap st) (ge : base ≤ σ.length) : Stx h₀ Ls O base σ s σ s st := Stx.of (Stp.refl S) ge
theorem Stx.trans (p : Stx h₀ Ls O base σ s σ' s' st') (q : Stx h₀ Ls O base σ' s' σ'' s'' st'') : Stx h₀ Ls O base σ s σ'' s'' st'' where
  same := by obtain ⟨h', tk, rfl⟩ := p.same; obtain ⟨h'', tk', rfl⟩ := q.same; exact ⟨h'', tk', rfl⟩
  hs := q.hs
  ge := p.ge
  pre := by
    obtain ⟨τ, rfl⟩ := p.pre
    obtain ⟨τ', rfl⟩ := q.pre
    have : (σ.take base).length = base := by rw [List.length_take]; exact Nat.min_eq_left p.ge
    exact ⟨τ', by rw [List.take_append_of_le_length (by first | lia | omega), List.take_of_length_le (by first | lia | omega)]⟩
  ext := p.ext.trans q.ext
  kept := fun a ha n o e => q.kept a ha n o (p.kept a ha n o e)
theorem Stx.ge' (p : Stx h₀ Ls O base σ s σ' s' st') : base ≤ σ'.length := by
  obtain ⟨τ, rfl⟩ := p.pre
  rw [List.length_append, List.length_take, Nat.min_eq_left p.ge]; first | lia | omega
end
theorem Stx.weaken {h₀ : Heap} {Ls : List Addr} {O O' : Addr → Prop} {base : Nat} {σ σ' : Hd} {s s' : Shared} {st' : Sto} (p : Stx h₀ Ls O base σ s σ' s' st') (h : ∀ a, O a → O' a) : Stx h₀ Ls O' base σ s σ' s' st' :=
  ⟨p.same, p.hs, p.ge, p.pre, p.ext, fun a ha n => p.kept a ha fun z => n (h a z)⟩
/-- the frame's own cells are there -/
noncomputable def CO (Ls : List Addr) (h : Heap) (env : Env) (sc : Scope) : Prop := ∀ x, sc.names.lookup x = some .cell → ∃ c v, env.cells.lookup x = some c ∧ c ∈ Ls ∧ h.IsCell c v
theorem CO.step {h₀ : Heap} {Ls : List Addr} {env : Env} {sc : Scope} {σ σ' : Hd} {s s' : Shared} {st' : Sto} (c : CO Ls s.heap env sc) (p : Stp h₀ Ls σ s σ' s' st') : CO Ls s'.heap env sc := fun x hx => by
  refine hide fun G kG => ?_
  obtain ⟨a, v, h1, h2, o, h3, h4⟩ := c x hx
  refine kG ?_
  clear kG G
  exact ⟨a, v, h1, h2, o, p.kept a h2 o h3, h4⟩
/-- what a statement's tree ends with -/
noncomputable def PX (h₀ : Heap) (Ls : List Addr) (env : Env) (sc : Scope) (base : Nat) (σ : Hd) (s : Shared) (fl : Fl) (vs' : Vars) (st' : Sto) : Flow → Shared → Prop := fun f s' => ∃ σ', Stx h₀ Ls (Own env sc) base σ s σ' s' st' ∧
  match fl with
  | .next => f = .next ∧ FR Ls σ' s'.heap env sc vs' ∧ CO Ls s'.heap env sc
  | .ret d => ∃ v, f = .ret v ∧ Rl s'.heap (Xs Ls σ') σ' d v
section
variable (prog : Program) (w : World) (T : Tab) (h₀ : Heap) (n : Nat) (cf : CF)
noncomputable def SX (x : Stmt) : Prop := ∀ (A : Around) env sc base vs st fl vs' st' Ls σ (s : Shared), AOk n A → EnvOk env sc → base ≤ st.length → ex T cf x sc base vs st = some (fl, vs', st') → HS h₀ Ls σ s.heap st → FR Ls σ s.heap env sc vs → CO Ls s.heap env sc →
  wpAny (model prog w) A (exec x env) (PX h₀ Ls env sc base σ s fl vs' st') Bot s
noncomputable def SXs (xs : List Stmt) : Prop := ∀ (A : Around) env sc base vs st fl vs' st' Ls σ (s : Shared), AOk n A → EnvOk env sc → base ≤ st.length → exs T cf xs sc base vs st = some (fl, vs', st') → HS h₀ Ls σ s.heap st → FR Ls σ s.heap env sc vs → CO Ls s.heap env sc →
  wpAny (model prog w) A (execs xs env) (PX h₀ Ls env sc base σ s fl vs' st') Bot s
end
section
variable {prog : Program} {w : World} {T : Tab} {K : Frag} {h₀ : Heap} {n : Nat} {cf : CF} {mg mb : Str → Option Value}
theorem HS.ge {Ls : List Addr} {σ : Hd} {h : Heap} {st : Sto} {base : Nat} (S : HS h₀ Ls σ h st) (hb : base ≤ st.length) : base ≤ σ.length := by rw [S.len]; exact hb
/-- a name of the frame is set, local or cell -/
theorem set_any {A : Around} {env : Env} {sc : Scope} {vs : Vars} {base : Nat} {Ls : List Addr} {σ : Hd} {s : Shared} {st : Sto} (hb : base ≤ st.length) (hE : EnvOk env sc) (S : HS h₀ Ls σ s.heap st) (F : FR Ls σ s.heap env sc vs) (C : CO Ls s.heap env sc) {x : Str} {d : D} {v : Value}
    (hx : sc.names.lookup x = some .local ∨ sc.names.lookup x = some .cell ∧ ∀ y, sc.names.lookup y = some .cell → y = x) (r : Rl s.heap (Xs Ls σ) σ d v) {E : Value → Shared → Prop} {Q : Unit → Shared → Prop}
    (h : ∀ s', Stx h₀ Ls (Own env sc) base σ s σ s' st → FR Ls σ s'.heap env sc (setV x d vs) → CO Ls s'.heap env sc → (∀ a o, ¬ Own env sc a → s.heap.get? a = some o → s'.heap.get? a = some o) → Q () s') : wpAny (model prog w) A (storeName env x v) Q E s := by
  rcases hx with hx | ⟨hx, only⟩
  · refine set_local hE S F hx r fun s' T F' => h s' ⟨T.same, T.hs, S.ge hb, ⟨σ.drop base, by rw [List.take_append_drop]⟩, T.ext, fun a u_ n o e => T.off a o (fun z => n (.inl z)) e⟩ F' (fun y hy => ?_) fun a o n e => T.off a o (fun z => n (.inl z)) e
    refine hide fun G kG => ?_
    obtain ⟨c, u, h1, h2, o, h3, h4⟩ := C y hy
    refine kG ?_
    clear kG G
    refine ⟨c, u, h1, h2, o, T.off c o (fun z => ?_) h3, h4⟩
    refine hide fun G kG => ?_
    obtain ⟨m, ⟨o', es, ep, ho', hd', _⟩, -⟩ := F.ns
    refine kG ?_
    clear kG G
    rw [← z, h3] at ho'; cases ho'
    rw [h4] at hd'; cases hd'
  · obtain ⟨c, u, h1, h2, h3⟩ := C x hx
    refine wpAny_storeName_cell (by rw [hE.scope]; exact hE.kind) (by rw [kindOf_eq hE]; exact hx) h1 h3 fun h' hc hs' => ?_
    obtain ⟨S', E'⟩ := S.touch (N := [c]) (h' := h') (fun a ha => by rw [List.mem_singleton.mp ha]; exact h2) (fun a o n e => (hs'.2 a (fun q => n (by rw [q]; simp))).trans e)
      (fun a ha => by rw [List.mem_singleton.mp ha]; obtain ⟨o, ho, _⟩ := hc; exact ⟨o, ho⟩)
    have off : ∀ a o, ¬ Own env sc a → s.heap.get? a = some o → h'.get? a = some o := fun a o n e => (hs'.2 a (fun z => n (.inr ⟨x, hx, by rw [z]; exact h1⟩))).trans e
    refine h _ ⟨⟨h', _, rfl⟩, S', S.ge hb, ⟨σ.drop base, by rw [List.take_append_drop]⟩, E', fun a u_ n o e => off a o n e⟩ ⟨F.loc, ?_, fun y e hy hk => ?_⟩ (fun y hy => ?_) off
    · obtain ⟨m, hn, hv⟩ := F.ns
      have hne : env.locals ≠ c := fun z => by
        refine hide fun G kG => ?_
        obtain ⟨o', es, ep, ho', hd', _⟩ := hn
        obtain ⟨o, ho, hd⟩ := h3
        refine kG ?_
        clear kG G
        rw [z, ho] at ho'; cases ho'
        rw [hd] at hd'; cases hd'
      refine ⟨m, hn.sameBut hs' hne, fun y e hy hk => ?_⟩
      rw [setV_lookup] at hy
      by_cases q : y = x
      · subst q; rw [hx] at hk; cases hk
      · have q' : (y == x) = false := by simpa using q
        rw [q'] at hy
        obtain ⟨u, h1, h2⟩ := hv y e (by simpa using hy) hk
        exact ⟨u, h1, Rl.mono E' (fun u_ u_ z => z) _ _ h2⟩
    · have := only y hk
      subst this
      rw [setV_lookup] at hy
      simp at hy
      subst hy
      exact ⟨c, v, h1, h2, hc, Rl.mono E' (fun u_ u_ z => z) _ _ r⟩
    · have := only y hy
      subst this
      exact ⟨c, _, h1, h2, hc⟩
theorem px_stp {env : Env} {sc : Scope} {base : Nat} {Ls : List Addr} {σ σ₁ : Hd} {s s₁ s₂ : Shared} {st₁ st' : Sto} {fl : Fl} {vs' : Vars} {f : Flow} (p : Stx h₀ Ls (Own env sc) base σ s σ₁ s₁ st₁) (q : PX h₀ Ls env sc base σ₁ s₁ fl vs' st' f s₂) : PX h₀ Ls env sc base σ s fl vs' st' f s₂ :=
  let ⟨σ₂, q1, q2⟩ := q; ⟨σ₂, p.trans q1, q2⟩
theorem wp_px {A : Around} {t : Sem Flow} {env : Env} {sc : Scope} {base : Nat} {Ls : List Addr} {σ σ₁ : Hd} {s s₁ : Shared} {st₁ st' : Sto} {fl : Fl} {vs' : Vars} (p : Stx h₀ Ls (Own env sc) base σ s σ₁ s₁ st₁) (h : wpAny (model prog w) A t (PX h₀ Ls env sc base σ₁ s₁ fl vs' st') Bot s₁) :
    wpAny (model prog w) A t (PX h₀ Ls env sc base σ s fl vs' st') Bot s₁ := wpAny_mono h (fun u_ u_ q => px_stp p q) fun u_ u_ x => x
theorem sx_pass (pos) : SX prog w T h₀ n cf (.Pass pos) := by
  intro A env sc base vs st fl vs' st' Ls σ s hA hE hb e S F C
  cases e
  exact wpAny_Pass ⟨σ, Stx.refl S (S.ge hb), rfl, F, C⟩
theorem sx_return_none (pos) : SX prog w T h₀ n cf (.Return none pos) := by
  intro A env sc base vs st fl vs' st' Ls σ s hA hE hb e S F C
  cases e
  exact wpAny_Return_none ⟨σ, Stx.refl S (S.ge hb), .none, rfl, rfl⟩
theorem sx_return {e : Expr} (pos) (h : SE prog w T h₀ n cf e) : SX prog w T h₀ n cf (.Return (some e) pos) := by
  intro A env sc base vs st fl vs' st' Ls σ s hA hE hb q S F C
  obtain ⟨⟨d, st₁⟩, h1, q⟩ := mapO q
  cases q
  exact wpAny_Return_some (pv_bind (h A env sc vs st d _ Ls σ s hA hE h1 S F) fun v s₁ σ₁ p r => ⟨σ₁, Stx.of p (S.ge hb), v, rfl, r⟩)
theorem swaps_none {e : Expr} (t : Option Expr) (ln : Nat) (env : Env) (h : isComp e = false) : swapsWith e t ln env = pure false := by
  cases e <;> first | rfl | (cases h)
theorem sx_expr {e : Expr} (pos) (h : SE prog w T h₀ n cf e) : SX prog w T h₀ n cf (.Expr e pos) := by
  intro A env sc base vs st fl vs' st' Ls σ s hA hE hb q S F C
  simp only [ix_expr, ix_pass, ix_ret, ix_ret0, ix_name, ix_attr, ix_sub, ix_tup, ix_if, ix_while, ix_forL] at q
  split at q
  · cases q
  · rename_i hc
    refine bindP q fun d st₁ h1 q => ?_
    dsimp only at q
    split at q
    · cases q
      refine wpAny_Expr (pv_bind (h A env sc vs st _ _ Ls σ s hA hE h1 S F) fun v s₁ σ₁ p r => ?_) ?_ (swaps_none _ _ _ (by simpa using hc))
      · subst r
        exact ⟨σ₁, Stx.of p (S.ge hb), rfl, F.step p, C.step p⟩
      · unfold interactive; rw [hE.scope, hE.kind]; rfl
    · cases q
/-- a list's item set -/
theorem setItem_ok {A : Around} {env : Env} {sc : Scope} {base : Nat} {vs : Vars} {Ls : List Addr} {σ : Hd} {s : Shared} {st : Sto} (hb : base ≤ st.length) (S : HS h₀ Ls σ s.heap st) (F : FR Ls σ s.heap env sc vs) (C : CO Ls s.heap env sc) {i : Nat} {l : List D} {j : Int} {t : Tok} {d : D} {vo v : Value} (k : Nat)
    (hi : st[i]? = some (.lst l)) (hk : 0 ≤ j ∧ j < l.length ∧ k = j.toNat ∨ j < 0 ∧ -(l.length : Int) ≤ j ∧ k = (j + l.length).toNat) (hlen : l.length ≤ 10000) (ro : Rl s.heap (Xs Ls σ) σ (.ptr i) vo) (r : Rl s.heap (Xs Ls σ) σ d v) :
    wpAny (model prog w) A (setItem vo (.int j t) v) (fun u_ => PX h₀ Ls env sc base σ s .next vs (st.set i (.lst (l.set k d))) .next) Bot s := by
  refine hide fun G kG => ?_
  obtain ⟨p, hp, rfl⟩ := ro
  obtain ⟨p', hp', e1, us, ⟨z, pl⟩, rl⟩ := S.ob i _ hi
  refine kG ?_
  clear kG G
  rw [hp] at hp'; cases hp'
  have hl := rl.length
  have fin : ∀ h', Heap.SameBut p.2 s.heap h' → h'.PlainList p.2 (us.set k v).toArray → PX h₀ Ls env sc base σ s .next vs (st.set i (.lst (l.set k d))) .next { s with heap := h' } := by
    intro h' hs hpl
    have kk : ∀ a o, a ≠ p.2 → s.heap.get? a = some o → h'.get? a = some o := fun a o n q => (hs.2 a n).trans q
    have E0 : Ext s.heap (Xs Ls σ) h' (Xs Ls σ) := fun a o n q => ⟨n, kk a o (fun z => n (z ▸ List.mem_append.mpr (.inr (List.mem_map.mpr ⟨p, List.mem_of_getElem? hp, rfl⟩)))) q⟩
    obtain ⟨S', E', KL⟩ := S.put (ob := .lst (l.set k d)) hp kk ⟨e1, us.set k v, hpl, RlL.mono E0 (fun u_ u_ q => q) _ _ (rl.set r)⟩
    have P : Stp h₀ Ls σ s σ { s with heap := h' } (st.set i (.lst (l.set k d))) := ⟨⟨h', s.toks, rfl⟩, S', ⟨[], by simp⟩, E', KL⟩
    exact ⟨σ, Stx.of P (S.ge hb), rfl, F.step P, C.step P⟩
  have ms : ∀ (m : Nat), Obj.mapSeq (·.setIfInBounds m v) { cls := .type "list", data := .seq us.toArray z } = { cls := .type "list", data := .seq (us.set m v).toArray z } := by
    intro m; simp [Obj.mapSeq]
  rw [e1]
  rcases hk with ⟨h0, h1, rfl⟩ | ⟨h0, h1, rfl⟩
  · refine ki_setAt pl h0 (by first | lia | omega) (by simp; first | lia | omega) (fin _ (Heap.SameBut.update ..) ⟨z, ?_⟩)
    rw [Heap.get?_update_self _ pl (by rw [ms]; rfl), ms]
  · refine ki_setBack pl h0 (by simp; first | lia | omega) (by first | lia | omega) (fin _ (Heap.SameBut.update ..) ⟨z, ?_⟩)
    have e2 : (j + (us.toArray.size : Int)).toNat = (j + (l.length : Int)).toNat := by simp [hl]
    rw [e2, Heap.get?_update_self _ pl (by rw [ms]; rfl), ms]
theorem sx_setitem {o k e : Expr} (sp pos) (ho : SE prog w T h₀ n cf o) (hk : SE prog w T h₀ n cf k) (h : SE prog w T h₀ n cf e) : SX prog w T h₀ n cf (.Assign [.Subscript o k sp] e pos) := by
  intro A env sc base vs st fl vs' st' Ls σ s hA hE hb q S F C
  simp only [ix_expr, ix_pass, ix_ret, ix_ret0, ix_name, ix_attr, ix_sub, ix_tup, ix_if, ix_while, ix_forL] at q
  split at q
  · cases q
  · rename_i hc
    refine bindP q fun d st₁ h1 q => ?_
    refine bindP q fun po st₂ h2 q => ?_
    refine bindP q fun kk st₃ h3 q => ?_
    dsimp only at h2 h3 q
    refine wpAny_Assign_Subscript (pv_bind (h A env sc vs st d _ Ls σ s hA hE h1 S F) fun v s₁ σ₁ p₁ r₁ => ?_) (swaps_none _ _ _ (by simpa using hc))
    refine pv_bind (ho A env sc vs st₁ po _ Ls σ₁ s₁ hA hE h2 p₁.hs (F.step p₁)) fun vo s₂ σ₂ p₂ r₂ => ?_
    refine pv_bind (hk A env sc vs st₂ kk _ Ls σ₂ s₂ hA hE h3 p₂.hs ((F.step p₁).step p₂)) fun vk s₃ σ₃ p₃ r₃ => ?_
    have P := p₁.trans (p₂.trans p₃)
    split at q
    · rename_i i j
      obtain ⟨t, rfl⟩ := r₃
      split at q
      · rename_i l hl
        have hb3 : base ≤ st₃.length := by rw [← p₃.hs.len]; exact (Stx.of (O := Own env sc) P (S.ge hb)).ge'
        split at q
        · rename_i hlen
          split at q
          · rename_i hj
            cases q
            exact wpAny_mono (setItem_ok hb3 p₃.hs (F.step P) (C.step P) _ hl (.inl ⟨hj.1, hj.2, rfl⟩) hlen (p₃.rl r₂) (p₃.rl (p₂.rl r₁))) (fun u_ u_ q => px_stp (Stx.of P (S.ge hb)) q) fun u_ u_ x => x
          · split at q
            · rename_i hj
              cases q
              exact wpAny_mono (setItem_ok hb3 p₃.hs (F.step P) (C.step P) _ hl (.inr ⟨hj.1, hj.2, rfl⟩) hlen (p₃.rl r₂) (p₃.rl (p₂.rl r₁))) (fun u_ u_ q => px_stp (Stx.of P (S.ge hb)) q) fun u_ u_ x => x
            · cases q
        · cases q
      · cases q
    · cases q
end
end Og
end
section
namespace Og
open PySem PySem.W PyProof.Rows
section
variable {h : Heap} {X : List Addr} {σ : Hd}
theorem putL_keys {a : Str} {d : D} {hsh : Int} {t : Tok} {v : Value} : ∀ {ns : List Str} {ds : List D} {es : List DictEntry}, ns.length = ds.length → keysOk ns es → RlL h X σ ds (es.map (·.val)) → Rl h X σ d v →
    keysOk (putF a d ns ds).1 (putL a hsh (.str a t) v es) ∧ RlL h X σ (putF a d ns ds).2 ((putL a hsh (.str a t) v es).map (·.val)) ∧ (putF a d ns ds).1.length = (putF a d ns ds).2.length ∧ (putL a hsh (.str a t) v es).length ≤ es.length + 1
  | [], [], _, _, e, r, q => by
    cases e
    refine ⟨⟨_, _, rfl, ⟨t, rfl⟩, rfl⟩, ⟨_, _, rfl, q, rfl⟩, rfl, Nat.le_refl _⟩
  | [], _ :: _, _, l, _, _, _ => by simp at l
  | _ :: _, [], _, l, _, _, _ => by simp at l
  | n :: ns, x :: ds, _, l, xx0, xx1, q => by
    obtain ⟨e, r, rfl, ⟨t', hk⟩, ko⟩ := xx0
    obtain ⟨u, us, e1, r1, r2⟩ := xx1
    simp only [List.map_cons, List.cons.injEq] at e1
    obtain ⟨rfl, rfl⟩ := e1
    simp only [putF, putL, hk, isStr_str]
    by_cases hn : n == a
    · rw [if_pos hn, if_pos hn]
      exact ⟨⟨_, _, rfl, ⟨t', rfl⟩, ko⟩, ⟨_, _, rfl, q, r2⟩, by simpa using l, by simp⟩
    · rw [if_neg hn, if_neg hn]
      obtain ⟨a1, a2, a3, a4⟩ := putL_keys (a := a) (hsh := hsh) (t := t) (by simpa using l) ko r2 q
      exact ⟨⟨e, _, rfl, ⟨t', hk⟩, a1⟩, ⟨_, _, rfl, r1, a2⟩, by simpa using a3, by simpa using a4⟩
theorem keysOk.length : ∀ {ns : List Str} {es : List DictEntry}, keysOk ns es → es.length = ns.length
  | [], _, e => by cases e; rfl
  | n :: ns, _, xx0 => by
    obtain ⟨e, r, q, _, ko⟩ := xx0
    subst q; simp [keysOk.length ko]
theorem keysOk.plain : ∀ {ns : List Str} {es : List DictEntry}, keysOk ns es → es.any (·.refKey) = false
  | [], _, e => by cases e; rfl
  | n :: ns, _, xx0 => by
    obtain ⟨e, r, q, ⟨t, hk⟩, ko⟩ := xx0
    subst q
    have : e.refKey = false := by unfold DictEntry.refKey; rw [hk]
    simp [this, keysOk.plain ko]
end
section
variable {prog : Program} {w : World} {T : Tab} {K : Frag} {h₀ : Heap} {n : Nat} {cf : CF} {mg mb : Str → Option Value}
/-- an attribute of an object of the text's own class is set -/
theorem attr_store {A : Around} {s : Shared} {E : Value → Shared → Prop} {x C dx : Addr} {es : List DictEntry} {es' : Tok → List DictEntry} {k : Nat} {name : Str} {v : Value} {Q : Unit → Shared → Prop} (X : K.In s.heap) (I : InstAt s.heap x (instObj C dx) C (some (dictOf es k)))
    (hs : findIn K (.ref C) "__setattr__" = some (some (.builtin "object.__setattr__"))) (hp : plainOver K C = true) (ht : takerIn K C name = some none) (hh : hasDictIn K C = true) (hl : es.any (·.refKey) = false)
    (e : ∀ tk, putL name (PyData.keyHash w.params name) (.str name tk) v es = es' tk) (hz : ∀ tk, (es' tk).length ≤ 1000)
    (h : ∀ h' tk, Heap.SameBut dx s.heap h' → h'.get? dx = some (dictOf (es' tk) (putN name es k)) → Q () { s with heap := h', toks := s.toks + 2 }) : wpAny (model prog w) A (setAttr (.ref x) name v) Q E s := by
  obtain ⟨cd, hc, hd'⟩ := any_some hh
  have hx : s.heap.get? x = some ⟨.ref C, some dx, .plain, #[]⟩ := I.at_
  have D : s.heap.get? dx = some (dictOf es k) := I.dict
  refine set_plain X I hs (osa_open (s := { s with toks := s.toks + 1 }) X I hp ht fun b => ?_)
  refine wpAny_bind (wpAny_pure (wpAny_bind (wpAny_bind (wpAny_loadPart hx ?_))))
  refine wpAny_bind (Looks.here (s := { s with toks := s.toks + 1 }) (looks_clsIn X hc) ?_)
  rw [hd']
  refine wpAny_pure (a := some dx) (wpAny_bind (wpAny_pure (wpAny_bind ?_)))
  unfold nsSet
  refine wpAny_bind (wpAny_bind (wpAny_askSetting (wpAny_pure (wpAny_bind (wpAny_mkText (wpAny_bind (wpAny_loadPart D ?_)))))))
  have c : (!es.toArray.any (·.key.isStr name) && es.toArray.any (·.refKey)) = false := by
    rw [List.any_toArray, List.any_toArray, hl, Bool.and_false]
  dsimp only
  rw [aRefKeyMayBeTheName_at, c]
  refine wpAny_updatePart D ?_
  have up : (s.heap.update dx (Obj.putName name (PyData.keyHash w.params name) (.str name (s.toks + 1)) v)).get? dx = some (dictOf (es' (s.toks + 1)) (putN name es k)) := by
    rw [Heap.get?_update_self _ D (by rw [putName_dict]; rfl), putName_dict, e]
  refine wpAny_bind (wpAny_lookBehind up (pastItsLine_dict (by rw [List.size_toArray, sizeLine_eq]; have := hz (s.toks + 1); first | exact Nat.le_trans (by assumption) (Nat.le_of_ble_eq_true rfl) | lia | omega)) ?_)
  exact wpAny_pure (h _ (s.toks + 1) (Heap.SameBut.update ..) up)
theorem sx_setattr (Gd : Bed w T K h₀ mg mb) {o e : Expr} (a ap pos) (ho : SE prog w T h₀ n cf o) (h : SE prog w T h₀ n cf e) : SX prog w T h₀ n cf (.Assign [.Attribute o a ap] e pos) := by
  intro A env sc base vs st fl vs' st' Ls σ s hA hE hb q S F C
  simp only [ix_expr, ix_pass, ix_ret, ix_ret0, ix_name, ix_attr, ix_sub, ix_tup, ix_if, ix_while, ix_forL] at q
  split at q
  · cases q
  · rename_i hc
    refine bindP q fun d st₁ h1 q => ?_
    refine bindP q fun po st₂ h2 q => ?_
    dsimp only at h2 q
    refine plainObj_wpAny_Assign_Attribute (pv_bind (h A env sc vs st d _ Ls σ s hA hE h1 S F) fun v s₁ σ₁ p₁ r₁ => ?_) (swaps_none _ _ _ (by simpa using hc))
    refine pv_bind (ho A env sc vs st₁ po _ Ls σ₁ s₁ hA hE h2 p₁.hs (F.step p₁)) fun vo s₂ σ₂ p₂ r₂ => ?_
    have P := p₁.trans p₂
    split at q
    · rename_i i
      split at q
      · rename_i c ns ds hi
        split at q
        · rename_i hat
          cases q
          have hat := Bool.and_eq_true_iff.mp hat
          refine hide fun G kG => ?_
          obtain ⟨g1, g2, g3, g4, g5, g6⟩ := Gd.attr _ _ hat.1
          obtain ⟨pp, hp, rfl⟩ := r₂
          obtain ⟨p', hp', n1, gx, es, k, gd, ks, rl⟩ := p₂.hs.ob i _ hi
          refine kG ?_
          clear kG G
          rw [hp] at hp'; cases hp'
          have hlen := ks.length
          have hl2 := rl.length
          have hns : ns.length ≤ 100 := by simpa using hat.2
          have hld : ns.length = ds.length := by simp at hl2; first | exact Nat.le_trans (by assumption) (Nat.le_of_ble_eq_true rfl) | lia | omega
          have rv := p₂.rl r₁
          refine attr_store (x := pp.1) (C := c) (dx := pp.2) (es := es) (k := k) (name := a) (es' := fun tk => putL a (PyData.keyHash w.params a) (.str a tk) v es) (Gd.inK p₂.hs) ⟨gx, rfl, rfl, gd⟩ g4 g5 g6 g2 ks.plain (fun u_ => rfl) (fun tk => ?_) fun h' tk hs hd => ?_
          · have := (putL_keys (a := a) (hsh := PyData.keyHash w.params a) (t := tk) hld ks rl rv).2.2.2
            first | exact Nat.le_trans (by assumption) (Nat.le_of_ble_eq_true rfl) | lia | omega
          · have kk : ∀ b o, b ≠ pp.2 → s₂.heap.get? b = some o → h'.get? b = some o := fun b o m q => (hs.2 b m).trans q
            have mX : pp.2 ∈ Xs Ls σ₂ := List.mem_append.mpr (.inr (List.mem_map.mpr ⟨pp, List.mem_of_getElem? hp, rfl⟩))
            have E0 : Ext s₂.heap (Xs Ls σ₂) h' (Xs Ls σ₂) := fun b o m q => ⟨m, kk b o (fun z => m (z ▸ mX)) q⟩
            obtain ⟨q1, q2, q3, q4⟩ := putL_keys (a := a) (hsh := PyData.keyHash w.params a) (t := tk) hld ks rl rv
            obtain ⟨S', E', KL⟩ := p₂.hs.put (ob := .inst c (putF a d ns ds).1 (putF a d ns ds).2) hp kk ⟨n1, kk _ _ (fun z => n1 (z ▸ mX)) gx, _, _, hd, q1, RlL.mono E0 (fun u_ u_ q => q) _ _ q2⟩
            have P' : Stp h₀ Ls σ₂ s₂ σ₂ { s₂ with heap := h', toks := s₂.toks + 2 } (st₂.set i (.inst c (putF a d ns ds).1 (putF a d ns ds).2)) := ⟨⟨h', _, rfl⟩, S', ⟨[], by simp⟩, E', KL⟩
            have P'' := P.trans P'
            exact ⟨σ₂, Stx.of P'' (S.ge hb), rfl, F.step P'', C.step P''⟩
        · cases q
      · cases q
    · cases q
theorem FR.congr {Ls : List Addr} {σ : Hd} {h : Heap} {env : Env} {sc : Scope} {vs vs' : Vars} (F : FR Ls σ h env sc vs) (e : ∀ x, vs'.lookup x = vs.lookup x) : FR Ls σ h env sc vs' where
  loc := F.loc
  ns := let ⟨m, hn, hv⟩ := F.ns; ⟨m, hn, fun x d q k => hv x d (by rw [← e]; exact q) k⟩
  cl := fun x d q k => F.cl x d (by rw [← e]; exact q) k
/-- a comprehension's value, used while its names are still there -/
theorem comp_shape {e : Expr} {sc : Scope} {vs : Vars} {st : Sto} {q : D × Sto} (hc : isComp e = true) (h : ev T cf e sc vs st = some q) : ∃ elt t it ifs k sc' pos, e = .ListComp elt [⟨t, it, ifs, k⟩] sc' pos := by
  cases e <;> first | (cases hc; done) | (cases h; done) | skip
  rename_i elt gs sc' pos
  rcases gs with _ | ⟨⟨t, it, ifs, k⟩, _ | ⟨g2, gs⟩⟩
  · (cases h; done)
  · exact ⟨elt, t, it, ifs, k, sc', pos, rfl⟩
  · (cases h; done)
theorem swaps_name {e : Expr} {x : Str} {p : Pos} {ln : Nat} {env : Env} : ∃ b, swapsWith e (some (.Name x p)) ln env = pure b ∧ (b = true → isComp e = true) := by
  cases e <;> first | exact ⟨false, rfl, fun z => by cases z⟩ | exact ⟨_, rfl, fun u_ => rfl⟩
theorem FR.out {h₀ : Heap} {N Ls : List Addr} {σ σ' : Hd} {s s' : Shared} {env : Env} {sc : Scope} {vs : Vars} (F : FR Ls σ s.heap env sc vs) (O : Out Ls σ s (N ++ Ls) σ' s') : FR (N ++ Ls) σ' s'.heap env sc vs := by
  have sub : Sub σ σ' := fun i q e => by obtain ⟨τ, rfl⟩ := O.pre; exact getElem?_append_some e
  refine ⟨List.mem_append.mpr (.inr F.loc), ?_, fun x d e k => ?_⟩
  · obtain ⟨m, hn, hv⟩ := F.ns
    refine ⟨m, hn.at' fun o e => O.kept _ F.loc o e, fun x d e k => ?_⟩
    obtain ⟨v, h1, h2⟩ := hv x d e k
    exact ⟨v, h1, Rl.mono O.ext sub _ _ h2⟩
  · refine hide fun G kG => ?_
    obtain ⟨c, v, h1, h2, ⟨o, ho, hd⟩, h3⟩ := F.cl x d e k
    refine kG ?_
    clear kG G
    exact ⟨c, v, h1, List.mem_append.mpr (.inr h2), ⟨o, O.kept c h2 o ho, hd⟩, Rl.mono O.ext sub _ _ h3⟩
theorem CO.out {N Ls : List Addr} {σ σ' : Hd} {s s' : Shared} {env : Env} {sc : Scope} (c : CO Ls s.heap env sc) (O : Out Ls σ s (N ++ Ls) σ' s') : CO (N ++ Ls) s'.heap env sc := fun x hx => by
  refine hide fun G kG => ?_
  obtain ⟨a, v, h1, h2, o, h3, h4⟩ := c x hx
  refine kG ?_
  clear kG G
  exact ⟨a, v, h1, List.mem_append.mpr (.inr h2), o, O.kept a h2 o h3, h4⟩
theorem FR.leave {N Ls : List Addr} {σ : Hd} {h h' : Heap} {env : Env} {sc : Scope} {vs : Vars} (F : FR (N ++ Ls) σ h env sc vs) (hl : env.locals ∈ Ls) (hc : ∀ x c, sc.names.lookup x = some .cell → env.cells.lookup x = some c → c ∈ Ls) (E : Ext h (Xs (N ++ Ls) σ) h' (Xs Ls σ)) (K : ∀ a ∈ Ls, ∀ o, h.get? a = some o → h'.get? a = some o) : FR Ls σ h' env sc vs := by
  refine ⟨hl, ?_, fun x d e k => ?_⟩
  · obtain ⟨m, hn, hv⟩ := F.ns
    refine ⟨m, hn.at' fun o e => K _ hl o e, fun x d e k => ?_⟩
    obtain ⟨v, h1, h2⟩ := hv x d e k
    exact ⟨v, h1, Rl.mono E (fun u_ u_ z => z) _ _ h2⟩
  · refine hide fun G kG => ?_
    obtain ⟨c, v, h1, h2, ⟨o, ho, hd⟩, h3⟩ := F.cl x d e k
    refine kG ?_
    clear kG G
    have := hc x c k h1
    exact ⟨c, v, h1, this, ⟨o, K c this o ho, hd⟩, Rl.mono E (fun u_ u_ z => z) _ _ h3⟩
theorem CO.leave {N Ls : List Addr} {h h' : Heap} {env : Env} {sc : Scope} (c : CO (N ++ Ls) h env sc) (hc : ∀ x c, sc.names.lookup x = some .cell → env.cells.lookup x = some c → c ∈ Ls) (K : ∀ a ∈ Ls, ∀ o, h.get? a = some o → h'.get? a = some o) : CO Ls h' env sc := fun x hx => by
  refine hide fun G kG => ?_
  obtain ⟨a, v, h1, h2, o, h3, h4⟩ := c x hx
  refine kG ?_
  clear kG G
  have := hc x a hx h1
  exact ⟨a, v, h1, this, o, K a this o h3, h4⟩
theorem CO.mem {Ls : List Addr} {h : Heap} {env : Env} {sc : Scope} (C : CO Ls h env sc) : ∀ x c, sc.names.lookup x = some .cell → env.cells.lookup x = some c → c ∈ Ls := fun x c hx hc => by
  obtain ⟨a, v, h1, h2, -⟩ := C x hx
  rw [hc] at h1; cases h1; exact h2
/-- an inner frame's step given back to the outer ledger -/
theorem Stx.leave {N Ls : List Addr} {O O' : Addr → Prop} {base : Nat} {σ σ' σ'' : Hd} {s s' s'' : Shared} {h'' : Heap} {tk : Nat} {st'' : Sto} (hO : ∀ a ∈ Ls, ¬ O a → ¬ O' a) (ge : base ≤ σ.length) (Ou : Out Ls σ s (N ++ Ls) σ' s') (p : Stx h₀ (N ++ Ls) O' base σ' s' σ'' s'' st'')
    (k : ∀ a q, a ∉ N → s''.heap.get? a = some q → h''.get? a = some q) : Stx h₀ Ls O base σ s σ'' { s'' with heap := h'', toks := tk } st'' := by
  obtain ⟨S', E', K'⟩ := p.hs.away k
  refine ⟨?_, S', ge, ?_, fun a q n e => ?_, fun a ha n o e => K' a ha o (p.kept a (List.mem_append.mpr (.inr ha)) (hO a ha n) o (Ou.kept a ha o e))⟩
  · obtain ⟨h', t, rfl⟩ := Ou.same; obtain ⟨h3, t3, rfl⟩ := p.same; exact ⟨h'', tk, rfl⟩
  · obtain ⟨τ, rfl⟩ := Ou.pre
    obtain ⟨τ', rfl⟩ := p.pre
    exact ⟨τ', by rw [List.take_append_of_le_length ge]⟩
  · have z := Ou.ext a q n e
    have z2 := p.ext a q z.1 z.2
    exact E' a q z2.1 z2.2
theorem use_eq (elt t it : Expr) (ifs : List Expr) (k : Int) (sc' : Scope) (pos : Pos) (env : Env) (use : Value → Sem Unit) : evalThenUse (.ListComp elt [⟨t, it, ifs, k⟩] sc' pos) env use =
    (comprehension (.ListComp elt [⟨t, it, ifs, k⟩] sc' pos) sc' env it.pos (newList []) (k != 0) (eval it env) (some use) >>= fun u_ => pure ()) := rfl
theorem comp_store {elt t it : Expr} {ifs : List Expr} {k : Int} {sc' : Scope} {pos : Pos} (hi : SE prog w T h₀ n cf it) (he : SE prog w T h₀ n cf elt) (hf : SF prog w T h₀ n cf ifs) {A : Around} {env : Env} {sc : Scope} {base : Nat} {vs : Vars} {st : Sto} {d : D} {st' : Sto} {Ls : List Addr} {σ : Hd} {s : Shared} {x : Str} {xp : Pos}
    (hA : AOk n A) (hE : EnvOk env sc) (hb : base ≤ st.length) (e : ev T cf (.ListComp elt [⟨t, it, ifs, k⟩] sc' pos) sc vs st = some (d, st')) (S : HS h₀ Ls σ s.heap st) (F : FR Ls σ s.heap env sc vs) (C : CO Ls s.heap env sc)
    (hx : sc.names.lookup x = some .local ∨ sc.names.lookup x = some .cell ∧ ∀ y, sc.names.lookup y = some .cell → y = x) :
    wpAny (model prog w) A (evalThenUse (.ListComp elt [⟨t, it, ifs, k⟩] sc' pos) env fun v => assignAll v ((assignEach [.Name x xp] env).map (·.2))) (fun u_ s' => PX h₀ Ls env sc base σ s .next (setV x d vs) st' .next s') Bot s := by
  rw [use_eq]
  have key := comp_core hi he hf hA hE e S F (some fun v => assignAll v ((assignEach [.Name x xp] env).map (·.2))) (fun u_ s' => PX h₀ Ls env sc base σ s .next (setV x d vs) st' .next s') ?_
  · exact wpAny_bind (wpAny_mono key (fun u_ s' q => wpAny_pure q) fun u_ u_ z => z)
  intro σ' s' C' v O S' ⟨m, hm⟩ r
  have ge := S.ge hb
  have hb' : base ≤ st'.length := by
    rw [← S'.len]
    obtain ⟨τ, rfl⟩ := O.pre
    rw [List.length_append]; first | exact Nat.le_trans (by assumption) (Nat.le_of_ble_eq_true rfl) | lia | omega
  have st1 : wpAny (model prog w) A (assign (.Name x xp) env v) (fun u_ s'' => ∃ m, s''.heap.Ns C' m ∧ ∀ h', Heap.SameBut C' s''.heap h' → PX h₀ Ls env sc base σ s .next (setV x d vs) st' .next { s'' with heap := h' }) Bot s' := by
    refine wpAny_assign_Name (set_any hb' hE S' (F.out (h₀ := h₀) O) (C.out O) hx r fun s₂ T F₂ C₂ off => ?_)
    have nd := S'.nd
    rw [show Xs ([C'] ++ Ls) σ' = [C'] ++ Xs Ls σ' by simp [Xs]] at nd
    have nC : ∀ a ∈ Ls, C' ≠ a := fun a ha => (List.nodup_append.mp nd).2.2 C' (by simp) a (List.mem_append.mpr (.inl ha))
    have hCo : ¬ Own env sc C' := by
      rintro (z | ⟨y, hy, hc⟩)
      · exact nC _ F.loc z
      · exact nC _ (C.mem y C' hy hc) rfl
    refine ⟨m, hm.at' fun o e => off C' o hCo e, fun h' hs => ?_⟩
    have k : ∀ a q, a ∉ [C'] → s₂.heap.get? a = some q → h'.get? a = some q := fun a q n e => (hs.2 a (by simpa using n)).trans e
    obtain ⟨S₃, E₃, K₃⟩ := T.hs.away k
    exact ⟨σ', Stx.leave (tk := s₂.toks) (fun u_ u_ n => n) ge O T k, rfl, F₂.leave F.loc C.mem E₃ K₃, C₂.leave C.mem K₃⟩
  exact st1
theorem lookup_mem {l : List (Str × NameKind)} {x : Str} {k : NameKind} (h : l.lookup x = some k) : (x, k) ∈ l := by
  induction l with
  | nil => simp at h
  | cons p l ih =>
    obtain ⟨a, b⟩ := p
    simp only [List.lookup_cons] at h
    split at h
    · rename_i z; cases h; rw [eq_of_beq z]; exact .head _
    · exact .tail _ (ih h)
theorem sx_name {e : Expr} (x xp pos) (he : SE prog w T h₀ n cf e) (hcomp : ∀ elt t it ifs k sc' p, e = .ListComp elt [⟨t, it, ifs, k⟩] sc' p → SE prog w T h₀ n cf it ∧ SE prog w T h₀ n cf elt ∧ SF prog w T h₀ n cf ifs) : SX prog w T h₀ n cf (.Assign [.Name x xp] e pos) := by
  intro A env sc base vs st fl vs' st' Ls σ s hA hE hb q S F C
  simp only [ix_expr, ix_pass, ix_ret, ix_ret0, ix_name, ix_attr, ix_sub, ix_tup, ix_if, ix_while, ix_forL] at q
  split at q
  · rename_i hk
    obtain ⟨⟨d, st₁⟩, h1, q⟩ := mapO q
    cases q
    have hx : sc.names.lookup x = some .local ∨ sc.names.lookup x = some .cell ∧ ∀ y, sc.names.lookup y = some .cell → y = x := by
      simp only [Bool.or_eq_true, Bool.and_eq_true, beq_iff_eq, List.all_eq_true] at hk
      rcases hk with hk | ⟨hk, ha⟩
      · exact .inl hk
      · exact .inr ⟨hk, fun y hy => by simpa using ha _ (lookup_mem hy)⟩
    obtain ⟨b, hsw, hc⟩ := swaps_name (e := e) (x := x) (p := xp) (ln := pos.line) (env := env)
    cases b with
    | false =>
      refine wpAny_Assign_Name (pv_bind (he A env sc vs st d _ Ls σ s hA hE h1 S F) fun v s₁ σ₁ p r => ?_) hsw
      have hb₁ : base ≤ st₁.length := by rw [← p.hs.len]; exact (Stx.of (O := Own env sc) p (S.ge hb)).ge'
      exact set_any hb₁ hE p.hs (F.step p) (C.step p) hx r fun s₂ T F₂ C₂ u_ => ⟨σ₁, (Stx.of p (S.ge hb)).trans T, rfl, F₂, C₂⟩
    | true =>
      refine hide fun G kG => ?_
      obtain ⟨elt, t, it, ifs, k, sc', p', rfl⟩ := comp_shape (hc rfl) h1
      obtain ⟨hi, hel, hf⟩ := hcomp _ _ _ _ _ _ _ rfl
      refine kG ?_
      clear kG G
      rw [arm_exec_Assign]
      refine wpAny_bind (wpAny_standAt ?_)
      have hsw' : swapsWithSole [.Name x xp] (.ListComp elt [⟨t, it, ifs, k⟩] sc' p') pos.line env = pure true := hsw
      rw [hsw']
      refine wpAny_bind (wpAny_pure ?_)
      rw [if_pos rfl]
      exact wpAny_bind (wpAny_mono (comp_store hi hel hf hA hE hb h1 S F C hx) (fun u_ u_ q => wpAny_pure q) fun u_ u_ z => z)
  · cases q
end
end Og
end
section
set_option tactic.hygienic false
namespace Og
open PySem PySem.W PyProof.Rows
noncomputable def namesOf : List Expr → List Str
  | .Name x _ :: es => x :: namesOf es
  | _ :: es => namesOf es
  | [] => []
theorem filter_names {sc : Scope} {f : Expr → Option Str} (hf : ∀ x p, f (.Name x p) = some x ∨ f (.Name x p) = none) : ∀ {ts : List Expr}, allNames sc ts = true → (ts.filterMap f).length = ts.length → ts.filterMap f = namesOf ts
  | [], _, _ => rfl
  | t :: ts, a, h => by
    obtain ⟨x, p, rfl, -⟩ := okNE (and1 a)
    replace a := and2 a
    rcases hf x p with q | q
    · rw [List.filterMap_cons_some q] at h ⊢
      rw [filter_names hf a (by simpa using h)]
      rfl
    · rw [List.filterMap_cons_none q] at h
      have := List.length_filterMap_le f ts
      simp at h; first | lia | omega
theorem iteP {α : Sort _} {c : Prop} [Decidable c] (P : α → Prop) {a b : α} (h1 : c → P a) (h2 : ¬ c → P b) : P (if c then a else b) :=
  if h : c then (if_pos h).symm ▸ h1 h else (if_neg h).symm ▸ h2 h
set_option tactic.hygienic true in
theorem swapped_ok {sc : Scope} {ts : List Expr} {k : Nat} {tp : Pos} {e : Expr} {env : Env} (ha : allNames sc ts = true) (hs : swapOk e = true) {P : Sem (Option (List Str)) → Prop} (n : P (pure none)) (y : (namesOf ts).length = ts.length → (ts.length = 2 ∨ ts.length = 3) → P (pure (some (namesOf ts)))) : P (swappedStores [.Tuple ts k tp] e env) := by
  cases e <;> first | exact n | skip
  rename_i es k' tp'
  refine iteP P (fun _ => n) fun h1 => iteP P (fun _ => n) fun h2 => iteP P (fun _ => n) fun h3 => iteP P (fun _ => n) fun h4 => iteP P (fun h5 => ?_) fun h5 => ?_
  · have hs : (es.all (foldedForSure 8) || !(es.all (constantsAlone 8))) = true := hs
    simp only [Bool.or_eq_true, Bool.not_eq_true'] at hs
    rcases hs with hs | hs
    · exact absurd hs h4
    · rw [h5] at hs; cases hs
  · have h3 := bne_eq_false_iff_eq.mp (Bool.or_eq_false_iff.mp (Bool.eq_false_iff.mpr h3)).1
    have e1 := filter_names (fun x p => by exact iteP (fun z : Option Str => z = some x ∨ z = none) (fun _ => .inl rfl) fun _ => .inr rfl) ha h3
    have hlen := h3
    rw [e1] at hlen
    simp only [Bool.or_eq_true, not_or, Bool.not_eq_true, Bool.not_eq_false', beq_iff_eq] at h1
    have q := y hlen h1.1.1
    rw [← e1] at q
    exact q
noncomputable def lk : List Expr → List D → Str → Option D → Option D
  | .Name x _ :: es, d :: ds, y, o => if y == x then some d else lk es ds y o
  | _, _, _, o => o
theorem setAll_lookup (y : Str) : ∀ {es : List Expr} {ds : List D} {vs vs' : Vars}, setAll es ds vs = some vs' → vs'.lookup y = lk es ds y (vs.lookup y)
  | [], [], _, _, h => by cases h; rfl
  | [], _ :: _, _, _, h => by cases h
  | e :: es, [], _, _, h => by cases h
  | e :: es, d :: ds, vs, vs', h => by
    obtain ⟨x, hx, hh⟩ := bindO h; replace h := hh; clear hh
    obtain ⟨p, rfl⟩ := nmE hx
    obtain ⟨v, h1, rfl⟩ := mapO h
    rw [setV_lookup, setAll_lookup y h1]
    rfl
theorem lk_out {x : Str} {o : Option D} : ∀ {es : List Expr} {ds : List D}, (es.all fun e => (nm e).any (x != ·)) = true → lk es ds x o = o
  | [], _, _ => rfl
  | e :: es, [], _ => by cases e <;> rfl
  | e :: es, d :: ds, h => by
    obtain ⟨y, hy, h1⟩ := anyE (and1 (by simpa only [List.all_cons] using h))
    obtain ⟨p, rfl⟩ := nmE hy
    exact (if_neg (by simpa using h1)).trans (lk_out (and2 (by simpa only [List.all_cons] using h)))
theorem bindNames_lookup (y : Str) : ∀ {es : List Expr} {ds : List D} {vs vs' : Vars}, distinct es = true → bindNames es ds vs = some vs' → vs'.lookup y = lk es ds y (vs.lookup y)
  | [], [], _, _, _, h => by cases h; rfl
  | [], _ :: _, _, _, _, h => by cases h
  | e :: es, [], _, _, _, h => by cases h
  | e :: es, d :: ds, vs, vs', hd, h => by
    obtain ⟨x, hx, hh⟩ := bindO h; replace h := hh; clear hh
    obtain ⟨p, rfl⟩ := nmE hx
    have hd1 : (es.all fun e => (nm e).any (x != ·)) = true := and1 hd
    rw [bindNames_lookup y (and2 hd) h, setV_lookup]
    show _ = if y == x then some d else lk es ds y (vs.lookup y)
    by_cases hy : y == x
    · rw [if_pos hy, if_pos hy]
      have := eq_of_beq hy
      subst this
      exact lk_out hd1
    · rw [if_neg hy, if_neg hy]
theorem setAll_bind : ∀ {es : List Expr} {ds : List D} {vs vs' : Vars} (us : Vars), setAll es ds vs = some vs' → ∃ us', bindNames es ds us = some us'
  | [], [], _, _, us, h => ⟨us, rfl⟩
  | [], _ :: _, _, _, _, h => by cases h
  | e :: es, [], _, _, _, h => by cases h
  | e :: es, d :: ds, vs, vs', us, h => by
    obtain ⟨x, hx, hh⟩ := bindO h; replace h := hh; clear hh
    obtain ⟨p, rfl⟩ := nmE hx
    obtain ⟨v, h1, rfl⟩ := mapO h
    have q := setAll_bind (setV x d us) h1
    exact q
section
variable {prog : Program} {w : World} {T : Tab} {K : Frag} {h₀ : Heap} {n : Nat} {cf : CF} {mg mb : Str → Option Value}
theorem CO.tch {Ls : List Addr} {σ : Hd} {s s' : Shared} {env : Env} {sc : Scope} {vs : Vars} {st : Sto} (C : CO Ls s.heap env sc) (F : FR Ls σ s.heap env sc vs) (T : Tch h₀ Ls σ env.locals s s' st) : CO Ls s'.heap env sc := fun y hy => by
  refine hide fun G kG => ?_
  obtain ⟨c, u, h1, h2, o, h3, h4⟩ := C y hy
  refine kG ?_
  clear kG G
  refine ⟨c, u, h1, h2, o, T.off c o (fun z => ?_) h3, h4⟩
  refine hide fun G kG => ?_
  obtain ⟨m, ⟨o', es, ep, ho', hd', _⟩, -⟩ := F.ns
  refine kG ?_
  clear kG G
  rw [← z, h3] at ho'; cases ho'
  rw [h4] at hd'; cases hd'
theorem Tch.stx {Ls : List Addr} {σ : Hd} {s s' : Shared} {env : Env} {sc : Scope} {base : Nat} {st : Sto} (T : Tch h₀ Ls σ env.locals s s' st) (ge : base ≤ σ.length) : Stx h₀ Ls (Own env sc) base σ s σ s' st :=
  ⟨T.same, T.hs, ge, ⟨σ.drop base, by rw [List.take_append_drop]⟩, T.ext, fun a u_ n o e => T.off a o (fun z => n (.inl z)) e⟩
/-- names bound one after the other -/
noncomputable def bindNs : List Str → List D → Vars → Vars
  | x :: xs, d :: ds, vs => bindNs xs ds (setV x d vs)
  | _, _, vs => vs
theorem names_ok2 {A : Around} {Ls : List Addr} {σ : Hd} {env : Env} {sc : Scope} {st : Sto} (hE : EnvOk env sc) {E : Value → Shared → Prop} {Q : Unit → Shared → Prop} : ∀ {xs : List Str} {ds : List D} {us : List Value} {vs : Vars} {s : Shared}, xs.length = ds.length → HS h₀ Ls σ s.heap st → FR Ls σ s.heap env sc vs → (∀ x ∈ xs, sc.names.lookup x = some .local) →
    RlL s.heap (Xs Ls σ) σ ds us → (∀ s', Tch h₀ Ls σ env.locals s s' st → FR Ls σ s'.heap env sc (bindNs xs ds vs) → Q () s') → wpAny (model prog w) A (assignInOrder (xs.map fun x => bindName env x) us) Q E s
  | [], [], us, vs, s, _, S, F, _, r, k => by
    cases r
    exact wpAny_pure (k s (Tch.refl S) F)
  | [], _ :: _, _, _, _, l, _, _, _, _, _ => by simp at l
  | _ :: _, [], _, _, _, l, _, _, _, _, _ => by simp at l
  | x :: xs, d :: ds, us, vs, s, l, S, F, a, xx0, k => by
    obtain ⟨v, us', e1, r1, r2⟩ := xx0
    subst e1
    refine wpAny_assignInOrder_more (bindName_ (set_local hE S F (a x (.head _)) r1 fun s₁ T F₁ => ?_))
    exact names_ok2 hE (by simpa using l) T.hs F₁ (fun y hy => a y (.tail _ hy)) (RlL.mono T.ext (fun u_ u_ z => z) _ _ r2) fun s' T' F' => k s' (T.trans T') F'
theorem RlL.reverse {h : Heap} {X : List Addr} {σ : Hd} : ∀ {l : List D} {vs : List Value}, RlL h X σ l vs → RlL h X σ l.reverse vs.reverse
  | [], _, e => by cases e; rfl
  | d :: ds, _, xx0 => by
    obtain ⟨v, r, e, a, b⟩ := xx0
    subst e; simpa using (RlL.reverse b).snoc a
theorem namesOf_local {sc : Scope} : ∀ {ts : List Expr}, allNames sc ts = true → ∀ x ∈ namesOf ts, sc.names.lookup x = some .local
  | [], _, x, h => by cases h
  | t :: ts, a, x, h => by
    obtain ⟨y, p, rfl, hy⟩ := okNE (and1 a)
    rcases List.mem_cons.mp (show x ∈ y :: namesOf ts from h) with rfl | h
    · exact hy
    · exact namesOf_local (and2 a) x h
theorem swapped_vars {sc : Scope} {ts : List Expr} {ds : List D} {vs vs' : Vars} (ha : allNames sc ts = true) (h : setAll ts ds vs = some vs') (hl : ts.length = 2 ∨ ts.length = 3) : vs' = bindNs (namesOf ts).reverse ds.reverse vs := by
  have one : ∀ {t : Expr} {ts : List Expr}, allNames sc (t :: ts) = true → ∃ x p, t = .Name x p ∧ allNames sc ts = true := by
    intro t ts a
    obtain ⟨y, p, rfl, -⟩ := okNE (and1 a)
    exact ⟨y, p, rfl, and2 a⟩
  rcases ts with _ | ⟨t1, _ | ⟨t2, _ | ⟨t3, _ | ⟨t4, ts⟩⟩⟩⟩
  · simp at hl
  · simp at hl
  · refine hide fun G kG => ?_
    obtain ⟨x, p, rfl, a1⟩ := one ha
    obtain ⟨y, q, rfl, -⟩ := one a1
    refine kG ?_
    clear kG G
    rcases ds with _ | ⟨d1, _ | ⟨d2, _ | ⟨d3, ds⟩⟩⟩ <;> cases h
    rfl
  · refine hide fun G kG => ?_
    obtain ⟨x, p, rfl, a1⟩ := one ha
    obtain ⟨y, q, rfl, a2⟩ := one a1
    obtain ⟨z, q', rfl, -⟩ := one a2
    refine kG ?_
    clear kG G
    rcases ds with _ | ⟨d1, _ | ⟨d2, _ | ⟨d3, _ | ⟨d4, ds⟩⟩⟩⟩ <;> cases h
    rfl
  · simp at hl
set_option tactic.hygienic true in
theorem sx_tuple {ts : List Expr} {e : Expr} (k tp pos) (he : SE prog w T h₀ n cf e) : SX prog w T h₀ n cf (.Assign [.Tuple ts k tp] e pos) := by
  intro A env sc base vs st fl vs' st' Ls σ s hA hE hb q S F C
  simp only [ix_expr, ix_pass, ix_ret, ix_ret0, ix_name, ix_attr, ix_sub, ix_tup, ix_if, ix_while, ix_forL] at q
  split at q
  · cases q
  · rename_i hc
    simp only [Bool.or_eq_true, not_or, Bool.not_eq_true, Bool.not_eq_false', Bool.not_eq_true', Bool.not_eq_false] at hc
    obtain ⟨⟨⟨hcomp, hn⟩, hd⟩, hsw⟩ := hc
    refine bindP q fun d st₁ h1 q => ?_
    dsimp only at q
    split at q
    · rename_i ds
      obtain ⟨v2, h2, q⟩ := mapO q
      cases q
      have hs1 : swapsWithSole [.Tuple ts k tp] e pos.line env = pure false := swaps_none (some (.Tuple ts k tp)) pos.line env hcomp
      refine swapped_ok (k := k) (tp := tp) (env := env) (P := fun x => swappedStores [.Tuple ts k tp] e env = x → _) hn hsw (fun hw => ?_) (fun hlen hl hw => ?_) rfl
      · refine Assign_Tuple (pv_bind (he A env sc vs st _ _ Ls σ s hA hE h1 S F) fun v s₁ σ₁ p r => ?_) hs1 hw
        obtain ⟨us, hus⟩ := setAll_bind vs h2
        refine bind_ok (t := .Tuple ts k tp) (d := .tup ds) (vs' := us) hA.1 hE p.hs (F.step p) hn hus r fun s₂ T₂ F₂ => ?_
        exact ⟨σ₁, (Stx.of p (S.ge hb)).trans (T₂.stx (Stx.of (O := Own env sc) p (S.ge hb)).ge'), rfl, F₂.congr fun y => by rw [setAll_lookup y h2, bindNames_lookup y hd hus], (C.step p).tch (F.step p) T₂⟩
      · refine Assign_Tuple_swapped (pv_bind (he A env sc vs st _ _ Ls σ s hA hE h1 S F) fun v s₁ σ₁ p r => ?_) hs1 hw
        obtain ⟨a, us, rfl, hna, ht, rl⟩ := r
        have hus := rl.length
        have hds : ds.length = ts.length := by
          obtain ⟨z, hz⟩ := setAll_bind vs h2
          exact (names_len (env := env) hz).1.symm
        have hsz : (namesOf ts).length = us.toArray.size := by simp; first | lia | omega
        rw [hsz]
        refine wpAny_unpackItems_tuple hA.1 ht fun h' hk => ?_
        have kk := kps_extBut hk
        have P := Stp.grow p.hs s₁.toks kk
        have hvs := swapped_vars hn h2 hl
        show wpAny (model prog w) A (assignInOrder ((namesOf ts).reverse.map fun n => bindName env n) us.reverse) _ _ _
        refine names_ok2 (s := { s₁ with heap := h' }) hE (by simp; first | lia | omega) P.hs (F.step (p.trans P)) (fun x hx => namesOf_local hn x (by simpa using hx)) (P.rlL rl).reverse fun s₂ T₂ F₂ => ?_
        rw [← hvs] at F₂
        exact ⟨σ₁, (Stx.of (p.trans P) (S.ge hb)).trans (T₂.stx (Stx.of (O := Own env sc) p (S.ge hb)).ge'), rfl, F₂, (C.step (p.trans P)).tch (F.step (p.trans P)) T₂⟩
    · cases q
end
end Og
end
section
set_option tactic.hygienic false
namespace Og
open PySem PySem.W PyProof.Rows
theorem fzVars_lookup {st : Sto} {n₀ : Nat} {x : Str} {d' : D} : ∀ {vs vs' : Vars}, fzVars st n₀ vs = some vs' → vs'.lookup x = some d' → ∃ d, vs.lookup x = some d ∧ freeze st n₀ d = some d'
  | [], _, h, q => by cases h; simp at q
  | (y, d) :: r, _, h, q => by
    refine bindE h fun d1 h1 h => ?_
    obtain ⟨r', h2, rfl⟩ := mapO h
    simp only [List.lookup_cons] at q ⊢
    split
    · rename_i z; rw [z] at q; cases q; exact ⟨d, rfl, h1⟩
    · rename_i z; rw [z] at q; exact fzVars_lookup h2 q
section
variable {prog : Program} {w : World} {T : Tab} {K : Frag} {h₀ : Heap} {n : Nat} {cf : CF} {mg mb : Str → Option Value}
theorem compact_ok {env : Env} {sc : Scope} {base line : Nat} {Ls : List Addr} {σ : Hd} {s : Shared} {vs vs' : Vars} {st st' : Sto} (S : HS h₀ Ls σ s.heap st) (F : FR Ls σ s.heap env sc vs) (ge : base ≤ σ.length) (e : compact T line base vs st = some (vs', st')) :
    ∃ σ', Stx h₀ Ls (Own env sc) base σ s σ' s st' ∧ FR Ls σ' s.heap env sc vs' := by
  cases hk : T.hint line with
  | none => cases (compact_eq hk).symm.trans e; exact ⟨σ, Stx.refl S ge, F⟩
  | some k =>
    refine iteE ((compact_eq hk).symm.trans e) (fun u_ e => ?_) fun u_ e => ?_
    · cases e; exact ⟨σ, Stx.refl S ge, F⟩
    · refine bindE e fun v2 h1 e => ?_
      obtain ⟨s2, h2, e⟩ := mapO e
      cases e
      obtain ⟨S', fz⟩ := S.cut (base + k) h2
      have E : Ext s.heap (Xs Ls σ) s.heap (Xs Ls (σ.take (base + k))) := ext_take _
      refine ⟨σ.take (base + k), ⟨⟨_, _, rfl⟩, S', ge, ⟨(σ.drop base).take k, by rw [List.take_add]⟩, E, fun u_ u_ u_ u_ q => q⟩, F.loc, ?_, fun x d hx hc => ?_⟩
      · obtain ⟨m, hn, hv⟩ := F.ns
        refine ⟨m, hn, fun x d hx hc => ?_⟩
        obtain ⟨d0, q1, q2⟩ := fzVars_lookup h1 hx
        obtain ⟨v, q3, q4⟩ := hv x d0 q1 hc
        exact ⟨v, q3, fz _ _ _ q2 q4⟩
      · refine hide fun G kG => ?_
        obtain ⟨d0, q1, q2⟩ := fzVars_lookup h1 hx
        obtain ⟨c, v, q3, q4, q5, q6⟩ := F.cl x d0 q1 hc
        refine kG ?_
        clear kG G
        exact ⟨c, v, q3, q4, q5, fz _ _ _ q2 q6⟩
theorem sxs_nil : SXs prog w T h₀ n cf [] := by
  intro A env sc base vs st fl vs' st' Ls σ s hA hE hb e S F C
  cases e
  exact wpAny_execs_nil ⟨σ, Stx.refl S (S.ge hb), rfl, F, C⟩
theorem sxs_cons {x : Stmt} {xs : List Stmt} (hx : SX prog w T h₀ n cf x) (hxs : SXs prog w T h₀ n cf xs) : SXs prog w T h₀ n cf (x :: xs) := by
  intro A env sc base vs st fl vs' st' Ls σ s hA hE hb e S F C
  refine bindP3 e fun fl1 vs1 st1 h1 e => ?_
  dsimp only at e
  refine wpAny_execs_cons (wpAny_mono (hx A env sc base vs st fl1 vs1 st1 Ls σ s hA hE hb h1 S F C) (fun f s₁ q => ?_) fun u_ u_ z => z)
  obtain ⟨σ₁, P, q⟩ := q
  cases fl1 with
  | next =>
    obtain ⟨rfl, F₁, C₁⟩ := q
    dsimp only at e ⊢
    refine bindP e fun vs2 st2 h2 e => ?_
    obtain ⟨σ₂, P₂, F₂⟩ := compact_ok P.hs F₁ P.ge' h2
    have PP := P.trans P₂
    exact wp_px PP (hxs A env sc base vs2 st2 fl vs' st' Ls σ₂ s₁ hA hE (by rw [← P₂.hs.len]; exact PP.ge') e P₂.hs F₂ C₁)
  | ret d =>
    obtain ⟨v, rfl, r⟩ := q
    dsimp only at e ⊢
    cases e
    exact ⟨σ₁, P, v, rfl, r⟩
theorem sx_if {t : Expr} {b o : List Stmt} (pos) (ht : ST prog w T h₀ n cf t) (hb' : SXs prog w T h₀ n cf b) (ho : SXs prog w T h₀ n cf o) : SX prog w T h₀ n cf (.If t b o pos) := by
  intro A env sc base vs st fl vs' st' Ls σ s hA hE hb e S F C
  refine bindP e fun c st1 h1 e => ?_
  dsimp only at e
  refine wpAny_If (wpAny_mono (ht A env sc vs st c st1 Ls σ s hA hE h1 S F) (fun c' s₁ q => ?_) fun u_ u_ z => z)
  obtain ⟨rfl, σ₁, p⟩ := q
  have P : Stx h₀ Ls (Own env sc) base σ s σ₁ s₁ st1 := Stx.of p (S.ge hb)
  have hb1 : base ≤ st1.length := by rw [← p.hs.len]; exact P.ge'
  cases c' with
  | true => exact wp_px P (hb' A env sc base vs st1 fl vs' st' Ls σ₁ s₁ hA hE hb1 (by simpa using e) p.hs (F.step p) (C.step p))
  | false => exact wp_px P (ho A env sc base vs st1 fl vs' st' Ls σ₁ s₁ hA hE hb1 (by simpa using e) p.hs (F.step p) (C.step p))
theorem sx_while {t : Expr} {b : List Stmt} (pos) (ht : ST prog w T h₀ n cf t) (hb' : SXs prog w T h₀ n cf b) : SX prog w T h₀ n cf (.While t b [] pos) := by
  intro A env sc base vs st fl vs' st' Ls σ s hA hE hb e S F C
  simp only [ix_expr, ix_pass, ix_ret, ix_ret0, ix_name, ix_attr, ix_sub, ix_tup, ix_if, ix_while, ix_forL] at e
  refine wpAny_While (codeAny_whileLoop (fun k s' => ∃ σ' vsc stc, whileL (evT T cf t (ev T cf t) sc) (exs T cf b sc base) k vsc stc = some (fl, vs', st') ∧ Stx h₀ Ls (Own env sc) base σ s σ' s' stc ∧ FR Ls σ' s'.heap env sc vsc ∧ CO Ls s'.heap env sc) ?_ 64 ⟨σ, vs, st, e, Stx.refl S (S.ge hb), F, C⟩)
  rintro k s₁ ⟨σ₁, vs1, st1, e1, P₁, F₁, C₁⟩
  cases k with
  | zero => cases e1
  | succ k =>
    refine bindP e1 fun c st2 h2 e1 => ?_
    dsimp only at e1
    refine wpAny_mono (ht A env sc vs1 st1 c st2 Ls σ₁ s₁ hA hE h2 P₁.hs F₁) (fun c' s₂ q => ?_) fun u_ u_ x => x.elim
    obtain ⟨rfl, σ₂, p⟩ := q
    have P₂ : Stx h₀ Ls (Own env sc) base σ s σ₂ s₂ st2 := P₁.trans (Stx.of p P₁.ge')
    cases c' with
    | false =>
      simp only [Bool.false_eq_true, if_false] at e1 ⊢
      cases e1
      exact wpAny_execs_nil ⟨σ₂, P₂, rfl, F₁.step p, C₁.step p⟩
    | true =>
      simp only [if_true] at e1 ⊢
      refine bindP3 e1 fun fl3 vs3 st3 h3 e1 => ?_
      dsimp only at e1
      refine wpAny_mono (hb' A env sc base vs1 st2 fl3 vs3 st3 Ls σ₂ s₂ hA hE (by rw [← p.hs.len]; exact P₂.ge') h3 p.hs (F₁.step p) (C₁.step p)) (fun f s₃ q => ?_) fun u_ u_ x => x.elim
      obtain ⟨σ₃, P₃, q⟩ := q
      cases fl3 with
      | next =>
        obtain ⟨rfl, F₃, C₃⟩ := q
        exact ⟨k, Nat.lt_succ_self _, σ₃, vs3, st3, e1, P₂.trans P₃, F₃, C₃⟩
      | ret d =>
        obtain ⟨v, rfl, r⟩ := q
        cases e1
        exact ⟨σ₃, P₂.trans P₃, v, rfl, r⟩
theorem own_not {N Ls : List Addr} {σ : Hd} {env : Env} {sc : Scope} {a : Addr} (nd : (Xs (N ++ Ls) σ).Nodup) (ha : a ∈ N) (hl : env.locals ∈ Ls) (hc : ∀ x c, sc.names.lookup x = some .cell → env.cells.lookup x = some c → c ∈ Ls) : ¬ Own env sc a := by
  rw [show Xs (N ++ Ls) σ = N ++ Xs Ls σ by simp [Xs]] at nd
  have nC : ∀ b ∈ Ls, a ≠ b := fun b hb => (List.nodup_append.mp nd).2.2 a ha b (List.mem_append.mpr (.inl hb))
  rintro (z | ⟨y, hy, hc'⟩)
  · exact nC _ hl z
  · exact nC _ (hc y a hy hc') rfl
/-- an inner frame's end given back to the outer ledger -/
theorem PX.leave {N Ls : List Addr} {env : Env} {sc : Scope} {O' : Addr → Prop} {base : Nat} {σ σ' σ₂ : Hd} {s s' s'' : Shared} {h'' : Heap} {tk : Nat} {st'' : Sto} {fl : Fl} {vs' : Vars} {f : Flow} (hO : ∀ a ∈ Ls, ¬ Own env sc a → ¬ O' a) (ge : base ≤ σ.length) (hl : env.locals ∈ Ls) (hc : ∀ x c, sc.names.lookup x = some .cell → env.cells.lookup x = some c → c ∈ Ls)
    (O : Out Ls σ s (N ++ Ls) σ' s') (P : Stx h₀ (N ++ Ls) O' base σ' s' σ₂ s'' st'') (q : match fl with
      | .next => f = .next ∧ FR (N ++ Ls) σ₂ s''.heap env sc vs' ∧ CO (N ++ Ls) s''.heap env sc
      | .ret d => ∃ v, f = .ret v ∧ Rl s''.heap (Xs (N ++ Ls) σ₂) σ₂ d v) (k : ∀ a q, a ∉ N → s''.heap.get? a = some q → h''.get? a = some q) : PX h₀ Ls env sc base σ s fl vs' st'' f { s'' with heap := h'', toks := tk } := by
  obtain ⟨S', E', K'⟩ := P.hs.away k
  refine ⟨σ₂, P.leave hO ge O k, ?_⟩
  cases fl with
  | next => exact ⟨q.1, q.2.1.leave hl hc E' K', q.2.2.leave hc K'⟩
  | ret d => obtain ⟨v, rfl, r⟩ := q; exact ⟨v, rfl, Rl.mono E' (fun u_ u_ z => z) _ _ r⟩
theorem for_core {t it : Expr} {b : List Stmt} (pos) (hb' : SXs prog w T h₀ n cf b) {A : Around} {env : Env} {sc : Scope} {base : Nat} {vs : Vars} {st st₁ : Sto} {d : D} {items : List D} {fl : Fl} {vs' : Vars} {st' : Sto} {Ls : List Addr} {σ : Hd} {s : Shared}
    (hA : AOk n A) (hE : EnvOk env sc) (hb : base ≤ st.length) (S : HS h₀ Ls σ s.heap st) (F : FR Ls σ s.heap env sc vs) (C : CO Ls s.heap env sc) (hs : ∀ x, foldedSetIterable it env x = pure x) (hit : wpAny (model prog w) A (eval it env) (PV h₀ Ls σ s st₁ d) Bot s)
    (e2 : itemsOf d = some items) (ok : okT sc t = true) (e : forL t (exs T cf b sc base) items vs st₁ = some (fl, vs', st')) : wpAny (model prog w) A (exec (.For t it b [] pos) env) (PX h₀ Ls env sc base σ s fl vs' st') Bot s := by
  refine wpAny_For (pv_bind hit fun v s₁ σ₁ p₁ r₁ => iter_ok hA.1 e2 r₁ fun o fp P St IT st0 => ?_) hs
  have P₁ : Stx h₀ Ls (Own env sc) base σ s σ₁ s₁ st₁ := Stx.of p₁ (S.ge hb)
  have ge₁ := P₁.ge'
  have F₁ := F.step p₁
  have C₁ := C.step p₁
  generalize hI : s₁.heap.objs.size = I at IT st0 ⊢
  have kk := kps_push s₁.heap o
  obtain ⟨oI, hoI⟩ := IT.al _ _ st0
  obtain ⟨S₂, E₂⟩ := p₁.hs.enter (N := [I]) (h' := s₁.heap.push o) (by simp) (fun a ha => by rw [List.mem_singleton.mp ha, ← hI]; exact get_size _) kk (fun a ha => by rw [List.mem_singleton.mp ha]; exact ⟨_, hoI⟩)
  have O₂ : Out Ls σ₁ s₁ ([I] ++ Ls) σ₁ { s₁ with heap := s₁.heap.push o } := ⟨⟨_, _, rfl⟩, ⟨[], by simp⟩, E₂, fun a u_ q e => kk a q e⟩
  have mI : I ∈ [I] := .head _
  have cm := C₁.mem
  have hO : ∀ a ∈ Ls, ¬ Own env sc a → ¬ (Own env sc a ∨ a = I) := fun a ha n z => z.elim n fun z => by
    have nd := S₂.nd
    rw [show Xs ([I] ++ Ls) σ₁ = [I] ++ Xs Ls σ₁ by simp [Xs]] at nd
    exact (List.nodup_append.mp nd).2.2 I mI a (List.mem_append.mpr (.inl ha)) z.symm
  refine codeAny_forLoop_any (fun k s' => ∃ (i : Nat) (σ' : Hd) (stc : Sto) (vsc : Vars), k = items.length + 1 - i ∧ i ≤ items.length ∧ forL t (exs T cf b sc base) (items.drop i) vsc stc = some (fl, vs', st') ∧
      Stx h₀ ([I] ++ Ls) (fun a => Own env sc a ∨ a = I) base σ₁ { s₁ with heap := s₁.heap.push o } σ' s' stc ∧ FR ([I] ++ Ls) σ' s'.heap env sc vsc ∧ CO ([I] ++ Ls) s'.heap env sc ∧ St i s'.heap ∧ Ext s₁.heap (Xs Ls σ₁) s'.heap (Xs ([I] ++ Ls) σ')) ?_ (items.length + 1)
    ⟨0, σ₁, st₁, vs, rfl, Nat.zero_le _, by simpa using e, Stx.refl S₂ ge₁, F₁.out (h₀ := h₀) O₂, C₁.out O₂, st0, E₂⟩
  rintro k s₃ ⟨i, σ₃, st₃, vs₃, rfl, hi, ec, P₃, F₃, C₃, sti, EX⟩
  by_cases hlast : i = items.length
  · subst hlast
    rw [List.drop_length] at ec
    cases ec
    refine IT.W.done s₃ _ _ sti fun h' tk hk => wpAny_execs_nil ?_
    exact px_stp P₁ (PX.leave hO ge₁ F₁.loc cm O₂ P₃ (fl := .next) ⟨rfl, F₃, C₃⟩ fun a q n e => hk a q n e)
  · have hi' : i < items.length := by first | lia | omega
    obtain ⟨d, hd⟩ : ∃ d, items[i]? = some d := ⟨items[i], by simp [hi']⟩
    have hdrop : items.drop i = d :: items.drop (i + 1) := by
      rw [List.drop_eq_getElem_cons hi']
      congr 1
      exact Option.some.inj (by rw [← hd]; simp [hi'])
    rw [hdrop] at ec
    refine bindE ec fun vs₄ hb4 ec => ?_
    refine bindP3 ec fun fl5 vs5 st5 hb5 ec => ?_
    dsimp only at ec
    refine IT.W.item i s₃ _ _ hi' sti fun v h' tk hP st2 hk => ?_
    have hk' : ∀ b o, b ≠ I → s₃.heap.get? b = some o → h'.get? b = some o := fun b o n e => hk b o (by simpa using n) e
    obtain ⟨S₄, E₄⟩ := P₃.hs.touch (N := [I]) (h' := h') (fun a ha => List.mem_append.mpr (.inl ha)) (fun a o n e => hk' a o (by simpa using n) e) (fun a ha => by rw [List.mem_singleton.mp ha]; exact IT.al _ _ st2)
    have nown : ¬ Own env sc I := own_not S₂.nd mI F₁.loc cm
    have K₄ : ∀ a ∈ Ls, ∀ o, s₃.heap.get? a = some o → h'.get? a = some o := fun a ha o e => hk' a o (fun z => by
      have nd := S₂.nd
      rw [show Xs ([I] ++ Ls) σ₁ = [I] ++ Xs Ls σ₁ by simp [Xs]] at nd
      exact (List.nodup_append.mp nd).2.2 I mI a (List.mem_append.mpr (.inl ha)) z.symm) e
    have F₄ : FR ([I] ++ Ls) σ₃ h' env sc vs₃ := by
      refine ⟨F₃.loc, ?_, fun x d' e k => ?_⟩
      · obtain ⟨m, hn, hv⟩ := F₃.ns
        refine ⟨m, hn.at' fun o e => K₄ _ F₁.loc o e, fun x d' e k => ?_⟩
        obtain ⟨u, h1, h2⟩ := hv x d' e k
        exact ⟨u, h1, Rl.mono E₄ (fun u_ u_ z => z) _ _ h2⟩
      · refine hide fun G kG => ?_
        obtain ⟨c', u, h1, h2, ⟨o, ho, hd'⟩, h3⟩ := F₃.cl x d' e k
        refine kG ?_
        clear kG G
        exact ⟨c', u, h1, h2, ⟨o, K₄ c' (cm x c' k h1) o ho, hd'⟩, Rl.mono E₄ (fun u_ u_ z => z) _ _ h3⟩
    have C₄ : CO ([I] ++ Ls) h' env sc := fun x hx => by
      refine hide fun G kG => ?_
      obtain ⟨c', u, h1, h2, o, ho, hd'⟩ := C₃ x hx
      refine kG ?_
      clear kG G
      exact ⟨c', u, h1, h2, o, K₄ c' (cm x c' hx h1) o ho, hd'⟩
    have rv : Rl h' (Xs ([I] ++ Ls) σ₃) σ₃ d v := IT.val i v d hP hd _ _ _ (EX.trans E₄)
    have ge₃ := P₃.ge'
    refine IT.let_ok st2 hd hb4 rv (bind_ok hA.1 hE S₄ F₄ ok hb4 rv fun s₅ T₅ F₅ => ?_)
    have P₅ : Stx h₀ ([I] ++ Ls) (Own env sc) base σ₃ { s₃ with heap := h', toks := tk } σ₃ s₅ st₃ := T₅.stx ge₃
    have C₅ := C₄.tch F₄ T₅
    refine wpAny_mono (hb' A env sc base vs₄ st₃ fl5 vs5 st5 _ σ₃ s₅ hA hE (by rw [← P₃.hs.len]; exact ge₃) hb5 T₅.hs F₅ C₅) (fun f s₆ q => ?_) fun u_ u_ x => x.elim
    obtain ⟨σ₆, P₆, q⟩ := q
    have EX6 : Ext s₁.heap (Xs Ls σ₁) s₆.heap (Xs ([I] ++ Ls) σ₆) := EX.trans (E₄.trans (P₅.ext.trans P₆.ext))
    have KI : ∀ o, h'.get? I = some o → s₆.heap.get? I = some o := fun o e => P₆.kept I (List.mem_append.mpr (.inl mI)) nown o (T₅.off I o (fun z => nown (.inl z)) e)
    have st6 : St (i + 1) s₆.heap := by
      refine IT.W.frame _ _ _ st2 fun b hbm o hbo => ?_
      by_cases hbI : b = I
      · rw [hbI] at hbo ⊢; exact KI o hbo
      · obtain ⟨q1, o', ho'⟩ := IT.fp b hbm hbI
        have z := EX.trans E₄ b o' q1 ho'
        rw [z.2] at hbo; cases hbo
        exact ((P₅.ext.trans P₆.ext) b _ z.1 z.2).2
    have PI : Stx h₀ ([I] ++ Ls) (fun a => Own env sc a ∨ a = I) base σ₃ s₃ σ₃ { s₃ with heap := h', toks := tk } st₃ := ⟨⟨h', tk, rfl⟩, S₄, ge₃, ⟨σ₃.drop base, by rw [List.take_append_drop]⟩, E₄, fun a u_ n o e => hk' a o (fun z => n (.inr z)) e⟩
    have P6 := P₃.trans (PI.trans ((P₅.trans P₆).weaken fun a z => .inl z))
    cases fl5 with
    | next =>
      obtain ⟨rfl, F₆, C₆⟩ := q
      dsimp only at ec ⊢
      refine ⟨items.length + 1 - (i + 1), by first | lia | omega, i + 1, σ₆, st5, vs5, rfl, hi', ec, ?_, F₆, C₆, st6, EX6⟩
      exact P6
    | ret d' =>
      obtain ⟨v', rfl, r⟩ := q
      dsimp only at ec ⊢
      cases ec
      exact px_stp P₁ (PX.leave (tk := s₆.toks) hO ge₁ F₁.loc cm O₂ P6 (fl := .ret d') ⟨v', rfl, r⟩ fun a q n e => e)
end
end Og
end
section
set_option tactic.hygienic false
namespace Og
open PySem PySem.W PyProof.Rows
section
variable {prog : Program} {w : World} {T : Tab} {K : Frag} {h₀ : Heap} {n : Nat} {cf : CF} {mg mb : Str → Option Value}
theorem sx_none {x : Stmt} (h : ∀ sc base vs st, ex T cf x sc base vs st = none) : SX prog w T h₀ n cf x := by
  intro A env sc base vs st fl vs' st' Ls σ s hA hE hb e S F C
  rw [h] at e; cases e
theorem fold_plain {e : Expr} {sc : Scope} {vs : Vars} {st : Sto} {q : D × Sto} {env : Env} (h : ev T cf e sc vs st = some q) (x : Value) : foldedSetIterable e env x = pure x := by
  unfold foldedSetIterable
  cases e <;> first | rfl | (cases h; done)
theorem ex_for {t it : Expr} {b : List Stmt} {pos : Pos} {sc : Scope} {base : Nat} {vs : Vars} {st : Sto} (h : ∀ es p, it ≠ .List es p) : ex T cf (.For t it b [] pos) sc base vs st =
    if okT sc t then (ev T cf it sc vs st).bind fun a => (itemsOf a.1).bind fun items => forL t (exs T cf b sc base) items vs a.2 else none := by
  cases it <;> first | exact absurd rfl (h _ _) | rfl
theorem sx_for (Gd : Bed w T K h₀ mg mb) (hcf : CFok prog w h₀ n cf) {t it : Expr} {b : List Stmt} (pos) (hb' : SXs prog w T h₀ n cf b) : SX prog w T h₀ n cf (.For t it b [] pos) := by
  by_cases hl : ∃ es p, it = .List es p
  · obtain ⟨es, p, rfl⟩ := hl
    intro A env sc base vs st fl vs' st' Ls σ s hA hE hb e S F C
    simp only [ix_expr, ix_pass, ix_ret, ix_ret0, ix_name, ix_attr, ix_sub, ix_tup, ix_if, ix_while, ix_forL] at e
    split at e
    · rename_i ok
      refine bindP e fun l st₁ h1 e => ?_
      dsimp only at e
      split at e
      · rename_i hnp
        have hnp := Bool.and_eq_true_iff.mp hnp
        have hlen : l.length ≤ 1000 := by simpa using hnp.2
        refine for_core pos hb' (d := .lst l) hA hE hb S F C (fun u_ => rfl) ?_ (if_pos (andI hnp.1 (decide_eq_true (by first | exact Nat.le_trans (by assumption) (Nat.le_of_ble_eq_true rfl) | lia | omega)))) ok e
        refine wpAny_List (pl_bind (sl_all (pl_all Gd hcf es) A env sc vs st l _ Ls σ s p hA hE h1 S F) fun us s₁ σ₁ p r => ⟨?_, pv_step p (new_list p.hs r s₁.toks)⟩)
        rw [r.length, sizeLine_eq]; first | exact Nat.le_trans (by assumption) (Nat.le_of_ble_eq_true rfl) | lia | omega
      · cases e
    · cases e
  · have hl' : ∀ es p, it ≠ .List es p := fun es p q => hl ⟨es, p, q⟩
    intro A env sc base vs st fl vs' st' Ls σ s hA hE hb e S F C
    rw [ex_for hl'] at e
    split at e
    · rename_i ok
      refine bindP e fun d st₁ h1 e => ?_
      refine bindE e fun items h2 e => ?_
      exact for_core pos hb' hA hE hb S F C (fold_plain h1) ((pe_all Gd hcf it).se A env sc vs st d st₁ Ls σ s hA hE h1 S F) h2 ok e
    · cases e
theorem sx_assign (Gd : Bed w T K h₀ mg mb) (hcf : CFok prog w h₀ n cf) (ts : List Expr) (e : Expr) (pos) : SX prog w T h₀ n cf (.Assign ts e pos) := by
  have he := pe_all Gd hcf e
  rcases ts with _ | ⟨t, _ | ⟨t2, ts⟩⟩
  · exact sx_none fun u_ u_ u_ u_ => rfl
  · cases t with
    | Name x xp =>
      refine sx_name x xp pos he.se fun elt t it ifs k sc' p q => ?_
      subst q
      exact ⟨(pe_all Gd hcf it).se, (pe_all Gd hcf elt).se, sf_all (pl_all Gd hcf ifs)⟩
    | Attribute o a ap => exact sx_setattr Gd a ap pos (pe_all Gd hcf o).se he.se
    | Subscript o k sp => exact sx_setitem sp pos (pe_all Gd hcf o).se (pe_all Gd hcf k).se he.se
    | Tuple es k tp => exact sx_tuple k tp pos he.se
    | _ => exact sx_none fun u_ u_ u_ u_ => rfl
  · exact sx_none fun u_ u_ u_ u_ => by cases t <;> rfl
theorem sx_for_else (t it : Expr) (b : List Stmt) (o : Stmt) (os : List Stmt) (p : Pos) : SX prog w T h₀ n cf (.For t it b (o :: os) p) := sx_none fun u_ u_ u_ u_ => by cases it <;> rfl
theorem sx_while_else (t : Expr) (b : List Stmt) (o : Stmt) (os : List Stmt) (p : Pos) : SX prog w T h₀ n cf (.While t b (o :: os) p) := sx_none fun u_ u_ u_ u_ => rfl
mutual
theorem sx_all (Gd : Bed w T K h₀ mg mb) (hcf : CFok prog w h₀ n cf) : ∀ x : Stmt, SX prog w T h₀ n cf x
  | .FunctionDef .. => sx_none fun u_ u_ u_ u_ => rfl
  | .AsyncFunctionDef .. => sx_none fun u_ u_ u_ u_ => rfl
  | .ClassDef .. => sx_none fun u_ u_ u_ u_ => rfl
  | .Return (some e) p => sx_return p (pe_all Gd hcf e).se
  | .Return none p => sx_return_none p
  | .Delete .. => sx_none fun u_ u_ u_ u_ => rfl
  | .Assign ts e p => sx_assign Gd hcf ts e p
  | .TypeAlias .. => sx_none fun u_ u_ u_ u_ => rfl
  | .AugAssign .. => sx_none fun u_ u_ u_ u_ => rfl
  | .AnnAssign .. => sx_none fun u_ u_ u_ u_ => rfl
  | .For t it b [] p => sx_for Gd hcf p (sxs_all Gd hcf b)
  | .For t it b (o :: os) p => sx_for_else t it b o os p
  | .AsyncFor .. => sx_none fun u_ u_ u_ u_ => rfl
  | .While t b [] p => sx_while p (pe_all Gd hcf t).st (sxs_all Gd hcf b)
  | .While t b (o :: os) p => sx_while_else t b o os p
  | .If t b o p => sx_if p (pe_all Gd hcf t).st (sxs_all Gd hcf b) (sxs_all Gd hcf o)
  | .With .. => sx_none fun u_ u_ u_ u_ => rfl
  | .AsyncWith .. => sx_none fun u_ u_ u_ u_ => rfl
  | .Match .. => sx_none fun u_ u_ u_ u_ => rfl
  | .Raise .. => sx_none fun u_ u_ u_ u_ => rfl
  | .Try .. => sx_none fun u_ u_ u_ u_ => rfl
  | .TryStar .. => sx_none fun u_ u_ u_ u_ => rfl
  | .Assert .. => sx_none fun u_ u_ u_ u_ => rfl
  | .Import .. => sx_none fun u_ u_ u_ u_ => rfl
  | .ImportFrom .. => sx_none fun u_ u_ u_ u_ => rfl
  | .Global .. => sx_none fun u_ u_ u_ u_ => rfl
  | .Nonlocal .. => sx_none fun u_ u_ u_ u_ => rfl
  | .Expr e p => sx_expr p (pe_all Gd hcf e).se
  | .Pass p => sx_pass p
  | .Break .. => sx_none fun u_ u_ u_ u_ => rfl
  | .Continue .. => sx_none fun u_ u_ u_ u_ => rfl
theorem sxs_all (Gd : Bed w T K h₀ mg mb) (hcf : CFok prog w h₀ n cf) : ∀ xs : List Stmt, SXs prog w T h₀ n cf xs
  | [] => sxs_nil
  | x :: xs => sxs_cons (sx_all Gd hcf x) (sxs_all Gd hcf xs)
end
theorem lookup_none {α : Type} {x : Str} : ∀ {l : List (Str × α)}, x ∉ l.map (·.1) → l.lookup x = none
  | [], _ => rfl
  | (a, b) :: l, h => by
    simp only [List.map_cons, List.mem_cons, not_or] at h
    have : (x == a) = false := by simpa using h.1
    simp only [List.lookup_cons, this]
    exact lookup_none h.2
theorem lookup_app {α : Type} {x : Str} : ∀ {l k : List (Str × α)}, (l ++ k).lookup x = (l.lookup x).or (k.lookup x)
  | [], _ => rfl
  | (a, b) :: l, k => by
    simp only [List.cons_append, List.lookup_cons]
    split
    · rfl
    · exact lookup_app
theorem lookup_rev {α : Type} {x : Str} : ∀ {l : List (Str × α)}, (l.map (·.1)).Nodup → l.reverse.lookup x = l.lookup x
  | [], _ => rfl
  | (a, b) :: l, h => by
    simp only [List.map_cons, List.nodup_cons] at h
    rw [List.reverse_cons, lookup_app, lookup_rev h.2]
    simp only [List.lookup_cons, List.lookup_nil]
    by_cases hx : x == a
    · have := eq_of_beq hx
      subst this
      rw [lookup_none h.1]
      simp
    · have hx' : (x == a) = false := by simpa using hx
      rw [hx']
      simp
theorem zip_rl {h : Heap} {X : List Addr} {σ : Hd} {x : Str} {d : D} : ∀ {ps : List Str} {ds : List D} {vs : List Value}, RlL h X σ ds vs → (ps.zip ds).lookup x = some d → ∃ v, (ps.zip vs).lookup x = some v ∧ Rl h X σ d v
  | [], _, _, _, q => by simp at q
  | p :: ps, [], _, _, q => by simp at q
  | p :: ps, d' :: ds, _, xx0, q => by
    obtain ⟨v, u, e, r1, r2⟩ := xx0
    subst e
    simp only [List.zip_cons_cons, List.lookup_cons] at q ⊢
    split at q
    · cases q; exact ⟨v, rfl, r1⟩
    · exact zip_rl r2 q
theorem Stx.stp {Ls : List Addr} {O : Addr → Prop} {base : Nat} {σ σ' : Hd} {s s' : Shared} {st' : Sto} (p : Stx h₀ Ls O base σ s σ' s' st') (hb : base = σ.length) (hO : ∀ a ∈ Ls, ¬ O a) : Stp h₀ Ls σ s σ' s' st' := by
  refine ⟨p.same, p.hs, ?_, p.ext, fun a ha o e => p.kept a ha (hO a ha) o e⟩
  obtain ⟨τ, h⟩ := p.pre
  exact ⟨τ, by rw [h, hb, List.take_length]⟩
theorem fr_call {Ls : List Addr} {σ : Hd} {h h₁ : Heap} {L f : Addr} {fd : FuncData} {fn : Fn} {ds : List D} {vs : List Value} (O : FnOk h₀ f fn fd) (hl : vs.length = fn.params.length) (r : RlL h (Xs Ls σ) σ ds vs) (E : Ext h (Xs Ls σ) h₁ (Xs ([L] ++ Ls) σ))
    (hns : h₁.Ns L (fun x => (fn.params.zip vs).reverse.lookup x)) : FR ([L] ++ Ls) σ h₁ (callEnv fd L f) fn.scope (fn.params.zip ds) := by
  refine ⟨List.mem_append.mpr (.inl (.head _)), ⟨_, hns, fun x d hx hk => ?_⟩, fun x d hx hk => absurd rfl (O.cell _ (lookup_mem hk))⟩
  obtain ⟨v, h1, h2⟩ := zip_rl r hx
  refine ⟨v, ?_, Rl.mono E (fun u_ u_ z => z) _ _ h2⟩
  rw [lookup_rev, h1]
  rw [List.map_fst_zip (by first | exact Nat.le_trans (by assumption) (Nat.le_of_ble_eq_true rfl) | lia | omega)]
  exact O.nodup
noncomputable def retOf (f : Flow) : Value := match f with | .ret v => v | _ => .none
/-- a call of one of the text's own functions -/
theorem callF_ok (Gd : Bed w T K h₀ mg mb) : ∀ n, CFok prog w h₀ n (callF T n)
  | 0 => by
    intro f ds st d st' e
    cases e
  | n + 1 => by
    have ih := callF_ok Gd n
    intro f ds st d st' e A hh hd hu Ls σ s vs S r
    refine bindE e fun fn hfn e => ?_
    · by_cases hlen : fn.params.length = ds.length
      · refine bindP3 ((if_pos hlen).symm.trans e) fun fl vsx stx h1 e => ?_
        dsimp only at e
        obtain ⟨fd, O⟩ := Gd.fnObj f fn hfn
        obtain ⟨o, ho, hdata⟩ := O.obj
        have kb : ∀ a q, h₀.get? a = some q → s.heap.get? a = some q := fun a q z => (S.base a q z).2
        have hlv : vs.length = fn.params.length := by rw [r.length, hlen]
        have hcode : s.heap.CodeRec fd.code fd.qualname := O.code.keeps kb
        have hlim : s.heap.NoLimit := let ⟨mc, hm, hz⟩ := Gd.lim; ⟨mc, hm.keeps kb, hz⟩
        refine codeAny_call_def (by first | exact Nat.le_trans (by assumption) (Nat.le_of_ble_eq_true rfl) | lia | omega) (kb _ _ ho) hdata hlim hcode O.body (O.bind s vs hlv) (by rw [O.scope]; exact O.cell) ?_ ?_ (by rw [O.scope]; exact O.co) (by rw [O.scope]; exact O.gen) (by rw [O.scope]; exact O.kind)
        · intro x hx
          rw [O.scope]
          exact O.loc x.1 (List.of_mem_zip hx).1
        · intro h₁ hns hk
          obtain ⟨oL, es, ep, hoL, -⟩ := id hns
          obtain ⟨S₁, E₁⟩ := S.enter (N := [s.heap.objs.size]) (h' := h₁) (by simp) (fun a ha => by rw [List.mem_singleton.mp ha]; exact get_size _) hk (fun a ha => by rw [List.mem_singleton.mp ha]; exact ⟨_, hoL⟩)
          have O₁ : Out Ls σ s ([s.heap.objs.size] ++ Ls) σ { s with heap := h₁, toks := s.toks + (fn.params.zip vs).length } := ⟨⟨_, _, rfl⟩, ⟨[], by simp⟩, E₁, fun a u_ q e => hk a q e⟩
          have hE : EnvOk (callEnv fd s.heap.objs.size f) fn.scope := ⟨O.scope, O.kind, O.glob, O.bi⟩
          have hA : AOk n (A.deeper (callEnv fd s.heap.objs.size f)) := by
            refine ⟨hh, ?_, ?_⟩
            · show A.depth + 1 + 3 * n + 3 < recursionLimit
              first | exact Nat.le_trans (by assumption) (Nat.le_of_ble_eq_true rfl) | lia | omega
            · show A.units + 3 + 20 * n + 110 < cLine
              first | exact Nat.le_trans (by assumption) (Nat.le_of_ble_eq_true rfl) | lia | omega
          have nocell : ∀ x, fn.scope.names.lookup x ≠ some .cell := fun x hx => absurd rfl (O.cell _ (lookup_mem hx))
          refine wpAny_mono (sxs_all Gd ih fn.body _ _ fn.scope st.length _ st fl vsx stx _ σ { s with heap := h₁, toks := s.toks + (fn.params.zip vs).length } hA hE (Nat.le_refl _) h1 S₁ (fr_call O hlv r E₁ hns) (fun x hx => absurd hx (nocell x))) (fun fw s' q => ?_) fun u_ u_ x => x.elim
          obtain ⟨σ', P, q⟩ := q
          have ge : st.length ≤ σ.length := by rw [S.len]; exact Nat.le_refl _
          have nd := S₁.nd
          rw [show Xs ([s.heap.objs.size] ++ Ls) σ = [s.heap.objs.size] ++ Xs Ls σ by simp [Xs]] at nd
          have hO : ∀ a ∈ Ls, ¬ False → ¬ Own (callEnv fd s.heap.objs.size f) fn.scope a := fun a ha u_ z => by
            rcases z with z | ⟨x, hx, -⟩
            · exact (List.nodup_append.mp nd).2.2 s.heap.objs.size (by simp) a (List.mem_append.mpr (.inl ha)) z.symm
            · exact nocell x hx
          obtain ⟨S₂, E₂, K₂⟩ := P.hs.away (h' := s'.heap) fun a q u_ e => e
          have P' : Stp h₀ Ls σ s σ' s' stx := Stx.stp (O := fun u_ => False) (P.leave (tk := s'.toks) hO ge O₁ fun a q u_ e => e) S.len.symm fun u_ u_ z => z
          have val : ∃ v, retOf fw = v ∧ Rl s'.heap (Xs Ls σ') σ' (retD fl) v := by
            cases fl with
            | next => obtain ⟨rfl, -⟩ := q; exact ⟨.none, rfl, rfl⟩
            | ret d => obtain ⟨v, rfl, rv⟩ := q; exact ⟨v, rfl, Rl.mono E₂ (fun u_ u_ z => z) _ _ rv⟩
          obtain ⟨v, hv, rv⟩ := val
          refine ⟨v, congrArg (fun z => Except.ok (Flow.ret z)) hv, ?_⟩
          split at e
          · cases e
            exact ⟨σ', P', rv⟩
          · refine bindE e fun d2 h2 e => ?_
            obtain ⟨s2, h3, e⟩ := mapO e
            cases e
            obtain ⟨S₃, fz⟩ := P'.hs.cut st.length h3
            have ht : σ'.take st.length = σ := by
              obtain ⟨τ, rfl⟩ := P'.pre
              rw [← S.len]; simp
            rw [ht] at S₃ fz
            have E3 : Ext s'.heap (Xs Ls σ') s'.heap (Xs Ls σ) := by have := ext_take (h := s'.heap) (Ls := Ls) (σ := σ') st.length; rwa [ht] at this
            exact ⟨σ, ⟨P'.same, S₃, ⟨[], by simp⟩, P'.ext.trans E3, P'.kept⟩, fz _ _ _ h2 rv⟩
      · cases (if_neg hlen).symm.trans e
end
end Og
end
section
set_option tactic.hygienic false
namespace Og
open PySem PySem.W PyProof.Rows
noncomputable def fdOf (K : Frag) (f : Addr) : FuncData := match K.lookup f with | some ⟨_, _, .func fd, _⟩ => fd | _ => default
noncomputable def fnAt (f : Addr) : Fn := match T.fn f with | some fn => fn | none => ⟨[], [], { kind := .function, names := [], isGenerator := false, isCoroutine := false }, false⟩
noncomputable def nodupB : List Str → Bool
  | [] => true
  | x :: xs => !xs.contains x && nodupB xs
theorem nodup_of : ∀ {l : List Str}, nodupB l = true → l.Nodup
  | [], _ => List.nodup_nil
  | x :: xs, h => by
    have h : (!xs.contains x && nodupB xs) = true := h
    rw [Bool.and_eq_true] at h
    exact List.nodup_cons.mpr ⟨by simpa using h.1, nodup_of h.2⟩
noncomputable def plainFn (fn : Fn) : Bool := fn.params.all (fun x => fn.scope.names.lookup x == some .local) && (nodupB fn.params && (fn.scope.kind == .function && (fn.scope.names.all (fun x => x.2 != .cell) && (!fn.scope.isCoroutine && !fn.scope.isGenerator))))
noncomputable def fnGood (K : Frag) (f : Addr) : Bool := W.fnIn K f && ((fdOf K f).globals == mainGlobals && ((fdOf K f).builtins == builtinsNs && (codeIn K (fdOf K f).code (fdOf K f).qualname && plainFn (fnAt f))))
noncomputable def some8 (g : Nat → Value) (n : Nat) : List Value := (List.range n).map g
theorem some8_of (vs : List Value) : some8 (fun i => vs.getD i .none) vs.length = vs := by
  apply List.ext_getElem
  · simp [some8]
  · intro i h1 h2
    simp [some8, List.getD, h2]
noncomputable def codeOf (K : Frag) (f : Addr) : FuncBody × Scope × ((Nat → Value) → Sem (List (Str × Value))) :=
  ((fdOf K f).body, (fdOf K f).scope, fun g => bindArgs (fdOf K f) ⟨some8 g (fnAt f).params.length, []⟩)
noncomputable def codeWant (f : Addr) : FuncBody × Scope × ((Nat → Value) → Sem (List (Str × Value))) :=
  (.stmts (fnAt f).body, (fnAt f).scope, fun g => pure ((fnAt f).params.zip (some8 g (fnAt f).params.length)))
theorem fnOk_gen {K : Frag} {h₀ : Heap} (X : K.In h₀) (f : Addr) (hg : fnGood K f = true) (hc : codeOf K f = codeWant f) : ∃ fd, FnOk h₀ f (fnAt f) fd := by
  refine ⟨fdOf K f, ?_⟩
  simp only [fnGood, plainFn, Bool.and_eq_true, beq_iff_eq, List.all_eq_true, Bool.not_eq_true'] at hg
  refine hide fun G kG => ?_
  obtain ⟨hf, g1, g2, g3, p1, p2, p3, p4, p5, p6⟩ := hg
  refine kG ?_
  clear kG G
  have hb : (fdOf K f).body = .stmts (fnAt f).body := congrArg (·.1) hc
  have hs : (fdOf K f).scope = (fnAt f).scope := congrArg (·.2.1) hc
  have hbind := congrArg (·.2.2) hc
  refine ⟨?_, hb, hs, codeRec_of X g3, g1, g2, fun s vs h => BindsTo.of_eq ?_, p1, nodup_of p2, p3, fun x hx => by simpa using p4 x hx, p5, p6⟩
  · unfold W.fnIn at hf
    unfold fdOf
    split at hf
    · rename_i ho
      rw [ho]
      exact ⟨_, X _ _ ho, rfl⟩
    · cases hf
  · have := congrFun hbind fun i => vs.getD i .none
    simp only [codeOf, codeWant] at this
    rw [← h, some8_of] at this
    exact this
noncomputable def sameD : Option (Option Value) → D → Bool
  | some (some (.int i _)), .int j => i == j
  | some (some (.str s _)), .str t => s == t
  | _, _ => false
set_option tactic.hygienic true in
theorem sameD_ok {o : Option (Option Value)} {d : D} (h : sameD o d = true) : ∃ v, o = some (some v) ∧ ∀ h X σ, Rl h X σ d v := by
  unfold sameD at h
  split at h
  · rename_i i t j; exact ⟨_, rfl, fun u_ u_ u_ => ⟨t, by rw [eq_of_beq h]⟩⟩
  · rename_i s t u; exact ⟨_, rfl, fun u_ u_ u_ => ⟨t, by rw [eq_of_beq h]⟩⟩
  · cases h
noncomputable def okG (K : Frag) (x : Str) : G → Bool
  | .val d => sameD (nsIn K mainGlobals x) d
  | .fn f => nsIn K mainGlobals x == some (some (.ref f)) && keepIn K (.ref f)
  | .cls c i _ => nsIn K mainGlobals x == some (some (.ref c)) && keepIn K (.ref c) && makesIn K c && findIn K (.ref c) "__init__" == some (some (.ref i)) && typeIn K (.ref i) == some (.type "function")
  | .bi => nsIn K mainGlobals x == some none && (match biVal x with | some v => bootBuiltins x == some v | none => false) && x != ("__name__" : Str)
noncomputable def okM (K : Frag) (c : Addr) (m : Str) (f : Addr) : Bool := plainGet K c m && findIn K (.ref c) m == some (some (.ref f)) && typeIn K (.ref f) == some (.type "function") && keepIn K (.ref f)
noncomputable def okA (K : Frag) (c : Addr) (a : Str) : Bool := plainGet K c a && hasDictIn K c && findIn K (.ref c) a == some none && findIn K (.ref c) "__setattr__" == some (some (.builtin "object.__setattr__")) && plainOver K c && takerIn K c a == some none
noncomputable def fnAds : List Addr := fnList.map (·.1)
noncomputable def okAll (K : Frag) : Bool := (globTab.all fun p => okG K p.1 p.2) && (([84, 269].all fun c => (methTab c).all fun p => okM K c p.1 p.2) && (([84, 112, 269].all fun c => (attrTab c).all fun a => okA K c a) && fnAds.all (fnGood K)))
/-- all that the walk asks of the heap behind the top -/
noncomputable def Said (K : Frag) : Prop := okAll K = true ∧ fnAds.map (codeOf K) = fnAds.map codeWant
theorem lookup_mem' {α β : Type} [BEq α] [LawfulBEq α] {l : List (α × β)} {x : α} {k : β} (h : l.lookup x = some k) : (x, k) ∈ l := by
  induction l with
  | nil => simp at h
  | cons p l ih =>
    obtain ⟨a, b⟩ := p
    simp only [List.lookup_cons] at h
    split at h
    · rename_i z; cases h; rw [eq_of_beq z]; exact .head _
    · exact .tail _ (ih h)
theorem map_at {α β : Type} {g h : α → β} : ∀ {l : List α}, l.map g = l.map h → ∀ a ∈ l, g a = h a
  | _ :: _, e, a, ha => by
    have e1 := (List.cons.inj e)
    rcases List.mem_cons.mp ha with rfl | ha
    · exact e1.1
    · exact map_at e1.2 a ha
theorem fo_all {K : Frag} {h₀ : Heap} (X : K.In h₀) (hK : Said K) (f : Addr) (fn : Fn) (e : T.fn f = some fn) : ∃ fd, FnOk h₀ f fn fd := by
  have e' : fn = fnAt f := by unfold fnAt; rw [e]
  subst e'
  have hm : f ∈ fnAds := by
    have e : (fnList.lookup f).join = some (fnAt f) := e
    cases h : fnList.lookup f with
    | none => rw [h] at e; cases e
    | some o => exact List.mem_map.mpr ⟨_, lookup_mem' h, rfl⟩
  have h1 := (Bool.and_eq_true_iff.mp (Bool.and_eq_true_iff.mp (Bool.and_eq_true_iff.mp hK.1).2).2).2
  exact fnOk_gen X f (List.all_eq_true.mp h1 f hm) (map_at hK.2 f hm)
theorem meth_dom {c : Addr} {m : Str} {f : Addr} (h : T.meth c m = some f) : c ∈ [84, 269] := by
  have h : (methTab c).lookup m = some f := h
  unfold methTab at h
  split at h <;> first | (simp; done) | (simp at h)
theorem attr_dom {c : Addr} {a : Str} (h : (T.attr c).contains a = true) : c ∈ [84, 112, 269] := by
  have h : (attrTab c).contains a = true := h
  unfold attrTab at h
  split at h <;> first | (simp; done) | (simp at h)
set_option tactic.hygienic true in
theorem bed_ok {w : World} {K : Frag} {h₀ : Heap} {mg mb : Str → Option Value} {p : Program} {loose : List Str} {mean : ExcName → Option Value} (X : K.In h₀) (hK : Said K) (Tp : Top p loose mean mg mb h₀) : Bed w T K h₀ mg mb where
  X := X
  g := Tp.g
  b := Tp.b
  lim := Tp.nolimit
  val := fun x d h => by
    have := List.all_eq_true.mp (Bool.and_eq_true_iff.mp hK.1).1 _ (lookup_mem' (show globTab.lookup x = some (.val d) from h))
    obtain ⟨v, hv, r⟩ := sameD_ok (show sameD (nsIn K mainGlobals x) d = true from this)
    exact ⟨v, mg_of X Tp.g hv, r⟩
  fn := fun x f h => by
    have := List.all_eq_true.mp (Bool.and_eq_true_iff.mp hK.1).1 _ (lookup_mem' (show globTab.lookup x = some (.fn f) from h))
    have := Bool.and_eq_true_iff.mp (show (nsIn K mainGlobals x == some (some (.ref f)) && keepIn K (.ref f)) = true from this)
    exact ⟨mg_of X Tp.g (beq_iff_eq.mp this.1), this.2⟩
  cls := fun x c i k h => by
    have := List.all_eq_true.mp (Bool.and_eq_true_iff.mp hK.1).1 _ (lookup_mem' (show globTab.lookup x = some (.cls c i k) from h))
    have this : (nsIn K mainGlobals x == some (some (.ref c)) && keepIn K (.ref c) && makesIn K c && findIn K (.ref c) "__init__" == some (some (.ref i)) && typeIn K (.ref i) == some (.type "function")) = true := this
    simp only [Bool.and_eq_true, beq_iff_eq] at this
    refine hide fun G kG => ?_
    obtain ⟨⟨⟨⟨a1, a2⟩, a3⟩, a4⟩, a5⟩ := this
    refine kG ?_
    clear kG G
    exact ⟨mg_of X Tp.g a1, a2, a3, a4, a5⟩
  bi := fun x h => by
    have := List.all_eq_true.mp (Bool.and_eq_true_iff.mp hK.1).1 _ (lookup_mem' (show globTab.lookup x = some .bi from h))
    have this : (nsIn K mainGlobals x == some none && (match biVal x with | some v => bootBuiltins x == some v | none => false) && x != ("__name__" : Str)) = true := this
    simp only [Bool.and_eq_true, beq_iff_eq] at this
    obtain ⟨⟨a1, a2⟩, a3⟩ := this
    refine ⟨mg_none_of X Tp.g a1, ?_⟩
    split at a2
    · rename_i v hv
      exact ⟨v, hv, by rw [Tp.builtins x (by simpa using a3)]; exact beq_iff_eq.mp a2⟩
    · cases a2
  fnObj := fun f fn h => fo_all X hK f fn h
  meth := fun c m f h => by
    have := List.all_eq_true.mp (List.all_eq_true.mp (Bool.and_eq_true_iff.mp (Bool.and_eq_true_iff.mp hK.1).2).1 c (meth_dom h)) _ (lookup_mem' (show (methTab c).lookup m = some f from h))
    have this : okM K c m f = true := this
    simp only [okM, Bool.and_eq_true, beq_iff_eq] at this
    obtain ⟨⟨⟨a1, a2⟩, a3⟩, a4⟩ := this
    exact ⟨a1, a2, a3, a4⟩
  attr := fun c a h => by
    have := List.all_eq_true.mp (List.all_eq_true.mp (Bool.and_eq_true_iff.mp (Bool.and_eq_true_iff.mp (Bool.and_eq_true_iff.mp hK.1).2).2).1 c (attr_dom h)) a (by simpa using (show (attrTab c).contains a = true from h))
    simp only [okA, Bool.and_eq_true, beq_iff_eq] at this
    refine hide fun G kG => ?_
    obtain ⟨⟨⟨⟨⟨a1, a2⟩, a3⟩, a4⟩, a5⟩, a6⟩ := this
    refine kG ?_
    clear kG G
    exact ⟨a1, a2, a3, a4, a5, a6⟩
end Og
end
section
namespace Og
open PySem PySem.W PyProof.Rows PySem.Challenge
/-- the whole top over a tree of objects -/
noncomputable def topRunG (ok : Thread → Bool) (st : SharedT → Thread → Option (SharedT × Thread)) : Nat → SharedT → Thread → Option SharedT
  | 0, _, _ => none
  | n + 1, s, t => match through t with
    | true => some s
    | false => match ok t with
      | false => none
      | true => match st s t with
        | some (s', t') => topRunG ok st n s' t'
        | none => none
theorem topRun_ofG {tb : String → Option Builtin} {p : Program} {w : World} {n₀ : Nat} {ann : Option Value} : ∀ {n : Nat} {s s' : SharedT} {t : Thread}, topRunG (stepOk n₀ ann) (stepT (denote tb) p w) n s t = some s' → topRun tb p w n₀ ann n s.abs t = some s'.abs
  | 0, _, _, _, h => by cases h
  | n + 1, s, s', t, h => by
    unfold topRunG at h
    unfold topRun
    cases he : through t with
    | true => rw [he] at h; cases h; rfl
    | false =>
      rw [he] at h
      cases hk : stepOk n₀ ann t with
      | false => rw [hk] at h; cases h
      | true =>
        rw [hk] at h
        cases hs : stepT (denote tb) p w s t with
        | none => rw [hs] at h; cases h
        | some r => obtain ⟨s₂, t₂⟩ := r; rw [hs] at h; rw [stepT_spec hs]; exact topRun_ofG h
noncomputable def grow : Nat → List Obj → BT → BT
  | _, [], t => t
  | i, o :: l, t => grow (i + 1) l (t.ins i o)
noncomputable def bootT (P : Params) : BT := grow 0 (boot_heap P).objs.toList BT.nil
noncomputable def startT (w : World) (os : OsState) : SharedT := ⟨bootT w.params, (boot_heap w.params).objs.size, (boot_heap w.params).life, #[], boot_drawn, boot_toks, os⟩
theorem boot_ok : ∀ P : Params, absHeap (bootT P) (boot_heap P).objs.size (boot_heap P).life = boot_heap P := fun P => by kernel_rfl
noncomputable def keepIx : List Nat := [1, 2, 4, 5, 6, 7, 8, 9, 10, 11, 12, 13, 14, 15, 16, 17, 18, 19, 20, 21, 22, 23, 24, 25, 26, 27, 29, 30, 31, 32, 33, 34, 35, 36]
noncomputable def qv : Program := view pw_og0094_01 keepIx
noncomputable def loose0 : List Str := [Str.ofString "LedgerError"]
noncomputable def xt (s : Shared) : Bool := xlAt qv [] s && recOk (RowW.records (OpenRow.toRowW (OpenLaw.row rw_og0094_01))) s
noncomputable def frag (h : Heap) : Frag := (List.range h.objs.size).filterMap fun a => (h.get? a).map fun o => (a, o)
theorem frag_in (h : Heap) : (frag h).In h := by
  intro a o e
  have hm := lookup_mem' e
  simp only [frag, List.mem_filterMap, List.mem_range] at hm
  obtain ⟨b, -, hb⟩ := hm
  cases hg : h.get? b with
  | none => rw [hg] at hb; cases hb
  | some x => rw [hg] at hb; cases hb; exact hg
/-- what is looked at behind the top -/
noncomputable def obs0 (s : Shared) : Bool × List (FuncBody × Scope × ((Nat → Value) → Sem (List (Str × Value)))) := (okAll (frag s.heap), fnAds.map (codeOf (frag s.heap)))
noncomputable def val0 : Bool × List (FuncBody × Scope × ((Nat → Value) → Sem (List (Str × Value)))) := (true, fnAds.map codeWant)
noncomputable def hook0 : Hook where
  α := Bool × List (FuncBody × Scope × ((Nat → Value) → Sem (List (Str × Value))))
  obs := obs0
  val := fun _ => val0
  says := fun _ h => ∃ K : Frag, K.In h ∧ Said K
  of := fun w s e => ⟨frag s.heap, frag_in _, congrArg (·.1) e, congrArg (·.2) e⟩
  keeps := fun w h h' y k => by
    obtain ⟨K, hK, hs⟩ := y
    exact ⟨K, fun a o e => k a o (hK a o e), hs⟩
theorem start_ok (w : World) (os : OsState) : (startT w os).abs = ⟨boot_heap w.params, #[], boot_drawn, boot_toks, os⟩ := by
  show (⟨absHeap (bootT w.params) (boot_heap w.params).objs.size (boot_heap w.params).life, _, _, _, _⟩ : Shared) = _
  rw [boot_ok]
  rfl
noncomputable def m0 (w : World) : Nat := (boot_heap w.params).objs.size
noncomputable def ann0 (w : World) : Option Value := (boot_heap w.params).nsMap mainGlobals "__annotations__"
/-- the run by the library's own twins of its functions -/
noncomputable def runT (w : World) (os : OsState) : Option SharedT := topRunG (PySem.W.Fast.tw6613529449190102663 (m0 w) (ann0 w)) (PySem.W.Fast.tw10156331382660048174 (PySem.W.Fast.tw11892475500146522536 PySem.W.Fast.tw14364793385576792824) pw_og0094_01 w) 5014 (startT w os) (topStub pw_og0094_01)
theorem runT_eq (w : World) (os : OsState) : runT w os = topRunG (stepOk (m0 w) (ann0 w)) (stepT (denote treeTable) pw_og0094_01 w) 5014 (startT w os) (topStub pw_og0094_01) := by
  unfold runT
  rw [← PySem.W.Fast.te6613529449190102663, ← PySem.W.Fast.te10156331382660048174, ← PySem.W.Fast.te11892475500146522536, ← PySem.W.Fast.te14364793385576792824]
noncomputable def checks (w : World) (h₀ : Heap) (s : Shared) : Bool := staticsOk (importedModules pw_og0094_01.main.body) h₀ s.heap && namesBound pw_og0094_01 s.heap && gensDone s && laidKept h₀ s.heap
theorem boot_ns : ∀ P : Params, ((boot_heap P).isNs mainGlobals && (#[] : Array GenState).size == 0) = true := fun P => by kernel_rfl
theorem boot_same : opening pw_og0094_01 = plainProg pw_og0094_01.main.scope.names := by kernel_rfl
theorem boot_fence (s : Shared) : fenceModules? pw_og0094_01 s = some s := by kernel_rfl
theorem left_of (h1 : ∀ w : World, (fun os => (runT w os).map fun s => (checks w (boot_heap w.params) s.abs, PySem.W.Fast.tw4187177175401517315 qv loose0 (importedModules pw_og0094_01.main.body) xt true s.abs)) = fun _ => some (true, openGood qv loose0))
    (h2 : ∀ w : World, (fun os => (runT w os).map fun s => obs0 s.abs) = fun _ => some val0) :
    LeftO pw_og0094_01 qv loose0 xt hook0.obs hook0.val 5014 := by
  intro w
  obtain ⟨⟨hp, gs, d, k, os⟩, e, e'⟩ := Option.map_eq_some_iff.mp (boot_open (N := 5014) boot_same rfl boot_fence w)
  obtain ⟨rfl, rfl, rfl, rfl⟩ : hp = boot_heap w.params ∧ gs = Array.mk [] ∧ d = boot_drawn ∧ k = boot_toks := by simpa using e'
  obtain ⟨s, hs, hv⟩ := Option.map_eq_some_iff.mp (congrFun (h1 w) os)
  obtain ⟨s2, hs2, ho⟩ := Option.map_eq_some_iff.mp (congrFun (h2 w) os)
  obtain rfl : s2 = s := by rw [hs] at hs2; exact (Option.some.inj hs2).symm
  have r := topRun_ofG ((runT_eq w os).symm.trans hs)
  rw [start_ok] at r
  have hc : checks w (boot_heap w.params) s2.abs = true := congrArg (·.1) hv
  have hg : PySem.W.Fast.tw4187177175401517315 qv loose0 (importedModules pw_og0094_01.main.body) xt true s2.abs = openGood qv loose0 := congrArg (·.2) hv
  rw [← PySem.W.Fast.te4187177175401517315] at hg
  have t : topFrom treeTable pw_og0094_01 w 5014 ⟨boot_heap w.params, Array.mk [], boot_drawn, boot_toks, os⟩ = some s2.abs := by
    unfold topFrom
    dsimp only
    rw [boot_ns]
    dsimp only
    rw [show topRun treeTable pw_og0094_01 w (boot_heap w.params).objs.size ((boot_heap w.params).nsMap mainGlobals "__annotations__") 5014 ⟨boot_heap w.params, Array.mk [], boot_drawn, boot_toks, os⟩ (topStub pw_og0094_01) = some s2.abs from r]
    dsimp only [Option.bind_some]
    rw [show (staticsOk (importedModules pw_og0094_01.main.body) (boot_heap w.params) s2.abs.heap && namesBound pw_og0094_01 s2.abs.heap && gensDone s2.abs && laidKept (boot_heap w.params) s2.abs.heap) = true from hc]
  show Option.map _ (openEnds treeTable pw_og0094_01 w 5014) = _
  unfold openEnds
  rw [e, Option.bind_some, t, Option.map_some, hg]
  exact congrArg (fun x => some (openGood qv loose0, x)) ho
theorem left1 : ∀ w : World, (fun os => (runT w os).map fun s => (checks w (boot_heap w.params) s.abs, PySem.W.Fast.tw4187177175401517315 qv loose0 (importedModules pw_og0094_01.main.body) xt true s.abs)) = fun _ => some (true, openGood qv loose0) := fun w => by kernel_rfl
theorem left2 : ∀ w : World, (fun os => (runT w os).map fun s => obs0 s.abs) = fun _ => some val0 := fun w => by kernel_rfl
theorem left0 : LeftO pw_og0094_01 qv loose0 xt hook0.obs hook0.val 5014 := left_of left1 left2
end Og
end
section
set_option tactic.hygienic false
namespace Og
open PySem PySem.W PyProof.Rows
theorem intsAre_rl {h : Heap} {X : List Addr} {σ : Hd} : ∀ {vs : List Value} {ns : List Int}, IntsAre vs ns → RlL h X σ (ns.map .int) vs
  | _, _, .nil => rfl
  | _, _, .cons i t h => ⟨_, _, rfl, ⟨t, rfl⟩, intsAre_rl h⟩
theorem law_join {prog : Program} {w : World} {K : Frag} {s₁ : Shared} {h₁ : Heap} {tk : Nat} {mg mb m : Str → Option Value} {p : Program} {loose : List Str} {mean : ExcName → Option Value} {name : Str} {scope : Scope} {body : List Stmt} {fa ls : Addr} {cd : Value} {oc : Obj} {v₀ : Option Value}
    {script : List Int} {vs : List Value} {vx : Vars} {sx : Sto}
    (KX : K.In s₁.heap) (hK : Said K) (Tp : Top p loose mean mg mb s₁.heap) (F : Fr s₁.heap s₁.heap.objs.size h₁ m) (N0 : News s₁.heap s₁.heap.objs.size h₁ [(s₁.heap.objs.size + 1, oc)]) (hoc : oc.data = .cell v₀)
    (hL : s₁.heap.IsList ls vs.toArray) (hI : IntsAre vs script) (hm : m "script" = some (.ref ls)) (hk : scope.kind = .function) (hs : scope.names.lookup (Str.ofString "script") = some NameKind.local)
    (hcell : ∀ x, scope.names.lookup x = some .cell → (cellsFrom (s₁.heap.objs.size + 1) scope.names []).lookup x = some (s₁.heap.objs.size + 1))
    (run : exs T (callF T 12) body scope 0 [("script", .lst (script.map .int))] [] = some (.ret (.bool true), vx, sx)) :
    wpAny (model prog w) (callerA.deeper (envOfC name scope s₁.heap.objs.size fa cd)) (execs body (envOfC name scope s₁.heap.objs.size fa cd))
      (fun f s' => f = .ret (.bool true) ∧ (∃ h' tk', s' = { s₁ with heap := h', toks := tk' }) ∧ ∀ b o, s₁.heap.get? b = some o → s'.heap.get? b = some o) Bot { s₁ with heap := h₁, toks := tk } := by
  have Gd : Bed w T K s₁.heap mg mb := bed_ok KX hK Tp
  have hE : EnvOk (envOfC name scope s₁.heap.objs.size fa cd) scope := ⟨rfl, hk, rfl, rfl⟩
  have hA : AOk 12 (callerA.deeper (envOfC name scope s₁.heap.objs.size fa cd)) := by
    refine ⟨rfl, ?_, ?_⟩
    · show 1 + claimMargin + 1 + 3 * 12 + 3 < recursionLimit
      decide
    · show 4 + 3 + 20 * 12 + 110 < cLine
      decide
  have hc := N0 _ (.head _)
  have hlt : ∀ a o, s₁.heap.get? a = some o → a ∉ Xs [s₁.heap.objs.size, s₁.heap.objs.size + 1] [] := fun a o e q => by
    have := Heap.lt_size e
    simp [Xs] at q
    rcases q with q | q
    · rw [q] at this; exact absurd this (Nat.lt_irrefl _)
    · rw [q] at this; exact absurd this (Nat.not_lt.mpr (Nat.le_succ _))
  have S : HS s₁.heap [s₁.heap.objs.size, s₁.heap.objs.size + 1] [] h₁ [] := by
    refine ⟨by simp [Xs], fun a ha => ?_, fun a o e => ⟨hlt a o e, F.keep a o e⟩, rfl, fun i ob e => by simp at e⟩
    simp only [List.mem_cons, List.not_mem_nil, or_false] at ha
    rcases ha with rfl | rfl
    · obtain ⟨o, es, ep, ho, -⟩ := F.ns; exact ⟨o, ho⟩
    · exact ⟨_, hc.1⟩
  have FRs : FR [s₁.heap.objs.size, s₁.heap.objs.size + 1] [] h₁ (envOfC name scope s₁.heap.objs.size fa cd) scope [("script", .lst (script.map .int))] := by
    refine ⟨.head _, ⟨m, F.ns, fun x d hx hk => ?_⟩, fun x d hx hk => ?_⟩
    · simp only [List.lookup_cons, List.lookup_nil] at hx
      split at hx
      · rename_i z
        cases hx
        have := eq_of_beq z
        subst this
        obtain ⟨o, ho, -⟩ := id hL
        exact ⟨_, hm, ls, vs, rfl, hlt _ _ ho, hL.at fun o e => F.keep _ o e, intsAre_rl hI⟩
      · cases hx
    · exfalso
      simp only [List.lookup_cons, List.lookup_nil] at hx
      split at hx
      · rename_i z
        have := eq_of_beq z
        subst this
        rw [hs] at hk; cases hk
      · cases hx
  have C : CO [s₁.heap.objs.size, s₁.heap.objs.size + 1] h₁ (envOfC name scope s₁.heap.objs.size fa cd) scope := fun x hx => ⟨_, v₀, hcell x hx, by simp, oc, hc.1, hoc⟩
  refine wpAny_mono (sxs_all Gd (callF_ok Gd 12) body _ _ scope 0 _ [] _ _ _ _ [] { s₁ with heap := h₁, toks := tk } hA hE (Nat.zero_le _) run S FRs C) (fun f s' q => ?_) fun _ _ x => x
  obtain ⟨σ', P, v, rfl, r⟩ := q
  cases r
  refine ⟨rfl, ?_, fun b o e => (P.hs.base b o e).2⟩
  obtain ⟨h', tk', e⟩ := P.same
  exact ⟨h', tk', e⟩
end Og
end
section
set_option tactic.hygienic false
namespace Og
open PySem
theorem charToNat_inj {l k : List Char} (h : l.map Char.toNat = k.map Char.toNat) : l = k := by
  induction l generalizing k with
  | nil => cases k <;> simp_all
  | cons a l ih =>
    cases k with
    | nil => simp at h
    | cons b k =>
      simp only [List.map_cons, List.cons.injEq] at h
      rw [ih h.2, Char.toNat_inj.mp h.1]
theorem ofs_inj {a b : String} (h : Str.ofString a = Str.ofString b) : a = b := by
  rw [Str.ofString_eq_toList, Str.ofString_eq_toList] at h
  have h := congrArg (fun s : Str => s.cps.toList) h
  exact String.toList_inj.mp (charToNat_inj h)
theorem ofs_beq (a b : String) : (Str.ofString a == Str.ofString b) = (a == b) := by
  by_cases h : a = b
  · subst h; simp
  · have h2 : Str.ofString a ≠ Str.ofString b := fun q => h (ofs_inj q)
    rw [beq_eq_false_iff_ne.mpr h, beq_eq_false_iff_ne.mpr h2]
theorem bind2 {α β γ : Type} {o : Option α} {o' : Option β} {a : α} {b : β} {f : α → β → γ} (h : o = some a) (k : o' = some b) : (o.bind fun x => o'.map (f x)) = some (f a b) := by subst h k; rfl
mutual
theorem fz_np (r : Nat → Option D) : ∀ d : D, np d = true → fz r d = some d
  | .tup l, h => congrArg (Option.map D.tup) (fzL_np r l h)
  | .lst l, h => congrArg (Option.map D.lst) (fzL_np r l h)
  | .inst c ns ds, h => congrArg (Option.map (D.inst c ns)) (fzL_np r ds h)
  | .ptr i, h => by cases h
  | .none, _ => rfl
  | .bool _, _ => rfl
  | .int _, _ => rfl
  | .str _, _ => rfl
  | .rng _, _ => rfl
theorem fzL_np (r : Nat → Option D) : ∀ l : List D, npL l = true → fzL r l = some l
  | [], _ => rfl
  | d :: ds, h => bind2 (fz_np r d (and1 h)) (fzL_np r ds (and2 h))
end
noncomputable def npOb : Ob → Bool
  | .lst l => npL l
  | .inst _ _ ds => npL ds
noncomputable def npS : Sto → Bool
  | [] => true
  | o :: os => npOb o && npS os
theorem fzSto_np {s : Sto} {n : Nat} : ∀ {st : Sto}, npS st = true → fzSto s n st = some st
  | [], _ => rfl
  | .lst l :: os, h => bind2 (congrArg (Option.map Ob.lst) (fzL_np _ l (and1 h))) (fzSto_np (and2 h))
  | .inst c ns ds :: os, h => bind2 (congrArg (Option.map (Ob.inst c ns)) (fzL_np _ ds (and1 h))) (fzSto_np (and2 h))
theorem freeze_np {s : Sto} {n : Nat} {d : D} (h : np d = true) : freeze s n d = some d := fz_np _ d h
theorem npS_app {a b : Sto} : npS (a ++ b) = (npS a && npS b) := by
  induction a with
  | nil => rfl
  | cons x a ih => exact (congrArg (npOb x && ·) ih).trans (Bool.and_assoc ..).symm
theorem npL_app {a b : List D} : npL (a ++ b) = (npL a && npL b) := by
  induction a with
  | nil => rfl
  | cons x a ih => exact (congrArg (np x && ·) ih).trans (Bool.and_assoc ..).symm
theorem npSA {a b : Sto} (h : npS a = true) (k : npS b = true) : npS (a ++ b) = true := npS_app.trans (andI h k)
theorem npLA {a b : List D} (h : npL a = true) (k : npL b = true) : npL (a ++ b) = true := npL_app.trans (andI h k)
theorem npS_set {st : Sto} {i : Nat} {o : Ob} (h : npS st = true) (ho : npOb o = true) : npS (st.set i o) = true := by
  induction st generalizing i with
  | nil => exact h
  | cons x st ih =>
    cases i with
    | zero => exact andI ho (and2 h)
    | succ i => exact andI (and1 h) (ih (and2 h))
theorem get_mid (st : Sto) (x : Ob) (g : Sto) : (st ++ x :: g)[st.length]? = some x := by simp
theorem set_mid (st : Sto) (x y : Ob) (g : Sto) : (st ++ x :: g).set st.length y = st ++ y :: g := by simp
theorem freeze_mid {st : Sto} {l : List D} {g : Sto} (h : npL l = true) : freeze (st ++ .lst l :: g) st.length (.ptr st.length) = some (.lst l) := by
  refine (if_neg (Nat.lt_irrefl _)).trans ?_
  rw [get_mid]
  exact congrArg (Option.map D.lst) (fzL_np _ l h)
theorem callF_eq {n f : Nat} {fn : Fn} {args : List D} {st st' : Sto} {vs : Vars} {fl : Fl} {d' : D} (hf : T.fn f = some fn) (hk : fn.keep = false) {v0 : Vars} (hl : fn.params.length = args.length) (hv : fn.params.zip args = v0)
    (run : exs T (callF T n) fn.body fn.scope st.length v0 st = some (fl, vs, st')) (hz : freeze st' st.length (retD fl) = some d') {s : Sto} (hs : fzSto st' st.length (st'.take st.length) = some s) :
    callF T (n + 1) f args st = some (d', s) := by
  refine (callF_some hf hl).trans ?_
  rw [hv, run]
  refine (if_neg (by rw [hk]; decide)).trans ?_
  exact bind2 (f := fun d st' => (d, st')) hz hs
/-- a call that leaves the store as it was -/
theorem call_pure {n f : Nat} {fn : Fn} {args : List D} {st g : Sto} {vs : Vars} {fl : Fl} {d' : D} (hf : T.fn f = some fn) (hk : fn.keep = false) {v0 : Vars} (hl : fn.params.length = args.length) (hv : fn.params.zip args = v0)
    (run : exs T (callF T n) fn.body fn.scope st.length v0 st = some (fl, vs, st ++ g)) (hz : freeze (st ++ g) st.length (retD fl) = some d') (hp : npS st = true) :
    callF T (n + 1) f args st = some (d', st) :=
  callF_eq hf hk hl hv run hz (by rw [List.take_left, fzSto_np hp])
/-- a call that changes a thing and may make some behind the store's end -/
theorem call_setg {n f : Nat} {fn : Fn} {args : List D} {st st' g : Sto} {vs : Vars} {fl : Fl} (hf : T.fn f = some fn) (hk : fn.keep = false) {v0 : Vars} (hl : fn.params.length = args.length) (hv : fn.params.zip args = v0)
    (run : exs T (callF T n) fn.body fn.scope st.length v0 st = some (fl, vs, st' ++ g)) (hn : np (retD fl) = true) (hs : st'.length = st.length) (hp : npS st' = true) :
    callF T (n + 1) f args st = some (retD fl, st') :=
  callF_eq hf hk hl hv run (freeze_np hn) (by rw [← hs, List.take_left, fzSto_np hp])
noncomputable def FN (f : Addr) : Fn := match T.fn f with | some fn => fn | none => ⟨[], [], { kind := .function, names := [], isGenerator := false, isCoroutine := false }, false⟩
end Og
end
section
set_option tactic.hygienic false
namespace Og
open PySem
noncomputable def W1 {α : Type} (m : Option α) (Q : α → Prop) : Prop := ∃ a, m = some a ∧ Q a
noncomputable def W2 {α : Type} (m : Option (α × Sto)) (Q : α → Sto → Prop) : Prop := ∃ a s, m = some (a, s) ∧ Q a s
noncomputable def W3 (m : Option (Fl × Vars × Sto)) (Q : Fl → Vars → Sto → Prop) : Prop := ∃ f v s, m = some (f, v, s) ∧ Q f v s
noncomputable def Then (f : Fl) (A : Prop) (B : D → Prop) : Prop := match f with | .next => A | .ret d => B d
theorem then_next {A : Prop} {B : D → Prop} (h : A) : Then .next A B := h
theorem then_ret {d : D} {A : Prop} {B : D → Prop} (h : B d) : Then (.ret d) A B := h
theorem w1_of {α : Type} {m : Option α} {Q : α → Prop} {a : α} (h : m = some a) (q : Q a) : W1 m Q := ⟨a, h, q⟩
theorem w2_of {α : Type} {m : Option (α × Sto)} {Q : α → Sto → Prop} {a : α} {s : Sto} (h : m = some (a, s)) (q : Q a s) : W2 m Q := ⟨a, s, h, q⟩
theorem w3_of {m : Option (Fl × Vars × Sto)} {Q : Fl → Vars → Sto → Prop} {f : Fl} {v : Vars} {s : Sto} (h : m = some (f, v, s)) (q : Q f v s) : W3 m Q := ⟨f, v, s, h, q⟩
theorem w2_mono {α : Type} {m : Option (α × Sto)} {Q R : α → Sto → Prop} (h : W2 m Q) (q : ∀ a s, Q a s → R a s) : W2 m R := by
  obtain ⟨a, s, e, h⟩ := h; exact ⟨a, s, e, q _ _ h⟩
theorem w3_mono {m : Option (Fl × Vars × Sto)} {Q R : Fl → Vars → Sto → Prop} (h : W3 m Q) (q : ∀ f v s, Q f v s → R f v s) : W3 m R := by
  obtain ⟨a, v, s, e, h⟩ := h; exact ⟨a, v, s, e, q _ _ _ h⟩
theorem w2_bind {α β : Type} {m : Option (α × Sto)} {k : α × Sto → Option (β × Sto)} {Q : β → Sto → Prop} (h : W2 m fun a s => W2 (k (a, s)) Q) : W2 (m.bind k) Q := by
  obtain ⟨a, s, e, b, s2, e2, q⟩ := h
  exact ⟨b, s2, by rw [e]; exact e2, q⟩
theorem w23_bind {α : Type} {m : Option (α × Sto)} {k : α × Sto → Option (Fl × Vars × Sto)} {Q : Fl → Vars → Sto → Prop} (h : W2 m fun a s => W3 (k (a, s)) Q) : W3 (m.bind k) Q := by
  obtain ⟨a, s, e, b, s2, v, e2, q⟩ := h
  exact ⟨b, s2, v, by rw [e]; exact e2, q⟩
theorem w12_bind {α β : Type} {m : Option α} {k : α → Option (β × Sto)} {Q : β → Sto → Prop} (h : W1 m fun a => W2 (k a) Q) : W2 (m.bind k) Q := by
  obtain ⟨a, e, b, s, e2, q⟩ := h
  exact ⟨b, s, by rw [e]; exact e2, q⟩
theorem w13_bind {α : Type} {m : Option α} {k : α → Option (Fl × Vars × Sto)} {Q : Fl → Vars → Sto → Prop} (h : W1 m fun a => W3 (k a) Q) : W3 (m.bind k) Q := by
  obtain ⟨a, e, b, v, s, e2, q⟩ := h
  exact ⟨b, v, s, by rw [e]; exact e2, q⟩
theorem w2_eq {α : Type} {m m' : Option (α × Sto)} {Q : α → Sto → Prop} (e : m = m') (h : W2 m' Q) : W2 m Q := by rw [e]; exact h
theorem w3_eq {m m' : Option (Fl × Vars × Sto)} {Q : Fl → Vars → Sto → Prop} (e : m = m') (h : W3 m' Q) : W3 m Q := by rw [e]; exact h
theorem w1_map2 {α β : Type} {m : Option α} {k : α → β × Sto} {Q : β → Sto → Prop} (h : W1 m fun a => Q (k a).1 (k a).2) : W2 (m.map k) Q := by
  obtain ⟨a, e, q⟩ := h
  exact ⟨_, _, by rw [e]; rfl, q⟩
theorem w2_map {α β : Type} {m : Option (α × Sto)} {k : α × Sto → β × Sto} {Q : β → Sto → Prop} (h : W2 m fun a s => Q (k (a, s)).1 (k (a, s)).2) : W2 (m.map k) Q := by
  obtain ⟨a, s, e, q⟩ := h
  exact ⟨_, _, by rw [e]; rfl, q⟩
theorem w23_map {α : Type} {m : Option (α × Sto)} {k : α × Sto → Fl × Vars × Sto} {Q : Fl → Vars → Sto → Prop} (h : W2 m fun a s => Q (k (a, s)).1 (k (a, s)).2.1 (k (a, s)).2.2) : W3 (m.map k) Q := by
  obtain ⟨a, s, e, q⟩ := h
  exact ⟨_, _, _, by rw [e]; rfl, q⟩
section
variable {T : Tab} {cf : CF} {sc sc' : Scope} {vs : Vars} {st : Sto} {p p2 : Pos} {base : Nat}
variable {Q : D → Sto → Prop} {R : Bool → Sto → Prop} {L : List D → Sto → Prop} {X : Fl → Vars → Sto → Prop}
/- expressions -/
theorem name_eq {x : Str} {r : Option (D × Sto)} (h0 : (x == ("__debug__" : Str)) = false) (h : (match sc.names.lookup x with
    | some .local => (vs.lookup x).map (·, st)
    | some .cell => (vs.lookup x).map (·, st)
    | some .globalImplicit => (match T.glob x with | some (.val d) => some (d, st) | _ => none)
    | _ => none) = r) : ev T cf (.Name x p) sc vs st = r := (if_neg (by rw [h0]; exact Bool.false_ne_true)).trans h
theorem e_bin {l op r} (h : W2 (ev T cf l sc vs st) fun a s => W2 (ev T cf r sc vs s) fun b s2 => W2 (binop op a b s2) Q) : W2 (ev T cf (.BinOp l op r p) sc vs st) Q := by
  exact w2_bind (w2_mono h fun a s h => w2_bind h)
theorem e_not {x} (h : W2 (ev T cf x sc vs st) fun a s => ∃ b, a = .bool b ∧ Q (.bool (!b)) s) : W2 (ev T cf (.UnaryOp .Not x p) sc vs st) Q := by
  refine w2_bind (w2_mono h fun a s h => ?_)
  obtain ⟨b, rfl, h⟩ := h
  exact w2_of rfl h
theorem e_ifexp {t b o} (h : W2 (evT T cf t (ev T cf t) sc vs st) fun c s => (c = true → W2 (ev T cf b sc vs s) Q) ∧ (c = false → W2 (ev T cf o sc vs s) Q)) : W2 (ev T cf (.IfExp t b o p) sc vs st) Q := by
  refine w2_bind (w2_mono h fun c s h => ?_)
  cases c
  · exact h.2 rfl
  · exact h.1 rfl
theorem e_list {es k} (h : W2 (evs T cf es sc vs st) fun l s => l.length ≤ 1000 ∧ Q (.ptr s.length) (s ++ [.lst l])) : W2 (ev T cf (.List es k) sc vs st) Q := by
  refine w2_bind (w2_mono h fun l s h => ?_)
  exact w2_of (if_pos h.1) h.2
theorem e_tuple {es a b} (h : W2 (evs T cf es sc vs st) fun l s => l.length ≤ 1000 ∧ Q (.tup l) s) : W2 (ev T cf (.Tuple es a b) sc vs st) Q := by
  refine w2_bind (w2_mono h fun l s h => ?_)
  exact w2_of (if_pos h.1) h.2
theorem e_cmp {l op r} (h : W2 (ev T cf l sc vs st) fun a s => W2 (ev T cf r sc vs s) fun b s2 => W1 (cmpop op a b s2) fun c => Q (.bool c) s2) : W2 (ev T cf (.Compare l [op] [r] p) sc vs st) Q := by
  exact w2_bind (w2_mono h fun a s h => w2_bind (w2_mono h fun b s h => w1_map2 h))
theorem e_cmp2 {l op r op2 r2} (hb : behindInMarks op2 r2 = false) (h : W2 (ev T cf l sc vs st) fun a s => W2 (ev T cf r sc vs s) fun b s2 => W1 (cmpop op a b s2) fun c =>
    (c = true → W2 (ev T cf r2 sc vs s2) fun e s3 => W1 (cmpop op2 b e s3) fun c => Q (.bool c) s3) ∧ (c = false → Q (.bool false) s2)) : W2 (ev T cf (.Compare l [op, op2] [r, r2] p) sc vs st) Q := by
  refine w2_eq (if_neg (by rw [hb]; exact Bool.false_ne_true)) (w2_bind (w2_mono h fun a s h => w2_bind (w2_mono h fun b s h => ?_)))
  obtain ⟨c, e, h⟩ := h
  refine w2_eq (obind e) ?_
  cases c
  · exact w2_of rfl (h.2 rfl)
  · exact w2_bind (w2_mono (h.1 rfl) fun e s h => w1_map2 h)
theorem e_call {x : Str} {args : List Expr} (h0 : (x == ("__debug__" : Str) || args.length > 12) = false) (h1 : sc.names.lookup x = some .globalImplicit)
    (h : W2 (evs T cf args sc vs st) fun l s => W2 (nameCall T cf x l s) Q) : W2 (ev T cf (.Call (.Name x p) args [] p2) sc vs st) Q := by
  refine w2_eq (if_neg (by rw [h0]; exact Bool.false_ne_true)) ?_
  rw [h1]
  exact w2_bind h
theorem e_meth {o : Expr} {m : Str} {ap pos : Pos} {args : List Expr} (h0 : (args.length > 12 || !notSuper o || ap.endLine != pos.line) = false)
    (h : W2 (ev T cf o sc vs st) fun a s => W1 (pick T s a m) fun pk => W2 (evs T cf args sc vs s) fun l s => W2 (methCall cf pk a m l s) Q) : W2 (ev T cf (.Call (.Attribute o m ap) args [] pos) sc vs st) Q := by
  rw [iv_callA, if_neg (by rw [h0]; exact Bool.false_ne_true)]
  exact w2_bind (w2_mono h fun a s h => w12_bind (by obtain ⟨q, e, h⟩ := h; exact ⟨q, e, w2_bind h⟩))
theorem e_attr {o a} (h0 : notSuper o = true) (h : W2 (ev T cf o sc vs st) fun d s => W1 (getA T s d a) fun d => Q d s) : W2 (ev T cf (.Attribute o a p) sc vs st) Q := by
  refine w2_eq (if_neg (by rw [h0]; exact Bool.false_ne_true)) ?_
  exact w2_bind (w2_mono h fun a s h => w1_map2 h)
theorem e_slice {x xp lo hi q} (h : W2 (ev T cf (.Name x xp) sc vs st) fun a s => W2 (evO T cf lo sc vs s) fun l s => W2 (evO T cf hi sc vs s) fun u s => W1 (getS s a l u) fun d => Q d s) :
    W2 (ev T cf (.Subscript (.Name x xp) (.Slice lo hi none q) p) sc vs st) Q := by
  rw [iv_slice]; exact w2_bind (w2_mono h fun a s h => w2_bind (w2_mono h fun b s h => w2_bind (w2_mono h fun b s h => w1_map2 h)))
theorem e_sub {o i} (hi : ∀ a b c d, i ≠ .Slice a b c d) (h : W2 (ev T cf o sc vs st) fun a s => W2 (ev T cf i sc vs s) fun k s => W1 (getI s a k) fun d => Q d s) : W2 (ev T cf (.Subscript o i p) sc vs st) Q := by
  have e : ev T cf (.Subscript o i p) sc vs st = (ev T cf o sc vs st).bind fun a => (ev T cf i sc vs a.2).bind fun k => (getI k.2 a.1 k.1).map fun d => (d, k.2) := by
    cases i <;> first | exact absurd rfl (hi _ _ _ _) | rfl
  rw [e]; exact w2_bind (w2_mono h fun a s h => w2_bind (w2_mono h fun b s h => w1_map2 h))
theorem e_comp {elt t it ifs q} (h : W2 (ev T cf it sc vs st) fun a s => W1 (itemsOf a) fun items => okT sc' t = true ∧ compOk sc sc' vs = true ∧ items.length ≤ 10000 ∧
      W2 (compLoop t (evTs T cf .And ifs (relab sc sc')) (ev T cf elt (relab sc sc')) items (vs.filter fun p => sc.names.lookup p.1 == some .cell && sc'.names.lookup p.1 == some .free) s) fun l s => Q (.lst l) s) :
    W2 (ev T cf (.ListComp elt [⟨t, it, ifs, 0⟩] sc' q) sc vs st) Q := by
  refine w2_bind (w2_mono h fun a s h => w12_bind ?_)
  obtain ⟨items, e, h1, h2, h3, h⟩ := h
  refine ⟨items, e, ?_⟩
  refine w2_eq (if_pos (by rw [h1, h2, decide_eq_true h3]; rfl)) (w2_map h)
theorem es_cons {e es} (h : W2 (ev T cf e sc vs st) fun d s => W2 (evs T cf es sc vs s) fun l s => L (d :: l) s) : W2 (evs T cf (e :: es) sc vs st) L := by
  exact w2_bind (w2_mono h fun d s h => w2_map h)
theorem eb_one {op e} (h : W2 (ev T cf e sc vs st) Q) : W2 (evB T cf op [e] sc vs st) Q := by exact h
theorem eb_or {e f es} (h : W2 (ev T cf e sc vs st) fun a s => ∃ b, a = .bool b ∧ (b = true → Q (.bool true) s) ∧ (b = false → W2 (evB T cf .Or (f :: es) sc vs s) Q)) : W2 (evB T cf .Or (e :: f :: es) sc vs st) Q := by
  rw [ivB_cons]
  · refine w2_bind (w2_mono h fun a s h => ?_)
    obtain ⟨b, rfl, h⟩ := h
    cases b
    · exact h.2 rfl
    · exact w2_of rfl (h.1 rfl)
theorem eb_and {e f es} (h : W2 (ev T cf e sc vs st) fun a s => ∃ b, a = .bool b ∧ (b = true → W2 (evB T cf .And (f :: es) sc vs s) Q) ∧ (b = false → Q (.bool false) s)) : W2 (evB T cf .And (e :: f :: es) sc vs st) Q := by
  rw [ivB_cons]
  · refine w2_bind (w2_mono h fun a s h => ?_)
    obtain ⟨b, rfl, h⟩ := h
    cases b
    · exact w2_of rfl (h.2 rfl)
    · exact h.1 rfl
/- tests -/
theorem t_not {x} {w : Ev} (h : W2 (evT T cf x (ev T cf x) sc vs st) fun b s => R (!b) s) : W2 (evT T cf (.UnaryOp .Not x p) w sc vs st) R := by
  exact w2_map h
theorem t_bool {op es} {w : Ev} (h : W2 (evTs T cf op es sc vs st) R) : W2 (evT T cf (.BoolOp op es p) w sc vs st) R := by
  exact h
theorem t_gen {m : Option (D × Sto)} (h : W2 m fun a s => ∃ b, a = .bool b ∧ R b s) : W2 (m.bind fun a => match a.1 with | .bool b => some (b, a.2) | _ => none) R := by
  refine w2_bind (w2_mono h fun a s h => ?_)
  obtain ⟨b, rfl, h⟩ := h
  exact w2_of rfl h
theorem ts_and_nil (h : R true st) : W2 (evTs T cf .And [] sc vs st) R := w2_of rfl h
theorem ts_or_nil (h : R false st) : W2 (evTs T cf .Or [] sc vs st) R := w2_of rfl h
theorem ts_and {e es} (h : W2 (evT T cf e (ev T cf e) sc vs st) fun b s => (b = true → W2 (evTs T cf .And es sc vs s) R) ∧ (b = false → R false s)) : W2 (evTs T cf .And (e :: es) sc vs st) R := by
  refine w2_bind (w2_mono h fun b s h => ?_)
  cases b
  · exact w2_of rfl (h.2 rfl)
  · exact h.1 rfl
theorem ts_or {e es} (h : W2 (evT T cf e (ev T cf e) sc vs st) fun b s => (b = true → R true s) ∧ (b = false → W2 (evTs T cf .Or es sc vs s) R)) : W2 (evTs T cf .Or (e :: es) sc vs st) R := by
  refine w2_bind (w2_mono h fun b s h => ?_)
  cases b
  · exact h.2 rfl
  · exact w2_of rfl (h.1 rfl)
/- calls -/
theorem n_fn {x : Str} {f : Addr} {l : List D} (h0 : T.glob x = some (.fn f)) (h : W2 (cf f l st) Q) : W2 (nameCall T cf x l st) Q := by
  exact w2_eq (nc_eq h0) h
theorem n_bi {x : Str} {l : List D} (h0 : T.glob x = some .bi) (h : W1 (biCall x l st) fun d => Q d st) : W2 (nameCall T cf x l st) Q := by
  exact w2_eq (nc_eq h0) (w1_map2 h)
theorem n_data {x : Str} {c i : Addr} {l : List D} (h0 : T.glob x = some (.cls c i false)) (h : W2 (cf i (.ptr st.length :: l) (st ++ [.inst c [] []])) fun d s => d = .none ∧ ∃ d', freeze s st.length (.ptr st.length) = some d' ∧ ∃ s', fzSto s st.length (s.take st.length) = some s' ∧ Q d' s') : W2 (nameCall T cf x l st) Q := by
  refine w2_eq (nc_eq h0) (w2_bind (w2_mono h fun a s h => ?_))
  obtain ⟨rfl, d', e, s', e2, h⟩ := h
  exact w2_of (by show (freeze s st.length (.ptr st.length)).bind _ = _; rw [e]; show (fzSto s st.length (s.take st.length)).map _ = _; rw [e2]; rfl) h
theorem m_str {s m : Str} {o : D} {l : List D} (h : W1 (strMeth s m l st) fun d => Q d st) : W2 (methCall cf (.str s) o m l st) Q := by
  exact w1_map2 h
theorem m_fn {f : Addr} {m : Str} {o : D} {l : List D} (h : W2 (cf f (o :: l) st) Q) : W2 (methCall cf (.fn f) o m l st) Q := by
  exact h
theorem lm_app (i : Nat) (x : D) (st : Sto) (l : List D) : lmO (Str.ofString "append") i x st (some (.lst l)) = if l.length ≤ 10000 then some (.none, st.set i (.lst (l ++ [x]))) else none := by kernel_rfl
theorem lm_ext (i : Nat) (k : List D) (st : Sto) (l : List D) : lmO (Str.ofString "extend") i (.lst k) st (some (.lst l)) = if l.length + k.length ≤ 10000 then some (.none, st.set i (.lst (l ++ k))) else none := by kernel_rfl
theorem m_append {i : Nat} {x : D} {l : List D} (h0 : st[i]? = some (.lst l)) (h1 : l.length ≤ 10000) (h : Q .none (st.set i (.lst (l ++ [x])))) : W2 (methCall cf .lst (.ptr i) (Str.ofString "append") [x] st) Q :=
  w2_eq ((lm_eq (m := Str.ofString "append") h0).trans (lm_app i x st l)) (w2_of (if_pos h1) h)
theorem m_extend {i : Nat} {k l : List D} (h0 : st[i]? = some (.lst l)) (h1 : l.length + k.length ≤ 10000) (h : Q .none (st.set i (.lst (l ++ k)))) : W2 (methCall cf .lst (.ptr i) (Str.ofString "extend") [.lst k] st) Q :=
  w2_eq ((lm_eq (m := Str.ofString "extend") h0).trans (lm_ext i k st l)) (w2_of (if_pos h1) h)
/- statements -/
theorem x_nil (h : X .next vs st) : W3 (exs T cf [] sc base vs st) X := w3_of rfl h
theorem x_cons {s rest} (hh : T.hint s.pos.line = none) (h : W3 (ex T cf s sc base vs st) fun f v t => Then f (W3 (exs T cf rest sc base v t) X) (fun d => X (.ret d) v t)) : W3 (exs T cf (s :: rest) sc base vs st) X := by
  obtain ⟨f, v, t, e, h⟩ := h
  refine w3_eq (obind e) ?_
  cases f with
  | next => exact w3_eq (obind (compact_eq hh)) h
  | ret d => exact w3_of rfl h
theorem x_expr {e} (h0 : isComp e = false) (h : W2 (ev T cf e sc vs st) fun d s => d = .none ∧ X .next vs s) : W3 (ex T cf (.Expr e p) sc base vs st) X := by
  refine w3_eq (if_neg (by rw [h0]; exact Bool.false_ne_true)) ?_
  refine w23_bind (w2_mono h fun d s h => ?_)
  obtain ⟨rfl, h⟩ := h
  exact w3_of rfl h
theorem x_ret {e} (h : W2 (ev T cf e sc vs st) fun d s => X (.ret d) vs s) : W3 (ex T cf (.Return (some e) p) sc base vs st) X := by
  exact w23_map h
theorem x_ret0 (h : X (.ret .none) vs st) : W3 (ex T cf (.Return none p) sc base vs st) X := w3_of rfl h
theorem x_pass (h : X .next vs st) : W3 (ex T cf (.Pass p) sc base vs st) X := w3_of rfl h
theorem x_name {x xp e} (h0 : (sc.names.lookup x == some .local || (sc.names.lookup x == some .cell && sc.names.all fun p => p.2 != .cell || p.1 == x)) = true)
    (h : W2 (ev T cf e sc vs st) fun d s => X .next (setV x d vs) s) : W3 (ex T cf (.Assign [.Name x xp] e p) sc base vs st) X := by
  exact w3_eq (if_pos h0) (w23_map h)
theorem x_attr {o a ap e} (h0 : isComp e = false) (h : W2 (ev T cf e sc vs st) fun v s => W2 (ev T cf o sc vs s) fun q s => ∃ i c ns ds, q = .ptr i ∧ s[i]? = some (.inst c ns ds) ∧ ((T.attr c).contains a && decide (ns.length ≤ 100)) = true ∧
      X .next vs (s.set i (.inst c (putF a v ns ds).1 (putF a v ns ds).2))) : W3 (ex T cf (.Assign [.Attribute o a ap] e p) sc base vs st) X := by
  refine w3_eq (if_neg (by rw [h0]; exact Bool.false_ne_true)) ?_
  refine w23_bind (w2_mono h fun v s h => w23_bind (w2_mono h fun q s h => ?_))
  obtain ⟨i, c, ns, ds, rfl, e, c1, h⟩ := h
  exact w3_of (by simp only [e, c1, if_true]) h
theorem x_tup {ts a b e} (h0 : (isComp e || !allNames sc ts || !distinct ts || !swapOk e) = false) (h : W2 (ev T cf e sc vs st) fun d s => ∃ ds vs', d = .tup ds ∧ setAll ts ds vs = some vs' ∧ X .next vs' s) :
    W3 (ex T cf (.Assign [.Tuple ts a b] e p) sc base vs st) X := by
  refine w3_eq (if_neg (by rw [h0]; exact Bool.false_ne_true)) ?_
  refine w23_bind (w2_mono h fun d s h => ?_)
  obtain ⟨ds, vs', rfl, e, h⟩ := h
  exact w3_of (congrArg (Option.map _) e) h
theorem x_if {t b o} (h : W2 (evT T cf t (ev T cf t) sc vs st) fun c s => (c = true → W3 (exs T cf b sc base vs s) X) ∧ (c = false → W3 (exs T cf o sc base vs s) X)) : W3 (ex T cf (.If t b o p) sc base vs st) X := by
  refine w23_bind (w2_mono h fun c s h => ?_)
  cases c
  · exact h.2 rfl
  · exact h.1 rfl
theorem x_sub_last {o k op e} (h0 : isComp e = false) (h : W2 (ev T cf e sc vs st) fun v s => W2 (ev T cf o sc vs s) fun q s => W2 (ev T cf k sc vs s) fun j s => ∃ i l, q = .ptr i ∧ j = .int (-1) ∧ s[i]? = some (.lst l) ∧ l.length ≤ 10000 ∧ l ≠ [] ∧
      X .next vs (s.set i (.lst (l.set (l.length - 1) v)))) : W3 (ex T cf (.Assign [.Subscript o k op] e p) sc base vs st) X := by
  refine w3_eq (if_neg (by rw [h0]; exact Bool.false_ne_true)) ?_
  refine w23_bind (w2_mono h fun v s h => w23_bind (w2_mono h fun q s h => w23_bind (w2_mono h fun j s h => ?_)))
  obtain ⟨i, l, rfl, rfl, e, c1, c2, h⟩ := h
  have hl : 0 < l.length := List.length_pos_iff.mpr c2
  have h3 : ((-1 : Int) + (l.length : Int)).toNat = l.length - 1 := by first | lia | omega
  refine w3_of ?_ h
  simp only [e, c1, if_true]
  rw [if_neg (by first | lia | omega), if_pos (by first | lia | omega), h3]
theorem x_sub0 {o k op e} (h0 : isComp e = false) (h : W2 (ev T cf e sc vs st) fun v s => W2 (ev T cf o sc vs s) fun q s => W2 (ev T cf k sc vs s) fun j s => ∃ i l, q = .ptr i ∧ j = .int 0 ∧ s[i]? = some (.lst l) ∧ l.length ≤ 10000 ∧ l ≠ [] ∧
      X .next vs (s.set i (.lst (l.set 0 v)))) : W3 (ex T cf (.Assign [.Subscript o k op] e p) sc base vs st) X := by
  refine w3_eq (if_neg (by rw [h0]; exact Bool.false_ne_true)) ?_
  refine w23_bind (w2_mono h fun v s h => w23_bind (w2_mono h fun q s h => w23_bind (w2_mono h fun j s h => ?_)))
  obtain ⟨i, l, rfl, rfl, e, c1, c2, h⟩ := h
  have hl : 0 < l.length := List.length_pos_iff.mpr c2
  refine w3_of ?_ h
  simp only [e, c1, if_true]
  rw [if_pos (by first | lia | omega)]
  rfl
theorem x_for {t it b} (ht : okT sc t = true) (hi : ∀ es k, it ≠ .List es k) (h : W2 (ev T cf it sc vs st) fun a s => W1 (itemsOf a) fun items => W3 (forL t (exs T cf b sc base) items vs s) X) : W3 (ex T cf (.For t it b [] p) sc base vs st) X := by
  have e : ex T cf (.For t it b [] p) sc base vs st = if okT sc t then (ev T cf it sc vs st).bind fun a => (itemsOf a.1).bind fun items => forL t (exs T cf b sc base) items vs a.2 else none := by
    cases it <;> first | exact absurd rfl (hi _ _) | rfl
  rw [e, ht, if_pos rfl]
  exact w23_bind (w2_mono h fun a s h => w13_bind h)
theorem x_forL {t es k b} (ht : okT sc t = true) (h : W2 (evs T cf es sc vs st) fun l s => (npL l && decide (l.length ≤ 1000)) = true ∧ W3 (forL t (exs T cf b sc base) l vs s) X) : W3 (ex T cf (.For t (.List es k) b [] p) sc base vs st) X := by
  refine w3_eq (if_pos ht) ?_
  refine w23_bind (w2_mono h fun a s h => ?_)
  exact w3_eq (if_pos h.1) h.2
theorem x_while {t b} (h : W3 (whileL (evT T cf t (ev T cf t) sc) (exs T cf b sc base) 64 vs st) X) : W3 (ex T cf (.While t b [] p) sc base vs st) X := by
  exact h
end
theorem forL_ind {t : Expr} {body : Vars → Sto → Xr} {X : Fl → Vars → Sto → Prop} (I : List D → Vars → Sto → Prop) (h0 : ∀ vs st, I [] vs st → X .next vs st)
    (hs : ∀ d ds vs st, I (d :: ds) vs st → W1 (bindT t d vs) fun vs1 => W3 (body vs1 st) fun f v s => Then f (I ds v s) fun r => X (.ret r) v s) : ∀ ds vs st, I ds vs st → W3 (forL t body ds vs st) X
  | [], vs, st, h => w3_of rfl (h0 _ _ h)
  | d :: ds, vs, st, h => by
    obtain ⟨vs1, e1, f, v, s, e2, h⟩ := hs _ _ _ _ h
    refine w3_eq ((obind e1).trans (obind e2)) ?_
    cases f with
    | next => exact forL_ind I h0 hs ds v s h
    | ret r => exact w3_of rfl h
theorem whileL_ind {test : Vars → Sto → Option (Bool × Sto)} {body : Vars → Sto → Xr} {X : Fl → Vars → Sto → Prop} (I : Nat → Vars → Sto → Prop)
    (hs : ∀ n vs st, I n vs st → W2 (test vs st) fun c s => (c = true → ∃ m, n = m + 1 ∧ W3 (body vs s) fun f v s => Then f (I m v s) fun r => X (.ret r) v s) ∧ (c = false → X .next vs s)) :
    ∀ n k vs st, n < k → I n vs st → W3 (whileL test body k vs st) X
  | n, 0, _, _, hk, _ => absurd hk (Nat.not_lt_zero _)
  | n, k + 1, vs, st, hk, h => by
    obtain ⟨c, s, e, h1, h2⟩ := hs _ _ _ h
    refine w3_eq (obind e) ?_
    cases c
    · exact w3_of rfl (h2 rfl)
    · obtain ⟨m, rfl, f, v, s2, e2, h⟩ := h1 rfl
      refine w3_eq (obind e2) ?_
      cases f with
      | next => exact whileL_ind I hs m k v s2 (by first | lia | omega) h
      | ret r => exact w3_of rfl h
theorem w1_getA {T : Tab} {st : Sto} {i : Nat} {a : Str} {c ns ds d} {Q : D → Prop} (h0 : st[i]? = some (.inst c ns ds)) (h1 : (T.attr c).contains a = true) (h2 : fieldOf ns ds a = some d) (h : Q d) : W1 (getA T st (.ptr i) a) Q :=
  w1_of ((obind h0).trans ((if_pos h1).trans h2)) h
theorem w1_pick {T : Tab} {st : Sto} {i : Nat} {a : Str} {c ns ds d} {Q : Pick → Prop} (h0 : st[i]? = some (.inst c ns ds)) (h1 : T.meth c a = some d) (h2 : ns.contains a = false) (h : Q (.fn d)) : W1 (pick T st (.ptr i) a) Q :=
  w1_of ((obind h0).trans ((obind h1).trans (if_neg (by rw [h2]; exact Bool.false_ne_true)))) h
theorem w1_pickL {T : Tab} {st : Sto} {i : Nat} {a : Str} {l} {Q : Pick → Prop} (h0 : st[i]? = some (.lst l)) (h : Q .lst) : W1 (pick T st (.ptr i) a) Q :=
  w1_of (obind h0) h
theorem get_self {st : Sto} {i : Nat} {a : Ob} (h : i < st.length) : (st.set i a)[i]? = some a := by simp [h]
theorem l_add_str {x y : Str} {st : Sto} {Q : D → Sto → Prop} (h0 : x.length + y.length ≤ 10000) (h : Q (.str (x ++ y)) st) : W2 (binop .Add (.str x) (.str y) st) Q := w2_of (if_pos h0) h
theorem l_mul_str {x : Str} {n : Int} {st : Sto} {Q : D → Sto → Prop} (h0 : x.length ≤ 10) (h1 : 0 ≤ n) (h2 : n ≤ 10000) (h : Q (.str (Txt.mul x n)) st) : W2 (binop .Mult (.str x) (.int n) st) Q := w2_of (if_pos ⟨h0, h1, h2⟩) h
theorem l_add_lst {x y : D} {k l : List D} {st : Sto} {Q : D → Sto → Prop} (h0 : lstOf st x = some k) (h1 : lstOf st y = some l) (h2 : k.length + l.length ≤ 10000) (h : Q (.ptr st.length) (st ++ [.lst (k ++ l)])) : W2 (binop .Add x y st) Q := by
  refine w2_of ?_ h
  have e : addD st x y = (lstOf st x).bind fun k => (lstOf st y).bind fun l => if k.length + l.length ≤ 10000 then some (D.ptr st.length, st ++ [Ob.lst (k ++ l)]) else none := by
    cases x <;> first | (cases h0; done) | rfl
  exact e.trans ((obind h0).trans ((obind h1).trans (if_pos h2)))
theorem l_mul_lst {x : D} {k : List D} {n : Int} {st : Sto} {Q : D → Sto → Prop} (h0 : lstOf st x = some k) (h1 : k.length ≤ 10) (h2 : 0 ≤ n) (h3 : n ≤ 10000) (h : Q (.lst (reps k n.toNat)) st) : W2 (binop .Mult x (.int n) st) Q := by
  refine w2_of ?_ h
  have e : mulD st x (.int n) = (lstOf st x).bind fun k => if k.length ≤ 10 ∧ 0 ≤ n ∧ n ≤ 10000 then some (D.lst (reps k n.toNat), st) else none := by
    cases x <;> first | (cases h0; done) | rfl
  exact e.trans ((obind h0).trans (if_pos ⟨h1, h2, h3⟩))
end Og
end
section
set_option tactic.hygienic false
set_option maxHeartbeats 4000000
namespace Og
open PySem
/-- where the reckoned precondition stops -/
structure Leaf (P : Prop) : Prop where
  out : P
noncomputable def oG (o : Option D) (Q : D → Prop) : Prop := match o with
  | some d => Q d
  | none => False
noncomputable def isB (d : D) (R : Bool → Prop) : Prop := match d with
  | .bool b => R b
  | _ => False
noncomputable def isN (d : D) (P : Prop) : Prop := match d with
  | .none => P
  | _ => False
theorem oG_e {o : Option D} {Q : D → Prop} (h : oG o Q) : ∃ d, o = some d ∧ Q d := match o, h with | some d, h => ⟨d, rfl, h⟩
theorem isB_e {d : D} {R : Bool → Prop} (h : isB d R) : ∃ b, d = .bool b ∧ R b := by cases d <;> first | exact ⟨_, rfl, h⟩ | exact h.elim
theorem isN_e {d : D} {P : Prop} (h : isN d P) : d = .none ∧ P := by cases d <;> first | exact ⟨rfl, h⟩ | exact h.elim
noncomputable def gD : Option G → Option D
  | some (.val d) => some d
  | _ => none
noncomputable def nkD (T : Tab) (x : Str) (vs : Vars) : Option NameKind → Option D
  | some .local => vs.lookup x
  | some .cell => vs.lookup x
  | some .globalImplicit => gD (T.glob x)
  | _ => none
/-- a name's value -/
noncomputable def nameD (T : Tab) (sc : Scope) (vs : Vars) (x : Str) : Option D := cond (x == ("__debug__" : Str)) none (nkD T x vs (sc.names.lookup x))
/-- a new list -/
noncomputable def NewL (l : List D) (s : Sto) (Q : D → Sto → Prop) : Prop := l.length ≤ 1000 ∧ Q (.ptr s.length) (s ++ [.lst l])
noncomputable def wPick (T : Tab) (s : Sto) (m : Str) (K : Pick → Prop) : D → Prop
  | .str x => K (.str x)
  | d => Leaf (W1 (pick T s d m) K)
noncomputable def wN (T : Tab) (cf : CF) (x : Str) (l : List D) (st : Sto) (Q : D → Sto → Prop) : Option G → Prop
  | some (.fn f) => Leaf (W2 (cf f l st) Q)
  | some .bi => Leaf (W1 (biCall x l st) fun d => Q d st)
  | _ => Leaf (W2 (nameCall T cf x l st) Q)
noncomputable def wM (cf : CF) (a : D) (m : Str) (l : List D) (s : Sto) (Q : D → Sto → Prop) : Pick → Prop
  | .str x => Leaf (W1 (strMeth x m l s) fun d => Q d s)
  | .fn f => Leaf (W2 (cf f (a :: l) s) Q)
  | .lst => Leaf (W2 (methCall cf .lst a m l s) Q)
noncomputable def isSl : Expr → Bool
  | .Slice u1_ u2_ u3_ u4_ => true
  | _ => false
theorem isSl_f {e : Expr} (h : isSl e = false) : ∀ a b c d, e ≠ .Slice a b c d := fun a b c d q => by subst q; cases h
theorem isName_e {e : Expr} (h : isName e = true) : ∃ x p, e = .Name x p := by
  unfold isName at h
  split at h
  · exact ⟨_, _, rfl⟩
  · cases h
abbrev WF := Scope → Vars → Sto → (D → Sto → Prop) → Prop
mutual
/-- the weakest precondition, reckoned down to the next call -/
noncomputable def wE (T : Tab) (cf : CF) : Expr → WF
  | .Constant c u1_ u2_, u3_, u4_, st, Q => oG (constD c) fun d => Q d st
  | .Name x u1_, sc, vs, st, Q => oG (nameD T sc vs x) fun d => Q d st
  | .BoolOp op es u1_, sc, vs, st, Q => wB T cf op es sc vs st Q
  | .BinOp l op r u1_, sc, vs, st, Q => wE T cf l sc vs st fun a s => wE T cf r sc vs s fun b s2 => Leaf (W2 (binop op a b s2) Q)
  | .UnaryOp op x u1_, sc, vs, st, Q => match op with
    | .Not => wE T cf x sc vs st fun a s => isB a fun b => Q (.bool (!b)) s
    | .USub => oG ((negOf x).map fun i => .int (-i)) fun d => Q d st
    | _ => False
  | .IfExp t b o u1_, sc, vs, st, Q => wT T cf t (wE T cf t) sc vs st fun c s => Leaf ((c = true → wE T cf b sc vs s Q) ∧ (c = false → wE T cf o sc vs s Q))
  | .List es u1_, sc, vs, st, Q => wEs T cf es sc vs st fun l s => Leaf (NewL l s Q)
  | .Tuple es u1_ u2_, sc, vs, st, Q => wEs T cf es sc vs st fun l s => cond (Nat.ble l.length 1000) (Q (.tup l) s) False
  | .Compare l ops rs u1_, sc, vs, st, Q => match ops, rs with
    | [op], [r] => wE T cf l sc vs st fun a s => wE T cf r sc vs s fun b s2 => Leaf (W1 (cmpop op a b s2) fun c => Q (.bool c) s2)
    | [op, op2], [r, r2] => cond (behindInMarks op2 r2) False (wE T cf l sc vs st fun a s => wE T cf r sc vs s fun b s2 => Leaf (W1 (cmpop op a b s2) fun c =>
        Leaf ((c = true → wE T cf r2 sc vs s2 fun e s3 => Leaf (W1 (cmpop op2 b e s3) fun c => Q (.bool c) s3)) ∧ (c = false → Q (.bool false) s2))))
    | u1_, u2_ => False
  | .Call f args kws pos, sc, vs, st, Q => match kws with
    | [] => match f with
      | .Name x u1_ => cond (x == ("__debug__" : Str) || args.length > 12) False (cond (sc.names.lookup x == some .globalImplicit) (wEs T cf args sc vs st fun l s => wN T cf x l s Q (T.glob x)) False)
      | .Attribute o m ap => cond (args.length > 12 || !notSuper o || ap.endLine != pos.line) False (wE T cf o sc vs st fun a s => wPick T s m (fun pk => wEs T cf args sc vs s fun l s => wM cf a m l s Q pk) a)
      | _ => False
    | u1_ :: u2_ => False
  | .Attribute o a u1_, sc, vs, st, Q => cond (notSuper o) (wE T cf o sc vs st fun d s => Leaf (W1 (getA T s d a) fun d => Q d s)) False
  | .Subscript o i u1_, sc, vs, st, Q => cond (isSl i) (cond (isName o) (wE T cf o sc vs st fun a s => wSl T cf i sc vs s fun l u s => Leaf (W1 (getS s a l u) fun d => Q d s)) False)
      (wE T cf o sc vs st fun a s => wE T cf i sc vs s fun k s => Leaf (W1 (getI s a k) fun d => Q d s))
  | .ListComp elt gs sc' u1_, sc, vs, st, Q => match gs with
    | [⟨t, it, ifs, k⟩] => wE T cf it sc vs st fun a s => Leaf (W1 (itemsOf a) fun items => cond (k == 0 && okT sc' t && compOk sc sc' vs) (Leaf (items.length ≤ 10000 ∧
        W2 (compLoop t (evTs T cf .And ifs (relab sc sc')) (ev T cf elt (relab sc sc')) items (vs.filter fun p => sc.names.lookup p.1 == some .cell && sc'.names.lookup p.1 == some .free) s) fun l s => Q (.lst l) s)) False)
    | _ => False
  | .NamedExpr u1_ u2_ u3_, u4_, u5_, u6_, u7_ => False
  | .Lambda u1_ u2_ u3_ u4_, u5_, u6_, u7_, u8_ => False
  | .Dict u1_ u2_ u3_, u4_, u5_, u6_, u7_ => False
  | .Set u1_ u2_ u3_, u4_, u5_, u6_, u7_ => False
  | .SetComp u1_ u2_ u3_ u4_, u5_, u6_, u7_, u8_ => False
  | .DictComp u1_ u2_ u3_ u4_ u5_, u6_, u7_, u8_, u9_ => False
  | .GeneratorExp u1_ u2_ u3_ u4_, u5_, u6_, u7_, u8_ => False
  | .Await u1_ u2_, u3_, u4_, u5_, u6_ => False
  | .Yield u1_ u2_, u3_, u4_, u5_, u6_ => False
  | .YieldFrom u1_ u2_, u3_, u4_, u5_, u6_ => False
  | .FormattedValue u1_ u2_ u3_ u4_, u5_, u6_, u7_, u8_ => False
  | .JoinedStr u1_ u2_, u3_, u4_, u5_, u6_ => False
  | .Starred u1_ u2_, u3_, u4_, u5_, u6_ => False
  | .Slice u1_ u2_ u3_ u4_, u5_, u6_, u7_, u8_ => False
noncomputable def wO (T : Tab) (cf : CF) : Option Expr → WF
  | none, u1_, u2_, st, Q => Q .none st
  | some e, sc, vs, st, Q => wE T cf e sc vs st Q
noncomputable def wSl (T : Tab) (cf : CF) : Expr → Scope → Vars → Sto → (D → D → Sto → Prop) → Prop
  | .Slice lo hi step u1_, sc, vs, st, K => cond step.isNone (wO T cf lo sc vs st fun l s => wO T cf hi sc vs s fun u s => K l u s) False
  | u1_, u2_, u3_, u4_, u5_ => False
noncomputable def wEs (T : Tab) (cf : CF) : List Expr → Scope → Vars → Sto → (List D → Sto → Prop) → Prop
  | [], u1_, u2_, st, L => L [] st
  | e :: es, sc, vs, st, L => wE T cf e sc vs st fun d s => wEs T cf es sc vs s fun l s => L (d :: l) s
noncomputable def wB (T : Tab) (cf : CF) : BoolOp → List Expr → WF
  | u1_, [], u2_, u3_, u4_, u5_ => False
  | u1_, [e], sc, vs, st, Q => wE T cf e sc vs st Q
  | op, e :: es, sc, vs, st, Q => wE T cf e sc vs st fun a s => isB a fun b => match op with
    | .And => Leaf ((b = true → wB T cf .And es sc vs s Q) ∧ (b = false → Q (.bool false) s))
    | .Or => Leaf ((b = true → Q (.bool true) s) ∧ (b = false → wB T cf .Or es sc vs s Q))
noncomputable def wT (T : Tab) (cf : CF) : Expr → WF → Scope → Vars → Sto → (Bool → Sto → Prop) → Prop
  | .UnaryOp .Not x u1_, u2_, sc, vs, st, R => wT T cf x (wE T cf x) sc vs st fun b s => R (!b) s
  | .BoolOp op es u1_, u2_, sc, vs, st, R => wTs T cf op es sc vs st R
  | .IfExp u1_ u2_ u3_ u4_, u5_, u6_, u7_, u8_, u9_ => False
  | u1_, w, sc, vs, st, R => w sc vs st fun a s => isB a fun b => R b s
noncomputable def wTs (T : Tab) (cf : CF) : BoolOp → List Expr → Scope → Vars → Sto → (Bool → Sto → Prop) → Prop
  | op, [], u1_, u2_, st, R => R (op == .And) st
  | op, e :: es, sc, vs, st, R => wT T cf e (wE T cf e) sc vs st fun b s => match op with
    | .And => Leaf ((b = true → wTs T cf .And es sc vs s R) ∧ (b = false → R false s))
    | .Or => Leaf ((b = true → R true s) ∧ (b = false → wTs T cf .Or es sc vs s R))
end
theorem isNone_sl {lo hi step : Option Expr} {q : Pos} (c : step.isNone = true) : Expr.Slice lo hi step q = .Slice lo hi none q := by cases step; rfl; cases c
theorem condF {c : Bool} {P : Prop} (h : cond c False P) : c = false ∧ P := by cases c; exact ⟨rfl, h⟩; exact h.elim
theorem condE {c : Bool} {P Q : Prop} (h : cond c P Q) : (c = true ∧ P) ∨ (c = false ∧ Q) := by cases c; exact .inr ⟨rfl, h⟩; exact .inl ⟨rfl, h⟩
theorem condT {c : Bool} {P : Prop} (h : cond c P False) : c = true ∧ P := by cases c; exact h.elim; exact ⟨rfl, h⟩
section
variable {T : Tab} {cf : CF}
theorem nameD_ok {x : Str} {p : Pos} {sc : Scope} {vs : Vars} {st : Sto} {d : D} (h : nameD T sc vs x = some d) : ev T cf (.Name x p) sc vs st = some (d, st) := by
  unfold nameD at h
  cases h0 : x == ("__debug__" : Str) with
  | true => rw [h0] at h; cases h
  | false =>
    rw [h0] at h
    refine name_eq h0 ?_
    revert h
    cases sc.names.lookup x with
    | none => intro h; cases h
    | some k =>
      cases k <;> intro h <;> first | (cases h; done) | exact congrArg (Option.map (·, st)) h | skip
      revert h
      show gD (T.glob x) = some d → (match T.glob x with | some (.val d) => some (d, st) | _ => none) = _
      cases T.glob x with
      | none => intro h; cases h
      | some g => cases g <;> intro h <;> cases h; rfl
theorem wN_ok {x : Str} {l : List D} {st : Sto} {Q : D → Sto → Prop} (h : wN T cf x l st Q (T.glob x)) : W2 (nameCall T cf x l st) Q := by
  cases h0 : T.glob x with
  | none => rw [h0] at h; exact h.out
  | some g => rw [h0] at h; cases g with
    | fn f => exact n_fn h0 h.out
    | bi => exact n_bi h0 h.out
    | val d => exact h.out
    | cls c i k => exact h.out
theorem wM_ok {a : D} {m : Str} {l : List D} {s : Sto} {Q : D → Sto → Prop} {pk : Pick} (h : wM cf a m l s Q pk) : W2 (methCall cf pk a m l s) Q := by
  cases pk with
  | str x => exact m_str h.out
  | fn f => exact m_fn h.out
  | lst => exact h.out
theorem wPick_ok {s : Sto} {m : Str} {K : Pick → Prop} {a : D} (h : wPick T s m K a) : W1 (pick T s a m) K := by
  cases a <;> first | exact h.out | exact w1_of rfl h
theorem wSub_ok {o i : Expr} {p : Pos} {sc : Scope} {vs : Vars} {st : Sto} {Q : D → Sto → Prop} (c : isName o = true) (h : W2 (ev T cf o sc vs st) fun a s => ∃ lo hi q, i = .Slice lo hi none q ∧ W2 (evO T cf lo sc vs s) fun l s => W2 (evO T cf hi sc vs s) fun u s => Leaf (W1 (getS s a l u) fun d => Q d s)) :
    W2 (ev T cf (.Subscript o i p) sc vs st) Q := by
  obtain ⟨x, xp, rfl⟩ := isName_e c
  obtain ⟨a, s, e, lo, hi, q, rfl, h⟩ := h
  exact e_slice ⟨a, s, e, w2_mono h fun l s h => w2_mono h fun u s h => h.out⟩
theorem wComp_ok {elt t it : Expr} {ifs : List Expr} {k : Int} {sc sc' : Scope} {vs : Vars} {st : Sto} {p : Pos} {Q : D → Sto → Prop} (h : W2 (ev T cf it sc vs st) fun a s => W1 (itemsOf a) fun items => cond (k == 0 && okT sc' t && compOk sc sc' vs) (Leaf (items.length ≤ 10000 ∧
        W2 (compLoop t (evTs T cf .And ifs (relab sc sc')) (ev T cf elt (relab sc sc')) items (vs.filter fun p => sc.names.lookup p.1 == some .cell && sc'.names.lookup p.1 == some .free) s) fun l s => Q (.lst l) s)) False) :
    W2 (ev T cf (.ListComp elt [⟨t, it, ifs, k⟩] sc' p) sc vs st) Q := by
  obtain ⟨a, s, e, items, e2, h⟩ := h
  obtain ⟨c, q⟩ : (k == 0 && okT sc' t && compOk sc sc' vs) = true ∧ Leaf _ := condT h
  have z := q.out
  have e0 : k = 0 := eq_of_beq (and1 (and1 c))
  subst e0
  exact e_comp ⟨a, s, e, items, e2, and2 (and1 c), and2 c, z⟩
theorem w2_oG {o : Option D} {Q : D → Sto → Prop} {m : Option (D × Sto)} {st : Sto} (h : oG o fun d => Q d st) (k : ∀ d, o = some d → m = some (d, st)) : W2 m Q := by
  obtain ⟨d, e, q⟩ := oG_e h
  exact w2_of (k d e) q
theorem w1_mono {α : Type} {m : Option α} {Q R : α → Prop} (h : W1 m Q) (q : ∀ a, Q a → R a) : W1 m R := by
  obtain ⟨a, e, h⟩ := h
  exact ⟨a, e, q _ h⟩
theorem isB_k {d : D} {R R' : Bool → Prop} (h : isB d R) (k : ∀ b, R b → R' b) : ∃ b, d = .bool b ∧ R' b := by
  obtain ⟨b, e, h⟩ := isB_e h
  exact ⟨b, e, k b h⟩
mutual
theorem wE_ok : ∀ (e : Expr) {sc : Scope} {vs : Vars} {st : Sto} {Q : D → Sto → Prop}, wE T cf e sc vs st Q → W2 (ev T cf e sc vs st) Q
  | .Constant c u1_ u2_, u3_, u4_, u5_, u6_, h => w2_oG h fun d e => congrArg (Option.map _) e
  | .Name x u1_, u2_, u3_, u4_, u5_, h => w2_oG h fun d e => nameD_ok e
  | .BoolOp op es u1_, u2_, u3_, u4_, u5_, h => wB_ok op es h
  | .BinOp l op r u1_, u2_, u3_, u4_, u5_, h => e_bin (w2_mono (wE_ok l h) fun a s h => w2_mono (wE_ok r h) fun b s2 h => h.out)
  | .UnaryOp op x u1_, u2_, u3_, u4_, u5_, h => match op, h with
    | .UAdd, h => h.elim
    | .Invert, h => h.elim
    | .Not, h => e_not (w2_mono (wE_ok x h) fun a s h => isB_e h)
    | .USub, h => w2_oG h fun d e => mapE e fun i e r => (congrArg (Option.map _) e).trans (r ▸ rfl)
  | .IfExp t b o u1_, u2_, u3_, u4_, u5_, h => e_ifexp (w2_mono (wT_ok t (wE T cf t) (ev T cf t) (wE_ok t) h) fun c s h => ⟨fun c => wE_ok b (h.out.1 c), fun c => wE_ok o (h.out.2 c)⟩)
  | .List es u1_, u2_, u3_, u4_, u5_, h => e_list (w2_mono (wEs_ok es h) fun l s h => h.out)
  | .Tuple es u1_ u2_, u3_, u4_, u5_, u6_, h => e_tuple (w2_mono (wEs_ok es h) fun l s h => ⟨Nat.le_of_ble_eq_true (condT h).1, (condT h).2⟩)
  | .Compare l ops rs u1_, u2_, u3_, u4_, u5_, h => match ops, rs, h with
    | [], u1_, h => h.elim
    | [u1_], [], h => h.elim
    | [u1_], u2_ :: u3_ :: u4_, h => h.elim
    | [u1_, u2_], [], h => h.elim
    | [u1_, u2_], [u3_], h => h.elim
    | [u1_, u2_], u3_ :: u4_ :: u5_ :: u6_, h => h.elim
    | u1_ :: u2_ :: u3_ :: u4_, u5_, h => h.elim
    | [op], [r], h => e_cmp (w2_mono (wE_ok l h) fun a s h => w2_mono (wE_ok r h) fun b s2 h => h.out)
    | [op, op2], [r, r2], h => e_cmp2 (condF h).1 (w2_mono (wE_ok l (condF h).2) fun a s h => w2_mono (wE_ok r h) fun b s2 h => w1_mono h.out fun c h => ⟨fun c => w2_mono (wE_ok r2 (h.out.1 c)) fun e s3 h => h.out, h.out.2⟩)
  | .Call f args kws pos, u1_, u2_, u3_, u4_, h => match kws, h with
    | [], h => match f, h with
      | .Name x u1_, h => e_call (condF h).1 (eq_of_beq (condT (condF h).2).1) (w2_mono (wEs_ok args (condT (condF h).2).2) fun l s h => wN_ok h)
      | .Attribute o m ap, h => e_meth (condF h).1 (w2_mono (wE_ok o (condF h).2) fun a s h => w1_mono (wPick_ok h) fun pk h => w2_mono (wEs_ok args h) fun l s h => wM_ok h)
      | .BoolOp u1_ u2_ u3_, h => h.elim
      | .NamedExpr u1_ u2_ u3_, h => h.elim
      | .BinOp u1_ u2_ u3_ u4_, h => h.elim
      | .UnaryOp u1_ u2_ u3_, h => h.elim
      | .Lambda u1_ u2_ u3_ u4_, h => h.elim
      | .IfExp u1_ u2_ u3_ u4_, h => h.elim
      | .Dict u1_ u2_ u3_, h => h.elim
      | .Set u1_ u2_ u3_, h => h.elim
      | .ListComp u1_ u2_ u3_ u4_, h => h.elim
      | .SetComp u1_ u2_ u3_ u4_, h => h.elim
      | .DictComp u1_ u2_ u3_ u4_ u5_, h => h.elim
      | .GeneratorExp u1_ u2_ u3_ u4_, h => h.elim
      | .Await u1_ u2_, h => h.elim
      | .Yield u1_ u2_, h => h.elim
      | .YieldFrom u1_ u2_, h => h.elim
      | .Compare u1_ u2_ u3_ u4_, h => h.elim
      | .Call u1_ u2_ u3_ u4_, h => h.elim
      | .FormattedValue u1_ u2_ u3_ u4_, h => h.elim
      | .JoinedStr u1_ u2_, h => h.elim
      | .Constant u1_ u2_ u3_, h => h.elim
      | .Subscript u1_ u2_ u3_, h => h.elim
      | .Starred u1_ u2_, h => h.elim
      | .List u1_ u2_, h => h.elim
      | .Tuple u1_ u2_ u3_, h => h.elim
      | .Slice u1_ u2_ u3_ u4_, h => h.elim
    | u1_ :: u2_, h => h.elim
  | .Attribute o a u1_, u2_, u3_, u4_, u5_, h => e_attr (condT h).1 (w2_mono (wE_ok o (condT h).2) fun d s h => h.out)
  | .Subscript o i p, u1_, u2_, u3_, u4_, h => (condE h).elim (fun h => wSub_ok (condT h.2).1 (w2_mono (wE_ok o (condT h.2).2) fun a s h => wSl_ok i h))
    fun h => e_sub (isSl_f h.1) (w2_mono (wE_ok o h.2) fun a s h => w2_mono (wE_ok i h) fun k s h => h.out)
  | .ListComp elt gs sc' u1_, sc, vs, u2_, u3_, h => match gs, h with
    | [], h => h.elim
    | ⟨u1_, u2_, u3_, u4_⟩ :: u5_ :: u6_, h => h.elim
    | [⟨t, it, ifs, k⟩], h => wComp_ok (w2_mono (wE_ok it h) fun a s h => h.out)
  | .NamedExpr u1_ u2_ u3_, u4_, u5_, u6_, u7_, h => h.elim
  | .Lambda u1_ u2_ u3_ u4_, u5_, u6_, u7_, u8_, h => h.elim
  | .Dict u1_ u2_ u3_, u4_, u5_, u6_, u7_, h => h.elim
  | .Set u1_ u2_ u3_, u4_, u5_, u6_, u7_, h => h.elim
  | .SetComp u1_ u2_ u3_ u4_, u5_, u6_, u7_, u8_, h => h.elim
  | .DictComp u1_ u2_ u3_ u4_ u5_, u6_, u7_, u8_, u9_, h => h.elim
  | .GeneratorExp u1_ u2_ u3_ u4_, u5_, u6_, u7_, u8_, h => h.elim
  | .Await u1_ u2_, u3_, u4_, u5_, u6_, h => h.elim
  | .Yield u1_ u2_, u3_, u4_, u5_, u6_, h => h.elim
  | .YieldFrom u1_ u2_, u3_, u4_, u5_, u6_, h => h.elim
  | .FormattedValue u1_ u2_ u3_ u4_, u5_, u6_, u7_, u8_, h => h.elim
  | .JoinedStr u1_ u2_, u3_, u4_, u5_, u6_, h => h.elim
  | .Starred u1_ u2_, u3_, u4_, u5_, u6_, h => h.elim
  | .Slice u1_ u2_ u3_ u4_, u5_, u6_, u7_, u8_, h => h.elim
theorem wO_ok : ∀ (e : Option Expr) {sc : Scope} {vs : Vars} {st : Sto} {Q : D → Sto → Prop}, wO T cf e sc vs st Q → W2 (evO T cf e sc vs st) Q
  | none, u1_, u2_, u3_, u4_, h => w2_of rfl h
  | some e, u1_, u2_, u3_, u4_, h => wE_ok e h
theorem wSl_ok : ∀ (i : Expr) {sc : Scope} {vs : Vars} {st : Sto} {K : D → D → Sto → Prop}, wSl T cf i sc vs st K → ∃ lo hi q, i = .Slice lo hi none q ∧ W2 (evO T cf lo sc vs st) fun l s => W2 (evO T cf hi sc vs s) fun u s => K l u s
  | .Slice lo hi step q, u1_, u2_, u3_, u4_, h => ⟨lo, hi, q, isNone_sl (condT h).1, w2_mono (wO_ok lo (condT h).2) fun l s h => wO_ok hi h⟩
  | .BoolOp u1_ u2_ u3_, u4_, u5_, u6_, u7_, h => h.elim
  | .NamedExpr u1_ u2_ u3_, u4_, u5_, u6_, u7_, h => h.elim
  | .BinOp u1_ u2_ u3_ u4_, u5_, u6_, u7_, u8_, h => h.elim
  | .UnaryOp u1_ u2_ u3_, u4_, u5_, u6_, u7_, h => h.elim
  | .Lambda u1_ u2_ u3_ u4_, u5_, u6_, u7_, u8_, h => h.elim
  | .IfExp u1_ u2_ u3_ u4_, u5_, u6_, u7_, u8_, h => h.elim
  | .Dict u1_ u2_ u3_, u4_, u5_, u6_, u7_, h => h.elim
  | .Set u1_ u2_ u3_, u4_, u5_, u6_, u7_, h => h.elim
  | .ListComp u1_ u2_ u3_ u4_, u5_, u6_, u7_, u8_, h => h.elim
  | .SetComp u1_ u2_ u3_ u4_, u5_, u6_, u7_, u8_, h => h.elim
  | .DictComp u1_ u2_ u3_ u4_ u5_, u6_, u7_, u8_, u9_, h => h.elim
  | .GeneratorExp u1_ u2_ u3_ u4_, u5_, u6_, u7_, u8_, h => h.elim
  | .Await u1_ u2_, u3_, u4_, u5_, u6_, h => h.elim
  | .Yield u1_ u2_, u3_, u4_, u5_, u6_, h => h.elim
  | .YieldFrom u1_ u2_, u3_, u4_, u5_, u6_, h => h.elim
  | .Compare u1_ u2_ u3_ u4_, u5_, u6_, u7_, u8_, h => h.elim
  | .Call u1_ u2_ u3_ u4_, u5_, u6_, u7_, u8_, h => h.elim
  | .FormattedValue u1_ u2_ u3_ u4_, u5_, u6_, u7_, u8_, h => h.elim
  | .JoinedStr u1_ u2_, u3_, u4_, u5_, u6_, h => h.elim
  | .Constant u1_ u2_ u3_, u4_, u5_, u6_, u7_, h => h.elim
  | .Subscript u1_ u2_ u3_, u4_, u5_, u6_, u7_, h => h.elim
  | .Starred u1_ u2_, u3_, u4_, u5_, u6_, h => h.elim
  | .List u1_ u2_, u3_, u4_, u5_, u6_, h => h.elim
  | .Tuple u1_ u2_ u3_, u4_, u5_, u6_, u7_, h => h.elim
  | .Name u1_ u2_, u3_, u4_, u5_, u6_, h => h.elim
  | .Attribute u1_ u2_ u3_, u4_, u5_, u6_, u7_, h => h.elim
theorem wEs_ok : ∀ (es : List Expr) {sc : Scope} {vs : Vars} {st : Sto} {L : List D → Sto → Prop}, wEs T cf es sc vs st L → W2 (evs T cf es sc vs st) L
  | [], u1_, u2_, u3_, u4_, h => w2_of rfl h
  | e :: es, u1_, u2_, u3_, u4_, h => es_cons (w2_mono (wE_ok e h) fun d s h => wEs_ok es h)
theorem wB_ok : ∀ (op : BoolOp) (es : List Expr) {sc : Scope} {vs : Vars} {st : Sto} {Q : D → Sto → Prop}, wB T cf op es sc vs st Q → W2 (evB T cf op es sc vs st) Q
  | u1_, [], u2_, u3_, u4_, u5_, h => h.elim
  | u1_, [e], u2_, u3_, u4_, u5_, h => eb_one (wE_ok e h)
  | .And, e :: f :: es, u1_, u2_, u3_, u4_, h => eb_and (w2_mono (wE_ok e h) fun a s h => isB_k h fun b h => ⟨fun c => wB_ok .And (f :: es) (h.out.1 c), h.out.2⟩)
  | .Or, e :: f :: es, u1_, u2_, u3_, u4_, h => eb_or (w2_mono (wE_ok e h) fun a s h => isB_k h fun b h => ⟨h.out.1, fun c => wB_ok .Or (f :: es) (h.out.2 c)⟩)
theorem wT_ok : ∀ (e : Expr) (w : WF) (w' : Ev), (∀ {sc vs st Q}, w sc vs st Q → W2 (w' sc vs st) Q) → ∀ {sc : Scope} {vs : Vars} {st : Sto} {R : Bool → Sto → Prop}, wT T cf e w sc vs st R → W2 (evT T cf e w' sc vs st) R
  | .UnaryOp .Not x u1_, u2_, u3_, u4_, u5_, u6_, u7_, u8_, h => t_not (wT_ok x (wE T cf x) (ev T cf x) (wE_ok x) h)
  | .BoolOp op es u1_, u2_, u3_, u4_, u5_, u6_, u7_, u8_, h => t_bool (wTs_ok op es h)
  | .UnaryOp .USub u1_ u2_, u3_, u4_, k, u5_, u6_, u7_, u8_, h => t_gen (w2_mono (k h) fun a s h => isB_e h)
  | .UnaryOp .UAdd u1_ u2_, u3_, u4_, k, u5_, u6_, u7_, u8_, h => t_gen (w2_mono (k h) fun a s h => isB_e h)
  | .UnaryOp .Invert u1_ u2_, u3_, u4_, k, u5_, u6_, u7_, u8_, h => t_gen (w2_mono (k h) fun a s h => isB_e h)
  | .NamedExpr u1_ u2_ u3_, u4_, u5_, k, u6_, u7_, u8_, u9_, h => t_gen (w2_mono (k h) fun a s h => isB_e h)
  | .BinOp u1_ u2_ u3_ u4_, u5_, u6_, k, u7_, u8_, u9_, u10_, h => t_gen (w2_mono (k h) fun a s h => isB_e h)
  | .Lambda u1_ u2_ u3_ u4_, u5_, u6_, k, u7_, u8_, u9_, u10_, h => t_gen (w2_mono (k h) fun a s h => isB_e h)
  | .Dict u1_ u2_ u3_, u4_, u5_, k, u6_, u7_, u8_, u9_, h => t_gen (w2_mono (k h) fun a s h => isB_e h)
  | .Set u1_ u2_ u3_, u4_, u5_, k, u6_, u7_, u8_, u9_, h => t_gen (w2_mono (k h) fun a s h => isB_e h)
  | .ListComp u1_ u2_ u3_ u4_, u5_, u6_, k, u7_, u8_, u9_, u10_, h => t_gen (w2_mono (k h) fun a s h => isB_e h)
  | .SetComp u1_ u2_ u3_ u4_, u5_, u6_, k, u7_, u8_, u9_, u10_, h => t_gen (w2_mono (k h) fun a s h => isB_e h)
  | .DictComp u1_ u2_ u3_ u4_ u5_, u6_, u7_, k, u8_, u9_, u10_, u11_, h => t_gen (w2_mono (k h) fun a s h => isB_e h)
  | .GeneratorExp u1_ u2_ u3_ u4_, u5_, u6_, k, u7_, u8_, u9_, u10_, h => t_gen (w2_mono (k h) fun a s h => isB_e h)
  | .Await u1_ u2_, u3_, u4_, k, u5_, u6_, u7_, u8_, h => t_gen (w2_mono (k h) fun a s h => isB_e h)
  | .Yield u1_ u2_, u3_, u4_, k, u5_, u6_, u7_, u8_, h => t_gen (w2_mono (k h) fun a s h => isB_e h)
  | .YieldFrom u1_ u2_, u3_, u4_, k, u5_, u6_, u7_, u8_, h => t_gen (w2_mono (k h) fun a s h => isB_e h)
  | .Compare u1_ u2_ u3_ u4_, u5_, u6_, k, u7_, u8_, u9_, u10_, h => t_gen (w2_mono (k h) fun a s h => isB_e h)
  | .Call u1_ u2_ u3_ u4_, u5_, u6_, k, u7_, u8_, u9_, u10_, h => t_gen (w2_mono (k h) fun a s h => isB_e h)
  | .FormattedValue u1_ u2_ u3_ u4_, u5_, u6_, k, u7_, u8_, u9_, u10_, h => t_gen (w2_mono (k h) fun a s h => isB_e h)
  | .JoinedStr u1_ u2_, u3_, u4_, k, u5_, u6_, u7_, u8_, h => t_gen (w2_mono (k h) fun a s h => isB_e h)
  | .Constant u1_ u2_ u3_, u4_, u5_, k, u6_, u7_, u8_, u9_, h => t_gen (w2_mono (k h) fun a s h => isB_e h)
  | .Attribute u1_ u2_ u3_, u4_, u5_, k, u6_, u7_, u8_, u9_, h => t_gen (w2_mono (k h) fun a s h => isB_e h)
  | .Subscript u1_ u2_ u3_, u4_, u5_, k, u6_, u7_, u8_, u9_, h => t_gen (w2_mono (k h) fun a s h => isB_e h)
  | .Starred u1_ u2_, u3_, u4_, k, u5_, u6_, u7_, u8_, h => t_gen (w2_mono (k h) fun a s h => isB_e h)
  | .Name u1_ u2_, u3_, u4_, k, u5_, u6_, u7_, u8_, h => t_gen (w2_mono (k h) fun a s h => isB_e h)
  | .List u1_ u2_, u3_, u4_, k, u5_, u6_, u7_, u8_, h => t_gen (w2_mono (k h) fun a s h => isB_e h)
  | .Tuple u1_ u2_ u3_, u4_, u5_, k, u6_, u7_, u8_, u9_, h => t_gen (w2_mono (k h) fun a s h => isB_e h)
  | .Slice u1_ u2_ u3_ u4_, u5_, u6_, k, u7_, u8_, u9_, u10_, h => t_gen (w2_mono (k h) fun a s h => isB_e h)
theorem wTs_ok : ∀ (op : BoolOp) (es : List Expr) {sc : Scope} {vs : Vars} {st : Sto} {R : Bool → Sto → Prop}, wTs T cf op es sc vs st R → W2 (evTs T cf op es sc vs st) R
  | .And, [], u1_, u2_, u3_, u4_, h => ts_and_nil h
  | .Or, [], u1_, u2_, u3_, u4_, h => ts_or_nil h
  | .And, e :: es, u1_, u2_, u3_, u4_, h => ts_and (w2_mono (wT_ok e (wE T cf e) (ev T cf e) (wE_ok e) h) fun b s h => ⟨fun c => wTs_ok .And es (h.out.1 c), h.out.2⟩)
  | .Or, e :: es, u1_, u2_, u3_, u4_, h => ts_or (w2_mono (wT_ok e (wE T cf e) (ev T cf e) (wE_ok e) h) fun b s h => ⟨h.out.1, fun c => wTs_ok .Or es (h.out.2 c)⟩)
end
noncomputable def wRet (T : Tab) (cf : CF) (sc : Scope) (vs : Vars) (st : Sto) (R : D → Vars → Sto → Prop) : Option Expr → Prop
  | some e => wE T cf e sc vs st fun d s => R d vs s
  | none => R .none vs st
noncomputable def wTup (ts : List Expr) (vs : Vars) (s : Sto) (N : Vars → Sto → Prop) (d : D) : Prop := match (tupD d).bind fun ds => setAll ts ds vs with
  | some vs' => N vs' s
  | none => False
noncomputable def wAsg (T : Tab) (cf : CF) (e : Expr) (sc : Scope) (vs : Vars) (st : Sto) (N : Vars → Sto → Prop) (P : Prop) : Expr → Prop
  | .Name x u1_ => cond (sc.names.lookup x == some .local || (sc.names.lookup x == some .cell && sc.names.all fun p => p.2 != .cell || p.1 == x)) (wE T cf e sc vs st fun d s => N (setV x d vs) s) False
  | .Tuple ts u1_ u2_ => cond (isComp e || !allNames sc ts || !distinct ts || !swapOk e) False (wE T cf e sc vs st fun d s => wTup ts vs s N d)
  | _ => P
noncomputable def PN (N : Vars → Sto → Prop) (R : D → Vars → Sto → Prop) : Fl → Vars → Sto → Prop := fun f v t => Then f (N v t) fun d => R d v t
/-- the same of a statement -/
noncomputable def wX (T : Tab) (cf : CF) (s : Stmt) (sc : Scope) (base : Nat) (vs : Vars) (st : Sto) (N : Vars → Sto → Prop) (R : D → Vars → Sto → Prop) : Prop := match s with
  | .Expr e u1_ => cond (isComp e) False (wE T cf e sc vs st fun d s => isN d (N vs s))
  | .Pass u1_ => N vs st
  | .Return o u1_ => wRet T cf sc vs st R o
  | .Assign tg e p => match tg with
    | [t] => wAsg T cf e sc vs st N (Leaf (W3 (ex T cf (.Assign [t] e p) sc base vs st) (PN N R))) t
    | _ => False
  | .If t b o u1_ => wT T cf t (wE T cf t) sc vs st fun c s => Leaf ((c = true → W3 (exs T cf b sc base vs s) (PN N R)) ∧ (c = false → W3 (exs T cf o sc base vs s) (PN N R)))
  | s => Leaf (W3 (ex T cf s sc base vs st) (PN N R))
theorem wTup_ok {e : Expr} {ts : List Expr} {a b : _} {p : Pos} {sc : Scope} {base : Nat} {vs : Vars} {st : Sto} {N : Vars → Sto → Prop} {R : D → Vars → Sto → Prop} (c : (isComp e || !allNames sc ts || !distinct ts || !swapOk e) = false) (h : W2 (ev T cf e sc vs st) fun d s => wTup ts vs s N d) :
    W3 (ex T cf (.Assign [.Tuple ts a b] e p) sc base vs st) (PN N R) := by
  refine x_tup c (w2_mono h fun d s h => ?_)
  unfold wTup at h
  cases q : (tupD d).bind fun ds => setAll ts ds vs with
  | none => rw [q] at h; exact h.elim
  | some v =>
    rw [q] at h
    obtain ⟨ds, q1, q2⟩ := bindO q
    exact ⟨ds, v, tupE q1, q2, h⟩
theorem wX_ok {s : Stmt} {sc : Scope} {base : Nat} {vs : Vars} {st : Sto} {N : Vars → Sto → Prop} {R : D → Vars → Sto → Prop} (h : wX T cf s sc base vs st N R) : W3 (ex T cf s sc base vs st) (PN N R) := by
  cases s with
  | Expr e p => exact x_expr (condF h).1 (w2_mono (wE_ok e (condF h).2) fun d s h => isN_e h)
  | Pass p => exact x_pass h
  | Return o p => cases o with
    | some e => exact x_ret (wE_ok e h)
    | none => exact x_ret0 h
  | If t b o p => exact x_if (w2_mono (wT_ok t (wE T cf t) (ev T cf t) (wE_ok t) h) fun c s h => h.out)
  | Assign tg e p => match tg, h with
    | [], h => exact h.elim
    | u1_ :: u2_ :: u3_, h => exact h.elim
    | [t], h =>
      cases t with
      | Name x xp => exact x_name (condT h).1 (wE_ok e (condT h).2)
      | Tuple ts a b => exact wTup_ok (condF h).1 (wE_ok e (condF h).2)
      | _ => exact Leaf.out h
  | _ => exact Leaf.out h
theorem x_run {s : Stmt} {rest : List Stmt} {sc : Scope} {base : Nat} {vs : Vars} {st : Sto} {X : Fl → Vars → Sto → Prop} (hh : none = T.hint s.pos.line) (h : wX T cf s sc base vs st (fun v t => Leaf (W3 (exs T cf rest sc base v t) X)) fun d v t => Leaf (X (.ret d) v t)) : W3 (exs T cf (s :: rest) sc base vs st) X :=
  x_cons hh.symm (w3_mono (wX_ok h) fun f _ _ h => by cases f; exact then_next h.out; exact then_ret h.out)
theorem x_open {fn : Fn} {ps : List Str} {b : List Stmt} {sc : Scope} {k : Bool} {base : Nat} {vs : Vars} {st : Sto} {X : Fl → Vars → Sto → Prop} (h0 : fn = ⟨ps, b, sc, k⟩) (h : W3 (exs T cf b sc base vs st) X) : W3 (exs T cf fn.body fn.scope base vs st) X := by subst h0; exact h
noncomputable def simple : Stmt → Bool
  | .Expr u1_ u2_ => true
  | .Return u1_ u2_ => true
  | .If u1_ u2_ u3_ u4_ => true
  | .Assign [.Name u1_ u2_] u3_ u4_ => true
  | .Assign [.Tuple u1_ u2_ u3_] u4_ u5_ => true
  | _ => false
theorem x_one {s : Stmt} {sc : Scope} {base : Nat} {vs : Vars} {st : Sto} {X : Fl → Vars → Sto → Prop} (hs : true = simple s) (h : wX T cf s sc base vs st (fun v t => Leaf (X .next v t)) fun d v t => Leaf (X (.ret d) v t)) : W3 (ex T cf s sc base vs st) X :=
  w3_mono (wX_ok h) fun f _ _ h => by cases f; exact h.out; exact h.out
theorem e_run {e : Expr} {sc : Scope} {vs : Vars} {st : Sto} {Q : D → Sto → Prop} (h : wE T cf e sc vs st fun d s => Leaf (Q d s)) : W2 (ev T cf e sc vs st) Q := w2_mono (wE_ok e h) fun _ _ h => h.out
theorem t_run {e : Expr} {sc : Scope} {vs : Vars} {st : Sto} {R : Bool → Sto → Prop} (h : wT T cf e (wE T cf e) sc vs st R) : W2 (evT T cf e (ev T cf e) sc vs st) R := wT_ok e (wE T cf e) (ev T cf e) (wE_ok e) h
theorem t_runL {e : Expr} {sc : Scope} {vs : Vars} {st : Sto} {R : Bool → Sto → Prop} (h : wT T cf e (wE T cf e) sc vs st fun b s => Leaf (R b s)) : W2 (evT T cf e (ev T cf e) sc vs st) R := w2_mono (t_run h) fun _ _ h => h.out
theorem ts_run {op : BoolOp} {es : List Expr} {sc : Scope} {vs : Vars} {st : Sto} {R : Bool → Sto → Prop} (h : wTs T cf op es sc vs st fun d s => Leaf (R d s)) : W2 (evTs T cf op es sc vs st) R := w2_mono (wTs_ok op es h) fun _ _ h => h.out
theorem es_run {es : List Expr} {sc : Scope} {vs : Vars} {st : Sto} {R : List D → Sto → Prop} (h : wEs T cf es sc vs st fun d s => Leaf (R d s)) : W2 (evs T cf es sc vs st) R := w2_mono (wEs_ok es h) fun _ _ h => h.out
theorem new_l {l : List D} {s : Sto} {Q : D → Sto → Prop} (h : true = Nat.ble l.length 1000) (q : Q (.ptr s.length) (s ++ [.lst l])) : NewL l s Q := ⟨Nat.le_of_ble_eq_true h.symm, q⟩
noncomputable def quiet (T : Tab) (p : Pos) : Bool := (T.hint p.line).isNone
theorem quiet_e {p : Pos} (h : quiet T p = true) : T.hint p.line = none := Option.isNone_iff_eq_none.mp h
section
variable {p xp : Pos} {e : Expr} {rest : List Stmt} {sc : Scope} {base : Nat} {vs : Vars} {st t : Sto} {d : D} {X : Fl → Vars → Sto → Prop}
theorem ev_of (h1 : ∀ N : D → Sto → Prop, N d t → wE T cf e sc vs st N) : ev T cf e sc vs st = some (d, t) := by
  obtain ⟨d', t', h, rfl, rfl⟩ := wE_ok e (h1 (fun d' t' => d' = d ∧ t' = t) ⟨rfl, rfl⟩); exact h
/-- a name set to what the expression gives -/
theorem x_asg {x : Str} (ok : true = (quiet T p && (sc.names.lookup x == some .local || (sc.names.lookup x == some .cell && sc.names.all fun p => p.2 != .cell || p.1 == x)))) (h1 : ∀ N : D → Sto → Prop, N d t → wE T cf e sc vs st N)
    (h2 : W3 (exs T cf rest sc base (setV x d vs) t) X) : W3 (exs T cf (.Assign [.Name x xp] e p :: rest) sc base vs st) X :=
  x_cons (quiet_e (and1 ok.symm)) (x_name (and2 ok.symm) (w2_of (ev_of h1) (then_next h2)))
theorem x_asgT {ts : List Expr} {k : Nat} {ds : List D} {vs' : Vars} (ok : true = (quiet T p && !(isComp e || !allNames sc ts || !distinct ts || !swapOk e))) (h1 : ∀ N : D → Sto → Prop, N (.tup ds) t → wE T cf e sc vs st N)
    (hv : setAll ts ds vs = some vs') (h2 : W3 (exs T cf rest sc base vs' t) X) : W3 (exs T cf (.Assign [.Tuple ts k xp] e p :: rest) sc base vs st) X :=
  x_cons (quiet_e (and1 ok.symm)) (x_tup (Bool.not_eq_true' _ ▸ and2 ok.symm) (w2_of (ev_of h1) ⟨ds, vs', rfl, hv, then_next h2⟩))
theorem x_do (ok : true = (quiet T p && !isComp e)) (h1 : ∀ N : D → Sto → Prop, N .none t → wE T cf e sc vs st N) (h2 : W3 (exs T cf rest sc base vs t) X) : W3 (exs T cf (.Expr e p :: rest) sc base vs st) X :=
  x_cons (quiet_e (and1 ok.symm)) (x_expr (Bool.not_eq_true' _ ▸ and2 ok.symm) (w2_of (ev_of h1) ⟨rfl, then_next h2⟩))
theorem x_give (ok : true = quiet T p) (h1 : ∀ N : D → Sto → Prop, N d t → wE T cf e sc vs st N) (h2 : X (.ret d) vs t) : W3 (exs T cf (.Return (some e) p :: rest) sc base vs st) X :=
  x_cons (quiet_e ok.symm) (x_ret (w2_of (ev_of h1) (then_ret h2)))
theorem exs_app {rest : List Stmt} {sc : Scope} {base : Nat} {X : Fl → Vars → Sto → Prop} : ∀ (b : List Stmt) {vs : Vars} {st : Sto}, W3 (exs T cf (b ++ rest) sc base vs st) X → W3 (exs T cf b sc base vs st) fun f v t => Then f (W3 (exs T cf rest sc base v t) X) fun d => X (.ret d) v t
  | [], u1_, u2_, h => x_nil (then_next h)
  | s :: b, vs, st, xx0 => by
    obtain ⟨f, v, t, e, h⟩ := xx0
    obtain ⟨⟨f1, v1, t1⟩, e1, e⟩ := bindO e
    cases f1 with
    | ret d => cases e; exact w3_of (obind e1) (then_ret h)
    | next =>
      obtain ⟨⟨v2, t2⟩, e2, e⟩ := bindO e
      exact w3_eq ((obind e1).trans (obind e2)) (exs_app b ⟨f, v, t, e, h⟩)
theorem x_cat {s : Stmt} {b : List Stmt} (h : W3 (exs T cf (s :: (b ++ rest)) sc base vs st) X) : W3 (exs T cf (s :: b ++ rest) sc base vs st) X := h
theorem x_cat0 (h : W3 (exs T cf rest sc base vs st) X) : W3 (exs T cf ([] ++ rest) sc base vs st) X := h
theorem x_ifF {c : Bool} {tt : Expr} {b o : List Stmt} (ok : true = quiet T p) (h1 : ∀ N : Bool → Sto → Prop, N c t → wT T cf tt (wE T cf tt) sc vs st N)
    (h2 : (c = true → W3 (exs T cf (b ++ rest) sc base vs t) X) ∧ (c = false → W3 (exs T cf (o ++ rest) sc base vs t) X)) : W3 (exs T cf (.If tt b o p :: rest) sc base vs st) X :=
  x_cons (quiet_e ok.symm) (x_if (w2_mono (t_run (h1 (fun c' t' => c' = c ∧ t' = t) ⟨rfl, rfl⟩)) fun c' t' q => by
    obtain ⟨rfl, rfl⟩ := q
    exact ⟨fun q => exs_app b (h2.1 q), fun q => exs_app o (h2.2 q)⟩))
end
end
end Og
end
section
set_option tactic.hygienic false
set_option genSizeOf false
set_option genInjectivity false
set_option maxHeartbeats 4000000
namespace Og
open PySem
/-- a call that leaves the store as it was -/
theorem cp {h n f : Nat} {fn : Fn} {args : List D} {st : Sto} {d' : D} {v0 : Vars} (hf : T.fn f = some fn) (hk : fn.keep = false) (hl : fn.params.length = args.length) (hv : fn.params.zip args = v0) (hn : h < n) (hp : npS st = true)
    (run : ∀ m, h ≤ m → W3 (exs T (callF T m) fn.body fn.scope st.length v0 st) fun fl vs s => ∃ g, s = st ++ g ∧ freeze (st ++ g) st.length (retD fl) = some d') :
    callF T n f args st = some (d', st) := by
  obtain ⟨m, rfl⟩ : ∃ m, n = m + 1 := ⟨n - 1, by first | lia | omega⟩
  obtain ⟨fl, vs, s, e, g, rfl, hz⟩ := run m (by first | lia | omega)
  exact call_pure hf hk hl hv e hz hp
/-- a call that changes things in place -/
theorem cs {h n f : Nat} {fn : Fn} {args : List D} {st st' : Sto} {d : D} {v0 : Vars} (hf : T.fn f = some fn) (hk : fn.keep = false) (hl : fn.params.length = args.length) (hv : fn.params.zip args = v0) (hn : h < n) (hs : st'.length = st.length) (hp : npS st' = true) (hd : np d = true)
    (run : ∀ m, h ≤ m → W3 (exs T (callF T m) fn.body fn.scope st.length v0 st) fun fl vs s => ∃ g, s = st' ++ g ∧ retD fl = d) :
    callF T n f args st = some (d, st') := by
  obtain ⟨m, rfl⟩ : ∃ m, n = m + 1 := ⟨n - 1, by first | lia | omega⟩
  obtain ⟨fl, vs, s, e, g, rfl, rfl⟩ := run m (by first | lia | omega)
  exact call_setg hf hk hl hv e hd hs hp
theorem fin_np {st : Sto} {fl : Fl} {d : D} (h0 : np d = true) (h : retD fl = d) : ∃ g, st = st ++ g ∧ freeze (st ++ g) st.length (retD fl) = some d := ⟨[], by simp, by rw [h]; exact freeze_np h0⟩
theorem fn69 : T.fn 69 = some (FN 69) := by kernel_rfl
theorem fn76 : T.fn 76 = some (FN 76) := by kernel_rfl
theorem fn81 : T.fn 81 = some (FN 81) := by kernel_rfl
theorem fn102 : T.fn 102 = some (FN 102) := by kernel_rfl
theorem fn123 : T.fn 123 = some (FN 123) := by kernel_rfl
theorem fn128 : T.fn 128 = some (FN 128) := by kernel_rfl
theorem fn135 : T.fn 135 = some (FN 135) := by kernel_rfl
theorem fn142 : T.fn 142 = some (FN 142) := by kernel_rfl
theorem fn147 : T.fn 147 = some (FN 147) := by kernel_rfl
theorem fn168 : T.fn 168 = some (FN 168) := by kernel_rfl
theorem fn259 : T.fn 259 = some (FN 259) := by kernel_rfl
theorem fn266 : T.fn 266 = some (FN 266) := by kernel_rfl
theorem fn278 : T.fn 278 = some (FN 278) := by kernel_rfl
theorem fn283 : T.fn 283 = some (FN 283) := by kernel_rfl
theorem fn290 : T.fn 290 = some (FN 290) := by kernel_rfl
theorem fn295 : T.fn 295 = some (FN 295) := by kernel_rfl
theorem fn302 : T.fn 302 = some (FN 302) := by kernel_rfl
theorem fn307 : T.fn 307 = some (FN 307) := by kernel_rfl
theorem fn314 : T.fn 314 = some (FN 314) := by kernel_rfl
theorem fn321 : T.fn 321 = some (FN 321) := by kernel_rfl
theorem fn328 : T.fn 328 = some (FN 328) := by kernel_rfl
theorem fn335 : T.fn 335 = some (FN 335) := by kernel_rfl
theorem fn342 : T.fn 342 = some (FN 342) := by kernel_rfl
theorem fn349 : T.fn 349 = some (FN 349) := by kernel_rfl
theorem fn356 : T.fn 356 = some (FN 356) := by kernel_rfl
theorem fn363 : T.fn 363 = some (FN 363) := by kernel_rfl
/-- an Order's fields -/
structure Ord where
  seen : Int
  plain : Bool
  point : Str
  lead : Int
  trail : Int
  nines : Int
  zero : Str
  zeros : Int
  floats : Int
  behind : Int
  late : Bool
  sign : Str
  money : Str
  last : Str
  over : Bool
  ins : Bool
def ordNs : List Str := ["seen", "is_plain", "point", "lead", "trail", "nines", "zero", "zeros", "floats", "behind", "is_late", "sign", "money", "last", "is_over", "is_inserted"].map Str.ofString
def Ord.ds (o : Ord) : List D := [.int o.seen, .bool o.plain, .str o.point, .int o.lead, .int o.trail, .int o.nines, .str o.zero, .int o.zeros, .int o.floats, .int o.behind, .bool o.late, .str o.sign, .str o.money, .str o.last, .bool o.over, .bool o.ins]
def Ord.ob (o : Ord) : Ob := .inst 269 ordNs o.ds
def sigNs : List Str := ["sign", "count", "at"].map Str.ofString
def tokD (s : Str) (c a : Int) : D := .inst 112 sigNs [.str s, .int c, .int a]
/-- a method on an Order at its place -/
theorem co {h n f i : Nat} {fn : Fn} {args : List D} {t : Sto} {o o' : Ord} {d : D} {v0 : Vars} (hf : T.fn f = some fn) (hk : fn.keep = false) (hl : fn.params.length = args.length) (hv : fn.params.zip args = v0) (hn : h < n) (hi : i < t.length) (hp : npS t = true) (hd : np d = true)
    (run : ∀ m, h ≤ m → W3 (exs T (callF T m) fn.body fn.scope (t.set i o.ob).length v0 (t.set i o.ob)) fun fl _ s => retD fl = d ∧ s = t.set i o'.ob) :
    callF T n f args (t.set i o.ob) = some (d, t.set i o'.ob) := by
  refine cs hf hk hl hv hn (by simp) (npS_set hp rfl) hd fun m hm => w3_mono (run m hm) ?_
  rintro fl v s ⟨rfl, rfl⟩
  exact ⟨[], by simp, rfl⟩
end Og
end
section
set_option tactic.hygienic false
namespace Og
open PySem
abbrev B (N : Int) : Ob := .lst [.int N]
/-- the store while an Order is at work -/
abbrev OS (N : Int) (o : Ord) : Sto := [B N, .lst [], o.ob]
noncomputable def TakeOk (o : Ord) (s : Str) (c : Int) (o' : Ord) : Prop := ∀ N a : Int, callF T 10 252 [.ptr 2, tokD s c a] (OS N o) = some (.none, OS N o')
section
variable {c seen lead trail nines zeros floats behind : Int} {plain ins : Bool} {zero sign money last : Str}
theorem tkS : TakeOk ⟨0, false, Str.ofString "", lead, trail, nines, zero, zeros, floats, behind, false, sign, money, last, false, ins⟩ (Str.ofString "S") c ⟨0 + 1, true, Str.ofString "", lead, trail, nines, zero, zeros, floats, behind, false, sign, money, Str.ofString "S", false, ins⟩ :=
  fun N a => by kernel_rfl
theorem tk9 {pt : Str} (hp : pt = Str.ofString "" ∨ pt = Str.ofString "V" ∨ pt = Str.ofString ".") : ∃ b, TakeOk ⟨seen, plain, pt, lead, 0, nines, zero, zeros, floats, behind, false, sign, money, last, false, ins⟩ (Str.ofString "9") c ⟨seen + 1, plain, pt, lead, 0, nines + c, zero, zeros, floats, b, false, sign, money, Str.ofString "9", false, ins⟩ := by
  rcases hp with rfl | rfl | rfl
  · exact ⟨behind, fun N a => by cases plain <;> kernel_rfl⟩
  · exact ⟨behind + c, fun N a => by cases plain <;> kernel_rfl⟩
  · exact ⟨behind + c, fun N a => by cases plain <;> kernel_rfl⟩
theorem tkZ {s : Str} (hs : s = Str.ofString "Z" ∨ s = Str.ofString "*") (hz : zero = Str.ofString "" ∨ zero = s) : TakeOk ⟨seen, false, Str.ofString "", lead, 0, 0, zero, zeros, 0, behind, false, sign, money, last, false, ins⟩ s c ⟨seen + 1, false, Str.ofString "", lead, 0, 0, s, zeros + c, 0, behind, false, sign, money, s, false, ins⟩ := by
  rcases hs with rfl | rfl <;> rcases hz with rfl | rfl <;> exact fun N a => by kernel_rfl
theorem tkV : TakeOk ⟨seen, plain, Str.ofString "", 0, 0, nines, zero, zeros, floats, behind, false, sign, money, last, false, ins⟩ (Str.ofString "V") c ⟨seen + 1, plain, Str.ofString "V", 0, 0, nines, zero, zeros, floats, behind, false, sign, money, Str.ofString "V", false, ins⟩ :=
  fun N a => by cases plain <;> kernel_rfl
theorem tkPt : TakeOk ⟨seen, false, Str.ofString "", 0, 0, nines, zero, zeros, floats, behind, false, sign, money, last, false, ins⟩ (Str.ofString ".") c ⟨seen + 1, false, Str.ofString ".", 0, 0, nines, zero, zeros, floats, behind, false, sign, money, Str.ofString ".", false, ins⟩ :=
  fun N a => by kernel_rfl
theorem tkCo : TakeOk ⟨seen, false, Str.ofString "", 0, 0, nines, zero, zeros, floats, behind, false, sign, money, last, false, ins⟩ (Str.ofString ",") c ⟨seen + 1, false, Str.ofString "", 0, 0, nines, zero, zeros, floats, behind, false, sign, money, Str.ofString ",", false, true⟩ :=
  fun N a => by kernel_rfl
theorem tkPa {n : Nat} (h1 : 1 ≤ n) (h2 : n ≤ 9) : TakeOk ⟨seen, plain, Str.ofString "", 0, trail, (n : Int), zero, 0, 0, behind, false, sign, money, last, false, ins⟩ (Str.ofString "P") c ⟨seen + 1, plain, Str.ofString "", 0, trail + c, (n : Int), zero, 0, 0, behind, false, sign, money, Str.ofString "P", false, ins⟩ := by
  have : n = 1 ∨ n = 2 ∨ n = 3 ∨ n = 4 ∨ n = 5 ∨ n = 6 ∨ n = 7 ∨ n = 8 ∨ n = 9 := by first | lia | omega
  rcases this with rfl | rfl | rfl | rfl | rfl | rfl | rfl | rfl | rfl <;> exact fun N a => by cases plain <;> kernel_rfl
theorem tkPb : TakeOk ⟨seen, plain, Str.ofString "V", lead, trail, 0, zero, 0, 0, behind, false, sign, money, last, false, false⟩ (Str.ofString "P") c ⟨seen + 1, plain, Str.ofString "V", lead + c, trail, 0, zero, 0, 0, behind, false, sign, money, Str.ofString "P", false, false⟩ :=
  fun N a => by cases plain <;> kernel_rfl
theorem tkMa {s : Str} (hs : s = Str.ofString "+" ∨ s = Str.ofString "-") : TakeOk ⟨0, false, Str.ofString "", 0, 0, 0, zero, 0, floats, behind, false, sign, Str.ofString "", last, false, ins⟩ s c ⟨0 + 1, false, Str.ofString "", 0, 0, 0, zero, 0, floats + (c - 1), behind, false, s, Str.ofString "", s, false, ins⟩ := by
  rcases hs with rfl | rfl <;> exact fun N a => by kernel_rfl
theorem tkMb {s : Str} {j : Nat} (hs : s = Str.ofString "+" ∨ s = Str.ofString "-") : TakeOk ⟨((j + 1 : Nat) : Int), false, Str.ofString "", 0, 0, 0, zero, 0, floats, behind, false, s, Str.ofString "", last, false, ins⟩ s c ⟨((j + 1 : Nat) : Int) + 1, false, Str.ofString "", 0, 0, 0, zero, 0, floats + c, behind, false, s, Str.ofString "", s, false, ins⟩ := by
  rcases hs with rfl | rfl <;> exact fun N a => by kernel_rfl
theorem tkDa : TakeOk ⟨0, false, Str.ofString "", 0, 0, 0, zero, 0, floats, behind, false, sign, Str.ofString "", last, false, ins⟩ (Str.ofString "$") c ⟨0 + 1, false, Str.ofString "", 0, 0, 0, zero, 0, floats + (c - 1), behind, false, sign, Str.ofString "$", Str.ofString "$", false, ins⟩ :=
  fun N a => by kernel_rfl
theorem tkDb : TakeOk ⟨seen, false, Str.ofString "", 0, 0, 0, zero, 0, floats, behind, false, sign, Str.ofString "$", last, false, ins⟩ (Str.ofString "$") c ⟨seen + 1, false, Str.ofString "", 0, 0, 0, zero, 0, floats + c, behind, false, sign, Str.ofString "$", Str.ofString "$", false, ins⟩ :=
  fun N a => by kernel_rfl
theorem tkE {s pt : Str} {n z j : Nat} {f : Int} (hs : s = Str.ofString "CR" ∨ s = Str.ofString "DB" ∨ s = Str.ofString "+" ∨ s = Str.ofString "-") (hz : z ≤ 6) (hf : f = 0 ∨ f = 2) :
    TakeOk ⟨((j + 1 : Nat) : Int), false, pt, 0, 0, ((n + 1 : Nat) : Int), zero, (z : Int), f, behind, false, Str.ofString "", money, last, false, ins⟩ s 1 ⟨((j + 1 : Nat) : Int) + 1, false, pt, 0, 0, ((n + 1 : Nat) : Int), zero, (z : Int), f, behind, false, s, money, s, true, ins⟩ := by
  have : z = 0 ∨ z = 1 ∨ z = 2 ∨ z = 3 ∨ z = 4 ∨ z = 5 ∨ z = 6 := by first | lia | omega
  rcases hs with rfl | rfl | rfl | rfl <;> rcases hf with rfl | rfl <;> rcases this with rfl | rfl | rfl | rfl | rfl | rfl | rfl <;> exact fun N a => by kernel_rfl
end
noncomputable def ord0 : Ord := ⟨0, false, Str.ofString "", 0, 0, 0, Str.ofString "", 0, 0, 0, false, Str.ofString "", Str.ofString "", Str.ofString "", false, false⟩
end Og
end
section
set_option tactic.hygienic false
namespace Og
open PySem
/- the same rules with the postcondition held as a letter -/
theorem cpJ {n f : Nat} {fn : Fn} {args : List D} {st : Sto} {d' : D} {v0 : Vars} (hf : T.fn f = some fn) (hk : fn.keep = false) (hl : fn.params.length = args.length) (hv : fn.params.zip args = v0) (hp : npS st = true)
    (run : ∀ X : Fl → Vars → Sto → Prop, (∀ fl vs s g, s = st ++ g → freeze s st.length (retD fl) = some d' → X fl vs s) → W3 (exs T (callF T n) fn.body fn.scope st.length v0 st) X) :
    callF T (n + 1) f args st = some (d', st) := by
  obtain ⟨fl, vs, s, e, g, rfl, hz⟩ := run (fun fl vs s => ∃ g, s = st ++ g ∧ freeze s st.length (retD fl) = some d') (fun _ _ _ g h1 h2 => ⟨g, h1, h2⟩)
  exact call_pure hf hk hl hv e hz hp
theorem cpJn {h n f : Nat} {fn : Fn} {args : List D} {st : Sto} {d' : D} {v0 : Vars} (hf : T.fn f = some fn) (hk : fn.keep = false) (hl : fn.params.length = args.length) (hv : fn.params.zip args = v0) (hn : h < n) (hp : npS st = true)
    (run : ∀ m, h ≤ m → ∀ X : Fl → Vars → Sto → Prop, (∀ fl vs s g, s = st ++ g → freeze s st.length (retD fl) = some d' → X fl vs s) → W3 (exs T (callF T m) fn.body fn.scope st.length v0 st) X) :
    callF T n f args st = some (d', st) := by
  obtain ⟨m, rfl⟩ : ∃ m, n = m + 1 := ⟨n - 1, by first | lia | omega⟩
  exact cpJ hf hk hl hv hp (run m (by first | lia | omega))
theorem cxJ {h n f : Nat} {fn : Fn} {args : List D} {st : Sto} {v0 : Vars} {R : D → Sto → Prop} (hf : T.fn f = some fn) (hk : fn.keep = false) (hl : fn.params.length = args.length) (hv : fn.params.zip args = v0) (hn : h < n)
    (run : ∀ m, h ≤ m → ∀ X : Fl → Vars → Sto → Prop, (∀ fl vs s d s', freeze s st.length (retD fl) = some d → fzSto s st.length (s.take st.length) = some s' → R d s' → X fl vs s) → W3 (exs T (callF T m) fn.body fn.scope st.length v0 st) X) :
    W2 (callF T n f args st) R := by
  obtain ⟨m, rfl⟩ : ∃ m, n = m + 1 := ⟨n - 1, by first | lia | omega⟩
  obtain ⟨fl, vs, s, e, d, s', e1, e2, h⟩ := run m (by first | lia | omega) (fun fl vs s => ∃ d s', freeze s st.length (retD fl) = some d ∧ fzSto s st.length (s.take st.length) = some s' ∧ R d s') (fun _ _ _ d s' h1 h2 h3 => ⟨d, s', h1, h2, h3⟩)
  exact w2_of (callF_eq hf hk hl hv e e1 e2) h
theorem x_cutJ {T : Tab} {cf : CF} {sc : Scope} {vs : Vars} {st : Sto} {base : Nat} {s : Stmt} {rest : List Stmt} {X : Fl → Vars → Sto → Prop} (I : Vars → Sto → Prop) (hh : T.hint s.pos.line = none)
    (h1 : ∀ J : Fl → Vars → Sto → Prop, (∀ v t, I v t → J .next v t) → W3 (ex T cf s sc base vs st) J) (h2 : ∀ v t, I v t → W3 (exs T cf rest sc base v t) X) : W3 (exs T cf (s :: rest) sc base vs st) X := by
  refine x_cons hh (w3_mono (h1 (fun f v t => f = .next ∧ I v t) fun v t h => ⟨rfl, h⟩) ?_)
  rintro f v t ⟨rfl, h⟩
  exact then_next (h2 v t h)
theorem forL_indJ {t : Expr} {body : Vars → Sto → Xr} {X : Fl → Vars → Sto → Prop} (I : List D → Vars → Sto → Prop) (h0 : ∀ vs st, I [] vs st → X .next vs st)
    (hs : ∀ d ds vs st, I (d :: ds) vs st → ∀ J : Fl → Vars → Sto → Prop, (∀ v s, I ds v s → J .next v s) → W1 (bindT t d vs) fun vs1 => W3 (body vs1 st) J) (ds : List D) (vs : Vars) (st : Sto) (h : I ds vs st) : W3 (forL t body ds vs st) X := by
  refine forL_ind I h0 (fun d ds vs st hi => ?_) ds vs st h
  obtain ⟨v1, e, f, v, s, e2, rfl, h⟩ := hs d ds vs st hi (fun f v s => f = .next ∧ I ds v s) fun v s h => ⟨rfl, h⟩
  exact ⟨v1, e, .next, v, s, e2, then_next h⟩
theorem whileL_indJ {test : Vars → Sto → Option (Bool × Sto)} {body : Vars → Sto → Xr} {X : Fl → Vars → Sto → Prop} (I : Nat → Vars → Sto → Prop)
    (hs : ∀ n vs st, I n vs st → ∀ J : Fl → Vars → Sto → Prop, (∀ m v s, n = m + 1 → I m v s → J .next v s) → W2 (test vs st) fun c s => (c = true → n ≠ 0 ∧ W3 (body vs s) J) ∧ (c = false → X .next vs s)) :
    ∀ n k vs st, n < k → I n vs st → W3 (whileL test body k vs st) X := by
  refine whileL_ind I fun n vs st hi => ?_
  obtain ⟨c, s, e, h1, h2⟩ := hs n vs st hi (fun f v s => f = .next ∧ ∃ m, n = m + 1 ∧ I m v s) fun m v s e h => ⟨rfl, m, e, h⟩
  refine ⟨c, s, e, fun hc => ?_, h2⟩
  obtain ⟨hn, f, v, s2, e2, rfl, m, rfl, h⟩ := h1 hc
  exact ⟨m, rfl, .next, v, s2, e2, then_next h⟩
end Og
end
section
set_option tactic.hygienic false
set_option genSizeOf false
set_option maxHeartbeats 4000000
namespace Og
open PySem PySem.Builtin PySem.Builtin.Str PySem.StrLaws
noncomputable def tx (l : List Nat) : PySem.Str := ⟨l.toArray⟩
theorem tx_len (l : List Nat) : (tx l).length = l.length := by simp [tx, PySem.Str.length]
theorem tx_inj {a b : List Nat} (h : tx a = tx b) : a = b := by
  have := congrArg (fun s : PySem.Str => s.cps.toList) h
  simpa [tx] using this
theorem tx_beq (a b : List Nat) : (tx a == tx b) = (a == b) := by
  by_cases h : a = b
  · subst h; simp
  · have h2 : tx a ≠ tx b := fun q => h (tx_inj q)
    rw [beq_eq_false_iff_ne.mpr h, beq_eq_false_iff_ne.mpr h2]
theorem tx_add (a b : List Nat) : tx a ++ tx b = tx (a ++ b) := by
  show (⟨a.toArray ++ b.toArray⟩ : PySem.Str) = ⟨(a ++ b).toArray⟩
  simp
theorem of_tx (s : PySem.Str) : s = tx s.cps.toList := by
  obtain ⟨⟨l⟩⟩ := s; rfl
theorem cl_int (a n : Nat) : max (0 : Int) (min (a : Int) (n : Int)) = ((min a n : Nat) : Int) := by first | lia | omega
theorem cl_mid {p q n : Nat} (h : p - q = n) (hp : p ≤ n) (hq : q ≤ n) : q = 0 := by first | lia | omega
theorem not_neg (a : Nat) : ¬ ((a : Int) < 0) := Int.not_lt.mpr (Int.natCast_nonneg a)
theorem cl_idx (a b n : Nat) : strSliceIndices (some (a : Int)) (some (b : Int)) 1 n = strSliceIndices (some ((min a n : Nat) : Int)) (some ((min b n : Nat) : Int)) 1 n := by
  simp only [strSliceIndices, not_neg, if_false, show ((1 : Int) > 0) = True from by simp, if_true, cl_int, Nat.min_assoc, Nat.min_self]
theorem cl_take (l : List Nat) (a b : Nat) : (l.drop (min a l.length)).take (min b l.length - min a l.length) = (l.drop a).take (b - a) := by
  rcases Nat.le_total a l.length with h | h
  · rw [Nat.min_eq_left h]
    rcases Nat.le_total b l.length with k | k
    · rw [Nat.min_eq_left k]
    · rw [Nat.min_eq_right k, List.take_of_length_le (by rw [List.length_drop]; exact Nat.le_refl _), List.take_of_length_le (by rw [List.length_drop]; exact Nat.sub_le_sub_right k a)]
  · rw [Nat.min_eq_right h, List.drop_of_length_le h, List.drop_of_length_le (Nat.le_refl _), List.take_nil, List.take_nil]
set_option tactic.hygienic true in
theorem slice_tx (l : List Nat) {a b : Nat} (hab : a ≤ b) : Txt.slice (tx l) (some (a : Int)) (some (b : Int)) = tx ((l.drop a).take (b - a)) := by
  have hl : (tx l).length = l.length := tx_len l
  have hm : min a l.length ≤ min b l.length := Nat.le_min.mpr ⟨Nat.le_trans (Nat.min_le_left _ _) hab, Nat.min_le_right _ _⟩
  have hb : min b l.length ≤ (tx l).length := by rw [hl]; exact Nat.min_le_right _ _
  have hf := sliced_plain (tx l) (a := min a l.length) (b := min b l.length) hm hb
  unfold Txt.slice
  rw [cl_idx, hl]
  rw [hl] at hf
  split
  · rename_i hc
    have hc := eq_of_beq hc
    rw [strSliceIndices_plain hm (Nat.min_le_right _ _)] at hc
    simp only [List.length_map, List.length_range] at hc
    have hz := cl_mid hc (Nat.min_le_right _ _) (Nat.min_le_right _ _)
    rw [← cl_take l a b, hc, hz, List.drop_zero, List.take_length]
  · rw [hf]; exact congrArg tx (cl_take l a b)
theorem idx_tx (l : List Nat) {a : Nat} (h : a < l.length) : Txt.charAt (tx l) (a : Int) = some l[a] := by
  unfold Txt.charAt
  have h1 : ¬ ((a : Int) < 0) := by first | lia | omega
  have h2 : (decide (0 ≤ (a : Int)) && decide ((a : Int) < (l.length : Nat))) = true := by simp; first | lia | omega
  simp only [seqIndex?, tx_len, h1, if_false, h2, if_true, Option.bind_some]
  simp [tx, h]
theorem item_tx {pre r : List Nat} {c : Nat} : Txt.item (tx (pre ++ c :: r)) (pre.length : Int) = tx [c] ∧ (Txt.charAt (tx (pre ++ c :: r)) (pre.length : Int)).isSome = true := by
  have h : pre.length < (pre ++ c :: r).length := by simp
  have e := idx_tx _ h
  have e2 : (pre ++ c :: r)[pre.length] = c := by simp
  rw [e2] at e
  refine ⟨?_, by rw [e]; rfl⟩
  unfold Txt.item
  rw [e]; rfl
theorem find_tx {pre ds r : List Nat} {c : Nat} (h : c ∉ ds) : Txt.find3 (tx (pre ++ (ds ++ c :: r))) (tx [c]) (pre.length : Int) = (pre.length : Int) + ds.length := by
  have hf : fromIndex (tx (pre ++ (ds ++ c :: r))).length (pre.length : Int) = pre.length := by
    unfold fromIndex
    rw [tx_len]
    simp only [List.length_append, List.length_cons]
    first | first | lia | omega | (split <;> first | lia | omega) | (simp; first | lia | omega)
  have hl : (tx (pre ++ (ds ++ c :: r))).length = pre.length + (ds.length + (r.length + 1)) := by rw [tx_len]; simp
  rcases find3_spec (tx (pre ++ (ds ++ c :: r))) c (pre.length : Int) with ⟨-, h2⟩ | ⟨v, h1, h2⟩
  · exfalso
    refine h2 (pre.length + ds.length) (by rw [hf]; first | lia | omega) (by rw [hl]; first | lia | omega) ?_
    simp [tx]
  · obtain ⟨h3, h4, h5, h6⟩ := h2
    rw [hf] at h3
    have hd : ∀ k, (tx (pre ++ (ds ++ c :: r))).cps.getD (pre.length + k) 0 = (ds ++ c :: r).getD k 0 := by
      intro k
      simp [tx, List.getD, Array.getD_eq_getD_getElem?, List.getElem?_append_right]
    have hv : v = pre.length + ds.length := by
      rcases Nat.lt_trichotomy v (pre.length + ds.length) with q | q | q
      · exfalso
        obtain ⟨k, rfl⟩ : ∃ k, v = pre.length + k := ⟨v - pre.length, by first | lia | omega⟩
        rw [hd] at h5
        have hk : k < ds.length := by first | lia | omega
        have : (ds ++ c :: r).getD k 0 = ds[k] := by rw [List.getD_eq_getElem?_getD, List.getElem?_append_left hk]; simp [hk]
        rw [this] at h5
        exact h (h5 ▸ List.getElem_mem hk)
      · exact q
      · exfalso
        refine h6 (pre.length + ds.length) (by rw [hf]; first | lia | omega) q ?_
        rw [hd]; simp [List.getD]
    show Txt.find3 _ (⟨#[c]⟩ : PySem.Str) _ = _
    rw [h1, hv]; first | lia | omega
theorem cont_tx (l : List Nat) (c : Nat) : Txt.contains (tx l) (tx [c]) = decide (c ∈ l) := found_one (tx l) c
set_option tactic.hygienic true in
theorem mul_tx (l : List Nat) (n : Nat) : Txt.mul (tx l) (n : Int) = tx (List.replicate n l).flatten := by
  have key : ∀ (n : Nat) (acc : Array Nat), ((List.replicate n l.toArray).foldl (· ++ ·) acc) = acc ++ (List.replicate n l).flatten.toArray := by
    intro n
    induction n with
    | zero => intro acc; simp
    | succ n ih => intro acc; rw [List.replicate_succ, List.foldl_cons, ih, List.replicate_succ, List.flatten_cons]; simp
  unfold Txt.mul
  by_cases h0 : n = 0
  · subst h0; rfl
  · rw [if_neg (by first | lia | omega)]
    split
    · rename_i hc
      simp only [Bool.or_eq_true, beq_iff_eq] at hc
      rcases hc with hc | hc
      · have : n = 1 := by first | lia | omega
        subst this; simp
      · have : l = [] := List.length_eq_zero_iff.mp (by rw [← tx_len]; exact hc)
        subst this
        simp
    · rw [show ((n : Int)).toNat = n from by first | lia | omega]
      show (⟨List.foldl (· ++ ·) #[] (List.replicate n l.toArray)⟩ : PySem.Str) = _
      rw [key]; simp [tx]
theorem join_tx (ls : List (List Nat)) : Txt.join (PySem.Str.ofString "") (ls.map tx) = tx ls.flatten := by
  have e : PySem.Str.ofString "" = tx [] := by decide +kernel
  rw [e]
  show glued _ _ = _
  rw [glued_eq_join]
  induction ls with
  | nil => rfl
  | cons a ls ih =>
    cases ls with
    | nil => simp [PySem.Str.join]
    | cons b ls =>
      show tx a ++ tx [] ++ PySem.Str.join (tx []) ((b :: ls).map tx) = _
      rw [ih, tx_add, tx_add]; simp
end Og
end
section
namespace Og
open PySem
set_option maxHeartbeats 4000000
set_option compiler.extract_closed false
set_option hygiene false in
local macro_rules | `(tactic| walk_at "og_prune") => `(tactic| (intro hc; exfalso; first | (simp only [decide_eq_true_eq, decide_eq_false_iff_not, bne_iff_ne, beq_iff_eq, ne_eq] at hc; omega) | exact absurd (hc.symm.trans (show _ = false by assumption)) (by decide) | exact absurd (hc.symm.trans (show _ = true by assumption)) (by decide) | simp_all <;> omega))
set_option hygiene false in
local macro_rules | `(tactic| walk_at "og_side") => `(tactic| first
  | assumption | decide | omega | rfl
  | simp only [tx_len, List.length_append, List.length_singleton, List.length_cons, List.length_nil, List.length_set]; omega
  | (first | apply npSA | apply npLA | apply andI) <;> walk_at "og_side"
  | exact of_decide_eq_true (by assumption) | apply pairs_np | apply tk3_np | apply get_end
  | apply get_app; walk_at "og_side"
  | apply get_mid | apply get_self; walk_at "og_side"
  | (first | apply pb_push | apply And.intro) <;> walk_at "og_side")
set_option hygiene false in
local macro_rules | `(tactic| walk_at "og_step") => `(tactic| first
  | with_reducible first | apply then_next | apply then_ret | apply x_cat | apply x_cat0 | apply x_nil | apply e_run | apply ts_run | apply t_runL | apply es_run | apply x_while | apply e_listM | apply e_list1 | apply w1_neNilM | apply w1_leA | apply w1_leZ | apply w1_ord | apply w1_alone | apply w1_text | apply w1_plain | apply w1_laid
  | (with_reducible first | apply x_asg | apply x_ifF | apply x_give | apply x_do | apply x_asgT); rfl; · intro N hN; (repeat' first | walk_at "og_step" | exact hN); done
    try rfl
  | (with_reducible first | apply x_run | apply x_sl | apply w1_neNil | apply e_listC | apply x_one); rfl
  | refine Leaf.mk ?_
  | (with_reducible apply e_listO); walk_at "og_side"
  | (with_reducible apply new_l); rfl
  | (with_reducible first | apply w1_getA | apply w1_pick); walk_at "og_side"; rfl; rfl
  | (with_reducible apply w1_pickL); walk_at "og_side"
  | with_reducible first | refine ⟨_, rfl, ?_⟩ | refine ⟨rfl, ?_⟩ | refine ⟨_, _, _, _, rfl, rfl, rfl, by walk_at "og_side", ?_⟩
  | refine ⟨_, _, _, _, rfl, rfl, by assumption, rfl, ?_⟩
  | refine ⟨_, _, rfl, rfl, ?_⟩
  | with_reducible refine ⟨_, _, rfl, rfl, rfl, ?_⟩
  | refine ⟨Nat.le_of_ble_eq_true rfl, ?_⟩
  | with_reducible refine And.intro (by assumption) ?_
  | refine ⟨fun _ => ?_, fun h => absurd h (by decide)⟩
  | refine ⟨fun h => absurd h (by decide), fun _ => ?_⟩
  | refine ⟨by walk_at "og_prune", fun _ => ?_⟩
  | refine ⟨fun _ => ?_, by walk_at "og_prune"⟩
  | refine ⟨fun _ => ?_, fun _ => ?_⟩
  | (with_reducible apply w2_takeI); walk_at "og_side"; intro _ _ _
  | (with_reducible apply w2_takeP); walk_at "og_side"; intro _ _ _
  | (with_reducible apply w1_pickC); walk_at "og_side"; intro _ _
  | (with_reducible first | apply w1_sliceE | apply w1_findE | apply w1_intS | apply w1_low | apply w2_of); first | assumption | exact ⟨by assumption, by walk_at "og_side"⟩
  | (with_reducible first | apply w1_chr | apply w1_lenT | apply l_add_op | apply l_add_cl | apply l_add_0 | apply l_add_e | apply l_add_tx | apply l_mul_tx | apply l_mulM | apply m_extend' | apply m_append' | apply w1_strN | apply w1_itemsL | apply w2_sign | apply w2_pic | apply w2_short | apply w1_itemsS | apply w1_slice | apply w1_item | apply w1_len | apply w1_max | apply w1_last | apply l_addC | apply w1_get0C | apply m_appC | apply w1_range | apply w1_neNilC | apply w1_eqNilC | apply w1_eqNilO | apply l_mod | apply l_fdiv); walk_at "og_side"
  | (with_reducible apply l_add_str); first | assumption | omega
  | with_reducible first | refine w1_of rfl ?_ | refine w2_of rfl ?_)
set_option tactic.hygienic false
set_option genSizeOf false
theorem w1_slice {s : Str} {st : Sto} {a b : Int} {Q : D → Prop} (h0 : s.length ≤ 10000) (h : Q (.str (Txt.slice s (some a) (some b)))) : W1 (getS st (.str s) (.int a) (.int b)) Q :=
  w1_of (if_pos h0) h
theorem w1_item {s : Str} {st : Sto} {a : Int} {Q : D → Prop} (h0 : fitsSsize a = true ∧ (Txt.charAt s a).isSome = true) (h : Q (.str (Txt.item s a))) : W1 (getI st (.str s) (.int a)) Q :=
  w1_of (if_pos h0) h
theorem w1_len {s : Str} {st : Sto} {Q : D → Prop} (h0 : s.length ≤ 100000) (h : Q (.int s.length)) : W1 (biCall (Str.ofString "len") [.str s] st) Q :=
  w1_of (if_pos h0) h
theorem w1_intS {s : Str} {st : Sto} {k : Int} {Q : D → Prop} (h1 : intText? s = some k ∧ s.length ≤ 640) (h : Q (.int k)) : W1 (biCall (Str.ofString "int") [.str s] st) Q :=
  w1_of ((if_pos h1.2).trans (congrArg (Option.map D.int) h1.1)) h
theorem c123a {n : Nat} {st : Sto} {s : Str} {a : Int} (hn : 0 < n) (hp : npS st = true) (h0 : s.length ≤ 10000) (h1 : (Str.ofString "CR" == Txt.slice s (some a) (some (a + 2)) || Str.ofString "DB" == Txt.slice s (some a) (some (a + 2))) = true) :
    callF T n 123 [.str s, .int a] st = some (.str (Txt.slice s (some a) (some (a + 2))), st) := by
  refine cp (v0 := [("text", .str s), ("at", .int a)]) fn123 rfl (by kernel_rfl) (by kernel_rfl) hn hp ?_
  intro m hm
  ((with_reducible apply x_open); (· exact rfl))
  repeat' walk_at "og_step"
  all_goals first | exact fin_np rfl rfl | exact freeze_np rfl
theorem c123b {n : Nat} {st : Sto} {s : Str} {a : Int} (hn : 0 < n) (hp : npS st = true) (h0 : s.length ≤ 10000) (h1 : (Str.ofString "CR" == Txt.slice s (some a) (some (a + 2)) || Str.ofString "DB" == Txt.slice s (some a) (some (a + 2))) = false)
    (h2 : fitsSsize a = true) (h3 : (Txt.charAt s a).isSome = true) (h4 : Txt.contains (Str.ofString "ABPSVXZ90/,.+-*$") (Txt.item s a) = true) :
    callF T n 123 [.str s, .int a] st = some (.str (Txt.item s a), st) := by
  refine cp (v0 := [("text", .str s), ("at", .int a)]) fn123 rfl (by kernel_rfl) (by kernel_rfl) hn hp ?_
  intro m hm
  ((with_reducible apply x_open); (· exact rfl))
  repeat' walk_at "og_step"
  all_goals first | exact fin_np rfl rfl | exact freeze_np rfl
theorem c128a {n : Nat} {st : Sto} {s : Str} {a : Int} (hn : 0 < n) (hp : npS st = true) (h0 : s.length ≤ 10000) (h1 : (Txt.slice s (some a) (some (a + 1)) == Str.ofString "(") = false) :
    callF T n 128 [.str s, .int a] st = some (.tup [.int 1, .int a], st) := by
  refine cp (v0 := [("text", .str s), ("at", .int a)]) fn128 rfl (by kernel_rfl) (by kernel_rfl) hn hp ?_
  intro m hm
  ((with_reducible apply x_open); (· exact rfl))
  repeat' walk_at "og_step"
  all_goals first | exact fin_np rfl rfl | exact freeze_np rfl
theorem w1_max {st : Sto} {a b : Int} {Q : D → Prop} (h0 : b ≤ a) (h : Q (.int a)) : W1 (biCall (Str.ofString "max") [.int a, .int b] st) Q :=
  w1_of (congrArg (fun z => some (D.int z)) (if_neg (Int.not_lt.mpr h0))) h
theorem w1_sliceE {s x : Str} {st : Sto} {a b : Int} {Q : D → Prop} (h1 : Txt.slice s (some a) (some b) = x ∧ s.length ≤ 10000) (h : Q (.str x)) : W1 (getS st (.str s) (.int a) (.int b)) Q :=
  w1_slice h1.2 (by rw [h1.1]; exact h)
theorem w1_findE {s y : Str} {st : Sto} {i e : Int} {Q : D → Prop} (h1 : Txt.find3 s y i = e) (h : Q (.int e)) : W1 (strMeth s (Str.ofString "find") [.str y, .int i] st) Q :=
  w1_of (congrArg (fun z => some (D.int z)) h1) h
theorem w1_itemsS {s : Str} {Q : List D → Prop} (h0 : s.length ≤ 10000 ∧ (s.cps.all (· < 128)) = true) (h : Q (chars s)) : W1 (itemsOf (.str s)) Q := w1_of (if_pos h0) h
theorem chars_tx (l : List Nat) : chars (tx l) = l.map fun c => .str (tx [c]) := rfl
theorem comp_fm {t : Expr} {test : Vars → Sto → Option (Bool × Sto)} {elt : Vars → Sto → Option (D × Sto)} {st : Sto} (shape : Vars → Prop) (b : D → Bool) (g : D → D) : ∀ {items : List D} {vs : Vars}, shape vs →
    (∀ d ∈ items, ∃ vs', (∀ vs, shape vs → bindT t d vs = some vs') ∧ shape vs' ∧ W2 (test vs' st) (fun r s => r = b d ∧ s = st) ∧ (b d = true → W2 (elt vs' st) fun x s => x = g d ∧ s = st)) →
    compLoop t test elt items vs st = some ((items.filter b).map g, st)
  | [], vs, hv, h => rfl
  | d :: ds, vs, hv, h => by
    obtain ⟨vs', h1, h2, ⟨r, s, e, rfl, rfl⟩, h3⟩ := h d (.head _)
    have ih := comp_fm shape b g h2 fun x hx => h x (.tail _ hx)
    unfold compLoop
    simp only [h1 vs hv, e, Option.bind_some]
    cases hb : b d with
    | false => simp only [Bool.false_eq_true, if_false, ih, List.filter_cons, hb]
    | true =>
      obtain ⟨x, s', e2, rfl, rfl⟩ := h3 hb
      simp only [if_true, e2, Option.bind_some, ih, Option.map_some, List.filter_cons, hb, List.map_cons]
theorem w1_neNil {x : D} {k : List D} {st g : Sto} {Q : Bool → Prop} (h0 : lstOf (st ++ .lst [] :: g) x = some k) (h : Q (!k.isEmpty)) : W1 (cmpop .NotEq x (.ptr st.length) (st ++ .lst [] :: g)) Q := by
  refine w1_of ?_ h
  have := seqEq_nil h0 (show lstOf (st ++ .lst [] :: g) (.ptr st.length) = some [] from lst_ptr (get_mid ..))
  cases x <;> first | (cases h0; done) | exact congrArg (Option.map (!·)) this
noncomputable def nm1 (x : String) (vs : Vars) : Prop := vs = [] ∨ ∃ d, vs = [(Str.ofString x, d)]
noncomputable def nm2 (x y : String) (vs : Vars) : Prop := vs = [] ∨ ∃ d e, vs = [(Str.ofString x, d), (Str.ofString y, e)]
theorem nm1_bind {x : String} {p : Pos} {d : D} (vs : Vars) (h : nm1 x vs) : bindT (.Name (Str.ofString x) p) d vs = some [(Str.ofString x, d)] := by
  rcases h with rfl | ⟨e, rfl⟩
  · rfl
  · exact congrArg some (if_pos (beq_self_eq_true _))
theorem nm2_bind {x y : String} {p q : Pos} {a b} {d e : D} (hxy : (x == y) = false) (vs : Vars) (h : nm2 x y vs) : bindT (.Tuple [.Name (Str.ofString x) p, .Name (Str.ofString y) q] a b) (.tup [d, e]) vs = some [(Str.ofString x, d), (Str.ofString y, e)] := by
  rcases h with rfl | ⟨f, g, rfl⟩
  · exact congrArg some (if_neg (by rw [ofs_beq, hxy]; exact Bool.false_ne_true))
  · refine (congrArg (setV _ e) (if_pos (beq_self_eq_true _))).symm.subst (motive := fun z => some z = _) ?_
    exact congrArg some ((if_neg (by rw [ofs_beq, hxy]; exact Bool.false_ne_true)).trans (congrArg (_ :: ·) (if_pos (beq_self_eq_true _))))
noncomputable def isDig (c : Nat) : Bool := 48 ≤ c && c ≤ 57
theorem figs_tx : Str.ofString "0123456789" = tx [48,49,50,51,52,53,54,55,56,57] := by decide +kernel
theorem fig_in {c : Nat} (h : isDig c = true) : Txt.contains (Str.ofString "0123456789") (tx [c]) = true := by
  rw [figs_tx, cont_tx]
  exact decide_eq_true (show c ∈ List.range' 48 10 from List.mem_range'_1.mpr ⟨of_decide_eq_true (and1 h), Nat.lt_succ_of_le (of_decide_eq_true (and2 h))⟩)
theorem c128b {n : Nat} {st : Sto} {s : Str} {a e k : Int} {ds : List Nat} (hn : 0 < n) (hp : npS st = true) (h0 : s.length ≤ 10000) (h1 : (Txt.slice s (some a) (some (a + 1)) == Str.ofString "(") = true)
    (h2 : Txt.find3 s (Str.ofString ")") a = e) (h3 : a ≤ e) (h4 : Txt.slice s (some (a + 1)) (some e) = tx ds) (h5 : 1 ≤ ds.length) (h6 : ds.length ≤ 4) (h7 : ∀ c ∈ ds, isDig c = true) (h8 : intText? (tx ds) = some k) (h9 : (k == 0) = false) :
    callF T n 128 [.str s, .int a] st = some (.tup [.int k, .int (e + 1)], st) := by
  have hl : (tx ds).length = ds.length := tx_len ds
  have hl2 : (tx ds).length ≤ 10000 := by first | exact Nat.le_trans (by assumption) (Nat.le_of_ble_eq_true rfl) | lia | omega
  have hl3 : (tx ds).length ≤ 640 := by first | exact Nat.le_trans (by assumption) (Nat.le_of_ble_eq_true rfl) | lia | omega
  have ha : ((tx ds).cps.all (· < 128)) = true := by
    simp only [tx, List.all_toArray', List.all_eq_true, decide_eq_true_eq]
    intro c hc
    have := h7 c hc
    simp only [isDig, Bool.and_eq_true, decide_eq_true_eq] at this
    first | exact Nat.le_trans (by assumption) (Nat.le_of_ble_eq_true rfl) | lia | omega
  refine cp (v0 := [("text", .str s), ("at", .int a)]) fn128 rfl (by kernel_rfl) (by kernel_rfl) hn hp ?_
  intro m hm
  ((with_reducible apply x_open); (· exact rfl))
  repeat' walk_at "og_step"
  refine ⟨by rw [chars_tx, List.length_map]; first | exact Nat.le_trans (by assumption) (Nat.le_of_ble_eq_true rfl) | lia | omega, w2_of (comp_fm (nm1 "sign") (fun _ => false) id (.inl rfl) ?_) ?_⟩
  · intro d hd
    rw [chars_tx] at hd
    obtain ⟨c, hc, rfl⟩ := List.mem_map.mp hd
    have hf := fig_in (h7 c hc)
    refine ⟨_, fun vs hv => nm1_bind vs hv, .inr ⟨_, rfl⟩, ?_, fun h => nomatch h⟩
    repeat' walk_at "og_step"
    all_goals (first | (refine ⟨rfl, ?_⟩; rfl) | rfl | (simp_all; done) | (simp_all [retD]; done) | (simp_all [retD]; omega))
  · rw [show (chars (tx ds)).filter (fun _ => false) = [] from by simp, List.map_nil]
    repeat' walk_at "og_step"
    all_goals first | exact fin_np rfl rfl | exact freeze_np rfl
set_option tactic.hygienic false
set_option genSizeOf false
theorem putF_new {a : Str} {v : D} : ∀ {ns : List Str} {ds : List D}, ns.contains a = false → ns.length = ds.length → putF a v ns ds = (ns ++ [a], ds ++ [v])
  | [], [], _, _ => rfl
  | [], _ :: _, _, h => by simp at h
  | _ :: _, [], _, h => by simp at h
  | n :: ns, d :: ds, h, hl => by
    simp only [List.contains_cons, Bool.or_eq_false_iff] at h
    have h4 : (n == a) = false := by
      have := h.1
      rw [beq_eq_false_iff_ne] at this ⊢
      exact fun q => this q.symm
    unfold putF
    rw [h4]
    simp only [Bool.false_eq_true, if_false, putF_new h.2 (by simpa using hl), List.cons_append]
/-- an object in the making, at the store's end -/
theorem x_new {cf : CF} {sc : Scope} {vs : Vars} {st : Sto} {p ap : Pos} {base : Nat} {o e : Expr} {a : Str} {X : Fl → Vars → Sto → Prop} (h0 : isComp e = false)
    (h : W2 (ev T cf e sc vs st) fun v s => W2 (ev T cf o sc vs s) fun q s => ∃ t c ns ds, q = .ptr t.length ∧ s = t ++ [.inst c ns ds] ∧ ((T.attr c).contains a && decide (ns.length ≤ 100)) = true ∧ ns.contains a = false ∧ (ns.length == ds.length) = true ∧
      X .next vs (t ++ [.inst c (ns ++ [a]) (ds ++ [v])])) : W3 (ex T cf (.Assign [.Attribute o a ap] e p) sc base vs st) X := by
  refine x_attr h0 (w2_mono h fun v s h => w2_mono h fun q s h => ?_)
  obtain ⟨t, c, ns, ds, rfl, rfl, h1, h2, h3, h⟩ := h
  refine ⟨t.length, c, ns, ds, rfl, get_mid _ _ _, h1, ?_⟩
  rw [putF_new h2 (eq_of_beq h3), set_mid]
  exact h
theorem npO_app {st : Sto} {o : Ob} (h : npS st = true) (h2 : npOb o = true) : npS (st ++ [o]) = true := npSA h (andI h2 rfl)
theorem c102 {n : Nat} {st : Sto} {s : Str} {c a : Int} (hn : 0 < n) (hp : npS st = true) :
    callF T n 102 [.ptr st.length, .str s, .int c, .int a] (st ++ [.inst 112 [] []]) = some (.none, st ++ [.inst 112 sigNs [.str s, .int c, .int a]]) := by
  refine cs (v0 := [("self", .ptr st.length), ("sign", .str s), ("count", .int c), ("at", .int a)]) fn102 rfl (by kernel_rfl) (by kernel_rfl) hn (by simp) (npO_app hp rfl) rfl ?_
  intro m hm
  ((with_reducible apply x_open); (· exact rfl))
  repeat' first | (((with_reducible refine x_new ?_ ?_); (· rfl)); (repeat' walk_at "og_step")) | (refine ⟨_, _, _, _, rfl, rfl, rfl, rfl, rfl, ?_⟩; simp only [List.cons_append, List.nil_append]) | walk_at "og_step"
  all_goals exact ⟨[], by first | (simp; done) | (simp; rfl), rfl⟩
theorem nSign {n : Nat} {st : Sto} {s : Str} {c a : Int} (hn : 0 < n) (hp : npS st = true) : nameCall T (callF T n) (Str.ofString "Sign") [.str s, .int c, .int a] st = some (tokD s c a, st) := by
  obtain ⟨d, s', e, rfl, rfl⟩ : W2 (nameCall T (callF T n) (Str.ofString "Sign") [.str s, .int c, .int a] st) fun d s' => d = tokD s c a ∧ s' = st := by
    refine n_data (c := 112) (i := 102) rfl (w2_of (c102 hn hp) ⟨rfl, tokD s c a, ?_, st, ?_, rfl, rfl⟩)
    · refine (if_neg (Nat.lt_irrefl _)).trans ?_
      rw [get_mid]
      rfl
    · rw [List.take_left, fzSto_np hp]
  exact e
theorem w2_sign {n : Nat} {st : Sto} {s : Str} {c a : Int} {Q : D → Sto → Prop} (h : 0 < n ∧ npS st = true) (q : Q (tokD s c a) st) : W2 (nameCall T (callF T n) (Str.ofString "Sign") [.str s, .int c, .int a] st) Q := w2_of (nSign h.1 h.2) q
theorem c69 {n : Nat} {st : Sto} {d1 d2 d3 d4 d5 d6 d7 : D} (hn : 0 < n) (hp : npS st = true) (hd : npL [d1, d2, d3, d4, d5, d6, d7] = true) :
    callF T n 69 [.ptr st.length, d1, d2, d3, d4, d5, d6, d7] (st ++ [.inst 84 [] []]) = some (.none, st ++ [.inst 84 (["text", "symbols", "category", "digits", "scale", "is_signed", "size"].map Str.ofString) [d1, d2, d3, d4, d5, d6, d7]]) := by
  refine cs (v0 := [("self", .ptr st.length), ("text", d1), ("symbols", d2), ("category", d3), ("digits", d4), ("scale", d5), ("is_signed", d6), ("size", d7)]) fn69 rfl (by kernel_rfl) (by kernel_rfl) hn (by simp) (npO_app hp hd) rfl ?_
  intro m hm
  ((with_reducible apply x_open); (· exact rfl))
  repeat' first | (((with_reducible refine x_new ?_ ?_); (· rfl)); (repeat' walk_at "og_step")) | (refine ⟨_, _, _, _, rfl, rfl, rfl, rfl, rfl, ?_⟩; simp only [List.cons_append, List.nil_append]) | walk_at "og_step"
  all_goals exact ⟨[], by first | (simp; done) | (simp; rfl), rfl⟩
set_option tactic.hygienic false
set_option genSizeOf false
/-- what a picture is written of: a sign, a sign of two letters, a sign with its count -/
inductive U where
  | one (c : Nat) | dbl (a b : Nat) | cnt (c : Nat) (ds : List Nat) (k : Int)
noncomputable def U.txt : U → List Nat
  | .one c => [c]
  | .dbl a b => [a, b]
  | .cnt c ds _ => c :: 40 :: (ds ++ [41])
noncomputable def U.sg : U → List Nat
  | .one c => [c]
  | .dbl a b => [a, b]
  | .cnt c _ _ => [c]
noncomputable def U.ct : U → Int
  | .one _ => 1
  | .dbl _ _ => 1
  | .cnt _ _ k => k
noncomputable def SIG : List Nat := [65,66,80,83,86,88,90,57,48,47,44,46,43,45,42,36]
noncomputable def U.ok : U → Prop
  | .one c => c ∈ SIG
  | .dbl a b => (a = 67 ∧ b = 82) ∨ (a = 68 ∧ b = 66)
  | .cnt c ds k => c ∈ SIG ∧ c ≠ 83 ∧ c ≠ 86 ∧ c ≠ 46 ∧ 1 ≤ ds.length ∧ ds.length ≤ 4 ∧ (∀ d ∈ ds, isDig d = true) ∧ intText? (tx ds) = some k ∧ 0 < k
noncomputable def flat (us : List U) : List Nat := (us.map U.txt).flatten
noncomputable def tokOf : Nat → List U → List D
  | _, [] => []
  | p, u :: us => tokD (tx u.sg) u.ct (p : Int) :: tokOf (p + u.txt.length) us
theorem sig_tx : Str.ofString "ABPSVXZ90/,.+-*$" = tx SIG := by decide +kernel
theorem cr_tx : Str.ofString "CR" = tx [67, 82] := by decide +kernel
theorem db_tx : Str.ofString "DB" = tx [68, 66] := by decide +kernel
theorem op_tx : Str.ofString "(" = tx [40] := by decide +kernel
theorem cl_tx : Str.ofString ")" = tx [41] := by decide +kernel
theorem sig_no {c : Nat} (h : c ∈ SIG) : c ≠ 67 ∧ c ≠ 68 ∧ c ≠ 40 := by
  exact (show ∀ c ∈ SIG, c ≠ 67 ∧ c ≠ 68 ∧ c ≠ 40 by decide) c h
theorem slice_at (pre w : List Nat) (k : Nat) : Txt.slice (tx (pre ++ w)) (some (pre.length : Int)) (some ((pre.length : Int) + (k : Nat))) = tx (w.take k) := by
  rw [show ((pre.length : Int) + (k : Nat)) = ((pre.length + k : Nat) : Int) from by first | lia | omega, slice_tx _ (by first | lia | omega), List.drop_left, show pre.length + k - pre.length = k from by first | lia | omega]
theorem fits_nat {k : Nat} (h : k ≤ 10000) : fitsSsize (k : Int) = true := by
  simp only [fitsSsize]
  first | (simp; first | lia | omega) | (simp; constructor <;> first | lia | omega)
theorem sgn_ok {n : Nat} {st : Sto} {pre r : List Nat} {u : U} (hn : 0 < n) (hp : npS st = true) (hu : u.ok) (hl : (pre ++ (u.txt ++ r)).length ≤ 10000) :
    callF T n 123 [.str (tx (pre ++ (u.txt ++ r))), .int pre.length] st = some (.str (tx u.sg), st) := by
  have hs := slice_at pre (u.txt ++ r) 2
  have h0 : (tx (pre ++ (u.txt ++ r))).length ≤ 10000 := by rw [tx_len]; exact hl
  have one : ∀ (c : Nat) (w : List Nat), c ∈ SIG → u.txt ++ r = c :: w → callF T n 123 [.str (tx (pre ++ (u.txt ++ r))), .int pre.length] st = some (.str (tx [c]), st) := by
    intro c w hc e
    obtain ⟨c1, c2, -⟩ := sig_no hc
    rw [e] at hs h0 ⊢
    rw [← (item_tx (pre := pre) (r := w) (c := c)).1]
    have hb : (Str.ofString "CR" == Txt.slice (tx (pre ++ c :: w)) (some (pre.length : Int)) (some ((pre.length : Int) + 2)) || Str.ofString "DB" == Txt.slice (tx (pre ++ c :: w)) (some (pre.length : Int)) (some ((pre.length : Int) + 2))) = false := by
      have hs : Txt.slice (tx (pre ++ c :: w)) (some (pre.length : Int)) (some ((pre.length : Int) + 2)) = _ := hs
      rw [hs, cr_tx, db_tx, tx_beq, tx_beq]
      have a1 : (67 == c) = false := by simp; first | lia | omega
      have a2 : (68 == c) = false := by simp; first | lia | omega
      simp only [List.take_succ_cons]
      show (((67 == c) && _) || ((68 == c) && _)) = false
      rw [a1, a2]; rfl
    refine c123b hn hp h0 hb (fits_nat ?_) item_tx.2 ?_
    · rw [tx_len] at h0; simp at h0; first | lia | omega
    · rw [item_tx.1, sig_tx, cont_tx]; simpa using hc
  cases u with
  | one c => exact one c r hu rfl
  | cnt c ds k => exact one c _ hu.1 rfl
  | dbl a b =>
    have hs : Txt.slice (tx (pre ++ ([a, b] ++ r))) (some (pre.length : Int)) (some ((pre.length : Int) + 2)) = tx [a, b] := hs
    show callF T n 123 [.str (tx (pre ++ ([a, b] ++ r))), .int pre.length] st = some (.str (tx [a, b]), st)
    rw [← hs]
    refine c123a hn hp h0 ?_
    rw [hs, cr_tx, db_tx, tx_beq, tx_beq]
    rcases hu with ⟨rfl, rfl⟩ | ⟨rfl, rfl⟩ <;> decide
theorem cnt_ok {n : Nat} {st : Sto} {pre r : List Nat} {u : U} (hn : 0 < n) (hp : npS st = true) (hu : u.ok) (hr : r.head? ≠ some 40) (hl : (pre ++ (u.txt ++ r)).length ≤ 10000) :
    callF T n 128 [.str (tx (pre ++ (u.txt ++ r))), .int ((pre.length : Int) + (tx u.sg).length)] st = some (.tup [.int u.ct, .int ((pre.length : Int) + u.txt.length)], st) := by
  have h0 : (tx (pre ++ (u.txt ++ r))).length ≤ 10000 := by rw [tx_len]; exact hl
  have plain : u.txt = u.sg → callF T n 128 [.str (tx (pre ++ (u.txt ++ r))), .int ((pre.length : Int) + (tx u.sg).length)] st = some (.tup [.int 1, .int ((pre.length : Int) + (tx u.sg).length)], st) := by
    intro e
    refine c128a hn hp h0 ?_
    have hs := slice_at (pre ++ u.sg) r 1
    rw [e, ← List.append_assoc, tx_len, ← show ((pre ++ u.sg).length : Int) = (pre.length : Int) + (u.sg.length : Nat) from by simp]
    have hs : Txt.slice (tx (pre ++ u.sg ++ r)) (some ((pre ++ u.sg).length : Int)) (some (((pre ++ u.sg).length : Int) + 1)) = _ := hs
    rw [hs, op_tx, tx_beq]
    cases r with
    | nil => rfl
    | cons c r =>
      have : (c == 40) = false := by
        rw [beq_eq_false_iff_ne]; exact fun q => hr (by rw [q]; rfl)
      show ((c == 40) && _) = false
      rw [this]; rfl
  cases u with
  | one c => exact plain rfl
  | dbl a b => exact plain rfl
  | cnt c ds k =>
    obtain ⟨q1, q2, q3, q4, q5, q6, q7, q8, q9⟩ := hu
    have e1 : pre ++ ((U.cnt c ds k).txt ++ r) = (pre ++ [c]) ++ (40 :: (ds ++ 41 :: r)) := by simp [U.txt]
    have e2 : ((pre.length : Int) + (tx (U.cnt c ds k).sg).length) = ((pre ++ [c]).length : Int) := by rw [tx_len]; simp [U.sg]
    have e3 : ((pre.length : Int) + (U.cnt c ds k).txt.length) = ((pre ++ [c]).length : Int) + 1 + ds.length + 1 := by simp [U.txt]; first | lia | omega
    rw [e1] at h0 ⊢
    rw [e2, e3]
    generalize pre ++ [c] = p at *
    have n41 : 41 ∉ 40 :: ds := by
      intro q
      rcases List.mem_cons.mp q with q | q
      · cases q
      · have := q7 _ q
        revert this; decide
    refine c128b (ds := ds) (k := k) hn hp h0 ?_ ?_ ?_ ?_ q5 q6 q7 q8 ?_
    · have hs : Txt.slice (tx (p ++ 40 :: (ds ++ 41 :: r))) (some (p.length : Int)) (some ((p.length : Int) + 1)) = _ := slice_at p (40 :: (ds ++ 41 :: r)) 1
      rw [hs, op_tx, tx_beq]; rfl
    · have := find_tx (pre := p) (ds := 40 :: ds) (r := r) n41
      rw [cl_tx]
      rw [show (40 :: (ds ++ 41 :: r)) = (40 :: ds) ++ 41 :: r from rfl, this]
      simp; first | lia | omega
    · first | lia | omega
    · have hs := slice_at (p ++ [40]) (ds ++ 41 :: r) ds.length
      rw [List.take_left, List.append_assoc] at hs
      simp only [List.length_append, List.length_singleton, List.singleton_append] at hs
      exact hs
    · simp; first | lia | omega
theorem flat_head {us : List U} (h : ∀ u ∈ us, u.ok) : (flat us).head? ≠ some 40 := by
  cases us with
  | nil => simp [flat]
  | cons u us =>
    have := h u (.head _)
    cases u with
    | one c => have := sig_no this; simp [flat, U.txt]; first | lia | omega
    | dbl a b => simp only [U.ok] at this; simp [flat, U.txt]; first | lia | omega
    | cnt c ds k => have := sig_no this.1; simp [flat, U.txt]; first | lia | omega
theorem w1_alone {st : Sto} {Q : D → Prop} (h : Q (.lst [.str (Str.ofString "S"), .str (Str.ofString "V"), .str (Str.ofString "."), .str (Str.ofString "CR"), .str (Str.ofString "DB")])) : W1 (strMeth (Str.ofString "S V . CR DB") (Str.ofString "split") [.str (Str.ofString " ")] st) Q := w1_of (show _ = some _ by kernel_rfl) h
theorem w1_text {st : Sto} {Q : D → Prop} (h : Q (.lst [.str (Str.ofString "A"), .str (Str.ofString "X"), .str (Str.ofString "9"), .str (Str.ofString "B"), .str (Str.ofString "0"), .str (Str.ofString "/")])) : W1 (strMeth (Str.ofString "A X 9 B 0 /") (Str.ofString "split") [.str (Str.ofString " ")] st) Q := w1_of (show _ = some _ by kernel_rfl) h
theorem w1_plain {st : Sto} {Q : D → Prop} (h : Q (.lst [.str (Str.ofString "9"), .str (Str.ofString "P"), .str (Str.ofString "S"), .str (Str.ofString "V")])) : W1 (strMeth (Str.ofString "9 P S V") (Str.ofString "split") [.str (Str.ofString " ")] st) Q := w1_of (show _ = some _ by kernel_rfl) h
theorem w1_laid {st : Sto} {Q : D → Prop} (h : Q (.lst [.str (Str.ofString "P"), .str (Str.ofString "S"), .str (Str.ofString "V")])) : W1 (strMeth (Str.ofString "P S V") (Str.ofString "split") [.str (Str.ofString " ")] st) Q := w1_of (show _ = some _ by kernel_rfl) h
set_option tactic.hygienic false
set_option genSizeOf false
theorem m_append' {cf : CF} {st g : Sto} {x : D} {l : List D} {Q : D → Sto → Prop} (h1 : l.length ≤ 10000) (h : Q .none (st ++ .lst (l ++ [x]) :: g)) : W2 (methCall cf .lst (.ptr st.length) (Str.ofString "append") [x] (st ++ .lst l :: g)) Q :=
  m_append (get_mid _ _ _) h1 (by rw [set_mid]; exact h)
theorem tokOf_np : ∀ (p : Nat) (us : List U), npL (tokOf p us) = true
  | _, [] => rfl
  | p, u :: us => tokOf_np (p + u.txt.length) us
theorem tokOf_len : ∀ (p : Nat) (us : List U), (tokOf p us).length = us.length
  | _, [] => rfl
  | p, u :: us => congrArg (· + 1) (tokOf_len (p + u.txt.length) us)
theorem tokOf_app : ∀ (p : Nat) (us vs : List U), tokOf p (us ++ vs) = tokOf p us ++ tokOf (p + (flat us).length) vs
  | _, [], _ => rfl
  | p, u :: us, vs => congrArg (tokD _ _ _ :: ·) ((tokOf_app (p + u.txt.length) us vs).trans (congrArg (fun k => tokOf _ us ++ tokOf k vs) (show p + u.txt.length + (flat us).length = p + (flat (u :: us)).length by simp [flat]; first | lia | omega)))
theorem flat_app (us vs : List U) : flat (us ++ vs) = flat us ++ flat vs := by simp [flat]
theorem flat_cons (u : U) (vs : List U) : flat (u :: vs) = u.txt ++ flat vs := by simp [flat]
theorem len_flat : ∀ us : List U, us.length ≤ (flat us).length
  | [] => Nat.le_refl _
  | u :: us => by
    have := len_flat us
    rw [flat_cons, List.length_append, List.length_cons]
    have : 1 ≤ u.txt.length := by cases u <;> simp [U.txt]
    first | lia | omega
theorem not_alone {u : U} (hu : u.ok) (h : u.txt.length ≠ u.sg.length) : ([Str.ofString "S", Str.ofString "V", Str.ofString ".", Str.ofString "CR", Str.ofString "DB"].any (· == tx u.sg)) = false := by
  cases u with
  | one c => exact absurd rfl h
  | dbl a b => exact absurd rfl h
  | cnt c ds k =>
    obtain ⟨q1, q2, q3, q4, -⟩ := hu
    have e : [Str.ofString "S", Str.ofString "V", Str.ofString ".", Str.ofString "CR", Str.ofString "DB"] = [tx [83], tx [86], tx [46], tx [67, 82], tx [68, 66]] := by decide +kernel
    rw [e]
    simp only [List.any_cons, List.any_nil, tx_beq, U.sg]
    simp; first | lia | omega
theorem sg_len (u : U) : (tx u.sg).length ≤ 2 := by rw [tx_len]; cases u <;> simp [U.sg]
theorem app_exs {T : Tab} {cf : CF} {rest : List Stmt} {sc : Scope} {base : Nat} {X : Fl → Vars → Sto → Prop} : ∀ (b : List Stmt) {vs : Vars} {st : Sto}, (W3 (exs T cf b sc base vs st) fun f v t => Then f (W3 (exs T cf rest sc base v t) X) fun d => X (.ret d) v t) → W3 (exs T cf (b ++ rest) sc base vs st) X
  | [], _, _, xx0 => by
    obtain ⟨_, _, _, e, h⟩ := xx0
    cases e; exact h
  | s :: b, vs, st, xx0 => by
    obtain ⟨f, v, t, e, h⟩ := xx0
    obtain ⟨⟨f1, v1, t1⟩, e1, e⟩ := bindO e
    cases f1 with
    | ret d => cases e; exact w3_of (obind e1) h
    | next =>
      obtain ⟨⟨v2, t2⟩, e2, e⟩ := bindO e
      exact w3_eq ((obind e1).trans (obind e2)) (app_exs b ⟨f, v, t, e, h⟩)
/-- a statement or two whose end is one and the same in every case -/
theorem x_two {T : Tab} {cf : CF} {s1 s2 : Stmt} {rest : List Stmt} {sc : Scope} {base : Nat} {vs v' : Vars} {st t' : Sto} {X : Fl → Vars → Sto → Prop} (h1 : W3 (exs T cf [s1, s2] sc base vs st) fun f v t => f = .next ∧ v = v' ∧ t = t') (h2 : W3 (exs T cf rest sc base v' t') X) : W3 (exs T cf (s1 :: s2 :: rest) sc base vs st) X :=
  app_exs [s1, s2] (w3_mono h1 fun _ _ _ h => by obtain ⟨rfl, rfl, rfl⟩ := h; exact then_next h2)
theorem x_lone {T : Tab} {cf : CF} {s1 : Stmt} {rest : List Stmt} {sc : Scope} {base : Nat} {vs v' : Vars} {st t' : Sto} {X : Fl → Vars → Sto → Prop} (h1 : W3 (exs T cf [s1] sc base vs st) fun f v t => f = .next ∧ v = v' ∧ t = t') (h2 : W3 (exs T cf rest sc base v' t') X) : W3 (exs T cf (s1 :: rest) sc base vs st) X :=
  app_exs [s1] (w3_mono h1 fun _ _ _ h => by obtain ⟨rfl, rfl, rfl⟩ := h; exact then_next h2)
theorem sufficesP {P G : Prop} (h : Leaf P → G) (p : P) : G := h ⟨p⟩
theorem tok_snoc {done : List U} {u : U} : tokOf 0 done ++ [tokD (tx u.sg) u.ct ((flat done).length : Nat)] = tokOf 0 (done ++ [u]) := by rw [tokOf_app, Nat.zero_add]; rfl
theorem c135 {n : Nat} {st : Sto} {us : List U} (hn : 1 < n) (hp : npS st = true) (hu : ∀ u ∈ us, u.ok) (hl : (flat us).length ≤ 40) :
    callF T n 135 [.str (tx (flat us))] st = some (.lst (tokOf 0 us), st) := by
  refine cpJn (v0 := [("text", .str (tx (flat us)))]) fn135 rfl (by kernel_rfl) (by kernel_rfl) hn hp ?_
  intro m hm X hX
  ((with_reducible apply x_open); (· exact rfl))
  repeat' walk_at "og_step"
  refine whileL_indJ (fun n vs s => ∃ done todo tail, us = done ++ todo ∧ n = todo.length ∧ s = st ++ [.lst (tokOf 0 done)] ∧ (tail = [] ∨ ∃ a b c, tail = [(Str.ofString "sign", a), (Str.ofString "end", b), (Str.ofString "count", c)]) ∧
    vs = [(Str.ofString "text", .str (tx (flat us))), (Str.ofString "at", .int ((flat done).length : Nat)), (Str.ofString "found", .ptr st.length)] ++ tail) ?_ us.length 64 _ _ (by have := len_flat us; omega) ⟨[], us, [], rfl, rfl, rfl, .inl rfl, rfl⟩
  rintro k vs s ⟨done, todo, tail, e, rfl, rfl, ht, rfl⟩ J hJ
  have hl2 : (tx (flat us)).length ≤ 100000 := by rw [tx_len]; omega
  have hl3 : (tx (flat us)).length = (flat us).length := tx_len _
  have hpd : npS (st ++ [.lst (tokOf 0 done)]) = true := npO_app hp (tokOf_np _ _)
  cases todo with
  | nil =>
    have hd : us = done := by simpa using e
    subst hd
    have hX : ∀ fl v, retD fl = .ptr st.length → X fl v (st ++ [.lst (tokOf 0 us)]) := fun fl v q => hX _ _ _ _ rfl (by rw [q]; exact freeze_mid (tokOf_np _ _))
    rcases ht with rfl | ⟨a, b, c, rfl⟩
    all_goals
      repeat' walk_at "og_step"
      all_goals exact hX _ _ rfl
  | cons u todo =>
    have hu1 : u.ok := hu u (by rw [e]; simp)
    have e2 : flat us = flat done ++ (u.txt ++ flat todo) := by rw [e, flat_app, flat_cons]
    have hq2 : (flat (done ++ [u])).length = (flat done).length + u.txt.length := by simp [flat]
    have hfl : (flat us).length = (flat done).length + (u.txt.length + (flat todo).length) := by rw [e2]; simp
    have hu3 : 1 ≤ u.txt.length := by cases u <;> simp [U.txt]
    have hsl : (tx u.sg).length = u.sg.length := tx_len _
    have hsl2 : (tx u.sg).length ≤ 100000 := by have := sg_len u; omega
    have hlen : (tokOf 0 done).length ≤ 10000 := by
      rw [tokOf_len]; have := len_flat done; omega
    have hS : callF T m 123 [.str (tx (flat us)), .int ((flat done).length : Nat)] (st ++ [.lst (tokOf 0 done)]) = some (.str (tx u.sg), st ++ [.lst (tokOf 0 done)]) := by
      rw [e2]; exact sgn_ok (by omega) hpd hu1 (by rw [← e2]; omega)
    have hC : callF T m 128 [.str (tx (flat us)), .int (((flat done).length : Nat) + ((tx u.sg).length : Nat))] (st ++ [.lst (tokOf 0 done)]) = some (.tup [.int u.ct, .int ((flat (done ++ [u])).length : Nat)], st ++ [.lst (tokOf 0 done)]) := by
      rw [hq2, e2]; exact cnt_ok (by omega) hpd hu1 (flat_head fun x hx => hu x (by rw [e]; simp [hx])) (by rw [← e2]; omega)
    have fin : ∀ a b c, J .next [(Str.ofString "text", .str (tx (flat us))), (Str.ofString "at", .int ((flat (done ++ [u])).length : Nat)), (Str.ofString "found", .ptr st.length), (Str.ofString "sign", a), (Str.ofString "end", b), (Str.ofString "count", c)] (st ++ [.lst (tokOf 0 done ++ [tokD (tx u.sg) u.ct ((flat done).length : Nat)])]) :=
      fun a b c => hJ _ _ _ rfl ⟨done ++ [u], todo, _, by rw [e]; simp, rfl, by rw [tok_snoc], .inr ⟨a, b, c, rfl⟩, rfl⟩
    clear hJ hX hu e2 e
    have hne : (u :: todo).length ≠ 0 := nofun
    revert tail
    apply sufficesP
    · intro hP tail ht
      rcases ht with rfl | ⟨a, b, c, rfl⟩
      all_goals repeat' first | ((with_reducible apply x_two); (· repeat' first | walk_at "og_step" | rfl); (· exact hP.out)) | walk_at "og_step"
    · apply sufficesP
      · intro hP
        with_reducible apply x_lone
        · by_cases hq : u.txt.length = u.sg.length
          · repeat' first | walk_at "og_step" | rfl
          · have hA := not_alone hu1 hq
            repeat' first | walk_at "og_step" | rfl
        · exact hP.out
      · clear hS hC
        repeat' walk_at "og_step"
        all_goals exact fin _ _ _
set_option tactic.hygienic false
set_option genSizeOf false
theorem e_listM {st g : Sto} {x : Ob} {Q : D → Sto → Prop} (h : Q (.ptr (st ++ x :: g).length) (st ++ x :: (g ++ [.lst []]))) : NewL [] (st ++ x :: g) Q :=
  ⟨Nat.zero_le _, by rw [List.append_assoc]; exact h⟩
theorem w1_neNilM {l : List D} {st g : Sto} {Q : Bool → Prop} (h : Q (!l.isEmpty)) : W1 (cmpop .NotEq (.ptr st.length) (.ptr (st ++ .lst l :: g).length) (st ++ .lst l :: (g ++ [.lst []]))) Q := by
  refine w1_of ?_ h
  have h1 : lstOf (st ++ .lst l :: (g ++ [.lst []])) (.ptr st.length) = some l := lst_ptr (by simp)
  have h2 : lstOf (st ++ .lst l :: (g ++ [.lst []])) (.ptr (st ++ .lst l :: g).length) = some [] := by
    rw [show st ++ Ob.lst l :: (g ++ [.lst []]) = (st ++ .lst l :: g) ++ .lst [] :: [] from by simp]
    exact lst_ptr (get_mid ..)
  exact congrArg (Option.map (!·)) (seqEq_nil h1 h2)
theorem w1_last {A : List D} {x : D} {st g : Sto} {Q : D → Prop} (h0 : A.length ≤ 9999) (h : Q x) : W1 (getI (st ++ .lst (A ++ [x]) :: g) (.ptr st.length) (.int (-1))) Q := by
  refine w1_of ?_ h
  have h1 : lstOf (st ++ .lst (A ++ [x]) :: g) (.ptr st.length) = some (A ++ [x]) := lst_ptr (by simp)
  refine (getI_ptr h1).trans ?_
  simp only [List.length_append, List.length_singleton]
  rw [if_pos (by first | exact Nat.le_trans (by assumption) (Nat.le_of_ble_eq_true rfl) | lia | omega), if_neg (by first | exact Nat.le_trans (by assumption) (Nat.le_of_ble_eq_true rfl) | lia | omega), if_pos (by first | exact Nat.le_trans (by assumption) (Nat.le_of_ble_eq_true rfl) | lia | omega), show ((-1 : Int) + ((A.length + 1 : Nat) : Int)).toNat = A.length from by first | exact Nat.le_trans (by assumption) (Nat.le_of_ble_eq_true rfl) | lia | omega]
  simp
theorem x_sl {cf : CF} {sc : Scope} {vs : Vars} {st : Sto} {p op : Pos} {base : Nat} {o k e : Expr} {X : Fl → Vars → Sto → Prop} (h0 : isComp e = false) (h : W2 (ev T cf e sc vs st) fun v s => W2 (ev T cf o sc vs s) fun q s => W2 (ev T cf k sc vs s) fun j s => ∃ t A x g, q = .ptr t.length ∧ j = .int (-1) ∧ s = t ++ .lst (A ++ [x]) :: g ∧ A.length ≤ 9999 ∧
      X .next vs (t ++ .lst (A ++ [v]) :: g)) : W3 (ex T cf (.Assign [.Subscript o k op] e p) sc base vs st) X := by
  refine x_sub_last h0 (w2_mono h fun v s h => w2_mono h fun q s h => w2_mono h fun j s h => ?_)
  obtain ⟨t, A, x, g, rfl, rfl, rfl, hl, h⟩ := h
  refine ⟨_, _, rfl, rfl, get_mid _ _ _, by simp; first | exact Nat.le_trans (by assumption) (Nat.le_of_ble_eq_true rfl) | lia | omega, by simp, ?_⟩
  rw [set_mid, List.length_append, List.length_singleton, Nat.add_sub_cancel, List.set_append_right _ _ (Nat.le_refl _), Nat.sub_self, List.set_cons_zero]
  exact h
noncomputable def pairD (p : PySem.Str × Int) : D := .tup [.str p.1, .int p.2]
noncomputable def push (acc : List (PySem.Str × Int)) (p : PySem.Str × Int) : List (PySem.Str × Int) := match acc.getLast? with
  | some q => if q.1 == p.1 then acc.dropLast ++ [(p.1, q.2 + p.2)] else acc ++ [p]
  | none => acc ++ [p]
noncomputable def symOf (l : List (PySem.Str × Int)) : List (PySem.Str × Int) := l.foldl push []
theorem push_nil (p : PySem.Str × Int) : push [] p = [p] := rfl
theorem push_eq {A : List (PySem.Str × Int)} {s : PySem.Str} {k c : Int} : push (A ++ [(s, k)]) (s, c) = A ++ [(s, k + c)] := by simp [push]
theorem push_ne {A : List (PySem.Str × Int)} {t s : PySem.Str} {k c : Int} (h : (t == s) = false) : push (A ++ [(t, k)]) (s, c) = A ++ [(t, k), (s, c)] := by simp [push, h]
theorem push_len (A : List (PySem.Str × Int)) (p : PySem.Str × Int) : (push A p).length ≤ A.length + 1 := by
  unfold push
  split
  · split <;> (simp; try first | exact Nat.le_trans (by assumption) (Nat.le_of_ble_eq_true rfl) | lia | omega)
  · simp
theorem last_or {α : Type} (A : List α) : A = [] ∨ ∃ B x, A = B ++ [x] := by
  rcases List.eq_nil_or_concat A with h | ⟨B, x, h⟩
  · exact .inl h
  · exact .inr ⟨B, x, by rw [h, List.concat_eq_append]⟩
theorem pairs_np (l : List (PySem.Str × Int)) : npL (l.map pairD) = true := by
  induction l with
  | nil => rfl
  | cons p l ih => exact ih
noncomputable def tk3 (t : PySem.Str × Int × Int) : D := tokD t.1 t.2.1 t.2.2
theorem tk3_np (l : List (PySem.Str × Int × Int)) : npL (l.map tk3) = true := by
  induction l with
  | nil => rfl
  | cons p l ih => exact ih
theorem w1_itemsL {l : List D} {Q : List D → Prop} (h0 : npL l = true ∧ l.length ≤ 10000) (h : Q l) : W1 (itemsOf (.lst l)) Q := w1_of (if_pos (by simp [h0])) h
noncomputable def isList : Expr → Bool
  | .List _ _ => true
  | _ => false
theorem x_for' {T : Tab} {cf : CF} {sc : Scope} {vs : Vars} {st : Sto} {p : Pos} {base : Nat} {X : Fl → Vars → Sto → Prop} {t it b} (ht : okT sc t = true) (hi : isList it = false) (h : W2 (ev T cf it sc vs st) fun a s => W1 (itemsOf a) fun items => W3 (forL t (exs T cf b sc base) items vs s) X) : W3 (ex T cf (.For t it b [] p) sc base vs st) X :=
  x_for ht (fun es k e => by subst e; cases hi) h
theorem c142 {n : Nat} {st : Sto} {ts : List (PySem.Str × Int × Int)} (hn : 0 < n) (hp : npS st = true) (hl : ts.length ≤ 1000) :
    callF T n 142 [.lst (ts.map tk3)] st = some (.lst ((symOf (ts.map fun t => (t.1, t.2.1))).map pairD), st) := by
  refine cpJn (v0 := [("signs", .lst (ts.map tk3))]) fn142 rfl (by kernel_rfl) (by kernel_rfl) hn hp ?_
  intro m hm X hX
  ((with_reducible apply x_open); (· exact rfl))
  repeat' walk_at "og_step"
  refine x_for' rfl rfl ?_
  repeat' walk_at "og_step"
  refine w1_itemsL ⟨tk3_np _, by simp; first | exact Nat.le_trans (by assumption) (Nat.le_of_ble_eq_true rfl) | lia | omega⟩ ?_
  refine forL_indJ (fun ds vs s => ∃ done todo g tail, ts = done ++ todo ∧ ds = todo.map tk3 ∧ s = st ++ .lst ((symOf (done.map fun t => (t.1, t.2.1))).map pairD) :: g ∧ (tail = [] ∨ ∃ d, tail = [(Str.ofString "one", d)]) ∧
    vs = [(Str.ofString "signs", .lst (ts.map tk3)), (Str.ofString "found", .ptr st.length)] ++ tail) ?_ ?_ _ _ _ ⟨[], ts, [], [], rfl, rfl, rfl, .inl rfl, rfl⟩
  · rintro vs s ⟨done, todo, g, tail, e, e2, rfl, ht, rfl⟩
    have : todo = [] := by cases todo with | nil => rfl | cons a b => simp at e2
    subst this
    rw [List.append_nil] at e
    subst e
    rcases ht with rfl | ⟨d, rfl⟩
    all_goals
      repeat' walk_at "og_step"
      all_goals exact hX _ _ _ _ rfl (freeze_mid (pairs_np _))
  · rintro d ds vs s ⟨done, todo, g, tail, e, e2, rfl, ht, rfl⟩ J hJ
    clear hX
    cases todo with
    | nil => simp at e2
    | cons t todo =>
      simp only [List.map_cons, List.cons.injEq] at e2
      obtain ⟨rfl, rfl⟩ := e2
      obtain ⟨s, c, a⟩ := t
      have hb : ∀ (q : Pos), bindT (.Name (Str.ofString "one") q) (tk3 (s, c, a)) ([(Str.ofString "signs", .lst (ts.map tk3)), (Str.ofString "found", .ptr st.length)] ++ tail) = some [(Str.ofString "signs", .lst (ts.map tk3)), (Str.ofString "found", .ptr st.length), (Str.ofString "one", tk3 (s, c, a))] := by
        intro q
        rcases ht with rfl | ⟨d, rfl⟩ <;> rfl
      refine w1_of (hb _) ?_
      have hsl : (symOf (done.map fun t => (t.1, t.2.1))).length ≤ 1000 := by
        have : ∀ l : List (PySem.Str × Int), ∀ A, (l.foldl push A).length ≤ A.length + l.length := by
          intro l
          induction l with
          | nil => intro A; simp
          | cons p l ih => intro A; have h1 := ih (push A p); have h2 := push_len A p; simp only [List.foldl_cons, List.length_cons]; first | exact Nat.le_trans (by assumption) (Nat.le_of_ble_eq_true rfl) | lia | omega
        have h3 := this (done.map fun t => (t.1, t.2.1)) []
        rw [e] at hl
        simp at h3 hl
        unfold symOf; first | exact Nat.le_trans (by assumption) (Nat.le_of_ble_eq_true rfl) | lia | omega
      have fin : ∀ g', J .next [(Str.ofString "signs", .lst (ts.map tk3)), (Str.ofString "found", .ptr st.length), (Str.ofString "one", tk3 (s, c, a))] (st ++ .lst ((push (symOf (done.map fun t => (t.1, t.2.1))) (s, c)).map pairD) :: g') := by
        intro g'
        refine hJ _ _ ⟨done ++ [(s, c, a)], todo, g', _, by rw [e]; simp, rfl, ?_, .inr ⟨_, rfl⟩, rfl⟩
        simp [symOf]
      clear hJ
      have e' := e
      clear e hb ht hl
      generalize hS : symOf (done.map fun t => (t.1, t.2.1)) = A at *
      rcases last_or A with rfl | ⟨B, ⟨t, k⟩, rfl⟩
      · rw [push_nil] at fin
        rw [List.map_nil]
        repeat' walk_at "og_step"
        all_goals exact fin _
      · have hB : (B.map pairD).length ≤ 9999 := by simp at hsl ⊢; first | exact Nat.le_trans (by assumption) (Nat.le_of_ble_eq_true rfl) | lia | omega
        have hB2 : (B.map pairD ++ [pairD (t, k)]).length ≤ 10000 := by simp at hsl ⊢; first | exact Nat.le_trans (by assumption) (Nat.le_of_ble_eq_true rfl) | lia | omega
        rw [show (B ++ [(t, k)]).map pairD = B.map pairD ++ [pairD (t, k)] from by simp]
        by_cases ht : t = s
        · subst ht
          rw [push_eq, show (B ++ [(t, k + c)]).map pairD = B.map pairD ++ [pairD (t, k + c)] from by simp] at fin
          repeat' walk_at "og_step"
          all_goals exact fin _
        · have ht' : (t == s) = false := by simpa using ht
          rw [push_ne ht', show (B ++ [(t, k), (s, c)]).map pairD = B.map pairD ++ [pairD (t, k)] ++ [pairD (s, c)] from by simp] at fin
          repeat' walk_at "og_step"
          all_goals exact fin _
set_option tactic.hygienic false
set_option genSizeOf false
theorem w1_sum {l : List Int} {L : List D} {st : Sto} {Q : D → Prop} (h0 : intsOf L = some l) (h1 : l.length ≤ 10000) (h2 : ∀ i ∈ l, 0 ≤ i ∧ i ≤ 1000000000) (h : Q (.int l.sum)) : W1 (biCall (Str.ofString "sum") [.lst L] st) Q := by
  refine w1_of ?_ h
  exact (show _ = (intsOf L).bind _ from rfl).trans ((obind h0).trans (if_pos ⟨h1, by rw [List.all_eq_true]; intro i hi; simpa using h2 i hi⟩))
theorem w1_tuple {l : List D} {x : D} {st : Sto} {Q : D → Prop} (h0 : lstOf st x = some l) (h1 : l.length ≤ 10000) (h : Q (.tup l)) : W1 (biCall (Str.ofString "tuple") [x] st) Q := by
  refine w1_of ?_ h
  exact (show _ = (lstOf st x).bind _ from rfl).trans ((obind h0).trans (if_pos h1))
theorem l_mul_int {x y : Int} {st : Sto} {Q : D → Sto → Prop} (h0 : x.natAbs < 2 ^ 64 ∨ y.natAbs < 2 ^ 64) (h : Q (.int (x * y)) st) : W2 (binop .Mult (.int x) (.int y) st) Q := w2_of (if_pos h0) h
/-- runs that stay small -/
noncomputable def wfR (l : List (PySem.Str × Int)) : Prop := l.length ≤ 100 ∧ ∀ p ∈ l, 1 ≤ p.2 ∧ p.2 ≤ 1000 ∧ 1 ≤ p.1.length ∧ p.1.length ≤ 2 ∧ PyData.strOk p.1 = true
noncomputable def laid (s : PySem.Str) : Bool := !([Str.ofString "P", Str.ofString "S", Str.ofString "V"].any (· == s))
noncomputable def sizeOf' (l : List (PySem.Str × Int)) : Int := ((l.filter fun p => laid p.1).map fun p => p.2 * ((p.1.length : Nat) : Int)).sum
noncomputable def bLaid : D → Bool
  | .tup [.str s, _] => laid s
  | _ => false
noncomputable def gLaid : D → D
  | .tup [.str s, .int c] => .int (c * ((s.length : Nat) : Int))
  | _ => .none
theorem fm_laid (l : List (PySem.Str × Int)) : ((l.map pairD).filter bLaid).map gLaid = ((l.filter fun p => laid p.1).map fun p => p.2 * ((p.1.length : Nat) : Int)).map D.int := by
  induction l with
  | nil => rfl
  | cons p l ih =>
    have e : bLaid (pairD p) = laid p.1 := rfl
    simp only [List.map_cons, List.filter_cons, e]
    cases laid p.1
    · exact ih
    · simp only [if_true, List.map_cons, ih]; rfl
theorem intsOf_map (l : List Int) : intsOf (l.map .int) = some l := by
  induction l with
  | nil => rfl
  | cons a l ih => exact congrArg (Option.map (a :: ·)) ih
theorem strsOf_map (l : List PySem.Str) : strsOf (l.map .str) = some l := by
  induction l with
  | nil => rfl
  | cons a l ih => exact congrArg (Option.map (a :: ·)) ih
theorem c147 {n : Nat} {st : Sto} {l : List (PySem.Str × Int)} (hn : 0 < n) (hp : npS st = true) (hl : wfR l) :
    callF T n 147 [.lst (l.map pairD)] st = some (.int (sizeOf' l), st) := by
  have hlen : (l.map pairD).length ≤ 10000 := by have := hl.1; simp; first | exact Nat.le_trans (by assumption) (Nat.le_of_ble_eq_true rfl) | lia | omega
  refine cp (v0 := [("symbols", .lst (l.map pairD))]) fn147 rfl (by kernel_rfl) (by kernel_rfl) hn hp ?_
  intro m hm
  ((with_reducible apply x_open); (· exact rfl))
  repeat' walk_at "og_step"
  refine w2_of (comp_fm (nm2 "sign" "count") bLaid gLaid (.inl rfl) ?_) ?_
  · intro d hd
    obtain ⟨p, hp', rfl⟩ := List.mem_map.mp hd
    obtain ⟨q1, q2, q3, q4⟩ := hl.2 p hp'
    refine ⟨_, fun vs hv => nm2_bind (by decide) vs hv, .inr ⟨_, _, rfl⟩, ?_, fun hb => ?_⟩
    · repeat' walk_at "og_step"
      all_goals exact ⟨Eq.symm (by assumption), rfl⟩
    · have q5 : p.1.length ≤ 100000 := by first | exact Nat.le_trans (by assumption) (Nat.le_of_ble_eq_true rfl) | lia | omega
      repeat' walk_at "og_step"
      refine l_mul_int (.inl (by first | exact Nat.le_trans (by assumption) (Nat.le_of_ble_eq_true rfl) | lia | omega)) ⟨rfl, rfl⟩
  · rw [fm_laid]
    repeat' walk_at "og_step"
    refine w1_sum (intsOf_map _) ?_ ?_ ?_
    · simp only [List.length_map]
      exact Nat.le_trans (List.length_filter_le _ _) (by have := hl.1; first | exact Nat.le_trans (by assumption) (Nat.le_of_ble_eq_true rfl) | lia | omega)
    · intro i hi
      obtain ⟨p, hp', rfl⟩ := List.mem_map.mp hi
      obtain ⟨q1, q2, q3, q4⟩ := hl.2 p (List.mem_filter.mp hp').1
      have : p.2 * ((p.1.length : Nat) : Int) ≤ 1000 * 2 := Int.mul_le_mul q2 (by first | exact Nat.le_trans (by assumption) (Nat.le_of_ble_eq_true rfl) | lia | omega) (by first | exact Nat.le_trans (by assumption) (Nat.le_of_ble_eq_true rfl) | lia | omega) (by first | exact Nat.le_trans (by assumption) (Nat.le_of_ble_eq_true rfl) | lia | omega)
      exact ⟨Int.mul_nonneg (by first | exact Nat.le_trans (by assumption) (Nat.le_of_ble_eq_true rfl) | lia | omega) (by first | exact Nat.le_trans (by assumption) (Nat.le_of_ble_eq_true rfl) | lia | omega), by first | exact Nat.le_trans (by assumption) (Nat.le_of_ble_eq_true rfl) | lia | omega⟩
    · repeat' walk_at "og_step"
      all_goals first | exact fin_np rfl rfl | exact freeze_np rfl
noncomputable def picNs : List PySem.Str := ["text", "symbols", "category", "digits", "scale", "is_signed", "size"].map Str.ofString
noncomputable def picD (t : D) (l : List (PySem.Str × Int)) (cat : PySem.Str) (dg sc : Int) (sg : Bool) (sz : Int) : D := .inst 84 picNs [t, .lst (l.map pairD), .str cat, .int dg, .int sc, .bool sg, .int sz]
theorem c76 {n : Nat} {st : Sto} {t : D} {l : List (PySem.Str × Int)} {cat : PySem.Str} {dg sc sz : Int} {sg : Bool} (hn : 0 < n) (hp : npS st = true) (hl : l.length ≤ 1000) :
    callF T n 76 [picD t l cat dg sc sg sz] st = some (.tup [.str cat, .tup (l.map pairD)], st) := by
  refine cp (v0 := [("self", picD t l cat dg sc sg sz)]) fn76 rfl (by kernel_rfl) (by kernel_rfl) hn hp ?_
  intro m hm
  ((with_reducible apply x_open); (· exact rfl))
  repeat' walk_at "og_step"
  refine w1_tuple rfl (by simp; first | exact Nat.le_trans (by assumption) (Nat.le_of_ble_eq_true rfl) | lia | omega) ?_
  repeat' walk_at "og_step"
  exact ⟨[], (List.append_nil _).symm, freeze_np (d := .tup [.str cat, .tup (l.map pairD)]) (andI (pairs_np l) rfl)⟩
theorem w1_inL {s : PySem.Str} {x : D} {l : List PySem.Str} {st : Sto} {Q : Bool → Prop} (h0 : seqOf st x = some (l.map .str)) (h : Q (l.any (· == s))) : W1 (cmpop .In (.str s) x st) Q := by
  refine w1_of ?_ h
  have e : ((seqOf st x).bind strsOf) = some l := by rw [h0, Option.bind_some, strsOf_map]
  cases x <;> first | (cases h0; done) | exact congrArg (Option.map fun l => l.any (· == s)) e
noncomputable def gFst : D → D
  | .tup [s, _] => s
  | _ => .none
theorem fm_fst (l : List (PySem.Str × Int)) : ((l.map pairD).filter fun _ => true).map gFst = (l.map (·.1)).map .str := by
  rw [show (l.map pairD).filter (fun _ => true) = l.map pairD from by simp]
  simp only [List.map_map]
  rfl
theorem c81 {n : Nat} {st : Sto} {s : PySem.Str} {t : D} {l : List (PySem.Str × Int)} {cat : PySem.Str} {dg sc sz : Int} {sg : Bool} (hn : 0 < n) (hp : npS st = true) (hl : l.length ≤ 1000) :
    callF T n 81 [picD t l cat dg sc sg sz, .str s] st = some (.bool ((l.map (·.1)).any (· == s)), st) := by
  have hlen : (l.map pairD).length ≤ 10000 := by simp; first | exact Nat.le_trans (by assumption) (Nat.le_of_ble_eq_true rfl) | lia | omega
  refine cp (v0 := [("self", picD t l cat dg sc sg sz), ("sign", .str s)]) fn81 rfl (by kernel_rfl) (by kernel_rfl) hn hp ?_
  intro m hm
  ((with_reducible apply x_open); (· exact rfl))
  repeat' walk_at "og_step"
  refine w2_of (comp_fm (nm2 "own" "count") (fun _ => true) gFst (.inl rfl) ?_) ?_
  · intro d hd
    obtain ⟨p, hp', rfl⟩ := List.mem_map.mp hd
    refine ⟨_, fun vs hv => nm2_bind (by decide) vs hv, .inr ⟨_, _, rfl⟩, ?_, fun hb => ?_⟩
    · repeat' walk_at "og_step"
      all_goals rfl
    · repeat' walk_at "og_step"
      all_goals rfl
  · rw [fm_fst]
    refine Leaf.mk (w1_inL rfl ?_)
    repeat' walk_at "og_step"
    all_goals first | exact fin_np rfl rfl | exact freeze_np rfl
set_option tactic.hygienic false
set_option genSizeOf false
noncomputable def pyPair (p : PySem.Str × Int) : PyData := .tuple [.str p.1, .int p.2]
theorem toPy_pairs (l : List (PySem.Str × Int)) : toPyL (l.map pairD) = some (l.map pyPair) := by
  induction l with
  | nil => rfl
  | cons p l ih => exact congrArg (Option.map (pyPair p :: ·)) ih
theorem toPy_strs (l : List PySem.Str) : toPyL (l.map .str) = some (l.map .str) := by
  induction l with
  | nil => rfl
  | cons p l ih => exact congrArg (Option.map (PyData.str p :: ·)) ih
theorem lay_pairs {l : List (PySem.Str × Int)} (h : ∀ p ∈ l, PyData.strOk p.1 = true) : PyData.canLayAll0 (l.map pyPair) = true ∧ PyData.depthAll (l.map pyPair) ≤ 1 := by
  induction l with
  | nil => exact ⟨rfl, Nat.zero_le _⟩
  | cons p l ih =>
    have h1 := ih fun q hq => h q (.tail _ hq)
    have h2 := h p (.head _)
    constructor
    · simp only [List.map_cons, PyData.canLayAll0, pyPair, PyData.canLay0, h2, h1.1]; rfl
    · show max (PyData.depth (pyPair p)) (PyData.depthAll (l.map pyPair)) ≤ 1
      exact Nat.max_le.mpr ⟨by simp [pyPair, PyData.depth, PyData.depthAll], h1.2⟩
theorem lay_strs {l : List PySem.Str} (h : ∀ p ∈ l, PyData.strOk p = true) : PyData.canLayAll0 (l.map .str) = true ∧ PyData.depthAll (l.map .str) = 0 := by
  induction l with
  | nil => exact ⟨rfl, rfl⟩
  | cons p l ih =>
    have h1 := ih fun q hq => h q (.tail _ hq)
    have h2 := h p (.head _)
    simp only [List.map_cons, PyData.canLayAll0, PyData.depthAll, PyData.canLay0, h2, h1.1, h1.2, PyData.depth]
    exact ⟨rfl, rfl⟩
theorem py_lst {st : Sto} {x : D} {l : List D} (h : lstOf st x = some l) : pyOf st x = (toPyL l).map .list := by
  cases x <;> first | (cases h; done) | skip
  · cases h; rfl
  · exact obind h
set_option tactic.hygienic true in
theorem seqEq_same {st : Sto} {x y : D} {p : PyData} (h1 : pyOf st x = some p) (h2 : pyOf st y = some p) (h3 : SeqAt.shaped p = true) : seqEq st x y = some true := by
  by_cases hh : (lstOf st y).any List.isEmpty = true ∧ (lstOf st x).isSome = true
  · refine (if_pos hh).trans ?_
    obtain ⟨l, e2⟩ : ∃ l, lstOf st y = some l := by
      cases hy : lstOf st y with
      | none => rw [hy] at hh; cases hh.1
      | some l => exact ⟨l, rfl⟩
    obtain ⟨k, e1⟩ := Option.isSome_iff_exists.mp hh.2
    rw [e2] at hh
    rw [List.isEmpty_iff.mp hh.1] at e2
    cases h2.symm.trans (py_lst e2)
    obtain ⟨ps, q, r⟩ := mapO ((py_lst e1).symm.trans h1)
    cases r
    rw [e1]
    cases k with
    | nil => rfl
    | cons a k =>
      obtain ⟨p, -, q⟩ := bindO q
      obtain ⟨ps, -, q⟩ := mapO q
      cases q
  · exact (if_neg hh).trans ((obind h1).trans ((obind h2).trans ((if_pos (by rw [h3]; rfl)).trans (congrArg some (SeqAt.eqv_refl p (SeqAt.canLay_of_shaped h3))))))
theorem w1_neSame {st : Sto} {x y : D} {p : PyData} {Q : Bool → Prop} (h1 : pyOf st x = some p) (h2 : pyOf st y = some p) (h3 : SeqAt.shaped p = true) (h : Q false) : W1 (cmpop .NotEq x y st) Q := by
  refine w1_of ?_ h
  have := seqEq_same h1 h2 h3
  cases x <;> first | (cases h1; done) | exact congrArg (Option.map (!·)) this
theorem shaped_pairs {l : List (PySem.Str × Int)} (h : ∀ p ∈ l, PyData.strOk p.1 = true) : SeqAt.shaped (.tuple (l.map pyPair)) = true := by
  have := lay_pairs h
  simp only [SeqAt.shaped, PyData.canLay0, PyData.depth, this.1, Bool.true_and]
  exact decide_eq_true (by first | exact Nat.le_trans (by assumption) (Nat.le_of_ble_eq_true rfl) | lia | omega)
theorem shaped_strs {l : List PySem.Str} (h : ∀ p ∈ l, PyData.strOk p = true) : SeqAt.shaped (.list (l.map .str)) = true := by
  have := lay_strs h
  simp only [SeqAt.shaped, PyData.canLay0, PyData.depth, this.1, this.2, Bool.true_and, decide_eq_true_eq]; first | exact Nat.le_trans (by assumption) (Nat.le_of_ble_eq_true rfl) | lia | omega
theorem shaped_told {s : PySem.Str} {l : List (PySem.Str × Int)} (hs : PyData.strOk s = true) (h : ∀ p ∈ l, PyData.strOk p.1 = true) : SeqAt.shaped (.tuple [.str s, .tuple (l.map pyPair)]) = true := by
  have := lay_pairs h
  simp only [SeqAt.shaped, PyData.canLay0, PyData.canLayAll0, PyData.depth, PyData.depthAll, this.1, hs, Bool.true_and, Bool.and_true]
  exact decide_eq_true (by have := this.2; simp only [Nat.max_def]; split <;> (try split) <;> first | exact Nat.le_trans (by assumption) (Nat.le_of_ble_eq_true rfl) | lia | omega)
noncomputable def anyS (l : List PySem.Str) (s : String) : Bool := l.any (· == Str.ofString s)
noncomputable def textCat (l : List PySem.Str) : PySem.Str :=
  if anyS l "B" || anyS l "0" || anyS l "/" then Str.ofString "alnum-edited"
  else if PyData.eqv (.list (l.map .str)) (.list [.str (Str.ofString "A")]) then Str.ofString "alphabetic" else Str.ofString "alphanumeric"
theorem textCat_ok (l : List PySem.Str) : PyData.strOk (textCat l) = true := by
  unfold textCat
  split
  · decide +kernel
  · split <;> decide +kernel
theorem w1_eqLit {st g : Sto} {l : List PySem.Str} {s : PySem.Str} {Q : Bool → Prop} (h : ∀ p ∈ l, PyData.strOk p = true) (hs : PyData.strOk s = true) (q : Q (PyData.eqv (.list (l.map .str)) (.list [.str s]))) : W1 (cmpop .Eq (.lst (l.map .str)) (.ptr st.length) (st ++ .lst [.str s] :: g)) Q := by
  refine w1_of ?_ q
  have e : seqEq (st ++ .lst [.str s] :: g) (.lst (l.map .str)) (.ptr st.length) = some (PyData.eqv (.list (l.map .str)) (.list [.str s])) := by
    have h1 : lstOf (st ++ .lst [.str s] :: g) (.ptr st.length) = some [.str s] := lst_ptr (get_mid ..)
    have h2 : pyOf (st ++ .lst [.str s] :: g) (.ptr st.length) = some (.list [.str s]) := py_lst h1
    have h3 : pyOf (st ++ .lst [.str s] :: g) (.lst (l.map .str)) = some (.list (l.map .str)) := congrArg (Option.map PyData.list) (toPy_strs l)
    exact (if_neg (fun hh => by rw [h1] at hh; cases hh.1)).trans ((obind h3).trans ((obind h2).trans (if_pos (andI (shaped_strs h) (shaped_strs (l := [s]) (by simpa using hs))))))
  exact e
theorem c283 {n : Nat} {st : Sto} {l : List (PySem.Str × Int)} (hn : 0 < n) (hp : npS st = true) (hl : wfR l) :
    callF T n 283 [.lst (l.map pairD)] st = some (.str (textCat (l.map (·.1))), st) := by
  have hlen : (l.map pairD).length ≤ 10000 := by have := hl.1; simp; first | exact Nat.le_trans (by assumption) (Nat.le_of_ble_eq_true rfl) | lia | omega
  have hok : ∀ p ∈ l.map (·.1), PyData.strOk p = true := by
    intro p hp'
    obtain ⟨q, hq, rfl⟩ := List.mem_map.mp hp'
    exact (hl.2 q hq).2.2.2.2
  refine cp (v0 := [("symbols", .lst (l.map pairD))]) fn283 rfl (by kernel_rfl) (by kernel_rfl) hn hp ?_
  intro m hm
  ((with_reducible apply x_open); (· exact rfl))
  repeat' walk_at "og_step"
  refine w2_of (comp_fm (nm2 "sign" "count") (fun _ => true) gFst (.inl rfl) ?_) ?_
  · intro d hd
    obtain ⟨p, hp', rfl⟩ := List.mem_map.mp hd
    refine ⟨_, fun vs hv => nm2_bind (by decide) vs hv, .inr ⟨_, _, rfl⟩, ?_, fun hb => ?_⟩
    · repeat' walk_at "og_step"
      all_goals rfl
    · repeat' walk_at "og_step"
      all_goals rfl
  · rw [fm_fst]
    generalize hk : l.map (·.1) = k at *
    repeat' first | (with_reducible refine w1_inL rfl ?_) | ((with_reducible refine w1_eqLit ?_ ?_ ?_); (· assumption); (· decide +kernel)) | walk_at "og_step"
    all_goals
      try refine ⟨[], by simp, ?_⟩
      exact (freeze_np rfl).trans (by simp only [retD, textCat, anyS, *, Bool.true_or, Bool.or_true, Bool.or_self, if_true, Bool.false_eq_true, if_false])
set_option tactic.hygienic false
set_option genSizeOf false
noncomputable def dig (k : Nat) : List Nat := (PySem.Str.ofString (toString (k : Int))).cps.toList
theorem dig_all : (List.range 150).all (fun k => (dig k).length ≤ 3 && (1 ≤ (dig k).length && ((dig k).all isDig && (intText? (tx (dig k)) == some (k : Int) && (intText? (tx (48 :: dig k)) == some (k : Int) && (if k < 10 then (dig k).length == 1 else 2 ≤ (dig k).length)))))) = true := by decide +kernel
theorem dig_ok {k : Nat} (h : k < 150) : (dig k).length ≤ 3 ∧ 1 ≤ (dig k).length ∧ (∀ c ∈ dig k, isDig c = true) ∧ intText? (tx (dig k)) = some (k : Int) ∧ intText? (tx (48 :: dig k)) = some (k : Int) ∧ (k < 10 → (dig k).length = 1) ∧ (10 ≤ k → 2 ≤ (dig k).length) := by
  have := List.all_eq_true.mp dig_all k (List.mem_range.mpr h)
  simp only [Bool.and_eq_true, decide_eq_true_eq, beq_iff_eq, List.all_eq_true] at this
  obtain ⟨h1, h2, h3, h4, h5, h6⟩ := this
  refine ⟨h1, h2, h3, h4, h5, fun q => ?_, fun q => ?_⟩
  · rw [if_pos q] at h6; simpa using h6
  · rw [if_neg (by first | exact Nat.le_trans (by assumption) (Nat.le_of_ble_eq_true rfl) | lia | omega)] at h6; simpa using h6
theorem w1_strN {k : Nat} {st : Sto} {Q : D → Prop} (h0 : k < 1000) (h : Q (.str (tx (dig k)))) : W1 (biCall (Str.ofString "str") [.int (k : Int)] st) Q := by
  refine w1_of ?_ h
  exact (if_pos (by simp; first | exact Nat.le_trans (by assumption) (Nat.le_of_ble_eq_true rfl) | lia | omega)).trans (congrArg some (congrArg D.str (of_tx _)))
theorem l_add_op {a : List Nat} {st : Sto} {Q : D → Sto → Prop} (h0 : a.length ≤ 9000) (h : Q (.str (tx (a ++ [40]))) st) : W2 (binop .Add (.str (tx a)) (.str (Str.ofString "(")) st) Q := by
  rw [op_tx]
  exact l_add_str (by simp only [tx_len, List.length_singleton]; first | exact Nat.le_trans (by assumption) (Nat.le_of_ble_eq_true rfl) | lia | omega) (by rw [tx_add]; exact h)
theorem l_add_cl {a : List Nat} {st : Sto} {Q : D → Sto → Prop} (h0 : a.length ≤ 9000) (h : Q (.str (tx (a ++ [41]))) st) : W2 (binop .Add (.str (tx a)) (.str (Str.ofString ")")) st) Q := by
  rw [cl_tx]
  exact l_add_str (by simp only [tx_len, List.length_singleton]; first | exact Nat.le_trans (by assumption) (Nat.le_of_ble_eq_true rfl) | lia | omega) (by rw [tx_add]; exact h)
theorem l_add_tx {a b : List Nat} {st : Sto} {Q : D → Sto → Prop} (h0 : a.length + b.length ≤ 9000) (h : Q (.str (tx (a ++ b))) st) : W2 (binop .Add (.str (tx a)) (.str (tx b)) st) Q :=
  l_add_str (by simp only [tx_len]; first | exact Nat.le_trans (by assumption) (Nat.le_of_ble_eq_true rfl) | lia | omega) (by rw [tx_add]; exact h)
theorem l_mul_tx {a : List Nat} {k : Nat} {st : Sto} {Q : D → Sto → Prop} (h0 : a.length ≤ 10 ∧ k ≤ 10000) (h : Q (.str (tx (List.replicate k a).flatten)) st) : W2 (binop .Mult (.str (tx a)) (.int (k : Int)) st) Q :=
  l_mul_str (by rw [tx_len]; exact h0.1) (by first | exact Nat.le_trans (by assumption) (Nat.le_of_ble_eq_true rfl) | lia | omega) (by first | exact Nat.le_trans (by assumption) (Nat.le_of_ble_eq_true rfl) | lia | omega) (by rw [mul_tx]; exact h)
theorem w1_lenT {l : List Nat} {st : Sto} {Q : D → Prop} (h0 : l.length ≤ 100000) (h : Q (.int (l.length : Nat))) : W1 (biCall (Str.ofString "len") [.str (tx l)] st) Q :=
  w1_len (by rw [tx_len]; exact h0) (by rw [tx_len]; exact h)
noncomputable def pcs (ls : List (List Nat)) : List D := ls.map fun l => .str (tx l)
theorem pcs_strs (ls : List (List Nat)) : strsOf (pcs ls) = some (ls.map tx) := by
  induction ls with
  | nil => rfl
  | cons a ls ih => exact congrArg (Option.map (tx a :: ·)) ih
theorem w1_join {ls : List (List Nat)} {st : Sto} {Q : D → Prop} (h0 : ls.flatten.length ≤ 10000) (h : Q (.str (tx ls.flatten))) : W1 (strMeth (Str.ofString "") (Str.ofString "join") [.lst (pcs ls)] st) Q := by
  refine w1_of ?_ h
  have e : ((ls.map tx).map (·.length)).sum = ls.flatten.length := by
    simp only [List.map_map, List.length_flatten]
    congr 1
    try exact List.map_congr_left fun l _ => tx_len l
  refine (show _ = (strsOf (pcs ls)).bind _ from rfl).trans ((obind (pcs_strs ls)).trans ((if_pos ?_).trans (congrArg (fun z => some (D.str z)) (join_tx _))))
  rw [e]
  have : (Str.ofString "").length = 0 := by decide +kernel
  rw [this]; first | exact Nat.le_trans (by assumption) (Nat.le_of_ble_eq_true rfl) | lia | omega
/-- a sign's run as it is shown -/
noncomputable def shown (sg : List Nat) (k : Nat) : List Nat := if (List.replicate k sg).flatten.length ≤ (sg ++ [40] ++ dig k ++ [41]).length then (List.replicate k sg).flatten else sg ++ [40] ++ dig k ++ [41]
theorem rep_len (k : Nat) (sg : List Nat) : (List.replicate k sg).flatten.length = k * sg.length := by simp [List.length_flatten]
set_option tactic.hygienic true in
theorem c302 {n : Nat} {st : Sto} {sg : List Nat} {k : Nat} (hn : 0 < n) (hp : npS st = true) (h1 : sg.length ≤ 2) (h2 : k < 150) :
    callF T n 302 [.str (tx sg), .int (k : Int)] st = some (.str (tx (shown sg k)), st) := by
  obtain ⟨d1, -⟩ := dig_ok h2
  have hr := rep_len k sg
  have hr2 : k * sg.length ≤ 150 * 2 := Nat.mul_le_mul (by first | exact Nat.le_trans (by assumption) (Nat.le_of_ble_eq_true rfl) | lia | omega) h1
  refine cp (v0 := [("sign", .str (tx sg)), ("count", .int (k : Int))]) fn302 rfl (by kernel_rfl) (by kernel_rfl) hn hp ?_
  intro m hm
  ((with_reducible apply x_open); (· exact rfl))
  repeat' walk_at "og_step"
  all_goals
    try refine ⟨[], by simp, ?_⟩
    exact (freeze_np rfl).trans (by
      simp only [retD, shown]
      first
        | rw [if_pos (by rename_i hc; have := of_decide_eq_true hc; first | exact Nat.le_trans (by assumption) (Nat.le_of_ble_eq_true rfl) | lia | omega)]
        | rw [if_neg (by rename_i hc; have := of_decide_eq_false hc; first | exact Nat.le_trans (by assumption) (Nat.le_of_ble_eq_true rfl) | lia | omega)])
/-- raw runs -/
abbrev RR := List (List Nat × Nat)
noncomputable def toR (rr : RR) : List (PySem.Str × Int) := rr.map fun p => (tx p.1, (p.2 : Int))
noncomputable def wfN (rr : RR) : Prop := rr.length ≤ 50 ∧ ∀ p ∈ rr, 1 ≤ p.1.length ∧ p.1.length ≤ 2 ∧ 1 ≤ p.2 ∧ p.2 < 150 ∧ (∀ c ∈ p.1, c < 128)
theorem wf_toR {rr : RR} (h : wfN rr) : wfR (toR rr) := by
  refine ⟨by have := h.1; simp [toR]; first | exact Nat.le_trans (by assumption) (Nat.le_of_ble_eq_true rfl) | lia | omega, fun p hp => ?_⟩
  obtain ⟨q, hq, rfl⟩ := List.mem_map.mp hp
  obtain ⟨h1, h2, h3, h4, h5⟩ := h.2 q hq
  simp only [tx_len]
  refine ⟨by first | exact Nat.le_trans (by assumption) (Nat.le_of_ble_eq_true rfl) | lia | omega, by first | exact Nat.le_trans (by assumption) (Nat.le_of_ble_eq_true rfl) | lia | omega, h1, h2, ?_⟩
  simp only [PyData.strOk, tx, List.all_toArray', List.all_eq_true, decide_eq_true_eq]
  intro c hc
  have := h5 c hc
  first | exact Nat.le_trans (by assumption) (Nat.le_of_ble_eq_true rfl) | lia | omega
noncomputable def showRR (rr : RR) : List Nat := (rr.map fun p => shown p.1 p.2).flatten
theorem map_toR (rr : RR) : (toR rr).map pairD = rr.map fun p => .tup [.str (tx p.1), .int (p.2 : Int)] := by simp [toR, pairD]
noncomputable def gShown : D → D
  | .tup [.str s, .int c] => .str (tx (shown s.cps.toList c.toNat))
  | _ => .none
theorem fm_shown (rr : RR) : (((toR rr).map pairD).filter fun _ => true).map gShown = pcs (rr.map fun p => shown p.1 p.2) := by
  rw [show ((toR rr).map pairD).filter (fun _ => true) = (toR rr).map pairD from by simp, map_toR, List.map_map]
  simp only [pcs, List.map_map]
  rfl
theorem shown_len {sg : List Nat} {k : Nat} (h2 : k < 150) (h1 : sg.length ≤ 2) : (shown sg k).length ≤ 7 := by
  obtain ⟨d1, -⟩ := dig_ok h2
  have e : (sg ++ [40] ++ dig k ++ [41]).length = sg.length + (dig k).length + 2 := by simp; first | exact Nat.le_trans (by assumption) (Nat.le_of_ble_eq_true rfl) | lia | omega
  unfold shown
  split
  · first | exact Nat.le_trans (by assumption) (Nat.le_of_ble_eq_true rfl) | lia | omega
  · first | exact Nat.le_trans (by assumption) (Nat.le_of_ble_eq_true rfl) | lia | omega
theorem show_le {rr : RR} (h : wfN rr) : (showRR rr).length ≤ 7 * rr.length := by
  obtain ⟨-, h⟩ := h
  unfold showRR
  induction rr with
  | nil => simp
  | cons p rr ih =>
    have h1 := h p (.head _)
    have := shown_len (sg := p.1) (k := p.2) h1.2.2.2.1 h1.2.1
    have := ih fun q hq => h q (.tail _ hq)
    simp only [List.map_cons, List.flatten_cons, List.length_append, List.length_cons]; first | exact Nat.le_trans (by assumption) (Nat.le_of_ble_eq_true rfl) | lia | omega
theorem c307 {n : Nat} {st : Sto} {t : D} {rr : RR} {cat : PySem.Str} {dg sc sz : Int} {sg : Bool} (hn : 1 < n) (hp : npS st = true) (hl : wfN rr) :
    callF T n 307 [picD t (toR rr) cat dg sc sg sz] st = some (.str (tx (showRR rr)), st) := by
  have hlen : ((toR rr).map pairD).length ≤ 10000 := by have := hl.1; simp [toR]; first | exact Nat.le_trans (by assumption) (Nat.le_of_ble_eq_true rfl) | lia | omega
  have hs := show_le hl
  have hl1 := hl.1
  refine cp (v0 := [("picture", picD t (toR rr) cat dg sc sg sz)]) fn307 rfl (by kernel_rfl) (by kernel_rfl) hn hp ?_
  intro m hm
  ((with_reducible apply x_open); (· exact rfl))
  repeat' walk_at "og_step"
  refine w2_of (comp_fm (nm2 "sign" "count") (fun _ => true) gShown (.inl rfl) ?_) ?_
  · intro d hd
    rw [map_toR] at hd
    obtain ⟨p, hp', rfl⟩ := List.mem_map.mp hd
    obtain ⟨q1, q2, q3, q4, -⟩ := hl.2 p hp'
    have hc : callF T m 302 [.str (tx p.1), .int (p.2 : Int)] st = some (.str (tx (shown p.1 p.2)), st) := c302 (by first | exact Nat.le_trans (by assumption) (Nat.le_of_ble_eq_true rfl) | lia | omega) hp q2 q4
    refine ⟨_, fun vs hv => nm2_bind (by decide) vs hv, .inr ⟨_, _, rfl⟩, ?_, fun hb => ?_⟩
    · repeat' walk_at "og_step"
      all_goals rfl
    · repeat' walk_at "og_step"
      all_goals rfl
  · rw [fm_shown]
    repeat' walk_at "og_step"
    refine w1_join (by have : (rr.map fun p => shown p.1 p.2).flatten.length ≤ 7 * rr.length := hs
                       first | exact Nat.le_trans (by assumption) (Nat.le_of_ble_eq_true rfl) | lia | omega) ?_
    repeat' walk_at "og_step"
    all_goals first | exact fin_np rfl rfl | exact freeze_np rfl
theorem reps_eq (x : D) (k : Nat) : reps [x] k = List.replicate k x := by
  induction k with
  | zero => rfl
  | succ k ih => exact congrArg (x :: ·) ih
noncomputable def placeD (rr : RR) : List D := rr.flatMap fun p => List.replicate p.2 (.str (tx p.1))
theorem m_extend' {cf : CF} {st g : Sto} {k l : List D} {Q : D → Sto → Prop} (h1 : l.length + k.length ≤ 10000) (h : Q .none (st ++ .lst (l ++ k) :: g)) : W2 (methCall cf .lst (.ptr st.length) (Str.ofString "extend") [.lst k] (st ++ .lst l :: g)) Q :=
  m_extend (get_mid _ _ _) h1 (by rw [set_mid]; exact h)
theorem place_len {rr : RR} (h : ∀ p ∈ rr, p.2 < 150) : (placeD rr).length ≤ 150 * rr.length := by
  induction rr with
  | nil => simp [placeD]
  | cons p rr ih =>
    have := h p (.head _)
    have := ih fun q hq => h q (.tail _ hq)
    simp only [placeD, List.flatMap_cons, List.length_append, List.length_replicate, List.length_cons] at this ⊢; first | exact Nat.le_trans (by assumption) (Nat.le_of_ble_eq_true rfl) | lia | omega
theorem place_np (rr : RR) : npL (placeD rr) = true := by
  induction rr with
  | nil => rfl
  | cons p rr ih =>
    refine npLA (b := placeD rr) (?_ : npL (List.replicate p.2 (.str (tx p.1))) = true) ih
    generalize p.2 = k
    induction k with
    | zero => rfl
    | succ k ih2 => exact ih2
theorem e_list1 {st g : Sto} {x : Ob} {d : D} {Q : D → Sto → Prop} (h : Q (.ptr (st ++ x :: g).length) (st ++ x :: (g ++ [.lst [d]]))) : NewL [d] (st ++ x :: g) Q :=
  ⟨Nat.le_of_ble_eq_true rfl, by rw [List.append_assoc]; exact h⟩
theorem l_mulM {st g : Sto} {x : Ob} {d : D} {k : Nat} {Q : D → Sto → Prop} (h0 : k ≤ 10000) (h : Q (.lst (List.replicate k d)) (st ++ x :: (g ++ [.lst [d]]))) : W2 (binop .Mult (.ptr (st ++ x :: g).length) (.int (k : Int)) (st ++ x :: (g ++ [.lst [d]]))) Q := by
  refine l_mul_lst (k := [d]) ?_ (by simp) (by first | exact Nat.le_trans (by assumption) (Nat.le_of_ble_eq_true rfl) | lia | omega) (by first | exact Nat.le_trans (by assumption) (Nat.le_of_ble_eq_true rfl) | lia | omega) ?_
  · rw [show st ++ x :: (g ++ [.lst [d]]) = (st ++ x :: g) ++ .lst [d] :: [] from by simp]
    exact lst_ptr (get_mid ..)
  · rw [show ((k : Int)).toNat = k from by first | exact Nat.le_trans (by assumption) (Nat.le_of_ble_eq_true rfl) | lia | omega, reps_eq]; exact h
theorem c314 {n : Nat} {st : Sto} {t : D} {rr : RR} {cat : PySem.Str} {dg sc sz : Int} {sg : Bool} (hn : 0 < n) (hp : npS st = true) (hl : wfN rr) :
    callF T n 314 [picD t (toR rr) cat dg sc sg sz] st = some (.lst (placeD rr), st) := by
  have hlen : ((toR rr).map pairD).length ≤ 10000 := by have := hl.1; simp [toR]; first | exact Nat.le_trans (by assumption) (Nat.le_of_ble_eq_true rfl) | lia | omega
  refine cpJn (v0 := [("picture", picD t (toR rr) cat dg sc sg sz)]) fn314 rfl (by kernel_rfl) (by kernel_rfl) hn hp ?_
  intro m hm X hX
  ((with_reducible apply x_open); (· exact rfl))
  repeat' walk_at "og_step"
  refine x_for' rfl rfl ?_
  repeat' walk_at "og_step"
  refine forL_indJ (fun ds vs s => ∃ done todo g tail, rr = done ++ todo ∧ ds = (toR todo).map pairD ∧ s = st ++ .lst (placeD done) :: g ∧ (tail = [] ∨ ∃ d e, tail = [(Str.ofString "sign", d), (Str.ofString "count", e)]) ∧
    vs = [(Str.ofString "picture", picD t (toR rr) cat dg sc sg sz), (Str.ofString "found", .ptr st.length)] ++ tail) ?_ ?_ _ _ _ ⟨[], rr, [], [], rfl, rfl, rfl, .inl rfl, rfl⟩
  · rintro vs s ⟨done, todo, g, tail, e, e2, rfl, ht, rfl⟩
    have : todo = [] := by cases todo with | nil => rfl | cons a b => simp [toR] at e2
    subst this
    rw [List.append_nil] at e
    subst e
    rcases ht with rfl | ⟨d, d', rfl⟩
    all_goals
      repeat' walk_at "og_step"
      all_goals exact hX _ _ _ _ rfl (freeze_mid (place_np _))
  · rintro d ds vs s ⟨done, todo, g, tail, e, e2, rfl, ht, rfl⟩ J hJ
    clear hX
    cases todo with
    | nil => simp [toR] at e2
    | cons p todo =>
      rw [map_toR] at e2
      simp only [List.map_cons, List.cons.injEq] at e2
      obtain ⟨rfl, rfl⟩ := e2
      have hp5 : p.2 ≤ 10000 := by have := hl.2 p (by rw [e]; simp); first | exact Nat.le_trans (by assumption) (Nat.le_of_ble_eq_true rfl) | lia | omega
      have hl5 : (placeD done).length + (List.replicate p.2 (D.str (tx p.1))).length ≤ 10000 := by
        have h1 := place_len (rr := done) fun q hq => (hl.2 q (by rw [e]; simp [hq])).2.2.2.1
        have h2 := hl.1
        have h3 := (hl.2 p (by rw [e]; simp)).2.2.2.1
        rw [e] at h2
        simp at h2 ⊢
        first | exact Nat.le_trans (by assumption) (Nat.le_of_ble_eq_true rfl) | lia | omega
      have hb : ∀ (q q' : Pos) a b, bindT (.Tuple [.Name (Str.ofString "sign") q, .Name (Str.ofString "count") q'] a b) (.tup [.str (tx p.1), .int (p.2 : Int)]) ([(Str.ofString "picture", picD t (toR rr) cat dg sc sg sz), (Str.ofString "found", .ptr st.length)] ++ tail) = some [(Str.ofString "picture", picD t (toR rr) cat dg sc sg sz), (Str.ofString "found", .ptr st.length), (Str.ofString "sign", .str (tx p.1)), (Str.ofString "count", .int (p.2 : Int))] := by
        intro q q' a b
        rcases ht with rfl | ⟨d, d', rfl⟩ <;> rfl
      refine w1_of (hb _ _ _ _) ?_
      have fin : ∀ g', J .next [(Str.ofString "picture", picD t (toR rr) cat dg sc sg sz), (Str.ofString "found", .ptr st.length), (Str.ofString "sign", .str (tx p.1)), (Str.ofString "count", .int (p.2 : Int))] (st ++ .lst (placeD done ++ List.replicate p.2 (.str (tx p.1))) :: g') := by
        intro g'
        refine hJ _ _ ⟨done ++ [p], todo, g', _, by rw [e]; simp, (map_toR _).symm, ?_, .inr ⟨_, _, rfl⟩, rfl⟩
        simp [placeD]
      clear hJ
      clear hb ht
      repeat' walk_at "og_step"
      all_goals exact fin _
set_option tactic.hygienic false
set_option genSizeOf false
theorem pic_np {t : D} {l : List (PySem.Str × Int)} {cat : PySem.Str} {dg sc sz : Int} {sg : Bool} (ht : np t = true) : np (picD t l cat dg sc sg sz) = true := andI ht (andI (pairs_np l) rfl)
theorem nPicture {n : Nat} {st : Sto} {t : D} {l : List (PySem.Str × Int)} {cat : PySem.Str} {dg sc sz : Int} {sg : Bool} (hn : 0 < n) (hp : npS st = true) (ht : np t = true) :
    nameCall T (callF T n) (Str.ofString "Picture") [t, .lst (l.map pairD), .str cat, .int dg, .int sc, .bool sg, .int sz] st = some (picD t l cat dg sc sg sz, st) := by
  have hd : npL [t, .lst (l.map pairD), .str cat, .int dg, .int sc, .bool sg, .int sz] = true := pic_np (cat := cat) (dg := dg) (sc := sc) (sz := sz) (sg := sg) ht
  obtain ⟨d, s', e, rfl, rfl⟩ : W2 (nameCall T (callF T n) (Str.ofString "Picture") [t, .lst (l.map pairD), .str cat, .int dg, .int sc, .bool sg, .int sz] st) fun d s' => d = picD t l cat dg sc sg sz ∧ s' = st := by
    refine n_data (c := 84) (i := 69) rfl (w2_of (c69 hn hp hd) ⟨rfl, picD t l cat dg sc sg sz, ?_, st, ?_, rfl, rfl⟩)
    · refine (if_neg (Nat.lt_irrefl _)).trans ?_
      rw [get_mid]
      exact congrArg (Option.map (D.inst 84 _)) (fzL_np _ _ hd)
    · rw [List.take_left, fzSto_np hp]
  exact e
theorem w2_pic {n : Nat} {st : Sto} {t : D} {l : List (PySem.Str × Int)} {cat : PySem.Str} {dg sc sz : Int} {sg : Bool} {Q : D → Sto → Prop} (h : 0 < n ∧ npS st = true ∧ np t = true) (q : Q (picD t l cat dg sc sg sz) st) : W2 (nameCall T (callF T n) (Str.ofString "Picture") [t, .lst (l.map pairD), .str cat, .int dg, .int sc, .bool sg, .int sz] st) Q := w2_of (nPicture h.1 h.2.1 h.2.2) q
theorem forL_skip {t : Expr} {body : Vars → Sto → Xr} {X : Fl → Vars → Sto → Prop} {st : Sto} (S : Vars → Prop) (h0 : ∀ vs, S vs → X .next vs st) (P : D → Prop)
    (hs : ∀ d vs, P d → S vs → W1 (bindT t d vs) fun vs1 => W3 (body vs1 st) fun f v s => f = .next ∧ S v ∧ s = st) (ds : List D) (vs : Vars) (hS : S vs) (hd : ∀ d ∈ ds, P d) : W3 (forL t body ds vs st) X := by
  refine forL_ind (fun ds v s => (∀ d ∈ ds, P d) ∧ S v ∧ s = st) ?_ ?_ ds vs st ⟨hd, hS, rfl⟩
  · rintro v s ⟨-, h, rfl⟩; exact h0 _ h
  · rintro d ds v s ⟨h1, h2, rfl⟩
    obtain ⟨v1, e, f, v2, s2, e2, rfl, h3, rfl⟩ := hs d v (h1 d (.head _)) h2
    exact ⟨v1, e, _, v2, _, e2, then_next ⟨fun x hx => h1 x (.tail _ hx), h3, rfl⟩⟩
noncomputable def isTextSg (s : PySem.Str) : Bool := [Str.ofString "A", Str.ofString "X", Str.ofString "9", Str.ofString "B", Str.ofString "0", Str.ofString "/"].any (· == s)
theorem c290 {n : Nat} {st : Sto} {x : D} {ts : List (PySem.Str × Int × Int)} {rr : RR} (hn : 1 < n) (hp : npS st = true) (hx : np x = true) (hl : ts.length ≤ 100) (hs : symOf (ts.map fun t => (t.1, t.2.1)) = toR rr) (hw : wfN rr) (hz : sizeOf' (toR rr) ≤ 9999) (ht : ∀ t ∈ ts, isTextSg t.1 = true) :
    callF T n 290 [x, .lst (ts.map tk3)] st = some (picD x (toR rr) (textCat ((toR rr).map (·.1))) 0 0 false (sizeOf' (toR rr)), st) := by
  refine cp (v0 := [("text", x), ("signs", .lst (ts.map tk3))]) fn290 rfl (by kernel_rfl) (by kernel_rfl) hn hp ?_
  intro m hm
  have h1 : callF T m 142 [.lst (ts.map tk3)] st = some (.lst ((toR rr).map pairD), st) := by rw [← hs]; exact c142 (by first | exact Nat.le_trans (by assumption) (Nat.le_of_ble_eq_true rfl) | lia | omega) hp (by first | exact Nat.le_trans (by assumption) (Nat.le_of_ble_eq_true rfl) | lia | omega)
  have h2 : callF T m 147 [.lst ((toR rr).map pairD)] st = some (.int (sizeOf' (toR rr)), st) := c147 (by first | exact Nat.le_trans (by assumption) (Nat.le_of_ble_eq_true rfl) | lia | omega) hp (wf_toR hw)
  have h3 : callF T m 283 [.lst ((toR rr).map pairD)] st = some (.str (textCat ((toR rr).map (·.1))), st) := c283 (by first | exact Nat.le_trans (by assumption) (Nat.le_of_ble_eq_true rfl) | lia | omega) hp (wf_toR hw)
  have hend : npS st = true := hp
  ((with_reducible apply x_open); (· exact rfl))
  repeat' walk_at "og_step"
  refine x_for' rfl rfl ?_
  repeat' walk_at "og_step"
  refine w1_itemsL ⟨tk3_np _, by simp; first | exact Nat.le_trans (by assumption) (Nat.le_of_ble_eq_true rfl) | lia | omega⟩ ?_
  refine forL_skip (fun vs => ∃ tail, (tail = [] ∨ ∃ d, tail = [(Str.ofString "one", d)]) ∧ vs = [(Str.ofString "text", x), (Str.ofString "signs", .lst (ts.map tk3))] ++ tail) ?_ (fun d => ∃ t ∈ ts, d = tk3 t) ?_ _ _ ⟨[], .inl rfl, rfl⟩ (fun d hd => by obtain ⟨t, h, rfl⟩ := List.mem_map.mp hd; exact ⟨t, h, rfl⟩)
  · rintro vs ⟨tail, ht, rfl⟩
    have hfr : np (picD x (toR rr) (textCat ((toR rr).map (·.1))) 0 0 false (sizeOf' (toR rr))) = true := pic_np hx
    rcases ht with rfl | ⟨d, rfl⟩
    all_goals
      repeat' walk_at "og_step"
      all_goals exact fin_np hfr rfl
  · rintro d vs ⟨t, hmem, rfl⟩ ⟨tail, hta, rfl⟩
    have htx : ([Str.ofString "A", Str.ofString "X", Str.ofString "9", Str.ofString "B", Str.ofString "0", Str.ofString "/"].any (· == t.1)) = true := ht t hmem
    have hb : ∀ (q : Pos), bindT (.Name (Str.ofString "one") q) (tk3 t) ([(Str.ofString "text", x), (Str.ofString "signs", .lst (ts.map tk3))] ++ tail) = some [(Str.ofString "text", x), (Str.ofString "signs", .lst (ts.map tk3)), (Str.ofString "one", tk3 t)] := by
      intro q
      rcases hta with rfl | ⟨d, rfl⟩ <;> rfl
    refine w1_of (hb _) ?_
    repeat' walk_at "og_step"
    all_goals first | rfl | exact ⟨⟨_, .inr ⟨_, rfl⟩, rfl⟩, rfl⟩ | exact ⟨rfl, ⟨_, .inr ⟨_, rfl⟩, rfl⟩, rfl⟩
set_option tactic.hygienic false
set_option genSizeOf false
theorem l_mod {x y : Int} {st : Sto} {Q : D → Sto → Prop} (h0 : y ≠ 0) (h : Q (.int (x.fmod y)) st) : W2 (binop .Mod (.int x) (.int y) st) Q := w2_of (show (if y = 0 then none else some (x.fmod y)).map _ = _ by rw [if_neg h0]; rfl) h
theorem l_fdiv {x y : Int} {st : Sto} {Q : D → Sto → Prop} (h0 : 0 < y ∧ y < 1000000000) (h : Q (.int (x.fdiv y)) st) : W2 (binop .FloorDiv (.int x) (.int y) st) Q := w2_of (show (if 0 < y ∧ y < 1000000000 then some (x.fdiv y) else none).map _ = _ by rw [if_pos h0]; rfl) h
theorem x_sub0' {cf : CF} {sc : Scope} {vs : Vars} {st : Sto} {p op : Pos} {base : Nat} {o k e : Expr} {X : Fl → Vars → Sto → Prop} (h0 : isComp e = false) (h : W2 (ev T cf e sc vs st) fun v s => W2 (ev T cf o sc vs s) fun q s => W2 (ev T cf k sc vs s) fun j s => ∃ x g, q = .ptr 0 ∧ j = .int 0 ∧ s = .lst [x] :: g ∧
      X .next vs (.lst [v] :: g)) : W3 (ex T cf (.Assign [.Subscript o k op] e p) sc base vs st) X := by
  refine x_sub0 h0 (w2_mono h fun v s h => w2_mono h fun q s h => w2_mono h fun j s h => ?_)
  obtain ⟨x, g, rfl, rfl, rfl, h⟩ := h
  exact ⟨0, [x], rfl, rfl, rfl, by simp, by simp, h⟩
theorem c321 {n : Nat} {g : Sto} {N m : Int} (hn : 0 < n) (hp : npS g = true) (h0 : 0 < m ∧ m < 1000000000) :
    callF T n 321 [.ptr 0, .int m] (B N :: g) = some (.int (N.fmod m), B (N.fdiv m) :: g) := by
  have hm0 : m ≠ 0 := by first | lia | omega
  refine cs (h := 0) (v0 := [("bag", .ptr 0), ("many", .int m)]) fn321 rfl (by kernel_rfl) (by kernel_rfl) hn (by simp) (andI rfl hp) rfl ?_
  intro k hk
  ((with_reducible apply x_open); (· exact rfl))
  repeat' first | ((with_reducible refine x_sub0' ?_ ?_); (· rfl)) | walk_at "og_step"
  all_goals exact ⟨[], by simp, rfl⟩
theorem w2_take {n : Nat} {g : Sto} {N : Int} {k : Nat} {Q : D → Sto → Prop} (hn : 0 < n) (hp : npS g = true) (h0 : 0 < k ∧ k < 1000000) (h : ∀ (r : Nat) (N' : Int), r < k → Q (.int (r : Int)) (B N' :: g)) : W2 (callF T n 321 [.ptr 0, .int ((k : Nat) : Int)] (B N :: g)) Q := by
  refine w2_of (c321 hn hp (by first | lia | omega)) ?_
  have h1 : 0 ≤ N.fmod (k : Int) := Int.fmod_nonneg_of_pos _ (by first | lia | omega)
  have h2 : N.fmod (k : Int) < (k : Int) := Int.fmod_lt_of_pos _ (by first | lia | omega)
  have := h (N.fmod (k : Int)).toNat (N.fdiv (k : Int)) (by first | lia | omega)
  rw [show (((N.fmod (k : Int)).toNat : Nat) : Int) = N.fmod (k : Int) from by first | lia | omega] at this
  exact this
noncomputable def ALONE : List (List Nat) := [[83], [86], [46], [67, 82], [68, 66]]
noncomputable def alone (sg : List Nat) : Bool := ALONE.any fun x => x == sg
theorem alone_tx (sg : List Nat) : ([Str.ofString "S", Str.ofString "V", Str.ofString ".", Str.ofString "CR", Str.ofString "DB"].any (· == tx sg)) = alone sg := by
  have e : [Str.ofString "S", Str.ofString "V", Str.ofString ".", Str.ofString "CR", Str.ofString "DB"] = ALONE.map tx := by decide +kernel
  rw [e, List.any_map]
  unfold alone
  congr 1
  funext x
  exact tx_beq x sg
noncomputable def short (sg : List Nat) (k : Nat) : List Nat := if alone sg || decide (k < 5) then (List.replicate k sg).flatten else sg ++ [40] ++ dig k ++ [41]
theorem c356 {n : Nat} {st : Sto} {sg : List Nat} {k : Nat} (hn : 0 < n) (hp : npS st = true) (h1 : sg.length ≤ 2) (h2 : k < 150) :
    callF T n 356 [.str (tx sg), .int (k : Int)] st = some (.str (tx (short sg k)), st) := by
  obtain ⟨d1, -⟩ := dig_ok h2
  have ha := alone_tx sg
  refine cp (h := 0) (v0 := [("sign", .str (tx sg)), ("count", .int (k : Int))]) fn356 rfl (by kernel_rfl) (by kernel_rfl) hn hp ?_
  intro m hm
  cases hA : alone sg with
  | true =>
    rw [hA] at ha
    ((with_reducible apply x_open); (· exact rfl))
    repeat' walk_at "og_step"
    all_goals
      refine fin_np rfl ?_
      simp only [retD, short, hA, Bool.true_or, if_true]
  | false =>
    rw [hA] at ha
    by_cases h5 : k < 5
    · ((with_reducible apply x_open); (· exact rfl))
      repeat' walk_at "og_step"
      all_goals
        refine fin_np rfl ?_
        simp only [retD, short, hA, h5, decide_true, Bool.or_true, if_true]
    · ((with_reducible apply x_open); (· exact rfl))
      repeat' walk_at "og_step"
      all_goals
        refine fin_np rfl ?_
        simp only [retD, short, hA, h5, decide_false, Bool.or_false, Bool.false_eq_true, if_false]
set_option tactic.hygienic false
set_option genSizeOf false
theorem cx {h n f : Nat} {fn : Fn} {args : List D} {st : Sto} {v0 : Vars} {R : D → Sto → Prop} (hf : T.fn f = some fn) (hk : fn.keep = false) (hl : fn.params.length = args.length) (hv : fn.params.zip args = v0) (hn : h < n)
    (run : ∀ m, h ≤ m → W3 (exs T (callF T m) fn.body fn.scope st.length v0 st) fun fl vs s => ∃ d s', freeze s st.length (retD fl) = some d ∧ fzSto s st.length (s.take st.length) = some s' ∧ R d s') :
    W2 (callF T n f args st) R := by
  obtain ⟨m, rfl⟩ : ∃ m, n = m + 1 := ⟨n - 1, by first | exact Nat.le_trans (by assumption) (Nat.le_of_ble_eq_true rfl) | lia | omega⟩
  obtain ⟨fl, vs, s, e, d, s', e1, e2, h⟩ := run m (by first | exact Nat.le_trans (by assumption) (Nat.le_of_ble_eq_true rfl) | lia | omega)
  exact w2_of (callF_eq hf hk hl hv e e1 e2) h
theorem w2_takeI {n : Nat} {g : Sto} {N m : Int} {Q : D → Sto → Prop} (hh : 0 < n ∧ npS g = true ∧ 0 < m ∧ m < 1000000) (h : ∀ (r : Nat) (N' : Int), r < m.toNat → Q (.int (r : Int)) (B N' :: g)) : W2 (callF T n 321 [.ptr 0, .int m] (B N :: g)) Q := by
  obtain ⟨hn, hp, h0⟩ := hh
  have := w2_take (N := N) (k := m.toNat) hn hp (by first | exact Nat.le_trans (by assumption) (Nat.le_of_ble_eq_true rfl) | lia | omega) h
  rw [show ((m.toNat : Nat) : Int) = m from by first | exact Nat.le_trans (by assumption) (Nat.le_of_ble_eq_true rfl) | lia | omega] at this
  exact this
theorem w2_short {n : Nat} {st : Sto} {sg : List Nat} {i : Int} {Q : D → Sto → Prop} (hh : 0 < n ∧ npS st = true ∧ sg.length ≤ 2 ∧ 0 ≤ i ∧ i < 150) (h : Q (.str (tx (short sg i.toNat))) st) : W2 (callF T n 356 [.str (tx sg), .int i] st) Q := by
  obtain ⟨hn, hp, h1, h2⟩ := hh
  have := c356 (n := n) (st := st) (sg := sg) (k := i.toNat) hn hp h1 (by first | exact Nat.le_trans (by assumption) (Nat.le_of_ble_eq_true rfl) | lia | omega)
  rw [show ((i.toNat : Nat) : Int) = i from by first | exact Nat.le_trans (by assumption) (Nat.le_of_ble_eq_true rfl) | lia | omega] at this
  exact w2_of this h
theorem o0_tx : Str.ofString "0" = tx [48] := by decide +kernel
theorem e_tx : Str.ofString "" = tx [] := by decide +kernel
theorem l_add_0 {a : List Nat} {st : Sto} {Q : D → Sto → Prop} (h0 : a.length ≤ 9000) (h : Q (.str (tx (a ++ [48]))) st) : W2 (binop .Add (.str (tx a)) (.str (Str.ofString "0")) st) Q := by
  rw [o0_tx]
  exact l_add_str (by simp only [tx_len, List.length_singleton]; first | exact Nat.le_trans (by assumption) (Nat.le_of_ble_eq_true rfl) | lia | omega) (by rw [tx_add]; exact h)
theorem l_add_e {a : List Nat} {st : Sto} {Q : D → Sto → Prop} (h0 : a.length ≤ 9000) (h : Q (.str (tx a)) st) : W2 (binop .Add (.str (tx a)) (.str (Str.ofString "")) st) Q := by
  rw [e_tx]
  exact l_add_str (by simp only [tx_len, List.length_nil]; first | exact Nat.le_trans (by assumption) (Nat.le_of_ble_eq_true rfl) | lia | omega) (by rw [tx_add, List.append_nil]; exact h)
theorem w1_low {x y : PySem.Str} {st : Sto} {Q : D → Prop} (h1 : Txt.lower x = y ∧ x.length ≤ 10000) (h : Q (.str y)) : W1 (strMeth x (Str.ofString "lower") [] st) Q := by
  refine w1_of ?_ h
  exact (if_pos h1.2).trans (congrArg (fun z => some (D.str z)) h1.1)
noncomputable def low (c : Nat) : Nat := if 65 ≤ c ∧ c ≤ 90 then c + 32 else c
/-- what a sign may be spelled as -/
noncomputable def Spelled (sg : List Nat) (k : Nat) (w : List Nat) : Prop :=
  w = short sg k ∨ (alone sg = false ∧ ((w = sg ++ [40] ++ [48] ++ dig k ++ [41] ∨ w = sg ++ [40] ++ dig k ++ [41]) ∨ (1 < k ∧ w = sg ++ short sg (k - 1)) ∨ w = (List.replicate k (sg.map low)).flatten))
theorem short_len {sg : List Nat} {k : Nat} (h2 : k < 150) (h1 : sg.length ≤ 2) : (short sg k).length ≤ 400 := by
  obtain ⟨d1, -⟩ := dig_ok h2
  have hr := rep_len k sg
  have hr2 : k * sg.length ≤ 150 * 2 := Nat.mul_le_mul (by first | exact Nat.le_trans (by assumption) (Nat.le_of_ble_eq_true rfl) | lia | omega) h1
  unfold short
  split
  · first | exact Nat.le_trans (by assumption) (Nat.le_of_ble_eq_true rfl) | lia | omega
  · simp; first | exact Nat.le_trans (by assumption) (Nat.le_of_ble_eq_true rfl) | lia | omega
set_option tactic.hygienic true in
theorem c363 {n : Nat} {N : Int} {sg : List Nat} {k : Nat} (hn : 1 < n) (h1 : sg.length ≤ 2) (h2 : k < 150) (hk : 1 ≤ k) (hlow : alone sg = true ∨ Txt.lower (tx sg) = tx (sg.map low)) :
    W2 (callF T n 363 [.ptr 0, .str (tx sg), .int (k : Int)] [B N]) fun d s => ∃ w N', Spelled sg k w ∧ d = .str (tx w) ∧ s = [B N'] := by
  obtain ⟨d1, -⟩ := dig_ok h2
  have ha := alone_tx sg
  refine cxJ (h := 1) (v0 := [("bag", .ptr 0), ("sign", .str (tx sg)), ("count", .int (k : Int))]) fn363 rfl (by kernel_rfl) (by kernel_rfl) hn ?_
  intro m hm X hX
  have hS : ∀ w N' vs, Spelled sg k w → X (.ret (.str (tx w))) vs [B N'] := fun w N' vs h => hX _ _ _ _ _ (freeze_np rfl) (fzSto_np (st := [B _]) rfl) ⟨w, N', h, rfl, rfl⟩
  clear hX
  cases hA : alone sg with
  | true =>
    rw [hA] at ha
    clear hlow
    ((with_reducible apply x_open); (· exact rfl))
    repeat' walk_at "og_step"
    all_goals exact hS _ _ _ (.inl rfl)
  | false =>
    rw [hA] at ha
    have hlow : Txt.lower (tx sg) = tx (sg.map low) := by rcases hlow with h | h; exact absurd (h.symm.trans hA) (by decide); exact h
    have hsh : (short sg ((k : Int) - 1).toNat).length ≤ 400 := short_len (by first | exact Nat.le_trans (by assumption) (Nat.le_of_ble_eq_true rfl) | lia | omega) h1
    have hkk : ((k : Int) - 1).toNat = k - 1 := by first | exact Nat.le_trans (by assumption) (Nat.le_of_ble_eq_true rfl) | lia | omega
    have hml : (sg.map low).length ≤ 2 := by simpa using h1
    have hml2 : (sg.map low).length ≤ 10 := by first | exact Nat.le_trans (by assumption) (Nat.le_of_ble_eq_true rfl) | lia | omega
    ((with_reducible apply x_open); (· exact rfl))
    repeat' walk_at "og_step"
    all_goals first
      | exact hS _ _ _ (.inl rfl)
      | exact hS _ _ _ (.inr ⟨hA, .inl (.inl rfl)⟩)
      | exact hS _ _ _ (.inr ⟨hA, .inl (.inr rfl)⟩)
      | exact hS _ _ _ (.inr ⟨hA, .inr (.inr rfl)⟩)
      | (rw [hkk]; exact hS _ _ _ (.inr ⟨hA, .inr (.inl ⟨by (rename_i hc _; have := of_decide_eq_true hc; omega), rfl⟩)⟩))
      | (rw [hkk]; exact hS _ _ _ (.inr ⟨hA, .inr (.inl ⟨by (rename_i hc; have := of_decide_eq_true hc; omega), rfl⟩)⟩))
set_option tactic.hygienic false
set_option genSizeOf false
theorem get_end (g : Sto) (x : Ob) : (g ++ [x])[g.length]? = some x := by simp
theorem get_app {g h : Sto} {i : Nat} {x : Ob} (e : g[i]? = some x) : (g ++ h)[i]? = some x := by
  obtain ⟨hl, _⟩ := List.getElem?_eq_some_iff.mp e
  rw [List.getElem?_append_left hl]; exact e
theorem e_listC {N : Int} {g : Sto} {l : List D} {Q : D → Sto → Prop} (h : true = Nat.ble l.length 1000) (q : Q (.ptr (g.length + 1)) (B N :: (g ++ [.lst l]))) : NewL l (B N :: g) Q := ⟨Nat.le_of_ble_eq_true h.symm, q⟩
theorem l_addC {g : Sto} {N : Int} {i j : Nat} {k l : List D} {Q : D → Sto → Prop} (hh : g[i]? = some (.lst k) ∧ g[j]? = some (.lst l) ∧ k.length + l.length ≤ 10000) (h : Q (.ptr (g.length + 1)) (B N :: (g ++ [.lst (k ++ l)]))) :
    W2 (binop .Add (.ptr (i + 1)) (.ptr (j + 1)) (B N :: g)) Q :=
  l_add_lst (k := k) (l := l) (lst_ptr hh.1) (lst_ptr hh.2.1) hh.2.2 h
theorem rsv_ge {st : Sto} {n k i : Nat} {ob : Ob} (h : st[i]? = some ob) (hi : ¬ i < n) : rsv st n (k + 1) i = rsvO (fzL (rsv st n k)) ob := (show rsv st n (k + 1) i = (st[i]?).bind (rsvO (fzL (rsv st n k))) from if_neg hi).trans (obind h)
theorem freezeC {N : Int} {g : Sto} {j : Nat} {l : List D} (h0 : g[j]? = some (.lst l)) (h1 : npL l = true) : freeze (B N :: g) 1 (.ptr (j + 1)) = some (.lst l) := by
  exact (rsv_ge (st := B N :: g) (n := 1) (i := j + 1) (k := 3) (ob := .lst l) h0 (Nat.not_lt_of_le (Nat.succ_le_succ (Nat.zero_le j)))).trans (congrArg (Option.map D.lst) (fzL_np _ l h1))
theorem and3 {a b : Bool} (h : a = true) (k : b = true) : (a && b) = true := by rw [h, k]; rfl
theorem x_cut {T : Tab} {cf : CF} {sc : Scope} {vs : Vars} {st : Sto} {base : Nat} {s : Stmt} {rest : List Stmt} {X : Fl → Vars → Sto → Prop} (I : Vars → Sto → Prop) (hh : T.hint s.pos.line = none) (h1 : W3 (ex T cf s sc base vs st) fun f v t => f = .next ∧ I v t) (h2 : ∀ v t, I v t → W3 (exs T cf rest sc base v t) X) : W3 (exs T cf (s :: rest) sc base vs st) X := by
  refine x_cons hh (w3_mono h1 ?_)
  rintro f v t ⟨rfl, h⟩
  exact then_next (h2 v t h)
noncomputable def NumR (rr : RR) : Prop := ∃ (s : Bool) (a b : Nat), 1 ≤ a ∧ a ≤ 9 ∧ 1 ≤ b ∧ b ≤ 9 ∧ ∃ w, rr = (if s then [([83], 1)] else []) ++ w ∧ (w = [([57], a)] ∨ w = [([57], a), ([86], 1), ([57], b)] ∨ w = [([86], 1), ([80], b), ([57], a)] ∨ w = [([57], a), ([80], b)])
theorem S_tx : Str.ofString "S" = tx [83] := by decide +kernel
theorem n9_tx : Str.ofString "9" = tx [57] := by decide +kernel
theorem V_tx : Str.ofString "V" = tx [86] := by decide +kernel
theorem P_tx : Str.ofString "P" = tx [80] := by decide +kernel
theorem toR_app (a b : RR) : toR (a ++ b) = toR a ++ toR b := by simp [toR]
theorem fin_runs {N : Int} {g : Sto} {a w : RR} {l0 l1 : List D} {P : RR → Prop} (h0 : l0 = (toR a).map pairD) (h1 : l1 = (toR w).map pairD) (hP : P (a ++ w)) :
    ∃ d s', freeze (B N :: (g ++ [.lst (l0 ++ l1)])) 1 (.ptr (g.length + 1)) = some d ∧ fzSto (B N :: (g ++ [.lst (l0 ++ l1)])) 1 ((B N :: (g ++ [.lst (l0 ++ l1)])).take 1) = some s' ∧ ∃ rr N', P rr ∧ d = .lst ((toR rr).map pairD) ∧ s' = [B N'] := by
  subst h0 h1
  rw [← List.map_append, ← toR_app]
  exact ⟨_, _, freezeC (get_end _ _) (pairs_np _), fzSto_np (st := [B N]) rfl, _, _, hP, rfl, rfl⟩
set_option tactic.hygienic true in
theorem c335 {n : Nat} {N : Int} (hn : 1 < n) :
    W2 (callF T n 335 [.ptr 0] [B N]) fun d s => ∃ rr N', NumR rr ∧ d = .lst ((toR rr).map pairD) ∧ s = [B N'] := by
  refine cx (h := 1) (v0 := [("bag", .ptr 0)]) fn335 rfl (by kernel_rfl) (by kernel_rfl) hn ?_
  intro m hm
  ((with_reducible apply x_open); (· exact rfl))
  refine x_cut (fun v t => ∃ (N' : Int) (g : Sto) (j : Nat) (sb : Bool) (l0 : List D), t = B N' :: g ∧ npS g = true ∧ g[j]? = some (.lst l0) ∧ l0.length ≤ 5 ∧ l0 = (toR (if sb then [([83], 1)] else [])).map pairD ∧ v = [(Str.ofString "bag", .ptr 0), (Str.ofString "runs", .ptr (j + 1))]) rfl ?_ ?_
  · repeat' walk_at "og_step"
    · exact ⟨_, [_], 0, true, _, rfl, rfl, rfl, by simp, by rw [S_tx]; rfl, rfl⟩
    · exact ⟨_, [_], 0, false, _, rfl, rfl, rfl, by simp, rfl, rfl⟩
  · rintro v t ⟨N', g, j, sb, l0, rfl, hg, hj, hl0, hl1, rfl⟩
    repeat' walk_at "og_step"
    · rename_i r1 _ h1 r2 _ h2 r3 _ h3 _
      exact fin_runs (w := [([57], 1 + r1)]) hl1 (by rw [n9_tx]; rfl) ⟨sb, 1 + r1, 1 + r2, by first | lia | omega, by first | lia | omega, by first | lia | omega, by first | lia | omega, _, rfl, .inl rfl⟩
    · rename_i r1 _ h1 r2 _ h2 r3 _ h3 _ _
      exact fin_runs (w := [([57], 1 + r1), ([86], 1), ([57], 1 + r2)]) hl1 (by rw [n9_tx, V_tx]; rfl) ⟨sb, 1 + r1, 1 + r2, by first | lia | omega, by first | lia | omega, by first | lia | omega, by first | lia | omega, _, rfl, .inr (.inl rfl)⟩
    · rename_i r1 _ h1 r2 _ h2 r3 _ h3 _ _ _
      exact fin_runs (w := [([86], 1), ([80], 1 + r2), ([57], 1 + r1)]) hl1 (by rw [n9_tx, V_tx, P_tx]; rfl) ⟨sb, 1 + r1, 1 + r2, by first | lia | omega, by first | lia | omega, by first | lia | omega, by first | lia | omega, _, rfl, .inr (.inr (.inl rfl))⟩
    · rename_i r1 _ h1 r2 _ h2 r3 _ h3 _ _ _
      exact fin_runs (w := [([57], 1 + r1), ([80], 1 + r2)]) hl1 (by rw [n9_tx, P_tx]; rfl) ⟨sb, 1 + r1, 1 + r2, by first | lia | omega, by first | lia | omega, by first | lia | omega, by first | lia | omega, _, rfl, .inr (.inr (.inr rfl))⟩
set_option tactic.hygienic false
set_option genSizeOf false
theorem w1_pickC {g : Sto} {N : Int} {j r : Nat} {l : List D} {Q : D → Prop} (hh : g[j]? = some (.lst l) ∧ r < l.length ∧ l.length ≤ 100) (h : ∀ x, x ∈ l → Q x) : W1 (getI (B N :: g) (.ptr (j + 1)) (.int (r : Nat))) Q := by
  obtain ⟨h0, h1⟩ := hh
  refine w1_of ?_ (h l[r] (List.getElem_mem h1.1))
  have e : lstOf (B N :: g) (.ptr (j + 1)) = some l := lst_ptr h0
  refine (getI_ptr e).trans ?_
  rw [if_pos (by first | exact Nat.le_trans (by assumption) (Nat.le_of_ble_eq_true rfl) | lia | omega), if_pos (by first | exact Nat.le_trans (by assumption) (Nat.le_of_ble_eq_true rfl) | lia | omega)]
  simp [h1.1]
theorem w1_get0C {g : Sto} {N : Int} {j : Nat} {x : D} {l : List D} {Q : D → Prop} (hh : g[j]? = some (.lst (x :: l)) ∧ l.length ≤ 100) (h : Q x) : W1 (getI (B N :: g) (.ptr (j + 1)) (.int 0)) Q := by
  obtain ⟨h0, h1⟩ := hh
  refine w1_of ?_ h
  have e : lstOf (B N :: g) (.ptr (j + 1)) = some (x :: l) := lst_ptr h0
  refine (getI_ptr e).trans ?_
  rw [if_pos (by simp; first | exact Nat.le_trans (by assumption) (Nat.le_of_ble_eq_true rfl) | lia | omega), if_pos (by first | exact Nat.le_trans (by assumption) (Nat.le_of_ble_eq_true rfl) | lia | omega)]
  rfl
theorem m_appC {cf : CF} {g : Sto} {N : Int} {j : Nat} {l : List D} {x : D} {Q : D → Sto → Prop} (hh : g[j]? = some (.lst l) ∧ l.length ≤ 1000) (h : Q .none (B N :: g.set j (.lst (l ++ [x])))) : W2 (methCall cf .lst (.ptr (j + 1)) (Str.ofString "append") [x] (B N :: g)) Q :=
  m_append (l := l) (by simpa using hh.1) (Nat.le_trans hh.2 (by decide)) h
theorem w1_range {r : Nat} {st : Sto} {Q : D → Prop} (h0 : r ≤ 1000) (h : Q (.rng (r : Nat))) : W1 (biCall (Str.ofString "range") [.int (r : Nat)] st) Q := by
  refine w1_of ?_ h
  exact if_pos ⟨by first | exact Nat.le_trans (by assumption) (Nat.le_of_ble_eq_true rfl) | lia | omega, by first | exact Nat.le_trans (by assumption) (Nat.le_of_ble_eq_true rfl) | lia | omega⟩
theorem seqEqC {g : Sto} {N : Int} {i j : Nat} {l : List D} (h0 : g[i]? = some (.lst l)) (h1 : g[j]? = some (.lst [])) : seqEq (B N :: g) (.ptr (i + 1)) (.ptr (j + 1)) = some l.isEmpty := by
  have e1 : lstOf (B N :: g) (.ptr (i + 1)) = some l := lst_ptr h0
  have e2 : lstOf (B N :: g) (.ptr (j + 1)) = some [] := lst_ptr h1
  exact seqEq_nil e1 e2
theorem w1_neNilC {g : Sto} {N : Int} {i j : Nat} {l : List D} {Q : Bool → Prop} (hh : g[i]? = some (.lst l) ∧ g[j]? = some (.lst [])) (h : Q (!l.isEmpty)) : W1 (cmpop .NotEq (.ptr (i + 1)) (.ptr (j + 1)) (B N :: g)) Q := by
  refine w1_of ?_ h
  exact congrArg (Option.map (!·)) (seqEqC hh.1 hh.2)
theorem w1_eqNilC {g : Sto} {N : Int} {i j : Nat} {l : List D} {Q : Bool → Prop} (hh : g[i]? = some (.lst l) ∧ g[j]? = some (.lst [])) (h : Q l.isEmpty) : W1 (cmpop .Eq (.ptr (i + 1)) (.ptr (j + 1)) (B N :: g)) Q := by
  refine w1_of ?_ h
  exact seqEqC hh.1 hh.2
noncomputable def TXT : List (List Nat) := [[65], [88], [57], [66], [48], [47]]
noncomputable def TextR (rr : RR) : Prop := ∃ c w, rr = ([88], c) :: w ∧ 1 ≤ c ∧ c ≤ 100 ∧ w.length ≤ 3 ∧ ∀ p ∈ w, p.1 ∈ TXT ∧ 1 ≤ p.2 ∧ p.2 ≤ 12
theorem X_tx : Str.ofString "X" = tx [88] := by decide +kernel
theorem pick_x {x : D} (h : x ∈ [D.int 1, .int 2, .int 4, .int 5, .int 10, .int 100]) : ∃ c : Nat, 1 ≤ c ∧ c ≤ 100 ∧ x = .int (c : Int) := by
  simp only [List.mem_cons, List.not_mem_nil, or_false] at h
  rcases h with rfl | rfl | rfl | rfl | rfl | rfl
  · exact ⟨1, by first | exact Nat.le_trans (by assumption) (Nat.le_of_ble_eq_true rfl) | lia | omega, by first | exact Nat.le_trans (by assumption) (Nat.le_of_ble_eq_true rfl) | lia | omega, rfl⟩
  · exact ⟨2, by first | exact Nat.le_trans (by assumption) (Nat.le_of_ble_eq_true rfl) | lia | omega, by first | exact Nat.le_trans (by assumption) (Nat.le_of_ble_eq_true rfl) | lia | omega, rfl⟩
  · exact ⟨4, by first | exact Nat.le_trans (by assumption) (Nat.le_of_ble_eq_true rfl) | lia | omega, by first | exact Nat.le_trans (by assumption) (Nat.le_of_ble_eq_true rfl) | lia | omega, rfl⟩
  · exact ⟨5, by first | exact Nat.le_trans (by assumption) (Nat.le_of_ble_eq_true rfl) | lia | omega, by first | exact Nat.le_trans (by assumption) (Nat.le_of_ble_eq_true rfl) | lia | omega, rfl⟩
  · exact ⟨10, by first | exact Nat.le_trans (by assumption) (Nat.le_of_ble_eq_true rfl) | lia | omega, by first | exact Nat.le_trans (by assumption) (Nat.le_of_ble_eq_true rfl) | lia | omega, rfl⟩
  · exact ⟨100, by first | exact Nat.le_trans (by assumption) (Nat.le_of_ble_eq_true rfl) | lia | omega, by first | exact Nat.le_trans (by assumption) (Nat.le_of_ble_eq_true rfl) | lia | omega, rfl⟩
theorem pick_y {x : D} (h : x ∈ [D.int 1, .int 2, .int 4, .int 5, .int 9, .int 12]) : ∃ c : Nat, 1 ≤ c ∧ c ≤ 12 ∧ x = .int (c : Int) := by
  simp only [List.mem_cons, List.not_mem_nil, or_false] at h
  rcases h with rfl | rfl | rfl | rfl | rfl | rfl
  · exact ⟨1, by first | exact Nat.le_trans (by assumption) (Nat.le_of_ble_eq_true rfl) | lia | omega, by first | exact Nat.le_trans (by assumption) (Nat.le_of_ble_eq_true rfl) | lia | omega, rfl⟩
  · exact ⟨2, by first | exact Nat.le_trans (by assumption) (Nat.le_of_ble_eq_true rfl) | lia | omega, by first | exact Nat.le_trans (by assumption) (Nat.le_of_ble_eq_true rfl) | lia | omega, rfl⟩
  · exact ⟨4, by first | exact Nat.le_trans (by assumption) (Nat.le_of_ble_eq_true rfl) | lia | omega, by first | exact Nat.le_trans (by assumption) (Nat.le_of_ble_eq_true rfl) | lia | omega, rfl⟩
  · exact ⟨5, by first | exact Nat.le_trans (by assumption) (Nat.le_of_ble_eq_true rfl) | lia | omega, by first | exact Nat.le_trans (by assumption) (Nat.le_of_ble_eq_true rfl) | lia | omega, rfl⟩
  · exact ⟨9, by first | exact Nat.le_trans (by assumption) (Nat.le_of_ble_eq_true rfl) | lia | omega, by first | exact Nat.le_trans (by assumption) (Nat.le_of_ble_eq_true rfl) | lia | omega, rfl⟩
  · exact ⟨12, by first | exact Nat.le_trans (by assumption) (Nat.le_of_ble_eq_true rfl) | lia | omega, by first | exact Nat.le_trans (by assumption) (Nat.le_of_ble_eq_true rfl) | lia | omega, rfl⟩
theorem A_tx : Str.ofString "A" = tx [65] := by decide +kernel
theorem B_tx : Str.ofString "B" = tx [66] := by decide +kernel
theorem sl_tx : Str.ofString "/" = tx [47] := by decide +kernel
theorem pick_s {x : D} (h : x ∈ [D.str (Str.ofString "A"), .str (Str.ofString "X"), .str (Str.ofString "9"), .str (Str.ofString "B"), .str (Str.ofString "0"), .str (Str.ofString "/")]) : ∃ s, s ∈ TXT ∧ x = .str (tx s) := by
  rw [A_tx, X_tx, n9_tx, B_tx, o0_tx, sl_tx] at h
  simp only [List.mem_cons, List.not_mem_nil, or_false] at h
  rcases h with rfl | rfl | rfl | rfl | rfl | rfl
  all_goals exact ⟨_, by decide, rfl⟩
set_option tactic.hygienic true in
theorem c342 {n : Nat} {N : Int} (hn : 1 < n) :
    W2 (callF T n 342 [.ptr 0] [B N]) fun d s => ∃ rr N', TextR rr ∧ d = .lst ((toR rr).map pairD) ∧ s = [B N'] := by
  refine cxJ (h := 1) (v0 := [("bag", .ptr 0)]) fn342 rfl (by kernel_rfl) (by kernel_rfl) hn ?_
  intro m hm X hX
  ((with_reducible apply x_open); (· exact rfl))
  refine x_cutJ (fun v t => ∃ (N' : Int) (g : Sto) (j : Nat) (rr : RR), t = B N' :: g ∧ npS g = true ∧ g[j]? = some (.lst ((toR rr).map pairD)) ∧ rr.length ≤ 1 ∧ TextR rr ∧ v = [(Str.ofString "bag", .ptr 0), (Str.ofString "runs", .ptr (j + 1))]) rfl ?_ ?_
  · intro J hJ
    repeat' walk_at "og_step"
    rename_i x hx
    obtain ⟨c, hc1, hc2, rfl⟩ := pick_x hx
    exact hJ _ _ ⟨_, [_, _], 1, [([88], c)], rfl, rfl, by rw [X_tx]; rfl, by simp, ⟨c, [], rfl, hc1, hc2, by simp, by simp⟩, rfl⟩
  · rintro v t ⟨N', g, j, rr, rfl, hg, hj, hl0, hl1, rfl⟩
    walk_at "og_step"
    walk_at "og_step"
    refine x_for' rfl rfl ?_
    repeat' walk_at "og_step"
    rename_i r N2 hr
    refine forL_indJ (fun ds v t => ∃ (N' : Int) (g : Sto) (rr : RR) (tail : Vars), t = B N' :: g ∧ npS g = true ∧ g[j]? = some (.lst ((toR rr).map pairD)) ∧ ds.length + rr.length ≤ 4 ∧ TextR rr ∧ (tail = [] ∨ ∃ d, tail = [(Str.ofString "turn", d)]) ∧ v = [(Str.ofString "bag", .ptr 0), (Str.ofString "runs", .ptr (j + 1))] ++ tail) ?_ ?_ _ _ _ ⟨_, _, rr, [], rfl, hg, hj, by simp [upto]; first | exact Nat.le_trans (by assumption) (Nat.le_of_ble_eq_true rfl) | lia | omega, hl1, .inl rfl, rfl⟩
    · rintro v t ⟨N', g, rr, tail, rfl, hg, hj, hl0, hl1, ht, rfl⟩
      rcases ht with rfl | ⟨d, rfl⟩
      all_goals
        repeat' walk_at "og_step"
        all_goals exact hX _ _ _ _ _ (freezeC hj (pairs_np _)) (fzSto_np (st := [B _]) rfl) ⟨_, _, hl1, rfl, rfl⟩
    · rintro d ds v t ⟨N', g, rr, tail, rfl, hg, hj, hl0, hl1, ht, rfl⟩ J hJ
      clear hX
      have hb : ∀ (q : Pos), bindT (.Name (Str.ofString "turn") q) d ([(Str.ofString "bag", .ptr 0), (Str.ofString "runs", .ptr (j + 1))] ++ tail) = some [(Str.ofString "bag", .ptr 0), (Str.ofString "runs", .ptr (j + 1)), (Str.ofString "turn", d)] := by
        intro q
        rcases ht with rfl | ⟨d, rfl⟩ <;> rfl
      refine w1_of (hb _) ?_
      have hlen : ((toR rr).map pairD).length ≤ 1000 := by simp at hl0; simp [toR]; first | exact Nat.le_trans (by assumption) (Nat.le_of_ble_eq_true rfl) | lia | omega
      have hjl : j < g.length := (List.getElem?_eq_some_iff.mp hj).1
      have hpn : npL ((toR rr).map pairD) = true := pairs_np _
      simp only [List.length_cons] at hl0
      repeat' walk_at "og_step"
      rename_i x hx _ _ _ y hy
      obtain ⟨s, hs, rfl⟩ := pick_s hx
      obtain ⟨c, hc1, hc2, rfl⟩ := pick_y hy
      refine hJ _ _ ⟨_, _, rr ++ [(s, c)], _, rfl, ?_, ?_, by simp; first | exact Nat.le_trans (by assumption) (Nat.le_of_ble_eq_true rfl) | lia | omega, ?_, .inr ⟨_, rfl⟩, rfl⟩
      · refine npS_set (by walk_at "og_side") ?_
        exact npLA hpn rfl
      · rw [toR_app, List.map_append]
        exact get_self (by simp; first | exact Nat.le_trans (by assumption) (Nat.le_of_ble_eq_true rfl) | lia | omega)
      · obtain ⟨c0, w0, e0, g1, g2, g3, h3⟩ := hl1
        refine ⟨c0, w0 ++ [(s, c)], by rw [e0]; rfl, g1, g2, by rw [e0] at hl0; simp at hl0 ⊢; first | exact Nat.le_trans (by assumption) (Nat.le_of_ble_eq_true rfl) | lia | omega, ?_⟩
        intro p hp
        simp only [List.mem_append, List.mem_singleton] at hp
        rcases hp with hp | rfl
        · exact h3 p hp
        · exact ⟨hs, hc1, hc2⟩
set_option tactic.hygienic false
set_option genSizeOf false
mutual
/-- no pointer at n or above -/
noncomputable def pb (n : Nat) : D → Bool
  | .tup l => pbL n l
  | .lst l => pbL n l
  | .inst _ _ ds => pbL n ds
  | .ptr i => decide (i < n)
  | .none => true
  | .bool _ => true
  | .int _ => true
  | .str _ => true
  | .rng _ => true
noncomputable def pbL (n : Nat) : List D → Bool
  | [] => true
  | d :: ds => pb n d && pbL n ds
end
mutual
theorem pb_fz {st : Sto} {n k : Nat} : ∀ d : D, pb n d = true → fz (rsv st n (k + 1)) d = some d
  | .tup l, h => congrArg (Option.map D.tup) (pb_fzL l h)
  | .lst l, h => congrArg (Option.map D.lst) (pb_fzL l h)
  | .inst c ns ds, h => congrArg (Option.map (D.inst c ns)) (pb_fzL ds h)
  | .ptr i, h => if_pos (of_decide_eq_true h)
  | .none, _ => rfl
  | .bool _, _ => rfl
  | .int _, _ => rfl
  | .str _, _ => rfl
  | .rng _, _ => rfl
theorem pb_fzL {st : Sto} {n k : Nat} : ∀ l : List D, pbL n l = true → fzL (rsv st n (k + 1)) l = some l
  | [], _ => rfl
  | d :: ds, h => bind2 (pb_fz d (and1 h)) (pb_fzL ds (and2 h))
end
mutual
theorem pb_mono {n m : Nat} (hnm : n ≤ m) : ∀ d : D, pb n d = true → pb m d = true
  | .tup l, h => pbL_mono hnm l h
  | .lst l, h => pbL_mono hnm l h
  | .inst c ns ds, h => pbL_mono hnm ds h
  | .ptr i, h => decide_eq_true (Nat.lt_of_lt_of_le (of_decide_eq_true h) hnm)
  | .none, _ => rfl
  | .bool _, _ => rfl
  | .int _, _ => rfl
  | .str _, _ => rfl
  | .rng _, _ => rfl
theorem pbL_mono {n m : Nat} (hnm : n ≤ m) : ∀ l : List D, pbL n l = true → pbL m l = true
  | [], _ => rfl
  | d :: ds, h => and3 (pb_mono hnm d (and1 h)) (pbL_mono hnm ds (and2 h))
end
mutual
theorem pb_np {n : Nat} : ∀ d : D, np d = true → pb n d = true
  | .tup l, h => pbL_np l h
  | .lst l, h => pbL_np l h
  | .inst c ns ds, h => pbL_np ds h
  | .ptr i, h => by cases h
  | .none, _ => rfl
  | .bool _, _ => rfl
  | .int _, _ => rfl
  | .str _, _ => rfl
  | .rng _, _ => rfl
theorem pbL_np {n : Nat} : ∀ l : List D, npL l = true → pbL n l = true
  | [], _ => rfl
  | d :: ds, h => and3 (pb_np d (and1 h)) (pbL_np ds (and2 h))
end
noncomputable def pbOb (n : Nat) : Ob → Bool
  | .lst l => pbL n l
  | .inst _ _ ds => pbL n ds
noncomputable def pbS (n : Nat) : Sto → Bool
  | [] => true
  | o :: os => pbOb n o && pbS n os
theorem pbS_fz {s : Sto} {n : Nat} : ∀ {st : Sto}, pbS n st = true → fzSto s n st = some st
  | [], _ => rfl
  | .lst l :: os, h => bind2 (congrArg (Option.map Ob.lst) (pb_fzL l (and1 h))) (pbS_fz (and2 h))
  | .inst c ns ds :: os, h => bind2 (congrArg (Option.map (Ob.inst c ns)) (pb_fzL ds (and1 h))) (pbS_fz (and2 h))
theorem pbS_mono {n m : Nat} (hnm : n ≤ m) : ∀ {st : Sto}, pbS n st = true → pbS m st = true
  | [], _ => rfl
  | .lst l :: os, h => and3 (pbL_mono hnm l (and1 h)) (pbS_mono hnm (and2 h))
  | .inst c ns ds :: os, h => and3 (pbL_mono hnm ds (and1 h)) (pbS_mono hnm (and2 h))
theorem pbS_app {n : Nat} {a b : Sto} : pbS n (a ++ b) = (pbS n a && pbS n b) := by
  induction a with
  | nil => rfl
  | cons x a ih => exact (congrArg (pbOb n x && ·) ih).trans (Bool.and_assoc ..).symm
theorem pb_push {g : Sto} {l : List D} (h : pbS (g.length + 1) g = true) (h2 : npL l = true) : pbS ((g ++ [Ob.lst l]).length + 1) (g ++ [Ob.lst l]) = true := by
  rw [pbS_app, Bool.and_eq_true]
  exact ⟨pbS_mono (by simp) h, and3 (pbL_np l h2) rfl⟩
theorem w2_takeP {n : Nat} {g : Sto} {N m : Int} {Q : D → Sto → Prop} (hh : 0 < n ∧ pbS (g.length + 1) g = true ∧ 0 < m ∧ m < 1000000) (h : ∀ (r : Nat) (N' : Int), r < m.toNat → Q (.int (r : Int)) (B N' :: g)) : W2 (callF T n 321 [.ptr 0, .int m] (B N :: g)) Q := by
  obtain ⟨hn, hp, h0⟩ := hh
  have hm0 : m ≠ 0 := by first | exact Nat.le_trans (by assumption) (Nat.le_of_ble_eq_true rfl) | lia | omega
  have hm1 : 0 < m ∧ m < 1000000000 := by first | exact Nat.le_trans (by assumption) (Nat.le_of_ble_eq_true rfl) | lia | omega
  have e : W2 (callF T n 321 [.ptr 0, .int m] (B N :: g)) fun d s => d = .int (N.fmod m) ∧ s = B (N.fdiv m) :: g := by
    refine cx (h := 0) (v0 := [("bag", .ptr 0), ("many", .int m)]) fn321 rfl (by kernel_rfl) (by kernel_rfl) hn ?_
    intro k hk
    have fin : ∃ d s', freeze (B (N.fdiv m) :: g) (B N :: g).length (.int (N.fmod m)) = some d ∧ fzSto (B (N.fdiv m) :: g) (B N :: g).length ((B (N.fdiv m) :: g).take (B N :: g).length) = some s' ∧ d = .int (N.fmod m) ∧ s' = B (N.fdiv m) :: g := by
      refine ⟨_, _, freeze_np rfl, ?_, rfl, rfl⟩
      rw [show (B (N.fdiv m) :: g).take (B N :: g).length = B (N.fdiv m) :: g from by simp]
      exact pbS_fz hp
    clear hp h
    ((with_reducible apply x_open); (· exact rfl))
    repeat' first | ((with_reducible refine x_sub0' ?_ ?_); (· rfl)) | (exact fin) | walk_at "og_step"
  have h1 : 0 ≤ N.fmod m := Int.fmod_nonneg_of_pos _ (by first | exact Nat.le_trans (by assumption) (Nat.le_of_ble_eq_true rfl) | lia | omega)
  have h2 : N.fmod m < m := Int.fmod_lt_of_pos _ (by first | exact Nat.le_trans (by assumption) (Nat.le_of_ble_eq_true rfl) | lia | omega)
  obtain ⟨d, s, e, rfl, rfl⟩ := e
  refine w2_of e ?_
  have := h (N.fmod m).toNat (N.fdiv m) (by first | exact Nat.le_trans (by assumption) (Nat.le_of_ble_eq_true rfl) | lia | omega)
  rw [show (((N.fmod m).toNat : Nat) : Int) = N.fmod m from by first | exact Nat.le_trans (by assumption) (Nat.le_of_ble_eq_true rfl) | lia | omega] at this
  exact this
noncomputable def AH : List RR := [[], [([43], 1)], [([45], 1)], [([36], 1)], [([36], 3)], [([45], 4)]]
noncomputable def ahD (k : Nat) : List D := match k with
  | 0 => []
  | 1 => [.tup [.str (Str.ofString "+"), .int 1]]
  | 2 => [.tup [.str (Str.ofString "-"), .int 1]]
  | 3 => [.tup [.str (Str.ofString "$"), .int 1]]
  | 4 => [.tup [.str (Str.ofString "$"), .int 3]]
  | _ => [.tup [.str (Str.ofString "-"), .int 4]]
noncomputable def ahR (k : Nat) : RR := match k with
  | 0 => []
  | 1 => [([43], 1)]
  | 2 => [([45], 1)]
  | 3 => [([36], 1)]
  | 4 => [([36], 3)]
  | _ => [([45], 4)]
theorem pl_tx : Str.ofString "+" = tx [43] := by decide +kernel
theorem mi_tx : Str.ofString "-" = tx [45] := by decide +kernel
theorem do_tx : Str.ofString "$" = tx [36] := by decide +kernel
theorem Z_tx : Str.ofString "Z" = tx [90] := by decide +kernel
theorem st_tx : Str.ofString "*" = tx [42] := by decide +kernel
theorem co_tx : Str.ofString "," = tx [44] := by decide +kernel
theorem po_tx : Str.ofString "." = tx [46] := by decide +kernel
theorem ah_eq (k : Nat) : ahD k = (toR (ahR k)).map pairD := by
  match k with
  | 0 => rfl
  | 1 => exact congrArg (fun z => [D.tup [.str z, .int 1]]) pl_tx
  | 2 => exact congrArg (fun z => [D.tup [.str z, .int 1]]) mi_tx
  | 3 => exact congrArg (fun z => [D.tup [.str z, .int 1]]) do_tx
  | 4 => exact congrArg (fun z => [D.tup [.str z, .int 3]]) do_tx
  | k + 5 => exact congrArg (fun z => [D.tup [.str z, .int 4]]) mi_tx
/-- an edited number's runs: ahead, noughts, comma, nines, point, tail -/
noncomputable def ZR (k : Nat) (z : RR) : Prop := if 4 ≤ k then z = [] else ∃ c n, (c = [90] ∨ c = [42]) ∧ 1 ≤ n ∧ n ≤ 6 ∧ z = [(c, n)]
noncomputable def CR' (c : RR) : Prop := c = [] ∨ c = [([44], 1)]
noncomputable def PR' (c : RR) : Prop := c = [] ∨ c = [([46], 1), ([57], 2)]
noncomputable def TR' (k : Nat) (t : RR) : Prop := t = [] ∨ ((k = 0 ∨ k = 3 ∨ k = 4) ∧ ∃ c, (c = [67, 82] ∨ c = [68, 66] ∨ c = [43] ∨ c = [45]) ∧ t = [(c, 1)])
noncomputable def EditR (rr : RR) : Prop := ∃ k z c n p t, k ≤ 5 ∧ ZR k z ∧ CR' c ∧ 1 ≤ n ∧ n ≤ 3 ∧ PR' p ∧ TR' k t ∧ rr = ahR k ++ z ++ c ++ [([57], n)] ++ p ++ t
theorem pick_z {x : D} (h : x ∈ [D.str (Str.ofString "Z"), .str (Str.ofString "*")]) : ∃ s, (s = [90] ∨ s = [42]) ∧ x = .str (tx s) := by
  rw [Z_tx, st_tx] at h
  simp only [List.mem_cons, List.not_mem_nil, or_false] at h
  rcases h with rfl | rfl
  · exact ⟨_, .inl rfl, rfl⟩
  · exact ⟨_, .inr rfl, rfl⟩
theorem pick_t {x : D} (h : x ∈ [D.str (Str.ofString "CR"), .str (Str.ofString "DB"), .str (Str.ofString "+"), .str (Str.ofString "-")]) : ∃ c, (c = [67, 82] ∨ c = [68, 66] ∨ c = [43] ∨ c = [45]) ∧ x = .str (tx c) := by
  rw [cr_tx, db_tx, pl_tx, mi_tx] at h
  simp only [List.mem_cons, List.not_mem_nil, or_false] at h
  rcases h with rfl | rfl | rfl | rfl
  · exact ⟨_, .inl rfl, rfl⟩
  · exact ⟨_, .inr (.inl rfl), rfl⟩
  · exact ⟨_, .inr (.inr (.inl rfl)), rfl⟩
  · exact ⟨_, .inr (.inr (.inr rfl)), rfl⟩
noncomputable def vE (j w : Nat) : Vars := [(Str.ofString "bag", .ptr 0), (Str.ofString "way", .int (w : Int)), (Str.ofString "ahead", .ptr (j + 1))]
theorem ahR_len (k : Nat) : (ahR k).length ≤ 1 := by
  match k with
  | 0 => exact Nat.zero_le _
  | 1 => exact Nat.le_refl _
  | 2 => exact Nat.le_refl _
  | 3 => exact Nat.le_refl _
  | 4 => exact Nat.le_refl _
  | k + 5 => exact Nat.le_refl _
theorem ah_three : ∀ {k : Nat}, k ≤ 5 → k = 0 ∨ (k ≤ 3 ∧ ∃ s, ahD k = [D.tup [.str s, .int 1]]) ∨ (4 ≤ k ∧ ∃ s n, ahD k = [D.tup [.str s, .int n]] ∧ 1 < n)
  | 0, _ => .inl rfl
  | 1, _ => .inr (.inl ⟨by decide, _, rfl⟩)
  | 2, _ => .inr (.inl ⟨by decide, _, rfl⟩)
  | 3, _ => .inr (.inl ⟨by decide, _, rfl⟩)
  | 4, _ => .inr (.inr ⟨by decide, _, _, rfl, by decide⟩)
  | 5, _ => .inr (.inr ⟨by decide, _, _, rfl, by decide⟩)
  | k + 6, h => absurd h (Nat.not_le.mpr (Nat.le_add_left 6 k))
theorem ah_three' : ∀ {k : Nat}, k ≤ 5 → k = 0 ∨ ((k = 3 ∨ k = 4) ∧ ∃ n, ahD k = [D.tup [.str (Str.ofString "$"), .int n]]) ∨ (k ≠ 0 ∧ ∃ s n, ahD k = [D.tup [.str s, .int n]] ∧ (s == Str.ofString "$") = false)
  | 0, _ => .inl rfl
  | 1, _ => .inr (.inr ⟨by decide, _, _, rfl, ofs_beq "+" "$"⟩)
  | 2, _ => .inr (.inr ⟨by decide, _, _, rfl, ofs_beq "-" "$"⟩)
  | 3, _ => .inr (.inl ⟨.inl rfl, _, rfl⟩)
  | 4, _ => .inr (.inl ⟨.inr rfl, _, rfl⟩)
  | 5, _ => .inr (.inr ⟨by decide, _, _, rfl, ofs_beq "-" "$"⟩)
  | k + 6, h => absurd h (Nat.not_le.mpr (Nat.le_add_left 6 k))
set_option tactic.hygienic true in
theorem c349 {n : Nat} {N : Int} (hn : 1 < n) :
    W2 (callF T n 349 [.ptr 0] [B N]) fun d s => ∃ rr N', EditR rr ∧ d = .lst ((toR rr).map pairD) ∧ s = [B N'] := by
  refine cxJ (h := 1) (v0 := [("bag", .ptr 0)]) fn349 rfl (by kernel_rfl) (by kernel_rfl) hn ?_
  intro m hm X hX
  ((with_reducible apply x_open); (· exact rfl))
  refine x_cutJ (fun v t => ∃ (N' : Int) (g : Sto) (j k w : Nat), t = B N' :: g ∧ pbS (g.length + 1) g = true ∧ g[j]? = some (.lst (ahD k)) ∧ k ≤ 5 ∧ v = vE j w) rfl ?_ ?_
  · intro J hJ
    repeat' walk_at "og_step"
    rename_i r1 N1 hr1 x hx r2 N2 hr2
    simp only [List.mem_cons, List.not_mem_nil, or_false] at hx
    rcases hx with rfl | rfl | rfl | rfl | rfl | rfl
    · exact hJ _ _ ⟨_, _, 0, 0, _, rfl, rfl, rfl, by first | exact Nat.le_trans (by assumption) (Nat.le_of_ble_eq_true rfl) | lia | omega, rfl⟩
    · exact hJ _ _ ⟨_, _, 1, 1, _, rfl, rfl, rfl, by first | exact Nat.le_trans (by assumption) (Nat.le_of_ble_eq_true rfl) | lia | omega, rfl⟩
    · exact hJ _ _ ⟨_, _, 2, 2, _, rfl, rfl, rfl, by first | exact Nat.le_trans (by assumption) (Nat.le_of_ble_eq_true rfl) | lia | omega, rfl⟩
    · exact hJ _ _ ⟨_, _, 3, 3, _, rfl, rfl, rfl, by first | exact Nat.le_trans (by assumption) (Nat.le_of_ble_eq_true rfl) | lia | omega, rfl⟩
    · exact hJ _ _ ⟨_, _, 4, 4, _, rfl, rfl, rfl, by first | exact Nat.le_trans (by assumption) (Nat.le_of_ble_eq_true rfl) | lia | omega, rfl⟩
    · exact hJ _ _ ⟨_, _, 5, 5, _, rfl, rfl, rfl, by first | exact Nat.le_trans (by assumption) (Nat.le_of_ble_eq_true rfl) | lia | omega, rfl⟩
  rintro v t ⟨N', g, j, k, w, rfl, hg, hj, hk, rfl⟩
  refine x_cutJ (fun v t => ∃ (N' : Int) (g : Sto) (j2 : Nat) (z : RR), t = B N' :: g ∧ pbS (g.length + 1) g = true ∧ g[j]? = some (.lst (ahD k)) ∧ g[j2]? = some (.lst ((toR (ahR k ++ z)).map pairD)) ∧ (ahR k ++ z).length ≤ 2 ∧ ZR k z ∧ v = vE j w ++ [(Str.ofString "runs", .ptr (j2 + 1))]) rfl ?_ ?_
  · intro J hJ
    have hj0 := hj
    have hlk := ahR_len k
    rcases ah_three hk with rfl | ⟨hk3, s, hs⟩ | ⟨hk4, s, n, hs, hn⟩
    · replace hj : g[j]? = some (.lst []) := hj
      repeat' walk_at "og_step"
      rename_i r1 N1 hr1 x hx r2 N2 hr2
      obtain ⟨s, hs, rfl⟩ := pick_z hx
      refine hJ _ _ ⟨_, _, _, [(s, 1 + r2)], rfl, ?_, get_app (get_app (get_app (get_app hj0))), ?_, by simp; omega, ?_, rfl⟩
      · walk_at "og_side"
      · rw [toR_app, List.map_append, ← ah_eq]
        exact get_end _ _
      · show ZR 0 _
        unfold ZR
        rw [if_neg (by decide)]
        exact ⟨s, 1 + r2, hs, by omega, by omega, rfl⟩
    · rw [hs] at hj
      repeat' walk_at "og_step"
      rename_i r1 N1 hr1 x hx r2 N2 hr2
      obtain ⟨s', hs', rfl⟩ := pick_z hx
      refine hJ _ _ ⟨_, _, _, [(s', 1 + r2)], rfl, by walk_at "og_side", get_app (get_app (get_app (get_app hj0))), ?_, by simp; omega, ?_, rfl⟩
      · rw [toR_app, List.map_append, ← ah_eq, hs]
        exact get_end _ _
      · show ZR k _
        unfold ZR
        rw [if_neg (by omega)]
        exact ⟨s', 1 + r2, hs', by omega, by omega, rfl⟩
    · rw [hs] at hj
      repeat' walk_at "og_step"
      refine hJ _ _ ⟨_, _, _, [], rfl, by walk_at "og_side", get_app (get_app (get_app hj0)), ?_, by simp; omega, by show ZR k _; unfold ZR; rw [if_pos hk4], rfl⟩
      rw [List.append_nil, List.append_nil, ← ah_eq, hs]
      exact get_end _ _
  rintro v t ⟨N', g, j2, z, rfl, hg, hj, hj2, hzl, hz, rfl⟩
  have hlen : ((toR (ahR k ++ z)).map pairD).length ≤ 2 := by simpa [toR] using hzl
  have hnp : npL ((toR (ahR k ++ z)).map pairD) = true := pairs_np _
  refine x_cutJ (fun v t => ∃ (N' : Int) (g : Sto) (j2 : Nat) (c : RR) (n : Nat), t = B N' :: g ∧ pbS (g.length + 1) g = true ∧ g[j]? = some (.lst (ahD k)) ∧ g[j2]? = some (.lst ((toR (ahR k ++ z ++ c ++ [([57], n)])).map pairD)) ∧ (ahR k ++ z ++ c ++ [([57], n)]).length ≤ 4 ∧ CR' c ∧ 1 ≤ n ∧ n ≤ 3 ∧ v = vE j w ++ [(Str.ofString "runs", .ptr (j2 + 1))]) rfl ?_ ?_
  · intro J hJ
    repeat' walk_at "og_step"
    · rename_i r1 N1 hr1 hc r2 N2 hr2
      refine hJ _ _ ⟨_, _, _, [([44], 1)], 1 + r2, rfl, ?_, ?_, ?_, ?_, .inr rfl, by first | exact Nat.le_trans (by assumption) (Nat.le_of_ble_eq_true rfl) | lia | omega, by first | exact Nat.le_trans (by assumption) (Nat.le_of_ble_eq_true rfl) | lia | omega, rfl⟩
      · walk_at "og_side"
      · exact get_app (get_app (get_app (get_app hj)))
      · rw [toR_app _ [([57], 1 + r2)], toR_app _ [([44], 1)], List.map_append, List.map_append, co_tx, n9_tx]
        exact get_end _ _
      · simp at hzl ⊢; first | exact Nat.le_trans (by assumption) (Nat.le_of_ble_eq_true rfl) | lia | omega
    · rename_i r1 N1 hr1 hc r2 N2 hr2
      refine hJ _ _ ⟨_, _, _, [], 1 + r2, rfl, ?_, ?_, ?_, ?_, .inl rfl, by first | exact Nat.le_trans (by assumption) (Nat.le_of_ble_eq_true rfl) | lia | omega, by first | exact Nat.le_trans (by assumption) (Nat.le_of_ble_eq_true rfl) | lia | omega, rfl⟩
      · walk_at "og_side"
      · exact get_app (get_app (get_app (get_app hj)))
      · rw [toR_app _ [([57], 1 + r2)], toR_app _ [], List.map_append, List.map_append, n9_tx]
        exact get_end _ _
      · simp at hzl ⊢; first | exact Nat.le_trans (by assumption) (Nat.le_of_ble_eq_true rfl) | lia | omega
  clear hlen hnp hg hj hj2
  rintro v t ⟨N', g, j2, c, n9, rfl, hg, hj, hj2, hcl, hc, hn1, hn2, rfl⟩
  have hlen : ((toR (ahR k ++ z ++ c ++ [([57], n9)])).map pairD).length ≤ 4 := by simpa [toR] using hcl
  have hnp : npL ((toR (ahR k ++ z ++ c ++ [([57], n9)])).map pairD) = true := pairs_np _
  refine x_cutJ (fun v t => ∃ (N' : Int) (g : Sto) (j2 : Nat) (p : RR), t = B N' :: g ∧ pbS (g.length + 1) g = true ∧ g[j]? = some (.lst (ahD k)) ∧ g[j2]? = some (.lst ((toR (ahR k ++ z ++ c ++ [([57], n9)] ++ p)).map pairD)) ∧ (ahR k ++ z ++ c ++ [([57], n9)] ++ p).length ≤ 6 ∧ PR' p ∧ v = vE j w ++ [(Str.ofString "runs", .ptr (j2 + 1))]) rfl ?_ ?_
  · intro J hJ
    repeat' walk_at "og_step"
    · refine hJ _ _ ⟨_, _, _, [([46], 1), ([57], 2)], rfl, ?_, get_app (get_app hj), ?_, ?_, .inr rfl, rfl⟩
      · walk_at "og_side"
      · rw [toR_app _ [([46], 1), ([57], 2)], List.map_append, po_tx, n9_tx]
        exact get_end _ _
      · simp at hcl ⊢; first | exact Nat.le_trans (by assumption) (Nat.le_of_ble_eq_true rfl) | lia | omega
    · exact hJ _ _ ⟨_, _, _, [], rfl, hg, hj, by rw [List.append_nil]; exact hj2, by rw [List.append_nil]; first | exact Nat.le_trans (by assumption) (Nat.le_of_ble_eq_true rfl) | lia | omega, .inl rfl, rfl⟩
  clear hlen hnp hg hj hj2
  rintro v t ⟨N', g, j2, p, rfl, hg, hj, hj2, hpl, hpr, rfl⟩
  have hlen : ((toR (ahR k ++ z ++ c ++ [([57], n9)] ++ p)).map pairD).length ≤ 6 := by simpa [toR] using hpl
  have hnp : npL ((toR (ahR k ++ z ++ c ++ [([57], n9)] ++ p)).map pairD) = true := pairs_np _
  have hj2l : j2 < g.length := (List.getElem?_eq_some_iff.mp hj2).1
  generalize hR : (toR (ahR k ++ z ++ c ++ [([57], n9)] ++ p)).map pairD = R at hj2 hlen hnp
  refine x_cutJ (fun v t => ∃ (N' : Int) (g : Sto) (t' : RR), t = B N' :: g ∧ g[j2]? = some (.lst (R ++ (toR t').map pairD)) ∧ TR' k t' ∧ v = vE j w ++ [(Str.ofString "runs", .ptr (j2 + 1))]) rfl ?_ ?_
  · intro J hJ
    clear hcl hzl hpl hz hc hpr hR
    by_cases hw : w < 4
    · rcases ah_three' hk with rfl | ⟨hk3, n, hs⟩ | ⟨hk4, s, n, hs, hn⟩
      · replace hj : g[j]? = some (.lst []) := hj
        repeat' walk_at "og_step"
        all_goals first
          | exact hJ _ _ ⟨_, _, [], rfl, by rw [show (toR []).map pairD = [] from rfl, List.append_nil]; walk_at "og_side", .inl rfl, rfl⟩
          | (rename_i x hx
             obtain ⟨s, hs, rfl⟩ := pick_t hx
             exact hJ _ _ ⟨_, _, [(s, 1)], rfl, get_self (by simp; omega), .inr ⟨by omega, s, hs, rfl⟩, rfl⟩)
      · rw [hs] at hj
        repeat' walk_at "og_step"
        all_goals first
          | exact hJ _ _ ⟨_, _, [], rfl, by rw [show (toR []).map pairD = [] from rfl, List.append_nil]; walk_at "og_side", .inl rfl, rfl⟩
          | (rename_i x hx
             obtain ⟨s, hs, rfl⟩ := pick_t hx
             exact hJ _ _ ⟨_, _, [(s, 1)], rfl, get_self (by simp; omega), .inr ⟨by omega, s, hs, rfl⟩, rfl⟩)
      · rw [hs] at hj
        repeat' walk_at "og_step"
        all_goals first
          | exact hJ _ _ ⟨_, _, [], rfl, by rw [show (toR []).map pairD = [] from rfl, List.append_nil]; walk_at "og_side", .inl rfl, rfl⟩
          | (rename_i x hx
             obtain ⟨s, hs, rfl⟩ := pick_t hx
             exact hJ _ _ ⟨_, _, [(s, 1)], rfl, get_self (by simp; omega), .inr ⟨by omega, s, hs, rfl⟩, rfl⟩)
    · repeat' walk_at "og_step"
      all_goals exact hJ _ _ ⟨_, _, [], rfl, by rw [show (toR []).map pairD = [] from rfl, List.append_nil]; walk_at "og_side", .inl rfl, rfl⟩
  rintro v t ⟨N', g, t', rfl, hj, ht, rfl⟩
  repeat' walk_at "og_step"
  have e : R ++ (toR t').map pairD = (toR (ahR k ++ z ++ c ++ [([57], n9)] ++ p ++ t')).map pairD := by rw [← hR, toR_app _ t', List.map_append]
  rw [e] at hj
  exact hX _ _ _ _ _ (freezeC hj (pairs_np _)) (fzSto_np (st := [B _]) rfl) ⟨_, _, ⟨k, z, c, n9, p, t', hk, hz, hc, hn1, hn2, hpr, ht, rfl⟩, rfl, rfl⟩
set_option tactic.hygienic false
set_option genSizeOf false
theorem ck {h n f : Nat} {fn : Fn} {args : List D} {st : Sto} {v0 : Vars} {R : D → Sto → Prop} (hf : T.fn f = some fn) (hk : fn.keep = true) (hl : fn.params.length = args.length) (hv : fn.params.zip args = v0) (hn : h < n)
    (run : ∀ m, h ≤ m → W3 (exs T (callF T m) fn.body fn.scope st.length v0 st) fun fl vs s => R (retD fl) s) :
    W2 (callF T n f args st) R := by
  obtain ⟨m, rfl⟩ : ∃ m, n = m + 1 := ⟨n - 1, by first | exact Nat.le_trans (by assumption) (Nat.le_of_ble_eq_true rfl) | lia | omega⟩
  obtain ⟨fl, vs, s, e, h⟩ := run m (by first | exact Nat.le_trans (by assumption) (Nat.le_of_ble_eq_true rfl) | lia | omega)
  refine ⟨retD fl, s, ?_, h⟩
  refine (callF_some hf hl).trans ?_
  rw [hv, e]
  exact if_pos hk
theorem w1_take24 {xs : List D} {st : Sto} {Q : D → Prop} (h0 : xs.length ≤ 10000) (h : Q (.lst (xs.take 24))) : W1 (getS st (.lst xs) .none (.int 24)) Q := by
  refine w1_of ?_ h
  exact if_pos ⟨h0, by first | exact Nat.le_trans (by assumption) (Nat.le_of_ble_eq_true rfl) | lia | omega⟩
theorem pow_eq {st : Sto} {x y : Int} (h : 0 ≤ y ∧ (Builtin.Int.intBits x : Int) * y ≤ 2 ^ 27) : binop .Pow (.int x) (.int y) st = some (.int (x ^ y.toNat), st) := congrArg (Option.map fun z => (D.int z, st)) (if_pos h)
theorem l_pow120 {st : Sto} {Q : D → Sto → Prop} (h : Q (.int (10 ^ 120)) st) : W2 (binop .Pow (.int 10) (.int 120) st) Q := w2_of (pow_eq (by decide +kernel)) h
set_option tactic.hygienic true in
theorem l_pow7 {x : Int} {st : Sto} {Q : D → Sto → Prop} (h0 : 0 ≤ x) (h1 : x < 10 ^ 50) (h : Q (.int (x ^ 7)) st) : W2 (binop .Pow (.int x) (.int 7) st) Q := by
  refine w2_of ?_ h
  have hb : Builtin.Int.intBits x ≤ 200 := by
    unfold Builtin.Int.intBits
    split
    · first | exact Nat.le_trans (by assumption) (Nat.le_of_ble_eq_true rfl) | lia | omega
    · rename_i hx
      have hx : x ≠ 0 := by simpa using hx
      have : x.natAbs.log2 < 199 := (Nat.log2_lt (by first | exact Nat.le_trans (by assumption) (Nat.le_of_ble_eq_true rfl) | lia | omega)).mpr (by
        have h2 : (10 : Int) ^ 50 < 2 ^ 199 := by decide +kernel
        have h3 : (x.natAbs : Int) = x := by first | exact Nat.le_trans (by assumption) (Nat.le_of_ble_eq_true rfl) | lia | omega
        have h4 : (x.natAbs : Int) < ((2 ^ 199 : Nat) : Int) := by rw [h3]; exact Int.lt_trans h1 (by simpa using h2)
        exact_mod_cast h4)
      first | exact Nat.le_trans (by assumption) (Nat.le_of_ble_eq_true rfl) | lia | omega
  exact pow_eq ⟨by first | exact Nat.le_trans (by assumption) (Nat.le_of_ble_eq_true rfl) | lia | omega, by first | exact Nat.le_trans (by assumption) (Nat.le_of_ble_eq_true rfl) | lia | omega⟩
theorem c328 {n : Nat} {script : List Int} (hn : 0 < n) (hs : script.length ≤ 10000) :
    W2 (callF T n 328 [.lst (script.map .int)] []) fun d s => d = .ptr 0 ∧ ∃ N, s = [B N] := by
  have hl : (script.map D.int).length ≤ 10000 := by simpa using hs
  refine ck (h := 0) (v0 := [("script", .lst (script.map .int))]) fn328 rfl (by kernel_rfl) (by kernel_rfl) hn ?_
  intro m hm
  ((with_reducible apply x_open); (· exact rfl))
  refine x_cut (fun v t => v = [(Str.ofString "script", .lst (script.map .int)), (Str.ofString "number", .int 7)] ∧ t = []) rfl ?_ ?_
  · repeat' walk_at "og_step"
    all_goals rfl
  rintro v t ⟨rfl, rfl⟩
  refine x_cut (fun v t => ∃ (x : Int) (tail : Vars), 0 ≤ x ∧ (tail = [] ∨ ∃ d, tail = [(Str.ofString "cell", d)]) ∧ v = [(Str.ofString "script", .lst (script.map .int)), (Str.ofString "number", .int x)] ++ tail ∧ t = []) rfl ?_ ?_
  · refine x_for' rfl rfl ?_
    repeat' first | ((with_reducible refine w1_take24 ?_ ?_); (· exact hl)) | walk_at "og_step"
    rw [← List.map_take]
    have hnp : ∀ l : List Int, npL (l.map D.int) = true := by
      intro l
      induction l with
      | nil => rfl
      | cons a l ih => exact ih
    refine w1_itemsL ⟨hnp _, by simp; first | exact Nat.le_trans (by assumption) (Nat.le_of_ble_eq_true rfl) | lia | omega⟩ ?_
    refine forL_ind (fun ds v t => ∃ (x : Int) (tail : Vars) (l : List Int), ds = l.map .int ∧ 0 ≤ x ∧ (tail = [] ∨ ∃ d, tail = [(Str.ofString "cell", d)]) ∧ v = [(Str.ofString "script", .lst (script.map .int)), (Str.ofString "number", .int x)] ++ tail ∧ t = []) ?_ ?_ _ _ _ ⟨7, [], _, rfl, by first | exact Nat.le_trans (by assumption) (Nat.le_of_ble_eq_true rfl) | lia | omega, .inl rfl, rfl, rfl⟩
    · rintro v t ⟨x, tail, l, -, h0, h1, rfl, rfl⟩
      exact ⟨rfl, x, tail, h0, h1, rfl, rfl⟩
    · rintro d ds v t ⟨x, tail, l, e, h0, h1, rfl, rfl⟩
      cases l with
      | nil => simp at e
      | cons c l =>
        simp only [List.map_cons, List.cons.injEq] at e
        obtain ⟨rfl, rfl⟩ := e
        have hb : ∀ (q : Pos), bindT (.Name (Str.ofString "cell") q) (.int c) ([(Str.ofString "script", .lst (script.map .int)), (Str.ofString "number", .int x)] ++ tail) = some [(Str.ofString "script", .lst (script.map .int)), (Str.ofString "number", .int x), (Str.ofString "cell", .int c)] := by
          intro q
          rcases h1 with rfl | ⟨d, rfl⟩ <;> rfl
        refine w1_of (hb _) ?_
        repeat' first | ((with_reducible refine l_mul_int ?_ ?_); (· exact .inr (by decide))) | with_reducible refine l_pow120 ?_ | ((with_reducible refine l_mod ?_ ?_); (· decide +kernel)) | walk_at "og_step"
        refine ⟨_, _, l, rfl, ?_, .inr ⟨_, rfl⟩, rfl, rfl⟩
        have h2 : 0 ≤ c.fmod (10 ^ 120) := Int.fmod_nonneg_of_pos _ (by decide +kernel)
        first | exact Nat.le_trans (by assumption) (Nat.le_of_ble_eq_true rfl) | lia | omega
  rintro v t ⟨x, tail, h0, h1, rfl, rfl⟩
  rcases h1 with rfl | ⟨d, rfl⟩
  all_goals
    repeat' first | ((with_reducible refine l_pow7 ?_ ?_ ?_); (· exact h0); (· exact of_decide_eq_true (by assumption))) | walk_at "og_step"
    all_goals first | rfl | exact ⟨_, rfl⟩ | exact ⟨rfl, _, rfl⟩
set_option genSizeOf false
theorem c168 {n i : Nat} {t : Sto} {o : Ord}  (hn : 0 < n) (hi : i < t.length) (hp : npS t = true)  :
    callF T n 168 [.ptr i] (t.set i o.ob) = some (.int (o.nines + o.zeros + o.floats), t.set i (o).ob) := by
  refine co (v0 := [("self", .ptr i)]) fn168 rfl (by kernel_rfl) (by kernel_rfl) hn hi hp rfl ?_
  intro m hm
  (((with_reducible apply x_open); (· exact rfl)); (repeat' walk_at "og_step"); all_goals (try (first | (refine ⟨rfl, ?_⟩; rfl) | rfl | (simp_all; done) | (simp_all [retD]; done) | (simp_all [retD]; omega))))
theorem c259 {n i : Nat} {t : Sto} {o : Ord}  (hn : 1 < n) (hi : i < t.length) (hp : npS t = true) (h0 : (o.nines + o.zeros + o.floats == 0) = false) (h1 : (Str.ofString "," == o.last) = false) (h2 : (Str.ofString "." == o.last) = false) (h3 : o.nines + o.zeros + o.floats + o.lead + o.trail ≤ 18) :
    callF T n 259 [.ptr i] (t.set i o.ob) = some (.bool true, t.set i (o).ob) := by
  refine co (v0 := [("self", .ptr i)]) fn259 rfl (by kernel_rfl) (by kernel_rfl) hn hi hp rfl ?_
  intro m hm
  have hc := c168 (n := m) (o := o) (t := t) (i := i) (by omega) hi hp
  (((with_reducible apply x_open); (· exact rfl)); (repeat' walk_at "og_step"); all_goals (try (first | (refine ⟨rfl, ?_⟩; rfl) | rfl | (simp_all; done) | (simp_all [retD]; done) | (simp_all [retD]; omega))))
theorem c266 {n i : Nat} {t : Sto} {o : Ord}  (hn : 1 < n) (hi : i < t.length) (hp : npS t = true)  :
    callF T n 266 [.ptr i] (t.set i o.ob) = some (.int (if o.lead > 0 then o.lead + (o.nines + o.zeros + o.floats) else o.behind - o.trail), t.set i (o).ob) := by
  refine co (v0 := [("self", .ptr i)]) fn266 rfl (by kernel_rfl) (by kernel_rfl) hn hi hp rfl ?_
  intro m hm
  have hc := c168 (n := m) (o := o) (t := t) (i := i) (by omega) hi hp
  (((with_reducible apply x_open); (· exact rfl)); (repeat' walk_at "og_step"); all_goals (try (first | (refine ⟨rfl, ?_⟩; rfl) | rfl | (simp_all; done) | (simp_all [retD]; done) | (simp_all [retD]; omega))))
set_option tactic.hygienic false
set_option genSizeOf false
inductive Takes : Ord → List (PySem.Str × Int) → Ord → Prop
  | nil (o) : Takes o [] o
  | cons {o o' o'' s c l} : TakeOk o s c o' → Takes o' l o'' → Takes o ((s, c) :: l) o''
theorem e_listO {t : Sto} {i : Nat} {ob : Ob} {Q : D → Sto → Prop} (hi : i < t.length) (h : Q (.ptr t.length) ((t ++ [Ob.lst []]).set i ob)) : NewL [] (t.set i ob) Q :=
  ⟨Nat.zero_le _, by rw [List.length_set, ← List.set_append_left i ob hi]; exact h⟩
theorem w1_eqNilO {t : Sto} {i : Nat} {ob : Ob} {k : List D} {Q : Bool → Prop} (hi : i < t.length) (h : Q k.isEmpty) : W1 (cmpop .Eq (.lst k) (.ptr t.length) ((t ++ [Ob.lst []]).set i ob)) Q := by
  refine w1_of ?_ h
  have e : lstOf ((t ++ [Ob.lst []]).set i ob) (.ptr t.length) = some [] := by
    refine lst_ptr ?_
    rw [List.set_append_left i _ hi]
    have := get_mid (t.set i ob) (.lst []) []
    rw [List.length_set] at this
    exact this
  exact seqEq_nil (x := .lst k) rfl e
noncomputable def bNP : D → Bool
  | .tup [.str s, _] => !([Str.ofString "9", Str.ofString "P", Str.ofString "S", Str.ofString "V"].any (· == s))
  | _ => false
noncomputable def numCat (l : List D) : PySem.Str := if ((l.filter bNP).map gFst).isEmpty then Str.ofString "numeric" else Str.ofString "edited"
theorem numCat_ok (l : List D) : PyData.strOk (numCat l) = true := by
  unfold numCat
  split <;> decide +kernel
set_option tactic.hygienic true in
theorem c278 {N : Int} {x : D} {ts : List (PySem.Str × Int × Int)} {rr : RR} {o : Ord} (hx : np x = true) (hl : ts.length ≤ 100) (hs : symOf (ts.map fun t => (t.1, t.2.1)) = toR rr) (hw : wfN rr) (hz : sizeOf' (toR rr) ≤ 9999)
    (ht : Takes ord0 (ts.map fun t => (t.1, t.2.1)) o) (w1 : (o.nines + o.zeros + o.floats == 0) = false) (w2 : (Str.ofString "," == o.last) = false) (w3 : (Str.ofString "." == o.last) = false) (w4 : o.nines + o.zeros + o.floats + o.lead + o.trail ≤ 18) :
    callF T 11 278 [x, .lst (ts.map tk3)] [B N, .lst []] = some (picD x (toR rr) (numCat ((toR rr).map pairD)) (o.nines + o.zeros + o.floats) (if o.lead > 0 then o.lead + (o.nines + o.zeros + o.floats) else o.behind - o.trail) (o.plain || o.sign != Str.ofString "") (sizeOf' (toR rr)), [B N, .lst []]) := by
  have hp : npS [B N, Ob.lst []] = true := rfl
  have hTk : ∀ (o1 o2 : Ord) (s : PySem.Str) (c : Int), TakeOk o1 s c o2 → ∀ a, callF T 10 252 [.ptr [B N, Ob.lst []].length, tokD s c a] (([B N, Ob.lst []] ++ [ord0.ob]).set [B N, Ob.lst []].length o1.ob) = some (.none, ([B N, Ob.lst []] ++ [ord0.ob]).set [B N, Ob.lst []].length o2.ob) := fun _ _ _ _ h a => h N a
  have hO : nameCall T (callF T 10) (Str.ofString "Order") [] [B N, Ob.lst []] = some (.ptr [B N, Ob.lst []].length, [B N, Ob.lst []] ++ [ord0.ob]) := by kernel_rfl
  generalize [B N, Ob.lst []] = st at hp hTk hO ⊢
  refine cpJ (v0 := [("text", x), ("signs", .lst (ts.map tk3))]) fn278 rfl (by kernel_rfl) (by kernel_rfl) hp ?_
  intro X hX
  have hpo : npS (st ++ [ord0.ob]) = true := npO_app hp rfl
  have h1 : callF T 10 142 [.lst (ts.map tk3)] (st ++ [ord0.ob]) = some (.lst ((toR rr).map pairD), st ++ [ord0.ob]) := by rw [← hs]; exact c142 (by first | exact Nat.le_trans (by assumption) (Nat.le_of_ble_eq_true rfl) | lia | omega) hpo (by first | exact Nat.le_trans (by assumption) (Nat.le_of_ble_eq_true rfl) | lia | omega)
  ((with_reducible apply x_open); (· exact rfl))
  repeat' walk_at "og_step"
  refine x_for' rfl rfl ?_
  repeat' walk_at "og_step"
  refine w1_itemsL ⟨tk3_np _, by simp; first | exact Nat.le_trans (by assumption) (Nat.le_of_ble_eq_true rfl) | lia | omega⟩ ?_
  rw [show st ++ [ord0.ob] = (st ++ [ord0.ob]).set st.length ord0.ob from (set_mid _ _ _ _).symm]
  have hi : st.length < (st ++ [ord0.ob]).length := by simp
  refine forL_indJ (fun ds vs s => ∃ (done todo : List (PySem.Str × Int × Int)) (o1 : Ord) (tail : Vars), ts = done ++ todo ∧ ds = todo.map tk3 ∧ Takes o1 (todo.map fun t => (t.1, t.2.1)) o ∧ s = (st ++ [ord0.ob]).set st.length o1.ob ∧ ((done = [] ∧ tail = []) ∨ ∃ d, tail = [(Str.ofString "one", d)]) ∧
    vs = [(Str.ofString "text", x), (Str.ofString "signs", .lst (ts.map tk3)), (Str.ofString "symbols", .lst ((toR rr).map pairD)), (Str.ofString "order", .ptr st.length)] ++ tail) ?_ ?_ _ _ _ ⟨[], ts, ord0, [], rfl, rfl, ht, rfl, .inl ⟨rfl, rfl⟩, rfl⟩
  · rintro vs s ⟨done, todo, o1, tail, e, e2, hT, rfl, hta, rfl⟩
    have : todo = [] := by cases todo with | nil => rfl | cons a b => simp at e2
    subst this
    cases hT
    rw [List.append_nil] at e
    subst e
    have hta : ∃ d, tail = [(Str.ofString "one", d)] := by
      rcases hta with ⟨rfl, -⟩ | h
      · cases ht; exact absurd w1 (by decide)
      · exact h
    obtain ⟨d, rfl⟩ := hta
    clear ht hs hl e2 hTk hO h1
    have hlen : ((toR rr).map pairD).length ≤ 10000 := by have := hw.1; simp [toR]; first | exact Nat.le_trans (by assumption) (Nat.le_of_ble_eq_true rfl) | lia | omega
    have hpo2 : npS ((st ++ [ord0.ob]).set st.length o.ob) = true := npS_set hpo rfl
    have hpo3 : npS ((st ++ [ord0.ob] ++ [Ob.lst []]).set st.length o.ob) = true := npS_set (npO_app hpo rfl) rfl
    have hpo4 : npS (st ++ [ord0.ob] ++ [Ob.lst []]) = true := npO_app hpo rfl
    have hi2 : st.length < (st ++ [ord0.ob] ++ [Ob.lst []]).length := by simp
    have h2 : callF T 10 147 [.lst ((toR rr).map pairD)] ((st ++ [ord0.ob]).set st.length o.ob) = some (.int (sizeOf' (toR rr)), (st ++ [ord0.ob]).set st.length o.ob) := c147 (by first | exact Nat.le_trans (by assumption) (Nat.le_of_ble_eq_true rfl) | lia | omega) hpo2 (wf_toR hw)
    have h3 : callF T 10 147 [.lst ((toR rr).map pairD)] ((st ++ [ord0.ob] ++ [Ob.lst []]).set st.length o.ob) = some (.int (sizeOf' (toR rr)), (st ++ [ord0.ob] ++ [Ob.lst []]).set st.length o.ob) := c147 (by first | exact Nat.le_trans (by assumption) (Nat.le_of_ble_eq_true rfl) | lia | omega) hpo3 (wf_toR hw)
    have h4 := c259 (n := 10) (by first | exact Nat.le_trans (by assumption) (Nat.le_of_ble_eq_true rfl) | lia | omega) hi hpo w1 w2 w3 w4
    have h5 := c168 (n := 10) (o := o) (by first | exact Nat.le_trans (by assumption) (Nat.le_of_ble_eq_true rfl) | lia | omega) hi2 hpo4
    have h6 := c266 (n := 10) (o := o) (by first | exact Nat.le_trans (by assumption) (Nat.le_of_ble_eq_true rfl) | lia | omega) hi2 hpo4
    repeat' walk_at "og_step"
    refine w2_of (comp_fm (nm2 "sign" "count") bNP gFst (.inl rfl) ?_) ?_
    · intro d hd
      obtain ⟨p, hp', rfl⟩ := List.mem_map.mp hd
      refine ⟨_, fun vs hv => nm2_bind (by decide) vs hv, .inr ⟨_, _, rfl⟩, ?_, fun hb => ?_⟩
      · repeat' walk_at "og_step"
        all_goals exact ⟨Eq.symm (by assumption), rfl⟩
      · repeat' walk_at "og_step"
        all_goals rfl
    · have hpk : np (picD x (toR rr) (numCat ((toR rr).map pairD)) (o.nines + o.zeros + o.floats) (if o.lead > 0 then o.lead + (o.nines + o.zeros + o.floats) else o.behind - o.trail) (o.plain || o.sign != Str.ofString "") (sizeOf' (toR rr))) = true := pic_np hx
      have hsi : st.length < (st ++ [ord0.ob]).length := hi
      repeat' walk_at "og_step"
      all_goals
        refine hX _ _ _ [o.ob, .lst []] (by simp) ?_
        refine Eq.trans (congrArg (freeze _ _) ?_) (freeze_np hpk)
        simp only [retD, numCat, *, if_true, Bool.false_eq_true, if_false, Bool.true_or, Bool.false_or]
  · rintro d ds vs s ⟨done, todo, o1, tail, e, e2, hT, rfl, hta, rfl⟩ J hJ
    cases todo with
    | nil => simp at e2
    | cons t todo =>
      simp only [List.map_cons, List.cons.injEq] at e2
      obtain ⟨rfl, rfl⟩ := e2
      simp only [List.map_cons] at hT
      cases hT with
      | cons hk hT =>
      rename_i o2
      have hb : ∀ (q : Pos), bindT (.Name (Str.ofString "one") q) (tk3 t) ([(Str.ofString "text", x), (Str.ofString "signs", .lst (ts.map tk3)), (Str.ofString "symbols", .lst ((toR rr).map pairD)), (Str.ofString "order", .ptr st.length)] ++ tail) = some [(Str.ofString "text", x), (Str.ofString "signs", .lst (ts.map tk3)), (Str.ofString "symbols", .lst ((toR rr).map pairD)), (Str.ofString "order", .ptr st.length), (Str.ofString "one", tk3 t)] := by
        intro q
        rcases hta with ⟨-, rfl⟩ | ⟨d, rfl⟩ <;> rfl
      refine w1_of (hb _) ?_
      have hc' : callF T 10 252 [.ptr st.length, tk3 t] ((st ++ [ord0.ob]).set st.length o1.ob) = some (.none, (st ++ [ord0.ob]).set st.length o2.ob) := hTk _ _ _ _ hk _
      clear hO h1 hX
      repeat' walk_at "og_step"
      all_goals exact hJ _ _ ⟨done ++ [t], todo, o2, _, by rw [e]; simp, rfl, hT, rfl, .inr ⟨_, rfl⟩, rfl⟩
set_option tactic.hygienic false
set_option genSizeOf false
theorem a_tx : Str.ofString "a" = tx [97] := by decide +kernel
theorem z_tx : Str.ofString "z" = tx [122] := by decide +kernel
theorem w1_leA {c : Nat} {st : Sto} {Q : Bool → Prop} (h : Q (decide (97 ≤ c))) : W1 (cmpop .LtE (.str (Str.ofString "a")) (.str (tx [c])) st) Q := by
  refine w1_of ?_ h
  rw [a_tx]
  show some (!(decide ([c] < [97]))) = some (decide (97 ≤ c))
  rw [StrLaws.lt_cons_cons, StrLaws.lt_nil_nil]
  by_cases h : 97 ≤ c
  · simp [h]
  · simp [h]; first | exact Nat.le_trans (by assumption) (Nat.le_of_ble_eq_true rfl) | lia | omega
theorem w1_leZ {c : Nat} {st : Sto} {Q : Bool → Prop} (h : Q (decide (c ≤ 122))) : W1 (cmpop .LtE (.str (tx [c])) (.str (Str.ofString "z")) st) Q := by
  refine w1_of ?_ h
  rw [z_tx]
  show some (!(decide ([122] < [c]))) = some (decide (c ≤ 122))
  rw [StrLaws.lt_cons_cons, StrLaws.lt_nil_nil]
  by_cases h : c ≤ 122
  · simp [h]
  · simp [h]; first | exact Nat.le_trans (by assumption) (Nat.le_of_ble_eq_true rfl) | lia | omega
theorem w1_ord {c : Nat} {st : Sto} {Q : D → Prop} (h : Q (.int (c : Nat))) : W1 (biCall (Str.ofString "ord") [.str (tx [c])] st) Q := by
  refine w1_of ?_ h
  exact if_pos (e := none) (show (tx [c]).length = 1 from rfl)
theorem w1_chr {c : Nat} {st : Sto} {Q : D → Prop} (hc : 97 ≤ c ∧ c ≤ 122) (h : Q (.str (tx [c - 32]))) : W1 (biCall (Str.ofString "chr") [.int ((c : Int) - 32)] st) Q := by
  obtain ⟨h1, h2⟩ := hc
  refine w1_of ?_ h
  exact (if_pos ⟨by first | exact Nat.le_trans (by assumption) (Nat.le_of_ble_eq_true rfl) | lia | omega, by first | exact Nat.le_trans (by assumption) (Nat.le_of_ble_eq_true rfl) | lia | omega⟩).trans (by rw [show ((c : Int) - 32).toNat = c - 32 from by first | exact Nat.le_trans (by assumption) (Nat.le_of_ble_eq_true rfl) | lia | omega]; rfl)
noncomputable def upc (c : Nat) : Nat := if 97 ≤ c ∧ c ≤ 122 then c - 32 else c
noncomputable def gUp : D → D
  | .str s => .str (tx (s.cps.toList.map upc))
  | _ => .none
theorem fm_up (l : List Nat) : ((chars (tx l)).filter fun _ => true).map gUp = pcs (l.map fun c => [upc c]) := by
  rw [show (chars (tx l)).filter (fun _ => true) = chars (tx l) from by simp, chars_tx]
  simp only [pcs, List.map_map]
  rfl
theorem flat_up (l : List Nat) : (l.map fun c => [upc c]).flatten = l.map upc := by
  induction l with
  | nil => rfl
  | cons a l ih => simp only [List.map_cons, List.flatten_cons, ih]; rfl
noncomputable def trip : Nat → List U → List (PySem.Str × Int × Int)
  | _, [] => []
  | p, u :: us => (tx u.sg, u.ct, (p : Int)) :: trip (p + u.txt.length) us
theorem tok_trip : ∀ (p : Nat) (us : List U), tokOf p us = (trip p us).map tk3
  | _, [] => rfl
  | p, u :: us => congrArg (tokD _ _ _ :: ·) (tok_trip (p + u.txt.length) us)
noncomputable def prs (us : List U) : List (PySem.Str × Int) := us.map fun u => (tx u.sg, u.ct)
theorem trip_prs : ∀ (p : Nat) (us : List U), (trip p us).map (fun t => (t.1, t.2.1)) = prs us
  | _, [] => rfl
  | p, u :: us => congrArg ((_, _) :: ·) (trip_prs (p + u.txt.length) us)
theorem trip_len (p : Nat) (us : List U) : (trip p us).length = us.length := by
  rw [← tokOf_len p us, tok_trip, List.length_map]
noncomputable def isAX (s : PySem.Str) : Bool := [Str.ofString "A", Str.ofString "X"].any (· == s)
noncomputable def bAX : D → Bool
  | .inst _ _ (.str s :: _) => isAX s
  | _ => false
noncomputable def hasAX (us : List U) : Bool := us.any fun u => isAX (tx u.sg)
theorem fm_ax : ∀ (p : Nat) (us : List U), (((tokOf p us).filter bAX).map id).isEmpty = !hasAX us
  | _, [] => rfl
  | p, u :: us => by
    have e : bAX (tokD (tx u.sg) u.ct (p : Int)) = isAX (tx u.sg) := rfl
    have i := fm_ax (p + u.txt.length) us
    show (((tokD (tx u.sg) u.ct (p : Int) :: tokOf (p + u.txt.length) us).filter bAX).map id).isEmpty = !(isAX (tx u.sg) || hasAX us)
    rw [List.filter_cons, e]
    cases isAX (tx u.sg)
    · exact i
    · rfl
theorem trip_sg {us : List U} {P : PySem.Str → Prop} (h : ∀ u ∈ us, P (tx u.sg)) : ∀ p, ∀ t ∈ trip p us, P t.1 := by
  induction us with
  | nil => intro p t ht; cases ht
  | cons u us ih =>
    intro p t ht
    rcases List.mem_cons.mp ht with rfl | ht
    · exact h u (.head _)
    · exact ih (fun v hv => h v (.tail _ hv)) _ t ht
/-- the way to the pictures' two makers -/
theorem read_go {N : Int} {l : List Nat} {us : List U} {d : D} (hl : l.length ≤ 30) (ha : ∀ c ∈ l, c < 128) (he : l.map upc = flat us) (hu : ∀ u ∈ us, u.ok) (hd : np d = true)
    (hC : callF T 11 (if hasAX us then 290 else 278) [.str (tx (flat us)), .lst (tokOf 0 us)] [B N, .lst []] = some (d, [B N, .lst []])) :
    callF T 12 295 [.str (tx l)] [B N] = some (d, [B N]) := by
  have hfl : (flat us).length ≤ 30 := by rw [← he]; simpa using hl
  have hul : us.length ≤ 30 := Nat.le_trans (len_flat us) hfl
  have htl : (tx l).length = l.length := tx_len l
  have h1 : l.length ≤ 100000 := by first | exact Nat.le_trans (by assumption) (Nat.le_of_ble_eq_true rfl) | lia | omega
  have h2 : (tx l).length ≤ 10000 := by first | exact Nat.le_trans (by assumption) (Nat.le_of_ble_eq_true rfl) | lia | omega
  have h2' : (chars (tx l)).length ≤ 10000 := by rw [chars_tx, List.length_map]; first | exact Nat.le_trans (by assumption) (Nat.le_of_ble_eq_true rfl) | lia | omega
  have h3 : ((tx l).cps.all (· < 128)) = true := by
    simp only [tx, List.all_toArray', List.all_eq_true, decide_eq_true_eq]
    exact ha
  have hp : npS [B N] = true := rfl
  have hC : callF T 11 (if hasAX us then 290 else 278) [.str (tx (flat us)), .lst (tokOf 0 us)] ([B N] ++ [.lst []]) = some (d, [B N] ++ [.lst []]) := hC
  generalize [B N] = st at hp hC ⊢
  refine cpJ (v0 := [("text", .str (tx l))]) fn295 rfl (by kernel_rfl) (by kernel_rfl) hp ?_
  intro X hX
  have h4 : callF T 11 135 [.str (tx (flat us))] st = some (.lst (tokOf 0 us), st) := c135 (by first | exact Nat.le_trans (by assumption) (Nat.le_of_ble_eq_true rfl) | lia | omega) hp hu (by first | exact Nat.le_trans (by assumption) (Nat.le_of_ble_eq_true rfl) | lia | omega)
  have h5 := hC
  have h6 : (tokOf 0 us).length ≤ 10000 := by rw [tokOf_len]; first | exact Nat.le_trans (by assumption) (Nat.le_of_ble_eq_true rfl) | lia | omega
  clear hC
  ((with_reducible apply x_open); (· exact rfl))
  repeat' walk_at "og_step"
  refine w2_of (comp_fm (nm1 "sign") (fun _ => true) gUp (.inl rfl) ?_) ?_
  · intro d hd
    rw [chars_tx] at hd
    obtain ⟨c, hc, rfl⟩ := List.mem_map.mp hd
    clear h3 h4 h5 he hu ha
    refine ⟨_, fun vs hv => nm1_bind vs hv, .inr ⟨_, rfl⟩, ?_, fun hb => ?_⟩
    · repeat' walk_at "og_step"
      all_goals rfl
    · repeat' walk_at "og_step"
      all_goals
        show D.str (tx [_]) = D.str (tx [upc c]) ∧ _
        refine ⟨?_, rfl⟩
        unfold upc
        first
          | rw [if_pos ⟨of_decide_eq_true (by assumption), of_decide_eq_true (by assumption)⟩]
          | (rw [if_neg (fun q => absurd q.2 (of_decide_eq_false (by assumption)))])
          | (rw [if_neg (fun q => absurd q.1 (of_decide_eq_false (by assumption)))])
  · rw [fm_up]
    repeat' walk_at "og_step"
    refine w1_join (by rw [flat_up, he]; first | exact Nat.le_trans (by assumption) (Nat.le_of_ble_eq_true rfl) | lia | omega) ?_
    rw [flat_up, he]
    repeat' walk_at "og_step"
    refine w1_itemsL ⟨tokOf_np _ _, h6⟩ ?_
    repeat' walk_at "og_step"
    refine w2_of (comp_fm (nm1 "one") bAX id (.inl rfl) ?_) ?_
    · intro d hd
      rw [tok_trip] at hd
      obtain ⟨t, ht, rfl⟩ := List.mem_map.mp hd
      clear h3 h4 h5 he hu ha
      refine ⟨_, fun vs hv => nm1_bind vs hv, .inr ⟨_, rfl⟩, ?_, fun hb => ?_⟩
      · repeat' walk_at "og_step"
        all_goals exact ⟨Eq.symm (by assumption), rfl⟩
      · repeat' walk_at "og_step"
        all_goals rfl
    · have hx := fm_ax 0 us
      cases hA : hasAX us with
      | true =>
        rw [hA] at hx h5
        simp only [if_true] at h5
        have hx' : (!((List.map id (List.filter bAX (tokOf 0 us))).isEmpty)) = true := by rw [hx]; rfl
        clear h3 h4 he hu ha hx
        repeat' walk_at "og_step"
        all_goals exact hX _ _ _ _ rfl (freeze_np hd)
      | false =>
        rw [hA] at hx h5
        simp only [Bool.false_eq_true, if_false] at h5
        have hx' : (!((List.map id (List.filter bAX (tokOf 0 us))).isEmpty)) = false := by rw [hx]; rfl
        clear h3 h4 he hu ha hx
        repeat' walk_at "og_step"
        all_goals exact hX _ _ _ _ rfl (freeze_np hd)
set_option tactic.hygienic false
set_option genSizeOf false
noncomputable def mpush (A : RR) (p : List Nat × Nat) : RR := match A.getLast? with
  | some q => if q.1 == p.1 then A.dropLast ++ [(p.1, q.2 + p.2)] else A ++ [p]
  | none => A ++ [p]
noncomputable def mrg (rr : RR) : RR := rr.foldl mpush []
theorem toR_push (A : RR) (p : List Nat × Nat) : push (toR A) (tx p.1, (p.2 : Int)) = toR (mpush A p) := by
  rcases last_or A with rfl | ⟨B, ⟨t, k⟩, rfl⟩
  · rfl
  · by_cases h : t = p.1
    · subst h
      rw [show toR (B ++ [(p.1, k)]) = toR B ++ [(tx p.1, (k : Int))] from by simp [toR], push_eq]
      simp [mpush, toR]
    · have h1 : (t == p.1) = false := by simpa using h
      have h2 : (tx t == tx p.1) = false := by rw [tx_beq]; exact h1
      rw [show toR (B ++ [(t, k)]) = toR B ++ [(tx t, (k : Int))] from by simp [toR], push_ne h2]
      simp [mpush, toR, h1]
theorem toR_fold : ∀ (rr A : RR), (toR rr).foldl push (toR A) = toR (rr.foldl mpush A)
  | [], A => rfl
  | p :: rr, A => by
    show (toR rr).foldl push (push (toR A) (tx p.1, (p.2 : Int))) = _
    rw [toR_push, toR_fold rr, List.foldl_cons]
theorem toR_mrg (rr : RR) : symOf (toR rr) = toR (mrg rr) := toR_fold rr []
noncomputable def shortRR (rr : RR) : List Nat := (rr.map fun p => short p.1 p.2).flatten
noncomputable def dgOk (way : Nat) (dg : Int) : Prop := if way = 1 then dg = 0 else 1 ≤ dg ∧ dg ≤ 18
/-- the spelling of runs, piece by piece -/
inductive Spells : RR → List (List Nat) → Prop
  | nil : Spells [] []
  | cons {p rr w ws} : Spelled p.1 p.2 w → Spells rr ws → Spells (p :: rr) (w :: ws)
structure LawOk (way : Nat) (rr : RR) : Prop where
  ne : rr ≠ []
  len : rr.length ≤ 10
  sg : ∀ p ∈ rr, p.1.length ≤ 2 ∧ 1 ≤ p.2 ∧ p.2 < 150 ∧ (alone p.1 = true ∨ Txt.lower (tx p.1) = tx (p.1.map low))
  wf : wfN (mrg rr)
  shown : ∀ p ∈ mrg rr, shown p.1 p.2 = short p.1 p.2
  short : (shortRR (mrg rr)).length ≤ 30
  read : ∃ cat, PyData.strOk cat = true ∧ ∀ (l : List Nat), l.length ≤ 30 → ((∃ ws, l = ws.flatten ∧ Spells rr ws) ∨ l = shortRR (mrg rr)) → ∀ N : Int,
    ∃ t dg sc sg, np t = true ∧ dgOk way dg ∧ callF T 12 295 [.str (tx l)] [B N] = some (picD t (toR (mrg rr)) cat dg sc sg (sizeOf' (toR (mrg rr))), [B N])
theorem show_short {rr : RR} (h : ∀ p ∈ rr, shown p.1 p.2 = short p.1 p.2) : showRR rr = shortRR rr := by
  unfold showRR shortRR
  rw [List.map_congr_left h]
theorem spelled_len {sg : List Nat} {k : Nat} {w : List Nat} (h2 : k < 150) (h1 : sg.length ≤ 2) (h : Spelled sg k w) : w.length ≤ 410 := by
  obtain ⟨d1, -⟩ := dig_ok h2
  have hs := short_len h2 h1
  rcases h with rfl | ⟨-, (rfl | rfl) | ⟨-, rfl⟩ | rfl⟩
  · first | lia | omega
  · simp; first | lia | omega
  · simp; first | lia | omega
  · have := short_len (sg := sg) (k := k - 1) (by first | lia | omega) h1
    simp; first | lia | omega
  · have hr := rep_len k (sg.map low)
    have hr2 : k * (sg.map low).length ≤ 150 * 2 := Nat.mul_le_mul (by first | lia | omega) (by simpa using h1)
    first | lia | omega
theorem spells_len {rr : RR} {ws : List (List Nat)} (h : ∀ p ∈ rr, p.1.length ≤ 2 ∧ p.2 < 150) (hs : Spells rr ws) : ws.flatten.length ≤ 410 * rr.length := by
  induction hs with
  | nil => simp
  | cons h1 h2 ih =>
    have h3 := h _ (.head _)
    have h4 := spelled_len h3.2 h3.1 h1
    have h5 := ih fun q hq => h q (.tail _ hq)
    simp only [List.flatten_cons, List.length_append, List.length_cons]; first | lia | omega
/-- a spelling is drawn in a comprehension -/
noncomputable def nmB (x y : String) (vs : Vars) : Prop := vs = [(Str.ofString "bag", .ptr 0)] ∨ ∃ d e, vs = [(Str.ofString "bag", .ptr 0), (Str.ofString x, d), (Str.ofString y, e)]
theorem comp_draw {t : Expr} {test : Vars → Sto → Option (Bool × Sto)} {elt : Vars → Sto → Option (D × Sto)} : ∀ (rr : RR) (N : Int) (vs : Vars), nmB "sign" "count" vs →
    (∀ p ∈ rr, ∃ vs', (∀ vs, nmB "sign" "count" vs → bindT t (.tup [.str (tx p.1), .int (p.2 : Int)]) vs = some vs') ∧ nmB "sign" "count" vs' ∧ (∀ N, W2 (test vs' [B N]) fun r s => r = true ∧ s = [B N]) ∧
      ∀ N, W2 (elt vs' [B N]) fun d s => ∃ w N', Spelled p.1 p.2 w ∧ d = .str (tx w) ∧ s = [B N']) →
    W2 (compLoop t test elt (rr.map fun p => .tup [.str (tx p.1), .int (p.2 : Int)]) vs [B N]) fun l s => ∃ ws N', l = pcs ws ∧ Spells rr ws ∧ s = [B N']
  | [], N, vs, hv, h => w2_of rfl ⟨[], N, rfl, .nil, rfl⟩
  | p :: rr, N, vs, hv, h => by
    obtain ⟨vs', h1, h2, h3, h4⟩ := h p (.head _)
    obtain ⟨r, s, e1, rfl, rfl⟩ := h3 N
    obtain ⟨d, s2, e2, w, N2, hw, rfl, rfl⟩ := h4 N
    obtain ⟨l, s3, e3, ws, N3, rfl, hs, rfl⟩ := comp_draw rr N2 vs' h2 fun q hq => h q (.tail _ hq)
    refine w2_of (a := pcs (w :: ws)) (s := [B N3]) ?_ ⟨w :: ws, N3, rfl, .cons hw hs, rfl⟩
    simp only [List.map_cons]
    unfold compLoop
    simp only [h1 vs hv, e1, e2, e3, Option.bind_some, if_true, Option.map_some]
    rfl
theorem setV_ne {x y : PySem.Str} {d e : D} {r : Vars} (h : (y == x) = false) : setV x d ((y, e) :: r) = (y, e) :: setV x d r := if_neg (by rw [h]; exact Bool.false_ne_true)
theorem setV_eq {x : PySem.Str} {d e : D} {r : Vars} : setV x d ((x, e) :: r) = (x, d) :: r := if_pos (beq_self_eq_true x)
theorem nmB_bind {x y : String} {p q : Pos} {a b} {d e : D} (hxy : (x == y) = false) (h1 : ("bag" == x) = false) (h2 : ("bag" == y) = false) (vs : Vars) (h : nmB x y vs) : bindT (.Tuple [.Name (Str.ofString x) p, .Name (Str.ofString y) q] a b) (.tup [d, e]) vs = some [(Str.ofString "bag", .ptr 0), (Str.ofString x, d), (Str.ofString y, e)] := by
  have g1 : (Str.ofString "bag" == Str.ofString x) = false := (ofs_beq _ _).trans h1
  have g2 : (Str.ofString "bag" == Str.ofString y) = false := (ofs_beq _ _).trans h2
  have g3 : (Str.ofString x == Str.ofString y) = false := (ofs_beq _ _).trans hxy
  rcases h with rfl | ⟨f, g, rfl⟩
  · exact (congrArg (fun z => some (setV (Str.ofString y) e z)) (setV_ne g1)).trans (congrArg some ((setV_ne g2).trans (congrArg (_ :: ·) (setV_ne g3))))
  · exact (congrArg (fun z => some (setV (Str.ofString y) e z)) ((setV_ne g1).trans (congrArg (_ :: ·) setV_eq))).trans (congrArg some ((setV_ne g2).trans (congrArg (_ :: ·) ((setV_ne g3).trans (congrArg (_ :: ·) setV_eq)))))
set_option tactic.hygienic false
set_option genSizeOf false
set_option maxHeartbeats 1000000
theorem x_openD {cf : CF} {b r : List Stmt} {s : Stmt} {sc : Scope} {k : ScopeKind} {n : List (PySem.Str × NameKind)} {g c : Bool} {mo : List (PySem.Str × PySem.Const)} {base : Nat} {vs : Vars} {st : Sto} {X : Fl → Vars → Sto → Prop} (h1 : b = s :: r) (h2 : sc = ⟨k, n, g, c, mo⟩) (h : W3 (exs T cf (s :: r) ⟨k, n, g, c, mo⟩ base vs st) X) : W3 (exs T cf b sc base vs st) X := by subst h1 h2; exact h
theorem x_consH {cf : CF} {sc : Scope} {vs : Vars} {st : Sto} {s : Stmt} {rest : List Stmt} {X : Fl → Vars → Sto → Prop} (hh : T.hint s.pos.line = some 1)
    (h : W3 (ex T cf s sc 0 vs st) fun f v t => f = .next ∧ 1 < t.length ∧ ∃ v', fzVars t 1 v = some v' ∧ ∃ t', fzSto t 1 (t.take 1) = some t' ∧ W3 (exs T cf rest sc 0 v' t') X) : W3 (exs T cf (s :: rest) sc 0 vs st) X := by
  obtain ⟨f, v, t, e, rfl, hl, v', e1, t', e2, h⟩ := h
  have q : cpH 0 v t (some 1) = some (v', t') := (if_neg (show ¬ t.length ≤ 0 + 1 by first | lia | omega)).trans (bind2 (f := fun v t => (v, t)) e1 e2)
  exact w3_eq (obind e) (w3_eq (obind ((compact_eq hh).trans q)) h)
theorem fzv_cons {st : Sto} {n : Nat} {x : PySem.Str} {d d' : D} {r r' : Vars} (h : freeze st n d = some d') (k : fzVars st n r = some r') : fzVars st n ((x, d) :: r) = some ((x, d') :: r') := bind2 (f := fun d r => (x, d) :: r) h k
noncomputable def lawF : Fn := match lawFn with | some f => f | none => ⟨[], [], { kind := .function, names := [], isGenerator := false, isCoroutine := false }, false⟩
theorem comp_draw' {t : Expr} {test : Vars → Sto → Option (Bool × Sto)} {elt : Vars → Sto → Option (D × Sto)} (rr : RR) (N : Int) (vs : Vars) (hv : nmB "sign" "count" vs)
    (h : ∀ p ∈ rr, ∃ vs', (∀ vs, nmB "sign" "count" vs → bindT t (.tup [.str (tx p.1), .int (p.2 : Int)]) vs = some vs') ∧ nmB "sign" "count" vs' ∧ (∀ N, W2 (test vs' [B N]) fun r s => r = true ∧ s = [B N]) ∧
      ∀ N, W2 (elt vs' [B N]) fun d s => ∃ w N', Spelled p.1 p.2 w ∧ d = .str (tx w) ∧ s = [B N']) :
    W2 (compLoop t test elt ((toR rr).map pairD) vs [B N]) fun l s => ∃ ws N', l = pcs ws ∧ Spells rr ws ∧ s = [B N'] := by
  rw [map_toR]; exact comp_draw rr N vs hv h
noncomputable def gShort : D → D
  | .tup [.str s, .int c] => .str (tx (short s.cps.toList c.toNat))
  | _ => .none
theorem fm_short (rr : RR) : (((toR rr).map pairD).filter fun _ => true).map gShort = pcs (rr.map fun p => short p.1 p.2) := by
  rw [show ((toR rr).map pairD).filter (fun _ => true) = (toR rr).map pairD from by simp, map_toR, List.map_map]
  simp only [pcs, List.map_map]
  rfl
noncomputable abbrev V6 (S : List D) (w : Nat) (rr : RR) (l : List Nat) (m : D) : Vars := [(Str.ofString "script", .lst S), (Str.ofString "bag", .ptr 0), (Str.ofString "way", .int (w : Int)), (Str.ofString "runs", .lst ((toR rr).map pairD)), (Str.ofString "text", .str (tx l)), (Str.ofString "merged", m)]
noncomputable abbrev V8 (S : List D) (w : Nat) (rr : RR) (l : List Nat) (d : PySem.Str) (e : Int) : Vars := V6 S w rr l (.lst ((toR (mrg rr)).map pairD)) ++ [(Str.ofString "sign", .str d), (Str.ofString "count", .int e)]
theorem fz_V8 {S : List D} {w : Nat} {rr : RR} {l : List Nat} {d : PySem.Str} {e : Int} {N : Int} {g : Sto} (hs : npL S = true) : fzVars ([B N] ++ .lst ((toR (mrg rr)).map pairD) :: g) 1 (V6 S w rr l (.ptr [B N].length) ++ [(Str.ofString "sign", .str d), (Str.ofString "count", .int e)]) = some (V8 S w rr l d e) := by
  have f1 : freeze ([B N] ++ .lst ((toR (mrg rr)).map pairD) :: g) 1 (.lst S) = some (.lst S) := freeze_np hs
  have f2 : freeze ([B N] ++ .lst ((toR (mrg rr)).map pairD) :: g) 1 (.ptr 0) = some (.ptr 0) := rfl
  have f3 : freeze ([B N] ++ .lst ((toR (mrg rr)).map pairD) :: g) 1 (.int (w : Int)) = some (.int (w : Int)) := rfl
  have f4 : freeze ([B N] ++ .lst ((toR (mrg rr)).map pairD) :: g) 1 (.lst ((toR rr).map pairD)) = some (.lst ((toR rr).map pairD)) := freeze_np (pairs_np _)
  have f5 : freeze ([B N] ++ .lst ((toR (mrg rr)).map pairD) :: g) 1 (.str (tx l)) = some (.str (tx l)) := rfl
  have f6 : freeze ([B N] ++ .lst ((toR (mrg rr)).map pairD) :: g) 1 (.ptr [B N].length) = some (.lst ((toR (mrg rr)).map pairD)) := freeze_mid (st := [B N]) (pairs_np _)
  have f7 : freeze ([B N] ++ .lst ((toR (mrg rr)).map pairD) :: g) 1 (.str d) = some (.str d) := rfl
  have f8 : freeze ([B N] ++ .lst ((toR (mrg rr)).map pairD) :: g) 1 (.int e) = some (.int e) := rfl
  exact (fzv_cons f1 (fzv_cons f2 (fzv_cons f3 (fzv_cons f4 (fzv_cons f5 (fzv_cons f6 (fzv_cons f7 (fzv_cons f8 rfl))))))))
noncomputable abbrev V11 (S : List D) (w : Nat) (rr : RR) (l : List Nat) (d : PySem.Str) (e : Int) (pic sing : D) : Vars := V8 S w rr l d e ++ [(Str.ofString "short", .str (tx (shortRR (mrg rr)))), (Str.ofString "picture", pic), (Str.ofString "single", sing)]
theorem fz_V11 {S : List D} {w : Nat} {rr : RR} {l : List Nat} {d : PySem.Str} {e : Int} {N : Int} {g : Sto} {j : Nat} {pic : D} {k : List D} (hs : npL S = true) (hp : np pic = true) (hj : g[j]? = some (.lst k)) (hk : npL k = true) : fzVars (B N :: g) 1 (V11 S w rr l d e pic (.ptr (j + 1))) = some (V11 S w rr l d e pic (.lst k)) := by
  have f1 : freeze (B N :: g) 1 (.lst S) = some (.lst S) := freeze_np hs
  have f2 : freeze (B N :: g) 1 (.ptr 0) = some (.ptr 0) := rfl
  have f3 : freeze (B N :: g) 1 (.int (w : Int)) = some (.int (w : Int)) := rfl
  have f4 : freeze (B N :: g) 1 (.lst ((toR rr).map pairD)) = some (.lst ((toR rr).map pairD)) := freeze_np (pairs_np _)
  have f5 : freeze (B N :: g) 1 (.str (tx l)) = some (.str (tx l)) := rfl
  have f6 : freeze (B N :: g) 1 (.lst ((toR (mrg rr)).map pairD)) = some (.lst ((toR (mrg rr)).map pairD)) := freeze_np (pairs_np _)
  have f7 : freeze (B N :: g) 1 (.str d) = some (.str d) := rfl
  have f8 : freeze (B N :: g) 1 (.int e) = some (.int e) := rfl
  have f9 : freeze (B N :: g) 1 (.str (tx (shortRR (mrg rr)))) = some (.str (tx (shortRR (mrg rr)))) := rfl
  have f10 : freeze (B N :: g) 1 pic = some pic := freeze_np hp
  have f11 : freeze (B N :: g) 1 (.ptr (j + 1)) = some (.lst k) := freezeC hj hk
  exact (fzv_cons f1 (fzv_cons f2 (fzv_cons f3 (fzv_cons f4 (fzv_cons f5 (fzv_cons f6 (fzv_cons f7 (fzv_cons f8 (fzv_cons f9 (fzv_cons f10 (fzv_cons f11 rfl)))))))))))
theorem l_mulC {g : Sto} {N : Int} {j k : Nat} {d : D} {Q : D → Sto → Prop} (h0 : g[j]? = some (.lst [d])) (h1 : k ≤ 10000) (h : Q (.lst (List.replicate k d)) (B N :: g)) : W2 (binop .Mult (.ptr (j + 1)) (.int (k : Int)) (B N :: g)) Q := by
  refine l_mul_lst (k := [d]) (lst_ptr h0) (by simp) (by first | lia | omega) (by first | lia | omega) ?_
  rw [show ((k : Int)).toNat = k from by first | lia | omega, reps_eq]; exact h
theorem l_addCD {g : Sto} {N : Int} {i : Nat} {k l : List D} {Q : D → Sto → Prop} (h0 : g[i]? = some (.lst k)) (h2 : k.length + l.length ≤ 10000) (h : Q (.ptr (g.length + 1)) (B N :: (g ++ [.lst (k ++ l)]))) :
    W2 (binop .Add (.ptr (i + 1)) (.lst l) (B N :: g)) Q :=
  l_add_lst (k := k) (l := l) (lst_ptr h0) rfl h2 h
noncomputable def placeS (rr : RR) : List PySem.Str := rr.flatMap fun p => List.replicate p.2 (tx p.1)
theorem place_strs (rr : RR) : placeD rr = (placeS rr).map .str := by
  induction rr with
  | nil => rfl
  | cons p rr ih =>
    simp only [placeD, placeS, List.flatMap_cons, List.map_append, List.map_replicate] at ih ⊢
    rw [ih]
theorem place_ok {rr : RR} (h : wfN rr) : ∀ s ∈ placeS rr, PyData.strOk s = true ∧ s.length ≤ 2 := by
  intro s hs
  simp only [placeS, List.mem_flatMap] at hs
  obtain ⟨p, hp, hs⟩ := hs
  obtain ⟨-, rfl⟩ := List.mem_replicate.mp hs
  have h1 := (wf_toR h).2 (tx p.1, (p.2 : Int)) (List.mem_map.mpr ⟨p, hp, rfl⟩)
  exact ⟨h1.2.2.2.2, by have := h1.2.2.2.1; exact this⟩
theorem any_eq {rr : RR} (h : wfN rr) (s : PySem.Str) : ((toR rr).map (·.1)).any (· == s) = (placeS rr).any (· == s) := by
  have h2 : ∀ p ∈ rr, 1 ≤ p.2 := fun p hp => (h.2 p hp).2.2.1
  clear h
  induction rr with
  | nil => rfl
  | cons p rr ih =>
    have := ih fun q hq => h2 q (.tail _ hq)
    obtain ⟨k, hk⟩ : ∃ k, p.2 = k + 1 := ⟨p.2 - 1, by have := h2 p (.head _); first | lia | omega⟩
    simp only [toR, placeS, List.map_cons, List.any_cons, List.flatMap_cons, List.any_append] at this ⊢
    rw [this, hk]
    cases hb : (tx p.1 == s)
    · rw [show (List.replicate (k + 1) (tx p.1)).any (· == s) = false from by simp [hb]]
    · rw [show (List.replicate (k + 1) (tx p.1)).any (· == s) = true from by simp [hb]]
noncomputable def bLen : D → Bool
  | .str s => !([Str.ofString "S", Str.ofString "V", Str.ofString "P"].any (· == s))
  | _ => false
noncomputable def gLen : D → D
  | .str s => .int (s.length : Nat)
  | _ => .none
noncomputable def lens (rr : RR) : List Int := ((placeS rr).filter fun s => !([Str.ofString "S", Str.ofString "V", Str.ofString "P"].any (· == s))).map fun s => ((s.length : Nat) : Int)
theorem fm_len (rr : RR) : ((placeD rr).filter bLen).map gLen = (lens rr).map .int := by
  rw [place_strs]
  unfold lens
  induction placeS rr with
  | nil => rfl
  | cons s l ih =>
    have e : bLen (.str s) = !([Str.ofString "S", Str.ofString "V", Str.ofString "P"].any (· == s)) := rfl
    simp only [List.map_cons, List.filter_cons, e]
    split
    · simp only [List.map_cons, ih]; rfl
    · exact ih
theorem svp (s : PySem.Str) : (!([Str.ofString "S", Str.ofString "V", Str.ofString "P"].any (· == s))) = laid s := by
  simp only [laid, List.any_cons, List.any_nil]
  cases (Str.ofString "S" == s) <;> cases (Str.ofString "V" == s) <;> cases (Str.ofString "P" == s) <;> rfl
theorem lens_sum (rr : RR) : (lens rr).sum = sizeOf' (toR rr) := by
  unfold lens sizeOf'
  simp only [svp]
  induction rr with
  | nil => rfl
  | cons p rr ih =>
    simp only [placeS, toR, List.flatMap_cons, List.filter_append, List.map_append, List.sum_append, List.map_cons, List.filter_cons] at ih ⊢
    rw [ih]
    cases hb : laid (tx p.1)
    · rw [show (List.replicate p.2 (tx p.1)).filter (fun s => laid s) = [] from by simp [hb]]
      simp
    · rw [show (List.replicate p.2 (tx p.1)).filter (fun s => laid s) = List.replicate p.2 (tx p.1) from by simp [hb]]
      simp only [if_true, List.map_cons, List.sum_cons, List.map_replicate]
      congr 1
      generalize p.2 = k
      induction k with
      | zero => simp
      | succ k ih2 => rw [List.replicate_succ, List.sum_cons, ih2]; push_cast; rw [Int.add_mul]; first | lia | omega
theorem w1_sumE {l : List Int} {L : List D} {st : Sto} {z : Int} {Q : D → Prop} (hz : l.sum = z) (h0 : intsOf L = some l) (h1 : l.length ≤ 10000) (h2 : ∀ i ∈ l, 0 ≤ i ∧ i ≤ 1000000000) (h : Q (.int z)) : W1 (biCall (Str.ofString "sum") [.lst L] st) Q :=
  w1_sum h0 h1 h2 (by rw [hz]; exact h)
theorem lens_ok {rr : RR} (h : wfN rr) : (lens rr).length ≤ 7500 ∧ ∀ i ∈ lens rr, 0 ≤ i ∧ i ≤ 1000000000 := by
  constructor
  · have h1 := place_len (rr := rr) fun p hp => (h.2 p hp).2.2.2.1
    rw [place_strs, List.length_map] at h1
    have h2 := h.1
    have h3 : (lens rr).length ≤ (placeS rr).length := by
      unfold lens
      rw [List.length_map]
      exact List.length_filter_le _ _
    first | lia | omega
  · intro i hi
    obtain ⟨s, hs, rfl⟩ := List.mem_map.mp hi
    have := (place_ok h s (List.mem_filter.mp hs).1).2
    first | lia | omega
set_option tactic.hygienic false
set_option maxHeartbeats 1000000
/-- one run cut into units -/
noncomputable def Cuts (sg : List Nat) (k : Nat) (us : List U) : Prop := us ≠ [] ∧ (∀ u ∈ us, u.ok ∧ u.sg = sg ∧ 1 ≤ u.ct) ∧ (us.map U.ct).sum = (k : Int)
inductive Blocks : RR → List U → Prop
  | nil : Blocks [] []
  | cons {p rr a b} : Cuts p.1 p.2 a → Blocks rr b → Blocks (p :: rr) (a ++ b)
theorem prs_app (a b : List U) : prs (a ++ b) = prs a ++ prs b := by simp [prs]
theorem push_push (A : List (PySem.Str × Int)) (s : PySem.Str) (c c' : Int) : push (push A (s, c)) (s, c') = push A (s, c + c') := by
  rcases last_or A with rfl | ⟨B, ⟨t, k⟩, rfl⟩
  · exact push_eq (A := [])
  · by_cases h : t = s
    · subst h
      rw [push_eq, push_eq, push_eq, Int.add_assoc]
    · have h' : (t == s) = false := by simpa using h
      rw [push_ne h', push_ne h']
      have := push_eq (A := B ++ [(t, k)]) (s := s) (k := c) (c := c')
      simpa using this
theorem push_cuts (sg : List Nat) : ∀ (us : List U) (k : Int) (A : List (PySem.Str × Int)), us ≠ [] → (∀ u ∈ us, u.sg = sg) → (us.map U.ct).sum = k → (prs us).foldl push A = push A (tx sg, k)
  | [], _, _, h, _, _ => absurd rfl h
  | [u], k, A, _, h1, h2 => by
    have : u.sg = sg := h1 u (.head _)
    simp at h2
    simp [prs, this, h2]
  | u :: v :: us, k, A, _, h1, h2 => by
    have hu : u.sg = sg := h1 u (.head _)
    have hv : v.sg = sg := h1 v (.tail _ (.head _))
    have ih := push_cuts sg (v :: us) (k - u.ct) (push A (tx sg, u.ct)) (by simp) (fun w hw => h1 w (.tail _ hw)) (by simp at h2 ⊢; first | lia | omega)
    show (prs (v :: us)).foldl push (push A (tx u.sg, u.ct)) = _
    rw [hu, ih, push_push]
    congr 2; first | lia | omega
theorem fold_blocks {rr : RR} {us : List U} (h : Blocks rr us) : ∀ A, (prs us).foldl push A = (toR rr).foldl push A := by
  induction h with
  | nil => intro A; rfl
  | @cons p rr a b h1 h2 ih =>
    intro A
    rw [prs_app, List.foldl_append, push_cuts p.1 a p.2 A h1.1 (fun u hu => (h1.2.1 u hu).2.1) h1.2.2, ih]
    rfl
theorem sym_blocks {rr : RR} {us : List U} (h : Blocks rr us) : symOf (prs us) = toR (mrg rr) := by
  rw [← toR_mrg]; exact fold_blocks h []
theorem blocks_mem {rr : RR} {us : List U} (h : Blocks rr us) : (∀ u ∈ us, u.ok ∧ 1 ≤ u.ct ∧ ∃ p ∈ rr, u.sg = p.1) ∧ ∀ p ∈ rr, ∃ u ∈ us, u.sg = p.1 := by
  induction h with
  | nil => exact ⟨fun u hu => absurd hu (by simp), fun p hp => absurd hp (by simp)⟩
  | @cons p rr a b h1 h2 ih =>
    constructor
    · intro u hu
      rcases List.mem_append.mp hu with hu | hu
      · obtain ⟨q1, q2, q3⟩ := h1.2.1 u hu
        exact ⟨q1, q3, p, .head _, q2⟩
      · obtain ⟨q1, q3, q, hq, q2⟩ := ih.1 u hu
        exact ⟨q1, q3, q, .tail _ hq, q2⟩
    · intro q hq
      rcases List.mem_cons.mp hq with rfl | hq
      · obtain ⟨u, hu⟩ := List.exists_mem_of_ne_nil _ h1.1
        exact ⟨u, List.mem_append_left _ hu, (h1.2.1 u hu).2.1⟩
      · obtain ⟨u, hu, e⟩ := ih.2 q hq
        exact ⟨u, List.mem_append_right _ hu, e⟩
/- merging -/
noncomputable def diffs : RR → Bool
  | p :: q :: r => p.1 != q.1 && diffs (q :: r)
  | _ => true
theorem mpush_nil (p : List Nat × Nat) : mpush [] p = [p] := rfl
theorem mpush_eq {A : RR} {s : List Nat} {k c : Nat} : mpush (A ++ [(s, k)]) (s, c) = A ++ [(s, k + c)] := by simp [mpush]
theorem mpush_ne {A : RR} {t s : List Nat} {k c : Nat} (h : (t == s) = false) : mpush (A ++ [(t, k)]) (s, c) = A ++ [(t, k), (s, c)] := by simp [mpush, h]
theorem diffs_two {A : RR} {p q : List Nat × Nat} {r : RR} : diffs (A ++ p :: q :: r) = (diffs (A ++ [p]) && (p.1 != q.1 && diffs (q :: r))) := by
  induction A with
  | nil => rfl
  | cons a A ih =>
    cases A with
    | nil => show (a.1 != p.1 && diffs (p :: q :: r)) = ((a.1 != p.1 && true) && _); rw [Bool.and_true]; rfl
    | cons b A =>
      show (a.1 != b.1 && diffs (b :: A ++ p :: q :: r)) = ((a.1 != b.1 && diffs (b :: A ++ [p])) && _)
      rw [ih, Bool.and_assoc]
theorem diffs_last {A : RR} {s : List Nat} {k c : Nat} : diffs (A ++ [(s, k)]) = diffs (A ++ [(s, c)]) := by
  rcases last_or A with rfl | ⟨B, p, rfl⟩
  · rfl
  · rw [List.append_assoc, List.append_assoc]
    show diffs (B ++ p :: (s, k) :: []) = diffs (B ++ p :: (s, c) :: [])
    rw [diffs_two, diffs_two]; rfl
theorem mrg_go : ∀ (rr A : RR) , diffs (A ++ rr) = true → rr.foldl mpush A = A ++ rr
  | [], A, _ => by simp
  | p :: rr, A, h => by
    have e : mpush A p = A ++ [p] := by
      rcases last_or A with rfl | ⟨B, ⟨t, k⟩, rfl⟩
      · rfl
      · obtain ⟨s, c⟩ := p
        rw [List.append_assoc] at h
        have h : diffs (B ++ (t, k) :: (s, c) :: rr) = true := h
        rw [diffs_two] at h
        simp only [Bool.and_eq_true, bne_iff_ne, ne_eq] at h
        have ht : (t == s) = false := by simpa using h.2.1
        rw [mpush_ne ht]; simp
    rw [List.foldl_cons, e, mrg_go rr (A ++ [p]) (by rw [List.append_assoc]; exact h)]
    simp
theorem mrg_id {rr : RR} (h : diffs rr = true) : mrg rr = rr := mrg_go rr [] h
theorem diffs_push {A : RR} (p : List Nat × Nat) (h : diffs A = true) : diffs (mpush A p) = true := by
  rcases last_or A with rfl | ⟨B, ⟨t, k⟩, rfl⟩
  · rfl
  · obtain ⟨s, c⟩ := p
    by_cases e : t = s
    · subst e
      rw [mpush_eq, diffs_last (c := k)]; exact h
    · have ht : (t == s) = false := by simpa using e
      rw [mpush_ne ht]
      show diffs (B ++ (t, k) :: (s, c) :: []) = true
      rw [diffs_two, h]
      show (true && ((t != s) && true)) = true
      rw [Bool.and_true, Bool.true_and]; exact bne_iff_ne.mpr e
theorem diffs_fold : ∀ (rr A : RR), diffs A = true → diffs (rr.foldl mpush A) = true
  | [], A, h => h
  | p :: rr, A, h => diffs_fold rr _ (diffs_push p h)
theorem mrg_mrg (rr : RR) : mrg (mrg rr) = mrg rr := mrg_id (diffs_fold rr [] rfl)
/-- what merging keeps -/
structure Kept (S : List Nat → Prop) (n m : Nat) (A : RR) : Prop where
  len : A.length ≤ n
  sg : ∀ p ∈ A, S p.1 ∧ 1 ≤ p.2
  sum : (A.map (·.2)).sum ≤ m
theorem kept_push {S : List Nat → Prop} {n m : Nat} {A : RR} {p : List Nat × Nat} (h : Kept S n m A) (h1 : S p.1) (h2 : 1 ≤ p.2) : Kept S (n + 1) (m + p.2) (mpush A p) ∧ (mpush A p).length ≤ A.length + 1 := by
  rcases last_or A with rfl | ⟨B, ⟨t, k⟩, rfl⟩
  · refine ⟨⟨by simp [mpush_nil], ?_, by simp [mpush_nil]⟩, by simp [mpush_nil]⟩
    intro q hq
    simp [mpush_nil] at hq
    subst hq; exact ⟨h1, h2⟩
  · obtain ⟨s, c⟩ := p
    obtain ⟨l1, l2, l3⟩ := h
    by_cases e : t = s
    · subst e
      rw [mpush_eq]
      refine ⟨⟨by simp at l1 ⊢; first | lia | omega, ?_, by simp at l3 ⊢; first | lia | omega⟩, by simp⟩
      intro q hq
      simp only [List.mem_append, List.mem_singleton] at hq
      rcases hq with hq | rfl
      · exact l2 q (List.mem_append_left _ hq)
      · exact ⟨h1, by simp at h2 ⊢; first | lia | omega⟩
    · have ht : (t == s) = false := by simpa using e
      rw [mpush_ne ht]
      refine ⟨⟨by simp at l1 ⊢; first | lia | omega, ?_, by simp at l3 ⊢; first | lia | omega⟩, by simp⟩
      intro q hq
      simp only [List.mem_append, List.mem_cons, List.not_mem_nil, or_false] at hq
      rcases hq with hq | rfl | rfl
      · exact l2 q (List.mem_append_left _ hq)
      · exact l2 _ (by simp)
      · exact ⟨h1, h2⟩
theorem kept_fold {S : List Nat → Prop} : ∀ (rr A : RR) (n m : Nat), Kept S n m A → (∀ p ∈ rr, S p.1 ∧ 1 ≤ p.2) → Kept S (n + rr.length) (m + (rr.map (·.2)).sum) (rr.foldl mpush A)
  | [], A, n, m, h, _ => h
  | p :: rr, A, n, m, h, hr => by
    obtain ⟨h1, h2⟩ := hr p (.head _)
    have := kept_fold rr _ _ _ (kept_push h h1 h2).1 fun q hq => hr q (.tail _ hq)
    simp only [List.foldl_cons, List.length_cons, List.map_cons, List.sum_cons]
    obtain ⟨a, b, c⟩ := this
    exact ⟨by first | lia | omega, b, by first | lia | omega⟩
theorem kept_mrg {S : List Nat → Prop} {rr : RR} (h : ∀ p ∈ rr, S p.1 ∧ 1 ≤ p.2) : Kept S rr.length (rr.map (·.2)).sum (mrg rr) := by
  have := kept_fold rr [] 0 0 ⟨by simp, fun p hp => absurd hp (by simp), by simp⟩ h
  simpa [mrg] using this
theorem le_sum {l : List Nat} {x : Nat} (h : x ∈ l) : x ≤ l.sum := by
  induction l with
  | nil => simp at h
  | cons a l ih =>
    rcases List.mem_cons.mp h with rfl | h
    · simp
    · have := ih h; simp; first | lia | omega
theorem mem_push_sg {A : RR} {p : List Nat × Nat} (s : List Nat) (h : s = p.1 ∨ ∃ q ∈ A, q.1 = s) : ∃ q ∈ mpush A p, q.1 = s := by
  rcases last_or A with rfl | ⟨B, ⟨t, k⟩, rfl⟩
  · rcases h with h | ⟨q, hq, -⟩
    · exact ⟨p, by simp [mpush_nil], h.symm⟩
    · simp at hq
  · obtain ⟨u, c⟩ := p
    by_cases e : t = u
    · subst e
      rw [mpush_eq]
      rcases h with h | ⟨q, hq, e⟩
      · exact ⟨(t, k + c), by simp, h.symm⟩
      · simp only [List.mem_append, List.mem_singleton] at hq
        rcases hq with hq | rfl
        · exact ⟨q, by simp [hq], e⟩
        · exact ⟨(t, k + c), by simp, e⟩
    · have ht : (t == u) = false := by simpa using e
      rw [mpush_ne ht]
      rcases h with h | ⟨q, hq, e⟩
      · exact ⟨(u, c), by simp, h.symm⟩
      · simp only [List.mem_append, List.mem_singleton] at hq
        rcases hq with hq | rfl
        · exact ⟨q, by simp [hq], e⟩
        · exact ⟨(t, k), by simp, e⟩
theorem mem_fold_sg : ∀ (rr A : RR) (s : List Nat), ((∃ q ∈ rr, q.1 = s) ∨ ∃ q ∈ A, q.1 = s) → ∃ q ∈ rr.foldl mpush A, q.1 = s
  | [], A, s, h => by
    rcases h with ⟨q, hq, -⟩ | h
    · simp at hq
    · exact h
  | p :: rr, A, s, h => by
    refine mem_fold_sg rr _ s ?_
    rcases h with ⟨q, hq, e⟩ | h
    · rcases List.mem_cons.mp hq with rfl | hq
      · exact .inr (mem_push_sg s (.inl e.symm))
      · exact .inl ⟨q, hq, e⟩
    · exact .inr (mem_push_sg s (.inr h))
theorem mem_mrg_sg {rr : RR} {p : List Nat × Nat} (h : p ∈ rr) : ∃ q ∈ mrg rr, q.1 = p.1 := mem_fold_sg rr [] p.1 (.inl ⟨p, h, rfl⟩)
set_option tactic.hygienic false
set_option genSizeOf false
set_option maxHeartbeats 1000000
theorem told_py {st : Sto} (cat : PySem.Str) (l : List (PySem.Str × Int)) : pyOf st (.tup [.str cat, .tup (l.map pairD)]) = some (.tuple [.str cat, .tuple (l.map pyPair)]) :=
  congrArg (fun o : Option (List PyData) => (((o.map PyData.tuple).bind fun d => (some []).map (d :: ·)).map (PyData.str cat :: ·)).map PyData.tuple) (toPy_pairs l)
set_option tactic.hygienic true in
theorem law_tail {S : List D} {w : Nat} {rr : RR} {l : List Nat} {N : Int} {d : PySem.Str} {e : Int} {cat : PySem.Str} {t0 t2 : D} {dg dg2 sc sc2 : Int} {sg sg2 : Bool} (hw : w < 3) (hne : mrg rr ≠ []) (hsn : npL S = true) (hwf : wfN (mrg rr)) (hcat : PyData.strOk cat = true)
    (hlen : (shortRR (mrg rr)).length ≤ 30) (hSS : showRR (mrg rr) = shortRR (mrg rr)) (ht0 : np t0 = true) (hdg : dgOk w dg) (ht2 : np t2 = true)
    (hR2 : callF T 12 295 [.str (tx (shortRR (mrg rr)))] [B N] = some (picD t2 (toR (mrg rr)) cat dg2 sc2 sg2 (sizeOf' (toR (mrg rr))), [B N])) :
    W3 (exs T (callF T 12) (lawF.body.drop 8) lawF.scope 0 (V8 S w rr l d e ++ [(Str.ofString "short", .str (tx (shortRR (mrg rr)))), (Str.ofString "picture", picD t0 (toR (mrg rr)) cat dg sc sg (sizeOf' (toR (mrg rr))))]) [B N]) fun fl _ _ => fl = .ret (.bool true) := by
  have hML : ((toR (mrg rr)).map pairD).length ≤ 10000 := by have := hwf.1; simp [toR]; first | exact Nat.le_trans (by assumption) (Nat.le_of_ble_eq_true rfl) | lia | omega
  have hML2 : (toR (mrg rr)).length ≤ 1000 := by have := hwf.1; simp [toR]; first | exact Nat.le_trans (by assumption) (Nat.le_of_ble_eq_true rfl) | lia | omega
  have hok : ∀ p ∈ toR (mrg rr), PyData.strOk p.1 = true := fun p hp => ((wf_toR hwf).2 p hp).2.2.2.2
  (apply x_openD; (· exact rfl); (· exact rfl))
  refine x_cut (fun v t => v = V8 S w rr l d e ++ [(Str.ofString "short", .str (tx (shortRR (mrg rr)))), (Str.ofString "picture", picD t0 (toR (mrg rr)) cat dg sc sg (sizeOf' (toR (mrg rr))))] ∧ t = [B N]) rfl ?_ ?_
  · have k1 : callF T 12 76 [picD t0 (toR (mrg rr)) cat dg sc sg (sizeOf' (toR (mrg rr)))] [B N] = some (.tup [.str cat, .tup ((toR (mrg rr)).map pairD)], [B N]) := c76 (by first | exact Nat.le_trans (by assumption) (Nat.le_of_ble_eq_true rfl) | lia | omega) rfl hML2
    have k2 : callF T 12 76 [picD t2 (toR (mrg rr)) cat dg2 sc2 sg2 (sizeOf' (toR (mrg rr)))] [B N] = some (.tup [.str cat, .tup ((toR (mrg rr)).map pairD)], [B N]) := c76 (by first | exact Nat.le_trans (by assumption) (Nat.le_of_ble_eq_true rfl) | lia | omega) rfl hML2
    have k3 : callF T 12 307 [picD t0 (toR (mrg rr)) cat dg sc sg (sizeOf' (toR (mrg rr)))] [B N] = some (.str (tx (shortRR (mrg rr))), [B N]) := by rw [← hSS]; exact c307 (by first | exact Nat.le_trans (by assumption) (Nat.le_of_ble_eq_true rfl) | lia | omega) rfl hwf
    have k4 : ∀ {Q : Bool → Prop}, Q false → W1 (cmpop .NotEq (.tup ((toR (mrg rr)).map pairD)) (.tup ((toR (mrg rr)).map pairD)) [B N]) Q := fun h => w1_neSame (p := .tuple ((toR (mrg rr)).map pyPair)) (congrArg (Option.map PyData.tuple) (toPy_pairs _)) (congrArg (Option.map PyData.tuple) (toPy_pairs _)) (shaped_pairs hok) h
    have k5 : ∀ {Q : Bool → Prop}, Q false → W1 (cmpop .NotEq (.tup [.str cat, .tup ((toR (mrg rr)).map pairD)]) (.tup [.str cat, .tup ((toR (mrg rr)).map pairD)]) [B N]) Q := fun h => w1_neSame (p := .tuple [.str cat, .tuple ((toR (mrg rr)).map pyPair)]) (told_py _ _) (told_py _ _) (shaped_told hcat hok) h
    repeat' first | (with_reducible refine k4 ?_) | (with_reducible refine k5 ?_) | ((refine w1_tuple (l := (toR (mrg rr)).map pairD) rfl hML ?_)) | walk_at "og_step"
    all_goals first | rfl | (rename_i q; exact absurd q (by simp)) | trace_state
  rintro v t ⟨rfl, rfl⟩
  clear hSS hcat ht2 hR2
  have hpn : np (picD t0 (toR (mrg rr)) cat dg sc sg (sizeOf' (toR (mrg rr)))) = true := pic_np ht0
  generalize hPic : picD t0 (toR (mrg rr)) cat dg sc sg (sizeOf' (toR (mrg rr))) = pic at hpn ⊢
  refine x_cut (fun v t => v = V11 S w rr l d e pic (.ptr (0 + 1)) ∧ t = B N :: [.lst []]) rfl ?_ ?_
  · repeat' walk_at "og_step"
    all_goals rfl
  rintro v t ⟨rfl, rfl⟩
  refine x_cut (fun v t => ∃ d e, v = V11 S w rr l d e pic (.lst (placeD (mrg rr))) ∧ t = [B N]) rfl ?_ ?_
  · refine x_for' rfl rfl ?_
    repeat' walk_at "og_step"
    refine forL_ind (fun ds v t => ∃ (done todo : RR) (g : Sto) (sing : D) (d : PySem.Str) (e : Int), mrg rr = done ++ todo ∧ ds = (toR todo).map pairD ∧ t = B N :: g ∧ ((done = [] ∧ sing = .ptr 1 ∧ g = [.lst []]) ∨ (done ≠ [] ∧ sing = .lst (placeD done) ∧ g = [])) ∧ v = V11 S w rr l d e pic sing) ?_ ?_ _ _ _ ⟨[], mrg rr, [.lst []], .ptr 1, d, e, rfl, rfl, rfl, .inl ⟨rfl, rfl, rfl⟩, rfl⟩
    · rintro v t ⟨done, todo, g, sing, d, e, h1, h2, rfl, h3, rfl⟩
      have : todo = [] := by cases todo with | nil => rfl | cons a b => simp [toR] at h2
      subst this
      rw [List.append_nil] at h1
      subst h1
      rcases h3 with ⟨h3, -⟩ | ⟨-, rfl, rfl⟩
      · exact absurd h3 hne
      · exact ⟨rfl, d, e, rfl, rfl⟩
    · rintro x ds v t ⟨done, todo, g, sing, d, e, h1, h2, rfl, h3, rfl⟩
      cases todo with
      | nil => simp [toR] at h2
      | cons p todo =>
        rw [map_toR] at h2
        simp only [List.map_cons, List.cons.injEq] at h2
        obtain ⟨rfl, rfl⟩ := h2
        obtain ⟨sg0, c⟩ := p
        have hb : ∀ (q q' : Pos) a b, bindT (.Tuple [.Name (Str.ofString "sign") q, .Name (Str.ofString "count") q'] a b) (.tup [.str (tx sg0), .int (c : Int)]) (V11 S w rr l d e pic sing) = some (V11 S w rr l (tx sg0) (c : Int) pic sing) := fun _ _ _ _ => rfl
        refine w1_of (hb _ _ _ _) ?_
        have hc : c < 150 := (hwf.2 (sg0, c) (by rw [h1]; simp)).2.2.2.1
        have hdl : (placeD done).length ≤ 7500 := by
          have q1 := place_len (rr := done) fun p hp => (hwf.2 p (by rw [h1]; exact List.mem_append_left _ hp)).2.2.2.1
          have q2 := hwf.1
          rw [h1, List.length_append] at q2
          first | exact Nat.le_trans (by assumption) (Nat.le_of_ble_eq_true rfl) | lia | omega
        have hpl : placeD (done ++ [(sg0, c)]) = placeD done ++ List.replicate c (.str (tx sg0)) := by simp [placeD]
        have fin : (∃ (done' todo' : RR) (g : Sto) (sing : D) (d : PySem.Str) (e : Int), mrg rr = done' ++ todo' ∧ (List.map (fun p => D.tup [.str (tx p.1), .int (p.2 : Int)]) todo) = (toR todo').map pairD ∧ [B N] = B N :: g ∧ ((done' = [] ∧ sing = .ptr 1 ∧ g = [.lst []]) ∨ (done' ≠ [] ∧ sing = .lst (placeD done') ∧ g = [])) ∧
            V11 S w rr l (tx sg0) (c : Int) pic (.lst (placeD done ++ List.replicate c (.str (tx sg0)))) = V11 S w rr l d e pic sing) :=
          ⟨done ++ [(sg0, c)], todo, [], _, _, _, by rw [h1]; simp, (map_toR _).symm, rfl, .inr ⟨by simp, rfl, rfl⟩, by rw [hpl]⟩
        have hfz : ∀ {g : Sto} {j : Nat}, g[j]? = some (.lst (placeD done ++ List.replicate c (.str (tx sg0)))) → fzVars (B N :: g) 1 (V11 S w rr l (tx sg0) (c : Int) pic (.ptr (j + 1))) = some (V11 S w rr l (tx sg0) (c : Int) pic (.lst (placeD done ++ List.replicate c (.str (tx sg0))))) := fun hj => fz_V11 hsn hpn hj (by rw [← hpl]; exact place_np _)
        clear hb hPic
        refine x_consH rfl ?_
        rcases h3 with ⟨rfl, rfl, rfl⟩ | ⟨-, rfl, rfl⟩
        · have hj : ([.lst [], Ob.lst [.str (tx sg0)]] : Sto)[0]? = some (.lst (placeD [])) := rfl
          have hm : ([.lst [], Ob.lst [.str (tx sg0)]] : Sto)[1]? = some (.lst [.str (tx sg0)]) := rfl
          repeat' first | ((with_reducible refine e_listC ?_ ?_); (· rfl)) | (with_reducible refine ⟨_, _, rfl, rfl, ?_⟩) | ((refine l_mulC (j := 1) (d := .str (tx sg0)) ?_ ?_ ?_); (· exact hm); (· first | exact Nat.le_trans (by assumption) (Nat.le_of_ble_eq_true rfl) | lia | omega)) | ((refine l_addCD (i := 0) (k := placeD []) ?_ ?_ ?_); (· exact hj); (· simp; first | exact Nat.le_trans (by assumption) (Nat.le_of_ble_eq_true rfl) | lia | omega)) | walk_at "og_step"
          all_goals exact ⟨_, hfz (j := 2) rfl, [B N], fzSto_np (st := [B N]) rfl, x_nil (then_next fin)⟩
        · have hm : ([Ob.lst [.str (tx sg0)]] : Sto)[0]? = some (.lst [.str (tx sg0)]) := rfl
          repeat' first | ((with_reducible refine e_listC ?_ ?_); (· rfl)) | (with_reducible refine ⟨_, _, rfl, rfl, ?_⟩) | ((refine l_mulC (j := 0) (d := .str (tx sg0)) ?_ ?_ ?_); (· exact hm); (· first | exact Nat.le_trans (by assumption) (Nat.le_of_ble_eq_true rfl) | lia | omega)) | ((refine l_add_lst (k := placeD done) (l := List.replicate c (.str (tx sg0))) ?_ ?_ ?_ ?_); (· rfl); (· rfl); (· simp; first | exact Nat.le_trans (by assumption) (Nat.le_of_ble_eq_true rfl) | lia | omega)) | walk_at "og_step"
          all_goals exact ⟨_, hfz (j := 1) rfl, [B N], fzSto_np (st := [B N]) rfl, x_nil (then_next fin)⟩
  clear hne
  rintro v t ⟨d, e, rfl, rfl⟩
  subst hPic
  refine x_cut (fun v t => v = V11 S w rr l d e (picD t0 (toR (mrg rr)) cat dg sc sg (sizeOf' (toR (mrg rr)))) (.lst (placeD (mrg rr))) ∧ t = [B N]) rfl ?_ ?_
  · have k1 : callF T 12 314 [picD t0 (toR (mrg rr)) cat dg sc sg (sizeOf' (toR (mrg rr)))] [B N] = some (.lst (placeD (mrg rr)), [B N]) := c314 (by first | exact Nat.le_trans (by assumption) (Nat.le_of_ble_eq_true rfl) | lia | omega) rfl hwf
    have hpo := place_ok hwf
    have hps := place_strs (mrg rr)
    have hpl : (placeD (mrg rr)).length ≤ 10000 := by
      have q1 := place_len (rr := mrg rr) fun p hp => (hwf.2 p hp).2.2.2.1
      have q2 := hwf.1
      first | exact Nat.le_trans (by assumption) (Nat.le_of_ble_eq_true rfl) | lia | omega
    have k2 : ∀ {Q : Bool → Prop}, Q false → W1 (cmpop .NotEq (.lst (placeD (mrg rr))) (.lst (placeD (mrg rr))) [B N]) Q := fun h => w1_neSame (p := .list ((placeS (mrg rr)).map .str)) (hps ▸ congrArg (Option.map PyData.list) (toPy_strs _)) (hps ▸ congrArg (Option.map PyData.list) (toPy_strs _)) (shaped_strs fun p hp => (hpo p hp).1) h
    have hlo := lens_ok hwf
    repeat' first | (with_reducible refine k2 ?_) | walk_at "og_step"
    refine w1_itemsL ⟨place_np _, hpl⟩ ?_
    repeat' walk_at "og_step"
    refine w2_of (comp_fm (nm1 "sign") bLen gLen (.inl rfl) ?_) ?_
    · intro d hd
      rw [hps] at hd
      obtain ⟨s, hs, rfl⟩ := List.mem_map.mp hd
      have hsl : s.length ≤ 100000 := by have := (hpo s hs).2; first | exact Nat.le_trans (by assumption) (Nat.le_of_ble_eq_true rfl) | lia | omega
      clear hpo hps hlo k1 k2 hd
      refine ⟨_, fun vs hv => nm1_bind vs hv, .inr ⟨_, rfl⟩, ?_, fun hb => ?_⟩
      · repeat' walk_at "og_step"
        all_goals exact ⟨Eq.symm (by assumption), rfl⟩
      · repeat' walk_at "og_step"
        all_goals rfl
    · rw [fm_len]
      repeat' walk_at "og_step"
      refine w1_sumE (lens_sum _) (intsOf_map _) (by first | exact Nat.le_trans (by assumption) (Nat.le_of_ble_eq_true rfl) | lia | omega) hlo.2 ?_
      clear hpo hps hlo k1 k2
      repeat' walk_at "og_step"
      all_goals first | rfl | trace_state
  rintro v t ⟨rfl, rfl⟩
  refine x_cut (fun v t => ∃ d e, v = V11 S w rr l d e (picD t0 (toR (mrg rr)) cat dg sc sg (sizeOf' (toR (mrg rr)))) (.lst (placeD (mrg rr))) ∧ t = [B N]) rfl ?_ ?_
  · have hps := place_strs (mrg rr)
    have k1 : ∀ s, callF T 12 81 [picD t0 (toR (mrg rr)) cat dg sc sg (sizeOf' (toR (mrg rr))), .str s] [B N] = some (.bool ((placeS (mrg rr)).any (· == s)), [B N]) := fun s => by rw [← any_eq hwf]; exact c81 (by first | exact Nat.le_trans (by assumption) (Nat.le_of_ble_eq_true rfl) | lia | omega) rfl hML2
    refine x_forL rfl ?_
    repeat' walk_at "og_step"
    refine forL_skip (fun vs => ∃ d e, vs = V11 S w rr l d e (picD t0 (toR (mrg rr)) cat dg sc sg (sizeOf' (toR (mrg rr)))) (.lst (placeD (mrg rr)))) ?_ (fun d => ∃ s, d = .str s) ?_ _ _ ⟨_, _, rfl⟩ ?_
    · rintro vs ⟨d, e, rfl⟩
      exact ⟨rfl, d, e, rfl, rfl⟩
    · rintro x vs ⟨s, rfl⟩ ⟨d, e, rfl⟩
      have k2 := k1 s
      generalize hB : (placeS (mrg rr)).any (· == s) = bb at k2
      have k3 : ∀ {Q : Bool → Prop}, Q bb → W1 (cmpop .In (.str s) (.lst (placeD (mrg rr))) [B N]) Q := fun h => w1_inL (l := placeS (mrg rr)) (by rw [hps]; rfl) (by rw [hB]; exact h)
      have k4 : ∀ {Q : Bool → Prop}, Q false → W1 (cmpop .NotEq (.bool bb) (.bool bb) [B N]) Q := fun h => w1_of (congrArg some (bne_self_eq_false bb)) h
      clear k1 hps hB
      refine w1_of (a := V11 S w rr l s e (picD t0 (toR (mrg rr)) cat dg sc sg (sizeOf' (toR (mrg rr)))) (.lst (placeD (mrg rr)))) rfl ?_
      repeat' first | (with_reducible refine k3 ?_) | (with_reducible refine k4 ?_) | walk_at "og_step"
      all_goals exact ⟨⟨_, _, rfl⟩, rfl⟩
    · intro x hx
      simp only [List.mem_cons, List.not_mem_nil, or_false] at hx
      rcases hx with h | h | h | h | h | h | h | h | h | h | h | h | h | h | h | h | h | h <;> exact ⟨_, h⟩
  rintro v t ⟨d, e, rfl, rfl⟩
  by_cases h1 : w = 1
  · subst h1
    have hdg : dg = 0 := hdg
    subst hdg
    repeat' walk_at "og_step"
    all_goals first | rfl | trace_state
  · have hdg : 1 ≤ dg ∧ dg ≤ 18 := by unfold dgOk at hdg; rw [if_neg h1] at hdg; exact hdg
    obtain ⟨hdg1, hdg2⟩ := hdg
    have hdg3 : decide (dg ≤ 18) = true := decide_eq_true hdg2
    repeat' walk_at "og_step"
    all_goals first | rfl | rw [hdg3] | trace_state
set_option tactic.hygienic false
set_option genSizeOf false
set_option maxHeartbeats 1000000
set_option tactic.hygienic true in
theorem law_run {n : Nat} (hn : n = 12) (hN : ∀ rr, NumR rr → LawOk 0 rr) (hT : ∀ rr, TextR rr → LawOk 1 rr) (hE : ∀ rr, EditR rr → LawOk 2 rr) (script : List Int) (hs : script.length ≤ 10000) :
    W3 (exs T (callF T n) lawF.body lawF.scope 0 [(Str.ofString "script", .lst (script.map .int))] []) fun fl _ _ => fl = .ret (.bool true) := by
  have hsn : npL (script.map D.int) = true := by
    clear hs
    induction script with
    | nil => rfl
    | cons a l ih => exact ih
  have h328 := c328 (n := n) (by first | exact Nat.le_trans (by assumption) (Nat.le_of_ble_eq_true rfl) | lia | omega) hs
  generalize hS : script.map D.int = S at *
  (apply x_openD; (· exact rfl); (· exact rfl))
  refine x_cut (fun v t => ∃ N, v = [(Str.ofString "script", .lst S), (Str.ofString "bag", .ptr 0)] ∧ t = [B N]) rfl ?_ ?_
  · repeat' walk_at "og_step"
    refine w2_mono h328 ?_
    rintro d s ⟨rfl, N, rfl⟩
    exact ⟨rfl, N, rfl, rfl⟩
  clear h328
  rintro v t ⟨N, rfl, rfl⟩
  refine x_cut (fun v t => ∃ (w : Nat) (N : Int), w < 3 ∧ v = [(Str.ofString "script", .lst S), (Str.ofString "bag", .ptr 0), (Str.ofString "way", .int (w : Int))] ∧ t = [B N]) rfl ?_ ?_
  · repeat' walk_at "og_step"
    rename_i r N' hr
    exact ⟨r, N', hr, rfl, rfl⟩
  rintro v t ⟨w, N, hw, rfl, rfl⟩
  refine x_cut (fun v t => ∃ (rr : RR) (N : Int), LawOk w rr ∧ v = [(Str.ofString "script", .lst S), (Str.ofString "bag", .ptr 0), (Str.ofString "way", .int (w : Int)), (Str.ofString "runs", .lst ((toR rr).map pairD))] ∧ t = [B N]) rfl ?_ ?_
  · have : w = 0 ∨ w = 1 ∨ w = 2 := by first | exact Nat.le_trans (by assumption) (Nat.le_of_ble_eq_true rfl) | lia | omega
    rcases this with rfl | rfl | rfl
    · repeat' walk_at "og_step"
      refine w2_mono (c335 (by first | exact Nat.le_trans (by assumption) (Nat.le_of_ble_eq_true rfl) | lia | omega)) ?_
      rintro d s ⟨rr, N', h, rfl, rfl⟩
      exact ⟨rfl, rr, N', hN rr h, rfl, rfl⟩
    · repeat' walk_at "og_step"
      refine w2_mono (c342 (by first | exact Nat.le_trans (by assumption) (Nat.le_of_ble_eq_true rfl) | lia | omega)) ?_
      rintro d s ⟨rr, N', h, rfl, rfl⟩
      exact ⟨rfl, rr, N', hT rr h, rfl, rfl⟩
    · repeat' walk_at "og_step"
      refine w2_mono (c349 (by first | exact Nat.le_trans (by assumption) (Nat.le_of_ble_eq_true rfl) | lia | omega)) ?_
      rintro d s ⟨rr, N', h, rfl, rfl⟩
      exact ⟨rfl, rr, N', hE rr h, rfl, rfl⟩
  clear hN hT hE
  rintro v t ⟨rr, N, L, rfl, rfl⟩
  have hlen : ((toR rr).map pairD).length ≤ 10000 := by have := L.len; simp [toR]; first | exact Nat.le_trans (by assumption) (Nat.le_of_ble_eq_true rfl) | lia | omega
  refine x_cut (fun v t => ∃ (l : List Nat) (ws : List (List Nat)) (N : Int), l = ws.flatten ∧ Spells rr ws ∧ v = [(Str.ofString "script", .lst S), (Str.ofString "bag", .ptr 0), (Str.ofString "way", .int (w : Int)), (Str.ofString "runs", .lst ((toR rr).map pairD)), (Str.ofString "text", .str (tx l))] ∧ t = [B N]) rfl ?_ ?_
  · repeat' walk_at "og_step"
    refine w2_mono (comp_draw' rr N _ (.inl rfl) ?_) ?_
    · intro p hp
      obtain ⟨q1, q2, q3, q4⟩ := L.sg p hp
      refine ⟨_, fun vs hv => nmB_bind (by decide) (by decide) (by decide) vs hv, .inr ⟨_, _, rfl⟩, ?_, ?_⟩
      · intro N
        repeat' walk_at "og_step"
        all_goals rfl
      · intro N
        repeat' walk_at "og_step"
        exact w2_mono (c363 (by first | exact Nat.le_trans (by assumption) (Nat.le_of_ble_eq_true rfl) | lia | omega) q1 q3 q2 q4) fun _ _ h => ⟨h⟩
    · rintro l s ⟨ws, N', rfl, hw, rfl⟩
      have hb : ws.flatten.length ≤ 10000 := by
        have := spells_len (fun p hp => ⟨(L.sg p hp).1, (L.sg p hp).2.2.1⟩) hw
        have := L.len
        first | exact Nat.le_trans (by assumption) (Nat.le_of_ble_eq_true rfl) | lia | omega
      repeat' walk_at "og_step"
      refine w1_join hb ?_
      repeat' walk_at "og_step"
      all_goals exact ⟨_, ws, N', rfl, hw, rfl, rfl⟩
  rintro v t ⟨l, ws, N, hl, hws, rfl, rfl⟩
  refine x_cut (fun v t => v = V6 S w rr l (.ptr [B N].length) ∧ t = [B N] ++ .lst [] :: []) rfl ?_ ?_
  · repeat' walk_at "og_step"
    all_goals rfl
  rintro v t ⟨rfl, rfl⟩
  refine x_consH rfl ?_
  have hM := toR_mrg rr
  have hwf := L.wf
  refine w3_mono (Q := fun f v t => f = .next ∧ ∃ g d e, t = [B N] ++ .lst ((toR (mrg rr)).map pairD) :: g ∧ v = V6 S w rr l (.ptr [B N].length) ++ [(Str.ofString "sign", .str d), (Str.ofString "count", .int e)]) ?_ ?_
  · refine x_for' rfl rfl ?_
    repeat' walk_at "og_step"
    refine forL_ind (fun ds v t => ∃ done todo g tail, rr = done ++ todo ∧ ds = (toR todo).map pairD ∧ t = [B N] ++ .lst ((symOf (toR done)).map pairD) :: g ∧ ((done = [] ∧ tail = []) ∨ ∃ d e, tail = [(Str.ofString "sign", .str d), (Str.ofString "count", .int e)]) ∧
      v = V6 S w rr l (.ptr [B N].length) ++ tail) ?_ ?_ _ _ _ ⟨[], rr, [], [], rfl, rfl, rfl, .inl ⟨rfl, rfl⟩, rfl⟩
    · rintro v t ⟨done, todo, g, tail, e, e2, rfl, ht, rfl⟩
      have : todo = [] := by cases todo with | nil => rfl | cons a b => simp [toR] at e2
      subst this
      rw [List.append_nil] at e
      subst e
      rcases ht with ⟨h, -⟩ | ⟨d, e, rfl⟩
      · exact absurd h L.ne
      · exact ⟨rfl, g, d, e, by rw [hM], rfl⟩
    · rintro d ds v t ⟨done, todo, g, tail, e, e2, rfl, ht, rfl⟩
      cases todo with
      | nil => simp [toR] at e2
      | cons p todo =>
        rw [map_toR] at e2
        simp only [List.map_cons, List.cons.injEq] at e2
        obtain ⟨rfl, rfl⟩ := e2
        obtain ⟨sg, c⟩ := p
        have hb : ∀ (q q' : Pos) a b, bindT (.Tuple [.Name (Str.ofString "sign") q, .Name (Str.ofString "count") q'] a b) (.tup [.str (tx sg), .int (c : Int)]) (V6 S w rr l (.ptr [B N].length) ++ tail) = some (V6 S w rr l (.ptr [B N].length) ++ [(Str.ofString "sign", .str (tx sg)), (Str.ofString "count", .int (c : Int))]) := by
          intro q q' a b
          rcases ht with ⟨-, rfl⟩ | ⟨d, d', rfl⟩ <;> rfl
        refine w1_of (hb _ _ _ _) ?_
        have hsl : (symOf (toR done)).length ≤ 1000 := by
          have h0 : ∀ l : List (PySem.Str × Int), ∀ A, (l.foldl push A).length ≤ A.length + l.length := by
            intro l
            induction l with
            | nil => intro A; simp
            | cons p l ih => intro A; have h1 := ih (push A p); have h2 := push_len A p; simp only [List.foldl_cons, List.length_cons]; first | exact Nat.le_trans (by assumption) (Nat.le_of_ble_eq_true rfl) | lia | omega
          have h3 := h0 (toR done) []
          have h4 := L.len
          rw [e] at h4
          simp [toR] at h3 h4
          unfold symOf
          simp [toR]
          first | exact Nat.le_trans (by assumption) (Nat.le_of_ble_eq_true rfl) | lia | omega
        have fin : ∀ g', (∃ done' todo' g tail, rr = done' ++ todo' ∧ (List.map (fun p => D.tup [.str (tx p.1), .int (p.2 : Int)]) todo) = (toR todo').map pairD ∧ [B N] ++ .lst ((push (symOf (toR done)) (tx sg, (c : Int))).map pairD) :: g' = [B N] ++ .lst ((symOf (toR done')).map pairD) :: g ∧ ((done' = [] ∧ tail = []) ∨ ∃ d e, tail = [(Str.ofString "sign", .str d), (Str.ofString "count", .int e)]) ∧
            V6 S w rr l (.ptr [B N].length) ++ [(Str.ofString "sign", .str (tx sg)), (Str.ofString "count", .int (c : Int))] = V6 S w rr l (.ptr [B N].length) ++ tail) := by
          intro g'
          refine ⟨done ++ [(sg, c)], todo, g', _, by rw [e]; simp, (map_toR _).symm, ?_, .inr ⟨_, _, rfl⟩, rfl⟩
          simp [symOf, toR]
        clear e hb ht hM hwf L hws hl
        generalize hA : symOf (toR done) = A at *
        rcases last_or A with rfl | ⟨A', ⟨t, k⟩, rfl⟩
        · rw [push_nil] at fin
          rw [List.map_nil]
          repeat' walk_at "og_step"
          all_goals exact fin _
        · have hB : (A'.map pairD).length ≤ 9999 := by simp at hsl ⊢; first | exact Nat.le_trans (by assumption) (Nat.le_of_ble_eq_true rfl) | lia | omega
          have hB2 : (A'.map pairD ++ [pairD (t, k)]).length ≤ 10000 := by simp at hsl ⊢; first | exact Nat.le_trans (by assumption) (Nat.le_of_ble_eq_true rfl) | lia | omega
          rw [show (A' ++ [(t, k)]).map pairD = A'.map pairD ++ [pairD (t, k)] from by simp]
          by_cases ht : t = tx sg
          · subst ht
            rw [push_eq, show (A' ++ [(tx sg, k + c)]).map pairD = A'.map pairD ++ [pairD (tx sg, k + c)] from by simp] at fin
            repeat' walk_at "og_step"
            all_goals exact fin _
          · have ht' : (t == tx sg) = false := by simpa using ht
            rw [push_ne ht', show (A' ++ [(t, k), (tx sg, (c : Int))]).map pairD = A'.map pairD ++ [pairD (t, k)] ++ [pairD (tx sg, (c : Int))] from by simp] at fin
            repeat' walk_at "og_step"
            all_goals exact fin _
  rintro f v t ⟨rfl, g, d, e, rfl, rfl⟩
  refine ⟨rfl, by simp, V8 S w rr l d e, fz_V8 hsn, [B N], fzSto_np (st := [B N]) rfl, ?_⟩
  clear hM g
  have hML : ((toR (mrg rr)).map pairD).length ≤ 10000 := by have := hwf.1; simp [toR]; first | exact Nat.le_trans (by assumption) (Nat.le_of_ble_eq_true rfl) | lia | omega
  have hML2 : (toR (mrg rr)).length ≤ 1000 := by have := hwf.1; simp [toR]; first | exact Nat.le_trans (by assumption) (Nat.le_of_ble_eq_true rfl) | lia | omega
  refine x_cut (fun v t => v = V8 S w rr l d e ++ [(Str.ofString "short", .str (tx (shortRR (mrg rr))))] ∧ t = [B N]) rfl ?_ ?_
  · repeat' walk_at "og_step"
    refine w2_of (comp_fm (nm2 "sign" "count") (fun _ => true) gShort (.inl rfl) ?_) ?_
    · intro d hd
      rw [map_toR] at hd
      obtain ⟨p, hp', rfl⟩ := List.mem_map.mp hd
      obtain ⟨q1, q2, q3, q4, -⟩ := hwf.2 p hp'
      have hc : callF T n 356 [.str (tx p.1), .int (p.2 : Int)] [B N] = some (.str (tx (short p.1 p.2)), [B N]) := c356 (by first | exact Nat.le_trans (by assumption) (Nat.le_of_ble_eq_true rfl) | lia | omega) rfl q2 q4
      refine ⟨_, fun vs hv => nm2_bind (by decide) vs hv, .inr ⟨_, _, rfl⟩, ?_, fun hb => ?_⟩
      · repeat' walk_at "og_step"
        all_goals rfl
      · repeat' walk_at "og_step"
        all_goals rfl
    · rw [fm_short]
      repeat' walk_at "og_step"
      refine w1_join (by have := L.short; unfold shortRR at this; first | exact Nat.le_trans (by assumption) (Nat.le_of_ble_eq_true rfl) | lia | omega) ?_
      repeat' walk_at "og_step"
      all_goals rfl
  rintro v t ⟨rfl, rfl⟩
  obtain ⟨cat, hcat, hread⟩ := L.read
  have hll : l.length ≤ 100000 := by
    have := spells_len (fun p hp => ⟨(L.sg p hp).1, (L.sg p hp).2.2.1⟩) hws
    have := L.len
    rw [hl]; first | exact Nat.le_trans (by assumption) (Nat.le_of_ble_eq_true rfl) | lia | omega
  obtain ⟨t2, dg2, sc2, sg2, ht2, -, hR2⟩ := hread _ L.short (.inr rfl) N
  rw [← hn] at hR2
  refine x_cut (fun v t => ∃ t0 dg sc sg, np t0 = true ∧ dgOk w dg ∧ v = V8 S w rr l d e ++ [(Str.ofString "short", .str (tx (shortRR (mrg rr)))), (Str.ofString "picture", picD t0 (toR (mrg rr)) cat dg sc sg (sizeOf' (toR (mrg rr))))] ∧ t = [B N]) rfl ?_ ?_
  · by_cases h30 : l.length ≤ 30
    · obtain ⟨t0, dg, sc, sg, h1, h2, h3⟩ := hread l h30 (.inl ⟨ws, hl, hws⟩) N
      rw [← hn] at h3
      clear hR2 L hread hws hl
      repeat' walk_at "og_step"
      all_goals first | rfl | exact ⟨t0, dg, sc, sg, h1, h2, rfl, rfl⟩
    · obtain ⟨t0, dg, sc, sg, h1, h2, h3⟩ := hread _ L.short (.inr rfl) N
      rw [← hn] at h3
      clear hR2 L hread hws hl
      repeat' walk_at "og_step"
      all_goals first | rfl | exact ⟨t0, dg, sc, sg, h1, h2, rfl, rfl⟩
  rintro v t ⟨t0, dg, sc, sg, ht0, hdg, rfl, rfl⟩
  have hSS := show_short L.shown
  have hne : mrg rr ≠ [] := by
    intro q
    obtain ⟨p, hp⟩ := List.exists_mem_of_ne_nil _ L.ne
    obtain ⟨x, hx, -⟩ := mem_mrg_sg hp
    rw [q] at hx; simp at hx
  subst hn
  exact law_tail hw hne hsn hwf hcat L.short hSS ht0 hdg ht2 hR2
end Og
end
section
set_option tactic.hygienic false
set_option maxHeartbeats 1000000
namespace Og
open PySem
theorem flat_rep (c : Nat) (k : Nat) : flat (List.replicate k (U.one c)) = (List.replicate k [c]).flatten := by
  simp [flat, U.txt]
theorem sum_rep (c : Nat) (k : Nat) : ((List.replicate k (U.one c)).map U.ct).sum = (k : Int) := by
  induction k with
  | zero => rfl
  | succ k ih => rw [List.replicate_succ, List.map_cons, List.sum_cons, ih]; simp only [U.ct]; first | exact Nat.le_trans (by assumption) (Nat.le_of_ble_eq_true rfl) | lia | omega
theorem up_sig {c : Nat} (h : c ∈ SIG) : upc c = c ∧ upc (low c) = c ∧ c < 128 ∧ low c < 128 := by
  have : ∀ c ∈ SIG, upc c = c ∧ upc (low c) = c ∧ c < 128 ∧ low c < 128 := by decide
  exact this c h
theorem up_dig {c : Nat} (h : isDig c = true) : upc c = c ∧ c < 128 := by
  unfold isDig at h
  simp only [Bool.and_eq_true, decide_eq_true_eq] at h
  exact ⟨if_neg (by first | exact Nat.le_trans (by assumption) (Nat.le_of_ble_eq_true rfl) | lia | omega), by first | exact Nat.le_trans (by assumption) (Nat.le_of_ble_eq_true rfl) | lia | omega⟩
theorem up_digs {ds : List Nat} (h : ∀ d ∈ ds, isDig d = true) : ds.map upc = ds := by
  induction ds with
  | nil => rfl
  | cons d ds ih => rw [List.map_cons, (up_dig (h d (.head _))).1, ih fun x hx => h x (.tail _ hx)]
theorem cuts_rep {c k : Nat} (hc : c ∈ SIG) (hk : 1 ≤ k) : Cuts [c] k (List.replicate k (.one c)) := by
  refine ⟨by simp; first | exact Nat.le_trans (by assumption) (Nat.le_of_ble_eq_true rfl) | lia | omega, fun u hu => ?_, sum_rep c k⟩
  obtain ⟨-, rfl⟩ := List.mem_replicate.mp hu
  exact ⟨hc, rfl, Int.le_refl 1⟩
theorem cuts_cnt {c k : Nat} {ds : List Nat} (hc : c ∈ SIG) (ha : c ≠ 83 ∧ c ≠ 86 ∧ c ≠ 46) (hk : 1 ≤ k) (h1 : 1 ≤ ds.length) (h2 : ds.length ≤ 4) (h3 : ∀ d ∈ ds, isDig d = true) (h4 : intText? (tx ds) = some (k : Int)) : Cuts [c] k [.cnt c ds k] := by
  refine ⟨by simp, fun u hu => ?_, by simp [U.ct]⟩
  simp only [List.mem_singleton] at hu
  subst hu
  exact ⟨⟨hc, ha.1, ha.2.1, ha.2.2, h1, h2, h3, h4, by first | exact Nat.le_trans (by assumption) (Nat.le_of_ble_eq_true rfl) | lia | omega⟩, rfl, by simp only [U.ct]; first | exact Nat.le_trans (by assumption) (Nat.le_of_ble_eq_true rfl) | lia | omega⟩
theorem cuts_cons {c k : Nat} {us : List U} (hc : c ∈ SIG) (h : Cuts [c] k us) : Cuts [c] (k + 1) (.one c :: us) := by
  obtain ⟨h1, h2, h3⟩ := h
  refine ⟨by simp, fun u hu => ?_, by rw [List.map_cons, List.sum_cons, h3]; simp only [U.ct]; first | exact Nat.le_trans (by assumption) (Nat.le_of_ble_eq_true rfl) | lia | omega⟩
  rcases List.mem_cons.mp hu with rfl | hu
  · exact ⟨hc, rfl, Int.le_refl 1⟩
  · exact h2 u hu
/-- what a run's sign and count are -/
noncomputable def SgOk (sg : List Nat) (k : Nat) : Prop := 1 ≤ k ∧ k < 150 ∧ ((∃ c, c ∈ SIG ∧ sg = [c] ∧ (alone sg = true → k = 1)) ∨ ((sg = [67, 82] ∨ sg = [68, 66]) ∧ k = 1))
theorem alone_one {c : Nat} (h : alone [c] = false) : c ≠ 83 ∧ c ≠ 86 ∧ c ≠ 46 := by
  refine ⟨?_, ?_, ?_⟩ <;> (rintro rfl; exact absurd h (by decide))
theorem short_cuts {sg : List Nat} {k : Nat} (h : SgOk sg k) : ∃ us, (short sg k).map upc = flat us ∧ Cuts sg k us ∧ ∀ c ∈ short sg k, c < 128 := by
  obtain ⟨h1, h2, h⟩ := h
  obtain ⟨d1, d2, d3, d4, -⟩ := dig_ok h2
  rcases h with ⟨c, hc, rfl, ha⟩ | ⟨h, rfl⟩
  · have q := up_sig hc
    by_cases hs : (alone [c] || decide (k < 5)) = true
    · have e : short [c] k = (List.replicate k [c]).flatten := by unfold short; rw [if_pos hs]
      refine ⟨List.replicate k (.one c), ?_, cuts_rep hc h1, ?_⟩
      · rw [e, flat_rep]
        simp [q.1]
      · rw [e]; intro x hx
        simp at hx
        obtain ⟨-, rfl⟩ := hx
        exact q.2.2.1
    · have e : short [c] k = [c] ++ [40] ++ dig k ++ [41] := by unfold short; rw [if_neg hs]
      have hn : alone [c] = false := by revert hs; cases alone [c] <;> simp
      refine ⟨[.cnt c (dig k) k], ?_, cuts_cnt hc (alone_one hn) h1 d2 (by first | exact Nat.le_trans (by assumption) (Nat.le_of_ble_eq_true rfl) | lia | omega) d3 d4, ?_⟩
      · rw [e]
        simp only [List.map_append, up_digs d3, List.map_cons, List.map_nil, q.1, flat, U.txt, List.flatten_cons, List.flatten_nil, show upc 40 = 40 from rfl, show upc 41 = 41 from rfl, show upc 48 = 48 from rfl]
        simp
      · rw [e]; intro x hx
        simp only [List.mem_append, List.mem_singleton] at hx
        rcases hx with ((rfl | rfl) | hx) | rfl
        · exact q.2.2.1
        · first | exact Nat.le_trans (by assumption) (Nat.le_of_ble_eq_true rfl) | lia | omega
        · exact (up_dig (d3 x hx)).2
        · first | exact Nat.le_trans (by assumption) (Nat.le_of_ble_eq_true rfl) | lia | omega
  · rcases h with rfl | rfl
    · exact ⟨[.dbl 67 82], by decide, ⟨by simp, fun u hu => by simp at hu; subst hu; exact ⟨.inl ⟨rfl, rfl⟩, rfl, Int.le_refl 1⟩, rfl⟩, by decide⟩
    · exact ⟨[.dbl 68 66], by decide, ⟨by simp, fun u hu => by simp at hu; subst hu; exact ⟨.inr ⟨rfl, rfl⟩, rfl, Int.le_refl 1⟩, rfl⟩, by decide⟩
theorem spell_cuts {sg w : List Nat} {k : Nat} (h : SgOk sg k) (hw : Spelled sg k w) : ∃ us, w.map upc = flat us ∧ Cuts sg k us ∧ ∀ c ∈ w, c < 128 := by
  rcases hw with rfl | ⟨hn, hw⟩
  · exact short_cuts h
  · obtain ⟨h1, h2, h⟩ := h
    obtain ⟨d1, d2, d3, d4, d5, -⟩ := dig_ok h2
    rcases h with ⟨c, hc, rfl, ha⟩ | ⟨h, rfl⟩
    · have q := up_sig hc
      rcases hw with (rfl | rfl) | ⟨h3, rfl⟩ | rfl
      · have d6 : ∀ d ∈ 48 :: dig k, isDig d = true := by
          intro d hd
          rcases List.mem_cons.mp hd with rfl | hd
          · rfl
          · exact d3 d hd
        refine ⟨[.cnt c (48 :: dig k) k], ?_, cuts_cnt hc (alone_one hn) h1 (by simp) (by simp; first | exact Nat.le_trans (by assumption) (Nat.le_of_ble_eq_true rfl) | lia | omega) d6 d5, ?_⟩
        · simp only [List.map_append, up_digs d3, List.map_cons, List.map_nil, q.1, flat, U.txt, List.flatten_cons, List.flatten_nil, show upc 40 = 40 from rfl, show upc 41 = 41 from rfl, show upc 48 = 48 from rfl]
          simp
        · intro x hx
          simp only [List.mem_append, List.mem_singleton] at hx
          rcases hx with (((rfl | rfl) | rfl) | hx) | rfl
          · exact q.2.2.1
          · first | exact Nat.le_trans (by assumption) (Nat.le_of_ble_eq_true rfl) | lia | omega
          · first | exact Nat.le_trans (by assumption) (Nat.le_of_ble_eq_true rfl) | lia | omega
          · exact (up_dig (d3 x hx)).2
          · first | exact Nat.le_trans (by assumption) (Nat.le_of_ble_eq_true rfl) | lia | omega
      · refine ⟨[.cnt c (dig k) k], ?_, cuts_cnt hc (alone_one hn) h1 d2 (by first | exact Nat.le_trans (by assumption) (Nat.le_of_ble_eq_true rfl) | lia | omega) d3 d4, ?_⟩
        · simp only [List.map_append, up_digs d3, List.map_cons, List.map_nil, q.1, flat, U.txt, List.flatten_cons, List.flatten_nil, show upc 40 = 40 from rfl, show upc 41 = 41 from rfl, show upc 48 = 48 from rfl]
          simp
        · intro x hx
          simp only [List.mem_append, List.mem_singleton] at hx
          rcases hx with ((rfl | rfl) | hx) | rfl
          · exact q.2.2.1
          · first | exact Nat.le_trans (by assumption) (Nat.le_of_ble_eq_true rfl) | lia | omega
          · exact (up_dig (d3 x hx)).2
          · first | exact Nat.le_trans (by assumption) (Nat.le_of_ble_eq_true rfl) | lia | omega
      · obtain ⟨us, e1, e2, e3⟩ := short_cuts (sg := [c]) (k := k - 1) ⟨by first | exact Nat.le_trans (by assumption) (Nat.le_of_ble_eq_true rfl) | lia | omega, by first | exact Nat.le_trans (by assumption) (Nat.le_of_ble_eq_true rfl) | lia | omega, .inl ⟨c, hc, rfl, fun q => absurd (hn.symm.trans q) (by decide)⟩⟩
        refine ⟨.one c :: us, ?_, ?_, ?_⟩
        · rw [List.map_append, e1, flat_cons]
          simp only [List.map_cons, List.map_nil, q.1]; rfl
        · have := cuts_cons hc e2
          rw [show k - 1 + 1 = k from by first | exact Nat.le_trans (by assumption) (Nat.le_of_ble_eq_true rfl) | lia | omega] at this
          exact this
        · intro x hx
          rcases List.mem_append.mp hx with hx | hx
          · simp at hx; subst hx; exact q.2.2.1
          · exact e3 x hx
      · refine ⟨List.replicate k (.one c), ?_, cuts_rep hc h1, ?_⟩
        · rw [flat_rep]
          simp [q.2.1]
        · intro x hx
          simp at hx
          obtain ⟨-, rfl⟩ := hx
          exact q.2.2.2
    · exfalso
      rcases h with rfl | rfl <;> exact absurd hn (by decide)
theorem spells_blocks {rr : RR} {ws : List (List Nat)} (h : Spells rr ws) (hs : ∀ p ∈ rr, SgOk p.1 p.2) : ∃ us, ws.flatten.map upc = flat us ∧ Blocks rr us ∧ ∀ c ∈ ws.flatten, c < 128 := by
  induction h with
  | nil => exact ⟨[], rfl, .nil, fun c hc => absurd hc (by simp)⟩
  | @cons p rr w ws h1 h2 ih =>
    obtain ⟨a, a1, a2, a3⟩ := spell_cuts (hs p (.head _)) h1
    obtain ⟨b, b1, b2, b3⟩ := ih fun q hq => hs q (.tail _ hq)
    refine ⟨a ++ b, ?_, .cons a2 b2, ?_⟩
    · rw [List.flatten_cons, List.map_append, a1, b1, flat_app]
    · intro c hc
      rw [List.flatten_cons] at hc
      rcases List.mem_append.mp hc with hc | hc
      · exact a3 c hc
      · exact b3 c hc
theorem short_spells : ∀ rr : RR, Spells rr (rr.map fun p => short p.1 p.2)
  | [] => .nil
  | p :: rr => .cons (.inl rfl) (short_spells rr)
theorem short_blocks {rr : RR} (hs : ∀ p ∈ rr, SgOk p.1 p.2) : ∃ us, (shortRR rr).map upc = flat us ∧ Blocks rr us ∧ ∀ c ∈ shortRR rr, c < 128 := spells_blocks (short_spells rr) hs
end Og
end
section
set_option tactic.hygienic false
set_option maxHeartbeats 1000000
namespace Og
open PySem
theorem takes_app {l1 l2 : List (PySem.Str × Int)} {o o1 o2 : Ord} (h : Takes o l1 o1) (h2 : Takes o1 l2 o2) : Takes o (l1 ++ l2) o2 := by
  induction h with
  | nil => exact h2
  | cons k _ ih => exact .cons k (ih h2)
theorem takes_fam {s : PySem.Str} (F : Int → Int → Int → Ord) (h1 : ∀ t b v c, 1 ≤ t → 1 ≤ c → 0 < v → ∃ b' v', 0 < v' ∧ TakeOk (F t b v) s c (F (t + c) b' v')) :
    ∀ (us : List U), (∀ u ∈ us, tx u.sg = s ∧ 1 ≤ u.ct) → ∀ t b v, 1 ≤ t → 0 < v → ∃ b' v', 0 < v' ∧ Takes (F t b v) (prs us) (F (t + (us.map U.ct).sum) b' v')
  | [], _, t, b, v, ht, hv => ⟨b, v, hv, by simp only [List.map_nil, List.sum_nil, Int.add_zero]; exact .nil _⟩
  | u :: us, h, t, b, v, ht, hv => by
    obtain ⟨hu, hc⟩ := h u (.head _)
    obtain ⟨b1, v1, hv1, k⟩ := h1 t b v u.ct ht hc hv
    obtain ⟨b2, v2, hv2, k2⟩ := takes_fam F h1 us (fun x hx => h x (.tail _ hx)) (t + u.ct) b1 v1 (by first | lia | omega) hv1
    refine ⟨b2, v2, hv2, ?_⟩
    rw [List.map_cons, List.sum_cons, ← Int.add_assoc]
    show Takes _ ((tx u.sg, u.ct) :: prs us) _
    rw [hu]
    exact .cons k k2
theorem takes_block {sg : List Nat} {k : Nat} {o : Ord} {s : PySem.Str} (hs : tx sg = s) (F : Int → Int → Int → Ord) (h0 : ∀ c, 1 ≤ c → ∃ b v, 0 < v ∧ TakeOk o s c (F c b v))
    (h1 : ∀ t b v c, 1 ≤ t → 1 ≤ c → 0 < v → ∃ b' v', 0 < v' ∧ TakeOk (F t b v) s c (F (t + c) b' v')) {us : List U} (h : Cuts sg k us) : ∃ b v, 0 < v ∧ Takes o (prs us) (F k b v) := by
  obtain ⟨h2, h3, h4⟩ := h
  cases us with
  | nil => exact absurd rfl h2
  | cons u us =>
    obtain ⟨-, hu, hc⟩ := h3 u (.head _)
    obtain ⟨b, v, hv, q⟩ := h0 u.ct hc
    obtain ⟨b2, v2, hv2, q2⟩ := takes_fam F h1 us (fun x hx => ⟨by rw [(h3 x (.tail _ hx)).2.1, hs], (h3 x (.tail _ hx)).2.2⟩) u.ct b v hc hv
    refine ⟨b2, v2, hv2, ?_⟩
    rw [← h4, List.map_cons, List.sum_cons]
    show Takes _ ((tx u.sg, u.ct) :: prs us) _
    rw [hu, hs]
    exact .cons q q2
theorem sum_ge {us : List U} (h : ∀ u ∈ us, 1 ≤ u.ct) : (us.length : Int) ≤ (us.map U.ct).sum := by
  induction us with
  | nil => simp
  | cons u us ih =>
    have h1 := ih fun x hx => h x (.tail _ hx)
    have h2 := h u (.head _)
    simp only [List.length_cons, List.map_cons, List.sum_cons]; first | lia | omega
theorem takes_one {sg : List Nat} {o o' : Ord} {s : PySem.Str} (hs : tx sg = s) (h0 : TakeOk o s 1 o') {us : List U} (h : Cuts sg 1 us) : Takes o (prs us) o' := by
  obtain ⟨h2, h3, h4⟩ := h
  have h5 := sum_ge fun u hu => (h3 u hu).2.2
  rw [h4] at h5
  cases us with
  | nil => exact absurd rfl h2
  | cons u us =>
    cases us with
    | cons v us => simp at h5; first | lia | omega
    | nil =>
      have hu := (h3 u (.head _)).2.1
      have hc : u.ct = 1 := by simpa using h4
      show Takes _ [(tx u.sg, u.ct)] _
      rw [hu, hc, hs]
      exact .cons h0 (.nil _)
theorem t9 {o : Ord} {k : Nat} {us : List U} (h0 : o.over = false) (h1 : o.trail = 0) (h2 : o.late = false) (h3 : 0 ≤ o.seen) (h4 : o.point = Str.ofString "" ∨ o.point = Str.ofString "V" ∨ o.point = Str.ofString ".") (h : Cuts [57] k us) :
    ∃ b v, 0 < v ∧ Takes o (prs us) { o with nines := o.nines + (k : Int), behind := b, seen := v, last := Str.ofString "9" } := by
  obtain ⟨seen, plain, point, lead, trail, nines, zero, zeros, floats, behind, late, sign, money, last, over, ins⟩ := o
  dsimp only at h0 h1 h2 h3 h4
  subst h0 h1 h2
  refine takes_block n9_tx.symm (fun t b v => ⟨v, plain, point, lead, 0, nines + t, zero, zeros, floats, b, false, sign, money, Str.ofString "9", false, ins⟩) (fun c hc => ?_) (fun t b v c ht hc hv => ?_) h
  · obtain ⟨b, q⟩ := tk9 (seen := seen) (plain := plain) (lead := lead) (nines := nines) (zero := zero) (zeros := zeros) (floats := floats) (behind := behind) (sign := sign) (money := money) (last := last) (ins := ins) (c := c) h4
    exact ⟨b, seen + 1, by first | lia | omega, q⟩
  · obtain ⟨b', q⟩ := tk9 (seen := v) (plain := plain) (lead := lead) (nines := nines + t) (zero := zero) (zeros := zeros) (floats := floats) (behind := b) (sign := sign) (money := money) (last := Str.ofString "9") (ins := ins) (c := c) h4
    rw [Int.add_assoc] at q
    exact ⟨b', v + 1, by first | lia | omega, q⟩
theorem tZ {o : Ord} {k : Nat} {us : List U} {c0 : List Nat} (hc0 : c0 = [90] ∨ c0 = [42]) (h0 : o.over = false) (hp0 : o.plain = false) (h1 : o.trail = 0) (hl : o.late = false) (h2 : o.nines = 0) (h4 : o.floats = 0) (h5 : o.zero = Str.ofString "") (h6 : o.point = Str.ofString "") (h3 : 0 ≤ o.seen) (h : Cuts c0 k us) :
    ∃ b v, 0 < v ∧ Takes o (prs us) { o with zero := tx c0, zeros := o.zeros + (k : Int), behind := b, seen := v, last := tx c0 } := by
  obtain ⟨seen, plain, point, lead, trail, nines, zero, zeros, floats, behind, late, sign, money, last, over, ins⟩ := o
  dsimp only at h0 hp0 h1 hl h2 h3 h4 h5 h6
  subst h0 hp0 h1 hl h2 h4 h5 h6
  have hs : tx c0 = Str.ofString "Z" ∨ tx c0 = Str.ofString "*" := by rcases hc0 with rfl | rfl; exact .inl Z_tx.symm; exact .inr st_tx.symm
  refine takes_block rfl (fun t b v => ⟨v, false, Str.ofString "", lead, 0, 0, tx c0, zeros + t, 0, b, false, sign, money, tx c0, false, ins⟩) (fun c hc => ⟨behind, seen + 1, by first | lia | omega, tkZ hs (.inl rfl)⟩) (fun t b v c ht hc hv => ⟨b, v + 1, by first | lia | omega, ?_⟩) h
  have q := tkZ (seen := v) (lead := lead) (zeros := zeros + t) (behind := b) (sign := sign) (money := money) (last := tx c0) (ins := ins) (c := c) hs (.inr rfl)
  rw [Int.add_assoc] at q
  exact q
theorem succ_of {v : Int} (h : 0 < v) : ∃ j : Nat, v = ((j + 1 : Nat) : Int) := ⟨(v - 1).toNat, by first | lia | omega⟩
theorem tM {o : Ord} {k : Nat} {us : List U} {c0 : List Nat} (hc0 : c0 = [43] ∨ c0 = [45]) (h0 : o.over = false) (hp0 : o.plain = false) (h1 : o.trail = 0) (hl : o.late = false) (h2 : o.nines = 0) (h4 : o.zeros = 0) (h5 : o.lead = 0) (h6 : o.point = Str.ofString "") (h7 : o.money = Str.ofString "") (h3 : o.seen = 0) (h : Cuts c0 k us) :
    ∃ b v, 0 < v ∧ Takes o (prs us) { o with sign := tx c0, floats := o.floats + ((k : Int) - 1), behind := b, seen := v, last := tx c0 } := by
  obtain ⟨seen, plain, point, lead, trail, nines, zero, zeros, floats, behind, late, sign, money, last, over, ins⟩ := o
  dsimp only at h0 hp0 h1 hl h2 h3 h4 h5 h6 h7
  subst h0 hp0 h1 hl h2 h3 h4 h5 h6 h7
  have hs : tx c0 = Str.ofString "+" ∨ tx c0 = Str.ofString "-" := by rcases hc0 with rfl | rfl; exact .inl pl_tx.symm; exact .inr mi_tx.symm
  refine takes_block rfl (fun t b v => ⟨v, false, Str.ofString "", 0, 0, 0, zero, 0, floats + (t - 1), b, false, tx c0, Str.ofString "", tx c0, false, ins⟩) (fun c hc => ⟨behind, 0 + 1, by first | lia | omega, tkMa hs⟩) (fun t b v c ht hc hv => ?_) h
  obtain ⟨j, rfl⟩ := succ_of hv
  have q := tkMb (zero := zero) (floats := floats + (t - 1)) (behind := b) (last := tx c0) (ins := ins) (c := c) (j := j) hs
  rw [show floats + (t - 1) + c = floats + (t + c - 1) from by first | lia | omega] at q
  exact ⟨b, _, by first | lia | omega, q⟩
theorem tD {o : Ord} {k : Nat} {us : List U} (h0 : o.over = false) (hp0 : o.plain = false) (h1 : o.trail = 0) (hl : o.late = false) (h2 : o.nines = 0) (h4 : o.zeros = 0) (h5 : o.lead = 0) (h6 : o.point = Str.ofString "") (h7 : o.money = Str.ofString "") (h3 : o.seen = 0) (h : Cuts [36] k us) :
    ∃ b v, 0 < v ∧ Takes o (prs us) { o with money := Str.ofString "$", floats := o.floats + ((k : Int) - 1), behind := b, seen := v, last := Str.ofString "$" } := by
  obtain ⟨seen, plain, point, lead, trail, nines, zero, zeros, floats, behind, late, sign, money, last, over, ins⟩ := o
  dsimp only at h0 hp0 h1 hl h2 h3 h4 h5 h6 h7
  subst h0 hp0 h1 hl h2 h3 h4 h5 h6 h7
  refine takes_block do_tx.symm (fun t b v => ⟨v, false, Str.ofString "", 0, 0, 0, zero, 0, floats + (t - 1), b, false, sign, Str.ofString "$", Str.ofString "$", false, ins⟩) (fun c hc => ⟨behind, 0 + 1, by first | lia | omega, tkDa⟩) (fun t b v c ht hc hv => ?_) h
  have q := tkDb (seen := v) (zero := zero) (floats := floats + (t - 1)) (behind := b) (sign := sign) (last := Str.ofString "$") (ins := ins) (c := c)
  rw [show floats + (t - 1) + c = floats + (t + c - 1) from by first | lia | omega] at q
  exact ⟨b, v + 1, by first | lia | omega, q⟩
theorem tPa {o : Ord} {k n : Nat} {us : List U} (h0 : o.over = false) (hl : o.late = false) (hn : o.nines = (n : Int)) (n1 : 1 ≤ n) (n2 : n ≤ 9) (hz : o.zeros = 0) (hf : o.floats = 0) (h2 : o.point = Str.ofString "") (h4 : o.lead = 0) (h3 : 0 ≤ o.seen) (h : Cuts [80] k us) :
    ∃ b v, 0 < v ∧ Takes o (prs us) { o with trail := o.trail + (k : Int), behind := b, seen := v, last := Str.ofString "P" } := by
  obtain ⟨seen, plain, point, lead, trail, nines, zero, zeros, floats, behind, late, sign, money, last, over, ins⟩ := o
  dsimp only at h0 hl hn hz hf h2 h4 h3
  subst h0 hl hn hz hf h2 h4
  refine takes_block P_tx.symm (fun t b v => ⟨v, plain, Str.ofString "", 0, trail + t, (n : Int), zero, 0, 0, b, false, sign, money, Str.ofString "P", false, ins⟩) (fun c hc => ⟨behind, seen + 1, by first | lia | omega, tkPa n1 n2⟩) (fun t b v c ht hc hv => ?_) h
  have q := tkPa (seen := v) (trail := trail + t) (plain := plain) (zero := zero) (behind := b) (sign := sign) (money := money) (last := Str.ofString "P") (ins := ins) (c := c) n1 n2
  rw [Int.add_assoc] at q
  exact ⟨b, v + 1, by first | lia | omega, q⟩
theorem tPb {o : Ord} {k : Nat} {us : List U} (h0 : o.over = false) (hl : o.late = false) (hn : o.nines = 0) (hz : o.zeros = 0) (hf : o.floats = 0) (h2 : o.point = Str.ofString "V") (h4 : o.ins = false) (h3 : 0 ≤ o.seen) (h : Cuts [80] k us) :
    ∃ b v, 0 < v ∧ Takes o (prs us) { o with lead := o.lead + (k : Int), behind := b, seen := v, last := Str.ofString "P" } := by
  obtain ⟨seen, plain, point, lead, trail, nines, zero, zeros, floats, behind, late, sign, money, last, over, ins⟩ := o
  dsimp only at h0 hl hn hz hf h2 h4 h3
  subst h0 hl hn hz hf h2 h4
  refine takes_block P_tx.symm (fun t b v => ⟨v, plain, Str.ofString "V", lead + t, trail, 0, zero, 0, 0, b, false, sign, money, Str.ofString "P", false, false⟩) (fun c hc => ⟨behind, seen + 1, by first | lia | omega, tkPb⟩) (fun t b v c ht hc hv => ?_) h
  have q := tkPb (seen := v) (lead := lead + t) (trail := trail) (plain := plain) (zero := zero) (behind := b) (sign := sign) (money := money) (last := Str.ofString "P") (c := c)
  rw [Int.add_assoc] at q
  exact ⟨b, v + 1, by first | lia | omega, q⟩
theorem blocks_app {a : RR} : ∀ {b : RR} {us : List U}, Blocks (a ++ b) us → ∃ ua ub, us = ua ++ ub ∧ Blocks a ua ∧ Blocks b ub := by
  induction a with
  | nil => intro b us h; exact ⟨[], us, rfl, .nil, h⟩
  | cons p a ih =>
    intro b us h
    cases h with
    | cons h1 h2 =>
      obtain ⟨ua, ub, rfl, h3, h4⟩ := ih h2
      exact ⟨_ ++ ua, ub, by rw [List.append_assoc], .cons h1 h3, h4⟩
theorem blocks_nil {us : List U} (h : Blocks [] us) : us = [] := by cases h; rfl
theorem blocks_cons {p : List Nat × Nat} {rr : RR} {us : List U} (h : Blocks (p :: rr) us) : ∃ a b, us = a ++ b ∧ Cuts p.1 p.2 a ∧ Blocks rr b := by
  cases h with
  | cons h1 h2 => exact ⟨_, _, rfl, h1, h2⟩
theorem blocks_one {p : List Nat × Nat} {us : List U} (h : Blocks [p] us) : Cuts p.1 p.2 us := by
  obtain ⟨a, b, rfl, h1, h2⟩ := blocks_cons h
  rw [blocks_nil h2, List.append_nil]; exact h1
end Og
end
section
set_option tactic.hygienic false
set_option maxHeartbeats 1000000
namespace Og
open PySem
/-- the runs' own side: what wf, shown and short ask -/
theorem kept_wf {rr : RR} (hs : ∀ p ∈ rr, SgOk p.1 p.2) (hl : rr.length ≤ 10) : wfN rr := by
  refine ⟨by first | exact Nat.le_trans (by assumption) (Nat.le_of_ble_eq_true rfl) | lia | omega, fun p hp => ?_⟩
  obtain ⟨h1, h2, h⟩ := hs p hp
  rcases h with ⟨c, hc, e, -⟩ | ⟨e, -⟩
  · rw [e]
    refine ⟨by simp, by simp, h1, h2, fun x hx => ?_⟩
    simp at hx; subst hx
    exact (up_sig hc).2.2.1
  · rcases e with e | e <;> rw [e] <;> exact ⟨by decide, by decide, h1, h2, by decide⟩
theorem rep1_len (k c : Nat) : (List.replicate k [c]).flatten.length = k := by rw [rep_len]; simp
theorem shown_eq {sg : List Nat} {k : Nat} (h : SgOk sg k) : shown sg k = short sg k := by
  obtain ⟨h1, h2, h⟩ := h
  obtain ⟨d1, d2, -, -, -, d6, d7⟩ := dig_ok h2
  rcases h with ⟨c, hc, rfl, ha⟩ | ⟨h, rfl⟩
  · have e : ([c] ++ [40] ++ dig k ++ [41]).length = (dig k).length + 3 := by simp
    unfold shown short
    rw [rep1_len, e]
    by_cases hA : alone [c] = true
    · rw [if_pos (by have := ha hA; first | exact Nat.le_trans (by assumption) (Nat.le_of_ble_eq_true rfl) | lia | omega), if_pos (by rw [hA]; rfl)]
    · have hA : alone [c] = false := by simpa using hA
      rw [hA, Bool.false_or]
      by_cases h5 : k < 5
      · rw [if_pos (by first | exact Nat.le_trans (by assumption) (Nat.le_of_ble_eq_true rfl) | lia | omega), if_pos (decide_eq_true h5)]
      · rw [if_neg ?_, if_neg (by simpa using h5)]
        by_cases h10 : k < 10
        · have := d6 h10; first | exact Nat.le_trans (by assumption) (Nat.le_of_ble_eq_true rfl) | lia | omega
        · have := d7 (by first | exact Nat.le_trans (by assumption) (Nat.le_of_ble_eq_true rfl) | lia | omega); first | exact Nat.le_trans (by assumption) (Nat.le_of_ble_eq_true rfl) | lia | omega
  · rcases h with rfl | rfl <;> decide +kernel
theorem short_le {sg : List Nat} {k : Nat} (h : SgOk sg k) : (short sg k).length ≤ 6 ∧ (k ≤ 9 → (short sg k).length ≤ 4) ∧ (k = 1 → (short sg k).length ≤ 2) := by
  obtain ⟨h1, h2, h⟩ := h
  obtain ⟨d1, d2, -, -, -, d6, d7⟩ := dig_ok h2
  rcases h with ⟨c, hc, rfl, ha⟩ | ⟨h, rfl⟩
  · have e : ([c] ++ [40] ++ dig k ++ [41]).length = (dig k).length + 3 := by simp
    unfold short
    split
    · rename_i q
      rw [rep1_len]
      simp only [Bool.or_eq_true, decide_eq_true_eq] at q
      have : k < 5 := by
        rcases q with q | q
        · have := ha q; first | exact Nat.le_trans (by assumption) (Nat.le_of_ble_eq_true rfl) | lia | omega
        · exact q
      first | exact Nat.le_trans (by assumption) (Nat.le_of_ble_eq_true rfl) | lia | omega
    · rename_i q
      rw [e]
      have : ¬ k < 5 := fun z => q (by simp [z])
      refine ⟨by first | exact Nat.le_trans (by assumption) (Nat.le_of_ble_eq_true rfl) | lia | omega, fun q => ?_, fun q => by first | exact Nat.le_trans (by assumption) (Nat.le_of_ble_eq_true rfl) | lia | omega⟩
      have := d6 (by first | exact Nat.le_trans (by assumption) (Nat.le_of_ble_eq_true rfl) | lia | omega)
      first | exact Nat.le_trans (by assumption) (Nat.le_of_ble_eq_true rfl) | lia | omega
  · rcases h with rfl | rfl <;> decide +kernel
theorem size_le {rr : RR} (hs : ∀ p ∈ rr, SgOk p.1 p.2) : sizeOf' (toR rr) ≤ 300 * rr.length := by
  unfold sizeOf'
  induction rr with
  | nil => simp [toR]
  | cons p rr ih =>
    have h1 := ih fun q hq => hs q (.tail _ hq)
    obtain ⟨q1, q2, q3⟩ := hs p (.head _)
    have q4 : p.1.length ≤ 2 := by
      rcases q3 with ⟨c, hc, e, -⟩ | ⟨e | e, -⟩ <;> rw [e] <;> simp
    have q5 : (p.2 : Int) * ((p.1.length : Nat) : Int) ≤ 150 * 2 := Int.mul_le_mul (by first | exact Nat.le_trans (by assumption) (Nat.le_of_ble_eq_true rfl) | lia | omega) (by first | exact Nat.le_trans (by assumption) (Nat.le_of_ble_eq_true rfl) | lia | omega) (by first | exact Nat.le_trans (by assumption) (Nat.le_of_ble_eq_true rfl) | lia | omega) (by first | exact Nat.le_trans (by assumption) (Nat.le_of_ble_eq_true rfl) | lia | omega)
    simp only [toR, List.map_cons, List.filter_cons] at h1 ⊢
    split
    · simp only [List.map_cons, List.sum_cons, tx_len, List.length_cons]; push_cast; first | exact Nat.le_trans (by assumption) (Nat.le_of_ble_eq_true rfl) | lia | omega
    · simp only [List.length_cons]; push_cast; first | exact Nat.le_trans (by assumption) (Nat.le_of_ble_eq_true rfl) | lia | omega
theorem ax_has {rr : RR} {us : List U} (h : Blocks rr us) : hasAX us = rr.any fun p => isAX (tx p.1) := by
  obtain ⟨h1, h2⟩ := blocks_mem h
  cases hh : rr.any fun p => isAX (tx p.1) with
  | true =>
    obtain ⟨p, hp, e⟩ := List.any_eq_true.mp hh
    obtain ⟨u, hu, e2⟩ := h2 p hp
    exact List.any_eq_true.mpr ⟨u, hu, by rw [e2]; exact e⟩
  | false =>
    rw [List.any_eq_false] at hh
    unfold hasAX
    rw [List.any_eq_false]
    intro u hu
    obtain ⟨-, -, p, hp, e⟩ := h1 u hu
    rw [e]; exact hh p hp
/-- a picture read: from its blocks to the contracts of its two makers -/
theorem read_num {rr : RR} (hs : ∀ p ∈ rr, SgOk p.1 p.2) (hl : rr.length ≤ 10) (hd : diffs rr = true) (hax : (rr.any fun p => isAX (tx p.1)) = false)
    (hT : ∀ us, Blocks rr us → ∃ o, Takes ord0 (prs us) o ∧ 1 ≤ o.nines + o.zeros + o.floats ∧ o.nines + o.zeros + o.floats + o.lead + o.trail ≤ 18 ∧ o.nines + o.zeros + o.floats ≤ 18 ∧ (Str.ofString "," == o.last) = false ∧ (Str.ofString "." == o.last) = false)
    {l : List Nat} (hll : l.length ≤ 30) {us : List U} (e : l.map upc = flat us) (hb : Blocks rr us) (hc : ∀ c ∈ l, c < 128) {N : Int} {w : Nat} (hw : w ≠ 1) :
    ∃ t dg sc sg, np t = true ∧ dgOk w dg ∧ callF T 12 295 [.str (tx l)] [B N] = some (picD t (toR rr) (numCat ((toR rr).map pairD)) dg sc sg (sizeOf' (toR rr)), [B N]) := by
  obtain ⟨o, hT1, hT2, hT3, hT4, hT5, hT6⟩ := hT us hb
  have hsym : symOf (prs us) = toR rr := by rw [sym_blocks hb, mrg_id hd]
  have hsz : sizeOf' (toR rr) ≤ 9999 := by have := size_le hs; first | exact Nat.le_trans (by assumption) (Nat.le_of_ble_eq_true rfl) | lia | omega
  have hfl : (flat us).length ≤ 30 := by rw [← e]; simpa using hll
  have hul : us.length ≤ 30 := Nat.le_trans (len_flat us) hfl
  refine ⟨.str (tx (flat us)), o.nines + o.zeros + o.floats, (if o.lead > 0 then o.lead + (o.nines + o.zeros + o.floats) else o.behind - o.trail), (o.plain || o.sign != Str.ofString ""), rfl, ?_, ?_⟩
  · unfold dgOk; rw [if_neg hw]; exact ⟨hT2, hT4⟩
  · refine read_go hll hc e (fun u hu => ((blocks_mem hb).1 u hu).1) ?_ ?_
    · exact pic_np rfl
    · rw [ax_has hb, hax]
      rw [if_neg Bool.false_ne_true, tok_trip]
      exact c278 rfl (by rw [trip_len]; first | exact Nat.le_trans (by assumption) (Nat.le_of_ble_eq_true rfl) | lia | omega) (by rw [trip_prs]; exact hsym) (kept_wf hs hl) hsz (by rw [trip_prs]; exact hT1) (by simp; first | exact Nat.le_trans (by assumption) (Nat.le_of_ble_eq_true rfl) | lia | omega) hT5 hT6 hT3
theorem read_text {rr : RR} {us : List U} {l : List Nat} (hs : ∀ p ∈ mrg rr, SgOk p.1 p.2) (hl : (mrg rr).length ≤ 10) (hsg : ∀ p ∈ rr, isTextSg (tx p.1) = true) (hax : ∃ p ∈ rr, isAX (tx p.1) = true)
    (hll : l.length ≤ 30) (e : l.map upc = flat us) (hb : Blocks rr us) (hc : ∀ c ∈ l, c < 128) {N : Int} :
    ∃ t dg sc sg, np t = true ∧ dgOk 1 dg ∧ callF T 12 295 [.str (tx l)] [B N] = some (picD t (toR (mrg rr)) (textCat ((toR (mrg rr)).map (·.1))) dg sc sg (sizeOf' (toR (mrg rr))), [B N]) := by
  have hsym : symOf (prs us) = toR (mrg rr) := sym_blocks hb
  have hsz : sizeOf' (toR (mrg rr)) ≤ 9999 := by have := size_le hs; first | exact Nat.le_trans (by assumption) (Nat.le_of_ble_eq_true rfl) | lia | omega
  have hfl : (flat us).length ≤ 30 := by rw [← e]; simpa using hll
  have hul : us.length ≤ 30 := Nat.le_trans (len_flat us) hfl
  refine ⟨.str (tx (flat us)), 0, 0, false, rfl, rfl, ?_⟩
  refine read_go hll hc e (fun u hu => ((blocks_mem hb).1 u hu).1) ?_ ?_
  · exact pic_np rfl
  · rw [ax_has hb, show (rr.any fun p => isAX (tx p.1)) = true from List.any_eq_true.mpr hax, if_pos rfl, tok_trip]
    refine c290 (st := [B N, .lst []]) (by first | exact Nat.le_trans (by assumption) (Nat.le_of_ble_eq_true rfl) | lia | omega) rfl rfl (by rw [trip_len]; first | exact Nat.le_trans (by assumption) (Nat.le_of_ble_eq_true rfl) | lia | omega) (by rw [trip_prs]; exact hsym) (kept_wf hs hl) hsz ?_
    refine trip_sg (P := fun s => isTextSg s = true) (fun u hu => ?_) 0
    obtain ⟨-, -, p, hp, e⟩ := (blocks_mem hb).1 u hu
    rw [e]; exact hsg p hp
end Og
end
section
set_option tactic.hygienic false
set_option maxHeartbeats 1000000
namespace Og
open PySem
theorem low_sig : ∀ c ∈ SIG, Txt.lower (tx [c]) = tx [low c] := by decide +kernel
theorem low_ok {sg : List Nat} {k : Nat} (h : SgOk sg k) : sg.length ≤ 2 ∧ 1 ≤ k ∧ k < 150 ∧ (alone sg = true ∨ Txt.lower (tx sg) = tx (sg.map low)) := by
  obtain ⟨h1, h2, h⟩ := h
  rcases h with ⟨c, hc, rfl, -⟩ | ⟨h, rfl⟩
  · exact ⟨by simp, h1, h2, .inr (low_sig c hc)⟩
  · rcases h with rfl | rfl
    · exact ⟨by decide, h1, h2, .inl (by decide)⟩
    · exact ⟨by decide, h1, h2, .inl (by decide)⟩
theorem short_sum {m : Nat} {rr : RR} (h : ∀ p ∈ rr, (short p.1 p.2).length ≤ m) : (shortRR rr).length ≤ m * rr.length := by
  unfold shortRR
  induction rr with
  | nil => simp
  | cons p rr ih =>
    have h1 := h p (.head _)
    have h2 := ih fun q hq => h q (.tail _ hq)
    simp only [List.map_cons, List.flatten_cons, List.length_append, List.length_cons, Nat.mul_add]; first | exact Nat.le_trans (by assumption) (Nat.le_of_ble_eq_true rfl) | lia | omega
theorem lawok_num {rr : RR} {w : Nat} (hw : w ≠ 1) (hne : rr ≠ []) (hs : ∀ p ∈ rr, SgOk p.1 p.2 ∧ p.2 ≤ 9) (hl : rr.length ≤ 7) (hd : diffs rr = true) (hax : (rr.any fun p => isAX (tx p.1)) = false)
    (hT : ∀ us, Blocks rr us → ∃ o, Takes ord0 (prs us) o ∧ 1 ≤ o.nines + o.zeros + o.floats ∧ o.nines + o.zeros + o.floats + o.lead + o.trail ≤ 18 ∧ o.nines + o.zeros + o.floats ≤ 18 ∧ (Str.ofString "," == o.last) = false ∧ (Str.ofString "." == o.last) = false) : LawOk w rr := by
  have hs' : ∀ p ∈ rr, SgOk p.1 p.2 := fun p hp => (hs p hp).1
  have hm := mrg_id hd
  refine ⟨hne, by first | exact Nat.le_trans (by assumption) (Nat.le_of_ble_eq_true rfl) | lia | omega, fun p hp => low_ok (hs' p hp), ?_, ?_, ?_, numCat ((toR rr).map pairD), numCat_ok _, ?_⟩
  · rw [hm]; exact kept_wf hs' (by first | exact Nat.le_trans (by assumption) (Nat.le_of_ble_eq_true rfl) | lia | omega)
  · rw [hm]; exact fun p hp => shown_eq (hs' p hp)
  · rw [hm]
    have := short_sum (m := 4) (rr := rr) fun p hp => (short_le (hs' p hp)).2.1 (hs p hp).2
    first | exact Nat.le_trans (by assumption) (Nat.le_of_ble_eq_true rfl) | lia | omega
  · intro l hll h N
    rw [hm] at h ⊢
    rcases h with ⟨ws, rfl, h⟩ | rfl
    · obtain ⟨us, e, hb, hc⟩ := spells_blocks h hs'
      exact read_num hs' (by first | exact Nat.le_trans (by assumption) (Nat.le_of_ble_eq_true rfl) | lia | omega) hd hax hT hll e hb hc hw
    · obtain ⟨us, e, hb, hc⟩ := short_blocks hs'
      exact read_num hs' (by first | exact Nat.le_trans (by assumption) (Nat.le_of_ble_eq_true rfl) | lia | omega) hd hax hT hll e hb hc hw
theorem lawok_text {rr : RR} (h : TextR rr) : LawOk 1 rr := by
  obtain ⟨c, w, rfl, h1, h2, h3, h4⟩ := h
  have ht : ∀ p ∈ (([88], c) :: w : RR), (∃ x, x ∈ SIG ∧ p.1 = [x] ∧ alone p.1 = false ∧ isTextSg (tx [x]) = true) ∧ 1 ≤ p.2 := by
    intro p hp
    have key : ∀ s ∈ TXT, ∃ x, x ∈ SIG ∧ s = [x] ∧ alone s = false ∧ isTextSg (tx [x]) = true := by
      intro s hs
      simp only [TXT, List.mem_cons, List.not_mem_nil, or_false] at hs
      rcases hs with rfl | rfl | rfl | rfl | rfl | rfl <;> exact ⟨_, by decide, rfl, by decide, by decide +kernel⟩
    rcases List.mem_cons.mp hp with rfl | hp
    · exact ⟨key [88] (by decide), h1⟩
    · exact ⟨key _ (h4 p hp).1, (h4 p hp).2.1⟩
  have hsum : ((([88], c) :: w : RR).map (·.2)).sum ≤ 136 := by
    have : ∀ v : RR, (∀ p ∈ v, p.2 ≤ 12) → (v.map (·.2)).sum ≤ 12 * v.length := by
      intro v
      induction v with
      | nil => simp
      | cons p v ih =>
        intro h
        have q1 := ih fun x hx => h x (.tail _ hx)
        have q2 := h p (.head _)
        simp only [List.map_cons, List.sum_cons, List.length_cons]; first | exact Nat.le_trans (by assumption) (Nat.le_of_ble_eq_true rfl) | lia | omega
    have := this w fun p hp => (h4 p hp).2.2
    simp only [List.map_cons, List.sum_cons]; first | exact Nat.le_trans (by assumption) (Nat.le_of_ble_eq_true rfl) | lia | omega
  have hlen : (([88], c) :: w : RR).length ≤ 4 := by simp; first | exact Nat.le_trans (by assumption) (Nat.le_of_ble_eq_true rfl) | lia | omega
  have hax : ∃ p ∈ (([88], c) :: w : RR), isAX (tx p.1) = true := ⟨_, .head _, show isAX (tx [88]) = true by decide +kernel⟩
  have hnn : (([88], c) :: w : RR) ≠ [] := by simp
  generalize (([88], c) :: w : RR) = rr at *
  clear h1 h2 h3 h4
  obtain ⟨k1, k2, k3⟩ := kept_mrg (S := fun s => ∃ x, x ∈ SIG ∧ s = [x] ∧ alone s = false ∧ isTextSg (tx [x]) = true) (rr := rr) ht
  have sok : ∀ {s : List Nat} {k : Nat}, (∃ x, x ∈ SIG ∧ s = [x] ∧ alone s = false ∧ isTextSg (tx [x]) = true) → 1 ≤ k → k < 150 → SgOk s k := by
    rintro s k ⟨x, hx, e, ha, -⟩ q1 q2
    exact ⟨q1, q2, .inl ⟨x, hx, e, fun q => by rw [ha] at q; cases q⟩⟩
  have hs : ∀ p ∈ rr, SgOk p.1 p.2 := by
    intro p hp
    have : p.2 ∈ rr.map (·.2) := List.mem_map.mpr ⟨p, hp, rfl⟩
    have := le_sum this
    exact sok (ht p hp).1 (ht p hp).2 (by first | exact Nat.le_trans (by assumption) (Nat.le_of_ble_eq_true rfl) | lia | omega)
  have hs2 : ∀ p ∈ mrg rr, SgOk p.1 p.2 := by
    intro p hp
    have : p.2 ∈ (mrg rr).map (·.2) := List.mem_map.mpr ⟨p, hp, rfl⟩
    have := le_sum this
    exact sok (k2 p hp).1 (k2 p hp).2 (by first | exact Nat.le_trans (by assumption) (Nat.le_of_ble_eq_true rfl) | lia | omega)
  have hsg : ∀ (v : RR), (∀ p ∈ v, (∃ x, x ∈ SIG ∧ p.1 = [x] ∧ alone p.1 = false ∧ isTextSg (tx [x]) = true) ∧ 1 ≤ p.2) → ∀ p ∈ v, isTextSg (tx p.1) = true := by
    intro v h p hp
    obtain ⟨⟨x, -, e, -, q⟩, -⟩ := h p hp
    rw [e]; exact q
  refine ⟨hnn, by first | exact Nat.le_trans (by assumption) (Nat.le_of_ble_eq_true rfl) | lia | omega, fun p hp => low_ok (hs p hp), kept_wf hs2 (by first | exact Nat.le_trans (by assumption) (Nat.le_of_ble_eq_true rfl) | lia | omega), fun p hp => shown_eq (hs2 p hp), ?_, textCat ((toR (mrg rr)).map (·.1)), textCat_ok _, ?_⟩
  · have := short_sum (m := 6) (rr := mrg rr) fun p hp => (short_le (hs2 p hp)).1
    first | exact Nat.le_trans (by assumption) (Nat.le_of_ble_eq_true rfl) | lia | omega
  · intro l hll h N
    rcases h with ⟨ws, rfl, h⟩ | rfl
    · obtain ⟨us, e, hb, hc⟩ := spells_blocks h hs
      exact read_text hs2 (by first | exact Nat.le_trans (by assumption) (Nat.le_of_ble_eq_true rfl) | lia | omega) (hsg _ ht) hax hll e hb hc
    · obtain ⟨us, e, hb, hc⟩ := short_blocks hs2
      have hax2 : ∃ p ∈ mrg rr, isAX (tx p.1) = true := by
        obtain ⟨p, hp, e⟩ := hax
        obtain ⟨q, hq, e2⟩ := mem_mrg_sg hp
        exact ⟨q, hq, by rw [e2]; exact e⟩
      have := read_text (N := N) (rr := mrg rr) (by rw [mrg_mrg]; exact hs2) (by rw [mrg_mrg]; first | exact Nat.le_trans (by assumption) (Nat.le_of_ble_eq_true rfl) | lia | omega) (hsg _ k2) hax2 hll e hb hc
      rw [mrg_mrg] at this
      exact this
end Og
end
section
set_option tactic.hygienic false
set_option maxHeartbeats 1000000
namespace Og
open PySem
theorem tS {us : List U} (h : Cuts [83] 1 us) : Takes ord0 (prs us) { ord0 with plain := true, seen := 1, last := Str.ofString "S" } := takes_one S_tx.symm tkS h
theorem tV {o : Ord} {us : List U} (h0 : o.over = false) (hl : o.late = false) (h1 : o.point = Str.ofString "") (h2 : o.lead = 0) (h3 : o.trail = 0) (h : Cuts [86] 1 us) :
    Takes o (prs us) { o with point := Str.ofString "V", seen := o.seen + 1, last := Str.ofString "V" } := by
  obtain ⟨seen, plain, point, lead, trail, nines, zero, zeros, floats, behind, late, sign, money, last, over, ins⟩ := o
  dsimp only at h0 hl h1 h2 h3
  subst h0 hl h1 h2 h3
  exact takes_one V_tx.symm tkV h
theorem tPt {o : Ord} {us : List U} (h0 : o.over = false) (hl : o.late = false) (h4 : o.plain = false) (h1 : o.point = Str.ofString "") (h2 : o.lead = 0) (h3 : o.trail = 0) (h : Cuts [46] 1 us) :
    Takes o (prs us) { o with point := Str.ofString ".", seen := o.seen + 1, last := Str.ofString "." } := by
  obtain ⟨seen, plain, point, lead, trail, nines, zero, zeros, floats, behind, late, sign, money, last, over, ins⟩ := o
  dsimp only at h0 hl h1 h2 h3 h4
  subst h0 hl h1 h2 h3 h4
  exact takes_one po_tx.symm tkPt h
theorem tCo {o : Ord} {us : List U} (h0 : o.over = false) (hl : o.late = false) (h4 : o.plain = false) (h1 : o.point = Str.ofString "") (h2 : o.lead = 0) (h3 : o.trail = 0) (h : Cuts [44] 1 us) :
    Takes o (prs us) { o with ins := true, seen := o.seen + 1, last := Str.ofString "," } := by
  obtain ⟨seen, plain, point, lead, trail, nines, zero, zeros, floats, behind, late, sign, money, last, over, ins⟩ := o
  dsimp only at h0 hl h1 h2 h3 h4
  subst h0 hl h1 h2 h3 h4
  exact takes_one co_tx.symm tkCo h
theorem tE {o : Ord} {us : List U} {c : List Nat} {n z : Nat} (hc : c = [67, 82] ∨ c = [68, 66] ∨ c = [43] ∨ c = [45]) (h0 : o.over = false) (hl : o.late = false) (h4 : o.plain = false) (ht : o.trail = 0) (hd : o.lead = 0) (hn : o.nines = ((n + 1 : Nat) : Int)) (hz : o.zeros = (z : Int)) (hz6 : z ≤ 6) (hf : o.floats = 0 ∨ o.floats = 2) (h2 : o.sign = Str.ofString "") (h3 : 0 < o.seen) (h : Cuts c 1 us) :
    Takes o (prs us) { o with sign := tx c, over := true, seen := o.seen + 1, last := tx c } := by
  obtain ⟨seen, plain, point, lead, trail, nines, zero, zeros, floats, behind, late, sign, money, last, over, ins⟩ := o
  dsimp only at h0 hl h4 ht hd hn hz hf h2 h3
  obtain ⟨j, rfl⟩ := succ_of h3
  subst h0 hl h4 ht hd hn hz h2
  have hs : tx c = Str.ofString "CR" ∨ tx c = Str.ofString "DB" ∨ tx c = Str.ofString "+" ∨ tx c = Str.ofString "-" := by
    rcases hc with rfl | rfl | rfl | rfl
    · exact .inl cr_tx.symm
    · exact .inr (.inl db_tx.symm)
    · exact .inr (.inr (.inl pl_tx.symm))
    · exact .inr (.inr (.inr mi_tx.symm))
  exact takes_one rfl (tkE hs hz6 hf) h
theorem ne_co {s : String} (h : ("," == s) = false) : (Str.ofString "," == Str.ofString s) = false := by rw [ofs_beq]; exact h
theorem ne_po {s : String} (h : ("." == s) = false) : (Str.ofString "." == Str.ofString s) = false := by rw [ofs_beq]; exact h
noncomputable def Good (o : Ord) : Prop := 1 ≤ o.nines + o.zeros + o.floats ∧ o.nines + o.zeros + o.floats + o.lead + o.trail ≤ 18 ∧ o.nines + o.zeros + o.floats ≤ 18 ∧ (Str.ofString "," == o.last) = false ∧ (Str.ofString "." == o.last) = false
theorem num_takes {s : Bool} {a b : Nat} {w : RR} (ha1 : 1 ≤ a) (ha : a ≤ 9) (hb1 : 1 ≤ b) (hb : b ≤ 9) (hw : w = [([57], a)] ∨ w = [([57], a), ([86], 1), ([57], b)] ∨ w = [([86], 1), ([80], b), ([57], a)] ∨ w = [([57], a), ([80], b)])
    {us : List U} (h : Blocks ((if s then [([83], 1)] else []) ++ w) us) : ∃ o, Takes ord0 (prs us) o ∧ Good o := by
  obtain ⟨u0, u1, rfl, h0, h1⟩ := blocks_app h
  have hS : ∃ v x, 0 ≤ v ∧ Takes ord0 (prs u0) { ord0 with plain := s, seen := v, last := x } := by
    cases s with
    | false => rw [blocks_nil h0]; exact ⟨0, Str.ofString "", Int.le_refl 0, .nil _⟩
    | true => exact ⟨1, _, by first | lia | omega, tS (blocks_one h0)⟩
  obtain ⟨v, x, hv, hS⟩ := hS
  suffices q : ∃ o, Takes { ord0 with plain := s, seen := v, last := x } (prs u1) o ∧ Good o by
    obtain ⟨o, q1, q2⟩ := q
    exact ⟨o, by rw [prs_app]; exact takes_app hS q1, q2⟩
  clear hS h h0
  rcases hw with rfl | rfl | rfl | rfl
  · obtain ⟨b1, v1, hv1, q1⟩ := t9 (o := { ord0 with plain := s, seen := v, last := x }) rfl rfl rfl hv (.inl rfl) (blocks_one h1)
    refine ⟨_, q1, ?_⟩
    simp only [Good, ord0]
    exact ⟨by first | lia | omega, by first | lia | omega, by first | lia | omega, ne_co (by decide), ne_po (by decide)⟩
  · obtain ⟨ua, ub, rfl, k1, h1⟩ := blocks_cons h1
    obtain ⟨uc, ud, rfl, k2, h1⟩ := blocks_cons h1
    obtain ⟨b1, v1, hv1, q1⟩ := t9 (o := { ord0 with plain := s, seen := v, last := x }) rfl rfl rfl hv (.inl rfl) k1
    have q2 := tV (by rfl) (by rfl) (by rfl) (by rfl) (by rfl) k2 (o := { ord0 with plain := s, nines := ord0.nines + (a : Int), behind := b1, seen := v1, last := Str.ofString "9" })
    obtain ⟨b3, v3, hv3, q3⟩ := t9 (by rfl) (by rfl) (by rfl) (by show 0 ≤ v1 + 1; first | lia | omega) (.inr (.inl rfl)) (blocks_one h1) (o := { ord0 with plain := s, nines := ord0.nines + (a : Int), behind := b1, point := Str.ofString "V", seen := v1 + 1, last := Str.ofString "V" })
    refine ⟨_, by rw [prs_app, prs_app]; exact takes_app q1 (takes_app q2 q3), ?_⟩
    simp only [Good, ord0]
    exact ⟨by first | lia | omega, by first | lia | omega, by first | lia | omega, ne_co (by decide), ne_po (by decide)⟩
  · obtain ⟨ua, ub, rfl, k1, h1⟩ := blocks_cons h1
    obtain ⟨uc, ud, rfl, k2, h1⟩ := blocks_cons h1
    have q1 := tV (by rfl) (by rfl) (by rfl) (by rfl) (by rfl) k1 (o := { ord0 with plain := s, seen := v, last := x })
    obtain ⟨b2, v2, hv2, q2⟩ := tPb (by rfl) (by rfl) (by rfl) (by rfl) (by rfl) (by rfl) (by rfl) (by show 0 ≤ v + 1; first | lia | omega) k2 (o := { ord0 with plain := s, point := Str.ofString "V", seen := v + 1, last := Str.ofString "V" })
    obtain ⟨b3, v3, hv3, q3⟩ := t9 (by rfl) (by rfl) (by rfl) (by show 0 ≤ v2; first | lia | omega) (.inr (.inl rfl)) (blocks_one h1) (o := { ord0 with plain := s, point := Str.ofString "V", lead := ord0.lead + (b : Int), behind := b2, seen := v2, last := Str.ofString "P" })
    refine ⟨_, by rw [prs_app, prs_app]; exact takes_app q1 (takes_app q2 q3), ?_⟩
    simp only [Good, ord0]
    exact ⟨by first | lia | omega, by first | lia | omega, by first | lia | omega, ne_co (by decide), ne_po (by decide)⟩
  · obtain ⟨ua, ub, rfl, k1, h1⟩ := blocks_cons h1
    obtain ⟨b1, v1, hv1, q1⟩ := t9 (o := { ord0 with plain := s, seen := v, last := x }) rfl rfl rfl hv (.inl rfl) k1
    obtain ⟨b2, v2, hv2, q2⟩ := tPa (n := a) (by rfl) (by rfl) (by show 0 + (a : Int) = a; first | lia | omega) ha1 ha (by rfl) (by rfl) (by rfl) (by rfl) (by show 0 ≤ v1; first | lia | omega) (blocks_one h1) (o := { ord0 with plain := s, nines := ord0.nines + (a : Int), behind := b1, seen := v1, last := Str.ofString "9" })
    refine ⟨_, by rw [prs_app]; exact takes_app q1 q2, ?_⟩
    simp only [Good, ord0]
    exact ⟨by first | lia | omega, by first | lia | omega, by first | lia | omega, ne_co (by decide), ne_po (by decide)⟩
theorem sg_ok {c k : Nat} (hc : c ∈ SIG) (h1 : 1 ≤ k) (h2 : k ≤ 9) (ha : alone [c] = true → k = 1) : SgOk [c] k ∧ k ≤ 9 := ⟨⟨h1, by first | lia | omega, .inl ⟨c, hc, rfl, ha⟩⟩, h2⟩
theorem lawok_number {rr : RR} (h : NumR rr) : LawOk 0 rr := by
  obtain ⟨s, a, b, ha1, ha, hb1, hb, w, rfl, hw⟩ := h
  have e9 : ∀ {k : Nat}, 1 ≤ k → k ≤ 9 → SgOk [57] k ∧ k ≤ 9 := fun h1 h2 => sg_ok (by decide) h1 h2 (fun q => absurd q (by decide))
  have eP : ∀ {k : Nat}, 1 ≤ k → k ≤ 9 → SgOk [80] k ∧ k ≤ 9 := fun h1 h2 => sg_ok (by decide) h1 h2 (fun q => absurd q (by decide))
  have eV : SgOk [86] 1 ∧ 1 ≤ 9 := sg_ok (by decide) (by first | lia | omega) (by first | lia | omega) (fun _ => rfl)
  have eS : SgOk [83] 1 ∧ 1 ≤ 9 := sg_ok (by decide) (by first | lia | omega) (by first | lia | omega) (fun _ => rfl)
  refine lawok_num (by decide) ?_ ?_ ?_ ?_ ?_ fun us hb' => ?_
  · rcases hw with rfl | rfl | rfl | rfl <;> simp
  · intro p hp
    rcases List.mem_append.mp hp with hp | hp
    · cases s
      · simp at hp
      · simp at hp; subst hp; exact eS
    · rcases hw with rfl | rfl | rfl | rfl
      all_goals
        simp only [List.mem_cons, List.not_mem_nil, or_false] at hp
        first
          | (subst hp; exact e9 ha1 ha)
          | (rcases hp with rfl | rfl | rfl; exact e9 ha1 ha; exact eV; exact e9 hb1 hb)
          | (rcases hp with rfl | rfl | rfl; exact eV; exact eP hb1 hb; exact e9 ha1 ha)
          | (rcases hp with rfl | rfl; exact e9 ha1 ha; exact eP hb1 hb)
  · rcases hw with rfl | rfl | rfl | rfl <;> cases s <;> simp
  · rcases hw with rfl | rfl | rfl | rfl <;> cases s <;> rfl
  · have k : isAX (tx [83]) = false ∧ isAX (tx [57]) = false ∧ isAX (tx [86]) = false ∧ isAX (tx [80]) = false := by decide +kernel
    obtain ⟨k1, k2, k3, k4⟩ := k
    rcases hw with rfl | rfl | rfl | rfl <;> cases s <;> simp [k1, k2, k3, k4]
  · obtain ⟨o, h1, h2⟩ := num_takes ha1 ha hb1 hb hw hb'
    exact ⟨o, h1, h2⟩
end Og
end
section
set_option tactic.hygienic false
set_option maxHeartbeats 1000000
namespace Og
open PySem
/-- an Order on its way through an edited number -/
structure St (pt sg : PySem.Str) (z f n : Int) (o : Ord) : Prop where
  plain : o.plain = false
  over : o.over = false
  trail : o.trail = 0
  lead : o.lead = 0
  late : o.late = false
  point : o.point = pt
  sign : o.sign = sg
  zeros : o.zeros = z
  floats : o.floats = f
  nines : o.nines = n
  seen : 0 ≤ o.seen
noncomputable def sgn (k : Nat) : PySem.Str := match k with
  | 1 => tx [43]
  | 2 => tx [45]
  | 5 => tx [45]
  | _ => Str.ofString ""
noncomputable def flt (k : Nat) : Int := match k with
  | 4 => 2
  | 5 => 3
  | _ => 0
theorem flt_nn {k : Nat} (hk : k ≤ 5) : 0 ≤ flt k := by
  have : ∀ k, k ≤ 5 → 0 ≤ flt k := by decide
  exact this k hk
theorem ah_takes {k : Nat} (hk : k ≤ 5) {us : List U} (h : Blocks (ahR k) us) : ∃ o, Takes ord0 (prs us) o ∧ St (Str.ofString "") (sgn k) 0 (flt k) 0 o ∧ o.zero = Str.ofString "" := by
  have : k = 0 ∨ k = 1 ∨ k = 2 ∨ k = 3 ∨ k = 4 ∨ k = 5 := by first | exact Nat.le_trans (by assumption) (Nat.le_of_ble_eq_true rfl) | lia | omega
  rcases this with rfl | rfl | rfl | rfl | rfl | rfl
  · rw [blocks_nil h]
    exact ⟨ord0, .nil _, ⟨rfl, rfl, rfl, rfl, rfl, rfl, rfl, rfl, rfl, rfl, Int.le_refl 0⟩, rfl⟩
  · obtain ⟨b, v, hv, q⟩ := tM (o := ord0) (.inl rfl) rfl rfl rfl rfl rfl rfl rfl rfl rfl rfl (blocks_one h)
    exact ⟨_, q, ⟨rfl, rfl, rfl, rfl, rfl, rfl, rfl, rfl, rfl, rfl, by show 0 ≤ v; first | exact Nat.le_trans (by assumption) (Nat.le_of_ble_eq_true rfl) | lia | omega⟩, rfl⟩
  · obtain ⟨b, v, hv, q⟩ := tM (o := ord0) (.inr rfl) rfl rfl rfl rfl rfl rfl rfl rfl rfl rfl (blocks_one h)
    exact ⟨_, q, ⟨rfl, rfl, rfl, rfl, rfl, rfl, rfl, rfl, rfl, rfl, by show 0 ≤ v; first | exact Nat.le_trans (by assumption) (Nat.le_of_ble_eq_true rfl) | lia | omega⟩, rfl⟩
  · obtain ⟨b, v, hv, q⟩ := tD (o := ord0) rfl rfl rfl rfl rfl rfl rfl rfl rfl rfl (blocks_one h)
    exact ⟨_, q, ⟨rfl, rfl, rfl, rfl, rfl, rfl, rfl, rfl, rfl, rfl, by show 0 ≤ v; first | exact Nat.le_trans (by assumption) (Nat.le_of_ble_eq_true rfl) | lia | omega⟩, rfl⟩
  · obtain ⟨b, v, hv, q⟩ := tD (o := ord0) rfl rfl rfl rfl rfl rfl rfl rfl rfl rfl (blocks_one h)
    exact ⟨_, q, ⟨rfl, rfl, rfl, rfl, rfl, rfl, rfl, rfl, rfl, rfl, by show 0 ≤ v; first | exact Nat.le_trans (by assumption) (Nat.le_of_ble_eq_true rfl) | lia | omega⟩, rfl⟩
  · obtain ⟨b, v, hv, q⟩ := tM (o := ord0) (.inr rfl) rfl rfl rfl rfl rfl rfl rfl rfl rfl rfl (blocks_one h)
    exact ⟨_, q, ⟨rfl, rfl, rfl, rfl, rfl, rfl, rfl, rfl, rfl, rfl, by show 0 ≤ v; first | exact Nat.le_trans (by assumption) (Nat.le_of_ble_eq_true rfl) | lia | omega⟩, rfl⟩
theorem z_takes {k : Nat} (hk : k ≤ 5) {z : RR} (hz : ZR k z) {o : Ord} (S : St (Str.ofString "") (sgn k) 0 (flt k) 0 o) (h0 : o.zero = Str.ofString "") {us : List U} (h : Blocks z us) :
    ∃ (o' : Ord) (zn : Nat), Takes o (prs us) o' ∧ St (Str.ofString "") (sgn k) zn (flt k) 0 o' ∧ 1 ≤ (zn : Int) + flt k ∧ (zn : Int) + flt k ≤ 6 := by
  unfold ZR at hz
  split at hz
  · rename_i h4
    subst hz
    rw [blocks_nil h]
    have : k = 4 ∨ k = 5 := by first | exact Nat.le_trans (by assumption) (Nat.le_of_ble_eq_true rfl) | lia | omega
    rcases this with rfl | rfl
    · exact ⟨o, 0, .nil _, S, by decide, by decide⟩
    · exact ⟨o, 0, .nil _, S, by decide, by decide⟩
  · rename_i h4
    obtain ⟨c, n, hc, h1, h2, rfl⟩ := hz
    have hf : flt k = 0 := by
      have : k = 0 ∨ k = 1 ∨ k = 2 ∨ k = 3 := by first | exact Nat.le_trans (by assumption) (Nat.le_of_ble_eq_true rfl) | lia | omega
      rcases this with rfl | rfl | rfl | rfl <;> rfl
    have hsf := S.floats
    rw [hf] at hsf
    obtain ⟨b, v, hv, q⟩ := tZ hc S.over S.plain S.trail S.late S.nines hsf h0 S.point S.seen (blocks_one h)
    refine ⟨_, n, q, ⟨S.plain, S.over, S.trail, S.lead, S.late, S.point, S.sign, ?_, S.floats, S.nines, by show 0 ≤ v; first | exact Nat.le_trans (by assumption) (Nat.le_of_ble_eq_true rfl) | lia | omega⟩, by first | exact Nat.le_trans (by assumption) (Nat.le_of_ble_eq_true rfl) | lia | omega, by first | exact Nat.le_trans (by assumption) (Nat.le_of_ble_eq_true rfl) | lia | omega⟩
    show o.zeros + (n : Int) = n
    rw [S.zeros]; first | exact Nat.le_trans (by assumption) (Nat.le_of_ble_eq_true rfl) | lia | omega
theorem c_takes {c : RR} (hc : CR' c) {sg : PySem.Str} {z f n : Int} {o : Ord} (S : St (Str.ofString "") sg z f n o) {us : List U} (h : Blocks c us) : ∃ o', Takes o (prs us) o' ∧ St (Str.ofString "") sg z f n o' := by
  rcases hc with rfl | rfl
  · rw [blocks_nil h]; exact ⟨o, .nil _, S⟩
  · exact ⟨_, tCo S.over S.late S.plain S.point S.lead S.trail (blocks_one h), ⟨S.plain, S.over, S.trail, S.lead, S.late, S.point, S.sign, S.zeros, S.floats, S.nines, by have := S.seen; show 0 ≤ o.seen + 1; first | exact Nat.le_trans (by assumption) (Nat.le_of_ble_eq_true rfl) | lia | omega⟩⟩
theorem n_takes {pt sg : PySem.Str} {z f n : Int} {k : Nat} {o : Ord} (S : St pt sg z f n o) (hpt : pt = Str.ofString "" ∨ pt = Str.ofString "V" ∨ pt = Str.ofString ".") {us : List U} (h : Blocks [([57], k)] us) : ∃ o', Takes o (prs us) o' ∧ St pt sg z f (n + k) o' ∧ o'.last = Str.ofString "9" ∧ 0 < o'.seen := by
  obtain ⟨b, v, hv, q⟩ := t9 S.over S.trail S.late S.seen (by rw [S.point]; exact hpt) (blocks_one h)
  refine ⟨_, q, ⟨S.plain, S.over, S.trail, S.lead, S.late, S.point, S.sign, S.zeros, S.floats, ?_, by show 0 ≤ v; first | exact Nat.le_trans (by assumption) (Nat.le_of_ble_eq_true rfl) | lia | omega⟩, rfl, hv⟩
  show o.nines + (k : Int) = n + k
  rw [S.nines]
theorem p_takes {p : RR} (hp : PR' p) {sg : PySem.Str} {z f n : Int} {o : Ord} (S : St (Str.ofString "") sg z f n o) (hl : o.last = Str.ofString "9") (hs : 0 < o.seen) {us : List U} (h : Blocks p us) :
    ∃ o' pt n', Takes o (prs us) o' ∧ St pt sg z f n' o' ∧ o'.last = Str.ofString "9" ∧ 0 < o'.seen ∧ n ≤ n' ∧ n' ≤ n + 2 := by
  rcases hp with rfl | rfl
  · rw [blocks_nil h]; exact ⟨o, _, n, .nil _, S, hl, hs, by first | exact Nat.le_trans (by assumption) (Nat.le_of_ble_eq_true rfl) | lia | omega, by first | exact Nat.le_trans (by assumption) (Nat.le_of_ble_eq_true rfl) | lia | omega⟩
  · obtain ⟨a, b, rfl, k1, h2⟩ := blocks_cons h
    have q1 := tPt S.over S.late S.plain S.point S.lead S.trail k1
    have S2 : St (Str.ofString ".") sg z f n { o with point := Str.ofString ".", seen := o.seen + 1, last := Str.ofString "." } := ⟨S.plain, S.over, S.trail, S.lead, S.late, rfl, S.sign, S.zeros, S.floats, S.nines, by show 0 ≤ o.seen + 1; first | exact Nat.le_trans (by assumption) (Nat.le_of_ble_eq_true rfl) | lia | omega⟩
    obtain ⟨o', q2, S3, hl3, hs3⟩ := n_takes S2 (.inr (.inr rfl)) h2
    exact ⟨o', _, _, by rw [prs_app]; exact takes_app q1 q2, S3, hl3, hs3, by first | exact Nat.le_trans (by assumption) (Nat.le_of_ble_eq_true rfl) | lia | omega, by first | exact Nat.le_trans (by assumption) (Nat.le_of_ble_eq_true rfl) | lia | omega⟩
theorem t_takes {k : Nat} {t : RR} (ht : TR' k t) {pt : PySem.Str} {z : Nat} {n : Int} {o : Ord} (S : St pt (sgn k) z (flt k) n o) (hl : o.last = Str.ofString "9") (hs : 0 < o.seen) (hn : 1 ≤ n) (hz6 : (z : Int) + flt k ≤ 6) (hf0 : 0 ≤ flt k) (h2 : n + z + flt k ≤ 18) {us : List U} (h : Blocks t us) :
    ∃ o', Takes o (prs us) o' ∧ Good o' := by
  have hg : o.nines + o.zeros + o.floats = n + z + flt k := by rw [S.nines, S.zeros, S.floats]
  rcases ht with rfl | ⟨hk, c, hc, rfl⟩
  · rw [blocks_nil h]
    refine ⟨o, .nil _, by first | exact Nat.le_trans (by assumption) (Nat.le_of_ble_eq_true rfl) | lia | omega, ?_, by first | exact Nat.le_trans (by assumption) (Nat.le_of_ble_eq_true rfl) | lia | omega, ?_, ?_⟩
    · rw [S.lead, S.trail]; first | exact Nat.le_trans (by assumption) (Nat.le_of_ble_eq_true rfl) | lia | omega
    · rw [hl]; exact ne_co (by decide)
    · rw [hl]; exact ne_po (by decide)
  · have hsg : o.sign = Str.ofString "" := by rw [S.sign]; rcases hk with rfl | rfl | rfl <;> rfl
    obtain ⟨m, rfl⟩ := succ_of (show 0 < n by first | exact Nat.le_trans (by assumption) (Nat.le_of_ble_eq_true rfl) | lia | omega)
    have hf : flt k = 0 ∨ flt k = 2 := by rcases hk with rfl | rfl | rfl; exact .inl rfl; exact .inl rfl; exact .inr rfl
    refine ⟨_, tE hc S.over S.late S.plain S.trail S.lead S.nines S.zeros (by first | exact Nat.le_trans (by assumption) (Nat.le_of_ble_eq_true rfl) | lia | omega) (by rw [S.floats]; exact hf) hsg hs (blocks_one h), ?_, ?_, ?_, ?_, ?_⟩
    · show 1 ≤ o.nines + o.zeros + o.floats; first | exact Nat.le_trans (by assumption) (Nat.le_of_ble_eq_true rfl) | lia | omega
    · show o.nines + o.zeros + o.floats + o.lead + o.trail ≤ 18
      rw [S.lead, S.trail]; first | exact Nat.le_trans (by assumption) (Nat.le_of_ble_eq_true rfl) | lia | omega
    · show o.nines + o.zeros + o.floats ≤ 18; first | exact Nat.le_trans (by assumption) (Nat.le_of_ble_eq_true rfl) | lia | omega
    · show (Str.ofString "," == tx c) = false
      rw [co_tx, tx_beq]
      rcases hc with rfl | rfl | rfl | rfl <;> decide
    · show (Str.ofString "." == tx c) = false
      rw [po_tx, tx_beq]
      rcases hc with rfl | rfl | rfl | rfl <;> decide
noncomputable def dsg : List (List Nat) → Bool
  | p :: q :: r => p != q && dsg (q :: r)
  | _ => true
theorem diffs_dsg : ∀ rr : RR, diffs rr = dsg (rr.map (·.1))
  | [] => rfl
  | [_] => rfl
  | p :: q :: r => by
    show (p.1 != q.1 && diffs (q :: r)) = (p.1 != q.1 && dsg ((q :: r).map (·.1)))
    rw [diffs_dsg (q :: r)]
noncomputable def sgFit (l : List (List Nat)) : Bool := dsg l && !l.any fun s => isAX (tx s)
theorem fit_all : ∀ a ∈ ([[], [[43]], [[45]], [[36]]] : List (List (List Nat))), ∀ z ∈ ([[], [[90]], [[42]]] : List (List (List Nat))), ∀ c ∈ ([[], [[44]]] : List (List (List Nat))), ∀ p ∈ ([[], [[46], [57]]] : List (List (List Nat))), ∀ t ∈ ([[], [[67, 82]], [[68, 66]], [[43]], [[45]]] : List (List (List Nat))), sgFit (a ++ z ++ c ++ [[57]] ++ p ++ t) = true := by decide +kernel
theorem fit_ok {rr : RR} (h : sgFit (rr.map (·.1)) = true) : diffs rr = true ∧ (rr.any fun p => isAX (tx p.1)) = false := by
  have h := Bool.and_eq_true_iff.mp h
  refine ⟨by rw [diffs_dsg]; exact h.1, ?_⟩
  have h2 := h.2
  rw [List.any_map] at h2
  simpa using h2
theorem lawok_edit {rr : RR} (h : EditR rr) : LawOk 2 rr := by
  obtain ⟨k, z, c, n, p, t, hk, hz, hc, hn1, hn, hp, ht, rfl⟩ := h
  have e1 : ∀ {x k : Nat}, x ∈ SIG → alone [x] = false → 1 ≤ k → k ≤ 9 → SgOk [x] k ∧ k ≤ 9 := fun hx ha h1 h2 => sg_ok hx h1 h2 (fun q => by rw [ha] at q; cases q)
  have hz' : z = [] ∨ ∃ c n, (c = [90] ∨ c = [42]) ∧ 1 ≤ n ∧ n ≤ 6 ∧ z = [(c, n)] := by
    unfold ZR at hz
    split at hz
    · exact .inl hz
    · exact .inr hz
  have ht' : t = [] ∨ ∃ c, (c = [67, 82] ∨ c = [68, 66] ∨ c = [43] ∨ c = [45]) ∧ t = [(c, 1)] := by
    rcases ht with h | ⟨-, h⟩
    · exact .inl h
    · exact .inr h
  have hkk : k = 0 ∨ k = 1 ∨ k = 2 ∨ k = 3 ∨ k = 4 ∨ k = 5 := by first | exact Nat.le_trans (by assumption) (Nat.le_of_ble_eq_true rfl) | lia | omega
  have fit := fit_ok (rr := ahR k ++ z ++ c ++ [([57], n)] ++ p ++ t) (by
    simp only [List.map_append]
    refine fit_all _ ?_ _ ?_ _ ?_ _ ?_ _ ?_
    · rcases hkk with rfl | rfl | rfl | rfl | rfl | rfl <;> decide
    · rcases hz' with rfl | ⟨x, m, rfl | rfl, -, -, rfl⟩ <;> simp
    · rcases hc with rfl | rfl <;> decide
    · rcases hp with rfl | rfl <;> decide
    · rcases ht' with rfl | ⟨y, rfl | rfl | rfl | rfl, rfl⟩ <;> simp)
  refine lawok_num (by decide) ?_ ?_ ?_ fit.1 fit.2 fun us hb' => ?_
  · simp
  · intro q hq
    simp only [List.mem_append] at hq
    rcases hq with ((((hq | hq) | hq) | hq) | hq) | hq
    · rcases hkk with rfl | rfl | rfl | rfl | rfl | rfl <;> simp [ahR] at hq <;> subst hq <;> exact e1 (by decide) (by decide) (by first | exact Nat.le_trans (by assumption) (Nat.le_of_ble_eq_true rfl) | lia | omega) (by first | exact Nat.le_trans (by assumption) (Nat.le_of_ble_eq_true rfl) | lia | omega)
    · rcases hz' with rfl | ⟨x, m, hx, h1, h2, rfl⟩
      · simp at hq
      · simp at hq; subst hq
        rcases hx with rfl | rfl <;> exact e1 (by decide) (by decide) h1 (by first | exact Nat.le_trans (by assumption) (Nat.le_of_ble_eq_true rfl) | lia | omega)
    · rcases hc with rfl | rfl
      · simp at hq
      · simp at hq; subst hq; exact e1 (by decide) (by decide) (by first | exact Nat.le_trans (by assumption) (Nat.le_of_ble_eq_true rfl) | lia | omega) (by first | exact Nat.le_trans (by assumption) (Nat.le_of_ble_eq_true rfl) | lia | omega)
    · simp at hq; subst hq; exact e1 (by decide) (by decide) hn1 (by first | exact Nat.le_trans (by assumption) (Nat.le_of_ble_eq_true rfl) | lia | omega)
    · rcases hp with rfl | rfl
      · simp at hq
      · simp only [List.mem_cons, List.not_mem_nil, or_false] at hq
        rcases hq with rfl | rfl
        · exact sg_ok (by decide) (by first | exact Nat.le_trans (by assumption) (Nat.le_of_ble_eq_true rfl) | lia | omega) (by first | exact Nat.le_trans (by assumption) (Nat.le_of_ble_eq_true rfl) | lia | omega) (fun _ => rfl)
        · exact e1 (by decide) (by decide) (by first | exact Nat.le_trans (by assumption) (Nat.le_of_ble_eq_true rfl) | lia | omega) (by first | exact Nat.le_trans (by assumption) (Nat.le_of_ble_eq_true rfl) | lia | omega)
    · rcases ht' with rfl | ⟨x, hx, rfl⟩
      · simp at hq
      · simp at hq; subst hq
        rcases hx with rfl | rfl | rfl | rfl
        · exact ⟨⟨by first | exact Nat.le_trans (by assumption) (Nat.le_of_ble_eq_true rfl) | lia | omega, by first | exact Nat.le_trans (by assumption) (Nat.le_of_ble_eq_true rfl) | lia | omega, .inr ⟨.inl rfl, rfl⟩⟩, by first | exact Nat.le_trans (by assumption) (Nat.le_of_ble_eq_true rfl) | lia | omega⟩
        · exact ⟨⟨by first | exact Nat.le_trans (by assumption) (Nat.le_of_ble_eq_true rfl) | lia | omega, by first | exact Nat.le_trans (by assumption) (Nat.le_of_ble_eq_true rfl) | lia | omega, .inr ⟨.inr rfl, rfl⟩⟩, by first | exact Nat.le_trans (by assumption) (Nat.le_of_ble_eq_true rfl) | lia | omega⟩
        · exact e1 (by decide) (by decide) (by first | exact Nat.le_trans (by assumption) (Nat.le_of_ble_eq_true rfl) | lia | omega) (by first | exact Nat.le_trans (by assumption) (Nat.le_of_ble_eq_true rfl) | lia | omega)
        · exact e1 (by decide) (by decide) (by first | exact Nat.le_trans (by assumption) (Nat.le_of_ble_eq_true rfl) | lia | omega) (by first | exact Nat.le_trans (by assumption) (Nat.le_of_ble_eq_true rfl) | lia | omega)
  · have l1 : (ahR k).length ≤ 1 := by rcases hkk with rfl | rfl | rfl | rfl | rfl | rfl <;> decide
    have l2 : z.length ≤ 1 := by rcases hz' with rfl | ⟨x, m, -, -, -, rfl⟩ <;> simp
    have l3 : c.length ≤ 1 := by rcases hc with rfl | rfl <;> simp
    have l4 : p.length ≤ 2 := by rcases hp with rfl | rfl <;> simp
    have l5 : t.length ≤ 1 := by rcases ht' with rfl | ⟨x, -, rfl⟩ <;> simp
    simp only [List.length_append, List.length_singleton]; first | exact Nat.le_trans (by assumption) (Nat.le_of_ble_eq_true rfl) | lia | omega
  · obtain ⟨u5, u6, rfl, hb', b6⟩ := blocks_app hb'
    obtain ⟨u4, u5, rfl, hb', b5⟩ := blocks_app hb'
    obtain ⟨u3, u4, rfl, hb', b4⟩ := blocks_app hb'
    obtain ⟨u2, u3, rfl, hb', b3⟩ := blocks_app hb'
    obtain ⟨u1, u2, rfl, b1, b2⟩ := blocks_app hb'
    obtain ⟨o1, q1, S1, z1⟩ := ah_takes hk b1
    obtain ⟨o2, zn, q2, S2, zn1, zn2⟩ := z_takes hk hz S1 z1 b2
    obtain ⟨o3, q3, S3⟩ := c_takes hc S2 b3
    obtain ⟨o4, q4, S4, l4, s4⟩ := n_takes S3 (.inl rfl) b4
    obtain ⟨o5, pt, n', q5, S5, l5, s5, m1, m2⟩ := p_takes hp S4 l4 s4 b5
    obtain ⟨o6, q6, g⟩ := t_takes ht S5 l5 s5 (by first | exact Nat.le_trans (by assumption) (Nat.le_of_ble_eq_true rfl) | lia | omega) zn2 (flt_nn hk) (by first | exact Nat.le_trans (by assumption) (Nat.le_of_ble_eq_true rfl) | lia | omega) b6
    refine ⟨o6, ?_, g⟩
    simp only [prs_app]
    exact takes_app (takes_app (takes_app (takes_app (takes_app q1 q2) q3) q4) q5) q6
end Og
end
section
set_option maxHeartbeats 8000000
open PySem PySem.W PyProof.Rows
namespace Og
theorem said0 : PySem.Challenge.rw_og0094_01.wellSaid = true := by
  have h : PySem.W.Fast.tw9446332074065402090 PySem.Challenge.rw_og0094_01 = true := by kernel_rfl
  rw [← PySem.W.Fast.te9446332074065402090] at h
  exact h
theorem law_true (script : List Int) (hs : script.length ≤ 63) : ∃ vx sx, exs T (callF T 12) lawF.body lawF.scope 0 [("script", .lst (script.map .int))] [] = some (.ret (.bool true), vx, sx) := by
  obtain ⟨f, v, s, h, rfl⟩ := law_run (n := 12) rfl (fun _ h => lawok_number h) (fun _ h => lawok_text h) (fun _ h => lawok_edit h) script (by first | lia | omega)
  exact ⟨v, s, h⟩
theorem cell_names : (lawF.scope.names.all fun p => p.2 != .cell || p.1 == Str.ofString "bag") = true := by decide +kernel
theorem cell_bag (x : Str) (h : lawF.scope.names.lookup x = some .cell) : x = Str.ofString "bag" := by
  have := List.all_eq_true.mp cell_names _ (lookup_mem' h)
  simpa using this
end Og
theorem PySem.Challenge.cw_og0094_01_holds : PySem.Challenge.rw_og0094_01.Holds := by
  refine holds_law Og.said0 fun said => ?_
  refine holds_open (q := Og.qv) (loose := Og.loose0) (Xt := Og.xt) (XP := XL Og.qv []) (Yf := Og.hook0.obs) (Ya := Og.hook0.val) (YP := Og.hook0.says) (N := 5014) Og.left0 Og.hook0.of Og.hook0.keeps (fun s e => xl_of s (Bool.and_eq_true_iff.mp e).1) XL.keeps (by rfl) (by rfl) (by rfl) (fun s e => recFacts_of (Bool.and_eq_true_iff.mp e).2) (by rfl) said (by decide +kernel) ⟨rfl, rfl, rfl, rfl, rfl, by decide +kernel⟩ ?hw ?hc
  case hw => w_witness2
  case hc =>
    intro w s₀ s₁ mg mb G Y fa o pm cd doc dV kV ho hd hcd hD hmg hg args vals as hpre hlay hrd hwl hlo
    obtain ⟨K, KX, hK⟩ := Y
    generalize Og.qv = q0 at *
    k_behind G ho hd hcd hD hmg hpre hlay hrd hwl hlo cd
    rename_i X V T B TD TE TW w10 w9 M ns hs hlay0 hLay hr1 hl2 w5 w4 ls vs w1 hL ra well r0 hI hr hlen htr K0 h1 tk1 F oc right N0 X0
    obtain ⟨vx, sx, run⟩ := Og.law_true ns (by first | lia | omega)
    refine wpAny_mono (Og.law_join (script := ns) (vs := vs) (ls := ls) KX hK T F N0 right hL hI ?_ ?_ ?_ ?_ run) ?_ ?_
    · rfl
    · rfl
    · rfl
    · intro x hx
      have e := Og.cell_bag x hx
      subst e
      rfl
    · rintro f s' ⟨rfl, ⟨h', tk', rfl⟩, hkeep⟩
      refine ⟨.inl ⟨.bool true, .bool true, [], rfl, fun _ => rfl, ?_, ?_, fun _ => ⟨List.nodup_nil, fun a ha => absurd ha (by simp)⟩⟩, hkeep, rfl, hg⟩
      · exact ReadsW.bool _
      · wrow_post
    · exact fun _ _ h => h.elim
end
