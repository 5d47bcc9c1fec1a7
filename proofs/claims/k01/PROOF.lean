import PyProof.Rows.All
import Wide.All
import OpenK.AllK
import Wide.FinOn
import HandS.ForMost
import KE.LtData
import HandS.ForExc
import HandS.Walk
import HandS.TupAny
import HandS.Flow
import HandS.IsInst
import HandS.TupLe
import HandS.Conv
import HandS.Wide
import KE.DataEq
import HandS.ExcOwn
import HandS.WordsExc
import HandS.Ends
import PyProof.Rows.StrJoinMade
import PyProof.FitsReplace
import PySem.Challenge.RW_goneunseen_k01_names_integers_terms_rows
set_option Elab.async false
set_option autoImplicit false
set_option linter.all false
set_option maxRecDepth 100000

/-! Mp: a small evaluator over data trees. -/
namespace Mp
open PySem (Str PyData)

/-! data -/
/-- persistent data; `ref n` names the n-th shared cell; `scr` is the law's own argument -/
inductive D where
  | non | bl (b : Bool) | int (i : Int) | str (s : Str)
  | tup (xs : List D) | lst (xs : List D) | dct (ks vs : List D)
  | ins (c : Nat) (ns : List Nat) (vs : List D) | cls (c : Nat) | ty (n : String) | fn (f : Nat) | clo (i : Nat) (xs : List D)
  | ref (n : Nat) | scr (xs : List D)
deriving Inhabited

/-- a temporary: data, or a list that this frame alone holds -/
inductive Val where
  | d (x : D) | own (j : Nat)
deriving Inhabited

inductive Cell where
  | lst (xs : List D) | dct (ks vs : List D) | ins (c : Nat) (ns : List Nat) (vs : List D) | dead
deriving Inhabited

structure S where
  env : List (Option Val)
  fs : List Cell
  gs : List Cell

structure Ex where
  c : Nat
  ns : List Nat
  vs : List D

inductive R (α : Type) where
  | ok (a : α) (s : S) | ex (e : Ex) (s : S) | bad
inductive RG where
  | ok (d : D) (gs : List Cell) | ex (e : Ex) (gs : List Cell) | bad

/-- as bind, but nothing may be raised -/
@[simp] def R.bindN {α β : Type} (r : R α) (f : α → S → R β) : R β :=
  match r with
  | .ok a s => f a s
  | _ => .bad
@[simp] def R.bind {α β : Type} (r : R α) (f : α → S → R β) : R β :=
  match r with
  | .ok a s => f a s
  | .ex e s => .ex e s
  | .bad => .bad

mutual
def D.same : D → D → Bool
  | .non, .non => true
  | .bl a, .bl b => a == b
  | .int a, .int b => decide (a = b)
  | .str a, .str b => decide (a = b)
  | .tup a, .tup b => D.sames a b
  | _, _ => false
def D.sames : List D → List D → Bool
  | [], [] => true
  | x :: xs, y :: ys => D.same x y && D.sames xs ys
  | _, _ => false
end
mutual
theorem D.same_eq : ∀ (a b : D), D.same a b = true → a = b
  | .non, .non, _ => rfl
  | .bl a, .bl b, h => by simp only [D.same, beq_iff_eq] at h; rw [h]
  | .int a, .int b, h => by simp only [D.same, decide_eq_true_eq] at h; rw [h]
  | .str a, .str b, h => by simp only [D.same, decide_eq_true_eq] at h; rw [h]
  | .tup a, .tup b, h => by simp only [D.same] at h; rw [D.sames_eq a b h]
theorem D.sames_eq : ∀ (a b : List D), D.sames a b = true → a = b
  | [], [], _ => rfl
  | x :: xs, y :: ys, h => by
    simp only [D.sames, Bool.and_eq_true] at h
    rw [D.same_eq x y h.1, D.sames_eq xs ys h.2]
end
/-! ### data as the library's data -/
mutual
def D.py : D → Option PyData
  | .non => some .none
  | .bl b => some (.bool b)
  | .int i => some (.int i)
  | .str x => some (.str x)
  | .tup xs => (D.pys xs).map .tuple
  | .lst xs => (D.pys xs).map .list
  | .scr xs => (D.pys xs).map .list
  | _ => none
def D.pys : List D → Option (List PyData)
  | [] => some []
  | x :: xs => match x.py, D.pys xs with
    | some a, some l => some (a :: l)
    | _, _ => none
end

/-- the items of a list or tuple (true: a list) -/
def seqv (v : Val) (s : S) : Option (Bool × List D) :=
  match v with
  | .d (.lst xs) => some (true, xs)
  | .d (.tup xs) => some (false, xs)
  | .d (.scr xs) => some (true, xs)
  | .own j => match s.fs[j]? with
    | some (.lst xs) => some (true, xs)
    | _ => none
  | .d (.ref n) => match s.gs[n]? with
    | some (.lst xs) => some (true, xs)
    | _ => none
  | _ => none

/-- the items of a list that is not the law's argument -/
def lsto (v : Val) (s : S) : Option (List D) :=
  match v with
  | .d (.lst xs) => some xs
  | .own j => match s.fs[j]? with
    | some (.lst xs) => some xs
    | _ => none
  | .d (.ref n) => match s.gs[n]? with
    | some (.lst xs) => some xs
    | _ => none
  | _ => none

def Val.py (v : Val) (s : S) : Option PyData :=
  match v with
  | .d (.ref n) => match s.gs[n]? with
    | some (.lst xs) => (D.pys xs).map .list
    | _ => none
  | .own j => match s.fs[j]? with
    | some (.lst xs) => (D.pys xs).map .list
    | _ => none
  | .d x => x.py

inductive Bo where
  | add | sub | mul | fdiv | mod | pow
deriving DecidableEq
inductive Co where
  | eq | ne | lt | le | gt | ge | is | isnot | in_ | notin
deriving DecidableEq
inductive Tg where
  | str | int | bool | tup | lst | dct | own (c : Nat)
deriving DecidableEq
/-- built-in functions, methods -/
inductive Bf where
  | len | int | abs | max | min | str | tuple | all | any | sum | bool
deriving DecidableEq
inductive Bm where
  | join | append | pop
deriving DecidableEq

def LINE : Nat := 1000000
/-- numbers that may be multiplied, divided by -/
def BIG : Nat := 2 ^ 9000
def okI (i : Int) : Bool := decide (i.natAbs < BIG)


/-! ### operators -/
def binop (op : Bo) (x y : Val) (s : S) : R Val :=
  match op, x, y with
  | .add, .d (.int i), .d (.int j) => .ok (.d (.int (i + j))) s
  | .sub, .d (.int i), .d (.int j) => .ok (.d (.int (i - j))) s
  | .mul, .d (.int i), .d (.int j) => if okI i && okI j then .ok (.d (.int (i * j))) s else .bad
  | .fdiv, .d (.int i), .d (.int j) => if decide (0 < j) && okI j then .ok (.d (.int (i / j))) s else .bad
  | .mod, .d (.int i), .d (.int j) => if decide (0 < j) then .ok (.d (.int (i % j))) s else .bad
  | .pow, .d (.int i), .d (.int j) => if decide (0 ≤ j) && decide (j ≤ 1000) && okI i then .ok (.d (.int (i ^ j.toNat))) s else .bad
  | .add, .d (.str a), .d (.str b) => if a.length + b.length ≤ LINE then .ok (.d (.str (a ++ b))) s else .bad
  | .add, .d (.tup xs), .d (.tup ys) => if xs.length + ys.length ≤ LINE then .ok (.d (.tup (xs ++ ys))) s else .bad
  | .add, x, y => match lsto x s, lsto y s with
    | some xs, some ys => if xs.length + ys.length ≤ LINE then .ok (.d (.lst (xs ++ ys))) s else .bad
    | _, _ => .bad
  | _, _, _ => .bad

def eqVal (x y : Val) (s : S) : Option Bool :=
  match x.py s, y.py s with
  | some a, some b => if min a.depth b.depth ≤ 100 then some (PyData.eqv a b) else none
  | _, _ => match seqv x s, seqv y s with
    | some (true, xs), some (true, ys) => if xs.length = ys.length then none else some false
    | _, _ => none

def inSeq (a : PyData) : List PyData → Bool := fun l => l.any fun y => PyData.eqv y a
def inVal (x y : Val) (s : S) : Option Bool :=
  match x, y with
  | .d (.str a), .d (.str b) => if a.length = 1 then (a.cps[0]?).map fun c => decide (c ∈ b.cps.toList) else none
  | x, y => match x.py s, seqv y s with
    | some a, some (_, ys) => match D.pys ys with
      | some l => if a.depth ≤ 100 then some (inSeq a l) else none
      | none => none
    | _, _ => none

def isVal (x y : Val) : Option Bool :=
  match x, y with
  | .d .non, .d .non => some true
  | .d (.bl a), .d (.bl b) => some (a == b)
  | .d (.bl _), .d .non => some false
  | .d (.int _), .d .non => some false
  | .d (.str _), .d .non => some false
  | .d (.tup _), .d .non => some false
  | .d (.lst _), .d .non => some false
  | .d (.dct _ _), .d .non => some false
  | .d (.ins _ _ _), .d .non => some false
  | .d (.ref _), .d .non => some false
  | .own _, .d .non => some false
  | _, _ => none

def ordI (op : Co) (i j : Int) : Option Bool :=
  match op with
  | .lt => some (decide (i < j))
  | .le => some (decide (i ≤ j))
  | .gt => some (decide (j < i))
  | .ge => some (decide (j ≤ i))
  | _ => none

def cmpop (op : Co) (x y : Val) (s : S) : Option Bool :=
  match op with
  | .eq => eqVal x y s
  | .ne => (eqVal x y s).map (!·)
  | .is => isVal x y
  | .isnot => (isVal x y).map (!·)
  | .in_ => inVal x y s
  | .notin => (inVal x y s).map (!·)
  | op => match x, y with
    | .d (.int i), .d (.int j) => ordI op i j
    | _, _ => none

def truth (v : Val) (s : S) : Option Bool :=
  match v with
  | .d .non => some false
  | .d (.bl b) => some b
  | .d (.int i) => some (i != 0)
  | .d (.str x) => if x.length ≤ LINE then some (x.length != 0) else none
  | v => (seqv v s).map fun p => !p.2.isEmpty

def optR {α : Type} (o : Option α) (s : S) : R α :=
  match o with
  | some a => .ok a s
  | none => .bad

/-- an index of any sign -/
def atI {α : Type} (xs : List α) (i : Int) : Option α :=
  if 0 ≤ i then xs[i.toNat]? else if i + xs.length < 0 then none else xs[(i + xs.length).toNat]?

def subVal (x i : Val) (s : S) : Option Val :=
  match x, i with
  | .d (.str a), .d (.int k) => if a.length ≤ LINE then (atI a.cps.toList k).map fun c => .d (.str ⟨#[c]⟩) else none
  | x, .d (.int k) => match seqv x s with
    | some (_, xs) => (atI xs k).map .d
    | none => none
  | _, _ => none

def isTag (v : Val) (s : S) (t : Tg) : Option Bool :=
  match v with
  | .own j => match s.fs[j]? with
    | some (.lst _) => some (t == .lst)
    | _ => none
  | .d (.ref n) => match s.gs[n]? with
    | some (.lst _) => some (t == .lst)
    | _ => none
  | .d .non => some false
  | .d (.bl _) => some (t == .bool || t == .int)
  | .d (.int _) => some (t == .int)
  | .d (.str _) => some (t == .str)
  | .d (.tup _) => some (t == .tup)
  | .d (.lst _) => some (t == .lst)
  | .d (.scr _) => some (t == .lst)
  | .d (.dct _ _) => some (t == .dct)
  | _ => none

/-! ### built-ins -/
def allB : List D → Option (List Bool)
  | [] => some []
  | .bl b :: r => (allB r).map (b :: ·)
  | _ => none
def allS : List D → Option (List Str)
  | [] => some []
  | .str x :: r => (allS r).map (x :: ·)
  | _ => none
def toDs : List Val → Option (List D)
  | [] => some []
  | .d x :: r => (toDs r).map (x :: ·)
  | _ => none

/-- the keys of a plain dict as data -/
def keyD : L2.Key → D
  | .inl i => .int i
  | .inr x => .str x
/-- key, value, key, value .. -/
def pairsK : List D → Option (List (L2.Key × D))
  | [] => some []
  | .int i :: v :: r => (pairsK r).map ((.inl i, v) :: ·)
  | .str x :: v :: r => (pairsK r).map ((.inr x, v) :: ·)
  | _ => none
def nodupK (l : List L2.Key) : Bool := decide l.Nodup

def bfn (b : Bf) (vs : List Val) (s : S) : R Val :=
  match b, vs with
  | .len, [.d (.str x)] => if x.length ≤ LINE then .ok (.d (.int x.length)) s else .bad
  | .len, [v] => match seqv v s with
    | some (_, xs) => .ok (.d (.int xs.length)) s
    | none => .bad
  | .int, [.d (.int i)] => .ok (.d (.int i)) s
  | .int, [.d (.bl b)] => .ok (.d (.int (if b then 1 else 0))) s
  | .abs, [.d (.int i)] => .ok (.d (.int (if i < 0 then -i else i))) s
  | .max, [.d (.int i), .d (.int j)] => .ok (.d (.int (if j > i then j else i))) s
  | .min, [.d (.int i), .d (.int j)] => .ok (.d (.int (if j < i then j else i))) s
  | .str, [.d (.int i)] => if i.natAbs.log2 < 1900 then .ok (.d (.str (Str.ofString (toString i)))) s else .bad
  | .tuple, [.d (.tup xs)] => .ok (.d (.tup xs)) s
  | .tuple, [v] => match seqv v s with
    | some (_, xs) => .ok (.d (.tup xs)) s
    | none => .bad
  | .all, [v] => match seqv v s with
    | some (true, xs) => match allB xs with
      | some bs => .ok (.d (.bl (bs.all id))) s
      | none => .bad
    | _ => .bad
  | .any, [v] => match seqv v s with
    | some (true, xs) => match allB xs with
      | some bs => .ok (.d (.bl (bs.any id))) s
      | none => .bad
    | _ => .bad
  | _, _ => .bad

def bmth (m : Bm) (x : Val) (vs : List Val) (s : S) : R Val :=
  match m, x, vs with
  | .join, .d (.str sep), [v] => match seqv v s with
    | some (true, xs) => match allS xs with
      | some ss => if (ss.map (·.length)).sum + ss.length * sep.length ≤ LINE then .ok (.d (.str (PySem.Builtin.Str.glued sep ss))) s else .bad
      | none => .bad
    | _ => .bad
  | .append, .own j, [.d d] => match s.fs[j]? with
    | some (.lst xs) => if xs.length < LINE then .ok (.d .non) { s with fs := s.fs.set j (.lst (xs ++ [d])) } else .bad
    | _ => .bad
  | .append, .d (.ref n), [.d d] => match s.gs[n]? with
    | some (.lst xs) => if xs.length < LINE then .ok (.d .non) { s with gs := s.gs.set n (.lst (xs ++ [d])) } else .bad
    | _ => .bad
  | _, _, _ => .bad

/-- has it such a method? -/
def recv (m : Bm) (x : Val) (s : S) : Bool :=
  match m, x with
  | .join, .d (.str _) => true
  | .join, _ => false
  | _, x => (lsto x s).isSome

/-- x[i] = v -/
def setIx (x i v : Val) (s : S) : R Unit :=
  match x, i, v with
  | .own j, .d (.int k), .d d => match s.fs[j]? with
    | some (.lst xs) => if 0 ≤ k && decide (k < xs.length) then .ok () { s with fs := s.fs.set j (.lst (xs.set k.toNat d)) } else .bad
    | _ => .bad
  | .d (.ref n), .d (.int k), .d d => match s.gs[n]? with
    | some (.lst xs) => if 0 ≤ k && decide (k < xs.length) then .ok () { s with gs := s.gs.set n (.lst (xs.set k.toNat d)) } else .bad
    | _ => .bad
  | _, _, _ => .bad

/-! ### syntax -/
inductive E where
  | cst (d : D) | var (i : Nat) | gc (d : D)
  | tup (es : E) | fz (f : E) | mk (f : E) | gl (f : E) | dct (kvs : E)
  | bin (op : Bo) (a b : E) | cmp (op : Co) (a b : E) | chain (o1 o2 : Co) (a b c : E)
  | and_ (a b : E) | or_ (a b : E) | not_ (a : E) | ife (t a b : E) | neg (a : E)
  | sub (a i : E) | call (f : Nat) (es : E) | bm (m : Bm) (a es : E) | bf (b : Bf) (es : E) | isi (a : E) (t : Tg)
  | lst (es : E) | lc (own : List Nat) (tg : List Nat) (it cnd elt : E) | lof (e : E) | cat (a b : E)
  | it (e : E) | rng (es : E)
  | nil | cons (h t : E)
deriving Inhabited

inductive T where
  | asg (i : Nat) (e : E) | par (i j : Nat) (a b : E) | seti (a i e : E)
  | ite (t : E) (b o : T) | for_ (tg : List Nat) (it : E) (b : T) | while_ (t : E) (b : T)
  | ret (e : E) | retN | exp (e : E) | brk | cnt | pass
  | nil | cons (h t : T)
deriving Inhabited

inductive Fl where
  | nx | rt (v : Val) | bk | ct

abbrev Callee := Nat → List D → List Cell → RG

def wipeE (e : List (Option Val)) : List Nat → List (Option Val)
  | [] => e
  | v :: vs => (wipeE e vs).set v none

/-- names bound: one name, or a tuple of names -/
def bindTs (tg : List Nat) (x : D) (s : S) : Option S :=
  match tg with
  | [i] => some { s with env := s.env.set i (some (.d x)) }
  | tg => match x with
    | .tup xs => if xs.length = tg.length then some { s with env := (tg.zip xs).foldl (fun e p => e.set p.1 (some (.d p.2))) s.env } else none
    | _ => none

def getVar (i : Nat) (s : S) : R Val :=
  match s.env[i]? with
  | some (some v) => .ok v s
  | _ => .bad

def callR (Γ : Callee) (f : Nat) (vs : List Val) (s : S) : R Val :=
  match toDs vs with
  | some ds => match Γ f ds s.gs with
    | .ok d gs => .ok (.d d) { s with gs := gs }
    | .ex e gs => .ex e { s with gs := gs }
    | .bad => .bad
  | none => .bad

/-- one list after another, in frames whose own names are wiped each time -/
def lcGo (env : List (Option Val)) (tg : List Nat) (cnd : S → R Bool) (elt : S → R Val) : List D → S → R (List D)
  | [], s => .ok [] s
  | x :: r, s => match bindTs tg x { s with env := env } with
    | none => .bad
    | some s1 => (cnd s1).bindN fun b s2 =>
      if b then (elt s2).bindN fun v s3 => match v with
        | .d y => (lcGo env tg cnd elt r s3).bind fun ys s4 => .ok (y :: ys) s4
        | .own _ => .bad
      else lcGo env tg cnd elt r s2

def rngL (lo hi : Int) : List D := (List.range (hi - lo).toNat).map fun (i : Nat) => .int (lo + i)
def rngV (vs : List Val) (s : S) : R (List D) :=
  match vs with
  | [.d (.int n)] => if decide (-LINE ≤ n) && decide (n ≤ LINE) then .ok (rngL 0 n) s else .bad
  | [.d (.int a), .d (.int b)] => if decide (-LINE ≤ a) && decide (a ≤ LINE) && decide (-LINE ≤ b) && decide (b ≤ LINE) then .ok (rngL a b) s else .bad
  | _ => .bad

mutual
def ev (Γ : Callee) : E → S → R Val
  | .cst d, s => .ok (.d d) s
  | .var i, s => getVar i s
  | .gc d, s => .ok (.d d) s
  | .tup es, s => (evs Γ es s).bind fun vs s => match toDs vs with
    | some ds => if ds.length ≤ LINE then .ok (.d (.tup ds)) s else .bad
    | none => .bad
  | .fz f, s => (evF Γ f s).bind fun xs s => .ok (.d (.lst xs)) s
  | .mk f, s => (evF Γ f s).bind fun xs s => .ok (.own s.fs.length) { s with fs := s.fs ++ [.lst xs] }
  | .gl f, s => (evF Γ f s).bind fun xs s => .ok (.d (.ref s.gs.length)) { s with gs := s.gs ++ [.lst xs] }
  | .dct kvs, s => (evs Γ kvs s).bindN fun vs s => match toDs vs with
    | some ds => match pairsK ds with
      | some kvs => if kvs.length ≤ 15 && nodupK (kvs.map Prod.fst) then .ok (.d (.dct (kvs.map fun p => keyD p.1) (kvs.map Prod.snd))) s else .bad
      | none => .bad
    | none => .bad
  | .bin op a b, s => (ev Γ a s).bind fun x s => (ev Γ b s).bind fun y s => binop op x y s
  | .cmp op a b, s => (ev Γ a s).bind fun x s => (ev Γ b s).bind fun y s => (optR (cmpop op x y s) s).bind fun b s => .ok (.d (.bl b)) s
  | .chain o1 o2 a b c, s => (ev Γ a s).bind fun x s => (ev Γ b s).bind fun y s => (optR (cmpop o1 x y s) s).bind fun k s =>
      if k then (ev Γ c s).bind fun z s => (optR (cmpop o2 y z s) s).bind fun b s => .ok (.d (.bl b)) s else .ok (.d (.bl false)) s
  | .and_ a b, s => (ev Γ a s).bind fun x s => (optR (truth x s) s).bind fun k s => if k then ev Γ b s else .ok x s
  | .or_ a b, s => (ev Γ a s).bind fun x s => (optR (truth x s) s).bind fun k s => if k then .ok x s else ev Γ b s
  | .not_ a, s => (ev Γ a s).bind fun x s => (optR (truth x s) s).bind fun k s => .ok (.d (.bl (!k))) s
  | .ife t a b, s => (evT Γ t s).bind fun k s => if k then ev Γ a s else ev Γ b s
  | .neg a, s => (ev Γ a s).bind fun x s => match x with
    | .d (.int i) => .ok (.d (.int (-i))) s
    | _ => .bad
  | .sub a i, s => (ev Γ a s).bind fun x s => (ev Γ i s).bind fun y s => optR (subVal x y s) s
  | .call f es, s => (evs Γ es s).bind fun vs s => callR Γ f vs s
  | .bm m a es, s => (ev Γ a s).bind fun x s => if recv m x s = true then (evs Γ es s).bind fun vs s => bmth m x vs s else .bad
  | .bf b es, s => (evs Γ es s).bind fun vs s => bfn b vs s
  | .isi a t, s => (ev Γ a s).bind fun x s => (optR (isTag x s t) s).bind fun b s => .ok (.d (.bl b)) s
  | _, _ => .bad
def evs (Γ : Callee) : E → S → R (List Val)
  | .nil, s => .ok [] s
  | .cons h t, s => (ev Γ h s).bind fun x s => (evs Γ t s).bind fun xs s => .ok (x :: xs) s
  | _, _ => .bad
/-- as a test -/
def evT (Γ : Callee) : E → S → R Bool
  | .and_ a b, s => (evT Γ a s).bind fun k s => if k then evT Γ b s else .ok false s
  | .or_ a b, s => (evT Γ a s).bind fun k s => if k then .ok true s else evT Γ b s
  | .not_ a, s => (evT Γ a s).bind fun k s => .ok (!k) s
  | .nil, s => .ok true s
  | .cons t _, s => evT Γ t s
  | e, s => (ev Γ e s).bind fun x s => optR (truth x s) s
/-- a new list's items -/
def evF (Γ : Callee) : E → S → R (List D)
  | .lst es, s => (evs Γ es s).bind fun vs s => match toDs vs with
    | some ds => if ds.length ≤ LINE then .ok ds s else .bad
    | none => .bad
  | .lc own tg it cnd elt, s => (evI Γ it s).bind fun xs s1 => if xs.length ≤ LINE then
      (lcGo (wipeE s1.env own) tg (evT Γ cnd) (ev Γ elt) xs s1).bind fun ys s2 => .ok ys { s2 with env := s1.env } else .bad
  | .lof e, s => (ev Γ e s).bind fun x s => match seqv x s with
    | some (_, xs) => .ok xs s
    | none => .bad
  | .cat a b, s => (ev Γ a s).bind fun x s => (ev Γ b s).bind fun y s => match lsto x s, lsto y s with
    | some xs, some ys => if xs.length + ys.length ≤ LINE then .ok (xs ++ ys) s else .bad
    | _, _ => .bad
  | _, _ => .bad
/-- what a for walks -/
def evI (Γ : Callee) : E → S → R (List D)
  | .it e, s => (ev Γ e s).bind fun x s => match x with
    | .d (.lst xs) => .ok xs s
    | .d (.tup xs) => .ok xs s
    | .d (.scr xs) => .ok xs s
    | .d (.str z) => if z.length ≤ LINE then .ok (z.cps.toList.map fun c => .str ⟨#[c]⟩) s else .bad
    | _ => .bad
  | .rng es, s => (evs Γ es s).bind fun vs s => rngV vs s
  | _, _ => .bad
end

/-- the turns of a for -/
def forGo (tg : List Nat) (body : S → R Fl) : List D → S → R Fl
  | [], s => .ok .nx s
  | x :: r, s => match bindTs tg x s with
    | none => .bad
    | some s1 => (body s1).bind fun f s2 => match f with
      | .nx => forGo tg body r s2
      | .ct => forGo tg body r s2
      | .bk => .ok .nx s2
      | .rt v => .ok (.rt v) s2
def whileGo (t : S → R Bool) (body : S → R Fl) : Nat → S → R Fl
  | 0, _ => .bad
  | n + 1, s => (t s).bind fun k s1 => if k then (body s1).bind fun f s2 => match f with
      | .nx => whileGo t body n s2
      | .ct => whileGo t body n s2
      | .bk => .ok .nx s2
      | .rt v => .ok (.rt v) s2
    else .ok .nx s1

def ex (Γ : Callee) : T → S → R Fl
  | .asg i e, s => (ev Γ e s).bind fun v s => .ok .nx { s with env := s.env.set i (some v) }
  | .par i j a b, s => (ev Γ a s).bind fun v s => (ev Γ b s).bind fun w s => .ok .nx { s with env := (s.env.set i (some v)).set j (some w) }
  | .seti a i e, s => (ev Γ e s).bind fun v s => (ev Γ a s).bind fun x s => (ev Γ i s).bind fun k s => (setIx x k v s).bind fun _ s => .ok .nx s
  | .ite t b o, s => (evT Γ t s).bind fun k s => if k then ex Γ b s else ex Γ o s
  | .for_ tg it b, s => (evI Γ it s).bind fun xs s => forGo tg (ex Γ b) xs s
  | .while_ t b, s => whileGo (evT Γ t) (ex Γ b) LINE s
  | .ret e, s => (ev Γ e s).bind fun v s => .ok (.rt v) s
  | .retN, s => .ok (.rt (.d .non)) s
  | .exp e, s => (ev Γ e s).bind fun _ s => .ok .nx s
  | .brk, s => .ok .bk s
  | .cnt, s => .ok .ct s
  | .pass, s => .ok .nx s
  | .nil, s => .ok .nx s
  | .cons h t, s => (ex Γ h s).bind fun f s => match f with
    | .nx => ex Γ t s
    | f => .ok f s

structure Fn where
  np : Nat
  nl : Nat
  body : T

/-- what a def hands back: an own list is let go -/
def handed (v : Val) (s : S) : Option D :=
  match v with
  | .d x => some x
  | .own j => match s.fs[j]? with
    | some (.lst xs) => some (.lst xs)
    | _ => none

def runF (Γ : Callee) (fn : Fn) (args : List D) (gs : List Cell) : RG :=
  if args.length = fn.np then
    match ex Γ fn.body ⟨args.map (fun x => some (.d x)) ++ List.replicate (fn.nl - fn.np) none, [], gs⟩ with
    | .ok (.rt v) s => match handed v s with
      | some d => .ok d s.gs
      | none => .bad
    | .ok .nx s => .ok .non s.gs
    | .ex e s => .ex e s.gs
    | _ => .bad
  else .bad
def run (Pg : Nat → Fn) : Nat → Callee
  | 0 => fun _ _ _ => .bad
  | k + 1 => fun f args gs => runF (run Pg k) (Pg f) args gs
end Mp

/-! Mp: how the evaluator's states lie in the abstract heap. -/
namespace Mp
open PySem (Addr Value)
open L2 (V HO Hp upd upd_same upd_ne SqT SqL Rd)

/-- B: lists that others hold; H0, p0: heap and shared cells at the entry of the def; pf, pg: where this frame's and the shared cells lie; tm: lists being made -/
structure Gh where
  B : Addr → Prop
  H0 : Hp
  p0 : List Addr
  pf : List (Option Addr)
  pg : List Addr
  tm : List Addr
def Gh.Bad (γ : Gh) (a : Addr) : Prop := (γ.B a ∨ a ∈ γ.tm) ∨ some a ∈ γ.pf ∨ a ∈ γ.pg

/-- a list that the module's top has written -/
def KLst (K : PySem.W.Frag) (a : Addr) (vs : List V) : Prop := ∀ H : Hp, SqL K H a vs

mutual
inductive RelD (K : PySem.W.Frag) (γ : Gh) (H : Hp) : D → V → Prop
  | non : RelD K γ H .non .non
  | bl (b : Bool) : RelD K γ H (.bl b) (.bl b)
  | int (i : Int) : RelD K γ H (.int i) (.int i)
  | str (x : PySem.Str) : RelD K γ H (.str x) (.str x)
  | tup {a : Addr} {xs : List D} {vs : List V} (h : SqT K H a vs) (r : RelDs K γ H xs vs) : RelD K γ H (.tup xs) (.ref a)
  | lst {a : Addr} {xs : List D} {vs : List V} (h : H a = some (.lst vs)) (nb : ¬ γ.Bad a) (r : RelDs K γ H xs vs) : RelD K γ H (.lst xs) (.ref a)
  | scr {a : Addr} {xs : List D} {vs : List V} (h : Rd H a (.lst vs)) (nb : ¬ γ.Bad a) (r : RelDs K γ H xs vs) : RelD K γ H (.scr xs) (.ref a)
  | scrK {a : Addr} {xs : List D} {vs : List V} (h : KLst K a vs) (r : RelDs K γ H xs vs) : RelD K γ H (.scr xs) (.ref a)
  | dct {a : Addr} {ks xs : List D} {kvs : List (L2.Key × V)} (h : H a = some (.dK kvs)) (nb : ¬ γ.Bad a) (hk : ks = kvs.map fun p => keyD p.1) (r : RelDs K γ H xs (kvs.map Prod.snd)) : RelD K γ H (.dct ks xs) (.ref a)
  | ref {n : Nat} {a : Addr} (h : γ.pg[n]? = some a) : RelD K γ H (.ref n) (.ref a)
inductive RelDs (K : PySem.W.Frag) (γ : Gh) (H : Hp) : List D → List V → Prop
  | nil : RelDs K γ H [] []
  | cons {x : D} {v : V} {xs : List D} {vs : List V} (h : RelD K γ H x v) (t : RelDs K γ H xs vs) : RelDs K γ H (x :: xs) (v :: vs)
end

def RelVal (K : PySem.W.Frag) (γ : Gh) (H : Hp) : Val → V → Prop
  | .d x, v => RelD K γ H x v
  | .own j, v => ∃ a, v = .ref a ∧ γ.pf[j]? = some (some a)
inductive RelVals (K : PySem.W.Frag) (γ : Gh) (H : Hp) : List Val → List V → Prop
  | nil : RelVals K γ H [] []
  | cons {x : Val} {v : V} {xs : List Val} {vs : List V} (h : RelVal K γ H x v) (t : RelVals K γ H xs vs) : RelVals K γ H (x :: xs) (v :: vs)

def CellOk (K : PySem.W.Frag) (γ : Gh) (H : Hp) (a : Addr) : Cell → Prop
  | .lst xs => ∃ vs, H a = some (.lst vs) ∧ RelDs K γ H xs vs
  | _ => False

structure Rel (K : PySem.W.Frag) (γ : Gh) (s : S) (σ : L2.St) (H : Hp) : Prop where
  len : s.env.length = σ.length
  slot : ∀ (i : Nat) (v : Val), s.env[i]? = some (some v) → ∃ x : V, σ[i]? = some (some x) ∧ RelVal K γ H v x
  fl : γ.pf.length = s.fs.length
  fc : ∀ (j : Nat) (a : Addr) (c : Cell), γ.pf[j]? = some (some a) → s.fs[j]? = some c → CellOk K γ H a c
  gl : γ.pg.length = s.gs.length
  gc : ∀ (n : Nat) (a : Addr) (c : Cell), γ.pg[n]? = some a → s.gs[n]? = some c → CellOk K γ H a c
  ndf : ∀ (i j : Nat) (a : Addr), γ.pf[i]? = some (some a) → γ.pf[j]? = some (some a) → i = j
  ndg : ∀ (i j : Nat) (a : Addr), γ.pg[i]? = some a → γ.pg[j]? = some a → i = j
  dis : ∀ a, some a ∈ γ.pf → a ∉ γ.pg
  bo : ∀ a, γ.B a → (γ.H0 a).isSome = true ∧ a ∉ γ.p0
  fnew : ∀ a, some a ∈ γ.pf → γ.H0 a = none
  gnew : ∀ a, a ∈ γ.pg → a ∈ γ.p0 ∨ γ.H0 a = none
  pre : γ.p0 <+: γ.pg
  frame : ∀ a o, γ.H0 a = some o → a ∉ γ.p0 → H a = some o
  trk : ∀ a, (γ.H0 a).isSome = true → (H a).isSome = true
  tm : ∀ a, a ∈ γ.tm → (H a).isSome = true ∧ some a ∉ γ.pf ∧ a ∉ γ.pg

/-- from one point to a later one within a def -/
structure Sts (γ : Gh) (H : Hp) (γ' : Gh) (H' : Hp) : Prop where
  b : γ'.B = γ.B
  h0 : γ'.H0 = γ.H0
  p0 : γ'.p0 = γ.p0
  tm : ∀ a, a ∈ γ'.tm → a ∈ γ.tm ∨ H a = none
  pg : γ.pg <+: γ'.pg
  frame : ∀ a o, H a = some o → some a ∉ γ.pf → a ∉ γ.pg → H' a = some o
  trk : ∀ a, (H a).isSome = true → (H' a).isSome = true
  fn : ∀ a, some a ∈ γ'.pf → some a ∈ γ.pf ∨ H a = none
  gn : ∀ a, a ∈ γ'.pg → a ∈ γ.pg ∨ H a = none
/-- .. nothing in the making is left or new -/
structure Stm (γ : Gh) (H : Hp) (γ' : Gh) (H' : Hp) : Prop extends Sts γ H γ' H' where
  tmE : γ'.tm = γ.tm
/-- .. within an expression -/
structure Stp (γ : Gh) (H : Hp) (γ' : Gh) (H' : Hp) : Prop extends Stm γ H γ' H' where
  pf : γ.pf <+: γ'.pf

theorem Sts.refl (γ : Gh) (H : Hp) : Sts γ H γ H := ⟨rfl, rfl, rfl, fun _ h => .inl h, List.prefix_refl _, fun _ _ h _ _ => h, fun _ h => h, fun _ h => .inl h, fun _ h => .inl h⟩
theorem Stp.refl (γ : Gh) (H : Hp) : Stp γ H γ H := ⟨⟨Sts.refl γ H, rfl⟩, List.prefix_refl _⟩
theorem mem_pre {α : Type} {l m : List α} (h : l <+: m) {a : α} (ha : a ∈ l) : a ∈ m := h.subset ha
theorem get_pre {α : Type} {l m : List α} (h : l <+: m) {i : Nat} {a : α} (ha : l[i]? = some a) : m[i]? = some a := by
  obtain ⟨t, rfl⟩ := h
  rw [List.getElem?_append_left (List.getElem?_eq_some_iff.mp ha).1]
  exact ha
theorem not_some {o : Option HO} (h : o = none) : ¬ o.isSome = true := by rw [h]; exact Bool.false_ne_true
theorem none_back {o o' : Option HO} (h : o.isSome = true → o'.isSome = true) (n : o' = none) : o = none := by
  cases e : o with
  | none => rfl
  | some u => exact absurd (h (by rw [e]; rfl)) (not_some n)
theorem Sts.trans {γ γ1 γ2 : Gh} {H H1 H2 : Hp} (a : Sts γ H γ1 H1) (b : Sts γ1 H1 γ2 H2) : Sts γ H γ2 H2 where
  b := b.b.trans a.b
  h0 := b.h0.trans a.h0
  p0 := b.p0.trans a.p0
  tm := fun x m => by
    rcases b.tm x m with z | z
    · exact a.tm x z
    · exact .inr (none_back (a.trk x) z)
  pg := a.pg.trans b.pg
  frame := fun x o h n1 n2 => by
    refine b.frame x o (a.frame x o h n1 n2) (fun m => ?_) fun m => ?_
    · rcases a.fn x m with z | z
      · exact n1 z
      · rw [z] at h; cases h
    · rcases a.gn x m with z | z
      · exact n2 z
      · rw [z] at h; cases h
  trk := fun x h => b.trk x (a.trk x h)
  fn := fun x m => by
    rcases b.fn x m with z | z
    · exact a.fn x z
    · exact .inr (none_back (a.trk x) z)
  gn := fun x m => by
    rcases b.gn x m with z | z
    · exact a.gn x z
    · exact .inr (none_back (a.trk x) z)
theorem Stp.trans {γ γ1 γ2 : Gh} {H H1 H2 : Hp} (a : Stp γ H γ1 H1) (b : Stp γ1 H1 γ2 H2) : Stp γ H γ2 H2 := ⟨⟨a.toSts.trans b.toSts, b.tmE.trans a.tmE⟩, a.pf.trans b.pf⟩
theorem Stm.trans {γ γ1 γ2 : Gh} {H H1 H2 : Hp} (a : Stm γ H γ1 H1) (b : Stm γ1 H1 γ2 H2) : Stm γ H γ2 H2 := ⟨a.toSts.trans b.toSts, b.tmE.trans a.tmE⟩

theorem Sts.notBad {γ γ1 : Gh} {H H1 : Hp} (a : Sts γ H γ1 H1) {x : Addr} (h : (H x).isSome = true) (nb : ¬ γ.Bad x) : ¬ γ1.Bad x := by
  rintro ((z | z) | z | z)
  · rw [a.b] at z; exact nb (.inl (.inl z))
  · rcases a.tm x z with q | q
    · exact nb (.inl (.inr q))
    · exact not_some q h
  · rcases a.fn x z with q | q
    · exact nb (.inr (.inl q))
    · exact not_some q h
  · rcases a.gn x z with q | q
    · exact nb (.inr (.inr q))
    · exact not_some q h
theorem Sts.rd {γ γ1 : Gh} {H H1 : Hp} (a : Sts γ H γ1 H1) {x : Addr} {u : HO} (h : Rd H x u) (nb : ¬ γ.Bad x) : Rd H1 x u := by
  rcases h with h | ⟨o, h⟩
  · exact .inl (a.frame x _ h (fun z => nb (.inr (.inl z))) fun z => nb (.inr (.inr z)))
  · exact .inr ⟨o, a.frame x _ h (fun z => nb (.inr (.inl z))) fun z => nb (.inr (.inr z))⟩
theorem Rd.some {H : Hp} {x : Addr} {u : HO} (h : Rd H x u) : (H x).isSome = true := by
  rcases h with h | ⟨o, h⟩ <;> (rw [h]; rfl)

/-- tuples are never cells -/
def TupOk (γ : Gh) (H : Hp) : Prop := ∀ a, (some a ∈ γ.pf ∨ a ∈ γ.pg) → ∀ xs, H a ≠ some (.tup xs) ∧ ∀ o, H a ≠ some (.frz o (.tup xs))

theorem Sts.sqT {K : PySem.W.Frag} {γ γ1 : Gh} {H H1 : Hp} (a : Sts γ H γ1 H1) (t : TupOk γ H) {x : Addr} {vs : List V} (h : SqT K H x vs) : SqT K H1 x vs := by
  rcases h with (h | ⟨o, h⟩) | h
  · exact .inl (.inl (a.frame x _ h (fun z => (t x (.inl z) _).1 h) fun z => (t x (.inr z) _).1 h))
  · exact .inl (.inr ⟨o, a.frame x _ h (fun z => (t x (.inl z) _).2 o h) fun z => (t x (.inr z) _).2 o h⟩)
  · exact .inr h

mutual
theorem RelD.step {K : PySem.W.Frag} {γ γ1 : Gh} {H H1 : Hp} (a : Sts γ H γ1 H1) (t : TupOk γ H) : ∀ (d : D) (v : V), RelD K γ H d v → RelD K γ1 H1 d v
  | _, _, .non => .non
  | _, _, .bl b => .bl b
  | _, _, .int i => .int i
  | _, _, .str x => .str x
  | .tup xs, _, .tup (vs := vs) h r => .tup (a.sqT t h) (RelDs.step a t xs vs r)
  | .lst xs, _, .lst (vs := vs) h nb r => .lst (a.frame _ _ h (fun z => nb (.inr (.inl z))) fun z => nb (.inr (.inr z))) (a.notBad (by rw [h]; rfl) nb) (RelDs.step a t xs vs r)
  | .scr xs, _, .scr (vs := vs) h nb r => .scr (a.rd h nb) (a.notBad (Rd.some h) nb) (RelDs.step a t xs vs r)
  | .scr xs, _, .scrK (vs := vs) h r => .scrK h (RelDs.step a t xs vs r)
  | .dct _ xs, _, .dct (kvs := kvs) h nb hk r => .dct (a.frame _ _ h (fun z => nb (.inr (.inl z))) fun z => nb (.inr (.inr z))) (a.notBad (by rw [h]; rfl) nb) hk (RelDs.step a t xs _ r)
  | _, _, .ref h => .ref (get_pre a.pg h)
theorem RelDs.step {K : PySem.W.Frag} {γ γ1 : Gh} {H H1 : Hp} (a : Sts γ H γ1 H1) (t : TupOk γ H) : ∀ (ds : List D) (vs : List V), RelDs K γ H ds vs → RelDs K γ1 H1 ds vs
  | _, _, .nil => .nil
  | x :: xs, _ :: vs, .cons h r => .cons (RelD.step a t x _ h) (RelDs.step a t xs vs r)
end
theorem RelVal.step {K : PySem.W.Frag} {γ γ1 : Gh} {H H1 : Hp} (a : Stp γ H γ1 H1) (t : TupOk γ H) {v : Val} {x : V} (h : RelVal K γ H v x) : RelVal K γ1 H1 v x := by
  cases v with
  | d y => exact RelD.step a.toSts t _ _ h
  | own j =>
    obtain ⟨b, e, q⟩ := h
    exact ⟨b, e, get_pre a.pf q⟩
theorem RelVals.step {K : PySem.W.Frag} {γ γ1 : Gh} {H H1 : Hp} (a : Stp γ H γ1 H1) (t : TupOk γ H) {v : List Val} {x : List V} (h : RelVals K γ H v x) : RelVals K γ1 H1 v x := by
  induction h with
  | nil => exact .nil
  | cons h _ ih => exact .cons (h.step a t) ih

theorem mem_get {α : Type} {l : List α} {a : α} (h : a ∈ l) : ∃ i : Nat, l[i]? = some a := List.mem_iff_getElem?.mp h
theorem get_of_len {α β : Type} {l : List α} {m : List β} (e : l.length = m.length) {i : Nat} {a : α} (h : l[i]? = some a) : ∃ b, m[i]? = some b := by
  have : i < l.length := (List.getElem?_eq_some_iff.mp h).1
  exact ⟨m[i]'(e ▸ this), List.getElem?_eq_getElem _⟩
theorem CellOk.is {K : PySem.W.Frag} {γ : Gh} {H : Hp} {a : Addr} {c : Cell} (h : CellOk K γ H a c) : ∃ xs vs, c = .lst xs ∧ H a = some (.lst vs) ∧ RelDs K γ H xs vs := by
  cases c with
  | lst xs => obtain ⟨vs, e, r⟩ := h; exact ⟨xs, vs, rfl, e, r⟩
  | dead => exact False.elim h
  | dct _ _ => exact False.elim h
  | ins _ _ _ => exact False.elim h
theorem CellOk.step {K : PySem.W.Frag} {γ γ1 : Gh} {H H1 : Hp} (a : Sts γ H γ1 H1) (t : TupOk γ H) {x : Addr} {c : Cell} (h : CellOk K γ H x c) (e : H1 x = H x) : CellOk K γ1 H1 x c := by
  obtain ⟨xs, vs, rfl, h1, r⟩ := h.is
  exact ⟨vs, e.trans h1, RelDs.step a t _ _ r⟩

section
variable {K : PySem.W.Frag} {γ : Gh} {s : S} {σ : L2.St} {H : Hp}
theorem Rel.cellF (R : Rel K γ s σ H) {j : Nat} {a : Addr} (h : γ.pf[j]? = some (some a)) : ∃ xs vs, s.fs[j]? = some (.lst xs) ∧ H a = some (.lst vs) ∧ RelDs K γ H xs vs := by
  obtain ⟨c, hc⟩ := get_of_len R.fl h
  obtain ⟨xs, vs, rfl, e, r⟩ := (R.fc j a c h hc).is
  exact ⟨xs, vs, hc, e, r⟩
theorem Rel.cellG (R : Rel K γ s σ H) {n : Nat} {a : Addr} (h : γ.pg[n]? = some a) : ∃ xs vs, s.gs[n]? = some (.lst xs) ∧ H a = some (.lst vs) ∧ RelDs K γ H xs vs := by
  obtain ⟨c, hc⟩ := get_of_len R.gl h
  obtain ⟨xs, vs, rfl, e, r⟩ := (R.gc n a c h hc).is
  exact ⟨xs, vs, hc, e, r⟩
theorem Rel.live (R : Rel K γ s σ H) {a : Addr} (h : some a ∈ γ.pf ∨ a ∈ γ.pg) : ∃ vs, H a = some (.lst vs) := by
  rcases h with h | h
  · obtain ⟨j, hj⟩ := mem_get h
    obtain ⟨_, vs, _, e, _⟩ := R.cellF hj
    exact ⟨vs, e⟩
  · obtain ⟨j, hj⟩ := mem_get h
    obtain ⟨_, vs, _, e, _⟩ := R.cellG hj
    exact ⟨vs, e⟩
theorem Rel.tups (R : Rel K γ s σ H) : TupOk γ H := fun a h xs => by
  obtain ⟨vs, e⟩ := R.live h
  exact ⟨by rw [e]; simp, fun o => by rw [e]; simp⟩

/-- a new object that is no cell -/
theorem Stp.new (γ : Gh) {H : Hp} {p : Addr} {o : HO} (hp : H p = none) : Stp γ H γ (upd H p o) where
  b := rfl
  h0 := rfl
  p0 := rfl
  tm := fun _ h => .inl h
  tmE := rfl
  pf := List.prefix_refl _
  pg := List.prefix_refl _
  frame := fun a u h _ _ => by rw [upd_ne (L2.ne_of_none h hp)]; exact h
  trk := fun a h => by
    by_cases e : a = p
    · rw [e, upd_same]; rfl
    · rw [upd_ne e]; exact h
  fn := fun _ h => .inl h
  gn := fun _ h => .inl h
/-- the state behind a step that leaves the cells as they are -/
theorem Rel.step (R : Rel K γ s σ H) {H1 : Hp} (a : Stp γ H γ H1) (k : ∀ x, (some x ∈ γ.pf ∨ x ∈ γ.pg) → H1 x = H x) : Rel K γ s σ H1 where
  len := R.len
  slot := fun i v h => let ⟨x, e, r⟩ := R.slot i v h; ⟨x, e, r.step a R.tups⟩
  fl := R.fl
  fc := fun j x c h1 h2 => (R.fc j x c h1 h2).step a.toSts R.tups (k x (.inl (List.mem_of_getElem? h1)))
  gl := R.gl
  gc := fun j x c h1 h2 => (R.gc j x c h1 h2).step a.toSts R.tups (k x (.inr (List.mem_of_getElem? h1)))
  ndf := R.ndf
  ndg := R.ndg
  dis := R.dis
  bo := R.bo
  fnew := R.fnew
  gnew := R.gnew
  pre := R.pre
  frame := fun x o h n => by
    refine a.frame x o (R.frame x o h n) (fun z => ?_) fun z => ?_
    · rw [R.fnew x z] at h; cases h
    · rcases R.gnew x z with q | q
      · exact n q
      · rw [q] at h; cases h
  trk := fun x h => a.trk x (R.trk x h)
  tm := fun x h => ⟨a.trk x (R.tm x h).1, (R.tm x h).2⟩
theorem Rel.new (R : Rel K γ s σ H) {p : Addr} {o : HO} (hp : H p = none) : Rel K γ s σ (upd H p o) :=
  R.step (Stp.new γ hp) fun x h => by
    obtain ⟨vs, e⟩ := R.live h
    rw [upd_ne (L2.ne_of_none e hp)]
theorem Rel.notBad (R : Rel K γ s σ H) {p : Addr} (hp : H p = none) : ¬ γ.Bad p := by
  rintro ((z | z) | z)
  · exact absurd (R.trk p (R.bo p z).1) (not_some hp)
  · exact absurd (R.tm p z).1 (not_some hp)
  · obtain ⟨vs, e⟩ := R.live z
    rw [hp] at e; cases e
end

/-! ### a list in the making; it is let go, or becomes a cell -/
def Gh.mk1 (γ : Gh) (a : Addr) : Gh := { γ with tm := a :: γ.tm }
mutual
theorem RelD.mk1 {K : PySem.W.Frag} {γ : Gh} {H : Hp} {p : Addr} {o : HO} (hp : H p = none) (t : TupOk γ H) : ∀ (d : D) (v : V), RelD K γ H d v → RelD K (γ.mk1 p) (upd H p o) d v
  | _, _, .non => .non
  | _, _, .bl b => .bl b
  | _, _, .int i => .int i
  | _, _, .str x => .str x
  | .tup xs, _, .tup (vs := vs) h r => .tup ((Stp.new γ hp).sqT t h) (RelDs.mk1 hp t xs vs r)
  | .lst xs, _, .lst (a := a) (vs := vs) h nb r => .lst ((Stp.new γ hp).frame _ _ h (fun z => nb (.inr (.inl z))) fun z => nb (.inr (.inr z))) (fun z => by
      rcases z with (z | z) | z
      · exact nb (.inl (.inl z))
      · rcases List.mem_cons.mp z with z | z
        · rw [z, hp] at h; cases h
        · exact nb (.inl (.inr z))
      · exact nb (.inr z)) (RelDs.mk1 hp t xs vs r)
  | .scr xs, _, .scr (a := a) (vs := vs) h nb r => .scr ((Stp.new γ hp).rd h nb) (fun z => by
      rcases z with (z | z) | z
      · exact nb (.inl (.inl z))
      · rcases List.mem_cons.mp z with z | z
        · rw [z] at h; exact not_some hp (Rd.some h)
        · exact nb (.inl (.inr z))
      · exact nb (.inr z)) (RelDs.mk1 hp t xs vs r)
  | .scr xs, _, .scrK (vs := vs) h r => .scrK h (RelDs.mk1 hp t xs vs r)
  | .dct _ xs, _, .dct (a := a) (kvs := kvs) h nb hk r => .dct ((Stp.new γ hp).frame _ _ h (fun z => nb (.inr (.inl z))) fun z => nb (.inr (.inr z))) (fun z => by
      rcases z with (z | z) | z
      · exact nb (.inl (.inl z))
      · rcases List.mem_cons.mp z with z | z
        · rw [z, hp] at h; cases h
        · exact nb (.inl (.inr z))
      · exact nb (.inr z)) hk (RelDs.mk1 hp t xs _ r)
  | _, _, .ref h => .ref h
theorem RelDs.mk1 {K : PySem.W.Frag} {γ : Gh} {H : Hp} {p : Addr} {o : HO} (hp : H p = none) (t : TupOk γ H) : ∀ (ds : List D) (vs : List V), RelDs K γ H ds vs → RelDs K (γ.mk1 p) (upd H p o) ds vs
  | _, _, .nil => .nil
  | x :: xs, _ :: vs, .cons h r => .cons (RelD.mk1 hp t x _ h) (RelDs.mk1 hp t xs vs r)
end
/-- facts with more that is bad hold with less -/
structure Les (γ γ' : Gh) : Prop where
  pg : γ.pg <+: γ'.pg
  bad : ∀ a, γ'.Bad a → γ.Bad a
mutual
theorem RelD.les {K : PySem.W.Frag} {γ γ' : Gh} {H : Hp} (l : Les γ γ') : ∀ (d : D) (v : V), RelD K γ H d v → RelD K γ' H d v
  | _, _, .non => .non
  | _, _, .bl b => .bl b
  | _, _, .int i => .int i
  | _, _, .str x => .str x
  | .tup xs, _, .tup (vs := vs) h r => .tup h (RelDs.les l xs vs r)
  | .lst xs, _, .lst (vs := vs) h nb r => .lst h (fun z => nb (l.bad _ z)) (RelDs.les l xs vs r)
  | .scr xs, _, .scr (vs := vs) h nb r => .scr h (fun z => nb (l.bad _ z)) (RelDs.les l xs vs r)
  | .scr xs, _, .scrK (vs := vs) h r => .scrK h (RelDs.les l xs vs r)
  | .dct _ xs, _, .dct (kvs := kvs) h nb hk r => .dct h (fun z => nb (l.bad _ z)) hk (RelDs.les l xs _ r)
  | _, _, .ref h => .ref (get_pre l.pg h)
theorem RelDs.les {K : PySem.W.Frag} {γ γ' : Gh} {H : Hp} (l : Les γ γ') : ∀ (ds : List D) (vs : List V), RelDs K γ H ds vs → RelDs K γ' H ds vs
  | _, _, .nil => .nil
  | x :: xs, _ :: vs, .cons h r => .cons (RelD.les l x _ h) (RelDs.les l xs vs r)
end
theorem RelVal.les {K : PySem.W.Frag} {γ γ' : Gh} {H : Hp} (l : Les γ γ') (pf : γ.pf <+: γ'.pf) {x : Val} {v : V} (h : RelVal K γ H x v) : RelVal K γ' H x v := by
  cases x with
  | d y => exact RelD.les l _ _ h
  | own j => obtain ⟨b, e, q⟩ := h; exact ⟨b, e, get_pre pf q⟩
theorem les_mk1 (γ : Gh) (a : Addr) : Les (γ.mk1 a) γ := ⟨List.prefix_refl _, fun x h => by
  rcases h with (h | h) | h
  · exact .inl (.inl h)
  · exact .inl (.inr (List.mem_cons_of_mem _ h))
  · exact .inr h⟩
def Gh.ownF (γ : Gh) (a : Addr) : Gh := { γ with pf := γ.pf ++ [some a] }
def Gh.ownG (γ : Gh) (a : Addr) : Gh := { γ with pg := γ.pg ++ [a] }
theorem les_ownF (γ : Gh) (a : Addr) : Les (γ.mk1 a) (γ.ownF a) := ⟨List.prefix_refl _, fun x h => by
  rcases h with (h | h) | h | h
  · exact .inl (.inl h)
  · exact .inl (.inr (List.mem_cons_of_mem _ h))
  · rcases List.mem_append.mp h with h | h
    · exact .inr (.inl h)
    · have e : x = a := by simpa using h
      exact .inl (.inr (by rw [e]; exact List.mem_cons_self))
  · exact .inr (.inr h)⟩
section
variable {K : PySem.W.Frag} {γ : Gh} {s : S} {σ : L2.St} {H : Hp} {a : Addr}
theorem CellOk.les {γ' : Gh} (l : Les γ γ') {c : Cell} (h : CellOk K γ H a c) : CellOk K γ' H a c := by
  obtain ⟨xs, vs, rfl, e, r⟩ := h.is
  exact ⟨vs, e, RelDs.les l _ _ r⟩
/-- a new list, in the making -/
theorem Rel.mk1 (R : Rel K γ s σ H) {o : HO} (hp : H a = none) : Rel K (γ.mk1 a) s σ (upd H a o) where
  len := R.len
  slot := fun i v h => by
    obtain ⟨x, e, r⟩ := R.slot i v h
    refine ⟨x, e, ?_⟩
    cases v with
    | d y => exact RelD.mk1 hp R.tups _ _ r
    | own j => exact r
  fl := R.fl
  fc := fun j x c h1 h2 => by
    obtain ⟨xs, vs, rfl, e, r⟩ := (R.fc j x c h1 h2).is
    exact ⟨vs, by rw [upd_ne (L2.ne_of_none e hp)]; exact e, RelDs.mk1 hp R.tups _ _ r⟩
  gl := R.gl
  gc := fun j x c h1 h2 => by
    obtain ⟨xs, vs, rfl, e, r⟩ := (R.gc j x c h1 h2).is
    exact ⟨vs, by rw [upd_ne (L2.ne_of_none e hp)]; exact e, RelDs.mk1 hp R.tups _ _ r⟩
  ndf := R.ndf
  ndg := R.ndg
  dis := R.dis
  bo := R.bo
  fnew := R.fnew
  gnew := R.gnew
  pre := R.pre
  frame := (R.new (o := o) hp).frame
  trk := (R.new (o := o) hp).trk
  tm := fun x h => by
    rcases List.mem_cons.mp h with e | h
    · subst e
      exact ⟨by rw [upd_same]; rfl, fun z => R.notBad hp (.inr (.inl z)), fun z => R.notBad hp (.inr (.inr z))⟩
    · exact (R.new (o := o) hp).tm x h
theorem Rel.rest (R : Rel K (γ.mk1 a) s σ H) : Rel K γ s σ H where
  len := R.len
  slot := fun i v h => let ⟨x, e, r⟩ := R.slot i v h; ⟨x, e, r.les (les_mk1 γ a) (List.prefix_refl _)⟩
  fl := R.fl
  fc := fun j x c h1 h2 => (R.fc j x c h1 h2).les (les_mk1 γ a)
  gl := R.gl
  gc := fun j x c h1 h2 => (R.gc j x c h1 h2).les (les_mk1 γ a)
  ndf := R.ndf
  ndg := R.ndg
  dis := R.dis
  bo := R.bo
  fnew := R.fnew
  gnew := R.gnew
  pre := R.pre
  frame := R.frame
  trk := R.trk
  tm := fun x h => R.tm x (List.mem_cons_of_mem _ h)
/-- the list made is this frame's own -/
theorem Rel.ownF {xs : List D} {vs : List V} (R : Rel K (γ.mk1 a) s σ H) (h0 : γ.H0 a = none) (e : H a = some (.lst vs)) (r : RelDs K (γ.mk1 a) H xs vs) (nt : a ∉ γ.tm) : Rel K (γ.ownF a) { s with fs := s.fs ++ [.lst xs] } σ H where
  len := R.len
  slot := fun i v h => let ⟨x, e, r⟩ := R.slot i v h; ⟨x, e, r.les (les_ownF γ a) (List.prefix_append _ _)⟩
  fl := by simp only [Gh.ownF, List.length_append, List.length_singleton]; rw [show γ.pf.length = s.fs.length from R.fl]
  fc := fun j x c h1 h2 => by
    have l : γ.pf.length = s.fs.length := R.fl
    by_cases hj : j < γ.pf.length
    · rw [show (γ.ownF a).pf = γ.pf ++ [some a] from rfl, List.getElem?_append_left hj] at h1
      rw [List.getElem?_append_left (by omega)] at h2
      exact (R.fc j x c h1 h2).les (les_ownF γ a)
    · rw [show (γ.ownF a).pf = γ.pf ++ [some a] from rfl, List.getElem?_append_right (by omega)] at h1
      rw [List.getElem?_append_right (by omega), ← l] at h2
      cases q : j - γ.pf.length with
      | zero =>
        rw [q] at h1 h2
        simp only [List.getElem?_cons_zero, Option.some.injEq] at h1 h2
        subst h1 h2
        exact ⟨vs, e, RelDs.les (les_ownF γ a) _ _ r⟩
      | succ k => rw [q] at h1; simp at h1
  gl := R.gl
  gc := fun j x c h1 h2 => (R.gc j x c h1 h2).les (les_ownF γ a)
  ndf := fun i j x h1 h2 => by
    have t := (R.tm a List.mem_cons_self).2.1
    have key : ∀ {i : Nat}, (γ.pf ++ [some a])[i]? = some (some x) → (γ.pf[i]? = some (some x) ∧ x ≠ a) ∨ (i = γ.pf.length ∧ x = a) := fun {i} h => by
      by_cases hi : i < γ.pf.length
      · rw [List.getElem?_append_left hi] at h
        refine .inl ⟨h, fun z => t ?_⟩
        rw [← z]; exact List.mem_of_getElem? h
      · rw [List.getElem?_append_right (by omega)] at h
        cases q : i - γ.pf.length with
        | zero =>
          rw [q] at h
          simp only [List.getElem?_cons_zero, Option.some.injEq] at h
          exact .inr ⟨by omega, h.symm⟩
        | succ k => rw [q] at h; simp at h
    rcases key h1 with ⟨h1, n1⟩ | ⟨e1, n1⟩ <;> rcases key h2 with ⟨h2, n2⟩ | ⟨e2, n2⟩
    · exact R.ndf i j x h1 h2
    · exact absurd n2 n1
    · exact absurd n1 n2
    · rw [e1, e2]
  ndg := R.ndg
  dis := fun x h => by
    rcases List.mem_append.mp h with h | h
    · exact R.dis x h
    · have e : x = a := by simpa using h
      rw [e]; exact (R.tm a List.mem_cons_self).2.2
  bo := R.bo
  fnew := fun x h => by
    rcases List.mem_append.mp h with h | h
    · exact R.fnew x h
    · have e : x = a := by simpa using h
      rw [e]; exact h0
  gnew := R.gnew
  pre := R.pre
  frame := R.frame
  trk := R.trk
  tm := fun x h => by
    obtain ⟨h1, h2, h3⟩ := R.tm x (List.mem_cons_of_mem _ h)
    refine ⟨h1, fun z => ?_, h3⟩
    rcases List.mem_append.mp z with z | z
    · exact h2 z
    · have e : x = a := by simpa using z
      exact nt (e ▸ h)
/-- the list made is a shared cell -/
theorem les_ownG (γ : Gh) (a : Addr) : Les (γ.mk1 a) (γ.ownG a) := ⟨List.prefix_append _ _, fun x h => by
  rcases h with (h | h) | h | h
  · exact .inl (.inl h)
  · exact .inl (.inr (List.mem_cons_of_mem _ h))
  · exact .inr (.inl h)
  · rcases List.mem_append.mp h with h | h
    · exact .inr (.inr h)
    · have e : x = a := by simpa using h
      exact .inl (.inr (by rw [e]; exact List.mem_cons_self))⟩
theorem app_key {α : Type} {l : List α} {a : α} {i : Nat} {x : α} (h : (l ++ [a])[i]? = some x) : (i < l.length ∧ l[i]? = some x) ∨ (i = l.length ∧ x = a) := by
  by_cases hi : i < l.length
  · rw [List.getElem?_append_left hi] at h
    exact .inl ⟨hi, h⟩
  · rw [List.getElem?_append_right (by omega)] at h
    cases q : i - l.length with
    | zero =>
      rw [q] at h
      simp only [List.getElem?_cons_zero, Option.some.injEq] at h
      exact .inr ⟨by omega, h.symm⟩
    | succ k => rw [q] at h; simp at h
theorem Rel.ownG (R : Rel K (γ.mk1 a) s σ H) (h0 : γ.H0 a = none) {xs : List D} {vs : List V} (e : H a = some (.lst vs)) (r : RelDs K (γ.mk1 a) H xs vs) (nt : a ∉ γ.tm) : Rel K (γ.ownG a) { s with gs := s.gs ++ [.lst xs] } σ H where
  len := R.len
  slot := fun i v h => let ⟨x, e, r⟩ := R.slot i v h; ⟨x, e, r.les (les_ownG γ a) (List.prefix_refl _)⟩
  fl := R.fl
  fc := fun j x c h1 h2 => (R.fc j x c h1 h2).les (les_ownG γ a)
  gl := by simp only [Gh.ownG, List.length_append, List.length_singleton]; rw [show γ.pg.length = s.gs.length from R.gl]
  gc := fun j x c h1 h2 => by
    have l : γ.pg.length = s.gs.length := R.gl
    rcases app_key (l := γ.pg) h1 with ⟨hj, h1⟩ | ⟨hj, rfl⟩
    · rw [List.getElem?_append_left (by omega)] at h2
      exact (R.gc j x c h1 h2).les (les_ownG γ a)
    · rcases app_key (l := s.gs) h2 with ⟨hj', _⟩ | ⟨_, rfl⟩
      · omega
      · exact ⟨vs, e, RelDs.les (les_ownG γ _) _ _ r⟩
  ndf := R.ndf
  ndg := fun i j x h1 h2 => by
    have t := (R.tm a List.mem_cons_self).2.2
    rcases app_key (l := γ.pg) h1 with ⟨_, h1⟩ | ⟨e1, n1⟩ <;> rcases app_key (l := γ.pg) h2 with ⟨_, h2⟩ | ⟨e2, n2⟩
    · exact R.ndg i j x h1 h2
    · exact absurd (List.mem_of_getElem? h1) (n2 ▸ t)
    · exact absurd (List.mem_of_getElem? h2) (n1 ▸ t)
    · rw [e1, e2]
  dis := fun x h m => by
    rcases List.mem_append.mp m with m | m
    · exact R.dis x h m
    · have e : x = a := by simpa using m
      exact (R.tm a List.mem_cons_self).2.1 (e ▸ h)
  bo := R.bo
  fnew := R.fnew
  gnew := fun x h => by
    rcases List.mem_append.mp h with h | h
    · exact R.gnew x h
    · have e : x = a := by simpa using h
      exact .inr (e ▸ h0)
  pre := List.IsPrefix.trans R.pre (List.prefix_append _ _)
  frame := R.frame
  trk := R.trk
  tm := fun x h => by
    obtain ⟨h1, h2, h3⟩ := R.tm x (List.mem_cons_of_mem _ h)
    refine ⟨h1, h2, fun z => ?_⟩
    rcases List.mem_append.mp z with z | z
    · exact h3 z
    · have e : x = a := by simpa using z
      exact nt (e ▸ h)
/-- a thing in the making is written -/
theorem Stp.setTm {γ0 : Gh} {H0 : Hp} {o : HO} (st : Stp γ0 H0 γ H) (h : H0 a = none) : Stp γ0 H0 γ (upd H a o) where
  b := st.b
  h0 := st.h0
  p0 := st.p0
  tm := st.tm
  tmE := st.tmE
  pg := st.pg
  pf := st.pf
  frame := fun x u e n1 n2 => by rw [upd_ne (L2.ne_of_none e h)]; exact st.frame x u e n1 n2
  trk := fun x e => by
    by_cases q : x = a
    · rw [q, upd_same]; rfl
    · rw [upd_ne q]; exact st.trk x e
  fn := st.fn
  gn := st.gn
mutual
theorem RelD.setTm {o : HO} (t : ∀ xs, H a ≠ some (.tup xs)) (t2 : ∀ u xs, H a ≠ some (.frz u (.tup xs))) : ∀ (d : D) (v : V), RelD K (γ.mk1 a) H d v → RelD K (γ.mk1 a) (upd H a o) d v
  | _, _, .non => .non
  | _, _, .bl b => .bl b
  | _, _, .int i => .int i
  | _, _, .str x => .str x
  | .tup xs, _, .tup (a := b) (vs := vs) h r => .tup (by
      rcases h with (h | ⟨u, h⟩) | h
      · have ne : b ≠ a := fun z => by subst z; exact t vs h
        exact .inl (.inl (by rw [upd_ne ne]; exact h))
      · have ne : b ≠ a := fun z => by subst z; exact t2 u vs h
        exact .inl (.inr ⟨u, by rw [upd_ne ne]; exact h⟩)
      · exact .inr h) (RelDs.setTm t t2 xs vs r)
  | .lst xs, _, .lst (a := b) (vs := vs) h nb r => .lst (by rw [upd_ne (fun z => nb (.inl (.inr (by rw [z]; exact List.mem_cons_self))))]; exact h) nb (RelDs.setTm t t2 xs vs r)
  | .scr xs, _, .scr (a := b) (vs := vs) h nb r => .scr (by
      have ne : b ≠ a := fun z => nb (.inl (.inr (by rw [z]; exact List.mem_cons_self)))
      rcases h with h | ⟨u, h⟩
      · exact .inl (by rw [upd_ne ne]; exact h)
      · exact .inr ⟨u, by rw [upd_ne ne]; exact h⟩) nb (RelDs.setTm t t2 xs vs r)
  | .scr xs, _, .scrK (vs := vs) h r => .scrK h (RelDs.setTm t t2 xs vs r)
  | .dct _ xs, _, .dct (a := b) (kvs := kvs) h nb hk r => .dct (by rw [upd_ne (fun z => nb (.inl (.inr (by rw [z]; exact List.mem_cons_self))))]; exact h) nb hk (RelDs.setTm t t2 xs _ r)
  | _, _, .ref h => .ref h
theorem RelDs.setTm {o : HO} (t : ∀ xs, H a ≠ some (.tup xs)) (t2 : ∀ u xs, H a ≠ some (.frz u (.tup xs))) : ∀ (ds : List D) (vs : List V), RelDs K (γ.mk1 a) H ds vs → RelDs K (γ.mk1 a) (upd H a o) ds vs
  | _, _, .nil => .nil
  | x :: xs, _ :: vs, .cons h r => .cons (RelD.setTm t t2 x _ h) (RelDs.setTm t t2 xs vs r)
end
theorem RelVal.setTm {o : HO} (t : ∀ xs, H a ≠ some (.tup xs)) (t2 : ∀ u xs, H a ≠ some (.frz u (.tup xs))) {x : Val} {v : V} (h : RelVal K (γ.mk1 a) H x v) : RelVal K (γ.mk1 a) (upd H a o) x v := by
  cases x with
  | d y => exact RelD.setTm t t2 _ _ h
  | own j => exact h
theorem Rel.setTm {o : HO} (R : Rel K (γ.mk1 a) s σ H) (h0 : γ.H0 a = none) (t : ∀ xs, H a ≠ some (.tup xs)) (t2 : ∀ u xs, H a ≠ some (.frz u (.tup xs))) : Rel K (γ.mk1 a) s σ (upd H a o) where
  len := R.len
  slot := fun i v h => let ⟨x, e, r⟩ := R.slot i v h; ⟨x, e, r.setTm t t2⟩
  fl := R.fl
  fc := fun j x c h1 h2 => by
    obtain ⟨xs, vs, rfl, e, r⟩ := (R.fc j x c h1 h2).is
    have ne : x ≠ a := fun z => by subst z; exact (R.tm x List.mem_cons_self).2.1 (List.mem_of_getElem? h1)
    exact ⟨vs, by rw [upd_ne ne]; exact e, RelDs.setTm t t2 _ _ r⟩
  gl := R.gl
  gc := fun j x c h1 h2 => by
    obtain ⟨xs, vs, rfl, e, r⟩ := (R.gc j x c h1 h2).is
    have ne : x ≠ a := fun z => by subst z; exact (R.tm x List.mem_cons_self).2.2 (List.mem_of_getElem? h1)
    exact ⟨vs, by rw [upd_ne ne]; exact e, RelDs.setTm t t2 _ _ r⟩
  ndf := R.ndf
  ndg := R.ndg
  dis := R.dis
  bo := R.bo
  fnew := R.fnew
  gnew := R.gnew
  pre := R.pre
  frame := fun x u e n => by
    rw [upd_ne (L2.ne_of_none (H := γ.H0) e h0)]
    exact R.frame x u e n
  trk := fun x e => by
    by_cases q : x = a
    · rw [q, upd_same]; rfl
    · rw [upd_ne q]; exact R.trk x e
  tm := fun x h => by
    refine ⟨?_, (R.tm x h).2⟩
    by_cases q : x = a
    · rw [q, upd_same]; rfl
    · rw [upd_ne q]; exact (R.tm x h).1
theorem Rel.nil_of (R : Rel K γ s σ H) (hp : H a = none) : γ.H0 a = none ∧ a ∉ γ.tm := ⟨none_back (R.trk a) hp, fun z => not_some hp (R.tm a z).1⟩
end
end Mp

/-! Mp: readings by the evaluator; operators. -/
namespace Mp
open PySem (Addr Value Expr PyData Str CmpOp Operator binaryOp compareOp cLine)
open L2 (V HO Hp upd upd_same upd_ne SqT SqL Rd PE PT PA Cx OpR TE TT TA VK XK WX RelV EP)

/-- how an error lies -/
abbrev ExRel := Gh → Hp → Ex → Value → Option Addr → Prop

section
variable (K : PySem.W.Frag) (RX : ExRel) (W : WX)
/-- what is wanted behind -/
def Post {α β : Type} (γ : Gh) (H : Hp) (σ : L2.St) (rel : Gh → Hp → α → β → Prop) (r : R α) (Q : β → Hp → Prop) : Prop :=
  match r with
  | .ok a s' => ∀ (γ' : Gh) (H' : Hp) (b : β), Stp γ H γ' H' → Rel K γ' s' σ H' → rel γ' H' a b → Q b H'
  | .ex e s' => ∀ (γ' : Gh) (H' : Hp) (c : Value) (d : Option Addr), Stp γ H γ' H' → Rel K γ' s' σ H' → RX γ' H' e c d → W c d σ H'
  | .bad => False
def tE (m : S → R Val) : TE := fun σ H Q => ∃ γ s, Rel K γ s σ H ∧ Post K RX W γ H σ (RelVal K) (m s) Q
def tT (m : S → R Bool) : TT := fun σ H Q => ∃ γ s, Rel K γ s σ H ∧ Post K RX W γ H σ (fun _ _ a b => a = b) (m s) Q
def tA (m : S → R (List Val)) : TA := fun σ H Q => ∃ γ s, Rel K γ s σ H ∧ Post K RX W γ H σ (RelVals K) (m s) Q
/-- a list in the making is handed on -/
def tF (m : S → R (List D)) : TE := fun σ H Q => ∃ γ s, Rel K γ s σ H ∧
  match m s with
  | .ok xs s' => ∀ (γ' : Gh) (H' : Hp) (a : Addr) (vs : List V), H a = none → Stp γ H γ' H' → Rel K (γ'.mk1 a) s' σ H' → RelDs K (γ'.mk1 a) H' xs vs → H' a = some (.lst vs) → Q (.ref a) H'
  | .ex e s' => ∀ (γ' : Gh) (H' : Hp) (c : Value) (d : Option Addr), Stp γ H γ' H' → Rel K γ' s' σ H' → RX γ' H' e c d → W c d σ H'
  | .bad => False
end

section
variable {K : PySem.W.Frag} {RX : ExRel} {W : WX} {γ : Gh} {H : Hp} {σ : L2.St}
theorem Post.bind {α α' β β' : Type} {r : R α'} {f : α' → S → R α} {rel : Gh → Hp → α → β → Prop} {rel1 : Gh → Hp → α' → β' → Prop} {Q : β → Hp → Prop} {Q1 : β' → Hp → Prop}
    (p : Post K RX W γ H σ rel (r.bind f) Q)
    (h : ∀ a s1 γ1 H1 b, Stp γ H γ1 H1 → Rel K γ1 s1 σ H1 → rel1 γ1 H1 a b → Post K RX W γ1 H1 σ rel (f a s1) Q → Q1 b H1) : Post K RX W γ H σ rel1 r Q1 := by
  cases r with
  | bad => exact p
  | ex e s => exact p
  | ok a s1 =>
    intro γ1 H1 b st R1 r1
    refine h a s1 γ1 H1 b st R1 r1 ?_
    have p' : Post K RX W γ H σ rel (f a s1) Q := p
    cases hf : f a s1 with
    | bad => rw [hf] at p'; exact p'
    | ok y s2 => rw [hf] at p'; exact fun γ2 H2 b2 st2 R2 r2 => p' γ2 H2 b2 (st.trans st2) R2 r2
    | ex e s2 => rw [hf] at p'; exact fun γ2 H2 c d st2 R2 r2 => p' γ2 H2 c d (st.trans st2) R2 r2
/-- a step ahead is forgotten -/
theorem Post.from {α β : Type} {rel : Gh → Hp → α → β → Prop} {Q : β → Hp → Prop} {r : R α} {γ1 : Gh} {H1 : Hp} (st : Stp γ H γ1 H1) (p : Post K RX W γ H σ rel r Q) : Post K RX W γ1 H1 σ rel r Q := by
  cases r with
  | bad => exact p
  | ok y s2 => exact fun γ2 H2 b2 st2 R2 r2 => p γ2 H2 b2 (st.trans st2) R2 r2
  | ex e s2 => exact fun γ2 H2 c d st2 R2 r2 => p γ2 H2 c d (st.trans st2) R2 r2
theorem Post.opt {α β : Type} {o : Option α} {s : S} {rel : Gh → Hp → α → β → Prop} {Q : β → Hp → Prop} (p : Post K RX W γ H σ rel (optR o s) Q) : ∃ a, o = some a ∧ Post K RX W γ H σ rel (.ok a s) Q := by
  cases o with
  | none => exact False.elim p
  | some a => exact ⟨a, rfl, p⟩
/-- it is there -/
theorem Post.here {α β : Type} {a : α} {s : S} {rel : Gh → Hp → α → β → Prop} {Q : β → Hp → Prop} (p : Post K RX W γ H σ rel (.ok a s) Q) (R : Rel K γ s σ H) {b : β} (r : rel γ H a b) : Q b H := p γ H b (Stp.refl γ H) R r
theorem Post.if {α β : Type} {c : Bool} {a : R α} {rel : Gh → Hp → α → β → Prop} {Q : β → Hp → Prop} (p : Post K RX W γ H σ rel (if c = true then a else .bad) Q) : c = true ∧ Post K RX W γ H σ rel a Q := by
  cases c with
  | true => exact ⟨rfl, p⟩
  | false => exact False.elim p
theorem Post.ifP {α β : Type} {c : Prop} [Decidable c] {a : R α} {rel : Gh → Hp → α → β → Prop} {Q : β → Hp → Prop} (p : Post K RX W γ H σ rel (if c then a else .bad) Q) : c ∧ Post K RX W γ H σ rel a Q := by
  by_cases h : c
  · rw [if_pos h] at p; exact ⟨h, p⟩
  · rw [if_neg h] at p; exact False.elim p
end

section
variable {X : Cx}
theorem weakE {e : Expr} {t t' : TE} (h : PE X e t) (w : ∀ σ H Q, t' σ H Q → t σ H Q) : PE X e t' := ⟨fun ps s σ H Q I q => h.run ps s σ H Q I (w σ H Q q)⟩
theorem weakT {e : Expr} {t t' : TT} (h : PT X e t) (w : ∀ σ H Q, t' σ H Q → t σ H Q) : PT X e t' := ⟨fun ps s σ H Q I q => h.run ps s σ H Q I (w σ H Q q)⟩
theorem weakA {e : List Expr} {t t' : TA} (h : PA X e t) (w : ∀ σ H Q, t' σ H Q → t σ H Q) : PA X e t' := ⟨fun pos ps s σ H Q I q => h.run pos ps s σ H Q I (w σ H Q q)⟩
end

/-! ### data -/
section
variable {K : PySem.W.Frag} {γ : Gh} {H : Hp} {s : S} {σ : L2.St}
mutual
theorem dp_of : ∀ (x : D) (v : V) (d : PyData), RelD K γ H x v → x.py = some d → L2.Dp K H v d
  | .non, _, _, .non, e => by cases e; exact .non
  | .bl b, _, _, .bl _, e => by cases e; exact .bl b
  | .int i, _, _, .int _, e => by cases e; exact .int i
  | .str x, _, _, .str _, e => by cases e; exact .str x
  | .tup xs, _, d, .tup (vs := vs) h r, e => by
    simp only [D.py, Option.map_eq_some_iff] at e
    obtain ⟨ds, e1, rfl⟩ := e
    exact .tup h (dps_of xs vs ds r e1)
  | .lst xs, _, d, .lst (vs := vs) h nb r, e => by
    simp only [D.py, Option.map_eq_some_iff] at e
    obtain ⟨ds, e1, rfl⟩ := e
    exact .lst (SqL.of h) (dps_of xs vs ds r e1)
  | .scr xs, _, d, .scr (vs := vs) h nb r, e => by
    simp only [D.py, Option.map_eq_some_iff] at e
    obtain ⟨ds, e1, rfl⟩ := e
    exact .lst (.inl h) (dps_of xs vs ds r e1)
  | .scr xs, _, d, .scrK (vs := vs) h r, e => by
    simp only [D.py, Option.map_eq_some_iff] at e
    obtain ⟨ds, e1, rfl⟩ := e
    exact .lst (h H) (dps_of xs vs ds r e1)
  | .dct _ _, _, _, .dct _ _ _ _, e => by simp [D.py] at e
  | .ref _, _, _, .ref _, e => by simp [D.py] at e
theorem dps_of : ∀ (xs : List D) (vs : List V) (ds : List PyData), RelDs K γ H xs vs → D.pys xs = some ds → L2.DpAll K H vs ds
  | [], _, _, .nil, e => by cases e; exact .nil
  | x :: xs, v :: vs, ds, .cons h r, e => by
    unfold D.pys at e
    cases q : x.py with
    | none => rw [q] at e; simp at e
    | some d =>
      cases q2 : D.pys xs with
      | none => rw [q, q2] at e; simp at e
      | some l =>
        rw [q, q2] at e
        cases e
        exact .cons (dp_of x v d h q) (dps_of xs vs l r q2)
end
mutual
theorem dp_plain : ∀ (d : PyData) (v : V), L2.Dp K H v d → d.plain = true
  | .none, _, _ => rfl
  | .bool _, _, _ => rfl
  | .int _, _, _ => rfl
  | .str _, _, _ => rfl
  | .list ds, _, .lst (xs := xs) _ r => dps_plain ds xs r
  | .tuple ds, _, .tup (xs := xs) _ r => dps_plain ds xs r
theorem dps_plain : ∀ (ds : List PyData) (vs : List V), L2.DpAll K H vs ds → PyData.plainAll ds = true
  | [], _, _ => rfl
  | d :: ds, _, .cons (v := v) (vs := vs) h r => by
    unfold PyData.plainAll
    rw [dp_plain d v h, dps_plain ds vs r]
    rfl
end
theorem relDs_len {xs : List D} {vs : List V} (h : RelDs K γ H xs vs) : xs.length = vs.length := by
  induction xs generalizing vs with
  | nil => cases h; rfl
  | cons x xs ih =>
    cases h with
    | cons _ t => simp only [List.length_cons, ih t]
theorem relDs_get {xs : List D} {vs : List V} (h : RelDs K γ H xs vs) : ∀ {i : Nat} {x : D}, xs[i]? = some x → ∃ v, vs[i]? = some v ∧ RelD K γ H x v := by
  induction xs generalizing vs with
  | nil => intro i x e; simp at e
  | cons y ys ih =>
    cases h with
    | cons h t =>
      intro i x e
      cases i with
      | zero => simp at e; subst e; exact ⟨_, rfl, h⟩
      | succ i => simp at e; exact ih t e
theorem relDs_app {xs ys : List D} {vs us : List V} (h : RelDs K γ H xs vs) (g : RelDs K γ H ys us) : RelDs K γ H (xs ++ ys) (vs ++ us) := by
  induction xs generalizing vs with
  | nil => cases h; exact g
  | cons x xs ih =>
    cases h with
    | cons h t => exact .cons h (ih t)
theorem relDs_set {xs : List D} {vs : List V} (h : RelDs K γ H xs vs) {x : D} {v : V} (r : RelD K γ H x v) : ∀ (i : Nat), RelDs K γ H (xs.set i x) (vs.set i v) := by
  induction xs generalizing vs with
  | nil => cases h; intro i; exact .nil
  | cons y ys ih =>
    cases h with
    | cons h t =>
      intro i
      cases i with
      | zero => exact .cons r t
      | succ i => exact .cons h (ih t i)
theorem toDs_rel : ∀ {vs : List Val} {us : List V} {ds : List D}, RelVals K γ H vs us → toDs vs = some ds → RelDs K γ H ds us
  | [], _, _, .nil, e => by cases e; exact .nil
  | .d x :: vs, _ :: us, ds, .cons h t, e => by
    simp only [toDs, Option.map_eq_some_iff] at e
    obtain ⟨l, e1, rfl⟩ := e
    exact .cons h (toDs_rel t e1)
  | .own _ :: _, _ :: _, _, .cons _ _, e => by simp [toDs] at e

/-- what seqv says, in the heap -/
theorem seq_rel (R : Rel K γ s σ H) {v : Val} {x : V} {b : Bool} {xs : List D} (r : RelVal K γ H v x) (e : seqv v s = some (b, xs)) :
    ∃ a vs, x = .ref a ∧ RelDs K γ H xs vs ∧ (if b = true then SqL K H a vs else SqT K H a vs) := by
  cases v with
  | own j =>
    obtain ⟨a, rfl, ha⟩ := r
    obtain ⟨ys, vs, hc, hh, rr⟩ := R.cellF ha
    simp only [seqv, hc] at e
    cases e
    exact ⟨a, vs, rfl, rr, SqL.of hh⟩
  | d y =>
    cases y with
    | tup ys =>
      cases r with
      | tup h rr => cases e; exact ⟨_, _, rfl, rr, h⟩
    | lst ys =>
      cases r with
      | lst h nb rr => cases e; exact ⟨_, _, rfl, rr, SqL.of h⟩
    | scr ys =>
      cases r with
      | scr h nb rr => cases e; exact ⟨_, _, rfl, rr, .inl h⟩
      | scrK h rr => cases e; exact ⟨_, _, rfl, rr, h H⟩
    | ref n =>
      cases r with
      | ref ha =>
        obtain ⟨ys, vs, hc, hh, rr⟩ := R.cellG ha
        simp only [seqv, hc] at e
        cases e
        exact ⟨_, vs, rfl, rr, SqL.of hh⟩
    | _ => simp [seqv] at e
theorem val_dp (R : Rel K γ s σ H) {v : Val} {x : V} {d : PyData} (r : RelVal K γ H v x) (e : v.py s = some d) : L2.Dp K H x d := by
  cases v with
  | own j =>
    obtain ⟨a, rfl, ha⟩ := r
    obtain ⟨ys, vs, hc, hh, rr⟩ := R.cellF ha
    simp only [Val.py, hc, Option.map_eq_some_iff] at e
    obtain ⟨ds, e1, rfl⟩ := e
    exact .lst (SqL.of hh) (dps_of _ _ _ rr e1)
  | d y =>
    cases y with
    | ref n =>
      cases r with
      | ref ha =>
        obtain ⟨ys, vs, hc, hh, rr⟩ := R.cellG ha
        simp only [Val.py, hc, Option.map_eq_some_iff] at e
        obtain ⟨ds, e1, rfl⟩ := e
        exact .lst (SqL.of hh) (dps_of _ _ _ rr e1)
    | _ => exact dp_of _ _ _ r e
end

/-! ### operators by values -/
section
variable {X : Cx} {RX : ExRel} {W : WX}
theorem op_eqP (hu : X.A.units + 200 < cLine) : OpR X (compareOp .Eq) (fun x y H Q => ∃ d e, L2.Dp X.K H x d ∧ L2.Dp X.K H y e ∧ min d.depth e.depth ≤ 100 ∧ Q (.bl (PyData.eqv d e)) H) := by
  intro ps s σ H x y v u Q I rx ry ⟨d, e, hd, he, hm, q⟩
  obtain ⟨as, r1⟩ := L2.Dp.reads I d x v hd rx
  obtain ⟨bs, r2⟩ := L2.Dp.reads I e y u he ry
  exact PySem.SeqAt.eq_plain r1 r2 (dp_plain d x hd) (dp_plain e y he) (by omega) ⟨.bl _, H, I, rfl, q⟩
theorem op_neP (hu : X.A.units + 200 < cLine) : OpR X (compareOp .NotEq) (fun x y H Q => ∃ d e, L2.Dp X.K H x d ∧ L2.Dp X.K H y e ∧ min d.depth e.depth ≤ 100 ∧ Q (.bl (!PyData.eqv d e)) H) := by
  intro ps s σ H x y v u Q I rx ry ⟨d, e, hd, he, hm, q⟩
  obtain ⟨as, r1⟩ := L2.Dp.reads I d x v hd rx
  obtain ⟨bs, r2⟩ := L2.Dp.reads I e y u he ry
  exact PySem.SeqAt.ne_plain r1 r2 (dp_plain d x hd) (dp_plain e y he) (by omega) ⟨.bl _, H, I, rfl, q⟩
/-- two lists of other lengths -/
def rLenP (K : PySem.W.Frag) (f : Bool → Bool) : L2.R2 := fun x y H Q => ∃ (a b : Addr) (xs ys : List V), x = .ref a ∧ y = .ref b ∧ SqL K H a xs ∧ SqL K H b ys ∧ xs.length ≠ ys.length ∧ Q (.bl (f false)) H
theorem op_eqL (hu : X.A.units + 200 < cLine) : OpR X (compareOp .Eq) (rLenP X.K id) := by
  intro ps s σ H x y v u Q I rx ry h
  obtain ⟨a, b, xs, ys, rfl, rfl, h1, h2, hn, q⟩ := h
  cases rx; cases ry
  obtain ⟨is, r1, ⟨o1, n1, ho1, hc1, _, hd1⟩, _⟩ := I.list h1
  obtain ⟨js, r2, ⟨o2, n2, ho2, hc2, _, hd2⟩, _⟩ := I.list h2
  have l1 : xs.length = is.length := r1.length
  have l2 : ys.length = js.length := r2.length
  exact PySem.SeqAt.RcAt.lists_lengths ⟨o1, ho1, hc1, n1, hd1⟩ ⟨o2, ho2, hc2, n2, hd2⟩ (by simp only [bne_iff_ne, ne_eq, List.size_toArray]; omega) (by omega) _ _ _ _ ⟨.bl false, H, I, rfl, q⟩
theorem op_neL (hu : X.A.units + 200 < cLine) : OpR X (compareOp .NotEq) (rLenP X.K not) := by
  intro ps s σ H x y v u Q I rx ry h
  obtain ⟨a, b, xs, ys, rfl, rfl, h1, h2, hn, q⟩ := h
  cases rx; cases ry
  obtain ⟨is, r1, ⟨o1, n1, ho1, hc1, _, hd1⟩, _⟩ := I.list h1
  obtain ⟨js, r2, ⟨o2, n2, ho2, hc2, _, hd2⟩, _⟩ := I.list h2
  have l1 : xs.length = is.length := r1.length
  have l2 : ys.length = js.length := r2.length
  exact PySem.SeqAt.RcNeAt.lists_lengths ⟨o1, ho1, hc1, n1, hd1⟩ ⟨o2, ho2, hc2, n2, hd2⟩ (by simp only [bne_iff_ne, ne_eq, List.size_toArray]; omega) (by omega) _ _ _ _ ⟨.bl true, H, I, rfl, q⟩
/-- x in a list | tuple of data -/
def rInP (K : PySem.W.Frag) (f : Bool → Bool) : L2.R2 := fun x y H Q => ∃ (d : PyData) (a : Addr) (vs : List V) (l : List PyData), L2.Dp K H x d ∧ y = .ref a ∧ (SqL K H a vs ∨ SqT K H a vs) ∧ L2.DpAll K H vs l ∧ d.depth ≤ 100 ∧ Q (.bl (f (inSeq d l))) H
theorem op_inP (hu : X.A.units + 200 < cLine) : OpR X (compareOp .In) (rInP X.K id) := by
  intro ps s σ H x y v u Q I rx ry h
  obtain ⟨d, a, vs, l, hd, rfl, hs, hl, hm, q⟩ := h
  obtain ⟨as, r1⟩ := L2.Dp.reads I d x v hd rx
  have hb : X.A.units + 1 + min (PyData.depthAll l) d.depth < cLine := by omega
  rcases hs with hs | hs
  · obtain ⟨bs, r2⟩ := L2.Dp.reads I _ _ u (.lst hs hl) ry
    exact PySem.SeqAt.in_list_data r2 r1 (dps_plain l vs hl) (dp_plain d x hd) hb ⟨.bl _, H, I, rfl, q⟩
  · obtain ⟨bs, r2⟩ := L2.Dp.reads I _ _ u (.tup hs hl) ry
    exact PySem.SeqAt.in_tuple_data r2 r1 (dps_plain l vs hl) (dp_plain d x hd) hb ⟨.bl _, H, I, rfl, q⟩
theorem op_notinP (hu : X.A.units + 200 < cLine) : OpR X (compareOp .NotIn) (rInP X.K not) := by
  intro ps s σ H x y v u Q I rx ry h
  obtain ⟨d, a, vs, l, hd, rfl, hs, hl, hm, q⟩ := h
  obtain ⟨as, r1⟩ := L2.Dp.reads I d x v hd rx
  have hb : X.A.units + 1 + min (PyData.depthAll l) d.depth < cLine := by omega
  rcases hs with hs | hs
  · obtain ⟨bs, r2⟩ := L2.Dp.reads I _ _ u (.lst hs hl) ry
    exact PySem.SeqAt.notIn_list_data r2 r1 (dps_plain l vs hl) (dp_plain d x hd) hb ⟨.bl _, H, I, rfl, q⟩
  · obtain ⟨bs, r2⟩ := L2.Dp.reads I _ _ u (.tup hs hl) ry
    exact PySem.SeqAt.notIn_tuple_data r2 r1 (dps_plain l vs hl) (dp_plain d x hd) hb ⟨.bl _, H, I, rfl, q⟩

def opP : Bo → Operator
  | .add => .Add | .sub => .Sub | .mul => .Mult | .fdiv => .FloorDiv | .mod => .Mod | .pow => .Pow
def coP : Co → CmpOp
  | .eq => .Eq | .ne => .NotEq | .lt => .Lt | .le => .LtE | .gt => .Gt | .ge => .GtE | .is => .Is | .isnot => .IsNot | .in_ => .In | .notin => .NotIn

theorem okI_lt {i : Int} (h : okI i = true) : i.natAbs < BIG := by
  unfold okI at h
  exact of_decide_eq_true h
theorem okI_log {i : Int} (h : okI i = true) : i.natAbs.log2 < 9000 := by
  have h2 : i.natAbs < 2 ^ 9000 := okI_lt h
  exact PySem.Flt.log2_lt_of (by decide) h2
theorem okI_bits {i : Int} (h : okI i = true) : PySem.Builtin.Int.intBits i ≤ 9000 := by
  have := okI_log h
  unfold PySem.Builtin.Int.intBits
  split
  · exact Nat.zero_le _
  · omega
theorem op_powP : OpR X (binaryOp .Pow) (L2.rI (fun i j => 0 ≤ j ∧ j ≤ 1000 ∧ okI i = true) fun i j => .int (i ^ j.toNat)) :=
  L2.opI fun i j _ _ _ _ _ hc q => PyProof.Rows.pow_int hc.1 (by
    have h1 := okI_bits hc.2.2
    have h2 := hc.2.1
    have h3 : (PySem.Builtin.Int.intBits i : Int) ≤ 9000 := by omega
    have h4 : (PySem.Builtin.Int.intBits i : Int) * j ≤ 9000 * 1000 := Int.mul_le_mul h3 h2 hc.1 (by omega)
    omega) q
/-- two values of the evaluator, then its operator -/
def rB (K : PySem.W.Frag) (RX : ExRel) (W : WX) (m : Val → Val → S → R Val) : L2.R2 := fun x y H Q => ∃ γ s σ v w, Rel K γ s σ H ∧ RelVal K γ H v x ∧ RelVal K γ H w y ∧ Post K RX W γ H σ (RelVal K) (m v w s) Q

theorem relDs_nil {K : PySem.W.Frag} {γ : Gh} {H : Hp} {vs : List V} (h : RelDs K γ H [] vs) : vs = [] := by cases h; rfl

theorem line_le {n : Nat} (h : n ≤ LINE) : n ≤ PySem.sizeLine := Nat.le_trans h (by decide)
theorem line_lt {n : Nat} (h : n < LINE) : n < PySem.sizeLine := Nat.lt_of_lt_of_le h (by decide)
/-- a new list, let go -/
theorem new_lst {K : PySem.W.Frag} {γ : Gh} {s : S} {σ : L2.St} {H : Hp} {p : Addr} {xs : List D} {vs : List V} (R : Rel K γ s σ H) (hp : H p = none) (r : RelDs K γ H xs vs) :
    RelD K γ (upd H p (.lst vs)) (.lst xs) (.ref p) := .lst upd_same (R.notBad hp) (RelDs.step (Stp.new γ hp).toSts R.tups _ _ r)
theorem new_tup {K : PySem.W.Frag} {γ : Gh} {s : S} {σ : L2.St} {H : Hp} {p : Addr} {xs : List D} {vs : List V} (R : Rel K γ s σ H) (hp : H p = none) (r : RelDs K γ H xs vs) :
    RelD K γ (upd H p (.tup vs)) (.tup xs) (.ref p) := .tup (SqT.of upd_same) (RelDs.step (Stp.new γ hp).toSts R.tups _ _ r)

theorem lsto_rel {K : PySem.W.Frag} {γ : Gh} {s : S} {σ : L2.St} {H : Hp} (R : Rel K γ s σ H) {v : Val} {x : V} {xs : List D} (r : RelVal K γ H v x) (e : lsto v s = some xs) : ∃ a vs, x = .ref a ∧ H a = some (.lst vs) ∧ RelDs K γ H xs vs := by
  cases v with
  | own j =>
    obtain ⟨a, rfl, ha⟩ := r
    obtain ⟨ys, vs, hc, hh, rr⟩ := R.cellF ha
    simp only [lsto, hc] at e
    cases e
    exact ⟨a, vs, rfl, hh, rr⟩
  | d y =>
    cases y with
    | lst ys =>
      cases r with
      | lst h nb rr => cases e; exact ⟨_, _, rfl, h, rr⟩
    | ref n =>
      cases r with
      | ref ha =>
        obtain ⟨ys, vs, hc, hh, rr⟩ := R.cellG ha
        simp only [lsto, hc] at e
        cases e
        exact ⟨_, vs, rfl, hh, rr⟩
    | _ => simp [lsto] at e

theorem opR_bin (op : Bo) : OpR X (binaryOp (opP op)) (rB X.K RX W (binop op)) := by
  intro ps st τ H x y v u Q I rx ry h
  obtain ⟨γ, s, σ, a, b, R, ra, rb, p⟩ := h
  unfold binop at p
  split at p
  · cases ra; cases rb
    exact L2.op_add ps st τ H _ _ v u Q I rx ry ⟨_, _, rfl, rfl, p.here R (.int _)⟩
  · cases ra; cases rb
    exact L2.op_sub ps st τ H _ _ v u Q I rx ry ⟨_, _, rfl, rfl, p.here R (.int _)⟩
  · obtain ⟨hc, p⟩ := Post.if p
    rw [Bool.and_eq_true] at hc
    cases ra; cases rb
    have h1 := okI_log hc.1
    have h2 := okI_log hc.2
    exact L2.op_mulW ps st τ H _ _ v u Q I rx ry ⟨_, _, rfl, rfl, (by unfold L2.CMulW; omega), p.here R (.int _)⟩
  · obtain ⟨hc, p⟩ := Post.if p
    rw [Bool.and_eq_true, decide_eq_true_eq] at hc
    cases ra; cases rb
    exact L2.op_fdivW ps st τ H _ _ v u Q I rx ry ⟨_, _, rfl, rfl, ⟨hc.1, okI_log hc.2⟩, p.here R (.int _)⟩
  · obtain ⟨hc, p⟩ := Post.if p
    rw [decide_eq_true_eq] at hc
    cases ra; cases rb
    exact L2.op_mod ps st τ H _ _ v u Q I rx ry ⟨_, _, rfl, rfl, hc, p.here R (.int _)⟩
  · obtain ⟨hc, p⟩ := Post.if p
    rw [Bool.and_eq_true, Bool.and_eq_true, decide_eq_true_eq, decide_eq_true_eq] at hc
    cases ra; cases rb
    exact op_powP ps st τ H _ _ v u Q I rx ry ⟨_, _, rfl, rfl, ⟨hc.1.1, hc.1.2, hc.2⟩, p.here R (.int _)⟩
  · obtain ⟨hl, p⟩ := Post.ifP p
    cases ra; cases rb
    exact L2.op_add_str ps st τ H _ _ v u Q I rx ry ⟨_, _, rfl, rfl, line_le hl, p.here R (.str _)⟩
  · obtain ⟨hl, p⟩ := Post.ifP p
    cases ra with
    | tup t1 r1 =>
      cases rb with
      | tup t2 r2 =>
        have l1 := relDs_len r1
        have l2 := relDs_len r2
        refine L2.op_catA ps st τ H _ _ v u Q I rx ry ⟨_, _, _, _, rfl, rfl, t1, t2, line_le (by omega), fun hv => ?_, fun hv hu => ?_, fun hv hu p1 hp => ?_⟩
        · subst hv
          have := List.length_eq_zero_iff.mp (l1.trans rfl)
          subst this
          exact p.here R (.tup t2 r2)
        · subst hu
          have := List.length_eq_zero_iff.mp (l2.trans rfl)
          subst this
          rw [List.append_nil] at p
          exact p.here R (.tup t1 r1)
        · exact p γ _ _ (Stp.new γ hp) (R.new hp) (new_tup R hp (relDs_app r1 r2))
  · split at p
    · rename_i xs ys e1 e2
      obtain ⟨hl, p⟩ := Post.ifP p
      obtain ⟨a1, vs, rfl, h1, r1⟩ := lsto_rel R ra e1
      obtain ⟨a2, us, rfl, h2, r2⟩ := lsto_rel R rb e2
      have l1 := relDs_len r1
      have l2 := relDs_len r2
      exact L2.op_cat ps st τ H _ _ v u Q I rx ry ⟨a1, a2, vs, us, rfl, rfl, h1, h2, line_le (by omega), fun p1 hp => p γ _ _ (Stp.new γ hp) (R.new hp) (new_lst R hp (relDs_app r1 r2))⟩
    · exact False.elim p
  · exact False.elim p

/-! ### comparisons -/
def rC (K : PySem.W.Frag) (RX : ExRel) (W : WX) (op : Co) : L2.R2 := fun x y H Q => ∃ γ s σ v w b, Rel K γ s σ H ∧ RelVal K γ H v x ∧ RelVal K γ H w y ∧ cmpop op v w s = some b ∧ Q (.bl b) H
theorem is_none {K : PySem.W.Frag} {γ : Gh} {H : Hp} {v w : Val} {x y : V} {b : Bool} (ra : RelVal K γ H v x) (rb : RelVal K γ H w y) (e : isVal v w = some b) : (y = .non ∧ b = decide (x = .non)) ∨ ∃ i j, x = .bl i ∧ y = .bl j ∧ b = decide (i = j) := by
  unfold isVal at e
  split at e
  · cases ra; cases rb; cases e; exact .inl ⟨rfl, by simp⟩
  · cases ra; cases rb; cases e; exact .inr ⟨_, _, rfl, rfl, by rw [Bool.beq_eq_decide_eq]⟩
  · cases ra; cases rb; cases e; exact .inl ⟨rfl, by simp⟩
  · cases ra; cases rb; cases e; exact .inl ⟨rfl, by simp⟩
  · cases ra; cases rb; cases e; exact .inl ⟨rfl, by simp⟩
  · cases ra; cases rb; cases e; exact .inl ⟨rfl, by simp⟩
  · cases ra <;> cases rb <;> cases e <;> exact .inl ⟨rfl, by simp⟩
  · cases ra; cases rb; cases e; exact .inl ⟨rfl, by simp⟩
  · cases ra
  · cases ra; cases rb; cases e; exact .inl ⟨rfl, by simp⟩
  · obtain ⟨a, rfl, _⟩ := ra
    cases rb; cases e; exact .inl ⟨rfl, by simp⟩
  · cases e
theorem in_cases {K : PySem.W.Frag} {γ : Gh} {s : S} {σ : L2.St} {H : Hp} (R : Rel K γ s σ H) {v w : Val} {x y : V} {b : Bool} (ra : RelVal K γ H v x) (rb : RelVal K γ H w y) (e : inVal v w s = some b) :
    (∃ c z, x = .str ⟨#[c]⟩ ∧ y = .str z ∧ b = decide (c ∈ z.cps.toList)) ∨ ∃ (d : PyData) (a : Addr) (vs : List V) (l : List PyData), L2.Dp K H x d ∧ y = .ref a ∧ (SqL K H a vs ∨ SqT K H a vs) ∧ L2.DpAll K H vs l ∧ d.depth ≤ 100 ∧ b = inSeq d l := by
  unfold inVal at e
  split at e
  · rename_i a z
    cases ra; cases rb
    split at e
    · rename_i h1
      obtain ⟨c, hc, rfl⟩ := Option.map_eq_some_iff.mp e
      refine .inl ⟨c, z, ?_, rfl, rfl⟩
      have : a = ⟨#[c]⟩ := by
        obtain ⟨cs⟩ := a
        congr 1
        have h1' : cs.size = 1 := h1
        obtain ⟨h2, h3⟩ := Array.getElem?_eq_some_iff.mp hc
        apply Array.ext
        · simpa using h1'
        · intro i hi hj
          have : i = 0 := by omega
          subst this
          simpa using h3
      rw [this]
    · cases e
  · split at e
    · rename_i d _ ys e1 e2
      split at e
      · rename_i l e3
        split at e
        · rename_i hd
          cases e
          obtain ⟨a, vs, rfl, r1, t1⟩ := seq_rel R rb e2
          refine .inr ⟨d, a, vs, l, val_dp R ra e1, rfl, ?_, dps_of _ _ _ r1 e3, hd, rfl⟩
          split at t1
          · exact .inl t1
          · exact .inr t1
        · cases e
      · cases e
    · cases e
theorem opR_cmp (hu : X.A.units + 200 < cLine) (op : Co) : OpR X (compareOp (coP op)) (rC X.K RX W op) := by
  intro ps st τ H x y v u Q I rx ry h
  obtain ⟨γ, s, σ, a, b, k, R, ra, rb, e, q⟩ := h
  have eqs : ∀ {k : Bool}, eqVal a b s = some k → (∃ d e, L2.Dp X.K H x d ∧ L2.Dp X.K H y e ∧ min d.depth e.depth ≤ 100 ∧ k = PyData.eqv d e) ∨ (∃ (a' b' : Addr) (xs ys : List V), x = .ref a' ∧ y = .ref b' ∧ SqL X.K H a' xs ∧ SqL X.K H b' ys ∧ xs.length ≠ ys.length ∧ k = false) := fun {k} h => by
    unfold eqVal at h
    split at h
    · rename_i d1 d2 h1 h2
      split at h
      · rename_i hm
        cases h
        exact .inl ⟨d1, d2, val_dp R ra h1, val_dp R rb h2, hm, rfl⟩
      · cases h
    · split at h
      · rename_i xs ys e1 e2
        split at h
        · cases h
        · rename_i hl
          cases h
          obtain ⟨a1, vs1, rfl, r1, t1⟩ := seq_rel R ra e1
          obtain ⟨a2, vs2, rfl, r2, t2⟩ := seq_rel R rb e2
          refine .inr ⟨a1, a2, vs1, vs2, rfl, rfl, t1, t2, ?_, rfl⟩
          rw [← relDs_len r1, ← relDs_len r2]
          exact hl
      · cases h
  cases op with
  | eq =>
    rcases eqs e with ⟨d1, d2, h1, h2, hm, rfl⟩ | ⟨a', b', xs, ys, rfl, rfl, h1, h2, hl, rfl⟩
    case inr => exact op_eqL hu ps st τ H _ _ v u Q I rx ry ⟨a', b', xs, ys, rfl, rfl, h1, h2, hl, q⟩
    exact op_eqP hu ps st τ H x y v u Q I rx ry ⟨d1, d2, h1, h2, hm, q⟩
  | ne =>
    obtain ⟨k', e', rfl⟩ := Option.map_eq_some_iff.mp e
    rcases eqs e' with ⟨d1, d2, h1, h2, hm, rfl⟩ | ⟨a', b', xs, ys, rfl, rfl, h1, h2, hl, rfl⟩
    case inr => exact op_neL hu ps st τ H _ _ v u Q I rx ry ⟨a', b', xs, ys, rfl, rfl, h1, h2, hl, q⟩
    exact op_neP hu ps st τ H x y v u Q I rx ry ⟨d1, d2, h1, h2, hm, q⟩
  | is =>
    rcases is_none ra rb e with ⟨rfl, rfl⟩ | ⟨i, j, rfl, rfl, rfl⟩
    · exact L2.op_isN ps st τ H _ _ v u Q I rx ry ⟨rfl, q⟩
    · exact L2.op_is_bl ps st τ H _ _ v u Q I rx ry ⟨_, _, rfl, rfl, q⟩
  | isnot =>
    obtain ⟨k', e', rfl⟩ := Option.map_eq_some_iff.mp e
    rcases is_none ra rb e' with ⟨rfl, rfl⟩ | ⟨i, j, rfl, rfl, rfl⟩
    · exact L2.op_notN ps st τ H _ _ v u Q I rx ry ⟨rfl, q⟩
    · exact L2.op_isnot_bl ps st τ H _ _ v u Q I rx ry ⟨_, _, rfl, rfl, q⟩
  | in_ =>
    rcases in_cases R ra rb e with ⟨c, z, rfl, rfl, rfl⟩ | ⟨d, a', vs, l, hd, rfl, hs, hl, hm, rfl⟩
    · exact L2.op_in_sign ps st τ H _ _ v u Q I rx ry ⟨c, z, rfl, rfl, q⟩
    · exact op_inP hu ps st τ H _ _ v u Q I rx ry ⟨d, a', vs, l, hd, rfl, hs, hl, hm, q⟩
  | notin =>
    obtain ⟨k', e', rfl⟩ := Option.map_eq_some_iff.mp e
    rcases in_cases R ra rb e' with ⟨c, z, rfl, rfl, rfl⟩ | ⟨d, a', vs, l, hd, rfl, hs, hl, hm, rfl⟩
    · exact L2.op_notIn_sign ps st τ H _ _ v u Q I rx ry ⟨c, z, rfl, rfl, q⟩
    · exact op_notinP hu ps st τ H _ _ v u Q I rx ry ⟨d, a', vs, l, hd, rfl, hs, hl, hm, q⟩
  | _ =>
    simp only [cmpop] at e
    split at e
    · cases ra; cases rb
      cases e
      first
        | exact L2.op_lt ps st τ H _ _ v u Q I rx ry ⟨_, _, rfl, rfl, q⟩
        | exact L2.op_le ps st τ H _ _ v u Q I rx ry ⟨_, _, rfl, rfl, q⟩
        | exact L2.op_gt ps st τ H _ _ v u Q I rx ry ⟨_, _, rfl, rfl, q⟩
        | exact L2.op_ge ps st τ H _ _ v u Q I rx ry ⟨_, _, rfl, rfl, q⟩
    · cases e
end
end Mp

/-! Mp: built-ins, truth, subscripts by values. -/
namespace Mp
open PySem (Addr Value Expr PyData Str CmpOp Operator binaryOp compareOp cLine)
open L2 (V HO Hp upd upd_same upd_ne SqT SqL Rd PE PT PA Cx OpR TE TT TA VK XK WX RelV EP CallR MtR IxR Gl)

section
variable {X : Cx} {RX : ExRel} {W : WX}
theorem truth_rel {K : PySem.W.Frag} {γ : Gh} {s : S} {σ : L2.St} {H : Hp} (R : Rel K γ s σ H) {v : Val} {x : V} {k : Bool} (r : RelVal K γ H v x) (e : truth v s = some k) : L2.TruV K x H k := by
  have sq : ∀ {v : Val}, RelVal K γ H v x → (seqv v s).map (fun p => !p.2.isEmpty) = some k → L2.TruV K x H k := fun {v} r e => by
    obtain ⟨⟨b, xs⟩, e1, rfl⟩ := Option.map_eq_some_iff.mp e
    obtain ⟨a, vs, rfl, rr, t⟩ := seq_rel R r e1
    have l := relDs_len rr
    have em : (!xs.isEmpty) = !vs.isEmpty := by cases xs <;> cases vs <;> simp at l <;> rfl
    cases b with
    | true => exact .inl ⟨vs, t, em⟩
    | false => exact .inr (.inl ⟨vs, t, em⟩)
  unfold truth at e
  split at e
  · cases r; cases e; exact rfl
  · cases r; cases e; exact rfl
  · cases r; cases e; exact rfl
  · cases r
    split at e
    · rename_i hl
      cases e
      refine ⟨line_le hl, ?_⟩
      rename_i x
      rw [Bool.eq_iff_iff]
      simp only [bne_iff_ne, ne_eq]
      omega
    · cases e
  · exact sq r e

/-! ### subscripts -/
def rIxP (K : PySem.W.Frag) (RX : ExRel) (W : WX) : L2.R2 := fun x y H Q => ∃ γ s σ v w z, Rel K γ s σ H ∧ RelVal K γ H v x ∧ RelVal K γ H w y ∧ subVal v w s = some z ∧ ∀ u, RelVal K γ H z u → Q u H
theorem atI_eq {α : Type} (xs : List α) (i : Int) : atI xs i = L2.atI xs i := by
  unfold atI L2.atI L2.ixN
  by_cases h : 0 ≤ i
  · rw [if_pos h, if_pos h]
    by_cases h2 : i < xs.length
    · rw [if_pos h2]; rfl
    · rw [if_neg h2]
      rw [List.getElem?_eq_none (by omega)]
      rfl
  · rw [if_neg h, if_neg h]
    by_cases h2 : i + xs.length < 0
    · rw [if_pos h2, if_neg (by omega)]; rfl
    · rw [if_neg h2, if_pos (by omega)]; rfl
theorem atI_rel {K : PySem.W.Frag} {γ : Gh} {H : Hp} {xs : List D} {vs : List V} (r : RelDs K γ H xs vs) {i : Int} {z : D} (e : atI xs i = some z) : ∃ v, L2.atI vs i = some v ∧ RelD K γ H z v := by
  rw [← atI_eq]
  have l := relDs_len r
  unfold atI at e ⊢
  rw [← l]
  split at e
  · rename_i h; rw [if_pos h]; exact relDs_get r e
  · rename_i h
    rw [if_neg h]
    split at e
    · cases e
    · rename_i h2; rw [if_neg h2]; exact relDs_get r e
theorem ixR_sub : IxR X (rIxP X.K RX W) := by
  intro va sl ps st τ H x y v u Q I rx ry h hs
  obtain ⟨γ, s, σ, a, b, z, R, ra, rb, e, q⟩ := h
  unfold subVal at e
  split at e
  · split at e
    · rename_i hl
      obtain ⟨c, hc, rfl⟩ := Option.map_eq_some_iff.mp e
      cases ra; cases rb
      exact L2.ix_str va sl ps st τ H _ _ v u Q I rx ry ⟨_, _, c, rfl, rfl, line_le hl, (atI_eq _ _).symm.trans hc, q _ (.str _)⟩ hs
    · cases e
  · split at e
    · rename_i k _ b' xs e1
      obtain ⟨z', hz, rfl⟩ := Option.map_eq_some_iff.mp e
      obtain ⟨a1, vs, rfl, r1, t⟩ := seq_rel R ra e1
      cases rb
      obtain ⟨w, hw, rw'⟩ := atI_rel r1 hz
      cases b' with
      | true => exact L2.ix_list va sl ps st τ H _ _ v u Q I rx ry ⟨a1, vs, _, w, rfl, rfl, t, hw, q w rw'⟩ hs
      | false => exact L2.ix_tup va sl ps st τ H _ _ v u Q I rx ry ⟨a1, vs, _, w, rfl, rfl, t, hw, q w rw'⟩ hs
    · cases e
  · cases e

/-! ### built-in functions -/
def bfN : Bf → Str
  | .len => "len" | .int => "int" | .abs => "abs" | .max => "max" | .min => "min" | .str => "str" | .tuple => "tuple" | .all => "all" | .any => "any" | .sum => "sum" | .bool => "bool"
def bfV : Bf → Value
  | .len => .builtin "len" | .int => .type "int" | .abs => .builtin "abs" | .max => .builtin "max" | .min => .builtin "min" | .str => .type "str" | .tuple => .type "tuple" | .all => .builtin "all" | .any => .builtin "any" | .sum => .builtin "sum" | .bool => .type "bool"
theorem bf_boot (b : Bf) : PySem.bootBuiltins (bfN b) = some (bfV b) := by cases b <;> decide +kernel
theorem bf_name (b : Bf) : bfN b ≠ "__name__" := by cases b <;> decide +kernel
theorem bf_debug (b : Bf) : (bfN b == ("__debug__" : Str)) = false := by cases b <;> decide +kernel
def rBf (K : PySem.W.Frag) (RX : ExRel) (W : WX) (b : Bf) : List V → Hp → VK → Prop := fun xs H Q => ∃ γ s σ vs, Rel K γ s σ H ∧ RelVals K γ H vs xs ∧ Post K RX W γ H σ (RelVal K) (bfn b vs s) Q
theorem relVals_one {K : PySem.W.Frag} {γ : Gh} {H : Hp} {v : Val} {xs : List V} (h : RelVals K γ H [v] xs) : ∃ x, xs = [x] ∧ RelVal K γ H v x := by
  cases h with
  | cons h t => cases t; exact ⟨_, rfl, h⟩
theorem relVals_two {K : PySem.W.Frag} {γ : Gh} {H : Hp} {v w : Val} {xs : List V} (h : RelVals K γ H [v, w] xs) : ∃ x y, xs = [x, y] ∧ RelVal K γ H v x ∧ RelVal K γ H w y := by
  cases h with
  | cons h t => cases t with
    | cons h2 t => cases t; exact ⟨_, _, rfl, h, h2⟩
theorem bools_rel {K : PySem.W.Frag} {γ : Gh} {H : Hp} : ∀ {xs : List D} {vs : List V} {bs : List Bool}, RelDs K γ H xs vs → allB xs = some bs → vs = bs.map V.bl
  | [], _, _, .nil, e => by cases e; rfl
  | .bl b :: xs, _ :: vs, _, .cons (.bl _) t, e => by
    simp only [allB, Option.map_eq_some_iff] at e
    obtain ⟨l, e1, rfl⟩ := e
    rw [bools_rel t e1]
    rfl
theorem strs_rel {K : PySem.W.Frag} {γ : Gh} {H : Hp} : ∀ {xs : List D} {vs : List V} {bs : List Str}, RelDs K γ H xs vs → allS xs = some bs → vs = bs.map V.str
  | [], _, _, .nil, e => by cases e; rfl
  | .str b :: xs, _ :: vs, _, .cons (.str _) t, e => by
    simp only [allS, Option.map_eq_some_iff] at e
    obtain ⟨l, e1, rfl⟩ := e
    rw [strs_rel t e1]
    rfl
theorem len_rel {K : PySem.W.Frag} {γ : Gh} {s : S} {σ : L2.St} {H : Hp} (R : Rel K γ s σ H) {v : Val} {x : V} {b : Bool} {xs : List D} (r : RelVal K γ H v x) (e : seqv v s = some (b, xs)) : L2.LenV K x H xs.length := by
  obtain ⟨a, vs, rfl, rr, t⟩ := seq_rel R r e
  rw [relDs_len rr]
  cases b with
  | true => exact .inl ⟨vs, t, rfl⟩
  | false => exact .inr ⟨vs, t, rfl⟩
theorem callR_bf (hc : X.calm = true) (b : Bf) : CallR X (bfV b) (rBf X.K RX W b) := by
  intro ps st τ H xs us Q I r h
  obtain ⟨γ, s, σ, vs, R, rv, p⟩ := h
  unfold bfn at p
  split at p
  · obtain ⟨hl, p⟩ := Post.ifP p
    obtain ⟨x, rfl, rx⟩ := relVals_one rv
    cases rx
    exact L2.call_len ps st τ H _ us Q I r ⟨_, _, rfl, ⟨line_le hl, rfl⟩, p.here R (.int _)⟩
  · split at p
    · rename_i e
      obtain ⟨x, rfl, rx⟩ := relVals_one rv
      exact L2.call_len ps st τ H _ us Q I r ⟨_, _, rfl, len_rel R rx e, p.here R (.int _)⟩
    · exact False.elim p
  · obtain ⟨x, rfl, rx⟩ := relVals_one rv
    cases rx
    exact L2.call_int1 ps st τ H _ us Q I r (.inl ⟨_, rfl, p.here R (.int _)⟩)
  · obtain ⟨x, rfl, rx⟩ := relVals_one rv
    cases rx
    exact L2.call_int1 ps st τ H _ us Q I r (.inr ⟨_, rfl, p.here R (.int _)⟩)
  · obtain ⟨x, rfl, rx⟩ := relVals_one rv
    cases rx
    exact L2.call_abs ps st τ H _ us Q I r ⟨_, rfl, p.here R (.int _)⟩
  · obtain ⟨x, y, rfl, rx, ry⟩ := relVals_two rv
    cases rx; cases ry
    exact L2.call_max2 hc ps st τ H _ us Q I r ⟨_, _, rfl, p.here R (.int _)⟩
  · obtain ⟨x, y, rfl, rx, ry⟩ := relVals_two rv
    cases rx; cases ry
    exact L2.call_min2 hc ps st τ H _ us Q I r ⟨_, _, rfl, p.here R (.int _)⟩
  · obtain ⟨hl, p⟩ := Post.ifP p
    obtain ⟨x, rfl, rx⟩ := relVals_one rv
    cases rx
    exact L2.call_str_int ps st τ H _ us Q I r ⟨_, rfl, by omega, p.here R (.str _)⟩
  · obtain ⟨x, rfl, rx⟩ := relVals_one rv
    cases rx with
    | tup h1 r1 => exact L2.call_tupleT ps st τ H _ us Q I r ⟨_, _, rfl, h1, p.here R (.tup h1 r1)⟩
  · split at p
    · rename_i b' xs' e
      obtain ⟨x, rfl, rx⟩ := relVals_one rv
      obtain ⟨a, ws, rfl, r1, t⟩ := seq_rel R rx e
      cases b' with
      | true => exact L2.call_tuple_of ps st τ H _ us Q I r ⟨_, ws, rfl, .inl ⟨t, fun l hl => p γ _ _ (Stp.new γ hl) (R.new hl) (new_tup R hl r1)⟩⟩
      | false => exact L2.call_tupleT ps st τ H _ us Q I r ⟨_, _, rfl, t, p.here R (.tup t r1)⟩
    · exact False.elim p
  · split at p
    · rename_i xs' e
      obtain ⟨x, rfl, rx⟩ := relVals_one rv
      obtain ⟨a, ws, rfl, r1, t⟩ := seq_rel R rx e
      split at p
      · rename_i bs eb
        have := bools_rel r1 eb
        subst this
        exact L2.cr_all hc ps st τ H _ us Q I r ⟨a, bs, rfl, t, p.here R (.bl _)⟩
      · exact False.elim p
    · exact False.elim p
  · split at p
    · rename_i xs' e
      obtain ⟨x, rfl, rx⟩ := relVals_one rv
      obtain ⟨a, ws, rfl, r1, t⟩ := seq_rel R rx e
      split at p
      · rename_i bs eb
        have := bools_rel r1 eb
        subst this
        exact L2.cr_any hc ps st τ H _ us Q I r ⟨a, bs, rfl, t, p.here R (.bl _)⟩
      · exact False.elim p
    · exact False.elim p
  · exact False.elim p

/-! ### isinstance -/
def tgN : Tg → String
  | .str => "str" | .int => "int" | .bool => "bool" | .tup => "tuple" | .lst => "list" | .dct => "dict" | .own _ => ""
def tgOk : Tg → Bool
  | .own _ => false
  | _ => true
def tgS : Tg → Str
  | .str => "str" | .int => "int" | .bool => "bool" | .tup => "tuple" | .lst => "list" | .dct => "dict" | .own _ => ""
theorem tg_boot (t : Tg) (h : tgOk t = true) : PySem.bootBuiltins (tgS t) = some (.type (tgN t)) := by cases t <;> first | decide +kernel | cases h
theorem tg_name (t : Tg) : tgS t ≠ "__name__" := by
  have h : ("" : Str) ≠ "__name__" := by decide +kernel
  cases t <;> first | exact h | decide +kernel
theorem tg_debug (t : Tg) : (tgS t == ("__debug__" : Str)) = false := by
  have h : (("" : Str) == ("__debug__" : Str)) = false := by decide +kernel
  cases t <;> first | exact h | decide +kernel
theorem isTag_rel {K : PySem.W.Frag} {γ : Gh} {s : S} {σ : L2.St} {H : Hp} (R : Rel K γ s σ H) {v : Val} {x : V} {t : Tg} {b : Bool} (ht : tgOk t = true) (r : RelVal K γ H v x) (e : isTag v s t = some b) :
    ∃ a, L2.TyX K H x (.type a) ∧ L2.kitB a (tgN t) = some b := by
  have k1 : L2.kitB "list" (tgN t) = some (t == .lst) := by cases t <;> first | decide +kernel | cases ht
  have k2 : L2.kitB "tuple" (tgN t) = some (t == .tup) := by cases t <;> first | decide +kernel | cases ht
  have k3 : L2.kitB "dict" (tgN t) = some (t == .dct) := by cases t <;> first | decide +kernel | cases ht
  have k4 : L2.kitB "str" (tgN t) = some (t == .str) := by cases t <;> first | decide +kernel | cases ht
  have k5 : L2.kitB "int" (tgN t) = some (t == .int) := by cases t <;> first | decide +kernel | cases ht
  have k6 : L2.kitB "bool" (tgN t) = some (t == .bool || t == .int) := by cases t <;> first | decide +kernel | cases ht
  have k7 : L2.kitB "NoneType" (tgN t) = some false := by cases t <;> first | decide +kernel | cases ht
  unfold isTag at e
  split at e
  · split at e
    · cases e
      obtain ⟨a, rfl, ha⟩ := r
      obtain ⟨ys, vs, hc, hh, rr⟩ := R.cellF ha
      exact ⟨_, .base (.lst hh), k1⟩
    · cases e
  · split at e
    · cases e
      cases r with
      | ref ha =>
        obtain ⟨ys, vs, hc, hh, rr⟩ := R.cellG ha
        exact ⟨_, .base (.lst hh), k1⟩
    · cases e
  · cases r; cases e; exact ⟨_, .base .non, k7⟩
  · cases r; cases e; exact ⟨_, .base (.bl _), k6⟩
  · cases r; cases e; exact ⟨_, .base (.int _), k5⟩
  · cases r; cases e; exact ⟨_, .base (.str _), k4⟩
  · cases e
    cases r with
    | tup h rr =>
      rcases h with (h | ⟨o, h⟩) | ⟨o, its, n, h1, h2, _⟩
      · exact ⟨_, .base (.tup h), k2⟩
      · exact ⟨_, .fTuple h, k2⟩
      · exact ⟨_, .kTuple h1 h2, k2⟩
  · cases e
    cases r with
    | lst h nb rr => exact ⟨_, .base (.lst h), k1⟩
  · cases e
    have ls : ∀ {a : Addr} {vs : List V}, SqL K H a vs → ∃ n, L2.TyX K H (.ref a) (.type n) ∧ L2.kitB n (tgN t) = some (t == .lst) := fun {a vs} h => by
      rcases h with (h | ⟨o, h⟩) | ⟨o, its, n, h1, h2, _⟩
      · exact ⟨_, .base (.lst h), k1⟩
      · exact ⟨_, .base (.frz h), k1⟩
      · exact ⟨_, .kList h1 h2, k1⟩
    cases r with
    | scr h nb rr => exact ls (.inl h)
    | scrK h rr => exact ls (h H)
  · cases e
    cases r with
    | dct h nb hk rr => exact ⟨_, .base (.dK h), k3⟩
  · cases e

/-! ### methods of built-in types -/
def bmN : Bm → Str
  | .join => "join" | .append => "append" | .pop => "pop"
def rBm (K : PySem.W.Frag) (RX : ExRel) (W : WX) (m : Bm) : V → List V → Hp → VK → Prop := fun x xs H Q => ∃ γ s σ v vs, Rel K γ s σ H ∧ RelVal K γ H v x ∧ RelVals K γ H vs xs ∧ Post K RX W γ H σ (RelVal K) (bmth m v vs s) Q
end
end Mp

/-! Mp: methods, calls of defs, their promises. -/
namespace Mp
open PySem (Addr Value Expr PyData Str CmpOp Operator binaryOp compareOp cLine)
open L2 (V HO Hp upd upd_same upd_ne SqT SqL Rd PE PT PA Cx OpR TE TT TA VK XK WX RelV EP CallR MtR IxR Gl Sp)

/-! ### methods -/
def bmT : Bm → String
  | .join => "str" | .append => "list" | .pop => "list"
def bmI : Bm → String
  | .join => "str.join" | .append => "list.append" | .pop => "list.pop"
section
variable {X : Cx} {RX : ExRel} {W : WX}
theorem mtR_join : MtR X "str.join" (rBm X.K RX W .join) := by
  intro ps st τ H x xs v us Q I rx r h
  obtain ⟨γ, s, σ, y, vs, R, ry, rv, p⟩ := h
  unfold bmth at p
  split at p
  · split at p
    · rename_i e
      split at p
      · rename_i ss es
        obtain ⟨hl, p⟩ := Post.ifP p
        obtain ⟨x', rfl, rx'⟩ := relVals_one rv
        obtain ⟨a, ws, rfl, r1, t⟩ := seq_rel R rx' e
        have := strs_rel r1 es
        subst this
        cases ry
        exact L2.mt_join ps st τ H _ _ v us Q I rx r ⟨_, a, ss, rfl, rfl, .inl t, Nat.le_trans hl (by decide), p.here R (.str _)⟩
      · exact False.elim p
    · exact False.elim p
  · contradiction
  · contradiction
  · exact False.elim p

theorem stp_cell {γ : Gh} {s : S} {σ : L2.St} {H : Hp} {a : Addr} {o : HO} {K : PySem.W.Frag} (R : Rel K γ s σ H) (ha : some a ∈ γ.pf ∨ a ∈ γ.pg) : Stp γ H γ (upd H a o) where
  b := rfl
  h0 := rfl
  p0 := rfl
  tm := fun _ h => .inl h
  tmE := rfl
  pf := List.prefix_refl _
  pg := List.prefix_refl _
  frame := fun x u h n1 n2 => by
    have ne : x ≠ a := fun z => by subst z; exact ha.elim n1 n2
    rw [upd_ne ne]; exact h
  trk := fun x h => by
    by_cases e : x = a
    · rw [e, upd_same]; rfl
    · rw [upd_ne e]; exact h
  fn := fun _ h => .inl h
  gn := fun _ h => .inl h
/-- an own list is written -/
theorem Rel.setF {γ : Gh} {s : S} {σ : L2.St} {H : Hp} {a : Addr} {K : PySem.W.Frag} (R : Rel K γ s σ H) {j : Nat} (ha : γ.pf[j]? = some (some a)) {xs : List D} {vs : List V} (r : RelDs K γ H xs vs) :
    Rel K γ { s with fs := s.fs.set j (.lst xs) } σ (upd H a (.lst vs)) where
  len := R.len
  slot := fun i v h => let ⟨x, e, r⟩ := R.slot i v h; ⟨x, e, r.step (stp_cell R (.inl (List.mem_of_getElem? ha))) R.tups⟩
  fl := by rw [List.length_set]; exact R.fl
  fc := fun i b c h1 h2 => by
    have st := stp_cell (o := .lst vs) R (.inl (List.mem_of_getElem? ha))
    by_cases e : j = i
    · subst e
      rw [ha] at h1; cases h1
      have hl : j < s.fs.length := by rw [← R.fl]; exact (List.getElem?_eq_some_iff.mp ha).1
      rw [List.getElem?_set_self hl] at h2; cases h2
      exact ⟨vs, upd_same, RelDs.step st.toSts R.tups _ _ r⟩
    · rw [List.getElem?_set_ne e] at h2
      refine (R.fc i b c h1 h2).step st.toSts R.tups (upd_ne fun z => e ?_)
      subst z
      exact R.ndf _ _ _ ha h1
  gl := R.gl
  gc := fun i b c h1 h2 => by
    have st := stp_cell (o := .lst vs) R (.inl (List.mem_of_getElem? ha))
    refine (R.gc i b c h1 h2).step st.toSts R.tups (upd_ne fun z => ?_)
    subst z
    exact R.dis _ (List.mem_of_getElem? ha) (List.mem_of_getElem? h1)
  ndf := R.ndf
  ndg := R.ndg
  dis := R.dis
  bo := R.bo
  fnew := R.fnew
  gnew := R.gnew
  pre := R.pre
  frame := fun x u h n => by
    have ne : x ≠ a := fun z => by subst z; rw [R.fnew x (List.mem_of_getElem? ha)] at h; cases h
    rw [upd_ne ne]; exact R.frame x u h n
  trk := fun x h => (stp_cell R (.inl (List.mem_of_getElem? ha))).trk x (R.trk x h)
  tm := fun x h => ⟨(stp_cell R (.inl (List.mem_of_getElem? ha))).trk x (R.tm x h).1, (R.tm x h).2⟩
/-- a shared list is written -/
theorem Rel.setG {γ : Gh} {s : S} {σ : L2.St} {H : Hp} {a : Addr} {K : PySem.W.Frag} (R : Rel K γ s σ H) {j : Nat} (ha : γ.pg[j]? = some a) {xs : List D} {vs : List V} (r : RelDs K γ H xs vs) :
    Rel K γ { s with gs := s.gs.set j (.lst xs) } σ (upd H a (.lst vs)) where
  len := R.len
  slot := fun i v h => let ⟨x, e, r⟩ := R.slot i v h; ⟨x, e, r.step (stp_cell R (.inr (List.mem_of_getElem? ha))) R.tups⟩
  gl := by rw [List.length_set]; exact R.gl
  gc := fun i b c h1 h2 => by
    have st := stp_cell (o := .lst vs) R (.inr (List.mem_of_getElem? ha))
    by_cases e : j = i
    · subst e
      rw [ha] at h1; cases h1
      have hl : j < s.gs.length := by rw [← R.gl]; exact (List.getElem?_eq_some_iff.mp ha).1
      rw [List.getElem?_set_self hl] at h2; cases h2
      exact ⟨vs, upd_same, RelDs.step st.toSts R.tups _ _ r⟩
    · rw [List.getElem?_set_ne e] at h2
      refine (R.gc i b c h1 h2).step st.toSts R.tups (upd_ne fun z => e ?_)
      subst z
      exact R.ndg _ _ _ ha h1
  fl := R.fl
  fc := fun i b c h1 h2 => by
    have st := stp_cell (o := .lst vs) R (.inr (List.mem_of_getElem? ha))
    refine (R.fc i b c h1 h2).step st.toSts R.tups (upd_ne fun z => ?_)
    subst z
    exact R.dis _ (List.mem_of_getElem? h1) (List.mem_of_getElem? ha)
  ndf := R.ndf
  ndg := R.ndg
  dis := R.dis
  bo := R.bo
  fnew := R.fnew
  gnew := R.gnew
  pre := R.pre
  frame := fun x u h n => by
    have ne : x ≠ a := fun z => by
      subst z
      rcases R.gnew x (List.mem_of_getElem? ha) with q | q
      · exact n q
      · rw [q] at h; cases h
    rw [upd_ne ne]; exact R.frame x u h n
  trk := fun x h => (stp_cell R (.inr (List.mem_of_getElem? ha))).trk x (R.trk x h)
  tm := fun x h => ⟨(stp_cell R (.inr (List.mem_of_getElem? ha))).trk x (R.tm x h).1, (R.tm x h).2⟩

theorem mtR_append : MtR X "list.append" (rBm X.K RX W .append) := by
  intro ps st τ H x xs v us Q I rx r h
  obtain ⟨γ, s, σ, y, vs, R, ry, rv, p⟩ := h
  unfold bmth at p
  split at p
  · contradiction
  · split at p
    · rename_i j d ys e
      obtain ⟨hl, p⟩ := Post.ifP p
      obtain ⟨x', rfl, rx'⟩ := relVals_one rv
      obtain ⟨a, rfl, ha⟩ := ry
      obtain ⟨zs, ws, hc, hh, rr⟩ := R.cellF ha
      rw [e] at hc; cases hc
      refine L2.mt_append ps st τ H _ _ v us Q I rx r ⟨a, ws, x', rfl, rfl, hh, line_lt (by rw [← relDs_len rr]; exact hl), ?_⟩
      exact p γ _ _ (stp_cell R (.inl (List.mem_of_getElem? ha))) (R.setF ha (relDs_app rr (.cons rx' .nil))) .non
    · exact False.elim p
  · split at p
    · rename_i j d ys e
      obtain ⟨hl, p⟩ := Post.ifP p
      obtain ⟨x', rfl, rx'⟩ := relVals_one rv
      cases ry with
      | ref ha =>
        obtain ⟨zs, ws, hc, hh, rr⟩ := R.cellG ha
        rw [e] at hc; cases hc
        refine L2.mt_append ps st τ H _ _ v us Q I rx r ⟨_, ws, x', rfl, rfl, hh, line_lt (by rw [← relDs_len rr]; exact hl), ?_⟩
        exact p γ _ _ (stp_cell R (.inr (List.mem_of_getElem? ha))) (R.setG ha (relDs_app rr (.cons rx' .nil))) .non
    · exact False.elim p
  · exact False.elim p

/-! ### calls of defs -/
/-- the ghost at a callee's entry -/
def Gh.enter (γ : Gh) (H : Hp) : Gh := { B := fun a => (γ.B a ∨ a ∈ γ.tm) ∨ some a ∈ γ.pf, H0 := H, p0 := γ.pg, pf := [], pg := γ.pg, tm := [] }
theorem enter_bad (γ : Gh) (H : Hp) (a : Addr) : (γ.enter H).Bad a ↔ γ.Bad a := by
  unfold Gh.Bad Gh.enter
  simp only [List.not_mem_nil, or_false, false_or]
  constructor
  · rintro ((h | h) | h)
    · exact .inl h
    · exact .inr (.inl h)
    · exact .inr (.inr h)
  · rintro (h | h | h)
    · exact .inl (.inl h)
    · exact .inl (.inr h)
    · exact .inr h
theorem les_enter (γ : Gh) (H : Hp) : Les γ (γ.enter H) := ⟨List.prefix_refl _, fun x h => (enter_bad γ H x).mp h⟩
theorem les_iff {γ γ' : Gh} (h : ∀ a, γ'.Bad a ↔ γ.Bad a) (e : γ'.pg = γ.pg) : Les γ γ' := ⟨by rw [e]; exact List.prefix_refl _, fun x q => (h x).mp q⟩
/-- outside of the frames: the shared cells alone -/
abbrev outS (gs : List Cell) : S := ⟨[], [], gs⟩
theorem Rel.enter {K : PySem.W.Frag} {γ : Gh} {s : S} {σ : L2.St} {H : Hp} (R : Rel K γ s σ H) : Rel K (γ.enter H) (outS s.gs) [] H where
  len := rfl
  slot := fun i v h => by simp [outS] at h
  fl := rfl
  fc := fun j a c h => by simp [Gh.enter] at h
  gl := R.gl
  gc := fun j a c h1 h2 => (R.gc j a c h1 h2).les (les_enter γ H)
  ndf := fun i j a h => by simp [Gh.enter] at h
  ndg := R.ndg
  dis := fun a h => by simp [Gh.enter] at h
  bo := fun a h => by
    rcases h with (h | h) | h
    · refine ⟨R.trk a (R.bo a h).1, fun z => ?_⟩
      rcases R.gnew a z with q | q
      · exact (R.bo a h).2 q
      · exact not_some q (R.bo a h).1
    · exact ⟨(R.tm a h).1, (R.tm a h).2.2⟩
    · obtain ⟨vs, e⟩ := R.live (.inl h)
      exact ⟨by show (H a).isSome = true; rw [e]; rfl, R.dis a h⟩
  fnew := fun a h => by simp [Gh.enter] at h
  gnew := fun a h => .inl h
  pre := List.prefix_refl _
  frame := fun a o h _ => h
  trk := fun a h => h
  tm := fun a h => by simp [Gh.enter] at h
/-- back from a callee -/
theorem Rel.leave {K : PySem.W.Frag} {γ γx : Gh} {s : S} {σ : L2.St} {H H' : Hp} {gs : List Cell} (R : Rel K γ s σ H) (hb : γx.B = (γ.enter H).B) (h0 : γx.H0 = H) (hp : γx.p0 = γ.pg) (hf : γx.pf = []) (ht : γx.tm = []) (Rx : Rel K γx (outS gs) [] H') :
    Stp γ H { γ with pg := γx.pg } H' ∧ Rel K { γ with pg := γx.pg } { s with gs := gs } σ H' ∧ ∀ a, ({ γ with pg := γx.pg } : Gh).Bad a ↔ γx.Bad a := by
  have bad : ∀ a, ({ γ with pg := γx.pg } : Gh).Bad a ↔ γx.Bad a := fun a => by
    unfold Gh.Bad
    rw [hb, hf, ht]
    simp only [Gh.enter, List.not_mem_nil, or_false, false_or]
    constructor
    · rintro (h | h | h)
      · exact .inl (.inl h)
      · exact .inl (.inr h)
      · exact .inr h
    · rintro ((h | h) | h)
      · exact .inl h
      · exact .inr (.inl h)
      · exact .inr (.inr h)
  have bn : ∀ a, γx.B a → a ∉ γx.pg := fun a h z => by
    rcases Rx.gnew a z with q | q
    · exact (Rx.bo a h).2 q
    · exact not_some q (Rx.bo a h).1
  have fr : ∀ a o, H a = some o → a ∉ γ.pg → H' a = some o := fun a o h n => Rx.frame a o (by rw [h0]; exact h) (by rw [hp]; exact n)
  have tr : ∀ a, (H a).isSome = true → (H' a).isSome = true := fun a h => Rx.trk a (by rw [h0]; exact h)
  have gn : ∀ a, a ∈ γx.pg → a ∈ γ.pg ∨ H a = none := fun a h => by
    have := Rx.gnew a h
    rw [hp, h0] at this
    exact this
  have st : Stp γ H { γ with pg := γx.pg } H' := ⟨⟨⟨rfl, rfl, rfl, fun _ h => .inl h, by rw [← hp]; exact Rx.pre, fun a o h _ n => fr a o h n, tr, fun a h => .inl h, gn⟩, rfl⟩, List.prefix_refl _⟩
  refine ⟨st, ?_, bad⟩
  exact {
    len := R.len
    slot := fun i v h => let ⟨x, e, r⟩ := R.slot i v h; ⟨x, e, r.step st R.tups⟩
    fl := R.fl
    fc := fun j a c h1 h2 => by
      refine (R.fc j a c h1 h2).step st.toSts R.tups ?_
      obtain ⟨vs, e⟩ := R.live (.inl (List.mem_of_getElem? h1))
      rw [e]
      exact fr a _ e (R.dis a (List.mem_of_getElem? h1))
    gl := Rx.gl
    gc := fun j a c h1 h2 => (Rx.gc j a c h1 h2).les (les_iff bad rfl)
    ndf := R.ndf
    ndg := Rx.ndg
    dis := fun a h => bn a (by rw [hb]; exact .inr h)
    bo := R.bo
    fnew := R.fnew
    gnew := fun a h => by
      rcases gn a h with q | q
      · exact R.gnew a q
      · exact .inr (none_back (R.trk a) q)
    pre := List.IsPrefix.trans R.pre st.pg
    frame := fun a o h n => by
      refine fr a o (R.frame a o h n) fun z => ?_
      rcases R.gnew a z with q | q
      · exact n q
      · rw [q] at h; cases h
    trk := fun a h => tr a (R.trk a h)
    tm := fun a h => ⟨tr a (R.tm a h).1, (R.tm a h).2.1, bn a (by rw [hb]; exact .inl (.inr h))⟩ }

/-- what a def of the text promises: what the evaluator says of it -/
def spG (K : PySem.W.Frag) (RX : ExRel) (Γ : Callee) (f : Nat) : Sp := fun vs H Q E => ∃ (γ : Gh) (gs : List Cell) (ds : List D), γ.pf = [] ∧ γ.tm = [] ∧ γ.H0 = H ∧ γ.p0 = γ.pg ∧ Rel K γ (outS gs) [] H ∧ RelDs K γ H ds vs ∧
  match Γ f ds gs with
  | .ok d gs' => ∀ (γ' : Gh) (H' : Hp) (v : V), γ'.pf = [] → γ'.tm = [] → γ'.B = γ.B → γ'.H0 = H → γ'.p0 = γ.p0 → Rel K γ' (outS gs') [] H' → RelD K γ' H' d v → Q v H'
  | .ex e gs' => ∀ (γ' : Gh) (H' : Hp) (c : Value) (d : Option Addr), γ'.pf = [] → γ'.tm = [] → γ'.B = γ.B → γ'.H0 = H → γ'.p0 = γ.p0 → Rel K γ' (outS gs') [] H' → RX γ' H' e c d → E c d H'
  | .bad => False
/-- errors are told whatever is bad -/
def ExSteady (K : PySem.W.Frag) (RX : ExRel) : Prop := ∀ (γ γ' : Gh) (H : Hp) (e : Ex) (c : Value) (d : Option Addr), Les γ γ' → RX γ H e c d → RX γ' H e c d
theorem call_reading {K : PySem.W.Frag} {Γ : Callee} {f : Nat} (hX : ExSteady K RX) {γ : Gh} {s : S} {σ : L2.St} {H : Hp} {vs : List Val} {us : List V} {Q : VK} (R : Rel K γ s σ H) (rv : RelVals K γ H vs us) (p : Post K RX W γ H σ (RelVal K) (callR Γ f vs s) Q) :
    spG K RX Γ f us H Q (L2.WE W σ) := by
  unfold callR at p
  cases hd : toDs vs with
  | none => rw [hd] at p; exact False.elim p
  | some ds =>
    rw [hd] at p
    refine ⟨γ.enter H, s.gs, ds, rfl, rfl, rfl, rfl, R.enter, RelDs.les (les_enter γ H) _ _ (toDs_rel rv hd), ?_⟩
    cases hr : Γ f ds s.gs with
    | bad => simp only [hr] at p; exact False.elim p
    | ok d gs' =>
      simp only [hr] at p
      intro γx H' v h1 h2 h3 h4 h5 Rx rd
      obtain ⟨st, R', bad⟩ := R.leave h3 h4 h5 h1 h2 Rx
      exact p _ _ v st R' (RelD.les (les_iff bad rfl) _ _ rd)
    | ex e gs' =>
      simp only [hr] at p
      intro γx H' c d h1 h2 h3 h4 h5 Rx rd
      obtain ⟨st, R', bad⟩ := R.leave h3 h4 h5 h1 h2 Rx
      exact p _ _ c d st R' (hX _ _ _ _ _ _ (les_iff bad rfl) rd)
end
end Mp

/-! Mp: what is walked; comprehensions. -/
namespace Mp
open PySem (Addr Value Expr PyData Str CmpOp Operator binaryOp compareOp cLine)
open L2 (V HO Hp upd upd_same upd_ne SqT SqL Rd PE PT PA PI PG Cx OpR TE TT TA TI TG VK XK WX RelV EP CallR MtR IxR Gl Sp It)

/-- the iterator J yields the data xs, whatever is done meanwhile -/
structure Wk (K : PySem.W.Frag) (γ0 : Gh) (H0 : Hp) (J : It) (xs : List D) : Prop where
  go : ∀ i γ H, Sts γ0 H0 γ H → i < xs.length → J.go i H
  stop : ∀ γ H, Sts γ0 H0 γ H → J.stop xs.length H
  yld : ∀ i γ H x H' d, Sts γ0 H0 γ H → J.yld i H x H' → xs[i]? = some d → (H' = H ∨ ∃ T o, H T = none ∧ H' = upd H T o) ∧ RelD K γ H' d x

section
variable {K : PySem.W.Frag} {γ : Gh} {s : S} {σ : L2.St} {H : Hp}
theorem wk_list (t : TupOk γ H) {a : Addr} {xs : List D} {vs : List V} (hp : ∀ γ' H', Sts γ H γ' H' → SqL K H' a vs) (r : RelDs K γ H xs vs) : Wk K γ H (L2.Itl K a) xs where
  go := fun i γ' H' st hi => by
    rw [relDs_len r] at hi
    exact ⟨vs, vs[i], hp γ' H' st, List.getElem?_eq_getElem hi⟩
  stop := fun γ' H' st => ⟨vs, hp γ' H' st, by rw [relDs_len r]; exact Nat.le_refl _⟩
  yld := fun i γ' H' x H2 d st y e => by
    obtain ⟨rfl, f⟩ := y
    obtain ⟨v, hv, rv⟩ := relDs_get (RelDs.step st t _ _ r) e
    have := f vs (hp γ' H2 st)
    rw [hv] at this; cases this
    exact ⟨.inl rfl, rv⟩
theorem wk_tup (t : TupOk γ H) {a : Addr} {xs : List D} {vs : List V} (h : SqT K H a vs) (r : RelDs K γ H xs vs) : Wk K γ H (L2.Itt K a) xs where
  go := fun i γ' H' st hi => by
    rw [relDs_len r] at hi
    exact ⟨vs, vs[i], st.sqT t h, List.getElem?_eq_getElem hi⟩
  stop := fun γ' H' st => ⟨vs, st.sqT t h, by rw [relDs_len r]; exact Nat.le_refl _⟩
  yld := fun i γ' H' x H2 d st y e => by
    obtain ⟨rfl, f⟩ := y
    obtain ⟨v, hv, rv⟩ := relDs_get (RelDs.step st t _ _ r) e
    have := f vs (st.sqT t h)
    rw [hv] at this; cases this
    exact ⟨.inl rfl, rv⟩
theorem wk_of {J : It} {n : Nat} {Y : Nat → Hp → V → Hp → Prop} {xs : List D} (w : L2.Walk J n (fun _ => True) Y) (hn : n = xs.length) (hy : ∀ i H x H' d, Y i H x H' → xs[i]? = some d → H' = H ∧ ∀ γ, RelD K γ H d x) : Wk K γ H J xs where
  go := fun i γ' H' _ hi => w.goes i H' (by omega) trivial
  stop := fun γ' H' _ => by rw [← hn]; exact w.stops H' trivial
  yld := fun i γ' H' x H2 d _ y e => by
    have hi := (List.getElem?_eq_some_iff.mp e).1
    obtain ⟨rfl, f⟩ := hy i H' x H2 d (w.yields i H' x H2 (by omega) trivial y) e
    exact ⟨.inl rfl, f γ'⟩
end

section
variable (K : PySem.W.Frag) (RX : ExRel) (W : WX)
def tI (m : S → R (List D)) : TI := fun σ H Q => ∃ γ s, Rel K γ s σ H ∧
  match m s with
  | .ok xs s' => ∀ (γ' : Gh) (H' : Hp) (J : It), Stp γ H γ' H' → Rel K γ' s' σ H' → Wk K γ' H' J xs → Q J H'
  | .ex e s' => ∀ (γ' : Gh) (H' : Hp) (c : Value) (d : Option Addr), Stp γ H γ' H' → Rel K γ' s' σ H' → RX γ' H' e c d → W c d σ H'
  | .bad => False
end
theorem weakI {X : Cx} {tg e : Expr} {t t' : TI} (h : PI X tg e t) (w : ∀ σ H Q, t' σ H Q → t σ H Q) : PI X tg e t' := ⟨fun ps s σ H Q I q => h.run ps s σ H Q I (w σ H Q q)⟩

/-! ### slots -/
section
variable {K : PySem.W.Frag} {γ : Gh} {s : S} {σ : L2.St} {H : Hp}
theorem wipe_len (e : List (Option Val)) : ∀ l, (wipeE e l).length = e.length
  | [] => rfl
  | v :: vs => by unfold wipeE; rw [List.length_set, wipe_len e vs]
theorem wipe_get {e : List (Option Val)} : ∀ {l : List Nat} {i : Nat} {v : Val}, (wipeE e l)[i]? = some (some v) → e[i]? = some (some v) ∧ i ∉ l
  | [], i, v, h => ⟨h, by simp⟩
  | w :: l, i, v, h => by
    unfold wipeE at h
    by_cases e1 : w = i
    · subst e1
      by_cases hl : w < (wipeE e l).length
      · rw [List.getElem?_set_self hl] at h; cases h
      · rw [List.getElem?_eq_none (by rw [List.length_set]; omega)] at h; cases h
    · rw [List.getElem?_set_ne e1] at h
      obtain ⟨h1, h2⟩ := wipe_get h
      exact ⟨h1, by simp only [List.mem_cons, not_or]; exact ⟨fun z => e1 z.symm, h2⟩⟩
theorem wipeV_get {e : L2.St} : ∀ {l : List Nat} {i : Nat} {v : V}, e[i]? = some (some v) → i ∉ l → (L2.wipe e l)[i]? = some (some v)
  | [], i, v, h, _ => h
  | w :: l, i, v, h, n => by
    unfold L2.wipe
    simp only [List.mem_cons, not_or] at n
    rw [List.getElem?_set_ne (Ne.symm n.1)]
    exact wipeV_get h n.2
theorem Rel.reenv (R : Rel K γ s σ H) {e : List (Option Val)} {σ' : L2.St} (hl : e.length = σ'.length) (h : ∀ (i : Nat) (v : Val), e[i]? = some (some v) → ∃ x : V, σ'[i]? = some (some x) ∧ RelVal K γ H v x) : Rel K γ { s with env := e } σ' H :=
  { R with len := hl, slot := h, fl := R.fl, fc := R.fc, gl := R.gl, gc := R.gc }
theorem Rel.wipe (R : Rel K γ s σ H) (own : List Nat) : Rel K γ { s with env := wipeE s.env own } (L2.wipe σ own) H :=
  R.reenv (by rw [wipe_len, L2.wipe_length]; exact R.len) fun i v h => by
    obtain ⟨h1, h2⟩ := wipe_get h
    obtain ⟨x, e, r⟩ := R.slot i v h1
    exact ⟨x, wipeV_get e h2, r⟩
theorem Rel.set (R : Rel K γ s σ H) (i : Nat) {v : Val} {x : V} (r : RelVal K γ H v x) : Rel K γ { s with env := s.env.set i (some v) } (σ.set i (some x)) H :=
  R.reenv (by rw [List.length_set, List.length_set]; exact R.len) fun j w h => by
    by_cases e : i = j
    · subst e
      by_cases hl : i < s.env.length
      · rw [List.getElem?_set_self hl] at h; cases h
        exact ⟨x, by rw [List.getElem?_set_self (by rw [← R.len]; exact hl)], r⟩
      · rw [List.getElem?_eq_none (by rw [List.length_set]; omega)] at h; cases h
    · rw [List.getElem?_set_ne e] at h
      obtain ⟨y, e1, r1⟩ := R.slot j w h
      exact ⟨y, by rw [List.getElem?_set_ne e]; exact e1, r1⟩
/-- what was in the slots ahead of a step -/
theorem Rel.back {γ' : Gh} {s' : S} {σ' : L2.St} {H' : Hp} (R : Rel K γ s σ H) (st : Stp γ H γ' H') (R' : Rel K γ' s' σ' H') : Rel K γ' { s' with env := s.env } σ H' :=
  R'.reenv R.len fun i v h => let ⟨x, e, r⟩ := R.slot i v h; ⟨x, e, r.step st R.tups⟩
end

/-! ### targets -/
def gT (K : PySem.W.Frag) (tg : List Nat) : TG := fun v σ H Q => ∃ γ s x s', Rel K γ s σ H ∧ RelD K γ H x v ∧ bindTs tg x s = some s' ∧ ∀ σ', Rel K γ s' σ' H → (∀ own, (∀ i ∈ tg, i ∈ own) → L2.wipe σ' own = L2.wipe σ own) → Q σ' H
theorem wipe_set (σ : L2.St) (x : Option V) : ∀ {own : List Nat} {i : Nat}, i ∈ own → L2.wipe (σ.set i x) own = L2.wipe σ own
  | w :: own, i, h => by
    unfold L2.wipe
    by_cases e : i ∈ own
    · rw [wipe_set σ x e]
    · have : i = w := by rcases List.mem_cons.mp h with h | h; exact h; exact absurd h e
      subst this
      have : ∀ (l : List Nat) (σ : L2.St), i ∉ l → L2.wipe (σ.set i x) l = (L2.wipe σ l).set i x := by
        intro l
        induction l with
        | nil => intro σ _; rfl
        | cons w l ih =>
          intro σ hn
          simp only [List.mem_cons, not_or] at hn
          unfold L2.wipe
          rw [ih σ hn.2, List.set_comm _ _ hn.1]
      rw [this own σ e, List.set_set]
theorem wipe_idem (σ : L2.St) (own : List Nat) : L2.wipe (L2.wipe σ own) own = L2.wipe σ own := by
  apply List.ext_getElem?
  intro i
  have none_at : ∀ (l : List Nat) (τ : L2.St) (i : Nat), i ∈ l → i < τ.length → (L2.wipe τ l)[i]? = some none := by
    intro l
    induction l with
    | nil => intro τ i h; cases h
    | cons w l ih =>
      intro τ i h hl
      unfold L2.wipe
      by_cases e : w = i
      · subst e
        rw [List.getElem?_set_self (by rw [L2.wipe_length]; exact hl)]
      · rw [List.getElem?_set_ne e]
        rcases List.mem_cons.mp h with h | h
        · exact absurd h.symm e
        · exact ih τ i h hl
  have same : ∀ (l : List Nat) (τ : L2.St) (i : Nat), i ∉ l → (L2.wipe τ l)[i]? = τ[i]? := by
    intro l
    induction l with
    | nil => intro τ i _; rfl
    | cons w l ih =>
      intro τ i h
      simp only [List.mem_cons, not_or] at h
      unfold L2.wipe
      rw [List.getElem?_set_ne (Ne.symm h.1)]
      exact ih τ i h.2
  by_cases h : i ∈ own
  · by_cases hl : i < σ.length
    · rw [none_at own _ i h (by rw [L2.wipe_length]; exact hl), none_at own σ i h hl]
    · rw [List.getElem?_eq_none (by rw [L2.wipe_length, L2.wipe_length]; omega), List.getElem?_eq_none (by rw [L2.wipe_length]; omega)]
  · rw [same own _ i h]
section
variable {X : Cx}
theorem weakG {e : Expr} {t t' : TG} (h : PG X e t) (w : ∀ v σ H Q, t' v σ H Q → t v σ H Q) : PG X e t' := ⟨fun ps s σ H v u Q I r q => h.run ps s σ H v u Q I r (w v σ H Q q)⟩
theorem gT_one {i : Nat} (v : V) (σ : L2.St) (H : Hp) (Q : L2.St → Hp → Prop) (h : gT X.K [i] v σ H Q) : L2.gName i v σ H Q := by
  obtain ⟨γ, s, x, s', R, r, e, q⟩ := h
  cases e
  exact q _ (R.set i (v := .d x) r) fun own ho => wipe_set σ _ (ho i List.mem_cons_self)
end

theorem lcGo_noex {env : List (Option Val)} {tg : List Nat} {cnd : S → R Bool} {elt : S → R Val} : ∀ {xs : List D} {s : S} {e : Ex} {s' : S}, lcGo env tg cnd elt xs s ≠ .ex e s'
  | [], s, e, s', h => by simp [lcGo] at h
  | x :: r, s, e, s', h => by
    unfold lcGo at h
    split at h
    · cases h
    · rename_i s1 _
      cases hc : cnd s1 with
      | bad => rw [hc] at h; simp at h
      | ex _ _ => rw [hc] at h; simp at h
      | ok b s2 =>
        rw [hc] at h
        simp only [R.bindN] at h
        split at h
        · cases he : elt s2 with
          | bad => rw [he] at h; simp at h
          | ex _ _ => rw [he] at h; simp at h
          | ok v s3 =>
            rw [he] at h
            cases v with
            | own _ => simp at h
            | d y =>
              simp only [R.bindN] at h
              cases hr : lcGo env tg cnd elt r s3 with
              | bad => rw [hr] at h; simp at h
              | ok _ _ => rw [hr] at h; simp at h
              | ex e2 s4 => exact lcGo_noex hr
        · exact lcGo_noex h

def W0 : WX := fun _ _ _ _ => False

section
variable {K : PySem.W.Frag} {RX : ExRel} {W : WX}
def Gh.wtm (γ : Gh) (t : List Addr) : Gh := { γ with tm := t }
theorem Stp.tmf {γ γ' : Gh} {H H' : Hp} (st : Stp γ H γ' H') (t : List Addr) : Stp (γ.wtm t) H (γ'.wtm t) H' where
  b := st.b
  h0 := st.h0
  p0 := st.p0
  tm := fun _ h => .inl h
  tmE := rfl
  pg := st.pg
  pf := st.pf
  frame := st.frame
  trk := st.trk
  fn := st.fn
  gn := st.gn
theorem unmk_eq {γ γ2 : Gh} {a : Addr} (h : γ2.tm = a :: γ.tm) : (γ2.wtm γ.tm).mk1 a = γ2 := by
  cases γ2
  simp only [Gh.mk1, Gh.wtm] at h ⊢
  rw [← h]
/-- as seen from ahead of the making -/
theorem Stp.sts1 {γ γ2 : Gh} {H H2 : Hp} {a : Addr} (st : Stp γ H (γ2.wtm γ.tm) H2) (e : γ2.tm = a :: γ.tm) (h : H a = none) : Sts γ H γ2 H2 where
  b := st.b
  h0 := st.h0
  p0 := st.p0
  pg := st.pg
  frame := st.frame
  trk := st.trk
  fn := st.fn
  gn := st.gn
  tm := fun x m => by
    rw [e] at m
    rcases List.mem_cons.mp m with e | m
    · exact .inr (e ▸ h)
    · exact .inl m
theorem RelVal.stepS {γ γ1 : Gh} {H H1 : Hp} (a : Sts γ H γ1 H1) (pf : γ.pf <+: γ1.pf) (t : TupOk γ H) {v : Val} {x : V} (h : RelVal K γ H v x) : RelVal K γ1 H1 v x := by
  cases v with
  | d y => exact RelD.step a t _ _ h
  | own j =>
    obtain ⟨b, e, q⟩ := h
    exact ⟨b, e, get_pre pf q⟩
theorem Rel.backS {γ γ' : Gh} {s s' : S} {σ σ' : L2.St} {H H' : Hp} (R : Rel K γ s σ H) (st : Sts γ H γ' H') (pf : γ.pf <+: γ'.pf) (R' : Rel K γ' s' σ' H') : Rel K γ' { s' with env := s.env } σ H' :=
  R'.reenv R.len fun i v h => let ⟨x, e, r⟩ := R.slot i v h; ⟨x, e, r.stepS st pf R.tups⟩

/-- a comprehension's turns -/
theorem lc_sound {tg own : List Nat} {it : S → R (List D)} {cnd : S → R Bool} {elt : S → R Val} (ho : ∀ i ∈ tg, i ∈ own) (σ : L2.St) (H : Hp) (Q : VK)
    (h : tF K RX W (fun s => (it s).bind fun xs s1 => if xs.length ≤ LINE then (lcGo (wipeE s1.env own) tg cnd elt xs s1).bind fun ys s2 => .ok ys { s2 with env := s1.env } else .bad) σ H Q) :
    L2.tLc (tI K RX W it) (gT K tg) (tT K RX W0 cnd) (tE K RX W0 elt) own σ H Q := by
  obtain ⟨γ, s, R0, p⟩ := h
  refine ⟨γ, s, R0, ?_⟩
  cases hi : it s with
  | bad => simp only [hi, R.bind] at p
  | ex e s' => simp only [hi, R.bind] at p; exact p
  | ok xs s1 =>
    simp only [hi, R.bind] at p
    intro γ1 H1 J st1 R1 wk a ha
    by_cases hl : xs.length ≤ LINE
    · rw [if_pos hl] at p
      cases hg : lcGo (wipeE s1.env own) tg cnd elt xs s1 with
      | bad => simp only [hg] at p
      | ex e s' => exact absurd hg lcGo_noex
      | ok ys s2 =>
        simp only [hg] at p
        have h0 : H a = none := none_back (st1.trk a) ha
        have n0 := R1.nil_of ha
        have Iv : ∃ Iv : Nat → Hp → Prop, ∀ i H', Iv i H' ↔ (i ≤ xs.length ∧ ∃ (γ2 : Gh) (si : S) (acc : List D) (vs : List V) (yr : List D), γ2.tm = a :: γ1.tm ∧ Stp γ1 H1 (γ2.wtm γ1.tm) H' ∧ Rel K γ2 { si with env := wipeE s1.env own } (L2.wipe σ own) H' ∧
            H' a = some (.lst vs) ∧ RelDs K γ2 H' acc vs ∧ lcGo (wipeE s1.env own) tg cnd elt (xs.drop i) si = .ok yr s2 ∧ ys = acc ++ yr ∧ acc.length ≤ i) := ⟨_, fun _ _ => Iff.rfl⟩
        obtain ⟨Iv, hIv⟩ := Iv
        refine ⟨fun i m H' => m = xs.length - i ∧ Iv i H', ⟨xs.length, by simp, (hIv _ _).mpr ⟨Nat.zero_le _, γ1.mk1 a, s1, [], [], ys, rfl, Stp.new γ1 ha, (R1.mk1 ha).wipe own, upd_same, .nil, by simpa using hg, rfl, Nat.zero_le _⟩⟩, ?_⟩
        rintro i m H' ⟨rfl, iv⟩
        obtain ⟨hi2, γ2, si, acc, vs, yr, htm, st2, R2, hv, rv, hgo, hy, hac⟩ := (hIv _ _).mp iv
        have sts := st2.sts1 htm ha
        by_cases hlt : i < xs.length
        · -- one more turn
          have hx : xs[i]? = some xs[i] := List.getElem?_eq_getElem hlt
          refine .inr ⟨wk.go i γ2 H' sts hlt, Iv (i + 1), fun H'' q => ⟨xs.length - (i + 1), by omega, rfl, q⟩, fun x H3 hyd => ?_⟩
          obtain ⟨hnew, rx⟩ := wk.yld i γ2 H' x H3 xs[i] sts hyd hx
          rw [List.drop_eq_getElem_cons hlt] at hgo
          unfold lcGo at hgo
          -- the state at the turn's start
          obtain ⟨st3, R3, hv3, rv3⟩ : Stp γ1 H1 (γ2.wtm γ1.tm) H3 ∧ Rel K γ2 { si with env := wipeE s1.env own } (L2.wipe σ own) H3 ∧ H3 a = some (.lst vs) ∧ RelDs K γ2 H3 acc vs := by
            rcases hnew with rfl | ⟨T, o, hT, rfl⟩
            · exact ⟨st2, R2, hv, rv⟩
            · exact ⟨st2.trans ((Stp.new γ2 hT).tmf _), R2.new hT, by rw [upd_ne (L2.ne_of_none hv hT)]; exact hv, RelDs.step (Stp.new γ2 hT).toSts R2.tups _ _ rv⟩
          cases hb : bindTs tg xs[i] { si with env := wipeE s1.env own } with
          | none => rw [hb] at hgo; cases hgo
          | some sb =>
            rw [hb] at hgo
            simp only at hgo
            refine ⟨γ2, _, xs[i], sb, R3, rx, hb, fun σ2 Rb hw => ⟨(hw own ho).trans (wipe_idem σ own), γ2, sb, Rb, ?_⟩⟩
            cases hc : cnd sb with
            | bad => rw [hc] at hgo; simp at hgo
            | ex _ _ => rw [hc] at hgo; simp at hgo
            | ok b sc =>
              rw [hc] at hgo
              simp only [R.bindN] at hgo
              intro γ4 H4 b' st4 R4 eb
              subst eb
              have tma := R3.tm a (by rw [htm]; exact List.mem_cons_self)
              have hv4 : H4 a = some (.lst vs) := st4.frame a _ hv3 (fun z => tma.2.1 z) (fun z => tma.2.2 z)
              have rv4 := RelDs.step st4.toSts Rb.tups _ _ rv3
              have htm4 : γ4.tm = a :: γ1.tm := st4.tmE.trans htm
              cases b with
              | false =>
                simp only [Bool.false_eq_true, if_false] at hgo ⊢
                exact (hIv _ _).mpr ⟨hlt, γ4, sc, acc, vs, yr, htm4, st3.trans (st4.tmf _), R3.back st4 R4, hv4, rv4, hgo, hy, by omega⟩
              | true =>
                simp only [if_true] at hgo ⊢
                refine ⟨γ4, sc, R4, ?_⟩
                cases he : elt sc with
                | bad => rw [he] at hgo; simp at hgo
                | ex _ _ => rw [he] at hgo; simp at hgo
                | ok v sd =>
                  rw [he] at hgo
                  cases v with
                  | own _ => simp at hgo
                  | d y =>
                    simp only [R.bindN] at hgo
                    cases hr : lcGo (wipeE s1.env own) tg cnd elt (xs.drop (i + 1)) sd with
                    | bad => rw [hr] at hgo; simp at hgo
                    | ex _ _ => exact absurd hr lcGo_noex
                    | ok yr' s' =>
                      rw [hr] at hgo
                      simp only [R.bind] at hgo
                      cases hgo
                      intro γ5 H5 w st5 R5 rw5
                      have htm5 : γ5.tm = a :: γ1.tm := st5.tmE.trans htm4
                      have tm4 := R4.tm a (by rw [htm4]; exact List.mem_cons_self)
                      have hv5 : H5 a = some (.lst vs) := st5.frame a _ hv4 (fun z => tm4.2.1 z) (fun z => tm4.2.2 z)
                      have rv5 := RelDs.step st5.toSts R4.tups _ _ rv4
                      have e5 : (γ5.wtm γ1.tm).mk1 a = γ5 := unmk_eq htm5
                      have nt : ∀ zs, H5 a ≠ some (.tup zs) := fun zs => by rw [hv5]; simp
                      have nf : ∀ u zs, H5 a ≠ some (.frz u (.tup zs)) := fun u zs => by rw [hv5]; simp
                      have R5' := R3.back (st4.trans st5) R5
                      have rall : RelDs K γ5 H5 (acc ++ [y]) (vs ++ [w]) := relDs_app rv5 (.cons rw5 .nil)
                      have st6 := st3.trans ((st4.trans st5).tmf _)
                      have h05 : (γ5.wtm γ1.tm).H0 a = none := by
                        rw [st6.h0]
                        exact n0.1
                      refine ⟨vs, hv5, line_lt (by rw [← relDs_len rv5]; omega), (hIv _ _).mpr ⟨hlt, γ5, sd, acc ++ [y], vs ++ [w], yr', htm5, st6.setTm ha, ?_, upd_same, ?_, hr, ?_, ?_⟩⟩
                      · rw [← e5] at R5' ⊢
                        exact R5'.setTm h05 nt nf
                      · rw [← e5] at rall ⊢
                        exact RelDs.setTm nt nf _ _ rall
                      · rw [hy, List.append_assoc]; rfl
                      · rw [List.length_append]; simp only [List.length_singleton]; omega
        · -- the end
          have e : i = xs.length := by omega
          subst e
          refine .inl ⟨wk.stop γ2 H' sts, ?_⟩
          rw [List.drop_length] at hgo
          simp only [lcGo] at hgo
          cases hgo
          rw [List.append_nil] at hy
          subst hy
          have e2 : (γ2.wtm γ1.tm).mk1 a = γ2 := unmk_eq htm
          refine p (γ2.wtm γ1.tm) H' a vs h0 (st1.trans st2) ?_ (by rw [e2]; exact rv) hv
          rw [e2]
          exact R1.backS (s' := { s2 with env := wipeE s1.env own }) sts st2.pf R2
    · rw [if_neg hl] at p; exact False.elim p
end
end Mp

/-! Mp: the check that a code is an expression's; its soundness. -/
namespace Mp
open PySem (Addr Value Expr PyData Str CmpOp Operator binaryOp compareOp cLine Scope Env NameKind)
open L2 (V HO Hp upd upd_same upd_ne SqT SqL Rd PE PT PW PA PI PG Cx OpR TE TT TA TI TG VK XK WX RelV EP CallR MtR IxR Gl Sp It Room Takes Vis)

/-- the program's names -/
structure Prg where
  fname : Nat → Str
  nf : Nat
  gcs : List (Str × D)

def visB (sc : Scope) (x : Str) : Bool := match sc.names.lookup x with
  | some .local => true
  | some .cell => true
  | some .free => true
  | _ => false
def glB (sc : Scope) (x : Str) : Bool := match sc.names.lookup x with
  | some .globalImplicit => true
  | _ => false
def locB (sc : Scope) (x : Str) : Bool := match sc.names.lookup x with
  | some .local => true
  | _ => false
def notDbg (x : Str) : Bool := !(x == ("__debug__" : Str)) && !(x == ("__classdict__" : Str)) && !decide (x = "__name__")
def cstB (d : D) (c : PySem.Const) : Bool := match d, c with
  | .non, .none => true
  | .bl a, .bool b => a == b
  | .int i, .int j => decide (i = j)
  | .str x, .str y => decide (x = y)
  | _, _ => false
def notStar : Expr → Bool
  | .Starred .. => false
  | _ => true
def notSlice : Expr → Bool
  | .Slice .. => false
  | _ => true
def notSet : Expr → Bool
  | .Set .. => false
  | _ => true
def notCall : Expr → Bool
  | .Call .. => false
  | _ => true
/-- as a test it is asked for its truth -/
def plainT : Expr → Bool
  | .UnaryOp .Not _ _ => false
  | .BoolOp .. => false
  | .IfExp .. => false
  | .Compare .. => false
  | _ => true
def tgB (N : List Str) (sc : Scope) (tg : List Nat) (e : Expr) : Bool := match tg, e with
  | [i], .Name x _ => decide (N[i]? = some x) && locB sc x
  | _, _ => false
def bmOk : Bm → Bool
  | .join => true
  | .append => true
  | _ => false
def ownP (N : List Str) (own : List Nat) : List (Str × Nat) := own.map fun i => (N.getD i "", i)

section
variable (P : Prg) (N : List Str)
mutual
def cE : E → Scope → Expr → Bool
  | .cst d, _, .Constant c _ _ => cstB d c
  | .var i, sc, .Name x _ => decide (N[i]? = some x) && visB sc x && notDbg x
  | .gc d, sc, .Name x _ => glB sc x && notDbg x && P.gcs.any fun p => decide (p.1 = x) && D.same p.2 d
  | .tup es, sc, .Tuple xs _ _ => cL es sc xs
  | .dct kvs, sc, .Dict ks vs _ => cD kvs sc ks vs && decide (ks.length = vs.length) && decide (ks.length ≤ 15) && ks.all (·.isSome)
  | .fz f, sc, x => cF f sc x
  | .mk f, sc, x => cF f sc x
  | .gl f, sc, x => cF f sc x
  | .bin op a b, sc, .BinOp l o r _ => decide (o = opP op) && cE a sc l && cE b sc r
  | .cmp op a b, sc, .Compare l [o] [r] _ => decide (o = coP op) && !PySem.behindInMarks o r && cE a sc l && cE b sc r
  | .chain o1 o2 a b c, sc, .Compare l [p1, p2] [m, r] _ => decide (p1 = coP o1) && decide (p2 = coP o2) && !PySem.lastMarks [p1, p2] [m, r] && cE a sc l && cE b sc m && cE c sc r
  | .and_ a b, sc, .BoolOp .And (x :: y :: r) _ => cE a sc x && (match r with
    | [] => cE b sc y
    | z :: r => cAnd b sc (y :: z :: r))
  | .or_ a b, sc, .BoolOp .Or (x :: y :: r) _ => cE a sc x && (match r with
    | [] => cE b sc y
    | z :: r => cOr b sc (y :: z :: r))
  | .not_ a, sc, .UnaryOp .Not x _ => cE a sc x
  | .ife t a b, sc, .IfExp c x y _ => cT t sc c && cE a sc x && cE b sc y
  | .neg a, sc, .UnaryOp .USub x _ => cE a sc x
  | .sub a i, sc, .Subscript x y _ => cE a sc x && cE i sc y && notSlice y
  | .call f es, sc, .Call (.Name x _) args [] _ => decide (x = P.fname f) && decide (f < P.nf) && glB sc x && notDbg x && cL es sc args
  | .bf b es, sc, .Call (.Name x _) (y :: ys) [] _ => decide (x = bfN b) && glB sc x && cL es sc (y :: ys)
  | .isi a t, sc, .Call (.Name x _) [y, .Name z _] [] _ => decide (x = "isinstance") && glB sc x && decide (z = tgS t) && tgOk t && glB sc z && notStar y && cE a sc y
  | .bm m a es, sc, .Call (.Attribute o nm ap) (y :: ys) [] cp => decide (nm = bmN m) && bmOk m && cE a sc o && cL es sc (y :: ys) && notCall o && (ap.endLine == cp.line) && decide ((y :: ys).length < 29)
  | _, _, _ => false
def cD : E → Scope → List (Option Expr) → List Expr → Bool
  | .nil, _, [], [] => true
  | .cons k t, sc, some x :: ks, vs => cE k sc x && cDv t sc ks vs
  | _, _, _, _ => false
def cDv : E → Scope → List (Option Expr) → List Expr → Bool
  | .cons v t, sc, ks, y :: vs => cE v sc y && cD t sc ks vs
  | _, _, _, _ => false
def cAnd : E → Scope → List Expr → Bool
  | .and_ a b, sc, x :: y :: r => cE a sc x && (match r with
    | [] => cE b sc y
    | z :: r => cAnd b sc (y :: z :: r))
  | _, _, _ => false
def cOr : E → Scope → List Expr → Bool
  | .or_ a b, sc, x :: y :: r => cE a sc x && (match r with
    | [] => cE b sc y
    | z :: r => cOr b sc (y :: z :: r))
  | _, _, _ => false
def cAndT : E → Scope → List Expr → Bool
  | .and_ a b, sc, x :: y :: r => cT a sc x && (match r with
    | [] => cT b sc y
    | z :: r => cAndT b sc (y :: z :: r))
  | _, _, _ => false
def cOrT : E → Scope → List Expr → Bool
  | .or_ a b, sc, x :: y :: r => cT a sc x && (match r with
    | [] => cT b sc y
    | z :: r => cOrT b sc (y :: z :: r))
  | _, _, _ => false
def cL : E → Scope → List Expr → Bool
  | .nil, _, [] => true
  | .cons h t, sc, x :: xs => cE h sc x && notStar x && cL t sc xs
  | _, _, _ => false
def cT : E → Scope → Expr → Bool
  | .and_ a b, sc, .BoolOp .And (x :: y :: r) _ => cT a sc x && (match r with
    | [] => cT b sc y
    | z :: r => cAndT b sc (y :: z :: r))
  | .or_ a b, sc, .BoolOp .Or (x :: y :: r) _ => cT a sc x && (match r with
    | [] => cT b sc y
    | z :: r => cOrT b sc (y :: z :: r))
  | .not_ a, sc, .UnaryOp .Not x _ => cT a sc x
  | .cmp op a b, sc, .Compare l [o] [r] _ => decide (o = coP op) && !PySem.behindInMarks o r && cE a sc l && cE b sc r
  | .chain o1 o2 a b c, sc, .Compare l [p1, p2] [m, r] _ => decide (p1 = coP o1) && decide (p2 = coP o2) && !PySem.lastMarks [p1, p2] [m, r] && cE a sc l && cE b sc m && cE c sc r
  | .cst d, sc, .Constant c _ _ => cstB d c
  | .var i, sc, .Name x _ => decide (N[i]? = some x) && visB sc x && notDbg x
  | .sub a i, sc, .Subscript x y _ => cE a sc x && cE i sc y && notSlice y
  | .call f es, sc, .Call (.Name x _) args [] _ => decide (x = P.fname f) && decide (f < P.nf) && glB sc x && notDbg x && cL es sc args
  | .bf b es, sc, .Call (.Name x _) (y :: ys) [] _ => decide (x = bfN b) && glB sc x && cL es sc (y :: ys)
  | .isi a t, sc, .Call (.Name x _) [y, .Name z _] [] _ => decide (x = "isinstance") && glB sc x && decide (z = tgS t) && tgOk t && glB sc z && notStar y && cE a sc y
  | .bm m a es, sc, .Call (.Attribute o nm ap) (y :: ys) [] cp => decide (nm = bmN m) && bmOk m && cE a sc o && cL es sc (y :: ys) && notCall o && (ap.endLine == cp.line) && decide ((y :: ys).length < 29)
  | .fz f, sc, x => cF f sc x && plainT x
  | _, _, _ => false
def cIfs : E → Scope → List Expr → Bool
  | .nil, _, [] => true
  | .cons t .nil, sc, [x] => cT t sc x
  | _, _, _ => false
def cF : E → Scope → Expr → Bool
  | .lst es, sc, .List xs _ => cL es sc xs
  | .lof a, sc, .Call (.Name x _) [y] [] _ => decide (x = "list") && glB sc x && notStar y && cE a sc y
  | .cat a b, sc, .BinOp l o r _ => decide (o = .Add) && cE a sc l && cE b sc r
  | .lc own tg it cnd elt, sc, .ListComp el [⟨tx, iter, ifs, 0⟩] scope _ => L2.blkC N sc scope (ownP N own) && tg.all (fun i => decide (i ∈ own)) && own.all (fun i => decide (i < N.length)) && tgB N scope tg tx && cI it sc iter && notSet iter && cIfs cnd scope ifs && cE elt scope el
  | _, _, _ => false
def cI : E → Scope → Expr → Bool
  | .it e, sc, x => cE e sc x
  | .rng es, sc, .Call (.Name x _) args [] _ => decide (x = "range") && glB sc x && cL es sc args && (match args with
    | [_] => true
    | [_, _] => true
    | _ => false)
  | _, _, _ => false
end
end

/-! ### soundness -/
theorem star_cons {x : Expr} {xs : List Expr} {env : Env} (h : notStar x = true) : PySem.starEach (x :: xs) env = (false, PySem.eval x env) :: PySem.starEach xs env := by
  cases x <;> first | rfl | cases h
theorem base_of {o : Expr} {n : Str} {env : Env} {w : PySem.Sem Value} (h : notCall o = true) : PySem.attributeBase o n env w = w := by
  cases o <;> first | rfl | cases h
theorem slice_of {y : Expr} (h : notSlice y = true) : L2.PlainIx y := by
  intro o i
  cases y <;> first | rfl | cases h
theorem set_of {y : Expr} {env : Env} (h : notSet y = true) (x : Value) : PySem.foldedSetIterable y env x = pure x := by
  cases y <;> first | rfl | cases h
theorem plainT_of {x : Expr} {env : Env} (h : plainT x = true) (whole : PySem.Sem Value) : PySem.isTrue x env whole = (do let v ← whole; PySem.standAt x.pos; PySem.holding [v] (PySem.truthy v)) := by
  cases x with
  | UnaryOp op _ _ => cases op <;> first | rfl | cases h
  | _ => first | rfl | cases h

/-- a context in which the program's expressions are read -/
structure Good (P : Prg) (N : List Str) (Γ : Callee) (RX : ExRel) (k : Nat) (X : Cx) (W : WX) (sc : Scope) : Prop where
  hN : X.N = N
  nd : N.Nodup
  calm : X.calm = true
  room : Room k X.A
  tk : Takes X W
  pass : PySem.PassesOwn (PySem.model X.prog X.w) X.A X.env X.xe
  kind : X.env.scope.kind = .function
  vis : ∀ x, visB sc x = true → Vis X.env.scope x
  gl : ∀ x, glB sc x = true → Gl X x
  loc : ∀ x, locB sc x = true → X.env.scope.names.lookup x = some .local
  cf : ∀ x, sc.names.lookup x = some .cell ∨ sc.names.lookup x = some .free → X.env.scope.names.lookup x = some .cell ∨ X.env.scope.names.lookup x = some .free
  blt : ∀ b, X.mg (bfN b) = none
  tgs : ∀ t, tgOk t = true → X.mg (tgS t) = none
  isi : X.mg "isinstance" = none
  lst : X.mg "list" = none
  rng : X.mg "range" = none
  gcs : ∀ p ∈ P.gcs, ∃ u v, X.mg p.1 = some u ∧ RelV v u ∧ ∀ γ H, RelD X.K γ H p.2 v
  fns : ∀ f, f < P.nf → ∃ fa fd ps, X.mg (P.fname f) = some (.ref fa) ∧ PySem.W.keepIn X.K (.ref fa) = true ∧ L2.Binds X.K fd ps [] ∧ L2.FnOk X.prog X.w X.K X.mg X.base (L2.CX X.prog X.w) k fa fd ps (spG X.K RX Γ f)
  steady : ExSteady X.K RX

section
variable {P : Prg} {N : List Str} {Γ : Callee} {RX : ExRel} {k : Nat} {X : Cx} {W : WX} {sc : Scope}
theorem Good.hu (G : Good P N Γ RX k X W sc) : X.A.units + 200 < cLine := by have := G.room.un; omega

mutual
/-- the readings of a display's pairs -/
def trsOf (K : PySem.W.Frag) (RX : ExRel) (W : WX) (Γ : Callee) : E → List (TE × TE)
  | .cons k t => trsOfV K RX W Γ (tE K RX W (ev Γ k)) t
  | _ => []
def trsOfV (K : PySem.W.Frag) (RX : ExRel) (W : WX) (Γ : Callee) (tk : TE) : E → List (TE × TE)
  | .cons v t => (tk, tE K RX W (ev Γ v)) :: trsOf K RX W Γ t
  | _ => []
end
/-- what is shown of a code -/
structure Snd (P : Prg) (N : List Str) (Γ : Callee) (RX : ExRel) (k : Nat) (c : E) : Prop where
  e : ∀ {X W sc}, Good P N Γ RX k X W sc → ∀ x, cE P N c sc x = true → PE X x (tE X.K RX W (ev Γ c))
  an : ∀ {X W sc}, Good P N Γ RX k X W sc → ∀ xs pos, cAnd P N c sc xs = true → PE X (.BoolOp .And xs pos) (tE X.K RX W (ev Γ c))
  or : ∀ {X W sc}, Good P N Γ RX k X W sc → ∀ xs pos, cOr P N c sc xs = true → PE X (.BoolOp .Or xs pos) (tE X.K RX W (ev Γ c))
  ant : ∀ {X W sc}, Good P N Γ RX k X W sc → ∀ xs pos, cAndT P N c sc xs = true → PW X (.BoolOp .And xs pos) (tT X.K RX W (evT Γ c))
  ort : ∀ {X W sc}, Good P N Γ RX k X W sc → ∀ xs pos, cOrT P N c sc xs = true → PW X (.BoolOp .Or xs pos) (tT X.K RX W (evT Γ c))
  l : ∀ {X W sc}, Good P N Γ RX k X W sc → ∀ xs, cL P N c sc xs = true → PA X xs (tA X.K RX W (evs Γ c))
  t : ∀ {X W sc}, Good P N Γ RX k X W sc → ∀ x, cT P N c sc x = true → PT X x (tT X.K RX W (evT Γ c))
  i : ∀ {X W sc}, Good P N Γ RX k X W sc → ∀ xs, cIfs P N c sc xs = true → L2.PTs X xs (tT X.K RX W (evT Γ c))
  f : ∀ {X W sc}, Good P N Γ RX k X W sc → ∀ x, cF P N c sc x = true → PE X x (tF X.K RX W (evF Γ c))
  d : ∀ {X W sc}, Good P N Γ RX k X W sc → ∀ pos ks vs, cD P N c sc ks vs = true → L2.PPs X pos ks vs (trsOf X.K RX W Γ c)
  dv : ∀ {X W sc}, Good P N Γ RX k X W sc → ∀ pos ks vs kx tk, PE X kx tk → cDv P N c sc ks vs = true → L2.PPs X pos (some kx :: ks) vs (trsOfV X.K RX W Γ tk c)
  w : ∀ {X W sc}, Good P N Γ RX k X W sc → ∀ tg x, cI P N c sc x = true → PI X tg x (tI X.K RX W (evI Γ c))

/-! the cases -/
theorem tE_ok {K : PySem.W.Frag} {m : S → R Val} {σ : L2.St} {H : Hp} {Q : VK} (d : D) (h : tE K RX W m σ H Q) (hm : ∀ s, m s = .ok (.d d) s) {x : V} (hr : ∀ γ H, RelD K γ H d x) : Q x H := by
  obtain ⟨γ, s, R, p⟩ := h
  rw [hm] at p
  exact p.here R (hr γ H)
theorem s_cst {d : D} {c : PySem.Const} {n : Nat} {pos : PySem.Pos} (h : cstB d c = true) : PE X (.Constant c n pos) (tE X.K RX W (ev Γ (.cst d))) := by
  unfold cstB at h
  split at h
  · exact weakE L2.pe_non fun σ H Q q => tE_ok .non q (fun s => by simp only [ev]) fun _ _ => .non
  · rw [beq_iff_eq] at h; subst h
    exact weakE L2.pe_bl fun σ H Q q => tE_ok (.bl _) q (fun s => by simp only [ev]) fun _ _ => .bl _
  · rw [decide_eq_true_eq] at h; subst h
    exact weakE L2.pe_int fun σ H Q q => tE_ok (.int _) q (fun s => by simp only [ev]) fun _ _ => .int _
  · rw [decide_eq_true_eq] at h; subst h
    exact weakE L2.pe_str fun σ H Q q => tE_ok (.str _) q (fun s => by simp only [ev]) fun _ _ => .str _
  · cases h
theorem notDbg_of {x : Str} (h : notDbg x = true) : (x == ("__debug__" : Str)) = false ∧ (x == ("__classdict__" : Str)) = false ∧ x ≠ "__name__" := by
  unfold notDbg at h
  simp only [Bool.and_eq_true, Bool.not_eq_true', decide_eq_false_iff_not] at h
  exact ⟨h.1.1, h.1.2, h.2⟩
theorem s_var (G : Good P N Γ RX k X W sc) {i : Nat} {x : Str} {pos : PySem.Pos} (h1 : N[i]? = some x) (h2 : visB sc x = true) (h3 : notDbg x = true) : PE X (.Name x pos) (tE X.K RX W (ev Γ (.var i))) := by
  obtain ⟨d1, d2, _⟩ := notDbg_of h3
  refine weakE (L2.pe_var (i := i) (by rw [G.hN]; exact h1) (G.vis x h2) d1 d2) fun σ H Q q => ?_
  obtain ⟨γ, s, R, p⟩ := q
  simp only [ev, getVar] at p
  split at p
  · rename_i v e
    obtain ⟨u, hu, r⟩ := R.slot i v e
    exact ⟨u, hu, p.here R r⟩
  · exact False.elim p
theorem s_gc (G : Good P N Γ RX k X W sc) {d : D} {x : Str} {pos : PySem.Pos} (h1 : glB sc x = true) (h2 : notDbg x = true) (h3 : (P.gcs.any fun p => decide (p.1 = x) && D.same p.2 d) = true) : PE X (.Name x pos) (tE X.K RX W (ev Γ (.gc d))) := by
  obtain ⟨p, hp, hq⟩ := List.any_eq_true.mp h3
  simp only [Bool.and_eq_true, decide_eq_true_eq] at hq
  obtain ⟨rfl, e⟩ := hq
  have := D.same_eq _ _ e
  subst this
  obtain ⟨u, v, hm, r, rd⟩ := G.gcs p hp
  exact weakE (L2.pe_glob (G.gl _ h1) hm r (notDbg_of h2).1) fun σ H Q q => tE_ok p.2 q (fun s => by simp only [ev]) fun γ H => rd γ H
theorem s_bin {op : Bo} {a b : E} {l r : Expr} {pos : PySem.Pos} (ha : PE X l (tE X.K RX W (ev Γ a))) (hb : PE X r (tE X.K RX W (ev Γ b))) : PE X (.BinOp l (opP op) r pos) (tE X.K RX W (ev Γ (.bin op a b))) := by
  refine weakE (L2.pe_op (opR_bin (RX := RX) (W := W) op) ha hb) fun σ H Q ⟨γ, s, R, p⟩ => ⟨γ, s, R, ?_⟩
  simp only [ev] at p
  exact p.bind fun v s1 γ1 H1 x st1 R1 r1 p1 => ⟨γ1, s1, R1, p1.bind fun w s2 γ2 H2 y st2 R2 r2 p2 => ⟨γ2, s2, σ, v, w, R2, r1.step st2 R1.tups, r2, p2⟩⟩
theorem s_cmp (hu : X.A.units + 200 < cLine) {op : Co} {a b : E} {l r : Expr} {pos : PySem.Pos} (hm : PySem.behindInMarks (coP op) r = false) (ha : PE X l (tE X.K RX W (ev Γ a))) (hb : PE X r (tE X.K RX W (ev Γ b))) : PE X (.Compare l [coP op] [r] pos) (tE X.K RX W (ev Γ (.cmp op a b))) := by
  refine weakE (L2.pe_cmpR (opR_cmp (RX := RX) (W := W) hu op) ha hb hm) fun σ H Q ⟨γ, s, R, p⟩ => ⟨γ, s, R, ?_⟩
  simp only [ev] at p
  refine p.bind fun v s1 γ1 H1 x st1 R1 r1 p1 => ⟨γ1, s1, R1, p1.bind fun w s2 γ2 H2 y st2 R2 r2 p2 => ?_⟩
  cases hc : cmpop op v w s2 with
  | none => rw [hc] at p2; exact False.elim p2
  | some b =>
    rw [hc] at p2
    exact ⟨γ2, s2, σ, v, w, b, R2, r1.step st2 R1.tups, r2, hc, Post.here (a := Val.d (D.bl b)) p2 R2 (.bl _)⟩
theorem s_cmpT (hu : X.A.units + 200 < cLine) {op : Co} {a b : E} {l r : Expr} {pos : PySem.Pos} (hm : PySem.behindInMarks (coP op) r = false) (ha : PE X l (tE X.K RX W (ev Γ a))) (hb : PE X r (tE X.K RX W (ev Γ b))) : PT X (.Compare l [coP op] [r] pos) (tT X.K RX W (evT Γ (.cmp op a b))) := by
  refine weakT (L2.pt_cmpR (opR_cmp (RX := RX) (W := W) hu op) ha hb hm) fun σ H Q ⟨γ, s, R, p⟩ => ⟨γ, s, R, ?_⟩
  simp only [evT, ev] at p
  cases ea : ev Γ a s with
  | bad => simp only [ea, Mp.R.bind] at p; exact p
  | ex _ _ => simp only [ea, Mp.R.bind] at p; exact p
  | ok v s1 =>
    simp only [ea, Mp.R.bind] at p
    intro γ1 H1 x st1 R1 r1
    refine ⟨γ1, s1, R1, ?_⟩
    cases eb : ev Γ b s1 with
    | bad => simp only [eb, Mp.R.bind] at p; exact p
    | ex _ _ => simp only [eb, Mp.R.bind] at p; exact fun γ2 H2 c d st2 => p γ2 H2 c d (st1.trans st2)
    | ok w s2 =>
      simp only [eb, Mp.R.bind] at p
      intro γ2 H2 y st2 R2 r2
      cases hc : cmpop op v w s2 with
      | none => simp only [hc, optR] at p; exact False.elim p
      | some b =>
        simp only [hc, optR, truth] at p
        exact ⟨γ2, s2, σ, v, w, b, R2, r1.step st2 R1.tups, r2, hc, b, rfl, p γ2 H2 b (st1.trans st2) R2 rfl⟩

theorem s_nil : PA X [] (tA X.K RX W (evs Γ .nil)) := weakA L2.pa_nil fun σ H Q ⟨γ, s, R, p⟩ => by
  simp only [evs] at p
  exact p.here R .nil
theorem s_cons {h t : E} {x : Expr} {xs : List Expr} (n : notStar x = true) (hh : PE X x (tE X.K RX W (ev Γ h))) (ht : PA X xs (tA X.K RX W (evs Γ t))) : PA X (x :: xs) (tA X.K RX W (evs Γ (.cons h t))) := by
  refine weakA (L2.pa_cons hh ht (star_cons n)) fun σ H Q ⟨γ, s, R, p⟩ => ⟨γ, s, R, ?_⟩
  simp only [evs] at p
  exact p.bind fun v s1 γ1 H1 x st1 R1 r1 p1 => ⟨γ1, s1, R1, p1.bind fun w s2 γ2 H2 y st2 R2 r2 p2 => p2.here R2 (.cons (r1.step st2 R1.tups) r2)⟩
theorem relVals_len {K : PySem.W.Frag} {γ : Gh} {H : Hp} {vs : List Val} {xs : List V} (h : RelVals K γ H vs xs) : vs.length = xs.length := by
  induction h with
  | nil => rfl
  | cons _ _ ih => simp only [List.length_cons, ih]
theorem toDs_len : ∀ {vs : List Val} {ds : List D}, toDs vs = some ds → vs.length = ds.length
  | [], _, e => by cases e; rfl
  | .d x :: vs, _, e => by
    simp only [toDs, Option.map_eq_some_iff] at e
    obtain ⟨l, e1, rfl⟩ := e
    simp only [List.length_cons, toDs_len e1]
  | .own _ :: _, _, e => by simp [toDs] at e
theorem s_tup {es : E} {xs : List Expr} {n : Nat} {pos : PySem.Pos} (h : PA X xs (tA X.K RX W (evs Γ es))) : PE X (.Tuple xs n pos) (tE X.K RX W (ev Γ (.tup es))) := by
  refine weakE (L2.pe_tup h) fun σ H Q ⟨γ, s, R, p⟩ => ⟨γ, s, R, ?_⟩
  simp only [ev] at p
  refine p.bind fun vs s1 γ1 H1 us st1 R1 r1 p1 => ?_
  cases hd : toDs vs with
  | none => rw [hd] at p1; exact False.elim p1
  | some ds =>
    rw [hd] at p1
    obtain ⟨hl, p1⟩ := Post.ifP p1
    have rr := toDs_rel r1 hd
    exact ⟨line_le (by rw [← relDs_len rr]; exact hl), fun a ha => p1 γ1 _ _ (Stp.new γ1 ha) (R1.new ha) (new_tup R1 ha rr)⟩
theorem s_lst {es : E} {xs : List Expr} {pos : PySem.Pos} (h : PA X xs (tA X.K RX W (evs Γ es))) : PE X (.List xs pos) (tF X.K RX W (evF Γ (.lst es))) := by
  refine weakE (L2.pe_lst h) fun σ H Q ⟨γ, s, R, p⟩ => ⟨γ, s, R, ?_⟩
  simp only [evF] at p
  cases he : evs Γ es s with
  | bad => simp only [he, Mp.R.bind] at p
  | ex _ _ => simp only [he, Mp.R.bind] at p; exact p
  | ok vs s1 =>
    simp only [he, Mp.R.bind] at p
    intro γ1 H1 us st1 R1 r1
    cases hd : toDs vs with
    | none => simp only [hd] at p
    | some ds =>
      simp only [hd] at p
      by_cases hl : ds.length ≤ LINE
      · rw [if_pos hl] at p
        have rr := toDs_rel r1 hd
        exact ⟨line_le (by rw [← relDs_len rr]; exact hl), fun a ha => p γ1 _ a us (none_back (st1.trk a) ha) (st1.trans (Stp.new γ1 ha)) (R1.mk1 ha) (RelDs.mk1 ha R1.tups _ _ rr) upd_same⟩
      · rw [if_neg hl] at p; exact False.elim p
theorem mk1_bad {K : PySem.W.Frag} {γ : Gh} {s : S} {σ : L2.St} {H : Hp} {a : Addr} (R : Rel K (γ.mk1 a) s σ H) (h0 : γ.H0 a = none) (nt : a ∉ γ.tm) : ¬ γ.Bad a := by
  have t := R.tm a List.mem_cons_self
  rintro ((z | z) | z | z)
  · exact not_some h0 (R.bo a z).1
  · exact nt z
  · exact t.2.1 z
  · exact t.2.2 z
theorem fz_read {f : E} {σ : L2.St} {H : Hp} {Q : VK} (q : tE X.K RX W (ev Γ (.fz f)) σ H Q) : tF X.K RX W (evF Γ f) σ H Q := by
  obtain ⟨γ, s, R, p⟩ := q
  refine ⟨γ, s, R, ?_⟩
  simp only [ev] at p
  cases he : evF Γ f s with
  | bad => simp only [he, Mp.R.bind] at p; exact p
  | ex _ _ => simp only [he, Mp.R.bind] at p; exact p
  | ok xs s1 =>
    simp only [he, Mp.R.bind] at p
    intro γ1 H1 a vs ha st R1 rr hv
    have n0 := R.nil_of ha
    exact p γ1 H1 _ st R1.rest (.lst hv (mk1_bad R1 (by rw [st.h0]; exact n0.1) (by rw [st.tmE]; exact n0.2)) (RelDs.les (les_mk1 γ1 a) _ _ rr))
theorem s_fz {f : E} {x : Expr} (h : PE X x (tF X.K RX W (evF Γ f))) : PE X x (tE X.K RX W (ev Γ (.fz f))) := weakE h fun _ _ _ q => fz_read q
theorem mk_read {f : E} {σ : L2.St} {H : Hp} {Q : VK} (q : tE X.K RX W (ev Γ (.mk f)) σ H Q) : tF X.K RX W (evF Γ f) σ H Q := by
  obtain ⟨γ, s, R, p⟩ := q
  refine ⟨γ, s, R, ?_⟩
  simp only [ev] at p
  cases he : evF Γ f s with
  | bad => simp only [he, Mp.R.bind] at p; exact p
  | ex _ _ => simp only [he, Mp.R.bind] at p; exact p
  | ok xs s1 =>
    simp only [he, Mp.R.bind] at p
    intro γ1 H1 a vs ha st R1 rr hv
    have n0 := R.nil_of ha
    have h0 : γ1.H0 a = none := by rw [st.h0]; exact n0.1
    have nt : a ∉ γ1.tm := by rw [st.tmE]; exact n0.2
    refine p (γ1.ownF a) H1 (.ref a) { st with pf := List.IsPrefix.trans st.pf (List.prefix_append _ _), fn := fun x m => ?_ } (R1.ownF h0 hv rr nt) ⟨a, rfl, ?_⟩
    · rcases List.mem_append.mp m with m | m
      · exact st.fn x m
      · have e : x = a := by simpa using m
        exact .inr (e ▸ ha)
    · show (γ1.pf ++ [some a])[s1.fs.length]? = _
      rw [← show γ1.pf.length = s1.fs.length from R1.fl, List.getElem?_append_right (Nat.le_refl _), Nat.sub_self]
      rfl
theorem s_mk {f : E} {x : Expr} (h : PE X x (tF X.K RX W (evF Γ f))) : PE X x (tE X.K RX W (ev Γ (.mk f))) := weakE h fun _ _ _ q => mk_read q
theorem gl_read {f : E} {σ : L2.St} {H : Hp} {Q : VK} (q : tE X.K RX W (ev Γ (.gl f)) σ H Q) : tF X.K RX W (evF Γ f) σ H Q := by
  obtain ⟨γ, s, R, p⟩ := q
  refine ⟨γ, s, R, ?_⟩
  simp only [ev] at p
  cases he : evF Γ f s with
  | bad => simp only [he, Mp.R.bind] at p; exact p
  | ex _ _ => simp only [he, Mp.R.bind] at p; exact p
  | ok xs s1 =>
    simp only [he, Mp.R.bind] at p
    intro γ1 H1 a vs ha st R1 rr hv
    have n0 := R.nil_of ha
    have h0 : γ1.H0 a = none := by rw [st.h0]; exact n0.1
    have nt : a ∉ γ1.tm := by rw [st.tmE]; exact n0.2
    refine p (γ1.ownG a) H1 (.ref a) { st with pg := List.IsPrefix.trans st.pg (List.prefix_append _ _), gn := fun x m => ?_ } (R1.ownG h0 hv rr nt) (.ref ?_)
    · rcases List.mem_append.mp m with m | m
      · exact st.gn x m
      · have e : x = a := by simpa using m
        exact .inr (e ▸ ha)
    · show (γ1.pg ++ [a])[s1.gs.length]? = _
      rw [← show γ1.pg.length = s1.gs.length from R1.gl, List.getElem?_append_right (Nat.le_refl _), Nat.sub_self]
      rfl
theorem s_gl {f : E} {x : Expr} (h : PE X x (tF X.K RX W (evF Γ f))) : PE X x (tE X.K RX W (ev Γ (.gl f))) := weakE h fun _ _ _ q => gl_read q
theorem s_and {a b : E} {x y : Expr} {r : List Expr} {pos : PySem.Pos} (ha : PE X x (tE X.K RX W (ev Γ a))) (hb : PE X (.BoolOp .And (y :: r) pos) (tE X.K RX W (ev Γ b))) : PE X (.BoolOp .And (x :: y :: r) pos) (tE X.K RX W (ev Γ (.and_ a b))) := by
  refine weakE (L2.pe_andT ha hb) fun σ H Q ⟨γ, s, R, p⟩ => ⟨γ, s, R, ?_⟩
  simp only [ev] at p
  refine p.bind fun v s1 γ1 H1 x st1 R1 r1 p1 => ?_
  cases hk : truth v s1 with
  | none => rw [hk] at p1; exact False.elim p1
  | some k =>
    rw [hk] at p1
    refine ⟨k, truth_rel R1 r1 hk, ?_⟩
    cases k with
    | true => exact ⟨γ1, s1, R1, p1⟩
    | false => exact Post.here (a := v) p1 R1 r1
theorem s_or {a b : E} {x y : Expr} {r : List Expr} {pos : PySem.Pos} (ha : PE X x (tE X.K RX W (ev Γ a))) (hb : PE X (.BoolOp .Or (y :: r) pos) (tE X.K RX W (ev Γ b))) : PE X (.BoolOp .Or (x :: y :: r) pos) (tE X.K RX W (ev Γ (.or_ a b))) := by
  refine weakE (L2.pe_orT ha hb) fun σ H Q ⟨γ, s, R, p⟩ => ⟨γ, s, R, ?_⟩
  simp only [ev] at p
  refine p.bind fun v s1 γ1 H1 x st1 R1 r1 p1 => ?_
  cases hk : truth v s1 with
  | none => rw [hk] at p1; exact False.elim p1
  | some k =>
    rw [hk] at p1
    refine ⟨k, truth_rel R1 r1 hk, ?_⟩
    cases k with
    | true => exact Post.here (a := v) p1 R1 r1
    | false => exact ⟨γ1, s1, R1, p1⟩
theorem s_not {a : E} {x : Expr} {pos : PySem.Pos} (ha : PE X x (tE X.K RX W (ev Γ a))) : PE X (.UnaryOp .Not x pos) (tE X.K RX W (ev Γ (.not_ a))) := by
  refine weakE (L2.pe_notT ha) fun σ H Q ⟨γ, s, R, p⟩ => ⟨γ, s, R, ?_⟩
  simp only [ev] at p
  refine p.bind fun v s1 γ1 H1 x st1 R1 r1 p1 => ?_
  cases hk : truth v s1 with
  | none => rw [hk] at p1; exact False.elim p1
  | some k =>
    rw [hk] at p1
    exact ⟨k, truth_rel R1 r1 hk, Post.here (a := Val.d (D.bl (!k))) p1 R1 (.bl _)⟩
theorem s_ife {t a b : E} {c x y : Expr} {pos : PySem.Pos} (ht : PT X c (tT X.K RX W (evT Γ t))) (ha : PE X x (tE X.K RX W (ev Γ a))) (hb : PE X y (tE X.K RX W (ev Γ b))) : PE X (.IfExp c x y pos) (tE X.K RX W (ev Γ (.ife t a b))) := by
  refine weakE (L2.pe_ifExp ht ha hb) fun σ H Q ⟨γ, s, R, p⟩ => ⟨γ, s, R, ?_⟩
  simp only [ev] at p
  refine p.bind fun k s1 γ1 H1 x st1 R1 r1 p1 => ?_
  subst r1
  cases k with
  | true => exact ⟨γ1, s1, R1, p1⟩
  | false => exact ⟨γ1, s1, R1, p1⟩
theorem s_neg {a : E} {x : Expr} {pos : PySem.Pos} (ha : PE X x (tE X.K RX W (ev Γ a))) : PE X (.UnaryOp .USub x pos) (tE X.K RX W (ev Γ (.neg a))) := by
  refine weakE (L2.pe_un L2.un_neg ha) fun σ H Q ⟨γ, s, R, p⟩ => ⟨γ, s, R, ?_⟩
  simp only [ev] at p
  refine p.bind fun v s1 γ1 H1 x st1 R1 r1 p1 => ?_
  split at p1
  · cases r1
    exact ⟨_, rfl, p1.here R1 (.int _)⟩
  · exact False.elim p1
theorem s_sub {a i : E} {x y : Expr} {pos : PySem.Pos} (hs : notSlice y = true) (ha : PE X x (tE X.K RX W (ev Γ a))) (hi : PE X y (tE X.K RX W (ev Γ i))) : PE X (.Subscript x y pos) (tE X.K RX W (ev Γ (.sub a i))) := by
  refine weakE (L2.pe_ix (ixR_sub (RX := RX) (W := W)) ha hi (slice_of hs)) fun σ H Q ⟨γ, s, R, p⟩ => ⟨γ, s, R, ?_⟩
  simp only [ev] at p
  refine p.bind fun v s1 γ1 H1 x st1 R1 r1 p1 => ⟨γ1, s1, R1, p1.bind fun w s2 γ2 H2 y st2 R2 r2 p2 => ?_⟩
  obtain ⟨z, hz, p3⟩ := Post.opt p2
  exact ⟨γ2, s2, σ, v, w, z, R2, r1.step st2 R1.tups, r2, hz, fun u ru => p3.here R2 ru⟩
theorem s_chain (hu : X.A.units + 200 < cLine) {o1 o2 : Co} {a b c : E} {l m r : Expr} {pos : PySem.Pos} (hm : PySem.lastMarks [coP o1, coP o2] [m, r] = false) (ha : PE X l (tE X.K RX W (ev Γ a))) (hb : PE X m (tE X.K RX W (ev Γ b))) (hc : PE X r (tE X.K RX W (ev Γ c))) :
    PE X (.Compare l [coP o1, coP o2] [m, r] pos) (tE X.K RX W (ev Γ (.chain o1 o2 a b c))) := by
  refine weakE (L2.pe_chain (opR_cmp (RX := RX) (W := W) hu o1) (opR_cmp (RX := RX) (W := W) hu o2) ha hb hc hm) fun σ H Q ⟨γ, s, R, p⟩ => ⟨γ, s, R, ?_⟩
  simp only [ev] at p
  refine p.bind fun v s1 γ1 H1 x st1 R1 r1 p1 => ⟨γ1, s1, R1, p1.bind fun w s2 γ2 H2 y st2 R2 r2 p2 => ?_⟩
  cases hk : cmpop o1 v w s2 with
  | none => rw [hk] at p2; exact False.elim p2
  | some k =>
    rw [hk] at p2
    refine ⟨γ2, s2, σ, v, w, k, R2, r1.step st2 R1.tups, r2, hk, k, rfl, ?_⟩
    cases k with
    | false => exact Post.here (a := Val.d (D.bl false)) p2 R2 (.bl _)
    | true =>
      have p2 : Post X.K RX W γ2 H2 σ (RelVal X.K) ((ev Γ c s2).bind fun z s => (optR (cmpop o2 w z s) s).bind fun b s => .ok (.d (.bl b)) s) Q := p2
      refine ⟨γ2, s2, R2, p2.bind fun z s3 γ3 H3 u st3 R3 r3 p3 => ?_⟩
      cases hk2 : cmpop o2 w z s3 with
      | none => rw [hk2] at p3; exact False.elim p3
      | some k2 =>
        rw [hk2] at p3
        exact ⟨γ3, s3, σ, w, z, k2, R3, r2.step st3 R2.tups, r3, hk2, Post.here (a := Val.d (D.bl k2)) p3 R3 (.bl _)⟩
theorem s_truth {c : E} {x : Expr} (hp : plainT x = true) (he : ∀ s, evT Γ c s = (ev Γ c s).bind fun x s => optR (truth x s) s) (h : PE X x (tE X.K RX W (ev Γ c))) : PT X x (tT X.K RX W (evT Γ c)) := by
  refine weakT (L2.pt_truth h (plainT_of hp)) fun σ H Q ⟨γ, s, R, p⟩ => ⟨γ, s, R, ?_⟩
  rw [he] at p
  refine p.bind fun v s1 γ1 H1 x st1 R1 r1 p1 => ?_
  obtain ⟨k, hk, p2⟩ := Post.opt p1
  exact ⟨k, truth_rel R1 r1 hk, p2.here R1 rfl⟩
theorem s_andT {a b : E} {x y : Expr} {r : List Expr} {pos : PySem.Pos} (ha : PT X x (tT X.K RX W (evT Γ a))) (hb : PW X (.BoolOp .And (y :: r) pos) (tT X.K RX W (evT Γ b))) : PW X (.BoolOp .And (x :: y :: r) pos) (tT X.K RX W (evT Γ (.and_ a b))) := by
  have h := L2.pw_and (pos := pos) ha hb
  refine ⟨fun wh ps st τ H Q I q => h.run wh ps st τ H Q I ?_⟩
  obtain ⟨γ, s, R, p⟩ := q
  refine ⟨γ, s, R, ?_⟩
  simp only [evT] at p
  refine p.bind fun k s1 γ1 H1 x st1 R1 r1 p1 => ?_
  subst r1
  cases k with
  | true => exact ⟨γ1, s1, R1, p1⟩
  | false => exact Post.here (a := false) p1 R1 rfl
theorem s_orT {a b : E} {x y : Expr} {r : List Expr} {pos : PySem.Pos} (ha : PT X x (tT X.K RX W (evT Γ a))) (hb : PW X (.BoolOp .Or (y :: r) pos) (tT X.K RX W (evT Γ b))) : PW X (.BoolOp .Or (x :: y :: r) pos) (tT X.K RX W (evT Γ (.or_ a b))) := by
  have h := L2.pw_or (pos := pos) ha hb
  refine ⟨fun wh ps st τ H Q I q => h.run wh ps st τ H Q I ?_⟩
  obtain ⟨γ, s, R, p⟩ := q
  refine ⟨γ, s, R, ?_⟩
  simp only [evT] at p
  refine p.bind fun k s1 γ1 H1 x st1 R1 r1 p1 => ?_
  subst r1
  cases k with
  | true => exact Post.here (a := true) p1 R1 rfl
  | false => exact ⟨γ1, s1, R1, p1⟩
theorem s_notT {a : E} {x : Expr} {pos : PySem.Pos} (ha : PT X x (tT X.K RX W (evT Γ a))) : PT X (.UnaryOp .Not x pos) (tT X.K RX W (evT Γ (.not_ a))) := by
  refine weakT (L2.pt_not ha) fun σ H Q ⟨γ, s, R, p⟩ => ⟨γ, s, R, ?_⟩
  simp only [evT] at p
  refine p.bind fun k s1 γ1 H1 x st1 R1 r1 p1 => ?_
  subst r1
  exact p1.here R1 rfl
theorem evT_chain {o1 o2 : Co} {a b c : E} {s : S} : evT Γ (.chain o1 o2 a b c) s = (ev Γ a s).bind fun x s => (ev Γ b s).bind fun y s => (optR (cmpop o1 x y s) s).bind fun k s =>
      if k then (ev Γ c s).bind fun z s => optR (cmpop o2 y z s) s else .ok false s := by
  simp only [evT, ev]
  cases ev Γ a s with
  | bad => rfl
  | ex _ _ => rfl
  | ok v s1 =>
    simp only [Mp.R.bind]
    cases ev Γ b s1 with
    | bad => rfl
    | ex _ _ => rfl
    | ok w s2 =>
      simp only []
      cases cmpop o1 v w s2 with
      | none => rfl
      | some k =>
        cases k with
        | false => rfl
        | true =>
          simp only [optR, if_true]
          cases ev Γ c s2 with
          | bad => rfl
          | ex _ _ => rfl
          | ok z s3 =>
            simp only []
            cases cmpop o2 w z s3 <;> rfl
theorem s_chainT (hu : X.A.units + 200 < cLine) {o1 o2 : Co} {a b c : E} {l m r : Expr} {pos : PySem.Pos} (hm : PySem.lastMarks [coP o1, coP o2] [m, r] = false) (ha : PE X l (tE X.K RX W (ev Γ a))) (hb : PE X m (tE X.K RX W (ev Γ b))) (hc : PE X r (tE X.K RX W (ev Γ c))) :
    PT X (.Compare l [coP o1, coP o2] [m, r] pos) (tT X.K RX W (evT Γ (.chain o1 o2 a b c))) := by
  refine weakT (L2.pt_chain (opR_cmp (RX := RX) (W := W) hu o1) (opR_cmp (RX := RX) (W := W) hu o2) ha hb hc hm) fun σ H Q ⟨γ, s, R, p⟩ => ⟨γ, s, R, ?_⟩
  rw [evT_chain] at p
  refine p.bind fun v s1 γ1 H1 x st1 R1 r1 p1 => ⟨γ1, s1, R1, p1.bind fun w s2 γ2 H2 y st2 R2 r2 p2 => ?_⟩
  cases hk : cmpop o1 v w s2 with
  | none => rw [hk] at p2; exact False.elim p2
  | some k =>
    rw [hk] at p2
    refine ⟨γ2, s2, σ, v, w, k, R2, r1.step st2 R1.tups, r2, hk, k, rfl, ?_⟩
    cases k with
    | false => exact ⟨false, rfl, Post.here (a := false) p2 R2 rfl⟩
    | true =>
      have p2 : Post X.K RX W γ2 H2 σ (fun _ _ a b => a = b) ((ev Γ c s2).bind fun z s => optR (cmpop o2 w z s) s) Q := p2
      refine ⟨γ2, s2, R2, p2.bind fun z s3 γ3 H3 u st3 R3 r3 p3 => ?_⟩
      obtain ⟨k2, hk2, p4⟩ := Post.opt p3
      exact ⟨γ3, s3, σ, w, z, k2, R3, r2.step st3 R2.tups, r3, hk2, k2, rfl, p4.here R3 rfl⟩
end
end Mp

/-! Mp: calls, comprehensions; every checked code is sound. -/
namespace Mp
open PySem (Addr Value Expr PyData Str CmpOp Operator binaryOp compareOp cLine Scope Env NameKind)
open L2 (V HO Hp upd upd_same upd_ne SqT SqL Rd PE PT PW PA PI PG Cx OpR TE TT TA TI TG VK XK WX RelV EP CallR MtR IxR Gl Sp It Room Takes Vis)

section
variable {P : Prg} {N : List Str} {Γ : Callee} {RX : ExRel} {k : Nat} {X : Cx} {W : WX} {sc : Scope}
/-- a call of a def, of a value to be found -/
theorem s_call0 {f : Addr} {fd : PySem.FuncData} {ps : List Str} {sp : Sp} {E : L2.St → XK} {x : Str} {p pos : PySem.Pos} (F : L2.FnOk X.prog X.w X.K X.mg X.base (L2.CX X.prog X.w) k f fd ps sp) (hr : Room k X.A) (hg : Gl X x) (hm : X.mg x = some (.ref f))
    (hk : PySem.W.keepIn X.K (.ref f) = true) (hb : L2.Binds X.K fd ps []) (hx : ∀ σ, L2.PassesAt (L2.CX X.prog X.w) X σ (E σ)) (hd : (x == ("__debug__" : Str)) = false) : PE X (.Call (.Name x p) [] [] pos) (fun σ H Q => sp [] H Q (E σ)) :=
  ⟨fun pins s σ H Q I h => PySem.wpAny_Call_Name_kw (L2.ld_glob I hg hm (PySem.W.callWith_K0 I.kIn hk (L2.run_fnS (us := []) F hr hb (hx σ) I .nil h)) hd)⟩
theorem plain_args {t : E} {ys : List Expr} {env : Env} (h : cL P N t sc ys = true) (pos : PySem.Pos) : ((PySem.backTo pos (PySem.starEach ys env)).any (·.1)) = false := by
  induction ys generalizing t with
  | nil => rfl
  | cons z zs ih =>
    have hz : notStar z = true ∧ ∃ t, cL P N t sc zs = true := by
      cases t <;> first | (simp only [cL, Bool.and_eq_true] at h; exact ⟨h.1.2, _, h.2⟩) | (simp [cL] at h)
    obtain ⟨t2, ht2⟩ := hz.2
    rw [star_cons hz.1]
    have := ih ht2
    simp only [PySem.backTo, List.map_cons, List.any_cons] at this ⊢
    rw [this]
    rfl
theorem cL_cons {t : E} {y : Expr} {ys : List Expr} (h : cL P N t sc (y :: ys) = true) : notStar y = true ∧ ∃ t, cL P N t sc ys = true := by
  cases t <;> first | (simp only [cL, Bool.and_eq_true] at h; exact ⟨h.1.2, _, h.2⟩) | (simp [cL] at h)
theorem cL_nil {t : E} (h : cL P N t sc [] = true) : t = .nil := by
  cases t <;> first | rfl | (simp [cL] at h)
theorem s_call (G : Good P N Γ RX k X W sc) {f : Nat} {es : E} {x : Str} {xs : List Expr} {p pos : PySem.Pos} (hx : x = P.fname f) (hf : f < P.nf) (hg : glB sc x = true) (hd : notDbg x = true) (hs : cL P N es sc xs = true) (ha : PA X xs (tA X.K RX W (evs Γ es))) :
    PE X (.Call (.Name x p) xs [] pos) (tE X.K RX W (ev Γ (.call f es))) := by
  obtain ⟨fa, fd, pss, hm, hk, hb, F⟩ := G.fns f hf
  subst hx
  cases xs with
  | nil =>
    refine weakE (s_call0 (E := fun σ => L2.WE W σ) F G.room (G.gl _ hg) hm hk hb (fun σ => L2.passAt G.tk σ) (notDbg_of hd).1) fun σ H Q ⟨γ, s, R, p⟩ => ?_
    have := cL_nil hs
    subst this
    simp only [ev, evs, Mp.R.bind] at p
    exact call_reading G.steady R .nil p
  | cons y ys =>
    obtain ⟨hst, t, ht⟩ := cL_cons hs
    refine weakE (L2.pe_callS (E := fun σ => L2.WE W σ) F G.room (G.gl _ hg) hm hk hb (fun σ => L2.passAt G.tk σ) ha (notDbg_of hd).1 (star_cons hst) (plain_args ht _)) fun σ H Q ⟨γ, s, R, p⟩ => ⟨γ, s, R, ?_⟩
    simp only [ev] at p
    exact p.bind fun vs s1 γ1 H1 us st1 R1 r1 p1 => call_reading G.steady R1 r1 p1
theorem s_bf (G : Good P N Γ RX k X W sc) {b : Bf} {es : E} {y : Expr} {ys : List Expr} {p pos : PySem.Pos} (hg : glB sc (bfN b) = true) (hs : cL P N es sc (y :: ys) = true) (ha : PA X (y :: ys) (tA X.K RX W (evs Γ es))) :
    PE X (.Call (.Name (bfN b) p) (y :: ys) [] pos) (tE X.K RX W (ev Γ (.bf b es))) := by
  obtain ⟨hst, t, ht⟩ := cL_cons hs
  have key : PE X (.Call (.Name (bfN b) p) (y :: ys) [] pos) (L2.tCB (rBf X.K RX W b) (tA X.K RX W (evs Γ es))) := by
    have hc := callR_bf (RX := RX) (W := W) G.calm b
    cases b <;> first
      | exact L2.pe_callB hc (G.gl _ hg) (G.blt _) (bf_boot _) ha (bf_name _) (bf_debug _) (star_cons hst) (plain_args ht _)
      | exact L2.pe_callTy hc (G.gl _ hg) (G.blt _) (bf_boot _) ha (bf_name _) (bf_debug _) (star_cons hst) (plain_args ht _)
  refine weakE key fun σ H Q ⟨γ, s, R, p⟩ => ⟨γ, s, R, ?_⟩
  simp only [ev] at p
  exact p.bind fun vs s1 γ1 H1 us st1 R1 r1 p1 => ⟨γ1, s1, σ, vs, R1, r1, p1⟩
theorem s_isi (G : Good P N Γ RX k X W sc) {a : E} {t : Tg} {y : Expr} {p p2 pos : PySem.Pos} (hg : glB sc "isinstance" = true) (ht : tgOk t = true) (hg2 : glB sc (tgS t) = true) (hst : notStar y = true) (ha : PE X y (tE X.K RX W (ev Γ a))) :
    PE X (.Call (.Name "isinstance" p) [y, .Name (tgS t) p2] [] pos) (tE X.K RX W (ev Γ (.isi a t))) := by
  have hz : PE X (.Name (tgS t) p2) (L2.tC (.ty (tgN t))) := L2.pe_bltn (G.gl _ hg2) (G.tgs t ht) (tg_boot t ht) rfl (tg_name t) (tg_debug t)
  refine weakE (L2.pe_callB L2.call_isi (G.gl _ hg) G.isi (by decide +kernel) (L2.pa_cons ha (L2.pa_cons hz L2.pa_nil) (star_cons hst)) (by decide +kernel) (by decide +kernel) (star_cons hst) (by rfl)) fun σ H Q ⟨γ, s, R, p⟩ => ⟨γ, s, R, ?_⟩
  simp only [ev] at p
  refine p.bind fun v s1 γ1 H1 x st1 R1 r1 p1 => ?_
  cases hk : isTag v s1 t with
  | none => rw [hk] at p1; exact False.elim p1
  | some b =>
    rw [hk] at p1
    obtain ⟨n, ty, kb⟩ := isTag_rel R1 ht r1 hk
    exact ⟨x, .ty (tgN t), _, _, b, rfl, .ty _, ty, L2.kit_ty kb, Post.here (a := Val.d (D.bl b)) p1 R1 (.bl _)⟩
theorem len_lt {α : Type} {l : List α} (h : l.length < 29) (h2 : PySem.Pos) : True := trivial
theorem bm_plain {env : Env} {t : E} {y : Expr} {ys : List Expr} (hs : cL P N t sc (y :: ys) = true) (pos : PySem.Pos) (hl : (y :: ys).length < 29) :
    (((((PySem.backTo pos (PySem.starEach (y :: ys) env)).all fun x => !x.1) && (PySem.backToKw pos (PySem.keywordEach [] env)).all fun x => x.1.isSome) && decide (((y :: ys).length + ([] : List PySem.Keyword).length + if ([] : List PySem.Keyword).isEmpty = true then 0 else 1) < 30)) = true) := by
  have h1 := plain_args (env := env) hs pos
  have h2 : ((PySem.backTo pos (PySem.starEach (y :: ys) env)).all fun x => !x.1) = true := by
    rw [List.all_eq_not_any_not]
    simp only [Bool.not_not]
    rw [h1]
    rfl
  rw [h2]
  have h3 : ((PySem.backToKw pos (PySem.keywordEach [] env)).all fun x => x.1.isSome) = true := rfl
  rw [h3]
  simp only [Bool.and_self, Bool.true_and, decide_eq_true_eq, List.length_nil, List.isEmpty_nil, if_true]
  omega
theorem s_bm (G : Good P N Γ RX k X W sc) {m : Bm} {a es : E} {o y : Expr} {ys : List Expr} {ap cp : PySem.Pos} (hm : m = .join ∨ m = .append) (hs : cL P N es sc (y :: ys) = true) (hb : notCall o = true) (hpos : (ap.endLine == cp.line) = true) (hl : (y :: ys).length < 29)
    (ho : PE X o (tE X.K RX W (ev Γ a))) (ha : PA X (y :: ys) (tA X.K RX W (evs Γ es))) : PE X (.Call (.Attribute o (bmN m) ap) (y :: ys) [] cp) (tE X.K RX W (ev Γ (.bm m a es))) := by
  obtain ⟨hst, t, ht⟩ := cL_cons hs
  rcases hm with rfl | rfl
  · refine weakE (L2.pe_bm PySem.F.plainAttrs_str PySem.F.slot_str_join PySem.F.type_str_join (mtR_join (RX := RX) (W := W)) ho ha (base_of hb) (bm_plain hs _ hl) hpos (star_cons hst) (plain_args ht _)) fun σ H Q ⟨γ, s, R, p⟩ => ⟨γ, s, R, ?_⟩
    simp only [ev] at p
    refine p.bind fun v s1 γ1 H1 x st1 R1 r1 p1 => ?_
    obtain ⟨hr, p1⟩ := Post.ifP p1
    refine ⟨?_, γ1, s1, R1, p1.bind fun vs s2 γ2 H2 us st2 R2 r2 p2 => ⟨γ2, s2, σ, v, vs, R2, r1.step st2 R1.tups, r2, p2⟩⟩
    unfold recv at hr
    split at hr
    · cases r1; exact rfl
    · cases hr
    · contradiction
  · refine weakE (L2.pe_bm PySem.F.plainAttrs_list PySem.F.slot_list_append PySem.F.type_list_append (mtR_append (RX := RX) (W := W)) ho ha (base_of hb) (bm_plain hs _ hl) hpos (star_cons hst) (plain_args ht _)) fun σ H Q ⟨γ, s, R, p⟩ => ⟨γ, s, R, ?_⟩
    simp only [ev] at p
    refine p.bind fun v s1 γ1 H1 x st1 R1 r1 p1 => ?_
    obtain ⟨hr, p1⟩ := Post.ifP p1
    refine ⟨?_, γ1, s1, R1, p1.bind fun vs s2 γ2 H2 us st2 R2 r2 p2 => ⟨γ2, s2, σ, v, vs, R2, r1.step st2 R1.tups, r2, p2⟩⟩
    unfold recv at hr
    split at hr
    · contradiction
    · contradiction
    · obtain ⟨xs, hx⟩ := Option.isSome_iff_exists.mp hr
      obtain ⟨b, vs, rfl, hv, _⟩ := lsto_rel R1 r1 hx
      exact .inl ⟨rfl, vs, SqL.of hv⟩
/-- list(x) -/
theorem s_lof (G : Good P N Γ RX k X W sc) {a : E} {y : Expr} {p pos : PySem.Pos} (hg : glB sc "list" = true) (hst : notStar y = true) (ha : PE X y (tE X.K RX W (ev Γ a))) :
    PE X (.Call (.Name "list" p) [y] [] pos) (tF X.K RX W (evF Γ (.lof a))) := by
  refine weakE (L2.pe_callTy L2.call_list_of (G.gl _ hg) G.lst (by decide +kernel) (L2.pa_cons ha L2.pa_nil (star_cons hst)) (by decide +kernel) (by decide +kernel) (star_cons hst) (by rfl)) fun σ H Q ⟨γ, s, R, p⟩ => ⟨γ, s, R, ?_⟩
  simp only [evF] at p
  cases he : ev Γ a s with
  | bad => simp only [he, Mp.R.bind] at p
  | ex _ _ => simp only [he, Mp.R.bind] at p; exact p
  | ok v s1 =>
    simp only [he, Mp.R.bind] at p
    intro γ1 H1 x st1 R1 r1
    cases hq : seqv v s1 with
    | none => simp only [hq] at p
    | some q =>
      obtain ⟨b, xs⟩ := q
      simp only [hq] at p
      obtain ⟨a', vs, rfl, rr, t⟩ := seq_rel R1 r1 hq
      refine ⟨a', vs, rfl, ?_, fun l hl => p γ1 _ l vs (none_back (st1.trk l) hl) (st1.trans (Stp.new γ1 hl)) (R1.mk1 hl) (RelDs.mk1 hl R1.tups _ _ rr) upd_same⟩
      split at t
      · exact .inl t
      · exact .inr t
/-- two lists joined, a new list -/
theorem s_cat {a b : E} {l r : Expr} {pos : PySem.Pos} (ha : PE X l (tE X.K RX W (ev Γ a))) (hb : PE X r (tE X.K RX W (ev Γ b))) : PE X (.BinOp l .Add r pos) (tF X.K RX W (evF Γ (.cat a b))) := by
  refine weakE (L2.pe_op L2.op_cat ha hb) fun σ H Q ⟨γ, s, R, p⟩ => ⟨γ, s, R, ?_⟩
  simp only [evF] at p
  cases he : ev Γ a s with
  | bad => simp only [he, Mp.R.bind] at p
  | ex _ _ => simp only [he, Mp.R.bind] at p; exact p
  | ok v s1 =>
    simp only [he, Mp.R.bind] at p
    intro γ1 H1 x st1 R1 r1
    refine ⟨γ1, s1, R1, ?_⟩
    cases he2 : ev Γ b s1 with
    | bad => simp only [he2] at p
    | ex _ _ => simp only [he2] at p; exact fun γ2 H2 c d st2 => p γ2 H2 c d (st1.trans st2)
    | ok w s2 =>
      simp only [he2] at p
      intro γ2 H2 y st2 R2 r2
      cases h1 : lsto v s2 with
      | none => simp only [h1] at p
      | some xs =>
        cases h2 : lsto w s2 with
        | none => simp only [h1, h2] at p
        | some ys =>
          simp only [h1, h2] at p
          by_cases hl : xs.length + ys.length ≤ LINE
          · rw [if_pos hl] at p
            obtain ⟨a1, vs, rfl, e1, q1⟩ := lsto_rel R2 (r1.step st2 R1.tups) h1
            obtain ⟨a2, us, rfl, e2, q2⟩ := lsto_rel R2 r2 h2
            have st := st1.trans st2
            exact ⟨a1, a2, vs, us, rfl, rfl, e1, e2, line_le (by rw [← relDs_len q1, ← relDs_len q2]; exact hl), fun l hl => p γ2 _ l _ (none_back (st.trk l) hl) (st.trans (Stp.new γ2 hl)) (R2.mk1 hl) (RelDs.mk1 hl R2.tups _ _ (relDs_app q1 q2)) upd_same⟩
          · rw [if_neg hl] at p; exact False.elim p

/-! ### what is walked -/
theorem sts_seq {K : PySem.W.Frag} {γ γ' : Gh} {H H' : Hp} {a : Addr} {vs : List V} (hs : (H a = some (.lst vs) ∧ ¬ γ.Bad a) ∨ (Rd H a (.lst vs) ∧ ¬ γ.Bad a) ∨ KLst K a vs) (st : Sts γ H γ' H') : SqL K H' a vs := by
  rcases hs with ⟨h, nb⟩ | ⟨h, nb⟩ | h
  · exact SqL.of (st.frame a _ h (fun z => nb (.inr (.inl z))) fun z => nb (.inr (.inr z)))
  · exact .inl (st.rd h nb)
  · exact h H'
theorem s_it {e : E} {tg x : Expr} (h : PE X x (tE X.K RX W (ev Γ e))) : PI X tg x (tI X.K RX W (evI Γ (.it e))) := by
  refine ⟨fun ps st σ H Q I q => ?_⟩
  obtain ⟨γ, s, R, p⟩ := q
  simp only [evI] at p
  cases he : ev Γ e s with
  | bad => simp only [he, Mp.R.bind] at p
  | ex e1 s1 =>
    simp only [he, Mp.R.bind] at p
    exact (L2.pi_list h).run ps st σ H Q I ⟨γ, s, R, by rw [he]; exact p⟩
  | ok v s1 =>
    simp only [he, Mp.R.bind] at p
    have ls : ∀ {xs : List D}, (∀ {γ' H' x}, Rel X.K γ' s1 σ H' → RelVal X.K γ' H' v x → ∃ a vs, x = V.ref a ∧ RelDs X.K γ' H' xs vs ∧ ((H' a = some (.lst vs) ∧ ¬ γ'.Bad a) ∨ (Rd H' a (.lst vs) ∧ ¬ γ'.Bad a) ∨ KLst X.K a vs)) →
        (∀ (γ' : Gh) (H' : Hp) (J : It), Stp γ H γ' H' → Rel X.K γ' s1 σ H' → Wk X.K γ' H' J xs → Q J H') → _ := fun {xs} hv p => (L2.pi_list (tg := tg) h).run ps st σ H Q I ⟨γ, s, R, by
      rw [he]
      intro γ1 H1 x st1 R1 r1
      obtain ⟨a, vs, rfl, rr, hq⟩ := hv R1 r1
      exact ⟨a, rfl, ⟨vs, sts_seq hq (Sts.refl γ1 H1)⟩, p γ1 H1 _ st1 R1 (wk_list R1.tups (fun γ' H' st => sts_seq hq st) rr)⟩⟩
    cases v with
    | own _ => exact False.elim p
    | d y =>
      cases y with
      | lst xs => exact ls (fun _ r1 => by cases r1 with | lst h nb rr => exact ⟨_, _, rfl, rr, .inl ⟨h, nb⟩⟩) p
      | tup xs =>
        refine (L2.pi_tup h).run ps st σ H Q I ⟨γ, s, R, ?_⟩
        rw [he]
        intro γ1 H1 x st1 R1 r1
        cases r1 with
        | tup h1 rr => exact ⟨_, rfl, ⟨_, h1⟩, p γ1 H1 _ st1 R1 (wk_tup R1.tups h1 rr)⟩
      | scr xs => exact ls (fun _ r1 => by
          cases r1 with
          | scr h nb rr => exact ⟨_, _, rfl, rr, .inr (.inl ⟨h, nb⟩)⟩
          | scrK h rr => exact ⟨_, _, rfl, rr, .inr (.inr h)⟩) p
      | str z =>
        by_cases hz : z.length ≤ LINE
        · simp only [hz, if_true] at p
          refine (L2.pi_str h).run ps st σ H Q I ⟨γ, s, R, ?_⟩
          rw [he]
          intro γ1 H1 x st1 R1 r1
          cases r1
          refine ⟨z, rfl, p γ1 H1 _ st1 R1 (wk_of L2.walk_str (by simp) fun i H x H' d y e => ?_)⟩
          obtain ⟨rfl, c, hc, rfl⟩ := y
          refine ⟨rfl, fun γ => ?_⟩
          rw [List.getElem?_map] at e
          have : z.cps.toList[i]? = some c := by rw [Array.getElem?_toList]; exact hc
          rw [this] at e
          cases e
          exact .str _
        · simp only [hz, if_false] at p
      | _ => exact False.elim p
theorem rngL_get {lo hi : Int} {i : Nat} {d : D} (h : (rngL lo hi)[i]? = some d) : d = .int (lo + i) := by
  unfold rngL at h
  rw [List.getElem?_map] at h
  obtain ⟨j, hj, rfl⟩ := Option.map_eq_some_iff.mp h
  obtain ⟨hl, e⟩ := List.getElem?_eq_some_iff.mp hj
  rw [List.getElem_range] at e
  rw [e]
theorem rngL_len (lo hi : Int) : (rngL lo hi).length = (hi - lo).toNat := by unfold rngL; simp
theorem wk_rng {K : PySem.W.Frag} {γ : Gh} {H : Hp} (lo hi : Int) {n : Nat} (hn : n = (hi - lo).toNat) : Wk K γ H (L2.Itr lo n) (rngL lo hi) :=
  wk_of L2.walk_range (by rw [rngL_len, hn]) fun i H x H' d y e => by
    obtain ⟨rfl, rfl⟩ := y
    rw [rngL_get e]
    exact ⟨rfl, fun γ => .int _⟩
theorem evs_one {es : E} {a : Expr} {s s1 : S} {vs : List Val} (hs : cL P N es sc [a] = true) (h : evs Γ es s = .ok vs s1) : ∃ v, vs = [v] := by
  cases es with
  | cons hh tt =>
    simp only [cL, Bool.and_eq_true] at hs
    rw [cL_nil hs.2] at h
    simp only [evs] at h
    cases h2 : ev Γ hh s with
    | bad => rw [h2] at h; simp at h
    | ex _ _ => rw [h2] at h; simp at h
    | ok v s2 => rw [h2] at h; simp only [Mp.R.bind] at h; cases h; exact ⟨v, rfl⟩
  | _ => simp [cL] at hs
theorem evs_two {es : E} {a b : Expr} {s s1 : S} {vs : List Val} (hs : cL P N es sc [a, b] = true) (h : evs Γ es s = .ok vs s1) : ∃ v w, vs = [v, w] := by
  cases es with
  | cons hh tt =>
    simp only [cL, Bool.and_eq_true] at hs
    simp only [evs] at h
    cases h2 : ev Γ hh s with
    | bad => rw [h2] at h; simp at h
    | ex _ _ => rw [h2] at h; simp at h
    | ok v s2 =>
      rw [h2] at h
      simp only [Mp.R.bind] at h
      cases h3 : evs Γ tt s2 with
      | bad => rw [h3] at h; simp at h
      | ex _ _ => rw [h3] at h; simp at h
      | ok ws s3 =>
        obtain ⟨w, rfl⟩ := evs_one hs.2 h3
        rw [h3] at h; simp only [] at h; cases h; exact ⟨v, w, rfl⟩
  | _ => simp [cL] at hs
theorem line_int : ((LINE : Nat) : Int) = 1000000 := rfl
theorem s_rng (G : Good P N Γ RX k X W sc) {es : E} {tg : Expr} {args : List Expr} {p pos : PySem.Pos} (hg : glB sc "range" = true) (hs : cL P N es sc args = true) (hl : (∃ a, args = [a]) ∨ ∃ a b, args = [a, b]) (ha : PA X args (tA X.K RX W (evs Γ es))) :
    PI X tg (.Call (.Name "range" p) args [] pos) (tI X.K RX W (evI Γ (.rng es))) := by
  rcases hl with ⟨a, rfl⟩ | ⟨a, b, rfl⟩
  · obtain ⟨h1, t, ht⟩ := cL_cons hs
    refine weakI (L2.pi_range1 (G.gl _ hg) G.rng ha (star_cons h1)) fun σ H Q ⟨γ, s, R, p⟩ => ⟨γ, s, R, ?_⟩
    simp only [evI] at p
    cases he : evs Γ es s with
    | bad => simp only [he, Mp.R.bind] at p
    | ex _ _ => simp only [he, Mp.R.bind] at p; exact p
    | ok vs s1 =>
      simp only [he, Mp.R.bind] at p
      intro γ1 H1 us st1 R1 r1
      obtain ⟨v, rfl⟩ := evs_one hs he
      obtain ⟨x, rfl, rx⟩ := relVals_one r1
      cases v with
      | own _ => simp only [rngV] at p
      | d y =>
        cases y with
        | int n =>
          simp only [rngV] at p
          by_cases hc : (decide (-(LINE : Int) ≤ n) && decide (n ≤ (LINE : Int))) = true
          · rw [if_pos hc] at p
            simp only [Bool.and_eq_true, decide_eq_true_eq] at hc
            rw [line_int] at hc
            cases rx
            exact ⟨n, rfl, by omega, by omega, p γ1 H1 _ st1 R1 (wk_rng 0 n (by omega))⟩
          · rw [if_neg hc] at p; exact False.elim p
        | _ => simp only [rngV] at p
  · obtain ⟨h1, t, ht⟩ := cL_cons hs
    obtain ⟨h2, t2, ht2⟩ := cL_cons ht
    refine weakI (L2.pi_range2 (G.gl _ hg) G.rng ha (by rw [star_cons h1, star_cons h2]; rfl) (star_cons h2)) fun σ H Q ⟨γ, s, R, p⟩ => ⟨γ, s, R, ?_⟩
    simp only [evI] at p
    cases he : evs Γ es s with
    | bad => simp only [he, Mp.R.bind] at p
    | ex _ _ => simp only [he, Mp.R.bind] at p; exact p
    | ok vs s1 =>
      simp only [he, Mp.R.bind] at p
      intro γ1 H1 us st1 R1 r1
      obtain ⟨v, w, rfl⟩ := evs_two hs he
      obtain ⟨x, y, rfl, rx, ry⟩ := relVals_two r1
      have key : ∀ i j, v = .d (.int i) → w = .d (.int j) → ∃ i' j', [x, y] = [V.int i', V.int j'] ∧ (-2 ^ 62 ≤ i' ∧ i' < 2 ^ 62 ∧ -2 ^ 62 ≤ j' ∧ j' < 2 ^ 62) ∧ Q (L2.Itr i' (j' - i').toNat) H1 := fun i j e1 e2 => by
        subst e1 e2
        simp only [rngV] at p
        by_cases hc : (decide (-(LINE : Int) ≤ i) && decide (i ≤ (LINE : Int)) && decide (-(LINE : Int) ≤ j) && decide (j ≤ (LINE : Int))) = true
        · rw [if_pos hc] at p
          simp only [Bool.and_eq_true, decide_eq_true_eq] at hc
          rw [line_int] at hc
          cases rx; cases ry
          exact ⟨i, j, rfl, by omega, p γ1 H1 _ st1 R1 (wk_rng i j rfl)⟩
        · rw [if_neg hc] at p; exact False.elim p
      cases v with
      | own _ => simp only [rngV] at p
      | d v =>
        cases w with
        | own _ => cases v <;> simp only [rngV] at p
        | d w =>
          cases v with
          | int i =>
            cases w with
            | int j => exact key i j rfl rfl
            | _ => simp only [rngV] at p
          | _ => cases w <;> simp only [rngV] at p

/-! ### comprehensions -/
theorem relab {env : Env} : ∀ {names : List (Str × NameKind)} {x : Str} {kd : NameKind}, names.lookup x = some kd →
    (names.map fun (n, k) => if (k == NameKind.free && env.scope.kind == .function && env.kindOf n == some .cell) then (n, NameKind.cell) else (n, k)).lookup x = some kd ∨
    (kd = .free ∧ (names.map fun (n, k) => if (k == NameKind.free && env.scope.kind == .function && env.kindOf n == some .cell) then (n, NameKind.cell) else (n, k)).lookup x = some .cell)
  | [], _, _, h => by simp at h
  | (n, k) :: r, x, kd, h => by
    have ih := @relab env r x kd
    simp only [List.map_cons]
    cases hx : x == n with
    | true =>
      simp only [List.lookup_cons, hx] at h
      cases h
      by_cases hc : (k == NameKind.free && env.scope.kind == .function && env.kindOf n == some .cell) = true
      · rw [if_pos hc]
        simp only [List.lookup_cons, hx]
        simp only [Bool.and_eq_true, beq_iff_eq] at hc
        exact .inr ⟨hc.1.1, trivial⟩
      · rw [if_neg hc]
        simp only [List.lookup_cons, hx]
        exact .inl trivial
    | false =>
      simp only [List.lookup_cons, hx] at h
      by_cases hc : (k == NameKind.free && env.scope.kind == .function && env.kindOf n == some .cell) = true
      · rw [if_pos hc]; simp only [List.lookup_cons, hx]; exact ih h
      · rw [if_neg hc]; simp only [List.lookup_cons, hx]; exact ih h
theorem Good.blk (G : Good P N Γ RX k X W sc) {scope : Scope} (hk : scope.kind = .function) (s : PySem.Shared) (H : Hp) (C : Addr) (cl : List (Str × Addr)) (fp : List Addr) :
    Good P N Γ RX k (X.blk s H scope (PySem.compEnvC scope cl C X.env) fp) W0 scope where
  hN := G.hN
  nd := G.nd
  calm := G.calm
  room := G.room
  tk := L2.takes0
  pass := PySem.PassesOwn.never
  kind := hk
  vis := fun x h => by
    unfold visB at h
    split at h
    · rename_i e
      rcases relab (env := X.env) e with q | ⟨q, _⟩
      · exact .inl q
      · cases q
    · rename_i e
      rcases relab (env := X.env) e with q | ⟨q, _⟩
      · exact .inr (.inl q)
      · cases q
    · rename_i e
      rcases relab (env := X.env) e with q | ⟨_, q⟩
      · exact .inr (.inr q)
      · exact .inr (.inl q)
    · cases h
  gl := fun x h => by
    unfold glB at h
    split at h
    · rename_i e
      rcases relab (env := X.env) e with q | ⟨q, _⟩
      · exact q
      · cases q
    · cases h
  loc := fun x h => by
    unfold locB at h
    split at h
    · rename_i e
      rcases relab (env := X.env) e with q | ⟨q, _⟩
      · exact q
      · cases q
    · cases h
  cf := fun x h => by
    rcases h with h | h
    · rcases relab (env := X.env) h with q | ⟨q, _⟩
      · exact .inl q
      · cases q
    · rcases relab (env := X.env) h with q | ⟨_, q⟩
      · exact .inr q
      · exact .inl q
  blt := G.blt
  tgs := G.tgs
  isi := G.isi
  lst := G.lst
  rng := G.rng
  gcs := G.gcs
  fns := G.fns
  steady := G.steady
theorem blk_ok (G : Good P N Γ RX k X W sc) {scope : Scope} {own : List (Str × Nat)} (h : L2.blkC N sc scope own = true) : L2.BlkOk X.N X.env.scope scope own := by
  have b := L2.blkOk_by h
  rw [G.hN]
  exact ⟨b.kind, b.uniq, b.ix, fun y hy e => G.cf y.1 (b.free y hy e), b.own⟩
theorem ownP_snd (own : List Nat) : (ownP N own).map (·.2) = own := by
  unfold ownP
  rw [List.map_map]
  exact List.map_id _
theorem s_tg (G : Good P N Γ RX k X W sc) {tg : List Nat} {e : Expr} (h : tgB N sc tg e = true) : PG X e (gT X.K tg) := by
  unfold tgB at h
  split at h
  · simp only [Bool.and_eq_true, decide_eq_true_eq] at h
    have hl := G.loc _ h.2
    exact weakG (L2.pg_name (by rw [G.hN]; exact G.nd) (by rw [G.hN]; exact h.1) (.inl hl) (.inr hl)) gT_one
  · cases h
theorem s_lc (G : Good P N Γ RX k X W sc) {own tg : List Nat} {it cnd elt : E} {el tx iter : Expr} {ifs : List Expr} {scope : Scope} {pos : PySem.Pos}
    (hb : L2.blkC N sc scope (ownP N own) = true) (ho : ∀ i ∈ tg, i ∈ own) (ht : tgB N scope tg tx = true) (hset : notSet iter = true)
    (hi : ∀ {X W sc}, Good P N Γ RX k X W sc → ∀ tg x, cI P N it sc x = true → PI X tg x (tI X.K RX W (evI Γ it))) (hi2 : cI P N it sc iter = true)
    (hc : ∀ {X W sc}, Good P N Γ RX k X W sc → ∀ x, cIfs P N cnd sc x = true → L2.PTs X x (tT X.K RX W (evT Γ cnd))) (hc2 : cIfs P N cnd scope ifs = true)
    (he : ∀ {X W sc}, Good P N Γ RX k X W sc → ∀ x, cE P N elt sc x = true → PE X x (tE X.K RX W (ev Γ elt))) (he2 : cE P N elt scope el = true) :
    PE X (.ListComp el [⟨tx, iter, ifs, 0⟩] scope pos) (tF X.K RX W (evF Γ (.lc own tg it cnd elt))) := by
  have ok := blk_ok G hb
  have g := fun s H C cl fp => G.blk ok.kind s H C cl fp
  refine weakE (L2.pe_lc G.calm (by rw [G.hN]; exact G.nd) (hi G tx iter hi2) ok (g := gT X.K tg) (tt := tT X.K RX W0 (evT Γ cnd)) (te := tE X.K RX W0 (ev Γ elt)) (fun s H C cl fp => s_tg (g s H C cl fp) ht) (fun s H C cl fp => hc (g s H C cl fp) _ hc2) (fun s H C cl fp => he (g s H C cl fp) _ he2) (fun x => set_of hset x)) fun σ H Q q => ?_
  rw [ownP_snd]
  refine lc_sound (own := own) (tg := tg) (it := evI Γ it) (cnd := evT Γ cnd) (elt := ev Γ elt) ho σ H Q ?_
  obtain ⟨γ, s, R, p⟩ := q
  refine ⟨γ, s, R, ?_⟩
  simp only [evF] at p
  exact p

/-! ### dict displays -/
def flat2 : List (V × V) → List V
  | [] => []
  | (a, b) :: r => a :: b :: flat2 r
theorem pairs_read {c : E} : ∀ {ks : List (Option Expr)} {vs : List Expr} {γ : Gh} {H : Hp} {s : S} {σ : L2.St} {Q : List (V × V) → Hp → Prop}, cD P N c sc ks vs = true → Rel X.K γ s σ H →
    Post X.K RX W γ H σ (fun γ H us ps => RelVals X.K γ H us (flat2 ps)) (evs Γ c s) Q → L2.tPairs (trsOf X.K RX W Γ c) σ H Q := by
  intro ks
  induction ks generalizing c with
  | nil =>
    intro vs γ H s σ Q h R p
    cases c with
    | nil =>
      simp only [evs] at p
      exact p.here R (b := []) .nil
    | _ => cases vs <;> cases h
  | cons kx ks ih =>
    intro vs γ H s σ Q h R p
    cases c with
    | cons k t =>
      cases kx with
      | none => cases h
      | some kx =>
        simp only [cD, Bool.and_eq_true] at h
        obtain ⟨_, h⟩ := h
        cases t with
        | cons v t =>
          cases vs with
          | nil => cases h
          | cons y vs =>
            simp only [cDv, Bool.and_eq_true] at h
            obtain ⟨_, h⟩ := h
            simp only [evs] at p
            refine ⟨γ, s, R, p.bind fun x s1 γ1 H1 a st1 R1 r1 p1 => ⟨γ1, s1, R1, ?_⟩⟩
            cases e : ev Γ v s1 with
            | bad => simp only [e, Mp.R.bind] at p1; exact p1
            | ex _ _ => simp only [e, Mp.R.bind] at p1; exact p1
            | ok w s2 =>
              simp only [e, Mp.R.bind] at p1
              intro γ2 H2 b st2 R2 r2
              refine ih h R2 ?_
              cases e2 : evs Γ t s2 with
              | bad => simp only [e2] at p1; exact p1
              | ex _ _ => simp only [e2] at p1; exact fun γ3 H3 c d st3 => p1 γ3 H3 c d (st2.trans st3)
              | ok us s3 =>
                simp only [e2] at p1
                exact fun γ3 H3 zs st3 R3 r3 => p1 γ3 H3 ((a, b) :: zs) (st2.trans st3) R3 (.cons ((r1.step st2 R1.tups).step st3 R2.tups) (.cons (r2.step st3 R2.tups) r3))
        | _ => cases vs <;> cases h
    | _ => cases vs <;> cases h
theorem putK_new {k : L2.Key} {v : V} {l : List (L2.Key × V)} (h : k ∉ l.map Prod.fst) : L2.putK l k v = l ++ [(k, v)] := by
  unfold L2.putK
  rw [if_neg]
  intro z
  obtain ⟨q, hq, e⟩ := List.any_eq_true.mp z
  exact h (List.mem_map.mpr ⟨q, hq, of_decide_eq_true e⟩)
theorem merge_new : ∀ {more acc : List (L2.Key × V)}, ((acc ++ more).map Prod.fst).Nodup → L2.mergeK acc more = acc ++ more := by
  intro more
  induction more with
  | nil => intro acc _; unfold L2.mergeK; simp
  | cons p more ih =>
    intro acc h
    unfold L2.mergeK
    rw [List.foldl_cons]
    have hp : p.1 ∉ acc.map Prod.fst := by
      intro z
      rw [List.map_append, List.nodup_append] at h
      exact h.2.2 _ z _ (by simp) rfl
    rw [putK_new hp]
    have := ih (acc := acc ++ [(p.1, p.2)]) (by simpa using h)
    unfold L2.mergeK at this
    rw [this]
    simp
theorem pairsK_rel {K : PySem.W.Frag} {γ : Gh} {H : Hp} : ∀ (ds : List D) (kvs : List (L2.Key × D)) (ps : List (V × V)), pairsK ds = some kvs → RelDs K γ H ds (flat2 ps) →
    ∃ ms : List (L2.Key × V), ps = ms.map (fun kv => (L2.kV kv.1, kv.2)) ∧ ms.map Prod.fst = kvs.map Prod.fst ∧ RelDs K γ H (kvs.map Prod.snd) (ms.map Prod.snd)
  | [], _, [], e, _ => by cases e; exact ⟨[], rfl, rfl, .nil⟩
  | [], _, _ :: _, _, r => by cases r
  | _ :: _, _, [], _, r => by cases r
  | [_], _, (a, b) :: ps, e, r => by
    cases r with
    | cons _ t => cases t
  | k :: v :: ds, _, (a, b) :: ps, e, .cons rk (.cons rv r) => by
    cases k with
    | int i =>
      simp only [pairsK, Option.map_eq_some_iff] at e
      obtain ⟨l, e1, rfl⟩ := e
      obtain ⟨ms, rfl, h2, h3⟩ := pairsK_rel ds l ps e1 r
      cases rk
      exact ⟨(.inl i, b) :: ms, rfl, by simp only [List.map_cons, h2], .cons rv h3⟩
    | str i =>
      simp only [pairsK, Option.map_eq_some_iff] at e
      obtain ⟨l, e1, rfl⟩ := e
      obtain ⟨ms, rfl, h2, h3⟩ := pairsK_rel ds l ps e1 r
      cases rk
      exact ⟨(.inr i, b) :: ms, rfl, by simp only [List.map_cons, h2], .cons rv h3⟩
    | _ => simp [pairsK] at e
theorem s_dct {c : E} {ks : List (Option Expr)} {vs : List Expr} {pos : PySem.Pos} (hc : cD P N c sc ks vs = true) (hl : ks.length = vs.length) (h15 : ks.length ≤ 15) (hall : ks.all (·.isSome) = true) (hp : L2.PPs X pos ks vs (trsOf X.K RX W Γ c)) :
    PE X (.Dict ks vs pos) (tE X.K RX W (ev Γ (.dct c))) := by
  -- what is known behind the items
  have fin : ∀ {γ γ1 : Gh} {s1 : S} {σ : L2.St} {H H1 : Hp} {Q : VK} {a : Addr} {s : S} {ws : List Val} {ps : List (V × V)}, Rel X.K γ s σ H → H a = none → Stp (γ.mk1 a) (upd H a (.dK [])) γ1 H1 → Rel X.K γ1 s1 σ H1 → RelVals X.K γ1 H1 ws (flat2 ps) →
      Post X.K RX W γ H σ (RelVal X.K) (match toDs ws with
        | some ds => match pairsK ds with
          | some kvs => if (decide (kvs.length ≤ 15) && nodupK (kvs.map Prod.fst)) = true then .ok (.d (.dct (kvs.map fun p => keyD p.1) (kvs.map Prod.snd))) s1 else .bad
          | none => .bad
        | none => .bad) Q → H1 a = some (.dK []) ∧ ∃ ms : List (L2.Key × V), ps = ms.map (fun kv => (L2.kV kv.1, kv.2)) ∧ ms.length ≤ 15 ∧ (ms.map Prod.fst).Nodup ∧ Q (.ref a) (upd H1 a (.dK ms)) := by
    intro γ γ1 s1 σ H H1 Q a s ws ps R ha st1 R1 r1 p
    have tma := (R.mk1 (o := .dK []) ha).tm a List.mem_cons_self
    have hv : H1 a = some (.dK []) := st1.frame a _ upd_same (fun z => tma.2.1 z) (fun z => tma.2.2 z)
    cases e1 : toDs ws with
    | none => simp only [e1] at p; exact False.elim p
    | some ds =>
      simp only [e1] at p
      cases e2 : pairsK ds with
      | none => simp only [e2] at p; exact False.elim p
      | some kvs =>
        simp only [e2] at p
        obtain ⟨hb, p⟩ := Post.if p
        simp only [Bool.and_eq_true, decide_eq_true_eq] at hb
        obtain ⟨ms, rfl, m2, m3⟩ := pairsK_rel ds kvs ps e2 (toDs_rel r1 e1)
        have ml : ms.length = kvs.length := by simpa using congrArg List.length m2
        have hn : (ms.map Prod.fst).Nodup := by
          rw [m2]
          have := hb.2
          unfold nodupK at this
          exact of_decide_eq_true this
        refine ⟨hv, ms, rfl, by omega, hn, ?_⟩
        have htm : γ1.tm = a :: γ.tm := st1.tmE
        have e5 : (γ1.wtm γ.tm).mk1 a = γ1 := unmk_eq htm
        have nt : ∀ zs, H1 a ≠ some (.tup zs) := fun zs => by rw [hv]; simp
        have nf : ∀ u zs, H1 a ≠ some (.frz u (.tup zs)) := fun u zs => by rw [hv]; simp
        have n0 := R.nil_of ha
        have h05 : (γ1.wtm γ.tm).H0 a = none := by
          show γ1.H0 a = none
          rw [st1.h0]; exact n0.1
        have R2 : Rel X.K ((γ1.wtm γ.tm).mk1 a) s1 σ (upd H1 a (.dK ms)) := by
          rw [← e5] at R1
          exact R1.setTm h05 nt nf
        have m4 : RelDs X.K ((γ1.wtm γ.tm).mk1 a) (upd H1 a (.dK ms)) (kvs.map Prod.snd) (ms.map Prod.snd) := by
          rw [← e5] at m3
          exact RelDs.setTm nt nf _ _ m3
        have st : Stp γ H (γ1.wtm γ.tm) (upd H1 a (.dK ms)) :=
          Stp.setTm (Stp.trans (Stp.new γ ha) (st1.tmf γ.tm)) ha
        refine p (γ1.wtm γ.tm) _ (.ref a) st R2.rest (.dct upd_same (mk1_bad R2 h05 n0.2) ?_ (RelDs.les (les_mk1 _ a) _ _ m4))
        have : kvs.map (fun p => keyD p.1) = (kvs.map Prod.fst).map keyD := by rw [List.map_map]; rfl
        rw [this, ← m2, List.map_map]
        rfl
  cases ks with
  | nil =>
    cases vs with
    | cons _ _ => cases hl
    | nil =>
      have hc' : c = .nil := by cases c <;> first | rfl | cases hc
      subst hc'
      refine weakE L2.pe_dnewK fun σ H Q ⟨γ, s, R, p⟩ a ha => ?_
      simp only [ev, evs, Mp.R.bindN] at p
      obtain ⟨_, ms, e1, _, _, q⟩ := fin (ps := []) R ha (Stp.refl _ _) (R.mk1 ha) .nil p
      have : ms = [] := by simpa using e1.symm
      subst this
      have e : upd (upd H a (.dK [])) a (.dK []) = upd H a (.dK []) := L2.upd_upd
      rw [e] at q
      exact q
  | cons k ks =>
    refine weakE (L2.pe_disp hp hall hl (by simp) h15) fun σ H Q ⟨γ, s, R, p⟩ a ha => ?_
    simp only [ev] at p
    refine pairs_read hc (R.mk1 (o := .dK []) ha) ?_
    cases e : evs Γ c s with
    | bad => simp only [e, Mp.R.bindN] at p; exact p
    | ex _ _ => simp only [e, Mp.R.bindN] at p; exact False.elim p
    | ok ws s1 =>
      simp only [e, Mp.R.bindN] at p
      intro γ1 H1 ps st1 R1 r1
      obtain ⟨h1, ms, e1, h2, h3, q⟩ := fin R ha st1 R1 r1 p
      refine ⟨h1, ms, e1, h2, ?_⟩
      rw [merge_new (by simpa using h3), List.nil_append]
      exact q
end
end Mp

/-! Mp: every checked code of an expression is sound. -/
namespace Mp
open PySem (Addr Value Expr Str Scope)
open L2 (PE PT PW PA PI PG Cx TE TT TA TI TG WX)
theorem weakPTs {X : Cx} {e : List Expr} {t t' : TT} (h : L2.PTs X e t) (w : ∀ σ H Q, t' σ H Q → t σ H Q) : L2.PTs X e t' := ⟨fun ps s σ H Q I q => h.run ps s σ H Q I (w σ H Q q)⟩
theorem bmOk_of {m : Bm} (h : bmOk m = true) : m = .join ∨ m = .append := by cases m <;> first | exact .inl rfl | exact .inr rfl | cases h
theorem snd (P : Prg) (N : List Str) (Γ : Callee) (RX : ExRel) (k : Nat) (c : E) : Snd P N Γ RX k c := by
  induction c with
  | cst d  =>
    exact {
    e := fun G x h => by
      cases x with
      | Constant c n pos =>
        simp only [cE] at h
        exact s_cst h
      | _ => cases h
    an := fun _ _ _ h => nomatch h
    or := fun _ _ _ h => nomatch h
    ant := fun _ _ _ h => nomatch h
    ort := fun _ _ _ h => nomatch h
    l := fun _ _ h => nomatch h
    t := fun G x h => by
      cases x with
      | Constant c n pos => exact s_truth rfl (fun s => by simp only [evT]) (s_cst (by simpa only [cT] using h))
      | _ => cases h
    i := fun _ _ h => nomatch h
    f := fun _ _ h => nomatch h
    d := fun _ _ ks vs h => by cases ks <;> cases vs <;> cases h
    dv := fun _ _ ks vs _ _ _ h => by cases ks <;> cases vs <;> cases h
    w := fun _ _ _ h => nomatch h }
  | var i  =>
    exact {
    e := fun G x h => by
      cases x with
      | Name x pos =>
        simp only [cE, Bool.and_eq_true, decide_eq_true_eq] at h
        exact s_var G h.1.1 h.1.2 h.2
      | _ => cases h
    an := fun _ _ _ h => nomatch h
    or := fun _ _ _ h => nomatch h
    ant := fun _ _ _ h => nomatch h
    ort := fun _ _ _ h => nomatch h
    l := fun _ _ h => nomatch h
    t := fun G x h => by
      cases x with
      | Name x pos =>
        simp only [cT, Bool.and_eq_true, decide_eq_true_eq] at h
        exact s_truth rfl (fun s => by simp only [evT]) (s_var G h.1.1 h.1.2 h.2)
      | _ => cases h
    i := fun _ _ h => nomatch h
    f := fun _ _ h => nomatch h
    d := fun _ _ ks vs h => by cases ks <;> cases vs <;> cases h
    dv := fun _ _ ks vs _ _ _ h => by cases ks <;> cases vs <;> cases h
    w := fun _ _ _ h => nomatch h }
  | gc d  =>
    exact {
    e := fun G x h => by
      cases x with
      | Name x pos =>
        simp only [cE, Bool.and_eq_true] at h
        exact s_gc G h.1.1 h.1.2 h.2
      | _ => cases h
    an := fun _ _ _ h => nomatch h
    or := fun _ _ _ h => nomatch h
    ant := fun _ _ _ h => nomatch h
    ort := fun _ _ _ h => nomatch h
    l := fun _ _ h => nomatch h
    t := fun _ _ h => nomatch h
    i := fun _ _ h => nomatch h
    f := fun _ _ h => nomatch h
    d := fun _ _ ks vs h => by cases ks <;> cases vs <;> cases h
    dv := fun _ _ ks vs _ _ _ h => by cases ks <;> cases vs <;> cases h
    w := fun _ _ _ h => nomatch h }
  | tup es ihes =>
    exact {
    e := fun G x h => by
      cases x with
      | Tuple xs n pos =>
        simp only [cE] at h
        exact s_tup (ihes.l G xs h)
      | _ => cases h
    an := fun _ _ _ h => nomatch h
    or := fun _ _ _ h => nomatch h
    ant := fun _ _ _ h => nomatch h
    ort := fun _ _ _ h => nomatch h
    l := fun _ _ h => nomatch h
    t := fun _ _ h => nomatch h
    i := fun _ _ h => nomatch h
    f := fun _ _ h => nomatch h
    d := fun _ _ ks vs h => by cases ks <;> cases vs <;> cases h
    dv := fun _ _ ks vs _ _ _ h => by cases ks <;> cases vs <;> cases h
    w := fun _ _ _ h => nomatch h }
  | fz f ihf =>
    exact {
    e := fun G x h => by
      simp only [cE] at h
      exact s_fz (ihf.f G x h)
    an := fun _ _ _ h => nomatch h
    or := fun _ _ _ h => nomatch h
    ant := fun _ _ _ h => nomatch h
    ort := fun _ _ _ h => nomatch h
    l := fun _ _ h => nomatch h
    t := fun G x h => by
      simp only [cT, Bool.and_eq_true] at h
      exact s_truth h.2 (fun s => by simp only [evT]) (s_fz (ihf.f G x h.1))
    i := fun _ _ h => nomatch h
    f := fun _ _ h => nomatch h
    d := fun _ _ ks vs h => by cases ks <;> cases vs <;> cases h
    dv := fun _ _ ks vs _ _ _ h => by cases ks <;> cases vs <;> cases h
    w := fun _ _ _ h => nomatch h }
  | mk f ihf =>
    exact {
    e := fun G x h => by
      simp only [cE] at h
      exact s_mk (ihf.f G x h)
    an := fun _ _ _ h => nomatch h
    or := fun _ _ _ h => nomatch h
    ant := fun _ _ _ h => nomatch h
    ort := fun _ _ _ h => nomatch h
    l := fun _ _ h => nomatch h
    t := fun _ _ h => nomatch h
    i := fun _ _ h => nomatch h
    f := fun _ _ h => nomatch h
    d := fun _ _ ks vs h => by cases ks <;> cases vs <;> cases h
    dv := fun _ _ ks vs _ _ _ h => by cases ks <;> cases vs <;> cases h
    w := fun _ _ _ h => nomatch h }
  | gl f ihf =>
    exact {
    e := fun G x h => by
      simp only [cE] at h
      exact s_gl (ihf.f G x h)
    an := fun _ _ _ h => nomatch h
    or := fun _ _ _ h => nomatch h
    ant := fun _ _ _ h => nomatch h
    ort := fun _ _ _ h => nomatch h
    l := fun _ _ h => nomatch h
    t := fun _ _ h => nomatch h
    i := fun _ _ h => nomatch h
    f := fun _ _ h => nomatch h
    d := fun _ _ ks vs h => by cases ks <;> cases vs <;> cases h
    dv := fun _ _ ks vs _ _ _ h => by cases ks <;> cases vs <;> cases h
    w := fun _ _ _ h => nomatch h }
  | dct kvs ihkvs =>
    exact {
    e := fun G x h => by
      cases x with
      | Dict ks vs pos =>
        simp only [cE, Bool.and_eq_true, decide_eq_true_eq] at h
        obtain ⟨⟨⟨h1, h2⟩, h3⟩, h4⟩ := h
        exact s_dct h1 h2 h3 h4 (ihkvs.d G pos ks vs h1)
      | _ => cases h
    an := fun _ _ _ h => nomatch h
    or := fun _ _ _ h => nomatch h
    ant := fun _ _ _ h => nomatch h
    ort := fun _ _ _ h => nomatch h
    l := fun _ _ h => nomatch h
    t := fun _ _ h => nomatch h
    i := fun _ _ h => nomatch h
    f := fun _ _ h => nomatch h
    d := fun _ _ ks vs h => by cases ks <;> cases vs <;> cases h
    dv := fun _ _ ks vs _ _ _ h => by cases ks <;> cases vs <;> cases h
    w := fun _ _ _ h => nomatch h }
  | bin op a b iha ihb =>
    exact {
    e := fun G x h => by
      cases x with
      | BinOp l o r pos =>
        simp only [cE, Bool.and_eq_true, decide_eq_true_eq] at h
        obtain ⟨⟨rfl, h1⟩, h2⟩ := h
        exact s_bin (iha.e G l h1) (ihb.e G r h2)
      | _ => cases h
    an := fun _ _ _ h => nomatch h
    or := fun _ _ _ h => nomatch h
    ant := fun _ _ _ h => nomatch h
    ort := fun _ _ _ h => nomatch h
    l := fun _ _ h => nomatch h
    t := fun _ _ h => nomatch h
    i := fun _ _ h => nomatch h
    f := fun _ _ h => nomatch h
    d := fun _ _ ks vs h => by cases ks <;> cases vs <;> cases h
    dv := fun _ _ ks vs _ _ _ h => by cases ks <;> cases vs <;> cases h
    w := fun _ _ _ h => nomatch h }
  | cmp op a b iha ihb =>
    exact {
    e := fun G x h => by
      cases x with
      | Compare l os cs pos =>
        match os, cs, h with
        | [o], [r], h =>
          simp only [cE, Bool.and_eq_true, decide_eq_true_eq, Bool.not_eq_true'] at h
          obtain ⟨⟨⟨rfl, hm⟩, h1⟩, h2⟩ := h
          exact s_cmp G.hu hm (iha.e G l h1) (ihb.e G r h2)
      | _ => cases h
    an := fun _ _ _ h => nomatch h
    or := fun _ _ _ h => nomatch h
    ant := fun _ _ _ h => nomatch h
    ort := fun _ _ _ h => nomatch h
    l := fun _ _ h => nomatch h
    t := fun G x h => by
      cases x with
      | Compare l os cs pos =>
        match os, cs, h with
        | [o], [r], h =>
          simp only [cT, Bool.and_eq_true, decide_eq_true_eq, Bool.not_eq_true'] at h
          obtain ⟨⟨⟨rfl, hm⟩, h1⟩, h2⟩ := h
          exact s_cmpT G.hu hm (iha.e G l h1) (ihb.e G r h2)
      | _ => cases h
    i := fun _ _ h => nomatch h
    f := fun _ _ h => nomatch h
    d := fun _ _ ks vs h => by cases ks <;> cases vs <;> cases h
    dv := fun _ _ ks vs _ _ _ h => by cases ks <;> cases vs <;> cases h
    w := fun _ _ _ h => nomatch h }
  | chain o1 o2 a b c iha ihb ihc =>
    exact {
    e := fun G x h => by
      cases x with
      | Compare l os cs pos =>
        match os, cs, h with
        | [p1, p2], [m, r], h =>
          simp only [cE, Bool.and_eq_true, decide_eq_true_eq, Bool.not_eq_true'] at h
          obtain ⟨⟨⟨⟨⟨rfl, rfl⟩, hm⟩, h1⟩, h2⟩, h3⟩ := h
          exact s_chain G.hu hm (iha.e G l h1) (ihb.e G m h2) (ihc.e G r h3)
      | _ => cases h
    an := fun _ _ _ h => nomatch h
    or := fun _ _ _ h => nomatch h
    ant := fun _ _ _ h => nomatch h
    ort := fun _ _ _ h => nomatch h
    l := fun _ _ h => nomatch h
    t := fun G x h => by
      cases x with
      | Compare l os cs pos =>
        match os, cs, h with
        | [p1, p2], [m, r], h =>
          simp only [cT, Bool.and_eq_true, decide_eq_true_eq, Bool.not_eq_true'] at h
          obtain ⟨⟨⟨⟨⟨rfl, rfl⟩, hm⟩, h1⟩, h2⟩, h3⟩ := h
          exact s_chainT G.hu hm (iha.e G l h1) (ihb.e G m h2) (ihc.e G r h3)
      | _ => cases h
    i := fun _ _ h => nomatch h
    f := fun _ _ h => nomatch h
    d := fun _ _ ks vs h => by cases ks <;> cases vs <;> cases h
    dv := fun _ _ ks vs _ _ _ h => by cases ks <;> cases vs <;> cases h
    w := fun _ _ _ h => nomatch h }
  | and_ a b iha ihb =>
    exact {
    e := fun G x h => by
      cases x with
      | BoolOp op vs pos =>
        cases op with
        | Or => cases h
        | And =>
          match vs, h with
          | x :: y :: r, h =>
            simp only [cE, Bool.and_eq_true] at h
            cases r with
            | nil => exact s_and (iha.e G x h.1) (L2.pe_one (ihb.e G y h.2))
            | cons z r => exact s_and (iha.e G x h.1) (ihb.an G (y :: z :: r) pos h.2)
      | _ => cases h
    an := fun G xs pos h => by
      match xs, h with
      | x :: y :: r, h =>
        simp only [cAnd, Bool.and_eq_true] at h
        cases r with
        | nil => exact s_and (iha.e G x h.1) (L2.pe_one (ihb.e G y h.2))
        | cons z r => exact s_and (iha.e G x h.1) (ihb.an G (y :: z :: r) pos h.2)
    or := fun _ _ _ h => nomatch h
    ant := fun G xs pos h => by
      match xs, h with
      | x :: y :: r, h =>
        simp only [cAndT, Bool.and_eq_true] at h
        cases r with
        | nil => exact s_andT (iha.t G x h.1) (L2.pw_and1 (ihb.t G y h.2))
        | cons z r => exact s_andT (iha.t G x h.1) (ihb.ant G (y :: z :: r) pos h.2)
    ort := fun _ _ _ h => nomatch h
    l := fun _ _ h => nomatch h
    t := fun G x h => by
      cases x with
      | BoolOp op vs pos =>
        cases op with
        | Or => cases h
        | And =>
          match vs, h with
          | x :: y :: r, h =>
            simp only [cT, Bool.and_eq_true] at h
            cases r with
            | nil => exact (s_andT (iha.t G x h.1) (L2.pw_and1 (ihb.t G y h.2))).pt
            | cons z r => exact (s_andT (iha.t G x h.1) (ihb.ant G (y :: z :: r) pos h.2)).pt
      | _ => cases h
    i := fun _ _ h => nomatch h
    f := fun _ _ h => nomatch h
    d := fun _ _ ks vs h => by cases ks <;> cases vs <;> cases h
    dv := fun _ _ ks vs _ _ _ h => by cases ks <;> cases vs <;> cases h
    w := fun _ _ _ h => nomatch h }
  | or_ a b iha ihb =>
    exact {
    e := fun G x h => by
      cases x with
      | BoolOp op vs pos =>
        cases op with
        | And => cases h
        | Or =>
          match vs, h with
          | x :: y :: r, h =>
            simp only [cE, Bool.and_eq_true] at h
            cases r with
            | nil => exact s_or (iha.e G x h.1) (L2.pe_one (ihb.e G y h.2))
            | cons z r => exact s_or (iha.e G x h.1) (ihb.or G (y :: z :: r) pos h.2)
      | _ => cases h
    an := fun _ _ _ h => nomatch h
    or := fun G xs pos h => by
      match xs, h with
      | x :: y :: r, h =>
        simp only [cOr, Bool.and_eq_true] at h
        cases r with
        | nil => exact s_or (iha.e G x h.1) (L2.pe_one (ihb.e G y h.2))
        | cons z r => exact s_or (iha.e G x h.1) (ihb.or G (y :: z :: r) pos h.2)
    ant := fun _ _ _ h => nomatch h
    ort := fun G xs pos h => by
      match xs, h with
      | x :: y :: r, h =>
        simp only [cOrT, Bool.and_eq_true] at h
        cases r with
        | nil => exact s_orT (iha.t G x h.1) (L2.pw_or1 (ihb.t G y h.2))
        | cons z r => exact s_orT (iha.t G x h.1) (ihb.ort G (y :: z :: r) pos h.2)
    l := fun _ _ h => nomatch h
    t := fun G x h => by
      cases x with
      | BoolOp op vs pos =>
        cases op with
        | And => cases h
        | Or =>
          match vs, h with
          | x :: y :: r, h =>
            simp only [cT, Bool.and_eq_true] at h
            cases r with
            | nil => exact (s_orT (iha.t G x h.1) (L2.pw_or1 (ihb.t G y h.2))).pt
            | cons z r => exact (s_orT (iha.t G x h.1) (ihb.ort G (y :: z :: r) pos h.2)).pt
      | _ => cases h
    i := fun _ _ h => nomatch h
    f := fun _ _ h => nomatch h
    d := fun _ _ ks vs h => by cases ks <;> cases vs <;> cases h
    dv := fun _ _ ks vs _ _ _ h => by cases ks <;> cases vs <;> cases h
    w := fun _ _ _ h => nomatch h }
  | not_ a iha =>
    exact {
    e := fun G x h => by
      cases x with
      | UnaryOp op y pos =>
        cases op with
        | Not =>
          simp only [cE] at h
          exact s_not (iha.e G y h)
        | _ => cases h
      | _ => cases h
    an := fun _ _ _ h => nomatch h
    or := fun _ _ _ h => nomatch h
    ant := fun _ _ _ h => nomatch h
    ort := fun _ _ _ h => nomatch h
    l := fun _ _ h => nomatch h
    t := fun G x h => by
      cases x with
      | UnaryOp op y pos =>
        cases op with
        | Not =>
          simp only [cT] at h
          exact s_notT (iha.t G y h)
        | _ => cases h
      | _ => cases h
    i := fun _ _ h => nomatch h
    f := fun _ _ h => nomatch h
    d := fun _ _ ks vs h => by cases ks <;> cases vs <;> cases h
    dv := fun _ _ ks vs _ _ _ h => by cases ks <;> cases vs <;> cases h
    w := fun _ _ _ h => nomatch h }
  | ife t a b iht iha ihb =>
    exact {
    e := fun G x h => by
      cases x with
      | IfExp c y z pos =>
        simp only [cE, Bool.and_eq_true] at h
        exact s_ife (iht.t G c h.1.1) (iha.e G y h.1.2) (ihb.e G z h.2)
      | _ => cases h
    an := fun _ _ _ h => nomatch h
    or := fun _ _ _ h => nomatch h
    ant := fun _ _ _ h => nomatch h
    ort := fun _ _ _ h => nomatch h
    l := fun _ _ h => nomatch h
    t := fun _ _ h => nomatch h
    i := fun _ _ h => nomatch h
    f := fun _ _ h => nomatch h
    d := fun _ _ ks vs h => by cases ks <;> cases vs <;> cases h
    dv := fun _ _ ks vs _ _ _ h => by cases ks <;> cases vs <;> cases h
    w := fun _ _ _ h => nomatch h }
  | neg a iha =>
    exact {
    e := fun G x h => by
      cases x with
      | UnaryOp op y pos =>
        cases op with
        | USub =>
          simp only [cE] at h
          exact s_neg (iha.e G y h)
        | _ => cases h
      | _ => cases h
    an := fun _ _ _ h => nomatch h
    or := fun _ _ _ h => nomatch h
    ant := fun _ _ _ h => nomatch h
    ort := fun _ _ _ h => nomatch h
    l := fun _ _ h => nomatch h
    t := fun _ _ h => nomatch h
    i := fun _ _ h => nomatch h
    f := fun _ _ h => nomatch h
    d := fun _ _ ks vs h => by cases ks <;> cases vs <;> cases h
    dv := fun _ _ ks vs _ _ _ h => by cases ks <;> cases vs <;> cases h
    w := fun _ _ _ h => nomatch h }
  | sub a i iha ihi =>
    exact {
    e := fun G x h => by
      cases x with
      | Subscript y z pos =>
        simp only [cE, Bool.and_eq_true] at h
        exact s_sub h.2 (iha.e G y h.1.1) (ihi.e G z h.1.2)
      | _ => cases h
    an := fun _ _ _ h => nomatch h
    or := fun _ _ _ h => nomatch h
    ant := fun _ _ _ h => nomatch h
    ort := fun _ _ _ h => nomatch h
    l := fun _ _ h => nomatch h
    t := fun G x h => by
      cases x with
      | Subscript y z pos =>
        simp only [cT, Bool.and_eq_true] at h
        exact s_truth rfl (fun s => by simp only [evT]) (s_sub h.2 (iha.e G y h.1.1) (ihi.e G z h.1.2))
      | _ => cases h
    i := fun _ _ h => nomatch h
    f := fun _ _ h => nomatch h
    d := fun _ _ ks vs h => by cases ks <;> cases vs <;> cases h
    dv := fun _ _ ks vs _ _ _ h => by cases ks <;> cases vs <;> cases h
    w := fun _ _ _ h => nomatch h }
  | call f es ihes =>
    exact {
    e := fun G x h => by
      cases x with
      | Call f args kws pos =>
        match f, args, kws, h with
        | .Name x p, args, [], h =>
          simp only [cE, Bool.and_eq_true, decide_eq_true_eq] at h
          obtain ⟨⟨⟨⟨h1, h2⟩, h3⟩, h4⟩, h5⟩ := h
          exact s_call G h1 h2 h3 h4 h5 (ihes.l G args h5)
      | _ => cases h
    an := fun _ _ _ h => nomatch h
    or := fun _ _ _ h => nomatch h
    ant := fun _ _ _ h => nomatch h
    ort := fun _ _ _ h => nomatch h
    l := fun _ _ h => nomatch h
    t := fun G x h => by
      cases x with
      | Call f args kws pos =>
        match f, args, kws, h with
        | .Name x p, args, [], h =>
          simp only [cT, Bool.and_eq_true, decide_eq_true_eq] at h
          obtain ⟨⟨⟨⟨h1, h2⟩, h3⟩, h4⟩, h5⟩ := h
          exact s_truth rfl (fun s => by simp only [evT]) (s_call G h1 h2 h3 h4 h5 (ihes.l G args h5))
      | _ => cases h
    i := fun _ _ h => nomatch h
    f := fun _ _ h => nomatch h
    d := fun _ _ ks vs h => by cases ks <;> cases vs <;> cases h
    dv := fun _ _ ks vs _ _ _ h => by cases ks <;> cases vs <;> cases h
    w := fun _ _ _ h => nomatch h }
  | bm m a es iha ihes =>
    exact {
    e := fun G x h => by
      cases x with
      | Call f args kws pos =>
        match f, args, kws, h with
        | .Attribute o nm ap, y :: ys, [], h =>
          simp only [cE, Bool.and_eq_true, decide_eq_true_eq] at h
          obtain ⟨⟨⟨⟨⟨⟨rfl, h0⟩, h2⟩, h3⟩, h4⟩, h5⟩, h6⟩ := h
          exact s_bm G (bmOk_of h0) h3 h4 h5 h6 (iha.e G o h2) (ihes.l G (y :: ys) h3)
      | _ => cases h
    an := fun _ _ _ h => nomatch h
    or := fun _ _ _ h => nomatch h
    ant := fun _ _ _ h => nomatch h
    ort := fun _ _ _ h => nomatch h
    l := fun _ _ h => nomatch h
    t := fun G x h => by
      cases x with
      | Call f args kws pos =>
        match f, args, kws, h with
        | .Attribute o nm ap, y :: ys, [], h =>
          simp only [cT, Bool.and_eq_true, decide_eq_true_eq] at h
          obtain ⟨⟨⟨⟨⟨⟨rfl, h0⟩, h2⟩, h3⟩, h4⟩, h5⟩, h6⟩ := h
          exact s_truth rfl (fun s => by simp only [evT]) (s_bm G (bmOk_of h0) h3 h4 h5 h6 (iha.e G o h2) (ihes.l G (y :: ys) h3))
      | _ => cases h
    i := fun _ _ h => nomatch h
    f := fun _ _ h => nomatch h
    d := fun _ _ ks vs h => by cases ks <;> cases vs <;> cases h
    dv := fun _ _ ks vs _ _ _ h => by cases ks <;> cases vs <;> cases h
    w := fun _ _ _ h => nomatch h }
  | bf b es ihes =>
    exact {
    e := fun G x h => by
      cases x with
      | Call f args kws pos =>
        match f, args, kws, h with
        | .Name x p, y :: ys, [], h =>
          simp only [cE, Bool.and_eq_true, decide_eq_true_eq] at h
          obtain ⟨⟨rfl, h2⟩, h3⟩ := h
          exact s_bf G h2 h3 (ihes.l G (y :: ys) h3)
      | _ => cases h
    an := fun _ _ _ h => nomatch h
    or := fun _ _ _ h => nomatch h
    ant := fun _ _ _ h => nomatch h
    ort := fun _ _ _ h => nomatch h
    l := fun _ _ h => nomatch h
    t := fun G x h => by
      cases x with
      | Call f args kws pos =>
        match f, args, kws, h with
        | .Name x p, y :: ys, [], h =>
          simp only [cT, Bool.and_eq_true, decide_eq_true_eq] at h
          obtain ⟨⟨rfl, h2⟩, h3⟩ := h
          exact s_truth rfl (fun s => by simp only [evT]) (s_bf G h2 h3 (ihes.l G (y :: ys) h3))
      | _ => cases h
    i := fun _ _ h => nomatch h
    f := fun _ _ h => nomatch h
    d := fun _ _ ks vs h => by cases ks <;> cases vs <;> cases h
    dv := fun _ _ ks vs _ _ _ h => by cases ks <;> cases vs <;> cases h
    w := fun _ _ _ h => nomatch h }
  | isi a t iha =>
    exact {
    e := fun G x h => by
      cases x with
      | Call f args kws pos =>
        match f, args, kws, h with
        | .Name x p, [y, .Name z p2], [], h =>
          simp only [cE, Bool.and_eq_true, decide_eq_true_eq] at h
          obtain ⟨⟨⟨⟨⟨⟨rfl, h2⟩, rfl⟩, h3⟩, h4⟩, h5⟩, h6⟩ := h
          exact s_isi G h2 h3 h4 h5 (iha.e G y h6)
      | _ => cases h
    an := fun _ _ _ h => nomatch h
    or := fun _ _ _ h => nomatch h
    ant := fun _ _ _ h => nomatch h
    ort := fun _ _ _ h => nomatch h
    l := fun _ _ h => nomatch h
    t := fun G x h => by
      cases x with
      | Call f args kws pos =>
        match f, args, kws, h with
        | .Name x p, [y, .Name z p2], [], h =>
          simp only [cT, Bool.and_eq_true, decide_eq_true_eq] at h
          obtain ⟨⟨⟨⟨⟨⟨rfl, h2⟩, rfl⟩, h3⟩, h4⟩, h5⟩, h6⟩ := h
          exact s_truth rfl (fun s => by simp only [evT]) (s_isi G h2 h3 h4 h5 (iha.e G y h6))
      | _ => cases h
    i := fun _ _ h => nomatch h
    f := fun _ _ h => nomatch h
    d := fun _ _ ks vs h => by cases ks <;> cases vs <;> cases h
    dv := fun _ _ ks vs _ _ _ h => by cases ks <;> cases vs <;> cases h
    w := fun _ _ _ h => nomatch h }
  | lst es ihes =>
    exact {
    e := fun _ _ h => nomatch h
    an := fun _ _ _ h => nomatch h
    or := fun _ _ _ h => nomatch h
    ant := fun _ _ _ h => nomatch h
    ort := fun _ _ _ h => nomatch h
    l := fun _ _ h => nomatch h
    t := fun _ _ h => nomatch h
    i := fun _ _ h => nomatch h
    f := fun G x h => by
      cases x with
      | List xs pos =>
        simp only [cF] at h
        exact s_lst (ihes.l G xs h)
      | _ => cases h
    d := fun _ _ ks vs h => by cases ks <;> cases vs <;> cases h
    dv := fun _ _ ks vs _ _ _ h => by cases ks <;> cases vs <;> cases h
    w := fun _ _ _ h => nomatch h }
  | lc own tg it cnd elt ihit ihcnd ihelt =>
    exact {
    e := fun _ _ h => nomatch h
    an := fun _ _ _ h => nomatch h
    or := fun _ _ _ h => nomatch h
    ant := fun _ _ _ h => nomatch h
    ort := fun _ _ _ h => nomatch h
    l := fun _ _ h => nomatch h
    t := fun _ _ h => nomatch h
    i := fun _ _ h => nomatch h
    f := fun G x h => by
      cases x with
      | ListComp el gs scope pos =>
        match gs, h with
        | [⟨tx, iter, ifs, 0⟩], h =>
          simp only [cF, Bool.and_eq_true, List.all_eq_true, decide_eq_true_eq] at h
          obtain ⟨⟨⟨⟨⟨⟨⟨h1, h2⟩, h3⟩, h4⟩, h5⟩, h6⟩, h7⟩, h8⟩ := h
          exact s_lc G h1 h2 h4 h6 (fun G tg x => ihit.w G tg x) h5 (fun G x => ihcnd.i G x) h7 (fun G x => ihelt.e G x) h8
      | _ => cases h
    d := fun _ _ ks vs h => by cases ks <;> cases vs <;> cases h
    dv := fun _ _ ks vs _ _ _ h => by cases ks <;> cases vs <;> cases h
    w := fun _ _ _ h => nomatch h }
  | lof e ihe =>
    exact {
    e := fun _ _ h => nomatch h
    an := fun _ _ _ h => nomatch h
    or := fun _ _ _ h => nomatch h
    ant := fun _ _ _ h => nomatch h
    ort := fun _ _ _ h => nomatch h
    l := fun _ _ h => nomatch h
    t := fun _ _ h => nomatch h
    i := fun _ _ h => nomatch h
    f := fun G x h => by
      cases x with
      | Call f args kws pos =>
        match f, args, kws, h with
        | .Name x p, [y], [], h =>
          simp only [cF, Bool.and_eq_true, decide_eq_true_eq] at h
          obtain ⟨⟨⟨rfl, h2⟩, h3⟩, h4⟩ := h
          exact s_lof G h2 h3 (ihe.e G y h4)
      | _ => cases h
    d := fun _ _ ks vs h => by cases ks <;> cases vs <;> cases h
    dv := fun _ _ ks vs _ _ _ h => by cases ks <;> cases vs <;> cases h
    w := fun _ _ _ h => nomatch h }
  | cat a b iha ihb =>
    exact {
    e := fun _ _ h => nomatch h
    an := fun _ _ _ h => nomatch h
    or := fun _ _ _ h => nomatch h
    ant := fun _ _ _ h => nomatch h
    ort := fun _ _ _ h => nomatch h
    l := fun _ _ h => nomatch h
    t := fun _ _ h => nomatch h
    i := fun _ _ h => nomatch h
    f := fun G x h => by
      cases x with
      | BinOp l o r pos =>
        simp only [cF, Bool.and_eq_true, decide_eq_true_eq] at h
        obtain ⟨⟨rfl, h1⟩, h2⟩ := h
        exact s_cat (iha.e G l h1) (ihb.e G r h2)
      | _ => cases h
    d := fun _ _ ks vs h => by cases ks <;> cases vs <;> cases h
    dv := fun _ _ ks vs _ _ _ h => by cases ks <;> cases vs <;> cases h
    w := fun _ _ _ h => nomatch h }
  | it e ihe =>
    exact {
    e := fun _ _ h => nomatch h
    an := fun _ _ _ h => nomatch h
    or := fun _ _ _ h => nomatch h
    ant := fun _ _ _ h => nomatch h
    ort := fun _ _ _ h => nomatch h
    l := fun _ _ h => nomatch h
    t := fun _ _ h => nomatch h
    i := fun _ _ h => nomatch h
    f := fun _ _ h => nomatch h
    d := fun _ _ ks vs h => by cases ks <;> cases vs <;> cases h
    dv := fun _ _ ks vs _ _ _ h => by cases ks <;> cases vs <;> cases h
    w := fun G tg x h => by
      simp only [cI] at h
      exact s_it (ihe.e G x h) }
  | rng es ihes =>
    exact {
    e := fun _ _ h => nomatch h
    an := fun _ _ _ h => nomatch h
    or := fun _ _ _ h => nomatch h
    ant := fun _ _ _ h => nomatch h
    ort := fun _ _ _ h => nomatch h
    l := fun _ _ h => nomatch h
    t := fun _ _ h => nomatch h
    i := fun _ _ h => nomatch h
    f := fun _ _ h => nomatch h
    d := fun _ _ ks vs h => by cases ks <;> cases vs <;> cases h
    dv := fun _ _ ks vs _ _ _ h => by cases ks <;> cases vs <;> cases h
    w := fun G tg x h => by
      cases x with
      | Call f args kws pos =>
        match f, kws, h with
        | .Name x p, [], h =>
          simp only [cI, Bool.and_eq_true, decide_eq_true_eq] at h
          obtain ⟨⟨⟨rfl, h2⟩, h3⟩, h4⟩ := h
          refine s_rng G h2 h3 ?_ (ihes.l G args h3)
          match args, h4 with
          | [a], _ => exact .inl ⟨a, rfl⟩
          | [a, b], _ => exact .inr ⟨a, b, rfl⟩
      | _ => cases h }
  | nil   =>
    exact {
    e := fun _ _ h => nomatch h
    an := fun _ _ _ h => nomatch h
    or := fun _ _ _ h => nomatch h
    ant := fun _ _ _ h => nomatch h
    ort := fun _ _ _ h => nomatch h
    l := fun G xs h => by
      cases xs with
      | nil => exact s_nil
      | cons _ _ => cases h
    t := fun _ _ h => nomatch h
    i := fun G xs h => by
      cases xs with
      | nil =>
        refine weakPTs L2.pts_nil fun σ H Q q => ?_
        obtain ⟨γ, s, R, p⟩ := q
        simp only [evT] at p
        exact p.here R rfl
      | cons _ _ => cases h
    f := fun _ _ h => nomatch h
    d := fun G pos ks vs h => by
      cases ks with
      | nil =>
        cases vs with
        | nil => exact L2.pps_nil
        | cons _ _ => cases h
      | cons _ _ => cases vs <;> cases h
    dv := fun _ _ ks vs _ _ _ h => by cases ks <;> cases vs <;> cases h
    w := fun _ _ _ h => nomatch h }
  | cons h t ihh iht =>
    exact {
    e := fun _ _ h => nomatch h
    an := fun _ _ _ h => nomatch h
    or := fun _ _ _ h => nomatch h
    ant := fun _ _ _ h => nomatch h
    ort := fun _ _ _ h => nomatch h
    l := fun G xs h => by
      cases xs with
      | nil => cases h
      | cons x xs =>
        simp only [cL, Bool.and_eq_true] at h
        exact s_cons h.1.2 (ihh.e G x h.1.1) (iht.l G xs h.2)
    t := fun _ _ h => nomatch h
    i := fun G xs h => by
      match t, xs, h with
      | .nil, [x], h =>
        simp only [cIfs] at h
        refine weakPTs (L2.pts_one (ihh.t G x h)) fun σ H Q ⟨γ, s, R, p⟩ => ⟨γ, s, R, ?_⟩
        simp only [evT] at p
        exact p
    f := fun _ _ h => nomatch h
    d := fun G pos ks vs hh => by
      cases ks with
      | nil => cases vs <;> cases hh
      | cons k ks =>
        cases k with
        | none => cases vs <;> cases hh
        | some k =>
          simp only [cD, Bool.and_eq_true] at hh
          exact iht.dv G pos ks vs k _ (ihh.e G k hh.1) hh.2
    dv := fun G pos ks vs kx tk hk hh => by
      cases vs with
      | nil => cases ks <;> cases hh
      | cons y vs =>
        simp only [cDv, Bool.and_eq_true] at hh
        exact L2.pps_cons hk (ihh.e G y hh.1) (iht.d G pos ks vs hh.2)
    w := fun _ _ _ h => nomatch h }
end Mp

/-! Mp: statements. -/
namespace Mp
open PySem (Addr Value Expr Stmt PyData Str CmpOp Operator cLine Scope Env NameKind)
open L2 (V HO Hp upd upd_same upd_ne SqT SqL Rd PE PT PW PA PI PG PS PSs Cx TE TT TA TI TG TS VK XK WX Ends Gl Sp It Room Takes Vis)

section
variable (K : PySem.W.Frag) (RX : ExRel) (W : WX)
/-- what is wanted behind a statement -/
def SPost (γ : Gh) (H : Hp) (D : Ends) (r : R Fl) : Prop :=
  match r with
  | .ok .nx s' => ∀ (γ' : Gh) (σ' : L2.St) (H' : Hp), Stm γ H γ' H' → Rel K γ' s' σ' H' → D.nx σ' H'
  | .ok .bk s' => ∀ (γ' : Gh) (σ' : L2.St) (H' : Hp), Stm γ H γ' H' → Rel K γ' s' σ' H' → D.bk σ' H'
  | .ok .ct s' => ∀ (γ' : Gh) (σ' : L2.St) (H' : Hp), Stm γ H γ' H' → Rel K γ' s' σ' H' → D.ct σ' H'
  | .ok (.rt v) s' => ∀ (γ' : Gh) (σ' : L2.St) (H' : Hp) (x : V), Stm γ H γ' H' → Rel K γ' s' σ' H' → RelVal K γ' H' v x → D.rt x H'
  | .ex e s' => ∀ (γ' : Gh) (σ' : L2.St) (H' : Hp) (c : Value) (d : Option Addr), Stm γ H γ' H' → Rel K γ' s' σ' H' → RX γ' H' e c d → W c d σ' H'
  | .bad => False
def tS (m : S → R Fl) : TS := fun D σ H => ∃ γ s, Rel K γ s σ H ∧ SPost K RX W γ H D (m s)
end
section
variable {K : PySem.W.Frag} {RX : ExRel} {W : WX} {γ : Gh} {H : Hp} {σ : L2.St} {D : Ends}
theorem SPost.from {r : R Fl} {γ1 : Gh} {H1 : Hp} (st : Stm γ H γ1 H1) (p : SPost K RX W γ H D r) : SPost K RX W γ1 H1 D r := by
  cases r with
  | bad => exact p
  | ex e s => exact fun γ2 σ2 H2 c d st2 R2 r2 => p γ2 σ2 H2 c d (st.trans st2) R2 r2
  | ok f s =>
    cases f with
    | nx => exact fun γ2 σ2 H2 st2 R2 => p γ2 σ2 H2 (st.trans st2) R2
    | bk => exact fun γ2 σ2 H2 st2 R2 => p γ2 σ2 H2 (st.trans st2) R2
    | ct => exact fun γ2 σ2 H2 st2 R2 => p γ2 σ2 H2 (st.trans st2) R2
    | rt v => exact fun γ2 σ2 H2 x st2 R2 r2 => p γ2 σ2 H2 x (st.trans st2) R2 r2
/-- an expression ahead -/
theorem SPost.bind {α β : Type} {r : R α} {f : α → S → R Fl} {rel : Gh → Hp → α → β → Prop} {Q : β → Hp → Prop} (p : SPost K RX W γ H D (r.bind f))
    (h : ∀ a s1 γ1 H1 b, Stp γ H γ1 H1 → Rel K γ1 s1 σ H1 → rel γ1 H1 a b → SPost K RX W γ1 H1 D (f a s1) → Q b H1) : Post K RX W γ H σ rel r Q := by
  cases r with
  | bad => exact p
  | ex e s => exact fun γ1 H1 c d st R1 r1 => p γ1 σ H1 c d st.toStm R1 r1
  | ok a s1 => exact fun γ1 H1 b st R1 r1 => h a s1 γ1 H1 b st R1 r1 (SPost.from st.toStm p)
theorem Stm.refl (γ : Gh) (H : Hp) : Stm γ H γ H := (Stp.refl γ H).toStm
end
section
variable {X : Cx}
theorem weakS {st : Stmt} {t t' : TS} (h : PS X st t) (w : ∀ D σ H, t' D σ H → t D σ H) : PS X st t' := ⟨fun ps s σ H D I q => h.run ps s σ H D I (w D σ H q)⟩
theorem weakB {st : List Stmt} {t t' : TS} (h : PSs X st t) (w : ∀ D σ H, t' D σ H → t D σ H) : PSs X st t' := ⟨fun ps s σ H D I q => h.run ps s σ H D I (w D σ H q)⟩
end

/-! ### the check -/
def notComp : Expr → Bool
  | .ListComp .. => false
  | .SetComp .. => false
  | .DictComp .. => false
  | _ => true
def storeB (sc : Scope) (x : Str) : Bool := match sc.names.lookup x with
  | some .local => true
  | some .cell => true
  | _ => false
/-- a list comprehension is stored at its own line -/
def compHere (sc : Scope) (x : Str) (px : PySem.Pos) : Expr → Bool
  | .ListComp _ _ scope pos => locB sc x && (px.line == pos.line) && !(scope.names.any fun (n, k) => n == x && (k == .local || k == .cell))
  | _ => false
/-- .. is not -/
def compAway (sc : Scope) (x : Str) (px : PySem.Pos) : Expr → Bool
  | .ListComp _ _ scope pos => !(locB sc x && (px.line == pos.line) && !(scope.names.any fun (n, k) => n == x && (k == .local || k == .cell)))
  | .SetComp .. => false
  | .DictComp .. => false
  | _ => true
def lcCode : E → Bool
  | .fz (.lc ..) => true
  | .mk (.lc ..) => true
  | .gl (.lc ..) => true
  | _ => false
section
variable (P : Prg) (N : List Str) (sc : Scope)
mutual
def cS : T → Stmt → Bool
  | .asg i e, .Assign [.Name x px] v _ => decide (N[i]? = some x) && storeB sc x && cE P N e sc v && (compAway sc x px v || (compHere sc x px v && lcCode e))
  | .par i j a b, .Assign [.Tuple [.Name x px, .Name y py] _ _] (.Tuple [u, v] _ _) _ => decide (N[i]? = some x) && decide (N[j]? = some y) && decide (i ≠ j) && decide (x ≠ y) && locB sc x && locB sc y && (py.line == px.line) && notStar u && notStar v &&
      !([u, v].all (PySem.foldedForSure 8)) && !([u, v].all (PySem.constantsAlone 8)) && cE P N a sc u && cE P N b sc v
  | .seti a i e, .Assign [.Subscript x y _] v _ => cE P N e sc v && cE P N a sc x && cE P N i sc y && notSlice y
  | .ite t b o, .If c bs os _ => cT P N t sc c && cB b bs && cB o os
  | .for_ tg it b, .For tx iter bs [] _ => tgB N sc tg tx && cI P N it sc iter && notSet iter && cB b bs
  | .while_ t b, .While c bs [] _ => cT P N t sc c && cB b bs
  | .ret e, .Return (some v) _ => cE P N e sc v
  | .retN, .Return none _ => true
  | .exp e, .Expr v _ => cE P N e sc v && notComp v
  | .brk, .Break _ => true
  | .cnt, .Continue _ => true
  | .pass, .Pass _ => true
  | _, _ => false
def cB : T → List Stmt → Bool
  | .nil, [] => true
  | .cons h t, x :: xs => cS h x && cB t xs
  | _, _ => false
end
end

/-- a def's own body -/
structure GoodS (P : Prg) (N : List Str) (Γ : Callee) (RX : ExRel) (k : Nat) (X : Cx) (W : WX) (sc : Scope) : Prop extends Good P N Γ RX k X W sc where
  sco : X.env.scope = sc
  fn : ∀ x, X.fn x = true

section
variable {P : Prg} {N : List Str} {Γ : Callee} {RX : ExRel} {k : Nat} {X : Cx} {W : WX} {sc : Scope}
theorem sw_away (G : GoodS P N Γ RX k X W sc) {x : Str} {px : PySem.Pos} {v : Expr} {l : Nat} (h : compAway sc x px v = true) : PySem.swapsWith v (some (.Name x px)) l X.env = pure false := by
  cases v with
  | ListComp el gs scope pos =>
    simp only [compAway, Bool.not_eq_true', Bool.and_eq_false_iff] at h
    have hb : X.env.blockKind = .function := by unfold PySem.Env.blockKind; rw [G.kind]; rfl
    unfold PySem.swapsWith
    simp only [hb]
    have hk : (X.env.kindOf x == some .local) = locB sc x := by
      unfold locB PySem.Env.kindOf
      rw [G.sco]
      split <;> rename_i e
      · rw [e]; rfl
      · cases q : sc.names.lookup x with
        | none => rfl
        | some kd => cases kd <;> first | rfl | exact absurd q e
    simp only [PySem.Expr.pos, hk]
    rcases h with (h | h) | h
    · rw [h]; rfl
    · rw [h, Bool.and_false]; rfl
    · simp only [Bool.not_eq_false'] at h
      rw [h]
      simp only [Bool.not_true, Bool.and_false]
  | SetComp => cases h
  | DictComp => cases h
  | _ => rfl
theorem SPost.asg {i : Nat} {v : Val} {s1 : S} {γ1 : Gh} {σ : L2.St} {H1 : Hp} {x : V} {D : Ends} (p : SPost X.K RX W γ1 H1 D (.ok .nx { s1 with env := s1.env.set i (some v) })) (R1 : Rel X.K γ1 s1 σ H1) (r : RelVal X.K γ1 H1 v x) : D.nx (σ.set i (some x)) H1 :=
  p γ1 _ H1 (Stm.refl _ _) (R1.set i r)
theorem storeB_of (G : GoodS P N Γ RX k X W sc) {x : Str} (h : storeB sc x = true) : L2.Loc X.env.scope x := by
  rw [G.sco]
  unfold storeB at h
  split at h
  · rename_i e; exact .inl e
  · rename_i e; exact .inr e
  · cases h
theorem s_asg (G : GoodS P N Γ RX k X W sc) {i : Nat} {e : E} {x : Str} {px pos : PySem.Pos} {v : Expr} (h1 : N[i]? = some x) (h2 : storeB sc x = true) (h3 : compAway sc x px v = true) (he : PE X v (tE X.K RX W (ev Γ e))) :
    PS X (.Assign [.Name x px] v pos) (tS X.K RX W (ex Γ (.asg i e))) := by
  refine weakS (L2.ps_set (i := i) (by rw [G.hN]; exact G.nd) (by rw [G.hN]; exact h1) (storeB_of G h2) he (sw_away G h3) (.inl (G.fn x))) fun D σ H ⟨γ, s, R, p⟩ => ⟨γ, s, R, ?_⟩
  simp only [ex] at p
  exact p.bind fun v s1 γ1 H1 x st1 R1 r1 p1 => SPost.asg p1 R1 r1
theorem sw_here (G : GoodS P N Γ RX k X W sc) {x : Str} {px : PySem.Pos} {el : Expr} {gs : List PySem.Comprehension} {scope : Scope} {pos : PySem.Pos} {l : Nat} (h : compHere sc x px (.ListComp el gs scope pos) = true) :
    X.env.scope.names.lookup x = some .local ∧ PySem.swapsWith (.ListComp el gs scope pos) (some (.Name x px)) l X.env = pure true := by
  simp only [compHere, Bool.and_eq_true, Bool.not_eq_true'] at h
  have hl := G.loc x h.1.1
  exact ⟨hl, L2.sw_true G.kind hl h.1.2 h.2⟩
theorem s_asgC (G : GoodS P N Γ RX k X W sc) {i : Nat} {e : E} {x : Str} {px pos : PySem.Pos} {v : Expr} (h1 : N[i]? = some x) (h3 : compHere sc x px v = true) (h4 : lcCode e = true) (h5 : cE P N e sc v = true) :
    PS X (.Assign [.Name x px] v pos) (tS X.K RX W (ex Γ (.asg i e))) := by
  cases v with
  | ListComp el gs scope vpos =>
    obtain ⟨hl, hsw⟩ := sw_here (l := pos.line) G h3
    have key : ∀ {own tg : List Nat} {it cnd elt : E}, cF P N (.lc own tg it cnd elt) sc (.ListComp el gs scope vpos) = true → (∀ {σ : L2.St} {H : Hp} {Q : VK}, tE X.K RX W (ev Γ e) σ H Q → tF X.K RX W (evF Γ (.lc own tg it cnd elt)) σ H Q) →
        PS X (.Assign [.Name x px] (.ListComp el gs scope vpos) pos) (tS X.K RX W (ex Γ (.asg i e))) := fun {own tg it cnd elt} h rd => by
      match gs, h with
      | [⟨tx, iter, ifs, 0⟩], h =>
        simp only [cF, Bool.and_eq_true, List.all_eq_true, decide_eq_true_eq] at h
        obtain ⟨⟨⟨⟨⟨⟨⟨g1, g2⟩, g3⟩, g4⟩, g5⟩, g6⟩, g7⟩, g8⟩ := h
        have ok := blk_ok G.toGood g1
        have g := fun s H C cl fp => G.toGood.blk ok.kind s H C cl fp
        refine weakS (L2.ps_setLc (i := i) G.calm (by rw [G.hN]; exact G.nd) (by rw [G.hN]; exact h1) hl hsw ((snd P N Γ RX k it).w G.toGood tx iter g5) ok (g := gT X.K tg) (tt := tT X.K RX W0 (evT Γ cnd)) (te := tE X.K RX W0 (ev Γ elt))
          (fun s H C cl fp => s_tg (g s H C cl fp) g4) (fun s H C cl fp => (snd P N Γ RX k cnd).i (g s H C cl fp) _ g7) (fun s H C cl fp => (snd P N Γ RX k elt).e (g s H C cl fp) _ g8) (fun z => set_of g6 z)) fun D σ H q => ?_
        rw [ownP_snd]
        refine lc_sound (own := own) (tg := tg) (it := evI Γ it) (cnd := evT Γ cnd) (elt := ev Γ elt) g2 σ H _ ?_
        have q2 : tE X.K RX W (ev Γ e) σ H (fun y H1 => D.nx (σ.set i (some y)) H1) := by
          obtain ⟨γ, s, R, p⟩ := q
          refine ⟨γ, s, R, ?_⟩
          simp only [ex] at p
          exact p.bind fun v s1 γ1 H1 x st1 R1 r1 p1 => SPost.asg p1 R1 r1
        obtain ⟨γ, s, R, p⟩ := rd q2
        refine ⟨γ, s, R, ?_⟩
        simp only [evF] at p
        exact p
    unfold lcCode at h4
    split at h4
    · exact key (by simpa only [cE] using h5) fun q => fz_read q
    · exact key (by simpa only [cE] using h5) fun q => mk_read q
    · exact key (by simpa only [cE] using h5) fun q => gl_read q
    · cases h4
  | _ => cases h3
theorem swapped2 (G : GoodS P N Γ RX k X W sc) {x y : Str} {px py pt pt2 : PySem.Pos} {kt k2 : Nat} {u v : Expr} (hx : locB sc x = true) (hy : locB sc y = true) (hl : (py.line == px.line) = true) (hn : x ≠ y) (su : notStar u = true) (sv : notStar v = true)
    (h1 : [u, v].all (PySem.foldedForSure 8) = false) (h2 : [u, v].all (PySem.constantsAlone 8) = false) : PySem.swappedStores [.Tuple [.Name x px, .Name y py] kt pt] (.Tuple [u, v] k2 pt2) X.env = pure (some [x, y]) := by
  have hb : X.env.blockKind = .function := by unfold PySem.Env.blockKind; rw [G.kind]; rfl
  have kx : X.env.kindOf x = some .local := G.loc x hx
  have ky : X.env.kindOf y = some .local := G.loc y hy
  have hst : ([u, v].any fun | .Starred .. => true | _ => false) = false := by
    have a : ∀ {w : Expr}, notStar w = true → (match w with | .Starred .. => true | _ => false) = false := fun {w} h => by cases w <;> first | rfl | cases h
    simp only [List.any_cons, List.any_nil, a su, a sv, Bool.or_self]
  have hl' : py.line = px.line := by simpa using hl
  have hd : ([x, y] : List Str).eraseDups = [x, y] := by
    have hne : (y == x) = false := beq_eq_false_iff_ne.mpr (Ne.symm hn)
    simp [List.eraseDups_cons, hne]
  unfold PySem.swappedStores
  simp only [hb, hst, List.length_cons, List.length_nil, List.head?_cons, Option.map_some, Option.getD_some, PySem.Expr.pos, List.filterMap_cons, List.filterMap_nil, kx, ky, hl', h1, h2, hd, beq_self_eq_true, Bool.and_self, if_true]
  rw [if_neg (by decide)]
  exact (if_neg (fun z => Bool.false_ne_true (hst.symm.trans z))).trans rfl
theorem s_par (G : GoodS P N Γ RX k X W sc) {i j : Nat} {a b : E} {x y : Str} {px py pt pt2 pos : PySem.Pos} {kt k2 : Nat} {u v : Expr} (hi : N[i]? = some x) (hj : N[j]? = some y) (hij : i ≠ j) (hx : locB sc x = true) (hy : locB sc y = true) (hl : (py.line == px.line) = true) (hn : x ≠ y) (su : notStar u = true) (sv : notStar v = true)
    (h1 : [u, v].all (PySem.foldedForSure 8) = false) (h2 : [u, v].all (PySem.constantsAlone 8) = false) (ha : PE X u (tE X.K RX W (ev Γ a))) (hb : PE X v (tE X.K RX W (ev Γ b))) :
    PS X (.Assign [.Tuple [.Name x px, .Name y py] kt pt] (.Tuple [u, v] k2 pt2) pos) (tS X.K RX W (ex Γ (.par i j a b))) := by
  refine weakS (L2.ps_par G.calm (by rw [G.hN]; exact G.nd) (by rw [G.hN]; exact hi) (by rw [G.hN]; exact hj) hij (G.loc x hx) (G.loc y hy) (s_cons su ha (s_cons sv hb s_nil)) (swapped2 G hx hy hl hn su sv h1 h2)) fun D σ H ⟨γ, s, R, p⟩ => ⟨γ, s, R, ?_⟩
  simp only [ex] at p
  simp only [evs]
  cases e1 : ev Γ a s with
  | bad => simp only [e1, Mp.R.bind] at p; exact p
  | ex _ _ => simp only [e1, Mp.R.bind] at p; exact fun γ1 H1 c d st1 => p γ1 σ H1 c d st1.toStm
  | ok v1 s1 =>
    simp only [e1, Mp.R.bind] at p ⊢
    cases e2 : ev Γ b s1 with
    | bad => simp only [e2] at p; exact p
    | ex _ _ => simp only [e2] at p; exact fun γ1 H1 c d st1 => p γ1 σ H1 c d st1.toStm
    | ok v2 s2 =>
      simp only [e2] at p ⊢
      intro γ1 H1 us st1 R1 r1
      obtain ⟨x1, x2, rfl, r1, r2⟩ := relVals_two r1
      exact ⟨x1, x2, rfl, p γ1 _ H1 st1.toStm ((R1.set i r1).set j r2)⟩
theorem setIx_cases {o i v : Val} {s : S} : setIx o i v s = .bad ∨
    (∃ (j : Nat) (k : Int) (d : D) (xs : List D), o = .own j ∧ i = .d (.int k) ∧ v = .d d ∧ s.fs[j]? = some (.lst xs) ∧ 0 ≤ k ∧ k < xs.length ∧ setIx o i v s = .ok () { s with fs := s.fs.set j (.lst (xs.set k.toNat d)) }) ∨
    (∃ (n : Nat) (k : Int) (d : D) (xs : List D), o = .d (.ref n) ∧ i = .d (.int k) ∧ v = .d d ∧ s.gs[n]? = some (.lst xs) ∧ 0 ≤ k ∧ k < xs.length ∧ setIx o i v s = .ok () { s with gs := s.gs.set n (.lst (xs.set k.toNat d)) }) := by
  unfold setIx
  split
  · rename_i j k d
    split
    · rename_i xs hc
      by_cases hb : (decide (0 ≤ k) && decide (k < xs.length)) = true
      · rw [if_pos hb]
        simp only [Bool.and_eq_true, decide_eq_true_eq] at hb
        exact .inr (.inl ⟨j, k, d, xs, rfl, rfl, rfl, hc, hb.1, hb.2, rfl⟩)
      · rw [if_neg hb]; exact .inl rfl
    · exact .inl rfl
  · rename_i n k d
    split
    · rename_i xs hc
      by_cases hb : (decide (0 ≤ k) && decide (k < xs.length)) = true
      · rw [if_pos hb]
        simp only [Bool.and_eq_true, decide_eq_true_eq] at hb
        exact .inr (.inr ⟨n, k, d, xs, rfl, rfl, rfl, hc, hb.1, hb.2, rfl⟩)
      · rw [if_neg hb]; exact .inl rfl
    · exact .inl rfl
  · exact .inl rfl
theorem set_rel {K : PySem.W.Frag} {γ : Gh} {s : S} {σ : L2.St} {H : Hp} {Dd : Ends} (R : Rel K γ s σ H) {o i v : Val} {x y z : V} (ro : RelVal K γ H o x) (ri : RelVal K γ H i y) (rv : RelVal K γ H v z)
    (p : SPost K RX W γ H Dd ((setIx o i v s).bind fun _ s => .ok .nx s)) : L2.rSetL x y z H fun H3 => Dd.nx σ H3 := by
  have ix : ∀ {n : Nat} {k : Int}, 0 ≤ k → k < n → L2.ixN n k = some k.toNat := fun {n k} h1 h2 => by
    unfold L2.ixN
    rw [if_pos h1, if_pos h2]
  rcases setIx_cases (o := o) (i := i) (v := v) (s := s) with h | ⟨j, k, d, xs, rfl, rfl, rfl, hc, h0, h1, h⟩ | ⟨n, k, d, xs, rfl, rfl, rfl, hc, h0, h1, h⟩
  · rw [h] at p; exact False.elim p
  · rw [h] at p
    obtain ⟨a, rfl, ha⟩ := ro
    obtain ⟨zs, vs, hc', hh, rr⟩ := R.cellF ha
    rw [hc] at hc'; cases hc'
    have hl := relDs_len rr
    cases ri
    exact ⟨a, vs, k, k.toNat, rfl, rfl, hh, ix h0 (by omega), p γ σ _ (stp_cell R (.inl (List.mem_of_getElem? ha))).toStm (R.setF ha (relDs_set rr rv _))⟩
  · rw [h] at p
    cases ro with
    | ref ha =>
      obtain ⟨zs, vs, hc', hh, rr⟩ := R.cellG ha
      rw [hc] at hc'; cases hc'
      have hl := relDs_len rr
      cases ri
      exact ⟨_, vs, k, k.toNat, rfl, rfl, hh, ix h0 (by omega), p γ σ _ (stp_cell R (.inr (List.mem_of_getElem? ha))).toStm (R.setG ha (relDs_set rr rv _))⟩
theorem s_seti (G : GoodS P N Γ RX k X W sc) {a i e : E} {x y v : Expr} {p1 pos : PySem.Pos} (hs : notSlice y = true) (he : PE X v (tE X.K RX W (ev Γ e))) (ha : PE X x (tE X.K RX W (ev Γ a))) (hi : PE X y (tE X.K RX W (ev Γ i))) :
    PS X (.Assign [.Subscript x y p1] v pos) (tS X.K RX W (ex Γ (.seti a i e))) := by
  have hasg : ∀ w, PySem.assign (.Subscript x y p1) X.env w = (do
      let ov ← PySem.holding [w] (PySem.eval x X.env)
      let iv ← PySem.holding [w, ov] (PySem.eval y X.env)
      PySem.standAt p1
      PySem.holding [w, ov, iv] (PySem.setItem ov iv w)
      PySem.release [w, ov, iv] []) := by
    intro w
    cases y <;> first | rfl | cases hs
  have hsw : PySem.swapsWithSole [.Subscript x y p1] v pos.line X.env = pure false := by cases v <;> rfl
  have hst : PySem.swappedStores [.Subscript x y p1] v X.env = pure none := by cases v <;> rfl
  refine weakS (L2.ps_asg he (L2.pg_sub ha hi L2.set_list hasg) hsw hst rfl) fun D σ H ⟨γ, s, R, p⟩ => ⟨γ, s, R, ?_⟩
  simp only [ex] at p
  refine p.bind fun v s1 γ1 H1 u st1 R1 r1 p1 => ⟨γ1, s1, R1, p1.bind fun o s2 γ2 H2 w st2 R2 r2 p2 => ⟨γ2, s2, R2, p2.bind fun iv s3 γ3 H3 z st3 R3 r3 p3 => ?_⟩⟩
  exact set_rel R3 (r2.step st3 R2.tups) r3 ((r1.step st2 R1.tups).step st3 R2.tups) p3
theorem s_ite {t : E} {b o : T} {c : Expr} {bs os : List Stmt} {pos : PySem.Pos} (ht : PT X c (tT X.K RX W (evT Γ t))) (hb : PSs X bs (tS X.K RX W (ex Γ b))) (ho : PSs X os (tS X.K RX W (ex Γ o))) : PS X (.If c bs os pos) (tS X.K RX W (ex Γ (.ite t b o))) := by
  refine weakS (L2.ps_if ht hb ho) fun D σ H ⟨γ, s, R, p⟩ => ⟨γ, s, R, ?_⟩
  simp only [ex] at p
  refine p.bind fun k s1 γ1 H1 x st1 R1 r1 p1 => ?_
  subst r1
  cases k with
  | true => exact ⟨γ1, s1, R1, p1⟩
  | false => exact ⟨γ1, s1, R1, p1⟩
theorem s_ret {e : E} {v : Expr} {pos : PySem.Pos} (he : PE X v (tE X.K RX W (ev Γ e))) : PS X (.Return (some v) pos) (tS X.K RX W (ex Γ (.ret e))) := by
  refine weakS (L2.ps_ret he) fun D σ H ⟨γ, s, R, p⟩ => ⟨γ, s, R, ?_⟩
  simp only [ex] at p
  exact p.bind fun v s1 γ1 H1 x st1 R1 r1 p1 => p1 γ1 σ H1 x (Stm.refl _ _) R1 r1
theorem s_retN {pos : PySem.Pos} : PS X (.Return none pos) (tS X.K RX W (ex Γ .retN)) := by
  refine weakS L2.ps_retN fun D σ H ⟨γ, s, R, p⟩ => ?_
  simp only [ex] at p
  exact p γ σ H _ (Stm.refl _ _) R .non
theorem s_exp {e : E} {v : Expr} {pos : PySem.Pos} (hc : notComp v = true) (he : PE X v (tE X.K RX W (ev Γ e))) : PS X (.Expr v pos) (tS X.K RX W (ex Γ (.exp e))) := by
  have hsw : PySem.swapsWith v none pos.line X.env = pure false := by cases v <;> first | rfl | cases hc
  refine weakS (L2.ps_expr he hsw) fun D σ H ⟨γ, s, R, p⟩ => ⟨γ, s, R, ?_⟩
  simp only [ex] at p
  exact p.bind fun v s1 γ1 H1 x st1 R1 r1 p1 => p1 γ1 σ H1 (Stm.refl _ _) R1
theorem s_brk {pos : PySem.Pos} : PS X (.Break pos) (tS X.K RX W (ex Γ .brk)) := by
  refine weakS L2.ps_break fun D σ H ⟨γ, s, R, p⟩ => ?_
  simp only [ex] at p
  exact p γ σ H (Stm.refl _ _) R
theorem s_cnt {pos : PySem.Pos} : PS X (.Continue pos) (tS X.K RX W (ex Γ .cnt)) := by
  refine weakS L2.ps_continue fun D σ H ⟨γ, s, R, p⟩ => ?_
  simp only [ex] at p
  exact p γ σ H (Stm.refl _ _) R
theorem s_pass {pos : PySem.Pos} : PS X (.Pass pos) (tS X.K RX W (ex Γ .pass)) := by
  refine weakS L2.ps_pass fun D σ H ⟨γ, s, R, p⟩ => ?_
  simp only [ex] at p
  exact p γ σ H (Stm.refl _ _) R
theorem b_nil : PSs X [] (tS X.K RX W (ex Γ .nil)) := by
  refine weakB L2.pss_nil fun D σ H ⟨γ, s, R, p⟩ => ?_
  simp only [ex] at p
  exact p γ σ H (Stm.refl _ _) R
theorem b_cons {h t : T} {x : Stmt} {xs : List Stmt} (hh : PS X x (tS X.K RX W (ex Γ h))) (ht : PSs X xs (tS X.K RX W (ex Γ t))) : PSs X (x :: xs) (tS X.K RX W (ex Γ (.cons h t))) := by
  refine weakB (L2.pss_cons hh ht) fun D σ H ⟨γ, s, R, p⟩ => ⟨γ, s, R, ?_⟩
  simp only [ex] at p
  cases e : ex Γ h s with
  | bad => simp only [e, Mp.R.bind] at p; exact p
  | ex _ _ => simp only [e, Mp.R.bind] at p; exact p
  | ok f s1 =>
    simp only [e, Mp.R.bind] at p
    cases f with
    | nx => exact fun γ1 σ1 H1 st1 R1 => ⟨γ1, s1, R1, SPost.from st1 p⟩
    | bk => exact p
    | ct => exact p
    | rt v => exact p

/-! ### loops -/
theorem s_for (G : GoodS P N Γ RX k X W sc) {tg : List Nat} {it : E} {b : T} {tx iter : Expr} {bs : List Stmt} {pos : PySem.Pos} (ht : tgB N sc tg tx = true) (hi : PI X tx iter (tI X.K RX W (evI Γ it))) (hset : notSet iter = true) (hb : PSs X bs (tS X.K RX W (ex Γ b))) :
    PS X (.For tx iter bs [] pos) (tS X.K RX W (ex Γ (.for_ tg it b))) := by
  refine weakS (L2.ps_for G.pass G.calm hi (s_tg G.toGood ht) hb (fun x => set_of hset x)) fun D σ H ⟨γ, s, R, p⟩ => ⟨γ, s, R, ?_⟩
  simp only [ex] at p
  cases e : evI Γ it s with
  | bad => simp only [e, Mp.R.bind] at p; exact p
  | ex _ _ => simp only [e, Mp.R.bind] at p; exact fun γ1 H1 c d st1 => p γ1 σ H1 c d st1.toStm
  | ok xs s1 =>
    simp only [e, Mp.R.bind] at p
    intro γ1 H1 J st1 R1 wk
    refine ⟨fun i m σ' H' => m = xs.length - i ∧ i ≤ xs.length ∧ ∃ γ2 s2, Stm γ1 H1 γ2 H' ∧ Rel X.K γ2 s2 σ' H' ∧ SPost X.K RX W γ2 H' D (forGo tg (ex Γ b) (xs.drop i) s2), ⟨xs.length, by simp, Nat.zero_le _, γ1, s1, Stm.refl _ _, R1, SPost.from st1.toStm p⟩, ?_⟩
    rintro i m σ' H' ⟨rfl, hi2, γ2, s2, st2, R2, p2⟩
    by_cases hlt : i < xs.length
    · have hx : xs[i]? = some xs[i] := List.getElem?_eq_getElem hlt
      refine .inr ⟨wk.go i γ2 H' st2.toSts hlt, fun σ'' H'' => i + 1 ≤ xs.length ∧ ∃ γ2 s2, Stm γ1 H1 γ2 H'' ∧ Rel X.K γ2 s2 σ'' H'' ∧ SPost X.K RX W γ2 H'' D (forGo tg (ex Γ b) (xs.drop (i + 1)) s2), fun σ'' H'' q => ⟨xs.length - (i + 1), by omega, rfl, q⟩, fun x H3 hy => ?_⟩
      obtain ⟨hnew, rx⟩ := wk.yld i γ2 H' x H3 xs[i] st2.toSts hy hx
      obtain ⟨st3, R3⟩ : Stp γ2 H' γ2 H3 ∧ Rel X.K γ2 s2 σ' H3 := by
        rcases hnew with rfl | ⟨T, o, hT, rfl⟩
        · exact ⟨Stp.refl _ _, R2⟩
        · exact ⟨Stp.new γ2 hT, R2.new hT⟩
      rw [List.drop_eq_getElem_cons hlt] at p2
      unfold forGo at p2
      cases hb2 : bindTs tg xs[i] s2 with
      | none => rw [hb2] at p2; exact False.elim p2
      | some sb =>
        rw [hb2] at p2
        simp only at p2
        refine ⟨γ2, s2, xs[i], sb, R3, rx, hb2, fun σ4 R4 _ => ⟨γ2, sb, R4, ?_⟩⟩
        have p3 := SPost.from st3.toStm p2
        have st13 := st2.trans st3.toStm
        cases e2 : ex Γ b sb with
        | bad => simp only [e2, Mp.R.bind] at p3; exact p3
        | ex _ _ => simp only [e2, Mp.R.bind] at p3; exact p3
        | ok f s3 =>
          simp only [e2, Mp.R.bind] at p3
          cases f with
          | nx => exact fun γ5 σ5 H5 st5 R5 => ⟨hlt, γ5, s3, st13.trans st5, R5, SPost.from st5 p3⟩
          | ct => exact fun γ5 σ5 H5 st5 R5 => ⟨hlt, γ5, s3, st13.trans st5, R5, SPost.from st5 p3⟩
          | bk => exact p3
          | rt v => exact p3
    · have e : i = xs.length := by omega
      subst e
      refine .inl ⟨wk.stop γ2 H' st2.toSts, ?_⟩
      rw [List.drop_length] at p2
      simp only [forGo] at p2
      exact p2 γ2 σ' H' (Stm.refl _ _) R2
theorem s_while (G : GoodS P N Γ RX k X W sc) {t : E} {b : T} {c : Expr} {bs : List Stmt} {pos : PySem.Pos} (ht : PT X c (tT X.K RX W (evT Γ t))) (hb : PSs X bs (tS X.K RX W (ex Γ b))) : PS X (.While c bs [] pos) (tS X.K RX W (ex Γ (.while_ t b))) := by
  refine weakS (L2.ps_while G.pass ht hb) fun D σ H ⟨γ, s, R, p⟩ => ?_
  simp only [ex] at p
  refine ⟨fun m σ' H' => ∃ γ2 s2, Rel X.K γ2 s2 σ' H' ∧ SPost X.K RX W γ2 H' D (whileGo (evT Γ t) (ex Γ b) m s2), ⟨LINE, γ, s, R, p⟩, ?_⟩
  rintro m σ' H' ⟨γ2, s2, R2, p2⟩
  cases m with
  | zero => exact False.elim p2
  | succ m =>
    unfold whileGo at p2
    refine ⟨γ2, s2, R2, p2.bind fun k s3 γ3 H3 k' st3 R3 r3 p3 => ?_⟩
    subst r3
    cases k with
    | false => exact p3 γ3 σ' H3 (Stm.refl _ _) R3
    | true =>
      simp only [if_true] at p3 ⊢
      refine ⟨fun σ5 H5 => ∃ γ2 s2, Rel X.K γ2 s2 σ5 H5 ∧ SPost X.K RX W γ2 H5 D (whileGo (evT Γ t) (ex Γ b) m s2), fun σ5 H5 q => ⟨m, Nat.lt_succ_self m, q⟩, γ3, s3, R3, ?_⟩
      cases e2 : ex Γ b s3 with
      | bad => simp only [e2, Mp.R.bind] at p3; exact p3
      | ex _ _ => simp only [e2, Mp.R.bind] at p3; exact p3
      | ok f s4 =>
        simp only [e2, Mp.R.bind] at p3
        cases f with
        | nx => exact fun γ5 σ5 H5 st5 R5 => ⟨γ5, s4, R5, SPost.from st5 p3⟩
        | ct => exact fun γ5 σ5 H5 st5 R5 => ⟨γ5, s4, R5, SPost.from st5 p3⟩
        | bk => exact p3
        | rt v => exact p3

/-! ### every checked code is sound -/
structure SndT (P : Prg) (N : List Str) (Γ : Callee) (RX : ExRel) (k : Nat) (c : T) : Prop where
  s : ∀ {X W sc}, GoodS P N Γ RX k X W sc → ∀ x, cS P N sc c x = true → PS X x (tS X.K RX W (ex Γ c))
  b : ∀ {X W sc}, GoodS P N Γ RX k X W sc → ∀ xs, cB P N sc c xs = true → PSs X xs (tS X.K RX W (ex Γ c))
theorem sndT (P : Prg) (N : List Str) (Γ : Callee) (RX : ExRel) (k : Nat) (c : T) : SndT P N Γ RX k c := by
  have E' := fun (c : E) => snd P N Γ RX k c
  induction c with
  | asg i e =>
    refine ⟨fun G x h => ?_, fun _ _ h => nomatch h⟩
    cases x with
    | Assign ts v pos =>
      match ts, h with
      | [.Name x px], h =>
        simp only [cS, Bool.and_eq_true, Bool.or_eq_true, decide_eq_true_eq] at h
        obtain ⟨⟨⟨h1, h2⟩, h3⟩, h4⟩ := h
        rcases h4 with h4 | ⟨h4, h5⟩
        · exact s_asg G h1 h2 h4 ((E' e).e G.toGood v h3)
        · exact s_asgC G h1 h4 h5 h3
    | _ => cases h
  | par i j a b =>
    refine ⟨fun G x h => ?_, fun _ _ h => nomatch h⟩
    cases x with
    | Assign ts v pos =>
      match ts, v, h with
      | [.Tuple [.Name x px, .Name y py] _ _], .Tuple [u, v] _ _, h =>
        simp only [cS, Bool.and_eq_true, Bool.not_eq_true', decide_eq_true_eq] at h
        obtain ⟨⟨⟨⟨⟨⟨⟨⟨⟨⟨⟨⟨h1, h2⟩, h3⟩, h4⟩, h5⟩, h6⟩, h7⟩, h8⟩, h9⟩, h10⟩, h11⟩, h12⟩, h13⟩ := h
        exact s_par G h1 h2 h3 h5 h6 h7 h4 h8 h9 h10 h11 ((E' a).e G.toGood u h12) ((E' b).e G.toGood v h13)
    | _ => cases h
  | seti a i e =>
    refine ⟨fun G x h => ?_, fun _ _ h => nomatch h⟩
    cases x with
    | Assign ts v pos =>
      match ts, h with
      | [.Subscript x y _], h =>
        simp only [cS, Bool.and_eq_true] at h
        obtain ⟨⟨⟨h1, h2⟩, h3⟩, h4⟩ := h
        exact s_seti G h4 ((E' e).e G.toGood v h1) ((E' a).e G.toGood x h2) ((E' i).e G.toGood y h3)
    | _ => cases h
  | ite t b o ihb iho =>
    refine ⟨fun G x h => ?_, fun _ _ h => nomatch h⟩
    cases x with
    | If c bs os pos =>
      simp only [cS, Bool.and_eq_true] at h
      exact s_ite ((E' t).t G.toGood c h.1.1) (ihb.b G bs h.1.2) (iho.b G os h.2)
    | _ => cases h
  | for_ tg it b ihb =>
    refine ⟨fun G x h => ?_, fun _ _ h => nomatch h⟩
    cases x with
    | For tx iter bs os pos =>
      match os, h with
      | [], h =>
        simp only [cS, Bool.and_eq_true] at h
        obtain ⟨⟨⟨h1, h2⟩, h3⟩, h4⟩ := h
        exact s_for G h1 ((E' it).w G.toGood tx iter h2) h3 (ihb.b G bs h4)
    | _ => cases h
  | while_ t b ihb =>
    refine ⟨fun G x h => ?_, fun _ _ h => nomatch h⟩
    cases x with
    | While c bs os pos =>
      match os, h with
      | [], h =>
        simp only [cS, Bool.and_eq_true] at h
        exact s_while G ((E' t).t G.toGood c h.1) (ihb.b G bs h.2)
    | _ => cases h
  | ret e =>
    refine ⟨fun G x h => ?_, fun _ _ h => nomatch h⟩
    cases x with
    | Return v pos =>
      match v, h with
      | some v, h =>
        simp only [cS] at h
        exact s_ret ((E' e).e G.toGood v h)
    | _ => cases h
  | retN =>
    refine ⟨fun G x h => ?_, fun _ _ h => nomatch h⟩
    cases x with
    | Return v pos =>
      match v, h with
      | none, _ => exact s_retN
    | _ => cases h
  | exp e =>
    refine ⟨fun G x h => ?_, fun _ _ h => nomatch h⟩
    cases x with
    | Expr v pos =>
      simp only [cS, Bool.and_eq_true] at h
      exact s_exp h.2 ((E' e).e G.toGood v h.1)
    | _ => cases h
  | brk =>
    refine ⟨fun G x h => ?_, fun _ _ h => nomatch h⟩
    cases x with
    | Break pos => exact s_brk
    | _ => cases h
  | cnt =>
    refine ⟨fun G x h => ?_, fun _ _ h => nomatch h⟩
    cases x with
    | Continue pos => exact s_cnt
    | _ => cases h
  | pass =>
    refine ⟨fun G x h => ?_, fun _ _ h => nomatch h⟩
    cases x with
    | Pass pos => exact s_pass
    | _ => cases h
  | nil =>
    refine ⟨(fun _ _ h => nomatch h), fun G xs h => ?_⟩
    cases xs with
    | nil => exact b_nil
    | cons _ _ => cases h
  | cons h t ihh iht =>
    refine ⟨(fun _ _ h => nomatch h), fun G xs hh => ?_⟩
    cases xs with
    | nil => cases hh
    | cons x xs =>
      simp only [cB, Bool.and_eq_true] at hh
      exact b_cons (ihh.s G x hh.1) (iht.b G xs hh.2)
end
end Mp

/-! Mp: the defs of a text keep what the evaluator says; the end of a law. -/
namespace Mp
open PySem (Addr Value Expr Stmt Str Scope Program World Heap)
open L2 (V HO Hp upd SqT SqL PSs Cx TS VK XK WX Sp Room Takes RelV)

/-- a def's text and its code -/
def fnB (P : Prg) (N ps : List Str) (st : Stmt) (fn : Fn) : Bool :=
  decide ((L2.defScope st).kind = .function) && decide ((L2.defScope st).isCoroutine = false) && decide ((L2.defScope st).isGenerator = false) && decide N.Nodup && decide (N.take ps.length = ps) &&
  (ps.all fun x => decide ((L2.defScope st).names.lookup x = some .local ∨ (L2.defScope st).names.lookup x = some .cell)) && ((L2.defScope st).names.all fun y => decide (y.2 ≠ .free)) &&
  decide (fn.np = ps.length) && decide (fn.nl = N.length) && cB P N (L2.defScope st) fn.body (L2.defBody st)
structure FnB (P : Prg) (N ps : List Str) (st : Stmt) (fn : Fn) : Prop where
  sc : L2.FnScope N ps (L2.defScope st)
  np : fn.np = ps.length
  nl : fn.nl = N.length
  b : cB P N (L2.defScope st) fn.body (L2.defBody st) = true
theorem fnB_of {P : Prg} {N ps : List Str} {st : Stmt} {fn : Fn} (h : fnB P N ps st fn = true) : FnB P N ps st fn := by
  unfold fnB at h
  simp only [Bool.and_eq_true, decide_eq_true_eq, List.all_eq_true] at h
  obtain ⟨⟨⟨⟨⟨⟨⟨⟨⟨h1, h2⟩, h3⟩, h4⟩, h5⟩, h6⟩, h7⟩, h8⟩, h9⟩, h10⟩ := h
  exact ⟨⟨h1, h2, h3, h4, h5, h6, h7⟩, h8, h9, h10⟩

/-- what the top has left -/
structure Top (P : Prg) (Pg : Nat → Fn) (K : PySem.W.Frag) (mg : Str → Option Value) : Prop where
  blt : ∀ b, mg (bfN b) = none
  tgs : ∀ t, tgOk t = true → mg (tgS t) = none
  isi : mg "isinstance" = none
  lst : mg "list" = none
  rng : mg "range" = none
  gcs : ∀ p ∈ P.gcs, ∃ u v, mg p.1 = some u ∧ RelV v u ∧ ∀ γ H, RelD K γ H p.2 v
  fns : ∀ f, f < P.nf → ∃ fa fd st qual N ps, mg (P.fname f) = some (.ref fa) ∧ L2.Fun K (P.fname f) qual st fa fd ∧ (∀ us : List Value, us.length = ps.length → PySem.bindArgs fd ⟨us, []⟩ = pure (ps.zip us)) ∧ FnB P N ps st (Pg f)

section
variable {P : Prg} {Pg : Nat → Fn} {pr : Program} {w : World} {K : PySem.W.Frag} {mg : Str → Option Value} {base : Heap} {RX : ExRel}
theorem start_get {N ps : List Str} {vs : List V} {i : Nat} {v : V} (h : vs[i]? = some v) : (L2.start N vs)[i]? = some (some v) := by
  unfold L2.start
  have hi := (List.getElem?_eq_some_iff.mp h).1
  rw [List.getElem?_append_left (by simpa using hi), List.getElem?_map, h]
  rfl
/-- the frame's state at the entry -/
theorem Rel.begin {γ : Gh} {gs : List Cell} {H : Hp} {ds : List D} {vs : List V} {N : List Str} (R : Rel K γ (outS gs) [] H) (r : RelDs K γ H ds vs) (hl : vs.length ≤ N.length) :
    Rel K γ ⟨ds.map (fun x => some (.d x)) ++ List.replicate (N.length - ds.length) none, [], gs⟩ (L2.start N vs) H := by
  have l := relDs_len r
  refine R.reenv (s := outS gs) ?_ fun i v h => ?_
  · unfold L2.start
    simp only [List.length_append, List.length_map, List.length_replicate]
    omega
  · by_cases hi : i < ds.length
    · rw [List.getElem?_append_left (by simpa using hi), List.getElem?_map] at h
      cases q : ds[i]? with
      | none => rw [q] at h; cases h
      | some d =>
        rw [q] at h
        cases h
        obtain ⟨x, hx, rx⟩ := relDs_get r q
        exact ⟨x, start_get (N := N) (ps := []) hx, rx⟩
    · rw [List.getElem?_append_right (by simpa using hi), List.getElem?_replicate] at h
      split at h <;> cases h
/-- out of the frame -/
def Gh.out (γ : Gh) : Gh := { γ with pf := [], tm := [] }
theorem les_out (γ : Gh) : Les γ γ.out := ⟨List.prefix_refl _, fun a h => by
  rcases h with (h | h) | h | h
  · exact .inl (.inl h)
  · cases h
  · cases h
  · exact .inr (.inr h)⟩
theorem Rel.out {γ : Gh} {s : S} {σ : L2.St} {H : Hp} (R : Rel K γ s σ H) : Rel K γ.out (outS s.gs) [] H where
  len := rfl
  slot := fun i v h => by simp [outS] at h
  fl := rfl
  fc := fun j a c h => by simp [Gh.out] at h
  gl := R.gl
  gc := fun j a c h1 h2 => (R.gc j a c h1 h2).les (les_out γ)
  ndf := fun i j a h => by simp [Gh.out] at h
  ndg := R.ndg
  dis := fun a h => by simp [Gh.out] at h
  bo := R.bo
  fnew := fun a h => by simp [Gh.out] at h
  gnew := R.gnew
  pre := R.pre
  frame := R.frame
  trk := R.trk
  tm := fun a h => by simp [Gh.out] at h
/-- what is handed back -/
theorem handed_rel {γ : Gh} {s : S} {σ : L2.St} {H : Hp} {v : Val} {x : V} {d : D} (R : Rel K γ s σ H) (r : RelVal K γ H v x) (h : handed v s = some d) : RelD K γ.out H d x := by
  cases v with
  | d y => cases h; exact RelD.les (les_out γ) _ _ r
  | own j =>
    obtain ⟨a, rfl, ha⟩ := r
    obtain ⟨xs, vs, hc, hh, rr⟩ := R.cellF ha
    simp only [handed, hc] at h
    cases h
    refine .lst hh ?_ (RelDs.les (les_out γ) _ _ rr)
    have hm := List.mem_of_getElem? ha
    rintro ((z | z) | z | z)
    · exact not_some (R.fnew a hm) (R.bo a z).1
    · cases z
    · cases z
    · exact R.dis a hm z

theorem run_zero {f : Nat} {vs : List V} {H : Hp} {Q : VK} {E : XK} (h : spG K RX (run Pg 0) f vs H Q E) : False := by
  obtain ⟨_, _, _, _, _, _, _, _, _, q⟩ := h
  exact q
theorem fns_ok (T : Top P Pg K mg) (hX : ExSteady K RX) : ∀ (k f : Nat) (fa : Addr) (fd : PySem.FuncData) (st : Stmt) (qual : Str) (N ps : List Str), L2.Fun K (P.fname f) qual st fa fd → FnB P N ps st (Pg f) →
    L2.FnOk pr w K mg base (L2.CX pr w) k fa fd ps (spG K RX (run Pg k) f) := by
  intro k
  induction k with
  | zero => exact fun f fa fd st qual N ps F B => ⟨fun _ _ _ _ h => (run_zero h).elim, fun _ _ _ _ _ _ _ _ _ _ _ _ _ h => (run_zero h).elim⟩
  | succ k ih =>
    intro f fa fd st qual N ps F B
    have np := B.np
    have hlen : ∀ (vs : List V) (H : Hp) (Q : VK) (E : XK), spG K RX (run Pg (k + 1)) f vs H Q E → vs.length = ps.length := fun vs H Q E h => by
      obtain ⟨γ, gs, ds, _, _, _, _, _, r, q⟩ := h
      rw [← relDs_len r]
      simp only [run, runF] at q
      by_cases e : ds.length = (Pg f).np
      · omega
      · rw [if_neg e] at q; exact q.elim
    refine F.okX B.sc hlen fun cdv A outer s H vs Q E hr h => ?_
    have hl := hlen vs H Q E h
    obtain ⟨γ, gs, ds, e1, e2, e3, e4, R, r, q⟩ := h
    have ld := relDs_len r
    have hpn : ps.length ≤ N.length := by have := congrArg List.length B.sc.pre; rw [List.length_take] at this; omega
    have G : GoodS P N (run Pg k) RX k (L2.cxOf (L2.CX pr w) pr w K mg base N qual (L2.defScope st) fa cdv A outer s H E) (fun c d _ H => E c d H) (L2.defScope st) := {
      hN := rfl
      nd := B.sc.nd
      calm := rfl
      room := hr
      tk := L2.takes_of rfl rfl rfl rfl
      pass := L2.passes_of rfl
      kind := B.sc.kind
      vis := fun x h => by
        unfold visB at h
        split at h
        · rename_i e; exact .inl e
        · rename_i e; exact .inr (.inl e)
        · rename_i e; exact .inr (.inr e)
        · cases h
      gl := fun x h => by
        unfold glB at h
        split at h
        · rename_i e; exact e
        · cases h
      loc := fun x h => by
        unfold locB at h
        split at h
        · rename_i e; exact e
        · cases h
      cf := fun x h => h
      blt := T.blt
      tgs := T.tgs
      isi := T.isi
      lst := T.lst
      rng := T.rng
      gcs := T.gcs
      fns := fun g hg => by
        obtain ⟨ga, gd, gst, gq, gN, gps, e1, GF, gb, GB⟩ := T.fns g hg
        exact ⟨ga, gd, gps, e1, GF.kp, .all gb, ih g ga gd gst gq gN gps GF GB⟩
      steady := hX
      sco := rfl
      fn := fun _ => rfl }
    refine ⟨tS K RX (fun c d _ H => E c d H) (ex (run Pg k) (Pg f).body), (sndT P N (run Pg k) RX k (Pg f).body).b G _ B.b, γ, _, Rel.begin R r (by omega), ?_⟩
    simp only [run, runF] at q
    rw [if_pos (by omega)] at q
    rw [show (Pg f).nl - (Pg f).np = N.length - ds.length by rw [B.nl]; omega] at q
    have outp : ∀ {γ' : Gh} {s' : S} {H' : Hp}, Stm γ H γ' H' → γ'.out.B = γ.B ∧ γ'.out.H0 = H ∧ γ'.out.p0 = γ.p0 := fun st => ⟨st.b, st.h0.trans e3, st.p0⟩
    cases hx : ex (run Pg k) (Pg f).body ⟨ds.map (fun x => some (.d x)) ++ List.replicate (N.length - ds.length) none, [], gs⟩ with
    | bad => rw [hx] at q; exact q
    | ex e s' =>
      rw [hx] at q
      intro γ' σ' H' c d st R' rx
      have o := outp (s' := s') st
      exact q γ'.out H' c d rfl rfl o.1 o.2.1 o.2.2 R'.out (hX _ _ _ _ _ _ (les_out γ') rx)
    | ok fl s' =>
      rw [hx] at q
      cases fl with
      | nx =>
        intro γ' σ' H' st R'
        have o := outp (s' := s') st
        exact q γ'.out H' .non rfl rfl o.1 o.2.1 o.2.2 R'.out .non
      | rt v =>
        simp only at q
        intro γ' σ' H' x st R' rv
        have o := outp (s' := s') st
        cases hh : handed v s' with
        | none => simp only [hh] at q
        | some d =>
          simp only [hh] at q
          exact q γ'.out H' x rfl rfl o.1 o.2.1 o.2.2 R'.out (handed_rel R' rv hh)
      | bk => exact q.elim
      | ct => exact q.elim

/-- no error is told -/
def RX0 : ExRel := fun _ _ _ _ _ => False
theorem rx0_steady : ExSteady K RX0 := fun _ _ _ _ _ _ _ h => h
end

/-! ### the end of a law -/
/-- a name whose value the top has reckoned -/
theorem loose_int {lv : List (Str × PySem.W.WData)} {mg : Str → Option Value} {h : Heap} (x : PySem.W.LooseAre lv mg h) {n : Str} {i : Int} (hn : (n, PySem.W.WData.int i) ∈ lv) : ∃ u, mg n = some u ∧ RelV (.int i) u := by
  obtain ⟨v, hm, r⟩ := x.val _ hn
  cases r
  exact ⟨_, hm, _, rfl⟩
theorem ints_rel {K : PySem.W.Frag} {γ : Gh} {H : Hp} : ∀ ns : List Int, RelDs K γ H (ns.map D.int) (ns.map V.int)
  | [] => .nil
  | n :: ns => .cons (.int n) (ints_rel ns)
/-- the ghost ahead of the law's call -/
def Gh.first (H : Hp) : Gh := { B := fun _ => False, H0 := H, p0 := [], pf := [], pg := [], tm := [] }
theorem first_bad {H : Hp} {a : Addr} : ¬ (Gh.first H).Bad a := by
  rintro ((z | z) | z | z)
  · exact z
  · cases z
  · cases z
  · cases z
theorem Rel.first (K : PySem.W.Frag) (H : Hp) : Rel K (Gh.first H) (outS []) [] H where
  len := rfl
  slot := fun i v h => by simp [outS] at h
  fl := rfl
  fc := fun j a c h => by simp [Gh.first] at h
  gl := rfl
  gc := fun j a c h => by simp [Gh.first] at h
  ndf := fun i j a h => by simp [Gh.first] at h
  ndg := fun i j a h => by simp [Gh.first] at h
  dis := fun a h => by simp [Gh.first] at h
  bo := fun a h => h.elim
  fnew := fun a h => by simp [Gh.first] at h
  gnew := fun a h => by simp [Gh.first] at h
  pre := List.prefix_refl _
  frame := fun a o h _ => h
  trk := fun a h => h
  tm := fun a h => by simp [Gh.first] at h
theorem end_of {l : PySem.W.OpenLaw} {q : Program} {loose : List Str} {XP : (Str → Option Value) → Heap → Prop} {YP : World → Heap → Prop} {d : PySem.DefRec} {Kp : PySem.Params → PySem.W.Frag} {P : Prg} {Pg : Nat → Fn} {RX : ExRel} {lw k : Nat}
    (hn : l.most = some 63) (hdf : d.params.defaults = []) (hr : Room k PySem.callerA) (hY : ∀ (w : World) (h : Heap), YP w h → (Kp w.params).In h) (hlw : lw < P.nf) (hname : d.name = P.fname lw) (hnp : (Pg lw).np = 1)
    (hX : ∀ w : World, ExSteady (Kp w.params) RX)
    (T : ∀ (w : World) (mg : Str → Option Value) (h : Heap), (Kp w.params).In h → h.Ns PySem.mainGlobals mg → XP mg h → Top P Pg (Kp w.params) mg)
    (hlaw : ∀ ns : List Int, ns.length ≤ 63 → ∃ gs, run Pg k lw [.scr (ns.map D.int)] [] = .ok (.bl true) gs) :
    PySem.W.WalkO q loose XP YP l.row.toRowW d [] (fun f vs => PySem.call f vs) := by
  refine Att.attach_call hn hdf fun w s0 s1 mg mb fa o pm cd doc a vs ns G Y ho hd hcd hmg hobj hints hlen hg => ?_
  have KX := hY w _ Y
  have Tp := T w mg _ KX G.T.g G.X
  obtain ⟨fa', fd, st, qual, N, ps, h1, F, b, B⟩ := Tp.fns lw hlw
  have efa : fa' = fa := by
    rw [hname] at hmg
    have := h1.symm.trans hmg
    injection this with e
    injection e
  subst efa
  obtain ⟨x, rfl⟩ : ∃ x, ps = [x] := by
    have : ps.length = 1 := by rw [← B.np]; exact hnp
    match ps, this with
    | [x], _ => exact ⟨x, rfl⟩
  refine L2.law_call (sp := spG (Kp w.params) RX (run Pg k) lw) (CX := L2.CX l.prog w) KX G.T.g G.T.b G.T.builtins G.T.nolimit hg hobj hints (Nat.le_trans hlen (by decide)) hr (fun base kb nb => ?_) (fun s u => .of_eq (b [u] rfl)) (fun H hO hS => ?_) fun H e s' hc => ?_
  · exact fns_ok Tp (hX w) k lw fa' fd st qual N [x] F B
  · obtain ⟨gs, hrun⟩ := hlaw ns hlen
    refine ⟨Gh.first H, [], [.scr (ns.map D.int)], rfl, rfl, rfl, rfl, Rel.first _ H, .cons ?_ .nil, ?_⟩
    · rcases hS with hS | hS
      · exact .scr hS first_bad (ints_rel ns)
      · exact .scrK (fun _ => .inr hS) (ints_rel ns)
    · rw [hrun]
      intro γ' H' v _ _ _ _ _ _ rv
      cases rv
      rfl
  · obtain ⟨_, _, _, _, _, _, _, _, _, _, _, _, z⟩ := hc
    exact z
end Mp

/-! Mp: lemmas about runs of codes -/
namespace Mp
open PySem (Str PyData)

theorem big_lt : (10 : Int) ^ 700 < BIG := by decide +kernel
theorem okI_of {i : Int} (h1 : -10 ^ 700 < i) (h2 : i < 10 ^ 700) : okI i = true := by
  have := big_lt
  unfold okI
  simp only [decide_eq_true_eq]
  generalize (10:Int)^700 = t at *
  omega
theorem getset {α : Type} {l : List α} {n : Nat} {x y : α} (h : l[n]? = some x) : (l.set n y)[n]? = some y := by
  have : n < l.length := (List.getElem?_eq_some_iff.mp h).1
  rw [List.getElem?_set_self this]

/-- the n-th digits of a number -/
theorem len_digits {i : Int} {k : Nat} (h0 : 0 ≤ i) (hk : 0 < k) : (Str.ofString (toString i)).length ≤ k ↔ i < 10 ^ k := by
  obtain ⟨n, rfl⟩ := Int.eq_ofNat_of_zero_le h0
  have e : toString (n : Int) = n.repr := rfl
  rw [PyProof.Rows.ofString_length, e, String.length_toList, Nat.length_repr_le_iff hk]
  constructor
  · intro h
    have : ((n : Int)) < ((10 ^ k : Nat) : Int) := Int.ofNat_lt.mpr h
    simpa using this
  · intro h
    have : ((n : Int)) < ((10 ^ k : Nat) : Int) := by simpa using h
    exact Int.ofNat_lt.mp this

/-- xs == [] -/
theorem eq_nilL (xs : List D) (s : S) : eqVal (.d (.lst xs)) (.d (.lst [])) s = some xs.isEmpty := by
  cases xs with
  | nil => simp [eqVal, Val.py, D.py, D.pys, PyData.depth, PyData.depthAll, PyData.eqv, PyData.eqvAll]
  | cons x xs =>
    simp only [eqVal, Val.py, D.py]
    cases h : D.pys (x :: xs) with
    | none => simp [D.pys, seqv]
    | some l =>
      have : ∃ a r, l = a :: r := by
        simp only [D.pys] at h
        split at h
        · cases h; exact ⟨_, _, rfl⟩
        · cases h
      obtain ⟨a, r, rfl⟩ := this
      simp [D.pys, PyData.depth, PyData.depthAll, PyData.eqv, PyData.eqvAll]
theorem eq_nilO {j : Nat} {xs : List D} {s : S} (h : s.fs[j]? = some (.lst xs)) : eqVal (.own j) (.d (.lst [])) s = some xs.isEmpty := by
  rw [← eq_nilL xs s]
  simp only [eqVal, Val.py, D.py, h, seqv]

theorem eq_int (i j : Int) (s : S) : eqVal (.d (.int i)) (.d (.int j)) s = some (decide (i = j)) := by
  by_cases h : i = j <;> simp [eqVal, Val.py, D.py, PyData.depth, PyData.eqv, h]
theorem eq_bl (i j : Bool) (s : S) : eqVal (.d (.bl i)) (.d (.bl j)) s = some (i == j) := by
  cases i <;> cases j <;> simp [eqVal, Val.py, D.py, PyData.depth, PyData.eqv]
theorem eq_nil0 (e : List (Option Val)) (xs : List D) (l g : List Cell) : eqVal (.own 0) (.d (.lst [])) ⟨e, .lst xs :: l, g⟩ = some xs.isEmpty := eq_nilO rfl
/-- a comprehension that changes nothing -/
theorem lcGo_pure {env : List (Option Val)} {i : Nat} {cnd : S → R Bool} {elt : S → R Val} {F G : List Cell} (p : D → Bool) (f : D → D) :
    ∀ (xs : List D) (e : List (Option Val)), (∀ x ∈ xs, cnd ⟨env.set i (some (.d x)), F, G⟩ = .ok (p x) ⟨env.set i (some (.d x)), F, G⟩ ∧ (p x = true → elt ⟨env.set i (some (.d x)), F, G⟩ = .ok (.d (f x)) ⟨env.set i (some (.d x)), F, G⟩)) →
      ∃ e', lcGo env [i] cnd elt xs ⟨e, F, G⟩ = .ok ((xs.filter p).map f) ⟨e', F, G⟩
  | [], e, _ => ⟨e, rfl⟩
  | x :: r, e, h => by
    obtain ⟨h1, h2⟩ := h x (List.mem_cons_self ..)
    have ih := fun e => lcGo_pure p f r e (fun y hy => h y (List.mem_cons_of_mem _ hy))
    cases hp : p x with
    | false =>
      rw [hp] at h1
      obtain ⟨e', q⟩ := ih (env.set i (some (.d x)))
      exact ⟨e', by simp [lcGo, bindTs, h1, q, hp]⟩
    | true =>
      rw [hp] at h1
      obtain ⟨e', q⟩ := ih (env.set i (some (.d x)))
      exact ⟨e', by simp [lcGo, bindTs, h1, h2 hp, q, hp]⟩
/-- a comprehension that throws dice -/
theorem lcGo_dice {env : List (Option Val)} {i : Nat} {cnd : S → R Bool} {elt : S → R Val} {F : List Cell} (Q : D → Prop) (J : Nat → List Cell → Prop)
    (hc : ∀ s, cnd s = .ok true s) (h : ∀ x n G, J (n + 1) G → ∃ y G', elt ⟨env.set i (some (.d x)), F, G⟩ = .ok (.d y) ⟨env.set i (some (.d x)), F, G'⟩ ∧ Q y ∧ J n G') :
    ∀ (xs : List D) (e : List (Option Val)) (n : Nat) (G : List Cell), J (xs.length + n) G →
      ∃ ys e' G', lcGo env [i] cnd elt xs ⟨e, F, G⟩ = .ok ys ⟨e', F, G'⟩ ∧ ys.length = xs.length ∧ (∀ y ∈ ys, Q y) ∧ J n G'
  | [], e, n, G, j => ⟨[], e, G, rfl, rfl, by simp, by simpa using j⟩
  | x :: r, e, n, G, j => by
    obtain ⟨y, G1, h1, h2, h3⟩ := h x (r.length + n) G (by simpa [Nat.add_right_comm] using j)
    obtain ⟨ys, e', G', q1, q2, q3, q4⟩ := lcGo_dice Q J hc h r (env.set i (some (.d x))) n G1 h3
    refine ⟨y :: ys, e', G', ?_, by simp [q2], ?_, q4⟩
    · simp [lcGo, bindTs, hc, h1, q1]
    · intro z hz
      rcases List.mem_cons.mp hz with rfl | hz
      · exact h2
      · exact q3 z hz
/-- a for whose turns go on -/
theorem forGo_inv {i : Nat} {body : S → R Fl} (J : Nat → S → Prop)
    (h : ∀ x n s, J (n + 1) s → ∃ s', (body { s with env := s.env.set i (some (.d x)) } = .ok .nx s' ∨ body { s with env := s.env.set i (some (.d x)) } = .ok .ct s') ∧ J n s') :
    ∀ (xs : List D) (n : Nat) (s : S), J (xs.length + n) s → ∃ s', forGo [i] body xs s = .ok .nx s' ∧ J n s'
  | [], n, s, j => ⟨s, rfl, by simpa using j⟩
  | x :: r, n, s, j => by
    obtain ⟨s1, h1, h2⟩ := h x (r.length + n) s (by simpa [Nat.add_right_comm] using j)
    obtain ⟨s', q1, q2⟩ := forGo_inv J h r n s1 h2
    refine ⟨s', ?_, q2⟩
    rcases h1 with h1 | h1 <;> simp [forGo, bindTs, h1, q1]
/-- the same, knowing what the turns walk -/
theorem forGo_mem {i : Nat} {body : S → R Fl} (P : D → Prop) (J : Nat → S → Prop)
    (h : ∀ x n s, P x → J (n + 1) s → ∃ s', (body { s with env := s.env.set i (some (.d x)) } = .ok .nx s' ∨ body { s with env := s.env.set i (some (.d x)) } = .ok .ct s') ∧ J n s') :
    ∀ (xs : List D) (n : Nat) (s : S), (∀ x ∈ xs, P x) → J (xs.length + n) s → ∃ s', forGo [i] body xs s = .ok .nx s' ∧ J n s'
  | [], n, s, _, j => ⟨s, rfl, by simpa using j⟩
  | x :: r, n, s, hP, j => by
    obtain ⟨s1, h1, h2⟩ := h x (r.length + n) s (hP x (List.mem_cons_self ..)) (by simpa [Nat.add_right_comm] using j)
    obtain ⟨s', q1, q2⟩ := forGo_mem P J h r n s1 (fun y hy => hP y (List.mem_cons_of_mem _ hy)) h2
    refine ⟨s', ?_, q2⟩
    rcases h1 with h1 | h1 <;> simp [forGo, bindTs, h1, q1]
theorem rngL_mem {n : Int} {x : D} (h : x ∈ rngL 0 n) : ∃ i : Nat, x = .int i ∧ (i : Int) < n := by
  simp only [rngL, List.mem_map, List.mem_range] at h
  obtain ⟨i, hi, rfl⟩ := h
  exact ⟨i, by simp, by omega⟩
theorem run_s (Pg : Nat → Fn) (k f : Nat) (args : List D) (gs : List Cell) : run Pg (k + 1) f args gs = runF (run Pg k) (Pg f) args gs := rfl

/-- a shared cell that holds dice, n throws left -/
def Dice (gs : List Cell) (d n : Nat) : Prop := ∃ a b c : Int, gs[d]? = some (.lst [.int a, .int b, .int c]) ∧ 0 ≤ a ∧ a < 10 ^ 700 ∧ 0 ≤ b ∧ b < 2305843009213693921 ∧ 0 ≤ c ∧ c + n < 10 ^ 30
theorem Dice.mono {gs : List Cell} {d n m : Nat} (h : Dice gs d n) (hm : m ≤ n) : Dice gs d m := by
  obtain ⟨a, b, c, h1, h2, h3, h4, h5, h6, h7⟩ := h
  exact ⟨a, b, c, h1, h2, h3, h4, h5, h6, by omega⟩
end Mp

namespace Lw
open Mp
open PySem (Str Stmt)

/-- the i-th statement of the text -/
def tpst (i : Nat) : PySem.Stmt := PySem.Challenge.pw_goneunseen_k01_names_integers_terms_rows.main.body.getD i (.Pass ⟨0, 0, 0, 0⟩)

/-- is_name: 0 value, 1 sign -/
def c_is_name : T :=
    .cons (.ret (.and_ (.isi (.var 0) .str) (.and_ (.chain .le .le (.cst (.int 1)) (.bf .len (.cons (.var 0) (.nil))) (.gc (.int 8))) (.bf .all (.cons (.fz (.lc [1] [1] (.it (.var 0)) (.nil) (.cmp .in_ (.var 1) (.gc (.str "abcdefghijklmnopqrstuvwxyz"))))) (.nil))))))
    (.nil)

/-- is_number: 0 value -/
def c_is_number : T :=
    .cons (.ret (.and_ (.isi (.var 0) .int) (.not_ (.isi (.var 0) .bool))))
    (.nil)

/-- is_integer: 0 value -/
def c_is_integer : T :=
    .cons (.ret (.and_ (.call 1 (.cons (.var 0) (.nil))) (.chain .le .le (.gc (.int (-99999999999999999999))) (.var 0) (.gc (.int 99999999999999999999)))))
    (.nil)

/-- is_term: 0 value -/
def c_is_term : T :=
    .cons (.ret (.or_ (.call 2 (.cons (.var 0) (.nil))) (.call 0 (.cons (.var 0) (.nil)))))
    (.nil)

/-- is_row: 0 value, 1 one -/
def c_is_row : T :=
    .cons (.ret (.and_ (.isi (.var 0) .tup) (.and_ (.chain .le .le (.cst (.int 1)) (.bf .len (.cons (.var 0) (.nil))) (.gc (.int 4))) (.bf .all (.cons (.fz (.lc [1] [1] (.it (.var 0)) (.nil) (.call 2 (.cons (.var 1) (.nil))))) (.nil))))))
    (.nil)

/-- _law_dice: 0 script, 1 spot, 2 cell, 3 great, 4 blend -/
def c_law_dice : T :=
    .cons (.asg 2 (.ife (.cmp .lt (.var 1) (.bf .len (.cons (.var 0) (.nil)))) (.sub (.var 0) (.var 1)) (.bin .add (.bin .mul (.cst (.int 41)) (.var 1)) (.cst (.int 9)))))
    (.cons (.asg 3 (.bin .mod (.bf .int (.cons (.bf .abs (.cons (.var 2) (.nil))) (.nil))) (.bin .pow (.bin .pow (.cst (.int 10)) (.cst (.int 59))) (.cst (.int 11)))))
    (.cons (.asg 4 (.bin .add (.bin .add (.bin .add (.bin .mul (.var 3) (.cst (.int 3202034522624059733))) (.bin .mul (.cst (.int 83)) (.var 1))) (.bin .mul (.cst (.int 19)) (.bf .int (.cons (.cmp .lt (.var 2) (.cst (.int 0))) (.nil))))) (.cst (.int 5))))
    (.cons (.ret (.gl (.lst (.cons (.bf .max (.cons (.cst (.int 0)) (.cons (.bin .sub (.var 3) (.bin .pow (.cst (.int 10)) (.cst (.int 18)))) (.nil)))) (.cons (.bin .mod (.bf .int (.cons (.var 4) (.nil))) (.cst (.int 2305843009213693921))) (.cons (.cst (.int 0)) (.nil)))))))
    (.nil))))

/-- _law_roll: 0 dice, 1 upto, 2 one, 3 two, 4 found -/
def c_law_roll : T :=
    .cons (.ite (.cmp .gt (.sub (.var 0) (.cst (.int 0))) (.cst (.int 0))) (.cons (.asg 4 (.bin .mod (.bf .int (.cons (.sub (.var 0) (.cst (.int 0))) (.nil))) (.var 1)))
    (.cons (.seti (.var 0) (.cst (.int 0)) (.bin .fdiv (.sub (.var 0) (.cst (.int 0))) (.var 1)))
    (.cons (.ret (.var 4))
    (.nil)))) (.nil))
    (.cons (.seti (.var 0) (.cst (.int 2)) (.bin .add (.sub (.var 0) (.cst (.int 2))) (.cst (.int 1))))
    (.cons (.asg 2 (.bin .mod (.bf .int (.cons (.bin .add (.sub (.var 0) (.cst (.int 1))) (.bin .mul (.cst (.int 961748941)) (.sub (.var 0) (.cst (.int 2))))) (.nil))) (.cst (.int 67280421310679))))
    (.cons (.asg 3 (.bin .add (.bin .mul (.bin .mod (.bf .int (.cons (.bin .mul (.var 2) (.var 2)) (.nil))) (.cst (.int 576460752303423389))) (.var 2)) (.bin .mul (.cst (.int 7919)) (.sub (.var 0) (.cst (.int 2))))))
    (.cons (.ret (.bin .mod (.bf .int (.cons (.bin .fdiv (.bin .mod (.bf .int (.cons (.bin .add (.var 3) (.sub (.var 0) (.cst (.int 1)))) (.nil))) (.cst (.int 2199023255579))) (.cst (.int 128))) (.nil))) (.var 1)))
    (.nil)))))

/-- _law_pick: 0 dice, 1 items -/
def c_law_pick : T :=
    .cons (.ret (.sub (.var 1) (.call 6 (.cons (.var 0) (.cons (.bf .len (.cons (.var 1) (.nil))) (.nil))))))
    (.nil)

/-- _law_signs: 0 marks -/
def c_law_signs : T :=
    .cons (.asg 0 (.cst (.str " !\"\x23$&'()*+,-./0123456789:;<=>?\x40[\\]^_\x60{|}~\n")))
    (.cons (.ret (.bin .add (.var 0) (.cst (.str "ABCDEFGHIJKLMNOPQRSTUVWXYZ"))))
    (.nil))

/-- _law_string: 0 dice, 1 letters, 2 turn -/
def c_law_string : T :=
    .cons (.asg 1 (.mk (.lc [2] [2] (.rng (.cons (.call 6 (.cons (.var 0) (.cons (.cst (.int 10)) (.nil)))) (.nil))) (.nil) (.sub (.cst (.str "abcdefghijklmnopqrstuvwxyz")) (.call 6 (.cons (.var 0) (.cons (.cst (.int 26)) (.nil))))))))
    (.cons (.ite (.and_ (.cmp .ne (.var 1) (.fz (.lst (.nil)))) (.cmp .eq (.call 6 (.cons (.var 0) (.cons (.cst (.int 3)) (.nil)))) (.cst (.int 0)))) (.cons (.seti (.var 1) (.call 6 (.cons (.var 0) (.cons (.bf .len (.cons (.var 1) (.nil))) (.nil)))) (.call 7 (.cons (.var 0) (.cons (.call 8 (.nil)) (.nil)))))
    (.nil)) (.nil))
    (.cons (.ret (.bm .join (.cst (.str "")) (.cons (.var 1) (.nil))))
    (.nil)))

/-- _law_integer: 0 dice, 1 some, 2 one -/
def c_law_integer : T :=
    .cons (.asg 1 (.fz (.lst (.cons (.cst (.int 0)) (.cons (.cst (.int 1)) (.cons (.bin .sub (.bin .pow (.cst (.int 10)) (.cst (.int 20))) (.cst (.int 1))) (.cons (.bin .pow (.cst (.int 10)) (.cst (.int 20))) (.cons (.bin .add (.bin .pow (.cst (.int 10)) (.cst (.int 20))) (.cst (.int 1))) (.cons (.bin .sub (.bin .pow (.cst (.int 10)) (.cst (.int 40))) (.cst (.int 1))) (.cons (.call 6 (.cons (.var 0) (.cons (.bin .pow (.cst (.int 10)) (.cst (.int 20))) (.nil)))) (.cons (.call 6 (.cons (.var 0) (.cons (.cst (.int 9)) (.nil)))) (.nil))))))))))))
    (.cons (.asg 2 (.call 7 (.cons (.var 0) (.cons (.var 1) (.nil)))))
    (.cons (.ret (.ife (.cmp .eq (.call 6 (.cons (.var 0) (.cons (.cst (.int 2)) (.nil)))) (.cst (.int 0))) (.var 2) (.bin .sub (.cst (.int 0)) (.var 2))))
    (.nil)))

/-- _law_tuple: 0 dice, 1 found, 2 odd, 3 turn -/
def c_law_tuple : T :=
    .cons (.asg 1 (.mk (.lc [3] [3] (.rng (.cons (.call 6 (.cons (.var 0) (.cons (.cst (.int 6)) (.nil)))) (.nil))) (.nil) (.call 10 (.cons (.var 0) (.nil))))))
    (.cons (.ite (.and_ (.cmp .ne (.var 1) (.fz (.lst (.nil)))) (.cmp .eq (.call 6 (.cons (.var 0) (.cons (.cst (.int 2)) (.nil)))) (.cst (.int 0)))) (.cons (.asg 2 (.call 7 (.cons (.var 0) (.cons (.fz (.lst (.cons (.cst (.bl true)) (.cons (.cst (.bl false)) (.cons (.cst (.non)) (.cons (.cst (.str "a")) (.cons (.cst (.str "1")) (.cons (.tup (.cons (.cst (.int 1)) (.nil))) (.cons (.fz (.lst (.cons (.cst (.int 1)) (.nil)))) (.cons (.dct (.nil)) (.cons (.tup (.nil)) (.cons (.bin .pow (.cst (.int 10)) (.cst (.int 20))) (.nil))))))))))))) (.nil)))))
    (.cons (.seti (.var 1) (.call 6 (.cons (.var 0) (.cons (.bf .len (.cons (.var 1) (.nil))) (.nil)))) (.var 2))
    (.nil))) (.nil))
    (.cons (.ret (.bf .tuple (.cons (.var 1) (.nil))))
    (.nil)))

/-- _law_value: 0 dice, 1 way -/
def c_law_value : T :=
    .cons (.asg 1 (.call 6 (.cons (.var 0) (.cons (.cst (.int 8)) (.nil)))))
    (.cons (.ite (.cmp .lt (.var 1) (.cst (.int 2))) (.cons (.ret (.call 9 (.cons (.var 0) (.nil))))
    (.nil)) (.nil))
    (.cons (.ite (.cmp .lt (.var 1) (.cst (.int 4))) (.cons (.ret (.call 10 (.cons (.var 0) (.nil))))
    (.nil)) (.nil))
    (.cons (.ite (.cmp .lt (.var 1) (.cst (.int 6))) (.cons (.ret (.call 11 (.cons (.var 0) (.nil))))
    (.nil)) (.nil))
    (.cons (.ite (.cmp .eq (.var 1) (.cst (.int 6))) (.cons (.ret (.fz (.lof (.call 11 (.cons (.var 0) (.nil))))))
    (.nil)) (.nil))
    (.cons (.ret (.call 7 (.cons (.var 0) (.cons (.fz (.lst (.cons (.cst (.non)) (.cons (.cst (.bl true)) (.cons (.cst (.bl false)) (.cons (.dct (.nil)) (.cons (.dct (.cons (.cst (.str "a")) (.cons (.cst (.int 1)) (.nil)))) (.cons (.fz (.lst (.nil))) (.cons (.fz (.lst (.cons (.cst (.str "a")) (.nil)))) (.cons (.tup (.cons (.cst (.str "a")) (.cons (.cst (.str "b")) (.nil)))) (.cons (.tup (.cons (.tup (.cons (.cst (.int 1)) (.cons (.cst (.int 2)) (.nil)))) (.nil))) (.cons (.fz (.lst (.cons (.fz (.lst (.cons (.cst (.int 1)) (.nil)))) (.nil)))) (.cons (.dct (.cons (.cst (.int 1)) (.cons (.cst (.int 2)) (.nil)))) (.nil)))))))))))))) (.nil)))))
    (.nil))))))

/-- _law_like_name: 0 value, 1 sign -/
def c_law_like_name : T :=
    .cons (.ite (.or_ (.not_ (.isi (.var 0) .str)) (.or_ (.cmp .lt (.bf .len (.cons (.var 0) (.nil))) (.cst (.int 1))) (.cmp .gt (.bf .len (.cons (.var 0) (.nil))) (.cst (.int 8))))) (.cons (.ret (.cst (.bl false)))
    (.nil)) (.nil))
    (.cons (.ret (.cmp .eq (.fz (.lc [1] [1] (.it (.var 0)) (.cons (.cmp .notin (.var 1) (.cst (.str "abcdefghijklmnopqrstuvwxyz"))) .nil) (.var 1))) (.fz (.lst (.nil)))))
    (.nil))

/-- _law_like_integer: 0 value -/
def c_law_like_integer : T :=
    .cons (.ret (.and_ (.isi (.var 0) .int) (.and_ (.not_ (.isi (.var 0) .bool)) (.cmp .lt (.bf .len (.cons (.bf .str (.cons (.bf .abs (.cons (.var 0) (.nil))) (.nil))) (.nil))) (.cst (.int 21))))))
    (.nil)

/-- _law_like_row: 0 value, 1 one -/
def c_law_like_row : T :=
    .cons (.ite (.or_ (.not_ (.isi (.var 0) .tup)) (.or_ (.cmp .lt (.bf .len (.cons (.var 0) (.nil))) (.cst (.int 1))) (.cmp .gt (.bf .len (.cons (.var 0) (.nil))) (.cst (.int 4))))) (.cons (.ret (.cst (.bl false)))
    (.nil)) (.nil))
    (.cons (.ret (.cmp .eq (.fz (.lc [1] [1] (.it (.var 0)) (.cons (.not_ (.call 14 (.cons (.var 1) (.nil)))) .nil) (.var 1))) (.fz (.lst (.nil)))))
    (.nil))

/-- _law_right: 0 value, 1 due, 2 told, 3 name, 4 number, 5 one -/
def c_law_right : T :=
    .cons (.par 3 4 (.call 13 (.cons (.var 0) (.nil))) (.call 14 (.cons (.var 0) (.nil))))
    (.cons (.asg 1 (.fz (.lst (.cons (.var 3) (.cons (.var 4) (.cons (.or_ (.var 3) (.var 4)) (.cons (.call 15 (.cons (.var 0) (.nil))) (.nil))))))))
    (.cons (.asg 2 (.fz (.lst (.cons (.call 0 (.cons (.var 0) (.nil))) (.cons (.call 2 (.cons (.var 0) (.nil))) (.cons (.call 3 (.cons (.var 0) (.nil))) (.cons (.call 4 (.cons (.var 0) (.nil))) (.nil))))))))
    (.cons (.ret (.and_ (.cmp .eq (.fz (.lc [5] [5] (.it (.var 2)) (.nil) (.cmp .is (.var 5) (.cst (.bl true))))) (.var 1)) (.cmp .eq (.fz (.lc [5] [5] (.it (.var 2)) (.nil) (.cmp .is (.var 5) (.cst (.bl false))))) (.fz (.lc [5] [5] (.it (.var 1)) (.nil) (.not_ (.var 5)))))))
    (.nil))))

/-- law: 0 script, 1 spot, 2 some, 3 dice, 4 turn, 5 one -/
def c_law : T :=
    .cons (.for_ [1] (.rng (.cons (.bf .max (.cons (.cst (.int 1)) (.cons (.bf .min (.cons (.cst (.int 10)) (.cons (.bf .len (.cons (.var 0) (.nil))) (.nil)))) (.nil)))) (.nil))) (.cons (.asg 3 (.call 5 (.cons (.var 0) (.cons (.var 1) (.nil)))))
    (.cons (.for_ [4] (.rng (.cons (.cst (.int 6)) (.nil))) (.cons (.ite (.not_ (.call 16 (.cons (.call 12 (.cons (.var 3) (.nil))) (.nil)))) (.cons (.ret (.cst (.bl false)))
    (.nil)) (.nil))
    (.nil)))
    (.nil))))
    (.cons (.asg 2 (.fz (.lst (.cons (.cst (.str "")) (.cons (.cst (.str "a")) (.cons (.cst (.str "abcdefgh")) (.cons (.cst (.str "abcdefghi")) (.cons (.cst (.str "aB")) (.cons (.cst (.str "\n")) (.cons (.cst (.str "a b")) (.cons (.bin .sub (.bin .pow (.cst (.int 10)) (.cst (.int 20))) (.cst (.int 1))) (.cons (.bin .sub (.cst (.int 1)) (.bin .pow (.cst (.int 10)) (.cst (.int 20)))) (.cons (.bin .sub (.cst (.int 0)) (.bin .pow (.cst (.int 10)) (.cst (.int 20)))) (.cons (.cst (.bl true)) (.nil)))))))))))))))
    (.cons (.asg 2 (.bin .add (.var 2) (.fz (.lst (.cons (.tup (.cons (.cst (.int 1)) (.nil))) (.cons (.tup (.cons (.cst (.int 1)) (.cons (.cst (.int 2)) (.cons (.cst (.int 3)) (.cons (.cst (.int 4)) (.nil)))))) (.cons (.tup (.cons (.cst (.int 1)) (.cons (.cst (.int 2)) (.cons (.cst (.int 3)) (.cons (.cst (.int 4)) (.cons (.cst (.int 5)) (.nil))))))) (.cons (.tup (.nil)) (.cons (.tup (.cons (.cst (.bl true)) (.nil))) (.cons (.tup (.cons (.cst (.int 0)) (.cons (.bin .pow (.cst (.int 10)) (.cst (.int 20))) (.nil)))) (.cons (.tup (.cons (.cst (.int 0)) (.cons (.bin .sub (.cst (.int 1)) (.bin .pow (.cst (.int 10)) (.cst (.int 20)))) (.nil)))) (.nil))))))))))))
    (.cons (.asg 2 (.bin .add (.var 2) (.fz (.lst (.cons (.fz (.lst (.cons (.cst (.int 1)) (.nil)))) (.cons (.tup (.cons (.tup (.cons (.cst (.int 1)) (.nil))) (.nil))) (.cons (.cst (.non)) (.nil))))))))
    (.cons (.ret (.cmp .eq (.fz (.lc [5] [5] (.it (.var 2)) (.cons (.not_ (.call 16 (.cons (.var 5) (.nil)))) .nil) (.var 5))) (.fz (.lst (.nil)))))
    (.nil)))))

abbrev f_is_name : Nat := 0
abbrev f_is_number : Nat := 1
abbrev f_is_integer : Nat := 2
abbrev f_is_term : Nat := 3
abbrev f_is_row : Nat := 4
abbrev f_law_dice : Nat := 5
abbrev f_law_roll : Nat := 6
abbrev f_law_pick : Nat := 7
abbrev f_law_signs : Nat := 8
abbrev f_law_string : Nat := 9
abbrev f_law_integer : Nat := 10
abbrev f_law_tuple : Nat := 11
abbrev f_law_value : Nat := 12
abbrev f_law_like_name : Nat := 13
abbrev f_law_like_integer : Nat := 14
abbrev f_law_like_row : Nat := 15
abbrev f_law_right : Nat := 16
abbrev f_law : Nat := 17
def Pg : Nat → Fn
  | 0 => ⟨1, 2, c_is_name⟩
  | 1 => ⟨1, 1, c_is_number⟩
  | 2 => ⟨1, 1, c_is_integer⟩
  | 3 => ⟨1, 1, c_is_term⟩
  | 4 => ⟨1, 2, c_is_row⟩
  | 5 => ⟨2, 5, c_law_dice⟩
  | 6 => ⟨2, 5, c_law_roll⟩
  | 7 => ⟨2, 2, c_law_pick⟩
  | 8 => ⟨0, 1, c_law_signs⟩
  | 9 => ⟨1, 3, c_law_string⟩
  | 10 => ⟨1, 3, c_law_integer⟩
  | 11 => ⟨1, 4, c_law_tuple⟩
  | 12 => ⟨1, 2, c_law_value⟩
  | 13 => ⟨1, 2, c_law_like_name⟩
  | 14 => ⟨1, 1, c_law_like_integer⟩
  | 15 => ⟨1, 2, c_law_like_row⟩
  | 16 => ⟨1, 6, c_law_right⟩
  | 17 => ⟨1, 6, c_law⟩
  | _ => ⟨0, 0, .nil⟩
def fname : Nat → Str
  | 0 => "is_name"
  | 1 => "is_number"
  | 2 => "is_integer"
  | 3 => "is_term"
  | 4 => "is_row"
  | 5 => "_law_dice"
  | 6 => "_law_roll"
  | 7 => "_law_pick"
  | 8 => "_law_signs"
  | 9 => "_law_string"
  | 10 => "_law_integer"
  | 11 => "_law_tuple"
  | 12 => "_law_value"
  | 13 => "_law_like_name"
  | 14 => "_law_like_integer"
  | 15 => "_law_like_row"
  | 16 => "_law_right"
  | 17 => "law"
  | _ => ""
def P : Prg := ⟨fname, 18, [("LETTERS", .str "abcdefghijklmnopqrstuvwxyz"), ("MAX_LETTERS", .int 8), ("LEAST", .int (-99999999999999999999)), ("GREATEST", .int 99999999999999999999), ("MAX_COLUMNS", .int 4)]⟩
theorem k_is_name : fnB P ["value", "sign"] ["value"] (tpst 6) (Pg 0) = true := by decide +kernel
theorem k_is_number : fnB P ["value"] ["value"] (tpst 7) (Pg 1) = true := by decide +kernel
theorem k_is_integer : fnB P ["value"] ["value"] (tpst 8) (Pg 2) = true := by decide +kernel
theorem k_is_term : fnB P ["value"] ["value"] (tpst 9) (Pg 3) = true := by decide +kernel
theorem k_is_row : fnB P ["value", "one"] ["value"] (tpst 10) (Pg 4) = true := by decide +kernel
theorem k_law_dice : fnB P ["script", "spot", "cell", "great", "blend"] ["script", "spot"] (tpst 12) (Pg 5) = true := by decide +kernel
theorem k_law_roll : fnB P ["dice", "upto", "one", "two", "found"] ["dice", "upto"] (tpst 13) (Pg 6) = true := by decide +kernel
theorem k_law_pick : fnB P ["dice", "items"] ["dice", "items"] (tpst 14) (Pg 7) = true := by decide +kernel
theorem k_law_signs : fnB P ["marks"] [] (tpst 15) (Pg 8) = true := by decide +kernel
theorem k_law_string : fnB P ["dice", "letters", "turn"] ["dice"] (tpst 16) (Pg 9) = true := by decide +kernel
theorem k_law_integer : fnB P ["dice", "some", "one"] ["dice"] (tpst 17) (Pg 10) = true := by decide +kernel
theorem k_law_tuple : fnB P ["dice", "found", "odd", "turn"] ["dice"] (tpst 18) (Pg 11) = true := by decide +kernel
theorem k_law_value : fnB P ["dice", "way"] ["dice"] (tpst 19) (Pg 12) = true := by decide +kernel
theorem k_law_like_name : fnB P ["value", "sign"] ["value"] (tpst 20) (Pg 13) = true := by decide +kernel
theorem k_law_like_integer : fnB P ["value"] ["value"] (tpst 21) (Pg 14) = true := by decide +kernel
theorem k_law_like_row : fnB P ["value", "one"] ["value"] (tpst 22) (Pg 15) = true := by decide +kernel
theorem k_law_right : fnB P ["value", "due", "told", "name", "number", "one"] ["value"] (tpst 23) (Pg 16) = true := by decide +kernel
theorem k_law : fnB P ["script", "spot", "some", "dice", "turn", "one"] ["script"] (tpst 24) (Pg 17) = true := by decide +kernel
end Lw

namespace Lw
open Mp
open PySem (Str PyData)
abbrev Go (k f : Nat) (args : List D) (gs : List Cell) : RG := run Pg k f args gs

theorem roll {k d n : Nat} {m : Int} {gs : List Cell} (hk : 1 ≤ k) (hD : Dice gs d (n + 1)) (hm : 0 < m) (hm2 : m < 10 ^ 30) :
    ∃ r gs', run Pg k 6 [.ref d, .int m] gs = .ok (.int r) gs' ∧ 0 ≤ r ∧ r < m ∧ Dice gs' d n := by
  obtain ⟨k, rfl⟩ : ∃ j, k = j + 1 := ⟨k - 1, by omega⟩
  obtain ⟨a, b, c, h, h1, h2, h3, h4, h5, h6⟩ := hD
  have hs : ∀ y, (gs.set d y)[d]? = some y := fun y => getset h
  have hm3 : okI m = true := okI_of (by omega) (by omega)
  rw [run_s]
  by_cases h0 : 0 < a
  · refine ⟨a % m, gs.set d (.lst [.int (a / m), .int b, .int c]), ?_, Int.emod_nonneg _ (by omega), Int.emod_lt_of_pos _ hm, a / m, b, c, getset h, Int.ediv_nonneg h1 (by omega), ?_, h3, h4, h5, by omega⟩
    · simp [runF, Pg, c_law_roll, ex, ev, evs, evT, getVar, subVal, seqv, h, atI, optR, cmpop, ordI, h0, truth, bfn, binop, hm, hm3, setIx, handed]
    · exact Int.lt_of_le_of_lt (Int.ediv_le_self _ h1) h2
  · have h9 : a = 0 := by omega
    subst h9
    have k1 : okI (c + 1) = true := okI_of (by omega) (by omega)
    generalize hone : (b + 961748941 * (c + 1)) % 67280421310679 = one
    have o1 : 0 ≤ one := by omega
    have o2 : one < 67280421310679 := by omega
    have k2 : okI one = true := okI_of (by omega) (by omega)
    have k3 : okI (one * one % 576460752303423389) = true := okI_of (by omega) (by omega)
    have k4 : okI 961748941 = true := okI_of (by omega) (by omega)
    have k5 : okI 7919 = true := okI_of (by omega) (by omega)
    have k6 : okI 128 = true := okI_of (by omega) (by omega)
    refine ⟨_, gs.set d (.lst [.int 0, .int b, .int (c + 1)]), ?_, Int.emod_nonneg (((one * one % 576460752303423389 * one + 7919 * (c + 1)) + b) % 2199023255579 / 128) (by omega), Int.emod_lt_of_pos _ hm, 0, b, c + 1, getset h, by omega, h2, h3, h4, by omega, by omega⟩
    simp [runF, Pg, c_law_roll, ex, ev, evs, evT, getVar, subVal, seqv, h, atI, optR, cmpop, ordI, truth, bfn, binop, hm, hm3, setIx, handed, hs, hone, k1, k2, k3, k4, k5, k6]
end Lw

namespace Lw
open Mp
open PySem (Str PyData)
theorem dice {k sp : Nat} {ns : List Int} {gs : List Cell} (hk : 1 ≤ k) (hsp : sp < 100) :
    ∃ gs', run Pg k 5 [.scr (ns.map D.int), .int sp] gs = .ok (.ref gs.length) gs' ∧ Dice gs' gs.length (10 ^ 20) := by
  obtain ⟨k, rfl⟩ : ∃ j, k = j + 1 := ⟨k - 1, by omega⟩
  rw [run_s]
  obtain ⟨cell, hc⟩ : ∃ cell : Int, ∀ (Γ : Callee), ev Γ (.ife (.cmp .lt (.var 1) (.bf .len (.cons (.var 0) (.nil)))) (.sub (.var 0) (.var 1)) (.bin .add (.bin .mul (.cst (.int 41)) (.var 1)) (.cst (.int 9)))) ⟨[some (.d (.scr (ns.map D.int))), some (.d (.int sp)), none, none, none], [], gs⟩ = .ok (.d (.int cell)) ⟨[some (.d (.scr (ns.map D.int))), some (.d (.int sp)), none, none, none], [], gs⟩ := by
    have k1 : okI 41 = true := okI_of (by omega) (by omega)
    have k2 : okI sp = true := okI_of (by omega) (by omega)
    by_cases h : sp < ns.length
    · refine ⟨ns[sp], fun Γ => ?_⟩
      have h2 : (sp : Int) < (ns.length : Int) := by omega
      simp [ev, evs, evT, getVar, subVal, seqv, atI, optR, cmpop, ordI, truth, bfn, binop, h, h2]
    · refine ⟨41 * sp + 9, fun Γ => ?_⟩
      have h2 : ¬ (sp : Int) < (ns.length : Int) := by omega
      simp [ev, evs, evT, getVar, subVal, seqv, atI, optR, cmpop, ordI, truth, bfn, binop, h, h2, k1, k2]
  generalize hg : (if cell < 0 then -cell else cell) % (10 ^ 59) ^ 11 = great
  have g1 : 0 ≤ great := by rw [← hg]; exact Int.emod_nonneg _ (by decide)
  have g2 : great < (10 ^ 59) ^ 11 := by rw [← hg]; exact Int.emod_lt_of_pos _ (by decide)
  have k1 : okI 10 = true := okI_of (by omega) (by omega)
  have k2 : okI (10 ^ 59) = true := okI_of (by omega) (by omega)
  have k3 : okI great = true := okI_of (by omega) (by omega)
  have k4 : okI 3202034522624059733 = true := okI_of (by omega) (by omega)
  have k5 : okI 83 = true := okI_of (by omega) (by omega)
  have k6 : okI sp = true := okI_of (by omega) (by omega)
  have k7 : okI 19 = true := okI_of (by omega) (by omega)
  have k8 : okI (if cell < 0 then 1 else 0) = true := okI_of (by split <;> omega) (by split <;> omega)
  generalize hb : (great * 3202034522624059733 + 83 * (sp : Int) + 19 * (if cell < 0 then 1 else 0) + 5) % 2305843009213693921 = b
  have b1 : 0 ≤ b := by omega
  have b2 : b < 2305843009213693921 := by omega
  refine ⟨gs ++ [.lst [.int (if great - 10 ^ 18 > 0 then great - 10 ^ 18 else 0), .int b, .int 0]], ?_, (if great - 10 ^ 18 > 0 then great - 10 ^ 18 else 0), b, 0, ?_, ?_, ?_, b1, b2, by omega, by omega⟩
  · have p1 : (0 : Int) < (10 ^ 59) ^ 11 := by decide
    simp only [runF, Pg, c_law_dice, ex, List.map_cons, List.map_nil, List.length_cons, List.length_nil, List.replicate, Nat.sub_zero, Nat.reduceSub, List.cons_append, List.nil_append, if_true, hc, R.bind, List.set_cons_succ, List.set_cons_zero]
    simp [ev, evs, evF, getVar, optR, cmpop, ordI, bfn, binop, handed, toDs, k1, k2, k3, k4, k5, k6, k7, k8, p1, hg, hb, LINE, -Int.reducePow]
  · simp
  · split <;> omega
  · split <;> omega
end Lw

namespace Lw
open Mp
open PySem (Str PyData)
theorem pick {k d n : Nat} {xs : List D} {gs : List Cell} (hk : 2 ≤ k) (hD : Dice gs d (n + 1)) (h0 : 0 < xs.length) (h1 : xs.length < 1000) :
    ∃ x gs', run Pg k 7 [.ref d, .lst xs] gs = .ok x gs' ∧ x ∈ xs ∧ Dice gs' d n := by
  obtain ⟨k, rfl⟩ : ∃ j, k = j + 1 := ⟨k - 1, by omega⟩
  obtain ⟨r, gs', e, r0, r1, D'⟩ := roll (k := k) (m := xs.length) (by omega) hD (by omega) (by omega)
  have hr : r.toNat < xs.length := by omega
  refine ⟨xs[r.toNat], gs', ?_, List.getElem_mem hr, D'⟩
  rw [run_s]
  simp [runF, Pg, c_law_pick, ex, ev, evs, getVar, subVal, seqv, atI, optR, bfn, handed, callR, toDs, e, r0, hr]
theorem pickS {k d n : Nat} {z : Str} {gs : List Cell} (hk : 2 ≤ k) (hD : Dice gs d (n + 1)) (h0 : 0 < z.length) (h1 : z.length < 1000) :
    ∃ c gs', run Pg k 7 [.ref d, .str z] gs = .ok (.str ⟨#[c]⟩) gs' ∧ Dice gs' d n := by
  obtain ⟨k, rfl⟩ : ∃ j, k = j + 1 := ⟨k - 1, by omega⟩
  obtain ⟨r, gs', e, r0, r1, D'⟩ := roll (k := k) (m := z.length) (by omega) hD (by omega) (by omega)
  have hr : r.toNat < z.cps.size := by have : z.length = z.cps.size := rfl; omega
  refine ⟨z.cps[r.toNat], gs', ?_, D'⟩
  rw [run_s]
  have hL : z.length ≤ LINE := by simp only [LINE]; omega
  simp [runF, Pg, c_law_pick, ex, ev, evs, getVar, subVal, seqv, atI, optR, bfn, handed, callR, toDs, e, r0, hr, hL]
def sgn : Str := (" !\"\x23$&'()*+,-./0123456789:;<=>?\x40[\\]^_\x60{|}~\n" : Str) ++ ("ABCDEFGHIJKLMNOPQRSTUVWXYZ" : Str)
theorem sgn_len : 0 < sgn.length ∧ sgn.length < 1000 := ⟨by decide +kernel, by decide +kernel⟩
theorem signs {k : Nat} {gs : List Cell} (hk : 1 ≤ k) : run Pg k 8 [] gs = .ok (.str sgn) gs := by
  obtain ⟨k, rfl⟩ : ∃ j, k = j + 1 := ⟨k - 1, by omega⟩
  rw [run_s]
  simp only [runF, Pg, c_law_signs, ex, ev, getVar, List.length_nil, if_true, List.map_nil, List.nil_append, Nat.sub_zero, List.replicate, R.bind, List.set_cons_zero, List.getElem?_cons_zero, binop]
  rw [if_pos (by decide +kernel)]
  rfl
theorem allS_ok : ∀ (ys : List D), (∀ y ∈ ys, ∃ c, y = .str ⟨#[c]⟩) → ∃ ss, allS ys = some ss ∧ ss.length = ys.length ∧ (ss.map (·.length)).sum = ys.length
  | [], _ => ⟨[], rfl, rfl, rfl⟩
  | y :: ys, h => by
    obtain ⟨c, rfl⟩ := h y (List.mem_cons_self ..)
    obtain ⟨ss, e1, e2, e3⟩ := allS_ok ys (fun z hz => h z (List.mem_cons_of_mem _ hz))
    refine ⟨⟨#[c]⟩ :: ss, by simp [allS, e1], by simp [e2], ?_⟩
    simp only [List.map_cons, List.sum_cons, List.length_cons, e3]
    have : (Str.mk #[c]).length = 1 := rfl
    omega
/-- the letters of a text, thrown -/
theorem letters {Γ : Callee} {k d n : Nat} {xs : List D} {gs : List Cell} {env : List (Option Val)} (hk : 1 ≤ k) (hd : env[0]? = some (some (.d (.ref d)))) (hD : Dice gs d (xs.length + n)) (e : List (Option Val)) :
    ∃ ys e' gs', lcGo env [2] (evT (run Pg k) .nil) (ev (run Pg k) (.sub (.cst (.str "abcdefghijklmnopqrstuvwxyz")) (.call 6 (.cons (.var 0) (.cons (.cst (.int 26)) (.nil)))))) xs ⟨e, [], gs⟩ = .ok ys ⟨e', [], gs'⟩ ∧ ys.length = xs.length ∧ (∀ y ∈ ys, ∃ c, y = .str ⟨#[c]⟩) ∧ Dice gs' d n := by
  refine lcGo_dice (cnd := evT (run Pg k) .nil) (fun y => ∃ c, y = .str ⟨#[c]⟩) (fun n G => Dice G d n) (fun s => by simp [evT]) (fun x n G j => ?_) xs e n gs hD
  obtain ⟨r, gs', e1, r0, r1, D'⟩ := roll (k := k) (m := 26) hk j (by omega) (by omega)
  have hd2 : (env.set 2 (some (.d x)))[0]? = some (some (.d (.ref d))) := by rw [List.getElem?_set_ne (by omega)]; exact hd
  have hL : ("abcdefghijklmnopqrstuvwxyz" : Str).length = 26 := by decide +kernel
  have hr : r.toNat < ("abcdefghijklmnopqrstuvwxyz" : Str).cps.size := by have : ("abcdefghijklmnopqrstuvwxyz" : Str).length = ("abcdefghijklmnopqrstuvwxyz" : Str).cps.size := rfl; omega
  generalize ("abcdefghijklmnopqrstuvwxyz" : Str) = z at *
  refine ⟨.str ⟨#[z.cps[r.toNat]]⟩, gs', ?_, ⟨_, rfl⟩, D'⟩
  have hL : z.length ≤ LINE := by simp only [LINE]; omega
  simp [ev, evs, getVar, hd2, callR, toDs, e1, subVal, atI, r0, hr, hL, optR]
end Lw

namespace Lw
open Mp
open PySem (Str PyData)
theorem string {k d n : Nat} {gs : List Cell} (hk : 4 ≤ k) (hD : Dice gs d (n + 20)) : ∃ z gs', run Pg k 9 [.ref d] gs = .ok (.str z) gs' ∧ z.length ≤ 100 ∧ Dice gs' d n := by
  obtain ⟨k, rfl⟩ : ∃ j, k = j + 1 := ⟨k - 1, by omega⟩
  obtain ⟨r, g1, e1, r0, r1, D1⟩ := roll (k := k) (m := 10) (n := n + 19) (by omega) hD (by omega) (by omega)
  obtain ⟨ys, e', g2, e2, y1, y2, D2⟩ := letters (Γ := run Pg k) (k := k) (d := d) (n := n + 10) (xs := rngL 0 r) (gs := g1) (env := wipeE [some (.d (.ref d)), none, none] [2]) (by omega) (by simp [wipeE]) (D1.mono (by rw [rngL_len]; omega)) (e := [some (.d (.ref d)), none, none])
  rw [rngL_len] at y1
  have hy : ys.length ≤ 9 := by omega
  obtain ⟨ss, s1, s2, s3⟩ := allS_ok ys y2
  have hA : ev (run Pg k) (.mk (.lc [2] [2] (.rng (.cons (.call 6 (.cons (.var 0) (.cons (.cst (.int 10)) (.nil)))) (.nil))) (.nil) (.sub (.cst (.str "abcdefghijklmnopqrstuvwxyz")) (.call 6 (.cons (.var 0) (.cons (.cst (.int 26)) (.nil))))))) ⟨[some (.d (.ref d)), none, none], [], gs⟩ = .ok (.own 0) ⟨[some (.d (.ref d)), none, none], [.lst ys], g2⟩ := by
    have l1 : -(LINE : Int) ≤ r := by simp only [LINE]; omega
    have l2 : r ≤ (LINE : Int) := by simp only [LINE]; omega
    have l3 : (rngL 0 r).length ≤ LINE := by rw [rngL_len]; simp only [LINE]; omega
    simp [ev, evF, evI, evs, getVar, callR, toDs, e1, rngV, l1, l2, l3, e2]
  rw [run_s]
  simp only [runF, Pg, c_law_string, ex, hA, List.map_cons, List.map_nil, List.length_cons, List.length_nil, List.replicate, Nat.reduceSub, List.cons_append, List.nil_append, if_true, R.bind, List.set_cons_succ, List.set_cons_zero]
  have q0 : ("" : Str).length = 0 := by decide +kernel
  have fin : ∀ (zs : List D) (G : List Cell), zs.length ≤ 9 → (∀ y ∈ zs, ∃ c, y = .str ⟨#[c]⟩) → ∃ z, ev (run Pg k) (.bm .join (.cst (.str "")) (.cons (.var 1) (.nil))) ⟨[some (.d (.ref d)), some (.own 0), none], [.lst zs], G⟩ = .ok (.d (.str z)) ⟨[some (.d (.ref d)), some (.own 0), none], [.lst zs], G⟩ ∧ z.length ≤ 100 := by
    intro zs G h1 h2
    obtain ⟨ts, t1, t2, t3⟩ := allS_ok zs h2
    refine ⟨PySem.Builtin.Str.glued "" ts, ?_, ?_⟩
    · have h3 : (ts.map (·.length)).sum + ts.length * ("" : Str).length ≤ LINE := by rw [q0, t3]; simp only [LINE]; omega
      simp only [ev, evs, R.bind, getVar, recv, if_true, bmth, seqv, List.getElem?_cons_zero, List.getElem?_cons_succ, t1, if_pos h3]
    · rw [PySem.size_glued, q0, t3]; omega
  by_cases h0 : ys = []
  · subst h0
    obtain ⟨z, z1, z2⟩ := fin [] g2 (by simp) (by simp)
    refine ⟨z, g2, ?_, z2, D2.mono (by omega)⟩
    simp [evT, ev, evF, evs, toDs, getVar, cmpop, eq_nil0, eq_int, optR, truth, LINE, z1, handed]
  · have hyne : ys.isEmpty = false := by simpa using h0
    have hy0 : 0 < ys.length := List.length_pos_iff.mpr h0
    obtain ⟨r3, g3, e3, r30, r31, D3⟩ := roll (k := k) (m := 3) (n := n + 9) (by omega) D2 (by omega) (by omega)
    by_cases h3 : r3 = 0
    · subst h3
      obtain ⟨c, g4, e4, D4⟩ := pickS (k := k) (z := sgn) (n := n + 8) (by omega) D3 sgn_len.1 sgn_len.2
      obtain ⟨r5, g5, e5, r50, r51, D5⟩ := roll (k := k) (m := ys.length) (n := n + 7) (by omega) D4 (by omega) (by omega)
      obtain ⟨z, z1, z2⟩ := fin (ys.set r5.toNat (.str ⟨#[c]⟩)) g5 (by simpa using hy) (fun y hy' => (List.mem_or_eq_of_mem_set hy').elim (y2 y) (fun e => ⟨c, e⟩))
      refine ⟨z, g5, ?_, z2, D5.mono (by omega)⟩
      simp [evT, ev, evF, evs, toDs, getVar, cmpop, eq_nil0, eq_int, hyne, optR, truth, LINE, callR, e3, signs (k := k) (by omega), e4, bfn, seqv, e5, setIx, r50, r51, z1, handed]
    · obtain ⟨z, z1, z2⟩ := fin ys g3 hy y2
      refine ⟨z, g3, ?_, z2, D3.mono (by omega)⟩
      simp [evT, ev, evF, evs, toDs, getVar, cmpop, eq_nil0, eq_int, hyne, optR, truth, LINE, callR, e3, h3, z1, handed]
end Lw

namespace Lw
open Mp
open PySem (Str PyData)
def Item : D → Prop
  | .int i => -10 ^ 50 < i ∧ i < 10 ^ 50
  | .str z => z.length ≤ 1000
  | .non => True
  | .bl _ => True
  | .tup _ => True
  | .lst _ => True
  | .dct _ _ => True
  | _ => False
def VV (v : D) : Prop := Item v ∧ ∀ xs, v = .tup xs → xs.length ≤ 1000 ∧ ∀ x ∈ xs, Item x
theorem k10 : okI 10 = true := okI_of (by omega) (by omega)
theorem integer {k d n : Nat} {gs : List Cell} (hk : 3 ≤ k) (hD : Dice gs d (n + 4)) : ∃ i gs', run Pg k 10 [.ref d] gs = .ok (.int i) gs' ∧ -10 ^ 50 < i ∧ i < 10 ^ 50 ∧ Dice gs' d n := by
  obtain ⟨k, rfl⟩ : ∃ j, k = j + 1 := ⟨k - 1, by omega⟩
  obtain ⟨r1, g1, e1, r10, r11, D1⟩ := roll (k := k) (m := 100000000000000000000) (n := n + 3) (by omega) hD (by omega) (by omega)
  obtain ⟨r2, g2, e2, r20, r21, D2⟩ := roll (k := k) (m := 9) (n := n + 2) (by omega) D1 (by omega) (by omega)
  obtain ⟨x, g3, e3, hx, D3⟩ := pick (k := k) (n := n + 1) (xs := [.int 0, .int 1, .int 99999999999999999999, .int 100000000000000000000, .int 100000000000000000001, .int 9999999999999999999999999999999999999999, .int r1, .int r2]) (by omega) D2 (by simp) (by simp)
  obtain ⟨r4, g4, e4, r40, r41, D4⟩ := roll (k := k) (m := 2) (n := n) (by omega) D3 (by omega) (by omega)
  have hi : ∃ i, x = .int i ∧ 0 ≤ i ∧ i < 10 ^ 41 := by
    simp only [List.mem_cons, List.not_mem_nil, or_false] at hx
    rcases hx with rfl | rfl | rfl | rfl | rfl | rfl | rfl | rfl <;> exact ⟨_, rfl, by omega, by omega⟩
  obtain ⟨i, rfl, i0, i1⟩ := hi
  refine ⟨if r4 = 0 then i else 0 - i, g4, ?_, by split <;> omega, by split <;> omega, D4⟩
  rw [run_s]
  by_cases h : r4 = 0 <;> simp [runF, Pg, c_law_integer, ex, ev, evs, evT, evF, getVar, toDs, callR, binop, k10, e1, e2, LINE, e3, e4, cmpop, eq_int, h, optR, truth, handed]
theorem intsL {k d m : Nat} {xs : List D} {gs : List Cell} {env : List (Option Val)} (hk : 3 ≤ k) (hd : env[0]? = some (some (.d (.ref d)))) (hD : Dice gs d ((xs.length + 0) * 4 + m)) (e : List (Option Val)) :
    ∃ ys e' gs', lcGo env [3] (evT (run Pg k) .nil) (ev (run Pg k) (.call 10 (.cons (.var 0) (.nil)))) xs ⟨e, [], gs⟩ = .ok ys ⟨e', [], gs'⟩ ∧ ys.length = xs.length ∧ (∀ y ∈ ys, Item y) ∧ Dice gs' d (0 * 4 + m) := by
  refine lcGo_dice (cnd := evT (run Pg k) .nil) Item (fun n G => Dice G d (n * 4 + m)) (fun s => by simp [evT]) (fun x n G j => ?_) xs e 0 gs hD
  obtain ⟨i, gs', e1, i0, i1, D'⟩ := integer (k := k) (n := n * 4 + m) hk (j.mono (by omega))
  have hd2 : (env.set 3 (some (.d x)))[0]? = some (some (.d (.ref d))) := by rw [List.getElem?_set_ne (by omega)]; exact hd
  exact ⟨.int i, gs', by simp [ev, evs, getVar, hd2, callR, toDs, e1], ⟨i0, i1⟩, D'⟩
def odds : List D := [.bl true, .bl false, .non, .str "a", .str "1", .tup [.int 1], .lst [.int 1], .dct [] [], .tup [], .int 100000000000000000000]
theorem odds_ok : ∀ x ∈ odds, Item x := by
  intro x hx
  simp only [odds, List.mem_cons, List.not_mem_nil, or_false] at hx
  have h1 : ("a" : Str).length ≤ 1000 := by decide +kernel
  have h2 : ("1" : Str).length ≤ 1000 := by decide +kernel
  rcases hx with rfl | rfl | rfl | rfl | rfl | rfl | rfl | rfl | rfl | rfl <;> first | trivial | exact h1 | exact h2 | exact ⟨by omega, by omega⟩
theorem tuple {k d n : Nat} {gs : List Cell} (hk : 4 ≤ k) (hD : Dice gs d (n + 100)) : ∃ zs gs', run Pg k 11 [.ref d] gs = .ok (.tup zs) gs' ∧ zs.length ≤ 5 ∧ (∀ z ∈ zs, Item z) ∧ Dice gs' d n := by
  obtain ⟨k, rfl⟩ : ∃ j, k = j + 1 := ⟨k - 1, by omega⟩
  obtain ⟨r, g1, e1, r0, r1, D1⟩ := roll (k := k) (m := 6) (n := n + 99) (by omega) hD (by omega) (by omega)
  obtain ⟨ys, e', g2, e2, y1, y2, D2⟩ := intsL (k := k) (d := d) (m := n + 50) (xs := rngL 0 r) (gs := g1) (env := wipeE [some (.d (.ref d)), none, none, none] [3]) (by omega) (by simp [wipeE]) (D1.mono (by rw [rngL_len]; omega)) (e := [some (.d (.ref d)), none, none, none])
  rw [rngL_len] at y1
  have hy : ys.length ≤ 5 := by omega
  have hA : ev (run Pg k) (.mk (.lc [3] [3] (.rng (.cons (.call 6 (.cons (.var 0) (.cons (.cst (.int 6)) (.nil)))) (.nil))) (.nil) (.call 10 (.cons (.var 0) (.nil))))) ⟨[some (.d (.ref d)), none, none, none], [], gs⟩ = .ok (.own 0) ⟨[some (.d (.ref d)), none, none, none], [.lst ys], g2⟩ := by
    have l1 : -(LINE : Int) ≤ r := by simp only [LINE]; omega
    have l2 : r ≤ (LINE : Int) := by simp only [LINE]; omega
    have l3 : (rngL 0 r).length ≤ LINE := by rw [rngL_len]; simp only [LINE]; omega
    simp [ev, evF, evI, evs, getVar, callR, toDs, e1, rngV, l1, l2, l3, e2]
  rw [run_s]
  simp only [runF, Pg, c_law_tuple, ex, hA, List.map_cons, List.map_nil, List.length_cons, List.length_nil, List.replicate, Nat.reduceSub, List.cons_append, List.nil_append, if_true, R.bind, List.set_cons_succ, List.set_cons_zero]
  by_cases h0 : ys = []
  · subst h0
    refine ⟨[], g2, ?_, by simp, by simp, D2.mono (by omega)⟩
    simp [evT, ev, evF, evs, toDs, getVar, cmpop, eq_nil0, optR, truth, LINE, handed, bfn, seqv]
  · have hyne : ys.isEmpty = false := by simpa using h0
    have hy0 : 0 < ys.length := List.length_pos_iff.mpr h0
    obtain ⟨r3, g3, e3, r30, r31, D3⟩ := roll (k := k) (m := 2) (n := n + 9) (by omega) (D2.mono (by omega)) (by omega) (by omega)
    by_cases h3 : r3 = 0
    · subst h3
      obtain ⟨x, g4, e4, hx, D4⟩ := pick (k := k) (xs := odds) (n := n + 8) (by omega) D3 (by simp [odds]) (by simp [odds])
      have hx' := odds_ok x hx
      obtain ⟨r5, g5, e5, r50, r51, D5⟩ := roll (k := k) (m := ys.length) (n := n + 7) (by omega) D4 (by omega) (by omega)
      refine ⟨ys.set r5.toNat x, g5, ?_, by simpa using hy, fun z hz => (List.mem_or_eq_of_mem_set hz).elim (y2 z) (fun e => e ▸ hx'), D5.mono (by omega)⟩
      simp only [odds] at e4
      simp [evT, ev, evF, evs, toDs, getVar, cmpop, eq_nil0, eq_int, hyne, optR, truth, LINE, callR, e3, e4, binop, k10, pairsK, nodupK, bfn, seqv, e5, setIx, r50, r51, handed]
    · refine ⟨ys, g3, ?_, hy, y2, D3.mono (by omega)⟩
      simp [evT, ev, evF, evs, toDs, getVar, cmpop, eq_nil0, eq_int, hyne, optR, truth, LINE, callR, e3, h3, handed, bfn, seqv]
end Lw

namespace Lw
open Mp
open PySem (Str PyData)
def fixeds : List D := [.non, .bl true, .bl false, .dct [] [], .dct [.str "a"] [.int 1], .lst [], .lst [.str "a"], .tup [.str "a", .str "b"], .tup [.tup [.int 1, .int 2]], .lst [.lst [.int 1]], .dct [.int 1] [.int 2]]
theorem VV.of {v : D} (h : Item v) (n : ∀ xs, v ≠ .tup xs) : VV v := ⟨h, fun xs e => absurd e (n xs)⟩
theorem VV.tup {xs : List D} (h : xs.length ≤ 1000) (n : ∀ x ∈ xs, Item x) : VV (.tup xs) := ⟨trivial, fun ys e => by cases e; exact ⟨h, n⟩⟩
theorem fixeds_ok : ∀ x ∈ fixeds, VV x := by
  intro x hx
  have h1 : ("a" : Str).length ≤ 1000 := by decide +kernel
  have h2 : ("b" : Str).length ≤ 1000 := by decide +kernel
  simp only [fixeds, List.mem_cons, List.not_mem_nil, or_false] at hx
  rcases hx with rfl | rfl | rfl | rfl | rfl | rfl | rfl | rfl | rfl | rfl | rfl
  case inr.inr.inr.inr.inr.inr.inr.inl =>
    refine VV.tup (by simp) (fun x hx => ?_)
    simp only [List.mem_cons, List.not_mem_nil, or_false] at hx
    rcases hx with rfl | rfl
    · exact h1
    · exact h2
  case inr.inr.inr.inr.inr.inr.inr.inr.inl =>
    refine VV.tup (by simp) (fun x hx => ?_)
    simp only [List.mem_cons, List.not_mem_nil, or_false] at hx
    subst hx
    trivial
  all_goals exact VV.of trivial (fun xs e => by cases e)
theorem value {k d n : Nat} {gs : List Cell} (hk : 5 ≤ k) (hD : Dice gs d (n + 101)) : ∃ v gs', run Pg k 12 [.ref d] gs = .ok v gs' ∧ VV v ∧ Dice gs' d n := by
  obtain ⟨k, rfl⟩ : ∃ j, k = j + 1 := ⟨k - 1, by omega⟩
  obtain ⟨r, g1, e1, r0, r1, D1⟩ := roll (k := k) (m := 8) (n := n + 100) (by omega) hD (by omega) (by omega)
  rw [run_s]
  by_cases h2 : r < 2
  · obtain ⟨z, g2, e2, z1, D2⟩ := string (k := k) (n := n) (by omega) (D1.mono (by omega))
    refine ⟨.str z, g2, ?_, VV.of (show z.length ≤ 1000 by omega) (fun xs e => by cases e), D2⟩
    simp [runF, Pg, c_law_value, ex, ev, evs, evT, getVar, toDs, callR, e1, cmpop, ordI, h2, optR, truth, e2, handed]
  by_cases h4 : r < 4
  · obtain ⟨i, g2, e2, i0, i1, D2⟩ := integer (k := k) (n := n) (by omega) (D1.mono (by omega))
    refine ⟨.int i, g2, ?_, VV.of ⟨i0, i1⟩ (fun xs e => by cases e), D2⟩
    simp [runF, Pg, c_law_value, ex, ev, evs, evT, getVar, toDs, callR, e1, cmpop, ordI, h2, h4, optR, truth, e2, handed]
  by_cases h6 : r < 6
  · obtain ⟨zs, g2, e2, z0, z1, D2⟩ := tuple (k := k) (n := n) (by omega) D1
    refine ⟨.tup zs, g2, ?_, VV.tup (by omega) z1, D2⟩
    simp [runF, Pg, c_law_value, ex, ev, evs, evT, getVar, toDs, callR, e1, cmpop, ordI, h2, h4, h6, optR, truth, e2, handed]
  by_cases h7 : r = 6
  · obtain ⟨zs, g2, e2, z0, z1, D2⟩ := tuple (k := k) (n := n) (by omega) D1
    refine ⟨.lst zs, g2, ?_, VV.of trivial (fun xs e => by cases e), D2⟩
    subst h7
    simp [runF, Pg, c_law_value, ex, ev, evs, evT, evF, getVar, toDs, callR, e1, cmpop, ordI, eq_int, optR, truth, e2, handed, seqv]
  · obtain ⟨x, g2, e2, hx, D2⟩ := pick (k := k) (xs := fixeds) (n := n) (by omega) (D1.mono (by omega)) (by simp [fixeds]) (by simp [fixeds])
    refine ⟨x, g2, ?_, fixeds_ok x hx, D2⟩
    simp only [fixeds] at e2
    simp [runF, Pg, c_law_value, ex, ev, evs, evT, evF, getVar, toDs, callR, e1, cmpop, ordI, h2, h4, h6, h7, eq_int, optR, truth, LINE, pairsK, nodupK, keyD, e2, handed]
/-! the program's functions -/
def alpha : Str := "abcdefghijklmnopqrstuvwxyz"
def nameB : D → Bool
  | .str z => decide (1 ≤ z.length) && decide (z.length ≤ 8) && z.cps.toList.all (fun c => decide (c ∈ alpha.cps.toList))
  | _ => false
def intB : D → Bool
  | .int i => decide (-(10 ^ 20) < i) && decide (i < 10 ^ 20)
  | _ => false
def rowB : D → Bool
  | .tup xs => decide (1 ≤ xs.length) && decide (xs.length ≤ 4) && xs.all intB
  | _ => false
theorem is_number_ok {k : Nat} {v : D} {gs : List Cell} (hk : 1 ≤ k) (h : Item v) : run Pg k 1 [v] gs = .ok (.bl (match v with | .int _ => true | _ => false)) gs := by
  obtain ⟨k, rfl⟩ : ∃ j, k = j + 1 := ⟨k - 1, by omega⟩
  rw [run_s]
  cases v <;> first | exact h.elim | simp [runF, Pg, c_is_number, ex, ev, getVar, isTag, optR, truth, handed]
theorem is_integer_ok {k : Nat} {v : D} {gs : List Cell} (hk : 2 ≤ k) (h : Item v) : run Pg k 2 [v] gs = .ok (.bl (intB v)) gs := by
  obtain ⟨k, rfl⟩ : ∃ j, k = j + 1 := ⟨k - 1, by omega⟩
  have e := is_number_ok (k := k) (v := v) (gs := gs) (by omega) h
  rw [run_s]
  cases v <;> first | exact h.elim | skip
  case int i =>
    by_cases h1 : -99999999999999999999 ≤ i
    · have h3 : (-100000000000000000000 < i) := by omega
      by_cases h2 : i ≤ 99999999999999999999
      · have h4 : i < 100000000000000000000 := by omega
        simp [runF, Pg, c_is_integer, ex, ev, evs, getVar, toDs, callR, e, optR, truth, cmpop, ordI, h1, h2, handed, intB, h3, h4]
      · have h4 : ¬ i < 100000000000000000000 := by omega
        simp [runF, Pg, c_is_integer, ex, ev, evs, getVar, toDs, callR, e, optR, truth, cmpop, ordI, h1, h2, handed, intB, h3, h4]
    · have h3 : ¬ (-100000000000000000000 < i) := by omega
      simp [runF, Pg, c_is_integer, ex, ev, evs, getVar, toDs, callR, e, optR, truth, cmpop, ordI, h1, handed, intB, h3]
  all_goals simp [runF, Pg, c_is_integer, ex, ev, evs, getVar, toDs, callR, e, optR, truth, handed, intB]
end Lw

namespace Lw
open Mp
open PySem (Str PyData)
theorem log_small {j : Int} (h0 : 0 ≤ j) (h1 : j < 10 ^ 50) : j.natAbs.log2 < 1900 := by
  by_cases h : j.natAbs = 0
  · rw [h]; decide
  · rw [Nat.log2_lt h]
    have h2 : j.natAbs < 10 ^ 50 := by omega
    exact Nat.lt_of_lt_of_le h2 (by decide +kernel)
theorem like_integer_ok {k : Nat} {v : D} {gs : List Cell} (hk : 1 ≤ k) (h : Item v) : run Pg k 14 [v] gs = .ok (.bl (intB v)) gs := by
  obtain ⟨k, rfl⟩ : ∃ j, k = j + 1 := ⟨k - 1, by omega⟩
  rw [run_s]
  cases v <;> first | exact h.elim | skip
  case int i =>
    obtain ⟨h1, h2⟩ := h
    generalize hj : (if i < 0 then -i else i) = j
    have j0 : 0 ≤ j := by rw [← hj]; split <;> omega
    have j1 : j < 10 ^ 50 := by rw [← hj]; split <;> omega
    have hl := log_small j0 j1
    have hs : (Str.ofString (toString j)).length ≤ LINE := Nat.le_trans ((len_digits (k := 50) j0 (by decide)).mpr j1) (by decide)
    have hd := len_digits (k := 20) j0 (by decide)
    have e : intB (.int i) = decide (((Str.ofString (toString j)).length : Int) < 21) := by
      simp only [intB]
      rw [Bool.eq_iff_iff, Bool.and_eq_true, decide_eq_true_iff, decide_eq_true_iff, decide_eq_true_iff]
      have : j < 10 ^ 20 ↔ (-(10 ^ 20) < i ∧ i < 10 ^ 20) := by rw [← hj]; split <;> omega
      rw [← this, ← hd]
      omega
    rw [e]
    have hs' : (Str.ofString j.repr).length ≤ LINE := hs
    simp [runF, Pg, c_law_like_integer, ex, ev, evs, getVar, isTag, optR, truth, bfn, hj, hl, hs', cmpop, ordI, handed]
  all_goals simp [runF, Pg, c_law_like_integer, ex, ev, getVar, isTag, optR, truth, handed, intB]
def sg (c : Nat) : D := .str ⟨#[c]⟩
def inA (c : Nat) : Bool := decide (c ∈ alpha.cps.toList)
def fIn : D → D
  | .str y => .bl ((y.cps[0]?).elim false inA)
  | x => x
def pOut : D → Bool
  | .str y => !((y.cps[0]?).elim false inA)
  | _ => true
theorem in_ok (c : Nat) (s : S) : inVal (.d (sg c)) (.d (.str alpha)) s = some (inA c) := by
  simp [inVal, sg, Str.length, inA]
theorem in_ok' (c : Nat) (s : S) : inVal (.d (.str ⟨#[c]⟩)) (.d (.str alpha)) s = some (inA c) := in_ok c s
theorem lc_in {Γ : Callee} {v : D} {G : List Cell} (cs : List Nat) : ∃ e', lcGo (wipeE [some (.d v), none] [1]) [1] (evT Γ .nil) (ev Γ (.cmp .in_ (.var 1) (.gc (.str alpha)))) (cs.map sg) ⟨[some (.d v), none], [], G⟩ = .ok (cs.map fun c => .bl (inA c)) ⟨e', [], G⟩ := by
  obtain ⟨e', h⟩ := lcGo_pure (env := wipeE [some (.d v), none] [1]) (i := 1) (cnd := evT Γ .nil) (elt := ev Γ (.cmp .in_ (.var 1) (.gc (.str alpha)))) (F := []) (G := G) (fun _ => true) fIn (cs.map sg) [some (.d v), none] (fun x hx => by
    obtain ⟨c, _, rfl⟩ := List.mem_map.mp hx
    refine ⟨by simp [evT], fun _ => ?_⟩
    simp [wipeE, ev, getVar, cmpop, in_ok', optR, fIn, sg])
  refine ⟨e', h.trans ?_⟩
  rw [List.filter_eq_self.mpr (fun _ _ => rfl), List.map_map]
  congr 1

theorem lc_out {Γ : Callee} {v : D} {G : List Cell} (cs : List Nat) : ∃ e' ys, lcGo (wipeE [some (.d v), none] [1]) [1] (evT Γ (.cons (.cmp .notin (.var 1) (.cst (.str alpha))) .nil)) (ev Γ (.var 1)) (cs.map sg) ⟨[some (.d v), none], [], G⟩ = .ok ys ⟨e', [], G⟩ ∧ ys.isEmpty = cs.all inA := by
  obtain ⟨e', h⟩ := lcGo_pure (env := wipeE [some (.d v), none] [1]) (i := 1) (cnd := evT Γ (.cons (.cmp .notin (.var 1) (.cst (.str alpha))) .nil)) (elt := ev Γ (.var 1)) (F := []) (G := G) pOut id (cs.map sg) [some (.d v), none] (fun x hx => by
    obtain ⟨c, _, rfl⟩ := List.mem_map.mp hx
    refine ⟨?_, fun _ => ?_⟩
    · simp [wipeE, evT, ev, getVar, cmpop, in_ok', optR, truth, pOut, sg]
    · simp [wipeE, ev, getVar])
  refine ⟨e', _, h, ?_⟩
  rw [List.map_id]
  clear h
  induction cs with
  | nil => rfl
  | cons c cs ih =>
    simp only [List.map_cons, List.filter_cons, List.all_cons]
    cases hc : inA c <;> simp [pOut, sg, hc] at ih ⊢ <;> exact ih
theorem allB_map (cs : List Nat) : allB (cs.map fun c => .bl (inA c)) = some (cs.map inA) := by
  induction cs with
  | nil => rfl
  | cons c cs ih => simp [allB, ih]
theorem is_name_ok {k : Nat} {v : D} {gs : List Cell} (hk : 1 ≤ k) (h : Item v) : run Pg k 0 [v] gs = .ok (.bl (nameB v)) gs := by
  obtain ⟨k, rfl⟩ : ∃ j, k = j + 1 := ⟨k - 1, by omega⟩
  rw [run_s]
  cases v <;> first | exact h.elim | skip
  case str z =>
    have hL : z.length ≤ LINE := Nat.le_trans h (by decide)
    obtain ⟨e', e1⟩ := lc_in (Γ := run Pg k) (v := .str z) (G := gs) z.cps.toList
    have hz : z.cps.toList.length = z.length := rfl
    have e2 := allB_map z.cps.toList
    simp only [nameB]
    have hall : z.cps.toList.all (fun c => decide (c ∈ alpha.cps.toList)) = (z.cps.toList.map inA).all id := by rw [List.all_map]; rfl
    rw [hall]
    simp only [alpha] at e1
    have hF : ev (run Pg k) (.bf .all (.cons (.fz (.lc [1] [1] (.it (.var 0)) (.nil) (.cmp .in_ (.var 1) (.gc (.str "abcdefghijklmnopqrstuvwxyz"))))) (.nil))) ⟨[some (.d (.str z)), none], [], gs⟩ = .ok (.d (.bl ((z.cps.toList.map inA).all id))) ⟨[some (.d (.str z)), none], [], gs⟩ := by
      have e1' := e1
      simp only [show (List.map sg z.cps.toList) = z.cps.toList.map (fun c => D.str ⟨#[c]⟩) from rfl] at e1'
      have hz' : (z.cps.toList.map (fun c => D.str ⟨#[c]⟩)).length ≤ LINE := by rw [List.length_map, hz]; exact hL
      simp only [ev, evs, evF, evI, getVar, List.getElem?_cons_zero, R.bind, if_pos hL, if_pos hz', e1', bfn, seqv, e2]
    by_cases h1 : 1 ≤ z.length
    · have h1' : (1 : Int) ≤ (z.length : Int) := by omega
      by_cases h2 : z.length ≤ 8
      · have h2' : (z.length : Int) ≤ 8 := by omega
        simp only [h1, h2, decide_true, Bool.true_and]
        simp [runF, Pg, c_is_name, ex, ev, evs, hF, getVar, isTag, optR, truth, bfn, hL, cmpop, ordI, handed, h1', h2', -List.all_map, -List.all_eq_true]
      · have h2' : ¬ (z.length : Int) ≤ 8 := by omega
        simp only [h1, h2, decide_true, decide_false, Bool.true_and, Bool.false_and]
        simp [runF, Pg, c_is_name, ex, ev, evs, getVar, isTag, optR, truth, bfn, hL, cmpop, ordI, handed, h1', h2']
    · have h1' : ¬ (1 : Int) ≤ (z.length : Int) := by omega
      simp only [h1, decide_false, Bool.false_and]
      simp [runF, Pg, c_is_name, ex, ev, evs, getVar, isTag, optR, truth, bfn, hL, cmpop, ordI, handed, h1']
  all_goals simp [runF, Pg, c_is_name, ex, ev, getVar, isTag, optR, truth, handed, nameB]
end Lw

namespace Lw
open Mp
open PySem (Str PyData)
theorem like_name_ok {k : Nat} {v : D} {gs : List Cell} (hk : 1 ≤ k) (h : Item v) : run Pg k 13 [v] gs = .ok (.bl (nameB v)) gs := by
  obtain ⟨k, rfl⟩ : ∃ j, k = j + 1 := ⟨k - 1, by omega⟩
  rw [run_s]
  cases v <;> first | exact h.elim | skip
  case str z =>
    have hL : z.length ≤ LINE := Nat.le_trans h (by decide)
    obtain ⟨e', ys, e1, e2⟩ := lc_out (Γ := run Pg k) (v := .str z) (G := gs) z.cps.toList
    have hz : z.cps.toList.length = z.length := rfl
    have hall : z.cps.toList.all (fun c => decide (c ∈ alpha.cps.toList)) = ys.isEmpty := by rw [e2]; rfl
    simp only [nameB]
    rw [hall]
    simp only [alpha] at e1
    have hF : ev (run Pg k) (.fz (.lc [1] [1] (.it (.var 0)) (.cons (.cmp .notin (.var 1) (.cst (.str "abcdefghijklmnopqrstuvwxyz"))) .nil) (.var 1))) ⟨[some (.d (.str z)), none], [], gs⟩ = .ok (.d (.lst ys)) ⟨[some (.d (.str z)), none], [], gs⟩ := by
      have e1' := e1
      simp only [show (List.map sg z.cps.toList) = z.cps.toList.map (fun c => D.str ⟨#[c]⟩) from rfl] at e1'
      have hz' : (z.cps.toList.map (fun c => D.str ⟨#[c]⟩)).length ≤ LINE := by rw [List.length_map, hz]; exact hL
      simp only [ev, evF, evI, getVar, List.getElem?_cons_zero, R.bind, if_pos hL, if_pos hz', e1']
    have hN : ∀ s, ev (run Pg k) (.fz (.lst .nil)) s = .ok (.d (.lst [])) s := fun s => by simp [ev, evF, evs, toDs]
    by_cases h1 : 1 ≤ z.length
    · have h1' : ¬ (z.length : Int) < 1 := by omega
      by_cases h2 : z.length ≤ 8
      · have h2' : ¬ 8 < (z.length : Int) := by omega
        simp only [h1, h2, decide_true, Bool.true_and]
        simp [runF, Pg, c_law_like_name, ex, evT, ev.eq_def (run Pg k) (.cmp _ _ _), ev.eq_def (run Pg k) (.isi _ _), ev.eq_def (run Pg k) (.bf _ _), ev.eq_def (run Pg k) (.var _), ev.eq_def (run Pg k) (.cst _), evs, hF, hN, getVar, isTag, optR, truth, bfn, hL, cmpop, ordI, handed, h1', h2', eq_nilL]
      · have h2' : 8 < (z.length : Int) := by omega
        simp only [h1, h2, decide_true, decide_false, Bool.true_and, Bool.false_and]
        simp [runF, Pg, c_law_like_name, ex, ev, evs, evT, getVar, isTag, optR, truth, bfn, hL, cmpop, ordI, handed, h1', h2']
    · have h1' : (z.length : Int) < 1 := by omega
      simp only [h1, decide_false, Bool.false_and]
      simp [runF, Pg, c_law_like_name, ex, ev, evs, evT, getVar, isTag, optR, truth, bfn, hL, cmpop, ordI, handed, h1']
  all_goals simp [runF, Pg, c_law_like_name, ex, ev, evT, getVar, isTag, optR, truth, handed, nameB]
theorem is_term_ok {k : Nat} {v : D} {gs : List Cell} (hk : 3 ≤ k) (h : Item v) : run Pg k 3 [v] gs = .ok (.bl (intB v || nameB v)) gs := by
  obtain ⟨k, rfl⟩ : ∃ j, k = j + 1 := ⟨k - 1, by omega⟩
  have e1 := is_integer_ok (k := k) (v := v) (gs := gs) (by omega) h
  have e2 := is_name_ok (k := k) (v := v) (gs := gs) (by omega) h
  rw [run_s]
  cases hi : intB v <;> simp [runF, Pg, c_is_term, ex, ev, evs, getVar, toDs, callR, e1, e2, hi, optR, truth, handed]
theorem allB_ints (xs : List D) : allB (xs.map fun x => .bl (intB x)) = some (xs.map intB) := by
  induction xs with
  | nil => rfl
  | cons c cs ih => simp [allB, ih]
theorem is_row_ok {k : Nat} {v : D} {gs : List Cell} (hk : 3 ≤ k) (h : VV v) : run Pg k 4 [v] gs = .ok (.bl (rowB v)) gs := by
  obtain ⟨k, rfl⟩ : ∃ j, k = j + 1 := ⟨k - 1, by omega⟩
  rw [run_s]
  obtain ⟨h, ht⟩ := h
  cases v <;> first | exact h.elim | skip
  case tup xs =>
    obtain ⟨hl, hx⟩ := ht xs rfl
    obtain ⟨e', e1⟩ := lcGo_pure (env := wipeE [some (.d (.tup xs)), none] [1]) (i := 1) (cnd := evT (run Pg k) .nil) (elt := ev (run Pg k) (.call 2 (.cons (.var 1) .nil))) (F := []) (G := gs) (fun _ => true) (fun x => .bl (intB x)) xs [some (.d (.tup xs)), none] (fun x hm => by
      refine ⟨by simp [evT], fun _ => ?_⟩
      simp [wipeE, ev, evs, getVar, toDs, callR, is_integer_ok (k := k) (v := x) (gs := gs) (by omega) (hx x hm)])
    rw [List.filter_eq_self.mpr (fun _ _ => rfl)] at e1
    have e2 := allB_ints xs
    have hL : xs.length ≤ LINE := Nat.le_trans hl (by decide)
    have hall : xs.all intB = (xs.map intB).all id := by rw [List.all_map]; rfl
    simp only [rowB]
    rw [hall]
    have hF : ev (run Pg k) (.bf .all (.cons (.fz (.lc [1] [1] (.it (.var 0)) (.nil) (.call 2 (.cons (.var 1) .nil)))) (.nil))) ⟨[some (.d (.tup xs)), none], [], gs⟩ = .ok (.d (.bl ((xs.map intB).all id))) ⟨[some (.d (.tup xs)), none], [], gs⟩ := by
      simp only [ev, evs, evF, evI, getVar, List.getElem?_cons_zero, R.bind, if_pos hL, e1, bfn, seqv, e2]
    by_cases h1 : 1 ≤ xs.length
    · have h1' : (1 : Int) ≤ (xs.length : Int) := by omega
      by_cases h2 : xs.length ≤ 4
      · have h2' : (xs.length : Int) ≤ 4 := by omega
        simp only [h1, h2, decide_true, Bool.true_and]
        simp [runF, Pg, c_is_row, ex, ev, evs, hF, getVar, isTag, optR, truth, bfn, seqv, hL, cmpop, ordI, handed, h1', h2', -List.all_map, -List.all_eq_true]
      · have h2' : ¬ (xs.length : Int) ≤ 4 := by omega
        simp only [h1, h2, decide_true, decide_false, Bool.true_and, Bool.false_and]
        simp [runF, Pg, c_is_row, ex, ev, evs, getVar, isTag, optR, truth, bfn, seqv, hL, cmpop, ordI, handed, h1', h2']
    · have h1' : ¬ (1 : Int) ≤ (xs.length : Int) := by omega
      simp only [h1, decide_false, Bool.false_and]
      simp [runF, Pg, c_is_row, ex, ev, evs, getVar, isTag, optR, truth, bfn, seqv, hL, cmpop, ordI, handed, h1']
  all_goals simp [runF, Pg, c_is_row, ex, ev, getVar, isTag, optR, truth, handed, rowB]
end Lw

namespace Lw
open Mp
open PySem (Str PyData)
theorem like_row_ok {k : Nat} {v : D} {gs : List Cell} (hk : 2 ≤ k) (h : VV v) : run Pg k 15 [v] gs = .ok (.bl (rowB v)) gs := by
  obtain ⟨k, rfl⟩ : ∃ j, k = j + 1 := ⟨k - 1, by omega⟩
  rw [run_s]
  obtain ⟨h, ht⟩ := h
  cases v <;> first | exact h.elim | skip
  case tup xs =>
    obtain ⟨hl, hx⟩ := ht xs rfl
    obtain ⟨e', e1⟩ := lcGo_pure (env := wipeE [some (.d (.tup xs)), none] [1]) (i := 1) (cnd := evT (run Pg k) (.cons (.not_ (.call 14 (.cons (.var 1) (.nil)))) .nil)) (elt := ev (run Pg k) (.var 1)) (F := []) (G := gs) (fun x => !intB x) id xs [some (.d (.tup xs)), none] (fun x hm => by
      refine ⟨?_, fun _ => ?_⟩
      · simp [wipeE, evT, ev, evs, getVar, toDs, callR, like_integer_ok (k := k) (v := x) (gs := gs) (by omega) (hx x hm), optR, truth]
      · simp [wipeE, ev, getVar])
    rw [List.map_id] at e1
    have hL : xs.length ≤ LINE := Nat.le_trans hl (by decide)
    have hall : xs.all intB = (xs.filter fun x => !intB x).isEmpty := by
      clear e1 hL hx hl ht h
      induction xs with
      | nil => rfl
      | cons c cs ih =>
        simp only [List.filter_cons, List.all_cons]
        cases hc : intB c <;> simp [ih]
    simp only [rowB]
    rw [hall]
    generalize (xs.filter fun x => !intB x) = ys at *
    have hF : ev (run Pg k) (.fz (.lc [1] [1] (.it (.var 0)) (.cons (.not_ (.call 14 (.cons (.var 1) (.nil)))) .nil) (.var 1))) ⟨[some (.d (.tup xs)), none], [], gs⟩ = .ok (.d (.lst ys)) ⟨[some (.d (.tup xs)), none], [], gs⟩ := by
      simp only [ev, evF, evI, getVar, List.getElem?_cons_zero, R.bind, if_pos hL, e1]
    have hN : ∀ s, ev (run Pg k) (.fz (.lst .nil)) s = .ok (.d (.lst [])) s := fun s => by simp [ev, evF, evs, toDs]
    by_cases h1 : 1 ≤ xs.length
    · have h1' : ¬ (xs.length : Int) < 1 := by omega
      by_cases h2 : xs.length ≤ 4
      · have h2' : ¬ 4 < (xs.length : Int) := by omega
        simp only [h1, h2, decide_true, Bool.true_and]
        simp [runF, Pg, c_law_like_row, ex, evT, ev.eq_def (run Pg k) (.cmp _ _ _), ev.eq_def (run Pg k) (.isi _ _), ev.eq_def (run Pg k) (.bf _ _), ev.eq_def (run Pg k) (.var _), ev.eq_def (run Pg k) (.cst _), evs, hF, hN, getVar, isTag, optR, truth, bfn, seqv, cmpop, ordI, handed, h1', h2', eq_nilL]
      · have h2' : 4 < (xs.length : Int) := by omega
        simp only [h1, h2, decide_true, decide_false, Bool.true_and, Bool.false_and]
        simp [runF, Pg, c_law_like_row, ex, ev, evs, evT, getVar, isTag, optR, truth, bfn, seqv, cmpop, ordI, handed, h1', h2']
    · have h1' : (xs.length : Int) < 1 := by omega
      simp only [h1, decide_false, Bool.false_and]
      simp [runF, Pg, c_law_like_row, ex, ev, evs, evT, getVar, isTag, optR, truth, bfn, seqv, cmpop, ordI, handed, h1']
  all_goals simp [runF, Pg, c_law_like_row, ex, ev, evT, getVar, isTag, optR, truth, handed, rowB]
theorem right_ok {k : Nat} {v : D} {gs : List Cell} (hk : 4 ≤ k) (h : VV v) : run Pg k 16 [v] gs = .ok (.bl true) gs := by
  obtain ⟨k, rfl⟩ : ∃ j, k = j + 1 := ⟨k - 1, by omega⟩
  have e1 := like_name_ok (k := k) (gs := gs) (by omega) h.1
  have e2 := like_integer_ok (k := k) (gs := gs) (by omega) h.1
  have e3 := like_row_ok (k := k) (gs := gs) (by omega) h
  have e4 := is_name_ok (k := k) (gs := gs) (by omega) h.1
  have e5 := is_integer_ok (k := k) (gs := gs) (by omega) h.1
  have e6 := is_term_ok (k := k) (gs := gs) (by omega) h.1
  have e7 := is_row_ok (k := k) (gs := gs) (by omega) h
  rw [run_s]
  generalize nameB v = n at *
  generalize intB v = i at *
  generalize rowB v = r at *
  cases n <;> cases i <;> cases r <;>
    simp [runF, Pg, c_law_right, ex, ev, evs, evT, evF, evI, getVar, toDs, callR, e1, e2, e3, e4, e5, e6, e7, optR, truth, LINE, lcGo, bindTs, wipeE, cmpop, isVal, eqVal, Val.py, D.py, D.pys, PyData.depth, PyData.depthAll, PyData.eqv, PyData.eqvAll, handed]
end Lw

namespace Lw
open Mp
open PySem (Str PyData)
def bodyIn : T := .cons (.ite (.not_ (.call 16 (.cons (.call 12 (.cons (.var 3) (.nil))) (.nil)))) (.cons (.ret (.cst (.bl false))) (.nil)) (.nil)) (.nil)
def JIn (a : D) (d n : Nat) (s : S) : Prop := ∃ e1 e2 e4 e5 G, s = ⟨[some (.d a), e1, e2, some (.d (.ref d)), e4, e5], [], G⟩ ∧ Dice G d (n * 101)
theorem inner {k d : Nat} {a : D} (hk : 5 ≤ k) (xs : List D) (s : S) (h : JIn a d (xs.length + 0) s) : ∃ s', forGo [4] (ex (run Pg k) bodyIn) xs s = .ok .nx s' ∧ JIn a d 0 s' := by
  refine forGo_mem (fun _ => True) (JIn a d) (fun x n s _ j => ?_) xs 0 s (fun _ _ => trivial) h
  obtain ⟨e1, e2, e4, e5, G, rfl, D0⟩ := j
  obtain ⟨v, G', q1, q2, D1⟩ := value (k := k) (n := n * 101) hk (D0.mono (by omega))
  have q3 := right_ok (k := k) (gs := G') (by omega) q2
  refine ⟨⟨[some (.d a), e1, e2, some (.d (.ref d)), some (.d x), e5], [], G'⟩, .inl ?_, e1, e2, some (.d x), e5, G', rfl, D1⟩
  simp [bodyIn, ex, evT, ev, evs, getVar, toDs, callR, q1, q3, optR, truth]
def bodyOut : T := .cons (.asg 3 (.call 5 (.cons (.var 0) (.cons (.var 1) (.nil))))) (.cons (.for_ [4] (.rng (.cons (.cst (.int 6)) (.nil))) bodyIn) (.nil))
def JOut (ns : List Int) (n : Nat) (s : S) : Prop := ∃ e1 e2 e3 e4 e5 G, s = ⟨[some (.d (.scr (ns.map D.int))), e1, e2, e3, e4, e5], [], G⟩
theorem outer {k : Nat} {ns : List Int} (hk : 5 ≤ k) (xs : List D) (s : S) (hx : ∀ x ∈ xs, ∃ i : Nat, x = .int i ∧ i < 100) (h : JOut ns (xs.length + 0) s) : ∃ s', forGo [1] (ex (run Pg k) bodyOut) xs s = .ok .nx s' ∧ JOut ns 0 s' := by
  refine forGo_mem (fun x => ∃ i : Nat, x = .int i ∧ i < 100) (JOut ns) (fun x n s hx j => ?_) xs 0 s hx h
  obtain ⟨e1, e2, e3, e4, e5, G, rfl⟩ := j
  obtain ⟨i, rfl, hi⟩ := hx
  obtain ⟨G', q1, D1⟩ := dice (k := k) (ns := ns) (gs := G) (by omega) hi
  obtain ⟨s', q2, q3⟩ := inner (k := k) (a := .scr (ns.map D.int)) (d := G.length) hk (rngL 0 6) ⟨[some (.d (.scr (ns.map D.int))), some (.d (.int i)), e2, some (.d (.ref G.length)), e4, e5], [], G'⟩ ⟨_, _, _, _, _, rfl, D1.mono (by rw [rngL_len]; decide)⟩
  obtain ⟨e1', e2', e4', e5', G2, rfl, _⟩ := q3
  refine ⟨_, .inl ?_, e1', e2', some (.d (.ref G.length)), e4', e5', G2, rfl⟩
  simp [bodyOut, ex, ev, evs, evI, getVar, toDs, callR, q1, rngV, LINE, q2]
def lastL : List D := [.str "", .str "a", .str "abcdefgh", .str "abcdefghi", .str "aB", .str "\n", .str "a b", .int 99999999999999999999, .int (-99999999999999999999), .int (-100000000000000000000), .bl true,
  .tup [.int 1], .tup [.int 1, .int 2, .int 3, .int 4], .tup [.int 1, .int 2, .int 3, .int 4, .int 5], .tup [], .tup [.bl true], .tup [.int 0, .int 100000000000000000000], .tup [.int 0, .int (-99999999999999999999)], .lst [.int 1], .tup [.tup [.int 1]], .non]
def itemB : D → Bool
  | .int i => decide (-10 ^ 50 < i) && decide (i < 10 ^ 50)
  | .str z => decide (z.length ≤ 1000)
  | .non => true
  | .bl _ => true
  | .tup _ => true
  | .lst _ => true
  | .dct _ _ => true
  | _ => false
theorem item_of {v : D} (h : itemB v = true) : Item v := by
  cases v <;> simp only [itemB, Bool.and_eq_true, decide_eq_true_eq, Bool.false_eq_true] at h <;> first | trivial | exact h
def vvB : D → Bool
  | .tup xs => decide (xs.length ≤ 1000) && xs.all itemB
  | v => itemB v
theorem vv_of {v : D} (h : vvB v = true) : VV v := by
  cases v
  case tup xs =>
    simp only [vvB, Bool.and_eq_true, decide_eq_true_eq, List.all_eq_true] at h
    exact VV.tup h.1 (fun x hx => item_of (h.2 x hx))
  all_goals exact VV.of (item_of h) (fun xs e => by cases e)
theorem last_ok : ∀ x ∈ lastL, VV x := by
  have h : lastL.all vvB = true := by decide +kernel
  exact fun x hx => vv_of (List.all_eq_true.mp h x hx)
theorem law_true : ∀ ns : List Int, ns.length ≤ 63 → ∃ gs, run Lw.Pg 30 f_law [.scr (ns.map D.int)] [] = .ok (.bl true) gs := by
  intro ns _
  obtain ⟨m, hm, m1, m2⟩ : ∃ m : Int, (if (if ((ns.length : Nat) : Int) < 10 then ((ns.length : Nat) : Int) else 10) > 1 then (if ((ns.length : Nat) : Int) < 10 then ((ns.length : Nat) : Int) else 10) else 1) = m ∧ 1 ≤ m ∧ m ≤ 10 := ⟨_, rfl, by split <;> omega, by split <;> split <;> omega⟩
  obtain ⟨s', q1, e1, e2, e3, e4, e5, G, rfl⟩ := outer (k := 29) (ns := ns) (by omega) (rngL 0 m) ⟨[some (.d (.scr (ns.map D.int))), none, none, none, none, none], [], []⟩ (fun x hx => by
    obtain ⟨i, rfl, hi⟩ := rngL_mem hx
    exact ⟨i, rfl, by omega⟩) ⟨_, _, _, _, _, _, rfl⟩
  refine ⟨G, ?_⟩
  have l1 : -(LINE : Int) ≤ m := by simp only [LINE]; omega
  have l2 : m ≤ (LINE : Int) := by simp only [LINE]; omega
  have hA : ex (run Pg 29) (.for_ [1] (.rng (.cons (.bf .max (.cons (.cst (.int 1)) (.cons (.bf .min (.cons (.cst (.int 10)) (.cons (.bf .len (.cons (.var 0) (.nil))) (.nil)))) (.nil)))) (.nil))) bodyOut) ⟨[some (.d (.scr (ns.map D.int))), none, none, none, none, none], [], []⟩ = .ok .nx ⟨[some (.d (.scr (ns.map D.int))), e1, e2, e3, e4, e5], [], G⟩ := by
    simp only [ex, ev, evs, evI, getVar, bfn, seqv, rngV, R.bind, List.getElem?_cons_zero, List.length_map, hm, l1, l2, decide_true, Bool.and_self, if_true, q1]
  simp only [bodyOut, bodyIn] at hA
  obtain ⟨e', q2⟩ := lcGo_pure (env := wipeE [some (.d (.scr (ns.map D.int))), e1, some (.d (.lst lastL)), e3, e4, e5] [5]) (i := 5) (cnd := evT (run Pg 29) (.cons (.not_ (.call 16 (.cons (.var 5) (.nil)))) .nil)) (elt := ev (run Pg 29) (.var 5)) (F := []) (G := G) (fun x => false) id lastL [some (.d (.scr (ns.map D.int))), e1, some (.d (.lst lastL)), e3, e4, e5] (fun x hm => by
      refine ⟨?_, fun h => nomatch h⟩
      simp [wipeE, evT, ev, evs, getVar, toDs, callR, right_ok (k := 29) (gs := G) (by omega) (last_ok x hm), optR, truth])
  show runF (run Pg 29) (Pg 17) _ _ = _
  simp only [runF, Pg, c_law, List.map_cons, List.map_nil, List.length_cons, List.length_nil, List.replicate, Nat.reduceSub, Nat.reduceAdd, List.cons_append, List.nil_append, if_true]
  simp only [lastL] at q2
  simp [ex.eq_def (run Pg 29) (.cons _ _), ex.eq_def (run Pg 29) (.asg _ _), ex.eq_def (run Pg 29) (.ret _), ex.eq_def (run Pg 29) .nil, hA, ev, evs, evF, evI, toDs, getVar, binop, k10, lsto, LINE, q2, cmpop, eq_nilL, optR, handed]
end Lw

namespace Lw
open Mp
open PySem (Str Stmt Value Addr Heap Program)
set_option maxHeartbeats 0 in
theorem top_mk {K : PySem.W.Frag} {h : Heap} {mg : Str → Option Value} (X : K.In h) (G : h.Ns PySem.mainGlobals mg) (x_LEAST : ∃ u, mg "LEAST" = some u ∧ L2.RelV (.int (-99999999999999999999)) u) (x_GREATEST : ∃ u, mg "GREATEST" = some u ∧ L2.RelV (.int (99999999999999999999)) u)
    {f0 f1 f2 f3 f4 f5 f6 f7 f8 f9 f10 f11 f12 f13 f14 f15 f16 f17 : Addr} {od0 an0 od1 an1 od2 an2 od3 an3 od4 an4 od5 an5 od6 an6 od7 an7 od8 an8 od9 an9 od10 an10 od11 an11 od12 an12 od13 an13 od14 an14 od15 an15 od16 an16 od17 an17 : Option Addr} {sl0 sl1 sl2 sl3 sl4 sl5 sl6 sl7 sl8 sl9 sl10 sl11 sl12 sl13 sl14 sl15 sl16 sl17 : Array (Option Value)} {oc0 kV0 dc0 pm0 cd0 ct0 oc1 kV1 dc1 pm1 cd1 ct1 oc2 kV2 dc2 pm2 cd2 ct2 oc3 kV3 dc3 pm3 cd3 ct3 oc4 kV4 dc4 pm4 cd4 ct4 oc5 kV5 dc5 pm5 cd5 ct5 oc6 kV6 dc6 pm6 cd6 ct6 oc7 kV7 dc7 pm7 cd7 ct7 oc8 kV8 dc8 pm8 cd8 ct8 oc9 kV9 dc9 pm9 cd9 ct9 oc10 kV10 dc10 pm10 cd10 ct10 oc11 kV11 dc11 pm11 cd11 ct11 oc12 kV12 dc12 pm12 cd12 ct12 oc13 kV13 dc13 pm13 cd13 ct13 oc14 kV14 dc14 pm14 cd14 ct14 oc15 kV15 dc15 pm15 cd15 ct15 oc16 kV16 dc16 pm16 cd16 ct16 oc17 kV17 dc17 pm17 cd17 ct17 : Value} {t_LETTERS t_MAX_LETTERS t_MAX_COLUMNS : PySem.Tok}
    (z_len : PySem.W.nsIn K PySem.mainGlobals "len" = some none)
    (z_int : PySem.W.nsIn K PySem.mainGlobals "int" = some none)
    (z_abs : PySem.W.nsIn K PySem.mainGlobals "abs" = some none)
    (z_max : PySem.W.nsIn K PySem.mainGlobals "max" = some none)
    (z_min : PySem.W.nsIn K PySem.mainGlobals "min" = some none)
    (z_str : PySem.W.nsIn K PySem.mainGlobals "str" = some none)
    (z_tuple : PySem.W.nsIn K PySem.mainGlobals "tuple" = some none)
    (z_all : PySem.W.nsIn K PySem.mainGlobals "all" = some none)
    (z_any : PySem.W.nsIn K PySem.mainGlobals "any" = some none)
    (z_sum : PySem.W.nsIn K PySem.mainGlobals "sum" = some none)
    (z_bool : PySem.W.nsIn K PySem.mainGlobals "bool" = some none)
    (z_dict : PySem.W.nsIn K PySem.mainGlobals "dict" = some none)
    (z_list : PySem.W.nsIn K PySem.mainGlobals "list" = some none)
    (z_isinstance : PySem.W.nsIn K PySem.mainGlobals "isinstance" = some none)
    (z_range : PySem.W.nsIn K PySem.mainGlobals "range" = some none)
    (g_LETTERS : PySem.W.nsIn K PySem.mainGlobals "LETTERS" = some (some (.str "abcdefghijklmnopqrstuvwxyz" t_LETTERS)))
    (g_MAX_LETTERS : PySem.W.nsIn K PySem.mainGlobals "MAX_LETTERS" = some (some (.int 8 t_MAX_LETTERS)))
    (g_MAX_COLUMNS : PySem.W.nsIn K PySem.mainGlobals "MAX_COLUMNS" = some (some (.int 4 t_MAX_COLUMNS)))
    (a0 : PySem.W.nsIn K PySem.mainGlobals "is_name" = some (some (.ref f0)))
    (l0 : K.lookup f0 = some ⟨oc0, od0, .func (PySem.W.fnOf "is_name" "is_name" (L2.defArgs (tpst 6)) (L2.defBody (tpst 6)) (L2.defScope (tpst 6)) .none kV0 dc0 pm0 an0 cd0 ct0), sl0⟩)
    (c0 : PySem.W.codeIn K cd0 "is_name" = true)
    (k0 : PySem.W.keepIn K (.ref f0) = true)
    (a1 : PySem.W.nsIn K PySem.mainGlobals "is_number" = some (some (.ref f1)))
    (l1 : K.lookup f1 = some ⟨oc1, od1, .func (PySem.W.fnOf "is_number" "is_number" (L2.defArgs (tpst 7)) (L2.defBody (tpst 7)) (L2.defScope (tpst 7)) .none kV1 dc1 pm1 an1 cd1 ct1), sl1⟩)
    (c1 : PySem.W.codeIn K cd1 "is_number" = true)
    (k1 : PySem.W.keepIn K (.ref f1) = true)
    (a2 : PySem.W.nsIn K PySem.mainGlobals "is_integer" = some (some (.ref f2)))
    (l2 : K.lookup f2 = some ⟨oc2, od2, .func (PySem.W.fnOf "is_integer" "is_integer" (L2.defArgs (tpst 8)) (L2.defBody (tpst 8)) (L2.defScope (tpst 8)) .none kV2 dc2 pm2 an2 cd2 ct2), sl2⟩)
    (c2 : PySem.W.codeIn K cd2 "is_integer" = true)
    (k2 : PySem.W.keepIn K (.ref f2) = true)
    (a3 : PySem.W.nsIn K PySem.mainGlobals "is_term" = some (some (.ref f3)))
    (l3 : K.lookup f3 = some ⟨oc3, od3, .func (PySem.W.fnOf "is_term" "is_term" (L2.defArgs (tpst 9)) (L2.defBody (tpst 9)) (L2.defScope (tpst 9)) .none kV3 dc3 pm3 an3 cd3 ct3), sl3⟩)
    (c3 : PySem.W.codeIn K cd3 "is_term" = true)
    (k3 : PySem.W.keepIn K (.ref f3) = true)
    (a4 : PySem.W.nsIn K PySem.mainGlobals "is_row" = some (some (.ref f4)))
    (l4 : K.lookup f4 = some ⟨oc4, od4, .func (PySem.W.fnOf "is_row" "is_row" (L2.defArgs (tpst 10)) (L2.defBody (tpst 10)) (L2.defScope (tpst 10)) .none kV4 dc4 pm4 an4 cd4 ct4), sl4⟩)
    (c4 : PySem.W.codeIn K cd4 "is_row" = true)
    (k4 : PySem.W.keepIn K (.ref f4) = true)
    (a5 : PySem.W.nsIn K PySem.mainGlobals "_law_dice" = some (some (.ref f5)))
    (l5 : K.lookup f5 = some ⟨oc5, od5, .func (PySem.W.fnOf "_law_dice" "_law_dice" (L2.defArgs (tpst 12)) (L2.defBody (tpst 12)) (L2.defScope (tpst 12)) .none kV5 dc5 pm5 an5 cd5 ct5), sl5⟩)
    (c5 : PySem.W.codeIn K cd5 "_law_dice" = true)
    (k5 : PySem.W.keepIn K (.ref f5) = true)
    (a6 : PySem.W.nsIn K PySem.mainGlobals "_law_roll" = some (some (.ref f6)))
    (l6 : K.lookup f6 = some ⟨oc6, od6, .func (PySem.W.fnOf "_law_roll" "_law_roll" (L2.defArgs (tpst 13)) (L2.defBody (tpst 13)) (L2.defScope (tpst 13)) .none kV6 dc6 pm6 an6 cd6 ct6), sl6⟩)
    (c6 : PySem.W.codeIn K cd6 "_law_roll" = true)
    (k6 : PySem.W.keepIn K (.ref f6) = true)
    (a7 : PySem.W.nsIn K PySem.mainGlobals "_law_pick" = some (some (.ref f7)))
    (l7 : K.lookup f7 = some ⟨oc7, od7, .func (PySem.W.fnOf "_law_pick" "_law_pick" (L2.defArgs (tpst 14)) (L2.defBody (tpst 14)) (L2.defScope (tpst 14)) .none kV7 dc7 pm7 an7 cd7 ct7), sl7⟩)
    (c7 : PySem.W.codeIn K cd7 "_law_pick" = true)
    (k7 : PySem.W.keepIn K (.ref f7) = true)
    (a8 : PySem.W.nsIn K PySem.mainGlobals "_law_signs" = some (some (.ref f8)))
    (l8 : K.lookup f8 = some ⟨oc8, od8, .func (PySem.W.fnOf "_law_signs" "_law_signs" (L2.defArgs (tpst 15)) (L2.defBody (tpst 15)) (L2.defScope (tpst 15)) .none kV8 dc8 pm8 an8 cd8 ct8), sl8⟩)
    (c8 : PySem.W.codeIn K cd8 "_law_signs" = true)
    (k8 : PySem.W.keepIn K (.ref f8) = true)
    (a9 : PySem.W.nsIn K PySem.mainGlobals "_law_string" = some (some (.ref f9)))
    (l9 : K.lookup f9 = some ⟨oc9, od9, .func (PySem.W.fnOf "_law_string" "_law_string" (L2.defArgs (tpst 16)) (L2.defBody (tpst 16)) (L2.defScope (tpst 16)) .none kV9 dc9 pm9 an9 cd9 ct9), sl9⟩)
    (c9 : PySem.W.codeIn K cd9 "_law_string" = true)
    (k9 : PySem.W.keepIn K (.ref f9) = true)
    (a10 : PySem.W.nsIn K PySem.mainGlobals "_law_integer" = some (some (.ref f10)))
    (l10 : K.lookup f10 = some ⟨oc10, od10, .func (PySem.W.fnOf "_law_integer" "_law_integer" (L2.defArgs (tpst 17)) (L2.defBody (tpst 17)) (L2.defScope (tpst 17)) .none kV10 dc10 pm10 an10 cd10 ct10), sl10⟩)
    (c10 : PySem.W.codeIn K cd10 "_law_integer" = true)
    (k10 : PySem.W.keepIn K (.ref f10) = true)
    (a11 : PySem.W.nsIn K PySem.mainGlobals "_law_tuple" = some (some (.ref f11)))
    (l11 : K.lookup f11 = some ⟨oc11, od11, .func (PySem.W.fnOf "_law_tuple" "_law_tuple" (L2.defArgs (tpst 18)) (L2.defBody (tpst 18)) (L2.defScope (tpst 18)) .none kV11 dc11 pm11 an11 cd11 ct11), sl11⟩)
    (c11 : PySem.W.codeIn K cd11 "_law_tuple" = true)
    (k11 : PySem.W.keepIn K (.ref f11) = true)
    (a12 : PySem.W.nsIn K PySem.mainGlobals "_law_value" = some (some (.ref f12)))
    (l12 : K.lookup f12 = some ⟨oc12, od12, .func (PySem.W.fnOf "_law_value" "_law_value" (L2.defArgs (tpst 19)) (L2.defBody (tpst 19)) (L2.defScope (tpst 19)) .none kV12 dc12 pm12 an12 cd12 ct12), sl12⟩)
    (c12 : PySem.W.codeIn K cd12 "_law_value" = true)
    (k12 : PySem.W.keepIn K (.ref f12) = true)
    (a13 : PySem.W.nsIn K PySem.mainGlobals "_law_like_name" = some (some (.ref f13)))
    (l13 : K.lookup f13 = some ⟨oc13, od13, .func (PySem.W.fnOf "_law_like_name" "_law_like_name" (L2.defArgs (tpst 20)) (L2.defBody (tpst 20)) (L2.defScope (tpst 20)) .none kV13 dc13 pm13 an13 cd13 ct13), sl13⟩)
    (c13 : PySem.W.codeIn K cd13 "_law_like_name" = true)
    (k13 : PySem.W.keepIn K (.ref f13) = true)
    (a14 : PySem.W.nsIn K PySem.mainGlobals "_law_like_integer" = some (some (.ref f14)))
    (l14 : K.lookup f14 = some ⟨oc14, od14, .func (PySem.W.fnOf "_law_like_integer" "_law_like_integer" (L2.defArgs (tpst 21)) (L2.defBody (tpst 21)) (L2.defScope (tpst 21)) .none kV14 dc14 pm14 an14 cd14 ct14), sl14⟩)
    (c14 : PySem.W.codeIn K cd14 "_law_like_integer" = true)
    (k14 : PySem.W.keepIn K (.ref f14) = true)
    (a15 : PySem.W.nsIn K PySem.mainGlobals "_law_like_row" = some (some (.ref f15)))
    (l15 : K.lookup f15 = some ⟨oc15, od15, .func (PySem.W.fnOf "_law_like_row" "_law_like_row" (L2.defArgs (tpst 22)) (L2.defBody (tpst 22)) (L2.defScope (tpst 22)) .none kV15 dc15 pm15 an15 cd15 ct15), sl15⟩)
    (c15 : PySem.W.codeIn K cd15 "_law_like_row" = true)
    (k15 : PySem.W.keepIn K (.ref f15) = true)
    (a16 : PySem.W.nsIn K PySem.mainGlobals "_law_right" = some (some (.ref f16)))
    (l16 : K.lookup f16 = some ⟨oc16, od16, .func (PySem.W.fnOf "_law_right" "_law_right" (L2.defArgs (tpst 23)) (L2.defBody (tpst 23)) (L2.defScope (tpst 23)) .none kV16 dc16 pm16 an16 cd16 ct16), sl16⟩)
    (c16 : PySem.W.codeIn K cd16 "_law_right" = true)
    (k16 : PySem.W.keepIn K (.ref f16) = true)
    (a17 : PySem.W.nsIn K PySem.mainGlobals "law" = some (some (.ref f17)))
    (l17 : K.lookup f17 = some ⟨oc17, od17, .func (PySem.W.fnOf "law" "law" (L2.defArgs (tpst 24)) (L2.defBody (tpst 24)) (L2.defScope (tpst 24)) .none kV17 dc17 pm17 an17 cd17 ct17), sl17⟩)
    (c17 : PySem.W.codeIn K cd17 "law" = true)
    (k17 : PySem.W.keepIn K (.ref f17) = true) : Top P Pg K mg where
  blt := fun b => match b with | .abs => PySem.W.mg_none_of X G z_abs | .all => PySem.W.mg_none_of X G z_all | .any => PySem.W.mg_none_of X G z_any | .bool => PySem.W.mg_none_of X G z_bool | .int => PySem.W.mg_none_of X G z_int | .len => PySem.W.mg_none_of X G z_len | .max => PySem.W.mg_none_of X G z_max | .min => PySem.W.mg_none_of X G z_min | .str => PySem.W.mg_none_of X G z_str | .sum => PySem.W.mg_none_of X G z_sum | .tuple => PySem.W.mg_none_of X G z_tuple
  tgs := fun t ht => match t, ht with | .str, _ => PySem.W.mg_none_of X G z_str | .int, _ => PySem.W.mg_none_of X G z_int | .bool, _ => PySem.W.mg_none_of X G z_bool | .tup, _ => PySem.W.mg_none_of X G z_tuple | .lst, _ => PySem.W.mg_none_of X G z_list | .dct, _ => PySem.W.mg_none_of X G z_dict
  isi := PySem.W.mg_none_of X G z_isinstance
  lst := PySem.W.mg_none_of X G z_list
  rng := PySem.W.mg_none_of X G z_range
  gcs := fun p hp => by
    simp only [P, List.mem_cons, List.not_mem_nil, or_false] at hp
    rcases hp with rfl | rfl | rfl | rfl | rfl
    · exact ⟨_, .str _, PySem.W.mg_of X G g_LETTERS, ⟨_, rfl⟩, fun _ _ => .str _⟩
    · exact ⟨_, .int _, PySem.W.mg_of X G g_MAX_LETTERS, ⟨_, rfl⟩, fun _ _ => .int _⟩
    · obtain ⟨u, h1, h2⟩ := x_LEAST
      exact ⟨u, _, h1, h2, fun _ _ => .int _⟩
    · obtain ⟨u, h1, h2⟩ := x_GREATEST
      exact ⟨u, _, h1, h2, fun _ _ => .int _⟩
    · exact ⟨_, .int _, PySem.W.mg_of X G g_MAX_COLUMNS, ⟨_, rfl⟩, fun _ _ => .int _⟩
  fns := fun f hf => by
    match f, hf with
    | 0, _ => exact ⟨f0, _, tpst 6, _, _, _, PySem.W.mg_of X G a0, L2.fun_mk (st := tpst 6) l0 c0 k0, fun us hl => (match us, hl with | [_], _ => rfl), fnB_of k_is_name⟩
    | 1, _ => exact ⟨f1, _, tpst 7, _, _, _, PySem.W.mg_of X G a1, L2.fun_mk (st := tpst 7) l1 c1 k1, fun us hl => (match us, hl with | [_], _ => rfl), fnB_of k_is_number⟩
    | 2, _ => exact ⟨f2, _, tpst 8, _, _, _, PySem.W.mg_of X G a2, L2.fun_mk (st := tpst 8) l2 c2 k2, fun us hl => (match us, hl with | [_], _ => rfl), fnB_of k_is_integer⟩
    | 3, _ => exact ⟨f3, _, tpst 9, _, _, _, PySem.W.mg_of X G a3, L2.fun_mk (st := tpst 9) l3 c3 k3, fun us hl => (match us, hl with | [_], _ => rfl), fnB_of k_is_term⟩
    | 4, _ => exact ⟨f4, _, tpst 10, _, _, _, PySem.W.mg_of X G a4, L2.fun_mk (st := tpst 10) l4 c4 k4, fun us hl => (match us, hl with | [_], _ => rfl), fnB_of k_is_row⟩
    | 5, _ => exact ⟨f5, _, tpst 12, _, _, _, PySem.W.mg_of X G a5, L2.fun_mk (st := tpst 12) l5 c5 k5, fun us hl => (match us, hl with | [_, _], _ => rfl), fnB_of k_law_dice⟩
    | 6, _ => exact ⟨f6, _, tpst 13, _, _, _, PySem.W.mg_of X G a6, L2.fun_mk (st := tpst 13) l6 c6 k6, fun us hl => (match us, hl with | [_, _], _ => rfl), fnB_of k_law_roll⟩
    | 7, _ => exact ⟨f7, _, tpst 14, _, _, _, PySem.W.mg_of X G a7, L2.fun_mk (st := tpst 14) l7 c7 k7, fun us hl => (match us, hl with | [_, _], _ => rfl), fnB_of k_law_pick⟩
    | 8, _ => exact ⟨f8, _, tpst 15, _, _, _, PySem.W.mg_of X G a8, L2.fun_mk (st := tpst 15) l8 c8 k8, fun us hl => (match us, hl with | [], _ => rfl), fnB_of k_law_signs⟩
    | 9, _ => exact ⟨f9, _, tpst 16, _, _, _, PySem.W.mg_of X G a9, L2.fun_mk (st := tpst 16) l9 c9 k9, fun us hl => (match us, hl with | [_], _ => rfl), fnB_of k_law_string⟩
    | 10, _ => exact ⟨f10, _, tpst 17, _, _, _, PySem.W.mg_of X G a10, L2.fun_mk (st := tpst 17) l10 c10 k10, fun us hl => (match us, hl with | [_], _ => rfl), fnB_of k_law_integer⟩
    | 11, _ => exact ⟨f11, _, tpst 18, _, _, _, PySem.W.mg_of X G a11, L2.fun_mk (st := tpst 18) l11 c11 k11, fun us hl => (match us, hl with | [_], _ => rfl), fnB_of k_law_tuple⟩
    | 12, _ => exact ⟨f12, _, tpst 19, _, _, _, PySem.W.mg_of X G a12, L2.fun_mk (st := tpst 19) l12 c12 k12, fun us hl => (match us, hl with | [_], _ => rfl), fnB_of k_law_value⟩
    | 13, _ => exact ⟨f13, _, tpst 20, _, _, _, PySem.W.mg_of X G a13, L2.fun_mk (st := tpst 20) l13 c13 k13, fun us hl => (match us, hl with | [_], _ => rfl), fnB_of k_law_like_name⟩
    | 14, _ => exact ⟨f14, _, tpst 21, _, _, _, PySem.W.mg_of X G a14, L2.fun_mk (st := tpst 21) l14 c14 k14, fun us hl => (match us, hl with | [_], _ => rfl), fnB_of k_law_like_integer⟩
    | 15, _ => exact ⟨f15, _, tpst 22, _, _, _, PySem.W.mg_of X G a15, L2.fun_mk (st := tpst 22) l15 c15 k15, fun us hl => (match us, hl with | [_], _ => rfl), fnB_of k_law_like_row⟩
    | 16, _ => exact ⟨f16, _, tpst 23, _, _, _, PySem.W.mg_of X G a16, L2.fun_mk (st := tpst 23) l16 c16 k16, fun us hl => (match us, hl with | [_], _ => rfl), fnB_of k_law_right⟩
    | 17, _ => exact ⟨f17, _, tpst 24, _, _, _, PySem.W.mg_of X G a17, L2.fun_mk (st := tpst 24) l17 c17 k17, fun us hl => (match us, hl with | [_], _ => rfl), fnB_of k_law⟩
    | x + 18, hx => exact absurd hx (Nat.not_lt.mpr (Nat.le_add_left 18 x))
end Lw

open PySem PySem.W PyProof.Rows in
set_option maxRecDepth 100000 in
set_option maxHeartbeats 0 in
theorem PySem.Challenge.cw_goneunseen_k01_names_integers_terms_rows_holds : PySem.Challenge.rw_goneunseen_k01_names_integers_terms_rows.Holds := by
  w_on; o_law; k_head; (case hw => w_witness2)
  k_fill
  refine Mp.end_of (l := PySem.Challenge.rw_goneunseen_k01_names_integers_terms_rows) (P := Lw.P) (Pg := Lw.Pg) (RX := Mp.RX0) (lw := 17) (k := 30) rfl rfl ⟨rfl, by decide, by decide⟩ (fun w h Y => PySem.W.kIn_of Y) (by decide) rfl rfl (fun w => Mp.rx0_steady) ?T Lw.law_true
  case T =>
    intro w mg h KX G XP
    refine' Lw.top_mk KX G (Mp.loose_int XP.2 (by decide +kernel)) (Mp.loose_int XP.2 (by decide +kernel)) ?z_len ?z_int ?z_abs ?z_max ?z_min ?z_str ?z_tuple ?z_all ?z_any ?z_sum ?z_bool ?z_dict ?z_list ?z_isinstance ?z_range ?g_LETTERS ?g_MAX_LETTERS ?g_MAX_COLUMNS ?a0 ?l0 ?c0 ?k0 ?a1 ?l1 ?c1 ?k1 ?a2 ?l2 ?c2 ?k2 ?a3 ?l3 ?c3 ?k3 ?a4 ?l4 ?c4 ?k4 ?a5 ?l5 ?c5 ?k5 ?a6 ?l6 ?c6 ?k6 ?a7 ?l7 ?c7 ?k7 ?a8 ?l8 ?c8 ?k8 ?a9 ?l9 ?c9 ?k9 ?a10 ?l10 ?c10 ?k10 ?a11 ?l11 ?c11 ?k11 ?a12 ?l12 ?c12 ?k12 ?a13 ?l13 ?c13 ?k13 ?a14 ?l14 ?c14 ?k14 ?a15 ?l15 ?c15 ?k15 ?a16 ?l16 ?c16 ?k16 ?a17 ?l17 ?c17 ?k17
    (case z_len => k_is)
    (case z_int => k_is)
    (case z_abs => k_is)
    (case z_max => k_is)
    (case z_min => k_is)
    (case z_str => k_is)
    (case z_tuple => k_is)
    (case z_all => k_is)
    (case z_any => k_is)
    (case z_sum => k_is)
    (case z_bool => k_is)
    (case z_dict => k_is)
    (case z_list => k_is)
    (case z_isinstance => k_is)
    (case z_range => k_is)
    (case g_LETTERS => k_is)
    (case g_MAX_LETTERS => k_is)
    (case g_MAX_COLUMNS => k_is)
    (case a0 => k_is)
    (case l0 => k_is)
    (case c0 => k_is)
    (case k0 => k_is)
    (case a1 => k_is)
    (case l1 => k_is)
    (case c1 => k_is)
    (case k1 => k_is)
    (case a2 => k_is)
    (case l2 => k_is)
    (case c2 => k_is)
    (case k2 => k_is)
    (case a3 => k_is)
    (case l3 => k_is)
    (case c3 => k_is)
    (case k3 => k_is)
    (case a4 => k_is)
    (case l4 => k_is)
    (case c4 => k_is)
    (case k4 => k_is)
    (case a5 => k_is)
    (case l5 => k_is)
    (case c5 => k_is)
    (case k5 => k_is)
    (case a6 => k_is)
    (case l6 => k_is)
    (case c6 => k_is)
    (case k6 => k_is)
    (case a7 => k_is)
    (case l7 => k_is)
    (case c7 => k_is)
    (case k7 => k_is)
    (case a8 => k_is)
    (case l8 => k_is)
    (case c8 => k_is)
    (case k8 => k_is)
    (case a9 => k_is)
    (case l9 => k_is)
    (case c9 => k_is)
    (case k9 => k_is)
    (case a10 => k_is)
    (case l10 => k_is)
    (case c10 => k_is)
    (case k10 => k_is)
    (case a11 => k_is)
    (case l11 => k_is)
    (case c11 => k_is)
    (case k11 => k_is)
    (case a12 => k_is)
    (case l12 => k_is)
    (case c12 => k_is)
    (case k12 => k_is)
    (case a13 => k_is)
    (case l13 => k_is)
    (case c13 => k_is)
    (case k13 => k_is)
    (case a14 => k_is)
    (case l14 => k_is)
    (case c14 => k_is)
    (case k14 => k_is)
    (case a15 => k_is)
    (case l15 => k_is)
    (case c15 => k_is)
    (case k15 => k_is)
    (case a16 => k_is)
    (case l16 => k_is)
    (case c16 => k_is)
    (case k16 => k_is)
    (case a17 => k_is)
    (case l17 => k_is)
    (case c17 => k_is)
    (case k17 => k_is)
