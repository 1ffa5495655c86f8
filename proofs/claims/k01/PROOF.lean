import PyProof.Rows.All
import Wide.All
import OpenK.AllK
import Wide.FinOn
import HandS.ForMost
import HandS.Slots
import HandS.Walk
import HandS.Zip
import HandS.Conv
import HandS.Wide
import HandS.TupMul
import HandS.IsInst
import HandS.SlotsOwn
import KE.KTupSum
import HandS.Strs
import HandS.Deep
import KE.GoesNew
import PyProof.InstEq
import HandS.IterVal
import HandS.Codes
import HandS.Defaults
import HandS.EndBits
import HandS.HeadHook2
import HandS.Head0
import HandS.Head1
import HandS.Head2
import HandS.HeadEnd
import KE.KStateDown
import KE.RegMulBits
import PySem.Challenge.RW_crowdcall_k01_whole_crowds
set_option Elab.async false
set_option linter.all false
set_option maxRecDepth 100000
/-! The data, the small language and its evaluator. -/
namespace CC
open PySem

/-- values by content; obj: a box of the heap -/
inductive D where
  | non | bl (b : Bool) | int (i : Int) | str (s : Str) | tup (l : List D) | lst (l : List D) | dic (l : List D) | ins (c : Nat) (l : List D) | obj (n : Nat) | frz (l : List D) | ft (l : List D)
  deriving Inhabited

mutual
def D.py : D → Option PyData
  | .non => some .none
  | .bl b => some (.bool b)
  | .int i => some (.int i)
  | .str s => some (.str s)
  | .tup l => (D.pys l).map .tuple
  | .lst l => (D.pys l).map .list
  | .ft l => (D.pys l).map .tuple
  | _ => none
def D.pys : List D → Option (List PyData)
  | [] => some []
  | d :: r => match d.py, D.pys r with
    | some x, some xs => some (x :: xs)
    | _, _ => none
end
mutual
def D.nl : D → Bool
  | .non | .bl _ | .int _ | .str _ => true
  | .tup l => D.nls l
  | _ => false
def D.nls : List D → Bool
  | [] => true
  | d :: r => d.nl && D.nls r
end

/-- a box: a list -/
inductive O where
  | lst (l : List D)
  deriving Inhabited
abbrev Hb := List O
abbrev En := List (Option D)

inductive R (α : Type) where
  | ok (a : α) (h : Hb)
  | bad
def R.bind {α β : Type} (r : R α) (f : α → Hb → R β) : R β := match r with
  | .ok a h => f a h
  | .bad => .bad
inductive RS where
  | next (e : En) (h : Hb)
  | ret (d : D) (h : Hb)
  | brk (e : En) (h : Hb)
  | cnt (e : En) (h : Hb)
  | bad
def R.thn {α : Type} (r : R α) (f : α → Hb → RS) : RS := match r with
  | .ok a h => f a h
  | .bad => .bad
def RS.thn (r : RS) (f : En → Hb → RS) : RS := match r with
  | .next e h => f e h
  | r => r

inductive Bop where
  | add | sub | mul | fdiv | mod | pow
inductive Cop where
  | eq | ne | lt | le | gt | ge | isN | notN
inductive Bi where
  | abs | int | sum | all | any | tuple | list | tupf
inductive Ty where
  | int | bool | tuple | list | str | own (c : Nat)
inductive T where
  | one (i : Nat) | many (l : List Nat)

inductive E where
  | var (i : Nat) | mvar (i : Nat) | cst (c : Const) | glb (g : Nat)
  | bin (op : Bop) (a b : E) | neg (a : E) | not (a : E) | and (a b : E) | or (a b : E)
  | cmp (op : Cop) (a b : E) | chn (o p : Cop) (a b c : E) | ife (c a b : E)
  | tup (as : E) | lst (as : E) | nil | cons (a r : E)
  | call (f : Nat) (as : E) | meth (m : Nat) (o as : E) | mk (c : Nat) (as : E) | bi (b : Bi) (a : E) | min2 (a b : E) | isi (a : E) (t : List Ty)
  | len (a : E) | sub (a i : E) | slc (a : E) (lo hi : Option Int) | fld (f : Nat) (a : E) | prop (m : Nat) (a : E) | eqo (n : Bool) (a b : E)
  | tix (tu : Bool) (a b : E) | pop0 (a : E) | trng (a : E)
  | comp (tg : T) (own : List Nat) (it ifs elt : E)
  | comp2 (tg : T) (tg1 : T) (own own1 : List Nat) (it it1 ifs1 elt : E)
  | iseq (a : E) | iown (a : E) | irng (a : E) | ienum (a : E) | izip (a b : E)

inductive S where
  | skip | bad | seq (a b : S)
  | set (i : Nat) (e : E) | setM (i : Nat) (e : E) | setB (i : Nat) (e : E) | unp (l : List Nat) (e : E) | par (i j : Nat) (mi mj : Bool) (a b : E)
  | app (i : Nat) (e : E) | ext (i : Nat) (e : E) | ixs (i : Nat) (ix e : E) | ixa (i : Nat) (ix e : E) | aug (i : Nat) (op : Bop) (e : E)
  | sfld (c j : Nat) (e : E)
  | ift (c : E) (a b : S) | for_ (tg : T) (it : E) (b : S) | whl (c : E) (b : S) | ret (e : E) | exp (e : E)

/-! ### operations -/
instance (i j : Int) : Decidable (IntMulOk i j) := by
  unfold IntMulOk
  infer_instance
/-- tests that stick at once where a number is not known -/
instance (priority := high) dec6 (n : Int) : Decidable (n < 1000000) := decidable_of_iff (n.toNat < 1000000) (by omega)
instance (priority := high) dec6n (n : Int) : Decidable (-1000000 < n) := decidable_of_iff ((-n).toNat < 1000000) (by omega)
def binD (op : Bop) (x y : D) (h : Hb) : R D := match op, x, y with
  | .add, .int i, .int j => .ok (.int (i + j)) h
  | .add, .lst a, .lst b => if a.length + b.length ≤ 1000000 then .ok (.lst (a ++ b)) h else .bad
  | .add, .tup (a :: r), .tup (b :: q) => if r.length + q.length ≤ 1000000 then .ok (.tup ((a :: r) ++ (b :: q))) h else .bad
  | .sub, .int i, .int j => .ok (.int (i - j)) h
  | .mul, .int i, .int j => if IntMulOk i j then .ok (.int (i * j)) h else .bad
  | .mul, .lst a, .int j => if decide (a.length * j.toNat ≤ 1000000) && decide (j < 1000000) && decide (-1000000 < j) then .ok (.lst ((List.replicate j.toNat a).flatten)) h else .bad
  | .mul, .tup a, .int j => if decide (1 < j) && decide (j ≤ 1000) && decide (0 < a.length) && decide (a.length ≤ 1000) then .ok (.tup ((List.replicate j.toNat a).flatten)) h else .bad
  | .fdiv, .int i, .int j => if decide (j ≠ 0) && decide (j.natAbs.log2 < 9000) then .ok (.int (i.fdiv j)) h else .bad
  | .mod, .int i, .int j => if j ≠ 0 then .ok (.int (i.fmod j)) h else .bad
  | .pow, .int i, .int j => if decide (0 ≤ j) && decide (j ≤ 1000) && decide (i.natAbs < 1000) then .ok (.int (i ^ j.toNat)) h else .bad
  | _, _, _ => .bad
/-- a box's content in the place of the box -/
def viewD (h : Hb) : D → D
  | .obj n => match h[n]? with
    | some (.lst l) => .lst l
    | none => .obj n
  | .ft l => .tup l
  | d => d
def dEq (x y : D) : Option Bool := match x.py, y.py with
  | some a, some b => if SeqAt.shaped a && SeqAt.shaped b then some (PyData.eqv a b) else none
  | _, _ => none
def D.isL : D → Bool
  | .lst _ => true
  | _ => false
def D.isN : D → Bool
  | .non => true
  | _ => false
def cmpD (op : Cop) (x y : D) (h : Hb) : R D := match op, x, y with
  | .lt, .int i, .int j => .ok (.bl (decide (i < j))) h
  | .le, .int i, .int j => .ok (.bl (decide (i ≤ j))) h
  | .gt, .int i, .int j => .ok (.bl (decide (j < i))) h
  | .ge, .int i, .int j => .ok (.bl (decide (j ≤ i))) h
  | .eq, x, y => match dEq (viewD h x) (viewD h y) with
    | some b => .ok (.bl b) h
    | none => .bad
  | .ne, x, y => match dEq (viewD h x) (viewD h y) with
    | some b => .ok (.bl (!b)) h
    | none => .bad
  | .isN, x, _ => .ok (.bl x.isN) h
  | .notN, x, _ => .ok (.bl (!x.isN)) h
  | _, _, _ => .bad
def dInts : List D → Option (List Int)
  | [] => some []
  | .int i :: r => (dInts r).map (i :: ·)
  | _ :: _ => none
def bools : List D → Option (List Bool)
  | [] => some []
  | .bl b :: r => (bools r).map (b :: ·)
  | _ :: _ => none
def biD (b : Bi) (x : D) (h : Hb) : R D := match b, x with
  | .abs, .int i => .ok (.int (if i < 0 then -i else i)) h
  | .int, .int i => .ok (.int i) h
  | .sum, d => match viewD h d with
    | .lst l => match dInts l with
      | some ns => .ok (.int ns.sum) h
      | none => .bad
    | .tup l => match dInts l with
      | some ns => .ok (.int ns.sum) h
      | none => .bad
    | _ => .bad
  | .all, .lst l => match bools l with
    | some bs => .ok (.bl (bs.all id)) h
    | none => .bad
  | .any, .lst l => match bools l with
    | some bs => .ok (.bl (bs.any id)) h
    | none => .bad
  | .tuple, d => match viewD h d with
    | .lst l => .ok (.tup l) h
    | .tup l => .ok (.tup l) h
    | _ => .bad
  | .list, d => match viewD h d with
    | .lst l => .ok (.lst l) h
    | .tup l => .ok (.lst l) h
    | _ => .bad
  | .tupf, d => match viewD h d with
    | .lst l => .ok (.ft l) h
    | _ => .bad
  | _, _ => .bad
def isTy (t : Ty) (d : D) : Bool := match t, d with
  | .int, .int _ => true
  | .int, .bl _ => true
  | .bool, .bl _ => true
  | .tuple, .tup _ => true
  | .tuple, .ft _ => true
  | .list, .lst _ => true
  | .list, .obj _ => true
  | .list, .frz _ => true
  | .str, .str _ => true
  | .own c, .ins c' _ => c == c'
  | _, _ => false
def subD (x i : D) (h : Hb) : R D := match viewD h x, i with
  | .lst l, .int i => match L2.ixN l.length i with
    | some j => match l[j]? with | some d => .ok d h | none => .bad
    | none => .bad
  | .tup l, .int i => match L2.ixN l.length i with
    | some j => match l[j]? with | some d => .ok d h | none => .bad
    | none => .bad
  | _, _ => .bad
def cutD (l : List D) (lo hi : Option Int) : List D := (l.drop (HT.sIx l.length 0 lo)).take (HT.sIx l.length l.length hi - HT.sIx l.length 0 lo)
def slcD (x : D) (lo hi : Option Int) (h : Hb) : R D := match x with
  | .lst l => .ok (.lst (cutD l lo hi)) h
  | .frz l => .ok (.lst (cutD l lo hi)) h
  | .tup l => if HT.sIx l.length 0 lo = 0 ∧ HT.sIx l.length l.length hi = l.length then .bad else .ok (.tup (cutD l lo hi)) h
  | _ => .bad
/-- the first place with an equal item -/
def idxP (p : PyData) : List PyData → Nat → Option Nat
  | [], _ => none
  | q :: r, n => if PyData.eqv q p then some n else idxP p r (n + 1)
def tixL (l : List D) (y : D) (h : Hb) : R D := match D.pys l, y.py with
  | some ps, some p => if SeqAt.shaped (.list ps) && SeqAt.shaped p then (match idxP p ps 0 with | some n => .ok (.int n) h | none => .bad) else .bad
  | _, _ => .bad
def tixD (tu : Bool) (x y : D) (h : Hb) : R D := match tu, x with
  | true, .ft l => tixL l y h
  | false, .lst l => tixL l y h
  | _, _ => .bad
def pop0D (x : D) (h : Hb) : R D := match x with
  | .obj n => match h[n]? with
    | some (.lst (d :: r)) => .ok d (h.set n (.lst r))
    | _ => .bad
  | _ => .bad
def enumD : Nat → List D → List D
  | _, [] => []
  | n, d :: r => .tup [.int n, d] :: enumD (n + 1) r
def zipD : List D → List D → List D
  | a :: r, b :: q => .tup [a, b] :: zipD r q
  | _, _ => []
def seqD (x : D) : Option (List D) := match x with
  | .lst l => some l
  | .tup l => some l
  | .ft l => some l
  | _ => none
def rngD (n : Int) : List D := (List.range n.toNat).map fun i => .int (i : Nat)
def wipeE (e : En) : List Nat → En
  | [] => e
  | i :: r => (wipeE e r).set i none
def putT (tg : T) (d : D) (e : En) : Option En := match tg with
  | .one i => some (e.set i (some d))
  | .many l => match d with
    | .tup ds => if ds.length = l.length then some ((l.zip ds).foldl (fun e p => e.set p.1 (some p.2)) e) else none
    | _ => none
def catL (f : D → Hb → R (List D)) : List D → Hb → R (List D)
  | [], h => .ok [] h
  | x :: r, h => (f x h).bind fun a h => (catL f r h).bind fun l h => .ok (a ++ l) h
def longD (l : List D) (h : Hb) : R D := if l.length ≤ 1000000 then .ok (.lst l) h else .bad
def forL (f : D → En → Hb → RS) : List D → En → Hb → RS
  | [], e, h => .next e h
  | x :: r, e, h => match f x e h with
    | .next e h => forL f r e h
    | .cnt e h => forL f r e h
    | .brk e h => .next e h
    | .ret d h => .ret d h
    | .bad => .bad
def whlL (c : En → Hb → R D) (f : En → Hb → RS) : Nat → En → Hb → RS
  | 0, _, _ => .bad
  | n + 1, e, h => (c e h).thn fun d h => match d with
    | .bl true => (match f e h with
      | .next e h => whlL c f n e h
      | .cnt e h => whlL c f n e h
      | .brk e h => .next e h
      | .ret d h => .ret d h
      | .bad => .bad)
    | .bl false => .next e h
    | _ => .bad
def argsD : D → List D
  | .tup l => l
  | _ => []
/-- what the evaluator asks of the program: calls, makings, the module's constants -/
structure Pg where
  call : Nat → List D → Hb → R D
  make : Nat → List D → Hb → R D
  glb : Nat → Option D
  fix : Nat → Nat → Option Nat
  mth : Nat → Nat → Option Nat
  prp : Nat → Nat → Option Nat
  itf : Nat → Option Nat
def mLen : Nat := 0
def mIter : Nat := 1
def mEq : Nat := 2
def methD (G : Pg) (m : Nat) (x : D) (as : List D) (h : Hb) : R D := match x with
  | .ins c _ => (match G.mth c m with | some f => G.call f (x :: as) h | none => .bad)
  | _ => .bad
def propD (G : Pg) (m : Nat) (x : D) (h : Hb) : R D := match x with
  | .ins c _ => (match G.prp c m with | some f => G.call f [x] h | none => .bad)
  | _ => .bad
def lenD (G : Pg) (x : D) (h : Hb) : R D := match viewD h x with
  | .lst l => .ok (.int l.length) h
  | .tup l => .ok (.int l.length) h
  | .ins _ _ => (methD G mLen x [] h).bind fun y h => (match y with | .int i => if 0 ≤ i ∧ i < 1000000 then .ok (.int i) h else .bad | _ => .bad)
  | _ => .bad
/-- == and != by an own __eq__ -/
def eqoD (G : Pg) (n : Bool) (x y : D) (h : Hb) : R D := match y with
  | .ins _ _ => (methD G mEq x [y] h).bind fun z h => (match z with | .bl k => .ok (.bl (n != k)) h | _ => .bad)
  | _ => .bad
/-- what an own __iter__ walks -/
def iownD (G : Pg) (x : D) (h : Hb) : R D := match x with
  | .ins c l => (match G.itf c with
    | some j => (match l[j]? with
      | some d => (match seqD d with | some m => .ok (.tup m) h | none => .bad)
      | none => .bad)
    | none => .bad)
  | _ => .bad
/-- what a loop walks -/
def iterD (x : D) (h : Hb) : R (List D) := match x with
  | .lst l => .ok l h
  | .tup l => .ok l h
  | .ft l => .ok l h
  | _ => .bad

section
variable (G : Pg)
def ev : E → En → Hb → R D
  | .var i, e, h => match e[i]? with | some (some d) => .ok d h | _ => .bad
  | .mvar i, e, h => match e[i]? with | some (some (.lst l)) => .ok (.lst l) h | _ => .bad
  | .cst c, _, h => match c with
    | .none => .ok .non h
    | .bool b => .ok (.bl b) h
    | .int i => .ok (.int i) h
    | .str s => .ok (.str s) h
    | _ => .bad
  | .glb g, _, h => match G.glb g with | some d => .ok d h | none => .bad
  | .bin op a b, e, h => (ev a e h).bind fun x h => (ev b e h).bind fun y h => binD op x y h
  | .neg a, e, h => (ev a e h).bind fun x h => match x with | .int i => .ok (.int (-i)) h | _ => .bad
  | .not a, e, h => (ev a e h).bind fun x h => match x with | .bl b => .ok (.bl (!b)) h | _ => .bad
  | .and a b, e, h => (ev a e h).bind fun x h => match x with
    | .bl true => (ev b e h).bind fun y h => match y with | .bl b => .ok (.bl b) h | _ => .bad
    | .bl false => .ok (.bl false) h
    | _ => .bad
  | .or a b, e, h => (ev a e h).bind fun x h => match x with
    | .bl false => (ev b e h).bind fun y h => match y with | .bl b => .ok (.bl b) h | _ => .bad
    | .bl true => .ok (.bl true) h
    | _ => .bad
  | .cmp op a b, e, h => (ev a e h).bind fun x h => (ev b e h).bind fun y h => cmpD op x y h
  | .chn o p a b c, e, h => (ev a e h).bind fun x h => (ev b e h).bind fun y h => (cmpD o x y h).bind fun z h => match z with
    | .bl true => (ev c e h).bind fun w h => cmpD p y w h
    | .bl false => .ok (.bl false) h
    | _ => .bad
  | .ife c a b, e, h => (ev c e h).bind fun x h => match x with
    | .bl true => ev a e h
    | .bl false => ev b e h
    | _ => .bad
  | .tup as, e, h => (ev as e h).bind fun x h => .ok (.tup (argsD x)) h
  | .lst as, e, h => (ev as e h).bind fun x h => .ok (.lst (argsD x)) h
  | .nil, _, h => .ok (.tup []) h
  | .cons a r, e, h => (ev a e h).bind fun x h => (ev r e h).bind fun y h => .ok (.tup (x :: argsD y)) h
  | .call f as, e, h => (ev as e h).bind fun x h => G.call f (argsD x) h
  | .meth m o as, e, h => (ev o e h).bind fun y h => (ev as e h).bind fun x h => methD G m y (argsD x) h
  | .mk c as, e, h => (ev as e h).bind fun x h => G.make c (argsD x) h
  | .bi b a, e, h => (ev a e h).bind fun x h => biD b x h
  | .min2 a b, e, h => (ev a e h).bind fun x h => (ev b e h).bind fun y h => match x, y with | .int i, .int j => .ok (.int (if j < i then j else i)) h | _, _ => .bad
  | .isi a t, e, h => (ev a e h).bind fun x h => .ok (.bl (t.any fun t => isTy t x)) h
  | .len a, e, h => (ev a e h).bind fun x h => lenD G x h
  | .sub a i, e, h => (ev a e h).bind fun x h => (ev i e h).bind fun y h => subD x y h
  | .slc a lo hi, e, h => (ev a e h).bind fun x h => slcD x lo hi h
  | .fld f a, e, h => (ev a e h).bind fun x h => match x with
    | .ins c l => (match G.fix c f with | some i => (match l[i]? with | some d => .ok d h | none => .bad) | none => .bad)
    | _ => .bad
  | .prop m a, e, h => (ev a e h).bind fun x h => propD G m x h
  | .eqo n a b, e, h => (ev a e h).bind fun x h => (ev b e h).bind fun y h => eqoD G n x y h
  | .tix tu a b, e, h => (ev a e h).bind fun x h => (ev b e h).bind fun y h => tixD tu x y h
  | .pop0 a, e, h => (ev a e h).bind fun x h => pop0D x h
  | .trng a, e, h => (ev a e h).bind fun x h => match x with | .int n => if n < 1000000 ∧ -1000000 < n then .ok (.tup (rngD n)) h else .bad | _ => .bad
  | .comp tg own it ifs elt, e, h => (ev it e h).bind fun x h => (catL (fun d h => match putT tg d (wipeE e own) with
      | none => .bad
      | some e' => (ev ifs e' h).bind fun c h => match c with
        | .bl true => (ev elt e' h).bind fun y h => .ok [y] h
        | .bl false => .ok [] h
        | _ => .bad) (argsD x) h).bind fun l h => longD l h
  | .comp2 tg tg1 own own1 it it1 ifs1 elt, e, h => (ev it e h).bind fun x h => (catL (fun d h => match putT tg d (wipeE e own) with
      | none => .bad
      | some e' => (ev it1 e' h).bind fun x1 h => catL (fun d1 h => match putT tg1 d1 (wipeE e' own1) with
        | none => .bad
        | some e'' => (ev ifs1 e'' h).bind fun c h => match c with
          | .bl true => (ev elt e'' h).bind fun y h => .ok [y] h
          | .bl false => .ok [] h
          | _ => .bad) (argsD x1) h) (argsD x) h).bind fun l h => longD l h
  | .iseq a, e, h => (ev a e h).bind fun x h => (iterD x h).bind fun l h => .ok (.tup l) h
  | .iown a, e, h => (ev a e h).bind fun x h => iownD G x h
  | .irng a, e, h => (ev a e h).bind fun x h => match x with | .int n => if n < 1000000 ∧ -1000000 < n then .ok (.tup (rngD n)) h else .bad | _ => .bad
  | .ienum a, e, h => (ev a e h).bind fun x h => match seqD x with | some l => .ok (.tup (enumD 0 l)) h | none => .bad
  | .izip a b, e, h => (ev a e h).bind fun x h => (ev b e h).bind fun y h => match seqD x, seqD y with | some l, some m => .ok (.tup (zipD l m)) h | _, _ => .bad

def putN (i : Nat) (d : D) (e : En) : En := e.set i (some d)
def exc : S → En → Hb → RS
  | .skip, e, h => .next e h
  | .bad, _, _ => .bad
  | .seq a b, e, h => (exc a e h).thn fun e h => exc b e h
  | .set i a, e, h => (ev G a e h).thn fun d h => .next (putN i d e) h
  | .setM i a, e, h => (ev G a e h).thn fun d h => match d with | .lst l => .next (putN i (.lst l) e) h | _ => .bad
  | .setB i a, e, h => (ev G a e h).thn fun d h => match d with | .lst l => if D.nls l then .next (putN i (.obj h.length) e) (h ++ [.lst l]) else .bad | _ => .bad
  | .unp l a, e, h => (ev G a e h).thn fun d h => match putT (.many l) d e with | some e => .next e h | none => .bad
  | .par i j mi mj a b, e, h => (ev G a e h).thn fun x h => (ev G b e h).thn fun y h => if (mi && !x.isL) || (mj && !y.isL) then .bad else .next (putN j y (putN i x e)) h
  | .app i a, e, h => (ev G a e h).thn fun d h => match e[i]? with
    | some (some (.lst l)) => if l.length < 1000000 then .next (putN i (.lst (l ++ [d])) e) h else .bad
    | _ => .bad
  | .ext i a, e, h => (ev G a e h).thn fun d h => match e[i]?, d with
    | some (some (.lst l)), .lst m => if l.length + m.length < 1000000 then .next (putN i (.lst (l ++ m)) e) h else .bad
    | _, _ => .bad
  | .ixs i ix a, e, h => (ev G a e h).thn fun d h => (ev G ix e h).thn fun k h => match e[i]?, k with
    | some (some (.lst l)), .int k => (match L2.ixN l.length k with | some j => .next (putN i (.lst (l.set j d)) e) h | none => .bad)
    | _, _ => .bad
  | .ixa i ix a, e, h => (ev G ix e h).thn fun k h => match e[i]?, k with
    | some (some (.lst l)), .int k => (match L2.ixN l.length k with
      | some j => (match l[j]? with
        | some (.int n) => (ev G a e h).thn fun d h => (match d with
          | .int m => .next (putN i (.lst (l.set j (.int (n + m)))) e) h
          | _ => .bad)
        | _ => .bad)
      | none => .bad)
    | _, _ => .bad
  | .aug i op a, e, h => match e[i]? with
    | some (some x) => (ev G a e h).thn fun d h => (match x, d with
      | .int n, .int m => (binD op (.int n) (.int m) h).thn fun z h => .next (putN i z e) h
      | _, _ => .bad)
    | _ => .bad
  | .sfld c j a, e, h => (ev G a e h).thn fun d h => match e[(0 : Nat)]? with
    | some (some (.ins c' l)) => if c' = c ∧ l.length = j ∧ e.length < 1000 then .next (putN 0 (.ins c (l ++ [d])) e) h else .bad
    | _ => .bad
  | .ift c a b, e, h => (ev G c e h).thn fun d h => match d with
    | .bl true => exc a e h
    | .bl false => exc b e h
    | _ => .bad
  | .for_ tg it b, e, h => (ev G it e h).thn fun x h => forL (fun d e h => match putT tg d e with | some e => exc b e h | none => .bad) (argsD x) e h
  | .whl c b, e, h => whlL (fun e h => ev G c e h) (fun e h => exc b e h) 1000000 e h
  | .ret a, e, h => (ev G a e h).thn fun d h => .ret d h
  | .exp a, e, h => (ev G a e h).thn fun _ h => .next e h
end

/-- a def: its names by slot, parameters first; its M slots; its body; whether it hands back a new list -/
structure Fn where
  np : Nat
  nn : Nat
  M : List Nat
  body : S
  fresh : Bool
/-- the program: its defs; its classes' __init__; its constants -/
structure Cl where
  init : Nat
  flds : List Nat
  mths : List (Nat × Nat)
  prps : List (Nat × Nat)
  itf : Option Nat
structure Prg where
  fns : List Fn
  cls : List Cl
  glb : List D
def Prg.fix (p : Prg) (c f : Nat) : Option Nat := match p.cls[c]? with
  | some x => x.flds.idxOf? f
  | none => none
def Prg.mth (p : Prg) (c m : Nat) : Option Nat := match p.cls[c]? with
  | some x => x.mths.lookup m
  | none => none

def Prg.prp (p : Prg) (c m : Nat) : Option Nat := match p.cls[c]? with
  | some x => x.prps.lookup m
  | none => none
def Prg.itf (p : Prg) (c : Nat) : Option Nat := match p.cls[c]? with
  | some x => x.itf
  | none => none
def outD (r : RS) : R D := match r with
  | .ret d h => .ok d h
  | .next _ h => .ok .non h
  | _ => .bad
/-- an instance is made -/
def mkD (c : Nat) : RS → R D
  | .next (some (.ins c' (y :: l)) :: _) h => if c' = c then .ok (.ins c (y :: l)) h else .bad
  | _ => .bad
def startE (nn : Nat) (ds : List D) : En := ds.map some ++ List.replicate (nn - ds.length) none
def pg (p : Prg) : Nat → Pg
  | 0 => ⟨fun _ _ _ => .bad, fun _ _ _ => .bad, fun g => p.glb[g]?, p.fix, p.mth, p.prp, p.itf⟩
  | k + 1 => ⟨fun f ds h => match p.fns[f]? with
      | some fn => if ds.length = fn.np then outD (exc (pg p k) fn.body (startE fn.nn ds) h) else .bad
      | none => .bad,
    fun c ds h => match p.cls[c]? with
      | some cl => (match p.fns[cl.init]? with
        | some fn => if ds.length + 1 = fn.np then mkD c (exc (pg p k) fn.body (startE fn.nn (.ins c [] :: ds)) h) else .bad
        | none => .bad)
      | none => .bad,
    fun g => p.glb[g]?, p.fix, p.mth, p.prp, p.itf⟩
end CC

set_option Elab.async false
set_option linter.all false
set_option maxRecDepth 100000
set_option maxHeartbeats 1000000
/-! What a value of the small language stands for in the machine. -/
namespace CC
open PySem PySem.Spec PyProof.Rows L2

/-- the text, fixed through -/
structure Tx where
  K : PySem.W.Frag
  ca : Nat → Addr
  sl : Nat → Nat → Nat
  nc : Nat

/-- objects that never change -/
def Fix : HO → Prop
  | .tup _ => True
  | .frz _ _ => True
  | _ => False

/-- a list that never changes: the law's argument, or one of the written part -/
def SqF (K : PySem.W.Frag) (H : Hp) (a : Addr) (xs : List V) : Prop := (∃ o, H a = some (.frz o (.lst xs))) ∨ SqL K (fun _ => none) a xs
theorem SqF.sq {K : PySem.W.Frag} {H : Hp} {a : Addr} {xs : List V} (h : SqF K H a xs) : SqL K H a xs := by
  rcases h with ⟨o, h⟩ | (h | ⟨o, h⟩) | h
  · exact .inl (.inr ⟨o, h⟩)
  · cases h
  · cases h
  · exact .inr h
section
variable (t : Tx) (ρ : List Addr) (L : Addr → Prop) (H : Hp)
mutual
inductive Rep : V → D → Prop
  | non : Rep .non .non
  | bl (b : Bool) : Rep (.bl b) (.bl b)
  | int (i : Int) : Rep (.int i) (.int i)
  | str (x : Str) : Rep (.str x) (.str x)
  | tup {a : Addr} {xs : List V} {ds : List D} : SqT t.K H a xs → Reps xs ds → Rep (.ref a) (.tup ds)
  | lst {a : Addr} {xs : List V} {ds : List D} : H a = some (.lst xs) → ¬ L a → Reps xs ds → Rep (.ref a) (.lst ds)
  | frz {a : Addr} {xs : List V} {ds : List D} : SqF t.K H a xs → Reps xs ds → Rep (.ref a) (.frz ds)
  | ins {c : Nat} {a dx : Addr} {vs : List (Option V)} {ws : List V} {ds : List D} : c < t.nc → H a = some (SlX.SlO a (t.ca c) dx vs) → H dx = some (.xd []) → ¬ L a → ¬ L dx →
      (∀ (j : Nat) (x : V), ws[j]? = some x → vs[t.sl c j]? = some (some x)) → Reps ws ds → Rep (.ref a) (.ins c ds)
  | obj {n : Nat} {a : Addr} : ρ[n]? = some a → Rep (.ref a) (.obj n)
  | ft {a : Addr} {o : Obj} {xs : List V} {ds : List D} : H a = some (.frz o (.tup xs)) → o.dict = none → Reps xs ds → Rep (.ref a) (.ft ds)
inductive Reps : List V → List D → Prop
  | nil : Reps [] []
  | cons {v : V} {vs : List V} {d : D} {ds : List D} : Rep v d → Reps vs ds → Reps (v :: vs) (d :: ds)
end
end

section
variable {t : Tx} {ρ ρ' : List Addr} {L L' : Addr → Prop} {H H' : Hp}
theorem Reps.length : ∀ {vs : List V} {ds : List D}, Reps t ρ L H vs ds → vs.length = ds.length
  | _, _, .nil => rfl
  | _, _, .cons _ r => by rw [List.length_cons, List.length_cons, Reps.length r]
theorem Reps.get : ∀ {vs : List V} {ds : List D} {i : Nat} {d : D}, Reps t ρ L H vs ds → ds[i]? = some d → ∃ v, vs[i]? = some v ∧ Rep t ρ L H v d
  | _, _, _, _, .nil, h => by simp at h
  | _, _, 0, _, .cons r _, h => by
    simp only [List.getElem?_cons_zero, Option.some.injEq] at h
    subst h
    exact ⟨_, rfl, r⟩
  | _, _, i + 1, d, .cons _ q, h => by
    obtain ⟨v, h1, h2⟩ := Reps.get (i := i) (d := d) q (by simpa using h)
    exact ⟨v, by simpa using h1, h2⟩
theorem Reps.getV : ∀ {vs : List V} {ds : List D} {i : Nat} {v : V}, Reps t ρ L H vs ds → vs[i]? = some v → ∃ d, ds[i]? = some d ∧ Rep t ρ L H v d
  | _, _, _, _, .nil, h => by simp at h
  | _, _, 0, _, .cons r _, h => by
    simp only [List.getElem?_cons_zero, Option.some.injEq] at h
    subst h
    exact ⟨_, rfl, r⟩
  | _, _, i + 1, d, .cons _ q, h => by
    obtain ⟨v, h1, h2⟩ := Reps.getV (i := i) (v := d) q (by simpa using h)
    exact ⟨v, by simpa using h1, h2⟩
theorem Reps.append : ∀ {vs ws : List V} {ds es : List D}, Reps t ρ L H vs ds → Reps t ρ L H ws es → Reps t ρ L H (vs ++ ws) (ds ++ es)
  | _, _, _, _, .nil, h => h
  | _, _, _, _, .cons r q, h => .cons r (Reps.append q h)
theorem Reps.one {v : V} {d : D} (h : Rep t ρ L H v d) : Reps t ρ L H [v] [d] := .cons h .nil
theorem Reps.set : ∀ {vs : List V} {ds : List D} (i : Nat) {v : V} {d : D}, Reps t ρ L H vs ds → Rep t ρ L H v d → Reps t ρ L H (vs.set i v) (ds.set i d)
  | _, _, _, _, _, .nil, _ => .nil
  | _, _, 0, _, _, .cons _ q, h => .cons h q
  | _, _, i + 1, _, _, .cons r q, h => .cons r (Reps.set i q h)
theorem Reps.take : ∀ {vs : List V} {ds : List D} (n : Nat), Reps t ρ L H vs ds → Reps t ρ L H (vs.take n) (ds.take n)
  | _, _, 0, _ => .nil
  | _, _, _ + 1, .nil => .nil
  | _, _, n + 1, .cons r q => .cons r (Reps.take n q)
theorem Reps.drop : ∀ {vs : List V} {ds : List D} (n : Nat), Reps t ρ L H vs ds → Reps t ρ L H (vs.drop n) (ds.drop n)
  | _, _, 0, r => r
  | _, _, _ + 1, .nil => .nil
  | _, _, n + 1, .cons _ q => Reps.drop n q

theorem SqT.move {K : PySem.W.Frag} {a : Addr} {xs : List V} (r : SqT K H a xs) (hT : ∀ b o, H b = some o → Fix o → H' b = some o) : SqT K H' a xs := by
  rcases r with (r | ⟨o, r⟩) | r
  · exact .inl (.inl (hT a _ r trivial))
  · exact .inl (.inr ⟨o, hT a _ r trivial⟩)
  · exact .inr r
mutual
theorem Rep.move (hρ : ∀ (n : Nat) (a : Addr), ρ[n]? = some a → ρ'[n]? = some a) (hH : ∀ b o, H b = some o → ¬ L b → H' b = some o ∧ ¬ L' b) (hT : ∀ b o, H b = some o → Fix o → H' b = some o) :
    ∀ (d : D) (v : V), Rep t ρ L H v d → Rep t ρ' L' H' v d
  | .non, _, h => by cases h; exact .non
  | .bl _, _, h => by cases h; exact .bl _
  | .int _, _, h => by cases h; exact .int _
  | .str _, _, h => by cases h; exact .str _
  | .tup ds, _, h => by
    cases h with
    | tup q r => exact .tup (SqT.move q hT) (Reps.move hρ hH hT ds _ r)
  | .lst ds, _, h => by
    cases h with
    | lst q n r => exact .lst (hH _ _ q n).1 (hH _ _ q n).2 (Reps.move hρ hH hT ds _ r)
  | .frz ds, _, h => by
    cases h with
    | frz q r => exact .frz (q.imp (fun ⟨o, h⟩ => ⟨o, hT _ _ h trivial⟩) id) (Reps.move hρ hH hT ds _ r)
  | .dic _, _, h => by cases h
  | .ins c ds, _, h => by
    cases h with
    | ins h0 h1 h2 h3 h4 h5 r => exact .ins h0 (hH _ _ h1 h3).1 (hH _ _ h2 h4).1 (hH _ _ h1 h3).2 (hH _ _ h2 h4).2 h5 (Reps.move hρ hH hT ds _ r)
  | .obj n, _, h => by
    cases h with
    | obj q => exact .obj (hρ _ _ q)
  | .ft ds, _, h => by
    cases h with
    | ft q n r => exact .ft (hT _ _ q trivial) n (Reps.move hρ hH hT ds _ r)
theorem Reps.move (hρ : ∀ (n : Nat) (a : Addr), ρ[n]? = some a → ρ'[n]? = some a) (hH : ∀ b o, H b = some o → ¬ L b → H' b = some o ∧ ¬ L' b) (hT : ∀ b o, H b = some o → Fix o → H' b = some o) :
    ∀ (ds : List D) (vs : List V), Reps t ρ L H vs ds → Reps t ρ' L' H' vs ds
  | [], _, h => by cases h; exact .nil
  | d :: ds, _, h => by
    cases h with
    | cons r q => exact .cons (Rep.move hρ hH hT d _ r) (Reps.move hρ hH hT ds _ q)
end
mutual
/-- what holds no list does not lean on what is live -/
theorem Rep.nl (hT : ∀ b o, H b = some o → Fix o → H' b = some o) : ∀ (d : D) (v : V), d.nl = true → Rep t ρ L H v d → Rep t ρ' L' H' v d
  | .non, _, _, h => by cases h; exact .non
  | .bl _, _, _, h => by cases h; exact .bl _
  | .int _, _, _, h => by cases h; exact .int _
  | .str _, _, _, h => by cases h; exact .str _
  | .tup ds, _, n, h => by
    cases h with
    | tup q r => exact .tup (SqT.move q hT) (Reps.nl hT ds _ (by simpa [D.nl] using n) r)
  | .lst ds, _, n, h => by simp [D.nl] at n
  | .dic _, _, _, h => by cases h
  | .ins c ds, _, n, h => by simp [D.nl] at n
  | .obj n, _, m, h => by simp [D.nl] at m
  | .frz ds, _, m, h => by simp [D.nl] at m
  | .ft ds, _, m, h => by simp [D.nl] at m
theorem Reps.nl (hT : ∀ b o, H b = some o → Fix o → H' b = some o) : ∀ (ds : List D) (vs : List V), D.nls ds = true → Reps t ρ L H vs ds → Reps t ρ' L' H' vs ds
  | [], _, _, h => by cases h; exact .nil
  | d :: ds, _, n, h => by
    have n2 : d.nl = true ∧ D.nls ds = true := by simpa [D.nls] using n
    cases h with
    | cons r q => exact .cons (Rep.nl hT d _ n2.1 r) (Reps.nl hT ds _ n2.2 q)
end

/-! ### pure data -/
mutual
theorem Rep.dp : ∀ (d : D) (v : V) (p : PyData), d.py = some p → Rep t ρ L H v d → Dp t.K H v p
  | .non, _, _, e, h => by
    cases h
    simp only [D.py, Option.some.injEq] at e
    subst e
    exact .non
  | .bl _, _, _, e, h => by
    cases h
    simp only [D.py, Option.some.injEq] at e
    subst e
    exact .bl _
  | .int _, _, _, e, h => by
    cases h
    simp only [D.py, Option.some.injEq] at e
    subst e
    exact .int _
  | .str _, _, _, e, h => by
    cases h
    simp only [D.py, Option.some.injEq] at e
    subst e
    exact .str _
  | .tup ds, _, _, e, h => by
    simp only [D.py, Option.map_eq_some_iff] at e
    obtain ⟨ps, e1, e2⟩ := e
    subst e2
    cases h with
    | tup q r => exact .tup q (Reps.dp ds _ ps e1 r)
  | .lst ds, _, _, e, h => by
    simp only [D.py, Option.map_eq_some_iff] at e
    obtain ⟨ps, e1, e2⟩ := e
    subst e2
    cases h with
    | lst q n r => exact .lst (.inl (.inl q)) (Reps.dp ds _ ps e1 r)
  | .dic _, _, _, e, h => by simp [D.py] at e
  | .ins c ds, _, _, e, h => by simp [D.py] at e
  | .obj n, _, _, e, h => by simp [D.py] at e
  | .frz ds, _, _, e, h => by simp [D.py] at e
  | .ft ds, _, _, e, h => by
    simp only [D.py, Option.map_eq_some_iff] at e
    obtain ⟨ps, e1, e2⟩ := e
    subst e2
    cases h with
    | ft q n r => exact .tup (.inl (.inr ⟨_, q⟩)) (Reps.dp ds _ ps e1 r)
theorem Reps.dp : ∀ (ds : List D) (vs : List V) (ps : List PyData), D.pys ds = some ps → Reps t ρ L H vs ds → DpAll t.K H vs ps
  | [], _, _, e, h => by
    cases h
    simp only [D.pys, Option.some.injEq] at e
    subst e
    exact .nil
  | d :: ds, _, _, e, h => by
    cases h with
    | cons r q =>
      simp only [D.pys] at e
      split at e
      · rename_i x xs e1 e2
        simp only [Option.some.injEq] at e
        subst e
        exact .cons (Rep.dp d _ _ e1 r) (Reps.dp ds _ _ e2 q)
      · cases e
end
end

/-! ### the state -/
/-- a situation of the evaluator beside the machine -/
structure Sit where
  Lam : Addr → Prop
  ρ : List Addr
  μ : Nat → Option Addr
  e : En
  h : Hb
/-- what may change: callers' own lists, boxes, own lists -/
def Sit.L (s : Sit) : Addr → Prop := fun a => s.Lam a ∨ a ∈ s.ρ ∨ ∃ i, s.μ i = some a
theorem Sit.inL (s : Sit) : ∀ b ∈ s.ρ, s.L b := fun b h => .inr (.inl h)
/-- the slot, beyond all names, of the dict of an instance that is being made -/
def dxI : Nat := 1000000
/-- what stands at the address of an own slot -/
def Own (t : Tx) (ρ : List Addr) (μ : Nat → Option Addr) (L : Addr → Prop) (H : Hp) (a : Addr) : D → Prop
  | .lst ds => ∃ xs, H a = some (.lst xs) ∧ Reps t ρ L H xs ds
  | .ins c ds => ∃ dx vs ws, SlX.Slt H a (t.ca c) dx vs ∧ μ dxI = some dx ∧ (∀ (j : Nat) (x : V), ws[j]? = some x → vs[t.sl c j]? = some (some x)) ∧ Reps t ρ L H ws ds
  | _ => False
def Boxes (t : Tx) (ρ : List Addr) (L : Addr → Prop) (H : Hp) (h : Hb) : Prop :=
  ∀ (n : Nat) (l : List D), h[n]? = some (.lst l) → D.nls l = true ∧ ∃ a xs, ρ[n]? = some a ∧ H a = some (.lst xs) ∧ Reps t ρ L H xs l
structure Rel (t : Tx) (M : List Nat) (s : Sit) (σ : L2.St) (H : Hp) : Prop where
  len : s.e.length = σ.length
  val : ∀ (i : Nat) (d : D), s.e[i]? = some (some d) → i ∉ M → ∃ v, σ[i]? = some (some v) ∧ Rep t s.ρ s.L H v d
  own : ∀ (i : Nat) (d : D), s.e[i]? = some (some d) → i ∈ M → ∃ a, s.μ i = some a ∧ σ[i]? = some (some (.ref a)) ∧ Own t s.ρ s.μ s.L H a d
  inj : ∀ i j a, s.μ i = some a → s.μ j = some a → i = j
  mfr : ∀ i a, s.μ i = some a → a ∉ s.ρ ∧ ¬ s.Lam a ∧ i ∈ M
  box : Boxes t s.ρ s.L H s.h
  blen : s.h.length = s.ρ.length
  bnd : s.ρ.Nodup
  lam : ∀ a, s.L a → ∃ o, H a = some o ∧ ¬ Fix o
  lamb : ∀ a ∈ s.ρ, ¬ s.Lam a
/-- a step of an expression: all but the boxes is kept -/
structure Stp (ρ ρ' : List Addr) (H H' : Hp) : Prop where
  keep : ∀ b o, H b = some o → b ∉ ρ → H' b = some o
  fix : ∀ b o, H b = some o → Fix o → H' b = some o
  trk : ∀ b o, H b = some o → ∃ o', H' b = some o'
  pre : ρ <+: ρ'
  new : ∀ a ∈ ρ', a ∈ ρ ∨ H a = none
theorem Stp.refl (ρ : List Addr) (H : Hp) : Stp ρ ρ H H := ⟨fun _ _ h _ => h, fun _ _ h _ => h, fun _ o h => ⟨o, h⟩, List.prefix_refl _, fun _ h => .inl h⟩
theorem Stp.trans {ρ ρ1 ρ2 : List Addr} {H H1 H2 : Hp} (a : Stp ρ ρ1 H H1) (b : Stp ρ1 ρ2 H1 H2) : Stp ρ ρ2 H H2 where
  keep := fun c o h n => b.keep c o (a.keep c o h n) fun z => (a.new c z).elim n fun q => by rw [h] at q; cases q
  fix := fun c o h f => b.fix c o (a.fix c o h f) f
  trk := fun c o h => by
    obtain ⟨o1, h1⟩ := a.trk c o h
    exact b.trk c o1 h1
  pre := a.pre.trans b.pre
  new := fun c h => (b.new c h).elim (a.new c) fun q => .inr (by
    cases z : H c with
    | none => rfl
    | some o =>
      obtain ⟨o1, h1⟩ := a.trk c o z
      rw [q] at h1
      cases h1)
theorem Stp.free {ρ ρ' : List Addr} {H H' : Hp} (a : Stp ρ ρ' H H') {b : Addr} (h : H' b = none) : H b = none := by
  cases z : H b with
  | none => rfl
  | some o =>
    obtain ⟨o1, h1⟩ := a.trk b o z
    rw [h] at h1
    cases h1
/-- something new is laid -/
theorem Stp.laid {ρ : List Addr} {H : Hp} {p : Addr} {o : HO} (h : H p = none) : Stp ρ ρ H (upd H p o) where
  keep := fun b u e _ => by rw [upd_ne (ne_of_none e h)]; exact e
  fix := fun b u e _ => by rw [upd_ne (ne_of_none e h)]; exact e
  trk := fun b u e => ⟨u, by rw [upd_ne (ne_of_none e h)]; exact e⟩
  pre := List.prefix_refl _
  new := fun _ h => .inl h
theorem pre_get {ρ ρ' : List Addr} (h : ρ <+: ρ') {n : Nat} {a : Addr} (e : ρ[n]? = some a) : ρ'[n]? = some a := by
  obtain ⟨r, rfl⟩ := h
  obtain ⟨hl, _⟩ := List.getElem?_eq_some_iff.mp e
  rw [List.getElem?_append_left hl]
  exact e
theorem pre_mem {ρ ρ' : List Addr} (h : ρ <+: ρ') {a : Addr} (e : a ∈ ρ) : a ∈ ρ' := by
  obtain ⟨r, rfl⟩ := h
  exact List.mem_append_left _ e
/-- the situation behind an expression -/
def Sit.to (s : Sit) (ρ' : List Addr) (h' : Hb) : Sit := { s with ρ := ρ', h := h' }
section
variable {t : Tx} {M : List Nat} {s : Sit} {σ : L2.St} {H H' : Hp} {ρ' : List Addr} {h' : Hb}
theorem Rel.free (R : Rel t M s σ H) {p : Addr} (h : H p = none) : ¬ s.L p := fun z => by
  obtain ⟨o, e, _⟩ := R.lam p z
  rw [h] at e
  cases e
theorem Stp.L (R : Rel t M s σ H) (a : Stp s.ρ ρ' H H') : ∀ b o, H b = some o → ¬ s.L b → H' b = some o ∧ ¬ (s.to ρ' h').L b := fun b o h n => by
  refine ⟨a.keep b o h fun z => n (.inr (.inl z)), fun z => ?_⟩
  rcases z with z | z | z
  · exact n (.inl z)
  · exact (a.new b z).elim (fun q => n (.inr (.inl q))) fun q => by rw [h] at q; cases q
  · exact n (.inr (.inr z))
theorem Rep.step {v : V} {d : D} (R : Rel t M s σ H) (a : Stp s.ρ ρ' H H') (r : Rep t s.ρ s.L H v d) : Rep t ρ' (s.to ρ' h').L H' v d :=
  Rep.move (fun _ _ e => pre_get a.pre e) (a.L R) a.fix d v r
theorem Reps.step {v : List V} {d : List D} (R : Rel t M s σ H) (a : Stp s.ρ ρ' H H') (r : Reps t s.ρ s.L H v d) : Reps t ρ' (s.to ρ' h').L H' v d :=
  Reps.move (fun _ _ e => pre_get a.pre e) (a.L R) a.fix d v r
theorem Own.step {i : Nat} {x : Addr} {d : D} (R : Rel t M s σ H) (a : Stp s.ρ ρ' H H') (hx : s.μ i = some x) (r : Own t s.ρ s.μ s.L H x d) : Own t ρ' s.μ (s.to ρ' h').L H' x d := by
  have nx := (R.mfr i x hx).1
  cases d with
  | lst ds =>
    obtain ⟨xs, h1, h2⟩ := r
    exact ⟨xs, a.keep _ _ h1 nx, h2.step R a⟩
  | ins c ds =>
    obtain ⟨dx, vs, ws, h1, h2, h3, h4⟩ := r
    have nd : dx ∉ s.ρ := (R.mfr dxI dx h2).1
    refine ⟨dx, vs, ws, ?_, h2, h3, h4.step R a⟩
    rcases h1 with ⟨h1, q⟩ | ⟨h1, q⟩
    · exact .inl ⟨a.keep _ _ h1 nx, q⟩
    · exact .inr ⟨a.keep _ _ h1 nx, a.keep _ _ q nd⟩
  | non => exact r
  | bl _ => exact r
  | int _ => exact r
  | str _ => exact r
  | tup _ => exact r
  | dic _ => exact r
  | obj _ => exact r
  | frz _ => exact r
  | ft _ => exact r
/-- THE STEP: the state behind an expression -/
theorem Rel.step (R : Rel t M s σ H) (a : Stp s.ρ ρ' H H') (bx : Boxes t ρ' (s.to ρ' h').L H' h') (bl : h'.length = ρ'.length) (nd : ρ'.Nodup) : Rel t M (s.to ρ' h') σ H' where
  len := R.len
  val := fun i d e n => by
    obtain ⟨v, e1, r⟩ := R.val i d e n
    exact ⟨v, e1, r.step R a⟩
  own := fun i d e n => by
    obtain ⟨x, e1, e2, r⟩ := R.own i d e n
    have q : Own t ρ' s.μ (s.to ρ' h').L H' x d := Own.step (h' := h') R a e1 r
    exact ⟨x, e1, e2, q⟩
  inj := R.inj
  mfr := fun i x e => by
    obtain ⟨h2, h3, h4⟩ := R.mfr i x e
    refine ⟨fun z => ?_, h3, h4⟩
    rcases a.new x z with q | q
    · exact h2 q
    · exact R.free q (.inr (.inr ⟨i, e⟩))
  box := bx
  blen := bl
  bnd := nd
  lam := fun x z => by
    rcases z with z | z | z
    · obtain ⟨o, e, f⟩ := R.lam x (.inl z)
      exact ⟨o, a.keep x o e fun q => R.lamb x q z, f⟩
    · have z : x ∈ ρ' := z
      obtain ⟨n, hn, e⟩ := List.getElem_of_mem z
      have hl : n < h'.length := by rw [bl]; exact hn
      cases q : h'[n] with
      | lst l =>
        obtain ⟨_, a', xs, e1, e2, _⟩ := bx n l (by rw [List.getElem?_eq_getElem hl, q])
        have : a' = x := by
          have e3 : ρ'[n]? = some x := by rw [List.getElem?_eq_getElem hn]; exact congrArg some e
          rw [e3] at e1
          exact (Option.some.inj e1).symm
        subst this
        exact ⟨_, e2, fun f => f⟩
    · obtain ⟨o, e, f⟩ := R.lam x (.inr (.inr z))
      obtain ⟨i, hi⟩ := z
      exact ⟨o, a.keep x o e (R.mfr i x hi).1, f⟩
  lamb := fun x z y => by
    rcases a.new x z with q | q
    · exact R.lamb x q y
    · exact R.free q (.inl y)
theorem Boxes.step (R : Rel t M s σ H) (a : Stp s.ρ s.ρ H H') (k : ∀ b ∈ s.ρ, ∀ o, H b = some o → H' b = some o) : Boxes t s.ρ (s.to s.ρ s.h).L H' s.h := fun n l e => by
  obtain ⟨h1, x, xs, h2, h3, h4⟩ := R.box n l e
  exact ⟨h1, x, xs, h2, k x (List.mem_of_getElem? h2) _ h3, h4.step R a⟩
/-- .. where the heap has grown alone -/
theorem Rel.grow (R : Rel t M s σ H) (a : ∀ b o, H b = some o → H' b = some o) : Rel t M s σ H' := by
  have st : Stp s.ρ s.ρ H H' := ⟨fun b o h _ => a b o h, fun b o h _ => a b o h, fun b o h => ⟨o, a b o h⟩, List.prefix_refl _, fun _ z => .inl z⟩
  exact R.step (h' := s.h) st (Boxes.step R st fun b _ o e => a b o e) R.blen R.bnd
theorem Rel.laid (R : Rel t M s σ H) {p : Addr} {o : HO} (h : H p = none) : Rel t M s σ (upd H p o) := R.grow fun b u e => by rw [upd_ne (ne_of_none e h)]; exact e
end

/-! ### what an expression hands on -/
/-- as it is seen: a list may be live -/
def VRep (t : Tx) (ρ : List Addr) (L : Addr → Prop) (H : Hp) (v : V) : D → Prop
  | .lst ds => ∃ a xs, v = .ref a ∧ H a = some (.lst xs) ∧ a ∉ ρ ∧ Reps t ρ L H xs ds
  | d => Rep t ρ L H v d
/-- a new list, that nobody else holds -/
def FRep (t : Tx) (ρ : List Addr) (L : Addr → Prop) (H H' : Hp) (v : V) : D → Prop
  | .lst ds => ∃ a xs, v = .ref a ∧ H a = none ∧ H' a = some (.lst xs) ∧ a ∉ ρ ∧ Reps t ρ (fun b => L b ∨ b = a) H' xs ds
  | d => Rep t ρ L H' v d
theorem Rep.v {t : Tx} {ρ : List Addr} {L : Addr → Prop} {H : Hp} {v : V} {d : D} (h : Rep t ρ L H v d) (hL : ∀ b ∈ ρ, L b) : VRep t ρ L H v d := by
  cases d with
  | lst ds =>
    cases h with
    | lst q n r => exact ⟨_, _, rfl, q, fun z => n (hL _ z), r⟩
  | _ => exact h
theorem Reps.less {t : Tx} {ρ : List Addr} {L L' : Addr → Prop} {H : Hp} {v : List V} {d : List D} (h : Reps t ρ L H v d) (k : ∀ b, L' b → L b) : Reps t ρ L' H v d :=
  Reps.move (fun _ _ e => e) (fun b o e n => ⟨e, fun z => n (k b z)⟩) (fun _ _ e _ => e) d v h
theorem Rep.less {t : Tx} {ρ : List Addr} {L L' : Addr → Prop} {H : Hp} {v : V} {d : D} (h : Rep t ρ L H v d) (k : ∀ b, L' b → L b) : Rep t ρ L' H v d :=
  Rep.move (fun _ _ e => e) (fun b o e n => ⟨e, fun z => n (k b z)⟩) (fun _ _ e _ => e) d v h
theorem FRep.rep {t : Tx} {M : List Nat} {s : Sit} {σ : L2.St} {H H' : Hp} {ρ' : List Addr} {h' : Hb} {v : V} {d : D} (R : Rel t M s σ H) (h : FRep t ρ' (s.to ρ' h').L H H' v d) : Rep t ρ' (s.to ρ' h').L H' v d := by
  cases d with
  | lst ds =>
    obtain ⟨a, xs, rfl, h1, h2, h3, h4⟩ := h
    refine .lst h2 (fun z => ?_) (h4.less fun b z => .inl z)
    rcases z with z | z | z
    · exact R.free h1 (.inl z)
    · exact h3 z
    · exact R.free h1 (.inr (.inr z))
  | _ => exact h
end CC

set_option Elab.async false
set_option linter.all false
set_option maxRecDepth 100000
set_option maxHeartbeats 1000000
/-! The check that a term of the small language is the text's, and what is promised. -/
namespace CC
open PySem PySem.Spec PyProof.Rows L2

structure Ctx where
  N : List Str
  sc : Scope
  raw : Scope
  M : List Nat
structure Tab where
  fn : List Str
  cn : List Str
  gn : List Str
  fd : List Str
  mn : List Str
  fr : List Bool
  fs : List (List Str)

def bor : E → Bool
  | .mvar _ => true
  | _ => false
def borI : E → Bool
  | .iseq a => bor a
  | .ienum a => bor a
  | .izip a b => bor a || bor b
  | _ => false
def opO : Bop → Operator
  | .add => .Add | .sub => .Sub | .mul => .Mult | .fdiv => .FloorDiv | .mod => .Mod | .pow => .Pow
def coO : Cop → CmpOp
  | .eq => .Eq | .ne => .NotEq | .lt => .Lt | .le => .LtE | .gt => .Gt | .ge => .GtE | .isN => .Is | .notN => .IsNot
def isNoneC : Expr → Bool
  | .Constant .none _ _ => true
  | _ => false
def nmB (x : Str) : Bool := !(x == ("__debug__" : Str)) && !(x == ("__classdict__" : Str)) && decide (x ≠ ("__name__" : Str))
def visB (sc : Scope) (x : Str) : Bool := match sc.names.lookup x with
  | some .local => true
  | some .cell => true
  | some .free => true
  | _ => false
def locB (sc : Scope) (x : Str) : Bool := match sc.names.lookup x with
  | some .local => true
  | some .cell => true
  | _ => false
def glB (sc : Scope) (x : Str) : Bool := match sc.names.lookup x with
  | some .globalImplicit => true
  | _ => false
def biN : Bi → Str
  | .abs => "abs" | .int => "int" | .sum => "sum" | .all => "all" | .any => "any" | .tuple => "tuple" | .list => "list" | .tupf => "tuple"
def tyN : Ty → Str
  | .int => "int" | .bool => "bool" | .tuple => "tuple" | .list => "list" | .str => "str" | .own _ => ""
/-- a new list comes of it -/
def fr (T : Tab) : E → Bool
  | .lst _ => true
  | .comp .. => true
  | .comp2 .. => true
  | .bi .list _ => true
  | .bin .add (.lst _) _ => true
  | .bin .add (.mvar _) _ => true
  | .bin .mul (.lst _) _ => true
  | .call f _ => T.fr.getD f false
  | _ => false
def notIf : Expr → Bool
  | .IfExp .. => false
  | _ => true
def nmTg (C : Ctx) (i : Nat) : Expr → Bool
  | .Name x _ => decide (C.N[i]? = some x) && locB C.sc x && locB C.raw x && !C.M.contains i
  | _ => false
def tgsB (C : Ctx) : List Nat → List Expr → Bool
  | [], [] => true
  | i :: l, e :: es => nmTg C i e && tgsB C l es
  | _, _ => false
def tgB (C : Ctx) (tg : T) (ex : Expr) : Bool := match tg, ex with
  | .one i, e => nmTg C i e
  | .many l, .Tuple es _ _ => tgsB C l es
  | _, _ => false
def tgL : T → List Nat
  | .one i => [i]
  | .many l => l
def ownOf (C : Ctx) (own : List Nat) : List (Str × Nat) := own.map fun i => (C.N.getD i "", i)
/-- the context within a comprehension -/
def inC (C : Ctx) (scope : Scope) (own : List Nat) : Ctx := ⟨C.N, relS scope C.sc, scope, C.M.filter fun i => !own.contains i⟩
/-- a slice's end -/
def chkO : Option Int → Option Expr → Bool
  | none, none => true
  | some i, some (.Constant c _ _) => decide (c = .int i)
  | some i, some (.UnaryOp .USub (.Constant (.int j) _ _) _) => decide (i = -j)
  | _, _ => false
mutual
def chkE (T : Tab) : E → Ctx → Expr → Bool
  | .var i, C, ex => match ex with
    | .Name x _ => decide (C.N[i]? = some x) && visB C.sc x && nmB x && !C.M.contains i
    | _ => false
  | .mvar i, C, ex => match ex with
    | .Name x _ => decide (C.N[i]? = some x) && visB C.sc x && nmB x && C.M.contains i
    | _ => false
  | .cst c, _, ex => match ex with
    | .Constant c' _ _ => decide (c = c')
    | _ => false
  | .glb g, C, ex => match ex with
    | .Name x _ => decide (T.gn[g]? = some x) && glB C.sc x && nmB x
    | _ => false
  | .bin op a b, C, ex => match ex with
    | .BinOp l o r _ => decide (opO op = o) && chkE T a C l && chkE T b C r
    | _ => false
  | .neg a, C, ex => match ex with
    | .UnaryOp o x _ => decide (o = .USub) && chkE T a C x
    | _ => false
  | .not a, C, ex => match ex with
    | .UnaryOp o x _ => decide (o = .Not) && chkE T a C x && notIf x
    | _ => false
  | .and a b, C, ex => match ex with
    | .BoolOp .And [e1, e2] _ => chkE T a C e1 && chkE T b C e2 && notIf e1 && notIf e2
    | .BoolOp .And (e1 :: e2 :: e3 :: r) p => chkE T a C e1 && chkE T b C (.BoolOp .And (e2 :: e3 :: r) p) && notIf e1
    | _ => false
  | .or a b, C, ex => match ex with
    | .BoolOp .Or [e1, e2] _ => chkE T a C e1 && chkE T b C e2 && notIf e1 && notIf e2
    | .BoolOp .Or (e1 :: e2 :: e3 :: r) p => chkE T a C e1 && chkE T b C (.BoolOp .Or (e2 :: e3 :: r) p) && notIf e1
    | _ => false
  | .cmp op a b, C, ex => match ex with
    | .Compare l [o] [r] _ => decide (coO op = o) && chkE T a C l && chkE T b C r && (match op with | .isN | .notN => isNoneC r | _ => true)
    | _ => false
  | .chn o p a b c, C, ex => match ex with
    | .Compare l [o', p'] [m, r] _ => decide (coO o = o') && decide (coO p = p') && chkE T a C l && chkE T b C m && chkE T c C r && (match o with | .lt | .le => true | _ => false) && (match p with | .lt | .le => true | _ => false)
    | _ => false
  | .ife c a b, C, ex => match ex with
    | .IfExp t x y _ => chkE T c C t && notIf t && chkE T a C x && chkE T b C y && !bor a && !bor b
    | _ => false
  | .tup as, C, ex => match ex with
    | .Tuple es _ _ => chkA T as C es && decide (es.length ≤ 1000)
    | _ => false
  | .lst as, C, ex => match ex with
    | .List es _ => chkA T as C es && decide (es.length ≤ 1000)
    | _ => false
  | .call f as, C, ex => match ex with
    | .Call (.Name x _) (e :: es) [] _ => decide (T.fn[f]? = some x) && glB C.sc x && nmB x && chkA T as C (e :: es)
    | _ => false
  | .bi b a, C, ex => match ex with
    | .Call (.Name x _) [e] [] _ => decide (x = biN b) && glB C.sc x && chkE T a C e
    | _ => false
  | .min2 a b, C, ex => match ex with
    | .Call (.Name x _) [e, e2] [] _ => decide (x = "min") && glB C.sc x && chkE T a C e && chkE T b C e2
    | _ => false
  | .isi a ts, C, ex => match ex with
    | .Call (.Name x _) [e, .Name y _] [] _ => decide (x = "isinstance") && glB C.sc x && glB C.sc y && chkE T a C e && (match ts with
      | [.own c] => decide (T.cn[c]? = some y) && nmB y
      | [t] => decide (y = tyN t)
      | _ => false)
    | .Call (.Name x _) [e, .Tuple [.Name y _, .Name z _] _ _] [] _ => decide (x = "isinstance") && glB C.sc x && glB C.sc y && glB C.sc z && chkE T a C e && (match ts with
      | [t, u] => decide (y = tyN t) && decide (z = tyN u) && decide (y ≠ "") && decide (z ≠ "")
      | _ => false)
    | _ => false
  | .len a, C, ex => match ex with
    | .Call (.Name x _) [e] [] _ => decide (x = "len") && glB C.sc x && chkE T a C e
    | _ => false
  | .sub a i, C, ex => match ex with
    | .Subscript v j _ => chkE T a C v && chkE T i C j
    | _ => false
  | .slc a lo hi, C, ex => match ex with
    | .Subscript v (.Slice l u none _) _ => chkE T a C v && chkO lo l && chkO hi u
    | _ => false
  | .fld f a, C, ex => match ex with
    | .Attribute v x _ => decide (T.fd[f]? = some x) && chkE T a C v
    | _ => false
  | .prop m a, C, ex => match ex with
    | .Attribute v x _ => decide (T.mn[m]? = some x) && chkE T a C v
    | _ => false
  | .meth m o as, C, ex => match ex with
    | .Call (.Attribute v x ap) es [] p => decide (T.mn[m]? = some x) && chkE T o C v && chkA T as C es && decide (es.length < 30) && (ap.endLine == p.line)
    | _ => false
  | .mk c as, C, ex => match ex with
    | .Call (.Name x _) (e :: es) [] _ => decide (T.cn[c]? = some x) && glB C.sc x && nmB x && chkA T as C (e :: es)
    | _ => false
  | .eqo n a b, C, ex => match ex with
    | .Compare l [o] [r] _ => decide (o = if n then .NotEq else .Eq) && chkE T a C l && chkE T b C r && !bor a && !bor b
    | _ => false
  | .tix _ a b, C, ex => match ex with
    | .Call (.Attribute v x ap) [e] [] p => decide (x = "index") && chkE T a C v && chkE T b C e && (ap.endLine == p.line)
    | _ => false
  | .pop0 a, C, ex => match ex with
    | .Call (.Attribute v x ap) [.Constant c _ _] [] p => decide (x = "pop") && decide (c = .int 0) && chkE T a C v && (ap.endLine == p.line)
    | _ => false
  | .trng a, C, ex => match ex with
    | .Call (.Name x _) [.Call (.Name y _) [e] [] _] [] _ => decide (x = "tuple") && decide (y = "range") && glB C.sc x && glB C.sc y && chkE T a C e
    | _ => false
  | .comp tg own it ifs elt, C, ex => match ex with
    | .ListComp el [⟨tg', it', ifs', as⟩] scope _ => decide (as = 0) && chkI T it C it' tg' && blkC C.N C.sc scope (ownOf C own) && tgB (inC C scope own) tg tg' && (tgL tg).all (own.contains ·) &&
        (match ifs' with
          | [] => (match ifs with | .cst (.bool true) => true | _ => false)
          | [f] => chkE T ifs (inC C scope own) f && notIf f
          | _ => false) && chkE T elt (inC C scope own) el && !bor elt && !own.contains dxI
    | _ => false
  | .comp2 tg tg1 own own1 it it1 ifs1 elt, C, ex => match ex with
    | .ListComp el [⟨tg', it', [], as⟩, ⟨tg1', it1', ifs1', as1⟩] scope _ => decide (as = 0) && decide (as1 = 0) && chkI T it C it' tg' && blkC C.N C.sc scope (ownOf C own) && own1.all (own.contains ·) && (tgL tg).all (own.contains ·) && (tgL tg1).all (own1.contains ·) &&
        tgB (inC C scope own) tg tg' && tgB (inC C scope own) tg1 tg1' && chkI T it1 (inC C scope own) it1' tg1' && !borI it1 &&
        (match ifs1' with
          | [] => (match ifs1 with | .cst (.bool true) => true | _ => false)
          | [f] => chkE T ifs1 (inC C scope own) f && notIf f
          | _ => false) && chkE T elt (inC C scope own) el && !bor elt && !own.contains dxI
    | _ => false
  | _, _, _ => false
/-- arguments, items: none is borrowed -/
def chkA (T : Tab) : E → Ctx → List Expr → Bool
  | .nil, _, es => match es with
    | [] => true
    | _ => false
  | .cons a r, C, es => match es with
    | e :: es => chkE T a C e && !bor a && chkA T r C es
    | [] => false
  | _, _, _ => false
/-- what a loop walks -/
def chkI (T : Tab) : E → Ctx → Expr → Expr → Bool
  | .iseq a, C, ex, _ => chkE T a C ex
  | .iown a, C, ex, _ => chkE T a C ex && !bor a
  | .irng a, C, ex, _ => match ex with
    | .Call (.Name x _) [e] [] _ => decide (x = "range") && glB C.sc x && chkE T a C e
    | _ => false
  | .ienum a, C, ex, tg => match ex, tg with
    | .Call (.Name x _) [e] [] _, .Tuple _ _ _ => decide (x = "enumerate") && glB C.sc x && chkE T a C e
    | _, _ => false
  | .izip a b, C, ex, tg => match ex, tg with
    | .Call (.Name x _) [e, e2] [] _, .Tuple _ _ _ => decide (x = "zip") && glB C.sc x && chkE T a C e && chkE T b C e2
    | _, _ => false
  | _, _, _, _ => false
end

/-! ### promises -/
/-- a def's end -/
def OutF (t : Tx) (fresh : Bool) (ρ : List Addr) (Lam : Addr → Prop) (H : Hp) (r : R D) (Q : VK) : Prop := match r with
  | .ok d h' => ∀ v H' ρ', Stp ρ ρ' H H' → Boxes t ρ' (fun a => Lam a ∨ a ∈ ρ') H' h' → h'.length = ρ'.length → ρ'.Nodup →
      (if fresh then FRep t ρ' (fun a => Lam a ∨ a ∈ ρ') H H' v d else Rep t ρ' (fun a => Lam a ∨ a ∈ ρ') H' v d) → Q v H'
  | .bad => False
/-- what a def finds -/
structure InF (t : Tx) (ρ : List Addr) (Lam : Addr → Prop) (H : Hp) (h : Hb) : Prop where
  box : Boxes t ρ (fun a => Lam a ∨ a ∈ ρ) H h
  blen : h.length = ρ.length
  bnd : ρ.Nodup
  lam : ∀ a, Lam a ∨ a ∈ ρ → ∃ o, H a = some o ∧ ¬ Fix o
  lamb : ∀ a ∈ ρ, ¬ Lam a
/-- the promise of a def -/
def spF (t : Tx) (np : Nat) (call : List D → Hb → R D) (fresh : Bool) : Sp := fun vs H Q _ => vs.length = np ∧ ∃ (ρ : List Addr) (Lam : Addr → Prop) (h : Hb) (ds : List D), InF t ρ Lam H h ∧ Reps t ρ (fun a => Lam a ∨ a ∈ ρ) H vs ds ∧
  OutF t fresh ρ Lam H (call ds h) Q
/-- the end of an __init__ -/
def OutI (t : Tx) (ρ : List Addr) (Lam : Addr → Prop) (B : Hp) (x : Addr) (r : R D) (Q : VK) : Prop := match r with
  | .ok d h' => ∀ H' ρ', Stp ρ ρ' B H' → Boxes t ρ' (fun a => Lam a ∨ a ∈ ρ') H' h' → h'.length = ρ'.length → ρ'.Nodup → Rep t ρ' (fun a => Lam a ∨ a ∈ ρ') H' (.ref x) d → Q .non H'
  | .bad => False
/-- the promise of an __init__ -/
def spI (t : Tx) (c np : Nat) (make : List D → Hb → R D) : Sp := fun vs H Q _ => vs.length = np ∧ ∃ (B : Hp) (x dx : Addr) (ws : List V) (ρ : List Addr) (Lam : Addr → Prop) (h : Hb) (ds : List D),
  vs = .ref x :: ws ∧ H = upd (upd B dx (.own x)) x (.ins (t.ca c) dx []) ∧ B x = none ∧ B dx = none ∧ dx ≠ x ∧ InF t ρ Lam B h ∧ Reps t ρ (fun a => Lam a ∨ a ∈ ρ) B ws ds ∧ OutI t ρ Lam B x (make ds h) Q
def SqX (b : Bool) (K : PySem.W.Frag) (H : Hp) (a : Addr) (xs : List V) : Prop := if b then SqT K H a xs else SqL K H a xs
def obX (b : Bool) (a : Addr) : Obj := if b then { cls := .type "tuple_iterator", data := .fields #[.ref a, .int 0 0] } else { cls := .type "list_iterator", data := .fields #[.ref a, .int 0 0] }
/-- what an __iter__ that says iter(self.f) does -/
def FnI (P : Program) (w : World) (K : PySem.W.Frag) (mg : Str → Option Value) (base : Heap) (k : Nat) (g C : Addr) (i : Nat) : Prop :=
  ∀ (A : Around) (outer : List Env) (s : Shared) (H : Hp) (a dx : Addr) (us : List (Option V)) (b : Bool) (l : Addr) (xs : List V), Room k A → Env0 P w K mg base A outer s H → SlX.Slt H a C dx us → us[i]? = some (some (.ref l)) → SqX b K H l xs →
    codeAny (model P w) A (.call (.ref g) ⟨[.ref a], []⟩) (CR CX0 outer P w H s (fun v H' => ∃ it, v = .ref it ∧ H it = none ∧ s.heap.objs.size ≤ it ∧ H' = upd H it (.ext fun h => h.get? it = some (obX b l))) (fun _ _ _ => False)) s
end CC

set_option Elab.async false
set_option linter.all false
set_option maxRecDepth 100000
set_option maxHeartbeats 1000000
/-! Readings of the small language, and the plain expressions. -/
namespace CC
open PySem PySem.Spec PyProof.Rows L2

/-! ### operators by values, joined -/
section
variable {X : Cx}
theorem OpR.or {f : Value → Value → Sem Value} {r r' : R2} (h : OpR X f r) (h' : OpR X f r') : OpR X f (fun x y H Q => r x y H Q ∨ r' x y H Q) := by
  intro pins s σ H x y v u Q I rx ry q
  rcases q with q | q
  · exact h pins s σ H x y v u Q I rx ry q
  · exact h' pins s σ H x y v u Q I rx ry q
theorem OpR.imp {f : Value → Value → Sem Value} {r r' : R2} (h : OpR X f r) (k : ∀ x y H Q, r' x y H Q → r x y H Q) : OpR X f r' := by
  intro pins s σ H x y v u Q I rx ry q
  exact h pins s σ H x y v u Q I rx ry (k _ _ _ _ q)
theorem CallR.or {f : Value} {r r' : List V → Hp → VK → Prop} (h : CallR X f r) (h' : CallR X f r') : CallR X f (fun x H Q => r x H Q ∨ r' x H Q) := by
  intro pins s σ H xs us Q I rx q
  rcases q with q | q
  · exact h pins s σ H xs us Q I rx q
  · exact h' pins s σ H xs us Q I rx q
theorem op_mulX : OpR X (binaryOp .Mult) (rI IntMulOk fun i j => .int (i * j)) := opI fun _ _ _ _ _ _ _ hc q => mul_int q hc
def CDivX (_ j : Int) : Prop := j ≠ 0 ∧ j.natAbs.log2 < 9000
theorem op_fdivX : OpR X (binaryOp .FloorDiv) (rI CDivX fun i j => .int (i.fdiv j)) := opI fun _ _ _ _ _ _ _ hc q => floordiv_int hc.1 q (.inl (PyProof.noPylong_of_log2 hc.2))
end

/-! ### readings -/
def Res (t : Tx) (T : Tab) (x : E) (s : Sit) (H H' : Hp) (v : V) (d : D) : Prop :=
  if fr T x then FRep t s.ρ s.L H H' v d else if bor x then VRep t s.ρ s.L H' v d else Rep t s.ρ s.L H' v d
/-- what is wanted behind an expression -/
def Aft (t : Tx) (T : Tab) (M : List Nat) (x : E) (s : Sit) (σ : L2.St) (H : Hp) (r : R D) (Q : VK) : Prop := match r with
  | .ok d h' => ∀ v H' ρ', Stp s.ρ ρ' H H' → Rel t M (s.to ρ' h') σ H' → Res t T x (s.to ρ' h') H H' v d → Q v H'
  | .bad => False
def tE (t : Tx) (G : Pg) (T : Tab) (M : List Nat) (x : E) : TE := fun σ H Q => ∃ s : Sit, Rel t M s σ H ∧ Aft t T M x s σ H (ev G x s.e s.h) Q
def AftT (t : Tx) (M : List Nat) (s : Sit) (σ : L2.St) (H : Hp) (r : R D) (Q : Bool → Hp → Prop) : Prop := match r with
  | .ok (.bl b) h' => ∀ H' ρ', Stp s.ρ ρ' H H' → Rel t M (s.to ρ' h') σ H' → Q b H'
  | _ => False
def tT (t : Tx) (G : Pg) (M : List Nat) (x : E) : TT := fun σ H Q => ∃ s : Sit, Rel t M s σ H ∧ AftT t M s σ H (ev G x s.e s.h) Q
def AftA (t : Tx) (M : List Nat) (s : Sit) (σ : L2.St) (H : Hp) (r : R D) (Q : List V → Hp → Prop) : Prop := match r with
  | .ok (.tup ds) h' => ∀ vs H' ρ', Stp s.ρ ρ' H H' → Rel t M (s.to ρ' h') σ H' → Reps t ρ' (s.to ρ' h').L H' vs ds → Q vs H'
  | _ => False
def tA (t : Tx) (G : Pg) (M : List Nat) (x : E) : TA := fun σ H Q => ∃ s : Sit, Rel t M s σ H ∧ AftA t M s σ H (ev G x s.e s.h) Q

section
variable {t : Tx} {T : Tab} {M : List Nat} {s : Sit} {σ : L2.St} {H H' : Hp} {ρ' : List Addr} {h' : Hb} {x : E} {v : V} {d : D}
theorem Res.rep (nb : bor x = false) (R : Rel t M s σ H) (h : Res t T x (s.to ρ' h') H H' v d) : Rep t ρ' (s.to ρ' h').L H' v d := by
  unfold Res at h
  split at h
  · exact FRep.rep R h
  · rw [nb] at h
    exact h
theorem Res.see (R : Rel t M s σ H) (h : Res t T x (s.to ρ' h') H H' v d) : VRep t ρ' (s.to ρ' h').L H' v d := by
  unfold Res at h
  split at h
  · exact (FRep.rep R h).v (s.to ρ' h').inL
  · split at h
    · exact h
    · exact Rep.v h (s.to ρ' h').inL
theorem Res.of (nf : fr T x = false) (h : Rep t ρ' (s.to ρ' h').L H' v d) : Res t T x (s.to ρ' h') H H' v d := by
  unfold Res
  rw [nf]
  split
  · contradiction
  · split
    · exact h.v (s.to ρ' h').inL
    · exact h
/-- what is no list is the same, new or not -/
theorem Res.any (h : Rep t ρ' (s.to ρ' h').L H' v d) (n : ∀ l, d ≠ .lst l) : Res t T x (s.to ρ' h') H H' v d := by
  unfold Res
  cases d with
  | lst l => exact absurd rfl (n l)
  | _ =>
    split
    · exact h
    · split
      · exact h
      · exact h
theorem VRep.step (R : Rel t M s σ H) (a : Stp s.ρ ρ' H H') (r : VRep t s.ρ s.L H v d) : VRep t ρ' (s.to ρ' h').L H' v d := by
  cases d with
  | lst ds =>
    obtain ⟨y, xs, rfl, h1, h3, h2⟩ := r
    refine ⟨y, xs, rfl, a.keep _ _ h1 h3, fun z => ?_, h2.step R a⟩
    rcases a.new y z with q | q
    · exact h3 q
    · rw [h1] at q
      cases q
  | _ => exact Rep.step R a r
end
end CC

set_option Elab.async false
set_option linter.all false
set_option maxRecDepth 100000
set_option maxHeartbeats 1000000
/-! The plain expressions are sound. -/
namespace CC
open PySem PySem.Spec PyProof.Rows L2

def bltL : List Str := ["abs", "int", "sum", "all", "any", "tuple", "list", "min", "isinstance", "len", "range", "enumerate", "zip", "bool", "str"]
structure Hyp (t : Tx) (G : Pg) (T : Tab) (k : Nat) (P : Program) (w : World) (mg : Str → Option Value) (base : Heap) : Prop where
  blt : ∀ x ∈ bltL, mg x = none
  glb : ∀ (g : Nat) (x : Str) (d : D), T.gn[g]? = some x → G.glb g = some d → (∀ l, d ≠ .lst l) ∧ ∃ v u, mg x = some u ∧ RelV v u ∧ ∀ ρ L H, Rep t ρ L H v d
  call : ∀ (f : Nat) (x : Str), T.fn[f]? = some x → ∃ a fd ps, mg x = some (.ref a) ∧ PySem.W.keepIn t.K (.ref a) = true ∧ Binds t.K fd ps [] ∧ (∀ ds h, ds.length ≠ ps.length → G.call f ds h = .bad) ∧
    FnOk P w t.K mg base CX0 k a fd ps (spF t ps.length (G.call f) (T.fr.getD f false))
/-- what of the text a class must have -/
structure ClsH (t : Tx) (G : Pg) (T : Tab) (k : Nat) (P : Program) (w : World) (mg : Str → Option Value) (base : Heap) (c : Nat) : Prop where
  sc : SlX.SCls t.K (t.ca c)
  si : SlX.SIsi t.K (t.ca c)
  ty : ∀ n ∈ ["int", "bool", "tuple", "list", "str"], PySem.W.kitOne t.K (.ref (t.ca c)) (.type n) = some false
  fd : ∀ (f : Nat) (x : Str) (j : Nat), T.fd[f]? = some x → G.fix c f = some j → ∃ p, SlX.Slot1 t.K (t.ca c) x p (t.sl c j)
  mt : ∀ (m : Nat) (x : Str) (f : Nat), T.mn[m]? = some x → G.mth c m = some f → ∃ g np, Meth t.K (t.ca c) x g ∧ (∀ ds h, ds.length ≠ np → G.call f ds h = .bad) ∧ FnR P w t.K mg base CX0 k g (spF t np (G.call f) (T.fr.getD f false))
  pr : ∀ (m : Nat) (x : Str) (f : Nat), T.mn[m]? = some x → G.prp c m = some f → ∃ p g np, PySem.W.findIn t.K (.ref (t.ca c)) x = some (some (.ref p)) ∧ PySem.W.specialIn t.K (.ref p) "__get__" = some (some (.builtin "property.__get__")) ∧
    PySem.W.takesIn t.K (.ref p) = some true ∧ (∃ rest, PySem.W.recIn t.K p "property" = some (.ref g :: rest)) ∧ (∀ ds h, ds.length ≠ np → G.call f ds h = .bad) ∧ FnR P w t.K mg base CX0 k g (spF t np (G.call f) (T.fr.getD f false))
  ne : PySem.W.findIn t.K (.ref (t.ca c)) "__ne__" = some (some (.builtin "object.__ne__"))
  ob : PySem.W.subIn t.K (.ref (t.ca c)) (.type "object") = some true
  fs : ∀ (j : Nat) (x : Str), (T.fs.getD c [])[j]? = some x → ∃ p, SlX.Slot1 t.K (t.ca c) x p (t.sl c j)
  fi : ∀ (i j : Nat), i < (T.fs.getD c []).length → j < (T.fs.getD c []).length → t.sl c i = t.sl c j → i = j
structure HypC (t : Tx) (G : Pg) (T : Tab) (k : Nat) (P : Program) (w : World) (mg : Str → Option Value) (base : Heap) : Prop where
  nm : ∀ (c : Nat) (x : Str), T.cn[c]? = some x → mg x = some (.ref (t.ca c))
  no : ∀ (c : Nat) (x : Str), T.cn[c]? = some x → ∀ n ∈ ["NoneType", "int", "bool", "tuple", "list", "str"], PySem.W.kitOne t.K (.type n) (.ref (t.ca c)) = some false
  is : ∀ (c c' : Nat) (x' : Str), T.cn[c']? = some x' → c < t.nc → PySem.W.kitOne t.K (.ref (t.ca c)) (.ref (t.ca c')) = some (c' == c)
  lt : ∀ (c : Nat) (x : Str), T.cn[c]? = some x → c < t.nc
  all : ∀ c, c < t.nc → ClsH t G T k P w mg base c
  itr : ∀ c j, G.itf c = some j → c < t.nc ∧ ∃ g, PySem.W.findIn t.K (.ref (t.ca c)) "__iter__" = some (some (.ref g)) ∧ PySem.W.isFn t.K (.ref g) = true ∧ FnI P w t.K mg base k g (t.ca c) (t.sl c j)
  nfi : ∀ c c', c < t.nc → c' < t.nc → PySem.W.notFirst t.K (t.ca c) (.ref (t.ca c')) = true
  nf : ∀ c j, j < (T.fs.getD c []).length → c < t.nc
  gm : ∀ c m f, G.mth c m = some f → c < t.nc
  gp : ∀ c m f, G.prp c m = some f → c < t.nc
  mke : ∀ (c : Nat) (x : Str), T.cn[c]? = some x → ∃ f fd ps, Mk t.K (t.ca c) f ∧ Binds t.K fd ps [] ∧ (∀ ds h, ds.length + 1 ≠ ps.length → G.make c ds h = .bad) ∧ FnOk P w t.K mg base CX0 k f fd ps (spI t c ps.length (G.make c))
  mn : T.mn[mLen]? = some "__len__" ∧ T.mn[mEq]? = some "__eq__"
structure CxOk (t : Tx) (G : Pg) (T : Tab) (k : Nat) (C : Ctx) (X : Cx) : Prop where
  calm : X.calm = true
  N : X.N = C.N
  nd : C.N.Nodup
  sc : X.env.scope = C.sc
  K : X.K = t.K
  room : Room (k + 6) X.A
  fn : ∀ x, locB C.raw x = true → X.fn x = true ∨ C.sc.names.lookup x = some .local
  hy : Hyp t G T k X.prog X.w X.mg X.base
  hc : HypC t G T k X.prog X.w X.mg X.base

section
variable {X : Cx} {C : Ctx} {t : Tx} {G : Pg} {T : Tab} {k : Nat}
theorem vis_of (c : CxOk t G T k C X) {x : Str} (h : visB C.sc x = true) : Vis X.env.scope x := by
  rw [c.sc]
  unfold visB at h
  unfold Vis
  split at h <;> simp_all
theorem loc_of (c : CxOk t G T k C X) {x : Str} (h : locB C.sc x = true) : L2.Loc X.env.scope x := by
  rw [c.sc]
  unfold locB at h
  unfold L2.Loc
  split at h <;> simp_all
theorem gl_of (c : CxOk t G T k C X) {x : Str} (h : glB C.sc x = true) : Gl X x := by
  show X.env.scope.names.lookup x = _
  rw [c.sc]
  unfold glB at h
  split at h <;> simp_all
theorem fn_of' (c : CxOk t G T k C X) {x : Str} (h : locB C.raw x = true) : X.fn x = true ∨ X.env.scope.names.lookup x = some .local := by
  rw [c.sc]
  exact c.fn x h
theorem nm_of {x : Str} (h : nmB x = true) : (x == ("__debug__" : Str)) = false ∧ (x == ("__classdict__" : Str)) = false ∧ x ≠ ("__name__" : Str) := by
  unfold nmB at h
  simp only [Bool.and_eq_true, Bool.not_eq_true', decide_eq_true_eq] at h
  exact ⟨h.1.1, h.1.2, h.2⟩
theorem N_of (c : CxOk t G T k C X) {i : Nat} {x : Str} (h : C.N[i]? = some x) : X.N[i]? = some x := by
  rw [c.N]
  exact h
theorem nd_of (c : CxOk t G T k C X) : X.N.Nodup := by
  rw [c.N]
  exact c.nd
end

theorem _root_.L2.PE.imp {X : Cx} {e : Expr} {t u : TE} (h : PE X e t) (k : ∀ σ H Q, u σ H Q → t σ H Q) : PE X e u := ⟨fun pins s σ H Q I q => h.run pins s σ H Q I (k σ H Q q)⟩
theorem _root_.L2.PT.imp {X : Cx} {e : Expr} {t u : TT} (h : PT X e t) (k : ∀ σ H Q, u σ H Q → t σ H Q) : PT X e u := ⟨fun pins s σ H Q I q => h.run pins s σ H Q I (k σ H Q q)⟩
theorem _root_.L2.PW.imp {X : Cx} {e : Expr} {t u : TT} (h : PW X e t) (k : ∀ σ H Q, u σ H Q → t σ H Q) : PW X e u := ⟨fun wh pins s σ H Q I q => h.run wh pins s σ H Q I (k σ H Q q)⟩
theorem _root_.L2.PA.imp {X : Cx} {e : List Expr} {t u : TA} (h : PA X e t) (k : ∀ σ H Q, u σ H Q → t σ H Q) : PA X e u := ⟨fun pos pins s σ H Q I q => h.run pos pins s σ H Q I (k σ H Q q)⟩

structure Snd (t : Tx) (G : Pg) (T : Tab) (k : Nat) (x : E) : Prop where
  pe : ∀ C X ex, CxOk t G T k C X → chkE T x C ex = true → PE X ex (tE t G T C.M x)
  pt : ∀ C X ex, CxOk t G T k C X → chkE T x C ex = true → notIf ex = true → PT X ex (tT t G C.M x)
  pw : ∀ C X op es pos, CxOk t G T k C X → chkE T x C (.BoolOp op es pos) = true → PW X (.BoolOp op es pos) (tT t G C.M x)
  pa : ∀ C X es, CxOk t G T k C X → chkA T x C es = true → PA X es (tA t G C.M x)

def plainX : Expr → Bool
  | .UnaryOp .. => false
  | .BoolOp .. => false
  | .IfExp .. => false
  | .Compare .. => false
  | _ => true
section
variable {X : Cx} {C : Ctx} {t : Tx} {G : Pg} {T : Tab} {k : Nat} {x : E}
theorem isTrue_of (e : Expr) (h : plainX e = true) (env : Env) : ∀ whole, isTrue e env whole = (do let v ← whole; standAt e.pos; holding [v] (truthy v)) := by
  intro whole
  cases e <;> first | rfl | (exact absurd h Bool.false_ne_true)
/-- a value that is a bool, as a test -/
theorem bl_of {M : List Nat} {s : Sit} {σ : L2.St} {H H' : Hp} {ρ' : List Addr} {h' : Hb} {v : V} {b : Bool} (R : Rel t M s σ H) (h : Res t T x (s.to ρ' h') H H' v (.bl b)) : v = .bl b := by
  have q := Res.see R h
  cases (show Rep t ρ' (s.to ρ' h').L H' v (.bl b) from q)
  rfl
theorem int_of {M : List Nat} {s : Sit} {σ : L2.St} {H H' : Hp} {ρ' : List Addr} {h' : Hb} {v : V} {b : Int} (R : Rel t M s σ H) (h : Res t T x (s.to ρ' h') H H' v (.int b)) : v = .int b := by
  have q := Res.see R h
  cases (show Rep t ρ' (s.to ρ' h').L H' v (.int b) from q)
  rfl
theorem tT_tE {M : List Nat} {σ : L2.St} {H : Hp} {Q : Bool → Hp → Prop} (h : tT t G M x σ H Q) : tE t G T M x σ H (fun v H1 => ∃ c, v = .bl c ∧ Q c H1) := by
  obtain ⟨s, R, q⟩ := h
  refine ⟨s, R, ?_⟩
  cases e : ev G x s.e s.h with
  | bad =>
    rw [e] at q
    exact q
  | ok d h' =>
    rw [e] at q
    cases d with
    | bl b => exact fun v H' ρ' st R' res => ⟨b, bl_of R res, q H' ρ' st R'⟩
    | _ => exact q.elim
theorem pt_of {ex : Expr} (h : PE X ex (tE t G T C.M x)) (hp : plainX ex = true) : PT X ex (tT t G C.M x) :=
  (pt_val h (isTrue_of ex hp X.env)).imp fun σ H Q q => tT_tE q
theorem Snd.plain (pe : ∀ C X ex, CxOk t G T k C X → chkE T x C ex = true → PE X ex (tE t G T C.M x)) (hp : ∀ C ex, chkE T x C ex = true → plainX ex = true) (ha : ∀ C es, chkA T x C es = false) : Snd t G T k x where
  pe := pe
  pt := fun C X ex c h _ => pt_of (pe C X ex c h) (hp C ex h)
  pw := fun C X op es pos c h => absurd (hp _ _ h) Bool.false_ne_true
  pa := fun C X es c h => by
    rw [ha] at h
    cases h
end

section
variable {t : Tx} {G : Pg} {T : Tab} {k : Nat}
theorem s_var (i : Nat) : Snd t G T k (.var i) := by
  refine .plain (fun C X ex c h => ?_) (fun C ex h => ?_) (fun C es => rfl)
  · unfold chkE at h
    split at h
    · rename_i x p
      simp only [Bool.and_eq_true, decide_eq_true_eq, Bool.not_eq_true'] at h
      obtain ⟨⟨⟨h1, h2⟩, h3⟩, h4⟩ := h
      have n := nm_of h3
      refine (pe_var (N_of c h1) (vis_of c h2) n.1 n.2.1).imp fun σ H Q q => ?_
      obtain ⟨s, R, q⟩ := q
      have e0 : ev G (.var i) s.e s.h = (match s.e[i]? with | some (some d) => .ok d s.h | _ => .bad) := rfl
      rw [e0] at q
      split at q
      · rename_i d ed
        obtain ⟨v, ev', r⟩ := R.val i d ed (by simpa using h4)
        exact ⟨v, ev', q v H s.ρ (Stp.refl _ _) R (Res.of rfl r)⟩
      · exact q.elim
    · cases h
  · unfold chkE at h
    split at h
    · rfl
    · cases h
theorem s_mvar (i : Nat) : Snd t G T k (.mvar i) := by
  refine .plain (fun C X ex c h => ?_) (fun C ex h => ?_) (fun C es => rfl)
  · unfold chkE at h
    split at h
    · rename_i x p
      simp only [Bool.and_eq_true, decide_eq_true_eq] at h
      obtain ⟨⟨⟨h1, h2⟩, h3⟩, h4⟩ := h
      have n := nm_of h3
      refine (pe_var (N_of c h1) (vis_of c h2) n.1 n.2.1).imp fun σ H Q q => ?_
      obtain ⟨s, R, q⟩ := q
      have e0 : ev G (.mvar i) s.e s.h = (match s.e[i]? with | some (some (.lst l)) => .ok (.lst l) s.h | _ => .bad) := rfl
      rw [e0] at q
      split at q
      · rename_i ds ed
        obtain ⟨a, ma, ev', xs, e1, e2⟩ := R.own i _ ed (by simpa using h4)
        exact ⟨_, ev', q _ H s.ρ (Stp.refl _ _) R ⟨a, xs, rfl, e1, (R.mfr i a ma).1, e2⟩⟩
      · exact q.elim
    · cases h
  · unfold chkE at h
    split at h
    · rfl
    · cases h
theorem s_cst (c : Const) : Snd t G T k (.cst c) := by
  refine .plain (fun C X ex cx h => ?_) (fun C ex h => ?_) (fun C es => rfl)
  · unfold chkE at h
    split at h
    · rename_i c' j p
      have e := of_decide_eq_true h
      subst e
      have fin : ∀ {d : D} {v : V} {σ : L2.St} {H : Hp} {Q : VK}, (∀ e h, ev G (.cst c) e h = .ok d h) → (∀ ρ L H, Rep t ρ L H v d) → (∀ l, d ≠ .lst l) → tE t G T C.M (.cst c) σ H Q → Q v H := fun {d v σ H Q} he hr hl q => by
        obtain ⟨s, R, q⟩ := q
        rw [he] at q
        exact q v H s.ρ (Stp.refl _ _) R (Res.any (hr _ _ _) hl)
      cases c with
      | none => exact pe_non.imp fun σ H Q q => fin (d := .non) (fun _ _ => rfl) (fun _ _ _ => .non) (fun _ z => nomatch z) q
      | bool b => exact pe_bl.imp fun σ H Q q => fin (d := .bl b) (fun _ _ => rfl) (fun _ _ _ => .bl b) (fun _ z => nomatch z) q
      | int b => exact pe_int.imp fun σ H Q q => fin (d := .int b) (fun _ _ => rfl) (fun _ _ _ => .int b) (fun _ z => nomatch z) q
      | str b => exact pe_str.imp fun σ H Q q => fin (d := .str b) (fun _ _ => rfl) (fun _ _ _ => .str b) (fun _ z => nomatch z) q
      | _ => exact ⟨fun pins s σ H Q I ⟨s, R, q⟩ => q.elim⟩
    · cases h
  · unfold chkE at h
    split at h
    · rfl
    · cases h
theorem s_glb (g : Nat) : Snd t G T k (.glb g) := by
  refine .plain (fun C X ex c h => ?_) (fun C ex h => ?_) (fun C es => rfl)
  · unfold chkE at h
    split at h
    · rename_i x p
      simp only [Bool.and_eq_true, decide_eq_true_eq] at h
      obtain ⟨⟨h1, h2⟩, h3⟩ := h
      have n := nm_of h3
      cases e : G.glb g with
      | none =>
        refine ⟨fun pins s σ H Q I ⟨s, R, q⟩ => ?_⟩
        have e0 : ev G (.glb g) s.e s.h = (match G.glb g with | some d => .ok d s.h | none => .bad) := rfl
        rw [e0, e] at q
        exact q.elim
      | some d =>
        obtain ⟨nl, v, u, e1, e2, e3⟩ := c.hy.glb g x d h1 e
        refine (pe_glob (gl_of c h2) e1 e2 n.1).imp fun σ H Q ⟨s, R, q⟩ => ?_
        have e0 : ev G (.glb g) s.e s.h = (match G.glb g with | some d => .ok d s.h | none => .bad) := rfl
        rw [e0, e] at q
        exact q v H s.ρ (Stp.refl _ _) R (Res.any (e3 _ _ _) nl)
    · cases h
  · unfold chkE at h
    split at h
    · rfl
    · cases h
end
end CC

set_option Elab.async false
set_option linter.all false
set_option maxRecDepth 100000
set_option maxHeartbeats 1000000
namespace CC
open PySem PySem.Spec PyProof.Rows L2

/-! ### two operands -/
def rB (K : PySem.W.Frag) : Bop → R2
  | .add => fun x y H Q => rI0 (fun i j => .int (i + j)) x y H Q ∨ rCat x y H Q ∨ rCatT K x y H Q
  | .sub => rI0 fun i j => .int (i - j)
  | .mul => fun x y H Q => rI IntMulOk (fun i j => .int (i * j)) x y H Q ∨ rRep x y H Q ∨ rRepT K x y H Q
  | .fdiv => rI CDivX fun i j => .int (i.fdiv j)
  | .mod => rI (fun _ j => j ≠ 0) fun i j => .int (i.fmod j)
  | .pow => rI CPow fun i j => .int (i ^ j.toNat)
theorem op_B {X : Cx} (op : Bop) : OpR X (binaryOp (opO op)) (rB X.K op) := by
  cases op with
  | add => exact OpR.or op_add (OpR.or op_cat op_catT)
  | sub => exact op_sub
  | mul => exact OpR.or op_mulX (OpR.or op_rep op_repT)
  | fdiv => exact op_fdivX
  | mod => exact op_modN
  | pow => exact op_pow
/-- behind an operation that leaves the boxes -/
def AftO (t : Tx) (M : List Nat) (s : Sit) (σ : L2.St) (H : Hp) (r : R D) (Q : VK) : Prop := match r with
  | .ok d h' => h' = s.h → ∀ v H', Stp s.ρ s.ρ H H' → Rel t M s σ H' → FRep t s.ρ s.L H H' v d → Q v H'
  | .bad => False
theorem small6 {n : Nat} (h : n ≤ 1000000) : n ≤ sizeLine := Nat.le_trans h (by decide)
section
variable {t : Tx} {M : List Nat} {s : Sit} {σ : L2.St} {H : Hp} {x y : V} {da db : D} {Q : VK}
theorem AftO.int {i : Int} (R : Rel t M s σ H) (h : AftO t M s σ H (.ok (.int i) s.h) Q) : Q (.int i) H := h rfl _ H (Stp.refl _ _) R (Rep.int i)
theorem AftO.bl {b : Bool} (R : Rel t M s σ H) (h : AftO t M s σ H (.ok (.bl b) s.h) Q) : Q (.bl b) H := h rfl _ H (Stp.refl _ _) R (Rep.bl b)
theorem AftO.lst {xs : List V} {ds : List D} (R : Rel t M s σ H) (h : AftO t M s σ H (.ok (.lst ds) s.h) Q) (r : Reps t s.ρ s.L H xs ds) : ∀ p, H p = none → Q (.ref p) (upd H p (.lst xs)) := fun p hp => by
  refine h rfl _ _ (Stp.laid hp) (R.laid hp) ⟨p, xs, rfl, hp, upd_same, fun z => R.free hp (.inr (.inl z)), ?_⟩
  refine Reps.move (fun _ _ e => e) (fun b o e n => ⟨by rw [upd_ne (ne_of_none e hp)]; exact e, fun z => ?_⟩) (fun b o e _ => by rw [upd_ne (ne_of_none e hp)]; exact e) ds xs r
  rcases z with z | z
  · exact n z
  · exact ne_of_none e hp z
theorem AftO.tup {xs : List V} {ds : List D} (R : Rel t M s σ H) (h : AftO t M s σ H (.ok (.tup ds) s.h) Q) (r : Reps t s.ρ s.L H xs ds) : ∀ p, H p = none → Q (.ref p) (upd H p (.tup xs)) := fun p hp => by
  refine h rfl _ _ (Stp.laid hp) (R.laid hp) (Rep.tup (.inl (.inl upd_same)) ?_)
  exact Reps.move (fun _ _ e => e) (fun b o e n => ⟨by rw [upd_ne (ne_of_none e hp)]; exact e, n⟩) (fun b o e _ => by rw [upd_ne (ne_of_none e hp)]; exact e) ds xs r
theorem Reps.flat {t : Tx} {ρ : List Addr} {L : Addr → Prop} {xs : List V} {ds : List D} (r : Reps t ρ L H xs ds) : ∀ n, Reps t ρ L H (List.replicate n xs).flatten (List.replicate n ds).flatten
  | 0 => .nil
  | n + 1 => by
    rw [List.replicate_succ, List.replicate_succ, List.flatten_cons, List.flatten_cons]
    exact r.append (Reps.flat r n)
theorem bin_go (op : Bop) (R : Rel t M s σ H) (rx : VRep t s.ρ s.L H x da) (ry : VRep t s.ρ s.L H y db) (h : AftO t M s σ H (binD op da db s.h) Q) : rB t.K op x y H Q := by
  unfold binD at h
  split at h
  · cases (show Rep _ _ _ _ x _ from rx); cases (show Rep _ _ _ _ y _ from ry)
    exact .inl ⟨_, _, rfl, rfl, AftO.int R h⟩
  · obtain ⟨a, xs, rfl, h1, _, r1⟩ := rx
    obtain ⟨b, ys, rfl, h2, _, r2⟩ := ry
    split at h
    · rename_i hz
      rw [← r1.length, ← r2.length] at hz
      exact .inr (.inl ⟨a, b, xs, ys, rfl, rfl, h1, h2, small6 hz, AftO.lst R h (r1.append r2)⟩)
    · exact h.elim
  · split at h
    · rename_i hz
      cases (show Rep _ _ _ _ x _ from rx) with
      | tup q1 r1 =>
        cases (show Rep _ _ _ _ y _ from ry) with
        | tup q2 r2 =>
          rename_i a r b q hz2 a1 xs a2 ys
          have l1 := r1.length
          have l2 := r2.length
          rw [List.length_cons] at l1 l2
          refine .inr (.inr ⟨a1, a2, xs, ys, rfl, rfl, q1, q2, fun z => ?_, ?_, fun z => ?_, fun _ => AftO.tup R h (r1.append r2)⟩)
          · rw [z] at l1; cases l1
          · exact Nat.le_trans (by omega : xs.length + ys.length ≤ 1000002) (by decide)
          · rw [z] at l2; cases l2
    · exact h.elim
  · cases (show Rep _ _ _ _ x _ from rx); cases (show Rep _ _ _ _ y _ from ry)
    exact ⟨_, _, rfl, rfl, AftO.int R h⟩
  · split at h
    · rename_i hz
      cases (show Rep _ _ _ _ x _ from rx); cases (show Rep _ _ _ _ y _ from ry)
      exact .inl ⟨_, _, rfl, rfl, hz, AftO.int R h⟩
    · exact h.elim
  · split at h
    · rename_i hz
      obtain ⟨a, xs, rfl, h1, _, r1⟩ := rx
      cases (show Rep _ _ _ _ y _ from ry)
      simp only [Bool.and_eq_true, decide_eq_true_eq] at hz
      rw [← r1.length] at hz
      exact .inr (.inl ⟨a, _, xs, rfl, rfl, h1, by omega, by omega, small6 hz.1.1, AftO.lst R h (r1.flat _)⟩)
    · exact h.elim
  · split at h
    · rename_i hz
      cases (show Rep _ _ _ _ y _ from ry)
      cases (show Rep _ _ _ _ x _ from rx) with
      | tup q1 r1 =>
        simp only [Bool.and_eq_true, decide_eq_true_eq] at hz
        rw [← r1.length] at hz
        exact .inr (.inr ⟨_, _, _, rfl, rfl, q1, List.ne_nil_of_length_pos hz.1.2, by omega, by omega, hz.2, AftO.tup R h (r1.flat _)⟩)
    · exact h.elim
  · split at h
    · rename_i hz
      cases (show Rep _ _ _ _ x _ from rx); cases (show Rep _ _ _ _ y _ from ry)
      simp only [Bool.and_eq_true, decide_eq_true_eq] at hz
      exact ⟨_, _, rfl, rfl, hz, AftO.int R h⟩
    · exact h.elim
  · split at h
    · rename_i hz
      cases (show Rep _ _ _ _ x _ from rx); cases (show Rep _ _ _ _ y _ from ry)
      exact ⟨_, _, rfl, rfl, hz, AftO.int R h⟩
    · exact h.elim
  · split at h
    · rename_i hz
      cases (show Rep _ _ _ _ x _ from rx); cases (show Rep _ _ _ _ y _ from ry)
      simp only [Bool.and_eq_true, decide_eq_true_eq] at hz
      exact ⟨_, _, rfl, rfl, ⟨hz.1.1, by omega, by omega⟩, AftO.int R h⟩
    · exact h.elim
  · exact h.elim
end

/-- a value from two, by an operation that leaves the boxes -/
theorem two_go {t : Tx} {G : Pg} {T : Tab} {M : List Nat} {z a b : E} {f : D → D → Hb → R D} {r : R2} (hev : ∀ e h, ev G z e h = (ev G a e h).bind fun x h => (ev G b e h).bind fun y h => f x y h)
    (hf : ∀ x y h d h', f x y h = .ok d h' → h' = h)
    (hr : ∀ (s : Sit) (σ : L2.St) (H : Hp) (x y : V) (da db : D) (Q : VK), Rel t M s σ H → VRep t s.ρ s.L H x da → VRep t s.ρ s.L H y db → AftO t M s σ H (f da db s.h) Q → r x y H Q) :
    ∀ σ H Q, tE t G T M z σ H Q → tOp r (tE t G T M a) (tE t G T M b) σ H Q := by
  intro σ H Q ⟨s, R, q⟩
  rw [hev] at q
  cases e1 : ev G a s.e s.h with
  | bad => rw [e1] at q; exact q.elim
  | ok da h1 =>
    rw [e1] at q
    have q : Aft t T M z s σ H ((ev G b s.e h1).bind fun y h => f da y h) Q := q
    refine ⟨s, R, ?_⟩
    rw [e1]
    intro v H1 ρ1 st1 R1 res1
    refine ⟨s.to ρ1 h1, R1, ?_⟩
    show Aft t T M b (s.to ρ1 h1) σ H1 (ev G b s.e h1) _
    cases e2 : ev G b s.e h1 with
    | bad => rw [e2] at q; exact q.elim
    | ok db h2 =>
      rw [e2] at q
      have q : Aft t T M z s σ H (f da db h2) Q := q
      intro u H2 ρ2 st2 R2 res2
      have R2 : Rel t M (s.to ρ2 h2) σ H2 := R2
      refine hr (s.to ρ2 h2) σ H2 v u da db Q R2 (VRep.step (s := s.to ρ1 h1) (h' := h2) R1 st2 (Res.see R res1)) (Res.see (s := s.to ρ1 h1) R1 res2) ?_
      show AftO t M (s.to ρ2 h2) σ H2 (f da db h2) Q
      cases e3 : f da db h2 with
      | bad => rw [e3] at q; exact q.elim
      | ok d h3 =>
        have eh := hf _ _ _ _ _ e3
        subst eh
        rw [e3] at q
        intro _ w H3 st3 R3 fr3
        have st : Stp s.ρ ρ2 H H3 := (st1.trans st2).trans st3
        refine q w H3 ρ2 st R3 ?_
        unfold Res
        split
        · cases d with
          | lst ds =>
            obtain ⟨p, xs, h1, h2, h3, h4, h5⟩ := fr3
            exact ⟨p, xs, h1, (st1.trans st2).free h2, h3, h4, h5⟩
          | _ => exact fr3
        · have r3 : Rep t ρ2 (s.to ρ2 h3).L H3 w d := FRep.rep (s := s.to ρ2 h3) R2 fr3
          split
          · exact r3.v (s.to ρ2 h3).inL
          · exact r3
/-- behind an operation that hands on what stands -/
def AftR (t : Tx) (M : List Nat) (s : Sit) (σ : L2.St) (H : Hp) (r : R D) (Q : VK) : Prop := match r with
  | .ok d h' => h' = s.h → ∀ v H', Stp s.ρ s.ρ H H' → Rel t M s σ H' → Rep t s.ρ s.L H' v d → Q v H'
  | .bad => False
theorem two_goR {t : Tx} {G : Pg} {T : Tab} {M : List Nat} {z a b : E} {f : D → D → Hb → R D} {r : R2} (nf : fr T z = false) (hev : ∀ e h, ev G z e h = (ev G a e h).bind fun x h => (ev G b e h).bind fun y h => f x y h)
    (hf : ∀ x y h d h', f x y h = .ok d h' → h' = h)
    (hr : ∀ (s : Sit) (σ : L2.St) (H : Hp) (x y : V) (da db : D) (Q : VK), Rel t M s σ H → VRep t s.ρ s.L H x da → VRep t s.ρ s.L H y db → AftR t M s σ H (f da db s.h) Q → r x y H Q) :
    ∀ σ H Q, tE t G T M z σ H Q → tOp r (tE t G T M a) (tE t G T M b) σ H Q := by
  intro σ H Q ⟨s, R, q⟩
  rw [hev] at q
  cases e1 : ev G a s.e s.h with
  | bad => rw [e1] at q; exact q.elim
  | ok da h1 =>
    rw [e1] at q
    have q : Aft t T M z s σ H ((ev G b s.e h1).bind fun y h => f da y h) Q := q
    refine ⟨s, R, ?_⟩
    rw [e1]
    intro v H1 ρ1 st1 R1 res1
    refine ⟨s.to ρ1 h1, R1, ?_⟩
    show Aft t T M b (s.to ρ1 h1) σ H1 (ev G b s.e h1) _
    cases e2 : ev G b s.e h1 with
    | bad => rw [e2] at q; exact q.elim
    | ok db h2 =>
      rw [e2] at q
      have q : Aft t T M z s σ H (f da db h2) Q := q
      intro u H2 ρ2 st2 R2 res2
      have R2 : Rel t M (s.to ρ2 h2) σ H2 := R2
      refine hr (s.to ρ2 h2) σ H2 v u da db Q R2 (VRep.step (s := s.to ρ1 h1) (h' := h2) R1 st2 (Res.see R res1)) (Res.see (s := s.to ρ1 h1) R1 res2) ?_
      show AftR t M (s.to ρ2 h2) σ H2 (f da db h2) Q
      cases e3 : f da db h2 with
      | bad => rw [e3] at q; exact q.elim
      | ok d h3 =>
        have eh := hf _ _ _ _ _ e3
        subst eh
        rw [e3] at q
        exact fun _ w H3 st3 R3 r3 => q w H3 ρ2 ((st1.trans st2).trans st3) R3 (Res.of (s := s) nf r3)
theorem s_bin {t : Tx} {G : Pg} {T : Tab} {k : Nat} (op : Bop) {a b : E} (ia : Snd t G T k a) (ib : Snd t G T k b) : Snd t G T k (.bin op a b) := by
  refine .plain (fun C X ex c h => ?_) (fun C ex h => ?_) (fun C es => rfl)
  · unfold chkE at h
    split at h
    · rename_i l o r p
      simp only [Bool.and_eq_true, decide_eq_true_eq] at h
      obtain ⟨⟨h1, h2⟩, h3⟩ := h
      subst h1
      refine (pe_op (op_B op) (ia.pe C X l c h2) (ib.pe C X r c h3)).imp ?_
      rw [c.K]
      refine two_go (f := binD op) (fun _ _ => rfl) (fun x y h d h' e => ?_) (fun s σ H x y da db Q R rx ry q => bin_go op R rx ry q)
      unfold binD at e
      repeat' split at e
      all_goals first | (injection e with _ e; exact e.symm) | cases e
    · cases h
  · unfold chkE at h
    split at h
    · rfl
    · cases h
end CC

set_option Elab.async false
set_option linter.all false
set_option maxRecDepth 100000
set_option maxHeartbeats 1000000
namespace CC
open PySem PySem.Spec PyProof.Rows L2

/-! ### comparisons -/
section
variable {t : Tx} {M : List Nat} {s : Sit} {σ : L2.St} {H : Hp} {x y : V} {d da db : D} {Q : VK}
theorem VRep.dp {p : PyData} (r : VRep t s.ρ s.L H x d) (e : d.py = some p) : Dp t.K H x p := by
  cases d with
  | lst ds =>
    obtain ⟨a, xs, rfl, h1, _, r1⟩ := r
    simp only [D.py, Option.map_eq_some_iff] at e
    obtain ⟨ps, e1, rfl⟩ := e
    exact .lst (.inl (.inl h1)) (Reps.dp _ _ _ e1 r1)
  | _ => exact Rep.dp _ _ _ e r
/-- a box is seen by its list -/
theorem VRep.view (R : Rel t M s σ H) (r : VRep t s.ρ s.L H x d) : (∃ a xs ds, x = .ref a ∧ viewD s.h d = .lst ds ∧ H a = some (.lst xs) ∧ Reps t s.ρ s.L H xs ds) ∨ ((∀ l, viewD s.h d ≠ .lst l) ∧ Rep t s.ρ s.L H x (viewD s.h d)) := by
  cases d with
  | lst ds =>
    obtain ⟨a, xs, rfl, h1, _, r1⟩ := r
    exact .inl ⟨a, xs, ds, rfl, rfl, h1, r1⟩
  | obj n =>
    cases (show Rep _ _ _ _ x _ from r) with
    | obj q =>
      have hn : n < s.h.length := by
        rw [R.blen]
        exact (List.getElem?_eq_some_iff.mp q).1
      cases e : s.h[n] with
      | lst l =>
        have e2 : s.h[n]? = some (.lst l) := by rw [List.getElem?_eq_getElem hn, e]
        obtain ⟨_, a', xs, h1, h2, h3⟩ := R.box n l e2
        rw [q] at h1
        cases h1
        refine .inl ⟨_, xs, l, rfl, ?_, h2, h3⟩
        unfold viewD
        simp only [e2]
  | ft l =>
    cases (show Rep _ _ _ _ x _ from r) with
    | ft q _ rs => exact .inr ⟨fun _ z => (by cases z), .tup (.inl (.inr ⟨_, q⟩)) rs⟩
  | _ => exact .inr ⟨fun _ z => (by cases z), r⟩
theorem VRep.vdp {p : PyData} (R : Rel t M s σ H) (r : VRep t s.ρ s.L H x d) (e : (viewD s.h d).py = some p) : Dp t.K H x p := by
  rcases r.view R with ⟨a, xs, ds, rfl, e1, h1, r1⟩ | ⟨_, r1⟩
  · rw [e1] at e
    simp only [D.py, Option.map_eq_some_iff] at e
    obtain ⟨ps, e2, rfl⟩ := e
    exact .lst (.inl (.inl h1)) (Reps.dp _ _ _ e2 r1)
  · exact Rep.dp _ _ _ e r1
end
def rC (K : PySem.W.Frag) : Cop → R2
  | .eq => rEqD K
  | .ne => rNeD K
  | .lt => rI0 fun i j => .bl (decide (i < j))
  | .le => rI0 fun i j => .bl (decide (i ≤ j))
  | .gt => rI0 fun i j => .bl (decide (j < i))
  | .ge => rI0 fun i j => .bl (decide (j ≤ i))
  | .isN => fun x y H Q => y = .non ∧ Q (.bl (decide (x = .non))) H
  | .notN => fun x y H Q => y = .non ∧ Q (.bl (!decide (x = .non))) H
theorem op_C {X : Cx} (hu : X.A.units + 64 < cLine) (op : Cop) : OpR X (compareOp (coO op)) (rC X.K op) := by
  cases op with
  | eq => exact op_eqD hu
  | ne => exact op_neD hu
  | lt => exact op_lt
  | le => exact op_le
  | gt => exact op_gt
  | ge => exact op_ge
  | isN => exact op_isN
  | notN => exact op_notN
theorem mark_C (op : Cop) (b : Expr) : behindInMarks (coO op) b = false := by
  cases op <;> exact nomark b (by intro z; cases z) (by intro z; cases z)
section
variable {t : Tx} {M : List Nat} {s : Sit} {σ : L2.St} {H : Hp} {x y : V} {d da db : D} {Q : VK}
theorem VRep.non (r : VRep t s.ρ s.L H x d) : decide (x = V.non) = d.isN := by
  cases d with
  | lst ds =>
    obtain ⟨a, xs, rfl, _⟩ := r
    rfl
  | _ =>
    cases (show Rep _ _ _ _ x _ from r)
    all_goals rfl
theorem cmp_go (op : Cop) (R : Rel t M s σ H) (hn : (op = .isN ∨ op = .notN) → y = .non) (rx : VRep t s.ρ s.L H x da) (ry : VRep t s.ρ s.L H y db) (h : AftO t M s σ H (cmpD op da db s.h) Q) : rC t.K op x y H Q := by
  unfold cmpD at h
  split at h
  · cases (show Rep _ _ _ _ x _ from rx); cases (show Rep _ _ _ _ y _ from ry)
    exact ⟨_, _, rfl, rfl, AftO.bl R h⟩
  · cases (show Rep _ _ _ _ x _ from rx); cases (show Rep _ _ _ _ y _ from ry)
    exact ⟨_, _, rfl, rfl, AftO.bl R h⟩
  · cases (show Rep _ _ _ _ x _ from rx); cases (show Rep _ _ _ _ y _ from ry)
    exact ⟨_, _, rfl, rfl, AftO.bl R h⟩
  · cases (show Rep _ _ _ _ x _ from rx); cases (show Rep _ _ _ _ y _ from ry)
    exact ⟨_, _, rfl, rfl, AftO.bl R h⟩
  · split at h
    · rename_i b e
      unfold dEq at e
      split at e
      · rename_i p q e1 e2
        split at e
        · rename_i sh
          rw [Bool.and_eq_true] at sh
          cases e
          exact ⟨p, q, rx.vdp R e1, ry.vdp R e2, sh.1, sh.2, AftO.bl R h⟩
        · cases e
      · cases e
    · exact h.elim
  · split at h
    · rename_i b e
      unfold dEq at e
      split at e
      · rename_i p q e1 e2
        split at e
        · rename_i sh
          rw [Bool.and_eq_true] at sh
          cases e
          exact ⟨p, q, rx.vdp R e1, ry.vdp R e2, sh.1, sh.2, AftO.bl R h⟩
        · cases e
      · cases e
    · exact h.elim
  · refine ⟨hn (.inl rfl), ?_⟩
    rw [rx.non]
    exact AftO.bl R h
  · refine ⟨hn (.inr rfl), ?_⟩
    rw [rx.non]
    exact AftO.bl R h
  · exact h.elim
end
/-- two_go where the right one is None by the text -/
theorem cmp_heap (op : Cop) : ∀ x y h d h', cmpD op x y h = .ok d h' → h' = h := by
  intro x y h d h' e
  unfold cmpD at e
  repeat' split at e
  all_goals first | (injection e with _ e; exact e.symm) | cases e
theorem none_go {t : Tx} {G : Pg} {T : Tab} {k : Nat} {C : Ctx} {b : E} {r : Expr} (hb : chkE T b C r = true) (hr : isNoneC r = true) : b = .cst .none := by
  unfold isNoneC at hr
  split at hr
  · cases b <;> first | (exact absurd hb Bool.false_ne_true) | skip
    rename_i c
    have := of_decide_eq_true (show decide (c = Const.none) = true from hb)
    rw [this]
  · cases hr
theorem cmp_two {t : Tx} {G : Pg} {T : Tab} {C : Ctx} {op : Cop} {a b : E} {r : Expr} (hb : chkE T b C r = true) (hn : (match op with | .isN | .notN => isNoneC r | _ => true) = true) :
    ∀ σ H Q, tE t G T C.M (.cmp op a b) σ H Q → tOp (rC t.K op) (tE t G T C.M a) (tE t G T C.M b) σ H Q := by
  by_cases ho : op = .isN ∨ op = .notN
  · have hr : isNoneC r = true := by
      rcases ho with rfl | rfl <;> exact hn
    have eb := none_go (t := t) (G := G) (k := 0) hb hr
    subst eb
    intro σ H Q q
    have q2 := two_go (t := t) (G := G) (T := T) (M := C.M) (z := .cmp op a (.cst .none)) (a := a) (b := .cst .none) (f := cmpD op) (r := fun x y H Q => y = .non → rC t.K op x y H Q) (fun _ _ => rfl) (cmp_heap op)
      (fun s σ H x y da db Q R rx ry q hy => cmp_go op R (fun _ => hy) rx ry q) σ H Q q
    obtain ⟨s, R, q2⟩ := q2
    refine ⟨s, R, ?_⟩
    cases e1 : ev G a s.e s.h with
    | bad => rw [e1] at q2; exact q2.elim
    | ok da h1 =>
      rw [e1] at q2
      intro v H' ρ' st R' res
      obtain ⟨s2, R2, q3⟩ := q2 v H' ρ' st R' res
      refine ⟨s2, R2, ?_⟩
      have e2 : ev G (.cst .none) s2.e s2.h = .ok .non s2.h := rfl
      rw [e2] at q3 ⊢
      intro u H3 ρ3 st3 R3 res3
      have hu : u = .non := by
        have z := Res.see R2 res3
        cases (show Rep _ _ _ _ u .non from z)
        rfl
      exact q3 u H3 ρ3 st3 R3 res3 hu
  · exact two_go (f := cmpD op) (fun _ _ => rfl) (cmp_heap op) (fun s σ H x y da db Q R rx ry q => cmp_go op R (fun z => absurd z ho) rx ry q)
theorem s_cmp {t : Tx} {G : Pg} {T : Tab} {k : Nat} (op : Cop) {a b : E} (ia : Snd t G T k a) (ib : Snd t G T k b) : Snd t G T k (.cmp op a b) := by
  refine ⟨fun C X ex c h => ?_, fun C X ex c h hif => ?_, fun C X o es p c h => ?_, fun C X es c h => ?_⟩
  · unfold chkE at h
    split at h
    · rename_i l o r p
      simp only [Bool.and_eq_true, decide_eq_true_eq] at h
      obtain ⟨⟨⟨h1, h2⟩, h3⟩, h4⟩ := h
      subst h1
      refine (pe_cmpR (op_C c.room.units op) (ia.pe C X l c h2) (ib.pe C X r c h3) (mark_C op r)).imp ?_
      rw [c.K]
      exact cmp_two h3 h4
    · cases h
  · unfold chkE at h
    split at h
    · rename_i l o r p
      simp only [Bool.and_eq_true, decide_eq_true_eq] at h
      obtain ⟨⟨⟨h1, h2⟩, h3⟩, h4⟩ := h
      subst h1
      refine (pt_cmpR (op_C c.room.units op) (ia.pe C X l c h2) (ib.pe C X r c h3) (mark_C op r)).imp ?_
      rw [c.K]
      exact fun σ H Q q => cmp_two h3 h4 σ H _ (tT_tE q)
    · cases h
  · cases (show false = true from h)
  · cases (show false = true from h)
end CC

set_option Elab.async false
set_option linter.all false
set_option maxRecDepth 100000
set_option maxHeartbeats 1000000
namespace CC
open PySem PySem.Spec PyProof.Rows L2

section
variable {t : Tx} {G : Pg} {T : Tab} {k : Nat}
/-! ### one operand -/
theorem s_neg {a : E} (ia : Snd t G T k a) : Snd t G T k (.neg a) := by
  refine ⟨fun C X ex c h => ?_, fun C X ex c h hif => ?_, fun C X o es p c h => ?_, fun C X es c h => ?_⟩
  · unfold chkE at h
    split at h
    · rename_i o x p
      simp only [Bool.and_eq_true, decide_eq_true_eq] at h
      obtain ⟨h1, h2⟩ := h
      subst h1
      refine (pe_un un_neg (ia.pe C X x c h2)).imp fun σ H Q ⟨s, R, q⟩ => ?_
      have e0 : ev G (.neg a) s.e s.h = (ev G a s.e s.h).bind fun x h => match x with | .int i => .ok (.int (-i)) h | _ => .bad := rfl
      rw [e0] at q
      refine ⟨s, R, ?_⟩
      cases e1 : ev G a s.e s.h with
      | bad => rw [e1] at q; exact q.elim
      | ok d h1 =>
        rw [e1] at q
        cases d with
        | int i =>
          intro v H1 ρ1 st R1 res
          exact ⟨i, int_of R res, q _ H1 ρ1 st R1 (Res.any (.int _) fun _ z => nomatch z)⟩
        | _ => exact q.elim
    · cases h
  · unfold chkE at h
    split at h
    · rename_i o x p
      simp only [Bool.and_eq_true, decide_eq_true_eq] at h
      obtain ⟨h1, h2⟩ := h
      subst h1
      refine ⟨fun pins s0 σ H Q I q => ?_⟩
      obtain ⟨s, R, q⟩ := q
      have e0 : ev G (.neg a) s.e s.h = (ev G a s.e s.h).bind fun x h => match x with | .int i => .ok (.int (-i)) h | _ => .bad := rfl
      rw [e0] at q
      cases e1 : ev G a s.e s.h with
      | bad => rw [e1] at q; exact q.elim
      | ok d h1 =>
        rw [e1] at q
        cases d <;> exact q.elim
    · cases h
  · cases (show false = true from h)
  · cases (show false = true from h)
theorem s_not {a : E} (ia : Snd t G T k a) : Snd t G T k (.not a) := by
  have key : ∀ {M : List Nat} {σ : L2.St} {H : Hp} {Q : Bool → Hp → Prop}, tT t G M (.not a) σ H Q → tT t G M a σ H fun b H1 => Q (!b) H1 := fun {M σ H Q} ⟨s, R, q⟩ => by
    have e0 : ev G (.not a) s.e s.h = (ev G a s.e s.h).bind fun x h => match x with | .bl b => .ok (.bl (!b)) h | _ => .bad := rfl
    rw [e0] at q
    refine ⟨s, R, ?_⟩
    cases e1 : ev G a s.e s.h with
    | bad => rw [e1] at q; exact q.elim
    | ok d h1 =>
      rw [e1] at q
      cases d with
      | bl b => exact q
      | _ => exact q.elim
  refine ⟨fun C X ex c h => ?_, fun C X ex c h hif => ?_, fun C X o es p c h => ?_, fun C X es c h => ?_⟩
  · unfold chkE at h
    split at h
    · rename_i o x p
      simp only [Bool.and_eq_true, decide_eq_true_eq] at h
      obtain ⟨⟨h1, h2⟩, h3⟩ := h
      subst h1
      refine (pe_not (ia.pe C X x c h2)).imp fun σ H Q ⟨s, R, q⟩ => ?_
      have e0 : ev G (.not a) s.e s.h = (ev G a s.e s.h).bind fun x h => match x with | .bl b => .ok (.bl (!b)) h | _ => .bad := rfl
      rw [e0] at q
      refine ⟨s, R, ?_⟩
      cases e1 : ev G a s.e s.h with
      | bad => rw [e1] at q; exact q.elim
      | ok d h1 =>
        rw [e1] at q
        cases d with
        | bl b =>
          intro v H1 ρ1 st R1 res
          exact ⟨b, bl_of R res, q _ H1 ρ1 st R1 (Res.any (.bl _) fun _ z => nomatch z)⟩
        | _ => exact q.elim
    · cases h
  · unfold chkE at h
    split at h
    · rename_i o x p
      simp only [Bool.and_eq_true, decide_eq_true_eq] at h
      obtain ⟨⟨h1, h2⟩, h3⟩ := h
      subst h1
      exact (pt_not (ia.pt C X x c h2 h3)).imp fun σ H Q q => key q
    · cases h
  · cases (show false = true from h)
  · cases (show false = true from h)

/-! ### and, or -/
theorem and_E {M : List Nat} {a b : E} {σ : L2.St} {H : Hp} {Q : VK} (h : tE t G T M (.and a b) σ H Q) : tAndV (tE t G T M a) (tE t G T M b) σ H Q := by
  obtain ⟨s, R, q⟩ := h
  refine ⟨s, R, ?_⟩
  have e0 : ev G (.and a b) s.e s.h = (ev G a s.e s.h).bind fun x h => match x with
    | .bl true => (ev G b s.e h).bind fun y h => match y with | .bl b => .ok (.bl b) h | _ => .bad
    | .bl false => .ok (.bl false) h
    | _ => .bad := rfl
  rw [e0] at q
  cases e1 : ev G a s.e s.h with
  | bad => rw [e1] at q; exact q.elim
  | ok d h1 =>
    rw [e1] at q
    cases d with
    | bl c =>
      intro v H1 ρ1 st R1 res
      refine ⟨c, bl_of R res, ?_⟩
      cases c with
      | false =>
        rw [if_neg Bool.false_ne_true]
        exact q _ H1 ρ1 st R1 (Res.any (.bl _) fun _ z => nomatch z)
      | true =>
        rw [if_pos rfl]
        refine ⟨s.to ρ1 h1, R1, ?_⟩
        show Aft t T M b (s.to ρ1 h1) σ H1 (ev G b s.e h1) Q
        have q : Aft t T M (.and a b) s σ H ((ev G b s.e h1).bind fun y h => match y with | .bl b => .ok (.bl b) h | _ => .bad) Q := q
        cases e2 : ev G b s.e h1 with
        | bad => rw [e2] at q; exact q.elim
        | ok d2 h2 =>
          rw [e2] at q
          cases d2 with
          | bl c2 =>
            intro u H2 ρ2 st2 R2 res2
            have eu := bl_of (s := s.to ρ1 h1) R1 res2
            subst eu
            exact q _ H2 ρ2 (st.trans st2) R2 (Res.any (.bl _) fun _ z => nomatch z)
          | _ => exact q.elim
    | _ => exact q.elim
theorem or_E {M : List Nat} {a b : E} {σ : L2.St} {H : Hp} {Q : VK} (h : tE t G T M (.or a b) σ H Q) : tOrV (tE t G T M a) (tE t G T M b) σ H Q := by
  obtain ⟨s, R, q⟩ := h
  refine ⟨s, R, ?_⟩
  have e0 : ev G (.or a b) s.e s.h = (ev G a s.e s.h).bind fun x h => match x with
    | .bl false => (ev G b s.e h).bind fun y h => match y with | .bl b => .ok (.bl b) h | _ => .bad
    | .bl true => .ok (.bl true) h
    | _ => .bad := rfl
  rw [e0] at q
  cases e1 : ev G a s.e s.h with
  | bad => rw [e1] at q; exact q.elim
  | ok d h1 =>
    rw [e1] at q
    cases d with
    | bl c =>
      intro v H1 ρ1 st R1 res
      refine ⟨c, bl_of R res, ?_⟩
      cases c with
      | true =>
        rw [if_pos rfl]
        exact q _ H1 ρ1 st R1 (Res.any (.bl _) fun _ z => nomatch z)
      | false =>
        rw [if_neg Bool.false_ne_true]
        refine ⟨s.to ρ1 h1, R1, ?_⟩
        show Aft t T M b (s.to ρ1 h1) σ H1 (ev G b s.e h1) Q
        have q : Aft t T M (.or a b) s σ H ((ev G b s.e h1).bind fun y h => match y with | .bl b => .ok (.bl b) h | _ => .bad) Q := q
        cases e2 : ev G b s.e h1 with
        | bad => rw [e2] at q; exact q.elim
        | ok d2 h2 =>
          rw [e2] at q
          cases d2 with
          | bl c2 =>
            intro u H2 ρ2 st2 R2 res2
            have eu := bl_of (s := s.to ρ1 h1) R1 res2
            subst eu
            exact q _ H2 ρ2 (st.trans st2) R2 (Res.any (.bl _) fun _ z => nomatch z)
          | _ => exact q.elim
    | _ => exact q.elim
theorem and_T {M : List Nat} {a b : E} {σ : L2.St} {H : Hp} {Q : Bool → Hp → Prop} (h : tT t G M (.and a b) σ H Q) : tAnd (tT t G M a) (tT t G M b) σ H Q := by
  obtain ⟨s, R, q⟩ := h
  refine ⟨s, R, ?_⟩
  have e0 : ev G (.and a b) s.e s.h = (ev G a s.e s.h).bind fun x h => match x with
    | .bl true => (ev G b s.e h).bind fun y h => match y with | .bl b => .ok (.bl b) h | _ => .bad
    | .bl false => .ok (.bl false) h
    | _ => .bad := rfl
  rw [e0] at q
  cases e1 : ev G a s.e s.h with
  | bad => rw [e1] at q; exact q.elim
  | ok d h1 =>
    rw [e1] at q
    cases d with
    | bl c =>
      intro H1 ρ1 st R1
      cases c with
      | false =>
        rw [if_neg Bool.false_ne_true]
        exact q H1 ρ1 st R1
      | true =>
        rw [if_pos rfl]
        refine ⟨s.to ρ1 h1, R1, ?_⟩
        show AftT t M (s.to ρ1 h1) σ H1 (ev G b s.e h1) Q
        have q : AftT t M s σ H ((ev G b s.e h1).bind fun y h => match y with | .bl b => .ok (.bl b) h | _ => .bad) Q := q
        cases e2 : ev G b s.e h1 with
        | bad => rw [e2] at q; exact q.elim
        | ok d2 h2 =>
          rw [e2] at q
          cases d2 with
          | bl c2 => exact fun H2 ρ2 st2 R2 => q H2 ρ2 (st.trans st2) R2
          | _ => exact q.elim
    | _ => exact q.elim
theorem or_T {M : List Nat} {a b : E} {σ : L2.St} {H : Hp} {Q : Bool → Hp → Prop} (h : tT t G M (.or a b) σ H Q) : tOr (tT t G M a) (tT t G M b) σ H Q := by
  obtain ⟨s, R, q⟩ := h
  refine ⟨s, R, ?_⟩
  have e0 : ev G (.or a b) s.e s.h = (ev G a s.e s.h).bind fun x h => match x with
    | .bl false => (ev G b s.e h).bind fun y h => match y with | .bl b => .ok (.bl b) h | _ => .bad
    | .bl true => .ok (.bl true) h
    | _ => .bad := rfl
  rw [e0] at q
  cases e1 : ev G a s.e s.h with
  | bad => rw [e1] at q; exact q.elim
  | ok d h1 =>
    rw [e1] at q
    cases d with
    | bl c =>
      intro H1 ρ1 st R1
      cases c with
      | true =>
        rw [if_pos rfl]
        exact q H1 ρ1 st R1
      | false =>
        rw [if_neg Bool.false_ne_true]
        refine ⟨s.to ρ1 h1, R1, ?_⟩
        show AftT t M (s.to ρ1 h1) σ H1 (ev G b s.e h1) Q
        have q : AftT t M s σ H ((ev G b s.e h1).bind fun y h => match y with | .bl b => .ok (.bl b) h | _ => .bad) Q := q
        cases e2 : ev G b s.e h1 with
        | bad => rw [e2] at q; exact q.elim
        | ok d2 h2 =>
          rw [e2] at q
          cases d2 with
          | bl c2 => exact fun H2 ρ2 st2 R2 => q H2 ρ2 (st.trans st2) R2
          | _ => exact q.elim
    | _ => exact q.elim
theorem s_and {a b : E} (ia : Snd t G T k a) (ib : Snd t G T k b) : Snd t G T k (.and a b) := by
  have w : ∀ C X o es p, CxOk t G T k C X → chkE T (.and a b) C (.BoolOp o es p) = true → PW X (.BoolOp o es p) (tT t G C.M (.and a b)) := fun C X o es p c h => by
    unfold chkE at h
    split at h
    · rename_i e1 e2 p' e
      injection e with x1 x2 x3
      subst x1 x2 x3
      simp only [Bool.and_eq_true] at h
      obtain ⟨⟨⟨h1, h2⟩, h3⟩, h4⟩ := h
      exact (pw_and (ia.pt C X _ c h1 h3) (pw_and1 (ib.pt C X _ c h2 h4))).imp fun _ _ _ q => and_T q
    · rename_i e1 e2 e3 r p' e
      injection e with x1 x2 x3
      subst x1 x2 x3
      simp only [Bool.and_eq_true] at h
      obtain ⟨⟨h1, h2⟩, h3⟩ := h
      exact (pw_and (ia.pt C X _ c h1 h3) (ib.pw C X _ _ _ c h2)).imp fun _ _ _ q => and_T q
    · cases h
  refine ⟨fun C X ex c h => ?_, fun C X ex c h hif => ?_, w, fun C X es c h => ?_⟩
  · unfold chkE at h
    split at h
    · simp only [Bool.and_eq_true] at h
      obtain ⟨⟨⟨h1, h2⟩, h3⟩, h4⟩ := h
      exact (pe_and (ia.pe C X _ c h1) (pe_one (ib.pe C X _ c h2))).imp fun _ _ _ q => and_E q
    · simp only [Bool.and_eq_true] at h
      obtain ⟨⟨h1, h2⟩, h3⟩ := h
      exact (pe_and (ia.pe C X _ c h1) (ib.pe C X _ c h2)).imp fun _ _ _ q => and_E q
    · cases h
  · have h0 := h
    unfold chkE at h
    split at h
    · exact (w C X _ _ _ c h0).pt
    · exact (w C X _ _ _ c h0).pt
    · cases h
  · cases (show false = true from h)
theorem s_or {a b : E} (ia : Snd t G T k a) (ib : Snd t G T k b) : Snd t G T k (.or a b) := by
  have w : ∀ C X o es p, CxOk t G T k C X → chkE T (.or a b) C (.BoolOp o es p) = true → PW X (.BoolOp o es p) (tT t G C.M (.or a b)) := fun C X o es p c h => by
    unfold chkE at h
    split at h
    · rename_i e1 e2 p' e
      injection e with x1 x2 x3
      subst x1 x2 x3
      simp only [Bool.and_eq_true] at h
      obtain ⟨⟨⟨h1, h2⟩, h3⟩, h4⟩ := h
      exact (pw_or (ia.pt C X _ c h1 h3) (pw_or1 (ib.pt C X _ c h2 h4))).imp fun _ _ _ q => or_T q
    · rename_i e1 e2 e3 r p' e
      injection e with x1 x2 x3
      subst x1 x2 x3
      simp only [Bool.and_eq_true] at h
      obtain ⟨⟨h1, h2⟩, h3⟩ := h
      exact (pw_or (ia.pt C X _ c h1 h3) (ib.pw C X _ _ _ c h2)).imp fun _ _ _ q => or_T q
    · cases h
  refine ⟨fun C X ex c h => ?_, fun C X ex c h hif => ?_, w, fun C X es c h => ?_⟩
  · unfold chkE at h
    split at h
    · simp only [Bool.and_eq_true] at h
      obtain ⟨⟨⟨h1, h2⟩, h3⟩, h4⟩ := h
      exact (pe_or (ia.pe C X _ c h1) (pe_one (ib.pe C X _ c h2))).imp fun _ _ _ q => or_E q
    · simp only [Bool.and_eq_true] at h
      obtain ⟨⟨h1, h2⟩, h3⟩ := h
      exact (pe_or (ia.pe C X _ c h1) (ib.pe C X _ c h2)).imp fun _ _ _ q => or_E q
    · cases h
  · have h0 := h
    unfold chkE at h
    split at h
    · exact (w C X _ _ _ c h0).pt
    · exact (w C X _ _ _ c h0).pt
    · cases h
  · cases (show false = true from h)

/-! ### a if c else b -/
theorem s_ife {c a b : E} (ic : Snd t G T k c) (ia : Snd t G T k a) (ib : Snd t G T k b) : Snd t G T k (.ife c a b) := by
  have pe : ∀ C X ex, CxOk t G T k C X → chkE T (.ife c a b) C ex = true → PE X ex (tE t G T C.M (.ife c a b)) := fun C X ex cx h => by
    unfold chkE at h
    split at h
    · simp only [Bool.and_eq_true, Bool.not_eq_true'] at h
      obtain ⟨⟨⟨⟨⟨h1, h2⟩, h3⟩, h4⟩, h5⟩, h6⟩ := h
      refine (pe_ifExp (ic.pt C X _ cx h1 h2) (ia.pe C X _ cx h3) (ib.pe C X _ cx h4)).imp fun σ H Q ⟨s, R, q⟩ => ?_
      have e0 : ev G (.ife c a b) s.e s.h = (ev G c s.e s.h).bind fun x h => match x with
        | .bl true => ev G a s.e h
        | .bl false => ev G b s.e h
        | _ => .bad := rfl
      rw [e0] at q
      refine ⟨s, R, ?_⟩
      cases e1 : ev G c s.e s.h with
      | bad => rw [e1] at q; exact q.elim
      | ok d h1 =>
        rw [e1] at q
        cases d with
        | bl k =>
          intro H1 ρ1 st R1
          cases k with
          | true =>
            rw [if_pos rfl]
            refine ⟨s.to ρ1 h1, R1, ?_⟩
            show Aft t T C.M a (s.to ρ1 h1) σ H1 (ev G a s.e h1) Q
            have q : Aft t T C.M (.ife c a b) s σ H (ev G a s.e h1) Q := q
            cases e2 : ev G a s.e h1 with
            | bad => rw [e2] at q; exact q.elim
            | ok d2 h2 =>
              rw [e2] at q
              exact fun u H2 ρ2 st2 R2 res => q u H2 ρ2 (st.trans st2) R2 (Res.of (s := s) rfl (Res.rep (s := s.to ρ1 h1) h5 R1 res))
          | false =>
            rw [if_neg Bool.false_ne_true]
            refine ⟨s.to ρ1 h1, R1, ?_⟩
            show Aft t T C.M b (s.to ρ1 h1) σ H1 (ev G b s.e h1) Q
            have q : Aft t T C.M (.ife c a b) s σ H (ev G b s.e h1) Q := q
            cases e2 : ev G b s.e h1 with
            | bad => rw [e2] at q; exact q.elim
            | ok d2 h2 =>
              rw [e2] at q
              exact fun u H2 ρ2 st2 R2 res => q u H2 ρ2 (st.trans st2) R2 (Res.of (s := s) rfl (Res.rep (s := s.to ρ1 h1) h6 R1 res))
        | _ => exact q.elim
    · cases h
  refine ⟨pe, fun C X ex cx h hif => ?_, fun C X o es p cx h => ?_, fun C X es cx h => ?_⟩
  · unfold chkE at h
    split at h
    · cases (show false = true from hif)
    · cases h
  · cases (show false = true from h)
  · cases (show false = true from h)
end
end CC

set_option Elab.async false
set_option linter.all false
set_option maxRecDepth 100000
set_option maxHeartbeats 1000000
namespace CC
open PySem PySem.Spec PyProof.Rows L2

section
variable {t : Tx} {G : Pg} {T : Tab} {k : Nat}
/-! ### a <= b <= c of ints -/
def chnOk : Cop → Bool
  | .lt => true
  | .le => true
  | _ => false
theorem cmp_int {op : Cop} {x y : D} {h : Hb} {d : D} {h' : Hb} (ho : chnOk op = true) (e : cmpD op x y h = .ok d h') : ∃ i j b, x = .int i ∧ y = .int j ∧ d = .bl b ∧ h' = h ∧ ∀ (K : PySem.W.Frag) H Q, Q (.bl b) H → rC K op (.int i) (.int j) H Q := by
  cases op with
  | lt =>
    cases x with
    | int i =>
      cases y with
      | int j =>
        cases e
        exact ⟨_, _, _, rfl, rfl, rfl, rfl, fun K H Q q => ⟨_, _, rfl, rfl, q⟩⟩
      | _ => cases e
    | _ => cases e
  | le =>
    cases x with
    | int i =>
      cases y with
      | int j =>
        cases e
        exact ⟨_, _, _, rfl, rfl, rfl, rfl, fun K H Q q => ⟨_, _, rfl, rfl, q⟩⟩
      | _ => cases e
    | _ => cases e
  | _ => cases ho
theorem chn_E {M : List Nat} {o p : Cop} {a b c : E} (ho : chnOk o = true) (hp : chnOk p = true) {σ : L2.St} {H : Hp} {Q : VK} (h : tE t G T M (.chn o p a b c) σ H Q) :
    tChain (rC t.K o) (rC t.K p) (tE t G T M a) (tE t G T M b) (tE t G T M c) σ H Q := by
  obtain ⟨s, R, q⟩ := h
  have e0 : ev G (.chn o p a b c) s.e s.h = (ev G a s.e s.h).bind fun x h => (ev G b s.e h).bind fun y h => (cmpD o x y h).bind fun z h => match z with
    | .bl true => (ev G c s.e h).bind fun w h => cmpD p y w h
    | .bl false => .ok (.bl false) h
    | _ => .bad := rfl
  rw [e0] at q
  refine ⟨s, R, ?_⟩
  cases e1 : ev G a s.e s.h with
  | bad => rw [e1] at q; exact q.elim
  | ok da h1 =>
    rw [e1] at q
    intro v H1 ρ1 st1 R1 res1
    refine ⟨s.to ρ1 h1, R1, ?_⟩
    have q : Aft t T M (.chn o p a b c) s σ H ((ev G b s.e h1).bind fun y h => (cmpD o da y h).bind fun z h => match z with
      | .bl true => (ev G c s.e h).bind fun w h => cmpD p y w h
      | .bl false => .ok (.bl false) h
      | _ => .bad) Q := q
    show Aft t T M b (s.to ρ1 h1) σ H1 (ev G b s.e h1) _
    cases e2 : ev G b s.e h1 with
    | bad => rw [e2] at q; exact q.elim
    | ok db h2 =>
      rw [e2] at q
      intro u H2 ρ2 st2 R2 res2
      have R2 : Rel t M (s.to ρ2 h2) σ H2 := R2
      have q : Aft t T M (.chn o p a b c) s σ H ((cmpD o da db h2).bind fun z h => match z with
        | .bl true => (ev G c s.e h).bind fun w h => cmpD p db w h
        | .bl false => .ok (.bl false) h
        | _ => .bad) Q := q
      cases e3 : cmpD o da db h2 with
      | bad => rw [e3] at q; exact q.elim
      | ok d3 h3 =>
        rw [e3] at q
        obtain ⟨i, j, z, rfl, rfl, rfl, rfl, rr⟩ := cmp_int ho e3
        have ev1 := int_of R res1
        have ev2 := int_of (s := s.to ρ1 h1) R1 res2
        subst ev1 ev2
        refine rr _ _ _ ⟨z, rfl, ?_⟩
        cases z with
        | false =>
          rw [if_neg Bool.false_ne_true]
          exact q _ H2 ρ2 (st1.trans st2) R2 (Res.any (.bl _) fun _ z => nomatch z)
        | true =>
          rw [if_pos rfl]
          refine ⟨s.to ρ2 h3, R2, ?_⟩
          show Aft t T M c (s.to ρ2 h3) σ H2 (ev G c s.e h3) _
          have q : Aft t T M (.chn o p a b c) s σ H ((ev G c s.e h3).bind fun w h => cmpD p (.int j) w h) Q := q
          cases e4 : ev G c s.e h3 with
          | bad => rw [e4] at q; exact q.elim
          | ok dc h4 =>
            rw [e4] at q
            intro w H3 ρ3 st3 R3 res3
            have q5 : Aft t T M (.chn o p a b c) s σ H (cmpD p (.int j) dc h4) Q := q
            clear q
            cases e5 : cmpD p (.int j) dc h4 with
            | bad => rw [e5] at q5; exact q5.elim
            | ok d5 h5 =>
              rw [e5] at q5
              obtain ⟨i', j', z', w1, rfl, rfl, rfl, rr'⟩ := cmp_int hp e5
              cases w1
              have ev3 := int_of (s := s.to ρ2 h3) R2 res3
              subst ev3
              exact rr' _ _ _ (q5 _ H3 ρ3 ((st1.trans st2).trans st3) R3 (Res.any (.bl _) fun _ z => nomatch z))
theorem s_chn (o p : Cop) {a b c : E} (ia : Snd t G T k a) (ib : Snd t G T k b) (ic : Snd t G T k c) : Snd t G T k (.chn o p a b c) := by
  refine ⟨fun C X ex cx h => ?_, fun C X ex cx h hif => ?_, fun C X o es p cx h => ?_, fun C X es cx h => ?_⟩
  · unfold chkE at h
    split at h
    · simp only [Bool.and_eq_true, decide_eq_true_eq] at h
      obtain ⟨⟨⟨⟨⟨⟨h1, h2⟩, h3⟩, h4⟩, h5⟩, h6⟩, h7⟩ := h
      subst h1 h2
      have h6 : chnOk o = true := by cases o <;> first | rfl | cases h6
      have h7 : chnOk p = true := by cases p <;> first | rfl | cases h7
      refine (pe_chain (op_C cx.room.units o) (op_C cx.room.units p) (ia.pe C X _ cx h3) (ib.pe C X _ cx h4) (ic.pe C X _ cx h5) (mark_C p _)).imp ?_
      rw [cx.K]
      exact fun _ _ _ z => chn_E h6 h7 z
    · cases h
  · unfold chkE at h
    split at h
    · simp only [Bool.and_eq_true, decide_eq_true_eq] at h
      obtain ⟨⟨⟨⟨⟨⟨h1, h2⟩, h3⟩, h4⟩, h5⟩, h6⟩, h7⟩ := h
      subst h1 h2
      have h6 : chnOk o = true := by cases o <;> first | rfl | cases h6
      have h7 : chnOk p = true := by cases p <;> first | rfl | cases h7
      refine (pt_chain (op_C cx.room.units o) (op_C cx.room.units p) (ia.pe C X _ cx h3) (ib.pe C X _ cx h4) (ic.pe C X _ cx h5) (mark_C p _)).imp ?_
      rw [cx.K]
      exact fun _ _ _ z => chn_E h6 h7 (tT_tE z)
    · cases h
  · cases (show false = true from h)
  · cases (show false = true from h)

/-! ### items -/
theorem chk_star {x : E} {C : Ctx} {v : Expr} {p : Pos} : chkE T x C (.Starred v p) = false := by
  cases x <;> rfl
theorem star_one {e : Expr} {es : List Expr} {env : Env} (h : ∀ v p, e ≠ .Starred v p) : starEach (e :: es) env = (false, eval e env) :: starEach es env := by
  cases e <;> first | rfl | (exact absurd rfl (h _ _))
theorem not_star {x : E} {C : Ctx} {e : Expr} (h : chkE T x C e = true) : ∀ v p, e ≠ .Starred v p := fun v p z => by
  rw [z, chk_star] at h
  cases h
theorem star_all {C : Ctx} {pos : Pos} {env : Env} : ∀ (es : List Expr) (x : E), chkA T x C es = true → (backTo pos (starEach es env)).any (·.1) = false := by
  intro es
  induction es with
  | nil => exact fun x h => rfl
  | cons e es ih =>
    intro x h
    cases x with
    | cons a r =>
      unfold chkA at h
      simp only [Bool.and_eq_true] at h
      rw [star_one (not_star h.1.1)]
      show ((false, _) :: backTo pos (starEach es env)).any (·.1) = false
      rw [List.any_cons]
      exact ih r h.2
    | _ => cases (show false = true from h)
theorem args_tup {r : E} {C : Ctx} {es : List Expr} {e : En} {h : Hb} {d : D} {h' : Hb} (hc : chkA T r C es = true) (hv : ev G r e h = .ok d h') : ∃ ds, d = .tup ds := by
  cases r with
  | nil =>
    cases hv
    exact ⟨_, rfl⟩
  | cons a2 r2 =>
    have e9 : ev G (.cons a2 r2) e h = (ev G a2 e h).bind fun x h => (ev G r2 e h).bind fun y h => .ok (.tup (x :: argsD y)) h := rfl
    rw [e9] at hv
    cases z1 : ev G a2 e h with
    | bad =>
      rw [z1] at hv
      cases hv
    | ok d1 hh =>
      rw [z1] at hv
      have hv : ((ev G r2 e hh).bind fun y h => CC.R.ok (.tup (d1 :: argsD y)) h) = .ok d h' := hv
      cases z2 : ev G r2 e hh with
      | bad =>
        rw [z2] at hv
        cases hv
      | ok d2 hh2 =>
        rw [z2] at hv
        cases hv
        exact ⟨_, rfl⟩
  | _ => cases (show false = true from hc)
theorem s_nil : Snd t G T k .nil := by
  refine ⟨fun C X ex cx h => ?_, fun C X ex cx h hif => ?_, fun C X o es p cx h => ?_, fun C X es cx h => ?_⟩
  · cases (show false = true from h)
  · cases (show false = true from h)
  · cases (show false = true from h)
  · cases es with
    | nil => exact pa_nil.imp fun σ H Q ⟨s, R, q⟩ => q [] H s.ρ (Stp.refl _ _) R .nil
    | cons a r => cases (show false = true from h)
theorem s_cons {a r : E} (ia : Snd t G T k a) (ir : Snd t G T k r) : Snd t G T k (.cons a r) := by
  refine ⟨fun C X ex cx h => ?_, fun C X ex cx h hif => ?_, fun C X o es p cx h => ?_, fun C X es cx h => ?_⟩
  · cases (show false = true from h)
  · cases (show false = true from h)
  · cases (show false = true from h)
  · cases es with
    | nil => cases (show false = true from h)
    | cons e es =>
      unfold chkA at h
      simp only [Bool.and_eq_true, Bool.not_eq_true'] at h
      obtain ⟨⟨h1, nb⟩, h3⟩ := h
      refine (pa_cons (ia.pe C X e cx h1) (ir.pa C X es cx h3) (star_one (not_star h1))).imp fun σ H Q ⟨s, R, q⟩ => ?_
      have e0 : ev G (.cons a r) s.e s.h = (ev G a s.e s.h).bind fun x h => (ev G r s.e h).bind fun y h => .ok (.tup (x :: argsD y)) h := rfl
      rw [e0] at q
      refine ⟨s, R, ?_⟩
      cases e1 : ev G a s.e s.h with
      | bad => rw [e1] at q; exact q.elim
      | ok da h1 =>
        rw [e1] at q
        intro v H1 ρ1 st1 R1 res1
        refine ⟨s.to ρ1 h1, R1, ?_⟩
        show AftA t C.M (s.to ρ1 h1) σ H1 (ev G r s.e h1) _
        have q : AftA t C.M s σ H ((ev G r s.e h1).bind fun y h => .ok (.tup (da :: argsD y)) h) Q := q
        cases e2 : ev G r s.e h1 with
        | bad => rw [e2] at q; exact q.elim
        | ok d2 h2 =>
          obtain ⟨ds, rfl⟩ := args_tup h3 e2
          rw [e2] at q
          intro us H2 ρ2 st2 R2 res2
          exact q (v :: us) H2 ρ2 (st1.trans st2) R2 (.cons (Rep.step (s := s.to ρ1 h1) (h' := h2) R1 st2 (Res.rep nb R res1)) res2)
end
end CC

set_option Elab.async false
set_option linter.all false
set_option maxRecDepth 100000
set_option maxHeartbeats 1000000
namespace CC
open PySem PySem.Spec PyProof.Rows L2

section
variable {t : Tx} {G : Pg} {T : Tab} {k : Nat}
/-! ### displays -/
theorem args_len {C : Ctx} : ∀ (es : List Expr) (as : E) (e : En) (h : Hb) (ds : List D) (h' : Hb), chkA T as C es = true → ev G as e h = .ok (.tup ds) h' → ds.length = es.length := by
  intro es
  induction es with
  | nil =>
    intro as e h ds h' hc hv
    cases as with
    | nil =>
      cases hv
      rfl
    | _ => cases (show false = true from hc)
  | cons x es ih =>
    intro as e h ds h' hc hv
    cases as with
    | cons a2 r2 =>
      unfold chkA at hc
      simp only [Bool.and_eq_true] at hc
      have e9 : ev G (.cons a2 r2) e h = (ev G a2 e h).bind fun x h => (ev G r2 e h).bind fun y h => CC.R.ok (D.tup (x :: argsD y)) h := rfl
      rw [e9] at hv
      cases z1 : ev G a2 e h with
      | bad =>
        rw [z1] at hv
        cases hv
      | ok d1 hh =>
        rw [z1] at hv
        have hv : ((ev G r2 e hh).bind fun y h => CC.R.ok (D.tup (d1 :: argsD y)) h) = CC.R.ok (D.tup ds) h' := hv
        cases z2 : ev G r2 e hh with
        | bad =>
          rw [z2] at hv
          cases hv
        | ok d2 hh2 =>
          obtain ⟨l, rfl⟩ := args_tup hc.2 z2
          rw [z2] at hv
          cases hv
          have := ih r2 e hh l _ hc.2 z2
          show (d1 :: l).length = _
          rw [List.length_cons, List.length_cons, this]
    | _ => cases (show false = true from hc)
theorem disp_go {M : List Nat} {s : Sit} {σ : L2.St} {H : Hp} {as : E} {Q : VK} {z : E} {w : List D → D} {o : List V → HO} {C : Ctx} {es : List Expr} (hc : chkA T as C es = true) (hz : es.length ≤ 1000)
    (hev : ∀ e h, ev G z e h = (ev G as e h).bind fun x h => .ok (w (argsD x)) h) (R : Rel t M s σ H) (q : Aft t T M z s σ H (ev G z s.e s.h) Q)
    (hw : ∀ (s : Sit) (H0 H : Hp) (xs : List V) (ds : List D) (p : Addr), Rel t M s σ H → (∀ b, H b = none → H0 b = none) → Reps t s.ρ s.L H xs ds → H p = none → Res t T z s H0 (upd H p (o xs)) (.ref p) (w ds)) :
    tA t G M as σ H fun xs H1 => xs.length ≤ sizeLine ∧ ∀ p, H1 p = none → Q (.ref p) (upd H1 p (o xs)) := by
  rw [hev] at q
  refine ⟨s, R, ?_⟩
  cases e1 : ev G as s.e s.h with
  | bad => rw [e1] at q; exact q.elim
  | ok d h1 =>
    obtain ⟨ds, rfl⟩ := args_tup hc e1
    rw [e1] at q
    intro vs H1 ρ1 st1 R1 rs
    have hl := args_len _ _ _ _ _ _ hc e1
    rw [← rs.length] at hl
    refine ⟨small6 (by omega), fun p hp => ?_⟩
    exact q _ _ ρ1 (st1.trans (Stp.laid hp)) (R1.laid hp) (hw (s.to ρ1 h1) H H1 vs ds p R1 (fun b => st1.free) rs hp)
theorem s_tup {as : E} (ia : Snd t G T k as) : Snd t G T k (.tup as) := by
  refine .plain (fun C X ex cx h => ?_) (fun C ex h => ?_) (fun C es => rfl)
  · unfold chkE at h
    split at h
    · simp only [Bool.and_eq_true, decide_eq_true_eq] at h
      refine (pe_tup (ia.pa C X _ cx h.1)).imp fun σ H Q ⟨s, R, q⟩ => ?_
      refine disp_go (z := .tup as) (w := .tup) (o := .tup) h.1 h.2 (fun _ _ => rfl) R q fun s H0 H xs ds p R hf rs hp => Res.any (s := s) (h' := s.h) ?_ fun _ z => nomatch z
      exact AftO.tup (t := t) (M := C.M) (s := s) (σ := σ) (H := H) (ds := ds) (Q := fun v H' => Rep t s.ρ s.L H' v (.tup ds)) R (fun _ v H' _ _ r => r) rs p hp
    · cases h
  · unfold chkE at h
    split at h
    · rfl
    · cases h
theorem s_lst {as : E} (ia : Snd t G T k as) : Snd t G T k (.lst as) := by
  refine .plain (fun C X ex cx h => ?_) (fun C ex h => ?_) (fun C es => rfl)
  · unfold chkE at h
    split at h
    · simp only [Bool.and_eq_true, decide_eq_true_eq] at h
      refine (pe_lst (ia.pa C X _ cx h.1)).imp fun σ H Q ⟨s, R, q⟩ => ?_
      refine disp_go (z := .lst as) (w := .lst) (o := .lst) h.1 h.2 (fun _ _ => rfl) R q fun s H0 H xs ds p R hf rs hp => ?_
      have w := AftO.lst (t := t) (M := C.M) (s := s) (σ := σ) (H := H) (ds := ds) (Q := fun v H' => FRep t s.ρ s.L H H' v (.lst ds)) R (fun _ v H' _ _ r => r) rs p hp
      obtain ⟨p', xs', h1, h2, h3, h4, h5⟩ := w
      exact ⟨p', xs', h1, hf _ h2, h3, h4, h5⟩
    · cases h
  · unfold chkE at h
    split at h
    · rfl
    · cases h

/-! ### the call of a def -/
/-- what a callee finds live -/
def Sit.lam (s : Sit) : Addr → Prop := fun a => s.Lam a ∨ ∃ i, s.μ i = some a
theorem lam_L (s : Sit) (ρ' : List Addr) (h' : Hb) : (fun a => s.lam a ∨ a ∈ ρ') = (s.to ρ' h').L := by
  funext a
  refine propext ⟨fun z => ?_, fun z => ?_⟩
  · rcases z with (z | z) | z
    · exact .inl z
    · exact .inr (.inr z)
    · exact .inr (.inl z)
  · rcases z with z | z | z
    · exact .inl (.inl z)
    · exact .inr z
    · exact .inl (.inr z)
theorem lam_L' (s : Sit) : (fun a => s.lam a ∨ a ∈ s.ρ) = s.L := lam_L s s.ρ s.h
theorem Rel.inF {M : List Nat} {s : Sit} {σ : L2.St} {H : Hp} (R : Rel t M s σ H) : InF t s.ρ s.lam H s.h where
  box := by rw [lam_L']; exact R.box
  blen := R.blen
  bnd := R.bnd
  lam := fun a z => R.lam a (by rw [← lam_L']; exact z)
  lamb := fun a z y => by
    rcases y with y | ⟨i, y⟩
    · exact R.lamb a z y
    · exact (R.mfr i a y).1 z
/-- a def called with values that stand -/
theorem call_go {M : List Nat} {s : Sit} {σ : L2.St} {H : Hp} {f : Nat} {np : Nat} {vs : List V} {ds : List D} {z : E} {s0 : Sit} {H0 : Hp} {Q : VK} {E : XK} (hl : ∀ ds h, ds.length ≠ np → G.call f ds h = .bad) (R : Rel t M s σ H) (rs : Reps t s.ρ s.L H vs ds)
    (st : Stp s0.ρ s.ρ H0 H) (hs : s = s0.to s.ρ s.h) (q : Aft t T M z s0 σ H0 (G.call f ds s.h) Q)
    (hz : ∀ ρ' h' v H' d, (if T.fr.getD f false then FRep t ρ' (s0.to ρ' h').L H0 H' v d else Rep t ρ' (s0.to ρ' h').L H' v d) → Res t T z (s0.to ρ' h') H0 H' v d) : spF t np (G.call f) (T.fr.getD f false) vs H Q E := by
  have e : ∃ d h', G.call f ds s.h = .ok d h' := by
    cases e : G.call f ds s.h with
    | bad => rw [e] at q; exact q.elim
    | ok d h' => exact ⟨d, h', rfl⟩
  obtain ⟨d, h', e⟩ := e
  refine ⟨?_, s.ρ, s.lam, s.h, ds, R.inF, by rw [lam_L']; exact rs, ?_⟩
  · refine Decidable.byContradiction fun n => ?_
    rw [hl ds s.h (by rw [← rs.length]; exact n)] at e
    cases e
  · rw [e] at q ⊢
    intro v H' ρ' st2 bx bl nd r
    rw [lam_L s ρ' h'] at bx r
    have R' : Rel t M (s.to ρ' h') σ H' := R.step st2 bx bl nd
    have es : s.to ρ' h' = s0.to ρ' h' := by rw [hs]; rfl
    rw [es] at R' r
    refine q v H' ρ' (st.trans st2) R' (hz _ _ _ _ _ ?_)
    split at r
    · rename_i hf
      rw [if_pos hf]
      cases d with
      | lst l =>
        obtain ⟨p, xs, h1, h2, h3⟩ := r
        exact ⟨p, xs, h1, st.free h2, h3⟩
      | _ => exact r
    · rename_i hf
      rw [if_neg hf]
      exact r
theorem s_call (f : Nat) {as : E} (ia : Snd t G T k as) : Snd t G T k (.call f as) := by
  refine .plain (fun C X ex cx h => ?_) (fun C ex h => ?_) (fun C es => rfl)
  · unfold chkE at h
    split at h
    · rename_i x xp e es p
      simp only [Bool.and_eq_true, decide_eq_true_eq] at h
      obtain ⟨⟨⟨h1, h2⟩, h3⟩, h4⟩ := h
      have n := nm_of h3
      obtain ⟨a, fd, ps, m1, m2, m3, m4, F⟩ := cx.hy.call f x h1
      have hK : t.K = X.K := cx.K.symm
      rw [hK] at m2 m3 F
      have n0 : ∀ v p, e ≠ .Starred v p := by
        cases as with
        | cons a r =>
          unfold chkA at h4
          simp only [Bool.and_eq_true] at h4
          exact not_star h4.1.1
        | _ => cases (show false = true from h4)
      have n1 : (backTo p (starEach es X.env)).any (·.1) = false := by
        cases as with
        | cons a r =>
          unfold chkA at h4
          simp only [Bool.and_eq_true] at h4
          exact star_all es r h4.2
        | _ => cases (show false = true from h4)
      refine (pe_call F (cx.room.mono (by omega)) (gl_of cx h2) m1 m2 m3 .nil pass0 (ia.pa C X _ cx h4) n.1 (star_one n0) n1).imp fun σ H Q ⟨s, R, q⟩ => ?_
      refine ⟨s, R, ?_⟩
      have e0 : ev G (.call f as) s.e s.h = (ev G as s.e s.h).bind fun x h => G.call f (argsD x) h := rfl
      rw [e0] at q
      cases e1 : ev G as s.e s.h with
      | bad => rw [e1] at q; exact q.elim
      | ok d h1 =>
        obtain ⟨ds, rfl⟩ := args_tup h4 e1
        rw [e1] at q
        intro vs H1 ρ1 st1 R1 rs
        rw [List.append_nil]
        refine call_go (s := s.to ρ1 h1) (s0 := s) (z := .call f as) m4 R1 rs st1 rfl q fun ρ' h' v H' d r => ?_
        unfold Res
        exact r
    · cases h
  · unfold chkE at h
    split at h
    · rfl
    · cases h
end
end CC

set_option Elab.async false
set_option linter.all false
set_option maxRecDepth 100000
set_option maxHeartbeats 1000000
namespace CC
open PySem PySem.Spec PyProof.Rows L2

/-! ### one operand that is seen, the boxes left -/
section
variable {t : Tx} {G : Pg} {T : Tab} {k : Nat}
theorem one_go {M : List Nat} {z a : E} {f : D → Hb → R D} {r : V → Hp → VK → Prop} (hev : ∀ e h, ev G z e h = (ev G a e h).bind fun x h => f x h) (hf : ∀ x h d h', f x h = .ok d h' → h' = h)
    (hr : ∀ (s : Sit) (σ : L2.St) (H : Hp) (x : V) (da : D) (Q : VK), Rel t M s σ H → VRep t s.ρ s.L H x da → AftO t M s σ H (f da s.h) Q → r x H Q) :
    ∀ σ H Q, tE t G T M z σ H Q → tE t G T M a σ H fun x H1 => r x H1 Q := by
  intro σ H Q ⟨s, R, q⟩
  rw [hev] at q
  refine ⟨s, R, ?_⟩
  cases e1 : ev G a s.e s.h with
  | bad => rw [e1] at q; exact q.elim
  | ok da h1 =>
    rw [e1] at q
    have q : Aft t T M z s σ H (f da h1) Q := q
    intro v H1 ρ1 st1 R1 res1
    refine hr (s.to ρ1 h1) σ H1 v da Q R1 (Res.see R res1) ?_
    show AftO t M (s.to ρ1 h1) σ H1 (f da h1) Q
    cases e3 : f da h1 with
    | bad => rw [e3] at q; exact q.elim
    | ok d h3 =>
      have eh := hf _ _ _ _ e3
      subst eh
      rw [e3] at q
      intro _ w H3 st3 R3 fr3
      refine q w H3 ρ1 (st1.trans st3) R3 ?_
      unfold Res
      split
      · cases d with
        | lst ds =>
          obtain ⟨p, xs, h1, h2, h3, h4, h5⟩ := fr3
          exact ⟨p, xs, h1, st1.free h2, h3, h4, h5⟩
        | _ => exact fr3
      · have r3 : Rep t ρ1 (s.to ρ1 h3).L H3 w d := FRep.rep (s := s.to ρ1 h3) R1 fr3
        split
        · exact r3.v (s.to ρ1 h3).inL
        · exact r3
end

/-! ### built-ins of one argument -/
def rSumT (K : PySem.W.Frag) : List V → Hp → VK → Prop := fun vs H Q => ∃ (a : Addr) (ns : List Int), vs = [V.ref a] ∧ SqT K H a (ns.map V.int) ∧ Q (.int ns.sum) H
theorem cr_sumT {X : Cx} (hc : X.calm = true) : CallR X (.builtin "sum") (rSumT X.K) := by
  intro pins s σ H vs us Q I r h
  obtain ⟨a, ns, rfl, hs, q⟩ := h
  obtain ⟨its, rv, ht, _⟩ := I.tuple hs
  rw [Vals.ref1 r]
  have hi := rv.ints
  obtain ⟨ys, ey⟩ := hi.allInts.items
  rw [ey] at ht
  refine PySem.W.ktm_sumG (I.ok.hd hc) ht fun h' tk t' hk => ?_
  have hn : numsOf (intItems ys).toList = ns := by
    rw [← ey]
    exact hi.numsOf
  have e2 : preSum (numAt ys) ys.size = ns.sum := by
    rw [preSum_eq, ← nums_intItems, hn]
    have el : ns.length = ys.size := by
      rw [← hn, nums_intItems]
      simp
    rw [← el, List.take_length]
  rw [e2]
  exact ⟨.int _, H, I.kept hk, ⟨_, rfl⟩, q⟩
def rBi (K : PySem.W.Frag) : Bi → List V → Hp → VK → Prop
  | .abs => fun xs H Q => ∃ i, xs = [.int i] ∧ Q (.int (if i < 0 then -i else i)) H
  | .int => fun xs H Q => (∃ i, xs = [.int i] ∧ Q (.int i) H) ∨ ∃ k, xs = [.bl k] ∧ Q (.int (if k then 1 else 0)) H
  | .sum => fun xs H Q => rSum K xs H Q ∨ rSumT K xs H Q
  | .all => rAll K
  | .any => rAny K
  | .tuple => fun xs H Q => ∃ p ys, xs = [.ref p] ∧ ((SqL K H p ys ∧ ∀ l, H l = none → Q (.ref l) (upd H l (.tup ys))) ∨ (SqT K H p ys ∧ Q (.ref p) H))
  | .list => fun xs H Q => ∃ p ys, xs = [.ref p] ∧ (SqL K H p ys ∨ SqT K H p ys) ∧ ∀ l, H l = none → Q (.ref l) (upd H l (.lst ys))
  | .tupf => fun xs H Q => ∃ p ys, xs = [.ref p] ∧ SqL K H p ys ∧ ∀ l o, H l = none → o.dict = none → Q (.ref l) (upd H l (.frz o (.tup ys)))
/-- tuple(list), the new tuple by its object -/
theorem cr_tupf {X : Cx} : CallR X (.type "tuple") (rBi X.K .tupf) := by
  intro pins s σ H xs us Q I r h
  obtain ⟨p, ys, rfl, hq, q⟩ := h
  rw [Vals.ref1 r]
  obtain ⟨its, rv, pl, hz⟩ := I.list hq
  have hlen := rv.length
  refine call_tuple_list pl.isList (fun h' kp => ?_) (by simp only [List.size_toArray] <;> omega)
  have I1 : Inv X pins σ H { s with heap := h' } := I.kept (t' := s.toks) kp
  have I2 : Inv X pins σ (upd H h'.objs.size (.frz { cls := .type "tuple", data := .seq its.toArray } (.tup ys))) { s with heap := h'.push { cls := .type "tuple", data := .seq its.toArray } } :=
    I1.laid (t' := s.toks) (fun b o e => Heap.get?_push_of_some _ e) (Nat.le_refl _) (show ObjOk X.prog X.w _ _ _ (.frz _ (.tup ys)) from ⟨Heap.get?_push_size _ rfl, hz, its, rv, IsTup.new _ _⟩)
  exact ⟨.ref h'.objs.size, _, I2, rfl, q _ _ (I1.hok.fresh (Nat.le_refl _)) rfl⟩
section
variable {t : Tx} {M : List Nat} {s : Sit} {σ : L2.St} {H : Hp} {x : V} {d : D} {Q : VK}
theorem reps_ints {ρ : List Addr} {L : Addr → Prop} : ∀ {l : List D} {xs : List V} {ns : List Int}, dInts l = some ns → Reps t ρ L H xs l → xs = ns.map V.int
  | [], _, _, e, .nil => by
    cases e
    rfl
  | d :: l, _, _, e, .cons r rs => by
    cases d with
    | int i =>
      have e : (dInts l).map (i :: ·) = some _ := e
      rw [Option.map_eq_some_iff] at e
      obtain ⟨ms, e1, rfl⟩ := e
      cases r
      rw [reps_ints e1 rs]
      rfl
    | _ => cases e
theorem reps_bools {ρ : List Addr} {L : Addr → Prop} : ∀ {l : List D} {xs : List V} {ns : List Bool}, bools l = some ns → Reps t ρ L H xs l → xs = ns.map V.bl
  | [], _, _, e, .nil => by
    cases e
    rfl
  | d :: l, _, _, e, .cons r rs => by
    cases d with
    | bl i =>
      have e : (bools l).map (i :: ·) = some _ := e
      rw [Option.map_eq_some_iff] at e
      obtain ⟨ms, e1, rfl⟩ := e
      cases r
      rw [reps_bools e1 rs]
      rfl
    | _ => cases e
/-- a list or a tuple, as it is seen -/
theorem VRep.seq {l : List D} (R : Rel t M s σ H) (r : VRep t s.ρ s.L H x d) (e : viewD s.h d = .lst l) : ∃ a xs, x = .ref a ∧ H a = some (.lst xs) ∧ Reps t s.ρ s.L H xs l := by
  rcases r.view R with ⟨a, xs, ds, rfl, e1, h1, r1⟩ | ⟨n, r1⟩
  · rw [e1] at e
    cases e
    exact ⟨a, xs, rfl, h1, r1⟩
  · exact absurd e (n l)
theorem VRep.seqT {l : List D} (R : Rel t M s σ H) (r : VRep t s.ρ s.L H x d) (e : viewD s.h d = .tup l) : ∃ a xs, x = .ref a ∧ SqT t.K H a xs ∧ Reps t s.ρ s.L H xs l := by
  rcases r.view R with ⟨a, xs, ds, rfl, e1, h1, r1⟩ | ⟨n, r1⟩
  · rw [e1] at e
    cases e
  · rw [e] at r1
    cases r1 with
    | tup q rs => exact ⟨_, _, rfl, q, rs⟩
theorem bi_go (b : Bi) (R : Rel t M s σ H) (rx : VRep t s.ρ s.L H x d) (h : AftO t M s σ H (biD b d s.h) Q) : rBi t.K b [x] H Q := by
  unfold biD at h
  split at h
  · cases (show Rep _ _ _ _ x _ from rx)
    exact ⟨_, rfl, AftO.int R h⟩
  · cases (show Rep _ _ _ _ x _ from rx)
    exact .inl ⟨_, rfl, AftO.int R h⟩
  · split at h
    · rename_i l e
      obtain ⟨a, xs, rfl, h1, rs⟩ := rx.seq R e
      split at h
      · rename_i ns en
        rw [reps_ints en rs] at h1
        exact .inl ⟨a, ns, rfl, .inl (.inl h1), AftO.int R h⟩
      · exact h.elim
    · rename_i l e
      obtain ⟨a, xs, rfl, h1, rs⟩ := rx.seqT R e
      split at h
      · rename_i ns en
        rw [reps_ints en rs] at h1
        exact .inr ⟨a, ns, rfl, h1, AftO.int R h⟩
      · exact h.elim
    · exact h.elim
  · obtain ⟨a, xs, rfl, h1, _, rs⟩ := rx
    split at h
    · rename_i ns en
      rw [reps_bools en rs] at h1
      exact ⟨a, ns, rfl, .inl (.inl h1), AftO.bl R h⟩
    · exact h.elim
  · obtain ⟨a, xs, rfl, h1, _, rs⟩ := rx
    split at h
    · rename_i ns en
      rw [reps_bools en rs] at h1
      exact ⟨a, ns, rfl, .inl (.inl h1), AftO.bl R h⟩
    · exact h.elim
  · split at h
    · rename_i l e
      obtain ⟨a, xs, rfl, h1, rs⟩ := rx.seq R e
      exact ⟨a, xs, rfl, .inl ⟨.inl (.inl h1), AftO.tup R h rs⟩⟩
    · rename_i l e
      obtain ⟨a, xs, rfl, h1, rs⟩ := rx.seqT R e
      exact ⟨a, xs, rfl, .inr ⟨h1, h rfl _ H (Stp.refl _ _) R (Rep.tup h1 rs)⟩⟩
    · exact h.elim
  · split at h
    · rename_i l e
      obtain ⟨a, xs, rfl, h1, rs⟩ := rx.seq R e
      exact ⟨a, xs, rfl, .inl (.inl (.inl h1)), AftO.lst R h rs⟩
    · rename_i l e
      obtain ⟨a, xs, rfl, h1, rs⟩ := rx.seqT R e
      exact ⟨a, xs, rfl, .inr h1, AftO.lst R h rs⟩
    · exact h.elim
  · split at h
    · rename_i l e
      obtain ⟨a, xs, rfl, h1, rs⟩ := rx.seq R e
      refine ⟨a, xs, rfl, .inl (.inl h1), fun p o hp ho => ?_⟩
      have gr : ∀ b u, H b = some u → upd H p (.frz o (.tup xs)) b = some u := fun b u e => by rw [upd_ne (ne_of_none e hp)]; exact e
      exact h rfl _ _ (Stp.laid hp) (R.laid hp) (Rep.ft upd_same ho (Reps.move (fun _ _ e => e) (fun b u e n => ⟨gr b u e, n⟩) (fun b u e _ => gr b u e) _ _ rs))
    · exact h.elim
  · exact h.elim
end
theorem bi_heap (b : Bi) : ∀ x h d h', biD b x h = .ok d h' → h' = h := by
  intro x h d h' e
  unfold biD at e
  repeat' split at e
  all_goals first | (injection e with _ e; exact e.symm) | cases e
theorem s_bi {t : Tx} {G : Pg} {T : Tab} {k : Nat} (b : Bi) {a : E} (ia : Snd t G T k a) : Snd t G T k (.bi b a) := by
  refine .plain (fun C X ex cx h => ?_) (fun C ex h => ?_) (fun C es => rfl)
  · unfold chkE at h
    split at h
    · rename_i x xp e p
      simp only [Bool.and_eq_true, decide_eq_true_eq] at h
      obtain ⟨⟨h1, h2⟩, h3⟩ := h
      subst h1
      have hg := gl_of cx h2
      have he : starEach [e] X.env = (false, eval e X.env) :: starEach [] X.env := star_one (not_star h3)
      have hp := pa_cons (ia.pe C X e cx h3) pa_nil he
      have go : ∀ σ H Q, tE t G T C.M (.bi b a) σ H Q → tCB (rBi t.K b) (tCons (tE t G T C.M a) tNil) σ H Q :=
        one_go (f := biD b) (r := fun x H Q => rBi t.K b [x] H Q) (fun _ _ => rfl) (bi_heap b) fun s σ H x da Q R rx q => bi_go b R rx q
      rw [← cx.K] at go
      cases b with
      | abs => exact (pe_callB call_abs hg (cx.hy.blt _ (by decide)) (by decide +kernel) hp (by decide) (by decide) he rfl).imp go
      | int => exact (pe_callTy call_int1 hg (cx.hy.blt _ (by decide)) (by decide +kernel) hp (by decide) (by decide) he rfl).imp go
      | sum => exact (pe_callB (CallR.or (cr_sum cx.calm) (cr_sumT cx.calm)) hg (cx.hy.blt _ (by decide)) (by decide +kernel) hp (by decide) (by decide) he rfl).imp go
      | all => exact (pe_callB (cr_all cx.calm) hg (cx.hy.blt _ (by decide)) (by decide +kernel) hp (by decide) (by decide) he rfl).imp go
      | any => exact (pe_callB (cr_any cx.calm) hg (cx.hy.blt _ (by decide)) (by decide +kernel) hp (by decide) (by decide) he rfl).imp go
      | tuple => exact (pe_callTy call_tuple_of hg (cx.hy.blt _ (by decide)) (by decide +kernel) hp (by decide) (by decide) he rfl).imp go
      | tupf => exact (pe_callTy cr_tupf hg (cx.hy.blt _ (by decide)) (by decide +kernel) hp (by decide) (by decide) he rfl).imp go
      | list => exact (pe_callTy call_list_of hg (cx.hy.blt _ (by decide)) (by decide +kernel) hp (by decide) (by decide) he rfl).imp go
    · cases h
  · unfold chkE at h
    split at h
    · rfl
    · cases h
end CC

set_option Elab.async false
set_option linter.all false
set_option maxRecDepth 100000
set_option maxHeartbeats 1000000
namespace CC
open PySem PySem.Spec PyProof.Rows L2

section
variable {t : Tx} {G : Pg} {T : Tab} {k : Nat}
/-! ### min of two ints -/
theorem s_min2 {a b : E} (ia : Snd t G T k a) (ib : Snd t G T k b) : Snd t G T k (.min2 a b) := by
  refine .plain (fun C X ex cx h => ?_) (fun C ex h => ?_) (fun C es => rfl)
  · unfold chkE at h
    split at h
    · rename_i x xp e e2 p
      simp only [Bool.and_eq_true, decide_eq_true_eq] at h
      obtain ⟨⟨⟨h1, h2⟩, h3⟩, h4⟩ := h
      subst h1
      have s1 : starEach [e, e2] X.env = (false, eval e X.env) :: starEach [e2] X.env := star_one (not_star h3)
      have s2 : starEach [e2] X.env = (false, eval e2 X.env) :: starEach [] X.env := star_one (not_star h4)
      have hp := pa_cons (ia.pe C X e cx h3) (pa_cons (ib.pe C X e2 cx h4) pa_nil s2) s1
      have s3 : (backTo p (starEach [e2] X.env)).any (·.1) = false := by
        rw [s2]
        rfl
      refine (pe_callB (call_min2 cx.calm) (gl_of cx h2) (cx.hy.blt _ (by decide)) (by decide +kernel) hp (by decide) (by decide) s1 s3).imp ?_
      exact two_go (z := .min2 a b) (f := fun x y h => match x, y with | .int i, .int j => .ok (.int (if j < i then j else i)) h | _, _ => .bad)
        (r := fun x y H Q => ∃ i j, [x, y] = [.int i, .int j] ∧ Q (.int (if j < i then j else i)) H) (fun _ _ => rfl) (fun x y h d h' e => by
          cases x <;> cases y <;> first | (cases e; rfl) | cases e) (fun s σ H x y da db Q R rx ry q => by
          cases da with
          | int i =>
            cases db with
            | int j =>
              cases (show Rep _ _ _ _ x _ from rx)
              cases (show Rep _ _ _ _ y _ from ry)
              exact ⟨i, j, rfl, AftO.int R q⟩
            | _ => exact q.elim
          | _ => exact q.elim)
    · cases h
  · unfold chkE at h
    split at h
    · rfl
    · cases h
/-! ### a[i] -/
theorem chk_slice {x : E} {C : Ctx} {a b c : Option Expr} {p : Pos} : chkE T x C (.Slice a b c p) = false := by
  cases x <;> rfl
theorem plain_ix {x : E} {C : Ctx} {e : Expr} (h : chkE T x C e = true) : PlainIx e := by
  intro o i
  cases e with
  | Slice a b c p =>
    rw [chk_slice] at h
    cases h
  | _ => rfl
theorem sub_go {M : List Nat} {s : Sit} {σ : L2.St} {H : Hp} {x y : V} {da db : D} {Q : VK} (R : Rel t M s σ H) (rx : VRep t s.ρ s.L H x da) (ry : VRep t s.ρ s.L H y db) (h : AftR t M s σ H (subD da db s.h) Q) : rIx t.K x y H Q := by
  unfold subD at h
  split at h
  · rename_i l i e
    cases (show Rep _ _ _ _ y _ from ry)
    obtain ⟨a, xs, rfl, h1, rs⟩ := rx.seq R e
    split at h
    · rename_i j ej
      split at h
      · rename_i d ed
        obtain ⟨v, ev', rv⟩ := rs.get ed
        refine .inl ⟨a, xs, i, v, rfl, rfl, .inl (.inl h1), ?_, h rfl v H (Stp.refl _ _) R rv⟩
        unfold atI
        rw [rs.length, ej]
        exact ev'
      · exact h.elim
    · exact h.elim
  · rename_i l i e
    cases (show Rep _ _ _ _ y _ from ry)
    obtain ⟨a, xs, rfl, h1, rs⟩ := rx.seqT R e
    split at h
    · rename_i j ej
      split at h
      · rename_i d ed
        obtain ⟨v, ev', rv⟩ := rs.get ed
        refine .inr (.inl ⟨a, xs, i, v, rfl, rfl, h1, ?_, h rfl v H (Stp.refl _ _) R rv⟩)
        unfold atI
        rw [rs.length, ej]
        exact ev'
      · exact h.elim
    · exact h.elim
  · exact h.elim
theorem sub_heap : ∀ x y h d h', subD x y h = .ok d h' → h' = h := by
  intro x y h d h' e
  unfold subD at e
  repeat' split at e
  all_goals first | (injection e with _ e; exact e.symm) | cases e
theorem s_sub {a i : E} (ia : Snd t G T k a) (ii : Snd t G T k i) : Snd t G T k (.sub a i) := by
  refine .plain (fun C X ex cx h => ?_) (fun C ex h => ?_) (fun C es => rfl)
  · unfold chkE at h
    split at h
    · simp only [Bool.and_eq_true] at h
      refine (pe_ix ix_seq (ia.pe C X _ cx h.1) (ii.pe C X _ cx h.2) (plain_ix h.2)).imp ?_
      rw [cx.K]
      exact two_goR (f := subD) rfl (fun _ _ => rfl) sub_heap fun s σ H x y da db Q R rx ry q => sub_go R rx ry q
    · cases h
  · unfold chkE at h
    split at h
    · rfl
    · cases h
/-! ### a[lo:hi] -/
theorem po_of {X : Cx} {o : Option Int} {e : Option Expr} (h : chkO o e = true) : PO X e (fun _ H Q => Q o H) := by
  unfold chkO at h
  split at h
  · exact po_none
  · have e := of_decide_eq_true h
    subst e
    exact ⟨fun pins s σ H Q I w => (po_some pe_int).run pins s σ H Q I ⟨_, rfl, w⟩⟩
  · have e := of_decide_eq_true h
    subst e
    exact ⟨fun pins s σ H Q I w => (po_some (pe_un un_neg pe_int)).run pins s σ H Q I ⟨_, rfl, _, rfl, w⟩⟩
  · cases h
theorem Reps.cut {ρ : List Addr} {L : Addr → Prop} {H : Hp} {xs : List V} {l : List D} (r : Reps t ρ L H xs l) (lo hi : Option Int) : Reps t ρ L H (cutV xs lo hi) (cutD l lo hi) := by
  unfold cutV cutD
  rw [r.length]
  exact (r.drop _).take _
theorem slc_go {M : List Nat} {s : Sit} {σ : L2.St} {H : Hp} {x : V} {da : D} {Q : VK} {lo hi : Option Int} (R : Rel t M s σ H) (rx : VRep t s.ρ s.L H x da) (h : AftO t M s σ H (slcD da lo hi s.h) Q) : rSlL t.K x lo hi H Q ∨ rSlT t.K x lo hi H Q := by
  unfold slcD at h
  split at h
  · obtain ⟨a, xs, rfl, h1, _, rs⟩ := rx
    exact .inl ⟨a, xs, rfl, .inl (.inl h1), AftO.lst R h (rs.cut lo hi)⟩
  · cases (show Rep _ _ _ _ x _ from rx) with
    | frz q rs => exact .inl ⟨_, _, rfl, q.sq, AftO.lst R h (rs.cut lo hi)⟩
  · cases (show Rep _ _ _ _ x _ from rx) with
    | tup q rs =>
      split at h
      · exact h.elim
      · rename_i n
        rw [← rs.length] at n
        exact .inr ⟨_, _, rfl, q, n, AftO.tup R h (rs.cut lo hi)⟩
  · exact h.elim
theorem slc_heap {lo hi : Option Int} : ∀ x h d h', slcD x lo hi h = .ok d h' → h' = h := by
  intro x h d h' e
  unfold slcD at e
  repeat' split at e
  all_goals first | (injection e with _ e; exact e.symm) | cases e
theorem s_slc {a : E} (lo hi : Option Int) (ia : Snd t G T k a) : Snd t G T k (.slc a lo hi) := by
  refine .plain (fun C X ex cx h => ?_) (fun C ex h => ?_) (fun C es => rfl)
  · unfold chkE at h
    split at h
    · simp only [Bool.and_eq_true] at h
      obtain ⟨⟨h1, h2⟩, h3⟩ := h
      refine (pe_slice (sl_list.or sl_tup) (ia.pe C X _ cx h1) (po_of h2) (po_of h3)).imp ?_
      rw [cx.K]
      exact one_go (f := fun x h => slcD x lo hi h) (r := fun x H Q => rSlL t.K x lo hi H Q ∨ rSlT t.K x lo hi H Q) (fun _ _ => rfl) slc_heap fun s σ H x da Q R rx q => slc_go R rx q
    · cases h
  · unfold chkE at h
    split at h
    · rfl
    · cases h
/-! ### tuple(range(n)) -/
theorem rng_reps {ρ : List Addr} {L : Addr → Prop} {H : Hp} (n : Int) : Reps t ρ L H (rgV 0 n) (rngD n) := by
  have key : ∀ l : List Nat, Reps t ρ L H (l.map fun i => V.int (0 + (i : Nat))) (l.map fun i => D.int (i : Nat)) := by
    intro l
    induction l with
    | nil => exact .nil
    | cons a r ih =>
      refine .cons ?_ ih
      show Rep t ρ L H (V.int (0 + (a : Int))) (D.int (a : Int))
      rw [Int.zero_add]
      exact .int _
  unfold rgV rngD
  rw [Int.sub_zero]
  exact key _
theorem s_trng {a : E} (ia : Snd t G T k a) : Snd t G T k (.trng a) := by
  refine .plain (fun C X ex cx h => ?_) (fun C ex h => ?_) (fun C es => rfl)
  · unfold chkE at h
    split at h
    · rename_i x xp y yp e p1 p2
      simp only [Bool.and_eq_true, decide_eq_true_eq] at h
      obtain ⟨⟨⟨⟨h1, h2⟩, h3⟩, h4⟩, h5⟩ := h
      subst h1 h2
      have he := prg_1 (p := yp) (pos := p1) (gl_of cx h4) (cx.hy.blt _ (by decide)) (ia.pe C X e cx h5) (star_one (not_star h5))
      refine (pe_tupRg cx.calm (gl_of cx h3) (cx.hy.blt _ (by decide)) he).imp ?_
      refine one_go (f := fun x h => match x with | .int n => if n < 1000000 ∧ -1000000 < n then .ok (.tup (rngD n)) h else .bad | _ => .bad) (fun _ _ => rfl) (fun x h d h' e => ?_) fun s σ H x da Q R rx q => ?_
      · cases x with
        | int n =>
          have e : (if n < 1000000 ∧ -1000000 < n then CC.R.ok (D.tup (rngD n)) h else .bad) = CC.R.ok d h' := e
          split at e
          · cases e
            rfl
          · cases e
        | _ => cases e
      · cases da with
        | int n =>
          cases (show Rep _ _ _ _ x _ from rx)
          have q : AftO t C.M s σ H (if n < 1000000 ∧ -1000000 < n then CC.R.ok (D.tup (rngD n)) s.h else .bad) Q := q
          split at q
          · rename_i hn
            exact ⟨n, rfl, ⟨by omega, by omega, by omega, by omega, by omega⟩, AftO.tup R q (rng_reps n)⟩
          · exact q.elim
        | _ => exact q.elim
    · cases h
  · unfold chkE at h
    split at h
    · rfl
    · cases h
end
end CC

set_option Elab.async false
set_option linter.all false
set_option maxRecDepth 100000
set_option maxHeartbeats 2000000
/-! enumerate and zip over lists and tuples in any mix. -/
namespace CC
open PySem PySem.Spec PyProof.Rows L2

/-- enumerate(v): its making, whatever v begins -/
theorem enum1_new {v : Value} {o : Obj} {I : Heap → Prop} (B : Begins v o I) :
    Meets (Builtin.«enumerate.__new__» ⟨[.type "enumerate", v], []⟩) (fun _ R s => I s.heap ∧
      R (.ok (.ret (.ref (s.heap.push o).objs.size))) { s with heap := (s.heap.push o).push { cls := .type "enumerate", data := .fields #[.none, .bool false, .ref s.heap.objs.size, rawInt 0, .none, .none] } }) :=
  .of_wp fun prog w A R s hw => by
    obtain ⟨hp, gs, dr, tk, os⟩ := s
    obtain ⟨hI, hw⟩ := hw
    have hsub := sub_enumerate
    have itr : ∀ {A' : Around} {E' : Value → Shared → Prop} {Q' : Value → Shared → Prop}, Q' (.ref hp.objs.size) ⟨hp.push o, gs, dr, tk, os⟩ → wpAny (model prog w) A' (pyIter v) Q' E' ⟨hp, gs, dr, tk, os⟩ :=
      fun z => B.iter prog w _ _ ⟨hp, gs, dr, tk, os⟩ _ hI z
    wp_walk using itr
    refine wpAny_stack_any fun st => wpAny_pure ?_
    split
    · rename_i c _ _ _ _ _
      cases (c == Value.type "enumerate")
      all_goals (wp_walk using itr; exact ⟨_, rfl, hw⟩)
    · wp_walk using itr
      exact ⟨_, rfl, hw⟩
theorem enum1_begins {prog : Program} {w : World} {A : Around} {E : Value → Shared → Prop} {s : Shared} {v : Value} {o : Obj} {I : Heap → Prop} {Q : Value → Shared → Prop} (B : Begins v o I) (hI : I s.heap)
    (hq : ∀ h', IsEnum h' (s.heap.objs.size + 1) s.heap.objs.size 0 .none → h'.get? s.heap.objs.size = some o → h'.objs.size = s.heap.objs.size + 2 → (∀ b u, s.heap.get? b = some u → h'.get? b = some u) → Q (.ref (s.heap.objs.size + 1)) { s with heap := h' }) :
    wpAny (model prog w) A (call (.type "enumerate") [v]) Q E s := by
  refine callType_new F.called_enumerate (by decide) (F.typeCall_enumerate_1 _) (F.newCall_enumerate_1 _) (fun ob => F.args_object_init_2 ob _) F.entry_enumerate_new (enum1_new B) ⟨hI, ?_⟩
  have sz : (s.heap.push o).objs.size = s.heap.objs.size + 1 := Heap.size_push ..
  show _ ∧ _
  rw [sz]
  have en : IsEnum ((s.heap.push o).push { cls := .type "enumerate", data := .fields #[.none, .bool false, .ref s.heap.objs.size, rawInt 0, .none, .none] }) (s.heap.objs.size + 1) s.heap.objs.size 0 .none := by
    have z := Heap.get?_push_size (s.heap.push o) (o := { cls := .type "enumerate", data := .fields #[.none, .bool false, .ref s.heap.objs.size, rawInt 0, .none, .none] }) rfl
    rw [sz] at z
    exact z
  exact ⟨⟨_, en, rfl⟩, hq _ en (Heap.get?_push_of_some _ (Heap.get?_push_size _ B.free)) (by rw [Heap.size_push, sz]) fun b u z => Heap.get?_push_of_some _ (Heap.get?_push_of_some _ z)⟩

/-! ### a list or a tuple -/
/-- by the flag a tuple, or a list -/
def SeX (b : Bool) (h : Heap) (a : Addr) (its : Array Value) : Prop := if b then h.IsTuple a its else h.IsList a its
def ItX (b : Bool) (h : Heap) (it a : Addr) (i : Nat) : Prop := if b then h.IsTupleIter it a i else h.IsListIter it a i
section
variable {X : Cx} {pins : List (Addr × Obj)} {σ : L2.St} {H : Hp} {s : Shared}
theorem sqx_se {b : Bool} {a : Addr} {xs : List V} (I : Inv X pins σ H s) (h : SqX b X.K H a xs) : ∃ its : List Value, Vals xs its ∧ SeX b s.heap a its.toArray ∧ a < s.heap.objs.size := by
  cases b with
  | true =>
    obtain ⟨its, rv, p, _⟩ := I.tuple h
    exact ⟨its, rv, p, p.lt⟩
  | false =>
    obtain ⟨its, rv, p, _⟩ := I.list h
    exact ⟨its, rv, p.isList, p.lt⟩
end
theorem beginsX (b : Bool) (a : Addr) (its : Array Value) : Begins (.ref a) (obX b a) (fun h => SeX b h a its) := by
  cases b with
  | true => exact begins_tuple a its
  | false => exact begins_list a its
theorem drawX {prog : Program} {w : World} {A : Around} (hh : A.handled = none) (b : Bool) (it a : Addr) (ne : a ≠ it) (its : Array Value) :
    Draws prog w A it [it, a] its.size (fun i v => its[i]? = some v) (fun i h => ItX b h it a i ∧ SeX b h a its) := by
  cases b with
  | true => exact Draws.tuple hh it a ne its
  | false => exact Draws.list hh it a ne its
theorem itx_at {b : Bool} {h h' : Heap} {it a : Addr} {i : Nat} (st : ItX b h it a i) (k : ∀ o, h.get? it = some o → h'.get? it = some o) : ItX b h' it a i := by
  cases b with
  | true =>
    obtain ⟨o, e, c, d⟩ := st
    exact ⟨o, k o e, c, d⟩
  | false =>
    obtain ⟨o, e, c, d⟩ := st
    exact ⟨o, k o e, c, d⟩
theorem itx_obj {b : Bool} {h : Heap} {it a : Addr} {i : Nat} (st : ItX b h it a i) : ∃ o, h.get? it = some o ∧ ∀ v, o.data ≠ .cell v := by
  cases b with
  | true =>
    obtain ⟨o, e, _, d⟩ := st
    exact ⟨o, e, fun v z => by rw [d] at z; cases z⟩
  | false =>
    obtain ⟨o, e, _, d⟩ := st
    exact ⟨o, e, fun v z => by rw [d] at z; cases z⟩
theorem itx_new {b : Bool} {h : Heap} {it a : Addr} (e : h.get? it = some (obX b a)) : ItX b h it a 0 := by
  cases b with
  | true => exact ⟨_, e, rfl, rfl⟩
  | false => exact ⟨_, e, rfl, rfl⟩

/-! ### zip -/
def IzX (b c : Bool) (K : PySem.W.Frag) (a a' : Addr) (xs ys : List V) : It :=
  ⟨fun i H => SqX b K H a xs ∧ SqX c K H a' ys ∧ i < min xs.length ys.length, fun i H v H' => ∃ T x y, v = .ref T ∧ H T = none ∧ H' = upd H T (.tup [x, y]) ∧ xs[i]? = some x ∧ ys[i]? = some y,
    fun i H => SqX b K H a xs ∧ SqX c K H a' ys ∧ i = min xs.length ys.length⟩
theorem turn_zipX {P : Program} {w : World} {K : PySem.W.Frag} {elts : List Expr} {kk : Nat} {tpos : Pos} {b c : Bool} {a a' z TI TO i1 i2 : Addr} {xs ys : List V} (S : ZipSep2 z TI TO i1 i2 [i1, a] [i2, a']) (n1 : a ≠ i1) (n2 : a' ≠ i2) :
    Turn P w K (.Tuple elts kk tpos) (IzX b c K a a' xs ys) [z, TI, TO, i1, i2] z
      (fun i h => IsZip h z TI TO .none ∧ IsTupOf2 h TI (.ref i1) (.ref i2) ∧ (∃ u v, IsTupOf2 h TO u v) ∧ ItX b h i1 a i ∧ ItX c h i2 a' i) where
  mem := by simp
  obj := fun i h st q hq => by
    obtain ⟨hz, hTI, ⟨u, v, hTO⟩, h1, h2⟩ := st
    have q' : q = z ∨ q = TI ∨ q = TO ∨ q = i1 ∨ q = i2 := by simpa using hq
    rcases q' with rfl | rfl | rfl | rfl | rfl
    · exact ⟨_, hz, fun _ y => nomatch y⟩
    · exact ⟨_, hTI, fun _ y => nomatch y⟩
    · exact ⟨_, hTO, fun _ y => nomatch y⟩
    · exact itx_obj h1
    · exact itx_obj h2
  keep := fun i h h' st k => by
    obtain ⟨hz, hTI, ⟨u, v, hTO⟩, h1, h2⟩ := st
    exact ⟨k z (by simp) _ hz, k TI (by simp) _ hTI, ⟨u, v, k TO (by simp) _ hTO⟩, itx_at h1 (k i1 (by simp)), itx_at h2 (k i2 (by simp))⟩
  item := by
    intro X hP hw hK hc i pins s σ H E I hf st hg
    subst hP hw hK
    obtain ⟨hz, hTI, hTO, h1, h2⟩ := st
    obtain ⟨q1, q2, hi⟩ := hg
    obtain ⟨its, rv, se, lt1⟩ := sqx_se I q1
    obtain ⟨its2, rv2, se2, lt2⟩ := sqx_se I q2
    have hh : X.A.in1.handled = none := I.ok.hd hc
    have W := GoesN.zip2 (elts := elts) (x1 := kk) (pos := tpos) S (drawX (prog := X.prog) (w := X.w) (A := X.A.in1) hh b i1 a n1 its.toArray) (drawX (prog := X.prog) (w := X.w) (A := X.A.in1) hh c i2 a' n2 its2.toArray)
    refine W.goes i s _ E ?_ ⟨hz, hTI, hTO, ⟨h1, se⟩, ⟨h2, se2⟩⟩ fun v h' tk hy st' kp _ => ?_
    · rw [List.size_toArray, List.size_toArray, ← rv.length, ← rv2.length]
      exact hi
    · obtain ⟨T, x, y, rfl, hT, e1, e2, tT⟩ := hy
      obtain ⟨z', TI', TO', ⟨j1, _⟩, ⟨j2, _⟩⟩ := st'
      have e1' : its[i]? = some x := by simpa using e1
      have e2' : its2[i]? = some y := by simpa using e2
      have l1 : i < xs.length := by omega
      have l2 : i < ys.length := by omega
      obtain ⟨x', ex', rx⟩ := rv.get (List.getElem?_eq_getElem l1)
      obtain ⟨y', ey', ry⟩ := rv2.get (List.getElem?_eq_getElem l2)
      rw [e1'] at ex'
      rw [e2'] at ey'
      cases ex'
      cases ey'
      have hTn : H T = none := I.hok.fresh hT
      refine ⟨.ref T, upd H T (.tup [xs[i], ys[i]]), I.turnedNew (ch := [z, TI, TO, i1, i2]) (fun q o hq e => kp q o (fun hm => hq ?_) e) hf hT ?_, rfl, ⟨T, _, _, rfl, hTn, rfl, List.getElem?_eq_getElem l1, List.getElem?_eq_getElem l2⟩, ⟨z', TI', TO', j1, j2⟩, fun q hq => ?_⟩
      · have hm' : q = z ∨ q = TO ∨ q = i1 ∨ q = i2 := by simpa using hm
        rcases hm' with r | r | r | r <;> simp [r]
      · exact ⟨by show 2 ≤ sizeLine; decide, [x, y], .cons rx (.cons ry .nil), tT⟩
      · obtain ⟨o, eo, _⟩ : ∃ o, s.heap.get? q = some o ∧ True := by
          have q' : q = z ∨ q = TI ∨ q = TO ∨ q = i1 ∨ q = i2 := by simpa using hq
          obtain ⟨u, v, hTO⟩ := hTO
          rcases q' with rfl | rfl | rfl | rfl | rfl
          · exact ⟨_, hz, trivial⟩
          · exact ⟨_, hTI, trivial⟩
          · exact ⟨_, hTO, trivial⟩
          · obtain ⟨o, eo, _⟩ := itx_obj h1
            exact ⟨o, eo, trivial⟩
          · obtain ⟨o, eo, _⟩ := itx_obj h2
            exact ⟨o, eo, trivial⟩
        rw [upd_ne (Nat.ne_of_lt (Nat.lt_of_lt_of_le (Heap.lt_size eo) hT))]
        exact (hf q hq).1
  done := by
    intro X hP hw hK hc i pins s σ H E I hf st hg
    subst hP hw hK
    obtain ⟨hz, hTI, hTO, h1, h2⟩ := st
    obtain ⟨q1, q2, hi⟩ := hg
    obtain ⟨its, rv, se, lt1⟩ := sqx_se I q1
    obtain ⟨its2, rv2, se2, lt2⟩ := sqx_se I q2
    have hh : X.A.in1.handled = none := I.ok.hd hc
    have W := GoesN.zip2 (elts := elts) (x1 := kk) (pos := tpos) S (drawX (prog := X.prog) (w := X.w) (A := X.A.in1) hh b i1 a n1 its.toArray) (drawX (prog := X.prog) (w := X.w) (A := X.A.in1) hh c i2 a' n2 its2.toArray)
    have en : i = min its.toArray.size its2.toArray.size := by
      rw [List.size_toArray, List.size_toArray, ← rv.length, ← rv2.length]
      exact hi
    rw [en] at h1 h2
    refine W.stops s _ E ⟨hz, hTI, hTO, ⟨h1, se⟩, ⟨h2, se2⟩⟩ fun h' tk kp _ => ?_
    exact I.turnedL (ch := [z, TI, TO, i1, i2]) (fun q o hq e => kp q o (fun hm => hq (by
      have hm' : q = z ∨ q = TO ∨ q = i1 ∨ q = i2 := by simpa using hm
      rcases hm' with r | r | r | r <;> simp [r])) e) hf
  self := fun A i s Q E st h => wpAny_pyIter_zip st.1 h
def iZipX (K : PySem.W.Frag) (ta : TA) : TI := fun σ H R => ta σ H fun vs H1 => ∃ b c a a' xs ys, vs = [.ref a, .ref a'] ∧ SqX b K H1 a xs ∧ SqX c K H1 a' ys ∧ R (IzX b c K a a' xs ys) H1
theorem pi_zipX {X : Cx} {e e2 : Expr} {ta : TA} {p pos tpos : Pos} {elts : List Expr} {kk : Nat} (hg : Gl X "zip") (hm : X.mg "zip" = none) (ha : PA X [e, e2] ta)
    (hs : starEach [e, e2] X.env = (false, eval e X.env) :: starEach [e2] X.env) (hpl : (backTo pos (starEach [e2] X.env)).any (·.1) = false) :
    PI X (.Tuple elts kk tpos) (.Call (.Name "zip" p) [e, e2] [] pos) (iZipX X.K ta) := by
  refine ⟨fun pins s σ H R I h => ?_⟩
  refine Call_ (ld_blt I hg hm PyProof.Rows.boot_zip (PyProof.Rows.callWith_type1 (thn (ha.run pos pins s σ H _ I h) fun us s1 ⟨vs, H1, I1, r1, q1⟩ => ?_) hs hpl))
  obtain ⟨b, c, a, a', xs, ys, ex, q1, q2, qR⟩ := q1
  subst ex
  obtain ⟨u1, u2, rfl, ra, rb⟩ := r1.two
  cases (show u1 = Value.ref a from ra)
  cases (show u2 = Value.ref a' from rb)
  obtain ⟨its, rv, se, lt1⟩ := sqx_se I1 q1
  obtain ⟨its2, rv2, se2, lt2⟩ := sqx_se I1 q2
  refine zip_begins2 (beginsX b a its.toArray) (beginsX c a' its2.toArray) se se2 fun h' hz hTI hTO o1 o2 _ hk => wpAny_pyIter_zip hz ?_
  have I2 : Inv X pins σ H1 { s1 with heap := h' } := I1.kept (t' := s1.toks) hk
  refine ⟨s1.heap.objs.size + 4, [s1.heap.objs.size + 4, s1.heap.objs.size + 2, s1.heap.objs.size + 3, s1.heap.objs.size, s1.heap.objs.size + 1], _, _, H1, rfl, I2,
    turn_zipX (zip_sep2 (fp1 := [a]) (fp2 := [a']) (fun q hq => by rw [List.mem_singleton.mp hq]; exact lt1) (fun q hq => by rw [List.mem_singleton.mp hq]; exact lt2)) (Nat.ne_of_lt lt1) (Nat.ne_of_lt (Nat.lt_succ_of_lt lt2)), ⟨hz, hTI, ⟨_, _, hTO⟩, itx_new o1, itx_new o2⟩, fun q hq => ?_, qR⟩
  have q' : q = s1.heap.objs.size + 4 ∨ q = s1.heap.objs.size + 2 ∨ q = s1.heap.objs.size + 3 ∨ q = s1.heap.objs.size ∨ q = s1.heap.objs.size + 1 := by simpa using hq
  have hle : s1.heap.objs.size ≤ q := by
    have : (s1.heap.objs.size : Nat) ≤ (q : Nat) := by
      rcases q' with r | r | r | r | r <;> (rw [r]; first | exact Nat.le_add_right _ _ | exact Nat.le_refl _)
    exact this
  exact I1.fpOk hle (I1.hok.fresh hle)

/-! ### enumerate -/
def IeX (b : Bool) (K : PySem.W.Frag) (a : Addr) (xs : List V) : It :=
  ⟨fun i H => SqX b K H a xs ∧ i < xs.length, fun i H v H' => ∃ T x, v = .ref T ∧ H T = none ∧ H' = upd H T (.tup [.int (i : Nat), x]) ∧ xs[i]? = some x, fun i H => SqX b K H a xs ∧ i = xs.length⟩
theorem turn_enumX {P : Program} {w : World} {K : PySem.W.Frag} {elts : List Expr} {kk : Nat} {tpos : Pos} {b : Bool} {a e it : Addr} {xs : List V} (n1 : a ≠ it) (n2 : e ≠ it) (n3 : e ≠ a) :
    Turn P w K (.Tuple elts kk tpos) (IeX b K a xs) [e, it] e (fun i h => (∃ old, IsEnum h e it (0 + (i : Int)) old) ∧ ItX b h it a i) where
  mem := by simp
  obj := fun i h st q hq => by
    obtain ⟨⟨old, he⟩, h1⟩ := st
    have q' : q = e ∨ q = it := by simpa using hq
    rcases q' with rfl | rfl
    · exact ⟨_, he, fun _ y => nomatch y⟩
    · exact itx_obj h1
  keep := fun i h h' st k => by
    obtain ⟨⟨old, he⟩, h1⟩ := st
    exact ⟨⟨old, k e (by simp) _ he⟩, itx_at h1 (k it (by simp))⟩
  item := by
    intro X hP hw hK hc i pins s σ H E I hf st hg
    subst hP hw hK
    obtain ⟨he, h1⟩ := st
    obtain ⟨q1, hi⟩ := hg
    obtain ⟨its, rv, se, lt1⟩ := sqx_se I q1
    have hh : X.A.in1.handled = none := I.ok.hd hc
    have W := GoesN.enumFrom (elts := elts) (x1 := kk) (pos := tpos) 0 (drawX (prog := X.prog) (w := X.w) (A := X.A.in1) hh b it a n1 its.toArray) e n2 (by simp [n2, n3]) (by simp)
    refine W.goes i s _ E ?_ ⟨he, ⟨h1, se⟩⟩ fun v h' tk hy st' kp _ => ?_
    · rw [List.size_toArray, ← rv.length]
      exact hi
    · obtain ⟨T, tt, x, rfl, hT, e1, tT⟩ := hy
      obtain ⟨he', ⟨j1, _⟩⟩ := st'
      have e1' : its[i]? = some x := by simpa using e1
      obtain ⟨x', ex', rx⟩ := rv.get (List.getElem?_eq_getElem hi)
      rw [e1'] at ex'
      cases ex'
      have hTn : H T = none := I.hok.fresh hT
      refine ⟨.ref T, upd H T (.tup [.int (i : Nat), xs[i]]), I.turnedNew (ch := [e, it]) (fun q o hq e => kp q o hq e) hf hT ?_, rfl, ⟨T, _, rfl, hTn, rfl, List.getElem?_eq_getElem hi⟩, ⟨he', j1⟩, fun q hq => ?_⟩
      · refine ⟨by show 2 ≤ sizeLine; decide, [.int (0 + (i : Int)) tt, x], .cons ⟨tt, ?_⟩ (.cons rx .nil), tT⟩
        rw [Int.zero_add]
      · obtain ⟨o, eo, _⟩ : ∃ o, s.heap.get? q = some o ∧ True := by
          have q' : q = e ∨ q = it := by simpa using hq
          obtain ⟨old, he⟩ := he
          rcases q' with rfl | rfl
          · exact ⟨_, he, trivial⟩
          · obtain ⟨o, eo, _⟩ := itx_obj h1
            exact ⟨o, eo, trivial⟩
        rw [upd_ne (Nat.ne_of_lt (Nat.lt_of_lt_of_le (Heap.lt_size eo) hT))]
        exact (hf q hq).1
  done := by
    intro X hP hw hK hc i pins s σ H E I hf st hg
    subst hP hw hK
    obtain ⟨he, h1⟩ := st
    obtain ⟨q1, hi⟩ := hg
    obtain ⟨its, rv, se, lt1⟩ := sqx_se I q1
    have hh : X.A.in1.handled = none := I.ok.hd hc
    have W := GoesN.enumFrom (elts := elts) (x1 := kk) (pos := tpos) 0 (drawX (prog := X.prog) (w := X.w) (A := X.A.in1) hh b it a n1 its.toArray) e n2 (by simp [n2, n3]) (by simp)
    have en : i = its.toArray.size := by
      rw [List.size_toArray, ← rv.length]
      exact hi
    rw [en] at h1 he
    exact W.stops s _ E ⟨he, ⟨h1, se⟩⟩ fun h' tk kp _ => I.turnedL (ch := [e, it]) (fun q o hq e => kp q o hq e) hf
  self := fun A i s Q E st h => by
    obtain ⟨⟨old, he⟩, _⟩ := st
    exact wpAny_pyIter_enum he h
def iEnumX (K : PySem.W.Frag) (ta : TA) : TI := fun σ H R => ta σ H fun vs H1 => ∃ b a xs, vs = [.ref a] ∧ SqX b K H1 a xs ∧ R (IeX b K a xs) H1
theorem pi_enumX {X : Cx} {e : Expr} {ta : TA} {p pos tpos : Pos} {elts : List Expr} {kk : Nat} (hg : Gl X "enumerate") (hm : X.mg "enumerate" = none) (ha : PA X [e] ta) (hs : starEach [e] X.env = (false, eval e X.env) :: starEach [] X.env) :
    PI X (.Tuple elts kk tpos) (.Call (.Name "enumerate" p) [e] [] pos) (iEnumX X.K ta) := by
  refine ⟨fun pins s σ H R I h => ?_⟩
  refine Call_ (ld_blt I hg hm (show bootBuiltins "enumerate" = some (.type "enumerate") by decide +kernel) (PyProof.Rows.callWith_type1 (thn (ha.run pos pins s σ H _ I h) fun us s1 ⟨vs, H1, I1, r1, q1⟩ => ?_) hs rfl))
  obtain ⟨b, a, xs, ex, q1, qR⟩ := q1
  subst ex
  obtain ⟨u1, rfl, ra⟩ := r1.one
  cases (show u1 = Value.ref a from ra)
  obtain ⟨its, rv, se, lt1⟩ := sqx_se I1 q1
  refine enum1_begins (beginsX b a its.toArray) se fun h' he o1 _ hk => wpAny_pyIter_enum he ?_
  have I2 : Inv X pins σ H1 { s1 with heap := h' } := I1.kept (t' := s1.toks) hk
  refine ⟨s1.heap.objs.size + 1, [s1.heap.objs.size + 1, s1.heap.objs.size], _, _, H1, rfl, I2, turn_enumX (Nat.ne_of_lt lt1) (Nat.succ_ne_self _) (Nat.ne_of_gt (Nat.lt_succ_of_lt lt1)), ⟨⟨_, he⟩, itx_new o1⟩, fun q hq => ?_, qR⟩
  have q' : q = s1.heap.objs.size + 1 ∨ q = s1.heap.objs.size := by simpa using hq
  have hle : s1.heap.objs.size ≤ q := by
    rcases q' with r | r
    · rw [r]; exact Nat.le_add_right _ _
    · rw [r]; exact Nat.le_refl _
  exact I1.fpOk hle (I1.hok.fresh hle)
end CC

set_option Elab.async false
set_option linter.all false
set_option maxRecDepth 100000
set_option maxHeartbeats 1000000
/-! What loops and comprehensions walk. -/
namespace CC
open PySem PySem.Spec PyProof.Rows L2

/-- what is given out at a turn, by the values as they stood at the walk's beginning -/
def Yd (t : Tx) (s : Sit) (H' : Hp) (ds : List D) : Nat → Hp → V → Hp → Prop := fun i H1 v H2 =>
  (H2 = H1 ∧ ∃ d, ds[i]? = some d ∧ Rep t s.ρ s.L H' v d) ∨
  (∃ T x y dx dy, v = .ref T ∧ H1 T = none ∧ H2 = upd H1 T (.tup [x, y]) ∧ ds[i]? = some (.tup [dx, dy]) ∧ Rep t s.ρ s.L H' x dx ∧ Rep t s.ρ s.L H' y dy)
def Wk (t : Tx) (s : Sit) (bw : Bool) (J : It) (ds : List D) (H' : Hp) : Prop :=
  ∃ Γ : Hp → Prop, Γ H' ∧ (∀ H1 H2, Γ H1 → (∀ b o, H1 b = some o → Fix o ∨ (b ∉ s.ρ ∧ (bw = false → ¬ s.L b)) → H2 b = some o) → Γ H2) ∧ Walk J ds.length Γ (Yd t s H' ds)
def AftI (t : Tx) (M : List Nat) (x : E) (s : Sit) (σ : L2.St) (H : Hp) (r : R D) (Q : It → Hp → Prop) : Prop := match r with
  | .ok (.tup ds) h' => ∀ J H' ρ', Stp s.ρ ρ' H H' → Rel t M (s.to ρ' h') σ H' → Wk t (s.to ρ' h') (borI x) J ds H' → Q J H'
  | _ => False
def tI (t : Tx) (G : Pg) (M : List Nat) (x : E) : TI := fun σ H Q => ∃ s : Sit, Rel t M s σ H ∧ AftI t M x s σ H (ev G x s.e s.h) Q
def SndI (t : Tx) (G : Pg) (T : Tab) (k : Nat) (x : E) : Prop := ∀ C X tg ex, CxOk t G T k C X → chkI T x C ex tg = true → PI X tg ex (tI t G C.M x)
theorem _root_.L2.PI.imp {X : Cx} {tg e : Expr} {t u : TI} (h : PI X tg e t) (k : ∀ σ H Q, u σ H Q → t σ H Q) : PI X tg e u := ⟨fun pins s σ H Q I q => h.run pins s σ H Q I (k σ H Q q)⟩

/-! ### a walked value -/
def PIV (X : Cx) (tg : Expr) (r : V → Hp → (It → Hp → Prop) → Prop) : Prop := ∀ (pins : List (Addr × Obj)) (s : Shared) (σ : L2.St) (H : Hp) (x : V) (v : Value) (R : It → Hp → Prop), Inv X pins σ H s → RelV x v → r x H R →
  wpAny (model X.prog X.w) X.A (pyIter v) (PIE X pins σ tg R) X.xe s
theorem pi_val {X : Cx} {tg e : Expr} {te : TE} {r : V → Hp → (It → Hp → Prop) → Prop} (he : PE X e te) (h : PIV X tg r) : PI X tg e (fun σ H R => te σ H fun x H1 => r x H1 R) :=
  ⟨fun pins s σ H R I q => thn (he.run pins s σ H _ I q) fun v s1 ⟨x, H1, I1, r1, q1⟩ => h pins s1 σ H1 x v R I1 r1 q1⟩
def ItSX (b : Bool) (K : PySem.W.Frag) (a : Addr) : It := if b then Itt K a else Itl K a
theorem piv_seq {X : Cx} {tg : Expr} : PIV X tg (fun x H R => ∃ b a xs, x = .ref a ∧ SqX b X.K H a xs ∧ R (ItSX b X.K a) H) := by
  intro pins s σ H x v R I rx h
  obtain ⟨b, a, xs, rfl, q, w⟩ := h
  cases (show v = Value.ref a from rx)
  obtain ⟨its, rv, se, lt1⟩ := sqx_se I q
  have B := beginsX b a its.toArray
  refine B.iter X.prog X.w X.A X.xe s _ se ?_
  have I1 : Inv X pins σ H { s with heap := s.heap.push (obX b a) } := I.kept (t' := s.toks) fun c o e => Heap.get?_push_of_some _ e
  have fp : ∀ c ∈ [s.heap.objs.size], FpOk X pins H c := fun c hc => by
    rw [List.mem_singleton.mp hc]
    exact I.fpOk (Nat.le_refl _) (I.hok.fresh (Nat.le_refl _))
  cases b with
  | true => exact ⟨s.heap.objs.size, [s.heap.objs.size], _, _, H, rfl, I1, turn_tuple a _, ⟨_, Heap.get?_push_size _ rfl, rfl, rfl⟩, fp, w⟩
  | false => exact ⟨s.heap.objs.size, [s.heap.objs.size], _, _, H, rfl, I1, turn_list a _, ⟨_, Heap.get?_push_size _ rfl, rfl, rfl⟩, fp, w⟩
theorem sqx_keep {b : Bool} {K : PySem.W.Frag} {H1 H2 : Hp} {a : Addr} {xs : List V} (h : SqX b K H1 a xs) (k : ∀ o, H1 a = some o → H2 a = some o) : SqX b K H2 a xs := by
  cases b with
  | true =>
    rcases (show SqT K H1 a xs from h) with (h | ⟨o, h⟩) | h
    · exact .inl (.inl (k _ h))
    · exact .inl (.inr ⟨o, k _ h⟩)
    · exact .inr h
  | false =>
    rcases (show SqL K H1 a xs from h) with (h | ⟨o, h⟩) | h
    · exact .inl (.inl (k _ h))
    · exact .inl (.inr ⟨o, k _ h⟩)
    · exact .inr h
def Kp (s : Sit) (bw : Bool) (H1 H2 : Hp) : Prop := ∀ b o, H1 b = some o → Fix o ∨ (b ∉ s.ρ ∧ (bw = false → ¬ s.L b)) → H2 b = some o
/-- what is seen as a list or a tuple, and stays so -/
structure Src (t : Tx) (s : Sit) (bw : Bool) (H : Hp) (v : V) (ds : List D) (b : Bool) (a : Addr) (xs : List V) : Prop where
  ref : v = .ref a
  sq : SqX b t.K H a xs
  rs : Reps t s.ρ s.L H xs ds
  n : b = true ∨ (H a = some (.lst xs) ∧ a ∉ s.ρ ∧ (bw = false → ¬ s.L a))
section
variable {t : Tx} {s : Sit} {bw : Bool} {H H' : Hp} {v : V} {ds : List D} {b : Bool} {a : Addr} {xs : List V} {M : List Nat} {σ : L2.St} {ρ' : List Addr} {h' : Hb}
theorem Src.kp (h : Src t s bw H v ds b a xs) : ∀ H1 H2, SqX b t.K H1 a xs → Kp s bw H1 H2 → SqX b t.K H2 a xs := fun H1 H2 z k => by
  cases b with
  | true => exact SqT.move (H := H1) z fun b o e f => k b o e (.inl f)
  | false =>
    rcases h.n with y | ⟨_, y⟩
    · cases y
    · rcases (show SqL t.K H1 a xs from z) with (z | ⟨o, z⟩) | z
      · exact .inl (.inl (k _ _ z (.inr y)))
      · exact .inl (.inr ⟨o, k _ _ z (.inl trivial)⟩)
      · exact .inr z
theorem Src.weak {bw' : Bool} (h : Src t s bw H v ds b a xs) (k : bw = true → bw' = true) : Src t s bw' H v ds b a xs :=
  ⟨h.ref, h.sq, h.rs, h.n.imp id fun y => ⟨y.1, y.2.1, fun nb => y.2.2 (by
    cases bw with
    | false => rfl
    | true =>
      rw [k rfl] at nb
      cases nb)⟩⟩
theorem src_of {x : E} {T : Tab} {H0 : Hp} {d : D} {s0 : Sit} (R0 : Rel t M s0 σ H0) (h : Res t T x (s0.to ρ' h') H0 H v d) (e : seqD d = some ds) : ∃ b a xs, Src t (s0.to ρ' h') (bor x) H v ds b a xs := by
  cases d with
  | lst l =>
    cases e
    have hv := Res.see R0 h
    obtain ⟨a, xs, rfl, h1, h2, r⟩ := hv
    refine ⟨false, a, xs, rfl, .inl (.inl h1), r, .inr ⟨h1, h2, fun nb => ?_⟩⟩
    have q := Res.rep nb R0 h
    cases q with
    | lst _ n _ => exact n
  | tup l =>
    cases e
    have hv : Rep t ρ' (s0.to ρ' h').L H v (.tup ds) := Res.see R0 h
    cases hv with
    | tup q r => exact ⟨true, _, _, rfl, q, r, .inl rfl⟩
  | ft l =>
    cases e
    have hv : Rep t ρ' (s0.to ρ' h').L H v (.ft ds) := Res.see R0 h
    cases hv with
    | ft q _ r => exact ⟨true, _, _, rfl, .inl (.inr ⟨_, q⟩), r, .inl rfl⟩
  | _ => cases e
/-- a source stays as it is seen along an expression -/
theorem Src.step (R : Rel t M s σ H) (st : Stp s.ρ ρ' H H') (h : Src t s bw H v ds b a xs) : Src t (s.to ρ' h') bw H' v ds b a xs := by
  refine ⟨h.ref, h.kp H H' h.sq fun c o e f => f.elim (st.fix c o e) fun y => st.keep c o e y.1, h.rs.step R st, h.n.imp id fun y => ⟨st.keep _ _ y.1 y.2.1, fun z => ?_, fun nb => (st.L (h' := h') R _ _ y.1 (y.2.2 nb)).2⟩⟩
  rcases st.new a z with q | q
  · exact y.2.1 q
  · rw [y.1] at q
    cases q
/-- a walk over a source -/
theorem wk_seq (h : Src t s bw H v ds b a xs) : Wk t s bw (ItSX b t.K a) ds H := by
  refine ⟨fun Hc => SqX b t.K Hc a xs, h.sq, fun H1 H2 z k => h.kp H1 H2 z k, ?_⟩
  have key : ∀ (i : Nat) (x : V), i < ds.length → xs[i]? = some x → ∃ d, ds[i]? = some d ∧ Rep t s.ρ s.L H x d := fun i x hi e => h.rs.getV e
  rw [← h.rs.length]
  cases b with
  | true => exact (walk_tup (K := t.K) (a := a) (xs := xs)).mono (fun _ q => q) fun i H1 x H2 hi _ y => .inl ⟨y.1, h.rs.getV y.2⟩
  | false => exact (walk_list (K := t.K) (a := a) (xs := xs)).mono (fun _ q => q) fun i H1 x H2 hi _ y => .inl ⟨y.1, h.rs.getV y.2⟩
theorem enum_get : ∀ (l : List D) (n i : Nat) (d : D), l[i]? = some d → (enumD n l)[i]? = some (.tup [.int ((n + i : Nat) : Int), d])
  | [], _, _, _, h => by simp at h
  | x :: r, n, 0, d, h => by
    have e : x = d := by simpa using h
    subst e
    rfl
  | x :: r, n, i + 1, d, h => by
    have q := enum_get r (n + 1) i d (by simpa using h)
    show (enumD (n + 1) r)[i]? = _
    rw [q, Nat.add_assoc, Nat.add_comm 1 i]
theorem enum_len : ∀ (l : List D) (n : Nat), (enumD n l).length = l.length
  | [], _ => rfl
  | x :: r, n => by
    show (enumD (n + 1) r).length + 1 = r.length + 1
    rw [enum_len r]
theorem zip_get : ∀ (l m : List D) (i : Nat) (d e : D), l[i]? = some d → m[i]? = some e → (zipD l m)[i]? = some (.tup [d, e])
  | [], _, _, _, _, h, _ => by simp at h
  | _ :: _, [], _, _, _, _, h => by simp at h
  | x :: r, y :: q, 0, d, e, h, h2 => by
    have e1 : x = d := by simpa using h
    have e2 : y = e := by simpa using h2
    subst e1 e2
    rfl
  | x :: r, y :: q, i + 1, d, e, h, h2 => by
    show (zipD r q)[i]? = _
    exact zip_get r q i d e (by simpa using h) (by simpa using h2)
theorem zip_len : ∀ (l m : List D), (zipD l m).length = min l.length m.length
  | [], _ => by simp [zipD]
  | _ :: _, [] => by simp [zipD]
  | x :: r, y :: q => by
    show (zipD r q).length + 1 = _
    rw [zip_len r q]
    simp only [List.length_cons]
    omega
theorem wk_enum (h : Src t s bw H v ds b a xs) : Wk t s bw (IeX b t.K a xs) (enumD 0 ds) H := by
  refine ⟨fun Hc => SqX b t.K Hc a xs, h.sq, fun H1 H2 z k => h.kp H1 H2 z k, ?_⟩
  rw [enum_len, ← h.rs.length]
  refine ⟨fun i H1 hi q => ⟨q, hi⟩, fun H1 q => ⟨q, rfl⟩, fun i H1 x H2 hi q y => ?_⟩
  obtain ⟨Tt, u, e1, e2, e3, e4⟩ := y
  obtain ⟨d, ed, rd⟩ := h.rs.getV e4
  refine .inr ⟨Tt, _, u, .int (i : Nat), d, e1, e2, e3, ?_, .int _, rd⟩
  have := enum_get ds 0 i d ed
  rw [Nat.zero_add] at this
  exact this
theorem wk_zip {bw' : Bool} {v' : V} {ds' : List D} {b' : Bool} {a' : Addr} {xs' : List V} (h : Src t s bw H v ds b a xs) (h' : Src t s bw' H v' ds' b' a' xs') : Wk t s (bw || bw') (IzX b b' t.K a a' xs xs') (zipD ds ds') H := by
  have w1 := h.weak (bw' := bw || bw') fun z => by rw [z]; rfl
  have w2 := h'.weak (bw' := bw || bw') fun z => by rw [z, Bool.or_true]
  refine ⟨fun Hc => SqX b t.K Hc a xs ∧ SqX b' t.K Hc a' xs', ⟨h.sq, h'.sq⟩, fun H1 H2 z k => ⟨w1.kp H1 H2 z.1 k, w2.kp H1 H2 z.2 k⟩, ?_⟩
  rw [zip_len, ← h.rs.length, ← h'.rs.length]
  refine ⟨fun i H1 hi q => ⟨q.1, q.2, hi⟩, fun H1 q => ⟨q.1, q.2, rfl⟩, fun i H1 x H2 hi q y => ?_⟩
  obtain ⟨Tt, u, u', e1, e2, e3, e4, e5⟩ := y
  obtain ⟨d, ed, rd⟩ := h.rs.getV e4
  obtain ⟨d', ed', rd'⟩ := h'.rs.getV e5
  exact .inr ⟨Tt, u, u', d, d', e1, e2, e3, zip_get ds ds' i d d' ed ed', rd, rd'⟩
theorem wk_rng (n : Int) : Wk t s bw (Itr 0 n.toNat) (rngD n) H := by
  refine ⟨fun _ => True, trivial, fun _ _ _ _ => trivial, ?_⟩
  have el : (rngD n).length = n.toNat := by
    unfold rngD
    rw [List.length_map, List.length_range]
  rw [el]
  refine (walk_range (lo := 0) (n := n.toNat)).mono (fun _ q => q) fun i H1 x H2 hi _ y => .inl ⟨y.1, .int (i : Nat), ?_, ?_⟩
  · unfold rngD
    rw [List.getElem?_map, List.getElem?_range hi]
    rfl
  · obtain ⟨_, rfl⟩ := y
    show Rep t s.ρ s.L H (V.int (0 + (i : Int))) (D.int (i : Int))
    rw [Int.zero_add]
    exact .int _
end
/-! ### range, enumerate, zip -/
section
variable {t : Tx} {G : Pg} {T : Tab} {k : Nat}
theorem i_rng {a : E} (ia : Snd t G T k a) : SndI t G T k (.irng a) := by
  intro C X tg ex cx h
  unfold chkI at h
  split at h
  · rename_i x xp e p
    simp only [Bool.and_eq_true, decide_eq_true_eq] at h
    obtain ⟨⟨h1, h2⟩, h3⟩ := h
    subst h1
    have he : starEach [e] X.env = (false, eval e X.env) :: starEach [] X.env := star_one (not_star h3)
    refine (pi_range1 (gl_of cx h2) (cx.hy.blt _ (by decide)) (pa_cons (ia.pe C X e cx h3) pa_nil he) he).imp fun σ H Q ⟨s, R, q⟩ => ?_
    refine ⟨s, R, ?_⟩
    have e0 : ev G (.irng a) s.e s.h = (ev G a s.e s.h).bind fun x h => match x with | .int n => if n < 1000000 ∧ -1000000 < n then .ok (.tup (rngD n)) h else .bad | _ => .bad := rfl
    rw [e0] at q
    cases e1 : ev G a s.e s.h with
    | bad => rw [e1] at q; exact q.elim
    | ok d h1 =>
      rw [e1] at q
      cases d with
      | int n =>
        have q : AftI t C.M (.irng a) s σ H (if n < 1000000 ∧ -1000000 < n then CC.R.ok (D.tup (rngD n)) h1 else .bad) Q := q
        split at q
        · rename_i hn
          intro v H1 ρ1 st R1 res
          have ev1 := int_of R res
          subst ev1
          exact ⟨n, rfl, by omega, by omega, q _ H1 ρ1 st R1 (wk_rng n)⟩
        · exact q.elim
      | _ => exact q.elim
  · cases h
theorem i_enum {a : E} (ia : Snd t G T k a) : SndI t G T k (.ienum a) := by
  intro C X tg ex cx h
  unfold chkI at h
  split at h
  · rename_i x xp e p eu ku pu
    simp only [Bool.and_eq_true, decide_eq_true_eq] at h
    obtain ⟨⟨h1, h2⟩, h3⟩ := h
    subst h1
    have he : starEach [e] X.env = (false, eval e X.env) :: starEach [] X.env := star_one (not_star h3)
    refine (pi_enumX (gl_of cx h2) (cx.hy.blt _ (by decide)) (pa_cons (ia.pe C X e cx h3) pa_nil he) he).imp fun σ H Q ⟨s, R, q⟩ => ?_
    refine ⟨s, R, ?_⟩
    have e0 : ev G (.ienum a) s.e s.h = (ev G a s.e s.h).bind fun x h => match seqD x with | some l => .ok (.tup (enumD 0 l)) h | none => .bad := rfl
    rw [e0] at q
    cases e1 : ev G a s.e s.h with
    | bad => rw [e1] at q; exact q.elim
    | ok d h1 =>
      rw [e1] at q
      have q : AftI t C.M (.ienum a) s σ H (match seqD d with | some l => CC.R.ok (D.tup (enumD 0 l)) h1 | none => .bad) Q := q
      cases e2 : seqD d with
      | none => rw [e2] at q; exact q.elim
      | some l =>
        rw [e2] at q
        intro v H1 ρ1 st R1 res
        obtain ⟨b, ad, xs, S⟩ := src_of R res e2
        rw [cx.K]
        exact ⟨b, ad, xs, by rw [S.ref], S.sq, q _ H1 ρ1 st R1 (wk_enum S)⟩
  · cases h
theorem i_zip {a b : E} (ia : Snd t G T k a) (ib : Snd t G T k b) : SndI t G T k (.izip a b) := by
  intro C X tg ex cx h
  unfold chkI at h
  split at h
  · rename_i x xp e e2 p eu ku pu
    simp only [Bool.and_eq_true, decide_eq_true_eq] at h
    obtain ⟨⟨⟨h1, h2⟩, h3⟩, h4⟩ := h
    subst h1
    have s1 : starEach [e, e2] X.env = (false, eval e X.env) :: starEach [e2] X.env := star_one (not_star h3)
    have s2 : starEach [e2] X.env = (false, eval e2 X.env) :: starEach [] X.env := star_one (not_star h4)
    have s3 : (backTo p (starEach [e2] X.env)).any (·.1) = false := by
      rw [s2]
      rfl
    refine (pi_zipX (gl_of cx h2) (cx.hy.blt _ (by decide)) (pa_cons (ia.pe C X e cx h3) (pa_cons (ib.pe C X e2 cx h4) pa_nil s2) s1) s1 s3).imp fun σ H Q ⟨s, R, q⟩ => ?_
    refine ⟨s, R, ?_⟩
    have e0 : ev G (.izip a b) s.e s.h = (ev G a s.e s.h).bind fun x h => (ev G b s.e h).bind fun y h => match seqD x, seqD y with | some l, some m => .ok (.tup (zipD l m)) h | _, _ => .bad := rfl
    rw [e0] at q
    cases e1 : ev G a s.e s.h with
    | bad => rw [e1] at q; exact q.elim
    | ok d h1 =>
      rw [e1] at q
      have q : AftI t C.M (.izip a b) s σ H ((ev G b s.e h1).bind fun y h => match seqD d, seqD y with | some l, some m => CC.R.ok (D.tup (zipD l m)) h | _, _ => .bad) Q := q
      intro v H1 ρ1 st1 R1 res1
      refine ⟨s.to ρ1 h1, R1, ?_⟩
      show Aft t T C.M b (s.to ρ1 h1) σ H1 (ev G b s.e h1) _
      cases e3 : ev G b s.e h1 with
      | bad => rw [e3] at q; exact q.elim
      | ok d2 h2 =>
        rw [e3] at q
        intro u H2 ρ2 st2 R2 res2
        have q : AftI t C.M (.izip a b) s σ H (match seqD d, seqD d2 with | some l, some m => CC.R.ok (D.tup (zipD l m)) h2 | _, _ => .bad) Q := q
        cases e4 : seqD d with
        | none => rw [e4] at q; exact q.elim
        | some l =>
          cases e5 : seqD d2 with
          | none => rw [e4, e5] at q; exact q.elim
          | some m =>
            rw [e4, e5] at q
            obtain ⟨b1, a1, xs1, S1⟩ := src_of R res1 e4
            obtain ⟨b2, a2, xs2, S2⟩ := src_of (s0 := s.to ρ1 h1) R1 res2 e5
            have S1' := S1.step (h' := h2) R1 st2
            rw [cx.K]
            exact ⟨b1, b2, a1, a2, xs1, xs2, by rw [S1.ref, S2.ref], S1'.sq, S2.sq, q _ H2 ρ2 (st1.trans st2) R2 (wk_zip (s := s.to ρ2 h2) S1' S2)⟩
  · cases h
end
end CC

set_option Elab.async false
set_option linter.all false
set_option maxRecDepth 100000
set_option maxHeartbeats 1000000
/-! Targets; comprehensions. -/
namespace CC
open PySem PySem.Spec PyProof.Rows L2

/-! ### targets -/
def gMany : List Nat → TGs
  | [] => gNil
  | i :: r => gCons (gName i) (gMany r)
def tG (K : PySem.W.Frag) : T → TG
  | .one i => gName i
  | .many l => gTup K l.length (gMany l)
section
variable {t : Tx} {G : Pg} {T : Tab} {k : Nat} {C : Ctx} {X : Cx}
theorem nm_tg (cx : CxOk t G T k C X) {i : Nat} {e : Expr} (h : nmTg C i e = true) : ∃ x p, e = .Name x p ∧ X.N[i]? = some x ∧ L2.Loc X.env.scope x ∧ (X.fn x = true ∨ X.env.scope.names.lookup x = some .local) := by
  unfold nmTg at h
  split at h
  · simp only [Bool.and_eq_true, decide_eq_true_eq] at h
    obtain ⟨⟨⟨h3, h4⟩, h5⟩, _⟩ := h
    exact ⟨_, _, rfl, N_of cx h3, loc_of cx h4, fn_of' cx h5⟩
  · cases h
theorem nm_M {i : Nat} {e : Expr} (h : nmTg C i e = true) : i ∉ C.M := by
  unfold nmTg at h
  split at h
  · simp only [Bool.and_eq_true, Bool.not_eq_true'] at h
    simpa using h.2
  · cases h
theorem pgs_of (cx : CxOk t G T k C X) : ∀ (l : List Nat) (es : List Expr), tgsB C l es = true → PGs X es (gMany l) ∧ (assignEach es X.env).length = l.length ∧ (assignEach es X.env).findIdx? (·.1) = none := by
  intro l
  induction l with
  | nil =>
    intro es h
    cases es with
    | nil => exact ⟨pgs_nil, rfl, rfl⟩
    | cons e es => cases (show false = true from h)
  | cons i l ih =>
    intro es h
    cases es with
    | nil => cases (show false = true from h)
    | cons e es =>
      have h : (nmTg C i e && tgsB C l es) = true := h
      rw [Bool.and_eq_true] at h
      obtain ⟨q1, q2, q3⟩ := ih es h.2
      obtain ⟨x, p, rfl, n1, n2, n3⟩ := nm_tg cx h.1
      refine ⟨pgs_cons (pg_name (nd_of cx) n1 n2 n3) q1 rfl, ?_, ?_⟩
      · show (assignEach es X.env).length + 1 = l.length + 1
        rw [q2]
      · show List.findIdx? (·.1) ((false, assign (.Name x p) X.env) :: assignEach es X.env) = none
        rw [List.findIdx?_cons, q3]
        rfl
theorem pg_of (cx : CxOk t G T k C X) (tg : CC.T) (ex : Expr) (h : tgB C tg ex = true) : PG X ex (tG X.K tg) := by
  unfold tgB at h
  split at h
  · obtain ⟨x, p, rfl, n1, n2, n3⟩ := nm_tg cx h
    exact pg_name (nd_of cx) n1 n2 n3
  · obtain ⟨q1, q2, q3⟩ := pgs_of cx _ _ h
    exact pg_tup cx.calm q1 q2 q3
  · cases h
theorem tgs_M : ∀ (l : List Nat) (es : List Expr), tgsB C l es = true → ∀ i ∈ l, i ∉ C.M := by
  intro l
  induction l with
  | nil => exact fun _ _ i hi => nomatch hi
  | cons j l ih =>
    intro es h i hi
    cases es with
    | nil => cases (show false = true from h)
    | cons e es =>
      have h : (nmTg C j e && tgsB C l es) = true := h
      rw [Bool.and_eq_true] at h
      rcases List.mem_cons.mp hi with e | hi
      · rw [e]
        exact nm_M h.1
      · exact ih es h.2 i hi
theorem tg_M (tg : CC.T) (ex : Expr) (h : tgB C tg ex = true) : ∀ i ∈ tgL tg, i ∉ C.M := by
  unfold tgB at h
  split at h
  · intro i hi
    rw [List.mem_singleton.mp hi]
    exact nm_M h
  · exact tgs_M _ _ h
  · cases h
end
/-! ### slots stored, slots forgotten -/
section
variable {t : Tx} {M : List Nat} {s : Sit} {σ : L2.St} {H : Hp}
def Sit.en (s : Sit) (e : En) : Sit := { s with e := e }
theorem Rel.put {i : Nat} {v : V} {d : D} (R : Rel t M s σ H) (hi : i ∉ M) (r : Rep t s.ρ s.L H v d) : Rel t M (s.en (s.e.set i (some d))) (σ.set i (some v)) H where
  len := by
    show (s.e.set i (some d)).length = _
    rw [List.length_set, List.length_set]
    exact R.len
  val := fun j x e n => by
    have e : (s.e.set i (some d))[j]? = some (some x) := e
    by_cases hj : i = j
    · subst hj
      by_cases hl : i < s.e.length
      · rw [List.getElem?_set_self hl] at e
        cases e
        refine ⟨v, ?_, r⟩
        rw [List.getElem?_set_self (by rw [← R.len]; exact hl)]
      · rw [List.getElem?_eq_none (by rw [List.length_set]; omega)] at e
        cases e
    · rw [List.getElem?_set_ne hj] at e ⊢
      exact R.val j x e n
  own := fun j x e n => by
    have e : (s.e.set i (some d))[j]? = some (some x) := e
    have hj : i ≠ j := fun z => hi (z ▸ n)
    rw [List.getElem?_set_ne hj] at e ⊢
    exact R.own j x e n
  inj := R.inj
  mfr := R.mfr
  box := R.box
  blen := R.blen
  bnd := R.bnd
  lam := R.lam
  lamb := R.lamb
theorem wipeE_some {e : En} {i : Nat} {d : D} : ∀ {vs : List Nat}, (wipeE e vs)[i]? = some (some d) → e[i]? = some (some d) ∧ i ∉ vs
  | [], h => ⟨h, by simp⟩
  | v :: vs, h => by
    have h : ((wipeE e vs).set v none)[i]? = some (some d) := h
    by_cases hi : v = i
    · subst hi
      by_cases hl : v < (wipeE e vs).length
      · rw [List.getElem?_set_self hl] at h
        cases h
      · rw [List.getElem?_eq_none (by rw [List.length_set]; omega)] at h
        cases h
    · rw [List.getElem?_set_ne hi] at h
      obtain ⟨h1, h2⟩ := wipeE_some h
      exact ⟨h1, fun z => (List.mem_cons.mp z).elim (fun q => hi q.symm) h2⟩
theorem wipeE_len (e : En) : ∀ vs : List Nat, (wipeE e vs).length = e.length
  | [] => rfl
  | v :: vs => by
    show ((wipeE e vs).set v none).length = _
    rw [List.length_set, wipeE_len e vs]
theorem wipe_out {σ : L2.St} {i : Nat} : ∀ {vs : List Nat}, i ∉ vs → (wipe σ vs)[i]? = σ[i]?
  | [], _ => rfl
  | v :: vs, h => by
    show ((wipe σ vs).set v none)[i]? = _
    rw [List.getElem?_set_ne (fun z => h (by rw [z]; exact List.mem_cons_self))]
    exact wipe_out fun z => h (List.mem_cons_of_mem _ z)
theorem Rel.wipe (R : Rel t M s σ H) (vs : List Nat) : Rel t M (s.en (wipeE s.e vs)) (wipe σ vs) H where
  len := by
    show (wipeE s.e vs).length = _
    rw [wipeE_len, wipe_length]
    exact R.len
  val := fun j x e n => by
    obtain ⟨e1, e2⟩ := wipeE_some e
    rw [wipe_out e2]
    exact R.val j x e1 n
  own := fun j x e n => by
    obtain ⟨e1, e2⟩ := wipeE_some e
    rw [wipe_out e2]
    exact R.own j x e1 n
  inj := R.inj
  mfr := R.mfr
  box := R.box
  blen := R.blen
  bnd := R.bnd
  lam := R.lam
  lamb := R.lamb
theorem wipe_none {σ : L2.St} : ∀ {vs : List Nat} {i : Nat}, i ∈ vs → i < σ.length → (wipe σ vs)[i]? = some none
  | v :: vs, i, h, hl => by
    show ((wipe σ vs).set v none)[i]? = _
    by_cases e : v = i
    · subst e
      rw [List.getElem?_set_self (by rw [wipe_length]; exact hl)]
    · rw [List.getElem?_set_ne e]
      rcases List.mem_cons.mp h with z | z
      · exact absurd z.symm e
      · exact wipe_none z hl
/-- two states that part in forgotten slots alone are one when these are forgotten -/
theorem wipe_eq {σ τ : L2.St} {vs : List Nat} (hl : σ.length = τ.length) (h : ∀ i, i ∉ vs → σ[i]? = τ[i]?) : wipe σ vs = wipe τ vs := by
  refine List.ext_getElem? fun i => ?_
  by_cases hi : i ∈ vs
  · by_cases hs : i < σ.length
    · rw [wipe_none hi hs, wipe_none hi (by rw [← hl]; exact hs)]
    · rw [List.getElem?_eq_none (by rw [wipe_length]; omega), List.getElem?_eq_none (by rw [wipe_length]; omega)]
  · rw [wipe_out hi, wipe_out hi]
    exact h i hi
/-- a target is stored -/
theorem tg_many {Q : L2.St → Hp → Prop} : ∀ (l : List Nat) (xs : List V) (ds : List D) (s : Sit) (σ : L2.St), Rel t M s σ H → (∀ i ∈ l, i ∉ M) → l.length = ds.length → Reps t s.ρ s.L H xs ds →
    (∀ σ', Rel t M (s.en ((l.zip ds).foldl (fun e p => e.set p.1 (some p.2)) s.e)) σ' H → σ'.length = σ.length → (∀ j, j ∉ l → σ'[j]? = σ[j]?) → Q σ' H) → gMany l xs σ H Q
  | [], xs, ds, s, σ, R, _, hl, r, q => by
    cases ds with
    | nil =>
      cases r
      exact ⟨rfl, q σ R rfl fun _ _ => rfl⟩
    | cons d ds => cases hl
  | i :: l, xs, ds, s, σ, R, hM, hl, r, q => by
    cases ds with
    | nil => cases hl
    | cons d ds =>
      cases r with
      | cons rv rs =>
        rename_i v vs
        have R2 := R.put (hM i List.mem_cons_self) rv
        refine ⟨v, vs, rfl, ?_⟩
        refine tg_many l vs ds (s.en (s.e.set i (some d))) (σ.set i (some v)) R2 (fun j hj => hM j (List.mem_cons_of_mem _ hj)) (by simpa using hl) rs fun σ' R' hlen hj => ?_
        refine q σ' R' (by rw [hlen, List.length_set]) fun j hn => ?_
        rw [hj j fun z => hn (List.mem_cons_of_mem _ z), List.getElem?_set_ne fun z => hn (by rw [z]; exact List.mem_cons_self)]
theorem tg_go {Q : L2.St → Hp → Prop} {tg : T} {v : V} {d : D} {e' : En} (R : Rel t M s σ H) (hM : ∀ i ∈ tgL tg, i ∉ M) (r : Rep t s.ρ s.L H v d) (e : putT tg d s.e = some e')
    (q : ∀ σ', Rel t M (s.en e') σ' H → σ'.length = σ.length → (∀ j, j ∉ tgL tg → σ'[j]? = σ[j]?) → Q σ' H) : tG t.K tg v σ H Q := by
  cases tg with
  | one i =>
    cases e
    exact q _ (R.put (hM i (by simp [tgL])) r) (List.length_set ..) fun j hj => List.getElem?_set_ne fun z => hj (by simp [tgL, z])
  | many l =>
    cases d with
    | tup ds =>
      have e : (if ds.length = l.length then some ((l.zip ds).foldl (fun e p => e.set p.1 (some p.2)) s.e) else none) = some e' := e
      split at e
      · rename_i hl
        cases e
        cases r with
        | tup sq rs =>
          exact ⟨_, _, rfl, sq, by rw [rs.length, hl], tg_many l _ ds s σ R hM hl.symm rs q⟩
      · cases e
    | _ => cases e
end
end CC

set_option Elab.async false
set_option linter.all false
set_option maxRecDepth 100000
set_option maxHeartbeats 1000000
/-! A comprehension of one for. -/
namespace CC
open PySem PySem.Spec PyProof.Rows L2

section
variable {t : Tx} {G : Pg} {T : Tab} {k : Nat} {C : Ctx} {X : Cx}
theorem rel_lookup {scope sc : Scope} {x : Str} (h : scope.names.lookup x = some .local) : (relS scope sc).names.lookup x = some .local := by
  unfold relS
  show List.lookup x (scope.names.map _) = _
  revert h
  induction scope.names with
  | nil => intro h; cases h
  | cons p r ih =>
    obtain ⟨n, kd⟩ := p
    intro h
    rw [List.lookup_cons] at h
    show List.lookup x ((if (kd == .free && sc.kind == .function && sc.names.lookup n == some .cell) then (n, .cell) else (n, kd)) :: r.map _) = _
    cases e : x == n with
    | true =>
      rw [e] at h
      cases h
      rw [if_neg (by simp), List.lookup_cons, e]
    | false =>
      rw [e] at h
      have q := ih h
      split
      · rw [List.lookup_cons, e]
        exact q
      · rw [List.lookup_cons, e]
        exact q
/-- the context within a comprehension -/
theorem cx_blk (cx : CxOk t G T k C X) (scope : Scope) (own : List Nat) (s : Shared) (H : Hp) (Ca : Addr) (cl : List (Str × Addr)) (fp : List Addr) :
    CxOk t G T k (inC C scope own) (X.blk s H scope (compEnvC scope cl Ca X.env) fp) where
  calm := cx.calm
  N := cx.N
  nd := cx.nd
  sc := by
    show relS scope X.env.scope = relS scope C.sc
    rw [cx.sc]
  K := cx.K
  room := cx.room
  fn := fun x h => by
    unfold locB at h
    split at h
    · rename_i e
      exact .inr (rel_lookup e)
    · rename_i e
      refine .inl ?_
      have e : scope.names.lookup x = some .cell := e
      show (scope.names.lookup x == some .cell) = true
      rw [e]
      rfl
    · cases h
  hy := cx.hy
  hc := cx.hc
end
section
variable {t : Tx} {M : List Nat} {s : Sit} {σ : L2.St} {H : Hp}
/-- one more live address -/
def Sit.live (s : Sit) (D : Addr) : Sit := { s with Lam := fun a => s.Lam a ∨ a = D }
theorem live_L (s : Sit) (D : Addr) : ∀ b, (s.live D).L b ↔ s.L b ∨ b = D := fun b => by
  constructor
  · rintro ((z | z) | z | z)
    · exact .inl (.inl z)
    · exact .inr z
    · exact .inl (.inr (.inl z))
    · exact .inl (.inr (.inr z))
  · rintro ((z | z | z) | z)
    · exact .inl (.inl z)
    · exact .inr (.inl z)
    · exact .inr (.inr z)
    · exact .inl (.inr z)
theorem Rel.addLam {D : Addr} {xs : List V} (R : Rel t M s σ H) (hD : H D = none) : Rel t M (s.live D) σ (upd H D (.lst xs)) := by
  have mvH : ∀ b o, H b = some o → ¬ s.L b → upd H D (.lst xs) b = some o ∧ ¬ (s.live D).L b := fun b o e n => by
    refine ⟨by rw [upd_ne (ne_of_none e hD)]; exact e, fun z => ?_⟩
    rcases (live_L s D b).mp z with z | z
    · exact n z
    · exact ne_of_none e hD z
  have mvT : ∀ b o, H b = some o → Fix o → upd H D (.lst xs) b = some o := fun b o e _ => by rw [upd_ne (ne_of_none e hD)]; exact e
  refine ⟨R.len, fun i d e n => ?_, fun i d e n => ?_, R.inj, fun i a e => ?_, fun n l e => ?_, R.blen, R.bnd, fun a z => ?_, fun a z => ?_⟩
  · obtain ⟨v, e1, r⟩ := R.val i d e n
    exact ⟨v, e1, Rep.move (fun _ _ e => e) mvH mvT d v r⟩
  · obtain ⟨a, e1, e2, r⟩ := R.own i d e n
    refine ⟨a, e1, e2, ?_⟩
    cases d with
    | lst ds =>
      obtain ⟨ys, h1, h2⟩ := r
      exact ⟨ys, by rw [upd_ne (ne_of_none h1 hD)]; exact h1, Reps.move (fun _ _ e => e) mvH mvT ds ys h2⟩
    | ins c ds =>
      obtain ⟨dx, vs, ws, h1, h2, h3, h4⟩ := r
      refine ⟨dx, vs, ws, ?_, h2, h3, Reps.move (fun _ _ e => e) mvH mvT ds ws h4⟩
      rcases h1 with ⟨h1, q⟩ | ⟨h1, q⟩
      · exact .inl ⟨by rw [upd_ne (ne_of_none h1 hD)]; exact h1, q⟩
      · exact .inr ⟨by rw [upd_ne (ne_of_none h1 hD)]; exact h1, by rw [upd_ne (ne_of_none q hD)]; exact q⟩
    | _ => exact r.elim
  · obtain ⟨h1, h2, h3⟩ := R.mfr i a e
    refine ⟨h1, fun z => ?_, h3⟩
    rcases z with z | z
    · exact h2 z
    · rw [z] at e
      exact R.free hD (.inr (.inr ⟨i, e⟩))
  · obtain ⟨h1, a, ys, h2, h3, h4⟩ := R.box n l e
    exact ⟨h1, a, ys, h2, by rw [upd_ne (ne_of_none h3 hD)]; exact h3, Reps.move (fun _ _ e => e) mvH mvT l ys h4⟩
  · rcases (live_L s D a).mp z with z | z
    · obtain ⟨o, e, f⟩ := R.lam a z
      exact ⟨o, by rw [upd_ne (ne_of_none e hD)]; exact e, f⟩
    · rw [z]
      exact ⟨_, upd_same, fun q => q⟩
  · rintro (y | y)
    · exact R.lamb a z y
    · rw [y] at z
      exact R.free hD (.inr (.inl z))
/-- a live list is changed -/
theorem Rel.chg {D : Addr} {xs ys : List V} (R : Rel t M s σ H) (hL : s.Lam D) (hD : H D = some (.lst xs)) : Rel t M s σ (upd H D (.lst ys)) := by
  have nm : ∀ i a, s.μ i = some a → a ≠ D := fun i a e z => (R.mfr i a e).2.1 (by rw [z]; exact hL)
  have nb : ∀ a ∈ s.ρ, a ≠ D := fun a h z => R.lamb a h (by rw [z]; exact hL)
  have mvH : ∀ b o, H b = some o → ¬ s.L b → upd H D (.lst ys) b = some o ∧ ¬ s.L b := fun b o e n => by
    refine ⟨?_, n⟩
    rw [upd_ne fun z => n (by rw [z]; exact .inl hL)]
    exact e
  have mvT : ∀ b o, H b = some o → Fix o → upd H D (.lst ys) b = some o := fun b o e f => by
    rw [upd_ne fun z => by
      rw [z, hD] at e
      cases e
      exact f]
    exact e
  refine ⟨R.len, fun i d e n => ?_, fun i d e n => ?_, R.inj, R.mfr, fun n l e => ?_, R.blen, R.bnd, fun a z => ?_, R.lamb⟩
  · obtain ⟨v, e1, r⟩ := R.val i d e n
    exact ⟨v, e1, Rep.move (fun _ _ e => e) mvH mvT d v r⟩
  · obtain ⟨a, e1, e2, r⟩ := R.own i d e n
    refine ⟨a, e1, e2, ?_⟩
    cases d with
    | lst ds =>
      obtain ⟨zs, h1, h2⟩ := r
      exact ⟨zs, by rw [upd_ne (nm i a e1)]; exact h1, Reps.move (fun _ _ e => e) mvH mvT ds zs h2⟩
    | ins c ds =>
      obtain ⟨dx, vs, ws, h1, h2, h3, h4⟩ := r
      have nd : SlX.Slt H a (t.ca c) dx vs → dx ≠ D ∨ True := fun _ => .inr trivial
      refine ⟨dx, vs, ws, ?_, h2, h3, Reps.move (fun _ _ e => e) mvH mvT ds ws h4⟩
      rcases h1 with ⟨h1, q⟩ | ⟨h1, q⟩
      · exact .inl ⟨by rw [upd_ne (nm i a e1)]; exact h1, q⟩
      · refine .inr ⟨by rw [upd_ne (nm i a e1)]; exact h1, ?_⟩
        rw [upd_ne fun z => by
          rw [z, hD] at q
          cases q]
        exact q
    | _ => exact r.elim
  · obtain ⟨h1, a, zs, h2, h3, h4⟩ := R.box n l e
    exact ⟨h1, a, zs, h2, by rw [upd_ne (nb a (List.mem_of_getElem? h2))]; exact h3, Reps.move (fun _ _ e => e) mvH mvT l zs h4⟩
  · by_cases hz : a = D
    · rw [hz]
      exact ⟨_, upd_same, fun q => q⟩
    · obtain ⟨o, e, f⟩ := R.lam a z
      exact ⟨o, by rw [upd_ne hz]; exact e, f⟩
end
end CC

set_option Elab.async false
set_option linter.all false
set_option maxRecDepth 100000
set_option maxHeartbeats 1000000
/-! The loop of a comprehension. -/
namespace CC
open PySem PySem.Spec PyProof.Rows L2

theorem catL_cons {f : D → Hb → R (List D)} {x : D} {r : List D} {h h' : Hb} {l : List D} (e : catL f (x :: r) h = .ok l h') : ∃ a h1 l1, f x h = .ok a h1 ∧ catL f r h1 = .ok l1 h' ∧ l = a ++ l1 := by
  have e : ((f x h).bind fun a h => (catL f r h).bind fun l h => CC.R.ok (a ++ l) h) = .ok l h' := e
  cases e1 : f x h with
  | bad =>
    rw [e1] at e
    cases e
  | ok o h1 =>
    rw [e1] at e
    have e : ((catL f r h1).bind fun l h => CC.R.ok (o ++ l) h) = .ok l h' := e
    cases e2 : catL f r h1 with
    | bad =>
      rw [e2] at e
      cases e
    | ok l1 h2 =>
      rw [e2] at e
      cases e
      exact ⟨o, h1, l1, rfl, e2, rfl⟩
/-- the heap without one address -/
def hide (Da : Addr) (H : Hp) : Hp := fun b => if b = Da then none else H b
theorem hide_some {Da b : Addr} {H : Hp} {o : HO} (h : hide Da H b = some o) : H b = some o ∧ b ≠ Da := by
  unfold hide at h
  split at h
  · cases h
  · exact ⟨h, by assumption⟩
theorem hide_ne {Da b : Addr} {H : Hp} (h : b ≠ Da) : hide Da H b = H b := if_neg h
section
variable {t : Tx} {G : Pg} {T : Tab} {M : List Nat} {s : Sit} {σ : L2.St} {H1 : Hp}
/-- what a turn gives out, as it stands at that turn -/
theorem yd_at {sY s' : Sit} {σ' : L2.St} {HY Hc H' : Hp} {ds : List D} {i : Nat} {x : V} (R' : Rel t M s' σ' Hc) (mv : ∀ d v, Rep t sY.ρ sY.L HY v d → Rep t s'.ρ s'.L Hc v d) (y : Yd t sY HY ds i Hc x H') :
    ∃ d, ds[i]? = some d ∧ Rep t s'.ρ s'.L H' x d ∧ (∀ b o, Hc b = some o → H' b = some o) := by
  rcases y with ⟨rfl, d, ed, r⟩ | ⟨Tt, x1, y1, dx, dy, rfl, hT, rfl, ed, rx, ry⟩
  · exact ⟨d, ed, mv d x r, fun _ _ e => e⟩
  · have g : ∀ b o, Hc b = some o → upd Hc Tt (.tup [x1, y1]) b = some o := fun b o e => by rw [upd_ne (ne_of_none e hT)]; exact e
    have mv2 : ∀ d v, Rep t sY.ρ sY.L HY v d → Rep t s'.ρ s'.L (upd Hc Tt (.tup [x1, y1])) v d := fun d v r => Rep.move (fun _ _ e => e) (fun b o e n => ⟨g b o e, n⟩) (fun b o e _ => g b o e) d v (mv d v r)
    exact ⟨_, ed, .tup (.inl (.inl upd_same)) (.cons (mv2 _ _ rx) (.cons (mv2 _ _ ry) .nil)), g⟩
/-- a step that may change one live list, too -/
abbrev StpD (Da : Addr) (ρ ρ' : List Addr) (H H' : Hp) : Prop := Stp ρ ρ' (hide Da H) H'
theorem StpD.refl (Da : Addr) (ρ : List Addr) (H : Hp) : StpD Da ρ ρ H H := ⟨fun b o e _ => (hide_some e).1, fun b o e _ => (hide_some e).1, fun b o e => ⟨o, (hide_some e).1⟩, List.prefix_refl _, fun _ z => .inl z⟩
theorem StpD.of {Da : Addr} {ρ ρ' : List Addr} {H H' : Hp} (a : Stp ρ ρ' H H') : StpD Da ρ ρ' H H' :=
  ⟨fun b o e n => a.keep b o (hide_some e).1 n, fun b o e n => a.fix b o (hide_some e).1 n, fun b o e => a.trk b o (hide_some e).1, a.pre, fun b z => (a.new b z).imp id fun q => by
    unfold hide
    split
    · rfl
    · exact q⟩
theorem StpD.trans {Da : Addr} {ρ ρ1 ρ2 : List Addr} {H H1 H2 : Hp} (a : StpD Da ρ ρ1 H H1) (b : StpD Da ρ1 ρ2 H1 H2) : StpD Da ρ ρ2 H H2 := by
  have up : ∀ c o, hide Da H c = some o → ∀ o', H1 c = some o' → hide Da H1 c = some o' := fun c o h o' h1 => by rw [hide_ne (hide_some h).2]; exact h1
  refine ⟨fun c o h n => b.keep c o (up c o h o (a.keep c o h n)) fun z => (a.new c z).elim n fun q => (by rw [h] at q; cases q), fun c o h f => b.fix c o (up c o h o (a.fix c o h f)) f, fun c o h => ?_, a.pre.trans b.pre, fun c h => (b.new c h).elim (a.new c) fun q => .inr ?_⟩
  · obtain ⟨o1, h1⟩ := a.trk c o h
    exact b.trk c o1 (up c o h o1 h1)
  · cases z : hide Da H c with
    | none => rfl
    | some o =>
      obtain ⟨o1, h1⟩ := a.trk c o z
      rw [up c o z o1 h1] at q
      cases q
/-- the live list is stored anew -/
theorem StpD.upd {Da : Addr} {ρ ρ' : List Addr} {H H' : Hp} {o : HO} (a : StpD Da ρ ρ' H H') : StpD Da ρ ρ' H (L2.upd H' Da o) := by
  refine ⟨fun b u e n => ?_, fun b u e n => ?_, fun b u e => ?_, a.pre, a.new⟩
  · rw [upd_ne (hide_some e).2]
    exact a.keep b u e n
  · rw [upd_ne (hide_some e).2]
    exact a.fix b u e n
  · rw [upd_ne (hide_some e).2]
    exact a.trk b u e
theorem StpD.L {Da : Addr} {ρ' : List Addr} {h' : Hb} {H H' : Hp} (R : Rel t M s σ H) (hL : s.Lam Da) (a : StpD Da s.ρ ρ' H H') : ∀ b o, H b = some o → ¬ s.L b → H' b = some o ∧ ¬ (s.to ρ' h').L b := fun b o h n => by
  have nb : b ≠ Da := fun z => n (by rw [z]; exact .inl hL)
  have h2 : hide Da H b = some o := by rw [hide_ne nb]; exact h
  refine ⟨a.keep b o h2 fun z => n (.inr (.inl z)), fun z => ?_⟩
  rcases z with z | z | z
  · exact n (.inl z)
  · exact (a.new b z).elim (fun q => n (.inr (.inl q))) fun q => by rw [h2] at q; cases q
  · exact n (.inr (.inr z))
theorem StpD.F {Da : Addr} {ρ' : List Addr} {xs : List V} {H H' : Hp} (hD : H Da = some (.lst xs)) (a : StpD Da s.ρ ρ' H H') : ∀ b o, H b = some o → Fix o → H' b = some o := fun b o h f => by
  refine a.fix b o ?_ f
  rw [hide_ne]
  · exact h
  · intro z
    rw [z, hD] at h
    cases h
    exact f
theorem Rep.stepD {Da : Addr} {ρ' : List Addr} {h' : Hb} {xs : List V} {H H' : Hp} {v : V} {d : D} (R : Rel t M s σ H) (hL : s.Lam Da) (hD : H Da = some (.lst xs)) (a : StpD Da s.ρ ρ' H H') (r : Rep t s.ρ s.L H v d) : Rep t ρ' (s.to ρ' h').L H' v d :=
  Rep.move (fun _ _ e => pre_get a.pre e) (StpD.L R hL a) (StpD.F hD a) d v r
theorem Reps.stepD {Da : Addr} {ρ' : List Addr} {h' : Hb} {xs : List V} {H H' : Hp} {v : List V} {d : List D} (R : Rel t M s σ H) (hL : s.Lam Da) (hD : H Da = some (.lst xs)) (a : StpD Da s.ρ ρ' H H') (r : Reps t s.ρ s.L H v d) : Reps t ρ' (s.to ρ' h').L H' v d :=
  Reps.move (fun _ _ e => pre_get a.pre e) (StpD.L R hL a) (StpD.F hD a) d v r
/-- the state behind steps that changed one live list, too -/
theorem Rel.stepD {Da : Addr} {ρ' : List Addr} {h' : Hb} {xs ys : List V} {H H' : Hp} (R : Rel t M s σ H) (hL : s.Lam Da) (hD : H Da = some (.lst xs)) (hD' : H' Da = some (.lst ys)) (a : StpD Da s.ρ ρ' H H') (bx : Boxes t ρ' (s.to ρ' h').L H' h') (bl : h'.length = ρ'.length) (nd : ρ'.Nodup) (lb : ∀ a ∈ ρ', ¬ s.Lam a) :
    Rel t M (s.to ρ' h') σ H' := by
  have R2 : Rel t M s σ (upd H Da (.lst ys)) := R.chg hL hD
  have st : Stp s.ρ ρ' (upd H Da (.lst ys)) H' := by
    have up : ∀ b o, upd H Da (.lst ys) b = some o → (b = Da ∧ o = .lst ys) ∨ hide Da H b = some o := fun b o e => by
      by_cases z : b = Da
      · subst z
        rw [upd_same] at e
        exact .inl ⟨rfl, (Option.some.inj e).symm⟩
      · rw [upd_ne z] at e
        exact .inr (by rw [hide_ne z]; exact e)
    refine ⟨fun b o e n => ?_, fun b o e f => ?_, fun b o e => ?_, a.pre, fun b z => ?_⟩
    · rcases up b o e with ⟨rfl, rfl⟩ | q
      · exact hD'
      · exact a.keep b o q n
    · rcases up b o e with ⟨rfl, rfl⟩ | q
      · exact hD'
      · exact a.fix b o q f
    · rcases up b o e with ⟨rfl, rfl⟩ | q
      · exact ⟨_, hD'⟩
      · exact a.trk b o q
    · rcases a.new b z with q | q
      · exact .inl q
      · have nb : b ≠ Da := fun y => lb b z (by rw [y]; exact hL)
        rw [hide_ne nb] at q
        exact .inr (by rw [upd_ne nb]; exact q)
  exact R2.step st bx bl nd
/-- within a comprehension: an own list whose name is the comprehension's is a caller's -/
def Sit.at (s : Sit) (own : List Nat) (ρ : List Addr) (h : Hb) : Sit := ⟨fun b => s.Lam b ∨ ∃ i, i ∈ own ∧ s.μ i = some b, ρ, fun i => if i ∈ own then none else s.μ i, wipeE s.e own, h⟩
theorem at_L (s : Sit) (own : List Nat) (ρ : List Addr) (h h' : Hb) : (s.at own ρ h).L = (s.to ρ h').L := by
  funext b
  refine propext ⟨?_, ?_⟩
  · rintro ((z | ⟨i, _, z⟩) | z | ⟨i, z⟩)
    · exact .inl z
    · exact .inr (.inr ⟨i, z⟩)
    · exact .inr (.inl z)
    · have z : (if i ∈ own then none else s.μ i) = some b := z
      split at z
      · cases z
      · exact .inr (.inr ⟨i, z⟩)
  · rintro (z | z | ⟨i, z⟩)
    · exact .inl (.inl z)
    · exact .inr (.inl z)
    · by_cases hi : i ∈ own
      · exact .inl (.inr ⟨i, hi, z⟩)
      · refine .inr (.inr ⟨i, ?_⟩)
        show (if i ∈ own then none else s.μ i) = some b
        rw [if_neg hi]
        exact z
theorem Rel.at {M' : List Nat} {H : Hp} (R : Rel t M s σ H) (own : List Nat) (hd : ∀ i, i = dxI → i ∉ own) (hM' : ∀ i, i ∈ M' ↔ i ∈ M ∧ i ∉ own) : Rel t M' (s.at own s.ρ s.h) (L2.wipe σ own) H := by
  have eL : (s.at own s.ρ s.h).L = s.L := at_L s own s.ρ s.h s.h
  refine ⟨?_, fun j x e n => ?_, fun j x e n => ?_, fun i j a e1 e2 => ?_, fun i a e => ?_, fun n l e => ?_, R.blen, R.bnd, fun a z => ?_, fun a z => ?_⟩
  · show (wipeE s.e own).length = _
    rw [wipeE_len, wipe_length]
    exact R.len
  · obtain ⟨e1, e2⟩ := wipeE_some (show (wipeE s.e own)[j]? = some (some x) from e)
    rw [wipe_out e2, eL]
    exact R.val j x e1 fun z => n ((hM' j).mpr ⟨z, e2⟩)
  · obtain ⟨e1, e2⟩ := wipeE_some (show (wipeE s.e own)[j]? = some (some x) from e)
    rw [wipe_out e2, eL]
    obtain ⟨a, w1, w2, w3⟩ := R.own j x e1 ((hM' j).mp n).1
    refine ⟨a, ?_, w2, ?_⟩
    · show (if j ∈ own then none else s.μ j) = some a
      rw [if_neg e2]
      exact w1
    · cases x with
      | ins c ds =>
        obtain ⟨dx, vs, ws, h1, h2, h3, h4⟩ := w3
        refine ⟨dx, vs, ws, h1, ?_, h3, h4⟩
        show (if dxI ∈ own then none else s.μ dxI) = some dx
        rw [if_neg (hd dxI rfl)]
        exact h2
      | _ => exact w3
  · have e1 : (if i ∈ own then none else s.μ i) = some a := e1
    have e2 : (if j ∈ own then none else s.μ j) = some a := e2
    split at e1
    · cases e1
    · split at e2
      · cases e2
      · exact R.inj i j a e1 e2
  · have e : (if i ∈ own then none else s.μ i) = some a := e
    split at e
    · cases e
    · rename_i hi
      obtain ⟨h1, h2, h3⟩ := R.mfr i a e
      refine ⟨h1, fun z => ?_, (hM' i).mpr ⟨h3, hi⟩⟩
      rcases z with z | ⟨j, hj, z⟩
      · exact h2 z
      · exact hi (by rw [R.inj i j a e z]; exact hj)
  · obtain ⟨h1, a, ys, h2, h3, h4⟩ := R.box n l e
    exact ⟨h1, a, ys, h2, h3, by rw [eL]; exact h4⟩
  · rw [eL] at z
    exact R.lam a z
  · rintro (y | ⟨i, _, y⟩)
    · exact R.lamb a z y
    · exact (R.mfr i a y).1 z
/-- the loop: B reads what a turn does behind its store -/
theorem lc_abs {M' : List Nat} {tg : CC.T} {own : List Nat} {f : En → Hb → R (List D)} {B : L2.St → Hp → (Hp → Prop) → Prop} {sY : Sit} {HY : Hp} {Γ : Hp → Prop} {J : It} {ds l : List D} {accD : List D} {accV : List V} {hfin : Hb} {Da : Addr} {Qd : Hp → Prop}
    (R : Rel t M s σ H1) (hL : s.Lam Da) (hA : H1 Da = some (.lst accV)) (rA : Reps t s.ρ s.L H1 accV accD) (wk : Walk J ds.length Γ (Yd t sY HY ds)) (hΓ : ∀ Hc ρ', StpD Da s.ρ ρ' H1 Hc → Γ Hc) (mvY : ∀ d v, Rep t sY.ρ sY.L HY v d → Rep t s.ρ s.L H1 v d)
    (hd : ∀ i, i = dxI → i ∉ own) (hM' : ∀ i, i ∈ M' ↔ i ∈ M ∧ i ∉ own) (ho : ∀ i ∈ tgL tg, i ∈ own)
    (e : catL (fun d h => match putT tg d (wipeE s.e own) with | none => .bad | some e' => f e' h) ds s.h = .ok l hfin) (hz : accD.length + l.length ≤ 1000000)
    (hB : ∀ (s' : Sit) σ' H' aV aD m h' Nx, s'.Lam Da → Rel t M' s' σ' H' → H' Da = some (.lst aV) → Reps t s'.ρ s'.L H' aV aD → f s'.e s'.h = .ok m h' → aD.length + m.length ≤ 1000000 →
      (∀ Hc ρ' aV', StpD Da s'.ρ ρ' H' Hc → Rel t M' (s'.to ρ' h') σ' Hc → Hc Da = some (.lst aV') → Reps t ρ' (s'.to ρ' h').L Hc aV' (aD ++ m) → Nx Hc) → B σ' H' Nx)
    (q : ∀ Hc ρ' aV', StpD Da s.ρ ρ' H1 Hc → Rel t M (s.to ρ' hfin) σ Hc → Hc Da = some (.lst aV') → Reps t ρ' (s.to ρ' hfin).L Hc aV' (accD ++ l) → Qd Hc) :
    ∃ W : Nat → Nat → Hp → Prop, (∃ m, W 0 m H1) ∧ ∀ i m H, W i m H →
      (J.stop i H ∧ Qd H) ∨ (J.go i H ∧ ∃ Nx : Hp → Prop, (∀ H', Nx H' → ∃ m', m' < m ∧ W (i + 1) m' H') ∧ ∀ x H', J.yld i H x H' → tG t.K tg x (wipe σ own) H' fun σ2 H2 => wipe σ2 own = wipe σ own ∧ B σ2 H2 Nx) := by
  let Pv : Nat → Hp → Prop := fun i Hc => ∃ ρi hi aV aD lr, Rel t M' (s.at own ρi hi) (wipe σ own) Hc ∧ StpD Da s.ρ ρi H1 Hc ∧ Hc Da = some (.lst aV) ∧ Reps t ρi (s.at own ρi hi).L Hc aV aD ∧
    catL (fun d h => match putT tg d (wipeE s.e own) with | none => .bad | some e' => f e' h) (ds.drop i) hi = .ok lr hfin ∧ aD ++ lr = accD ++ l
  have hM : ∀ i ∈ tgL tg, i ∉ M' := fun i hi z => ((hM' i).mp z).2 (ho i hi)
  have p0 : Pv 0 H1 := ⟨s.ρ, s.h, accV, accD, l, R.at own hd hM', StpD.refl _ _ _, hA, by rw [at_L s own s.ρ s.h s.h]; exact rA, e, rfl⟩
  refine ⟨fun i m H => m = ds.length - i ∧ i ≤ ds.length ∧ Pv i H, ⟨ds.length, by simp, Nat.zero_le _, p0⟩, ?_⟩
  rintro i m Hc ⟨rfl, hile, p⟩
  obtain ⟨ρi, hi, aV, aD, lr, Ri, st, hAi, rAi, ec, ea⟩ := p
  have gH : Γ Hc := hΓ Hc ρi st
  by_cases hlt : i < ds.length
  · refine .inr ⟨wk.goes i Hc hlt gH, Pv (i + 1), fun H' p' => ⟨ds.length - (i + 1), by omega, rfl, hlt, p'⟩, fun x H' y => ?_⟩
    have y := wk.yields i Hc x H' hlt gH y
    have mv : ∀ d v, Rep t sY.ρ sY.L HY v d → Rep t ρi (s.at own ρi hi).L Hc v d := fun d v r => by
      rw [at_L s own ρi hi hi]
      exact Rep.stepD (h' := hi) R hL hA st (mvY d v r)
    obtain ⟨d, ed, rd, gr⟩ := yd_at Ri mv y
    have Rg : Rel t M' (s.at own ρi hi) (wipe σ own) H' := Ri.grow gr
    have stg : Stp ρi ρi Hc H' := ⟨fun b o h _ => gr b o h, fun b o h _ => gr b o h, fun b o h => ⟨o, gr b o h⟩, List.prefix_refl _, fun _ z => .inl z⟩
    have ex : ds.drop i = d :: ds.drop (i + 1) := by
      obtain ⟨hl, e⟩ := List.getElem?_eq_some_iff.mp ed
      rw [List.drop_eq_getElem_cons hl, e]
    rw [ex] at ec
    obtain ⟨a1, h1, l1, f1, f2, f3⟩ := catL_cons ec
    cases ep : putT tg d (wipeE s.e own) with
    | none =>
      simp only [ep] at f1
      cases f1
    | some e' =>
      simp only [ep] at f1
      refine tg_go Rg hM rd ep fun σ' R' hl hj => ⟨?_, ?_⟩
      · have e1 : wipe σ' own = wipe (wipe σ own) own := wipe_eq hl fun j hn => hj j fun z => hn (ho j z)
        rw [e1]
        exact wipe_eq (wipe_length _ _) fun j hn => wipe_out hn
      · refine hB ((s.at own ρi hi).en e') σ' H' aV aD a1 h1 _ (.inl hL) R' (gr _ _ hAi) (Reps.step (h' := hi) Ri stg rAi) f1 ?_ fun H4 ρ4 aV4 st4 R4 hA4 rA4 => ?_
        · have : (aD ++ lr).length = (accD ++ l).length := by rw [ea]
          rw [f3] at this
          simp only [List.length_append] at this
          omega
        · have st4 : StpD Da ρi ρ4 H' H4 := st4
          refine ⟨ρ4, h1, aV4, aD ++ a1, l1, Rel.stepD (s := s.at own ρi hi) (h' := h1) Rg (.inl hL) (gr _ _ hAi) hA4 st4 R4.box R4.blen R4.bnd R4.lamb, StpD.trans st (StpD.trans (StpD.of stg) st4), hA4, rA4, f2, ?_⟩
          rw [List.append_assoc, ← f3]
          exact ea
  · have e9 : i = ds.length := by omega
    subst e9
    rw [List.drop_length] at ec
    have ez : lr = [] ∧ hi = hfin := by
      cases ec
      exact ⟨rfl, rfl⟩
    obtain ⟨rfl, rfl⟩ := ez
    rw [List.append_nil] at ea
    subst ea
    have bx := Ri.box
    rw [at_L s own ρi hi hi] at bx rAi
    exact .inl ⟨wk.stops Hc gH, q Hc ρi aV st (Rel.stepD R hL hA hAi st bx Ri.blen Ri.bnd fun a z y => Ri.lamb a z (.inl y)) hAi rAi⟩
/-- a test, then one item -/
def bodyC (G : Pg) (ifs elt : E) (e' : En) (h : Hb) : R (List D) := (ev G ifs e' h).bind fun c h => match c with
  | .bl true => (ev G elt e' h).bind fun y h => .ok [y] h
  | .bl false => .ok [] h
  | _ => .bad
theorem body_one {ifs elt : E} {tt : TT} {Da : Addr} (nb : bor elt = false) (hT : ∀ s σ H Q, Rel t M s σ H → AftT t M s σ H (ev G ifs s.e s.h) Q → tt σ H Q) (s' : Sit) (σ' : L2.St) (H' : Hp) (aV : List V) (aD m : List D) (h' : Hb) (Nx : Hp → Prop) (hL : s'.Lam Da) (R : Rel t M s' σ' H')
    (hA : H' Da = some (.lst aV)) (rA : Reps t s'.ρ s'.L H' aV aD) (e : bodyC G ifs elt s'.e s'.h = .ok m h') (hz : aD.length + m.length ≤ 1000000)
    (q : ∀ Hc ρ' aV', StpD Da s'.ρ ρ' H' Hc → Rel t M (s'.to ρ' h') σ' Hc → Hc Da = some (.lst aV') → Reps t ρ' (s'.to ρ' h').L Hc aV' (aD ++ m) → Nx Hc) :
    tt σ' H' fun b H3 => if b = true then tE t G T M elt σ' H3 fun y H4 => ∃ acc, H4 Da = some (.lst acc) ∧ acc.length < sizeLine ∧ Nx (L2.upd H4 Da (.lst (acc ++ [y]))) else Nx H3 := by
  refine hT s' σ' H' _ R ?_
  unfold bodyC at e
  cases e2 : ev G ifs s'.e s'.h with
  | bad =>
    rw [e2] at e
    cases e
  | ok c h2 =>
    rw [e2] at e
    cases c with
    | bl b =>
      intro H3 ρ3 st3 R3
      cases b with
      | false =>
        rw [if_neg (by simp)]
        have ez : m = [] ∧ h2 = h' := by
          cases e
          exact ⟨rfl, rfl⟩
        obtain ⟨rfl, rfl⟩ := ez
        refine q H3 ρ3 aV (StpD.of st3) R3 (st3.keep _ _ hA fun z => R.lamb _ z hL) ?_
        rw [List.append_nil]
        exact rA.step R st3
      | true =>
        rw [if_pos rfl]
        have e : ((ev G elt s'.e h2).bind fun y h => CC.R.ok [y] h) = .ok m h' := e
        refine ⟨_, R3, ?_⟩
        show Aft t T M elt (s'.to ρ3 h2) σ' H3 (ev G elt s'.e h2) _
        cases e3 : ev G elt s'.e h2 with
        | bad =>
          rw [e3] at e
          cases e
        | ok y h4 =>
          rw [e3] at e
          have ez : m = [y] ∧ h4 = h' := by
            cases e
            exact ⟨rfl, rfl⟩
          obtain ⟨rfl, rfl⟩ := ez
          intro v H4 ρ4 st4 R4 res
          have st4 : Stp ρ3 ρ4 H3 H4 := st4
          have R4 : Rel t M (s'.to ρ4 h4) σ' H4 := R4
          have rv := Res.rep nb R3 res
          have st34 : Stp s'.ρ ρ4 H' H4 := st3.trans st4
          have hA4 : H4 Da = some (.lst aV) := st34.keep _ _ hA fun z => R.lamb _ z hL
          have la := rA.length
          have lz : aD.length + 1 ≤ 1000000 := hz
          refine ⟨aV, hA4, Nat.lt_of_lt_of_le (by omega : aV.length < 1000000) (small6 (Nat.le_refl _)), q _ ρ4 (aV ++ [v]) (StpD.upd (StpD.of st34)) (R4.chg hL hA4) upd_same ?_⟩
          have m5 := Reps.append (rA.step (h' := h4) R st34) (Reps.one rv)
          refine Reps.move (fun _ _ e => e) (fun b o e n => ⟨?_, n⟩) (fun b o e f => ?_) _ _ m5
          · rw [upd_ne fun z => n (by rw [z]; exact .inl hL)]
            exact e
          · rw [upd_ne fun z => by
              rw [z, hA4] at e
              cases e
              exact f]
            exact e
    | _ => cases e
end
end CC

set_option Elab.async false
set_option linter.all false
set_option maxRecDepth 100000
set_option maxHeartbeats 1000000
namespace CC
open PySem PySem.Spec PyProof.Rows L2

section
variable {t : Tx} {G : Pg} {T : Tab} {k : Nat} {C : Ctx} {X : Cx}
theorem chk_set {x : E} {elts : List Expr} {n : Nat} {p : Pos} : chkE T x C (.Set elts n p) = false := by
  cases x <;> rfl
theorem not_set {x : E} {e : Expr} (h : chkE T x C e = true) (env : Env) : ∀ y, foldedSetIterable e env y = pure y := fun y => by
  cases e with
  | Set elts kk p =>
    rw [chk_set] at h
    cases h
  | _ => rfl
theorem not_setI {x : E} {e tg : Expr} (h : chkI T x C e tg = true) (env : Env) : ∀ y, foldedSetIterable e env y = pure y := by
  cases x with
  | iseq a => exact not_set (x := a) (show chkE T a C e = true from h) env
  | iown a => exact not_set (x := a) (Bool.and_eq_true_iff.mp (show (chkE T a C e && !bor a) = true from h)).1 env
  | irng a =>
    unfold chkI at h
    split at h
    · exact fun y => rfl
    · cases h
  | ienum a =>
    unfold chkI at h
    split at h
    · exact fun y => rfl
    · cases h
  | izip a b =>
    unfold chkI at h
    split at h
    · exact fun y => rfl
    · cases h
  | _ => cases (show false = true from h)
theorem it_tup {x : E} {ex tg : Expr} {e : En} {h h' : Hb} {d : D} (hc : chkI T x C ex tg = true) (hv : ev G x e h = .ok d h') : ∃ ds, d = .tup ds := by
  cases x with
  | iseq a =>
    have hv : ((ev G a e h).bind fun x h => (iterD x h).bind fun l h => CC.R.ok (.tup l) h) = .ok d h' := hv
    cases e1 : ev G a e h with
    | bad => rw [e1] at hv; cases hv
    | ok x1 h1 =>
      rw [e1] at hv
      have hv : ((iterD x1 h1).bind fun l h => CC.R.ok (.tup l) h) = .ok d h' := hv
      cases e2 : iterD x1 h1 with
      | bad => rw [e2] at hv; cases hv
      | ok l h2 =>
        rw [e2] at hv
        cases hv
        exact ⟨_, rfl⟩
  | iown a =>
    have hv : ((ev G a e h).bind fun x h => iownD G x h) = .ok d h' := hv
    cases e1 : ev G a e h with
    | bad => rw [e1] at hv; cases hv
    | ok x1 h1 =>
      rw [e1] at hv
      have hv : iownD G x1 h1 = .ok d h' := hv
      unfold iownD at hv
      repeat' split at hv
      all_goals first | (cases hv; exact ⟨_, rfl⟩) | cases hv
  | irng a =>
    have hv : ((ev G a e h).bind fun x h => match x with | .int n => if n < 1000000 ∧ -1000000 < n then CC.R.ok (.tup (rngD n)) h else .bad | _ => .bad) = .ok d h' := hv
    cases e1 : ev G a e h with
    | bad => rw [e1] at hv; cases hv
    | ok x1 h1 =>
      rw [e1] at hv
      cases x1 with
      | int n =>
        have hv : (if n < 1000000 ∧ -1000000 < n then CC.R.ok (.tup (rngD n)) h1 else .bad) = .ok d h' := hv
        split at hv
        · cases hv
          exact ⟨_, rfl⟩
        · cases hv
      | _ => cases hv
  | ienum a =>
    have hv : ((ev G a e h).bind fun x h => match seqD x with | some l => CC.R.ok (D.tup (enumD 0 l)) h | none => .bad) = .ok d h' := hv
    cases e1 : ev G a e h with
    | bad => rw [e1] at hv; cases hv
    | ok x1 h1 =>
      rw [e1] at hv
      have hv : (match seqD x1 with | some l => CC.R.ok (D.tup (enumD 0 l)) h1 | none => .bad) = .ok d h' := hv
      split at hv
      · cases hv
        exact ⟨_, rfl⟩
      · cases hv
  | izip a b =>
    have hv : ((ev G a e h).bind fun x h => (ev G b e h).bind fun y h => match seqD x, seqD y with | some l, some m => CC.R.ok (D.tup (zipD l m)) h | _, _ => .bad) = .ok d h' := hv
    cases e1 : ev G a e h with
    | bad => rw [e1] at hv; cases hv
    | ok x1 h1 =>
      rw [e1] at hv
      have hv : ((ev G b e h1).bind fun y h => match seqD x1, seqD y with | some l, some m => CC.R.ok (D.tup (zipD l m)) h | _, _ => .bad) = .ok d h' := hv
      cases e2 : ev G b e h1 with
      | bad => rw [e2] at hv; cases hv
      | ok x2 h2 =>
        rw [e2] at hv
        have hv : (match seqD x1, seqD x2 with | some l, some m => CC.R.ok (D.tup (zipD l m)) h2 | _, _ => .bad) = .ok d h' := hv
        split at hv
        · cases hv
          exact ⟨_, rfl⟩
        · cases hv
  | _ => cases (show false = true from hc)
theorem own_map (C : Ctx) (own : List Nat) : (ownOf C own).map (·.2) = own := by
  unfold ownOf
  rw [List.map_map]
  exact List.map_id' own
theorem live_stp {s : Sit} {ρ' : List Addr} {H1 Hc : Hp} {Da : Addr} {xs : List V} (hD : H1 Da = none) (st : StpD Da s.ρ ρ' (upd H1 Da (.lst xs)) Hc) : Stp s.ρ ρ' H1 Hc := by
  have up : ∀ b o, H1 b = some o → hide Da (upd H1 Da (.lst xs)) b = some o := fun b o e => by
    have nb := ne_of_none e hD
    rw [hide_ne nb, upd_ne nb]
    exact e
  refine ⟨fun b o e n => st.keep b o (up b o e) n, fun b o e f => st.fix b o (up b o e) f, fun b o e => st.trk b o (up b o e), st.pre, fun b z => (st.new b z).imp id fun q => ?_⟩
  cases e : H1 b with
  | none => rfl
  | some o =>
    rw [up b o e] at q
    cases q
/-- the loop of a comprehension, from the place where its list is new -/
theorem lc_new {M M' : List Nat} {s : Sit} {σ : L2.St} {H1 : Hp} {tg : CC.T} {own : List Nat} {f : En → Hb → CC.R (List D)} {B : L2.St → Hp → (Hp → Prop) → Prop} {bw : Bool} {J : It} {ds l : List D} {hfin : Hb} {Da : Addr} {Qd : Hp → Prop}
    (R : Rel t M s σ H1) (w : Wk t s bw J ds H1) (hD : H1 Da = none) (hd : ∀ i, i = dxI → i ∉ own) (hM' : ∀ i, i ∈ M' ↔ i ∈ M ∧ i ∉ own) (ho : ∀ i ∈ tgL tg, i ∈ own)
    (e : catL (fun d h => match putT tg d (wipeE s.e own) with | none => .bad | some e' => f e' h) ds s.h = .ok l hfin) (hz : l.length ≤ 1000000)
    (hB : ∀ (s' : Sit) σ' H' aV aD m h' Nx, s'.Lam Da → Rel t M' s' σ' H' → H' Da = some (.lst aV) → Reps t s'.ρ s'.L H' aV aD → f s'.e s'.h = .ok m h' → aD.length + m.length ≤ 1000000 →
      (∀ Hc ρ' aV', StpD Da s'.ρ ρ' H' Hc → Rel t M' (s'.to ρ' h') σ' Hc → Hc Da = some (.lst aV') → Reps t ρ' (s'.to ρ' h').L Hc aV' (aD ++ m) → Nx Hc) → B σ' H' Nx)
    (q : ∀ Hc ρ', Stp s.ρ ρ' H1 Hc → Rel t M (s.to ρ' hfin) σ Hc → FRep t ρ' (s.to ρ' hfin).L H1 Hc (.ref Da) (.lst l) → Qd Hc) :
    ∃ W : Nat → Nat → Hp → Prop, (∃ m, W 0 m (upd H1 Da (.lst []))) ∧ ∀ i m H, W i m H →
      (J.stop i H ∧ Qd H) ∨ (J.go i H ∧ ∃ Nx : Hp → Prop, (∀ H', Nx H' → ∃ m', m' < m ∧ W (i + 1) m' H') ∧ ∀ x H', J.yld i H x H' → tG t.K tg x (wipe σ own) H' fun σ2 H2 => wipe σ2 own = wipe σ own ∧ B σ2 H2 Nx) := by
  obtain ⟨Γ, g0, gk, wk⟩ := w
  have R0 : Rel t M (s.live Da) σ (upd H1 Da (.lst [])) := R.addLam hD
  have Ll : ∀ (ρ' : List Addr) (h' : Hb) (b : Addr), ((s.live Da).to ρ' h').L b ↔ (s.to ρ' h').L b ∨ b = Da := fun ρ' h' b => live_L (s.to ρ' h') Da b
  refine lc_abs (s := s.live Da) (accD := []) (accV := []) (sY := s) (HY := H1) (Γ := Γ) R0 (.inr rfl) upd_same .nil wk (fun Hc ρ' st => ?_) (fun d v r => ?_) hd hM' ho e (by simpa using hz) hB fun Hc ρ' aV st R' hA rA => ?_
  · have st := live_stp (s := s) hD st
    exact gk H1 Hc g0 fun b o e f => f.elim (st.fix b o e) fun y => st.keep b o e y.1
  · refine Rep.move (fun _ _ e => e) (fun b o e n => ⟨by rw [upd_ne (ne_of_none e hD)]; exact e, fun z => ?_⟩) (fun b o e _ => by rw [upd_ne (ne_of_none e hD)]; exact e) d v r
    rcases (live_L s Da b).mp z with z | z
    · exact n z
    · exact ne_of_none e hD z
  · have st := live_stp (s := s) hD st
    have bx : Boxes t ρ' (s.to ρ' hfin).L Hc hfin := fun n l e => by
      obtain ⟨h1, a, xs, h2, h3, h4⟩ := R'.box n l e
      exact ⟨h1, a, xs, h2, h3, h4.less fun b z => (Ll ρ' hfin b).mpr (.inl z)⟩
    refine q Hc ρ' st (R.step st bx R'.blen R'.bnd) ⟨Da, aV, rfl, hD, hA, fun z => R'.lamb _ z (.inr rfl), ?_⟩
    exact rA.less fun b z => (Ll ρ' hfin b).mpr z
/-- a clause's test or none -/
theorem ifs_of {M : List Nat} {ifs : E} {ifs' : List Expr} {C' : Ctx} {Xf : Shared → Hp → Addr → List (Str × Addr) → List Addr → Cx} (h6 : (match ifs' with
          | [] => (match ifs with | .cst (.bool true) => true | _ => false)
          | [f] => chkE T ifs C' f && notIf f
          | _ => false) = true) (hM : C'.M = M) (if_ : Snd t G T k ifs) (cxf : ∀ s H Ca cl fp, CxOk t G T k C' (Xf s H Ca cl fp)) : ∃ tt : TT, (∀ s H Ca cl fp, PTs (Xf s H Ca cl fp) ifs' tt) ∧ ∀ s σ H Q, Rel t M s σ H → AftT t M s σ H (ev G ifs s.e s.h) Q → tt σ H Q := by
  subst hM
  cases ifs' with
  | nil =>
    refine ⟨tYes, fun s H Ca cl fp => pts_nil, fun s σ H Q R q => ?_⟩
    cases ifs with
    | cst c =>
      cases c with
      | bool b =>
        cases b with
        | true => exact q H s.ρ (Stp.refl _ _) R
        | false => cases h6
      | _ => cases h6
    | _ => cases h6
  | cons f r =>
    cases r with
    | nil =>
      simp only [Bool.and_eq_true] at h6
      exact ⟨tT t G C'.M ifs, fun s H Ca cl fp => pts_one (if_.pt C' _ f (cxf s H Ca cl fp) h6.1 h6.2), fun s σ H Q R q => ⟨s, R, q⟩⟩
    | cons f2 r2 => cases h6
/-- all that the comprehension's rules ask -/
theorem in_M (C : Ctx) (scope : Scope) (own : List Nat) : ∀ i, i ∈ (inC C scope own).M ↔ i ∈ C.M ∧ i ∉ own := fun i => by
  show i ∈ C.M.filter (fun i => !own.contains i) ↔ _
  rw [List.mem_filter]
  simp
theorem in_d {own : List Nat} (h : own.contains dxI = false) : ∀ i, i = dxI → i ∉ own := fun i e z => by
  subst e
  simp_all
theorem comp_prem (cx : CxOk t G T k C X) {tg : CC.T} {own : List Nat} {it ifs elt : E} (ii : SndI t G T k it) (if_ : Snd t G T k ifs) (ie : Snd t G T k elt) {el tg' it' : Expr} {ifs' : List Expr} {as : Int} {scope : Scope} {pos : Pos}
    (h : chkE T (.comp tg own it ifs elt) C (.ListComp el [⟨tg', it', ifs', as⟩] scope pos) = true) :
    as = 0 ∧ ∃ wi g tt te, PI X tg' it' wi ∧ BlkOk X.N X.env.scope scope (ownOf C own) ∧
      (∀ (s : Shared) (H : Hp) (Ca : Addr) (cl : List (Str × Addr)) (fp : List Addr), PG (X.blk s H scope (compEnvC scope cl Ca X.env) fp) tg' g) ∧
      (∀ (s : Shared) (H : Hp) (Ca : Addr) (cl : List (Str × Addr)) (fp : List Addr), PTs (X.blk s H scope (compEnvC scope cl Ca X.env) fp) ifs' tt) ∧
      (∀ (s : Shared) (H : Hp) (Ca : Addr) (cl : List (Str × Addr)) (fp : List Addr), PE (X.blk s H scope (compEnvC scope cl Ca X.env) fp) el te) ∧ (∀ x, foldedSetIterable it' X.env x = pure x) ∧
      ∀ σ H Q, tE t G T C.M (.comp tg own it ifs elt) σ H Q → tLc wi g tt te ((ownOf C own).map (·.2)) σ H Q := by
  unfold chkE at h
  simp only [Bool.and_eq_true, decide_eq_true_eq, Bool.not_eq_true'] at h
  obtain ⟨⟨⟨⟨⟨⟨⟨⟨h1, h2⟩, h3⟩, h4⟩, h5⟩, h6⟩, h7⟩, h8⟩, h9⟩ := h
  refine ⟨h1, ?_⟩
  have hb : BlkOk X.N X.env.scope scope (ownOf C own) := by
    rw [cx.N, cx.sc]
    exact blkOk_by h3
  have ho : ∀ i ∈ tgL tg, i ∈ own := by
    intro i hi
    have := List.all_eq_true.mp h5 i hi
    simpa using this
  have hM' : ∀ i, i ∈ (inC C scope own).M ↔ i ∈ C.M ∧ i ∉ own := in_M C scope own
  have hd : ∀ i, i = dxI → i ∉ own := in_d h9
  have key : ∀ (tt : TT), (∀ s σ H Q, Rel t (inC C scope own).M s σ H → AftT t (inC C scope own).M s σ H (ev G ifs s.e s.h) Q → tt σ H Q) → ∀ σ H Q, tE t G T C.M (.comp tg own it ifs elt) σ H Q → tLc (tI t G C.M it) (tG X.K tg) tt (tE t G T (inC C scope own).M elt) ((ownOf C own).map (·.2)) σ H Q := by
    intro tt hT σ H Q ⟨s, R, q⟩
    refine ⟨s, R, ?_⟩
    have e0 : ev G (.comp tg own it ifs elt) s.e s.h = (ev G it s.e s.h).bind fun x h => (catL (fun d h => match putT tg d (wipeE s.e own) with | none => .bad | some e' => bodyC G ifs elt e' h) (argsD x) h).bind fun l h => longD l h := rfl
    rw [e0] at q
    cases e1 : ev G it s.e s.h with
    | bad => rw [e1] at q; exact q.elim
    | ok d h1 =>
      rw [e1] at q
      obtain ⟨ds, rfl⟩ := it_tup h2 e1
      have q : Aft t T C.M (.comp tg own it ifs elt) s σ H ((catL (fun d h => match putT tg d (wipeE s.e own) with | none => .bad | some e' => bodyC G ifs elt e' h) ds h1).bind fun l h => longD l h) Q := q
      cases e2 : catL (fun d h => match putT tg d (wipeE s.e own) with | none => .bad | some e' => bodyC G ifs elt e' h) ds h1 with
      | bad => rw [e2] at q; exact q.elim
      | ok l h2' =>
        rw [e2] at q
        have q : Aft t T C.M (.comp tg own it ifs elt) s σ H (if l.length ≤ 1000000 then .ok (.lst l) h2' else .bad) Q := q
        split at q
        · rename_i hz
          intro J H1 ρ1 st1 R1 wk Da hD
          rw [own_map, cx.K]
          refine lc_new (s := s.to ρ1 h1) (σ := σ) (H1 := H1) R1 wk hD hd hM' ho e2 hz (fun s' σ' H' aV aD m h' Nx hL R hA rA e hz q => body_one (T := T) h8 hT s' σ' H' aV aD m h' Nx hL R hA rA e hz q) fun Hc ρ' st R' r => ?_
          refine q _ Hc ρ' (st1.trans st) R' ?_
          obtain ⟨a, xs, e1, e2, e3⟩ := r
          exact ⟨a, xs, e1, st1.free e2, e3⟩
        · exact q.elim
  have pg : ∀ (s : Shared) (H : Hp) (Ca : Addr) (cl : List (Str × Addr)) (fp : List Addr), PG (X.blk s H scope (compEnvC scope cl Ca X.env) fp) tg' (tG X.K tg) := fun s H Ca cl fp => pg_of (cx_blk cx scope own s H Ca cl fp) tg tg' h4
  have pe : ∀ (s : Shared) (H : Hp) (Ca : Addr) (cl : List (Str × Addr)) (fp : List Addr), PE (X.blk s H scope (compEnvC scope cl Ca X.env) fp) el (tE t G T (inC C scope own).M elt) := fun s H Ca cl fp => ie.pe (inC C scope own) _ el (cx_blk cx scope own s H Ca cl fp) h7
  have sf := not_setI h2 X.env
  obtain ⟨tt, ht, hT⟩ := ifs_of (M := (inC C scope own).M) (C' := (inC C scope own)) (Xf := fun s H Ca cl fp => X.blk s H scope (compEnvC scope cl Ca X.env) fp) h6 rfl if_ (fun s H Ca cl fp => cx_blk cx scope own s H Ca cl fp)
  exact ⟨_, _, tt, _, ii C X tg' it' cx h2, hb, pg, ht, pe, sf, key tt hT⟩
theorem s_comp {tg : CC.T} {own : List Nat} {it ifs elt : E} (ii : SndI t G T k it) (if_ : Snd t G T k ifs) (ie : Snd t G T k elt) : Snd t G T k (.comp tg own it ifs elt) := by
  refine .plain (fun C X ex cx h => ?_) (fun C ex h => ?_) (fun C es => rfl)
  · have h0 := h
    unfold chkE at h0
    split at h0
    · obtain ⟨rfl, wi, g, tt, te, h1, h2, h3, h4, h5, h6, h7⟩ := comp_prem cx ii if_ ie h
      exact (pe_lc cx.calm (nd_of cx) h1 h2 h3 h4 h5 h6).imp h7
    · cases h0
  · unfold chkE at h
    split at h
    · rfl
    · cases h
/-- all that the rules of a comprehension of two fors ask -/
theorem comp2_prem (cx : CxOk t G T k C X) {tg tg1 : CC.T} {own own1 : List Nat} {it it1 ifs1 elt : E} (ii : SndI t G T k it) (ii1 : SndI t G T k it1) (if_ : Snd t G T k ifs1) (ie : Snd t G T k elt) {el tg' it' tg1' it1' : Expr} {ifs1' : List Expr} {as as1 : Int} {scope : Scope} {pos : Pos}
    (h : chkE T (.comp2 tg tg1 own own1 it it1 ifs1 elt) C (.ListComp el [⟨tg', it', [], as⟩, ⟨tg1', it1', ifs1', as1⟩] scope pos) = true) :
    as = 0 ∧ as1 = 0 ∧ ∃ wi g wi1 g1 tt1 te, PI X tg' it' wi ∧ BlkOk X.N X.env.scope scope (ownOf C own) ∧ (∀ i ∈ own1, i ∈ (ownOf C own).map (·.2)) ∧
      (∀ (s : Shared) (H : Hp) (Ca : Addr) (cl : List (Str × Addr)) (fp : List Addr), PG (X.blk s H scope (compEnvC scope cl Ca X.env) fp) tg' g) ∧
      (∀ (s : Shared) (H : Hp) (Ca : Addr) (cl : List (Str × Addr)) (fp : List Addr), PI (X.blk s H scope (compEnvC scope cl Ca X.env) fp) tg1' it1' wi1) ∧
      (∀ (s : Shared) (H : Hp) (Ca : Addr) (cl : List (Str × Addr)) (fp : List Addr), PG (X.blk s H scope (compEnvC scope cl Ca X.env) fp) tg1' g1) ∧
      (∀ (s : Shared) (H : Hp) (Ca : Addr) (cl : List (Str × Addr)) (fp : List Addr), PTs (X.blk s H scope (compEnvC scope cl Ca X.env) fp) ifs1' tt1) ∧
      (∀ (s : Shared) (H : Hp) (Ca : Addr) (cl : List (Str × Addr)) (fp : List Addr), PE (X.blk s H scope (compEnvC scope cl Ca X.env) fp) el te) ∧ (∀ x, foldedSetIterable it' X.env x = pure x) ∧ (∀ env x, foldedSetIterable it1' env x = pure x) ∧
      ∀ σ H Q, tE t G T C.M (.comp2 tg tg1 own own1 it it1 ifs1 elt) σ H Q → tLc2 wi g tYes wi1 g1 tt1 te ((ownOf C own).map (·.2)) own1 σ H Q := by
  unfold chkE at h
  simp only [Bool.and_eq_true, decide_eq_true_eq, Bool.not_eq_true'] at h
  obtain ⟨⟨⟨⟨⟨⟨⟨⟨⟨⟨⟨⟨⟨⟨h1, h1b⟩, h2⟩, h3⟩, hov⟩, h5⟩, h5b⟩, h4⟩, h4b⟩, h2b⟩, hb1⟩, h6⟩, h7⟩, h8⟩, h9⟩ := h
  refine ⟨h1, h1b, ?_⟩
  have hb : BlkOk X.N X.env.scope scope (ownOf C own) := by
    rw [cx.N, cx.sc]
    exact blkOk_by h3
  have mem : ∀ {l m : List Nat}, l.all (m.contains ·) = true → ∀ i ∈ l, i ∈ m := fun {l m} h i hi => by
    have := List.all_eq_true.mp h i hi
    simpa using this
  have ho := mem h5
  have ho1 := mem h5b
  have hM' : ∀ i, i ∈ (inC C scope own).M ↔ i ∈ C.M ∧ i ∉ own := in_M C scope own
  have hd : ∀ i, i = dxI → i ∉ own := in_d h9
  have hM1 : ∀ i, i ∈ (inC C scope own).M ↔ i ∈ (inC C scope own).M ∧ i ∉ own1 := fun i => ⟨fun z => ⟨z, fun y => ((hM' i).mp z).2 (mem hov i y)⟩, fun z => z.1⟩
  have hd1 : ∀ i, i = dxI → i ∉ own1 := fun i e z => hd i e (mem hov i z)
  obtain ⟨tt, ht, hT⟩ := ifs_of (M := (inC C scope own).M) (C' := (inC C scope own)) (Xf := fun s H Ca cl fp => X.blk s H scope (compEnvC scope cl Ca X.env) fp) h6 rfl if_ (fun s H Ca cl fp => cx_blk cx scope own s H Ca cl fp)
  refine ⟨tI t G C.M it, tG X.K tg, tI t G (inC C scope own).M it1, tG X.K tg1, tt, tE t G T (inC C scope own).M elt, ii C X tg' it' cx h2, hb, by rw [own_map]; exact mem hov, fun s H Ca cl fp => pg_of (cx_blk cx scope own s H Ca cl fp) tg tg' h4, fun s H Ca cl fp => ii1 (inC C scope own) _ tg1' it1' (cx_blk cx scope own s H Ca cl fp) h2b, fun s H Ca cl fp => pg_of (cx_blk cx scope own s H Ca cl fp) tg1 tg1' h4b, ht,
    fun s H Ca cl fp => ie.pe (inC C scope own) _ el (cx_blk cx scope own s H Ca cl fp) h7, not_setI h2 X.env, not_setI h2b, ?_⟩
  intro σ H Q ⟨s, R, q⟩
  refine ⟨s, R, ?_⟩
  have e0 : ev G (.comp2 tg tg1 own own1 it it1 ifs1 elt) s.e s.h = (ev G it s.e s.h).bind fun x h => (catL (fun d h => match putT tg d (wipeE s.e own) with | none => .bad | some e' => (ev G it1 e' h).bind fun x1 h => catL (fun d1 h => match putT tg1 d1 (wipeE e' own1) with | none => .bad | some e'' => bodyC G ifs1 elt e'' h) (argsD x1) h) (argsD x) h).bind fun l h => longD l h := rfl
  rw [e0] at q
  cases e1 : ev G it s.e s.h with
  | bad => rw [e1] at q; exact q.elim
  | ok d h1 =>
    rw [e1] at q
    obtain ⟨ds, rfl⟩ := it_tup h2 e1
    have q : Aft t T C.M (.comp2 tg tg1 own own1 it it1 ifs1 elt) s σ H ((catL (fun d h => match putT tg d (wipeE s.e own) with | none => .bad | some e' => (ev G it1 e' h).bind fun x1 h => catL (fun d1 h => match putT tg1 d1 (wipeE e' own1) with | none => .bad | some e'' => bodyC G ifs1 elt e'' h) (argsD x1) h) ds h1).bind fun l h => longD l h) Q := q
    cases e2 : catL (fun d h => match putT tg d (wipeE s.e own) with | none => .bad | some e' => (ev G it1 e' h).bind fun x1 h => catL (fun d1 h => match putT tg1 d1 (wipeE e' own1) with | none => .bad | some e'' => bodyC G ifs1 elt e'' h) (argsD x1) h) ds h1 with
    | bad => rw [e2] at q; exact q.elim
    | ok l h2' =>
      rw [e2] at q
      have q : Aft t T C.M (.comp2 tg tg1 own own1 it it1 ifs1 elt) s σ H (if l.length ≤ 1000000 then .ok (.lst l) h2' else .bad) Q := q
      split at q
      · rename_i hz
        intro J H1 ρ1 st1 R1 wk Da hD
        rw [own_map]
        have hK : X.K = t.K := cx.K
        show ∃ W : Nat → Nat → Hp → Prop, (∃ m, W 0 m (upd H1 Da (.lst []))) ∧ ∀ i m H, W i m H → (J.stop i H ∧ Q (.ref Da) H) ∨ (J.go i H ∧ ∃ Nx : Hp → Prop, (∀ H', Nx H' → ∃ m', m' < m ∧ W (i + 1) m' H') ∧ ∀ x H', J.yld i H x H' → tG X.K tg x (wipe σ own) H' fun σ2 H2 => wipe σ2 own = wipe σ own ∧ _)
        rw [hK]
        refine lc_new (s := s.to ρ1 h1) (σ := σ) (H1 := H1) (B := fun σ2 H2 Nx => tYes σ2 H2 fun b H3 => if b = true then _ else Nx H3) R1 wk hD hd hM' ho e2 hz (fun s' σ' H' aV aD m h' Nx hL R hA rA e hz q => ?_) fun Hc ρ' st R' r => ?_
        · show if true = true then tI t G (inC C scope own).M it1 σ' H' _ else Nx H'
          rw [if_pos rfl]
          refine ⟨s', R, ?_⟩
          cases e3 : ev G it1 s'.e s'.h with
          | bad =>
            rw [e3] at e
            cases e
          | ok d1 h3 =>
            rw [e3] at e
            obtain ⟨ds1, rfl⟩ := it_tup h2b e3
            have e : catL (fun d1 h => match putT tg1 d1 (wipeE s'.e own1) with | none => .bad | some e'' => bodyC G ifs1 elt e'' h) ds1 h3 = .ok m h' := e
            intro J1 H4 ρ4 st4 R4 ⟨Γ, g0, gk, wk⟩
            have hA4 : H4 Da = some (.lst aV) := st4.keep _ _ hA fun z => R.lamb _ z hL
            refine lc_abs (s := s'.to ρ4 h3) (σ := σ') (H1 := H4) (Γ := Γ) R4 hL hA4 (rA.step R st4) wk (fun Hc ρ' st => ?_) (fun d v r => r) hd1 hM1 ho1 e hz (fun s' σ' H' aV aD m h' Nx hL R hA rA e hz q => body_one (T := T) h8 hT s' σ' H' aV aD m h' Nx hL R hA rA e hz q) fun Hc ρ' aV' st R' hA' rA' => q Hc ρ' aV' (StpD.trans (StpD.of st4) st) R' hA' rA'
            refine gk H4 Hc g0 fun b o e f => ?_
            rcases f with f | f
            · exact StpD.F (s := s'.to ρ4 h3) hA4 st b o e f
            · exact (StpD.L (h' := h3) R4 hL st b o e (f.2 hb1)).1
        · refine q _ Hc ρ' (st1.trans st) R' ?_
          obtain ⟨a, xs, e1, e2, e3⟩ := r
          exact ⟨a, xs, e1, st1.free e2, e3⟩
      · exact q.elim
theorem s_comp2 {tg tg1 : CC.T} {own own1 : List Nat} {it it1 ifs1 elt : E} (ii : SndI t G T k it) (ii1 : SndI t G T k it1) (if_ : Snd t G T k ifs1) (ie : Snd t G T k elt) : Snd t G T k (.comp2 tg tg1 own own1 it it1 ifs1 elt) := by
  refine .plain (fun C X ex cx h => ?_) (fun C ex h => ?_) (fun C es => rfl)
  · have h0 := h
    unfold chkE at h0
    split at h0
    · obtain ⟨rfl, rfl, wi, g, wi1, g1, tt, te, h1, h2, h3, h4, h5, h6, h7, h8, h9, h10, h11⟩ := comp2_prem cx ii ii1 if_ ie h
      exact (pe_lc2 cx.calm (nd_of cx) h1 h2 h3 h4 (fun _ _ _ _ _ => pts_nil) h5 h6 h7 h8 h9 h10).imp h11
    · cases h0
  · unfold chkE at h
    split at h
    · rfl
    · cases h
end
end CC

set_option Elab.async false
set_option linter.all false
set_option maxRecDepth 100000
set_option maxHeartbeats 1000000
/-! Own instances: fields, methods, properties, len; what a loop walks. -/
namespace CC
open PySem PySem.Spec PyProof.Rows L2

theorem pe_dep {X : Cx} {e : Expr} {u : TE} (h : ∀ σ H Q, u σ H Q → ∃ t, PE X e t ∧ t σ H Q) : PE X e u := ⟨fun pins s σ H Q I q => by
  obtain ⟨t, p, q⟩ := h σ H Q q
  exact p.run pins s σ H Q I q⟩
section
variable {t : Tx} {G : Pg} {T : Tab} {k : Nat} {C : Ctx} {X : Cx}
theorem chk_call0 {x : E} {i : Str} {p pos : Pos} : chkE T x C (.Call (.Name i p) [] [] pos) = false := by
  cases x <;> rfl
theorem base_of {x : E} {v : Expr} (h : chkE T x C v = true) (f : Str) (env : Env) (w : Sem Value) : attributeBase v f env w = w := by
  cases v with
  | Call func args kws pos =>
    cases func with
    | Name i p =>
      cases args with
      | nil =>
        cases kws with
        | nil =>
          rw [chk_call0] at h
          cases h
        | cons _ _ => rfl
      | cons _ _ => rfl
    | _ => rfl
  | _ => rfl
theorem back_of {es : List Expr} {as : E} (h : chkA T as C es = true) (pos : Pos) (env : Env) : (backTo pos (starEach es env)).all (!·.1) = true := by
  have q := star_all (T := T) (pos := pos) (env := env) es as h
  rw [List.all_eq_not_any_not]
  simp only [Bool.not_not]
  rw [q]
  rfl
theorem meth_eq {o : Expr} {m : Str} {ap pos : Pos} {es : List Expr} {env : Env} (hb : attributeBase o m env (eval o env) = eval o env) (hs : (backTo pos (starEach es env)).all (!·.1) = true) (hn : es.length < 30) (hl : (ap.endLine == pos.line) = true) :
    eval (.Call (.Attribute o m ap) es [] pos) env = (do
      let ov ← eval o env
      standAt ap.atName
      let (f, first) ← holding [ov] (getMethod ov m (do return (← importBound o env).getD true))
      callWith pos f first (backTo pos (starEach es env)) (backToKw pos (keywordEach [] env))) := by
  have hf : methodCallForm (es.length + ([] : List Keyword).length) (backTo pos (starEach es env)) (backToKw pos (keywordEach [] env)) = true := by
    unfold methodCallForm
    rw [hs]
    have : (backToKw pos (keywordEach [] env)) = [] := rfl
    rw [this]
    simpa using hn
  have e0 : eval (.Call (.Attribute o m ap) es [] pos) env = (do
      let ov ← attributeBase o m env (eval o env)
      standAt ap.atName
      methodCall o m ap pos env ov (es.length + ([] : List Keyword).length) (backTo pos (starEach es env)) (backToKw pos (keywordEach [] env))) := rfl
  rw [e0, hb]
  unfold methodCall calleeOf methodCallPos
  rw [hf]
  simp only [if_true, Bool.not_true, Bool.false_or, hl]
  rfl
/-- an instance as it stands -/
theorem Rep.inst {ρ : List Addr} {L : Addr → Prop} {H : Hp} {v : V} {c : Nat} {ds : List D} (h : Rep t ρ L H v (.ins c ds)) : c < t.nc ∧ ∃ a dx vs ws, v = .ref a ∧ SlX.Slt H a (t.ca c) dx vs ∧ (∀ (j : Nat) (x : V), ws[j]? = some x → vs[t.sl c j]? = some (some x)) ∧ Reps t ρ L H ws ds := by
  cases h with
  | ins h0 h1 h2 _ _ h5 r => exact ⟨h0, _, _, _, _, rfl, .inr ⟨h1, h2⟩, h5, r⟩
end
section
variable {t : Tx} {G : Pg} {T : Tab} {k : Nat}
theorem i_seq {a : E} (ia : Snd t G T k a) : SndI t G T k (.iseq a) := by
  intro C X tg ex cx h
  have h : chkE T a C ex = true := h
  refine (pi_val (ia.pe C X ex cx h) piv_seq).imp fun σ H Q ⟨s, R, q⟩ => ?_
  refine ⟨s, R, ?_⟩
  have e0 : ev G (.iseq a) s.e s.h = (ev G a s.e s.h).bind fun x h => (iterD x h).bind fun l h => .ok (.tup l) h := rfl
  rw [e0] at q
  cases e1 : ev G a s.e s.h with
  | bad => rw [e1] at q; exact q.elim
  | ok d h1 =>
    rw [e1] at q
    have q : AftI t C.M (.iseq a) s σ H ((iterD d h1).bind fun l h => CC.R.ok (.tup l) h) Q := q
    intro v H1 ρ1 st R1 res
    have key : ∀ l, seqD d = some l → AftI t C.M (.iseq a) s σ H (CC.R.ok (.tup l) h1) Q → ∃ b a xs, v = .ref a ∧ SqX b X.K H1 a xs ∧ Q (ItSX b X.K a) H1 := fun l e2 q => by
      obtain ⟨b, ad, xs, S⟩ := src_of R res e2
      rw [cx.K]
      exact ⟨b, ad, xs, S.ref, S.sq, q _ H1 ρ1 st R1 (wk_seq S)⟩
    cases d with
    | lst l => exact key l rfl q
    | tup l => exact key l rfl q
    | ft l => exact key l rfl q
    | _ => exact q.elim
theorem s_fld (f : Nat) {a : E} (ia : Snd t G T k a) : Snd t G T k (.fld f a) := by
  refine .plain (fun C X ex cx h => ?_) (fun C ex h => ?_) (fun C es => rfl)
  · unfold chkE at h
    split at h
    · rename_i v x p
      simp only [Bool.and_eq_true, decide_eq_true_eq] at h
      refine (SlX.pe_sl (ia.pe C X v cx h.2) (base_of h.2 x X.env _)).imp fun σ H Q ⟨s, R, q⟩ => ?_
      refine ⟨s, R, ?_⟩
      have e0 : ev G (.fld f a) s.e s.h = (ev G a s.e s.h).bind fun x h => match x with
        | .ins c l => (match G.fix c f with | some i => (match l[i]? with | some d => .ok d h | none => .bad) | none => .bad)
        | _ => .bad := rfl
      rw [e0] at q
      cases e1 : ev G a s.e s.h with
      | bad => rw [e1] at q; exact q.elim
      | ok d h1 =>
        rw [e1] at q
        cases d with
        | ins c l =>
          have q : Aft t T C.M (.fld f a) s σ H (match G.fix c f with | some i => (match l[i]? with | some d => .ok d h1 | none => .bad) | none => .bad) Q := q
          cases e2 : G.fix c f with
          | none => rw [e2] at q; exact q.elim
          | some i =>
            rw [e2] at q
            have q : Aft t T C.M (.fld f a) s σ H (match l[i]? with | some d => .ok d h1 | none => .bad) Q := q
            cases e3 : l[i]? with
            | none => rw [e3] at q; exact q.elim
            | some d =>
              rw [e3] at q
              intro v H1 ρ1 st R1 res
              have rv : Rep t ρ1 (s.to ρ1 h1).L H1 v (.ins c l) := Res.see R res
              obtain ⟨h0, ad, dx, vs, ws, rfl, sl, hw, rs⟩ := rv.inst
              obtain ⟨u, eu, ru⟩ := rs.get e3
              have ch := cx.hc.all c h0
              obtain ⟨p', s1⟩ := ch.fd f x i h.1 e2
              rw [cx.K]
              exact ⟨ad, t.ca c, dx, p', vs, _, u, rfl, sl, ch.sc, s1, hw i u eu, q u H1 ρ1 st R1 (Res.of rfl ru)⟩
        | _ => exact q.elim
    · cases h
  · unfold chkE at h
    split at h
    · rfl
    · cases h
theorem no_cx0 {X : Cx} {E : XK} : ∀ (H : Hp) (s : Shared) (e : Value) (s' : Shared), CX0 X.stack H s E e s' → False := fun _ _ _ _ z => z
theorem s_prop (m : Nat) {a : E} (ia : Snd t G T k a) : Snd t G T k (.prop m a) := by
  refine .plain (fun C X ex cx h => ?_) (fun C ex h => ?_) (fun C es => rfl)
  · unfold chkE at h
    split at h
    · rename_i v x p
      simp only [Bool.and_eq_true, decide_eq_true_eq] at h
      refine pe_dep fun σ H Q ⟨s, R, q⟩ => ?_
      have e0 : ev G (.prop m a) s.e s.h = (ev G a s.e s.h).bind fun x h => propD G m x h := rfl
      rw [e0] at q
      cases e1 : ev G a s.e s.h with
      | bad => rw [e1] at q; exact q.elim
      | ok d h1 =>
        rw [e1] at q
        cases d with
        | ins c l =>
          have q : Aft t T C.M (.prop m a) s σ H (match G.prp c m with | some f => G.call f [.ins c l] h1 | none => .bad) Q := q
          cases e2 : G.prp c m with
          | none => rw [e2] at q; exact q.elim
          | some f =>
            rw [e2] at q
            have q : Aft t T C.M (.prop m a) s σ H (G.call f [.ins c l] h1) Q := q
            have ch := cx.hc.all c (cx.hc.gp c m f e2)
            obtain ⟨pa, g, np, w1, w2, w3, w4, w5, F⟩ := ch.pr m x f h.1 e2
            have sc := ch.sc
            have hK : t.K = X.K := cx.K.symm
            rw [hK] at w1 w2 w3 w4 sc F
            refine ⟨_, SlX.pe_propSl (E := fun _ _ _ => False) (ia.pe C X v cx h.2) sc w1 w2 w3 w4 F (cx.room.mono (by omega)) no_cx0 (base_of h.2 x X.env _), s, R, ?_⟩
            rw [e1]
            intro v H1 ρ1 st R1 res
            have rv : Rep t ρ1 (s.to ρ1 h1).L H1 v (.ins c l) := Res.see R res
            obtain ⟨_, ad, dx, vs, ws, rfl, sl, _, _⟩ := rv.inst
            refine ⟨ad, dx, vs, rfl, sl, ?_⟩
            refine call_go (s := s.to ρ1 h1) (s0 := s) (z := .prop m a) w5 R1 (.cons rv .nil) st rfl q fun ρ' h' v H' d r => ?_
            split at r
            · exact Res.of (s := s) rfl (FRep.rep R r)
            · exact Res.of (s := s) rfl r
        | _ => exact q.elim
    · cases h
  · unfold chkE at h
    split at h
    · rfl
    · cases h
theorem s_meth (m : Nat) {o as : E} (io : Snd t G T k o) (ia : Snd t G T k as) : Snd t G T k (.meth m o as) := by
  refine .plain (fun C X ex cx h => ?_) (fun C ex h => ?_) (fun C es => rfl)
  · unfold chkE at h
    split at h
    · rename_i v x ap es p
      simp only [Bool.and_eq_true, decide_eq_true_eq] at h
      obtain ⟨⟨⟨⟨h1, h2⟩, h3⟩, h4⟩, h5⟩ := h
      refine pe_dep fun σ H Q ⟨s, R, q⟩ => ?_
      have e0 : ev G (.meth m o as) s.e s.h = (ev G o s.e s.h).bind fun y h => (ev G as s.e h).bind fun x h => methD G m y (argsD x) h := rfl
      rw [e0] at q
      cases e1 : ev G o s.e s.h with
      | bad => rw [e1] at q; exact q.elim
      | ok d hh1 =>
        rw [e1] at q
        have q : Aft t T C.M (.meth m o as) s σ H ((ev G as s.e hh1).bind fun x h => methD G m d (argsD x) h) Q := q
        cases e3 : ev G as s.e hh1 with
        | bad => rw [e3] at q; exact q.elim
        | ok d2 hh2 =>
          rw [e3] at q
          obtain ⟨ds, rfl⟩ := args_tup h3 e3
          have q : Aft t T C.M (.meth m o as) s σ H (methD G m d ds hh2) Q := q
          cases d with
          | ins c l =>
            have q : Aft t T C.M (.meth m o as) s σ H (match G.mth c m with | some f => G.call f (.ins c l :: ds) hh2 | none => .bad) Q := q
            cases e2 : G.mth c m with
            | none => rw [e2] at q; exact q.elim
            | some f =>
              rw [e2] at q
              have q : Aft t T C.M (.meth m o as) s σ H (G.call f (.ins c l :: ds) hh2) Q := q
              have ch := cx.hc.all c (cx.hc.gm c m f e2)
              obtain ⟨g, np, w1, w5, F⟩ := ch.mt m x f h1 e2
              have sc := ch.sc
              have hK : t.K = X.K := cx.K.symm
              rw [hK] at w1 sc F
              have go : ∀ (ad : Addr) (H1 H2 : Hp) (ρ1 ρ2 : List Addr) (ws : List V), Stp s.ρ ρ1 H H1 → Rel t C.M (s.to ρ1 hh1) σ H1 → Rep t ρ1 (s.to ρ1 hh1).L H1 (.ref ad) (.ins c l) → Stp ρ1 ρ2 H1 H2 → Rel t C.M (s.to ρ2 hh2) σ H2 → Reps t ρ2 (s.to ρ2 hh2).L H2 ws ds →
                  spF t np (G.call f) (T.fr.getD f false) (.ref ad :: ws) H2 Q (fun _ _ _ => False) := fun ad H1 H2 ρ1 ρ2 ws st1 R1 rv st2 R2 rs => by
                have st2' : Stp (s.to ρ1 hh1).ρ ρ2 H1 H2 := st2
                have rv2 : Rep t ρ2 (s.to ρ2 hh2).L H2 (.ref ad) (.ins c l) := Rep.step (s := s.to ρ1 hh1) (h' := hh2) R1 st2' rv
                refine call_go (s := s.to ρ2 hh2) (s0 := s) (z := .meth m o as) w5 R2 (.cons rv2 rs) (st1.trans st2) rfl q fun ρ' h' v H' d r => ?_
                split at r
                · exact Res.of (s := s) rfl (FRep.rep R r)
                · exact Res.of (s := s) rfl r
              cases es with
              | nil =>
                refine ⟨_, SlX.pe_methSl0 (E := fun _ _ _ => False) (io.pe C X v cx h2) sc w1 F (cx.room.mono (by omega)) pass0 (meth_eq (base_of h2 x X.env _) (back_of h3 p X.env) h4 h5), s, R, ?_⟩
                rw [e1]
                intro u H1 ρ1 st R1 res
                have rv : Rep t ρ1 (s.to ρ1 hh1).L H1 u (.ins c l) := Res.see R res
                obtain ⟨_, ad, dx, vs, ws, rfl, sl, _, _⟩ := rv.inst
                refine ⟨ad, dx, vs, rfl, sl, ?_⟩
                have en : ds = [] ∧ hh2 = hh1 := by
                  cases as with
                  | nil =>
                    cases e3
                    exact ⟨rfl, rfl⟩
                  | _ => cases (show false = true from h3)
                obtain ⟨rfl, rfl⟩ := en
                exact go ad H1 H1 ρ1 ρ1 [] st R1 rv (Stp.refl _ _) R1 .nil
              | cons e es =>
                have n0 : ∀ v p, e ≠ .Starred v p := by
                  cases as with
                  | cons a r =>
                    unfold chkA at h3
                    simp only [Bool.and_eq_true] at h3
                    exact not_star h3.1.1
                  | _ => cases (show false = true from h3)
                have n1 : (backTo p (starEach es X.env)).any (·.1) = false := by
                  cases as with
                  | cons a r =>
                    unfold chkA at h3
                    simp only [Bool.and_eq_true] at h3
                    exact star_all es r h3.2
                  | _ => cases (show false = true from h3)
                refine ⟨_, SlX.pe_methSl (E := fun _ _ _ => False) (io.pe C X v cx h2) sc w1 F (cx.room.mono (by omega)) pass0 (ia.pa C X _ cx h3) (star_one n0) n1 (meth_eq (base_of h2 x X.env _) (back_of h3 p X.env) h4 h5), s, R, ?_⟩
                rw [e1]
                intro u H1 ρ1 st R1 res
                have rv : Rep t ρ1 (s.to ρ1 hh1).L H1 u (.ins c l) := Res.see R res
                obtain ⟨_, ad, dx, vs, ws, rfl, sl, _, _⟩ := rv.inst
                refine ⟨ad, dx, vs, rfl, sl, s.to ρ1 hh1, R1, ?_⟩
                show AftA t C.M (s.to ρ1 hh1) σ H1 (ev G as s.e hh1) _
                rw [e3]
                intro ws H2 ρ2 st2 R2 rs
                exact go ad H1 H2 ρ1 ρ2 ws st R1 rv st2 R2 rs
          | _ => exact q.elim
    · cases h
  · unfold chkE at h
    split at h
    · rfl
    · cases h
end
end CC

set_option Elab.async false
set_option linter.all false
set_option maxRecDepth 100000
set_option maxHeartbeats 1000000
/-! len, isinstance. -/
namespace CC
open PySem PySem.Spec PyProof.Rows L2

/-- len(x), x an own instance -/
def rLenO (X : Cx) (k : Nat) : List V → Hp → VK → Prop := fun xs H Q => ∃ a C dx vs g sp, xs = [V.ref a] ∧ SlX.Slt H a C dx vs ∧ PySem.W.findIn X.K (.ref C) "__len__" = some (some (.ref g)) ∧ PySem.W.isFn X.K (.ref g) = true ∧
  FnR X.prog X.w X.K X.mg X.base CX0 k g sp ∧ sp [V.ref a] H (fun z H' => ∃ i : Int, z = .int i ∧ 0 ≤ i ∧ i < 2 ^ 63 ∧ Q (.int i) H') (fun _ _ _ => False)
theorem cr_lenO {X : Cx} {k : Nat} (hr : Room (k + 1) X.A) : CallR X (.builtin "len") (rLenO X k) := by
  intro pins s σ H xs us Q I r h
  obtain ⟨a, C, dx, vs, g, sp, rfl, hsl, hs, hf, F, q⟩ := h
  rw [Vals.ref1 r]
  obtain ⟨sl, od, _, J, _⟩ := SlX.slt_inst I hsl
  obtain ⟨m, hF⟩ := I.fr
  refine PySem.W.len_K hF I.ok.mod.kin J hs hf ?_
  refine wpAny_mono (wpAny_call (SlX.run_at (ws := [V.ref a]) F hr.in1 I.env0.in1 pass0 I (.cons rfl .nil) q)) (fun u s' z => ?_) fun _ _ y => y
  obtain ⟨w, H', I', rw', i, rfl, h1, h2, q'⟩ := z
  obtain ⟨tk, e⟩ := (show ∃ t, u = Value.int i t from rw')
  subst e
  exact ⟨⟨h1, h2⟩, .int i, H', I'.tok _, ⟨_, rfl⟩, q'⟩
section
variable {t : Tx} {G : Pg} {T : Tab} {k : Nat}
theorem s_len {a : E} (ia : Snd t G T k a) : Snd t G T k (.len a) := by
  refine .plain (fun C X ex cx h => ?_) (fun C ex h => ?_) (fun C es => rfl)
  · unfold chkE at h
    split at h
    · rename_i x xp e p
      simp only [Bool.and_eq_true, decide_eq_true_eq] at h
      obtain ⟨⟨h1, h2⟩, h3⟩ := h
      subst h1
      have he : starEach [e] X.env = (false, eval e X.env) :: starEach [] X.env := star_one (not_star h3)
      refine (pe_callB (CallR.or call_len_seq (cr_lenO (k := k) (cx.room.mono (by omega)))) (gl_of cx h2) (cx.hy.blt _ (by decide)) (by decide +kernel) (pa_cons (ia.pe C X e cx h3) pa_nil he) (by decide) (by decide) he rfl).imp fun σ H Q ⟨s, R, q⟩ => ?_
      refine ⟨s, R, ?_⟩
      have e0 : ev G (.len a) s.e s.h = (ev G a s.e s.h).bind fun x h => lenD G x h := rfl
      rw [e0] at q
      cases e1 : ev G a s.e s.h with
      | bad => rw [e1] at q; exact q.elim
      | ok d h1 =>
        rw [e1] at q
        have q : Aft t T C.M (.len a) s σ H (lenD G d h1) Q := q
        intro v H1 ρ1 st R1 res
        have rv : VRep t ρ1 (s.to ρ1 h1).L H1 v d := Res.see R res
        unfold lenD at q
        have fin : ∀ n : Int, Aft t T C.M (.len a) s σ H (.ok (.int n) h1) Q → Q (.int n) H1 := fun n q => q _ H1 ρ1 st R1 (Res.any (.int n) fun _ z => nomatch z)
        split at q
        · rename_i l el
          obtain ⟨ad, xs, rfl, h1', rs⟩ := rv.seq (s := s.to ρ1 h1) R1 el
          refine .inl ⟨ad, xs, rfl, .inl (.inl (.inl h1')), ?_⟩
          rw [rs.length]
          exact fin _ q
        · rename_i l el
          obtain ⟨ad, xs, rfl, h1', rs⟩ := rv.seqT (s := s.to ρ1 h1) R1 el
          refine .inl ⟨ad, xs, rfl, .inr (by rw [cx.K]; exact h1'), ?_⟩
          rw [rs.length]
          exact fin _ q
        · rename_i c l el
          have ed : d = .ins c l := by
            cases d with
            | obj n =>
              have el : (match h1[n]? with | some (.lst l) => D.lst l | none => D.obj n) = .ins c l := el
              cases e9 : h1[n]? with
              | none =>
                rw [e9] at el
                cases el
              | some o =>
                cases o
                rw [e9] at el
                cases el
            | ft m => cases el
            | _ => exact el
          subst ed
          cases e2 : G.mth c mLen with
          | none =>
            have q : Aft t T C.M (.len a) s σ H ((match G.mth c mLen with | some f => G.call f [.ins c l] h1 | none => .bad).bind fun y h => (match y with | .int i => if 0 ≤ i ∧ i < 1000000 then .ok (.int i) h else .bad | _ => .bad)) Q := q
            rw [e2] at q
            exact q.elim
          | some f =>
            have q : Aft t T C.M (.len a) s σ H ((match G.mth c mLen with | some f => G.call f [.ins c l] h1 | none => .bad).bind fun y h => (match y with | .int i => if 0 ≤ i ∧ i < 1000000 then .ok (.int i) h else .bad | _ => .bad)) Q := q
            rw [e2] at q
            have q : Aft t T C.M (.len a) s σ H ((G.call f [.ins c l] h1).bind fun y h => (match y with | .int i => if 0 ≤ i ∧ i < 1000000 then .ok (.int i) h else .bad | _ => .bad)) Q := q
            have ch := cx.hc.all c (cx.hc.gm c mLen f e2)
            obtain ⟨g, np, w1, w5, F⟩ := ch.mt mLen _ f cx.hc.mn.1 e2
            have rv : Rep t ρ1 (s.to ρ1 h1).L H1 v (.ins c l) := rv
            obtain ⟨_, ad, dx, vs, ws, rfl, sl, _, _⟩ := rv.inst
            have hK : t.K = X.K := cx.K.symm
            rw [hK] at w1 F
            refine .inr ⟨ad, _, dx, vs, g, _, rfl, sl, w1.at_, w1.fn, F, ?_⟩
            have q2 : Aft t T C.M (.prop 0 a) s σ H (G.call f [.ins c l] h1) (fun z H' => ∃ i : Int, z = .int i ∧ 0 ≤ i ∧ i < 2 ^ 63 ∧ Q (.int i) H') := by
              cases e4 : G.call f [.ins c l] h1 with
              | bad => rw [e4] at q; exact q.elim
              | ok y h2 =>
                rw [e4] at q
                cases y with
                | int i =>
                  have q : Aft t T C.M (.len a) s σ H (if 0 ≤ i ∧ i < 1000000 then .ok (.int i) h2 else .bad) Q := q
                  split at q
                  · rename_i hi
                    intro w H2 ρ2 st2 R2 res2
                    have ew := int_of R res2
                    subst ew
                    exact ⟨i, rfl, hi.1, by omega, q _ H2 ρ2 st2 R2 (Res.any (.int i) fun _ z => nomatch z)⟩
                  · exact q.elim
                | _ => exact q.elim
            refine call_go (s := s.to ρ1 h1) (s0 := s) (z := .prop 0 a) w5 R1 (.cons rv .nil) st rfl q2 fun ρ' h' v H' d r => ?_
            split at r
            · exact Res.of (s := s) rfl (FRep.rep R r)
            · exact Res.of (s := s) rfl r
        · exact q.elim
    · cases h
  · unfold chkE at h
    split at h
    · rfl
    · cases h
end
/-! ### isinstance -/
def tyOf : D → String
  | .non => "NoneType"
  | .bl _ => "bool"
  | .int _ => "int"
  | .str _ => "str"
  | .tup _ => "tuple"
  | .ft _ => "tuple"
  | _ => "list"
def tyS : Ty → String
  | .int => "int" | .bool => "bool" | .tuple => "tuple" | .list => "list" | .str => "str" | .own _ => "int"
theorem kit_tab : ∀ a ∈ ["NoneType", "int", "bool", "tuple", "list", "str"], ∀ b ∈ ["int", "bool", "tuple", "list", "str"], kitB a b = some (a == b || (a == "bool" && b == "int")) := by decide +kernel
def rIsiTS (K : PySem.W.Frag) : List V → Hp → VK → Prop := fun xs H Q => ∃ (a C dx : Addr) (vs : List (Option V)) (tp : Addr) (cs : List V) (us : List Value) (b : Bool), xs = [V.ref a, .ref tp] ∧ H tp = some (.tup cs) ∧ Paired ClsV cs us ∧ SlX.Slt H a C dx vs ∧ SlX.SCls K C ∧ SlX.SIsi K C ∧ PySem.W.kitAny K (.ref C) us = some b ∧ Q (.bl b) H
theorem cr_isiTS {X : Cx} : CallR X (.builtin "isinstance") (rIsiTS X.K) := by
  intro pins s σ H xs us Q I r h
  obtain ⟨a, C, dx, vs, tp, cs, ws, b, rfl, hT, kc, hsl, hc, hi, hk, q⟩ := h
  obtain ⟨u1, u2, rfl, r1, r2⟩ := r.two
  cases (show u1 = Value.ref a from r1)
  cases (show u2 = Value.ref tp from r2)
  obtain ⟨sl, od, _, J, _⟩ := SlX.slt_inst I hsl
  obtain ⟨_, its, rv, o, h1, h2, n, h3⟩ := (show ObjOk X.prog X.w H s.heap tp (.tup cs) from I.hok tp _ hT)
  have e3 := ClsV.all kc rv
  subst e3
  obtain ⟨oc, od', dt, sl'⟩ := o
  simp only at h2 h3
  subst h2 h3
  exact PySem.W.kia_tup (OwX.kitx_slt hc.ic (hc.get _) hi.ca hi.cn hi.ct hi.cm) I.kIn J h1 hk (fun z => nomatch z) fun tk => ⟨.bl b, H, I.tok tk, rfl, q⟩
section
variable {t : Tx} {G : Pg} {T : Tab} {k : Nat}
/-- a value's type: a built-in's, or an own class -/
theorem ty_of {M : List Nat} {s : Sit} {σ : L2.St} {H : Hp} {v : V} {d : D} (R : Rel t M s σ H) (r : VRep t s.ρ s.L H v d) : (∃ c l, d = .ins c l) ∨ (TyX t.K H v (.type (tyOf d)) ∧ tyOf d ∈ ["NoneType", "int", "bool", "tuple", "list", "str"] ∧ (∀ ty, (∀ c, ty ≠ .own c) → isTy ty d = (tyOf d == tyS ty || (tyOf d == "bool" && tyS ty == "int"))) ∧ ∀ c, isTy (.own c) d = false) := by
  have fin : ∀ d : D, (∀ c l, d ≠ .ins c l) → (∀ l, d ≠ .dic l) → TyX t.K H v (.type (tyOf d)) → TyX t.K H v (.type (tyOf d)) ∧ tyOf d ∈ ["NoneType", "int", "bool", "tuple", "list", "str"] ∧ (∀ ty, (∀ c, ty ≠ .own c) → isTy ty d = (tyOf d == tyS ty || (tyOf d == "bool" && tyS ty == "int"))) ∧ ∀ c, isTy (.own c) d = false := by
    intro d n1 n2 h
    refine ⟨h, ?_, fun ty nt => ?_, fun c => ?_⟩
    · cases d <;> first | (exact absurd rfl (n1 _ _)) | (exact absurd rfl (n2 _)) | (simp [tyOf])
    · cases ty with
      | own c => exact absurd rfl (nt c)
      | _ => cases d <;> first | (exact absurd rfl (n1 _ _)) | (exact absurd rfl (n2 _)) | rfl | (simp [isTy, tyOf, tyS])
    · cases d <;> first | (exact absurd rfl (n1 _ _)) | rfl
  cases d with
  | non =>
    cases (show Rep t s.ρ s.L H v .non from r)
    exact .inr (fin .non (fun _ _ z => nomatch z) (fun _ z => nomatch z) (.base .non))
  | bl b =>
    cases (show Rep t s.ρ s.L H v (.bl b) from r)
    exact .inr (fin (.bl b) (fun _ _ z => nomatch z) (fun _ z => nomatch z) (.base (.bl b)))
  | int b =>
    cases (show Rep t s.ρ s.L H v (.int b) from r)
    exact .inr (fin (.int b) (fun _ _ z => nomatch z) (fun _ z => nomatch z) (.base (.int b)))
  | str b =>
    cases (show Rep t s.ρ s.L H v (.str b) from r)
    exact .inr (fin (.str b) (fun _ _ z => nomatch z) (fun _ z => nomatch z) (.base (.str b)))
  | tup l =>
    cases (show Rep t s.ρ s.L H v (.tup l) from r) with
    | tup q _ =>
      refine .inr (fin (.tup l) (fun _ _ z => nomatch z) (fun _ z => nomatch z) ?_)
      rcases q with (q | ⟨o, q⟩) | ⟨o, its, n, q1, q2, _⟩
      · exact .base (.tup q)
      · exact .fTuple q
      · exact .kTuple q1 q2
  | lst l =>
    obtain ⟨a, xs, rfl, h1, _⟩ := r
    exact .inr (fin (.lst l) (fun _ _ z => nomatch z) (fun _ z => nomatch z) (.base (.lst h1)))
  | frz l =>
    cases (show Rep t s.ρ s.L H v (.frz l) from r) with
    | frz q _ =>
      refine .inr (fin (.frz l) (fun _ _ z => nomatch z) (fun _ z => nomatch z) ?_)
      rcases q with ⟨o, q⟩ | (q | ⟨o, q⟩) | ⟨o, its, n, q1, q2, _⟩
      · exact .base (.frz q)
      · cases q
      · cases q
      · exact .kList q1 q2
  | obj n =>
    cases (show Rep t s.ρ s.L H v (.obj n) from r) with
    | obj q =>
      have hn : n < s.h.length := by
        rw [R.blen]
        exact (List.getElem?_eq_some_iff.mp q).1
      cases e : s.h[n] with
      | lst l =>
        obtain ⟨_, a, xs, e1, e2, _⟩ := R.box n l (by rw [List.getElem?_eq_getElem hn, e])
        rw [q] at e1
        cases e1
        exact .inr (fin (.obj n) (fun _ _ z => nomatch z) (fun _ z => nomatch z) (.base (.lst e2)))
  | ft l =>
    cases (show Rep t s.ρ s.L H v (.ft l) from r) with
    | ft q _ _ => exact .inr (fin (.ft l) (fun _ _ z => nomatch z) (fun _ z => nomatch z) (.fTuple q))
  | dic l => cases (show Rep t s.ρ s.L H v (.dic l) from r)
  | ins c l => exact .inl ⟨c, l, rfl⟩
/-- the class named in an isinstance -/
theorem isi_cls {C : Ctx} {X : Cx} (cx : CxOk t G T k C X) {ty : Ty} {y : Str} {p : Pos} (hg : glB C.sc y = true) (h : (match ty with | .own c => decide (T.cn[c]? = some y) && nmB y | ty => decide (y = tyN ty)) = true) :
    ∃ c u, PE X (.Name y p) (tC c) ∧ ClsV c u ∧ (∀ d, (∀ c l, d ≠ .ins c l) → tyOf d ∈ ["NoneType", "int", "bool", "tuple", "list", "str"] → (∀ ty, (∀ c, ty ≠ .own c) → isTy ty d = (tyOf d == tyS ty || (tyOf d == "bool" && tyS ty == "int"))) → (∀ c, isTy (.own c) d = false) → PySem.W.kitOne t.K (.type (tyOf d)) u = some (isTy ty d)) ∧
      ∀ c l, c < t.nc → PySem.W.kitOne t.K (.ref (t.ca c)) u = some (isTy ty (.ins c l)) := by
  have g := gl_of cx hg
  have blt : ∀ (n : String) (x : Str), x ∈ bltL → bootBuiltins x = some (.type n) → x ≠ "__name__" → (x == ("__debug__" : Str)) = false → Gl X x → PE X (.Name x p) (tC (.ty n)) := fun n x hx hb h1 h2 g => pe_bltn g (cx.hy.blt x hx) hb rfl h1 h2
  cases ty with
  | own c =>
    simp only [Bool.and_eq_true, decide_eq_true_eq] at h
    have n := nm_of h.2
    refine ⟨.ref (t.ca c), _, pe_glob g (cx.hc.nm c y h.1) rfl n.1, .own _, fun d _ hm _ hf => ?_, fun c' l hc' => cx.hc.is c' c y h.1 hc'⟩
    rw [hf c]
    exact cx.hc.no c y h.1 _ hm
  | int =>
    have e := of_decide_eq_true h
    subst e
    refine ⟨.ty "int", _, blt "int" "int" (by decide) (by decide +kernel) (by decide) (by decide) g, .ty _, fun d _ hm ht _ => ?_, fun c l hc => (cx.hc.all c hc).ty _ (by decide)⟩
    rw [ht .int fun _ z => nomatch z]
    exact kit_ty (kit_tab _ hm _ (by decide))
  | bool =>
    have e := of_decide_eq_true h
    subst e
    refine ⟨.ty "bool", _, blt "bool" "bool" (by decide) (by decide +kernel) (by decide) (by decide) g, .ty _, fun d _ hm ht _ => ?_, fun c l hc => (cx.hc.all c hc).ty _ (by decide)⟩
    rw [ht .bool fun _ z => nomatch z]
    exact kit_ty (kit_tab _ hm _ (by decide))
  | tuple =>
    have e := of_decide_eq_true h
    subst e
    refine ⟨.ty "tuple", _, blt "tuple" "tuple" (by decide) (by decide +kernel) (by decide) (by decide) g, .ty _, fun d _ hm ht _ => ?_, fun c l hc => (cx.hc.all c hc).ty _ (by decide)⟩
    rw [ht .tuple fun _ z => nomatch z]
    exact kit_ty (kit_tab _ hm _ (by decide))
  | list =>
    have e := of_decide_eq_true h
    subst e
    refine ⟨.ty "list", _, blt "list" "list" (by decide) (by decide +kernel) (by decide) (by decide) g, .ty _, fun d _ hm ht _ => ?_, fun c l hc => (cx.hc.all c hc).ty _ (by decide)⟩
    rw [ht .list fun _ z => nomatch z]
    exact kit_ty (kit_tab _ hm _ (by decide))
  | str =>
    have e := of_decide_eq_true h
    subst e
    refine ⟨.ty "str", _, blt "str" "str" (by decide) (by decide +kernel) (by decide) (by decide) g, .ty _, fun d _ hm ht _ => ?_, fun c l hc => (cx.hc.all c hc).ty _ (by decide)⟩
    rw [ht .str fun _ z => nomatch z]
    exact kit_ty (kit_tab _ hm _ (by decide))
theorem s_isi (ts : List Ty) {a : E} (ia : Snd t G T k a) : Snd t G T k (.isi a ts) := by
  refine .plain (fun C X ex cx h => ?_) (fun C ex h => ?_) (fun C es => rfl)
  · have e0 : ∀ e h, ev G (.isi a ts) e h = (ev G a e h).bind fun x h => .ok (.bl (ts.any fun t => isTy t x)) h := fun _ _ => rfl
    unfold chkE at h
    split at h
    · rename_i x xp e y yp p
      simp only [Bool.and_eq_true, decide_eq_true_eq] at h
      obtain ⟨⟨⟨⟨h1, h2⟩, h3⟩, h4⟩, h5⟩ := h
      subst h1
      have one : ∃ ty, ts = [ty] ∧ (match ty with | .own c => decide (T.cn[c]? = some y) && nmB y | ty => decide (y = tyN ty)) = true := by
        split at h5
        · exact ⟨_, rfl, h5⟩
        · rename_i ty nt
          refine ⟨ty, rfl, ?_⟩
          cases ty with
          | own c => exact absurd rfl (nt c)
          | _ => exact h5
        · cases h5
      obtain ⟨ty, rfl, h6⟩ := one
      obtain ⟨c, u, pc, kc, k1, k2⟩ := isi_cls (p := yp) cx h3 h6
      have he : starEach [e, .Name y yp] X.env = (false, eval e X.env) :: starEach [.Name y yp] X.env := star_one (not_star h4)
      refine (pe_callB (CallR.or call_isi (SlX.call_isiSl u)) (gl_of cx h2) (cx.hy.blt _ (by decide)) (by decide +kernel) (pa_cons (ia.pe C X e cx h4) (pa_cons pc pa_nil) he) (by decide) (by decide) he rfl).imp fun σ H Q ⟨s, R, q⟩ => ?_
      refine ⟨s, R, ?_⟩
      rw [e0] at q
      cases e1 : ev G a s.e s.h with
      | bad => rw [e1] at q; exact q.elim
      | ok d h1 =>
        rw [e1] at q
        intro v H1 ρ1 st R1 res
        have q := q (.bl ([ty].any fun t => isTy t d)) H1 ρ1 st R1 (Res.any (.bl _) fun _ z => nomatch z)
        have e9 : ([ty].any fun t => isTy t d) = isTy ty d := by simp
        rw [e9] at q
        have rv : VRep t ρ1 (s.to ρ1 h1).L H1 v d := Res.see R res
        rcases ty_of (s := s.to ρ1 h1) R1 rv with ⟨c', l, rfl⟩ | ⟨w1, w2, w3, w4⟩
        · have rv : Rep t ρ1 (s.to ρ1 h1).L H1 v (.ins c' l) := rv
          obtain ⟨h0, ad, dx, vs, ws, rfl, sl, _, _⟩ := rv.inst
          have ch := cx.hc.all c' h0
          have k2 := k2 c' l h0
          have sc := ch.sc
          have si := ch.si
          have hK : t.K = X.K := cx.K.symm
          rw [hK] at sc si k2
          exact .inr ⟨ad, _, dx, vs, c, _, rfl, by cases kc <;> rfl, fun w r => kc.eq r, sl, sc, si, k2, q⟩
        · have nd : ∀ c l, d ≠ .ins c l := fun c l z => by
            subst z
            cases ty with
            | own c' =>
              have := w3 .int fun _ z => nomatch z
              simp [isTy, tyOf, tyS] at this
              have := w3 .list fun _ z => nomatch z
              simp [isTy, tyOf, tyS] at this
            | _ =>
              have := w3 .list fun _ z => nomatch z
              simp [isTy, tyOf, tyS] at this
          refine .inl ⟨v, c, .type (tyOf d), u, _, rfl, kc, ?_, ?_, q⟩
          · rw [cx.K]
            exact w1
          · rw [cx.K]
            exact k1 d nd w2 w3 w4
    · rename_i x xp e y yp z zp ik tp p
      simp only [Bool.and_eq_true, decide_eq_true_eq] at h
      obtain ⟨⟨⟨⟨⟨h1, h2⟩, h3⟩, h3b⟩, h4⟩, h5⟩ := h
      subst h1
      split at h5
      · rename_i ty ty2
        simp only [Bool.and_eq_true, decide_eq_true_eq] at h5
        obtain ⟨⟨⟨h5, h6⟩, h7⟩, h8⟩ := h5
        have m1 : (match ty with | .own c => decide (T.cn[c]? = some y) && nmB y | ty => decide (y = tyN ty)) = true := by
          cases ty with
          | own c => exact absurd h5 h7
          | _ => exact decide_eq_true h5
        have m2 : (match ty2 with | .own c => decide (T.cn[c]? = some z) && nmB z | ty => decide (z = tyN ty)) = true := by
          cases ty2 with
          | own c => exact absurd h6 h8
          | _ => exact decide_eq_true h6
        obtain ⟨c, u, pc, kc, k1, k2⟩ := isi_cls (p := yp) cx h3 m1
        obtain ⟨c2, u2, pc2, kc2, k12, k22⟩ := isi_cls (p := zp) cx h3b m2
        have he : starEach [e, .Tuple [.Name y yp, .Name z zp] ik tp] X.env = (false, eval e X.env) :: starEach [.Tuple [.Name y yp, .Name z zp] ik tp] X.env := star_one (not_star h4)
        refine (pe_callB (CallR.or call_isiT cr_isiTS) (gl_of cx h2) (cx.hy.blt _ (by decide)) (by decide +kernel) (pa_cons (ia.pe C X e cx h4) (pa_cons (pe_tup (pa_cons pc (pa_cons pc2 pa_nil))) pa_nil) he) (by decide) (by decide) he rfl).imp fun σ H Q ⟨s, R, q⟩ => ?_
        refine ⟨s, R, ?_⟩
        rw [e0] at q
        cases e1 : ev G a s.e s.h with
        | bad => rw [e1] at q; exact q.elim
        | ok d h1 =>
          rw [e1] at q
          intro v H1 ρ1 st R1 res
          refine ⟨by show 2 ≤ sizeLine; decide, fun tpa hpa => ?_⟩
          have q := q (.bl ([ty, ty2].any fun t => isTy t d)) (upd H1 tpa (.tup [c, c2])) ρ1 (st.trans (Stp.laid hpa)) (R1.laid hpa) (Res.any (.bl _) fun _ z => nomatch z)
          have rv : VRep t ρ1 (s.to ρ1 h1).L H1 v d := Res.see R res
          have rv := VRep.step (s := s.to ρ1 h1) (h' := h1) R1 (Stp.laid (o := .tup [c, c2]) hpa) rv
          have R2 : Rel t C.M (s.to ρ1 h1) σ (upd H1 tpa (.tup [c, c2])) := R1.laid hpa
          have any2 : ∀ (K : PySem.W.Frag) (b1 b2 : Bool) (w : Value), PySem.W.kitOne K w u = some b1 → PySem.W.kitOne K w u2 = some b2 → PySem.W.kitAny K w [u, u2] = some (b1 || b2) := fun K b1 b2 w g1 g2 => by
            refine kitAny_cons g1 (fun hb => ?_) (fun hb => by rw [hb]; rfl)
            rw [hb]
            exact kitAny_cons g2 (fun hb => by rw [hb]; exact kitAny_nil) (fun hb => by rw [hb]; rfl)
          have e9 : ([ty, ty2].any fun t => isTy t d) = (isTy ty d || isTy ty2 d) := by simp
          rw [e9] at q
          rcases ty_of (s := s.to ρ1 h1) R2 rv with ⟨c', l, rfl⟩ | ⟨w1, w2, w3, w4⟩
          · have rv : Rep t ρ1 (s.to ρ1 h1).L (upd H1 tpa (.tup [c, c2])) v (.ins c' l) := rv
            obtain ⟨h0, ad, dx, vs, ws, rfl, sl, _, _⟩ := rv.inst
            have ch := cx.hc.all c' h0
            have k2 := any2 _ _ _ _ (k2 c' l h0) (k22 c' l h0)
            have sc := ch.sc
            have si := ch.si
            have hK : t.K = X.K := cx.K.symm
            rw [hK] at sc si k2
            exact .inr ⟨ad, _, dx, vs, tpa, _, _, _, rfl, upd_same, .cons kc (.cons kc2 .nil), sl, sc, si, k2, q⟩
          · have nd : ∀ c l, d ≠ .ins c l := fun c l z => by
              subst z
              have := w3 .list fun _ z => nomatch z
              simp [isTy, tyOf, tyS] at this
            refine .inl ⟨v, tpa, _, .type (tyOf d), _, _, rfl, upd_same, .cons kc (.cons kc2 .nil), ?_, ?_, q⟩
            · rw [cx.K]
              exact w1
            · rw [cx.K]
              exact any2 _ _ _ _ (k1 d nd w2 w3 w4) (k12 d nd w2 w3 w4)
      · cases h5
    · cases h
  · unfold chkE at h
    split at h
    · rfl
    · rfl
    · cases h
end
end CC

set_option Elab.async false
set_option linter.all false
set_option maxRecDepth 100000
set_option maxHeartbeats 1000000
/-! States across statements. -/
namespace CC
open PySem PySem.Spec PyProof.Rows L2

def updM (μ : Nat → Option Addr) (i : Nat) (p : Addr) : Nat → Option Addr := fun j => if j = i then some p else μ j
section
variable {t : Tx} {M : List Nat} {s : Sit} {σ : L2.St} {H H' : Hp} {ρ' : List Addr} {h' : Hb} {p : Addr} {xs : List V}
/-- a list that is new since a state is live behind it -/
theorem Rel.fresh (R : Rel t M s σ H) (st : Stp s.ρ ρ' H H') (R' : Rel t M (s.to ρ' h') σ H') (hp : H p = none) (hl : H' p = some (.lst xs)) (np : p ∉ ρ') : Rel t M ((s.to ρ' h').live p) σ H' := by
  have Ll : ∀ b, ((s.to ρ' h').live p).L b ↔ (s.to ρ' h').L b ∨ b = p := fun b => live_L (s.to ρ' h') p b
  have mvH : ∀ b o, H b = some o → ¬ s.L b → H' b = some o ∧ ¬ ((s.to ρ' h').live p).L b := fun b o e n => by
    obtain ⟨h1, h2⟩ := st.L (h' := h') R b o e n
    refine ⟨h1, fun z => ?_⟩
    rcases (Ll b).mp z with z | z
    · exact h2 z
    · exact ne_of_none e hp z
  refine ⟨R.len, fun i d e n => ?_, fun i d e n => ?_, R.inj, fun i a e => ?_, fun n l e => ?_, R'.blen, R'.bnd, fun a z => ?_, fun a z => ?_⟩
  · obtain ⟨v, e1, r⟩ := R.val i d e n
    exact ⟨v, e1, Rep.move (fun _ _ e => pre_get st.pre e) mvH st.fix d v r⟩
  · obtain ⟨a, e1, e2, r⟩ := R.own i d e n
    refine ⟨a, e1, e2, ?_⟩
    have na := (R.mfr i a e1).1
    cases d with
    | lst ds =>
      obtain ⟨ys, h1, h2⟩ := r
      exact ⟨ys, st.keep _ _ h1 na, Reps.move (fun _ _ e => pre_get st.pre e) mvH st.fix ds ys h2⟩
    | ins c ds =>
      obtain ⟨dx, vs, ws, h1, h2, h3, h4⟩ := r
      refine ⟨dx, vs, ws, ?_, h2, h3, Reps.move (fun _ _ e => pre_get st.pre e) mvH st.fix ds ws h4⟩
      rcases h1 with ⟨h1, q⟩ | ⟨h1, q⟩
      · exact .inl ⟨st.keep _ _ h1 na, q⟩
      · exact .inr ⟨st.keep _ _ h1 na, st.keep _ _ q (R.mfr dxI dx h2).1⟩
    | _ => exact r.elim
  · obtain ⟨h1, h2, h3⟩ := R'.mfr i a e
    refine ⟨h1, fun z => ?_, h3⟩
    rcases z with z | z
    · exact h2 z
    · rw [z] at e
      exact R.free hp (.inr (.inr ⟨i, e⟩))
  · obtain ⟨h1, a, ys, h2, h3, h4⟩ := R'.box n l e
    exact ⟨h1, a, ys, h2, h3, Reps.nl (fun b o e _ => e) l ys h1 h4⟩
  · rcases (Ll a).mp z with z | z
    · exact R'.lam a z
    · rw [z]
      exact ⟨_, hl, fun q => q⟩
  · rintro (y | y)
    · exact R'.lamb a z y
    · rw [y] at z
      exact np z
/-- a live list becomes the own list of a slot -/
theorem Rel.take {ds : List D} {i : Nat} {Lam' : Addr → Prop} (R : Rel t M s σ H) (hL : s.Lam p) (hi : i ∈ M) (hd : i ≠ dxI) (hl : H p = some (.lst xs)) (r : Reps t s.ρ s.L H xs ds) (hLam : ∀ a, Lam' a → s.Lam a ∧ a ≠ p) (hLam2 : ∀ a, s.Lam a → a ≠ p → Lam' a) :
    Rel t M ⟨Lam', s.ρ, updM s.μ i p, s.e.set i (some (.lst ds)), s.h⟩ (σ.set i (some (.ref p))) H := by
  have L' : ∀ b, (⟨Lam', s.ρ, updM s.μ i p, s.e.set i (some (.lst ds)), s.h⟩ : Sit).L b → s.L b := fun b z => by
    rcases z with z | z | ⟨j, z⟩
    · exact .inl (hLam b z).1
    · exact .inr (.inl z)
    · have z : updM s.μ i p j = some b := z
      unfold updM at z
      split at z
      · cases z
        exact .inl hL
      · exact .inr (.inr ⟨j, z⟩)
  refine ⟨?_, fun j d e n => ?_, fun j d e n => ?_, fun j k a h1 h2 => ?_, fun j a e => ?_, fun n l e => ?_, R.blen, R.bnd, fun a z => R.lam a (L' a z), fun a z y => R.lamb a z (hLam a y).1⟩
  · show (s.e.set i (some (.lst ds))).length = _
    rw [List.length_set, List.length_set]
    exact R.len
  · have hj : i ≠ j := fun z => n (z ▸ hi)
    have e : (s.e.set i (some (.lst ds)))[j]? = some (some d) := e
    rw [List.getElem?_set_ne hj] at e ⊢
    obtain ⟨v, e1, r⟩ := R.val j d e n
    exact ⟨v, e1, r.less L'⟩
  · have e : (s.e.set i (some (.lst ds)))[j]? = some (some d) := e
    by_cases hj : i = j
    · subst hj
      by_cases hlt : i < s.e.length
      · rw [List.getElem?_set_self hlt] at e
        cases e
        refine ⟨p, ?_, ?_, xs, hl, r.less L'⟩
        · show updM s.μ i p i = some p
          unfold updM
          rw [if_pos rfl]
        · rw [List.getElem?_set_self (by rw [← R.len]; exact hlt)]
      · rw [List.getElem?_eq_none (by rw [List.length_set]; omega)] at e
        cases e
    · rw [List.getElem?_set_ne hj] at e ⊢
      obtain ⟨a, e1, e2, r⟩ := R.own j d e n
      refine ⟨a, ?_, e2, ?_⟩
      · show updM s.μ i p j = some a
        unfold updM
        rw [if_neg (fun z => hj z.symm)]
        exact e1
      · cases d with
        | lst ds =>
          obtain ⟨ys, h1, h2⟩ := r
          exact ⟨ys, h1, h2.less L'⟩
        | ins c ds =>
          obtain ⟨dx, vs, ws, h1, h2, h3, h4⟩ := r
          refine ⟨dx, vs, ws, h1, ?_, h3, h4.less L'⟩
          show updM s.μ i p dxI = some dx
          unfold updM
          rw [if_neg (fun z => hd z.symm)]
          exact h2
        | _ => exact r.elim
  · have h1 : updM s.μ i p j = some a := h1
    have h2 : updM s.μ i p k = some a := h2
    unfold updM at h1 h2
    split at h1
    · cases h1
      split at h2
      · rename_i e1 _ e2
        exact e1.trans e2.symm
      · exact absurd hL (R.mfr k _ h2).2.1
    · split at h2
      · cases h2
        exact absurd hL (R.mfr j _ h1).2.1
      · exact R.inj j k a h1 h2
  · have e : updM s.μ i p j = some a := e
    unfold updM at e
    split at e
    · rename_i z
      cases e
      exact ⟨fun z => R.lamb _ z hL, fun z => (hLam _ z).2 rfl, z ▸ hi⟩
    · obtain ⟨h1, h2, h3⟩ := R.mfr j a e
      exact ⟨h1, fun z => h2 (hLam a z).1, h3⟩
  · obtain ⟨h1, a, ys, h2, h3, h4⟩ := R.box n l e
    exact ⟨h1, a, ys, h2, h3, h4.less L'⟩
/-- an own list is changed -/
theorem Rel.edit {ys : List V} {ds : List D} {d0 : D} {i : Nat} (R : Rel t M s σ H) (he : s.e[i]? = some (some d0)) (hi : s.μ i = some p) (hl : H p = some (.lst xs)) (r : Reps t s.ρ s.L H ys ds) : Rel t M (s.en (s.e.set i (some (.lst ds)))) σ (upd H p (.lst ys)) := by
  have pL : s.L p := .inr (.inr ⟨i, hi⟩)
  have iM := (R.mfr i p hi).2.2
  have mvH : ∀ b o, H b = some o → ¬ s.L b → upd H p (.lst ys) b = some o ∧ ¬ s.L b := fun b o e n => by
    refine ⟨?_, n⟩
    rw [upd_ne fun z => n (by rw [z]; exact pL)]
    exact e
  have mvT : ∀ b o, H b = some o → Fix o → upd H p (.lst ys) b = some o := fun b o e f => by
    rw [upd_ne fun z => by
      rw [z, hl] at e
      cases e
      exact f]
    exact e
  refine ⟨?_, fun j d e n => ?_, fun j d e n => ?_, R.inj, R.mfr, fun n l e => ?_, R.blen, R.bnd, fun a z => ?_, R.lamb⟩
  · show (s.e.set i (some (.lst ds))).length = _
    rw [List.length_set]
    exact R.len
  · have hj : i ≠ j := fun z => n (z ▸ iM)
    have e : (s.e.set i (some (.lst ds)))[j]? = some (some d) := e
    rw [List.getElem?_set_ne hj] at e
    obtain ⟨v, e1, r⟩ := R.val j d e n
    exact ⟨v, e1, Rep.move (fun _ _ e => e) mvH mvT d v r⟩
  · have e : (s.e.set i (some (.lst ds)))[j]? = some (some d) := e
    by_cases hj : i = j
    · subst hj
      by_cases hlt : i < s.e.length
      · rw [List.getElem?_set_self hlt] at e
        cases e
        obtain ⟨a, h1, h2, _⟩ := R.own i d0 he iM
        rw [hi] at h1
        cases h1
        exact ⟨p, hi, h2, ys, upd_same, Reps.move (fun _ _ e => e) mvH mvT ds ys r⟩
      · rw [List.getElem?_eq_none (by rw [List.length_set]; omega)] at e
        cases e
    · rw [List.getElem?_set_ne hj] at e
      obtain ⟨a, e1, e2, r⟩ := R.own j d e n
      have na : a ≠ p := fun z => hj (R.inj i j p hi (by rw [← z]; exact e1))
      refine ⟨a, e1, e2, ?_⟩
      cases d with
      | lst ds =>
        obtain ⟨zs, h1, h2⟩ := r
        exact ⟨zs, by rw [upd_ne na]; exact h1, Reps.move (fun _ _ e => e) mvH mvT ds zs h2⟩
      | ins c ds =>
        obtain ⟨dx, vs, ws, h1, h2, h3, h4⟩ := r
        refine ⟨dx, vs, ws, ?_, h2, h3, Reps.move (fun _ _ e => e) mvH mvT ds ws h4⟩
        rcases h1 with ⟨h1, q⟩ | ⟨h1, q⟩
        · exact .inl ⟨by rw [upd_ne na]; exact h1, q⟩
        · refine .inr ⟨by rw [upd_ne na]; exact h1, ?_⟩
          rw [upd_ne fun z => by
            rw [z, hl] at q
            cases q]
          exact q
      | _ => exact r.elim
  · obtain ⟨h1, a, zs, h2, h3, h4⟩ := R.box n l e
    have na : a ≠ p := fun z => (R.mfr i p hi).1 (by rw [← z]; exact List.mem_of_getElem? h2)
    exact ⟨h1, a, zs, h2, by rw [upd_ne na]; exact h3, Reps.move (fun _ _ e => e) mvH mvT l zs h4⟩
  · by_cases hz : a = p
    · rw [hz]
      exact ⟨_, upd_same, fun q => q⟩
    · obtain ⟨o, e, f⟩ := R.lam a z
      exact ⟨o, by rw [upd_ne hz]; exact e, f⟩
end
end CC

set_option Elab.async false
set_option linter.all false
set_option maxRecDepth 100000
set_option maxHeartbeats 1000000
/-! Statements: their check, their reading, the plain ones. -/
namespace CC
open PySem PySem.Spec PyProof.Rows L2

/-! ### name = [..] on one line -/
def swB (C : Ctx) (x : Str) (px : Pos) (v : Expr) : Bool := match v with
  | .ListComp .. => decide (C.sc.kind = .function)
  | _ => true
def SndC (t : Tx) (G : Pg) (T : Tab) (k : Nat) (x : E) : Prop := ∀ (C : Ctx) (X : Cx) (i : Nat) (y : Str) (py : Pos) (v : Expr) (pos : Pos), CxOk t G T k C X → chkE T x C v = true → swB C y py v = true → C.N[i]? = some y → locB C.sc y = true → locB C.raw y = true →
  PS X (.Assign [.Name y py] v pos) (tAsg (tE t G T C.M x) (gName i))
theorem _root_.L2.PS.imp {X : Cx} {st : Stmt} {t u : TS} (h : PS X st t) (k : ∀ D σ H, u D σ H → t D σ H) : PS X st u := ⟨fun pins s σ H D I q => h.run pins s σ H D I (k D σ H q)⟩
theorem _root_.L2.PSs.imp {X : Cx} {st : List Stmt} {t u : TS} (h : PSs X st t) (k : ∀ D σ H, u D σ H → t D σ H) : PSs X st u := ⟨fun pins s σ H D I q => h.run pins s σ H D I (k D σ H q)⟩
section
variable {t : Tx} {G : Pg} {T : Tab} {k : Nat}
theorem sc_plain {x : E} (hx : Snd t G T k x) (hn : ∀ C el gs scope p, chkE T x C (.ListComp el gs scope p) = false) : SndC t G T k x := by
  intro C X i y py v pos cx h hs h1 h2 h3
  have hsw : swapsWith v (some (.Name y py)) pos.line X.env = pure false := by
    cases v with
    | ListComp el gs scope p =>
      rw [hn] at h
      cases h
    | SetComp el gs scope p =>
      have : chkE T x C (.SetComp el gs scope p) = false := by cases x <;> rfl
      rw [this] at h
      cases h
    | DictComp el gs scope p q =>
      have : chkE T x C (.DictComp el gs scope p q) = false := by cases x <;> rfl
      rw [this] at h
      cases h
    | _ => rfl
  exact ps_set (nd_of cx) (N_of cx h1) (loc_of cx h2) (hx.pe C X v cx h) hsw (fn_of' cx h3)
theorem sw_of {C : Ctx} {X : Cx} (cx : CxOk t G T k C X) {y : Str} {py pos p : Pos} {el : Expr} {gs : List Comprehension} {scope : Scope} (hs : swB C y py (.ListComp el gs scope p) = true) :
    (X.env.scope.names.lookup y = some .local ∧ swapsWith (.ListComp el gs scope p) (some (.Name y py)) pos.line X.env = pure true) ∨ swapsWith (.ListComp el gs scope p) (some (.Name y py)) pos.line X.env = pure false := by
  have hk : X.env.scope.kind = .function := by
    rw [cx.sc]
    exact of_decide_eq_true hs
  have hb : X.env.blockKind = .function := by
    unfold Env.blockKind
    rw [hk]
    rfl
  have e : swapsWith (.ListComp el gs scope p) (some (.Name y py)) pos.line X.env = pure (X.env.kindOf y == some .local && py.line == p.line && !(scope.names.any fun (n, k) => n == y && (k == .local || k == .cell))) := by
    unfold swapsWith
    simp only [hb, Expr.pos]
    rfl
  cases q : (X.env.kindOf y == some .local && py.line == p.line && !(scope.names.any fun (n, k) => n == y && (k == .local || k == .cell))) with
  | true =>
    rw [q] at e
    simp only [Bool.and_eq_true] at q
    exact .inl ⟨eq_of_beq q.1.1, e⟩
  | false =>
    rw [q] at e
    exact .inr e
theorem sc_comp {tg : CC.T} {own : List Nat} {it ifs elt : E} (ii : SndI t G T k it) (if_ : Snd t G T k ifs) (ie : Snd t G T k elt) : SndC t G T k (.comp tg own it ifs elt) := by
  intro C X i y py v pos cx h hs h1 h2 h3
  have h0 := h
  unfold chkE at h0
  split at h0
  · obtain ⟨rfl, wi, g, tt, te, w1, w2, w3, w4, w5, w6, w7⟩ := comp_prem cx ii if_ ie h
    rcases sw_of cx (pos := pos) hs with ⟨z1, z2⟩ | z
    · exact (ps_setLc cx.calm (nd_of cx) (N_of cx h1) z1 z2 w1 w2 w3 w4 w5 w6).imp fun D σ H q => w7 σ H _ q
    · exact ps_set (nd_of cx) (N_of cx h1) (loc_of cx h2) ((s_comp ii if_ ie).pe C X _ cx h) z (fn_of' cx h3)
  · cases h0
theorem sc_comp2 {tg tg1 : CC.T} {own own1 : List Nat} {it it1 ifs1 elt : E} (ii : SndI t G T k it) (ii1 : SndI t G T k it1) (if_ : Snd t G T k ifs1) (ie : Snd t G T k elt) : SndC t G T k (.comp2 tg tg1 own own1 it it1 ifs1 elt) := by
  intro C X i y py v pos cx h hs h1 h2 h3
  have h0 := h
  unfold chkE at h0
  split at h0
  · obtain ⟨rfl, rfl, wi, g, wi1, g1, tt, te, w1, w2, w3, w4, w5, w6, w7, w8, w9, w10, w11⟩ := comp2_prem cx ii ii1 if_ ie h
    rcases sw_of cx (pos := pos) hs with ⟨z1, z2⟩ | z
    rotate_left
    · exact ps_set (nd_of cx) (N_of cx h1) (loc_of cx h2) ((s_comp2 ii ii1 if_ ie).pe C X _ cx h) z (fn_of' cx h3)
    exact (ps_setLc2 cx.calm (nd_of cx) (N_of cx h1) z1 z2 w1 w2 w3 w4 (fun _ _ _ _ _ => pts_nil) w5 w6 w7 w8 w9 w10).imp fun D σ H q => w11 σ H _ q
  · cases h0
end

/-! ### the check -/
def nmS (C : Ctx) (i : Nat) (x : Str) : Bool := decide (C.N[i]? = some x) && locB C.sc x && locB C.raw x
def notTup : Expr → Bool
  | .Tuple .. => false
  | .ListComp .. => false
  | _ => true
def notC : Expr → Bool
  | .ListComp .. => false
  | _ => true
def parB (C : Ctx) (i : Nat) (m : Bool) (T : Tab) (a : E) : Bool := (m == C.M.contains i) && decide (i ≠ dxI ∧ i ≠ 0) && (if m then fr T a else true)
def notSeq : S → Bool
  | .seq _ _ => false
  | _ => true
def isCst : E → Bool
  | .cst _ => true
  | _ => false
def chkB (T : Tab) (fresh ini : Bool) : S → Ctx → List Stmt → Bool
  | .bad, _, _ => true
  | .skip, _, sts => match sts with
    | [] => true
    | [.Pass _] => true
    | _ => false
  | .seq a b, C, sts => match sts with
    | st :: rest => notSeq a && chkB T fresh ini a C [st] && chkB T fresh ini b C rest
    | [] => false
  | .set i a, C, st => match st with
    | [.Assign [.Name x px] v _] => nmS C i x && !C.M.contains i && chkE T a C v && !bor a && swB C x px v
    | _ => false
  | .setM i a, C, st => match st with
    | [.Assign [.Name x px] v _] => nmS C i x && C.M.contains i && decide (i ≠ dxI ∧ i ≠ 0) && chkE T a C v && fr T a && swB C x px v
    | _ => false
  | .setB i a, C, st => match st with
    | [.Assign [.Name x px] v _] => nmS C i x && !C.M.contains i && chkE T a C v && fr T a && swB C x px v
    | _ => false
  | .unp l a, C, st => match st with
    | [.Assign [.Tuple ts _ _] v _] => tgsB C l ts && chkE T a C v && !bor a && notTup v
    | _ => false
  | .par i j mi mj a b, C, st => match st with
    | [.Assign [.Tuple [.Name x px, .Name y py] _ _] (.Tuple [ea, eb] _ _) _] => decide (C.N[i]? = some x) && decide (C.N[j]? = some y) && decide (i ≠ j) && decide (x ≠ y) && decide (C.sc.names.lookup x = some .local) && decide (C.sc.names.lookup y = some .local) &&
        decide (C.sc.kind = .function) && (py.line == px.line) && chkE T a C ea && chkE T b C eb && !bor a && !bor b && parB C i mi T a && parB C j mj T b && !(constantsAlone 8 ea && constantsAlone 8 eb) && !(foldedForSure 8 ea && foldedForSure 8 eb)
    | _ => false
  | .app i a, C, st => match st with
    | [.Expr (.Call (.Attribute (.Name x px) m ap) [e] [] p) _] => decide (m = "append") && chkE T (.mvar i) C (.Name x px) && chkE T a C e && !bor a && (ap.endLine == p.line)
    | _ => false
  | .ixs i ix a, C, st => match st with
    | [.Assign [.Subscript (.Name x px) ei _] v _] => chkE T (.mvar i) C (.Name x px) && chkE T ix C ei && chkE T a C v && !bor a && notTup v
    | _ => false
  | .ixa i ix a, C, st => match st with
    | [.AugAssign (.Subscript (.Name x px) ei _) .Add v _] => chkE T (.mvar i) C (.Name x px) && chkE T ix C ei && chkE T a C v
    | _ => false
  | .aug i op a, C, st => match st with
    | [.AugAssign (.Name x _) o v _] => nmS C i x && !C.M.contains i && chkE T a C v && (match op, o with | .add, .Add => true | .sub, .Sub => true | _, _ => false)
    | _ => false
  | .ift c a b, C, st => match st with
    | [.If e p q _] => chkE T c C e && notIf e && chkB T fresh ini a C p && chkB T fresh ini b C q
    | _ => false
  | .for_ tg it b, C, st => match st with
    | [.For tg' it' body [] _] => chkI T it C it' tg' && !borI it && tgB C tg tg' && chkB T fresh ini b C body
    | _ => false
  | .ret a, C, st => match st with
    | [.Return (some e) _] => !ini && (match a with
      | .mvar i => chkE T (.mvar i) C e
      | a => chkE T a { C with M := [] } e && (!fresh || fr T a || isCst a))
    | _ => false
  | .exp a, C, st => match st with
    | [.Expr e _] => chkE T a C e && notC e
    | _ => false
  | .sfld c j a, C, st => match st with
    | [.Assign [.Attribute (.Name x _) f _] v _] => ini && decide (C.N[(0 : Nat)]? = some x) && visB C.sc x && nmB x && C.M.contains 0 && C.M.contains dxI && chkE T a C v && !bor a && notC v && decide ((T.fs.getD c []).getD j "" = f) && decide (j < (T.fs.getD c []).length)
    | _ => false
  | _, _, _ => false
end CC

set_option Elab.async false
set_option linter.all false
set_option maxRecDepth 100000
set_option maxHeartbeats 1000000
/-! The plain statements are sound. -/
namespace CC
open PySem PySem.Spec PyProof.Rows L2

structure Gd (t : Tx) (ini : Option Addr) (M : List Nat) (B : Hp) (ρ0 : List Addr) (Lam0 : Addr → Prop) (s : Sit) (σ : L2.St) (H : Hp) : Prop where
  lam : s.Lam = Lam0
  rel : Rel t M s σ H
  stp : Stp ρ0 s.ρ B H
  new : ∀ i a, s.μ i = some a → B a = none
  lst : ini.isSome = false → ∀ i d, s.e[i]? = some (some d) → i ∈ M → ∃ l, d = .lst l
  slf : ∀ x, ini = some x → s.μ 0 = some x
def OutR (t : Tx) (fresh : Bool) (B : Hp) (Lam0 : Addr → Prop) (ρ' : List Addr) (H' : Hp) (v : V) (d : D) : Prop :=
  if fresh then FRep t ρ' (fun a => Lam0 a ∨ a ∈ ρ') B H' v d else Rep t ρ' (fun a => Lam0 a ∨ a ∈ ρ') H' v d
def AftS (t : Tx) (fresh : Bool) (ini : Option Addr) (M : List Nat) (B : Hp) (ρ0 : List Addr) (Lam0 : Addr → Prop) (r : RS) (D : Ends) : Prop := match r with
  | .next e h => ∀ s σ' H', Gd t ini M B ρ0 Lam0 s σ' H' → s.e = e → s.h = h → D.nx σ' H'
  | .brk e h => ∀ s σ' H', Gd t ini M B ρ0 Lam0 s σ' H' → s.e = e → s.h = h → D.bk σ' H'
  | .cnt e h => ∀ s σ' H', Gd t ini M B ρ0 Lam0 s σ' H' → s.e = e → s.h = h → D.ct σ' H'
  | .ret d h => ∀ v H' ρ', Stp ρ0 ρ' B H' → Boxes t ρ' (fun a => Lam0 a ∨ a ∈ ρ') H' h → h.length = ρ'.length → ρ'.Nodup → OutR t fresh B Lam0 ρ' H' v d → D.rt v H'
  | .bad => False
def tS (t : Tx) (G : Pg) (fresh : Bool) (ini : Option Addr) (M : List Nat) (B : Hp) (ρ0 : List Addr) (Lam0 : Addr → Prop) (x : S) : TS := fun D σ H => ∃ s : Sit, Gd t ini M B ρ0 Lam0 s σ H ∧ AftS t fresh ini M B ρ0 Lam0 (exc G x s.e s.h) D
structure SndS (t : Tx) (G : Pg) (T : Tab) (k : Nat) (x : S) : Prop where
  one : ∀ fresh ini B ρ0 Lam0 C X st, CxOk t G T k C X → PassesOwn (model X.prog X.w) X.A X.env X.xe → notSeq x = true → chkB T fresh (Option.isSome ini) x C [st] = true → PS X st (tS t G fresh ini C.M B ρ0 Lam0 x)
  blk : ∀ fresh ini B ρ0 Lam0 C X sts, CxOk t G T k C X → PassesOwn (model X.prog X.w) X.A X.env X.xe → chkB T fresh (Option.isSome ini) x C sts = true → PSs X sts (tS t G fresh ini C.M B ρ0 Lam0 x)
section
variable {t : Tx} {G : Pg} {T : Tab} {k : Nat}
theorem SndS.of {x : S} (h1 : ∀ fresh ini C sts, chkB T fresh ini x C sts = true → ∃ st, sts = [st])
    (h : ∀ fresh ini B ρ0 Lam0 C X st, CxOk t G T k C X → PassesOwn (model X.prog X.w) X.A X.env X.xe → chkB T fresh (Option.isSome ini) x C [st] = true → PS X st (tS t G fresh ini C.M B ρ0 Lam0 x)) : SndS t G T k x where
  one := fun fresh ini B ρ0 Lam0 C X st cx hp _ hc => h fresh ini B ρ0 Lam0 C X st cx hp hc
  blk := fun fresh ini B ρ0 Lam0 C X sts cx hp hc => by
    obtain ⟨st, rfl⟩ := h1 fresh ini.isSome C sts hc
    exact pss_one (h fresh ini B ρ0 Lam0 C X st cx hp hc)
section
variable {fresh : Bool} {ini : Option Addr} {M : List Nat} {B : Hp} {ρ0 : List Addr} {Lam0 : Addr → Prop} {s : Sit} {σ : L2.St} {H H' : Hp} {ρ' : List Addr} {h' : Hb}
theorem Gd.step (g : Gd t ini M B ρ0 Lam0 s σ H) (st : Stp s.ρ ρ' H H') (R : Rel t M (s.to ρ' h') σ H') : Gd t ini M B ρ0 Lam0 (s.to ρ' h') σ H' :=
  ⟨g.lam, R, g.stp.trans st, g.new, g.lst, g.slf⟩
theorem Gd.put {i : Nat} {v : V} {d : D} (g : Gd t ini M B ρ0 Lam0 s σ H) (hi : i ∉ M) (r : Rep t s.ρ s.L H v d) : Gd t ini M B ρ0 Lam0 (s.en (s.e.set i (some d))) (σ.set i (some v)) H :=
  ⟨g.lam, g.rel.put hi r, g.stp, g.new, fun hn j x e m => by
    have e : (s.e.set i (some d))[j]? = some (some x) := e
    have hj : i ≠ j := fun z => hi (z ▸ m)
    rw [List.getElem?_set_ne hj] at e
    exact g.lst hn j x e m, g.slf⟩
/-- a new list is the slot's own -/
theorem Gd.own {i : Nat} {p : Addr} {xs : List V} {ds : List D} (g : Gd t ini M B ρ0 Lam0 s σ H) (st : Stp s.ρ ρ' H H') (R : Rel t M (s.to ρ' h') σ H') (hi : i ∈ M) (hd : i ≠ dxI ∧ i ≠ 0) (hp : H p = none) (hl : H' p = some (.lst xs)) (np : p ∉ ρ') (r : Reps t ρ' (fun b => (s.to ρ' h').L b ∨ b = p) H' xs ds) :
    Gd t ini M B ρ0 Lam0 ⟨Lam0, ρ', updM s.μ i p, s.e.set i (some (.lst ds)), h'⟩ (σ.set i (some (.ref p))) H' := by
  have Rf := g.rel.fresh st R hp hl np
  have nl : ¬ Lam0 p := fun z => by
    rw [← g.lam] at z
    exact g.rel.free hp (.inl z)
  refine ⟨rfl, Rf.take (s := (s.to ρ' h').live p) (.inr rfl) hi hd.1 hl (r.less fun b z => (live_L (s.to ρ' h') p b).mp z) (fun a z => ⟨.inl (by rw [← g.lam] at z; exact z), fun y => nl (y ▸ z)⟩) (fun a z n => ?_), g.stp.trans st, fun j a e => ?_, fun hn j x e m => ?_, fun x e => by
    show updM s.μ i p 0 = some x
    unfold updM
    rw [if_neg fun z => hd.2 z.symm]
    exact g.slf x e⟩
  · rcases z with z | z
    · have z : s.Lam a := z
      rw [g.lam] at z
      exact z
    · exact absurd z n
  · have e : updM s.μ i p j = some a := e
    unfold updM at e
    split at e
    · cases e
      exact g.stp.free hp
    · exact g.new j a e
  · have e : (s.e.set i (some (.lst ds)))[j]? = some (some x) := e
    by_cases hj : i = j
    · subst hj
      by_cases hlt : i < s.e.length
      · rw [List.getElem?_set_self hlt] at e
        cases e
        exact ⟨_, rfl⟩
      · rw [List.getElem?_eq_none (by rw [List.length_set]; omega)] at e
        cases e
    · rw [List.getElem?_set_ne hj] at e
      exact g.lst hn j x e m
end
theorem fold_other : ∀ (l : List Nat) (ds : List D) (e : En) (j : Nat), j ∉ l → ((l.zip ds).foldl (fun e p => e.set p.1 (some p.2)) e)[j]? = e[j]?
  | [], _, _, _, _ => rfl
  | _ :: _, [], _, _, _ => rfl
  | i :: l, d :: ds, e, j, h => by
    show ((l.zip ds).foldl (fun e p => e.set p.1 (some p.2)) (e.set i (some d)))[j]? = _
    rw [fold_other l ds _ j (fun z => h (List.mem_cons_of_mem _ z)), List.getElem?_set_ne (fun z => h (by rw [z]; exact List.mem_cons_self))]
theorem put_other {tg : CC.T} {d : D} {e e' : En} {j : Nat} (h : putT tg d e = some e') (hj : j ∉ tgL tg) : e'[j]? = e[j]? := by
  cases tg with
  | one i =>
    cases h
    exact List.getElem?_set_ne fun z => hj (by simp [tgL, z])
  | many l =>
    cases d with
    | tup ds =>
      have h : (if ds.length = l.length then some ((l.zip ds).foldl (fun e p => e.set p.1 (some p.2)) e) else none) = some e' := h
      split at h
      · cases h
        exact fold_other l ds e j hj
      · cases h
    | _ => cases h
theorem ss_skip : SndS t G T k .skip where
  one := fun fresh ini B ρ0 Lam0 C X st cx hp _ h => by
    cases st with
    | Pass p => exact ps_pass.imp fun D σ H ⟨s, g, q⟩ => q s σ H g rfl rfl
    | _ => cases (show false = true from h)
  blk := fun fresh ini B ρ0 Lam0 C X sts cx hp h => by
    have key : ∀ D σ H, tS t G fresh ini C.M B ρ0 Lam0 .skip D σ H → tNext D σ H := fun D σ H ⟨s, g, q⟩ => q s σ H g rfl rfl
    unfold chkB at h
    split at h
    · exact pss_nil.imp key
    · exact (pss_one ps_pass).imp key
    · cases h
theorem ss_bad : SndS t G T k .bad where
  one := fun fresh ini B ρ0 Lam0 C X st cx hp _ h => ps_never.imp fun D σ H ⟨s, g, q⟩ => q.elim
  blk := fun fresh ini B ρ0 Lam0 C X sts cx hp h => pss_never.imp fun D σ H ⟨s, g, q⟩ => q.elim
theorem ss_seq {a b : S} (ia : SndS t G T k a) (ib : SndS t G T k b) : SndS t G T k (.seq a b) where
  one := fun fresh ini B ρ0 Lam0 C X st cx hp z h => absurd z Bool.false_ne_true
  blk := fun fresh ini B ρ0 Lam0 C X sts cx hp h => by
    unfold chkB at h
    split at h
    · rename_i st rest
      simp only [Bool.and_eq_true] at h
      refine (pss_cons (ia.one fresh ini B ρ0 Lam0 C X st cx hp h.1.1 h.1.2) (ib.blk fresh ini B ρ0 Lam0 C X rest cx hp h.2)).imp fun D σ H ⟨s, g, q⟩ => ⟨s, g, ?_⟩
      have e0 : exc G (.seq a b) s.e s.h = (exc G a s.e s.h).thn fun e h => exc G b e h := rfl
      rw [e0] at q
      cases e1 : exc G a s.e s.h with
      | next e h =>
        rw [e1] at q
        intro s' σ' H' g' he hh
        refine ⟨s', g', ?_⟩
        rw [he, hh]
        exact q
      | ret d h => rw [e1] at q; exact q
      | brk e h => rw [e1] at q; exact q
      | cnt e h => rw [e1] at q; exact q
      | bad => rw [e1] at q; exact q.elim
    · cases h
theorem ss_set (i : Nat) {a : E} (ia : Snd t G T k a) (ic : SndC t G T k a) : SndS t G T k (.set i a) := by
  refine .of (fun fresh ini C sts h => ?_) fun fresh ini B ρ0 Lam0 C X st cx hp h => ?_
  · unfold chkB at h
    split at h
    · exact ⟨_, rfl⟩
    · cases h
  · unfold chkB at h
    split at h
    · rename_i x px v pos el
      cases el
      unfold nmS at h
      simp only [Bool.and_eq_true, decide_eq_true_eq, Bool.not_eq_true'] at h
      obtain ⟨⟨⟨⟨⟨⟨h1, h2⟩, h3⟩, h4⟩, h5⟩, h6⟩, h7⟩ := h
      refine (ic C X i x px v pos cx h5 h7 h1 h2 h3).imp fun D σ H ⟨s, g, q⟩ => ⟨s, g.rel, ?_⟩
      have e0 : exc G (.set i a) s.e s.h = (ev G a s.e s.h).thn fun d h => .next (putN i d s.e) h := rfl
      rw [e0] at q
      cases e1 : ev G a s.e s.h with
      | bad => rw [e1] at q; exact q.elim
      | ok d h1 =>
        rw [e1] at q
        intro w H1 ρ1 st R1 res
        exact q _ _ H1 ((g.step st R1).put (by simpa using h4) (Res.rep h6 g.rel res)) rfl rfl
    · cases h
theorem ss_setM (i : Nat) {a : E} (ia : Snd t G T k a) (ic : SndC t G T k a) : SndS t G T k (.setM i a) := by
  refine .of (fun fresh ini C sts h => ?_) fun fresh ini B ρ0 Lam0 C X st cx hp h => ?_
  · unfold chkB at h
    split at h
    · exact ⟨_, rfl⟩
    · cases h
  · unfold chkB at h
    split at h
    · rename_i x px v pos el
      cases el
      unfold nmS at h
      simp only [Bool.and_eq_true, decide_eq_true_eq] at h
      obtain ⟨⟨⟨⟨⟨⟨⟨h1, h2⟩, h3⟩, h4⟩, h4b⟩, h5⟩, h6⟩, h7⟩ := h
      refine (ic C X i x px v pos cx h5 h7 h1 h2 h3).imp fun D σ H ⟨s, g, q⟩ => ⟨s, g.rel, ?_⟩
      have e0 : exc G (.setM i a) s.e s.h = (ev G a s.e s.h).thn fun d h => match d with | .lst l => .next (putN i (.lst l) s.e) h | _ => .bad := rfl
      rw [e0] at q
      cases e1 : ev G a s.e s.h with
      | bad => rw [e1] at q; exact q.elim
      | ok d h1 =>
        rw [e1] at q
        cases d with
        | lst l =>
          intro w H1 ρ1 st R1 res
          unfold Res at res
          rw [if_pos h6] at res
          obtain ⟨p, xs, rfl, w1, w2, w3, w4⟩ := res
          exact q _ _ H1 (g.own st R1 (by simpa using h4) h4b w1 w2 w3 w4) rfl rfl
        | _ => exact q.elim
    · cases h
theorem ss_unp (l : List Nat) {a : E} (ia : Snd t G T k a) : SndS t G T k (.unp l a) := by
  refine .of (fun fresh ini C sts h => ?_) fun fresh ini B ρ0 Lam0 C X st cx hp h => ?_
  · unfold chkB at h
    split at h
    · exact ⟨_, rfl⟩
    · cases h
  · unfold chkB at h
    split at h
    · rename_i ts kt pt v pos el
      cases el
      simp only [Bool.and_eq_true, Bool.not_eq_true'] at h
      obtain ⟨⟨⟨h1, h2⟩, h3⟩, h4⟩ := h
      have hs : swapsWithSole [.Tuple ts kt pt] v pos.line X.env = pure false := by
        cases v <;> rfl
      have hw : swappedStores [.Tuple ts kt pt] v X.env = pure none := by
        cases v <;> first | rfl | (cases h4)
      refine (ps_asg (ia.pe C X v cx h2) (pg_of cx (.many l) (.Tuple ts kt pt) h1) hs hw).imp fun D σ H ⟨s, g, q⟩ => ⟨s, g.rel, ?_⟩
      have e0 : exc G (.unp l a) s.e s.h = (ev G a s.e s.h).thn fun d h => match putT (.many l) d s.e with | some e => .next e h | none => .bad := rfl
      rw [e0] at q
      cases e1 : ev G a s.e s.h with
      | bad => rw [e1] at q; exact q.elim
      | ok d h1' =>
        rw [e1] at q
        have q : AftS t fresh ini C.M B ρ0 Lam0 (match putT (.many l) d s.e with | some e => .next e h1' | none => .bad) D := q
        intro w H1 ρ1 st R1 res
        cases e2 : putT (.many l) d s.e with
        | none => rw [e2] at q; exact q.elim
        | some e' =>
          rw [e2] at q
          have hM := tgs_M (C := C) l ts h1
          rw [cx.K]
          refine tg_go (tg := .many l) (s := s.to ρ1 h1') R1 hM (Res.rep h3 g.rel res) e2 fun σ' R' hl hj => ?_
          refine q ((s.to ρ1 h1').en e') σ' H1 ⟨g.lam, R', g.stp.trans st, g.new, fun hn j x e m => ?_, g.slf⟩ rfl rfl
          have e : e'[j]? = some (some x) := e
          rw [put_other e2 (fun z => hM j z m)] at e
          exact g.lst hn j x e m
    · cases h
end
end CC

set_option Elab.async false
set_option linter.all false
set_option maxRecDepth 100000
set_option maxHeartbeats 1000000
/-! Branches, returns, loops. -/
namespace CC
open PySem PySem.Spec PyProof.Rows L2

section
variable {t : Tx} {G : Pg} {T : Tab} {k : Nat}
theorem ss_ift {c : E} {a b : S} (ic : Snd t G T k c) (ia : SndS t G T k a) (ib : SndS t G T k b) : SndS t G T k (.ift c a b) := by
  refine .of (fun fresh ini C sts h => ?_) fun fresh ini B ρ0 Lam0 C X st cx hp h => ?_
  · unfold chkB at h
    split at h
    · exact ⟨_, rfl⟩
    · cases h
  · unfold chkB at h
    split at h
    · rename_i e p q pos el
      cases el
      simp only [Bool.and_eq_true] at h
      obtain ⟨⟨⟨h1, h2⟩, h3⟩, h4⟩ := h
      refine (ps_if (ic.pt C X e cx h1 h2) (ia.blk fresh ini B ρ0 Lam0 C X p cx hp h3) (ib.blk fresh ini B ρ0 Lam0 C X q cx hp h4)).imp fun D σ H ⟨s, g, q⟩ => ⟨s, g.rel, ?_⟩
      have e0 : exc G (.ift c a b) s.e s.h = (ev G c s.e s.h).thn fun d h => match d with
        | .bl true => exc G a s.e h
        | .bl false => exc G b s.e h
        | _ => .bad := rfl
      rw [e0] at q
      cases e1 : ev G c s.e s.h with
      | bad => rw [e1] at q; exact q.elim
      | ok d h1 =>
        rw [e1] at q
        cases d with
        | bl x =>
          intro H1 ρ1 st R1
          cases x with
          | true =>
            rw [if_pos rfl]
            exact ⟨s.to ρ1 h1, g.step st R1, q⟩
          | false =>
            rw [if_neg (by simp)]
            exact ⟨s.to ρ1 h1, g.step st R1, q⟩
        | _ => exact q.elim
    · cases h
theorem ss_exp {a : E} (ia : Snd t G T k a) : SndS t G T k (.exp a) := by
  refine .of (fun fresh ini C sts h => ?_) fun fresh ini B ρ0 Lam0 C X st cx hp h => ?_
  · unfold chkB at h
    split at h
    · exact ⟨_, rfl⟩
    · cases h
  · unfold chkB at h
    split at h
    · rename_i v pos el
      cases el
      simp only [Bool.and_eq_true] at h
      have hs : swapsWith v none pos.line X.env = pure false := by
        cases v with
        | ListComp el gs scope p => cases h.2
        | SetComp el gs scope p =>
          have : chkE T a C (.SetComp el gs scope p) = false := by cases a <;> rfl
          rw [this] at h
          cases h.1
        | DictComp el gs scope p q =>
          have : chkE T a C (.DictComp el gs scope p q) = false := by cases a <;> rfl
          rw [this] at h
          cases h.1
        | _ => rfl
      refine (ps_expr (ia.pe C X v cx h.1) hs).imp fun D σ H ⟨s, g, q⟩ => ⟨s, g.rel, ?_⟩
      have e0 : exc G (.exp a) s.e s.h = (ev G a s.e s.h).thn fun _ h => .next s.e h := rfl
      rw [e0] at q
      cases e1 : ev G a s.e s.h with
      | bad => rw [e1] at q; exact q.elim
      | ok d h1 =>
        rw [e1] at q
        intro v H1 ρ1 st R1 res
        exact q (s.to ρ1 h1) σ H1 (g.step st R1) rfl rfl
    · cases h
theorem ss_aug (i : Nat) (op : Bop) {a : E} (ia : Snd t G T k a) : SndS t G T k (.aug i op a) := by
  refine .of (fun fresh ini C sts h => ?_) fun fresh ini B ρ0 Lam0 C X st cx hp h => ?_
  · unfold chkB at h
    split at h
    · exact ⟨_, rfl⟩
    · cases h
  · unfold chkB at h
    split at h
    · rename_i x px o v pos el
      cases el
      unfold nmS at h
      simp only [Bool.and_eq_true, decide_eq_true_eq, Bool.not_eq_true'] at h
      obtain ⟨⟨⟨⟨⟨h1, h2⟩, h3⟩, h4⟩, h5⟩, h6⟩ := h
      have go : ∀ (f : Int → Int → Int) (D : Ends) (σ : L2.St) (H : Hp), (∀ n m h, binD op (.int n) (.int m) h = .ok (.int (f n m)) h) → tS t G fresh ini C.M B ρ0 Lam0 (.aug i op a) D σ H → tAug i (tE t G T C.M a) (ipI f) D σ H := by
        intro f D σ H hf ⟨s, g, q⟩
        have e0 : exc G (.aug i op a) s.e s.h = (match s.e[i]? with
          | some (some x) => (ev G a s.e s.h).thn fun d h => (match x, d with
            | .int n, .int m => (binD op (.int n) (.int m) h).thn fun z h => .next (putN i z s.e) h
            | _, _ => .bad)
          | _ => .bad) := rfl
        rw [e0] at q
        split at q
        · rename_i x ex
          obtain ⟨v, ev', rv⟩ := g.rel.val i x ex (by simpa using h4)
          refine ⟨v, ev', s, g.rel, ?_⟩
          cases e1 : ev G a s.e s.h with
          | bad => rw [e1] at q; exact q.elim
          | ok d h1 =>
            rw [e1] at q
            cases x with
            | int n =>
              cases d with
              | int m =>
                have q : AftS t fresh ini C.M B ρ0 Lam0 ((binD op (.int n) (.int m) h1).thn fun z h => .next (putN i z s.e) h) D := q
                rw [hf] at q
                intro w H1 ρ1 st R1 res
                have ew := int_of g.rel res
                subst ew
                cases rv
                exact ⟨n, m, rfl, rfl, q _ _ H1 ((g.step st R1).put (by simpa using h4) (.int (f n m))) rfl rfl⟩
              | _ => exact q.elim
            | _ => exact q.elim
        · exact q.elim
      split at h6
      · exact (ps_aug (nd_of cx) (N_of cx h1) (loc_of cx h2) (ia.pe C X v cx h5) ip_add (fn_of' cx h3)).imp fun D σ H q => go (fun i j => i + j) D σ H (fun _ _ _ => rfl) q
      · exact (ps_aug (nd_of cx) (N_of cx h1) (loc_of cx h2) (ia.pe C X v cx h5) ip_sub (fn_of' cx h3)).imp fun D σ H q => go (fun i j => i - j) D σ H (fun _ _ _ => rfl) q
      · cases h6
    · cases h
/-! ### return -/
theorem Rel.frz {M : List Nat} {s : Sit} {σ : L2.St} {H : Hp} (R : Rel t M s σ H) (hl : ∀ i d, s.e[i]? = some (some d) → i ∈ M → ∃ l, d = .lst l) : Rel t [] ⟨s.Lam, s.ρ, fun _ => none, s.e, s.h⟩ σ H := by
  have L' : ∀ b, (⟨s.Lam, s.ρ, fun _ => none, s.e, s.h⟩ : Sit).L b → s.L b := fun b z => by
    rcases z with z | z | ⟨j, z⟩
    · exact .inl z
    · exact .inr (.inl z)
    · cases z
  refine ⟨R.len, fun i d e _ => ?_, fun i d e n => (nomatch n), fun i j a h => (nomatch h), fun i a h => (nomatch h), fun n l e => ?_, R.blen, R.bnd, fun a z => R.lam a (L' a z), R.lamb⟩
  · by_cases hi : i ∈ M
    · obtain ⟨l, rfl⟩ := hl i d e hi
      obtain ⟨a, e1, e2, xs, h1, h2⟩ := R.own i _ e hi
      obtain ⟨m1, m2, _⟩ := R.mfr i a e1
      refine ⟨_, e2, .lst h1 (fun z => ?_) (h2.less L')⟩
      rcases z with z | z | ⟨j, z⟩
      · exact m2 z
      · exact m1 z
      · cases z
    · obtain ⟨v, e1, r⟩ := R.val i d e hi
      exact ⟨v, e1, r.less L'⟩
  · obtain ⟨h1, a, ys, h2, h3, h4⟩ := R.box n l e
    exact ⟨h1, a, ys, h2, h3, h4.less L'⟩
theorem out_of {fresh : Bool} {B H' : Hp} {Lam0 : Addr → Prop} {ρ' : List Addr} {v : V} {d : D} (h : Rep t ρ' (fun a => Lam0 a ∨ a ∈ ρ') H' v d) (n : fresh = true → ∀ l, d ≠ .lst l) : OutR t fresh B Lam0 ρ' H' v d := by
  unfold OutR
  split
  · rename_i hf
    cases d with
    | lst l => exact absurd rfl (n hf l)
    | _ => exact h
  · exact h
theorem ss_ret {a : E} (ia : Snd t G T k a) : SndS t G T k (.ret a) := by
  refine .of (fun fresh ini C sts h => ?_) fun fresh ini B ρ0 Lam0 C X st cx hp h => ?_
  · unfold chkB at h
    split at h
    · exact ⟨_, rfl⟩
    · cases h
  · unfold chkB at h
    split at h
    · rename_i v pos el
      cases el
      simp only [Bool.and_eq_true, Bool.not_eq_true'] at h
      obtain ⟨hi, h⟩ := h
      by_cases hm : ∃ i, a = .mvar i
      · obtain ⟨i, rfl⟩ := hm
        have h : chkE T (.mvar i) C v = true := h
        unfold chkE at h
        split at h
        · rename_i x p
          simp only [Bool.and_eq_true, decide_eq_true_eq] at h
          obtain ⟨⟨⟨h1, h2⟩, h3⟩, h4⟩ := h
          have n := nm_of h3
          refine (ps_ret (pe_var (N_of cx h1) (vis_of cx h2) n.1 n.2.1)).imp fun D σ H ⟨s, g, q⟩ => ?_
          have e0 : exc G (.ret (.mvar i)) s.e s.h = (match s.e[i]? with | some (some (.lst l)) => CC.R.ok (CC.D.lst l) s.h | _ => .bad).thn fun d h => .ret d h := rfl
          rw [e0] at q
          split at q
          · rename_i l ed
            obtain ⟨ad, ma, ev', xs, e1, e2⟩ := g.rel.own i _ ed (by simpa using h4)
            obtain ⟨m1, m2, _⟩ := g.rel.mfr i ad ma
            rw [g.lam] at m2
            refine ⟨_, ev', q _ H s.ρ g.stp (fun n l e => ?_) g.rel.blen g.rel.bnd ?_⟩
            · obtain ⟨h1, b, ys, h2, h3, h4⟩ := g.rel.box n l e
              exact ⟨h1, b, ys, h2, h3, Reps.nl (fun _ _ e _ => e) l ys h1 h4⟩
            · have lt : ∀ b, Lam0 b ∨ b ∈ s.ρ → s.L b := fun b z => z.elim (fun z => .inl (by rw [g.lam]; exact z)) fun z => .inr (.inl z)
              unfold OutR
              split
              · exact ⟨ad, xs, rfl, g.new i ad ma, e1, m1, e2.less fun b z => z.elim (lt b) fun z => .inr (.inr ⟨i, by rw [z]; exact ma⟩)⟩
              · exact .lst e1 (fun z => z.elim m2 m1) (e2.less lt)
          · exact q.elim
        · cases h
      · have hb : bor a = false := by
          cases a with
          | mvar i => exact absurd ⟨i, rfl⟩ hm
          | _ => rfl
        have h : chkE T a { C with M := [] } v = true ∧ (fresh = false ∨ fr T a = true ∨ isCst a = true) := by
          split at h
          · exact absurd ⟨_, rfl⟩ hm
          · simp only [Bool.and_eq_true, Bool.or_eq_true, Bool.not_eq_true'] at h
            exact ⟨h.1, h.2.elim (fun z => z.elim .inl fun z => .inr (.inl z)) fun z => .inr (.inr z)⟩
        have cx0 : CxOk t G T k { C with M := [] } X := ⟨cx.calm, cx.N, cx.nd, cx.sc, cx.K, cx.room, cx.fn, cx.hy, cx.hc⟩
        refine (ps_ret (ia.pe { C with M := [] } X v cx0 h.1)).imp fun D σ H ⟨s, g, q⟩ => ?_
        have R0 := g.rel.frz (g.lst hi)
        refine ⟨_, R0, ?_⟩
        show Aft t T [] a _ σ H (ev G a s.e s.h) D.rt
        have e0 : exc G (.ret a) s.e s.h = (ev G a s.e s.h).thn fun d h => .ret d h := rfl
        rw [e0] at q
        cases e1 : ev G a s.e s.h with
        | bad => rw [e1] at q; exact q.elim
        | ok d h1 =>
          rw [e1] at q
          intro w H1 ρ1 st R1 res
          have eL : ∀ b, Lam0 b ∨ b ∈ ρ1 → ((⟨s.Lam, s.ρ, fun _ => none, s.e, s.h⟩ : Sit).to ρ1 h1).L b := fun b z => z.elim (fun z => .inl (by rw [← g.lam] at z; exact z)) fun z => .inr (.inl z)
          refine q w H1 ρ1 (g.stp.trans st) (fun n l e => ?_) R1.blen R1.bnd ?_
          · obtain ⟨h1, b, ys, h2, h3, h4⟩ := R1.box n l e
            exact ⟨h1, b, ys, h2, h3, Reps.nl (fun _ _ e _ => e) l ys h1 h4⟩
          · have rv := Res.rep hb R0 res
            by_cases hl : fresh = true ∧ ∃ l, d = .lst l
            · obtain ⟨hf, l, rfl⟩ := hl
              rcases h.2 with z | z | z
              · rw [hf] at z
                cases z
              · unfold Res at res
                rw [if_pos z] at res
                obtain ⟨p, xs, rfl, w1, w2, w3, w4⟩ := res
                unfold OutR
                rw [if_pos hf]
                exact ⟨p, xs, rfl, g.stp.free w1, w2, w3, w4.less fun b z => z.imp (eL b) id⟩
              · cases a with
                | cst c =>
                  exfalso
                  cases c <;> cases e1
                | _ => cases z
            · exact out_of (rv.less eL) fun hf l z => hl ⟨hf, l, z⟩
    · cases h
end
end CC

set_option Elab.async false
set_option linter.all false
set_option maxRecDepth 100000
set_option maxHeartbeats 1000000
/-! for. -/
namespace CC
open PySem PySem.Spec PyProof.Rows L2

/-- the heap without a situation's own lists -/
noncomputable def baseL (s : Sit) (H : Hp) : Hp := open Classical in fun b => if ∃ i, s.μ i = some b then none else H b
theorem baseL_ne {s : Sit} {H : Hp} {b : Addr} (h : ∀ i, s.μ i ≠ some b) : baseL s H b = H b := by
  unfold baseL
  rw [if_neg fun ⟨i, e⟩ => h i e]
theorem baseL_own {s : Sit} {H : Hp} {b : Addr} {i : Nat} (h : s.μ i = some b) : baseL s H b = none := by
  unfold baseL
  rw [if_pos ⟨i, h⟩]
theorem baseL_some {s : Sit} {H : Hp} {b : Addr} {o : HO} (h : baseL s H b = some o) : H b = some o ∧ ∀ i, s.μ i ≠ some b := by
  unfold baseL at h
  split at h
  · cases h
  · rename_i n
    exact ⟨h, fun i e => n ⟨i, e⟩⟩
section
variable {t : Tx} {G : Pg} {T : Tab} {k : Nat} {fresh : Bool} {ini : Option Addr} {M : List Nat} {B : Hp} {ρ0 : List Addr} {Lam0 : Addr → Prop} {s : Sit} {σ : L2.St} {H : Hp}
theorem Gd.start (g : Gd t ini M B ρ0 Lam0 s σ H) : Gd t ini M (baseL s H) s.ρ Lam0 s σ H :=
  ⟨g.lam, g.rel, ⟨fun b o e _ => (baseL_some e).1, fun b o e _ => (baseL_some e).1, fun b o e => ⟨o, (baseL_some e).1⟩, List.prefix_refl _, fun _ z => .inl z⟩, fun i a e => baseL_own e, g.lst, g.slf⟩
theorem Gd.liftS (g : Gd t ini M B ρ0 Lam0 s σ H) {ρ' : List Addr} {H' : Hp} (st : Stp s.ρ ρ' (baseL s H) H') : Stp ρ0 ρ' B H' := by
  have up : ∀ b o, B b = some o → ∀ o', H b = some o' → baseL s H b = some o' := fun b o e o' e' => by
    rw [baseL_ne fun i z => by
      rw [g.new i b z] at e
      cases e]
    exact e'
  refine ⟨fun b o e n => st.keep b o (up b o e o (g.stp.keep b o e n)) fun z => (g.stp.new b z).elim n fun q => (by rw [e] at q; cases q), fun b o e f => st.fix b o (up b o e o (g.stp.fix b o e f)) f, fun b o e => ?_, g.stp.pre.trans st.pre, fun b z => (st.new b z).elim (g.stp.new b) fun q => .inr ?_⟩
  · obtain ⟨o1, h1⟩ := g.stp.trk b o e
    exact st.trk b o1 (up b o e o1 h1)
  · cases z : B b with
    | none => rfl
    | some o =>
      obtain ⟨o1, h1⟩ := g.stp.trk b o z
      rw [up b o z o1 h1] at q
      cases q
theorem Gd.liftN (g : Gd t ini M B ρ0 Lam0 s σ H) {a : Addr} (h : baseL s H a = none) : B a = none := by
  cases z : B a with
  | none => rfl
  | some o =>
    obtain ⟨o1, h1⟩ := g.stp.trk a o z
    rw [baseL_ne fun i y => by
      rw [g.new i a y] at z
      cases z] at h
    rw [h1] at h
    cases h
theorem Gd.lift (g : Gd t ini M B ρ0 Lam0 s σ H) {s' : Sit} {σ' : L2.St} {H' : Hp} (g' : Gd t ini M (baseL s H) s.ρ Lam0 s' σ' H') : Gd t ini M B ρ0 Lam0 s' σ' H' :=
  ⟨g'.lam, g'.rel, g.liftS g'.stp, fun i a e => g.liftN (g'.new i a e), g'.lst, g'.slf⟩
theorem Gd.moveL (g : Gd t ini M B ρ0 Lam0 s σ H) {s' : Sit} {σ' : L2.St} {H' : Hp} (g' : Gd t ini M (baseL s H) s.ρ Lam0 s' σ' H') : ∀ d v, Rep t s.ρ s.L H v d → Rep t s'.ρ s'.L H' v d := fun d v r => by
  have nm : ∀ b o, H b = some o → ¬ s.L b → baseL s H b = some o := fun b o e n => by
    rw [baseL_ne fun i z => n (.inr (.inr ⟨i, z⟩))]
    exact e
  refine Rep.move (fun _ _ e => pre_get g'.stp.pre e) (fun b o e n => ⟨g'.stp.keep b o (nm b o e n) fun z => n (.inr (.inl z)), fun z => ?_⟩) (fun b o e f => g'.stp.fix b o ?_ f) d v r
  · rcases z with z | z | ⟨i, z⟩
    · rw [g'.lam, ← g.lam] at z
      exact n (.inl z)
    · exact (g'.stp.new b z).elim (fun q => n (.inr (.inl q))) fun q => by
        rw [nm b o e n] at q
        cases q
    · have q := g'.new i b z
      rw [nm b o e n] at q
      cases q
  · rw [baseL_ne fun i z => by
      obtain ⟨o', e', nf⟩ := g.rel.lam b (.inr (.inr ⟨i, z⟩))
      rw [e] at e'
      cases e'
      exact nf f]
    exact e
end
section
variable {t : Tx} {G : Pg} {T : Tab} {k : Nat}
def fBody (G : Pg) (tg : CC.T) (b : S) : D → En → Hb → RS := fun d e h => match putT tg d e with | some e => exc G b e h | none => .bad
theorem ss_for (tg : CC.T) {it : E} {b : S} (ii : SndI t G T k it) (ib : SndS t G T k b) : SndS t G T k (.for_ tg it b) := by
  refine .of (fun fresh ini C sts h => ?_) fun fresh ini B ρ0 Lam0 C X st cx hp h => ?_
  · unfold chkB at h
    split at h
    · exact ⟨_, rfl⟩
    · cases h
  · unfold chkB at h
    split at h
    · rename_i tg' it' body pos el
      cases el
      simp only [Bool.and_eq_true, Bool.not_eq_true'] at h
      obtain ⟨⟨⟨h1, h2⟩, h3⟩, h4⟩ := h
      have pb : PSs X body (fun D σ H => ∃ Bl ρ1, tS t G fresh ini C.M Bl ρ1 Lam0 b D σ H) := ⟨fun pins s σ H D I ⟨Bl, ρ1, q⟩ => (ib.blk fresh ini Bl ρ1 Lam0 C X body cx hp h4).run pins s σ H D I q⟩
      have hM := tg_M (C := C) tg tg' h3
      refine (ps_for hp cx.calm (ii C X tg' it' cx h1) (pg_of cx tg tg' h3) pb (not_setI h1 X.env)).imp fun D σ H ⟨s, g, q⟩ => ⟨s, g.rel, ?_⟩
      have e0 : exc G (.for_ tg it b) s.e s.h = (ev G it s.e s.h).thn fun x h => forL (fBody G tg b) (argsD x) s.e h := rfl
      rw [e0] at q
      cases e1 : ev G it s.e s.h with
      | bad => rw [e1] at q; exact q.elim
      | ok d h1' =>
        obtain ⟨ds, rfl⟩ := it_tup h1 e1
        rw [e1] at q
        have q : AftS t fresh ini C.M B ρ0 Lam0 (forL (fBody G tg b) ds s.e h1') D := q
        intro J H1 ρ1 st R1 wk
        have g1 := g.step st R1
        obtain ⟨Γ, g0, gk, wk⟩ := wk
        rw [cx.K]
        let r := forL (fBody G tg b) ds s.e h1'
        have hq : AftS t fresh ini C.M B ρ0 Lam0 r D := q
        refine for_it (g := tG t.K tg) (tb := fun D σ H => ∃ Bl ρ1, tS t G fresh ini C.M Bl ρ1 Lam0 b D σ H) (D := D) wk (fun i σ H => ∃ s', Gd t ini C.M (baseL (s.to ρ1 h1') H1) ρ1 Lam0 s' σ H ∧ forL (fBody G tg b) (ds.drop i) s'.e s'.h = r) ⟨s.to ρ1 h1', g1.start, rfl⟩ ?_ ?_ ?_
        · rintro i σ' Hc _ ⟨s', g', _⟩
          refine gk H1 Hc g0 fun b o e f => ?_
          rcases f with f | ⟨f1, f2⟩
          · refine g'.stp.fix b o ?_ f
            rw [baseL_ne fun i z => by
              obtain ⟨o', e', nf⟩ := R1.lam b (.inr (.inr ⟨i, z⟩))
              rw [e] at e'
              cases e'
              exact nf f]
            exact e
          · refine g'.stp.keep b o ?_ f1
            rw [baseL_ne fun i z => f2 h2 (.inr (.inr ⟨i, z⟩))]
            exact e
        · rintro i x σ' Hc H' hi ⟨s', g', er⟩ y
          obtain ⟨d, ed, rd, gr⟩ := yd_at g'.rel (g1.moveL g') y
          have Rg : Rel t C.M s' σ' H' := g'.rel.grow gr
          have stg : Stp s'.ρ s'.ρ Hc H' := ⟨fun b o h _ => gr b o h, fun b o h _ => gr b o h, fun b o h => ⟨o, gr b o h⟩, List.prefix_refl _, fun _ z => .inl z⟩
          have ex : ds.drop i = d :: ds.drop (i + 1) := by
            obtain ⟨hl, e⟩ := List.getElem?_eq_some_iff.mp ed
            rw [List.drop_eq_getElem_cons hl, e]
          rw [ex] at er
          have er : (match fBody G tg b d s'.e s'.h with
            | .next e h => forL (fBody G tg b) (ds.drop (i + 1)) e h
            | .cnt e h => forL (fBody G tg b) (ds.drop (i + 1)) e h
            | .brk e h => .next e h
            | .ret d h => .ret d h
            | .bad => .bad) = r := er
          cases ep : putT tg d s'.e with
          | none =>
            have eb : fBody G tg b d s'.e s'.h = .bad := by
              unfold fBody
              rw [ep]
            rw [eb] at er
            have er : RS.bad = r := er
            rw [← er] at hq
            exact hq.elim
          | some e' =>
            have eb : fBody G tg b d s'.e s'.h = exc G b e' s'.h := by
              unfold fBody
              rw [ep]
            rw [eb] at er
            refine tg_go Rg hM rd ep fun σ2 R2 hl hj => ⟨_, _, s'.en e', ⟨g'.lam, R2, g'.stp.trans stg, g'.new, fun hn j z e m => ?_, g'.slf⟩, ?_⟩
            · have e : e'[j]? = some (some z) := e
              rw [put_other ep fun y => hM j y m] at e
              exact g'.lst hn j z e m
            · show AftS t fresh ini C.M _ _ Lam0 (exc G b e' s'.h) _
              cases e2 : exc G b e' s'.h with
              | next e3 h3 =>
                rw [e2] at er
                intro s3 σ3 H3 g3 he hh
                exact ⟨s3, g3, by rw [he, hh]; exact er⟩
              | cnt e3 h3 =>
                rw [e2] at er
                intro s3 σ3 H3 g3 he hh
                exact ⟨s3, g3, by rw [he, hh]; exact er⟩
              | brk e3 h3 =>
                rw [e2] at er
                have er : RS.next e3 h3 = r := er
                rw [← er] at hq
                intro s3 σ3 H3 g3 he hh
                exact hq s3 σ3 H3 (g1.lift g3) he hh
              | ret d3 h3 =>
                rw [e2] at er
                have er : RS.ret d3 h3 = r := er
                rw [← er] at hq
                intro v H3 ρ3 st3 bx bl nd out
                refine hq v H3 ρ3 (g1.liftS st3) bx bl nd ?_
                unfold OutR at out ⊢
                split
                · rename_i hf
                  rw [if_pos hf] at out
                  cases d3 with
                  | lst l =>
                    obtain ⟨p, xs, w1, w2, w3⟩ := out
                    exact ⟨p, xs, w1, g1.liftN w2, w3⟩
                  | _ => exact out
                · rename_i hf
                  rw [if_neg hf] at out
                  exact out
              | bad =>
                rw [e2] at er
                have er : RS.bad = r := er
                rw [← er] at hq
                exact hq.elim
        · rintro σ' Hc ⟨s', g', er⟩
          rw [List.drop_length] at er
          have er : RS.next s'.e s'.h = r := er
          rw [← er] at hq
          exact hq s' σ' Hc (g1.lift g') rfl rfl
    · cases h
end
end CC

set_option Elab.async false
set_option linter.all false
set_option maxRecDepth 100000
set_option maxHeartbeats 1000000
/-! Own lists: append, stores by an index. -/
namespace CC
open PySem PySem.Spec PyProof.Rows L2

section
variable {t : Tx} {G : Pg} {T : Tab} {k : Nat}
section
variable {fresh : Bool} {ini : Option Addr} {M : List Nat} {B : Hp} {ρ0 : List Addr} {Lam0 : Addr → Prop} {s : Sit} {σ : L2.St} {H : Hp}
theorem Gd.edit {i : Nat} {p : Addr} {xs ys : List V} {ds : List D} {d0 : D} (g : Gd t ini M B ρ0 Lam0 s σ H) (he : s.e[i]? = some (some d0)) (hi : s.μ i = some p) (hl : H p = some (.lst xs)) (r : Reps t s.ρ s.L H ys ds) :
    Gd t ini M B ρ0 Lam0 (s.en (s.e.set i (some (.lst ds)))) σ (upd H p (.lst ys)) := by
  have np : ∀ b o, B b = some o → b ≠ p := fun b o e z => by
    rw [z, g.new i p hi] at e
    cases e
  refine ⟨g.lam, g.rel.edit he hi hl r, ⟨fun b o e n => ?_, fun b o e f => ?_, fun b o e => ?_, g.stp.pre, g.stp.new⟩, g.new, fun hn j x e m => ?_, g.slf⟩
  · rw [upd_ne (np b o e)]
    exact g.stp.keep b o e n
  · rw [upd_ne (np b o e)]
    exact g.stp.fix b o e f
  · rw [upd_ne (np b o e)]
    exact g.stp.trk b o e
  · have e : (s.e.set i (some (.lst ds)))[j]? = some (some x) := e
    by_cases hj : i = j
    · subst hj
      rw [List.getElem?_set_self (List.getElem?_eq_some_iff.mp he).1] at e
      cases e
      exact ⟨_, rfl⟩
    · rw [List.getElem?_set_ne hj] at e
      exact g.lst hn j x e m
/-- an own list as it stands, behind a step too -/
theorem Gd.list {i : Nat} {l : List D} (g : Gd t ini M B ρ0 Lam0 s σ H) (hi : i ∈ M) (he : s.e[i]? = some (some (.lst l))) : ∃ p xs, s.μ i = some p ∧ σ[i]? = some (some (.ref p)) ∧ H p = some (.lst xs) ∧ Reps t s.ρ s.L H xs l ∧ p ∉ s.ρ := by
  obtain ⟨p, h1, h2, xs, h3, h4⟩ := g.rel.own i _ he hi
  exact ⟨p, xs, h1, h2, h3, h4, (g.rel.mfr i p h1).1⟩
end
theorem mv_of {C : Ctx} {X : Cx} (cx : CxOk t G T k C X) {i : Nat} {x : Str} {px : Pos} (h : chkE T (.mvar i) C (.Name x px) = true) : PE X (.Name x px) (tVar i) ∧ i ∈ C.M := by
  have h : (decide (C.N[i]? = some x) && visB C.sc x && nmB x && C.M.contains i) = true := h
  simp only [Bool.and_eq_true, decide_eq_true_eq] at h
  obtain ⟨⟨⟨h1, h2⟩, h3⟩, h4⟩ := h
  have n := nm_of h3
  exact ⟨pe_var (N_of cx h1) (vis_of cx h2) n.1 n.2.1, by simpa using h4⟩
theorem ss_app (i : Nat) {a : E} (ia : Snd t G T k a) : SndS t G T k (.app i a) := by
  refine .of (fun fresh ini C sts h => ?_) fun fresh ini B ρ0 Lam0 C X st cx hp h => ?_
  · unfold chkB at h
    split at h
    · exact ⟨_, rfl⟩
    · cases h
  · unfold chkB at h
    split at h
    · rename_i x px m ap e p pos el
      cases el
      simp only [Bool.and_eq_true, decide_eq_true_eq, Bool.not_eq_true'] at h
      obtain ⟨⟨⟨⟨h1, h2⟩, h3⟩, h4⟩, h5⟩ := h
      subst h1
      obtain ⟨pv, iM⟩ := mv_of cx h2
      have he : starEach [e] X.env = (false, eval e X.env) :: starEach [] X.env := star_one (not_star h3)
      have hfew : ((backTo p (starEach [e] X.env)).all (fun x => !x.1) && (backToKw p (keywordEach [] X.env)).all (fun x => x.1.isSome) && decide ([e].length + ([] : List Keyword).length + (if ([] : List Keyword).isEmpty then 0 else 1) < 30)) = true := by
        rw [he]
        rfl
      refine (ps_expr (pe_bm PySem.F.plainAttrs_list PySem.F.slot_list_append PySem.type_list_append mt_append pv (pa_cons (ia.pe C X e cx h3) pa_nil he) rfl hfew h5 he rfl) rfl).imp fun D σ H ⟨s, g, q⟩ => ?_
      have e0 : exc G (.app i a) s.e s.h = (ev G a s.e s.h).thn fun d h => match s.e[i]? with
        | some (some (.lst l)) => if l.length < 1000000 then .next (putN i (.lst (l ++ [d])) s.e) h else .bad
        | _ => .bad := rfl
      rw [e0] at q
      cases e1 : ev G a s.e s.h with
      | bad => rw [e1] at q; exact q.elim
      | ok d h1 =>
        rw [e1] at q
        have q : AftS t fresh ini C.M B ρ0 Lam0 (match s.e[i]? with
          | some (some (.lst l)) => if l.length < 1000000 then .next (putN i (.lst (l ++ [d])) s.e) h1 else .bad
          | _ => .bad) D := q
        split at q
        · rename_i l ei
          obtain ⟨ad, xs, w1, w2, w3, w4, w5⟩ := g.list iM ei
          split at q
          · rename_i hz
            refine ⟨_, w2, .inl ⟨rfl, xs, .inl (.inl w3)⟩, s, g.rel, ?_⟩
            rw [e1]
            intro v H1 ρ1 st R1 res
            have w4' : Reps t ρ1 (s.to ρ1 h1).L H1 xs l := w4.step g.rel st
            have w3' := st.keep _ _ w3 w5
            refine ⟨ad, xs, v, rfl, rfl, w3', Nat.lt_of_lt_of_le (by rw [w4.length]; exact hz) (small6 (Nat.le_refl _)), ?_⟩
            exact q _ σ _ ((g.step st R1).edit ei w1 w3' (w4'.append (.one (Res.rep h4 g.rel res)))) rfl rfl
          · exact q.elim
        · exact q.elim
    · cases h
theorem aug_plain {x : E} {C : Ctx} {ei : Expr} (h : chkE T x C ei = true) : ∀ ov iv new, augStore ei ov iv new = (do holding [new, ov, iv] (setItem ov iv new); release [new, ov, iv] []; pure .next) := by
  intro ov iv new
  cases ei with
  | Slice a b c p =>
    have : chkE T x C (.Slice a b c p) = false := by cases x <;> rfl
    rw [this] at h
    cases h
  | _ => rfl
theorem asg_plain {x : E} {C : Ctx} {ei : Expr} (h : chkE T x C ei = true) (y : Str) (py pos : Pos) (env : Env) : ∀ v, assign (.Subscript (.Name y py) ei pos) env v = (do
      let ov ← holding [v] (eval (.Name y py) env)
      let iv ← holding [v, ov] (eval ei env)
      standAt pos
      holding [v, ov, iv] (setItem ov iv v)
      release [v, ov, iv] []) := by
  intro v
  cases ei with
  | Slice a b c p =>
    have : chkE T x C (.Slice a b c p) = false := by cases x <;> rfl
    rw [this] at h
    cases h
  | _ => rfl
def ixsK (e : En) (i : Nat) (d : D) (k : D) (h : Hb) : RS := match e[i]?, k with
  | some (some (.lst l)), .int k => (match L2.ixN l.length k with | some j => .next (putN i (.lst (l.set j d)) e) h | none => .bad)
  | _, _ => .bad
theorem ss_ixs (i : Nat) {ix a : E} (ix_ : Snd t G T k ix) (ia : Snd t G T k a) : SndS t G T k (.ixs i ix a) := by
  refine .of (fun fresh ini C sts h => ?_) fun fresh ini B ρ0 Lam0 C X st cx hp h => ?_
  · unfold chkB at h
    split at h
    · exact ⟨_, rfl⟩
    · cases h
  · unfold chkB at h
    split at h
    · rename_i x px ei sp v pos el
      cases el
      simp only [Bool.and_eq_true, Bool.not_eq_true'] at h
      obtain ⟨⟨⟨⟨h1, h2⟩, h3⟩, h4⟩, h5⟩ := h
      obtain ⟨pv, iM⟩ := mv_of cx h1
      have hs : swapsWithSole [.Subscript (.Name x px) ei sp] v pos.line X.env = pure false := by
        cases v <;> first | rfl | (cases h5)
      have hw : swappedStores [.Subscript (.Name x px) ei sp] v X.env = pure none := by
        cases v <;> rfl
      refine (ps_asg (ia.pe C X v cx h3) (pg_sub pv (ix_.pe C X ei cx h2) set_list (asg_plain h2 x px sp X.env)) hs hw).imp fun D σ H ⟨s, g, q⟩ => ⟨s, g.rel, ?_⟩
      have e0 : exc G (.ixs i ix a) s.e s.h = (ev G a s.e s.h).thn fun d h => (ev G ix s.e h).thn fun k h => ixsK s.e i d k h := rfl
      rw [e0] at q
      cases e1 : ev G a s.e s.h with
      | bad => rw [e1] at q; exact q.elim
      | ok d h1 =>
        rw [e1] at q
        intro w H1 ρ1 st1 R1 res1
        have g1 := g.step st1 R1
        have q : AftS t fresh ini C.M B ρ0 Lam0 ((ev G ix s.e h1).thn fun k h => ixsK s.e i d k h) D := q
        cases e2 : ev G ix s.e h1 with
        | bad => rw [e2] at q; exact q.elim
        | ok d2 h2 =>
          rw [e2] at q
          have q : AftS t fresh ini C.M B ρ0 Lam0 (ixsK s.e i d d2 h2) D := q
          unfold ixsK at q
          split at q
          · rename_i l kk ei' _
            split at q
            · rename_i j ej
              obtain ⟨ad, xs, w1, w2, w3, w4, w5⟩ := g1.list iM ei'
              refine ⟨_, w2, s.to ρ1 h1, R1, ?_⟩
              show Aft t T C.M ix (s.to ρ1 h1) σ H1 (ev G ix s.e h1) _
              rw [e2]
              intro u H2 ρ2 st2 R2 res2
              have eu := int_of R1 res2
              subst eu
              have st2 : Stp ρ1 ρ2 H1 H2 := st2
              have g2 := g1.step st2 R2
              have w3' := st2.keep _ _ w3 w5
              have w4' : Reps t ρ2 (s.to ρ2 h2).L H2 xs l := Reps.step (s := s.to ρ1 h1) (h' := h2) R1 st2 w4
              have rd : Rep t ρ2 (s.to ρ2 h2).L H2 w d := Rep.step (s := s.to ρ1 h1) (h' := h2) R1 st2 (Res.rep h4 g.rel res1)
              refine ⟨ad, xs, kk, j, rfl, rfl, w3', by rw [w4.length]; exact ej, ?_⟩
              exact q _ σ _ (Gd.edit (s := s.to ρ2 h2) g2 ei' w1 w3' (w4'.set j rd)) rfl rfl
            · exact q.elim
          · exact q.elim
    · cases h
/-- o[i], o a list -/
theorem get_lst {X : Cx} : PGet X (fun x y H Q => ∃ p xs i v, x = .ref p ∧ y = .int i ∧ H p = some (.lst xs) ∧ atI xs i = some v ∧ Q v H) := by
  intro pins s σ H o i ov iv Q I ro ri h
  obtain ⟨p, xs, n, z, rfl, rfl, hq, he, q⟩ := h
  cases ro
  obtain ⟨tk, rfl⟩ := ri
  obtain ⟨its, r, pl, hz⟩ := I.list (.inl (.inl hq))
  obtain ⟨j, w1, w2, w3, w4, w5⟩ := atI_get he
  obtain ⟨w, ew, rw'⟩ := r.get w2
  have hl := r.length
  have hn := line63
  have fin : EP X pins σ Q w s := ⟨z, H, I, rw', q⟩
  rcases Int.lt_or_le n 0 with h0 | h0
  · have hj : (n + (its.toArray.size : Int)).toNat = j := by
      rw [seqIndex_neg h0 w4] at w1
      rw [List.size_toArray, ← hl]
      exact Option.some.inj w1
    exact wpAny_getItem_list_neg pl.isList h0 (by rw [List.size_toArray]; omega) (by omega) (by rw [hj]; simpa using ew) fin
  · have hj : n.toNat = j := by
      rw [seqIndex_of h0 w5] at w1
      exact Option.some.inj w1
    exact wpAny_getItem_list pl.isList h0 (by omega) (by rw [hj]; simpa using ew) fin
def ixaK (G : Pg) (a : E) (e : En) (i : Nat) (k : D) (h : Hb) : RS := match e[i]?, k with
  | some (some (.lst l)), .int k => (match L2.ixN l.length k with
    | some j => (match l[j]? with
      | some (.int n) => (ev G a e h).thn fun d h => (match d with
        | .int m => .next (putN i (.lst (l.set j (.int (n + m)))) e) h
        | _ => .bad)
      | _ => .bad)
    | none => .bad)
  | _, _ => .bad
theorem ss_ixa (i : Nat) {ix a : E} (ix_ : Snd t G T k ix) (ia : Snd t G T k a) : SndS t G T k (.ixa i ix a) := by
  refine .of (fun fresh ini C sts h => ?_) fun fresh ini B ρ0 Lam0 C X st cx hp h => ?_
  · unfold chkB at h
    split at h
    · exact ⟨_, rfl⟩
    · cases h
  · unfold chkB at h
    split at h
    · rename_i x px ei sp v pos el
      cases el
      simp only [Bool.and_eq_true] at h
      obtain ⟨⟨h1, h2⟩, h3⟩ := h
      obtain ⟨pv, iM⟩ := mv_of cx h1
      refine (ps_augS pv (ix_.pe C X ei cx h2) get_lst (ia.pe C X v cx h3) ip_add set_list (aug_plain h2)).imp fun D σ H ⟨s, g, q⟩ => ?_
      have e0 : exc G (.ixa i ix a) s.e s.h = (ev G ix s.e s.h).thn fun k h => ixaK G a s.e i k h := rfl
      rw [e0] at q
      cases e1 : ev G ix s.e s.h with
      | bad => rw [e1] at q; exact q.elim
      | ok d h1 =>
        rw [e1] at q
        have q : AftS t fresh ini C.M B ρ0 Lam0 (ixaK G a s.e i d h1) D := q
        unfold ixaK at q
        split at q
        · rename_i l kk ei' _
          split at q
          · rename_i j ej
            split at q
            · rename_i n en
              obtain ⟨ad, xs, w1, w2, w3, w4, w5⟩ := g.list iM ei'
              refine ⟨_, w2, s, g.rel, ?_⟩
              rw [e1]
              intro u H1 ρ1 st1 R1 res1
              have eu := int_of g.rel res1
              subst eu
              have g1 := g.step st1 R1
              have w3' := st1.keep _ _ w3 w5
              have w4' : Reps t ρ1 (s.to ρ1 h1).L H1 xs l := w4.step g.rel st1
              obtain ⟨z, ez, rz⟩ := w4'.get en
              have ezz : z = .int n := by
                cases rz
                rfl
              subst ezz
              refine ⟨ad, xs, kk, _, rfl, rfl, w3', by unfold atI; rw [w4.length, ej]; exact ez, s.to ρ1 h1, R1, ?_⟩
              show Aft t T C.M a (s.to ρ1 h1) σ H1 (ev G a s.e h1) _
              cases e2 : ev G a s.e h1 with
              | bad => rw [e2] at q; exact q.elim
              | ok d2 h2 =>
                rw [e2] at q
                cases d2 with
                | int m =>
                  intro u H2 ρ2 st2 R2 res2
                  have eu := int_of R1 res2
                  subst eu
                  have st2 : Stp ρ1 ρ2 H1 H2 := st2
                  have n5 : ad ∉ ρ1 := (R1.mfr i ad w1).1
                  have g2 := g1.step st2 R2
                  have w3'' := st2.keep _ _ w3' n5
                  have w4'' : Reps t ρ2 (s.to ρ2 h2).L H2 xs l := Reps.step (s := s.to ρ1 h1) (h' := h2) R1 st2 w4'
                  refine ⟨n, m, rfl, rfl, ad, xs, kk, j, rfl, rfl, w3'', by rw [w4.length]; exact ej, ?_⟩
                  exact q _ σ _ (Gd.edit (s := s.to ρ2 h2) g2 ei' w1 w3'' (w4''.set j (.int (n + m)))) rfl rfl
                | _ => exact q.elim
            · exact q.elim
          · exact q.elim
        · exact q.elim
    · cases h
end
end CC

set_option Elab.async false
set_option linter.all false
set_option maxRecDepth 100000
set_option maxHeartbeats 1000000
/-! a, b = x, y; boxes. -/
namespace CC
open PySem PySem.Spec PyProof.Rows L2

section
variable {t : Tx} {G : Pg} {T : Tab} {k : Nat}
def isStar : Expr → Bool
  | .Starred .. => true
  | _ => false
theorem not_isStar {x : E} {C : Ctx} {e : Expr} (h : chkE T x C e = true) : isStar e = false := by
  cases e with
  | Starred v p => exact absurd rfl (not_star h v p)
  | _ => rfl
theorem swp_of {C : Ctx} {X : Cx} (cx : CxOk t G T k C X) {x y : Str} {px py pt pt2 : Pos} {kt : Nat} {k2 : Nat} {ea eb : Expr} {a b : E} (h1 : x ≠ y) (h2 : C.sc.names.lookup x = some .local) (h3 : C.sc.names.lookup y = some .local) (h4 : C.sc.kind = .function) (h5 : (py.line == px.line) = true)
    (ha : chkE T a C ea = true) (hb : chkE T b C eb = true) (h6 : (constantsAlone 8 ea && constantsAlone 8 eb) = false) (h7 : (foldedForSure 8 ea && foldedForSure 8 eb) = false) :
    swappedStores [.Tuple [.Name x px, .Name y py] kt pt] (.Tuple [ea, eb] k2 pt2) X.env = pure (some [x, y]) := by
  have kx : X.env.kindOf x = some .local := by
    show X.env.scope.names.lookup x = _
    rw [cx.sc]
    exact h2
  have ky : X.env.kindOf y = some .local := by
    show X.env.scope.names.lookup y = _
    rw [cx.sc]
    exact h3
  have bk : X.env.blockKind = .function := by
    unfold Env.blockKind
    rw [cx.sc, h4]
    rfl
  have es : ([ea, eb].any fun | .Starred .. => true | _ => false) = false := by
    show (isStar ea || (isStar eb || false)) = false
    rw [not_isStar ha, not_isStar hb]
    rfl
  have ed : ([x, y] : List Str).eraseDups.length = 2 := by
    have hne : (y == x) = false := by
      rw [beq_eq_false_iff_ne]
      exact fun z => h1 z.symm
    simp [List.eraseDups_cons, hne, List.filter_cons]
  unfold swappedStores
  simp only [bk, es, kx, ky, h5, ed, List.filterMap_cons, List.filterMap_nil, List.head?_cons, Option.map_some, Option.getD_some, Expr.pos, List.all_cons, List.all_nil, Bool.and_true, h6, h7]
  simp [kx, ky, h5, ed]
  rintro (z | z)
  · have z : isStar ea = true := z
    rw [not_isStar ha] at z
    cases z
  · have z : isStar eb = true := z
    rw [not_isStar hb] at z
    cases z
section
variable {fresh : Bool} {ini : Option Addr} {M : List Nat} {B : Hp} {ρ0 : List Addr} {Lam0 : Addr → Prop} {s : Sit} {σ : L2.St} {H : Hp}
/-- a value for one of the two slots: a new list where the slot is own -/
def ParV (t : Tx) (m : Bool) (ρ : List Addr) (L : Addr → Prop) (H0 H : Hp) (v : V) (d : D) : Prop :=
  if m then ∃ p xs l, d = .lst l ∧ v = .ref p ∧ H0 p = none ∧ H p = some (.lst xs) ∧ p ∉ ρ ∧ Reps t ρ (fun b => L b ∨ b = p) H xs l else Rep t ρ L H v d
end
theorem ss_par (i j : Nat) (mi mj : Bool) {a b : E} (ia : Snd t G T k a) (ib : Snd t G T k b) : SndS t G T k (.par i j mi mj a b) := by
  refine .of (fun fresh ini C sts h => ?_) fun fresh ini B ρ0 Lam0 C X st cx hp h => ?_
  · unfold chkB at h
    split at h
    · exact ⟨_, rfl⟩
    · cases h
  · unfold chkB at h
    split at h
    · rename_i x px y py kt pt ea eb k2 pt2 pos el
      cases el
      unfold parB at h
      simp only [Bool.and_eq_true, decide_eq_true_eq, Bool.not_eq_true'] at h
      obtain ⟨⟨⟨⟨⟨⟨⟨⟨⟨⟨⟨⟨⟨⟨⟨n1, n2⟩, n3⟩, n4⟩, n5⟩, n6⟩, n7⟩, n8⟩, ha⟩, hb⟩, ba⟩, bb⟩, ⟨⟨m1, m2⟩, m3⟩⟩, ⟨⟨m4, m5⟩, m6⟩⟩, c1⟩, c2⟩ := h
      have hw := swp_of cx (px := px) (py := py) (pt := pt) (pt2 := pt2) (kt := kt) (k2 := k2) n4 n5 n6 n7 n8 ha hb c1 c2
      have sl : X.env.scope.names.lookup x = some .local := by rw [cx.sc]; exact n5
      have sl2 : X.env.scope.names.lookup y = some .local := by rw [cx.sc]; exact n6
      have s1 : starEach [ea, eb] X.env = (false, eval ea X.env) :: starEach [eb] X.env := star_one (not_star ha)
      have s2 : starEach [eb] X.env = (false, eval eb X.env) :: starEach [] X.env := star_one (not_star hb)
      refine (ps_par cx.calm (nd_of cx) (N_of cx n1) (N_of cx n2) n3 sl sl2 (pa_cons (ia.pe C X ea cx ha) (pa_cons (ib.pe C X eb cx hb) pa_nil s2) s1) hw).imp fun D σ H ⟨s, g, q⟩ => ⟨s, g.rel, ?_⟩
      have e0 : exc G (.par i j mi mj a b) s.e s.h = (ev G a s.e s.h).thn fun x h => (ev G b s.e h).thn fun y h => if (mi && !x.isL) || (mj && !y.isL) then .bad else .next (putN j y (putN i x s.e)) h := rfl
      rw [e0] at q
      cases e1 : ev G a s.e s.h with
      | bad => rw [e1] at q; exact q.elim
      | ok da h1 =>
        rw [e1] at q
        have q : AftS t fresh ini C.M B ρ0 Lam0 ((ev G b s.e h1).thn fun y h => if (mi && !da.isL) || (mj && !y.isL) then .bad else .next (putN j y (putN i da s.e)) h) D := q
        cases e2 : ev G b s.e h1 with
        | bad => rw [e2] at q; exact q.elim
        | ok db h2 =>
          rw [e2] at q
          have q : AftS t fresh ini C.M B ρ0 Lam0 (if ((mi && !da.isL) || (mj && !db.isL)) = true then .bad else .next (putN j db (putN i da s.e)) h2) D := q
          split at q
          · exact q.elim
          · rename_i hl
            have isl : ∀ (m : Bool) (d : CC.D), (m && !d.isL) = false → m = true → ∃ l, d = .lst l := fun m d h1 h2 => by
              subst h2
              cases d with
              | lst l => exact ⟨l, rfl⟩
              | _ => cases h1
            have hl : (mi && !da.isL) = false ∧ (mj && !db.isL) = false := by
              rw [← Bool.or_eq_false_iff]
              simpa using hl
            have iM : ∀ (m : Bool) (i : Nat), (m == C.M.contains i) = true → (m = true → i ∈ C.M) ∧ (m = false → i ∉ C.M) := fun m i h => by
              have h := eq_of_beq h
              constructor
              · intro z
                rw [z] at h
                simpa using h.symm
              · intro z
                rw [z] at h
                simpa using h.symm
            intro v H1 ρ1 st1 R1 res1
            cases mi with
            | false =>
              have rv := Res.rep ba g.rel res1
              refine ⟨s.to ρ1 h1, R1, ?_⟩
              show Aft t T C.M b (s.to ρ1 h1) σ H1 (ev G b s.e h1) _
              rw [e2]
              intro w H2 ρ2 st2 R2 res2
              have st2 : Stp ρ1 ρ2 H1 H2 := st2
              have R2 : Rel t C.M (s.to ρ2 h2) σ H2 := R2
              refine ⟨v, w, rfl, ?_⟩
              have rv2 : Rep t ρ2 (s.to ρ2 h2).L H2 v da := Rep.step (s := s.to ρ1 h1) (h' := h2) R1 st2 rv
              have g1 := g.step st1 R1
              cases mj with
              | false => exact q _ _ H2 (((g1.step st2 R2).put ((iM _ i m1).2 rfl) rv2).put ((iM _ j m4).2 rfl) (Res.rep (s := s.to ρ1 h1) bb R1 res2)) rfl rfl
              | true =>
                obtain ⟨l, rfl⟩ := isl _ _ hl.2 rfl
                unfold Res at res2
                rw [if_pos (by simpa using m6)] at res2
                obtain ⟨p, xs, rfl, w1, w2, w3, w4⟩ := res2
                have go := g1.own (h' := h2) st2 R2 ((iM _ j m4).1 rfl) m5 w1 w2 w3 w4
                have np : ¬ (⟨Lam0, ρ2, updM s.μ j p, s.e.set j (some (.lst l)), h2⟩ : Sit).L p → False := fun z => z (.inr (.inr ⟨j, by show updM s.μ j p j = some p; unfold updM; rw [if_pos rfl]⟩))
                have rv3 : Rep t ρ2 (⟨Lam0, ρ2, updM s.μ j p, s.e.set j (some (.lst l)), h2⟩ : Sit).L H2 v da := by
                  refine Rep.move (fun _ _ e => pre_get st2.pre e) (fun b o e n => ?_) st2.fix da v rv
                  obtain ⟨z1, z2⟩ := st2.L (s := s.to ρ1 h1) (h' := h2) R1 b o e n
                  refine ⟨z1, fun y => ?_⟩
                  rcases y with y | y | ⟨c, y⟩
                  · exact z2 (.inl (by rw [← g.lam] at y; exact y))
                  · exact z2 (.inr (.inl y))
                  · have y : updM s.μ j p c = some b := y
                    unfold updM at y
                    split at y
                    · cases y
                      rw [e] at w1
                      cases w1
                    · exact z2 (.inr (.inr ⟨c, y⟩))
                have fin := go.put (i := i) (v := v) (d := da) ((iM _ i m1).2 rfl) rv3
                have es : (σ.set j (some (.ref p))).set i (some v) = (σ.set i (some v)).set j (some (.ref p)) := List.set_comm _ _ (fun z => n3 z.symm)
                rw [es] at fin
                refine q _ _ H2 fin ?_ rfl
                show (s.e.set j (some (.lst l))).set i (some da) = (s.e.set i (some da)).set j (some (.lst l))
                exact List.set_comm _ _ (fun z => n3 z.symm)
            | true =>
              obtain ⟨la, rfl⟩ := isl _ _ hl.1 rfl
              unfold Res at res1
              rw [if_pos (by simpa using m3)] at res1
              obtain ⟨p, xs, rfl, w1, w2, w3, w4⟩ := res1
              have Rf := g.rel.fresh st1 R1 w1 w2 w3
              refine ⟨(s.to ρ1 h1).live p, Rf, ?_⟩
              show Aft t T C.M b ((s.to ρ1 h1).live p) σ H1 (ev G b s.e h1) _
              rw [e2]
              intro w H2 ρ2 st2 R2 res2
              have st2 : Stp ρ1 ρ2 H1 H2 := st2
              have R2 : Rel t C.M ((s.to ρ2 h2).live p) σ H2 := R2
              refine ⟨_, w, rfl, ?_⟩
              have w2' : H2 p = some (.lst xs) := st2.keep _ _ w2 w3
              have rA : Reps t ρ2 ((s.to ρ2 h2).live p).L H2 xs la := Reps.step (s := (s.to ρ1 h1).live p) (h' := h2) Rf st2 (w4.less fun b z => (live_L (s.to ρ1 h1) p b).mp z)
              have nl : ¬ Lam0 p := fun z => by
                rw [← g.lam] at z
                exact g.rel.free w1 (.inl z)
              -- the first slot is own
              have R3 : Rel t C.M ⟨Lam0, ρ2, updM s.μ i p, s.e.set i (some (.lst la)), h2⟩ (σ.set i (some (.ref p))) H2 := R2.take (.inr rfl) ((iM _ i m1).1 rfl) m2.1 w2' rA (fun b z => ⟨.inl (by rw [← g.lam] at z; exact z), fun y => nl (y ▸ z)⟩) (fun b z n => by
                rcases z with z | z
                · have z : s.Lam b := z
                  rw [g.lam] at z
                  exact z
                · exact absurd z n)
              have newp : ∀ c d, updM s.μ i p c = some d → B d = none := fun c d e => by
                unfold updM at e
                split at e
                · cases e
                  exact g.stp.free w1
                · exact g.new c d e
              have g3 : Gd t ini C.M B ρ0 Lam0 ⟨Lam0, ρ2, updM s.μ i p, s.e.set i (some (.lst la)), h2⟩ (σ.set i (some (.ref p))) H2 := by
                refine ⟨rfl, R3, (g.stp.trans st1).trans st2, newp, fun hn c d e m => ?_, fun x e => by
                  show updM s.μ i p 0 = some x
                  unfold updM
                  rw [if_neg fun z => m2.2 z.symm]
                  exact g.slf x e⟩
                have e : (s.e.set i (some (.lst la)))[c]? = some (some d) := e
                by_cases hc : i = c
                · subst hc
                  by_cases hlt : i < s.e.length
                  · rw [List.getElem?_set_self hlt] at e
                    cases e
                    exact ⟨_, rfl⟩
                  · rw [List.getElem?_eq_none (by rw [List.length_set]; omega)] at e
                    cases e
                · rw [List.getElem?_set_ne hc] at e
                  exact g.lst hn c d e m
              have L3 : ∀ b, (⟨Lam0, ρ2, updM s.μ i p, s.e.set i (some (.lst la)), h2⟩ : Sit).L b → ((s.to ρ2 h2).live p).L b := fun b z => by
                rcases z with z | z | ⟨c, z⟩
                · exact .inl (.inl (by rw [← g.lam] at z; exact z))
                · exact .inr (.inl z)
                · have z : updM s.μ i p c = some b := z
                  unfold updM at z
                  split at z
                  · cases z
                    exact .inl (.inr rfl)
                  · exact .inr (.inr ⟨c, z⟩)
              cases mj with
              | false =>
                have rw' := Res.rep (s := (s.to ρ1 h1).live p) bb Rf res2
                exact q _ _ H2 (g3.put ((iM _ j m4).2 rfl) (rw'.less L3)) rfl rfl
              | true =>
                obtain ⟨lb, rfl⟩ := isl _ _ hl.2 rfl
                unfold Res at res2
                rw [if_pos (by simpa using m6)] at res2
                obtain ⟨p2, ys, rfl, z1, z2, z3, z4⟩ := res2
                -- the second list is new to the state with the first one live
                have st2' : Stp ((s.to ρ1 h1).live p).ρ ρ2 H1 H2 := st2
                have Rf2 : Rel t C.M (((s.to ρ2 h2).live p).live p2) σ H2 := Rf.fresh st2' R2 z1 z2 z3
                have np2 : p2 ≠ p := fun z => by
                  rw [z, w2] at z1
                  cases z1
                have rA2 : Reps t ρ2 (((s.to ρ2 h2).live p).live p2).L H2 xs la := by
                  refine Reps.move (fun _ _ e => pre_get st2.pre e) (fun b o e n => ?_) st2.fix la xs (w4.less fun b z => (live_L (s.to ρ1 h1) p b).mp z)
                  obtain ⟨y1, y2⟩ := st2'.L (h' := h2) Rf b o e n
                  refine ⟨y1, fun y => ?_⟩
                  rcases (live_L ((s.to ρ2 h2).live p) p2 b).mp y with y | y
                  · exact y2 y
                  · rw [y, z1] at e
                    cases e
                have nl2 : ¬ Lam0 p2 := fun z => by
                  rw [← g.lam] at z
                  exact Rf.free z1 (.inl (.inl z))
                have R4 : Rel t C.M ⟨fun a => Lam0 a ∨ a = p2, ρ2, updM s.μ i p, s.e.set i (some (.lst la)), h2⟩ (σ.set i (some (.ref p))) H2 := Rf2.take (.inl (.inr rfl)) ((iM _ i m1).1 rfl) m2.1 w2' rA2 (fun b z => by
                    rcases z with z | z
                    · exact ⟨.inl (.inl (by rw [← g.lam] at z; exact z)), fun y => nl (y ▸ z)⟩
                    · exact ⟨.inr z, fun y => np2 (z.symm.trans y)⟩) (fun b z n => by
                    rcases z with (z | z) | z
                    · have z : s.Lam b := z
                      rw [g.lam] at z
                      exact .inl z
                    · exact absurd z n
                    · exact .inr z)
                have rB : Reps t ρ2 (⟨fun a => Lam0 a ∨ a = p2, ρ2, updM s.μ i p, s.e.set i (some (.lst la)), h2⟩ : Sit).L H2 ys lb := z4.less fun b z => by
                  have z4' : ∀ b, ((s.to ρ2 h2).live p).L b ∨ b = p2 → (((s.to ρ1 h1).live p).to ρ2 h2).L b ∨ b = p2 := fun _ z => z
                  rcases z with (z | z) | z | ⟨c, z⟩
                  · exact .inl (.inl (.inl (by rw [← g.lam] at z; exact z)))
                  · exact .inr z
                  · exact .inl (.inr (.inl z))
                  · have z : updM s.μ i p c = some b := z
                    unfold updM at z
                    split at z
                    · cases z
                      exact .inl (.inl (.inr rfl))
                    · exact .inl (.inr (.inr ⟨c, z⟩))
                have R5 : Rel t C.M ⟨Lam0, ρ2, updM (updM s.μ i p) j p2, (s.e.set i (some (.lst la))).set j (some (.lst lb)), h2⟩ ((σ.set i (some (.ref p))).set j (some (.ref p2))) H2 := R4.take (.inr rfl) ((iM _ j m4).1 rfl) m5.1 z2 rB (fun b z => ⟨.inl z, fun y => nl2 (y ▸ z)⟩) (fun b z n => z.elim id fun y => absurd y n)
                refine q _ _ H2 ⟨rfl, R5, g3.stp, fun c d e => ?_, fun hn c d e m => ?_, fun x e => by
                  show updM (updM s.μ i p) j p2 0 = some x
                  unfold updM
                  rw [if_neg fun z => m5.2 z.symm, if_neg fun z => m2.2 z.symm]
                  exact g.slf x e⟩ rfl rfl
                · have e : updM (updM s.μ i p) j p2 c = some d := e
                  unfold updM at e
                  split at e
                  · cases e
                    exact (g.stp.trans st1).free z1
                  · exact newp c d e
                · have e : ((s.e.set i (some (.lst la))).set j (some (.lst lb)))[c]? = some (some d) := e
                  by_cases hc : j = c
                  · subst hc
                    by_cases hlt : j < (s.e.set i (some (.lst la))).length
                    · rw [List.getElem?_set_self hlt] at e
                      cases e
                      exact ⟨_, rfl⟩
                    · rw [List.getElem?_eq_none (by rw [List.length_set]; omega)] at e
                      cases e
                  · rw [List.getElem?_set_ne hc] at e
                    exact g3.lst hn c d e m
    · cases h
end
end CC

set_option Elab.async false
set_option linter.all false
set_option maxRecDepth 100000
set_option maxHeartbeats 1000000
/-! A new list becomes a box; pop(0) of a box. -/
namespace CC
open PySem PySem.Spec PyProof.Rows L2

section
variable {t : Tx} {G : Pg} {T : Tab} {k : Nat}
theorem Rel.boxed {M : List Nat} {s : Sit} {σ : L2.St} {H : Hp} {p : Addr} {xs : List V} {l : List D} {i : Nat} {Lam' : Addr → Prop} (R : Rel t M s σ H) (hL : s.Lam p) (hi : i ∉ M) (hl : H p = some (.lst xs)) (r : Reps t s.ρ s.L H xs l) (hn : D.nls l = true) (hLam : ∀ a, Lam' a → s.Lam a ∧ a ≠ p) :
    Rel t M ⟨Lam', s.ρ ++ [p], s.μ, s.e.set i (some (.obj s.h.length)), s.h ++ [.lst l]⟩ (σ.set i (some (.ref p))) H := by
  have np : p ∉ s.ρ := fun z => R.lamb _ z hL
  have L' : ∀ b, (⟨Lam', s.ρ ++ [p], s.μ, s.e.set i (some (.obj s.h.length)), s.h ++ [.lst l]⟩ : Sit).L b → s.L b := fun b z => by
    rcases z with z | z | z
    · exact .inl (hLam b z).1
    · rcases List.mem_append.mp (show b ∈ s.ρ ++ [p] from z) with z | z
      · exact .inr (.inl z)
      · rw [List.mem_singleton.mp z]
        exact .inl hL
    · exact .inr (.inr z)
  have pre : ∀ (n : Nat) (a : Addr), s.ρ[n]? = some a → (s.ρ ++ [p])[n]? = some a := fun n a e => pre_get (List.prefix_append _ _) e
  have mv : ∀ d v, Rep t s.ρ s.L H v d → Rep t (s.ρ ++ [p]) (⟨Lam', s.ρ ++ [p], s.μ, s.e.set i (some (.obj s.h.length)), s.h ++ [.lst l]⟩ : Sit).L H v d := fun d v r => Rep.move pre (fun b o e n => ⟨e, fun z => n (L' b z)⟩) (fun _ _ e _ => e) d v r
  have mvs : ∀ d v, Reps t s.ρ s.L H v d → Reps t (s.ρ ++ [p]) (⟨Lam', s.ρ ++ [p], s.μ, s.e.set i (some (.obj s.h.length)), s.h ++ [.lst l]⟩ : Sit).L H v d := fun d v r => Reps.move pre (fun b o e n => ⟨e, fun z => n (L' b z)⟩) (fun _ _ e _ => e) d v r
  have atp : (s.ρ ++ [p])[s.h.length]? = some p := by
    rw [R.blen, List.getElem?_append_right (Nat.le_refl _), Nat.sub_self]
    rfl
  refine ⟨?_, fun j d e n => ?_, fun j d e n => ?_, R.inj, fun j a e => ?_, fun n m e => ?_, ?_, ?_, fun a z => R.lam a (L' a z), fun a z y => ?_⟩
  · show (s.e.set i _).length = _
    rw [List.length_set, List.length_set]
    exact R.len
  · have e : (s.e.set i (some (.obj s.h.length)))[j]? = some (some d) := e
    by_cases hj : i = j
    · subst hj
      by_cases hlt : i < s.e.length
      · rw [List.getElem?_set_self hlt] at e
        cases e
        refine ⟨.ref p, ?_, .obj atp⟩
        rw [List.getElem?_set_self (by rw [← R.len]; exact hlt)]
      · rw [List.getElem?_eq_none (by rw [List.length_set]; omega)] at e
        cases e
    · rw [List.getElem?_set_ne hj] at e ⊢
      obtain ⟨v, e1, r⟩ := R.val j d e n
      exact ⟨v, e1, mv d v r⟩
  · have e : (s.e.set i (some (.obj s.h.length)))[j]? = some (some d) := e
    have hj : i ≠ j := fun z => hi (z ▸ n)
    rw [List.getElem?_set_ne hj] at e ⊢
    obtain ⟨a, e1, e2, r⟩ := R.own j d e n
    refine ⟨a, e1, e2, ?_⟩
    cases d with
    | lst ds =>
      obtain ⟨ys, h1, h2⟩ := r
      exact ⟨ys, h1, mvs _ _ h2⟩
    | ins c ds =>
      obtain ⟨dx, vs, ws, h1, h2, h3, h4⟩ := r
      exact ⟨dx, vs, ws, h1, h2, h3, mvs _ _ h4⟩
    | _ => exact r.elim
  · obtain ⟨h1, h2, h3⟩ := R.mfr j a e
    refine ⟨fun z => ?_, fun z => h2 (hLam a z).1, h3⟩
    rcases List.mem_append.mp (show a ∈ s.ρ ++ [p] from z) with z | z
    · exact h1 z
    · rw [List.mem_singleton.mp z] at h2
      exact h2 hL
  · have e : (s.h ++ [O.lst l])[n]? = some (.lst m) := e
    by_cases hlt : n < s.h.length
    · rw [List.getElem?_append_left hlt] at e
      obtain ⟨h1, a, ys, h2, h3, h4⟩ := R.box n m e
      exact ⟨h1, a, ys, pre n a h2, h3, mvs _ _ h4⟩
    · rw [List.getElem?_append_right (by omega)] at e
      have hz : n = s.h.length := by
        have := (List.getElem?_eq_some_iff.mp e).1
        simp at this
        omega
      subst hz
      rw [Nat.sub_self] at e
      cases e
      exact ⟨hn, p, xs, atp, hl, mvs _ _ r⟩
  · show (s.h ++ [O.lst l]).length = (s.ρ ++ [p]).length
    rw [List.length_append, List.length_append, R.blen]
    rfl
  · show (s.ρ ++ [p]).Nodup
    rw [List.nodup_append]
    refine ⟨R.bnd, by simp, fun a ha b hb z => ?_⟩
    rw [List.mem_singleton.mp hb] at z
    exact np (z ▸ ha)
  · rcases List.mem_append.mp (show a ∈ s.ρ ++ [p] from z) with z | z
    · exact R.lamb a z (hLam a y).1
    · exact (hLam a y).2 (List.mem_singleton.mp z)
theorem ss_setB (i : Nat) {a : E} (ia : Snd t G T k a) (ic : SndC t G T k a) : SndS t G T k (.setB i a) := by
  refine .of (fun fresh ini C sts h => ?_) fun fresh ini B ρ0 Lam0 C X st cx hp h => ?_
  · unfold chkB at h
    split at h
    · exact ⟨_, rfl⟩
    · cases h
  · unfold chkB at h
    split at h
    · rename_i x px v pos el
      cases el
      unfold nmS at h
      simp only [Bool.and_eq_true, decide_eq_true_eq, Bool.not_eq_true'] at h
      obtain ⟨⟨⟨⟨⟨⟨h1, h2⟩, h3⟩, h4⟩, h5⟩, h6⟩, h7⟩ := h
      refine (ic C X i x px v pos cx h5 h7 h1 h2 h3).imp fun D σ H ⟨s, g, q⟩ => ⟨s, g.rel, ?_⟩
      have e0 : exc G (.setB i a) s.e s.h = (ev G a s.e s.h).thn fun d h => match d with | .lst l => if CC.D.nls l then .next (putN i (.obj h.length) s.e) (h ++ [.lst l]) else .bad | _ => .bad := rfl
      rw [e0] at q
      cases e1 : ev G a s.e s.h with
      | bad => rw [e1] at q; exact q.elim
      | ok d h1 =>
        rw [e1] at q
        cases d with
        | lst l =>
          have q : AftS t fresh ini C.M B ρ0 Lam0 (if CC.D.nls l then .next (putN i (.obj h1.length) s.e) (h1 ++ [.lst l]) else .bad) D := q
          split at q
          · rename_i hn
            intro w H1 ρ1 st R1 res
            unfold Res at res
            rw [if_pos h6] at res
            obtain ⟨p, xs, rfl, w1, w2, w3, w4⟩ := res
            have Rf := g.rel.fresh st R1 w1 w2 w3
            have nl : ¬ Lam0 p := fun z => by
              rw [← g.lam] at z
              exact g.rel.free w1 (.inl z)
            have iM : i ∉ C.M := by simpa using h4
            have Rb := Rf.boxed (Lam' := Lam0) (.inr rfl) iM w2 (w4.less fun b z => (live_L (s.to ρ1 h1) p b).mp z) hn (fun b z => ⟨.inl (by rw [← g.lam] at z; exact z), fun y => nl (y ▸ z)⟩)
            have stt := g.stp.trans st
            refine q _ _ H1 ⟨rfl, Rb, ⟨stt.keep, stt.fix, stt.trk, stt.pre.trans (List.prefix_append _ _), fun b z => ?_⟩, g.new, fun hn' j x e m => ?_, g.slf⟩ rfl rfl
            · rcases List.mem_append.mp (show b ∈ ρ1 ++ [p] from z) with z | z
              · exact stt.new b z
              · rw [List.mem_singleton.mp z]
                exact .inr (g.stp.free w1)
            · have e : (s.e.set i (some (.obj h1.length)))[j]? = some (some x) := e
              have hj : i ≠ j := fun z => iM (z ▸ m)
              rw [List.getElem?_set_ne hj] at e
              exact g.lst hn' j x e m
          · exact q.elim
        | _ => exact q.elim
    · cases h
end
end CC

set_option Elab.async false
set_option linter.all false
set_option maxRecDepth 100000
set_option maxHeartbeats 1000000
/-! pop(0) of a box. -/
namespace CC
open PySem PySem.Spec PyProof.Rows L2

section
variable {t : Tx} {G : Pg} {T : Tab} {k : Nat}
/-- a box is changed -/
theorem Rel.rebox {M : List Nat} {s : Sit} {σ : L2.St} {H : Hp} {p : Addr} {xs ys : List V} {l : List D} {n : Nat} (R : Rel t M s σ H) (hn : s.ρ[n]? = some p) (hl : H p = some (.lst xs)) (hr : Reps t s.ρ s.L H ys l) (nl : D.nls l = true) :
    Stp s.ρ s.ρ H (upd H p (.lst ys)) ∧ Rel t M (s.to s.ρ (s.h.set n (.lst l))) σ (upd H p (.lst ys)) := by
  have pm : p ∈ s.ρ := List.mem_of_getElem? hn
  have mvT : ∀ b o, H b = some o → Fix o → upd H p (.lst ys) b = some o := fun b o e f => by
    rw [upd_ne fun z => by
      rw [z, hl] at e
      cases e
      exact f]
    exact e
  have st : Stp s.ρ s.ρ H (upd H p (.lst ys)) := ⟨fun b o e nb => by
    have hb : b ≠ p := fun z => nb (by rw [z]; exact pm)
    rw [upd_ne hb]
    exact e, mvT, fun b o e => by
      by_cases z : b = p
      · rw [z]
        exact ⟨_, upd_same⟩
      · exact ⟨o, by rw [upd_ne z]; exact e⟩, List.prefix_refl _, fun _ z => .inl z⟩
  refine ⟨st, R.step st (fun m q e => ?_) (by rw [List.length_set]; exact R.blen) R.bnd⟩
  by_cases hm : n = m
  · subst hm
    by_cases hlt : n < s.h.length
    · rw [List.getElem?_set_self hlt] at e
      cases e
      exact ⟨nl, p, ys, hn, upd_same, Reps.nl mvT l ys nl hr⟩
    · rw [List.getElem?_eq_none (by rw [List.length_set]; omega)] at e
      cases e
  · rw [List.getElem?_set_ne hm] at e
    obtain ⟨h1, a, zs, h2, h3, h4⟩ := R.box m q e
    have na : a ≠ p := fun z => by
      rw [z] at h2
      have l1 := (List.getElem?_eq_some_iff.mp hn).1
      exact hm ((List.getElem?_inj l1 R.bnd).mp (hn.trans h2.symm))
    exact ⟨h1, a, zs, h2, by rw [upd_ne na]; exact h3, Reps.nl mvT q zs h1 h4⟩
theorem s_pop0 {a : E} (ia : Snd t G T k a) : Snd t G T k (.pop0 a) := by
  refine .plain (fun C X ex cx h => ?_) (fun C ex h => ?_) (fun C es => rfl)
  · unfold chkE at h
    split at h
    · rename_i v x ap c ck cp p
      simp only [Bool.and_eq_true, decide_eq_true_eq] at h
      obtain ⟨⟨⟨h1, h2⟩, h3⟩, h4⟩ := h
      subst h1 h2
      have hfew : ((backTo p (starEach [.Constant (.int 0) ck cp] X.env)).all (fun x => !x.1) && (backToKw p (keywordEach [] X.env)).all (fun x => x.1.isSome) && decide ([Expr.Constant (.int 0) ck cp].length + ([] : List Keyword).length + (if ([] : List Keyword).isEmpty then 0 else 1) < 30)) = true := rfl
      refine (pe_bm PySem.F.plainAttrs_list PySem.F.slot_list_pop PySem.F.type_list_pop mt_popAt (ia.pe C X v cx h3) (pa_cons pe_int pa_nil) (base_of h3 _ X.env _) hfew h4 rfl rfl).imp fun σ H Q ⟨s, R, q⟩ => ⟨s, R, ?_⟩
      have e0 : ev G (.pop0 a) s.e s.h = (ev G a s.e s.h).bind fun x h => pop0D x h := rfl
      rw [e0] at q
      cases e1 : ev G a s.e s.h with
      | bad => rw [e1] at q; exact q.elim
      | ok d h1 =>
        rw [e1] at q
        intro w H1 ρ1 st R1 res
        cases d with
        | obj n =>
          have q : Aft t T C.M (.pop0 a) s σ H (match h1[n]? with | some (.lst (d :: r)) => .ok d (h1.set n (.lst r)) | _ => .bad) Q := q
          split at q
          · rename_i d r eh
            have rv : Rep t ρ1 (s.to ρ1 h1).L H1 w (.obj n) := Res.see R res
            cases rv with
            | obj hn =>
              obtain ⟨b1, p', xs, b2, b3, b4⟩ := R1.box n (d :: r) eh
              have ep : p' = _ := Option.some.inj (b2.symm.trans hn)
              subst ep
              cases b4 with
              | cons rd rr =>
                rename_i y ys
                have b1' : d.nl = true ∧ D.nls r = true := by simpa [D.nls] using b1
                obtain ⟨st2, R2⟩ := R1.rebox hn b3 rr b1'.2
                refine ⟨.inl ⟨rfl, y :: ys, .inl (.inl b3)⟩, p', y :: ys, 0, 0, y, rfl, rfl, b3, by decide, by decide, ?_, rfl, ?_⟩
                · exact seqIndex_of (Int.le_refl 0) (by simp)
                · have nd : ∀ l, d ≠ .lst l := fun l z => by
                    rw [z] at b1'
                    cases b1'.1
                  exact q y _ ρ1 (st.trans st2) R2 (Res.any (s := s) (Rep.nl st2.fix d y b1'.1 rd) nd)
          · exact q.elim
        | _ => exact q.elim
    · cases h
  · unfold chkE at h
    split at h
    · rfl
    · cases h
end
end CC

set_option Elab.async false
set_option linter.all false
set_option maxRecDepth 100000
set_option maxHeartbeats 1000000
/-! index of lists and of tuples that are known by their objects. -/
namespace CC
open PySem PySem.Spec PyProof.Rows L2

def rTupIx (K : PySem.W.Frag) : V → List V → Hp → VK → Prop := fun x xs H Q => ∃ (a : Addr) (o : Obj) (ys : List V) (y : V) (d : PyData) (ds : List PyData) (j : Nat) (z : PyData), x = .ref a ∧ xs = [y] ∧ H a = some (.frz o (.tup ys)) ∧ DpAll K H ys ds ∧ Dp K H y d ∧
  SeqAt.shaped (.list ds) = true ∧ SeqAt.shaped d = true ∧ ds[j]? = some z ∧ PyData.eqv z d = true ∧ (∀ (m : Nat) (z' : PyData), m < j → ds[m]? = some z' → PyData.eqv z' d = false) ∧ Q (.int (j : Nat)) H
theorem mt_tupIx {X : Cx} (hu : X.A.units + 65 < cLine) : MtR X "tuple.index" (rTupIx X.K) := by
  intro pins s σ H x xs v us Q I rx rxs h
  obtain ⟨a, o, ys, y, d, ds, j, z, rfl, rfl, hf, ha, hy, sl, sd, hz, hzj, hno, q⟩ := h
  cases (show v = Value.ref a from rx)
  obtain ⟨uy, rfl, ry⟩ := rxs.one
  obtain ⟨bs, r1⟩ := Dp.reads I d y uy hy ry
  have lay : PyData.canLayAll0 ds = true := SeqAt.canLay_of_shaped sl
  obtain ⟨its, rv, ⟨⟨oc, od, dt, sls⟩, g1, g2, n, g3⟩, _⟩ := I.tuple (.inl (.inr ⟨o, hf⟩))
  simp only at g2 g3
  subst g2 g3
  obtain ⟨as, r2⟩ := Dp.readsAll I ds ys its ha rv
  have len : its.length = ds.length := SeqAt.ReadsAll.length ds its as r2
  have hmap : its.map (SeqAt.readOf s.heap) = ds := SeqAt.readsAll_map ds its as lay r2
  have get : ∀ (m : Nat) (hm : m < its.toArray.size) (z' : PyData), ds[m]? = some z' → SeqAt.readOf s.heap its.toArray[m] = z' := fun m hm z' e => by
    have hm2 : m < its.length := by simpa using hm
    have e2 : (its.map (SeqAt.readOf s.heap))[m]? = some z' := by rw [hmap]; exact e
    rw [List.getElem?_map, List.getElem?_eq_getElem hm2] at e2
    simpa using e2
  have hj : j < its.toArray.size := by
    have := (List.getElem?_eq_some_iff.mp hz).1
    simp only [List.size_toArray]
    omega
  refine call_meets PySem.F.slot_tuple_index ⟨_, g1, rfl⟩ PySem.F.entry_tuple_index (PySem.F.args_tuple_index_2 _ _) (TI.tuple_indexAt a its.toArray n od sls uy (fun w => PyData.eqv (SeqAt.readOf s.heap w) d) j hj ?_ ?_)
    ⟨g1, SeqAt.items_eqAt (vs := its.toArray) (show ReadsAll s.heap its.toArray.toList ds as from r2) r1 lay (SeqAt.canLay_of_shaped sd) (room_in_shaped sd hu), ⟨.int (j : Nat), H, I.tok _, ⟨_, rfl⟩, q⟩⟩
  · show PyData.eqv (SeqAt.readOf s.heap its.toArray[j]) d = true
    rw [get j hj z hz]
    exact hzj
  · intro m hm hmj
    have hd : m < ds.length := by
      simp only [List.size_toArray] at hm
      omega
    show PyData.eqv (SeqAt.readOf s.heap its.toArray[m]) d = false
    rw [get m hm _ (List.getElem?_eq_getElem hd)]
    exact hno m _ hmj (List.getElem?_eq_getElem hd)
/-- a method of a tuple that is known by its object -/
def tBF (r : V → List V → Hp → VK → Prop) (to : TE) (t : TA) : TE := fun σ H Q => to σ H fun x H1 => (∃ a o ys, x = V.ref a ∧ H1 a = some (.frz o (.tup ys)) ∧ o.dict = none) ∧ t σ H1 fun xs H2 => r x xs H2 Q
theorem pe_bf {X : Cx} {o e : Expr} {to : TE} {t : TA} {name : Str} {ap p : Pos} {id : String} {r : V → List V → Hp → VK → Prop} (slot : Slot "tuple" name id) (hty : typeOf (.builtin id) = pure (.type "method_descriptor")) (hm : MtR X id r) (ho : PE X o to) (ha : PA X [e] t)
    (hbase : attributeBase o name X.env (eval o X.env) = eval o X.env) (hline : (ap.endLine == p.line) = true) (hs : starEach [e] X.env = (false, eval e X.env) :: starEach [] X.env) : PE X (.Call (.Attribute o name ap) [e] [] p) (tBF r to t) := by
  refine ⟨fun pins s σ H Q I h => ?_⟩
  have hfew : ((backTo p (starEach [e] X.env)).all (fun x => !x.1) && (backToKw p (keywordEach [] X.env)).all (fun x => x.1.isSome) && decide ([e].length + ([] : List Keyword).length + (if ([] : List Keyword).isEmpty then 0 else 1) < 30)) = true := by
    rw [hs]
    rfl
  refine wpAny_Call_method_late hbase hfew hline rfl (thn (ho.run pins s σ H _ I h) fun v s1 ⟨x, H1, I1, rx, ⟨a, ob, ys, ex, hf, hd⟩, q1⟩ => ?_)
  subst ex
  obtain rfl : v = Value.ref a := rx
  obtain ⟨g0, _, its, rv, o2, g1, g2, _⟩ := (show ObjOk X.prog X.w H1 s1.heap a (.frz ob (.tup ys)) from I1.hok a _ hf)
  have eo : o2 = ob := by
    rw [g0] at g1
    exact (Option.some.inj g1).symm
  subst eo
  refine ⟨"tuple", id, PySem.F.plainAttrs_tuple, slot, hty, ⟨_, g0, g2⟩, fun b e => ⟨o2, by cases e; exact g0, hd⟩, ?_⟩
  have hA := ha.run p pins s1 σ H1 _ I1 q1
  rw [hs] at hA ⊢
  refine Calls.callWith_builtin rfl (Calls.evalArgs_plain ?_)
  exact thn hA fun us s2 ⟨vs, H2, I2, r2, q2⟩ => hm pins s2 σ H2 (.ref a) vs _ us Q I2 rfl r2 q2
theorem idxP_of (p : PyData) : ∀ (l : List PyData) (n m : Nat), idxP p l n = some m → ∃ j z, m = n + j ∧ l[j]? = some z ∧ PyData.eqv z p = true ∧ ∀ (i : Nat) (z' : PyData), i < j → l[i]? = some z' → PyData.eqv z' p = false
  | [], n, m, h => by cases h
  | q :: r, n, m, h => by
    have h : (if PyData.eqv q p then some n else idxP p r (n + 1)) = some m := h
    split at h
    · rename_i e
      cases h
      exact ⟨0, q, rfl, rfl, e, fun i z hi => absurd hi (Nat.not_lt_zero i)⟩
    · rename_i e
      obtain ⟨j, z, h1, h2, h3, h4⟩ := idxP_of p r (n + 1) m h
      refine ⟨j + 1, z, by omega, by simpa using h2, h3, fun i z' hi hz => ?_⟩
      cases i with
      | zero =>
        have hz : some q = some z' := by simpa using hz
        cases hz
        simpa using e
      | succ i => exact h4 i z' (by omega) (by simpa using hz)
section
variable {t : Tx} {G : Pg} {T : Tab} {k : Nat}
theorem tix_of {l : List D} {y d : D} {h h' : Hb} (e : tixL l y h = .ok d h') : ∃ ps p j z, D.pys l = some ps ∧ y.py = some p ∧ SeqAt.shaped (.list ps) = true ∧ SeqAt.shaped p = true ∧ ps[j]? = some z ∧ PyData.eqv z p = true ∧ (∀ (i : Nat) (z' : PyData), i < j → ps[i]? = some z' → PyData.eqv z' p = false) ∧ d = .int (j : Nat) ∧ h' = h := by
  unfold tixL at e
  split at e
  · rename_i ps p e1 e2
    split at e
    · rename_i hs
      rw [Bool.and_eq_true] at hs
      split at e
      · rename_i n en
        obtain ⟨j, z, h1, h2, h3, h4⟩ := idxP_of p ps 0 n en
        cases e
        exact ⟨ps, p, j, z, e1, e2, hs.1, hs.2, h2, h3, h4, by rw [h1, Nat.zero_add], rfl⟩
      · cases e
    · cases e
  · cases e
theorem s_tix (tu : Bool) {a b : E} (ia : Snd t G T k a) (ib : Snd t G T k b) : Snd t G T k (.tix tu a b) := by
  refine .plain (fun C X ex cx h => ?_) (fun C ex h => ?_) (fun C es => rfl)
  · unfold chkE at h
    split at h
    · rename_i v x ap e p
      simp only [Bool.and_eq_true, decide_eq_true_eq] at h
      obtain ⟨⟨⟨h1, h2⟩, h3⟩, h4⟩ := h
      subst h1
      have he : starEach [e] X.env = (false, eval e X.env) :: starEach [] X.env := star_one (not_star h3)
      have hu : X.A.units + 65 < cLine := by
        have := cx.room.un
        omega
      have e0 : ∀ e h, ev G (.tix tu a b) e h = (ev G a e h).bind fun x h => (ev G b e h).bind fun y h => tixD tu x y h := fun _ _ => rfl
      -- the two values, and what is found
      have go : ∀ σ H Q, tE t G T C.M (.tix tu a b) σ H Q → ∃ s : Sit, Rel t C.M s σ H ∧ Aft t T C.M a s σ H (ev G a s.e s.h) fun v H1 => ((tu = true ∧ ∃ ad o ys, v = .ref ad ∧ H1 ad = some (.frz o (.tup ys)) ∧ o.dict = none) ∨ (tu = false ∧ ∃ ad xs, v = .ref ad ∧ H1 ad = some (.lst xs))) ∧
          tE t G T C.M b σ H1 fun w H2 => ∃ ps p j z, SeqAt.shaped (.list ps) = true ∧ SeqAt.shaped p = true ∧ ps[j]? = some z ∧ PyData.eqv z p = true ∧ (∀ (i : Nat) (z' : PyData), i < j → ps[i]? = some z' → PyData.eqv z' p = false) ∧ Dp t.K H2 w p ∧ Q (.int (j : Nat)) H2 ∧
            ((tu = true ∧ ∃ ad o ys, v = .ref ad ∧ H2 ad = some (.frz o (.tup ys)) ∧ DpAll t.K H2 ys ps) ∨ (tu = false ∧ Dp t.K H2 v (.list ps))) := by
        intro σ H Q ⟨s, R, q⟩
        refine ⟨s, R, ?_⟩
        rw [e0] at q
        cases e1 : ev G a s.e s.h with
        | bad => rw [e1] at q; exact q.elim
        | ok da h1 =>
          rw [e1] at q
          have q : Aft t T C.M (.tix tu a b) s σ H ((ev G b s.e h1).bind fun y h => tixD tu da y h) Q := q
          cases e2 : ev G b s.e h1 with
          | bad => rw [e2] at q; exact q.elim
          | ok db h2 =>
            rw [e2] at q
            have q : Aft t T C.M (.tix tu a b) s σ H (tixD tu da db h2) Q := q
            have key : ∃ l, ((tu = true ∧ da = .ft l) ∨ (tu = false ∧ da = .lst l)) ∧ Aft t T C.M (.tix tu a b) s σ H (tixL l db h2) Q := by
              unfold tixD at q
              split at q
              · exact ⟨_, .inl ⟨rfl, rfl⟩, q⟩
              · exact ⟨_, .inr ⟨rfl, rfl⟩, q⟩
              · exact q.elim
            obtain ⟨l, hd, qq⟩ := key
            cases e3 : tixL l db h2 with
            | bad => rw [e3] at qq; exact qq.elim
            | ok d h3 =>
              rw [e3] at qq
              obtain ⟨ps, p, j, z, w1, w2, w3, w4, w5, w6, w7, rfl, rfl⟩ := tix_of e3
              intro v H1 ρ1 st1 R1 res1
              have rv : VRep t ρ1 (s.to ρ1 h1).L H1 v da := Res.see R res1
              have second : ∀ fin : (∀ H2 ρ2, Stp ρ1 ρ2 H1 H2 → Rel t C.M (s.to ρ2 h3) σ H2 → ((tu = true ∧ ∃ ad o ys, v = .ref ad ∧ H2 ad = some (.frz o (.tup ys)) ∧ DpAll t.K H2 ys ps) ∨ (tu = false ∧ Dp t.K H2 v (.list ps)))),
                  tE t G T C.M b σ H1 fun w H2 => ∃ ps p j z, SeqAt.shaped (.list ps) = true ∧ SeqAt.shaped p = true ∧ ps[j]? = some z ∧ PyData.eqv z p = true ∧ (∀ (i : Nat) (z' : PyData), i < j → ps[i]? = some z' → PyData.eqv z' p = false) ∧ Dp t.K H2 w p ∧ Q (.int (j : Nat)) H2 ∧
                    ((tu = true ∧ ∃ ad o ys, v = .ref ad ∧ H2 ad = some (.frz o (.tup ys)) ∧ DpAll t.K H2 ys ps) ∨ (tu = false ∧ Dp t.K H2 v (.list ps))) := fun fin => by
                refine ⟨s.to ρ1 h1, R1, ?_⟩
                show Aft t T C.M b (s.to ρ1 h1) σ H1 (ev G b s.e h1) _
                rw [e2]
                intro w H2 ρ2 st2 R2 res2
                have st2 : Stp ρ1 ρ2 H1 H2 := st2
                have rw' : VRep t ρ2 (s.to ρ2 h3).L H2 w db := Res.see (s := s.to ρ1 h1) R1 res2
                exact ⟨ps, p, j, z, w3, w4, w5, w6, w7, VRep.dp (s := s.to ρ2 h3) rw' w2, qq _ H2 ρ2 (st1.trans st2) R2 (Res.any (.int _) fun _ z => nomatch z), fin H2 ρ2 st2 R2⟩
              rcases hd with ⟨ht, rfl⟩ | ⟨ht, rfl⟩
              · have rv : Rep t ρ1 (s.to ρ1 h1).L H1 v (.ft l) := rv
                cases rv with
                | ft g1 g2 g3 =>
                  rename_i ad o ys
                  refine ⟨.inl ⟨ht, ad, o, ys, rfl, g1, g2⟩, second fun H2 ρ2 st2 R2 => .inl ⟨ht, ad, o, ys, rfl, st2.fix _ _ g1 trivial, ?_⟩⟩
                  exact Reps.dp l ys ps w1 (Reps.step (s := s.to ρ1 h1) (h' := h3) R1 st2 g3)
              · obtain ⟨ad, xs, rfl, g1, g2, g3⟩ := rv
                refine ⟨.inr ⟨ht, ad, xs, rfl, g1⟩, second fun H2 ρ2 st2 R2 => .inr ⟨ht, ?_⟩⟩
                exact .lst (.inl (.inl (st2.keep _ _ g1 g2))) (Reps.dp l xs ps w1 (Reps.step (s := s.to ρ1 h1) (h' := h3) R1 st2 g3))
      cases tu with
      | true =>
        refine (pe_bf PySem.F.slot_tuple_index PySem.F.type_tuple_index (mt_tupIx hu) (ia.pe C X v cx h2) (pa_cons (ib.pe C X e cx h3) pa_nil he) (base_of h2 _ X.env _) h4 he).imp fun σ H Q q => ?_
        obtain ⟨s, R, q⟩ := go σ H Q q
        refine ⟨s, R, ?_⟩
        cases e1 : ev G a s.e s.h with
        | bad => rw [e1] at q; exact q.elim
        | ok da h1 =>
          rw [e1] at q
          intro v H1 ρ1 st1 R1 res1
          obtain ⟨hv, q⟩ := q v H1 ρ1 st1 R1 res1
          rcases hv with ⟨_, hv⟩ | ⟨z, _⟩
          · refine ⟨hv, ?_⟩
            obtain ⟨s2, R2, q2⟩ := q
            refine ⟨s2, R2, ?_⟩
            cases e2 : ev G b s2.e s2.h with
            | bad => rw [e2] at q2; exact q2.elim
            | ok db h2 =>
              rw [e2] at q2
              intro w H2 ρ2 st2 R3 res2
              obtain ⟨ps, p, j, z, w3, w4, w5, w6, w7, w8, w9, w10⟩ := q2 w H2 ρ2 st2 R3 res2
              rcases w10 with ⟨_, ad, o, ys, rfl, g1, g2⟩ | ⟨z, _⟩
              · rw [cx.K]
                exact ⟨ad, o, ys, w, p, ps, j, z, rfl, rfl, g1, g2, w8, w3, w4, w5, w6, w7, w9⟩
              · cases z
          · cases z
      | false =>
        refine (pe_bm PySem.F.plainAttrs_list PySem.F.slot_list_index PySem.F.type_list_index (mt_indexD hu) (ia.pe C X v cx h2) (pa_cons (ib.pe C X e cx h3) pa_nil he) (base_of h2 _ X.env _) (by rw [he]; rfl) h4 he rfl).imp fun σ H Q q => ?_
        obtain ⟨s, R, q⟩ := go σ H Q q
        refine ⟨s, R, ?_⟩
        cases e1 : ev G a s.e s.h with
        | bad => rw [e1] at q; exact q.elim
        | ok da h1 =>
          rw [e1] at q
          intro v H1 ρ1 st1 R1 res1
          obtain ⟨hv, q⟩ := q v H1 ρ1 st1 R1 res1
          rcases hv with ⟨z, _⟩ | ⟨_, ad, xs, rfl, g1⟩
          · cases z
          · refine ⟨.inl ⟨rfl, xs, .inl (.inl g1)⟩, ?_⟩
            obtain ⟨s2, R2, q2⟩ := q
            refine ⟨s2, R2, ?_⟩
            cases e2 : ev G b s2.e s2.h with
            | bad => rw [e2] at q2; exact q2.elim
            | ok db h2 =>
              rw [e2] at q2
              intro w H2 ρ2 st2 R3 res2
              obtain ⟨ps, p, j, z, w3, w4, w5, w6, w7, w8, w9, w10⟩ := q2 w H2 ρ2 st2 R3 res2
              rcases w10 with ⟨z, _⟩ | ⟨_, g2⟩
              · cases z
              · rw [cx.K]
                exact ⟨ad, w, p, ps, j, z, rfl, rfl, g2, w8, w3, w4, w5, w6, w7, w9⟩
    · cases h
  · unfold chkE at h
    split at h
    · rfl
    · cases h
end
end CC

set_option Elab.async false
set_option linter.all false
set_option maxRecDepth 100000
set_option maxHeartbeats 1000000
/-! A field of an instance that is being made. -/
namespace CC
open PySem PySem.Spec PyProof.Rows L2

section
variable {t : Tx} {G : Pg} {T : Tab} {k : Nat}
section
variable {fresh : Bool} {ini : Option Addr} {M : List Nat} {B : Hp} {ρ0 : List Addr} {Lam0 : Addr → Prop} {s : Sit} {σ : L2.St} {H : Hp}
theorem slo_nofix {a C dx : Addr} {vs : List (Option V)} : ¬ Fix (SlX.SlO a C dx vs) := fun z => z
theorem slt_nofix {a C dx : Addr} {vs : List (Option V)} {o : HO} (h : SlX.Slt H a C dx vs) (e : H a = some o) : ¬ Fix o := by
  rcases h with ⟨h, _⟩ | ⟨h, _⟩
  · rw [h] at e
    cases e
    exact fun z => z
  · rw [h] at e
    cases e
    exact slo_nofix
theorem Rel.editI {a dx : Addr} {c : Nat} {ds : List D} {d : D} {vs : List (Option V)} {ws : List V} {y : V} (R : Rel t M s σ H) (he : s.e[(0 : Nat)]? = some (some (.ins c ds))) (hl : s.e.length < 1000) (ha : s.μ 0 = some a) (hx : s.μ dxI = some dx) (sl : SlX.Slt H a (t.ca c) dx vs)
    (hw : ∀ (j : Nat) (x : V), ws[j]? = some x → vs[t.sl c j]? = some (some x)) (r : Reps t s.ρ s.L H ws ds) (ry : Rep t s.ρ s.L H y d) (hi : ∀ j, j < ds.length → t.sl c j ≠ t.sl c ds.length) :
    Rel t M (s.en (s.e.set 0 (some (.ins c (ds ++ [d]))))) σ (SlX.slH H a (t.ca c) dx (SlX.putS (t.sl c ds.length) y vs)) := by
  have aL : s.L a := .inr (.inr ⟨0, ha⟩)
  have xL : s.L dx := .inr (.inr ⟨dxI, hx⟩)
  have hne : dx ≠ a := fun z => by
    have := R.inj 0 dxI a ha (by rw [← z]; exact hx)
    cases this
  have iM := (R.mfr 0 a ha).2.2
  have mvH : ∀ b o, H b = some o → ¬ s.L b → SlX.slH H a (t.ca c) dx (SlX.putS (t.sl c ds.length) y vs) b = some o ∧ ¬ s.L b := fun b o e n => by
    refine ⟨?_, n⟩
    rw [SlX.slH_ne (fun z => n (by rw [z]; exact aL)) (fun z => n (by rw [z]; exact xL))]
    exact e
  have mvT : ∀ b o, H b = some o → Fix o → SlX.slH H a (t.ca c) dx (SlX.putS (t.sl c ds.length) y vs) b = some o := fun b o e f => by
    rw [SlX.slH_ne (fun z => by rw [z] at e; exact slt_nofix sl e f) (fun z => by
      rw [z] at e
      obtain ⟨o', e1, f1⟩ := R.lam dx xL
      rw [e] at e1
      cases e1
      exact f1 f)]
    exact e
  refine ⟨?_, fun j d' e n => ?_, fun j d' e n => ?_, R.inj, R.mfr, fun n l e => ?_, R.blen, R.bnd, fun b z => ?_, R.lamb⟩
  · show (s.e.set 0 (some (.ins c (ds ++ [d])))).length = _
    rw [List.length_set]
    exact R.len
  · have hj : 0 ≠ j := fun z => n (z ▸ iM)
    have e : (s.e.set 0 (some (.ins c (ds ++ [d]))))[j]? = some (some d') := e
    rw [List.getElem?_set_ne hj] at e
    obtain ⟨v, e1, r⟩ := R.val j d' e n
    exact ⟨v, e1, Rep.move (fun _ _ e => e) mvH mvT d' v r⟩
  · have e : (s.e.set 0 (some (.ins c (ds ++ [d]))))[j]? = some (some d') := e
    by_cases hj : 0 = j
    · subst hj
      rw [List.getElem?_set_self (List.getElem?_eq_some_iff.mp he).1] at e
      cases e
      obtain ⟨a', h1, h2, _⟩ := R.own 0 _ he iM
      rw [ha] at h1
      cases h1
      refine ⟨a, ha, h2, dx, _, ws ++ [y], SlX.slH_slt hne, hx, fun j x e => ?_, ?_⟩
      · have hlen := r.length
        by_cases hj : j < ws.length
        · rw [List.getElem?_append_left hj] at e
          exact (SlX.putS_ne (hi j (by omega))).mpr (hw j x e)
        · have hj2 : j = ws.length := by
            have := (List.getElem?_eq_some_iff.mp e).1
            rw [List.length_append, List.length_singleton] at this
            omega
          subst hj2
          rw [List.getElem?_append_right (Nat.le_refl _), Nat.sub_self] at e
          cases e
          rw [hlen]
          exact SlX.putS_get _ _ _
      · exact (Reps.move (fun _ _ e => e) mvH mvT ds ws r).append (.one (Rep.move (fun _ _ e => e) mvH mvT d y ry))
    · rw [List.getElem?_set_ne hj] at e
      obtain ⟨b, e1, e2, r⟩ := R.own j d' e n
      have nb : b ≠ a := fun z => hj (R.inj 0 j a ha (by rw [← z]; exact e1))
      have nx : b ≠ dx := fun z => by
        have := R.inj j dxI dx (by rw [← z]; exact e1) hx
        subst this
        have := (List.getElem?_eq_some_iff.mp e).1
        unfold dxI at this
        omega
      refine ⟨b, e1, e2, ?_⟩
      cases d' with
      | lst es =>
        obtain ⟨zs, h1, h2⟩ := r
        exact ⟨zs, by rw [SlX.slH_ne nb nx]; exact h1, Reps.move (fun _ _ e => e) mvH mvT es zs h2⟩
      | ins c' es =>
        obtain ⟨dy, us, zs, h1, h2, h3, h4⟩ := r
        have h2' : s.μ dxI = some dy := h2
        rw [hx] at h2'
        cases h2'
        refine ⟨dx, us, zs, ?_, h2, h3, Reps.move (fun _ _ e => e) mvH mvT es zs h4⟩
        rcases h1 with ⟨h1, q⟩ | ⟨h1, q⟩
        · exact .inl ⟨by rw [SlX.slH_ne nb nx]; exact h1, q⟩
        · refine .inr ⟨by rw [SlX.slH_ne nb nx]; exact h1, ?_⟩
          unfold SlX.slH
          rw [upd_ne hne, upd_same]
      | _ => exact r.elim
  · obtain ⟨h1, b, zs, h2, h3, h4⟩ := R.box n l e
    have bm := List.mem_of_getElem? h2
    have nb : b ≠ a := fun z => (R.mfr 0 a ha).1 (by rw [← z]; exact bm)
    have nx : b ≠ dx := fun z => (R.mfr dxI dx hx).1 (by rw [← z]; exact bm)
    exact ⟨h1, b, zs, h2, by rw [SlX.slH_ne nb nx]; exact h3, Reps.move (fun _ _ e => e) mvH mvT l zs h4⟩
  · by_cases hz : b = a
    · rw [hz]
      exact ⟨_, upd_same, slo_nofix⟩
    · by_cases hy : b = dx
      · rw [hy]
        refine ⟨.xd [], ?_, fun z => z⟩
        unfold SlX.slH
        rw [upd_ne hne, upd_same]
      · obtain ⟨o, e, f⟩ := R.lam b z
        exact ⟨o, by rw [SlX.slH_ne hz hy]; exact e, f⟩
end
theorem ss_sfld (c j : Nat) {a : E} (ia : Snd t G T k a) : SndS t G T k (.sfld c j a) := by
  refine .of (fun fresh ini C sts h => ?_) fun fresh ini B ρ0 Lam0 C X st cx hp h => ?_
  · unfold chkB at h
    split at h
    · exact ⟨_, rfl⟩
    · cases h
  · unfold chkB at h
    split at h
    · rename_i x px f pf v pos el
      cases el
      simp only [Bool.and_eq_true, decide_eq_true_eq, Bool.not_eq_true'] at h
      obtain ⟨⟨⟨⟨⟨⟨⟨⟨⟨⟨h1, h2⟩, h3⟩, h4⟩, h5⟩, h6⟩, h7⟩, h8⟩, h9⟩, h10⟩, h11⟩ := h
      have n := nm_of h4
      have hs : swapsWith v (some (.Attribute (.Name x px) f pf)) pos.line X.env = pure false := by
        cases v with
        | ListComp el gs scope p => cases h9
        | SetComp el gs scope p =>
          have : chkE T a C (.SetComp el gs scope p) = false := by cases a <;> rfl
          rw [this] at h7
          cases h7
        | DictComp el gs scope p q =>
          have : chkE T a C (.DictComp el gs scope p q) = false := by cases a <;> rfl
          rw [this] at h7
          cases h7
        | _ => rfl
      refine (SlX.ps_sl (pe_var (N_of cx h2) (vis_of cx h3) n.1 n.2.1) (ia.pe C X v cx h7) hs).imp fun D σ H ⟨s, g, q⟩ => ⟨s, g.rel, ?_⟩
      have e0 : exc G (.sfld c j a) s.e s.h = (ev G a s.e s.h).thn fun d h => match s.e[(0 : Nat)]? with
        | some (some (.ins c' l)) => if c' = c ∧ l.length = j ∧ s.e.length < 1000 then .next (putN 0 (.ins c (l ++ [d])) s.e) h else .bad
        | _ => .bad := rfl
      rw [e0] at q
      cases e1 : ev G a s.e s.h with
      | bad => rw [e1] at q; exact q.elim
      | ok d hh1 =>
        rw [e1] at q
        have q2 : AftS t fresh ini C.M B ρ0 Lam0 (match s.e[(0 : Nat)]? with
          | some (some (.ins c' l)) => if c' = c ∧ l.length = j ∧ s.e.length < 1000 then .next (putN 0 (.ins c (l ++ [d])) s.e) hh1 else .bad
          | _ => .bad) D := q
        clear q
        intro w H1 ρ1 st R1 res
        split at q2
        · rename_i c' l el
          split at q2
          · rename_i hc
            obtain ⟨rfl, rfl, hlen⟩ := hc
            have h5' : 0 ∈ C.M := by simpa using h5
            have rw_ := Res.rep h8 g.rel res
            obtain ⟨p, m1, m2, dx, vs, ws, w1, w2, w3, w4⟩ := R1.own 0 _ el h5'
            have hcn := cx.hc.nf c' l.length h11
            have ch := cx.hc.all c' hcn
            have ef : (T.fs.getD c' [])[l.length]? = some f := by
              rw [List.getElem?_eq_getElem h11]
              rw [List.getD_eq_getElem?_getD, List.getElem?_eq_getElem h11, Option.getD_some] at h10
              rw [h10]
            obtain ⟨pp, s1⟩ := ch.fs l.length f ef
            have s1 : SlX.Slot1 X.K (t.ca c') f pp (t.sl c' l.length) := by rw [cx.K]; exact s1
            have sc : SlX.SCls X.K (t.ca c') := by rw [cx.K]; exact ch.sc
            refine ⟨.ref p, m2, p, t.ca c', dx, pp, vs, t.sl c' l.length, rfl, w1, sc, s1, ?_⟩
            have R2 := R1.editI el hlen m1 w2 w1 w3 w4 rw_ fun i hi z => by
              have := ch.fi i l.length (Nat.lt_trans hi h11) h11 z
              omega
            have gs := g.step st R1
            have nB : ∀ i b, s.μ i = some b → ∀ c o, B c = some o → c ≠ b := fun i b e c o eo z => by
              rw [z, g.new i b e] at eo
              cases eo
            refine q2 ((s.to ρ1 hh1).en (s.e.set 0 (some (.ins c' (l ++ [d]))))) σ _ ⟨g.lam, R2, ⟨fun b o e nn => ?_, fun b o e ff => ?_, fun b o e => ?_, gs.stp.pre, gs.stp.new⟩, g.new, fun hn => ?_, g.slf⟩ rfl rfl
            · rw [SlX.slH_ne (nB 0 p m1 b o e) (nB dxI dx w2 b o e)]
              exact gs.stp.keep b o e nn
            · rw [SlX.slH_ne (nB 0 p m1 b o e) (nB dxI dx w2 b o e)]
              exact gs.stp.fix b o e ff
            · rw [SlX.slH_ne (nB 0 p m1 b o e) (nB dxI dx w2 b o e)]
              exact gs.stp.trk b o e
            · rw [h1] at hn
              cases hn
          · exact q2.elim
        · exact q2.elim
    · cases h
end
end CC

set_option Elab.async false
set_option linter.all false
set_option maxRecDepth 100000
set_option maxHeartbeats 1000000
/-! A new instance. -/
namespace CC
open PySem PySem.Spec PyProof.Rows L2

section
variable {t : Tx} {G : Pg} {T : Tab} {k : Nat}
theorem s_mk (c : Nat) {as : E} (ia : Snd t G T k as) : Snd t G T k (.mk c as) := by
  refine .plain (fun C X ex cx h => ?_) (fun C ex h => ?_) (fun C es => rfl)
  · unfold chkE at h
    split at h
    · rename_i x xp e es p
      simp only [Bool.and_eq_true, decide_eq_true_eq] at h
      obtain ⟨⟨⟨h1, h2⟩, h3⟩, h4⟩ := h
      have n := nm_of h3
      obtain ⟨f, fd, ps, m1, m3, m4, F⟩ := cx.hc.mke c x h1
      have m0 := cx.hc.nm c x h1
      have hK : t.K = X.K := cx.K.symm
      rw [hK] at m1 m3 F
      have n0 : ∀ v p, e ≠ .Starred v p := by
        cases as with
        | cons a r =>
          unfold chkA at h4
          simp only [Bool.and_eq_true] at h4
          exact not_star h4.1.1
        | _ => cases (show false = true from h4)
      have n1 : (backTo p (starEach es X.env)).any (·.1) = false := by
        cases as with
        | cons a r =>
          unfold chkA at h4
          simp only [Bool.and_eq_true] at h4
          exact star_all es r h4.2
        | _ => cases (show false = true from h4)
      refine (pe_make m1 F (cx.room.mono (by omega)) (gl_of cx h2) m0 m3 .nil pass0 (ia.pa C X _ cx h4) n.1 (star_one n0) n1).imp fun σ H Q ⟨s, R, q⟩ => ?_
      refine ⟨s, R, ?_⟩
      have e0 : ev G (.mk c as) s.e s.h = (ev G as s.e s.h).bind fun x h => G.make c (argsD x) h := rfl
      rw [e0] at q
      cases e1 : ev G as s.e s.h with
      | bad => rw [e1] at q; exact q.elim
      | ok d h1 =>
        obtain ⟨ds, rfl⟩ := args_tup h4 e1
        rw [e1] at q
        have q : Aft t T C.M (.mk c as) s σ H (G.make c ds h1) Q := q
        intro vs H1 ρ1 st1 R1 rs ax dx hx hdx hne
        rw [List.append_nil]
        cases e2 : G.make c ds h1 with
        | bad => rw [e2] at q; exact q.elim
        | ok d h2 =>
          rw [e2] at q
          refine ⟨?_, H1, ax, dx, vs, ρ1, (s.to ρ1 h1).lam, h1, ds, rfl, rfl, hx, hdx, hne, R1.inF, ?_, ?_⟩
          · refine Decidable.byContradiction fun nn => ?_
            rw [m4 ds h1 (by rw [← rs.length]; exact nn)] at e2
            cases e2
          · have := lam_L' (s.to ρ1 h1)
            have e3 : (fun a => (s.to ρ1 h1).lam a ∨ a ∈ ρ1) = (s.to ρ1 h1).L := this
            rw [e3]
            exact rs
          · rw [e2]
            intro H' ρ' st2 bx bl nd r
            rw [lam_L (s.to ρ1 h1) ρ' h2] at bx r
            have R' : Rel t C.M ((s.to ρ1 h1).to ρ' h2) σ H' := R1.step st2 bx bl nd
            exact ⟨rfl, q (.ref ax) H' ρ' (st1.trans st2) R' (Res.of (s := s) rfl r)⟩
    · cases h
  · unfold chkE at h
    split at h
    · rfl
    · cases h
end
end CC

set_option Elab.async false
set_option linter.all false
set_option maxRecDepth 100000
set_option maxHeartbeats 1000000
/-! == and != by an own __eq__. -/
namespace CC
open PySem PySem.Spec PyProof.Rows L2

section
variable {prog : Program} {w : World} {A : Around} {E : Value → Shared → Prop} {s : Shared} {K : PySem.W.Frag} {x C L f : Addr} {h₀ : Heap} {m : Str → Option Value} {ox : Obj} {od : Option Obj} {b tb : Value}
theorem ifBound_Kb {M : Model} {name : Str} {id : String} {args : List Value} {Q : Option Value → Shared → Prop} (X : K.In s.heap) (I : PySem.W.InstAt s.heap x ox C od) (hs : PySem.W.findIn K (.ref C) name = some (some (.builtin id))) (hb : ∀ self, bindSpecial (.builtin id) self = pure (.builtin id, [self]))
    (h : wpAny M A (call (.builtin id) (.ref x :: args)) (fun v => Q (some v)) E s) : wpAny M A (callSpecialIfBound? (.ref x) name args) Q E s := by
  simp only [callSpecialIfBound?, bindSpecialIfBound?]
  refine wpAny_holding (wpAny_bind (wpAny_bind (wpAny_bind (I.type.here ((PySem.W.looks_findIn X hs).here ?_)))))
  simp only [hb]
  refine wpAny_bind (wpAny_askSetting (wpAny_ite ?_))
  have fin : wpAny M A (call (.builtin id) ([.ref x] ++ args) >>= fun v => pure (some v)) Q E s := wpAny_bind (wpAny_mono h (fun v s' h' => wpAny_pure h') fun _ _ h' => h')
  split
  · exact wpAny_bind (wpAny_pure (wpAny_pure fin))
  · exact wpAny_tryCatch (wpAny_bind (wpAny_pure (wpAny_pure fin)))
theorem ne_entry {Q : Fin → Shared → Prop} (X : K.In s.heap) (I : PySem.W.InstAt s.heap x ox C od) (he : PySem.W.findIn K (.ref C) "__eq__" = some (some (.ref f))) (hf : PySem.W.isFn K (.ref f) = true) (hu : A.units < cLine)
    (hcall : wpAny (model prog w) A (call (.ref f) [.ref x, b]) (fun v s' => ∃ c, v = .bool c ∧ Q (.done (.ret (.bool (!c)))) s') E s) :
    wpAny (model prog w) A (Builtin.«object.__ne__» ⟨[.ref x, b], []⟩) Q E s := by
  unfold Builtin.«object.__ne__»
  repeat (first
    | with_reducible refine wpAny_cRoomFor hu ?_
    | (refine wpAny_bind (m := callSpecialIfBound? (.ref x) (Str.ofString "__eq__") [b])
        (PySem.W.ifBound_K X I he hf (wpAny_mono hcall (fun r s' hr => by
          obtain ⟨b, rfl, hq⟩ := hr
          repeat (first | exact hq | exact wpAny_pure hq | exact wpAny_truthy_bool hq | (refine wpAny_bind (m := truthy (.bool _)) (wpAny_truthy_bool ?_)) | wp_step)) fun _ _ e => e)))
    | wp_step)
theorem ne_K {Q : Value → Shared → Prop} (hu : A.units + 1 < cLine) (F : Fr h₀ L s.heap m) (X₀ : K.In h₀) (I : PySem.W.InstAt s.heap x ox C od) (hb : PySem.W.Looks (model prog w) s.heap (typeOf b) tb) (hn : PySem.W.notFirst K C tb = true)
    (hs : PySem.W.findIn K (.ref C) "__ne__" = some (some (.builtin "object.__ne__"))) (he : PySem.W.findIn K (.ref C) "__eq__" = some (some (.ref f))) (hf : PySem.W.isFn K (.ref f) = true) (ho : PySem.W.subIn K (.ref C) (.type "object") = some true)
    (h : wpAny (model prog w) A.in1 (call (.ref f) [.ref x, b]) (fun v s' => ∃ c, v = .bool c ∧ Q (.bool (!c)) s') E s) : wpAny (model prog w) A (richCompare .NotEq (.ref x) b) Q E s := by
  have X := X₀.keeps F.keep
  have one : wpAny (model prog w) A (tryCompare (.ref x) (cmpInfo .NotEq).2.1 b) (fun r s' => ∃ v, r = some v ∧ Q v s') E s := by
    unfold tryCompare
    refine wpAny_bind (ifBound_Kb X I hs PySem.F.slot_tuple_iterator_ne.bind ?_)
    refine wpAny_call (codeAny_call_builtin PySem.F.slot_tuple_iterator_ne.plain PySem.F.cmpEntry_ne (PySem.W.check_slot PySem.F.cmpKind_ne PySem.F.cmpSplit_ne (I.type.andThen (PySem.W.looks_subIn X ho)) (PySem.F.cmpArgs_ne _ _) ?_))
    refine ne_entry (A := A.in1) X I he hf hu (wpAny_mono h (fun v s' hv => ?_) fun _ _ e => e)
    obtain ⟨c, rfl, hq⟩ := hv
    first | exact ⟨c, rfl, wpAny_pure ⟨_, rfl, hq⟩⟩ | exact ⟨c, rfl, wpAny_pure (wpAny_pure ⟨_, rfl, hq⟩)⟩ | exact ⟨c, rfl, ⟨_, rfl, hq⟩⟩
  unfold richCompare
  simp only [oneThing_ref]
  refine wpAny_holding (wpAny_bind (wpAny_cRoomFor (Nat.lt_of_succ_lt hu) ?_))
  refine wpAny_bind (I.type.here (wpAny_bind (hb.here ?_)))
  split
  · rename_i q
    have e : PySem.W.subIn K tb (.ref C) = some false := by
      rcases Bool.or_eq_true_iff.mp hn with e | e
      · rw [beq_iff_eq.mp e] at q; simp at q
      · exact beq_iff_eq.mp e
    refine wpAny_bind ((PySem.W.looks_subIn X e).here ?_)
    simp only [Bool.false_eq_true, if_false]
    refine wpAny_bind (wpAny_mono one (fun r s' z => ?_) fun _ _ e => e)
    obtain ⟨v, rfl, hq⟩ := z
    exact wpAny_pure hq
  · refine wpAny_bind (wpAny_pure ?_)
    simp only [Bool.false_eq_true, if_false]
    refine wpAny_bind (wpAny_mono one (fun r s' z => ?_) fun _ _ e => e)
    obtain ⟨v, rfl, hq⟩ := z
    exact wpAny_pure hq
end
section
variable {X : Cx} {k : Nat} {C g : Addr} {sp : Sp}
def rOwnNe (K : PySem.W.Frag) (C : Addr) (sp : Sp) : R2 := fun x y H Q => ∃ a dx vs b C' dy ws, x = .ref a ∧ y = .ref b ∧ SlX.Slt H a C dx vs ∧ SlX.Slt H b C' dy ws ∧ PySem.W.notFirst K C (.ref C') = true ∧ sp [x, y] H (fun v H' => ∃ c, v = .bl c ∧ Q (.bl (!c)) H') (fun _ _ _ => False)
theorem op_ownNe (hs : PySem.W.findIn X.K (.ref C) "__ne__" = some (some (.builtin "object.__ne__"))) (he : PySem.W.findIn X.K (.ref C) "__eq__" = some (some (.ref g))) (hf : PySem.W.isFn X.K (.ref g) = true) (ho : PySem.W.subIn X.K (.ref C) (.type "object") = some true) (F : FnR X.prog X.w X.K X.mg X.base CX0 k g sp)
    (hr : Room (k + 1) X.A) : OpR X (compareOp .NotEq) (rOwnNe X.K C sp) := by
  intro pins s σ H x y v u Q I rx ry h
  obtain ⟨a, dx, vs, b, C', dy, ws, rfl, rfl, ha, hb, hn, q⟩ := h
  cases (show v = Value.ref a from rx)
  cases (show u = Value.ref b from ry)
  obtain ⟨sl, od, _, J, _⟩ := SlX.slt_inst I ha
  obtain ⟨sl', od', _, J', _⟩ := SlX.slt_inst I hb
  obtain ⟨m, hF⟩ := I.fr
  unfold compareOp
  have hu : X.A.units + 64 < cLine := hr.units
  refine ne_K (tb := .ref C') (by omega) hF I.ok.mod.kin J J'.type hn hs he hf ho ?_
  refine wpAny_mono (wpAny_call (SlX.run_at (us := [.ref a, .ref b]) (ws := [.ref a, .ref b]) F hr.in1 I.env0.in1 pass0 I (.cons rfl (.cons rfl .nil)) q)) (fun w s' z => ?_) fun _ _ x => x
  obtain ⟨z', H', I', rz, c, rfl, qz⟩ := z
  cases (show w = Value.bool c from rz)
  exact ⟨c, rfl, .bl (!c), H', I', rfl, qz⟩
end
section
variable {t : Tx} {G : Pg} {T : Tab} {k : Nat}
theorem s_eqo (n : Bool) {a b : E} (ia : Snd t G T k a) (ib : Snd t G T k b) : Snd t G T k (.eqo n a b) := by
  have pe : ∀ C X ex, CxOk t G T k C X → chkE T (.eqo n a b) C ex = true → PE X ex (tE t G T C.M (.eqo n a b)) ∧ PT X ex (tT t G C.M (.eqo n a b)) := by
    intro C X ex cx h
    unfold chkE at h
    split at h
    · rename_i l o r p
      simp only [Bool.and_eq_true, decide_eq_true_eq, Bool.not_eq_true'] at h
      obtain ⟨⟨⟨⟨h1, h2⟩, h3⟩, h4⟩, h5⟩ := h
      have hK : t.K = X.K := cx.K.symm
      have main : ∀ σ H Q, tE t G T C.M (.eqo n a b) σ H Q → ∃ r, OpR X (compareOp o) r ∧ tOp r (tE t G T C.M a) (tE t G T C.M b) σ H Q := by
        intro σ H Q ⟨s, R, q⟩
        have e0 : ev G (.eqo n a b) s.e s.h = (ev G a s.e s.h).bind fun x h => (ev G b s.e h).bind fun y h => eqoD G n x y h := rfl
        rw [e0] at q
        cases e1 : ev G a s.e s.h with
        | bad => rw [e1] at q; exact q.elim
        | ok da hh1 =>
          rw [e1] at q
          have q : Aft t T C.M (.eqo n a b) s σ H ((ev G b s.e hh1).bind fun y h => eqoD G n da y h) Q := q
          cases e2 : ev G b s.e hh1 with
          | bad => rw [e2] at q; exact q.elim
          | ok db hh2 =>
            rw [e2] at q
            have q : Aft t T C.M (.eqo n a b) s σ H (eqoD G n da db hh2) Q := q
            cases db with
            | ins c' l' =>
              have q : Aft t T C.M (.eqo n a b) s σ H ((methD G mEq da [.ins c' l'] hh2).bind fun z h => (match z with | .bl k => .ok (.bl (n != k)) h | _ => .bad)) Q := q
              cases da with
              | ins c l =>
                have q : Aft t T C.M (.eqo n a b) s σ H ((match G.mth c mEq with | some f => G.call f [.ins c l, .ins c' l'] hh2 | none => .bad).bind fun z h => (match z with | .bl k => .ok (.bl (n != k)) h | _ => .bad)) Q := q
                cases e3 : G.mth c mEq with
                | none => rw [e3] at q; exact q.elim
                | some f =>
                  rw [e3] at q
                  have q : Aft t T C.M (.eqo n a b) s σ H ((G.call f [.ins c l, .ins c' l'] hh2).bind fun z h => (match z with | .bl k => .ok (.bl (n != k)) h | _ => .bad)) Q := q
                  have hcn := cx.hc.gm c mEq f e3
                  have ch := cx.hc.all c hcn
                  obtain ⟨g, np, w1, w5, F⟩ := ch.mt mEq _ f cx.hc.mn.2 e3
                  have ne := ch.ne
                  have ob := ch.ob
                  rw [hK] at w1 F ne ob
                  have q2 : Aft t T C.M (.prop 0 a) s σ H (G.call f [.ins c l, .ins c' l'] hh2) (fun v H' => ∃ c, v = .bl c ∧ Q (.bl (n != c)) H') := by
                    cases e4 : G.call f [.ins c l, .ins c' l'] hh2 with
                    | bad => rw [e4] at q; exact q.elim
                    | ok y hh3 =>
                      rw [e4] at q
                      cases y with
                      | bl z =>
                        intro w H2 ρ2 st2 R2 res2
                        have ew := bl_of R res2
                        subst ew
                        exact ⟨z, rfl, q _ H2 ρ2 st2 R2 (Res.any (.bl _) fun _ z => nomatch z)⟩
                      | _ => exact q.elim
                  have core : ∀ (r : R2), (∀ x y H' (Q' : VK), (∃ a dx vs b C' dy ws, x = .ref a ∧ y = .ref b ∧ SlX.Slt H' a (t.ca c) dx vs ∧ SlX.Slt H' b C' dy ws ∧ PySem.W.notFirst X.K (t.ca c) (.ref C') = true ∧ spF t np (G.call f) (T.fr.getD f false) [x, y] H' (fun v H' => ∃ z, v = .bl z ∧ Q' (.bl (n != z)) H') (fun _ _ _ => False)) → r x y H' Q') →
                      tOp r (tE t G T C.M a) (tE t G T C.M b) σ H Q := fun r hr => by
                    refine ⟨s, R, ?_⟩
                    rw [e1]
                    intro v H1 ρ1 st1 R1 res1
                    refine ⟨s.to ρ1 hh1, R1, ?_⟩
                    show Aft t T C.M b (s.to ρ1 hh1) σ H1 (ev G b s.e hh1) _
                    rw [e2]
                    intro u H2 ρ2 st2 R2 res2
                    have st2 : Stp ρ1 ρ2 H1 H2 := st2
                    have R2 : Rel t C.M (s.to ρ2 hh2) σ H2 := R2
                    have r1 : Rep t ρ1 (s.to ρ1 hh1).L H1 v (.ins c l) := Res.see R res1
                    have r1' : Rep t ρ2 (s.to ρ2 hh2).L H2 v (.ins c l) := Rep.step (s := s.to ρ1 hh1) (h' := hh2) R1 st2 r1
                    have r2 : Rep t ρ2 (s.to ρ2 hh2).L H2 u (.ins c' l') := Res.see (s := s.to ρ1 hh1) R1 res2
                    obtain ⟨_, ad, dx, vs, ws, rfl, sl, _, _⟩ := r1'.inst
                    obtain ⟨hc', ad', dx', vs', ws', rfl, sl', _, _⟩ := r2.inst
                    refine hr _ _ _ _ ⟨ad, dx, vs, ad', t.ca c', dx', vs', rfl, rfl, sl, sl', by rw [← hK]; exact cx.hc.nfi c c' hcn hc', ?_⟩
                    refine call_go (s := s.to ρ2 hh2) (s0 := s) (z := .prop 0 a) w5 R2 (.cons r1' (.cons r2 .nil)) (st1.trans st2) rfl q2 fun ρ' h' v H' d r => ?_
                    split at r
                    · exact Res.of (s := s) rfl (FRep.rep R r)
                    · exact Res.of (s := s) rfl r
                  have hr0 : Room (k + 1) X.A := cx.room.mono (by omega)
                  cases n with
                  | true =>
                    cases h1
                    refine ⟨rOwnNe X.K (t.ca c) (spF t np (G.call f) (T.fr.getD f false)), op_ownNe ne w1.at_ w1.fn ob F hr0, core _ fun x y H' Q' h => ?_⟩
                    obtain ⟨a1, a2, a3, a4, a5, a6, a7, b1, b2, b3, b4, b5, b6⟩ := h
                    exact ⟨a1, a2, a3, a4, a5, a6, a7, b1, b2, b3, b4, b5, by simpa using b6⟩
                  | false =>
                    cases h1
                    refine ⟨SlX.rOwn X.K (t.ca c) (spF t np (G.call f) (T.fr.getD f false)) (fun _ _ _ => False), SlX.op_own (fun _ _ => rfl) w1.at_ w1.fn F (cx.room.mono (by omega)) pass0, core _ fun x y H' Q' h => ?_⟩
                    obtain ⟨a1, a2, a3, a4, a5, a6, a7, b1, b2, b3, b4, b5, b6⟩ := h
                    refine ⟨a1, a2, a3, a4, a5, a6, a7, b1, b2, b3, b4, b5, ?_⟩
                    have z : (fun v H' => ∃ z, v = V.bl z ∧ Q' (.bl (false != z)) H') = fun v H' => ∃ z, v = V.bl z ∧ Q' v H' := by
                      funext v H'
                      refine propext ⟨fun ⟨z, e, q⟩ => ⟨z, e, ?_⟩, fun ⟨z, e, q⟩ => ⟨z, e, ?_⟩⟩
                      · subst e
                        simpa using q
                      · subst e
                        simpa using q
                    rw [z] at b6
                    obtain ⟨c1, ρ, Lam, h, ds, c2, c3, c4⟩ := b6
                    refine ⟨c1, ρ, Lam, h, ds, c2, c3, ?_⟩
                    unfold OutF at c4 ⊢
                    split
                    · rename_i d h' e
                      rw [e] at c4
                      intro v H' ρ' k1 k2 k3 k4 k5
                      obtain ⟨_, _, q⟩ := c4 v H' ρ' k1 k2 k3 k4 k5
                      exact q
                    · rename_i e
                      rw [e] at c4
                      exact c4
              | _ => exact q.elim
            | _ => exact q.elim
      have hm : behindInMarks o r = false := by
        subst h1
        cases n <;> exact nomark r (by intro z; cases z) (by intro z; cases z)
      refine ⟨pe_dep fun σ H Q q => ?_, ⟨fun pins s σ H Q I q => ?_⟩⟩
      · obtain ⟨rr, op, q⟩ := main σ H Q q
        exact ⟨_, pe_cmpR op (ia.pe C X l cx h2) (ib.pe C X r cx h3) hm, q⟩
      · obtain ⟨rr, op, q⟩ := main σ H _ (tT_tE (T := T) q)
        exact (pt_cmpR op (ia.pe C X l cx h2) (ib.pe C X r cx h3) hm).run pins s σ H Q I q
    · cases h
  refine ⟨fun C X ex c h => (pe C X ex c h).1, fun C X ex c h _ => (pe C X ex c h).2, fun C X o es p c h => ?_, fun C X es c h => ?_⟩
  · cases (show false = true from h)
  · cases (show false = true from h)
end
end CC

set_option Elab.async false
set_option linter.all false
set_option maxRecDepth 100000
set_option maxHeartbeats 1000000
/-! What is walked by an own __iter__. -/
namespace CC
open PySem PySem.Spec PyProof.Rows L2

/-! ### a def at one state -/
section
variable {P : Program} {w : World} {K : PySem.W.Frag} {mg : Str → Option Value} {base : Heap} {k : Nat} {f : Addr} {x qual : Str} {st : Stmt} {fd : FuncData} {N ps : List Str}
theorem fn_at (F : L2.Fun K x qual st f fd) (S : FnScope N ps (defScope st)) (A : Around) (outer : List Env) (s : Shared) (H : Hp) (args : Args) (us : List Value) (vs : List V) (Q : VK) (E : XK) (hr : Room (k + 1) A) (e0 : Env0 P w K mg base A outer s H)
    (hb : BindsTo s fd args (ps.zip us)) (r : Vals vs us) (hl : vs.length = ps.length)
    (go : ∀ cdv, Room k (A.deeper (envOfC qual (defScope st) s.heap.objs.size f cdv)) → ∃ t, PSs (cxOf CX0 P w K mg base N qual (defScope st) f cdv A outer s H E).nox (defBody st) t ∧ t { nx := fun _ H' => Q .non H', rt := Q } (start N vs) H) :
    codeAny (model P w) A (.call (.ref f) args) (CR CX0 outer P w H s Q E) s := by
  obtain ⟨oc, od, kV, doc, pm, an, cdv, ct, osl, rfl, lk, hcd⟩ := F.ex
  have kin : K.In s.heap := e0.mod.kin.keeps fun b o e => (e0.bs b o e).1
  have nolim : s.heap.NoLimit := e0.mod.nolimit.keeps fun b o e => (e0.bs b o e).1
  have pk : ∀ y ∈ ps.zip us, (defScope st).names.lookup y.1 = some .local ∨ ((defScope st).names.lookup y.1 = some .cell ∧ ((cellsFrom (s.heap.objs.size + 1) (defScope st).names []).lookup y.1).isSome = true) := by
    rintro ⟨n, v⟩ hy
    refine (S.par n (List.of_mem_zip hy).1).imp id fun z => ⟨z, ?_⟩
    exact PySem.W.cellsFrom_some _ _ _ (.inl z)
  refine codeAny_call_function hr.depth (kin _ _ lk) rfl S.co S.gen rfl (PySem.W.codeRec_of kin hcd) (hb _ _ _ _ ?_)
  refine wpAny_newFunctionEnv_cells S.kind pk fun env he s1 z => ?_
  subst he
  refine ⟨nolim.keeps z.toInCall.keep, codeAny_func ?_⟩
  obtain ⟨t, ht, hq⟩ := go cdv (hr.deeper _)
  have J : Inv (cxOf CX0 P w K mg base N qual (defScope st) f cdv A outer s H E) [] (start N vs) H s1 := inv_start S hr.hd e0 hl r z
  refine wpAny_mono (ht.nox.run [] s1 (start N vs) H _ J hq) (fun fl s' hs => ?_) fun e s' hs => hs
  cases fl with
  | ret u =>
    obtain ⟨v, _, H', J', rv, q⟩ := hs
    exact ⟨v, H', J'.os, J'.bare, J'.base, J'.hok, rv, q⟩
  | next =>
    obtain ⟨_, H', J', q⟩ := hs
    exact ⟨.non, H', J'.os, J'.bare, J'.base, J'.hok, rfl, q⟩
  | brk => exact hs.elim fun _ z => z.elim fun _ z => z.2.elim
  | cont => exact hs.elim fun _ z => z.elim fun _ z => z.2.elim
end

/-! ### iter(x) of a list or a tuple -/
section
variable {X : Cx}
theorem obX_free (b : Bool) (l : Addr) : (obX b l).isFreed = false := by cases b <;> rfl
def rIterX (K : PySem.W.Frag) (n : Nat) : List V → Hp → VK → Prop := fun xs H Q => ∃ b l zs, xs = [.ref l] ∧ SqX b K H l zs ∧ ∀ it, H it = none → n ≤ it → Q (.ref it) (upd H it (.ext fun h => h.get? it = some (obX b l)))
theorem cr_iterX : CallR X (.builtin "iter") (rIterX X.K X.s_0.heap.objs.size) := by
  intro pins s σ H xs us Q I r h
  obtain ⟨b, l, zs, rfl, hq, q⟩ := h
  obtain ⟨u, rfl, ru⟩ := vals1 r
  cases ru
  obtain ⟨its, rv, se, hz⟩ := sqx_se I hq
  refine Calls.call_function_entry (by decide +kernel) (by decide +kernel) PySem.W.kdk_entry_iter (PySem.W.kdk_args_iter _) ?_
  unfold Builtin.«iter»
  refine wpAny_bind (m := someArgs "iter" 1 2 _) (wpAny_of_eq (a := [Value.ref l]) (by first | rfl | kernel_rfl!) ?_)
  show wpAny _ _ (pyIter (.ref l) >>= _) _ _ _
  refine wpAny_bind ((beginsX b l its.toArray).iter X.prog X.w _ _ s _ se ?_)
  refine wpAny_pure ⟨_, rfl, ?_⟩
  refine ⟨.ref s.heap.objs.size, _, I.laid (t' := s.toks) (fun b u e => Heap.get?_push_of_some _ e) (Nat.le_refl _) ?_, rfl, q _ (I.hok.fresh (Nat.le_refl _)) I.sz⟩
  have e : (s.heap.push (obX b l)).get? s.heap.objs.size = some (obX b l) := Heap.get?_push_size _ (obX_free b l)
  exact ⟨e, ⟨_, e⟩, fun h1 h2 z k => k _ z⟩
end

/-! ### def __iter__(self): return iter(self.f) -/
def itB (f : Str) (st : Stmt) : Bool := match defBody st with
  | [.Return (some (.Call (.Name x _) [.Attribute (.Name y _) g _] [] _)) _] => decide (x = "iter") && decide (y = "self") && decide (g = f) && glB (defScope st) "iter" && visB (defScope st) "self"
  | _ => false
section
variable {P : Program} {w : World} {K : PySem.W.Frag} {mg : Str → Option Value} {base : Heap} {g C p : Addr} {x qual : Str} {st : Stmt} {fd : FuncData} {i : Nat} {f : Str}
theorem fn_iter (F : L2.Fun K x qual st g fd) (S : FnScope ["self"] ["self"] (defScope st)) (hb : Binds K fd ["self"] []) (h : itB f st = true) (hm : mg "iter" = none) (c : SlX.SCls K C) (s1 : SlX.Slot1 K C f p i) (k : Nat) : FnI P w K mg base (k + 1) g C i := by
  intro A outer s H a dx us b l xs hr e0 sl hl sq
  have kin : K.In s.heap := e0.mod.kin.keeps fun b o e => (e0.bs b o e).1
  refine fn_at (k := k) F S A outer s H ⟨[.ref a], []⟩ [.ref a] [.ref a] _ _ hr e0 (hb s [.ref a] kin rfl) (.cons rfl .nil) rfl fun cdv hr' => ?_
  unfold itB at h
  split at h
  · rename_i y px z pz gn pg pc pr eb
    simp only [Bool.and_eq_true, decide_eq_true_eq] at h
    obtain ⟨⟨⟨⟨rfl, rfl⟩, rfl⟩, h4⟩, h5⟩ := h
    rw [eb]
    have gl : Gl (cxOf CX0 P w K mg base ["self"] qual (defScope st) g cdv A outer s H fun _ _ _ => False).nox "iter" := by
      show (defScope st).names.lookup (Str.ofString "iter") = _
      unfold glB at h4
      split at h4 <;> simp_all
    have vi : Vis (cxOf CX0 P w K mg base ["self"] qual (defScope st) g cdv A outer s H fun _ _ _ => False).nox.env.scope "self" := by
      show Vis (defScope st) "self"
      unfold visB at h5
      unfold Vis
      split at h5 <;> simp_all
    refine ⟨_, pss_one (ps_ret (pe_callB cr_iterX gl hm (by decide +kernel) (pa_cons (SlX.pe_sl (pe_var (i := 0) rfl vi)) pa_nil))), .ref a, rfl, a, C, dx, p, us, i, .ref l, rfl, sl, c, s1, hl, ?_⟩
    exact ⟨b, l, xs, rfl, sq, fun it hn hi => ⟨it, rfl, hn, hi, rfl⟩⟩
  · cases h
end
/-! ### the walk -/
section
variable {X : Cx} {C g : Addr} {i k : Nat} {tg : Expr}
theorem piv_own (hs : PySem.W.findIn X.K (.ref C) "__iter__" = some (some (.ref g))) (hf : PySem.W.isFn X.K (.ref g) = true) (F : FnI X.prog X.w X.K X.mg X.base k g C i) (hr : Room k X.A) :
    PIV X tg (fun x H R => ∃ a dx us b l xs, x = .ref a ∧ SlX.Slt H a C dx us ∧ us[i]? = some (some (.ref l)) ∧ SqX b X.K H l xs ∧ R (ItSX b X.K l) H) := by
  intro pins s σ H x v R I rx h
  obtain ⟨a, dx, us, b, l, xs, rfl, sl, hl, sq, q⟩ := h
  cases (show v = Value.ref a from rx)
  obtain ⟨sl', od, _, J, _⟩ := SlX.slt_inst I sl
  obtain ⟨m, hF⟩ := I.fr
  refine PySem.W.owit_iter hF I.ok.mod.kin J hs hf ?_
  refine wpAny_call (codeAny_mono (F X.A X.stack s H a dx us b l xs hr I.env0 sl hl sq) fun r s' hq => ?_)
  cases r with
  | error e => exact hq.elim
  | ok fl =>
    cases fl with
    | ret u =>
      have hq : CE X.stack X.prog X.w H s (fun v H' => ∃ it, v = .ref it ∧ H it = none ∧ s.heap.objs.size ≤ it ∧ H' = upd H it (.ext fun h => h.get? it = some (obX b l))) u s' := hq
      obtain ⟨v', H', I', rv, it, rfl, hn, hy, rfl⟩ := I.after hq
      cases (show u = Value.ref it from rv)
      have ho : s'.heap.get? it = some (obX b l) := (I'.hok it _ upd_same).1
      have I2 := ItX.inv_drop I' upd_same
      rw [ItX.dropH_upd hn] at I2
      have fp : ∀ c ∈ [it], FpOk X pins H c := fun c hc => by
        rw [List.mem_singleton.mp hc]
        exact I.fpOk hy hn
      unfold PySem.W.OwitIt
      cases b with
      | true =>
        have hT : s'.TypeIs (.ref it) "tuple_iterator" := ⟨_, ho, rfl⟩
        refine wpAny_specialOf (name := Str.ofString "__next__") hT PySem.F.slot_tuple_iterator_next.lookup ?_
        exact ⟨it, [it], _, _, H, rfl, I2, turn_tuple l _, ⟨_, ho, rfl, rfl⟩, fp, q⟩
      | false =>
        have hT : s'.TypeIs (.ref it) "list_iterator" := ⟨_, ho, rfl⟩
        refine wpAny_specialOf (name := Str.ofString "__next__") hT slot_listiter_next.lookup ?_
        exact ⟨it, [it], _, _, H, rfl, I2, turn_list l _, ⟨_, ho, rfl, rfl⟩, fp, q⟩
    | next => exact False.elim hq
    | brk => exact False.elim hq
    | cont => exact False.elim hq
end
section
variable {t : Tx} {G : Pg} {T : Tab} {k : Nat}
theorem i_own {a : E} (ia : Snd t G T k a) : SndI t G T k (.iown a) := by
  intro C X tg ex cx h
  have h : (chkE T a C ex && !bor a) = true := h
  simp only [Bool.and_eq_true, Bool.not_eq_true'] at h
  refine ⟨fun pins s0 σ H Q I ⟨s, R, q⟩ => ?_⟩
  have e0 : ev G (.iown a) s.e s.h = (ev G a s.e s.h).bind fun x h => iownD G x h := rfl
  rw [e0] at q
  cases e1 : ev G a s.e s.h with
  | bad => rw [e1] at q; exact q.elim
  | ok d h1 =>
    rw [e1] at q
    have q : AftI t C.M (.iown a) s σ H (iownD G d h1) Q := q
    cases d with
    | ins c ds =>
      have q : AftI t C.M (.iown a) s σ H (match G.itf c with
        | some j => (match ds[j]? with
          | some d => (match seqD d with | some m => .ok (.tup m) h1 | none => .bad)
          | none => .bad)
        | none => .bad) Q := q
      cases e2 : G.itf c with
      | none => rw [e2] at q; exact q.elim
      | some j =>
        rw [e2] at q
        have q : AftI t C.M (.iown a) s σ H (match ds[j]? with
          | some d => (match seqD d with | some m => .ok (.tup m) h1 | none => .bad)
          | none => .bad) Q := q
        cases e3 : ds[j]? with
        | none => rw [e3] at q; exact q.elim
        | some d =>
          rw [e3] at q
          have q : AftI t C.M (.iown a) s σ H (match seqD d with | some m => .ok (.tup m) h1 | none => .bad) Q := q
          cases e4 : seqD d with
          | none => rw [e4] at q; exact q.elim
          | some m =>
            rw [e4] at q
            obtain ⟨hc, g, f1, f2, f3⟩ := cx.hc.itr c j e2
            have hK : t.K = X.K := cx.K.symm
            rw [hK] at f1 f2 f3
            refine (pi_val (ia.pe C X ex cx h.1) (piv_own f1 f2 f3 (cx.room.mono (by omega)))).run pins s0 σ H Q I ⟨s, R, ?_⟩
            rw [e1]
            intro v H1 ρ1 st R1 res
            have rv : Rep t ρ1 (s.to ρ1 h1).L H1 v (.ins c ds) := Res.see R res
            obtain ⟨h0, ad, dx, vs, ws, rfl, sl, hw, rs⟩ := rv.inst
            obtain ⟨u, eu, ru⟩ := rs.get e3
            obtain ⟨b, l, xs, S⟩ := src_of (T := T) (x := .var 0) (s0 := s) R (Res.of (s := s) rfl ru) e4
            have el := S.ref
            subst el
            refine ⟨ad, dx, vs, b, l, xs, rfl, sl, hw j _ eu, by rw [← hK]; exact S.sq, ?_⟩
            rw [← hK]
            exact q _ H1 ρ1 st R1 (wk_seq S)
    | _ => exact q.elim
end
end CC

set_option Elab.async false
set_option linter.all false
set_option maxRecDepth 100000
set_option maxHeartbeats 1000000
/-! All expressions, all statements. -/
namespace CC
open PySem PySem.Spec PyProof.Rows L2

section
variable {t : Tx} {G : Pg} {T : Tab} {k : Nat}
theorem snd_no {x : E} (he : ∀ C ex, chkE T x C ex = false) (ha : ∀ C es, chkA T x C es = false) : Snd t G T k x :=
  ⟨fun C X ex _ h => absurd ((he C ex).symm.trans h) Bool.false_ne_true, fun C X ex _ h => absurd ((he C ex).symm.trans h) Bool.false_ne_true, fun C X op es pos _ h => absurd ((he C _).symm.trans h) Bool.false_ne_true, fun C X es _ h => absurd ((ha C es).symm.trans h) Bool.false_ne_true⟩
theorem sndI_no {x : E} (h : ∀ C ex tg, chkI T x C ex tg = false) : SndI t G T k x := fun C X tg ex _ hh => absurd ((h C ex tg).symm.trans hh) Bool.false_ne_true
theorem snd_all (x : E) : Snd t G T k x ∧ SndI t G T k x ∧ SndC t G T k x := by
  induction x with
  | var i => exact ⟨s_var i, sndI_no fun _ _ _ => rfl, sc_plain (s_var i) fun _ _ _ _ _ => rfl⟩
  | mvar i => exact ⟨s_mvar i, sndI_no fun _ _ _ => rfl, sc_plain (s_mvar i) fun _ _ _ _ _ => rfl⟩
  | cst c => exact ⟨s_cst c, sndI_no fun _ _ _ => rfl, sc_plain (s_cst c) fun _ _ _ _ _ => rfl⟩
  | glb g => exact ⟨s_glb g, sndI_no fun _ _ _ => rfl, sc_plain (s_glb g) fun _ _ _ _ _ => rfl⟩
  | bin op a b ia ib => exact ⟨s_bin op ia.1 ib.1, sndI_no fun _ _ _ => rfl, sc_plain (s_bin op ia.1 ib.1) fun _ _ _ _ _ => rfl⟩
  | neg a ia => exact ⟨s_neg ia.1, sndI_no fun _ _ _ => rfl, sc_plain (s_neg ia.1) fun _ _ _ _ _ => rfl⟩
  | not a ia => exact ⟨s_not ia.1, sndI_no fun _ _ _ => rfl, sc_plain (s_not ia.1) fun _ _ _ _ _ => rfl⟩
  | and a b ia ib => exact ⟨s_and ia.1 ib.1, sndI_no fun _ _ _ => rfl, sc_plain (s_and ia.1 ib.1) fun _ _ _ _ _ => rfl⟩
  | or a b ia ib => exact ⟨s_or ia.1 ib.1, sndI_no fun _ _ _ => rfl, sc_plain (s_or ia.1 ib.1) fun _ _ _ _ _ => rfl⟩
  | cmp op a b ia ib => exact ⟨s_cmp op ia.1 ib.1, sndI_no fun _ _ _ => rfl, sc_plain (s_cmp op ia.1 ib.1) fun _ _ _ _ _ => rfl⟩
  | chn o p a b c ia ib ic => exact ⟨s_chn o p ia.1 ib.1 ic.1, sndI_no fun _ _ _ => rfl, sc_plain (s_chn o p ia.1 ib.1 ic.1) fun _ _ _ _ _ => rfl⟩
  | ife c a b ic ia ib => exact ⟨s_ife ic.1 ia.1 ib.1, sndI_no fun _ _ _ => rfl, sc_plain (s_ife ic.1 ia.1 ib.1) fun _ _ _ _ _ => rfl⟩
  | tup as ia => exact ⟨s_tup ia.1, sndI_no fun _ _ _ => rfl, sc_plain (s_tup ia.1) fun _ _ _ _ _ => rfl⟩
  | lst as ia => exact ⟨s_lst ia.1, sndI_no fun _ _ _ => rfl, sc_plain (s_lst ia.1) fun _ _ _ _ _ => rfl⟩
  | nil => exact ⟨s_nil, sndI_no fun _ _ _ => rfl, sc_plain s_nil fun _ _ _ _ _ => rfl⟩
  | cons a r ia ir => exact ⟨s_cons ia.1 ir.1, sndI_no fun _ _ _ => rfl, sc_plain (s_cons ia.1 ir.1) fun _ _ _ _ _ => rfl⟩
  | call f as ia => exact ⟨s_call f ia.1, sndI_no fun _ _ _ => rfl, sc_plain (s_call f ia.1) fun _ _ _ _ _ => rfl⟩
  | meth m o as io ia => exact ⟨s_meth m io.1 ia.1, sndI_no fun _ _ _ => rfl, sc_plain (s_meth m io.1 ia.1) fun _ _ _ _ _ => rfl⟩
  | mk c as ia => exact ⟨s_mk c ia.1, sndI_no fun _ _ _ => rfl, sc_plain (s_mk c ia.1) fun _ _ _ _ _ => rfl⟩
  | bi b a ia => exact ⟨s_bi b ia.1, sndI_no fun _ _ _ => rfl, sc_plain (s_bi b ia.1) fun _ _ _ _ _ => rfl⟩
  | min2 a b ia ib => exact ⟨s_min2 ia.1 ib.1, sndI_no fun _ _ _ => rfl, sc_plain (s_min2 ia.1 ib.1) fun _ _ _ _ _ => rfl⟩
  | isi a ts ia => exact ⟨s_isi ts ia.1, sndI_no fun _ _ _ => rfl, sc_plain (s_isi ts ia.1) fun _ _ _ _ _ => rfl⟩
  | len a ia => exact ⟨s_len ia.1, sndI_no fun _ _ _ => rfl, sc_plain (s_len ia.1) fun _ _ _ _ _ => rfl⟩
  | sub a i ia ii => exact ⟨s_sub ia.1 ii.1, sndI_no fun _ _ _ => rfl, sc_plain (s_sub ia.1 ii.1) fun _ _ _ _ _ => rfl⟩
  | slc a lo hi ia => exact ⟨s_slc lo hi ia.1, sndI_no fun _ _ _ => rfl, sc_plain (s_slc lo hi ia.1) fun _ _ _ _ _ => rfl⟩
  | fld f a ia => exact ⟨s_fld f ia.1, sndI_no fun _ _ _ => rfl, sc_plain (s_fld f ia.1) fun _ _ _ _ _ => rfl⟩
  | prop m a ia => exact ⟨s_prop m ia.1, sndI_no fun _ _ _ => rfl, sc_plain (s_prop m ia.1) fun _ _ _ _ _ => rfl⟩
  | eqo n a b ia ib => exact ⟨s_eqo n ia.1 ib.1, sndI_no fun _ _ _ => rfl, sc_plain (s_eqo n ia.1 ib.1) fun _ _ _ _ _ => rfl⟩
  | tix tu a b ia ib => exact ⟨s_tix tu ia.1 ib.1, sndI_no fun _ _ _ => rfl, sc_plain (s_tix tu ia.1 ib.1) fun _ _ _ _ _ => rfl⟩
  | pop0 a ia => exact ⟨s_pop0 ia.1, sndI_no fun _ _ _ => rfl, sc_plain (s_pop0 ia.1) fun _ _ _ _ _ => rfl⟩
  | trng a ia => exact ⟨s_trng ia.1, sndI_no fun _ _ _ => rfl, sc_plain (s_trng ia.1) fun _ _ _ _ _ => rfl⟩
  | comp tg own it ifs elt ii if_ ie => exact ⟨s_comp ii.2.1 if_.1 ie.1, sndI_no fun _ _ _ => rfl, sc_comp ii.2.1 if_.1 ie.1⟩
  | comp2 tg tg1 own own1 it it1 ifs1 elt ii ii1 if_ ie => exact ⟨s_comp2 ii.2.1 ii1.2.1 if_.1 ie.1, sndI_no fun _ _ _ => rfl, sc_comp2 ii.2.1 ii1.2.1 if_.1 ie.1⟩
  | iseq a ia => exact ⟨snd_no (fun _ _ => rfl) fun _ _ => rfl, i_seq ia.1, sc_plain (snd_no (fun _ _ => rfl) fun _ _ => rfl) fun _ _ _ _ _ => rfl⟩
  | iown a ia => exact ⟨snd_no (fun _ _ => rfl) fun _ _ => rfl, i_own ia.1, sc_plain (snd_no (fun _ _ => rfl) fun _ _ => rfl) fun _ _ _ _ _ => rfl⟩
  | irng a ia => exact ⟨snd_no (fun _ _ => rfl) fun _ _ => rfl, i_rng ia.1, sc_plain (snd_no (fun _ _ => rfl) fun _ _ => rfl) fun _ _ _ _ _ => rfl⟩
  | ienum a ia => exact ⟨snd_no (fun _ _ => rfl) fun _ _ => rfl, i_enum ia.1, sc_plain (snd_no (fun _ _ => rfl) fun _ _ => rfl) fun _ _ _ _ _ => rfl⟩
  | izip a b ia ib => exact ⟨snd_no (fun _ _ => rfl) fun _ _ => rfl, i_zip ia.1 ib.1, sc_plain (snd_no (fun _ _ => rfl) fun _ _ => rfl) fun _ _ _ _ _ => rfl⟩
theorem sndS_no {x : S} (h : ∀ fresh ini C sts, chkB T fresh ini x C sts = false) : SndS t G T k x :=
  ⟨fun fresh ini B ρ0 Lam0 C X st cx hp _ hh => absurd ((h _ _ _ _).symm.trans hh) Bool.false_ne_true, fun fresh ini B ρ0 Lam0 C X st cx hp hh => absurd ((h _ _ _ _).symm.trans hh) Bool.false_ne_true⟩
theorem sndS_all (x : S) : SndS t G T k x := by
  induction x with
  | skip => exact ss_skip
  | bad => exact ss_bad
  | seq a b ia ib => exact ss_seq ia ib
  | set i a => exact ss_set i (snd_all a).1 (snd_all a).2.2
  | setM i a => exact ss_setM i (snd_all a).1 (snd_all a).2.2
  | setB i a => exact ss_setB i (snd_all a).1 (snd_all a).2.2
  | unp l a => exact ss_unp l (snd_all a).1
  | par i j mi mj a b => exact ss_par i j mi mj (snd_all a).1 (snd_all b).1
  | app i a => exact ss_app i (snd_all a).1
  | ext i a => exact sndS_no fun _ _ _ _ => rfl
  | ixs i ix a => exact ss_ixs i (snd_all ix).1 (snd_all a).1
  | ixa i ix a => exact ss_ixa i (snd_all ix).1 (snd_all a).1
  | aug i op a => exact ss_aug i op (snd_all a).1
  | sfld c j a => exact ss_sfld c j (snd_all a).1
  | ift c a b ia ib => exact ss_ift (snd_all c).1 ia ib
  | for_ tg it b ib => exact ss_for tg (snd_all it).2.1 ib
  | whl c b => exact sndS_no fun _ _ _ _ => rfl
  | ret a => exact ss_ret (snd_all a).1
  | exp a => exact ss_exp (snd_all a).1
end
end CC

set_option Elab.async false
set_option linter.all false
set_option maxRecDepth 100000
set_option maxHeartbeats 1000000
/-! Defs, and how an instance is made. -/
namespace CC
open PySem PySem.Spec PyProof.Rows L2

/-- a def of the text -/
structure DefT where
  at_ : Str × Option Str
  x : Str
  qual : Str
  st : Stmt
  N : List Str
def chkF (T : Tab) (fn : Fn) (ini : Bool) (d : DefT) : Bool :=
  decide (d.N.length = fn.nn) && C8.scC d.N (d.N.take fn.np) (defScope d.st) && decide (fn.np ≤ fn.nn) && decide (fn.nn < 1000) && (if ini then fn.M.all (fun i => decide (i = 0 ∨ i = dxI ∨ fn.np ≤ i)) && fn.M.contains 0 && fn.M.contains dxI && decide (0 < fn.np) else fn.M.all fun i => decide (fn.np ≤ i)) &&
    chkB T (if ini then false else fn.fresh) ini fn.body ⟨d.N, defScope d.st, defScope d.st, fn.M⟩ (defBody d.st)
abbrev FnD (K : PySem.W.Frag) (d : DefT) (f : Addr) (fd : FuncData) : Prop := FunD K d.x d.qual (defArgs d.st) (defBody d.st) (defScope d.st) [] [] f fd
section
variable {t : Tx} {G : Pg} {T : Tab} {k : Nat} {P : Program} {w : World} {mg : Str → Option Value} {base : Heap}
theorem start_get {np nn : Nat} {ds : List D} {i : Nat} {d : D} (h : (startE nn ds)[i]? = some (some d)) : ds[i]? = some d := by
  unfold startE at h
  by_cases hi : i < ds.length
  · rw [List.getElem?_append_left (by rw [List.length_map]; exact hi), List.getElem?_map, List.getElem?_eq_getElem hi] at h
    rw [List.getElem?_eq_getElem hi]
    exact congrArg some (Option.some.inj (Option.some.inj h))
  · rw [List.getElem?_append_right (by rw [List.length_map]; omega), List.getElem?_replicate] at h
    split at h <;> cases h
theorem start_val {N : List Str} {vs : List V} {i : Nat} {v : V} (h : vs[i]? = some v) : (L2.start N vs)[i]? = some (some v) := by
  unfold L2.start
  have hi := (List.getElem?_eq_some_iff.mp h).1
  rw [List.getElem?_append_left (by rw [List.length_map]; exact hi), List.getElem?_map, h]
  rfl
theorem cx_of {fn : Fn} {d : DefT} {f : Addr} {cdv : Value} {A : Around} {outer : List Env} {s : Shared} {H : Hp} {E : XK} (S : FnScope d.N (d.N.take fn.np) (defScope d.st)) (hy : Hyp t G T k P w mg base) (hc : HypC t G T k P w mg base)
    (hr : Room (k + 6) (A.deeper (envOfC d.qual (defScope d.st) s.heap.objs.size f cdv))) : CxOk t G T k ⟨d.N, defScope d.st, defScope d.st, fn.M⟩ (cxOf CX0 P w t.K mg base d.N d.qual (defScope d.st) f cdv A outer s H E).nox :=
  ⟨rfl, rfl, S.nd, rfl, rfl, hr, fun _ _ => .inl rfl, hy, hc⟩
theorem bx_of {ρ : List Addr} {L : Addr → Prop} {L' : Addr → Prop} {H : Hp} {h : Hb} (b : Boxes t ρ L H h) : Boxes t ρ L' H h := fun n l e => by
  obtain ⟨h1, b, ys, h2, h3, h4⟩ := b n l e
  exact ⟨h1, b, ys, h2, h3, Reps.nl (fun _ _ e _ => e) l ys h1 h4⟩
/-- A DEF IS SOUND -/
theorem fn_sound {fn : Fn} {d : DefT} {f : Addr} {fd : FuncData} (hk : chkF T fn false d = true) (F : FnD t.K d f fd) (hy : Hyp t G T k P w mg base) (hc : HypC t G T k P w mg base) :
    FnOk P w t.K mg base CX0 (k + 7) f fd (d.N.take fn.np) (spF t (d.N.take fn.np).length (fun ds h => if ds.length = fn.np then outD (exc G fn.body (startE fn.nn ds) h) else .bad) fn.fresh) := by
  unfold chkF at hk
  simp only [Bool.and_eq_true, decide_eq_true_eq, Bool.false_eq_true, if_false] at hk
  obtain ⟨⟨⟨⟨⟨h1, h2⟩, h3⟩, h3b⟩, h4⟩, h5⟩ := hk
  have S := C8.fnScope_by h2
  refine F.ok S (fun vs H Q E h => h.1) fun cdv A outer s H vs Q E hr h => ?_
  obtain ⟨hl, ρ, Lam, hb, ds, I, rs, out⟩ := h
  have cx : CxOk t G T k ⟨d.N, defScope d.st, defScope d.st, fn.M⟩ (cxOf CX0 P w t.K mg base d.N d.qual (defScope d.st) f cdv A outer s H E).nox := cx_of S hy hc hr
  refine ⟨_, PSs.nox ((sndS_all fn.body).blk fn.fresh none H ρ Lam ⟨d.N, defScope d.st, defScope d.st, fn.M⟩ _ _ cx PassesOwn.never h5), ?_⟩
  have hM : ∀ i, i ∈ fn.M → fn.np ≤ i := fun i hi => by
    have := List.all_eq_true.mp h4 i hi
    exact of_decide_eq_true this
  have hlen := rs.length
  have out : OutF t fn.fresh ρ Lam H (if ds.length = fn.np then outD (exc G fn.body (startE fn.nn ds) hb) else .bad) Q := out
  by_cases hd : ds.length = fn.np
  · rw [if_pos hd] at out
    have eL : (⟨Lam, ρ, fun _ => none, startE fn.nn ds, hb⟩ : Sit).L = fun a => Lam a ∨ a ∈ ρ := by
      funext a
      refine propext ⟨fun z => ?_, fun z => ?_⟩
      · rcases z with z | z | ⟨i, z⟩
        · exact .inl z
        · exact .inr z
        · cases z
      · rcases z with z | z
        · exact .inl z
        · exact .inr (.inl z)
    have R : Rel t fn.M ⟨Lam, ρ, fun _ => none, startE fn.nn ds, hb⟩ (start d.N vs) H := by
      refine ⟨?_, fun i x e n => ?_, fun i x e n => ?_, fun i j a z => (nomatch z), fun i a z => (nomatch z), bx_of I.box, I.blen, I.bnd, fun a z => I.lam a ?_, I.lamb⟩
      · show (startE fn.nn ds).length = (start d.N vs).length
        unfold startE L2.start
        simp only [List.length_append, List.length_map, List.length_replicate]
        omega
      · obtain ⟨v, e1, r⟩ := rs.get (start_get (np := fn.np) e)
        refine ⟨v, start_val e1, ?_⟩
        show Rep t ρ _ H v x
        rw [eL]
        exact r
      · have e := start_get (np := fn.np) e
        have := (List.getElem?_eq_some_iff.mp e).1
        have := hM i n
        omega
      · rw [eL] at z
        exact z
    refine ⟨⟨Lam, ρ, fun _ => none, startE fn.nn ds, hb⟩, ⟨rfl, R, Stp.refl _ _, fun i a z => (nomatch z), fun _ i x e m => ?_, fun x z => (nomatch z)⟩, ?_⟩
    · have e := start_get (np := fn.np) e
      have := (List.getElem?_eq_some_iff.mp e).1
      have := hM i m
      omega
    · show AftS t fn.fresh none fn.M H ρ Lam (exc G fn.body (startE fn.nn ds) hb) _
      cases e : exc G fn.body (startE fn.nn ds) hb with
      | bad => rw [e] at out; exact out
      | brk e' h' => rw [e] at out; exact out.elim
      | cnt e' h' => rw [e] at out; exact out.elim
      | next e' h' =>
        rw [e] at out
        intro s' σ' H' g he hh
        refine out .non H' s'.ρ g.stp (by rw [← hh]; exact bx_of g.rel.box) (by rw [← hh]; exact g.rel.blen) g.rel.bnd ?_
        split
        · exact Rep.non
        · exact .non
      | ret d' h' =>
        rw [e] at out
        intro v H' ρ' st bx bl nd o
        refine out v H' ρ' st bx bl nd ?_
        unfold OutR at o
        exact o
  · rw [if_neg hd] at out
    exact out.elim
theorem mkD_of {c : Nat} {r : RS} {d : D} {h : Hb} (e : mkD c r = .ok d h) : ∃ y l q, r = .next (some (.ins c (y :: l)) :: q) h ∧ d = .ins c (y :: l) := by
  unfold mkD at e
  split at e
  · split at e
    · rename_i hc
      subst hc
      cases e
      exact ⟨_, _, _, rfl, rfl⟩
    · cases e
  · cases e
/-- AN INSTANCE IS MADE -/
theorem init_sound {fn : Fn} {d : DefT} {c : Nat} {f : Addr} {fd : FuncData} (hk : chkF T fn true d = true) (F : FnD t.K d f fd) (hcn : c < t.nc) (hy : Hyp t G T k P w mg base) (hc : HypC t G T k P w mg base) :
    FnOk P w t.K mg base CX0 (k + 7) f fd (d.N.take fn.np) (spI t c (d.N.take fn.np).length (fun ds h => if ds.length + 1 = fn.np then mkD c (exc G fn.body (startE fn.nn (.ins c [] :: ds)) h) else .bad)) := by
  unfold chkF at hk
  simp only [Bool.and_eq_true, decide_eq_true_eq, if_true] at hk
  obtain ⟨⟨⟨⟨⟨h1, h2⟩, h3⟩, h3b⟩, h4⟩, h5⟩ := hk
  obtain ⟨⟨⟨h4, h6⟩, h7⟩, h8⟩ := h4
  have S := C8.fnScope_by h2
  refine F.ok S (fun vs H Q E h => h.1) fun cdv A outer s H vs Q E hr h => ?_
  obtain ⟨hl, B, x, dx, ws, ρ, Lam, hb, ds, rfl, rfl, bx, bdx, ne, I, rs, out⟩ := h
  have cx : CxOk t G T k ⟨d.N, defScope d.st, defScope d.st, fn.M⟩ (cxOf CX0 P w t.K mg base d.N d.qual (defScope d.st) f cdv A outer s (upd (upd B dx (.own x)) x (.ins (t.ca c) dx [])) E).nox := cx_of S hy hc hr
  refine ⟨_, PSs.nox ((sndS_all fn.body).blk false (some x) B ρ Lam ⟨d.N, defScope d.st, defScope d.st, fn.M⟩ _ _ cx PassesOwn.never h5), ?_⟩
  have hM : ∀ i, i ∈ fn.M → i = 0 ∨ i = dxI ∨ fn.np ≤ i := fun i hi => by
    have := List.all_eq_true.mp h4 i hi
    exact of_decide_eq_true this
  have h6 : 0 ∈ fn.M := by simpa using h6
  have h7 : dxI ∈ fn.M := by simpa using h7
  have hlen := rs.length
  have out : OutI t ρ Lam B x (if ds.length + 1 = fn.np then mkD c (exc G fn.body (startE fn.nn (.ins c [] :: ds)) hb) else .bad) Q := out
  by_cases hd : ds.length + 1 = fn.np
  · rw [if_pos hd] at out
    have grow : ∀ b o, B b = some o → upd (upd B dx (.own x)) x (.ins (t.ca c) dx []) b = some o := fun b o e => by
      rw [upd_ne (ne_of_none e bx), upd_ne (ne_of_none e bdx)]
      exact e
    have Bx : ∀ b, Lam b ∨ b ∈ ρ → ∃ o, B b = some o ∧ ¬ Fix o := I.lam
    have nLx : ¬ (Lam x ∨ x ∈ ρ) := fun z => by
      obtain ⟨o, e, _⟩ := Bx x z
      rw [bx] at e
      cases e
    have nLd : ¬ (Lam dx ∨ dx ∈ ρ) := fun z => by
      obtain ⟨o, e, _⟩ := Bx dx z
      rw [bdx] at e
      cases e
    let μ : Nat → Option Addr := fun i => if i = 0 then some x else if i = dxI then some dx else none
    have μ0 : μ 0 = some x := rfl
    have μd : μ dxI = some dx := rfl
    have μi : ∀ i a, μ i = some a → (i = 0 ∧ a = x) ∨ (i = dxI ∧ a = dx) := fun i a e => by
      have e : (if i = 0 then some x else if i = dxI then some dx else none) = some a := e
      split at e
      · rename_i hi
        exact .inl ⟨hi, (Option.some.inj e).symm⟩
      · split at e
        · rename_i hi
          exact .inr ⟨hi, (Option.some.inj e).symm⟩
        · cases e
    let st0 : Sit := ⟨Lam, ρ, μ, startE fn.nn (.ins c [] :: ds), hb⟩
    have sL : ∀ b, st0.L b → Lam b ∨ b ∈ ρ ∨ b = x ∨ b = dx := fun b z => by
      rcases z with z | z | ⟨i, z⟩
      · exact .inl z
      · exact .inr (.inl z)
      · rcases μi i b z with ⟨_, rfl⟩ | ⟨_, rfl⟩
        · exact .inr (.inr (.inl rfl))
        · exact .inr (.inr (.inr rfl))
    have mv : ∀ b o, B b = some o → ¬ (Lam b ∨ b ∈ ρ) → upd (upd B dx (.own x)) x (.ins (t.ca c) dx []) b = some o ∧ ¬ st0.L b := fun b o e n => by
      refine ⟨grow b o e, fun z => ?_⟩
      rcases sL b z with z | z | z | z
      · exact n (.inl z)
      · exact n (.inr z)
      · rw [z, bx] at e
        cases e
      · rw [z, bdx] at e
        cases e
    have rs' : Reps t ρ st0.L (upd (upd B dx (.own x)) x (.ins (t.ca c) dx [])) ws ds := Reps.move (fun _ _ e => e) mv (fun b o e _ => grow b o e) ds ws rs
    have R : Rel t fn.M st0 (start d.N (.ref x :: ws)) (upd (upd B dx (.own x)) x (.ins (t.ca c) dx [])) := by
      refine ⟨?_, fun i y e n => ?_, fun i y e n => ?_, fun i j a e1 e2 => ?_, fun i a e => ?_, fun n l e => ?_, I.blen, I.bnd, fun a z => ?_, I.lamb⟩
      · show (startE fn.nn (.ins c [] :: ds)).length = (start d.N (.ref x :: ws)).length
        unfold startE L2.start
        simp only [List.length_append, List.length_map, List.length_replicate, List.length_cons]
        omega
      · have e := start_get (np := fn.np) e
        cases i with
        | zero => exact absurd h6 n
        | succ j =>
          obtain ⟨v, e1, r⟩ := rs'.get (show ds[j]? = some y from by simpa using e)
          exact ⟨v, start_val (by simpa using e1), r⟩
      · have e := start_get (np := fn.np) e
        have lt := (List.getElem?_eq_some_iff.mp e).1
        rw [List.length_cons] at lt
        rcases hM i n with rfl | rfl | z
        · have e : some (D.ins c []) = some y := e
          cases e
          exact ⟨x, μ0, rfl, dx, [], [], .inl ⟨upd_same, rfl⟩, μd, fun j v z => (nomatch z), .nil⟩
        · unfold dxI at lt
          omega
        · omega
      · rcases μi i a e1 with ⟨rfl, rfl⟩ | ⟨rfl, rfl⟩
        · rcases μi j _ e2 with ⟨rfl, _⟩ | ⟨_, z⟩
          · rfl
          · exact absurd z.symm ne
        · rcases μi j _ e2 with ⟨_, z⟩ | ⟨rfl, _⟩
          · exact absurd z ne
          · rfl
      · rcases μi i a e with ⟨rfl, rfl⟩ | ⟨rfl, rfl⟩
        · exact ⟨fun z => nLx (.inr z), fun z => nLx (.inl z), h6⟩
        · exact ⟨fun z => nLd (.inr z), fun z => nLd (.inl z), h7⟩
      · obtain ⟨w1, b, zs, w2, w3, w4⟩ := I.box n l e
        exact ⟨w1, b, zs, w2, grow _ _ w3, Reps.nl (fun b o e _ => grow b o e) l zs w1 w4⟩
      · rcases sL a z with z | z | z | z
        · obtain ⟨o, e, f⟩ := Bx a (.inl z)
          exact ⟨o, grow a o e, f⟩
        · obtain ⟨o, e, f⟩ := Bx a (.inr z)
          exact ⟨o, grow a o e, f⟩
        · subst z
          exact ⟨_, upd_same, fun z => z⟩
        · subst z
          exact ⟨.own x, by rw [upd_ne ne, upd_same], fun z => z⟩
    refine ⟨st0, ⟨rfl, R, ⟨fun b o e _ => grow b o e, fun b o e _ => grow b o e, fun b o e => ⟨o, grow b o e⟩, List.prefix_refl _, fun _ z => .inl z⟩, fun i a e => ?_, fun z => (nomatch z), fun y z => ?_⟩, ?_⟩
    · rcases μi i a e with ⟨_, rfl⟩ | ⟨_, rfl⟩
      · exact bx
      · exact bdx
    · cases z
      exact μ0
    · show AftS t false (some x) fn.M B ρ Lam (exc G fn.body (startE fn.nn (.ins c [] :: ds)) hb) _
      cases e : exc G fn.body (startE fn.nn (.ins c [] :: ds)) hb with
      | bad => rw [e] at out; exact out
      | brk e' h' => rw [e] at out; exact out.elim
      | cnt e' h' => rw [e] at out; exact out.elim
      | ret d' h' => rw [e] at out; exact out.elim
      | next e' h' =>
        rw [e] at out
        intro s' σ' H' g he hh
        show Q .non H'
        cases em : mkD c (.next e' h') with
        | bad => rw [em] at out; exact out.elim
        | ok dd hh2 =>
            rw [em] at out
            obtain ⟨y, l, r, e1, rfl⟩ := mkD_of em
            cases e1
            have e0 : s'.e[(0 : Nat)]? = some (some (.ins c (y :: l))) := by
              rw [he]
              rfl
            obtain ⟨a, m1, m2, dy, us, zs, w1, w2, w3, w4⟩ := g.rel.own 0 _ e0 h6
            have ea : a = x := Option.some.inj (m1.symm.trans (g.slf x rfl))
            subst ea
            have na := g.rel.mfr 0 a m1
            have nd := g.rel.mfr dxI dy w2
            rw [g.lam] at na nd
            refine out H' s'.ρ g.stp (by rw [← hh]; exact bx_of g.rel.box) (by rw [← hh]; exact g.rel.blen) g.rel.bnd ?_
            have lt : ∀ b, Lam b ∨ b ∈ s'.ρ → s'.L b := fun b z => z.elim (fun z => .inl (by rw [g.lam]; exact z)) fun z => .inr (.inl z)
            rcases w1 with ⟨v1, v2⟩ | ⟨v1, v2⟩
            · cases w4 with
              | cons r1 r2 =>
                have := w3 0 _ rfl
                rw [v2] at this
                cases this
            · exact .ins hcn v1 v2 (fun z => z.elim na.2.1 na.1) (fun z => z.elim nd.2.1 nd.1) w3 (w4.less lt)
  · rw [if_neg hd] at out
    exact out.elim
end
end CC

set_option Elab.async false
set_option linter.all false
set_option maxRecDepth 100000
set_option maxHeartbeats 1000000
/-! The text as a whole: what the head must tell, and the induction over the depth of calls. -/
namespace CC
open PySem PySem.Spec PyProof.Rows L2

inductive At where
  | glo (x : Str) | met (c m : Str) | prp (c m : Str)
/-- a property's function -/
def pa (K : PySem.W.Frag) (C : Addr) (m : Str) : Addr := match PySem.W.recIn K (He.ma K C m) "property" with
  | some (.ref g :: _) => g
  | _ => 0
def At.ad (K : PySem.W.Frag) : At → Addr
  | .glo x => He.ga K x
  | .met c m => He.ma K (He.ga K c) m
  | .prp c m => pa K (He.ga K c) m
/-- the text: a def by its place -/
structure DefA where
  at_ : At
  d : DefT
structure Txt where
  p : Prg
  T : Tab
  defs : List DefA
  its : List (Nat × DefA)
def Txt.ini (X : Txt) (i : Nat) : Bool := X.p.cls.any fun c => c.init == i

/-! ### what the head tells of a def -/
abbrev FnTl : Type := Option (Str × Str × Arguments × FuncBody × Scope × Addr × List (Str × Addr) × Addr)
def fnTl (K : PySem.W.Frag) (a : Addr) : FnTl := (K.lookup a).bind fun o => match o.data with
  | .func fd => some (fd.name, fd.qualname, fd.params, fd.body, fd.scope, fd.globals, fd.closure, fd.builtins)
  | _ => none
def DefA.tl (d : DefA) : FnTl := some (d.d.x, d.d.qual, defArgs d.d.st, .stmts (defBody d.d.st), defScope d.d.st, mainGlobals, [], builtinsNs)
def isNoneV : Value → Bool
  | .none => true
  | _ => false
def DefA.okB (K : PySem.W.Frag) (d : DefA) : Bool := PySem.W.keepIn K (.ref (d.at_.ad K)) && (match K.lookup (d.at_.ad K) with
  | some o => (match o.data with
    | .func fd => PySem.W.codeIn K fd.code d.d.qual && isNoneV fd.defaults
    | _ => false)
  | none => false)
theorem fun_of {K : PySem.W.Frag} {d : DefA} (e : fnTl K (d.at_.ad K) = d.tl) (c : d.okB K = true) : ∃ fd, FnD K d.d (d.at_.ad K) fd := by
  unfold DefA.okB at c
  rw [Bool.and_eq_true] at c
  obtain ⟨kp, c⟩ := c
  unfold fnTl at e
  split at c
  · rename_i o lk
    rw [lk] at e
    obtain ⟨oc, od, dt, osl⟩ := o
    cases dt with
    | func fd =>
      obtain ⟨n1, n2, n3, n4, n5, n6, n7, n8, n9, n10, n11, n12, n13, n14, n15⟩ := fd
      have e : (some (n1, n2, n3, n4, n5, n6, n7, n15) : FnTl) = some (d.d.x, d.d.qual, defArgs d.d.st, .stmts (defBody d.d.st), defScope d.d.st, mainGlobals, [], builtinsNs) := e
      simp only [Option.some.injEq, Prod.mk.injEq] at e
      obtain ⟨rfl, rfl, rfl, rfl, rfl, rfl, rfl, rfl⟩ := e
      have c : (PySem.W.codeIn K n13 d.d.qual && isNoneV n8) = true := c
      rw [Bool.and_eq_true] at c
      have hn : n8 = .none := by
        have := c.2
        cases n8 with
        | none => rfl
        | _ => cases this
      subst hn
      exact ⟨_, ⟨oc, od, .none, n9, n10, n11, n12, n13, n14, osl, rfl, lk, c.1, .inl ⟨rfl, rfl⟩, .inl rfl⟩, kp⟩
    | _ => cases c
  · cases c

/-! ### constants -/
mutual
def relD (K : PySem.W.Frag) : D → Value → Bool
  | .non, .none => true
  | .bl b, .bool c => b == c
  | .int i, .int j _ => decide (i = j)
  | .str x, .str y _ => decide (x = y)
  | .tup l, .ref a => (match K.lookup a with
    | some o => (match o.data with
      | .seq its _ => decide (o.cls = .type "tuple") && decide (its.size ≤ 1000) && relDs K l its.toList
      | _ => false)
    | none => false)
  | _, _ => false
def relDs (K : PySem.W.Frag) : List D → List Value → Bool
  | [], [] => true
  | d :: l, u :: us => relD K d u && relDs K l us
  | _, _ => false
end
mutual
theorem relD_ok {t : Tx} : ∀ (d : D) (u : Value), relD t.K d u = true → (∀ l, d ≠ .lst l) ∧ ∃ v, RelV v u ∧ ∀ ρ L H, Rep t ρ L H v d
  | .non, u, h => by
    cases u <;> first | (exact absurd h Bool.false_ne_true) | skip
    exact ⟨fun _ z => (nomatch z), .non, rfl, fun _ _ _ => .non⟩
  | .bl b, u, h => by
    cases u <;> first | (exact absurd h Bool.false_ne_true) | skip
    rename_i c
    have e : b = c := eq_of_beq (show (b == c) = true from h)
    subst e
    exact ⟨fun _ z => (nomatch z), .bl b, rfl, fun _ _ _ => .bl b⟩
  | .int b, u, h => by
    cases u <;> first | (exact absurd h Bool.false_ne_true) | skip
    rename_i c t
    have e : b = c := of_decide_eq_true (show decide (b = c) = true from h)
    subst e
    exact ⟨fun _ z => (nomatch z), .int b, ⟨t, rfl⟩, fun _ _ _ => .int b⟩
  | .str b, u, h => by
    cases u <;> first | (exact absurd h Bool.false_ne_true) | skip
    rename_i c t
    have e : b = c := of_decide_eq_true (show decide (b = c) = true from h)
    subst e
    exact ⟨fun _ z => (nomatch z), .str b, ⟨t, rfl⟩, fun _ _ _ => .str b⟩
  | .tup l, u, h => by
    cases u <;> first | (exact absurd h Bool.false_ne_true) | skip
    rename_i a
    have h : (match t.K.lookup a with
      | some o => (match o.data with
        | .seq its _ => decide (o.cls = .type "tuple") && decide (its.size ≤ 1000) && relDs t.K l its.toList
        | _ => false)
      | none => false) = true := h
    split at h
    · rename_i o lk
      split at h
      · rename_i its n ed
        simp only [Bool.and_eq_true, decide_eq_true_eq] at h
        obtain ⟨vs, rv, rr⟩ := relDs_ok l its.toList h.2
        exact ⟨fun _ z => (nomatch z), .ref a, rfl, fun ρ L H => .tup (.inr ⟨o, its, n, lk, h.1.1, ed, Nat.le_trans h.1.2 (by decide), rv⟩) (rr ρ L H)⟩
      · cases h
    · cases h
  | .lst l, u, h => by cases u <;> exact absurd h Bool.false_ne_true
  | .dic l, u, h => by cases u <;> exact absurd h Bool.false_ne_true
  | .ins c l, u, h => by cases u <;> exact absurd h Bool.false_ne_true
  | .obj n, u, h => by cases u <;> exact absurd h Bool.false_ne_true
  | .frz l, u, h => by cases u <;> exact absurd h Bool.false_ne_true
  | .ft l, u, h => by cases u <;> exact absurd h Bool.false_ne_true
theorem relDs_ok {t : Tx} : ∀ (d : List D) (u : List Value), relDs t.K d u = true → ∃ v, Vals v u ∧ ∀ ρ L H, Reps t ρ L H v d
  | [], u, h => by
    cases u with
    | nil => exact ⟨[], .nil, fun _ _ _ => .nil⟩
    | cons a r => exact absurd h Bool.false_ne_true
  | d :: l, u, h => by
    cases u with
    | nil => exact absurd h Bool.false_ne_true
    | cons a r =>
      have h : (relD t.K d a && relDs t.K l r) = true := h
      rw [Bool.and_eq_true] at h
      obtain ⟨_, v, r1, r2⟩ := relD_ok d a h.1
      obtain ⟨vs, s1, s2⟩ := relDs_ok l r h.2
      exact ⟨v :: vs, .cons r1 s1, fun ρ L H => .cons (r2 ρ L H) (s2 ρ L H)⟩
end

/-! ### what the head tells, as one Bool -/
def slotA (K : PySem.W.Frag) (C : Addr) (f : Str) : Nat := match PySem.W.slotIn K (He.ma K C f) C with
  | some i => i
  | none => 0
def slotB (K : PySem.W.Frag) (C : Addr) (f : Str) : Bool := He.eqO (PySem.W.findIn K (.ref C) f) (some (some (.ref (He.ma K C f)))) && He.eqO (PySem.W.specialIn K (.ref (He.ma K C f)) "__get__") (some (some (.builtin "member_descriptor.__get__"))) &&
  decide (PySem.W.takesIn K (.ref (He.ma K C f)) = some true) && decide (PySem.W.typeIn K (.ref (He.ma K C f)) = some (.type "member_descriptor")) && decide (PySem.W.slotIn K (He.ma K C f) C = some (slotA K C f)) && decide (slotA K C f < 1000)
theorem slotB_ok {K : PySem.W.Frag} {C : Addr} {f : Str} (h : slotB K C f = true) : SlX.Slot1 K C f (He.ma K C f) (slotA K C f) := by
  unfold slotB at h
  simp only [Bool.and_eq_true, decide_eq_true_eq] at h
  obtain ⟨⟨⟨⟨⟨h1, h2⟩, h3⟩, h4⟩, h5⟩, h6⟩ := h
  exact ⟨He.eqO_ok h1, He.eqO_ok h2, h3, h4, h5, h6⟩
def methB (K : PySem.W.Frag) (C : Addr) (m : Str) : Bool := He.eqO (PySem.W.findIn K (.ref C) m) (some (some (.ref (He.ma K C m)))) && PySem.W.isFn K (.ref (He.ma K C m)) && PySem.W.keepIn K (.ref (He.ma K C m))
def propB (K : PySem.W.Frag) (C : Addr) (m : Str) : Bool := He.eqO (PySem.W.findIn K (.ref C) m) (some (some (.ref (He.ma K C m)))) && He.eqO (PySem.W.specialIn K (.ref (He.ma K C m)) "__get__") (some (some (.builtin "property.__get__"))) &&
  decide (PySem.W.takesIn K (.ref (He.ma K C m)) = some true) && (match PySem.W.recIn K (He.ma K C m) "property" with | some (.ref _ :: _) => true | _ => false)
def clsB (K : PySem.W.Frag) (C : Addr) : Bool := PySem.W.plainGet K C Str.empty && PySem.W.isClsIn K C && PySem.W.plainOver K C && He.eqO (PySem.W.findIn K (.ref C) "__setattr__") (some (some (.builtin "object.__setattr__"))) &&
  He.eqO (PySem.W.findIn K (.ref C) "__class__") (some (some (.builtin "object.__class__"))) && He.eqO (PySem.W.specialIn K (.builtin "object.__class__") "__get__") (some (some (.builtin "getset_descriptor.__get__"))) && decide (PySem.W.takesIn K (.builtin "object.__class__") = some true) &&
  decide (PySem.W.mroIn K C (.type "object") = some true) && (["int", "bool", "tuple", "list", "str"].all fun n => decide (PySem.W.kitOne K (.ref C) (.type n) = some false)) && He.eqO (PySem.W.findIn K (.ref C) "__ne__") (some (some (.builtin "object.__ne__"))) &&
  decide (PySem.W.subIn K (.ref C) (.type "object") = some true) && (["NoneType", "int", "bool", "tuple", "list", "str"].all fun n => decide (PySem.W.kitOne K (.type n) (.ref C) = some false)) &&
  PySem.W.makesIn K C && methB K C "__init__" && PySem.W.keepIn K (.ref C)
def Txt.cl (X : Txt) (K : PySem.W.Frag) (c : Nat) : Addr := He.ga K (X.T.cn.getD c "")
def Txt.tx (X : Txt) (K : PySem.W.Frag) : Tx := ⟨K, X.cl K, fun c j => slotA K (X.cl K c) ((X.T.fs.getD c []).getD j ""), X.T.cn.length⟩
/-- the head's Bool -/
def Txt.headB (X : Txt) (K : PySem.W.Frag) : Bool :=
  (bltL.all fun x => He.eqO (PySem.W.nsIn K mainGlobals x) (some none)) && He.eqO (PySem.W.nsIn K mainGlobals "iter") (some none) &&
  (X.T.gn.zip X.p.glb).all (fun q => match PySem.W.nsIn K mainGlobals q.1 with | some (some u) => relD K q.2 u | _ => false) &&
  (X.T.fn ++ X.T.cn).all (fun x => He.eqO (PySem.W.nsIn K mainGlobals x) (some (some (.ref (He.ga K x))))) &&
  (X.T.cn.all fun x => clsB K (He.ga K x)) &&
  ((List.range X.T.cn.length).all fun c => (X.T.fs.getD c []).all (fun f => slotB K (X.cl K c) f) && (List.range (X.T.fs.getD c []).length).all (fun i => (List.range (X.T.fs.getD c []).length).all fun j => decide ((X.tx K).sl c i = (X.tx K).sl c j → i = j)) &&
    ((List.range X.T.cn.length).all fun c' => decide (PySem.W.kitOne K (.ref (X.cl K c)) (.ref (X.cl K c')) = some (c' == c)) && PySem.W.notFirst K (X.cl K c) (.ref (X.cl K c')))) &&
  ((List.range X.p.cls.length).all fun c => match X.p.cls[c]? with
    | some cl => (cl.mths.all fun q => methB K (X.cl K c) (X.T.mn.getD q.1 "")) && (cl.prps.all fun q => propB K (X.cl K c) (X.T.mn.getD q.1 "")) && (match cl.itf with | some _ => methB K (X.cl K c) "__iter__" | none => true)
    | none => false) &&
  (X.defs.all fun d => d.okB K) && (X.its.all fun d => d.2.okB K)
/-- the text's own checks -/
def atE : At → At → Bool
  | .glo x, .glo y => decide (x = y)
  | .met c m, .met d n => decide (c = d) && decide (m = n)
  | .prp c m, .prp d n => decide (c = d) && decide (m = n)
  | _, _ => false
theorem atE_ok {a b : At} (h : atE a b = true) : a = b := by
  cases a <;> cases b <;> first | (cases h) | skip
  · rw [of_decide_eq_true h]
  · simp only [atE, Bool.and_eq_true, decide_eq_true_eq] at h
    rw [h.1, h.2]
  · simp only [atE, Bool.and_eq_true, decide_eq_true_eq] at h
    rw [h.1, h.2]
def Txt.formB (X : Txt) : Bool :=
  decide (X.T.gn.length = X.p.glb.length) && decide (X.T.fr = X.p.fns.map (·.fresh)) && decide (X.defs.length = X.p.fns.length) && decide (X.T.cn.length = X.p.cls.length) && decide (X.T.fs.length = X.p.cls.length) &&
  decide (X.T.mn[mLen]? = some "__len__") && decide (X.T.mn[mEq]? = some "__eq__") &&
  ((List.range X.T.fn.length).all fun f => !X.ini f && (match X.defs[f]?, X.T.fn[f]? with | some d, some x => atE d.at_ (.glo x) | _, _ => false)) &&
  ((List.range X.p.cls.length).all fun c => match X.p.cls[c]? with
    | some cl => (match X.defs[cl.init]? with | some d => atE d.at_ (.met (X.T.cn.getD c "") "__init__") | none => false) && X.ini cl.init &&
      decide (cl.flds.map (fun f => X.T.fd[f]?) = (X.T.fs.getD c []).map some) &&
      (cl.mths.all fun q => !X.ini q.2 && decide (q.1 < X.T.mn.length) && (match X.defs[q.2]? with | some d => atE d.at_ (.met (X.T.cn.getD c "") (X.T.mn.getD q.1 "")) | none => false)) &&
      (cl.prps.all fun q => !X.ini q.2 && decide (q.1 < X.T.mn.length) && (match X.defs[q.2]? with | some d => atE d.at_ (.prp (X.T.cn.getD c "") (X.T.mn.getD q.1 "")) | none => false)) &&
      (match cl.itf with
        | some j => (match X.its.lookup c with
          | some d => atE d.at_ (.met (X.T.cn.getD c "") "__iter__") && itB ((X.T.fs.getD c []).getD j "") d.d.st && C8.scC ["self"] ["self"] (defScope d.d.st) && decide (j < (X.T.fs.getD c []).length)
          | none => false)
        | none => true)
    | none => false)
/-- each def is the text's -/
def Txt.defB (X : Txt) (i : Nat) : Bool := match X.p.fns[i]?, X.defs[i]? with
  | some fn, some d => chkF X.T fn (X.ini i) d.d
  | _, _ => false
def DefA.binds (d : DefA) (ps : List Str) : Prop := ∀ (kV doc pm : Value) (an : Option Addr) (cdv ct : Value) (us : List Value), us.length = ps.length → bindArgs (PySem.W.fnOf d.d.x d.d.qual (defArgs d.d.st) (defBody d.d.st) (defScope d.d.st) .none kV doc pm an cdv ct) ⟨us, []⟩ = pure (ps.zip us)
structure Txt.Ok (X : Txt) : Prop where
  form : X.formB = true
  chk : ∀ i, i < X.p.fns.length → X.defB i = true
  bnd : ∀ (i : Nat) (fn : Fn) (d : DefA), X.p.fns[i]? = some fn → X.defs[i]? = some d → d.binds (d.d.N.take fn.np)
  bit : ∀ q ∈ X.its, q.2.binds ["self"]
structure Txt.Head (X : Txt) (K : PySem.W.Frag) : Prop where
  b : X.headB K = true
  d : X.defs.map (fun d => fnTl K (d.at_.ad K)) = X.defs.map DefA.tl
  i : X.its.map (fun d => fnTl K (d.2.at_.ad K)) = X.its.map fun d => d.2.tl
end CC

set_option Elab.async false
set_option linter.all false
set_option maxRecDepth 100000
set_option maxHeartbeats 1000000
/-! The induction over the depth of calls. -/
namespace CC
open PySem PySem.Spec PyProof.Rows L2

theorem pg_glb (p : Prg) (k g : Nat) : (pg p k).glb g = p.glb[g]? := by cases k <;> rfl
theorem pg_fix (p : Prg) (k : Nat) : (pg p k).fix = p.fix := by cases k <;> rfl
theorem pg_mth (p : Prg) (k : Nat) : (pg p k).mth = p.mth := by cases k <;> rfl
theorem pg_prp (p : Prg) (k : Nat) : (pg p k).prp = p.prp := by cases k <;> rfl
theorem pg_itf (p : Prg) (k : Nat) : (pg p k).itf = p.itf := by cases k <;> rfl
theorem pg_call {p : Prg} {k f : Nat} {fn : Fn} (h : p.fns[f]? = some fn) : (pg p (k + 1)).call f = fun ds h => if ds.length = fn.np then outD (exc (pg p k) fn.body (startE fn.nn ds) h) else .bad := by
  funext ds hh
  show (match p.fns[f]? with
      | some fn => if ds.length = fn.np then outD (exc (pg p k) fn.body (startE fn.nn ds) hh) else .bad
      | none => .bad) = _
  rw [h]
theorem pg_make {p : Prg} {k c : Nat} {cl : Cl} {fn : Fn} (h : p.cls[c]? = some cl) (h2 : p.fns[cl.init]? = some fn) : (pg p (k + 1)).make c = fun ds h => if ds.length + 1 = fn.np then mkD c (exc (pg p k) fn.body (startE fn.nn (.ins c [] :: ds)) h) else .bad := by
  funext ds hh
  show (match p.cls[c]? with
      | some cl => (match p.fns[cl.init]? with
        | some fn => if ds.length + 1 = fn.np then mkD c (exc (pg p k) fn.body (startE fn.nn (.ins c [] :: ds)) hh) else .bad
        | none => .bad)
      | none => .bad) = _
  rw [h]
  show (match p.fns[cl.init]? with
        | some fn => if ds.length + 1 = fn.np then mkD c (exc (pg p k) fn.body (startE fn.nn (.ins c [] :: ds)) hh) else .bad
        | none => .bad) = _
  rw [h2]
section
variable {X : Txt} {K : PySem.W.Frag} {P : Program} {w : World} {mg : Str → Option Value} {base h0 : Heap}
theorem lookup_mem {β : Type} {a : Nat} {b : β} : ∀ {l : List (Nat × β)}, l.lookup a = some b → (a, b) ∈ l
  | [], h => by cases h
  | (c, d) :: r, h => by
    by_cases hc : a = c
    · subst hc
      rw [List.lookup_cons_self] at h
      cases h
      exact List.mem_cons_self
    · have hb : (a == c) = false := by simpa using hc
      rw [List.lookup_cons, hb] at h
      exact List.mem_cons_of_mem _ (lookup_mem h)
theorem idx_get {a : Nat} : ∀ {l : List Nat} {j : Nat}, l.idxOf? a = some j → l[j]? = some a
  | [], j, h => by cases h
  | b :: r, j, h => by
    rw [List.idxOf?_cons] at h
    split at h
    · rename_i hb
      cases h
      rw [eq_of_beq hb]
      rfl
    · cases e : List.idxOf? a r with
      | none => rw [e] at h; cases h
      | some i =>
        rw [e] at h
        cases h
        simpa using idx_get e
structure Fm (X : Txt) : Prop where
  gn : X.T.gn.length = X.p.glb.length
  fr : X.T.fr = X.p.fns.map (·.fresh)
  df : X.defs.length = X.p.fns.length
  cn : X.T.cn.length = X.p.cls.length
  fs : X.T.fs.length = X.p.cls.length
  m1 : X.T.mn[mLen]? = some "__len__"
  m2 : X.T.mn[mEq]? = some "__eq__"
  fn : ∀ (f : Nat) (x : Str), X.T.fn[f]? = some x → X.ini f = false ∧ ∃ d, X.defs[f]? = some d ∧ d.at_ = .glo x
  cl : ∀ (c : Nat) (cl : Cl), X.p.cls[c]? = some cl → (∃ d, X.defs[cl.init]? = some d ∧ d.at_ = .met (X.T.cn.getD c "") "__init__") ∧ X.ini cl.init = true ∧ cl.flds.map (fun f => X.T.fd[f]?) = (X.T.fs.getD c []).map some ∧
    (∀ q ∈ cl.mths, X.ini q.2 = false ∧ ∃ d, X.defs[q.2]? = some d ∧ d.at_ = .met (X.T.cn.getD c "") (X.T.mn.getD q.1 "")) ∧
    (∀ q ∈ cl.prps, X.ini q.2 = false ∧ ∃ d, X.defs[q.2]? = some d ∧ d.at_ = .prp (X.T.cn.getD c "") (X.T.mn.getD q.1 "")) ∧
    (∀ j, cl.itf = some j → ∃ d, X.its.lookup c = some d ∧ d.at_ = .met (X.T.cn.getD c "") "__iter__" ∧ itB ((X.T.fs.getD c []).getD j "") d.d.st = true ∧ C8.scC ["self"] ["self"] (defScope d.d.st) = true ∧ j < (X.T.fs.getD c []).length)
theorem fm_of (h : X.formB = true) : Fm X := by
  unfold Txt.formB at h
  simp only [Bool.and_eq_true, decide_eq_true_eq] at h
  obtain ⟨⟨⟨⟨⟨⟨⟨⟨h1, h2⟩, h3⟩, h4⟩, h5⟩, h6⟩, h7⟩, h8⟩, h9⟩ := h
  refine ⟨h1, h2, h3, h4, h5, h6, h7, fun f x e => ?_, fun c cl e => ?_⟩
  · have hf := (List.getElem?_eq_some_iff.mp e).1
    have q := List.all_eq_true.mp h8 f (List.mem_range.mpr hf)
    simp only [Bool.and_eq_true, Bool.not_eq_true'] at q
    refine ⟨q.1, ?_⟩
    have q2 := q.2
    rw [e] at q2
    split at q2
    · rename_i d x' e1 e2
      cases e2
      exact ⟨d, e1, atE_ok q2⟩
    · cases q2
  · have hc := (List.getElem?_eq_some_iff.mp e).1
    have q := List.all_eq_true.mp h9 c (List.mem_range.mpr hc)
    rw [e] at q
    simp only [Bool.and_eq_true, decide_eq_true_eq] at q
    obtain ⟨⟨⟨⟨⟨q1, q2⟩, q3⟩, q4⟩, q5⟩, q6⟩ := q
    refine ⟨?_, q2, q3, fun z hz => ?_, fun z hz => ?_, fun j ej => ?_⟩
    · split at q1
      · rename_i d e1
        exact ⟨d, e1, atE_ok q1⟩
      · cases q1
    · have q := List.all_eq_true.mp q4 z hz
      simp only [Bool.and_eq_true, Bool.not_eq_true', decide_eq_true_eq] at q
      refine ⟨q.1.1, ?_⟩
      have q := q.2
      split at q
      · rename_i d e1
        exact ⟨d, e1, atE_ok q⟩
      · cases q
    · have q := List.all_eq_true.mp q5 z hz
      simp only [Bool.and_eq_true, Bool.not_eq_true', decide_eq_true_eq] at q
      refine ⟨q.1.1, ?_⟩
      have q := q.2
      split at q
      · rename_i d e1
        exact ⟨d, e1, atE_ok q⟩
      · cases q
    · rw [ej] at q6
      simp only at q6
      split at q6
      · rename_i d e1
        simp only [Bool.and_eq_true, decide_eq_true_eq] at q6
        obtain ⟨⟨⟨r1, r2⟩, r3⟩, r4⟩ := q6
        exact ⟨d, e1, atE_ok r1, r2, r3, r4⟩
      · cases q6
structure Hm (X : Txt) (K : PySem.W.Frag) (mg : Str → Option Value) : Prop where
  blt : ∀ x ∈ bltL, mg x = none
  itr : mg "iter" = none
  glb : ∀ (g : Nat) (x : Str) (d : D), X.T.gn[g]? = some x → X.p.glb[g]? = some d → ∃ u, mg x = some u ∧ relD K d u = true
  nam : ∀ x ∈ X.T.fn ++ X.T.cn, mg x = some (.ref (He.ga K x))
  cls : ∀ (c : Nat), c < X.T.cn.length → clsB K (X.cl K c) = true
  slt : ∀ (c j : Nat) (f : Str), c < X.T.cn.length → (X.T.fs.getD c [])[j]? = some f → slotB K (X.cl K c) f = true
  inj : ∀ (c i j : Nat), c < X.T.cn.length → i < (X.T.fs.getD c []).length → j < (X.T.fs.getD c []).length → (X.tx K).sl c i = (X.tx K).sl c j → i = j
  two : ∀ (c c' : Nat), c < X.T.cn.length → c' < X.T.cn.length → PySem.W.kitOne K (.ref (X.cl K c)) (.ref (X.cl K c')) = some (c' == c) ∧ PySem.W.notFirst K (X.cl K c) (.ref (X.cl K c')) = true
  mth : ∀ (c : Nat) (cl : Cl), X.p.cls[c]? = some cl → (∀ q ∈ cl.mths, methB K (X.cl K c) (X.T.mn.getD q.1 "") = true) ∧ (∀ q ∈ cl.prps, propB K (X.cl K c) (X.T.mn.getD q.1 "") = true) ∧ ∀ j, cl.itf = some j → methB K (X.cl K c) "__iter__" = true
  def_ : ∀ d ∈ X.defs, d.okB K = true
  its : ∀ q ∈ X.its, q.2.okB K = true
theorem hm_of (h : X.headB K = true) (KX : K.In h0) (G : h0.Ns mainGlobals mg) (F : Fm X) : Hm X K mg := by
  unfold Txt.headB at h
  simp only [Bool.and_eq_true] at h
  obtain ⟨⟨⟨⟨⟨⟨⟨⟨h1, h2⟩, h3⟩, h4⟩, h5⟩, h6⟩, h7⟩, h8⟩, h9⟩ := h
  refine ⟨fun x hx => PySem.W.mg_none_of KX G (He.eqO_ok (List.all_eq_true.mp h1 x hx)), PySem.W.mg_none_of KX G (He.eqO_ok h2), fun g x d e1 e2 => ?_, fun x hx => PySem.W.mg_of KX G (He.eqO_ok (List.all_eq_true.mp h4 x hx)), fun c hc => ?_, fun c j f hc e => ?_, fun c i j hc hi hj e => ?_, fun c c' hc hc' => ?_, fun c cl e => ?_, fun d hd => List.all_eq_true.mp h8 d hd, fun q hq => List.all_eq_true.mp h9 q hq⟩
  · have hm : (x, d) ∈ X.T.gn.zip X.p.glb := List.mem_of_getElem? (i := g) (by rw [List.getElem?_zip_eq_some]; exact ⟨e1, e2⟩)
    have q := List.all_eq_true.mp h3 _ hm
    simp only at q
    split at q
    · rename_i u e
      exact ⟨u, PySem.W.mg_of KX G e, q⟩
    · cases q
  · have hm : X.T.cn.getD c "" ∈ X.T.cn := by
      rw [List.getD_eq_getElem?_getD, List.getElem?_eq_getElem hc]
      exact List.getElem_mem hc
    exact List.all_eq_true.mp h5 _ hm
  · have q := List.all_eq_true.mp h6 c (List.mem_range.mpr hc)
    simp only [Bool.and_eq_true] at q
    exact List.all_eq_true.mp q.1.1 f (List.mem_of_getElem? e)
  · have q := List.all_eq_true.mp h6 c (List.mem_range.mpr hc)
    simp only [Bool.and_eq_true] at q
    have q := List.all_eq_true.mp (List.all_eq_true.mp q.1.2 i (List.mem_range.mpr hi)) j (List.mem_range.mpr hj)
    exact of_decide_eq_true q e
  · have q := List.all_eq_true.mp h6 c (List.mem_range.mpr hc)
    simp only [Bool.and_eq_true] at q
    have q := List.all_eq_true.mp q.2 c' (List.mem_range.mpr hc')
    simp only [Bool.and_eq_true, decide_eq_true_eq] at q
    exact q
  · have hc := (List.getElem?_eq_some_iff.mp e).1
    have q := List.all_eq_true.mp h7 c (List.mem_range.mpr hc)
    rw [e] at q
    simp only [Bool.and_eq_true] at q
    refine ⟨fun z hz => List.all_eq_true.mp q.1.1 z hz, fun z hz => List.all_eq_true.mp q.1.2 z hz, fun j ej => ?_⟩
    have q := q.2
    rw [ej] at q
    exact q
end
end CC

set_option Elab.async false
set_option linter.all false
set_option maxRecDepth 100000
set_option maxHeartbeats 1000000
/-! The induction over the depth of calls: its steps. -/
namespace CC
open PySem PySem.Spec PyProof.Rows L2

theorem fn_never {P : Program} {w : World} {K : PySem.W.Frag} {mg : Str → Option Value} {base : Heap} {k : Nat} {f : Addr} {fd : FuncData} {ps : List Str} {sp : Sp} (h : ∀ vs H Q E, ¬ sp vs H Q E) : FnOk P w K mg base CX0 k f fd ps sp :=
  ⟨fun vs H Q E z => (h vs H Q E z).elim, fun A outer s H args us vs Q E _ _ _ _ z => (h vs H Q E z).elim⟩
section
variable {X : Txt} {K : PySem.W.Frag} {P : Program} {w : World} {mg : Str → Option Value} {base h0 : Heap}
/-- what stands of each def at a depth -/
structure Lv (X : Txt) (K : PySem.W.Frag) (P : Program) (w : World) (mg : Str → Option Value) (base : Heap) (k : Nat) : Prop where
  f : ∀ (i : Nat) (fn : Fn) (d : DefA) (fd : FuncData), X.p.fns[i]? = some fn → X.defs[i]? = some d → X.ini i = false → FnD K d.d (d.at_.ad K) fd → FnOk P w K mg base CX0 (7 * k + 1) (d.at_.ad K) fd (d.d.N.take fn.np) (spF (X.tx K) (d.d.N.take fn.np).length ((pg X.p k).call i) fn.fresh)
  i : ∀ (c : Nat) (cl : Cl) (fn : Fn) (d : DefA) (fd : FuncData), X.p.cls[c]? = some cl → X.p.fns[cl.init]? = some fn → X.defs[cl.init]? = some d → FnD K d.d (d.at_.ad K) fd → FnOk P w K mg base CX0 (7 * k + 1) (d.at_.ad K) fd (d.d.N.take fn.np) (spI (X.tx K) c (d.d.N.take fn.np).length ((pg X.p k).make c))
theorem np_of (ok : X.Ok) {i : Nat} {fn : Fn} {d : DefA} (h1 : X.p.fns[i]? = some fn) (h2 : X.defs[i]? = some d) : chkF X.T fn (X.ini i) d.d = true ∧ (d.d.N.take fn.np).length = fn.np := by
  have q := ok.chk i (List.getElem?_eq_some_iff.mp h1).1
  unfold Txt.defB at q
  rw [h1, h2] at q
  refine ⟨q, ?_⟩
  unfold chkF at q
  simp only [Bool.and_eq_true, decide_eq_true_eq] at q
  obtain ⟨⟨⟨⟨⟨h1, h2⟩, h3⟩, h3b⟩, h4⟩, h5⟩ := q
  rw [List.length_take]
  omega
theorem fd_of (hd : X.Head K) (H : Hm X K mg) {i : Nat} {d : DefA} (h : X.defs[i]? = some d) : ∃ fd, FnD K d.d (d.at_.ad K) fd := by
  refine fun_of ?_ (H.def_ d (List.mem_of_getElem? h))
  have e := congrArg (fun l : List FnTl => l[i]?) hd.d
  simp only [List.getElem?_map, h, Option.map_some, Option.some.injEq] at e
  exact e
theorem fn_ex (F : Fm X) {i : Nat} {d : DefA} (h : X.defs[i]? = some d) : ∃ fn, X.p.fns[i]? = some fn := by
  have hi := (List.getElem?_eq_some_iff.mp h).1
  rw [F.df] at hi
  exact ⟨_, List.getElem?_eq_getElem hi⟩
theorem fr_of (F : Fm X) {i : Nat} {fn : Fn} (h : X.p.fns[i]? = some fn) : X.T.fr.getD i false = fn.fresh := by
  rw [F.fr, List.getD_eq_getElem?_getD, List.getElem?_map, h]
  rfl
theorem call_len {k i : Nat} {fn : Fn} (h : X.p.fns[i]? = some fn) (ds : List D) (hh : Hb) (n : ds.length ≠ fn.np) : (pg X.p k).call i ds hh = .bad := by
  cases k with
  | zero => rfl
  | succ k =>
    rw [pg_call h]
    exact if_neg n
theorem bind_of (ok : X.Ok) {i : Nat} {fn : Fn} {d : DefA} {fd : FuncData} (h1 : X.p.fns[i]? = some fn) (h2 : X.defs[i]? = some d) (F : FnD K d.d (d.at_.ad K) fd) : Binds K fd (d.d.N.take fn.np) [] := FunD.bindsN F (ok.bnd i fn d h1 h2)
/-- a def, met by its place -/
theorem met_of (ok : X.Ok) (hd : X.Head K) (F : Fm X) (H : Hm X K mg) {k : Nat} (L : Lv X K P w mg base k) {i : Nat} {d : DefA} (h : X.defs[i]? = some d) (ni : X.ini i = false) :
    ∃ np, (∀ ds hh, ds.length ≠ np → (pg X.p k).call i ds hh = .bad) ∧ FnR P w K mg base CX0 (7 * k + 1) (d.at_.ad K) (spF (X.tx K) np ((pg X.p k).call i) (X.T.fr.getD i false)) := by
  obtain ⟨fn, hf⟩ := fn_ex F h
  obtain ⟨fd, hF⟩ := fd_of hd H h
  have hn := (np_of ok hf h).2
  have f := L.f i fn d fd hf h ni hF
  have b := bind_of ok hf h hF
  refine ⟨fn.np, fun ds hh n => call_len hf ds hh n, ?_⟩
  have q := FnOk.raw f b .nil
  rw [fr_of F hf]
  refine q.imp fun vs H Q E z => ?_
  rw [List.append_nil, hn]
  exact z
theorem cl_ex (F : Fm X) {c : Nat} (h : c < X.T.cn.length) : ∃ cl, X.p.cls[c]? = some cl := by
  rw [F.cn] at h
  exact ⟨_, List.getElem?_eq_getElem h⟩
theorem mth_of {p : Prg} {c m f : Nat} (h : p.mth c m = some f) : ∃ cl, p.cls[c]? = some cl ∧ (m, f) ∈ cl.mths := by
  unfold Prg.mth at h
  split at h
  · rename_i cl e
    exact ⟨cl, e, lookup_mem h⟩
  · cases h
theorem prp_of {p : Prg} {c m f : Nat} (h : p.prp c m = some f) : ∃ cl, p.cls[c]? = some cl ∧ (m, f) ∈ cl.prps := by
  unfold Prg.prp at h
  split at h
  · rename_i cl e
    exact ⟨cl, e, lookup_mem h⟩
  · cases h
theorem itf_of {p : Prg} {c j : Nat} (h : p.itf c = some j) : ∃ cl, p.cls[c]? = some cl ∧ cl.itf = some j := by
  unfold Prg.itf at h
  split at h
  · rename_i cl e
    exact ⟨cl, e, h⟩
  · cases h
theorem getD_of {α : Type} {l : List α} {i : Nat} {a b : α} (h : l[i]? = some a) : l.getD i b = a := by
  rw [List.getD_eq_getElem?_getD, h]
  rfl
theorem ga_ne {K : PySem.W.Frag} {C : Addr} {m : Str} (h : methB K C m = true) : Meth K C m (He.ma K C m) := by
  unfold methB at h
  simp only [Bool.and_eq_true] at h
  exact ⟨He.eqO_ok h.1.1, h.1.2, h.2⟩
theorem hyp_of (ok : X.Ok) (hd : X.Head K) (F : Fm X) (H : Hm X K mg) {k : Nat} (L : Lv X K P w mg base k) : Hyp (X.tx K) (pg X.p k) X.T (7 * k + 1) P w mg base := by
  refine ⟨H.blt, fun g x d e1 e2 => ?_, fun f x e => ?_⟩
  · rw [pg_glb] at e2
    obtain ⟨u, h1, h2⟩ := H.glb g x d e1 e2
    obtain ⟨h3, v, h4, h5⟩ := relD_ok (t := X.tx K) d u h2
    exact ⟨h3, v, u, h1, h4, h5⟩
  · obtain ⟨ni, d, hdf, ha⟩ := F.fn f x e
    obtain ⟨fn, hf⟩ := fn_ex F hdf
    obtain ⟨fd, hF⟩ := fd_of hd H hdf
    have hn := (np_of ok hf hdf).2
    have ff := L.f f fn d fd hf hdf ni hF
    have kp := hF.kp
    have ea : d.at_.ad K = He.ga K x := by rw [ha]; rfl
    rw [ea] at ff kp
    refine ⟨He.ga K x, fd, d.d.N.take fn.np, H.nam x (List.mem_append_left _ (List.mem_of_getElem? e)), kp, bind_of ok hf hdf hF, fun ds hh n => call_len hf ds hh (by rw [hn] at n; exact n), ?_⟩
    rw [fr_of F hf]
    exact ff
theorem hypC_of (ok : X.Ok) (hd : X.Head K) (F : Fm X) (H : Hm X K mg) {k : Nat} (L : Lv X K P w mg base k) : HypC (X.tx K) (pg X.p k) X.T (7 * k + 1) P w mg base := by
  have cnm : ∀ (c : Nat) (x : Str), X.T.cn[c]? = some x → X.cl K c = He.ga K x := fun c x e => by
    unfold Txt.cl
    rw [getD_of e]
  have clb : ∀ c, c < X.T.cn.length → _ := fun c hc => H.cls c hc
  refine ⟨fun c x e => ?_, fun c x e n hn => ?_, fun c c' x' e hc => ?_, fun c x e => (List.getElem?_eq_some_iff.mp e).1, fun c hc => ?_, fun c j e => ?_, fun c c' hc hc' => (H.two c c' hc hc').2, fun c j hj => ?_, fun c m f e => ?_, fun c m f e => ?_, fun c x e => ?_, F.m1, F.m2⟩
  · show mg x = some (.ref (X.cl K c))
    rw [cnm c x e]
    exact H.nam x (List.mem_append_right _ (List.mem_of_getElem? e))
  · have q := clb c (List.getElem?_eq_some_iff.mp e).1
    unfold clsB at q
    simp only [Bool.and_eq_true] at q
    obtain ⟨⟨⟨⟨_, q⟩, _⟩, _⟩, _⟩ := q
    exact of_decide_eq_true (List.all_eq_true.mp q n hn)
  · exact (H.two c c' hc (List.getElem?_eq_some_iff.mp e).1).1
  · have hc : c < X.T.cn.length := hc
    have q := clb c hc
    obtain ⟨cl, ecl⟩ := cl_ex F hc
    obtain ⟨f1, f2, f3, f4, f5, f6⟩ := F.cl c cl ecl
    obtain ⟨m1, m2, m3⟩ := H.mth c cl ecl
    unfold clsB at q
    simp only [Bool.and_eq_true, decide_eq_true_eq] at q
    obtain ⟨⟨⟨⟨⟨⟨⟨⟨⟨⟨⟨⟨⟨⟨q1, q2⟩, q3⟩, q4⟩, q5⟩, q6⟩, q7⟩, q8⟩, q9⟩, q10⟩, q11⟩, q12⟩, q13⟩, q14⟩, q15⟩ := q
    have fsl : ∀ (j : Nat) (x : Str), (X.T.fs.getD c [])[j]? = some x → ∃ p, SlX.Slot1 K (X.cl K c) x p ((X.tx K).sl c j) := fun j x e => by
      have := slotB_ok (H.slt c j x hc e)
      refine ⟨He.ma K (X.cl K c) x, ?_⟩
      show SlX.Slot1 K (X.cl K c) x (He.ma K (X.cl K c) x) (slotA K (X.cl K c) ((X.T.fs.getD c []).getD j ""))
      rw [getD_of e]
      exact this
    refine ⟨⟨q1, q2, q3, He.eqO_ok q4⟩, ⟨He.eqO_ok q5, He.eqO_ok q6, q7, q8⟩, fun n hn => of_decide_eq_true (List.all_eq_true.mp q9 n hn), fun f x j e1 e2 => ?_, fun m x f e1 e2 => ?_, fun m x f e1 e2 => ?_, He.eqO_ok q10, q11, fsl, fun i j hi hj e => H.inj c i j hc hi hj e⟩
    · rw [pg_fix] at e2
      unfold Prg.fix at e2
      rw [ecl] at e2
      have e3 := idx_get e2
      refine fsl j x ?_
      have e4 := congrArg (fun l => l[j]?) f3
      simp only [List.getElem?_map, e3, Option.map_some, e1] at e4
      cases e5 : (X.T.fs.getD c [])[j]? with
      | none => rw [e5] at e4; cases e4
      | some y =>
        rw [e5] at e4
        simp only [Option.map_some, Option.some.injEq] at e4
        rw [e4]
    · rw [pg_mth] at e2
      obtain ⟨cl', ecl', hm⟩ := mth_of e2
      rw [ecl] at ecl'
      cases ecl'
      obtain ⟨ni, d, hdf, ha⟩ := f4 _ hm
      have mb := ga_ne (m1 _ hm)
      have ex : X.T.mn.getD m "" = x := getD_of e1
      rw [ex] at mb ha
      have ea : d.at_.ad K = He.ma K (X.cl K c) x := by rw [ha]; rfl
      obtain ⟨np, n1, n2⟩ := met_of ok hd F H L hdf ni
      rw [ea] at n2
      exact ⟨_, np, mb, n1, n2⟩
    · rw [pg_prp] at e2
      obtain ⟨cl', ecl', hm⟩ := prp_of e2
      rw [ecl] at ecl'
      cases ecl'
      obtain ⟨ni, d, hdf, ha⟩ := f5 _ hm
      have mb := m2 _ hm
      have ex : X.T.mn.getD m "" = x := getD_of e1
      rw [ex] at mb ha
      unfold propB at mb
      simp only [Bool.and_eq_true, decide_eq_true_eq] at mb
      obtain ⟨⟨⟨b1, b2⟩, b3⟩, b4⟩ := mb
      have ea : d.at_.ad K = pa K (X.cl K c) x := by rw [ha]; rfl
      obtain ⟨np, n1, n2⟩ := met_of ok hd F H L hdf ni
      rw [ea] at n2
      refine ⟨He.ma K (X.cl K c) x, pa K (X.cl K c) x, np, He.eqO_ok b1, He.eqO_ok b2, b3, ?_, n1, n2⟩
      show ∃ rest, PySem.W.recIn K (He.ma K (X.cl K c) x) "property" = _
      split at b4
      · rename_i g rest e
        refine ⟨rest, ?_⟩
        unfold pa
        rw [e]
      · cases b4
  · rw [pg_itf] at e
    obtain ⟨cl, ecl, ej⟩ := itf_of e
    have hc : c < X.T.cn.length := by
      rw [F.cn]
      exact (List.getElem?_eq_some_iff.mp ecl).1
    obtain ⟨_, _, _, _, _, f6⟩ := F.cl c cl ecl
    obtain ⟨d, hdi, ha, r2, r3, r4⟩ := f6 j ej
    have mb := ga_ne ((H.mth c cl ecl).2.2 j ej)
    have hmem := lookup_mem hdi
    have ea : d.at_.ad K = He.ma K (X.cl K c) "__iter__" := by rw [ha]; rfl
    have okb := H.its _ hmem
    have etl : fnTl K (d.at_.ad K) = d.tl := by
      obtain ⟨n, hn, en⟩ := List.getElem_of_mem hmem
      have e := congrArg (fun l : List FnTl => l[n]?) hd.i
      simp only [List.getElem?_map, List.getElem?_eq_getElem hn, en, Option.map_some, Option.some.injEq] at e
      exact e
    obtain ⟨fd, hF⟩ := fun_of etl okb
    rw [ea] at hF
    have q := clb c hc
    unfold clsB at q
    simp only [Bool.and_eq_true, decide_eq_true_eq] at q
    obtain ⟨⟨⟨⟨⟨⟨⟨⟨⟨⟨⟨⟨⟨⟨q1, q2⟩, q3⟩, q4⟩, q5⟩, q6⟩, q7⟩, q8⟩, q9⟩, q10⟩, q11⟩, q12⟩, q13⟩, q14⟩, q15⟩ := q
    have ef : (X.T.fs.getD c [])[j]? = some ((X.T.fs.getD c []).getD j "") := by
      rw [getD_of (List.getElem?_eq_getElem r4), List.getElem?_eq_getElem r4]
    have s1 := slotB_ok (H.slt c j _ hc ef)
    have hb : Binds K fd ["self"] [] := FunD.bindsN hF (ok.bit _ hmem)
    obtain ⟨oc, od, dV, kV, doc, pm, an, cdv, ct, osl, g1, g2, g3, g4, _⟩ := hF.ex
    have hdV : dV = .none := by
      rcases g4 with ⟨_, z⟩ | ⟨z, _⟩
      · exact z
      · exact absurd rfl z
    subst hdV
    have F2 : L2.Fun K d.d.x d.d.qual d.d.st (He.ma K (X.cl K c) "__iter__") fd := ⟨⟨oc, od, kV, doc, pm, an, cdv, ct, osl, g1, g2, g3⟩, hF.kp⟩
    exact ⟨hc, _, mb.at_, mb.fn, fn_iter F2 (C8.fnScope_by r3) hb r2 H.itr ⟨q1, q2, q3, He.eqO_ok q4⟩ s1 (7 * k)⟩
  · show c < X.T.cn.length
    rw [F.cn, ← F.fs]
    refine Decidable.byContradiction fun n => ?_
    rw [List.getD_eq_getElem?_getD, List.getElem?_eq_none (by omega)] at hj
    cases hj
  · rw [pg_mth] at e
    obtain ⟨cl, ecl, _⟩ := mth_of e
    show c < X.T.cn.length
    rw [F.cn]
    exact (List.getElem?_eq_some_iff.mp ecl).1
  · rw [pg_prp] at e
    obtain ⟨cl, ecl, _⟩ := prp_of e
    show c < X.T.cn.length
    rw [F.cn]
    exact (List.getElem?_eq_some_iff.mp ecl).1
  · have hc := (List.getElem?_eq_some_iff.mp e).1
    obtain ⟨cl, ecl⟩ := cl_ex F hc
    obtain ⟨⟨d, hdf, ha⟩, _⟩ := F.cl c cl ecl
    obtain ⟨fn, hf⟩ := fn_ex F hdf
    obtain ⟨fd, hF⟩ := fd_of hd H hdf
    have hn := (np_of ok hf hdf).2
    have ea : d.at_.ad K = He.ma K (X.cl K c) "__init__" := by rw [ha]; rfl
    have ff := L.i c cl fn d fd ecl hf hdf hF
    have bb := bind_of ok hf hdf hF
    rw [ea] at ff
    have q := clb c hc
    unfold clsB at q
    simp only [Bool.and_eq_true, decide_eq_true_eq] at q
    obtain ⟨⟨⟨⟨⟨⟨⟨⟨⟨⟨⟨⟨⟨⟨q1, q2⟩, q3⟩, q4⟩, q5⟩, q6⟩, q7⟩, q8⟩, q9⟩, q10⟩, q11⟩, q12⟩, q13⟩, q14⟩, q15⟩ := q
    have mi := ga_ne q14
    refine ⟨_, fd, d.d.N.take fn.np, ⟨q13, mi.at_, mi.fn, q15⟩, bb, fun ds hh n => ?_, ff⟩
    cases k with
    | zero => rfl
    | succ k =>
      rw [pg_make ecl hf]
      rw [hn] at n
      exact if_neg n
/-- THE INDUCTION -/
theorem lv_all (ok : X.Ok) (hd : X.Head K) (F : Fm X) (H : Hm X K mg) : ∀ k, Lv X K P w mg base k
  | 0 => ⟨fun i fn d fd _ _ _ _ => fn_never fun vs H Q E z => by
      obtain ⟨_, ρ, Lam, h, ds, _, _, z⟩ := z
      exact z, fun c cl fn d fd _ _ _ _ => fn_never fun vs H Q E z => by
      obtain ⟨_, B, x, dx, ws, ρ, Lam, h, ds, _, _, _, _, _, _, _, z⟩ := z
      exact z⟩
  | k + 1 => by
    have L := lv_all ok hd F H k
    have hy := hyp_of ok hd F H L
    have hc := hypC_of ok hd F H L
    refine ⟨fun i fn d fd h1 h2 h3 hF => ?_, fun c cl fn d fd h0 h1 h2 hF => ?_⟩
    · have ck := (np_of ok h1 h2).1
      rw [h3] at ck
      have q := fn_sound ck hF hy hc
      rw [pg_call h1]
      exact q
    · have ck := (np_of ok h1 h2).1
      rw [(F.cl c cl h0).2.1] at ck
      have q := init_sound (c := c) ck hF (show c < X.T.cn.length by
        rw [F.cn]
        exact (List.getElem?_eq_some_iff.mp h0).1) hy hc
      rw [pg_make h0 h1]
      exact q
end
end CC

set_option Elab.async false
set_option linter.all false
set_option maxRecDepth 100000
set_option maxHeartbeats 1000000
/-! The head's look, and the end. -/
namespace CC
open PySem PySem.Spec PyProof.Rows L2

abbrev AlC : Type := Bool × List FnTl × List FnTl
def Txt.look (X : Txt) (n : Nat) (g : Addr → Option Obj) : AlC := (X.headB (He.frG g (He.asD g n)), X.defs.map (fun d => fnTl (He.frG g (He.asD g n)) (d.at_.ad (He.frG g (He.asD g n)))), X.its.map fun d => fnTl (He.frG g (He.asD g n)) (d.2.at_.ad (He.frG g (He.asD g n))))
def Txt.lookV (X : Txt) : AlC := (true, X.defs.map DefA.tl, X.its.map fun d => d.2.tl)
def Txt.hook (X : Txt) (n : Nat) : PySem.W.Hook where
  α := AlC
  obs := fun s => X.look n s.heap.get?
  val := fun _ => X.lookV
  says := fun _ h => ∃ K : PySem.W.Frag, K.In h ∧ X.Head K
  of := fun _ _ e => ⟨_, He.frG_in, ⟨congrArg (fun z : AlC => z.1) e, congrArg (fun z : AlC => z.2.1) e, congrArg (fun z : AlC => z.2.2) e⟩⟩
  keeps := fun _ _ _ ⟨K, hK, c⟩ k => ⟨K, PySem.W.Frag.In.keeps hK k, c⟩
def Txt.ob (X : Txt) (n : Nat) (s : PySem.W.SharedT) : AlC := X.look n (HandSHeadRun.getT s)
theorem Txt.ob_eq (X : Txt) (n : Nat) (s : PySem.W.SharedT) : X.ob n s = (X.hook n).obs s.abs := by
  have e : HandSHeadRun.getT s = s.abs.heap.get? := funext (HandSHeadRun.getT_eq s)
  unfold Txt.ob
  rw [e]
  rfl
/-- what is asked of the plain law -/
def LawOk (p : Prg) (k f : Nat) : Prop := ∀ ns : List Int, ns.length ≤ 63 → (∀ z ∈ ns, Builtin.Int.intBits z ≤ 1048576) → ∃ h', (pg p k).call f [.frz (ns.map .int)] [] = .ok (.bl true) h'
section
variable {X : Txt}
theorem reps_nums {t : Tx} {ρ : List Addr} {L : Addr → Prop} {H : Hp} : ∀ ns : List Int, Reps t ρ L H (ns.map V.int) (ns.map D.int)
  | [] => .nil
  | n :: r => .cons (.int n) (reps_nums r)
/-- THE END -/
theorem walk_law {l : PySem.W.OpenLaw} {q : Program} {loose : List Str} {XP : (Str → Option Value) → Heap → Prop} {d : DefRec} {n k f : Nat} {x : Str} {da : DefA} {fn : Fn} (ok : X.Ok) (hn : l.most = some 63) (hdf : d.params.defaults = []) (hnm : d.name = "law") (hr : Room (7 * k + 1) callerA)
    (hf : X.T.fn[f]? = some "law") (hda : X.defs[f]? = some da) (hfn : X.p.fns[f]? = some fn) (hx : da.d.N.take fn.np = [x]) (law : LawOk X.p k f) :
    PySem.W.WalkO q loose XP (X.hook n).says l.row.toRowW d [] (fun f vs => PySem.call f vs) := by
  refine Att.attach_callB hn hdf fun w s₀ s₁ mg mb fa o pm cd doc a vs ns G Y ho hd hcd hmg hobj hints hlen hbits hg => ?_
  obtain ⟨K, KX, hK⟩ := Y
  have F := fm_of ok.form
  have H := hm_of (mg := mg) hK.b KX G.T.g F
  rw [hnm] at hmg
  obtain ⟨ni, d', hd', ha⟩ := F.fn f _ hf
  rw [hda] at hd'
  cases hd'
  obtain ⟨fd, hF⟩ := fd_of hK H hda
  have hb := ok.bnd f fn da hfn hda
  have ea : da.at_.ad K = He.ga K "law" := by rw [ha]; rfl
  have efa : fa = He.ga K "law" := by
    have e := hmg.symm.trans (H.nam "law" (List.mem_append_left _ (List.mem_of_getElem? hf)))
    cases e
    rfl
  have run : ∀ base : Heap, K.In base → base.Ns mainGlobals mg → FnOk l.prog w K mg base CX0 (7 * k + 1) fa fd [x] (spF (X.tx K) 1 ((pg X.p k).call f) fn.fresh) := fun base _ _ => by
    have z := (lv_all (P := l.prog) (w := w) (base := base) ok hK F H k).f f fn da fd hfn hda ni hF
    rw [hx, ea] at z
    rw [efa]
    exact z
  refine law_call KX G.T.g G.T.b G.T.builtins G.T.nolimit hg hobj hints (Nat.le_trans hlen (by decide)) hr run (fun s u => ?_) (fun H hO hS => ?_) fun H e s' z => z
  · have z := FunD.bindsA hF hb s [u] (by rw [hx]; rfl)
    rw [hx] at z
    exact z
  · obtain ⟨h', e⟩ := law ns hlen hbits
    refine ⟨rfl, [], fun _ => False, [], [.frz (ns.map .int)], ⟨fun n l z => (nomatch z), rfl, List.nodup_nil, fun a z => ?_, fun a z => (nomatch z)⟩, .cons (.frz ?_ (reps_nums ns)) .nil, ?_⟩
    · rcases z with z | z
      · exact z.elim
      · cases z
    · rcases hS with (z | z) | z
      · rcases hO a with y | ⟨o, xs, y⟩
        · rw [z] at y
          cases y
        · rw [z] at y
          cases y
      · exact .inl z
      · exact .inr (.inr z)
    · rw [e]
      intro v H' ρ' _ _ _ _ r
      have r : Rep (X.tx K) ρ' (fun a => False ∨ a ∈ ρ') H' v (.bl true) := by
        split at r
        · exact r
        · exact r
      cases r
      rfl
end
end CC

set_option Elab.async false
set_option linter.all false
set_option maxRecDepth 100000
/-! How the evaluator goes, as equations. -/
namespace CC
open PySem
theorem R.bind_ok {α β : Type} (a : α) (h : Hb) (f : α → Hb → R β) : (R.ok a h).bind f = f a h := rfl
theorem R.thn_ok {α : Type} (a : α) (h : Hb) (f : α → Hb → RS) : (R.ok a h).thn f = f a h := rfl
theorem RS.thn_next (e : En) (h : Hb) (f : En → Hb → RS) : (RS.next e h).thn f = f e h := rfl
theorem RS.thn_ret (d : D) (h : Hb) (f : En → Hb → RS) : (RS.ret d h).thn f = .ret d h := rfl
theorem outD_ret (d : D) (h : Hb) : outD (.ret d h) = .ok d h := rfl
theorem outD_next (e : En) (h : Hb) : outD (.next e h) = .ok .non h := rfl
theorem call_eq {p : Prg} {k f : Nat} {fn : Fn} (h : p.fns[f]? = some fn) {ds : List D} (hl : ds.length = fn.np) (hh : Hb) : (pg p (k + 1)).call f ds hh = outD (exc (pg p k) fn.body (startE fn.nn ds) hh) := by
  rw [pg_call h]
  exact if_pos hl
theorem make_eq {p : Prg} {k c : Nat} {cl : Cl} {fn : Fn} (h : p.cls[c]? = some cl) (h2 : p.fns[cl.init]? = some fn) {ds : List D} (hl : ds.length + 1 = fn.np) (hh : Hb) : (pg p (k + 1)).make c ds hh = mkD c (exc (pg p k) fn.body (startE fn.nn (.ins c [] :: ds)) hh) := by
  rw [pg_make h h2]
  exact if_pos hl
/-! ### one step -/
section
variable (G : Pg) (e : En) (h : Hb)
theorem ev_var (i : Nat) : ev G (.var i) e h = match e[i]? with | some (some d) => .ok d h | _ => .bad := (rfl)
theorem ev_mvar (i : Nat) : ev G (.mvar i) e h = match e[i]? with | some (some (.lst l)) => .ok (.lst l) h | _ => .bad := (rfl)
theorem ev_none : ev G (.cst .none) e h = .ok .non h := (rfl)
theorem ev_bool (b : Bool) : ev G (.cst (.bool b)) e h = .ok (.bl b) h := (rfl)
theorem ev_int (i : Int) : ev G (.cst (.int i)) e h = .ok (.int i) h := (rfl)
theorem ev_str (i : Str) : ev G (.cst (.str i)) e h = .ok (.str i) h := (rfl)
theorem ev_glb (g : Nat) : ev G (.glb g) e h = match G.glb g with | some d => .ok d h | none => .bad := (rfl)
theorem ev_bin (op : Bop) (a b : E) : ev G (.bin op a b) e h = (ev G a e h).bind fun x h => (ev G b e h).bind fun y h => binD op x y h := (rfl)
theorem ev_neg (a : E) : ev G (.neg a) e h = (ev G a e h).bind fun x h => match x with | .int i => .ok (.int (-i)) h | _ => .bad := (rfl)
theorem ev_not (a : E) : ev G (.not a) e h = (ev G a e h).bind fun x h => match x with | .bl b => .ok (.bl (!b)) h | _ => .bad := (rfl)
theorem ev_and (a b : E) : ev G (.and a b) e h = (ev G a e h).bind fun x h => match x with
    | .bl true => (ev G b e h).bind fun y h => (match y with | .bl b => .ok (.bl b) h | _ => .bad)
    | .bl false => .ok (.bl false) h
    | _ => .bad := (rfl)
theorem ev_or (a b : E) : ev G (.or a b) e h = (ev G a e h).bind fun x h => match x with
    | .bl false => (ev G b e h).bind fun y h => (match y with | .bl b => .ok (.bl b) h | _ => .bad)
    | .bl true => .ok (.bl true) h
    | _ => .bad := (rfl)
theorem ev_cmp (op : Cop) (a b : E) : ev G (.cmp op a b) e h = (ev G a e h).bind fun x h => (ev G b e h).bind fun y h => cmpD op x y h := (rfl)
theorem ev_chn (o p : Cop) (a b c : E) : ev G (.chn o p a b c) e h = (ev G a e h).bind fun x h => (ev G b e h).bind fun y h => (cmpD o x y h).bind fun z h => match z with
    | .bl true => (ev G c e h).bind fun w h => cmpD p y w h
    | .bl false => .ok (.bl false) h
    | _ => .bad := (rfl)
theorem ev_ife (c a b : E) : ev G (.ife c a b) e h = (ev G c e h).bind fun x h => match x with
    | .bl true => ev G a e h
    | .bl false => ev G b e h
    | _ => .bad := (rfl)
theorem ev_tup (a : E) : ev G (.tup a) e h = (ev G a e h).bind fun x h => .ok (.tup (argsD x)) h := (rfl)
theorem ev_lst (a : E) : ev G (.lst a) e h = (ev G a e h).bind fun x h => .ok (.lst (argsD x)) h := (rfl)
theorem ev_nil : ev G .nil e h = .ok (.tup []) h := (rfl)
theorem ev_cons (a r : E) : ev G (.cons a r) e h = (ev G a e h).bind fun x h => (ev G r e h).bind fun y h => .ok (.tup (x :: argsD y)) h := (rfl)
theorem ev_call (f : Nat) (a : E) : ev G (.call f a) e h = (ev G a e h).bind fun x h => G.call f (argsD x) h := (rfl)
theorem ev_meth (m : Nat) (o a : E) : ev G (.meth m o a) e h = (ev G o e h).bind fun y h => (ev G a e h).bind fun x h => methD G m y (argsD x) h := (rfl)
theorem ev_mk (c : Nat) (a : E) : ev G (.mk c a) e h = (ev G a e h).bind fun x h => G.make c (argsD x) h := (rfl)
theorem ev_bi (b : Bi) (a : E) : ev G (.bi b a) e h = (ev G a e h).bind fun x h => biD b x h := (rfl)
theorem ev_min2 (a b : E) : ev G (.min2 a b) e h = (ev G a e h).bind fun x h => (ev G b e h).bind fun y h => match x, y with | .int i, .int j => .ok (.int (if j < i then j else i)) h | _, _ => .bad := (rfl)
theorem ev_isi (a : E) (t : List Ty) : ev G (.isi a t) e h = (ev G a e h).bind fun x h => .ok (.bl (t.any fun t => isTy t x)) h := (rfl)
theorem ev_len (a : E) : ev G (.len a) e h = (ev G a e h).bind fun x h => lenD G x h := (rfl)
theorem ev_sub (a i : E) : ev G (.sub a i) e h = (ev G a e h).bind fun x h => (ev G i e h).bind fun y h => subD x y h := (rfl)
theorem ev_slc (a : E) (lo hi : Option Int) : ev G (.slc a lo hi) e h = (ev G a e h).bind fun x h => slcD x lo hi h := (rfl)
theorem ev_fld (f : Nat) (a : E) : ev G (.fld f a) e h = (ev G a e h).bind fun x h => match x with
    | .ins c l => (match G.fix c f with | some i => (match l[i]? with | some d => .ok d h | none => .bad) | none => .bad)
    | _ => .bad := (rfl)
theorem ev_prop (m : Nat) (a : E) : ev G (.prop m a) e h = (ev G a e h).bind fun x h => propD G m x h := (rfl)
theorem ev_eqo (n : Bool) (a b : E) : ev G (.eqo n a b) e h = (ev G a e h).bind fun x h => (ev G b e h).bind fun y h => eqoD G n x y h := (rfl)
theorem ev_tix (tu : Bool) (a b : E) : ev G (.tix tu a b) e h = (ev G a e h).bind fun x h => (ev G b e h).bind fun y h => tixD tu x y h := (rfl)
theorem ev_pop0 (a : E) : ev G (.pop0 a) e h = (ev G a e h).bind fun x h => pop0D x h := (rfl)
theorem ev_trng (a : E) : ev G (.trng a) e h = (ev G a e h).bind fun x h => match x with | .int n => if n < 1000000 ∧ -1000000 < n then .ok (.tup (rngD n)) h else .bad | _ => .bad := (rfl)
def compF (tg : T) (own : List Nat) (ifs elt : E) : D → Hb → R (List D) := fun d h => match putT tg d (wipeE e own) with | none => .bad | some e' => bodyC G ifs elt e' h
theorem ev_comp (tg : T) (own : List Nat) (it ifs elt : E) : ev G (.comp tg own it ifs elt) e h = (ev G it e h).bind fun x h => (catL (compF G e tg own ifs elt) (argsD x) h).bind fun l h => longD l h := (rfl)
def comp2F (tg tg1 : T) (own own1 : List Nat) (it1 ifs1 elt : E) : D → Hb → R (List D) := fun d h => match putT tg d (wipeE e own) with | none => .bad | some e' => (ev G it1 e' h).bind fun x1 h => catL (compF G e' tg1 own1 ifs1 elt) (argsD x1) h
theorem ev_comp2 (tg tg1 : T) (own own1 : List Nat) (it it1 ifs1 elt : E) : ev G (.comp2 tg tg1 own own1 it it1 ifs1 elt) e h = (ev G it e h).bind fun x h => (catL (comp2F G e tg tg1 own own1 it1 ifs1 elt) (argsD x) h).bind fun l h => longD l h := (rfl)
theorem ev_iseq (a : E) : ev G (.iseq a) e h = (ev G a e h).bind fun x h => (iterD x h).bind fun l h => .ok (.tup l) h := (rfl)
theorem ev_iown (a : E) : ev G (.iown a) e h = (ev G a e h).bind fun x h => iownD G x h := (rfl)
theorem ev_irng (a : E) : ev G (.irng a) e h = (ev G a e h).bind fun x h => match x with | .int n => if n < 1000000 ∧ -1000000 < n then .ok (.tup (rngD n)) h else .bad | _ => .bad := (rfl)
theorem ev_ienum (a : E) : ev G (.ienum a) e h = (ev G a e h).bind fun x h => match seqD x with | some l => .ok (.tup (enumD 0 l)) h | none => .bad := (rfl)
theorem ev_izip (a b : E) : ev G (.izip a b) e h = (ev G a e h).bind fun x h => (ev G b e h).bind fun y h => match seqD x, seqD y with | some l, some m => .ok (.tup (zipD l m)) h | _, _ => .bad := (rfl)
theorem compF_put {tg : T} {own : List Nat} {ifs elt : E} {d : D} {e' : En} (hp : putT tg d (wipeE e own) = some e') : compF G e tg own ifs elt d h = bodyC G ifs elt e' h := by
  unfold compF
  rw [hp]
theorem comp2F_put {tg tg1 : T} {own own1 : List Nat} {it1 ifs1 elt : E} {d : D} {e' : En} (hp : putT tg d (wipeE e own) = some e') : comp2F G e tg tg1 own own1 it1 ifs1 elt d h = (ev G it1 e' h).bind fun x1 h => catL (compF G e' tg1 own1 ifs1 elt) (argsD x1) h := by
  unfold comp2F
  rw [hp]
theorem body_true (elt : E) : bodyC G (.cst (.bool true)) elt e h = (ev G elt e h).bind fun y h => .ok [y] h := (rfl)
theorem body_if (ifs elt : E) : bodyC G ifs elt e h = (ev G ifs e h).bind fun c h => match c with
  | .bl true => (ev G elt e h).bind fun y h => .ok [y] h
  | .bl false => .ok [] h
  | _ => .bad := (rfl)
theorem ex_skip : exc G .skip e h = .next e h := (rfl)
theorem ex_seq (a b : S) : exc G (.seq a b) e h = (exc G a e h).thn fun e h => exc G b e h := (rfl)
theorem ex_set (i : Nat) (a : E) : exc G (.set i a) e h = (ev G a e h).thn fun d h => .next (putN i d e) h := (rfl)
theorem ex_setM (i : Nat) (a : E) : exc G (.setM i a) e h = (ev G a e h).thn fun d h => match d with | .lst l => .next (putN i (.lst l) e) h | _ => .bad := (rfl)
theorem ex_setB (i : Nat) (a : E) : exc G (.setB i a) e h = (ev G a e h).thn fun d h => match d with | .lst l => if D.nls l then .next (putN i (.obj h.length) e) (h ++ [.lst l]) else .bad | _ => .bad := (rfl)
theorem ex_unp (l : List Nat) (a : E) : exc G (.unp l a) e h = (ev G a e h).thn fun d h => match putT (.many l) d e with | some e => .next e h | none => .bad := (rfl)
theorem ex_par (i j : Nat) (mi mj : Bool) (a b : E) : exc G (.par i j mi mj a b) e h = (ev G a e h).thn fun x h => (ev G b e h).thn fun y h => if (mi && !x.isL) || (mj && !y.isL) then .bad else .next (putN j y (putN i x e)) h := (rfl)
theorem ex_app (i : Nat) (a : E) : exc G (.app i a) e h = (ev G a e h).thn fun d h => match e[i]? with
    | some (some (.lst l)) => if l.length < 1000000 then .next (putN i (.lst (l ++ [d])) e) h else .bad
    | _ => .bad := (rfl)
theorem ex_ixs (i : Nat) (ix a : E) : exc G (.ixs i ix a) e h = (ev G a e h).thn fun d h => (ev G ix e h).thn fun k h => match e[i]?, k with
    | some (some (.lst l)), .int k => (match L2.ixN l.length k with | some j => .next (putN i (.lst (l.set j d)) e) h | none => .bad)
    | _, _ => .bad := (rfl)
theorem ex_ixa (i : Nat) (ix a : E) : exc G (.ixa i ix a) e h = (ev G ix e h).thn fun k h => match e[i]?, k with
    | some (some (.lst l)), .int k => (match L2.ixN l.length k with
      | some j => (match l[j]? with
        | some (.int n) => (ev G a e h).thn fun d h => (match d with
          | .int m => .next (putN i (.lst (l.set j (.int (n + m)))) e) h
          | _ => .bad)
        | _ => .bad)
      | none => .bad)
    | _, _ => .bad := (rfl)
theorem ex_aug (i : Nat) (op : Bop) (a : E) : exc G (.aug i op a) e h = match e[i]? with
    | some (some x) => (ev G a e h).thn fun d h => (match x, d with
      | .int n, .int m => (binD op (.int n) (.int m) h).thn fun z h => .next (putN i z e) h
      | _, _ => .bad)
    | _ => .bad := (rfl)
theorem ex_sfld (c j : Nat) (a : E) : exc G (.sfld c j a) e h = (ev G a e h).thn fun d h => match e[(0 : Nat)]? with
    | some (some (.ins c' l)) => if c' = c ∧ l.length = j ∧ e.length < 1000 then .next (putN 0 (.ins c (l ++ [d])) e) h else .bad
    | _ => .bad := (rfl)
theorem ex_ift (c : E) (a b : S) : exc G (.ift c a b) e h = (ev G c e h).thn fun d h => match d with
    | .bl true => exc G a e h
    | .bl false => exc G b e h
    | _ => .bad := (rfl)
theorem ex_for (tg : T) (it : E) (b : S) : exc G (.for_ tg it b) e h = (ev G it e h).thn fun x h => forL (fBody G tg b) (argsD x) e h := (rfl)
theorem ex_ret (a : E) : exc G (.ret a) e h = (ev G a e h).thn fun d h => .ret d h := (rfl)
theorem ex_exp (a : E) : exc G (.exp a) e h = (ev G a e h).thn fun _ h => .next e h := (rfl)
theorem fBody_put {tg : T} {b : S} {d : D} {e' : En} (hp : putT tg d e = some e') : fBody G tg b d e h = exc G b e' h := by
  unfold fBody
  rw [hp]
end
theorem irng_nat {G : Pg} {a : E} {e : En} {h h' : Hb} {n : Nat} (hv : ev G a e h = .ok (.int (n : Nat)) h') (hn : n < 1000000) : ev G (.irng a) e h = .ok (.tup ((List.range n).map fun i => .int (i : Nat))) h' := by
  rw [ev_irng, hv, R.bind_ok]
  have c : ((n : Nat) : Int) < 1000000 ∧ -1000000 < ((n : Nat) : Int) := ⟨by omega, by omega⟩
  simp only [rngD, Int.toNat_natCast]
  exact if_pos c
theorem trng_nat {G : Pg} {a : E} {e : En} {h h' : Hb} {n : Nat} (hv : ev G a e h = .ok (.int (n : Nat)) h') (hn : n < 1000000) : ev G (.trng a) e h = .ok (.tup ((List.range n).map fun i => .int (i : Nat))) h' := by
  rw [ev_trng, hv, R.bind_ok]
  have c : ((n : Nat) : Int) < 1000000 ∧ -1000000 < ((n : Nat) : Int) := ⟨by omega, by omega⟩
  simp only [rngD, Int.toNat_natCast]
  exact if_pos c
theorem par_ff {G : Pg} {i j : Nat} {a b : E} {e : En} {h h1 h2 : Hb} {x y : D} (ha : ev G a e h = .ok x h1) (hb : ev G b e h1 = .ok y h2) : exc G (.par i j false false a b) e h = .next (putN j y (putN i x e)) h2 := by
  rw [ex_par, ha, R.thn_ok, hb, R.thn_ok]
  exact if_neg (by simp)
theorem par_ft {G : Pg} {i j : Nat} {a b : E} {e : En} {h h1 h2 : Hb} {x : D} {l : List D} (ha : ev G a e h = .ok x h1) (hb : ev G b e h1 = .ok (.lst l) h2) : exc G (.par i j false true a b) e h = .next (putN j (.lst l) (putN i x e)) h2 := by
  rw [ex_par, ha, R.thn_ok, hb, R.thn_ok]
  exact if_neg (by simp [D.isL])
theorem par_tt {G : Pg} {i j : Nat} {a b : E} {e : En} {h h1 h2 : Hb} {l m : List D} (ha : ev G a e h = .ok (.lst l) h1) (hb : ev G b e h1 = .ok (.lst m) h2) : exc G (.par i j true true a b) e h = .next (putN j (.lst m) (putN i (.lst l) e)) h2 := by
  rw [ex_par, ha, R.thn_ok, hb, R.thn_ok]
  exact if_neg (by simp [D.isL])
theorem app_ok {G : Pg} {i : Nat} {a : E} {e : En} {h h1 : Hb} {x : D} {l : List D} (ha : ev G a e h = .ok x h1) (hl : e[i]? = some (some (.lst l))) (hn : l.length < 1000000) : exc G (.app i a) e h = .next (putN i (.lst (l ++ [x])) e) h1 := by
  rw [ex_app, ha, R.thn_ok, hl]
  exact if_pos hn
/-! ### loops -/
theorem forL_nil (f : D → En → Hb → RS) (e : En) (h : Hb) : forL f [] e h = .next e h := rfl
theorem forL_cons_next {f : D → En → Hb → RS} {x : D} {r : List D} {e e' : En} {h h' : Hb} (hx : f x e h = .next e' h') : forL f (x :: r) e h = forL f r e' h' := by
  show (match f x e h with
    | .next e h => forL f r e h
    | .cnt e h => forL f r e h
    | .brk e h => .next e h
    | .ret d h => .ret d h
    | .bad => .bad) = _
  rw [hx]
theorem forL_inv {f : D → En → Hb → RS} (P : Nat → En → Hb → Prop) : ∀ (l : List D) (n : Nat) (e : En) (h : Hb), P n e h → (∀ i d e h, l[i]? = some d → P (n + i) e h → ∃ e' h', f d e h = .next e' h' ∧ P (n + i + 1) e' h') → ∃ e' h', forL f l e h = .next e' h' ∧ P (n + l.length) e' h'
  | [], n, e, h, p, _ => ⟨e, h, rfl, p⟩
  | x :: r, n, e, h, p, st => by
    obtain ⟨e1, h1, q1, q2⟩ := st 0 x e h rfl p
    obtain ⟨e2, h2, q3, q4⟩ := forL_inv P r (n + 1) e1 h1 q2 fun i d e h ed p => by
      obtain ⟨e', h', w1, w2⟩ := st (i + 1) d e h (by simpa using ed) (by rw [show n + (i + 1) = n + 1 + i from by omega]; exact p)
      exact ⟨e', h', w1, by rw [show n + 1 + i + 1 = n + (i + 1) + 1 from by omega]; exact w2⟩
    refine ⟨e2, h2, by rw [forL_cons_next q1]; exact q3, ?_⟩
    rw [List.length_cons, show n + (r.length + 1) = n + 1 + r.length from by omega]
    exact q4
theorem catL_pure {f : D → Hb → R (List D)} {F : D → List D} {h : Hb} : ∀ l : List D, (∀ d ∈ l, f d h = .ok (F d) h) → catL f l h = .ok (l.flatMap F) h
  | [], _ => rfl
  | x :: r, hf => by
    show ((f x h).bind fun a h => (catL f r h).bind fun l h => R.ok (a ++ l) h) = _
    rw [hf x List.mem_cons_self, R.bind_ok, catL_pure r fun d hd => hf d (List.mem_cons_of_mem _ hd)]
    rfl
theorem catL_one {α : Type} {f : D → Hb → R (List D)} {g F : α → D} {h : Hb} : ∀ l : List α, (∀ a ∈ l, f (g a) h = .ok [F a] h) → catL f (l.map g) h = .ok (l.map F) h
  | [], _ => rfl
  | x :: r, hf => by
    show ((f (g x) h).bind fun a h => (catL f (r.map g) h).bind fun l h => R.ok (a ++ l) h) = _
    rw [hf x List.mem_cons_self, R.bind_ok, catL_one r fun d hd => hf d (List.mem_cons_of_mem _ hd)]
    rfl
theorem catL_if {α : Type} {f : D → Hb → R (List D)} {g F : α → D} {p : α → Bool} {h : Hb} : ∀ l : List α, (∀ a ∈ l, f (g a) h = .ok (if p a then [F a] else []) h) → catL f (l.map g) h = .ok ((l.filter p).map F) h
  | [], _ => rfl
  | x :: r, hf => by
    show ((f (g x) h).bind fun a h => (catL f (r.map g) h).bind fun l h => R.ok (a ++ l) h) = _
    rw [hf x List.mem_cons_self, R.bind_ok, catL_if r fun d hd => hf d (List.mem_cons_of_mem _ hd), R.bind_ok, List.filter_cons]
    split <;> rfl
theorem catL_inv {f : D → Hb → R (List D)} (P : Nat → List D → Hb → Prop) : ∀ (l : List D) (n : Nat) (a : List D) (h : Hb), P n a h → (∀ i d a h, l[i]? = some d → P (n + i) a h → ∃ b h', f d h = .ok b h' ∧ P (n + i + 1) (a ++ b) h') → ∃ b h', catL f l h = .ok b h' ∧ P (n + l.length) (a ++ b) h'
  | [], n, a, h, p, _ => ⟨[], h, rfl, by rw [List.append_nil]; exact p⟩
  | x :: r, n, a, h, p, st => by
    obtain ⟨b1, h1, q1, q2⟩ := st 0 x a h rfl p
    obtain ⟨b2, h2, q3, q4⟩ := catL_inv P r (n + 1) (a ++ b1) h1 q2 fun i d a h ed p => by
      obtain ⟨e', h', w1, w2⟩ := st (i + 1) d a h (by simpa using ed) (by rw [show n + (i + 1) = n + 1 + i from by omega]; exact p)
      exact ⟨e', h', w1, by rw [show n + 1 + i + 1 = n + (i + 1) + 1 from by omega]; exact w2⟩
    refine ⟨b1 ++ b2, h2, ?_, ?_⟩
    · show ((f x h).bind fun a h => (catL f r h).bind fun l h => R.ok (a ++ l) h) = _
      rw [q1, R.bind_ok, q3]
      rfl
    · rw [List.length_cons, show n + (r.length + 1) = n + 1 + r.length from by omega, ← List.append_assoc]
      exact q4
theorem longD_ok {l : List D} {h : Hb} (hl : l.length ≤ 1000000) : longD l h = .ok (.lst l) h := if_pos hl
/-! ### plain values: their equality -/
mutual
/-- no bools, no texts, at most so deep -/
def D.cln : Nat → D → Bool
  | _, .non => true
  | _, .int _ => true
  | n + 1, .tup l => D.clns n l
  | n + 1, .lst l => D.clns n l
  | _, _ => false
def D.clns : Nat → List D → Bool
  | _, [] => true
  | n, d :: l => D.cln n d && D.clns n l
end
theorem clns_iff {n : Nat} : ∀ {l : List D}, D.clns n l = true ↔ ∀ d ∈ l, D.cln n d = true
  | [] => by simp [D.clns]
  | d :: l => by
    rw [D.clns, Bool.and_eq_true, clns_iff (l := l)]
    simp
mutual
theorem cln_py : ∀ (n : Nat) (d : D), d.cln n = true → ∃ p, d.py = some p ∧ p.canLay0 = true ∧ p.depth ≤ n + 1
  | _, .non, _ => ⟨.none, rfl, rfl, by simp [PyData.depth]⟩
  | _, .int i, _ => ⟨.int i, rfl, rfl, by simp [PyData.depth]⟩
  | n + 1, .tup l, h => by
    obtain ⟨ps, h1, h2, h3⟩ := clns_py n l (by simpa [D.cln] using h)
    exact ⟨.tuple ps, by simp [D.py, h1], by simpa [PyData.canLay0] using h2, by simp only [PyData.depth]; omega⟩
  | n + 1, .lst l, h => by
    obtain ⟨ps, h1, h2, h3⟩ := clns_py n l (by simpa [D.cln] using h)
    exact ⟨.list ps, by simp [D.py, h1], by simpa [PyData.canLay0] using h2, by simp only [PyData.depth]; omega⟩
  | 0, .tup l, h => by simp [D.cln] at h
  | 0, .lst l, h => by simp [D.cln] at h
  | _, .bl b, h => by simp [D.cln] at h
  | _, .str b, h => by simp [D.cln] at h
  | _, .dic b, h => by simp [D.cln] at h
  | _, .ins c b, h => by simp [D.cln] at h
  | _, .obj b, h => by simp [D.cln] at h
  | _, .frz b, h => by simp [D.cln] at h
  | _, .ft b, h => by simp [D.cln] at h
theorem clns_py : ∀ (n : Nat) (l : List D), D.clns n l = true → ∃ ps, D.pys l = some ps ∧ PyData.canLayAll0 ps = true ∧ PyData.depthAll ps ≤ n + 1
  | _, [], _ => ⟨[], rfl, rfl, by simp [PyData.depthAll]⟩
  | n, d :: l, h => by
    simp only [D.clns, Bool.and_eq_true] at h
    obtain ⟨p, h1, h2, h3⟩ := cln_py n d h.1
    obtain ⟨ps, h4, h5, h6⟩ := clns_py n l h.2
    refine ⟨p :: ps, by simp [D.pys, h1, h4], by simp [PyData.canLayAll0, h2, h5], ?_⟩
    simp only [PyData.depthAll]
    omega
end
mutual
theorem cln_eqv : ∀ (n m : Nat) (d e : D) (p q : PyData), d.cln n = true → e.cln m = true → d.py = some p → e.py = some q → (PyData.eqv p q = true ↔ d = e)
  | _, _, .non, e, p, q, _, h2, h3, h4 => by
    cases h3
    cases e <;> first | (simp [D.cln] at h2; done) | skip
    · cases h4; simp [PyData.eqv]
    · cases h4; simp [PyData.eqv]
    · simp only [D.py, Option.map_eq_some_iff] at h4; obtain ⟨ps, _, rfl⟩ := h4; simp [PyData.eqv]
    · simp only [D.py, Option.map_eq_some_iff] at h4; obtain ⟨ps, _, rfl⟩ := h4; simp [PyData.eqv]
  | _, _, .int i, e, p, q, _, h2, h3, h4 => by
    cases h3
    cases e <;> first | (simp [D.cln] at h2; done) | skip
    · cases h4; simp [PyData.eqv]
    · cases h4; simp [PyData.eqv]
    · simp only [D.py, Option.map_eq_some_iff] at h4; obtain ⟨ps, _, rfl⟩ := h4; simp [PyData.eqv]
    · simp only [D.py, Option.map_eq_some_iff] at h4; obtain ⟨ps, _, rfl⟩ := h4; simp [PyData.eqv]
  | n + 1, m, .tup l, e, p, q, h1, h2, h3, h4 => by
    simp only [D.py, Option.map_eq_some_iff] at h3
    obtain ⟨ps, h3, rfl⟩ := h3
    cases e <;> first | (simp [D.cln] at h2; done) | skip
    · cases h4; simp [PyData.eqv]
    · cases h4; simp [PyData.eqv]
    · rename_i l2
      simp only [D.py, Option.map_eq_some_iff] at h4; obtain ⟨qs, h4, rfl⟩ := h4
      cases m with
      | zero => simp [D.cln] at h2
      | succ m =>
        have := clns_eqv n m l l2 ps qs (by simpa [D.cln] using h1) (by simpa [D.cln] using h2) h3 h4
        simp only [PyData.eqv, this, D.tup.injEq]
    · simp only [D.py, Option.map_eq_some_iff] at h4; obtain ⟨qs, _, rfl⟩ := h4; simp [PyData.eqv]
  | n + 1, m, .lst l, e, p, q, h1, h2, h3, h4 => by
    simp only [D.py, Option.map_eq_some_iff] at h3
    obtain ⟨ps, h3, rfl⟩ := h3
    cases e <;> first | (simp [D.cln] at h2; done) | skip
    · cases h4; simp [PyData.eqv]
    · cases h4; simp [PyData.eqv]
    · simp only [D.py, Option.map_eq_some_iff] at h4; obtain ⟨qs, _, rfl⟩ := h4; simp [PyData.eqv]
    · rename_i l2
      simp only [D.py, Option.map_eq_some_iff] at h4; obtain ⟨qs, h4, rfl⟩ := h4
      cases m with
      | zero => simp [D.cln] at h2
      | succ m =>
        have := clns_eqv n m l l2 ps qs (by simpa [D.cln] using h1) (by simpa [D.cln] using h2) h3 h4
        simp only [PyData.eqv, this, D.lst.injEq]
  | 0, _, .tup l, e, p, q, h, _, _, _ => by simp [D.cln] at h
  | 0, _, .lst l, e, p, q, h, _, _, _ => by simp [D.cln] at h
  | _, _, .bl b, e, p, q, h, _, _, _ => by simp [D.cln] at h
  | _, _, .str b, e, p, q, h, _, _, _ => by simp [D.cln] at h
  | _, _, .dic b, e, p, q, h, _, _, _ => by simp [D.cln] at h
  | _, _, .ins c b, e, p, q, h, _, _, _ => by simp [D.cln] at h
  | _, _, .obj b, e, p, q, h, _, _, _ => by simp [D.cln] at h
  | _, _, .frz b, e, p, q, h, _, _, _ => by simp [D.cln] at h
  | _, _, .ft b, e, p, q, h, _, _, _ => by simp [D.cln] at h
theorem clns_eqv : ∀ (n m : Nat) (d e : List D) (p q : List PyData), D.clns n d = true → D.clns m e = true → D.pys d = some p → D.pys e = some q → (PyData.eqvAll p q = true ↔ d = e)
  | _, _, [], e, p, q, _, _, h3, h4 => by
    cases h3
    cases e with
    | nil => cases h4; simp [PyData.eqvAll]
    | cons a r =>
      simp only [D.pys] at h4
      split at h4
      · cases h4; simp [PyData.eqvAll]
      · cases h4
  | n, m, d :: l, e, p, q, h1, h2, h3, h4 => by
    simp only [D.pys] at h3
    split at h3
    · rename_i x xs e1 e2
      cases h3
      cases e with
      | nil => cases h4; simp [PyData.eqvAll]
      | cons a r =>
        simp only [D.pys] at h4
        split at h4
        · rename_i y ys e3 e4
          cases h4
          simp only [D.clns, Bool.and_eq_true] at h1 h2
          have i1 := cln_eqv n m d a x y h1.1 h2.1 e1 e3
          have i2 := clns_eqv n m l r xs ys h1.2 h2.2 e2 e4
          simp only [PyData.eqvAll, Bool.and_eq_true, i1, i2, List.cons.injEq]
        · cases h4
    · cases h3
end
theorem dEq_cln {d e : D} (h1 : d.cln 60 = true) (h2 : e.cln 60 = true) : dEq d e = some (@decide (d = e) (Classical.propDecidable _)) := by
  obtain ⟨p, e1, e2, e3⟩ := cln_py 60 d h1
  obtain ⟨q, f1, f2, f3⟩ := cln_py 60 e h2
  have i := cln_eqv 60 60 d e p q h1 h2 e1 f1
  unfold dEq
  rw [e1, f1]
  have s1 : SeqAt.shaped p = true := by
    unfold SeqAt.shaped
    rw [e2, Bool.true_and, decide_eq_true_eq]
    omega
  have s2 : SeqAt.shaped q = true := by
    unfold SeqAt.shaped
    rw [f2, Bool.true_and, decide_eq_true_eq]
    omega
  simp only [s1, s2, Bool.and_self, if_true, Option.some.injEq]
  by_cases hd : d = e
  · rw [i.mpr hd]
    exact (@decide_eq_true _ (Classical.propDecidable _) hd).symm
  · have : PyData.eqv p q = false := by
      cases hb : PyData.eqv p q with
      | false => rfl
      | true => exact absurd (i.mp hb) hd
    rw [this]
    exact (@decide_eq_false _ (Classical.propDecidable _) hd).symm
theorem dEq_same {d : D} (h : d.cln 60 = true) : dEq d d = some true := by
  rw [dEq_cln h h]
  exact congrArg some (@decide_eq_true _ (Classical.propDecidable _) rfl)
theorem dEq_diff {d e : D} (h1 : d.cln 60 = true) (h2 : e.cln 60 = true) (n : d ≠ e) : dEq d e = some false := by
  rw [dEq_cln h1 h2]
  exact congrArg some (@decide_eq_false _ (Classical.propDecidable _) n)
/-- index, by equality -/
theorem tixL_ok {l : List D} {y : D} {j : Nat} (h : Hb) (hl : D.clns 59 l = true) (hy : y.cln 59 = true) (hj : l[j]? = some y) (hf : ∀ i, i < j → l[i]? ≠ some y) : tixL l y h = .ok (.int j) h := by
  obtain ⟨ps, e1, e2, e3⟩ := clns_py 59 l hl
  obtain ⟨p, f1, f2, f3⟩ := cln_py 59 y hy
  unfold tixL
  rw [e1, f1]
  have s1 : SeqAt.shaped (.list ps) = true := by
    unfold SeqAt.shaped
    have c1 : (PyData.list ps).canLay0 = true := by simpa [PyData.canLay0] using e2
    have c2 : (PyData.list ps).depth ≤ 64 := by simp only [PyData.depth]; omega
    rw [c1, Bool.true_and, decide_eq_true_eq]
    exact c2
  have s2 : SeqAt.shaped p = true := by
    unfold SeqAt.shaped
    rw [f2, Bool.true_and, decide_eq_true_eq]
    omega
  simp only [s1, s2, Bool.and_self, if_true]
  have key : ∀ (l : List D) (ps : List PyData) (n j : Nat), D.clns 59 l = true → D.pys l = some ps → l[j]? = some y → (∀ i, i < j → l[i]? ≠ some y) → idxP p ps n = some (n + j) := by
    intro l
    induction l with
    | nil => intro ps n j _ _ h3 _; simp at h3
    | cons a r ih =>
      intro ps n j h1 h2 h3 h4
      simp only [D.pys] at h2
      split at h2
      · rename_i x xs e1 e2
        cases h2
        simp only [D.clns, Bool.and_eq_true] at h1
        have i1 := cln_eqv 59 59 a y x p h1.1 hy e1 f1
        show (if PyData.eqv x p then some n else idxP p xs (n + 1)) = _
        cases j with
        | zero =>
          have : a = y := by simpa using h3
          rw [if_pos (i1.mpr this)]
          rfl
        | succ j =>
          have : a ≠ y := fun z => h4 0 (by omega) (by simp [z])
          have hb : ¬ PyData.eqv x p = true := fun z => this (i1.mp z)
          rw [if_neg hb, ih xs (n + 1) j h1.2 e2 (by simpa using h3) fun i hi => by
            have := h4 (i + 1) (by omega)
            simpa using this]
          congr 1
          omega
      · cases h2
  rw [key l ps 0 j hl e1 hj hf]
  simp
end CC

set_option Elab.async false
set_option linter.all false
set_option maxRecDepth 100000
/-! Shelves and crowds as plain data. -/
namespace CC
open PySem
abbrev Ent := Option (Nat × Nat)
abbrev Net := List (List (List Ent))
def nD (n : Nat) : D := .int n
def encE : Ent → D
  | none => .non
  | some (a, b) => .tup [.int a, .int b]
def encR (r : List Ent) : D := .tup (r.map encE)
def encN (e : List (List Ent)) : D := .tup (e.map encR)
def encT (n : Net) : D := .tup (n.map encN)
def encP (p : Nat × Nat) : D := .tup [.int p.1, .int p.2]
def encO : Option Nat → D
  | none => .non
  | some p => .int p
structure EdOk (m : Nat) (e : List (List Ent)) : Prop where
  lo : 1 ≤ e.length
  hi : e.length ≤ 3
  row : ∀ r ∈ e, r.length = m ∧ ∀ x ∈ r, ∀ a b, x = some (a, b) → a ≤ 2 ∧ b < e.length
structure NetOk (m : Nat) (n : Net) : Prop where
  m1 : 1 ≤ m
  m3 : m ≤ 3
  n1 : 1 ≤ n.length
  n4 : n.length ≤ 4
  ed : ∀ e ∈ n, EdOk m e
  tot : (n.map List.length).sum ≤ 6
def spotsF : Nat → Net → List (Nat × Nat)
  | _, [] => []
  | i, e :: r => (List.range e.length).map (fun s => (i, s)) ++ spotsF (i + 1) r
def spots (n : Net) : List (Nat × Nat) := spotsF 0 n
/-- the shelf of a net -/
def shD (m : Nat) (n : Net) : D := .ins 0 [encT n, .int m, .ft ((spots n).map encP)]
theorem spotsF_len : ∀ (n : Net) (i : Nat), (spotsF i n).length = (n.map List.length).sum
  | [], _ => rfl
  | e :: r, i => by
    simp only [spotsF, List.length_append, List.length_map, List.length_range, List.map_cons, List.sum_cons, spotsF_len r (i + 1)]
theorem spots_len (n : Net) : (spots n).length = (n.map List.length).sum := spotsF_len n 0
theorem spotsF_mem : ∀ (n : Net) (i a b : Nat), (a, b) ∈ spotsF i n ↔ ∃ e, i ≤ a ∧ n[a - i]? = some e ∧ b < e.length
  | [], i, a, b => by simp [spotsF]
  | e :: r, i, a, b => by
    simp only [spotsF, List.mem_append, List.mem_map, List.mem_range, Prod.mk.injEq, spotsF_mem r (i + 1) a b]
    constructor
    · rintro (⟨s, hs, rfl, rfl⟩ | ⟨e', h1, h2, h3⟩)
      · exact ⟨e, Nat.le_refl _, by simp, hs⟩
      · refine ⟨e', by omega, ?_, h3⟩
        rw [show a - i = (a - (i + 1)) + 1 from by omega]
        simpa using h2
    · rintro ⟨e', h1, h2, h3⟩
      by_cases ha : a = i
      · subst ha
        rw [Nat.sub_self] at h2
        have : e = e' := by simpa using h2
        subst this
        exact .inl ⟨b, h3, rfl, rfl⟩
      · refine .inr ⟨e', by omega, ?_, h3⟩
        rw [show a - i = (a - (i + 1)) + 1 from by omega] at h2
        simpa using h2
theorem spots_mem {n : Net} {a b : Nat} : (a, b) ∈ spots n ↔ ∃ e, n[a]? = some e ∧ b < e.length := by
  unfold spots
  rw [spotsF_mem]
  simp
/-- what a call does at a spot -/
def entAt (n : Net) (s : Nat × Nat) (c : Nat) : Ent := ((n.getD s.1 []).getD s.2 []).getD c none
def entP (n : Net) (p c : Nat) : Ent := entAt n ((spots n).getD p (0, 0)) c
def rp (n : Net) (c p : Nat) : Option Nat := (entP n p c).map (·.1)
def nx (n : Net) (c p : Nat) : Option Nat := (entP n p c).map fun e => (spots n).idxOf (((spots n).getD p (0, 0)).1, e.2)
theorem ent_ok {m : Nat} {n : Net} (ok : NetOk m n) {s : Nat × Nat} (hs : s ∈ spots n) {c : Nat} (hc : c < m) : ∃ e r x, n[s.1]? = some e ∧ e[s.2]? = some r ∧ r[c]? = some x ∧ entAt n s c = x ∧ ∀ a b, x = some (a, b) → a ≤ 2 ∧ (s.1, b) ∈ spots n := by
  obtain ⟨a, b⟩ := s
  obtain ⟨e, h1, h2⟩ := spots_mem.mp hs
  have h3 := List.getElem?_eq_getElem h2
  have eo := ok.ed e (List.mem_of_getElem? h1)
  obtain ⟨r1, r2⟩ := eo.row _ (List.mem_of_getElem? h3)
  have h4 : c < e[b].length := by omega
  have h5 := List.getElem?_eq_getElem h4
  refine ⟨e, _, _, h1, h3, h5, ?_, fun x y hx => ?_⟩
  · simp only [entAt, List.getD_eq_getElem?_getD, h1, Option.getD_some, h3, h5]
  · have := r2 _ (List.mem_of_getElem? h5) x y hx
    exact ⟨this.1, spots_mem.mpr ⟨e, h1, this.2⟩⟩
theorem entP_ok {m : Nat} {n : Net} (ok : NetOk m n) {p c : Nat} (hp : p < (spots n).length) (hc : c < m) : ∀ a b, entP n p c = some (a, b) → a ≤ 2 ∧ (((spots n).getD p (0, 0)).1, b) ∈ spots n := fun a b h => by
  have hs : (spots n).getD p (0, 0) ∈ spots n := by
    rw [List.getD_eq_getElem?_getD, List.getElem?_eq_getElem hp]
    exact List.getElem_mem hp
  obtain ⟨e, r, x, _, _, _, h4, h5⟩ := ent_ok ok hs hc
  exact h5 a b (by rw [← h4]; exact h)
theorem nx_lt {m : Nat} {n : Net} (ok : NetOk m n) {p c q : Nat} (hp : p < (spots n).length) (hc : c < m) (h : nx n c p = some q) : q < (spots n).length := by
  unfold nx at h
  cases e : entP n p c with
  | none => rw [e] at h; cases h
  | some x =>
    rw [e] at h
    obtain ⟨a, b⟩ := x
    simp only [Option.map_some, Option.some.injEq] at h
    have := (entP_ok ok hp hc a b e).2
    rw [← h]
    exact List.idxOf_lt_length_of_mem this
/-! ### all of it is plain -/
theorem cln_up : ∀ (n : Nat) (d : D), d.cln n = true → d.cln (n + 1) = true := by
  have both : (∀ (n : Nat), (∀ d : D, d.cln n = true → d.cln (n + 1) = true) ∧ ∀ l : List D, D.clns n l = true → D.clns (n + 1) l = true) := by
    intro n
    induction n with
    | zero =>
      have h1 : ∀ d : D, d.cln 0 = true → d.cln 1 = true := fun d h => by
        cases d <;> simp_all [D.cln]
      refine ⟨h1, fun l h => clns_iff.mpr fun d hd => h1 d (clns_iff.mp h d hd)⟩
    | succ n ih =>
      have h1 : ∀ d : D, d.cln (n + 1) = true → d.cln (n + 1 + 1) = true := fun d h => by
        cases d with
        | tup l => simp only [D.cln] at h ⊢; exact ih.2 l h
        | lst l => simp only [D.cln] at h ⊢; exact ih.2 l h
        | _ => simp_all [D.cln]
      exact ⟨h1, fun l h => clns_iff.mpr fun d hd => h1 d (clns_iff.mp h d hd)⟩
  exact fun n => (both n).1
theorem cln_le {n m : Nat} {d : D} (h : d.cln n = true) (hm : n ≤ m) : d.cln m = true := by
  induction hm with
  | refl => exact h
  | step _ ih => exact cln_up _ _ ih
theorem cln_int (n : Nat) (i : Int) : (D.int i).cln n = true := by cases n <;> simp [D.cln]
theorem cln_non (n : Nat) : D.non.cln n = true := by cases n <;> simp [D.cln]
theorem clns_map {α : Type} {n : Nat} {f : α → D} {l : List α} (h : ∀ a ∈ l, (f a).cln n = true) : D.clns n (l.map f) = true := clns_iff.mpr fun d hd => by
  obtain ⟨a, ha, rfl⟩ := List.mem_map.mp hd
  exact h a ha
theorem cln_P (p : Nat × Nat) : (encP p).cln 1 = true := by simp [encP, D.cln, D.clns]
theorem cln_E (e : Ent) : (encE e).cln 1 = true := by
  cases e with
  | none => exact cln_non _
  | some x => obtain ⟨a, b⟩ := x; simp [encE, D.cln, D.clns]
theorem cln_R (r : List Ent) : (encR r).cln 2 = true := by simp only [encR, D.cln]; exact clns_map fun a _ => cln_E a
theorem cln_N (r : List (List Ent)) : (encN r).cln 3 = true := by simp only [encN, D.cln]; exact clns_map fun a _ => cln_R a
theorem cln_T (r : Net) : (encT r).cln 4 = true := by simp only [encT, D.cln]; exact clns_map fun a _ => cln_N a
theorem map_inj {α : Type} {f : α → D} (hf : ∀ a b, f a = f b → a = b) : ∀ l m : List α, l.map f = m.map f → l = m
  | [], [], _ => rfl
  | [], _ :: _, h => by simp at h
  | _ :: _, [], h => by simp at h
  | a :: l, b :: m, h => by
    simp only [List.map_cons, List.cons.injEq] at h
    rw [hf a b h.1, map_inj hf l m h.2]
theorem encP_inj (a b : Nat × Nat) (h : encP a = encP b) : a = b := by
  obtain ⟨a1, a2⟩ := a
  obtain ⟨b1, b2⟩ := b
  simp only [encP, D.tup.injEq, List.cons.injEq, D.int.injEq, Int.ofNat_inj, and_true] at h
  rw [h.1, h.2]
theorem encE_inj (a b : Ent) (h : encE a = encE b) : a = b := by
  cases a with
  | none =>
    cases b with
    | none => rfl
    | some x => obtain ⟨b1, b2⟩ := x; simp [encE] at h
  | some y =>
    obtain ⟨a1, a2⟩ := y
    cases b with
    | none => simp [encE] at h
    | some x =>
      obtain ⟨b1, b2⟩ := x
      simp only [encE, D.tup.injEq, List.cons.injEq, D.int.injEq, Int.ofNat_inj, and_true] at h
      rw [h.1, h.2]
theorem encT_inj (a b : Net) (h : encT a = encT b) : a = b := by
  simp only [encT, D.tup.injEq] at h
  refine map_inj (fun a b h => ?_) a b h
  simp only [encN, D.tup.injEq] at h
  refine map_inj (fun a b h => ?_) a b h
  simp only [encR, D.tup.injEq] at h
  exact map_inj encE_inj a b h
theorem idx_le {x : Nat × Nat} : ∀ {l : List (Nat × Nat)} {i : Nat}, l[i]? = some x → l.idxOf x ≤ i
  | [], i, h => by simp at h
  | a :: r, i, h => by
    rw [List.idxOf_cons]
    by_cases e : a = x
    · simp [e]
    · have hb : (a == x) = false := by simpa using e
      rw [hb]
      cases i with
      | zero => exact absurd (by simpa using h) e
      | succ i =>
        have := idx_le (l := r) (i := i) (by simpa using h)
        simpa using this
/-- the place of a spot -/
theorem tix_spots {n : Net} {q : Nat × Nat} (hq : q ∈ spots n) (h : Hb) : tixL ((spots n).map encP) (encP q) h = .ok (.int ((spots n).idxOf q : Nat)) h := by
  refine tixL_ok h (clns_map fun a _ => cln_le (cln_P a) (by decide)) (cln_le (cln_P q) (by decide)) ?_ fun i hi => ?_
  · rw [List.getElem?_map, List.getElem?_eq_getElem (List.idxOf_lt_length_of_mem hq), List.getElem_idxOf]
    rfl
  · rw [List.getElem?_map]
    intro z
    cases e : (spots n)[i]? with
    | none => rw [e] at z; cases z
    | some x =>
      rw [e] at z
      have := encP_inj x q (Option.some.inj z)
      subst this
      have hl := (List.getElem?_eq_some_iff.mp e).1
      have := idx_le e
      omega
end CC

set_option Elab.async false
set_option linter.all false
set_option maxRecDepth 100000
/-! Pushing numbers along maps of places: plain mathematics. -/
namespace CC
/-- numbers are added where the places tell -/
def psh : List Int → List Int → List (Option Nat) → List Int
  | acc, x :: v, some p :: f => psh (acc.set p (acc.getD p 0 + x)) v f
  | acc, _ :: v, none :: f => psh acc v f
  | acc, _, _ => acc
/-- a weighted sum by place -/
def dW (w : Nat → Int) : List Int → Int
  | [] => 0
  | x :: r => w 0 * x + dW (fun i => w (i + 1)) r
/-- a weighted sum along places -/
def dF (w : Nat → Int) : List Int → List (Option Nat) → Int
  | x :: v, o :: f => (o.elim 0 w) * x + dF w v f
  | _, _ => 0
theorem dW_set : ∀ (l : List Int) (w : Nat → Int) (p : Nat) (x : Int), p < l.length → dW w (l.set p (l.getD p 0 + x)) = dW w l + w p * x
  | [], _, _, _, h => by simp at h
  | a :: r, w, 0, x, _ => by
    simp only [List.set_cons_zero, List.getD_cons_zero, dW, Int.mul_add]
    omega
  | a :: r, w, p + 1, x, h => by
    simp only [List.set_cons_succ, List.getD_cons_succ, dW]
    rw [dW_set r (fun i => w (i + 1)) p x (by simpa using h)]
    omega
theorem psh_len : ∀ (v : List Int) (f : List (Option Nat)) (acc : List Int), (psh acc v f).length = acc.length
  | [], f, acc => by cases f <;> simp [psh]
  | x :: v, [], acc => by simp [psh]
  | x :: v, none :: f, acc => by simp only [psh]; exact psh_len v f acc
  | x :: v, some p :: f, acc => by simp only [psh]; rw [psh_len v f]; simp
theorem psh_dW (w : Nat → Int) : ∀ (v : List Int) (f : List (Option Nat)) (acc : List Int), (∀ o ∈ f, ∀ p, o = some p → p < acc.length) → dW w (psh acc v f) = dW w acc + dF w v f
  | [], f, acc, _ => by cases f <;> simp [psh, dF]
  | x :: v, [], acc, _ => by simp [psh, dF]
  | x :: v, none :: f, acc, h => by
    simp only [psh, dF, Option.elim]
    rw [psh_dW w v f acc fun o ho => h o (List.mem_cons_of_mem _ ho)]
    omega
  | x :: v, some p :: f, acc, h => by
    simp only [psh, dF, Option.elim]
    rw [psh_dW w v f _ fun o ho q e => by simpa using h o (List.mem_cons_of_mem _ ho) q e, dW_set _ _ _ _ (h _ List.mem_cons_self p rfl)]
    omega
theorem dW_ext : ∀ (l m : List Int), l.length = m.length → (∀ w, dW w l = dW w m) → l = m
  | [], [], _, _ => rfl
  | [], _ :: _, h, _ => by simp at h
  | _ :: _, [], h, _ => by simp at h
  | a :: l, b :: m, h, hw => by
    have z : ∀ r : List Int, dW (fun _ => 0) r = 0 := fun r => by
      induction r with
      | nil => rfl
      | cons x r ih => simp only [dW]; omega
    have h0 := hw fun i => if i = 0 then 1 else 0
    simp only [dW, if_true, Nat.add_eq_zero_iff, Nat.one_ne_zero, and_false, if_false, z] at h0
    have e : a = b := by omega
    subst e
    rw [dW_ext l m (by simpa using h) fun w => by
      have q := hw fun i => if i = 0 then 0 else w (i - 1)
      have e : (fun i => (if i + 1 = 0 then 0 else w (i + 1 - 1))) = w := funext fun i => by simp
      simp only [dW, if_true, e] at q
      omega]
theorem dW_zero (w : Nat → Int) (n : Nat) : dW w (List.replicate n 0) = 0 := by
  induction n generalizing w with
  | zero => rfl
  | succ n ih => simp only [List.replicate_succ, dW, ih]; omega
theorem dF_range (w : Nat → Int) : ∀ (v : List Int) (g : Nat → Option Nat), dF w v ((List.range v.length).map g) = dW (fun j => (g j).elim 0 w) v
  | [], g => rfl
  | x :: v, g => by
    rw [List.length_cons, List.range_succ_eq_map, List.map_cons, List.map_map]
    simp only [dF, dW]
    rw [show (g ∘ Nat.succ) = fun j => g (j + 1) from rfl, dF_range w v fun j => g (j + 1)]
theorem dF_bind (w : Nat → Int) (g : Nat → Option Nat) : ∀ (v : List Int) (ps : List (Option Nat)), dF w v (ps.map fun o => o.bind g) = dF (fun j => (g j).elim 0 w) v ps
  | [], ps => by cases ps <;> rfl
  | x :: v, [] => rfl
  | x :: v, o :: ps => by
    simp only [List.map_cons, dF, dF_bind w g v ps]
    cases o <;> rfl
/-- where the numbers are, of so many places -/
def mv (N : Nat) (v : List Int) (ps : List (Option Nat)) : List Int := psh (List.replicate N 0) v ps
theorem mv_len (N : Nat) (v : List Int) (ps : List (Option Nat)) : (mv N v ps).length = N := by simp [mv, psh_len]
def InN (N : Nat) (ps : List (Option Nat)) : Prop := ∀ o ∈ ps, ∀ p, o = some p → p < N
theorem mv_dW {N : Nat} (w : Nat → Int) (v : List Int) {ps : List (Option Nat)} (h : InN N ps) : dW w (mv N v ps) = dF w v ps := by
  unfold mv
  rw [psh_dW w v ps _ (by simpa [InN] using h), dW_zero]
  omega
theorem mv_start (v : List Int) : mv v.length v ((List.range v.length).map some) = v := by
  refine dW_ext _ _ (mv_len _ _ _) fun w => ?_
  rw [mv_dW w v fun o ho p e => ?_, dF_range]
  · rfl
  · obtain ⟨q, hq, rfl⟩ := List.mem_map.mp ho
    cases e
    exact List.mem_range.mp hq
/-- one step more -/
theorem mv_step {N M : Nat} (v : List Int) {ps : List (Option Nat)} (h : InN N ps) (g : Nat → Option Nat) (hg : ∀ j, j < N → ∀ p, g j = some p → p < M) : mv M (mv N v ps) ((List.range N).map g) = mv M v (ps.map fun o => o.bind g) := by
  refine dW_ext _ _ (by rw [mv_len, mv_len]) fun w => ?_
  have i1 : InN M ((List.range N).map g) := fun o ho p e => by
    obtain ⟨q, hq, rfl⟩ := List.mem_map.mp ho
    exact hg q (List.mem_range.mp hq) p e
  have i2 : InN M (ps.map fun o => o.bind g) := fun o ho p e => by
    obtain ⟨q, hq, rfl⟩ := List.mem_map.mp ho
    cases q with
    | none => cases e
    | some q => exact hg q (h _ hq q rfl) p e
  rw [mv_dW w _ i1, mv_dW w _ i2, dF_bind]
  have := dF_range w (mv N v ps) g
  rw [mv_len] at this
  rw [this, mv_dW _ v h]
/-- one number of what is there -/
def ind (r : Nat) : Nat → Int := fun i => if i = r then 1 else 0
theorem dW_ind : ∀ (l : List Int) (r : Nat), dW (ind r) l = l.getD r 0
  | [], r => by simp [dW]
  | x :: l, 0 => by
    have z : ∀ r : List Int, dW (fun i => ind 0 (i + 1)) r = 0 := fun r => by
      have : (fun i => ind 0 (i + 1)) = fun _ => (0 : Int) := funext fun i => by simp [ind]
      rw [this]
      induction r with
      | nil => rfl
      | cons x r ih => simp only [dW]; omega
    simp only [dW, z, List.getD_cons_zero]
    simp [ind]
  | x :: l, r + 1 => by
    have : (fun i => ind (r + 1) (i + 1)) = ind r := funext fun i => by simp [ind]
    simp only [dW, this, dW_ind l r, List.getD_cons_succ]
    simp [ind]
theorem mv_get {N : Nat} (v : List Int) {ps : List (Option Nat)} (h : InN N ps) (r : Nat) : (mv N v ps).getD r 0 = dF (ind r) v ps := by
  rw [← dW_ind, mv_dW _ v h]
end CC

set_option Elab.async false
set_option linter.all false
set_option maxRecDepth 100000
set_option maxHeartbeats 0
/-! The text in the small language (printed by irgen.py). -/
namespace K01
open PySem CC L2
def top (i : Nat) : Stmt := PySem.Challenge.pw_crowdcall_k01_whole_crowds.main.body.getD i (.Pass ⟨0, 0, 0, 0⟩)
def f_is_integer : Fn := ⟨3, 3, [], (.ret (.and (.isi (.var 0) [.int]) (.and (.not (.isi (.var 0) [.bool])) (.chn .le .le (.var 1) (.var 0) (.var 2))))), false⟩
def d_is_integer : DefA := ⟨(.glo "is_integer"), ⟨("is_integer", none), "is_integer", "is_integer", (top 11), ["value", "low", "high"]⟩⟩
def f_is_entry : Fn := ⟨2, 2, [], (.seq (.ift (.cmp .isN (.var 0) (.cst .none)) (.ret (.cst (.bool true))) .skip) (.seq (.ift (.or (.not (.isi (.var 0) [.tuple])) (.cmp .ne (.len (.var 0)) (.cst (.int 2)))) (.ret (.cst (.bool false))) .skip) (.ret (.and (.call 0 (.cons (.sub (.var 0) (.cst (.int 0))) (.cons (.cst (.int 0)) (.cons (.glb 4) .nil)))) (.call 0 (.cons (.sub (.var 0) (.cst (.int 1))) (.cons (.cst (.int 0)) (.cons (.bin .sub (.var 1) (.cst (.int 1))) .nil)))))))), false⟩
def d_is_entry : DefA := ⟨(.glo "is_entry"), ⟨("is_entry", none), "is_entry", "is_entry", (top 12), ["value", "states"]⟩⟩
def b_is_edition_0 : S := (.seq (.ift (.or (.not (.isi (.var 2) [.tuple])) (.cmp .ne (.len (.var 2)) (.var 1))) (.ret (.cst (.bool false))) .skip) (.ift (.not (.bi .all (.comp (.one 3) [3] (.iseq (.var 2)) (.cst (.bool true)) (.call 1 (.cons (.var 3) (.cons (.len (.var 0)) .nil)))))) (.ret (.cst (.bool false))) .skip))
def f_is_edition : Fn := ⟨2, 4, [], (.seq (.ift (.or (.not (.isi (.var 0) [.tuple])) (.not (.chn .le .le (.cst (.int 1)) (.len (.var 0)) (.glb 1)))) (.ret (.cst (.bool false))) .skip) (.seq (.for_ (.one 2) (.iseq (.var 0)) b_is_edition_0) (.ret (.cst (.bool true))))), false⟩
def d_is_edition : DefA := ⟨(.glo "is_edition"), ⟨("is_edition", none), "is_edition", "is_edition", (top 13), ["value", "calls", "row", "entry"]⟩⟩
def f_calls_in : Fn := ⟨1, 2, [], (.seq (.set 1 (.sub (.var 0) (.cst (.int 0)))) (.seq (.ift (.or (.not (.isi (.var 1) [.tuple])) (.or (.cmp .eq (.var 1) (.tup .nil)) (.not (.isi (.sub (.var 1) (.cst (.int 0))) [.tuple])))) (.ret (.cst (.int 0))) .skip) (.ret (.ife (.cmp .le (.len (.sub (.var 1) (.cst (.int 0)))) (.glb 3)) (.len (.sub (.var 1) (.cst (.int 0)))) (.cst (.int 0)))))), false⟩
def d_calls_in : DefA := ⟨(.glo "calls_in"), ⟨("calls_in", none), "calls_in", "calls_in", (top 14), ["value", "first"]⟩⟩
def f_check_shelf : Fn := ⟨1, 1, [], (.ift (.not (.isi (.var 0) [(.own 0)])) .bad .skip), false⟩
def d_check_shelf : DefA := ⟨(.glo "check_shelf"), ⟨("check_shelf", none), "check_shelf", "check_shelf", (top 16), ["shelf"]⟩⟩
def f_entry_at : Fn := ⟨3, 3, [], (.ret (.sub (.sub (.sub (.fld 0 (.var 0)) (.sub (.var 1) (.cst (.int 0)))) (.sub (.var 1) (.cst (.int 1)))) (.var 2))), false⟩
def d_entry_at : DefA := ⟨(.glo "entry_at"), ⟨("entry_at", none), "entry_at", "entry_at", (top 17), ["shelf", "spot", "call"]⟩⟩
def f_place_after : Fn := ⟨3, 5, [], (.seq (.ift (.cmp .isN (.var 1) (.cst .none)) (.ret (.cst .none)) .skip) (.seq (.set 3 (.sub (.fld 2 (.var 0)) (.var 1))) (.seq (.set 4 (.call 5 (.cons (.var 0) (.cons (.var 3) (.cons (.var 2) .nil))))) (.ret (.ife (.cmp .isN (.var 4) (.cst .none)) (.cst .none) (.tix true (.fld 2 (.var 0)) (.tup (.cons (.sub (.var 3) (.cst (.int 0))) (.cons (.sub (.var 4) (.cst (.int 1))) .nil))))))))), false⟩
def d_place_after : DefA := ⟨(.glo "place_after"), ⟨("place_after", none), "place_after", "place_after", (top 18), ["shelf", "place", "call", "spot", "entry"]⟩⟩
def f_reply_of : Fn := ⟨3, 4, [], (.seq (.ift (.cmp .isN (.var 1) (.cst .none)) (.ret (.cst .none)) .skip) (.seq (.set 3 (.call 5 (.cons (.var 0) (.cons (.sub (.fld 2 (.var 0)) (.var 1)) (.cons (.var 2) .nil))))) (.ret (.ife (.cmp .isN (.var 3) (.cst .none)) (.cst .none) (.sub (.var 3) (.cst (.int 0))))))), false⟩
def d_reply_of : DefA := ⟨(.glo "reply_of"), ⟨("reply_of", none), "reply_of", "reply_of", (top 19), ["shelf", "place", "call", "entry"]⟩⟩
def f_starts_of : Fn := ⟨1, 1, [], (.ret (.trng (.len (.var 0)))), false⟩
def d_starts_of : DefA := ⟨(.glo "starts_of"), ⟨("starts_of", none), "starts_of", "starts_of", (top 20), ["shelf"]⟩⟩
def f_places_after : Fn := ⟨3, 4, [], (.ret (.bi .tuple (.comp (.one 3) [3] (.iseq (.var 1)) (.cst (.bool true)) (.call 6 (.cons (.var 0) (.cons (.var 3) (.cons (.var 2) .nil))))))), false⟩
def d_places_after : DefA := ⟨(.glo "places_after"), ⟨("places_after", none), "places_after", "places_after", (top 21), ["shelf", "places", "call", "place"]⟩⟩
def f_tests_of : Fn := ⟨3, 7, [], (.seq (.set 3 (.comp (.one 4) [4] (.iseq (.var 1)) (.cst (.bool true)) (.call 7 (.cons (.var 0) (.cons (.var 4) (.cons (.var 2) .nil)))))) (.ret (.comp (.one 5) [5] (.irng (.bin .add (.glb 4) (.cst (.int 1)))) (.cst (.bool true)) (.comp (.one 6) [6] (.iseq (.var 3)) (.cst (.bool true)) (.ife (.cmp .eq (.var 6) (.var 5)) (.cst (.int 1)) (.cst (.int 0))))))), true⟩
def d_tests_of : DefA := ⟨(.glo "tests_of"), ⟨("tests_of", none), "tests_of", "tests_of", (top 22), ["shelf", "places", "call", "replies", "place", "reply", "one"]⟩⟩
def f_is_crowd : Fn := ⟨2, 3, [], (.seq (.ift (.or (.not (.isi (.var 1) [.tuple])) (.cmp .ne (.len (.var 1)) (.len (.var 0)))) (.ret (.cst (.bool false))) .skip) (.ret (.bi .all (.comp (.one 2) [2] (.iseq (.var 1)) (.cst (.bool true)) (.call 0 (.cons (.var 2) (.cons (.cst (.int 0)) (.cons (.glb 5) .nil)))))))), false⟩
def d_is_crowd : DefA := ⟨(.glo "is_crowd"), ⟨("is_crowd", none), "is_crowd", "is_crowd", (top 26), ["shelf", "value", "number"]⟩⟩
def f_check_crowd : Fn := ⟨2, 2, [], (.seq (.exp (.call 4 (.cons (.var 0) .nil))) (.ift (.not (.call 11 (.cons (.var 0) (.cons (.var 1) .nil)))) .bad .skip)), false⟩
def d_check_crowd : DefA := ⟨(.glo "check_crowd"), ⟨("check_crowd", none), "check_crowd", "check_crowd", (top 27), ["shelf", "crowd"]⟩⟩
def f_is_call : Fn := ⟨2, 2, [], (.ret (.call 0 (.cons (.var 1) (.cons (.cst (.int 0)) (.cons (.bin .sub (.fld 1 (.var 0)) (.cst (.int 1))) .nil))))), false⟩
def d_is_call : DefA := ⟨(.glo "is_call"), ⟨("is_call", none), "is_call", "is_call", (top 28), ["shelf", "value"]⟩⟩
def b_check_row_0 : S := (.ift (.not (.call 13 (.cons (.var 0) (.cons (.var 3) .nil)))) .bad .skip)
def f_check_row : Fn := ⟨2, 4, [], (.seq (.ift (.or (.not (.isi (.var 1) [.list, .tuple])) (.cmp .gt (.len (.var 1)) (.glb 6))) .bad .skip) (.for_ (.many [2, 3]) (.ienum (.var 1)) b_check_row_0)), false⟩
def d_check_row : DefA := ⟨(.glo "check_row"), ⟨("check_row", none), "check_row", "check_row", (top 29), ["shelf", "row", "index", "call"]⟩⟩
def f_summed : Fn := ⟨2, 4, [], (.ret (.bi .sum (.comp (.many [2, 3]) [2, 3] (.izip (.var 0) (.var 1)) (.cmp .eq (.var 3) (.cst (.int 1))) (.var 2)))), false⟩
def d_summed : DefA := ⟨(.glo "summed"), ⟨("summed", none), "summed", "summed", (top 30), ["vector", "test", "number", "mark"]⟩⟩
def b_heard_by_0 : S := (.seq (.app 5 (.bi .tuple (.comp (.one 6) [6] (.iseq (.call 10 (.cons (.var 0) (.cons (.var 4) (.cons (.var 3) .nil))))) (.cst (.bool true)) (.call 15 (.cons (.var 1) (.cons (.var 6) .nil)))))) (.set 4 (.call 9 (.cons (.var 0) (.cons (.var 4) (.cons (.var 3) .nil))))))
def f_heard_by : Fn := ⟨3, 7, [5], (.seq (.par 4 5 false true (.call 8 (.cons (.var 0) .nil)) (.lst .nil)) (.seq (.for_ (.one 3) (.iseq (.var 2)) b_heard_by_0) (.ret (.mvar 5)))), true⟩
def d_heard_by : DefA := ⟨(.glo "heard_by"), ⟨("heard_by", none), "heard_by", "heard_by", (top 31), ["shelf", "vector", "row", "call", "places", "found", "test"]⟩⟩
def b_moved_0 : S := (.ift (.cmp .notN (.var 5) (.cst .none)) (.ixa 3 (.var 5) (.var 4)) .skip)
def f_moved : Fn := ⟨3, 6, [3], (.seq (.setM 3 (.bin .mul (.lst (.cons (.cst (.int 0)) .nil)) (.len (.var 0)))) (.seq (.for_ (.many [4, 5]) (.izip (.var 1) (.var 2)) b_moved_0) (.ret (.bi .tuple (.var 3))))), false⟩
def d_moved : DefA := ⟨(.glo "moved"), ⟨("moved", none), "moved", "moved", (top 32), ["shelf", "vector", "places", "found", "number", "place"]⟩⟩
def b_places_by_0 : S := (.set 2 (.call 9 (.cons (.var 0) (.cons (.var 2) (.cons (.var 3) .nil)))))
def f_places_by : Fn := ⟨2, 4, [], (.seq (.set 2 (.call 8 (.cons (.var 0) .nil))) (.seq (.for_ (.one 3) (.iseq (.var 1)) b_places_by_0) (.ret (.var 2)))), false⟩
def d_places_by : DefA := ⟨(.glo "places_by"), ⟨("places_by", none), "places_by", "places_by", (top 33), ["shelf", "row", "places", "call"]⟩⟩
def f_heard : Fn := ⟨3, 3, [], (.seq (.exp (.call 12 (.cons (.var 0) (.cons (.var 1) .nil)))) (.seq (.exp (.call 14 (.cons (.var 0) (.cons (.var 2) .nil)))) (.ret (.call 16 (.cons (.var 0) (.cons (.var 1) (.cons (.var 2) .nil))))))), true⟩
def d_heard : DefA := ⟨(.glo "heard"), ⟨("heard", none), "heard", "heard", (top 34), ["shelf", "crowd", "row"]⟩⟩
def f_after : Fn := ⟨3, 3, [], (.seq (.exp (.call 12 (.cons (.var 0) (.cons (.var 1) .nil)))) (.seq (.exp (.call 14 (.cons (.var 0) (.cons (.var 2) .nil)))) (.ret (.call 17 (.cons (.var 0) (.cons (.var 1) (.cons (.call 18 (.cons (.var 0) (.cons (.var 2) .nil))) .nil))))))), false⟩
def d_after : DefA := ⟨(.glo "after"), ⟨("after", none), "after", "after", (top 35), ["shelf", "crowd", "row"]⟩⟩
def f_silenced : Fn := ⟨3, 4, [], (.seq (.set 3 (.call 20 (.cons (.var 0) (.cons (.var 1) (.cons (.var 2) .nil))))) (.ret (.bin .sub (.bi .sum (.var 1)) (.bi .sum (.var 3))))), false⟩
def d_silenced : DefA := ⟨(.glo "silenced"), ⟨("silenced", none), "silenced", "silenced", (top 36), ["shelf", "crowd", "row", "later"]⟩⟩
def f__law_draw : Fn := ⟨3, 4, [], (.seq (.set 3 (.tup (.cons (.cst (.int 1000003)) (.cons (.cst (.int 1000033)) (.cons (.cst (.int 1000037)) (.cons (.cst (.int 1000039)) (.cons (.cst (.int 1000081)) (.cons (.cst (.int 1000099)) (.cons (.cst (.int 1000117)) (.cons (.cst (.int 1000121)) (.cons (.cst (.int 1000133)) (.cons (.cst (.int 1000151)) (.cons (.cst (.int 1000159)) (.cons (.cst (.int 1000171)) (.cons (.cst (.int 1000183)) (.cons (.cst (.int 1000187)) (.cons (.cst (.int 1000193)) (.cons (.cst (.int 1000199)) .nil)))))))))))))))))) (.ret (.bin .mod (.bin .mod (.bi .int (.bin .add (.bin .mul (.var 0) (.cst (.int 48271))) (.bin .mul (.var 1) (.cst (.int 69621))))) (.sub (.var 3) (.bin .mod (.var 1) (.cst (.int 16))))) (.var 2)))), false⟩
def d__law_draw : DefA := ⟨(.glo "_law_draw"), ⟨("_law_draw", none), "_law_draw", "_law_draw", (top 38), ["_law_cell", "_law_k", "_law_many", "_law_primes"]⟩⟩
def f__law_cell_at : Fn := ⟨2, 2, [], (.seq (.ift (.cmp .lt (.var 1) (.len (.var 0))) (.ret (.bi .abs (.sub (.var 0) (.var 1)))) .skip) (.ret (.call 22 (.cons (.bin .add (.bi .abs (.bi .sum (.var 0))) (.bin .mul (.cst (.int 7919)) (.var 1))) (.cons (.var 1) (.cons (.cst (.int 999983)) .nil)))))), false⟩
def d__law_cell_at : DefA := ⟨(.glo "_law_cell_at"), ⟨("_law_cell_at", none), "_law_cell_at", "_law_cell_at", (top 39), ["_law_script", "_law_k"]⟩⟩
def b__law_digits_0 : S := (.ift (.cmp .gt (.var 4) (.cst (.int 0))) (.seq (.app 7 (.bin .mod (.bi .int (.var 4)) (.var 3))) (.set 4 (.bin .fdiv (.var 4) (.var 3)))) (.seq (.set 8 (.call 22 (.cons (.bin .mul (.bin .add (.var 6) (.bin .mul (.cst (.int 977)) (.var 5))) (.bin .add (.bin .add (.var 6) (.bin .mul (.cst (.int 31)) (.var 5))) (.cst (.int 5)))) (.cons (.bin .add (.bin .mod (.var 5) (.cst (.int 9))) (.cst (.int 1))) (.cons (.cst (.int 999983)) .nil))))) (.seq (.set 9 (.call 22 (.cons (.bin .add (.bin .mul (.bin .add (.var 6) (.bin .mul (.cst (.int 31)) (.var 5))) (.bin .add (.var 6) (.cst (.int 7)))) (.bin .mul (.cst (.int 977)) (.var 5))) (.cons (.bin .add (.bin .mod (.var 5) (.cst (.int 7))) (.cst (.int 2))) (.cons (.cst (.int 1000003)) .nil))))) (.app 7 (.bin .mod (.bi .int (.bin .add (.bin .mul (.var 8) (.cst (.int 1000003))) (.var 9))) (.var 3))))))
def f__law_digits : Fn := ⟨4, 10, [7], (.seq (.par 6 7 false true (.call 23 (.cons (.var 0) (.cons (.var 1) .nil))) (.lst .nil)) (.seq (.set 4 (.bin .sub (.var 6) (.bin .pow (.cst (.int 10)) (.cst (.int 18))))) (.seq (.for_ (.one 5) (.irng (.var 2)) b__law_digits_0) (.ret (.mvar 7))))), true⟩
def d__law_digits : DefA := ⟨(.glo "_law_digits"), ⟨("_law_digits", none), "_law_digits", "_law_digits", (top 40), ["_law_script", "_law_at", "_law_many", "_law_base", "_law_remaining", "_law_turn", "_law_cell", "_law_found", "_law_blend", "_law_more"]⟩⟩
def f__law_take : Fn := ⟨2, 2, [], (.ret (.ife (.cmp .ne (.var 0) (.lst .nil)) (.bin .mod (.bi .int (.pop0 (.var 0))) (.var 1)) (.cst (.int 0)))), false⟩
def d__law_take : DefA := ⟨(.glo "_law_take"), ⟨("_law_take", none), "_law_take", "_law_take", (top 41), ["_law_draws", "_law_many"]⟩⟩
def b__law_pool_0 : S := (.setM 2 (.bin .add (.mvar 2) (.call 24 (.cons (.var 0) (.cons (.var 3) (.cons (.cst (.int 150)) (.cons (.var 4) .nil)))))))
def f__law_pool : Fn := ⟨2, 5, [2], (.seq (.setM 2 (.lst .nil)) (.seq (.for_ (.many [3, 4]) (.ienum (.var 1)) b__law_pool_0) (.ret (.mvar 2)))), true⟩
def d__law_pool : DefA := ⟨(.glo "_law_pool"), ⟨("_law_pool", none), "_law_pool", "_law_pool", (top 42), ["_law_script", "_law_bases", "_law_found", "_law_at", "_law_base"]⟩⟩
def b__law_net_0 : S := (.seq (.set 10 (.tup (.cons (.ife (.cmp .eq (.call 25 (.cons (.var 0) (.cons (.cst (.int 2)) .nil))) (.cst (.int 0))) (.call 25 (.cons (.var 0) (.cons (.cst (.int 3)) .nil))) (.cst (.int 0))) (.cons (.call 25 (.cons (.var 0) (.cons (.var 5) .nil))) .nil)))) (.app 8 (.ife (.cmp .eq (.call 25 (.cons (.var 0) (.cons (.cst (.int 6)) .nil))) (.cst (.int 0))) (.cst .none) (.var 10))))
def b__law_net_1 : S := (.seq (.setM 8 (.lst .nil)) (.seq (.for_ (.one 9) (.irng (.var 3)) b__law_net_0) (.app 6 (.bi .tuple (.mvar 8)))))
def b__law_net_2 : S := (.seq (.set 5 (.min2 (.bin .add (.cst (.int 1)) (.call 25 (.cons (.var 0) (.cons (.cst (.int 3)) .nil)))) (.bin .sub (.cst (.int 6)) (.bi .sum (.comp (.one 6) [6] (.iseq (.mvar 4)) (.cst (.bool true)) (.len (.var 6))))))) (.seq (.setM 6 (.lst .nil)) (.seq (.for_ (.one 7) (.irng (.var 5)) b__law_net_1) (.ift (.cmp .ne (.mvar 6) (.lst .nil)) (.app 4 (.bi .tuple (.mvar 6))) .skip))))
def f__law_net : Fn := ⟨2, 11, [4, 6, 8], (.seq (.par 3 4 false true (.bin .add (.cst (.int 1)) (.call 25 (.cons (.var 0) (.cons (.cst (.int 3)) .nil)))) (.lst .nil)) (.seq (.for_ (.one 2) (.irng (.bin .add (.cst (.int 1)) (.call 25 (.cons (.var 0) (.cons (.var 1) .nil))))) b__law_net_2) (.ret (.bi .tuple (.var 4))))), false⟩
def d__law_net : DefA := ⟨(.glo "_law_net"), ⟨("_law_net", none), "_law_net", "_law_net", (top 43), ["_law_draws", "_law_most", "_law_edition", "_law_many", "_law_found", "_law_height", "_law_rows", "_law_state", "_law_entries", "_law_number", "_law_entry"]⟩⟩
def b__law_pairs_0 : S := (.set 1 (.bin .add (.var 1) (.comp (.one 4) [4] (.irng (.len (.var 3))) (.cst (.bool true)) (.tup (.cons (.var 2) (.cons (.var 4) .nil))))))
def f__law_pairs : Fn := ⟨1, 5, [], (.seq (.set 1 (.lst .nil)) (.seq (.for_ (.many [2, 3]) (.ienum (.var 0)) b__law_pairs_0) (.ret (.var 1)))), false⟩
def d__law_pairs : DefA := ⟨(.glo "_law_pairs"), ⟨("_law_pairs", none), "_law_pairs", "_law_pairs", (top 44), ["_law_net_here", "_law_found", "_law_edition", "_law_rows", "_law_state"]⟩⟩
def f__law_step : Fn := ⟨4, 7, [], (.seq (.ift (.cmp .isN (.var 2) (.cst .none)) (.ret (.tup (.cons (.cst .none) (.cons (.cst .none) .nil)))) .skip) (.seq (.unp [5, 6] (.sub (.var 1) (.var 2))) (.seq (.set 4 (.sub (.sub (.sub (.var 0) (.var 5)) (.var 6)) (.var 3))) (.ret (.ife (.cmp .isN (.var 4) (.cst .none)) (.tup (.cons (.cst .none) (.cons (.cst .none) .nil))) (.tup (.cons (.sub (.var 4) (.cst (.int 0))) (.cons (.tix false (.var 1) (.tup (.cons (.var 5) (.cons (.sub (.var 4) (.cst (.int 1))) .nil)))) .nil)))))))), false⟩
def d__law_step : DefA := ⟨(.glo "_law_step"), ⟨("_law_step", none), "_law_step", "_law_step", (top 45), ["_law_net_here", "_law_pairs_here", "_law_place", "_law_number", "_law_entry", "_law_edition", "_law_state"]⟩⟩
def b__law_call_0 : S := (.seq (.unp [8, 9] (.call 29 (.cons (.var 0) (.cons (.var 1) (.cons (.var 6) (.cons (.var 3) .nil)))))) (.ift (.cmp .notN (.var 9) (.cst .none)) (.seq (.ixs 4 (.var 8) (.bin .add (.sub (.mvar 4) (.var 8)) (.var 7))) (.ixs 5 (.var 9) (.bin .add (.sub (.mvar 5) (.var 9)) (.var 7)))) .skip))
def f__law_call : Fn := ⟨4, 10, [4, 5], (.seq (.par 4 5 true true (.lst (.cons (.cst (.int 0)) (.cons (.cst (.int 0)) (.cons (.cst (.int 0)) .nil)))) (.bin .mul (.lst (.cons (.cst (.int 0)) .nil)) (.len (.var 1)))) (.seq (.for_ (.many [6, 7]) (.ienum (.var 2)) b__law_call_0) (.ret (.tup (.cons (.bi .tuple (.var 4)) (.cons (.bi .tuple (.var 5)) .nil)))))), false⟩
def d__law_call : DefA := ⟨(.glo "_law_call"), ⟨("_law_call", none), "_law_call", "_law_call", (top 46), ["_law_net_here", "_law_pairs_here", "_law_vector", "_law_number", "_law_triple", "_law_later", "_law_place", "_law_many", "_law_reply", "_law_there"]⟩⟩
def b__law_along_0 : S := (.seq (.unp [6, 2] (.call 30 (.cons (.var 0) (.cons (.var 1) (.cons (.var 2) (.cons (.var 5) .nil)))))) (.app 4 (.var 6)))
def f__law_along : Fn := ⟨4, 7, [4], (.seq (.setM 4 (.lst .nil)) (.seq (.for_ (.one 5) (.iseq (.var 3)) b__law_along_0) (.ret (.tup (.cons (.var 4) (.cons (.var 2) .nil)))))), false⟩
def d__law_along : DefA := ⟨(.glo "_law_along"), ⟨("_law_along", none), "_law_along", "_law_along", (top 47), ["_law_net_here", "_law_pairs_here", "_law_vector", "_law_row", "_law_found", "_law_number", "_law_triple"]⟩⟩
def b_law_0 : S := (.seq (.set 7 (.bi .tuple (.comp (.one 13) [13] (.iseq (.var 6)) (.cst (.bool true)) (.ife (.cmp .gt (.call 25 (.cons (.var 1) (.cons (.cst (.int 3)) .nil))) (.cst (.int 0))) (.call 25 (.cons (.var 1) (.cons (.cst (.int 21)) .nil))) (.cst (.int 0)))))) (.seq (.set 8 (.comp (.one 12) [12] (.irng (.call 25 (.cons (.var 1) (.cons (.cst (.int 6)) .nil)))) (.cst (.bool true)) (.call 25 (.cons (.var 1) (.cons (.len (.sub (.sub (.var 3) (.cst (.int 0))) (.cst (.int 0)))) .nil))))) (.seq (.unp [10, 11] (.call 31 (.cons (.var 3) (.cons (.var 6) (.cons (.var 7) (.cons (.var 8) .nil)))))) (.seq (.setM 9 (.call 19 (.cons (.var 5) (.cons (.var 7) (.cons (.var 8) .nil))))) (.seq (.ift (.or (.cmp .ne (.mvar 9) (.var 10)) (.or (.cmp .ne (.call 20 (.cons (.var 5) (.cons (.var 7) (.cons (.bi .tuple (.var 8)) .nil)))) (.var 11)) (.cmp .ne (.call 21 (.cons (.var 5) (.cons (.var 7) (.cons (.var 8) .nil)))) (.bin .sub (.bi .sum (.var 7)) (.bi .sum (.var 11)))))) (.ret (.cst (.bool false))) .skip) (.seq (.app 9 (.cst (.int 1))) (.ift (.cmp .ne (.call 19 (.cons (.var 5) (.cons (.var 7) (.cons (.bi .tuple (.var 8)) .nil)))) (.var 10)) (.ret (.cst (.bool false))) .skip)))))))
def b_law_1 : S := (.seq (.set 3 (.call 27 (.cons (.var 1) (.cons (.cst (.int 4)) .nil)))) (.seq (.par 5 6 false false (.mk 0 (.cons (.var 3) .nil)) (.call 28 (.cons (.var 3) .nil))) (.seq (.ift (.or (.cmp .ne (.comp (.one 13) [13] (.iown (.var 5)) (.cst (.bool true)) (.var 13)) (.var 6)) (.or (.cmp .ne (.len (.var 5)) (.len (.var 6))) (.cmp .ne (.meth 4 (.var 5) .nil) (.len (.sub (.sub (.var 3) (.cst (.int 0))) (.cst (.int 0))))))) (.ret (.cst (.bool false))) .skip) (.seq (.ift (.or (.cmp .ne (.prop 3 (.var 5)) (.var 3)) (.eqo true (.var 5) (.mk 0 (.cons (.var 3) .nil)))) (.ret (.cst (.bool false))) .skip) (.seq (.ift (.and (.eqo false (.var 5) (.mk 0 (.cons (.ife (.and (.cmp .lt (.len (.var 3)) (.cst (.int 4))) (.cmp .lt (.bin .add (.len (.var 6)) (.len (.sub (.var 3) (.cst (.int 0))))) (.cst (.int 7)))) (.bin .add (.var 3) (.tup (.cons (.sub (.var 3) (.cst (.int 0))) .nil))) (.tup (.cons (.bin .mul (.tup (.cons (.bin .mul (.tup (.cons (.tup (.cons (.cst (.int 0)) (.cons (.cst (.int 0)) .nil))) .nil)) (.cst (.int 3))) .nil)) (.cst (.int 2))) .nil))) .nil))) (.cmp .ne (.var 3) (.tup (.cons (.bin .mul (.tup (.cons (.bin .mul (.tup (.cons (.tup (.cons (.cst (.int 0)) (.cons (.cst (.int 0)) .nil))) .nil)) (.cst (.int 3))) .nil)) (.cst (.int 2))) .nil)))) (.ret (.cst (.bool false))) .skip) (.for_ (.one 4) (.irng (.cst (.int 4))) b_law_0))))))
def f_law : Fn := ⟨1, 14, [9], (.seq (.set 0 (.slc (.var 0) none (some 63))) (.seq (.setB 1 (.call 26 (.cons (.var 0) (.cons (.tup (.cons (.cst (.int 1009)) (.cons (.cst (.int 1013)) (.cons (.cst (.int 1000033)) .nil)))) .nil)))) (.seq (.for_ (.one 2) (.irng (.cst (.int 4))) b_law_1) (.ret (.cst (.bool true)))))), false⟩
def d_law : DefA := ⟨(.glo "law"), ⟨("law", none), "law", "law", (top 48), ["_law_script", "_law_draws", "_law_turn", "_law_net_here", "_law_more", "_law_shelf", "_law_pairs_here", "_law_crowd", "_law_row", "_law_found", "_law_triples", "_law_later", "_law_turn_here", "_law_pair"]⟩⟩
def b_Shelf___init___0 : S := (.seq (.ift (.or (.cmp .eq (.var 2) (.cst (.int 0))) (.not (.call 2 (.cons (.var 5) (.cons (.var 2) .nil))))) .bad .skip) (.seq (.aug 3 .add (.len (.var 5))) (.ift (.cmp .gt (.var 3) (.glb 2)) .bad .skip)))
def f_Shelf___init__ : Fn := ⟨2, 9, [0, 1000000], (.seq (.ift (.or (.not (.isi (.var 1) [.tuple])) (.not (.chn .le .le (.cst (.int 1)) (.len (.var 1)) (.glb 0)))) .bad .skip) (.seq (.par 2 3 false false (.call 3 (.cons (.var 1) .nil)) (.cst (.int 0))) (.seq (.for_ (.many [4, 5]) (.ienum (.var 1)) b_Shelf___init___0) (.seq (.sfld 0 0 (.var 1)) (.seq (.sfld 0 1 (.var 2)) (.sfld 0 2 (.bi .tupf (.comp2 (.many [7, 8]) (.one 6) [7, 8, 6] [6] (.ienum (.var 1)) (.irng (.len (.var 8))) (.cst (.bool true)) (.tup (.cons (.var 7) (.cons (.var 6) .nil))))))))))), false⟩
def d_Shelf___init__ : DefA := ⟨(.met "Shelf" "__init__"), ⟨("Shelf.__init__", none), "__init__", "Shelf.__init__", (inClass (top 15) 1), ["self", "editions", "calls", "total", "index", "edition", "state", "number", "rows"]⟩⟩
def f_Shelf___len__ : Fn := ⟨1, 1, [], (.ret (.len (.fld 2 (.var 0)))), false⟩
def d_Shelf___len__ : DefA := ⟨(.met "Shelf" "__len__"), ⟨("Shelf.__len__", none), "__len__", "Shelf.__len__", (inClass (top 15) 3), ["self"]⟩⟩
def f_Shelf___eq__ : Fn := ⟨2, 2, [], (.ret (.and (.isi (.var 1) [(.own 0)]) (.cmp .eq (.fld 0 (.var 0)) (.fld 0 (.var 1))))), false⟩
def d_Shelf___eq__ : DefA := ⟨(.met "Shelf" "__eq__"), ⟨("Shelf.__eq__", none), "__eq__", "Shelf.__eq__", (inClass (top 15) 4), ["self", "other"]⟩⟩
def f_Shelf_editions : Fn := ⟨1, 1, [], (.ret (.fld 0 (.var 0))), false⟩
def d_Shelf_editions : DefA := ⟨(.prp "Shelf" "editions"), ⟨("Shelf.editions", none), "editions", "Shelf.editions", (inClass (top 15) 5), ["self"]⟩⟩
def f_Shelf_calls : Fn := ⟨1, 1, [], (.ret (.fld 1 (.var 0))), false⟩
def d_Shelf_calls : DefA := ⟨(.met "Shelf" "calls"), ⟨("Shelf.calls", none), "calls", "Shelf.calls", (inClass (top 15) 6), ["self"]⟩⟩
def prg : Prg := ⟨(([f_is_integer, f_is_entry, f_is_edition, f_calls_in, f_check_shelf, f_entry_at, f_place_after, f_reply_of, f_starts_of, f_places_after, f_tests_of, f_is_crowd, f_check_crowd, f_is_call, f_check_row, f_summed, f_heard_by, f_moved, f_places_by, f_heard] : List Fn) ++ ([f_after, f_silenced, f__law_draw, f__law_cell_at, f__law_digits, f__law_take, f__law_pool, f__law_net, f__law_pairs, f__law_step, f__law_call, f__law_along, f_law, f_Shelf___init__, f_Shelf___len__, f_Shelf___eq__, f_Shelf_editions, f_Shelf_calls] : List Fn)), [⟨33, [0, 1, 2], [(0, 34), (2, 35), (4, 37)], [(3, 36)], some 2⟩], [(.int 4), (.int 3), (.int 6), (.int 3), (.int 2), (.int 20), (.int 12)]⟩
def tab : Tab := ⟨((["is_integer", "is_entry", "is_edition", "calls_in", "check_shelf", "entry_at", "place_after", "reply_of", "starts_of", "places_after", "tests_of", "is_crowd", "check_crowd", "is_call", "check_row", "summed", "heard_by", "moved", "places_by", "heard"] : List Str) ++ (["after", "silenced", "_law_draw", "_law_cell_at", "_law_digits", "_law_take", "_law_pool", "_law_net", "_law_pairs", "_law_step", "_law_call", "_law_along", "law"] : List Str)), ["Shelf"], ["MAX_EDITIONS", "MAX_STATES", "MAX_PAIRS", "MAX_CALLS", "MAX_REPLY", "MAX_COUNT", "MAX_ROW"], ["base", "many", "spots"], ["__len__", "__iter__", "__eq__", "editions", "calls"], prg.fns.map (·.fresh), [["base", "many", "spots"]]⟩
def txt : Txt := ⟨prg, tab, (([d_is_integer, d_is_entry, d_is_edition, d_calls_in, d_check_shelf, d_entry_at, d_place_after, d_reply_of, d_starts_of, d_places_after, d_tests_of, d_is_crowd, d_check_crowd, d_is_call, d_check_row, d_summed, d_heard_by, d_moved, d_places_by, d_heard] : List DefA) ++ ([d_after, d_silenced, d__law_draw, d__law_cell_at, d__law_digits, d__law_take, d__law_pool, d__law_net, d__law_pairs, d__law_step, d__law_call, d__law_along, d_law, d_Shelf___init__, d_Shelf___len__, d_Shelf___eq__, d_Shelf_editions, d_Shelf_calls] : List DefA)), [(0, ⟨(.met "Shelf" "__iter__"), ⟨("Shelf.__iter__", none), "__iter__", "Shelf.__iter__", (inClass (top 15) 2), ["self"]⟩⟩)]⟩
theorem form : txt.formB = true := by decide +kernel
theorem c0 : txt.defB 0 = true := by decide +kernel
theorem c1 : txt.defB 1 = true := by decide +kernel
theorem c2 : txt.defB 2 = true := by decide +kernel
theorem c3 : txt.defB 3 = true := by decide +kernel
theorem c4 : txt.defB 4 = true := by decide +kernel
theorem c5 : txt.defB 5 = true := by decide +kernel
theorem c6 : txt.defB 6 = true := by decide +kernel
theorem c7 : txt.defB 7 = true := by decide +kernel
theorem c8 : txt.defB 8 = true := by decide +kernel
theorem c9 : txt.defB 9 = true := by decide +kernel
theorem c10 : txt.defB 10 = true := by decide +kernel
theorem c11 : txt.defB 11 = true := by decide +kernel
theorem c12 : txt.defB 12 = true := by decide +kernel
theorem c13 : txt.defB 13 = true := by decide +kernel
theorem c14 : txt.defB 14 = true := by decide +kernel
theorem c15 : txt.defB 15 = true := by decide +kernel
theorem c16 : txt.defB 16 = true := by decide +kernel
theorem c17 : txt.defB 17 = true := by decide +kernel
theorem c18 : txt.defB 18 = true := by decide +kernel
theorem c19 : txt.defB 19 = true := by decide +kernel
theorem c20 : txt.defB 20 = true := by decide +kernel
theorem c21 : txt.defB 21 = true := by decide +kernel
theorem c22 : txt.defB 22 = true := by decide +kernel
theorem c23 : txt.defB 23 = true := by decide +kernel
theorem c24 : txt.defB 24 = true := by decide +kernel
theorem c25 : txt.defB 25 = true := by decide +kernel
theorem c26 : txt.defB 26 = true := by decide +kernel
theorem c27 : txt.defB 27 = true := by decide +kernel
theorem c28 : txt.defB 28 = true := by decide +kernel
theorem c29 : txt.defB 29 = true := by decide +kernel
theorem c30 : txt.defB 30 = true := by decide +kernel
theorem c31 : txt.defB 31 = true := by decide +kernel
theorem c32 : txt.defB 32 = true := by decide +kernel
theorem c33 : txt.defB 33 = true := by decide +kernel
theorem c34 : txt.defB 34 = true := by decide +kernel
theorem c35 : txt.defB 35 = true := by decide +kernel
theorem c36 : txt.defB 36 = true := by decide +kernel
theorem c37 : txt.defB 37 = true := by decide +kernel
theorem b0 : d_is_integer.binds (d_is_integer.d.N.take f_is_integer.np) := fun _ _ _ _ _ _ us hl => match us, hl with | [_, _, _], _ => rfl
theorem b1 : d_is_entry.binds (d_is_entry.d.N.take f_is_entry.np) := fun _ _ _ _ _ _ us hl => match us, hl with | [_, _], _ => rfl
theorem b2 : d_is_edition.binds (d_is_edition.d.N.take f_is_edition.np) := fun _ _ _ _ _ _ us hl => match us, hl with | [_, _], _ => rfl
theorem b3 : d_calls_in.binds (d_calls_in.d.N.take f_calls_in.np) := fun _ _ _ _ _ _ us hl => match us, hl with | [_], _ => rfl
theorem b4 : d_check_shelf.binds (d_check_shelf.d.N.take f_check_shelf.np) := fun _ _ _ _ _ _ us hl => match us, hl with | [_], _ => rfl
theorem b5 : d_entry_at.binds (d_entry_at.d.N.take f_entry_at.np) := fun _ _ _ _ _ _ us hl => match us, hl with | [_, _, _], _ => rfl
theorem b6 : d_place_after.binds (d_place_after.d.N.take f_place_after.np) := fun _ _ _ _ _ _ us hl => match us, hl with | [_, _, _], _ => rfl
theorem b7 : d_reply_of.binds (d_reply_of.d.N.take f_reply_of.np) := fun _ _ _ _ _ _ us hl => match us, hl with | [_, _, _], _ => rfl
theorem b8 : d_starts_of.binds (d_starts_of.d.N.take f_starts_of.np) := fun _ _ _ _ _ _ us hl => match us, hl with | [_], _ => rfl
theorem b9 : d_places_after.binds (d_places_after.d.N.take f_places_after.np) := fun _ _ _ _ _ _ us hl => match us, hl with | [_, _, _], _ => rfl
theorem b10 : d_tests_of.binds (d_tests_of.d.N.take f_tests_of.np) := fun _ _ _ _ _ _ us hl => match us, hl with | [_, _, _], _ => rfl
theorem b11 : d_is_crowd.binds (d_is_crowd.d.N.take f_is_crowd.np) := fun _ _ _ _ _ _ us hl => match us, hl with | [_, _], _ => rfl
theorem b12 : d_check_crowd.binds (d_check_crowd.d.N.take f_check_crowd.np) := fun _ _ _ _ _ _ us hl => match us, hl with | [_, _], _ => rfl
theorem b13 : d_is_call.binds (d_is_call.d.N.take f_is_call.np) := fun _ _ _ _ _ _ us hl => match us, hl with | [_, _], _ => rfl
theorem b14 : d_check_row.binds (d_check_row.d.N.take f_check_row.np) := fun _ _ _ _ _ _ us hl => match us, hl with | [_, _], _ => rfl
theorem b15 : d_summed.binds (d_summed.d.N.take f_summed.np) := fun _ _ _ _ _ _ us hl => match us, hl with | [_, _], _ => rfl
theorem b16 : d_heard_by.binds (d_heard_by.d.N.take f_heard_by.np) := fun _ _ _ _ _ _ us hl => match us, hl with | [_, _, _], _ => rfl
theorem b17 : d_moved.binds (d_moved.d.N.take f_moved.np) := fun _ _ _ _ _ _ us hl => match us, hl with | [_, _, _], _ => rfl
theorem b18 : d_places_by.binds (d_places_by.d.N.take f_places_by.np) := fun _ _ _ _ _ _ us hl => match us, hl with | [_, _], _ => rfl
theorem b19 : d_heard.binds (d_heard.d.N.take f_heard.np) := fun _ _ _ _ _ _ us hl => match us, hl with | [_, _, _], _ => rfl
theorem b20 : d_after.binds (d_after.d.N.take f_after.np) := fun _ _ _ _ _ _ us hl => match us, hl with | [_, _, _], _ => rfl
theorem b21 : d_silenced.binds (d_silenced.d.N.take f_silenced.np) := fun _ _ _ _ _ _ us hl => match us, hl with | [_, _, _], _ => rfl
theorem b22 : d__law_draw.binds (d__law_draw.d.N.take f__law_draw.np) := fun _ _ _ _ _ _ us hl => match us, hl with | [_, _, _], _ => rfl
theorem b23 : d__law_cell_at.binds (d__law_cell_at.d.N.take f__law_cell_at.np) := fun _ _ _ _ _ _ us hl => match us, hl with | [_, _], _ => rfl
theorem b24 : d__law_digits.binds (d__law_digits.d.N.take f__law_digits.np) := fun _ _ _ _ _ _ us hl => match us, hl with | [_, _, _, _], _ => rfl
theorem b25 : d__law_take.binds (d__law_take.d.N.take f__law_take.np) := fun _ _ _ _ _ _ us hl => match us, hl with | [_, _], _ => rfl
theorem b26 : d__law_pool.binds (d__law_pool.d.N.take f__law_pool.np) := fun _ _ _ _ _ _ us hl => match us, hl with | [_, _], _ => rfl
theorem b27 : d__law_net.binds (d__law_net.d.N.take f__law_net.np) := fun _ _ _ _ _ _ us hl => match us, hl with | [_, _], _ => rfl
theorem b28 : d__law_pairs.binds (d__law_pairs.d.N.take f__law_pairs.np) := fun _ _ _ _ _ _ us hl => match us, hl with | [_], _ => rfl
theorem b29 : d__law_step.binds (d__law_step.d.N.take f__law_step.np) := fun _ _ _ _ _ _ us hl => match us, hl with | [_, _, _, _], _ => rfl
theorem b30 : d__law_call.binds (d__law_call.d.N.take f__law_call.np) := fun _ _ _ _ _ _ us hl => match us, hl with | [_, _, _, _], _ => rfl
theorem b31 : d__law_along.binds (d__law_along.d.N.take f__law_along.np) := fun _ _ _ _ _ _ us hl => match us, hl with | [_, _, _, _], _ => rfl
theorem b32 : d_law.binds (d_law.d.N.take f_law.np) := fun _ _ _ _ _ _ us hl => match us, hl with | [_], _ => rfl
theorem b33 : d_Shelf___init__.binds (d_Shelf___init__.d.N.take f_Shelf___init__.np) := fun _ _ _ _ _ _ us hl => match us, hl with | [_, _], _ => rfl
theorem b34 : d_Shelf___len__.binds (d_Shelf___len__.d.N.take f_Shelf___len__.np) := fun _ _ _ _ _ _ us hl => match us, hl with | [_], _ => rfl
theorem b35 : d_Shelf___eq__.binds (d_Shelf___eq__.d.N.take f_Shelf___eq__.np) := fun _ _ _ _ _ _ us hl => match us, hl with | [_, _], _ => rfl
theorem b36 : d_Shelf_editions.binds (d_Shelf_editions.d.N.take f_Shelf_editions.np) := fun _ _ _ _ _ _ us hl => match us, hl with | [_], _ => rfl
theorem b37 : d_Shelf_calls.binds (d_Shelf_calls.d.N.take f_Shelf_calls.np) := fun _ _ _ _ _ _ us hl => match us, hl with | [_], _ => rfl
theorem ok : txt.Ok := by
  refine ⟨form, fun i hi => ?_, fun i fn d h1 h2 => ?_, fun q hq => ?_⟩
  · match i, hi with
    | 0, _ => exact c0
    | 1, _ => exact c1
    | 2, _ => exact c2
    | 3, _ => exact c3
    | 4, _ => exact c4
    | 5, _ => exact c5
    | 6, _ => exact c6
    | 7, _ => exact c7
    | 8, _ => exact c8
    | 9, _ => exact c9
    | 10, _ => exact c10
    | 11, _ => exact c11
    | 12, _ => exact c12
    | 13, _ => exact c13
    | 14, _ => exact c14
    | 15, _ => exact c15
    | 16, _ => exact c16
    | 17, _ => exact c17
    | 18, _ => exact c18
    | 19, _ => exact c19
    | 20, _ => exact c20
    | 21, _ => exact c21
    | 22, _ => exact c22
    | 23, _ => exact c23
    | 24, _ => exact c24
    | 25, _ => exact c25
    | 26, _ => exact c26
    | 27, _ => exact c27
    | 28, _ => exact c28
    | 29, _ => exact c29
    | 30, _ => exact c30
    | 31, _ => exact c31
    | 32, _ => exact c32
    | 33, _ => exact c33
    | 34, _ => exact c34
    | 35, _ => exact c35
    | 36, _ => exact c36
    | 37, _ => exact c37
    | n + 38, h => exact absurd h (by show ¬ n + 38 < 38; omega)
  · match i, h1, h2 with
    | 0, h1, h2 => cases h1; cases h2; exact b0
    | 1, h1, h2 => cases h1; cases h2; exact b1
    | 2, h1, h2 => cases h1; cases h2; exact b2
    | 3, h1, h2 => cases h1; cases h2; exact b3
    | 4, h1, h2 => cases h1; cases h2; exact b4
    | 5, h1, h2 => cases h1; cases h2; exact b5
    | 6, h1, h2 => cases h1; cases h2; exact b6
    | 7, h1, h2 => cases h1; cases h2; exact b7
    | 8, h1, h2 => cases h1; cases h2; exact b8
    | 9, h1, h2 => cases h1; cases h2; exact b9
    | 10, h1, h2 => cases h1; cases h2; exact b10
    | 11, h1, h2 => cases h1; cases h2; exact b11
    | 12, h1, h2 => cases h1; cases h2; exact b12
    | 13, h1, h2 => cases h1; cases h2; exact b13
    | 14, h1, h2 => cases h1; cases h2; exact b14
    | 15, h1, h2 => cases h1; cases h2; exact b15
    | 16, h1, h2 => cases h1; cases h2; exact b16
    | 17, h1, h2 => cases h1; cases h2; exact b17
    | 18, h1, h2 => cases h1; cases h2; exact b18
    | 19, h1, h2 => cases h1; cases h2; exact b19
    | 20, h1, h2 => cases h1; cases h2; exact b20
    | 21, h1, h2 => cases h1; cases h2; exact b21
    | 22, h1, h2 => cases h1; cases h2; exact b22
    | 23, h1, h2 => cases h1; cases h2; exact b23
    | 24, h1, h2 => cases h1; cases h2; exact b24
    | 25, h1, h2 => cases h1; cases h2; exact b25
    | 26, h1, h2 => cases h1; cases h2; exact b26
    | 27, h1, h2 => cases h1; cases h2; exact b27
    | 28, h1, h2 => cases h1; cases h2; exact b28
    | 29, h1, h2 => cases h1; cases h2; exact b29
    | 30, h1, h2 => cases h1; cases h2; exact b30
    | 31, h1, h2 => cases h1; cases h2; exact b31
    | 32, h1, h2 => cases h1; cases h2; exact b32
    | 33, h1, h2 => cases h1; cases h2; exact b33
    | 34, h1, h2 => cases h1; cases h2; exact b34
    | 35, h1, h2 => cases h1; cases h2; exact b35
    | 36, h1, h2 => cases h1; cases h2; exact b36
    | 37, h1, h2 => cases h1; cases h2; exact b37
    | n + 38, h1, h2 => cases h1
  · simp only [txt, List.mem_cons, List.not_mem_nil, or_false] at hq
    rcases hq with rfl
    · exact fun _ _ _ _ _ _ us hl => match us, hl with | [_], _ => rfl
end K01

set_option Elab.async false
set_option linter.all false
set_option maxRecDepth 100000
set_option maxHeartbeats 1000000
/-! What the program's defs give. -/
namespace K01
open PySem CC
variable {m : Nat} {n : Net}
theorem isint (k : Nat) (x lo hi : Int) (h : Hb) : (pg prg (k + 1)).call 0 [.int x, .int lo, .int hi] h = .ok (.bl (decide (lo ≤ x) && decide (x ≤ hi))) h := by
  rw [call_eq (fn := f_is_integer) rfl rfl]
  simp only [startE, List.map, List.length, Nat.sub_self, Nat.reduceAdd, Nat.reduceSub, Nat.zero_add, List.replicate, List.append_nil, List.cons_append, List.nil_append, List.getElem?_cons_zero, List.getElem?_cons_succ, R.bind_ok, R.thn_ok, RS.thn_next, RS.thn_ret, outD_ret, outD_next, argsD, putN, List.set_cons_zero, List.set_cons_succ, wipeE, ev_var, ev_mvar, ev_none, ev_bool, ev_int, ev_str, ev_glb, ev_bin, ev_neg, ev_not, ev_and, ev_or, ev_cmp, ev_chn, ev_ife, ev_tup, ev_lst, ev_nil, ev_cons, ev_call, ev_meth, ev_mk, ev_bi, ev_min2, ev_isi, ev_len, ev_sub, ev_slc, ev_fld, ev_prop, ev_eqo, ev_tix, ev_pop0, ev_comp, ev_comp2, ev_iseq, ev_iown, ev_ienum, ev_izip, body_true, ex_skip, ex_seq, ex_set, ex_setM, ex_setB, ex_unp, ex_ixs, ex_ixa, ex_aug, ex_sfld, ex_ift, ex_for, ex_ret, ex_exp, f_is_integer, List.any, isTy, Bool.or_false, Bool.not_false, cmpD]
  by_cases h1 : lo ≤ x
  · simp [h1, startE, List.map, List.length, Nat.sub_self, Nat.reduceAdd, Nat.reduceSub, Nat.zero_add, List.replicate, List.append_nil, List.cons_append, List.nil_append, List.getElem?_cons_zero, List.getElem?_cons_succ, R.bind_ok, R.thn_ok, RS.thn_next, RS.thn_ret, outD_ret, outD_next, argsD, putN, List.set_cons_zero, List.set_cons_succ, wipeE, ev_var, ev_mvar, ev_none, ev_bool, ev_int, ev_str, ev_glb, ev_bin, ev_neg, ev_not, ev_and, ev_or, ev_cmp, ev_chn, ev_ife, ev_tup, ev_lst, ev_nil, ev_cons, ev_call, ev_meth, ev_mk, ev_bi, ev_min2, ev_isi, ev_len, ev_sub, ev_slc, ev_fld, ev_prop, ev_eqo, ev_tix, ev_pop0, ev_comp, ev_comp2, ev_iseq, ev_iown, ev_ienum, ev_izip, body_true, ex_skip, ex_seq, ex_set, ex_setM, ex_setB, ex_unp, ex_ixs, ex_ixa, ex_aug, ex_sfld, ex_ift, ex_for, ex_ret, ex_exp]
  · simp [h1, startE, List.map, List.length, Nat.sub_self, Nat.reduceAdd, Nat.reduceSub, Nat.zero_add, List.replicate, List.append_nil, List.cons_append, List.nil_append, List.getElem?_cons_zero, List.getElem?_cons_succ, R.bind_ok, R.thn_ok, RS.thn_next, RS.thn_ret, outD_ret, outD_next, argsD, putN, List.set_cons_zero, List.set_cons_succ, wipeE, ev_var, ev_mvar, ev_none, ev_bool, ev_int, ev_str, ev_glb, ev_bin, ev_neg, ev_not, ev_and, ev_or, ev_cmp, ev_chn, ev_ife, ev_tup, ev_lst, ev_nil, ev_cons, ev_call, ev_meth, ev_mk, ev_bi, ev_min2, ev_isi, ev_len, ev_sub, ev_slc, ev_fld, ev_prop, ev_eqo, ev_tix, ev_pop0, ev_comp, ev_comp2, ev_iseq, ev_iown, ev_ienum, ev_izip, body_true, ex_skip, ex_seq, ex_set, ex_setM, ex_setB, ex_unp, ex_ixs, ex_ixa, ex_aug, ex_sfld, ex_ift, ex_for, ex_ret, ex_exp]
theorem glb_ok (k g : Nat) : (pg prg k).glb g = prg.glb[g]? := pg_glb prg k g
theorem ix0 {l : Nat} (h : 0 < l) : L2.ixN l 0 = some 0 := by
  simp only [L2.ixN, Int.le_refl, if_true]
  rw [if_pos (by omega)]
  rfl
theorem ixn {l j : Nat} (h : j < l) : L2.ixN l (j : Int) = some j := by
  simp only [L2.ixN]
  rw [if_pos (by omega), if_pos (by omega)]
  simp
theorem is_entry (k : Nat) (e : Ent) (st : Nat) (h : Hb) (ok : ∀ a b, e = some (a, b) → a ≤ 2 ∧ b < st) : (pg prg (k + 2)).call 1 [encE e, .int st] h = .ok (.bl true) h := by
  cases e with
  | none =>
    rw [call_eq (fn := f_is_entry) rfl rfl]
    simp only [startE, List.map, List.length, Nat.sub_self, Nat.reduceAdd, Nat.reduceSub, Nat.zero_add, List.replicate, List.append_nil, List.cons_append, List.nil_append, List.getElem?_cons_zero, List.getElem?_cons_succ, R.bind_ok, R.thn_ok, RS.thn_next, RS.thn_ret, outD_ret, outD_next, argsD, putN, List.set_cons_zero, List.set_cons_succ, wipeE, ev_var, ev_mvar, ev_none, ev_bool, ev_int, ev_str, ev_glb, ev_bin, ev_neg, ev_not, ev_and, ev_or, ev_cmp, ev_chn, ev_ife, ev_tup, ev_lst, ev_nil, ev_cons, ev_call, ev_meth, ev_mk, ev_bi, ev_min2, ev_isi, ev_len, ev_sub, ev_slc, ev_fld, ev_prop, ev_eqo, ev_tix, ev_pop0, ev_comp, ev_comp2, ev_iseq, ev_iown, ev_ienum, ev_izip, body_true, ex_skip, ex_seq, ex_set, ex_setM, ex_setB, ex_unp, ex_ixs, ex_ixa, ex_aug, ex_sfld, ex_ift, ex_for, ex_ret, ex_exp, f_is_entry, cmpD, D.isN, encE]
  | some x =>
    obtain ⟨a, b⟩ := x
    obtain ⟨h1, h2⟩ := ok a b rfl
    have d2 : dEq (.int 2) (.int 2) = some true := dEq_same (cln_int _ _)
    have g4 : prg.glb[4]? = some (.int 2) := rfl
    have i0 : L2.ixN 2 0 = some 0 := rfl
    have i1 : L2.ixN 2 1 = some 1 := rfl
    rw [call_eq (fn := f_is_entry) rfl rfl]
    simp only [startE, List.map, List.length, Nat.sub_self, Nat.reduceAdd, Nat.reduceSub, Nat.zero_add, List.replicate, List.append_nil, List.cons_append, List.nil_append, List.getElem?_cons_zero, List.getElem?_cons_succ, R.bind_ok, R.thn_ok, RS.thn_next, RS.thn_ret, outD_ret, outD_next, argsD, putN, List.set_cons_zero, List.set_cons_succ, wipeE, ev_var, ev_mvar, ev_none, ev_bool, ev_int, ev_str, ev_glb, ev_bin, ev_neg, ev_not, ev_and, ev_or, ev_cmp, ev_chn, ev_ife, ev_tup, ev_lst, ev_nil, ev_cons, ev_call, ev_meth, ev_mk, ev_bi, ev_min2, ev_isi, ev_len, ev_sub, ev_slc, ev_fld, ev_prop, ev_eqo, ev_tix, ev_pop0, ev_comp, ev_comp2, ev_iseq, ev_iown, ev_ienum, ev_izip, body_true, ex_skip, ex_seq, ex_set, ex_setM, ex_setB, ex_unp, ex_ixs, ex_ixa, ex_aug, ex_sfld, ex_ift, ex_for, ex_ret, ex_exp, f_is_entry, cmpD, D.isN, encE, List.any, isTy, Bool.or_false, Bool.not_true, lenD, viewD, subD, Int.ofNat_eq_natCast, Int.cast_ofNat_Int, d2, glb_ok, g4, i0, i1, isint, binD]
    have e1 : (decide ((0 : Int) ≤ (a : Int)) && decide ((a : Int) ≤ 2)) = true := by simp; omega
    have e2 : (decide ((0 : Int) ≤ (b : Int)) && decide ((b : Int) ≤ (st : Int) - 1)) = true := by simp; omega
    simp only [e1, e2, startE, List.map, List.length, Nat.sub_self, Nat.reduceAdd, Nat.reduceSub, Nat.zero_add, List.replicate, List.append_nil, List.cons_append, List.nil_append, List.getElem?_cons_zero, List.getElem?_cons_succ, R.bind_ok, R.thn_ok, RS.thn_next, RS.thn_ret, outD_ret, outD_next, argsD, putN, List.set_cons_zero, List.set_cons_succ, wipeE, ev_var, ev_mvar, ev_none, ev_bool, ev_int, ev_str, ev_glb, ev_bin, ev_neg, ev_not, ev_and, ev_or, ev_cmp, ev_chn, ev_ife, ev_tup, ev_lst, ev_nil, ev_cons, ev_call, ev_meth, ev_mk, ev_bi, ev_min2, ev_isi, ev_len, ev_sub, ev_slc, ev_fld, ev_prop, ev_eqo, ev_tix, ev_pop0, ev_comp, ev_comp2, ev_iseq, ev_iown, ev_ienum, ev_izip, body_true, ex_skip, ex_seq, ex_set, ex_setM, ex_setB, ex_unp, ex_ixs, ex_ixa, ex_aug, ex_sfld, ex_ift, ex_for, ex_ret, ex_exp]

theorem bools_map {α : Type} (p : α → Bool) : ∀ l : List α, bools (l.map fun a => .bl (p a)) = some (l.map p)
  | [] => rfl
  | a :: r => by
    show (bools (r.map fun a => .bl (p a))).map (p a :: ·) = _
    rw [bools_map p r]
    rfl
theorem all_true {α : Type} (l : List α) : ((l.map fun _ => true).all id) = true := by simp
theorem dEq_nat (a b : Nat) (h : a = b) : dEq (.int a) (.int b) = some true := by
  subst h
  exact dEq_same (cln_int _ _)
theorem edition_row (k : Nat) (e : List (List Ent)) (x y : Option D) (h : Hb) (hm : m ≤ 3) (ok : EdOk m e) (r : List Ent) (hr : r ∈ e) :
    exc (pg prg (k + 2)) b_is_edition_0 [some (encN e), some (.int m), some (encR r), y] h = .next [some (encN e), some (.int m), some (encR r), y] h := by
  obtain ⟨h1, h2⟩ := ok.row r hr
  have d1 := dEq_nat r.length m h1
  simp only [startE, List.map, List.length, Nat.sub_self, Nat.reduceAdd, Nat.reduceSub, Nat.zero_add, List.replicate, List.append_nil, List.cons_append, List.nil_append, List.getElem?_cons_zero, List.getElem?_cons_succ, R.bind_ok, R.thn_ok, RS.thn_next, RS.thn_ret, outD_ret, outD_next, argsD, putN, List.set_cons_zero, List.set_cons_succ, wipeE, ev_var, ev_mvar, ev_none, ev_bool, ev_int, ev_str, ev_glb, ev_bin, ev_neg, ev_not, ev_and, ev_or, ev_cmp, ev_chn, ev_ife, ev_tup, ev_lst, ev_nil, ev_cons, ev_call, ev_meth, ev_mk, ev_bi, ev_min2, ev_isi, ev_len, ev_sub, ev_slc, ev_fld, ev_prop, ev_eqo, ev_tix, ev_pop0, ev_comp, ev_comp2, ev_iseq, ev_iown, ev_ienum, ev_izip, body_true, ex_skip, ex_seq, ex_set, ex_setM, ex_setB, ex_unp, ex_ixs, ex_ixa, ex_aug, ex_sfld, ex_ift, ex_for, ex_ret, ex_exp, b_is_edition_0, cmpD, encR, List.any, isTy, Bool.or_false, Bool.not_true, lenD, viewD, List.length_map, d1, iterD]
  rw [catL_one (g := encE) (F := fun _ => .bl true) r (fun a ha => by
    rw [compF_put _ _ _ rfl]
    simp only [startE, List.map, List.length, Nat.sub_self, Nat.reduceAdd, Nat.reduceSub, Nat.zero_add, List.replicate, List.append_nil, List.cons_append, List.nil_append, List.getElem?_cons_zero, List.getElem?_cons_succ, R.bind_ok, R.thn_ok, RS.thn_next, RS.thn_ret, outD_ret, outD_next, argsD, putN, List.set_cons_zero, List.set_cons_succ, wipeE, ev_var, ev_mvar, ev_none, ev_bool, ev_int, ev_str, ev_glb, ev_bin, ev_neg, ev_not, ev_and, ev_or, ev_cmp, ev_chn, ev_ife, ev_tup, ev_lst, ev_nil, ev_cons, ev_call, ev_meth, ev_mk, ev_bi, ev_min2, ev_isi, ev_len, ev_sub, ev_slc, ev_fld, ev_prop, ev_eqo, ev_tix, ev_pop0, ev_comp, ev_comp2, ev_iseq, ev_iown, ev_ienum, ev_izip, body_true, ex_skip, ex_seq, ex_set, ex_setM, ex_setB, ex_unp, ex_ixs, ex_ixa, ex_aug, ex_sfld, ex_ift, ex_for, ex_ret, ex_exp, lenD, viewD, encN, List.length_map]
    rw [is_entry k a e.length h fun x y z => h2 a ha x y z]
    rfl)]
  simp only [startE, List.map, List.length, Nat.sub_self, Nat.reduceAdd, Nat.reduceSub, Nat.zero_add, List.replicate, List.append_nil, List.cons_append, List.nil_append, List.getElem?_cons_zero, List.getElem?_cons_succ, R.bind_ok, R.thn_ok, RS.thn_next, RS.thn_ret, outD_ret, outD_next, argsD, putN, List.set_cons_zero, List.set_cons_succ, wipeE, ev_var, ev_mvar, ev_none, ev_bool, ev_int, ev_str, ev_glb, ev_bin, ev_neg, ev_not, ev_and, ev_or, ev_cmp, ev_chn, ev_ife, ev_tup, ev_lst, ev_nil, ev_cons, ev_call, ev_meth, ev_mk, ev_bi, ev_min2, ev_isi, ev_len, ev_sub, ev_slc, ev_fld, ev_prop, ev_eqo, ev_tix, ev_pop0, ev_comp, ev_comp2, ev_iseq, ev_iown, ev_ienum, ev_izip, body_true, ex_skip, ex_seq, ex_set, ex_setM, ex_setB, ex_unp, ex_ixs, ex_ixa, ex_aug, ex_sfld, ex_ift, ex_for, ex_ret, ex_exp]
  rw [longD_ok (by rw [List.length_map]; omega)]
  simp only [startE, List.map, List.length, Nat.sub_self, Nat.reduceAdd, Nat.reduceSub, Nat.zero_add, List.replicate, List.append_nil, List.cons_append, List.nil_append, List.getElem?_cons_zero, List.getElem?_cons_succ, R.bind_ok, R.thn_ok, RS.thn_next, RS.thn_ret, outD_ret, outD_next, argsD, putN, List.set_cons_zero, List.set_cons_succ, wipeE, ev_var, ev_mvar, ev_none, ev_bool, ev_int, ev_str, ev_glb, ev_bin, ev_neg, ev_not, ev_and, ev_or, ev_cmp, ev_chn, ev_ife, ev_tup, ev_lst, ev_nil, ev_cons, ev_call, ev_meth, ev_mk, ev_bi, ev_min2, ev_isi, ev_len, ev_sub, ev_slc, ev_fld, ev_prop, ev_eqo, ev_tix, ev_pop0, ev_comp, ev_comp2, ev_iseq, ev_iown, ev_ienum, ev_izip, body_true, ex_skip, ex_seq, ex_set, ex_setM, ex_setB, ex_unp, ex_ixs, ex_ixa, ex_aug, ex_sfld, ex_ift, ex_for, ex_ret, ex_exp, biD, bools_map fun _ : Ent => true, all_true, Bool.not_true]
theorem is_edition (k : Nat) (e : List (List Ent)) (h : Hb) (hm : m ≤ 3) (ok : EdOk m e) : (pg prg (k + 3)).call 2 [encN e, .int m] h = .ok (.bl true) h := by
  rw [call_eq (fn := f_is_edition) rfl rfl]
  have g1 : prg.glb[1]? = some (.int 3) := rfl
  have := ok.lo
  have := ok.hi
  have c1 : decide ((1 : Int) ≤ (e.length : Int)) = true := by simp; omega
  have c2 : decide ((e.length : Int) ≤ 3) = true := by simp; omega
  simp only [startE, List.map, List.length, Nat.sub_self, Nat.reduceAdd, Nat.reduceSub, Nat.zero_add, List.replicate, List.append_nil, List.cons_append, List.nil_append, List.getElem?_cons_zero, List.getElem?_cons_succ, R.bind_ok, R.thn_ok, RS.thn_next, RS.thn_ret, outD_ret, outD_next, argsD, putN, List.set_cons_zero, List.set_cons_succ, wipeE, ev_var, ev_mvar, ev_none, ev_bool, ev_int, ev_str, ev_glb, ev_bin, ev_neg, ev_not, ev_and, ev_or, ev_cmp, ev_chn, ev_ife, ev_tup, ev_lst, ev_nil, ev_cons, ev_call, ev_meth, ev_mk, ev_bi, ev_min2, ev_isi, ev_len, ev_sub, ev_slc, ev_fld, ev_prop, ev_eqo, ev_tix, ev_pop0, ev_comp, ev_comp2, ev_iseq, ev_iown, ev_ienum, ev_izip, body_true, ex_skip, ex_seq, ex_set, ex_setM, ex_setB, ex_unp, ex_ixs, ex_ixa, ex_aug, ex_sfld, ex_ift, ex_for, ex_ret, ex_exp, f_is_edition, cmpD, encN, List.any, isTy, Bool.or_false, Bool.not_true, lenD, viewD, List.length_map, glb_ok, g1, c1, c2, iterD]
  obtain ⟨e', h', q1, q2⟩ := forL_inv (f := fBody (pg prg (k + 2)) (.one 2) b_is_edition_0) (fun _ e1 h1 => ∃ z, e1 = [some (encN e), some (.int m), z, none] ∧ h1 = h) (e.map encR) 0 [some (encN e), some (.int m), none, none] h ⟨_, rfl, rfl⟩ (fun i d e1 h1 hd p => by
    obtain ⟨z, rfl, rfl⟩ := p
    rw [List.getElem?_map, Option.map_eq_some_iff] at hd
    obtain ⟨r, hr, rfl⟩ := hd
    refine ⟨_, _, ?_, some (encR r), rfl, rfl⟩
    rw [fBody_put _ _ _ rfl]
    exact edition_row k e none none h1 hm ok r (List.mem_of_getElem? hr))
  obtain ⟨z, rfl, rfl⟩ := q2
  simp only [encN] at q1
  rw [q1]
  simp only [startE, List.map, List.length, Nat.sub_self, Nat.reduceAdd, Nat.reduceSub, Nat.zero_add, List.replicate, List.append_nil, List.cons_append, List.nil_append, List.getElem?_cons_zero, List.getElem?_cons_succ, R.bind_ok, R.thn_ok, RS.thn_next, RS.thn_ret, outD_ret, outD_next, argsD, putN, List.set_cons_zero, List.set_cons_succ, wipeE, ev_var, ev_mvar, ev_none, ev_bool, ev_int, ev_str, ev_glb, ev_bin, ev_neg, ev_not, ev_and, ev_or, ev_cmp, ev_chn, ev_ife, ev_tup, ev_lst, ev_nil, ev_cons, ev_call, ev_meth, ev_mk, ev_bi, ev_min2, ev_isi, ev_len, ev_sub, ev_slc, ev_fld, ev_prop, ev_eqo, ev_tix, ev_pop0, ev_comp, ev_comp2, ev_iseq, ev_iown, ev_ienum, ev_izip, body_true, ex_skip, ex_seq, ex_set, ex_setM, ex_setB, ex_unp, ex_ixs, ex_ixa, ex_aug, ex_sfld, ex_ift, ex_for, ex_ret, ex_exp]
end K01

set_option Elab.async false
set_option linter.all false
set_option maxRecDepth 100000
set_option maxHeartbeats 1000000
/-! What the program's defs give: shelves. -/
namespace K01
open PySem CC
variable {m : Nat} {n : Net}
theorem subT {l : List D} {j : Nat} {d : D} {h : Hb} (hd : l[j]? = some d) : subD (.tup l) (.int j) h = .ok d h := by
  have hl := (List.getElem?_eq_some_iff.mp hd).1
  simp only [subD, viewD, ixn hl, hd]
theorem subT0 {l : List D} {d : D} {h : Hb} (hd : l[(0 : Nat)]? = some d) : subD (.tup l) (.int 0) h = .ok d h := subT (j := 0) hd
theorem subF {l : List D} {j : Nat} {d : D} {h : Hb} (hd : l[j]? = some d) : subD (.ft l) (.int j) h = .ok d h := by
  have hl := (List.getElem?_eq_some_iff.mp hd).1
  simp only [subD, viewD, ixn hl, hd]
theorem calls_in (k : Nat) (h : Hb) (ok : NetOk m n) : (pg prg (k + 1)).call 3 [encT n] h = .ok (.int m) h := by
  obtain ⟨e, r, rfl⟩ : ∃ e r, n = e :: r := by
    cases n with
    | nil => have := ok.n1; simp at this
    | cons e r => exact ⟨e, r, rfl⟩
  have eo := ok.ed e List.mem_cons_self
  obtain ⟨w, q, rfl⟩ : ∃ w q, e = w :: q := by
    cases e with
    | nil => have := eo.lo; simp at this
    | cons e r => exact ⟨e, r, rfl⟩
  have hw := (eo.row w List.mem_cons_self).1
  have g3 : prg.glb[3]? = some (.int 3) := rfl
  have := ok.m3
  have c : decide ((w.length : Int) ≤ 3) = true := by simp; omega
  have d0 : dEq (.tup (encR w :: q.map encR)) (.tup []) = some false := dEq_diff (cln_le (cln_N (w :: q)) (by decide)) (by decide) (by simp)
  rw [call_eq (fn := f_calls_in) rfl rfl]
  have s1 : ∀ h, subD (.tup (encN (w :: q) :: r.map encN)) (.int 0) h = .ok (encN (w :: q)) h := fun h => subT0 rfl
  have s2 : ∀ h, subD (encN (w :: q)) (.int 0) h = .ok (encR w) h := fun h => subT0 rfl
  have t1 : isTy .tuple (encN (w :: q)) = true := rfl
  have t2 : isTy .tuple (encR w) = true := rfl
  have l2 : ∀ h, lenD (pg prg k) (encR w) h = .ok (.int w.length) h := fun h => by simp only [lenD, viewD, encR, List.length_map]
  simp only [startE, List.map, List.length, Nat.sub_self, Nat.reduceAdd, Nat.reduceSub, Nat.zero_add, List.replicate, List.append_nil, List.cons_append, List.nil_append, List.getElem?_cons_zero, List.getElem?_cons_succ, R.bind_ok, R.thn_ok, RS.thn_next, RS.thn_ret, outD_ret, outD_next, argsD, putN, List.set_cons_zero, List.set_cons_succ, wipeE, ev_var, ev_mvar, ev_none, ev_bool, ev_int, ev_str, ev_glb, ev_bin, ev_neg, ev_not, ev_and, ev_or, ev_cmp, ev_chn, ev_ife, ev_tup, ev_lst, ev_nil, ev_cons, ev_call, ev_meth, ev_mk, ev_bi, ev_min2, ev_isi, ev_len, ev_sub, ev_slc, ev_fld, ev_prop, ev_eqo, ev_tix, ev_pop0, ev_comp, ev_comp2, ev_iseq, ev_iown, ev_ienum, ev_izip, body_true, ex_skip, ex_seq, ex_set, ex_setM, ex_setB, ex_unp, ex_ixs, ex_ixa, ex_aug, ex_sfld, ex_ift, ex_for, ex_ret, ex_exp, f_calls_in, encT, s1, s2, List.any, t1, t2, Bool.or_false, Bool.not_true, cmpD]
  have v1 : viewD h (encN (w :: q)) = .tup (encR w :: q.map encR) := rfl
  have v2 : viewD h (.tup []) = .tup [] := rfl
  simp only [v1, v2, d0, startE, List.map, List.length, Nat.sub_self, Nat.reduceAdd, Nat.reduceSub, Nat.zero_add, List.replicate, List.append_nil, List.cons_append, List.nil_append, List.getElem?_cons_zero, List.getElem?_cons_succ, R.bind_ok, R.thn_ok, RS.thn_next, RS.thn_ret, outD_ret, outD_next, argsD, putN, List.set_cons_zero, List.set_cons_succ, wipeE, ev_var, ev_mvar, ev_none, ev_bool, ev_int, ev_str, ev_glb, ev_bin, ev_neg, ev_not, ev_and, ev_or, ev_cmp, ev_chn, ev_ife, ev_tup, ev_lst, ev_nil, ev_cons, ev_call, ev_meth, ev_mk, ev_bi, ev_min2, ev_isi, ev_len, ev_sub, ev_slc, ev_fld, ev_prop, ev_eqo, ev_tix, ev_pop0, ev_comp, ev_comp2, ev_iseq, ev_iown, ev_ienum, ev_izip, body_true, ex_skip, ex_seq, ex_set, ex_setM, ex_setB, ex_unp, ex_ixs, ex_ixa, ex_aug, ex_sfld, ex_ift, ex_for, ex_ret, ex_exp, s1, s2, l2, List.any, t1, t2, Bool.or_false, Bool.not_true, cmpD, glb_ok, g3, c]
  rw [hw]
theorem enum_spots {F : D → Hb → R (List D)} {h : Hb} : ∀ (n : Net) (i : Nat), (∀ (j : Nat) (e : List (List Ent)), e ∈ n → F (.tup [.int j, encN e]) h = .ok ((List.range e.length).map fun s => encP (j, s)) h) → catL F (enumD i (n.map encN)) h = .ok ((spotsF i n).map encP) h
  | [], i, _ => rfl
  | e :: r, i, hF => by
    show ((F (.tup [.int i, encN e]) h).bind fun a h => (catL F (enumD (i + 1) (r.map encN)) h).bind fun l h => R.ok (a ++ l) h) = _
    rw [hF i e List.mem_cons_self, R.bind_ok, enum_spots r (i + 1) fun j e he => hF j e (List.mem_cons_of_mem _ he), R.bind_ok]
    simp only [spotsF, List.map_append, List.map_map]
    rfl
theorem enum_get : ∀ (l : List D) (i j : Nat) (d : D), (enumD i l)[j]? = some d → ∃ x, l[j]? = some x ∧ d = .tup [.int (i + j : Nat), x]
  | [], i, j, d, h => by simp [enumD] at h
  | a :: r, i, 0, d, h => by
    have h : some (D.tup [.int i, a]) = some d := h
    cases h
    exact ⟨a, rfl, rfl⟩
  | a :: r, i, j + 1, d, h => by
    obtain ⟨x, h1, h2⟩ := enum_get r (i + 1) j d (by simpa [enumD] using h)
    refine ⟨x, by simpa using h1, ?_⟩
    rw [h2, show i + 1 + j = i + (j + 1) from by omega]
theorem enum_len : ∀ (l : List D) (i : Nat), (enumD i l).length = l.length
  | [], _ => rfl
  | _ :: r, i => by simp [enumD, enum_len r (i + 1)]
theorem seq_tup (l : List D) : seqD (.tup l) = some l := rfl
/-- the number of states of the first editions -/
def upto (n : Net) (i : Nat) : Nat := ((n.take i).map List.length).sum
theorem upto_le (n : Net) (i : Nat) : upto n i ≤ (n.map List.length).sum := by
  unfold upto
  rw [← List.take_append_drop i n, List.map_append, List.sum_append]
  simp
theorem upto_succ {n : Net} {i : Nat} {e : List (List Ent)} (h : n[i]? = some e) : upto n (i + 1) = upto n i + e.length := by
  unfold upto
  rw [List.take_succ, h]
  simp
theorem shelf_body (k : Nat) (h : Hb) (ok : NetOk m n) (i : Nat) (e : List (List Ent)) (he : n[i]? = some e) :
    exc (pg prg (k + 3)) b_Shelf___init___0 [some (.ins 0 []), some (encT n), some (.int m), some (.int (upto n i : Nat)), some (.int i), some (encN e), none, none, none] h = .next [some (.ins 0 []), some (encT n), some (.int m), some (.int (upto n (i + 1) : Nat)), some (.int i), some (encN e), none, none, none] h := by
  have eo := ok.ed e (List.mem_of_getElem? he)
  have hm : m ≤ 3 := ok.m3
  have m1 := ok.m1
  have d0 : dEq (.int m) (.int 0) = some false := dEq_diff (cln_int _ _) (cln_int _ _) (by simp; omega)
  have l2 : ∀ h, lenD (pg prg (k + 3)) (encN e) h = .ok (.int e.length) h := fun h => by simp only [lenD, viewD, encN, List.length_map]
  have g2 : prg.glb[2]? = some (.int 6) := rfl
  have us := upto_succ he
  have ul := upto_le n (i + 1)
  have := ok.tot
  have c : decide ((6 : Int) < (upto n i : Int) + (e.length : Int)) = false := by simp; omega
  simp only [startE, List.map, List.length, Nat.sub_self, Nat.reduceAdd, Nat.reduceSub, Nat.zero_add, List.replicate, List.append_nil, List.cons_append, List.nil_append, List.getElem?_cons_zero, List.getElem?_cons_succ, R.bind_ok, R.thn_ok, RS.thn_next, RS.thn_ret, outD_ret, outD_next, argsD, putN, List.set_cons_zero, List.set_cons_succ, wipeE, ev_var, ev_mvar, ev_none, ev_bool, ev_int, ev_str, ev_glb, ev_bin, ev_neg, ev_not, ev_and, ev_or, ev_cmp, ev_chn, ev_ife, ev_tup, ev_lst, ev_nil, ev_cons, ev_call, ev_meth, ev_mk, ev_bi, ev_min2, ev_isi, ev_len, ev_sub, ev_slc, ev_fld, ev_prop, ev_eqo, ev_tix, ev_pop0, ev_comp, ev_comp2, ev_iseq, ev_iown, ev_ienum, ev_izip, body_true, ex_skip, ex_seq, ex_set, ex_setM, ex_setB, ex_unp, ex_ixs, ex_ixa, ex_aug, ex_sfld, ex_ift, ex_for, ex_ret, ex_exp, b_Shelf___init___0, cmpD, viewD, d0, is_edition k e h hm eo, Bool.not_true, l2, binD, glb_ok, g2, c, us]
  rfl
theorem mk_shelf (k : Nat) (h : Hb) (ok : NetOk m n) : (pg prg (k + 4)).make 0 [encT n] h = .ok (shD m n) h := by
  rw [make_eq (cl := ⟨33, [0, 1, 2], [(0, 34), (2, 35), (4, 37)], [(3, 36)], some 2⟩) (fn := f_Shelf___init__) rfl rfl rfl]
  have g0 : prg.glb[0]? = some (.int 4) := rfl
  have := ok.n1
  have := ok.n4
  have c1 : decide ((1 : Int) ≤ (n.length : Int)) = true := by simp; omega
  have c2 : decide ((n.length : Int) ≤ 4) = true := by simp; omega
  have l0 : ∀ h, lenD (pg prg (k + 3)) (encT n) h = .ok (.int n.length) h := fun h => by simp only [lenD, viewD, encT, List.length_map]
  have t0 : isTy .tuple (encT n) = true := rfl
  have ci : (pg prg (k + 3)).call 3 [encT n] h = .ok (.int m) h := calls_in (k + 2) h ok
  have sq : seqD (encT n) = some (n.map encN) := rfl
  simp only [startE, List.map, List.length, Nat.sub_self, Nat.reduceAdd, Nat.reduceSub, Nat.zero_add, List.replicate, List.append_nil, List.cons_append, List.nil_append, List.getElem?_cons_zero, List.getElem?_cons_succ, R.bind_ok, R.thn_ok, RS.thn_next, RS.thn_ret, outD_ret, outD_next, argsD, putN, List.set_cons_zero, List.set_cons_succ, wipeE, ev_var, ev_mvar, ev_none, ev_bool, ev_int, ev_str, ev_glb, ev_bin, ev_neg, ev_not, ev_and, ev_or, ev_cmp, ev_chn, ev_ife, ev_tup, ev_lst, ev_nil, ev_cons, ev_call, ev_meth, ev_mk, ev_bi, ev_min2, ev_isi, ev_len, ev_sub, ev_slc, ev_fld, ev_prop, ev_eqo, ev_tix, ev_pop0, ev_comp, ev_comp2, ev_iseq, ev_iown, ev_ienum, ev_izip, body_true, ex_skip, ex_seq, ex_set, ex_setM, ex_setB, ex_unp, ex_ixs, ex_ixa, ex_aug, ex_sfld, ex_ift, ex_for, ex_ret, ex_exp, f_Shelf___init__, List.any, t0, Bool.or_false, Bool.not_true, l0, cmpD, glb_ok, g0, c1, c2]
  rw [par_ff (x := .int m) (y := .int 0) (h1 := h) (h2 := h) (by simp only [startE, List.map, List.length, Nat.sub_self, Nat.reduceAdd, Nat.reduceSub, Nat.zero_add, List.replicate, List.append_nil, List.cons_append, List.nil_append, List.getElem?_cons_zero, List.getElem?_cons_succ, R.bind_ok, R.thn_ok, RS.thn_next, RS.thn_ret, outD_ret, outD_next, argsD, putN, List.set_cons_zero, List.set_cons_succ, wipeE, ev_var, ev_mvar, ev_none, ev_bool, ev_int, ev_str, ev_glb, ev_bin, ev_neg, ev_not, ev_and, ev_or, ev_cmp, ev_chn, ev_ife, ev_tup, ev_lst, ev_nil, ev_cons, ev_call, ev_meth, ev_mk, ev_bi, ev_min2, ev_isi, ev_len, ev_sub, ev_slc, ev_fld, ev_prop, ev_eqo, ev_tix, ev_pop0, ev_comp, ev_comp2, ev_iseq, ev_iown, ev_ienum, ev_izip, body_true, ex_skip, ex_seq, ex_set, ex_setM, ex_setB, ex_unp, ex_ixs, ex_ixa, ex_aug, ex_sfld, ex_ift, ex_for, ex_ret, ex_exp, ci]) rfl]
  simp only [startE, List.map, List.length, Nat.sub_self, Nat.reduceAdd, Nat.reduceSub, Nat.zero_add, List.replicate, List.append_nil, List.cons_append, List.nil_append, List.getElem?_cons_zero, List.getElem?_cons_succ, R.bind_ok, R.thn_ok, RS.thn_next, RS.thn_ret, outD_ret, outD_next, argsD, putN, List.set_cons_zero, List.set_cons_succ, wipeE, ev_var, ev_mvar, ev_none, ev_bool, ev_int, ev_str, ev_glb, ev_bin, ev_neg, ev_not, ev_and, ev_or, ev_cmp, ev_chn, ev_ife, ev_tup, ev_lst, ev_nil, ev_cons, ev_call, ev_meth, ev_mk, ev_bi, ev_min2, ev_isi, ev_len, ev_sub, ev_slc, ev_fld, ev_prop, ev_eqo, ev_tix, ev_pop0, ev_comp, ev_comp2, ev_iseq, ev_iown, ev_ienum, ev_izip, body_true, ex_skip, ex_seq, ex_set, ex_setM, ex_setB, ex_unp, ex_ixs, ex_ixa, ex_aug, ex_sfld, ex_ift, ex_for, ex_ret, ex_exp, sq]
  obtain ⟨e', h', q1, q2⟩ := forL_inv (f := fBody (pg prg (k + 3)) (.many [4, 5]) b_Shelf___init___0) (fun j e1 h1 => ∃ a b, e1 = [some (.ins 0 []), some (encT n), some (.int m), some (.int (upto n j : Nat)), a, b, none, none, none] ∧ h1 = h) (enumD 0 (n.map encN)) 0 [some (.ins 0 []), some (encT n), some (.int m), some (.int 0), none, none, none, none, none] h ⟨_, _, rfl, rfl⟩ (fun i d e1 h1 hd p => by
    obtain ⟨a, b, rfl, rfl⟩ := p
    obtain ⟨x, hx, rfl⟩ := enum_get _ _ _ _ hd
    rw [List.getElem?_map, Option.map_eq_some_iff] at hx
    obtain ⟨r, hr, rfl⟩ := hx
    refine ⟨_, _, ?_, some (.int (0 + i : Nat)), some (encN r), rfl, rfl⟩
    rw [fBody_put _ _ _ rfl]
    simp only [Nat.zero_add]
    exact shelf_body k h1 ok i r hr)
  obtain ⟨a, b, rfl, rfl⟩ := q2
  rw [q1]
  have tl := spots_len n
  have := ok.tot
  rw [enum_len, List.length_map]
  have e1 : upto n n.length = upto n n.length := rfl
  simp only [startE, List.map, List.length, Nat.sub_self, Nat.reduceAdd, Nat.reduceSub, Nat.zero_add, List.replicate, List.append_nil, List.cons_append, List.nil_append, List.getElem?_cons_zero, List.getElem?_cons_succ, R.bind_ok, R.thn_ok, RS.thn_next, RS.thn_ret, outD_ret, outD_next, argsD, putN, List.set_cons_zero, List.set_cons_succ, wipeE, ev_var, ev_mvar, ev_none, ev_bool, ev_int, ev_str, ev_glb, ev_bin, ev_neg, ev_not, ev_and, ev_or, ev_cmp, ev_chn, ev_ife, ev_tup, ev_lst, ev_nil, ev_cons, ev_call, ev_meth, ev_mk, ev_bi, ev_min2, ev_isi, ev_len, ev_sub, ev_slc, ev_fld, ev_prop, ev_eqo, ev_tix, ev_pop0, ev_comp, ev_comp2, ev_iseq, ev_iown, ev_ienum, ev_izip, body_true, ex_skip, ex_seq, ex_set, ex_setM, ex_setB, ex_unp, ex_ixs, ex_ixa, ex_aug, ex_sfld, ex_ift, ex_for, ex_ret, ex_exp, if_true, and_self, Nat.reduceLT, sq]
  rw [enum_spots n 0 (fun j e he => by
    have ln : ∀ h, lenD (pg prg (k + 3)) (encN e) h = .ok (.int e.length) h := fun h => by simp only [lenD, viewD, encN, List.length_map]
    have eo := ok.ed e he
    have := eo.hi
    rw [comp2F_put _ _ _ rfl, irng_nat (n := e.length) (h' := h') (by simp only [startE, List.map, List.length, Nat.sub_self, Nat.reduceAdd, Nat.reduceSub, Nat.zero_add, List.replicate, List.append_nil, List.cons_append, List.nil_append, List.getElem?_cons_zero, List.getElem?_cons_succ, R.bind_ok, R.thn_ok, RS.thn_next, RS.thn_ret, outD_ret, outD_next, argsD, putN, List.set_cons_zero, List.set_cons_succ, wipeE, ev_var, ev_mvar, ev_none, ev_bool, ev_int, ev_str, ev_glb, ev_bin, ev_neg, ev_not, ev_and, ev_or, ev_cmp, ev_chn, ev_ife, ev_tup, ev_lst, ev_nil, ev_cons, ev_call, ev_meth, ev_mk, ev_bi, ev_min2, ev_isi, ev_len, ev_sub, ev_slc, ev_fld, ev_prop, ev_eqo, ev_tix, ev_pop0, ev_comp, ev_comp2, ev_iseq, ev_iown, ev_ienum, ev_izip, body_true, ex_skip, ex_seq, ex_set, ex_setM, ex_setB, ex_unp, ex_ixs, ex_ixa, ex_aug, ex_sfld, ex_ift, ex_for, ex_ret, ex_exp, List.zip, List.zipWith, List.foldl, ln]) (by omega)]
    simp only [startE, List.map, List.length, Nat.sub_self, Nat.reduceAdd, Nat.reduceSub, Nat.zero_add, List.replicate, List.append_nil, List.cons_append, List.nil_append, List.getElem?_cons_zero, List.getElem?_cons_succ, R.bind_ok, R.thn_ok, RS.thn_next, RS.thn_ret, outD_ret, outD_next, argsD, putN, List.set_cons_zero, List.set_cons_succ, wipeE, ev_var, ev_mvar, ev_none, ev_bool, ev_int, ev_str, ev_glb, ev_bin, ev_neg, ev_not, ev_and, ev_or, ev_cmp, ev_chn, ev_ife, ev_tup, ev_lst, ev_nil, ev_cons, ev_call, ev_meth, ev_mk, ev_bi, ev_min2, ev_isi, ev_len, ev_sub, ev_slc, ev_fld, ev_prop, ev_eqo, ev_tix, ev_pop0, ev_comp, ev_comp2, ev_iseq, ev_iown, ev_ienum, ev_izip, body_true, ex_skip, ex_seq, ex_set, ex_setM, ex_setB, ex_unp, ex_ixs, ex_ixa, ex_aug, ex_sfld, ex_ift, ex_for, ex_ret, ex_exp]
    exact catL_one (g := fun s : Nat => D.int s) (F := fun s => encP (j, s)) _ fun s _ => rfl)]
  simp only [startE, List.map, List.length, Nat.sub_self, Nat.reduceAdd, Nat.reduceSub, Nat.zero_add, List.replicate, List.append_nil, List.cons_append, List.nil_append, List.getElem?_cons_zero, List.getElem?_cons_succ, R.bind_ok, R.thn_ok, RS.thn_next, RS.thn_ret, outD_ret, outD_next, argsD, putN, List.set_cons_zero, List.set_cons_succ, wipeE, ev_var, ev_mvar, ev_none, ev_bool, ev_int, ev_str, ev_glb, ev_bin, ev_neg, ev_not, ev_and, ev_or, ev_cmp, ev_chn, ev_ife, ev_tup, ev_lst, ev_nil, ev_cons, ev_call, ev_meth, ev_mk, ev_bi, ev_min2, ev_isi, ev_len, ev_sub, ev_slc, ev_fld, ev_prop, ev_eqo, ev_tix, ev_pop0, ev_comp, ev_comp2, ev_iseq, ev_iown, ev_ienum, ev_izip, body_true, ex_skip, ex_seq, ex_set, ex_setM, ex_setB, ex_unp, ex_ixs, ex_ixa, ex_aug, ex_sfld, ex_ift, ex_for, ex_ret, ex_exp]
  rw [longD_ok (by rw [List.length_map]; show (spots n).length ≤ _; omega)]
  simp only [startE, List.map, List.length, Nat.sub_self, Nat.reduceAdd, Nat.reduceSub, Nat.zero_add, List.replicate, List.append_nil, List.cons_append, List.nil_append, List.getElem?_cons_zero, List.getElem?_cons_succ, R.bind_ok, R.thn_ok, RS.thn_next, RS.thn_ret, outD_ret, outD_next, argsD, putN, List.set_cons_zero, List.set_cons_succ, wipeE, ev_var, ev_mvar, ev_none, ev_bool, ev_int, ev_str, ev_glb, ev_bin, ev_neg, ev_not, ev_and, ev_or, ev_cmp, ev_chn, ev_ife, ev_tup, ev_lst, ev_nil, ev_cons, ev_call, ev_meth, ev_mk, ev_bi, ev_min2, ev_isi, ev_len, ev_sub, ev_slc, ev_fld, ev_prop, ev_eqo, ev_tix, ev_pop0, ev_comp, ev_comp2, ev_iseq, ev_iown, ev_ienum, ev_izip, body_true, ex_skip, ex_seq, ex_set, ex_setM, ex_setB, ex_unp, ex_ixs, ex_ixa, ex_aug, ex_sfld, ex_ift, ex_for, ex_ret, ex_exp, biD, viewD, if_true, and_self, Nat.reduceLT, mkD]
  rfl
end K01

set_option Elab.async false
set_option linter.all false
set_option maxRecDepth 100000
set_option maxHeartbeats 1000000
/-! What the program's defs give: places, replies. -/
namespace K01
open PySem CC
variable {m : Nat} {n : Net}
theorem fix0 (k : Nat) : (pg prg k).fix 0 0 = some 0 := by rw [pg_fix]; rfl
theorem fix1 (k : Nat) : (pg prg k).fix 0 1 = some 1 := by rw [pg_fix]; rfl
theorem fix2 (k : Nat) : (pg prg k).fix 0 2 = some 2 := by rw [pg_fix]; rfl
theorem len_shelf (k : Nat) (h : Hb) (ok : NetOk m n) : lenD (pg prg (k + 1)) (shD m n) h = .ok (.int (spots n).length) h := by
  have e1 : (pg prg (k + 1)).call 34 [shD m n] h = .ok (.int (spots n).length) h := by
    rw [call_eq (fn := f_Shelf___len__) rfl rfl]
    simp only [startE, List.map, List.length, Nat.sub_self, Nat.reduceAdd, Nat.reduceSub, Nat.zero_add, List.replicate, List.append_nil, List.cons_append, List.nil_append, List.getElem?_cons_zero, List.getElem?_cons_succ, R.bind_ok, R.thn_ok, RS.thn_next, RS.thn_ret, outD_ret, outD_next, argsD, putN, List.set_cons_zero, List.set_cons_succ, wipeE, ev_var, ev_mvar, ev_none, ev_bool, ev_int, ev_str, ev_glb, ev_bin, ev_neg, ev_not, ev_and, ev_or, ev_cmp, ev_chn, ev_ife, ev_tup, ev_lst, ev_nil, ev_cons, ev_call, ev_meth, ev_mk, ev_bi, ev_min2, ev_isi, ev_len, ev_sub, ev_slc, ev_fld, ev_prop, ev_eqo, ev_tix, ev_pop0, ev_comp, ev_comp2, ev_iseq, ev_iown, ev_ienum, ev_izip, body_true, ex_skip, ex_seq, ex_set, ex_setM, ex_setB, ex_unp, ex_ixs, ex_ixa, ex_aug, ex_sfld, ex_ift, ex_for, ex_ret, ex_exp, f_Shelf___len__, shD, fix2, lenD, viewD, List.length_map]
  have e2 : (pg prg (k + 1)).mth 0 mLen = some 34 := by rw [pg_mth]; rfl
  have v : viewD h (shD m n) = shD m n := rfl
  have tl := spots_len n
  have := ok.tot
  have c : (0 : Int) ≤ ((spots n).length : Int) ∧ ((spots n).length : Int) < 1000000 := ⟨by omega, by omega⟩
  have e3 : methD (pg prg (k + 1)) mLen (shD m n) [] h = .ok (.int (spots n).length) h := by
    simp only [methD, shD, e2]
    exact e1
  have e4 : lenD (pg prg (k + 1)) (shD m n) h = (methD (pg prg (k + 1)) mLen (shD m n) [] h).bind fun y h => (match y with | .int i => if 0 ≤ i ∧ i < 1000000 then .ok (.int i) h else .bad | _ => .bad) := rfl
  rw [e4, e3, R.bind_ok]
  exact if_pos c
theorem entry_at (k : Nat) (h : Hb) (ok : NetOk m n) {s : Nat × Nat} (hs : s ∈ spots n) {c : Nat} (hc : c < m) : (pg prg (k + 1)).call 5 [shD m n, encP s, .int c] h = .ok (encE (entAt n s c)) h := by
  obtain ⟨e, r, x, h1, h2, h3, h4, _⟩ := ent_ok ok hs hc
  rw [call_eq (fn := f_entry_at) rfl rfl]
  have s1 : ∀ h, subD (encP s) (.int 0) h = .ok (.int s.1) h := fun h => subT0 rfl
  have s2 : ∀ h, subD (encP s) (.int 1) h = .ok (.int s.2) h := fun h => subT (j := 1) rfl
  have s3 : ∀ h, subD (encT n) (.int s.1) h = .ok (encN e) h := fun h => subT (by rw [List.getElem?_map, h1]; rfl)
  have s4 : ∀ h, subD (encN e) (.int s.2) h = .ok (encR r) h := fun h => subT (by rw [List.getElem?_map, h2]; rfl)
  have s5 : ∀ h, subD (encR r) (.int c) h = .ok (encE x) h := fun h => subT (by rw [List.getElem?_map, h3]; rfl)
  simp only [startE, List.map, List.length, Nat.sub_self, Nat.reduceAdd, Nat.reduceSub, Nat.zero_add, List.replicate, List.append_nil, List.cons_append, List.nil_append, List.getElem?_cons_zero, List.getElem?_cons_succ, R.bind_ok, R.thn_ok, RS.thn_next, RS.thn_ret, outD_ret, outD_next, argsD, putN, List.set_cons_zero, List.set_cons_succ, wipeE, ev_var, ev_mvar, ev_none, ev_bool, ev_int, ev_str, ev_glb, ev_bin, ev_neg, ev_not, ev_and, ev_or, ev_cmp, ev_chn, ev_ife, ev_tup, ev_lst, ev_nil, ev_cons, ev_call, ev_meth, ev_mk, ev_bi, ev_min2, ev_isi, ev_len, ev_sub, ev_slc, ev_fld, ev_prop, ev_eqo, ev_tix, ev_pop0, ev_comp, ev_comp2, ev_iseq, ev_iown, ev_ienum, ev_izip, body_true, ex_skip, ex_seq, ex_set, ex_setM, ex_setB, ex_unp, ex_ixs, ex_ixa, ex_aug, ex_sfld, ex_ift, ex_for, ex_ret, ex_exp, f_entry_at, shD, fix0, s1, s2, s3, s4, s5, h4]
theorem spot_at {p : Nat} (hp : p < (spots n).length) : ∃ s, (spots n)[p]? = some s ∧ s ∈ spots n ∧ (spots n).getD p (0, 0) = s := by
  refine ⟨(spots n)[p], List.getElem?_eq_getElem hp, List.getElem_mem hp, ?_⟩
  rw [List.getD_eq_getElem?_getD, List.getElem?_eq_getElem hp]
  rfl
theorem place_after (k : Nat) (h : Hb) (ok : NetOk m n) (o : Option Nat) (ho : ∀ p, o = some p → p < (spots n).length) {c : Nat} (hc : c < m) : (pg prg (k + 2)).call 6 [shD m n, encO o, .int c] h = .ok (encO (o.bind (nx n c))) h := by
  rw [call_eq (fn := f_place_after) rfl rfl]
  cases o with
  | none => simp only [startE, List.map, List.length, Nat.sub_self, Nat.reduceAdd, Nat.reduceSub, Nat.zero_add, List.replicate, List.append_nil, List.cons_append, List.nil_append, List.getElem?_cons_zero, List.getElem?_cons_succ, R.bind_ok, R.thn_ok, RS.thn_next, RS.thn_ret, outD_ret, outD_next, argsD, putN, List.set_cons_zero, List.set_cons_succ, wipeE, ev_var, ev_mvar, ev_none, ev_bool, ev_int, ev_str, ev_glb, ev_bin, ev_neg, ev_not, ev_and, ev_or, ev_cmp, ev_chn, ev_ife, ev_tup, ev_lst, ev_nil, ev_cons, ev_call, ev_meth, ev_mk, ev_bi, ev_min2, ev_isi, ev_len, ev_sub, ev_slc, ev_fld, ev_prop, ev_eqo, ev_tix, ev_pop0, ev_comp, ev_comp2, ev_iseq, ev_iown, ev_ienum, ev_izip, body_true, ex_skip, ex_seq, ex_set, ex_setM, ex_setB, ex_unp, ex_ixs, ex_ixa, ex_aug, ex_sfld, ex_ift, ex_for, ex_ret, ex_exp, f_place_after, encO, cmpD, D.isN, Option.bind_none]
  | some p =>
    obtain ⟨s, h1, h2, h3⟩ := spot_at (ho p rfl)
    have ea := entry_at k h ok h2 hc
    have s1 : ∀ h, subD (.ft ((spots n).map encP)) (.int p) h = .ok (encP s) h := fun h => subF (by rw [List.getElem?_map, h1]; rfl)
    have ef : ∀ h, ev (pg prg (k + 1)) (.fld 2 (.var 0)) [some (shD m n), some (.int p), some (.int c), none, none] h = .ok (.ft ((spots n).map encP)) h := fun h => by simp only [startE, List.map, List.length, Nat.sub_self, Nat.reduceAdd, Nat.reduceSub, Nat.zero_add, List.replicate, List.append_nil, List.cons_append, List.nil_append, List.getElem?_cons_zero, List.getElem?_cons_succ, R.bind_ok, R.thn_ok, RS.thn_next, RS.thn_ret, outD_ret, outD_next, argsD, putN, List.set_cons_zero, List.set_cons_succ, wipeE, ev_var, ev_mvar, ev_none, ev_bool, ev_int, ev_str, ev_glb, ev_bin, ev_neg, ev_not, ev_and, ev_or, ev_cmp, ev_chn, ev_ife, ev_tup, ev_lst, ev_nil, ev_cons, ev_call, ev_meth, ev_mk, ev_bi, ev_min2, ev_isi, ev_len, ev_sub, ev_slc, ev_fld, ev_prop, ev_eqo, ev_tix, ev_pop0, ev_comp, ev_comp2, ev_iseq, ev_iown, ev_ienum, ev_izip, body_true, ex_skip, ex_seq, ex_set, ex_setM, ex_setB, ex_unp, ex_ixs, ex_ixa, ex_aug, ex_sfld, ex_ift, ex_for, ex_ret, ex_exp, shD, fix2]
    have en : nx n c p = (entAt n s c).map fun e => (spots n).idxOf (s.1, e.2) := by
      unfold nx entP
      rw [h3]
    simp only [startE, List.map, List.length, Nat.sub_self, Nat.reduceAdd, Nat.reduceSub, Nat.zero_add, List.replicate, List.append_nil, List.cons_append, List.nil_append, List.getElem?_cons_zero, List.getElem?_cons_succ, R.bind_ok, R.thn_ok, RS.thn_next, RS.thn_ret, outD_ret, outD_next, argsD, putN, List.set_cons_zero, List.set_cons_succ, wipeE, ev_var, ev_mvar, ev_none, ev_bool, ev_int, ev_str, ev_glb, ev_bin, ev_neg, ev_not, ev_and, ev_or, ev_cmp, ev_chn, ev_ife, ev_tup, ev_lst, ev_nil, ev_cons, ev_call, ev_meth, ev_mk, ev_bi, ev_min2, ev_isi, ev_len, ev_sub, ev_slc, ev_fld, ev_prop, ev_eqo, ev_tix, ev_pop0, ev_comp, ev_comp2, ev_iseq, ev_iown, ev_ienum, ev_izip, body_true, ex_skip, ex_seq, ex_set, ex_setM, ex_setB, ex_unp, ex_ixs, ex_ixa, ex_aug, ex_sfld, ex_ift, ex_for, ex_ret, ex_exp, f_place_after, encO, cmpD, D.isN, Option.bind_some, en]
    simp only [startE, List.map, List.length, Nat.sub_self, Nat.reduceAdd, Nat.reduceSub, Nat.zero_add, List.replicate, List.append_nil, List.cons_append, List.nil_append, List.getElem?_cons_zero, List.getElem?_cons_succ, R.bind_ok, R.thn_ok, RS.thn_next, RS.thn_ret, outD_ret, outD_next, argsD, putN, List.set_cons_zero, List.set_cons_succ, wipeE, ev_var, ev_mvar, ev_none, ev_bool, ev_int, ev_str, ev_glb, ev_bin, ev_neg, ev_not, ev_and, ev_or, ev_cmp, ev_chn, ev_ife, ev_tup, ev_lst, ev_nil, ev_cons, ev_call, ev_meth, ev_mk, ev_bi, ev_min2, ev_isi, ev_len, ev_sub, ev_slc, ev_fld, ev_prop, ev_eqo, ev_tix, ev_pop0, ev_comp, ev_comp2, ev_iseq, ev_iown, ev_ienum, ev_izip, body_true, ex_skip, ex_seq, ex_set, ex_setM, ex_setB, ex_unp, ex_ixs, ex_ixa, ex_aug, ex_sfld, ex_ift, ex_for, ex_ret, ex_exp, shD, fix2, s1]
    rw [show D.ins 0 [encT n, .int m, .ft ((spots n).map encP)] = shD m n from rfl, ea]
    cases hx : entAt n s c with
    | none => simp only [startE, List.map, List.length, Nat.sub_self, Nat.reduceAdd, Nat.reduceSub, Nat.zero_add, List.replicate, List.append_nil, List.cons_append, List.nil_append, List.getElem?_cons_zero, List.getElem?_cons_succ, R.bind_ok, R.thn_ok, RS.thn_next, RS.thn_ret, outD_ret, outD_next, argsD, putN, List.set_cons_zero, List.set_cons_succ, wipeE, ev_var, ev_mvar, ev_none, ev_bool, ev_int, ev_str, ev_glb, ev_bin, ev_neg, ev_not, ev_and, ev_or, ev_cmp, ev_chn, ev_ife, ev_tup, ev_lst, ev_nil, ev_cons, ev_call, ev_meth, ev_mk, ev_bi, ev_min2, ev_isi, ev_len, ev_sub, ev_slc, ev_fld, ev_prop, ev_eqo, ev_tix, ev_pop0, ev_comp, ev_comp2, ev_iseq, ev_iown, ev_ienum, ev_izip, body_true, ex_skip, ex_seq, ex_set, ex_setM, ex_setB, ex_unp, ex_ixs, ex_ixa, ex_aug, ex_sfld, ex_ift, ex_for, ex_ret, ex_exp, encE, cmpD, D.isN, Option.map_none, encO]
    | some x =>
      obtain ⟨a, b⟩ := x
      have eo := entP_ok ok (ho p rfl) hc a b (by unfold entP; rw [h3, hx])
      rw [h3] at eo
      have s2 : ∀ h, subD (encP s) (.int 0) h = .ok (.int s.1) h := fun h => subT0 rfl
      have s3 : ∀ h, subD (.tup [.int a, .int b]) (.int 1) h = .ok (.int b) h := fun h => subT (j := 1) rfl
      have tx := tix_spots eo.2 h
      simp only [startE, List.map, List.length, Nat.sub_self, Nat.reduceAdd, Nat.reduceSub, Nat.zero_add, List.replicate, List.append_nil, List.cons_append, List.nil_append, List.getElem?_cons_zero, List.getElem?_cons_succ, R.bind_ok, R.thn_ok, RS.thn_next, RS.thn_ret, outD_ret, outD_next, argsD, putN, List.set_cons_zero, List.set_cons_succ, wipeE, ev_var, ev_mvar, ev_none, ev_bool, ev_int, ev_str, ev_glb, ev_bin, ev_neg, ev_not, ev_and, ev_or, ev_cmp, ev_chn, ev_ife, ev_tup, ev_lst, ev_nil, ev_cons, ev_call, ev_meth, ev_mk, ev_bi, ev_min2, ev_isi, ev_len, ev_sub, ev_slc, ev_fld, ev_prop, ev_eqo, ev_tix, ev_pop0, ev_comp, ev_comp2, ev_iseq, ev_iown, ev_ienum, ev_izip, body_true, ex_skip, ex_seq, ex_set, ex_setM, ex_setB, ex_unp, ex_ixs, ex_ixa, ex_aug, ex_sfld, ex_ift, ex_for, ex_ret, ex_exp, encE, cmpD, D.isN, Option.map_some, shD, fix2, s2, s3, tixD, encO]
      rw [show D.tup [.int s.1, .int b] = encP (s.1, b) from rfl, tx]
      rfl
theorem reply_of (k : Nat) (h : Hb) (ok : NetOk m n) (o : Option Nat) (ho : ∀ p, o = some p → p < (spots n).length) {c : Nat} (hc : c < m) : (pg prg (k + 2)).call 7 [shD m n, encO o, .int c] h = .ok (encO (o.bind (rp n c))) h := by
  rw [call_eq (fn := f_reply_of) rfl rfl]
  cases o with
  | none => simp only [startE, List.map, List.length, Nat.sub_self, Nat.reduceAdd, Nat.reduceSub, Nat.zero_add, List.replicate, List.append_nil, List.cons_append, List.nil_append, List.getElem?_cons_zero, List.getElem?_cons_succ, R.bind_ok, R.thn_ok, RS.thn_next, RS.thn_ret, outD_ret, outD_next, argsD, putN, List.set_cons_zero, List.set_cons_succ, wipeE, ev_var, ev_mvar, ev_none, ev_bool, ev_int, ev_str, ev_glb, ev_bin, ev_neg, ev_not, ev_and, ev_or, ev_cmp, ev_chn, ev_ife, ev_tup, ev_lst, ev_nil, ev_cons, ev_call, ev_meth, ev_mk, ev_bi, ev_min2, ev_isi, ev_len, ev_sub, ev_slc, ev_fld, ev_prop, ev_eqo, ev_tix, ev_pop0, ev_comp, ev_comp2, ev_iseq, ev_iown, ev_ienum, ev_izip, body_true, ex_skip, ex_seq, ex_set, ex_setM, ex_setB, ex_unp, ex_ixs, ex_ixa, ex_aug, ex_sfld, ex_ift, ex_for, ex_ret, ex_exp, f_reply_of, encO, cmpD, D.isN, Option.bind_none]
  | some p =>
    obtain ⟨s, h1, h2, h3⟩ := spot_at (ho p rfl)
    have ea := entry_at k h ok h2 hc
    have s1 : ∀ h, subD (.ft ((spots n).map encP)) (.int p) h = .ok (encP s) h := fun h => subF (by rw [List.getElem?_map, h1]; rfl)
    have en : rp n c p = (entAt n s c).map (·.1) := by
      unfold rp entP
      rw [h3]
    simp only [startE, List.map, List.length, Nat.sub_self, Nat.reduceAdd, Nat.reduceSub, Nat.zero_add, List.replicate, List.append_nil, List.cons_append, List.nil_append, List.getElem?_cons_zero, List.getElem?_cons_succ, R.bind_ok, R.thn_ok, RS.thn_next, RS.thn_ret, outD_ret, outD_next, argsD, putN, List.set_cons_zero, List.set_cons_succ, wipeE, ev_var, ev_mvar, ev_none, ev_bool, ev_int, ev_str, ev_glb, ev_bin, ev_neg, ev_not, ev_and, ev_or, ev_cmp, ev_chn, ev_ife, ev_tup, ev_lst, ev_nil, ev_cons, ev_call, ev_meth, ev_mk, ev_bi, ev_min2, ev_isi, ev_len, ev_sub, ev_slc, ev_fld, ev_prop, ev_eqo, ev_tix, ev_pop0, ev_comp, ev_comp2, ev_iseq, ev_iown, ev_ienum, ev_izip, body_true, ex_skip, ex_seq, ex_set, ex_setM, ex_setB, ex_unp, ex_ixs, ex_ixa, ex_aug, ex_sfld, ex_ift, ex_for, ex_ret, ex_exp, f_reply_of, encO, cmpD, D.isN, Option.bind_some, en]
    simp only [startE, List.map, List.length, Nat.sub_self, Nat.reduceAdd, Nat.reduceSub, Nat.zero_add, List.replicate, List.append_nil, List.cons_append, List.nil_append, List.getElem?_cons_zero, List.getElem?_cons_succ, R.bind_ok, R.thn_ok, RS.thn_next, RS.thn_ret, outD_ret, outD_next, argsD, putN, List.set_cons_zero, List.set_cons_succ, wipeE, ev_var, ev_mvar, ev_none, ev_bool, ev_int, ev_str, ev_glb, ev_bin, ev_neg, ev_not, ev_and, ev_or, ev_cmp, ev_chn, ev_ife, ev_tup, ev_lst, ev_nil, ev_cons, ev_call, ev_meth, ev_mk, ev_bi, ev_min2, ev_isi, ev_len, ev_sub, ev_slc, ev_fld, ev_prop, ev_eqo, ev_tix, ev_pop0, ev_comp, ev_comp2, ev_iseq, ev_iown, ev_ienum, ev_izip, body_true, ex_skip, ex_seq, ex_set, ex_setM, ex_setB, ex_unp, ex_ixs, ex_ixa, ex_aug, ex_sfld, ex_ift, ex_for, ex_ret, ex_exp, shD, fix2, s1]
    rw [show D.ins 0 [encT n, .int m, .ft ((spots n).map encP)] = shD m n from rfl, ea]
    cases hx : entAt n s c with
    | none => simp only [startE, List.map, List.length, Nat.sub_self, Nat.reduceAdd, Nat.reduceSub, Nat.zero_add, List.replicate, List.append_nil, List.cons_append, List.nil_append, List.getElem?_cons_zero, List.getElem?_cons_succ, R.bind_ok, R.thn_ok, RS.thn_next, RS.thn_ret, outD_ret, outD_next, argsD, putN, List.set_cons_zero, List.set_cons_succ, wipeE, ev_var, ev_mvar, ev_none, ev_bool, ev_int, ev_str, ev_glb, ev_bin, ev_neg, ev_not, ev_and, ev_or, ev_cmp, ev_chn, ev_ife, ev_tup, ev_lst, ev_nil, ev_cons, ev_call, ev_meth, ev_mk, ev_bi, ev_min2, ev_isi, ev_len, ev_sub, ev_slc, ev_fld, ev_prop, ev_eqo, ev_tix, ev_pop0, ev_comp, ev_comp2, ev_iseq, ev_iown, ev_ienum, ev_izip, body_true, ex_skip, ex_seq, ex_set, ex_setM, ex_setB, ex_unp, ex_ixs, ex_ixa, ex_aug, ex_sfld, ex_ift, ex_for, ex_ret, ex_exp, encE, cmpD, D.isN, Option.map_none, encO]
    | some x =>
      obtain ⟨a, b⟩ := x
      have s3 : ∀ h, subD (.tup [.int a, .int b]) (.int 0) h = .ok (.int a) h := fun h => subT0 rfl
      simp only [startE, List.map, List.length, Nat.sub_self, Nat.reduceAdd, Nat.reduceSub, Nat.zero_add, List.replicate, List.append_nil, List.cons_append, List.nil_append, List.getElem?_cons_zero, List.getElem?_cons_succ, R.bind_ok, R.thn_ok, RS.thn_next, RS.thn_ret, outD_ret, outD_next, argsD, putN, List.set_cons_zero, List.set_cons_succ, wipeE, ev_var, ev_mvar, ev_none, ev_bool, ev_int, ev_str, ev_glb, ev_bin, ev_neg, ev_not, ev_and, ev_or, ev_cmp, ev_chn, ev_ife, ev_tup, ev_lst, ev_nil, ev_cons, ev_call, ev_meth, ev_mk, ev_bi, ev_min2, ev_isi, ev_len, ev_sub, ev_slc, ev_fld, ev_prop, ev_eqo, ev_tix, ev_pop0, ev_comp, ev_comp2, ev_iseq, ev_iown, ev_ienum, ev_izip, body_true, ex_skip, ex_seq, ex_set, ex_setM, ex_setB, ex_unp, ex_ixs, ex_ixa, ex_aug, ex_sfld, ex_ift, ex_for, ex_ret, ex_exp, encE, cmpD, D.isN, Option.map_some, s3, encO]
/-- places: of each beginning where its device is -/
abbrev Pl := List (Option Nat)
def PlOk (n : Net) (ps : Pl) : Prop := ps.length = (spots n).length ∧ ∀ o ∈ ps, ∀ p, o = some p → p < (spots n).length
def st0 (n : Net) : Pl := (List.range (spots n).length).map some
def stp (n : Net) (c : Nat) (ps : Pl) : Pl := ps.map fun o => o.bind (nx n c)
theorem st0_ok : PlOk n (st0 n) := ⟨by simp [st0], fun o ho p e => by
  unfold st0 at ho
  obtain ⟨q, hq, rfl⟩ := List.mem_map.mp ho
  cases e
  exact List.mem_range.mp hq⟩
theorem stp_ok (ok : NetOk m n) {c : Nat} (hc : c < m) {ps : Pl} (hp : PlOk n ps) : PlOk n (stp n c ps) := ⟨by simp [stp, hp.1], fun o ho p e => by
  unfold stp at ho
  obtain ⟨q, hq, rfl⟩ := List.mem_map.mp ho
  cases q with
  | none => cases e
  | some x => exact nx_lt ok (hp.2 _ hq x rfl) hc e⟩
theorem small (ok : NetOk m n) : (spots n).length ≤ 6 := by
  rw [spots_len]
  exact ok.tot
theorem starts_of (k : Nat) (h : Hb) (ok : NetOk m n) : (pg prg (k + 2)).call 8 [shD m n] h = .ok (.tup ((st0 n).map encO)) h := by
  rw [call_eq (fn := f_starts_of) rfl rfl]
  have sm := small ok
  have l := len_shelf k h ok
  simp only [startE, List.map, List.length, Nat.sub_self, Nat.reduceAdd, Nat.reduceSub, Nat.zero_add, List.replicate, List.append_nil, List.cons_append, List.nil_append, List.getElem?_cons_zero, List.getElem?_cons_succ, R.bind_ok, R.thn_ok, RS.thn_next, RS.thn_ret, outD_ret, outD_next, argsD, putN, List.set_cons_zero, List.set_cons_succ, wipeE, ev_var, ev_mvar, ev_none, ev_bool, ev_int, ev_str, ev_glb, ev_bin, ev_neg, ev_not, ev_and, ev_or, ev_cmp, ev_chn, ev_ife, ev_tup, ev_lst, ev_nil, ev_cons, ev_call, ev_meth, ev_mk, ev_bi, ev_min2, ev_isi, ev_len, ev_sub, ev_slc, ev_fld, ev_prop, ev_eqo, ev_tix, ev_pop0, ev_comp, ev_comp2, ev_iseq, ev_iown, ev_ienum, ev_izip, body_true, ex_skip, ex_seq, ex_set, ex_setM, ex_setB, ex_unp, ex_ixs, ex_ixa, ex_aug, ex_sfld, ex_ift, ex_for, ex_ret, ex_exp, f_starts_of]
  rw [trng_nat (n := (spots n).length) (h' := h) (by simp only [startE, List.map, List.length, Nat.sub_self, Nat.reduceAdd, Nat.reduceSub, Nat.zero_add, List.replicate, List.append_nil, List.cons_append, List.nil_append, List.getElem?_cons_zero, List.getElem?_cons_succ, R.bind_ok, R.thn_ok, RS.thn_next, RS.thn_ret, outD_ret, outD_next, argsD, putN, List.set_cons_zero, List.set_cons_succ, wipeE, ev_var, ev_mvar, ev_none, ev_bool, ev_int, ev_str, ev_glb, ev_bin, ev_neg, ev_not, ev_and, ev_or, ev_cmp, ev_chn, ev_ife, ev_tup, ev_lst, ev_nil, ev_cons, ev_call, ev_meth, ev_mk, ev_bi, ev_min2, ev_isi, ev_len, ev_sub, ev_slc, ev_fld, ev_prop, ev_eqo, ev_tix, ev_pop0, ev_comp, ev_comp2, ev_iseq, ev_iown, ev_ienum, ev_izip, body_true, ex_skip, ex_seq, ex_set, ex_setM, ex_setB, ex_unp, ex_ixs, ex_ixa, ex_aug, ex_sfld, ex_ift, ex_for, ex_ret, ex_exp, l]) (by omega)]
  simp only [startE, List.map, List.length, Nat.sub_self, Nat.reduceAdd, Nat.reduceSub, Nat.zero_add, List.replicate, List.append_nil, List.cons_append, List.nil_append, List.getElem?_cons_zero, List.getElem?_cons_succ, R.bind_ok, R.thn_ok, RS.thn_next, RS.thn_ret, outD_ret, outD_next, argsD, putN, List.set_cons_zero, List.set_cons_succ, wipeE, ev_var, ev_mvar, ev_none, ev_bool, ev_int, ev_str, ev_glb, ev_bin, ev_neg, ev_not, ev_and, ev_or, ev_cmp, ev_chn, ev_ife, ev_tup, ev_lst, ev_nil, ev_cons, ev_call, ev_meth, ev_mk, ev_bi, ev_min2, ev_isi, ev_len, ev_sub, ev_slc, ev_fld, ev_prop, ev_eqo, ev_tix, ev_pop0, ev_comp, ev_comp2, ev_iseq, ev_iown, ev_ienum, ev_izip, body_true, ex_skip, ex_seq, ex_set, ex_setM, ex_setB, ex_unp, ex_ixs, ex_ixa, ex_aug, ex_sfld, ex_ift, ex_for, ex_ret, ex_exp, st0, List.map_map]
  rfl
theorem places_after (k : Nat) (h : Hb) (ok : NetOk m n) {c : Nat} (hc : c < m) {ps : Pl} (hp : PlOk n ps) : (pg prg (k + 3)).call 9 [shD m n, .tup (ps.map encO), .int c] h = .ok (.tup ((stp n c ps).map encO)) h := by
  rw [call_eq (fn := f_places_after) rfl rfl]
  have sm := small ok
  simp only [startE, List.map, List.length, Nat.sub_self, Nat.reduceAdd, Nat.reduceSub, Nat.zero_add, List.replicate, List.append_nil, List.cons_append, List.nil_append, List.getElem?_cons_zero, List.getElem?_cons_succ, R.bind_ok, R.thn_ok, RS.thn_next, RS.thn_ret, outD_ret, outD_next, argsD, putN, List.set_cons_zero, List.set_cons_succ, wipeE, ev_var, ev_mvar, ev_none, ev_bool, ev_int, ev_str, ev_glb, ev_bin, ev_neg, ev_not, ev_and, ev_or, ev_cmp, ev_chn, ev_ife, ev_tup, ev_lst, ev_nil, ev_cons, ev_call, ev_meth, ev_mk, ev_bi, ev_min2, ev_isi, ev_len, ev_sub, ev_slc, ev_fld, ev_prop, ev_eqo, ev_tix, ev_pop0, ev_comp, ev_comp2, ev_iseq, ev_iown, ev_ienum, ev_izip, body_true, ex_skip, ex_seq, ex_set, ex_setM, ex_setB, ex_unp, ex_ixs, ex_ixa, ex_aug, ex_sfld, ex_ift, ex_for, ex_ret, ex_exp, f_places_after, iterD]
  rw [catL_one (g := encO) (F := fun o => encO (o.bind (nx n c))) ps (fun o ho => by
    rw [compF_put _ _ _ rfl]
    simp only [startE, List.map, List.length, Nat.sub_self, Nat.reduceAdd, Nat.reduceSub, Nat.zero_add, List.replicate, List.append_nil, List.cons_append, List.nil_append, List.getElem?_cons_zero, List.getElem?_cons_succ, R.bind_ok, R.thn_ok, RS.thn_next, RS.thn_ret, outD_ret, outD_next, argsD, putN, List.set_cons_zero, List.set_cons_succ, wipeE, ev_var, ev_mvar, ev_none, ev_bool, ev_int, ev_str, ev_glb, ev_bin, ev_neg, ev_not, ev_and, ev_or, ev_cmp, ev_chn, ev_ife, ev_tup, ev_lst, ev_nil, ev_cons, ev_call, ev_meth, ev_mk, ev_bi, ev_min2, ev_isi, ev_len, ev_sub, ev_slc, ev_fld, ev_prop, ev_eqo, ev_tix, ev_pop0, ev_comp, ev_comp2, ev_iseq, ev_iown, ev_ienum, ev_izip, body_true, ex_skip, ex_seq, ex_set, ex_setM, ex_setB, ex_unp, ex_ixs, ex_ixa, ex_aug, ex_sfld, ex_ift, ex_for, ex_ret, ex_exp]
    rw [place_after k h ok o (hp.2 o ho) hc]
    rfl)]
  simp only [startE, List.map, List.length, Nat.sub_self, Nat.reduceAdd, Nat.reduceSub, Nat.zero_add, List.replicate, List.append_nil, List.cons_append, List.nil_append, List.getElem?_cons_zero, List.getElem?_cons_succ, R.bind_ok, R.thn_ok, RS.thn_next, RS.thn_ret, outD_ret, outD_next, argsD, putN, List.set_cons_zero, List.set_cons_succ, wipeE, ev_var, ev_mvar, ev_none, ev_bool, ev_int, ev_str, ev_glb, ev_bin, ev_neg, ev_not, ev_and, ev_or, ev_cmp, ev_chn, ev_ife, ev_tup, ev_lst, ev_nil, ev_cons, ev_call, ev_meth, ev_mk, ev_bi, ev_min2, ev_isi, ev_len, ev_sub, ev_slc, ev_fld, ev_prop, ev_eqo, ev_tix, ev_pop0, ev_comp, ev_comp2, ev_iseq, ev_iown, ev_ienum, ev_izip, body_true, ex_skip, ex_seq, ex_set, ex_setM, ex_setB, ex_unp, ex_ixs, ex_ixa, ex_aug, ex_sfld, ex_ift, ex_for, ex_ret, ex_exp]
  rw [longD_ok (by rw [List.length_map, hp.1]; omega)]
  simp only [startE, List.map, List.length, Nat.sub_self, Nat.reduceAdd, Nat.reduceSub, Nat.zero_add, List.replicate, List.append_nil, List.cons_append, List.nil_append, List.getElem?_cons_zero, List.getElem?_cons_succ, R.bind_ok, R.thn_ok, RS.thn_next, RS.thn_ret, outD_ret, outD_next, argsD, putN, List.set_cons_zero, List.set_cons_succ, wipeE, ev_var, ev_mvar, ev_none, ev_bool, ev_int, ev_str, ev_glb, ev_bin, ev_neg, ev_not, ev_and, ev_or, ev_cmp, ev_chn, ev_ife, ev_tup, ev_lst, ev_nil, ev_cons, ev_call, ev_meth, ev_mk, ev_bi, ev_min2, ev_isi, ev_len, ev_sub, ev_slc, ev_fld, ev_prop, ev_eqo, ev_tix, ev_pop0, ev_comp, ev_comp2, ev_iseq, ev_iown, ev_ienum, ev_izip, body_true, ex_skip, ex_seq, ex_set, ex_setM, ex_setB, ex_unp, ex_ixs, ex_ixa, ex_aug, ex_sfld, ex_ift, ex_for, ex_ret, ex_exp, biD, viewD, stp, List.map_map]
  rfl
/-- a test: which beginnings give the reply now -/
def tst (n : Net) (c r : Nat) (ps : Pl) : List Int := ps.map fun o => if o.bind (rp n c) = some r then 1 else 0
theorem rp_eq (o : Option Nat) (r : Nat) : dEq (encO o) (.int r) = some (decide (o = some r)) := by
  cases o with
  | none =>
    rw [show encO none = D.non from rfl, dEq_diff (cln_non _) (cln_int _ _) (by simp)]
    simp
  | some a =>
    by_cases e : a = r
    · subst e
      rw [show encO (some a) = D.int a from rfl, dEq_same (cln_int _ _)]
      simp
    · rw [show encO (some a) = D.int a from rfl, dEq_diff (cln_int _ _) (cln_int _ _) (by simp; omega)]
      simp [e]
theorem tests_of (k : Nat) (h : Hb) (ok : NetOk m n) {c : Nat} (hc : c < m) {ps : Pl} (hp : PlOk n ps) : (pg prg (k + 3)).call 10 [shD m n, .tup (ps.map encO), .int c] h = .ok (.lst ((List.range 3).map fun r => .lst ((tst n c r ps).map .int))) h := by
  rw [call_eq (fn := f_tests_of) rfl rfl]
  have sm := small ok
  have g4 : prg.glb[4]? = some (.int 2) := rfl
  simp only [startE, List.map, List.length, Nat.sub_self, Nat.reduceAdd, Nat.reduceSub, Nat.zero_add, List.replicate, List.append_nil, List.cons_append, List.nil_append, List.getElem?_cons_zero, List.getElem?_cons_succ, R.bind_ok, R.thn_ok, RS.thn_next, RS.thn_ret, outD_ret, outD_next, argsD, putN, List.set_cons_zero, List.set_cons_succ, wipeE, ev_var, ev_mvar, ev_none, ev_bool, ev_int, ev_str, ev_glb, ev_bin, ev_neg, ev_not, ev_and, ev_or, ev_cmp, ev_chn, ev_ife, ev_tup, ev_lst, ev_nil, ev_cons, ev_call, ev_meth, ev_mk, ev_bi, ev_min2, ev_isi, ev_len, ev_sub, ev_slc, ev_fld, ev_prop, ev_eqo, ev_tix, ev_pop0, ev_comp, ev_comp2, ev_iseq, ev_iown, ev_ienum, ev_izip, body_true, ex_skip, ex_seq, ex_set, ex_setM, ex_setB, ex_unp, ex_ixs, ex_ixa, ex_aug, ex_sfld, ex_ift, ex_for, ex_ret, ex_exp, f_tests_of, iterD]
  rw [catL_one (g := encO) (F := fun o => encO (o.bind (rp n c))) ps (fun o ho => by
    rw [compF_put _ _ _ rfl]
    simp only [startE, List.map, List.length, Nat.sub_self, Nat.reduceAdd, Nat.reduceSub, Nat.zero_add, List.replicate, List.append_nil, List.cons_append, List.nil_append, List.getElem?_cons_zero, List.getElem?_cons_succ, R.bind_ok, R.thn_ok, RS.thn_next, RS.thn_ret, outD_ret, outD_next, argsD, putN, List.set_cons_zero, List.set_cons_succ, wipeE, ev_var, ev_mvar, ev_none, ev_bool, ev_int, ev_str, ev_glb, ev_bin, ev_neg, ev_not, ev_and, ev_or, ev_cmp, ev_chn, ev_ife, ev_tup, ev_lst, ev_nil, ev_cons, ev_call, ev_meth, ev_mk, ev_bi, ev_min2, ev_isi, ev_len, ev_sub, ev_slc, ev_fld, ev_prop, ev_eqo, ev_tix, ev_pop0, ev_comp, ev_comp2, ev_iseq, ev_iown, ev_ienum, ev_izip, body_true, ex_skip, ex_seq, ex_set, ex_setM, ex_setB, ex_unp, ex_ixs, ex_ixa, ex_aug, ex_sfld, ex_ift, ex_for, ex_ret, ex_exp]
    rw [reply_of k h ok o (hp.2 o ho) hc]
    rfl)]
  simp only [startE, List.map, List.length, Nat.sub_self, Nat.reduceAdd, Nat.reduceSub, Nat.zero_add, List.replicate, List.append_nil, List.cons_append, List.nil_append, List.getElem?_cons_zero, List.getElem?_cons_succ, R.bind_ok, R.thn_ok, RS.thn_next, RS.thn_ret, outD_ret, outD_next, argsD, putN, List.set_cons_zero, List.set_cons_succ, wipeE, ev_var, ev_mvar, ev_none, ev_bool, ev_int, ev_str, ev_glb, ev_bin, ev_neg, ev_not, ev_and, ev_or, ev_cmp, ev_chn, ev_ife, ev_tup, ev_lst, ev_nil, ev_cons, ev_call, ev_meth, ev_mk, ev_bi, ev_min2, ev_isi, ev_len, ev_sub, ev_slc, ev_fld, ev_prop, ev_eqo, ev_tix, ev_pop0, ev_comp, ev_comp2, ev_iseq, ev_iown, ev_ienum, ev_izip, body_true, ex_skip, ex_seq, ex_set, ex_setM, ex_setB, ex_unp, ex_ixs, ex_ixa, ex_aug, ex_sfld, ex_ift, ex_for, ex_ret, ex_exp]
  rw [longD_ok (by rw [List.length_map, hp.1]; omega)]
  simp only [startE, List.map, List.length, Nat.sub_self, Nat.reduceAdd, Nat.reduceSub, Nat.zero_add, List.replicate, List.append_nil, List.cons_append, List.nil_append, List.getElem?_cons_zero, List.getElem?_cons_succ, R.bind_ok, R.thn_ok, RS.thn_next, RS.thn_ret, outD_ret, outD_next, argsD, putN, List.set_cons_zero, List.set_cons_succ, wipeE, ev_var, ev_mvar, ev_none, ev_bool, ev_int, ev_str, ev_glb, ev_bin, ev_neg, ev_not, ev_and, ev_or, ev_cmp, ev_chn, ev_ife, ev_tup, ev_lst, ev_nil, ev_cons, ev_call, ev_meth, ev_mk, ev_bi, ev_min2, ev_isi, ev_len, ev_sub, ev_slc, ev_fld, ev_prop, ev_eqo, ev_tix, ev_pop0, ev_comp, ev_comp2, ev_iseq, ev_iown, ev_ienum, ev_izip, body_true, ex_skip, ex_seq, ex_set, ex_setM, ex_setB, ex_unp, ex_ixs, ex_ixa, ex_aug, ex_sfld, ex_ift, ex_for, ex_ret, ex_exp]
  rw [irng_nat (n := 3) (h' := h) (by simp only [startE, List.map, List.length, Nat.sub_self, Nat.reduceAdd, Nat.reduceSub, Nat.zero_add, List.replicate, List.append_nil, List.cons_append, List.nil_append, List.getElem?_cons_zero, List.getElem?_cons_succ, R.bind_ok, R.thn_ok, RS.thn_next, RS.thn_ret, outD_ret, outD_next, argsD, putN, List.set_cons_zero, List.set_cons_succ, wipeE, ev_var, ev_mvar, ev_none, ev_bool, ev_int, ev_str, ev_glb, ev_bin, ev_neg, ev_not, ev_and, ev_or, ev_cmp, ev_chn, ev_ife, ev_tup, ev_lst, ev_nil, ev_cons, ev_call, ev_meth, ev_mk, ev_bi, ev_min2, ev_isi, ev_len, ev_sub, ev_slc, ev_fld, ev_prop, ev_eqo, ev_tix, ev_pop0, ev_comp, ev_comp2, ev_iseq, ev_iown, ev_ienum, ev_izip, body_true, ex_skip, ex_seq, ex_set, ex_setM, ex_setB, ex_unp, ex_ixs, ex_ixa, ex_aug, ex_sfld, ex_ift, ex_for, ex_ret, ex_exp, glb_ok, g4, binD]; rfl) (by decide)]
  simp only [startE, List.map, List.length, Nat.sub_self, Nat.reduceAdd, Nat.reduceSub, Nat.zero_add, List.replicate, List.append_nil, List.cons_append, List.nil_append, List.getElem?_cons_zero, List.getElem?_cons_succ, R.bind_ok, R.thn_ok, RS.thn_next, RS.thn_ret, outD_ret, outD_next, argsD, putN, List.set_cons_zero, List.set_cons_succ, wipeE, ev_var, ev_mvar, ev_none, ev_bool, ev_int, ev_str, ev_glb, ev_bin, ev_neg, ev_not, ev_and, ev_or, ev_cmp, ev_chn, ev_ife, ev_tup, ev_lst, ev_nil, ev_cons, ev_call, ev_meth, ev_mk, ev_bi, ev_min2, ev_isi, ev_len, ev_sub, ev_slc, ev_fld, ev_prop, ev_eqo, ev_tix, ev_pop0, ev_comp, ev_comp2, ev_iseq, ev_iown, ev_ienum, ev_izip, body_true, ex_skip, ex_seq, ex_set, ex_setM, ex_setB, ex_unp, ex_ixs, ex_ixa, ex_aug, ex_sfld, ex_ift, ex_for, ex_ret, ex_exp]
  rw [catL_one (g := fun r : Nat => D.int r) (F := fun r => .lst ((tst n c r ps).map .int)) (List.range 3) (fun r hr => by
    rw [compF_put _ _ _ rfl]
    simp only [startE, List.map, List.length, Nat.sub_self, Nat.reduceAdd, Nat.reduceSub, Nat.zero_add, List.replicate, List.append_nil, List.cons_append, List.nil_append, List.getElem?_cons_zero, List.getElem?_cons_succ, R.bind_ok, R.thn_ok, RS.thn_next, RS.thn_ret, outD_ret, outD_next, argsD, putN, List.set_cons_zero, List.set_cons_succ, wipeE, ev_var, ev_mvar, ev_none, ev_bool, ev_int, ev_str, ev_glb, ev_bin, ev_neg, ev_not, ev_and, ev_or, ev_cmp, ev_chn, ev_ife, ev_tup, ev_lst, ev_nil, ev_cons, ev_call, ev_meth, ev_mk, ev_bi, ev_min2, ev_isi, ev_len, ev_sub, ev_slc, ev_fld, ev_prop, ev_eqo, ev_tix, ev_pop0, ev_comp, ev_comp2, ev_iseq, ev_iown, ev_ienum, ev_izip, body_true, ex_skip, ex_seq, ex_set, ex_setM, ex_setB, ex_unp, ex_ixs, ex_ixa, ex_aug, ex_sfld, ex_ift, ex_for, ex_ret, ex_exp, iterD]
    rw [catL_one (g := fun o => encO (o.bind (rp n c))) (F := fun o => .int (if o.bind (rp n c) = some r then 1 else 0)) ps (fun o ho => by
      rw [compF_put _ _ _ rfl]
      have v1 : viewD h (encO (o.bind (rp n c))) = encO (o.bind (rp n c)) := by cases o.bind (rp n c) <;> rfl
      have v2 : viewD h (.int r) = .int r := rfl
      simp only [startE, List.map, List.length, Nat.sub_self, Nat.reduceAdd, Nat.reduceSub, Nat.zero_add, List.replicate, List.append_nil, List.cons_append, List.nil_append, List.getElem?_cons_zero, List.getElem?_cons_succ, R.bind_ok, R.thn_ok, RS.thn_next, RS.thn_ret, outD_ret, outD_next, argsD, putN, List.set_cons_zero, List.set_cons_succ, wipeE, ev_var, ev_mvar, ev_none, ev_bool, ev_int, ev_str, ev_glb, ev_bin, ev_neg, ev_not, ev_and, ev_or, ev_cmp, ev_chn, ev_ife, ev_tup, ev_lst, ev_nil, ev_cons, ev_call, ev_meth, ev_mk, ev_bi, ev_min2, ev_isi, ev_len, ev_sub, ev_slc, ev_fld, ev_prop, ev_eqo, ev_tix, ev_pop0, ev_comp, ev_comp2, ev_iseq, ev_iown, ev_ienum, ev_izip, body_true, ex_skip, ex_seq, ex_set, ex_setM, ex_setB, ex_unp, ex_ixs, ex_ixa, ex_aug, ex_sfld, ex_ift, ex_for, ex_ret, ex_exp, cmpD, v1, v2, rp_eq]
      by_cases e : o.bind (rp n c) = some r
      · simp [e, startE, List.map, List.length, Nat.sub_self, Nat.reduceAdd, Nat.reduceSub, Nat.zero_add, List.replicate, List.append_nil, List.cons_append, List.nil_append, List.getElem?_cons_zero, List.getElem?_cons_succ, R.bind_ok, R.thn_ok, RS.thn_next, RS.thn_ret, outD_ret, outD_next, argsD, putN, List.set_cons_zero, List.set_cons_succ, wipeE, ev_var, ev_mvar, ev_none, ev_bool, ev_int, ev_str, ev_glb, ev_bin, ev_neg, ev_not, ev_and, ev_or, ev_cmp, ev_chn, ev_ife, ev_tup, ev_lst, ev_nil, ev_cons, ev_call, ev_meth, ev_mk, ev_bi, ev_min2, ev_isi, ev_len, ev_sub, ev_slc, ev_fld, ev_prop, ev_eqo, ev_tix, ev_pop0, ev_comp, ev_comp2, ev_iseq, ev_iown, ev_ienum, ev_izip, body_true, ex_skip, ex_seq, ex_set, ex_setM, ex_setB, ex_unp, ex_ixs, ex_ixa, ex_aug, ex_sfld, ex_ift, ex_for, ex_ret, ex_exp]
      · simp [e, startE, List.map, List.length, Nat.sub_self, Nat.reduceAdd, Nat.reduceSub, Nat.zero_add, List.replicate, List.append_nil, List.cons_append, List.nil_append, List.getElem?_cons_zero, List.getElem?_cons_succ, R.bind_ok, R.thn_ok, RS.thn_next, RS.thn_ret, outD_ret, outD_next, argsD, putN, List.set_cons_zero, List.set_cons_succ, wipeE, ev_var, ev_mvar, ev_none, ev_bool, ev_int, ev_str, ev_glb, ev_bin, ev_neg, ev_not, ev_and, ev_or, ev_cmp, ev_chn, ev_ife, ev_tup, ev_lst, ev_nil, ev_cons, ev_call, ev_meth, ev_mk, ev_bi, ev_min2, ev_isi, ev_len, ev_sub, ev_slc, ev_fld, ev_prop, ev_eqo, ev_tix, ev_pop0, ev_comp, ev_comp2, ev_iseq, ev_iown, ev_ienum, ev_izip, body_true, ex_skip, ex_seq, ex_set, ex_setM, ex_setB, ex_unp, ex_ixs, ex_ixa, ex_aug, ex_sfld, ex_ift, ex_for, ex_ret, ex_exp])]
    simp only [startE, List.map, List.length, Nat.sub_self, Nat.reduceAdd, Nat.reduceSub, Nat.zero_add, List.replicate, List.append_nil, List.cons_append, List.nil_append, List.getElem?_cons_zero, List.getElem?_cons_succ, R.bind_ok, R.thn_ok, RS.thn_next, RS.thn_ret, outD_ret, outD_next, argsD, putN, List.set_cons_zero, List.set_cons_succ, wipeE, ev_var, ev_mvar, ev_none, ev_bool, ev_int, ev_str, ev_glb, ev_bin, ev_neg, ev_not, ev_and, ev_or, ev_cmp, ev_chn, ev_ife, ev_tup, ev_lst, ev_nil, ev_cons, ev_call, ev_meth, ev_mk, ev_bi, ev_min2, ev_isi, ev_len, ev_sub, ev_slc, ev_fld, ev_prop, ev_eqo, ev_tix, ev_pop0, ev_comp, ev_comp2, ev_iseq, ev_iown, ev_ienum, ev_izip, body_true, ex_skip, ex_seq, ex_set, ex_setM, ex_setB, ex_unp, ex_ixs, ex_ixa, ex_aug, ex_sfld, ex_ift, ex_for, ex_ret, ex_exp]
    rw [longD_ok (by rw [List.length_map, hp.1]; omega)]
    simp only [startE, List.map, List.length, Nat.sub_self, Nat.reduceAdd, Nat.reduceSub, Nat.zero_add, List.replicate, List.append_nil, List.cons_append, List.nil_append, List.getElem?_cons_zero, List.getElem?_cons_succ, R.bind_ok, R.thn_ok, RS.thn_next, RS.thn_ret, outD_ret, outD_next, argsD, putN, List.set_cons_zero, List.set_cons_succ, wipeE, ev_var, ev_mvar, ev_none, ev_bool, ev_int, ev_str, ev_glb, ev_bin, ev_neg, ev_not, ev_and, ev_or, ev_cmp, ev_chn, ev_ife, ev_tup, ev_lst, ev_nil, ev_cons, ev_call, ev_meth, ev_mk, ev_bi, ev_min2, ev_isi, ev_len, ev_sub, ev_slc, ev_fld, ev_prop, ev_eqo, ev_tix, ev_pop0, ev_comp, ev_comp2, ev_iseq, ev_iown, ev_ienum, ev_izip, body_true, ex_skip, ex_seq, ex_set, ex_setM, ex_setB, ex_unp, ex_ixs, ex_ixa, ex_aug, ex_sfld, ex_ift, ex_for, ex_ret, ex_exp, tst, List.map_map]
    rfl)]
  simp only [startE, List.map, List.length, Nat.sub_self, Nat.reduceAdd, Nat.reduceSub, Nat.zero_add, List.replicate, List.append_nil, List.cons_append, List.nil_append, List.getElem?_cons_zero, List.getElem?_cons_succ, R.bind_ok, R.thn_ok, RS.thn_next, RS.thn_ret, outD_ret, outD_next, argsD, putN, List.set_cons_zero, List.set_cons_succ, wipeE, ev_var, ev_mvar, ev_none, ev_bool, ev_int, ev_str, ev_glb, ev_bin, ev_neg, ev_not, ev_and, ev_or, ev_cmp, ev_chn, ev_ife, ev_tup, ev_lst, ev_nil, ev_cons, ev_call, ev_meth, ev_mk, ev_bi, ev_min2, ev_isi, ev_len, ev_sub, ev_slc, ev_fld, ev_prop, ev_eqo, ev_tix, ev_pop0, ev_comp, ev_comp2, ev_iseq, ev_iown, ev_ienum, ev_izip, body_true, ex_skip, ex_seq, ex_set, ex_setM, ex_setB, ex_unp, ex_ixs, ex_ixa, ex_aug, ex_sfld, ex_ift, ex_for, ex_ret, ex_exp]
  rw [longD_ok (by simp)]
  rfl
end K01

set_option Elab.async false
set_option linter.all false
set_option maxRecDepth 100000
set_option maxHeartbeats 1000000
/-! What the program's defs give: crowds. -/
namespace K01
open PySem CC
variable {m : Nat} {n : Net}
structure CrOk (n : Net) (v : List Int) : Prop where
  len : v.length = (spots n).length
  rng : ∀ x ∈ v, 0 ≤ x ∧ x ≤ 20
theorem check_shelf (k : Nat) (h : Hb) : (pg prg (k + 1)).call 4 [shD m n] h = .ok .non h := by
  rw [call_eq (fn := f_check_shelf) rfl rfl]
  have t : isTy (.own 0) (shD m n) = true := rfl
  simp only [startE, List.map, List.length, Nat.sub_self, Nat.reduceAdd, Nat.reduceSub, Nat.zero_add, List.replicate, List.append_nil, List.cons_append, List.nil_append, List.getElem?_cons_zero, List.getElem?_cons_succ, R.bind_ok, R.thn_ok, RS.thn_next, RS.thn_ret, outD_ret, outD_next, argsD, putN, List.set_cons_zero, List.set_cons_succ, wipeE, ev_var, ev_mvar, ev_none, ev_bool, ev_int, ev_str, ev_glb, ev_bin, ev_neg, ev_not, ev_and, ev_or, ev_cmp, ev_chn, ev_ife, ev_tup, ev_lst, ev_nil, ev_cons, ev_call, ev_meth, ev_mk, ev_bi, ev_min2, ev_isi, ev_len, ev_sub, ev_slc, ev_fld, ev_prop, ev_eqo, ev_tix, ev_pop0, ev_comp, ev_comp2, ev_iseq, ev_iown, ev_ienum, ev_izip, body_true, ex_skip, ex_seq, ex_set, ex_setM, ex_setB, ex_unp, ex_ixs, ex_ixa, ex_aug, ex_sfld, ex_ift, ex_for, ex_ret, ex_exp, f_check_shelf, List.any, t, Bool.or_false, Bool.not_true]
theorem is_crowd (k : Nat) (h : Hb) (ok : NetOk m n) {v : List Int} (hv : CrOk n v) : (pg prg (k + 2)).call 11 [shD m n, .tup (v.map .int)] h = .ok (.bl true) h := by
  rw [call_eq (fn := f_is_crowd) rfl rfl]
  have sm := small ok
  have l := len_shelf k h ok
  have d : dEq (.int v.length) (.int (spots n).length) = some true := dEq_nat _ _ hv.len
  have t : isTy .tuple (.tup (v.map .int)) = true := rfl
  have g5 : prg.glb[5]? = some (.int 20) := rfl
  have lt : ∀ h, lenD (pg prg (k + 1)) (.tup (v.map .int)) h = .ok (.int v.length) h := fun h => by simp only [lenD, viewD, List.length_map]
  simp only [startE, List.map, List.length, Nat.sub_self, Nat.reduceAdd, Nat.reduceSub, Nat.zero_add, List.replicate, List.append_nil, List.cons_append, List.nil_append, List.getElem?_cons_zero, List.getElem?_cons_succ, R.bind_ok, R.thn_ok, RS.thn_next, RS.thn_ret, outD_ret, outD_next, argsD, putN, List.set_cons_zero, List.set_cons_succ, wipeE, ev_var, ev_mvar, ev_none, ev_bool, ev_int, ev_str, ev_glb, ev_bin, ev_neg, ev_not, ev_and, ev_or, ev_cmp, ev_chn, ev_ife, ev_tup, ev_lst, ev_nil, ev_cons, ev_call, ev_meth, ev_mk, ev_bi, ev_min2, ev_isi, ev_len, ev_sub, ev_slc, ev_fld, ev_prop, ev_eqo, ev_tix, ev_pop0, ev_comp, ev_comp2, ev_iseq, ev_iown, ev_ienum, ev_izip, body_true, ex_skip, ex_seq, ex_set, ex_setM, ex_setB, ex_unp, ex_ixs, ex_ixa, ex_aug, ex_sfld, ex_ift, ex_for, ex_ret, ex_exp, f_is_crowd, List.any, t, Bool.or_false, Bool.not_true, lt, l, cmpD, viewD, d, iterD]
  rw [catL_one (g := D.int) (F := fun _ => .bl true) v (fun x hx => by
    rw [compF_put _ _ _ rfl]
    simp only [startE, List.map, List.length, Nat.sub_self, Nat.reduceAdd, Nat.reduceSub, Nat.zero_add, List.replicate, List.append_nil, List.cons_append, List.nil_append, List.getElem?_cons_zero, List.getElem?_cons_succ, R.bind_ok, R.thn_ok, RS.thn_next, RS.thn_ret, outD_ret, outD_next, argsD, putN, List.set_cons_zero, List.set_cons_succ, wipeE, ev_var, ev_mvar, ev_none, ev_bool, ev_int, ev_str, ev_glb, ev_bin, ev_neg, ev_not, ev_and, ev_or, ev_cmp, ev_chn, ev_ife, ev_tup, ev_lst, ev_nil, ev_cons, ev_call, ev_meth, ev_mk, ev_bi, ev_min2, ev_isi, ev_len, ev_sub, ev_slc, ev_fld, ev_prop, ev_eqo, ev_tix, ev_pop0, ev_comp, ev_comp2, ev_iseq, ev_iown, ev_ienum, ev_izip, body_true, ex_skip, ex_seq, ex_set, ex_setM, ex_setB, ex_unp, ex_ixs, ex_ixa, ex_aug, ex_sfld, ex_ift, ex_for, ex_ret, ex_exp, glb_ok, g5]
    rw [isint k x 0 20 h]
    have := hv.rng x hx
    have e : (decide ((0 : Int) ≤ x) && decide (x ≤ 20)) = true := by simp; omega
    rw [e]
    rfl)]
  simp only [startE, List.map, List.length, Nat.sub_self, Nat.reduceAdd, Nat.reduceSub, Nat.zero_add, List.replicate, List.append_nil, List.cons_append, List.nil_append, List.getElem?_cons_zero, List.getElem?_cons_succ, R.bind_ok, R.thn_ok, RS.thn_next, RS.thn_ret, outD_ret, outD_next, argsD, putN, List.set_cons_zero, List.set_cons_succ, wipeE, ev_var, ev_mvar, ev_none, ev_bool, ev_int, ev_str, ev_glb, ev_bin, ev_neg, ev_not, ev_and, ev_or, ev_cmp, ev_chn, ev_ife, ev_tup, ev_lst, ev_nil, ev_cons, ev_call, ev_meth, ev_mk, ev_bi, ev_min2, ev_isi, ev_len, ev_sub, ev_slc, ev_fld, ev_prop, ev_eqo, ev_tix, ev_pop0, ev_comp, ev_comp2, ev_iseq, ev_iown, ev_ienum, ev_izip, body_true, ex_skip, ex_seq, ex_set, ex_setM, ex_setB, ex_unp, ex_ixs, ex_ixa, ex_aug, ex_sfld, ex_ift, ex_for, ex_ret, ex_exp]
  rw [longD_ok (by rw [List.length_map, hv.len]; omega)]
  simp only [startE, List.map, List.length, Nat.sub_self, Nat.reduceAdd, Nat.reduceSub, Nat.zero_add, List.replicate, List.append_nil, List.cons_append, List.nil_append, List.getElem?_cons_zero, List.getElem?_cons_succ, R.bind_ok, R.thn_ok, RS.thn_next, RS.thn_ret, outD_ret, outD_next, argsD, putN, List.set_cons_zero, List.set_cons_succ, wipeE, ev_var, ev_mvar, ev_none, ev_bool, ev_int, ev_str, ev_glb, ev_bin, ev_neg, ev_not, ev_and, ev_or, ev_cmp, ev_chn, ev_ife, ev_tup, ev_lst, ev_nil, ev_cons, ev_call, ev_meth, ev_mk, ev_bi, ev_min2, ev_isi, ev_len, ev_sub, ev_slc, ev_fld, ev_prop, ev_eqo, ev_tix, ev_pop0, ev_comp, ev_comp2, ev_iseq, ev_iown, ev_ienum, ev_izip, body_true, ex_skip, ex_seq, ex_set, ex_setM, ex_setB, ex_unp, ex_ixs, ex_ixa, ex_aug, ex_sfld, ex_ift, ex_for, ex_ret, ex_exp, biD, bools_map fun _ : Int => true, all_true]
theorem check_crowd (k : Nat) (h : Hb) (ok : NetOk m n) {v : List Int} (hv : CrOk n v) : (pg prg (k + 3)).call 12 [shD m n, .tup (v.map .int)] h = .ok .non h := by
  rw [call_eq (fn := f_check_crowd) rfl rfl]
  have c1 : (pg prg (k + 2)).call 4 [shD m n] h = .ok .non h := check_shelf (k + 1) h
  simp only [startE, List.map, List.length, Nat.sub_self, Nat.reduceAdd, Nat.reduceSub, Nat.zero_add, List.replicate, List.append_nil, List.cons_append, List.nil_append, List.getElem?_cons_zero, List.getElem?_cons_succ, R.bind_ok, R.thn_ok, RS.thn_next, RS.thn_ret, outD_ret, outD_next, argsD, putN, List.set_cons_zero, List.set_cons_succ, wipeE, ev_var, ev_mvar, ev_none, ev_bool, ev_int, ev_str, ev_glb, ev_bin, ev_neg, ev_not, ev_and, ev_or, ev_cmp, ev_chn, ev_ife, ev_tup, ev_lst, ev_nil, ev_cons, ev_call, ev_meth, ev_mk, ev_bi, ev_min2, ev_isi, ev_len, ev_sub, ev_slc, ev_fld, ev_prop, ev_eqo, ev_tix, ev_pop0, ev_comp, ev_comp2, ev_iseq, ev_iown, ev_ienum, ev_izip, body_true, ex_skip, ex_seq, ex_set, ex_setM, ex_setB, ex_unp, ex_ixs, ex_ixa, ex_aug, ex_sfld, ex_ift, ex_for, ex_ret, ex_exp, f_check_crowd, c1, is_crowd k h ok hv, Bool.not_true]
theorem is_call (k : Nat) (h : Hb) {c : Nat} (hc : c < m) : (pg prg (k + 2)).call 13 [shD m n, .int c] h = .ok (.bl true) h := by
  rw [call_eq (fn := f_is_call) rfl rfl]
  simp only [startE, List.map, List.length, Nat.sub_self, Nat.reduceAdd, Nat.reduceSub, Nat.zero_add, List.replicate, List.append_nil, List.cons_append, List.nil_append, List.getElem?_cons_zero, List.getElem?_cons_succ, R.bind_ok, R.thn_ok, RS.thn_next, RS.thn_ret, outD_ret, outD_next, argsD, putN, List.set_cons_zero, List.set_cons_succ, wipeE, ev_var, ev_mvar, ev_none, ev_bool, ev_int, ev_str, ev_glb, ev_bin, ev_neg, ev_not, ev_and, ev_or, ev_cmp, ev_chn, ev_ife, ev_tup, ev_lst, ev_nil, ev_cons, ev_call, ev_meth, ev_mk, ev_bi, ev_min2, ev_isi, ev_len, ev_sub, ev_slc, ev_fld, ev_prop, ev_eqo, ev_tix, ev_pop0, ev_comp, ev_comp2, ev_iseq, ev_iown, ev_ienum, ev_izip, body_true, ex_skip, ex_seq, ex_set, ex_setM, ex_setB, ex_unp, ex_ixs, ex_ixa, ex_aug, ex_sfld, ex_ift, ex_for, ex_ret, ex_exp, f_is_call, shD, fix1, binD]
  rw [isint k]
  have e : (decide ((0 : Int) ≤ (c : Int)) && decide ((c : Int) ≤ (m : Int) - 1)) = true := by simp; omega
  rw [e]
  rfl
/-- a row of calls, as a list or a tuple -/
structure RowD (d : D) (cs : List Nat) : Prop where
  ty : (isTy .list d || isTy .tuple d) = true
  len : ∀ G h, lenD G d h = .ok (.int cs.length) h
  seq : seqD d = some (cs.map fun c => .int (c : Nat))
  itr : ∀ h, iterD d h = .ok (cs.map fun c => .int (c : Nat)) h
theorem row_lst (cs : List Nat) : RowD (.lst (cs.map fun c => .int (c : Nat))) cs := ⟨rfl, fun G h => by simp only [lenD, viewD, List.length_map], rfl, fun _ => rfl⟩
theorem row_tup (cs : List Nat) : RowD (.tup (cs.map fun c => .int (c : Nat))) cs := ⟨rfl, fun G h => by simp only [lenD, viewD, List.length_map], rfl, fun _ => rfl⟩
theorem check_row (k : Nat) (h : Hb) {d : D} {cs : List Nat} (hd : RowD d cs) (hl : cs.length ≤ 12) (hc : ∀ c ∈ cs, c < m) : (pg prg (k + 3)).call 14 [shD m n, d] h = .ok .non h := by
  rw [call_eq (fn := f_check_row) rfl rfl]
  have g6 : prg.glb[6]? = some (.int 12) := rfl
  have c1 : decide ((12 : Int) < (cs.length : Int)) = false := by simp; omega
  have ty : ([Ty.list, Ty.tuple].any fun t => isTy t d) = true := by
    simp only [List.any, Bool.or_false]
    exact hd.ty
  simp only [startE, List.map, List.length, Nat.sub_self, Nat.reduceAdd, Nat.reduceSub, Nat.zero_add, List.replicate, List.append_nil, List.cons_append, List.nil_append, List.getElem?_cons_zero, List.getElem?_cons_succ, R.bind_ok, R.thn_ok, RS.thn_next, RS.thn_ret, outD_ret, outD_next, argsD, putN, List.set_cons_zero, List.set_cons_succ, wipeE, ev_var, ev_mvar, ev_none, ev_bool, ev_int, ev_str, ev_glb, ev_bin, ev_neg, ev_not, ev_and, ev_or, ev_cmp, ev_chn, ev_ife, ev_tup, ev_lst, ev_nil, ev_cons, ev_call, ev_meth, ev_mk, ev_bi, ev_min2, ev_isi, ev_len, ev_sub, ev_slc, ev_fld, ev_prop, ev_eqo, ev_tix, ev_pop0, ev_comp, ev_comp2, ev_iseq, ev_iown, ev_ienum, ev_izip, body_true, ex_skip, ex_seq, ex_set, ex_setM, ex_setB, ex_unp, ex_ixs, ex_ixa, ex_aug, ex_sfld, ex_ift, ex_for, ex_ret, ex_exp, f_check_row, ty, Bool.not_true, hd.len, cmpD, glb_ok, g6, c1, hd.seq]
  obtain ⟨e', h', q1, q2⟩ := forL_inv (f := fBody (pg prg (k + 2)) (.many [2, 3]) b_check_row_0) (fun j e1 h1 => ∃ a b, e1 = [some (shD m n), some d, a, b] ∧ h1 = h) (enumD 0 (cs.map fun c => D.int (c : Nat))) 0 [some (shD m n), some d, none, none] h ⟨_, _, rfl, rfl⟩ (fun i x e1 h1 hx p => by
    obtain ⟨a, b, rfl, rfl⟩ := p
    obtain ⟨y, hy, rfl⟩ := enum_get _ _ _ _ hx
    rw [List.getElem?_map, Option.map_eq_some_iff] at hy
    obtain ⟨c, hcc, rfl⟩ := hy
    refine ⟨_, _, ?_, some (.int (0 + i : Nat)), some (.int (c : Nat)), rfl, rfl⟩
    rw [fBody_put _ _ _ rfl]
    simp only [startE, List.map, List.length, Nat.sub_self, Nat.reduceAdd, Nat.reduceSub, Nat.zero_add, List.replicate, List.append_nil, List.cons_append, List.nil_append, List.getElem?_cons_zero, List.getElem?_cons_succ, R.bind_ok, R.thn_ok, RS.thn_next, RS.thn_ret, outD_ret, outD_next, argsD, putN, List.set_cons_zero, List.set_cons_succ, wipeE, ev_var, ev_mvar, ev_none, ev_bool, ev_int, ev_str, ev_glb, ev_bin, ev_neg, ev_not, ev_and, ev_or, ev_cmp, ev_chn, ev_ife, ev_tup, ev_lst, ev_nil, ev_cons, ev_call, ev_meth, ev_mk, ev_bi, ev_min2, ev_isi, ev_len, ev_sub, ev_slc, ev_fld, ev_prop, ev_eqo, ev_tix, ev_pop0, ev_comp, ev_comp2, ev_iseq, ev_iown, ev_ienum, ev_izip, body_true, ex_skip, ex_seq, ex_set, ex_setM, ex_setB, ex_unp, ex_ixs, ex_ixa, ex_aug, ex_sfld, ex_ift, ex_for, ex_ret, ex_exp, b_check_row_0, List.zip, List.zipWith, List.foldl]
    rw [is_call k h1 (hc c (List.mem_of_getElem? hcc))]
    simp only [startE, List.map, List.length, Nat.sub_self, Nat.reduceAdd, Nat.reduceSub, Nat.zero_add, List.replicate, List.append_nil, List.cons_append, List.nil_append, List.getElem?_cons_zero, List.getElem?_cons_succ, R.bind_ok, R.thn_ok, RS.thn_next, RS.thn_ret, outD_ret, outD_next, argsD, putN, List.set_cons_zero, List.set_cons_succ, wipeE, ev_var, ev_mvar, ev_none, ev_bool, ev_int, ev_str, ev_glb, ev_bin, ev_neg, ev_not, ev_and, ev_or, ev_cmp, ev_chn, ev_ife, ev_tup, ev_lst, ev_nil, ev_cons, ev_call, ev_meth, ev_mk, ev_bi, ev_min2, ev_isi, ev_len, ev_sub, ev_slc, ev_fld, ev_prop, ev_eqo, ev_tix, ev_pop0, ev_comp, ev_comp2, ev_iseq, ev_iown, ev_ienum, ev_izip, body_true, ex_skip, ex_seq, ex_set, ex_setM, ex_setB, ex_unp, ex_ixs, ex_ixa, ex_aug, ex_sfld, ex_ift, ex_for, ex_ret, ex_exp, Bool.not_true])
  obtain ⟨a, b, rfl, rfl⟩ := q2
  rw [q1]
  simp only [startE, List.map, List.length, Nat.sub_self, Nat.reduceAdd, Nat.reduceSub, Nat.zero_add, List.replicate, List.append_nil, List.cons_append, List.nil_append, List.getElem?_cons_zero, List.getElem?_cons_succ, R.bind_ok, R.thn_ok, RS.thn_next, RS.thn_ret, outD_ret, outD_next, argsD, putN, List.set_cons_zero, List.set_cons_succ, wipeE, ev_var, ev_mvar, ev_none, ev_bool, ev_int, ev_str, ev_glb, ev_bin, ev_neg, ev_not, ev_and, ev_or, ev_cmp, ev_chn, ev_ife, ev_tup, ev_lst, ev_nil, ev_cons, ev_call, ev_meth, ev_mk, ev_bi, ev_min2, ev_isi, ev_len, ev_sub, ev_slc, ev_fld, ev_prop, ev_eqo, ev_tix, ev_pop0, ev_comp, ev_comp2, ev_iseq, ev_iown, ev_ienum, ev_izip, body_true, ex_skip, ex_seq, ex_set, ex_setM, ex_setB, ex_unp, ex_ixs, ex_ixa, ex_aug, ex_sfld, ex_ift, ex_for, ex_ret, ex_exp]
/-- the sum of what a test marks -/
def dotI (v t : List Int) : Int := ((v.zip t).map fun q => if q.2 = 1 then q.1 else 0).sum
theorem zipD_map : ∀ (v t : List Int), zipD (v.map .int) (t.map .int) = (v.zip t).map fun q => .tup [.int q.1, .int q.2]
  | [], _ => by cases (inferInstance : Inhabited Unit); simp [zipD]
  | _ :: _, [] => by simp [zipD]
  | a :: v, b :: t => by simp [zipD, zipD_map v t]
theorem dInts_map {α : Type} (f : α → Int) : ∀ l : List α, dInts (l.map fun a => .int (f a)) = some (l.map f)
  | [] => rfl
  | a :: r => by
    show (dInts (r.map fun a => .int (f a))).map (f a :: ·) = _
    rw [dInts_map f r]
    rfl
theorem dInts_int (l : List Int) : dInts (l.map .int) = some l := by
  have := dInts_map (fun a : Int => a) l
  simpa using this
theorem sum_filter (l : List (Int × Int)) : ((l.filter fun q => decide (q.2 = 1)).map (·.1)).sum = (l.map fun q => if q.2 = 1 then q.1 else 0).sum := by
  induction l with
  | nil => rfl
  | cons a r ih =>
    rw [List.filter_cons]
    by_cases h : a.2 = 1
    · simp [h, ih]
    · simp [h, ih]
theorem summed (k : Nat) (h : Hb) (v t : List Int) (hl : v.length ≤ 1000) : (pg prg (k + 1)).call 15 [.tup (v.map .int), .lst (t.map .int)] h = .ok (.int (dotI v t)) h := by
  rw [call_eq (fn := f_summed) rfl rfl]
  have q1 : seqD (.tup (v.map .int)) = some (v.map .int) := rfl
  have q2 : seqD (.lst (t.map .int)) = some (t.map .int) := rfl
  simp only [startE, List.map, List.length, Nat.sub_self, Nat.reduceAdd, Nat.reduceSub, Nat.zero_add, List.replicate, List.append_nil, List.cons_append, List.nil_append, List.getElem?_cons_zero, List.getElem?_cons_succ, R.bind_ok, R.thn_ok, RS.thn_next, RS.thn_ret, outD_ret, outD_next, argsD, putN, List.set_cons_zero, List.set_cons_succ, wipeE, ev_var, ev_mvar, ev_none, ev_bool, ev_int, ev_str, ev_glb, ev_bin, ev_neg, ev_not, ev_and, ev_or, ev_cmp, ev_chn, ev_ife, ev_tup, ev_lst, ev_nil, ev_cons, ev_call, ev_meth, ev_mk, ev_bi, ev_min2, ev_isi, ev_len, ev_sub, ev_slc, ev_fld, ev_prop, ev_eqo, ev_tix, ev_pop0, ev_comp, ev_comp2, ev_iseq, ev_iown, ev_ienum, ev_izip, body_true, ex_skip, ex_seq, ex_set, ex_setM, ex_setB, ex_unp, ex_ixs, ex_ixa, ex_aug, ex_sfld, ex_ift, ex_for, ex_ret, ex_exp, f_summed, q1, q2, zipD_map]
  rw [catL_if (g := fun q : Int × Int => D.tup [.int q.1, .int q.2]) (F := fun q => .int q.1) (p := fun q => decide (q.2 = 1)) (v.zip t) (fun q hq => by
    rw [compF_put _ _ _ rfl]
    have e1 : dEq (.int q.2) (.int 1) = some (decide (q.2 = 1)) := by
      by_cases e : q.2 = 1
      · rw [e, dEq_same (cln_int _ _)]; simp
      · rw [dEq_diff (cln_int _ _) (cln_int _ _) (by simpa using e)]; simp [e]
    simp only [startE, List.map, List.length, Nat.sub_self, Nat.reduceAdd, Nat.reduceSub, Nat.zero_add, List.replicate, List.append_nil, List.cons_append, List.nil_append, List.getElem?_cons_zero, List.getElem?_cons_succ, R.bind_ok, R.thn_ok, RS.thn_next, RS.thn_ret, outD_ret, outD_next, argsD, putN, List.set_cons_zero, List.set_cons_succ, wipeE, ev_var, ev_mvar, ev_none, ev_bool, ev_int, ev_str, ev_glb, ev_bin, ev_neg, ev_not, ev_and, ev_or, ev_cmp, ev_chn, ev_ife, ev_tup, ev_lst, ev_nil, ev_cons, ev_call, ev_meth, ev_mk, ev_bi, ev_min2, ev_isi, ev_len, ev_sub, ev_slc, ev_fld, ev_prop, ev_eqo, ev_tix, ev_pop0, ev_comp, ev_comp2, ev_iseq, ev_iown, ev_ienum, ev_izip, body_true, ex_skip, ex_seq, ex_set, ex_setM, ex_setB, ex_unp, ex_ixs, ex_ixa, ex_aug, ex_sfld, ex_ift, ex_for, ex_ret, ex_exp, body_if, cmpD, viewD, List.zip, List.zipWith, List.foldl, e1]
    by_cases e : q.2 = 1
    · simp [e, startE, List.map, List.length, Nat.sub_self, Nat.reduceAdd, Nat.reduceSub, Nat.zero_add, List.replicate, List.append_nil, List.cons_append, List.nil_append, List.getElem?_cons_zero, List.getElem?_cons_succ, R.bind_ok, R.thn_ok, RS.thn_next, RS.thn_ret, outD_ret, outD_next, argsD, putN, List.set_cons_zero, List.set_cons_succ, wipeE, ev_var, ev_mvar, ev_none, ev_bool, ev_int, ev_str, ev_glb, ev_bin, ev_neg, ev_not, ev_and, ev_or, ev_cmp, ev_chn, ev_ife, ev_tup, ev_lst, ev_nil, ev_cons, ev_call, ev_meth, ev_mk, ev_bi, ev_min2, ev_isi, ev_len, ev_sub, ev_slc, ev_fld, ev_prop, ev_eqo, ev_tix, ev_pop0, ev_comp, ev_comp2, ev_iseq, ev_iown, ev_ienum, ev_izip, body_true, ex_skip, ex_seq, ex_set, ex_setM, ex_setB, ex_unp, ex_ixs, ex_ixa, ex_aug, ex_sfld, ex_ift, ex_for, ex_ret, ex_exp]
    · simp [e, startE, List.map, List.length, Nat.sub_self, Nat.reduceAdd, Nat.reduceSub, Nat.zero_add, List.replicate, List.append_nil, List.cons_append, List.nil_append, List.getElem?_cons_zero, List.getElem?_cons_succ, R.bind_ok, R.thn_ok, RS.thn_next, RS.thn_ret, outD_ret, outD_next, argsD, putN, List.set_cons_zero, List.set_cons_succ, wipeE, ev_var, ev_mvar, ev_none, ev_bool, ev_int, ev_str, ev_glb, ev_bin, ev_neg, ev_not, ev_and, ev_or, ev_cmp, ev_chn, ev_ife, ev_tup, ev_lst, ev_nil, ev_cons, ev_call, ev_meth, ev_mk, ev_bi, ev_min2, ev_isi, ev_len, ev_sub, ev_slc, ev_fld, ev_prop, ev_eqo, ev_tix, ev_pop0, ev_comp, ev_comp2, ev_iseq, ev_iown, ev_ienum, ev_izip, body_true, ex_skip, ex_seq, ex_set, ex_setM, ex_setB, ex_unp, ex_ixs, ex_ixa, ex_aug, ex_sfld, ex_ift, ex_for, ex_ret, ex_exp])]
  simp only [startE, List.map, List.length, Nat.sub_self, Nat.reduceAdd, Nat.reduceSub, Nat.zero_add, List.replicate, List.append_nil, List.cons_append, List.nil_append, List.getElem?_cons_zero, List.getElem?_cons_succ, R.bind_ok, R.thn_ok, RS.thn_next, RS.thn_ret, outD_ret, outD_next, argsD, putN, List.set_cons_zero, List.set_cons_succ, wipeE, ev_var, ev_mvar, ev_none, ev_bool, ev_int, ev_str, ev_glb, ev_bin, ev_neg, ev_not, ev_and, ev_or, ev_cmp, ev_chn, ev_ife, ev_tup, ev_lst, ev_nil, ev_cons, ev_call, ev_meth, ev_mk, ev_bi, ev_min2, ev_isi, ev_len, ev_sub, ev_slc, ev_fld, ev_prop, ev_eqo, ev_tix, ev_pop0, ev_comp, ev_comp2, ev_iseq, ev_iown, ev_ienum, ev_izip, body_true, ex_skip, ex_seq, ex_set, ex_setM, ex_setB, ex_unp, ex_ixs, ex_ixa, ex_aug, ex_sfld, ex_ift, ex_for, ex_ret, ex_exp]
  rw [longD_ok (by
    have := List.length_filter_le (fun q : Int × Int => decide (q.2 = 1)) (v.zip t)
    rw [List.length_zip] at this
    rw [List.length_map]
    omega)]
  simp only [startE, List.map, List.length, Nat.sub_self, Nat.reduceAdd, Nat.reduceSub, Nat.zero_add, List.replicate, List.append_nil, List.cons_append, List.nil_append, List.getElem?_cons_zero, List.getElem?_cons_succ, R.bind_ok, R.thn_ok, RS.thn_next, RS.thn_ret, outD_ret, outD_next, argsD, putN, List.set_cons_zero, List.set_cons_succ, wipeE, ev_var, ev_mvar, ev_none, ev_bool, ev_int, ev_str, ev_glb, ev_bin, ev_neg, ev_not, ev_and, ev_or, ev_cmp, ev_chn, ev_ife, ev_tup, ev_lst, ev_nil, ev_cons, ev_call, ev_meth, ev_mk, ev_bi, ev_min2, ev_isi, ev_len, ev_sub, ev_slc, ev_fld, ev_prop, ev_eqo, ev_tix, ev_pop0, ev_comp, ev_comp2, ev_iseq, ev_iown, ev_ienum, ev_izip, body_true, ex_skip, ex_seq, ex_set, ex_setM, ex_setB, ex_unp, ex_ixs, ex_ixa, ex_aug, ex_sfld, ex_ift, ex_for, ex_ret, ex_exp, biD, viewD, dInts_map, sum_filter]
  rfl
end K01

set_option Elab.async false
set_option linter.all false
set_option maxRecDepth 100000
set_option maxHeartbeats 1000000
/-! What the program's defs give: what is heard, and crowds behind rows. -/
namespace K01
open PySem CC
variable {m : Nat} {n : Net}
theorem call_by {p : Prg} {k f : Nat} {fn : Fn} {ds : List D} {hh : Hb} {r : R D} (h : p.fns[f]? = some fn) (hl : ds.length = fn.np) (G : Pg) (hG : G = pg p k) (hb : outD (exc G fn.body (startE fn.nn ds) hh) = r) : (pg p (k + 1)).call f ds hh = r := by
  subst hG
  rw [call_eq h hl]
  exact hb
theorem aG (G : Pg) : ∃ G', G' = G := ⟨_, rfl⟩
def encI (l : List Int) : D := .tup (l.map .int)
def cD (cs : List Nat) : List D := cs.map fun c => .int (c : Nat)
/-- what is heard at a call -/
def tri (n : Net) (v : List Int) (ps : Pl) (c : Nat) : List Int := (List.range 3).map fun r => dotI v (tst n c r ps)
def hear (n : Net) (v : List Int) : Pl → List Nat → List (List Int)
  | _, [] => []
  | ps, c :: r => tri n v ps c :: hear n v (stp n c ps) r
theorem hear_len (v : List Int) : ∀ (cs : List Nat) (ps : Pl), (hear n v ps cs).length = cs.length
  | [], _ => rfl
  | c :: r, ps => by simp [hear, hear_len v r]
def runP (n : Net) : Pl → List Nat → Pl
  | ps, [] => ps
  | ps, c :: r => runP n (stp n c ps) r
theorem runP_ok (ok : NetOk m n) : ∀ (cs : List Nat) {ps : Pl}, (∀ c ∈ cs, c < m) → PlOk n ps → PlOk n (runP n ps cs)
  | [], _, _, h => h
  | c :: r, _, hc, h => runP_ok ok r (fun c h => hc c (List.mem_cons_of_mem _ h)) (stp_ok ok (hc c List.mem_cons_self) h)
theorem heard_step (k : Nat) (h : Hb) (ok : NetOk m n) (v : List Int) (hv : v.length ≤ 1000) (x : Option D) {c : Nat} (hc : c < m) {ps : Pl} (hp : PlOk n ps) (acc : List D) (ha : acc.length < 1000) :
    exc (pg prg (k + 3)) b_heard_by_0 [some (shD m n), some (encI v), x, some (.int c), some (.tup (ps.map encO)), some (.lst acc), none] h = .next [some (shD m n), some (encI v), x, some (.int c), some (.tup ((stp n c ps).map encO)), some (.lst (acc ++ [encI (tri n v ps c)])), none] h := by
  have t1 := tests_of k h ok hc hp
  have p1 := places_after k h ok hc hp
  unfold b_heard_by_0
  rw [ex_seq, app_ok (x := encI (tri n v ps c)) (l := acc) (h1 := h) ?_ rfl (by omega)]
  · simp only [startE, List.map, List.length, Nat.sub_self, Nat.reduceAdd, Nat.reduceSub, Nat.zero_add, List.replicate, List.append_nil, List.cons_append, List.nil_append, List.getElem?_cons_zero, List.getElem?_cons_succ, R.bind_ok, R.thn_ok, RS.thn_next, RS.thn_ret, outD_ret, outD_next, argsD, putN, List.set_cons_zero, List.set_cons_succ, wipeE, ev_var, ev_mvar, ev_none, ev_bool, ev_int, ev_str, ev_glb, ev_bin, ev_neg, ev_not, ev_and, ev_or, ev_cmp, ev_chn, ev_ife, ev_tup, ev_lst, ev_nil, ev_cons, ev_call, ev_meth, ev_mk, ev_bi, ev_min2, ev_isi, ev_len, ev_sub, ev_slc, ev_fld, ev_prop, ev_eqo, ev_tix, ev_pop0, ev_comp, ev_comp2, ev_iseq, ev_iown, ev_ienum, ev_izip, body_true, ex_skip, ex_seq, ex_set, ex_setM, ex_setB, ex_unp, ex_ixs, ex_ixa, ex_aug, ex_sfld, ex_ift, ex_for, ex_ret, ex_exp, p1]
  · simp only [startE, List.map, List.length, Nat.sub_self, Nat.reduceAdd, Nat.reduceSub, Nat.zero_add, List.replicate, List.append_nil, List.cons_append, List.nil_append, List.getElem?_cons_zero, List.getElem?_cons_succ, R.bind_ok, R.thn_ok, RS.thn_next, RS.thn_ret, outD_ret, outD_next, argsD, putN, List.set_cons_zero, List.set_cons_succ, wipeE, ev_var, ev_mvar, ev_none, ev_bool, ev_int, ev_str, ev_glb, ev_bin, ev_neg, ev_not, ev_and, ev_or, ev_cmp, ev_chn, ev_ife, ev_tup, ev_lst, ev_nil, ev_cons, ev_call, ev_meth, ev_mk, ev_bi, ev_min2, ev_isi, ev_len, ev_sub, ev_slc, ev_fld, ev_prop, ev_eqo, ev_tix, ev_pop0, ev_comp, ev_comp2, ev_iseq, ev_iown, ev_ienum, ev_izip, body_true, ex_skip, ex_seq, ex_set, ex_setM, ex_setB, ex_unp, ex_ixs, ex_ixa, ex_aug, ex_sfld, ex_ift, ex_for, ex_ret, ex_exp, t1, iterD]
    rw [catL_one (g := fun r : Nat => D.lst ((tst n c r ps).map .int)) (F := fun r => .int (dotI v (tst n c r ps))) (List.range 3) (fun r hr => by
      rw [compF_put _ _ _ rfl]
      simp only [startE, List.map, List.length, Nat.sub_self, Nat.reduceAdd, Nat.reduceSub, Nat.zero_add, List.replicate, List.append_nil, List.cons_append, List.nil_append, List.getElem?_cons_zero, List.getElem?_cons_succ, R.bind_ok, R.thn_ok, RS.thn_next, RS.thn_ret, outD_ret, outD_next, argsD, putN, List.set_cons_zero, List.set_cons_succ, wipeE, ev_var, ev_mvar, ev_none, ev_bool, ev_int, ev_str, ev_glb, ev_bin, ev_neg, ev_not, ev_and, ev_or, ev_cmp, ev_chn, ev_ife, ev_tup, ev_lst, ev_nil, ev_cons, ev_call, ev_meth, ev_mk, ev_bi, ev_min2, ev_isi, ev_len, ev_sub, ev_slc, ev_fld, ev_prop, ev_eqo, ev_tix, ev_pop0, ev_comp, ev_comp2, ev_iseq, ev_iown, ev_ienum, ev_izip, body_true, ex_skip, ex_seq, ex_set, ex_setM, ex_setB, ex_unp, ex_ixs, ex_ixa, ex_aug, ex_sfld, ex_ift, ex_for, ex_ret, ex_exp]
      have sm := summed (k + 2) h v (tst n c r ps) hv
      simp only [encI]
      rw [sm]
      rfl)]
    simp only [startE, List.map, List.length, Nat.sub_self, Nat.reduceAdd, Nat.reduceSub, Nat.zero_add, List.replicate, List.append_nil, List.cons_append, List.nil_append, List.getElem?_cons_zero, List.getElem?_cons_succ, R.bind_ok, R.thn_ok, RS.thn_next, RS.thn_ret, outD_ret, outD_next, argsD, putN, List.set_cons_zero, List.set_cons_succ, wipeE, ev_var, ev_mvar, ev_none, ev_bool, ev_int, ev_str, ev_glb, ev_bin, ev_neg, ev_not, ev_and, ev_or, ev_cmp, ev_chn, ev_ife, ev_tup, ev_lst, ev_nil, ev_cons, ev_call, ev_meth, ev_mk, ev_bi, ev_min2, ev_isi, ev_len, ev_sub, ev_slc, ev_fld, ev_prop, ev_eqo, ev_tix, ev_pop0, ev_comp, ev_comp2, ev_iseq, ev_iown, ev_ienum, ev_izip, body_true, ex_skip, ex_seq, ex_set, ex_setM, ex_setB, ex_unp, ex_ixs, ex_ixa, ex_aug, ex_sfld, ex_ift, ex_for, ex_ret, ex_exp]
    rw [longD_ok (by simp)]
    simp only [startE, List.map, List.length, Nat.sub_self, Nat.reduceAdd, Nat.reduceSub, Nat.zero_add, List.replicate, List.append_nil, List.cons_append, List.nil_append, List.getElem?_cons_zero, List.getElem?_cons_succ, R.bind_ok, R.thn_ok, RS.thn_next, RS.thn_ret, outD_ret, outD_next, argsD, putN, List.set_cons_zero, List.set_cons_succ, wipeE, ev_var, ev_mvar, ev_none, ev_bool, ev_int, ev_str, ev_glb, ev_bin, ev_neg, ev_not, ev_and, ev_or, ev_cmp, ev_chn, ev_ife, ev_tup, ev_lst, ev_nil, ev_cons, ev_call, ev_meth, ev_mk, ev_bi, ev_min2, ev_isi, ev_len, ev_sub, ev_slc, ev_fld, ev_prop, ev_eqo, ev_tix, ev_pop0, ev_comp, ev_comp2, ev_iseq, ev_iown, ev_ienum, ev_izip, body_true, ex_skip, ex_seq, ex_set, ex_setM, ex_setB, ex_unp, ex_ixs, ex_ixa, ex_aug, ex_sfld, ex_ift, ex_for, ex_ret, ex_exp, biD, viewD, encI, tri, List.map_map]
    rfl
theorem heard_loop (k : Nat) (h : Hb) (ok : NetOk m n) (v : List Int) (hv : v.length ≤ 1000) (x : Option D) : ∀ (cs : List Nat) (ps : Pl) (acc : List D) (y : Option D), (∀ c ∈ cs, c < m) → PlOk n ps → acc.length + cs.length ≤ 1000 →
    ∃ y' z', forL (fBody (pg prg (k + 3)) (.one 3) b_heard_by_0) (cD cs) [some (shD m n), some (encI v), x, y, some (.tup (ps.map encO)), some (.lst acc), none] h = .next [some (shD m n), some (encI v), x, y', z', some (.lst (acc ++ (hear n v ps cs).map encI)), none] h
  | [], ps, acc, y, _, _, _ => ⟨y, _, by simp only [cD, List.map, forL_nil, hear, List.append_nil]; rfl⟩
  | c :: r, ps, acc, y, hc, hp, hl => by
    rw [List.length_cons] at hl
    obtain ⟨y', z', q⟩ := heard_loop k h ok v hv x r (stp n c ps) (acc ++ [encI (tri n v ps c)]) (some (.int c)) (fun c h => hc c (List.mem_cons_of_mem _ h)) (stp_ok ok (hc c List.mem_cons_self) hp) (by rw [List.length_append]; simp; omega)
    refine ⟨y', z', ?_⟩
    have e : fBody (pg prg (k + 3)) (.one 3) b_heard_by_0 (.int c) [some (shD m n), some (encI v), x, y, some (.tup (ps.map encO)), some (.lst acc), none] h = .next [some (shD m n), some (encI v), x, some (.int c), some (.tup ((stp n c ps).map encO)), some (.lst (acc ++ [encI (tri n v ps c)])), none] h := by
      rw [fBody_put _ _ _ rfl]
      exact heard_step k h ok v hv x (hc c List.mem_cons_self) hp acc (by omega)
    show forL _ (.int c :: cD r) _ _ = _
    rw [forL_cons_next e, q]
    simp [hear]
theorem heard_by (k : Nat) (h : Hb) (ok : NetOk m n) (v : List Int) (hv : v.length ≤ 1000) {d : D} {cs : List Nat} (hd : RowD d cs) (hl : cs.length ≤ 900) (hc : ∀ c ∈ cs, c < m) : (pg prg (k + 4)).call 16 [shD m n, encI v, d] h = .ok (.lst ((hear n v (st0 n) cs).map encI)) h := by
  obtain ⟨G, hG⟩ := aG (pg prg (k + 3))
  refine call_by (fn := f_heard_by) rfl rfl G hG ?_
  have s0 : (pg prg (k + 3)).call 8 [shD m n] h = _ := starts_of (k + 1) h ok
  obtain ⟨y', z', q⟩ := heard_loop k h ok v hv (some d) cs (st0 n) [] none hc st0_ok (by simp; omega)
  rw [← hG] at s0 q
  unfold f_heard_by
  simp only [startE, List.map, List.length, Nat.reduceAdd, Nat.reduceSub, List.replicate, List.cons_append, List.nil_append]
  rw [ex_seq, par_ft (x := .tup ((st0 n).map encO)) (l := []) (h1 := h) (h2 := h) (by simp only [startE, List.map, List.length, Nat.sub_self, Nat.reduceAdd, Nat.reduceSub, Nat.zero_add, List.replicate, List.append_nil, List.cons_append, List.nil_append, List.getElem?_cons_zero, List.getElem?_cons_succ, R.bind_ok, R.thn_ok, RS.thn_next, RS.thn_ret, outD_ret, outD_next, argsD, putN, List.set_cons_zero, List.set_cons_succ, wipeE, ev_var, ev_mvar, ev_none, ev_bool, ev_int, ev_str, ev_glb, ev_bin, ev_neg, ev_not, ev_and, ev_or, ev_cmp, ev_chn, ev_ife, ev_tup, ev_lst, ev_nil, ev_cons, ev_call, ev_meth, ev_mk, ev_bi, ev_min2, ev_isi, ev_len, ev_sub, ev_slc, ev_fld, ev_prop, ev_eqo, ev_tix, ev_pop0, ev_comp, ev_comp2, ev_iseq, ev_iown, ev_ienum, ev_izip, body_true, ex_skip, ex_seq, ex_set, ex_setM, ex_setB, ex_unp, ex_ixs, ex_ixa, ex_aug, ex_sfld, ex_ift, ex_for, ex_ret, ex_exp, s0]) rfl]
  simp only [startE, List.map, List.length, Nat.sub_self, Nat.reduceAdd, Nat.reduceSub, Nat.zero_add, List.replicate, List.append_nil, List.cons_append, List.nil_append, List.getElem?_cons_zero, List.getElem?_cons_succ, R.bind_ok, R.thn_ok, RS.thn_next, RS.thn_ret, outD_ret, outD_next, argsD, putN, List.set_cons_zero, List.set_cons_succ, wipeE, ev_var, ev_mvar, ev_none, ev_bool, ev_int, ev_str, ev_glb, ev_bin, ev_neg, ev_not, ev_and, ev_or, ev_cmp, ev_chn, ev_ife, ev_tup, ev_lst, ev_nil, ev_cons, ev_call, ev_meth, ev_mk, ev_bi, ev_min2, ev_isi, ev_len, ev_sub, ev_slc, ev_fld, ev_prop, ev_eqo, ev_tix, ev_pop0, ev_comp, ev_comp2, ev_iseq, ev_iown, ev_ienum, ev_izip, body_true, ex_skip, ex_seq, ex_set, ex_setM, ex_setB, ex_unp, ex_ixs, ex_ixa, ex_aug, ex_sfld, ex_ift, ex_for, ex_ret, ex_exp, hd.itr]
  rw [show (cs.map fun c => D.int (c : Nat)) = cD cs from rfl, q]
  simp only [startE, List.map, List.length, Nat.sub_self, Nat.reduceAdd, Nat.reduceSub, Nat.zero_add, List.replicate, List.append_nil, List.cons_append, List.nil_append, List.getElem?_cons_zero, List.getElem?_cons_succ, R.bind_ok, R.thn_ok, RS.thn_next, RS.thn_ret, outD_ret, outD_next, argsD, putN, List.set_cons_zero, List.set_cons_succ, wipeE, ev_var, ev_mvar, ev_none, ev_bool, ev_int, ev_str, ev_glb, ev_bin, ev_neg, ev_not, ev_and, ev_or, ev_cmp, ev_chn, ev_ife, ev_tup, ev_lst, ev_nil, ev_cons, ev_call, ev_meth, ev_mk, ev_bi, ev_min2, ev_isi, ev_len, ev_sub, ev_slc, ev_fld, ev_prop, ev_eqo, ev_tix, ev_pop0, ev_comp, ev_comp2, ev_iseq, ev_iown, ev_ienum, ev_izip, body_true, ex_skip, ex_seq, ex_set, ex_setM, ex_setB, ex_unp, ex_ixs, ex_ixa, ex_aug, ex_sfld, ex_ift, ex_for, ex_ret, ex_exp]
theorem places_loop (k : Nat) (h : Hb) (ok : NetOk m n) (x : Option D) : ∀ (cs : List Nat) (ps : Pl) (y : Option D), (∀ c ∈ cs, c < m) → PlOk n ps →
    ∃ y', forL (fBody (pg prg (k + 3)) (.one 3) b_places_by_0) (cD cs) [some (shD m n), x, some (.tup (ps.map encO)), y] h = .next [some (shD m n), x, some (.tup ((runP n ps cs).map encO)), y'] h
  | [], ps, y, _, _ => ⟨y, rfl⟩
  | c :: r, ps, y, hc, hp => by
    obtain ⟨y', q⟩ := places_loop k h ok x r (stp n c ps) (some (.int c)) (fun c h => hc c (List.mem_cons_of_mem _ h)) (stp_ok ok (hc c List.mem_cons_self) hp)
    refine ⟨y', ?_⟩
    have p1 := places_after k h ok (hc c List.mem_cons_self) hp
    have e : fBody (pg prg (k + 3)) (.one 3) b_places_by_0 (.int c) [some (shD m n), x, some (.tup (ps.map encO)), y] h = .next [some (shD m n), x, some (.tup ((stp n c ps).map encO)), some (.int c)] h := by
      rw [fBody_put _ _ _ rfl]
      simp only [startE, List.map, List.length, Nat.sub_self, Nat.reduceAdd, Nat.reduceSub, Nat.zero_add, List.replicate, List.append_nil, List.cons_append, List.nil_append, List.getElem?_cons_zero, List.getElem?_cons_succ, R.bind_ok, R.thn_ok, RS.thn_next, RS.thn_ret, outD_ret, outD_next, argsD, putN, List.set_cons_zero, List.set_cons_succ, wipeE, ev_var, ev_mvar, ev_none, ev_bool, ev_int, ev_str, ev_glb, ev_bin, ev_neg, ev_not, ev_and, ev_or, ev_cmp, ev_chn, ev_ife, ev_tup, ev_lst, ev_nil, ev_cons, ev_call, ev_meth, ev_mk, ev_bi, ev_min2, ev_isi, ev_len, ev_sub, ev_slc, ev_fld, ev_prop, ev_eqo, ev_tix, ev_pop0, ev_comp, ev_comp2, ev_iseq, ev_iown, ev_ienum, ev_izip, body_true, ex_skip, ex_seq, ex_set, ex_setM, ex_setB, ex_unp, ex_ixs, ex_ixa, ex_aug, ex_sfld, ex_ift, ex_for, ex_ret, ex_exp, b_places_by_0, p1]
    show forL _ (.int c :: cD r) _ _ = _
    rw [forL_cons_next e, q]
    rfl
theorem places_by (k : Nat) (h : Hb) (ok : NetOk m n) {d : D} {cs : List Nat} (hd : RowD d cs) (hc : ∀ c ∈ cs, c < m) : (pg prg (k + 4)).call 18 [shD m n, d] h = .ok (.tup ((runP n (st0 n) cs).map encO)) h := by
  obtain ⟨G, hG⟩ := aG (pg prg (k + 3))
  refine call_by (fn := f_places_by) rfl rfl G hG ?_
  have s0 : (pg prg (k + 3)).call 8 [shD m n] h = _ := starts_of (k + 1) h ok
  obtain ⟨y', q⟩ := places_loop k h ok (some d) cs (st0 n) none hc st0_ok
  rw [← hG] at s0 q
  simp only [startE, List.map, List.length, Nat.sub_self, Nat.reduceAdd, Nat.reduceSub, Nat.zero_add, List.replicate, List.append_nil, List.cons_append, List.nil_append, List.getElem?_cons_zero, List.getElem?_cons_succ, R.bind_ok, R.thn_ok, RS.thn_next, RS.thn_ret, outD_ret, outD_next, argsD, putN, List.set_cons_zero, List.set_cons_succ, wipeE, ev_var, ev_mvar, ev_none, ev_bool, ev_int, ev_str, ev_glb, ev_bin, ev_neg, ev_not, ev_and, ev_or, ev_cmp, ev_chn, ev_ife, ev_tup, ev_lst, ev_nil, ev_cons, ev_call, ev_meth, ev_mk, ev_bi, ev_min2, ev_isi, ev_len, ev_sub, ev_slc, ev_fld, ev_prop, ev_eqo, ev_tix, ev_pop0, ev_comp, ev_comp2, ev_iseq, ev_iown, ev_ienum, ev_izip, body_true, ex_skip, ex_seq, ex_set, ex_setM, ex_setB, ex_unp, ex_ixs, ex_ixa, ex_aug, ex_sfld, ex_ift, ex_for, ex_ret, ex_exp, f_places_by, s0, hd.itr]
  rw [show (cs.map fun c => D.int (c : Nat)) = cD cs from rfl, q]
  simp only [startE, List.map, List.length, Nat.sub_self, Nat.reduceAdd, Nat.reduceSub, Nat.zero_add, List.replicate, List.append_nil, List.cons_append, List.nil_append, List.getElem?_cons_zero, List.getElem?_cons_succ, R.bind_ok, R.thn_ok, RS.thn_next, RS.thn_ret, outD_ret, outD_next, argsD, putN, List.set_cons_zero, List.set_cons_succ, wipeE, ev_var, ev_mvar, ev_none, ev_bool, ev_int, ev_str, ev_glb, ev_bin, ev_neg, ev_not, ev_and, ev_or, ev_cmp, ev_chn, ev_ife, ev_tup, ev_lst, ev_nil, ev_cons, ev_call, ev_meth, ev_mk, ev_bi, ev_min2, ev_isi, ev_len, ev_sub, ev_slc, ev_fld, ev_prop, ev_eqo, ev_tix, ev_pop0, ev_comp, ev_comp2, ev_iseq, ev_iown, ev_ienum, ev_izip, body_true, ex_skip, ex_seq, ex_set, ex_setM, ex_setB, ex_unp, ex_ixs, ex_ixa, ex_aug, ex_sfld, ex_ift, ex_for, ex_ret, ex_exp]
theorem moved_loop (k : Nat) (h : Hb) (a b c : Option D) : ∀ (v : List Int) (ps : Pl) (acc : List Int) (y z : Option D), (∀ o ∈ ps, ∀ p, o = some p → p < acc.length) →
    ∃ y' z', forL (fBody (pg prg k) (.many [4, 5]) b_moved_0) (zipD (v.map .int) (ps.map encO)) [a, b, c, some (.lst (acc.map .int)), y, z] h = .next [a, b, c, some (.lst ((psh acc v ps).map .int)), y', z'] h
  | [], ps, acc, y, z, _ => ⟨y, z, by cases ps <;> simp [psh, zipD, forL_nil]⟩
  | x :: v, [], acc, y, z, _ => ⟨y, z, by simp [psh, zipD, forL_nil]⟩
  | x :: v, none :: ps, acc, y, z, hp => by
    obtain ⟨y', z', q⟩ := moved_loop k h a b c v ps acc (some (.int x)) (some .non) fun o ho => hp o (List.mem_cons_of_mem _ ho)
    refine ⟨y', z', ?_⟩
    have e : fBody (pg prg k) (.many [4, 5]) b_moved_0 (.tup [.int x, encO none]) [a, b, c, some (.lst (acc.map .int)), y, z] h = .next [a, b, c, some (.lst (acc.map .int)), some (.int x), some .non] h := by
      rw [fBody_put _ _ _ rfl]
      simp only [startE, List.map, List.length, Nat.sub_self, Nat.reduceAdd, Nat.reduceSub, Nat.zero_add, List.replicate, List.append_nil, List.cons_append, List.nil_append, List.getElem?_cons_zero, List.getElem?_cons_succ, R.bind_ok, R.thn_ok, RS.thn_next, RS.thn_ret, outD_ret, outD_next, argsD, putN, List.set_cons_zero, List.set_cons_succ, wipeE, ev_var, ev_mvar, ev_none, ev_bool, ev_int, ev_str, ev_glb, ev_bin, ev_neg, ev_not, ev_and, ev_or, ev_cmp, ev_chn, ev_ife, ev_tup, ev_lst, ev_nil, ev_cons, ev_call, ev_meth, ev_mk, ev_bi, ev_min2, ev_isi, ev_len, ev_sub, ev_slc, ev_fld, ev_prop, ev_eqo, ev_tix, ev_pop0, ev_comp, ev_comp2, ev_iseq, ev_iown, ev_ienum, ev_izip, body_true, ex_skip, ex_seq, ex_set, ex_setM, ex_setB, ex_unp, ex_ixs, ex_ixa, ex_aug, ex_sfld, ex_ift, ex_for, ex_ret, ex_exp, b_moved_0, List.zip, List.zipWith, List.foldl, encO, cmpD, D.isN, Bool.not_true]
    show forL _ (.tup [.int x, encO none] :: zipD (v.map .int) (ps.map encO)) _ _ = _
    rw [forL_cons_next e, q]
    rfl
  | x :: v, some p :: ps, acc, y, z, hp => by
    have hl := hp _ List.mem_cons_self p rfl
    obtain ⟨y', z', q⟩ := moved_loop k h a b c v ps (acc.set p (acc.getD p 0 + x)) (some (.int x)) (some (.int p)) fun o ho q e => by simpa using hp o (List.mem_cons_of_mem _ ho) q e
    refine ⟨y', z', ?_⟩
    have g1 : (acc.map D.int)[p]? = some (.int (acc.getD p 0)) := by
      rw [List.getElem?_map, List.getElem?_eq_getElem hl, List.getD_eq_getElem?_getD, List.getElem?_eq_getElem hl]
      rfl
    have e : fBody (pg prg k) (.many [4, 5]) b_moved_0 (.tup [.int x, encO (some p)]) [a, b, c, some (.lst (acc.map .int)), y, z] h = .next [a, b, c, some (.lst ((acc.set p (acc.getD p 0 + x)).map .int)), some (.int x), some (.int p)] h := by
      rw [fBody_put _ _ _ rfl]
      simp only [startE, List.map, List.length, Nat.sub_self, Nat.reduceAdd, Nat.reduceSub, Nat.zero_add, List.replicate, List.append_nil, List.cons_append, List.nil_append, List.getElem?_cons_zero, List.getElem?_cons_succ, R.bind_ok, R.thn_ok, RS.thn_next, RS.thn_ret, outD_ret, outD_next, argsD, putN, List.set_cons_zero, List.set_cons_succ, wipeE, ev_var, ev_mvar, ev_none, ev_bool, ev_int, ev_str, ev_glb, ev_bin, ev_neg, ev_not, ev_and, ev_or, ev_cmp, ev_chn, ev_ife, ev_tup, ev_lst, ev_nil, ev_cons, ev_call, ev_meth, ev_mk, ev_bi, ev_min2, ev_isi, ev_len, ev_sub, ev_slc, ev_fld, ev_prop, ev_eqo, ev_tix, ev_pop0, ev_comp, ev_comp2, ev_iseq, ev_iown, ev_ienum, ev_izip, body_true, ex_skip, ex_seq, ex_set, ex_setM, ex_setB, ex_unp, ex_ixs, ex_ixa, ex_aug, ex_sfld, ex_ift, ex_for, ex_ret, ex_exp, b_moved_0, List.zip, List.zipWith, List.foldl, encO, cmpD, D.isN, Bool.not_false, List.length_map, ixn hl, g1, List.map_set]
    show forL _ (.tup [.int x, encO (some p)] :: zipD (v.map .int) (ps.map encO)) _ _ = _
    rw [forL_cons_next e, q]
    rfl
theorem zeros (N : Nat) : (List.replicate N [D.int 0]).flatten = (List.replicate N (0 : Int)).map D.int := by
  induction N with
  | zero => rfl
  | succ N ih => simp [List.replicate_succ, ih]
theorem mul_zeros {N : Nat} (hN : N ≤ 1000) (h : Hb) : binD .mul (.lst [.int 0]) (.int N) h = .ok (.lst ((List.replicate N (0 : Int)).map D.int)) h := by
  have c : (decide ([D.int 0].length * ((N : Nat) : Int).toNat ≤ 1000000) && decide (((N : Nat) : Int) < 1000000) && decide (-1000000 < ((N : Nat) : Int))) = true := by
    simp; omega
  simp only [binD]
  rw [if_pos c, Int.toNat_natCast, zeros]
theorem moved (k : Nat) (h : Hb) (ok : NetOk m n) (v : List Int) {ps : Pl} (hp : PlOk n ps) : (pg prg (k + 2)).call 17 [shD m n, encI v, .tup (ps.map encO)] h = .ok (encI (mv (spots n).length v ps)) h := by
  rw [call_eq (fn := f_moved) rfl rfl]
  have sm := small ok
  have l := len_shelf k h ok
  have z0 := mul_zeros (N := (spots n).length) (by omega) h
  obtain ⟨y', z', q⟩ := moved_loop (k + 1) h (some (shD m n)) (some (encI v)) (some (.tup (ps.map encO))) v ps (List.replicate (spots n).length 0) none none (by simpa using hp.2)
  have s1 : seqD (encI v) = some (v.map .int) := rfl
  have s2 : seqD (.tup (ps.map encO)) = some (ps.map encO) := rfl
  simp only [startE, List.map, List.length, Nat.sub_self, Nat.reduceAdd, Nat.reduceSub, Nat.zero_add, List.replicate, List.append_nil, List.cons_append, List.nil_append, List.getElem?_cons_zero, List.getElem?_cons_succ, R.bind_ok, R.thn_ok, RS.thn_next, RS.thn_ret, outD_ret, outD_next, argsD, putN, List.set_cons_zero, List.set_cons_succ, wipeE, ev_var, ev_mvar, ev_none, ev_bool, ev_int, ev_str, ev_glb, ev_bin, ev_neg, ev_not, ev_and, ev_or, ev_cmp, ev_chn, ev_ife, ev_tup, ev_lst, ev_nil, ev_cons, ev_call, ev_meth, ev_mk, ev_bi, ev_min2, ev_isi, ev_len, ev_sub, ev_slc, ev_fld, ev_prop, ev_eqo, ev_tix, ev_pop0, ev_comp, ev_comp2, ev_iseq, ev_iown, ev_ienum, ev_izip, body_true, ex_skip, ex_seq, ex_set, ex_setM, ex_setB, ex_unp, ex_ixs, ex_ixa, ex_aug, ex_sfld, ex_ift, ex_for, ex_ret, ex_exp, f_moved, l, z0, s1, s2]
  rw [q]
  simp only [startE, List.map, List.length, Nat.sub_self, Nat.reduceAdd, Nat.reduceSub, Nat.zero_add, List.replicate, List.append_nil, List.cons_append, List.nil_append, List.getElem?_cons_zero, List.getElem?_cons_succ, R.bind_ok, R.thn_ok, RS.thn_next, RS.thn_ret, outD_ret, outD_next, argsD, putN, List.set_cons_zero, List.set_cons_succ, wipeE, ev_var, ev_mvar, ev_none, ev_bool, ev_int, ev_str, ev_glb, ev_bin, ev_neg, ev_not, ev_and, ev_or, ev_cmp, ev_chn, ev_ife, ev_tup, ev_lst, ev_nil, ev_cons, ev_call, ev_meth, ev_mk, ev_bi, ev_min2, ev_isi, ev_len, ev_sub, ev_slc, ev_fld, ev_prop, ev_eqo, ev_tix, ev_pop0, ev_comp, ev_comp2, ev_iseq, ev_iown, ev_ienum, ev_izip, body_true, ex_skip, ex_seq, ex_set, ex_setM, ex_setB, ex_unp, ex_ixs, ex_ixa, ex_aug, ex_sfld, ex_ift, ex_for, ex_ret, ex_exp, biD, viewD]
  rfl
theorem heard (k : Nat) (h : Hb) (ok : NetOk m n) {v : List Int} (hv : CrOk n v) {d : D} {cs : List Nat} (hd : RowD d cs) (hl : cs.length ≤ 12) (hc : ∀ c ∈ cs, c < m) : (pg prg (k + 5)).call 19 [shD m n, encI v, d] h = .ok (.lst ((hear n v (st0 n) cs).map encI)) h := by
  obtain ⟨G, hG⟩ := aG (pg prg (k + 4))
  refine call_by (fn := f_heard) rfl rfl G hG ?_
  have sm := small ok
  have c1 : (pg prg (k + 4)).call 12 [shD m n, encI v] h = _ := check_crowd (k + 1) h ok hv
  have c2 : (pg prg (k + 4)).call 14 [shD m n, d] h = _ := check_row (k + 1) h hd hl hc
  have c3 := heard_by k h ok v (by rw [hv.len]; omega) hd (by omega) hc
  rw [← hG] at c1 c2 c3
  simp only [startE, List.map, List.length, Nat.sub_self, Nat.reduceAdd, Nat.reduceSub, Nat.zero_add, List.replicate, List.append_nil, List.cons_append, List.nil_append, List.getElem?_cons_zero, List.getElem?_cons_succ, R.bind_ok, R.thn_ok, RS.thn_next, RS.thn_ret, outD_ret, outD_next, argsD, putN, List.set_cons_zero, List.set_cons_succ, wipeE, ev_var, ev_mvar, ev_none, ev_bool, ev_int, ev_str, ev_glb, ev_bin, ev_neg, ev_not, ev_and, ev_or, ev_cmp, ev_chn, ev_ife, ev_tup, ev_lst, ev_nil, ev_cons, ev_call, ev_meth, ev_mk, ev_bi, ev_min2, ev_isi, ev_len, ev_sub, ev_slc, ev_fld, ev_prop, ev_eqo, ev_tix, ev_pop0, ev_comp, ev_comp2, ev_iseq, ev_iown, ev_ienum, ev_izip, body_true, ex_skip, ex_seq, ex_set, ex_setM, ex_setB, ex_unp, ex_ixs, ex_ixa, ex_aug, ex_sfld, ex_ift, ex_for, ex_ret, ex_exp, f_heard, c1, c2, c3]
theorem after (k : Nat) (h : Hb) (ok : NetOk m n) {v : List Int} (hv : CrOk n v) {d : D} {cs : List Nat} (hd : RowD d cs) (hl : cs.length ≤ 12) (hc : ∀ c ∈ cs, c < m) : (pg prg (k + 5)).call 20 [shD m n, encI v, d] h = .ok (encI (mv (spots n).length v (runP n (st0 n) cs))) h := by
  obtain ⟨G, hG⟩ := aG (pg prg (k + 4))
  refine call_by (fn := f_after) rfl rfl G hG ?_
  have c1 : (pg prg (k + 4)).call 12 [shD m n, encI v] h = _ := check_crowd (k + 1) h ok hv
  have c2 : (pg prg (k + 4)).call 14 [shD m n, d] h = _ := check_row (k + 1) h hd hl hc
  have c3 := places_by k h ok hd hc
  have c4 : (pg prg (k + 4)).call 17 [shD m n, encI v, .tup ((runP n (st0 n) cs).map encO)] h = _ := moved (k + 2) h ok v (runP_ok ok cs hc st0_ok)
  rw [← hG] at c1 c2 c3 c4
  simp only [startE, List.map, List.length, Nat.sub_self, Nat.reduceAdd, Nat.reduceSub, Nat.zero_add, List.replicate, List.append_nil, List.cons_append, List.nil_append, List.getElem?_cons_zero, List.getElem?_cons_succ, R.bind_ok, R.thn_ok, RS.thn_next, RS.thn_ret, outD_ret, outD_next, argsD, putN, List.set_cons_zero, List.set_cons_succ, wipeE, ev_var, ev_mvar, ev_none, ev_bool, ev_int, ev_str, ev_glb, ev_bin, ev_neg, ev_not, ev_and, ev_or, ev_cmp, ev_chn, ev_ife, ev_tup, ev_lst, ev_nil, ev_cons, ev_call, ev_meth, ev_mk, ev_bi, ev_min2, ev_isi, ev_len, ev_sub, ev_slc, ev_fld, ev_prop, ev_eqo, ev_tix, ev_pop0, ev_comp, ev_comp2, ev_iseq, ev_iown, ev_ienum, ev_izip, body_true, ex_skip, ex_seq, ex_set, ex_setM, ex_setB, ex_unp, ex_ixs, ex_ixa, ex_aug, ex_sfld, ex_ift, ex_for, ex_ret, ex_exp, f_after, c1, c2, c3, c4]
theorem sumI (l : List Int) (h : Hb) : biD .sum (encI l) h = .ok (.int l.sum) h := by
  simp only [biD, viewD, encI, dInts_int]
theorem silenced (k : Nat) (h : Hb) (ok : NetOk m n) {v : List Int} (hv : CrOk n v) {d : D} {cs : List Nat} (hd : RowD d cs) (hl : cs.length ≤ 12) (hc : ∀ c ∈ cs, c < m) : (pg prg (k + 6)).call 21 [shD m n, encI v, d] h = .ok (.int (v.sum - (mv (spots n).length v (runP n (st0 n) cs)).sum)) h := by
  obtain ⟨G, hG⟩ := aG (pg prg (k + 5))
  refine call_by (fn := f_silenced) rfl rfl G hG ?_
  have c1 := after k h ok hv hd hl hc
  rw [← hG] at c1
  simp only [startE, List.map, List.length, Nat.sub_self, Nat.reduceAdd, Nat.reduceSub, Nat.zero_add, List.replicate, List.append_nil, List.cons_append, List.nil_append, List.getElem?_cons_zero, List.getElem?_cons_succ, R.bind_ok, R.thn_ok, RS.thn_next, RS.thn_ret, outD_ret, outD_next, argsD, putN, List.set_cons_zero, List.set_cons_succ, wipeE, ev_var, ev_mvar, ev_none, ev_bool, ev_int, ev_str, ev_glb, ev_bin, ev_neg, ev_not, ev_and, ev_or, ev_cmp, ev_chn, ev_ife, ev_tup, ev_lst, ev_nil, ev_cons, ev_call, ev_meth, ev_mk, ev_bi, ev_min2, ev_isi, ev_len, ev_sub, ev_slc, ev_fld, ev_prop, ev_eqo, ev_tix, ev_pop0, ev_comp, ev_comp2, ev_iseq, ev_iown, ev_ienum, ev_izip, body_true, ex_skip, ex_seq, ex_set, ex_setM, ex_setB, ex_unp, ex_ixs, ex_ixa, ex_aug, ex_sfld, ex_ift, ex_for, ex_ret, ex_exp, f_silenced, c1, sumI, binD]
end K01

set_option Elab.async false
set_option linter.all false
set_option maxRecDepth 100000
set_option maxHeartbeats 1000000
/-! What the law's defs give: draws. -/
namespace K01
open PySem CC PyProof.Rows
open Builtin.Int (intBits)
theorem mul_small (a b : Int) (hb : intBits b ≤ 64) (h : Hb) : binD .mul (.int a) (.int b) h = .ok (.int (a * b)) h := by
  simp only [binD]
  exact if_pos (IntMulOk.of_right hb)
theorem mul_small' (a b : Int) (hb : intBits a ≤ 64) (h : Hb) : binD .mul (.int a) (.int b) h = .ok (.int (a * b)) h := by
  simp only [binD]
  exact if_pos (IntMulOk.of_left hb)
theorem mul_bits {a b : Int} (ha : intBits a ≤ 2000000) (hb : intBits b ≤ 2000000) (h : Hb) : binD .mul (.int a) (.int b) h = .ok (.int (a * b)) h := by
  simp only [binD]
  exact if_pos (mulOk_of_bits ha hb (by decide))
theorem mod_ok (a : Int) {b : Int} (hb : b ≠ 0) (h : Hb) : binD .mod (.int a) (.int b) h = .ok (.int (a.fmod b)) h := by
  simp only [binD]
  exact if_pos hb
theorem add_ok (a b : Int) (h : Hb) : binD .add (.int a) (.int b) h = .ok (.int (a + b)) h := rfl
theorem sub_ok (a b : Int) (h : Hb) : binD .sub (.int a) (.int b) h = .ok (.int (a - b)) h := rfl
def primes : List Int := [1000003, 1000033, 1000037, 1000039, 1000081, 1000099, 1000117, 1000121, 1000133, 1000151, 1000159, 1000171, 1000183, 1000187, 1000193, 1000199]
theorem prime_at (kk : Nat) (h : Hb) : ∃ p : Int, p ≠ 0 ∧ subD (encI primes) (.int (Int.fmod (kk : Int) 16)) h = .ok (.int p) h := by
  have e : Int.fmod (kk : Int) 16 = ((kk % 16 : Nat) : Int) := by
    rw [Int.fmod_eq_emod_of_nonneg _ (by decide)]
    rfl
  have lt : kk % 16 < 16 := Nat.mod_lt _ (by decide)
  rw [e]
  generalize kk % 16 = j at lt
  have key : ∀ j : Nat, j < 16 → primes.getD j 0 ≠ 0 ∧ primes[j]? = some (primes.getD j 0) := by decide
  obtain ⟨h1, h2⟩ := key j lt
  generalize primes.getD j 0 = p at h1 h2
  exact ⟨p, h1, subT (by rw [List.getElem?_map, h2]; rfl)⟩
theorem draw (k : Nat) (h : Hb) (cell : Int) (kk : Nat) {many : Int} (hm : many ≠ 0) : ∃ r : Int, (pg prg (k + 1)).call 22 [.int cell, .int kk, .int many] h = .ok (.int r) h ∧ ∃ z, r = Int.fmod z many := by
  obtain ⟨p, hp, hs⟩ := prime_at kk h
  refine ⟨((cell * 48271 + kk * 69621).fmod p).fmod many, ?_, _, rfl⟩
  rw [call_eq (fn := f__law_draw) rfl rfl]
  have m1 : binD .mul (.int cell) (.int 48271) h = .ok (.int (cell * 48271)) h := mul_small _ _ (by decide) h
  have m2 : binD .mul (.int kk) (.int 69621) h = .ok (.int (kk * 69621)) h := mul_small _ _ (by decide) h
  have m3 : binD .mod (.int kk) (.int 16) h = .ok (.int (Int.fmod (kk : Int) 16)) h := mod_ok _ (by decide) h
  have m4 : ∀ a : Int, binD .mod (.int a) (.int p) h = .ok (.int (a.fmod p)) h := fun a => mod_ok a hp h
  have m5 : ∀ a : Int, binD .mod (.int a) (.int many) h = .ok (.int (a.fmod many)) h := fun a => mod_ok a hm h
  have hs : subD (.tup [.int 1000003, .int 1000033, .int 1000037, .int 1000039, .int 1000081, .int 1000099, .int 1000117, .int 1000121, .int 1000133, .int 1000151, .int 1000159, .int 1000171, .int 1000183, .int 1000187, .int 1000193, .int 1000199]) (.int (Int.fmod (kk : Int) 16)) h = .ok (.int p) h := hs
  simp only [startE, List.map, List.length, Nat.sub_self, Nat.reduceAdd, Nat.reduceSub, Nat.zero_add, List.replicate, List.append_nil, List.cons_append, List.nil_append, List.getElem?_cons_zero, List.getElem?_cons_succ, R.bind_ok, R.thn_ok, RS.thn_next, RS.thn_ret, outD_ret, outD_next, argsD, putN, List.set_cons_zero, List.set_cons_succ, wipeE, ev_var, ev_mvar, ev_none, ev_bool, ev_int, ev_str, ev_glb, ev_bin, ev_neg, ev_not, ev_and, ev_or, ev_cmp, ev_chn, ev_ife, ev_tup, ev_lst, ev_nil, ev_cons, ev_call, ev_meth, ev_mk, ev_bi, ev_min2, ev_isi, ev_len, ev_sub, ev_slc, ev_fld, ev_prop, ev_eqo, ev_tix, ev_pop0, ev_comp, ev_comp2, ev_iseq, ev_iown, ev_ienum, ev_izip, body_true, ex_skip, ex_seq, ex_set, ex_setM, ex_setB, ex_unp, ex_ixs, ex_ixa, ex_aug, ex_sfld, ex_ift, ex_for, ex_ret, ex_exp, f__law_draw, m1, m2, m3, m4, m5, add_ok, biD, hs]
theorem bits_draw {r z many : Int} (hm : many ≠ 0) (hb : intBits many ≤ 64) (e : r = Int.fmod z many) : intBits r ≤ 64 := by
  rw [e]
  exact bits_fmod_by hm hb
theorem cell_at (k : Nat) (h : Hb) (ns : List Int) (hn : ∀ z ∈ ns, intBits z ≤ 1048576) (kk : Nat) : ∃ c : Int, (pg prg (k + 2)).call 23 [.lst (ns.map .int), .int kk] h = .ok (.int c) h ∧ intBits c ≤ 1048576 := by
  have l0 : ∀ h, lenD (pg prg (k + 1)) (.lst (ns.map .int)) h = .ok (.int ns.length) h := fun h => by simp only [lenD, viewD, List.length_map]
  by_cases hk : kk < ns.length
  · have c : decide ((kk : Int) < (ns.length : Int)) = true := by simpa using hk
    have s : subD (.lst (ns.map .int)) (.int kk) h = .ok (.int ns[kk]) h := by
      have : (ns.map D.int)[kk]? = some (.int ns[kk]) := by rw [List.getElem?_map, List.getElem?_eq_getElem hk]; rfl
      simp only [subD, viewD, List.length_map, ixn hk, this]
    refine ⟨if ns[kk] < 0 then -ns[kk] else ns[kk], ?_, ?_⟩
    · rw [call_eq (fn := f__law_cell_at) rfl rfl]
      simp only [startE, List.map, List.length, Nat.sub_self, Nat.reduceAdd, Nat.reduceSub, Nat.zero_add, List.replicate, List.append_nil, List.cons_append, List.nil_append, List.getElem?_cons_zero, List.getElem?_cons_succ, R.bind_ok, R.thn_ok, RS.thn_next, RS.thn_ret, outD_ret, outD_next, argsD, putN, List.set_cons_zero, List.set_cons_succ, wipeE, ev_var, ev_mvar, ev_none, ev_bool, ev_int, ev_str, ev_glb, ev_bin, ev_neg, ev_not, ev_and, ev_or, ev_cmp, ev_chn, ev_ife, ev_tup, ev_lst, ev_nil, ev_cons, ev_call, ev_meth, ev_mk, ev_bi, ev_min2, ev_isi, ev_len, ev_sub, ev_slc, ev_fld, ev_prop, ev_eqo, ev_tix, ev_pop0, ev_comp, ev_comp2, ev_iseq, ev_iown, ev_ienum, ev_izip, body_true, ex_skip, ex_seq, ex_set, ex_setM, ex_setB, ex_unp, ex_ixs, ex_ixa, ex_aug, ex_sfld, ex_ift, ex_for, ex_ret, ex_exp, f__law_cell_at, l0, cmpD, c, s, biD]
    · have := hn _ (List.getElem_mem hk)
      split
      · exact bits_neg this
      · exact this
  · have c : decide ((kk : Int) < (ns.length : Int)) = false := by simpa using hk
    have s : biD .sum (.lst (ns.map .int)) h = .ok (.int ns.sum) h := by simp only [biD, viewD, dInts_int]
    obtain ⟨r, h1, z, h2⟩ := draw k h ((if ns.sum < 0 then -ns.sum else ns.sum) + 7919 * kk) kk (many := 999983) (by decide)
    refine ⟨r, ?_, Nat.le_trans (bits_draw (by decide) (by decide) h2) (by decide)⟩
    rw [call_eq (fn := f__law_cell_at) rfl rfl]
    have m1 : binD .mul (.int 7919) (.int kk) h = .ok (.int (7919 * kk)) h := mul_small' _ _ (by decide) h
    simp only [startE, List.map, List.length, Nat.sub_self, Nat.reduceAdd, Nat.reduceSub, Nat.zero_add, List.replicate, List.append_nil, List.cons_append, List.nil_append, List.getElem?_cons_zero, List.getElem?_cons_succ, R.bind_ok, R.thn_ok, RS.thn_next, RS.thn_ret, outD_ret, outD_next, argsD, putN, List.set_cons_zero, List.set_cons_succ, wipeE, ev_var, ev_mvar, ev_none, ev_bool, ev_int, ev_str, ev_glb, ev_bin, ev_neg, ev_not, ev_and, ev_or, ev_cmp, ev_chn, ev_ife, ev_tup, ev_lst, ev_nil, ev_cons, ev_call, ev_meth, ev_mk, ev_bi, ev_min2, ev_isi, ev_len, ev_sub, ev_slc, ev_fld, ev_prop, ev_eqo, ev_tix, ev_pop0, ev_comp, ev_comp2, ev_iseq, ev_iown, ev_ienum, ev_izip, body_true, ex_skip, ex_seq, ex_set, ex_setM, ex_setB, ex_unp, ex_ixs, ex_ixa, ex_aug, ex_sfld, ex_ift, ex_for, ex_ret, ex_exp, f__law_cell_at, l0, cmpD, c]
    have ab : ∀ z : Int, biD .abs (.int z) h = .ok (.int (if z < 0 then -z else z)) h := fun _ => rfl
    simp only [startE, List.map, List.length, Nat.sub_self, Nat.reduceAdd, Nat.reduceSub, Nat.zero_add, List.replicate, List.append_nil, List.cons_append, List.nil_append, List.getElem?_cons_zero, List.getElem?_cons_succ, R.bind_ok, R.thn_ok, RS.thn_next, RS.thn_ret, outD_ret, outD_next, argsD, putN, List.set_cons_zero, List.set_cons_succ, wipeE, ev_var, ev_mvar, ev_none, ev_bool, ev_int, ev_str, ev_glb, ev_bin, ev_neg, ev_not, ev_and, ev_or, ev_cmp, ev_chn, ev_ife, ev_tup, ev_lst, ev_nil, ev_cons, ev_call, ev_meth, ev_mk, ev_bi, ev_min2, ev_isi, ev_len, ev_sub, ev_slc, ev_fld, ev_prop, ev_eqo, ev_tix, ev_pop0, ev_comp, ev_comp2, ev_iseq, ev_iown, ev_ienum, ev_izip, body_true, ex_skip, ex_seq, ex_set, ex_setM, ex_setB, ex_unp, ex_ixs, ex_ixa, ex_aug, ex_sfld, ex_ift, ex_for, ex_ret, ex_exp, s, ab, m1, add_ok, h1]
theorem nat_mod (t : Nat) (b : Nat) (hb : b ≠ 0) (h : Hb) : binD .mod (.int t) (.int b) h = .ok (.int (t % b : Nat)) h := by
  rw [mod_ok _ (by omega)]
  rw [Int.fmod_eq_emod_of_nonneg _ (by omega)]
  rfl
theorem digit (k : Nat) (h : Hb) (x0 x1 x2 : Option D) (x5 x8 x9 : Option D) (base : Nat) (hb : base ≠ 0) (hb2 : base.log2 < 9000) (rem cell : Int) (hc : intBits cell ≤ 1048576) (t : Nat) (ht : t < 150) (acc : List Int) (ha : acc.length < 1000) :
    ∃ rem' x8' x9' y, exc (pg prg (k + 1)) b__law_digits_0 [x0, x1, x2, some (.int base), some (.int rem), some (.int t), some (.int cell), some (.lst (acc.map .int)), x8, x9] h = .next [x0, x1, x2, some (.int base), some (.int rem'), some (.int t), some (.int cell), some (.lst ((acc ++ [y]).map .int)), x8', x9'] h := by
  have hbi : (base : Int) ≠ 0 := by omega
  by_cases hr : 0 < rem
  · have c : decide ((0 : Int) < rem) = true := by simpa using hr
    refine ⟨rem.fdiv base, x8, x9, rem.fmod base, ?_⟩
    have f1 : binD .fdiv (.int rem) (.int base) h = .ok (.int (rem.fdiv base)) h := by
      have c2 : (decide ((base : Int) ≠ 0) && decide (((base : Nat) : Int).natAbs.log2 < 9000)) = true := by
        rw [Int.natAbs_natCast]
        simp [hbi, hb2]
        omega
      simp only [binD]
      exact if_pos c2
    unfold b__law_digits_0
    rw [ex_ift]
    simp only [ev_cmp, ev_var, ev_int, List.getElem?_cons_succ, List.getElem?_cons_zero, R.bind_ok, R.thn_ok, cmpD, c]
    rw [ex_seq, app_ok (x := .int (rem.fmod base)) (l := acc.map .int) (h1 := h) (by simp only [startE, List.map, List.length, Nat.sub_self, Nat.reduceAdd, Nat.reduceSub, Nat.zero_add, List.replicate, List.append_nil, List.cons_append, List.nil_append, List.getElem?_cons_zero, List.getElem?_cons_succ, R.bind_ok, R.thn_ok, RS.thn_next, RS.thn_ret, outD_ret, outD_next, argsD, putN, List.set_cons_zero, List.set_cons_succ, wipeE, ev_var, ev_mvar, ev_none, ev_bool, ev_int, ev_str, ev_glb, ev_bin, ev_neg, ev_not, ev_and, ev_or, ev_cmp, ev_chn, ev_ife, ev_tup, ev_lst, ev_nil, ev_cons, ev_call, ev_meth, ev_mk, ev_bi, ev_min2, ev_isi, ev_len, ev_sub, ev_slc, ev_fld, ev_prop, ev_eqo, ev_tix, ev_pop0, ev_comp, ev_comp2, ev_iseq, ev_iown, ev_ienum, ev_izip, body_true, ex_skip, ex_seq, ex_set, ex_setM, ex_setB, ex_unp, ex_ixs, ex_ixa, ex_aug, ex_sfld, ex_ift, ex_for, ex_ret, ex_exp, biD, mod_ok rem hbi]) rfl (by rw [List.length_map]; omega)]
    simp only [startE, List.map, List.length, Nat.sub_self, Nat.reduceAdd, Nat.reduceSub, Nat.zero_add, List.replicate, List.append_nil, List.cons_append, List.nil_append, List.getElem?_cons_zero, List.getElem?_cons_succ, R.bind_ok, R.thn_ok, RS.thn_next, RS.thn_ret, outD_ret, outD_next, argsD, putN, List.set_cons_zero, List.set_cons_succ, wipeE, ev_var, ev_mvar, ev_none, ev_bool, ev_int, ev_str, ev_glb, ev_bin, ev_neg, ev_not, ev_and, ev_or, ev_cmp, ev_chn, ev_ife, ev_tup, ev_lst, ev_nil, ev_cons, ev_call, ev_meth, ev_mk, ev_bi, ev_min2, ev_isi, ev_len, ev_sub, ev_slc, ev_fld, ev_prop, ev_eqo, ev_tix, ev_pop0, ev_comp, ev_comp2, ev_iseq, ev_iown, ev_ienum, ev_izip, body_true, ex_skip, ex_seq, ex_set, ex_setM, ex_setB, ex_unp, ex_ixs, ex_ixa, ex_aug, ex_sfld, ex_ift, ex_for, ex_ret, ex_exp, f1, List.map_append]
  · have c : decide ((0 : Int) < rem) = false := by simpa using hr
    have m1 : binD .mul (.int 977) (.int t) h = .ok (.int (977 * t)) h := mul_small' _ _ (by decide) h
    have m2 : binD .mul (.int 31) (.int t) h = .ok (.int (31 * t)) h := mul_small' _ _ (by decide) h
    have bt : ∀ c : Nat, c < 1000 → intBits ((c * t : Int)) ≤ 64 := fun c hc => by
      rw [show ((c * t : Int)) = ((c * t : Nat) : Int) by simp]
      refine intBits_cast_le ?_
      have : c * t ≤ 1000 * 150 := Nat.mul_le_mul (by omega) (by omega)
      exact Nat.le_trans this (by decide)
    have b1 := bt 977 (by decide)
    have b2 := bt 31 (by decide)
    have q1 : intBits (cell + 977 * t) ≤ 2000000 := Nat.le_trans (bits_add hc b1) (by decide)
    have q2' : intBits (cell + 31 * t) ≤ 1048577 := bits_add hc b2
    have q2 : intBits (cell + 31 * t) ≤ 2000000 := Nat.le_trans q2' (by decide)
    have q3 : intBits (cell + 31 * t + 5) ≤ 2000000 := Nat.le_trans (bits_add q2' (n := 64) (by decide)) (by decide)
    have q4 : intBits (cell + 7) ≤ 2000000 := Nat.le_trans (bits_add hc (n := 64) (by decide)) (by decide)
    have m3 := mul_bits q1 q3 h
    have m4 := mul_bits q2 q4 h
    have m5 : binD .mod (.int t) (.int 9) h = _ := nat_mod t 9 (by decide) h
    have m6 : binD .mod (.int t) (.int 7) h = _ := nat_mod t 7 (by decide) h
    obtain ⟨r1, d1, z1, e1⟩ := draw k h ((cell + 977 * t) * (cell + 31 * t + 5)) (t % 9 + 1) (many := 999983) (by decide)
    obtain ⟨r2, d2, z2, e2⟩ := draw k h ((cell + 31 * t) * (cell + 7) + 977 * t) (t % 7 + 2) (many := 1000003) (by decide)
    have m7 : binD .mul (.int r1) (.int 1000003) h = .ok (.int (r1 * 1000003)) h := mul_small _ _ (by decide) h
    refine ⟨rem, some (.int r1), some (.int r2), (r1 * 1000003 + r2).fmod base, ?_⟩
    have d1 : (pg prg (k + 1)).call 22 [.int ((cell + 977 * t) * (cell + 31 * t + 5)), .int (((t % 9 : Nat) : Int) + 1), .int 999983] h = .ok (.int r1) h := d1
    have d2 : (pg prg (k + 1)).call 22 [.int ((cell + 31 * t) * (cell + 7) + 977 * t), .int (((t % 7 : Nat) : Int) + 2), .int 1000003] h = .ok (.int r2) h := d2
    unfold b__law_digits_0
    rw [ex_ift]
    simp only [ev_cmp, ev_var, ev_int, List.getElem?_cons_succ, List.getElem?_cons_zero, R.bind_ok, R.thn_ok, cmpD, c]
    simp only [startE, List.map, List.length, Nat.sub_self, Nat.reduceAdd, Nat.reduceSub, Nat.zero_add, List.replicate, List.append_nil, List.cons_append, List.nil_append, List.getElem?_cons_zero, List.getElem?_cons_succ, R.bind_ok, R.thn_ok, RS.thn_next, RS.thn_ret, outD_ret, outD_next, argsD, putN, List.set_cons_zero, List.set_cons_succ, wipeE, ev_var, ev_mvar, ev_none, ev_bool, ev_int, ev_str, ev_glb, ev_bin, ev_neg, ev_not, ev_and, ev_or, ev_cmp, ev_chn, ev_ife, ev_tup, ev_lst, ev_nil, ev_cons, ev_call, ev_meth, ev_mk, ev_bi, ev_min2, ev_isi, ev_len, ev_sub, ev_slc, ev_fld, ev_prop, ev_eqo, ev_tix, ev_pop0, ev_comp, ev_comp2, ev_iseq, ev_iown, ev_ienum, ev_izip, body_true, ex_skip, ex_seq, ex_set, ex_setM, ex_setB, ex_unp, ex_ixs, ex_ixa, ex_aug, ex_sfld, ex_ift, ex_for, ex_ret, ex_exp, m1, m2, add_ok, m3, m4, m5, m6, d1, d2]
    rw [app_ok (x := .int ((r1 * 1000003 + r2).fmod base)) (l := acc.map .int) (h1 := h) (by simp only [startE, List.map, List.length, Nat.sub_self, Nat.reduceAdd, Nat.reduceSub, Nat.zero_add, List.replicate, List.append_nil, List.cons_append, List.nil_append, List.getElem?_cons_zero, List.getElem?_cons_succ, R.bind_ok, R.thn_ok, RS.thn_next, RS.thn_ret, outD_ret, outD_next, argsD, putN, List.set_cons_zero, List.set_cons_succ, wipeE, ev_var, ev_mvar, ev_none, ev_bool, ev_int, ev_str, ev_glb, ev_bin, ev_neg, ev_not, ev_and, ev_or, ev_cmp, ev_chn, ev_ife, ev_tup, ev_lst, ev_nil, ev_cons, ev_call, ev_meth, ev_mk, ev_bi, ev_min2, ev_isi, ev_len, ev_sub, ev_slc, ev_fld, ev_prop, ev_eqo, ev_tix, ev_pop0, ev_comp, ev_comp2, ev_iseq, ev_iown, ev_ienum, ev_izip, body_true, ex_skip, ex_seq, ex_set, ex_setM, ex_setB, ex_unp, ex_ixs, ex_ixa, ex_aug, ex_sfld, ex_ift, ex_for, ex_ret, ex_exp, biD, m7, add_ok, mod_ok _ hbi]) rfl (by rw [List.length_map]; omega)]
    simp only [startE, List.map, List.length, Nat.sub_self, Nat.reduceAdd, Nat.reduceSub, Nat.zero_add, List.replicate, List.append_nil, List.cons_append, List.nil_append, List.getElem?_cons_zero, List.getElem?_cons_succ, R.bind_ok, R.thn_ok, RS.thn_next, RS.thn_ret, outD_ret, outD_next, argsD, putN, List.set_cons_zero, List.set_cons_succ, wipeE, ev_var, ev_mvar, ev_none, ev_bool, ev_int, ev_str, ev_glb, ev_bin, ev_neg, ev_not, ev_and, ev_or, ev_cmp, ev_chn, ev_ife, ev_tup, ev_lst, ev_nil, ev_cons, ev_call, ev_meth, ev_mk, ev_bi, ev_min2, ev_isi, ev_len, ev_sub, ev_slc, ev_fld, ev_prop, ev_eqo, ev_tix, ev_pop0, ev_comp, ev_comp2, ev_iseq, ev_iown, ev_ienum, ev_izip, body_true, ex_skip, ex_seq, ex_set, ex_setM, ex_setB, ex_unp, ex_ixs, ex_ixa, ex_aug, ex_sfld, ex_ift, ex_for, ex_ret, ex_exp, List.map_append]
theorem digits_loop (k : Nat) (h : Hb) (x0 x1 x2 : Option D) (base : Nat) (hb : base ≠ 0) (hb2 : base.log2 < 9000) (cell : Int) (hc : intBits cell ≤ 1048576) : ∀ (ts : List Nat) (rem : Int) (acc : List Int) (x5 x8 x9 : Option D), (∀ t ∈ ts, t < 150) → acc.length + ts.length ≤ 1000 →
    ∃ (e : En) (l : List Int), forL (fBody (pg prg (k + 1)) (.one 5) b__law_digits_0) (cD ts) [x0, x1, x2, some (.int base), some (.int rem), x5, some (.int cell), some (.lst (acc.map .int)), x8, x9] h = .next e h ∧ e[7]? = some (some (.lst (l.map .int))) ∧ l.length = acc.length + ts.length
  | [], rem, acc, x5, x8, x9, _, _ => ⟨_, acc, rfl, rfl, rfl⟩
  | t :: r, rem, acc, x5, x8, x9, ht, hl => by
    rw [List.length_cons] at hl
    obtain ⟨rem', x8', x9', y, e1⟩ := digit k h x0 x1 x2 x5 x8 x9 base hb hb2 rem cell hc t (ht t List.mem_cons_self) acc (by omega)
    obtain ⟨e, l, q1, q2, q3⟩ := digits_loop k h x0 x1 x2 base hb hb2 cell hc r rem' (acc ++ [y]) (some (.int t)) x8' x9' (fun t h => ht t (List.mem_cons_of_mem _ h)) (by rw [List.length_append]; simp; omega)
    refine ⟨e, l, ?_, q2, by rw [q3, List.length_append]; simp; omega⟩
    have e2 : fBody (pg prg (k + 1)) (.one 5) b__law_digits_0 (.int t) [x0, x1, x2, some (.int base), some (.int rem), x5, some (.int cell), some (.lst (acc.map .int)), x8, x9] h = .next [x0, x1, x2, some (.int base), some (.int rem'), some (.int t), some (.int cell), some (.lst ((acc ++ [y]).map .int)), x8', x9'] h := by
      rw [fBody_put _ _ _ rfl]
      exact e1
    show forL _ (.int t :: cD r) _ _ = _
    rw [forL_cons_next e2]
    exact q1
theorem digits (k : Nat) (h : Hb) (ns : List Int) (hn : ∀ z ∈ ns, intBits z ≤ 1048576) (a : Nat) (base : Nat) (hb : base ≠ 0) (hb2 : base.log2 < 9000) : ∃ l : List Int, (pg prg (k + 3)).call 24 [.lst (ns.map .int), .int a, .int 150, .int base] h = .ok (.lst (l.map .int)) h ∧ l.length = 150 := by
  obtain ⟨c, h1, h2⟩ := cell_at k h ns hn a
  have p : binD .pow (.int 10) (.int 18) h = .ok (.int (10 ^ 18)) h := rfl
  obtain ⟨e, l, q1, q2, q3⟩ := digits_loop (k + 1) h (some (.lst (ns.map .int))) (some (.int a)) (some (.int 150)) base hb hb2 c h2 (List.range 150) (c - 10 ^ 18) [] none none none (fun t h => List.mem_range.mp h) (by simp)
  refine ⟨l, ?_, by rw [q3]; simp⟩
  rw [call_eq (fn := f__law_digits) rfl rfl]
  unfold f__law_digits
  simp only [startE, List.map, List.length, Nat.reduceAdd, Nat.reduceSub, List.replicate, List.cons_append, List.nil_append]
  rw [ex_seq, par_ft (x := .int c) (l := []) (h1 := h) (h2 := h) (by simp only [startE, List.map, List.length, Nat.sub_self, Nat.reduceAdd, Nat.reduceSub, Nat.zero_add, List.replicate, List.append_nil, List.cons_append, List.nil_append, List.getElem?_cons_zero, List.getElem?_cons_succ, R.bind_ok, R.thn_ok, RS.thn_next, RS.thn_ret, outD_ret, outD_next, argsD, putN, List.set_cons_zero, List.set_cons_succ, wipeE, ev_var, ev_mvar, ev_none, ev_bool, ev_int, ev_str, ev_glb, ev_bin, ev_neg, ev_not, ev_and, ev_or, ev_cmp, ev_chn, ev_ife, ev_tup, ev_lst, ev_nil, ev_cons, ev_call, ev_meth, ev_mk, ev_bi, ev_min2, ev_isi, ev_len, ev_sub, ev_slc, ev_fld, ev_prop, ev_eqo, ev_tix, ev_pop0, ev_comp, ev_comp2, ev_iseq, ev_iown, ev_ienum, ev_izip, body_true, ex_skip, ex_seq, ex_set, ex_setM, ex_setB, ex_unp, ex_ixs, ex_ixa, ex_aug, ex_sfld, ex_ift, ex_for, ex_ret, ex_exp, h1]) rfl]
  simp only [startE, List.map, List.length, Nat.sub_self, Nat.reduceAdd, Nat.reduceSub, Nat.zero_add, List.replicate, List.append_nil, List.cons_append, List.nil_append, List.getElem?_cons_zero, List.getElem?_cons_succ, R.bind_ok, R.thn_ok, RS.thn_next, RS.thn_ret, outD_ret, outD_next, argsD, putN, List.set_cons_zero, List.set_cons_succ, wipeE, ev_var, ev_mvar, ev_none, ev_bool, ev_int, ev_str, ev_glb, ev_bin, ev_neg, ev_not, ev_and, ev_or, ev_cmp, ev_chn, ev_ife, ev_tup, ev_lst, ev_nil, ev_cons, ev_call, ev_meth, ev_mk, ev_bi, ev_min2, ev_isi, ev_len, ev_sub, ev_slc, ev_fld, ev_prop, ev_eqo, ev_tix, ev_pop0, ev_comp, ev_comp2, ev_iseq, ev_iown, ev_ienum, ev_izip, body_true, ex_skip, ex_seq, ex_set, ex_setM, ex_setB, ex_unp, ex_ixs, ex_ixa, ex_aug, ex_sfld, ex_ift, ex_for, ex_ret, ex_exp, p, sub_ok]
  rw [irng_nat (n := 150) (h' := h) (by simp only [startE, List.map, List.length, Nat.sub_self, Nat.reduceAdd, Nat.reduceSub, Nat.zero_add, List.replicate, List.append_nil, List.cons_append, List.nil_append, List.getElem?_cons_zero, List.getElem?_cons_succ, R.bind_ok, R.thn_ok, RS.thn_next, RS.thn_ret, outD_ret, outD_next, argsD, putN, List.set_cons_zero, List.set_cons_succ, wipeE, ev_var, ev_mvar, ev_none, ev_bool, ev_int, ev_str, ev_glb, ev_bin, ev_neg, ev_not, ev_and, ev_or, ev_cmp, ev_chn, ev_ife, ev_tup, ev_lst, ev_nil, ev_cons, ev_call, ev_meth, ev_mk, ev_bi, ev_min2, ev_isi, ev_len, ev_sub, ev_slc, ev_fld, ev_prop, ev_eqo, ev_tix, ev_pop0, ev_comp, ev_comp2, ev_iseq, ev_iown, ev_ienum, ev_izip, body_true, ex_skip, ex_seq, ex_set, ex_setM, ex_setB, ex_unp, ex_ixs, ex_ixa, ex_aug, ex_sfld, ex_ift, ex_for, ex_ret, ex_exp]; rfl) (by decide)]
  simp only [startE, List.map, List.length, Nat.sub_self, Nat.reduceAdd, Nat.reduceSub, Nat.zero_add, List.replicate, List.append_nil, List.cons_append, List.nil_append, List.getElem?_cons_zero, List.getElem?_cons_succ, R.bind_ok, R.thn_ok, RS.thn_next, RS.thn_ret, outD_ret, outD_next, argsD, putN, List.set_cons_zero, List.set_cons_succ, wipeE, ev_var, ev_mvar, ev_none, ev_bool, ev_int, ev_str, ev_glb, ev_bin, ev_neg, ev_not, ev_and, ev_or, ev_cmp, ev_chn, ev_ife, ev_tup, ev_lst, ev_nil, ev_cons, ev_call, ev_meth, ev_mk, ev_bi, ev_min2, ev_isi, ev_len, ev_sub, ev_slc, ev_fld, ev_prop, ev_eqo, ev_tix, ev_pop0, ev_comp, ev_comp2, ev_iseq, ev_iown, ev_ienum, ev_izip, body_true, ex_skip, ex_seq, ex_set, ex_setM, ex_setB, ex_unp, ex_ixs, ex_ixa, ex_aug, ex_sfld, ex_ift, ex_for, ex_ret, ex_exp]
  rw [show ((List.range 150).map fun c => D.int (c : Nat)) = cD (List.range 150) from rfl]
  have q1 : forL (fBody (pg prg (k + 2)) (.one 5) b__law_digits_0) (cD (List.range 150)) [some (.lst (ns.map .int)), some (.int a), some (.int 150), some (.int base), some (.int (c - 10 ^ 18)), none, some (.int c), some (.lst []), none, none] h = .next e h := q1
  rw [q1]
  simp only [startE, List.map, List.length, Nat.sub_self, Nat.reduceAdd, Nat.reduceSub, Nat.zero_add, List.replicate, List.append_nil, List.cons_append, List.nil_append, List.getElem?_cons_zero, List.getElem?_cons_succ, R.bind_ok, R.thn_ok, RS.thn_next, RS.thn_ret, outD_ret, outD_next, argsD, putN, List.set_cons_zero, List.set_cons_succ, wipeE, ev_var, ev_mvar, ev_none, ev_bool, ev_int, ev_str, ev_glb, ev_bin, ev_neg, ev_not, ev_and, ev_or, ev_cmp, ev_chn, ev_ife, ev_tup, ev_lst, ev_nil, ev_cons, ev_call, ev_meth, ev_mk, ev_bi, ev_min2, ev_isi, ev_len, ev_sub, ev_slc, ev_fld, ev_prop, ev_eqo, ev_tix, ev_pop0, ev_comp, ev_comp2, ev_iseq, ev_iown, ev_ienum, ev_izip, body_true, ex_skip, ex_seq, ex_set, ex_setM, ex_setB, ex_unp, ex_ixs, ex_ixa, ex_aug, ex_sfld, ex_ift, ex_for, ex_ret, ex_exp, q2]
theorem pool (k : Nat) (h : Hb) (ns : List Int) (hn : ∀ z ∈ ns, intBits z ≤ 1048576) : ∃ l : List Int, (pg prg (k + 4)).call 26 [.lst (ns.map .int), .tup [.int 1009, .int 1013, .int 1000033]] h = .ok (.lst (l.map .int)) h := by
  obtain ⟨l0, a0, b0⟩ := digits k h ns hn 0 1009 (by decide) (by decide)
  obtain ⟨l1, a1, b1⟩ := digits k h ns hn 1 1013 (by decide) (by decide)
  obtain ⟨l2, a2, b2⟩ := digits k h ns hn 2 1000033 (by decide) (by decide)
  refine ⟨l0 ++ l1 ++ l2, ?_⟩
  have sq : seqD (.tup [.int 1009, .int 1013, .int 1000033]) = some [.int 1009, .int 1013, .int 1000033] := rfl
  have step : ∀ (acc l : List Int) (i : Nat) (base : Nat) (x3 x4 : Option D), (pg prg (k + 3)).call 24 [.lst (ns.map .int), .int i, .int 150, .int base] h = .ok (.lst (l.map .int)) h → acc.length ≤ 1000 → l.length = 150 →
      fBody (pg prg (k + 3)) (.many [3, 4]) b__law_pool_0 (.tup [.int i, .int base]) [some (.lst (ns.map .int)), some (.tup [.int 1009, .int 1013, .int 1000033]), some (.lst (acc.map .int)), x3, x4] h = .next [some (.lst (ns.map .int)), some (.tup [.int 1009, .int 1013, .int 1000033]), some (.lst ((acc ++ l).map .int)), some (.int i), some (.int base)] h := by
    intro acc l i base x3 x4 e ha hl
    rw [fBody_put _ _ _ rfl]
    have bd : binD .add (.lst (acc.map .int)) (.lst (l.map .int)) h = .ok (.lst (acc.map .int ++ l.map .int)) h := by
      simp only [binD]
      exact if_pos (by rw [List.length_map, List.length_map]; omega)
    simp only [startE, List.map, List.length, Nat.sub_self, Nat.reduceAdd, Nat.reduceSub, Nat.zero_add, List.replicate, List.append_nil, List.cons_append, List.nil_append, List.getElem?_cons_zero, List.getElem?_cons_succ, R.bind_ok, R.thn_ok, RS.thn_next, RS.thn_ret, outD_ret, outD_next, argsD, putN, List.set_cons_zero, List.set_cons_succ, wipeE, ev_var, ev_mvar, ev_none, ev_bool, ev_int, ev_str, ev_glb, ev_bin, ev_neg, ev_not, ev_and, ev_or, ev_cmp, ev_chn, ev_ife, ev_tup, ev_lst, ev_nil, ev_cons, ev_call, ev_meth, ev_mk, ev_bi, ev_min2, ev_isi, ev_len, ev_sub, ev_slc, ev_fld, ev_prop, ev_eqo, ev_tix, ev_pop0, ev_comp, ev_comp2, ev_iseq, ev_iown, ev_ienum, ev_izip, body_true, ex_skip, ex_seq, ex_set, ex_setM, ex_setB, ex_unp, ex_ixs, ex_ixa, ex_aug, ex_sfld, ex_ift, ex_for, ex_ret, ex_exp, b__law_pool_0, List.zip, List.zipWith, List.foldl, e, bd, List.map_append]
  have s0 := step [] l0 0 1009 none none a0 (by simp) b0
  have s1 := step l0 l1 1 1013 (some (.int (0 : Nat))) (some (.int (1009 : Nat))) a1 (by omega) b1
  have s2 := step (l0 ++ l1) l2 2 1000033 (some (.int (1 : Nat))) (some (.int (1013 : Nat))) a2 (by rw [List.length_append]; omega) b2
  have all : forL (fBody (pg prg (k + 3)) (.many [3, 4]) b__law_pool_0) [.tup [.int (0 : Nat), .int 1009], .tup [.int (1 : Nat), .int 1013], .tup [.int (2 : Nat), .int 1000033]] [some (.lst (ns.map .int)), some (.tup [.int 1009, .int 1013, .int 1000033]), some (.lst []), none, none] h = .next [some (.lst (ns.map .int)), some (.tup [.int 1009, .int 1013, .int 1000033]), some (.lst ((l0 ++ l1 ++ l2).map .int)), some (.int (2 : Nat)), some (.int (1000033 : Nat))] h := by
    refine (forL_cons_next s0).trans ?_
    refine (forL_cons_next s1).trans ?_
    exact forL_cons_next s2
  obtain ⟨G, hG⟩ := aG (pg prg (k + 3))
  rw [← hG] at all
  refine call_by (fn := f__law_pool) rfl rfl G hG ?_
  simp only [startE, List.map, List.length, Nat.sub_self, Nat.reduceAdd, Nat.reduceSub, Nat.zero_add, List.replicate, List.append_nil, List.cons_append, List.nil_append, List.getElem?_cons_zero, List.getElem?_cons_succ, R.bind_ok, R.thn_ok, RS.thn_next, RS.thn_ret, outD_ret, outD_next, argsD, putN, List.set_cons_zero, List.set_cons_succ, wipeE, ev_var, ev_mvar, ev_none, ev_bool, ev_int, ev_str, ev_glb, ev_bin, ev_neg, ev_not, ev_and, ev_or, ev_cmp, ev_chn, ev_ife, ev_tup, ev_lst, ev_nil, ev_cons, ev_call, ev_meth, ev_mk, ev_bi, ev_min2, ev_isi, ev_len, ev_sub, ev_slc, ev_fld, ev_prop, ev_eqo, ev_tix, ev_pop0, ev_comp, ev_comp2, ev_iseq, ev_iown, ev_ienum, ev_izip, body_true, ex_skip, ex_seq, ex_set, ex_setM, ex_setB, ex_unp, ex_ixs, ex_ixa, ex_aug, ex_sfld, ex_ift, ex_for, ex_ret, ex_exp, f__law_pool, sq, enumD]
  rw [all]
  simp only [startE, List.map, List.length, Nat.sub_self, Nat.reduceAdd, Nat.reduceSub, Nat.zero_add, List.replicate, List.append_nil, List.cons_append, List.nil_append, List.getElem?_cons_zero, List.getElem?_cons_succ, R.bind_ok, R.thn_ok, RS.thn_next, RS.thn_ret, outD_ret, outD_next, argsD, putN, List.set_cons_zero, List.set_cons_succ, wipeE, ev_var, ev_mvar, ev_none, ev_bool, ev_int, ev_str, ev_glb, ev_bin, ev_neg, ev_not, ev_and, ev_or, ev_cmp, ev_chn, ev_ife, ev_tup, ev_lst, ev_nil, ev_cons, ev_call, ev_meth, ev_mk, ev_bi, ev_min2, ev_isi, ev_len, ev_sub, ev_slc, ev_fld, ev_prop, ev_eqo, ev_tix, ev_pop0, ev_comp, ev_comp2, ev_iseq, ev_iown, ev_ienum, ev_izip, body_true, ex_skip, ex_seq, ex_set, ex_setM, ex_setB, ex_unp, ex_ixs, ex_ixa, ex_aug, ex_sfld, ex_ift, ex_for, ex_ret, ex_exp]
/-- the box of the draws -/
def Bx (h : Hb) : Prop := ∃ l : List Int, h = [.lst (l.map .int)]
theorem take (k : Nat) {h : Hb} (b : Bx h) {many : Int} (hm : 0 < many) : ∃ r h', (pg prg (k + 1)).call 25 [.obj 0, .int many] h = .ok (.int r) h' ∧ Bx h' ∧ 0 ≤ r ∧ r < many := by
  obtain ⟨l, rfl⟩ := b
  cases l with
  | nil =>
    refine ⟨0, _, ?_, ⟨[], rfl⟩, by omega, hm⟩
    rw [call_eq (fn := f__law_take) rfl rfl]
    have d : dEq (.lst []) (.lst []) = some true := dEq_same (by decide)
    have v : viewD [.lst []] (.obj 0) = .lst [] := rfl
    have v2 : viewD [.lst []] (.lst []) = .lst [] := rfl
    simp only [startE, List.map, List.length, Nat.sub_self, Nat.reduceAdd, Nat.reduceSub, Nat.zero_add, List.replicate, List.append_nil, List.cons_append, List.nil_append, List.getElem?_cons_zero, List.getElem?_cons_succ, R.bind_ok, R.thn_ok, RS.thn_next, RS.thn_ret, outD_ret, outD_next, argsD, putN, List.set_cons_zero, List.set_cons_succ, wipeE, ev_var, ev_mvar, ev_none, ev_bool, ev_int, ev_str, ev_glb, ev_bin, ev_neg, ev_not, ev_and, ev_or, ev_cmp, ev_chn, ev_ife, ev_tup, ev_lst, ev_nil, ev_cons, ev_call, ev_meth, ev_mk, ev_bi, ev_min2, ev_isi, ev_len, ev_sub, ev_slc, ev_fld, ev_prop, ev_eqo, ev_tix, ev_pop0, ev_comp, ev_comp2, ev_iseq, ev_iown, ev_ienum, ev_izip, body_true, ex_skip, ex_seq, ex_set, ex_setM, ex_setB, ex_unp, ex_ixs, ex_ixa, ex_aug, ex_sfld, ex_ift, ex_for, ex_ret, ex_exp, f__law_take, cmpD, v, v2, d, Bool.not_true]
  | cons a r =>
    refine ⟨a.fmod many, _, ?_, ⟨r, rfl⟩, Int.fmod_nonneg_of_pos _ hm, Int.fmod_lt_of_pos _ hm⟩
    rw [call_eq (fn := f__law_take) rfl rfl]
    have d : dEq (.lst (.int a :: r.map .int)) (.lst []) = some false := dEq_diff (by
      show D.clns 59 (.int a :: r.map .int) = true
      exact clns_iff.mpr fun d hd => by
        rcases List.mem_cons.mp hd with rfl | hd
        · exact cln_int _ _
        · obtain ⟨x, _, rfl⟩ := List.mem_map.mp hd
          exact cln_int _ _) (by decide) (by simp)
    have v : viewD [.lst (.int a :: r.map .int)] (.obj 0) = .lst (.int a :: r.map .int) := rfl
    have v2 : viewD [.lst (.int a :: r.map .int)] (.lst []) = .lst [] := rfl
    have p0 : pop0D (.obj 0) [.lst (.int a :: r.map .int)] = .ok (.int a) [.lst (r.map .int)] := rfl
    have m0 := mod_ok a (b := many) (by omega)
    simp only [startE, List.map, List.length, Nat.sub_self, Nat.reduceAdd, Nat.reduceSub, Nat.zero_add, List.replicate, List.append_nil, List.cons_append, List.nil_append, List.getElem?_cons_zero, List.getElem?_cons_succ, R.bind_ok, R.thn_ok, RS.thn_next, RS.thn_ret, outD_ret, outD_next, argsD, putN, List.set_cons_zero, List.set_cons_succ, wipeE, ev_var, ev_mvar, ev_none, ev_bool, ev_int, ev_str, ev_glb, ev_bin, ev_neg, ev_not, ev_and, ev_or, ev_cmp, ev_chn, ev_ife, ev_tup, ev_lst, ev_nil, ev_cons, ev_call, ev_meth, ev_mk, ev_bi, ev_min2, ev_isi, ev_len, ev_sub, ev_slc, ev_fld, ev_prop, ev_eqo, ev_tix, ev_pop0, ev_comp, ev_comp2, ev_iseq, ev_iown, ev_ienum, ev_izip, body_true, ex_skip, ex_seq, ex_set, ex_setM, ex_setB, ex_unp, ex_ixs, ex_ixa, ex_aug, ex_sfld, ex_ift, ex_for, ex_ret, ex_exp, f__law_take, cmpD, v, v2, d, Bool.not_false, p0, biD, m0]
end K01

set_option Elab.async false
set_option linter.all false
set_option maxRecDepth 100000
set_option maxHeartbeats 1000000
/-! What the law's defs give: nets, pairs, an independent machine. -/
namespace K01
open PySem CC PyProof.Rows
variable {m : Nat} {n : Net}
theorem takeN (k : Nat) {h : Hb} (b : Bx h) {many : Nat} (hm : 0 < many) : ∃ (r : Nat) (h' : Hb), (pg prg (k + 1)).call 25 [.obj 0, .int many] h = .ok (.int r) h' ∧ Bx h' ∧ r < many := by
  obtain ⟨r, h', h1, h2, h3, h4⟩ := take k b (many := many) (by omega)
  obtain ⟨j, rfl⟩ := Int.eq_ofNat_of_zero_le h3
  exact ⟨j, h', h1, h2, by omega⟩
theorem eq0 (r : Nat) : dEq (.int r) (.int 0) = some (decide (r = 0)) := by
  by_cases e : r = 0
  · subst e
    exact dEq_same (cln_int _ _)
  · rw [dEq_diff (cln_int _ _) (cln_int _ _) (by simp; omega)]
    simp [e]
def EntOk (H : Nat) (x : Ent) : Prop := ∀ a b, x = some (a, b) → a ≤ 2 ∧ b < H
structure LG (G : Pg) : Prop where
  take : ∀ {h : Hb}, Bx h → ∀ {many : Nat}, 0 < many → ∃ (r : Nat) (h' : Hb), G.call 25 [.obj 0, .int many] h = .ok (.int r) h' ∧ Bx h' ∧ r < many
theorem lg (k : Nat) : LG (pg prg (k + 1)) := ⟨fun b _ hm => takeN k b hm⟩
theorem net0 {G : Pg} (L : LG G) {h : Hb} (bx : Bx h) {H : Nat} (hH : 0 < H) (x1 x2 x3 x4 x6 x7 x9 x10 : Option D) (acc : List Ent) (ha : acc.length < 1000) :
    ∃ (x : Ent) (h' : Hb) (y : Option D), exc G b__law_net_0 [some (.obj 0), x1, x2, x3, x4, some (.int H), x6, x7, some (.lst (acc.map encE)), x9, x10] h = .next [some (.obj 0), x1, x2, x3, x4, some (.int H), x6, x7, some (.lst ((acc ++ [x]).map encE)), x9, y] h' ∧ Bx h' ∧ EntOk H x := by
  obtain ⟨r1, h1, c1, bx1, l1⟩ := L.take bx (many := 2) (by decide)
  have pre : ∃ (a : Nat) (h2 : Hb), ev G (.ife (.cmp .eq (.call 25 (.cons (.var 0) (.cons (.cst (.int 2)) .nil))) (.cst (.int 0))) (.call 25 (.cons (.var 0) (.cons (.cst (.int 3)) .nil))) (.cst (.int 0))) [some (.obj 0), x1, x2, x3, x4, some (.int H), x6, x7, some (.lst (acc.map encE)), x9, x10] h = .ok (.int a) h2 ∧ Bx h2 ∧ a ≤ 2 := by
    have c1 : G.call 25 [.obj 0, .int 2] h = .ok (.int r1) h1 := c1
    by_cases e : r1 = 0
    · obtain ⟨r2, h2, c2, bx2, l2⟩ := L.take bx1 (many := 3) (by decide)
      have c2 : G.call 25 [.obj 0, .int 3] h1 = .ok (.int r2) h2 := c2
      refine ⟨r2, h2, ?_, bx2, by omega⟩
      have d : dEq (.int r1) (.int 0) = some true := by rw [eq0]; simp [e]
      simp only [startE, List.map, List.length, Nat.sub_self, Nat.reduceAdd, Nat.reduceSub, Nat.zero_add, List.replicate, List.append_nil, List.cons_append, List.nil_append, List.getElem?_cons_zero, List.getElem?_cons_succ, R.bind_ok, R.thn_ok, RS.thn_next, RS.thn_ret, outD_ret, outD_next, argsD, putN, List.set_cons_zero, List.set_cons_succ, wipeE, ev_var, ev_mvar, ev_none, ev_bool, ev_int, ev_str, ev_glb, ev_bin, ev_neg, ev_not, ev_and, ev_or, ev_cmp, ev_chn, ev_ife, ev_tup, ev_lst, ev_nil, ev_cons, ev_call, ev_meth, ev_mk, ev_bi, ev_min2, ev_isi, ev_len, ev_sub, ev_slc, ev_fld, ev_prop, ev_eqo, ev_tix, ev_pop0, ev_comp, ev_comp2, ev_iseq, ev_iown, ev_ienum, ev_izip, body_true, ex_skip, ex_seq, ex_set, ex_setM, ex_setB, ex_unp, ex_ixs, ex_ixa, ex_aug, ex_sfld, ex_ift, ex_for, ex_ret, ex_exp, c1, cmpD, viewD, d, c2]
    · refine ⟨0, h1, ?_, bx1, by omega⟩
      have d : dEq (.int r1) (.int 0) = some false := by rw [eq0]; simp [e]
      simp only [startE, List.map, List.length, Nat.sub_self, Nat.reduceAdd, Nat.reduceSub, Nat.zero_add, List.replicate, List.append_nil, List.cons_append, List.nil_append, List.getElem?_cons_zero, List.getElem?_cons_succ, R.bind_ok, R.thn_ok, RS.thn_next, RS.thn_ret, outD_ret, outD_next, argsD, putN, List.set_cons_zero, List.set_cons_succ, wipeE, ev_var, ev_mvar, ev_none, ev_bool, ev_int, ev_str, ev_glb, ev_bin, ev_neg, ev_not, ev_and, ev_or, ev_cmp, ev_chn, ev_ife, ev_tup, ev_lst, ev_nil, ev_cons, ev_call, ev_meth, ev_mk, ev_bi, ev_min2, ev_isi, ev_len, ev_sub, ev_slc, ev_fld, ev_prop, ev_eqo, ev_tix, ev_pop0, ev_comp, ev_comp2, ev_iseq, ev_iown, ev_ienum, ev_izip, body_true, ex_skip, ex_seq, ex_set, ex_setM, ex_setB, ex_unp, ex_ixs, ex_ixa, ex_aug, ex_sfld, ex_ift, ex_for, ex_ret, ex_exp, c1, cmpD, viewD, d]
      rfl
  obtain ⟨a, h2, e1, bx2, l2⟩ := pre
  obtain ⟨b, h3, c3, bx3, l3⟩ := L.take bx2 hH
  obtain ⟨s, h4, c4, bx4, l4⟩ := L.take bx3 (many := 6) (by decide)
  have c4 : G.call 25 [.obj 0, .int 6] h3 = .ok (.int s) h4 := c4
  refine ⟨if s = 0 then none else some (a, b), h4, some (.tup [.int a, .int b]), ?_, bx4, fun a' b' hx => ?_⟩
  · unfold b__law_net_0
    rw [ex_seq, ex_set, ev_tup, ev_cons, e1]
    simp only [startE, List.map, List.length, Nat.sub_self, Nat.reduceAdd, Nat.reduceSub, Nat.zero_add, List.replicate, List.append_nil, List.cons_append, List.nil_append, List.getElem?_cons_zero, List.getElem?_cons_succ, R.bind_ok, R.thn_ok, RS.thn_next, RS.thn_ret, outD_ret, outD_next, argsD, putN, List.set_cons_zero, List.set_cons_succ, wipeE, ev_var, ev_mvar, ev_none, ev_bool, ev_int, ev_str, ev_glb, ev_bin, ev_neg, ev_not, ev_and, ev_or, ev_cmp, ev_chn, ev_ife, ev_tup, ev_lst, ev_nil, ev_cons, ev_call, ev_meth, ev_mk, ev_bi, ev_min2, ev_isi, ev_len, ev_sub, ev_slc, ev_fld, ev_prop, ev_eqo, ev_tix, ev_pop0, ev_comp, ev_comp2, ev_iseq, ev_iown, ev_ienum, ev_izip, body_true, ex_skip, ex_seq, ex_set, ex_setM, ex_setB, ex_unp, ex_ixs, ex_ixa, ex_aug, ex_sfld, ex_ift, ex_for, ex_ret, ex_exp, c3]
    rw [app_ok (x := encE (if s = 0 then none else some (a, b))) (l := acc.map encE) (h1 := h4) ?_ rfl (by rw [List.length_map]; omega)]
    · simp only [startE, List.map, List.length, Nat.sub_self, Nat.reduceAdd, Nat.reduceSub, Nat.zero_add, List.replicate, List.append_nil, List.cons_append, List.nil_append, List.getElem?_cons_zero, List.getElem?_cons_succ, R.bind_ok, R.thn_ok, RS.thn_next, RS.thn_ret, outD_ret, outD_next, argsD, putN, List.set_cons_zero, List.set_cons_succ, wipeE, ev_var, ev_mvar, ev_none, ev_bool, ev_int, ev_str, ev_glb, ev_bin, ev_neg, ev_not, ev_and, ev_or, ev_cmp, ev_chn, ev_ife, ev_tup, ev_lst, ev_nil, ev_cons, ev_call, ev_meth, ev_mk, ev_bi, ev_min2, ev_isi, ev_len, ev_sub, ev_slc, ev_fld, ev_prop, ev_eqo, ev_tix, ev_pop0, ev_comp, ev_comp2, ev_iseq, ev_iown, ev_ienum, ev_izip, body_true, ex_skip, ex_seq, ex_set, ex_setM, ex_setB, ex_unp, ex_ixs, ex_ixa, ex_aug, ex_sfld, ex_ift, ex_for, ex_ret, ex_exp, List.map_append]
    · by_cases e : s = 0
      · have d : dEq (.int s) (.int 0) = some true := by rw [eq0]; simp [e]
        simp only [startE, List.map, List.length, Nat.sub_self, Nat.reduceAdd, Nat.reduceSub, Nat.zero_add, List.replicate, List.append_nil, List.cons_append, List.nil_append, List.getElem?_cons_zero, List.getElem?_cons_succ, R.bind_ok, R.thn_ok, RS.thn_next, RS.thn_ret, outD_ret, outD_next, argsD, putN, List.set_cons_zero, List.set_cons_succ, wipeE, ev_var, ev_mvar, ev_none, ev_bool, ev_int, ev_str, ev_glb, ev_bin, ev_neg, ev_not, ev_and, ev_or, ev_cmp, ev_chn, ev_ife, ev_tup, ev_lst, ev_nil, ev_cons, ev_call, ev_meth, ev_mk, ev_bi, ev_min2, ev_isi, ev_len, ev_sub, ev_slc, ev_fld, ev_prop, ev_eqo, ev_tix, ev_pop0, ev_comp, ev_comp2, ev_iseq, ev_iown, ev_ienum, ev_izip, body_true, ex_skip, ex_seq, ex_set, ex_setM, ex_setB, ex_unp, ex_ixs, ex_ixa, ex_aug, ex_sfld, ex_ift, ex_for, ex_ret, ex_exp, c4, cmpD, viewD, d, if_pos e, encE]
      · have d : dEq (.int s) (.int 0) = some false := by rw [eq0]; simp [e]
        simp only [startE, List.map, List.length, Nat.sub_self, Nat.reduceAdd, Nat.reduceSub, Nat.zero_add, List.replicate, List.append_nil, List.cons_append, List.nil_append, List.getElem?_cons_zero, List.getElem?_cons_succ, R.bind_ok, R.thn_ok, RS.thn_next, RS.thn_ret, outD_ret, outD_next, argsD, putN, List.set_cons_zero, List.set_cons_succ, wipeE, ev_var, ev_mvar, ev_none, ev_bool, ev_int, ev_str, ev_glb, ev_bin, ev_neg, ev_not, ev_and, ev_or, ev_cmp, ev_chn, ev_ife, ev_tup, ev_lst, ev_nil, ev_cons, ev_call, ev_meth, ev_mk, ev_bi, ev_min2, ev_isi, ev_len, ev_sub, ev_slc, ev_fld, ev_prop, ev_eqo, ev_tix, ev_pop0, ev_comp, ev_comp2, ev_iseq, ev_iown, ev_ienum, ev_izip, body_true, ex_skip, ex_seq, ex_set, ex_setM, ex_setB, ex_unp, ex_ixs, ex_ixa, ex_aug, ex_sfld, ex_ift, ex_for, ex_ret, ex_exp, c4, cmpD, viewD, d, if_neg e, encE]
  · by_cases e : s = 0
    · rw [if_pos e] at hx
      cases hx
    · rw [if_neg e] at hx
      cases hx
      exact ⟨l2, l3⟩
theorem net0_loop {G : Pg} (L : LG G) {H : Nat} (hH : 0 < H) (x1 x2 x3 x4 x6 x7 : Option D) : ∀ (ts : List Nat) (h : Hb) (acc : List Ent) (x9 x10 : Option D), Bx h → acc.length + ts.length ≤ 1000 → (∀ x ∈ acc, EntOk H x) →
    ∃ (r : List Ent) (h' : Hb) (y z : Option D), forL (fBody G (.one 9) b__law_net_0) (cD ts) [some (.obj 0), x1, x2, x3, x4, some (.int H), x6, x7, some (.lst (acc.map encE)), x9, x10] h = .next [some (.obj 0), x1, x2, x3, x4, some (.int H), x6, x7, some (.lst (r.map encE)), y, z] h' ∧ Bx h' ∧ r.length = acc.length + ts.length ∧ (∀ x ∈ r, EntOk H x)
  | [], h, acc, x9, x10, b, _, ho => ⟨acc, h, x9, x10, rfl, b, rfl, ho⟩
  | t :: ts, h, acc, x9, x10, b, hl, ho => by
    rw [List.length_cons] at hl
    obtain ⟨x, h1, y, e1, b1, o1⟩ := net0 L b hH x1 x2 x3 x4 x6 x7 (some (.int t)) x10 acc (by omega)
    obtain ⟨r, h', y', z', q1, q2, q3, q4⟩ := net0_loop L hH x1 x2 x3 x4 x6 x7 ts h1 (acc ++ [x]) (some (.int t)) y b1 (by rw [List.length_append]; simp; omega) (fun x' hx => by
      rcases List.mem_append.mp hx with hx | hx
      · exact ho x' hx
      · rw [List.mem_singleton.mp hx]; exact o1)
    refine ⟨r, h', y', z', ?_, q2, by rw [q3, List.length_append]; simp; omega, q4⟩
    have e2 : fBody G (.one 9) b__law_net_0 (.int t) [some (.obj 0), x1, x2, x3, x4, some (.int H), x6, x7, some (.lst (acc.map encE)), x9, x10] h = .next [some (.obj 0), x1, x2, x3, x4, some (.int H), x6, x7, some (.lst ((acc ++ [x]).map encE)), some (.int t), y] h1 := by
      rw [fBody_put _ _ _ rfl]
      exact e1
    show forL _ (.int t :: cD ts) _ _ = _
    rw [forL_cons_next e2, q1]
def RowOk (m H : Nat) (r : List Ent) : Prop := r.length = m ∧ ∀ x ∈ r, EntOk H x
theorem net1 {G : Pg} (L : LG G) {h : Hb} (bx : Bx h) {H : Nat} (hH : 0 < H) (hm : m ≤ 3) (x1 x2 x4 x7 x8 x9 x10 : Option D) (acc : List (List Ent)) (ha : acc.length < 1000) :
    ∃ (r : List Ent) (h' : Hb) (y z w : Option D), exc G b__law_net_1 [some (.obj 0), x1, x2, some (.int m), x4, some (.int H), some (.lst (acc.map encR)), x7, x8, x9, x10] h = .next [some (.obj 0), x1, x2, some (.int m), x4, some (.int H), some (.lst ((acc ++ [r]).map encR)), x7, y, z, w] h' ∧ Bx h' ∧ RowOk m H r := by
  obtain ⟨r, h', y, z, q1, q2, q3, q4⟩ := net0_loop L hH x1 x2 (some (.int m)) x4 (some (.lst (acc.map encR))) x7 (List.range m) h [] x9 x10 bx (by simp; omega) (fun x hx => absurd hx (by simp))
  refine ⟨r, h', some (.lst (r.map encE)), y, z, ?_, q2, by simpa using q3, q4⟩
  unfold b__law_net_1
  simp only [startE, List.map, List.length, Nat.sub_self, Nat.reduceAdd, Nat.reduceSub, Nat.zero_add, List.replicate, List.append_nil, List.cons_append, List.nil_append, List.getElem?_cons_zero, List.getElem?_cons_succ, R.bind_ok, R.thn_ok, RS.thn_next, RS.thn_ret, outD_ret, outD_next, argsD, putN, List.set_cons_zero, List.set_cons_succ, wipeE, ev_var, ev_mvar, ev_none, ev_bool, ev_int, ev_str, ev_glb, ev_bin, ev_neg, ev_not, ev_and, ev_or, ev_cmp, ev_chn, ev_ife, ev_tup, ev_lst, ev_nil, ev_cons, ev_call, ev_meth, ev_mk, ev_bi, ev_min2, ev_isi, ev_len, ev_sub, ev_slc, ev_fld, ev_prop, ev_eqo, ev_tix, ev_pop0, ev_comp, ev_comp2, ev_iseq, ev_iown, ev_ienum, ev_izip, body_true, ex_skip, ex_seq, ex_set, ex_setM, ex_setB, ex_unp, ex_ixs, ex_ixa, ex_aug, ex_sfld, ex_ift, ex_for, ex_ret, ex_exp]
  rw [irng_nat (n := m) (h' := h) (by simp only [startE, List.map, List.length, Nat.sub_self, Nat.reduceAdd, Nat.reduceSub, Nat.zero_add, List.replicate, List.append_nil, List.cons_append, List.nil_append, List.getElem?_cons_zero, List.getElem?_cons_succ, R.bind_ok, R.thn_ok, RS.thn_next, RS.thn_ret, outD_ret, outD_next, argsD, putN, List.set_cons_zero, List.set_cons_succ, wipeE, ev_var, ev_mvar, ev_none, ev_bool, ev_int, ev_str, ev_glb, ev_bin, ev_neg, ev_not, ev_and, ev_or, ev_cmp, ev_chn, ev_ife, ev_tup, ev_lst, ev_nil, ev_cons, ev_call, ev_meth, ev_mk, ev_bi, ev_min2, ev_isi, ev_len, ev_sub, ev_slc, ev_fld, ev_prop, ev_eqo, ev_tix, ev_pop0, ev_comp, ev_comp2, ev_iseq, ev_iown, ev_ienum, ev_izip, body_true, ex_skip, ex_seq, ex_set, ex_setM, ex_setB, ex_unp, ex_ixs, ex_ixa, ex_aug, ex_sfld, ex_ift, ex_for, ex_ret, ex_exp]) (by omega)]
  simp only [startE, List.map, List.length, Nat.sub_self, Nat.reduceAdd, Nat.reduceSub, Nat.zero_add, List.replicate, List.append_nil, List.cons_append, List.nil_append, List.getElem?_cons_zero, List.getElem?_cons_succ, R.bind_ok, R.thn_ok, RS.thn_next, RS.thn_ret, outD_ret, outD_next, argsD, putN, List.set_cons_zero, List.set_cons_succ, wipeE, ev_var, ev_mvar, ev_none, ev_bool, ev_int, ev_str, ev_glb, ev_bin, ev_neg, ev_not, ev_and, ev_or, ev_cmp, ev_chn, ev_ife, ev_tup, ev_lst, ev_nil, ev_cons, ev_call, ev_meth, ev_mk, ev_bi, ev_min2, ev_isi, ev_len, ev_sub, ev_slc, ev_fld, ev_prop, ev_eqo, ev_tix, ev_pop0, ev_comp, ev_comp2, ev_iseq, ev_iown, ev_ienum, ev_izip, body_true, ex_skip, ex_seq, ex_set, ex_setM, ex_setB, ex_unp, ex_ixs, ex_ixa, ex_aug, ex_sfld, ex_ift, ex_for, ex_ret, ex_exp]
  rw [show ((List.range m).map fun c => D.int (c : Nat)) = cD (List.range m) from rfl]
  simp only [List.map] at q1
  rw [q1]
  simp only [startE, List.map, List.length, Nat.sub_self, Nat.reduceAdd, Nat.reduceSub, Nat.zero_add, List.replicate, List.append_nil, List.cons_append, List.nil_append, List.getElem?_cons_zero, List.getElem?_cons_succ, R.bind_ok, R.thn_ok, RS.thn_next, RS.thn_ret, outD_ret, outD_next, argsD, putN, List.set_cons_zero, List.set_cons_succ, wipeE, ev_var, ev_mvar, ev_none, ev_bool, ev_int, ev_str, ev_glb, ev_bin, ev_neg, ev_not, ev_and, ev_or, ev_cmp, ev_chn, ev_ife, ev_tup, ev_lst, ev_nil, ev_cons, ev_call, ev_meth, ev_mk, ev_bi, ev_min2, ev_isi, ev_len, ev_sub, ev_slc, ev_fld, ev_prop, ev_eqo, ev_tix, ev_pop0, ev_comp, ev_comp2, ev_iseq, ev_iown, ev_ienum, ev_izip, body_true, ex_skip, ex_seq, ex_set, ex_setM, ex_setB, ex_unp, ex_ixs, ex_ixa, ex_aug, ex_sfld, ex_ift, ex_for, ex_ret, ex_exp]
  rw [app_ok (x := encR r) (l := acc.map encR) (h1 := h') (by simp only [startE, List.map, List.length, Nat.sub_self, Nat.reduceAdd, Nat.reduceSub, Nat.zero_add, List.replicate, List.append_nil, List.cons_append, List.nil_append, List.getElem?_cons_zero, List.getElem?_cons_succ, R.bind_ok, R.thn_ok, RS.thn_next, RS.thn_ret, outD_ret, outD_next, argsD, putN, List.set_cons_zero, List.set_cons_succ, wipeE, ev_var, ev_mvar, ev_none, ev_bool, ev_int, ev_str, ev_glb, ev_bin, ev_neg, ev_not, ev_and, ev_or, ev_cmp, ev_chn, ev_ife, ev_tup, ev_lst, ev_nil, ev_cons, ev_call, ev_meth, ev_mk, ev_bi, ev_min2, ev_isi, ev_len, ev_sub, ev_slc, ev_fld, ev_prop, ev_eqo, ev_tix, ev_pop0, ev_comp, ev_comp2, ev_iseq, ev_iown, ev_ienum, ev_izip, body_true, ex_skip, ex_seq, ex_set, ex_setM, ex_setB, ex_unp, ex_ixs, ex_ixa, ex_aug, ex_sfld, ex_ift, ex_for, ex_ret, ex_exp, biD, viewD]; rfl) rfl (by rw [List.length_map]; omega)]
  simp only [startE, List.map, List.length, Nat.sub_self, Nat.reduceAdd, Nat.reduceSub, Nat.zero_add, List.replicate, List.append_nil, List.cons_append, List.nil_append, List.getElem?_cons_zero, List.getElem?_cons_succ, R.bind_ok, R.thn_ok, RS.thn_next, RS.thn_ret, outD_ret, outD_next, argsD, putN, List.set_cons_zero, List.set_cons_succ, wipeE, ev_var, ev_mvar, ev_none, ev_bool, ev_int, ev_str, ev_glb, ev_bin, ev_neg, ev_not, ev_and, ev_or, ev_cmp, ev_chn, ev_ife, ev_tup, ev_lst, ev_nil, ev_cons, ev_call, ev_meth, ev_mk, ev_bi, ev_min2, ev_isi, ev_len, ev_sub, ev_slc, ev_fld, ev_prop, ev_eqo, ev_tix, ev_pop0, ev_comp, ev_comp2, ev_iseq, ev_iown, ev_ienum, ev_izip, body_true, ex_skip, ex_seq, ex_set, ex_setM, ex_setB, ex_unp, ex_ixs, ex_ixa, ex_aug, ex_sfld, ex_ift, ex_for, ex_ret, ex_exp, List.map_append]
theorem net1_loop {G : Pg} (L : LG G) {H : Nat} (hm : m ≤ 3) (x1 x2 x4 : Option D) : ∀ (ts : List Nat) (h : Hb) (acc : List (List Ent)) (x7 x8 x9 x10 : Option D), Bx h → acc.length + ts.length ≤ 1000 → (∀ t ∈ ts, t < H) → (∀ x ∈ acc, RowOk m H x) →
    ∃ (r : List (List Ent)) (h' : Hb) (y7 y8 y9 y10 : Option D), forL (fBody G (.one 7) b__law_net_1) (cD ts) [some (.obj 0), x1, x2, some (.int m), x4, some (.int H), some (.lst (acc.map encR)), x7, x8, x9, x10] h = .next [some (.obj 0), x1, x2, some (.int m), x4, some (.int H), some (.lst (r.map encR)), y7, y8, y9, y10] h' ∧ Bx h' ∧ r.length = acc.length + ts.length ∧ (∀ x ∈ r, RowOk m H x)
  | [], h, acc, x7, x8, x9, x10, b, _, _, ho => ⟨acc, h, x7, x8, x9, x10, rfl, b, rfl, ho⟩
  | t :: ts, h, acc, x7, x8, x9, x10, b, hl, ht, ho => by
    rw [List.length_cons] at hl
    have hH : 0 < H := by have := ht t List.mem_cons_self; omega
    obtain ⟨x, h1, y, z, w, e1, b1, o1⟩ := net1 L b hH hm x1 x2 x4 (some (.int t)) x8 x9 x10 acc (by omega)
    obtain ⟨r, h', y7, y8, y9, y10, q1, q2, q3, q4⟩ := net1_loop L hm x1 x2 x4 ts h1 (acc ++ [x]) (some (.int t)) y z w b1 (by rw [List.length_append]; simp; omega) (fun t h => ht t (List.mem_cons_of_mem _ h)) (fun x' hx => by
      rcases List.mem_append.mp hx with hx | hx
      · exact ho x' hx
      · rw [List.mem_singleton.mp hx]; exact o1)
    refine ⟨r, h', y7, y8, y9, y10, ?_, q2, by rw [q3, List.length_append]; simp; omega, q4⟩
    have e2 : fBody G (.one 7) b__law_net_1 (.int t) [some (.obj 0), x1, x2, some (.int m), x4, some (.int H), some (.lst (acc.map encR)), x7, x8, x9, x10] h = .next [some (.obj 0), x1, x2, some (.int m), x4, some (.int H), some (.lst ((acc ++ [x]).map encR)), some (.int t), y, z, w] h1 := by
      rw [fBody_put _ _ _ rfl]
      exact e1
    show forL _ (.int t :: cD ts) _ _ = _
    rw [forL_cons_next e2, q1]
structure NetP (m : Nat) (n : Net) : Prop where
  ed : ∀ e ∈ n, EdOk m e
  tot : (n.map List.length).sum ≤ 6
theorem sum_lens (n : Net) : (n.map fun e => ((e.length : Nat) : Int)).sum = (((n.map List.length).sum : Nat) : Int) := by
  induction n with
  | nil => rfl
  | cons e r ih => simp [ih]
theorem net2 {G : Pg} (L : LG G) {h : Hb} (bx : Bx h) (hm : m ≤ 3) (x1 x2 x5 x6 x7 x8 x9 x10 : Option D) (hn : NetP m n) (hl : n.length < 1000) :
    ∃ (n' : Net) (h' : Hb) (y5 y6 y7 y8 y9 y10 : Option D), exc G b__law_net_2 [some (.obj 0), x1, x2, some (.int m), some (.lst (n.map encN)), x5, x6, x7, x8, x9, x10] h = .next [some (.obj 0), x1, x2, some (.int m), some (.lst (n'.map encN)), y5, y6, y7, y8, y9, y10] h' ∧ Bx h' ∧ NetP m n' ∧ n'.length ≤ n.length + 1 ∧ n' ≠ [] := by
  obtain ⟨r1, h1, c1, bx1, l1⟩ := L.take bx (many := 3) (by decide)
  have c1 : G.call 25 [.obj 0, .int 3] h = .ok (.int r1) h1 := c1
  have tot := hn.tot
  obtain ⟨H, hH⟩ : ∃ H : Nat, H = min (1 + r1) (6 - (n.map List.length).sum) := ⟨_, rfl⟩
  obtain ⟨r, h', y7, y8, y9, y10, q1, q2, q3, q4⟩ := net1_loop L (H := H) hm x1 x2 (some (.lst (n.map encN))) (List.range H) h1 [] x7 x8 x9 x10 bx1 (by simp; omega) (fun t h => List.mem_range.mp h) (fun x hx => by cases hx)
  rw [List.length_range, List.length_nil, Nat.zero_add] at q3
  have hmin : (if (6 : Int) - (((n.map List.length).sum : Nat) : Int) < 1 + (r1 : Int) then (6 : Int) - (((n.map List.length).sum : Nat) : Int) else 1 + (r1 : Int)) = (H : Int) := by
    split <;> omega
  have e5 : ev G (.min2 (.bin .add (.cst (.int 1)) (.call 25 (.cons (.var 0) (.cons (.cst (.int 3)) .nil)))) (.bin .sub (.cst (.int 6)) (.bi .sum (.comp (.one 6) [6] (.iseq (.mvar 4)) (.cst (.bool true)) (.len (.var 6)))))) [some (.obj 0), x1, x2, some (.int m), some (.lst (n.map encN)), x5, x6, x7, x8, x9, x10] h = .ok (.int H) h1 := by
    simp only [startE, List.map, List.length, Nat.sub_self, Nat.reduceAdd, Nat.reduceSub, Nat.zero_add, List.replicate, List.append_nil, List.cons_append, List.nil_append, List.getElem?_cons_zero, List.getElem?_cons_succ, R.bind_ok, R.thn_ok, RS.thn_next, RS.thn_ret, outD_ret, outD_next, argsD, putN, List.set_cons_zero, List.set_cons_succ, wipeE, ev_var, ev_mvar, ev_none, ev_bool, ev_int, ev_str, ev_glb, ev_bin, ev_neg, ev_not, ev_and, ev_or, ev_cmp, ev_chn, ev_ife, ev_tup, ev_lst, ev_nil, ev_cons, ev_call, ev_meth, ev_mk, ev_bi, ev_min2, ev_isi, ev_len, ev_sub, ev_slc, ev_fld, ev_prop, ev_eqo, ev_tix, ev_pop0, ev_comp, ev_comp2, ev_iseq, ev_iown, ev_ienum, ev_izip, body_true, ex_skip, ex_seq, ex_set, ex_setM, ex_setB, ex_unp, ex_ixs, ex_ixa, ex_aug, ex_sfld, ex_ift, ex_for, ex_ret, ex_exp, c1, add_ok, iterD]
    rw [catL_one (g := encN) (F := fun e => .int (e.length : Nat)) n (fun e he => by
      rw [compF_put _ _ _ rfl]
      have ln : ∀ h, lenD G (encN e) h = .ok (.int e.length) h := fun h => by simp only [lenD, viewD, encN, List.length_map]
      simp only [startE, List.map, List.length, Nat.sub_self, Nat.reduceAdd, Nat.reduceSub, Nat.zero_add, List.replicate, List.append_nil, List.cons_append, List.nil_append, List.getElem?_cons_zero, List.getElem?_cons_succ, R.bind_ok, R.thn_ok, RS.thn_next, RS.thn_ret, outD_ret, outD_next, argsD, putN, List.set_cons_zero, List.set_cons_succ, wipeE, ev_var, ev_mvar, ev_none, ev_bool, ev_int, ev_str, ev_glb, ev_bin, ev_neg, ev_not, ev_and, ev_or, ev_cmp, ev_chn, ev_ife, ev_tup, ev_lst, ev_nil, ev_cons, ev_call, ev_meth, ev_mk, ev_bi, ev_min2, ev_isi, ev_len, ev_sub, ev_slc, ev_fld, ev_prop, ev_eqo, ev_tix, ev_pop0, ev_comp, ev_comp2, ev_iseq, ev_iown, ev_ienum, ev_izip, body_true, ex_skip, ex_seq, ex_set, ex_setM, ex_setB, ex_unp, ex_ixs, ex_ixa, ex_aug, ex_sfld, ex_ift, ex_for, ex_ret, ex_exp, ln])]
    simp only [startE, List.map, List.length, Nat.sub_self, Nat.reduceAdd, Nat.reduceSub, Nat.zero_add, List.replicate, List.append_nil, List.cons_append, List.nil_append, List.getElem?_cons_zero, List.getElem?_cons_succ, R.bind_ok, R.thn_ok, RS.thn_next, RS.thn_ret, outD_ret, outD_next, argsD, putN, List.set_cons_zero, List.set_cons_succ, wipeE, ev_var, ev_mvar, ev_none, ev_bool, ev_int, ev_str, ev_glb, ev_bin, ev_neg, ev_not, ev_and, ev_or, ev_cmp, ev_chn, ev_ife, ev_tup, ev_lst, ev_nil, ev_cons, ev_call, ev_meth, ev_mk, ev_bi, ev_min2, ev_isi, ev_len, ev_sub, ev_slc, ev_fld, ev_prop, ev_eqo, ev_tix, ev_pop0, ev_comp, ev_comp2, ev_iseq, ev_iown, ev_ienum, ev_izip, body_true, ex_skip, ex_seq, ex_set, ex_setM, ex_setB, ex_unp, ex_ixs, ex_ixa, ex_aug, ex_sfld, ex_ift, ex_for, ex_ret, ex_exp]
    rw [longD_ok (by rw [List.length_map]; omega)]
    simp only [startE, List.map, List.length, Nat.sub_self, Nat.reduceAdd, Nat.reduceSub, Nat.zero_add, List.replicate, List.append_nil, List.cons_append, List.nil_append, List.getElem?_cons_zero, List.getElem?_cons_succ, R.bind_ok, R.thn_ok, RS.thn_next, RS.thn_ret, outD_ret, outD_next, argsD, putN, List.set_cons_zero, List.set_cons_succ, wipeE, ev_var, ev_mvar, ev_none, ev_bool, ev_int, ev_str, ev_glb, ev_bin, ev_neg, ev_not, ev_and, ev_or, ev_cmp, ev_chn, ev_ife, ev_tup, ev_lst, ev_nil, ev_cons, ev_call, ev_meth, ev_mk, ev_bi, ev_min2, ev_isi, ev_len, ev_sub, ev_slc, ev_fld, ev_prop, ev_eqo, ev_tix, ev_pop0, ev_comp, ev_comp2, ev_iseq, ev_iown, ev_ienum, ev_izip, body_true, ex_skip, ex_seq, ex_set, ex_setM, ex_setB, ex_unp, ex_ixs, ex_ixa, ex_aug, ex_sfld, ex_ift, ex_for, ex_ret, ex_exp, biD, viewD, dInts_map, sub_ok, sum_lens, hmin]
  have rest : exc G b__law_net_2 [some (.obj 0), x1, x2, some (.int m), some (.lst (n.map encN)), x5, x6, x7, x8, x9, x10] h = (exc G (.ift (.cmp .ne (.mvar 6) (.lst .nil)) (.app 4 (.bi .tuple (.mvar 6))) .skip) [some (.obj 0), x1, x2, some (.int m), some (.lst (n.map encN)), some (.int H), some (.lst (r.map encR)), y7, y8, y9, y10] h') := by
    unfold b__law_net_2
    rw [ex_seq, ex_set, e5]
    simp only [startE, List.map, List.length, Nat.sub_self, Nat.reduceAdd, Nat.reduceSub, Nat.zero_add, List.replicate, List.append_nil, List.cons_append, List.nil_append, List.getElem?_cons_zero, List.getElem?_cons_succ, R.bind_ok, R.thn_ok, RS.thn_next, RS.thn_ret, outD_ret, outD_next, argsD, putN, List.set_cons_zero, List.set_cons_succ, wipeE, ev_var, ev_mvar, ev_none, ev_bool, ev_int, ev_str, ev_glb, ev_bin, ev_neg, ev_not, ev_and, ev_or, ev_cmp, ev_chn, ev_ife, ev_tup, ev_lst, ev_nil, ev_cons, ev_call, ev_meth, ev_mk, ev_bi, ev_min2, ev_isi, ev_len, ev_sub, ev_slc, ev_fld, ev_prop, ev_eqo, ev_tix, ev_pop0, ev_comp, ev_comp2, ev_iseq, ev_iown, ev_ienum, ev_izip, body_true, ex_skip, ex_seq, ex_set, ex_setM, ex_setB, ex_unp, ex_ixs, ex_ixa, ex_aug, ex_sfld, ex_ift, ex_for, ex_ret, ex_exp]
    rw [irng_nat (n := H) (h' := h1) (by simp only [startE, List.map, List.length, Nat.sub_self, Nat.reduceAdd, Nat.reduceSub, Nat.zero_add, List.replicate, List.append_nil, List.cons_append, List.nil_append, List.getElem?_cons_zero, List.getElem?_cons_succ, R.bind_ok, R.thn_ok, RS.thn_next, RS.thn_ret, outD_ret, outD_next, argsD, putN, List.set_cons_zero, List.set_cons_succ, wipeE, ev_var, ev_mvar, ev_none, ev_bool, ev_int, ev_str, ev_glb, ev_bin, ev_neg, ev_not, ev_and, ev_or, ev_cmp, ev_chn, ev_ife, ev_tup, ev_lst, ev_nil, ev_cons, ev_call, ev_meth, ev_mk, ev_bi, ev_min2, ev_isi, ev_len, ev_sub, ev_slc, ev_fld, ev_prop, ev_eqo, ev_tix, ev_pop0, ev_comp, ev_comp2, ev_iseq, ev_iown, ev_ienum, ev_izip, body_true, ex_skip, ex_seq, ex_set, ex_setM, ex_setB, ex_unp, ex_ixs, ex_ixa, ex_aug, ex_sfld, ex_ift, ex_for, ex_ret, ex_exp]) (by omega)]
    simp only [startE, List.map, List.length, Nat.sub_self, Nat.reduceAdd, Nat.reduceSub, Nat.zero_add, List.replicate, List.append_nil, List.cons_append, List.nil_append, List.getElem?_cons_zero, List.getElem?_cons_succ, R.bind_ok, R.thn_ok, RS.thn_next, RS.thn_ret, outD_ret, outD_next, argsD, putN, List.set_cons_zero, List.set_cons_succ, wipeE, ev_var, ev_mvar, ev_none, ev_bool, ev_int, ev_str, ev_glb, ev_bin, ev_neg, ev_not, ev_and, ev_or, ev_cmp, ev_chn, ev_ife, ev_tup, ev_lst, ev_nil, ev_cons, ev_call, ev_meth, ev_mk, ev_bi, ev_min2, ev_isi, ev_len, ev_sub, ev_slc, ev_fld, ev_prop, ev_eqo, ev_tix, ev_pop0, ev_comp, ev_comp2, ev_iseq, ev_iown, ev_ienum, ev_izip, body_true, ex_skip, ex_seq, ex_set, ex_setM, ex_setB, ex_unp, ex_ixs, ex_ixa, ex_aug, ex_sfld, ex_ift, ex_for, ex_ret, ex_exp]
    rw [show ((List.range H).map fun c => D.int (c : Nat)) = cD (List.range H) from rfl]
    simp only [List.map] at q1
    rw [q1]
    simp only [startE, List.map, List.length, Nat.sub_self, Nat.reduceAdd, Nat.reduceSub, Nat.zero_add, List.replicate, List.append_nil, List.cons_append, List.nil_append, List.getElem?_cons_zero, List.getElem?_cons_succ, R.bind_ok, R.thn_ok, RS.thn_next, RS.thn_ret, outD_ret, outD_next, argsD, putN, List.set_cons_zero, List.set_cons_succ, wipeE, ev_var, ev_mvar, ev_none, ev_bool, ev_int, ev_str, ev_glb, ev_bin, ev_neg, ev_not, ev_and, ev_or, ev_cmp, ev_chn, ev_ife, ev_tup, ev_lst, ev_nil, ev_cons, ev_call, ev_meth, ev_mk, ev_bi, ev_min2, ev_isi, ev_len, ev_sub, ev_slc, ev_fld, ev_prop, ev_eqo, ev_tix, ev_pop0, ev_comp, ev_comp2, ev_iseq, ev_iown, ev_ienum, ev_izip, body_true, ex_skip, ex_seq, ex_set, ex_setM, ex_setB, ex_unp, ex_ixs, ex_ixa, ex_aug, ex_sfld, ex_ift, ex_for, ex_ret, ex_exp]
  rw [rest]
  cases hr : r with
  | nil =>
    subst hr
    have H0 : H = 0 := by simpa using q3.symm
    refine ⟨n, h', some (.int H), some (.lst []), y7, y8, y9, y10, ?_, q2, hn, by omega, fun e => by
      subst e
      simp at hH
      omega⟩
    have d : dEq (.lst []) (.lst []) = some true := dEq_same (by decide)
    simp only [startE, List.map, List.length, Nat.sub_self, Nat.reduceAdd, Nat.reduceSub, Nat.zero_add, List.replicate, List.append_nil, List.cons_append, List.nil_append, List.getElem?_cons_zero, List.getElem?_cons_succ, R.bind_ok, R.thn_ok, RS.thn_next, RS.thn_ret, outD_ret, outD_next, argsD, putN, List.set_cons_zero, List.set_cons_succ, wipeE, ev_var, ev_mvar, ev_none, ev_bool, ev_int, ev_str, ev_glb, ev_bin, ev_neg, ev_not, ev_and, ev_or, ev_cmp, ev_chn, ev_ife, ev_tup, ev_lst, ev_nil, ev_cons, ev_call, ev_meth, ev_mk, ev_bi, ev_min2, ev_isi, ev_len, ev_sub, ev_slc, ev_fld, ev_prop, ev_eqo, ev_tix, ev_pop0, ev_comp, ev_comp2, ev_iseq, ev_iown, ev_ienum, ev_izip, body_true, ex_skip, ex_seq, ex_set, ex_setM, ex_setB, ex_unp, ex_ixs, ex_ixa, ex_aug, ex_sfld, ex_ift, ex_for, ex_ret, ex_exp, cmpD, viewD, d, Bool.not_true]
  | cons w q =>
    rw [← hr]
    have hH0 : 0 < H := by rw [← q3, hr]; simp
    refine ⟨n ++ [r], h', some (.int H), some (.lst (r.map encR)), y7, y8, y9, y10, ?_, q2, ⟨fun e he => ?_, ?_⟩, by simp, by simp⟩
    · have d : dEq (.lst (r.map encR)) (.lst []) = some false := dEq_diff (by
        show D.clns 59 (r.map encR) = true
        exact clns_map fun a _ => cln_le (cln_R a) (by decide)) (by decide) (by rw [hr]; simp)
      simp only [startE, List.map, List.length, Nat.sub_self, Nat.reduceAdd, Nat.reduceSub, Nat.zero_add, List.replicate, List.append_nil, List.cons_append, List.nil_append, List.getElem?_cons_zero, List.getElem?_cons_succ, R.bind_ok, R.thn_ok, RS.thn_next, RS.thn_ret, outD_ret, outD_next, argsD, putN, List.set_cons_zero, List.set_cons_succ, wipeE, ev_var, ev_mvar, ev_none, ev_bool, ev_int, ev_str, ev_glb, ev_bin, ev_neg, ev_not, ev_and, ev_or, ev_cmp, ev_chn, ev_ife, ev_tup, ev_lst, ev_nil, ev_cons, ev_call, ev_meth, ev_mk, ev_bi, ev_min2, ev_isi, ev_len, ev_sub, ev_slc, ev_fld, ev_prop, ev_eqo, ev_tix, ev_pop0, ev_comp, ev_comp2, ev_iseq, ev_iown, ev_ienum, ev_izip, body_true, ex_skip, ex_seq, ex_set, ex_setM, ex_setB, ex_unp, ex_ixs, ex_ixa, ex_aug, ex_sfld, ex_ift, ex_for, ex_ret, ex_exp, cmpD, viewD, d, Bool.not_false]
      rw [app_ok (x := encN r) (l := n.map encN) (h1 := h') (by simp only [startE, List.map, List.length, Nat.sub_self, Nat.reduceAdd, Nat.reduceSub, Nat.zero_add, List.replicate, List.append_nil, List.cons_append, List.nil_append, List.getElem?_cons_zero, List.getElem?_cons_succ, R.bind_ok, R.thn_ok, RS.thn_next, RS.thn_ret, outD_ret, outD_next, argsD, putN, List.set_cons_zero, List.set_cons_succ, wipeE, ev_var, ev_mvar, ev_none, ev_bool, ev_int, ev_str, ev_glb, ev_bin, ev_neg, ev_not, ev_and, ev_or, ev_cmp, ev_chn, ev_ife, ev_tup, ev_lst, ev_nil, ev_cons, ev_call, ev_meth, ev_mk, ev_bi, ev_min2, ev_isi, ev_len, ev_sub, ev_slc, ev_fld, ev_prop, ev_eqo, ev_tix, ev_pop0, ev_comp, ev_comp2, ev_iseq, ev_iown, ev_ienum, ev_izip, body_true, ex_skip, ex_seq, ex_set, ex_setM, ex_setB, ex_unp, ex_ixs, ex_ixa, ex_aug, ex_sfld, ex_ift, ex_for, ex_ret, ex_exp, biD, viewD]; rfl) rfl (by rw [List.length_map]; omega)]
      simp only [startE, List.map, List.length, Nat.sub_self, Nat.reduceAdd, Nat.reduceSub, Nat.zero_add, List.replicate, List.append_nil, List.cons_append, List.nil_append, List.getElem?_cons_zero, List.getElem?_cons_succ, R.bind_ok, R.thn_ok, RS.thn_next, RS.thn_ret, outD_ret, outD_next, argsD, putN, List.set_cons_zero, List.set_cons_succ, wipeE, ev_var, ev_mvar, ev_none, ev_bool, ev_int, ev_str, ev_glb, ev_bin, ev_neg, ev_not, ev_and, ev_or, ev_cmp, ev_chn, ev_ife, ev_tup, ev_lst, ev_nil, ev_cons, ev_call, ev_meth, ev_mk, ev_bi, ev_min2, ev_isi, ev_len, ev_sub, ev_slc, ev_fld, ev_prop, ev_eqo, ev_tix, ev_pop0, ev_comp, ev_comp2, ev_iseq, ev_iown, ev_ienum, ev_izip, body_true, ex_skip, ex_seq, ex_set, ex_setM, ex_setB, ex_unp, ex_ixs, ex_ixa, ex_aug, ex_sfld, ex_ift, ex_for, ex_ret, ex_exp, List.map_append]
    · rcases List.mem_append.mp he with he | he
      · exact hn.ed e he
      · rw [List.mem_singleton.mp he]
        exact ⟨by omega, by omega, fun x hx => ⟨(q4 x hx).1, fun y hy => by rw [q3]; exact (q4 x hx).2 y hy⟩⟩
    · rw [List.map_append, List.sum_append]
      simp
      omega
theorem net2_loop {G : Pg} (L : LG G) (hm : m ≤ 3) (x1 : Option D) : ∀ (ts : List Nat) (h : Hb) (n : Net) (x2 x5 x6 x7 x8 x9 x10 : Option D), Bx h → n.length + ts.length ≤ 1000 → NetP m n →
    ∃ (n' : Net) (h' : Hb) (y2 y5 y6 y7 y8 y9 y10 : Option D), forL (fBody G (.one 2) b__law_net_2) (cD ts) [some (.obj 0), x1, x2, some (.int m), some (.lst (n.map encN)), x5, x6, x7, x8, x9, x10] h = .next [some (.obj 0), x1, y2, some (.int m), some (.lst (n'.map encN)), y5, y6, y7, y8, y9, y10] h' ∧ Bx h' ∧ NetP m n' ∧ n'.length ≤ n.length + ts.length ∧ (ts ≠ [] ∨ n ≠ [] → n' ≠ [])
  | [], h, n, x2, x5, x6, x7, x8, x9, x10, b, _, hn => ⟨n, h, x2, x5, x6, x7, x8, x9, x10, rfl, b, hn, by simp, fun z => by simpa using z⟩
  | t :: ts, h, n, x2, x5, x6, x7, x8, x9, x10, b, hl, hn => by
    rw [List.length_cons] at hl
    obtain ⟨n1, h1, z5, z6, z7, z8, z9, z10, e1, b1, o1, o2, o3⟩ := net2 L b hm x1 (some (.int t)) x5 x6 x7 x8 x9 x10 hn (by omega)
    obtain ⟨n', h', y2, y5, y6, y7, y8, y9, y10, q1, q2, q3, q4, q5⟩ := net2_loop L hm x1 ts h1 n1 (some (.int t)) z5 z6 z7 z8 z9 z10 b1 (by omega) o1
    refine ⟨n', h', y2, y5, y6, y7, y8, y9, y10, ?_, q2, q3, by rw [List.length_cons]; omega, fun _ => q5 (.inr o3)⟩
    have e2 : fBody G (.one 2) b__law_net_2 (.int t) [some (.obj 0), x1, x2, some (.int m), some (.lst (n.map encN)), x5, x6, x7, x8, x9, x10] h = .next [some (.obj 0), x1, some (.int t), some (.int m), some (.lst (n1.map encN)), z5, z6, z7, z8, z9, z10] h1 := by
      rw [fBody_put _ _ _ rfl]
      exact e1
    show forL _ (.int t :: cD ts) _ _ = _
    rw [forL_cons_next e2, q1]
theorem add1 (r : Nat) (h : Hb) : binD .add (.int 1) (.int r) h = .ok (.int ((1 + r : Nat) : Int)) h := by
  rw [add_ok]
  simp
theorem net (k : Nat) {h : Hb} (bx : Bx h) : ∃ m n h', (pg prg (k + 2)).call 27 [.obj 0, .int 4] h = .ok (encT n) h' ∧ Bx h' ∧ NetOk m n := by
  have L := lg k
  obtain ⟨G, hG⟩ := aG (pg prg (k + 1))
  rw [← hG] at L
  obtain ⟨r1, h1, c1, bx1, l1⟩ := L.take bx (many := 3) (by decide)
  have c1 : G.call 25 [.obj 0, .int 3] h = .ok (.int r1) h1 := c1
  obtain ⟨r2, h2, c2, bx2, l2⟩ := L.take bx1 (many := 4) (by decide)
  have c2 : G.call 25 [.obj 0, .int 4] h1 = .ok (.int r2) h2 := c2
  obtain ⟨n', h', y2, y5, y6, y7, y8, y9, y10, q1, q2, q3, q4, q5⟩ := net2_loop L (m := 1 + r1) (by omega) (some (.int 4)) (List.range (1 + r2)) h2 [] none none none none none none none bx2 (by simp; omega) ⟨fun e he => absurd he (by simp), by simp⟩
  rw [List.length_range, List.length_nil] at q4
  have ne := q5 (.inl (by simp))
  have l0 : 1 ≤ n'.length := by
    cases n' with
    | nil => exact absurd rfl ne
    | cons => simp
  refine ⟨1 + r1, n', h', ?_, q2, ⟨by omega, by omega, l0, by omega, q3.ed, q3.tot⟩⟩
  refine call_by (fn := f__law_net) rfl rfl G hG ?_
  unfold f__law_net
  simp only [startE, List.map, List.length, Nat.reduceAdd, Nat.reduceSub, List.replicate, List.cons_append, List.nil_append]
  rw [ex_seq, par_ft (x := .int ((1 + r1 : Nat) : Int)) (l := []) (h1 := h1) (h2 := h1) (by simp only [startE, List.map, List.length, Nat.sub_self, Nat.reduceAdd, Nat.reduceSub, Nat.zero_add, List.replicate, List.append_nil, List.cons_append, List.nil_append, List.getElem?_cons_zero, List.getElem?_cons_succ, R.bind_ok, R.thn_ok, RS.thn_next, RS.thn_ret, outD_ret, outD_next, argsD, putN, List.set_cons_zero, List.set_cons_succ, wipeE, ev_var, ev_mvar, ev_none, ev_bool, ev_int, ev_str, ev_glb, ev_bin, ev_neg, ev_not, ev_and, ev_or, ev_cmp, ev_chn, ev_ife, ev_tup, ev_lst, ev_nil, ev_cons, ev_call, ev_meth, ev_mk, ev_bi, ev_min2, ev_isi, ev_len, ev_sub, ev_slc, ev_fld, ev_prop, ev_eqo, ev_tix, ev_pop0, ev_comp, ev_comp2, ev_iseq, ev_iown, ev_ienum, ev_izip, body_true, ex_skip, ex_seq, ex_set, ex_setM, ex_setB, ex_unp, ex_ixs, ex_ixa, ex_aug, ex_sfld, ex_ift, ex_for, ex_ret, ex_exp, c1, add1]) rfl]
  simp only [startE, List.map, List.length, Nat.sub_self, Nat.reduceAdd, Nat.reduceSub, Nat.zero_add, List.replicate, List.append_nil, List.cons_append, List.nil_append, List.getElem?_cons_zero, List.getElem?_cons_succ, R.bind_ok, R.thn_ok, RS.thn_next, RS.thn_ret, outD_ret, outD_next, argsD, putN, List.set_cons_zero, List.set_cons_succ, wipeE, ev_var, ev_mvar, ev_none, ev_bool, ev_int, ev_str, ev_glb, ev_bin, ev_neg, ev_not, ev_and, ev_or, ev_cmp, ev_chn, ev_ife, ev_tup, ev_lst, ev_nil, ev_cons, ev_call, ev_meth, ev_mk, ev_bi, ev_min2, ev_isi, ev_len, ev_sub, ev_slc, ev_fld, ev_prop, ev_eqo, ev_tix, ev_pop0, ev_comp, ev_comp2, ev_iseq, ev_iown, ev_ienum, ev_izip, body_true, ex_skip, ex_seq, ex_set, ex_setM, ex_setB, ex_unp, ex_ixs, ex_ixa, ex_aug, ex_sfld, ex_ift, ex_for, ex_ret, ex_exp]
  rw [irng_nat (n := 1 + r2) (h' := h2) (by simp only [startE, List.map, List.length, Nat.sub_self, Nat.reduceAdd, Nat.reduceSub, Nat.zero_add, List.replicate, List.append_nil, List.cons_append, List.nil_append, List.getElem?_cons_zero, List.getElem?_cons_succ, R.bind_ok, R.thn_ok, RS.thn_next, RS.thn_ret, outD_ret, outD_next, argsD, putN, List.set_cons_zero, List.set_cons_succ, wipeE, ev_var, ev_mvar, ev_none, ev_bool, ev_int, ev_str, ev_glb, ev_bin, ev_neg, ev_not, ev_and, ev_or, ev_cmp, ev_chn, ev_ife, ev_tup, ev_lst, ev_nil, ev_cons, ev_call, ev_meth, ev_mk, ev_bi, ev_min2, ev_isi, ev_len, ev_sub, ev_slc, ev_fld, ev_prop, ev_eqo, ev_tix, ev_pop0, ev_comp, ev_comp2, ev_iseq, ev_iown, ev_ienum, ev_izip, body_true, ex_skip, ex_seq, ex_set, ex_setM, ex_setB, ex_unp, ex_ixs, ex_ixa, ex_aug, ex_sfld, ex_ift, ex_for, ex_ret, ex_exp, c2, add1]) (by omega)]
  simp only [startE, List.map, List.length, Nat.sub_self, Nat.reduceAdd, Nat.reduceSub, Nat.zero_add, List.replicate, List.append_nil, List.cons_append, List.nil_append, List.getElem?_cons_zero, List.getElem?_cons_succ, R.bind_ok, R.thn_ok, RS.thn_next, RS.thn_ret, outD_ret, outD_next, argsD, putN, List.set_cons_zero, List.set_cons_succ, wipeE, ev_var, ev_mvar, ev_none, ev_bool, ev_int, ev_str, ev_glb, ev_bin, ev_neg, ev_not, ev_and, ev_or, ev_cmp, ev_chn, ev_ife, ev_tup, ev_lst, ev_nil, ev_cons, ev_call, ev_meth, ev_mk, ev_bi, ev_min2, ev_isi, ev_len, ev_sub, ev_slc, ev_fld, ev_prop, ev_eqo, ev_tix, ev_pop0, ev_comp, ev_comp2, ev_iseq, ev_iown, ev_ienum, ev_izip, body_true, ex_skip, ex_seq, ex_set, ex_setM, ex_setB, ex_unp, ex_ixs, ex_ixa, ex_aug, ex_sfld, ex_ift, ex_for, ex_ret, ex_exp]
  rw [show ((List.range (1 + r2)).map fun c => D.int (c : Nat)) = cD (List.range (1 + r2)) from rfl]
  simp only [List.map] at q1
  rw [q1]
  simp only [startE, List.map, List.length, Nat.sub_self, Nat.reduceAdd, Nat.reduceSub, Nat.zero_add, List.replicate, List.append_nil, List.cons_append, List.nil_append, List.getElem?_cons_zero, List.getElem?_cons_succ, R.bind_ok, R.thn_ok, RS.thn_next, RS.thn_ret, outD_ret, outD_next, argsD, putN, List.set_cons_zero, List.set_cons_succ, wipeE, ev_var, ev_mvar, ev_none, ev_bool, ev_int, ev_str, ev_glb, ev_bin, ev_neg, ev_not, ev_and, ev_or, ev_cmp, ev_chn, ev_ife, ev_tup, ev_lst, ev_nil, ev_cons, ev_call, ev_meth, ev_mk, ev_bi, ev_min2, ev_isi, ev_len, ev_sub, ev_slc, ev_fld, ev_prop, ev_eqo, ev_tix, ev_pop0, ev_comp, ev_comp2, ev_iseq, ev_iown, ev_ienum, ev_izip, body_true, ex_skip, ex_seq, ex_set, ex_setM, ex_setB, ex_unp, ex_ixs, ex_ixa, ex_aug, ex_sfld, ex_ift, ex_for, ex_ret, ex_exp, biD, viewD]
  rfl
theorem pairs_loop (G : Pg) (h : Hb) (x0 : Option D) : ∀ (n : Net) (i : Nat) (acc : List D) (x2 x3 : Option D), acc.length + (n.map List.length).sum ≤ 1000 →
    ∃ y2 y3, forL (fBody G (.many [2, 3]) b__law_pairs_0) (enumD i (n.map encN)) [x0, some (.lst acc), x2, x3, none] h = .next [x0, some (.lst (acc ++ (spotsF i n).map encP)), y2, y3, none] h
  | [], i, acc, x2, x3, _ => ⟨x2, x3, by simp [enumD, spotsF, forL_nil]⟩
  | e :: r, i, acc, x2, x3, hl => by
    rw [List.map_cons, List.sum_cons] at hl
    obtain ⟨y2, y3, q⟩ := pairs_loop G h x0 r (i + 1) (acc ++ (List.range e.length).map fun s => encP (i, s)) (some (.int i)) (some (encN e)) (by rw [List.length_append, List.length_map, List.length_range]; omega)
    refine ⟨y2, y3, ?_⟩
    have ln : ∀ h, lenD G (encN e) h = .ok (.int e.length) h := fun h => by simp only [lenD, viewD, encN, List.length_map]
    have e1 : fBody G (.many [2, 3]) b__law_pairs_0 (.tup [.int i, encN e]) [x0, some (.lst acc), x2, x3, none] h = .next [x0, some (.lst (acc ++ (List.range e.length).map fun s => encP (i, s))), some (.int i), some (encN e), none] h := by
      rw [fBody_put _ _ _ rfl]
      simp only [List.zip, List.zipWith, List.foldl, b__law_pairs_0, ex_set, ev_bin, ev_var, List.getElem?_cons_succ, List.getElem?_cons_zero, R.bind_ok, ev_comp, List.set_cons_succ, List.set_cons_zero]
      rw [irng_nat (n := e.length) (h' := h) (by simp only [startE, List.map, List.length, Nat.sub_self, Nat.reduceAdd, Nat.reduceSub, Nat.zero_add, List.replicate, List.append_nil, List.cons_append, List.nil_append, List.getElem?_cons_zero, List.getElem?_cons_succ, R.bind_ok, R.thn_ok, RS.thn_next, RS.thn_ret, outD_ret, outD_next, argsD, putN, List.set_cons_zero, List.set_cons_succ, wipeE, ev_var, ev_mvar, ev_none, ev_bool, ev_int, ev_str, ev_glb, ev_bin, ev_neg, ev_not, ev_and, ev_or, ev_cmp, ev_chn, ev_ife, ev_tup, ev_lst, ev_nil, ev_cons, ev_call, ev_meth, ev_mk, ev_bi, ev_min2, ev_isi, ev_len, ev_sub, ev_slc, ev_fld, ev_prop, ev_eqo, ev_tix, ev_pop0, ev_comp, ev_comp2, ev_iseq, ev_iown, ev_ienum, ev_izip, body_true, ex_skip, ex_seq, ex_set, ex_setM, ex_setB, ex_unp, ex_ixs, ex_ixa, ex_aug, ex_sfld, ex_ift, ex_for, ex_ret, ex_exp, ln]) (by omega)]
      simp only [startE, List.map, List.length, Nat.sub_self, Nat.reduceAdd, Nat.reduceSub, Nat.zero_add, List.replicate, List.append_nil, List.cons_append, List.nil_append, List.getElem?_cons_zero, List.getElem?_cons_succ, R.bind_ok, R.thn_ok, RS.thn_next, RS.thn_ret, outD_ret, outD_next, argsD, putN, List.set_cons_zero, List.set_cons_succ, wipeE, ev_var, ev_mvar, ev_none, ev_bool, ev_int, ev_str, ev_glb, ev_bin, ev_neg, ev_not, ev_and, ev_or, ev_cmp, ev_chn, ev_ife, ev_tup, ev_lst, ev_nil, ev_cons, ev_call, ev_meth, ev_mk, ev_bi, ev_min2, ev_isi, ev_len, ev_sub, ev_slc, ev_fld, ev_prop, ev_eqo, ev_tix, ev_pop0, ev_comp, ev_comp2, ev_iseq, ev_iown, ev_ienum, ev_izip, body_true, ex_skip, ex_seq, ex_set, ex_setM, ex_setB, ex_unp, ex_ixs, ex_ixa, ex_aug, ex_sfld, ex_ift, ex_for, ex_ret, ex_exp]
      rw [catL_one (g := fun s : Nat => D.int s) (F := fun s => encP (i, s)) (List.range e.length) fun s _ => rfl]
      simp only [startE, List.map, List.length, Nat.sub_self, Nat.reduceAdd, Nat.reduceSub, Nat.zero_add, List.replicate, List.append_nil, List.cons_append, List.nil_append, List.getElem?_cons_zero, List.getElem?_cons_succ, R.bind_ok, R.thn_ok, RS.thn_next, RS.thn_ret, outD_ret, outD_next, argsD, putN, List.set_cons_zero, List.set_cons_succ, wipeE, ev_var, ev_mvar, ev_none, ev_bool, ev_int, ev_str, ev_glb, ev_bin, ev_neg, ev_not, ev_and, ev_or, ev_cmp, ev_chn, ev_ife, ev_tup, ev_lst, ev_nil, ev_cons, ev_call, ev_meth, ev_mk, ev_bi, ev_min2, ev_isi, ev_len, ev_sub, ev_slc, ev_fld, ev_prop, ev_eqo, ev_tix, ev_pop0, ev_comp, ev_comp2, ev_iseq, ev_iown, ev_ienum, ev_izip, body_true, ex_skip, ex_seq, ex_set, ex_setM, ex_setB, ex_unp, ex_ixs, ex_ixa, ex_aug, ex_sfld, ex_ift, ex_for, ex_ret, ex_exp]
      rw [longD_ok (by rw [List.length_map, List.length_range]; omega)]
      have bd : binD .add (.lst acc) (.lst ((List.range e.length).map fun s => encP (i, s))) h = .ok (.lst (acc ++ (List.range e.length).map fun s => encP (i, s))) h := by
        simp only [binD]
        exact if_pos (by rw [List.length_map, List.length_range]; omega)
      simp only [startE, List.map, List.length, Nat.sub_self, Nat.reduceAdd, Nat.reduceSub, Nat.zero_add, List.replicate, List.append_nil, List.cons_append, List.nil_append, List.getElem?_cons_zero, List.getElem?_cons_succ, R.bind_ok, R.thn_ok, RS.thn_next, RS.thn_ret, outD_ret, outD_next, argsD, putN, List.set_cons_zero, List.set_cons_succ, wipeE, ev_var, ev_mvar, ev_none, ev_bool, ev_int, ev_str, ev_glb, ev_bin, ev_neg, ev_not, ev_and, ev_or, ev_cmp, ev_chn, ev_ife, ev_tup, ev_lst, ev_nil, ev_cons, ev_call, ev_meth, ev_mk, ev_bi, ev_min2, ev_isi, ev_len, ev_sub, ev_slc, ev_fld, ev_prop, ev_eqo, ev_tix, ev_pop0, ev_comp, ev_comp2, ev_iseq, ev_iown, ev_ienum, ev_izip, body_true, ex_skip, ex_seq, ex_set, ex_setM, ex_setB, ex_unp, ex_ixs, ex_ixa, ex_aug, ex_sfld, ex_ift, ex_for, ex_ret, ex_exp, bd]
    show forL _ (.tup [.int i, encN e] :: enumD (i + 1) (r.map encN)) _ _ = _
    rw [forL_cons_next e1, q]
    simp only [spotsF, List.map_append, List.map_map, List.append_assoc]
    rfl
theorem pairs (k : Nat) (h : Hb) (ok : NetOk m n) : (pg prg (k + 1)).call 28 [encT n] h = .ok (.lst ((spots n).map encP)) h := by
  have := ok.tot
  obtain ⟨G, hG⟩ := aG (pg prg k)
  obtain ⟨y2, y3, q⟩ := pairs_loop G h (some (encT n)) n 0 [] none none (by simp; omega)
  refine call_by (fn := f__law_pairs) rfl rfl G hG ?_
  have sq : seqD (encT n) = some (n.map encN) := rfl
  simp only [startE, List.map, List.length, Nat.sub_self, Nat.reduceAdd, Nat.reduceSub, Nat.zero_add, List.replicate, List.append_nil, List.cons_append, List.nil_append, List.getElem?_cons_zero, List.getElem?_cons_succ, R.bind_ok, R.thn_ok, RS.thn_next, RS.thn_ret, outD_ret, outD_next, argsD, putN, List.set_cons_zero, List.set_cons_succ, wipeE, ev_var, ev_mvar, ev_none, ev_bool, ev_int, ev_str, ev_glb, ev_bin, ev_neg, ev_not, ev_and, ev_or, ev_cmp, ev_chn, ev_ife, ev_tup, ev_lst, ev_nil, ev_cons, ev_call, ev_meth, ev_mk, ev_bi, ev_min2, ev_isi, ev_len, ev_sub, ev_slc, ev_fld, ev_prop, ev_eqo, ev_tix, ev_pop0, ev_comp, ev_comp2, ev_iseq, ev_iown, ev_ienum, ev_izip, body_true, ex_skip, ex_seq, ex_set, ex_setM, ex_setB, ex_unp, ex_ixs, ex_ixa, ex_aug, ex_sfld, ex_ift, ex_for, ex_ret, ex_exp, f__law_pairs, sq]
  rw [q]
  simp only [startE, List.map, List.length, Nat.sub_self, Nat.reduceAdd, Nat.reduceSub, Nat.zero_add, List.replicate, List.append_nil, List.cons_append, List.nil_append, List.getElem?_cons_zero, List.getElem?_cons_succ, R.bind_ok, R.thn_ok, RS.thn_next, RS.thn_ret, outD_ret, outD_next, argsD, putN, List.set_cons_zero, List.set_cons_succ, wipeE, ev_var, ev_mvar, ev_none, ev_bool, ev_int, ev_str, ev_glb, ev_bin, ev_neg, ev_not, ev_and, ev_or, ev_cmp, ev_chn, ev_ife, ev_tup, ev_lst, ev_nil, ev_cons, ev_call, ev_meth, ev_mk, ev_bi, ev_min2, ev_isi, ev_len, ev_sub, ev_slc, ev_fld, ev_prop, ev_eqo, ev_tix, ev_pop0, ev_comp, ev_comp2, ev_iseq, ev_iown, ev_ienum, ev_izip, body_true, ex_skip, ex_seq, ex_set, ex_setM, ex_setB, ex_unp, ex_ixs, ex_ixa, ex_aug, ex_sfld, ex_ift, ex_for, ex_ret, ex_exp]
  rfl
theorem step (k : Nat) (h : Hb) (ok : NetOk m n) {p : Nat} (hp : p < (spots n).length) {c : Nat} (hc : c < m) : (pg prg (k + 1)).call 29 [encT n, .lst ((spots n).map encP), .int p, .int c] h = .ok (.tup [encO (rp n c p), encO (nx n c p)]) h := by
  obtain ⟨s, h1, h2, h3⟩ := spot_at hp
  obtain ⟨e, r, x, g1, g2, g3, g4, g5⟩ := ent_ok ok h2 hc
  obtain ⟨G, hG⟩ := aG (pg prg k)
  refine call_by (fn := f__law_step) rfl rfl G hG ?_
  have s0 : ∀ h, subD (.lst ((spots n).map encP)) (.int p) h = .ok (encP s) h := fun h => by
    have : ((spots n).map encP)[p]? = some (encP s) := by rw [List.getElem?_map, h1]; rfl
    simp only [subD, viewD, List.length_map, ixn hp, this]
  have s3 : ∀ h, subD (encT n) (.int s.1) h = .ok (encN e) h := fun h => subT (by rw [List.getElem?_map, g1]; rfl)
  have s4 : ∀ h, subD (encN e) (.int s.2) h = .ok (encR r) h := fun h => subT (by rw [List.getElem?_map, g2]; rfl)
  have s5 : ∀ h, subD (encR r) (.int c) h = .ok (encE x) h := fun h => subT (by rw [List.getElem?_map, g3]; rfl)
  have en1 : rp n c p = x.map (·.1) := by unfold rp entP; rw [h3, g4]
  have en2 : nx n c p = x.map fun e => (spots n).idxOf (s.1, e.2) := by unfold nx entP; rw [h3, g4]
  have pt : putT (.many [5, 6]) (encP s) [some (encT n), some (.lst ((spots n).map encP)), some (.int p), some (.int c), none, none, none] = some [some (encT n), some (.lst ((spots n).map encP)), some (.int p), some (.int c), none, some (.int s.1), some (.int s.2)] := rfl
  simp only [startE, List.map, List.length, Nat.sub_self, Nat.reduceAdd, Nat.reduceSub, Nat.zero_add, List.replicate, List.append_nil, List.cons_append, List.nil_append, List.getElem?_cons_zero, List.getElem?_cons_succ, R.bind_ok, R.thn_ok, RS.thn_next, RS.thn_ret, outD_ret, outD_next, argsD, putN, List.set_cons_zero, List.set_cons_succ, wipeE, ev_var, ev_mvar, ev_none, ev_bool, ev_int, ev_str, ev_glb, ev_bin, ev_neg, ev_not, ev_and, ev_or, ev_cmp, ev_chn, ev_ife, ev_tup, ev_lst, ev_nil, ev_cons, ev_call, ev_meth, ev_mk, ev_bi, ev_min2, ev_isi, ev_len, ev_sub, ev_slc, ev_fld, ev_prop, ev_eqo, ev_tix, ev_pop0, ev_comp, ev_comp2, ev_iseq, ev_iown, ev_ienum, ev_izip, body_true, ex_skip, ex_seq, ex_set, ex_setM, ex_setB, ex_unp, ex_ixs, ex_ixa, ex_aug, ex_sfld, ex_ift, ex_for, ex_ret, ex_exp, f__law_step, cmpD, D.isN, s0, pt, s3, s4, s5, en1, en2]
  cases x with
  | none => simp only [startE, List.map, List.length, Nat.sub_self, Nat.reduceAdd, Nat.reduceSub, Nat.zero_add, List.replicate, List.append_nil, List.cons_append, List.nil_append, List.getElem?_cons_zero, List.getElem?_cons_succ, R.bind_ok, R.thn_ok, RS.thn_next, RS.thn_ret, outD_ret, outD_next, argsD, putN, List.set_cons_zero, List.set_cons_succ, wipeE, ev_var, ev_mvar, ev_none, ev_bool, ev_int, ev_str, ev_glb, ev_bin, ev_neg, ev_not, ev_and, ev_or, ev_cmp, ev_chn, ev_ife, ev_tup, ev_lst, ev_nil, ev_cons, ev_call, ev_meth, ev_mk, ev_bi, ev_min2, ev_isi, ev_len, ev_sub, ev_slc, ev_fld, ev_prop, ev_eqo, ev_tix, ev_pop0, ev_comp, ev_comp2, ev_iseq, ev_iown, ev_ienum, ev_izip, body_true, ex_skip, ex_seq, ex_set, ex_setM, ex_setB, ex_unp, ex_ixs, ex_ixa, ex_aug, ex_sfld, ex_ift, ex_for, ex_ret, ex_exp, encE, cmpD, D.isN, Option.map_none, encO]
  | some y =>
    obtain ⟨a, b⟩ := y
    have tx := tix_spots (g5 a b rfl).2 h
    have q1 : ∀ h, subD (.tup [.int a, .int b]) (.int 0) h = .ok (.int a) h := fun h => subT0 rfl
    have q2 : ∀ h, subD (.tup [.int a, .int b]) (.int 1) h = .ok (.int b) h := fun h => subT (j := 1) rfl
    simp only [startE, List.map, List.length, Nat.sub_self, Nat.reduceAdd, Nat.reduceSub, Nat.zero_add, List.replicate, List.append_nil, List.cons_append, List.nil_append, List.getElem?_cons_zero, List.getElem?_cons_succ, R.bind_ok, R.thn_ok, RS.thn_next, RS.thn_ret, outD_ret, outD_next, argsD, putN, List.set_cons_zero, List.set_cons_succ, wipeE, ev_var, ev_mvar, ev_none, ev_bool, ev_int, ev_str, ev_glb, ev_bin, ev_neg, ev_not, ev_and, ev_or, ev_cmp, ev_chn, ev_ife, ev_tup, ev_lst, ev_nil, ev_cons, ev_call, ev_meth, ev_mk, ev_bi, ev_min2, ev_isi, ev_len, ev_sub, ev_slc, ev_fld, ev_prop, ev_eqo, ev_tix, ev_pop0, ev_comp, ev_comp2, ev_iseq, ev_iown, ev_ienum, ev_izip, body_true, ex_skip, ex_seq, ex_set, ex_setM, ex_setB, ex_unp, ex_ixs, ex_ixa, ex_aug, ex_sfld, ex_ift, ex_for, ex_ret, ex_exp, encE, cmpD, D.isN, Option.map_some, encO, q1, q2, tixD]
    rw [show D.tup [.int s.1, .int b] = encP (s.1, b) from rfl, tx]
    rfl
end K01

set_option Elab.async false
set_option linter.all false
set_option maxRecDepth 100000
set_option maxHeartbeats 1000000
/-! What the law's defs give: an independent execution. -/
namespace K01
open PySem CC PyProof.Rows
variable {m : Nat} {n : Net}
theorem some_iff (c p : Nat) : (∃ r q, rp n c p = some r ∧ nx n c p = some q) ∨ (rp n c p = none ∧ nx n c p = none) := by
  unfold rp nx
  cases entP n p c with
  | none => exact .inr ⟨rfl, rfl⟩
  | some x => exact .inl ⟨_, _, rfl, rfl⟩
theorem rp_lt (ok : NetOk m n) {p c r : Nat} (hp : p < (spots n).length) (hc : c < m) (h : rp n c p = some r) : r < 3 := by
  unfold rp at h
  cases e : entP n p c with
  | none => rw [e] at h; cases h
  | some x =>
    rw [e] at h
    obtain ⟨a, b⟩ := x
    cases h
    have := (entP_ok ok hp hc a b e).1
    show a < 3
    omega
theorem get_map {l : List Int} {j : Nat} (h : j < l.length) : (l.map D.int)[j]? = some (.int (l.getD j 0)) := by
  rw [List.getElem?_map, List.getElem?_eq_getElem h, List.getD_eq_getElem?_getD, List.getElem?_eq_getElem h]
  rfl
theorem subL {l : List Int} {j : Nat} (h : j < l.length) (hh : Hb) : subD (.lst (l.map .int)) (.int j) hh = .ok (.int (l.getD j 0)) hh := by
  simp only [subD, viewD, List.length_map, ixn h, get_map h]
theorem call_loop (k : Nat) (h : Hb) (ok : NetOk m n) {c : Nat} (hc : c < m) (x2 : Option D) : ∀ (u : List Int) (i : Nat) (T L : List Int) (x6 x7 x8 x9 : Option D), i + u.length = (spots n).length → T.length = 3 → L.length = (spots n).length →
    ∃ y6 y7 y8 y9, forL (fBody (pg prg (k + 1)) (.many [6, 7]) b__law_call_0) (enumD i (u.map .int)) [some (encT n), some (.lst ((spots n).map encP)), x2, some (.int c), some (.lst (T.map .int)), some (.lst (L.map .int)), x6, x7, x8, x9] h = .next [some (encT n), some (.lst ((spots n).map encP)), x2, some (.int c), some (.lst ((psh T u ((List.range' i u.length).map (rp n c))).map .int)), some (.lst ((psh L u ((List.range' i u.length).map (nx n c))).map .int)), y6, y7, y8, y9] h
  | [], i, T, L, x6, x7, x8, x9, _, _, _ => ⟨x6, x7, x8, x9, by simp [enumD, psh, forL_nil]⟩
  | x :: u, i, T, L, x6, x7, x8, x9, hi, hT, hL => by
    rw [List.length_cons] at hi
    have hp : i < (spots n).length := by omega
    have st := step k h ok hp hc
    have e0 : enumD i ((x :: u).map .int) = .tup [.int i, .int x] :: enumD (i + 1) (u.map .int) := rfl
    have e0' : ∀ g : Nat → Option Nat, (List.range' i (x :: u).length).map g = g i :: (List.range' (i + 1) u.length).map g := fun g => by
      rw [List.length_cons, List.range'_succ, List.map_cons]
    rw [e0, e0', e0']
    rcases some_iff (n := n) c i with ⟨r, q, hr, hq⟩ | ⟨hr, hq⟩
    · have lr := rp_lt ok hp hc hr
      have lq := nx_lt ok hp hc hq
      obtain ⟨y6, y7, y8, y9, e⟩ := call_loop k h ok hc x2 u (i + 1) (T.set r (T.getD r 0 + x)) (L.set q (L.getD q 0 + x)) (some (.int i)) (some (.int x)) (some (.int r)) (some (.int q)) (by omega) (by simpa using hT) (by simpa using hL)
      refine ⟨y6, y7, y8, y9, ?_⟩
      have e1 : fBody (pg prg (k + 1)) (.many [6, 7]) b__law_call_0 (.tup [.int i, .int x]) [some (encT n), some (.lst ((spots n).map encP)), x2, some (.int c), some (.lst (T.map .int)), some (.lst (L.map .int)), x6, x7, x8, x9] h = .next [some (encT n), some (.lst ((spots n).map encP)), x2, some (.int c), some (.lst ((T.set r (T.getD r 0 + x)).map .int)), some (.lst ((L.set q (L.getD q 0 + x)).map .int)), some (.int i), some (.int x), some (.int r), some (.int q)] h := by
        rw [fBody_put _ _ _ rfl]
        have pt : putT (.many [8, 9]) (.tup [.int r, .int q]) [some (encT n), some (.lst ((spots n).map encP)), x2, some (.int c), some (.lst (T.map .int)), some (.lst (L.map .int)), some (.int i), some (.int x), x8, x9] = some [some (encT n), some (.lst ((spots n).map encP)), x2, some (.int c), some (.lst (T.map .int)), some (.lst (L.map .int)), some (.int i), some (.int x), some (.int r), some (.int q)] := rfl
        have sT := subL (l := T) (j := r) (by omega) h
        have sL := subL (l := L) (j := q) (by omega) h
        have iT : L2.ixN T.length (r : Int) = some r := ixn (by omega)
        have iL : L2.ixN L.length (q : Int) = some q := ixn (by omega)
        simp only [startE, List.map, List.length, Nat.sub_self, Nat.reduceAdd, Nat.reduceSub, Nat.zero_add, List.replicate, List.append_nil, List.cons_append, List.nil_append, List.getElem?_cons_zero, List.getElem?_cons_succ, R.bind_ok, R.thn_ok, RS.thn_next, RS.thn_ret, outD_ret, outD_next, argsD, putN, List.set_cons_zero, List.set_cons_succ, wipeE, ev_var, ev_mvar, ev_none, ev_bool, ev_int, ev_str, ev_glb, ev_bin, ev_neg, ev_not, ev_and, ev_or, ev_cmp, ev_chn, ev_ife, ev_tup, ev_lst, ev_nil, ev_cons, ev_call, ev_meth, ev_mk, ev_bi, ev_min2, ev_isi, ev_len, ev_sub, ev_slc, ev_fld, ev_prop, ev_eqo, ev_tix, ev_pop0, ev_comp, ev_comp2, ev_iseq, ev_iown, ev_ienum, ev_izip, body_true, ex_skip, ex_seq, ex_set, ex_setM, ex_setB, ex_unp, ex_ixs, ex_ixa, ex_aug, ex_sfld, ex_ift, ex_for, ex_ret, ex_exp, b__law_call_0, List.zip, List.zipWith, List.foldl, st, hr, hq, encO, pt, cmpD, D.isN, Bool.not_false, sT, sL, add_ok, List.length_map, iT, iL, List.map_set]
      rw [forL_cons_next e1, e, hr, hq]
      rfl
    · obtain ⟨y6, y7, y8, y9, e⟩ := call_loop k h ok hc x2 u (i + 1) T L (some (.int i)) (some (.int x)) (some .non) (some .non) (by omega) hT hL
      refine ⟨y6, y7, y8, y9, ?_⟩
      have e1 : fBody (pg prg (k + 1)) (.many [6, 7]) b__law_call_0 (.tup [.int i, .int x]) [some (encT n), some (.lst ((spots n).map encP)), x2, some (.int c), some (.lst (T.map .int)), some (.lst (L.map .int)), x6, x7, x8, x9] h = .next [some (encT n), some (.lst ((spots n).map encP)), x2, some (.int c), some (.lst (T.map .int)), some (.lst (L.map .int)), some (.int i), some (.int x), some .non, some .non] h := by
        rw [fBody_put _ _ _ rfl]
        have pt : putT (.many [8, 9]) (.tup [.non, .non]) [some (encT n), some (.lst ((spots n).map encP)), x2, some (.int c), some (.lst (T.map .int)), some (.lst (L.map .int)), some (.int i), some (.int x), x8, x9] = some [some (encT n), some (.lst ((spots n).map encP)), x2, some (.int c), some (.lst (T.map .int)), some (.lst (L.map .int)), some (.int i), some (.int x), some .non, some .non] := rfl
        simp only [startE, List.map, List.length, Nat.sub_self, Nat.reduceAdd, Nat.reduceSub, Nat.zero_add, List.replicate, List.append_nil, List.cons_append, List.nil_append, List.getElem?_cons_zero, List.getElem?_cons_succ, R.bind_ok, R.thn_ok, RS.thn_next, RS.thn_ret, outD_ret, outD_next, argsD, putN, List.set_cons_zero, List.set_cons_succ, wipeE, ev_var, ev_mvar, ev_none, ev_bool, ev_int, ev_str, ev_glb, ev_bin, ev_neg, ev_not, ev_and, ev_or, ev_cmp, ev_chn, ev_ife, ev_tup, ev_lst, ev_nil, ev_cons, ev_call, ev_meth, ev_mk, ev_bi, ev_min2, ev_isi, ev_len, ev_sub, ev_slc, ev_fld, ev_prop, ev_eqo, ev_tix, ev_pop0, ev_comp, ev_comp2, ev_iseq, ev_iown, ev_ienum, ev_izip, body_true, ex_skip, ex_seq, ex_set, ex_setM, ex_setB, ex_unp, ex_ixs, ex_ixa, ex_aug, ex_sfld, ex_ift, ex_for, ex_ret, ex_exp, b__law_call_0, List.zip, List.zipWith, List.foldl, st, hr, hq, encO, pt, cmpD, D.isN, Bool.not_true]
      rw [forL_cons_next e1, e, hr, hq]
      rfl
theorem call (k : Nat) (h : Hb) (ok : NetOk m n) {u : List Int} (hu : u.length = (spots n).length) {c : Nat} (hc : c < m) : (pg prg (k + 2)).call 30 [encT n, .lst ((spots n).map encP), encI u, .int c] h = .ok (.tup [encI (mv 3 u ((List.range (spots n).length).map (rp n c))), encI (mv (spots n).length u ((List.range (spots n).length).map (nx n c)))]) h := by
  have sm := small ok
  obtain ⟨y6, y7, y8, y9, q⟩ := call_loop k h ok hc (some (encI u)) u 0 [0, 0, 0] (List.replicate (spots n).length 0) none none none none (by omega) rfl (by simp)
  rw [call_eq (fn := f__law_call) rfl rfl]
  have z0 := mul_zeros (N := (spots n).length) (by omega) h
  have sq : seqD (encI u) = some (u.map .int) := rfl
  unfold f__law_call
  simp only [startE, List.map, List.length, Nat.reduceAdd, Nat.reduceSub, List.replicate, List.cons_append, List.nil_append]
  rw [ex_seq, par_tt (l := [.int 0, .int 0, .int 0]) (m := (List.replicate (spots n).length (0 : Int)).map D.int) (h1 := h) (h2 := h) (by simp only [startE, List.map, List.length, Nat.sub_self, Nat.reduceAdd, Nat.reduceSub, Nat.zero_add, List.replicate, List.append_nil, List.cons_append, List.nil_append, List.getElem?_cons_zero, List.getElem?_cons_succ, R.bind_ok, R.thn_ok, RS.thn_next, RS.thn_ret, outD_ret, outD_next, argsD, putN, List.set_cons_zero, List.set_cons_succ, wipeE, ev_var, ev_mvar, ev_none, ev_bool, ev_int, ev_str, ev_glb, ev_bin, ev_neg, ev_not, ev_and, ev_or, ev_cmp, ev_chn, ev_ife, ev_tup, ev_lst, ev_nil, ev_cons, ev_call, ev_meth, ev_mk, ev_bi, ev_min2, ev_isi, ev_len, ev_sub, ev_slc, ev_fld, ev_prop, ev_eqo, ev_tix, ev_pop0, ev_comp, ev_comp2, ev_iseq, ev_iown, ev_ienum, ev_izip, body_true, ex_skip, ex_seq, ex_set, ex_setM, ex_setB, ex_unp, ex_ixs, ex_ixa, ex_aug, ex_sfld, ex_ift, ex_for, ex_ret, ex_exp]) (by simp only [startE, List.map, List.length, Nat.sub_self, Nat.reduceAdd, Nat.reduceSub, Nat.zero_add, List.replicate, List.append_nil, List.cons_append, List.nil_append, List.getElem?_cons_zero, List.getElem?_cons_succ, R.bind_ok, R.thn_ok, RS.thn_next, RS.thn_ret, outD_ret, outD_next, argsD, putN, List.set_cons_zero, List.set_cons_succ, wipeE, ev_var, ev_mvar, ev_none, ev_bool, ev_int, ev_str, ev_glb, ev_bin, ev_neg, ev_not, ev_and, ev_or, ev_cmp, ev_chn, ev_ife, ev_tup, ev_lst, ev_nil, ev_cons, ev_call, ev_meth, ev_mk, ev_bi, ev_min2, ev_isi, ev_len, ev_sub, ev_slc, ev_fld, ev_prop, ev_eqo, ev_tix, ev_pop0, ev_comp, ev_comp2, ev_iseq, ev_iown, ev_ienum, ev_izip, body_true, ex_skip, ex_seq, ex_set, ex_setM, ex_setB, ex_unp, ex_ixs, ex_ixa, ex_aug, ex_sfld, ex_ift, ex_for, ex_ret, ex_exp, lenD, viewD, List.length_map, z0])]
  simp only [startE, List.map, List.length, Nat.sub_self, Nat.reduceAdd, Nat.reduceSub, Nat.zero_add, List.replicate, List.append_nil, List.cons_append, List.nil_append, List.getElem?_cons_zero, List.getElem?_cons_succ, R.bind_ok, R.thn_ok, RS.thn_next, RS.thn_ret, outD_ret, outD_next, argsD, putN, List.set_cons_zero, List.set_cons_succ, wipeE, ev_var, ev_mvar, ev_none, ev_bool, ev_int, ev_str, ev_glb, ev_bin, ev_neg, ev_not, ev_and, ev_or, ev_cmp, ev_chn, ev_ife, ev_tup, ev_lst, ev_nil, ev_cons, ev_call, ev_meth, ev_mk, ev_bi, ev_min2, ev_isi, ev_len, ev_sub, ev_slc, ev_fld, ev_prop, ev_eqo, ev_tix, ev_pop0, ev_comp, ev_comp2, ev_iseq, ev_iown, ev_ienum, ev_izip, body_true, ex_skip, ex_seq, ex_set, ex_setM, ex_setB, ex_unp, ex_ixs, ex_ixa, ex_aug, ex_sfld, ex_ift, ex_for, ex_ret, ex_exp, sq]
  simp only [List.map] at q
  rw [q]
  simp only [startE, List.map, List.length, Nat.sub_self, Nat.reduceAdd, Nat.reduceSub, Nat.zero_add, List.replicate, List.append_nil, List.cons_append, List.nil_append, List.getElem?_cons_zero, List.getElem?_cons_succ, R.bind_ok, R.thn_ok, RS.thn_next, RS.thn_ret, outD_ret, outD_next, argsD, putN, List.set_cons_zero, List.set_cons_succ, wipeE, ev_var, ev_mvar, ev_none, ev_bool, ev_int, ev_str, ev_glb, ev_bin, ev_neg, ev_not, ev_and, ev_or, ev_cmp, ev_chn, ev_ife, ev_tup, ev_lst, ev_nil, ev_cons, ev_call, ev_meth, ev_mk, ev_bi, ev_min2, ev_isi, ev_len, ev_sub, ev_slc, ev_fld, ev_prop, ev_eqo, ev_tix, ev_pop0, ev_comp, ev_comp2, ev_iseq, ev_iown, ev_ienum, ev_izip, body_true, ex_skip, ex_seq, ex_set, ex_setM, ex_setB, ex_unp, ex_ixs, ex_ixa, ex_aug, ex_sfld, ex_ift, ex_for, ex_ret, ex_exp, biD, viewD]
  rw [hu, ← List.range_eq_range']
  rfl
/-- what the independent execution gives -/
def along (n : Net) : List Int → List Nat → List (List Int) × List Int
  | u, [] => ([], u)
  | u, c :: r => (mv 3 u ((List.range (spots n).length).map (rp n c)) :: (along n (mv (spots n).length u ((List.range (spots n).length).map (nx n c))) r).1, (along n (mv (spots n).length u ((List.range (spots n).length).map (nx n c))) r).2)
theorem along_loop (k : Nat) (h : Hb) (ok : NetOk m n) (x3 : Option D) : ∀ (cs : List Nat) (u : List Int) (acc : List D) (x5 x6 : Option D), u.length = (spots n).length → (∀ c ∈ cs, c < m) → acc.length + cs.length ≤ 1000 →
    ∃ y5 y6, forL (fBody (pg prg (k + 2)) (.one 5) b__law_along_0) (cD cs) [some (encT n), some (.lst ((spots n).map encP)), some (encI u), x3, some (.lst acc), x5, x6] h = .next [some (encT n), some (.lst ((spots n).map encP)), some (encI (along n u cs).2), x3, some (.lst (acc ++ (along n u cs).1.map encI)), y5, y6] h
  | [], u, acc, x5, x6, _, _, _ => ⟨x5, x6, by simp [cD, along, forL_nil]⟩
  | c :: r, u, acc, x5, x6, hu, hc, hl => by
    rw [List.length_cons] at hl
    have ca := call k h ok hu (hc c List.mem_cons_self)
    obtain ⟨y5, y6, q⟩ := along_loop k h ok x3 r (mv (spots n).length u ((List.range (spots n).length).map (nx n c))) (acc ++ [encI (mv 3 u ((List.range (spots n).length).map (rp n c)))]) (some (.int c)) (some (encI (mv 3 u ((List.range (spots n).length).map (rp n c))))) (mv_len _ _ _) (fun c h => hc c (List.mem_cons_of_mem _ h)) (by rw [List.length_append]; simp; omega)
    refine ⟨y5, y6, ?_⟩
    have e : fBody (pg prg (k + 2)) (.one 5) b__law_along_0 (.int c) [some (encT n), some (.lst ((spots n).map encP)), some (encI u), x3, some (.lst acc), x5, x6] h = .next [some (encT n), some (.lst ((spots n).map encP)), some (encI (mv (spots n).length u ((List.range (spots n).length).map (nx n c)))), x3, some (.lst (acc ++ [encI (mv 3 u ((List.range (spots n).length).map (rp n c)))])), some (.int c), some (encI (mv 3 u ((List.range (spots n).length).map (rp n c))))] h := by
      rw [fBody_put _ _ _ rfl]
      unfold b__law_along_0
      rw [ex_seq, ex_unp]
      simp only [startE, List.map, List.length, Nat.sub_self, Nat.reduceAdd, Nat.reduceSub, Nat.zero_add, List.replicate, List.append_nil, List.cons_append, List.nil_append, List.getElem?_cons_zero, List.getElem?_cons_succ, R.bind_ok, R.thn_ok, RS.thn_next, RS.thn_ret, outD_ret, outD_next, argsD, putN, List.set_cons_zero, List.set_cons_succ, wipeE, ev_var, ev_mvar, ev_none, ev_bool, ev_int, ev_str, ev_glb, ev_bin, ev_neg, ev_not, ev_and, ev_or, ev_cmp, ev_chn, ev_ife, ev_tup, ev_lst, ev_nil, ev_cons, ev_call, ev_meth, ev_mk, ev_bi, ev_min2, ev_isi, ev_len, ev_sub, ev_slc, ev_fld, ev_prop, ev_eqo, ev_tix, ev_pop0, ev_comp, ev_comp2, ev_iseq, ev_iown, ev_ienum, ev_izip, body_true, ex_skip, ex_seq, ex_set, ex_setM, ex_setB, ex_unp, ex_ixs, ex_ixa, ex_aug, ex_sfld, ex_ift, ex_for, ex_ret, ex_exp, ca]
      have pt : ∀ a b : D, putT (.many [6, 2]) (.tup [a, b]) [some (encT n), some (.lst ((spots n).map encP)), some (encI u), x3, some (.lst acc), some (.int c), x6] = some [some (encT n), some (.lst ((spots n).map encP)), some b, x3, some (.lst acc), some (.int c), some a] := fun a b => rfl
      rw [pt]
      simp only [startE, List.map, List.length, Nat.sub_self, Nat.reduceAdd, Nat.reduceSub, Nat.zero_add, List.replicate, List.append_nil, List.cons_append, List.nil_append, List.getElem?_cons_zero, List.getElem?_cons_succ, R.bind_ok, R.thn_ok, RS.thn_next, RS.thn_ret, outD_ret, outD_next, argsD, putN, List.set_cons_zero, List.set_cons_succ, wipeE, ev_var, ev_mvar, ev_none, ev_bool, ev_int, ev_str, ev_glb, ev_bin, ev_neg, ev_not, ev_and, ev_or, ev_cmp, ev_chn, ev_ife, ev_tup, ev_lst, ev_nil, ev_cons, ev_call, ev_meth, ev_mk, ev_bi, ev_min2, ev_isi, ev_len, ev_sub, ev_slc, ev_fld, ev_prop, ev_eqo, ev_tix, ev_pop0, ev_comp, ev_comp2, ev_iseq, ev_iown, ev_ienum, ev_izip, body_true, ex_skip, ex_seq, ex_set, ex_setM, ex_setB, ex_unp, ex_ixs, ex_ixa, ex_aug, ex_sfld, ex_ift, ex_for, ex_ret, ex_exp]
      rw [app_ok (x := encI (mv 3 u ((List.range (spots n).length).map (rp n c)))) (l := acc) (h1 := h) (by simp only [startE, List.map, List.length, Nat.sub_self, Nat.reduceAdd, Nat.reduceSub, Nat.zero_add, List.replicate, List.append_nil, List.cons_append, List.nil_append, List.getElem?_cons_zero, List.getElem?_cons_succ, R.bind_ok, R.thn_ok, RS.thn_next, RS.thn_ret, outD_ret, outD_next, argsD, putN, List.set_cons_zero, List.set_cons_succ, wipeE, ev_var, ev_mvar, ev_none, ev_bool, ev_int, ev_str, ev_glb, ev_bin, ev_neg, ev_not, ev_and, ev_or, ev_cmp, ev_chn, ev_ife, ev_tup, ev_lst, ev_nil, ev_cons, ev_call, ev_meth, ev_mk, ev_bi, ev_min2, ev_isi, ev_len, ev_sub, ev_slc, ev_fld, ev_prop, ev_eqo, ev_tix, ev_pop0, ev_comp, ev_comp2, ev_iseq, ev_iown, ev_ienum, ev_izip, body_true, ex_skip, ex_seq, ex_set, ex_setM, ex_setB, ex_unp, ex_ixs, ex_ixa, ex_aug, ex_sfld, ex_ift, ex_for, ex_ret, ex_exp]) rfl (by omega)]
      simp only [startE, List.map, List.length, Nat.sub_self, Nat.reduceAdd, Nat.reduceSub, Nat.zero_add, List.replicate, List.append_nil, List.cons_append, List.nil_append, List.getElem?_cons_zero, List.getElem?_cons_succ, R.bind_ok, R.thn_ok, RS.thn_next, RS.thn_ret, outD_ret, outD_next, argsD, putN, List.set_cons_zero, List.set_cons_succ, wipeE, ev_var, ev_mvar, ev_none, ev_bool, ev_int, ev_str, ev_glb, ev_bin, ev_neg, ev_not, ev_and, ev_or, ev_cmp, ev_chn, ev_ife, ev_tup, ev_lst, ev_nil, ev_cons, ev_call, ev_meth, ev_mk, ev_bi, ev_min2, ev_isi, ev_len, ev_sub, ev_slc, ev_fld, ev_prop, ev_eqo, ev_tix, ev_pop0, ev_comp, ev_comp2, ev_iseq, ev_iown, ev_ienum, ev_izip, body_true, ex_skip, ex_seq, ex_set, ex_setM, ex_setB, ex_unp, ex_ixs, ex_ixa, ex_aug, ex_sfld, ex_ift, ex_for, ex_ret, ex_exp]
    show forL _ (.int c :: cD r) _ _ = _
    rw [forL_cons_next e, q]
    simp [along]
theorem alongC (k : Nat) (h : Hb) (ok : NetOk m n) {u : List Int} (hu : u.length = (spots n).length) {cs : List Nat} (hc : ∀ c ∈ cs, c < m) (hl : cs.length ≤ 900) : (pg prg (k + 3)).call 31 [encT n, .lst ((spots n).map encP), encI u, .lst (cD cs)] h = .ok (.tup [.lst ((along n u cs).1.map encI), encI (along n u cs).2]) h := by
  obtain ⟨y5, y6, q⟩ := along_loop k h ok (some (.lst (cD cs))) cs u [] none none hu hc (by simp; omega)
  rw [call_eq (fn := f__law_along) rfl rfl]
  simp only [startE, List.map, List.length, Nat.sub_self, Nat.reduceAdd, Nat.reduceSub, Nat.zero_add, List.replicate, List.append_nil, List.cons_append, List.nil_append, List.getElem?_cons_zero, List.getElem?_cons_succ, R.bind_ok, R.thn_ok, RS.thn_next, RS.thn_ret, outD_ret, outD_next, argsD, putN, List.set_cons_zero, List.set_cons_succ, wipeE, ev_var, ev_mvar, ev_none, ev_bool, ev_int, ev_str, ev_glb, ev_bin, ev_neg, ev_not, ev_and, ev_or, ev_cmp, ev_chn, ev_ife, ev_tup, ev_lst, ev_nil, ev_cons, ev_call, ev_meth, ev_mk, ev_bi, ev_min2, ev_isi, ev_len, ev_sub, ev_slc, ev_fld, ev_prop, ev_eqo, ev_tix, ev_pop0, ev_comp, ev_comp2, ev_iseq, ev_iown, ev_ienum, ev_izip, body_true, ex_skip, ex_seq, ex_set, ex_setM, ex_setB, ex_unp, ex_ixs, ex_ixa, ex_aug, ex_sfld, ex_ift, ex_for, ex_ret, ex_exp, f__law_along, iterD]
  rw [q]
  simp only [startE, List.map, List.length, Nat.sub_self, Nat.reduceAdd, Nat.reduceSub, Nat.zero_add, List.replicate, List.append_nil, List.cons_append, List.nil_append, List.getElem?_cons_zero, List.getElem?_cons_succ, R.bind_ok, R.thn_ok, RS.thn_next, RS.thn_ret, outD_ret, outD_next, argsD, putN, List.set_cons_zero, List.set_cons_succ, wipeE, ev_var, ev_mvar, ev_none, ev_bool, ev_int, ev_str, ev_glb, ev_bin, ev_neg, ev_not, ev_and, ev_or, ev_cmp, ev_chn, ev_ife, ev_tup, ev_lst, ev_nil, ev_cons, ev_call, ev_meth, ev_mk, ev_bi, ev_min2, ev_isi, ev_len, ev_sub, ev_slc, ev_fld, ev_prop, ev_eqo, ev_tix, ev_pop0, ev_comp, ev_comp2, ev_iseq, ev_iown, ev_ienum, ev_izip, body_true, ex_skip, ex_seq, ex_set, ex_setM, ex_setB, ex_unp, ex_ixs, ex_ixa, ex_aug, ex_sfld, ex_ift, ex_for, ex_ret, ex_exp]
/-! ### the plain law -/
theorem dot_dF (g : Nat → Option Nat) (r : Nat) : ∀ (v : List Int) (ps : Pl), dotI v (ps.map fun o => if o.bind g = some r then 1 else 0) = dF (ind r) v (ps.map fun o => o.bind g)
  | [], ps => by cases ps <;> rfl
  | x :: v, [] => rfl
  | x :: v, o :: ps => by
    have ih := dot_dF g r v ps
    unfold dotI at ih ⊢
    simp only [List.map_cons, List.zip_cons_cons, List.map, List.sum_cons, dF, ih]
    cases e : o.bind g with
    | none => simp
    | some q =>
      by_cases hq : q = r
      · subst hq
        simp [ind]
      · have : ¬ (some q = some r) := fun z => hq (Option.some.inj z)
        simp [ind, hq]
theorem inN {ps : Pl} (h : PlOk n ps) : InN (spots n).length ps := h.2
theorem tri_eq (ok : NetOk m n) (v : List Int) {ps : Pl} (hp : PlOk n ps) {c : Nat} (hc : c < m) : mv 3 (mv (spots n).length v ps) ((List.range (spots n).length).map (rp n c)) = tri n v ps c := by
  rw [mv_step v (inN hp) (rp n c) fun j hj p e => rp_lt ok hj hc e]
  have i3 : InN 3 (ps.map fun o => o.bind (rp n c)) := fun o ho p e => by
    obtain ⟨q, hq, rfl⟩ := List.mem_map.mp ho
    cases q with
    | none => cases e
    | some q => exact rp_lt ok (hp.2 _ hq q rfl) hc e
  have l3 := mv_len 3 v (ps.map fun o => o.bind (rp n c))
  have g : ∀ r, (mv 3 v (ps.map fun o => o.bind (rp n c))).getD r 0 = dotI v (tst n c r ps) := fun r => by
    rw [mv_get v i3 r]
    unfold tst
    rw [dot_dF]
  generalize mv 3 v (ps.map fun o => o.bind (rp n c)) = l at l3 g
  match l, l3 with
  | [a, b, d], _ =>
    have g0 := g 0
    have g1 := g 1
    have g2 := g 2
    simp only [List.getD_cons_zero, List.getD_cons_succ] at g0 g1 g2
    unfold tri
    rw [show List.range 3 = [0, 1, 2] from rfl]
    simp only [List.map, ← g0, ← g1, ← g2]
theorem along_eq (ok : NetOk m n) (v : List Int) : ∀ (cs : List Nat) (ps : Pl), PlOk n ps → (∀ c ∈ cs, c < m) → along n (mv (spots n).length v ps) cs = (hear n v ps cs, mv (spots n).length v (runP n ps cs))
  | [], ps, _, _ => rfl
  | c :: r, ps, hp, hc => by
    have ih := along_eq ok v r (stp n c ps) (stp_ok ok (hc c List.mem_cons_self) hp) fun c h => hc c (List.mem_cons_of_mem _ h)
    have e : mv (spots n).length (mv (spots n).length v ps) ((List.range (spots n).length).map (nx n c)) = mv (spots n).length v (stp n c ps) := mv_step v (inN hp) (nx n c) fun j hj p e => nx_lt ok hj (hc c List.mem_cons_self) e
    simp only [along, e, ih, tri_eq ok v hp (hc c List.mem_cons_self)]
    rfl
theorem along_start (ok : NetOk m n) {v : List Int} (hv : v.length = (spots n).length) {cs : List Nat} (hc : ∀ c ∈ cs, c < m) : along n v cs = (hear n v (st0 n) cs, mv (spots n).length v (runP n (st0 n) cs)) := by
  rw [← along_eq ok v cs (st0 n) st0_ok hc]
  have : mv (spots n).length v (st0 n) = v := by
    unfold st0
    rw [← hv]
    exact mv_start v
  rw [this]
end K01

set_option Elab.async false
set_option linter.all false
set_option maxRecDepth 100000
set_option maxHeartbeats 4000000
/-! The law. -/
namespace K01
open PySem CC
variable {m : Nat} {n : Net}
theorem catL_bx {α : Type} {f : D → Hb → R (List D)} {F : α → D} {Q : α → Prop} : ∀ (l : List D) (h : Hb), Bx h → (∀ d ∈ l, ∀ h, Bx h → ∃ a h', f d h = .ok [F a] h' ∧ Bx h' ∧ Q a) → ∃ (as : List α) (h' : Hb), catL f l h = .ok (as.map F) h' ∧ Bx h' ∧ as.length = l.length ∧ ∀ a ∈ as, Q a
  | [], h, b, _ => ⟨[], h, rfl, b, rfl, fun a ha => by cases ha⟩
  | x :: r, h, b, hf => by
    obtain ⟨a, h1, e1, b1, q1⟩ := hf x List.mem_cons_self h b
    obtain ⟨as, h2, e2, b2, l2, q2⟩ := catL_bx r h1 b1 fun d hd => hf d (List.mem_cons_of_mem _ hd)
    refine ⟨a :: as, h2, ?_, b2, by simp [l2], fun z hz => ?_⟩
    · show ((f x h).bind fun a h => (catL f r h).bind fun l h => R.ok (a ++ l) h) = _
      rw [e1, R.bind_ok, e2]
      rfl
    · rcases List.mem_cons.mp hz with rfl | hz
      · exact q1
      · exact q2 z hz
theorem net00 (ok : NetOk m n) : ∃ e w, n[(0 : Nat)]? = some e ∧ e[(0 : Nat)]? = some w ∧ w.length = m := by
  cases n with
  | nil => have := ok.n1; simp at this
  | cons e r =>
    have eo := ok.ed e List.mem_cons_self
    cases e with
    | nil => have := eo.lo; simp at this
    | cons w q => exact ⟨_, w, rfl, rfl, (eo.row w List.mem_cons_self).1⟩
theorem width (ok : NetOk m n) (G : Pg) {e : En} {h : Hb} (he : e[(3 : Nat)]? = some (some (encT n))) : ev G (.len (.sub (.sub (.var 3) (.cst (.int 0))) (.cst (.int 0)))) e h = .ok (.int m) h := by
  obtain ⟨ed, w, h1, h2, h3⟩ := net00 ok
  have s1 : ∀ h, subD (encT n) (.int 0) h = .ok (encN ed) h := fun h => subT0 (by rw [List.getElem?_map, h1]; rfl)
  have s2 : ∀ h, subD (encN ed) (.int 0) h = .ok (encR w) h := fun h => subT0 (by rw [List.getElem?_map, h2]; rfl)
  simp only [ev_len, ev_sub, ev_var, he, R.bind_ok, ev_int, s1, s2, lenD, viewD, encR, List.length_map, h3]
theorem clnI (l : List Int) : (encI l).cln 1 = true := by
  simp only [encI, D.cln]
  exact clns_map fun a _ => cln_int _ _
theorem clnLI (l : List (List Int)) : (D.lst (l.map encI)).cln 60 = true := by
  simp only [D.cln]
  exact clns_map fun a _ => cln_le (clnI a) (by decide)
theorem view_cln {d : D} {n : Nat} (h : Hb) (hd : d.cln n = true) : viewD h d = d := by
  cases d <;> first | rfl | (cases n <;> simp [D.cln] at hd)
theorem ne_same {d : D} (h : Hb) (hd : d.cln 60 = true) : cmpD .ne d d h = .ok (.bl false) h := by
  simp only [cmpD, view_cln h hd, dEq_same hd, Bool.not_true]
theorem law0 (k : Nat) {h : Hb} (bx : Bx h) (ok : NetOk m n) (x0 x2 x4 x7 x8 x9 x10 x11 : Option D) :
    ∃ e h', exc (pg prg (k + 6)) b_law_0 [x0, some (.obj 0), x2, some (encT n), x4, some (shD m n), some (.lst ((spots n).map encP)), x7, x8, x9, x10, x11, none, none] h = .next e h' ∧ Bx h' ∧ ∃ y7 y8 y9 y10 y11, e = [x0, some (.obj 0), x2, some (encT n), x4, some (shD m n), some (.lst ((spots n).map encP)), y7, y8, y9, y10, y11, none, none] := by
  have sm := small ok
  have m1 := ok.m1
  -- the crowd
  obtain ⟨v, h1, e1, b1, l1, q1⟩ := catL_bx (f := compF (pg prg (k + 6)) [x0, some (.obj 0), x2, some (encT n), x4, some (shD m n), some (.lst ((spots n).map encP)), x7, x8, x9, x10, x11, none, none] (.one 13) [13] (.cst (.bool true)) (.ife (.cmp .gt (.call 25 (.cons (.var 1) (.cons (.cst (.int 3)) .nil))) (.cst (.int 0))) (.call 25 (.cons (.var 1) (.cons (.cst (.int 21)) .nil))) (.cst (.int 0)))) (F := D.int) (Q := fun a => 0 ≤ a ∧ a ≤ 20) ((spots n).map encP) h bx (fun d hd h b => by
    rw [compF_put _ _ _ rfl]
    obtain ⟨r1, h1, c1, bx1, l1⟩ := takeN (k + 5) b (many := 3) (by decide)
    have c1 : (pg prg (k + 6)).call 25 [.obj 0, .int 3] h = .ok (.int r1) h1 := c1
    by_cases e : 0 < r1
    · obtain ⟨r2, h2, c2, bx2, l2⟩ := takeN (k + 5) bx1 (many := 21) (by decide)
      have c2 : (pg prg (k + 6)).call 25 [.obj 0, .int 21] h1 = .ok (.int r2) h2 := c2
      refine ⟨r2, h2, ?_, bx2, by omega, by omega⟩
      have c : decide ((0 : Int) < (r1 : Int)) = true := by simpa using e
      simp only [startE, List.map, List.length, Nat.sub_self, Nat.reduceAdd, Nat.reduceSub, Nat.zero_add, List.replicate, List.append_nil, List.cons_append, List.nil_append, List.getElem?_cons_zero, List.getElem?_cons_succ, R.bind_ok, R.thn_ok, RS.thn_next, RS.thn_ret, outD_ret, outD_next, argsD, putN, List.set_cons_zero, List.set_cons_succ, wipeE, ev_var, ev_mvar, ev_none, ev_bool, ev_int, ev_str, ev_glb, ev_bin, ev_neg, ev_not, ev_and, ev_or, ev_cmp, ev_chn, ev_ife, ev_tup, ev_lst, ev_nil, ev_cons, ev_call, ev_meth, ev_mk, ev_bi, ev_min2, ev_isi, ev_len, ev_sub, ev_slc, ev_fld, ev_prop, ev_eqo, ev_tix, ev_pop0, ev_comp, ev_comp2, ev_iseq, ev_iown, ev_ienum, ev_izip, body_true, ex_skip, ex_seq, ex_set, ex_setM, ex_setB, ex_unp, ex_ixs, ex_ixa, ex_aug, ex_sfld, ex_ift, ex_for, ex_ret, ex_exp, c1, cmpD, c, c2]
    · refine ⟨0, h1, ?_, bx1, by omega, by omega⟩
      have c : decide ((0 : Int) < (r1 : Int)) = false := by simpa using e
      simp only [startE, List.map, List.length, Nat.sub_self, Nat.reduceAdd, Nat.reduceSub, Nat.zero_add, List.replicate, List.append_nil, List.cons_append, List.nil_append, List.getElem?_cons_zero, List.getElem?_cons_succ, R.bind_ok, R.thn_ok, RS.thn_next, RS.thn_ret, outD_ret, outD_next, argsD, putN, List.set_cons_zero, List.set_cons_succ, wipeE, ev_var, ev_mvar, ev_none, ev_bool, ev_int, ev_str, ev_glb, ev_bin, ev_neg, ev_not, ev_and, ev_or, ev_cmp, ev_chn, ev_ife, ev_tup, ev_lst, ev_nil, ev_cons, ev_call, ev_meth, ev_mk, ev_bi, ev_min2, ev_isi, ev_len, ev_sub, ev_slc, ev_fld, ev_prop, ev_eqo, ev_tix, ev_pop0, ev_comp, ev_comp2, ev_iseq, ev_iown, ev_ienum, ev_izip, body_true, ex_skip, ex_seq, ex_set, ex_setM, ex_setB, ex_unp, ex_ixs, ex_ixa, ex_aug, ex_sfld, ex_ift, ex_for, ex_ret, ex_exp, c1, cmpD, c])
  rw [List.length_map] at l1
  have hv : CrOk n v := ⟨l1, q1⟩
  -- the row
  obtain ⟨r0, h2, c2, b2, l2⟩ := takeN (k + 5) b1 (many := 6) (by decide)
  have c2 : (pg prg (k + 6)).call 25 [.obj 0, .int 6] h1 = .ok (.int r0) h2 := c2
  obtain ⟨cs, h3, e3, b3, l3, q3⟩ := catL_bx (f := compF (pg prg (k + 6)) [x0, some (.obj 0), x2, some (encT n), x4, some (shD m n), some (.lst ((spots n).map encP)), some (encI v), x8, x9, x10, x11, none, none] (.one 12) [12] (.cst (.bool true)) (.call 25 (.cons (.var 1) (.cons (.len (.sub (.sub (.var 3) (.cst (.int 0))) (.cst (.int 0)))) .nil)))) (F := fun c : Nat => D.int c) (Q := fun c => c < m) ((List.range r0).map fun c => .int (c : Nat)) h2 b2 (fun d hd h b => by
    rw [compF_put _ _ _ rfl]
    obtain ⟨r1, h1, c1, bx1, l1⟩ := takeN (k + 5) b (many := m) (by omega)
    refine ⟨r1, h1, ?_, bx1, l1⟩
    have w : ∀ d, ev (pg prg (k + 6)) (.len (.sub (.sub (.var 3) (.cst (.int 0))) (.cst (.int 0)))) [x0, some (.obj 0), x2, some (encT n), x4, some (shD m n), some (.lst ((spots n).map encP)), some (encI v), x8, x9, x10, x11, d, none] h = .ok (.int m) h := fun d => width ok _ rfl
    simp only [body_true, ev_call, ev_cons, ev_var, wipeE, List.set_cons_succ, List.set_cons_zero, List.getElem?_cons_succ, List.getElem?_cons_zero, R.bind_ok]
    rw [w]
    simp only [startE, List.map, List.length, Nat.sub_self, Nat.reduceAdd, Nat.reduceSub, Nat.zero_add, List.replicate, List.append_nil, List.cons_append, List.nil_append, List.getElem?_cons_zero, List.getElem?_cons_succ, R.bind_ok, R.thn_ok, RS.thn_next, RS.thn_ret, outD_ret, outD_next, argsD, putN, List.set_cons_zero, List.set_cons_succ, wipeE, ev_var, ev_mvar, ev_none, ev_bool, ev_int, ev_str, ev_glb, ev_bin, ev_neg, ev_not, ev_and, ev_or, ev_cmp, ev_chn, ev_ife, ev_tup, ev_lst, ev_nil, ev_cons, ev_call, ev_meth, ev_mk, ev_bi, ev_min2, ev_isi, ev_len, ev_sub, ev_slc, ev_fld, ev_prop, ev_eqo, ev_tix, ev_pop0, ev_comp, ev_comp2, ev_iseq, ev_iown, ev_ienum, ev_izip, body_true, ex_skip, ex_seq, ex_set, ex_setM, ex_setB, ex_unp, ex_ixs, ex_ixa, ex_aug, ex_sfld, ex_ift, ex_for, ex_ret, ex_exp, c1])
  rw [List.length_map, List.length_range] at l3
  have hl : cs.length ≤ 12 := by omega
  have rl := row_lst cs
  have rt := row_tup cs
  have al := alongC (k + 3) h3 ok hv.len q3 (by omega : cs.length ≤ 900)
  rw [along_start ok hv.len q3] at al
  have hd := fun {d : D} (rd : RowD d cs) => heard (k + 1) h3 ok hv rd hl q3
  have af := after (k + 1) h3 ok hv rt hl q3
  have si := silenced k h3 ok hv rl hl q3
  have d1 : cmpD .ne (.lst ((hear n v (st0 n) cs).map encI)) (.lst ((hear n v (st0 n) cs).map encI)) h3 = .ok (.bl false) h3 := ne_same h3 (clnLI _)
  have d2 : cmpD .ne (encI (mv (spots n).length v (runP n (st0 n) cs))) (encI (mv (spots n).length v (runP n (st0 n) cs))) h3 = .ok (.bl false) h3 := ne_same h3 (cln_le (clnI _) (by decide))
  have d3 : ∀ z : Int, cmpD .ne (.int z) (.int z) h3 = .ok (.bl false) h3 := fun z => ne_same h3 (cln_int _ _)
  have hear_len := hear_len (n := n) v cs (st0 n)
  refine ⟨_, h3, ?_, b3, some (encI v), some (.lst (cD cs)), some (.lst ((hear n v (st0 n) cs).map encI ++ [.int 1])), some (.lst ((hear n v (st0 n) cs).map encI)), some (encI (mv (spots n).length v (runP n (st0 n) cs))), rfl⟩
  unfold b_law_0
  rw [ex_seq, ex_set, ev_bi, ev_comp, ev_iseq, ev_var]
  simp only [List.getElem?_cons_succ, List.getElem?_cons_zero, R.bind_ok, iterD, argsD]
  rw [e1, R.bind_ok, longD_ok (by rw [List.length_map]; omega), R.bind_ok]
  simp only [biD, viewD, R.thn_ok, RS.thn_next, putN, List.set_cons_succ, List.set_cons_zero]
  rw [ex_seq, ex_set, ev_comp, irng_nat (n := r0) (h' := h2) (by simp only [startE, List.map, List.length, Nat.sub_self, Nat.reduceAdd, Nat.reduceSub, Nat.zero_add, List.replicate, List.append_nil, List.cons_append, List.nil_append, List.getElem?_cons_zero, List.getElem?_cons_succ, R.bind_ok, R.thn_ok, RS.thn_next, RS.thn_ret, outD_ret, outD_next, argsD, putN, List.set_cons_zero, List.set_cons_succ, wipeE, ev_var, ev_mvar, ev_none, ev_bool, ev_int, ev_str, ev_glb, ev_bin, ev_neg, ev_not, ev_and, ev_or, ev_cmp, ev_chn, ev_ife, ev_tup, ev_lst, ev_nil, ev_cons, ev_call, ev_meth, ev_mk, ev_bi, ev_min2, ev_isi, ev_len, ev_sub, ev_slc, ev_fld, ev_prop, ev_eqo, ev_tix, ev_pop0, ev_comp, ev_comp2, ev_iseq, ev_iown, ev_ienum, ev_izip, body_true, ex_skip, ex_seq, ex_set, ex_setM, ex_setB, ex_unp, ex_ixs, ex_ixa, ex_aug, ex_sfld, ex_ift, ex_for, ex_ret, ex_exp, c2]) (by omega)]
  simp only [R.bind_ok, argsD]
  rw [show D.tup (v.map .int) = encI v from rfl, e3, R.bind_ok, longD_ok (by rw [List.length_map]; omega)]
  rw [show (cs.map fun c : Nat => D.int c) = cD cs from rfl]
  simp only [R.thn_ok, RS.thn_next, putN, List.set_cons_succ, List.set_cons_zero]
  have pt : ∀ (a b : D) (y8 y9 y10 y11 : Option D), putT (.many [10, 11]) (.tup [a, b]) [x0, some (.obj 0), x2, some (encT n), x4, some (shD m n), some (.lst ((spots n).map encP)), some (encI v), y8, y9, y10, y11, none, none] = some [x0, some (.obj 0), x2, some (encT n), x4, some (shD m n), some (.lst ((spots n).map encP)), some (encI v), y8, y9, some a, some b, none, none] := fun _ _ _ _ _ _ => rfl
  have tupD : ∀ h, biD .tuple (.lst (cD cs)) h = .ok (.tup (cD cs)) h := fun _ => rfl
  have hd1 : (pg prg (k + 6)).call 19 [shD m n, encI v, .lst (cD cs)] h3 = _ := hd rl
  have hd2 : (pg prg (k + 6)).call 19 [shD m n, encI v, .tup (cD cs)] h3 = _ := hd rt
  have af : (pg prg (k + 6)).call 20 [shD m n, encI v, .tup (cD cs)] h3 = _ := af
  have si : (pg prg (k + 6)).call 21 [shD m n, encI v, .lst (cD cs)] h3 = _ := si
  rw [ex_seq, ex_unp]
  simp only [startE, List.map, List.length, Nat.sub_self, Nat.reduceAdd, Nat.reduceSub, Nat.zero_add, List.replicate, List.append_nil, List.cons_append, List.nil_append, List.getElem?_cons_zero, List.getElem?_cons_succ, R.bind_ok, R.thn_ok, RS.thn_next, RS.thn_ret, outD_ret, outD_next, argsD, putN, List.set_cons_zero, List.set_cons_succ, wipeE, ev_var, ev_mvar, ev_none, ev_bool, ev_int, ev_str, ev_glb, ev_bin, ev_neg, ev_not, ev_and, ev_or, ev_cmp, ev_chn, ev_ife, ev_tup, ev_lst, ev_nil, ev_cons, ev_call, ev_meth, ev_mk, ev_bi, ev_min2, ev_isi, ev_len, ev_sub, ev_slc, ev_fld, ev_prop, ev_eqo, ev_tix, ev_pop0, ev_comp, ev_comp2, ev_iseq, ev_iown, ev_ienum, ev_izip, body_true, ex_skip, ex_seq, ex_set, ex_setM, ex_setB, ex_unp, ex_ixs, ex_ixa, ex_aug, ex_sfld, ex_ift, ex_for, ex_ret, ex_exp, al, pt]
  simp only [startE, List.map, List.length, Nat.sub_self, Nat.reduceAdd, Nat.reduceSub, Nat.zero_add, List.replicate, List.append_nil, List.cons_append, List.nil_append, List.getElem?_cons_zero, List.getElem?_cons_succ, R.bind_ok, R.thn_ok, RS.thn_next, RS.thn_ret, outD_ret, outD_next, argsD, putN, List.set_cons_zero, List.set_cons_succ, wipeE, ev_var, ev_mvar, ev_none, ev_bool, ev_int, ev_str, ev_glb, ev_bin, ev_neg, ev_not, ev_and, ev_or, ev_cmp, ev_chn, ev_ife, ev_tup, ev_lst, ev_nil, ev_cons, ev_call, ev_meth, ev_mk, ev_bi, ev_min2, ev_isi, ev_len, ev_sub, ev_slc, ev_fld, ev_prop, ev_eqo, ev_tix, ev_pop0, ev_comp, ev_comp2, ev_iseq, ev_iown, ev_ienum, ev_izip, body_true, ex_skip, ex_seq, ex_set, ex_setM, ex_setB, ex_unp, ex_ixs, ex_ixa, ex_aug, ex_sfld, ex_ift, ex_for, ex_ret, ex_exp, hd1, d1, tupD, af, d2, si, sumI, sub_ok, d3]
  rw [app_ok (x := .int 1) (l := (hear n v (st0 n) cs).map encI) (h1 := h3) (by simp only [startE, List.map, List.length, Nat.sub_self, Nat.reduceAdd, Nat.reduceSub, Nat.zero_add, List.replicate, List.append_nil, List.cons_append, List.nil_append, List.getElem?_cons_zero, List.getElem?_cons_succ, R.bind_ok, R.thn_ok, RS.thn_next, RS.thn_ret, outD_ret, outD_next, argsD, putN, List.set_cons_zero, List.set_cons_succ, wipeE, ev_var, ev_mvar, ev_none, ev_bool, ev_int, ev_str, ev_glb, ev_bin, ev_neg, ev_not, ev_and, ev_or, ev_cmp, ev_chn, ev_ife, ev_tup, ev_lst, ev_nil, ev_cons, ev_call, ev_meth, ev_mk, ev_bi, ev_min2, ev_isi, ev_len, ev_sub, ev_slc, ev_fld, ev_prop, ev_eqo, ev_tix, ev_pop0, ev_comp, ev_comp2, ev_iseq, ev_iown, ev_ienum, ev_izip, body_true, ex_skip, ex_seq, ex_set, ex_setM, ex_setB, ex_unp, ex_ixs, ex_ixa, ex_aug, ex_sfld, ex_ift, ex_for, ex_ret, ex_exp]) rfl (by rw [List.length_map, hear_len]; omega)]
  simp only [startE, List.map, List.length, Nat.sub_self, Nat.reduceAdd, Nat.reduceSub, Nat.zero_add, List.replicate, List.append_nil, List.cons_append, List.nil_append, List.getElem?_cons_zero, List.getElem?_cons_succ, R.bind_ok, R.thn_ok, RS.thn_next, RS.thn_ret, outD_ret, outD_next, argsD, putN, List.set_cons_zero, List.set_cons_succ, wipeE, ev_var, ev_mvar, ev_none, ev_bool, ev_int, ev_str, ev_glb, ev_bin, ev_neg, ev_not, ev_and, ev_or, ev_cmp, ev_chn, ev_ife, ev_tup, ev_lst, ev_nil, ev_cons, ev_call, ev_meth, ev_mk, ev_bi, ev_min2, ev_isi, ev_len, ev_sub, ev_slc, ev_fld, ev_prop, ev_eqo, ev_tix, ev_pop0, ev_comp, ev_comp2, ev_iseq, ev_iown, ev_ienum, ev_izip, body_true, ex_skip, ex_seq, ex_set, ex_setM, ex_setB, ex_unp, ex_ixs, ex_ixa, ex_aug, ex_sfld, ex_ift, ex_for, ex_ret, ex_exp, tupD, hd2, d1]
theorem law0_loop (k : Nat) (ok : NetOk m n) (x0 x2 : Option D) : ∀ (ts : List Nat) (h : Hb) (x4 x7 x8 x9 x10 x11 : Option D), Bx h →
    ∃ h' y4 y7 y8 y9 y10 y11, forL (fBody (pg prg (k + 6)) (.one 4) b_law_0) (cD ts) [x0, some (.obj 0), x2, some (encT n), x4, some (shD m n), some (.lst ((spots n).map encP)), x7, x8, x9, x10, x11, none, none] h = .next [x0, some (.obj 0), x2, some (encT n), y4, some (shD m n), some (.lst ((spots n).map encP)), y7, y8, y9, y10, y11, none, none] h' ∧ Bx h'
  | [], h, x4, x7, x8, x9, x10, x11, b => ⟨h, x4, x7, x8, x9, x10, x11, rfl, b⟩
  | t :: r, h, x4, x7, x8, x9, x10, x11, b => by
    obtain ⟨e, h1, e1, b1, z7, z8, z9, z10, z11, rfl⟩ := law0 k b ok x0 x2 (some (.int t)) x7 x8 x9 x10 x11
    obtain ⟨h', y4, y7, y8, y9, y10, y11, q1, q2⟩ := law0_loop k ok x0 x2 r h1 (some (.int t)) z7 z8 z9 z10 z11 b1
    refine ⟨h', y4, y7, y8, y9, y10, y11, ?_, q2⟩
    have e2 : fBody (pg prg (k + 6)) (.one 4) b_law_0 (.int t) [x0, some (.obj 0), x2, some (encT n), x4, some (shD m n), some (.lst ((spots n).map encP)), x7, x8, x9, x10, x11, none, none] h = _ := (fBody_put _ _ _ rfl).trans e1
    show forL _ (.int t :: cD r) _ _ = _
    rw [forL_cons_next e2, q1]
/-- the shelf of no drawn net -/
def net6 : Net := [[[some (0, 0), some (0, 0), some (0, 0)], [some (0, 0), some (0, 0), some (0, 0)]]]
theorem net6_ok : NetOk 3 net6 := ⟨by decide, by decide, by decide, by decide, fun e he => by
  rw [List.mem_singleton.mp he]
  refine ⟨by decide, by decide, fun r hr => ?_⟩
  have : r = [some (0, 0), some (0, 0), some (0, 0)] := by simpa using hr
  subst this
  refine ⟨rfl, fun x hx a b e => ?_⟩
  have : x = some (0, 0) := by simpa using hx
  subst this
  cases e
  decide, by decide⟩
theorem eq_shelf (k : Nat) (h : Hb) {m' : Nat} {n' : Net} (nn : Bool) : eqoD (pg prg (k + 1)) nn (shD m n) (shD m' n') h = .ok (.bl (nn != @decide (n = n') (Classical.propDecidable _))) h := by
  have c : (pg prg (k + 1)).call 35 [shD m n, shD m' n'] h = .ok (.bl (@decide (n = n') (Classical.propDecidable _))) h := by
    rw [call_eq (fn := f_Shelf___eq__) rfl rfl]
    have t : isTy (.own 0) (shD m' n') = true := rfl
    have d : dEq (encT n) (encT n') = some (@decide (n = n') (Classical.propDecidable _)) := by
      by_cases e : n = n'
      · subst e
        rw [dEq_same (cln_le (cln_T n) (by decide))]
        exact congrArg some (@decide_eq_true _ (Classical.propDecidable _) rfl).symm
      · rw [dEq_diff (cln_le (cln_T n) (by decide)) (cln_le (cln_T n') (by decide)) fun z => e (encT_inj _ _ z)]
        exact congrArg some (@decide_eq_false _ (Classical.propDecidable _) e).symm
    have v : ∀ x : Net, viewD h (encT x) = encT x := fun _ => rfl
    have f0 : ∀ (x : Nat) (y : Net) (e : En), ev (pg prg k) (.fld 0 (.var 0)) (some (shD x y) :: e) h = .ok (encT y) h := fun x y e => by simp only [startE, List.map, List.length, Nat.sub_self, Nat.reduceAdd, Nat.reduceSub, Nat.zero_add, List.replicate, List.append_nil, List.cons_append, List.nil_append, List.getElem?_cons_zero, List.getElem?_cons_succ, R.bind_ok, R.thn_ok, RS.thn_next, RS.thn_ret, outD_ret, outD_next, argsD, putN, List.set_cons_zero, List.set_cons_succ, wipeE, ev_var, ev_mvar, ev_none, ev_bool, ev_int, ev_str, ev_glb, ev_bin, ev_neg, ev_not, ev_and, ev_or, ev_cmp, ev_chn, ev_ife, ev_tup, ev_lst, ev_nil, ev_cons, ev_call, ev_meth, ev_mk, ev_bi, ev_min2, ev_isi, ev_len, ev_sub, ev_slc, ev_fld, ev_prop, ev_eqo, ev_tix, ev_pop0, ev_comp, ev_comp2, ev_iseq, ev_iown, ev_ienum, ev_izip, body_true, ex_skip, ex_seq, ex_set, ex_setM, ex_setB, ex_unp, ex_ixs, ex_ixa, ex_aug, ex_sfld, ex_ift, ex_for, ex_ret, ex_exp, shD, fix0]
    have f1 : ∀ (x : Nat) (y : Net) (e : En) (z : Option D), ev (pg prg k) (.fld 0 (.var 1)) (z :: some (shD x y) :: e) h = .ok (encT y) h := fun x y e z => by simp only [startE, List.map, List.length, Nat.sub_self, Nat.reduceAdd, Nat.reduceSub, Nat.zero_add, List.replicate, List.append_nil, List.cons_append, List.nil_append, List.getElem?_cons_zero, List.getElem?_cons_succ, R.bind_ok, R.thn_ok, RS.thn_next, RS.thn_ret, outD_ret, outD_next, argsD, putN, List.set_cons_zero, List.set_cons_succ, wipeE, ev_var, ev_mvar, ev_none, ev_bool, ev_int, ev_str, ev_glb, ev_bin, ev_neg, ev_not, ev_and, ev_or, ev_cmp, ev_chn, ev_ife, ev_tup, ev_lst, ev_nil, ev_cons, ev_call, ev_meth, ev_mk, ev_bi, ev_min2, ev_isi, ev_len, ev_sub, ev_slc, ev_fld, ev_prop, ev_eqo, ev_tix, ev_pop0, ev_comp, ev_comp2, ev_iseq, ev_iown, ev_ienum, ev_izip, body_true, ex_skip, ex_seq, ex_set, ex_setM, ex_setB, ex_unp, ex_ixs, ex_ixa, ex_aug, ex_sfld, ex_ift, ex_for, ex_ret, ex_exp, shD, fix0]
    unfold f_Shelf___eq__
    simp only [startE, List.map, List.length, Nat.reduceAdd, Nat.reduceSub, List.replicate, List.append_nil, ex_ret, ev_and, ev_isi, ev_var, List.getElem?_cons_succ, List.getElem?_cons_zero, R.bind_ok, List.any, t, Bool.or_false, ev_cmp, f0, f1, cmpD, v, d, R.thn_ok, outD_ret]
  have e2 : (pg prg (k + 1)).mth 0 mEq = some 35 := by rw [pg_mth]; rfl
  have e3 : methD (pg prg (k + 1)) mEq (shD m n) [shD m' n'] h = .ok (.bl (@decide (n = n') (Classical.propDecidable _))) h := by
    simp only [methD, shD, e2]
    exact c
  have e4 : eqoD (pg prg (k + 1)) nn (shD m n) (shD m' n') h = (methD (pg prg (k + 1)) mEq (shD m n) [shD m' n'] h).bind fun z h => (match z with | .bl k => .ok (.bl (nn != k)) h | _ => .bad) := rfl
  rw [e4, e3, R.bind_ok]
theorem ext_ok (ok : NetOk m n) {e : List (List Ent)} (he : n[(0 : Nat)]? = some e) (h4 : n.length < 4) (h6 : (spots n).length + e.length < 7) : NetOk m (n ++ [e]) := by
  rw [spots_len] at h6
  refine ⟨ok.m1, ok.m3, by simp, by simp; omega, fun x hx => ?_, by rw [List.map_append, List.sum_append]; simp; omega⟩
  rcases List.mem_append.mp hx with hx | hx
  · exact ok.ed x hx
  · rw [List.mem_singleton.mp hx]
    exact ok.ed e (List.mem_of_getElem? he)
theorem law1 (k : Nat) {h : Hb} (bx : Bx h) (x0 x2 x3 x4 x5 x6 x7 x8 x9 x10 x11 : Option D) :
    ∃ h' y3 y4 y5 y6 y7 y8 y9 y10 y11, exc (pg prg (k + 6)) b_law_1 [x0, some (.obj 0), x2, x3, x4, x5, x6, x7, x8, x9, x10, x11, none, none] h = .next [x0, some (.obj 0), x2, y3, y4, y5, y6, y7, y8, y9, y10, y11, none, none] h' ∧ Bx h' := by
  obtain ⟨m, n, h1, e1, b1, ok⟩ := net (k + 4) bx
  have e1 : (pg prg (k + 6)).call 27 [.obj 0, .int 4] h = .ok (encT n) h1 := e1
  have sm := small ok
  have mk0 : ∀ {m' : Nat} {n' : Net}, NetOk m' n' → (pg prg (k + 6)).make 0 [encT n'] h1 = .ok (shD m' n') h1 := fun ok => mk_shelf (k + 2) h1 ok
  have pr : (pg prg (k + 6)).call 28 [encT n] h1 = _ := pairs (k + 5) h1 ok
  obtain ⟨h', y4, y7, y8, y9, y10, y11, q1, q2⟩ := law0_loop k ok x0 x2 (List.range 4) h1 x4 x7 x8 x9 x10 x11 b1
  refine ⟨h', some (encT n), y4, some (shD m n), some (.lst ((spots n).map encP)), y7, y8, y9, y10, y11, ?_, q2⟩
  unfold b_law_1
  rw [ex_seq, ex_set]
  simp only [ev_call, ev_cons, ev_var, ev_int, ev_nil, argsD, List.getElem?_cons_succ, List.getElem?_cons_zero, R.bind_ok, e1, R.thn_ok, RS.thn_next, putN, List.set_cons_succ, List.set_cons_zero]
  rw [ex_seq, par_ff (x := shD m n) (y := .lst ((spots n).map encP)) (h1 := h1) (h2 := h1) (by simp only [startE, List.map, List.length, Nat.sub_self, Nat.reduceAdd, Nat.reduceSub, Nat.zero_add, List.replicate, List.append_nil, List.cons_append, List.nil_append, List.getElem?_cons_zero, List.getElem?_cons_succ, R.bind_ok, R.thn_ok, RS.thn_next, RS.thn_ret, outD_ret, outD_next, argsD, putN, List.set_cons_zero, List.set_cons_succ, wipeE, ev_var, ev_mvar, ev_none, ev_bool, ev_int, ev_str, ev_glb, ev_bin, ev_neg, ev_not, ev_and, ev_or, ev_cmp, ev_chn, ev_ife, ev_tup, ev_lst, ev_nil, ev_cons, ev_call, ev_meth, ev_mk, ev_bi, ev_min2, ev_isi, ev_len, ev_sub, ev_slc, ev_fld, ev_prop, ev_eqo, ev_tix, ev_pop0, ev_comp, ev_comp2, ev_iseq, ev_iown, ev_ienum, ev_izip, body_true, ex_skip, ex_seq, ex_set, ex_setM, ex_setB, ex_unp, ex_ixs, ex_ixa, ex_aug, ex_sfld, ex_ift, ex_for, ex_ret, ex_exp, mk0 ok]) (by simp only [startE, List.map, List.length, Nat.sub_self, Nat.reduceAdd, Nat.reduceSub, Nat.zero_add, List.replicate, List.append_nil, List.cons_append, List.nil_append, List.getElem?_cons_zero, List.getElem?_cons_succ, R.bind_ok, R.thn_ok, RS.thn_next, RS.thn_ret, outD_ret, outD_next, argsD, putN, List.set_cons_zero, List.set_cons_succ, wipeE, ev_var, ev_mvar, ev_none, ev_bool, ev_int, ev_str, ev_glb, ev_bin, ev_neg, ev_not, ev_and, ev_or, ev_cmp, ev_chn, ev_ife, ev_tup, ev_lst, ev_nil, ev_cons, ev_call, ev_meth, ev_mk, ev_bi, ev_min2, ev_isi, ev_len, ev_sub, ev_slc, ev_fld, ev_prop, ev_eqo, ev_tix, ev_pop0, ev_comp, ev_comp2, ev_iseq, ev_iown, ev_ienum, ev_izip, body_true, ex_skip, ex_seq, ex_set, ex_setM, ex_setB, ex_unp, ex_ixs, ex_ixa, ex_aug, ex_sfld, ex_ift, ex_for, ex_ret, ex_exp, pr])]
  simp only [RS.thn_next, putN, List.set_cons_succ, List.set_cons_zero]
  generalize hE : [x0, some (D.obj 0), x2, some (encT n), x4, some (shD m n), some (D.lst ((spots n).map encP)), x7, x8, x9, x10, x11, none, none] = E at q1
  have v1 : ∀ h, ev (pg prg (k + 6)) (.var 3) E h = .ok (encT n) h := fun h => by rw [← hE]; simp only [startE, List.map, List.length, Nat.sub_self, Nat.reduceAdd, Nat.reduceSub, Nat.zero_add, List.replicate, List.append_nil, List.cons_append, List.nil_append, List.getElem?_cons_zero, List.getElem?_cons_succ, R.bind_ok, R.thn_ok, RS.thn_next, RS.thn_ret, outD_ret, outD_next, argsD, putN, List.set_cons_zero, List.set_cons_succ, wipeE, ev_var, ev_mvar, ev_none, ev_bool, ev_int, ev_str, ev_glb, ev_bin, ev_neg, ev_not, ev_and, ev_or, ev_cmp, ev_chn, ev_ife, ev_tup, ev_lst, ev_nil, ev_cons, ev_call, ev_meth, ev_mk, ev_bi, ev_min2, ev_isi, ev_len, ev_sub, ev_slc, ev_fld, ev_prop, ev_eqo, ev_tix, ev_pop0, ev_comp, ev_comp2, ev_iseq, ev_iown, ev_ienum, ev_izip, body_true, ex_skip, ex_seq, ex_set, ex_setM, ex_setB, ex_unp, ex_ixs, ex_ixa, ex_aug, ex_sfld, ex_ift, ex_for, ex_ret, ex_exp]
  have v5 : ∀ h, ev (pg prg (k + 6)) (.var 5) E h = .ok (shD m n) h := fun h => by rw [← hE]; simp only [startE, List.map, List.length, Nat.sub_self, Nat.reduceAdd, Nat.reduceSub, Nat.zero_add, List.replicate, List.append_nil, List.cons_append, List.nil_append, List.getElem?_cons_zero, List.getElem?_cons_succ, R.bind_ok, R.thn_ok, RS.thn_next, RS.thn_ret, outD_ret, outD_next, argsD, putN, List.set_cons_zero, List.set_cons_succ, wipeE, ev_var, ev_mvar, ev_none, ev_bool, ev_int, ev_str, ev_glb, ev_bin, ev_neg, ev_not, ev_and, ev_or, ev_cmp, ev_chn, ev_ife, ev_tup, ev_lst, ev_nil, ev_cons, ev_call, ev_meth, ev_mk, ev_bi, ev_min2, ev_isi, ev_len, ev_sub, ev_slc, ev_fld, ev_prop, ev_eqo, ev_tix, ev_pop0, ev_comp, ev_comp2, ev_iseq, ev_iown, ev_ienum, ev_izip, body_true, ex_skip, ex_seq, ex_set, ex_setM, ex_setB, ex_unp, ex_ixs, ex_ixa, ex_aug, ex_sfld, ex_ift, ex_for, ex_ret, ex_exp]
  have v6 : ∀ h, ev (pg prg (k + 6)) (.var 6) E h = .ok (.lst ((spots n).map encP)) h := fun h => by rw [← hE]; simp only [startE, List.map, List.length, Nat.sub_self, Nat.reduceAdd, Nat.reduceSub, Nat.zero_add, List.replicate, List.append_nil, List.cons_append, List.nil_append, List.getElem?_cons_zero, List.getElem?_cons_succ, R.bind_ok, R.thn_ok, RS.thn_next, RS.thn_ret, outD_ret, outD_next, argsD, putN, List.set_cons_zero, List.set_cons_succ, wipeE, ev_var, ev_mvar, ev_none, ev_bool, ev_int, ev_str, ev_glb, ev_bin, ev_neg, ev_not, ev_and, ev_or, ev_cmp, ev_chn, ev_ife, ev_tup, ev_lst, ev_nil, ev_cons, ev_call, ev_meth, ev_mk, ev_bi, ev_min2, ev_isi, ev_len, ev_sub, ev_slc, ev_fld, ev_prop, ev_eqo, ev_tix, ev_pop0, ev_comp, ev_comp2, ev_iseq, ev_iown, ev_ienum, ev_izip, body_true, ex_skip, ex_seq, ex_set, ex_setM, ex_setB, ex_unp, ex_ixs, ex_ixa, ex_aug, ex_sfld, ex_ift, ex_for, ex_ret, ex_exp]
  have w : ev (pg prg (k + 6)) (.len (.sub (.sub (.var 3) (.cst (.int 0))) (.cst (.int 0)))) E h1 = .ok (.int m) h1 := width ok _ (by rw [← hE]; rfl)
  -- first test
  have cm : ev (pg prg (k + 6)) (.comp (.one 13) [13] (.iown (.var 5)) (.cst (.bool true)) (.var 13)) E h1 = .ok (.lst ((spots n).map encP)) h1 := by
    have itf : (pg prg (k + 6)).itf 0 = some 2 := by rw [pg_itf]; rfl
    have io : iownD (pg prg (k + 6)) (shD m n) h1 = .ok (.tup ((spots n).map encP)) h1 := by
      simp only [iownD, shD, itf]
      rfl
    rw [ev_comp, ev_iown, v5, R.bind_ok, io, R.bind_ok]
    simp only [argsD]
    rw [catL_one (g := encP) (F := encP) (spots n) fun a _ => by rw [← hE]; rfl, R.bind_ok, longD_ok (by rw [List.length_map]; omega)]
  have ls : lenD (pg prg (k + 6)) (shD m n) h1 = _ := len_shelf (k + 5) h1 ok
  have ll : lenD (pg prg (k + 6)) (.lst ((spots n).map encP)) h1 = .ok (.int (spots n).length) h1 := by simp only [lenD, viewD, List.length_map]
  have me : methD (pg prg (k + 6)) 4 (shD m n) [] h1 = .ok (.int m) h1 := by
    have e2 : (pg prg (k + 6)).mth 0 4 = some 37 := by rw [pg_mth]; rfl
    have c : (pg prg (k + 6)).call 37 [shD m n] h1 = .ok (.int m) h1 := by
      rw [call_eq (fn := f_Shelf_calls) rfl rfl]
      simp only [startE, List.map, List.length, Nat.sub_self, Nat.reduceAdd, Nat.reduceSub, Nat.zero_add, List.replicate, List.append_nil, List.cons_append, List.nil_append, List.getElem?_cons_zero, List.getElem?_cons_succ, R.bind_ok, R.thn_ok, RS.thn_next, RS.thn_ret, outD_ret, outD_next, argsD, putN, List.set_cons_zero, List.set_cons_succ, wipeE, ev_var, ev_mvar, ev_none, ev_bool, ev_int, ev_str, ev_glb, ev_bin, ev_neg, ev_not, ev_and, ev_or, ev_cmp, ev_chn, ev_ife, ev_tup, ev_lst, ev_nil, ev_cons, ev_call, ev_meth, ev_mk, ev_bi, ev_min2, ev_isi, ev_len, ev_sub, ev_slc, ev_fld, ev_prop, ev_eqo, ev_tix, ev_pop0, ev_comp, ev_comp2, ev_iseq, ev_iown, ev_ienum, ev_izip, body_true, ex_skip, ex_seq, ex_set, ex_setM, ex_setB, ex_unp, ex_ixs, ex_ixa, ex_aug, ex_sfld, ex_ift, ex_for, ex_ret, ex_exp, f_Shelf_calls, shD, fix1]
    simp only [methD, shD, e2]
    exact c
  have pp : propD (pg prg (k + 6)) 3 (shD m n) h1 = .ok (encT n) h1 := by
    have e2 : (pg prg (k + 6)).prp 0 3 = some 36 := by rw [pg_prp]; rfl
    have c : (pg prg (k + 6)).call 36 [shD m n] h1 = .ok (encT n) h1 := by
      rw [call_eq (fn := f_Shelf_editions) rfl rfl]
      simp only [startE, List.map, List.length, Nat.sub_self, Nat.reduceAdd, Nat.reduceSub, Nat.zero_add, List.replicate, List.append_nil, List.cons_append, List.nil_append, List.getElem?_cons_zero, List.getElem?_cons_succ, R.bind_ok, R.thn_ok, RS.thn_next, RS.thn_ret, outD_ret, outD_next, argsD, putN, List.set_cons_zero, List.set_cons_succ, wipeE, ev_var, ev_mvar, ev_none, ev_bool, ev_int, ev_str, ev_glb, ev_bin, ev_neg, ev_not, ev_and, ev_or, ev_cmp, ev_chn, ev_ife, ev_tup, ev_lst, ev_nil, ev_cons, ev_call, ev_meth, ev_mk, ev_bi, ev_min2, ev_isi, ev_len, ev_sub, ev_slc, ev_fld, ev_prop, ev_eqo, ev_tix, ev_pop0, ev_comp, ev_comp2, ev_iseq, ev_iown, ev_ienum, ev_izip, body_true, ex_skip, ex_seq, ex_set, ex_setM, ex_setB, ex_unp, ex_ixs, ex_ixa, ex_aug, ex_sfld, ex_ift, ex_for, ex_ret, ex_exp, f_Shelf_editions, shD, fix0]
    simp only [propD, shD, e2]
    exact c
  have d1 : cmpD .ne (.lst ((spots n).map encP)) (.lst ((spots n).map encP)) h1 = .ok (.bl false) h1 := ne_same h1 (by
    show D.clns 59 _ = true
    exact clns_map fun a _ => cln_le (cln_P a) (by decide))
  have d2 : ∀ z : Int, cmpD .ne (.int z) (.int z) h1 = .ok (.bl false) h1 := fun z => ne_same h1 (cln_int _ _)
  have d3 : cmpD .ne (encT n) (encT n) h1 = .ok (.bl false) h1 := ne_same h1 (cln_le (cln_T n) (by decide))
  have eT : (@decide (n = n) (Classical.propDecidable _)) = true := @decide_eq_true _ (Classical.propDecidable _) rfl
  rw [ex_seq, ex_ift, ev_or, ev_cmp, cm, R.bind_ok, v6, R.bind_ok]
  simp only [d1, R.bind_ok, ev_or, ev_cmp, ev_meth, v5, ev_nil, argsD, me, w, d2]
  rw [ev_len, v5, R.bind_ok, ls, R.bind_ok, ev_len, v6, R.bind_ok, ll]
  simp only [R.bind_ok, d2, me, w, R.thn_ok, ex_skip, RS.thn_next]
  -- second test
  have eo : eqoD (pg prg (k + 6)) true (shD m n) (shD m n) h1 = .ok (.bl false) h1 := by
    rw [eq_shelf (m := m) (n := n) (k + 5) h1 (m' := m) (n' := n) true, eT]
    rfl
  rw [ex_seq, ex_ift]
  simp only [ev_or, ev_cmp, ev_prop, v5, R.bind_ok, pp, v1, d3, ev_eqo, ev_mk, ev_cons, ev_nil, argsD, mk0 ok, eo, R.thn_ok, ex_skip, RS.thn_next]
  -- third test
  obtain ⟨ed, _, g1, _, _⟩ := net00 ok
  have s1 : ∀ h, subD (encT n) (.int 0) h = .ok (encN ed) h := fun h => subT0 (by rw [List.getElem?_map, g1]; rfl)
  have lT : ∀ h, lenD (pg prg (k + 6)) (encT n) h = .ok (.int n.length) h := fun h => by simp only [lenD, viewD, encT, List.length_map]
  have lE : ∀ h, lenD (pg prg (k + 6)) (encN ed) h = .ok (.int ed.length) h := fun h => by simp only [lenD, viewD, encN, List.length_map]
  have k6 : ∀ h, ev (pg prg (k + 6)) (.tup (.cons (.bin .mul (.tup (.cons (.bin .mul (.tup (.cons (.tup (.cons (.cst (.int 0)) (.cons (.cst (.int 0)) .nil))) .nil)) (.cst (.int 3))) .nil)) (.cst (.int 2))) .nil)) E h = .ok (encT net6) h := fun h => rfl
  have third : ev (pg prg (k + 6)) (.and (.eqo false (.var 5) (.mk 0 (.cons (.ife (.and (.cmp .lt (.len (.var 3)) (.cst (.int 4))) (.cmp .lt (.bin .add (.len (.var 6)) (.len (.sub (.var 3) (.cst (.int 0))))) (.cst (.int 7)))) (.bin .add (.var 3) (.tup (.cons (.sub (.var 3) (.cst (.int 0))) .nil))) (.tup (.cons (.bin .mul (.tup (.cons (.bin .mul (.tup (.cons (.tup (.cons (.cst (.int 0)) (.cons (.cst (.int 0)) .nil))) .nil)) (.cst (.int 3))) .nil)) (.cst (.int 2))) .nil))) .nil))) (.cmp .ne (.var 3) (.tup (.cons (.bin .mul (.tup (.cons (.bin .mul (.tup (.cons (.tup (.cons (.cst (.int 0)) (.cons (.cst (.int 0)) .nil))) .nil)) (.cst (.int 3))) .nil)) (.cst (.int 2))) .nil)))) E h1 = .ok (.bl false) h1 := by
    have other : ∀ {m' : Nat} {n' : Net}, n ≠ n' → eqoD (pg prg (k + 6)) false (shD m n) (shD m' n') h1 = .ok (.bl false) h1 := fun ne => by
      rw [eq_shelf (k + 5), @decide_eq_false _ (Classical.propDecidable _) ne]
      rfl
    by_cases c : n.length < 4 ∧ (spots n).length + ed.length < 7
    · have c1 : decide ((n.length : Int) < 4) = true := by simp; omega
      have c2 : decide (((spots n).length : Int) + (ed.length : Int) < 7) = true := by simp; omega
      have ok2 := ext_ok ok g1 c.1 c.2
      have ne : n ≠ n ++ [ed] := fun e => by
        have := congrArg List.length e
        simp at this
      have ad : binD .add (encT n) (.tup [encN ed]) h1 = .ok (encT (n ++ [ed])) h1 := by
        cases n with
        | nil => simp at g1
        | cons a r =>
          have := ok.n4
          simp only [binD, encT, List.map_cons]
          rw [if_pos (by simp at this ⊢; omega)]
          simp
      simp only [ev_and, ev_eqo, v5, R.bind_ok, ev_mk, ev_cons, ev_ife, ev_cmp, ev_len, v1, lT, ev_int, cmpD, c1, ev_bin, v6, ll, ev_sub, s1, lE, add_ok, c2, ev_tup, ev_nil, argsD, ad, mk0 ok2, other ne]
    · have cc : ev (pg prg (k + 6)) (.and (.cmp .lt (.len (.var 3)) (.cst (.int 4))) (.cmp .lt (.bin .add (.len (.var 6)) (.len (.sub (.var 3) (.cst (.int 0))))) (.cst (.int 7)))) E h1 = .ok (.bl false) h1 := by
        by_cases c1 : n.length < 4
        · have c1' : decide ((n.length : Int) < 4) = true := by simp; omega
          have c2 : decide (((spots n).length : Int) + (ed.length : Int) < 7) = false := by simp; omega
          simp only [ev_and, R.bind_ok, ev_cmp, ev_len, v1, lT, ev_int, cmpD, c1', ev_bin, v6, ll, ev_sub, s1, lE, add_ok, c2]
        · have c1' : decide ((n.length : Int) < 4) = false := by simp; omega
          simp only [ev_and, R.bind_ok, ev_cmp, ev_len, v1, lT, ev_int, cmpD, c1']
      rw [ev_and, ev_eqo, v5, R.bind_ok, ev_mk, ev_cons, ev_ife, cc, R.bind_ok]
      simp only [k6, R.bind_ok, ev_nil, argsD, mk0 net6_ok]
      by_cases e : n = net6
      · have t := eq_shelf (m := m) (n := n) (k + 5) h1 (m' := 3) (n' := net6) false
        rw [@decide_eq_true _ (Classical.propDecidable _) e] at t
        have t : eqoD (pg prg (k + 6)) false (shD m n) (shD 3 net6) h1 = .ok (.bl true) h1 := t
        simp only [t, R.bind_ok, ev_cmp, v1, k6]
        rw [← e, d3]
        rfl
      · simp only [other e, R.bind_ok]
  rw [ex_seq, ex_ift, third]
  simp only [R.thn_ok, ex_skip, RS.thn_next]
  rw [ex_for, irng_nat (n := 4) (h' := h1) rfl (by decide)]
  simp only [R.thn_ok, argsD]
  exact q1
theorem law1_loop (k : Nat) (x0 : Option D) : ∀ (ts : List Nat) (h : Hb) (x2 x3 x4 x5 x6 x7 x8 x9 x10 x11 : Option D), Bx h →
    ∃ e h', forL (fBody (pg prg (k + 6)) (.one 2) b_law_1) (cD ts) [x0, some (.obj 0), x2, x3, x4, x5, x6, x7, x8, x9, x10, x11, none, none] h = .next e h'
  | [], h, x2, x3, x4, x5, x6, x7, x8, x9, x10, x11, b => ⟨_, h, rfl⟩
  | t :: r, h, x2, x3, x4, x5, x6, x7, x8, x9, x10, x11, b => by
    obtain ⟨h1, y3, y4, y5, y6, y7, y8, y9, y10, y11, e1, b1⟩ := law1 k b x0 (some (.int t)) x3 x4 x5 x6 x7 x8 x9 x10 x11
    obtain ⟨e, h', q⟩ := law1_loop k x0 r h1 (some (.int t)) y3 y4 y5 y6 y7 y8 y9 y10 y11 b1
    refine ⟨e, h', ?_⟩
    have e2 : fBody (pg prg (k + 6)) (.one 2) b_law_1 (.int t) [x0, some (.obj 0), x2, x3, x4, x5, x6, x7, x8, x9, x10, x11, none, none] h = _ := (fBody_put _ _ _ rfl).trans e1
    show forL _ (.int t :: cD r) _ _ = _
    rw [forL_cons_next e2, q]
theorem nls_int : ∀ l : List Int, D.nls (l.map .int) = true
  | [] => rfl
  | a :: r => by simp [D.nls, D.nl, nls_int r]
theorem law_ok : LawOk prg 10 32 := fun ns hl hb => by
  obtain ⟨l, hp⟩ := pool 5 [] ns hb
  obtain ⟨e, h', q⟩ := law1_loop 3 (some (.lst (ns.map .int))) (List.range 4) [.lst (l.map .int)] none none none none none none none none none none ⟨l, rfl⟩
  refine ⟨h', ?_⟩
  rw [call_eq (fn := f_law) rfl rfl]
  have sl : ∀ h, slcD (.frz (ns.map .int)) none (some 63) h = .ok (.lst (ns.map .int)) h := fun h => by
    simp only [slcD, cutD, List.length_map]
    have e1 : HT.sIx ns.length 0 none = 0 := rfl
    have e2 : HT.sIx ns.length ns.length (some 63) = ns.length := by
      simp only [HT.sIx]
      rw [if_neg (by decide)]
      show min 63 ns.length = ns.length
      omega
    rw [e1, e2]
    simp only [List.drop_zero, Nat.sub_zero]
    rw [List.take_of_length_le (by rw [List.length_map]; exact Nat.le_refl _)]
  have nl : D.nls (l.map .int) = true := nls_int l
  have hp : (pg prg 9).call 26 [.lst (ns.map .int), .tup [.int 1009, .int 1013, .int 1000033]] [] = .ok (.lst (l.map .int)) [] := hp
  simp only [startE, List.map, List.length, Nat.sub_self, Nat.reduceAdd, Nat.reduceSub, Nat.zero_add, List.replicate, List.append_nil, List.cons_append, List.nil_append, List.getElem?_cons_zero, List.getElem?_cons_succ, R.bind_ok, R.thn_ok, RS.thn_next, RS.thn_ret, outD_ret, outD_next, argsD, putN, List.set_cons_zero, List.set_cons_succ, wipeE, ev_var, ev_mvar, ev_none, ev_bool, ev_int, ev_str, ev_glb, ev_bin, ev_neg, ev_not, ev_and, ev_or, ev_cmp, ev_chn, ev_ife, ev_tup, ev_lst, ev_nil, ev_cons, ev_call, ev_meth, ev_mk, ev_bi, ev_min2, ev_isi, ev_len, ev_sub, ev_slc, ev_fld, ev_prop, ev_eqo, ev_tix, ev_pop0, ev_comp, ev_comp2, ev_iseq, ev_iown, ev_ienum, ev_izip, body_true, ex_skip, ex_seq, ex_set, ex_setM, ex_setB, ex_unp, ex_ixs, ex_ixa, ex_aug, ex_sfld, ex_ift, ex_for, ex_ret, ex_exp, f_law, sl, hp, nl, if_true]
  rw [irng_nat (n := 4) (h' := [O.lst (l.map .int)]) rfl (by decide)]
  simp only [R.thn_ok, argsD]
  have q : forL (fBody (pg prg 9) (.one 2) b_law_1) (cD (List.range 4)) [some (.lst (ns.map .int)), some (.obj 0), none, none, none, none, none, none, none, none, none, none, none, none] [O.lst (l.map .int)] = .next e h' := q
  rw [show ((List.range 4).map fun c => D.int (c : Nat)) = cD (List.range 4) from rfl, q]
  simp only [startE, List.map, List.length, Nat.sub_self, Nat.reduceAdd, Nat.reduceSub, Nat.zero_add, List.replicate, List.append_nil, List.cons_append, List.nil_append, List.getElem?_cons_zero, List.getElem?_cons_succ, R.bind_ok, R.thn_ok, RS.thn_next, RS.thn_ret, outD_ret, outD_next, argsD, putN, List.set_cons_zero, List.set_cons_succ, wipeE, ev_var, ev_mvar, ev_none, ev_bool, ev_int, ev_str, ev_glb, ev_bin, ev_neg, ev_not, ev_and, ev_or, ev_cmp, ev_chn, ev_ife, ev_tup, ev_lst, ev_nil, ev_cons, ev_call, ev_meth, ev_mk, ev_bi, ev_min2, ev_isi, ev_len, ev_sub, ev_slc, ev_fld, ev_prop, ev_eqo, ev_tix, ev_pop0, ev_comp, ev_comp2, ev_iseq, ev_iown, ev_ienum, ev_izip, body_true, ex_skip, ex_seq, ex_set, ex_setM, ex_setB, ex_unp, ex_ixs, ex_ixa, ex_aug, ex_sfld, ex_ift, ex_for, ex_ret, ex_exp]
end K01

set_option Elab.async false
set_option linter.all false
set_option maxRecDepth 100000
set_option maxHeartbeats 0
namespace K01
open PySem PySem.W PySem.Calls PyProof.Rows CC
abbrev R : OpenRow := OpenLaw.row PySem.Challenge.rw_crowdcall_k01_whole_crowds
abbrev qv : Program := view R.prog [48]
def names : List PySem.Str := tab.fn.filter (fun x => decide (x ≠ ("law" : PySem.Str))) ++ tab.cn ++ tab.gn ++ (["CrowdError", "BadShelf", "BadCrowd", "BadRow"] : List PySem.Str)
theorem run (w : World) : HandSHeadRun.RunEq R qv (txt.hook 6) (txt.ob 6) 4000 names w := by
  intro os
  kernel_rfl
end K01

set_option Elab.async false
set_option linter.all false
set_option maxRecDepth 100000
set_option maxHeartbeats 0
open PySem PySem.W PySem.Calls PyProof.Rows
theorem PySem.Challenge.cw_crowdcall_k01_whole_crowds_holds : PySem.Challenge.rw_crowdcall_k01_whole_crowds.Holds := by
  w_on; o_law
  refine HandSHeadRun.head_any (r := OpenLaw.row PySem.Challenge.rw_crowdcall_k01_whole_crowds) (q := K01.qv) (H := K01.txt.hook 6) (ob := K01.txt.ob 6) (M := 4000) (loose := K01.names) (d := HandSHeadRun.topDef (OpenLaw.row PySem.Challenge.rw_crowdcall_k01_whole_crowds).prog 48) (kwd := []) (K01.txt.ob_eq 6)
    (by kernel_rfl) (fun s => by kernel_rfl) K01.run (by kernel_rfl) (by kernel_rfl) (by kernel_rfl) (by rfl) (by first | assumption | decide +kernel) (by decide +kernel) ⟨rfl, rfl, rfl, rfl, rfl, by decide +kernel⟩ ?hw ?hc
  case hw => w_witness2
  case hc => exact CC.walk_law (X := K01.txt) (l := PySem.Challenge.rw_crowdcall_k01_whole_crowds) (k := 10) (f := 32) (x := "_law_script") (da := K01.d_law) (fn := K01.f_law) K01.ok rfl (by kernel_rfl) (by kernel_rfl) ⟨rfl, by decide, by decide⟩ rfl rfl rfl rfl K01.law_ok
