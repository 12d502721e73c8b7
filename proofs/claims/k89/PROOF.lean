import PyProof.Rows.All
import Wide.All
import OpenK.AllK
import Wide.FinOn
import HandS.ForMost
import PyProof.ReprReads
import HandS.ExcInit
import HandS.Flow
import HandS.TupAny
import HandS.IsInst
import HandS.Dict
import HandS.ExcIs
import HandS.Defaults
import KE.KExcIs
import HandS.Head3
import HandS.HeadHook2
import HandS.HeadEnd
import PySem.Challenge.RW_dictorders_k89_exceptions_made_by_hand
set_option Elab.async false
set_option linter.all false
set_option maxRecDepth 100000
set_option maxHeartbeats 0
/-! Mi, 1: values, stores, a small language and what it computes. Lists, tuples, dicts and finished objects are plain values here; what is changed in place is a box. -/
namespace Mi
open PySem

/-- values -/
inductive D where
  | non | bl (b : Bool) | int (i : Int) | str (x : Str)
  | lst (xs : List D) | tup (xs : List D) | dct (kvs : List (D × D))
  | obj (c : Nat) (fs : List (Nat × D)) | exc (c : Nat) (fs : List (Nat × D))
  | fn (g : Nat) | cl (c : Nat) | ref (i : Nat)
  deriving Inhabited

/-- what a box holds -/
inductive W where
  | lst (ds : List D) | dct (kvs : List (D × D)) | ins (c : Nat) (fs : List (Nat × D))
  deriving Inhabited

abbrev Sto := List (Option W)
abbrev Gam := List (Option D)
abbrev M (α : Type) := Sto → Option (α × Sto)

def Sto.get (S : Sto) (i : Nat) : Option W := (S[i]?).join
def Sto.put (S : Sto) (i : Nat) (w : W) : Sto := S.set i (some w)
def Sto.kill (S : Sto) (i : Nat) : Sto := S.set i none
def Sto.pad (S : Sto) (k : Nat) : Sto := S ++ List.replicate k none

def M.ret {α : Type} (a : α) : M α := fun S => some (a, S)
def M.bnd {α β : Type} (m : M α) (f : α → M β) : M β := fun S => match m S with
  | some (a, S') => f a S'
  | none => none
def M.opt {α : Type} (o : Option α) : M α := fun S => match o with
  | some a => some (a, S)
  | none => none
def M.no {α : Type} : M α := fun _ => none

/-! ### the language -/
inductive Cst where
  | non | bl (b : Bool) | int (i : Int) | str (x : Str)
def Cst.d : Cst → D
  | .non => .non
  | .bl b => .bl b
  | .int i => .int i
  | .str x => .str x

inductive Bo where
  | add | sub | mul | fdiv | mod | pow
inductive Co where
  | eq | ne | lt | le | gt | ge | is | isnot | inn | notin
/-- what isinstance asks for: a built-in type, a class of the program -/
inductive Ty where
  | bt (n : String) | cl (c : Nat)
/-- built-in functions -/
inductive Bi where
  | len | abs | max2 | min2 | repr | int1 | isi (t : Ty)

/-- targets -/
inductive Tg where
  | n (i : Nat) | t (is : List Nat)

mutual
inductive E where
  | v (i : Nat) | k (c : Cst) | fn (g : Nat) | cl (c : Nat) | gc (n : Nat)
  | neg (a : E) | bin (o : Bo) (a b : E) | cmp (o : Co) (a b : E)
  | and (a b : E) | or (a b : E) | not (a : E) | ife (t a b : E)
  | lst (bx : Bool) (es : Es) | tup (es : Es) | dsp (ks : List Cst) (vs : Es)
  | ix (a i : E) | rep (bx : Bool) (es : Es) (n : E)
  | at (a : E) (f : Nat)
  | call (g : Nat) (es : Es) (ks : List Str) (vs : Es) | bi (b : Bi) (es : Es) | mkx (c : Nat) (es : Es) (ks : List Str) (vs : Es)
  | lc (bx : Bool) (e : E) (t : Tg) (it : It) (c : Oe)
inductive Es where
  | nil | cons (e : E) (r : Es)
inductive Oe where
  | none | some (e : E)
inductive It where
  | of (e : E) | range (a : E) | enum (a : E)
end

inductive Ss where
  | nil
  | asg (t : Tg) (e : E) (r : Ss) | par (is : List Nat) (es : Es) (r : Ss)
  | sidx (a i e : E) (r : Ss) | exp (e : E) (r : Ss) | ret (e : E) (r : Ss)
  | ife (t : E) (a b : Ss) (r : Ss) | for (t : Tg) (it : It) (b : Ss) (r : Ss)
  | brk (r : Ss) | cnt (r : Ss) | pass (r : Ss)

/-! ### operations on values -/
def LIM : Nat := 16777216

/-- a value, a box of a list or dict opened -/
def D.rsv (S : Sto) : D → D
  | .ref i => match S.get i with
    | some (.lst ds) => .lst ds
    | some (.dct kvs) => .dct kvs
    | _ => .ref i
  | d => d

mutual
def D.data : D → Option PyData
  | .non => some .none
  | .bl b => some (.bool b)
  | .int i => some (.int i)
  | .str x => some (.str x)
  | .lst ds => (D.datas ds).map .list
  | .tup ds => (D.datas ds).map .tuple
  | .dct kvs => (D.datak kvs).map .dict
  | _ => none
def D.datas : List D → Option (List PyData)
  | [] => some []
  | d :: ds => (D.data d).bind fun p => (D.datas ds).map (p :: ·)
def D.datak : List (D × D) → Option (List (PyData × PyData))
  | [] => some []
  | (a, b) :: r => (D.data a).bind fun p => (D.data b).bind fun q => (D.datak r).map ((p, q) :: ·)
end

def addD : D → D → Option D
  | .int i, .int j => some (.int (i + j))
  | .str x, .str y => if x.length + y.length ≤ LIM then some (.str (x ++ y)) else none
  | .lst xs, .lst ys => if xs.length + ys.length ≤ LIM then some (.lst (xs ++ ys)) else none
  | _, _ => none
def mulD : D → D → Option D
  | .int i, .int j => if (-(2 ^ 64) < i ∧ i < 2 ^ 64) ∨ (-(2 ^ 64) < j ∧ j < 2 ^ 64) then some (.int (i * j)) else none
  | .str x, .int j => if 0 ≤ j ∧ j ≤ 1000 ∧ x.length ≤ 1000 then some (.str (Txt.mul x j)) else none
  | _, _ => none
def binD : Bo → D → D → Option D
  | .add, a, b => addD a b
  | .mul, a, b => mulD a b
  | .sub, .int i, .int j => some (.int (i - j))
  | .fdiv, .int i, .int j => if j ≠ 0 ∧ j.natAbs < 1073741824 then some (.int (i.fdiv j)) else none
  | .mod, .int i, .int j => if j ≠ 0 then some (.int (i.fmod j)) else none
  | .pow, .int i, .int j => if 0 ≤ j ∧ j ≤ 1000000 ∧ i.natAbs < 2 ^ 64 then some (.int (i ^ j.toNat)) else none
  | _, _, _ => none
/-- == of data -/
def eqG (a b : D) : Option Bool := match a.data, b.data with
  | some p, some q => if SeqAt.shaped p = true ∧ SeqAt.shaped q = true then some (PyData.eqv p q) else none
  | _, _ => none
def eqD : D → D → Option Bool
  | .str x, .str y => some (decide (x = y))
  | a, b => eqG a b
def flatD : D → Bool
  | .non => true
  | .bl _ => true
  | .int _ => true
  | .str _ => true
  | _ => false
/-- == of flat things -/
def feq : D → D → Bool
  | .non, .non => true
  | .bl a, .bl b => a == b
  | .bl a, .int b => (if a then 1 else 0) == b
  | .int a, .bl b => a == (if b then 1 else 0)
  | .int a, .int b => a == b
  | .str a, .str b => a == b
  | _, _ => false
/-- x in a list or tuple of flat things -/
def inD (x : D) (ds : List D) : Option Bool := if flatD x = true ∧ ds.all flatD = true then some (ds.any fun y => feq y x) else none
def isNon : D → Bool
  | .non => true
  | _ => false
def cmpD : Co → D → D → Option Bool
  | .eq, a, b => eqD a b
  | .ne, a, b => (eqD a b).map not
  | .lt, .int i, .int j => some (decide (i < j))
  | .le, .int i, .int j => some (decide (i ≤ j))
  | .gt, .int i, .int j => some (decide (j < i))
  | .ge, .int i, .int j => some (decide (j ≤ i))
  | .is, a, .non => some (isNon a)
  | .isnot, a, .non => some (!isNon a)
  | .inn, x, .lst ds => inD x ds
  | .inn, x, .tup ds => inD x ds
  | .notin, x, .lst ds => (inD x ds).map not
  | .notin, x, .tup ds => (inD x ds).map not
  | _, _, _ => none
/-- truth -/
def truD : D → Option Bool
  | .bl b => some b
  | .non => some false
  | .int i => some (i != 0)
  | .lst ds => some !ds.isEmpty
  | .tup ds => some !ds.isEmpty
  | _ => none
def atD (ds : List D) (i : Int) : Option D := L2.atI ds i
def ixD : D → D → Option D
  | .lst ds, .int i => atD ds i
  | .tup ds, .int i => atD ds i
  | _, _ => none

/-! ### arguments by place and by name -/
/-- the parameters' values, by name -/
def pick {α : Type} (ps : List Str) (l : List (Str × α)) : List α := ps.filterMap fun n => l.lookup n
def kwOk (ps : List Str) (n : Nat) (ks : List Str) : Bool := decide (n ≤ ps.length) && decide (ps.take n ++ ks).Nodup && ks.all ps.contains && ps.all (ps.take n ++ ks).contains
/-- the arguments of a call, as values -/
def bindD (ps : List Str) (ds : List D) (ks : List Str) (zs : List D) : Option (List D) := match ks with
  | [] => if ds.length = ps.length ∧ zs.length = 0 then some ds else none
  | k :: ks => if kwOk ps ds.length (k :: ks) = true ∧ zs.length = ks.length + 1 then some (pick ps (ps.zip ds ++ (k :: ks).zip zs)) else none

/-- what a program has beside its defs; xf: an exception class's parameters, the field that each fills -/
structure Rt where
  call : Nat → List D → List Str → List D → M D
  gc : Nat → Option D
  xf : Nat → Option (List (Str × Nat))
  under : Nat → String → Option Bool

def isTy (R : Rt) : Ty → D → Option Bool
  | .bt n, .exc c _ => (R.xf c).bind fun _ => R.under c n
  | .cl c, .exc c' _ => (R.xf c').bind fun _ => (R.xf c).map fun _ => decide (c' = c)
  | _, _ => none
def contD : D → Bool
  | .lst _ => true
  | .tup _ => true
  | .dct _ => true
  | _ => false
def biD (R : Rt) : Bi → List D → Option D
  | .len, [.lst ds] => some (.int ds.length)
  | .len, [.tup ds] => some (.int ds.length)
  | .len, [.str x] => if x.length ≤ LIM then some (.int x.length) else none
  | .abs, [.int i] => some (.int (if i < 0 then -i else i))
  | .max2, [.int i, .int j] => some (.int (if j > i then j else i))
  | .min2, [.int i, .int j] => some (.int (if j < i then j else i))
  | .int1, [.int i] => some (.int i)
  | .int1, [.bl b] => some (.int (if b then 1 else 0))
  | .repr, [d] => d.data.bind fun p => if contD d = true ∧ p.showable = true ∧ p.depth ≤ 50 ∧ p.shown.length ≤ LIM then some (.str p.shown) else none
  | .isi t, [d] => (isTy R t d).map .bl
  | _, _ => none
/-- an exception of class c -/
def mkX (R : Rt) (c : Nat) (ds : List D) (ks : List Str) (zs : List D) : Option D :=
  (R.xf c).bind fun fps => (bindD (fps.map (·.1)) ds ks zs).map fun xs => .exc c ((fps.map (·.2)).zip xs)
/-- a written list: a value, or a box -/
def boxL (bx : Bool) (ds : List D) : M D := fun S => match bx with
  | true => some (.ref S.length, S ++ [some (.lst ds)])
  | false => some (.lst ds, S)
def keyC : Cst → Bool
  | .int _ => true
  | .str _ => true
  | _ => false
def sameC : Cst → Cst → Bool
  | .int i, .int j => decide (i = j)
  | .str x, .str y => decide (x = y)
  | _, _ => false
/-- written keys: ints and texts, each once -/
def keysC : List Cst → Bool
  | [] => true
  | k :: ks => keyC k && !ks.any (sameC k) && keysC ks

/-- an attribute -/
def atF (R : Rt) : D → Nat → Option D
  | .exc c fs, f => (R.xf c).bind fun fps => if fps.any (fun q => decide (q.2 = f)) = true then fs.lookup f else none
  | _, _ => none
def bindT : Tg → D → Gam → Option Gam
  | .n i, d, Γ => some (Γ.set i (some d))
  | .t is, .tup ds, Γ => if is.length = ds.length then some ((is.zip ds).foldl (fun G p => G.set p.1 (some p.2)) Γ) else none
  | _, _, _ => none
def pairL (n : Nat) : List D → List D
  | [] => []
  | d :: ds => .tup [.int n, d] :: pairL (n + 1) ds
def intsL (n k : Nat) : List D := match k with
  | 0 => []
  | k + 1 => .int n :: intsL (n + 1) k
def itemsD : D → Option (List D)
  | .lst ds => some ds
  | .tup ds => some ds
  | _ => none

def compL (f : D → M (Option D)) : List D → M (List D)
  | [] => M.ret []
  | x :: xs => M.bnd (f x) fun o => M.bnd (compL f xs) fun r => M.ret (match o with
    | some d => d :: r
    | none => r)

mutual
def ev (R : Rt) : E → Gam → M D
  | .v i, Γ => M.opt (Γ[i]?).join
  | .k c, _ => M.ret c.d
  | .fn g, _ => M.ret (.fn g)
  | .cl c, _ => M.ret (.cl c)
  | .gc n, _ => M.opt (R.gc n)
  | .neg a, Γ => M.bnd (ev R a Γ) fun x => M.opt (match x with
    | .int i => some (.int (-i))
    | _ => none)
  | .bin o a b, Γ => M.bnd (ev R a Γ) fun x => M.bnd (ev R b Γ) fun y => fun S => M.opt (binD o (x.rsv S) (y.rsv S)) S
  | .cmp o a b, Γ => M.bnd (ev R a Γ) fun x => M.bnd (ev R b Γ) fun y => fun S => M.opt ((cmpD o (x.rsv S) (y.rsv S)).map .bl) S
  | .and a b, Γ => M.bnd (ev R a Γ) fun x => fun S => match truD (x.rsv S) with
    | some true => ev R b Γ S
    | some false => some (x, S)
    | none => none
  | .or a b, Γ => M.bnd (ev R a Γ) fun x => fun S => match truD (x.rsv S) with
    | some true => some (x, S)
    | some false => ev R b Γ S
    | none => none
  | .not a, Γ => M.bnd (ev R a Γ) fun x => fun S => M.opt ((truD (x.rsv S)).map fun b => .bl (!b)) S
  | .ife t a b, Γ => M.bnd (ev R t Γ) fun x => fun S => match truD (x.rsv S) with
    | some true => ev R a Γ S
    | some false => ev R b Γ S
    | none => none
  | .lst bx es, Γ => M.bnd (evs R es Γ) fun ds => boxL bx ds
  | .tup es, Γ => M.bnd (evs R es Γ) fun ds => M.ret (.tup ds)
  | .dsp ks vs, Γ => M.bnd (evs R vs Γ) fun ds => if keysC ks = true ∧ ks.length = ds.length then M.ret (.dct ((ks.map Cst.d).zip ds)) else M.no
  | .ix a i, Γ => M.bnd (ev R a Γ) fun x => M.bnd (ev R i Γ) fun y => fun S => M.opt (ixD (x.rsv S) (y.rsv S)) S
  | .rep bx es n, Γ => M.bnd (evs R es Γ) fun ds => M.bnd (ev R n Γ) fun y => match y with
    | .int j => if 0 ≤ j ∧ j ≤ 1000 ∧ ds.length ≤ 1000 then boxL bx (List.replicate j.toNat ds).flatten else M.no
    | _ => M.no
  | .at a f, Γ => M.bnd (ev R a Γ) fun x => M.opt (atF R x f)
  | .call g es ks vs, Γ => M.bnd (evs R es Γ) fun ds => M.bnd (evs R vs Γ) fun zs => R.call g ds ks zs
  | .bi b es, Γ => M.bnd (evs R es Γ) fun ds => fun S => M.opt (biD R b (ds.map (D.rsv S))) S
  | .mkx c es ks vs, Γ => M.bnd (evs R es Γ) fun ds => M.bnd (evs R vs Γ) fun zs => M.opt (mkX R c ds ks zs)
  | .lc bx e t it c, Γ => M.bnd (evi R it Γ) fun xs => M.bnd (compL (fun x => match bindT t x Γ with
    | some Γ' => M.bnd (evo R c Γ') fun b => if b = true then M.bnd (ev R e Γ') fun d => M.ret (some d) else M.ret none
    | none => M.no) xs) fun ds => if ds.length ≤ LIM then boxL bx ds else M.no
def evs (R : Rt) : Es → Gam → M (List D)
  | .nil, _ => M.ret []
  | .cons e r, Γ => M.bnd (ev R e Γ) fun d => M.bnd (evs R r Γ) fun ds => M.ret (d :: ds)
/-- a condition, or none -/
def evo (R : Rt) : Oe → Gam → M Bool
  | .none, _ => M.ret true
  | .some e, Γ => M.bnd (ev R e Γ) fun d => fun S => M.opt (truD (d.rsv S)) S
def evi (R : Rt) : It → Gam → M (List D)
  | .of e, Γ => M.bnd (ev R e Γ) fun d => M.opt (itemsD d)
  | .range a, Γ => M.bnd (ev R a Γ) fun d => M.opt (match d with
    | .int i => if -(2 ^ 62) ≤ i ∧ i < 2 ^ 62 then some (intsL 0 i.toNat) else none
    | _ => none)
  | .enum a, Γ => M.bnd (ev R a Γ) fun d => M.opt (match d with
    | .lst ds => some (pairL 0 ds)
    | _ => none)
end

inductive Fl where
  | nx | rt (d : D) | bk | ct

def forL (step : D → Gam → M (Fl × Gam)) : List D → Gam → M (Fl × Gam)
  | [], Γ => M.ret (.nx, Γ)
  | x :: xs, Γ => M.bnd (step x Γ) fun r => match r with
    | (.nx, Γ') => forL step xs Γ'
    | (.ct, Γ') => forL step xs Γ'
    | (.bk, Γ') => M.ret (.nx, Γ')
    | (.rt d, Γ') => M.ret (.rt d, Γ')

/-- going on behind a part -/
def thenS (r : Fl × Gam) (k : Gam → M (Fl × Gam)) : M (Fl × Gam) := match r with
  | (.nx, Γ) => k Γ
  | (f, Γ) => M.ret (f, Γ)

def setAll (is : List Nat) (ds : List D) (Γ : Gam) : Gam := (is.zip ds).foldl (fun G p => G.set p.1 (some p.2)) Γ
def setItemD (x i d : D) : M Unit := fun S => match x, i with
  | .ref b, .int j => match S.get b with
    | some (.lst ds) => if 0 ≤ j ∧ j < ds.length then some ((), S.put b (.lst (ds.set j.toNat d))) else none
    | _ => none
  | _, _ => none

def exs (R : Rt) : Ss → Gam → M (Fl × Gam)
  | .nil, Γ => M.ret (.nx, Γ)
  | .asg t e r, Γ => M.bnd (ev R e Γ) fun d => match bindT t d Γ with
    | some Γ' => exs R r Γ'
    | none => M.no
  | .par is es r, Γ => M.bnd (evs R es Γ) fun ds => if is.length = ds.length then exs R r (setAll is ds Γ) else M.no
  | .sidx a i e r, Γ => M.bnd (ev R e Γ) fun d => M.bnd (ev R a Γ) fun x => M.bnd (ev R i Γ) fun y => M.bnd (setItemD x y d) fun _ => exs R r Γ
  | .exp e r, Γ => M.bnd (ev R e Γ) fun _ => exs R r Γ
  | .ret e _, Γ => M.bnd (ev R e Γ) fun d => M.ret (.rt d, Γ)
  | .ife t a b r, Γ => M.bnd (ev R t Γ) fun x => fun S => match truD (x.rsv S) with
    | some true => M.bnd (exs R a Γ) (fun z => thenS z (exs R r)) S
    | some false => M.bnd (exs R b Γ) (fun z => thenS z (exs R r)) S
    | none => none
  | .for t it b r, Γ => M.bnd (evi R it Γ) fun xs => M.bnd (forL (fun x Γ => match bindT t x Γ with
    | some Γ' => exs R b Γ'
    | none => M.no) xs Γ) fun z => thenS z (exs R r)
  | .brk _, Γ => M.ret (.bk, Γ)
  | .cnt _, Γ => M.ret (.ct, Γ)
  | .pass r, Γ => exs R r Γ

structure Fn where
  ps : List Str
  ns : Nat
  body : Ss
structure Prg where
  fns : List Fn
  gc : Nat → Option D
  xf : Nat → Option (List (Str × Nat))
  under : Nat → String → Option Bool
def Fn.entry (f : Fn) (ds : List D) : Gam := ds.map some ++ List.replicate (f.ns - f.ps.length) none
def Prg.rt (T : Prg) (c : Nat → List D → List Str → List D → M D) : Rt := ⟨c, T.gc, T.xf, T.under⟩
/-- what a def's end gives -/
def endS : Fl × Gam → M D
  | (.rt d, _) => M.ret d
  | (.nx, _) => M.ret .non
  | _ => M.no
/-- a def called -/
def run (T : Prg) : Nat → Nat → List D → List Str → List D → M D
  | 0, _, _, _, _ => M.no
  | n + 1, g, ds, ks, zs => match T.fns[g]? with
    | some f => match bindD f.ps ds ks zs with
      | some xs => M.bnd (exs (T.rt (run T n)) f.body (f.entry xs)) endS
      | none => M.no
    | none => M.no
end Mi
/-! Mi, 2: how values and boxes stand in the abstract heap. -/
namespace Mi
open PySem PySem.Spec PyProof.Rows L2

/-- where the program's defs and classes stand, its attributes' names -/
structure Tb where
  fnA : Nat → Addr
  clA : Nat → Addr
  fld : Nat → PySem.Str

def keyD : D → Option Key
  | .int i => some (.inl i)
  | .str x => some (.inr x)
  | _ => none
/-- a list that is read: an object that stands still, or of the written part -/
def LsI (K : PySem.W.Frag) (I : Hp) (a : Addr) (xs : List V) : Prop := Rd I a (.lst xs) ∨ ∃ (its : Array Value) (n : Nat), K.lookup a = some { cls := .type "list", data := .seq its n } ∧ its.size ≤ sizeLine ∧ Vals xs its.toList

mutual
def Rep (K : PySem.W.Frag) (T : Tb) (ρ : List Addr) (I : Hp) : D → V → Prop
  | .non, v => v = .non
  | .bl b, v => v = .bl b
  | .int i, v => v = .int i
  | .str x, v => v = .str x
  | .lst ds, v => ∃ a xs, v = .ref a ∧ LsI K I a xs ∧ RepL K T ρ I ds xs
  | .tup ds, v => ∃ a xs, v = .ref a ∧ SqT K I a xs ∧ RepL K T ρ I ds xs
  | .dct kvs, v => ∃ a ks, v = .ref a ∧ Rd I a (.dK ks) ∧ RepK K T ρ I kvs ks
  | .obj c fs, v => ∃ a dx gs, v = .ref a ∧ I a = some (.ins (T.clA c) dx gs) ∧ RepF K T ρ I fs gs
  | .exc c fs, v => ∃ a od gs, v = .ref a ∧ I a = some (exo a (T.clA c) od) ∧ (match od with
      | some dx => I dx = some (exd dx gs)
      | none => fs = []) ∧ RepX K T ρ I fs gs
  | .fn g, v => v = .ref (T.fnA g)
  | .cl c, v => v = .ref (T.clA c)
  | .ref i, v => ∃ a, ρ[i]? = some a ∧ v = .ref a
def RepL (K : PySem.W.Frag) (T : Tb) (ρ : List Addr) (I : Hp) : List D → List V → Prop
  | [], xs => xs = []
  | d :: ds, xs => ∃ x ys, xs = x :: ys ∧ Rep K T ρ I d x ∧ RepL K T ρ I ds ys
def RepK (K : PySem.W.Frag) (T : Tb) (ρ : List Addr) (I : Hp) : List (D × D) → List (Key × V) → Prop
  | [], ks => ks = []
  | (k, d) :: r, ks => ∃ κ x ys, ks = (κ, x) :: ys ∧ keyD k = some κ ∧ Rep K T ρ I d x ∧ RepK K T ρ I r ys
def RepF (K : PySem.W.Frag) (T : Tb) (ρ : List Addr) (I : Hp) : List (Nat × D) → List (PySem.Str × V) → Prop
  | [], gs => gs = []
  | (f, d) :: r, gs => ∃ x ys, gs = (T.fld f, x) :: ys ∧ Rep K T ρ I d x ∧ RepF K T ρ I r ys
def RepX (K : PySem.W.Frag) (T : Tb) (ρ : List Addr) (I : Hp) : List (Nat × D) → List (PySem.Str × V) → Prop
  | [], _ => True
  | (f, d) :: r, gs => (∃ x, gs.lookup (T.fld f) = some x ∧ Rep K T ρ I d x) ∧ RepX K T ρ I r gs
end

section
variable {K : PySem.W.Frag} {T : Tb} {ρ ρ' : List Addr} {I I' : Hp}
theorem Rd.up {a : Addr} {u : HO} (e : Same I I') (h : Rd I a u) : Rd I' a u := by
  rcases h with h | ⟨o, h⟩
  · exact .inl (e _ _ h)
  · exact .inr ⟨o, e _ _ h⟩
theorem LsI.up {a : Addr} {xs : List V} (e : Same I I') (h : LsI K I a xs) : LsI K I' a xs := by
  rcases h with h | h
  · exact .inl (Rd.up e h)
  · exact .inr h
theorem LsI.sq {a : Addr} {xs : List V} (h : LsI K I a xs) : SqL K I a xs := by
  rcases h with h | ⟨its, n, h1, h2, h3⟩
  · exact .inl h
  · exact .inr ⟨_, its, n, h1, rfl, rfl, rfl, h2, h3⟩
theorem SqT.up {a : Addr} {xs : List V} (e : Same I I') (h : SqT K I a xs) : SqT K I' a xs := by
  rcases h with (h | ⟨o, h⟩) | h
  · exact .inl (.inl (e _ _ h))
  · exact .inl (.inr ⟨o, e _ _ h⟩)
  · exact .inr h
theorem pre_get {i : Nat} {a : Addr} (p : ρ <+: ρ') (h : ρ[i]? = some a) : ρ'[i]? = some a := by
  obtain ⟨t, rfl⟩ := p
  obtain ⟨hi, e⟩ := List.getElem?_eq_some_iff.mp h
  rw [List.getElem?_append_left hi]
  exact h
mutual
theorem Rep.up (e : Same I I') (p : ρ <+: ρ') : ∀ (d : D) (v : V), Rep K T ρ I d v → Rep K T ρ' I' d v
  | .non, _, h => h
  | .bl _, _, h => h
  | .int _, _, h => h
  | .str _, _, h => h
  | .lst ds, v, h => by
    obtain ⟨a, xs, rfl, h1, h2⟩ := h
    exact ⟨a, xs, rfl, LsI.up e h1, RepL.up e p ds xs h2⟩
  | .tup ds, v, h => by
    obtain ⟨a, xs, rfl, h1, h2⟩ := h
    exact ⟨a, xs, rfl, SqT.up e h1, RepL.up e p ds xs h2⟩
  | .dct kvs, v, h => by
    obtain ⟨a, ks, rfl, h1, h2⟩ := h
    exact ⟨a, ks, rfl, Rd.up e h1, RepK.up e p kvs ks h2⟩
  | .obj c fs, v, h => by
    obtain ⟨a, dx, gs, rfl, h1, h2⟩ := h
    exact ⟨a, dx, gs, rfl, e _ _ h1, RepF.up e p fs gs h2⟩
  | .exc c fs, v, h => by
    obtain ⟨a, od, gs, rfl, h1, h2, h3⟩ := h
    refine ⟨a, od, gs, rfl, e _ _ h1, ?_, RepX.up e p fs gs h3⟩
    cases od with
    | none => exact h2
    | some dx => exact e _ _ h2
  | .fn _, _, h => h
  | .cl _, _, h => h
  | .ref i, v, h => by
    obtain ⟨a, h1, h2⟩ := h
    exact ⟨a, pre_get p h1, h2⟩
theorem RepL.up (e : Same I I') (p : ρ <+: ρ') : ∀ (ds : List D) (xs : List V), RepL K T ρ I ds xs → RepL K T ρ' I' ds xs
  | [], _, h => h
  | d :: ds, _, h => by
    obtain ⟨x, ys, rfl, h1, h2⟩ := h
    exact ⟨x, ys, rfl, Rep.up e p d x h1, RepL.up e p ds ys h2⟩
theorem RepK.up (e : Same I I') (p : ρ <+: ρ') : ∀ (kvs : List (D × D)) (ks : List (Key × V)), RepK K T ρ I kvs ks → RepK K T ρ' I' kvs ks
  | [], _, h => h
  | (k, d) :: r, _, h => by
    obtain ⟨κ, x, ys, rfl, h0, h1, h2⟩ := h
    exact ⟨κ, x, ys, rfl, h0, Rep.up e p d x h1, RepK.up e p r ys h2⟩
theorem RepF.up (e : Same I I') (p : ρ <+: ρ') : ∀ (fs : List (Nat × D)) (gs : List (PySem.Str × V)), RepF K T ρ I fs gs → RepF K T ρ' I' fs gs
  | [], _, h => h
  | (f, d) :: r, _, h => by
    obtain ⟨x, ys, rfl, h1, h2⟩ := h
    exact ⟨x, ys, rfl, Rep.up e p d x h1, RepF.up e p r ys h2⟩
theorem RepX.up (e : Same I I') (p : ρ <+: ρ') : ∀ (fs : List (Nat × D)) (gs : List (PySem.Str × V)), RepX K T ρ I fs gs → RepX K T ρ' I' fs gs
  | [], _, h => trivial
  | (f, d) :: r, _, h => by
    obtain ⟨⟨x, h0, h1⟩, h2⟩ := h
    exact ⟨⟨x, h0, Rep.up e p d x h1⟩, RepX.up e p r _ h2⟩
end
theorem RepL.length : ∀ {ds : List D} {xs : List V}, RepL K T ρ I ds xs → ds.length = xs.length
  | [], _, h => by cases h; rfl
  | d :: ds, _, h => by
    obtain ⟨x, ys, rfl, _, h2⟩ := h
    exact congrArg Nat.succ (RepL.length h2)
theorem RepL.get : ∀ {ds : List D} {xs : List V} {i : Nat} {d : D}, RepL K T ρ I ds xs → ds[i]? = some d → ∃ x, xs[i]? = some x ∧ Rep K T ρ I d x
  | [], _, _, _, _, e => by simp at e
  | d :: ds, _, 0, _, h, e => by
    obtain ⟨x, ys, rfl, h1, h2⟩ := h
    cases e
    exact ⟨x, rfl, h1⟩
  | d :: ds, _, i + 1, y, h, e => by
    obtain ⟨x, ys, rfl, h1, h2⟩ := h
    exact RepL.get (i := i) h2 e
theorem RepL.set : ∀ {ds : List D} {xs : List V} (i : Nat) {d : D} {x : V}, RepL K T ρ I ds xs → Rep K T ρ I d x → RepL K T ρ I (ds.set i d) (xs.set i x)
  | [], _, _, _, _, h, _ => by cases h; rfl
  | d :: ds, _, 0, _, _, h, q => by
    obtain ⟨x, ys, rfl, h1, h2⟩ := h
    exact ⟨_, ys, rfl, q, h2⟩
  | d :: ds, _, i + 1, _, _, h, q => by
    obtain ⟨x, ys, rfl, h1, h2⟩ := h
    exact ⟨x, _, rfl, h1, RepL.set i h2 q⟩
theorem RepL.append : ∀ {ds es : List D} {xs ys : List V}, RepL K T ρ I ds xs → RepL K T ρ I es ys → RepL K T ρ I (ds ++ es) (xs ++ ys)
  | [], _, _, _, h, q => by cases h; exact q
  | d :: ds, _, _, _, h, q => by
    obtain ⟨x, zs, rfl, h1, h2⟩ := h
    exact ⟨x, _, rfl, h1, RepL.append h2 q⟩
theorem RepL.nil : RepL K T ρ I [] [] := rfl
theorem RepL.cons {d : D} {ds : List D} {x : V} {xs : List V} (h : Rep K T ρ I d x) (t : RepL K T ρ I ds xs) : RepL K T ρ I (d :: ds) (x :: xs) := ⟨x, xs, rfl, h, t⟩
theorem RepL.inv {d : D} {ds : List D} {x : V} {xs : List V} (h : RepL K T ρ I (d :: ds) (x :: xs)) : Rep K T ρ I d x ∧ RepL K T ρ I ds xs := by
  obtain ⟨y, ys, e, h1, h2⟩ := h
  cases e
  exact ⟨h1, h2⟩
theorem RepL.repl {d : D} {x : V} (h : Rep K T ρ I d x) : ∀ n, RepL K T ρ I (List.replicate n d) (List.replicate n x)
  | 0 => rfl
  | n + 1 => RepL.cons h (RepL.repl h n)
end

/-! ### the state: what stands still (I), the boxes -/
def Lv (ρ : List Addr) (S : Sto) (a : Addr) : Prop := ∃ i w, S.get i = some w ∧ ρ[i]? = some a
def WRep (K : PySem.W.Frag) (T : Tb) (ρ : List Addr) (I : Hp) : W → Option HO → Prop
  | .lst ds, o => ∃ xs, o = some (.lst xs) ∧ RepL K T ρ I ds xs
  | .dct kvs, o => ∃ ks, o = some (.dK ks) ∧ RepK K T ρ I kvs ks
  | .ins c fs, o => ∃ dx gs, o = some (.ins (T.clA c) dx gs) ∧ RepF K T ρ I fs gs
structure SR (K : PySem.W.Frag) (T : Tb) (I : Hp) (ρ : List Addr) (S : Sto) (H : Hp) : Prop where
  sub : Same I H
  len : ρ.length = S.length
  inj : ∀ i j w u a, S.get i = some w → S.get j = some u → ρ[i]? = some a → ρ[j]? = some a → i = j
  box : ∀ i w a, S.get i = some w → ρ[i]? = some a → WRep K T ρ I w (H a) ∧ I a = none
structure Stp (I : Hp) (ρ : List Addr) (S : Sto) (H : Hp) (I' : Hp) (ρ' : List Addr) (S' : Sto) (H' : Hp) : Prop where
  same : Same I I'
  pre : ρ <+: ρ'
  frm : ∀ a o, H a = some o → ¬ Lv ρ S a → H' a = some o ∧ ¬ Lv ρ' S' a
  out : ∀ a o, H a = some o → I a = none → ¬ Lv ρ S a → I' a = none
section
variable {K : PySem.W.Frag} {T : Tb} {ρ ρ1 ρ2 : List Addr} {I I1 I2 : Hp} {S S1 S2 : Sto} {H H1 H2 : Hp}
theorem Stp.refl : Stp I ρ S H I ρ S H := ⟨Same.refl _, List.prefix_refl _, fun _ _ h n => ⟨h, n⟩, fun _ _ _ n _ => n⟩
theorem Stp.trans (p : Stp I ρ S H I1 ρ1 S1 H1) (q : Stp I1 ρ1 S1 H1 I2 ρ2 S2 H2) : Stp I ρ S H I2 ρ2 S2 H2 where
  same := p.same.trans q.same
  pre := p.pre.trans q.pre
  frm := fun a o h n => let ⟨h1, n1⟩ := p.frm a o h n; q.frm a o h1 n1
  out := fun a o h i n => let ⟨h1, n1⟩ := p.frm a o h n; q.out a o h1 (p.out a o h i n) n1
theorem get_len {i : Nat} {w : W} (h : S.get i = some w) : i < S.length := by
  unfold Sto.get at h
  rcases Nat.lt_or_ge i S.length with q | q
  · exact q
  · rw [List.getElem?_eq_none q] at h
    cases h
theorem SR.at (r : SR K T I ρ S H) {i : Nat} {w : W} (h : S.get i = some w) : ∃ a, ρ[i]? = some a ∧ WRep K T ρ I w (H a) ∧ I a = none := by
  have hi := get_len h
  rw [← r.len] at hi
  exact ⟨ρ[i], List.getElem?_eq_getElem hi, r.box i w _ h (List.getElem?_eq_getElem hi)⟩
theorem WRep.up {w : W} {o : Option HO} (e : Same I I1) (p : ρ <+: ρ1) (h : WRep K T ρ I w o) : WRep K T ρ1 I1 w o := by
  cases w with
  | lst ds =>
    obtain ⟨xs, q, h⟩ := h
    exact ⟨xs, q, RepL.up e p _ _ h⟩
  | dct kvs =>
    obtain ⟨ks, q, h⟩ := h
    exact ⟨ks, q, RepK.up e p _ _ h⟩
  | ins c fs =>
    obtain ⟨dx, gs, q, h⟩ := h
    exact ⟨dx, gs, q, RepF.up e p _ _ h⟩
theorem WRep.some {w : W} {o : Option HO} (h : WRep K T ρ I w o) : ∃ u, o = some u := by
  cases w with
  | lst ds => obtain ⟨xs, q, h⟩ := h; exact ⟨_, q⟩
  | dct kvs => obtain ⟨ks, q, h⟩ := h; exact ⟨_, q⟩
  | ins c fs => obtain ⟨dx, gs, q, h⟩ := h; exact ⟨_, q⟩
theorem SR.lv (r : SR K T I ρ S H) {a : Addr} (h : Lv ρ S a) : (∃ u, H a = some u) ∧ I a = none := by
  obtain ⟨i, w, h1, h2⟩ := h
  obtain ⟨q, n⟩ := r.box i w a h1 h2
  exact ⟨q.some, n⟩
theorem SR.free (r : SR K T I ρ S H) {a : Addr} (h : H a = none) : I a = none ∧ ¬ Lv ρ S a := by
  refine ⟨?_, fun q => ?_⟩
  · cases e : I a with
    | none => rfl
    | some o => have := r.sub a o e; rw [h] at this; cases this
  · obtain ⟨⟨u, e⟩, _⟩ := r.lv q
    rw [h] at e; cases e
theorem SR.noI (r : SR K T I ρ S H) {a : Addr} {o : HO} (h : I a = some o) : ¬ Lv ρ S a := fun q => by
  rw [(r.lv q).2] at h; cases h
/-- a new thing that stands still -/
theorem SR.new (r : SR K T I ρ S H) {p : Addr} {o : HO} (h : H p = none) : SR K T (upd I p o) ρ S (upd H p o) ∧ Stp I ρ S H (upd I p o) ρ S (upd H p o) := by
  obtain ⟨ip, np⟩ := r.free h
  have sm : Same I (upd I p o) := fun b u e => by rw [upd_ne (ne_of_none e ip)]; exact e
  refine ⟨⟨fun b u e => ?_, r.len, r.inj, fun i w a h1 h2 => ?_⟩, sm, List.prefix_refl _, fun a u e n => ⟨?_, n⟩, fun a u e i n => ?_⟩
  · by_cases hb : b = p
    · subst hb; rw [upd_same] at e ⊢; exact e
    · rw [upd_ne hb] at e ⊢; exact r.sub b u e
  · obtain ⟨q, n⟩ := r.box i w a h1 h2
    have hb : a ≠ p := fun e => np ⟨i, w, h1, e ▸ h2⟩
    rw [upd_ne hb, upd_ne hb]
    exact ⟨q.up sm (List.prefix_refl _), n⟩
  · rw [upd_ne (ne_of_none e h)]; exact e
  · rw [upd_ne (ne_of_none e h)]; exact i
theorem get_push {w : W} (i : Nat) : Sto.get (S ++ [some w]) i = if i = S.length then some w else S.get i := by
  unfold Sto.get
  by_cases h : i = S.length
  · subst h
    rw [if_pos rfl, List.getElem?_append_right (Nat.le_refl _)]
    simp
  · rw [if_neg h]
    rcases Nat.lt_or_ge i S.length with q | q
    · rw [List.getElem?_append_left q]
    · have z : S.length < i := Nat.lt_of_le_of_ne q (Ne.symm h)
      rw [List.getElem?_eq_none q, List.getElem?_eq_none (by rw [List.length_append]; exact z)]
/-- a new box -/
theorem SR.newBox (r : SR K T I ρ S H) {p : Addr} {o : HO} {w : W} (h : H p = none) (hw : WRep K T ρ I w (some o)) :
    SR K T I (ρ ++ [p]) (S ++ [some w]) (upd H p o) ∧ Stp I ρ S H I (ρ ++ [p]) (S ++ [some w]) (upd H p o) := by
  obtain ⟨ip, np⟩ := r.free h
  have pf : ρ <+: ρ ++ [p] := List.prefix_append _ _
  have gn : ∀ {i : Nat} {a : Addr}, i ≠ S.length → (ρ ++ [p])[i]? = some a → ρ[i]? = some a := fun {i a} hi e => by
    rw [← r.len] at hi
    rcases Nat.lt_or_ge i ρ.length with q | q
    · rw [List.getElem?_append_left q] at e; exact e
    · rw [List.getElem?_eq_none (by rw [List.length_append]; show ρ.length + 1 ≤ i; omega)] at e; cases e
  have gl : ∀ {a : Addr}, (ρ ++ [p])[S.length]? = some a → a = p := fun {a} e => by
    rw [← r.len, List.getElem?_append_right (Nat.le_refl _)] at e
    simp at e; exact e.symm
  refine ⟨⟨fun b u e => ?_, by rw [List.length_append, List.length_append, r.len]; rfl, fun i j w1 w2 a h1 h2 h3 h4 => ?_, fun i w1 a h1 h2 => ?_⟩, Same.refl _, pf, fun a u e n => ⟨?_, fun ⟨i, w1, h1, h2⟩ => ?_⟩, fun a u e i n => i⟩
  · rw [upd_ne (ne_of_none e ip)]; exact r.sub b u e
  · rw [get_push] at h1 h2
    by_cases hi : i = S.length
    · subst hi
      have e := gl h3
      by_cases hj : j = S.length
      · exact hj.symm
      · rw [if_neg hj] at h2
        subst e
        exact absurd ⟨j, w2, h2, gn hj h4⟩ np
    · rw [if_neg hi] at h1
      by_cases hj : j = S.length
      · subst hj
        have e := gl h4
        subst e
        exact absurd ⟨i, w1, h1, gn hi h3⟩ np
      · rw [if_neg hj] at h2
        exact r.inj i j w1 w2 a h1 h2 (gn hi h3) (gn hj h4)
  · rw [get_push] at h1
    by_cases hi : i = S.length
    · subst hi
      rw [if_pos rfl] at h1
      cases h1
      rw [gl h2, upd_same]
      exact ⟨hw.up (Same.refl _) pf, ip⟩
    · rw [if_neg hi] at h1
      have h2 := gn hi h2
      have hb : a ≠ p := fun e => np ⟨i, w1, h1, e ▸ h2⟩
      rw [upd_ne hb]
      obtain ⟨q, n⟩ := r.box i w1 a h1 h2
      exact ⟨q.up (Same.refl _) pf, n⟩
  · rw [upd_ne (ne_of_none e h)]; exact e
  · rw [get_push] at h1
    by_cases hi : i = S.length
    · subst hi
      rw [gl h2, h] at e
      cases e
    · rw [if_neg hi] at h1
      exact n ⟨i, w1, h1, gn hi h2⟩
theorem get_put {i : Nat} {w w' : W} (h : S.get i = some w) (j : Nat) : Sto.get (S.put i w') j = if j = i then some w' else S.get j := by
  have hi := get_len h
  unfold Sto.get Sto.put
  by_cases e : j = i
  · subst e; rw [if_pos rfl, List.getElem?_set_self hi]; rfl
  · rw [if_neg e, List.getElem?_set_ne (Ne.symm e)]
theorem get_kill {i : Nat} (j : Nat) : Sto.get (S.kill i) j = if j = i then none else S.get j := by
  unfold Sto.get Sto.kill
  by_cases e : j = i
  · subst e
    rw [if_pos rfl]
    rcases Nat.lt_or_ge j S.length with q | q
    · rw [List.getElem?_set_self q]; rfl
    · rw [List.getElem?_eq_none (by rw [List.length_set]; exact q)]; rfl
  · rw [if_neg e, List.getElem?_set_ne (Ne.symm e)]
/-- a box is written -/
theorem SR.write (r : SR K T I ρ S H) {i : Nat} {w w' : W} {a : Addr} {o : HO} (h : S.get i = some w) (ha : ρ[i]? = some a) (hw : WRep K T ρ I w' (some o)) :
    SR K T I ρ (S.put i w') (upd H a o) ∧ Stp I ρ S H I ρ (S.put i w') (upd H a o) := by
  obtain ⟨q0, n0⟩ := r.box i w a h ha
  have lv : Lv ρ S a := ⟨i, w, h, ha⟩
  have lv' : ∀ {b}, Lv ρ (S.put i w') b → Lv ρ S b := fun {b} ⟨j, u, h1, h2⟩ => by
    rw [get_put h] at h1
    by_cases e : j = i
    · subst e
      rw [ha] at h2
      cases h2
      exact lv
    · rw [if_neg e] at h1
      exact ⟨j, u, h1, h2⟩
  refine ⟨⟨fun b u e => ?_, by unfold Sto.put; rw [List.length_set]; exact r.len, fun j k w1 w2 b h1 h2 h3 h4 => ?_, fun j w1 b h1 h2 => ?_⟩, Same.refl _, List.prefix_refl _, fun b u e n => ⟨?_, fun z => n (lv' z)⟩, fun b u e z n => z⟩
  · have hb : b ≠ a := fun z => by rw [z, n0] at e; cases e
    rw [upd_ne hb]; exact r.sub b u e
  · have f : ∀ {j : Nat} {w1 : W}, Sto.get (S.put i w') j = some w1 → ∃ w2, S.get j = some w2 := fun {j w1} z => by
      rw [get_put h] at z
      by_cases e : j = i
      · subst e; exact ⟨w, h⟩
      · rw [if_neg e] at z; exact ⟨_, z⟩
    obtain ⟨u1, z1⟩ := f h1
    obtain ⟨u2, z2⟩ := f h2
    exact r.inj j k u1 u2 b z1 z2 h3 h4
  · rw [get_put h] at h1
    by_cases e : j = i
    · subst e
      rw [if_pos rfl] at h1
      cases h1
      rw [ha] at h2
      cases h2
      rw [upd_same]
      exact ⟨hw, n0⟩
    · rw [if_neg e] at h1
      have hb : b ≠ a := fun z => by
        subst z
        exact e (r.inj j i w1 w b h1 h h2 ha)
      rw [upd_ne hb]
      exact r.box j w1 b h1 h2
  · have hb : b ≠ a := fun z => n (z ▸ lv)
    rw [upd_ne hb]; exact e
end
end Mi
/-! Mi, 3: operations on values. -/
namespace Mi
open PySem PySem.Spec PyProof.Rows L2

/-- a value, a box of it opened, in the whole heap -/
def RepT (K : PySem.W.Frag) (T : Tb) (ρ : List Addr) (I H : Hp) : D → V → Prop
  | .lst ds, v => ∃ a xs, v = .ref a ∧ LsI K H a xs ∧ RepL K T ρ I ds xs
  | .dct kvs, v => ∃ a ks, v = .ref a ∧ Rd H a (.dK ks) ∧ RepK K T ρ I kvs ks
  | d, v => Rep K T ρ I d v
section
variable {K : PySem.W.Frag} {T : Tb} {ρ ρ1 ρ2 : List Addr} {I I1 I2 : Hp} {S S1 S2 : Sto} {H H1 H2 : Hp}
theorem rsv_ref (i : Nat) : D.rsv S (.ref i) = (match S.get i with
    | some (.lst ds) => .lst ds
    | some (.dct kvs) => .dct kvs
    | _ => .ref i) := rfl
theorem rsv_no {i : Nat} (e : S.get i = none) : D.rsv S (.ref i) = .ref i := by rw [rsv_ref, e]
theorem rsv_lst {i : Nat} {ds : List D} (e : S.get i = some (.lst ds)) : D.rsv S (.ref i) = .lst ds := by rw [rsv_ref, e]
theorem rsv_dct {i : Nat} {kvs : List (D × D)} (e : S.get i = some (.dct kvs)) : D.rsv S (.ref i) = .dct kvs := by rw [rsv_ref, e]
theorem rsv_ins {i c : Nat} {fs : List (Nat × D)} (e : S.get i = some (.ins c fs)) : D.rsv S (.ref i) = .ref i := by rw [rsv_ref, e]
theorem SR.top (r : SR K T I ρ S H) : ∀ {d : D} {v : V}, Rep K T ρ I d v → RepT K T ρ I H (d.rsv S) v
  | .non, _, h => h
  | .bl _, _, h => h
  | .int _, _, h => h
  | .str _, _, h => h
  | .lst ds, _, h => by
    obtain ⟨a, xs, rfl, h1, h2⟩ := h
    exact ⟨a, xs, rfl, LsI.up r.sub h1, h2⟩
  | .tup ds, _, h => h
  | .dct kvs, _, h => by
    obtain ⟨a, ks, rfl, h1, h2⟩ := h
    exact ⟨a, ks, rfl, Rd.up r.sub h1, h2⟩
  | .obj _ _, _, h => h
  | .exc _ _, _, h => h
  | .fn _, _, h => h
  | .cl _, _, h => h
  | .ref i, v, h => by
    obtain ⟨a, h1, rfl⟩ := id h
    cases e : S.get i with
    | none => rw [rsv_no e]; exact h
    | some w =>
      obtain ⟨q, n⟩ := r.box i w a e h1
      cases w with
      | lst ds =>
        obtain ⟨xs, z, q⟩ := q
        rw [rsv_lst e]
        exact ⟨a, xs, rfl, .inl (.inl z), q⟩
      | dct kvs =>
        obtain ⟨ks, z, q⟩ := q
        rw [rsv_dct e]
        exact ⟨a, ks, rfl, .inl z, q⟩
      | ins c fs => rw [rsv_ins e]; exact h
theorem SqT.of_sub {a : Addr} {xs : List V} (e : Same I H) (h : SqT K I a xs) : SqT K H a xs := SqT.up e h

/-! ### data -/
mutual
theorem rep_dp (e : Same I H) : ∀ (d : D) (v : V) (p : PyData), Rep K T ρ I d v → d.data = some p → p.canLay0 = true → Dp K H v p
  | .non, _, _, h, q, _ => by cases q; cases h; exact .non
  | .bl b, _, _, h, q, _ => by cases q; cases h; exact .bl b
  | .int i, _, _, h, q, _ => by cases q; cases h; exact .int i
  | .str x, _, _, h, q, _ => by cases q; cases h; exact .str x
  | .lst ds, _, _, h, q, z => by
    obtain ⟨a, xs, rfl, h1, h2⟩ := h
    obtain ⟨ps, q1, rfl⟩ := Option.map_eq_some_iff.mp q
    exact .lst (LsI.up e h1).sq (rep_dps e ds xs ps h2 q1 (by simpa [PyData.canLay0] using z))
  | .tup ds, _, _, h, q, z => by
    obtain ⟨a, xs, rfl, h1, h2⟩ := h
    obtain ⟨ps, q1, rfl⟩ := Option.map_eq_some_iff.mp q
    exact .tup (SqT.up e h1) (rep_dps e ds xs ps h2 q1 (by simpa [PyData.canLay0] using z))
  | .dct kvs, _, _, h, q, z => by
    obtain ⟨ps, q1, rfl⟩ := Option.map_eq_some_iff.mp q
    simp [PyData.canLay0] at z
  | .obj _ _, _, _, _, q, _ => by cases q
  | .exc _ _, _, _, _, q, _ => by cases q
  | .fn _, _, _, _, q, _ => by cases q
  | .cl _, _, _, _, q, _ => by cases q
  | .ref _, _, _, _, q, _ => by cases q
theorem rep_dps (e : Same I H) : ∀ (ds : List D) (xs : List V) (ps : List PyData), RepL K T ρ I ds xs → D.datas ds = some ps → PyData.canLayAll0 ps = true → DpAll K H xs ps
  | [], _, _, h, q, _ => by cases h; cases q; exact .nil
  | d :: ds, _, _, h, q, z => by
    obtain ⟨x, ys, rfl, h1, h2⟩ := h
    obtain ⟨p, q1, q2⟩ := Option.bind_eq_some_iff.mp q
    obtain ⟨r, q3, rfl⟩ := Option.map_eq_some_iff.mp q2
    have z' : p.canLay0 = true ∧ PyData.canLayAll0 r = true := by simpa [PyData.canLayAll0] using z
    exact .cons (rep_dp e d x p h1 q1 z'.1) (rep_dps e ds ys r h2 q3 z'.2)
end
theorem top_dp (r : SR K T I ρ S H) {d : D} {v : V} {p : PyData} (h : RepT K T ρ I H d v) (q : d.data = some p) (z : p.canLay0 = true) : Dp K H v p := by
  cases d with
  | lst ds =>
    obtain ⟨a, xs, rfl, h1, h2⟩ := h
    obtain ⟨ps, q1, rfl⟩ := Option.map_eq_some_iff.mp q
    exact .lst h1.sq (rep_dps r.sub ds xs ps h2 q1 (by simpa [PyData.canLay0] using z))
  | dct kvs =>
    obtain ⟨ps, q1, rfl⟩ := Option.map_eq_some_iff.mp q
    simp [PyData.canLay0] at z
  | _ => exact rep_dp r.sub _ v p h q z
end

/-! ### results -/
/-- what follows of a value d that leaves the boxes S' -/
def PostV (K : PySem.W.Frag) (T : Tb) (I : Hp) (ρ : List Addr) (S : Sto) (H : Hp) (S' : Sto) (d : D) (Q : VK) : Prop :=
  ∀ v I' ρ' H', SR K T I' ρ' S' H' → Stp I ρ S H I' ρ' S' H' → Rep K T ρ' I' d v → Q v H'
section
variable {K : PySem.W.Frag} {T : Tb} {ρ : List Addr} {I : Hp} {S : Sto} {H : Hp} {Q : VK}
theorem PostV.same {d : D} {v : V} (k : PostV K T I ρ S H S d Q) (r : SR K T I ρ S H) (h : Rep K T ρ I d v) : Q v H := k v I ρ H r Stp.refl h
theorem PostV.new {d : D} {p : Addr} {o : HO} (k : PostV K T I ρ S H S d Q) (r : SR K T I ρ S H) (hp : H p = none) (h : Rep K T ρ (upd I p o) d (.ref p)) : Q (.ref p) (upd H p o) :=
  let ⟨r', s'⟩ := r.new (o := o) hp
  k _ _ _ _ r' s' h
theorem up_new {p : Addr} {o : HO} (r : SR K T I ρ S H) (hp : H p = none) : Same I (upd I p o) := (r.new (o := o) hp).2.same
theorem Rep.lnew {p : Addr} {ds : List D} {xs : List V} (r : SR K T I ρ S H) (hp : H p = none) (h : RepL K T ρ I ds xs) : Rep K T ρ (upd I p (.lst xs)) (.lst ds) (.ref p) :=
  ⟨p, xs, rfl, .inl (.inl upd_same), RepL.up (up_new r hp) (List.prefix_refl _) _ _ h⟩
theorem Rep.tnew {p : Addr} {ds : List D} {xs : List V} (r : SR K T I ρ S H) (hp : H p = none) (h : RepL K T ρ I ds xs) : Rep K T ρ (upd I p (.tup xs)) (.tup ds) (.ref p) :=
  ⟨p, xs, rfl, .inl (.inl upd_same), RepL.up (up_new r hp) (List.prefix_refl _) _ _ h⟩
end

/-- a two-place operation of values -/
def Vr2 (K : PySem.W.Frag) (T : Tb) (g : D → D → Option D) : R2 := fun x y H Q => ∃ I ρ S d1 d2 d, SR K T I ρ S H ∧ RepT K T ρ I H d1 x ∧ RepT K T ρ I H d2 y ∧ g d1 d2 = some d ∧ PostV K T I ρ S H S d Q

section
variable {X : Cx} {T : Tb}
theorem lst_obj {pins : List (Addr × Obj)} {σ : L2.St} {H : Hp} {s : Shared} {l : Addr} {xs : List V} (J : Inv X pins σ H s) (h : LsI X.K H l xs) :
    xs.length ≤ sizeLine ∧ ∃ (its : List Value) (n : Nat), Vals xs its ∧ s.heap.get? l = some { cls := .type "list", data := .seq its.toArray n } := by
  rcases h with h | ⟨its, n, h1, h2, h3⟩
  · obtain ⟨z, its, n, r, e⟩ := h.ok J.hok
    exact ⟨z, its, n, r, e⟩
  · refine ⟨?_, its.toList, n, h3, ?_⟩
    · rw [h3.length]
      simpa using h2
    · have := J.kIn l _ h1
      simpa using this
theorem lim_eq : LIM = sizeLine := by rw [sizeLine_eq]; rfl
theorem op_addM : OpR X (binaryOp .Add) (Vr2 X.K T addD) := by
  intro pins s σ H x y v u Q J rx ry h
  obtain ⟨I, ρ, S, d1, d2, d, sr, h1, h2, e, k⟩ := h
  unfold addD at e
  split at e
  · cases e; cases h1; cases h2
    exact op_add pins s σ H _ _ v u Q J rx ry ⟨_, _, rfl, rfl, k.same sr rfl⟩
  · rename_i x1 y1
    cases h1; cases h2
    split at e
    · rename_i hz
      cases e
      exact op_add_str pins s σ H _ _ v u Q J rx ry ⟨_, _, rfl, rfl, by rw [← lim_eq]; exact hz, k.same sr rfl⟩
    · cases e
  · rename_i xs ys
    split at e
    · rename_i hz
      cases e
      obtain ⟨a, vs, rfl, ha, ra⟩ := h1
      obtain ⟨b, ws, rfl, hb, rb⟩ := h2
      cases rx
      cases ry
      obtain ⟨z1, its, n, r1, e1⟩ := lst_obj J ha
      obtain ⟨z2, its2, n2, r2, e2⟩ := lst_obj J hb
      have hl : vs.length + ws.length ≤ sizeLine := by rw [← ra.length, ← rb.length, ← lim_eq]; exact hz
      refine PySem.P.add_list e1 e2 ?_ (by rw [List.size_toArray, List.size_toArray, ← r1.length, ← r2.length]; omega)
      have ea : its.toArray ++ its2.toArray = (its ++ its2).toArray := by simp
      rw [ea]
      exact ⟨.ref _, _, J.lnew (t' := s.toks) (r1.append r2) (by rw [List.length_append]; omega), rfl, k.new sr J.fresh (Rep.lnew sr J.fresh (ra.append rb))⟩
    · cases e
  · cases e

theorem rep_len : ∀ (n : Nat) (xs : List V), (List.replicate n xs).flatten.length = n * xs.length
  | 0, xs => by simp
  | n + 1, xs => by rw [List.replicate_succ, List.flatten_cons, List.length_append, rep_len n xs, Nat.succ_mul, Nat.add_comm]
theorem RepL.rep {K : PySem.W.Frag} {ρ : List Addr} {I : Hp} {ds : List D} {xs : List V} (h : RepL K T ρ I ds xs) : ∀ n, RepL K T ρ I (List.replicate n ds).flatten (List.replicate n xs).flatten
  | 0 => rfl
  | n + 1 => by
    rw [List.replicate_succ, List.flatten_cons, List.replicate_succ, List.flatten_cons]
    exact h.append (RepL.rep h n)
theorem mul_ok {x : PySem.Str} {j : Int} (h0 : 0 ≤ j) (h1 : j ≤ 1000) (h2 : x.length ≤ 1000) : MulOk x j := by
  refine ⟨?_, fun a _ => ?_, fun a _ => ?_⟩
  · rw [decide_eq_false (by omega), decide_eq_false (by omega)]; rfl
  · have hj : 1 ≤ j := by omega
    have : (1001 : Int) ≤ (2 ^ 63 - 1) / j := by
      refine Int.le_ediv_of_mul_le (by omega) ?_
      have : 1001 * j ≤ 1001 * 1000 := by omega
      omega
    omega
  · have e : x.length * j.toNat ≤ 1000 * 1000 := Nat.mul_le_mul h2 (by omega)
    show decide _ = false
    have z := sizeLine_eq
    first
      | exact decide_eq_false (by omega)
      | (simp; omega)
theorem op_mulM : OpR X (binaryOp .Mult) (Vr2 X.K T mulD) := by
  intro pins s σ H x y v u Q J rx ry h
  obtain ⟨I, ρ, S, d1, d2, d, sr, h1, h2, e, k⟩ := h
  unfold mulD at e
  split at e
  · split at e
    · rename_i hc
      cases e; cases h1; cases h2
      exact op_mul pins s σ H _ _ v u Q J rx ry ⟨_, _, rfl, rfl, hc, k.same sr rfl⟩
    · cases e
  · split at e
    · rename_i hc
      cases e; cases h1; cases h2
      obtain ⟨t, rfl⟩ := rx
      obtain ⟨t', rfl⟩ := ry
      exact SB.mul (mul_ok hc.1 hc.2.1 hc.2.2) fun t2 k2 => ⟨.str _, H, J.tok _, ⟨_, rfl⟩, k.same sr rfl⟩
    · cases e
  · cases e

def boO : Bo → Operator
  | .add => .Add
  | .sub => .Sub
  | .mul => .Mult
  | .fdiv => .FloorDiv
  | .mod => .Mod
  | .pow => .Pow
theorem op_binM (o : Bo) : OpR X (binaryOp (boO o)) (Vr2 X.K T (binD o)) := by
  cases o with
  | add => exact op_addM
  | mul => exact op_mulM
  | sub =>
    intro pins s σ H x y v u Q J rx ry h
    obtain ⟨I, ρ, S, d1, d2, d, sr, h1, h2, e, k⟩ := h
    unfold binD at e
    split at e <;> first
      | (rename_i q; cases q; done)
      | cases e
    all_goals (cases h1; cases h2)
    exact op_sub pins s σ H _ _ v u Q J rx ry ⟨_, _, rfl, rfl, k.same sr rfl⟩
  | fdiv =>
    intro pins s σ H x y v u Q J rx ry h
    obtain ⟨I, ρ, S, d1, d2, d, sr, h1, h2, e, k⟩ := h
    unfold binD at e
    split at e <;> first
      | (rename_i q; cases q; done)
      | skip
    · split at e
      · rename_i hc
        cases e; cases h1; cases h2
        exact op_fdivN pins s σ H _ _ v u Q J rx ry ⟨_, _, rfl, rfl, hc, k.same sr rfl⟩
      · cases e
    · cases e
  | mod =>
    intro pins s σ H x y v u Q J rx ry h
    obtain ⟨I, ρ, S, d1, d2, d, sr, h1, h2, e, k⟩ := h
    unfold binD at e
    split at e <;> first
      | (rename_i q; cases q; done)
      | skip
    · split at e
      · rename_i hc
        cases e; cases h1; cases h2
        exact op_modN pins s σ H _ _ v u Q J rx ry ⟨_, _, rfl, rfl, hc, k.same sr rfl⟩
      · cases e
    · cases e
  | pow =>
    intro pins s σ H x y v u Q J rx ry h
    obtain ⟨I, ρ, S, d1, d2, d, sr, h1, h2, e, k⟩ := h
    unfold binD at e
    split at e <;> first
      | (rename_i q; cases q; done)
      | skip
    · split at e
      · rename_i hc
        cases e; cases h1; cases h2
        exact op_pow pins s σ H _ _ v u Q J rx ry ⟨_, _, rfl, rfl, hc, k.same sr rfl⟩
      · cases e
    · cases e

/-! ### comparisons -/
def fv : D → V
  | .non => .non
  | .bl b => .bl b
  | .int i => .int i
  | .str x => .str x
  | _ => .non
theorem rep_fv {K : PySem.W.Frag} {ρ : List Addr} {I : Hp} {d : D} {v : V} (f : flatD d = true) (h : Rep K T ρ I d v) : v = fv d ∧ flatV v = true := by
  cases d <;> first
    | (cases h; exact ⟨rfl, rfl⟩)
    | (cases f)
theorem repl_fv {K : PySem.W.Frag} {ρ : List Addr} {I : Hp} : ∀ {ds : List D} {xs : List V}, ds.all flatD = true → RepL K T ρ I ds xs → xs = ds.map fv ∧ xs.all flatV = true
  | [], _, _, h => by cases h; exact ⟨rfl, rfl⟩
  | d :: ds, _, f, h => by
    obtain ⟨x, ys, rfl, h1, h2⟩ := h
    rw [List.all_cons, Bool.and_eq_true] at f
    obtain ⟨e1, f1⟩ := rep_fv f.1 h1
    obtain ⟨e2, f2⟩ := repl_fv f.2 h2
    refine ⟨by rw [e1, e2]; rfl, ?_⟩
    rw [List.all_cons, f1, f2]; rfl
theorem feq_eqV : ∀ {a b : D}, flatD a = true → flatD b = true → L2.eqV (fv a) (fv b) = feq a b := by
  intro a b fa fb
  cases a <;> cases b <;> first
    | rfl
    | (cases fa; done)
    | (cases fb; done)
theorem any_feq {x : D} (fx : flatD x = true) : ∀ {ds : List D}, ds.all flatD = true → L2.inV (fv x) (ds.map fv) = ds.any fun y => feq y x
  | [], _ => rfl
  | d :: ds, f => by
    rw [List.all_cons, Bool.and_eq_true] at f
    show (L2.eqV (fv d) (fv x) || L2.inV (fv x) (ds.map fv)) = _
    rw [feq_eqV f.1 fx, any_feq fx f.2]
    rfl
theorem rept_fv {K : PySem.W.Frag} {ρ : List Addr} {I H : Hp} {d : D} {v : V} (f : flatD d = true) (h : RepT K T ρ I H d v) : v = fv d ∧ flatV v = true := by
  cases d with
  | non => exact rep_fv f (show Rep K T ρ I .non v from h)
  | bl b => exact rep_fv f (show Rep K T ρ I (.bl b) v from h)
  | int b => exact rep_fv f (show Rep K T ρ I (.int b) v from h)
  | str b => exact rep_fv f (show Rep K T ρ I (.str b) v from h)
  | _ => cases f
def coO : Co → CmpOp
  | .eq => .Eq
  | .ne => .NotEq
  | .lt => .Lt
  | .le => .LtE
  | .gt => .Gt
  | .ge => .GtE
  | .is => .Is
  | .isnot => .IsNot
  | .inn => .In
  | .notin => .NotIn
theorem in_seq {K : PySem.W.Frag} {ρ : List Addr} {I H : Hp} {S : Sto} {Q : VK} {c : D} {ds : List D} {b neg : Bool} {x y : V} (sr : SR K T I ρ S H) (h1 : RepT K T ρ I H c x) (h2 : RepT K T ρ I H (.lst ds) y ∨ RepT K T ρ I H (.tup ds) y)
    (e : inD c ds = some b) (q : Q (.bl (if neg then !b else b)) H) : rIn K neg x y H Q := by
  unfold inD at e
  split at e
  · rename_i f
    cases e
    obtain ⟨e1, f1⟩ := rept_fv f.1 h1
    rcases h2 with h2 | h2
    · obtain ⟨a, xs, rfl, ha, hx⟩ := h2
      obtain ⟨e2, f2⟩ := repl_fv f.2 hx
      refine ⟨a, xs, rfl, .inl ha.sq, f1, f2, ?_⟩
      rw [e1, e2, any_feq f.1 f.2]
      exact q
    · obtain ⟨a, xs, rfl, ha, hx⟩ := h2
      obtain ⟨e2, f2⟩ := repl_fv f.2 hx
      refine ⟨a, xs, rfl, .inr (SqT.up sr.sub ha), f1, f2, ?_⟩
      rw [e1, e2, any_feq f.1 f.2]
      exact q
  · cases e
theorem eq_dat {K : PySem.W.Frag} {ρ : List Addr} {I H : Hp} {S : Sto} {d1 d2 : D} {x y : V} {b : Bool} (sr : SR K T I ρ S H) (h1 : RepT K T ρ I H d1 x) (h2 : RepT K T ρ I H d2 y) (e : eqG d1 d2 = some b) :
    ∃ p q, Dp K H x p ∧ Dp K H y q ∧ SeqAt.shaped p = true ∧ SeqAt.shaped q = true ∧ b = PyData.eqv p q := by
  unfold eqG at e
  split at e
  · rename_i p q e1 e2
    split at e
    · rename_i sh
      cases e
      exact ⟨p, q, top_dp sr h1 e1 (SeqAt.canLay_of_shaped sh.1), top_dp sr h2 e2 (SeqAt.canLay_of_shaped sh.2), sh.1, sh.2, rfl⟩
    · cases e
  · cases e
theorem eqD_cases {d1 d2 : D} {b : Bool} (e : eqD d1 d2 = some b) : (∃ x y, d1 = .str x ∧ d2 = .str y ∧ b = decide (x = y)) ∨ eqG d1 d2 = some b := by
  unfold eqD at e
  split at e
  · cases e
    exact .inl ⟨_, _, rfl, rfl, rfl⟩
  · exact .inr e
theorem dec_strV {x y : PySem.Str} : decide (V.str x = V.str y) = decide (x = y) := by
  rw [Bool.eq_iff_iff]
  simp
theorem isNon_of {K : PySem.W.Frag} {ρ : List Addr} {I H : Hp} {d : D} {v : V} (h : RepT K T ρ I H d v) : decide (v = .non) = isNon d := by
  have no : ∀ {a : Addr}, decide (V.ref a = V.non) = false := fun {a} => decide_eq_false fun z => by cases z
  cases d with
  | non => cases h; rfl
  | bl b => cases h; exact decide_eq_false fun z => by cases z
  | int b => cases h; exact decide_eq_false fun z => by cases z
  | str b => cases h; exact decide_eq_false fun z => by cases z
  | lst ds => obtain ⟨a, xs, rfl, _⟩ := h; exact no
  | tup ds => obtain ⟨a, xs, rfl, _⟩ := h; exact no
  | dct ds => obtain ⟨a, xs, rfl, _⟩ := h; exact no
  | obj c fs => obtain ⟨a, xs, gs, rfl, _⟩ := h; exact no
  | exc c fs => obtain ⟨a, xs, gs, rfl, _⟩ := h; exact no
  | fn g => cases h; exact no
  | cl g => cases h; exact no
  | ref i => obtain ⟨a, _, rfl⟩ := h; exact no
theorem op_cmpM (hu : X.A.units + 64 < cLine) (o : Co) : OpR X (compareOp (coO o)) (Vr2 X.K T fun a b => (cmpD o a b).map .bl) := by
  intro pins s σ H x y v u Q J rx ry h
  obtain ⟨I, ρ, S, d1, d2, d, sr, h1, h2, e0, k⟩ := h
  obtain ⟨b, e, rfl⟩ := Option.map_eq_some_iff.mp e0
  clear e0
  have k1 : Q (.bl b) H := k.same sr rfl
  cases o with
  | eq =>
    rcases eqD_cases (show eqD d1 d2 = some b from e) with ⟨z1, z2, rfl, rfl, rfl⟩ | e
    · cases h1; cases h2
      rw [← dec_strV] at k1
      exact op_eq pins s σ H _ _ v u Q J rx ry ⟨rfl, k1⟩
    obtain ⟨p, q, hp, hq, s1, s2, rfl⟩ := eq_dat sr h1 h2 (b := b) e
    exact op_eqD hu pins s σ H x y v u Q J rx ry ⟨p, q, hp, hq, s1, s2, k1⟩
  | ne =>
    have e1 : (eqD d1 d2).map not = some b := e
    obtain ⟨c, e2, rfl⟩ := Option.map_eq_some_iff.mp e1
    rcases eqD_cases e2 with ⟨z1, z2, rfl, rfl, rfl⟩ | e2
    · cases h1; cases h2
      rw [← dec_strV] at k1
      exact op_ne pins s σ H _ _ v u Q J rx ry ⟨rfl, k1⟩
    obtain ⟨p, q, hp, hq, s1, s2, rfl⟩ := eq_dat sr h1 h2 e2
    exact op_neD hu pins s σ H x y v u Q J rx ry ⟨p, q, hp, hq, s1, s2, k1⟩
  | lt =>
    unfold cmpD at e
    split at e <;> first
      | (rename_i q; cases q; done)
      | cases e
    all_goals (cases h1; cases h2)
    exact op_lt pins s σ H _ _ v u Q J rx ry ⟨_, _, rfl, rfl, k1⟩
  | le =>
    unfold cmpD at e
    split at e <;> first
      | (rename_i q; cases q; done)
      | cases e
    all_goals (cases h1; cases h2)
    exact op_le pins s σ H _ _ v u Q J rx ry ⟨_, _, rfl, rfl, k1⟩
  | gt =>
    unfold cmpD at e
    split at e <;> first
      | (rename_i q; cases q; done)
      | cases e
    all_goals (cases h1; cases h2)
    exact op_gt pins s σ H _ _ v u Q J rx ry ⟨_, _, rfl, rfl, k1⟩
  | ge =>
    unfold cmpD at e
    split at e <;> first
      | (rename_i q; cases q; done)
      | cases e
    all_goals (cases h1; cases h2)
    exact op_ge pins s σ H _ _ v u Q J rx ry ⟨_, _, rfl, rfl, k1⟩
  | is =>
    unfold cmpD at e
    split at e <;> first
      | (rename_i q; cases q; done)
      | cases e
    all_goals (cases h2)
    refine op_isN pins s σ H _ _ v u Q J rx ry ⟨rfl, ?_⟩
    rw [isNon_of h1]
    exact k1
  | isnot =>
    unfold cmpD at e
    split at e <;> first
      | (rename_i q; cases q; done)
      | cases e
    all_goals (cases h2)
    refine op_notN pins s σ H _ _ v u Q J rx ry ⟨rfl, ?_⟩
    rw [isNon_of h1]
    exact k1
  | inn =>
    unfold cmpD at e
    split at e <;> first
      | (rename_i q; cases q; done)
      | skip
    · exact op_in_seq pins s σ H _ _ v u Q J rx ry (in_seq (neg := false) sr h1 (.inl h2) e k1)
    · exact op_in_seq pins s σ H _ _ v u Q J rx ry (in_seq (neg := false) sr h1 (.inr h2) e k1)
    · cases e
  | notin =>
    unfold cmpD at e
    split at e <;> first
      | (rename_i q; cases q; done)
      | skip
    · obtain ⟨c, e2, rfl⟩ := Option.map_eq_some_iff.mp e
      exact op_notIn_seq pins s σ H _ _ v u Q J rx ry (in_seq (neg := true) sr h1 (.inl h2) e2 k1)
    · obtain ⟨c, e2, rfl⟩ := Option.map_eq_some_iff.mp e
      exact op_notIn_seq pins s σ H _ _ v u Q J rx ry (in_seq (neg := true) sr h1 (.inr h2) e2 k1)
    · cases e
end
end Mi
/-! Mi, 4: what an expression's value is: the judgements, names, constants, operators, displays. -/
namespace Mi
open PySem PySem.Spec PyProof.Rows L2

structure ER (K : PySem.W.Frag) (T : Tb) (ρ : List Addr) (I : Hp) (σ : L2.St) (Γ : Gam) : Prop where
  len : Γ.length = σ.length
  at_ : ∀ (i : Nat) d, Γ[i]? = some (some d) → ∃ v, σ[i]? = some (some v) ∧ Rep K T ρ I d v
/-- an expression whose value is f's; a list of them; a test -/
def tM (K : PySem.W.Frag) (T : Tb) (f : Gam → M D) : TE := fun σ H Q => ∃ I ρ S Γ d S', SR K T I ρ S H ∧ ER K T ρ I σ Γ ∧ f Γ S = some (d, S') ∧ PostV K T I ρ S H S' d Q
def PostL (K : PySem.W.Frag) (T : Tb) (I : Hp) (ρ : List Addr) (S : Sto) (H : Hp) (S' : Sto) (ds : List D) (Q : List V → Hp → Prop) : Prop :=
  ∀ vs I' ρ' H', SR K T I' ρ' S' H' → Stp I ρ S H I' ρ' S' H' → RepL K T ρ' I' ds vs → Q vs H'
def tMs (K : PySem.W.Frag) (T : Tb) (f : Gam → M (List D)) : TA := fun σ H Q => ∃ I ρ S Γ ds S', SR K T I ρ S H ∧ ER K T ρ I σ Γ ∧ f Γ S = some (ds, S') ∧ PostL K T I ρ S H S' ds Q
def PostB (K : PySem.W.Frag) (T : Tb) (I : Hp) (ρ : List Addr) (S : Sto) (H : Hp) (S' : Sto) (b : Bool) (Q : Bool → Hp → Prop) : Prop :=
  ∀ I' ρ' H', SR K T I' ρ' S' H' → Stp I ρ S H I' ρ' S' H' → Q b H'
/-- the truth of what f gives -/
def tru (f : Gam → M D) : Gam → M Bool := fun Γ => M.bnd (f Γ) fun d => fun S => M.opt (truD (d.rsv S)) S
def tMT (K : PySem.W.Frag) (T : Tb) (f : Gam → M Bool) : TT := fun σ H Q => ∃ I ρ S Γ b S', SR K T I ρ S H ∧ ER K T ρ I σ Γ ∧ f Γ S = some (b, S') ∧ PostB K T I ρ S H S' b Q

section
variable {K : PySem.W.Frag} {T : Tb} {ρ ρ1 ρ' : List Addr} {I I1 I' : Hp} {S S1 S' : Sto} {H H1 H' : Hp} {σ : L2.St} {Γ : Gam}
theorem ER.up (h : ER K T ρ I σ Γ) (p : Stp I ρ S H I1 ρ1 S1 H1) : ER K T ρ1 I1 σ Γ := ⟨h.len, fun i d e =>
  let ⟨v, e1, r⟩ := h.at_ i d e
  ⟨v, e1, Rep.up p.same p.pre d v r⟩⟩
theorem Rep.stp {d : D} {v : V} (h : Rep K T ρ I d v) (p : Stp I ρ S H I1 ρ1 S1 H1) : Rep K T ρ1 I1 d v := Rep.up p.same p.pre d v h
theorem RepL.stp {ds : List D} {vs : List V} (h : RepL K T ρ I ds vs) (p : Stp I ρ S H I1 ρ1 S1 H1) : RepL K T ρ1 I1 ds vs := RepL.up p.same p.pre ds vs h
theorem bnd_some {α β : Type} {m : M α} {f : α → M β} {S : Sto} {b : β} {S' : Sto} (h : M.bnd m f S = some (b, S')) : ∃ a S1, m S = some (a, S1) ∧ f a S1 = some (b, S') := by
  unfold M.bnd at h
  cases e : m S with
  | none => rw [e] at h; cases h
  | some p =>
    obtain ⟨a, S1⟩ := p
    rw [e] at h
    exact ⟨a, S1, rfl, h⟩
theorem opt_some {α : Type} {o : Option α} {S : Sto} {b : α} {S' : Sto} (h : M.opt o S = some (b, S')) : o = some b ∧ S' = S := by
  unfold M.opt at h
  cases o with
  | none => cases h
  | some a => cases h; exact ⟨rfl, rfl⟩
theorem PostV.after {Q : VK} {d : D} {S2 : Sto} (k : PostV K T I ρ S H S2 d Q) (p : Stp I ρ S H I1 ρ1 S1 H1) : PostV K T I1 ρ1 S1 H1 S2 d Q := fun v I' ρ' H' r q h => k v I' ρ' H' r (p.trans q) h
theorem PostL.after {Q : List V → Hp → Prop} {d : List D} {S2 : Sto} (k : PostL K T I ρ S H S2 d Q) (p : Stp I ρ S H I1 ρ1 S1 H1) : PostL K T I1 ρ1 S1 H1 S2 d Q := fun v I' ρ' H' r q h => k v I' ρ' H' r (p.trans q) h
theorem PostB.after {Q : Bool → Hp → Prop} {b : Bool} {S2 : Sto} (k : PostB K T I ρ S H S2 b Q) (p : Stp I ρ S H I1 ρ1 S1 H1) : PostB K T I1 ρ1 S1 H1 S2 b Q := fun I' ρ' H' r q => k I' ρ' H' r (p.trans q)
/-- how a reading is used: its value at hand, go on -/
theorem tM.use {f : Gam → M D} {R : VK} {d : D} (r : SR K T I ρ S H) (er : ER K T ρ I σ Γ) (e : f Γ S = some (d, S1))
    (h : ∀ v I1 ρ1 H1, SR K T I1 ρ1 S1 H1 → ER K T ρ1 I1 σ Γ → Stp I ρ S H I1 ρ1 S1 H1 → Rep K T ρ1 I1 d v → R v H1) : tM K T f σ H R :=
  ⟨I, ρ, S, Γ, d, S1, r, er, e, fun v I' ρ' H' r' p q => h v I' ρ' H' r' (er.up p) p q⟩
theorem tMs.use {f : Gam → M (List D)} {R : List V → Hp → Prop} {ds : List D} (r : SR K T I ρ S H) (er : ER K T ρ I σ Γ) (e : f Γ S = some (ds, S1))
    (h : ∀ vs I1 ρ1 H1, SR K T I1 ρ1 S1 H1 → ER K T ρ1 I1 σ Γ → Stp I ρ S H I1 ρ1 S1 H1 → RepL K T ρ1 I1 ds vs → R vs H1) : tMs K T f σ H R :=
  ⟨I, ρ, S, Γ, ds, S1, r, er, e, fun v I' ρ' H' r' p q => h v I' ρ' H' r' (er.up p) p q⟩
theorem tMT.use {f : Gam → M Bool} {R : Bool → Hp → Prop} {b : Bool} (r : SR K T I ρ S H) (er : ER K T ρ I σ Γ) (e : f Γ S = some (b, S1))
    (h : ∀ I1 ρ1 H1, SR K T I1 ρ1 S1 H1 → ER K T ρ1 I1 σ Γ → Stp I ρ S H I1 ρ1 S1 H1 → R b H1) : tMT K T f σ H R :=
  ⟨I, ρ, S, Γ, b, S1, r, er, e, fun I' ρ' H' r' p => h I' ρ' H' r' (er.up p) p⟩
end
/-- the readings of a rule follow from those of the value -/
theorem PE.of {X : Cx} {e : Expr} {t t' : TE} (h : PE X e t) (k : ∀ σ H Q, t' σ H Q → t σ H Q) : PE X e t' := ⟨fun pins s σ H Q J q => h.run pins s σ H Q J (k σ H Q q)⟩
theorem PT.of {X : Cx} {e : Expr} {t t' : TT} (h : PT X e t) (k : ∀ σ H Q, t' σ H Q → t σ H Q) : PT X e t' := ⟨fun pins s σ H Q J q => h.run pins s σ H Q J (k σ H Q q)⟩
theorem PA.of {X : Cx} {es : List Expr} {t t' : TA} (h : PA X es t) (k : ∀ σ H Q, t' σ H Q → t σ H Q) : PA X es t' := ⟨fun pos pins s σ H Q J q => h.run pos pins s σ H Q J (k σ H Q q)⟩

section
variable {X : Cx} {T : Tb} {pos : Pos} {a b c : Expr} {fa fb fc : Gam → M D}
theorem m_var {i : Nat} {x : PySem.Str} (hN : X.N[i]? = some x) (hv : Vis X.env.scope x) (hd : (x == ("__debug__" : PySem.Str)) = false) (hcd : (x == ("__classdict__" : PySem.Str)) = false) :
    PE X (.Name x pos) (tM X.K T fun Γ => M.opt (Γ[i]?).join) := by
  refine PE.of (pe_var hN hv hd hcd) fun σ H Q h => ?_
  obtain ⟨I, ρ, S, Γ, d, S', sr, er, e, k⟩ := h
  obtain ⟨eo, rfl⟩ := opt_some e
  clear e
  have e1 : Γ[i]? = some (some d) := by
    cases q : Γ[i]? with
    | none => rw [q] at eo; cases eo
    | some o => rw [q] at eo; exact congrArg some eo
  obtain ⟨v, e2, r⟩ := er.at_ i d e1
  exact ⟨v, e2, k.same sr r⟩
theorem m_const {u : V} {d : D} (h : PE X a (tC u)) (r : ∀ ρ I, Rep X.K T ρ I d u) : PE X a (tM X.K T fun _ => M.ret d) := by
  refine PE.of h fun σ H Q h => ?_
  obtain ⟨I, ρ, S, Γ, d', S', sr, er, e, k⟩ := h
  cases e
  exact k.same sr (r ρ I)
theorem m_optc {u : V} {o : Option D} (h : ∀ d, o = some d → PE X a (tC u) ∧ ∀ ρ I, Rep X.K T ρ I d u) : PE X a (tM X.K T fun _ => M.opt o) := by
  cases o with
  | none =>
    refine ⟨fun pins s σ H Q J q => ?_⟩
    obtain ⟨I, ρ, S, Γ, d', S', sr, er, e, k⟩ := q
    cases e
  | some d => exact m_const (h d rfl).1 (h d rfl).2
theorem m_bin (o : Bo) (ha : PE X a (tM X.K T fa)) (hb : PE X b (tM X.K T fb)) : PE X (.BinOp a (boO o) b pos) (tM X.K T fun Γ => M.bnd (fa Γ) fun x => M.bnd (fb Γ) fun y => fun S => M.opt (binD o (x.rsv S) (y.rsv S)) S) := by
  refine PE.of (pe_op (op_binM (T := T) o) ha hb) fun σ H Q h => ?_
  obtain ⟨I, ρ, S, Γ, d, S', sr, er, e, k⟩ := h
  obtain ⟨d1, S1, e1, e⟩ := bnd_some e
  obtain ⟨d2, S2, e2, e⟩ := bnd_some e
  obtain ⟨eo, rfl⟩ := opt_some e
  clear e
  refine tM.use sr er e1 fun v1 I1 ρ1 H1 sr1 er1 p1 r1 => tM.use sr1 er1 e2 fun v2 I2 ρ2 H2 sr2 er2 p2 r2 => ?_
  exact ⟨I2, ρ2, _, _, _, _, sr2, sr2.top (r1.stp p2), sr2.top r2, eo, (k.after p1).after p2⟩
theorem m_cmp (hu : X.A.units + 64 < cLine) (o : Co) (ha : PE X a (tM X.K T fa)) (hb : PE X b (tM X.K T fb)) (hm : behindInMarks (coO o) b = false) :
    PE X (.Compare a [coO o] [b] pos) (tM X.K T fun Γ => M.bnd (fa Γ) fun x => M.bnd (fb Γ) fun y => fun S => M.opt ((cmpD o (x.rsv S) (y.rsv S)).map .bl) S) := by
  refine PE.of (pe_cmpR (op_cmpM (T := T) hu o) ha hb hm) fun σ H Q h => ?_
  obtain ⟨I, ρ, S, Γ, d, S', sr, er, e, k⟩ := h
  obtain ⟨d1, S1, e1, e⟩ := bnd_some e
  obtain ⟨d2, S2, e2, e⟩ := bnd_some e
  obtain ⟨eo, rfl⟩ := opt_some e
  clear e
  refine tM.use sr er e1 fun v1 I1 ρ1 H1 sr1 er1 p1 r1 => tM.use sr1 er1 e2 fun v2 I2 ρ2 H2 sr2 er2 p2 r2 => ?_
  exact ⟨I2, ρ2, _, _, _, _, sr2, sr2.top (r1.stp p2), sr2.top r2, eo, (k.after p1).after p2⟩
theorem mt_cmp (hu : X.A.units + 64 < cLine) (o : Co) (ha : PE X a (tM X.K T fa)) (hb : PE X b (tM X.K T fb)) (hm : behindInMarks (coO o) b = false) :
    PT X (.Compare a [coO o] [b] pos) (tMT X.K T (tru fun Γ => M.bnd (fa Γ) fun x => M.bnd (fb Γ) fun y => fun S => M.opt ((cmpD o (x.rsv S) (y.rsv S)).map .bl) S)) := by
  refine PT.of (pt_cmpR (op_cmpM (T := T) hu o) ha hb hm) fun σ H Q h => ?_
  obtain ⟨I, ρ, S, Γ, b, S', sr, er, e, k⟩ := h
  obtain ⟨d, S3, e, e3⟩ := bnd_some e
  obtain ⟨d1, S1, e1, e⟩ := bnd_some e
  obtain ⟨d2, S2, e2, e⟩ := bnd_some e
  obtain ⟨eo, rfl⟩ := opt_some e
  clear e
  obtain ⟨et, rfl⟩ := opt_some e3
  clear e3
  obtain ⟨c, ec, rfl⟩ := Option.map_eq_some_iff.mp eo
  clear eo
  refine tM.use sr er e1 fun v1 I1 ρ1 H1 sr1 er1 p1 r1 => tM.use sr1 er1 e2 fun v2 I2 ρ2 H2 sr2 er2 p2 r2 => ?_
  refine ⟨I2, ρ2, _, _, _, _, sr2, sr2.top (r1.stp p2), sr2.top r2, show Option.map D.bl _ = _ from congrArg (Option.map D.bl) ec, fun v I' ρ' H' r' p' q => ?_⟩
  cases q
  cases et
  exact ⟨_, rfl, k I' ρ' H' r' ((p1.trans p2).trans p')⟩

/-! ### truth -/
theorem isE {α β : Type} {as : List α} {bs : List β} (h : as.length = bs.length) : (!as.isEmpty) = !bs.isEmpty := by
  cases as <;> cases bs <;> first
    | rfl
    | (simp at h)
theorem tru_of {K : PySem.W.Frag} {ρ : List Addr} {I H : Hp} {S : Sto} {d : D} {v : V} {b : Bool} (sr : SR K T I ρ S H) (h : RepT K T ρ I H d v) (e : truD d = some b) : TruV K v H b := by
  unfold truD at e
  split at e <;> first
    | (cases e; done)
    | skip
  · cases e; cases h; rfl
  · cases e; cases h; rfl
  · cases e; cases h; rfl
  · cases e
    obtain ⟨a, xs, rfl, h1, h2⟩ := h
    refine .inl ⟨xs, h1.sq, ?_⟩
    exact isE h2.length
  · cases e
    obtain ⟨a, xs, rfl, h1, h2⟩ := h
    refine .inr (.inl ⟨xs, SqT.up sr.sub h1, ?_⟩)
    exact isE h2.length
theorem mt_any (ha : PE X a (tM X.K T fa)) (he : ∀ whole, isTrue a X.env whole = (do let v ← whole; standAt a.pos; holding [v] (truthy v))) : PT X a (tMT X.K T (tru fa)) := by
  refine PT.of (pt_truth ha he) fun σ H Q h => ?_
  obtain ⟨I, ρ, S, Γ, b, S', sr, er, e, k⟩ := h
  obtain ⟨d, S3, e, e3⟩ := bnd_some e
  obtain ⟨et, rfl⟩ := opt_some e3
  clear e3
  refine tM.use sr er e fun v I1 ρ1 H1 sr1 er1 p1 r1 => ⟨b, tru_of sr1 (sr1.top r1) et, k _ _ _ sr1 p1⟩
def andM (fa fb : Gam → M D) : Gam → M D := fun Γ => M.bnd (fa Γ) fun x => fun S => match truD (x.rsv S) with
    | some true => fb Γ S
    | some false => some (x, S)
    | none => none
def orM (fa fb : Gam → M D) : Gam → M D := fun Γ => M.bnd (fa Γ) fun x => fun S => match truD (x.rsv S) with
    | some true => some (x, S)
    | some false => fb Γ S
    | none => none
def ifM (ft fa fb : Gam → M D) : Gam → M D := fun Γ => M.bnd (ft Γ) fun x => fun S => match truD (x.rsv S) with
    | some true => fa Γ S
    | some false => fb Γ S
    | none => none
def notM (fa : Gam → M D) : Gam → M D := fun Γ => M.bnd (fa Γ) fun x => fun S => M.opt ((truD (x.rsv S)).map fun b => .bl (!b)) S
theorem m_and {rest : List Expr} (ha : PE X a (tM X.K T fa)) (hb : PE X (.BoolOp .And (b :: rest) pos) (tM X.K T fb)) : PE X (.BoolOp .And (a :: b :: rest) pos) (tM X.K T (andM fa fb)) := by
  refine PE.of (pe_andT ha hb) fun σ H Q h => ?_
  obtain ⟨I, ρ, S, Γ, d, S', sr, er, e, k⟩ := h
  obtain ⟨d1, S1, e1, e⟩ := bnd_some e
  refine tM.use sr er e1 fun v1 I1 ρ1 H1 sr1 er1 p1 r1 => ?_
  split at e
  · rename_i q
    exact ⟨true, tru_of sr1 (sr1.top r1) q, iteT ⟨I1, ρ1, S1, Γ, d, S', sr1, er1, e, k.after p1⟩⟩
  · rename_i q
    cases e
    exact ⟨false, tru_of sr1 (sr1.top r1) q, iteF (k _ _ _ _ sr1 p1 r1)⟩
  · cases e
theorem m_or {rest : List Expr} (ha : PE X a (tM X.K T fa)) (hb : PE X (.BoolOp .Or (b :: rest) pos) (tM X.K T fb)) : PE X (.BoolOp .Or (a :: b :: rest) pos) (tM X.K T (orM fa fb)) := by
  refine PE.of (pe_orT ha hb) fun σ H Q h => ?_
  obtain ⟨I, ρ, S, Γ, d, S', sr, er, e, k⟩ := h
  obtain ⟨d1, S1, e1, e⟩ := bnd_some e
  refine tM.use sr er e1 fun v1 I1 ρ1 H1 sr1 er1 p1 r1 => ?_
  split at e
  · rename_i q
    cases e
    exact ⟨true, tru_of sr1 (sr1.top r1) q, iteT (k _ _ _ _ sr1 p1 r1)⟩
  · rename_i q
    exact ⟨false, tru_of sr1 (sr1.top r1) q, iteF ⟨I1, ρ1, S1, Γ, d, S', sr1, er1, e, k.after p1⟩⟩
  · cases e
theorem m_not (ha : PE X a (tM X.K T fa)) : PE X (.UnaryOp .Not a pos) (tM X.K T (notM fa)) := by
  refine PE.of (pe_notT ha) fun σ H Q h => ?_
  obtain ⟨I, ρ, S, Γ, d, S', sr, er, e, k⟩ := h
  obtain ⟨d1, S1, e1, e⟩ := bnd_some e
  obtain ⟨eo, rfl⟩ := opt_some e
  clear e
  obtain ⟨b, ec, rfl⟩ := Option.map_eq_some_iff.mp eo
  clear eo
  exact tM.use sr er e1 fun v1 I1 ρ1 H1 sr1 er1 p1 r1 => ⟨b, tru_of sr1 (sr1.top r1) ec, k _ _ _ _ sr1 p1 rfl⟩
theorem tru_eq {f : Gam → M D} {Γ : Gam} {S S1 : Sto} {d : D} {b : Bool} (e : f Γ S = some (d, S1)) (q : truD (d.rsv S1) = some b) : tru f Γ S = some (b, S1) := by
  unfold tru M.bnd
  rw [e]
  show M.opt _ _ = _
  rw [q]
  rfl
theorem mt_not (ha : PT X a (tMT X.K T (tru fa))) : PT X (.UnaryOp .Not a pos) (tMT X.K T (tru (notM fa))) := by
  refine PT.of (pt_not ha) fun σ H Q h => ?_
  obtain ⟨I, ρ, S, Γ, b, S', sr, er, e, k⟩ := h
  obtain ⟨d, S3, e0, e3⟩ := bnd_some e
  obtain ⟨d1, S1, e1, e2⟩ := bnd_some e0
  obtain ⟨eo, z⟩ := opt_some e2
  subst z
  obtain ⟨c, ec, z⟩ := Option.map_eq_some_iff.mp eo
  subst z
  obtain ⟨et, z⟩ := opt_some e3
  subst z
  cases et
  exact tMT.use sr er (tru_eq e1 ec) fun I1 ρ1 H1 sr1 er1 p1 => k _ _ _ sr1 p1
theorem mt_and {rest : List Expr} (ha : PT X a (tMT X.K T (tru fa))) (hb : PW X (.BoolOp .And (b :: rest) pos) (tMT X.K T (tru fb))) : PW X (.BoolOp .And (a :: b :: rest) pos) (tMT X.K T (tru (andM fa fb))) := by
  have h := pw_and ha hb
  refine ⟨fun wh pins s σ H Q J q => h.run wh pins s σ H Q J ?_⟩
  obtain ⟨I, ρ, S, Γ, b', S', sr, er, e, k⟩ := q
  obtain ⟨d, S3, e, e3⟩ := bnd_some e
  obtain ⟨d1, S1, e1, e⟩ := bnd_some e
  obtain ⟨et, rfl⟩ := opt_some e3
  clear e3
  split at e
  · rename_i q
    exact tMT.use sr er (tru_eq e1 q) fun I1 ρ1 H1 sr1 er1 p1 => iteT ⟨I1, ρ1, S1, Γ, b', S', sr1, er1, tru_eq e et, k.after p1⟩
  · rename_i q
    cases e
    rw [q] at et
    cases et
    exact tMT.use sr er (tru_eq e1 q) fun I1 ρ1 H1 sr1 er1 p1 => iteF (k _ _ _ sr1 p1)
  · cases e
theorem mt_or {rest : List Expr} (ha : PT X a (tMT X.K T (tru fa))) (hb : PW X (.BoolOp .Or (b :: rest) pos) (tMT X.K T (tru fb))) : PW X (.BoolOp .Or (a :: b :: rest) pos) (tMT X.K T (tru (orM fa fb))) := by
  have h := pw_or ha hb
  refine ⟨fun wh pins s σ H Q J q => h.run wh pins s σ H Q J ?_⟩
  obtain ⟨I, ρ, S, Γ, b', S', sr, er, e, k⟩ := q
  obtain ⟨d, S3, e, e3⟩ := bnd_some e
  obtain ⟨d1, S1, e1, e⟩ := bnd_some e
  obtain ⟨et, rfl⟩ := opt_some e3
  clear e3
  split at e
  · rename_i q
    cases e
    rw [q] at et
    cases et
    exact tMT.use sr er (tru_eq e1 q) fun I1 ρ1 H1 sr1 er1 p1 => iteT (k _ _ _ sr1 p1)
  · rename_i q
    exact tMT.use sr er (tru_eq e1 q) fun I1 ρ1 H1 sr1 er1 p1 => iteF ⟨I1, ρ1, S1, Γ, b', S', sr1, er1, tru_eq e et, k.after p1⟩
  · cases e
theorem m_ife (ht : PT X c (tMT X.K T (tru fc))) (ha : PE X a (tM X.K T fa)) (hb : PE X b (tM X.K T fb)) : PE X (.IfExp c a b pos) (tM X.K T (ifM fc fa fb)) := by
  refine PE.of (pe_ifExp ht ha hb) fun σ H Q h => ?_
  obtain ⟨I, ρ, S, Γ, d, S', sr, er, e, k⟩ := h
  obtain ⟨d1, S1, e1, e⟩ := bnd_some e
  split at e
  · rename_i q
    exact tMT.use sr er (tru_eq e1 q) fun I1 ρ1 H1 sr1 er1 p1 => iteT ⟨I1, ρ1, S1, Γ, d, S', sr1, er1, e, k.after p1⟩
  · rename_i q
    exact tMT.use sr er (tru_eq e1 q) fun I1 ρ1 H1 sr1 er1 p1 => iteF ⟨I1, ρ1, S1, Γ, d, S', sr1, er1, e, k.after p1⟩
  · cases e

/-! ### lists of expressions, displays -/
variable {es : List Expr} {fs : Gam → M (List D)}
theorem m_nil : PA X [] (tMs X.K T fun _ => M.ret []) := by
  refine PA.of pa_nil fun σ H Q h => ?_
  obtain ⟨I, ρ, S, Γ, d, S', sr, er, e, k⟩ := h
  cases e
  exact k [] I ρ H sr Stp.refl rfl
theorem m_cons (ha : PE X a (tM X.K T fa)) (hr : PA X es (tMs X.K T fs)) (hs : starEach (a :: es) X.env = (false, eval a X.env) :: starEach es X.env) :
    PA X (a :: es) (tMs X.K T fun Γ => M.bnd (fa Γ) fun d => M.bnd (fs Γ) fun ds => M.ret (d :: ds)) := by
  refine PA.of (pa_cons ha hr hs) fun σ H Q h => ?_
  obtain ⟨I, ρ, S, Γ, ds, S', sr, er, e, k⟩ := h
  obtain ⟨d1, S1, e1, e⟩ := bnd_some e
  obtain ⟨d2, S2, e2, e⟩ := bnd_some e
  cases e
  exact tM.use sr er e1 fun v1 I1 ρ1 H1 sr1 er1 p1 r1 => tMs.use sr1 er1 e2 fun v2 I2 ρ2 H2 sr2 er2 p2 r2 => k _ _ _ _ sr2 (p1.trans p2) (.cons (r1.stp p2) r2)
end
end Mi
/-! Mi, 5: displays, items, built-in calls, calls. -/
namespace Mi
open PySem PySem.Spec PyProof.Rows L2

section
variable {X : Cx} {T : Tb} {pos : Pos} {a b c : Expr} {fa fb fc : Gam → M D} {es : List Expr} {fs : Gam → M (List D)}
/-- a short list of values -/
def Short (fs : Gam → M (List D)) : Prop := ∀ Γ S ds S', fs Γ S = some (ds, S') → ds.length ≤ 1000
theorem short_line {n : Nat} (h : n ≤ 1000) : n ≤ sizeLine := by rw [sizeLine_eq]; omega
/-- a list just laid, as a value or as a box -/
theorem box_post {K : PySem.W.Frag} {ρ1 : List Addr} {I1 : Hp} {S1 S' : Sto} {H1 : Hp} {bx : Bool} {ds : List D} {d : D} {vs : List V} {p : Addr} {Q : VK} (sr : SR K T I1 ρ1 S1 H1) (hp : H1 p = none) (r : RepL K T ρ1 I1 ds vs) (e : boxL bx ds S1 = some (d, S')) (k : PostV K T I1 ρ1 S1 H1 S' d Q) : Q (.ref p) (upd H1 p (.lst vs)) := by
  cases bx with
  | false =>
    cases e
    exact k.new sr hp (Rep.lnew sr hp r)
  | true =>
    cases e
    obtain ⟨sr2, p2⟩ := sr.newBox (o := .lst vs) (w := .lst ds) hp ⟨vs, rfl, r⟩
    refine k _ _ _ _ sr2 p2 ⟨p, ?_, rfl⟩
    rw [← sr.len, List.getElem?_append_right (Nat.le_refl _)]
    simp
theorem m_lst (bx : Bool) (h : PA X es (tMs X.K T fs)) (hl : Short fs) : PE X (.List es pos) (tM X.K T fun Γ => M.bnd (fs Γ) fun ds => boxL bx ds) := by
  refine PE.of (pe_lst h) fun σ H Q h => ?_
  obtain ⟨I, ρ, S, Γ, d, S', sr, er, e, k⟩ := h
  obtain ⟨ds, S1, e1, e2⟩ := bnd_some e
  refine tMs.use sr er e1 fun vs I1 ρ1 H1 sr1 er1 p1 r1 => ⟨by rw [← r1.length]; exact short_line (hl _ _ _ _ e1), fun p hp => ?_⟩
  exact box_post sr1 hp r1 e2 (k.after p1)
theorem m_tup {n : Nat} (h : PA X es (tMs X.K T fs)) (hl : Short fs) : PE X (.Tuple es n pos) (tM X.K T fun Γ => M.bnd (fs Γ) fun ds => M.ret (.tup ds)) := by
  refine PE.of (pe_tup h) fun σ H Q h => ?_
  obtain ⟨I, ρ, S, Γ, d, S', sr, er, e, k⟩ := h
  obtain ⟨ds, S1, e1, e2⟩ := bnd_some e
  cases e2
  refine tMs.use sr er e1 fun vs I1 ρ1 H1 sr1 er1 p1 r1 => ⟨by rw [← r1.length]; exact short_line (hl _ _ _ _ e1), fun p hp => ?_⟩
  exact (k.after p1).new sr1 hp (Rep.tnew sr1 hp r1)
theorem m_rep (bx : Bool) (h : PA X es (tMs X.K T fs)) (hl : Short fs) (hb : PE X b (tM X.K T fb)) {p2 : Pos} : PE X (.BinOp (.List es p2) .Mult b pos) (tM X.K T fun Γ => M.bnd (fs Γ) fun ds => M.bnd (fb Γ) fun y => match y with
    | .int j => if 0 ≤ j ∧ j ≤ 1000 ∧ ds.length ≤ 1000 then boxL bx (List.replicate j.toNat ds).flatten else M.no
    | _ => M.no) := by
  refine PE.of (pe_op op_rep (pe_lst h) hb) fun σ H Q h => ?_
  obtain ⟨I, ρ, S, Γ, d, S', sr, er, e, k⟩ := h
  obtain ⟨ds, S1, e1, e2⟩ := bnd_some e
  obtain ⟨y, S2, e3, e4⟩ := bnd_some e2
  split at e4
  · rename_i j
    split at e4
    · rename_i hc
      refine tMs.use sr er e1 fun vs I1 ρ1 H1 sr1 er1 p1 r1 => ⟨by rw [← r1.length]; exact short_line (hl _ _ _ _ e1), fun p hp => ?_⟩
      obtain ⟨sr2, p2⟩ := sr1.new (o := .lst vs) hp
      refine tM.use sr2 (er1.up p2) e3 fun v2 I3 ρ3 H3 sr3 er3 p3 r3 => ?_
      cases r3
      have hl1 : vs.length ≤ 1000 := by rw [← r1.length]; exact hc.2.2
      refine ⟨p, j, vs, rfl, rfl, (p3.frm p _ upd_same (sr2.noI (o := .lst vs) upd_same)).1, by omega, by omega, ?_, fun q hq => ?_⟩
      · have := Nat.mul_le_mul hl1 (show j.toNat ≤ 1000 by omega)
        have z := sizeLine_eq
        omega
      · exact box_post sr3 hq (((r1.stp p2).stp p3).rep _) e4 (k.after ((p1.trans p2).trans p3))
    · cases e4
  · cases e4

/-! ### items -/
theorem atI_of {ds : List D} {xs : List V} {i : Int} {d : D} {K : PySem.W.Frag} {ρ : List Addr} {I : Hp} (r : RepL K T ρ I ds xs) (e : atD ds i = some d) : ∃ v, atI xs i = some v ∧ Rep K T ρ I d v := by
  unfold atD L2.atI at e
  unfold L2.atI
  obtain ⟨j, h1, h2⟩ := Option.bind_eq_some_iff.mp e
  obtain ⟨v, e1, r1⟩ := r.get h2
  rw [r.length] at h1
  exact ⟨v, Option.bind_eq_some_iff.mpr ⟨j, h1, e1⟩, r1⟩
theorem ix_M : IxR X (Vr2 X.K T ixD) := by
  intro value slice pins s σ H x y v u Q J rx ry h hs
  obtain ⟨I, ρ, S, d1, d2, d, sr, h1, h2, e, k⟩ := h
  unfold ixD at e
  split at e
  · obtain ⟨a, xs, rfl, ha, hx⟩ := h1
    cases h2
    obtain ⟨w, e1, r1⟩ := atI_of hx e
    exact ix_list value slice pins s σ H _ _ v u Q J rx ry ⟨a, xs, _, w, rfl, rfl, ha.sq, e1, k.same sr r1⟩ hs
  · obtain ⟨a, xs, rfl, ha, hx⟩ := h1
    cases h2
    obtain ⟨w, e1, r1⟩ := atI_of hx e
    exact ix_tup value slice pins s σ H _ _ v u Q J rx ry ⟨a, xs, _, w, rfl, rfl, SqT.up sr.sub ha, e1, k.same sr r1⟩ hs
  · cases e
theorem m_ix (ha : PE X a (tM X.K T fa)) (hb : PE X b (tM X.K T fb)) (hs : PlainIx b) : PE X (.Subscript a b pos) (tM X.K T fun Γ => M.bnd (fa Γ) fun x => M.bnd (fb Γ) fun y => fun S => M.opt (ixD (x.rsv S) (y.rsv S)) S) := by
  refine PE.of (pe_ix (ix_M (T := T)) ha hb hs) fun σ H Q h => ?_
  obtain ⟨I, ρ, S, Γ, d, S', sr, er, e, k⟩ := h
  obtain ⟨d1, S1, e1, e2⟩ := bnd_some e
  obtain ⟨d2, S2, e3, e4⟩ := bnd_some e2
  obtain ⟨e5, z⟩ := opt_some e4
  subst z
  refine tM.use sr er e1 fun v1 I1 ρ1 H1 sr1 er1 p1 r1 => tM.use sr1 er1 e3 fun v2 I2 ρ2 H2 sr2 er2 p2 r2 => ?_
  exact ⟨I2, ρ2, _, _, _, _, sr2, sr2.top (r1.stp p2), sr2.top r2, e5, (k.after p1).after p2⟩

/-! ### dicts, written -/
def keyF : Cst → Key
  | .int i => .inl i
  | .str x => .inr x
  | _ => .inl 0
def evL : List (Gam → M D) → Gam → M (List D)
  | [], _ => M.ret []
  | f :: fs, Γ => M.bnd (f Γ) fun d => M.bnd (evL fs Γ) fun ds => M.ret (d :: ds)
def dspTr (K : PySem.W.Frag) (T : Tb) : List Cst → List (Gam → M D) → List (TE × TE)
  | k :: ks, f :: fs => (tC (kV (keyF k)), tM K T f) :: dspTr K T ks fs
  | _, _ => []
theorem pairs_M {K : PySem.W.Frag} : ∀ {ks : List Cst} {fl : List (Gam → M D)} {I : Hp} {ρ : List Addr} {S S1 : Sto} {Γ : Gam} {σ : L2.St} {H : Hp} {ds : List D} {Q : List (V × V) → Hp → Prop}, ks.length = fl.length → SR K T I ρ S H → ER K T ρ I σ Γ → evL fl Γ S = some (ds, S1) →
    (∀ vs I1 ρ1 H1, SR K T I1 ρ1 S1 H1 → Stp I ρ S H I1 ρ1 S1 H1 → RepL K T ρ1 I1 ds vs → Q ((ks.map fun k => kV (keyF k)).zip vs) H1) → tPairs (dspTr K T ks fl) σ H Q
  | [], [], I, ρ, S, S1, Γ, σ, H, ds, Q, _, sr, er, e, k => by
    cases e
    exact k [] I ρ H sr Stp.refl rfl
  | [], _ :: _, _, _, _, _, _, _, _, _, _, h, _, _, _, _ => by cases h
  | _ :: _, [], _, _, _, _, _, _, _, _, _, h, _, _, _, _ => by cases h
  | c :: ks, f :: fl, I, ρ, S, S1, Γ, σ, H, ds, Q, h, sr, er, e, k => by
    obtain ⟨d, S2, e1, e2⟩ := bnd_some e
    obtain ⟨ds', S3, e3, e4⟩ := bnd_some e2
    cases e4
    refine tM.use sr er e1 fun v1 I1 ρ1 H1 sr1 er1 p1 r1 => ?_
    refine pairs_M (Nat.succ.inj h) sr1 er1 e3 fun vs I2 ρ2 H2 sr2 p2 r2 => ?_
    exact k (v1 :: vs) I2 ρ2 H2 sr2 (p1.trans p2) (.cons (r1.stp p2) r2)
theorem keyF_inj {a b : Cst} (ha : keyC a = true) (hb : keyC b = true) (e : keyF a = keyF b) : sameC a b = true := by
  cases a <;> cases b <;> first
    | (cases ha; done)
    | (cases hb; done)
    | (cases e; done)
    | (cases e; exact decide_eq_true rfl)
theorem keysC_cons {k : Cst} {ks : List Cst} (h : keysC (k :: ks) = true) : keyC k = true ∧ (∀ j ∈ ks, sameC k j = false) ∧ keysC ks = true := by
  unfold keysC at h
  rw [Bool.and_eq_true, Bool.and_eq_true] at h
  refine ⟨h.1.1, fun j hj => ?_, h.2⟩
  have h2 := h.1.2
  rw [Bool.not_eq_true'] at h2
  exact Bool.eq_false_iff.mpr fun q => by
    have := List.any_eq_true.mpr ⟨j, hj, q⟩
    rw [h2] at this
    cases this
theorem keysC_all : ∀ {ks : List Cst}, keysC ks = true → ∀ k ∈ ks, keyC k = true
  | [], _, _, h => by cases h
  | c :: ks, q, k, h => by
    obtain ⟨q1, _, q3⟩ := keysC_cons q
    rcases List.mem_cons.mp h with rfl | h
    · exact q1
    · exact keysC_all q3 k h
theorem merge_new : ∀ {ks : List Cst} {vs : List V} {acc : List (Key × V)}, keysC ks = true → (∀ k ∈ ks, valV acc (keyF k) = none) → mergeK acc ((ks.map keyF).zip vs) = acc ++ (ks.map keyF).zip vs
  | [], vs, acc, _, _ => by
    show acc = acc ++ []
    rw [List.append_nil]
  | c :: ks, [], acc, _, _ => by
    show acc = acc ++ []
    rw [List.append_nil]
  | c :: ks, v :: vs, acc, q, h => by
    obtain ⟨q1, q2, q3⟩ := keysC_cons q
    show mergeK (putK acc (keyF c) v) ((ks.map keyF).zip vs) = acc ++ (keyF c, v) :: (ks.map keyF).zip vs
    rw [putK_new v (h c List.mem_cons_self), merge_new q3 fun k hk => ?_, List.append_assoc]
    · rfl
    · rw [← putK_new v (h c List.mem_cons_self), valV_put, if_neg ?_]
      · exact h k (List.mem_cons_of_mem _ hk)
      · intro e
        have := keyF_inj q1 (keysC_all q3 k hk) e.symm
        rw [q2 k hk] at this
        cases this
theorem repk_zip {K : PySem.W.Frag} {ρ : List Addr} {I : Hp} : ∀ {ks : List Cst} {ds : List D} {vs : List V}, (∀ k ∈ ks, keyC k = true) → RepL K T ρ I ds vs → ks.length = ds.length → RepK K T ρ I ((ks.map Cst.d).zip ds) ((ks.map keyF).zip vs)
  | [], [], _, _, r, _ => rfl
  | [], _ :: _, _, _, _, h => by cases h
  | _ :: _, [], _, _, _, h => by cases h
  | c :: ks, d :: ds, vs, hk, r, h => by
    obtain ⟨x, ys, rfl, r1, r2⟩ := r
    refine ⟨keyF c, x, (ks.map keyF).zip ys, rfl, ?_, r1, repk_zip (fun k z => hk k (List.mem_cons_of_mem _ z)) r2 (Nat.succ.inj h)⟩
    have := hk c List.mem_cons_self
    cases c <;> first
      | rfl
      | (cases this)
theorem SR.beside {K : PySem.W.Frag} {ρ : List Addr} {I : Hp} {S : Sto} {H : Hp} {p : Addr} {o : HO} (r : SR K T I ρ S H) (h : H p = none) : SR K T I ρ S (upd H p o) ∧ Stp I ρ S H I ρ S (upd H p o) ∧ I p = none ∧ ¬ Lv ρ S p := by
  obtain ⟨ip, np⟩ := r.free h
  refine ⟨⟨fun b u e => ?_, r.len, r.inj, fun i w a h1 h2 => ?_⟩, ⟨Same.refl _, List.prefix_refl _, fun a u e n => ⟨?_, n⟩, fun a u e i n => i⟩, ip, np⟩
  · rw [upd_ne (ne_of_none e ip)]; exact r.sub b u e
  · have hb : a ≠ p := fun e => np ⟨i, w, h1, e ▸ h2⟩
    rw [upd_ne hb]
    exact r.box i w a h1 h2
  · rw [upd_ne (ne_of_none e h)]; exact e
/-- what stood beside stands still from now on -/
theorem SR.settle {K : PySem.W.Frag} {ρ : List Addr} {I : Hp} {S : Sto} {H : Hp} {p : Addr} {o : HO} (r : SR K T I ρ S H) (ip : I p = none) (np : ¬ Lv ρ S p) : SR K T (upd I p o) ρ S (upd H p o) ∧ Same I (upd I p o) := by
  have sm : Same I (upd I p o) := fun b u e => by rw [upd_ne (ne_of_none e ip)]; exact e
  refine ⟨⟨fun b u e => ?_, r.len, r.inj, fun i w a h1 h2 => ?_⟩, sm⟩
  · by_cases hb : b = p
    · subst hb; rw [upd_same] at e ⊢; exact e
    · rw [upd_ne hb] at e ⊢; exact r.sub b u e
  · obtain ⟨q, n⟩ := r.box i w a h1 h2
    have hb : a ≠ p := fun e => np ⟨i, w, h1, e ▸ h2⟩
    rw [upd_ne hb, upd_ne hb]
    exact ⟨q.up sm (List.prefix_refl _), n⟩
theorem Stp.settle {ρ ρ1 : List Addr} {I I1 : Hp} {S S1 : Sto} {H H1 : Hp} {p : Addr} {o : HO} (t : Stp I ρ S H I1 ρ1 S1 H1) (h : H p = none) (ip : I1 p = none) : Stp I ρ S H (upd I1 p o) ρ1 S1 (upd H1 p o) where
  same := fun b u e => by rw [upd_ne (ne_of_none (t.same b u e) ip)]; exact t.same b u e
  pre := t.pre
  frm := fun a u e n => by
    rw [upd_ne (ne_of_none e h)]
    exact t.frm a u e n
  out := fun a u e i n => by
    rw [upd_ne (ne_of_none e h)]
    exact t.out a u e i n
theorem m_dsp {ks : List Cst} {fl : List (Gam → M D)} {keys : List (Option Expr)} (h : PPs X pos keys es (dspTr X.K T ks fl)) (hall : keys.all (·.isSome) = true) (hl : keys.length = es.length) (h0 : keys ≠ [])
    (h15 : keys.length ≤ 15) (hk : ks.length = keys.length) (hf : fl.length = keys.length) : PE X (.Dict keys es pos) (tM X.K T fun Γ => M.bnd (evL fl Γ) fun ds => if keysC ks = true ∧ ks.length = ds.length then M.ret (.dct ((ks.map Cst.d).zip ds)) else M.no) := by
  refine PE.of (pe_disp h hall hl h0 h15) fun σ H Q h => ?_
  obtain ⟨I, ρ, S, Γ, d, S', sr, er, e, k⟩ := h
  obtain ⟨ds, S1, e1, e2⟩ := bnd_some e
  split at e2
  · rename_i hc
    cases e2
    intro p hp
    obtain ⟨sr1, p1, ip, np⟩ := sr.beside (o := .dK []) hp
    refine pairs_M (hk.trans hf.symm) sr1 (er.up p1) e1 fun vs I2 ρ2 H2 sr2 p2 r2 => ?_
    obtain ⟨e5, n5⟩ := p2.frm p _ upd_same np
    have i5 := p2.out p _ upd_same ip np
    refine ⟨e5, (ks.map keyF).zip vs, ?_, ?_, ?_⟩
    · have z : ∀ (l : List Cst) (ws : List V), ((l.map fun k => kV (keyF k)).zip ws) = ((l.map keyF).zip ws).map fun kv => (kV kv.1, kv.2) := by
        intro l
        induction l with
        | nil => intro ws; rfl
        | cons a l ih =>
          intro ws
          cases ws with
          | nil => rfl
          | cons b ws => exact congrArg _ (ih ws)
      exact z ks vs
    · rw [List.length_zip, List.length_map]
      omega
    · rw [merge_new hc.1 fun k hk => rfl, List.nil_append]
      obtain ⟨sr6, sm⟩ := sr2.settle (o := .dK ((ks.map keyF).zip vs)) i5 n5
      refine k _ _ _ _ sr6 ((p1.trans p2).settle hp i5) ⟨p, _, rfl, .inl upd_same, ?_⟩
      exact RepK.up sm (List.prefix_refl _) _ _ (repk_zip (keysC_all hc.1) r2 hc.2)
  · cases e2
end
end Mi
/-! Mi, 6: own exception classes over any built-in one: how they are made (keywords too), filled, read, asked. -/
namespace PySem
open Sem (wp)
open Builtin Builtin.ObjectAttr
/-- what is used of a built-in exception class B (its line bm), its __new__ (of the class nB) and its __init__ -/
structure XB (B nB newId initId : String) (bm : List Value) : Prop where
  ends : newId.endsWith ".__new__" = true
  owner : newId.dropRight 8 = nB
  entry : entryFor table newId = some Builtin.«BaseException.__new__»
  canon : Manifest.canonical newId = Manifest.canonical "BaseException.__new__"
  newKind : builtinKind newId = some .builtinFn
  newSplit : splitId newId = some (nB, "__new__")
  newRow : Manifest.signature? newId = some ⟨.any, nB, nB, .cls, [⟨"args", .varPos, false⟩, ⟨"kwargs", .varKw, false⟩]⟩
  noStar : (nB != "*") = true
  quiet : newId.startsWith "lifetime." = false
  hasN : bm.contains (.type nB) = true
  noAttr : bm.contains (.type "AttributeError") = false
  noName : bm.contains (.type "NameError") = false
  hasB : bm.contains (.type B) = true
  hasObj : bm.contains (.type "object") = true
  initPlain : plainId initId = true
  initEntry : entryFor table initId = some Builtin.«BaseException.__init__»
  initSplit : splitId initId = some (B, "__init__")
  initKind : builtinKind initId = some .slot
  initRow : Manifest.signature? initId = some ⟨.positional, "*", B, .self, [⟨"args", .varPos, false⟩]⟩
  initStar : (B != "*") = true
  passes : ∀ self : Value, refuseLoop self "__setattr__" bm = pure ()
  boot : bootBuiltins (Str.ofString B) = some (.type B)
  ty : typeOf (.type B) = pure (.type "type")
  stub : Manifest.isStub B = false
theorem xb_ne {B nB newId initId : String} {bm : List Value} (F : XB B nB newId initId bm) : bm.isEmpty = false := by
  cases bm with
  | nil => exact absurd F.hasObj (by decide)
  | cons _ _ => rfl

abbrev vl (xs : List String) : List Value := xs.map Value.type
theorem xb_ValueError : XB "ValueError" "ValueError" "ValueError.__new__" "ValueError.__init__" (vl ["ValueError", "Exception", "BaseException", "object"]) where
  ends := by decide +kernel
  owner := by decide +kernel
  entry := F.excBase_ValueError.entry
  canon := by decide +kernel
  newKind := by kernel_rfl
  newSplit := by kernel_rfl
  newRow := by kernel_rfl
  noStar := by decide +kernel
  quiet := by decide +kernel
  hasN := by decide +kernel
  noAttr := by decide +kernel
  noName := by decide +kernel
  hasB := by decide +kernel
  hasObj := by decide +kernel
  initPlain := by decide +kernel
  initEntry := F.excBase_ValueError.initEntry
  initSplit := by kernel_rfl
  initKind := by kernel_rfl
  initRow := by kernel_rfl
  initStar := by decide +kernel
  passes := fun self => by kernel_rfl
  boot := by kernel_rfl
  ty := by kernel_rfl
  stub := by decide +kernel
theorem xb_KeyError : XB "KeyError" "LookupError" "LookupError.__new__" "KeyError.__init__" (vl ["KeyError", "LookupError", "Exception", "BaseException", "object"]) where
  ends := by decide +kernel
  owner := by decide +kernel
  entry := F.excBase_LookupError.entry
  canon := by decide +kernel
  newKind := by kernel_rfl
  newSplit := by kernel_rfl
  newRow := by kernel_rfl
  noStar := by decide +kernel
  quiet := by decide +kernel
  hasN := by decide +kernel
  noAttr := by decide +kernel
  noName := by decide +kernel
  hasB := by decide +kernel
  hasObj := by decide +kernel
  initPlain := by decide +kernel
  initEntry := PyProof.Rows.excClass_KeyError.initEntry
  initSplit := by kernel_rfl
  initKind := by kernel_rfl
  initRow := by kernel_rfl
  initStar := by decide +kernel
  passes := fun self => by kernel_rfl
  boot := by kernel_rfl
  ty := by kernel_rfl
  stub := by decide +kernel
theorem xb_LookupError : XB "LookupError" "LookupError" "LookupError.__new__" "LookupError.__init__" (vl ["LookupError", "Exception", "BaseException", "object"]) where
  ends := by decide +kernel
  owner := by decide +kernel
  entry := F.excBase_LookupError.entry
  canon := by decide +kernel
  newKind := by kernel_rfl
  newSplit := by kernel_rfl
  newRow := by kernel_rfl
  noStar := by decide +kernel
  quiet := by decide +kernel
  hasN := by decide +kernel
  noAttr := by decide +kernel
  noName := by decide +kernel
  hasB := by decide +kernel
  hasObj := by decide +kernel
  initPlain := by decide +kernel
  initEntry := F.excBase_LookupError.initEntry
  initSplit := by kernel_rfl
  initKind := by kernel_rfl
  initRow := by kernel_rfl
  initStar := by decide +kernel
  passes := fun self => by kernel_rfl
  boot := by kernel_rfl
  ty := by kernel_rfl
  stub := by decide +kernel
theorem xb_IndexError : XB "IndexError" "IndexError" "IndexError.__new__" "IndexError.__init__" (vl ["IndexError", "LookupError", "Exception", "BaseException", "object"]) where
  ends := by decide +kernel
  owner := by decide +kernel
  entry := F.excBase_IndexError.entry
  canon := by decide +kernel
  newKind := by kernel_rfl
  newSplit := by kernel_rfl
  newRow := by kernel_rfl
  noStar := by decide +kernel
  quiet := by decide +kernel
  hasN := by decide +kernel
  noAttr := by decide +kernel
  noName := by decide +kernel
  hasB := by decide +kernel
  hasObj := by decide +kernel
  initPlain := by decide +kernel
  initEntry := F.excBase_IndexError.initEntry
  initSplit := by kernel_rfl
  initKind := by kernel_rfl
  initRow := by kernel_rfl
  initStar := by decide +kernel
  passes := fun self => by kernel_rfl
  boot := by kernel_rfl
  ty := by kernel_rfl
  stub := by decide +kernel
theorem xb_OverflowError : XB "OverflowError" "OverflowError" "OverflowError.__new__" "OverflowError.__init__" (vl ["OverflowError", "ArithmeticError", "Exception", "BaseException", "object"]) where
  ends := by decide +kernel
  owner := by decide +kernel
  entry := F.excBase_OverflowError.entry
  canon := by decide +kernel
  newKind := by kernel_rfl
  newSplit := by kernel_rfl
  newRow := by kernel_rfl
  noStar := by decide +kernel
  quiet := by decide +kernel
  hasN := by decide +kernel
  noAttr := by decide +kernel
  noName := by decide +kernel
  hasB := by decide +kernel
  hasObj := by decide +kernel
  initPlain := by decide +kernel
  initEntry := F.excBase_OverflowError.initEntry
  initSplit := by kernel_rfl
  initKind := by kernel_rfl
  initRow := by kernel_rfl
  initStar := by decide +kernel
  passes := fun self => by kernel_rfl
  boot := by kernel_rfl
  ty := by kernel_rfl
  stub := by decide +kernel
theorem xb_RuntimeError : XB "RuntimeError" "RuntimeError" "RuntimeError.__new__" "RuntimeError.__init__" (vl ["RuntimeError", "Exception", "BaseException", "object"]) where
  ends := by decide +kernel
  owner := by decide +kernel
  entry := F.excBase_RuntimeError.entry
  canon := by decide +kernel
  newKind := by kernel_rfl
  newSplit := by kernel_rfl
  newRow := by kernel_rfl
  noStar := by decide +kernel
  quiet := by decide +kernel
  hasN := by decide +kernel
  noAttr := by decide +kernel
  noName := by decide +kernel
  hasB := by decide +kernel
  hasObj := by decide +kernel
  initPlain := by decide +kernel
  initEntry := F.excBase_RuntimeError.initEntry
  initSplit := by kernel_rfl
  initKind := by kernel_rfl
  initRow := by kernel_rfl
  initStar := by decide +kernel
  passes := fun self => by kernel_rfl
  boot := by kernel_rfl
  ty := by kernel_rfl
  stub := by decide +kernel

section
variable {M : Model} {prog : Program} {w : World} {A : Around} {E : Value → Shared → Prop} {R : Result → Shared → Prop} {h : Heap} {g : Array GenState} {d : Drawn} {t : Nat} {os : OsState}
variable {nm q : Str} {C N : Addr} {bs bm : List Value} {hdct : Bool} {sn : List Str} {sub : List Value} {ab : Bool} {col : Option Bool} {dd : Option Addr} {k0 k1 k2 k3 k5 : Option Value} {B nB newId initId : String}
abbrev xcO (C t : Addr) : Obj := { cls := .ref C, data := .fields #[.ref t, .none, .none, .none, .bool false, .none] }
theorem xb_checkNew (F : XB B nB newId initId bm) {rest : List Value} {kw : List (Str × Value)} {Q : Unit → Shared → Prop}
    (hC : h.get? C = some (excClassObj nm q C N bs bm hdct sn sub ab col dd k0 k1 k2 k3 k5 newId)) (hq : Q () ⟨h, g, d, t, os⟩) : wpAny M A (checkBuiltinCall newId ⟨.ref C :: rest, kw⟩) Q E ⟨h, g, d, t, os⟩ := by
  have inB : (Value.ref C :: bm).contains (.type nB) = true := by rw [List.contains_cons, F.hasN, Bool.or_true]
  have st := F.noStar
  simp only [checkBuiltinCall, F.newKind, F.newSplit, F.newRow]
  repeat (first | refine wpAny_loadPart_at hC ?_ | (refine wpAny_isSubtype_exc hC ?_; rw [inB]) | refine wpAny_staticBase_exc hC ?_ | refine wpAny_madeBy_exc hC ?_ | simp only [bne_self_eq_false, Bool.false_eq_true, if_false] | wp_step)
  exact hq
theorem xb_new (F : XB B nB newId initId bm) {rest : List Value} {kw : List (Str × Value)} (hC : h.get? C = some (excClassObj nm q C N bs bm hdct sn sub ab col dd k0 k1 k2 k3 k5 newId)) (hz : rest.length ≤ sizeLine)
    (hq : R (.ok (.ret (.ref (h.objs.size + 1)))) ⟨(h.push { cls := .type "tuple", data := .seq rest.toArray }).push (xcO C h.objs.size), g, d, t, os⟩) : codeAny (model prog w) A (.builtin newId ⟨.ref C :: rest, kw⟩) R ⟨h, g, d, t, os⟩ := by
  have en := F.ends
  have inB : (Value.ref C :: bm).contains (.type nB) = true := by rw [List.contains_cons, F.hasN, Bool.or_true]
  have noA : (Value.ref C :: bm).contains (.type "AttributeError") = false := by rw [List.contains_cons, F.noAttr]; rfl
  have noN : (Value.ref C :: bm).contains (.type "NameError") = false := by rw [List.contains_cons, F.noName]; rfl
  refine codeAny_builtinAt F.entry ?_
  unfold Builtin.«BaseException.__new__»
  refine wpAt_bind ?_
  show wpAt _ _ _ (stack >>= _) _ _ _
  refine wpAt_bind (wpAt_stack fun p below => wpAt_of_wpAny ?_)
  wp_walk
  refine wpAt_of_wpAny ?_
  rw [F.owner]
  repeat (first | with_reducible refine wpAny_madeHere_exc F.canon hC ?_ | with_reducible refine wpAny_loadPart_at hC ?_ | (with_reducible refine wpAny_isSubtype_exc hC ?_; first | rw [inB] | rw [noA] | rw [noN]) | wp_step)
  show R _ _
  rw [Heap.size_push]
  exact hq
theorem xb_typeCall (F : XB B nB newId initId bm) {rest : List Value} {kw : List (Str × Value)} {fI : Addr} {Q : Fin → Shared → Prop}
    (hC : h.get? C = some (excClassObj nm q C N bs bm hdct sn sub ab col dd k0 k1 k2 k3 k5 newId))
    (hi : W.Looks (model prog w) h (typeLookup (.ref C) "__init__") (some (.ref fI))) (hb : ∀ self, W.Looks (model prog w) h (bindSpecial (.ref fI) self) (.ref fI, [self])) (hz : rest.length ≤ sizeLine)
    (hq : codeAny (model prog w) A (.call (.ref fI) ⟨.ref (h.objs.size + 1) :: rest, kw⟩)
      (fun r s' => match r with | .ok (.ret v) => v = .none ∧ Q (.done (.ret (.ref (h.objs.size + 1)))) s' | .ok _ => False | .error e => E e s')
      ⟨(h.push (W.kdv_tup rest)).push (xcO C h.objs.size), g, d, t, os⟩) :
    wpAny (model prog w) A (Builtin.«type.__call__» ⟨.ref C :: rest, kw⟩) Q E ⟨h, g, d, t, os⟩ := by
  repeat (first | with_reducible refine wpAny_loadPart_at hC ?_ | with_reducible refine wpAny_madeBy_exc hC ?_ | wp_step)
  refine codeAny_call_builtin_code (Code.quiet_builtin _ F.quiet) (xb_checkNew F hC ?_)
  refine xb_new F hC hz ?_
  show wpAny _ _ _ _ _ _
  have kp : ∀ b o, h.get? b = some o → ((h.push (W.kdv_tup rest)).push (xcO C h.objs.size)).get? b = some o := fun b o e => Heap.get?_push_of_some _ (Heap.get?_push_of_some _ e)
  have hC1 := kp _ _ hC
  have made : ((h.push (W.kdv_tup rest)).push (xcO C h.objs.size)).get? (h.objs.size + 1) = some (xcO C h.objs.size) := by heap_get
  have selfC : (Value.ref C :: bm).contains (.ref C) = true := by simp
  have i1 := hi.keeps kp
  have b1 := (hb (.ref (h.objs.size + 1))).keeps kp
  unfold isInstance
  repeat (first | with_reducible refine wpAny_loadPart_at made ?_ | (with_reducible refine wpAny_isSubtype_exc hC1 ?_; rw [selfC]) | wp_step)
  show wpAny _ _ (typeLookup (.ref C) _) _ _ _
  refine i1.at ?_
  refine wpAny_holding (wpAny_bind (b1.at ?_))
  refine wpAny_bind (wpAny_call (codeAny_mono hq fun r s' z => ?_))
  rcases r with e | (v | _ | _ | _) <;> first | exact z | exact z.elim | skip
  obtain ⟨rfl, z⟩ := z
  first
    | exact wpAny_pure (wpAny_pure z)
    | (wp_walk; exact z)
end
end PySem
/-! Mi, 7: own exception classes: the call, the init of the base, fields stored. -/
namespace PySem
open Sem (wp)
open Builtin Builtin.ObjectAttr
section
variable {M : Model} {prog : Program} {w : World} {A : Around} {E : Value → Shared → Prop} {R : Result → Shared → Prop} {h : Heap} {g : Array GenState} {d : Drawn} {t : Nat} {os : OsState}
variable {nm q : Str} {C N : Addr} {bs bm : List Value} {hdct : Bool} {sn : List Str} {sub : List Value} {ab : Bool} {col : Option Bool} {dd : Option Addr} {k0 k1 k2 k3 k5 : Option Value} {B nB newId initId : String}
theorem xb_call (F : XB B nB newId initId bm) {rest : List Value} {kw : List (Str × Value)} {fI : Addr}
    (hC : h.get? C = some (excClassObj nm q C N bs bm hdct sn sub ab col dd k0 k1 k2 k3 k5 newId))
    (hi : W.Looks (model prog w) h (typeLookup (.ref C) "__init__") (some (.ref fI))) (hb : ∀ self, W.Looks (model prog w) h (bindSpecial (.ref fI) self) (.ref fI, [self])) (hz : rest.length ≤ sizeLine)
    (hq : codeAny (model prog w) (A.under (.builtin "type.__call__" ⟨.ref C :: rest, kw⟩)) (.call (.ref fI) ⟨.ref (h.objs.size + 1) :: rest, kw⟩) (W.InitBack (h.objs.size + 1) R)
      ⟨(h.push (W.kdv_tup rest)).push (xcO C h.objs.size), g, d, t, os⟩) :
    codeAny (model prog w) A (.call (.ref C) ⟨rest, kw⟩) R ⟨h, g, d, t, os⟩ := by
  have f1 := tc_lookup
  have f2 := tc_bind (.ref C)
  have tyC : (⟨h, g, d, t, os⟩ : Shared).TypeIs (.ref C) "type" := ⟨_, hC, rfl⟩
  refine codeAny_of_tree ?_
  show wpAny _ _ (callAny (.ref C) _) _ _ _
  repeat (any_goals (first | assumption | with_reducible refine wpAny_loadPart_at hC ?_ | wp_step))
  refine ⟨rfl, ?_⟩
  refine codeAny_call_builtin_at (Code.quiet_builtin _ (by decide +kernel)) entry_typeCall (wpAny_check_type_call_sub hC (xb_typeCall F hC hi hb hz ?_))
  refine codeAny_mono hq fun r s' z => ?_
  rcases r with e | (v | _ | _ | _) <;> exact z

theorem xb_checkInit (F : XB B nB newId initId bm) {e : Addr} {oe : Obj} {rest : List Value} {Q : Unit → Shared → Prop}
    (hC : h.get? C = some (excClassObj nm q C N bs bm hdct sn sub ab col dd k0 k1 k2 k3 k5 newId)) (he : h.get? e = some oe) (hcl : oe.cls = .ref C) (hq : Q () ⟨h, g, d, t, os⟩) :
    wpAny M A (checkBuiltinCall initId ⟨.ref e :: rest, []⟩) Q E ⟨h, g, d, t, os⟩ := by
  have inB : (Value.ref C :: bm).contains (.type B) = true := by rw [List.contains_cons, F.hasB, Bool.or_true]
  have st := F.initStar
  simp only [checkBuiltinCall, F.initKind, F.initSplit, F.initRow]
  repeat (first | (with_reducible refine wpAny_loadPart_at he ?_; rw [hcl]) | with_reducible refine wpAny_loadPart_at hC ?_ | (with_reducible refine wpAny_isSubtype_exc hC ?_; rw [inB]) | wp_step)
  refine wpAny_onRaise ?_
  rw [show ∀ (a b : String) (n : Nat), Bind.check ⟨.positional, "*", B, .self, [⟨"args", .varPos, false⟩]⟩ a b n (List.map (fun x => x.fst) ({ pos := Value.ref e :: rest } : Args).kw) = pure () from
    fun a b n => check_star_args _ _ _ _ _ _]
  exact wpAny_pure hq
theorem xb_init (F : XB B nB newId initId bm) {e t0 : Addr} {rest : List Value}
    (hC : h.get? C = some (excClassObj nm q C N bs bm hdct sn sub ab col dd k0 k1 k2 k3 k5 newId)) (he : h.get? e = some (xcO C t0))
    (hq : ∀ h' t1, (∀ b o, b ≠ e → h.get? b = some o → h'.get? b = some o) → h'.get? e = some (xcO C t1) → R (.ok (.ret .none)) ⟨h', g, d, t, os⟩) (hz : rest.length ≤ sizeLine) :
    codeAny (model prog w) A (.call (.builtin initId) ⟨.ref e :: rest, []⟩) R ⟨h, g, d, t, os⟩ := by
  refine codeAny_call_builtin F.initPlain F.initEntry (xb_checkInit F hC he rfl ?_)
  wp_walk
  refine hq _ h.objs.size (fun b o nb hb => ?_) ?_
  · rw [Heap.get?_update_other _ _ (Ne.symm nb)]
    exact Heap.get?_push_of_some _ hb
  · rw [Heap.get?_update_self _ (Heap.get?_push_of_some _ he) rfl]
    rfl
/-- the first field of an exception -/
theorem xb_osa {K : W.Frag} {name : Str} {tk : Tok} {v : Value} {x : Addr} {fv : Array Value} {cd : ClassData} (F : XB B nB newId initId bm)
    (X : K.In h) (hx : h.get? x = some { cls := .ref C, data := .fields fv }) (hcd : W.clsIn K C = some cd) (hm : cd.mro = .ref C :: bm) (hh : cd.hasDict = true) (ha : W.findIn K (.ref C) name = some none)
    (hq : ∀ h' tk' dx, (∀ b o, b ≠ x → h.get? b = some o → h'.get? b = some o) → h.objs.size ≤ dx → dx ≠ x → h'.get? x = some { cls := .ref C, dict := some dx, data := .fields fv } →
      h'.Ns1 dx (fun y => if y = name then some v else none) → R (.ok (.ret .none)) ⟨h', g, d, tk', os⟩) :
    codeAny (model prog w) A (.call (.builtin "object.__setattr__") ⟨[.ref x, .str name tk, v], []⟩) R ⟨h, g, d, t, os⟩ := by
  have J : W.InstAt h x { cls := .ref C, data := .fields fv } C none := ⟨hx, rfl, rfl, trivial⟩
  have SF := _root_.PySem.F.store_object
  have ne : cd.mro.isEmpty = false := by rw [hm]; rfl
  have inO : cd.mro.contains (.type "object") = true := by rw [hm, List.contains_cons, F.hasObj, Bool.or_true]
  have pass : refuseLoop (.ref x) "__setattr__" cd.mro = pure () := by rw [hm, refuseLoop_ref]; exact F.passes _
  have xs : x ≠ h.objs.size := Nat.ne_of_lt (Heap.lt_size hx)
  have sb : W.Looks (model prog w) h (isInstance (.ref x) (.type "object")) true := J.type.andThen (W.looks_mroIn X (by unfold W.mroIn; rw [hcd, Option.bind_some, if_neg (by rw [ne]; decide), inO]))
  refine codeAny_call_builtin SF.slot.plain SF.entry (@W.check_slot (model prog w) _ _ ⟨h, g, d, t, os⟩ "object.__setattr__" "object" "__setattr__" (.ref x) [.str name tk, v] [] _ SF.kind SF.split sb (SF.args (.ref x) (.str name tk) v) ?_)
  have hmr : W.Looks (model prog w) h (mroOf (.ref C)) cd.mro := (W.looks_clsIn X hcd).andThen .now
  have no3 : W.Looks (model prog w) h (storeTaker? none) none := .now
  have hcls : W.Looks (model prog w) h (classData C) cd := W.looks_clsIn X hcd
  rw [W.osa_eq, refuse_eq]
  refine wpAny_bind (wpAny_bind (J.type.at (wpAny_bind (hmr.at ?_))))
  rw [pass]
  refine wpAny_pure (wpAny_bind (J.type.at (wpAny_bind ((W.looks_findIn X ha).at (wpAny_bind (no3.at ?_))))))
  show wpAny _ _ (storeInOwnDict (.ref x) (.ref C) (.str name tk) name v false) _ _ _
  obtain ⟨nm, bs, mro, ns, qn, hd, sn, sb, ab, col, del⟩ := cd
  dsimp only at hh
  subst hh
  unfold storeInOwnDict ownDictForStores
  repeat (first | with_reducible refine HandSPX.store_in_new ?_ ?_ | with_reducible refine wpAny_loadPart_at hx ?_ | with_reducible refine hcls.at ?_ | wp_step)
  · exact ⟨_, #[], _, (Heap.get?_update_ne _ _ _ _ xs.symm).trans (Heap.get?_push_at rfl rfl), rfl, fun e he => absurd he (by simp), fun _ => rfl⟩
  · intro h' tk' hn' hs
    have hx1 : (h.push { cls := .type "dict", data := .dict #[] }).get? x = some { cls := .ref C, data := .fields fv } := Heap.get?_push_of_some _ hx
    refine hq h' tk' h.objs.size (fun b o hb ho => ?_) (Nat.le_refl _) xs.symm ?_ hn'
    · exact (hs.2 b (Nat.ne_of_lt (Heap.lt_size ho))).trans ((Heap.get?_update_ne _ _ _ _ hb).trans (Heap.get?_push_of_some _ ho))
    · exact (hs.2 x xs).trans (Heap.get?_update_self _ hx1 rfl)
/-- a further field -/
theorem xb_osaMore {K : W.Frag} {name : Str} {tk : Tok} {v : Value} {x dx : Addr} {fv : Array Value} {cd : ClassData} {m0 : Str → Option Value} {nl : List Str} (F : XB B nB newId initId bm)
    (X : K.In h) (hx : h.get? x = some { cls := .ref C, dict := some dx, data := .fields fv }) (hns : h.Ns1 dx m0) (hw : Within m0 nl) (hz : nl.length ≤ 1000) (hcd : W.clsIn K C = some cd) (hm : cd.mro = .ref C :: bm) (hh : cd.hasDict = true)
    (ha : W.findIn K (.ref C) name = some none)
    (hq : ∀ h' tk', (∀ b o, b ≠ dx → h.get? b = some o → h'.get? b = some o) → h'.Ns1 dx (fun y => if y = name then some v else m0 y) → R (.ok (.ret .none)) ⟨h', g, d, tk', os⟩) :
    codeAny (model prog w) A (.call (.builtin "object.__setattr__") ⟨[.ref x, .str name tk, v], []⟩) R ⟨h, g, d, t, os⟩ := by
  obtain ⟨oD, esD, epD, hoD, hdD, _⟩ := hns.count hw
  have J : W.InstAt h x { cls := .ref C, dict := some dx, data := .fields fv } C (some oD) := ⟨hx, rfl, rfl, hoD⟩
  have SF := _root_.PySem.F.store_object
  have ne : cd.mro.isEmpty = false := by rw [hm]; rfl
  have inO : cd.mro.contains (.type "object") = true := by rw [hm, List.contains_cons, F.hasObj, Bool.or_true]
  have pass : refuseLoop (.ref x) "__setattr__" cd.mro = pure () := by rw [hm, refuseLoop_ref]; exact F.passes _
  have sb : W.Looks (model prog w) h (isInstance (.ref x) (.type "object")) true := J.type.andThen (W.looks_mroIn X (by unfold W.mroIn; rw [hcd, Option.bind_some, if_neg (by rw [ne]; decide), inO]))
  refine codeAny_call_builtin SF.slot.plain SF.entry (@W.check_slot (model prog w) _ _ ⟨h, g, d, t, os⟩ "object.__setattr__" "object" "__setattr__" (.ref x) [.str name tk, v] [] _ SF.kind SF.split sb (SF.args (.ref x) (.str name tk) v) ?_)
  have hmr : W.Looks (model prog w) h (mroOf (.ref C)) cd.mro := (W.looks_clsIn X hcd).andThen .now
  have no3 : W.Looks (model prog w) h (storeTaker? none) none := .now
  have hcls : W.Looks (model prog w) h (classData C) cd := W.looks_clsIn X hcd
  rw [W.osa_eq, refuse_eq]
  refine wpAny_bind (wpAny_bind (J.type.at (wpAny_bind (hmr.at ?_))))
  rw [pass]
  refine wpAny_pure (wpAny_bind (J.type.at (wpAny_bind ((W.looks_findIn X ha).at (wpAny_bind (no3.at ?_))))))
  show wpAny _ _ (storeInOwnDict (.ref x) (.ref C) (.str name tk) name v false) _ _ _
  obtain ⟨nm, bs, mro, ns, qn, hd, sn, sb, ab, col, del⟩ := cd
  dsimp only at hh
  subst hh
  unfold storeInOwnDict ownDictForStores
  repeat (first | with_reducible refine OEX.store_in_old hns hw hz ?_ | with_reducible refine wpAny_loadPart_at hx ?_ | with_reducible refine hcls.at ?_ | wp_step)
  intro h' tk' hn' hs
  exact hq h' tk' (fun b o hb ho => (hs.2 b hb).trans ho) hn'
end
end PySem
/-! Mi, 8: how written arguments are bound, by place and by name. -/
namespace Mi
open PySem PySem.Spec PyProof.Rows L2

theorem lookup_app_none {α β : Type} [BEq α] [LawfulBEq α] {k : α} : ∀ {l r : List (α × β)}, (∀ v, (k, v) ∉ l) → (l ++ r).lookup k = r.lookup k
  | [], _, _ => rfl
  | (a, b) :: l, r, h => by
    have hk : (k == a) = false := by
      cases q : (k == a) with
      | false => rfl
      | true =>
        rw [beq_iff_eq] at q
        subst q
        exact absurd List.mem_cons_self (h b)
    rw [List.cons_append, List.lookup_cons, hk]
    exact lookup_app_none fun v z => h v (List.mem_cons_of_mem _ z)
theorem lookup_none_of {α β : Type} [BEq α] [LawfulBEq α] {k : α} {l : List (α × β)} (h : k ∉ l.map (·.1)) : l.lookup k = none := by
  have := lookup_app_none (k := k) (l := l) (r := []) fun v z => h (List.mem_map_of_mem (f := (·.1)) z)
  rw [List.append_nil] at this
  exact this
def foldKw {σ : Type} (f : Str × Value → σ → Sem (ForInStep σ)) : List (Str × Value) → σ → Sem σ
  | [], s => pure s
  | x :: xs, s => f x s >>= fun r => match r with
    | .done s => pure s
    | .yield s => foldKw f xs s
theorem forIn_foldKw {σ : Type} (f : Str × Value → σ → Sem (ForInStep σ)) : ∀ (l : List (Str × Value)) (s : σ), forIn l s f = foldKw f l s
  | [], s => rfl
  | x :: xs, s => by
    rw [List.forIn_cons]
    unfold foldKw
    congr 1
    funext r
    cases r with
    | done s => rfl
    | yield s => exact forIn_foldKw f xs s
structure PlainFd (fd : FuncData) (ps : List Str) : Prop where
  po : fd.params.posonlyargs = []
  ar : fd.params.args.map (·.arg) = ps
  va : fd.params.vararg = none
  ko : fd.params.kwonlyargs = []
  kg : fd.params.kwarg = none
  df : fd.defaults = .none
theorem fold_kw {ps : List Str} {α : Type} {f : Str × Value → List (Str × Value) × α → Sem (ForInStep (List (Str × Value) × α))}
    (hf : ∀ x s, ps.contains x.1 = true → s.1.lookup x.1 = none → f x s = pure (.yield (s.1 ++ [(x.1, x.2)], s.2))) :
    ∀ (kw slots : List (Str × Value)) (ex : α), (∀ p ∈ kw, p.1 ∈ ps) → ((slots ++ kw).map (·.1)).Nodup → foldKw f kw (slots, ex) = pure (slots ++ kw, ex)
  | [], slots, ex, _, _ => by rw [List.append_nil]; rfl
  | x :: kw, slots, ex, hk, nd => by
    unfold foldKw
    have h1 : ps.contains x.1 = true := List.contains_iff_mem.mpr (hk x List.mem_cons_self)
    have h2 : slots.lookup x.1 = none := lookup_none_of fun z => by
      rw [List.map_append, List.nodup_append] at nd
      exact nd.2.2 _ z _ (by rw [List.map_cons]; exact List.mem_cons_self) rfl
    rw [hf x (slots, ex) h1 h2]
    show foldKw f kw (slots ++ [(x.1, x.2)], ex) = _
    have e : slots ++ [(x.1, x.2)] ++ kw = slots ++ x :: kw := by rw [List.append_assoc]; rfl
    rw [fold_kw hf kw (slots ++ [(x.1, x.2)]) ex (fun p hp => hk p (List.mem_cons_of_mem _ hp)) (by rw [e]; exact nd), e]
theorem bind_plain {fd : FuncData} {ps : List Str} {args : Args} (P : PlainFd fd ps) (hl : args.pos.length ≤ ps.length) (nd : ((ps.zip args.pos ++ args.kw).map (·.1)).Nodup) (hk : ∀ p ∈ args.kw, p.1 ∈ ps)
    (hall : ∀ n ∈ ps, ((ps.zip args.pos ++ args.kw).lookup n).isSome = true) :
    bindArgs fd args = pure (ps.filterMap fun n => ((ps.zip args.pos ++ args.kw).lookup n).map (n, ·)) := by
  have miss : ∀ k, ((ps.take k).filter fun n => ((ps.zip args.pos ++ args.kw).lookup n).isNone) = [] := fun k => by
    rw [List.filter_eq_nil_iff]
    intro n hn q
    have := hall n (List.mem_of_mem_take hn)
    cases e : (ps.zip args.pos ++ args.kw).lookup n with
    | none => rw [e] at this; cases this
    | some v => rw [e] at q; cases q
  have long : decide (args.pos.length > ps.length) = false := decide_eq_false (by omega)
  unfold bindArgs
  simp only [P.po, P.ar, P.va, P.ko, P.kg, P.df, List.map_nil, List.nil_append, List.append_nil, forIn_foldKw]
  rw [fold_kw (ps := ps) (fun x s h1 h2 => by rw [h1, h2]; rfl) args.kw (ps.zip args.pos) [] hk nd]
  simp only [long, miss, pure_bind, Bool.false_and, Bool.and_false]
  have sq : seqItems? Value.none = pure none := rfl
  rw [sq]
  simp only [pure_bind, miss]
  simp [miss, foldKw]

theorem map_fst_zip {α : Type} : ∀ {ps : List Str} {us : List α}, us.length ≤ ps.length → (ps.zip us).map (·.1) = ps.take us.length
  | _, [], _ => by simp
  | [], _ :: _, h => by simp at h
  | p :: ps, u :: us, h => by
    show p :: (ps.zip us).map (·.1) = p :: ps.take us.length
    rw [map_fst_zip (Nat.le_of_succ_le_succ h)]
theorem lookup_of_mem {α : Type} {k : Str} : ∀ {l : List (Str × α)}, k ∈ l.map (·.1) → (l.lookup k).isSome = true
  | [], h => by simp at h
  | (a, b) :: l, h => by
    rw [List.lookup_cons]
    cases q : (k == a) with
    | true => rfl
    | false =>
      refine lookup_of_mem ?_
      rw [List.map_cons, List.mem_cons] at h
      rcases h with h | h
      · rw [h] at q
        simp at q
      · exact h
theorem pick_zip {α : Type} {l : List (Str × α)} : ∀ {ps : List Str}, (∀ n ∈ ps, (l.lookup n).isSome = true) → (ps.filterMap fun n => (l.lookup n).map (n, ·)) = ps.zip (pick ps l) ∧ (pick ps l).length = ps.length
  | [], _ => ⟨rfl, rfl⟩
  | p :: ps, h => by
    obtain ⟨e1, e2⟩ := pick_zip (l := l) (ps := ps) fun n hn => h n (List.mem_cons_of_mem _ hn)
    obtain ⟨v, e⟩ := Option.isSome_iff_exists.mp (h p List.mem_cons_self)
    unfold pick at e1 e2 ⊢
    rw [List.filterMap_cons, List.filterMap_cons, e]
    refine ⟨?_, ?_⟩
    · show (p, v) :: _ = (p, v) :: _
      rw [e1]
      rfl
    · show _ + 1 = _ + 1
      rw [e2]
theorem kwOk_of {α : Type} {ps ks : List Str} {us ws : List α} (c : kwOk ps us.length ks = true) (hw : ws.length = ks.length) :
    us.length ≤ ps.length ∧ ((ps.zip us ++ ks.zip ws).map (·.1)).Nodup ∧ (∀ p ∈ ks.zip ws, p.1 ∈ ps) ∧ ∀ n ∈ ps, ((ps.zip us ++ ks.zip ws).lookup n).isSome = true := by
  unfold kwOk at c
  rw [Bool.and_eq_true, Bool.and_eq_true, Bool.and_eq_true, decide_eq_true_iff, decide_eq_true_iff, List.all_eq_true, List.all_eq_true] at c
  obtain ⟨⟨⟨c1, c2⟩, c3⟩, c4⟩ := c
  have e : (ps.zip us ++ ks.zip ws).map (·.1) = ps.take us.length ++ ks := by
    rw [List.map_append, map_fst_zip c1, map_fst_zip (Nat.le_of_eq hw), hw, List.take_length]
  refine ⟨c1, by rw [e]; exact c2, fun p hp => ?_, fun n hn => lookup_of_mem ?_⟩
  · exact List.contains_iff_mem.mp (c3 _ (List.of_mem_zip hp).1)
  · rw [e]
    exact List.contains_iff_mem.mp (c4 n hn)
theorem binds_kw {fd : FuncData} {ps ks : List Str} {us ws : List Value} {s : Shared} (P : PlainFd fd ps) (c : kwOk ps us.length ks = true) (hw : ws.length = ks.length) :
    BindsTo s fd ⟨us, ks.zip ws⟩ (ps.zip (pick ps (ps.zip us ++ ks.zip ws))) := by
  obtain ⟨h1, h2, h3, h4⟩ := kwOk_of c hw
  refine .of_eq ?_
  rw [bind_plain P h1 h2 h3 h4, (pick_zip h4).1]
theorem vals_lookup {k : Str} {ps : List Str} : ∀ {l : List (Str × V)} {r : List (Str × Value)}, Paired (fun p q => p.1 = q.1 ∧ RelV p.2 q.2) l r → (l.lookup k = none ∧ r.lookup k = none) ∨ ∃ v u, l.lookup k = some v ∧ r.lookup k = some u ∧ RelV v u
  | _, _, .nil => .inl ⟨rfl, rfl⟩
  | (a, v) :: l, (b, u) :: r, .cons h t => by
    obtain ⟨e, q⟩ := h
    cases (show a = b from e)
    rw [List.lookup_cons, List.lookup_cons]
    cases z : (k == a) with
    | true => exact .inr ⟨v, u, rfl, rfl, q⟩
    | false => exact vals_lookup (ps := ps) t
theorem pick_vals {l : List (Str × V)} {r : List (Str × Value)} (h : Paired (fun p q => p.1 = q.1 ∧ RelV p.2 q.2) l r) : ∀ ps : List Str, Vals (pick ps l) (pick ps r)
  | [] => .nil
  | p :: ps => by
    unfold pick
    rw [List.filterMap_cons, List.filterMap_cons]
    rcases vals_lookup (k := p) (ps := ps) h with ⟨e1, e2⟩ | ⟨v, u, e1, e2, q⟩
    · rw [e1, e2]
      exact pick_vals h ps
    · rw [e1, e2]
      exact .cons q (pick_vals h ps)
theorem zip_pair : ∀ {ks : List Str} {vs : List V} {us : List Value}, Vals vs us → Paired (fun (p : Str × V) (q : Str × Value) => p.1 = q.1 ∧ RelV p.2 q.2) (ks.zip vs) (ks.zip us)
  | [], _, _, _ => .nil
  | _ :: _, _, _, .nil => .nil
  | k :: ks, _, _, .cons h t => .cons ⟨rfl, h⟩ (zip_pair t)
theorem pair_app {α β : Type} {R : α → β → Prop} : ∀ {a c : List α} {b d : List β}, Paired R a b → Paired R c d → Paired R (a ++ c) (b ++ d)
  | _, _, _, _, .nil, h => h
  | _, _, _, _, .cons x t, h => .cons x (pair_app t h)
end Mi
/-! Mi, 9: an exception class with its own __init__: what the written part says of it, the base's init, the fields' stores, the init's promise. -/
namespace Mi
open PySem PySem.Spec PyProof.Rows L2

/-- the class object, read -/
def xcIn (K : PySem.W.Frag) (C : Addr) (bmB : List Value) (nw : String) : Bool := match K.lookup C with
  | some ⟨.type "type", _, .cls cd, sl⟩ => (match cd.mro, sl.toList with
    | .ref C' :: bm, [_, _, _, _, some (.builtin n), _] => decide (C' = C) && decide (n = nw) && !cd.hasDel && cd.hasDict && decide (bm = bmB)
    | _, _ => false)
  | _ => false
theorem xcIn_ok {K : PySem.W.Frag} {C : Addr} {bm : List Value} {nw : String} (q : xcIn K C bm nw = true) :
    ∃ nm qn N bs sn sub ab col dd k0 k1 k2 k3 k5, K.lookup C = some (excClassObj nm qn C N bs bm true sn sub ab col dd k0 k1 k2 k3 k5 nw) := by
  unfold xcIn at q
  split at q
  · rename_i dd cd sl ho
    split at q
    · rename_i C' bm' k0 k1 k2 k3 n k5 hm hs
      rw [Bool.and_eq_true, Bool.and_eq_true, Bool.and_eq_true, Bool.and_eq_true, decide_eq_true_iff, decide_eq_true_iff, decide_eq_true_iff, Bool.not_eq_true'] at q
      obtain ⟨⟨⟨⟨rfl, rfl⟩, q1⟩, q2⟩, rfl⟩ := q
      obtain ⟨a1, a2, a3, a4, a5, a6, a7, a8, a9, a10, a11⟩ := cd
      dsimp only at hm q1 q2
      subst hm q1 q2
      obtain ⟨l⟩ := sl
      simp only at hs
      subst hs
      exact ⟨a1, a5, a4, a2, a7, a8, a9, a10, dd, k0, k1, k2, k3, k5, ho⟩
    · cases q
  · cases q
/-- what is said of a class -/
structure XCls (K : PySem.W.Frag) (C fI : Addr) (B nB nw ini : String) (bm : List Value) : Prop where
  F : XB B nB nw ini bm
  cls : ∃ nm qn N bs sn sub ab col dd k0 k1 k2 k3 k5, K.lookup C = some (excClassObj nm qn C N bs bm true sn sub ab col dd k0 k1 k2 k3 k5 nw)
  sa : PySem.W.findIn K (.ref C) "__setattr__" = some (some (.builtin "object.__setattr__"))
  iC : PySem.W.findIn K (.ref C) "__init__" = some (some (.ref fI))
  tI : PySem.W.typeIn K (.ref fI) = some (.type "function")
  kp : PySem.W.keepIn K (.ref C) = true
  ex : ExcC K C
  vi : PySem.W.findCls K (.type B) (.type "type") "__init__" = some (.val (.builtin ini))
  hi : PySem.W.handedIn (.builtin ini) = true
section
variable {X : Cx} {pins : List (Addr × Obj)} {σ : L2.St} {H : Hp} {s : Shared} {a C dx fI : Addr} {f : PySem.Str} {y : V} {u : Value} {gs : List (PySem.Str × V)} {Q : Unit → Shared → Prop} {E : Value → Shared → Prop} {A : Around} {B nB nw ini : String} {bm : List Value}
theorem XCls.data (T : XCls X.K C fI B nB nw ini bm) : ∃ cd, PySem.W.clsIn X.K C = some cd ∧ cd.mro = .ref C :: bm ∧ cd.hasDict = true := by
  obtain ⟨a1, a2, a3, a4, a5, a6, a7, a8, a9, b0, b1, b2, b3, b5, hC⟩ := T.cls
  exact ⟨_, by unfold PySem.W.clsIn; rw [hC] <;> rfl, rfl, rfl⟩
/-- the first field -/
theorem xst_new (T : XCls X.K C fI B nB nw ini bm) (J : Inv X pins σ H s) (e : H a = some (exo a C none)) (no : PySem.W.findIn X.K (.ref C) f = some none) (ry : RelV y u)
    (h : ∀ dx s', H dx = none → dx ≠ a → Inv X pins σ (upd (upd H dx (exd dx [(f, y)])) a (exo a C (some dx))) s' → Q () s') : wpAny (model X.prog X.w) A (setAttr (.ref a) f u) Q E s := by
  obtain ⟨cd, c1, c2, c3⟩ := T.data
  obtain ⟨t0, ho⟩ := exo_at J.hok e
  obtain ⟨hp, g, d, t, os⟩ := s
  have keepNone : ∀ {b : Addr}, H b = none → b ≠ a := fun {b} n z => by
    rw [z, e] at n
    cases n
  refine PySem.W.set_plain J.kIn (ox := { cls := .ref C, dict := none, data := .fields #[.ref t0, .none, .none, .none, .bool false, .none] }) (od := none) ⟨ho, rfl, rfl, trivial⟩ T.sa ?_
  refine xb_osa T.F J.kIn ho c1 c2 c3 no (fun h' tk' dx k dn dne hx hn => ?_)
  have ndx : H dx = none := J.hok.fresh dn
  have old : ∀ {b : Addr} {o : Obj}, hp.get? b = some o → b ≠ dx := fun {b o} q => Nat.ne_of_lt (Nat.lt_of_lt_of_le (Heap.lt_size q) dn)
  have U : Un X.fs [] H (upd (upd H dx (exd dx [(f, y)])) a (exo a C (some dx))) hp h' :=
    ⟨fun b o q n _ _ => k b o (keepNone n) q, fun b o q n _ _ => ⟨o.slots, k b o (keepNone n) q⟩, fun b o q n _ => by rw [upd_ne (keepNone n), upd_ne (old q)]; exact n,
      fun b o q _ => by
        by_cases hb : b = a
        · exact ⟨_, by rw [hb]; exact hx⟩
        · exact ⟨o, k b o hb q⟩,
      fun b xs q => by rw [upd_ne (at_ne e q exo_tup), upd_ne (ne_of_none q ndx)]; exact q, fun b o v q => by rw [upd_ne (at_ne e q exo_frz), upd_ne (ne_of_none q ndx)]; exact q,
      fun b ps q => ⟨#[], by rw [upd_ne (at_ne e q exo_tbl), upd_ne (ne_of_none q ndx), q]; simp⟩⟩
  refine h dx _ ndx dne (J.un (t' := tk') U fun b o q => ?_)
  by_cases hb : b = a
  · subst hb
    rw [upd_same] at q
    cases q
    exact exo_ok hx
  · rw [upd_ne hb] at q
    by_cases hd : b = dx
    · subst hd
      rw [upd_same] at q
      cases q
      exact exd_ok hn (relO_put (fs := []) ry fun g => True.intro)
    · rw [upd_ne hd] at q
      refine (J.hok b o q).stay (fun c v hc z => k c v ?_ z) (fun c hc => ?_) fun c xs hc => ?_
      · rcases hc with hc | hc
        · rw [hc]
          exact hb
        · exact at_ne e hc exo_own
      · rw [upd_ne (at_ne e hc exo_own), upd_ne (ne_of_none hc ndx)]
        exact hc
      · rw [upd_ne (at_ne e hc exo_tup), upd_ne (ne_of_none hc ndx)]
        exact hc
/-- a further field -/
theorem xst_more (T : XCls X.K C fI B nB nw ini bm) (J : Inv X pins σ H s) (e : H a = some (exo a C (some dx))) (ed : H dx = some (exd dx gs)) (hl : gs.length ≤ 900) (no : PySem.W.findIn X.K (.ref C) f = some none) (ry : RelV y u)
    (h : ∀ s', Inv X pins σ (upd H dx (exd dx ((f, y) :: gs))) s' → Q () s') : wpAny (model X.prog X.w) A (setAttr (.ref a) f u) Q E s := by
  obtain ⟨cd, c1, c2, c3⟩ := T.data
  obtain ⟨t0, ho⟩ := exo_at J.hok e
  obtain ⟨mA, hns, rel⟩ := exd_at J.hok ed
  have wi := within_of rel
  obtain ⟨hp, g, d, t, os⟩ := s
  obtain ⟨oD, _, _, hoD, _, _⟩ := hns.count wi
  refine PySem.W.set_plain J.kIn (ox := { cls := .ref C, dict := some dx, data := .fields #[.ref t0, .none, .none, .none, .bool false, .none] }) (od := some oD) ⟨ho, rfl, rfl, hoD⟩ T.sa ?_
  refine xb_osaMore T.F J.kIn ho hns wi (by rw [List.length_map]; omega) c1 c2 c3 no (fun h' tk' k hn => ?_)
  have there : ∃ o, h'.get? dx = some o := by
    obtain ⟨o, _, _, z, _⟩ := hn
    exact ⟨o, z⟩
  exact h _ (J.write (t' := tk') (x := dx) (e := dx) (o := exd dx ((f, y) :: gs)) (by rw [ed]; exact True.intro) (.inl rfl) k there (exd_ok hn (relO_put ry rel)))
/-- the base's __init__ -/
theorem xini_ok {us : List Value} {Q : Value → Shared → Prop} (T : XCls X.K C fI B nB nw ini bm) (J : Inv X pins σ H s) (e : H a = some (exo a C none)) (hl : us.length ≤ sizeLine) (h : ∀ s', Inv X pins σ H s' → Q .none s') :
    wpAny (model X.prog X.w) A (call (.builtin ini) (.ref a :: us)) Q E s := by
  obtain ⟨a1, a2, a3, a4, a5, a6, a7, a8, a9, b0, b1, b2, b3, b5, hC⟩ := T.cls
  obtain ⟨t0, ho⟩ := exo_at J.hok e
  obtain ⟨hp, g, d, t, os⟩ := s
  refine wpAny_call (xb_init T.F (J.kIn _ _ hC) ho (fun h' t2 k hx => ?_) hl)
  have I2 := J.write (t' := t) (x := a) (e := a) (o := exo a C none) (by rw [e]; exact True.intro) (.inl rfl) k ⟨_, hx⟩ (exo_ok hx)
  have eu : upd H a (exo a C none) = H := by
    funext b
    by_cases hb : b = a
    · rw [hb, upd_same, e]
    · rw [upd_ne hb]
  rw [eu] at I2
  exact h _ I2
end
section
variable {X : Cx} {C fI : Addr} {B nB nw ini : String} {bm : List Value} {o e : Expr} {es : List Expr} {to te : TE} {ta : TA} {f : PySem.Str} {p' p1 p2 pos : Pos}
/-- B.__init__(self, ..), the fresh exception self at a -/
def tXini (C : Addr) (ta : TA) : TE := fun σ H Q => ta σ H fun vs H1 => ∃ (a : Addr) (ws : List V), vs = .ref a :: ws ∧ ws.length ≤ 1000 ∧ H1 a = some (exo a C none) ∧ Q .non H1
theorem pe_xini {pl : Sem Bool} {Bs : PySem.Str} (hB : Bs = PySem.Str.ofString B) (T : XCls X.K C fI B nB nw ini bm) (hg : Gl X Bs) (hm : X.mg Bs = none) (ha : PA X (e :: es) ta)
    (hn : Bs ≠ "__name__") (hdb : (Bs == ("__debug__" : PySem.Str)) = false)
    (hc : eval (.Call (.Attribute (.Name Bs p1) "__init__" p2) (e :: es) [] pos) X.env = (do
      let ov ← eval (.Name Bs p1) X.env
      standAt p2.atName
      let (f, first) ← holding [ov] (getMethod ov "__init__" pl)
      callWith pos f first (backTo pos (starEach (e :: es) X.env)) (backToKw pos (keywordEach [] X.env))))
    (he : starEach (e :: es) X.env = (false, eval e X.env) :: starEach es X.env) (hpl : (backTo pos (starEach es X.env)).any (·.1) = false) :
    PE X (.Call (.Attribute (.Name Bs p1) "__init__" p2) (e :: es) [] pos) (tXini C ta) := by
  refine ⟨fun pins s σ H Q J h => ?_⟩
  have hbt : bootBuiltins Bs = some (.type B) := by rw [hB]; exact T.F.boot
  refine PySem.W.methodCall_KW (ld_blt J hg hm hbt ?_ hn hdb) hc
  obtain ⟨m, fr⟩ := J.fr
  refine PySem.W.method_type fr J.ok.mod.kin T.F.ty T.F.stub T.vi T.hi ?_
  show wpAny _ _ (callWith pos (Value.builtin ini) [] (backTo pos (starEach (e :: es) X.env)) []) _ _ _
  refine PyProof.Rows.callWith_method1 (thn (ha.run pos pins _ σ H _ (J.tok _) h) fun us s1 ⟨vs, H1, J1, r1, a, ws, ev, hl, ea, q⟩ => ?_) he hpl
  subst ev
  cases r1 with
  | @cons _ u0 _ ur ra rw' =>
    cases (show u0 = Value.ref a from ra)
    have len : ur.length ≤ sizeLine := by
      rw [← Paired.length rw', sizeLine_eq]
      omega
    exact xini_ok T J1 ea len fun s' J2 => ⟨.non, H1, J2, rfl, q⟩
/-- self.f = e -/
def tXst (C : Addr) (f : PySem.Str) (to te : TE) : TS := fun D σ H => te σ H fun y H1 => to σ H1 fun x H2 => ∃ a : Addr, x = .ref a ∧
  ((H2 a = some (exo a C none) ∧ ∀ dx, H2 dx = none → dx ≠ a → D.nx σ (upd (upd H2 dx (exd dx [(f, y)])) a (exo a C (some dx)))) ∨
    ∃ (dx : Addr) (gs : List (PySem.Str × V)), H2 a = some (exo a C (some dx)) ∧ H2 dx = some (exd dx gs) ∧ gs.length ≤ 900 ∧ D.nx σ (upd H2 dx (exd dx ((f, y) :: gs))))
theorem ps_xst (T : XCls X.K C fI B nB nw ini bm) (no : PySem.W.findIn X.K (.ref C) f = some none) (ho : PE X o to) (he : PE X e te) (hs : swapsWith e (some (.Attribute o f p')) pos.line X.env = pure false) : PS X (.Assign [.Attribute o f p'] e pos) (tXst C f to te) := by
  refine ⟨fun pins s σ H D J h => ?_⟩
  refine plainObj_wpAny_Assign_Attribute (thn (he.run pins s σ H _ J h) fun v s1 ⟨y, H1, J1, r1, q1⟩ => thn (ho.run pins s1 σ H1 _ J1 q1) fun u s2 ⟨x, H2, J2, r2, a, ex, q⟩ => ?_) hs
  subst ex
  cases (show u = Value.ref a from r2)
  rcases q with ⟨ea, q⟩ | ⟨dx, gs, ea, ed, hl, q⟩
  · exact xst_new T J2 ea no r1 fun dx s' n ne I3 => ⟨σ, _, I3, q dx n ne⟩
  · exact xst_more T J2 ea ed hl no r1 fun s' I3 => ⟨σ, _, I3, q⟩
end

/-! ### the text of such an __init__ -/
/-- a method's call, written in one line -/
theorem meth_eq {o : Expr} {m : PySem.Str} {apos pos : Pos} {args : List Expr} {kws : List Keyword} {env : Env} (hb : attributeBase o m env (eval o env) = eval o env) (hl : (apos.endLine == pos.line) = true)
    (hf : methodCallForm (args.length + kws.length) (backTo pos (starEach args env)) (backToKw pos (keywordEach kws env)) = true) : eval (.Call (.Attribute o m apos) args kws pos) env = (do
      let ov ← eval o env
      standAt apos.atName
      let (f, first) ← holding [ov] (getMethod ov m (do return (← importBound o env).getD true))
      callWith pos f first (backTo pos (starEach args env)) (backToKw pos (keywordEach kws env))) := by
  have e : eval (.Call (.Attribute o m apos) args kws pos) env = (do
      let ov ← attributeBase o m env (eval o env)
      standAt apos.atName
      methodCall o m apos pos env ov (args.length + kws.length) (backTo pos (starEach args env)) (backToKw pos (keywordEach kws env))) := rfl
  have e2 : methodCallPos true o env apos pos = pure pos := by
    unfold methodCallPos
    rw [hl]
    rfl
  rw [e, hb]
  unfold methodCall calleeOf
  rw [hf, e2]
  rfl
def isNm (x : PySem.Str) : Expr → Bool
  | .Name y _ => decide (y = x)
  | _ => false
/-- self.f = p, one after another -/
def isXs : List (PySem.Str × PySem.Str) → List Stmt → Bool
  | [], [] => true
  | (f, p) :: r, .Assign [.Attribute (.Name s _) g _] (.Name q _) _ :: sts => decide (s = PySem.Str.ofString "self") && decide (g = f) && decide (q = p) && isXs r sts
  | _, _ => false
/-- B.__init__(self, 'text'), then the fields -/
def isXb (B : PySem.Str) (fs : List (PySem.Str × PySem.Str)) : List Stmt → Bool
  | .Expr (.Call (.Attribute (.Name b _) m p2) [.Name s _, .Constant (.str _) _ _] [] p6) _ :: sts => (p2.endLine == p6.line) && decide (b = B) && decide (m = PySem.Str.ofString "__init__") && decide (s = PySem.Str.ofString "self") && isXs fs sts
  | _ => false
def tXs (C : Addr) : List PySem.Str → Nat → TS
  | [], _ => tNext
  | f :: fs, j => tSeq (tXst C f (tVar 0) (tVar j)) (tXs C fs (j + 1))
/-- a parameter is seen -/
structure Par (X : Cx) (i : Nat) (x : PySem.Str) : Prop where
  at_ : X.N[i]? = some x
  vis : Vis X.env.scope x
  db : (x == ("__debug__" : PySem.Str)) = false
  cd : (x == ("__classdict__" : PySem.Str)) = false
section
variable {X : Cx} {C fI : Addr} {B nB nw ini : String} {bm : List Value}
theorem pe_par {i : Nat} {x : PySem.Str} {pos : Pos} (h : Par X i x) : PE X (.Name x pos) (tVar i) := pe_var h.at_ h.vis h.db h.cd
theorem pss_xs (T : XCls X.K C fI B nB nw ini bm) (h0 : Par X 0 (PySem.Str.ofString "self")) : ∀ (fs : List (PySem.Str × PySem.Str)) (j : Nat) (sts : List Stmt), isXs fs sts = true → (∀ (i : Nat) q, fs[i]? = some q → Par X (j + i) q.2) →
    (∀ q ∈ fs, PySem.W.findIn X.K (.ref C) q.1 = some none) → PSs X sts (tXs C (fs.map (·.1)) j)
  | [], j, sts, h, _, _ => by
    cases sts with
    | nil => exact pss_nil
    | cons _ _ => cases h
  | (f, p) :: r, j, sts, h, hp, no => by
    unfold isXs at h
    split at h
    · rename_i e2
      cases e2
    · rename_i f' p' r' s y g z q w v sts' e1
      cases e1
      rw [Bool.and_eq_true, Bool.and_eq_true, Bool.and_eq_true, decide_eq_true_iff, decide_eq_true_iff, decide_eq_true_iff] at h
      obtain ⟨⟨⟨rfl, rfl⟩, rfl⟩, h⟩ := h
      refine pss_cons (ps_xst T (no _ List.mem_cons_self) (pe_par h0) (pe_par (hp 0 _ rfl)) rfl) ?_
      exact pss_xs T h0 r (j + 1) sts' h (fun i q e => by
        have := hp (i + 1) q e
        rw [show j + 1 + i = j + (i + 1) by omega]
        exact this) fun q hq => no q (List.mem_cons_of_mem _ hq)
    · cases h
theorem pss_xb (T : XCls X.K C fI B nB nw ini bm) {Bs : PySem.Str} (hB : Bs = PySem.Str.ofString B) (hg : Gl X Bs) (hm : X.mg Bs = none) (hn : Bs ≠ "__name__") (hdb : (Bs == ("__debug__" : PySem.Str)) = false) (h0 : Par X 0 (PySem.Str.ofString "self")) {fs : List (PySem.Str × PySem.Str)} {sts : List Stmt} (h : isXb Bs fs sts = true) (hp : ∀ (i : Nat) q, fs[i]? = some q → Par X (1 + i) q.2)
    (no : ∀ q ∈ fs, PySem.W.findIn X.K (.ref C) q.1 = some none) : ∃ x, PSs X sts (tSeq (tDrop (tXini C (tCons (tVar 0) (tCons (tC (.str x)) tNil)))) (tXs C (fs.map (·.1)) 1)) := by
  unfold isXb at h
  split at h
  · rename_i b p1 m p2 sf p3 x p4 p5 p6 p7 sts'
    rw [Bool.and_eq_true, Bool.and_eq_true, Bool.and_eq_true, Bool.and_eq_true, decide_eq_true_iff, decide_eq_true_iff, decide_eq_true_iff] at h
    obtain ⟨⟨⟨⟨hl, rfl⟩, rfl⟩, rfl⟩, h⟩ := h
    refine ⟨x, pss_cons (ps_expr (pe_xini hB T hg hm (pa_cons (pe_par h0) (pa_cons pe_str pa_nil)) hn hdb (meth_eq rfl hl rfl) rfl rfl) rfl) (pss_xs T h0 fs 1 sts' h hp no)⟩
  · cases h
end
end Mi
/-! Mi, 10: the promise of such an __init__; the class called; its fields read; isinstance. -/
namespace Mi
open PySem PySem.Spec PyProof.Rows L2

/-- nothing is let out -/
def CXN : CXT := fun _ _ _ _ _ _ => False
/-! ### scopes, read -/
def parB (sc : Scope) (x : PySem.Str) : Bool := match sc.names.lookup x with
  | some .local => true
  | some .cell => true
  | _ => false
def glB (sc : Scope) (x : PySem.Str) : Bool := match sc.names.lookup x with
  | some .globalImplicit => true
  | _ => false
def nmB (x : PySem.Str) : Bool := !(x == ("__debug__" : PySem.Str)) && !(x == ("__classdict__" : PySem.Str)) && decide (x ≠ "__name__")
def scB (N P : List PySem.Str) (sc : Scope) : Bool := decide (sc.kind = .function) && !sc.isCoroutine && !sc.isGenerator && decide N.Nodup && decide (N.take P.length = P) && P.all (parB sc) && sc.names.all (fun y => decide (y.2 ≠ .free)) && N.all nmB
theorem parB_ok {sc : Scope} {x : PySem.Str} (h : parB sc x = true) : sc.names.lookup x = some .local ∨ sc.names.lookup x = some .cell := by
  unfold parB at h
  split at h
  · exact .inl (by assumption)
  · exact .inr (by assumption)
  · cases h
theorem glB_ok {sc : Scope} {x : PySem.Str} (h : glB sc x = true) : sc.names.lookup x = some .globalImplicit := by
  unfold glB at h
  split at h
  · assumption
  · cases h
theorem nmB_ok {x : PySem.Str} (h : nmB x = true) : (x == ("__debug__" : PySem.Str)) = false ∧ (x == ("__classdict__" : PySem.Str)) = false ∧ x ≠ "__name__" := by
  unfold nmB at h
  rw [Bool.and_eq_true, Bool.and_eq_true, Bool.not_eq_true', Bool.not_eq_true', decide_eq_true_iff] at h
  exact ⟨h.1.1, h.1.2, h.2⟩
theorem scB_ok {N P : List PySem.Str} {sc : Scope} (h : scB N P sc = true) : FnScope N P sc ∧ ∀ x ∈ N, nmB x = true := by
  unfold scB at h
  rw [Bool.and_eq_true, Bool.and_eq_true, Bool.and_eq_true, Bool.and_eq_true, Bool.and_eq_true, Bool.and_eq_true, Bool.and_eq_true, decide_eq_true_iff, decide_eq_true_iff, decide_eq_true_iff, List.all_eq_true, List.all_eq_true, List.all_eq_true, Bool.not_eq_true', Bool.not_eq_true'] at h
  obtain ⟨⟨⟨⟨⟨⟨⟨h1, h2⟩, h3⟩, h4⟩, h5⟩, h6⟩, h7⟩, h8⟩ := h
  exact ⟨⟨h1, h2, h3, h4, h5, fun x hx => parB_ok (h6 x hx), fun y hy => of_decide_eq_true (h7 y hy)⟩, h8⟩

/-! ### the init's promise -/
def spX (C : Addr) (fs : List PySem.Str) : Sp := fun vs H Q _ => ∃ (a : Addr) (xs : List V), vs = .ref a :: xs ∧ xs.length = fs.length ∧ fs.length ≤ 900 ∧ H a = some (exo a C none) ∧
  ((fs = [] → Q .non H) ∧ (fs ≠ [] → ∀ dx, H dx = none → dx ≠ a → Q .non (upd (upd H dx (exd dx (fs.zip xs).reverse)) a (exo a C (some dx)))))
theorem xs_more {C a dx : Addr} {D0 : Ends} {σ : L2.St} : ∀ {fs : List PySem.Str} {j : Nat} {xs : List V} {gs : List (PySem.Str × V)} {H : Hp}, σ[0]? = some (some (.ref a)) → H a = some (exo a C (some dx)) → H dx = some (exd dx gs) → dx ≠ a → gs.length + fs.length ≤ 900 → xs.length = fs.length →
    (∀ (i : Nat) x, xs[i]? = some x → σ[j + i]? = some (some x)) → D0.nx σ (upd H dx (exd dx ((fs.zip xs).reverse ++ gs))) → tXs C fs j D0 σ H
  | [], j, xs, gs, H, h0, e, ed, ne, hl, hx, hv, k => by
    have eu : upd H dx (exd dx gs) = H := by
      funext b
      by_cases hb : b = dx
      · rw [hb, upd_same, ed]
      · rw [upd_ne hb]
    have k' : D0.nx σ (upd H dx (exd dx gs)) := k
    rw [eu] at k'
    exact k'
  | f :: fs, j, [], gs, H, h0, e, ed, ne, hl, hx, hv, k => by cases hx
  | f :: fs, j, x :: xs, gs, H, h0, e, ed, ne, hl, hx, hv, k => by
    rw [List.length_cons] at hl
    refine ⟨x, hv 0 x rfl, .ref a, h0, a, rfl, .inr ⟨dx, gs, e, ed, by omega, ?_⟩⟩
    refine xs_more (gs := (f, x) :: gs) h0 (by rw [upd_ne (Ne.symm ne)]; exact e) upd_same ne (by rw [List.length_cons]; omega) (Nat.succ.inj hx) (fun i z hi => ?_) ?_
    · have := hv (i + 1) z hi
      rw [show j + 1 + i = j + (i + 1) by omega]
      exact this
    · rw [upd_upd]
      rw [show (fs.zip xs).reverse ++ (f, x) :: gs = ((f :: fs).zip (x :: xs)).reverse ++ gs by simp]
      exact k
theorem start_get {N : List PySem.Str} {vs : List V} {i : Nat} {v : V} (h : vs[i]? = some v) : (L2.start N vs)[i]? = some (some v) := by
  unfold L2.start
  have hi : i < vs.length := by
    rcases Nat.lt_or_ge i vs.length with q | q
    · exact q
    · rw [List.getElem?_eq_none q] at h
      cases h
  rw [List.getElem?_append_left (by simpa using hi), List.getElem?_map, h]
  rfl
theorem xs_all {C a : Addr} {D0 : Ends} {fs N : List PySem.Str} {xs : List V} {H : Hp} {x : PySem.Str} (hx : xs.length = fs.length) (hl : fs.length ≤ 900) (e : H a = some (exo a C none))
    (k0 : fs = [] → D0.nx (L2.start N (.ref a :: xs)) H) (k : fs ≠ [] → ∀ dx, H dx = none → dx ≠ a → D0.nx (L2.start N (.ref a :: xs)) (upd (upd H dx (exd dx (fs.zip xs).reverse)) a (exo a C (some dx)))) :
    tSeq (tDrop (tXini C (tCons (tVar 0) (tCons (tC (.str x)) tNil)))) (tXs C fs 1) D0 (L2.start N (.ref a :: xs)) H := by
  refine ⟨.ref a, start_get rfl, ?_⟩
  refine ⟨a, [.str x], rfl, by show 1 ≤ 1000; decide, e, ?_⟩
  cases fs with
  | nil => exact k0 rfl
  | cons f fs =>
    cases xs with
    | nil => cases hx
    | cons v xs =>
      rw [List.length_cons] at hl
      refine ⟨v, start_get rfl, .ref a, start_get rfl, a, rfl, .inl ⟨e, fun dx hn ne => ?_⟩⟩
      refine xs_more (a := a) (dx := dx) (gs := [(f, v)]) (start_get rfl) upd_same (by rw [upd_ne ne, upd_same]) ne (by show 1 + _ ≤ 900; omega) (Nat.succ.inj hx) (fun i z hi => start_get (by rw [show 1 + 1 + i = i + 1 + 1 by omega]; exact hi)) ?_
      have := k (fun z => by cases z) dx hn ne
      rw [show (fs.zip xs).reverse ++ [(f, v)] = ((f :: fs).zip (v :: xs)).reverse by simp]
      have eu : upd (upd (upd H dx (exd dx [(f, v)])) a (exo a C (some dx))) dx (exd dx ((f :: fs).zip (v :: xs)).reverse) = upd (upd H dx (exd dx ((f :: fs).zip (v :: xs)).reverse)) a (exo a C (some dx)) := by
        funext b
        by_cases hb : b = dx
        · rw [hb, upd_same, upd_ne ne, upd_same]
        · rw [upd_ne hb]
          by_cases ha : b = a
          · rw [ha, upd_same, upd_same]
          · rw [upd_ne ha, upd_ne ha, upd_ne hb, upd_ne hb]
      rw [eu]
      exact this
section
variable {P : Program} {w : World} {K : PySem.W.Frag} {mg : PySem.Str → Option Value} {base : Heap} {C fI : Addr} {B nB nw ini : String} {bm : List Value}
/-- what of an init's text is looked at: fs: (field, parameter) -/
structure InitT (K : PySem.W.Frag) (mg : PySem.Str → Option Value) (C fI : Addr) (B : String) (fs : List (PySem.Str × PySem.Str)) (fd : FuncData) : Prop where
  ex : ∃ (x qual : PySem.Str) (params : Arguments) (body : List Stmt) (scope : Scope), FunD K x qual params body scope [] [] fI fd ∧ isXb (PySem.Str.ofString B) fs body = true ∧ scB (PySem.Str.ofString "self" :: fs.map (·.2)) (PySem.Str.ofString "self" :: fs.map (·.2)) scope = true ∧ glB scope (PySem.Str.ofString B) = true
  nm : nmB (PySem.Str.ofString B) = true
  fr : mg (PySem.Str.ofString B) = none
  no : ∀ q ∈ fs, PySem.W.findIn K (.ref C) q.1 = some none
theorem init_ok {fs : List (PySem.Str × PySem.Str)} {fd : FuncData} (T : XCls K C fI B nB nw ini bm) (F : InitT K mg C fI B fs fd) : FnOk P w K mg base CXN 1 fI fd (PySem.Str.ofString "self" :: fs.map (·.2)) (spX C (fs.map (·.1))) := by
  obtain ⟨x, qual, params, body, scope, FD, hb, hs, hg⟩ := F.ex
  obtain ⟨S, nms⟩ := scB_ok hs
  refine FD.ok S (fun vs H Q E h => ?_) fun cdv A outer s H vs Q E hr h => ?_
  · obtain ⟨a, xs, rfl, hl, _⟩ := h
    rw [List.length_cons, List.length_cons, hl, List.length_map, List.length_map]
  · obtain ⟨a, xs, rfl, hx, hl, e, k0, k⟩ := h
    have par : ∀ (i : Nat) y, (PySem.Str.ofString "self" :: fs.map (·.2))[i]? = some y → Par (cxOf CXN P w K mg base (PySem.Str.ofString "self" :: fs.map (·.2)) qual scope fI cdv A outer s H E) i y := fun i y hi => by
      have hy := List.mem_of_getElem? hi
      obtain ⟨n1, n2, n3⟩ := nmB_ok (nms y hy)
      refine ⟨hi, ?_, n1, n2⟩
      rcases S.par y hy with q | q
      · exact .inl q
      · exact .inr (.inl q)
    obtain ⟨n1, n2, n3⟩ := nmB_ok F.nm
    obtain ⟨tx, hp⟩ := pss_xb (X := cxOf CXN P w K mg base (PySem.Str.ofString "self" :: fs.map (·.2)) qual scope fI cdv A outer s H E) T (Bs := PySem.Str.ofString B) rfl (glB_ok hg) F.fr n3 n1 (par 0 _ rfl) hb (fun i q hi => by
      refine par (1 + i) q.2 ?_
      rw [show 1 + i = i + 1 by omega, List.getElem?_cons_succ, List.getElem?_map, hi]
      rfl) F.no
    exact ⟨_, hp, xs_all hx hl e k0 k⟩
end
end Mi
/-! Mi, 11: the arguments of a call, by place and by name; an exception class called. -/
namespace Mi
open PySem PySem.Spec PyProof.Rows L2

def noStar : List Expr → Bool
  | [] => true
  | .Starred _ _ :: _ => false
  | _ :: r => noStar r
theorem noStar_cons {e : Expr} {es : List Expr} {env : Env} (h : noStar (e :: es) = true) : starEach (e :: es) env = (false, eval e env) :: starEach es env ∧ noStar es = true := by
  cases e <;> first
    | (cases h; done)
    | exact ⟨rfl, h⟩
theorem noStar_any {pos : Pos} {env : Env} : ∀ {es : List Expr}, noStar es = true → (backTo pos (starEach es env)).any (·.1) = false
  | [], _ => rfl
  | e :: es, h => by
    obtain ⟨e1, h2⟩ := noStar_cons (env := env) h
    rw [e1]
    show (false || (backTo pos (starEach es env)).any (·.1)) = false
    rw [noStar_any h2]
    rfl
def kwNames : List Keyword → Option (List PySem.Str)
  | [] => some []
  | ⟨some n, _, _⟩ :: r => (kwNames r).map (n :: ·)
  | ⟨none, _, _⟩ :: _ => none
theorem kwNames_ok {pos : Pos} {env : Env} : ∀ {kws : List Keyword} {ks : List PySem.Str}, kwNames kws = some ks →
    (backToKw pos (keywordEach kws env)).all (·.1.isSome) = true ∧ (backToKw pos (keywordEach kws env)).filterMap (·.1) = ks ∧ (backToKw pos (keywordEach kws env)).any (·.1.isNone) = false
  | [], ks, h => by cases h; exact ⟨rfl, rfl, rfl⟩
  | ⟨some n, e, p⟩ :: r, ks, h => by
    obtain ⟨ks', h1, rfl⟩ := Option.map_eq_some_iff.mp (show (kwNames r).map (n :: ·) = some ks from h)
    obtain ⟨a1, a2, a3⟩ := kwNames_ok (pos := pos) (env := env) h1
    refine ⟨?_, ?_, ?_⟩
    · show (true && (backToKw pos (keywordEach r env)).all (·.1.isSome)) = true
      rw [a1]
      rfl
    · show n :: (backToKw pos (keywordEach r env)).filterMap (·.1) = n :: ks'
      rw [a2]
    · show (false || (backToKw pos (keywordEach r env)).any (·.1.isNone)) = false
      rw [a3]
      rfl
  | ⟨none, _, _⟩ :: _, ks, h => by cases h
section
variable {X : Cx} {T : Tb} {es : List Expr} {kws : List Keyword} {fs gs : Gam → M (List D)} {ks : List PySem.Str} {f : Value} {pos : Pos} {pins : List (Addr × Obj)} {s : Shared} {σ : L2.St} {H : Hp} {I : Hp} {ρ : List Addr} {S S1 S2 : Sto} {Γ : Gam} {ds zs : List D} {Q : Value → Shared → Prop}
theorem args_M (hst : noStar es = true) (hks : kwNames kws = some ks) (ha : PA X es (tMs X.K T fs)) (hg : PK X kws (tMs X.K T gs)) (hk : PySem.W.keepIn X.K f = true) (n1 : es = [] → ∀ Γ, fs Γ = M.ret []) (n2 : kws = [] → ∀ Γ, gs Γ = M.ret []) (J : Inv X pins σ H s) (sr : SR X.K T I ρ S H) (er : ER X.K T ρ I σ Γ)
    (e1 : fs Γ S = some (ds, S1)) (e2 : gs Γ S1 = some (zs, S2))
    (k : ∀ us ws s2 vs vz I2 ρ2 H2, Inv X pins σ H2 s2 → Vals vs us → Vals vz ws → SR X.K T I2 ρ2 S2 H2 → Stp I ρ S H I2 ρ2 S2 H2 → RepL X.K T ρ2 I2 ds vs → RepL X.K T ρ2 I2 zs vz → wpAny (model X.prog X.w) X.A (call f us (ks.zip ws)) Q X.xe s2) :
    wpAny (model X.prog X.w) X.A (callWith pos f [] (backTo pos (starEach es X.env)) (backToKw pos (keywordEach kws X.env))) Q X.xe s := by
  have key : ∀ us s1, AP X pins σ (fun vs H1 => ∃ I1 ρ1, SR X.K T I1 ρ1 S1 H1 ∧ ER X.K T ρ1 I1 σ Γ ∧ Stp I ρ S H I1 ρ1 S1 H1 ∧ RepL X.K T ρ1 I1 ds vs) us s1 →
      (∀ P : List Value → Shared → Prop, (∀ ws s2 vs vz I2 ρ2 H2, Inv X pins σ H2 s2 → Vals vs us → Vals vz ws → SR X.K T I2 ρ2 S2 H2 → Stp I ρ S H I2 ρ2 S2 H2 → RepL X.K T ρ2 I2 ds vs → RepL X.K T ρ2 I2 zs vz → P ws s2) →
        wpAny (model X.prog X.w) X.A (evalAll ((backToKw pos (keywordEach kws X.env)).map (·.2))) P X.xe s1) := fun us s1 ⟨vs, H1, J1, r1, I1, ρ1, sr1, er1, p1, q1⟩ P hP => by
    refine thn (hg.run pos pins s1 σ H1 (fun vz H2 => ∃ I2 ρ2, SR X.K T I2 ρ2 S2 H2 ∧ Stp I ρ S H I2 ρ2 S2 H2 ∧ RepL X.K T ρ2 I2 ds vs ∧ RepL X.K T ρ2 I2 zs vz) J1 (tMs.use sr1 er1 e2 fun vz I2 ρ2 H2 sr2 er2 p2 q2 => ⟨I2, ρ2, sr2, p1.trans p2, q1.stp p2, q2⟩)) fun ws s2 ⟨vz, H2, J2, r2, I2, ρ2, sr2, p2, a1, a2⟩ => ?_
    exact hP ws s2 vs vz I2 ρ2 H2 J2 r1 r2 sr2 p2 a1 a2
  have first := ha.run pos pins s σ H (fun vs H1 => ∃ I1 ρ1, SR X.K T I1 ρ1 S1 H1 ∧ ER X.K T ρ1 I1 σ Γ ∧ Stp I ρ S H I1 ρ1 S1 H1 ∧ RepL X.K T ρ1 I1 ds vs) J (tMs.use sr er e1 fun vs I1 ρ1 H1 sr1 er1 p1 r1 => ⟨I1, ρ1, sr1, er1, p1, r1⟩)
  obtain ⟨k1, k2, k3⟩ := kwNames_ok (pos := pos) (env := X.env) hks
  cases es with
  | nil =>
    have z1 := n1 rfl Γ
    rw [z1] at e1
    cases e1
    cases kws with
    | nil =>
      have z2 := n2 rfl Γ
      rw [z2] at e2
      cases e2
      cases hks
      exact PySem.W.callWith_K0 J.kIn hk (k [] [] s [] [] I ρ H J .nil .nil sr Stp.refl rfl rfl)
    | cons kw kws =>
      refine PySem.W.callWith_KW0 (h₀ := X.base) J.ok.mod.kin hk k1 (key [] s ⟨[], H, J, .nil, I, ρ, sr, er, Stp.refl, rfl⟩ _ fun ws s2 vs vz I2 ρ2 H2 J2 r1 r2 sr2 p2 a1 a2 => ⟨J2.kIn, ?_⟩) (by show (false || (backToKw pos (keywordEach (kw :: kws) X.env)).any (·.1.isNone)) = false; rw [k3]; rfl)
      rw [k2]
      exact k [] ws s2 vs vz I2 ρ2 H2 J2 r1 r2 sr2 p2 a1 a2
  | cons e es =>
    obtain ⟨q1, q2⟩ := noStar_cons (env := X.env) hst
    cases kws with
    | nil =>
      have z2 := n2 rfl Γ
      rw [z2] at e2
      cases e2
      cases hks
      refine PySem.W.callWith_K (h₀ := X.base) J.ok.mod.kin hk (thn first fun us s1 ⟨vs, H1, J1, r1, I1, ρ1, sr1, er1, p1, q⟩ => ⟨J1.kIn, ?_⟩) q1 (noStar_any q2)
      exact k us [] s1 vs [] I1 ρ1 H1 J1 r1 .nil sr1 p1 q rfl
    | cons kw kws =>
      refine PySem.W.callWith_KW (h₀ := X.base) J.ok.mod.kin hk k1 (thn first fun us s1 hu => key us s1 hu _ fun ws s2 vs vz I2 ρ2 H2 J2 r1 r2 sr2 p2 a1 a2 => ⟨J2.kIn, ?_⟩) ?_ q1
      · rw [k2]
        exact k us ws s2 vs vz I2 ρ2 H2 J2 r1 r2 sr2 p2 a1 a2
      · rw [noStar_any hst, k3]
        rfl
end
end Mi
/-! Mi, 12: an exception class called. -/
namespace Mi
open PySem PySem.Spec PyProof.Rows L2

theorem lookup_nodup {α : Type} {k : PySem.Str} {v : α} : ∀ {l : List (PySem.Str × α)}, (k, v) ∈ l → (l.map (·.1)).Nodup → l.lookup k = some v
  | [], h, _ => by cases h
  | (a, b) :: l, h, nd => by
    rw [List.map_cons, List.nodup_cons] at nd
    rw [List.lookup_cons]
    rcases List.mem_cons.mp h with e | h2
    · cases e
      rw [beq_self_eq_true]
    · have : (k == a) = false := by
        cases q : (k == a) with
        | false => rfl
        | true =>
          rw [beq_iff_eq] at q
          subst q
          exact absurd (show k ∈ l.map (·.1) from List.mem_map_of_mem (f := fun y : PySem.Str × α => y.1) h2) nd.1
      rw [this]
      exact lookup_nodup h2 nd.2
theorem zip_nodup {α : Type} {ps : List PySem.Str} {us : List α} (h : us.length ≤ ps.length) (nd : ps.Nodup) : ((ps.zip us).map (·.1)).Nodup := by
  rw [map_fst_zip h]
  exact nd.sublist (List.take_sublist _ _)
theorem pick_same {α : Type} : ∀ {ps : List PySem.Str} {us : List α} {l : List (PySem.Str × α)}, (∀ (i : Nat) p u, ps[i]? = some p → us[i]? = some u → l.lookup p = some u) → us.length = ps.length → pick ps l = us
  | [], [], _, _, _ => rfl
  | [], _ :: _, _, _, h => by cases h
  | _ :: _, [], _, _, h => by cases h
  | p :: ps, u :: us, l, h, hl => by
    unfold pick
    rw [List.filterMap_cons, h 0 p u rfl rfl]
    show u :: pick ps l = u :: us
    rw [pick_same (fun i p' u' h1 h2 => h (i + 1) p' u' h1 h2) (Nat.succ.inj hl)]
theorem mem_zip_at {α : Type} : ∀ {ps : List PySem.Str} {us : List α} {i : Nat} {p : PySem.Str} {u : α}, ps[i]? = some p → us[i]? = some u → (p, u) ∈ ps.zip us
  | [], _, _, _, _, h, _ => by simp at h
  | _ :: _, [], _, _, _, _, h => by simp at h
  | p :: ps, u :: us, 0, _, _, h1, h2 => by
    cases h1; cases h2
    exact List.mem_cons_self
  | p :: ps, u :: us, i + 1, _, _, h1, h2 => List.mem_cons_of_mem _ (mem_zip_at (i := i) (by simpa using h1) (by simpa using h2))
theorem bindD_ok {ps ks : List PySem.Str} {ds zs xs : List D} (h : bindD ps ds ks zs = some xs) (nd : ps.Nodup) : kwOk ps ds.length ks = true ∧ zs.length = ks.length ∧ xs = pick ps (ps.zip ds ++ ks.zip zs) ∧ xs.length = ps.length := by
  cases ks with
  | nil =>
    simp only [bindD] at h
    split at h
    · rename_i c
      cases h
      refine ⟨?_, c.2, ?_, c.1⟩
      · unfold kwOk
        rw [Bool.and_eq_true, Bool.and_eq_true, Bool.and_eq_true, decide_eq_true_iff, decide_eq_true_iff, List.all_eq_true, List.all_eq_true]
        refine ⟨⟨⟨by omega, ?_⟩, fun x hx => by cases hx⟩, fun x hx => ?_⟩
        · rw [List.append_nil]
          exact nd.sublist (List.take_sublist _ _)
        · rw [List.append_nil, c.1, List.take_length]
          exact List.contains_iff_mem.mpr hx
      · rw [List.zip_nil_left, List.append_nil]
        exact (pick_same (fun i p u h1 h2 => lookup_nodup (mem_zip_at h1 h2) (zip_nodup (by omega) nd)) c.1).symm
    · cases h
  | cons k ks =>
    simp only [bindD] at h
    split at h
    · rename_i c
      cases h
      obtain ⟨h1, h2, h3, h4⟩ := kwOk_of c.1 c.2
      exact ⟨c.1, c.2, rfl, (pick_zip h4).2⟩
    · cases h
theorem rep_lookup {K : PySem.W.Frag} {T : Tb} {ρ : List Addr} {I : Hp} {k : PySem.Str} : ∀ {ps : List PySem.Str} {ds : List D} {vs : List V}, RepL K T ρ I ds vs → ((ps.zip ds).lookup k = none ∧ (ps.zip vs).lookup k = none) ∨ ∃ d v, (ps.zip ds).lookup k = some d ∧ (ps.zip vs).lookup k = some v ∧ Rep K T ρ I d v
  | [], _, _, _ => .inl ⟨rfl, rfl⟩
  | _ :: _, [], _, h => by cases h; exact .inl ⟨rfl, rfl⟩
  | p :: ps, d :: ds, _, h => by
    obtain ⟨x, ys, rfl, h1, h2⟩ := h
    rw [List.zip_cons_cons, List.zip_cons_cons, List.lookup_cons, List.lookup_cons]
    cases z : (k == p) with
    | true => exact .inr ⟨d, x, rfl, rfl, h1⟩
    | false => exact rep_lookup h2
theorem lookup_app {α : Type} {k : PySem.Str} : ∀ {l r : List (PySem.Str × α)}, (l ++ r).lookup k = match l.lookup k with
    | some v => some v
    | none => r.lookup k
  | [], _ => rfl
  | (a, b) :: l, r => by
    rw [List.cons_append, List.lookup_cons, List.lookup_cons]
    cases z : (k == a) with
    | true => rfl
    | false => exact lookup_app
theorem rep_pick {K : PySem.W.Frag} {T : Tb} {ρ : List Addr} {I : Hp} {qs ks : List PySem.Str} {ds zs : List D} {vs vz : List V} (h1 : RepL K T ρ I ds vs) (h2 : RepL K T ρ I zs vz) : ∀ ps : List PySem.Str, RepL K T ρ I (pick ps (qs.zip ds ++ ks.zip zs)) (pick ps (qs.zip vs ++ ks.zip vz))
  | [] => rfl
  | p :: ps => by
    unfold pick
    rw [List.filterMap_cons, List.filterMap_cons, lookup_app, lookup_app]
    rcases rep_lookup (ps := qs) (k := p) h1 with ⟨e1, e2⟩ | ⟨d, v, e1, e2, q⟩
    · rw [e1, e2]
      dsimp only
      rcases rep_lookup (ps := ks) (k := p) h2 with ⟨e3, e4⟩ | ⟨d, v, e3, e4, q⟩
      · rw [e3, e4]
        exact rep_pick h1 h2 ps
      · rw [e3, e4]
        exact .cons q (rep_pick h1 h2 ps)
    · rw [e1, e2]
      exact .cons q (rep_pick h1 h2 ps)
/-- self ahead -/
theorem kwOk_self {self : PySem.Str} {ps ks : List PySem.Str} {n : Nat} (h : kwOk ps n ks = true) (hs : self ∉ ps) : kwOk (self :: ps) (n + 1) ks = true := by
  unfold kwOk at h ⊢
  rw [Bool.and_eq_true, Bool.and_eq_true, Bool.and_eq_true, decide_eq_true_iff, decide_eq_true_iff, List.all_eq_true, List.all_eq_true] at h ⊢
  obtain ⟨⟨⟨c1, c2⟩, c3⟩, c4⟩ := h
  refine ⟨⟨⟨by rw [List.length_cons]; omega, ?_⟩, fun x hx => ?_⟩, fun x hx => ?_⟩
  · rw [List.take_succ_cons, List.cons_append, List.nodup_cons]
    refine ⟨fun z => ?_, c2⟩
    rcases List.mem_append.mp z with z | z
    · exact hs (List.mem_of_mem_take z)
    · exact hs (List.contains_iff_mem.mp (c3 _ z))
  · exact List.contains_iff_mem.mpr (List.mem_cons_of_mem _ (List.contains_iff_mem.mp (c3 x hx)))
  · rw [List.take_succ_cons, List.cons_append]
    rcases List.mem_cons.mp hx with rfl | hx
    · exact List.contains_iff_mem.mpr List.mem_cons_self
    · exact List.contains_iff_mem.mpr (List.mem_cons_of_mem _ (List.contains_iff_mem.mp (c4 x hx)))
theorem pick_self {α : Type} {self : PySem.Str} {ps : List PySem.Str} {u : α} {l : List (PySem.Str × α)} (hs : self ∉ ps) : pick (self :: ps) ((self, u) :: l) = u :: pick ps l := by
  have e : ∀ (qs : List PySem.Str), self ∉ qs → pick qs ((self, u) :: l) = pick qs l := by
    intro qs
    induction qs with
    | nil => intro _; rfl
    | cons q qs ih =>
      intro hq
      have : (q == self) = false := by
        cases z : (q == self) with
        | false => rfl
        | true =>
          rw [beq_iff_eq] at z
          exact absurd (by rw [← z]; exact List.mem_cons_self) hq
      unfold pick
      rw [List.filterMap_cons, List.filterMap_cons, List.lookup_cons, this]
      have i2 := ih fun z => hq (List.mem_cons_of_mem _ z)
      unfold pick at i2
      rw [i2]
  have e1 := e ps hs
  unfold pick at e1 ⊢
  rw [List.filterMap_cons, List.lookup_cons, beq_self_eq_true]
  dsimp only
  rw [e1]
abbrev selfN : PySem.Str := PySem.Str.ofString "self"
/-- an exception class that can be made: fps: its parameters, the field that each fills -/
structure XMk (P : Program) (w : World) (K : PySem.W.Frag) (mg : PySem.Str → Option Value) (base : Heap) (T : Tb) (c : Nat) (fps : List (PySem.Str × Nat)) : Prop where
  ex : ∃ fI B nB nw ini bm fd, XCls K (T.clA c) fI B nB nw ini bm ∧ FnOk P w K mg base CXN 1 fI fd (selfN :: fps.map (·.1)) (spX (T.clA c) (fps.map fun q => T.fld q.2)) ∧ PlainFd fd (selfN :: fps.map (·.1))
  nd1 : (selfN :: fps.map (·.1)).Nodup
  nd2 : (fps.map fun q => T.fld q.2).Nodup
  len : fps.length ≤ 900
theorem repx_of {K : PySem.W.Frag} {T : Tb} {ρ : List Addr} {I : Hp} {gs : List (PySem.Str × V)} : ∀ {is : List Nat} {ds : List D} {vs : List V}, RepL K T ρ I ds vs → (∀ (i : Nat) n v, is[i]? = some n → vs[i]? = some v → gs.lookup (T.fld n) = some v) → RepX K T ρ I (is.zip ds) gs
  | [], _, _, _, _ => trivial
  | _ :: _, [], _, _, _ => trivial
  | n :: is, d :: ds, _, r, h => by
    obtain ⟨x, ys, rfl, r1, r2⟩ := r
    exact ⟨⟨x, h 0 n x rfl rfl, r1⟩, repx_of r2 fun i n' v' h1 h2 => h (i + 1) n' v' h1 h2⟩
section
variable {X : Cx} {T : Tb} {es : List Expr} {kws : List Keyword} {fs gs : Gam → M (List D)} {ks : List PySem.Str} {x : PySem.Str} {p pos : Pos} {c : Nat} {fps : List (PySem.Str × Nat)}
theorem m_mkx (Mx : XMk X.prog X.w X.K X.mg X.base T c fps) (hg : Gl X x) (gC : X.mg x = some (.ref (T.clA c))) (hdb : (x == ("__debug__" : PySem.Str)) = false) (hr : Room 2 X.A)
    (hst : noStar es = true) (hks : kwNames kws = some ks) (ha : PA X es (tMs X.K T fs)) (hgk : PK X kws (tMs X.K T gs)) (n1 : es = [] → ∀ Γ, fs Γ = M.ret []) (n2 : kws = [] → ∀ Γ, gs Γ = M.ret []) (hl : Short fs) :
    PE X (.Call (.Name x p) es kws pos) (tM X.K T fun Γ => M.bnd (fs Γ) fun ds => M.bnd (gs Γ) fun zs => M.opt ((bindD (fps.map (·.1)) ds ks zs).map fun xs => .exc c ((fps.map (·.2)).zip xs))) := by
  obtain ⟨fI, B, nB, nw, ini, bm, fd, XC, F, Pf⟩ := Mx.ex
  refine ⟨fun pins s σ H Q J h => ?_⟩
  obtain ⟨I, ρ, S, Γ, d, S', sr, er, e, k⟩ := h
  obtain ⟨ds, S1, e1, e⟩ := bnd_some e
  obtain ⟨zs, S2, e2, e⟩ := bnd_some e
  obtain ⟨eo, rfl⟩ := opt_some e
  clear e
  obtain ⟨xs, eb, rfl⟩ := Option.map_eq_some_iff.mp eo
  clear eo
  have ns : selfN ∉ fps.map (·.1) := (List.nodup_cons.mp Mx.nd1).1
  obtain ⟨b1, b2, b3, b4⟩ := bindD_ok eb (List.nodup_cons.mp Mx.nd1).2
  refine wpAny_Call_Name_kw (ld_glob J hg gC ?_ hdb)
  refine args_M hst hks ha hgk XC.kp n1 n2 J sr er e1 e2 fun us ws s2 vs vz I2 ρ2 H2 J2 rv rz sr2 p2 q1 q2 => ?_
  have lu : us.length = ds.length := by rw [← rv.length, ← q1.length]
  have lw : ws.length = ks.length := by rw [← rz.length, ← q2.length, b2]
  obtain ⟨a1, a2, a3, a4, a5, a6, a7, a8, a9, c0, c1, c2, c3, c5, hC⟩ := XC.cls
  obtain ⟨hp, g, dr, tk, os⟩ := s2
  have hz : us.length ≤ sizeLine := by rw [lu]; exact short_line (hl _ _ _ _ e1)
  have kp : ∀ b o, hp.get? b = some o → ((hp.push (PySem.W.kdv_tup us)).push (xcO (T.clA c) hp.objs.size)).get? b = some o := fun b o z => Heap.get?_push_of_some _ (Heap.get?_push_of_some _ z)
  have made : ((hp.push (PySem.W.kdv_tup us)).push (xcO (T.clA c) hp.objs.size)).get? (hp.objs.size + 1) = some (xcO (T.clA c) hp.objs.size) := by heap_get
  have hn : H2 (hp.objs.size + 1) = none := J2.hok.fresh (Nat.le_succ _)
  have J3 : Inv X pins σ (upd H2 (hp.objs.size + 1) (exo (hp.objs.size + 1) (T.clA c) none)) ⟨(hp.push (PySem.W.kdv_tup us)).push (xcO (T.clA c) hp.objs.size), g, dr, tk, os⟩ :=
    J2.laid (t' := tk) kp (Nat.le_succ _) (exo_ok made)
  refine wpAny_call (xb_call XC.F (J2.kIn _ _ hC) (PySem.W.looks_findIn J2.kIn XC.iC) (fun self => PySem.W.bind_fn J2.kIn self XC.tI) hz ?_)
  have bd : BindsTo (⟨(hp.push (PySem.W.kdv_tup us)).push (xcO (T.clA c) hp.objs.size), g, dr, tk, os⟩ : Shared) fd ⟨.ref (hp.objs.size + 1) :: us, ks.zip ws⟩ ((selfN :: fps.map (·.1)).zip (.ref (hp.objs.size + 1) :: pick (fps.map (·.1)) ((fps.map (·.1)).zip us ++ ks.zip ws))) := by
    have z := binds_kw (s := ⟨(hp.push (PySem.W.kdv_tup us)).push (xcO (T.clA c) hp.objs.size), g, dr, tk, os⟩) (us := .ref (hp.objs.size + 1) :: us) (ws := ws) (ks := ks) Pf (kwOk_self (by rw [lu]; exact b1) ns) lw
    rw [List.zip_cons_cons, List.cons_append, pick_self ns] at z
    exact z
  have rp : RepL X.K T ρ2 I2 xs (pick (fps.map (·.1)) ((fps.map (·.1)).zip vs ++ ks.zip vz)) := by
    rw [b3]
    exact rep_pick q1 q2 _
  have vp : Vals (pick (fps.map (·.1)) ((fps.map (·.1)).zip vs ++ ks.zip vz)) (pick (fps.map (·.1)) ((fps.map (·.1)).zip us ++ ks.zip ws)) := pick_vals (pair_app (zip_pair rv) (zip_pair rz)) _
  have lp : (pick (fps.map (·.1)) ((fps.map (·.1)).zip vs ++ ks.zip vz)).length = fps.length := by rw [← rp.length, b4, List.length_map]
  have post := k.after p2
  generalize pick (fps.map (·.1)) ((fps.map (·.1)).zip vs ++ ks.zip vz) = ys at rp vp lp
  generalize pick (fps.map (·.1)) ((fps.map (·.1)).zip us ++ ks.zip ws) = yu at vp bd
  refine codeAny_mono (F.run _ X.stack _ _ _ _ (.ref (hp.objs.size + 1) :: ys) (fun v Hf => v = .non ∧ Q (.ref (hp.objs.size + 1)) Hf) (fun _ _ _ => False) (hr.make (T.clA c) us (ks.zip ws)) (J3.env0.make (T.clA c) us (ks.zip ws)) bd (.cons rfl vp) ?_) fun r s' hq => ?_
  · refine ⟨hp.objs.size + 1, ys, rfl, by rw [lp, List.length_map], by rw [List.length_map]; exact Mx.len, upd_same, fun z => ⟨rfl, ?_⟩, fun z dx hd ne => ⟨rfl, ?_⟩⟩
    · have z2 : fps = [] := by
        cases fps with
        | nil => rfl
        | cons _ _ => cases z
      subst z2
      refine post.new sr2 hn ⟨_, none, [], rfl, upd_same, rfl, trivial⟩
    · have hd2 : H2 dx = none := by
        rw [upd_ne ne] at hd
        exact hd
      have eu : upd (upd (upd H2 (hp.objs.size + 1) (exo (hp.objs.size + 1) (T.clA c) none)) dx (exd dx ((fps.map fun q => T.fld q.2).zip ys).reverse)) (hp.objs.size + 1) (exo (hp.objs.size + 1) (T.clA c) (some dx)) =
          upd (upd H2 dx (exd dx ((fps.map fun q => T.fld q.2).zip ys).reverse)) (hp.objs.size + 1) (exo (hp.objs.size + 1) (T.clA c) (some dx)) := by
        funext b
        by_cases hb : b = hp.objs.size + 1
        · rw [hb, upd_same, upd_same]
        · rw [upd_ne hb, upd_ne hb]
          by_cases hb2 : b = dx
          · rw [hb2, upd_same, upd_same]
          · rw [upd_ne hb2, upd_ne hb2, upd_ne hb]
      rw [eu]
      obtain ⟨sr4, p4⟩ := sr2.new (o := exd dx ((fps.map fun q => T.fld q.2).zip ys).reverse) hd2
      have hn4 : upd H2 dx (exd dx ((fps.map fun q => T.fld q.2).zip ys).reverse) (hp.objs.size + 1) = none := by rw [upd_ne (Ne.symm ne)]; exact hn
      obtain ⟨sr5, p5⟩ := sr4.new (o := exo (hp.objs.size + 1) (T.clA c) (some dx)) hn4
      refine post _ _ _ _ sr5 (p4.trans p5) ⟨hp.objs.size + 1, some dx, ((fps.map fun q => T.fld q.2).zip ys).reverse, rfl, upd_same, ?_, ?_⟩
      · show upd _ _ _ dx = _
        rw [upd_ne ne, upd_same]
      · refine repx_of ((rp.stp p4).stp p5) fun i n v h1 h2 => ?_
        have l1 : ys.length ≤ (fps.map fun q => T.fld q.2).length := by rw [List.length_map]; omega
        refine lookup_nodup (List.mem_reverse.mpr (mem_zip_at (i := i) ?_ h2)) ?_
        · rw [List.getElem?_map] at h1 ⊢
          cases e : fps[i]? with
          | none => rw [e] at h1; cases h1
          | some q => rw [e] at h1; cases h1; rfl
        · rw [List.map_reverse]
          exact (List.reverse_perm _).nodup_iff.mpr (zip_nodup l1 Mx.nd2)
  · cases r with
    | error e => exact hq.elim
    | ok fl =>
      cases fl with
      | ret u =>
        obtain ⟨v, H', J4, rv4, ev, q3⟩ := J3.after hq
        subst ev
        exact ⟨rv4, ⟨V.ref (hp.objs.size + 1), H', J4, rfl, q3⟩⟩
      | next => exact hq.elim
      | brk => exact hq.elim
      | cont => exact hq.elim
end
end Mi
/-! Mi, 13: data read off the heap; built-in functions; an exception's fields; isinstance. -/
namespace Mi
open PySem PySem.Spec PyProof.Rows L2

section
variable {X : Cx} {T : Tb} {pins : List (Addr × Obj)} {s : Shared} {σ : L2.St} {H : Hp} {I : Hp} {ρ : List Addr} {S : Sto}
theorem lst_reads (J : Inv X pins σ H s) (sm : H sysModules = none) (sk : ∃ o, s.heap.get? sysModules = some o ∧ o.cls ≠ .type "list") {a : Addr} {xs : List V} (h : LsI X.K H a xs) : ∃ (its : List Value) (n : Nat), Vals xs its ∧ s.heap.get? a = some { cls := .type "list", data := .seq its.toArray n } ∧ a ≠ sysModules := by
  obtain ⟨_, its, n, r, e⟩ := lst_obj J h
  refine ⟨its, n, r, e, fun z => ?_⟩
  subst z
  obtain ⟨o, h1, h2⟩ := sk
  rw [e] at h1
  cases h1
  exact h2 rfl
theorem key_reads {h : Heap} {P : Program} {w : World} {k : Key} {u : Value} (q : (mixKind P w).is k u = true) : ∀ {d : D} {p : PyData}, keyD d = some k → d.data = some p → Reads h u p [] := by
  intro d p e1 e2
  rcases keyIs_shape q with ⟨i, t, rfl, rfl⟩ | ⟨x, t, rfl, rfl⟩
  · cases d <;> first
      | (cases e1; done)
      | (cases e1; cases e2; exact .int _ _)
  · cases d <;> first
      | (cases e1; done)
      | (cases e1; cases e2; exact .str _ _)
mutual
theorem rep_reads (J : Inv X pins σ H s) (e : Same I H) (sm : H sysModules = none) (sk : ∃ o, s.heap.get? sysModules = some o ∧ o.cls ≠ .type "list") : ∀ (d : D) (v : V) (u : Value) (p : PyData), Rep X.K T ρ I d v → RelV v u → d.data = some p → ∃ as, Reads s.heap u p as ∧ sysModules ∉ as
  | .non, _, _, _, h, r, q => by cases h; cases r; cases q; exact ⟨[], .none, fun z => nomatch z⟩
  | .bl b, _, _, _, h, r, q => by cases h; cases r; cases q; exact ⟨[], .bool b, fun z => nomatch z⟩
  | .int i, _, _, _, h, r, q => by cases h; obtain ⟨t, rfl⟩ := r; cases q; exact ⟨[], .int i t, fun z => nomatch z⟩
  | .str x, _, _, _, h, r, q => by cases h; obtain ⟨t, rfl⟩ := r; cases q; exact ⟨[], .str x t, fun z => nomatch z⟩
  | .lst ds, _, _, _, h, r, q => by
    obtain ⟨a, xs, rfl, h1, h2⟩ := h
    cases r
    obtain ⟨ps, q1, rfl⟩ := Option.map_eq_some_iff.mp q
    obtain ⟨its, n, rv, eo, ne⟩ := lst_reads J sm sk (LsI.up e h1)
    obtain ⟨as, ra, na⟩ := rep_readss J e sm sk ds xs its ps h2 rv q1
    exact ⟨a :: as, .list eo rfl rfl (by simpa using ra), fun z => (List.mem_cons.mp z).elim (fun y => ne y.symm) na⟩
  | .tup ds, _, _, _, h, r, q => by
    obtain ⟨a, xs, rfl, h1, h2⟩ := h
    cases r
    obtain ⟨ps, q1, rfl⟩ := Option.map_eq_some_iff.mp q
    obtain ⟨its, rv, ⟨o, eo, ec, n, ed⟩, _⟩ := J.tuple (SqT.up e h1)
    obtain ⟨as, ra, na⟩ := rep_readss J e sm sk ds xs its ps h2 rv q1
    exact ⟨as, .tuple eo ec ed (by simpa using ra), na⟩
  | .dct kvs, _, _, _, h, r, q => by
    obtain ⟨a, ks, rfl, h1, h2⟩ := h
    cases r
    obtain ⟨ps, q1, rfl⟩ := Option.map_eq_some_iff.mp q
    obtain ⟨_, nm, vs, rk, o, es, ep, eo, ex, ed, _, pr, _⟩ := dk_rd J.hok (Rd.up e h1)
    obtain ⟨as, bs, ra, rb, na, nb⟩ := rep_readsk J e sm sk kvs ks vs es.toList ps h2 rk pr q1
    refine ⟨a :: as ++ bs, .dict eo ex.1 ed ra rb, fun z => ?_⟩
    rcases List.mem_append.mp z with z | z
    · rcases List.mem_cons.mp z with z | z
      · rw [← z, beq_self_eq_true] at nm
        cases nm
      · exact na z
    · exact nb z
  | .obj _ _, _, _, _, _, _, q => by cases q
  | .exc _ _, _, _, _, _, _, q => by cases q
  | .fn _, _, _, _, _, _, q => by cases q
  | .cl _, _, _, _, _, _, q => by cases q
  | .ref _, _, _, _, _, _, q => by cases q
theorem rep_readss (J : Inv X pins σ H s) (e : Same I H) (sm : H sysModules = none) (sk : ∃ o, s.heap.get? sysModules = some o ∧ o.cls ≠ .type "list") : ∀ (ds : List D) (xs : List V) (us : List Value) (ps : List PyData), RepL X.K T ρ I ds xs → Vals xs us → D.datas ds = some ps → ∃ as, ReadsAll s.heap us ps as ∧ sysModules ∉ as
  | [], _, _, _, h, r, q => by cases h; cases r; cases q; exact ⟨[], .nil, fun z => nomatch z⟩
  | d :: ds, _, us, _, h, r, q => by
    obtain ⟨x, ys, rfl, h1, h2⟩ := h
    obtain ⟨p, q1, q2⟩ := Option.bind_eq_some_iff.mp q
    obtain ⟨ps, q3, rfl⟩ := Option.map_eq_some_iff.mp q2
    cases r with
    | cons r1 r2 =>
      obtain ⟨as, a1, n1⟩ := rep_reads J e sm sk d x _ p h1 r1 q1
      obtain ⟨bs, a2, n2⟩ := rep_readss J e sm sk ds ys _ ps h2 r2 q3
      exact ⟨as ++ bs, .cons a1 a2, fun z => (List.mem_append.mp z).elim n1 n2⟩
theorem rep_readsk (J : Inv X pins σ H s) (e : Same I H) (sm : H sysModules = none) (sk : ∃ o, s.heap.get? sysModules = some o ∧ o.cls ≠ .type "list") : ∀ (kvs : List (D × D)) (ks : List (Key × V)) (vs : List (Key × Value)) (es : List DictEntry) (ps : List (PyData × PyData)), RepK X.K T ρ I kvs ks → KV ks vs → Pairs (mixKind X.prog X.w) es vs → D.datak kvs = some ps →
    ∃ as bs, ReadsAll s.heap (es.map (·.key)) (ps.map (·.1)) as ∧ ReadsAll s.heap (es.map (·.val)) (ps.map (·.2)) bs ∧ sysModules ∉ as ∧ sysModules ∉ bs
  | [], _, _, _, _, h, r, z, q => by
    cases h; cases r; cases z; cases q
    exact ⟨[], [], .nil, .nil, fun z => (nomatch z), fun z => nomatch z⟩
  | (k, d) :: kvs, _, vs, es, _, h, r, z, q => by
    obtain ⟨κ, x, ys, rfl, h0, h1, h2⟩ := h
    obtain ⟨p1, q1, q2⟩ := Option.bind_eq_some_iff.mp q
    obtain ⟨p2, q3, q4⟩ := Option.bind_eq_some_iff.mp q2
    obtain ⟨ps, q5, rfl⟩ := Option.map_eq_some_iff.mp q4
    unfold KV at r
    cases r with
    | cons r1 r2 =>
      cases z with
      | cons z1 z2 z3 =>
        obtain ⟨b, b1, n1⟩ := rep_reads J e sm sk d x _ p2 h1 r1.2 q3
        obtain ⟨as, bs, a1, a2, n2, n3⟩ := rep_readsk J e sm sk kvs ys _ _ ps h2 r2 z3 q5
        rw [← r1.1] at z1
        exact ⟨as, b ++ bs, .cons (as := []) (key_reads z1 h0 q1) a1, by rw [List.map_cons, z2]; exact .cons b1 a2, n2, fun y => (List.mem_append.mp y).elim n1 n3⟩
end
/-- the same, a box opened -/
theorem top_reads (J : Inv X pins σ H s) (sr : SR X.K T I ρ S H) (sm : H sysModules = none) (sk : ∃ o, s.heap.get? sysModules = some o ∧ o.cls ≠ .type "list") {d : D} {v : V} {u : Value} {p : PyData} (h : RepT X.K T ρ I H d v) (r : RelV v u) (q : d.data = some p) : ∃ as, Reads s.heap u p as ∧ sysModules ∉ as := by
  cases d with
  | lst ds =>
    obtain ⟨a, xs, rfl, h1, h2⟩ := h
    cases r
    obtain ⟨ps, q1, rfl⟩ := Option.map_eq_some_iff.mp q
    obtain ⟨its, n, rv, eo, ne⟩ := lst_reads J sm sk h1
    obtain ⟨as, ra, na⟩ := rep_readss J sr.sub sm sk ds xs its ps h2 rv q1
    exact ⟨a :: as, .list eo rfl rfl (by simpa using ra), fun z => (List.mem_cons.mp z).elim (fun y => ne y.symm) na⟩
  | dct kvs =>
    obtain ⟨a, ks, rfl, h1, h2⟩ := h
    cases r
    obtain ⟨ps, q1, rfl⟩ := Option.map_eq_some_iff.mp q
    obtain ⟨_, nm, vs, rk, o, es, ep, eo, ex, ed, _, pr, _⟩ := dk_rd J.hok h1
    obtain ⟨as, bs, ra, rb, na, nb⟩ := rep_readsk J sr.sub sm sk kvs ks vs es.toList ps h2 rk pr q1
    refine ⟨a :: as ++ bs, .dict eo ex.1 ed ra rb, fun z => ?_⟩
    rcases List.mem_append.mp z with z | z
    · rcases List.mem_cons.mp z with z | z
      · rw [← z, beq_self_eq_true] at nm
        cases nm
      · exact na z
    · exact nb z
  | _ => exact rep_reads J sr.sub sm sk _ v u p h r q
end

/-! ### built-in functions -/
/-- what a body may lean on beside its context: nothing is being shown, the table of modules stands -/
structure Calm (X : Cx) (k : Nat) : Prop where
  hr : Room k X.A
  calm : X.calm = true
  gd : X.A.guards = some []
  sm : ∃ o, X.base.get? sysModules = some o ∧ o.cls ≠ .type "list"
def RepTs (K : PySem.W.Frag) (T : Tb) (ρ : List Addr) (I H : Hp) : List D → List V → Prop
  | [], vs => vs = []
  | d :: ds, vs => ∃ v ws, vs = v :: ws ∧ RepT K T ρ I H d v ∧ RepTs K T ρ I H ds ws
/-- a built-in function by what it does to values -/
def Vrn (K : PySem.W.Frag) (T : Tb) (g : List D → Option D) : List V → Hp → VK → Prop := fun xs H Q => ∃ I ρ S ds d, SR K T I ρ S H ∧ RepTs K T ρ I H ds xs ∧ g ds = some d ∧ PostV K T I ρ S H S d Q
section
variable {X : Cx} {T : Tb} {pos p : Pos} {e : Expr} {es : List Expr} {x : PySem.Str} {fs : Gam → M (List D)} {fe : Gam → M D}
theorem SR.tops {K : PySem.W.Frag} {I H : Hp} {ρ : List Addr} {S : Sto} (r : SR K T I ρ S H) : ∀ {ds : List D} {vs : List V}, RepL K T ρ I ds vs → RepTs K T ρ I H (ds.map (D.rsv S)) vs
  | [], _, h => h
  | d :: ds, _, h => by
    obtain ⟨v, ws, rfl, h1, h2⟩ := h
    exact ⟨v, ws, rfl, r.top h1, r.tops h2⟩
theorem reps1 {K : PySem.W.Frag} {I H : Hp} {ρ : List Addr} {d : D} {xs : List V} (h : RepTs K T ρ I H [d] xs) : ∃ v, xs = [v] ∧ RepT K T ρ I H d v := by
  obtain ⟨v, ws, rfl, h1, h2⟩ := h
  cases h2
  exact ⟨v, rfl, h1⟩
theorem reps2 {K : PySem.W.Frag} {I H : Hp} {ρ : List Addr} {d1 d2 : D} {xs : List V} (h : RepTs K T ρ I H [d1, d2] xs) : ∃ v w, xs = [v, w] ∧ RepT K T ρ I H d1 v ∧ RepT K T ρ I H d2 w := by
  obtain ⟨v, ws, rfl, h1, h2⟩ := h
  obtain ⟨w, rfl, h3⟩ := reps1 h2
  exact ⟨v, w, rfl, h1, h3⟩
theorem c_len {R : Rt} : CallR X (.builtin "len") (Vrn X.K T (biD R .len)) := by
  intro pins s σ H xs us Q J r h
  obtain ⟨I, ρ, S, ds, d, sr, rs, e, k⟩ := h
  unfold biD at e
  split at e <;> first
    | (rename_i z; cases z; done)
    | (cases e; done)
    | skip
  · obtain ⟨v, rfl, a, ys, rfl, h1, h2⟩ := reps1 rs
    cases e
    rw [h2.length] at k
    exact call_len_seq pins s σ H _ us Q J r ⟨a, ys, rfl, .inl h1.sq, k.same sr rfl⟩
  · obtain ⟨v, rfl, a, ys, rfl, h1, h2⟩ := reps1 rs
    cases e
    rw [h2.length] at k
    exact call_len_seq pins s σ H _ us Q J r ⟨a, ys, rfl, .inr (SqT.up sr.sub h1), k.same sr rfl⟩
  · obtain ⟨v, rfl, h1⟩ := reps1 rs
    cases h1
    split at e
    · rename_i z
      cases e
      exact call_len_str pins s σ H _ us Q J r ⟨_, rfl, by rw [← lim_eq]; exact z, k.same sr rfl⟩
    · cases e
theorem c_abs {R : Rt} : CallR X (.builtin "abs") (Vrn X.K T (biD R .abs)) := by
  intro pins s σ H xs us Q J r h
  obtain ⟨I, ρ, S, ds, d, sr, rs, e, k⟩ := h
  unfold biD at e
  split at e <;> first
    | (rename_i z; cases z; done)
    | (cases e; done)
    | skip
  · obtain ⟨v, rfl, h1⟩ := reps1 rs
    cases h1; cases e
    exact call_abs pins s σ H _ us Q J r ⟨_, rfl, k.same sr rfl⟩
theorem c_max2 {R : Rt} (hc : X.calm = true) : CallR X (.builtin "max") (Vrn X.K T (biD R .max2)) := by
  intro pins s σ H xs us Q J r h
  obtain ⟨I, ρ, S, ds, d, sr, rs, e, k⟩ := h
  unfold biD at e
  split at e <;> first
    | (rename_i z; cases z; done)
    | (cases e; done)
    | skip
  · obtain ⟨v, w, rfl, h1, h2⟩ := reps2 rs
    cases h1; cases h2; cases e
    exact call_max2 hc pins s σ H _ us Q J r ⟨_, _, rfl, k.same sr rfl⟩
theorem c_min2 {R : Rt} (hc : X.calm = true) : CallR X (.builtin "min") (Vrn X.K T (biD R .min2)) := by
  intro pins s σ H xs us Q J r h
  obtain ⟨I, ρ, S, ds, d, sr, rs, e, k⟩ := h
  unfold biD at e
  split at e <;> first
    | (rename_i z; cases z; done)
    | (cases e; done)
    | skip
  · obtain ⟨v, w, rfl, h1, h2⟩ := reps2 rs
    cases h1; cases h2; cases e
    exact call_min2 hc pins s σ H _ us Q J r ⟨_, _, rfl, k.same sr rfl⟩
theorem c_int1 {R : Rt} : CallR X (.type "int") (Vrn X.K T (biD R .int1)) := by
  intro pins s σ H xs us Q J r h
  obtain ⟨I, ρ, S, ds, d, sr, rs, e, k⟩ := h
  unfold biD at e
  split at e <;> first
    | (rename_i z; cases z; done)
    | (cases e; done)
    | skip
  · obtain ⟨v, rfl, h1⟩ := reps1 rs
    cases h1; cases e
    exact call_int1 pins s σ H _ us Q J r (.inl ⟨_, rfl, k.same sr rfl⟩)
  · obtain ⟨v, rfl, h1⟩ := reps1 rs
    cases h1; cases e
    exact call_int1 pins s σ H _ us Q J r (.inr ⟨_, rfl, k.same sr rfl⟩)
theorem cont_ref {K : PySem.W.Frag} {I H : Hp} {ρ : List Addr} {d : D} {v : V} (h : RepT K T ρ I H d v) (c : contD d = true) : ∃ a, v = .ref a := by
  cases d <;> first
    | (cases c; done)
    | (obtain ⟨a, xs, rfl, _⟩ := h; exact ⟨a, rfl⟩)
theorem c_repr {R : Rt} {n : Nat} (C : Calm X n) : CallR X (.builtin "repr") (Vrn X.K T (biD R .repr)) := by
  intro pins s σ H xs us Q J r h
  obtain ⟨I, ρ, S, ds, d, sr, rs, e, k⟩ := h
  unfold biD at e
  split at e <;> first
    | (rename_i z; cases z; done)
    | (cases e; done)
    | skip
  obtain ⟨v, rfl, h1⟩ := reps1 rs
  obtain ⟨p, e1, e2⟩ := Option.bind_eq_some_iff.mp e
  split at e2
  · rename_i hc
    cases e2
    obtain ⟨a, rfl⟩ := cont_ref h1 hc.1
    obtain ⟨u, rfl, ru⟩ := vals1 r
    cases (show u = Value.ref a from ru)
    obtain ⟨o, ho, hl⟩ := C.sm
    obtain ⟨as, q1, q2⟩ := top_reads J sr (J.bs _ _ ho).2 ⟨o, (J.bs _ _ ho).1, hl⟩ h1 rfl e1
    have un := C.hr.units
    exact repr_of_reads' q1 hc.2.1 (fun _ => q2) C.gd (by have := hc.2.2.1; omega) (fun _ _ z => z) (fun h' u tk hk => ⟨.str _, H, J.kept (t' := tk) hk, ⟨u, rfl⟩, k.same sr rfl⟩) (by rw [← lim_eq]; exact hc.2.2.2)
  · cases e2
/-- the call of a built-in function, of a built-in type -/
theorem m_bi {id : String} {g : List D → Option D} (hc : CallR X (.builtin id) (Vrn X.K T g)) (hg : Gl X x) (hm : X.mg x = none) (hv : bootBuiltins x = some (.builtin id)) (ha : PA X (e :: es) (tMs X.K T fs)) (hn : nmB x = true) (hst : noStar (e :: es) = true) :
    PE X (.Call (.Name x p) (e :: es) [] pos) (tM X.K T fun Γ => M.bnd (fs Γ) fun ds => fun S => M.opt (g (ds.map (D.rsv S))) S) := by
  obtain ⟨n1, n2, n3⟩ := nmB_ok hn
  obtain ⟨s1, s2⟩ := noStar_cons (env := X.env) hst
  refine PE.of (pe_callB hc hg hm hv ha n3 n1 s1 (noStar_any s2)) fun σ H Q h => ?_
  obtain ⟨I, ρ, S, Γ, d, S', sr, er, e, k⟩ := h
  obtain ⟨ds, S1, e1, e2⟩ := bnd_some e
  obtain ⟨eo, rfl⟩ := opt_some e2
  exact tMs.use sr er e1 fun vs I1 ρ1 H1 sr1 er1 p1 r1 => ⟨I1, ρ1, _, _, _, sr1, sr1.tops r1, eo, k.after p1⟩
theorem m_biT {id : String} {g : List D → Option D} (hc : CallR X (.type id) (Vrn X.K T g)) (hg : Gl X x) (hm : X.mg x = none) (hv : bootBuiltins x = some (.type id)) (ha : PA X (e :: es) (tMs X.K T fs)) (hn : nmB x = true) (hst : noStar (e :: es) = true) :
    PE X (.Call (.Name x p) (e :: es) [] pos) (tM X.K T fun Γ => M.bnd (fs Γ) fun ds => fun S => M.opt (g (ds.map (D.rsv S))) S) := by
  obtain ⟨n1, n2, n3⟩ := nmB_ok hn
  obtain ⟨s1, s2⟩ := noStar_cons (env := X.env) hst
  refine PE.of (pe_callTy hc hg hm hv ha n3 n1 s1 (noStar_any s2)) fun σ H Q h => ?_
  obtain ⟨I, ρ, S, Γ, d, S', sr, er, e, k⟩ := h
  obtain ⟨ds, S1, e1, e2⟩ := bnd_some e
  obtain ⟨eo, rfl⟩ := opt_some e2
  exact tMs.use sr er e1 fun vs I1 ρ1 H1 sr1 er1 p1 r1 => ⟨I1, ρ1, _, _, _, sr1, sr1.tops r1, eo, k.after p1⟩
end
end Mi
/-! Mi, 14: what is leaned on of the written part; defs called; fields of exceptions; isinstance. -/
namespace Mi
open PySem PySem.Spec PyProof.Rows L2

/-- a def's promise: its parameters' values xs lead to what F computes -/
structure FnM (P : Program) (w : World) (K : PySem.W.Frag) (mg : PySem.Str → Option Value) (base : Heap) (T : Tb) (k : Nat) (f : Addr) (fd : FuncData) (ps : List PySem.Str) (F : List D → M D) : Prop where
  pl : PlainFd fd ps
  nd : ps.Nodup
  run : ∀ (A : Around) (outer : List Env) (s : Shared) (H : Hp) (args : Args) (us : List Value) (vs : List V) (xs : List D) (I : Hp) (ρ : List Addr) (S S' : Sto) (d : D) (Q : VK), Room k A → A.guards = some [] → Env0 P w K mg base A outer s H → BindsTo s fd args (ps.zip us) → Vals vs us →
    SR K T I ρ S H → RepL K T ρ I xs vs → xs.length = ps.length → F xs S = some (d, S') → PostV K T I ρ S H S' d Q → codeAny (model P w) A (.call (.ref f) args) (CR CXN outer P w H s Q fun _ _ _ => False) s
/-- the world is as R says, with room k for calls -/
structure GW (P : Program) (w : World) (K : PySem.W.Frag) (mg : PySem.Str → Option Value) (base : Heap) (T : Tb) (R : Rt) (k : Nat) : Prop where
  exc : ∀ c fps, R.xf c = some fps → XMk P w K mg base T c fps ∧ ∀ q ∈ fps, PySem.W.findIn K (.ref (T.clA c)) (T.fld q.2) = some none
  isb : ∀ c fps n b, R.xf c = some fps → R.under c n = some b → PySem.W.kitOne K (.ref (T.clA c)) (.type n) = some b
  iso : ∀ c fps c' fps', R.xf c = some fps → R.xf c' = some fps' → PySem.W.kitOne K (.ref (T.clA c)) (.ref (T.clA c')) = some (decide (c = c'))
  call : ∀ g ds ks zs S d S', R.call g ds ks zs S = some (d, S') → ∃ fd ps F xs, FnM P w K mg base T k (T.fnA g) fd ps F ∧ PySem.W.keepIn K (.ref (T.fnA g)) = true ∧ bindD ps ds ks zs = some xs ∧ F xs S = some (d, S')
theorem XMk.ex0 {P : Program} {w : World} {K : PySem.W.Frag} {mg : PySem.Str → Option Value} {base : Heap} {T : Tb} {c : Nat} {fps : List (PySem.Str × Nat)} (M : XMk P w K mg base T c fps) : ExcC K (T.clA c) := by
  obtain ⟨fI, B, nB, nw, ini, bm, fd, XC, _, _⟩ := M.ex
  exact XC.ex
def noSuper : Expr → Bool
  | .Call (.Name x _) [] [] _ => decide (x ≠ "super")
  | _ => true
theorem attr_base {e : Expr} {f : PySem.Str} {env : Env} {whole : Sem Value} (h : noSuper e = true) : attributeBase e f env whole = whole := by
  unfold noSuper at h
  split at h
  · rename_i x p1 p2
    have h2 : x ≠ "super" := of_decide_eq_true h
    unfold attributeBase
    have h3 : (x != "super") = true := by
      rw [bne_iff_ne]
      exact h2
    simp only [h3, Bool.true_or, if_true]
  · rename_i hn
    unfold attributeBase
    split
    · rename_i x p1 p2
      exact absurd rfl (hn x p1 p2)
    · rfl
section
variable {X : Cx} {T : Tb} {R : Rt} {k n g fid : Nat} {e : Expr} {es : List Expr} {kws : List Keyword} {ks : List PySem.Str} {x f : PySem.Str} {p p' p'' pos : Pos} {fs gs : Gam → M (List D)} {fe : Gam → M D}
theorem m_call (G : GW X.prog X.w X.K X.mg X.base T R k) (C : Calm X k) (hg : Gl X x) (gF : X.mg x = some (.ref (T.fnA g))) (hdb : (x == ("__debug__" : PySem.Str)) = false) (kp : PySem.W.keepIn X.K (.ref (T.fnA g)) = true)
    (hst : noStar es = true) (hks : kwNames kws = some ks) (ha : PA X es (tMs X.K T fs)) (hgk : PK X kws (tMs X.K T gs)) (n1 : es = [] → ∀ Γ, fs Γ = M.ret []) (n2 : kws = [] → ∀ Γ, gs Γ = M.ret []) :
    PE X (.Call (.Name x p) es kws pos) (tM X.K T fun Γ => M.bnd (fs Γ) fun ds => M.bnd (gs Γ) fun zs => R.call g ds ks zs) := by
  refine ⟨fun pins s σ H Q J h => ?_⟩
  obtain ⟨I, ρ, S, Γ, d, S', sr, er, e, post⟩ := h
  obtain ⟨ds, S1, e1, e⟩ := bnd_some e
  obtain ⟨zs, S2, e2, e⟩ := bnd_some e
  obtain ⟨fd, ps, F, xs, FM, kp', eb, eF⟩ := G.call _ _ _ _ _ _ _ e
  obtain ⟨b1, b2, b3, b4⟩ := bindD_ok eb FM.nd
  refine wpAny_Call_Name_kw (ld_glob J hg gF ?_ hdb)
  refine args_M hst hks ha hgk kp n1 n2 J sr er e1 e2 fun us ws s2 vs vz I2 ρ2 H2 J2 rv rz sr2 p2 q1 q2 => ?_
  have lu : us.length = ds.length := by rw [← rv.length, ← q1.length]
  have lw : ws.length = ks.length := by rw [← rz.length, ← q2.length, b2]
  have rp : RepL X.K T ρ2 I2 xs (pick ps (ps.zip vs ++ ks.zip vz)) := by
    rw [b3]
    exact rep_pick q1 q2 _
  refine wpAny_call (codeAny_mono (FM.run X.A X.stack s2 H2 ⟨us, ks.zip ws⟩ _ _ xs I2 ρ2 S2 S' d Q C.hr C.gd J2.env0 (binds_kw FM.pl (by rw [lu]; exact b1) lw) (pick_vals (pair_app (zip_pair rv) (zip_pair rz)) _) sr2 rp b4 eF (post.after p2)) fun r s' hq => ?_)
  cases r with
  | error e => exact hq.elim
  | ok fl =>
    cases fl with
    | ret u => exact J2.after hq
    | next => exact hq.elim
    | brk => exact hq.elim
    | cont => exact hq.elim
/-- an exception's field -/
theorem m_at (G : GW X.prog X.w X.K X.mg X.base T R k) (hf : T.fld fid = f) (he : PE X e (tM X.K T fe)) (hs : noSuper e = true) : PE X (.Attribute e f pos) (tM X.K T fun Γ => M.bnd (fe Γ) fun x => M.opt (atF R x fid)) := by
  refine ⟨fun pins s σ H Q J h => ?_⟩
  obtain ⟨I, ρ, S, Γ, d, S', sr, er, ev, post⟩ := h
  obtain ⟨d1, S1, e1, e2⟩ := bnd_some ev
  obtain ⟨eo, rfl⟩ := opt_some e2
  clear e2 ev
  refine attr_of (attr_base hs) (thn (he.run pins s σ H (fun v H1 => ∃ I1 ρ1, SR X.K T I1 ρ1 S' H1 ∧ Stp I ρ S H I1 ρ1 S' H1 ∧ Rep X.K T ρ1 I1 d1 v) J (tM.use sr er e1 fun v I1 ρ1 H1 sr1 er1 p1 r1 => ⟨I1, ρ1, sr1, p1, r1⟩)) fun u s1 ⟨v, H1, J1, rv, I1, ρ1, sr1, p1, r1⟩ => ?_)
  unfold atF at eo
  split at eo
  · rename_i c fs' fi
    obtain ⟨fps, ex, e3⟩ := Option.bind_eq_some_iff.mp eo
    split at e3
    · rename_i hany
      obtain ⟨a, od, gs, rfl, h1, h2, h3⟩ := r1
      cases (show u = Value.ref a from rv)
      obtain ⟨Mx, no⟩ := G.exc c fps ex
      have EC := Mx.ex0
      obtain ⟨q, hq, hq2⟩ := List.any_eq_true.mp hany
      have hq3 : q.2 = fid := of_decide_eq_true hq2
      have nof := no q hq
      rw [hq3, hf] at nof
      have ha := exo_at J1.hok (sr1.sub _ _ h1)
      obtain ⟨t0, ho⟩ := ha
      -- the field's value
      have val : ∀ (l : List (Nat × D)), RepX X.K T ρ1 I1 l gs → l.lookup fid = some d → ∃ y, gs.lookup (T.fld fid) = some y ∧ Rep X.K T ρ1 I1 d y := by
        intro l
        induction l with
        | nil => intro _ z; cases z
        | cons b l ih =>
          intro rx z
          obtain ⟨i, y⟩ := b
          rw [List.lookup_cons] at z
          cases q5 : (fid == i) with
          | true =>
            rw [q5] at z
            cases z
            rw [beq_iff_eq] at q5
            subst q5
            exact rx.1
          | false =>
            rw [q5] at z
            exact ih rx.2 z
      obtain ⟨y, hy, ry⟩ := val fs' h3 e3
      rw [hf] at hy
      cases od with
      | none =>
        have h2 : fs' = [] := h2
        rw [h2] at e3
        cases e3
      | some dx =>
        have h2 : I1 dx = some (exd dx gs) := h2
        obtain ⟨mA, hns, rel⟩ := exd_at J1.hok (sr1.sub _ _ h2)
        obtain ⟨odx, hod, hl⟩ := lookIn_ns hns
        obtain ⟨z, hz, rz⟩ := RelO.some_of (v := y) (o := mA f) (by rw [← hy]; exact rel f)
        have It : PySem.W.InstAt s1.heap a { cls := .ref (T.clA c), dict := some dx, data := .fields #[.ref t0, .none, .none, .none, .bool false, .none] } (T.clA c) (some odx) := ⟨ho, rfl, rfl, hod⟩
        exact PySem.HandSPX.exc_get J1.kIn It EC.hg EC.hk EC.hs (PySem.W.findObj_own EC.hd nof rfl (by rw [hl, hz])) (handed_of rz) ⟨y, H1, J1.tok _, rz, post y I1 ρ1 H1 sr1 p1 ry⟩
    · cases e3
  · cases eo
/-- isinstance(e, c) -/
theorem m_isi {t : Ty} {cv : Value} {c : V} (G : GW X.prog X.w X.K X.mg X.base T R k) (hg : Gl X "isinstance") (hm : X.mg "isinstance" = none) (he : PE X e (tM X.K T fe)) (hc : PE X (.Name x p') (tC c)) (hcv : ∀ u, RelV c u → u = cv)
    (hk : ∀ (c0 : Nat) fs b, isTy R t (.exc c0 fs) = some b → PySem.W.kitOne X.K (.ref (T.clA c0)) cv = some b) (hst : noStar [e, .Name x p'] = true) :
    PE X (.Call (.Name "isinstance" p) [e, .Name x p'] [] pos) (tM X.K T fun Γ => M.bnd (fe Γ) fun d => M.opt ((isTy R t d).map .bl)) := by
  obtain ⟨s1, s2⟩ := noStar_cons (env := X.env) hst
  have cr : CallR X (.builtin "isinstance") (fun xs H Q => ∃ I ρ S c0 fs b v, xs = [v, c] ∧ SR X.K T I ρ S H ∧ Rep X.K T ρ I (.exc c0 fs) v ∧ isTy R t (.exc c0 fs) = some b ∧ Q (.bl b) H) := by
    intro pins s σ H xs us Q J r h
    obtain ⟨I, ρ, S, c0, fs, b, v, rfl, sr, rp, e, q⟩ := h
    obtain ⟨a, od, gs, rfl, h1, h2, h3⟩ := rp
    obtain ⟨u1, u2, rfl, r1, r2⟩ := vals2 r
    cases (show u1 = Value.ref a from r1)
    have e2 := hcv u2 r2
    subst e2
    obtain ⟨t0, ho⟩ := exo_at J.hok (sr.sub _ _ h1)
    have hx : ∃ fps, R.xf c0 = some fps := by
      cases t with
      | bt n =>
        obtain ⟨fps, e1, _⟩ := Option.bind_eq_some_iff.mp (show (R.xf c0).bind (fun _ => R.under c0 n) = some b from e)
        exact ⟨fps, e1⟩
      | cl c' =>
        obtain ⟨fps, e1, _⟩ := Option.bind_eq_some_iff.mp (show (R.xf c0).bind (fun _ => (R.xf c').map fun _ => decide (c0 = c')) = some b from e)
        exact ⟨fps, e1⟩
    obtain ⟨fps, ex⟩ := hx
    have EC := (G.exc c0 fps ex).1.ex0
    obtain ⟨cd, hcd, _⟩ := PySem.W.any_some EC.hd
    have fin : ∀ tk, EP X pins σ Q (.bool b) { s with toks := tk } := fun tk => ⟨.bl b, H, J.tok tk, rfl, q⟩
    cases od with
    | none =>
      exact PySem.W.kia_one (PySem.W.kitx_exc (by rw [hcd]; rfl) EC.hg EC.hk EC.hs EC.ha EC.hn EC.ht EC.hm) J.kIn (⟨ho, rfl, rfl, trivial⟩ : PySem.W.InstAt s.heap a _ (T.clA c0) none) (hk c0 fs b e) (fun z => nomatch z) fin
    | some dx =>
      have h2 : I dx = some (exd dx gs) := h2
      obtain ⟨mA, hns, rel⟩ := exd_at J.hok (sr.sub _ _ h2)
      obtain ⟨odx, hod, hl⟩ := lookIn_ns hns
      exact PySem.W.kia_one (PySem.W.kitx_exc (by rw [hcd]; rfl) EC.hg EC.hk EC.hs EC.ha EC.hn EC.ht EC.hm) J.kIn (⟨ho, rfl, rfl, hod⟩ : PySem.W.InstAt s.heap a _ (T.clA c0) (some odx)) (hk c0 fs b e) (fun z => nomatch z) fin
  refine PE.of (pe_callB cr hg hm PyProof.Rows.Boot.«isinstance» (pa_cons he (pa_cons hc pa_nil rfl) s1) (by decide) (by decide) s1 (noStar_any s2)) fun σ H Q h => ?_
  obtain ⟨I, ρ, S, Γ, d, S', sr, er, ev, post⟩ := h
  obtain ⟨d1, S1, e1, e2⟩ := bnd_some ev
  obtain ⟨eo, rfl⟩ := opt_some e2
  obtain ⟨b, eb, rfl⟩ := Option.map_eq_some_iff.mp eo
  refine tM.use sr er e1 fun v1 I1 ρ1 H1 sr1 er1 p1 r1 => ?_
  cases d1 with
  | exc c0 fs0 => exact ⟨I1, ρ1, S', c0, fs0, b, v1, rfl, sr1, r1, eb, post (.bl b) I1 ρ1 H1 sr1 p1 rfl⟩
  | _ => cases t <;> cases eb
end
end Mi
/-! Mi, 15: targets, what is walked, list comprehensions. -/
namespace Mi
open PySem PySem.Spec PyProof.Rows L2

/-! ### targets -/
def Tg.slots : Tg → List Nat
  | .n i => [i]
  | .t is => is
/-- alike but for the slots vs -/
def Agree (vs : List Nat) (σ σ' : L2.St) : Prop := σ'.length = σ.length ∧ ∀ j, j ∉ vs → σ'[j]? = σ[j]?
theorem Agree.refl {vs : List Nat} {σ : L2.St} : Agree vs σ σ := ⟨rfl, fun _ _ => rfl⟩
theorem Agree.set {vs : List Nat} {σ σ1 : L2.St} {i : Nat} {o : Option V} (h : Agree vs σ σ1) (hi : i ∈ vs) : Agree vs σ (σ1.set i o) := ⟨by rw [List.length_set]; exact h.1, fun j hj => by
  rw [List.getElem?_set_ne (fun e : i = j => hj (by rw [← e]; exact hi))]
  exact h.2 j hj⟩
theorem wipe_at {σ : L2.St} {j : Nat} : ∀ {vs : List Nat}, j ∈ vs → (wipe σ vs)[j]? = if j < σ.length then some none else none
  | [], h => by cases h
  | v :: vs, h => by
    unfold wipe
    by_cases e : v = j
    · subst e
      by_cases q : v < σ.length
      · rw [if_pos q, List.getElem?_set_self (by rw [wipe_length]; exact q)]
      · rw [if_neg q, List.getElem?_eq_none (by rw [List.length_set, wipe_length]; omega)]
    · rw [List.getElem?_set_ne e]
      rcases List.mem_cons.mp h with z | z
      · exact absurd z.symm e
      · exact wipe_at z
theorem Agree.wipe {vs : List Nat} {σ σ' : L2.St} (h : Agree vs σ σ') : wipe σ' vs = wipe σ vs := by
  refine List.ext_getElem? fun j => ?_
  by_cases hj : j ∈ vs
  · rw [wipe_at hj, wipe_at hj, h.1]
  · rw [wipe_out hj, wipe_out hj]
    exact h.2 j hj
theorem Agree.ofWipe {vs : List Nat} {σ σ' : L2.St} (h : Agree vs (L2.wipe σ vs) σ') : Agree vs σ σ' := ⟨h.1.trans (wipe_length σ vs), fun j hj => (h.2 j hj).trans (wipe_out hj)⟩
section
variable {K : PySem.W.Frag} {T : Tb} {ρ : List Addr} {I : Hp} {σ : L2.St} {Γ : Gam}
theorem ER.set (h : ER K T ρ I σ Γ) {i : Nat} {d : D} {v : V} (r : Rep K T ρ I d v) : ER K T ρ I (σ.set i (some v)) (Γ.set i (some d)) := by
  refine ⟨by rw [List.length_set, List.length_set]; exact h.len, fun j d' e => ?_⟩
  by_cases hj : i = j
  · subst hj
    have hl : i < Γ.length := by
      rcases Nat.lt_or_ge i Γ.length with q | q
      · exact q
      · rw [List.getElem?_eq_none (by rw [List.length_set]; exact q)] at e
        cases e
    rw [List.getElem?_set_self hl] at e
    cases e
    exact ⟨v, List.getElem?_set_self (by rw [← h.len]; exact hl), r⟩
  · rw [List.getElem?_set_ne hj] at e ⊢
    exact h.at_ j d' e
theorem ER.wipe (h : ER K T ρ I σ Γ) (vs : List Nat) : ER K T ρ I (L2.wipe σ vs) (Γ.zipIdx.map fun p => if p.2 ∈ vs then none else p.1) := by
  refine ⟨by rw [List.length_map, List.length_zipIdx, wipe_length]; exact h.len, fun j d e => ?_⟩
  rw [List.getElem?_map, List.getElem?_zipIdx] at e
  cases q : Γ[j]? with
  | none => rw [q] at e; cases e
  | some o =>
    rw [q] at e
    simp only [Option.map_some, Nat.zero_add, Option.some.injEq] at e
    split at e
    · cases e
    · rename_i hj
      subst e
      obtain ⟨v, e1, r⟩ := h.at_ j d q
      exact ⟨v, by rw [wipe_out hj]; exact e1, r⟩
end
/-- a value bound to a target -/
def gM (K : PySem.W.Frag) (T : Tb) (t : Tg) : TG := fun v σ H Q => ∃ I ρ S Γ d Γ', SR K T I ρ S H ∧ ER K T ρ I σ Γ ∧ Rep K T ρ I d v ∧ bindT t d Γ = some Γ' ∧ ∀ σ', ER K T ρ I σ' Γ' → Agree t.slots σ σ' → Q σ' H
def bdB (fnAll : Bool) (sc : Scope) (x : PySem.Str) : Bool := match sc.names.lookup x with
  | some .local => true
  | some .cell => fnAll
  | _ => false
def nmAt (N : List PySem.Str) (fnAll : Bool) (sc : Scope) (i : Nat) : Expr → Bool
  | .Name x _ => decide (N[i]? = some x) && bdB fnAll sc x
  | _ => false
def nmsAt (N : List PySem.Str) (fnAll : Bool) (sc : Scope) : List Nat → List Expr → Bool
  | [], [] => true
  | i :: is, e :: es => nmAt N fnAll sc i e && nmsAt N fnAll sc is es
  | _, _ => false
def mTg (N : List PySem.Str) (fnAll : Bool) (sc : Scope) : Tg → Expr → Bool
  | .n i, e => nmAt N fnAll sc i e
  | .t is, .Tuple es _ _ => nmsAt N fnAll sc is es
  | _, _ => false
/-- the names of a body's context -/
structure Nm (X : Cx) (N : List PySem.Str) (fnAll : Bool) (sc : Scope) : Prop where
  es : X.env.scope = sc
  en : X.N = N
  nd : N.Nodup
  ok : ∀ x ∈ N, nmB x = true
  fn : fnAll = true → ∀ x, X.fn x = true
section
variable {X : Cx} {T : Tb} {N : List PySem.Str} {fnAll : Bool} {sc : Scope} {pos : Pos}
theorem bdB_ok (n : Nm X N fnAll sc) {x : PySem.Str} (h : bdB fnAll sc x = true) : Loc X.env.scope x ∧ (X.fn x = true ∨ X.env.scope.names.lookup x = some .local) := by
  rw [n.es]
  unfold bdB at h
  split at h
  · rename_i q
    exact ⟨.inl q, .inr q⟩
  · rename_i q
    exact ⟨.inr q, .inl (n.fn h x)⟩
  · cases h
theorem pg_nm (n : Nm X N fnAll sc) {i : Nat} {e : Expr} (h : nmAt N fnAll sc i e = true) : PG X e (gName i) := by
  unfold nmAt at h
  split at h
  · rename_i x p
    rw [Bool.and_eq_true, decide_eq_true_iff] at h
    obtain ⟨l, f⟩ := bdB_ok n h.2
    exact pg_name (by rw [n.en]; exact n.nd) (by rw [n.en]; exact h.1) l f
  · cases h
def gNs : List Nat → TGs
  | [] => gNil
  | i :: is => gCons (gName i) (gNs is)
theorem nm_each {i : Nat} {e : Expr} {es : List Expr} {env : Env} (h : nmAt N fnAll sc i e = true) : (assignEach (e :: es) env).map (·.2) = assign e env :: (assignEach es env).map (·.2) ∧ (assignEach (e :: es) env).length = (assignEach es env).length + 1 ∧ (assignEach (e :: es) env).map (·.1) = false :: (assignEach es env).map (·.1) := by
  unfold nmAt at h
  split at h
  · exact ⟨rfl, rfl, rfl⟩
  · cases h
theorem pgs_nms (n : Nm X N fnAll sc) : ∀ {is : List Nat} {es : List Expr}, nmsAt N fnAll sc is es = true → PGs X es (gNs is) ∧ (assignEach es X.env).length = is.length ∧ ∀ b ∈ (assignEach es X.env).map (·.1), b = false
  | [], [], _ => ⟨pgs_nil, rfl, fun b hb => by cases hb⟩
  | [], _ :: _, h => by cases h
  | _ :: _, [], h => by cases h
  | i :: is, e :: es, h => by
    unfold nmsAt at h
    rw [Bool.and_eq_true] at h
    obtain ⟨h1, h2, h3⟩ := nm_each (es := es) (env := X.env) h.1
    obtain ⟨k1, k2, k3⟩ := pgs_nms n h.2
    refine ⟨pgs_cons (pg_nm n h.1) k1 h1, by rw [h2, k2]; rfl, fun b hb => ?_⟩
    rw [h3] at hb
    rcases List.mem_cons.mp hb with z | z
    · exact z
    · exact k3 b z
theorem gNs_ok {K : PySem.W.Frag} {I : Hp} {ρ : List Addr} {H : Hp} {Q : L2.St → Hp → Prop} {all : List Nat} {σ0 : L2.St} : ∀ {is : List Nat} {ds : List D} {xs : List V} {σ : L2.St} {Γ : Gam}, ER K T ρ I σ Γ → RepL K T ρ I ds xs → is.length = ds.length → Agree all σ0 σ → (∀ i ∈ is, i ∈ all) →
    (∀ σ', ER K T ρ I σ' ((is.zip ds).foldl (fun G p => G.set p.1 (some p.2)) Γ) → Agree all σ0 σ' → Q σ' H) → gNs is xs σ H Q
  | [], [], _, σ, Γ, er, r, _, ag, _, k => by
    cases r
    exact ⟨rfl, k σ er ag⟩
  | [], _ :: _, _, _, _, _, _, h, _, _, _ => by cases h
  | _ :: _, [], _, _, _, _, _, h, _, _, _ => by cases h
  | i :: is, d :: ds, _, σ, Γ, er, r, h, ag, hs, k => by
    obtain ⟨x, ys, rfl, r1, r2⟩ := r
    exact ⟨x, ys, rfl, gNs_ok (er.set r1) r2 (Nat.succ.inj h) (ag.set (hs i List.mem_cons_self)) (fun j hj => hs j (List.mem_cons_of_mem _ hj)) k⟩
theorem pg_M (hc : X.calm = true) (n : Nm X N fnAll sc) {t : Tg} {e : Expr} (h : mTg N fnAll sc t e = true) : PG X e (gM X.K T t) := by
  have weak : ∀ {t1 : TG}, PG X e t1 → (∀ v σ H Q, gM X.K T t v σ H Q → t1 v σ H Q) → PG X e (gM X.K T t) := fun p q => ⟨fun pins s σ H v u Q J r z => p.run pins s σ H v u Q J r (q v σ H Q z)⟩
  unfold mTg at h
  split at h
  · rename_i i
    refine weak (pg_nm n h) fun v σ H Q ⟨I, ρ, S, Γ, d, Γ', sr, er, r, e, k⟩ => ?_
    cases e
    exact k _ (er.set r) (Agree.refl.set (by show i ∈ [i]; simp))
  · rename_i is es a b
    obtain ⟨p1, p2, p3⟩ := pgs_nms n h
    refine weak (pg_tup hc p1 p2 ?_) fun v σ H Q ⟨I, ρ, S, Γ, d, Γ', sr, er, r, e, k⟩ => ?_
    · rw [List.findIdx?_eq_none_iff]
      intro q hq
      exact p3 q.1 (List.mem_map_of_mem (f := fun z : Bool × (Value → Sem Unit) => z.1) hq)
    · cases d <;> first
        | (cases e; done)
        | skip
      rename_i ds
      simp only [bindT] at e
      split at e
      · rename_i hl
        cases e
        obtain ⟨q, xs, rfl, hq, rx⟩ := r
        exact ⟨q, xs, rfl, SqT.up sr.sub hq, by rw [← rx.length, hl], gNs_ok er rx hl Agree.refl (fun i hi => hi) k⟩
      · cases e
  · cases h
end

/-! ### what is walked -/
/-- an iterator that yields ds, whatever is done meanwhile -/
def ItM (K : PySem.W.Frag) (T : Tb) (ds : List D) (J : L2.It) (I : Hp) (ρ : List Addr) : Prop := ∀ I2 ρ2 S2 H2, Same I I2 → ρ <+: ρ2 → SR K T I2 ρ2 S2 H2 → (∀ i, ds.length ≤ i → J.stop i H2) ∧
  ∀ i d, ds[i]? = some d → J.go i H2 ∧ ∀ x H', J.yld i H2 x H' → ∃ I3, SR K T I3 ρ2 S2 H' ∧ Stp I2 ρ2 S2 H2 I3 ρ2 S2 H' ∧ Rep K T ρ2 I3 d x
def tIM (K : PySem.W.Frag) (T : Tb) (f : Gam → M (List D)) : TI := fun σ H R => ∃ I ρ S Γ ds S', SR K T I ρ S H ∧ ER K T ρ I σ Γ ∧ f Γ S = some (ds, S') ∧
  ∀ J I1 ρ1 H1, SR K T I1 ρ1 S' H1 → Stp I ρ S H I1 ρ1 S' H1 → ItM K T ds J I1 ρ1 → R J H1
theorem itM_range {K : PySem.W.Frag} {T : Tb} {I : Hp} {ρ : List Addr} {n : Nat} : ItM K T (intsL 0 n) (Itr 0 n) I ρ := by
  have get : ∀ (k m i : Nat), (intsL m k)[i]? = if i < k then some (D.int ((m + i : Nat) : Int)) else none := by
    intro k
    induction k with
    | zero => intro m i; rfl
    | succ k ih =>
      intro m i
      cases i with
      | zero => rfl
      | succ i =>
        show (intsL (m + 1) k)[i]? = _
        rw [ih, show m + 1 + i = m + (i + 1) by omega]
        by_cases h : i < k
        · rw [if_pos h, if_pos (by omega)]
        · rw [if_neg h, if_neg (by omega)]
  have len : ∀ (k m : Nat), (intsL m k).length = k := by
    intro k
    induction k with
    | zero => intro m; rfl
    | succ k ih => intro m; show _ + 1 = _; rw [ih]
  intro I2 ρ2 S2 H2 _ _ sr
  refine ⟨fun i h => by rw [len] at h; exact h, fun i d h => ?_⟩
  rw [get] at h
  split at h
  · rename_i hi
    cases h
    refine ⟨hi, fun x H' y => ?_⟩
    obtain ⟨e1, e2⟩ := y
    subst e1
    subst e2
    refine ⟨I2, sr, Stp.refl, ?_⟩
    show V.int _ = V.int _
    first
      | rfl
      | (congr 1; omega)
  · cases h
theorem itM_list {K : PySem.W.Frag} {T : Tb} {I : Hp} {ρ : List Addr} {a : Addr} {ds : List D} {xs : List V} (h : LsI K I a xs) (r : RepL K T ρ I ds xs) : ItM K T ds (Itl K a) I ρ := by
  intro I2 ρ2 S2 H2 sm pf sr
  have q : SqL K H2 a xs := (LsI.up sr.sub (LsI.up sm h)).sq
  refine ⟨fun i hi => ⟨xs, q, by rw [← r.length]; exact hi⟩, fun i d e => ?_⟩
  obtain ⟨x, ex, rx⟩ := r.get e
  refine ⟨⟨xs, x, q, ex⟩, fun y H' z => ?_⟩
  obtain ⟨e1, e2⟩ := z
  subst e1
  have := e2 xs q
  rw [ex] at this
  cases this
  exact ⟨I2, sr, Stp.refl, Rep.up sm pf d _ rx⟩
theorem itM_tup {K : PySem.W.Frag} {T : Tb} {I : Hp} {ρ : List Addr} {a : Addr} {ds : List D} {xs : List V} (h : SqT K I a xs) (r : RepL K T ρ I ds xs) : ItM K T ds (Itt K a) I ρ := by
  intro I2 ρ2 S2 H2 sm pf sr
  have q : SqT K H2 a xs := SqT.up sr.sub (SqT.up sm h)
  refine ⟨fun i hi => ⟨xs, q, by rw [← r.length]; exact hi⟩, fun i d e => ?_⟩
  obtain ⟨x, ex, rx⟩ := r.get e
  refine ⟨⟨xs, x, q, ex⟩, fun y H' z => ?_⟩
  obtain ⟨e1, e2⟩ := z
  subst e1
  have := e2 xs q
  rw [ex] at this
  cases this
  exact ⟨I2, sr, Stp.refl, Rep.up sm pf d _ rx⟩
theorem pairL_get : ∀ (ds : List D) (n i : Nat), (pairL n ds)[i]? = (ds[i]?).map fun d => .tup [.int ((n + i : Nat) : Int), d]
  | [], _, _ => rfl
  | d :: ds, n, 0 => rfl
  | d :: ds, n, i + 1 => by
    show (pairL (n + 1) ds)[i]? = _
    rw [pairL_get ds (n + 1) i, show n + 1 + i = n + (i + 1) by omega]
    rfl
theorem pairL_len : ∀ (ds : List D) (n : Nat), (pairL n ds).length = ds.length
  | [], _ => rfl
  | d :: ds, n => by show _ + 1 = _ + 1; rw [pairL_len ds (n + 1)]
theorem itM_enum {K : PySem.W.Frag} {T : Tb} {I : Hp} {ρ : List Addr} {a : Addr} {ds : List D} {xs : List V} (h : LsI K I a xs) (r : RepL K T ρ I ds xs) : ItM K T (pairL 0 ds) (Ite K a) I ρ := by
  intro I2 ρ2 S2 H2 sm pf sr
  have q : SqL K H2 a xs := (LsI.up sr.sub (LsI.up sm h)).sq
  refine ⟨fun i hi => ⟨xs, q, by rw [pairL_len] at hi; rw [← r.length]; exact hi⟩, fun i d e => ?_⟩
  rw [pairL_get] at e
  obtain ⟨d0, e0, rfl⟩ := Option.map_eq_some_iff.mp e
  obtain ⟨x, ex, rx⟩ := r.get e0
  refine ⟨⟨xs, x, q, ex⟩, fun y H' z => ?_⟩
  obtain ⟨tA, x', rfl, hn, rfl, e2⟩ := z
  have := e2 xs q
  rw [ex] at this
  cases this
  obtain ⟨sr3, p3⟩ := sr.new (o := .tup [.int ((i : Nat) : Int), x]) hn
  refine ⟨_, sr3, p3, tA, [.int ((i : Nat) : Int), x], rfl, .inl (.inl upd_same), .cons ?_ (.cons ?_ rfl)⟩
  · show V.int _ = V.int _
    congr 1
    omega
  · exact Rep.stp (Rep.up sm pf d0 _ rx) p3
section
variable {X : Cx} {T : Tb} {e tg : Expr} {pos p : Pos} {fe : Gam → M D}
theorem pi_of (he : PE X e (tM X.K T fe)) : PI X tg e (tIM X.K T fun Γ => M.bnd (fe Γ) fun d => M.opt (itemsD d)) := by
  refine ⟨fun pins s σ H R J h => ?_⟩
  obtain ⟨I, ρ, S, Γ, ds, S', sr, er, ev, k⟩ := h
  obtain ⟨d, S1, e1, e2⟩ := bnd_some ev
  obtain ⟨eo, rfl⟩ := opt_some e2
  refine thn (he.run pins s σ H (fun v H1 => ∃ I1 ρ1, SR X.K T I1 ρ1 S' H1 ∧ Stp I ρ S H I1 ρ1 S' H1 ∧ Rep X.K T ρ1 I1 d v) J (tM.use sr er e1 fun v I1 ρ1 H1 sr1 er1 p1 r1 => ⟨I1, ρ1, sr1, p1, r1⟩)) fun u s1 ⟨v, H1, J1, rv, I1, ρ1, sr1, p1, r1⟩ => ?_
  unfold itemsD at eo
  split at eo
  · cases eo
    obtain ⟨a, xs, rfl, h1, h2⟩ := r1
    cases rv
    obtain ⟨its, rx, pl, hz⟩ := J1.list (LsI.up sr1.sub h1).sq
    refine wpAny_pyIter_list pl.isList ?_
    refine ⟨s1.heap.objs.size, [s1.heap.objs.size], _, _, H1, rfl, J1.kept (t' := s1.toks) fun b o q => Heap.get?_push_of_some _ q, turn_list a _, ⟨_, Heap.get?_push_size _ rfl, rfl, rfl⟩, fun b hb => ?_, k _ I1 ρ1 H1 sr1 p1 (itM_list h1 h2)⟩
    rw [show b = s1.heap.objs.size by simpa using hb]
    exact J1.fpOk (Nat.le_refl _) (J1.hok.fresh (Nat.le_refl _))
  · cases eo
    obtain ⟨a, xs, rfl, h1, h2⟩ := r1
    cases rv
    obtain ⟨its, rx, pl, hz⟩ := J1.tuple (SqT.up sr1.sub h1)
    refine wpAny_pyIter_tuple (show s1.heap.IsTuple a its.toArray from pl) ?_
    refine ⟨s1.heap.objs.size, [s1.heap.objs.size], _, _, H1, rfl, J1.kept (t' := s1.toks) fun b o q => Heap.get?_push_of_some _ q, turn_tuple a _, ⟨_, Heap.get?_push_size _ rfl, rfl, rfl⟩, fun b hb => ?_, k _ I1 ρ1 H1 sr1 p1 (itM_tup h1 h2)⟩
    rw [show b = s1.heap.objs.size by simpa using hb]
    exact J1.fpOk (Nat.le_refl _) (J1.hok.fresh (Nat.le_refl _))
  · cases eo
theorem PI.of {iter : Expr} {t t' : TI} (h : PI X tg iter t) (k : ∀ σ H R, t' σ H R → t σ H R) : PI X tg iter t' := ⟨fun pins s σ H R J q => h.run pins s σ H R J (k σ H R q)⟩
theorem pi_rng (he : PE X e (tM X.K T fe)) (hg : Gl X "range") (hm : X.mg "range" = none) (hst : noStar [e] = true) : PI X tg (.Call (.Name "range" p) [e] [] pos) (tIM X.K T fun Γ => M.bnd (fe Γ) fun d => M.opt (match d with
    | .int i => if -(2 ^ 62) ≤ i ∧ i < 2 ^ 62 then some (intsL 0 i.toNat) else none
    | _ => none)) := by
  obtain ⟨s1, _⟩ := noStar_cons (env := X.env) hst
  refine PI.of (pi_range1 hg hm (pa_cons he pa_nil s1) s1) fun σ H R h => ?_
  obtain ⟨I, ρ, S, Γ, ds, S', sr, er, ev, k⟩ := h
  obtain ⟨d, S1, e1, e2⟩ := bnd_some ev
  obtain ⟨eo, rfl⟩ := opt_some e2
  split at eo
  · rename_i i
    split at eo
    · rename_i hc
      cases eo
      refine tM.use sr er e1 fun v I1 ρ1 H1 sr1 er1 p1 r1 => ?_
      cases r1
      exact ⟨i, rfl, hc.1, hc.2, k _ I1 ρ1 H1 sr1 p1 itM_range⟩
    · cases eo
  · cases eo
theorem pi_enm {elts : List Expr} {kk : Nat} {tpos : Pos} (he : PE X e (tM X.K T fe)) (hg : Gl X "enumerate") (hm : X.mg "enumerate" = none) (hst : noStar [e] = true) : PI X (.Tuple elts kk tpos) (.Call (.Name "enumerate" p) [e] [] pos) (tIM X.K T fun Γ => M.bnd (fe Γ) fun d => M.opt (match d with
    | .lst ds => some (pairL 0 ds)
    | _ => none)) := by
  obtain ⟨s1, _⟩ := noStar_cons (env := X.env) hst
  refine PI.of (pi_enum hg hm (pa_cons he pa_nil s1) s1) fun σ H R h => ?_
  obtain ⟨I, ρ, S, Γ, ds, S', sr, er, ev, k⟩ := h
  obtain ⟨d, S1, e1, e2⟩ := bnd_some ev
  obtain ⟨eo, rfl⟩ := opt_some e2
  split at eo
  · rename_i ys
    cases eo
    refine tM.use sr er e1 fun v I1 ρ1 H1 sr1 er1 p1 r1 => ?_
    obtain ⟨a, xs, rfl, h1, h2⟩ := r1
    exact ⟨a, xs, rfl, (LsI.up sr1.sub h1).sq, k _ I1 ρ1 H1 sr1 p1 (itM_enum h1 h2)⟩
  · cases eo
end
end Mi
/-! Mi, 16: list comprehensions. -/
namespace Mi
open PySem PySem.Spec PyProof.Rows L2

section
variable {K : PySem.W.Frag} {T : Tb} {ρ ρ1 : List Addr} {I I1 : Hp} {S S1 : Sto} {H H1 : Hp} {p : Addr} {o : HO}
theorem SR.del (r : SR K T I ρ S H) (ip : I p = none) (np : ¬ Lv ρ S p) : SR K T I ρ S (L2.del H p) := by
  refine ⟨fun b u e => ?_, r.len, r.inj, fun i w a h1 h2 => ?_⟩
  · rw [del_ne (ne_of_none e ip)]
    exact r.sub b u e
  · rw [del_ne fun e : a = p => np ⟨i, w, h1, e ▸ h2⟩]
    exact r.box i w a h1 h2
theorem SR.over (r : SR K T I ρ S H) (ip : I p = none) (np : ¬ Lv ρ S p) : SR K T I ρ S (upd H p o) := by
  refine ⟨fun b u e => ?_, r.len, r.inj, fun i w a h1 h2 => ?_⟩
  · rw [upd_ne (ne_of_none e ip)]
    exact r.sub b u e
  · rw [upd_ne fun e : a = p => np ⟨i, w, h1, e ▸ h2⟩]
    exact r.box i w a h1 h2
theorem Stp.del (t : Stp I ρ S H I1 ρ1 S1 H1) (h : H p = none) : Stp I ρ S H I1 ρ1 S1 (L2.del H1 p) := ⟨t.same, t.pre, fun a u e n => by
  rw [del_ne (ne_of_none e h)]
  exact t.frm a u e n, t.out⟩
theorem Stp.over (t : Stp I ρ S H I1 ρ1 S1 H1) (h : H p = none) : Stp I ρ S H I1 ρ1 S1 (upd H1 p o) := ⟨t.same, t.pre, fun a u e n => by
  rw [upd_ne (ne_of_none e h)]
  exact t.frm a u e n, t.out⟩
theorem upd_del (e : H p = some o) : upd (L2.del H p) p o = H := by
  funext b
  by_cases hb : b = p
  · rw [hb, upd_same, e]
  · rw [upd_ne hb, del_ne hb]
theorem upd_self (e : H p = some o) : upd H p o = H := by
  funext b
  by_cases hb : b = p
  · rw [hb, upd_same, e]
  · rw [upd_ne hb]
end
theorem setAll_at {Γ : Gam} {j : Nat} : ∀ {is : List Nat} {ds : List D} {Γ2 : Gam}, is.length = ds.length → Γ.length = Γ2.length → (j ∈ is → ((is.zip ds).foldl (fun G p => G.set p.1 (some p.2)) Γ)[j]? = ((is.zip ds).foldl (fun G p => G.set p.1 (some p.2)) Γ2)[j]?) ∧
    (j ∉ is → ((is.zip ds).foldl (fun G p => G.set p.1 (some p.2)) Γ)[j]? = Γ[j]?) ∧ (Γ[j]? = Γ2[j]? → ((is.zip ds).foldl (fun G p => G.set p.1 (some p.2)) Γ)[j]? = ((is.zip ds).foldl (fun G p => G.set p.1 (some p.2)) Γ2)[j]?) := by
  intro is
  induction is generalizing Γ with
  | nil => intro ds Γ2 _ _; exact ⟨fun h => (by cases h), fun _ => rfl, fun h => h⟩
  | cons i is ih =>
    intro ds Γ2 hl hΓ
    cases ds with
    | nil => cases hl
    | cons d ds =>
      obtain ⟨a1, a2, a3⟩ := @ih (Γ.set i (some d)) ds (Γ2.set i (some d)) (Nat.succ.inj hl) (by rw [List.length_set, List.length_set]; exact hΓ)
      have same : j = i → (Γ.set i (some d))[j]? = (Γ2.set i (some d))[j]? := fun e => by
        subst e
        by_cases hj : j < Γ.length
        · rw [List.getElem?_set_self hj, List.getElem?_set_self (by rw [← hΓ]; exact hj)]
        · rw [List.getElem?_eq_none (by rw [List.length_set]; omega), List.getElem?_eq_none (by rw [List.length_set]; omega)]
      refine ⟨fun h => ?_, fun h => ?_, fun h => ?_⟩
      · rcases List.mem_cons.mp h with e | h
        · exact a3 (same e)
        · exact a1 h
      · rw [List.mem_cons, not_or] at h
        refine (a2 h.2).trans ?_
        rw [List.getElem?_set_ne (Ne.symm h.1)]
      · refine a3 ?_
        by_cases e : j = i
        · exact same e
        · rw [List.getElem?_set_ne (Ne.symm e), List.getElem?_set_ne (Ne.symm e)]
          exact h
/-- bound in the names as they were, bound in the wiped ones -/
theorem bindT_at {t : Tg} {d : D} {Γ Γ2 Γ' : Gam} (h : bindT t d Γ = some Γ') (hl : Γ.length = Γ2.length) : ∃ Γ3, bindT t d Γ2 = some Γ3 ∧ (∀ j ∈ t.slots, Γ'[j]? = Γ3[j]?) ∧ (∀ j, j ∉ t.slots → Γ'[j]? = Γ[j]?) ∧ Γ'.length = Γ.length := by
  have fl : ∀ (l : List (Nat × D)) (G : Gam), (l.foldl (fun G p => G.set p.1 (some p.2)) G).length = G.length := by
    intro l
    induction l with
    | nil => intro G; rfl
    | cons a l ih => intro G; rw [List.foldl_cons, ih, List.length_set]
  cases t with
  | n i =>
    cases h
    refine ⟨_, rfl, fun j hj => ?_, fun j hj => ?_, List.length_set⟩
    · have := (setAll_at (Γ := Γ) (Γ2 := Γ2) (j := j) (is := [i]) (ds := [d]) rfl hl).1 hj
      exact this
    · have := (setAll_at (Γ := Γ) (Γ2 := Γ2) (j := j) (is := [i]) (ds := [d]) rfl hl).2.1 hj
      exact this
  | t is =>
    cases d <;> first
      | (cases h; done)
      | skip
    rename_i ds
    simp only [bindT] at h ⊢
    split at h
    · rename_i hc
      cases h
      rw [if_pos hc]
      exact ⟨_, rfl, fun j hj => (setAll_at hc hl).1 hj, fun j hj => (setAll_at (Γ2 := Γ2) hc hl).2.1 hj, fl _ _⟩
    · cases h
def consO : Option D → List D → List D
  | some d, r => d :: r
  | none, r => r
def lcM (fi : Gam → M (List D)) (t : Tg) (fo : Gam → M Bool) (fe : Gam → M D) (bx : Bool) : Gam → M D := fun Γ => M.bnd (fi Γ) fun xs => M.bnd (compL (fun x => match bindT t x Γ with
    | some Γ' => M.bnd (fo Γ') fun b => if b = true then M.bnd (fe Γ') fun d => M.ret (some d) else M.ret none
    | none => M.no) xs) fun ds => if ds.length ≤ LIM then boxL bx ds else M.no
theorem lc_read {K : PySem.W.Frag} {T : Tb} {fi : Gam → M (List D)} {t : Tg} {fo : Gam → M Bool} {fe : Gam → M D} {bx : Bool} {vs : List Nat} (hv : ∀ i ∈ t.slots, i ∈ vs) (hv2 : ∀ i ∈ vs, i ∈ t.slots) {σ : L2.St} {H : Hp} {Q : VK} (h : tM K T (lcM fi t fo fe bx) σ H Q) :
    tLc (tIM K T fi) (gM K T t) (tMT K T fo) (tM K T fe) vs σ H Q := by
  obtain ⟨I, ρ, S, Γ, d, S', sr, er, e, k⟩ := h
  obtain ⟨ds, S1, e1, e2⟩ := bnd_some e
  obtain ⟨rs, S2, e3, e4⟩ := bnd_some e2
  clear e e2
  split at e4
  case isFalse => cases e4
  rename_i hlim
  refine ⟨I, ρ, S, Γ, ds, S1, sr, er, e1, fun J I1 ρ1 H1 sr1 p1 it DA hD => ?_⟩
  have er1 := er.up p1
  generalize hstep : (fun x => match bindT t x Γ with
    | some Γ' => M.bnd (fo Γ') fun b => if b = true then M.bnd (fe Γ') fun d => M.ret (some d) else M.ret none
    | none => M.no) = step at e3
  refine ⟨fun i m H2 => m = ds.length - i ∧ i ≤ ds.length ∧ ∃ I2 ρ2 S3 accD accV rest, SR K T I2 ρ2 S3 H2 ∧ Stp I1 ρ1 S1 H1 I2 ρ2 S3 H2 ∧ H2 DA = some (.lst accV) ∧ I2 DA = none ∧ ¬ Lv ρ2 S3 DA ∧ RepL K T ρ2 I2 accD accV ∧ compL step (ds.drop i) S3 = some (rest, S2) ∧ rs = accD ++ rest, ⟨ds.length, rfl, Nat.zero_le _, ?_⟩, ?_⟩
  · obtain ⟨ip, np⟩ := sr1.free hD
    exact ⟨I1, ρ1, S1, [], [], rs, sr1.over ip np, Stp.refl.over hD, upd_same, ip, np, rfl, e3, rfl⟩
  · rintro i m H2 ⟨rfl, hi, I2, ρ2, S3, accD, accV, rest, sr2, p2, hA, iA, nA, ra, ec, er⟩
    obtain ⟨stp, go⟩ := it I2 ρ2 S3 H2 p2.same p2.pre sr2
    by_cases hlt : i < ds.length
    · have hx : ds[i]? = some ds[i] := List.getElem?_eq_getElem hlt
      obtain ⟨g1, g2⟩ := go i _ hx
      rw [List.drop_eq_getElem_cons hlt] at ec
      obtain ⟨o, S4, c1, c2⟩ := bnd_some ec
      obtain ⟨r2, S5, c3, c4⟩ := bnd_some c2
      have cr : rest = consO o r2 ∧ S5 = S2 := by cases o <;> (cases c4; exact ⟨rfl, rfl⟩)
      clear c4 c2 ec
      obtain ⟨rfl, rfl⟩ := cr
      rw [← hstep] at c1
      dsimp only at c1
      refine .inr ⟨g1, fun H' => ∃ I2 ρ2 S3 accD accV rest, SR K T I2 ρ2 S3 H' ∧ Stp I1 ρ1 S1 H1 I2 ρ2 S3 H' ∧ H' DA = some (.lst accV) ∧ I2 DA = none ∧ ¬ Lv ρ2 S3 DA ∧ RepL K T ρ2 I2 accD accV ∧ compL step (ds.drop (i + 1)) S3 = some (rest, S5) ∧ rs = accD ++ rest, fun H' q => ⟨ds.length - (i + 1), by omega, rfl, hlt, q⟩, fun x H3 yl => ?_⟩
      obtain ⟨I3, sr3, p3, rx⟩ := g2 x H3 yl
      -- the item is bound
      cases hb : bindT t ds[i] Γ with
      | none =>
        rw [hb] at c1
        cases c1
      | some Γ' =>
        rw [hb] at c1
        have p13 := p2.trans p3
        have er3 : ER K T ρ2 I3 σ Γ := (er1.up p2).up p3
        have erw := er3.wipe vs
        obtain ⟨Γ3, b1, b2, b3, b4⟩ := bindT_at hb (Γ2 := Γ.zipIdx.map fun p => if p.2 ∈ vs then none else p.1) (by rw [List.length_map, List.length_zipIdx])
        refine ⟨I3, ρ2, S3, _, ds[i], Γ3, sr3, erw, rx, b1, fun σ2 er4 ag => ?_⟩
        have ag2 : Agree vs (L2.wipe σ vs) σ2 := ⟨ag.1, fun j hj => ag.2 j fun z => hj (hv j z)⟩
        have erG : ER K T ρ2 I3 σ2 Γ' := by
          refine ⟨by rw [b4, er3.len]; exact (ag.1.trans (wipe_length σ vs)).symm, fun j y hj => ?_⟩
          by_cases hjs : j ∈ t.slots
          · rw [b2 j hjs] at hj
            exact er4.at_ j y hj
          · rw [b3 j hjs] at hj
            obtain ⟨z, z1, z2⟩ := er3.at_ j y hj
            refine ⟨z, ?_, z2⟩
            rw [ag.2 j hjs, wipe_out fun q => hjs (hv2 j q)]
            exact z1
        refine ⟨ag2.wipe.trans (Agree.wipe (σ := σ) (σ' := L2.wipe σ vs) ⟨wipe_length σ vs, fun j hj => wipe_out hj⟩), ?_⟩
        obtain ⟨bb, S6, d1, d2⟩ := bnd_some c1
        -- what stays
        have keepA : ∀ {I' ρ' S' H'}, Stp I3 ρ2 S3 H3 I' ρ' S' H' → H' DA = some (.lst accV) ∧ I' DA = none ∧ ¬ Lv ρ' S' DA := fun {I' ρ' S' H'} t => by
          obtain ⟨a1, a2⟩ := p3.frm DA _ hA nA
          have a3 := p3.out DA _ hA iA nA
          obtain ⟨a4, a5⟩ := t.frm DA _ a1 a2
          exact ⟨a4, t.out DA _ a1 a3 a2, a5⟩
        refine tMT.use sr3 erG d1 fun I5 ρ5 H5 sr5 er5 p5 => ?_
        cases bb with
        | false =>
          have eo : o = none ∧ S6 = S4 := by cases d2; exact ⟨rfl, rfl⟩
          obtain ⟨rfl, rfl⟩ := eo
          obtain ⟨a1, a2, a3⟩ := keepA p5
          rw [if_neg Bool.false_ne_true]
          exact ⟨I5, ρ5, S6, accD, accV, r2, sr5, p13.trans p5, a1, a2, a3, (ra.stp p3).stp p5, c3, er⟩
        | true =>
          rw [if_pos rfl] at d2 ⊢
          obtain ⟨y, S7, d3, d4⟩ := bnd_some d2
          have eo : o = some y ∧ S7 = S4 := by cases d4; exact ⟨rfl, rfl⟩
          obtain ⟨rfl, rfl⟩ := eo
          refine tM.use sr5 er5 d3 fun v I6 ρ6 H6 sr6 er6 p6 r6 => ?_
          obtain ⟨a1, a2, a3⟩ := keepA (p5.trans p6)
          have hlen : accV.length < sizeLine := by
            rw [← ra.length, ← lim_eq]
            have : (accD ++ y :: r2).length ≤ LIM := (show (accD ++ y :: r2).length = rs.length from congrArg List.length er.symm) ▸ hlim
            rw [List.length_append, List.length_cons] at this
            omega
          refine ⟨accV, a1, hlen, ⟨I6, ρ6, S7, accD ++ [y], accV ++ [v], r2, sr6.over a2 a3, ((p13.trans p5).trans p6).over hD, upd_same, a2, a3, ?_, c3, ?_⟩⟩
          · exact RepL.append (((ra.stp p3).stp p5).stp p6) (.cons r6 rfl)
          · rw [er, List.append_assoc]
            rfl
    · have ei : i = ds.length := by omega
      subst ei
      refine .inl ⟨stp _ (Nat.le_refl _), ?_⟩
      rw [List.drop_length] at ec
      cases ec
      rw [List.append_nil] at er
      subst er
      have q := box_post (sr2.del iA nA) del_same ra e4 ((k.after p1).after (p2.del hD))
      rw [upd_del hA] at q
      exact q
section
variable {X : Cx} {T : Tb} {N : List PySem.Str} {fnAll : Bool} {sc scope : Scope} {elt tg iter : Expr} {ifs : List Expr} {own : List (PySem.Str × Nat)} {pos : Pos} {fi : Gam → M (List D)} {t : Tg} {fo : Gam → M Bool} {fe : Gam → M D} {bx : Bool}
theorem Nm.blk (n : Nm X N fnAll sc) {s : Shared} {H : Hp} {C : Addr} {cl : List (PySem.Str × Addr)} {fp : List Addr} : Nm (X.blk s H scope (compEnvC scope cl C X.env) fp) N false (relS scope sc) := ⟨by
  show relabel scope X.env = relS scope sc
  rw [← n.es]
  rfl, n.en, n.nd, n.ok, fun h => by cases h⟩
theorem m_lc (hc : X.calm = true) (n : Nm X N fnAll sc) (hi : PI X tg iter (tIM X.K T fi)) (hb : blkC N sc scope own = true) (ht : mTg N false (relS scope sc) t tg = true) (hv : t.slots = own.map (·.2))
    (hifs : ∀ (s : Shared) (H : Hp) (C : Addr) (cl : List (PySem.Str × Addr)) (fp : List Addr), PTs (X.blk s H scope (compEnvC scope cl C X.env) fp) ifs (tMT X.K T fo)) (he : ∀ (s : Shared) (H : Hp) (C : Addr) (cl : List (PySem.Str × Addr)) (fp : List Addr), PE (X.blk s H scope (compEnvC scope cl C X.env) fp) elt (tM X.K T fe))
    (hs : ∀ x, foldedSetIterable iter X.env x = pure x) : PE X (.ListComp elt [⟨tg, iter, ifs, 0⟩] scope pos) (tM X.K T (lcM fi t fo fe bx)) := by
  have ok : BlkOk X.N X.env.scope scope own := by
    rw [n.en, n.es]
    exact blkOk_by hb
  refine PE.of (pe_lc (g := gM X.K T t) hc (by rw [n.en]; exact n.nd) hi ok (fun s H C cl fp => pg_M (T := T) (X := X.blk s H scope (compEnvC scope cl C X.env) fp) hc n.blk ht) hifs he hs) fun σ H Q h => ?_
  exact lc_read (fun i hi => by rw [← hv]; exact hi) (fun i hi => by rw [hv]; exact hi) h
end
end Mi
/-! Mi, 17: statements. -/
namespace Mi
open PySem PySem.Spec PyProof.Rows L2

/-- what follows of a part's end -/
def PostS (K : PySem.W.Frag) (T : Tb) (I : Hp) (ρ : List Addr) (S : Sto) (H : Hp) (S' : Sto) (z : Fl × Gam) (D0 : Ends) : Prop := match z with
  | (.nx, Γ) => ∀ σ' I' ρ' H', SR K T I' ρ' S' H' → Stp I ρ S H I' ρ' S' H' → ER K T ρ' I' σ' Γ → D0.nx σ' H'
  | (.bk, Γ) => ∀ σ' I' ρ' H', SR K T I' ρ' S' H' → Stp I ρ S H I' ρ' S' H' → ER K T ρ' I' σ' Γ → D0.bk σ' H'
  | (.ct, Γ) => ∀ σ' I' ρ' H', SR K T I' ρ' S' H' → Stp I ρ S H I' ρ' S' H' → ER K T ρ' I' σ' Γ → D0.ct σ' H'
  | (.rt d, _) => PostV K T I ρ S H S' d D0.rt
def tMS (K : PySem.W.Frag) (T : Tb) (f : Gam → M (Fl × Gam)) : TS := fun D0 σ H => ∃ I ρ S Γ z S', SR K T I ρ S H ∧ ER K T ρ I σ Γ ∧ f Γ S = some (z, S') ∧ PostS K T I ρ S H S' z D0
section
variable {K : PySem.W.Frag} {T : Tb} {ρ ρ1 : List Addr} {I I1 : Hp} {S S1 S2 : Sto} {H H1 : Hp} {z : Fl × Gam} {D0 : Ends}
theorem PostS.after (k : PostS K T I ρ S H S2 z D0) (p : Stp I ρ S H I1 ρ1 S1 H1) : PostS K T I1 ρ1 S1 H1 S2 z D0 := by
  obtain ⟨f, Γ⟩ := z
  cases f with
  | rt d => exact PostV.after k p
  | nx => exact fun σ' I' ρ' H' r q e => k σ' I' ρ' H' r (p.trans q) e
  | bk => exact fun σ' I' ρ' H' r q e => k σ' I' ρ' H' r (p.trans q) e
  | ct => exact fun σ' I' ρ' H' r q e => k σ' I' ρ' H' r (p.trans q) e
end
theorem PSs.of {X : Cx} {sts : List Stmt} {t t' : TS} (h : PSs X sts t) (k : ∀ D0 σ H, t' D0 σ H → t D0 σ H) : PSs X sts t' := ⟨fun pins s σ H D0 J q => h.run pins s σ H D0 J (k D0 σ H q)⟩

def thenB (t : Tg) (k : Gam → M (Fl × Gam)) (d : D) (Γ : Gam) : M (Fl × Gam) := match bindT t d Γ with
  | some Γ' => k Γ'
  | none => M.no
/-! ### stores from the right -/
def isStar : Expr → Bool
  | .Starred _ _ => true
  | _ => false
def locName (sc : Scope) (line : Nat) : Expr → Option PySem.Str
  | .Name x p => if sc.names.lookup x == some .local && p.line == line then some x else none
  | _ => none
/-- what the stores of a written tuple's items do: from the right, in the written order; not told -/
def swapR (sc : Scope) (ts vs : List Expr) : Option (Option (List PySem.Str)) :=
  if !(ts.length == 2 || ts.length == 3) || vs.length != ts.length then some none else
  if vs.any isStar then some none else
  if (ts.filterMap (locName sc ((ts.head?.map (·.pos.line)).getD 0))).length != ts.length || (ts.filterMap (locName sc ((ts.head?.map (·.pos.line)).getD 0))).eraseDups.length != (ts.filterMap (locName sc ((ts.head?.map (·.pos.line)).getD 0))).length then some none else
  if vs.all (foldedForSure 8) then some none else
  if vs.all (constantsAlone 8) then none else some (some (ts.filterMap (locName sc ((ts.head?.map (·.pos.line)).getD 0))))
theorem swapR_ok {env : Env} {ts vs : List Expr} {k1 k2 : Nat} {p1 p2 : Pos} {r : Option (List PySem.Str)} (hk : env.scope.kind = .function) (h : swapR env.scope ts vs = some r) : swappedStores [.Tuple ts k1 p1] (.Tuple vs k2 p2) env = pure r := by
  have hb : env.blockKind = .function := by unfold Env.blockKind; rw [hk]; rfl
  have e0 : swappedStores [.Tuple ts k1 p1] (.Tuple vs k2 p2) env =
      if (!(ts.length == 2 || ts.length == 3) || vs.length != ts.length || env.blockKind != .function) = true then pure none else
      if (vs.any isStar) = true then pure none else
      if ((ts.filterMap (locName env.scope ((ts.head?.map (·.pos.line)).getD 0))).length != ts.length || (ts.filterMap (locName env.scope ((ts.head?.map (·.pos.line)).getD 0))).eraseDups.length != (ts.filterMap (locName env.scope ((ts.head?.map (·.pos.line)).getD 0))).length) = true then pure none else
      if (vs.all (foldedForSure 8)) = true then pure none else
      if (vs.all (constantsAlone 8)) = true then (do unsupported "assign.tuple-of-constant-expressions:order-of-the-stores"; pure (some (ts.filterMap (locName env.scope ((ts.head?.map (·.pos.line)).getD 0))))) else
      pure (some (ts.filterMap (locName env.scope ((ts.head?.map (·.pos.line)).getD 0)))) := rfl
  rw [e0, hb]
  simp only [bne_self_eq_false, Bool.or_false]
  simp only [swapR] at h
  split at h
  · rename_i c
    rw [if_pos c]
    cases h
    rfl
  · rename_i c
    rw [if_neg c]
    split at h
    · rename_i c2
      rw [if_pos c2]
      cases h
      rfl
    · rename_i c2
      rw [if_neg c2]
      split at h
      · rename_i c3
        rw [if_pos c3]
        cases h
        rfl
      · rename_i c3
        rw [if_neg c3]
        split at h
        · rename_i c4
          rw [if_pos c4]
          cases h
          rfl
        · rename_i c4
          rw [if_neg c4]
          split at h
          · cases h
          · rename_i c5
            rw [if_neg c5]
            cases h
            rfl
def isComp : Expr → Bool
  | .ListComp _ _ _ _ => true
  | .SetComp _ _ _ _ => true
  | .DictComp _ _ _ _ _ => true
  | _ => false
theorem noComp_sw {e : Expr} {o : Option Expr} {l : Nat} {env : Env} (h : isComp e = false) : swapsWith e o l env = pure false := by
  cases e <;> first
    | rfl
    | (cases h)
/-- no stores from the right -/
def swNone (sc : Scope) : Expr → Expr → Bool
  | .Name _ _, _ => true
  | .Tuple ts _ _, .Tuple vs _ _ => decide (swapR sc ts vs = some none)
  | .Tuple _ _ _, e => !isComp e
  | _, _ => false
theorem swNone_ok {env : Env} {tg e : Expr} (hk : env.scope.kind = .function) (h : swNone env.scope tg e = true) : swappedStores [tg] e env = pure none := by
  unfold swNone at h
  split at h
  · rfl
  · exact swapR_ok hk (of_decide_eq_true h)
  · rename_i ts k p e' hne
    cases e <;> first
      | rfl
      | (exact absurd rfl (hne _ _ _))
  · cases h
section
variable {X : Cx} {T : Tb} {N : List PySem.Str} {fnAll : Bool} {sc : Scope} {pos : Pos} {e a i tg iter : Expr} {es : List Expr} {rest body bA bB : List Stmt} {fe fa fi : Gam → M D} {fes : Gam → M (List D)} {fr fb f1 f2 : Gam → M (Fl × Gam)} {t : Tg}
theorem s_nil : PSs X [] (tMS X.K T fun Γ => M.ret (.nx, Γ)) := PSs.of pss_nil fun D0 σ H h => by
  obtain ⟨I, ρ, S, Γ, z, S', sr, er, e, k⟩ := h
  cases e
  exact k σ I ρ H sr Stp.refl er
/-- a target's store, then the rest -/
theorem asg_read {K : PySem.W.Frag} {T : Tb} {D0 : Ends} {σ : L2.St} {H : Hp} {te : TE} {g : TG} (hw : ∀ σ H Q, tM K T fe σ H Q → te σ H Q) (hg : ∀ v σ H Q, gM K T t v σ H Q → g v σ H Q)
    (h : tMS K T (fun Γ => M.bnd (fe Γ) fun d => thenB t fr d Γ) D0 σ H) : tSeq (tAsg te g) (tMS K T fr) D0 σ H := by
  obtain ⟨I, ρ, S, Γ, z, S', sr, er, e, k⟩ := h
  obtain ⟨d, S1, e1, e2⟩ := bnd_some e
  unfold thenB at e2
  cases hb : bindT t d Γ with
  | none =>
    rw [hb] at e2
    cases e2
  | some Γ' =>
    rw [hb] at e2
    refine hw σ H _ (tM.use sr er e1 fun v I1 ρ1 H1 sr1 er1 p1 r1 => hg _ _ _ _ ⟨I1, ρ1, S1, Γ, d, Γ', sr1, er1, r1, hb, fun σ' er' ag => ?_⟩)
    exact ⟨I1, ρ1, S1, Γ', z, S', sr1, er', e2, k.after p1⟩
theorem gM_name {K : PySem.W.Frag} {T : Tb} {j : Nat} {v : V} {σ : L2.St} {H : Hp} {Q : L2.St → Hp → Prop} (h : gM K T (.n j) v σ H Q) : gName j v σ H Q := by
  obtain ⟨I, ρ, S, Γ, d, Γ', sr, er, r, e, k⟩ := h
  cases e
  exact k _ (er.set r) (Agree.refl.set (by show j ∈ [j]; simp))
theorem s_asg (n : Nm X N fnAll sc) (hc : X.calm = true) (hk : sc.kind = .function) (he : PE X e (tM X.K T fe)) (ht : mTg N fnAll sc t tg = true) (hs : swapsWith e (some tg) pos.line X.env = pure false) (hw : swNone sc tg e = true) (hr : PSs X rest (tMS X.K T fr)) :
    PSs X (.Assign [tg] e pos :: rest) (tMS X.K T fun Γ => M.bnd (fe Γ) fun d => thenB t fr d Γ) := by
  have h1 : (assignEach [tg] X.env).map (·.2) = [assign tg X.env] := by
    cases tg <;> first
      | rfl
      | (cases t <;> cases ht)
  refine PSs.of (pss_cons (ps_asg he (pg_M hc n ht) hs (swNone_ok (by rw [n.es]; exact hk) (by rw [n.es]; exact hw)) h1) hr) fun D0 σ H h => asg_read (fun _ _ _ q => q) (fun _ _ _ _ q => q) h
/-- a list comprehension stored in a local name of the same line -/
theorem s_asgLc {scope : Scope} {own : List (PySem.Str × Nat)} {elt : Expr} {ifs : List Expr} {cpos py : Pos} {y : PySem.Str} {j : Nat} {bx : Bool} {fl : Gam → M (List D)} {fo : Gam → M Bool} {fx : Gam → M D} (n : Nm X N fnAll sc) (hc : X.calm = true) (hk : sc.kind = .function) (hj : N[j]? = some y) (hy : sc.names.lookup y = some .local) (hl : (py.line == cpos.line) = true)
    (hn : (scope.names.any fun (n, k) => n == y && (k == .local || k == .cell)) = false) (hi : PI X tg iter (tIM X.K T fl)) (hb : blkC N sc scope own = true) (ht : mTg N false (relS scope sc) t tg = true) (hv : t.slots = own.map (·.2))
    (hifs : ∀ (s : Shared) (H : Hp) (C : Addr) (cl : List (PySem.Str × Addr)) (fp : List Addr), PTs (X.blk s H scope (compEnvC scope cl C X.env) fp) ifs (tMT X.K T fo)) (he : ∀ (s : Shared) (H : Hp) (C : Addr) (cl : List (PySem.Str × Addr)) (fp : List Addr), PE (X.blk s H scope (compEnvC scope cl C X.env) fp) elt (tM X.K T fx))
    (hs : ∀ x, foldedSetIterable iter X.env x = pure x) (hr : PSs X rest (tMS X.K T fr)) :
    PSs X (.Assign [.Name y py] (.ListComp elt [⟨tg, iter, ifs, 0⟩] scope cpos) pos :: rest) (tMS X.K T fun Γ => M.bnd (lcM fl t fo fx bx Γ) fun d => thenB (.n j) fr d Γ) := by
  have ok : BlkOk X.N X.env.scope scope own := by
    rw [n.en, n.es]
    exact blkOk_by hb
  have hsw := sw_true (elt := elt) (gs := [⟨tg, iter, ifs, 0⟩]) (l := pos.line) (by rw [n.es]; exact hk) (by rw [n.es]; exact hy) hl hn
  refine PSs.of (pss_cons (ps_setLc (g := gM X.K T t) (i := j) hc (by rw [n.en]; exact n.nd) (by rw [n.en]; exact hj) (by rw [n.es]; exact hy) hsw hi ok (fun s H C cl fp => pg_M (T := T) (X := X.blk s H scope (compEnvC scope cl C X.env) fp) hc n.blk ht) hifs he hs) hr) fun D0 σ H h => ?_
  exact asg_read (fun _ _ _ q => lc_read (fun i hi => by rw [← hv]; exact hi) (fun i hi => by rw [hv]; exact hi) q) (fun _ _ _ _ q => gM_name q) h
end
end Mi
/-! Mi, 18: statements, going on. -/
namespace Mi
open PySem PySem.Spec PyProof.Rows L2

section
variable {X : Cx} {T : Tb} {N : List PySem.Str} {fnAll : Bool} {sc : Scope} {pos : Pos} {e a b i tg iter : Expr} {es : List Expr} {rest body bA bB : List Stmt} {fe fa fi : Gam → M D} {fes : Gam → M (List D)} {fr fb f1 f2 : Gam → M (Fl × Gam)} {t : Tg}
/-- a, b = x, y: both plain names of the def -/
theorem s_par {j1 j2 : Nat} {x1 x2 : PySem.Str} {px py pt : Pos} {kt k2 : Nat} {pt2 : Pos} (n : Nm X N fnAll sc) (hc : X.calm = true) (hk : sc.kind = .function) (h1 : N[j1]? = some x1) (h2 : N[j2]? = some x2) (hj : j1 ≠ j2) (l1 : sc.names.lookup x1 = some .local) (l2 : sc.names.lookup x2 = some .local)
    (ha : PA X [a, b] (tMs X.K T fes)) (hw : swapR sc [.Name x1 px, .Name x2 py] [a, b] = some (some [x1, x2])) (hr : PSs X rest (tMS X.K T fr)) :
    PSs X (.Assign [.Tuple [.Name x1 px, .Name x2 py] kt pt] (.Tuple [a, b] k2 pt2) pos :: rest) (tMS X.K T fun Γ => M.bnd (fes Γ) fun ds => if [j1, j2].length = ds.length then fr (setAll [j1, j2] ds Γ) else M.no) := by
  refine PSs.of (pss_cons (ps_par hc (by rw [n.en]; exact n.nd) (by rw [n.en]; exact h1) (by rw [n.en]; exact h2) hj (by rw [n.es]; exact l1) (by rw [n.es]; exact l2) ha (swapR_ok (by rw [n.es]; exact hk) (by rw [n.es]; exact hw)) rfl) hr) fun D0 σ H h => ?_
  obtain ⟨I, ρ, S, Γ, z, S', sr, er, ev, k⟩ := h
  obtain ⟨ds, S1, e1, e2⟩ := bnd_some ev
  split at e2
  · rename_i hl
    match ds, hl with
    | [d1, d2], _ =>
      refine tMs.use sr er e1 fun vs I1 ρ1 H1 sr1 er1 p1 r1 => ?_
      obtain ⟨v, ws, rfl, r1, r2⟩ := r1
      obtain ⟨w, ws, rfl, r2, r3⟩ := r2
      cases r3
      exact ⟨v, w, rfl, I1, ρ1, S1, _, z, S', sr1, (er1.set r1).set r2, e2, k.after p1⟩
  · cases e2
theorem s_sidx {tpos : Pos} (he : PE X e (tM X.K T fe)) (ha : PE X a (tM X.K T fa)) (hi : PE X i (tM X.K T fi)) (hs : isComp e = false) (hp : ∀ v, assign (.Subscript a i tpos) X.env v = (do
      let ov ← holding [v] (eval a X.env)
      let iv ← holding [v, ov] (eval i X.env)
      standAt tpos
      holding [v, ov, iv] (setItem ov iv v)
      release [v, ov, iv] [])) (hr : PSs X rest (tMS X.K T fr)) :
    PSs X (.Assign [.Subscript a i tpos] e pos :: rest) (tMS X.K T fun Γ => M.bnd (fe Γ) fun d => M.bnd (fa Γ) fun x => M.bnd (fi Γ) fun y => M.bnd (setItemD x y d) fun _ => fr Γ) := by
  refine PSs.of (pss_cons (ps_asg he (pg_sub ha hi set_list hp) (by show swapsWith e (some (.Subscript a i tpos)) pos.line X.env = _; exact noComp_sw hs) rfl rfl) hr) fun D0 σ H h => ?_
  obtain ⟨I, ρ, S, Γ, z, S', sr, er, ev, k⟩ := h
  obtain ⟨d, S1, e1, ev⟩ := bnd_some ev
  obtain ⟨x, S2, e2, ev⟩ := bnd_some ev
  obtain ⟨y, S3, e3, ev⟩ := bnd_some ev
  obtain ⟨_, S4, e4, ev⟩ := bnd_some ev
  refine tM.use sr er e1 fun v1 I1 ρ1 H1 sr1 er1 p1 r1 => tM.use sr1 er1 e2 fun v2 I2 ρ2 H2 sr2 er2 p2 r2 => tM.use sr2 er2 e3 fun v3 I3 ρ3 H3 sr3 er3 p3 r3 => ?_
  unfold setItemD at e4
  split at e4
  · rename_i bi j h6
    split at e4
    · rename_i ds hg
      split at e4
      · rename_i hj
        cases e4
        have r2' := r2.stp p3
        obtain ⟨ad, h1, rfl⟩ := r2'
        cases r3
        obtain ⟨⟨xs, hx, rx⟩, n0⟩ := sr3.box _ _ ad hg h1
        have rd : Rep X.K T ρ3 I3 d v1 := (r1.stp p2).stp p3
        obtain ⟨sr4, p4⟩ := sr3.write (w' := .lst (ds.set j.toNat d)) (o := .lst (xs.set j.toNat v1)) hg h1 ⟨_, rfl, RepL.set j.toNat rx rd⟩
        refine ⟨ad, xs, j, j.toNat, rfl, rfl, hx, ?_, I3, ρ3, _, Γ, z, S', sr4, er3.up p4, ev, k.after (((p1.trans p2).trans p3).trans p4)⟩
        unfold ixN
        rw [if_pos hj.1, if_pos (by rw [← rx.length]; exact hj.2)]
      · cases e4
    · cases e4
  · cases e4
theorem s_exp (he : PE X e (tM X.K T fe)) (hs : isComp e = false) (hr : PSs X rest (tMS X.K T fr)) : PSs X (.Expr e pos :: rest) (tMS X.K T fun Γ => M.bnd (fe Γ) fun _ => fr Γ) := by
  refine PSs.of (pss_cons (ps_expr he (noComp_sw hs)) hr) fun D0 σ H h => ?_
  obtain ⟨I, ρ, S, Γ, z, S', sr, er, ev, k⟩ := h
  obtain ⟨d, S1, e1, ev⟩ := bnd_some ev
  exact tM.use sr er e1 fun v1 I1 ρ1 H1 sr1 er1 p1 r1 => ⟨I1, ρ1, S1, Γ, z, S', sr1, er1, ev, k.after p1⟩
theorem s_ret (he : PE X e (tM X.K T fe)) : PSs X (.Return (some e) pos :: rest) (tMS X.K T fun Γ => M.bnd (fe Γ) fun d => M.ret (.rt d, Γ)) := by
  refine PSs.of (pss_cons (ps_ret he) pss_never) fun D0 σ H h => ?_
  obtain ⟨I, ρ, S, Γ, z, S', sr, er, ev, k⟩ := h
  obtain ⟨d, S1, e1, ev⟩ := bnd_some ev
  cases ev
  exact tM.use sr er e1 fun v1 I1 ρ1 H1 sr1 er1 p1 r1 => PostV.after (Q := D0.rt) k p1 v1 I1 ρ1 H1 sr1 Stp.refl r1
theorem s_retN : PSs X (.Return none pos :: rest) (tMS X.K T fun Γ => M.ret (.rt .non, Γ)) := by
  refine PSs.of (pss_cons ps_retN pss_never) fun D0 σ H h => ?_
  obtain ⟨I, ρ, S, Γ, z, S', sr, er, ev, k⟩ := h
  cases ev
  exact PostV.same (Q := D0.rt) k sr rfl
theorem s_pass (hr : PSs X rest (tMS X.K T fr)) : PSs X (.Pass pos :: rest) (tMS X.K T fr) := PSs.of (pss_cons ps_pass hr) fun D0 σ H h => h
theorem s_brk : PSs X (.Break pos :: rest) (tMS X.K T fun Γ => M.ret (.bk, Γ)) := by
  refine PSs.of (pss_cons ps_break pss_never) fun D0 σ H h => ?_
  obtain ⟨I, ρ, S, Γ, z, S', sr, er, ev, k⟩ := h
  cases ev
  exact k σ I ρ H sr Stp.refl er
theorem s_cnt : PSs X (.Continue pos :: rest) (tMS X.K T fun Γ => M.ret (.ct, Γ)) := by
  refine PSs.of (pss_cons ps_continue pss_never) fun D0 σ H h => ?_
  obtain ⟨I, ρ, S, Γ, z, S', sr, er, ev, k⟩ := h
  cases ev
  exact k σ I ρ H sr Stp.refl er
/-- a part, then the rest -/
theorem seq_read {K : PySem.W.Frag} {T : Tb} {D0 : Ends} {σ : L2.St} {H : Hp} (h : tMS K T (fun Γ => M.bnd (f1 Γ) fun z => thenS z fr) D0 σ H) : tMS K T f1 { D0 with nx := tMS K T fr D0 } σ H := by
  obtain ⟨I, ρ, S, Γ, z, S', sr, er, ev, k⟩ := h
  obtain ⟨y, S1, e1, e2⟩ := bnd_some ev
  refine ⟨I, ρ, S, Γ, y, S1, sr, er, e1, ?_⟩
  obtain ⟨f, Γ1⟩ := y
  cases f with
  | nx => exact fun σ' I' ρ' H' sr' p' er' => ⟨I', ρ', S1, Γ1, z, S', sr', er', e2, k.after p'⟩
  | rt d => cases e2; exact k
  | bk => cases e2; exact k
  | ct => cases e2; exact k
theorem s_ife (ht : PT X e (tMT X.K T (tru fe))) (ha : PSs X bA (tMS X.K T f1)) (hb : PSs X bB (tMS X.K T f2)) (hr : PSs X rest (tMS X.K T fr)) : PSs X (.If e bA bB pos :: rest) (tMS X.K T fun Γ => M.bnd (fe Γ) fun x => fun S => match truD (x.rsv S) with
    | some true => M.bnd (f1 Γ) (fun z => thenS z fr) S
    | some false => M.bnd (f2 Γ) (fun z => thenS z fr) S
    | none => none) := by
  refine PSs.of (pss_cons (ps_if ht ha hb) hr) fun D0 σ H h => ?_
  obtain ⟨I, ρ, S, Γ, z, S', sr, er, ev, k⟩ := h
  obtain ⟨d, S1, e1, e2⟩ := bnd_some ev
  split at e2
  · rename_i q
    exact tMT.use sr er (tru_eq e1 q) fun I1 ρ1 H1 sr1 er1 p1 => iteT (seq_read ⟨I1, ρ1, S1, Γ, z, S', sr1, er1, e2, k.after p1⟩)
  · rename_i q
    exact tMT.use sr er (tru_eq e1 q) fun I1 ρ1 H1 sr1 er1 p1 => iteF (seq_read ⟨I1, ρ1, S1, Γ, z, S', sr1, er1, e2, k.after p1⟩)
  · cases e2
/-- a loop's turns -/
def stepB (t : Tg) (fb : Gam → M (Fl × Gam)) : D → Gam → M (Fl × Gam) := fun x Γ => thenB t fb x Γ
theorem for_read {K : PySem.W.Frag} {T : Tb} {fl : Gam → M (List D)} {D0 : Ends} {σ : L2.St} {H : Hp} (h : tMS K T (fun Γ => M.bnd (fl Γ) fun xs => forL (stepB t fb) xs Γ) D0 σ H) : tFor (tIM K T fl) (gM K T t) (tMS K T fb) D0 σ H := by
  obtain ⟨I, ρ, S, Γ, z, S', sr, er, ev, k⟩ := h
  obtain ⟨ds, S1, e1, e2⟩ := bnd_some ev
  refine ⟨I, ρ, S, Γ, ds, S1, sr, er, e1, fun J I1 ρ1 H1 sr1 p1 it => ?_⟩
  refine ⟨fun i m σ H2 => m = ds.length - i ∧ i ≤ ds.length ∧ ∃ I2 ρ2 S2 Γ2, SR K T I2 ρ2 S2 H2 ∧ Stp I1 ρ1 S1 H1 I2 ρ2 S2 H2 ∧ ER K T ρ2 I2 σ Γ2 ∧ forL (stepB t fb) (ds.drop i) Γ2 S2 = some (z, S'), ⟨ds.length, rfl, Nat.zero_le _, I1, ρ1, S1, Γ, sr1, Stp.refl, er.up p1, e2⟩, ?_⟩
  rintro i m σ2 H2 ⟨rfl, hi, I2, ρ2, S2, Γ2, sr2, p2, er2, ec⟩
  obtain ⟨stp, go⟩ := it I2 ρ2 S2 H2 p2.same p2.pre sr2
  have p12 := p1.trans p2
  by_cases hlt : i < ds.length
  · have hx : ds[i]? = some ds[i] := List.getElem?_eq_getElem hlt
    obtain ⟨g1, g2⟩ := go i _ hx
    rw [List.drop_eq_getElem_cons hlt] at ec
    obtain ⟨y, S3, c1, c2⟩ := bnd_some ec
    refine .inr ⟨g1, fun σ' H' => ∃ I2 ρ2 S2 Γ2, SR K T I2 ρ2 S2 H' ∧ Stp I1 ρ1 S1 H1 I2 ρ2 S2 H' ∧ ER K T ρ2 I2 σ' Γ2 ∧ forL (stepB t fb) (ds.drop (i + 1)) Γ2 S2 = some (z, S'), fun σ' H' q => ⟨ds.length - (i + 1), by omega, rfl, hlt, q⟩, fun x H3 yl => ?_⟩
    obtain ⟨I3, sr3, p3, rx⟩ := g2 x H3 yl
    unfold stepB thenB at c1
    cases hb : bindT t ds[i] Γ2 with
    | none =>
      rw [hb] at c1
      cases c1
    | some Γ' =>
      rw [hb] at c1
      refine ⟨I3, ρ2, S2, Γ2, ds[i], Γ', sr3, er2.up p3, rx, hb, fun σ3 er3 ag => ?_⟩
      refine ⟨I3, ρ2, S2, Γ', y, S3, sr3, er3, c1, ?_⟩
      obtain ⟨f, Γ4⟩ := y
      cases f with
      | nx => exact fun σ' I' ρ' H' sr' p' er' => ⟨I', ρ', S3, Γ4, sr', (p2.trans p3).trans p', er', c2⟩
      | ct => exact fun σ' I' ρ' H' sr' p' er' => ⟨I', ρ', S3, Γ4, sr', (p2.trans p3).trans p', er', c2⟩
      | bk =>
        cases c2
        exact PostS.after (z := (.nx, Γ4)) k (p12.trans p3)
      | rt d =>
        cases c2
        exact PostS.after (z := (.rt d, Γ4)) k (p12.trans p3)
  · have ei : i = ds.length := by omega
    subst ei
    refine .inl ⟨stp _ (Nat.le_refl _), ?_⟩
    rw [List.drop_length] at ec
    cases ec
    exact k σ2 I2 ρ2 H2 sr2 p12 er2
theorem s_for {fl : Gam → M (List D)} (n : Nm X N fnAll sc) (hp : PassesOwn (model X.prog X.w) X.A X.env X.xe) (hc : X.calm = true) (hi : PI X tg iter (tIM X.K T fl)) (ht : mTg N fnAll sc t tg = true) (hb : PSs X body (tMS X.K T fb)) (hs : ∀ x, foldedSetIterable iter X.env x = pure x) (hr : PSs X rest (tMS X.K T fr)) :
    PSs X (.For tg iter body [] pos :: rest) (tMS X.K T fun Γ => M.bnd (fl Γ) fun xs => M.bnd (forL (stepB t fb) xs Γ) fun z => thenS z fr) := by
  refine PSs.of (pss_cons (ps_for hp hc hi (pg_M hc n ht) hb hs) hr) fun D0 σ H h => for_read (seq_read ?_)
  obtain ⟨I, ρ, S, Γ, z, S', sr, er, ev, k⟩ := h
  obtain ⟨ds, S1, e1, e2⟩ := bnd_some ev
  obtain ⟨y, S2, e3, e4⟩ := bnd_some e2
  refine ⟨I, ρ, S, Γ, z, S', sr, er, ?_, k⟩
  show M.bnd (M.bnd (fl Γ) fun xs => forL (stepB t fb) xs Γ) (fun z => thenS z fr) S = some (z, S')
  unfold M.bnd
  rw [e1]
  dsimp only
  rw [e3]
  exact e4
end
end Mi
/-! Mi, 19: a term of the small language is what an expression of the text says. -/
namespace Mi
open PySem PySem.Spec PyProof.Rows L2

/-- the names: the def's own, the defs', the classes', the attributes', the built-in ones -/
structure Cf where
  N : List PySem.Str
  fn : List PySem.Str
  cl : List PySem.Str
  fd : List PySem.Str
  bt : List PySem.Str
def visB (sc : Scope) (x : PySem.Str) : Bool := match sc.names.lookup x with
  | some .local => true
  | some .cell => true
  | some .free => true
  | _ => false
theorem visB_ok {sc : Scope} {x : PySem.Str} (h : visB sc x = true) : Vis sc x := by
  unfold visB at h
  split at h
  · exact .inl (by assumption)
  · exact .inr (.inl (by assumption))
  · exact .inr (.inr (by assumption))
  · cases h
def cstB : Cst → Const → Bool
  | .non, .none => true
  | .bl a, .bool b => a == b
  | .int a, .int b => decide (a = b)
  | .str a, .str b => decide (a = b)
  | _, _ => false
def frB (cf : Cf) (sc : Scope) (x : PySem.Str) : Bool := glB sc x && cf.bt.contains x && nmB x
def isTp (n : String) : Option Value → Bool
  | some (.type m) => decide (m = n)
  | _ => false
def isBf (n : String) : Option Value → Bool
  | some (.builtin m) => decide (m = n)
  | _ => false
theorem isTp_ok {n : String} {o : Option Value} (h : isTp n o = true) : o = some (.type n) := by
  unfold isTp at h
  split at h
  · rw [of_decide_eq_true h]
  · cases h
theorem isBf_ok {n : String} {o : Option Value} (h : isBf n o = true) : o = some (.builtin n) := by
  unfold isBf at h
  split at h
  · rw [of_decide_eq_true h]
  · cases h
def tyB (cf : Cf) (sc : Scope) : Ty → Expr → Bool
  | .bt n, .Name x _ => frB cf sc x && isTp n (bootBuiltins x)
  | .cl c, .Name x _ => decide (cf.cl[c]? = some x) && glB sc x && nmB x
  | _, _ => false
def biF : Bi → Option String
  | .len => some "len"
  | .abs => some "abs"
  | .max2 => some "max"
  | .min2 => some "min"
  | .repr => some "repr"
  | _ => none
def biB (cf : Cf) (sc : Scope) (b : Bi) (x : PySem.Str) : Bool := frB cf sc x && (match b with
  | .int1 => isTp "int" (bootBuiltins x)
  | .isi _ => false
  | b => match biF b with
    | some n => isBf n (bootBuiltins x)
    | none => false)
def noSlice : Expr → Bool
  | .Slice _ _ _ _ => false
  | _ => true
theorem noSlice_ok {e : Expr} (h : noSlice e = true) : PlainIx e := by
  intro o i
  cases e <;> first
    | rfl
    | (cases h)
def notSet : Expr → Bool
  | .Set _ _ _ => false
  | _ => true
theorem notSet_ok {e : Expr} {env : Env} (h : notSet e = true) : ∀ x, foldedSetIterable e env x = pure x := by
  intro x
  cases e <;> first
    | rfl
    | (cases h)
def keysB : List Cst → List (Option Expr) → Bool
  | [], [] => true
  | k :: ks, some (.Constant c _ _) :: r => cstB k c && keyC k && keysB ks r
  | _, _ => false
def Es.len : Es → Nat
  | .nil => 0
  | .cons _ r => r.len + 1
def ownOf (N : List PySem.Str) (t : Tg) : List (PySem.Str × Nat) := t.slots.filterMap fun i => (N[i]?).map (·, i)
mutual
def mE (cf : Cf) : E → Bool → Scope → Expr → Bool
  | .v i, _, sc, ex => (match ex with
    | .Name x _ => decide (cf.N[i]? = some x) && visB sc x && nmB x
    | _ => false)
  | .k c, _, _, ex => (match ex with
    | .Constant k _ _ => cstB c k
    | _ => false)
  | .fn g, _, sc, ex => false
  | .cl c, _, sc, ex => false
  | .gc _, _, _, _ => false
  | .neg a, _, sc, ex => (match ex with
    | .UnaryOp .USub x _ => mE cf a false sc x
    | _ => false)
  | .bin o a b, _, sc, ex => (match ex with
    | .BinOp x op y _ => decide (op = boO o) && mE cf a false sc x && mE cf b false sc y
    | _ => false)
  | .cmp o a b, _, sc, ex => (match ex with
    | .Compare x [op] [y] _ => decide (op = coO o) && !behindInMarks (coO o) y && mE cf a false sc x && mE cf b false sc y
    | _ => false)
  | .and a b, t, sc, ex => (match ex with
    | .BoolOp .And (x :: y :: r) p => mE cf a t sc x && (match r with
      | [] => mE cf b t sc y
      | z :: r => mE cf b t sc (.BoolOp .And (y :: z :: r) p))
    | _ => false)
  | .or a b, t, sc, ex => (match ex with
    | .BoolOp .Or (x :: y :: r) p => mE cf a t sc x && (match r with
      | [] => mE cf b t sc y
      | z :: r => mE cf b t sc (.BoolOp .Or (y :: z :: r) p))
    | _ => false)
  | .not a, t, sc, ex => (match ex with
    | .UnaryOp .Not x _ => mE cf a t sc x
    | _ => false)
  | .ife c a b, t, sc, ex => !t && (match ex with
    | .IfExp z x y _ => mE cf c true sc z && mE cf a false sc x && mE cf b false sc y
    | _ => false)
  | .lst _ es, _, sc, ex => (match ex with
    | .List xs _ => decide (es.len ≤ 1000) && mEs cf es sc xs
    | _ => false)
  | .tup es, _, sc, ex => (match ex with
    | .Tuple xs _ _ => decide (es.len ≤ 1000) && mEs cf es sc xs
    | _ => false)
  | .dsp ks vs, _, sc, ex => (match ex with
    | .Dict keys xs _ => keysB ks keys && decide (keys ≠ []) && decide (keys.length = xs.length) && decide (keys.length ≤ 15) && decide (ks.length = vs.len) && mEs cf vs sc xs
    | _ => false)
  | .ix a i, _, sc, ex => (match ex with
    | .Subscript x y _ => noSlice y && mE cf a false sc x && mE cf i false sc y
    | _ => false)
  | .rep _ es n, _, sc, ex => (match ex with
    | .BinOp (.List xs _) .Mult y _ => decide (es.len ≤ 1000) && mEs cf es sc xs && mE cf n false sc y
    | _ => false)
  | .at a f, _, sc, ex => (match ex with
    | .Attribute x y _ => decide (cf.fd[f]? = some y) && noSuper x && mE cf a false sc x
    | _ => false)
  | .call g es ks vs, _, sc, ex => (match ex with
    | .Call (.Name x _) xs kws _ => decide (cf.fn[g]? = some x) && glB sc x && nmB x && noStar xs && decide (kwNames kws = some ks) && mEs cf es sc xs && mKs cf vs sc kws
    | _ => false)
  | .bi b es, _, sc, ex => (match ex with
    | .Call (.Name x _) xs [] _ => (match b with
      | .isi t => (match xs with
        | [e, n] => decide (x = "isinstance") && frB cf sc x && tyB cf sc t n && noStar [e, n] && mEs cf es sc [e]
        | _ => false)
      | b => biB cf sc b x && !xs.isEmpty && noStar xs && mEs cf es sc xs)
    | _ => false)
  | .mkx c es ks vs, _, sc, ex => (match ex with
    | .Call (.Name x _) xs kws _ => decide (cf.cl[c]? = some x) && glB sc x && nmB x && noStar xs && decide (kwNames kws = some ks) && decide (es.len ≤ 1000) && mEs cf es sc xs && mKs cf vs sc kws
    | _ => false)
  | .lc _ e t it c, _, sc, ex => (match ex with
    | .ListComp elt [⟨tg, iter, ifs, z⟩] scope _ => decide (z = 0) && blkC cf.N sc scope (ownOf cf.N t) && decide (t.slots = (ownOf cf.N t).map (·.2)) && mTg cf.N false (relS scope sc) t tg && notSet iter && mI cf it sc tg iter && mO cf c (relS scope sc) ifs && mE cf e false (relS scope sc) elt
    | _ => false)
def mEs (cf : Cf) : Es → Scope → List Expr → Bool
  | .nil, _, xs => xs.isEmpty
  | .cons e r, sc, xs => (match xs with
    | x :: xs => !isStar x && mE cf e false sc x && mEs cf r sc xs
    | [] => false)
def mKs (cf : Cf) : Es → Scope → List Keyword → Bool
  | .nil, _, xs => xs.isEmpty
  | .cons e r, sc, xs => (match xs with
    | ⟨_, x, _⟩ :: xs => mE cf e false sc x && mKs cf r sc xs
    | [] => false)
def mO (cf : Cf) : Oe → Scope → List Expr → Bool
  | .none, _, xs => xs.isEmpty
  | .some e, sc, xs => (match xs with
    | [x] => mE cf e true sc x
    | _ => false)
def mI (cf : Cf) : It → Scope → Expr → Expr → Bool
  | .of e, sc, _, ex => mE cf e false sc ex
  | .range a, sc, _, ex => (match ex with
    | .Call (.Name x _) [y] [] _ => decide (x = "range") && frB cf sc x && noStar [y] && mE cf a false sc y
    | _ => false)
  | .enum a, sc, tg, ex => (match ex, tg with
    | .Call (.Name x _) [y] [] _, .Tuple _ _ _ => decide (x = "enumerate") && frB cf sc x && noStar [y] && mE cf a false sc y
    | _, _ => false)
end
/-- the world fits the names -/
structure Gd (cf : Cf) (T : Tb) (R : Rt) (k : Nat) (fnAll : Bool) (sc : Scope) (X : Cx) : Prop where
  nm : Nm X cf.N fnAll sc
  kd : sc.kind = .function
  C : Calm X (k + 2)
  px : X.xe = fun _ _ => False
  G : GW X.prog X.w X.K X.mg X.base T R k
  fns : ∀ g x, cf.fn[g]? = some x → X.mg x = some (.ref (T.fnA g)) ∧ PySem.W.keepIn X.K (.ref (T.fnA g)) = true
  cls : ∀ c x, cf.cl[c]? = some x → X.mg x = some (.ref (T.clA c)) ∧ ∃ fps, R.xf c = some fps
  fds : ∀ i f, cf.fd[i]? = some f → T.fld i = f
  bts : ∀ x, x ∈ cf.bt → X.mg x = none
section
variable {cf : Cf} {T : Tb} {R : Rt} {k : Nat} {fnAll : Bool} {sc scope : Scope} {X : Cx}
theorem Gd.blk (g : Gd cf T R k fnAll sc X) (h : scope.kind = .function) {s : Shared} {H : Hp} {C : Addr} {cl : List (PySem.Str × Addr)} {fp : List Addr} : Gd cf T R k false (relS scope sc) (X.blk s H scope (compEnvC scope cl C X.env) fp) :=
  ⟨g.nm.blk, h, ⟨g.C.hr, g.C.calm, g.C.gd, g.C.sm⟩, rfl, g.G, g.fns, g.cls, g.fds, g.bts⟩
theorem Gd.gl (g : Gd cf T R k fnAll sc X) {x : PySem.Str} (h : glB sc x = true) : Gl X x := by
  show X.env.scope.names.lookup x = _
  rw [g.nm.es]
  exact glB_ok h
theorem Gd.fr (g : Gd cf T R k fnAll sc X) {x : PySem.Str} (h : frB cf sc x = true) : Gl X x ∧ X.mg x = none ∧ nmB x = true := by
  unfold frB at h
  rw [Bool.and_eq_true, Bool.and_eq_true] at h
  exact ⟨g.gl h.1.1, g.bts x (List.contains_iff_mem.mp h.1.2), h.2⟩
end
end Mi
/-! Mi, 20: such a term computes the expression's value. -/
namespace Mi
open PySem PySem.Spec PyProof.Rows L2

theorem ba2 {a b : Bool} (h : (a && b) = true) : a = true ∧ b = true := Bool.and_eq_true_iff.mp h
theorem isStar_each {x : Expr} {xs : List Expr} {env : Env} (h : isStar x = false) : starEach (x :: xs) env = (false, eval x env) :: starEach xs env := by
  cases x <;> first
    | rfl
    | (cases h)
def flE (R : Rt) : Es → List (Gam → M D)
  | .nil => []
  | .cons e r => ev R e :: flE R r
theorem flE_evs {R : Rt} : ∀ es : Es, evL (flE R es) = evs R es
  | .nil => rfl
  | .cons e r => by
    funext Γ
    show M.bnd (ev R e Γ) (fun d => M.bnd (evL (flE R r) Γ) fun ds => M.ret (d :: ds)) = M.bnd (ev R e Γ) (fun d => M.bnd (evs R r Γ) fun ds => M.ret (d :: ds))
    rw [flE_evs r]
theorem flE_len {R : Rt} : ∀ es : Es, (flE R es).length = es.len
  | .nil => rfl
  | .cons e r => congrArg Nat.succ (flE_len r)
theorem evs_len {R : Rt} : ∀ (es : Es) {Γ : Gam} {S : Sto} {ds : List D} {S' : Sto}, evs R es Γ S = some (ds, S') → ds.length = es.len
  | .nil, Γ, S, ds, S', h => by cases h; rfl
  | .cons e r, Γ, S, ds, S', h => by
    obtain ⟨d, S1, h1, h2⟩ := bnd_some h
    obtain ⟨ds2, S2, h3, h4⟩ := bnd_some h2
    cases h4
    exact congrArg Nat.succ (evs_len r h3)
theorem short_of {R : Rt} {es : Es} (h : es.len ≤ 1000) : Short (evs R es) := fun Γ S ds S' q => by rw [evs_len es q]; exact h
theorem rsv_isTy {R : Rt} {S : Sto} {t : Ty} {d : D} : isTy R t (d.rsv S) = isTy R t d := by
  cases d <;> first
    | rfl
    | skip
  rename_i i
  have no : isTy R t (.ref i) = none := by cases t <;> rfl
  rw [rsv_ref]
  cases e : S.get i with
  | none => rfl
  | some w =>
    cases w with
    | lst ds => show isTy R t (.lst ds) = _; rw [no]; cases t <;> rfl
    | dct kvs => show isTy R t (.dct kvs) = _; rw [no]; cases t <;> rfl
    | ins c fs => rfl
section
variable {cf : Cf} {T : Tb} {R : Rt} {k : Nat}
theorem Calm.mono {X : Cx} {i j : Nat} (c : Calm X j) (h : i ≤ j) : Calm X i := ⟨c.hr.mono h, c.calm, c.gd, c.sm⟩
theorem noStar_mEs : ∀ {es : Es} {sc : Scope} {xs : List Expr}, mEs cf es sc xs = true → (xs = [] → ∀ Γ, evs R es Γ = M.ret [])
  | .nil, _, _, _, _ => fun _ => rfl
  | .cons e r, sc, xs, h, e0 => by
    subst e0
    simp only [mEs] at h
    cases h
theorem noKs_mKs : ∀ {es : Es} {sc : Scope} {xs : List Keyword}, mKs cf es sc xs = true → (xs = [] → ∀ Γ, evs R es Γ = M.ret [])
  | .nil, _, _, _, _ => fun _ => rfl
  | .cons e r, sc, xs, h, e0 => by
    subst e0
    simp only [mKs] at h
    cases h
/-- a unary minus -/
theorem m_neg {X : Cx} {a : Expr} {fa : Gam → M D} {pos : Pos} (ha : PE X a (tM X.K T fa)) : PE X (.UnaryOp .USub a pos) (tM X.K T fun Γ => M.bnd (fa Γ) fun x => M.opt (match x with
    | .int i => some (.int (-i))
    | _ => none)) := by
  refine PE.of (pe_un un_neg ha) fun σ H Q h => ?_
  obtain ⟨I, ρ, S, Γ, d, S', sr, er, e, post⟩ := h
  obtain ⟨d1, S1, e1, e2⟩ := bnd_some e
  obtain ⟨eo, rfl⟩ := opt_some e2
  split at eo
  · rename_i i
    cases eo
    refine tM.use sr er e1 fun v I1 ρ1 H1 sr1 er1 p1 r1 => ?_
    cases r1
    exact ⟨i, rfl, post (.int (-i)) I1 ρ1 H1 sr1 p1 rfl⟩
  · cases eo
theorem pw_of_pt {X : Cx} {op : BoolOp} {vs : List Expr} {pos : Pos} {t : TT} (h : PT X (.BoolOp op vs pos) t) : PW X (.BoolOp op vs pos) t := ⟨fun _ pins s σ H Q J q => h.run pins s σ H Q J q⟩
theorem m_cst {X : Cx} {c : Cst} {ex : Expr} (h : (match ex with
    | .Constant k _ _ => cstB c k
    | _ => false) = true) : PE X ex (tM X.K T fun _ => M.ret c.d) ∧ ∀ whole, isTrue ex X.env whole = (do let v ← whole; standAt ex.pos; holding [v] (truthy v)) := by
  split at h
  · rename_i kc j p
    refine ⟨?_, fun _ => rfl⟩
    cases c with
    | non => cases kc <;> first | (cases h; done) | exact m_const pe_non fun ρ I => rfl
    | bl b => cases kc <;> first | (cases h; done) | (cases (show b = _ from eq_of_beq h); exact m_const pe_bl fun ρ I => rfl)
    | int b => cases kc <;> first | (cases h; done) | (cases (show b = _ from of_decide_eq_true h); exact m_const pe_int fun ρ I => rfl)
    | str b => cases kc <;> first | (cases h; done) | (cases (show b = _ from of_decide_eq_true h); exact m_const pe_str fun ρ I => rfl)
  · cases h
theorem pe_keyc {X : Cx} {c : Cst} {kc : Const} {j : Nat} {p : Pos} (h : cstB c kc = true) (hk : keyC c = true) : PE X (.Constant kc j p) (tC (kV (keyF c))) := by
  cases c with
  | non => cases hk
  | bl b => cases hk
  | int b => cases kc <;> first | (cases h; done) | (cases (show b = _ from of_decide_eq_true h); exact pe_int)
  | str b => cases kc <;> first | (cases h; done) | (cases (show b = _ from of_decide_eq_true h); exact pe_str)
theorem keysB_len : ∀ {ks : List Cst} {keys : List (Option Expr)}, keysB ks keys = true → ks.length = keys.length ∧ keys.all (·.isSome) = true
  | [], [], _ => ⟨rfl, rfl⟩
  | [], _ :: _, h => by cases h
  | _ :: _, [], h => by cases h
  | c :: ks, o :: keys, h => by
    unfold keysB at h
    split at h
    · rename_i e1 e2
      cases e1
    · rename_i c' ks' kc j p r e1 e2
      cases e1
      cases e2
      obtain ⟨_, h2⟩ := ba2 h
      obtain ⟨a1, a2⟩ := keysB_len h2
      exact ⟨congrArg Nat.succ a1, by rw [List.all_cons, a2]; rfl⟩
    · cases h
theorem k_nil {X : Cx} : PK X [] (tMs X.K T fun _ => M.ret []) := ⟨fun pos pins s σ H Q J q => pk_nil.run pos pins s σ H Q J (by
  obtain ⟨I, ρ, S, Γ, d, S', sr, er, e, k⟩ := q
  cases e
  exact k [] I ρ H sr Stp.refl rfl)⟩
theorem k_cons {X : Cx} {x : Expr} {nm : Option PySem.Str} {kp : Pos} {kws : List Keyword} {fa : Gam → M D} {fs : Gam → M (List D)} (ha : PE X x (tM X.K T fa)) (hr : PK X kws (tMs X.K T fs)) :
    PK X (⟨nm, x, kp⟩ :: kws) (tMs X.K T fun Γ => M.bnd (fa Γ) fun d => M.bnd (fs Γ) fun ds => M.ret (d :: ds)) := ⟨fun pos pins s σ H Q J q => (pk_cons ha hr).run pos pins s σ H Q J (by
  obtain ⟨I, ρ, S, Γ, ds, S', sr, er, e, k⟩ := q
  obtain ⟨d1, S1, e1, e⟩ := bnd_some e
  obtain ⟨d2, S2, e2, e⟩ := bnd_some e
  cases e
  exact tM.use sr er e1 fun v1 I1 ρ1 H1 sr1 er1 p1 r1 => tMs.use sr1 er1 e2 fun v2 I2 ρ2 H2 sr2 er2 p2 r2 => k _ _ _ _ sr2 (p1.trans p2) (.cons (r1.stp p2) r2))⟩
theorem o_nil {X : Cx} : PTs X [] (tMT X.K T fun _ => M.ret true) := ⟨fun pins s σ H Q J q => pts_nil.run pins s σ H Q J (by
  obtain ⟨I, ρ, S, Γ, b, S', sr, er, e, k⟩ := q
  cases e
  exact k I ρ H sr Stp.refl)⟩
theorem m_biN {X : Cx} {x : PySem.Str} {p pos : Pos} {xs : List Expr} {fs : Gam → M (List D)} {id : String} {gf : List D → Option D} (hc : CallR X (.builtin id) (Vrn X.K T gf)) (hf : Gl X x ∧ X.mg x = none ∧ nmB x = true) (hv : bootBuiltins x = some (.builtin id)) (ha : PA X xs (tMs X.K T fs)) (hne : (!xs.isEmpty) = true) (hst : noStar xs = true) :
    PE X (.Call (.Name x p) xs [] pos) (tM X.K T fun Γ => M.bnd (fs Γ) fun ds => fun S => M.opt (gf (ds.map (D.rsv S))) S) := by
  cases xs with
  | nil => cases hne
  | cons y xs => exact m_bi hc hf.1 hf.2.1 hv ha hf.2.2 hst
mutual
theorem sE : ∀ (e : E) (t : Bool) (sc : Scope) (fnAll : Bool) (X : Cx) (ex : Expr), Gd cf T R k fnAll sc X → mE cf e t sc ex = true → PE X ex (tM X.K T (ev R e)) ∧ (t = true → PT X ex (tMT X.K T (tru (ev R e))))
  | .v i, t, sc, fnAll, X, ex, g, h => by
    simp only [mE] at h
    split at h
    · rename_i x p
      obtain ⟨h, h3⟩ := ba2 h
      obtain ⟨h1, h2⟩ := ba2 h
      obtain ⟨n1, n2, n3⟩ := nmB_ok h3
      have z : PE X (.Name x p) (tM X.K T (ev R (.v i))) := m_var (by rw [g.nm.en]; exact of_decide_eq_true h1) (by rw [g.nm.es]; exact visB_ok h2) n1 n2
      exact ⟨z, fun _ => mt_any z fun _ => rfl⟩
    · cases h
  | .k c, t, sc, fnAll, X, ex, g, h => by
    simp only [mE] at h
    obtain ⟨z, z2⟩ := m_cst (X := X) (T := T) h
    exact ⟨z, fun _ => mt_any z z2⟩
  | .fn _, t, sc, fnAll, X, ex, g, h => by simp only [mE] at h; cases h
  | .cl _, t, sc, fnAll, X, ex, g, h => by simp only [mE] at h; cases h
  | .gc _, t, sc, fnAll, X, ex, g, h => by simp only [mE] at h; cases h
  | .neg a, t, sc, fnAll, X, ex, g, h => by
    simp only [mE] at h
    split at h
    · rename_i x p
      have z := m_neg (pos := p) (sE a false sc fnAll X x g h).1
      exact ⟨z, fun _ => mt_any z fun _ => rfl⟩
    · cases h
  | .bin o a b, t, sc, fnAll, X, ex, g, h => by
    simp only [mE] at h
    split at h
    · rename_i x op y p
      obtain ⟨h, h3⟩ := ba2 h
      obtain ⟨h1, h2⟩ := ba2 h
      cases (show op = boO o from of_decide_eq_true h1)
      have z := m_bin (pos := p) o (sE a false sc fnAll X x g h2).1 (sE b false sc fnAll X y g h3).1
      exact ⟨z, fun _ => mt_any z fun _ => rfl⟩
    · cases h
  | .cmp o a b, t, sc, fnAll, X, ex, g, h => by
    simp only [mE] at h
    split at h
    · rename_i x op y p
      obtain ⟨h, h4⟩ := ba2 h
      obtain ⟨h, h3⟩ := ba2 h
      obtain ⟨h1, h2⟩ := ba2 h
      cases (show op = coO o from of_decide_eq_true h1)
      have h2' : behindInMarks (coO o) y = false := by rw [Bool.not_eq_true'] at h2; exact h2
      have q1 := (sE a false sc fnAll X x g h3).1
      have q2 := (sE b false sc fnAll X y g h4).1
      exact ⟨m_cmp g.C.hr.units o q1 q2 h2', fun _ => mt_cmp g.C.hr.units o q1 q2 h2'⟩
    · cases h
  | .and a b, t, sc, fnAll, X, ex, g, h => by
    simp only [mE] at h
    split at h
    · rename_i x y r p
      obtain ⟨h1, h2⟩ := ba2 h
      have q1 := sE a t sc fnAll X x g h1
      cases r with
      | nil =>
        have q2 := sE b t sc fnAll X y g h2
        exact ⟨m_and q1.1 (pe_one q2.1), fun ht => (mt_and (q1.2 ht) (pw_and1 (q2.2 ht))).pt⟩
      | cons z r =>
        have q2 := sE b t sc fnAll X _ g h2
        exact ⟨m_and q1.1 q2.1, fun ht => (mt_and (q1.2 ht) (pw_of_pt (q2.2 ht))).pt⟩
    · cases h
  | .or a b, t, sc, fnAll, X, ex, g, h => by
    simp only [mE] at h
    split at h
    · rename_i x y r p
      obtain ⟨h1, h2⟩ := ba2 h
      have q1 := sE a t sc fnAll X x g h1
      cases r with
      | nil =>
        have q2 := sE b t sc fnAll X y g h2
        exact ⟨m_or q1.1 (pe_one q2.1), fun ht => (mt_or (q1.2 ht) (pw_or1 (q2.2 ht))).pt⟩
      | cons z r =>
        have q2 := sE b t sc fnAll X _ g h2
        exact ⟨m_or q1.1 q2.1, fun ht => (mt_or (q1.2 ht) (pw_of_pt (q2.2 ht))).pt⟩
    · cases h
  | .not a, t, sc, fnAll, X, ex, g, h => by
    simp only [mE] at h
    split at h
    · rename_i x p
      have q := sE a t sc fnAll X x g h
      exact ⟨m_not q.1, fun ht => mt_not (q.2 ht)⟩
    · cases h
  | .ife c a b, t, sc, fnAll, X, ex, g, h => by
    simp only [mE] at h
    obtain ⟨h0, h9⟩ := ba2 h
    clear h
    split at h9
    · rename_i z x y p
      obtain ⟨h8, h3⟩ := ba2 h9
      obtain ⟨h1, h2⟩ := ba2 h8
      refine ⟨m_ife ((sE c true sc fnAll X z g h1).2 rfl) (sE a false sc fnAll X x g h2).1 (sE b false sc fnAll X y g h3).1, fun ht => ?_⟩
      rw [ht] at h0
      cases h0
    · cases h9
  | .lst bx es, t, sc, fnAll, X, ex, g, h => by
    simp only [mE] at h
    split at h
    · rename_i xs p
      obtain ⟨h1, h2⟩ := ba2 h
      have z := m_lst (pos := p) bx (sEs es sc fnAll X xs g h2) (short_of (of_decide_eq_true h1))
      exact ⟨z, fun _ => mt_any z fun _ => rfl⟩
    · cases h
  | .tup es, t, sc, fnAll, X, ex, g, h => by
    simp only [mE] at h
    split at h
    · rename_i xs n p
      obtain ⟨h1, h2⟩ := ba2 h
      have z := m_tup (pos := p) (n := n) (sEs es sc fnAll X xs g h2) (short_of (of_decide_eq_true h1))
      exact ⟨z, fun _ => mt_any z fun _ => rfl⟩
    · cases h
  | .dsp ks vs, t, sc, fnAll, X, ex, g, h => by
    simp only [mE] at h
    split at h
    · rename_i keys xs p
      obtain ⟨h, h6⟩ := ba2 h
      obtain ⟨h, h5⟩ := ba2 h
      obtain ⟨h, h4⟩ := ba2 h
      obtain ⟨h, h3⟩ := ba2 h
      obtain ⟨h1, h2⟩ := ba2 h
      obtain ⟨a1, a2⟩ := keysB_len h1
      have e5 : ks.length = vs.len := of_decide_eq_true h5
      have z := m_dsp (pos := p) (sPs vs ks sc fnAll X p keys xs g h1 (of_decide_eq_true h3) h6) a2 (of_decide_eq_true h3) (of_decide_eq_true h2) (of_decide_eq_true h4) a1 (by rw [flE_len, ← e5, a1])
      rw [flE_evs] at z
      exact ⟨z, fun _ => mt_any z fun _ => rfl⟩
    · cases h
  | .ix a i, t, sc, fnAll, X, ex, g, h => by
    simp only [mE] at h
    split at h
    · rename_i x y p
      obtain ⟨h, h3⟩ := ba2 h
      obtain ⟨h1, h2⟩ := ba2 h
      have z := m_ix (pos := p) (sE a false sc fnAll X x g h2).1 (sE i false sc fnAll X y g h3).1 (noSlice_ok h1)
      exact ⟨z, fun _ => mt_any z fun _ => rfl⟩
    · cases h
  | .rep bx es n, t, sc, fnAll, X, ex, g, h => by
    simp only [mE] at h
    split at h
    · rename_i xs p2 y p
      obtain ⟨h, h3⟩ := ba2 h
      obtain ⟨h1, h2⟩ := ba2 h
      have z := m_rep (pos := p) (p2 := p2) bx (sEs es sc fnAll X xs g h2) (short_of (of_decide_eq_true h1)) (sE n false sc fnAll X y g h3).1
      exact ⟨z, fun _ => mt_any z fun _ => rfl⟩
    · cases h
  | .at a f, t, sc, fnAll, X, ex, g, h => by
    simp only [mE] at h
    split at h
    · rename_i x y p
      obtain ⟨h, h3⟩ := ba2 h
      obtain ⟨h1, h2⟩ := ba2 h
      have z := m_at (pos := p) (R := R) g.G (g.fds f y (of_decide_eq_true h1)) (sE a false sc fnAll X x g h3).1 h2
      exact ⟨z, fun _ => mt_any z fun _ => rfl⟩
    · cases h
  | .call f es ks vs, t, sc, fnAll, X, ex, g, h => by
    simp only [mE] at h
    split at h
    · rename_i x p1 xs kws p
      obtain ⟨h, h7⟩ := ba2 h
      obtain ⟨h, h6⟩ := ba2 h
      obtain ⟨h, h5⟩ := ba2 h
      obtain ⟨h, h4⟩ := ba2 h
      obtain ⟨h, h3⟩ := ba2 h
      obtain ⟨h1, h2⟩ := ba2 h
      obtain ⟨n1, n2, n3⟩ := nmB_ok h3
      obtain ⟨f1, f2⟩ := g.fns f x (of_decide_eq_true h1)
      have z := m_call (pos := p) (p := p1) g.G (g.C.mono (Nat.le_add_right _ _)) (g.gl h2) f1 n1 f2 h4 (of_decide_eq_true h5) (sEs es sc fnAll X xs g h6) (sKs vs sc fnAll X kws g h7) (noStar_mEs h6) (noKs_mKs h7)
      exact ⟨z, fun _ => mt_any z fun _ => rfl⟩
    · cases h
  | .bi (.isi ty) (.cons a .nil), t, sc, fnAll, X, ex, g, h => by
    simp only [mE] at h
    split at h
    · rename_i x p1 xs p
      split at h
      · rename_i e n
        obtain ⟨h, h5⟩ := ba2 h
        obtain ⟨h, h4⟩ := ba2 h
        obtain ⟨h, h3⟩ := ba2 h
        obtain ⟨h1, h2⟩ := ba2 h
        cases (show x = _ from of_decide_eq_true h1)
        obtain ⟨q1, q2, q3⟩ := g.fr h2
        simp only [mEs] at h5
        obtain ⟨h5, _⟩ := ba2 h5
        obtain ⟨_, h5⟩ := ba2 h5
        have he := (sE a false sc fnAll X e g h5).1
        have z : PE X (.Call (.Name "isinstance" p1) [e, n] [] p) (tM X.K T fun Γ => M.bnd (ev R a Γ) fun d => M.opt ((isTy R ty d).map .bl)) := by
          cases n <;> first
            | (cases ty <;> cases h3; done)
            | skip
          rename_i y p2
          cases ty with
          | bt nt =>
            obtain ⟨c1, c2⟩ := ba2 h3
            obtain ⟨r1, r2, r3⟩ := g.fr c1
            obtain ⟨m1, m2, m3⟩ := nmB_ok r3
            refine m_isi (cv := .type nt) g.G q1 q2 he (pe_bltn (v := .ty nt) r1 r2 (isTp_ok c2) rfl m3 m1) (fun u r => r) (fun c0 fs b q => ?_) h4
            obtain ⟨fps, e1, e2⟩ := Option.bind_eq_some_iff.mp (show (R.xf c0).bind (fun _ => R.under c0 nt) = some b from q)
            exact g.G.isb c0 fps nt b e1 e2
          | cl c =>
            obtain ⟨c1, c3⟩ := ba2 h3
            obtain ⟨c1, c2⟩ := ba2 c1
            obtain ⟨m1, m2, m3⟩ := nmB_ok c3
            obtain ⟨r1, _⟩ := g.cls c _ (of_decide_eq_true c1)
            refine m_isi (cv := .ref (T.clA c)) g.G q1 q2 he (pe_glob (v := .ref (T.clA c)) (g.gl c2) r1 rfl m1) (fun u r => r) (fun c0 fs b q => ?_) h4
            obtain ⟨fps, e1, e2⟩ := Option.bind_eq_some_iff.mp (show (R.xf c0).bind (fun _ => (R.xf c).map fun _ => decide (c0 = c)) = some b from q)
            obtain ⟨fps', e3, e4⟩ := Option.map_eq_some_iff.mp e2
            rw [← e4]
            exact g.G.iso c0 fps c fps' e1 e3
        have z2 : PE X (.Call (.Name "isinstance" p1) [e, n] [] p) (tM X.K T (ev R (.bi (.isi ty) (.cons a .nil)))) := by
          refine PE.of z fun σ H Q hq => ?_
          obtain ⟨I, ρ, S, Γ, d, S', sr, er, e0, post⟩ := hq
          refine ⟨I, ρ, S, Γ, d, S', sr, er, ?_, post⟩
          obtain ⟨ds, S1, a1, a2⟩ := bnd_some e0
          obtain ⟨d1, S2, a3, a4⟩ := bnd_some a1
          obtain ⟨dn, S3, a5, a6⟩ := bnd_some a4
          cases a5
          cases a6
          obtain ⟨b1, rfl⟩ := opt_some a2
          have b2 : (isTy R ty (d1.rsv S')).map D.bl = some d := b1
          rw [rsv_isTy] at b2
          unfold M.bnd
          dsimp only
          rw [a3]
          dsimp only
          rw [b2]
          rfl
        exact ⟨z2, fun _ => mt_any z2 fun _ => rfl⟩
      · cases h
    · cases h
  | .bi (.isi ty) .nil, t, sc, fnAll, X, ex, g, h => by
    simp only [mE] at h
    split at h
    · split at h
      · obtain ⟨_, h⟩ := ba2 h
        simp only [mEs] at h
        cases h
      · cases h
    · cases h
  | .bi (.isi ty) (.cons a (.cons b r)), t, sc, fnAll, X, ex, g, h => by
    simp only [mE] at h
    split at h
    · split at h
      · obtain ⟨_, h⟩ := ba2 h
        simp only [mEs] at h
        obtain ⟨_, h⟩ := ba2 h
        cases h
      · cases h
    · cases h
  | .bi .len es, t, sc, fnAll, X, ex, g, h => by
    simp only [mE] at h
    split at h
    · rename_i x p1 xs p
      obtain ⟨h, h4⟩ := ba2 h
      obtain ⟨h, h3⟩ := ba2 h
      obtain ⟨h1, h2⟩ := ba2 h
      obtain ⟨q1, q2⟩ := ba2 (show (frB cf sc x && isBf "len" (bootBuiltins x)) = true from h1)
      have z := m_biN (p := p1) (pos := p) (c_len : CallR X _ (Vrn X.K T (biD R .len))) (g.fr q1) (isBf_ok q2) (sEs es sc fnAll X _ g h4) h2 h3
      exact ⟨z, fun _ => mt_any z fun _ => rfl⟩
    · cases h
  | .bi .abs es, t, sc, fnAll, X, ex, g, h => by
    simp only [mE] at h
    split at h
    · rename_i x p1 xs p
      obtain ⟨h, h4⟩ := ba2 h
      obtain ⟨h, h3⟩ := ba2 h
      obtain ⟨h1, h2⟩ := ba2 h
      obtain ⟨q1, q2⟩ := ba2 (show (frB cf sc x && isBf "abs" (bootBuiltins x)) = true from h1)
      have z := m_biN (p := p1) (pos := p) (c_abs : CallR X _ (Vrn X.K T (biD R .abs))) (g.fr q1) (isBf_ok q2) (sEs es sc fnAll X _ g h4) h2 h3
      exact ⟨z, fun _ => mt_any z fun _ => rfl⟩
    · cases h
  | .bi .max2 es, t, sc, fnAll, X, ex, g, h => by
    simp only [mE] at h
    split at h
    · rename_i x p1 xs p
      obtain ⟨h, h4⟩ := ba2 h
      obtain ⟨h, h3⟩ := ba2 h
      obtain ⟨h1, h2⟩ := ba2 h
      obtain ⟨q1, q2⟩ := ba2 (show (frB cf sc x && isBf "max" (bootBuiltins x)) = true from h1)
      have z := m_biN (p := p1) (pos := p) ((c_max2 g.C.calm) : CallR X _ (Vrn X.K T (biD R .max2))) (g.fr q1) (isBf_ok q2) (sEs es sc fnAll X _ g h4) h2 h3
      exact ⟨z, fun _ => mt_any z fun _ => rfl⟩
    · cases h
  | .bi .min2 es, t, sc, fnAll, X, ex, g, h => by
    simp only [mE] at h
    split at h
    · rename_i x p1 xs p
      obtain ⟨h, h4⟩ := ba2 h
      obtain ⟨h, h3⟩ := ba2 h
      obtain ⟨h1, h2⟩ := ba2 h
      obtain ⟨q1, q2⟩ := ba2 (show (frB cf sc x && isBf "min" (bootBuiltins x)) = true from h1)
      have z := m_biN (p := p1) (pos := p) ((c_min2 g.C.calm) : CallR X _ (Vrn X.K T (biD R .min2))) (g.fr q1) (isBf_ok q2) (sEs es sc fnAll X _ g h4) h2 h3
      exact ⟨z, fun _ => mt_any z fun _ => rfl⟩
    · cases h
  | .bi .repr es, t, sc, fnAll, X, ex, g, h => by
    simp only [mE] at h
    split at h
    · rename_i x p1 xs p
      obtain ⟨h, h4⟩ := ba2 h
      obtain ⟨h, h3⟩ := ba2 h
      obtain ⟨h1, h2⟩ := ba2 h
      obtain ⟨q1, q2⟩ := ba2 (show (frB cf sc x && isBf "repr" (bootBuiltins x)) = true from h1)
      have z := m_biN (p := p1) (pos := p) ((c_repr g.C) : CallR X _ (Vrn X.K T (biD R .repr))) (g.fr q1) (isBf_ok q2) (sEs es sc fnAll X _ g h4) h2 h3
      exact ⟨z, fun _ => mt_any z fun _ => rfl⟩
    · cases h
  | .bi .int1 es, t, sc, fnAll, X, ex, g, h => by
    simp only [mE] at h
    split at h
    · rename_i x p1 xs p
      obtain ⟨h, h4⟩ := ba2 h
      obtain ⟨h, h3⟩ := ba2 h
      obtain ⟨h1, h2⟩ := ba2 h
      unfold biB at h1
      obtain ⟨q1, q2⟩ := ba2 h1
      obtain ⟨r1, r2, r3⟩ := g.fr q1
      cases xs with
      | nil => cases h2
      | cons y xs =>
        have z := m_biT (p := p1) (pos := p) (c_int1 (T := T) (R := R)) r1 r2 (isTp_ok q2) (sEs es sc fnAll X _ g h4) r3 h3
        exact ⟨z, fun _ => mt_any z fun _ => rfl⟩
    · cases h
  | .mkx c es ks vs, t, sc, fnAll, X, ex, g, h => by
    simp only [mE] at h
    split at h
    · rename_i x p1 xs kws p
      obtain ⟨h, h8⟩ := ba2 h
      obtain ⟨h, h7⟩ := ba2 h
      obtain ⟨h, h6⟩ := ba2 h
      obtain ⟨h, h5⟩ := ba2 h
      obtain ⟨h, h4⟩ := ba2 h
      obtain ⟨h, h3⟩ := ba2 h
      obtain ⟨h1, h2⟩ := ba2 h
      obtain ⟨n1, n2, n3⟩ := nmB_ok h3
      obtain ⟨f1, fps, f2⟩ := g.cls c x (of_decide_eq_true h1)
      have z := m_mkx (pos := p) (p := p1) (g.G.exc c fps f2).1 (g.gl h2) f1 n1 (g.C.hr.mono (Nat.le_add_left _ _)) h4 (of_decide_eq_true h5) (sEs es sc fnAll X xs g h7) (sKs vs sc fnAll X kws g h8) (noStar_mEs h7) (noKs_mKs h8) (short_of (of_decide_eq_true h6))
      have e0 : (fun Γ => M.bnd (evs R es Γ) fun ds => M.bnd (evs R vs Γ) fun zs => M.opt ((bindD (fps.map (·.1)) ds ks zs).map fun xs => D.exc c ((fps.map (·.2)).zip xs))) = ev R (.mkx c es ks vs) := by
        funext Γ
        show _ = M.bnd (evs R es Γ) fun ds => M.bnd (evs R vs Γ) fun zs => M.opt (mkX R c ds ks zs)
        unfold mkX
        rw [f2]
        rfl
      rw [e0] at z
      exact ⟨z, fun _ => mt_any z fun _ => rfl⟩
    · cases h
  | .lc bx e tg it c, t, sc, fnAll, X, ex, g, h => by
    simp only [mE] at h
    split at h
    · rename_i elt tge iter ifs z scope p
      obtain ⟨h, h8⟩ := ba2 h
      obtain ⟨h, h7⟩ := ba2 h
      obtain ⟨h, h6⟩ := ba2 h
      obtain ⟨h, h5⟩ := ba2 h
      obtain ⟨h, h4⟩ := ba2 h
      obtain ⟨h, h3⟩ := ba2 h
      obtain ⟨h1, h2⟩ := ba2 h
      cases (show z = 0 from of_decide_eq_true h1)
      have kd : scope.kind = .function := (blkOk_by h2).kind
      have z := m_lc (pos := p) (bx := bx) g.C.calm g.nm (sI it sc fnAll X tge iter g h6) h2 h4 (of_decide_eq_true h3) (fun s H C cl fp => sO c (relS scope sc) false _ ifs (g.blk kd) h7) (fun s H C cl fp => (sE e false (relS scope sc) false _ elt (g.blk kd) h8).1) (notSet_ok h5)
      exact ⟨z, fun _ => mt_any z fun _ => rfl⟩
    · cases h
theorem sEs : ∀ (es : Es) (sc : Scope) (fnAll : Bool) (X : Cx) (xs : List Expr), Gd cf T R k fnAll sc X → mEs cf es sc xs = true → PA X xs (tMs X.K T (evs R es))
  | .nil, sc, fnAll, X, xs, g, h => by
    simp only [mEs] at h
    cases xs with
    | nil => exact m_nil
    | cons _ _ => cases h
  | .cons e r, sc, fnAll, X, xs, g, h => by
    simp only [mEs] at h
    cases xs with
    | nil => cases h
    | cons x xs =>
      obtain ⟨h, h3⟩ := ba2 h
      obtain ⟨h1, h2⟩ := ba2 h
      exact m_cons (sE e false sc fnAll X x g h2).1 (sEs r sc fnAll X xs g h3) (isStar_each (by rw [Bool.not_eq_true'] at h1; exact h1))
theorem sKs : ∀ (es : Es) (sc : Scope) (fnAll : Bool) (X : Cx) (xs : List Keyword), Gd cf T R k fnAll sc X → mKs cf es sc xs = true → PK X xs (tMs X.K T (evs R es))
  | .nil, sc, fnAll, X, xs, g, h => by
    simp only [mKs] at h
    cases xs with
    | nil => exact k_nil
    | cons _ _ => cases h
  | .cons e r, sc, fnAll, X, xs, g, h => by
    simp only [mKs] at h
    cases xs with
    | nil => cases h
    | cons x xs =>
      obtain ⟨nm, x, kp⟩ := x
      obtain ⟨h1, h2⟩ := ba2 h
      exact k_cons (sE e false sc fnAll X x g h1).1 (sKs r sc fnAll X xs g h2)
theorem sPs : ∀ (vs : Es) (ks : List Cst) (sc : Scope) (fnAll : Bool) (X : Cx) (pos : Pos) (keys : List (Option Expr)) (xs : List Expr), Gd cf T R k fnAll sc X → keysB ks keys = true → keys.length = xs.length → mEs cf vs sc xs = true → PPs X pos keys xs (dspTr X.K T ks (flE R vs))
  | .nil, ks, sc, fnAll, X, pos, keys, xs, g, hk, hl, h => by
    simp only [mEs] at h
    cases xs with
    | nil =>
      cases keys with
      | nil =>
        cases ks with
        | nil => exact pps_nil
        | cons _ _ => cases hk
      | cons _ _ => cases hl
    | cons _ _ => cases h
  | .cons e r, ks, sc, fnAll, X, pos, keys, xs, g, hk, hl, h => by
    simp only [mEs] at h
    cases xs with
    | nil => cases h
    | cons x xs =>
      obtain ⟨h, h3⟩ := ba2 h
      obtain ⟨h1, h2⟩ := ba2 h
      cases keys with
      | nil => cases hl
      | cons o keys =>
        cases ks with
        | nil => cases hk
        | cons c ks =>
          cases o with
          | none => cases hk
          | some ke =>
            cases ke <;> first
              | (cases hk; done)
              | skip
            obtain ⟨hk, hk3⟩ := ba2 hk
            obtain ⟨hk1, hk2⟩ := ba2 hk
            exact pps_cons (pe_keyc hk1 hk2) (sE e false sc fnAll X x g h2).1 (sPs r ks sc fnAll X pos keys xs g hk3 (Nat.succ.inj hl) h3)
theorem sO : ∀ (c : Oe) (sc : Scope) (fnAll : Bool) (X : Cx) (ifs : List Expr), Gd cf T R k fnAll sc X → mO cf c sc ifs = true → PTs X ifs (tMT X.K T (evo R c))
  | .none, sc, fnAll, X, ifs, g, h => by
    simp only [mO] at h
    cases ifs with
    | nil => exact o_nil
    | cons _ _ => cases h
  | .some e, sc, fnAll, X, ifs, g, h => by
    simp only [mO] at h
    split at h
    · rename_i x
      exact pts_one ((sE e true sc fnAll X x g h).2 rfl)
    · cases h
theorem sI : ∀ (it : It) (sc : Scope) (fnAll : Bool) (X : Cx) (tg iter : Expr), Gd cf T R k fnAll sc X → mI cf it sc tg iter = true → PI X tg iter (tIM X.K T (evi R it))
  | .of e, sc, fnAll, X, tg, iter, g, h => by
    simp only [mI] at h
    exact pi_of (sE e false sc fnAll X iter g h).1
  | .range a, sc, fnAll, X, tg, iter, g, h => by
    simp only [mI] at h
    split at h
    · rename_i x p1 y p
      obtain ⟨h, h4⟩ := ba2 h
      obtain ⟨h, h3⟩ := ba2 h
      obtain ⟨h1, h2⟩ := ba2 h
      cases (show x = _ from of_decide_eq_true h1)
      obtain ⟨r1, r2, r3⟩ := g.fr h2
      exact pi_rng (sE a false sc fnAll X y g h4).1 r1 r2 h3
    · cases h
  | .enum a, sc, fnAll, X, tg, iter, g, h => by
    simp only [mI] at h
    split at h
    · rename_i x p1 y p ts k1 tp
      obtain ⟨h, h4⟩ := ba2 h
      obtain ⟨h, h3⟩ := ba2 h
      obtain ⟨h1, h2⟩ := ba2 h
      cases (show x = _ from of_decide_eq_true h1)
      obtain ⟨r1, r2, r3⟩ := g.fr h2
      exact pi_enm (sE a false sc fnAll X y g h4).1 r1 r2 h3
    · cases h
end
end
end Mi
/-! Mi, 21: statements of the text; a def of the text keeps its promise. -/
namespace Mi
open PySem PySem.Spec PyProof.Rows L2

/-- a list comprehension that is stored as it is made -/
def swL (sc : Scope) : Expr → Expr → Bool
  | .Name y py, .ListComp _ _ s cp => (sc.names.lookup y == some .local) && (py.line == cp.line) && !(s.names.any fun (n, k) => n == y && (k == .local || k == .cell))
  | _, _ => false
def sdComp : Expr → Bool
  | .SetComp _ _ _ _ => true
  | .DictComp _ _ _ _ _ => true
  | _ => false
theorem swL_no {env : Env} {sc : Scope} {tg ex : Expr} {l : Nat} (hk : sc.kind = .function) (hs : env.scope = sc) (h : swL sc tg ex = false) (h2 : sdComp ex = false) : swapsWith ex (some tg) l env = pure false := by
  cases ex <;> first
    | rfl
    | (cases h2; done)
    | skip
  rename_i elt gs s cp
  cases tg <;> first
    | rfl
    | skip
  rename_i y py
  have hb : env.blockKind = .function := by unfold Env.blockKind; rw [hs, hk]; rfl
  have e0 : swapsWith (.ListComp elt gs s cp) (some (.Name y py)) l env = pure (env.blockKind == .function && env.kindOf y == some .local && py.line == cp.line && !(s.names.any fun (n, k) => n == y && (k == .local || k == .cell))) := rfl
  rw [e0, hb]
  have e1 : env.kindOf y = sc.names.lookup y := by rw [← hs]; rfl
  rw [e1]
  have h3 : ((sc.names.lookup y == some .local) && (py.line == cp.line) && !(s.names.any fun (n, k) => n == y && (k == .local || k == .cell))) = false := h
  rw [show ((ScopeKind.function == ScopeKind.function) && (sc.names.lookup y == some .local) && (py.line == cp.line) && !(s.names.any fun (n, k) => n == y && (k == .local || k == .cell))) = ((sc.names.lookup y == some .local) && (py.line == cp.line) && !(s.names.any fun (n, k) => n == y && (k == .local || k == .cell))) from rfl, h3]
def isNonC : E → Bool
  | .k .non => true
  | _ => false
def mSs (cf : Cf) : Ss → Scope → List Stmt → Bool
  | .nil, _, sts => sts.isEmpty
  | .asg t e r, sc, sts => (match sts with
    | .Assign [tg] ex _ :: sts => mTg cf.N true sc t tg && mE cf e false sc ex && !sdComp ex && swNone sc tg ex && mSs cf r sc sts
    | _ => false)
  | .par is es r, sc, sts => (match sts with
    | .Assign [.Tuple [.Name x1 px, .Name x2 py] _ _] (.Tuple [a, b] _ _) _ :: sts => (match is with
      | [j1, j2] => decide (cf.N[j1]? = some x1) && decide (cf.N[j2]? = some x2) && decide (j1 ≠ j2) && (sc.names.lookup x1 == some .local) && (sc.names.lookup x2 == some .local) && decide (swapR sc [.Name x1 px, .Name x2 py] [a, b] = some (some [x1, x2])) && mEs cf es sc [a, b] && mSs cf r sc sts
      | _ => false)
    | _ => false)
  | .sidx a i e r, sc, sts => (match sts with
    | .Assign [.Subscript x y _] ex _ :: sts => noSlice y && mE cf a false sc x && mE cf i false sc y && mE cf e false sc ex && !isComp ex && mSs cf r sc sts
    | _ => false)
  | .exp e r, sc, sts => (match sts with
    | .Expr ex _ :: sts => mE cf e false sc ex && !isComp ex && mSs cf r sc sts
    | _ => false)
  | .ret e _, sc, sts => (match sts with
    | .Return (some ex) _ :: _ => mE cf e false sc ex
    | .Return none _ :: _ => isNonC e
    | _ => false)
  | .ife t a b r, sc, sts => (match sts with
    | .If ex xs ys _ :: sts => mE cf t true sc ex && mSs cf a sc xs && mSs cf b sc ys && mSs cf r sc sts
    | _ => false)
  | .for t it b r, sc, sts => (match sts with
    | .For tg iter xs [] _ :: sts => mTg cf.N true sc t tg && mI cf it sc tg iter && notSet iter && mSs cf b sc xs && mSs cf r sc sts
    | _ => false)
  | .brk _, _, sts => (match sts with
    | .Break _ :: _ => true
    | _ => false)
  | .cnt _, _, sts => (match sts with
    | .Continue _ :: _ => true
    | _ => false)
  | .pass r, sc, sts => (match sts with
    | .Pass _ :: sts => mSs cf r sc sts
    | _ => false)
theorem swL_yes {sc : Scope} {tg ex : Expr} (h : swL sc tg ex = true) : ∃ y py elt gs s cp, tg = .Name y py ∧ ex = .ListComp elt gs s cp ∧ sc.names.lookup y = some .local ∧ (py.line == cp.line) = true ∧ (s.names.any fun (n, k) => n == y && (k == .local || k == .cell)) = false := by
  cases tg <;> first
    | (cases h; done)
    | skip
  rename_i y py
  cases ex <;> first
    | (cases h; done)
    | skip
  rename_i elt gs s cp
  obtain ⟨w, w3⟩ := ba2 h
  obtain ⟨w1, w2⟩ := ba2 w
  exact ⟨y, py, elt, gs, s, cp, rfl, rfl, eq_of_beq w1, w2, by rw [Bool.not_eq_true'] at w3; exact w3⟩
theorem lc_only {cf : Cf} {e : E} {sc s : Scope} {elt : Expr} {gs : List Comprehension} {cp : Pos} (h : mE cf e false sc (.ListComp elt gs s cp) = true) : ∃ bx e' t it c, e = .lc bx e' t it c := by
  cases e <;> first
    | exact ⟨_, _, _, _, _, rfl⟩
    | (simp only [mE] at h; cases h; done)
    | (simp [mE] at h; done)
theorem lc_inv {cf : Cf} {bx : Bool} {e : E} {t : Tg} {it : It} {c : Oe} {sc s : Scope} {elt : Expr} {gs : List Comprehension} {cp : Pos} (h : mE cf (.lc bx e t it c) false sc (.ListComp elt gs s cp) = true) : ∃ tg iter ifs, gs = [⟨tg, iter, ifs, 0⟩] ∧
    blkC cf.N sc s (ownOf cf.N t) = true ∧ t.slots = (ownOf cf.N t).map (·.2) ∧ mTg cf.N false (relS s sc) t tg = true ∧ notSet iter = true ∧ mI cf it sc tg iter = true ∧ mO cf c (relS s sc) ifs = true ∧ mE cf e false (relS s sc) elt = true := by
  cases gs with
  | nil => simp only [mE] at h; cases h
  | cons g gs =>
    cases gs with
    | cons _ _ => simp only [mE] at h; cases h
    | nil =>
      obtain ⟨tg, iter, ifs, z⟩ := g
      simp only [mE] at h
      obtain ⟨h, h8⟩ := ba2 h
      obtain ⟨h, h7⟩ := ba2 h
      obtain ⟨h, h6⟩ := ba2 h
      obtain ⟨h, h5⟩ := ba2 h
      obtain ⟨h, h4⟩ := ba2 h
      obtain ⟨h, h3⟩ := ba2 h
      obtain ⟨h1, h2⟩ := ba2 h
      cases (show z = 0 from of_decide_eq_true h1)
      exact ⟨tg, iter, ifs, rfl, h2, of_decide_eq_true h3, h4, h5, h6, h7, h8⟩
theorem sub_eq {x y : Expr} {p : Pos} {env : Env} (h : noSlice y = true) (v : Value) : assign (.Subscript x y p) env v = (do
      let ov ← holding [v] (eval x env)
      let iv ← holding [v, ov] (eval y env)
      standAt p
      holding [v, ov, iv] (setItem ov iv v)
      release [v, ov, iv] []) := by
  cases y <;> first
    | rfl
    | (cases h)
section
variable {cf : Cf} {T : Tb} {R : Rt} {k : Nat}
theorem exs_asg {t : Tg} {e : E} {r : Ss} : exs R (.asg t e r) = fun Γ => M.bnd (ev R e Γ) fun d => thenB t (exs R r) d Γ := rfl
theorem exs_for {t : Tg} {it : It} {b r : Ss} : exs R (.for t it b r) = fun Γ => M.bnd (evi R it Γ) fun xs => M.bnd (forL (stepB t (exs R b)) xs Γ) fun z => thenS z (exs R r) := rfl
theorem sSs : ∀ (p : Ss) (sc : Scope) (X : Cx) (sts : List Stmt), Gd cf T R k true sc X → mSs cf p sc sts = true → PSs X sts (tMS X.K T (exs R p))
  | .nil, sc, X, sts, g, h => by
    simp only [mSs] at h
    cases sts with
    | nil => exact s_nil
    | cons _ _ => cases h
  | .asg t e r, sc, X, sts, g, h => by
    simp only [mSs] at h
    split at h
    · rename_i tg ex p sts
      obtain ⟨h, h5⟩ := ba2 h
      obtain ⟨h, h4⟩ := ba2 h
      obtain ⟨h, h3⟩ := ba2 h
      obtain ⟨h1, h2⟩ := ba2 h
      have h3' : sdComp ex = false := by rw [Bool.not_eq_true'] at h3; exact h3
      rw [exs_asg]
      have hr := sSs r sc X sts g h5
      cases hsw : swL sc tg ex with
      | false => exact s_asg g.nm g.C.calm g.kd (sE e false sc true X ex g h2).1 h1 (swL_no g.kd g.nm.es hsw h3') h4 hr
      | true =>
        obtain ⟨y, py, elt, gs, scope, cp, rfl, rfl, w1, w2, w3⟩ := swL_yes hsw
        cases t with
        | t is => cases h1
        | n j =>
          obtain ⟨j1, j2⟩ := ba2 (show (decide (cf.N[j]? = some y) && bdB true sc y) = true from h1)
          obtain ⟨bx, e', t', it, c, rfl⟩ := lc_only h2
          obtain ⟨tge, iter, ifs, rfl, c1, c2, c3, c4, c5, c6, c7⟩ := lc_inv h2
          have kd : scope.kind = .function := (blkOk_by c1).kind
          exact s_asgLc (bx := bx) g.nm g.C.calm g.kd (of_decide_eq_true j1) w1 w2 w3 (sI it sc true X tge iter g c5) c1 c3 c2 (fun s H C cl fp => sO c (relS scope sc) false _ ifs (g.blk kd) c6) (fun s H C cl fp => (sE e' false (relS scope sc) false _ elt (g.blk kd) c7).1) (notSet_ok c4) hr
    · cases h
  | .par is es r, sc, X, sts, g, h => by
    simp only [mSs] at h
    split at h
    · rename_i x1 px x2 py kt pt a b k2 pt2 p sts
      split at h
      · rename_i j1 j2
        obtain ⟨h, h8⟩ := ba2 h
        obtain ⟨h, h7⟩ := ba2 h
        obtain ⟨h, h6⟩ := ba2 h
        obtain ⟨h, h5⟩ := ba2 h
        obtain ⟨h, h4⟩ := ba2 h
        obtain ⟨h, h3⟩ := ba2 h
        obtain ⟨h1, h2⟩ := ba2 h
        exact s_par g.nm g.C.calm g.kd (of_decide_eq_true h1) (of_decide_eq_true h2) (of_decide_eq_true h3) (eq_of_beq h4) (eq_of_beq h5) (sEs es sc true X [a, b] g h7) (of_decide_eq_true h6) (sSs r sc X sts g h8)
      · cases h
    · cases h
  | .sidx a i e r, sc, X, sts, g, h => by
    simp only [mSs] at h
    split at h
    · rename_i x y p1 ex p sts
      obtain ⟨h, h5⟩ := ba2 h
      obtain ⟨h, h4⟩ := ba2 h
      obtain ⟨h, h3⟩ := ba2 h
      obtain ⟨h, h2⟩ := ba2 h
      obtain ⟨h0, h1⟩ := ba2 h
      exact s_sidx (sE e false sc true X ex g h3).1 (sE a false sc true X x g h1).1 (sE i false sc true X y g h2).1 (by rw [Bool.not_eq_true'] at h4; exact h4) (sub_eq h0) (sSs r sc X sts g h5)
    · cases h
  | .exp e r, sc, X, sts, g, h => by
    simp only [mSs] at h
    split at h
    · rename_i ex p sts
      obtain ⟨h, h3⟩ := ba2 h
      obtain ⟨h1, h2⟩ := ba2 h
      exact s_exp (sE e false sc true X ex g h1).1 (by rw [Bool.not_eq_true'] at h2; exact h2) (sSs r sc X sts g h3)
    · cases h
  | .ret e r, sc, X, sts, g, h => by
    simp only [mSs] at h
    split at h
    · rename_i ex p sts
      exact s_ret (sE e false sc true X ex g h).1
    · rename_i p sts
      have e0 : e = .k .non := by
        unfold isNonC at h
        split at h
        · rfl
        · cases h
      subst e0
      exact s_retN
    · cases h
  | .ife t a b r, sc, X, sts, g, h => by
    simp only [mSs] at h
    split at h
    · rename_i ex xs ys p sts
      obtain ⟨h, h4⟩ := ba2 h
      obtain ⟨h, h3⟩ := ba2 h
      obtain ⟨h1, h2⟩ := ba2 h
      exact s_ife ((sE t true sc true X ex g h1).2 rfl) (sSs a sc X xs g h2) (sSs b sc X ys g h3) (sSs r sc X sts g h4)
    · cases h
  | .for t it b r, sc, X, sts, g, h => by
    simp only [mSs] at h
    split at h
    · rename_i tg iter xs p sts
      obtain ⟨h, h5⟩ := ba2 h
      obtain ⟨h, h4⟩ := ba2 h
      obtain ⟨h, h3⟩ := ba2 h
      obtain ⟨h1, h2⟩ := ba2 h
      rw [exs_for]
      exact s_for g.nm (by rw [g.px]; exact PassesOwn.never) g.C.calm (sI it sc true X tg iter g h2) h1 (sSs b sc X xs g h4) (notSet_ok h3) (sSs r sc X sts g h5)
    · cases h
  | .brk r, sc, X, sts, g, h => by
    simp only [mSs] at h
    split at h
    · exact s_brk
    · cases h
  | .cnt r, sc, X, sts, g, h => by
    simp only [mSs] at h
    split at h
    · exact s_cnt
    · cases h
  | .pass r, sc, X, sts, g, h => by
    simp only [mSs] at h
    split at h
    · rename_i p sts
      exact s_pass (sSs r sc X sts g h)
    · cases h
end
end Mi
/-! Mi, 22: a def of the text keeps its promise; the whole program, by the fuel. -/
namespace Mi
open PySem PySem.Spec PyProof.Rows L2

/-- plain parameters -/
def plB (p : Arguments) (ps : List PySem.Str) : Bool := p.posonlyargs.isEmpty && decide (p.args.map (·.arg) = ps) && p.vararg.isNone && p.kwonlyargs.isEmpty && p.kwarg.isNone
theorem plB_ok {fd : FuncData} {ps : List PySem.Str} (h : plB fd.params ps = true) (hd : fd.defaults = .none) : PlainFd fd ps := by
  unfold plB at h
  rw [Bool.and_eq_true, Bool.and_eq_true, Bool.and_eq_true, Bool.and_eq_true, decide_eq_true_iff] at h
  obtain ⟨⟨⟨⟨h1, h2⟩, h3⟩, h4⟩, h5⟩ := h
  exact ⟨List.isEmpty_iff.mp h1, h2, Option.isNone_iff_eq_none.mp h3, List.isEmpty_iff.mp h4, Option.isNone_iff_eq_none.mp h5, hd⟩
theorem er_start {K : PySem.W.Frag} {T : Tb} {ρ : List Addr} {I : Hp} {N : List PySem.Str} : ∀ {xs : List D} {vs : List V} {n m : Nat}, RepL K T ρ I xs vs → n = m → ER K T ρ I (vs.map some ++ List.replicate n none) (xs.map some ++ List.replicate m none) := by
  intro xs vs n m r e
  subst e
  have hl := r.length
  refine ⟨by rw [List.length_append, List.length_append, List.length_map, List.length_map, List.length_replicate, List.length_replicate, hl], fun i d h => ?_⟩
  by_cases hi : i < xs.length
  · rw [List.getElem?_append_left (by rw [List.length_map]; exact hi), List.getElem?_map] at h
    rw [List.getElem?_append_left (by rw [List.length_map, ← hl]; exact hi), List.getElem?_map]
    cases q : xs[i]? with
    | none => rw [q] at h; cases h
    | some y =>
      rw [q] at h
      cases h
      obtain ⟨v, e1, r1⟩ := r.get q
      exact ⟨v, by rw [e1]; rfl, r1⟩
  · rw [List.getElem?_append_right (by rw [List.length_map]; omega), List.getElem?_replicate] at h
    split at h <;> cases h
section
variable {P : Program} {w : World} {K : PySem.W.Frag} {mg : PySem.Str → Option Value} {base : Heap} {T : Tb} {k : Nat}
theorem fnM_of {cf : Cf} {R : Rt} {f : Addr} {fd : FuncData} {x qual : PySem.Str} {params : Arguments} {body : List Stmt} {scope : Scope} {ps : List PySem.Str} {p : Ss} {fn : Fn} (F : FunD K x qual params body scope [] [] f fd) (hp : plB params ps = true) (hs : scB cf.N ps scope = true) (hm : mSs cf p scope body = true)
    (hf : fn.ps = ps) (hn : fn.ns = cf.N.length) (G : GW P w K mg base T R k)
    (fns : ∀ g x, cf.fn[g]? = some x → mg x = some (.ref (T.fnA g)) ∧ PySem.W.keepIn K (.ref (T.fnA g)) = true) (cls : ∀ c x, cf.cl[c]? = some x → mg x = some (.ref (T.clA c)) ∧ ∃ fps, R.xf c = some fps) (fds : ∀ i f, cf.fd[i]? = some f → T.fld i = f) (bts : ∀ x, x ∈ cf.bt → mg x = none)
    (sm : ∃ o, base.get? sysModules = some o ∧ o.cls ≠ .type "list") :
    FnM P w K mg base T (k + 3) f fd ps fun xs => M.bnd (exs R p (fn.entry xs)) endS := by
  obtain ⟨S, nms⟩ := scB_ok hs
  obtain ⟨oc, od, dV, kV, doc, pm, an, cdv, ct, osl, rfl, lk, hcd, hdf, _⟩ := F.ex
  have hd : dV = .none := by
    rcases hdf with h | h
    · exact h.2
    · exact absurd rfl h.1
  subst hd
  have ndP : ps.Nodup := by rw [← S.pre]; exact S.nd.sublist (List.take_sublist _ _)
  refine ⟨plB_ok hp rfl, ndP, fun A outer s H args us vs xs I ρ S0 S1 d Q hr hgd e0 hb rv sr rp hl eF post => ?_⟩
  have hlv : vs.length = ps.length := by rw [← rp.length, hl]
  have KX : K.In s.heap := e0.mod.kin.keeps fun b o e => (e0.bs b o e).1
  have lim : s.heap.NoLimit := e0.mod.nolimit.keeps fun b o e => (e0.bs b o e).1
  have kinds : ∀ y ∈ ps.zip us, scope.names.lookup y.1 = some .local ∨ (scope.names.lookup y.1 = some .cell ∧ ((cellsFrom (s.heap.objs.size + 1) scope.names []).lookup y.1).isSome = true) := fun ⟨n, v⟩ hy => by
    rcases S.par n (List.of_mem_zip hy).1 with q | q
    · exact .inl q
    · exact .inr ⟨q, PySem.W.cellsFrom_some _ _ _ (.inl q)⟩
  refine codeAny_call_function hr.depth (KX _ _ lk) rfl S.co S.gen rfl (PySem.W.codeRec_of KX hcd) (hb _ _ _ _ ?_)
  refine wpAny_newFunctionEnv_cells S.kind kinds fun env he s1 ic => ?_
  subst he
  refine ⟨lim.keeps ic.toInCall.keep, codeAny_func ?_⟩
  have J : Inv (cxOf CXN P w K mg base cf.N qual scope f cdv A outer s H fun _ _ _ => False) [] (L2.start cf.N vs) H s1 := inv_start S hr.hd e0 hlv rv ic
  have gd : Gd cf T R k true scope (cxOf CXN P w K mg base cf.N qual scope f cdv A outer s H fun _ _ _ => False).nox :=
    ⟨⟨rfl, rfl, S.nd, nms, fun _ _ => rfl⟩, S.kind, ⟨hr.deeper _, rfl, hgd, sm⟩, rfl, G, fns, cls, fds, bts⟩
  have ht := PSs.nox (sSs p scope _ body gd hm)
  have erS : ER K T ρ I (L2.start cf.N vs) (fn.entry xs) := by
    have hle : vs.length = xs.length := rp.length.symm
    exact er_start (N := cf.N) rp (by rw [hn, hf, hlv])
  obtain ⟨z, S2, e1, e2⟩ := bnd_some eF
  have body := ht.run [] s1 (L2.start cf.N vs) H { nx := fun _ H' => Q .non H', rt := Q } J ⟨I, ρ, S0, fn.entry xs, z, S2, sr, erS, e1, by
    obtain ⟨fl, Γ⟩ := z
    cases fl with
    | nx =>
      cases e2
      exact fun σ' I' ρ' H' sr' p' er' => post .non I' ρ' H' sr' p' rfl
    | rt d' =>
      cases e2
      exact post
    | bk => cases e2
    | ct => cases e2⟩
  refine wpAny_mono body (fun fl s' hs' => ?_) fun e s' hs' => hs'
  have fin : ∀ {σ' : L2.St} {H' : Hp} {v : V} {u : Value}, Inv (cxOf CXN P w K mg base cf.N qual scope f cdv A outer s H fun _ _ _ => False) [] σ' H' s' → RelV v u → Q v H' → CE outer P w H s Q u s' :=
    fun {σ' H' v u} J2 r2 q2 => ⟨v, H', J2.os, J2.bare, J2.base, J2.hok, r2, q2⟩
  cases fl with
  | ret u =>
    obtain ⟨v, σ', H', J2, r2, q2⟩ := hs'
    exact fin J2 r2 q2
  | next =>
    obtain ⟨σ', H', J2, q2⟩ := hs'
    exact fin (v := V.non) (u := Value.none) J2 rfl q2
  | brk =>
    obtain ⟨_, _, _, q2⟩ := hs'
    exact False.elim q2
  | cont =>
    obtain ⟨_, _, _, q2⟩ := hs'
    exact False.elim q2
/-- the program's text is what Prg says -/
structure Wo (P : Program) (w : World) (K : PySem.W.Frag) (mg : PySem.Str → Option Value) (base : Heap) (T : Tb) (Pg : Prg) (cf : Cf) : Prop where
  exc : ∀ c fps, Pg.xf c = some fps → XMk P w K mg base T c fps ∧ ∀ q ∈ fps, PySem.W.findIn K (.ref (T.clA c)) (T.fld q.2) = some none
  isb : ∀ c fps n b, Pg.xf c = some fps → Pg.under c n = some b → PySem.W.kitOne K (.ref (T.clA c)) (.type n) = some b
  iso : ∀ c fps c' fps', Pg.xf c = some fps → Pg.xf c' = some fps' → PySem.W.kitOne K (.ref (T.clA c)) (.ref (T.clA c')) = some (decide (c = c'))
  fns : ∀ g x, cf.fn[g]? = some x → mg x = some (.ref (T.fnA g)) ∧ PySem.W.keepIn K (.ref (T.fnA g)) = true
  cls : ∀ c x, cf.cl[c]? = some x → mg x = some (.ref (T.clA c)) ∧ ∃ fps, Pg.xf c = some fps
  fds : ∀ i f, cf.fd[i]? = some f → T.fld i = f
  bts : ∀ x, x ∈ cf.bt → mg x = none
  sm : ∃ o, base.get? sysModules = some o ∧ o.cls ≠ .type "list"
  defs : ∀ g fn, Pg.fns[g]? = some fn → ∃ (x qual : PySem.Str) (params : Arguments) (body : List Stmt) (scope : Scope) (fd : FuncData) (N : List PySem.Str), FunD K x qual params body scope [] [] (T.fnA g) fd ∧ plB params fn.ps = true ∧ scB N fn.ps scope = true ∧ mSs { cf with N := N } fn.body scope body = true ∧ fn.ns = N.length
theorem wo_run {Pg : Prg} {cf : Cf} (W : Wo P w K mg base T Pg cf) : ∀ n, GW P w K mg base T (Pg.rt (run Pg n)) (3 * n)
  | 0 => ⟨W.exc, W.isb, W.iso, fun g ds ks zs S d S' h => by cases h⟩
  | n + 1 => by
    have ih := wo_run W n
    refine ⟨W.exc, W.isb, W.iso, fun g ds ks zs S d S' h => ?_⟩
    have h1 : (match Pg.fns[g]? with
      | some f => match bindD f.ps ds ks zs with
        | some xs => M.bnd (exs (Pg.rt (run Pg n)) f.body (f.entry xs)) endS
        | none => M.no
      | none => M.no) S = some (d, S') := h
    cases e : Pg.fns[g]? with
    | none =>
      rw [e] at h1
      cases h1
    | some fn =>
      rw [e] at h1
      dsimp only at h1
      cases eb : bindD fn.ps ds ks zs with
      | none =>
        rw [eb] at h1
        cases h1
      | some xs =>
        rw [eb] at h1
        obtain ⟨x, qual, params, body, scope, fd, N, F, h2, h3, h4, h5⟩ := W.defs g fn e
        exact ⟨fd, fn.ps, _, xs, fnM_of (cf := { cf with N := N }) F h2 h3 h4 rfl h5 ih W.fns W.cls W.fds W.bts W.sm, F.kp, eb, h1⟩
end
end Mi
/-! Mi, 23: what the head sees of the program; a law's end. -/
namespace Mi
open PySem PySem.Spec PyProof.Rows L2 He

/-! ### built-in exception classes -/
structure BI where
  B : String
  nB : String
  nw : String
  ini : String
  bm : List String
def bI : Nat → BI
  | 0 => ⟨"ValueError", "ValueError", "ValueError.__new__", "ValueError.__init__", ["ValueError", "Exception", "BaseException", "object"]⟩
  | 1 => ⟨"KeyError", "LookupError", "LookupError.__new__", "KeyError.__init__", ["KeyError", "LookupError", "Exception", "BaseException", "object"]⟩
  | 2 => ⟨"LookupError", "LookupError", "LookupError.__new__", "LookupError.__init__", ["LookupError", "Exception", "BaseException", "object"]⟩
  | 3 => ⟨"IndexError", "IndexError", "IndexError.__new__", "IndexError.__init__", ["IndexError", "LookupError", "Exception", "BaseException", "object"]⟩
  | 4 => ⟨"OverflowError", "OverflowError", "OverflowError.__new__", "OverflowError.__init__", ["OverflowError", "ArithmeticError", "Exception", "BaseException", "object"]⟩
  | _ => ⟨"RuntimeError", "RuntimeError", "RuntimeError.__new__", "RuntimeError.__init__", ["RuntimeError", "Exception", "BaseException", "object"]⟩
theorem xb_at (b : Nat) : XB (bI b).B (bI b).nB (bI b).nw (bI b).ini (vl (bI b).bm) := match b with
  | 0 => xb_ValueError
  | 1 => xb_KeyError
  | 2 => xb_LookupError
  | 3 => xb_IndexError
  | 4 => xb_OverflowError
  | _ + 5 => xb_RuntimeError

theorem hi_at (b : Nat) : PySem.W.handedIn (.builtin (bI b).ini) = true := match b with
  | 0 => by decide +kernel
  | 1 => by decide +kernel
  | 2 => by decide +kernel
  | 3 => by decide +kernel
  | 4 => by decide +kernel
  | _ + 5 => (by decide +kernel : PySem.W.handedIn (.builtin "RuntimeError.__init__") = true)

/-! ### a class, looked at -/
structure XI where
  nm : PySem.Str
  base : Nat
  fps : List (PySem.Str × Nat)
  un : List (String × Bool)
def isVal (id : String) : Option PySem.W.CFound → Bool
  | some (.val (.builtin n)) => decide (n = id)
  | _ => false
def clsB (K : PySem.W.Frag) (fld : Nat → PySem.Str) (q : XI) : Bool :=
  let C := ga K q.nm
  let f := ma K C "__init__"
  xcIn K C (vl (bI q.base).bm) (bI q.base).nw && eqO (PySem.W.findIn K (.ref C) "__setattr__") (some (some (.builtin "object.__setattr__"))) && eqO (PySem.W.findIn K (.ref C) "__init__") (some (some (.ref f))) && decide (PySem.W.typeIn K (.ref f) = some (.type "function")) &&
    PySem.W.keepIn K (.ref C) && (eqO (PySem.W.findIn K (.ref C) "__getattribute__") (some (some (.builtin "BaseException.__getattribute__"))) && eqO (PySem.W.findIn K (.ref C) "__getattr__") (some none) && decide (PySem.W.subIn K (.ref C) (.type "BaseException") = some true) && PySem.W.hasDictIn K C &&
      eqO (PySem.W.findIn K (.ref C) "__class__") (some (some (.builtin "object.__class__"))) && decide (PySem.W.mroIn K C (.type "object") = some true)) &&
    isVal (bI q.base).ini (PySem.W.findCls K (.type (bI q.base).B) (.type "type") "__init__") && q.fps.all (fun p => eqO (PySem.W.findIn K (.ref C) (fld p.2)) (some none)) && q.un.all (fun p => decide (PySem.W.kitOne K (.ref C) (.type p.1) = some p.2))
/-- what all of them lean on -/
def allB (K : PySem.W.Frag) (fld : Nat → PySem.Str) (xs : List XI) : Bool := eqO (PySem.W.specialIn K (.builtin "object.__class__") "__get__") (some (some (.builtin "getset_descriptor.__get__"))) && decide (PySem.W.takesIn K (.builtin "object.__class__") = some true) &&
  xs.all (clsB K fld) && xs.zipIdx.all (fun p => xs.zipIdx.all fun q => decide (PySem.W.kitOne K (.ref (ga K p.1.nm)) (.ref (ga K q.1.nm)) = some (decide (p.2 = q.2))))
/-! ### the whole text, as data -/
structure Src where
  fns : List DefD
  Ns : List (List PySem.Str)
  bod : List Ss
  xs : List XI
  inis : List DefD
  fd : List PySem.Str
  bt : List PySem.Str
def Src.fld (s : Src) (i : Nat) : PySem.Str := s.fd.getD i PySem.Str.empty
def Src.ps (s : Src) (d : DefD) : List PySem.Str := d.params.args.map (·.arg)
def Src.fn (s : Src) (g : Nat) : Option Fn := (s.fns[g]?).bind fun d => (s.Ns[g]?).bind fun N => (s.bod[g]?).map fun b => ⟨s.ps d, N.length, b⟩
def Src.prg (s : Src) : Prg := { fns := (List.range s.fns.length).filterMap s.fn, gc := fun _ => none, xf := fun c => (s.xs[c]?).map (·.fps), under := fun c n => (s.xs[c]?).bind fun q => q.un.lookup n }
def Src.cf (s : Src) : Cf := ⟨[], s.fns.map (·.name), s.xs.map (·.nm), s.fd, s.bt⟩
def Src.tb (s : Src) (K : PySem.W.Frag) : Tb := ⟨fun g => ga K ((s.fns.map (·.name)).getD g PySem.Str.empty), fun c => ga K ((s.xs.map (·.nm)).getD c PySem.Str.empty), s.fld⟩
def Src.fa (s : Src) : List Fa := s.fns.map (fun d => Fa.glo d.name) ++ s.xs.map (fun q => Fa.glo q.nm) ++ s.bt.map Fa.free
/-- one def's text -/
def Src.okD (s : Src) (g : Nat) : Bool := match s.fns[g]?, s.Ns[g]?, s.bod[g]? with
  | some d, some N, some b => decide (d.at_ = (d.name, none)) && d.dfl.isEmpty && d.kwd.isEmpty && plB d.params (s.ps d) && scB N (s.ps d) d.scope && mSs { s.cf with N := N } b d.scope d.body
  | _, _, _ => false
def Src.okX (s : Src) (c : Nat) : Bool := match s.xs[c]?, s.inis[c]? with
  | some q, some d => decide (d.at_ = (q.nm, some (PySem.Str.ofString "__init__"))) && d.dfl.isEmpty && d.kwd.isEmpty && plB d.params (selfN :: q.fps.map (·.1)) && isXb (PySem.Str.ofString (bI q.base).B) (q.fps.map fun p => (s.fld p.2, p.1)) d.body &&
    scB (selfN :: q.fps.map (·.1)) (selfN :: q.fps.map (·.1)) d.scope && glB d.scope (PySem.Str.ofString (bI q.base).B) && nmB (PySem.Str.ofString (bI q.base).B) && s.bt.contains (PySem.Str.ofString (bI q.base).B) && decide (q.fps.map fun p => s.fld p.2).Nodup && decide (q.fps.length ≤ 900)
  | _, _ => false
def Src.ok (s : Src) : Bool := decide (s.Ns.length = s.fns.length) && decide (s.bod.length = s.fns.length) && decide (s.inis.length = s.xs.length) && (List.range s.fns.length).all s.okD && (List.range s.xs.length).all s.okX
def smB (g : Addr → Option Obj) : Bool := match g sysModules with
  | some o => decide (o.cls = .type "dict")
  | none => false
/-! ### the defs of a text -/
def defOf : Stmt → Option DefD
  | .FunctionDef name args body _ _ _ scope _ _ _ => some { at_ := (name, none), name := name, qual := name, params := args, body := body, scope := scope }
  | _ => none
def iniIn (c : PySem.Str) : List Stmt → Option DefD
  | [] => none
  | .FunctionDef name args body _ _ _ scope _ _ _ :: r => if name = "__init__" then some { at_ := (c, some name), name := name, qual := c ++ "." ++ name, params := args, body := body, scope := scope } else iniIn c r
  | _ :: r => iniIn c r
def iniOf : Stmt → Option DefD
  | .ClassDef name _ _ body _ _ _ _ _ _ _ => iniIn name body
  | _ => none
/-! ### the Hook -/
abbrev AlM : Type := AlD × Bool
def obsM (n : Nat) (s : Src) (g : Addr → Option Obj) : AlM := (obsDG n s.fa (s.fns ++ s.inis) g, allB (frG g (asD g n)) s.fld s.xs && smB g)
def valM (s : Src) : AlM := (valD (s.fns ++ s.inis), true)
structure SaysM (s : Src) (K : PySem.W.Frag) (h : Heap) : Prop where
  d : SaysD s.fa (s.fns ++ s.inis) K
  x : allB K s.fld s.xs = true
  sm : ∃ o, h.get? sysModules = some o ∧ o.cls ≠ .type "list"
theorem saysM_of {n : Nat} {s : Src} {h : Heap} (e : obsM n s h.get? = valM s) : SaysM s (frG h.get? (asD h.get? n)) h := by
  have e1 : obsDG n s.fa (s.fns ++ s.inis) h.get? = valD (s.fns ++ s.inis) := congrArg (fun z : AlM => z.1) e
  have e2 : (allB (frG h.get? (asD h.get? n)) s.fld s.xs && smB h.get?) = true := congrArg (fun z : AlM => z.2) e
  obtain ⟨h1, h2⟩ := ba2 e2
  refine ⟨e1, h1, ?_⟩
  unfold smB at h2
  split at h2
  · rename_i o ho
    refine ⟨o, ho, ?_⟩
    rw [of_decide_eq_true h2]
    intro z
    have z2 : "dict" = "list" := Value.type.inj z
    exact absurd z2 (by decide)
  · cases h2
def hookM (n : Nat) (s : Src) : PySem.W.Hook where
  α := AlM
  obs := fun z => obsM n s z.heap.get?
  val := fun _ => valM s
  says := fun _ h => ∃ K : PySem.W.Frag, K.In h ∧ SaysM s K h
  of := fun _ _ e => ⟨_, frG_in, saysM_of e⟩
  keeps := fun _ _ _ ⟨K, hK, c⟩ k => ⟨K, PySem.W.Frag.In.keeps hK k, ⟨c.d, c.x, let ⟨o, h1, h2⟩ := c.sm; ⟨o, k _ _ h1, h2⟩⟩⟩
theorem obsM_eq {n : Nat} {s : Src} {g : Addr → Option Obj} {z : Shared} (h : ∀ a, g a = z.heap.get? a) : obsM n s g = (hookM n s).obs z := by
  have e : g = z.heap.get? := funext h
  rw [e] <;> rfl

theorem isVal_ok {id : String} {o : Option PySem.W.CFound} (h : isVal id o = true) : o = some (.val (.builtin id)) := by
  unfold isVal at h
  split at h
  · rw [of_decide_eq_true h]
  · cases h
theorem getD_some {α : Type} {l : List α} {i : Nat} {a b : α} (h : l[i]? = some a) : l.getD i b = a := by
  rw [List.getD_eq_getElem?_getD, h]
  rfl
theorem lookup_memS {α : Type} {k : String} {v : α} : ∀ {l : List (String × α)}, l.lookup k = some v → (k, v) ∈ l
  | [], h => by cases h
  | (a, b) :: l, h => by
    rw [List.lookup_cons] at h
    cases q : (k == a) with
    | true =>
      rw [q] at h
      cases h
      rw [beq_iff_eq] at q
      rw [q]
      exact List.mem_cons_self
    | false =>
      rw [q] at h
      exact List.mem_cons_of_mem _ (lookup_memS h)
theorem mem_zipIdx_at {α : Type} {l : List α} {i : Nat} {a : α} (h : l[i]? = some a) : (a, i) ∈ l.zipIdx := by
  refine List.mem_iff_getElem?.mpr ⟨i, ?_⟩
  rw [List.getElem?_zipIdx, h]
  simp
section
variable {P : Program} {w : World} {K : PySem.W.Frag} {mg : PySem.Str → Option Value} {base h : Heap} {s : Src}
theorem Src.ok_at (o : s.ok = true) : s.Ns.length = s.fns.length ∧ s.bod.length = s.fns.length ∧ s.inis.length = s.xs.length ∧ (∀ g < s.fns.length, s.okD g = true) ∧ ∀ c < s.xs.length, s.okX c = true := by
  unfold Src.ok at o
  obtain ⟨o, o5⟩ := ba2 o
  obtain ⟨o, o4⟩ := ba2 o
  obtain ⟨o, o3⟩ := ba2 o
  obtain ⟨o1, o2⟩ := ba2 o
  exact ⟨of_decide_eq_true o1, of_decide_eq_true o2, of_decide_eq_true o3, fun g hg => List.all_eq_true.mp o4 g (List.mem_range.mpr hg), fun c hc => List.all_eq_true.mp o5 c (List.mem_range.mpr hc)⟩
theorem Src.prg_at (o : s.ok = true) {g : Nat} {fn : Fn} (e : s.prg.fns[g]? = some fn) : ∃ d N b, s.fns[g]? = some d ∧ s.Ns[g]? = some N ∧ s.bod[g]? = some b ∧ fn = ⟨s.ps d, N.length, b⟩ := by
  obtain ⟨l1, l2, l3, od, ox⟩ := Src.ok_at o
  have all : ∀ i < s.fns.length, ∃ d N b, s.fns[i]? = some d ∧ s.Ns[i]? = some N ∧ s.bod[i]? = some b ∧ s.fn i = some ⟨s.ps d, N.length, b⟩ := fun i hi => by
    have h1 : s.fns[i]? = some s.fns[i] := List.getElem?_eq_getElem hi
    have h2 : s.Ns[i]? = some (s.Ns[i]'(by omega)) := List.getElem?_eq_getElem (by omega)
    have h3 : s.bod[i]? = some (s.bod[i]'(by omega)) := List.getElem?_eq_getElem (by omega)
    refine ⟨_, _, _, h1, h2, h3, ?_⟩
    unfold Src.fn
    rw [h1, h2, h3]
    rfl
  have key : ∀ (n m : Nat), m + n = s.fns.length → ∀ j, ((List.range' m n).filterMap s.fn)[j]? = if j < n then s.fn (m + j) else none := by
    intro n
    induction n with
    | zero => intro m _ j; rfl
    | succ n ih =>
      intro m hm j
      obtain ⟨d, N, b, _, _, _, e⟩ := all m (by omega)
      rw [List.range'_succ, List.filterMap_cons, e]
      dsimp only
      cases j with
      | zero =>
        rw [if_pos (Nat.succ_pos _)]
        exact e.symm
      | succ j =>
        rw [List.getElem?_cons_succ, ih (m + 1) (by omega) j, show m + 1 + j = m + (j + 1) by omega]
        by_cases hj : j < n
        · rw [if_pos hj, if_pos (by omega)]
        · rw [if_neg hj, if_neg (by omega)]
  have e1 : ((List.range s.fns.length).filterMap s.fn)[g]? = some fn := e
  rw [List.range_eq_range', key s.fns.length 0 (by omega) g] at e1
  split at e1
  · rename_i hg
    rw [Nat.zero_add] at e1
    obtain ⟨d, N, b, a1, a2, a3, a4⟩ := all g hg
    rw [a4] at e1
    cases e1
    exact ⟨d, N, b, a1, a2, a3, rfl⟩
  · cases e1
theorem funD_at {d : DefD} (D : SaysD s.fa (s.fns ++ s.inis) K) (hd : d ∈ s.fns ++ s.inis) (h1 : d.dfl.isEmpty = true) (h2 : d.kwd.isEmpty = true) : ∃ fd, FunD K d.name d.qual d.params d.body d.scope [] [] (fAd K d.at_) fd := by
  obtain ⟨i, hi, e⟩ := List.mem_iff_getElem.mp hd
  obtain ⟨fd, F⟩ := D.def_ i (d := d) (by rw [List.getElem?_eq_getElem hi, e])
  have e1 : d.dvs K = [] := by unfold DefD.dvs; rw [List.isEmpty_iff.mp h1]; rfl
  have e2 : d.kws K = [] := by unfold DefD.kws; rw [List.isEmpty_iff.mp h2]; rfl
  rw [e1, e2] at F
  exact ⟨fd, F⟩
theorem fact_at {f : Fa} (D : SaysD s.fa (s.fns ++ s.inis) K) (hf : f ∈ s.fa) : f.ok K = true := by
  obtain ⟨i, hi, e⟩ := List.mem_iff_getElem.mp hf
  exact D.fact i (f := f) (by rw [List.getElem?_eq_getElem hi, e])
theorem wo_of (o : s.ok = true) (X : K.In h) (G : h.Ns mainGlobals mg) (c : SaysM s K h) (hm : ∃ o, base.get? sysModules = some o ∧ o.cls ≠ .type "list") : Wo P w K mg base (s.tb K) s.prg s.cf := by
  obtain ⟨l1, l2, l3, od, ox⟩ := Src.ok_at o
  obtain ⟨cx, call⟩ := ba2 c.x
  obtain ⟨cx, cxs⟩ := ba2 cx
  obtain ⟨cg, ct⟩ := ba2 cx
  have fg := eqO_ok cg
  have ft := of_decide_eq_true ct
  have clA : ∀ {i : Nat} {q : XI}, s.xs[i]? = some q → (s.tb K).clA i = ga K q.nm := fun {i q} hq => by
    show ga K ((s.xs.map (·.nm)).getD i _) = _
    rw [getD_some (a := q.nm) (by rw [List.getElem?_map, hq]; rfl)]
  have fnA : ∀ {i : Nat} {d : DefD}, s.fns[i]? = some d → (s.tb K).fnA i = ga K d.name := fun {i d} hd => by
    show ga K ((s.fns.map (·.name)).getD i _) = _
    rw [getD_some (a := d.name) (by rw [List.getElem?_map, hd]; rfl)]
  have free : ∀ x, x ∈ s.bt → mg x = none := fun x hx => free_ok X G (fact_at c.d (List.mem_append_right _ (List.mem_map_of_mem hx)))
  have xfe : ∀ {i : Nat} {fps : List (PySem.Str × Nat)}, s.prg.xf i = some fps → ∃ q, s.xs[i]? = some q ∧ q.fps = fps := fun {i fps} hx => by
    obtain ⟨q, h1, h2⟩ := Option.map_eq_some_iff.mp (show (s.xs[i]?).map (·.fps) = some fps from hx)
    exact ⟨q, h1, h2⟩
  refine ⟨fun i fps hx => ?_, fun i fps n b hx hu => ?_, fun i fps j fps' hx hy => ?_, fun g x hx => ?_, fun i x hx => ?_, fun i f hf => ?_, free, hm, fun g fn hfn => ?_⟩
  · obtain ⟨q, hq, rfl⟩ := xfe hx
    have hi : i < s.xs.length := by
      rcases Nat.lt_or_ge i s.xs.length with z | z
      · exact z
      · rw [List.getElem?_eq_none z] at hq; cases hq
    have okx := ox i hi
    unfold Src.okX at okx
    rw [hq] at okx
    cases hdi : s.inis[i]? with
    | none => rw [hdi] at okx; cases okx
    | some d =>
      rw [hdi] at okx
      dsimp only at okx
      obtain ⟨okx, k11⟩ := ba2 okx
      obtain ⟨okx, k10⟩ := ba2 okx
      obtain ⟨okx, k9⟩ := ba2 okx
      obtain ⟨okx, k8⟩ := ba2 okx
      obtain ⟨okx, k7⟩ := ba2 okx
      obtain ⟨okx, k6⟩ := ba2 okx
      obtain ⟨okx, k5⟩ := ba2 okx
      obtain ⟨okx, k4⟩ := ba2 okx
      obtain ⟨okx, k3⟩ := ba2 okx
      obtain ⟨k1, k2⟩ := ba2 okx
      have k1 := of_decide_eq_true k1
      obtain ⟨fd, F⟩ := funD_at c.d (List.mem_append_right _ (List.mem_of_getElem? hdi)) k2 k3
      have eA : fAd K d.at_ = ma K (ga K q.nm) (PySem.Str.ofString "__init__") := by rw [k1]; rfl
      have cb : clsB K s.fld q = true := List.all_eq_true.mp cxs q (List.mem_of_getElem? hq)
      unfold clsB at cb
      dsimp only at cb
      obtain ⟨cb, c9⟩ := ba2 cb
      obtain ⟨cb, c8⟩ := ba2 cb
      obtain ⟨cb, c7⟩ := ba2 cb
      obtain ⟨cb, c6⟩ := ba2 cb
      obtain ⟨cb, c5⟩ := ba2 cb
      obtain ⟨cb, c4⟩ := ba2 cb
      obtain ⟨cb, c3⟩ := ba2 cb
      obtain ⟨c1, c2⟩ := ba2 cb
      obtain ⟨c6, e6⟩ := ba2 c6
      obtain ⟨c6, e5⟩ := ba2 c6
      obtain ⟨c6, e4⟩ := ba2 c6
      obtain ⟨c6, e3⟩ := ba2 c6
      obtain ⟨e1, e2⟩ := ba2 c6
      have no : ∀ p ∈ q.fps, PySem.W.findIn K (.ref (ga K q.nm)) (s.fld p.2) = some none := fun p hp => eqO_ok (List.all_eq_true.mp c8 p hp)
      have XC : XCls K (ga K q.nm) (ma K (ga K q.nm) (PySem.Str.ofString "__init__")) (bI q.base).B (bI q.base).nB (bI q.base).nw (bI q.base).ini (vl (bI q.base).bm) :=
        ⟨xb_at q.base, xcIn_ok c1, eqO_ok c2, eqO_ok c3, of_decide_eq_true c4, c5, ⟨eqO_ok e1, eqO_ok e2, of_decide_eq_true e3, e4, eqO_ok e5, fg, ft, of_decide_eq_true e6⟩, isVal_ok c7, hi_at q.base⟩
      rw [eA] at F
      have IT : InitT K mg (ga K q.nm) (ma K (ga K q.nm) (PySem.Str.ofString "__init__")) (bI q.base).B (q.fps.map fun p => (s.fld p.2, p.1)) fd :=
        ⟨⟨_, _, _, _, _, F, k5, by rw [List.map_map]; exact k6, k7⟩, k8, free _ (List.contains_iff_mem.mp k9), fun p hp => by
          obtain ⟨z, hz, rfl⟩ := List.mem_map.mp hp
          exact no z hz⟩
      have FO := init_ok (P := P) (w := w) (base := base) XC IT
      rw [List.map_map, List.map_map] at FO
      have pd : fd.defaults = .none ∧ fd.params = d.params := by
        obtain ⟨_, _, dV, _, _, _, _, _, _, _, e, _, _, hdf, _⟩ := F.ex
        rw [e]
        refine ⟨?_, rfl⟩
        rcases hdf with z | z
        · exact z.2
        · exact absurd rfl z.1
      rw [← pd.2] at k4
      have hsc := scB_ok k6
      have hcl := clA hq
      rw [← hcl] at XC FO no
      refine ⟨⟨⟨_, _, _, _, _, _, fd, XC, FO, plB_ok k4 pd.1⟩, hsc.1.nd, of_decide_eq_true k10, of_decide_eq_true k11⟩, no⟩
  · obtain ⟨q, hq, rfl⟩ := xfe hx
    have cb : clsB K s.fld q = true := List.all_eq_true.mp cxs q (List.mem_of_getElem? hq)
    unfold clsB at cb
    dsimp only at cb
    obtain ⟨_, c9⟩ := ba2 cb
    have hu2 : q.un.lookup n = some b := by
      have : (s.xs[i]?).bind (fun q => q.un.lookup n) = some b := hu
      rw [hq] at this
      exact this
    rw [clA hq]
    exact of_decide_eq_true (List.all_eq_true.mp c9 _ (lookup_memS hu2))
  · obtain ⟨q, hq, rfl⟩ := xfe hx
    obtain ⟨q', hq', rfl⟩ := xfe hy
    rw [clA hq, clA hq']
    exact of_decide_eq_true (List.all_eq_true.mp (List.all_eq_true.mp call _ (mem_zipIdx_at hq)) _ (mem_zipIdx_at hq'))
  · have hx' : (s.fns.map (·.name))[g]? = some x := hx
    rw [List.getElem?_map] at hx'
    obtain ⟨d, hd, rfl⟩ := Option.map_eq_some_iff.mp hx'
    have hg : g < s.fns.length := by
      rcases Nat.lt_or_ge g s.fns.length with z | z
      · exact z
      · rw [List.getElem?_eq_none z] at hd; cases hd
    have okd := od g hg
    unfold Src.okD at okd
    rw [hd] at okd
    cases hN : s.Ns[g]? with
    | none => rw [hN] at okd; cases okd
    | some N =>
      cases hb : s.bod[g]? with
      | none => rw [hN, hb] at okd; cases okd
      | some b =>
        rw [hN, hb] at okd
        dsimp only at okd
        obtain ⟨okd, k6⟩ := ba2 okd
        obtain ⟨okd, k5⟩ := ba2 okd
        obtain ⟨okd, k4⟩ := ba2 okd
        obtain ⟨okd, k3⟩ := ba2 okd
        obtain ⟨k1, k2⟩ := ba2 okd
        obtain ⟨fd, F⟩ := funD_at c.d (List.mem_append_left _ (List.mem_of_getElem? hd)) k2 k3
        have kp := F.kp
        rw [of_decide_eq_true k1] at kp
        rw [fnA hd]
        exact ⟨glo_ok X G (fact_at c.d (List.mem_append_left _ (List.mem_append_left _ (List.mem_map_of_mem (f := fun d => Fa.glo d.name) (List.mem_of_getElem? hd))))), kp⟩
  · have hx' : (s.xs.map (·.nm))[i]? = some x := hx
    rw [List.getElem?_map] at hx'
    obtain ⟨q, hq, rfl⟩ := Option.map_eq_some_iff.mp hx'
    rw [clA hq]
    refine ⟨glo_ok X G (fact_at c.d (List.mem_append_left _ (List.mem_append_right _ (List.mem_map_of_mem (f := fun q => Fa.glo q.nm) (List.mem_of_getElem? hq))))), q.fps, ?_⟩
    show (s.xs[i]?).map (·.fps) = some q.fps
    rw [hq]
    rfl
  · exact getD_some hf
  · obtain ⟨d, N, b, hd, hN, hb, rfl⟩ := Src.prg_at o hfn
    have hg : g < s.fns.length := by
      rcases Nat.lt_or_ge g s.fns.length with z | z
      · exact z
      · rw [List.getElem?_eq_none z] at hd; cases hd
    have okd := od g hg
    unfold Src.okD at okd
    rw [hd, hN, hb] at okd
    dsimp only at okd
    obtain ⟨okd, k6⟩ := ba2 okd
    obtain ⟨okd, k5⟩ := ba2 okd
    obtain ⟨okd, k4⟩ := ba2 okd
    obtain ⟨okd, k3⟩ := ba2 okd
    obtain ⟨k1, k2⟩ := ba2 okd
    obtain ⟨fd, F⟩ := funD_at c.d (List.mem_append_left _ (List.mem_of_getElem? hd)) k2 k3
    rw [of_decide_eq_true k1] at F
    refine ⟨d.name, d.qual, d.params, d.body, d.scope, fd, N, ?_, k4, k5, k6, rfl⟩
    rw [fnA hd]
    exact F
end

/-! ### a law's end -/
theorem reps_ints {K : PySem.W.Frag} {T : Tb} {ρ : List Addr} {I : Hp} : ∀ ns : List Int, RepL K T ρ I (ns.map D.int) (ns.map V.int)
  | [] => rfl
  | n :: ns => .cons rfl (reps_ints ns)
theorem law_M {P : Program} {w : World} {K : PySem.W.Frag} {mg mb : PySem.Str → Option Value} {s : Src} {n g : Nat} {s1 : Shared} {fa a : Addr} {vs : List Value} {ns : List Int}
    (o : s.ok = true) (KX : K.In s1.heap) (hns : s1.heap.Ns mainGlobals mg) (hb : s1.heap.Ns builtinsNs mb) (hbb : ∀ x : PySem.Str, x ≠ "__name__" → mb x = bootBuiltins x) (hlim : s1.heap.NoLimit) (hg : s1.gens = #[]) (c : SaysM s K s1.heap)
    (ha : s1.heap.get? a = some { cls := .type "list", data := .seq vs.toArray }) (hi : IntsAre vs ns) (hl : ns.length ≤ sizeLine) (hr : Room (3 * n) callerA) (hfa : (s.tb K).fnA g = fa)
    (hrun : ∃ S', run s.prg n g [.lst (ns.map .int)] [] [] [] = some (.bl true, S')) :
    codeAny (model P w) callerA (.call (.ref fa) ⟨[.ref a], []⟩) (fun r s' => r = .ok (.ret (.bool true)) ∧ OldK s1.heap s'.heap ∧ s'.os = s1.os ∧ AllBare s'.gens) s1 := by
  have rv := vals_ints hi
  have lenV := hi.length
  have core : ∀ H : Hp, Only H → LsI K H a (ns.map V.int) → HOk P w H s1.heap → (∀ b, H b ≠ none → b = a) → (H a ≠ none → K.lookup a = none) →
      codeAny (model P w) callerA (.call (.ref fa) ⟨[.ref a], []⟩) (fun r s' => r = .ok (.ret (.bool true)) ∧ OldK s1.heap s'.heap ∧ s'.os = s1.os ∧ AllBare s'.gens) s1 := by
    intro H hO hS hok hA hK
    have base_of : ∀ {b : Addr} {u : Obj}, s1.heap.get? b = some u → H b = none → (hidT s1.heap H).get? b = some u := fun e n => hidT_get e n
    have notA : ∀ {b : Addr} {u : Obj}, s1.heap.get? b = some u → (u.cls ≠ .type "list") → H b = none := fun {b u} e d => by
      cases q : H b with
      | none => rfl
      | some y =>
        have e' : b = a := hA b (by rw [q]; simp)
        subst e'
        rw [ha] at e
        cases e
        exact absurd rfl d
    have dictA : ∀ {b : Addr} {u : Obj} {es : Array DictEntry} {ep : Nat}, s1.heap.get? b = some u → u.data = .dict es ep → H b = none := fun {b u es ep} e d => by
      cases q : H b with
      | none => rfl
      | some y =>
        have e' : b = a := hA b (by rw [q]; simp)
        subst e'
        rw [ha] at e
        cases e
        cases d
    have nsK : ∀ {b : Addr} {m : PySem.Str → Option Value}, s1.heap.Ns b m → (hidT s1.heap H).Ns b m := fun {b m} ⟨u, es, ep, e, d, r⟩ => ⟨u, es, ep, base_of e (dictA e d), d, r⟩
    have hKb : K.In (hidT s1.heap H) := fun b u e => base_of (KX b u e) (by
      cases q : H b with
      | none => rfl
      | some y =>
        have e' : b = a := hA b (by rw [q]; simp)
        subst e'
        rw [hK (by rw [q]; simp)] at e
        cases e)
    have hM : Mod K mg (hidT s1.heap H) := ⟨hKb, nsK hns, ⟨mb, nsK hb, hbb⟩, let ⟨mc, h1, h2⟩ := hlim; ⟨mc, nsK h1, h2⟩⟩
    have e0 : Env0 P w K mg (hidT s1.heap H) callerA [] s1 H := ⟨rfl, hM, fun b u e => of_hidT e, Nat.le_of_eq (hidT_size _ _), trivial, fun b hb => absurd (show b ∈ ([] : List Addr) from hb) (by simp), hok, .of_eq hg⟩
    have sm : ∃ u, (hidT s1.heap H).get? sysModules = some u ∧ u.cls ≠ .type "list" := by
      obtain ⟨u, h1, h2⟩ := c.sm
      exact ⟨u, base_of h1 (notA h1 h2), h2⟩
    have W := wo_of (P := P) (w := w) (base := hidT s1.heap H) o KX hns c sm
    obtain ⟨S', hrun⟩ := hrun
    obtain ⟨fd, ps, F, xs, FM, _, eb, eF⟩ := (wo_run W n).call g _ _ _ _ _ _ hrun
    have exs : xs = [.lst (ns.map .int)] ∧ ps.length = 1 := by
      simp only [bindD] at eb
      split at eb
      · rename_i q
        cases eb
        exact ⟨rfl, q.1.symm⟩
      · cases eb
    obtain ⟨rfl, hp1⟩ := exs
    obtain ⟨p0, rfl⟩ := List.length_eq_one_iff.mp hp1
    have sr : SR K (s.tb K) H [] [] H := ⟨Same.refl _, rfl, fun i j w1 u1 b1 h1 => by simp [Sto.get] at h1, fun i w1 b1 h1 => by simp [Sto.get] at h1⟩
    have bd : BindsTo s1 fd ⟨[.ref a], []⟩ ([p0].zip [Value.ref a]) := by
      have z := binds_kw (s := s1) (us := [Value.ref a]) (ws := []) (ks := []) FM.pl (by
        unfold kwOk
        simp) rfl
      simpa [pick] using z
    rw [← hfa]
    refine codeAny_mono (FM.run callerA [] s1 H ⟨[.ref a], []⟩ [.ref a] [.ref a] _ H [] [] S' (.bl true) (fun v _ => v = .bl true) hr rfl e0 bd (.cons rfl .nil) sr (RepL.cons (show Rep K (s.tb K) [] H (.lst (ns.map .int)) (.ref a) from ⟨a, _, rfl, hS, reps_ints ns⟩) RepL.nil) rfl eF (fun v I' ρ' H' _ _ q => q)) fun r s' h => ?_
    cases r with
    | error e => exact h.elim
    | ok fl =>
      cases fl with
      | next => exact False.elim h
      | brk => exact False.elim h
      | cont => exact False.elim h
      | ret u =>
        obtain ⟨v, H', os, bare, un, hok', r', q⟩ := h
        have q' : v = .bl true := q
        subst q'
        cases (show u = Value.bool true from r')
        refine ⟨rfl, OldK.of_keep fun b u e => ?_, os, bare⟩
        cases q : H b with
        | none => exact un.keep b u e q (by intro z; exact absurd (show b ∈ ([] : List Addr) from z) (by simp)) (by simp)
        | some y =>
          rcases hO b with z | ⟨ob, xs, z⟩
          · rw [q] at z; cases z
          · have z2 := un.frzs b ob _ z
            obtain ⟨e1, _⟩ := hok b _ z
            obtain ⟨e2, _⟩ := hok' b _ z2
            rw [e] at e1; cases e1
            exact e2
  cases hk : K.lookup a with
  | some u =>
    have e := KX a u hk
    rw [ha] at e
    cases e
    exact core (fun _ => none) (fun _ => .inl rfl) (.inr ⟨vs.toArray, _, hk, by rw [List.size_toArray, lenV]; exact hl, by simpa using rv⟩) (fun b u z => by cases z) (fun b z => absurd rfl z) fun z => absurd rfl z
  | none =>
    refine core (fun b => if b = a then some (.frz { cls := .type "list", data := .seq vs.toArray } (.lst (ns.map V.int))) else none) (fun b => ?_) (.inl (.inr ⟨{ cls := .type "list", data := .seq vs.toArray }, if_pos rfl⟩)) (fun b u z => ?_) (fun b z => ?_) fun _ => hk
    · by_cases hb : b = a
      · exact .inr ⟨_, _, if_pos hb⟩
      · exact .inl (if_neg hb)
    · by_cases hb : b = a
      · have z' := (if_pos hb).symm.trans z
        cases z'
        subst hb
        exact ⟨ha, by rw [List.length_map]; exact hl, vs, _, rv, ha⟩
      · have z' := (if_neg hb).symm.trans z
        cases z'
    · by_cases hb : b = a
      · exact hb
      · exact absurd (if_neg hb) z
/-- the goal that the head leaves -/
theorem walk_M {l : PySem.W.OpenLaw} {most n g : Nat} {q : Program} {loose : List PySem.Str} {XP : (PySem.Str → Option Value) → Heap → Prop} {d : DefRec} {s : Src} (hn : l.most = some most) (hn2 : most ≤ sizeLine) (hdf : d.params.defaults = []) (hr : Room (3 * n) callerA) (o : s.ok = true)
    (hg : (s.fns.map (·.name))[g]? = some d.name) (hrun : ∀ ns : List Int, ns.length ≤ most → ∃ S', run s.prg n g [.lst (ns.map .int)] [] [] [] = some (.bl true, S')) :
    PySem.W.WalkO q loose XP (fun _ h => ∃ K : PySem.W.Frag, K.In h ∧ SaysM s K h) l.row.toRowW d [] (fun f vs => PySem.call f vs) := by
  refine Att.attach_call hn hdf fun w s0 s1 mg mb fa ob pm cd doc a vs ns G Y ho hd hcd hmg hobj hints hlen hgens => ?_
  obtain ⟨K, KX, c⟩ := Y
  have W0 : ∃ u : Obj, s1.heap.get? sysModules = some u ∧ u.cls ≠ .type "list" := c.sm
  have e := (wo_of (P := l.prog) (w := w) (base := s1.heap) o KX G.T.g c W0).fns g d.name hg
  rw [hmg] at e
  have e1 : (s.tb K).fnA g = fa := (Value.ref.inj (Option.some.inj e.1)).symm
  exact law_M (n := n) o KX G.T.g G.T.b G.T.builtins G.T.nolimit hgens c hobj hints (Nat.le_trans hlen hn2) hr e1 (hrun ns hlen)
end Mi
namespace K89
open PySem PySem.Spec PyProof.Rows L2 He Mi
/-- _law_bag -/
def b0 : Ss :=
  (.asg (.n 2) (.ife (.cmp .lt (.v 1) (.bi .len (.cons (.v 0) .nil))) (.ix (.v 0) (.v 1)) (.k (.int 0)))
  (.asg (.n 3) (.ife (.cmp .ge (.bi .abs (.cons (.v 2) .nil)) (.bin .pow (.k (.int 10)) (.k (.int 18)))) (.bi .abs (.cons (.v 2) .nil)) (.k (.int 0)))
  (.ret (.lst true (.cons (.v 3) (.cons (.bin .mod (.bin .add (.bin .add (.bin .mul (.bin .mod (.v 2) (.k (.int 2147483629))) (.k (.int 40487))) (.bin .mul (.k (.int 92413)) (.v 1))) (.k (.int 611))) (.k (.int 2147483587))) (.cons (.k (.int 0)) .nil)))) .nil)))
def N0 : List PySem.Str := ["_law_script", "_law_at", "_law_cell", "_law_great"]
/-- _law_take -/
def b1 : Ss :=
  (.ife (.cmp .gt (.ix (.v 0) (.k (.int 0))) (.k (.int 0)))
  (.asg (.n 3) (.bin .mod (.ix (.v 0) (.k (.int 0))) (.v 1))
  (.sidx (.v 0) (.k (.int 0)) (.bin .fdiv (.ix (.v 0) (.k (.int 0))) (.v 1))
  (.ret (.v 3) .nil)))
  .nil
  (.sidx (.v 0) (.k (.int 2)) (.bin .add (.ix (.v 0) (.k (.int 2))) (.k (.int 1)))
  (.asg (.n 2) (.bin .mod (.bin .pow (.bin .add (.ix (.v 0) (.k (.int 1))) (.bin .mul (.k (.int 79190251)) (.ix (.v 0) (.k (.int 2))))) (.k (.int 3))) (.k (.int 2305843009213693951)))
  (.ret (.bin .mod (.bin .fdiv (.bin .mod (.bin .add (.bin .mul (.v 2) (.k (.int 69069))) (.bin .mul (.k (.int 40961)) (.ix (.v 0) (.k (.int 2))))) (.k (.int 2305843009213693921))) (.k (.int 4096))) (.v 1)) .nil))))
def N1 : List PySem.Str := ["_law_bag_here", "_law_many", "_law_mixed", "_law_digit"]
/-- _law_thing -/
def b2 : Ss :=
  (.asg (.n 1) (.lst false (.cons (.k (.int 0)) (.cons (.k (.int 1)) (.cons (.neg (.k (.int 1))) (.cons (.k (.int 7)) (.cons (.k (.int 60)) (.cons (.bin .pow (.k (.int 10)) (.k (.int 39))) (.cons (.k .non) (.cons (.k (.bl true)) (.cons (.k (.str "")) (.cons (.k (.str "a")) (.cons (.k (.str "merged")) (.cons (.k (.str "a b")) (.cons (.tup .nil) (.cons (.tup (.cons (.k (.str "a")) (.cons (.k (.str "b")) .nil))) (.cons (.lst false (.cons (.k (.int 1)) (.cons (.k (.int 2)) .nil))) (.cons (.lst false .nil) (.cons (.dsp [(.str "a")] (.cons (.k (.int 1)) .nil)) .nil))))))))))))))))))
  (.ret (.ix (.v 1) (.call 1 (.cons (.v 0) (.cons (.bi .len (.cons (.v 1) .nil)) .nil)) [] .nil)) .nil))
def N2 : List PySem.Str := ["_law_bag_here", "_law_some"]
/-- _law_by_position -/
def b3 : Ss :=
  (.asg (.n 2) (.lst false (.cons (.mkx 0 (.cons (.v 0) .nil) [] .nil) (.cons (.mkx 1 (.cons (.v 0) .nil) [] .nil) (.cons (.mkx 2 (.cons (.v 0) .nil) [] .nil) (.cons (.mkx 3 (.cons (.v 0) .nil) [] .nil) (.cons (.mkx 4 (.cons (.v 0) .nil) [] .nil) (.cons (.mkx 5 (.cons (.v 0) .nil) [] .nil) .nil)))))))
  (.asg (.n 2) (.bin .add (.v 2) (.lst false (.cons (.mkx 6 (.cons (.v 0) .nil) [] .nil) (.cons (.mkx 7 (.cons (.v 0) .nil) [] .nil) (.cons (.mkx 8 (.cons (.v 0) .nil) [] .nil) (.cons (.mkx 9 .nil [] .nil) (.cons (.mkx 10 (.cons (.v 0) .nil) [] .nil) .nil)))))))
  (.asg (.n 2) (.bin .add (.v 2) (.lst false (.cons (.mkx 11 (.cons (.v 0) (.cons (.v 1) .nil)) [] .nil) (.cons (.mkx 12 (.cons (.v 0) .nil) [] .nil) (.cons (.mkx 13 (.cons (.v 0) .nil) [] .nil) (.cons (.mkx 14 (.cons (.v 0) .nil) [] .nil) (.cons (.mkx 15 (.cons (.v 0) .nil) [] .nil) (.cons (.mkx 16 (.cons (.v 0) .nil) [] .nil) .nil))))))))
  (.ret (.bin .add (.v 2) (.lst false (.cons (.mkx 17 (.cons (.v 0) .nil) [] .nil) (.cons (.mkx 18 .nil [] .nil) (.cons (.mkx 19 .nil [] .nil) .nil))))) .nil))))
def N3 : List PySem.Str := ["_law_one", "_law_two", "_law_some"]
/-- _law_by_parameters -/
def b4 : Ss :=
  (.asg (.n 2) (.lst false (.cons (.mkx 0 .nil ["name"] (.cons (.v 0) .nil)) (.cons (.mkx 1 .nil ["place"] (.cons (.v 0) .nil)) (.cons (.mkx 2 .nil ["place"] (.cons (.v 0) .nil)) (.cons (.mkx 3 .nil ["place"] (.cons (.v 0) .nil)) (.cons (.mkx 4 .nil ["pattern"] (.cons (.v 0) .nil)) .nil))))))
  (.asg (.n 2) (.bin .add (.v 2) (.lst false (.cons (.mkx 5 .nil ["place"] (.cons (.v 0) .nil)) (.cons (.mkx 6 .nil ["level"] (.cons (.v 0) .nil)) (.cons (.mkx 7 .nil ["value"] (.cons (.v 0) .nil)) (.cons (.mkx 8 .nil ["goal"] (.cons (.v 0) .nil)) (.cons (.mkx 9 .nil [] .nil) .nil)))))))
  (.asg (.n 2) (.bin .add (.v 2) (.lst false (.cons (.mkx 10 .nil ["name"] (.cons (.v 0) .nil)) (.cons (.mkx 11 .nil ["key", "name"] (.cons (.v 1) (.cons (.v 0) .nil))) (.cons (.mkx 12 .nil ["name"] (.cons (.v 0) .nil)) (.cons (.mkx 13 .nil ["place"] (.cons (.v 0) .nil)) .nil))))))
  (.asg (.n 2) (.bin .add (.v 2) (.lst false (.cons (.mkx 14 .nil ["limit"] (.cons (.v 0) .nil)) (.cons (.mkx 15 .nil ["name"] (.cons (.v 0) .nil)) (.cons (.mkx 16 .nil ["name"] (.cons (.v 0) .nil)) (.cons (.mkx 17 .nil ["key"] (.cons (.v 0) .nil)) (.cons (.mkx 18 .nil [] .nil) (.cons (.mkx 19 .nil [] .nil) .nil))))))))
  (.ret (.v 2) .nil)))))
def N4 : List PySem.Str := ["_law_one", "_law_two", "_law_some"]
/-- _law_fields -/
def b5 : Ss :=
  (.asg (.n 1) (.lst false (.cons (.lst false (.cons (.at (.ix (.v 0) (.k (.int 0))) 2) .nil)) (.cons (.lst false (.cons (.at (.ix (.v 0) (.k (.int 1))) 0) .nil)) (.cons (.lst false (.cons (.at (.ix (.v 0) (.k (.int 2))) 0) .nil)) (.cons (.lst false (.cons (.at (.ix (.v 0) (.k (.int 3))) 0) .nil)) (.cons (.lst false (.cons (.at (.ix (.v 0) (.k (.int 4))) 1) .nil)) (.cons (.lst false (.cons (.at (.ix (.v 0) (.k (.int 5))) 0) .nil)) .nil)))))))
  (.asg (.n 1) (.bin .add (.v 1) (.lst false (.cons (.lst false (.cons (.at (.ix (.v 0) (.k (.int 6))) 5) .nil)) (.cons (.lst false (.cons (.at (.ix (.v 0) (.k (.int 7))) 4) .nil)) (.cons (.lst false (.cons (.at (.ix (.v 0) (.k (.int 8))) 3) .nil)) (.cons (.lst false .nil) (.cons (.lst false (.cons (.at (.ix (.v 0) (.k (.int 10))) 2) .nil)) .nil)))))))
  (.asg (.n 1) (.bin .add (.v 1) (.lst false (.cons (.lst false (.cons (.at (.ix (.v 0) (.k (.int 11))) 2) (.cons (.at (.ix (.v 0) (.k (.int 11))) 7) .nil))) (.cons (.lst false (.cons (.at (.ix (.v 0) (.k (.int 12))) 2) .nil)) (.cons (.lst false (.cons (.at (.ix (.v 0) (.k (.int 13))) 0) .nil)) (.cons (.lst false (.cons (.at (.ix (.v 0) (.k (.int 14))) 6) .nil)) .nil))))))
  (.ret (.bin .add (.v 1) (.lst false (.cons (.lst false (.cons (.at (.ix (.v 0) (.k (.int 15))) 2) .nil)) (.cons (.lst false (.cons (.at (.ix (.v 0) (.k (.int 16))) 2) .nil)) (.cons (.lst false (.cons (.at (.ix (.v 0) (.k (.int 17))) 7) .nil)) (.cons (.lst false .nil) (.cons (.lst false .nil) .nil))))))) .nil))))
def N5 : List PySem.Str := ["_law_some", "_law_found"]
/-- _law_kinds -/
def b6 : Ss :=
  (.asg (.n 1) (.lst false (.cons (.bi (.isi (.cl 0)) (.cons (.v 0) .nil)) (.cons (.bi (.isi (.cl 1)) (.cons (.v 0) .nil)) (.cons (.bi (.isi (.cl 2)) (.cons (.v 0) .nil)) (.cons (.bi (.isi (.cl 3)) (.cons (.v 0) .nil)) .nil)))))
  (.asg (.n 1) (.bin .add (.v 1) (.lst false (.cons (.bi (.isi (.cl 4)) (.cons (.v 0) .nil)) (.cons (.bi (.isi (.cl 5)) (.cons (.v 0) .nil)) (.cons (.bi (.isi (.cl 6)) (.cons (.v 0) .nil)) .nil)))))
  (.asg (.n 1) (.bin .add (.v 1) (.lst false (.cons (.bi (.isi (.cl 7)) (.cons (.v 0) .nil)) (.cons (.bi (.isi (.cl 8)) (.cons (.v 0) .nil)) (.cons (.bi (.isi (.cl 9)) (.cons (.v 0) .nil)) .nil)))))
  (.asg (.n 1) (.bin .add (.v 1) (.lst false (.cons (.bi (.isi (.cl 10)) (.cons (.v 0) .nil)) (.cons (.bi (.isi (.cl 11)) (.cons (.v 0) .nil)) (.cons (.bi (.isi (.cl 12)) (.cons (.v 0) .nil)) (.cons (.bi (.isi (.cl 13)) (.cons (.v 0) .nil)) .nil))))))
  (.asg (.n 1) (.bin .add (.v 1) (.lst false (.cons (.bi (.isi (.cl 14)) (.cons (.v 0) .nil)) (.cons (.bi (.isi (.cl 15)) (.cons (.v 0) .nil)) (.cons (.bi (.isi (.cl 16)) (.cons (.v 0) .nil)) (.cons (.bi (.isi (.cl 17)) (.cons (.v 0) .nil)) .nil))))))
  (.ret (.bin .add (.v 1) (.lst false (.cons (.bi (.isi (.cl 18)) (.cons (.v 0) .nil)) (.cons (.bi (.isi (.cl 19)) (.cons (.v 0) .nil)) .nil)))) .nil))))))
def N6 : List PySem.Str := ["_law_e", "_law_found"]
/-- _law_above -/
def b7 : Ss :=
  (.asg (.n 1) (.bin .add (.bin .mul (.k (.str "V")) (.bi .int1 (.cons (.bi (.isi (.bt "ValueError")) (.cons (.v 0) .nil)) .nil))) (.bin .mul (.k (.str "K")) (.bi .int1 (.cons (.bi (.isi (.bt "KeyError")) (.cons (.v 0) .nil)) .nil))))
  (.asg (.n 1) (.bin .add (.bin .add (.v 1) (.bin .mul (.k (.str "L")) (.bi .int1 (.cons (.bi (.isi (.bt "LookupError")) (.cons (.v 0) .nil)) .nil)))) (.bin .mul (.k (.str "I")) (.bi .int1 (.cons (.bi (.isi (.bt "IndexError")) (.cons (.v 0) .nil)) .nil))))
  (.asg (.n 1) (.bin .add (.bin .add (.v 1) (.bin .mul (.k (.str "O")) (.bi .int1 (.cons (.bi (.isi (.bt "OverflowError")) (.cons (.v 0) .nil)) .nil)))) (.bin .mul (.k (.str "A")) (.bi .int1 (.cons (.bi (.isi (.bt "ArithmeticError")) (.cons (.v 0) .nil)) .nil))))
  (.ret (.bin .add (.bin .add (.v 1) (.bin .mul (.k (.str "R")) (.bi .int1 (.cons (.bi (.isi (.bt "RuntimeError")) (.cons (.v 0) .nil)) .nil)))) (.bin .mul (.k (.str "N")) (.bi .int1 (.cons (.bi (.isi (.bt "NotImplementedError")) (.cons (.v 0) .nil)) .nil)))) .nil))))
def N7 : List PySem.Str := ["_law_e", "_law_found"]
/-- law -/
def b8 : Ss :=
  (.asg (.n 1) (.bin .add (.bin .add (.rep false (.cons (.k (.str "V")) .nil) (.k (.int 10))) (.lst false (.cons (.k (.str "KL")) (.cons (.k (.str "KL")) (.cons (.k (.str "L")) (.cons (.k (.str "LI")) (.cons (.k (.str "OA")) .nil))))))) (.rep false (.cons (.k (.str "R")) .nil) (.k (.int 5))))
  (.for (.n 2) (.range (.bi .max2 (.cons (.k (.int 2)) (.cons (.bi .min2 (.cons (.k (.int 4)) (.cons (.bi .len (.cons (.v 0) .nil)) .nil))) .nil))))
  (.asg (.n 3) (.call 0 (.cons (.v 0) (.cons (.v 2) .nil)) [] .nil)
  (.for (.n 4) (.range (.k (.int 6)))
  (.asg (.t [7, 8]) (.tup (.cons (.call 2 (.cons (.v 3) .nil) [] .nil) (.cons (.call 2 (.cons (.v 3) .nil) [] .nil) .nil)))
  (.asg (.n 5) (.lc true (.ife (.cmp .inn (.v 9) (.tup (.cons (.k (.int 9)) (.cons (.k (.int 18)) (.cons (.k (.int 19)) .nil))))) (.lst false .nil) (.lst false (.cons (.v 7) .nil))) (.n 9) (.range (.k (.int 20))) .none)
  (.sidx (.v 5) (.k (.int 11)) (.lst false (.cons (.v 7) (.cons (.v 8) .nil)))
  (.for (.n 6) (.of (.tup (.cons (.call 3 (.cons (.v 7) (.cons (.v 8) .nil)) [] .nil) (.cons (.call 4 (.cons (.v 7) (.cons (.v 8) .nil)) [] .nil) .nil))))
  (.ife (.or (.cmp .ne (.bi .repr (.cons (.call 5 (.cons (.v 6) .nil) [] .nil) .nil)) (.bi .repr (.cons (.v 5) .nil))) (.cmp .ne (.lc false (.call 7 (.cons (.v 11) .nil) [] .nil) (.n 11) (.of (.v 6)) .none) (.v 1)))
  (.ret (.k (.bl false)) .nil)
  .nil
  (.for (.t [10, 11]) (.enum (.v 6))
  (.ife (.cmp .ne (.call 6 (.cons (.v 11) .nil) [] .nil) (.lc false (.cmp .eq (.v 9) (.v 10)) (.n 9) (.range (.k (.int 20))) .none))
  (.ret (.k (.bl false)) .nil)
  .nil
  .nil)
  .nil))
  .nil))))
  .nil))
  (.ret (.k (.bl true)) .nil)))
def N8 : List PySem.Str := ["_law_script", "_law_above_here", "_law_at", "_law_bag_here", "_law_turn", "_law_due", "_law_some", "_law_one", "_law_two", "_law_k", "_law_spot", "_law_e"]
def xs : List XI := [
  ⟨"BadName", 0, [("name", 2)], [("ArithmeticError", false), ("IndexError", false), ("KeyError", false), ("LookupError", false), ("NotImplementedError", false), ("OverflowError", false), ("RuntimeError", false), ("ValueError", true)]⟩,
  ⟨"BadRule", 0, [("place", 0)], [("ArithmeticError", false), ("IndexError", false), ("KeyError", false), ("LookupError", false), ("NotImplementedError", false), ("OverflowError", false), ("RuntimeError", false), ("ValueError", true)]⟩,
  ⟨"BadText", 0, [("place", 0)], [("ArithmeticError", false), ("IndexError", false), ("KeyError", false), ("LookupError", false), ("NotImplementedError", false), ("OverflowError", false), ("RuntimeError", false), ("ValueError", true)]⟩,
  ⟨"BadForm", 0, [("place", 0)], [("ArithmeticError", false), ("IndexError", false), ("KeyError", false), ("LookupError", false), ("NotImplementedError", false), ("OverflowError", false), ("RuntimeError", false), ("ValueError", true)]⟩,
  ⟨"BadPattern", 0, [("pattern", 1)], [("ArithmeticError", false), ("IndexError", false), ("KeyError", false), ("LookupError", false), ("NotImplementedError", false), ("OverflowError", false), ("RuntimeError", false), ("ValueError", true)]⟩,
  ⟨"BadFact", 0, [("place", 0)], [("ArithmeticError", false), ("IndexError", false), ("KeyError", false), ("LookupError", false), ("NotImplementedError", false), ("OverflowError", false), ("RuntimeError", false), ("ValueError", true)]⟩,
  ⟨"BadLevel", 0, [("level", 5)], [("ArithmeticError", false), ("IndexError", false), ("KeyError", false), ("LookupError", false), ("NotImplementedError", false), ("OverflowError", false), ("RuntimeError", false), ("ValueError", true)]⟩,
  ⟨"BadInteger", 0, [("value", 4)], [("ArithmeticError", false), ("IndexError", false), ("KeyError", false), ("LookupError", false), ("NotImplementedError", false), ("OverflowError", false), ("RuntimeError", false), ("ValueError", true)]⟩,
  ⟨"BadGoal", 0, [("goal", 3)], [("ArithmeticError", false), ("IndexError", false), ("KeyError", false), ("LookupError", false), ("NotImplementedError", false), ("OverflowError", false), ("RuntimeError", false), ("ValueError", true)]⟩,
  ⟨"BadCommand", 0, [], [("ArithmeticError", false), ("IndexError", false), ("KeyError", false), ("LookupError", false), ("NotImplementedError", false), ("OverflowError", false), ("RuntimeError", false), ("ValueError", true)]⟩,
  ⟨"UnknownName", 1, [("name", 2)], [("ArithmeticError", false), ("IndexError", false), ("KeyError", true), ("LookupError", true), ("NotImplementedError", false), ("OverflowError", false), ("RuntimeError", false), ("ValueError", false)]⟩,
  ⟨"NoKey", 1, [("name", 2), ("key", 7)], [("ArithmeticError", false), ("IndexError", false), ("KeyError", true), ("LookupError", true), ("NotImplementedError", false), ("OverflowError", false), ("RuntimeError", false), ("ValueError", false)]⟩,
  ⟨"NoBase", 2, [("name", 2)], [("ArithmeticError", false), ("IndexError", false), ("KeyError", false), ("LookupError", true), ("NotImplementedError", false), ("OverflowError", false), ("RuntimeError", false), ("ValueError", false)]⟩,
  ⟨"NoPlace", 3, [("place", 0)], [("ArithmeticError", false), ("IndexError", true), ("KeyError", false), ("LookupError", true), ("NotImplementedError", false), ("OverflowError", false), ("RuntimeError", false), ("ValueError", false)]⟩,
  ⟨"TooMany", 4, [("limit", 6)], [("ArithmeticError", true), ("IndexError", false), ("KeyError", false), ("LookupError", false), ("NotImplementedError", false), ("OverflowError", true), ("RuntimeError", false), ("ValueError", false)]⟩,
  ⟨"Taken", 5, [("name", 2)], [("ArithmeticError", false), ("IndexError", false), ("KeyError", false), ("LookupError", false), ("NotImplementedError", false), ("OverflowError", false), ("RuntimeError", true), ("ValueError", false)]⟩,
  ⟨"InUse", 5, [("name", 2)], [("ArithmeticError", false), ("IndexError", false), ("KeyError", false), ("LookupError", false), ("NotImplementedError", false), ("OverflowError", false), ("RuntimeError", true), ("ValueError", false)]⟩,
  ⟨"Stale", 5, [("key", 7)], [("ArithmeticError", false), ("IndexError", false), ("KeyError", false), ("LookupError", false), ("NotImplementedError", false), ("OverflowError", false), ("RuntimeError", true), ("ValueError", false)]⟩,
  ⟨"Busy", 5, [], [("ArithmeticError", false), ("IndexError", false), ("KeyError", false), ("LookupError", false), ("NotImplementedError", false), ("OverflowError", false), ("RuntimeError", true), ("ValueError", false)]⟩,
  ⟨"NothingLeft", 5, [], [("ArithmeticError", false), ("IndexError", false), ("KeyError", false), ("LookupError", false), ("NotImplementedError", false), ("OverflowError", false), ("RuntimeError", true), ("ValueError", false)]⟩]
def src : Src := {
  fns := (PySem.Challenge.pw_dictorders_k89_exceptions_made_by_hand).main.body.filterMap defOf
  Ns := [N0, N1, N2, N3, N4, N5, N6, N7, N8]
  bod := [b0, b1, b2, b3, b4, b5, b6, b7, b8]
  xs := xs
  inis := (PySem.Challenge.pw_dictorders_k89_exceptions_made_by_hand).main.body.filterMap iniOf
  fd := ["place", "pattern", "name", "goal", "value", "level", "limit", "key"]
  bt := ["ArithmeticError", "IndexError", "KeyError", "LookupError", "NotImplementedError", "OverflowError", "RuntimeError", "ValueError", "abs", "enumerate", "int", "isinstance", "len", "max", "min", "range", "repr"] }
def pg : Prg := { fns := [⟨["_law_script", "_law_at"], 4, b0⟩, ⟨["_law_bag_here", "_law_many"], 4, b1⟩, ⟨["_law_bag_here"], 2, b2⟩, ⟨["_law_one", "_law_two"], 3, b3⟩, ⟨["_law_one", "_law_two"], 3, b4⟩, ⟨["_law_some"], 2, b5⟩, ⟨["_law_e"], 2, b6⟩, ⟨["_law_e"], 2, b7⟩, ⟨["_law_script"], 12, b8⟩], gc := fun _ => none, xf := fun c => (xs[c]?).map (·.fps), under := fun c n => (xs[c]?).bind fun q => q.un.lookup n }
theorem pg_eq : src.prg = pg := by kernel_rfl
def one1 (c f : Nat) (a : D) : D := .exc c [(f, a)]
def excs (a b : D) : List D := [one1 0 2 a, one1 1 0 a, one1 2 0 a, one1 3 0 a, one1 4 1 a, one1 5 0 a, one1 6 5 a, one1 7 4 a, one1 8 3 a, .exc 9 [], one1 10 2 a, .exc 11 [(2, a), (7, b)], one1 12 2 a, one1 13 0 a, one1 14 6 a, one1 15 2 a, one1 16 2 a, one1 17 7 a, .exc 18 [], .exc 19 []]
def flds (a b : D) : List D := [.lst [a], .lst [a], .lst [a], .lst [a], .lst [a], .lst [a], .lst [a], .lst [a], .lst [a], .lst [], .lst [a], .lst [a, b], .lst [a], .lst [a], .lst [a], .lst [a], .lst [a], .lst [a], .lst [], .lst []]
def due0 (a : D) : List D := [.lst [a], .lst [a], .lst [a], .lst [a], .lst [a], .lst [a], .lst [a], .lst [a], .lst [a], .lst [], .lst [a], .lst [a], .lst [a], .lst [a], .lst [a], .lst [a], .lst [a], .lst [a], .lst [], .lst []]
def abvs : List D := [.str "V", .str "V", .str "V", .str "V", .str "V", .str "V", .str "V", .str "V", .str "V", .str "V", .str "KL", .str "KL", .str "L", .str "LI", .str "OA", .str "R", .str "R", .str "R", .str "R", .str "R"]
def things : List D := [.int 0, .int 1, .int (-1), .int 7, .int 60, .int (10 ^ 39), .non, .bl true, .str "", .str "a", .str "merged", .str "a b", .tup [], .tup [.str "a", .str "b"], .lst [.int 1, .int 2], .lst [], .dct [(.str "a", .int 1)]]
theorem r_pos (n : Nat) (S : Sto) (a b : D) : run pg (n + 1) 3 [a, b] [] [] S = some (.lst (excs a b), S) := by kernel_rfl
theorem r_par (n : Nat) (S : Sto) (a b : D) : run pg (n + 1) 4 [a, b] [] [] S = some (.lst (excs a b), S) := by kernel_rfl
theorem r_fields (n : Nat) (S : Sto) (a b : D) : run pg (n + 1) 5 [.lst (excs a b)] [] [] S = some (.lst (flds a b), S) := by kernel_rfl
abbrev Rn (n : Nat) : Rt := pg.rt (run pg n)
def lcA : E := .lc false (.call 7 (.cons (.v 11) .nil) [] .nil) (.n 11) (.of (.v 6)) .none
theorem r_above (n : Nat) (S : Sto) (a b : D) (g0 g1 g2 g3 g4 g5 g7 g8 g9 g10 g11 : Option D) : ev (Rn (n + 1)) lcA [g0, g1, g2, g3, g4, g5, some (.lst (excs a b)), g7, g8, g9, g10, g11] S = some (.lst abvs, S) := by kernel_rfl
def forK : Ss := .for (.t [10, 11]) (.enum (.v 6))
  (.ife (.cmp .ne (.call 6 (.cons (.v 11) .nil) [] .nil) (.lc false (.cmp .eq (.v 9) (.v 10)) (.n 9) (.range (.k (.int 20))) .none))
  (.ret (.k (.bl false)) .nil)
  .nil
  .nil)
  .nil
theorem r_kinds (n : Nat) (S : Sto) (a b : D) (g0 g1 g2 g3 g4 g5 g7 g8 g9 g10 g11 : Option D) : exs (Rn (n + 1)) forK [g0, g1, g2, g3, g4, g5, some (.lst (excs a b)), g7, g8, g9, g10, g11] S = some ((.nx, [g0, g1, g2, g3, g4, g5, some (.lst (excs a b)), g7, g8, g9, some (.int 19), some (.exc 19 [])]), S) := by kernel_rfl
end K89
namespace K89
open PySem PySem.Spec PyProof.Rows L2 He Mi
/-! ### small steps of values -/
theorem bnd_at {α β : Type} {m : M α} {f : α → M β} {S S1 : Sto} {a : α} {r : Option (β × Sto)} (h : m S = some (a, S1)) (k : f a S1 = r) : M.bnd m f S = r := by
  unfold M.bnd
  rw [h]
  exact k
theorem run_at {n g : Nat} {ds : List D} {f : Fn} (h : pg.fns[g]? = some f) (hl : ds.length = f.ps.length) : run pg (n + 1) g ds [] [] = M.bnd (exs (Rn n) f.body (f.entry ds)) endS := by
  show (match pg.fns[g]? with
    | some f => match bindD f.ps ds [] [] with
      | some xs => M.bnd (exs (Rn n) f.body (f.entry xs)) endS
      | none => M.no
    | none => M.no) = _
  rw [h]
  have e : bindD f.ps ds [] [] = some ds := by
    simp only [bindD]
    rw [if_pos ⟨hl, rfl⟩]
  dsimp only
  rw [e]
/-- the bag -/
structure Bag (S : Sto) (b : Nat) (m : Nat) : Prop where
  ex : ∃ g x c : Int, S.get b = some (.lst [.int g, .int x, .int c]) ∧ 0 ≤ x ∧ x < 2147483587 ∧ 0 ≤ c ∧ c ≤ m
theorem put_same {S : Sto} {b : Nat} {w w' : W} (h : S.get b = some w) : (S.put b w').get b = some w' := by
  rw [get_put h, if_pos rfl]
theorem put_other {S : Sto} {b i : Nat} {w w' : W} (h : S.get b = some w) (hi : i ≠ b) : (S.put b w').get i = S.get i := by
  rw [get_put h, if_neg hi]
theorem put_put {S : Sto} {b : Nat} {w w' : W} : (S.put b w).put b w' = S.put b w' := by
  unfold Sto.put
  rw [List.set_set]
theorem put_len {S : Sto} {b : Nat} {w : W} : (S.put b w).length = S.length := by
  unfold Sto.put
  rw [List.length_set]
theorem take_ok (n m b : Nat) (S : Sto) (hm : m ≤ 1000) (B : Bag S b m) : ∃ (r : Int) (S' : Sto), run pg (n + 1) 1 [.ref b, .int 17] [] [] S = some (.int r, S') ∧ 0 ≤ r ∧ r < 17 ∧ Bag S' b (m + 1) ∧ S'.length = S.length ∧ ∀ i, i ≠ b → S'.get i = S.get i := by
  obtain ⟨g, x, c, hb, hx0, hx1, hc0, hc1⟩ := B.ex
  rw [run_at (f := ⟨["_law_bag_here", "_law_many"], 4, b1⟩) rfl rfl]
  have hr : ∀ S : Sto, ∀ l, S.get b = some (.lst l) → D.rsv S (.ref b) = .lst l := fun S l h => rsv_lst h
  by_cases hg : 0 < g
  · have h1 : exs (Rn n) b1 (Fn.entry ⟨["_law_bag_here", "_law_many"], 4, b1⟩ [.ref b, .int 17]) S = some ((.rt (.int (g.fmod 17)), [some (.ref b), some (.int 17), none, some (.int (g.fmod 17))]), S.put b (.lst [.int (g.fdiv 17), .int x, .int c])) := by
      simp [b1, exs, ev, evs, M.bnd, M.ret, M.opt, Fn.entry, hr S _ hb, D.rsv, ixD, atD, L2.atI, L2.ixN, Cst.d, cmpD, truD, hg, binD, bindT, setItemD, hb, thenS]
    exact ⟨g.fmod 17, _, bnd_at h1 rfl, Int.fmod_nonneg_of_pos g (by decide), Int.fmod_lt_of_pos g (by decide), ⟨_, _, _, put_same hb, hx0, hx1, hc0, by omega⟩, put_len, fun i hi => put_other hb hi⟩
  · have hp : (x + 79190251 * (c + 1)).natAbs < 18446744073709551616 := by omega
    have h0 := put_same (w' := .lst [.int g, .int x, .int (c + 1)]) hb
    have h1 : ∃ Γ, exs (Rn n) b1 (Fn.entry ⟨["_law_bag_here", "_law_many"], 4, b1⟩ [.ref b, .int 17]) S = some ((.rt (.int ((((((x + 79190251 * (c + 1)) ^ 3).fmod 2305843009213693951 * 69069 + 40961 * (c + 1)).fmod 2305843009213693921).fdiv 4096).fmod 17)), Γ), S.put b (.lst [.int g, .int x, .int (c + 1)])) := by
      refine ⟨[some (.ref b), some (.int 17), some (.int (((x + 79190251 * (c + 1)) ^ 3).fmod 2305843009213693951)), none], ?_⟩
      simp [b1, exs, ev, evs, M.bnd, M.ret, M.opt, Fn.entry, hr S _ hb, D.rsv, ixD, atD, L2.atI, L2.ixN, Cst.d, cmpD, truD, hg, binD, addD, mulD, bindT, setItemD, hb, thenS, h0, hr _ _ h0, hp]
    obtain ⟨Γ, h1⟩ := h1
    exact ⟨_, _, bnd_at h1 rfl, Int.fmod_nonneg_of_pos _ (by decide), Int.fmod_lt_of_pos _ (by decide), ⟨_, _, _, h0, hx0, hx1, by omega, by omega⟩, put_len, fun i hi => put_other hb hi⟩

def e17 : E := match b2 with
  | .asg _ e _ => e
  | _ => .k .non
theorem b2_eq : b2 = .asg (.n 1) e17 (.ret (.ix (.v 1) (.call 1 (.cons (.v 0) (.cons (.bi .len (.cons (.v 1) .nil)) .nil)) [] .nil)) .nil) := rfl
theorem r_things (R : Rt) (S : Sto) (g0 : Option D) : ev R e17 [g0, none] S = some (.lst things, S) := by kernel_rfl
theorem things_at {r : Int} (h0 : 0 ≤ r) (h1 : r < 17) : ∃ t, atD things r = some t ∧ t ∈ things := by
  have hl : r.toNat < things.length := by show r.toNat < 17; omega
  refine ⟨things[r.toNat], ?_, List.getElem_mem hl⟩
  unfold atD L2.atI L2.ixN
  rw [if_pos h0, if_pos (by show r < ((17 : Nat) : Int); omega)]
  exact List.getElem?_eq_getElem hl
theorem thing_ok (n m b : Nat) (S : Sto) (hm : m ≤ 1000) (B : Bag S b m) : ∃ (t : D) (S' : Sto), run pg (n + 2) 2 [.ref b] [] [] S = some (t, S') ∧ t ∈ things ∧ Bag S' b (m + 1) ∧ S'.length = S.length ∧ ∀ i, i ≠ b → S'.get i = S.get i := by
  obtain ⟨r, S', h1, h2, h3, h4, h5, h6⟩ := take_ok n m b S hm B
  obtain ⟨t, ht, hm⟩ := things_at h2 h3
  refine ⟨t, S', ?_, hm, h4, h5, h6⟩
  rw [run_at (f := ⟨["_law_bag_here"], 2, b2⟩) rfl rfl, b2_eq]
  refine bnd_at (S1 := S') (a := (.rt t, [some (.ref b), some (.lst things)])) ?_ rfl
  refine bnd_at (r_things (Rn (n + 1)) S _) ?_
  show M.bnd (ev (Rn (n + 1)) _ _) _ S = _
  refine bnd_at (S1 := S') (a := t) ?_ rfl
  refine bnd_at (S1 := S) (a := .lst things) rfl ?_
  refine bnd_at (S1 := S') (a := .int r) ?_ ?_
  · exact h1
  · show M.opt (ixD (.lst things) (.int r)) S' = _
    show M.opt (atD things r) S' = _
    rw [ht]
    rfl

def eC : E := match b0 with
  | .asg _ e _ => e
  | _ => .k .non
def eG : E := match b0 with
  | .asg _ _ (.asg _ e _) => e
  | _ => .k .non
def eL : E := match b0 with
  | .asg _ _ (.asg _ _ (.ret e _)) => e
  | _ => .k .non
theorem b0_eq : b0 = .asg (.n 2) eC (.asg (.n 3) eG (.ret eL .nil)) := rfl
theorem cell_ok (R : Rt) (ns : List Int) (i : Int) (S : Sto) (hi : 0 ≤ i) (g2 g3 : Option D) : ∃ c : Int, ev R eC [some (.lst (ns.map .int)), some (.int i), g2, g3] S = some (.int c, S) := by
  by_cases h : i < ns.length
  · have hl : i.toNat < ns.length := by omega
    have ha : atD (ns.map D.int) i = some (.int ns[i.toNat]) := by
      unfold atD L2.atI L2.ixN
      rw [if_pos hi, if_pos (by rw [List.length_map]; exact h)]
      simp [hl]
    refine ⟨ns[i.toNat], ?_⟩
    simp [eC, b0, ev, evs, M.bnd, M.ret, M.opt, D.rsv, biD, cmpD, truD, h, ixD, ha]
  · refine ⟨0, ?_⟩
    simp [eC, b0, ev, evs, M.bnd, M.ret, M.opt, D.rsv, biD, cmpD, truD, h, Cst.d]
theorem great_ok (R : Rt) (c : Int) (S : Sto) (g0 g1 g3 : Option D) : ∃ g : Int, ev R eG [g0, g1, some (.int c), g3] S = some (.int g, S) := by
  by_cases h : (1000000000000000000 : Int) ≤ (if c < 0 then -c else c)
  · refine ⟨if c < 0 then -c else c, ?_⟩
    simp [eG, b0, ev, evs, M.bnd, M.ret, M.opt, D.rsv, biD, cmpD, truD, binD, Cst.d, h]
  · refine ⟨0, ?_⟩
    simp [eG, b0, ev, evs, M.bnd, M.ret, M.opt, D.rsv, biD, cmpD, truD, binD, Cst.d, h]
theorem list_ok (R : Rt) (c g i : Int) (S : Sto) (g0 : Option D) : ev R eL [g0, some (.int i), some (.int c), some (.int g)] S = some (.ref S.length, S ++ [some (.lst [.int g, .int ((c.fmod 2147483629 * 40487 + 92413 * i + 611).fmod 2147483587), .int 0])]) := by
  simp [eL, b0, ev, evs, M.bnd, M.ret, M.opt, D.rsv, binD, addD, mulD, Cst.d, boxL]
theorem bag_ok (n : Nat) (ns : List Int) (i : Int) (S : Sto) (hi : 0 ≤ i) : ∃ w, run pg (n + 1) 0 [.lst (ns.map .int), .int i] [] [] S = some (.ref S.length, S ++ [some w]) ∧ Bag (S ++ [some w]) S.length 0 := by
  obtain ⟨c, hc⟩ := cell_ok (Rn n) ns i S hi none none
  obtain ⟨g, hg⟩ := great_ok (Rn n) c S (some (.lst (ns.map .int))) (some (.int i)) none
  refine ⟨.lst [.int g, .int ((c.fmod 2147483629 * 40487 + 92413 * i + 611).fmod 2147483587), .int 0], ?_, ⟨g, _, 0, by rw [get_push, if_pos rfl], Int.fmod_nonneg_of_pos _ (by decide), Int.fmod_lt_of_pos _ (by decide), by omega, by omega⟩⟩
  rw [run_at (f := ⟨["_law_script", "_law_at"], 4, b0⟩) rfl rfl, b0_eq]
  refine bnd_at (a := (.rt (.ref S.length), [some (.lst (ns.map .int)), some (.int i), some (.int c), some (.int g)])) ?_ rfl
  refine bnd_at hc ?_
  show M.bnd (ev (Rn n) eG [some (.lst (ns.map .int)), some (.int i), some (.int c), none]) _ S = _
  refine bnd_at hg ?_
  show M.bnd (ev (Rn n) eL [some (.lst (ns.map .int)), some (.int i), some (.int c), some (.int g)]) _ S = _
  exact bnd_at (list_ok (Rn n) c g i S _) rfl
/-! ### loops -/
theorem forL_inv {step : D → Gam → M (Fl × Gam)} (P : Nat → Gam → Sto → Prop) : ∀ (xs : List D) (k : Nat) (Γ : Gam) (S : Sto), P k Γ S → (∀ j x Γ S, xs[j]? = some x → P (k + j) Γ S → ∃ Γ' S', step x Γ S = some ((.nx, Γ'), S') ∧ P (k + j + 1) Γ' S') →
    ∃ Γ' S', forL step xs Γ S = some ((.nx, Γ'), S') ∧ P (k + xs.length) Γ' S'
  | [], k, Γ, S, h, _ => ⟨Γ, S, rfl, h⟩
  | x :: xs, k, Γ, S, h, hs => by
    obtain ⟨Γ1, S1, e1, h1⟩ := hs 0 x Γ S rfl h
    obtain ⟨Γ2, S2, e2, h2⟩ := forL_inv P xs (k + 1) Γ1 S1 h1 fun j y Γ S e q => by
      have := hs (j + 1) y Γ S e (by rw [show k + (j + 1) = k + 1 + j by omega]; exact q)
      rw [show k + (j + 1) + 1 = k + 1 + j + 1 by omega] at this
      exact this
    refine ⟨Γ2, S2, bnd_at e1 e2, ?_⟩
    rw [List.length_cons, show k + (xs.length + 1) = k + 1 + xs.length by omega]
    exact h2
end K89
namespace K89
open PySem PySem.Spec PyProof.Rows L2 He Mi
/-! ### how long a shown list is -/
theorem tf_le {B : Nat} : ∀ (ts : List PySem.Str) (k : Nat) (acc : PySem.Str), (∀ t ∈ ts, t.length ≤ B) → (textFrom k acc ts).length ≤ acc.length + ts.length * (B + 2)
  | [], k, acc, _ => by show acc.length ≤ _; omega
  | t :: ts, k, acc, h => by
    have ih := tf_le ts (k + 1) (acc ++ (if k > 0 then ", " else "" : String) ++ t) fun u hu => h u (List.mem_cons_of_mem _ hu)
    have e : (acc ++ (if k > 0 then ", " else "" : String) ++ t).length = acc.length + (if k > 0 then 2 else 0) + t.length := by
      rw [Str.length_append, Str.length_append]
      split <;> rfl
    have h1 := h t List.mem_cons_self
    have h2 : (if k > 0 then 2 else 0 : Nat) ≤ 2 := by split <;> omega
    rw [e] at ih
    show (textFrom (k + 1) _ ts).length ≤ _
    rw [List.length_cons, Nat.succ_mul]
    omega
theorem lt_le {B : Nat} (ts : List PySem.Str) (h : ∀ t ∈ ts, t.length ≤ B) : (listText ts).length ≤ ts.length * (B + 2) + 2 := by
  unfold listText
  rw [Str.length_append]
  have := tf_le ts 0 (("[" : String) : PySem.Str) h
  have e1 : ((("[" : String) : PySem.Str)).length = 1 := by decide +kernel
  have e2 : ((("]" : String) : PySem.Str)).length = 1 := by decide +kernel
  rw [e1] at this
  rw [e2]
  omega
/-- what is known of a thing -/
def okT (d : D) : Bool := match d.data with
  | some p => p.showable && decide (p.depth ≤ 2) && decide (p.shown.length ≤ 50)
  | none => false
theorem okT_all : things.all okT = true := by decide +kernel
theorem okT_of {d : D} (h : d ∈ things) : ∃ p, d.data = some p ∧ p.showable = true ∧ p.depth ≤ 2 ∧ p.shown.length ≤ 50 := by
  have h1 := List.all_eq_true.mp okT_all d h
  unfold okT at h1
  split at h1
  · rename_i p e
    rw [Bool.and_eq_true, Bool.and_eq_true, decide_eq_true_iff, decide_eq_true_iff] at h1
    exact ⟨p, e, h1.1.1, h1.1.2, h1.2⟩
  · cases h1
def pl (p q : PyData) : List PyData := [.list [p], .list [p], .list [p], .list [p], .list [p], .list [p], .list [p], .list [p], .list [p], .list [], .list [p], .list [p, q], .list [p], .list [p], .list [p], .list [p], .list [p], .list [p], .list [], .list []]
theorem shown_all : ∀ ps : List PyData, PyData.shownAll ps = ps.map PyData.shown
  | [] => rfl
  | p :: ps => by rw [PyData.shownAll, shown_all ps]; rfl
theorem repr_ok {a b : D} (ha : a ∈ things) (hb : b ∈ things) (R : Rt) : ∃ s, biD R .repr [.lst (flds a b)] = some (.str s) := by
  obtain ⟨p, e1, p1, p2, p3⟩ := okT_of ha
  obtain ⟨q, e2, q1, q2, q3⟩ := okT_of hb
  have ed : (D.lst (flds a b)).data = some (.list (pl p q)) := by
    simp [flds, pl, D.data, D.datas, e1, e2]
  have sh : (PyData.list (pl p q)).showable = true := by
    simp [pl, PyData.showable, PyData.showableAll, p1, q1]
  have dp : (PyData.list (pl p q)).depth ≤ 50 := by
    simp only [pl, PyData.depth, PyData.depthAll]
    omega
  have inner : ∀ x ∈ pl p q, x.shown.length ≤ 120 := by
    have l0 : (PyData.list []).shown.length ≤ 120 := by
      rw [PyData.shown]
      exact Nat.le_trans (lt_le (B := 0) (PyData.shownAll []) fun t h => by cases h) (by decide +kernel)
    have l1 : (PyData.list [p]).shown.length ≤ 120 := by
      rw [PyData.shown, shown_all]
      exact Nat.le_trans (lt_le (B := 50) _ fun t h => by
        rw [List.map_cons, List.map_nil, List.mem_singleton] at h
        rw [h]; exact p3) (by show 1 * (50 + 2) + 2 ≤ 120; omega)
    have l2 : (PyData.list [p, q]).shown.length ≤ 120 := by
      rw [PyData.shown, shown_all]
      exact Nat.le_trans (lt_le (B := 50) _ fun t h => by
        rw [List.map_cons, List.map_cons, List.map_nil] at h
        rcases List.mem_cons.mp h with h | h
        · rw [h]; exact p3
        · rw [List.mem_singleton] at h
          rw [h]; exact q3) (by show 2 * (50 + 2) + 2 ≤ 120; omega)
    intro x hx
    simp only [pl, List.mem_cons, List.not_mem_nil, or_false] at hx
    rcases hx with h | h | h | h | h | h | h | h | h | h | h | h | h | h | h | h | h | h | h | h <;> (subst h; assumption)
  have ln : (PyData.list (pl p q)).shown.length ≤ LIM := by
    rw [PyData.shown, shown_all]
    refine Nat.le_trans (lt_le (B := 120) _ fun t h => ?_) ?_
    · obtain ⟨x, hx, rfl⟩ := List.mem_map.mp h
      exact inner x hx
    · rw [List.length_map]
      show 20 * (120 + 2) + 2 ≤ 16777216
      omega
  refine ⟨(PyData.list (pl p q)).shown, ?_⟩
  show (D.lst (flds a b)).data.bind _ = _
  rw [ed]
  show (if _ then _ else _) = _
  rw [if_pos ⟨rfl, sh, dp, ln⟩]
theorem ne_same (s : PySem.Str) : cmpD .ne (.str s) (.str s) = some false := by
  show (some (decide (s = s))).map not = some false
  rw [decide_eq_true rfl]
  rfl

/-! ### one made list of exceptions, asked -/
def tst : E := .or (.cmp .ne (.bi .repr (.cons (.call 5 (.cons (.v 6) .nil) [] .nil) .nil)) (.bi .repr (.cons (.v 5) .nil))) (.cmp .ne lcA (.v 1))
def bodyS : Ss := .ife tst (.ret (.k (.bl false)) .nil) .nil forK
theorem tst_ok (n : Nat) (S : Sto) {a b : D} {j : Nat} (ha : a ∈ things) (hb : b ∈ things) (hj : S.get j = some (.lst (flds a b))) (g0 g2 g3 g4 g7 g8 g9 g10 g11 : Option D) :
    ev (Rn (n + 1)) tst [g0, some (.lst abvs), g2, g3, g4, some (.ref j), some (.lst (excs a b)), g7, g8, g9, g10, g11] S = some (.bl false, S) := by
  obtain ⟨s, hs⟩ := repr_ok ha hb (Rn (n + 1))
  have e1 : ev (Rn (n + 1)) (.cmp .ne (.bi .repr (.cons (.call 5 (.cons (.v 6) .nil) [] .nil) .nil)) (.bi .repr (.cons (.v 5) .nil))) [g0, some (.lst abvs), g2, g3, g4, some (.ref j), some (.lst (excs a b)), g7, g8, g9, g10, g11] S = some (.bl false, S) := by
    refine bnd_at (S1 := S) (a := .str s) ?_ ?_
    · refine bnd_at (S1 := S) (a := [.lst (flds a b)]) ?_ ?_
      · refine bnd_at (S1 := S) (a := .lst (flds a b)) ?_ rfl
        exact r_fields n S a b
      · show M.opt (biD _ .repr [.lst (flds a b)]) S = _
        rw [hs]
        rfl
    · refine bnd_at (S1 := S) (a := .str s) ?_ ?_
      · refine bnd_at (S1 := S) (a := [.ref j]) rfl ?_
        show M.opt (biD _ .repr [D.rsv S (.ref j)]) S = _
        rw [rsv_lst hj, hs]
        rfl
      · show M.opt ((cmpD .ne (.str s) (.str s)).map D.bl) S = _
        rw [ne_same]
        rfl
  have e2 : ev (Rn (n + 1)) (.cmp .ne lcA (.v 1)) [g0, some (.lst abvs), g2, g3, g4, some (.ref j), some (.lst (excs a b)), g7, g8, g9, g10, g11] S = some (.bl false, S) := by
    refine bnd_at (r_above n S a b _ _ _ _ _ _ _ _ _ _ _) ?_
    refine bnd_at (S1 := S) (a := .lst abvs) rfl ?_
    kernel_rfl
  refine bnd_at e1 ?_
  exact e2
theorem body_ok (n : Nat) (S : Sto) {a b : D} {j : Nat} (ha : a ∈ things) (hb : b ∈ things) (hj : S.get j = some (.lst (flds a b))) (g0 g2 g3 g4 g7 g8 g9 g10 g11 : Option D) :
    exs (Rn (n + 1)) bodyS [g0, some (.lst abvs), g2, g3, g4, some (.ref j), some (.lst (excs a b)), g7, g8, g9, g10, g11] S = some ((.nx, [g0, some (.lst abvs), g2, g3, g4, some (.ref j), some (.lst (excs a b)), g7, g8, g9, some (.int 19), some (.exc 19 [])]), S) := by
  refine bnd_at (tst_ok n S ha hb hj _ _ _ _ _ _ _ _ _) ?_
  refine bnd_at (S1 := S) (a := (.nx, [g0, some (.lst abvs), g2, g3, g4, some (.ref j), some (.lst (excs a b)), g7, g8, g9, g10, g11])) rfl ?_
  exact r_kinds n S a b _ _ _ _ _ _ _ _ _ _ _
end K89
namespace K89
open PySem PySem.Spec PyProof.Rows L2 He Mi
theorem Bag.mono {S : Sto} {b i j : Nat} (B : Bag S b i) (h : i ≤ j) : Bag S b j := by
  obtain ⟨g, x, c, h1, h2, h3, h4, h5⟩ := B.ex
  exact ⟨g, x, c, h1, h2, h3, h4, by omega⟩
theorem Bag.lt {S : Sto} {b i : Nat} (B : Bag S b i) : b < S.length := by
  obtain ⟨g, x, c, h1, _⟩ := B.ex
  exact get_len h1
theorem Bag.at {S S' : Sto} {b i : Nat} (B : Bag S b i) (h : S'.get b = S.get b) : Bag S' b i := by
  obtain ⟨g, x, c, h1, h2⟩ := B.ex
  exact ⟨g, x, c, h.trans h1, h2⟩
def lcD : E := .lc true (.ife (.cmp .inn (.v 9) (.tup (.cons (.k (.int 9)) (.cons (.k (.int 18)) (.cons (.k (.int 19)) .nil))))) (.lst false .nil) (.lst false (.cons (.v 7) .nil))) (.n 9) (.range (.k (.int 20))) .none
def twoE : E := .tup (.cons (.call 2 (.cons (.v 3) .nil) [] .nil) (.cons (.call 2 (.cons (.v 3) .nil) [] .nil) .nil))
def bothE : E := .tup (.cons (.call 3 (.cons (.v 7) (.cons (.v 8) .nil)) [] .nil) (.cons (.call 4 (.cons (.v 7) (.cons (.v 8) .nil)) [] .nil) .nil))
def turnS : Ss := .asg (.t [7, 8]) twoE (.asg (.n 5) lcD (.sidx (.v 5) (.k (.int 11)) (.lst false (.cons (.v 7) (.cons (.v 8) .nil))) (.for (.n 6) (.of bothE) bodyS .nil)))
def cellS : Ss := .asg (.n 3) (.call 0 (.cons (.v 0) (.cons (.v 2) .nil)) [] .nil) (.for (.n 4) (.range (.k (.int 6))) turnS .nil)
def eA : E := match b8 with
  | .asg _ e _ => e
  | _ => .k .non
def eM : E := .bi .max2 (.cons (.k (.int 2)) (.cons (.bi .min2 (.cons (.k (.int 4)) (.cons (.bi .len (.cons (.v 0) .nil)) .nil))) .nil))
theorem b8_eq : b8 = .asg (.n 1) eA (.for (.n 2) (.range eM) cellS (.ret (.k (.bl true)) .nil)) := rfl
theorem r_due (R : Rt) (S : Sto) (a : D) (g0 g1 g2 g3 g4 g5 g6 g8 g9 g10 g11 : Option D) : ev R lcD [g0, g1, g2, g3, g4, g5, g6, some a, g8, g9, g10, g11] S = some (.ref S.length, S ++ [some (W.lst (due0 a))]) := by kernel_rfl
theorem r_abv (R : Rt) (S : Sto) (g0 g1 g2 g3 g4 g5 g6 g7 g8 g9 g10 g11 : Option D) : ev R eA [g0, g1, g2, g3, g4, g5, g6, g7, g8, g9, g10, g11] S = some (.lst abvs, S) := by kernel_rfl
theorem two_ok {m b : Nat} {S : Sto} (hm : m ≤ 900) (B : Bag S b m) (g0 g1 g2 g4 g5 g6 g7 g8 g9 g10 g11 : Option D) : ∃ a c S', ev (Rn 3) twoE [g0, g1, g2, some (.ref b), g4, g5, g6, g7, g8, g9, g10, g11] S = some (.tup [a, c], S') ∧ a ∈ things ∧ c ∈ things ∧ Bag S' b (m + 2) := by
  obtain ⟨a, S1, h1, h2, h3, _, _⟩ := thing_ok 1 m b S (by omega) B
  obtain ⟨c, S2, k1, k2, k3, _, _⟩ := thing_ok 1 (m + 1) b S1 (by omega) h3
  refine ⟨a, c, S2, ?_, h2, k2, k3⟩
  refine bnd_at (S1 := S2) (a := [a, c]) ?_ rfl
  refine bnd_at (S1 := S1) (a := a) h1 ?_
  refine bnd_at (S1 := S2) (a := [c]) ?_ rfl
  exact bnd_at (S1 := S2) (a := c) k1 rfl
theorem both_ok (S : Sto) (a c : D) (g0 g1 g2 g3 g4 g5 g6 g9 g10 g11 : Option D) : ev (Rn 3) bothE [g0, g1, g2, g3, g4, g5, g6, some a, some c, g9, g10, g11] S = some (.tup [.lst (excs a c), .lst (excs a c)], S) := by
  refine bnd_at (S1 := S) (a := [D.lst (excs a c), D.lst (excs a c)]) ?_ rfl
  refine bnd_at (S1 := S) (a := D.lst (excs a c)) ?_ ?_
  · exact r_pos 2 S a c
  refine bnd_at (S1 := S) (a := [D.lst (excs a c)]) ?_ rfl
  refine bnd_at (S1 := S) (a := D.lst (excs a c)) ?_ rfl
  exact r_par 2 S a c
theorem turn_ok {m b : Nat} {S : Sto} (hm : m ≤ 900) (B : Bag S b m) (g0 g2 g4 g5 g6 g7 g8 g9 g10 g11 : Option D) :
    ∃ k4 k5 k6 k7 k8 k9 k10 k11 S', exs (Rn 3) turnS [g0, some (.lst abvs), g2, some (.ref b), g4, g5, g6, g7, g8, g9, g10, g11] S = some ((.nx, [g0, some (.lst abvs), g2, some (.ref b), k4, k5, k6, k7, k8, k9, k10, k11]), S') ∧ Bag S' b (m + 2) := by
  obtain ⟨a, c, S2, h1, ha, hc, B2⟩ := two_ok hm B g0 (some (.lst abvs)) g2 g4 g5 g6 g7 g8 g9 g10 g11
  have hlt := B2.lt
  have hne : b ≠ S2.length := Nat.ne_of_lt hlt
  have g3 : Sto.get (S2 ++ [some (W.lst (due0 a))]) S2.length = some (.lst (due0 a)) := by rw [get_push, if_pos rfl]
  have g4' := put_same (w' := W.lst (flds a c)) g3
  have B4 : Bag ((S2 ++ [some (W.lst (due0 a))]).put S2.length (W.lst (flds a c))) b (m + 2) := B2.at (by rw [put_other g3 hne, get_push, if_neg hne])
  generalize hS4 : (S2 ++ [some (W.lst (due0 a))]).put S2.length (W.lst (flds a c)) = S4 at g4' B4
  refine ⟨g4, some (.ref S2.length), some (.lst (excs a c)), some a, some c, g9, some (.int 19), some (.exc 19 []), S4, ?_, B4⟩
  refine bnd_at h1 ?_
  show exs (Rn 3) (.asg (.n 5) lcD _) [g0, some (.lst abvs), g2, some (.ref b), g4, g5, g6, some a, some c, g9, g10, g11] S2 = _
  refine bnd_at (r_due (Rn 3) S2 a _ _ _ _ _ _ _ _ _ _ _) ?_
  show exs (Rn 3) (.sidx _ _ _ _) [g0, some (.lst abvs), g2, some (.ref b), g4, some (.ref S2.length), g6, some a, some c, g9, g10, g11] _ = _
  refine bnd_at (S1 := S2 ++ [some (W.lst (due0 a))]) (a := D.lst [a, c]) rfl ?_
  refine bnd_at (S1 := S2 ++ [some (W.lst (due0 a))]) (a := .ref S2.length) rfl ?_
  refine bnd_at (S1 := S2 ++ [some (W.lst (due0 a))]) (a := .int 11) rfl ?_
  refine bnd_at (S1 := S4) (a := ()) ?_ ?_
  · unfold setItemD
    dsimp only
    rw [g3]
    dsimp only
    rw [if_pos ⟨by decide, by show (11 : Int) < 20; decide⟩, ← hS4]
    rfl
  · refine bnd_at (S1 := S4) (a := [D.lst (excs a c), D.lst (excs a c)]) ?_ ?_
    · rw [evi]
      refine bnd_at (S1 := S4) (a := D.tup [D.lst (excs a c), D.lst (excs a c)]) ?_ rfl
      exact both_ok S4 a c _ _ _ _ _ _ _ _ _ _
    · refine bnd_at (S1 := S4) (a := (.nx, [g0, some (.lst abvs), g2, some (.ref b), g4, some (.ref S2.length), some (.lst (excs a c)), some a, some c, g9, some (.int 19), some (.exc 19 [])])) ?_ rfl
      refine bnd_at (body_ok 2 S4 ha hc g4' g0 g2 (some (.ref b)) g4 (some a) (some c) g9 g10 g11) ?_
      refine bnd_at (body_ok 2 S4 ha hc g4' g0 g2 (some (.ref b)) g4 (some a) (some c) g9 (some (.int 19)) (some (.exc 19 []))) ?_
      rfl
theorem intsL_get : ∀ (k m i : Nat) (x : D), (intsL m k)[i]? = some x → x = .int ((m + i : Nat) : Int) ∧ i < k
  | 0, _, _, _, h => by cases h
  | k + 1, m, 0, x, h => by
    cases h
    exact ⟨rfl, Nat.succ_pos _⟩
  | k + 1, m, i + 1, x, h => by
    obtain ⟨e, hi⟩ := intsL_get k (m + 1) i x h
    exact ⟨by rw [e, show m + 1 + i = m + (i + 1) by omega], by omega⟩
theorem cell_done (ns : List Int) (i : Nat) (S : Sto) (g3 g4 g5 g6 g7 g8 g9 g10 g11 : Option D) :
    ∃ k3 k4 k5 k6 k7 k8 k9 k10 k11 S', exs (Rn 3) cellS [some (.lst (ns.map .int)), some (.lst abvs), some (.int (i : Int)), g3, g4, g5, g6, g7, g8, g9, g10, g11] S = some ((.nx, [some (.lst (ns.map .int)), some (.lst abvs), some (.int (i : Int)), k3, k4, k5, k6, k7, k8, k9, k10, k11]), S') := by
  obtain ⟨w, h1, B⟩ := bag_ok 2 ns (i : Int) S (by omega)
  obtain ⟨Γ', S', h2, h3⟩ := forL_inv (step := stepB (.n 4) (exs (Rn 3) turnS)) (fun k Γ S' => ∃ k4 k5 k6 k7 k8 k9 k10 k11, Γ = [some (.lst (ns.map .int)), some (.lst abvs), some (.int (i : Int)), some (.ref S.length), k4, k5, k6, k7, k8, k9, k10, k11] ∧ Bag S' S.length (2 * k)) (intsL 0 6) 0
    [some (.lst (ns.map .int)), some (.lst abvs), some (.int (i : Int)), some (.ref S.length), g4, g5, g6, g7, g8, g9, g10, g11] (S ++ [some w]) ⟨g4, g5, g6, g7, g8, g9, g10, g11, rfl, B⟩ (by
      rintro j x Γ S1 hx ⟨k4, k5, k6, k7, k8, k9, k10, k11, rfl, B1⟩
      obtain ⟨rfl, hj⟩ := intsL_get 6 0 j x hx
      obtain ⟨j4, j5, j6, j7, j8, j9, j10, j11, S2, q1, q2⟩ := turn_ok (m := 2 * (0 + j)) (by omega) B1 (some (.lst (ns.map .int))) (some (.int (i : Int))) (some (.int ((0 + j : Nat) : Int))) k5 k6 k7 k8 k9 k10 k11
      exact ⟨_, S2, q1, j4, j5, j6, j7, j8, j9, j10, j11, rfl, q2.mono (by omega)⟩)
  obtain ⟨k4, k5, k6, k7, k8, k9, k10, k11, rfl, _⟩ := h3
  refine ⟨some (.ref S.length), k4, k5, k6, k7, k8, k9, k10, k11, S', ?_⟩
  refine bnd_at (S1 := S ++ [some w]) (a := D.ref S.length) ?_ ?_
  · exact h1
  show M.bnd (evi (Rn 3) (.range (.k (.int 6))) [some (.lst (ns.map .int)), some (.lst abvs), some (.int (i : Int)), some (.ref S.length), g4, g5, g6, g7, g8, g9, g10, g11]) (fun xs => M.bnd (forL (stepB (.n 4) (exs (Rn 3) turnS)) xs _) fun z => thenS z (exs (Rn 3) .nil)) _ = _
  refine bnd_at (S1 := S ++ [some w]) (a := intsL 0 6) rfl ?_
  exact bnd_at h2 rfl
theorem max_ok (R : Rt) (ns : List Int) (S : Sto) (g1 g2 g3 g4 g5 g6 g7 g8 g9 g10 g11 : Option D) : ∃ k : Nat, evi R (.range eM) [some (.lst (ns.map .int)), g1, g2, g3, g4, g5, g6, g7, g8, g9, g10, g11] S = some (intsL 0 k, S) := by
  have e : ∃ z : Int, ev R eM [some (.lst (ns.map .int)), g1, g2, g3, g4, g5, g6, g7, g8, g9, g10, g11] S = some (.int z, S) ∧ 0 ≤ z ∧ z ≤ 4 := by
    refine ⟨if (if (ns.length : Int) < 4 then (ns.length : Int) else 4) > 2 then (if (ns.length : Int) < 4 then (ns.length : Int) else 4) else 2, ?_, by split <;> (try split) <;> omega, by split <;> (try split) <;> omega⟩
    simp [eM, ev, evs, M.bnd, M.ret, M.opt, D.rsv, biD, Cst.d]
  obtain ⟨z, e1, z0, z1⟩ := e
  refine ⟨z.toNat, ?_⟩
  rw [evi]
  refine bnd_at (S1 := S) (a := D.int z) ?_ ?_
  · exact e1
  show M.opt (if -(2 ^ 62) ≤ z ∧ z < 2 ^ 62 then some (intsL 0 z.toNat) else none) S = _
  rw [if_pos ⟨by omega, by omega⟩]
  rfl
theorem law_ok (ns : List Int) : ∃ S', run src.prg 4 8 [.lst (ns.map .int)] [] [] [] = some (.bl true, S') := by
  rw [pg_eq, run_at (f := ⟨["_law_script"], 12, b8⟩) rfl rfl, b8_eq]
  obtain ⟨k, hk⟩ := max_ok (Rn 3) ns [] (some (.lst abvs)) none none none none none none none none none none
  obtain ⟨Γ', S', h2, h3⟩ := forL_inv (step := stepB (.n 2) (exs (Rn 3) cellS)) (fun _ Γ _ => ∃ k2 k3 k4 k5 k6 k7 k8 k9 k10 k11, Γ = [some (.lst (ns.map .int)), some (.lst abvs), k2, k3, k4, k5, k6, k7, k8, k9, k10, k11]) (intsL 0 k) 0
    [some (.lst (ns.map .int)), some (.lst abvs), none, none, none, none, none, none, none, none, none, none] [] ⟨_, _, _, _, _, _, _, _, _, _, rfl⟩ (by
      rintro j x Γ S1 hx ⟨k2, k3, k4, k5, k6, k7, k8, k9, k10, k11, rfl⟩
      obtain ⟨rfl, hj⟩ := intsL_get k 0 j x hx
      obtain ⟨j3, j4, j5, j6, j7, j8, j9, j10, j11, S2, q⟩ := cell_done ns (0 + j) S1 k3 k4 k5 k6 k7 k8 k9 k10 k11
      exact ⟨_, S2, q, _, _, _, _, _, _, _, _, _, _, rfl⟩)
  refine ⟨S', ?_⟩
  refine bnd_at (S1 := S') (a := (.rt (.bl true), Γ')) ?_ rfl
  refine bnd_at (r_abv (Rn 3) [] _ _ _ _ _ _ _ _ _ _ _ _) ?_
  show M.bnd (evi (Rn 3) (.range eM) [some (.lst (ns.map .int)), some (.lst abvs), none, none, none, none, none, none, none, none, none, none]) (fun xs => M.bnd (forL (stepB (.n 2) (exs (Rn 3) cellS)) xs _) fun z => thenS z (exs (Rn 3) (.ret (.k (.bl true)) .nil))) _ = _
  refine bnd_at hk ?_
  refine bnd_at h2 ?_
  rfl
end K89
namespace K89
open PySem PySem.Spec PyProof.Rows L2 He Mi
theorem src_ok : src.ok = true := by decide +kernel
abbrev R0 : PySem.W.OpenRow := PySem.W.OpenLaw.row PySem.Challenge.rw_dictorders_k89_exceptions_made_by_hand
abbrev hk : PySem.W.Hook := hookM 5 src
def ob (s : PySem.W.SharedT) : AlM := obsM 5 src (HandSHeadRun.getT s)
theorem ob_eq (s : PySem.W.SharedT) : ob s = hk.obs s.abs := obsM_eq (HandSHeadRun.getT_eq s)
def loose : List PySem.Str := ["BadName", "BadRule", "BadText", "BadForm", "BadPattern", "BadFact", "BadLevel", "BadInteger", "BadGoal", "BadCommand", "UnknownName", "NoKey", "NoBase", "NoPlace", "TooMany", "Taken", "InUse", "Stale", "Busy", "NothingLeft", "_law_bag", "_law_take", "_law_thing", "_law_by_position", "_law_by_parameters", "_law_fields", "_law_kinds", "_law_above"]
theorem run_eq (w : World) : HandSHeadRun.RunEq R0 (PySem.W.view R0.prog [30]) hk ob 8000 loose w := by
  intro os
  kernel_rfl
end K89
open PySem PySem.W PySem.Calls PyProof.Rows
theorem PySem.Challenge.cw_dictorders_k89_exceptions_made_by_hand_holds : PySem.Challenge.rw_dictorders_k89_exceptions_made_by_hand.Holds := by
  w_on; o_law
  refine HandSHeadRun.head_any (r := OpenLaw.row PySem.Challenge.rw_dictorders_k89_exceptions_made_by_hand) (q := view (OpenLaw.row PySem.Challenge.rw_dictorders_k89_exceptions_made_by_hand).prog [30]) (H := K89.hk) (ob := K89.ob) (M := 8000) (loose := K89.loose) (d := HandSHeadRun.topDef (OpenLaw.row PySem.Challenge.rw_dictorders_k89_exceptions_made_by_hand).prog 30) (kwd := []) K89.ob_eq
    (by kernel_rfl) (fun s => by kernel_rfl) K89.run_eq (by kernel_rfl) (by kernel_rfl) (by kernel_rfl) (by rfl) (by first | assumption | decide +kernel) (by decide +kernel) ⟨rfl, rfl, rfl, rfl, rfl, by decide +kernel⟩ ?hw ?hc
  case hw => w_witness2
  case hc => exact Mi.walk_M (most := 63) (n := 4) (g := 8) rfl (by decide) (by kernel_rfl) ⟨rfl, by decide, by decide⟩ K89.src_ok (by kernel_rfl) fun ns _ => K89.law_ok ns
