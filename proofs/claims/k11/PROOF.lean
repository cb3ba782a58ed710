import PyProof.Rows.All
import Wide.All
import OpenK.AllK
import Wide.FinOn
import HandS.ForMost
import HandS.Exc
import HandS.Deep
import HandS.TupAny
import HandS.Text
import HandS.Comp
import HandS.IsInst
import HandS.CallSlots
import HandS.Star
import HandS.Property
import HandS.ClsMeth
import HandS.Slots
import HandS.SlotsOwn
import HandS.Walk
import HandS.Conv
import HandS.TupLen
import HandS.More
import HandS.Style
import HandS.ExcInit
import HandS.TryMany
import HandS.ExcField
import HandS.HeadWalk
import HandS.Small
import HandS.Defaults
import HandS.Head0
import HandS.Head1
import HandS.Head2
import HandS.HeadHook2
import HandS.HeadEnd
import PySem.Challenge.RW_whomayname_k11_lineage_refusals
set_option Elab.async false
set_option linter.all false
set_option autoImplicit false
set_option maxRecDepth 100000
set_option maxHeartbeats 0
/-! Mini: a small language of trees, its big-step evaluator -/
namespace Mi

inductive T where
  | non | bl (b : Bool) | int (i : Int) | str (n : Nat)
  | tup (xs : List T) | lst (xs : List T) | dct (kvs : List (T × T)) | dcu (kvs : List (T × T))
  | box (n : Nat) | cls (c : Nat) | exc (c : Nat) (xs : List T)
deriving Inhabited

inductive Pl where
  | sl (i : Nat) | fd (n f : Nat)
deriving DecidableEq

inductive Md where
  | own | fro | bor (p : Option Pl)
deriving DecidableEq, Inhabited

inductive Mo where
  | own | fro | bor | xc
deriving DecidableEq, Inhabited

structure Bx where
  cls : Nat
  fs : List (Nat × Bool × T)
deriving Inhabited

structure S where
  loc : List (Option (Mo × T))
  hp : List Bx
deriving Inhabited

inductive Op where
  | add | sub | mul | fdiv | mod | band | bor
deriving DecidableEq
inductive Co where
  | eq | ne | lt | le | gt | ge | isin | notin | isn | notn
deriving DecidableEq
inductive Bi where
  | len | range | enum | any | all | list | tuple | int | str
deriving DecidableEq
inductive Ty where
  | bool | int | str | tuple | list | dict | cls (c : Nat)
deriving DecidableEq
inductive Tg where
  | one (i : Nat) | many (is : List Nat)
deriving DecidableEq

inductive Ex where
  | cst (t : T)
  | var (i : Nat) (b : Bool)
  | mv (i : Nat)
  | lst (es : List Ex) | tup (es : List Ex) | dct (es : List Ex) | boxd (ks : List Nat) (es : List Ex)
  | bin (o : Op) (a b : Ex)
  | cmp (o : Co) (a b : Ex)
  | not (a : Ex) | and (a b : Ex) | or (a b : Ex)
  | att (e : Ex) (f : Nat) (b : Bool)
  | sub (e i : Ex) (b : Bool)
  | slc (e : Ex) (lo hi : Option Ex)
  | rev (e : Ex)
  | split (e : Ex)
  | get (e : Ex) (as : List Ex)
  | index (e k : Ex)
  | call (f : Nat) (as : List Ex) (ks : List Nat)
  | callc (f : Nat) (as : List Ex)
  | meth (o : Ex) (m : Nat) (as : List Ex) (ks : List Nat)
  | make (c : Nat) (as : List Ex)
  | makev (i : Nat) (as : List Ex)
  | bi (b : Bi) (as : List Ex)
  | isi (e : Ex) (t : Ty)
  | comp (e : Ex) (g : Tg) (it : Ex) (c : Option Ex)
  | comp2 (e : Ex) (g : Tg) (it : Ex) (g2 : Tg) (it2 : Ex)
  | dcomp (u : Bool) (k v : Ex) (g : Tg) (it : Ex)
  | dcu
  | xf (i f : Nat)
  | xi (i c : Nat)
  | stuck
  | spread (d : Ex) (as : List Ex)
deriving Inhabited

inductive Pa where
  | sl (i : Nat) | at (o : Ex) (f : Nat) | ix (o k : Ex)
deriving Inhabited

mutual
inductive Sm where
  | set (g : Tg) (e : Ex)
  | setf (o : Ex) (f : Nat) (e : Ex)
  | seti (p : Pa) (k e : Ex)
  | app (p : Pa) (e : Ex)
  | updt (p : Pa) (e : Ex)
  | clr (p : Pa)
  | pops (i j : Nat)
  | popx (j : Nat)
  | popi (j : Nat) (e : Ex)
  | aug (i : Nat) (e : Ex)
  | exp (e : Ex)
  | ret (e : Ex)
  | ite (c : Ex) (a b : List Sm)
  | for_ (g : Tg) (it : Ex) (b : List Sm)
  | whl (c : Ex) (b : List Sm)
  | rai (c : Nat) (as : List Ex)
  | raf (c : Nat) (as : List Ex) (d : Nat) (bs : List Ex)
  | popk (p : Pa) (e : Ex)
  | setb (i f : Nat) (e : Ex)
  | stuck
  | tr (b : List Sm) (h : Hd)
  | pass | cont | brk
inductive Hd where
  | nil
  | cons (c : Nat) (x : Option Nat) (b : List Sm) (r : Hd)
end
instance : Inhabited Sm := ⟨.pass⟩

structure Fn where
  ps : List Nat          -- positional parameters
  nd : List T            -- defaults of the last positional ones
  star : Bool            -- *rest behind them
  kw : List (Nat × Option T)   -- keyword-only ones
  nl : Nat               -- number of slots
  body : List Sm
deriving Inhabited

structure Gm where
  fn : Nat → Option Fn
  meth : Nat → Nat → Option Nat
  prop : Nat → Nat → Option Nat
  setr : Nat → Nat → Option Nat
  iterf : Nat → Option Nat
  sub : Nat → Nat → Bool
  arity : Nat → Option Nat

inductive Res (α : Type) where
  | ok (a : α) (s : S) | exc (c : Nat) (xs : List T) (s : S) | no

def noExc {α : Type} (r : Res α) : Res α := match r with | .exc _ _ _ => .no | r => r
def Res.bind {α β : Type} (r : Res α) (f : α → S → Res β) : Res β :=
  match r with
  | .ok a s => f a s
  | .exc c xs s => .exc c xs s
  | .no => .no

/-! equality -/
mutual
def T.eqv : T → T → Bool
  | .non, .non => true
  | .bl a, .bl b => a == b
  | .bl a, .int i => (if a then 1 else 0) == i
  | .int i, .bl a => i == (if a then 1 else 0)
  | .int i, .int j => i == j
  | .str a, .str b => a == b
  | .tup a, .tup b => T.eqvs a b
  | .lst a, .lst b => T.eqvs a b
  | _, _ => false
def T.eqvs : List T → List T → Bool
  | [], [] => true
  | a :: as, b :: bs => a.eqv b && T.eqvs as bs
  | _, _ => false
end
mutual
def T.dataN : T → Nat → Bool
  | .non, _ => true
  | .bl _, _ => true
  | .int _, _ => true
  | .str _, _ => true
  | .tup xs, n + 1 => T.dataNs xs n
  | .lst xs, n + 1 => T.dataNs xs n
  | _, _ => false
def T.dataNs : List T → Nat → Bool
  | [], _ => true
  | a :: as, n => a.dataN n && T.dataNs as n
end
/-- none, bools, ints, texts, tuples and lists of these, at most 8 deep -/
def T.data (t : T) : Bool := t.dataN 8
def T.datas (ts : List T) : Bool := T.dataNs ts 7
def T.isNon : T → Bool
  | .non => true
  | _ => false
def T.isIn (x : T) (xs : List T) : Bool := xs.any fun y => y.eqv x

/-! keys of dicts: ints, texts -/
def T.isKey : T → Bool
  | .int _ => true
  | .str _ => true
  | _ => false
/-- the text that ends every stance -/
def anyN : Nat := 6451066
def lastAny (ts : List T) : Bool := match ts.getLast? with
  | some (.str n) => n == anyN
  | _ => false
/-- keys that are tuples of ints and texts -/
def T.isKeyU : T → Bool
  | .tup ts => !ts.isEmpty && ts.all T.isKey && !lastAny ts
  | _ => false
def T.look (k : T) : List (T × T) → Option T
  | [] => none
  | (a, v) :: r => if k.eqv a then some v else T.look k r
def T.put (k v : T) : List (T × T) → List (T × T)
  | [] => [(k, v)]
  | (a, u) :: r => if k.eqv a then (a, v) :: r else (a, u) :: T.put k v r
def T.drop (k : T) : List (T × T) → List (T × T)
  | [] => []
  | (a, u) :: r => if k.eqv a then r else (a, u) :: T.drop k r
def fget (f : Nat) : List (Nat × Bool × T) → Option (Bool × T)
  | [] => none
  | (g, x) :: r => if g = f then some x else fget f r
def fput (f : Nat) (x : Bool × T) : List (Nat × Bool × T) → List (Nat × Bool × T)
  | [] => [(f, x)]
  | (g, y) :: r => if g = f then (g, x) :: r else (g, y) :: fput f x r

/-! texts as numbers, base 256 -/
def decN : Nat → Nat → List Nat → List Nat
  | 0, _, acc => acc
  | fuel + 1, n, acc => if n = 0 then acc else decN fuel (n / 256) ((n % 256 - 1) :: acc)
def dec (n : Nat) : List Nat := decN 400 n []
def encL (l : List Nat) : Nat := l.foldl (fun a c => a * 256 + (c + 1)) 0
def splitL (l : List Nat) : List (List Nat) :=
  l.foldr (fun c r => if c = 32 then [] :: r else match r with | w :: t => (c :: w) :: t | [] => [[c]]) [[]]
def natDigits (n : Nat) : List Nat := (toString n).toList.map Char.toNat

def isCont : T → Bool
  | .lst _ => true
  | .dct _ => true
  | .dcu _ => true
  | _ => false
def fmd (t : T) (m : Md) : Md := if isCont t then m else .fro
/-- the value is stored in a container: it must not be a borrowed one -/
def Md.sto : Md → Bool
  | .bor _ => false
  | _ => true
def Md.locks : Md → List Pl
  | .bor (some p) => [p]
  | _ => []
def Md.par : Md → Mo
  | .bor _ => .bor
  | _ => .fro
def Md.slot : Md → Mo
  | .bor _ => .bor
  | .own => .own
  | .fro => .fro
def Md.isPl : Md → Bool
  | .bor (some _) => true
  | _ => false
def Pl.isFd : Pl → Bool
  | .fd _ _ => true
  | _ => false

abbrev V := Md × T
/-- calls of defs: name, arguments, heap, locks -/
abbrev CallF := Nat → List (Mo × T) → List Bx → List Pl → Res V

def szL : Nat := 16777216
def okF (t : T) (s : S) : Res V := .ok (.fro, t) s
def okO (t : T) (s : S) : Res V := .ok (fmd t .own, t) s
def ifR {α : Type} (b : Bool) (r : Res α) : Res α := if b then r else .no
/-- a value that must be there -/
def optR {α β : Type} (o : Option α) (f : α → Res β) : Res β := match o with | some a => f a | none => .no

def rdVar (lk : List Pl) (i : Nat) (b : Bool) (s : S) : Res V :=
  match s.loc[i]? with
  | some (some (.own, t)) =>
    if isCont t then (if b then .ok (.bor (some (.sl i)), t) s else if lk.contains (.sl i) then .no else .ok (.fro, t) { s with loc := s.loc.set i (some (.fro, t)) })
    else okF t s
  | some (some (.fro, t)) => okF t s
  | some (some (.bor, t)) => .ok (fmd t (.bor none), t) s
  | _ => .no
def mvVar (lk : List Pl) (i : Nat) (s : S) : Res V :=
  match s.loc[i]? with
  | some (some (.own, t)) => if lk.contains (.sl i) then .no else .ok (fmd t .own, t) { s with loc := s.loc.set i none }
  | some (some (.fro, t)) => okF t s
  | _ => .no
def setBx (n : Nat) (bx : Bx) (s : S) : S := { s with hp := s.hp.set n bx }
/-- a field of a box is read -/
def rdFld (lk : List Pl) (n f : Nat) (b : Bool) (s : S) : Res V :=
  match s.hp[n]? with
  | some bx => match fget f bx.fs with
    | some (true, t) =>
      if isCont t then (if b then .ok (.bor (some (.fd n f)), t) s else if lk.contains (.fd n f) then .no else .ok (.fro, t) (setBx n { bx with fs := fput f (false, t) bx.fs } s))
      else okF t s
    | some (false, t) => okF t s
    | none => .no
  | none => .no
/-- a field of a box is written -/
def wrFld (lk : List Pl) (n f : Nat) (v : V) (s : S) : Option S :=
  if !v.1.sto || lk.contains (.fd n f) then none else
  match s.hp[n]? with
  | some bx => if bx.fs.length < 900 then some (setBx n { bx with fs := fput f (v.1 == .own, v.2) bx.fs } s) else none
  | none => none
/-- an owned, unlocked place: its content, and writing it -/
def rdPl (lk : List Pl) (p : Pl) (s : S) : Option T :=
  if lk.contains p then none else
  match p with
  | .sl i => match s.loc[i]? with
    | some (some (.own, t)) => some t
    | _ => none
  | .fd n f => match s.hp[n]? with
    | some bx => match fget f bx.fs with
      | some (true, t) => some t
      | _ => none
    | none => none
def wrPl (p : Pl) (t : T) (s : S) : S :=
  match p with
  | .sl i => { s with loc := s.loc.set i (some (.own, t)) }
  | .fd n f => match s.hp[n]? with
    | some bx => setBx n { bx with fs := fput f (true, t) bx.fs } s
    | none => s

def setMany : List Nat → List T → List (Option (Mo × T)) → List (Option (Mo × T))
  | i :: is, t :: ts, l => setMany is ts (l.set i (some (.fro, t)))
  | _, _, l => l
def bindTg (lk : List Pl) (g : Tg) (v : V) (s : S) : Option S :=
  match g with
  | .one i => if lk.contains (.sl i) || v.1.isPl then none else some { s with loc := s.loc.set i (some (v.1.slot, v.2)) }
  | .many is => match v.2 with
    | .tup ts => if is.length = ts.length ∧ (is.all fun i => !lk.contains (.sl i)) then some { s with loc := setMany is ts s.loc } else none
    | _ => none
def wipeL (is : List Nat) (l : List (Option (Mo × T))) : List (Option (Mo × T)) := is.foldr (fun i l => l.set i none) l
def Tg.slots : Tg → List Nat
  | .one i => [i]
  | .many is => is
def wipe (g : Tg) (s : S) : S := { s with loc := wipeL g.slots s.loc }

def idx (n : Nat) (i : Int) : Option Nat :=
  if 0 ≤ i then (if i < n then some i.toNat else none) else (if -(n : Int) ≤ i then some (i + n).toNat else none)
/-- a bound of a slice -/
def clip (n d : Nat) : Option Int → Nat
  | none => d
  | some i => if i < 0 then (max (i + n) 0).toNat else (min i n).toNat
def cut {α : Type} (xs : List α) (lo hi : Option Int) : List α := (xs.drop (clip xs.length 0 lo)).take (clip xs.length xs.length hi - clip xs.length 0 lo)

def truth : T → Option Bool
  | .bl b => some b
  | .lst xs => some (!xs.isEmpty)
  | _ => none

/-- ints alone -/
def opI (o : Op) (i j : Int) : Option Int :=
  match o with
  | .add => some (i + j)
  | .sub => some (i - j)
  | .mul => if (-(2 ^ 64) < j ∧ j < 2 ^ 64) ∨ (-(2 ^ 64) < i ∧ i < 2 ^ 64) then some (i * j) else none
  | .fdiv => if 0 < j ∧ j < 1073741824 then some (i / j) else none
  | .mod => if 0 < j then some (i % j) else none
  | _ => none
def coI (o : Co) (i j : Int) : Option Bool :=
  match o with
  | .lt => some (decide (i < j))
  | .le => some (decide (i ≤ j))
  | .gt => some (decide (j < i))
  | .ge => some (decide (j ≤ i))
  | _ => none

def parOf (v : V) : Mo × T := (v.1.par, v.2)
/-- what may be handed to a def: a field of a box that is owned there may not -/
def argOk (v : V) : Bool := match v.1 with
  | .bor (some (.fd _ _)) => !isCont v.2
  | _ => true
def argsOk' (vs : List V) : Bool := vs.all argOk
/-- the place that a value is borrowed from -/
def lks (v : V) : List Pl := if isCont v.2 then v.1.locks else []
def locksOf (vs : List V) : List Pl := vs.flatMap lks

/-- a def is called: behind it the caller's slots -/
def callR (C : CallF) (lk : List Pl) (f : Nat) (as : List (Mo × T)) (s : S) : Res V :=
  match C f as s.hp (lk.filter Pl.isFd) with
  | .ok v s' => .ok v { s with hp := s'.hp }
  | .exc c xs s' => .exc c xs { s with hp := s'.hp }
  | .no => .no

section
variable (Γ : Gm) (C C' : CallF)

/-- positional and keyword arguments (the last ones, by their names ks) to the parameters' order -/
def bindArgs (fd : Fn) (all : List (Mo × T)) (ks : List Nat) : Option (List (Mo × T)) :=
  let na := all.length - ks.length
  let as := all.take na
  let kv := all.drop na
  let np := fd.ps.length
  if fd.star then
    if ks.isEmpty && fd.kw.isEmpty && decide (np ≤ na) && decide (na ≤ 1000) && (as.drop np).all (fun p => p.1 == .fro) then some (as.take np ++ [(.fro, .tup ((as.drop np).map (·.2)))]) else none
  else if na > np then none else
  let miss := np - na
  if ks.all (fun k => fd.kw.any (fun p => p.1 == k)) then
    if miss ≤ fd.nd.length then
      let kws := fd.kw.map fun p => match (ks.zip kv).lookup p.1 with
        | some v => some v
        | none => p.2.map fun d => (.fro, d)
      if kws.all Option.isSome then some (as ++ (fd.nd.drop (fd.nd.length - miss)).map (fun d => (.fro, d)) ++ kws.filterMap id) else none
    else none
  else none

def callB (C : CallF) (lk : List Pl) (f : Nat) (as : List (Mo × T)) (ks : List Nat) (s : S) : Res V :=
  match Γ.fn f with
  | some fd => match bindArgs fd as ks with
    | some l => callR C lk f l s
    | none => .no
  | none => .no

/-- two boxes of one class -/
def sameC (n m : Nat) (s : S) : Bool := match s.hp[n]?, s.hp[m]? with
  | some a, some b => a.cls == b.cls && a.cls != 0
  | _, _ => false
/-- a method of a box -/
def methR (lk : List Pl) (n : Nat) (m : Nat) (as : List (Mo × T)) (s : S) : Res V :=
  match s.hp[n]? with
  | some bx => if bx.cls = 0 then .no else match Γ.meth bx.cls m with
    | some f => callB Γ C lk f ((.fro, .box n) :: as) [] s
    | none => .no
  | none => .no

def makeR (lk : List Pl) (c : Nat) (as : List (Mo × T)) (s : S) : Res V :=
  match Γ.meth c 0 with
  | some f =>
    (callB Γ C' lk f ((.fro, .box s.hp.length) :: as) [] { s with hp := s.hp ++ [{ cls := c, fs := [] }] }).bind fun v s' => match v.2 with
      | .non => okF (.box s.hp.length) s'
      | _ => .no
  | none => .no

def binR (lk : List Pl) (o : Op) (x y : V) (s : S) : Res V :=
  match x.2, y.2 with
  | .int i, .int j => match opI o i j with
    | some k => okF (.int k) s
    | none => .no
  | .lst a, .lst b => if o = .add ∧ a.length + b.length ≤ szL then okO (.lst (a ++ b)) s else .no
  | .lst a, .int j => if o = .mul ∧ 0 ≤ j ∧ j ≤ 1000 ∧ a.length * j.toNat ≤ szL then okO (.lst (List.replicate j.toNat a).flatten) s else .no
  | .tup a, .tup b => if o = .add ∧ a.length + b.length ≤ szL then okF (.tup (a ++ b)) s else .no
  | .str a, .str b => if o = .add ∧ (dec a).length + (dec b).length ≤ 390 then okF (.str (encL (dec a ++ dec b))) s else .no
  | .box n, .box m => match o with
    | .band => if sameC n m s then methR Γ C' lk n 1 [(.fro, .box m)] s else .no
    | .bor => if sameC n m s then methR Γ C' lk n 2 [(.fro, .box m)] s else .no
    | _ => .no
  | _, _ => .no

def inR (lk : List Pl) (x y : V) (s : S) : Res Bool :=
  match y.2 with
  | .lst ys => if x.2.data && T.datas ys then .ok (x.2.isIn ys) s else .no
  | .tup ys => if x.2.data && T.datas ys then .ok (x.2.isIn ys) s else .no
  | .dct kvs => if x.2.isKey then .ok (x.2.look kvs).isSome s else .no
  | .dcu kvs => if x.2.isKeyU then .ok (x.2.look kvs).isSome s else .no
  | .box n => match s.hp[n]? with
    | some bx => if bx.cls = 0 then .no
      else if !argOk x then .no else (methR Γ C' lk n 3 [parOf x] s).bind fun v s' => match v.2 with | .bl b => .ok b s' | _ => .no
    | none => .no
  | _ => .no

def cmpR (lk : List Pl) (o : Co) (x y : V) (s : S) : Res V :=
  match o with
  | .eq => if x.2.data && y.2.data then okF (.bl (x.2.eqv y.2)) s else .no
  | .ne => if x.2.data && y.2.data then okF (.bl (!x.2.eqv y.2)) s else .no
  | .isin => (inR Γ C' lk x y s).bind fun b s' => okF (.bl b) s'
  | .notin => (inR Γ C' lk x y s).bind fun b s' => okF (.bl (!b)) s'
  | .isn => okF (.bl x.2.isNon) s
  | .notn => okF (.bl (!x.2.isNon)) s
  | o => match x.2, y.2 with
    | .int i, .int j => match coI o i j with
      | some b => okF (.bl b) s
      | none => .no
    | .box n, .box m => if o = .le then (if sameC n m s then methR Γ C' lk n 4 [(.fro, .box m)] s else .no) else .no
    | _, _ => .no

def attR (lk : List Pl) (x : T) (f : Nat) (b : Bool) (s : S) : Res V :=
  match x with
  | .box n => match s.hp[n]? with
    | some bx => if bx.cls = 0 then .no else match Γ.prop bx.cls f with
      | some g => noExc (callR C' lk g [(.fro, .box n)] s)
      | none => rdFld lk n f b s
    | none => .no
  | .exc _ xs => match f with
    | 1 => optR xs[0]? fun t => okF t s
    | 2 => optR xs[1]? fun t => okF t s
    | 3 => optR xs[2]? fun t => okF t s
    | _ => .no
  | _ => .no

def subR (lk : List Pl) (x y : V) (b : Bool) (s : S) : Res V :=
  match x.2, y.2 with
  | .lst xs, .int i => optR (idx xs.length i) fun k => optR xs[k]? fun t => okF t s
  | .tup xs, .int i => optR (idx xs.length i) fun k => optR xs[k]? fun t => okF t s
  | .dct kvs, k => if k.isKey then optR (k.look kvs) fun t => okF t s else .no
  | .dcu kvs, k => if k.isKeyU then optR (k.look kvs) fun t => okF t s else .no
  | .box n, k => match s.hp[n]? with
    | some bx => if bx.cls = 0 then (match k with | .str k => rdFld lk n k b s | _ => .no) else if !argOk y then .no else methR Γ C' lk n 5 [parOf y] s
    | none => .no
  | _, _ => .no

def slcR (x : V) (lo hi : Option Int) (s : S) : Res V :=
  match x.2 with
  | .lst xs => okO (.lst (cut xs lo hi)) s
  | .tup xs => okF (.tup (cut xs lo hi)) s
  | _ => .no

/-- what is walked -/
def itemsR (x : T) (s : S) : Option (List T) :=
  match x with
  | .lst xs => some xs
  | .tup xs => if xs.length ≤ szL then some xs else none
  | .box n => match s.hp[n]? with
    | some bx => if bx.cls = 0 then none else match Γ.iterf bx.cls with
      | some f => match fget f bx.fs with
        | some (_, .dct kvs) => some (kvs.map (·.1))
        | _ => none
      | none => none
    | none => none
  | .dct kvs => some (kvs.map (·.1))
  | .dcu kvs => some (kvs.map (·.1))
  | _ => none

def boolsOf : List T → Option (List Bool)
  | [] => some []
  | .bl b :: r => (boolsOf r).map (b :: ·)
  | _ => none
def enumL : Nat → List T → List T
  | _, [] => []
  | k, x :: xs => .tup [.int k, x] :: enumL (k + 1) xs

def biR (lk : List Pl) (b : Bi) (vs : List V) (s : S) : Res V :=
  match b, vs with
  | .len, [v] => match v.2 with
    | .lst xs => okF (.int xs.length) s
    | .tup xs => okF (.int xs.length) s
    | .dct kvs => okF (.int kvs.length) s
    | .dcu kvs => okF (.int kvs.length) s
    | .box n => (methR Γ C' lk n 6 [] s).bind fun v s' => match v.2 with
      | .int i => if 0 ≤ i ∧ i < 4611686018427387904 then okF (.int i) s' else .no
      | _ => .no
    | _ => .no
  | .range, [v] => match v.2 with
    | .int i => if -4611686018427387904 ≤ i ∧ i < 16777216 then okO (.lst ((List.range i.toNat).map fun k => .int (k : Nat))) s else .no
    | _ => .no
  | .enum, [v] => match v.2 with
    | .lst xs => okO (.lst (enumL 0 xs)) s
    | _ => .no
  | .any, [v] => match v.2 with
    | .lst xs => optR (boolsOf xs) fun bs => okF (.bl (bs.any id)) s
    | _ => .no
  | .all, [v] => match v.2 with
    | .lst xs => optR (boolsOf xs) fun bs => okF (.bl (bs.all id)) s
    | _ => .no
  | .list, [v] => optR (itemsR Γ v.2 s) fun xs => okO (.lst xs) s
  | .tuple, [v] => match v.2 with
    | .lst xs => okF (.tup xs) s
    | .tup xs => okF (.tup xs) s
    | _ => .no
  | .int, [v] => match v.2 with
    | .int i => okF (.int i) s
    | .bl b => okF (.int (if b then 1 else 0)) s
    | _ => .no
  | .str, [v] => match v.2 with
    | .int i => if 0 ≤ i ∧ i < 10 then okF (.str (encL [48 + i.toNat])) s else .no
    | _ => .no
  | _, _ => .no

/-- the types of plain data -/
def tyT : T → Option Ty
  | .bl _ => some .bool
  | .int _ => some .int
  | .str _ => some .str
  | .tup _ => some .tuple
  | .lst _ => some .list
  | .dct _ => some .dict
  | _ => none
def isiT (x : T) (t : Ty) : Option Bool :=
  match t with
  | .cls c => match x with | .exc d _ => some (Γ.sub d c) | _ => none
  | t => match x with
    | .non => some false
    | x => match tyT x with
      | some u => some (u == t || (u == .bool && t == .int))
      | none => none

def pairUp : List T → List (T × T) → List (T × T)
  | a :: b :: r, acc => pairUp r (T.put a b acc)
  | _, acc => acc
/-- every other one is a key -/
def keysOk : List T → Bool
  | k :: _ :: r => k.isKey && keysOk r
  | [] => true
  | _ => false
def boxFs : List Nat → List V → List (Nat × Bool × T) → List (Nat × Bool × T)
  | k :: ks, v :: vs, l => boxFs ks vs (fput k (v.1 == .own, v.2) l)
  | _, _, l => l

/-- [elt for target in items]: elt and test by what they do -/
def compL (lk : List Pl) (g : Tg) (test : S → Res Bool) (elt : S → Res V) : List T → List T → S → Res (List T)
  | [], acc, s => .ok acc (wipe g s)
  | x :: xs, acc, s =>
    optR (bindTg lk g (.fro, x) (wipe g s)) fun s1 => (test s1).bind fun b s2 =>
      if b then (elt s2).bind fun v s3 => if v.1.sto then compL lk g test elt xs (acc ++ [v.2]) s3 else .no
      else compL lk g test elt xs acc s2
def stoAll (vs : List V) : Bool := vs.all fun v => v.1.sto
def vals (vs : List V) : List T := vs.map (·.2)

/-- a def that sees no boxes and answers a bool -/
def callCR (Γ : Gm) (C : CallF) (f : Nat) (as : List (Mo × T)) (s : S) : Res V :=
  match Γ.fn f with
  | some fd => match bindArgs fd as [] with
    | some l => match C f l [] [] with
      | .ok v _ => match v.2 with
        | .bl b => okF (.bl b) s
        | _ => .no
      | _ => .no
    | none => .no
  | none => .no
def isDct : T → Bool
  | .dct _ => true
  | .dcu _ => true
  | _ => false
/-- d.get(k, x) -/
def getR (x : T) (vs : List V) (s : S) : Res V := match x, vs with
  | .dct kvs, [a, b] => if a.2.isKey && b.1.sto then okF ((a.2.look kvs).getD b.2) s else .no
  | .dcu kvs, [a, b] => if a.2.isKeyU && b.1.sto then okF ((a.2.look kvs).getD b.2) s else .no
  | _, _ => .no
mutual
def ev (lk : List Pl) : Ex → S → Res V
  | .cst t, s => okF t s
  | .var i b, s => rdVar lk i b s
  | .mv i, s => mvVar lk i s
  | .lst es, s => (evs lk es s).bind fun vs s1 => if stoAll vs && decide (vs.length ≤ 1000) then okO (.lst (vals vs)) s1 else .no
  | .tup es, s => (evs lk es s).bind fun vs s1 => if stoAll vs && decide (vs.length ≤ 1000) then okF (.tup (vals vs)) s1 else .no
  | .dct es, s => (evs lk es s).bind fun vs s1 => if stoAll vs && decide (vs.length ≤ 28) && keysOk (vals vs) then okO (.dct (pairUp (vals vs) [])) s1 else .no
  | .dcu, s => okO (.dcu []) s
  | .xf i f, s => match s.loc[i]? with
    | some (some (.xc, .exc _ xs)) => optR xs[f - 1]? fun t => okF t s
    | _ => .no
  | .xi i c, s => match s.loc[i]? with
    | some (some (.xc, .exc d _)) => okF (.bl (Γ.sub d c)) s
    | _ => .no
  | .stuck, _ => .no
  | .boxd ks es, s => (evs lk es s).bind fun vs s1 => if stoAll vs && ks.length == vs.length && ks.all (fun k => !lk.contains (.fd s1.hp.length k)) then
      okF (.box s1.hp.length) { s1 with hp := s1.hp ++ [{ cls := 0, fs := boxFs ks vs [] }] } else .no
  | .bin o a b, s => (ev lk a s).bind fun x s1 => (ev (lks x ++ lk) b s1).bind fun y s2 => binR Γ C' lk o x y s2
  | .cmp o a b, s => (ev lk a s).bind fun x s1 => (ev (lks x ++ lk) b s1).bind fun y s2 => cmpR Γ C' (lks x ++ lk) o x y s2
  | .not a, s => (ev lk a s).bind fun x s1 => match x.2 with
    | .bl b => okF (.bl (!b)) s1
    | _ => .no
  | .and a b, s => (ev lk a s).bind fun x s1 => match x.2 with
    | .bl true => ev lk b s1
    | .bl false => okF (.bl false) s1
    | _ => .no
  | .or a b, s => (ev lk a s).bind fun x s1 => match x.2 with
    | .bl false => ev lk b s1
    | .bl true => okF (.bl true) s1
    | _ => .no
  | .att e f b, s => (ev lk e s).bind fun x s1 => attR Γ C' lk x.2 f b s1
  | .sub e i b, s => (ev lk e s).bind fun x s1 => (ev (lks x ++ lk) i s1).bind fun y s2 => subR Γ C' (lks y ++ lk) x y b s2
  | .slc e lo hi, s => (ev lk e s).bind fun x s1 => (evo (lks x ++ lk) lo s1).bind fun a s2 => (evo (lks x ++ lk) hi s2).bind fun b s3 => slcR x a b s3
  | .rev e, s => (ev lk e s).bind fun x s1 => match x.2 with
    | .tup xs => okF (.tup xs.reverse) s1
    | _ => .no
  | .split e, s => (ev lk e s).bind fun x s1 => match x.2 with
    | .str n => okO (.lst ((splitL (dec n)).map fun w => .str (encL w))) s1
    | _ => .no
  | .get e as, s => (ev lk e s).bind fun x s1 => if isDct x.2 then (evs (lks x ++ lk) as s1).bind fun vs s2 => getR x.2 vs s2 else .no
  | .index e k, s => (ev lk e s).bind fun x s1 => (ev (lks x ++ lk) k s1).bind fun y s2 => match x.2 with
    | .lst xs => if y.2.data && T.datas xs && y.2.isIn xs then okF (.int (xs.findIdx (fun z => y.2.eqv z))) s2 else .no
    | _ => .no
  | .call f as ks, s => (evs lk as s).bind fun vs s1 => if argsOk' vs then callB Γ C lk f (vs.map parOf) ks s1 else .no
  | .callc f as, s => (evs lk as s).bind fun vs s1 => if vs.all (fun v => v.2.data) then callCR Γ C f (vs.map parOf) s1 else .no
  | .meth o m as ks, s => (ev lk o s).bind fun x s1 => match x.2 with
    | .box n => optR s1.hp[n]? fun bx => if bx.cls = 0 then .no else optR (Γ.meth bx.cls m) fun f => if (fget m bx.fs).isSome then .no else
        (evs lk as s1).bind fun vs s2 => if argsOk' vs then callB Γ C lk f ((.fro, .box n) :: vs.map parOf) ks s2 else .no
    | _ => .no
  | .make c as, s => (evs lk as s).bind fun vs s1 => if argsOk' vs then makeR Γ C' lk c (vs.map parOf) s1 else .no
  | .makev i as, s => (rdVar lk i true s).bind fun x s0 => match x.2 with
    | .cls c => (evs lk as s0).bind fun vs s1 => if argsOk' vs then makeR Γ C' lk c (vs.map parOf) s1 else .no
    | _ => .no
  | .bi b as, s => (evs lk as s).bind fun vs s1 => biR Γ C' lk b vs s1
  | .isi e t, s => (ev lk e s).bind fun x s1 => optR (isiT Γ x.2 t) fun b => okF (.bl b) s1
  | .comp e g it c, s => (ev lk it s).bind fun x s1 => optR (itemsR Γ x.2 s1) fun xs =>
      noExc ((compL (lks x ++ lk) g (fun s => evc (lks x ++ lk) c s) (fun s => ev (lks x ++ lk) e s) xs [] s1).bind fun ys s2 => okO (.lst ys) s2)
  | .comp2 e g it g2 it2, s => (ev lk it s).bind fun x s1 => optR (itemsR Γ x.2 s1) fun xs =>
      noExc ((compL (lks x ++ lk) g (fun s => .ok true s) (fun s => (ev (lks x ++ lk) it2 s).bind fun y s2 => optR (itemsR Γ y.2 s2) fun ys =>
        (compL (lks y ++ (lks x ++ lk)) g2 (fun s => .ok true s) (fun s => ev (lks y ++ (lks x ++ lk)) e s) ys [] s2).bind fun zs s3 => .ok (.fro, .lst zs) s3) xs [] s1).bind fun ys s2 =>
        okO (.lst (ys.flatMap fun y => match y with | .lst zs => zs | _ => [])) s2)
  | .dcomp u k v g it, s => (ev lk it s).bind fun x s1 => optR (itemsR Γ x.2 s1) fun xs =>
      noExc ((compL (lks x ++ lk) g (fun s => .ok true s) (fun s => (ev (lks x ++ lk) k s).bind fun a s2 => (ev (lks x ++ lk) v s2).bind fun b s3 =>
        if a.1.sto && b.1.sto && (if u then a.2.isKeyU else a.2.isKey) then .ok (.fro, .tup [a.2, b.2]) s3 else .no) xs [] s1).bind fun ys s2 =>
        let d := ys.foldl (fun d y => match y with | .tup [a, b] => T.put a b d | _ => d) []
        okO (if u then .dcu d else .dct d) s2)
  | .spread d as, s => (ev lk d s).bind fun x s1 => (evs (lks x ++ lk) as s1).bind fun vs s2 => match x.2, vs with
    | .dct kvs, [a, b] => if a.2.isKey && a.1.sto && b.1.sto then okO (.dct (T.put a.2 b.2 kvs)) s2 else .no
    | .dcu kvs, [a, b] => if a.2.isKeyU && a.1.sto && b.1.sto then okO (.dcu (T.put a.2 b.2 kvs)) s2 else .no
    | _, _ => .no
/-- several in a row, each behind the locks of those ahead -/
def evs (lk : List Pl) : List Ex → S → Res (List V)
  | [], s => .ok [] s
  | e :: es, s => (ev lk e s).bind fun v s1 => (evs (lks v ++ lk) es s1).bind fun vs s2 => .ok (v :: vs) s2
def evo (lk : List Pl) : Option Ex → S → Res (Option Int)
  | none, s => .ok none s
  | some e, s => (ev lk e s).bind fun v s1 => match v.2 with | .int i => .ok (some i) s1 | _ => .no
def evc (lk : List Pl) : Option Ex → S → Res Bool
  | none, s => .ok true s
  | some e, s => (ev lk e s).bind fun v s1 => optR (truth v.2) fun b => .ok b s1
end

inductive Fl where
  | nx | ret (v : V) | brk | cont

/-- a path read: its place is borrowed -/
def paE : Pa → Ex
  | .sl i => .var i true
  | .at o f => .att o f true
  | .ix o k => .sub o k true
/-- an unlocked place of a container -/
def plOk (lk : List Pl) (x : V) : Bool := match x.1 with
  | .bor (some pl) => !lk.contains pl && isCont x.2
  | _ => false
def plOf (x : V) : Pl := match x.1 with
  | .bor (some pl) => pl
  | _ => .sl 0

def forL (lk : List Pl) (g : Tg) (body : S → Res Fl) : List T → S → Res Fl
  | [], s => .ok .nx s
  | x :: xs, s => optR (bindTg lk g (.fro, x) s) fun s1 => (body s1).bind fun f s2 =>
    match f with
    | .nx => forL lk g body xs s2
    | .cont => forL lk g body xs s2
    | .brk => .ok .nx s2
    | .ret v => .ok (.ret v) s2
def whileL (test : S → Res Bool) (body : S → Res Fl) : Nat → S → Res Fl
  | 0, _ => .no
  | n + 1, s => (test s).bind fun b s1 => if b then (body s1).bind fun f s2 =>
      match f with
      | .nx => whileL test body n s2
      | .cont => whileL test body n s2
      | .brk => .ok .nx s2
      | .ret v => .ok (.ret v) s2
    else .ok .nx s1
/-- the fuel of a while -/
def whileMax : Nat := 1000000
def nxR (o : Option S) : Res Fl := optR o fun s => .ok .nx s
/-- p[k] = v where p is an owned place -/
def setPl (lk : List Pl) (pl : Pl) (y v : V) (s : S) : Res Fl :=
  match rdPl lk pl s with
  | some (.dct kvs) => if y.1.sto && y.2.isKey && kvs.length < szL then .ok .nx (wrPl pl (.dct (T.put y.2 v.2 kvs)) s) else .no
  | some (.dcu kvs) => if y.1.sto && y.2.isKeyU && kvs.length < szL then .ok .nx (wrPl pl (.dcu (T.put y.2 v.2 kvs)) s) else .no
  | some (.lst xs) => match y.2 with
    | .int i => optR (idx xs.length i) fun k => .ok .nx (wrPl pl (.lst (xs.set k v.2)) s)
    | _ => .no
  | _ => .no

mutual
def exec (lk : List Pl) : Sm → S → Res Fl
  | .set g e, s => (ev Γ C C' lk e s).bind fun v s1 => nxR (bindTg lk g v s1)
  | .setf o f e, s => (ev Γ C C' lk e s).bind fun v s1 => (ev Γ C C' lk o s1).bind fun x s2 => if !v.1.sto then .no else match x.2 with
    | .box n => match s2.hp[n]? with
      | some bx => match Γ.setr bx.cls f with
        | some g => (callR C' lk g [(.fro, .box n), parOf v] s2).bind fun _ s3 => .ok .nx s3
        | none => if bx.cls = 0 then .no else nxR (wrFld lk n f v s2)
      | none => .no
    | _ => .no
  | .seti p k e, s => (ev Γ C C' lk e s).bind fun v s1 => if !v.1.sto then .no else (ev Γ C C' lk (paE p) s1).bind fun x s2 => if plOk lk x then
      (ev Γ C C' (lks x ++ lk) k s2).bind fun y s3 => setPl lk (plOf x) y v s3 else .no
  | .setb i f e, s => (ev Γ C C' lk e s).bind fun v s1 => match s1.loc[i]? with
    | some (some (.fro, .box n)) => match s1.hp[n]? with
      | some bx => if bx.cls = 0 then nxR (wrFld lk n f v s1) else .no
      | none => .no
    | _ => .no
  | .app p e, s => (ev Γ C C' lk (paE p) s).bind fun x s1 => if plOk lk x then (match x.2 with
      | .lst _ => (ev Γ C C' (lks x ++ lk) e s1).bind fun v s2 => match rdPl lk (plOf x) s2 with
        | some (.lst xs) => if v.1.sto && xs.length < szL then .ok .nx (wrPl (plOf x) (.lst (xs ++ [v.2])) s2) else .no
        | _ => .no
      | _ => .no) else .no
  | .updt p e, s => (ev Γ C C' lk (paE p) s).bind fun x s1 => if plOk lk x then (ev Γ C C' (lks x ++ lk) e s1).bind fun v s2 => match rdPl lk (plOf x) s2, v.2 with
    | some (.dct kvs), .dct more => .ok .nx (wrPl (plOf x) (.dct (more.foldl (fun d q => T.put q.1 q.2 d) kvs)) s2)
    | some (.dcu kvs), .dcu more => .ok .nx (wrPl (plOf x) (.dcu (more.foldl (fun d q => T.put q.1 q.2 d) kvs)) s2)
    | _, _ => .no else .no
  | .clr p, s => (ev Γ C C' lk (paE p) s).bind fun x s1 => if plOk lk x then match rdPl lk (plOf x) s1 with
    | some (.dct _) => .ok .nx (wrPl (plOf x) (.dct []) s1)
    | _ => .no else .no
  | .popk p e, s => (ev Γ C C' lk (paE p) s).bind fun x s1 => if plOk lk x then (ev Γ C C' (lks x ++ lk) e s1).bind fun y s2 => match rdPl lk (plOf x) s2 with
    | some (.dct kvs) => if y.2.isKey && (y.2.look kvs).isSome then .ok .nx (wrPl (plOf x) (.dct (y.2.drop kvs)) s2) else .no
    | _ => .no else .no
  | .raf c as _ bs, s => (evs Γ C C' lk as s).bind fun vs s1 => (evs Γ C C' (locksOf vs ++ lk) bs s1).bind fun ws s2 => if stoAll vs && Γ.arity c == some vs.length then .exc c (vals vs) s2 else .no
  | .stuck, _ => .no
  | .pops i j, s => match rdPl lk (.sl j) s with
    | some (.lst xs) => optR xs.getLast? fun x => nxR (bindTg lk (.one i) (.fro, x) (wrPl (.sl j) (.lst xs.dropLast) s))
    | _ => .no
  | .popx j, s => match rdPl lk (.sl j) s with
    | some (.lst xs) => optR xs.getLast? fun _ => .ok .nx (wrPl (.sl j) (.lst xs.dropLast) s)
    | _ => .no
  | .popi j e, s => (ev Γ C C' lk e s).bind fun y s0 => match y.2, rdPl lk (.sl j) s0 with
    | .int i, some (.lst xs) => optR (idx xs.length i) fun k => .ok .nx (wrPl (.sl j) (.lst (xs.eraseIdx k)) s0)
    | _, _ => .no
  | .aug i e, s => match s.loc[i]? with
    | some (some (_, .int a)) => (ev Γ C C' lk e s).bind fun y s1 => match y.2 with
      | .int b => nxR (bindTg lk (.one i) (.fro, .int (a + b)) s1)
      | _ => .no
    | _ => .no
  | .exp e, s => (ev Γ C C' lk e s).bind fun _ s1 => .ok .nx s1
  | .ret e, s => (ev Γ C C' lk e s).bind fun v s1 => if v.1.sto then .ok (.ret v) s1 else .no
  | .ite c a b, s => (ev Γ C C' lk c s).bind fun v s1 => optR (truth v.2) fun t => if t then execs lk a s1 else execs lk b s1
  | .for_ g it b, s => (ev Γ C C' lk it s).bind fun x s1 => optR (itemsR Γ x.2 s1) fun xs =>
      forL (lks x ++ lk) g (fun s => execs (lks x ++ lk) b s) xs s1
  | .whl c b, s => whileL (fun s => (ev Γ C C' lk c s).bind fun v s1 => optR (truth v.2) fun t => .ok t s1) (fun s => execs lk b s) whileMax s
  | .rai c as, s => (evs Γ C C' lk as s).bind fun vs s1 => if stoAll vs && Γ.arity c == some vs.length then .exc c (vals vs) s1 else .no
  | .tr b h, s => match execs lk b s with
    | .exc d xs s1 => exh lk h d xs s1
    | r => r
  | .pass, s => .ok .nx s
  | .cont, s => .ok .cont s
  | .brk, s => .ok .brk s
def execs (lk : List Pl) : List Sm → S → Res Fl
  | [], s => .ok .nx s
  | c :: cs, s => (exec lk c s).bind fun f s1 => match f with
    | .nx => execs lk cs s1
    | f => .ok f s1
def exh (lk : List Pl) : Hd → Nat → List T → S → Res Fl
  | .nil, d, xs, s => .exc d xs s
  | .cons c x b r, d, xs, s => if Γ.sub d c then
      (match x with
       | some i => if lk.contains (.sl i) then .no else (noExc (execs lk b { s with loc := s.loc.set i (some (.xc, .exc d xs)) })).bind fun f s3 => .ok f (wipe (.one i) s3)
       | none => noExc (execs lk b s))
    else exh lk r d xs s
end
end

/-- a def, n calls deep -/
def callN (Γ : Gm) : Nat → CallF
  | 0 => fun _ _ _ _ => .no
  | 1 => fun _ _ _ _ => .no
  | n + 2 => fun f as hp lk =>
    match Γ.fn f with
    | some fd => (execs Γ (callN Γ (n + 1)) (callN Γ n) lk fd.body ⟨as.map some ++ List.replicate (fd.nl - as.length) none, hp⟩).bind fun r s =>
      match r with
      | .nx => .ok (.fro, .non) s
      | .ret v => .ok v s
      | _ => .no
    | none => .no
end Mi

/-! from the model's syntax to Mini -/
namespace Mi
open PySem

def enc (x : Str) : Nat := encL x.cps.toList
inductive GK where
  | fn (f : Nat) | cls (c : Nat) | const (t : T)
/-- what a def is compiled against -/
structure Cc where
  N : List Str
  glob : List (Str × GK)
  /-- class, method: the def's code, and whether it takes the class -/
  cm : List ((Nat × Nat) × (Nat × Bool))
  leaky : List Nat
  boxv : List Str
  /-- names whose dicts have tuples as keys -/
  tupd : List Str := []
  /-- names of caught exceptions -/
  exn : List Str := []

def nmCode (x : Str) : Nat :=
  if x == "__init__" then 0 else if x == "__and__" then 1 else if x == "__or__" then 2 else if x == "__contains__" then 3 else if x == "__le__" then 4
  else if x == "__getitem__" then 5 else if x == "__len__" then 6 else if x == "__iter__" then 7
  else if x == "row" then 1 else if x == "what" then 2 else if x == "why" then 3 else enc x
def slot? (D : Cc) (x : Str) : Option Nat := let i := D.N.idxOf x; if i < D.N.length then some i else none
def cNames : List Expr → Option (List Str)
  | [] => some []
  | .Name x _ :: r => (cNames r).map (x :: ·)
  | _ => none
def cTg (D : Cc) : Expr → Option Tg
  | .Name x _ => (slot? D x).map .one
  | .Tuple es _ _ => (cNames es).bind fun xs => (xs.mapM (slot? D)).map .many
  | _ => none
def cOp : Operator → Option Op
  | .Add => some .add | .Sub => some .sub | .Mult => some .mul | .FloorDiv => some .fdiv | .Mod => some .mod | .BitAnd => some .band | .BitOr => some .bor | _ => none
def cCo : CmpOp → Option Co
  | .Eq => some .eq | .NotEq => some .ne | .Lt => some .lt | .LtE => some .le | .Gt => some .gt | .GtE => some .ge | .In => some .isin | .NotIn => some .notin | _ => none
def cBi (x : Str) : Option Bi :=
  if x == "len" then some .len else if x == "range" then some .range else if x == "enumerate" then some .enum else if x == "any" then some .any else if x == "all" then some .all
  else if x == "list" then some .list else if x == "tuple" then some .tuple else if x == "int" then some .int else if x == "str" then some .str else none
def cTy (D : Cc) (x : Str) : Option Ty :=
  match D.glob.lookup x with
  | some (.cls c) => some (.cls c)
  | _ => if x == "bool" then some .bool else if x == "int" then some .int else if x == "str" then some .str else if x == "tuple" then some .tuple else if x == "list" then some .list
    else if x == "dict" then some .dict else if x == "ValueError" then some (.cls (enc x)) else none
def constT : Const → Option T
  | .none => some .non
  | .bool b => some (.bl b)
  | .int i => some (.int i)
  | .str x => some (.str (enc x))
  | _ => none
/-- keys that are written texts -/
def strKeys : List (Option Expr) → Option (List Nat)
  | [] => some []
  | some (.Constant (.str x) _ _) :: r => (strKeys r).map (enc x :: ·)
  | _ => none
def flat : List Ex → List Ex → List Ex
  | a :: as, b :: bs => a :: b :: flat as bs
  | _, _ => []

def compE (D : Cc) : Nat → Bool → Expr → Option Ex
  | 0, _, _ => none
  | n + 1, b, e =>
    let bo := compE D n true
    let al := compE D n false
    match e with
    | .Constant c _ _ => (constT c).map .cst
    | .Name x _ => match slot? D x with
      | some i => some (.var i b)
      | none => match D.glob.lookup x with
        | some (.const t) => some (.cst t)
        | _ => none
    | .List es _ => (es.mapM al).map .lst
    | .Tuple es _ _ => (es.mapM al).map .tup
    | .Dict ks vs _ => match ks, vs with
      | [some k], [v] => do
        let k' ← al k
        let v ← al v
        match k with
        | .Name x _ => if D.tupd.contains x then some (.spread .dcu [k', v]) else some (.dct [k', v])
        | _ => some (.dct [k', v])
      | [none, some k], [d, v] => do let d ← bo d; let k ← al k; let v ← al v; some (.spread d [k, v])
      | ks, vs => do
        let ks ← ks.mapM id
        let ks ← ks.mapM al
        let vs ← vs.mapM al
        some (.dct (flat ks vs))
    | .BinOp a .Pow c _ => match a, c with
      | .Constant (.int i) _ _, .Constant (.int j) _ _ => if 0 ≤ j ∧ j ≤ 1000 then some (.cst (.int (i ^ j.toNat))) else none
      | _, _ => none
    | .BinOp a o c _ => do let o ← cOp o; let a ← bo a; let c ← bo c; some (.bin o a c)
    | .UnaryOp .Not a _ => (bo a).map .not
    | .UnaryOp .USub (.Constant (.int i) _ _) _ => some (.cst (.int (-i)))
    | .BoolOp o vs _ => do
      let es ← vs.mapM (compE D n b)
      match es.reverse with
      | [] => none
      | l :: r => some (r.foldl (fun acc x => match o with | .And => .and x acc | .Or => .or x acc) l)
    | .Compare a [o] [c] _ => match o, c with
      | .Is, .Constant .none _ _ => do let a ← bo a; some (.cmp .isn a (.cst .non))
      | .IsNot, .Constant .none _ _ => do let a ← bo a; some (.cmp .notn a (.cst .non))
      | o, c => do let o ← cCo o; let a ← bo a; let c ← bo c; some (.cmp o a c)
    | .Attribute (.Name x p) f _ => if D.exn.contains x then (slot? D x).map fun i => .xf i (nmCode f) else do let v ← bo (.Name x p); some (.att v (nmCode f) b)
    | .Attribute v f _ => do let v ← bo v; some (.att v (nmCode f) b)
    | .Subscript v (.Slice none none (some (.UnaryOp .USub (.Constant (.int 1) _ _) _)) _) _ => (bo v).map .rev
    | .Subscript v (.Slice lo hi none _) _ => do
      let v ← bo v
      let lo ← match lo with | some e => (bo e).map some | none => some none
      let hi ← match hi with | some e => (bo e).map some | none => some none
      some (.slc v lo hi)
    | .Subscript v i _ => do let v ← bo v; let i ← bo i; some (.sub v i b)
    | .Call (.Name x _) as ks _ => match slot? D x with
      | some i => if ks.isEmpty then (as.mapM bo).map (.makev i) else none
      | none => match D.glob.lookup x with
        | some (.fn f) => if ks.isEmpty && f == enc "_law_same" && as.any (fun e => match e with
              | .Subscript (.Name w _) (.Constant (.str _) _ _) _ => D.boxv.contains w
              | _ => false) then do
            let as ← as.mapM bo
            some (.callc f as)
          else do
          let as ← as.mapM fun e => compE D n (!D.leaky.contains f && (match e with | .Name _ _ => true | _ => false)) e
          let kn ← ks.mapM fun k => k.arg.map nmCode
          let kv ← ks.mapM fun k => compE D n (!D.leaky.contains f) k.value
          some (.call f (as ++ kv) kn)
        | some (.cls c) => if ks.isEmpty then (as.mapM fun e => compE D n (match e with | .Name _ _ => true | _ => false) e).map (.make c) else none
        | some _ => none
        | none => if !ks.isEmpty then none else
          if x == "isinstance" then (match as with
            | [.Name y p, .Name t _] => do
              let t ← cTy D t
              if D.exn.contains y then (match t with | .cls c => (slot? D y).map fun i => .xi i c | _ => none) else do let e ← bo (.Name y p); some (.isi e t)
            | [e, .Name t _] => do let e ← bo e; let t ← cTy D t; some (.isi e t)
            | _ => none)
          else do let q ← cBi x; let as ← as.mapM bo; some (.bi q as)
    | .Call (.Attribute v m _) as ks _ =>
      let cls := match v with
        | .Name x _ => match slot? D x with
          | some _ => none
          | none => match D.glob.lookup x with | some (.cls c) => some c | _ => none
        | _ => none
      match cls with
      | some c => if !ks.isEmpty then none else match D.cm.lookup (c, nmCode m) with
        | some (f, true) => do let as ← as.mapM bo; some (.call f (.cst (.cls c) :: as) [])
        | some (f, false) => do let as ← as.mapM bo; some (.call f as [])
        | none => none
      | none =>
        if m == "get" && as.length == 2 then do let v ← bo v; let as ← as.mapM al; some (.get v as)
        else if m == "split" then (match as with | [.Constant (.str s) _ _] => if s == " " then (bo v).map .split else none | _ => none)
        else if m == "index" then (match as with | [k] => do let v ← bo v; let k ← bo k; some (.index v k) | _ => none)
        else if m == "append" || m == "pop" || m == "clear" || m == "update" then none
        else do
          let v ← bo v
          let lf := D.leaky.contains (nmCode m)
          let as ← as.mapM fun e => compE D n (!lf && (match e with | .Name _ _ => true | _ => false)) e
          let kn ← ks.mapM fun k => k.arg.map nmCode
          let kv ← ks.mapM fun k => compE D n (!lf) k.value
          some (.meth v (nmCode m) (as ++ kv) kn)
    | .ListComp elt [⟨t, it, ifs, _⟩] _ _ => do
      let e ← al elt
      let t ← cTg D t
      let it ← bo it
      let c ← match ifs with | [] => some none | [c] => (bo c).map some | _ => none
      some (.comp e t it c)
    | .ListComp elt [⟨t, it, [], _⟩, ⟨t2, it2, [], _⟩] _ _ => do
      let e ← al elt
      let t ← cTg D t
      let it ← bo it
      let t2 ← cTg D t2
      let it2 ← bo it2
      some (.comp2 e t it t2 it2)
    | .DictComp k v [⟨t', it, [], _⟩] _ _ => do
      let t := t'
      let k ← al k
      let v ← al v
      let t ← cTg D t
      let it ← bo it
      some (.dcomp (match t' with | .Name x _ => D.tupd.contains x | _ => false) k v t it)
    | _ => none

/-- {} under a name -/
def compD (D : Cc) (n : Nat) (x : Str) (e : Expr) : Option Ex := match e with
  | .Dict [] [] _ => if D.tupd.contains x then some .dcu else some (.dct [])
  | .List [.Dict [] [] p] _ => if D.tupd.contains x then some (.lst [.dcu]) else compE D n false e
  | e => compE D n false e
def cPa (D : Cc) (n : Nat) : Expr → Option Pa
  | .Name x _ => (slot? D x).map .sl
  | .Attribute o f _ => (compE D n true o).map fun o => .at o (nmCode f)
  | .Subscript o k _ => do let o ← compE D n true o; let k ← compE D n true k; some (.ix o k)
  | _ => none
def cMv (D : Cc) (n : Nat) (e : Expr) : Option Ex :=
  match e with
  | .Name x _ => match slot? D x with
    | some i => some (.mv i)
    | none => compE D n false e
  | e => compE D n false e

def compS (D : Cc) (m : Nat) : Nat → Stmt → Option Sm
  | 0, _ => none
  | n + 1, st =>
    let cs := fun (l : List Stmt) => l.mapM (compS D m n)
    match st with
    | .Assign [.Name x _] (.Call (.Attribute (.Name y _) pp _) [] [] _) _ =>
      if pp == "pop" then do let i ← slot? D x; let j ← slot? D y; some (.pops i j)
      else match st with
        | .Assign [.Name x _] v _ => do let i ← slot? D x; let v ← compE D m false v; some (.set (.one i) v)
        | _ => none
    | .Assign [.Name x _] (.Dict ks vs p) _ => do
      let i ← slot? D x
      if D.boxv.contains x then do
        let kn ← strKeys ks
        let vs ← (ks.zip vs).mapM fun q => match q.1 with
          | some (.Constant (.str k) _ _) => compD D m k q.2
          | _ => compE D m false q.2
        some (.set (.one i) (.boxd kn vs))
      else do let v ← compD D m x (.Dict ks vs p); some (.set (.one i) v)
    | .Assign [.Name x _] (.List es p) _ => do let i ← slot? D x; let v ← compD D m x (.List es p); some (.set (.one i) v)
    | .Assign [.Attribute o f _] (.Dict [] [] p) _ => do let v ← compD D m f (.Dict [] [] p); let o ← compE D m true o; some (.setf o (nmCode f) v)
    | .Assign [.Subscript (.Name x _) (.Constant (.str k) kp kq) _] v _ => do
      let i ← slot? D x
      if D.boxv.contains x then do
        let v ← compD D m k v
        some (.setb i (enc k) v)
      else do
        let v ← compE D m false v
        let k ← compE D m false (.Constant (.str k) kp kq)
        some (.seti (.sl i) k v)
    | .Assign [.Subscript pp (.Constant (.str k) kp kq) _] (.Dict [] [] p) _ => do
      let v ← compD D m k (.Dict [] [] p)
      let pp ← cPa D m pp
      let k ← compE D m false (.Constant (.str k) kp kq)
      some (.seti pp k v)
    | .Assign [.Attribute o f _] v _ => do let v ← cMv D m v; let o ← compE D m true o; some (.setf o (nmCode f) v)
    | .Assign [.Subscript p k _] v _ => do let v ← compE D m false v; let p ← cPa D m p; let k ← compE D m false k; some (.seti p k v)
    | .Assign [t] v _ => do let t ← cTg D t; let v ← compE D m false v; some (.set t v)
    | .AugAssign (.Name x _) .Add e _ => do let i ← slot? D x; let e ← compE D m true e; some (.aug i e)
    | .Expr (.Call (.Attribute p mm _) as [] pos) _ =>
      if mm == "append" then (match as with | [e] => do let p ← cPa D m p; let e ← compE D m false e; some (.app p e) | _ => none)
      else if mm == "update" then (match as with | [e] => do let p ← cPa D m p; let e ← compE D m true e; some (.updt p e) | _ => none)
      else if mm == "clear" then (match as with | [] => do let p ← cPa D m p; some (.clr p) | _ => none)
      else if mm == "pop" then (match p, as with
        | .Name y _, [] => (slot? D y).map .popx
        | .Name y _, [e] => do let j ← slot? D y; let e ← compE D m true e; some (.popi j e)
        | p, [e] => do let p ← cPa D m p; let e ← compE D m true e; some (.popk p e)
        | _, _ => none)
      else match st with
        | .Expr e _ => (compE D m false e).map .exp
        | _ => none
    | .Expr e _ => (compE D m false e).map .exp
    | .Return none _ => some (.ret (.cst .non))
    | .Return (some e) _ => (cMv D m e).map .ret
    | .If c a b _ => do let c ← compE D m true c; let a ← cs a; let b ← cs b; some (.ite c a b)
    | .For t it b [] _ => do let t ← cTg D t; let it ← compE D m true it; let b ← cs b; some (.for_ t it b)
    | .While c b [] _ => do let c ← compE D m true c; let b ← cs b; some (.whl c b)
    | .Raise (some (.Call (.Name x _) as [] _)) (some (.Call (.Name y _) bs [] _)) _ => match D.glob.lookup x, D.glob.lookup y with
      | some (.cls c), some (.cls d) => do
        let as ← as.mapM (compE D m false)
        let bs ← bs.mapM (compE D m false)
        some (.raf c as d bs)
      | _, _ => none
    | .Raise (some (.Call (.Name x _) as [] _)) none _ => match D.glob.lookup x with
      | some (.cls c) => (as.mapM (compE D m false)).map (.rai c)
      | _ => none
    | .Try b hs [] [] _ => do
      let b ← cs b
      let hs ← hs.mapM fun h => match h with
        | .ExceptHandler (some (.Name x _)) nm body _ => match D.glob.lookup x with
          | some (.cls c) => do
            let i ← match nm with | some y => (slot? D y).map some | none => some none
            let body ← cs body
            some (c, i, body)
          | _ => none
        | _ => none
      some (.tr b (hs.foldr (fun p r => .cons p.1 p.2.1 p.2.2 r) .nil))
    | .Pass _ => some .pass
    | .Continue _ => some .cont
    | .Break _ => some .brk
    | _ => none

/-! names of a def: parameters, locals, those of its comprehensions -/
def addNew (l : List Str) (xs : List Str) : List Str := xs.foldl (fun l x => if l.contains x then l else l ++ [x]) l
def locs (sc : Scope) : List Str := sc.names.filterMap fun p => if p.1 == (".0" : Str) then none else match p.2 with | .local => some p.1 | .cell => some p.1 | _ => none
def namesE : Nat → Expr → List Str
  | 0, _ => []
  | n + 1, e =>
    let go := namesE n
    let gos := fun (l : List Expr) => l.flatMap go
    let gen := fun (gs : List Comprehension) => gs.flatMap fun g => go g.iter ++ gos g.ifs
    match e with
    | .List es _ => gos es
    | .Tuple es _ _ => gos es
    | .Dict ks vs _ => (ks.flatMap fun k => match k with | some k => go k | none => []) ++ gos vs
    | .BinOp a _ c _ => go a ++ go c
    | .UnaryOp _ a _ => go a
    | .BoolOp _ vs _ => gos vs
    | .Compare a _ cs _ => go a ++ gos cs
    | .Attribute v _ _ => go v
    | .Subscript v i _ => go v ++ go i
    | .Slice a b c _ => (match a with | some e => go e | none => []) ++ (match b with | some e => go e | none => []) ++ (match c with | some e => go e | none => [])
    | .Call f as ks _ => go f ++ gos as ++ ks.flatMap fun k => go k.value
    | .ListComp elt gs sc _ => locs sc ++ go elt ++ gen gs
    | .DictComp k v gs sc _ => locs sc ++ go k ++ go v ++ gen gs
    | _ => []
def namesS : Nat → Stmt → List Str
  | 0, _ => []
  | n + 1, st =>
    let ge := namesE 60
    let gs := fun (l : List Stmt) => l.flatMap (namesS n)
    match st with
    | .Assign ts v _ => ts.flatMap ge ++ ge v
    | .AugAssign _ _ e _ => ge e
    | .Expr e _ => ge e
    | .Return (some e) _ => ge e
    | .If c a b _ => ge c ++ gs a ++ gs b
    | .For t it b o _ => ge it ++ gs b ++ gs o
    | .While c b o _ => ge c ++ gs b ++ gs o
    | .Raise (some e) _ _ => ge e
    | .Try b hs o f _ => gs b ++ (hs.flatMap fun h => match h with | .ExceptHandler _ _ body _ => gs body) ++ gs o ++ gs f
    | _ => []
/-- names bound by handlers -/
def namesH : Nat → Stmt → List Str
  | 0, _ => []
  | n + 1, st =>
    let gs := fun (l : List Stmt) => l.flatMap (namesH n)
    match st with
    | .If _ a b _ => gs a ++ gs b
    | .For _ _ b o _ => gs b ++ gs o
    | .While _ b o _ => gs b ++ gs o
    | .Try b hs o f _ => gs b ++ (hs.flatMap fun h => match h with | .ExceptHandler _ nm body _ => (match nm with | some y => [y] | none => []) ++ gs body) ++ gs o ++ gs f
    | _ => []
def params (a : Arguments) : List Str := a.args.map (·.arg) ++ (match a.vararg with | some v => [v.arg] | none => []) ++ a.kwonlyargs.map (·.arg)
def slots (a : Arguments) (body : List Stmt) (sc : Scope) : List Str := addNew (addNew (params a) (locs sc)) (body.flatMap (namesS 30))

def dflt : Expr → Option T
  | .Constant c _ _ => constT c
  | .Tuple [] _ _ => some (.tup [])
  | _ => none
def compFn (D : Cc) (st : Stmt) : Option Fn :=
  match st with
  | .FunctionDef _ a body _ _ _ sc _ _ _ => do
    let N := slots a body sc
    let nd ← a.defaults.mapM dflt
    let kd ← a.kw_defaults.mapM fun d => match d with | none => some none | some e => (dflt e).map some
    let body ← body.mapM (compS { D with N := N, exn := body.flatMap (namesH 30) } 60 30)
    some { ps := a.args.map fun p => nmCode p.arg, nd := nd, star := a.vararg.isSome, kw := (a.kwonlyargs.map fun p => nmCode p.arg).zip kd, nl := N.length, body := body }
  | _ => none

/-! the whole text -/
structure Tab where
  fns : List (Nat × Fn) := []
  meths : List ((Nat × Nat) × Nat) := []
  props : List ((Nat × Nat) × Nat) := []
  setrs : List ((Nat × Nat) × Nat) := []
  iters : List (Nat × Nat) := []
  subs : List (Nat × List Nat) := []
  ars : List (Nat × Nat) := []
deriving Inhabited

def Tab.gm (t : Tab) : Gm where
  fn f := t.fns.lookup f
  meth c m := t.meths.lookup (c, m)
  prop c m := t.props.lookup (c, m)
  setr c m := t.setrs.lookup (c, m)
  iterf c := t.iters.lookup c
  sub d c := match t.subs.lookup d with | some l => l.contains c | none => false
  arity c := t.ars.lookup c

def constE : Nat → Expr → Option T
  | 0, _ => none
  | n + 1, e => match e with
    | .Constant c _ _ => constT c
    | .Tuple es _ _ => (es.mapM (constE n)).map .tup
    | _ => none
def qual (c m : Str) : Nat := enc (c ++ ("." : Str) ++ m)
def decoName : Expr → Str
  | .Name x _ => x
  | .Attribute _ f _ => f
  | _ => ""
/-- the classes: name, bases, body -/
def classesOf (b : List Stmt) : List (Str × List Str × List Stmt) := b.filterMap fun s => match s with
  | .ClassDef nm bs _ body _ _ _ _ _ _ _ => some (nm, bs.filterMap (fun e => match e with | .Name x _ => some x | _ => none), body)
  | _ => none
def mroOf (cl : List (Str × List Str × List Stmt)) : Nat → Str → List Str
  | 0, _ => []
  | n + 1, c => match cl.lookup c with
    | some (bs, _) => c :: bs.flatMap (mroOf cl n)
    | none => [c]
def isExc (cl : List (Str × List Str × List Stmt)) (c : Str) : Bool := (mroOf cl 6 c).contains "ValueError"

def compTab (p : PySem.Program) (leaky : List Str) (boxv : List Str) (tupd : List Str) : Except Str Tab := Id.run do
  let b := p.main.body
  let cl := classesOf b
  let mut glob : List (Str × GK) := []
  for s in b do
    match s with
    | .FunctionDef nm .. => glob := glob ++ [(nm, .fn (enc nm))]
    | .ClassDef nm .. => glob := glob ++ [(nm, .cls (enc nm))]
    | .Assign [.Name x _] v _ => match constE 6 v with
      | some t => if x != "__name__" then glob := glob ++ [(x, .const t)]
      | none => pure ()
    | _ => pure ()
  let mut t : Tab := {}
  let mut cm : List ((Nat × Nat) × (Nat × Bool)) := []
  for (c, _, _) in cl do
    for d in mroOf cl 6 c do
      match cl.lookup d with
      | some (_, body) =>
        for s in body do
          match s with
          | .FunctionDef nm _ _ deco _ _ _ _ _ _ =>
            let q := qual d nm
            let dn := deco.map decoName
            let key := (enc c, nmCode nm)
            if isExc cl c then
              if nm == "__init__" && (t.ars.lookup (enc c)).isNone then
                match s with
                | .FunctionDef _ a _ _ _ _ _ _ _ _ => t := { t with ars := t.ars ++ [(enc c, a.args.length - 1)] }
                | _ => pure ()
            else if dn.contains "property" then
              if (t.props.lookup key).isNone then t := { t with props := t.props ++ [(key, q)] }
            else if dn.contains "setter" then
              if (t.setrs.lookup key).isNone then t := { t with setrs := t.setrs ++ [(key, enc (d ++ ("." : Str) ++ nm ++ (".setter" : Str)))] }
            else
              if (cm.lookup key).isNone then
                if !dn.contains "classmethod" && !dn.contains "staticmethod" then t := { t with meths := t.meths ++ [(key, q)] }
                cm := cm ++ [(key, (q, dn.contains "classmethod"))]
              if nm == "__iter__" then
                match s with
                | .FunctionDef _ _ [.Return (some (.Call _ [.Attribute _ f _] _ _)) _] _ _ _ _ _ _ _ => t := { t with iters := t.iters ++ [(enc c, nmCode f)] }
                | _ => pure ()
          | _ => pure ()
      | none => pure ()
    if isExc cl c then t := { t with subs := t.subs ++ [(enc c, (mroOf cl 6 c).map enc)] }
  let D : Cc := { N := [], glob := glob, cm := cm, leaky := leaky.map enc, boxv := boxv, tupd := tupd }
  for s in b do
    match s with
    | .FunctionDef nm .. =>
      match compFn D s with
      | some f => t := { t with fns := t.fns ++ [(enc nm, f)] }
      | none => return .error nm
    | .ClassDef c _ _ body .. =>
      if isExc cl c then pure () else
      for s in body do
        match s with
        | .FunctionDef nm _ _ deco .. =>
          if nm == "__iter__" then pure () else
          match compFn D s with
          | some f => t := { t with fns := t.fns ++ [(if (deco.map decoName).contains "setter" then enc (c ++ ("." : Str) ++ nm ++ (".setter" : Str)) else qual c nm, f)] }
          | none => return .error (c ++ ("." : Str) ++ nm)
        | _ => pure ()
    | _ => pure ()
  return .ok t

def decS (n : Nat) : String := String.ofList ((dec n).map Char.ofNat)
def runLaw (t : Tab) (script : List Int) : Res V := callN t.gm 60 (enc "law") [(.fro, .lst (script.map .int))] [] []
def told (r : Res V) : String := match r with
  | .ok (_, .bl true) _ => "True"
  | .ok (_, .bl false) _ => "False"
  | .ok _ _ => "other"
  | .exc c _ _ => "exc " ++ decS c
  | .no => "NO"
end Mi

/-! the relation between Mini's states and the hand layer's -/
namespace Mi
open PySem PySem.Spec PyProof.Rows L2

/-- who owns what stands at an address -/
inductive Ow where
  | fz | ext | tmp | lkd (p : Pl) | pl (p : Pl) | bx (n : Nat) | cm (d : Addr)
deriving DecidableEq

structure Gh where
  ow : Addr → Option Ow
  m : List Addr

/-- the classes; the exception that is handled: its slot, its object -/
structure AP where
  A : Nat → Option Addr
  E : Nat → Option Addr
  xp : Option (Nat × Addr × Obj) := none
instance : CoeFun AP fun _ => Nat → Option Addr := ⟨AP.A⟩
/-- what is fixed of the program -/
structure Gx where
  P : PySem.Program
  w : World
  K : PySem.W.Frag
  mg : Str → Option Value
  base : Heap
  A : AP

def StrOk (x : Str) (n : Nat) : Prop := enc x = n ∧ (∀ c ∈ x.cps.toList, c < 255) ∧ x.length ≤ 390
def Ow.soft : Ow → Bool
  | .fz => true
  | .ext => true
  | .lkd _ => true
  | _ => false
def At (H : Hp) (o : Ow) (a : Addr) (u : HO) : Prop := if o.soft = true then Rd H a u else H a = some u
/-- a tuple that never changes: of the run, or of the module -/
def TupAt (K : PySem.W.Frag) (g : Gh) (H : Hp) (a : Addr) (vs : List L2.V) (ku : Bool) : Prop :=
  (g.ow a = some .fz ∧ H a = some (.tup vs)) ∨ ku = false ∧
    ∃ (o : Obj) (its : Array Value) (n : Nat), K.lookup a = some o ∧ o.cls = .type "tuple" ∧ o.data = .seq its n ∧ its.size ≤ sizeLine ∧ Vals vs its.toList

/-- a list of the module (the script may be one) -/
def LstK (K : PySem.W.Frag) (a : Addr) (vs : List L2.V) : Prop :=
  ∃ (o : Obj) (its : Array Value) (n : Nat), K.lookup a = some o ∧ o.cls = .type "list" ∧ o.dict = none ∧ o.data = .seq its n ∧ its.size ≤ sizeLine ∧ Vals vs its.toList

/-- a key of a dict: an int or a text -/
def KeyR : T → L2.Key → Prop
  | .int i, .inl j => i = j
  | .str n, .inr x => StrOk x n
  | _, _ => False
def KeyRs : List T → List L2.Key → Prop
  | [], [] => True
  | t :: ts, k :: ks => KeyR t k ∧ KeyRs ts ks
  | _, _ => False
/-- a key that is a tuple -/
def KeyU : T → List L2.Key → Prop
  | .tup ts, ks => KeyRs ts ks
  | _, _ => False
mutual
inductive Rep (X : Gx) (g : Gh) (H : Hp) : Ow → T → L2.V → Prop where
  | non {o} : Rep X g H o .non .non
  | bl {o b} : Rep X g H o (.bl b) (.bl b)
  | int {o i} : Rep X g H o (.int i) (.int i)
  | str {o n x} (h : StrOk x n) : Rep X g H o (.str n) (.str x)
  | tup {o ts a vs} (h : TupAt X.K g H a vs (T.isKeyU (.tup ts))) (r : Reps X g H ts vs) : Rep X g H o (.tup ts) (.ref a)
  | lst {o ts a vs} (w : g.ow a = some o) (h : At H o a (.lst vs)) (z : ts.length ≤ szL) (r : Reps X g H ts vs) : Rep X g H o (.lst ts) (.ref a)
  | lstK {ts a vs} (h : LstK X.K a vs) (z : ts.length ≤ szL) (r : Reps X g H ts vs) : Rep X g H .fz (.lst ts) (.ref a)
  | dct {o kvs a dvs} (w : g.ow a = some o) (h : At H o a (.dK dvs)) (z : kvs.length ≤ szL) (r : KReps X g H kvs dvs) : Rep X g H o (.dct kvs) (.ref a)
  | dcu {o kvs a dvs} (w : g.ow a = some o) (h : At H o a (.dT dvs)) (z : kvs.length ≤ szL) (r : TReps X g H kvs dvs) : Rep X g H o (.dcu kvs) (.ref a)
  | box {o n a} (h : g.m[n]? = some a) : Rep X g H o (.box n) (.ref a)
  | cls {o c a} (h : X.A c = some a) : Rep X g H o (.cls c) (.ref a)
inductive Reps (X : Gx) (g : Gh) (H : Hp) : List T → List L2.V → Prop where
  | nil : Reps X g H [] []
  | cons {t v ts vs} (h : Rep X g H .fz t v) (r : Reps X g H ts vs) : Reps X g H (t :: ts) (v :: vs)
inductive KReps (X : Gx) (g : Gh) (H : Hp) : List (T × T) → List (L2.Key × L2.V) → Prop where
  | nil : KReps X g H [] []
  | cons {k t kk v kvs dvs} (e : KeyR k kk) (nk : ∀ q ∈ dvs, q.1 ≠ kk) (h : Rep X g H .fz t v) (r : KReps X g H kvs dvs) : KReps X g H ((k, t) :: kvs) ((kk, v) :: dvs)
inductive TReps (X : Gx) (g : Gh) (H : Hp) : List (T × T) → List (List L2.Key × L2.V) → Prop where
  | nil : TReps X g H [] []
  | cons {k t kk v b kvs dvs} (e : KeyU k kk) (ku : k.isKeyU = true) (kb : g.ow b = some .fz ∧ H b = some (.tup (kk.map kV))) (nk : ∀ q ∈ dvs, q.1 ≠ kk) (h : Rep X g H .fz t v) (r : TReps X g H kvs dvs) : TReps X g H ((k, t) :: kvs) ((kk, v) :: dvs)
end

/-- what stays: the owners of a kind and what stands there -/
def Holds (o : Ow) (g : Gh) (H : Hp) (g' : Gh) (H' : Hp) : Prop := ∀ a, g.ow a = some o → g'.ow a = some o ∧ H' a = H a
def MPre (g g' : Gh) : Prop := ∀ (n : Nat) (a : Addr), g.m[n]? = some a → g'.m[n]? = some a
theorem TupAt.tr {K : PySem.W.Frag} {g g' : Gh} {H H' : Hp} {a : Addr} {vs : List L2.V} {ku : Bool} (f : Holds .fz g H g' H') (h : TupAt K g H a vs ku) : TupAt K g' H' a vs ku := by
  rcases h with ⟨h1, h2⟩ | h
  · exact .inl ⟨(f a h1).1, (f a h1).2.trans h2⟩
  · exact .inr h
theorem At.tr {o : Ow} {H H' : Hp} {a : Addr} {u : HO} (e : H' a = H a) (h : At H o a u) : At H' o a u := by
  unfold At at h ⊢
  split
  · rename_i q
    rw [if_pos q] at h
    unfold Rd at h ⊢
    rw [e]; exact h
  · rename_i q
    rw [if_neg q] at h
    rw [e]; exact h
mutual
theorem Rep.tr {X : Gx} {g g' : Gh} {H H' : Hp} (f : Holds .fz g H g' H') (p : MPre g g') : ∀ {o : Ow} {t : T} {v : L2.V}, Holds o g H g' H' → Rep X g H o t v → Rep X g' H' o t v
  | _, _, _, _, .non => .non
  | _, _, _, _, .bl => .bl
  | _, _, _, _, .int => .int
  | _, _, _, _, .str h => .str h
  | _, _, _, _, .tup h r => .tup (h.tr f) (Reps.tr f p r)
  | _, _, _, k, .lst w h z r => .lst (k _ w).1 (h.tr (k _ w).2) z (Reps.tr f p r)
  | _, _, _, _, .lstK h z r => .lstK h z (Reps.tr f p r)
  | _, _, _, k, .dct w h z r => .dct (k _ w).1 (h.tr (k _ w).2) z (KReps.tr f p r)
  | _, _, _, k, .dcu w h z r => .dcu (k _ w).1 (h.tr (k _ w).2) z (TReps.tr f p r)
  | _, _, _, _, .box h => .box (p _ _ h)
  | _, _, _, _, .cls h => .cls h
theorem Reps.tr {X : Gx} {g g' : Gh} {H H' : Hp} (f : Holds .fz g H g' H') (p : MPre g g') : ∀ {ts : List T} {vs : List L2.V}, Reps X g H ts vs → Reps X g' H' ts vs
  | _, _, .nil => .nil
  | _, _, .cons h r => .cons (Rep.tr f p f h) (Reps.tr f p r)
theorem KReps.tr {X : Gx} {g g' : Gh} {H H' : Hp} (f : Holds .fz g H g' H') (p : MPre g g') : ∀ {ts : List (T × T)} {vs : List (L2.Key × L2.V)}, KReps X g H ts vs → KReps X g' H' ts vs
  | _, _, .nil => .nil
  | _, _, .cons e nk h r => .cons e nk (Rep.tr f p f h) (KReps.tr f p r)
theorem TReps.tr {X : Gx} {g g' : Gh} {H H' : Hp} (f : Holds .fz g H g' H') (p : MPre g g') : ∀ {ts : List (T × T)} {vs : List (List L2.Key × L2.V)}, TReps X g H ts vs → TReps X g' H' ts vs
  | _, _, .nil => .nil
  | _, _, .cons e ku kb nk h r => .cons e ku ⟨(f _ kb.1).1, (f _ kb.1).2.trans kb.2⟩ nk (Rep.tr f p f h) (TReps.tr f p r)
end
theorem Reps.length {X : Gx} {g : Gh} {H : Hp} : ∀ {ts : List T} {vs : List L2.V}, Reps X g H ts vs → ts.length = vs.length
  | _, _, .nil => rfl
  | _, _, .cons _ r => congrArg (· + 1) r.length
theorem Reps.get {X : Gx} {g : Gh} {H : Hp} : ∀ {ts : List T} {vs : List L2.V} {i : Nat} {t : T}, Reps X g H ts vs → ts[i]? = some t → ∃ v, vs[i]? = some v ∧ Rep X g H .fz t v
  | _, _, _, _, .nil, e => by simp at e
  | _, _, 0, _, .cons h _, e => by simp at e; subst e; exact ⟨_, rfl, h⟩
  | _, _, i + 1, t, .cons _ r, e => by
    obtain ⟨v, h1, h2⟩ := r.get (i := i) (t := t) (by simpa using e)
    exact ⟨v, by simpa using h1, h2⟩
theorem Reps.append {X : Gx} {g : Gh} {H : Hp} : ∀ {ts us : List T} {vs ws : List L2.V}, Reps X g H ts vs → Reps X g H us ws → Reps X g H (ts ++ us) (vs ++ ws)
  | _, _, _, _, .nil, s => s
  | _, _, _, _, .cons h r, s => .cons h (r.append s)
theorem Reps.take {X : Gx} {g : Gh} {H : Hp} : ∀ {ts : List T} {vs : List L2.V} (n : Nat), Reps X g H ts vs → Reps X g H (ts.take n) (vs.take n)
  | _, _, 0, _ => .nil
  | _, _, _ + 1, .nil => .nil
  | _, _, n + 1, .cons h r => .cons h (Reps.take n r)
theorem Reps.drop {X : Gx} {g : Gh} {H : Hp} : ∀ {ts : List T} {vs : List L2.V} (n : Nat), Reps X g H ts vs → Reps X g H (ts.drop n) (vs.drop n)
  | _, _, 0, r => r
  | _, _, _ + 1, .nil => .nil
  | _, _, n + 1, .cons _ r => Reps.drop n r

/-- not a container: the owner does not matter -/
theorem Rep.free {X : Gx} {g : Gh} {H : Hp} {o o' : Ow} {t : T} {v : L2.V} (h : Rep X g H o t v) (c : isCont t = false) : Rep X g H o' t v := by
  cases h with
  | non => exact .non
  | bl => exact .bl
  | int => exact .int
  | str h => exact .str h
  | tup h r => exact .tup h r
  | lst _ _ _ _ => cases c
  | lstK _ _ _ => cases c
  | dct _ _ _ _ => cases c
  | dcu _ _ _ _ => cases c
  | box h => exact .box h
  | cls h => exact .cls h

/-- the owner's mark of a place -/
def plO (lk : List Pl) (p : Pl) : Ow := if lk.contains p then .lkd p else .pl p
def slO (lk : List Pl) (i : Nat) : Mo → Ow
  | .own => plO lk (.sl i)
  | .fro => .fz
  | .bor => .ext
  | .xc => .fz
def fdO (lk : List Pl) (n f : Nat) (b : Bool) : Ow := if b then plO lk (.fd n f) else .fz

inductive FR (X : Gx) (g : Gh) (H : Hp) (lk : List Pl) (n : Nat) : List (Nat × Bool × T) → List (Str × L2.V) → Prop where
  | nil : FR X g H lk n [] []
  | cons {f b t x v fs vs} (e : StrOk x f) (nf : ∀ q ∈ fs, q.1 ≠ f) (h : Rep X g H (fdO lk n f b) t v) (r : FR X g H lk n fs vs) : FR X g H lk n ((f, b, t) :: fs) ((x, v) :: vs)
/-- what stands at a box: an instance, or a dict whose keys are texts (class 0) -/
def BoxH (X : Gx) (c : Nat) (H : Hp) (a : Addr) (fs : List (Str × L2.V)) : Prop :=
  if c = 0 then H a = some (.dK (fs.map fun q => (.inr q.1, q.2))) else ∃ C dx, X.A c = some C ∧ H a = some (.ins C dx fs)
theorem BoxH.tr {X : Gx} {c : Nat} {H H' : Hp} {a : Addr} {fs : List (Str × L2.V)} (h : BoxH X c H a fs) (e : H' a = H a) : BoxH X c H' a fs := by
  unfold BoxH at h ⊢
  rw [e]; exact h
def BoxR (X : Gx) (g : Gh) (H : Hp) (lk : List Pl) (n : Nat) (b : Bx) (a : Addr) : Prop :=
  ∃ fs, BoxH X b.cls H a fs ∧ FR X g H lk n b.fs fs
def excNames : List Str := ["row", "what", "why"]
def ExcR (G : Gx) (g : Gh) (H : Hp) (c : Nat) (xs : List T) (cls : Value) (d : Option Addr) : Prop :=
  ∃ C da fs, G.A.E c = some C ∧ cls = .ref C ∧ d = some da ∧ H da = some (.xd fs) ∧ g.ow da = some .fz ∧
    ∀ (i : Nat) (t : T), xs[i]? = some t → ∃ n v, excNames[i]? = some n ∧ fs.lookup n = some v ∧ Rep G g H .fz t v
/-- a slot that holds the exception that is handled -/
def XcR (X : Gx) (g : Gh) (H : Hp) (σ : L2.St) (i : Nat) (t : T) : Prop :=
  ∃ c xs a oe, t = .exc c xs ∧ X.A.xp = some (i, a, oe) ∧ σ[i]? = some (some (.ref a)) ∧ ExcR X g H c xs oe.cls oe.dict
theorem ExcR.tr {G : Gx} {g g' : Gh} {H H' : Hp} {c : Nat} {xs : List T} {cls : Value} {d : Option Addr} (h : ExcR G g H c xs cls d) (f : Holds .fz g H g' H') (p : MPre g g') : ExcR G g' H' c xs cls d := by
  obtain ⟨C, da, fs, h1, h2, h3, h4, h5, h6⟩ := h
  refine ⟨C, da, fs, h1, h2, h3, (f _ h5).2.trans h4, (f _ h5).1, fun i t hi => ?_⟩
  obtain ⟨n, v, z1, z2, z3⟩ := h6 i t hi
  exact ⟨n, v, z1, z2, z3.tr f p f⟩
theorem XcR.tr {X : Gx} {g g' : Gh} {H H' : Hp} {σ σ' : L2.St} {i : Nat} {t : T} (h : XcR X g H σ i t) (f : Holds .fz g H g' H') (p : MPre g g') (e : σ'[i]? = σ[i]?) : XcR X g' H' σ' i t := by
  obtain ⟨c, xs, a, oe, h1, h2, h3, h4⟩ := h
  exact ⟨c, xs, a, oe, h1, h2, e.trans h3, h4.tr f p⟩

structure R (X : Gx) (g : Gh) (lk : List Pl) (s : S) (σ : L2.St) (H : Hp) : Prop where
  dom : ∀ a o, g.ow a = some o → H a ≠ none
  ln : s.loc.length = σ.length
  sl : ∀ i mo t, s.loc[i]? = some (some (mo, t)) → mo ≠ .xc → ∃ v, σ[i]? = some (some v) ∧ Rep X g H (slO lk i mo) t v
  ml : g.m.length = s.hp.length
  bx : ∀ n b a, s.hp[n]? = some b → g.m[n]? = some a → g.ow a = some (.bx n) ∧ BoxR X g H lk n b a
  uq : ∀ p a a', (g.ow a = some (.pl p) ∨ g.ow a = some (.lkd p)) → (g.ow a' = some (.pl p) ∨ g.ow a' = some (.lkd p)) → a = a'
  li : ∀ a p, g.ow a = some (.lkd p) → lk.contains p = true
  xl : ∀ i t, s.loc[i]? = some (some (.xc, t)) → XcR X g H σ i t
  tq : ∀ a o vs, g.ow a = some o → H a = some (.tup vs) → o = .fz

/-- what an expression leaves as it was -/
structure Keep (g : Gh) (H : Hp) (g' : Gh) (H' : Hp) : Prop where
  fz : Holds .fz g H g' H'
  ext : Holds .ext g H g' H'
  lkd : ∀ p, Holds (.lkd p) g H g' H'
  cm : ∀ d, g.ow d = some (.cm d) → g'.ow d = some (.cm d) ∧ H' d = H d
  m : MPre g g'
theorem Keep.refl {g : Gh} {H : Hp} : Keep g H g H := ⟨fun _ h => ⟨h, rfl⟩, fun _ h => ⟨h, rfl⟩, fun _ _ h => ⟨h, rfl⟩, fun _ h => ⟨h, rfl⟩, fun _ _ h => h⟩
theorem Holds.trans {o : Ow} {g1 g2 g3 : Gh} {H1 H2 H3 : Hp} (a : Holds o g1 H1 g2 H2) (b : Holds o g2 H2 g3 H3) : Holds o g1 H1 g3 H3 := fun x h =>
  ⟨(b x (a x h).1).1, (b x (a x h).1).2.trans (a x h).2⟩
theorem Keep.trans {g1 g2 g3 : Gh} {H1 H2 H3 : Hp} (a : Keep g1 H1 g2 H2) (b : Keep g2 H2 g3 H3) : Keep g1 H1 g3 H3 :=
  ⟨a.fz.trans b.fz, a.ext.trans b.ext, fun p => (a.lkd p).trans (b.lkd p), fun d h => ⟨(b.cm d (a.cm d h).1).1, (b.cm d (a.cm d h).1).2.trans (a.cm d h).2⟩, fun n x h => b.m n x (a.m n x h)⟩

def mdO (lk : List Pl) : Md → Ow
  | .own => .tmp
  | .fro => .fz
  | .bor (some p) => plO lk p
  | .bor none => .ext

/-! other marks -/
def Gh.retag (g : Gh) (ρ : Ow → Ow) : Gh := ⟨fun a => (g.ow a).map ρ, g.m⟩
theorem At.soft {o o' : Ow} {H : Hp} {a : Addr} {u : HO} (h : At H o a u) (k : o.soft = true → o'.soft = true) : At H o' a u := by
  unfold At at h ⊢
  split at h
  · rename_i q
    rw [if_pos (k q)]; exact h
  · split
    · exact .inl h
    · exact h
theorem TupAt.retag {K : PySem.W.Frag} {g : Gh} {H : Hp} {a : Addr} {vs : List L2.V} {ku : Bool} {ρ : Ow → Ow} (f : ρ .fz = .fz) (h : TupAt K g H a vs ku) : TupAt K (g.retag ρ) H a vs ku := by
  rcases h with ⟨h1, h2⟩ | h
  · exact .inl ⟨by show (g.ow a).map ρ = _; rw [h1]; exact congrArg some f, h2⟩
  · exact .inr h
mutual
theorem Rep.retag {X : Gx} {g : Gh} {H : Hp} {ρ : Ow → Ow} (f : ρ .fz = .fz) : ∀ {o : Ow} {t : T} {v : L2.V}, (∀ a u, g.ow a = some o → At H o a u → At H (ρ o) a u) → Rep X g H o t v → Rep X (g.retag ρ) H (ρ o) t v
  | _, _, _, _, .non => .non
  | _, _, _, _, .bl => .bl
  | _, _, _, _, .int => .int
  | _, _, _, _, .str h => .str h
  | _, _, _, _, .tup h r => .tup (h.retag f) (Reps.retag f r)
  | _, _, _, k, .lst w h z r => .lst (by show (g.ow _).map ρ = _; rw [w]; rfl) (k _ _ w h) z (Reps.retag f r)
  | _, _, _, _, .lstK h z r => by rw [f]; exact .lstK h z (Reps.retag f r)
  | _, _, _, k, .dct w h z r => .dct (by show (g.ow _).map ρ = _; rw [w]; rfl) (k _ _ w h) z (KReps.retag f r)
  | _, _, _, k, .dcu w h z r => .dcu (by show (g.ow _).map ρ = _; rw [w]; rfl) (k _ _ w h) z (TReps.retag f r)
  | _, _, _, _, .box h => .box h
  | _, _, _, _, .cls h => .cls h
theorem Reps.retag {X : Gx} {g : Gh} {H : Hp} {ρ : Ow → Ow} (f : ρ .fz = .fz) : ∀ {ts : List T} {vs : List L2.V}, Reps X g H ts vs → Reps X (g.retag ρ) H ts vs
  | _, _, .nil => .nil
  | _, _, .cons h r => .cons (by
      have q := Rep.retag (ρ := ρ) f (fun _ _ _ z => by rw [f]; exact z) h
      rw [f] at q; exact q) (Reps.retag f r)
theorem KReps.retag {X : Gx} {g : Gh} {H : Hp} {ρ : Ow → Ow} (f : ρ .fz = .fz) : ∀ {ts : List (T × T)} {vs : List (L2.Key × L2.V)}, KReps X g H ts vs → KReps X (g.retag ρ) H ts vs
  | _, _, .nil => .nil
  | _, _, .cons e nk h r => .cons e nk (by
      have q := Rep.retag (ρ := ρ) f (fun _ _ _ z => by rw [f]; exact z) h
      rw [f] at q; exact q) (KReps.retag f r)
theorem TReps.retag {X : Gx} {g : Gh} {H : Hp} {ρ : Ow → Ow} (f : ρ .fz = .fz) : ∀ {ts : List (T × T)} {vs : List (List L2.Key × L2.V)}, TReps X g H ts vs → TReps X (g.retag ρ) H ts vs
  | _, _, .nil => .nil
  | _, _, .cons e ku kb nk h r => .cons e ku ⟨by show (g.ow _).map ρ = _; rw [kb.1]; exact congrArg some f, kb.2⟩ nk (by
      have q := Rep.retag (ρ := ρ) f (fun _ _ _ z => by rw [f]; exact z) h
      rw [f] at q; exact q) (TReps.retag f r)
end
theorem Rep.retagS {X : Gx} {g : Gh} {H : Hp} {ρ : Ow → Ow} (f : ρ .fz = .fz) {o o' : Ow} {t : T} {v : L2.V} (e : ρ o = o') (k : o.soft = true → o'.soft = true) (h : Rep X g H o t v) : Rep X (g.retag ρ) H o' t v := by
  subst e
  exact Rep.retag f (fun _ _ _ z => z.soft k) h
theorem FR.retag {X : Gx} {g : Gh} {H : Hp} {ρ : Ow → Ow} {lk lk' : List Pl} {n : Nat} (f : ρ .fz = .fz) (k : ∀ m b t v, Rep X g H (fdO lk n m b) t v → Rep X (g.retag ρ) H (fdO lk' n m b) t v) :
    ∀ {fs : List (Nat × Bool × T)} {vs : List (Str × L2.V)}, FR X g H lk n fs vs → FR X (g.retag ρ) H lk' n fs vs
  | _, _, .nil => .nil
  | _, _, .cons e nf h r => .cons e nf (k _ _ _ _ h) (FR.retag f k r)
theorem BoxR.retag {X : Gx} {g : Gh} {H : Hp} {ρ : Ow → Ow} {lk lk' : List Pl} {n : Nat} {b : Bx} {a : Addr} (f : ρ .fz = .fz) (k : ∀ m b t v, Rep X g H (fdO lk n m b) t v → Rep X (g.retag ρ) H (fdO lk' n m b) t v)
    (h : BoxR X g H lk n b a) : BoxR X (g.retag ρ) H lk' n b a := by
  obtain ⟨fs, h1, h3⟩ := h
  exact ⟨fs, h1, h3.retag f k⟩
/-- marks that R does not look at -/
theorem R.retag {X : Gx} {g : Gh} {lk lk' : List Pl} {s : S} {σ : L2.St} {H : Hp} {ρ : Ow → Ow} (r : R X g lk s σ H) (f : ρ .fz = .fz) (e : ρ .ext = .ext) (b : ∀ n, ρ (.bx n) = .bx n)
    (k : ∀ p t v, Rep X g H (plO lk p) t v → Rep X (g.retag ρ) H (plO lk' p) t v)
    (u : ∀ p o, (ρ o = .pl p ∨ ρ o = .lkd p) → o = .pl p ∨ o = .lkd p) (li : ∀ o p, (∀ q, o = .lkd q → lk.contains q = true) → ρ o = .lkd p → lk'.contains p = true) : R X (g.retag ρ) lk' s σ H := by
  have kf : ∀ t v, Rep X g H .fz t v → Rep X (g.retag ρ) H .fz t v := fun t v h => h.retagS f f id
  have ke : ∀ t v, Rep X g H .ext t v → Rep X (g.retag ρ) H .ext t v := fun t v h => h.retagS f e id
  refine ⟨fun a o h => ?_, r.ln, fun i mo t h hm => ?_, r.ml, fun n bx a h1 h2 => ?_, fun p a a' h1 h2 => ?_, fun a p h => ?_, fun i t h => (r.xl i t h).tr (fun a h => ⟨by show (g.ow a).map ρ = _; rw [h]; exact congrArg some f, rfl⟩) (fun _ _ h => h) rfl, fun a o vs h hH => by
    cases q : g.ow a with
    | none => rw [show (g.retag ρ).ow a = (g.ow a).map ρ from rfl, q] at h; cases h
    | some o' =>
      rw [show (g.retag ρ).ow a = (g.ow a).map ρ from rfl, q] at h
      rw [r.tq a o' vs q hH, show Option.map ρ (some .fz) = some (ρ .fz) from rfl, f] at h
      exact (Option.some.inj h).symm⟩
  · cases q : g.ow a with
    | none => rw [show (g.retag ρ).ow a = (g.ow a).map ρ from rfl, q] at h; cases h
    | some o' => exact r.dom a o' q
  · obtain ⟨v, h1, h2⟩ := r.sl i mo t h hm
    refine ⟨v, h1, ?_⟩
    cases mo with
    | own => exact k _ _ _ h2
    | fro => exact kf _ _ h2
    | bor => exact ke _ _ h2
    | xc => exact absurd rfl hm
  · obtain ⟨h3, h4⟩ := r.bx n bx a h1 h2
    refine ⟨by show (g.ow a).map ρ = _; rw [h3]; exact congrArg some (b n), h4.retag f fun m c t v h => ?_⟩
    cases c with
    | true => exact k _ _ _ h
    | false => exact kf _ _ h
  · have q : ∀ x, ((g.retag ρ).ow x = some (.pl p) ∨ (g.retag ρ).ow x = some (.lkd p)) → g.ow x = some (.pl p) ∨ g.ow x = some (.lkd p) := fun x hx => by
      cases z : g.ow x with
      | none => rw [show (g.retag ρ).ow x = (g.ow x).map ρ from rfl, z] at hx; rcases hx with hx | hx <;> cases hx
      | some o =>
        rw [show (g.retag ρ).ow x = (g.ow x).map ρ from rfl, z] at hx
        have := u p o (by rcases hx with hx | hx; exact .inl (Option.some.inj hx); exact .inr (Option.some.inj hx))
        rcases this with rfl | rfl; exact .inl rfl; exact .inr rfl
    exact r.uq p a a' (q a h1) (q a' h2)
  · cases z : g.ow a with
    | none => rw [show (g.retag ρ).ow a = (g.ow a).map ρ from rfl, z] at h; cases h
    | some o =>
      rw [show (g.retag ρ).ow a = (g.ow a).map ρ from rfl, z] at h
      exact li o p (fun q e => r.li a q (by rw [z, e])) (Option.some.inj h)
theorem keep_retag {g : Gh} {H : Hp} {ρ : Ow → Ow} (f : ρ .fz = .fz) (e : ρ .ext = .ext) (l : ∀ p, ρ (.lkd p) = .lkd p) (c : ∀ d, ρ (.cm d) = .cm d) : Keep g H (g.retag ρ) H :=
  ⟨fun a h => ⟨by show (g.ow a).map ρ = _; rw [h]; exact congrArg some f, rfl⟩, fun a h => ⟨by show (g.ow a).map ρ = _; rw [h]; exact congrArg some e, rfl⟩,
   fun p a h => ⟨by show (g.ow a).map ρ = _; rw [h]; exact congrArg some (l p), rfl⟩, fun d h => ⟨by show (g.ow d).map ρ = _; rw [h]; exact congrArg some (c d), rfl⟩, fun _ _ h => h⟩

/-- a new thing is frozen -/
def tmpFz : Ow → Ow | .tmp => .fz | o => o
theorem plO_ne {lk : List Pl} {p : Pl} {o : Ow} (h : o = .tmp ∨ o = .fz ∨ o = .ext) : plO lk p ≠ o := by
  unfold plO; split <;> (rcases h with rfl | rfl | rfl <;> (intro z; cases z))
theorem tmpFz_pl (lk : List Pl) (p : Pl) : tmpFz (plO lk p) = plO lk p := by unfold plO; split <;> rfl
theorem R.freeze {X : Gx} {g : Gh} {lk : List Pl} {s : S} {σ : L2.St} {H : Hp} (r : R X g lk s σ H) : R X (g.retag tmpFz) lk s σ H :=
  r.retag rfl rfl (fun _ => rfl) (fun p t v h => h.retagS rfl (tmpFz_pl lk p) id) (fun p o h => by cases o <;> first | exact h | (rcases h with h | h <;> cases h)) (fun o p k e => by cases o <;> first | exact k _ e | cases e)
theorem keep_freeze {g : Gh} {H : Hp} : Keep g H (g.retag tmpFz) H := keep_retag rfl rfl (fun _ => rfl) fun _ => rfl
theorem Rep.freeze {X : Gx} {g : Gh} {H : Hp} {t : T} {v : L2.V} (h : Rep X g H .tmp t v) : Rep X (g.retag tmpFz) H .fz t v := h.retagS rfl rfl (fun z => by cases z)
theorem Rep.freeze' {X : Gx} {g : Gh} {H : Hp} {o : Ow} {t : T} {v : L2.V} (h : Rep X g H o t v) (e : tmpFz o = o) : Rep X (g.retag tmpFz) H o t v := h.retagS rfl e id
theorem Reps.freeze {X : Gx} {g : Gh} {H : Hp} {t : List T} {v : List L2.V} (h : Reps X g H t v) : Reps X (g.retag tmpFz) H t v := h.retag rfl

/-! locks -/
theorem contains_cons (p q : Pl) (lk : List Pl) : (p :: lk).contains q = (decide (q = p) || lk.contains q) := by
  simp [List.contains_cons]
def lockO (p : Pl) : Ow → Ow | .pl q => if q = p then .lkd q else .pl q | o => o
def unlockO (p : Pl) : Ow → Ow | .lkd q => if q = p then .pl q else .lkd q | o => o
theorem plO_in {lk : List Pl} {p : Pl} (h : lk.contains p = true) : plO lk p = .lkd p := if_pos h
theorem plO_out {lk : List Pl} {p : Pl} (h : lk.contains p = false) : plO lk p = .pl p := if_neg (by rw [h]; decide)
theorem R.congr {X : Gx} {g : Gh} {lk lk' : List Pl} {s : S} {σ : L2.St} {H : Hp} (r : R X g lk s σ H) (h : ∀ p, lk.contains p = lk'.contains p) : R X g lk' s σ H := by
  have e : plO lk' = plO lk := by funext p; unfold plO; rw [h]
  have e2 : slO lk' = slO lk := by funext i mo; cases mo <;> first | rfl | exact congrFun e _
  have e3 : fdO lk' = fdO lk := by funext n f b; unfold fdO; rw [e]
  have fr : ∀ {n fs vs}, FR X g H lk n fs vs → FR X g H lk' n fs vs := by
    intro n fs vs q
    induction q with
    | nil => exact .nil
    | cons e0 nf h0 _ ih => exact .cons e0 nf (by rw [e3]; exact h0) ih
  refine ⟨r.dom, r.ln, fun i mo t q hm => by rw [e2]; exact r.sl i mo t q hm, r.ml, fun n b a q1 q2 => ?_, r.uq, fun a p q => by rw [← h]; exact r.li a p q, r.xl, r.tq⟩
  obtain ⟨z1, z2⟩ := r.bx n b a q1 q2
  refine ⟨z1, ?_⟩
  obtain ⟨fs, h1, h3⟩ := z2
  exact ⟨fs, h1, fr h3⟩
theorem R.lock {X : Gx} {g : Gh} {lk : List Pl} {s : S} {σ : L2.St} {H : Hp} {p : Pl} (r : R X g lk s σ H) (hp : lk.contains p = false) : R X (g.retag (lockO p)) (p :: lk) s σ H := by
  refine r.retag rfl rfl (fun _ => rfl) (fun q t v h => ?_) (fun q o h => ?_) (fun o q k e => ?_)
  · by_cases e : q = p
    · subst e
      rw [plO_out hp] at h
      rw [plO_in (by rw [contains_cons]; simp)]
      exact h.retagS (o := .pl q) (o' := .lkd q) rfl (show (if q = q then Ow.lkd q else Ow.pl q) = _ from if_pos rfl) (fun z => by cases z)
    · have hc : (p :: lk).contains q = lk.contains q := by rw [contains_cons]; simp [e]
      have e1 : plO (p :: lk) q = plO lk q := by unfold plO; rw [hc]
      rw [e1]
      refine h.retagS rfl ?_ id
      unfold plO
      split
      · rfl
      · exact if_neg e
  · cases o with
    | pl q' =>
      left
      by_cases e : q' = p
      · rw [show lockO p (.pl q') = .lkd q' from if_pos e] at h
        rcases h with h | h <;> cases h; rfl
      · rw [show lockO p (.pl q') = .pl q' from if_neg e] at h
        rcases h with h | h <;> cases h; rfl
    | lkd q' => exact h
    | fz => rcases h with h | h <;> cases h
    | ext => rcases h with h | h <;> cases h
    | tmp => rcases h with h | h <;> cases h
    | bx n => rcases h with h | h <;> cases h
    | cm d => rcases h with h | h <;> cases h
  · rw [contains_cons]
    cases o with
    | pl q' =>
      by_cases z : q' = p
      · rw [show lockO p (.pl q') = .lkd q' from if_pos z] at e
        cases e; subst z; simp
      · rw [show lockO p (.pl q') = .pl q' from if_neg z] at e
        cases e
    | lkd q' => cases e; rw [k q rfl, Bool.or_true]
    | _ => cases e
theorem keep_lock {g : Gh} {H : Hp} {p : Pl} : Keep g H (g.retag (lockO p)) H := keep_retag rfl rfl (fun _ => rfl) fun _ => rfl
/-- what stands hard at the place -/
def HO.hard : HO → Prop
  | .frz _ _ => False
  | _ => True
theorem R.unlock {X : Gx} {g : Gh} {lk : List Pl} {s : S} {σ : L2.St} {H : Hp} {p : Pl} {a : Addr} {u : HO} (r : R X g (p :: lk) s σ H) (hp : lk.contains p = false) (ha : g.ow a = some (.lkd p)) (hu : H a = some u) (hh : HO.hard u) :
    R X (g.retag (unlockO p)) lk s σ H := by
  refine r.retag rfl rfl (fun _ => rfl) (fun q t v h => ?_) (fun q o h => ?_) (fun o q k e => ?_)
  · by_cases e : q = p
    · subst e
      rw [plO_out hp]
      rw [plO_in (by rw [contains_cons]; simp)] at h
      have := Rep.retag (ρ := unlockO q) rfl (fun a' u' w z => ?_) h
      · rw [show unlockO q (.lkd q) = .pl q from if_pos rfl] at this; exact this
      · have ea : a' = a := r.uq q a' a (.inr w) (.inr ha)
        subst ea
        rw [show unlockO q (.lkd q) = .pl q from if_pos rfl]
        have z' : Rd H a' u' := z
        show H a' = some u'
        rcases z' with z | ⟨o, z⟩
        · exact z
        · rw [hu] at z; cases z; exact hh.elim
    · have hc : (p :: lk).contains q = lk.contains q := by rw [contains_cons]; simp [e]
      have e1 : plO (p :: lk) q = plO lk q := by unfold plO; rw [hc]
      rw [e1] at h
      refine h.retagS rfl ?_ id
      unfold plO
      split
      · exact if_neg e
      · rfl
  · cases o with
    | lkd q' =>
      right
      by_cases e : q' = p
      · rw [show unlockO p (.lkd q') = .pl q' from if_pos e] at h
        rcases h with h | h <;> cases h; rfl
      · rw [show unlockO p (.lkd q') = .lkd q' from if_neg e] at h
        rcases h with h | h <;> cases h; rfl
    | pl q' => exact h
    | fz => rcases h with h | h <;> cases h
    | ext => rcases h with h | h <;> cases h
    | tmp => rcases h with h | h <;> cases h
    | bx n => rcases h with h | h <;> cases h
    | cm d => rcases h with h | h <;> cases h
  · cases o with
    | lkd q' =>
      by_cases z : q' = p
      · rw [show unlockO p (.lkd q') = .pl q' from if_pos z] at e
        cases e
      · rw [show unlockO p (.lkd q') = .lkd q' from if_neg z] at e
        cases e
        have := k q rfl
        rw [contains_cons] at this
        simpa [z] using this
    | _ => cases e
end Mi

/-! soundness: what Mini's evaluator says, the hand layer's judgements say -/
namespace Mi
open PySem PySem.Spec PyProof.Rows L2

def gxOf (X : Cx) (A : AP) : Gx := ⟨X.prog, X.w, X.K, X.mg, X.base, A⟩


/-- the mark of a pending value -/
def pO (lk : List Pl) : Md → Ow
  | .own => .fz
  | .fro => .fz
  | .bor (some p) => plO lk p
  | .bor none => .ext

section
variable (G : Gx) (W : WX)
/-- what is wanted behind an evaluation that began at g, H -/
def Post (lk : List Pl) (g : Gh) (σ : L2.St) (H : Hp) (r : Res V) (Q : VK) : Prop :=
  match r with
  | .ok v s' => ∀ g' H' x, R G g' lk s' σ H' → Keep g H g' H' → Rep G g' H' (mdO lk v.1) v.2 x → Q x H'
  | .exc c xs s' => ∀ g' H' cls d, R G g' lk s' σ H' → Keep g H g' H' → ExcR G g' H' c xs cls d → W cls d σ H'
  | .no => False
/-- .. of the same for what does not yield a value -/
def PostX {α : Type} (lk : List Pl) (g : Gh) (σ : L2.St) (H : Hp) (r : Res α) (K : α → S → Gh → Hp → Prop) : Prop :=
  match r with
  | .ok v s' => ∀ g' H', R G g' lk s' σ H' → Keep g H g' H' → K v s' g' H'
  | .exc c xs s' => ∀ g' H' cls d, R G g' lk s' σ H' → Keep g H g' H' → ExcR G g' H' c xs cls d → W cls d σ H'
  | .no => False
def RepL (g : Gh) (H : Hp) (lk : List Pl) : List V → List L2.V → Prop := Paired fun v x => Rep G g H (pO lk v.1) v.2 x
def PostL (lk : List Pl) (g : Gh) (σ : L2.St) (H : Hp) (r : Res (List V)) (Q : List L2.V → Hp → Prop) : Prop :=
  match r with
  | .ok vs s' => ∀ g' H' xs, R G g' lk s' σ H' → Keep g H g' H' → RepL G g' H' lk vs xs → Q xs H'
  | .exc c xs s' => ∀ g' H' cls d, R G g' lk s' σ H' → Keep g H g' H' → ExcR G g' H' c xs cls d → W cls d σ H'
  | .no => False

variable (Γ : Gm) (C C' : CallF)
def tE (c : Ex) : TE := fun σ H Q => ∃ lk g s, R G g lk s σ H ∧ Post G W lk g σ H (ev Γ C C' lk c s) Q
def tEs (cs : List Ex) : TA := fun σ H Q => ∃ lk g s, R G g lk s σ H ∧ PostL G W lk g σ H (evs Γ C C' lk cs s) Q
/-- a test -/
def tT (c : Ex) : TT := fun σ H Q => ∃ lk g s, R G g lk s σ H ∧
  PostX G W lk g σ H ((ev Γ C C' lk c s).bind fun v s1 => optR (truth v.2) fun b => .ok b s1) fun b _ _ H' => Q b H'
end

section
variable {G : Gx} {W : WX} {Γ : Gm} {C C' : CallF} {g g1 g2 : Gh} {H H1 H2 : Hp} {σ : L2.St} {s s1 s2 : S} {lk lk' : List Pl}

theorem Post.keep {r : Res V} {Q : VK} (k : Keep g H g1 H1) (h : Post G W lk g σ H r Q) : Post G W lk g1 σ H1 r Q := by
  cases r with
  | ok v s' => exact fun g' H' x r' k' => h g' H' x r' (k.trans k')
  | exc c xs s' => exact fun g' H' cls d r' k' => h g' H' cls d r' (k.trans k')
  | no => exact h
theorem Post.mono {r : Res V} {Q Q' : VK} (h : Post G W lk g σ H r Q) (m : ∀ x H, Q x H → Q' x H) : Post G W lk g σ H r Q' := by
  cases r with
  | ok v s' => exact fun g' H' x r' k' q => m _ _ (h g' H' x r' k' q)
  | exc c xs s' => exact h
  | no => exact h

theorem isCont_lst {xs : List T} : isCont (.lst xs) = true := rfl
theorem Rep.own {o : Ow} {t : T} {v : L2.V} {lk : List Pl} (h : Rep G g H o t v) (c : isCont t = false) : Rep G g H .fz t v := h.free c
theorem fmd_cont {t : T} {m : Md} (h : isCont t = true) : fmd t m = m := if_pos h
theorem fmd_free {t : T} {m : Md} (h : isCont t = false) : fmd t m = .fro := by unfold fmd; rw [h]; rfl

/-- where a place's owner stands -/
theorem Rep.addr {o : Ow} {t : T} {v : L2.V} (h : Rep G g H o t v) (c : isCont t = true) (ne : o ≠ .fz) : ∃ a u, v = .ref a ∧ g.ow a = some o ∧ At H o a u ∧ HO.hard u := by
  cases h with
  | lst w h z r => exact ⟨_, _, rfl, w, h, trivial⟩
  | lstK => exact absurd rfl ne
  | dct w h z r => exact ⟨_, _, rfl, w, h, trivial⟩
  | dcu w h z r => exact ⟨_, _, rfl, w, h, trivial⟩
  | _ => cases c

/-- a value waits while more is evaluated: its place is locked, a new thing is frozen; behind it all is as before -/
theorem pend {v : V} {x : L2.V} (r : R G g lk s σ H) (h : Rep G g H (mdO lk v.1) v.2 x) :
    ∃ g', R G g' (lks v ++ lk) s σ H ∧ Keep g H g' H ∧ (∃ o, o.soft = true ∧ Rep G g' H o v.2 x) ∧
      ∀ g2 H2 s2 σ2, R G g2 (lks v ++ lk) s2 σ2 H2 → Keep g' H g2 H2 → ∃ g3, R G g3 lk s2 σ2 H2 ∧ Keep g H g3 H2 ∧ Rep G g3 H2 (pO lk v.1) v.2 x ∧
        (∀ m t y, Rep G g2 H2 (mdO (lks v ++ lk) m) t y → Rep G g3 H2 (mdO lk m) t y) ∧ (∀ m t y, Rep G g2 H2 (pO (lks v ++ lk) m) t y → Rep G g3 H2 (pO lk m) t y) ∧ (∀ a, g2.ow a = some .fz → g3.ow a = some .fz) := by
  obtain ⟨md, t⟩ := v
  by_cases hct : isCont t = true
  case neg =>
    have hct : isCont t = false := by simpa using hct
    have e0 : lks (md, t) = [] := by unfold lks; rw [if_neg (by rw [hct]; decide)]
    rw [e0]
    refine ⟨g, r, Keep.refl, ⟨.fz, rfl, h.free hct⟩, fun g2 H2 s2 σ2 r2 k => ⟨g2, r2, k, ?_, fun _ _ _ z => z, fun _ _ _ z => z, fun _ z => z⟩⟩
    have h0 : Rep G g H .fz t x := h.free hct
    exact (h0.tr k.fz k.m k.fz).free hct
  have e0 : lks (md, t) = md.locks := if_pos hct
  rw [e0]
  cases md with
  | own =>
    refine ⟨g.retag tmpFz, r.freeze, keep_freeze, ⟨.fz, rfl, Rep.freeze h⟩, fun g2 H2 s2 σ2 r2 k => ⟨g2, r2, keep_freeze.trans k, ?_, fun _ _ _ z => z, fun _ _ _ z => z, fun _ z => z⟩⟩
    exact (Rep.freeze h).tr k.fz k.m k.fz
  | fro => exact ⟨g, r, Keep.refl, ⟨.fz, rfl, h⟩, fun g2 H2 s2 σ2 r2 k => ⟨g2, r2, k, h.tr k.fz k.m k.fz, fun _ _ _ z => z, fun _ _ _ z => z, fun _ z => z⟩⟩
  | bor op =>
    cases op with
    | none => exact ⟨g, r, Keep.refl, ⟨.ext, rfl, h⟩, fun g2 H2 s2 σ2 r2 k => ⟨g2, r2, k, h.tr k.fz k.m k.ext, fun _ _ _ z => z, fun _ _ _ z => z, fun _ z => z⟩⟩
    | some p =>
      cases hc : lk.contains p with
      | true =>
        have e : ∀ q, lk.contains q = (p :: lk).contains q := fun q => by
          rw [contains_cons]
          by_cases z : q = p
          · subst z; rw [hc]; simp
          · simp [z]
        have e1 : plO (p :: lk) = plO lk := by funext q; unfold plO; rw [← e]
        have em : mdO (p :: lk) = mdO lk := by funext m; unfold mdO; rw [e1]
        have ep : pO (p :: lk) = pO lk := by funext m; unfold pO; rw [e1]
        refine ⟨g, r.congr e, Keep.refl, ⟨.lkd p, rfl, by rw [← plO_in hc]; exact h⟩, fun g2 H2 s2 σ2 r2 k => ⟨g2, r2.congr fun q => (e q).symm, k, ?_, ?_, ?_, fun _ z => z⟩⟩
        · have h' : Rep G g H (.lkd p) t x := by rw [← plO_in hc]; exact h
          show Rep G g2 H2 (plO lk p) t x
          rw [plO_in hc]
          exact h'.tr k.fz k.m (k.lkd p)
        · intro m t y z
          rw [← em]; exact z
        · intro m t y z
          rw [← ep]; exact z
      | false =>
        have h' : Rep G g H (.pl p) t x := by rw [← plO_out hc]; exact h
        obtain ⟨a, u, ex, ha, hu, hh⟩ := h'.addr hct (fun z => by cases z)
        have hu' : H a = some u := hu
        refine ⟨g.retag (lockO p), r.lock hc, keep_lock, ⟨.lkd p, rfl, h'.retagS (o := .pl p) (o' := .lkd p) rfl (show (if p = p then Ow.lkd p else Ow.pl p) = _ from if_pos rfl) (fun z => by cases z)⟩, fun g2 H2 s2 σ2 r2 k => ?_⟩
        have ha1 : (g.retag (lockO p)).ow a = some (.lkd p) := by
          show (g.ow a).map (lockO p) = _
          rw [ha]; exact congrArg some (if_pos rfl)
        obtain ⟨ha2, eH⟩ := k.lkd p a ha1
        have hu2 : H2 a = some u := eH.trans hu'
        have r3 := r2.unlock hc ha2 hu2 hh
        have f : unlockO p .fz = .fz := rfl
        have kk : Keep g H (g2.retag (unlockO p)) H2 := by
          have k1 := keep_lock (g := g) (H := H) (p := p) |>.trans k
          refine ⟨fun b hb => ?_, fun b hb => ?_, fun q b hb => ?_, fun b hb => ?_, k1.m⟩
          · have := k1.fz b hb
            exact ⟨by show (g2.ow b).map _ = _; rw [this.1]; rfl, this.2⟩
          · have := k1.ext b hb
            exact ⟨by show (g2.ow b).map _ = _; rw [this.1]; rfl, this.2⟩
          · have := k1.lkd q b hb
            have hq : q ≠ p := fun z => by
              have := r.li b q hb
              rw [z, hc] at this; cases this
            exact ⟨by show (g2.ow b).map _ = _; rw [this.1]; exact congrArg some (if_neg hq), this.2⟩
          · have := k1.cm b hb
            exact ⟨by show (g2.ow b).map _ = _; rw [this.1]; rfl, this.2⟩
        have hard : ∀ b w, g2.ow b = some (.lkd p) → At H2 (.lkd p) b w → At H2 (unlockO p (.lkd p)) b w := fun b w hb z => by
          have eb : b = a := r2.uq p b a (.inr hb) (.inr ha2)
          subst eb
          rw [show unlockO p (.lkd p) = .pl p from if_pos rfl]
          have z' : Rd H2 b w := z
          show H2 b = some w
          rcases z' with z | ⟨o, z⟩
          · exact z
          · rw [hu2] at z; cases z; exact hh.elim
        have pl : ∀ q t y, Rep G g2 H2 (plO (p :: lk) q) t y → Rep G (g2.retag (unlockO p)) H2 (plO lk q) t y := fun q t y z => by
          by_cases e : q = p
          · subst e
            rw [plO_in (by rw [contains_cons]; simp)] at z
            rw [plO_out hc, ← show unlockO q (.lkd q) = .pl q from if_pos rfl]
            exact Rep.retag f hard z
          · have hcc : (p :: lk).contains q = lk.contains q := by rw [contains_cons]; simp [e]
            have e1 : plO (p :: lk) q = plO lk q := by unfold plO; rw [hcc]
            rw [e1] at z
            refine z.retagS f ?_ id
            unfold plO
            split
            · exact if_neg e
            · rfl
        refine ⟨g2.retag (unlockO p), r3, kk, ?_, fun m t y z => ?_, fun m t y z => ?_, fun a z => by show (g2.ow a).map _ = _; rw [z]; rfl⟩
        · have h1 : Rep G (g.retag (lockO p)) H (.lkd p) t x := h'.retagS (o := .pl p) (o' := .lkd p) rfl (show (if p = p then Ow.lkd p else Ow.pl p) = _ from if_pos rfl) (fun z => by cases z)
          have h2 : Rep G g2 H2 (plO (p :: lk) p) t x := by
            rw [plO_in (by rw [contains_cons]; simp)]
            exact h1.tr k.fz k.m (k.lkd p)
          exact pl p _ _ h2
        · cases m with
          | own => exact z.retagS (o := .tmp) f rfl id
          | fro => exact z.retagS (o := .fz) f rfl id
          | bor oq =>
            cases oq with
            | none => exact z.retagS (o := .ext) f rfl id
            | some q => exact pl q _ _ z
        · cases m with
          | own => exact z.retagS (o := .fz) f rfl id
          | fro => exact z.retagS (o := .fz) f rfl id
          | bor oq =>
            cases oq with
            | none => exact z.retagS (o := .ext) f rfl id
            | some q => exact pl q _ _ z
end
end Mi

/-! soundness: slots, expressions -/
namespace Mi
open PySem PySem.Spec PyProof.Rows L2

section
variable {X : Gx} {g g' : Gh} {H H' : Hp} {lk lk' : List Pl} {s : S} {σ : L2.St}

def FzTo (g : Gh) (H : Hp) (g' : Gh) (H' : Hp) : Prop := Holds .fz g H g' H'
mutual
theorem Rep.go (f : Holds .fz g H g' H') (p : MPre g g') : ∀ {o o' : Ow} {t : T} {v : L2.V}, (∀ a u, g.ow a = some o → At H o a u → HO.hard u → g'.ow a = some o' ∧ At H' o' a u) → (o = .fz → o' = .fz) → Rep X g H o t v → Rep X g' H' o' t v
  | _, _, _, _, _, _, .non => .non
  | _, _, _, _, _, _, .bl => .bl
  | _, _, _, _, _, _, .int => .int
  | _, _, _, _, _, _, .str h => .str h
  | _, _, _, _, _, _, .tup h r => .tup (h.tr f) (Reps.tr f p r)
  | _, _, _, _, _, c, .lstK h z r => by rw [c rfl]; exact .lstK h z (Reps.tr f p r)
  | _, _, _, _, k, _, .lst w h z r => .lst (k _ _ w h trivial).1 (k _ _ w h trivial).2 z (Reps.tr f p r)
  | _, _, _, _, k, _, .dct w h z r => .dct (k _ _ w h trivial).1 (k _ _ w h trivial).2 z (KReps.tr f p r)
  | _, _, _, _, k, _, .dcu w h z r => .dcu (k _ _ w h trivial).1 (k _ _ w h trivial).2 z (TReps.tr f p r)
  | _, _, _, _, _, _, .box h => .box (p _ _ h)
  | _, _, _, _, _, _, .cls h => .cls h
end
theorem FR.go {n : Nat} (k0 : ∀ t v, Rep X g H .fz t v → Rep X g' H' .fz t v) {fs : List (Nat × Bool × T)} {vs : List (Str × L2.V)} (h : FR X g H lk n fs vs)
    (k : ∀ f t v, (f, true, t) ∈ fs → Rep X g H (plO lk (.fd n f)) t v → Rep X g' H' (plO lk' (.fd n f)) t v) : FR X g' H' lk' n fs vs := by
  induction h with
  | nil => exact .nil
  | @cons f b t x v fs vs e nf h r ih =>
    refine .cons e nf ?_ (ih fun f t v m => k f t v (List.mem_cons_of_mem _ m))
    cases b with
    | true => exact k _ _ _ List.mem_cons_self h
    | false => exact k0 _ _ h
/-- a state seen with other marks -/
theorem R.go (r : R X g lk s σ H) (m : g'.m = g.m) (f : Holds .fz g H g' H') (e : Holds .ext g H g' H') (b : ∀ n, Holds (.bx n) g H g' H')
    (ks : ∀ i t v, s.loc[i]? = some (some (.own, t)) → σ[i]? = some (some v) → Rep X g H (plO lk (.sl i)) t v → Rep X g' H' (plO lk' (.sl i)) t v)
    (kf : ∀ n bx f t v, s.hp[n]? = some bx → (f, true, t) ∈ bx.fs → Rep X g H (plO lk (.fd n f)) t v → Rep X g' H' (plO lk' (.fd n f)) t v)
    (dom : ∀ a o, g'.ow a = some o → H' a ≠ none) (uq : ∀ p a a', (g'.ow a = some (.pl p) ∨ g'.ow a = some (.lkd p)) → (g'.ow a' = some (.pl p) ∨ g'.ow a' = some (.lkd p)) → a = a')
    (li : ∀ a p, g'.ow a = some (.lkd p) → lk'.contains p = true) (tq : ∀ a o vs, g'.ow a = some o → H' a = some (.tup vs) → o = .fz) : R X g' lk' s σ H' := by
  have mp : MPre g g' := fun n a h => by rw [m]; exact h
  have k0 : ∀ t v, Rep X g H .fz t v → Rep X g' H' .fz t v := fun t v h => h.tr f mp f
  refine ⟨dom, r.ln, fun i mo t h hx => ?_, by rw [m]; exact r.ml, fun n bx a h1 h2 => ?_, uq, li, fun i t h => (r.xl i t h).tr f mp rfl, tq⟩
  · obtain ⟨v, h1, h2⟩ := r.sl i mo t h hx
    refine ⟨v, h1, ?_⟩
    cases mo with
    | own => exact ks i t v h h1 h2
    | fro => exact k0 _ _ h2
    | bor => exact h2.tr f mp e
    | xc => exact absurd rfl hx
  · rw [m] at h2
    obtain ⟨h3, h4⟩ := r.bx n bx a h1 h2
    obtain ⟨h5, h6⟩ := b n a h3
    refine ⟨h5, ?_⟩
    obtain ⟨fs, z1, z3⟩ := h4
    exact ⟨fs, z1.tr h6, z3.go k0 fun f t v hm => kf n bx f t v h1 hm⟩

theorem getElem?_set_some {α : Type} {l : List α} {i j : Nat} {x y : α} (h : (l.set i x)[j]? = some y) : (i = j ∧ y = x ∧ i < l.length) ∨ (i ≠ j ∧ l[j]? = some y) := by
  by_cases e : i = j
  · subst e
    by_cases hl : i < l.length
    · rw [List.getElem?_set_self hl] at h
      exact .inl ⟨rfl, (Option.some.inj h).symm, hl⟩
    · rw [List.getElem?_eq_none (by rw [List.length_set]; omega)] at h; cases h
  · rw [List.getElem?_set_ne e] at h
    exact .inr ⟨e, h⟩
/-- a slot is forgotten -/
theorem R.drop (r : R X g lk s σ H) (i : Nat) : R X g lk { s with loc := s.loc.set i none } σ H := by
  refine ⟨r.dom, by rw [← r.ln]; exact List.length_set, fun j mo t h hx => ?_, r.ml, r.bx, r.uq, r.li, fun j t h => ?_, r.tq⟩
  · rcases getElem?_set_some h with ⟨_, z, _⟩ | ⟨_, z⟩
    · cases z
    · exact r.sl j mo t z hx
  · rcases getElem?_set_some h with ⟨_, z, _⟩ | ⟨_, z⟩
    · cases z
    · exact r.xl j t z
/-- the hand layer's slot is another, of which nothing is known -/
theorem R.any (r : R X g lk s σ H) {i : Nat} {x : Option L2.V} (h : s.loc[i]? = some none ∨ s.loc[i]? = none) : R X g lk s (σ.set i x) H := by
  have ne : ∀ {j : Nat} {u : Mo × T}, s.loc[j]? = some (some u) → i ≠ j := fun {j u} q z => by subst z; rw [q] at h; rcases h with h | h <;> cases h
  refine ⟨r.dom, by rw [List.length_set]; exact r.ln, fun j mo t q hx => ?_, r.ml, r.bx, r.uq, r.li, fun j t q => ?_, r.tq⟩
  · obtain ⟨v, h1, h2⟩ := r.sl j mo t q hx
    exact ⟨v, by rw [List.getElem?_set_ne (ne q)]; exact h1, h2⟩
  · exact (r.xl j t q).tr (fun _ z => ⟨z, rfl⟩) (fun _ _ z => z) (by rw [List.getElem?_set_ne (ne q)])
/-- a slot is set -/
theorem R.put (r : R X g lk s σ H) {i : Nat} {mo : Mo} {t : T} {v : L2.V} (h : Rep X g H (slO lk i mo) t v) (hmo : mo ≠ .xc := by first | decide | (intro z; cases z)) : R X g lk { s with loc := s.loc.set i (some (mo, t)) } (σ.set i (some v)) H := by
  refine ⟨r.dom, by rw [List.length_set, List.length_set]; exact r.ln, fun j mo' t' q hx => ?_, r.ml, r.bx, r.uq, r.li, fun j t' q => ?_, r.tq⟩
  · rcases getElem?_set_some q with ⟨e, z, hl⟩ | ⟨e, z⟩
    · subst e
      cases z
      exact ⟨v, List.getElem?_set_self (by rw [← r.ln]; exact hl), h⟩
    · obtain ⟨w, h1, h2⟩ := r.sl j mo' t' z hx
      exact ⟨w, by rw [List.getElem?_set_ne e]; exact h1, h2⟩
  · rcases getElem?_set_some q with ⟨e, z, hl⟩ | ⟨e, z⟩
    · cases z
      exact absurd rfl hmo
    · exact (r.xl j t' z).tr (fun _ z => ⟨z, rfl⟩) (fun _ _ z => z) (by rw [List.getElem?_set_ne e])
theorem set_same {i : Nat} {v : L2.V} (h : σ[i]? = some (some v)) : σ.set i (some v) = σ := by
  obtain ⟨hl, e⟩ := List.getElem?_eq_some_iff.mp h
  rw [← e]; exact List.set_getElem_self hl

/-- a place is given up: its mark becomes o (fz, tmp) -/
def giveO (p : Pl) (o : Ow) : Ow → Ow | .pl q => if q = p then o else .pl q | o' => o'
theorem give (r : R X g lk s σ H) {p : Pl} {o : Ow} (ho : o = .fz ∨ o = .tmp) (hp : lk.contains p = false)
    (hs : ∀ i t, p = .sl i → s.loc[i]? ≠ some (some (.own, t))) (hf : ∀ n bx f t, p = .fd n f → s.hp[n]? = some bx → (f, true, t) ∉ bx.fs) : R X (g.retag (giveO p o)) lk s σ H := by
  have kk : ∀ q t v, q ≠ p → Rep X g H (plO lk q) t v → Rep X (g.retag (giveO p o)) H (plO lk q) t v := fun q t v e h => by
    refine h.retagS rfl ?_ id
    unfold plO
    split
    · rfl
    · exact if_neg e
  have mk : ∀ a o', (g.retag (giveO p o)).ow a = some o' → ∃ o0, g.ow a = some o0 ∧ giveO p o o0 = o' := fun a o' h => by
    cases z : g.ow a with
    | none => rw [show (g.retag (giveO p o)).ow a = (g.ow a).map _ from rfl, z] at h; cases h
    | some o0 => rw [show (g.retag (giveO p o)).ow a = (g.ow a).map _ from rfl, z] at h; exact ⟨o0, rfl, Option.some.inj h⟩
  have hold : ∀ o', giveO p o o' = o' → Holds o' g H (g.retag (giveO p o)) H := fun o' e a h => ⟨by show (g.ow a).map _ = _; rw [h]; exact congrArg some e, rfl⟩
  have back : ∀ q a, ((g.retag (giveO p o)).ow a = some (.pl q) ∨ (g.retag (giveO p o)).ow a = some (.lkd q)) → (g.ow a = some (.pl q) ∨ g.ow a = some (.lkd q)) := fun q a h => by
    rcases h with h | h
    all_goals
      obtain ⟨o0, h1, h2⟩ := mk a _ h
      rw [h1]
      cases o0 with
      | pl q' =>
        by_cases e : q' = p
        · rw [show giveO p o (.pl q') = o from if_pos e] at h2
          rcases ho with rfl | rfl <;> cases h2
        · rw [show giveO p o (.pl q') = .pl q' from if_neg e] at h2
          cases h2 <;> exact .inl rfl
      | lkd q' => cases h2 <;> exact .inr rfl
      | _ => cases h2
  refine r.go rfl (hold _ rfl) (hold _ rfl) (fun n => hold _ rfl) (fun i t v h1 _ h2 => ?_) (fun n bx f t v h1 h2 h3 => ?_) (fun a o' h => ?_) (fun q a a' h1 h2 => r.uq q a a' (back q a h1) (back q a' h2)) (fun a q h => ?_) (fun a o' vs h hH => by
    obtain ⟨o0, h1, h2⟩ := mk a o' h
    rw [r.tq a o0 vs h1 hH] at h2
    exact h2.symm)
  · refine kk _ _ _ (fun e => hs i t e.symm h1) h2
  · exact kk _ _ _ (fun e => hf n bx f t e.symm h1 h2) h3
  · obtain ⟨o0, h1, _⟩ := mk a _ h
    exact r.dom a o0 h1
  · rcases back q a (.inr h) with z | z
    · obtain ⟨o0, h1, h2⟩ := mk a _ h
      rw [z] at h1; cases h1
      by_cases e : q = p
      · rw [show giveO p o (.pl q) = o from if_pos e] at h2
        rcases ho with rfl | rfl <;> cases h2
      · rw [show giveO p o (.pl q) = .pl q from if_neg e] at h2; cases h2
    · exact r.li a q z
theorem keep_give {p : Pl} {o : Ow} : Keep g H (g.retag (giveO p o)) H := keep_retag rfl rfl (fun _ => rfl) fun _ => rfl
theorem Rep.give {p : Pl} {o : Ow} {t : T} {v : L2.V} (h : Rep X g H (.pl p) t v) : Rep X (g.retag (giveO p o)) H o t v := h.retagS (o := .pl p) (o' := o) rfl (show (if p = p then o else .pl p) = _ from if_pos rfl) (fun z => by cases z)

variable {W : WX} {Q : VK}
/-- reading a slot -/
theorem rdVar_ok {i : Nat} {b : Bool} (r : R X g lk s σ H) (h : Post X W lk g σ H (rdVar lk i b s) Q) : ∃ v, σ[i]? = some (some v) ∧ Q v H := by
  unfold rdVar at h
  split at h
  · rename_i t e
    obtain ⟨v, h1, h2⟩ := r.sl i _ t e (by decide)
    refine ⟨v, h1, ?_⟩
    split at h
    · rename_i hc
      split at h
      · exact h g H v r Keep.refl h2
      · split at h
        · exact h.elim
        · rename_i hl
          have hl' : lk.contains (.sl i) = false := by simpa using hl
          have h2' : Rep X g H (.pl (.sl i)) t v := by rw [← plO_out hl']; exact h2
          have r1 := give (r.drop i) (p := .sl i) (o := .fz) (.inl rfl) hl' (fun j t' e' z => by
            cases e'
            rcases getElem?_set_some z with ⟨_, z, _⟩ | ⟨z, _⟩
            · cases z
            · exact z rfl) (fun n bx f t' e' => by cases e')
          have r2 := r1.put (i := i) (mo := .fro) (t := t) (v := v) h2'.give
          rw [set_same h1] at r2
          refine h _ H v ?_ keep_give h2'.give
          have : ({ s with loc := (s.loc.set i none).set i (some (.fro, t)) } : S) = { s with loc := s.loc.set i (some (.fro, t)) } := by rw [List.set_set]
          rw [← this]; exact r2
    · rename_i hc
      exact h g H v r Keep.refl (h2.free (by simpa using hc))
  · rename_i t e
    obtain ⟨v, h1, h2⟩ := r.sl i _ t e (by decide)
    exact ⟨v, h1, h g H v r Keep.refl h2⟩
  · rename_i t e
    obtain ⟨v, h1, h2⟩ := r.sl i _ t e (by decide)
    refine ⟨v, h1, h g H v r Keep.refl ?_⟩
    show Rep X g H (mdO lk (fmd t (.bor none))) t v
    cases hc : isCont t with
    | true => rw [fmd_cont hc]; exact h2
    | false => rw [fmd_free hc]; exact h2.free hc
  · exact h.elim
theorem mvVar_ok {i : Nat} (r : R X g lk s σ H) (h : Post X W lk g σ H (mvVar lk i s) Q) : ∃ v, σ[i]? = some (some v) ∧ Q v H := by
  unfold mvVar at h
  split at h
  · rename_i t e
    obtain ⟨v, h1, h2⟩ := r.sl i _ t e (by decide)
    refine ⟨v, h1, ?_⟩
    split at h
    · exact h.elim
    · rename_i hl
      have hl' : lk.contains (.sl i) = false := by simpa using hl
      cases hc : isCont t with
      | true =>
        rw [fmd_cont hc] at h
        have h2' : Rep X g H (.pl (.sl i)) t v := by rw [← plO_out hl']; exact h2
        exact h _ H v (give (r.drop i) (p := .sl i) (o := .tmp) (.inr rfl) hl' (fun j t' e' z => by
            cases e'
            rcases getElem?_set_some z with ⟨_, z, _⟩ | ⟨z, _⟩
            · cases z
            · exact z rfl) (fun n bx f t' e' => by cases e')) keep_give h2'.give
      | false =>
        rw [fmd_free hc] at h
        exact h g H v (r.drop i) Keep.refl (h2.free hc)
  · rename_i t e
    obtain ⟨v, h1, h2⟩ := r.sl i _ t e (by decide)
    exact ⟨v, h1, h g H v r Keep.refl h2⟩
  · exact h.elim
end
end Mi

/-! soundness: data, operators -/
namespace Mi
open PySem PySem.Spec PyProof.Rows L2

/-! ### texts -/
theorem encL_aux (l : List Nat) : ∀ a : Nat, l.foldl (fun a c => a * 256 + (c + 1)) a = a * 256 ^ l.length + encL l := by
  induction l with
  | nil => intro a; simp [encL]
  | cons c l ih =>
    intro a
    have e : encL (c :: l) = (0 * 256 + (c + 1)) * 256 ^ l.length + encL l := by
      show l.foldl _ _ = _; rw [ih]
    rw [List.foldl_cons, ih, e, List.length_cons, Nat.pow_succ]
    simp only [Nat.zero_mul, Nat.zero_add, Nat.add_mul, Nat.mul_assoc, Nat.mul_comm 256, Nat.add_assoc]
theorem encL_cons (c : Nat) (l : List Nat) : encL (c :: l) = (c + 1) * 256 ^ l.length + encL l := by
  show l.foldl _ _ = _
  rw [encL_aux]; simp
theorem encL_lt : ∀ {l : List Nat}, (∀ c ∈ l, c < 255) → encL l < 256 ^ l.length
  | [], _ => by simp [encL]
  | c :: l, h => by
    have h1 := encL_lt (l := l) fun d hd => h d (List.mem_cons_of_mem _ hd)
    have h2 : c + 1 ≤ 255 := h c List.mem_cons_self
    rw [encL_cons, List.length_cons, Nat.pow_succ, Nat.mul_comm (256 ^ l.length) 256]
    calc (c + 1) * 256 ^ l.length + encL l < (c + 1) * 256 ^ l.length + 256 ^ l.length := Nat.add_lt_add_left h1 _
      _ = (c + 1 + 1) * 256 ^ l.length := by rw [Nat.add_mul (c + 1) 1, Nat.one_mul]
      _ ≤ 256 * 256 ^ l.length := Nat.mul_le_mul_right _ (by omega)
theorem encL_ge {c : Nat} {l : List Nat} : 256 ^ l.length ≤ encL (c :: l) := by
  rw [encL_cons]
  exact Nat.le_trans (Nat.le_mul_of_pos_left _ (Nat.succ_pos _)) (Nat.le_add_right _ _)
theorem encL_len {l m : List Nat} (hl : ∀ c ∈ l, c < 255) (hm : ∀ c ∈ m, c < 255) (e : encL l = encL m) : l.length = m.length := by
  have key : ∀ {l m : List Nat}, (∀ c ∈ l, c < 255) → encL l = encL m → ¬ l.length < m.length := by
    intro l m hl e h
    cases m with
    | nil => simp at h
    | cons d m =>
      have h1 := encL_lt hl
      have h2 : 256 ^ m.length ≤ encL (d :: m) := encL_ge
      rw [← e] at h2
      have h3 : 256 ^ l.length ≤ 256 ^ m.length := Nat.pow_le_pow_right (by decide) (by simp at h; omega)
      omega
  have := key hl e
  have := key hm e.symm
  omega
theorem encL_inj : ∀ {l m : List Nat}, (∀ c ∈ l, c < 255) → (∀ c ∈ m, c < 255) → encL l = encL m → l = m
  | [], [], _, _, _ => rfl
  | [], d :: m, hl, hm, e => absurd (encL_len hl hm e) (by simp)
  | c :: l, [], hl, hm, e => absurd (encL_len hl hm e) (by simp)
  | c :: l, d :: m, hl, hm, e => by
    have hlen : l.length = m.length := by simpa using encL_len hl hm e
    have hl' := fun x hx => hl x (List.mem_cons_of_mem _ hx)
    have hm' := fun x hx => hm x (List.mem_cons_of_mem _ hx)
    have h1 := encL_lt hl'
    have h2 := encL_lt hm'
    rw [encL_cons, encL_cons, ← hlen] at e
    rw [← hlen] at h2
    have hp : 0 < 256 ^ l.length := Nat.pow_pos (by decide)
    have q : ((c + 1) * 256 ^ l.length + encL l) / 256 ^ l.length = ((d + 1) * 256 ^ l.length + encL m) / 256 ^ l.length := by rw [e]
    rw [Nat.mul_comm (c + 1), Nat.mul_comm (d + 1), Nat.mul_add_div hp, Nat.mul_add_div hp, Nat.div_eq_of_lt h1, Nat.div_eq_of_lt h2] at q
    have ecd : c = d := by omega
    subst ecd
    have e2 : encL l = encL m := by omega
    rw [encL_inj hl' hm' e2]
theorem StrOk.inj {x y : Str} {n : Nat} (h : StrOk x n) (h' : StrOk y n) : x = y := by
  have e : x.cps.toList = y.cps.toList := encL_inj h.2.1 h'.2.1 (h.1.trans h'.1.symm)
  cases x; cases y
  simpa using e
theorem StrOk.eq {x y : Str} {n m : Nat} (h : StrOk x n) (h' : StrOk y m) : (x == y) = (n == m) := by
  by_cases e : n = m
  · subst e
    rw [h.inj h']; simp
  · have ne : x ≠ y := fun z => by subst z; exact e (h.1.symm.trans h'.1)
    rw [beq_eq_false_iff_ne.mpr e, beq_eq_false_iff_ne.mpr ne]

/-! ### data -/
mutual
inductive DR : T → PyData → Prop
  | non : DR .non .none
  | bl {b} : DR (.bl b) (.bool b)
  | int {i} : DR (.int i) (.int i)
  | str {n x} (h : StrOk x n) : DR (.str n) (.str x)
  | tup {ts ds} (h : DRs ts ds) : DR (.tup ts) (.tuple ds)
  | lst {ts ds} (h : DRs ts ds) : DR (.lst ts) (.list ds)
inductive DRs : List T → List PyData → Prop
  | nil : DRs [] []
  | cons {t d ts ds} (h : DR t d) (r : DRs ts ds) : DRs (t :: ts) (d :: ds)
end
mutual
theorem DR.eqv : ∀ {t : T} {d : PyData} {t' : T} {d' : PyData}, DR t d → DR t' d' → PyData.eqv d d' = T.eqv t t'
  | _, _, _, _, .non, h => by cases h <;> simp [PyData.eqv, T.eqv]
  | _, _, _, _, .bl, h => by cases h <;> simp [PyData.eqv, T.eqv]
  | _, _, _, _, .int, h => by cases h <;> simp [PyData.eqv, T.eqv]
  | _, _, _, _, .str e, h => by
    cases h with
    | str e' => simp only [PyData.eqv, T.eqv]; exact e.eq e'
    | _ => simp [PyData.eqv, T.eqv]
  | _, _, _, _, .tup e, h => by
    cases h with
    | tup e' => simp only [PyData.eqv, T.eqv]; exact e.eqvs e'
    | _ => simp [PyData.eqv, T.eqv]
  | _, _, _, _, .lst e, h => by
    cases h with
    | lst e' => simp only [PyData.eqv, T.eqv]; exact e.eqvs e'
    | _ => simp [PyData.eqv, T.eqv]
theorem DRs.eqvs : ∀ {ts : List T} {ds : List PyData} {ts' : List T} {ds' : List PyData}, DRs ts ds → DRs ts' ds' → PyData.eqvAll ds ds' = T.eqvs ts ts'
  | _, _, _, _, .nil, .nil => by simp [PyData.eqvAll, T.eqvs]
  | _, _, _, _, .nil, .cons _ _ => by simp [PyData.eqvAll, T.eqvs]
  | _, _, _, _, .cons _ _, .nil => by simp [PyData.eqvAll, T.eqvs]
  | _, _, _, _, .cons h r, .cons h' r' => by simp only [PyData.eqvAll, T.eqvs]; rw [h.eqv h', r.eqvs r']
end
theorem DRs.any {t : T} {d : PyData} (h : DR t d) : ∀ {ts : List T} {ds : List PyData}, DRs ts ds → (ds.any fun z => PyData.eqv z d) = T.isIn t ts
  | _, _, .nil => rfl
  | _, _, .cons h' r => by
    have ih := DRs.any h r
    unfold T.isIn at ih ⊢
    rw [List.any_cons, List.any_cons, h'.eqv h, ih]
theorem StrOk.ok {x : Str} {n : Nat} (h : StrOk x n) : PyData.strOk x = true := by
  unfold PyData.strOk
  rw [← Array.all_toList, List.all_eq_true]
  intro c hc
  have := h.2.1 c hc
  simp; omega

section
variable {G : Gx} {g : Gh} {H : Hp}
theorem At.rd {o : Ow} {a : Addr} {u : HO} (h : At H o a u) : Rd H a u := by
  unfold At at h; split at h
  · exact h
  · exact .inl h
theorem TupAt.sq {K : PySem.W.Frag} {a : Addr} {vs : List L2.V} {ku : Bool} (h : TupAt K g H a vs ku) : SqT K H a vs := by
  rcases h with ⟨_, h⟩ | ⟨_, h⟩
  · exact .inl (.inl h)
  · exact .inr h
theorem Rep.sql {o : Ow} {ts : List T} {v : L2.V} (h : Rep G g H o (.lst ts) v) : ∃ a vs, v = .ref a ∧ SqL G.K H a vs ∧ ts.length ≤ szL ∧ Reps G g H ts vs := by
  cases h with
  | lst w h z r => exact ⟨_, _, rfl, .inl h.rd, z, r⟩
  | lstK h z r => exact ⟨_, _, rfl, .inr h, z, r⟩
theorem Rep.sqt {o : Ow} {ts : List T} {v : L2.V} (h : Rep G g H o (.tup ts) v) : ∃ a vs, v = .ref a ∧ SqT G.K H a vs ∧ Reps G g H ts vs := by
  cases h with
  | tup h r => exact ⟨_, _, rfl, h.sq, r⟩
mutual
theorem Rep.dat : ∀ {o : Ow} {t : T} {v : L2.V} {n : Nat}, Rep G g H o t v → t.dataN n = true → ∃ d, Dp G.K H v d ∧ DR t d ∧ d.canLay0 = true ∧ d.depth ≤ n
  | _, _, _, _, .non, _ => ⟨_, .non, .non, by simp [PyData.canLay0], by simp [PyData.depth]⟩
  | _, _, _, _, .bl, _ => ⟨_, .bl _, .bl, by simp [PyData.canLay0], by simp [PyData.depth]⟩
  | _, _, _, _, .int, _ => ⟨_, .int _, .int, by simp [PyData.canLay0], by simp [PyData.depth]⟩
  | _, _, _, _, .str h, _ => ⟨_, .str _, .str h, by simpa [PyData.canLay0] using h.ok, by simp [PyData.depth]⟩
  | _, _, _, 0, .tup _ _, e => by simp [T.dataN] at e
  | _, _, _, n + 1, .tup h r, e => by
    simp only [T.dataN] at e
    obtain ⟨ds, h1, h2, h3, h4⟩ := Reps.dat r e
    exact ⟨.tuple ds, .tup h.sq h1, .tup h2, by simpa [PyData.canLay0] using h3, by simp only [PyData.depth]; omega⟩
  | _, _, _, 0, .lst _ _ _ _, e => by simp [T.dataN] at e
  | _, _, _, n + 1, .lst w h z r, e => by
    simp only [T.dataN] at e
    obtain ⟨ds, h1, h2, h3, h4⟩ := Reps.dat r e
    exact ⟨.list ds, .lst (.inl h.rd) h1, .lst h2, by simpa [PyData.canLay0] using h3, by simp only [PyData.depth]; omega⟩
  | _, _, _, 0, .lstK _ _ _, e => by simp [T.dataN] at e
  | _, _, _, n + 1, .lstK h z r, e => by
    simp only [T.dataN] at e
    obtain ⟨ds, h1, h2, h3, h4⟩ := Reps.dat r e
    exact ⟨.list ds, .lst (.inr h) h1, .lst h2, by simpa [PyData.canLay0] using h3, by simp only [PyData.depth]; omega⟩
  | _, _, _, _, .dct _ _ _ _, e => by simp [T.dataN] at e
  | _, _, _, _, .dcu _ _ _ _, e => by simp [T.dataN] at e
  | _, _, _, _, .box _, e => by simp [T.dataN] at e
  | _, _, _, _, .cls _, e => by simp [T.dataN] at e
theorem Reps.dat : ∀ {ts : List T} {vs : List L2.V} {n : Nat}, Reps G g H ts vs → T.dataNs ts n = true → ∃ ds, DpAll G.K H vs ds ∧ DRs ts ds ∧ PyData.canLayAll0 ds = true ∧ PyData.depthAll ds ≤ n
  | _, _, _, .nil, _ => ⟨[], .nil, .nil, by simp [PyData.canLayAll0], by simp [PyData.depthAll]⟩
  | _, _, n, .cons h r, e => by
    simp only [T.dataNs, Bool.and_eq_true] at e
    obtain ⟨d, h1, h2, h3, h4⟩ := Rep.dat h e.1
    obtain ⟨ds, q1, q2, q3, q4⟩ := Reps.dat r e.2
    exact ⟨d :: ds, .cons h1 q1, .cons h2 q2, by simp [PyData.canLayAll0, h3, q3], by simp only [PyData.depthAll]; omega⟩
end
theorem shaped_of {d : PyData} {n : Nat} (h : d.canLay0 = true) (h' : d.depth ≤ n) (hn : n ≤ 8) : SeqAt.shaped d = true := by
  unfold SeqAt.shaped
  rw [h, Bool.true_and]
  exact decide_eq_true (by omega)
end

/-! ### operators over the hand layer, of any list that is read -/
section
variable {X : Cx}
def rCatL (K : PySem.W.Frag) : R2 := fun x y H Q => ∃ l b xs zs, x = .ref l ∧ y = .ref b ∧ SqL K H l xs ∧ SqL K H b zs ∧ xs.length + zs.length ≤ sizeLine ∧ ∀ p, H p = none → Q (.ref p) (upd H p (.lst (xs ++ zs)))
theorem op_catL : OpR X (binaryOp .Add) (rCatL X.K) := by
  intro pins s σ H x y v u Q I rx ry h
  obtain ⟨l, b, xs, zs, rfl, rfl, hH, hB, hz, q⟩ := h
  cases rx
  cases ry
  obtain ⟨its, r, ⟨⟨c1, d1, dt1, s1⟩, n, e, hc, hd, hdt⟩, hl⟩ := I.list hH
  obtain ⟨its2, r2, ⟨⟨c2, d2, dt2, s2⟩, n2, e2, hc2, hd2, hdt2⟩, hl2⟩ := I.list hB
  simp only at hc hd hdt hc2 hd2 hdt2
  subst hc hd hdt hc2 hd2 hdt2
  have L1 := r.length
  have L2' := r2.length
  refine concat_meets ⟨_, e, rfl⟩ ⟨_, e2, rfl⟩ noFill_list_add seq_list_add PySem.F.slot_list_add PySem.F.entry_list_add (PySem.F.args_list_add_2 _ _) (list_addW l b its.toArray its2.toArray n n2 _ _ _ _ (by rw [List.size_toArray, List.size_toArray]; omega)) ⟨e, e2, ?_⟩
  have ea : its.toArray ++ its2.toArray = (its ++ its2).toArray := by simp
  rw [ea]
  exact ⟨.ref _, _, I.lnew (t' := s.toks) (r.append r2) (by rw [List.length_append]; omega), rfl, q _ I.fresh⟩
def rInT (K : PySem.W.Frag) : R2 := fun x y H Q => ∃ d ds, Dp K H x d ∧ Dp K H y (.tuple ds) ∧ SeqAt.shaped d = true ∧ SeqAt.shaped (.tuple ds) = true ∧ Q (.bl (ds.any fun z => PyData.eqv z d)) H
def rNotInT (K : PySem.W.Frag) : R2 := fun x y H Q => ∃ d ds, Dp K H x d ∧ Dp K H y (.tuple ds) ∧ SeqAt.shaped d = true ∧ SeqAt.shaped (.tuple ds) = true ∧ Q (.bl (!ds.any fun z => PyData.eqv z d)) H
theorem op_inT (hu : X.A.units + 65 < cLine) : OpR X (compareOp .In) (rInT X.K) := by
  intro pins s σ H x y v u Q I rx ry h
  obtain ⟨d, ds, hd, he, sd, se, q⟩ := h
  obtain ⟨as, r1⟩ := Dp.reads I d x v hd rx
  obtain ⟨bs, r2⟩ := Dp.reads I (.tuple ds) y u he ry
  exact SeqAt.in_tuple_reads r2 r1 (SeqAt.canLay_of_shaped se) (SeqAt.canLay_of_shaped sd) (room_in_shaped sd hu) ⟨.bl _, H, I, rfl, q⟩
theorem op_notInT (hu : X.A.units + 65 < cLine) : OpR X (compareOp .NotIn) (rNotInT X.K) := by
  intro pins s σ H x y v u Q I rx ry h
  obtain ⟨d, ds, hd, he, sd, se, q⟩ := h
  obtain ⟨as, r1⟩ := Dp.reads I d x v hd rx
  obtain ⟨bs, r2⟩ := Dp.reads I (.tuple ds) y u he ry
  exact SeqAt.notIn_tuple_reads r2 r1 (SeqAt.canLay_of_shaped se) (SeqAt.canLay_of_shaped sd) (room_in_shaped sd hu) ⟨.bl _, H, I, rfl, q⟩
end
end Mi

/-! soundness: two operands, several, new objects -/
namespace Mi
open PySem PySem.Spec PyProof.Rows L2

/-! ### texts read back -/
theorem encL_snoc (l : List Nat) (c : Nat) : encL (l ++ [c]) = encL l * 256 + (c + 1) := by
  unfold encL; rw [List.foldl_append]; rfl
theorem encL_pos {l : List Nat} (h : l ≠ []) : encL l ≠ 0 := by
  cases l with
  | nil => exact absurd rfl h
  | cons c l => have := @encL_ge c l; have : 0 < 256 ^ l.length := Nat.pow_pos (by decide); omega
theorem decN_enc : ∀ (k : Nat) (l acc : List Nat) (f : Nat), l.length = k → (∀ c ∈ l, c < 255) → k < f → decN f (encL l) acc = l ++ acc
  | 0, l, acc, f + 1, h, _, _ => by
    have : l = [] := List.length_eq_zero_iff.mp h
    subst this
    rfl
  | k + 1, l, acc, f + 1, h, hc, hf => by
    have hne : l ≠ [] := fun z => by subst z; cases h
    obtain ⟨m, c, rfl⟩ : ∃ m c, l = m ++ [c] := ⟨l.dropLast, l.getLast hne, (List.dropLast_concat_getLast hne).symm⟩
    have hm : m.length = k := by simpa using h
    have c1 : c < 255 := hc c (by simp)
    show (if encL (m ++ [c]) = 0 then acc else decN f (encL (m ++ [c]) / 256) ((encL (m ++ [c]) % 256 - 1) :: acc)) = _
    rw [if_neg (encL_pos (by simp)), encL_snoc]
    have e1 : (encL m * 256 + (c + 1)) / 256 = encL m := by omega
    have e2 : (encL m * 256 + (c + 1)) % 256 - 1 = c := by omega
    rw [e1, e2, decN_enc k m (c :: acc) f hm (fun d hd => hc d (by simp [hd])) (by omega), List.append_assoc]
    rfl
theorem StrOk.dec {x : Str} {n : Nat} (h : StrOk x n) : Mi.dec n = x.cps.toList := by
  rw [← h.1]
  have e : x.cps.toList.length = x.length := rfl
  have := decN_enc _ x.cps.toList [] 400 rfl h.2.1 (by have := h.2.2; omega)
  rw [List.append_nil] at this
  exact this
theorem strOk_mk {l : List Nat} (h : ∀ c ∈ l, c < 255) (hl : l.length ≤ 390) : StrOk ⟨l.toArray⟩ (encL l) := ⟨rfl, h, by
  show (l.toArray).size ≤ 390
  rw [List.size_toArray]; exact hl⟩

section
variable {G : Gx} {W : WX} {Γ : Gm} {C C' : CallF} {g g1 g2 : Gh} {H H1 H2 : Hp} {σ : L2.St} {s s1 s2 : S} {lk lk' : List Pl} {Q : VK}

/-! ### a new object -/
def Gh.own (g : Gh) (p : Addr) (o : Ow) : Gh := ⟨fun a => if a = p then some o else g.ow a, g.m⟩
theorem Gh.own_at {p : Addr} {o : Ow} : (g.own p o).ow p = some o := if_pos rfl
theorem Gh.own_off {p a : Addr} {o : Ow} (h : a ≠ p) : (g.own p o).ow a = g.ow a := if_neg h
theorem alloc_holds (dom : ∀ a o, g.ow a = some o → H a ≠ none) {p : Addr} {o o' : Ow} {u : HO} (hp : H p = none) : Holds o' g H (g.own p o) (upd H p u) := fun a h => by
  have ne : a ≠ p := fun z => by subst z; exact dom _ _ h hp
  exact ⟨(Gh.own_off ne).trans h, upd_ne ne⟩
theorem R.alloc (r : R G g lk s σ H) {p : Addr} {o : Ow} {u : HO} (hp : H p = none) (ho : o = .tmp ∨ o = .fz ∨ o = .cm p) (hu : ∀ vs, u = .tup vs → o = .fz := by intro vs z; first | rfl | cases z) : R G (g.own p o) lk s σ (upd H p u) := by
  have hold : ∀ o', Holds o' g H (g.own p o) (upd H p u) := fun o' => alloc_holds r.dom hp
  have back : ∀ a q, ((g.own p o).ow a = some (.pl q) ∨ (g.own p o).ow a = some (.lkd q)) → g.ow a = some (.pl q) ∨ g.ow a = some (.lkd q) := fun a q h => by
    by_cases e : a = p
    · subst e
      rw [Gh.own_at] at h
      rcases ho with rfl | rfl | rfl <;> rcases h with h | h <;> cases h
    · rw [Gh.own_off e] at h; exact h
  have mp : MPre g (g.own p o) := fun _ _ h => h
  refine r.go rfl (hold _) (hold _) (fun n => hold _) (fun i t v _ _ h => h.tr (hold _) mp (hold _)) (fun n bx f t v _ _ h => h.tr (hold _) mp (hold _)) (fun a o' h => ?_) (fun q a a' h1 h2 => r.uq q a a' (back a q h1) (back a' q h2)) (fun a q h => ?_) (fun a o' vs h hH => by
    by_cases e : a = p
    · subst e; rw [Gh.own_at] at h; rw [upd_same] at hH; cases h; exact hu vs (Option.some.inj hH)
    · rw [Gh.own_off e] at h; rw [upd_ne e] at hH; exact r.tq a o' vs h hH)
  · by_cases e : a = p
    · subst e; rw [upd_same]; intro z; cases z
    · rw [Gh.own_off e] at h; rw [upd_ne e]; exact r.dom a o' h
  · rcases back a q (.inr h) with z | z
    · by_cases e : a = p
      · subst e; rw [Gh.own_at] at h; rcases ho with rfl | rfl | rfl <;> cases h
      · rw [Gh.own_off e] at h; rw [h] at z; cases z
    · exact r.li a q z
theorem keep_alloc (r : R G g lk s σ H) {p : Addr} {o : Ow} {u : HO} (hp : H p = none) : Keep g H (g.own p o) (upd H p u) :=
  ⟨alloc_holds r.dom hp, alloc_holds r.dom hp, fun _ => alloc_holds r.dom hp, fun _ => alloc_holds r.dom hp _, fun _ _ h => h⟩
theorem Reps.alloc (r : R G g lk s σ H) {p : Addr} {o : Ow} {u : HO} {ts : List T} {vs : List L2.V} (hp : H p = none) (h : Reps G g H ts vs) : Reps G (g.own p o) (upd H p u) ts vs :=
  h.tr (alloc_holds r.dom hp) fun _ _ h => h
theorem Rep.newL (r : R G g lk s σ H) {p : Addr} {ts : List T} {vs : List L2.V} (hp : H p = none) (h : Reps G g H ts vs) (z : ts.length ≤ szL) : Rep G (g.own p .tmp) (upd H p (.lst vs)) .tmp (.lst ts) (.ref p) :=
  .lst Gh.own_at (show upd H p (.lst vs) p = _ from upd_same) z (h.alloc r hp)
theorem Rep.newT (r : R G g lk s σ H) {p : Addr} {ts : List T} {vs : List L2.V} (hp : H p = none) (h : Reps G g H ts vs) {o : Ow} : Rep G (g.own p .fz) (upd H p (.tup vs)) o (.tup ts) (.ref p) :=
  .tup (.inl ⟨Gh.own_at, upd_same⟩) (h.alloc r hp)
/-- a new list handed on -/
theorem Post.newL (r : R G g lk s σ H) {ts : List T} {vs : List L2.V} {p : Addr} (h : Post G W lk g σ H (okO (.lst ts) s) Q) (hr : Reps G g H ts vs) (z : ts.length ≤ szL) (hp : H p = none) : Q (.ref p) (upd H p (.lst vs)) :=
  h _ _ _ (r.alloc hp (.inl rfl)) (keep_alloc r hp) (Rep.newL r hp hr z)
theorem Post.newT (r : R G g lk s σ H) {ts : List T} {vs : List L2.V} {p : Addr} (h : Post G W lk g σ H (okF (.tup ts) s) Q) (hr : Reps G g H ts vs) (hp : H p = none) : Q (.ref p) (upd H p (.tup vs)) :=
  h _ _ _ (r.alloc hp (.inr (.inl rfl))) (keep_alloc r hp) (Rep.newT r hp hr)
/-- a value that stands already -/
theorem Post.old (r : R G g lk s σ H) {t : T} {v : L2.V} (h : Post G W lk g σ H (okF t s) Q) (hr : Rep G g H .fz t v) : Q v H := h _ _ _ r Keep.refl hr

theorem ExcR.move {c : Nat} {xs : List T} {cls : Value} {d : Option Addr} (ex : ExcR G g H c xs cls d) (f : ∀ t v, Rep G g H .fz t v → Rep G g1 H .fz t v) (k : ∀ a, g.ow a = some .fz → g1.ow a = some .fz) : ExcR G g1 H c xs cls d := by
  obtain ⟨CC, da, fs, e1, e2, e3, e4, e5, e6⟩ := ex
  refine ⟨CC, da, fs, e1, e2, e3, e4, k _ e5, fun i t hi => ?_⟩
  obtain ⟨n, v, h1, h2, h3⟩ := e6 i t hi
  exact ⟨n, v, h1, h2, f _ _ h3⟩

/-! ### two operands -/
theorem two_ok {a b : Ex} {F : List Pl → V → V → S → Res V} {r : R2}
    (hr : ∀ lk g s H σ x y vx vy Q, R G g lk s σ H → Rep G g H (pO lk x.1) x.2 vx → Rep G g H (mdO lk y.1) y.2 vy → Post G W lk g σ H (F lk x y s) Q → r vx vy H Q)
    (hR : R G g lk s σ H) (h : Post G W lk g σ H ((ev Γ C C' lk a s).bind fun x s1 => (ev Γ C C' (lks x ++ lk) b s1).bind fun y s2 => F lk x y s2) Q) :
    tOp r (tE G W Γ C C' a) (tE G W Γ C C' b) σ H Q := by
  refine ⟨lk, g, s, hR, ?_⟩
  cases ea : ev Γ C C' lk a s with
  | no => rw [ea] at h; exact h.elim
  | exc c xs s1 => rw [ea] at h; exact h
  | ok x s1 =>
    rw [ea] at h
    have h : Post G W lk g σ H ((ev Γ C C' (lks x ++ lk) b s1).bind fun y s2 => F lk x y s2) Q := h
    intro g1 H1 vx r1 k1 p1
    obtain ⟨g1', r1', k1', _, back⟩ := pend r1 p1
    refine ⟨lks x ++ lk, g1', s1, r1', ?_⟩
    cases eb : ev Γ C C' (lks x ++ lk) b s1 with
    | no => rw [eb] at h; exact h.elim
    | exc c xs s2 =>
      rw [eb] at h
      intro g2 H2 cls d r2 k2 ex
      obtain ⟨g3, r3, k3, _, m3, _, f3⟩ := back g2 H2 s2 σ r2 k2
      exact h g3 H2 cls d r3 (k1.trans k3) (ex.move (fun t v z => m3 .fro t v z) f3)
    | ok y s2 =>
      rw [eb] at h
      intro g2 H2 vy r2 k2 p2
      obtain ⟨g3, r3, k3, q3, m3, _⟩ := back g2 H2 s2 σ r2 k2
      exact hr lk g3 s2 H2 σ x y vx vy Q r3 q3 (m3 _ _ _ p2) (Post.keep (k1.trans k3) h)

/-! ### several -/
theorem evs_ok {e : Ex} {es : List Ex} {Q : List L2.V → Hp → Prop} (h : tEs G W Γ C C' (e :: es) σ H Q) : tCons (tE G W Γ C C' e) (tEs G W Γ C C' es) σ H Q := by
  obtain ⟨lk, g, s, hR, h⟩ := h
  refine ⟨lk, g, s, hR, ?_⟩
  have h : PostL G W lk g σ H ((ev Γ C C' lk e s).bind fun v s1 => (evs Γ C C' (lks v ++ lk) es s1).bind fun vs s2 => .ok (v :: vs) s2) Q := h
  cases ea : ev Γ C C' lk e s with
  | no => rw [ea] at h; exact h.elim
  | exc c xs s1 => rw [ea] at h; exact h
  | ok x s1 =>
    rw [ea] at h
    have h : PostL G W lk g σ H ((evs Γ C C' (lks x ++ lk) es s1).bind fun vs s2 => .ok (x :: vs) s2) Q := h
    intro g1 H1 vx r1 k1 p1
    obtain ⟨g1', r1', k1', _, back⟩ := pend r1 p1
    refine ⟨lks x ++ lk, g1', s1, r1', ?_⟩
    cases eb : evs Γ C C' (lks x ++ lk) es s1 with
    | no => rw [eb] at h; exact h.elim
    | exc c xs s2 =>
      rw [eb] at h
      intro g2 H2 cls d r2 k2 ex
      obtain ⟨g3, r3, k3, _, m3, _, f3⟩ := back g2 H2 s2 σ r2 k2
      exact h g3 H2 cls d r3 (k1.trans k3) (ex.move (fun t v z => m3 .fro t v z) f3)
    | ok vs s2 =>
      rw [eb] at h
      intro g2 H2 xs r2 k2 p2
      obtain ⟨g3, r3, k3, q3, _, m3, _⟩ := back g2 H2 s2 σ r2 k2
      refine h g3 H2 (vx :: xs) r3 (k1.trans k3) (.cons q3 (Paired.mapP p2 fun v x z => m3 _ _ _ z))
theorem evs_nil {Q : List L2.V → Hp → Prop} (h : tEs G W Γ C C' [] σ H Q) : tNil σ H Q := by
  obtain ⟨lk, g, s, hR, h⟩ := h
  exact h g H [] hR Keep.refl .nil
theorem pO_sto {lk : List Pl} {m : Md} (h : m.sto = true) : pO lk m = .fz := by
  cases m with
  | own => rfl
  | fro => rfl
  | bor _ => cases h
theorem RepL.reps : ∀ {vs : List V} {xs : List L2.V}, stoAll vs = true → RepL G g H lk vs xs → Reps G g H (vals vs) xs
  | _, _, _, .nil => .nil
  | v :: vs, _, h, .cons p r => by
    have h' : (v.1.sto && stoAll vs) = true := h
    rw [Bool.and_eq_true] at h'
    refine .cons ?_ (RepL.reps h'.2 r)
    have p' : Rep G g H (pO lk v.1) v.2 _ := p
    rw [pO_sto h'.1] at p'
    exact p'
theorem Paired.len {α β : Type} {F : α → β → Prop} : ∀ {xs : List α} {ys : List β}, Paired F xs ys → xs.length = ys.length
  | _, _, .nil => rfl
  | _, _, .cons _ r => congrArg (· + 1) (Paired.len r)
theorem szL_eq : szL = sizeLine := by rw [sizeLine_eq]; rfl
theorem small_sz {n : Nat} (h : n ≤ 1000) : n ≤ sizeLine := by rw [sizeLine_eq]; omega
theorem lst_ok {es : List Ex} (h : tE G W Γ C C' (.lst es) σ H Q) : tLst (tEs G W Γ C C' es) σ H Q := by
  obtain ⟨lk, g, s, hR, h⟩ := h
  refine ⟨lk, g, s, hR, ?_⟩
  have h : Post G W lk g σ H ((evs Γ C C' lk es s).bind fun vs s1 => if stoAll vs && decide (vs.length ≤ 1000) then okO (.lst (vals vs)) s1 else .no) Q := h
  cases ea : evs Γ C C' lk es s with
  | no => rw [ea] at h; exact h.elim
  | exc c xs s1 => rw [ea] at h; exact h
  | ok vs s1 =>
    rw [ea] at h
    have h : Post G W lk g σ H (if stoAll vs && decide (vs.length ≤ 1000) then okO (.lst (vals vs)) s1 else .no) Q := h
    intro g1 H1 xs r1 k1 p1
    split at h
    · rename_i hc
      rw [Bool.and_eq_true] at hc
      have hl : vs.length ≤ 1000 := of_decide_eq_true hc.2
      refine ⟨by rw [← Paired.len p1]; exact small_sz hl, fun p hp => ?_⟩
      exact Post.newL r1 (Post.keep k1 h) (RepL.reps hc.1 p1) (by unfold vals; rw [List.length_map]; unfold szL; omega) hp
    · exact h.elim
theorem tup_ok {es : List Ex} (h : tE G W Γ C C' (.tup es) σ H Q) : tTup (tEs G W Γ C C' es) σ H Q := by
  obtain ⟨lk, g, s, hR, h⟩ := h
  refine ⟨lk, g, s, hR, ?_⟩
  have h : Post G W lk g σ H ((evs Γ C C' lk es s).bind fun vs s1 => if stoAll vs && decide (vs.length ≤ 1000) then okF (.tup (vals vs)) s1 else .no) Q := h
  cases ea : evs Γ C C' lk es s with
  | no => rw [ea] at h; exact h.elim
  | exc c xs s1 => rw [ea] at h; exact h
  | ok vs s1 =>
    rw [ea] at h
    have h : Post G W lk g σ H (if stoAll vs && decide (vs.length ≤ 1000) then okF (.tup (vals vs)) s1 else .no) Q := h
    intro g1 H1 xs r1 k1 p1
    split at h
    · rename_i hc
      rw [Bool.and_eq_true] at hc
      have hl : vs.length ≤ 1000 := of_decide_eq_true hc.2
      refine ⟨by rw [← Paired.len p1]; exact small_sz hl, fun p hp => ?_⟩
      exact Post.newT r1 (Post.keep k1 h) (RepL.reps hc.1 p1) hp
    · exact h.elim

/-! ### one operand -/
theorem one_ok {a : Ex} {F : List Pl → V → S → Res V} {K : L2.V → Hp → VK → Prop}
    (hr : ∀ lk g s H x vx Q, R G g lk s σ H → Rep G g H (mdO lk x.1) x.2 vx → Post G W lk g σ H (F lk x s) Q → K vx H Q)
    (hR : R G g lk s σ H) (h : Post G W lk g σ H ((ev Γ C C' lk a s).bind fun x s1 => F lk x s1) Q) :
    tE G W Γ C C' a σ H fun vx H1 => K vx H1 Q := by
  refine ⟨lk, g, s, hR, ?_⟩
  cases ea : ev Γ C C' lk a s with
  | no => rw [ea] at h; exact h.elim
  | exc c xs s1 => rw [ea] at h; exact h
  | ok x s1 =>
    rw [ea] at h
    exact fun g1 H1 vx r1 k1 p1 => hr lk g1 s1 H1 x vx Q r1 p1 (Post.keep k1 h)

/-! ### the operators -/
def opOf : Op → Operator
  | .add => .Add | .sub => .Sub | .mul => .Mult | .fdiv => .FloorDiv | .mod => .Mod | .band => .BitAnd | .bor => .BitOr
def rTxt : R2 := fun x y H Q => ∃ i j, x = .str i ∧ y = .str j ∧ i.length + j.length ≤ sizeLine ∧ Q (.str (i ++ j)) H
/-- a list that is read, times an int -/
def rRepL (K : PySem.W.Frag) : R2 := fun x y H Q => ∃ l k xs, x = .ref l ∧ y = .int k ∧ SqL K H l xs ∧ -(2 ^ 63) ≤ k ∧ k < 2 ^ 63 ∧ xs.length * k.toNat ≤ sizeLine ∧ ∀ p, H p = none → Q (.ref p) (upd H p (.lst (List.replicate k.toNat xs).flatten))
theorem Reps.rep {ts : List T} {vs : List L2.V} (h : Reps G g H ts vs) : ∀ n : Nat, Reps G g H (List.replicate n ts).flatten (List.replicate n vs).flatten
  | 0 => .nil
  | n + 1 => by
    rw [List.replicate_succ, List.replicate_succ, List.flatten_cons, List.flatten_cons]
    exact h.append (Reps.rep h n)
theorem int_rmulW (a : Int) (t : Tok) (l : Addr) (items : Array Value) (n : Nat) (dd : Option Addr) (sl : Array (Option Value)) :
    Meets (Builtin.«int.__rmul__» ⟨[.int a t, .ref l], []⟩) (fun _ R s => s.heap.get? l = some { cls := .type "list", dict := dd, data := .seq items n, slots := sl } ∧ R (.ok (.ret Value.notImplemented)) s) :=
  .of_wp fun prog w A R s h => by obtain ⟨hp, g, d, tk, os⟩ := s; obtain ⟨hl, h⟩ := h; wp_walk using AutoSeq1.wpAny_loadPart' hl; exact ⟨_, rfl, h⟩
theorem list_mulW (l : Addr) (items : Array Value) (n : Nat) (x : Int) (u : Tok) (dd : Option Addr) (sl : Array (Option Value)) (hc0 : ¬(!Builtin.List.listFitsIndex x) = true) (hc1 : ¬items.size * x.toNat > (2 ^ 63 - 1) / 8) (hc2 : ¬Builtin.List.listTooLong (items.size * x.toNat) = true) :
    Meets (Builtin.«list.__mul__» ⟨[.ref l, .int x u], []⟩) (fun _ R s => s.heap.get? l = some { cls := .type "list", dict := dd, data := .seq items n, slots := sl } ∧ R (.ok (.ret (Value.ref s.heap.objs.size))) { s with heap := s.heap.push { cls := Value.type "list", data := Data.seq (List.foldl (fun x1 x2 => x1 ++ x2) #[] (List.replicate (if items.isEmpty = true then 0 else x.toNat) items)) }, toks := s.toks }) :=
  .of_wp fun prog w A R s h => by
    obtain ⟨hp, g, d, tk, os⟩ := s; obtain ⟨hl, h⟩ := h
    have hsz := PySem.AutoListH.joined_fits hc2
    wp_walk using AutoSeq1.wpAny_loadPart' hl; refine wpAny_ite_false (decide_eq_false (Nat.not_lt.mpr hsz)) ?_; wp_walk using AutoSeq1.wpAny_loadPart' hl; exact ⟨_, rfl, h⟩
theorem op_repL {X : Cx} : OpR X (binaryOp .Mult) (rRepL X.K) := by
  intro pins s σ H x y v u Q I rx ry h
  obtain ⟨l, k, xs, rfl, rfl, hH, h1, h2, hz, q⟩ := h
  cases rx
  obtain ⟨t, rfl⟩ := ry
  obtain ⟨its, r, ⟨⟨c1, d1, dt1, s1⟩, n, e, hc, hd, hdt⟩, hl'⟩ := I.list hH
  simp only at hc hd hdt
  subst hc hd hdt
  have hl : xs.length = its.length := r.length
  have hlen : its.toArray.size * k.toNat ≤ sizeLine := by rw [List.size_toArray, ← hl]; exact hz
  have hcap : ¬ its.toArray.size * k.toNat > (2 ^ 63 - 1) / 8 := by
    have : (sizeLine : Nat) ≤ (2 ^ 63 - 1) / 8 := by decide
    omega
  have hfit : ¬ (!Builtin.List.listFitsIndex k) = true := by
    rw [fitsIndex_both h1 h2]
    exact Bool.false_ne_true
  have hlong : ¬ Builtin.List.listTooLong (its.toArray.size * k.toNat) = true := by
    rw [notLongL hlen]
    exact Bool.false_ne_true
  have hnew : List.foldl (fun x1 x2 => x1 ++ x2) #[] (List.replicate (if its.toArray.isEmpty = true then 0 else k.toNat) its.toArray) = (List.replicate k.toNat its).flatten.toArray := by
    have f0 : ∀ m : Nat, List.foldl (fun x1 x2 => x1 ++ x2) #[] (List.replicate m its.toArray) = (List.replicate m its).flatten.toArray := fun m => by
      have := foldl_rep its m []
      rw [List.nil_append] at this
      exact this
    rw [f0]
    cases its with
    | nil => simp
    | cons a r' => rw [if_neg (by simp)]
  refine wpAny_binaryOp_repeat_ref (T := "list") (U := "int") (by decide) ⟨_, e, rfl⟩ (fun s' => typeIs_int s' k t) noFill_list_mul F.fills_int_mul F.slot_int_rmul repeat_list F.slot_int_index.lookup
    (call_meets F.slot_int_rmul (typeIs_int s k t) F.entry_int_rmul (F.args_int_rmul_2 _ _) (int_rmulW k t l its.toArray n _ _)
      ⟨e, rfl, ⟨_, e, rfl⟩, call_meets F.slot_list_mul ⟨_, e, rfl⟩ F.entry_list_mul (F.args_list_mul_2 _ _) (list_mulW l its.toArray n k t _ _ hfit hcap hlong) ⟨e, ?_⟩⟩)
  rw [hnew]
  exact ⟨.ref _, _, I.lnew (t' := s.toks) (r.rep k.toNat) (by rw [PyProof.Rows.lm_len_rep_flat, Nat.mul_comm]; exact hz), rfl, q _ I.fresh⟩
def rBin (K : PySem.W.Frag) : Op → R2
  | .add => fun x y H Q => rI0 (fun i j => .int (i + j)) x y H Q ∨ rCatL K x y H Q ∨ rCatA K x y H Q ∨ rTxt x y H Q
  | .sub => rI0 fun i j => .int (i - j)
  | .mul => fun x y H Q => rI CMul (fun i j => .int (i * j)) x y H Q ∨ rRepL K x y H Q
  | .fdiv => rI CDiv fun i j => .int (i / j)
  | .mod => rI (fun _ j => 0 < j) fun i j => .int (i % j)
  | _ => fun _ _ _ _ => False
theorem OpR.false {X : Cx} {f : Value → Value → Sem Value} : OpR X f fun _ _ _ _ => False := fun _ _ _ _ _ _ _ _ _ _ _ _ h => h.elim
theorem op_bin {X : Cx} : ∀ o : Op, OpR X (binaryOp (opOf o)) (rBin X.K o)
  | .add => op_add.or (op_catL.or (op_catA.or op_add_str))
  | .sub => op_sub
  | .mul => op_mul.or op_repL
  | .fdiv => op_fdiv
  | .mod => op_mod
  | .band => OpR.false
  | .bor => OpR.false
/-- box operators are another thing -/
def Op.flat : Op → Bool
  | .band => false
  | .bor => false
  | _ => true
theorem Rep.int_inv {o : Ow} {i : Int} {v : L2.V} (h : Rep G g H o (.int i) v) : v = .int i := by cases h; rfl
theorem bin_ok {o : Op} (ho : o.flat = true) {x y : V} {vx vy : L2.V} {o1 o2 : Ow} (hR : R G g lk s σ H) (hx : Rep G g H o1 x.2 vx) (hy : Rep G g H o2 y.2 vy)
    (h : Post G W lk g σ H (binR Γ C' lk o x y s) Q) : rBin G.K o vx vy H Q := by
  unfold binR at h
  split at h
  · rename_i i j e1 e2
    rw [e1] at hx
    rw [e2] at hy
    have := hx.int_inv; subst this
    have := hy.int_inv; subst this
    split at h
    · rename_i k hk
      have q : Q (.int k) H := Post.old hR h .int
      cases o with
      | add => cases hk; exact .inl ⟨i, j, rfl, rfl, q⟩
      | sub => cases hk; exact ⟨i, j, rfl, rfl, q⟩
      | mul =>
        simp only [opI] at hk
        split at hk
        · rename_i hc; cases hk; exact .inl ⟨i, j, rfl, rfl, hc.symm, q⟩
        · cases hk
      | fdiv =>
        simp only [opI] at hk
        split at hk
        · rename_i hc; cases hk; exact ⟨i, j, rfl, rfl, hc, q⟩
        · cases hk
      | mod =>
        simp only [opI] at hk
        split at hk
        · rename_i hc; cases hk; exact ⟨i, j, rfl, rfl, hc, q⟩
        · cases hk
      | band => cases ho
      | bor => cases ho
    · exact h.elim
  · rename_i a b e1 e2
    rw [e1] at hx
    rw [e2] at hy
    split at h
    · rename_i hc
      obtain ⟨rfl, hz⟩ := hc
      obtain ⟨l1, v1, rfl, q1, z1, p1⟩ := hx.sql
      obtain ⟨l2, v2, rfl, q2, z2, p2⟩ := hy.sql
      refine .inr (.inl ⟨l1, l2, v1, v2, rfl, rfl, q1, q2, by rw [← p1.length, ← p2.length, ← szL_eq]; exact hz, fun p hp => ?_⟩)
      exact Post.newL hR h (p1.append p2) (by rw [List.length_append]; exact hz) hp
    · exact h.elim
  · rename_i a j e1 e2
    split at h
    · rename_i hc
      obtain ⟨rfl, h0, h1, hz⟩ := hc
      rw [e1] at hx
      rw [e2] at hy
      obtain ⟨l1, v1, rfl, q1, z1, p1⟩ := hx.sql
      cases Rep.int_inv hy
      refine .inr ⟨l1, j, v1, rfl, rfl, q1, by omega, by omega, by rw [← p1.length, ← szL_eq]; exact hz, fun p hp => ?_⟩
      have hlen : (List.replicate j.toNat a).flatten.length ≤ szL := by rw [List.length_flatten, List.map_replicate, List.sum_replicate_nat, Nat.mul_comm]; exact hz
      exact Post.newL hR h (p1.rep j.toNat) hlen hp
    · exact h.elim
  · rename_i a b e1 e2
    rw [e1] at hx
    rw [e2] at hy
    split at h
    · rename_i hc
      obtain ⟨rfl, hz⟩ := hc
      obtain ⟨l1, v1, rfl, q1, p1⟩ := hx.sqt
      obtain ⟨l2, v2, rfl, q2, p2⟩ := hy.sqt
      refine .inr (.inr (.inl ⟨l1, l2, v1, v2, rfl, rfl, q1, q2, by rw [← p1.length, ← p2.length, ← szL_eq]; exact hz, fun e => ?_, fun e1 e => ?_, fun _ _ p hp => ?_⟩))
      · subst e
        cases p1
        exact Post.old hR h (by rw [List.nil_append]; exact hy.free rfl)
      · subst e
        cases p2
        exact Post.old hR h (by rw [List.append_nil]; exact hx.free rfl)
      · exact Post.newT hR h (p1.append p2) hp
    · exact h.elim
  · rename_i a b e1 e2
    rw [e1] at hx
    rw [e2] at hy
    split at h
    · rename_i hc
      obtain ⟨rfl, hz⟩ := hc
      cases hx with
      | @str _ _ x ok1 =>
      cases hy with
      | @str _ _ y ok2 =>
      rw [ok1.dec, ok2.dec] at h hz
      have hz' : x.length + y.length ≤ 390 := hz
      have e : (x ++ y).cps.toList = x.cps.toList ++ y.cps.toList := TL.tl_append x y
      refine .inr (.inr (.inr ⟨x, y, rfl, rfl, by rw [sizeLine_eq]; omega, Post.old hR h (.str ⟨?_, fun c hc => ?_, ?_⟩)⟩))
      · unfold enc; rw [e]
      · rw [e] at hc
        rcases List.mem_append.mp hc with z | z
        · exact ok1.2.1 c z
        · exact ok2.2.1 c z
      · show (x ++ y).cps.size ≤ 390
        rw [← Array.length_toList, e, List.length_append]; exact hz
    · exact h.elim
  · rename_i n m e1 e2
    cases o <;> first | exact h.elim | cases ho
  · exact h.elim
end
end Mi

/-! dicts: Mini's tables and the hand layer's -/
namespace Mi
open PySem PySem.Spec PyProof.Rows L2
section
variable {G : Gx} {g : Gh} {H : Hp}
theorem KeyR.isKey {k : T} {kk : L2.Key} (h : KeyR k kk) : k.isKey = true := by
  cases k <;> cases kk <;> first | rfl | exact h.elim
theorem KeyR.eqv {a b : T} {x y : L2.Key} (h : KeyR a x) (h' : KeyR b y) : a.eqv b = decide (y = x) := by
  cases a <;> cases x <;> first | exact h.elim | skip
  · cases b <;> cases y <;> first | exact h'.elim | skip
    · cases h; cases h'
      rw [Bool.eq_iff_iff]
      simp only [T.eqv, beq_iff_eq, decide_eq_true_eq, Sum.inl.injEq]
      exact eq_comm
    · symm; exact decide_eq_false (fun z => by cases z)
  · cases b <;> cases y <;> first | exact h'.elim | skip
    · symm; exact decide_eq_false (fun z => by cases z)
    · rename_i n x m y
      have h : StrOk x n := h
      have h' : StrOk y m := h'
      have := StrOk.eq h h'
      rw [Bool.eq_iff_iff] at this ⊢
      simp only [T.eqv, beq_iff_eq, decide_eq_true_eq, Sum.inr.injEq] at this ⊢
      exact ⟨fun z => (this.mpr z).symm, fun z => this.mp z.symm⟩
theorem KeyR.of {o : Ow} {k : T} {v : L2.V} (h : Rep G g H o k v) (e : k.isKey = true) : ∃ kk, KeyR k kk ∧ v = kV kk := by
  cases h with
  | int => exact ⟨.inl _, rfl, rfl⟩
  | str h => exact ⟨.inr _, h, rfl⟩
  | _ => cases e
theorem Rep.dct_inv {o : Ow} {kvs : List (T × T)} {v : L2.V} (h : Rep G g H o (.dct kvs) v) : ∃ a dvs, v = .ref a ∧ g.ow a = some o ∧ At H o a (.dK dvs) ∧ kvs.length ≤ szL ∧ KReps G g H kvs dvs := by
  cases h with
  | dct w h z r => exact ⟨_, _, rfl, w, h, z, r⟩
theorem KReps.length {kvs : List (T × T)} {dvs : List (L2.Key × L2.V)} (r : KReps G g H kvs dvs) : kvs.length = dvs.length := by
  induction kvs generalizing dvs with
  | nil => cases r; rfl
  | cons q kvs ih =>
    cases r with
    | cons e nk h r => rw [List.length_cons, List.length_cons, ih r]
theorem KReps.look {k : T} {kk : L2.Key} (hk : KeyR k kk) : ∀ {kvs : List (T × T)} {dvs : List (L2.Key × L2.V)}, KReps G g H kvs dvs →
    (k.look kvs = none ∧ valV dvs kk = none) ∨ ∃ t v, k.look kvs = some t ∧ valV dvs kk = some v ∧ Rep G g H .fz t v
  | _, _, .nil => .inl ⟨rfl, rfl⟩
  | (a, t) :: kvs, (x, v) :: dvs, .cons e nk h r => by
    have q := KeyR.eqv hk e
    by_cases z : x = kk
    · right
      refine ⟨t, v, ?_, valV_pos (p := (x, v)) z, h⟩
      unfold T.look
      rw [q, decide_eq_true z]; rfl
    · have hq : k.look ((a, t) :: kvs) = k.look kvs := by
        conv => lhs; unfold T.look
        rw [q, decide_eq_false z]; rfl
      rw [hq, valV_neg (p := (x, v)) z]
      exact KReps.look hk r
theorem putK_nil {κ : Type} [DecidableEq κ] {k : κ} {v : L2.V} : putK ([] : List (κ × L2.V)) k v = [(k, v)] := rfl
theorem putK_pos {κ : Type} [DecidableEq κ] {k : κ} {u v : L2.V} {r : List (κ × L2.V)} (nk : ∀ q ∈ r, q.1 ≠ k) : putK ((k, u) :: r) k v = (k, v) :: r := by
  unfold putK
  rw [if_pos (by rw [List.any_cons]; simp)]
  rw [List.map_cons, if_pos rfl]
  congr 1
  have : ∀ q ∈ r, (if q.1 = k then (q.1, v) else q) = q := fun q hq => if_neg (nk q hq)
  exact (List.map_congr_left this).trans (List.map_id' r)
theorem putK_neg {κ : Type} [DecidableEq κ] {x k : κ} {u v : L2.V} {r : List (κ × L2.V)} (z : x ≠ k) : putK ((x, u) :: r) k v = (x, u) :: putK r k v := by
  unfold putK
  rw [List.any_cons, decide_eq_false z, Bool.false_or, List.map_cons, if_neg z]
  split <;> rfl
theorem putK_keys {κ : Type} [DecidableEq κ] {k x : κ} {v : L2.V} (z : x ≠ k) : ∀ {r : List (κ × L2.V)}, (∀ q ∈ r, q.1 ≠ x) → ∀ q ∈ putK r k v, q.1 ≠ x
  | [], _, q, hq => by
    rw [putK_nil, List.mem_singleton] at hq
    subst hq
    exact fun e => z e.symm
  | (y, u) :: r, h, q, hq => by
    by_cases e : y = k
    · have : putK ((y, u) :: r) k v = ((y, u) :: r).map (fun kv => if kv.1 = k then (kv.1, v) else kv) := by
        unfold putK
        rw [if_pos (by rw [List.any_cons, decide_eq_true e]; rfl)]
      rw [this] at hq
      obtain ⟨w, hw, rfl⟩ := List.mem_map.mp hq
      split <;> exact h w hw
    · rw [putK_neg e] at hq
      rcases List.mem_cons.mp hq with rfl | hq
      · exact h _ List.mem_cons_self
      · exact putK_keys z (fun q hq => h q (List.mem_cons_of_mem _ hq)) q hq
theorem KReps.put {k t : T} {kk : L2.Key} {v : L2.V} (hk : KeyR k kk) (ht : Rep G g H .fz t v) : ∀ {kvs : List (T × T)} {dvs : List (L2.Key × L2.V)}, KReps G g H kvs dvs → KReps G g H (T.put k t kvs) (putK dvs kk v)
  | _, _, .nil => .cons hk (fun _ h => nomatch h) ht .nil
  | (a, t0) :: kvs, (x, v0) :: dvs, .cons e nk h r => by
    have q := KeyR.eqv hk e
    by_cases z : x = kk
    · subst z
      rw [putK_pos nk]
      have : T.put k t ((a, t0) :: kvs) = (a, t) :: kvs := by
        unfold T.put
        rw [q, decide_eq_true rfl]; rfl
      rw [this]
      exact .cons e nk ht r
    · rw [putK_neg z]
      have : T.put k t ((a, t0) :: kvs) = (a, t0) :: T.put k t kvs := by
        conv => lhs; unfold T.put
        rw [q, decide_eq_false z]; rfl
      rw [this]
      exact .cons e (putK_keys z nk) h (KReps.put hk ht r)
/-! ### keys that are tuples -/
theorem KeyRs.eqv : ∀ {as bs : List T} {xs ys : List L2.Key}, KeyRs as xs → KeyRs bs ys → T.eqvs as bs = decide (ys = xs)
  | [], [], [], [], _, _ => rfl
  | [], _ :: _, [], [], _, h => h.elim
  | [], [], _ :: _, _, h, _ => h.elim
  | [], _ :: _, _ :: _, _, h, _ => h.elim
  | _ :: _, _, [], _, h, _ => h.elim
  | _ :: _, [], _ :: _, _ :: _, _, h => h.elim
  | _, _ :: _, _, [], _, h => h.elim
  | _ :: _, [], _ :: _, [], _, _ => by simp [T.eqvs]
  | [], _ :: _, [], _ :: _, _, _ => by simp [T.eqvs]
  | [], [], [], _ :: _, _, h => h.elim
  | a :: as, b :: bs, x :: xs, y :: ys, h, h' => by
    have h1 : KeyR a x ∧ KeyRs as xs := h
    have h2 : KeyR b y ∧ KeyRs bs ys := h'
    simp only [T.eqvs]
    rw [KeyR.eqv h1.1 h2.1, KeyRs.eqv h1.2 h2.2]
    by_cases e1 : y = x <;> by_cases e2 : ys = xs <;> simp [e1, e2]
theorem KeyU.eqv {a b : T} {x y : List L2.Key} (h : KeyU a x) (h' : KeyU b y) : a.eqv b = decide (y = x) := by
  cases a <;> first | exact h.elim | skip
  cases b <;> first | exact h'.elim | skip
  simp only [T.eqv]
  exact KeyRs.eqv h h'
theorem KeyRs.of : ∀ {ts : List T} {vs : List L2.V}, Reps G g H ts vs → ts.all T.isKey = true → ∃ ks, KeyRs ts ks ∧ vs = ks.map kV
  | _, _, .nil, _ => ⟨[], trivial, rfl⟩
  | _, _, .cons h r, e => by
    rw [List.all_cons, Bool.and_eq_true] at e
    obtain ⟨k, h1, rfl⟩ := KeyR.of h e.1
    obtain ⟨ks, h2, rfl⟩ := KeyRs.of r e.2
    exact ⟨k :: ks, ⟨h1, h2⟩, rfl⟩
theorem isKeyU_tup {k : T} (e : k.isKeyU = true) : ∃ ts, k = .tup ts := by
  cases k <;> first | exact ⟨_, rfl⟩ | cases e
theorem KeyU.of {o : Ow} {k : T} {v : L2.V} (h : Rep G g H o k v) (e : k.isKeyU = true) : ∃ kk b, KeyU k kk ∧ v = .ref b ∧ g.ow b = some .fz ∧ H b = some (.tup (kk.map kV)) := by
  obtain ⟨ts, rfl⟩ := isKeyU_tup e
  cases h with
  | tup h r =>
    have e2 : (!ts.isEmpty && ts.all T.isKey && !lastAny ts) = true := e
    rw [Bool.and_eq_true, Bool.and_eq_true] at e2
    obtain ⟨ks, h1, rfl⟩ := KeyRs.of r e2.1.2
    rcases h with ⟨h3, h4⟩ | ⟨h3, _⟩
    · exact ⟨ks, _, h1, rfl, h3, h4⟩
    · rw [e] at h3; cases h3
theorem Rep.dcu_inv {o : Ow} {kvs : List (T × T)} {v : L2.V} (h : Rep G g H o (.dcu kvs) v) : ∃ a dvs, v = .ref a ∧ g.ow a = some o ∧ At H o a (.dT dvs) ∧ kvs.length ≤ szL ∧ TReps G g H kvs dvs := by
  cases h with
  | dcu w h z r => exact ⟨_, _, rfl, w, h, z, r⟩
theorem TReps.length {kvs : List (T × T)} {dvs : List (List L2.Key × L2.V)} (r : TReps G g H kvs dvs) : kvs.length = dvs.length := by
  induction kvs generalizing dvs with
  | nil => cases r; rfl
  | cons q kvs ih =>
    cases r with
    | cons e ku kb nk h r => rw [List.length_cons, List.length_cons, ih r]
theorem TReps.look {k : T} {kk : List L2.Key} (hk : KeyU k kk) : ∀ {kvs : List (T × T)} {dvs : List (List L2.Key × L2.V)}, TReps G g H kvs dvs →
    (k.look kvs = none ∧ valV dvs kk = none) ∨ ∃ t v, k.look kvs = some t ∧ valV dvs kk = some v ∧ Rep G g H .fz t v
  | _, _, .nil => .inl ⟨rfl, rfl⟩
  | (a, t) :: kvs, (x, v) :: dvs, .cons e ku kb nk h r => by
    have q := KeyU.eqv hk e
    by_cases z : x = kk
    · right
      refine ⟨t, v, ?_, valV_pos (p := (x, v)) z, h⟩
      unfold T.look
      rw [q, decide_eq_true z]; rfl
    · have hq : k.look ((a, t) :: kvs) = k.look kvs := by
        conv => lhs; unfold T.look
        rw [q, decide_eq_false z]; rfl
      rw [hq, valV_neg (p := (x, v)) z]
      exact TReps.look hk r
theorem TReps.put {k t : T} {kk : List L2.Key} {v : L2.V} {b : Addr} (hk : KeyU k kk) (hu : k.isKeyU = true) (hb : g.ow b = some .fz ∧ H b = some (.tup (kk.map kV))) (ht : Rep G g H .fz t v) : ∀ {kvs : List (T × T)} {dvs : List (List L2.Key × L2.V)}, TReps G g H kvs dvs → TReps G g H (T.put k t kvs) (putK dvs kk v)
  | _, _, .nil => .cons hk hu hb (fun _ h => nomatch h) ht .nil
  | (a, t0) :: kvs, (x, v0) :: dvs, .cons e ku kb nk h r => by
    have q := KeyU.eqv hk e
    by_cases z : x = kk
    · subst z
      rw [putK_pos nk]
      have : T.put k t ((a, t0) :: kvs) = (a, t) :: kvs := by
        unfold T.put
        rw [q, decide_eq_true rfl]; rfl
      rw [this]
      exact .cons e ku kb nk ht r
    · rw [putK_neg z]
      have : T.put k t ((a, t0) :: kvs) = (a, t0) :: T.put k t kvs := by
        conv => lhs; unfold T.put
        rw [q, decide_eq_false z]; rfl
      rw [this]
      exact .cons e ku kb (putK_keys z nk) h (TReps.put hk hu hb ht r)
/-! ### reading and writing, both kinds of dict -/
/-- the kind of a dict's keys -/
def dKey (u : Bool) (k : T) : Bool := if u then k.isKeyU else k.isKey
def dOf (u : Bool) (kvs : List (T × T)) : T := if u then .dcu kvs else .dct kvs
theorem dget_of {u : Bool} {k : T} {kvs : List (T × T)} {o o' : Ow} {vd vk : L2.V} (e : dKey u k = true) (pd : Rep G g H o (dOf u kvs) vd) (pk : Rep G g H o' k vk) :
    ∃ a r, vd = .ref a ∧ DGet H a vk r ∧ ((k.look kvs = none ∧ r = none) ∨ ∃ t v, k.look kvs = some t ∧ r = some v ∧ Rep G g H .fz t v) := by
  cases u with
  | false =>
    obtain ⟨a, dvs, rfl, w, hh, z, r⟩ := Rep.dct_inv (show Rep G g H o (.dct kvs) vd from pd)
    obtain ⟨kk, hk, rfl⟩ := KeyR.of pk e
    exact ⟨a, _, rfl, .inl ⟨dvs, kk, hh.rd, rfl, rfl⟩, KReps.look hk r⟩
  | true =>
    obtain ⟨a, dvs, rfl, w, hh, z, r⟩ := Rep.dcu_inv (show Rep G g H o (.dcu kvs) vd from pd)
    obtain ⟨kk, b, hk, rfl, hb⟩ := KeyU.of pk e
    exact ⟨a, _, rfl, .inr ⟨dvs, kk, b, hh.rd, rfl, hb.2, rfl⟩, TReps.look hk r⟩
theorem put_len {k v : T} : ∀ l : List (T × T), (T.put k v l).length ≤ l.length + 1
  | [] => Nat.le_refl _
  | (a, u) :: l => by
    have ih := put_len (k := k) (v := v) l
    unfold T.put
    split
    · simp
    · simp only [List.length_cons]; omega
/-- d[k] = v: what stands at d then -/
theorem dput_of {u : Bool} {k t : T} {kvs : List (T × T)} {p : Pl} {o' : Ow} {vd vk vt : L2.V} (e : dKey u k = true) (hz : kvs.length < szL) (pd : Rep G g H (.pl p) (dOf u kvs) vd) (pk : Rep G g H o' k vk) (pt : Rep G g H .fz t vt) :
    ∃ a ob, vd = .ref a ∧ g.ow a = some (.pl p) ∧ (∀ vs, ob ≠ .tup vs) ∧ DPut H a vk vt (upd H a ob) ∧ Rep G g (upd H a ob) (.pl p) (dOf u (T.put k t kvs)) (.ref a) := by
  have hold : ∀ {a : Addr} {ob : HO}, g.ow a = some (.pl p) → Holds .fz g H g (upd H a ob) := fun {a ob} ha b h => ⟨h, upd_ne fun z => by subst z; rw [ha] at h; cases h⟩
  cases u with
  | false =>
    obtain ⟨a, dvs, rfl, w, hh, z, r⟩ := Rep.dct_inv (show Rep G g H (.pl p) (.dct kvs) vd from pd)
    obtain ⟨kk, hk, rfl⟩ := KeyR.of pk e
    refine ⟨a, .dK (putK dvs kk vt), rfl, w, fun _ z => by (cases z), .inl ⟨dvs, kk, hh, rfl, by rw [← r.length, ← szL_eq]; exact hz, rfl⟩, ?_⟩
    exact .dct w (show upd H a _ a = _ from upd_same) (Nat.le_trans (put_len kvs) hz) ((KReps.put hk pt r).tr (hold w) fun _ _ z => z)
  | true =>
    obtain ⟨a, dvs, rfl, w, hh, z, r⟩ := Rep.dcu_inv (show Rep G g H (.pl p) (.dcu kvs) vd from pd)
    obtain ⟨kk, b, hk, rfl, hb⟩ := KeyU.of pk e
    refine ⟨a, .dT (putK dvs kk vt), rfl, w, fun _ z => by (cases z), .inr ⟨dvs, kk, b, hh, rfl, hb.2, by rw [← r.length, ← szL_eq]; exact hz, rfl⟩, ?_⟩
    exact .dcu w (show upd H a _ a = _ from upd_same) (Nat.le_trans (put_len kvs) hz) ((TReps.put hk e hb pt r).tr (hold w) fun _ _ z => z)
end
end Mi

/-! the check: this Mini code is that of this syntax -/
namespace Mi
open PySem

mutual
def T.beq : T → T → Bool
  | .non, .non => true
  | .bl a, .bl b => a == b
  | .int a, .int b => a == b
  | .str a, .str b => a == b
  | .tup a, .tup b => T.beqs a b
  | .lst a, .lst b => T.beqs a b
  | .cls a, .cls b => a == b
  | _, _ => false
def T.beqs : List T → List T → Bool
  | [], [] => true
  | a :: as, b :: bs => T.beq a b && T.beqs as bs
  | _, _ => false
end
mutual
theorem T.beq_eq : ∀ {a b : T}, T.beq a b = true → a = b := by
  intro a b h
  cases a <;> cases b <;> simp only [T.beq, beq_iff_eq, reduceCtorEq, Bool.false_eq_true] at h <;> first | rfl | (rw [h]) | (rw [T.beqs_eq h])
theorem T.beqs_eq : ∀ {a b : List T}, T.beqs a b = true → a = b := by
  intro a b h
  cases a <;> cases b <;> simp only [T.beqs, Bool.and_eq_true, Bool.false_eq_true] at h
  · rfl
  · rw [T.beq_eq h.1, T.beqs_eq h.2]
end

/-- what the check knows: names of slots, constants, defs, classes of the module; attributes; those that may be written; classmethods and staticmethods; method codes -/
structure Kc where
  N : List Str
  consts : List (Str × T)
  fns : List (Str × Nat)
  clss : List (Str × Nat)
  flds : List Str := []
  pls : List Str := []
  cms : List ((Str × Str) × (Nat × Nat)) := []
  /-- staticmethods that are called by their class, without arguments -/
  sms : List ((Str × Str) × (Nat × Nat)) := []
  mcs : List Nat := []
  /-- exception classes -/
  exs : List (Str × Nat) := []
  /-- not in an except suite -/
  calm : Bool := true

def headOk : Expr → Bool
  | .Starred _ _ => false
  | .Slice _ _ _ _ => false
  | .NamedExpr _ _ _ => false
  | .Lambda _ _ _ _ => false
  | .Await _ _ => false
  | .Yield _ _ => false
  | .YieldFrom _ _ => false
  | .GeneratorExp _ _ _ _ => false
  | .Set _ _ _ => false
  | .SetComp _ _ _ _ => false
  | .IfExp _ _ _ _ => false
  | .JoinedStr _ _ => false
  | .FormattedValue _ _ _ _ => false
  | _ => true
def notSuper : Expr → Bool
  | .Call (.Name id _) [] [] _ => id != "super"
  | _ => true
def seen (sc : Scope) (x : Str) : Bool := match sc.names.lookup x with
  | some .local => true
  | some .cell => true
  | some .free => true
  | _ => false
def held (sc : Scope) (x : Str) : Bool := match sc.names.lookup x with
  | some .local => true
  | some .cell => true
  | _ => false
def plainName (x : Str) : Bool := !(x == ("__debug__" : Str)) && !(x == ("__classdict__" : Str)) && !(x == ("__name__" : Str))
def slotOk (D : Kc) (sc : Scope) (i : Nat) (x : Str) : Bool := decide (D.N[i]? = some x) && seen sc x && plainName x
def globOk (sc : Scope) (x : Str) : Bool := decide (sc.names.lookup x = some .globalImplicit) && plainName x
def strC (x : Str) : Bool := x.cps.all (· < 255) && decide (x.length ≤ 390)
def constOk : T → Const → Bool
  | .non, .none => true
  | .bl b, .bool c => b == c
  | .int i, .int j => i == j
  | .str n, .str x => n == enc x && strC x
  | _, _ => false
def isNoneC : Expr → Bool
  | .Constant .none _ _ => true
  | _ => false
def coOf : Co → CmpOp
  | .eq => .Eq | .ne => .NotEq | .lt => .Lt | .le => .LtE | .gt => .Gt | .ge => .GtE | .isin => .In | .notin => .NotIn | .isn => .Is | .notn => .IsNot

def isNonX : Ex → Bool
  | .cst .non => true
  | _ => false
theorem isNonX_ok {b : Ex} (h : isNonX b = true) : b = .cst .non := by
  unfold isNonX at h
  split at h
  · rfl
  · cases h
def coHot : Co → Bool
  | .le => false
  | .isin => false
  | .notin => false
  | _ => true
def chkL {α β : Type} (p : α → β → Bool) : List α → List β → Bool
  | [], [] => true
  | a :: as, b :: bs => p a b && chkL p as bs
  | _, _ => false
/-! targets -/
def slotN (D : Kc) (sc0 : Scope) (i : Nat) : Expr → Bool
  | .Name x _ => decide (D.N[i]? = some x) && held sc0 x
  | _ => false
def chkTg (D : Kc) (sc0 : Scope) : Tg → Expr → Bool
  | .one i, e => slotN D sc0 i e
  | .many is, .Tuple es _ _ => chkL (slotN D sc0) is es
  | _, _ => false
def ownOf : Tg → Expr → List (Str × Nat)
  | .one i, .Name x _ => [(x, i)]
  | .many is, .Tuple es _ _ => (es.filterMap fun e => match e with | .Name x _ => some x | _ => none).zip is
  | _, _ => []
def biName : Bi → Str
  | .len => "len" | .range => "range" | .enum => "enumerate" | .any => "any" | .all => "all" | .list => "list" | .tuple => "tuple" | .int => "int" | .str => "str"
def tyName : Ty → Str
  | .bool => "bool" | .int => "int" | .str => "str" | .tuple => "tuple" | .list => "list" | .dict => "dict" | .cls _ => "object"
def isiK (t : Ty) : Bool := match t with | .cls _ => false | _ => true
def isComp : Expr → Bool
  | .ListComp _ _ _ _ => true
  | .SetComp _ _ _ _ => true
  | .DictComp _ _ _ _ _ => true
  | _ => false
def isTup : Expr → Bool
  | .Tuple _ _ _ => true
  | .List _ _ => true
  | _ => false
def isRange : Ex → Bool
  | .bi .range _ => true
  | _ => false
def neL {α : Type} : List α → Bool
  | [] => false
  | _ => true

def chkCst (D : Kc) (sc : Scope) (t : T) (e : Expr) : Bool := match e with
  | .Constant k _ _ => constOk t k
  | .Name x _ => globOk sc x && (match D.consts.lookup x with | some u => T.beq t u | none => false)
  | .BinOp (.Constant (.int a) _ _) .Pow (.Constant (.int b) _ _) _ => decide (0 ≤ b) && decide (b ≤ 1000) && decide (a.natAbs < 2 ^ 64) && T.beq t (.int (a ^ b.toNat))
  | .UnaryOp .USub (.Constant (.int a) _ _) _ => T.beq t (.int (-a))
  | _ => false
section
variable (D : Kc) (sc : Scope) (E : Ex → Expr → Bool)
def chkItE (c : Ex) (e : Expr) : Bool := match c with
  | .bi .range [a] => (match e with
    | .Call (.Name x _) [a'] [] _ => x == ("range" : Str) && globOk sc x && headOk a' && E a a'
    | _ => false)
  | c => !isRange c && headOk e && E c e
def chkO (c : Option Ex) (e : Option Expr) : Bool := match c, e with
  | none, none => true
  | some c, some e => E c e
  | _, _ => false
def kwNames : List Keyword → Option (List Str)
  | [] => some []
  | ⟨some x, _, _⟩ :: r => (kwNames r).map (x :: ·)
  | _ => none
def nodupS : List Str → Bool
  | [] => true
  | x :: xs => !xs.contains x && nodupS xs
def chkKw (ks : List Nat) (as : List Ex) (kws : List Keyword) : Bool := match kwNames kws with
  | some xs => decide (ks = xs.map enc) && xs.all strC && nodupS xs && decide (xs.length < 4) && chkL E as (kws.map (·.value))
  | none => false
def chkAtt (c : Ex) (m : Nat) (ks : List Nat) (as : List Ex) (x : Expr) (y : Str) (es : List Expr) (kws : List Keyword) (apos pos : Pos) : Bool :=
  strC y && m == enc y && decide (8 ≤ m) && D.mcs.contains m && notSuper x && (apos.endLine == pos.line) && decide (es.length < 20) && E c x && chkL E (as.take es.length) es && chkKw E ks (as.drop es.length) kws
def chkCm (f : Nat) (as : List Ex) (x : Expr) (y : Str) (es : List Expr) (apos pos : Pos) : Bool := match x with
  | .Name x _ => (match as with
    | .cst (.cls c) :: as => decide (D.cms.lookup (x, y) = some (c, f)) && globOk sc x && (apos.endLine == pos.line) && decide (es.length < 25) && chkL E as es
    | _ => false)
  | _ => false
def chkSm (f : Nat) (as : List Ex) (x : Expr) (y : Str) (es : List Expr) (apos pos : Pos) : Bool := match x with
  | .Name x _ => (match D.sms.lookup (x, y) with | some (_, g) => decide (g = f) | none => false) && globOk sc x && (apos.endLine == pos.line) && as.isEmpty && es.isEmpty
  | _ => false
def chkFn (f : Nat) (as : List Ex) (x : Str) (es : List Expr) : Bool := decide (D.fns.lookup x = some f) && globOk sc x && chkL E as es
end
/-- a display whose keys are texts, whose values are empty -/
def chkEmp : Ex → Expr → Bool
  | .lst [], .List [] _ => true
  | .dct [], .Dict [] [] _ => true
  | .dcu, .Dict [] [] _ => true
  | _, _ => false
def chkBx : List Nat → List Ex → List (Option Expr) → List Expr → Bool
  | [], [], [], [] => true
  | k :: ks, e :: es, some (.Constant (.str y) _ _) :: keys, v :: vs => k == enc y && strC y && chkEmp e v && chkBx ks es keys vs
  | _, _, _, _ => false
def chkE (D : Kc) (sc : Scope) : Nat → Ex → Expr → Bool
  | 0, _, _ => false
  | n + 1, c, e => headOk e && match c with
    | .cst t => chkCst D sc t e
    | .var i _ => (match e with | .Name x _ => slotOk D sc i x | _ => false)
    | .mv i => (match e with | .Name x _ => slotOk D sc i x | _ => false)
    | .lst cs => (match e with | .List es _ => chkL (chkE D sc n) cs es | _ => false)
    | .dct [] => (match e with | .Dict [] [] _ => true | _ => false)
    | .dcu => (match e with | .Dict [] [] _ => true | _ => false)
    | .boxd ks es => (match e with | .Dict keys values _ => !keys.isEmpty && decide (keys.length ≤ 15) && chkBx ks es keys values | _ => false)
    | .stuck => true
    | .xf i f => (match e with | .Attribute (.Name x _) y _ => slotOk D sc i x && decide (1 ≤ f) && decide (excNames[f - 1]? = some y) && strC y | _ => false)
    | .tup cs => (match e with | .Tuple es _ _ => chkL (chkE D sc n) cs es | _ => false)
    | .bin o a b => (match e with | .BinOp x p y _ => (D.calm || o.flat) && decide (p = opOf o) && chkE D sc n a x && chkE D sc n b y | _ => false)
    | .cmp o a b => (match e with
      | .Compare x [p] [y] _ => (D.calm || coHot o) && decide (p = coOf o) && chkE D sc n a x && chkE D sc n b y && (match o with | .isn => isNonX b | .notn => isNonX b | _ => true)
      | _ => false)
    | .not a => (match e with | .UnaryOp .Not x _ => chkE D sc n a x | _ => false)
    | .and a b => (match e with
      | .BoolOp .And (x :: y :: r) p => chkE D sc n a x && (match r with | [] => chkE D sc n b y | _ => chkE D sc n b (.BoolOp .And (y :: r) p))
      | _ => false)
    | .or a b => (match e with
      | .BoolOp .Or (x :: y :: r) p => chkE D sc n a x && (match r with | [] => chkE D sc n b y | _ => chkE D sc n b (.BoolOp .Or (y :: r) p))
      | _ => false)
    | .att a f _ => (match e with | .Attribute x y _ => D.calm && D.flds.contains y && f == enc y && strC y && notSuper x && chkE D sc n a x | _ => false)
    | .slc a lo hi => (match e with
      | .Subscript x (.Slice l u none _) _ => chkE D sc n a x && chkO (chkE D sc n) lo l && chkO (chkE D sc n) hi u
      | _ => false)
    | .rev a => (match e with
      | .Subscript x (.Slice none none (some (.UnaryOp .USub (.Constant (.int 1) _ _) _)) _) _ => chkE D sc n a x
      | _ => false)
    | .sub a b _ => (match e with | .Subscript x y _ => D.calm && chkE D sc n a x && chkE D sc n b y | _ => false)
    | .get a [k, d] => (match e with
      | .Call (.Attribute x y apos) [p, q] [] pos => y == ("get" : Str) && notSuper x && (apos.endLine == pos.line) && chkE D sc n a x && chkL (chkE D sc n) [k, d] [p, q]
      | _ => false)
    | .split a => (match e with
      | .Call (.Attribute x y apos) [.Constant (.str z) _ _] [] pos => y == ("split" : Str) && z == (" " : Str) && notSuper x && (apos.endLine == pos.line) && chkE D sc n a x
      | _ => false)
    | .call f as ks => D.calm && (match e with
      | .Call (.Attribute x y apos) es [] pos => ks.isEmpty && (chkCm D sc (chkE D sc n) f as x y es apos pos || chkSm D sc f as x y es apos pos)
      | .Call (.Name x _) es [] _ => ks.isEmpty && chkFn D sc (chkE D sc n) f as x es
      | _ => false)
    | .callc f as => D.calm && (match e with
      | .Call (.Name x _) es [] _ => chkFn D sc (chkE D sc n) f as x es
      | _ => false)
    | .meth o k as ks => D.calm && (match e with
      | .Call (.Attribute x y apos) es kws pos => chkAtt D (chkE D sc n) o k ks as x y es kws apos pos
      | _ => false)
    | .make c as => D.calm && (match e with | .Call (.Name x _) es [] _ => decide (D.clss.lookup x = some c) && globOk sc x && chkL (chkE D sc n) as es | _ => false)
    | .makev i as => D.calm && (match e with | .Call (.Name x _) es [] _ => slotOk D sc i x && neL es && chkL (chkE D sc n) as es | _ => false)
    | .isi a t => (match e with
      | .Call (.Name x _) [y, .Name z _] [] _ => x == ("isinstance" : Str) && globOk sc x && globOk sc z && z == tyName t && isiK t && chkE D sc n a y
      | _ => false)
    | .bi q as => D.calm && (match e with
      | .Call (.Name x _) es [] _ => x == biName q && globOk sc x && neL es && (match q with | .range => false | .enum => false | _ => true) && chkL (chkE D sc n) as es
      | _ => false)
    | .comp el g it cn => D.calm && (match e with
      | .ListComp el' [⟨t, it', ifs, 0⟩] scope _ => L2.blkC D.N sc scope (ownOf g t) && chkTg D scope g t && decide ((ownOf g t).map (·.2) = g.slots) && chkItE sc (chkE D sc n) it it' && headOk it' &&
        chkE D (L2.relS scope sc) n el el' && (match ifs with | [] => cn.isNone | [e] => chkO (chkE D (L2.relS scope sc) n) cn (some e) | _ => false)
      | _ => false)
    | _ => false
def chkIt (D : Kc) (sc : Scope) (n : Nat) (c : Ex) (e : Expr) : Bool := chkItE sc (chkE D sc n) c e

def chkSet (D : Kc) (sc : Scope) (E : Ex → Expr → Bool) (i : Nat) (e : Ex) (x : Str) (px : Pos) (v : Expr) : Bool := slotN D sc i (.Name x px) && match v with
  | .ListComp el' gs scope cpos => (decide (sc.names.lookup x = some .local) && (px.line == cpos.line) && !(scope.names.any fun (n, k) => n == x && (k == .local || k == .cell)) || decide (sc.names.lookup x = some .cell)) && E e v
  | v => !isComp v && E e v
/-- the clauses of a try -/
def chkH (D : Kc) (sc : Scope) (S : Sm → Stmt → Bool) : Hd → List ExceptHandler → Bool
  | .nil, [] => true
  | .cons c x b r, .ExceptHandler (some (.Name y _)) nm (st :: sts) _ :: hs => decide (D.exs.lookup y = some c) && globOk sc y && (match x, nm with
      | none, none => true
      | some i, some n => decide (D.N[i]? = some n) && decide (sc.names.lookup n = some .local)
      | _, _ => false) && chkL S b (st :: sts) && chkH D sc S r hs
  | _, _ => false
def chkS (D : Kc) (sc : Scope) (m : Nat) : Nat → Sm → Stmt → Bool
  | 0, _, _ => false
  | n + 1, c, st => match c with
    | .set g e => (match st with
      | .Assign [.Name x px] v _ => (match g with | .one i => chkSet D sc (chkE D sc m) i e x px v | _ => false)
      | .Assign [.Tuple es k px] v _ => (match g with | .many is => D.calm && chkTg D sc (.many is) (.Tuple es k px) && !isComp v && !isTup v && chkE D sc m e v | _ => false)
      | _ => false)
    | .setf (.var i _) f e => (match st with
      | .Assign [.Attribute (.Name x _) y _] v _ => slotOk D sc i x && D.pls.contains y && f == enc y && strC y && chkE D sc m e v
      | _ => false)
    | .seti p k e => (match st with
      | .Assign [.Subscript o k' _] v _ => chkE D sc m (paE p) o && chkE D sc m k k' && chkE D sc m e v
      | _ => false)
    | .setb i f e => (match st with
      | .Assign [.Subscript (.Name x _) (.Constant (.str y) _ _) _] v _ => slotOk D sc i x && f == enc y && strC y && chkE D sc m e v
      | _ => false)
    | .app p e => (match st with
      | .Expr (.Call (.Attribute o y apos) [v] [] cpos) _ => y == ("append" : Str) && chkE D sc m (paE p) o && notSuper o && headOk v && (apos.endLine == cpos.line) && chkE D sc m e v
      | _ => false)
    | .pops i j => (match st with
      | .Assign [.Name x px] (.Call (.Attribute (.Name y _) z apos) [] [] cpos) _ => z == ("pop" : Str) && slotN D sc i (.Name x px) && slotOk D sc j y && (apos.endLine == cpos.line)
      | _ => false)
    | .popx j => (match st with
      | .Expr (.Call (.Attribute (.Name y _) z apos) [] [] cpos) _ => z == ("pop" : Str) && slotOk D sc j y && (apos.endLine == cpos.line)
      | _ => false)
    | .aug i e => (match st with
      | .AugAssign (.Name x px) .Add v _ => slotN D sc i (.Name x px) && chkE D sc m e v
      | _ => false)
    | .exp e => (match st with | .Expr v _ => !isComp v && chkE D sc m e v | _ => false)
    | .ret e => (match st with
      | .Return none _ => (match e with | .cst .non => true | _ => false)
      | .Return (some v) _ => chkE D sc m e v
      | _ => false)
    | .ite c a b => (match st with | .If c' a' b' _ => chkE D sc m c c' && chkL (chkS D sc m n) a a' && chkL (chkS D sc m n) b b' | _ => false)
    | .for_ g it b => (match st with | .For t it' b' [] _ => D.calm && chkTg D sc g t && chkIt D sc m it it' && headOk it' && chkL (chkS D sc m n) b b' | _ => false)
    | .whl c b => (match st with | .While c' b' [] _ => chkE D sc m c c' && chkL (chkS D sc m n) b b' | _ => false)
    | .stuck => true
    | .pass => (match st with | .Pass _ => true | _ => false)
    | .cont => (match st with | .Continue _ => true | _ => false)
    | .brk => (match st with | .Break _ => true | _ => false)
    | .rai c as => (match st with
      | .Raise (some (.Call (.Name x _) (e :: es) [] _)) none _ => D.calm && decide (D.exs.lookup x = some c) && globOk sc x && chkL (chkE D sc m) as (e :: es)
      | _ => false)
    | .tr b h => (match st with
      | .Try body (h0 :: hs) [] [] _ => D.calm && chkL (chkS D sc m n) b body && chkH D sc (chkS { D with calm := false } sc m n) h (h0 :: hs)
      | _ => false)
    | _ => false
end Mi

/-! soundness: expressions without calls -/
namespace Mi
open PySem PySem.Spec PyProof.Rows L2

structure EnvOk (D : Kc) (A : AP) (sc : Scope) (X : Cx) (W : WX) : Prop where
  N : X.N = D.N
  nd : X.N.Nodup
  vis : ∀ x k, sc.names.lookup x = some k → X.env.scope.names.lookup x = some k
  consts : ∀ x t, D.consts.lookup x = some t → ∃ u v, X.mg x = some u ∧ RelV v u ∧ ∀ g H, Rep (gxOf X A) g H .fz t v
  un : X.A.units + 70 < cLine

section
variable {D : Kc} {A : AP} {sc : Scope} {X : Cx} {W : WX} {Γ : Gm} {C C' : CallF}
abbrev pE (X : Cx) (A : AP) (W : WX) (Γ : Gm) (C C' : CallF) (e : Expr) (c : Ex) : Prop := PE X e (tE (gxOf X A) W Γ C C' c)

theorem PE.of {e : Expr} {t : TE} (h : ∀ σ H Q, t σ H Q → ∃ t', PE X e t' ∧ t' σ H Q) : PE X e t :=
  ⟨fun pins s σ H Q I hw => let ⟨t', p, q⟩ := h σ H Q hw; p.run pins s σ H Q I q⟩
theorem PE.imp {e : Expr} {t t' : TE} (p : PE X e t') (h : ∀ σ H Q, t σ H Q → t' σ H Q) : PE X e t := PE.of fun σ H Q q => ⟨t', p, h σ H Q q⟩
theorem PT.imp {e : Expr} {t t' : TT} (p : PT X e t') (h : ∀ σ H Q, t σ H Q → t' σ H Q) : PT X e t := ⟨fun pins s σ H Q I hw => p.run pins s σ H Q I (h σ H Q hw)⟩
theorem PW.imp {e : Expr} {t t' : TT} (p : PW X e t') (h : ∀ σ H Q, t σ H Q → t' σ H Q) : PW X e t := ⟨fun wh pins s σ H Q I hw => p.run wh pins s σ H Q I (h σ H Q hw)⟩
theorem PA.imp {es : List Expr} {t t' : TA} (p : PA X es t') (h : ∀ σ H Q, t σ H Q → t' σ H Q) : PA X es t := ⟨fun ps pins s σ H Q I hw => p.run ps pins s σ H Q I (h σ H Q hw)⟩

/-! ### what the syntax is -/
theorem plainIx_of {b : Expr} (h : headOk b = true) : PlainIx b := by
  cases b <;> first | (intro o i; rfl) | cases h
theorem star_of {e : Expr} {es : List Expr} {env : Env} (h : headOk e = true) : starEach (e :: es) env = (false, eval e env) :: starEach es env := by
  cases e <;> first | rfl | cases h
theorem seen_vis (E : EnvOk D A sc X W) {x : Str} (h : seen sc x = true) : Vis X.env.scope x := by
  unfold seen at h
  split at h
  · rename_i e; exact .inl (E.vis _ _ e)
  · rename_i e; exact .inr (.inl (E.vis _ _ e))
  · rename_i e; exact .inr (.inr (E.vis _ _ e))
  · cases h
theorem plain_of {x : Str} (h : plainName x = true) : (x == ("__debug__" : Str)) = false ∧ (x == ("__classdict__" : Str)) = false ∧ x ≠ "__name__" := by
  unfold plainName at h
  simp only [Bool.and_eq_true, Bool.not_eq_true'] at h
  exact ⟨h.1.1, h.1.2, by simpa using h.2⟩
theorem slot_pe (E : EnvOk D A sc X W) {i : Nat} {x : Str} {pos : Pos} (h : slotOk D sc i x = true) : PE X (.Name x pos) (tVar i) := by
  unfold slotOk at h
  simp only [Bool.and_eq_true, decide_eq_true_eq] at h
  obtain ⟨h1, h2, _⟩ := plain_of h.2
  exact pe_var (by rw [E.N]; exact h.1.1) (seen_vis E h.1.2) h1 h2
theorem glob_gl (E : EnvOk D A sc X W) {x : Str} (h : globOk sc x = true) : Gl X x ∧ (x == ("__debug__" : Str)) = false ∧ x ≠ "__name__" := by
  unfold globOk at h
  simp only [Bool.and_eq_true, decide_eq_true_eq] at h
  obtain ⟨h1, h2, h3⟩ := plain_of h.2
  exact ⟨E.vis _ _ h.1, h1, h3⟩

/-! ### constants -/
theorem strC_ok {x : Str} (h : strC x = true) : StrOk x (enc x) := by
  unfold strC at h
  simp only [Bool.and_eq_true, decide_eq_true_eq] at h
  refine ⟨rfl, fun c hc => ?_, h.2⟩
  have := h.1
  rw [← Array.all_toList, List.all_eq_true] at this
  simpa using this c hc
theorem cst_ok {t : T} {v : L2.V} (hr : ∀ g H, Rep (gxOf X A) g H .fz t v) {σ : L2.St} {H : Hp} {Q : VK} (h : tE (gxOf X A) W Γ C C' (.cst t) σ H Q) : tC v σ H Q := by
  obtain ⟨lk, g, s, hR, h⟩ := h
  exact Post.old hR h (hr g H)
theorem pe_cst {t : T} {k : Const} {j : Nat} {pos : Pos} (h : constOk t k = true) : pE X A W Γ C C' (.Constant k j pos) (.cst t) := by
  cases t <;> cases k <;> simp only [constOk, Bool.false_eq_true, beq_iff_eq, Bool.and_eq_true] at h
  · exact PE.imp pe_non fun σ H Q => cst_ok fun _ _ => .non
  · subst h; exact PE.imp pe_bl fun σ H Q => cst_ok fun _ _ => .bl
  · subst h; exact PE.imp pe_int fun σ H Q => cst_ok fun _ _ => .int
  · obtain ⟨rfl, h⟩ := h
    exact PE.imp pe_str fun σ H Q => cst_ok fun _ _ => .str (strC_ok h)

/-! ### comparisons -/
def rCmp (K : PySem.W.Frag) : Co → R2
  | .eq => rEqD K
  | .ne => rNeD K
  | .lt => rI0 fun i j => .bl (decide (i < j))
  | .le => rI0 fun i j => .bl (decide (i ≤ j))
  | .gt => rI0 fun i j => .bl (decide (j < i))
  | .ge => rI0 fun i j => .bl (decide (j ≤ i))
  | .isin => fun x y H Q => rInD K x y H Q ∨ rInT K x y H Q
  | .notin => fun x y H Q => rNotInD K x y H Q ∨ rNotInT K x y H Q
  | .isn => fun x y H Q => y = .non ∧ Q (.bl (decide (x = .non))) H
  | .notn => fun x y H Q => y = .non ∧ Q (.bl (!decide (x = .non))) H
theorem op_cmp (hu : X.A.units + 70 < cLine) : ∀ o : Co, OpR X (compareOp (coOf o)) (rCmp X.K o)
  | .eq => op_eqD (by omega)
  | .ne => op_neD (by omega)
  | .lt => op_lt
  | .le => op_le
  | .gt => op_gt
  | .ge => op_ge
  | .isin => (op_inD (by omega)).or (op_inT (by omega))
  | .notin => (op_notInD (by omega)).or (op_notInT (by omega))
  | .isn => op_isN
  | .notn => op_notN
theorem nomark' {b : Expr} {op : CmpOp} (h : headOk b = true) : behindInMarks op b = false := by
  cases b <;> first | rfl | cases h
/-- what is compared with a box is another thing -/
def flatC (o : Co) (y : T) : Bool := match o, y with
  | .isin, .lst _ => true
  | .isin, .tup _ => true
  | .notin, .lst _ => true
  | .notin, .tup _ => true
  | .isin, _ => false
  | .notin, _ => false
  | .le, .box _ => false
  | _, _ => true
theorem Rep.non_iff {G : Gx} {g : Gh} {H : Hp} {o : Ow} {t : T} {v : L2.V} (h : Rep G g H o t v) : decide (v = .non) = t.isNon := by
  cases h <;> simp [T.isNon]
theorem in_ok {G : Gx} {g : Gh} {H : Hp} {lk : List Pl} {s : S} {σ : L2.St} {Q : VK} {x : V} {vx vy : L2.V} {o1 o2 : Ow} {f : Bool → Bool} {ts : List T} (hR : R G g lk s σ H) (hx : Rep G g H o1 x.2 vx) (hd : x.2.data = true) (hds : T.datas ts = true)
    (q : Q (.bl (f (x.2.isIn ts))) H) : (Rep G g H o2 (.lst ts) vy → ∃ d ds, Dp G.K H vx d ∧ Dp G.K H vy (.list ds) ∧ SeqAt.shaped d = true ∧ SeqAt.shaped (.list ds) = true ∧ Q (.bl (f (ds.any fun z => PyData.eqv z d))) H) ∧
      (Rep G g H o2 (.tup ts) vy → ∃ d ds, Dp G.K H vx d ∧ Dp G.K H vy (.tuple ds) ∧ SeqAt.shaped d = true ∧ SeqAt.shaped (.tuple ds) = true ∧ Q (.bl (f (ds.any fun z => PyData.eqv z d))) H) := by
  obtain ⟨d, h1, h2, h3, h4⟩ := hx.dat hd
  constructor
  · intro hy
    obtain ⟨d', q1, q2, q3, q4⟩ := hy.dat (n := 8) (by simp only [T.dataN]; exact hds)
    cases q2 with
    | lst q2 => exact ⟨d, _, h1, q1, shaped_of h3 h4 (Nat.le_refl _), shaped_of q3 q4 (Nat.le_refl _), by rw [q2.any h2]; exact q⟩
  · intro hy
    obtain ⟨d', q1, q2, q3, q4⟩ := hy.dat (n := 8) (by simp only [T.dataN]; exact hds)
    cases q2 with
    | tup q2 => exact ⟨d, _, h1, q1, shaped_of h3 h4 (Nat.le_refl _), shaped_of q3 q4 (Nat.le_refl _), by rw [q2.any h2]; exact q⟩
theorem DRs.any' {t : T} {d : PyData} (h : DR t d) {ts : List T} {ds : List PyData} (r : DRs ts ds) : (ds.any fun z => PyData.eqv z d) = T.isIn t ts := r.any h
theorem cmp_ok {G : Gx} {g : Gh} {H : Hp} {lk : List Pl} {s : S} {σ : L2.St} {Q : VK} {o : Co} {x y : V} {vx vy : L2.V} {o1 o2 : Ow} (ho : flatC o y.2 = true) (hn : o = .isn ∨ o = .notn → y.2 = .non) (hR : R G g lk s σ H) (hx : Rep G g H o1 x.2 vx) (hy : Rep G g H o2 y.2 vy) {lk0 : List Pl}
    (h : Post G W lk g σ H (cmpR Γ C' lk0 o x y s) Q) : rCmp G.K o vx vy H Q := by
  have data : ∀ {f : Bool → Bool}, Post G W lk g σ H (if (x.2.data && y.2.data) = true then okF (.bl (f (x.2.eqv y.2))) s else .no) Q →
      ∃ d e, Dp G.K H vx d ∧ Dp G.K H vy e ∧ SeqAt.shaped d = true ∧ SeqAt.shaped e = true ∧ Q (.bl (f (PyData.eqv d e))) H := by
    intro f h
    split at h
    · rename_i hc
      rw [Bool.and_eq_true] at hc
      obtain ⟨d, h1, h2, h3, h4⟩ := hx.dat hc.1
      obtain ⟨e, q1, q2, q3, q4⟩ := hy.dat hc.2
      exact ⟨d, e, h1, q1, shaped_of h3 h4 (Nat.le_refl _), shaped_of q3 q4 (Nat.le_refl _), by rw [h2.eqv q2]; exact Post.old hR h .bl⟩
    · exact h.elim
  have cmpI : ∀ (o' : Co), o = o' → Post G W lk g σ H (match x.2, y.2 with
      | .int i, .int j => match coI o' i j with
        | some b => okF (.bl b) s
        | none => .no
      | .box n, .box m => if o' = .le then (if sameC n m s then methR Γ C' lk0 n 4 [(.fro, .box m)] s else .no) else .no
      | _, _ => .no) Q → ∃ i j, vx = .int i ∧ vy = .int j ∧ ∀ b, coI o' i j = some b → Q (.bl b) H := by
    intro o' eo h
    split at h
    · rename_i i j e1 e2
      rw [e1] at hx
      rw [e2] at hy
      have := hx.int_inv; subst this
      have := hy.int_inv; subst this
      refine ⟨i, j, rfl, rfl, fun b hb => ?_⟩
      rw [hb] at h
      exact Post.old hR h .bl
    · rename_i n m e1 e2
      subst eo
      rw [e2] at ho
      cases o <;> first | exact h.elim | cases ho
    · exact h.elim
  cases o with
  | eq => exact data (f := id) h
  | ne => exact data (f := not) h
  | isin =>
    obtain ⟨m, t⟩ := y
    cases t with
    | lst ts =>
      simp only [cmpR, inR] at h
      split at h
      · rename_i hc
        rw [Bool.and_eq_true] at hc
        exact .inl ((in_ok (f := id) hR hx hc.1 hc.2 (Post.old hR h .bl)).1 hy)
      · exact h.elim
    | tup ts =>
      simp only [cmpR, inR] at h
      split at h
      · rename_i hc
        rw [Bool.and_eq_true] at hc
        exact .inr ((in_ok (f := id) hR hx hc.1 hc.2 (Post.old hR h .bl)).2 hy)
      · exact h.elim
    | _ => cases ho
  | notin =>
    obtain ⟨m, t⟩ := y
    cases t with
    | lst ts =>
      simp only [cmpR, inR] at h
      split at h
      · rename_i hc
        rw [Bool.and_eq_true] at hc
        exact .inl ((in_ok (f := not) hR hx hc.1 hc.2 (Post.old hR h .bl)).1 hy)
      · exact h.elim
    | tup ts =>
      simp only [cmpR, inR] at h
      split at h
      · rename_i hc
        rw [Bool.and_eq_true] at hc
        exact .inr ((in_ok (f := not) hR hx hc.1 hc.2 (Post.old hR h .bl)).2 hy)
      · exact h.elim
    | _ => cases ho
  | isn =>
    rw [hn (.inl rfl)] at hy
    cases hy
    exact ⟨rfl, by rw [hx.non_iff]; exact Post.old hR h .bl⟩
  | notn =>
    rw [hn (.inr rfl)] at hy
    cases hy
    refine ⟨rfl, ?_⟩
    rw [hx.non_iff]
    exact Post.old hR h .bl
  | lt =>
    obtain ⟨i, j, e1, e2, q⟩ := cmpI .lt rfl h
    exact ⟨i, j, e1, e2, q _ rfl⟩
  | le =>
    obtain ⟨i, j, e1, e2, q⟩ := cmpI .le rfl h
    exact ⟨i, j, e1, e2, q _ rfl⟩
  | gt =>
    obtain ⟨i, j, e1, e2, q⟩ := cmpI .gt rfl h
    exact ⟨i, j, e1, e2, q _ rfl⟩
  | ge =>
    obtain ⟨i, j, e1, e2, q⟩ := cmpI .ge rfl h
    exact ⟨i, j, e1, e2, q _ rfl⟩
end
end Mi

/-! soundness: the call of a def -/
namespace Mi
open PySem PySem.Spec PyProof.Rows L2

section
variable {G : Gx} {W : WX} {Γ : Gm} {C C' : CallF} {g g' : Gh} {H H' : Hp} {σ : L2.St} {s : S} {lk : List Pl} {Q : VK}

def parO : Mo → Ow
  | .bor => .ext
  | _ => .fz
/-- the boxes alone -/
abbrev RH (G : Gx) (g : Gh) (lk : List Pl) (hp : List Bx) (H : Hp) : Prop := R G g lk ⟨[], hp⟩ [] H
def PostC (G : Gx) (lk : List Pl) (g : Gh) (H : Hp) (r : Res V) (Q : VK) (E : XK) : Prop :=
  match r with
  | .ok v s' => ∀ g' H' x, RH G g' lk s'.hp H' → Keep g H g' H' → Rep G g' H' (mdO lk v.1) v.2 x → v.1.sto = true → Q x H'
  | .exc c xs s' => ∀ g' H' cls d, RH G g' lk s'.hp H' → Keep g H g' H' → ExcR G g' H' c xs cls d → E cls d H'
  | .no => False
/-- what a def promises: it does what Mini's call does -/
def Mo.arg : Mo → Bool
  | .fro => true
  | .bor => true
  | _ => false
def spC (G : Gx) (C : CallF) (f : Nat) (n : Nat) : Sp := fun vs H Q E => ∃ g lk hp args, vs.length = n ∧ RH G g lk hp H ∧ (∀ p ∈ lk, p.isFd = true) ∧
  Paired (fun (a : Mo × T) v => Rep G g H (parO a.1) a.2 v) args vs ∧ (∀ a ∈ args, a.1.arg = true) ∧ PostC G lk g H (C f args hp lk) Q E

def slotMark : Ow → Bool
  | .pl (.sl _) => true
  | .lkd (.sl _) => true
  | _ => false
/-- the caller's slots are another's -/
def toCall (o : Ow) : Ow := if slotMark o then .ext else o
theorem toCall_of {o : Ow} (h : slotMark o = false) : toCall o = o := by unfold toCall; rw [h]; rfl
theorem contains_fd {lk : List Pl} {p : Pl} (h : p.isFd = true) : (lk.filter Pl.isFd).contains p = lk.contains p := by
  induction lk with
  | nil => rfl
  | cons q r ih =>
    by_cases hq : q.isFd = true
    · rw [List.filter_cons_of_pos hq, contains_cons, contains_cons, ih]
    · rw [List.filter_cons_of_neg hq, contains_cons, ih]
      have : p ≠ q := fun z => hq (z ▸ h)
      simp [this]
theorem plO_fd {lk : List Pl} {n f : Nat} : plO (lk.filter Pl.isFd) (.fd n f) = plO lk (.fd n f) := by unfold plO; rw [contains_fd rfl]
theorem FR.relk {g : Gh} {H : Hp} {lk lk' : List Pl} {n : Nat} {fs : List (Nat × Bool × T)} {vs : List (Str × L2.V)} (e : ∀ f, plO lk' (.fd n f) = plO lk (.fd n f)) (h : FR G g H lk n fs vs) : FR G g H lk' n fs vs := by
  induction h with
  | nil => exact .nil
  | cons e0 nf h0 _ ih =>
    refine .cons e0 nf ?_ ih
    unfold fdO at h0 ⊢
    rw [e]; exact h0
theorem BoxR.relk {g : Gh} {H : Hp} {lk lk' : List Pl} {n : Nat} {b : Bx} {a : Addr} (e : ∀ f, plO lk' (.fd n f) = plO lk (.fd n f)) (h : BoxR G g H lk n b a) : BoxR G g H lk' n b a := by
  obtain ⟨fs, h1, h3⟩ := h
  exact ⟨fs, h1, h3.relk e⟩
theorem retag_some {ρ : Ow → Ow} {a : Addr} {o' : Ow} (h : (g.retag ρ).ow a = some o') : ∃ o, g.ow a = some o ∧ ρ o = o' := by
  cases z : g.ow a with
  | none => rw [show (g.retag ρ).ow a = (g.ow a).map ρ from rfl, z] at h; cases h
  | some o => rw [show (g.retag ρ).ow a = (g.ow a).map ρ from rfl, z] at h; exact ⟨o, rfl, Option.some.inj h⟩
theorem retag_at {ρ : Ow → Ow} {a : Addr} {o : Ow} (h : g.ow a = some o) : (g.retag ρ).ow a = some (ρ o) := by
  show (g.ow a).map ρ = _; rw [h]; rfl

/-- the heap as the callee sees it -/
theorem R.called (r : R G g lk s σ H) : RH G (g.retag toCall) (lk.filter Pl.isFd) s.hp H := by
  have hold : ∀ o, slotMark o = false → Holds o g H (g.retag toCall) H := fun o e a h => ⟨by rw [retag_at h, toCall_of e], rfl⟩
  have mp : MPre g (g.retag toCall) := fun _ _ h => h
  have r0 : R G g lk ⟨[], s.hp⟩ [] H := ⟨r.dom, rfl, fun i mo t h => by simp at h, r.ml, r.bx, r.uq, r.li, fun i t h => by simp at h, r.tq⟩
  have back : ∀ q a, ((g.retag toCall).ow a = some (.pl q) ∨ (g.retag toCall).ow a = some (.lkd q)) → q.isFd = true ∧ (g.ow a = some (.pl q) ∨ g.ow a = some (.lkd q)) := fun q a h => by
    have : ∀ o', (o' = .pl q ∨ o' = .lkd q) → (g.retag toCall).ow a = some o' → q.isFd = true ∧ g.ow a = some o' := fun o' ho h => by
      obtain ⟨o, h1, h2⟩ := retag_some h
      by_cases e : slotMark o = true
      · rw [show toCall o = .ext from if_pos e] at h2
        subst h2
        rcases ho with z | z <;> cases z
      · have e : slotMark o = false := by simpa using e
        rw [toCall_of e] at h2
        subst h2
        refine ⟨?_, h1⟩
        rcases ho with rfl | rfl <;> (cases q <;> first | rfl | cases e)
    rcases h with h | h
    · exact ⟨(this _ (.inl rfl) h).1, .inl (this _ (.inl rfl) h).2⟩
    · exact ⟨(this _ (.inr rfl) h).1, .inr (this _ (.inr rfl) h).2⟩
  have r1 : R G (g.retag toCall) (lk.filter Pl.isFd) ⟨[], s.hp⟩ [] H := by
    refine r0.go rfl (hold _ rfl) (hold _ rfl) (fun n => hold _ rfl) (fun i t v h => by simp at h) (fun n bx f t v h1 h2 h => ?_) (fun a o h => ?_) (fun q a a' h1 h2 => r.uq q a a' (back q a h1).2 (back q a' h2).2) (fun a q h => ?_) (fun a o vs h hH => by
      obtain ⟨o', h1, h2⟩ := retag_some h
      rw [r.tq a o' vs h1 hH] at h2
      exact h2.symm)
    · rw [plO_fd]
      have : slotMark (plO lk (.fd n f)) = false := by unfold plO; split <;> rfl
      exact h.tr (hold _ rfl) mp (hold _ this)
    · obtain ⟨o', h1, _⟩ := retag_some h
      exact r.dom a o' h1
    · obtain ⟨h1, h2⟩ := back q a (.inr h)
      rw [contains_fd h1]
      rcases h2 with h2 | h2
      · obtain ⟨o', z1, z2⟩ := retag_some h
        rw [h2] at z1; cases z1
        cases q with
      | sl i => cases h1
      | fd n f => exact absurd z2 (by intro z; cases z)
      · exact r.li a q h2
  exact r1
/-- the marks behind a call -/
def ret (g g' : Gh) : Gh := ⟨fun a => match g.ow a with
  | some o => if slotMark o then some o else (g'.ow a).bind fun o' => if slotMark o' then none else some o'
  | none => (g'.ow a).bind fun o' => if slotMark o' then none else some o', g'.m⟩
theorem ret_slot {a : Addr} {o : Ow} (h : g.ow a = some o) (e : slotMark o = true) : (ret g g').ow a = some o := by
  show (match g.ow a with | some o => _ | none => _) = _
  rw [h]; exact if_pos e
theorem ret_other {a : Addr} (h : ∀ o, g.ow a = some o → slotMark o = false) : (ret g g').ow a = (g'.ow a).bind fun o' => if slotMark o' then none else some o' := by
  show (match g.ow a with | some o => _ | none => _) = _
  cases e : g.ow a with
  | none => rfl
  | some o =>
    show (if slotMark o then some o else _) = _
    rw [if_neg (by rw [h o e]; decide)]
theorem ret_new {a : Addr} {o' : Ow} (h : ∀ o, g.ow a = some o → slotMark o = false) (h' : g'.ow a = some o') (e : slotMark o' = false) : (ret g g').ow a = some o' := by
  rw [ret_other h, h']; show (if slotMark o' then none else some o') = _; rw [if_neg (by rw [e]; decide)]
theorem ret_inv {a : Addr} {o' : Ow} (h : (ret g g').ow a = some o') : (g.ow a = some o' ∧ slotMark o' = true) ∨ ((∀ o, g.ow a = some o → slotMark o = false) ∧ g'.ow a = some o' ∧ slotMark o' = false) := by
  by_cases e : ∃ o, g.ow a = some o ∧ slotMark o = true
  · obtain ⟨o, h1, h2⟩ := e
    rw [ret_slot h1 h2] at h
    cases h
    exact .inl ⟨h1, h2⟩
  · have e' : ∀ o, g.ow a = some o → slotMark o = false := fun o h => by
      cases z : slotMark o with
      | false => rfl
      | true => exact (e ⟨o, h, z⟩).elim
    rw [ret_other e'] at h
    cases z : g'.ow a with
    | none => rw [z] at h; cases h
    | some o2 =>
      rw [z] at h
      have h : (if slotMark o2 then none else some o2) = some o' := h
      cases q : slotMark o2 with
      | true => rw [if_pos q] at h; cases h
      | false => rw [if_neg (by rw [q]; decide)] at h; cases h; exact .inr ⟨e', rfl, q⟩
/-- behind a call -/
theorem R.back (r : R G g lk s σ H) {hp' : List Bx} (r' : RH G g' (lk.filter Pl.isFd) hp' H') (k : Keep (g.retag toCall) H g' H') :
    R G (ret g g') lk { s with hp := hp' } σ H' ∧ Keep g H (ret g g') H' ∧ (∀ o t v, slotMark o = false → o ≠ .ext → Rep G g' H' o t v → Rep G (ret g g') H' o t v) := by
  have notS : ∀ {a o'}, g'.ow a = some o' → o' ≠ .ext → ∀ o, g.ow a = some o → slotMark o = false := fun {a o'} h e o ho => by
    cases z : slotMark o with
    | false => rfl
    | true =>
      have := (k.ext a (by rw [retag_at ho]; exact congrArg some (if_pos z))).1
      rw [h] at this
      exact (e (Option.some.inj this)).elim
  have holdN : ∀ o', slotMark o' = false → o' ≠ .ext → Holds o' g' H' (ret g g') H' := fun o' e ne a h => ⟨ret_new (notS h ne) h e, rfl⟩
  have mp : MPre g' (ret g g') := fun _ _ h => h
  have rep : ∀ o t v, slotMark o = false → o ≠ .ext → Rep G g' H' o t v → Rep G (ret g g') H' o t v := fun o t v e ne h => h.tr (holdN _ rfl (by decide)) mp (holdN _ e ne)
  have gFz : Holds .fz g H (ret g g') H' := fun a h => by
    have := k.fz a (by rw [retag_at h]; rfl)
    exact ⟨ret_new (fun o ho => by rw [h] at ho; cases ho; rfl) this.1 rfl, this.2⟩
  have gExt : Holds .ext g H (ret g g') H' := fun a h => by
    have := k.ext a (by rw [retag_at h]; rfl)
    exact ⟨ret_new (fun o ho => by rw [h] at ho; cases ho; rfl) this.1 rfl, this.2⟩
  have gS : ∀ o, slotMark o = true → Holds o g H (ret g g') H' := fun o e a h => ⟨ret_slot h e, (k.ext a (by rw [retag_at h]; exact congrArg some (if_pos e))).2⟩
  have gm : MPre g (ret g g') := fun n a h => k.m n a h
  have kk : Keep g H (ret g g') H' := by
    refine ⟨gFz, gExt, fun p => ?_, fun a h => ?_, gm⟩
    · cases p with
      | sl i => exact gS _ rfl
      | fd n f =>
        intro a h
        have := k.lkd (.fd n f) a (by rw [retag_at h]; rfl)
        exact ⟨ret_new (fun o ho => by rw [h] at ho; cases ho; rfl) this.1 rfl, this.2⟩
    · have := k.cm a (by rw [retag_at h]; rfl)
      exact ⟨ret_new (fun o ho => by rw [h] at ho; cases ho; rfl) this.1 rfl, this.2⟩
  refine ⟨⟨fun a o h => ?_, r.ln, fun i mo t h hx => ?_, r'.ml, fun n b a h1 h2 => ?_, fun p a a' h1 h2 => ?_, fun a p h => ?_, fun i t h => (r.xl i t h).tr gFz gm rfl, fun a o vs h hH => ?_⟩, kk, rep⟩
  · rcases ret_inv h with ⟨h1, h2⟩ | ⟨_, h1, _⟩
    · rw [(gS o h2 a h1).2]; exact r.dom a o h1
    · exact r'.dom a o h1
  · obtain ⟨v, h1, h2⟩ := r.sl i mo t h hx
    refine ⟨v, h1, ?_⟩
    cases mo with
    | xc => exact absurd rfl hx
    | own =>
      have e : slotMark (plO lk (.sl i)) = true := by unfold plO; split <;> rfl
      exact h2.tr gFz gm (gS _ e)
    | fro => exact h2.tr gFz gm gFz
    | bor => exact h2.tr gFz gm gExt
  · obtain ⟨h3, h4⟩ := r'.bx n b a h1 h2
    refine ⟨(holdN (.bx n) rfl (by intro z; cases z) a h3).1, ?_⟩
    have h5 : BoxR G g' H' lk n b a := BoxR.relk (fun f => plO_fd.symm) h4
    obtain ⟨fs, z1, z3⟩ := h5
    refine ⟨fs, z1, z3.go (fun t v h => rep _ _ _ rfl (by decide) h) fun f t v _ h => ?_⟩
    refine rep _ _ _ ?_ ?_ h
    · unfold plO; split <;> rfl
    · unfold plO; split <;> (intro z; cases z)
  · have key : ∀ x, ((ret g g').ow x = some (.pl p) ∨ (ret g g').ow x = some (.lkd p)) → (g.ow x = some (.pl p) ∨ g.ow x = some (.lkd p)) ∧ p.isFd = false ∨ (g'.ow x = some (.pl p) ∨ g'.ow x = some (.lkd p)) ∧ p.isFd = true := fun x h => by
      rcases h with h | h
      all_goals
        rcases ret_inv h with ⟨h1, h2⟩ | ⟨_, h1, h2⟩
        · left
          refine ⟨by first | exact .inl h1 | exact .inr h1, ?_⟩
          cases p <;> first | rfl | cases h2
        · right
          refine ⟨by first | exact .inl h1 | exact .inr h1, ?_⟩
          cases p <;> first | rfl | cases h2
    rcases key a h1 with ⟨z1, e1⟩ | ⟨z1, e1⟩
    · rcases key a' h2 with ⟨z2, e2⟩ | ⟨z2, e2⟩
      · exact r.uq p a a' z1 z2
      · rw [e1] at e2; cases e2
    · rcases key a' h2 with ⟨z2, e2⟩ | ⟨z2, e2⟩
      · rw [e1] at e2; cases e2
      · exact r'.uq p a a' z1 z2
  · rcases ret_inv h with ⟨h1, h2⟩ | ⟨_, h1, h2⟩
    · exact r.li a p h1
    · have := r'.li a p h1
      cases p with
      | sl i => cases h2
      | fd n f => rw [contains_fd rfl] at this; exact this
  · rcases ret_inv h with ⟨h1, h2⟩ | ⟨_, h1, _⟩
    · rw [(gS o h2 a h1).2] at hH; exact r.tq a o vs h1 hH
    · exact r'.tq a o vs h1 hH

/-- the arguments, as the callee has them -/
theorem args_call : ∀ {vs : List V} {xs : List L2.V}, RepL G g H lk vs xs → argsOk' vs = true → Paired (fun (a : Mo × T) v => Rep G (g.retag toCall) H (parO a.1) a.2 v) (vs.map parOf) xs
  | _, _, .nil, _ => .nil
  | v :: vs, _, .cons p r, h => by
    have h' : (argOk v && argsOk' vs) = true := h
    rw [Bool.and_eq_true] at h'
    refine .cons ?_ (args_call r h'.2)
    obtain ⟨md, t⟩ := v
    have p' : Rep G g H (pO lk md) t _ := p
    have fz : ∀ {x}, Rep G g H .fz t x → Rep G (g.retag toCall) H .fz t x := fun z => z.retagS rfl rfl id
    cases md with
    | own => exact fz p'
    | fro => exact fz p'
    | bor op =>
      cases op with
      | none => exact p'.retagS (o := .ext) rfl rfl id
      | some q =>
        by_cases hc : isCont t = true
        · cases q with
          | sl i =>
            have e : toCall (plO lk (.sl i)) = .ext := by unfold plO; split <;> rfl
            exact p'.retagS rfl e (fun _ => rfl)
          | fd n f =>
            have : (!isCont t) = true := h'.1
            rw [hc] at this; cases this
        · exact ((fz (p'.free (by simpa using hc))).free (by simpa using hc))
/-- THE CALL: what the callee promises is what Mini's call does -/
theorem call_sp {n : Nat} {f : Nat} {args : List (Mo × T)} {vs : List L2.V} (r : R G g lk s σ H) (ha : Paired (fun (a : Mo × T) v => Rep G (g.retag toCall) H (parO a.1) a.2 v) args vs) (hl : vs.length = n) (hno : ∀ a ∈ args, a.1.arg = true)
    (h : Post G W lk g σ H (callR C lk f args s) Q) : spC G C f n vs H Q fun cls d H' => W cls d σ H' := by
  refine ⟨g.retag toCall, lk.filter Pl.isFd, s.hp, args, hl, r.called, fun p hp => (List.mem_filter.mp hp).2, ha, hno, ?_⟩
  unfold callR at h
  cases e : C f args s.hp (lk.filter Pl.isFd) with
  | no => rw [e] at h; exact h.elim
  | ok v s' =>
    rw [e] at h
    intro g' H' x r' k p st
    obtain ⟨r2, k2, rep⟩ := r.back r' k
    refine h _ _ _ r2 k2 ?_
    obtain ⟨md, t⟩ := v
    cases md with
    | own => exact rep .tmp _ _ rfl (by decide) p
    | fro => exact rep .fz _ _ rfl (by decide) p
    | bor _ => cases st
  | exc c xs s' =>
    rw [e] at h
    intro g' H' cls d r' k ex
    obtain ⟨r2, k2, rep⟩ := r.back r' k
    refine h _ _ _ _ r2 k2 (ex.move (fun t v z => rep _ _ _ rfl (by decide) z) fun a ha => ?_)
    rcases r2 with _
    have ns : ∀ o, g.ow a = some o → slotMark o = false := fun o ho => by
      cases z : slotMark o with
      | false => rfl
      | true =>
        have := (k.ext a (by rw [retag_at ho]; exact congrArg some (if_pos z))).1
        rw [ha] at this; cases this
    exact ret_new ns ha rfl
end
end Mi

/-! soundness: statements -/
namespace Mi
open PySem PySem.Spec PyProof.Rows L2

section
variable (G : Gx) (W : WX)
def PostF (lk : List Pl) (D : Ends) (f : Fl) (g' : Gh) (σ' : L2.St) (H' : Hp) : Prop :=
  match f with
  | .nx => D.nx σ' H'
  | .brk => D.bk σ' H'
  | .cont => D.ct σ' H'
  | .ret v => ∀ x, Rep G g' H' (mdO lk v.1) v.2 x → v.1.sto = true → D.rt x H'
def PostS (lk : List Pl) (g : Gh) (H : Hp) (r : Res Fl) (D : Ends) : Prop :=
  match r with
  | .ok f s' => ∀ g' σ' H', R G g' lk s' σ' H' → Keep g H g' H' → PostF G lk D f g' σ' H'
  | .exc c xs s' => ∀ g' σ' H' cls d, R G g' lk s' σ' H' → Keep g H g' H' → ExcR G g' H' c xs cls d → W cls d σ' H'
  | .no => False
variable (Γ : Gm) (C C' : CallF)
def tS (c : Sm) : TS := fun D σ H => ∃ lk g s, R G g lk s σ H ∧ PostS G W lk g H (exec Γ C C' lk c s) D
def tSs (cs : List Sm) : TS := fun D σ H => ∃ lk g s, R G g lk s σ H ∧ PostS G W lk g H (execs Γ C C' lk cs s) D
end

section
variable {G : Gx} {W : WX} {Γ : Gm} {C C' : CallF} {g g1 g' : Gh} {H H1 H' : Hp} {σ : L2.St} {s s1 : S} {lk : List Pl} {D : Ends}
theorem PostS.keep {r : Res Fl} (k : Keep g H g1 H1) (h : PostS G W lk g H r D) : PostS G W lk g1 H1 r D := by
  cases r with
  | ok v s' => exact fun g' σ' H' r' k' => h g' σ' H' r' (k.trans k')
  | exc c xs s' => exact fun g' σ' H' cls d r' k' => h g' σ' H' cls d r' (k.trans k')
  | no => exact h
/-- an expression ahead of the rest of a statement -/
theorem expr_ok {e : Ex} {F : V → S → Res Fl} {K : L2.V → Hp → Prop} (hR : R G g lk s σ H) (h : PostS G W lk g H ((ev Γ C C' lk e s).bind F) D)
    (hk : ∀ v s1 g1 H1 x, R G g1 lk s1 σ H1 → Keep g H g1 H1 → Rep G g1 H1 (mdO lk v.1) v.2 x → PostS G W lk g1 H1 (F v s1) D → K x H1) : tE G W Γ C C' e σ H K := by
  refine ⟨lk, g, s, hR, ?_⟩
  cases ea : ev Γ C C' lk e s with
  | no => rw [ea] at h; exact h.elim
  | exc c xs s1 =>
    rw [ea] at h
    exact fun g' H' cls d r' k' ex => h g' σ H' cls d r' k' ex
  | ok v s1 =>
    rw [ea] at h
    exact fun g1 H1 x r1 k1 p1 => hk v s1 g1 H1 x r1 k1 p1 (PostS.keep k1 h)

/-! ### storing a name -/
/-- the new owner of a, the place p; what stood there before is let go -/
def Gh.take (g : Gh) (p : Pl) (a : Addr) : Gh := ⟨fun b => if b = a then some (.pl p) else if g.ow b = some (.pl p) then none else g.ow b, g.m⟩
theorem take_at {p : Pl} {a : Addr} : (g.take p a).ow a = some (.pl p) := if_pos rfl
theorem take_off {p : Pl} {a b : Addr} {o : Ow} (hb : b ≠ a) (h : g.ow b = some o) (ho : o ≠ .pl p) : (g.take p a).ow b = some o := by
  show (if b = a then _ else if g.ow b = some (.pl p) then none else g.ow b) = _
  rw [if_neg hb, if_neg (by rw [h]; intro z; exact ho (Option.some.inj z)), h]
theorem take_inv {p : Pl} {a b : Addr} {o : Ow} (h : (g.take p a).ow b = some o) : (b = a ∧ o = .pl p) ∨ (b ≠ a ∧ g.ow b = some o ∧ o ≠ .pl p) := by
  by_cases e : b = a
  · subst e
    rw [take_at] at h
    exact .inl ⟨rfl, (Option.some.inj h).symm⟩
  · have h : (if b = a then some (.pl p) else if g.ow b = some (.pl p) then none else g.ow b) = some o := h
    rw [if_neg e] at h
    split at h
    · cases h
    · rename_i z
      exact .inr ⟨e, h, fun q => z (by rw [h, q])⟩
theorem take_holds {p : Pl} {a : Addr} {o : Ow} (hT : g.ow a = some .tmp) (ho : o ≠ .pl p) (ht : o ≠ .tmp) : Holds o g H (g.take p a) H := fun b h =>
  ⟨take_off (fun z => by subst z; rw [hT] at h; exact ht (Option.some.inj h).symm) h ho, rfl⟩
theorem keep_take {p : Pl} {a : Addr} (hT : g.ow a = some .tmp) : Keep g H (g.take p a) H :=
  ⟨take_holds hT (by intro z; cases z) (by intro z; cases z), take_holds hT (by intro z; cases z) (by intro z; cases z), fun q => take_holds hT (by intro z; cases z) (by intro z; cases z), fun d h => take_holds hT (by intro z; cases z) (by intro z; cases z) d h, fun _ _ h => h⟩
/-- a new thing comes to a place that nothing of the state holds any more -/
theorem R.take (r : R G g lk s σ H) {p : Pl} {a : Addr} (hp : lk.contains p = false) (hT : g.ow a = some .tmp)
    (hs : ∀ i t, p = .sl i → s.loc[i]? ≠ some (some (.own, t))) (hf : ∀ n bx f t, p = .fd n f → s.hp[n]? = some bx → (f, true, t) ∉ bx.fs) : R G (g.take p a) lk s σ H := by
  have kk : ∀ q t v, q ≠ p → Rep G g H (plO lk q) t v → Rep G (g.take p a) H (plO lk q) t v := fun q t v e h => by
    have h1 : plO lk q ≠ .pl p := by unfold plO; split <;> (intro z; cases z); exact e rfl
    exact h.tr (take_holds hT (by intro z; cases z) (by intro z; cases z)) (fun _ _ z => z) (take_holds hT h1 (plO_ne (.inl rfl)))
  refine r.go rfl (take_holds hT (by intro z; cases z) (by intro z; cases z)) (take_holds hT (by intro z; cases z) (by intro z; cases z)) (fun n => take_holds hT (by intro z; cases z) (by intro z; cases z))
    (fun i t v h1 _ h2 => kk _ _ _ (fun e => hs i t e.symm h1) h2) (fun n bx f t v h1 h2 h3 => kk _ _ _ (fun e => hf n bx f t e.symm h1 h2) h3) (fun b o h => ?_) (fun q b b' h1 h2 => ?_) (fun b q h => ?_) (fun b o vs h hH => by
      rcases take_inv h with ⟨rfl, _⟩ | ⟨_, h, _⟩
      · exact absurd (r.tq _ _ vs hT hH) (by intro z; cases z)
      · exact r.tq b o vs h hH)
  · rcases take_inv h with ⟨rfl, _⟩ | ⟨_, h, _⟩
    · exact r.dom _ _ hT
    · exact r.dom _ _ h
  · have key : ∀ x, ((g.take p a).ow x = some (.pl q) ∨ (g.take p a).ow x = some (.lkd q)) → (q = p ∧ x = a) ∨ (q ≠ p ∧ (g.ow x = some (.pl q) ∨ g.ow x = some (.lkd q))) := fun x h => by
      rcases h with h | h
      · rcases take_inv h with ⟨rfl, e⟩ | ⟨_, h, e⟩
        · cases e; exact .inl ⟨rfl, rfl⟩
        · exact .inr ⟨fun z => e (by rw [z]), .inl h⟩
      · rcases take_inv h with ⟨_, e⟩ | ⟨_, h, e⟩
        · cases e
        · refine .inr ⟨fun z => ?_, .inr h⟩
          have := r.li x q h
          rw [z, hp] at this; cases this
    rcases key b h1 with ⟨e, z⟩ | ⟨e, z⟩
    · rcases key b' h2 with ⟨_, z'⟩ | ⟨e', _⟩
      · rw [z, z']
      · exact (e' e).elim
    · rcases key b' h2 with ⟨e', _⟩ | ⟨_, z'⟩
      · exact (e e').elim
      · exact r.uq q b b' z z'
  · rcases take_inv h with ⟨_, e⟩ | ⟨_, h, _⟩
    · cases e
    · exact r.li b q h
theorem Rep.take {p : Pl} {a : Addr} {t : T} (hT : g.ow a = some .tmp) (h : Rep G g H .tmp t (.ref a)) (hc : isCont t = true) : Rep G (g.take p a) H (.pl p) t (.ref a) := by
  cases h with
  | lst w h z r => exact .lst take_at h z (r.tr (take_holds hT (by intro z; cases z) (by intro z; cases z)) fun _ _ z => z)
  | dct w h z r => exact .dct take_at h z (r.tr (take_holds hT (by intro z; cases z) (by intro z; cases z)) fun _ _ z => z)
  | dcu w h z r => exact .dcu take_at h z (r.tr (take_holds hT (by intro z; cases z) (by intro z; cases z)) fun _ _ z => z)
  | _ => cases hc
/-- name = value -/
theorem bind_one {i : Nat} {v : V} {x : L2.V} {K : L2.St → Hp → Prop} (r : R G g lk s σ H) (p : Rep G g H (mdO lk v.1) v.2 x)
    {s' : S} (hb : bindTg lk (.one i) v s = some s') (h : ∀ g' σ' H', R G g' lk s' σ' H' → Keep g H g' H' → K σ' H') : K (σ.set i (some x)) H := by
  have hb : (if lk.contains (.sl i) || v.1.isPl then none else some { s with loc := s.loc.set i (some (v.1.slot, v.2)) }) = some s' := hb
  by_cases hc : (lk.contains (.sl i) || v.1.isPl) = true
  · rw [if_pos hc] at hb; cases hb
  · rw [if_neg hc] at hb
    cases hb
    have hc' : (lk.contains (.sl i) || v.1.isPl) = false := by simpa using hc
    rw [Bool.or_eq_false_iff] at hc'
    obtain ⟨md, t⟩ := v
    cases md with
    | fro => exact h g _ H (r.put p) Keep.refl
    | own =>
      by_cases ct : isCont t = true
      · obtain ⟨a, u, rfl, ha, hu, hh⟩ := p.addr ct (by intro z; cases z)
        have r1 := (r.drop i).take (p := .sl i) (a := a) hc'.1 ha (fun j t' e z => by
          cases e
          rcases getElem?_set_some z with ⟨_, z, _⟩ | ⟨z, _⟩
          · cases z
          · exact z rfl) (fun n bx f t' e => by cases e)
        have r2 := r1.put (i := i) (mo := .own) (t := t) (v := .ref a) (by
          show Rep G _ H (plO lk (.sl i)) t _
          rw [plO_out hc'.1]
          exact Rep.take ha p ct)
        have e : ({ s with loc := (s.loc.set i none).set i (some (.own, t)) } : S) = { s with loc := s.loc.set i (some (.own, t)) } := by rw [List.set_set]
        exact h _ _ H (show R G _ lk { s with loc := s.loc.set i (some (.own, t)) } _ H by rw [← e]; exact r2) (keep_take ha)
      · exact h g _ H (r.put (mo := .own) (p.free (by simpa using ct))) Keep.refl
    | bor op =>
      cases op with
      | none => exact h g _ H (r.put (mo := .bor) p) Keep.refl
      | some q => cases hc'.2

/-! ### the statements -/
theorem seq_ok {c : Sm} {cs : List Sm} (h : tSs G W Γ C C' (c :: cs) D σ H) : tSeq (tS G W Γ C C' c) (tSs G W Γ C C' cs) D σ H := by
  obtain ⟨lk, g, s, hR, h⟩ := h
  refine ⟨lk, g, s, hR, ?_⟩
  have h : PostS G W lk g H ((exec Γ C C' lk c s).bind fun f s1 => match f with | .nx => execs Γ C C' lk cs s1 | f => .ok f s1) D := h
  cases e : exec Γ C C' lk c s with
  | no => rw [e] at h; exact h.elim
  | exc c xs s1 => rw [e] at h; exact h
  | ok f s1 =>
    rw [e] at h
    intro g1 σ1 H1 r1 k1
    cases f with
    | nx => exact ⟨lk, g1, s1, r1, PostS.keep k1 h⟩
    | ret v => exact h g1 σ1 H1 r1 k1
    | brk => exact h g1 σ1 H1 r1 k1
    | cont => exact h g1 σ1 H1 r1 k1
theorem nil_ok (h : tSs G W Γ C C' [] D σ H) : tNext D σ H := by
  obtain ⟨lk, g, s, hR, h⟩ := h
  exact h g σ H hR Keep.refl
theorem set_ok {i : Nat} {e : Ex} (h : tS G W Γ C C' (.set (.one i) e) D σ H) : tAsg (tE G W Γ C C' e) (gName i) D σ H := by
  obtain ⟨lk, g, s, hR, h⟩ := h
  have h : PostS G W lk g H ((ev Γ C C' lk e s).bind fun v s1 => nxR (bindTg lk (.one i) v s1)) D := h
  refine expr_ok hR h fun v s1 g1 H1 x r1 k1 p1 h1 => ?_
  show D.nx (σ.set i (some x)) H1
  cases hb : bindTg lk (.one i) v s1 with
  | none => rw [hb] at h1; exact h1.elim
  | some s' =>
    rw [hb] at h1
    exact bind_one r1 p1 hb h1
theorem ret_ok {e : Ex} (h : tS G W Γ C C' (.ret e) D σ H) : tRet (tE G W Γ C C' e) D σ H := by
  obtain ⟨lk, g, s, hR, h⟩ := h
  have h : PostS G W lk g H ((ev Γ C C' lk e s).bind fun v s1 => if v.1.sto then .ok (.ret v) s1 else .no) D := h
  refine expr_ok hR h fun v s1 g1 H1 x r1 k1 p1 h1 => ?_
  split at h1
  · rename_i hs
    exact h1 g1 σ H1 r1 Keep.refl x p1 hs
  · exact h1.elim
theorem exp_ok {e : Ex} (h : tS G W Γ C C' (.exp e) D σ H) : tDrop (tE G W Γ C C' e) D σ H := by
  obtain ⟨lk, g, s, hR, h⟩ := h
  have h : PostS G W lk g H ((ev Γ C C' lk e s).bind fun _ s1 => .ok .nx s1) D := h
  exact expr_ok hR h fun v s1 g1 H1 x r1 k1 p1 h1 => h1 g1 σ H1 r1 Keep.refl
theorem ite_ok {c : Ex} {a b : List Sm} (h : tS G W Γ C C' (.ite c a b) D σ H) : tIfS (tT G W Γ C C' c) (tSs G W Γ C C' a) (tSs G W Γ C C' b) D σ H := by
  obtain ⟨lk, g, s, hR, h⟩ := h
  refine ⟨lk, g, s, hR, ?_⟩
  have h : PostS G W lk g H ((ev Γ C C' lk c s).bind fun v s1 => optR (truth v.2) fun t => if t then execs Γ C C' lk a s1 else execs Γ C C' lk b s1) D := h
  cases e : ev Γ C C' lk c s with
  | no => rw [e] at h; exact h.elim
  | exc c xs s1 =>
    rw [e] at h
    exact fun g' H' cls d r' k' ex => h g' σ H' cls d r' k' ex
  | ok v s1 =>
    rw [e] at h
    have h : PostS G W lk g H (optR (truth v.2) fun t => if t then execs Γ C C' lk a s1 else execs Γ C C' lk b s1) D := h
    show PostX G W lk g σ H (optR (truth v.2) fun b => .ok b s1) _
    cases ht : truth v.2 with
    | none => rw [ht] at h; exact h.elim
    | some t =>
      rw [ht] at h
      intro g1 H1 r1 k1
      cases t with
      | true => exact ⟨lk, g1, s1, r1, PostS.keep k1 h⟩
      | false => exact ⟨lk, g1, s1, r1, PostS.keep k1 h⟩
end
end Mi

/-! soundness: tests, subscripts, fields -/
namespace Mi
open PySem PySem.Spec PyProof.Rows L2

section
variable {G : Gx} {W : WX} {Γ : Gm} {C C' : CallF} {g g1 g2 g' : Gh} {H H1 H2 H' : Hp} {σ : L2.St} {s s1 s2 : S} {lk : List Pl} {Q : VK}

theorem two_at {a b : Ex} {F : V → V → S → Res V} {r : R2} (hR : R G g lk s σ H) (h : Post G W lk g σ H ((ev Γ C C' lk a s).bind fun x s1 => (ev Γ C C' (lks x ++ lk) b s1).bind fun y s2 => F x y s2) Q)
    (hr : ∀ x s1 y s2 g' H' vx vy, ev Γ C C' lk a s = .ok x s1 → ev Γ C C' (lks x ++ lk) b s1 = .ok y s2 → R G g' lk s2 σ H' → Rep G g' H' (pO lk x.1) x.2 vx → Rep G g' H' (mdO lk y.1) y.2 vy → Post G W lk g' σ H' (F x y s2) Q → r vx vy H' Q) :
    tOp r (tE G W Γ C C' a) (tE G W Γ C C' b) σ H Q := by
  refine ⟨lk, g, s, hR, ?_⟩
  cases ea : ev Γ C C' lk a s with
  | no => rw [ea] at h; exact h.elim
  | exc c xs s1 => rw [ea] at h; exact h
  | ok x s1 =>
    rw [ea] at h
    have h : Post G W lk g σ H ((ev Γ C C' (lks x ++ lk) b s1).bind fun y s2 => F x y s2) Q := h
    intro g1 H1 vx r1 k1 p1
    obtain ⟨g1', r1', k1', _, back⟩ := pend r1 p1
    refine ⟨lks x ++ lk, g1', s1, r1', ?_⟩
    cases eb : ev Γ C C' (lks x ++ lk) b s1 with
    | no => rw [eb] at h; exact h.elim
    | exc c xs s2 =>
      rw [eb] at h
      intro g2 H2 cls d r2 k2 ex
      obtain ⟨g3, r3, k3, _, m3, _, f3⟩ := back g2 H2 s2 σ r2 k2
      exact h g3 H2 cls d r3 (k1.trans k3) (ex.move (fun t v z => m3 .fro t v z) f3)
    | ok y s2 =>
      rw [eb] at h
      intro g2 H2 vy r2 k2 p2
      obtain ⟨g3, r3, k3, q3, m3, _⟩ := back g2 H2 s2 σ r2 k2
      exact hr x s1 y s2 g3 H2 vx vy ea eb r3 q3 (m3 _ _ _ p2) (Post.keep (k1.trans k3) h)
theorem one_at {a : Ex} {F : V → S → Res V} {K : L2.V → Hp → Prop} (hR : R G g lk s σ H) (h : Post G W lk g σ H ((ev Γ C C' lk a s).bind fun x s1 => F x s1) Q)
    (hr : ∀ x s1 g' H' vx, ev Γ C C' lk a s = .ok x s1 → R G g' lk s1 σ H' → Rep G g' H' (mdO lk x.1) x.2 vx → Post G W lk g' σ H' (F x s1) Q → K vx H') :
    tE G W Γ C C' a σ H K := by
  refine ⟨lk, g, s, hR, ?_⟩
  cases ea : ev Γ C C' lk a s with
  | no => rw [ea] at h; exact h.elim
  | exc c xs s1 => rw [ea] at h; exact h
  | ok x s1 =>
    rw [ea] at h
    exact fun g1 H1 vx r1 k1 p1 => hr x s1 g1 H1 vx ea r1 p1 (Post.keep k1 h)
theorem many_at {as : List Ex} {F : List V → S → Res V} {K : List L2.V → Hp → Prop} (hR : R G g lk s σ H) (h : Post G W lk g σ H ((evs Γ C C' lk as s).bind fun x s1 => F x s1) Q)
    (hr : ∀ vs s1 g' H' xs, evs Γ C C' lk as s = .ok vs s1 → R G g' lk s1 σ H' → RepL G g' H' lk vs xs → Post G W lk g' σ H' (F vs s1) Q → K xs H') :
    tEs G W Γ C C' as σ H K := by
  refine ⟨lk, g, s, hR, ?_⟩
  cases ea : evs Γ C C' lk as s with
  | no => rw [ea] at h; exact h.elim
  | exc c xs s1 => rw [ea] at h; exact h
  | ok x s1 =>
    rw [ea] at h
    exact fun g1 H1 vx r1 k1 p1 => hr x s1 g1 H1 vx ea r1 p1 (Post.keep k1 h)

/-! ### truth -/
theorem truth_ok {o : Ow} {t : T} {v : L2.V} {b : Bool} (h : Rep G g H o t v) (e : truth t = some b) : TruV G.K v H b := by
  cases t with
  | bl c => cases h; cases e; rfl
  | lst xs =>
    obtain ⟨a, vs, rfl, q, _, r⟩ := h.sql
    refine .inl ⟨vs, q, ?_⟩
    have e : some (!xs.isEmpty) = some b := e
    cases e
    cases r <;> rfl
  | _ => cases e
theorem tru_ok' {c : Ex} {Q : Bool → Hp → Prop} (h : tT G W Γ C C' c σ H Q) : tE G W Γ C C' c σ H fun x H' => ∃ k, TruV G.K x H' k ∧ Q k H' := by
  obtain ⟨lk, g, s, hR, h⟩ := h
  refine ⟨lk, g, s, hR, ?_⟩
  cases e : ev Γ C C' lk c s with
  | no => rw [e] at h; exact h.elim
  | exc c xs s1 => rw [e] at h; exact h
  | ok v s1 =>
    rw [e] at h
    have h : PostX G W lk g σ H (optR (truth v.2) fun b => .ok b s1) fun b _ _ H' => Q b H' := h
    intro g1 H1 x r1 k1 p1
    cases ht : truth v.2 with
    | none => rw [ht] at h; exact h.elim
    | some b => rw [ht] at h; exact ⟨b, truth_ok p1 ht, h g1 H1 r1 k1⟩

theorem Rep.bl_inv {o : Ow} {b : Bool} {v : L2.V} (h : Rep G g H o (.bl b) v) : v = .bl b := by cases h; rfl
/-! ### not, and, or -/
theorem not_e {a : Ex} (h : tE G W Γ C C' (.not a) σ H Q) : tNotV (tE G W Γ C C' a) σ H Q := by
  obtain ⟨lk, g, s, hR, h⟩ := h
  refine one_at (F := fun x s1 => match x.2 with | .bl b => okF (.bl (!b)) s1 | _ => .no) hR h fun x s1 g' H' vx _ r p q => ?_
  split at q
  · rename_i b e
    rw [e] at p
    have := p.bl_inv; subst this
    exact ⟨b, rfl, Post.old r q .bl⟩
  · exact q.elim
theorem not_t {a : Ex} {Q : Bool → Hp → Prop} (h : tT G W Γ C C' (.not a) σ H Q) : tNot (tT G W Γ C C' a) σ H Q := by
  obtain ⟨lk, g, s, hR, h⟩ := h
  refine ⟨lk, g, s, hR, ?_⟩
  have h : PostX G W lk g σ H (((ev Γ C C' lk a s).bind fun x s1 => match x.2 with | .bl b => okF (.bl (!b)) s1 | _ => .no).bind fun v s1 => optR (truth v.2) fun b => .ok b s1) fun b _ _ H' => Q b H' := h
  cases e : ev Γ C C' lk a s with
  | no => rw [e] at h; exact h.elim
  | exc c xs s1 => rw [e] at h; exact h
  | ok v s1 =>
    rw [e] at h
    obtain ⟨md, t⟩ := v
    cases t with
    | bl b => exact h
    | _ => exact h.elim
theorem and_e {a b : Ex} (h : tE G W Γ C C' (.and a b) σ H Q) : tAndV (tE G W Γ C C' a) (tE G W Γ C C' b) σ H Q := by
  obtain ⟨lk, g, s, hR, h⟩ := h
  refine one_at (F := fun x s1 => match x.2 with | .bl true => ev Γ C C' lk b s1 | .bl false => okF (.bl false) s1 | _ => .no) hR h fun x s1 g' H' vx _ r p q => ?_
  split at q
  · rename_i e
    rw [e] at p; have := p.bl_inv; subst this
    exact ⟨true, rfl, ⟨lk, g', s1, r, q⟩⟩
  · rename_i e
    rw [e] at p; have := p.bl_inv; subst this
    exact ⟨false, rfl, Post.old r q .bl⟩
  · exact q.elim
theorem or_e {a b : Ex} (h : tE G W Γ C C' (.or a b) σ H Q) : tOrV (tE G W Γ C C' a) (tE G W Γ C C' b) σ H Q := by
  obtain ⟨lk, g, s, hR, h⟩ := h
  refine one_at (F := fun x s1 => match x.2 with | .bl false => ev Γ C C' lk b s1 | .bl true => okF (.bl true) s1 | _ => .no) hR h fun x s1 g' H' vx _ r p q => ?_
  split at q
  · rename_i e
    rw [e] at p; have := p.bl_inv; subst this
    exact ⟨false, rfl, ⟨lk, g', s1, r, q⟩⟩
  · rename_i e
    rw [e] at p; have := p.bl_inv; subst this
    exact ⟨true, rfl, Post.old r q .bl⟩
  · exact q.elim
theorem PostX.keep {α : Type} {r : Res α} {K : α → S → Gh → Hp → Prop} (k : Keep g H g1 H1) (h : PostX G W lk g σ H r K) : PostX G W lk g1 σ H1 r K := by
  cases r with
  | ok v s' => exact fun g' H' r' k' => h g' H' r' (k.trans k')
  | exc c xs s' => exact fun g' H' cls d r' k' => h g' H' cls d r' (k.trans k')
  | no => exact h
theorem and_t {a b : Ex} {Q : Bool → Hp → Prop} (h : tT G W Γ C C' (.and a b) σ H Q) : tAnd (tT G W Γ C C' a) (tT G W Γ C C' b) σ H Q := by
  obtain ⟨lk, g, s, hR, h⟩ := h
  refine ⟨lk, g, s, hR, ?_⟩
  have h : PostX G W lk g σ H (((ev Γ C C' lk a s).bind fun x s1 => match x.2 with | .bl true => ev Γ C C' lk b s1 | .bl false => okF (.bl false) s1 | _ => .no).bind fun v s1 => optR (truth v.2) fun b => .ok b s1) fun b _ _ H' => Q b H' := h
  cases e : ev Γ C C' lk a s with
  | no => rw [e] at h; exact h.elim
  | exc c xs s1 => rw [e] at h; exact h
  | ok v s1 =>
    rw [e] at h
    obtain ⟨md, t⟩ := v
    cases t with
    | bl c =>
      cases c with
      | true => exact fun g1 H1 r1 k1 => ⟨lk, g1, s1, r1, PostX.keep k1 h⟩
      | false => exact fun g1 H1 r1 k1 => h g1 H1 r1 k1
    | _ => exact h.elim
theorem or_t {a b : Ex} {Q : Bool → Hp → Prop} (h : tT G W Γ C C' (.or a b) σ H Q) : tOr (tT G W Γ C C' a) (tT G W Γ C C' b) σ H Q := by
  obtain ⟨lk, g, s, hR, h⟩ := h
  refine ⟨lk, g, s, hR, ?_⟩
  have h : PostX G W lk g σ H (((ev Γ C C' lk a s).bind fun x s1 => match x.2 with | .bl false => ev Γ C C' lk b s1 | .bl true => okF (.bl true) s1 | _ => .no).bind fun v s1 => optR (truth v.2) fun b => .ok b s1) fun b _ _ H' => Q b H' := h
  cases e : ev Γ C C' lk a s with
  | no => rw [e] at h; exact h.elim
  | exc c xs s1 => rw [e] at h; exact h
  | ok v s1 =>
    rw [e] at h
    obtain ⟨md, t⟩ := v
    cases t with
    | bl c =>
      cases c with
      | false => exact fun g1 H1 r1 k1 => ⟨lk, g1, s1, r1, PostX.keep k1 h⟩
      | true => exact fun g1 H1 r1 k1 => h g1 H1 r1 k1
    | _ => exact h.elim

/-! ### subscripts of lists and tuples -/
theorem idx_eq (n : Nat) (i : Int) : idx n i = ixN n i := rfl
theorem atI_of {α : Type} {xs : List α} {i : Int} {k : Nat} {v : α} (h : idx xs.length i = some k) (e : xs[k]? = some v) : atI xs i = some v := by
  unfold atI
  rw [← idx_eq, h]; exact e
theorem sub_seq {x y : V} {vx vy : L2.V} {o1 o2 : Ow} {b : Bool} {lk0 : List Pl} (hs : (∃ xs, x.2 = .lst xs) ∨ ∃ xs, x.2 = .tup xs) (hR : R G g lk s σ H) (hx : Rep G g H o1 x.2 vx) (hy : Rep G g H o2 y.2 vy)
    (h : Post G W lk g σ H (subR Γ C' lk0 x y b s) Q) : rIxL G.K vx vy H Q ∨ rIxT G.K vx vy H Q := by
  unfold subR at h
  split at h
  · rename_i xs i e1 e2
    rw [e1] at hx
    rw [e2] at hy
    have := hy.int_inv; subst this
    obtain ⟨a, vs, rfl, q, z, r⟩ := hx.sql
    cases hi : idx xs.length i with
    | none => rw [hi] at h; exact h.elim
    | some k =>
      rw [hi] at h
      have h : Post G W lk g σ H (optR xs[k]? fun t => okF t s) Q := h
      cases hk : xs[k]? with
      | none => rw [hk] at h; exact h.elim
      | some t =>
        rw [hk] at h
        obtain ⟨v, h1, h2⟩ := r.get hk
        refine .inl ⟨a, vs, i, v, rfl, rfl, q, atI_of (by rw [← r.length]; exact hi) h1, Post.old hR h h2⟩
  · rename_i xs i e1 e2
    rw [e1] at hx
    rw [e2] at hy
    have := hy.int_inv; subst this
    obtain ⟨a, vs, rfl, q, r⟩ := hx.sqt
    cases hi : idx xs.length i with
    | none => rw [hi] at h; exact h.elim
    | some k =>
      rw [hi] at h
      have h : Post G W lk g σ H (optR xs[k]? fun t => okF t s) Q := h
      cases hk : xs[k]? with
      | none => rw [hk] at h; exact h.elim
      | some t =>
        rw [hk] at h
        obtain ⟨v, h1, h2⟩ := r.get hk
        refine .inr ⟨a, vs, i, v, rfl, rfl, q, atI_of (by rw [← r.length]; exact hi) h1, Post.old hR h h2⟩
  · rename_i kvs k e
    rw [e] at hs
    rcases hs with ⟨_, hs⟩ | ⟨_, hs⟩ <;> cases hs
  · rename_i kvs k e
    rw [e] at hs
    rcases hs with ⟨_, hs⟩ | ⟨_, hs⟩ <;> cases hs
  · rename_i n k e
    rw [e] at hs
    rcases hs with ⟨_, hs⟩ | ⟨_, hs⟩ <;> cases hs
  · exact h.elim
end
end Mi

/-! soundness: loops -/
namespace Mi
open PySem PySem.Spec PyProof.Rows L2

section
variable {G : Gx} {W : WX} {Γ : Gm} {C C' : CallF} {g g1 g2 g' : Gh} {H H1 H2 H' : Hp} {σ : L2.St} {s s1 s2 : S} {lk lk' : List Pl} {Q : VK} {D : Ends}

/-- the items of a stable list stay -/
theorem stay_lst {o : Ow} {ts : List T} {v : L2.V} (h : Rep G g H o (.lst ts) v) (so : o.soft = true) : ∃ a vs, v = .ref a ∧ Reps G g H ts vs ∧ SqL G.K H a vs ∧ ∀ g' H', Keep g H g' H' → SqL G.K H' a vs := by
  cases h with
  | lst w h z r =>
    refine ⟨_, _, rfl, r, .inl h.rd, fun g' H' k => .inl ?_⟩
    cases o with
    | fz => exact (h.tr (k.fz _ w).2).rd
    | ext => exact (h.tr (k.ext _ w).2).rd
    | lkd p => exact (h.tr (k.lkd p _ w).2).rd
    | _ => cases so
  | lstK h z r => exact ⟨_, _, rfl, r, .inr h, fun _ _ _ => .inr h⟩
theorem stay_tup {o : Ow} {ts : List T} {v : L2.V} (h : Rep G g H o (.tup ts) v) : ∃ a vs, v = .ref a ∧ Reps G g H ts vs ∧ SqT G.K H a vs ∧ ∀ g' H', Keep g H g' H' → SqT G.K H' a vs := by
  cases h with
  | tup h r => exact ⟨_, _, rfl, r, h.sq, fun g' H' k => (h.tr k.fz).sq⟩
theorem Reps.stay {ts : List T} {vs : List L2.V} (h : Reps G g H ts vs) (k : Keep g H g' H') : Reps G g' H' ts vs := h.tr k.fz k.m

/-! ### targets -/
def gNames : List Nat → TGs
  | [] => gNil
  | i :: is => gCons (gName i) (gNames is)
def gTg (K : PySem.W.Frag) : Tg → TG
  | .one i => gName i
  | .many is => gTup K is.length (gNames is)
theorem put_many : ∀ {is : List Nat} {ts : List T} {vs : List L2.V} {l : List (Option (Mo × T))} {σ : L2.St}, R G g lk ⟨l, s.hp⟩ σ H → Reps G g H ts vs → is.length = ts.length →
    ∃ σ', R G g lk ⟨setMany is ts l, s.hp⟩ σ' H ∧ (σ'.length = σ.length ∧ ∀ j, j ∉ is → σ'[j]? = σ[j]?) ∧ ∀ K : L2.St → Hp → Prop, K σ' H → gNames is vs σ H K
  | [], _, _, l, σ, r, .nil, _ => ⟨σ, r, ⟨rfl, fun _ _ => rfl⟩, fun K k => ⟨rfl, k⟩⟩
  | [], _, _, l, σ, r, .cons _ _, e => by simp at e
  | i :: is, _, _, l, σ, r, .nil, e => by simp at e
  | i :: is, _, _, l, σ, r, .cons (t := t) (v := v) (ts := ts) (vs := vs) h q, e => by
    obtain ⟨σ', r', w', k'⟩ := put_many (is := is) (l := l.set i (some (.fro, t))) (σ := σ.set i (some v)) (r.put (mo := .fro) h) q (by simpa using e)
    refine ⟨σ', r', ⟨by rw [w'.1, List.length_set], fun j hj => ?_⟩, fun K k => ⟨v, vs, rfl, k' K k⟩⟩
    rw [w'.2 j fun z => hj (List.mem_cons_of_mem _ z)]
    exact List.getElem?_set_ne fun (z : i = j) => hj (by rw [← z]; exact List.mem_cons_self)
theorem bind_item {tg : Tg} {t : T} {x : L2.V} {s' : S} (r : R G g lk s σ H) (p : Rep G g H .fz t x) (hb : bindTg lk tg (.fro, t) s = some s') :
    ∃ σ', R G g lk s' σ' H ∧ (σ'.length = σ.length ∧ ∀ j, j ∉ tg.slots → σ'[j]? = σ[j]?) ∧ ∀ K : L2.St → Hp → Prop, K σ' H → gTg G.K tg x σ H K := by
  cases tg with
  | one i =>
    have hb : (if lk.contains (.sl i) || Md.fro.isPl then none else some { s with loc := s.loc.set i (some (.fro, t)) }) = some s' := hb
    by_cases hc : (lk.contains (.sl i) || Md.fro.isPl) = true
    · rw [if_pos hc] at hb; cases hb
    · rw [if_neg hc] at hb
      cases hb
      exact ⟨_, r.put (mo := .fro) p, ⟨List.length_set, fun j hj => List.getElem?_set_ne fun (z : i = j) => hj (by rw [← z]; exact List.mem_cons_self)⟩, fun K k => k⟩
  | many is =>
    cases t with
    | tup ts =>
      have hb : (if is.length = ts.length ∧ (is.all fun i => !lk.contains (.sl i)) then some ({ s with loc := setMany is ts s.loc } : S) else none) = some s' := hb
      split at hb
      · rename_i hc
        cases hb
        obtain ⟨a, vs, rfl, q, rr⟩ := p.sqt
        obtain ⟨σ', r', w', k'⟩ := put_many (s := s) (is := is) (l := s.loc) r rr hc.1
        exact ⟨σ', r', w', fun K k => ⟨a, vs, rfl, q, by rw [← rr.length]; exact hc.1.symm, k' K k⟩⟩
      · cases hb
    | _ => cases hb

/-! ### for -/
theorem PostS.unlock {x : V} {r : Res Fl} (h : PostS G W lk g1 H1 r D)
    (back : ∀ g2 H2 s2 σ2, R G g2 (lks x ++ lk) s2 σ2 H2 → Keep g' H1 g2 H2 → ∃ g3, R G g3 lk s2 σ2 H2 ∧ Keep g1 H1 g3 H2 ∧ (∀ m t y, Rep G g2 H2 (mdO (lks x ++ lk) m) t y → Rep G g3 H2 (mdO lk m) t y) ∧ (∀ a, g2.ow a = some .fz → g3.ow a = some .fz)) :
    PostS G W (lks x ++ lk) g' H1 r D := by
  cases r with
  | no => exact h
  | exc c xs s' =>
    intro g2 σ2 H2 cls d r2 k2 ex
    obtain ⟨g3, r3, k3, m3, f3⟩ := back g2 H2 s' σ2 r2 k2
    exact h g3 σ2 H2 cls d r3 k3 (ex.move (fun t v z => m3 .fro t v z) f3)
  | ok f s' =>
    intro g2 σ2 H2 r2 k2
    obtain ⟨g3, r3, k3, m3, f3⟩ := back g2 H2 s' σ2 r2 k2
    have q := h g3 σ2 H2 r3 k3
    cases f with
    | nx => exact q
    | brk => exact q
    | cont => exact q
    | ret v => exact fun y p st => q y (m3 _ _ _ p) st
/-- one turn of a for -/
theorem turn_ok {tg : Tg} {body : List Sm} {t : T} {x : L2.V} {rest : List T} {N : L2.St → Hp → Prop} (r : R G g lk s σ H) (p : Rep G g H .fz t x)
    (h : PostS G W lk g H (forL lk tg (fun s => execs Γ C C' lk body s) (t :: rest) s) D)
    (hN : ∀ g2 σ2 H2 s2, R G g2 lk s2 σ2 H2 → Keep g H g2 H2 → PostS G W lk g2 H2 (forL lk tg (fun s => execs Γ C C' lk body s) rest s2) D → N σ2 H2) :
    gTg G.K tg x σ H fun σ2 H2 => tSs G W Γ C C' body { D with nx := N, ct := N, bk := D.nx } σ2 H2 := by
  have h : PostS G W lk g H (optR (bindTg lk tg (.fro, t) s) fun s1 => (execs Γ C C' lk body s1).bind fun f s2 => match f with
    | .nx => forL lk tg (fun s => execs Γ C C' lk body s) rest s2
    | .cont => forL lk tg (fun s => execs Γ C C' lk body s) rest s2
    | .brk => .ok .nx s2
    | .ret v => .ok (.ret v) s2) D := h
  cases hb : bindTg lk tg (.fro, t) s with
  | none => rw [hb] at h; exact h.elim
  | some s1 =>
    rw [hb] at h
    obtain ⟨σ1, r1, _, k1⟩ := bind_item r p hb
    refine k1 _ ⟨lk, g, s1, r1, ?_⟩
    have h : PostS G W lk g H ((execs Γ C C' lk body s1).bind fun f s2 => match f with
      | .nx => forL lk tg (fun s => execs Γ C C' lk body s) rest s2
      | .cont => forL lk tg (fun s => execs Γ C C' lk body s) rest s2
      | .brk => .ok .nx s2
      | .ret v => .ok (.ret v) s2) D := h
    cases eb : execs Γ C C' lk body s1 with
    | no => rw [eb] at h; exact h.elim
    | exc c xs s2 => rw [eb] at h; exact h
    | ok f s2 =>
      rw [eb] at h
      intro g2 σ2 H2 r2 k2
      cases f with
      | nx => exact hN g2 σ2 H2 s2 r2 k2 (PostS.keep k2 h)
      | cont => exact hN g2 σ2 H2 s2 r2 k2 (PostS.keep k2 h)
      | brk => exact h g2 σ2 H2 r2 k2
      | ret v => exact h g2 σ2 H2 r2 k2
theorem drop_cons {α : Type} {l : List α} {i : Nat} {t : α} (h : l[i]? = some t) : l.drop i = t :: l.drop (i + 1) := by
  obtain ⟨hl, e⟩ := List.getElem?_eq_some_iff.mp h
  rw [List.drop_eq_getElem_cons hl, e]
theorem get_of {ts : List T} {vs : List L2.V} {i : Nat} {x : L2.V} (r : Reps G g H ts vs) (h : vs[i]? = some x) : ∃ t, ts[i]? = some t ∧ Rep G g H .fz t x := by
  obtain ⟨hl, _⟩ := List.getElem?_eq_some_iff.mp h
  have hl2 : i < ts.length := by rw [r.length]; exact hl
  obtain ⟨v, h1, h2⟩ := r.get (List.getElem?_eq_getElem hl2)
  rw [h] at h1; cases h1
  exact ⟨_, List.getElem?_eq_getElem hl2, h2⟩
/-- a for over a list or a tuple -/
theorem for_seq {tg : Tg} {it : Ex} {body : List Sm} (hR : R G g lk s σ H) (h : PostS G W lk g H (exec Γ C C' lk (.for_ tg it body) s) D)
    (hseq : ∀ v s1, ev Γ C C' lk it s = .ok v s1 → (∃ xs, v.2 = .lst xs) ∨ ∃ xs, v.2 = .tup xs) :
    (tFor (iList G.K (tE G W Γ C C' it)) (gTg G.K tg) (tSs G W Γ C C' body) D σ H) ∨ tFor (iTup G.K (tE G W Γ C C' it)) (gTg G.K tg) (tSs G W Γ C C' body) D σ H := by
  have h : PostS G W lk g H ((ev Γ C C' lk it s).bind fun x s1 => optR (itemsR Γ x.2 s1) fun xs => forL (lks x ++ lk) tg (fun s => execs Γ C C' (lks x ++ lk) body s) xs s1) D := h
  cases ea : ev Γ C C' lk it s with
  | no => rw [ea] at h; exact h.elim
  | exc c xs s1 =>
    rw [ea] at h
    left
    show tE G W Γ C C' it σ H _
    refine ⟨lk, g, s, hR, ?_⟩
    rw [ea]
    exact fun g' H' cls d r' k' ex => h g' σ H' cls d r' k' ex
  | ok v s1 =>
    have hs := hseq v s1 ea
    rw [ea] at h
    have h : PostS G W lk g H (optR (itemsR Γ v.2 s1) fun xs => forL (lks v ++ lk) tg (fun s => execs Γ C C' (lks v ++ lk) body s) xs s1) D := h
    have run : ∀ {g1 H1 vx} {xs : List T}, R G g1 lk s1 σ H1 → Keep g H g1 H1 → Rep G g1 H1 (mdO lk v.1) v.2 vx → itemsR Γ v.2 s1 = some xs →
        ∃ g1', R G g1' (lks v ++ lk) s1 σ H1 ∧ (∃ o, o.soft = true ∧ Rep G g1' H1 o v.2 vx) ∧ PostS G W (lks v ++ lk) g1' H1 (forL (lks v ++ lk) tg (fun s => execs Γ C C' (lks v ++ lk) body s) xs s1) D := by
      intro g1 H1 vx xs r1 k1 p1 hi
      obtain ⟨g1', r1', k1', so, back⟩ := pend r1 p1
      rw [hi] at h
      refine ⟨g1', r1', so, PostS.unlock (x := v) (PostS.keep k1 h) fun g2 H2 s2 σ2 r2 k2 => ?_⟩
      obtain ⟨g3, r3, k3, _, m3, _, f3⟩ := back g2 H2 s2 σ2 r2 k2
      exact ⟨g3, r3, k3, m3, f3⟩
    rcases hs with ⟨xs, e⟩ | ⟨xs, e⟩
    · left
      show tE G W Γ C C' it σ H _
      refine ⟨lk, g, s, hR, ?_⟩
      rw [ea]
      intro g1 H1 vx r1 k1 p1
      obtain ⟨g1', r1', ⟨o, so, po⟩, hp⟩ := run (xs := xs) r1 k1 p1 (by rw [e]; rfl)
      rw [e] at po
      obtain ⟨a, vs, rfl, rs, sq, st⟩ := stay_lst po so
      refine ⟨a, rfl, ⟨vs, sq⟩, for_list (K := G.K) (a := a) (xs := vs) (fun i σ' H' => ∃ g' s', R G g' (lks v ++ lk) s' σ' H' ∧ Keep g1' H1 g' H' ∧ PostS G W (lks v ++ lk) g' H' (forL (lks v ++ lk) tg (fun s => execs Γ C C' (lks v ++ lk) body s) (xs.drop i) s') D)
        ⟨g1', s1, r1', Keep.refl, hp⟩ (fun i σ' H' _ ⟨g', s', _, k, _⟩ => st g' H' k) ?_ ?_⟩
      · rintro i x σ' H' hx ⟨g', s', r', k', p'⟩
        obtain ⟨t, ht, pt⟩ := get_of (rs.stay k') hx
        rw [drop_cons ht] at p'
        exact turn_ok r' pt p' fun g2 σ2 H2 s2 r2 k2 p2 => ⟨g2, s2, r2, k'.trans k2, p2⟩
      · rintro σ' H' ⟨g', s', r', k', p'⟩
        rw [← rs.length, List.drop_length] at p'
        exact p' g' σ' H' r' Keep.refl
    · right
      have hz : xs.length ≤ szL := by
        by_cases z : xs.length ≤ szL
        · exact z
        · rw [e, show itemsR Γ (.tup xs) s1 = none from if_neg z] at h; exact h.elim
      show tE G W Γ C C' it σ H _
      refine ⟨lk, g, s, hR, ?_⟩
      rw [ea]
      intro g1 H1 vx r1 k1 p1
      obtain ⟨g1', r1', ⟨o, so, po⟩, hp⟩ := run (xs := xs) r1 k1 p1 (by rw [e]; exact if_pos hz)
      rw [e] at po
      obtain ⟨a, vs, rfl, rs, sq, st⟩ := stay_tup po
      refine ⟨a, rfl, ⟨vs, sq⟩, for_tup (K := G.K) (a := a) (xs := vs) (fun i σ' H' => ∃ g' s', R G g' (lks v ++ lk) s' σ' H' ∧ Keep g1' H1 g' H' ∧ PostS G W (lks v ++ lk) g' H' (forL (lks v ++ lk) tg (fun s => execs Γ C C' (lks v ++ lk) body s) (xs.drop i) s') D)
        ⟨g1', s1, r1', Keep.refl, hp⟩ (fun i σ' H' _ ⟨g', s', _, k, _⟩ => st g' H' k) ?_ ?_⟩
      · rintro i x σ' H' hx ⟨g', s', r', k', p'⟩
        obtain ⟨t, ht, pt⟩ := get_of (rs.stay k') hx
        rw [drop_cons ht] at p'
        exact turn_ok r' pt p' fun g2 σ2 H2 s2 r2 k2 p2 => ⟨g2, s2, r2, k'.trans k2, p2⟩
      · rintro σ' H' ⟨g', s', r', k', p'⟩
        rw [← rs.length, List.drop_length] at p'
        exact p' g' σ' H' r' Keep.refl
end
end Mi

/-! soundness: comprehensions -/
namespace Mi
open PySem PySem.Spec PyProof.Rows L2

section
variable {G : Gx} {W : WX} {Γ : Gm} {C C' : CallF} {g g1 g2 g' : Gh} {H H1 H2 H' : Hp} {σ σ' : L2.St} {s s1 s2 : S} {lk lk' : List Pl} {Q : VK} {D : Ends}

theorem wipe_get {vs : List Nat} {j : Nat} : (L2.wipe σ vs)[j]? = if j ∈ vs ∧ j < σ.length then some none else σ[j]? := by
  induction vs with
  | nil => simp [L2.wipe]
  | cons v vs ih =>
    show ((L2.wipe σ vs).set v none)[j]? = _
    by_cases e : v = j
    · subst e
      by_cases hl : v < σ.length
      · rw [List.getElem?_set_self (by rw [L2.wipe_length]; exact hl), if_pos ⟨List.mem_cons_self, hl⟩]
      · rw [List.getElem?_eq_none (by rw [List.length_set, L2.wipe_length]; omega), if_neg (fun z => hl z.2), List.getElem?_eq_none (by omega)]
    · rw [List.getElem?_set_ne e, ih]
      by_cases hj : j ∈ vs ∧ j < σ.length
      · rw [if_pos hj, if_pos ⟨List.mem_cons_of_mem _ hj.1, hj.2⟩]
      · rw [if_neg hj, if_neg (fun z => hj ⟨(List.mem_cons.mp z.1).resolve_left (fun q => e q.symm), z.2⟩)]
theorem wipe_congr {vs : List Nat} (hl : σ'.length = σ.length) (h : ∀ j, j ∉ vs → σ'[j]? = σ[j]?) : L2.wipe σ' vs = L2.wipe σ vs := by
  refine List.ext_getElem? fun j => ?_
  rw [wipe_get, wipe_get, hl]
  by_cases hj : j ∈ vs
  · by_cases hl' : j < σ.length
    · rw [if_pos ⟨hj, hl'⟩, if_pos ⟨hj, hl'⟩]
    · rw [if_neg (fun z => hl' z.2), if_neg (fun z => hl' z.2), List.getElem?_eq_none (by omega), List.getElem?_eq_none (by omega)]
  · rw [if_neg (fun z => hj z.1), if_neg (fun z => hj z.1), h j hj]
theorem R.wipes (r : R G g lk s σ H) : ∀ is : List Nat, R G g lk { s with loc := wipeL is s.loc } (L2.wipe σ is) H
  | [] => r
  | i :: is => by
    have r1 := (R.wipes r is).drop i
    have r2 := r1.any (i := i) (x := none) (by
      show ((wipeL is s.loc).set i none)[i]? = some none ∨ ((wipeL is s.loc).set i none)[i]? = none
      by_cases hl : i < (wipeL is s.loc).length
      · exact .inl (List.getElem?_set_self hl)
      · exact .inr (List.getElem?_eq_none (by rw [List.length_set]; omega)))
    exact r2
theorem wipeL_get {is : List Nat} {l : List (Option (Mo × T))} {j : Nat} {x : Mo × T} (h : (wipeL is l)[j]? = some (some x)) : j ∉ is ∧ l[j]? = some (some x) := by
  induction is with
  | nil => exact ⟨by simp, h⟩
  | cons i is ih =>
    have h : ((wipeL is l).set i none)[j]? = some (some x) := h
    rcases getElem?_set_some h with ⟨_, z, _⟩ | ⟨e, z⟩
    · cases z
    · obtain ⟨h1, h2⟩ := ih z
      exact ⟨by simp [h1, Ne.symm e], h2⟩
theorem R.unwipe {tg : Tg} (r : R G g lk (wipe tg s) (L2.wipe σ tg.slots) H) : R G g lk (wipe tg s) σ H := by
  refine ⟨r.dom, by rw [← L2.wipe_length σ tg.slots]; exact r.ln, fun i mo t h hx => ?_, r.ml, r.bx, r.uq, r.li, fun i t h => ?_, r.tq⟩
  · obtain ⟨v, h1, h2⟩ := r.sl i mo t h hx
    have hi : i ∉ tg.slots := (wipeL_get h).1
    rw [wipe_get, if_neg (fun z => hi z.1)] at h1
    exact ⟨v, h1, h2⟩
  · have hi : i ∉ tg.slots := (wipeL_get h).1
    exact (r.xl i t h).tr (fun _ z => ⟨z, rfl⟩) (fun _ _ z => z) (by rw [wipe_get, if_neg (fun z => hi z.1)])
/-- the marks, where one address gets another that no one looks for -/
theorem R.reown (r : R G g lk s σ H) {p : Addr} {o : Ow} {d : Addr} {u : HO} (ho : o = .tmp ∨ o = .cm p) (hp : g.ow p = some (.cm d)) (hu : ∀ vs, u ≠ .tup vs := by intro vs z; cases z) : R G (g.own p o) lk s σ (upd H p u) := by
  have hold : ∀ o', o' ≠ .cm d → Holds o' g H (g.own p o) (upd H p u) := fun o' ne a h => by
    have e : a ≠ p := fun z => by subst z; rw [hp] at h; exact ne (Option.some.inj h).symm
    exact ⟨(Gh.own_off e).trans h, upd_ne e⟩
  have mp : MPre g (g.own p o) := fun _ _ h => h
  have back : ∀ a q, ((g.own p o).ow a = some (.pl q) ∨ (g.own p o).ow a = some (.lkd q)) → g.ow a = some (.pl q) ∨ g.ow a = some (.lkd q) := fun a q h => by
    by_cases e : a = p
    · subst e; rw [Gh.own_at] at h; rcases ho with rfl | rfl <;> rcases h with h | h <;> cases h
    · rw [Gh.own_off e] at h; exact h
  refine r.go rfl (hold _ (by intro z; cases z)) (hold _ (by intro z; cases z)) (fun n => hold _ (by intro z; cases z)) (fun i t v _ _ h => h.tr (hold _ (by intro z; cases z)) mp (hold _ ?_)) (fun n bx f t v _ _ h => h.tr (hold _ (by intro z; cases z)) mp (hold _ ?_)) (fun a o' h => ?_)
    (fun q a a' h1 h2 => r.uq q a a' (back a q h1) (back a' q h2)) (fun a q h => ?_) (fun a o' vs h hH => by
      by_cases e : a = p
      · subst e; rw [upd_same] at hH; exact absurd (Option.some.inj hH) (hu vs)
      · rw [Gh.own_off e] at h; rw [upd_ne e] at hH; exact r.tq a o' vs h hH)
  · unfold plO; split <;> (intro z; cases z)
  · unfold plO; split <;> (intro z; cases z)
  · by_cases e : a = p
    · subst e; rw [upd_same]; intro z; cases z
    · rw [Gh.own_off e] at h; rw [upd_ne e]; exact r.dom a o' h
  · rcases back a q (.inr h) with z | z
    · by_cases e : a = p
      · subst e; rw [Gh.own_at] at h; rcases ho with rfl | rfl <;> cases h
      · rw [Gh.own_off e, z] at h; cases h
    · exact r.li a q z
theorem Reps.reown {p : Addr} {o : Ow} {d : Addr} {u : HO} {ts : List T} {vs : List L2.V} (hp : g.ow p = some (.cm d)) (h : Reps G g H ts vs) : Reps G (g.own p o) (upd H p u) ts vs :=
  Reps.tr (g := g) (g' := g.own p o) (H := H) (H' := upd H p u) (fun a ha => by
    have e : a ≠ p := fun z => by subst z; rw [hp] at ha; cases ha
    exact ⟨(Gh.own_off e).trans ha, upd_ne e⟩) (fun _ _ z => z) h

def noW : WX := fun _ _ _ _ => False
def tTc (G : Gx) (Γ : Gm) (C C' : CallF) : Option Ex → TT
  | none => tYes
  | some c => tT G noW Γ C C' c
/-- what holds between two turns of a comprehension -/
structure Mid (G : Gx) (Γ : Gm) (C C' : CallF) (lk : List Pl) (tg : Tg) (e : Ex) (c : Option Ex) (res : Res (List T)) (D : Addr) (g0 : Gh) (H0 : Hp) (σ : L2.St) (rest : List T) (n : Nat) (H' : Hp) : Prop where
  ex : ∃ g' s' acc accV, R G g' lk (wipe tg s') (L2.wipe σ tg.slots) H' ∧ Keep g0 H0 g' H' ∧ g'.ow D = some (.cm D) ∧ H' D = some (.lst accV) ∧ Reps G g' H' acc accV ∧ acc.length ≤ n ∧
    compL lk tg (fun s => evc Γ C C' lk c s) (fun s => ev Γ C C' lk e s) rest acc s' = res
theorem comp_turn {tg : Tg} {e : Ex} {c : Option Ex} {res : Res (List T)} {d : Addr} {g0 : Gh} {H0 : Hp} {t : T} {x : L2.V} {rest : List T} {n : Nat} {ys : List T} {sE : S} (hd0 : H0 d = none) (r0 : ∀ a o, g0.ow a = some o → H0 a ≠ none) (hres : res = .ok ys sE) (hn : n < szL)
    (M : Mid G Γ C C' lk tg e c res d g0 H0 σ (t :: rest) n H') (px : ∀ g' s' σ', R G g' lk s' σ' H' → Keep g0 H0 g' H' → ∃ g2, R G g2 lk s' σ' H' ∧ Keep g' H' g2 H' ∧ Rep G g2 H' .fz t x) :
    gTg G.K tg x (L2.wipe σ tg.slots) H' fun σ2 H2 => L2.wipe σ2 tg.slots = L2.wipe σ tg.slots ∧ tTc G Γ C C' c σ2 H2 fun b H3 =>
      if b = true then tE G noW Γ C C' e σ2 H3 fun y H4 => ∃ acc, H4 d = some (.lst acc) ∧ acc.length < sizeLine ∧ Mid G Γ C C' lk tg e c res d g0 H0 σ rest (n + 1) (upd H4 d (.lst (acc ++ [y]))) else Mid G Γ C C' lk tg e c res d g0 H0 σ rest (n + 1) H3 := by
  obtain ⟨gm, s', acc, accV, rm, km, odm, hD, rsm, hl, hc⟩ := M.ex
  obtain ⟨g', r, kk', pt⟩ := px gm _ _ rm km
  have k := km.trans kk'
  have od := (kk'.cm d odm).1
  have rs := rsm.stay kk'
  have hc : optR (bindTg lk tg (.fro, t) (wipe tg s')) (fun s1 => (evc Γ C C' lk c s1).bind fun b s2 =>
      if b then (ev Γ C C' lk e s2).bind fun v s3 => if v.1.sto then compL lk tg (fun s => evc Γ C C' lk c s) (fun s => ev Γ C C' lk e s) rest (acc ++ [v.2]) s3 else .no
      else compL lk tg (fun s => evc Γ C C' lk c s) (fun s => ev Γ C C' lk e s) rest acc s2) = res := hc
  rw [hres] at hc
  cases hb : bindTg lk tg (.fro, t) (wipe tg s') with
  | none => rw [hb] at hc; cases hc
  | some s1 =>
    rw [hb] at hc
    obtain ⟨σ1, r1, w1, k1⟩ := bind_item r pt hb
    refine k1 _ ?_
    have ew : L2.wipe σ1 tg.slots = L2.wipe σ tg.slots := by
      rw [wipe_congr w1.1 w1.2]
      refine wipe_congr (L2.wipe_length _ _) fun j hj => ?_
      rw [wipe_get, if_neg (fun z => hj z.1)]
    refine ⟨ew, ?_⟩
    have hc : (evc Γ C C' lk c s1).bind (fun b s2 =>
      if b then (ev Γ C C' lk e s2).bind fun v s3 => if v.1.sto then compL lk tg (fun s => evc Γ C C' lk c s) (fun s => ev Γ C C' lk e s) rest (acc ++ [v.2]) s3 else .no
      else compL lk tg (fun s => evc Γ C C' lk c s) (fun s => ev Γ C C' lk e s) rest acc s2) = .ok ys sE := hc
    -- behind the test
    have next : ∀ b s2 g2 H2, R G g2 lk s2 σ1 H2 → Keep g' H' g2 H2 → (if b then (ev Γ C C' lk e s2).bind fun v s3 => if v.1.sto then compL lk tg (fun s => evc Γ C C' lk c s) (fun s => ev Γ C C' lk e s) rest (acc ++ [v.2]) s3 else .no
        else compL lk tg (fun s => evc Γ C C' lk c s) (fun s => ev Γ C C' lk e s) rest acc s2) = .ok ys sE →
        (if b = true then tE G noW Γ C C' e σ1 H2 fun y H4 => ∃ acc, H4 d = some (.lst acc) ∧ acc.length < sizeLine ∧ Mid G Γ C C' lk tg e c res d g0 H0 σ rest (n + 1) (upd H4 d (.lst (acc ++ [y]))) else Mid G Γ C C' lk tg e c res d g0 H0 σ rest (n + 1) H2) := by
      intro b s2 g2 H2 r2 k2 h2
      have od2 := (k2.cm d od).1
      have hD2 := (k2.cm d od).2.trans hD
      cases b with
      | false =>
        refine ⟨g2, s2, acc, accV, ?_, k.trans k2, od2, hD2, rs.stay k2, by omega, by rw [hres]; exact h2⟩
        rw [← ew]; exact r2.wipes _
      | true =>
        have h2 : ((ev Γ C C' lk e s2).bind fun v s3 => if v.1.sto then compL lk tg (fun s => evc Γ C C' lk c s) (fun s => ev Γ C C' lk e s) rest (acc ++ [v.2]) s3 else .no) = .ok ys sE := h2
        show tE G noW Γ C C' e σ1 H2 _
        refine ⟨lk, g2, s2, r2, ?_⟩
        cases ee : ev Γ C C' lk e s2 with
        | no => rw [ee] at h2; cases h2
        | exc c xs s3 => rw [ee] at h2; cases h2
        | ok v s3 =>
          rw [ee] at h2
          have h2 : (if v.1.sto then compL lk tg (fun s => evc Γ C C' lk c s) (fun s => ev Γ C C' lk e s) rest (acc ++ [v.2]) s3 else .no) = .ok ys sE := h2
          intro g4 H4 y r4 k4 p4
          have od4 := (k4.cm d od2).1
          have hD4 := (k4.cm d od2).2.trans hD2
          cases hs : v.1.sto with
          | false => rw [hs] at h2; cases h2
          | true =>
            rw [hs] at h2
            have h2 : compL lk tg (fun s => evc Γ C C' lk c s) (fun s => ev Γ C C' lk e s) rest (acc ++ [v.2]) s3 = .ok ys sE := h2
            have rs4 := (rs.stay k2).stay k4
            refine ⟨accV, hD4, by rw [← rs4.length, ← szL_eq]; omega, ?_⟩
            -- the value frozen
            have py : Rep G (g4.retag tmpFz) H4 .fz v.2 y := by
              obtain ⟨md, tv⟩ := v
              cases md with
              | own => exact Rep.freeze p4
              | fro => exact Rep.freeze' p4 rfl
              | bor _ => cases hs
            have od5 : (g4.retag tmpFz).ow d = some (.cm d) := by rw [retag_at od4]; rfl
            refine ⟨(g4.retag tmpFz).own d (.cm d), s3, acc ++ [v.2], accV ++ [y], ?_, ?_, Gh.own_at, upd_same, ?_, by rw [List.length_append]; simp; omega, by rw [hres]; exact h2⟩
            · rw [← ew]
              exact (r4.freeze.wipes tg.slots).reown (.inr rfl) od5
            · have kk : Keep g0 H0 (g4.retag tmpFz) H4 := ((k.trans k2).trans k4).trans keep_freeze
              have ne : ∀ a o, g0.ow a = some o → a ≠ d := fun a o h z => by subst z; exact r0 _ _ h hd0
              exact ⟨fun a h => ⟨(Gh.own_off (ne _ _ h)).trans (kk.fz a h).1, (upd_ne (ne _ _ h)).trans (kk.fz a h).2⟩, fun a h => ⟨(Gh.own_off (ne _ _ h)).trans (kk.ext a h).1, (upd_ne (ne _ _ h)).trans (kk.ext a h).2⟩,
                fun p a h => ⟨(Gh.own_off (ne _ _ h)).trans (kk.lkd p a h).1, (upd_ne (ne _ _ h)).trans (kk.lkd p a h).2⟩, fun a h => ⟨(Gh.own_off (ne _ _ h)).trans (kk.cm a h).1, (upd_ne (ne _ _ h)).trans (kk.cm a h).2⟩, kk.m⟩
            · exact Reps.reown od5 ((rs4.freeze).append (.cons py .nil))
    cases c with
    | none => exact next true s1 g' H' r1 Keep.refl hc
    | some c =>
      refine ⟨lk, g', s1, r1, ?_⟩
      have hc : (((ev Γ C C' lk c s1).bind fun v s1 => optR (truth v.2) fun b => .ok b s1).bind fun b s2 =>
        if b then (ev Γ C C' lk e s2).bind fun v s3 => if v.1.sto then compL lk tg (fun s => evc Γ C C' lk (some c) s) (fun s => ev Γ C C' lk e s) rest (acc ++ [v.2]) s3 else .no
        else compL lk tg (fun s => evc Γ C C' lk (some c) s) (fun s => ev Γ C C' lk e s) rest acc s2) = .ok ys sE := hc
      cases ec : (ev Γ C C' lk c s1).bind fun v s1 => optR (truth v.2) fun b => Res.ok b s1 with
      | no => rw [ec] at hc; cases hc
      | exc c xs s3 => rw [ec] at hc; cases hc
      | ok b s2 =>
        rw [ec] at hc
        exact fun g2 H2 r2 k2 => next b s2 g2 H2 r2 k2 hc
end
end Mi

/-! soundness: comprehensions over lists, tuples, ranges; for over a range; while -/
namespace Mi
open PySem PySem.Spec PyProof.Rows L2

section
variable {G : Gx} {W : WX} {Γ : Gm} {C C' : CallF} {g g1 g2 g' : Gh} {H H1 H2 H' : Hp} {σ σ' : L2.St} {s s1 s2 : S} {lk lk' : List Pl} {Q : VK} {D : Ends}

/-- the start of a comprehension's loop: its list is laid, the block's names forgotten -/
theorem mid_start {tg : Tg} {e : Ex} {c : Option Ex} {items : List T} {p : Addr} (r : R G g lk s σ H) (hp : H p = none) {res : Res (List T)} (hc : compL lk tg (fun s => evc Γ C C' lk c s) (fun s => ev Γ C C' lk e s) items [] s = res) :
    Mid G Γ C C' lk tg e c res p g H σ items 0 (upd H p (.lst [])) := by
  have same : ∀ acc, compL lk tg (fun s => evc Γ C C' lk c s) (fun s => ev Γ C C' lk e s) items acc s = compL lk tg (fun s => evc Γ C C' lk c s) (fun s => ev Γ C C' lk e s) items acc s := fun _ => rfl
  refine ⟨g.own p (.cm p), s, [], [], (r.wipes tg.slots).alloc hp (.inr (.inr rfl)), keep_alloc r hp, Gh.own_at, upd_same, .nil, Nat.zero_le _, hc⟩
/-- the end -/
theorem mid_end {tg : Tg} {e : Ex} {c : Option Ex} {res : Res (List T)} {p : Addr} {n : Nat} {ys : List T} {sE : S} {v : V} {items : List T} (hres : res = .ok ys sE) (hn : n ≤ szL)
    (r1 : R G g' (lks v ++ lk) s1 σ H1) (hp : H1 p = none) (M : Mid G Γ C C' (lks v ++ lk) tg e c res p g' H1 σ [] n H') (h : Post G W lk g σ H (okO (.lst ys) sE) Q) (k0 : Keep g H g1 H1)
    (back : ∀ g2 H2 s2 σ2, R G g2 (lks v ++ lk) s2 σ2 H2 → Keep g' H1 g2 H2 → ∃ g3, R G g3 lk s2 σ2 H2 ∧ Keep g1 H1 g3 H2 ∧ (∀ m t y, Rep G g2 H2 (mdO (lks v ++ lk) m) t y → Rep G g3 H2 (mdO lk m) t y)) : Q (.ref p) H' := by
  obtain ⟨g2, s', acc, accV, r, k, od, hD, rs, hl, hc⟩ := M.ex
  have hc : Res.ok acc (wipe tg s') = res := hc
  rw [hres] at hc
  cases hc
  have r' := r.unwipe
  have eu : upd H' p (.lst accV) = H' := by
    funext b
    by_cases z : b = p
    · subst z; rw [upd_same]; exact hD.symm
    · rw [upd_ne z]
  have r2 : R G (g2.own p .tmp) (lks v ++ lk) (wipe tg s') σ H' := by
    have := r'.reown (o := .tmp) (u := .lst accV) (.inl rfl) od
    rw [eu] at this
    exact this
  have hold : ∀ o, o ≠ .cm p → Holds o g2 H' (g2.own p .tmp) H' := fun o ne a ha => ⟨by rw [Gh.own_off (fun z => by subst z; rw [od] at ha; exact ne (Option.some.inj ha).symm)]; exact ha, rfl⟩
  have k2 : Keep g' H1 (g2.own p .tmp) H' := by
    exact ⟨fun a h => ⟨(hold _ (by intro z; cases z) a (k.fz a h).1).1, (k.fz a h).2⟩, fun a h => ⟨(hold _ (by intro z; cases z) a (k.ext a h).1).1, (k.ext a h).2⟩, fun q a h => ⟨(hold _ (by intro z; cases z) a (k.lkd q a h).1).1, (k.lkd q a h).2⟩,
      fun d h => ⟨(hold _ (fun z => by cases z; exact r1.dom _ _ h hp) d (k.cm d h).1).1, (k.cm d h).2⟩, k.m⟩
  obtain ⟨g3, r3, k3, m3⟩ := back _ _ _ _ r2 k2
  refine h g3 H' (.ref p) r3 (k0.trans k3) (m3 .own _ _ ?_)
  refine .lst Gh.own_at (show H' p = some (.lst accV) from hD) (by omega) (rs.tr (hold _ (by intro z; cases z)) fun _ _ z => z)
end
end Mi

/-! soundness: comprehensions over lists, tuples, ranges; for over a range; while -/
namespace Mi
open PySem PySem.Spec PyProof.Rows L2

section
variable {G : Gx} {W : WX} {Γ : Gm} {C C' : CallF} {g g1 g2 g' : Gh} {H H1 H2 H' : Hp} {σ σ' : L2.St} {s s1 s2 : S} {lk lk' : List Pl} {Q : VK} {D : Ends}

theorem Rep.lenL {o : Ow} {xs : List T} {x : L2.V} (h : Rep G g H o (.lst xs) x) : xs.length ≤ szL := by
  cases h with
  | lst w h z r => exact z
  | lstK h z r => exact z
theorem comp_core {tg : Tg} {e : Ex} {c : Option Ex} {v : V} {x : L2.V} {xs : List T} (r1 : R G g1 lk s1 σ H1) (p1 : Rep G g1 H1 (mdO lk v.1) v.2 x) (hz : xs.length ≤ szL)
    (h : Post G W lk g1 σ H1 (noExc ((compL (lks v ++ lk) tg (fun s => evc Γ C C' (lks v ++ lk) c s) (fun s => ev Γ C C' (lks v ++ lk) e s) xs [] s1).bind fun ys s2 => okO (.lst ys) s2)) Q) :
    ∃ g1' res ys sE, res = .ok ys sE ∧ R G g1' (lks v ++ lk) s1 σ H1 ∧ Keep g1 H1 g1' H1 ∧ (∃ o, o.soft = true ∧ Rep G g1' H1 o v.2 x) ∧ ∀ D, H1 D = none → Mid G Γ C C' (lks v ++ lk) tg e c res D g1' H1 σ xs 0 (upd H1 D (.lst [])) ∧
      ∀ n H', n ≤ szL → Mid G Γ C C' (lks v ++ lk) tg e c res D g1' H1 σ [] n H' → Q (.ref D) H' := by
  cases hc : compL (lks v ++ lk) tg (fun s => evc Γ C C' (lks v ++ lk) c s) (fun s => ev Γ C C' (lks v ++ lk) e s) xs [] s1 with
  | no => rw [hc] at h; exact h.elim
  | exc a b d => rw [hc] at h; exact h.elim
  | ok ys sE =>
    rw [hc] at h
    obtain ⟨g1', r1', k1', so, back⟩ := pend r1 p1
    refine ⟨g1', _, ys, sE, rfl, r1', k1', so, fun D hD => ⟨mid_start r1' hD hc, fun n H' hn M => ?_⟩⟩
    refine mid_end (items := []) rfl hn r1' hD M (g := g1) (H := H1) (g1 := g1) h Keep.refl fun g2 H2 s2 σ2 r2 k2 => ?_
    obtain ⟨g3, r3, k3, _, m3, _, _⟩ := back g2 H2 s2 σ2 r2 k2
    exact ⟨g3, r3, k3, m3⟩

/-- a comprehension over a list or a tuple -/
theorem comp_seq {tg : Tg} {it e : Ex} {c : Option Ex} (hR : R G g lk s σ H) (h : Post G W lk g σ H (ev Γ C C' lk (.comp e tg it c) s) Q)
    (hseq : ∀ v s1, ev Γ C C' lk it s = .ok v s1 → (∃ xs, v.2 = .lst xs) ∨ ∃ xs, v.2 = .tup xs) :
    tLc (iList G.K (tE G W Γ C C' it)) (gTg G.K tg) (tTc G Γ C C' c) (tE G noW Γ C C' e) tg.slots σ H Q ∨ tLc (iTup G.K (tE G W Γ C C' it)) (gTg G.K tg) (tTc G Γ C C' c) (tE G noW Γ C C' e) tg.slots σ H Q := by
  rw [ev] at h
  cases ea : ev Γ C C' lk it s with
  | no => rw [ea] at h; exact h.elim
  | exc c xs s1 =>
    rw [ea] at h
    left
    refine ⟨lk, g, s, hR, ?_⟩
    rw [ea]
    exact fun g' H' cls d r' k' ex => h g' H' cls d r' k' ex
  | ok v s1 =>
    have hs := hseq v s1 ea
    rw [ea] at h
    have h : Post G W lk g σ H (optR (itemsR Γ v.2 s1) fun xs => noExc ((compL (lks v ++ lk) tg (fun s => evc Γ C C' (lks v ++ lk) c s) (fun s => ev Γ C C' (lks v ++ lk) e s) xs [] s1).bind fun ys s2 => okO (.lst ys) s2)) Q := h
    rcases hs with ⟨xs, e0⟩ | ⟨xs, e0⟩
    · left
      rw [e0] at h
      have h : Post G W lk g σ H (noExc ((compL (lks v ++ lk) tg (fun s => evc Γ C C' (lks v ++ lk) c s) (fun s => ev Γ C C' (lks v ++ lk) e s) xs [] s1).bind fun ys s2 => okO (.lst ys) s2)) Q := h
      refine ⟨lk, g, s, hR, ?_⟩
      rw [ea]
      intro g1 H1 vx r1 k1 p1
      have hz : xs.length ≤ szL := by rw [e0] at p1; exact p1.lenL
      obtain ⟨g1', res, ys, sE, hres, r1', k1', ⟨o, so, po⟩, hp⟩ := comp_core r1 p1 hz (h.keep k1)
      rw [e0] at po
      obtain ⟨a, vs, rfl, rs, sq, st⟩ := stay_lst po so
      refine ⟨a, rfl, ⟨vs, sq⟩, fun D hD => ?_⟩
      obtain ⟨m0, fin⟩ := hp D hD
      refine lc_list (fun i H' => Mid G Γ C C' (lks v ++ lk) tg e c res D g1' H1 σ (xs.drop i) i H') m0 (fun i H' _ ⟨g', s', _, _, _, k, _⟩ => st g' H' k) (fun i x H' hx M => ?_) (fun H' M => fin xs.length H' hz ?_)
      · obtain ⟨t, ht, pt⟩ := get_of rs hx
        rw [drop_cons ht] at M
        obtain ⟨hl, _⟩ := List.getElem?_eq_some_iff.mp ht
        exact comp_turn hD r1'.dom hres (by omega) M fun g' s' σ' r k => ⟨g', r, Keep.refl, pt.tr k.fz k.m k.fz⟩
      · rw [← rs.length, List.drop_length] at M; exact M
    · right
      have hz : xs.length ≤ szL := by
        by_cases z : xs.length ≤ szL
        · exact z
        · rw [e0, show itemsR Γ (.tup xs) s1 = none from if_neg z] at h; exact h.elim
      rw [e0, show itemsR Γ (.tup xs) s1 = some xs from if_pos hz] at h
      have h : Post G W lk g σ H (noExc ((compL (lks v ++ lk) tg (fun s => evc Γ C C' (lks v ++ lk) c s) (fun s => ev Γ C C' (lks v ++ lk) e s) xs [] s1).bind fun ys s2 => okO (.lst ys) s2)) Q := h
      refine ⟨lk, g, s, hR, ?_⟩
      rw [ea]
      intro g1 H1 vx r1 k1 p1
      obtain ⟨g1', res, ys, sE, hres, r1', k1', ⟨o, so, po⟩, hp⟩ := comp_core r1 p1 hz (h.keep k1)
      rw [e0] at po
      obtain ⟨a, vs, rfl, rs, sq, st⟩ := stay_tup po
      refine ⟨a, rfl, ⟨vs, sq⟩, fun D hD => ?_⟩
      obtain ⟨m0, fin⟩ := hp D hD
      refine lc_tup (fun i H' => Mid G Γ C C' (lks v ++ lk) tg e c res D g1' H1 σ (xs.drop i) i H') m0 (fun i H' _ ⟨g', s', _, _, _, k, _⟩ => st g' H' k) (fun i x H' hx M => ?_) (fun H' M => fin xs.length H' hz ?_)
      · obtain ⟨t, ht, pt⟩ := get_of rs hx
        rw [drop_cons ht] at M
        obtain ⟨hl, _⟩ := List.getElem?_eq_some_iff.mp ht
        exact comp_turn hD r1'.dom hres (by omega) M fun g' s' σ' r k => ⟨g', r, Keep.refl, pt.tr k.fz k.m k.fz⟩
      · rw [← rs.length, List.drop_length] at M; exact M

/-! ### ranges -/
def rngL (i : Int) : List T := (List.range i.toNat).map fun k => .int (k : Nat)
theorem rng_get {i : Int} {k : Nat} (h : k < i.toNat) : (rngL i)[k]? = some (.int (k : Nat)) := by
  unfold rngL
  rw [List.getElem?_map, List.getElem?_range h]; rfl
theorem rng_len {i : Int} : (rngL i).length = i.toNat := by unfold rngL; rw [List.length_map, List.length_range]
/-- what range(a) answers -/
theorem rng_res {a : Ex} {r : Res V} (h : ev Γ C C' lk (.bi .range [a]) s = r) (hr : r ≠ .no) :
    (∃ i s1 md, evs Γ C C' lk [a] s = .ok [(md, .int i)] s1 ∧ r = .ok (.own, .lst (rngL i)) s1 ∧ -4611686018427387904 ≤ i ∧ i < 16777216) ∨ ∃ c xs s1, evs Γ C C' lk [a] s = .exc c xs s1 ∧ r = .exc c xs s1 := by
  rw [ev] at h
  cases ea : evs Γ C C' lk [a] s with
  | no => rw [ea] at h; exact absurd h.symm hr
  | exc c xs s1 => rw [ea] at h; exact .inr ⟨c, xs, s1, rfl, h.symm⟩
  | ok vs s1 =>
    rw [ea] at h
    have h : biR Γ C' lk .range vs s1 = r := h
    match vs with
    | [] => exact absurd h.symm hr
    | [(md, .int i)] =>
      have h : (if -4611686018427387904 ≤ i ∧ i < 16777216 then okO (.lst (rngL i)) s1 else .no) = r := h
      split at h
      · rename_i q
        exact .inl ⟨i, s1, md, rfl, h.symm, q.1, q.2⟩
      · exact absurd h.symm hr
    | [(md, .non)] => exact absurd h.symm hr
    | [(md, .bl _)] => exact absurd h.symm hr
    | [(md, .str _)] => exact absurd h.symm hr
    | [(md, .tup _)] => exact absurd h.symm hr
    | [(md, .lst _)] => exact absurd h.symm hr
    | [(md, .dct _)] => exact absurd h.symm hr
    | [(md, .dcu _)] => exact absurd h.symm hr
    | [(md, .box _)] => exact absurd h.symm hr
    | [(md, .cls _)] => exact absurd h.symm hr
    | [(md, .exc _ _)] => exact absurd h.symm hr
    | _ :: _ :: _ => exact absurd h.symm hr

theorem one_int {md : Md} {i : Int} {vs : List L2.V} (h : RepL G g H lk [(md, .int i)] vs) : vs = [.int i] := by
  cases h with
  | cons h r => cases r; rw [Rep.int_inv h]
theorem comp_range {tg : Tg} {a e : Ex} {c : Option Ex} (hR : R G g lk s σ H) (h : Post G W lk g σ H (ev Γ C C' lk (.comp e tg (.bi .range [a]) c) s) Q) :
    tLc (iRng1 (tEs G W Γ C C' [a])) (gTg G.K tg) (tTc G Γ C C' c) (tE G noW Γ C C' e) tg.slots σ H Q := by
  rw [ev] at h
  refine ⟨lk, g, s, hR, ?_⟩
  have hno : ev Γ C C' lk (.bi .range [a]) s ≠ .no := fun z => by rw [z] at h; exact h.elim
  rcases rng_res rfl hno with ⟨i, s1, md, ea, er, h1, h2⟩ | ⟨cc, xs, s1, ea, er⟩
  · rw [er] at h
    have h : Post G W lk g σ H (noExc ((compL lk tg (fun s => evc Γ C C' lk c s) (fun s => ev Γ C C' lk e s) (rngL i) [] s1).bind fun ys s2 => okO (.lst ys) s2)) Q := h
    rw [ea]
    intro g1 H1 xs r1 k1 p1
    have ex := one_int p1
    subst ex
    refine ⟨i, rfl, by omega, by omega, fun D hD => ?_⟩
    have hz : (rngL i).length ≤ szL := by rw [rng_len]; unfold szL; omega
    obtain ⟨g1', res, ys, sE, hres, r1', k1', _, hp⟩ := comp_core (v := (.fro, .non)) (x := .non) r1 .non hz (h.keep k1)
    obtain ⟨m0, fin⟩ := hp D hD
    refine lc_range (fun k H' => Mid G Γ C C' lk tg e c res D g1' H1 σ ((rngL i).drop k) k H') m0 (fun k H' hk M => ?_) (fun H' M => fin (rngL i).length H' hz ?_)
    · have ht := rng_get hk
      rw [drop_cons ht] at M
      have := comp_turn (x := .int (0 + (k : Int))) hD r1'.dom hres (by unfold szL; omega) M fun g' s' σ' r k => ⟨g', r, Keep.refl, by rw [Int.zero_add]; exact .int⟩
      exact this
    · rw [← rng_len, List.drop_length] at M; exact M
  · rw [er] at h
    rw [ea]
    exact fun g' H' cls d r' k' ex => h g' H' cls d r' k' ex

theorem for_rng {tg : Tg} {a : Ex} {body : List Sm} (hR : R G g lk s σ H) (h : PostS G W lk g H (exec Γ C C' lk (.for_ tg (.bi .range [a]) body) s) D) :
    tFor (iRng1 (tEs G W Γ C C' [a])) (gTg G.K tg) (tSs G W Γ C C' body) D σ H := by
  rw [exec] at h
  have hno : ev Γ C C' lk (.bi .range [a]) s ≠ .no := fun z => by rw [z] at h; exact h.elim
  refine ⟨lk, g, s, hR, ?_⟩
  rcases rng_res rfl hno with ⟨i, s1, md, ea, er, h1, h2⟩ | ⟨cc, xs, s1, ea, er⟩
  · rw [er] at h
    have h : PostS G W lk g H (forL lk tg (fun s => execs Γ C C' lk body s) (rngL i) s1) D := h
    rw [ea]
    intro g1 H1 xs r1 k1 p1
    have ex := one_int p1
    subst ex
    refine ⟨i, rfl, by omega, by omega, for_range (fun k σ' H' => ∃ g' s', R G g' lk s' σ' H' ∧ PostS G W lk g' H' (forL lk tg (fun s => execs Γ C C' lk body s) ((rngL i).drop k) s') D) ⟨g1, s1, r1, PostS.keep k1 h⟩ ?_ ?_⟩
    · rintro k σ' H' hk ⟨g', s', r', p'⟩
      have ht := rng_get hk
      rw [drop_cons ht] at p'
      rw [Int.zero_add]
      exact turn_ok r' .int p' fun g2 σ2 H2 s2 r2 k2 p2 => ⟨g2, s2, r2, p2⟩
    · rintro σ' H' ⟨g', s', r', p'⟩
      rw [← rng_len, List.drop_length] at p'
      exact p' g' σ' H' r' Keep.refl
  · rw [er] at h
    rw [ea]
    exact fun g' H' cls d r' k' ex => h g' σ H' cls d r' k' ex
end
end Mi

/-! soundness: built-in functions, isinstance, slices, split -/
namespace Mi
open PySem PySem.Spec PyProof.Rows L2

theorem spl_splitL : ∀ (l acc : List Nat), TL.spl [32] 0 acc l = match splitL l with | w :: t => (acc ++ w) :: t | [] => [acc]
  | [], acc => by
    show [acc] = (acc ++ []) :: []
    rw [List.append_nil]
  | c :: r, acc => by
    by_cases hc : c = 32
    · subst hc
      have e0 : TL.spl [32] 0 acc (32 :: r) = acc :: TL.spl [32] 0 [] r := TL.spl_hit (by simp [TL.pre])
      rw [e0]
      have e : splitL (32 :: r) = [] :: splitL r := by
        show (if 32 = 32 then [] :: splitL r else match splitL r with | w :: t => (32 :: w) :: t | [] => [[32]]) = _
        rw [if_pos rfl]
      rw [e]
      show acc :: TL.spl [32] 0 [] r = (acc ++ []) :: splitL r
      rw [List.append_nil, spl_splitL r []]
      obtain ⟨w, t, ht⟩ := splitL_ne r
      rw [ht]; rfl
    · rw [TL.spl_miss (by simp [TL.pre, hc]), spl_splitL r (acc ++ [c])]
      obtain ⟨w, t, ht⟩ := splitL_ne r
      have e : splitL (c :: r) = (c :: w) :: t := by
        show (if c = 32 then [] :: splitL r else match splitL r with | w :: t => (c :: w) :: t | [] => [[c]]) = _
        rw [if_neg hc, ht]
      rw [e, ht]
      simp
where splitL_ne : ∀ l : List Nat, ∃ w t, splitL l = w :: t
  | [] => ⟨_, _, rfl⟩
  | c :: r => by
    obtain ⟨w, t, ht⟩ := splitL_ne r
    have e : splitL (c :: r) = if c = 32 then [] :: splitL r else match splitL r with | w :: t => (c :: w) :: t | [] => [[c]] := rfl
    rw [e]
    split
    · exact ⟨_, _, rfl⟩
    · rw [ht]; exact ⟨_, _, rfl⟩
theorem splitL_mem : ∀ (l : List Nat) (w : List Nat), w ∈ splitL l → w.length ≤ l.length ∧ ∀ c ∈ w, c ∈ l
  | [], w, h => by
    have h : w ∈ [([] : List Nat)] := h
    simp at h; subst h; simp
  | c :: r, w, h => by
    have e : splitL (c :: r) = if c = 32 then [] :: splitL r else match splitL r with | w :: t => (c :: w) :: t | [] => [[c]] := rfl
    rw [e] at h
    split at h
    · rcases List.mem_cons.mp h with rfl | h
      · simp
      · obtain ⟨h1, h2⟩ := splitL_mem r w h
        exact ⟨by simp; omega, fun d hd => List.mem_cons_of_mem _ (h2 d hd)⟩
    · obtain ⟨v, t, ht⟩ := spl_splitL.splitL_ne r
      rw [ht] at h
      rcases List.mem_cons.mp h with rfl | h
      · obtain ⟨h1, h2⟩ := splitL_mem r v (by rw [ht]; exact List.mem_cons_self)
        refine ⟨by simp; omega, fun d hd => ?_⟩
        rcases List.mem_cons.mp hd with rfl | hd
        · exact List.mem_cons_self
        · exact List.mem_cons_of_mem _ (h2 d hd)
      · obtain ⟨h1, h2⟩ := splitL_mem r w (by rw [ht]; exact List.mem_cons_of_mem _ h)
        exact ⟨by simp; omega, fun d hd => List.mem_cons_of_mem _ (h2 d hd)⟩
theorem split_ok {x : Str} : (Txt.split x (" " : Str)).map (fun z => z.cps.toList) = splitL x.cps.toList := by
  have h := TL.split_spl x (" " : Str) (by decide +kernel) (TL.kind_ok (by decide +kernel))
  have e : (Txt.split x (" " : Str)).map (fun z => z.cps.toList) = TL.spl [32] 0 [] x.cps.toList := h
  rw [e, spl_splitL]
  obtain ⟨w, t, ht⟩ := spl_splitL.splitL_ne x.cps.toList
  rw [ht]; simp

section
variable {G : Gx} {W : WX} {Γ : Gm} {C C' : CallF} {g g1 g2 g' : Gh} {H H1 H2 H' : Hp} {σ σ' : L2.St} {s s1 s2 : S} {lk lk' : List Pl} {Q : VK} {D : Ends}

theorem reps_strs {ys : List Str} (h : ∀ y ∈ ys, (∀ c ∈ y.cps.toList, c < 255) ∧ y.length ≤ 390) : Reps G g H (ys.map fun y => .str (enc y)) (ys.map V.str) := by
  induction ys with
  | nil => exact .nil
  | cons y ys ih => exact .cons (.str ⟨rfl, (h y List.mem_cons_self).1, (h y List.mem_cons_self).2⟩) (ih fun z hz => h z (List.mem_cons_of_mem _ hz))
theorem str_inv {o : Ow} {n : Nat} {v : L2.V} (h : Rep G g H o (.str n) v) : ∃ x, v = .str x ∧ StrOk x n := by
  cases h with
  | str h => exact ⟨_, rfl, h⟩
def rSplit : L2.V → List L2.V → Hp → VK → Prop := fun x xs H Q => ∃ a b, x = .str a ∧ xs = [.str b] ∧ (b.length == 0) = false ∧ a.length + 2 ≤ sizeLine ∧ rNewStrs (Txt.split a b) H Q
theorem split_e {e : Ex} (h : tE G W Γ C C' (.split e) σ H Q) : tM1 rSplit (tE G W Γ C C' e) (tC (.str " ")) σ H Q := by
  obtain ⟨lk, g, s, hR, h⟩ := h
  rw [ev] at h
  refine one_at hR h fun x s1 g' H' vx _ r1 p1 h1 => ?_
  obtain ⟨md, t⟩ := x
  cases t with
  | str n =>
    obtain ⟨y, rfl, ok⟩ := str_inv p1
    refine ⟨⟨y, rfl⟩, y, " ", rfl, rfl, by decide, by have := ok.2.2; rw [sizeLine_eq]; omega, fun p hp => ?_⟩
    have h1 : Post G W lk g' σ H' (okO (.lst ((splitL (dec n)).map fun w => .str (encL w))) s1) Q := h1
    rw [ok.dec, ← split_ok, List.map_map] at h1
    have mem : ∀ z ∈ Txt.split y (" " : Str), (∀ c ∈ z.cps.toList, c < 255) ∧ z.length ≤ 390 := fun z hz => by
      have : z.cps.toList ∈ splitL y.cps.toList := by rw [← split_ok]; exact List.mem_map_of_mem hz
      obtain ⟨h1, h2⟩ := splitL_mem _ _ this
      exact ⟨fun c hc => ok.2.1 c (h2 c hc), Nat.le_trans h1 ok.2.2⟩
    refine Post.newL r1 h1 (reps_strs mem) ?_ hp
    have := PyProof.Rows.split_le y (" " : Str)
    rw [List.length_map]
    have := ok.2.2
    unfold szL; omega
  | _ => exact h1.elim

/-! ### built-in functions -/
def rBi (K : PySem.W.Frag) : Bi → List L2.V → Hp → VK → Prop
  | .len => fun xs H Q => ∃ p ys, xs = [.ref p] ∧ (SqL K H p ys ∨ SqT K H p ys) ∧ Q (.int ys.length) H
  | .any => rAny K
  | .all => rAll K
  | .list => fun xs H Q => ∃ p ys, xs = [.ref p] ∧ (SqL K H p ys ∨ SqT K H p ys) ∧ ∀ l, H l = none → Q (.ref l) (upd H l (.lst ys))
  | .tuple => fun xs H Q => ∃ p ys, xs = [.ref p] ∧ ((SqL K H p ys ∧ ∀ l, H l = none → Q (.ref l) (upd H l (.tup ys))) ∨ (SqT K H p ys ∧ Q (.ref p) H))
  | .int => fun xs H Q => (∃ i, xs = [.int i] ∧ Q (.int i) H) ∨ ∃ k, xs = [.bl k] ∧ Q (.int (if k then 1 else 0)) H
  | .str => fun xs H Q => ∃ i, xs = [.int i] ∧ i.natAbs.log2 < 1920 ∧ Q (.str (toString i)) H
  | _ => fun _ _ _ => False
theorem bools_rep {o : Ow} : ∀ {ts : List T} {vs : List L2.V} {bs : List Bool}, Reps G g H ts vs → boolsOf ts = some bs → vs = bs.map V.bl
  | _, _, bs, .nil, e => by cases e; rfl
  | t :: ts, v :: vs, bs, .cons h r, e => by
    cases t with
    | bl b =>
      have e : (boolsOf ts).map (b :: ·) = some bs := e
      cases e2 : boolsOf ts with
      | none => rw [e2] at e; cases e
      | some bs' =>
        rw [e2] at e
        cases e
        rw [Rep.bl_inv h, bools_rep (o := o) r e2]
        rfl
    | _ => cases e
/-- boxes as operands are another thing -/
def flatB (b : Bi) (vs : List V) : Bool := vs.all fun v => match v.2 with
  | .box _ => false
  | .dct _ => false
  | .dcu _ => false
  | _ => true
theorem num_str : ∀ i : Nat, i < 10 → ((toString (i : Int) : Str)).cps.toList = [48 + i] := by decide
theorem bi_ok {b : Bi} {vs : List V} {xs : List L2.V} (hb : b ≠ .range ∧ b ≠ .enum) (hf : flatB b vs = true) (hR : R G g lk s σ H) (p : RepL G g H lk vs xs) (h : Post G W lk g σ H (biR Γ C' lk b vs s) Q) : rBi G.K b xs H Q := by
  have ar : (∃ v, vs = [v]) := by
    match vs, h with
    | [v], _ => exact ⟨v, rfl⟩
    | [], h => cases b <;> exact h.elim
    | _ :: _ :: _, h => cases b <;> exact h.elim
  obtain ⟨⟨md, t⟩, rfl⟩ := ar
  cases p with
  | @cons _ x _ _ p1 p2 =>
  cases p2
  have p1 : Rep G g H (pO lk md) t x := p1
  have hf : (match t with | .box _ => false | .dct _ => false | .dcu _ => false | _ => true) = true := by
    simpa [flatB] using hf
  cases b with
  | range => exact absurd rfl hb.1
  | enum => exact absurd rfl hb.2
  | len =>
    cases t with
    | lst ts =>
      obtain ⟨a, vs, rfl, q, _, r⟩ := p1.sql
      exact ⟨a, vs, rfl, .inl q, by rw [← r.length]; exact Post.old hR h .int⟩
    | tup ts =>
      obtain ⟨a, vs, rfl, q, r⟩ := p1.sqt
      exact ⟨a, vs, rfl, .inr q, by rw [← r.length]; exact Post.old hR h .int⟩
    | box _ => cases hf
    | dct _ => cases hf
    | dcu _ => cases hf
    | _ => exact h.elim
  | any =>
    cases t with
    | lst ts =>
      obtain ⟨a, vs, rfl, q, _, r⟩ := p1.sql
      have h : Post G W lk g σ H (optR (boolsOf ts) fun bs => okF (.bl (bs.any id)) s) Q := h
      cases e : boolsOf ts with
      | none => rw [e] at h; exact h.elim
      | some bs =>
        rw [e] at h
        refine ⟨a, bs, rfl, ?_, Post.old hR h .bl⟩
        rw [← bools_rep (o := .fz) r e]; exact q
    | _ => exact h.elim
  | all =>
    cases t with
    | lst ts =>
      obtain ⟨a, vs, rfl, q, _, r⟩ := p1.sql
      have h : Post G W lk g σ H (optR (boolsOf ts) fun bs => okF (.bl (bs.all id)) s) Q := h
      cases e : boolsOf ts with
      | none => rw [e] at h; exact h.elim
      | some bs =>
        rw [e] at h
        refine ⟨a, bs, rfl, ?_, Post.old hR h .bl⟩
        rw [← bools_rep (o := .fz) r e]; exact q
    | _ => exact h.elim
  | list =>
    cases t with
    | lst ts =>
      obtain ⟨a, vs, rfl, q, z, r⟩ := p1.sql
      exact ⟨a, vs, rfl, .inl q, fun l hl => Post.newL hR h r z hl⟩
    | tup ts =>
      obtain ⟨a, vs, rfl, q, r⟩ := p1.sqt
      have h : Post G W lk g σ H (optR (if ts.length ≤ szL then some ts else none) fun xs => okO (.lst xs) s) Q := h
      split at h
      · rename_i z
        exact ⟨a, vs, rfl, .inr q, fun l hl => Post.newL hR h r z hl⟩
      · exact h.elim
    | box _ => cases hf
    | dct _ => cases hf
    | dcu _ => cases hf
    | _ => exact h.elim
  | tuple =>
    cases t with
    | lst ts =>
      obtain ⟨a, vs, rfl, q, z, r⟩ := p1.sql
      exact ⟨a, vs, rfl, .inl ⟨q, fun l hl => Post.newT hR h r hl⟩⟩
    | tup ts =>
      have p2 := p1.free (o' := .fz) rfl
      obtain ⟨a, vs, rfl, q, r⟩ := p1.sqt
      exact ⟨a, vs, rfl, .inr ⟨q, Post.old hR h p2⟩⟩
    | _ => exact h.elim
  | int =>
    cases t with
    | int i => rw [Rep.int_inv p1]; exact .inl ⟨i, rfl, Post.old hR h .int⟩
    | bl b => rw [Rep.bl_inv p1]; exact .inr ⟨b, rfl, Post.old hR h .int⟩
    | _ => exact h.elim
  | str =>
    cases t with
    | int i =>
      rw [Rep.int_inv p1]
      have h : Post G W lk g σ H (if 0 ≤ i ∧ i < 10 then okF (.str (encL [48 + i.toNat])) s else .no) Q := h
      split at h
      · rename_i hc
        obtain ⟨k, rfl⟩ : ∃ k : Nat, i = k := ⟨i.toNat, by omega⟩
        have hk : k < 10 := by omega
        refine ⟨_, rfl, ?_, Post.old hR h ?_⟩
        · have := hk
          have e : ((k : Int)).natAbs = k := rfl
          rw [e]
          rcases k with _ | _ | _ | _ | _ | _ | _ | _ | _ | _ | k
          all_goals first | decide | omega
        · refine .str ⟨?_, fun c hc => ?_, ?_⟩
          · unfold enc; rw [num_str k hk]; rfl
          · rw [num_str k hk] at hc; simp at hc; omega
          · show (toString (k : Int) : Str).cps.size ≤ 390
            rw [← Array.length_toList, num_str k hk]; simp
      · exact h.elim
    | _ => exact h.elim
theorem bi_e {b : Bi} {as : List Ex} (hb : b ≠ .range ∧ b ≠ .enum) (hR : R G g lk s σ H) (h : Post G W lk g σ H (ev Γ C C' lk (.bi b as) s) Q) (hf : ∀ vs s1, evs Γ C C' lk as s = .ok vs s1 → flatB b vs = true) :
    tCB (rBi G.K b) (tEs G W Γ C C' as) σ H Q := by
  rw [ev] at h
  exact many_at hR h fun vs s1 g' H' xs e r1 p1 h1 => bi_ok hb (hf vs s1 e) r1 p1 h1

/-! ### isinstance -/
def tyS : Ty → String
  | .bool => "bool" | .int => "int" | .str => "str" | .tuple => "tuple" | .list => "list" | .dict => "dict" | .cls _ => "object"
def tyTS : T → String
  | .non => "NoneType"
  | t => match tyT t with | some u => tyS u | none => "object"
theorem Rep.tyx {o : Ow} {t : T} {v : L2.V} (h : Rep G g H o t v) (ht : t = .non ∨ tyT t ≠ none) : TyX G.K H v (.type (tyTS t)) := by
  cases h with
  | non => exact .base .non
  | bl => exact .base (.bl _)
  | int => exact .base (.int _)
  | str h => exact .base (.str _)
  | tup h r =>
    rcases h with ⟨_, h⟩ | ⟨_, o, its, n, h1, h2, _⟩
    · exact .base (.tup h)
    · exact .kTuple h1 h2
  | lst w h z r =>
    rcases h.rd with h | ⟨o, h⟩
    · exact .base (.lst h)
    · exact .base (.frz h)
  | lstK h z r =>
    obtain ⟨o, its, n, h1, h2, _⟩ := h
    exact .kList h1 h2
  | dct w h z r =>
    rcases h.rd with h | ⟨o, h⟩
    · exact .base (.dK h)
    · exact .fDict h
  | dcu w h z r => rcases ht with z | z; cases z; exact absurd rfl z
  | box h => rcases ht with z | z; cases z; exact absurd rfl z
  | cls h => rcases ht with z | z; cases z; exact absurd rfl z
def isiC (t : Ty) : Bool := match t with | .cls _ => false | _ => true
theorem kit_tab {u t : Ty} (hu : isiC u = true) (ht : isiC t = true) : kitB (tyS u) (tyS t) = some (u == t || (u == .bool && t == .int)) := by
  cases u <;> cases t <;> first | (cases hu; done) | (cases ht; done) | decide +kernel
theorem kit_non {t : Ty} (ht : isiC t = true) : kitB "NoneType" (tyS t) = some false := by
  cases t <;> first | (cases ht; done) | decide +kernel
def isiB (x : T) (t : Ty) : Option Bool := match x with
  | .non => some false
  | x => match tyT x with
    | some u => some (u == t || (u == .bool && t == .int))
    | none => none
theorem isiT_eq {x : T} {t : Ty} (hc : isiC t = true) : isiT Γ x t = isiB x t := by
  cases t <;> first | (cases hc; done) | rfl
theorem isi_kit {t : Ty} (hc : isiC t = true) {x : T} {b : Bool} (h : isiT Γ x t = some b) : (x = .non ∨ tyT x ≠ none) ∧ kitB (tyTS x) (tyS t) = some b := by
  rw [isiT_eq hc] at h
  cases x with
  | non => cases h; exact ⟨.inl rfl, kit_non hc⟩
  | bl _ => cases h; exact ⟨.inr (by intro z; cases z), kit_tab (u := .bool) rfl hc⟩
  | int _ => cases h; exact ⟨.inr (by intro z; cases z), kit_tab (u := .int) rfl hc⟩
  | str _ => cases h; exact ⟨.inr (by intro z; cases z), kit_tab (u := .str) rfl hc⟩
  | tup _ => cases h; exact ⟨.inr (by intro z; cases z), kit_tab (u := .tuple) rfl hc⟩
  | lst _ => cases h; exact ⟨.inr (by intro z; cases z), kit_tab (u := .list) rfl hc⟩
  | dct _ => cases h; exact ⟨.inr (by intro z; cases z), kit_tab (u := .dict) rfl hc⟩
  | _ => cases h
theorem isi_e {e : Ex} {t : Ty} (hc : isiC t = true) (h : tE G W Γ C C' (.isi e t) σ H Q) : tCB (rIsi G.K) (tCons (tE G W Γ C C' e) (tCons (tC (.ty (tyS t))) tNil)) σ H Q := by
  obtain ⟨lk, g, s, hR, h⟩ := h
  rw [ev] at h
  refine one_at hR h fun x s1 g' H' vx _ r1 p1 h1 => ?_
  cases e : isiT Γ x.2 t with
  | none => rw [e] at h1; exact h1.elim
  | some b =>
    rw [e] at h1
    obtain ⟨h2, h3⟩ := isi_kit hc e
    exact ⟨vx, .ty (tyS t), .type (tyTS x.2), .type (tyS t), b, rfl, .ty _, p1.tyx h2, kit_ty h3, Post.old r1 h1 .bl⟩

/-! ### slices -/
variable (G W Γ C C')
def tO : Option Ex → TO
  | none => tNoPart
  | some e => tPart (tE G W Γ C C' e)
variable {G W Γ C C'}
theorem evo_at {o : Option Ex} {F : Option Int → S → Res V} {K : Option Int → Hp → Prop} (hR : R G g lk s σ H) (h : Post G W lk g σ H ((evo Γ C C' lk o s).bind fun x s1 => F x s1) Q)
    (hr : ∀ x s1 g' H', R G g' lk s1 σ H' → Keep g H g' H' → Post G W lk g' σ H' (F x s1) Q → K x H') : tO G W Γ C C' o σ H K := by
  cases o with
  | none => exact hr none s g H hR Keep.refl h
  | some e =>
    have h : Post G W lk g σ H (((ev Γ C C' lk e s).bind fun v s1 => match v.2 with | .int i => .ok (some i) s1 | _ => .no).bind fun x s1 => F x s1) Q := h
    refine ⟨lk, g, s, hR, ?_⟩
    cases ea : ev Γ C C' lk e s with
    | no => rw [ea] at h; exact h.elim
    | exc c xs s1 => rw [ea] at h; exact h
    | ok x s1 =>
      rw [ea] at h
      intro g1 H1 vx r1 k1 p1
      obtain ⟨md, t⟩ := x
      cases t with
      | int i => exact ⟨i, Rep.int_inv p1, hr (some i) s1 g1 H1 r1 k1 (Post.keep k1 h)⟩
      | _ => exact h.elim
def rSl (K : PySem.W.Frag) : L2.V → Option Int → Option Int → Hp → VK → Prop := fun x lo hi H Q => rSlL K x lo hi H Q ∨ rSlA K x lo hi H Q
theorem clip_eq (n d : Nat) (o : Option Int) : clip n d o = HT.sIx n d o := by
  cases o with
  | none => rfl
  | some i =>
    show (if i < 0 then (max (i + n) 0).toNat else (min i n).toNat) = (if i < 0 then (i + (n : Int)).toNat else min i.toNat n)
    split <;> omega
theorem Reps.cut {ts : List T} {vs : List L2.V} (h : Reps G g H ts vs) (lo hi : Option Int) : Reps G g H (cut ts lo hi) (cutV vs lo hi) := by
  unfold Mi.cut cutV
  rw [clip_eq, clip_eq, h.length]
  exact (h.drop _).take _
theorem cut_len {ts : List T} (lo hi : Option Int) : (cut ts lo hi).length ≤ ts.length := by
  unfold Mi.cut; rw [List.length_take, List.length_drop]; omega
theorem Post.unpend {v : V} {r : Res V} {g0 : Gh} (h : Post G W lk g σ H r Q) (k0 : Keep g H g1 H1)
    (back : ∀ g2 H2 s2 σ2, R G g2 (lks v ++ lk) s2 σ2 H2 → Keep g0 H1 g2 H2 → ∃ g3, R G g3 lk s2 σ2 H2 ∧ Keep g1 H1 g3 H2 ∧ (∀ m t y, Rep G g2 H2 (mdO (lks v ++ lk) m) t y → Rep G g3 H2 (mdO lk m) t y) ∧ (∀ a, g2.ow a = some .fz → g3.ow a = some .fz)) :
    Post G W (lks v ++ lk) g0 σ H1 r Q := by
  cases r with
  | no => exact h
  | exc c xs s' =>
    intro g2 H2 cls d r2 k2 ex
    obtain ⟨g3, r3, k3, m3, f3⟩ := back g2 H2 s' σ r2 k2
    exact h g3 H2 cls d r3 (k0.trans k3) (ex.move (fun t v z => m3 .fro t v z) f3)
  | ok f s' =>
    intro g2 H2 x r2 k2 p2
    obtain ⟨g3, r3, k3, m3, f3⟩ := back g2 H2 s' σ r2 k2
    exact h g3 H2 x r3 (k0.trans k3) (m3 _ _ _ p2)
theorem slc_e {e : Ex} {lo hi : Option Ex} (h : tE G W Γ C C' (.slc e lo hi) σ H Q) : tSl (rSl G.K) (tE G W Γ C C' e) (tO G W Γ C C' lo) (tO G W Γ C C' hi) σ H Q := by
  obtain ⟨lk, g, s, hR, h⟩ := h
  rw [ev] at h
  refine ⟨lk, g, s, hR, ?_⟩
  cases ea : ev Γ C C' lk e s with
  | no => rw [ea] at h; exact h.elim
  | exc c xs s1 => rw [ea] at h; exact h
  | ok x s1 =>
    rw [ea] at h
    have h : Post G W lk g σ H ((evo Γ C C' (lks x ++ lk) lo s1).bind fun a s2 => (evo Γ C C' (lks x ++ lk) hi s2).bind fun b s3 => slcR x a b s3) Q := h
    intro g1 H1 vx r1 k1 p1
    obtain ⟨g1', r1', k1', ⟨o, so, po⟩, back⟩ := pend r1 p1
    have h2 : Post G W (lks x ++ lk) g1' σ H1 ((evo Γ C C' (lks x ++ lk) lo s1).bind fun a s2 => (evo Γ C C' (lks x ++ lk) hi s2).bind fun b s3 => slcR x a b s3) Q :=
      Post.unpend (v := x) (g1 := g1) h k1 fun g2 H2 s2 σ2 r2 k2 => by
        obtain ⟨g3, r3, k3, _, m3, _, f3⟩ := back g2 H2 s2 σ2 r2 k2
        exact ⟨g3, r3, k3, m3, f3⟩
    refine evo_at r1' h2 fun a s2 g2 H2 r2 k2 h3 => ?_
    refine evo_at r2 h3 fun b s3 g3 H3 r3 k3 h4 => ?_
    have k23 := k2.trans k3
    obtain ⟨md, t⟩ := x
    cases t with
    | lst ts =>
      obtain ⟨a', vs, rfl, rs, _, st⟩ := stay_lst po so
      refine .inl ⟨a', vs, rfl, st g3 H3 k23, fun p hp => ?_⟩
      have z : ts.length ≤ szL := po.lenL
      exact Post.newL r3 h4 ((rs.stay k23).cut a b) (Nat.le_trans (cut_len a b) z) hp
    | tup ts =>
      have pt : Rep G g3 H3 .fz (.tup ts) vx := (po.free (o' := .fz) rfl).tr k23.fz k23.m k23.fz
      obtain ⟨a', vs, rfl, q, rs⟩ := pt.sqt
      refine .inr ⟨a', vs, rfl, q, fun hw => ?_, fun hw p hp => Post.newT r3 h4 (rs.cut a b) hp⟩
      have e : cut ts a b = ts := by
        unfold Mi.cut
        rw [clip_eq, clip_eq, rs.length, hw.1, hw.2, Nat.sub_zero, List.drop_zero, ← rs.length, List.take_length]
      have h4 : Post G W _ g3 σ H3 (okF (.tup (cut ts a b)) s3) Q := h4
      rw [e] at h4
      exact Post.old r3 h4 pt
    | _ => exact h4.elim
end
end Mi

/-! soundness: calls of defs, of methods, of classes; attributes -/
namespace L2
open PySem PySem.Spec PyProof.Rows
/-! ### positional promises, where what is raised is wished for at the caller's slots -/
section
variable {X : Cx} {CX : CXT} {k : Nat} {f C p0 g0 : Addr} {mc : Value} {sp : Sp} {E : St → XK} {x m : Str} {p pos apos : Pos} {e o : Expr} {es : List Expr} {ta : TE} {t : TA} {pl : Sem Bool}
theorem run_rs {pins : List (Addr × Obj)} {σ : St} {H : Hp} {s : Shared} {Q : VK} {us : List Value} {vs : List V} {EE : XK} (F : FnR X.prog X.w X.K X.mg X.base CX k f sp) (hr : Room k X.A) (hx : PassesAt CX X σ EE)
    (I : Inv X pins σ H s) (r : Vals vs us) (h : sp vs H Q EE) : codeAny (model X.prog X.w) X.A (.call (.ref f) ⟨us, []⟩) (fun r s' => match r with | .ok (.ret v) => EP X pins σ Q v s' | .ok _ => False | .error e => X.xe e s') s := by
  refine codeAny_mono (F X.A X.stack s H us vs Q EE hr I.env0 r h) fun r s' hq => ?_
  cases r with
  | error e => exact hx pins H s e s' I hq
  | ok fl =>
    cases fl with
    | ret u => exact I.after hq
    | next => exact False.elim hq
    | brk => exact False.elim hq
    | cont => exact False.elim hq
def tCallRS (sp : Sp) (E : St → XK) (t : TA) : TE := fun σ H Q => t σ H fun vs H1 => sp vs H1 Q (E σ)
theorem pe_callRS (F : FnR X.prog X.w X.K X.mg X.base CX k f sp) (hr : Room k X.A) (hg : Gl X x) (hm : X.mg x = some (.ref f)) (hk : PySem.W.keepIn X.K (.ref f) = true) (hx : ∀ σ, PassesAt CX X σ (E σ))
    (ha : PA X (e :: es) t) (hdb : (x == ("__debug__" : Str)) = false) (he : starEach (e :: es) X.env = (false, eval e X.env) :: starEach es X.env) (hpl : (backTo pos (starEach es X.env)).any (·.1) = false) :
    PE X (.Call (.Name x p) (e :: es) [] pos) (tCallRS sp E t) := by
  refine ⟨fun pins s σ H Q I h => ?_⟩
  refine wpAny_Call_Name_kw (ld_glob I hg hm ?_ hdb)
  refine PySem.W.callWith_K (h₀ := X.base) I.ok.mod.kin hk (thn (ha.run pos pins s σ H _ I h) fun us s1 ⟨vs, H1, I1, r, q⟩ => ⟨I1.kIn, ?_⟩) he hpl
  exact wpAny_call (run_rs F hr (hx σ) I1 r q)
theorem pe_callRS0 (F : FnR X.prog X.w X.K X.mg X.base CX k f sp) (hr : Room k X.A) (hg : Gl X x) (hm : X.mg x = some (.ref f)) (hk : PySem.W.keepIn X.K (.ref f) = true) (hx : ∀ σ, PassesAt CX X σ (E σ))
    (hdb : (x == ("__debug__" : Str)) = false) : PE X (.Call (.Name x p) [] [] pos) (tCallRS sp E tNil) := by
  refine ⟨fun pins s σ H Q I h => ?_⟩
  refine wpAny_Call_Name_kw (ld_glob I hg hm ?_ hdb)
  exact PySem.W.callWith_K0 I.kIn hk (wpAny_call (run_rs (us := []) F hr (hx σ) I .nil h))
/-- o.m(..) -/
def tMethRS (C : Addr) (m : Str) (sp : Sp) (E : St → XK) (ta : TE) (t : TA) : TE := fun σ H Q => ta σ H fun x H1 => ∃ a dx fs, x = .ref a ∧ H1 a = some (.ins C dx fs) ∧ fs.lookup m = none ∧ t σ H1 fun vs H2 => sp (x :: vs) H2 Q (E σ)
theorem pe_methRS (he : PE X o ta) (c : Cls X.K C) (hm : Meth X.K C m f) (F : FnR X.prog X.w X.K X.mg X.base CX k f sp) (hr : Room k X.A) (hx : ∀ σ, PassesAt CX X σ (E σ)) (ha : PA X (e :: es) t)
    (hst : starEach (e :: es) X.env = (false, eval e X.env) :: starEach es X.env) (hpl : (backTo pos (starEach es X.env)).any (·.1) = false)
    (ht : eval (.Call (.Attribute o m apos) (e :: es) [] pos) X.env = (do
      let ov ← eval o X.env
      standAt apos.atName
      let (f, first) ← holding [ov] (getMethod ov m pl)
      callWith pos f first (backTo pos (starEach (e :: es) X.env)) (backToKw pos (keywordEach [] X.env)))) :
    PE X (.Call (.Attribute o m apos) (e :: es) [] pos) (tMethRS C m sp E ta t) := by
  refine ⟨fun pins s σ H Q I h => ?_⟩
  refine PySem.W.methodCall_KW (pl := pl) (thn (he.run pins s σ H _ I h) fun u s1 ⟨x, H1, I1, rx, a, dx, fs, ex, ea, l, q⟩ => ?_) ht
  subst ex
  obtain rfl : u = Value.ref a := rx
  refine getmeth_ok I1 ea c hm l ?_
  refine PySem.W.callWith_K (first := [.ref a]) (h₀ := X.base) I.ok.mod.kin hm.kp (thn (ha.run pos pins s1 σ H1 _ I1 q) fun us s2 ⟨vs, H2, I2, r, q2⟩ => ⟨I2.kIn, ?_⟩) hst hpl
  exact wpAny_call (run_rs (us := .ref a :: us) (vs := .ref a :: vs) F hr (hx σ) I2 (.cons rfl r) q2)
theorem pe_methRS0 (he : PE X o ta) (c : Cls X.K C) (hm : Meth X.K C m f) (F : FnR X.prog X.w X.K X.mg X.base CX k f sp) (hr : Room k X.A) (hx : ∀ σ, PassesAt CX X σ (E σ))
    (ht : eval (.Call (.Attribute o m apos) [] [] pos) X.env = (do
      let ov ← eval o X.env
      standAt apos.atName
      let (f, first) ← holding [ov] (getMethod ov m pl)
      callWith pos f first (backTo pos (starEach [] X.env)) (backToKw pos (keywordEach [] X.env)))) :
    PE X (.Call (.Attribute o m apos) [] [] pos) (tMethRS C m sp E ta tNil) := by
  refine ⟨fun pins s σ H Q I h => ?_⟩
  refine PySem.W.methodCall_KW (pl := pl) (thn (he.run pins s σ H _ I h) fun u s1 ⟨x, H1, I1, rx, a, dx, fs, ex, ea, l, q⟩ => ?_) ht
  subst ex
  obtain rfl : u = Value.ref a := rx
  refine getmeth_ok I1 ea c hm l ?_
  exact PySem.W.callWith_K0 (first := [.ref a]) I1.kIn hm.kp (wpAny_call (run_rs (us := [.ref a]) (vs := [.ref a]) F hr (hx σ) I1 (.cons rfl .nil) q))
/-- C(..) -/
def tMakeRS (C : Addr) (sp : Sp) (E : St → XK) (t : TA) : TE := fun σ H Q => t σ H fun vs H1 => ∀ x dx, H1 x = none → H1 dx = none → dx ≠ x →
  sp (.ref x :: vs) (upd (upd H1 dx (.own x)) x (.ins C dx [])) (fun v H2 => v = .non ∧ Q (.ref x) H2) (E σ)
theorem run_makeRS {pins : List (Addr × Obj)} {σ : St} {H : Hp} {s : Shared} {Q : VK} {us : List Value} {vs : List V} {EE : XK} (M : Mk X.K C f) (F : FnR X.prog X.w X.K X.mg X.base CX k f sp) (hr : Room (k + 1) X.A) (hx : PassesAt CX X σ EE) (I : Inv X pins σ H s) (r : Vals vs us)
    (h : ∀ x dx, H x = none → H dx = none → dx ≠ x → sp (.ref x :: vs) (upd (upd H dx (.own x)) x (.ins C dx [])) (fun v H2 => v = .non ∧ Q (.ref x) H2) EE) :
    wpAny (model X.prog X.w) X.A (call (.ref C) us) (EP X pins σ Q) X.xe s := by
  have hq := h (s.heap.objs.size + 1) s.heap.objs.size (I.hok.fresh (Nat.le_succ _)) (I.hok.fresh (Nat.le_refl _)) (Nat.ne_of_lt (Nat.lt_succ_self _))
  have I2 := Inv.made (C := C) I
  refine wpAny_call (make_map (f := f) I.kIn M.makes M.init (beq_iff_eq.mp M.fn) (codeAny_mono (F _ X.stack _ _ (Value.ref (s.heap.objs.size + 1) :: us) (V.ref (s.heap.objs.size + 1) :: vs) _ EE (hr.make C us []) (I2.env0.make C us []) (.cons rfl r) hq) fun r s' hq' => ?_))
  cases r with
  | error e => exact hx pins _ _ e s' I2 hq'
  | ok fl =>
    cases fl with
    | ret u =>
      obtain ⟨v, H', I3, rv, ev, q3⟩ := I2.after hq'
      subst ev
      exact ⟨rv, ⟨V.ref (s.heap.objs.size + 1), H', I3, rfl, q3⟩⟩
    | next => exact False.elim hq'
    | brk => exact False.elim hq'
    | cont => exact False.elim hq'
theorem pe_makeRS (M : Mk X.K C f) (F : FnR X.prog X.w X.K X.mg X.base CX k f sp) (hr : Room (k + 1) X.A) (hg : Gl X x) (hm : X.mg x = some (.ref C)) (hx : ∀ σ, PassesAt CX X σ (E σ)) (ha : PA X (e :: es) t) (hdb : (x == ("__debug__" : Str)) = false)
    (he : starEach (e :: es) X.env = (false, eval e X.env) :: starEach es X.env) (hpl : (backTo pos (starEach es X.env)).any (·.1) = false) : PE X (.Call (.Name x p) (e :: es) [] pos) (tMakeRS C sp E t) := by
  refine ⟨fun pins s σ H Q I h => ?_⟩
  refine wpAny_Call_Name_kw (ld_glob I hg hm ?_ hdb)
  refine PySem.W.callWith_K (h₀ := X.base) I.ok.mod.kin M.kp (thn (ha.run pos pins s σ H _ I h) fun us s1 ⟨vs, H1, I1, r, q⟩ => ⟨I1.kIn, ?_⟩) he hpl
  exact run_makeRS M F hr (hx σ) I1 r q
theorem pe_makeRS0 (M : Mk X.K C f) (F : FnR X.prog X.w X.K X.mg X.base CX k f sp) (hr : Room (k + 1) X.A) (hg : Gl X x) (hm : X.mg x = some (.ref C)) (hx : ∀ σ, PassesAt CX X σ (E σ))
    (hdb : (x == ("__debug__" : Str)) = false) : PE X (.Call (.Name x p) [] [] pos) (tMakeRS C sp E tNil) := by
  refine ⟨fun pins s σ H Q I h => ?_⟩
  refine wpAny_Call_Name_kw (ld_glob I hg hm ?_ hdb)
  exact PySem.W.callWith_K0 I.kIn M.kp (run_makeRS (us := []) M F hr (hx σ) I .nil h)
/-- C.m(..), m a classmethod -/
def tCMethRS (C : Addr) (sp : Sp) (E : St → XK) (ta : TE) (t : TA) : TE := fun σ H Q => ta σ H fun x H1 => x = .ref C ∧ t σ H1 fun vs H2 => sp (.ref C :: vs) H2 Q (E σ)
theorem run_cmRS {q : Addr} {pins : List (Addr × Obj)} {σ : St} {H : Hp} {s : Shared} {EE : XK} {Q : VK} {us : List Value} {vs : List V} (F : FnR X.prog X.w X.K X.mg X.base CX k g0 sp) (hr : Room k X.A) (hx : PassesAt CX X σ EE) (I : Inv X ((q, PySem.W.methodObj (.ref g0) (.ref C)) :: pins) σ H s)
    (r : Vals vs us) (h : sp (.ref C :: vs) H Q EE) : wpAny (model X.prog X.w) X.A (call (.ref q) us) (EP X pins σ Q) X.xe s := by
  have z : wpAny (model X.prog X.w) X.A (call (.ref q) us) (EP X ((q, PySem.W.methodObj (.ref g0) (.ref C)) :: pins) σ Q) X.xe s :=
    wpAny_call (PySem.W.method_call (ClX.pin_at I) (run_rs (us := .ref C :: us) (vs := .ref C :: vs) F hr hx I (.cons rfl r) h))
  exact thn z fun _ _ y => ClX.unpinE y
theorem pe_cmethRS (he : PE X o ta) (r : ClX.CRead X.K C mc) (c : ClX.CMet X.K C mc m p0 g0) (F : FnR X.prog X.w X.K X.mg X.base CX k g0 sp) (hr : Room k X.A) (hx : ∀ σ, PassesAt CX X σ (E σ)) (ha : PA X (e :: es) t)
    (hst : starEach (e :: es) X.env = (false, eval e X.env) :: starEach es X.env) (hpl : (backTo pos (starEach es X.env)).any (·.1) = false)
    (ht : eval (.Call (.Attribute o m apos) (e :: es) [] pos) X.env = (do
      let ov ← eval o X.env
      standAt apos.atName
      let (f, first) ← holding [ov] (getMethod ov m pl)
      callWith pos f first (backTo pos (starEach (e :: es) X.env)) (backToKw pos (keywordEach [] X.env)))) :
    PE X (.Call (.Attribute o m apos) (e :: es) [] pos) (tCMethRS C sp E ta t) := by
  refine ⟨fun pins s σ H Q I h => ?_⟩
  refine PySem.W.methodCall_KW (pl := pl) (thn (he.run pins s σ H _ I h) fun u s1 ⟨x, H1, I1, rx, ex, q⟩ => ?_) ht
  subst ex
  obtain rfl : u = Value.ref C := rx
  refine ClX.getmethcm_ok I1 r c fun s2 I2 => ?_
  refine ClX.callwith_cm I2 (ClX.base_none I1 (Nat.le_refl _)) c.fi (thn (ha.run pos _ s2 σ H1 _ I2 q) fun us s3 ⟨vs, H2, I3, rv, q2⟩ => ⟨⟨ClX.pin_at I3, I3.kIn⟩, ?_⟩) hst hpl
  exact run_cmRS F hr (hx σ) I3 rv q2
end
end L2

namespace Mi
open PySem PySem.Spec PyProof.Rows L2
section
variable {G : Gx} {W : WX} {Γ : Gm} {C C' : CallF} {g g1 g2 g' : Gh} {H H1 H2 H' : Hp} {σ σ' : L2.St} {s s1 s2 : S} {lk lk' : List Pl} {Q : VK} {D : Ends}
/-- a def called by positional arguments, its defaults and its rest filled in -/
def callAK (Γ : Gm) (C : CallF) (ks : List Nat) : CallF := fun f as hp lk => match Γ.fn f with
  | some fd => match bindArgs fd as ks with
    | some l => C f l hp lk
    | none => .no
  | none => .no
abbrev callA (Γ : Gm) (C : CallF) : CallF := callAK Γ C []
theorem callB_eq {f : Nat} {as : List (Mo × T)} {ks : List Nat} : callB Γ C lk f as ks s = callR (callAK Γ C ks) lk f as s := by
  unfold callB callR callAK
  cases Γ.fn f with
  | none => rfl
  | some fd =>
    dsimp only
    cases bindArgs fd as ks with
    | none => rfl
    | some l => rfl
/-- .. with keywords: their values behind the others -/
def spRK (G : Gx) (Γ : Gm) (C : CallF) (f : Nat) (ks : List Nat) : Sp := fun vs H Q E => spC G (callAK Γ C ks) f vs.length vs H Q E
/-- the positional promise of a def -/
def spR (G : Gx) (Γ : Gm) (C : CallF) (f : Nat) : Sp := fun vs H Q E => spC G (callA Γ C) f vs.length vs H Q E
theorem map_own {vs : List V} : ∀ a ∈ vs.map parOf, a.1.arg = true := fun a ha => by
  obtain ⟨v, _, rfl⟩ := List.mem_map.mp ha
  obtain ⟨md, t⟩ := v
  cases md <;> rfl
theorem call_e {f : Nat} {as : List Ex} (h : tE G W Γ C C' (.call f as []) σ H Q) : tCallRS (spR G Γ C f) (WE W) (tEs G W Γ C C' as) σ H Q := by
  obtain ⟨lk, g, s, hR, h⟩ := h
  rw [ev] at h
  refine many_at hR h fun vs s1 g' H' xs _ r1 p1 h1 => ?_
  split at h1
  · rename_i hc
    rw [callB_eq] at h1
    exact call_sp r1 (args_call p1 hc) rfl map_own h1
  · exact h1.elim

/-! ### a new box -/
def Gh.mk' (g : Gh) (x : Addr) : Gh := ⟨fun a => if a = x then some (.bx g.m.length) else g.ow a, g.m ++ [x]⟩
theorem R.make (r : R G g lk s σ H) {x dx Cx : Addr} {c : Nat} (hx : H x = none) (hd : H dx = none) (ne : dx ≠ x) (hA : G.A c = some Cx) (hc : c ≠ 0) :
    R G (g.mk' x) lk { s with hp := s.hp ++ [{ cls := c, fs := [] }] } σ (upd (upd H dx (.own x)) x (.ins Cx dx [])) ∧ Keep g H (g.mk' x) (upd (upd H dx (.own x)) x (.ins Cx dx [])) ∧ ∀ o, Holds o g H (g.mk' x) (upd (upd H dx (.own x)) x (.ins Cx dx [])) := by
  have off : ∀ a o, g.ow a = some o → a ≠ x ∧ a ≠ dx := fun a o h => ⟨fun z => by subst z; exact r.dom _ _ h hx, fun z => by subst z; exact r.dom _ _ h hd⟩
  have hold : ∀ o, Holds o g H (g.mk' x) (upd (upd H dx (.own x)) x (.ins Cx dx [])) := fun o a h => by
    obtain ⟨n1, n2⟩ := off a o h
    exact ⟨by show (if a = x then _ else g.ow a) = _; rw [if_neg n1]; exact h, by rw [upd_ne n1, upd_ne n2]⟩
  have mp : MPre g (g.mk' x) := fun n a h => by
    show (g.m ++ [x])[n]? = some a
    obtain ⟨hl, _⟩ := List.getElem?_eq_some_iff.mp h
    rw [List.getElem?_append_left hl]; exact h
  have back : ∀ a o, (g.mk' x).ow a = some o → (a = x ∧ o = .bx g.m.length) ∨ (a ≠ x ∧ g.ow a = some o) := fun a o h => by
    have h : (if a = x then some (Ow.bx g.m.length) else g.ow a) = some o := h
    by_cases e : a = x
    · rw [if_pos e] at h; exact .inl ⟨e, (Option.some.inj h).symm⟩
    · rw [if_neg e] at h; exact .inr ⟨e, h⟩
  refine ⟨⟨fun a o h => ?_, r.ln, fun i mo t h hx => ?_, ?_, fun n b a h1 h2 => ?_, fun p a a' h1 h2 => ?_, fun a p h => ?_, fun i t h => (r.xl i t h).tr (hold _) mp rfl, fun a o vs h hH => by
    rcases back a o h with ⟨rfl, _⟩ | ⟨e, h⟩
    · rw [upd_same] at hH; cases hH
    · obtain ⟨n1, n2⟩ := off a o h
      rw [upd_ne n1, upd_ne n2] at hH; exact r.tq a o vs h hH⟩, ⟨hold _, hold _, fun p => hold _, fun d => hold _ d, mp⟩, hold⟩
  · rcases back a o h with ⟨rfl, _⟩ | ⟨e, h⟩
    · rw [upd_same]; intro z; cases z
    · obtain ⟨n1, n2⟩ := off a o h
      rw [upd_ne n1, upd_ne n2]; exact r.dom a o h
  · obtain ⟨v, h1, h2⟩ := r.sl i mo t h hx
    exact ⟨v, h1, h2.tr (hold _) mp (hold _)⟩
  · show (g.m ++ [x]).length = (s.hp ++ _).length
    rw [List.length_append, List.length_append, r.ml]; rfl
  · have h1 : (s.hp ++ [({ cls := c, fs := [] } : Bx)])[n]? = some b := h1
    have h2 : (g.m ++ [x])[n]? = some a := h2
    by_cases hn : n < s.hp.length
    · rw [List.getElem?_append_left hn] at h1
      rw [List.getElem?_append_left (by rw [r.ml]; exact hn)] at h2
      obtain ⟨h3, h4⟩ := r.bx n b a h1 h2
      refine ⟨(hold _ a h3).1, ?_⟩
      obtain ⟨fs, z1, z3⟩ := h4
      exact ⟨fs, z1.tr (hold _ a h3).2, z3.go (fun t v h => h.tr (hold _) mp (hold _)) fun f t v _ h => h.tr (hold _) mp (hold _)⟩
    · have hl : n = s.hp.length := by
        obtain ⟨hl, _⟩ := List.getElem?_eq_some_iff.mp h1
        rw [List.length_append] at hl
        simp at hl; omega
      subst hl
      rw [List.getElem?_append_right (Nat.le_refl _), Nat.sub_self] at h1
      rw [List.getElem?_append_right (by rw [r.ml]; exact Nat.le_refl _), r.ml, Nat.sub_self] at h2
      cases h1
      cases h2
      refine ⟨by show (if x = x then _ else _) = _; rw [if_pos rfl, r.ml], ?_⟩
      refine ⟨[], ?_, .nil⟩
      unfold BoxH
      rw [if_neg hc]
      exact ⟨Cx, dx, hA, upd_same⟩
  · have key : ∀ a, ((g.mk' x).ow a = some (.pl p) ∨ (g.mk' x).ow a = some (.lkd p)) → g.ow a = some (.pl p) ∨ g.ow a = some (.lkd p) := fun a h => by
      rcases h with h | h
      · rcases back a _ h with ⟨_, z⟩ | ⟨_, z⟩; cases z; exact .inl z
      · rcases back a _ h with ⟨_, z⟩ | ⟨_, z⟩; cases z; exact .inr z
    exact r.uq p a a' (key a h1) (key a' h2)
  · rcases back a _ h with ⟨_, z⟩ | ⟨_, z⟩
    · cases z
    · exact r.li a p z
end
end Mi

/-! soundness: making, methods, attributes -/
namespace Mi
open PySem PySem.Spec PyProof.Rows L2
section
variable {G : Gx} {W : WX} {Γ : Gm} {C C' : CallF} {g g1 g2 g' : Gh} {H H1 H2 H' : Hp} {σ σ' : L2.St} {s s1 s2 : S} {lk lk' : List Pl} {Q : VK} {D : Ends}

/-- what is done behind a call -/
theorem Post.bind {r : Res V} {F : V → S → Res V} {K : VK} (h : Post G W lk g σ H (r.bind F) Q)
    (hk : ∀ v s1 g1 H1 x, R G g1 lk s1 σ H1 → Keep g H g1 H1 → Rep G g1 H1 (mdO lk v.1) v.2 x → Post G W lk g1 σ H1 (F v s1) Q → K x H1) : Post G W lk g σ H r K := by
  cases r with
  | no => exact h
  | exc c xs s' => exact h
  | ok v s' => exact fun g1 H1 x r1 k1 p1 => hk v s' g1 H1 x r1 k1 p1 (Post.keep k1 h)
theorem RepL.hold {vs : List V} {xs : List L2.V} (h : ∀ o, Holds o g H g' H') (m : MPre g g') (p : RepL G g H lk vs xs) : RepL G g' H' lk vs xs := Paired.mapP p fun v x z => z.tr (h _) m (h _)
theorem many_atK {as : List Ex} {F : List V → S → Res V} {K : List L2.V → Hp → Prop} (hR : R G g lk s σ H) (h : Post G W lk g σ H ((evs Γ C C' lk as s).bind fun x s1 => F x s1) Q)
    (hr : ∀ vs s1 g' H' xs, R G g' lk s1 σ H' → Keep g H g' H' → RepL G g' H' lk vs xs → Post G W lk g' σ H' (F vs s1) Q → K xs H') :
    tEs G W Γ C C' as σ H K := by
  refine ⟨lk, g, s, hR, ?_⟩
  cases ea : evs Γ C C' lk as s with
  | no => rw [ea] at h; exact h.elim
  | exc c xs s1 => rw [ea] at h; exact h
  | ok x s1 =>
    rw [ea] at h
    exact fun g1 H1 vx r1 k1 p1 => hr x s1 g1 H1 vx r1 k1 p1 (Post.keep k1 h)
theorem Rep.non_inv {o : Ow} {v : L2.V} (h : Rep G g H o .non v) : v = .non := by cases h; rfl
theorem make_e {c f : Nat} {Cx : Addr} {as : List Ex} (hm : Γ.meth c 0 = some f) (hA : G.A c = some Cx) (hc : c ≠ 0) (h : tE G W Γ C C' (.make c as) σ H Q) : tMakeRS Cx (spR G Γ C' f) (WE W) (tEs G W Γ C C' as) σ H Q := by
  obtain ⟨lk, g, s, hR, h⟩ := h
  rw [ev] at h
  refine many_at hR h fun vs s1 g' H' xs _ r1 p1 h1 => ?_
  split at h1
  · rename_i hok
    intro x dx hx hd ne
    obtain ⟨r2, k2, hold⟩ := r1.make (c := c) hx hd ne hA hc
    have h2 := Post.keep k2 h1
    unfold makeR at h2
    rw [hm] at h2
    have h2 : Post G W lk (g'.mk' x) σ _ ((callB Γ C' lk f ((.fro, .box s1.hp.length) :: vs.map parOf) [] { s1 with hp := s1.hp ++ [{ cls := c, fs := [] }] }).bind fun v s' => match v.2 with
      | .non => okF (.box s1.hp.length) s'
      | _ => .no) Q := h2
    rw [callB_eq] at h2
    have mx : (g'.mk' x).m[s1.hp.length]? = some x := by
      show (g'.m ++ [x])[s1.hp.length]? = some x
      rw [List.getElem?_append_right (by rw [r1.ml]; exact Nat.le_refl _), r1.ml, Nat.sub_self]; rfl
    refine call_sp r2 (.cons (Rep.box (g := (g'.mk' x).retag toCall) mx) (args_call (p1.hold hold k2.m) hok)) rfl (fun a ha => ?_) (Post.bind (K := fun v H2 => v = .non ∧ Q (.ref x) H2) h2 fun v s3 g3 H3 y r3 k3 p3 h3 => ?_)
    · rcases List.mem_cons.mp ha with rfl | ha
      · rfl
      · exact map_own a ha
    · obtain ⟨md, t⟩ := v
      cases t with
      | non =>
        have ey := Rep.non_inv p3
        exact ⟨ey, Post.old r3 h3 (.box (k3.m _ _ mx))⟩
      | _ => exact h3.elim
  · exact h1.elim

/-! ### fields -/
theorem FR.lack {n : Nat} {fs : List (Nat × Bool × T)} {vs : List (Str × L2.V)} {y : Str} {m : Nat} (hy : StrOk y m) (h : FR G g H lk n fs vs) (e : fget m fs = none) : vs.lookup y = none := by
  induction h with
  | nil => rfl
  | @cons f b t x v fs vs e0 nf h0 _ ih =>
    have e : (if f = m then some (b, t) else fget m fs) = none := e
    split at e
    · cases e
    · rename_i ne
      have : (y == x) = false := by
        rw [hy.eq e0]
        exact beq_eq_false_iff_ne.mpr fun z => ne z.symm
      rw [List.lookup_cons, this]
      exact ih e
theorem FR.get {n : Nat} {fs : List (Nat × Bool × T)} {vs : List (Str × L2.V)} {y : Str} {m : Nat} {b : Bool} {t : T} (hy : StrOk y m) (h : FR G g H lk n fs vs) (e : fget m fs = some (b, t)) : ∃ v, vs.lookup y = some v ∧ Rep G g H (fdO lk n m b) t v := by
  induction h with
  | nil => cases e
  | @cons f b' t' x v fs vs e0 nf h0 _ ih =>
    have e : (if f = m then some (b', t') else fget m fs) = some (b, t) := e
    by_cases q : f = m
    · rw [if_pos q] at e
      cases e
      refine ⟨v, ?_, by rw [← q]; exact h0⟩
      have : (y == x) = true := by rw [hy.eq e0, q]; simp
      rw [List.lookup_cons, this]
    · rw [if_neg q] at e
      have : (y == x) = false := by
        rw [hy.eq e0]
        exact beq_eq_false_iff_ne.mpr fun z => q z.symm
      obtain ⟨w, h1, h2⟩ := ih e
      exact ⟨w, by rw [List.lookup_cons, this]; exact h1, h2⟩
/-- the box of a value -/
theorem box_at {o : Ow} {n : Nat} {v : L2.V} {bx : Bx} (r : R G g lk s σ H) (p : Rep G g H o (.box n) v) (hb : s.hp[n]? = some bx) (hc : bx.cls ≠ 0) :
    ∃ a Cx dx fs, v = .ref a ∧ g.m[n]? = some a ∧ g.ow a = some (.bx n) ∧ G.A bx.cls = some Cx ∧ H a = some (.ins Cx dx fs) ∧ FR G g H lk n bx.fs fs := by
  cases p with
  | @box _ _ a hm =>
    obtain ⟨h1, h2⟩ := r.bx n bx a hb hm
    obtain ⟨fs, h2, h5⟩ := h2
    unfold BoxH at h2
    rw [if_neg hc] at h2
    obtain ⟨Cx, dx, h3, h4⟩ := h2
    exact ⟨a, Cx, dx, fs, rfl, hm, h1, h3, h4, h5⟩
/-- .. of any kind -/
theorem box_any {o : Ow} {n : Nat} {v : L2.V} {bx : Bx} (r : R G g lk s σ H) (p : Rep G g H o (.box n) v) (hb : s.hp[n]? = some bx) :
    ∃ a fs, v = .ref a ∧ g.m[n]? = some a ∧ g.ow a = some (.bx n) ∧ BoxH G bx.cls H a fs ∧ FR G g H lk n bx.fs fs := by
  cases p with
  | @box _ _ a hm =>
    obtain ⟨h1, fs, h2, h5⟩ := r.bx n bx a hb hm
    exact ⟨a, fs, rfl, hm, h1, h2, h5⟩
theorem BoxH.ins {c : Nat} {a Cx dx : Addr} {fs : List (Str × L2.V)} (hc : c ≠ 0) (hA : G.A c = some Cx) (hH : H a = some (.ins Cx dx fs)) : BoxH G c H a fs := by
  unfold BoxH; rw [if_neg hc]; exact ⟨Cx, dx, hA, hH⟩
/-- o.m(..): the class is that of the box -/
theorem meth_e {o : Ex} {m : Nat} {as : List Ex} {ks : List Nat} {y : Str} (hy : StrOk y m) (h : tE G W Γ C C' (.meth o m as ks) σ H Q) (some_ : ∃ c f Cx, c ≠ 0 ∧ Γ.meth c m = some f ∧ G.A c = some Cx) :
    ∃ c f Cx, c ≠ 0 ∧ Γ.meth c m = some f ∧ G.A c = some Cx ∧ tMethRS Cx y (spRK G Γ C f ks) (WE W) (tE G W Γ C C' o) (tEs G W Γ C C' as) σ H Q := by
  obtain ⟨lk, g, s, hR, h⟩ := h
  rw [ev] at h
  cases ea : ev Γ C C' lk o s with
  | no => rw [ea] at h; exact h.elim
  | exc d xs s1 =>
    rw [ea] at h
    obtain ⟨c, f, Cx, h1, h2, h3⟩ := some_
    refine ⟨c, f, Cx, h1, h2, h3, lk, g, s, hR, ?_⟩
    rw [ea]
    exact fun g' H' cls d r' k' ex => h g' H' cls d r' k' ex
  | ok x s1 =>
    rw [ea] at h
    obtain ⟨md, t⟩ := x
    cases t with
    | box n =>
      have h : Post G W lk g σ H (optR s1.hp[n]? fun bx => if bx.cls = 0 then .no else optR (Γ.meth bx.cls m) fun f => if (fget m bx.fs).isSome then .no else
        (evs Γ C C' lk as s1).bind fun vs s2 => if argsOk' vs then callB Γ C lk f ((.fro, .box n) :: vs.map parOf) ks s2 else .no) Q := h
      cases hb : s1.hp[n]? with
      | none => rw [hb] at h; exact h.elim
      | some bx =>
        rw [hb] at h
        have h : Post G W lk g σ H (if bx.cls = 0 then .no else optR (Γ.meth bx.cls m) fun f => if (fget m bx.fs).isSome then .no else
          (evs Γ C C' lk as s1).bind fun vs s2 => if argsOk' vs then callB Γ C lk f ((.fro, .box n) :: vs.map parOf) ks s2 else .no) Q := h
        have hc0 : bx.cls ≠ 0 := fun z => by rw [if_pos z] at h; exact h.elim
        rw [if_neg hc0] at h
        have h : Post G W lk g σ H (optR (Γ.meth bx.cls m) fun f => if (fget m bx.fs).isSome then .no else
          (evs Γ C C' lk as s1).bind fun vs s2 => if argsOk' vs then callB Γ C lk f ((.fro, .box n) :: vs.map parOf) ks s2 else .no) Q := h
        cases hf : Γ.meth bx.cls m with
        | none => rw [hf] at h; exact h.elim
        | some f =>
          rw [hf] at h
          have h : Post G W lk g σ H (if (fget m bx.fs).isSome then .no else
            (evs Γ C C' lk as s1).bind fun vs s2 => if argsOk' vs then callB Γ C lk f ((.fro, .box n) :: vs.map parOf) ks s2 else .no) Q := h
          split at h
          · exact h.elim
          · rename_i hno
            have hno : fget m bx.fs = none := by simpa using hno
            -- the class is known to R alone: any state will do
            have key : ∀ {g1 H1 vx}, R G g1 lk s1 σ H1 → Rep G g1 H1 (mdO lk md) (.box n) vx → bx.cls ≠ 0 ∧ ∃ a Cx dx fs, vx = .ref a ∧ g1.m[n]? = some a ∧ G.A bx.cls = some Cx ∧ H1 a = some (.ins Cx dx fs) ∧ FR G g1 H1 lk n bx.fs fs := fun r1 p1 => by
              have hc := hc0
              obtain ⟨a, Cx, dx, fs, e1, e2, _, e3, e4, e5⟩ := box_at r1 p1 hb hc
              exact ⟨hc, a, Cx, dx, fs, e1, e2, e3, e4, e5⟩
            by_cases hA : bx.cls ≠ 0 ∧ ∃ Cx, G.A bx.cls = some Cx
            · obtain ⟨hc, Cx, hA⟩ := hA
              refine ⟨bx.cls, f, Cx, hc, hf, hA, lk, g, s, hR, ?_⟩
              rw [ea]
              intro g1 H1 vx r1 k1 p1
              obtain ⟨_, a, Cx', dx, fs, rfl, hm, hA', hH, hFR⟩ := key r1 p1
              rw [hA] at hA'; cases hA'
              refine ⟨a, dx, fs, rfl, hH, FR.lack hy hFR hno, ?_⟩
              refine many_atK r1 (Post.keep k1 h) fun vs s2 g2 H2 xs r2 k2 p2 h2 => ?_
              split at h2
              · rename_i hok
                rw [callB_eq] at h2
                refine call_sp r2 (.cons (Rep.box (g := g2.retag toCall) (k2.m _ _ hm)) (args_call p2 hok)) rfl (fun a ha => ?_) h2
                rcases List.mem_cons.mp ha with rfl | ha
                · rfl
                · exact map_own a ha
              · exact h2.elim
            · obtain ⟨c, f', Cx, h1, h2, h3⟩ := some_
              refine ⟨c, f', Cx, h1, h2, h3, lk, g, s, hR, ?_⟩
              rw [ea]
              intro g1 H1 vx r1 k1 p1
              obtain ⟨hc, _, Cx', _, _, _, _, hA', _⟩ := key r1 p1
              exact absurd ⟨hc, Cx', hA'⟩ hA
    | _ => exact h.elim

/-! ### attributes -/
theorem setBx_get {n k : Nat} {bx b : Bx} (h : (setBx n bx s).hp[k]? = some b) : (n = k ∧ b = bx ∧ n < s.hp.length) ∨ (n ≠ k ∧ s.hp[k]? = some b) := getElem?_set_some h
theorem fput_get {f : Nat} {x : Bool × T} {fs : List (Nat × Bool × T)} {q : Nat × Bool × T} (h : q ∈ fput f x fs) : q = (f, x) ∨ (q ∈ fs) := by
  induction fs with
  | nil => simp [fput] at h; exact .inl h
  | cons p r ih =>
    obtain ⟨g, y⟩ := p
    have h : q ∈ (if g = f then (g, x) :: r else (g, y) :: fput f x r) := h
    by_cases e : g = f
    · rw [if_pos e] at h
      rcases List.mem_cons.mp h with z | z
      · exact .inl (by rw [← e]; exact z)
      · exact .inr (List.mem_cons_of_mem _ z)
    · rw [if_neg e] at h
      rcases List.mem_cons.mp h with z | z
      · exact .inr (by rw [z]; exact List.mem_cons_self)
      · rcases ih z with z | z
        · exact .inl z
        · exact .inr (List.mem_cons_of_mem _ z)
/-- the fields, where one that is there gets another mode or value -/
theorem FR.put {n m : Nat} {b : Bool} {t : T} {v : L2.V} {fs : List (Nat × Bool × T)} {vs : List (Str × L2.V)} {y : Str} (hy : StrOk y m) (h : FR G g H lk n fs vs) (hn : Rep G g' H' (fdO lk n m b) t v)
    (k : ∀ f b' t' v', f ≠ m → (f, b', t') ∈ fs → Rep G g H (fdO lk n f b') t' v' → Rep G g' H' (fdO lk n f b') t' v') : FR G g' H' lk n (fput m (b, t) fs) (putF y v vs) := by
  induction h with
  | nil => exact .cons hy (fun q hq => by cases hq) hn .nil
  | @cons f b0 t0 x w fs vs e0 nf h0 r0 ih =>
    have rest : (∀ q ∈ fs, q.1 ≠ m) → FR G g' H' lk n fs vs := fun hm => by
      clear ih
      have k' : ∀ f b' t' v', (f, b', t') ∈ fs → Rep G g H (fdO lk n f b') t' v' → Rep G g' H' (fdO lk n f b') t' v' := fun f b' t' v' hq => k f b' t' v' (hm _ hq) (List.mem_cons_of_mem _ hq)
      clear k hm nf
      induction r0 with
      | nil => exact .nil
      | cons e1 nf1 h1 _ ih1 => exact .cons e1 nf1 (k' _ _ _ _ List.mem_cons_self h1) (ih1 fun f b' t' v' hq => k' f b' t' v' (List.mem_cons_of_mem _ hq))
    show FR G g' H' lk n (if f = m then (f, b, t) :: fs else (f, b0, t0) :: fput m (b, t) fs) (if x = y then (x, v) :: vs else (x, w) :: putF y v vs)
    by_cases q : f = m
    · have ex : x = y := by subst q; exact e0.inj hy
      rw [if_pos q, if_pos ex]
      exact .cons e0 nf (by rw [q]; exact hn) (rest fun p hp => by rw [← q]; exact nf p hp)
    · have ex : x ≠ y := fun z => by subst z; exact q (e0.1.symm.trans hy.1)
      rw [if_neg q, if_neg ex]
      refine .cons e0 (fun p hp => ?_) (k _ _ _ _ q List.mem_cons_self h0) (ih fun f b' t' v' hf hq => k f b' t' v' hf (List.mem_cons_of_mem _ hq))
      rcases fput_get hp with z | z
      · rw [z]; exact fun z => q z.symm
      · exact nf p z
theorem fget_mem {f : Nat} {x : Bool × T} {fs : List (Nat × Bool × T)} (h : fget f fs = some x) : (f, x) ∈ fs := by
  induction fs with
  | nil => cases h
  | cons p r ih =>
    obtain ⟨g, y⟩ := p
    have h : (if g = f then some y else fget f r) = some x := h
    by_cases e : g = f
    · rw [if_pos e] at h; cases h; rw [e]; exact List.mem_cons_self
    · rw [if_neg e] at h; exact List.mem_cons_of_mem _ (ih h)
theorem putF_same {y : Str} {v : L2.V} : ∀ {vs : List (Str × L2.V)}, vs.lookup y = some v → putF y v vs = vs
  | [], h => by cases h
  | (x, w) :: vs, h => by
    show (if x = y then (x, v) :: vs else (x, w) :: putF y v vs) = _
    by_cases e : x = y
    · rw [if_pos e]
      subst e
      rw [List.lookup_cons, beq_self_eq_true] at h
      cases h; rfl
    · rw [if_neg e]
      rw [List.lookup_cons, beq_eq_false_iff_ne.mpr fun z => e z.symm] at h
      rw [putF_same h]
/-- a field's thing is frozen -/
theorem R.giveF (r : R G g lk s σ H) {n f : Nat} {bx : Bx} {t : T} {y : Str} {a : Addr} {fs : List (Str × L2.V)} {v : L2.V} (hb : s.hp[n]? = some bx) (hm : g.m[n]? = some a) (ho : g.ow a = some (.bx n)) (hB : BoxH G bx.cls H a fs)
    (hF : FR G g H lk n bx.fs fs) (hy : StrOk y f) (hl : fs.lookup y = some v) (hp : lk.contains (.fd n f) = false) (ht : Rep G g H (.pl (.fd n f)) t v) :
    R G (g.retag (giveO (.fd n f) .fz)) lk (setBx n { bx with fs := fput f (false, t) bx.fs } s) σ H := by
  have kk : ∀ q t v, q ≠ .fd n f → Rep G g H (plO lk q) t v → Rep G (g.retag (giveO (.fd n f) .fz)) H (plO lk q) t v := fun q t v e h => by
    refine h.retagS rfl ?_ id
    unfold plO
    split
    · rfl
    · exact if_neg e
  have k0 : ∀ t v, Rep G g H .fz t v → Rep G (g.retag (giveO (.fd n f) .fz)) H .fz t v := fun t v h => h.retagS rfl rfl id
  have ke : ∀ t v, Rep G g H .ext t v → Rep G (g.retag (giveO (.fd n f) .fz)) H .ext t v := fun t v h => h.retagS rfl rfl id
  have back : ∀ q a, ((g.retag (giveO (.fd n f) .fz)).ow a = some (.pl q) ∨ (g.retag (giveO (.fd n f) .fz)).ow a = some (.lkd q)) → (g.ow a = some (.pl q) ∨ g.ow a = some (.lkd q)) := fun q a h => by
    rcases h with h | h
    all_goals
      obtain ⟨o0, h1, h2⟩ := retag_some h
      rw [h1]
      cases o0 with
      | pl q' =>
        by_cases e : q' = .fd n f
        · rw [show giveO (.fd n f) .fz (.pl q') = .fz from if_pos e] at h2
          cases h2
        · rw [show giveO (.fd n f) .fz (.pl q') = .pl q' from if_neg e] at h2
          cases h2 <;> exact .inl rfl
      | lkd q' => cases h2 <;> exact .inr rfl
      | _ => cases h2
  refine ⟨fun a o h => ?_, r.ln, fun i mo t h hx => ?_, ?_, fun k b a' h1 h2 => ?_, fun q a a' h1 h2 => r.uq q a a' (back q a h1) (back q a' h2), fun a q h => ?_, fun i t h => (r.xl i t h).tr (fun b hb => ⟨retag_at hb, rfl⟩) (fun _ _ z => z) rfl, fun a o vs h hH => by
    obtain ⟨o0, h1, h2⟩ := retag_some h
    rw [r.tq a o0 vs h1 hH] at h2
    exact h2.symm⟩
  · obtain ⟨o0, h1, _⟩ := retag_some h
    exact r.dom a o0 h1
  · obtain ⟨v, h1, h2⟩ := r.sl i mo t h hx
    refine ⟨v, h1, ?_⟩
    cases mo with
    | xc => exact absurd rfl hx
    | own => exact kk _ _ _ (by intro z; cases z) h2
    | fro => exact k0 _ _ h2
    | bor => exact ke _ _ h2
  · show g.m.length = (s.hp.set n _).length
    rw [List.length_set]; exact r.ml
  · have h2 : g.m[k]? = some a' := h2
    rcases setBx_get h1 with ⟨rfl, rfl, _⟩ | ⟨ne, h1⟩
    · rw [hm] at h2; cases h2
      refine ⟨retag_at ho, ?_⟩
      refine ⟨fs, hB, ?_⟩
      have := FR.put (g' := g.retag (giveO (.fd n f) .fz)) (H' := H) (b := false) (v := v) hy hF (show Rep G (g.retag (giveO (.fd n f) .fz)) H .fz t v from ht.give) (fun f' b' t' v' ne' _ h => by
        cases b' with
        | true => exact kk _ _ _ (fun z => by cases z; exact ne' rfl) h
        | false => exact k0 _ _ h)
      rw [putF_same hl] at this
      exact this
    · obtain ⟨h3, h4⟩ := r.bx k b a' h1 h2
      refine ⟨retag_at h3, ?_⟩
      · obtain ⟨fs', z2, z3⟩ := h4
        exact ⟨fs', z2, z3.go k0 fun f' t v _ h => kk _ _ _ (fun z => by cases z; exact ne rfl) h⟩
  · rcases back q a (.inr h) with z | z
    · obtain ⟨o0, h1, h2⟩ := retag_some h
      rw [z] at h1; cases h1
      by_cases e : q = .fd n f
      · rw [show giveO (.fd n f) .fz (.pl q) = .fz from if_pos e] at h2
        cases h2
      · rw [show giveO (.fd n f) .fz (.pl q) = .pl q from if_neg e] at h2; cases h2
    · exact r.li a q z
/-- reading a field -/
theorem rdFld_ok {n f : Nat} {b : Bool} {bx : Bx} {y : Str} {a : Addr} {fs : List (Str × L2.V)} (r : R G g lk s σ H) (hb : s.hp[n]? = some bx) (hm : g.m[n]? = some a) (ho : g.ow a = some (.bx n)) (hB : BoxH G bx.cls H a fs)
    (hF : FR G g H lk n bx.fs fs) (hy : StrOk y f) (h : Post G W lk g σ H (rdFld lk n f b s) Q) : ∃ v, fs.lookup y = some v ∧ Q v H := by
  unfold rdFld at h
  rw [hb] at h
  cases hg : fget f bx.fs with
  | none => simp only [hg] at h; exact h.elim
  | some q =>
    obtain ⟨bm, t⟩ := q
    obtain ⟨v, h1, h2⟩ := FR.get hy hF hg
    refine ⟨v, h1, ?_⟩
    simp only [hg] at h
    cases bm with
    | false => exact h g H v r Keep.refl h2
    | true =>
      have h : Post G W lk g σ H (if isCont t then (if b then .ok (.bor (some (.fd n f)), t) s else if lk.contains (.fd n f) then .no else .ok (.fro, t) (setBx n { bx with fs := fput f (false, t) bx.fs } s)) else okF t s) Q := h
      split at h
      · split at h
        · exact h g H v r Keep.refl h2
        · split at h
          · exact h.elim
          · rename_i hl
            have hl' : lk.contains (.fd n f) = false := by simpa using hl
            have h2' : Rep G g H (.pl (.fd n f)) t v := by rw [← plO_out hl']; exact h2
            exact h _ H v (r.giveF hb hm ho hB hF hy h1 hl' h2') keep_give h2'.give
      · rename_i hcc
        exact h g H v r Keep.refl (h2.free (by simpa using hcc))
end
end Mi

/-! soundness: attributes, writing a field -/
namespace Mi
open PySem PySem.Spec PyProof.Rows L2
section
variable {G : Gx} {W : WX} {Γ : Gm} {C C' : CallF} {g g1 g2 g' : Gh} {H H1 H2 H' : Hp} {σ σ' : L2.St} {s s1 s2 : S} {lk lk' : List Pl} {Q : VK} {D : Ends}
theorem Post.calm {r : Res V} (h : Post G W lk g σ H (noExc r) Q) : Post G noW lk g σ H r Q := by
  cases r with
  | no => exact h
  | exc c xs s' => exact h.elim
  | ok v s' => exact h
theorem att_e {e : Ex} {f : Nat} {b : Bool} {y : Str} (hy : StrOk y f) (h : tE G W Γ C C' (.att e f b) σ H Q)
    (facts : ∀ c Cx, c ≠ 0 → G.A c = some Cx → Cls G.K Cx ∧ (Γ.prop c f = none → NoAttr G.K Cx y)) :
    tFld G.K (tE G W Γ C C' e) y σ H Q ∨ ∃ c Cx pg, c ≠ 0 ∧ G.A c = some Cx ∧ Γ.prop c f = some pg ∧ tProp Cx (spC G C' pg 1) [] (fun _ _ _ => False) (tE G W Γ C C' e) σ H Q := by
  obtain ⟨lk, g, s, hR, h⟩ := h
  rw [ev] at h
  cases ea : ev Γ C C' lk e s with
  | no => rw [ea] at h; exact h.elim
  | exc d xs s1 =>
    rw [ea] at h
    left
    refine ⟨lk, g, s, hR, ?_⟩
    rw [ea]
    exact fun g' H' cls d r' k' ex => h g' H' cls d r' k' ex
  | ok x s1 =>
    rw [ea] at h
    obtain ⟨md, t⟩ := x
    have h : Post G W lk g σ H (attR Γ C' lk t f b s1) Q := h
    cases t with
    | box n =>
      have h : Post G W lk g σ H (match s1.hp[n]? with
        | some bx => if bx.cls = 0 then .no else match Γ.prop bx.cls f with
          | some g => noExc (callR C' lk g [(.fro, .box n)] s1)
          | none => rdFld lk n f b s1
        | none => .no) Q := h
      cases hb : s1.hp[n]? with
      | none => rw [hb] at h; exact h.elim
      | some bx =>
        rw [hb] at h
        by_cases hc : bx.cls = 0
        · simp only [if_pos hc] at h; exact h.elim
        · simp only [if_neg hc] at h
          cases hp : Γ.prop bx.cls f with
          | none =>
            rw [hp] at h
            left
            refine ⟨lk, g, s, hR, ?_⟩
            rw [ea]
            intro g1 H1 vx r1 k1 p1
            obtain ⟨a, Cx, dx, fs, rfl, e2, e3, e4, e5, e6⟩ := box_at r1 p1 hb hc
            obtain ⟨v, h1, h2⟩ := rdFld_ok r1 hb e2 e3 (BoxH.ins hc e4 e5) e6 hy (Post.keep k1 h)
            exact ⟨a, Cx, dx, fs, v, rfl, e5, (facts _ _ hc e4).1, (facts _ _ hc e4).2 hp, h1, h2⟩
          | some pg =>
            rw [hp] at h
            by_cases hA : ∃ Cx, G.A bx.cls = some Cx
            · obtain ⟨Cx, hA⟩ := hA
              refine .inr ⟨bx.cls, Cx, pg, hc, hA, hp, lk, g, s, hR, ?_⟩
              rw [ea]
              intro g1 H1 vx r1 k1 p1
              obtain ⟨a, Cx', dx, fs, rfl, e2, e3, e4, e5, e6⟩ := box_at r1 p1 hb hc
              rw [hA] at e4; cases e4
              refine ⟨a, dx, fs, rfl, e5, call_sp (W := noW) r1 (.cons (Rep.box (g := g1.retag toCall) e2) .nil) rfl (fun q hq => ?_) (Post.calm (Post.keep k1 h))⟩
              rcases List.mem_cons.mp hq with rfl | hq
              · rfl
              · cases hq
            · left
              refine ⟨lk, g, s, hR, ?_⟩
              rw [ea]
              intro g1 H1 vx r1 k1 p1
              obtain ⟨a, Cx', dx, fs, _, _, _, e4, _, _⟩ := box_at r1 p1 hb hc
              exact absurd ⟨Cx', e4⟩ hA
    | exc c xs =>
      left
      refine ⟨lk, g, s, hR, ?_⟩
      rw [ea]
      intro g1 H1 vx r1 k1 p1
      have p1 : Rep G g1 H1 (mdO lk md) (.exc c xs) vx := p1
      exact (Rep.no_exc p1).elim
    | _ => exact h.elim
where Rep.no_exc {G : Gx} {g : Gh} {H : Hp} {o : Ow} {c : Nat} {xs : List T} {v : L2.V} (h : Rep G g H o (.exc c xs) v) : False := by cases h

/-! ### writing a field -/
theorem R.field (r : R G g lk s σ H) {n f : Nat} {bx : Bx} {b : Bool} {t : T} {y : Str} {a : Addr} {fs : List (Str × L2.V)} {v : L2.V} (hb : s.hp[n]? = some bx) (hm : g.m[n]? = some a) (ho : g.ow a = some (.bx n)) (hfz : Holds .fz g H g' H')
    (hF : FR G g H lk n bx.fs fs) (hy : StrOk y f) (m : g'.m = g.m) (hB' : BoxH G bx.cls H' a (putF y v fs)) (hoff : ∀ b, b ≠ a → H' b = H b) (bxs : ∀ k a', g.ow a' = some (.bx k) → g'.ow a' = some (.bx k))
    (kk : ∀ q t v, q ≠ .fd n f → Rep G g H (plO lk q) t v → Rep G g' H' (plO lk q) t v) (k0 : ∀ t v, Rep G g H .fz t v → Rep G g' H' .fz t v) (ke : ∀ t v, Rep G g H .ext t v → Rep G g' H' .ext t v)
    (dom : ∀ a o, g'.ow a = some o → H' a ≠ none) (uq : ∀ p a a', (g'.ow a = some (.pl p) ∨ g'.ow a = some (.lkd p)) → (g'.ow a' = some (.pl p) ∨ g'.ow a' = some (.lkd p)) → a = a') (li : ∀ a p, g'.ow a = some (.lkd p) → lk.contains p = true) (tq : ∀ b o vs, g'.ow b = some o → H' b = some (.tup vs) → o = .fz)
    (hn : Rep G g' H' (fdO lk n f b) t v) : R G g' lk (setBx n { bx with fs := fput f (b, t) bx.fs } s) σ H' := by
  refine ⟨dom, r.ln, fun i mo t h hx => ?_, ?_, fun k b' a' h1 h2 => ?_, uq, li, fun i t h => (r.xl i t h).tr hfz (fun n a h => by rw [m]; exact h) rfl, tq⟩
  · obtain ⟨v, h1, h2⟩ := r.sl i mo t h hx
    refine ⟨v, h1, ?_⟩
    cases mo with
    | xc => exact absurd rfl hx
    | own => exact kk _ _ _ (by intro z; cases z) h2
    | fro => exact k0 _ _ h2
    | bor => exact ke _ _ h2
  · show g'.m.length = (s.hp.set n _).length
    rw [List.length_set, m]; exact r.ml
  · rw [m] at h2
    rcases setBx_get h1 with ⟨rfl, rfl, _⟩ | ⟨ne, h1⟩
    · rw [hm] at h2; cases h2
      refine ⟨bxs _ _ ho, ?_⟩
      refine ⟨putF y v fs, hB', ?_⟩
      exact FR.put (g' := g') (H' := H') (b := b) (v := v) hy hF hn (fun f' b' t' v' ne' _ h => by
        cases b' with
        | true => exact kk _ _ _ (fun z => by cases z; exact ne' rfl) h
        | false => exact k0 _ _ h)
    · obtain ⟨h3, h4⟩ := r.bx k b' a' h1 h2
      refine ⟨bxs _ _ h3, ?_⟩
      have na : a' ≠ a := fun z => by
        subst z; rw [ho] at h3
        exact ne (by injection (Option.some.inj h3))
      · obtain ⟨fs', z2, z3⟩ := h4
        exact ⟨fs', z2.tr (hoff _ na), z3.go k0 fun f' t v _ h => kk _ _ _ (fun z => by cases z; exact ne rfl) h⟩
theorem FR.len {n : Nat} {fs : List (Nat × Bool × T)} {vs : List (Str × L2.V)} (h : FR G g H lk n fs vs) : vs.length = fs.length := by
  induction h with
  | nil => rfl
  | cons _ _ _ _ ih => simp [ih]
/-- what is written to a field -/
theorem wrFld_ok {n f : Nat} {bx : Bx} {y : Str} {a : Addr} {u : HO} {fs : List (Str × L2.V)} {v : V} {x : L2.V} {s' : S} (r : R G g lk s σ H) (hb : s.hp[n]? = some bx) (hm : g.m[n]? = some a) (ho : g.ow a = some (.bx n)) (hB : BoxH G bx.cls (upd H a u) a (putF y x fs))
    (hF : FR G g H lk n bx.fs fs) (hy : StrOk y f) (hut : ∀ vs, u ≠ .tup vs) (p : Rep G g H (mdO lk v.1) v.2 x) (h : wrFld lk n f v s = some s') :
    fs.length < 1000 ∧ ∃ g', R G g' lk s' σ (upd H a u) ∧ Keep g H g' (upd H a u) := by
  unfold wrFld at h
  split at h
  · cases h
  · rename_i hno
    rw [hb] at h
    have h : (if bx.fs.length < 900 then some (setBx n { bx with fs := fput f (v.1 == .own, v.2) bx.fs } s) else none) = some s' := h
    split at h
    · rename_i hl
      cases h
      have hno : v.1.sto = true ∧ lk.contains (.fd n f) = false := by simpa using hno
      refine ⟨by rw [hF.len]; omega, ?_⟩
      have hold : ∀ o, o ≠ .bx n → Holds o g H g (upd H a u) := fun o ne b h => ⟨h, upd_ne fun z => by subst z; rw [ho] at h; exact ne (Option.some.inj h).symm⟩
      have mp : MPre g g := fun _ _ h => h
      have dom : ∀ b o, g.ow b = some o → upd H a u b ≠ none := fun b o h => by
        by_cases e : b = a
        · subst e; rw [upd_same]; intro z; cases z
        · rw [upd_ne e]; exact r.dom b o h
      have npl : ∀ q, plO lk q ≠ .bx n := fun q => by unfold plO; split <;> (intro z; cases z)
      have kk : ∀ q t v, Rep G g H (plO lk q) t v → Rep G g (upd H a u) (plO lk q) t v := fun q t v h => h.tr (hold _ (by intro z; cases z)) mp (hold _ (npl q))
      have k0 : ∀ t v, Rep G g H .fz t v → Rep G g (upd H a u) .fz t v := fun t v h => h.tr (hold _ (by intro z; cases z)) mp (hold _ (by intro z; cases z))
      have ke : ∀ t v, Rep G g H .ext t v → Rep G g (upd H a u) .ext t v := fun t v h => h.tr (hold _ (by intro z; cases z)) mp (hold _ (by intro z; cases z))
      have keep : Keep g H g (upd H a u) := ⟨hold _ (by intro z; cases z), hold _ (by intro z; cases z), fun p => hold _ (by intro z; cases z), fun d => hold _ (by intro z; cases z) d, mp⟩
      have tqo : ∀ b o vs, g.ow b = some o → upd H a u b = some (.tup vs) → o = .fz := fun b o vs h hH => by
        by_cases e : b = a
        · subst e; rw [upd_same] at hH; exact absurd (Option.some.inj hH) (hut vs)
        · rw [upd_ne e] at hH; exact r.tq b o vs h hH
      obtain ⟨md, t⟩ := v
      have simple : ∀ b, Rep G g (upd H a u) (fdO lk n f b) t x → ∃ g', R G g' lk (setBx n { bx with fs := fput f (b, t) bx.fs } s) σ (upd H a u) ∧ Keep g H g' (upd H a u) := fun b hn =>
        ⟨g, r.field hb hm ho (hold _ (by intro z; cases z)) hF hy rfl hB (fun _ z => upd_ne z) (fun _ _ h => h) (fun q t v _ h => kk q t v h) k0 ke dom r.uq r.li tqo hn, keep⟩
      cases md with
      | fro => exact simple false (k0 _ _ p)
      | bor _ => cases hno.1
      | own =>
        by_cases hct : isCont t = true
        · have p : Rep G g H .tmp t x := p
          obtain ⟨ax, uu, rfl, ha, hu, hh⟩ := p.addr hct (by intro z; cases z)
          have nax : ax ≠ a := fun z => by subst z; rw [ho] at ha; cases ha
          have p' : Rep G g (upd H a u) .tmp t (.ref ax) := p.tr (hold _ (by intro z; cases z)) mp (hold _ (by intro z; cases z))
          have th : ∀ o, o ≠ .pl (.fd n f) → o ≠ .tmp → ∀ H, Holds o g H (g.take (.fd n f) ax) H := fun o h1 h2 H => take_holds ha h1 h2
          have npl2 : ∀ q, q ≠ Pl.fd n f → plO lk q ≠ .pl (.fd n f) := fun q hq => by unfold plO; split <;> (intro z; cases z); exact hq rfl
          refine ⟨g.take (.fd n f) ax, r.field hb hm ho (Holds.trans (hold _ (by intro z; cases z)) (th _ (by intro z; cases z) (by intro z; cases z) _)) hF hy rfl hB (fun _ z => upd_ne z) (fun k a' h => ((th (.bx k) (by intro z; cases z) (by intro z; cases z) H) a' h).1)
            (fun q t v hq h => (kk q t v h).tr (th _ (by intro z; cases z) (by intro z; cases z) _) (fun _ _ z => z) (th _ (npl2 q hq) (plO_ne (.inl rfl)) _))
            (fun t v h => (k0 t v h).tr (th _ (by intro z; cases z) (by intro z; cases z) _) (fun _ _ z => z) (th _ (by intro z; cases z) (by intro z; cases z) _))
            (fun t v h => (ke t v h).tr (th _ (by intro z; cases z) (by intro z; cases z) _) (fun _ _ z => z) (th _ (by intro z; cases z) (by intro z; cases z) _))
            (fun b o h => ?_) (fun q b b' h1 h2 => ?_) (fun b q h => ?_) (fun b o vs h hH => ?_) ?_, keep.trans (keep_take ha)⟩
          · rcases take_inv h with ⟨rfl, _⟩ | ⟨_, h, _⟩
            · rw [upd_ne nax]; exact r.dom _ _ ha
            · exact dom b o h
          · have key : ∀ b, ((g.take (.fd n f) ax).ow b = some (.pl q) ∨ (g.take (.fd n f) ax).ow b = some (.lkd q)) → (b = ax ∧ q = .fd n f) ∨ ((g.ow b = some (.pl q) ∨ g.ow b = some (.lkd q)) ∧ (q = .fd n f → g.ow b = some (.lkd q))) := fun b h => by
              rcases h with h | h
              · rcases take_inv h with ⟨z1, z2⟩ | ⟨_, z1, z2⟩
                · exact .inl ⟨z1, by cases z2; rfl⟩
                · exact .inr ⟨.inl z1, fun e => absurd (by rw [e]) z2⟩
              · rcases take_inv h with ⟨_, z2⟩ | ⟨_, z1, _⟩
                · cases z2
                · exact .inr ⟨.inr z1, fun _ => z1⟩
            have nolk : q = .fd n f → ∀ b, g.ow b ≠ some (.lkd q) := fun e b h => by
              have := r.li b q h
              rw [e, hno.2] at this; cases this
            rcases key b h1 with ⟨e1, e2⟩ | ⟨e1, e2⟩
            · rcases key b' h2 with ⟨e3, _⟩ | ⟨_, e4⟩
              · rw [e1, e3]
              · exact absurd (e4 e2) (nolk e2 b')
            · rcases key b' h2 with ⟨e3, e4⟩ | ⟨e3, e4⟩
              · exact absurd (e2 e4) (nolk e4 b)
              · exact r.uq q b b' e1 e3
          · rcases take_inv h with ⟨_, z⟩ | ⟨_, z, _⟩
            · cases z
            · exact r.li b q z
          · rcases take_inv h with ⟨rfl, _⟩ | ⟨_, h, _⟩
            · exact absurd (tqo _ _ vs ha hH) (by intro z; cases z)
            · exact tqo b o vs h hH
          · show Rep G _ _ (plO lk (.fd n f)) t _
            rw [plO_out hno.2]
            exact Rep.take ha p' hct
        · have hct : isCont t = false := by simpa using hct
          exact simple true ((k0 _ _ ((show Rep G g H .tmp t x from p).free hct)).free hct)
    · cases h
end
end Mi

/-! soundness: more statements -/
namespace Mi
open PySem PySem.Spec PyProof.Rows L2
section
variable {G : Gx} {W : WX} {Γ : Gm} {C C' : CallF} {g g1 g2 g' : Gh} {H H1 H2 H' : Hp} {σ σ' : L2.St} {s s1 s2 : S} {lk lk' : List Pl} {Q : VK} {D : Ends}
theorem pass_ok (h : tS G W Γ C C' .pass D σ H) : tNext D σ H := by
  obtain ⟨lk, g, s, hR, h⟩ := h
  rw [exec] at h
  exact h g σ H hR Keep.refl
theorem cont_ok (h : tS G W Γ C C' .cont D σ H) : tCont D σ H := by
  obtain ⟨lk, g, s, hR, h⟩ := h
  rw [exec] at h
  exact h g σ H hR Keep.refl
theorem brk_ok (h : tS G W Γ C C' .brk D σ H) : tBreak D σ H := by
  obtain ⟨lk, g, s, hR, h⟩ := h
  rw [exec] at h
  exact h g σ H hR Keep.refl
theorem whl_ok {c : Ex} {b : List Sm} (h : tS G W Γ C C' (.whl c b) D σ H) : tWhile (tT G W Γ C C' c) (tSs G W Γ C C' b) D σ H := by
  obtain ⟨lk, g, s, hR, h⟩ := h
  rw [exec] at h
  refine ⟨fun m σ' H' => ∃ g' s', R G g' lk s' σ' H' ∧ PostS G W lk g' H' (whileL (fun s => (ev Γ C C' lk c s).bind fun v s1 => optR (truth v.2) fun t => .ok t s1) (fun s => execs Γ C C' lk b s) m s') D, ⟨_, g, s, hR, h⟩, ?_⟩
  rintro m σ' H' ⟨g', s', r, p⟩
  cases m with
  | zero => exact p.elim
  | succ m =>
    have p : PostS G W lk g' H' (((ev Γ C C' lk c s').bind fun v s1 => optR (truth v.2) fun t => .ok t s1).bind fun t s1 => if t then (execs Γ C C' lk b s1).bind fun f s2 =>
      match f with
      | .nx => whileL (fun s => (ev Γ C C' lk c s).bind fun v s1 => optR (truth v.2) fun t => .ok t s1) (fun s => execs Γ C C' lk b s) m s2
      | .cont => whileL (fun s => (ev Γ C C' lk c s).bind fun v s1 => optR (truth v.2) fun t => .ok t s1) (fun s => execs Γ C C' lk b s) m s2
      | .brk => .ok .nx s2
      | .ret v => .ok (.ret v) s2
      else .ok .nx s1) D := p
    refine ⟨lk, g', s', r, ?_⟩
    cases et : (ev Γ C C' lk c s').bind fun v s1 => optR (truth v.2) fun t => Res.ok t s1 with
    | no => rw [et] at p; exact p.elim
    | exc d xs s1 =>
      rw [et] at p
      exact fun g2 H2 cls dd r2 k2 ex => p g2 σ' H2 cls dd r2 k2 ex
    | ok t s1 =>
      rw [et] at p
      intro g1 H1 r1 k1
      have p := PostS.keep k1 p
      cases t with
      | false => exact p g1 σ' H1 r1 Keep.refl
      | true =>
        refine ⟨fun σ2 H2 => ∃ g' s', R G g' lk s' σ2 H2 ∧ PostS G W lk g' H2 (whileL (fun s => (ev Γ C C' lk c s).bind fun v s1 => optR (truth v.2) fun t => .ok t s1) (fun s => execs Γ C C' lk b s) m s') D, fun σ2 H2 q => ⟨m, Nat.lt_succ_self m, q⟩, lk, g1, s1, r1, ?_⟩
        have p : PostS G W lk g1 H1 ((execs Γ C C' lk b s1).bind fun f s2 =>
          match f with
          | .nx => whileL (fun s => (ev Γ C C' lk c s).bind fun v s1 => optR (truth v.2) fun t => .ok t s1) (fun s => execs Γ C C' lk b s) m s2
          | .cont => whileL (fun s => (ev Γ C C' lk c s).bind fun v s1 => optR (truth v.2) fun t => .ok t s1) (fun s => execs Γ C C' lk b s) m s2
          | .brk => .ok .nx s2
          | .ret v => .ok (.ret v) s2) D := p
        cases eb : execs Γ C C' lk b s1 with
        | no => rw [eb] at p; exact p.elim
        | exc d xs s2 => rw [eb] at p; exact p
        | ok f s2 =>
          rw [eb] at p
          intro g3 σ3 H3 r3 k3
          cases f with
          | nx => exact ⟨g3, s2, r3, PostS.keep k3 p⟩
          | cont => exact ⟨g3, s2, r3, PostS.keep k3 p⟩
          | brk => exact p g3 σ3 H3 r3 k3
          | ret v => exact p g3 σ3 H3 r3 k3
theorem many_ok {is : List Nat} {e : Ex} (h : tS G W Γ C C' (.set (.many is) e) D σ H) : tAsg (tE G W Γ C C' e) (gTup G.K is.length (gNames is)) D σ H := by
  obtain ⟨lk, g, s, hR, h⟩ := h
  rw [exec] at h
  refine expr_ok hR h fun v s1 g1 H1 x r1 k1 p1 h1 => ?_
  cases hb : bindTg lk (.many is) v s1 with
  | none => rw [hb] at h1; exact h1.elim
  | some s' =>
    rw [hb] at h1
    have hb' : bindTg lk (.many is) (.fro, v.2) s1 = some s' := hb
    have p2 : Rep G g1 H1 .fz v.2 x := by
      obtain ⟨md, t⟩ := v
      cases t with
      | tup ts => exact p1.free rfl
      | _ => cases hb
    obtain ⟨σ', r2, _, k2⟩ := bind_item r1 p2 hb'
    exact k2 _ (h1 g1 σ' H1 r2 Keep.refl)
/-- a slot that holds no container is read -/
theorem rd_flat {i : Nat} {b : Bool} {x : V} (h : rdVar lk i b s = .ok x s1) (hc : isCont x.2 = false) : s1 = s ∧ ∃ mo, s.loc[i]? = some (some (mo, x.2)) ∧ mo ≠ .xc := by
  unfold rdVar at h
  split at h
  · rename_i t e
    split at h
    · rename_i ct
      split at h
      · cases h; rw [ct] at hc; cases hc
      · split at h
        · cases h
        · cases h; rw [ct] at hc; cases hc
    · cases h; exact ⟨rfl, _, e, by decide⟩
  · rename_i t e; cases h; exact ⟨rfl, _, e, by decide⟩
  · rename_i t e; cases h; exact ⟨rfl, _, e, by decide⟩
  · cases h
theorem rd_noexc {i : Nat} {b : Bool} {c : Nat} {xs : List T} (h : rdVar lk i b s = .exc c xs s1) : False := by
  unfold rdVar at h
  split at h
  · split at h
    · split at h
      · cases h
      · split at h <;> cases h
    · cases h
  · cases h
  · cases h
  · cases h
theorem setf_ok {i f : Nat} {b : Bool} {e : Ex} {y : Str} (hy : StrOk y f) (ns : ∀ c, Γ.setr c f = none) (facts : ∀ c Cx, c ≠ 0 → G.A c = some Cx → Cls G.K Cx ∧ NoAttr G.K Cx y) (h : tS G W Γ C C' (.setf (.var i b) f e) D σ H) :
    sFld G.K (tVar i) (tE G W Γ C C' e) y D σ H := by
  obtain ⟨lk, g, s, hR, h⟩ := h
  rw [exec] at h
  refine expr_ok hR h fun v s1 g1 H1 vx r1 k1 p1 h1 => ?_
  have e0 : ev Γ C C' lk (.var i b) s1 = rdVar lk i b s1 := by rw [ev]
  rw [e0] at h1
  cases er : rdVar lk i b s1 with
  | no => rw [er] at h1; exact h1.elim
  | exc c xs s2 =>
    exact (rd_noexc er).elim
  | ok x s2 =>
    rw [er] at h1
    obtain ⟨md, t⟩ := x
    simp only [Res.bind] at h1
    split at h1
    · exact h1.elim
    · cases t with
      | box n =>
        obtain ⟨e2, mo, e3, hmx⟩ := rd_flat er rfl
        subst e2
        obtain ⟨w, q1, q2⟩ := r1.sl i mo _ e3 hmx
        refine ⟨w, q1, ?_⟩
        cases hb : s2.hp[n]? with
        | none => simp only [hb] at h1; exact h1.elim
        | some bx =>
          simp only [hb, ns] at h1
          split at h1
          · exact h1.elim
          · rename_i hc
            obtain ⟨a, Cx, dx, fs, rfl, m1, m2, m3, m4, m5⟩ := box_at r1 q2 hb hc
            cases hw : wrFld lk n f v s2 with
            | none => rw [hw] at h1; exact h1.elim
            | some s3 =>
              rw [hw] at h1
              obtain ⟨hl, g3, r3, k3⟩ := wrFld_ok (u := .ins Cx dx (putF y _ fs)) r1 hb m1 m2 (BoxH.ins hc m3 upd_same) m5 hy (fun _ z => by cases z) p1 hw
              exact ⟨a, Cx, dx, fs, rfl, m4, (facts _ _ hc m3).1, (facts _ _ hc m3).2, hl, h1 g3 σ _ r3 k3⟩
      | _ => exact h1.elim
end
end Mi

/-! soundness: a list or dict of a slot is changed -/
namespace Mi
open PySem PySem.Spec PyProof.Rows L2
section
variable {G : Gx} {W : WX} {Γ : Gm} {C C' : CallF} {g g1 g2 g' : Gh} {H H1 H2 H' : Hp} {σ σ' : L2.St} {s s1 s2 : S} {lk lk' : List Pl} {Q : VK} {D : Ends}
theorem R.mutS (r : R G g lk s σ H) {i : Nat} {t t' : T} {a : Addr} {u : HO} (hi : s.loc[i]? = some (some (.own, t))) (hs : σ[i]? = some (some (.ref a))) (hp : lk.contains (.sl i) = false) (ha : g.ow a = some (.pl (.sl i)))
    (hn : Rep G g (upd H a u) (.pl (.sl i)) t' (.ref a)) (hut : ∀ vs, u ≠ .tup vs := by intro vs z; cases z) : R G g lk { s with loc := s.loc.set i (some (.own, t')) } σ (upd H a u) ∧ Keep g H g (upd H a u) := by
  have hold : ∀ o, o ≠ .pl (.sl i) → Holds o g H g (upd H a u) := fun o ne b h => ⟨h, upd_ne fun z => by subst z; rw [ha] at h; exact ne (Option.some.inj h).symm⟩
  have mp : MPre g g := fun _ _ h => h
  have r1 : R G g lk { s with loc := s.loc.set i none } σ (upd H a u) := by
    refine (r.drop i).go rfl (hold _ (by intro z; cases z)) (hold _ (by intro z; cases z)) (fun n => hold _ (by intro z; cases z)) (fun j t v h1 h2 h3 => ?_) (fun n bx f t v _ _ h => ?_) (fun b o h => ?_) r.uq r.li (fun b o vs h hH => by
      by_cases e : b = a
      · subst e; rw [upd_same] at hH; exact absurd (Option.some.inj hH) (hut vs)
      · rw [upd_ne e] at hH; exact r.tq b o vs h hH)
    · have ne : j ≠ i := fun z => by
        subst z
        rcases getElem?_set_some h1 with ⟨_, z, _⟩ | ⟨z, _⟩
        · cases z
        · exact z rfl
      refine h3.tr (hold _ (by intro z; cases z)) mp (hold _ ?_)
      unfold plO; split <;> (intro z; cases z); exact ne rfl
    · refine h.tr (hold _ (by intro z; cases z)) mp (hold _ ?_)
      unfold plO; split <;> (intro z; cases z)
    · by_cases e : b = a
      · subst e; rw [upd_same]; intro z; cases z
      · rw [upd_ne e]; exact r.dom b o h
  have r2 := r1.put (i := i) (mo := .own) (t := t') (v := .ref a) (by show Rep G g _ (plO lk (.sl i)) t' _; rw [plO_out hp]; exact hn)
  rw [set_same hs] at r2
  refine ⟨?_, hold _ (by intro z; cases z), hold _ (by intro z; cases z), fun p => hold _ (by intro z; cases z), fun d => hold _ (by intro z; cases z) d, mp⟩
  have e : ({ s with loc := (s.loc.set i none).set i (some (.own, t')) } : S) = { s with loc := s.loc.set i (some (.own, t')) } := by rw [List.set_set]
  rw [← e]; exact r2
theorem rdPl_sl {i : Nat} {t : T} (h : rdPl lk (.sl i) s = some t) : lk.contains (.sl i) = false ∧ s.loc[i]? = some (some (.own, t)) := by
  unfold rdPl at h
  split at h
  · cases h
  · rename_i hl
    refine ⟨by simpa using hl, ?_⟩
    simp only at h
    split at h
    · rename_i e; cases h; exact e
    · cases h
theorem lst_inv {p : Pl} {xs : List T} {v : L2.V} (h : Rep G g H (.pl p) (.lst xs) v) : ∃ a vs, v = .ref a ∧ g.ow a = some (.pl p) ∧ H a = some (.lst vs) ∧ xs.length ≤ szL ∧ Reps G g H xs vs := by
  cases h with
  | lst w h z r => exact ⟨_, _, rfl, w, h, z, r⟩
/-! ### places: slots and fields -/
theorem rdPl_fd {n f : Nat} {t : T} (h : rdPl lk (.fd n f) s = some t) : lk.contains (.fd n f) = false ∧ ∃ bx, s.hp[n]? = some bx ∧ fget f bx.fs = some (true, t) := by
  unfold rdPl at h
  split at h
  · cases h
  · rename_i hl
    refine ⟨by simpa using hl, ?_⟩
    simp only at h
    split at h
    · rename_i bx hb
      split at h
      · rename_i e; cases h; exact ⟨bx, hb, e⟩
      · cases h
    · cases h
theorem FR.find {n m : Nat} {fs : List (Nat × Bool × T)} {vs : List (Str × L2.V)} {b : Bool} {t : T} (h : FR G g H lk n fs vs) (e : fget m fs = some (b, t)) : ∃ y v, StrOk y m ∧ vs.lookup y = some v ∧ Rep G g H (fdO lk n m b) t v := by
  have key : ∃ y, StrOk y m := by
    induction h with
    | nil => cases e
    | @cons f b' t' x v fs vs e0 nf h0 _ ih =>
      have e : (if f = m then some (b', t') else fget m fs) = some (b, t) := e
      by_cases q : f = m
      · exact ⟨x, by rw [← q]; exact e0⟩
      · rw [if_neg q] at e; exact ih e
  obtain ⟨y, hy⟩ := key
  obtain ⟨v, h1, h2⟩ := FR.get hy h e
  exact ⟨y, v, hy, h1, h2⟩
/-- the thing at a field is another -/
theorem R.mutF (r : R G g lk s σ H) {n f : Nat} {bx : Bx} {t' : T} {b a : Addr} {u : HO} {y : Str} {fs : List (Str × L2.V)} (hb : s.hp[n]? = some bx) (hm : g.m[n]? = some b) (hB : BoxH G bx.cls H b fs) (hF : FR G g H lk n bx.fs fs) (hy : StrOk y f) (hl : fs.lookup y = some (.ref a))
    (hp : lk.contains (.fd n f) = false) (ha : g.ow a = some (.pl (.fd n f))) (hn : Rep G g (upd H a u) (.pl (.fd n f)) t' (.ref a)) (hut : ∀ vs, u ≠ .tup vs) : R G g lk (setBx n { bx with fs := fput f (true, t') bx.fs } s) σ (upd H a u) := by
  have hold : ∀ o, o ≠ .pl (.fd n f) → Holds o g H g (upd H a u) := fun o ne b h => ⟨h, upd_ne fun z => by subst z; rw [ha] at h; exact ne (Option.some.inj h).symm⟩
  have mp : MPre g g := fun _ _ h => h
  have kk : ∀ q t v, q ≠ .fd n f → Rep G g H (plO lk q) t v → Rep G g (upd H a u) (plO lk q) t v := fun q t v e h => h.tr (hold _ (by intro z; cases z)) mp (hold _ (by unfold plO; split <;> (intro z; cases z); exact e rfl))
  have k0 : ∀ t v, Rep G g H .fz t v → Rep G g (upd H a u) .fz t v := fun t v h => h.tr (hold _ (by intro z; cases z)) mp (hold _ (by intro z; cases z))
  have ke : ∀ t v, Rep G g H .ext t v → Rep G g (upd H a u) .ext t v := fun t v h => h.tr (hold _ (by intro z; cases z)) mp (hold _ (by intro z; cases z))
  refine ⟨fun c o h => ?_, r.ln, fun i mo t h hx => ?_, ?_, fun k b' a' h1 h2 => ?_, r.uq, r.li, fun i t h => (r.xl i t h).tr (hold _ (by intro z; cases z)) mp rfl, fun c o vs h hH => ?_⟩
  · by_cases e : c = a
    · subst e; rw [upd_same]; intro z; cases z
    · rw [upd_ne e]; exact r.dom c o h
  · obtain ⟨v, h1, h2⟩ := r.sl i mo t h hx
    refine ⟨v, h1, ?_⟩
    cases mo with
    | own => exact kk _ _ _ (by intro z; cases z) h2
    | fro => exact k0 _ _ h2
    | bor => exact ke _ _ h2
    | xc => exact absurd rfl hx
  · show g.m.length = (s.hp.set n _).length
    rw [List.length_set]; exact r.ml
  · rcases setBx_get h1 with ⟨rfl, rfl, _⟩ | ⟨ne, h1⟩
    · rw [hm] at h2; cases h2
      obtain ⟨h3, _⟩ := r.bx n bx b hb hm
      have nb : b ≠ a := fun z => by subst z; rw [ha] at h3; cases h3
      refine ⟨h3, fs, hB.tr (upd_ne nb), ?_⟩
      have := FR.put (g' := g) (H' := upd H a u) (b := true) (t := t') (v := .ref a) hy hF (by show Rep G g _ (plO lk (.fd n f)) t' _; rw [plO_out hp]; exact hn) (fun f' b' t'' v' ne' _ h => by
        cases b' with
        | true => exact kk _ _ _ (fun z => by cases z; exact ne' rfl) h
        | false => exact k0 _ _ h)
      rw [putF_same hl] at this
      exact this
    · obtain ⟨h3, fs', z2, z3⟩ := r.bx k b' a' h1 h2
      have na : a' ≠ a := fun z => by subst z; rw [ha] at h3; cases h3
      exact ⟨h3, fs', z2.tr (upd_ne na), z3.go k0 fun f' t v _ h => kk _ _ _ (fun z => by cases z; exact ne rfl) h⟩
  · by_cases e : c = a
    · subst e; rw [upd_same] at hH; exact absurd (Option.some.inj hH) (hut vs)
    · rw [upd_ne e] at hH; exact r.tq c o vs h hH
/-- the thing at a place that was read is changed -/
theorem R.mutP (r : R G g lk s σ H) {pl : Pl} {t t0 : T} {vx : L2.V} (hrd : rdPl lk pl s = some t) (hx : Rep G g H (plO lk pl) t0 vx) (c0 : isCont t0 = true) (ct : isCont t = true) :
    ∃ a, vx = .ref a ∧ g.ow a = some (.pl pl) ∧ Rep G g H (.pl pl) t (.ref a) ∧ ∀ u t', (∀ vs, u ≠ .tup vs) → Rep G g (upd H a u) (.pl pl) t' (.ref a) → R G g lk (wrPl pl t' s) σ (upd H a u) ∧ Keep g H g (upd H a u) := by
  have keep : ∀ {a : Addr} {u : HO}, g.ow a = some (.pl pl) → Keep g H g (upd H a u) := fun {a u} ha => by
    have hold : ∀ o, o ≠ .pl pl → Holds o g H g (upd H a u) := fun o ne b h => ⟨h, upd_ne fun z => by subst z; rw [ha] at h; exact ne (Option.some.inj h).symm⟩
    exact ⟨hold _ (by intro z; cases z), hold _ (by intro z; cases z), fun p => hold _ (by intro z; cases z), fun d => hold _ (by intro z; cases z) d, fun _ _ h => h⟩
  cases pl with
  | sl i =>
    obtain ⟨hl, hi⟩ := rdPl_sl hrd
    rw [plO_out hl] at hx
    obtain ⟨a, _, rfl, ha, _, _⟩ := hx.addr c0 (by intro z; cases z)
    obtain ⟨v, hv, pv⟩ := r.sl i _ _ hi (by decide)
    have pv : Rep G g H (plO lk (.sl i)) t v := pv
    rw [plO_out hl] at pv
    obtain ⟨a', _, rfl, ha', _, _⟩ := pv.addr ct (by intro z; cases z)
    have e := r.uq _ a a' (.inl ha) (.inl ha')
    subst e
    exact ⟨a, rfl, ha, pv, fun u t' hut hn => r.mutS hi hv hl ha hn hut⟩
  | fd n f =>
    obtain ⟨hl, bx, hb, hf⟩ := rdPl_fd hrd
    rw [plO_out hl] at hx
    obtain ⟨a, _, rfl, ha, _, _⟩ := hx.addr c0 (by intro z; cases z)
    obtain ⟨hlt, _⟩ := List.getElem?_eq_some_iff.mp hb
    have hm : g.m[n]? = some (g.m[n]'(by rw [r.ml]; exact hlt)) := List.getElem?_eq_getElem _
    obtain ⟨h1, fs, hB, hF⟩ := r.bx n bx _ hb hm
    obtain ⟨y, v, hy, hv, pv⟩ := FR.find hF hf
    have pv : Rep G g H (plO lk (.fd n f)) t v := pv
    rw [plO_out hl] at pv
    obtain ⟨a', _, rfl, ha', _, _⟩ := pv.addr ct (by intro z; cases z)
    have e := r.uq _ a a' (.inl ha) (.inl ha')
    subst e
    refine ⟨a, rfl, ha, pv, fun u t' hut hn => ⟨?_, keep ha⟩⟩
    have e1 : wrPl (.fd n f) t' s = setBx n { bx with fs := fput f (true, t') bx.fs } s := by
      show (match s.hp[n]? with | some bx => setBx n { bx with fs := fput f (true, t') bx.fs } s | none => s) = _
      rw [hb]
    rw [e1]
    exact r.mutF hb hm hB hF hy hv hl ha hn hut
theorem plOk_md {x : V} (h : plOk lk x = true) : x.1 = .bor (some (plOf x)) ∧ lk.contains (plOf x) = false ∧ isCont x.2 = true := by
  unfold plOk at h
  split at h
  · rename_i pl e
    simp only [Bool.and_eq_true, Bool.not_eq_true'] at h
    have e2 : plOf x = pl := by unfold plOf; rw [e]
    rw [e2]
    exact ⟨e, h.1, h.2⟩
  · cases h
/-- a value that is stored is frozen -/
theorem sto_frz {v : V} {y : L2.V} (hR : R G g lk s σ H) (hs : v.1.sto = true) (p : Rep G g H (mdO lk v.1) v.2 y) : R G (g.retag tmpFz) lk s σ H ∧ Keep g H (g.retag tmpFz) H ∧ Rep G (g.retag tmpFz) H .fz v.2 y ∧ ∀ pl t w, Rep G g H (plO lk pl) t w → Rep G (g.retag tmpFz) H (plO lk pl) t w := by
  refine ⟨hR.freeze, keep_freeze, ?_, fun pl t w h => h.freeze' (tmpFz_pl lk pl)⟩
  obtain ⟨md, t⟩ := v
  cases md with
  | own => exact Rep.freeze p
  | fro => exact Rep.freeze' p rfl
  | bor _ => cases hs
/-- p.append(e) -/
def rAppG (to te : TE) : TS := fun D σ H => to σ H fun x H1 => (∃ a xs, x = .ref a ∧ H1 a = some (.lst xs)) ∧ te σ H1 fun y H2 => ∃ l xs, x = .ref l ∧ H2 l = some (.lst xs) ∧ xs.length < sizeLine ∧ D.nx σ (upd H2 l (.lst (xs ++ [y])))
/-- a second evaluation behind a place that is borrowed -/
theorem under {x : V} {vx : L2.V} {e : Ex} {F : V → S → Res Fl} {K : L2.V → Hp → Prop} (hR : R G g lk s σ H) (hx : Rep G g H (mdO lk x.1) x.2 vx) (hm : x.1 = .bor (some (plOf x))) (h : PostS G W lk g H ((ev Γ C C' (lks x ++ lk) e s).bind F) D)
    (hk : ∀ v s1 g1 H1 y, R G g1 lk s1 σ H1 → Keep g H g1 H1 → Rep G g1 H1 (mdO lk v.1) v.2 y → Rep G g1 H1 (plO lk (plOf x)) x.2 vx → PostS G W lk g1 H1 (F v s1) D → K y H1) : tE G W Γ C C' e σ H K := by
  obtain ⟨g1', r1', k1', _, back⟩ := pend hR hx
  refine ⟨lks x ++ lk, g1', s, r1', ?_⟩
  cases eb : ev Γ C C' (lks x ++ lk) e s with
  | no => rw [eb] at h; exact h.elim
  | exc c xs s2 =>
    rw [eb] at h
    intro g2 H2 cls d r2 k2 ex
    obtain ⟨g3, r3, k3, _, m3, _, f3⟩ := back g2 H2 s2 σ r2 k2
    exact h g3 σ H2 cls d r3 k3 (ex.move (fun t v z => m3 .fro t v z) f3)
  | ok y s2 =>
    rw [eb] at h
    intro g2 H2 vy r2 k2 p2
    obtain ⟨g3, r3, k3, q3, m3, _⟩ := back g2 H2 s2 σ r2 k2
    rw [hm] at q3
    exact hk y s2 g3 H2 vy r3 k3 (m3 _ _ _ p2) q3 (PostS.keep k3 h)
theorem app_ok {p : Pa} {e : Ex} (h : tS G W Γ C C' (.app p e) D σ H) : rAppG (tE G W Γ C C' (paE p)) (tE G W Γ C C' e) D σ H := by
  obtain ⟨lk, g, s, hR, h⟩ := h
  rw [exec] at h
  refine expr_ok hR h fun x s1 g1 H1 vx r1 k1 p1 h1 => ?_
  split at h1
  · rename_i hpl
    obtain ⟨hm, hlk, hc⟩ := plOk_md hpl
    have px : Rep G g1 H1 (plO lk (plOf x)) x.2 vx := by rw [hm] at p1; exact p1
    split at h1
    · rename_i xs0 e0
      have px0 := px
      rw [e0, plO_out hlk] at px0
      obtain ⟨a, vs0, rfl, _, hH, _, _⟩ := lst_inv px0
      refine ⟨⟨a, vs0, rfl, hH⟩, under r1 p1 hm h1 fun v s2 g2 H2 y r2 k2 p2 px2 h2 => ?_⟩
      split at h2
      · rename_i xs e2
        split at h2
        · rename_i hcc
          simp only [Bool.and_eq_true, decide_eq_true_eq] at hcc
          obtain ⟨r3, k3, py, mv⟩ := sto_frz r2 hcc.1 p2
          obtain ⟨a', ea, ha, pt, mu⟩ := r3.mutP e2 (mv _ _ _ px2) hc rfl
          cases ea
          obtain ⟨_, vs, ev', ha2, hH2, hz, rs⟩ := lst_inv pt
          cases ev'
          have hold : Holds .fz (g2.retag tmpFz) H2 (g2.retag tmpFz) (upd H2 a (.lst (vs ++ [y]))) := fun b h => ⟨h, upd_ne fun z => by subst z; rw [ha] at h; cases h⟩
          obtain ⟨r4, k4⟩ := mu (.lst (vs ++ [y])) (.lst (xs ++ [v.2])) (fun _ z => by cases z) (.lst ha (show upd H2 a (.lst (vs ++ [y])) a = _ from upd_same) (by rw [List.length_append]; simp; omega) ((rs.append (.cons py .nil)).tr hold fun _ _ z => z))
          refine ⟨a, vs, rfl, hH2, by rw [← rs.length, ← szL_eq]; exact hcc.2, ?_⟩
          exact h2 _ σ _ r4 (k3.trans k4)
        · exact h2.elim
      · exact h2.elim
    · exact h1.elim
  · exact h1.elim
end
end Mi

/-! soundness: rules for whole statements -/
namespace Mi
open PySem PySem.Spec PyProof.Rows L2
section
variable {D : Kc} {A : AP} {sc : Scope} {X : Cx} {W : WX} {Γ : Gm} {C C' : CallF}
theorem PS.imp {st : Stmt} {t t' : TS} (p : PS X st t') (h : ∀ D σ H, t D σ H → t' D σ H) : PS X st t := ⟨fun pins s σ H D I hw => p.run pins s σ H D I (h D σ H hw)⟩
theorem PSs.imp {st : List Stmt} {t t' : TS} (p : PSs X st t') (h : ∀ D σ H, t D σ H → t' D σ H) : PSs X st t := ⟨fun pins s σ H D I hw => p.run pins s σ H D I (h D σ H hw)⟩
theorem PS.or {st : Stmt} {t t' : TS} (p : PS X st t) (q : PS X st t') : PS X st fun D σ H => t D σ H ∨ t' D σ H := ⟨fun pins s σ H D I hw => hw.elim (p.run pins s σ H D I) (q.run pins s σ H D I)⟩
/-- a judgement, its wish weakened -/
def tWk (t : TE) : TE := fun σ H Q => ∃ Q0, (∀ x H, Q0 x H → Q x H) ∧ t σ H Q0
theorem pe_wk {e : Expr} {t : TE} (h : PE X e t) : PE X e (tWk t) := ⟨fun pins s σ H Q I ⟨Q0, m, q⟩ => thn (h.run pins s σ H Q0 I q) fun v s1 ⟨x, H1, I1, r, q⟩ => ⟨x, H1, I1, r, m _ _ q⟩⟩
theorem ps_app {o e : Expr} {to te : TE} {apos cpos pos : Pos} (ho : PE X o to) (hb : attributeBase o "append" X.env (eval o X.env) = eval o X.env) (hh : headOk e = true) (he : PE X e te) (hl : (apos.endLine == cpos.line) = true) :
    PS X (.Expr (.Call (.Attribute o "append" apos) [e] [] cpos) pos) (rAppG to te) := by
  have hs : starEach [e] X.env = (false, eval e X.env) :: starEach [] X.env := star_of hh
  refine PS.imp (ps_expr (pe_bm (T := "list") (id := "list.append") F.plainAttrs_list F.slot_list_append F.type_list_append mt_append (pe_wk ho) (pa_cons (pe_wk he) pa_nil hs) hb (by rw [hs]; rfl) hl hs rfl)) fun D σ H h => ?_
  refine ⟨_, fun x H1 q => ?_, h⟩
  obtain ⟨⟨a, xs, rfl, ha⟩, h⟩ := q
  refine ⟨.inl ⟨rfl, xs, .inl (.inl ha)⟩, _, fun y H2 q => ?_, h⟩
  obtain ⟨l, xs, e, q1, q2, q3⟩ := q
  exact ⟨l, xs, y, e, rfl, q1, q2, q3⟩
end
section
variable {G : Gx} {W : WX} {Γ : Gm} {C C' : CallF} {g g1 g2 g' : Gh} {H H1 H2 H' : Hp} {σ σ' : L2.St} {s s1 s2 : S} {lk lk' : List Pl} {Q : VK} {D : Ends}
theorem last_get : ∀ {xs : List T} {x : T}, xs.getLast? = some x → xs[xs.length - 1]? = some x := by
  intro xs x h
  rw [List.getLast?_eq_getElem?] at h
  exact h
theorem Reps.last {xs : List T} {vs : List L2.V} {x : T} (h : Reps G g H xs vs) (hx : xs.getLast? = some x) : ∃ y, vs[vs.length - 1]? = some y ∧ Rep G g H .fz x y := by
  have hg := last_get hx
  rw [h.length] at hg
  exact h.get hg
theorem Reps.dropLast : ∀ {xs : List T} {vs : List L2.V}, Reps G g H xs vs → Reps G g H xs.dropLast vs.dropLast
  | _, _, .nil => .nil
  | [x], [v], .cons p .nil => .nil
  | x :: x' :: xs, v :: v' :: vs, .cons p (.cons p' r) => .cons p (Reps.dropLast (.cons p' r))
/-- a list in a slot of its own loses its last -/
theorem R.pop (r : R G g lk s σ H) {j : Nat} {xs : List T} {x : T} (hrd : rdPl lk (.sl j) s = some (.lst xs)) (hx : xs.getLast? = some x) :
    ∃ a vs y, σ[j]? = some (some (.ref a)) ∧ H a = some (.lst vs) ∧ vs[vs.length - 1]? = some y ∧ R G g lk (wrPl (.sl j) (.lst xs.dropLast) s) σ (upd H a (.lst vs.dropLast)) ∧ Keep g H g (upd H a (.lst vs.dropLast)) ∧ Rep G g (upd H a (.lst vs.dropLast)) .fz x y := by
  obtain ⟨hl, hi⟩ := rdPl_sl hrd
  obtain ⟨v, hv, pv⟩ := r.sl j _ _ hi (by decide)
  have pv : Rep G g H (plO lk (.sl j)) (.lst xs) v := pv
  rw [plO_out hl] at pv
  obtain ⟨a, vs, rfl, ha, hH, hz, rs⟩ := lst_inv pv
  obtain ⟨y, hy, py⟩ := rs.last hx
  have hold : Holds .fz g H g (upd H a (.lst vs.dropLast)) := fun b h => ⟨h, upd_ne fun z => by subst z; rw [ha] at h; cases h⟩
  obtain ⟨r2, k2⟩ := r.mutS (t' := .lst xs.dropLast) (u := .lst vs.dropLast) hi hv hl ha (.lst ha (show upd H a (.lst vs.dropLast) a = _ from upd_same) (by rw [List.length_dropLast]; omega) ((rs.dropLast).tr hold fun _ _ z => z)) (fun _ z => by cases z)
  exact ⟨a, vs, y, hv, hH, hy, r2, k2, py.tr hold (fun _ _ z => z) hold⟩
theorem pops_ok {i j : Nat} (h : tS G W Γ C C' (.pops i j) D σ H) : tAsg (tBM0 G.K "list" rPop (tVar j)) (gName i) D σ H := by
  obtain ⟨lk, g, s, hR, h⟩ := h
  rw [exec] at h
  split at h
  · rename_i xs hrd
    cases hx : xs.getLast? with
    | none => rw [hx] at h; exact h.elim
    | some x =>
      rw [hx] at h
      obtain ⟨a, vs, y, h1, h2, h3, r2, k2, p2⟩ := hR.pop hrd hx
      refine ⟨.ref a, h1, .inl ⟨rfl, vs, .inl (.inl h2)⟩, a, vs, y, rfl, rfl, h2, h3, ?_⟩
      have h : PostS G W lk g H (nxR (bindTg lk (.one i) (.fro, x) (wrPl (.sl j) (.lst xs.dropLast) s))) D := h
      show D.nx (σ.set i (some y)) _
      cases hb : bindTg lk (.one i) (.fro, x) (wrPl (.sl j) (.lst xs.dropLast) s) with
      | none => rw [hb] at h; exact h.elim
      | some s' =>
        rw [hb] at h
        exact bind_one (v := (.fro, x)) r2 p2 hb fun g' σ' H' r' k' => h g' σ' H' r' (k2.trans k')
  · exact h.elim
theorem popx_ok {j : Nat} (h : tS G W Γ C C' (.popx j) D σ H) : tDrop (tBM0 G.K "list" rPop (tVar j)) D σ H := by
  obtain ⟨lk, g, s, hR, h⟩ := h
  rw [exec] at h
  split at h
  · rename_i xs hrd
    cases hx : xs.getLast? with
    | none => rw [hx] at h; exact h.elim
    | some x =>
      rw [hx] at h
      obtain ⟨a, vs, y, h1, h2, h3, r2, k2, p2⟩ := hR.pop hrd hx
      exact ⟨.ref a, h1, .inl ⟨rfl, vs, .inl (.inl h2)⟩, a, vs, y, rfl, rfl, h2, h3, h g σ _ r2 k2⟩
  · exact h.elim
end
end Mi

/-! soundness: cls(..), a slot that holds a class; classmethods -/
namespace L2
open PySem PySem.Spec PyProof.Rows
section
variable {X : Cx} {CX : CXT} {k : Nat} {f C : Addr} {sp : Sp} {E : St → XK} {x : Str} {p pos : Pos} {e : Expr} {es : List Expr} {tv : TE} {t : TA}
theorem pe_makev (M : Mk X.K C f) (F : FnR X.prog X.w X.K X.mg X.base CX k f sp) (hr : Room (k + 1) X.A) (hv : PE X (.Name x p) tv) (hx : ∀ σ, PassesAt CX X σ (E σ)) (ha : PA X (e :: es) t)
    (he : starEach (e :: es) X.env = (false, eval e X.env) :: starEach es X.env) (hpl : (backTo pos (starEach es X.env)).any (·.1) = false) :
    PE X (.Call (.Name x p) (e :: es) [] pos) (fun σ H Q => tv σ H fun v H1 => v = .ref C ∧ tMakeRS C sp E t σ H1 Q) := by
  refine ⟨fun pins s σ H Q I h => ?_⟩
  refine wpAny_Call_Name_kw (thn (hv.run pins s σ H _ I h) fun u s1 ⟨v, H1, I1, rv, ev, q⟩ => ?_)
  subst ev
  obtain rfl : u = Value.ref C := rv
  refine PySem.W.callWith_K (h₀ := X.base) I.ok.mod.kin M.kp (thn (ha.run pos pins s1 σ H1 _ I1 q) fun us s2 ⟨vs, H2, I2, r, q2⟩ => ⟨I2.kIn, ?_⟩) he hpl
  exact run_makeRS M F hr (hx σ) I2 r q2
end
end L2
namespace Mi
open PySem PySem.Spec PyProof.Rows L2
section
variable {G : Gx} {W : WX} {Γ : Gm} {C C' : CallF} {g g1 g2 g' : Gh} {H H1 H2 H' : Hp} {σ σ' : L2.St} {s s1 s2 : S} {lk lk' : List Pl} {Q : VK} {D : Ends}
theorem cls_inv {o : Ow} {c : Nat} {v : L2.V} (h : Rep G g H o (.cls c) v) : ∃ a, v = .ref a ∧ G.A c = some a := by
  cases h with
  | cls h => exact ⟨_, rfl, h⟩
theorem makev_e {i : Nat} {as : List Ex} (h : tE G W Γ C C' (.makev i as) σ H Q) : ∃ c Cx, σ[i]? = some (some (.ref Cx)) ∧ G.A c = some Cx ∧ tE G W Γ C C' (.make c as) σ H Q := by
  obtain ⟨lk, g, s, hR, h⟩ := h
  rw [ev] at h
  cases er : rdVar lk i true s with
  | no => rw [er] at h; exact h.elim
  | exc c xs s2 => exact (rd_noexc er).elim
  | ok x s1 =>
    rw [er] at h
    obtain ⟨md, t⟩ := x
    cases t with
    | cls c =>
      obtain ⟨e2, mo, e3, hmx⟩ := rd_flat er rfl
      subst e2
      obtain ⟨w, q1, q2⟩ := hR.sl i mo _ e3 hmx
      obtain ⟨a, rfl, hA⟩ := cls_inv q2
      refine ⟨c, a, q1, hA, lk, g, s1, hR, ?_⟩
      rw [ev]
      exact h
    | _ => exact h.elim
/-- C.m(..), m a classmethod: the class is the first argument -/
theorem cmeth_e {f c : Nat} {Cx : Addr} {as : List Ex} (hA : G.A c = some Cx) (h : tE G W Γ C C' (.call f (.cst (.cls c) :: as) []) σ H Q) : tCMethRS Cx (spR G Γ C f) (WE W) (tC (.ref Cx)) (tEs G W Γ C C' as) σ H Q := by
  have h1 := evs_ok (call_e h)
  obtain ⟨lk, g, s, hR, h1⟩ := h1
  rw [ev] at h1
  exact ⟨rfl, Post.old hR h1 (.cls hA)⟩
end
end Mi

/-! soundness: from a def's promise by its parameters to the promise by positions (defaults filled in) -/
namespace Mi
open PySem PySem.Spec PyProof.Rows L2
section
variable {G : Gx} {Γ : Gm} {C : CallF}
theorem bind_plain {fd : Fn} {as l : List (Mo × T)} (hs : fd.star = false) (hk : fd.kw = []) (h : Mi.bindArgs fd as [] = some l) :
    as.length ≤ fd.ps.length ∧ fd.ps.length - as.length ≤ fd.nd.length ∧ l = as ++ (fd.nd.drop (fd.nd.length - (fd.ps.length - as.length))).map fun d => (Mo.fro, d) := by
  unfold Mi.bindArgs at h
  simp only [hs, hk, List.length_nil, Nat.sub_zero, List.take_length, Bool.false_eq_true, if_false, List.all_nil, if_true, List.map_nil, List.filterMap_nil, List.append_nil] at h
  split at h
  · cases h
  · rename_i h1
    split at h
    · rename_i h2
      cases h
      exact ⟨by omega, h2, rfl⟩
    · cases h
theorem paired_app {α β : Type} {F : α → β → Prop} : ∀ {xs : List α} {ys : List β} {xs' : List α} {ys' : List β}, Paired F xs ys → Paired F xs' ys' → Paired F (xs ++ xs') (ys ++ ys')
  | _, _, _, _, .nil, q => q
  | _, _, _, _, .cons h p, q => .cons h (paired_app p q)
theorem paired_drop {α β : Type} {F : α → β → Prop} : ∀ {xs : List α} {ys : List β} (n : Nat), Paired F xs ys → Paired F (xs.drop n) (ys.drop n)
  | _, _, 0, p => p
  | _, _, _ + 1, .nil => .nil
  | _, _, n + 1, .cons _ p => paired_drop n p
theorem vals_drop : ∀ {xs : List L2.V} {us : List Value} (n : Nat), Vals xs us → Vals (xs.drop n) (us.drop n)
  | _, _, 0, p => p
  | _, _, _ + 1, .nil => .nil
  | _, _, n + 1, .cons _ p => vals_drop n p
/-- a def without a rest and without keywords of its own -/
theorem fnR_of {P : PySem.Program} {w : World} {K : PySem.W.Frag} {mg : Str → Option Value} {base : Heap} {CX : CXT} {k f : Nat} {a : Addr} {fdD : FuncData} {psS : List Str} {fd : Fn} {dvs : List L2.V} {dus : List Value} (hfd : Γ.fn f = some fd) (hs : fd.star = false) (hk : fd.kw = [])
    (F : FnOk P w K mg base CX k a fdD psS (spC G C f fd.ps.length)) (hd : ∀ g H, Paired (fun t v => Rep G g H .fz t v) fd.nd dvs) (hv : Vals dvs dus) (hb : ∀ j, Binds K fdD psS (dus.drop j)) : FnR P w K mg base CX k a (spR G Γ C f) := by
  intro A outer s H us vs Q E hr e0 r hsp
  obtain ⟨g, lk, hp, args, hl, hR, hlk, hpa, hno, hpost⟩ := hsp
  have hpost' := hpost
  unfold callA callAK at hpost'
  rw [hfd] at hpost'
  dsimp only at hpost'
  cases eb : Mi.bindArgs fd args [] with
  | none => rw [eb] at hpost'; exact hpost'.elim
  | some l =>
    rw [eb] at hpost'
    obtain ⟨h1, h2, rfl⟩ := bind_plain hs hk eb
    have al : args.length = vs.length := Paired.len hpa
    have dl : fd.nd.length = dvs.length := Paired.len (hd g H)
    refine FnOk.raw F (hb (fd.nd.length - (fd.ps.length - args.length))) (vals_drop _ hv) A outer s H us vs Q E hr e0 r ⟨g, lk, hp, _, ?_, hR, hlk, paired_app hpa ?_, fun q hq => ?_, hpost'⟩
    · rw [List.length_append, List.length_drop, ← dl, ← al]; omega
    · have pd := paired_drop (fd.nd.length - (fd.ps.length - args.length)) (hd g H)
      generalize fd.nd.drop (fd.nd.length - (fd.ps.length - args.length)) = ts at pd
      generalize dvs.drop (fd.nd.length - (fd.ps.length - args.length)) = ws at pd
      induction pd with
      | nil => exact .nil
      | cons h _ ih => exact .cons h ih
    · rcases List.mem_append.mp hq with z | z
      · exact hno q z
      · obtain ⟨d, _, rfl⟩ := List.mem_map.mp z
        rfl
end
end Mi

/-! soundness: a def's body -/
namespace Mi
open PySem PySem.Spec PyProof.Rows L2
section
variable {G : Gx} {W : WX} {Γ : Gm} {C C' : CallF} {g g1 g2 g' : Gh} {H H1 H2 H' : Hp} {σ σ' : L2.St} {s s1 s2 : S} {lk lk' : List Pl} {Q : VK} {D : Ends}
theorem R.bare (r : R G g lk s σ H) : RH G g lk s.hp H := ⟨r.dom, rfl, fun i mo t h => by simp at h, r.ml, r.bx, r.uq, r.li, fun i t h => by simp at h, r.tq⟩
theorem paired_get {α β : Type} {F : α → β → Prop} : ∀ {xs : List α} {ys : List β} {i : Nat} {x : α}, Paired F xs ys → xs[i]? = some x → ∃ y, ys[i]? = some y ∧ F x y
  | _, _, _, _, .nil, e => by simp at e
  | _, _, 0, _, .cons h _, e => by simp at e; subst e; exact ⟨_, rfl, h⟩
  | _, _, i + 1, x, .cons _ r, e => by
    obtain ⟨v, h1, h2⟩ := paired_get (i := i) (x := x) r (by simpa using e)
    exact ⟨v, by simpa using h1, h2⟩
/-- the state at the start of a body -/
theorem R.start {hp : List Bx} {args : List (Mo × T)} {vs : List L2.V} {n : Nat} (r : RH G g lk hp H) (hl : ∀ p ∈ lk, p.isFd = true) (p : Paired (fun (a : Mo × T) v => Rep G g H (parO a.1) a.2 v) args vs) (hno : ∀ a ∈ args, a.1.arg = true) (hn : args.length ≤ n) :
    R G g lk ⟨args.map some ++ List.replicate (n - args.length) none, hp⟩ (vs.map some ++ List.replicate (n - vs.length) none) H := by
  have al : args.length = vs.length := Paired.len p
  refine ⟨r.dom, by simp [al], fun i mo t h hx => ?_, r.ml, r.bx, r.uq, r.li, fun i t h => ?_, r.tq⟩
  rotate_left
  · exfalso
    have h : (args.map some ++ List.replicate (n - args.length) none)[i]? = some (some (.xc, t)) := h
    by_cases hi : i < args.length
    · rw [List.getElem?_append_left (by rw [List.length_map]; exact hi), List.getElem?_map] at h
      obtain ⟨q, h1, h2⟩ := Option.map_eq_some_iff.mp h
      cases h2
      have := hno _ (List.mem_of_getElem? h1)
      cases this
    · rw [List.getElem?_append_right (by rw [List.length_map]; omega)] at h
      rw [List.getElem?_replicate] at h
      split at h <;> cases h
  have h : (args.map some ++ List.replicate (n - args.length) none)[i]? = some (some (mo, t)) := h
  by_cases hi : i < args.length
  · rw [List.getElem?_append_left (by rw [List.length_map]; exact hi), List.getElem?_map] at h
    obtain ⟨q, h1, h2⟩ := Option.map_eq_some_iff.mp h
    cases h2
    obtain ⟨v, h3, h4⟩ := paired_get p h1
    refine ⟨v, ?_, ?_⟩
    · rw [List.getElem?_append_left (by rw [List.length_map, ← al]; exact hi), List.getElem?_map, h3]; rfl
    · have := hno _ (List.mem_of_getElem? h1)
      cases mo with
      | own => cases this
      | xc => cases this
      | fro => exact h4
      | bor => exact h4
  · exfalso
    rw [List.getElem?_append_right (by rw [List.length_map]; omega)] at h
    rw [List.getElem?_replicate] at h
    split at h <;> cases h
theorem body_ok {m f : Nat} {fd : Fn} {vs : List L2.V} {E : XK} {n : Nat} (hfd : Γ.fn f = some fd) (hn : n ≤ fd.nl) (h : spC G (callN Γ (m + 2)) f n vs H Q E) :
    tSs G (fun cls d _ H' => E cls d H') Γ (callN Γ (m + 1)) (callN Γ m) fd.body { nx := fun _ H' => Q .non H', rt := Q } (vs.map some ++ List.replicate (fd.nl - vs.length) none) H := by
  obtain ⟨g, lk, hp, args, hl, hR, hlk, hpa, hno, hpost⟩ := h
  have al : args.length = vs.length := Paired.len hpa
  refine ⟨lk, g, _, R.start (n := fd.nl) hR hlk hpa hno (by omega), ?_⟩
  have hpost : PostC G lk g H ((match Γ.fn f with
    | some fd => (execs Γ (callN Γ (m + 1)) (callN Γ m) lk fd.body ⟨args.map some ++ List.replicate (fd.nl - args.length) none, hp⟩).bind fun r s =>
      match r with
      | .nx => .ok (.fro, .non) s
      | .ret v => .ok v s
      | _ => .no
    | none => .no : Res V)) Q E := hpost
  rw [hfd] at hpost
  dsimp only at hpost
  cases er : execs Γ (callN Γ (m + 1)) (callN Γ m) lk fd.body ⟨args.map some ++ List.replicate (fd.nl - args.length) none, hp⟩ with
  | no => rw [er] at hpost; exact hpost.elim
  | exc c xs s' =>
    rw [er] at hpost
    exact fun g' σ' H' cls d r k ex => hpost g' H' cls d r.bare k ex
  | ok r s' =>
    rw [er] at hpost
    intro g' σ' H' r' k'
    cases r with
    | nx => exact hpost g' H' .non r'.bare k' .non rfl
    | ret v => exact fun x p st => hpost g' H' x r'.bare k' p st
    | brk => exact hpost.elim
    | cont => exact hpost.elim
end
end Mi

/-! rules: the operators of plain instances; what is raised is wished for at the caller's slots -/
namespace L2
open PySem PySem.Spec PyProof.Rows
/-- as OpR, at the slots -/
def OpRS (X : Cx) (f : Value → Value → Sem Value) (r : St → R2) : Prop :=
  ∀ (pins : List (Addr × Obj)) (s : Shared) (σ : St) (H : Hp) (x y : V) (v u : Value) (Q : VK), Inv X pins σ H s → RelV x v → RelV y u → r σ x y H Q →
    wpAny (model X.prog X.w) X.A (f v u) (EP X pins σ Q) X.xe s
def IxRS (X : Cx) (r : St → R2) : Prop :=
  ∀ (value slice : Expr) (pins : List (Addr × Obj)) (s : Shared) (σ : St) (H : Hp) (x y : V) (v u : Value) (Q : VK), Inv X pins σ H s → RelV x v → RelV y u → r σ x y H Q →
    subscripted slice false v u = operate [v, u] (getItem v u) → subscripted slice true v u = runValue (.builtin "lifetime.subscript" ⟨[v, u], []⟩) → wpAny (model X.prog X.w) X.A (subscriptTail value slice v u) (EP X pins σ Q) X.xe s
def CallRS (X : Cx) (f : Value) (r : St → List V → Hp → VK → Prop) : Prop :=
  ∀ (pins : List (Addr × Obj)) (s : Shared) (σ : St) (H : Hp) (xs : List V) (us : List Value) (Q : VK), Inv X pins σ H s → Vals xs us → r σ xs H Q →
    wpAny (model X.prog X.w) X.A (call f us) (EP X pins σ Q) X.xe s
section
variable {X : Cx} {CX : CXT} {k : Nat} {C g : Addr} {sp : Sp} {E : St → XK} {f : Value → Value → Sem Value} {a b e : Expr} {ta tb : TE} {pos : Pos}
theorem OpR.at {r : R2} (h : OpR X f r) : OpRS X f fun _ => r := fun pins s σ H x y v u Q I rx ry q => h pins s σ H x y v u Q I rx ry q
theorem OpRS.or {r r' : St → R2} (h : OpRS X f r) (h' : OpRS X f r') : OpRS X f fun σ x y H Q => r σ x y H Q ∨ r' σ x y H Q := fun pins s σ H x y v u Q I rx ry q =>
  q.elim (h pins s σ H x y v u Q I rx ry) (h' pins s σ H x y v u Q I rx ry)
theorem OpRS.ex {α : Type} {r : α → St → R2} (h : ∀ i, OpRS X f (r i)) : OpRS X f fun σ x y H Q => ∃ i, r i σ x y H Q := fun pins s σ H x y v u Q I rx ry ⟨i, q⟩ => h i pins s σ H x y v u Q I rx ry q
theorem IxR.at {r : R2} (h : IxR X r) : IxRS X fun _ => r := fun value slice pins s σ H x y v u Q I rx ry q hs _ => h value slice pins s σ H x y v u Q I rx ry q hs
theorem IxRS.or {r r' : St → R2} (h : IxRS X r) (h' : IxRS X r') : IxRS X fun σ x y H Q => r σ x y H Q ∨ r' σ x y H Q := fun va sl pins s σ H x y v u Q I rx ry q =>
  q.elim (h va sl pins s σ H x y v u Q I rx ry) (h' va sl pins s σ H x y v u Q I rx ry)
theorem CallR.at {fv : Value} {r : List V → Hp → VK → Prop} (h : CallR X fv r) : CallRS X fv fun _ => r := fun pins s σ H xs us Q I r q => h pins s σ H xs us Q I r q
theorem CallRS.or {fv : Value} {r r' : St → List V → Hp → VK → Prop} (h : CallRS X fv r) (h' : CallRS X fv r') : CallRS X fv fun σ xs H Q => r σ xs H Q ∨ r' σ xs H Q := fun pins s σ H xs us Q I rv q =>
  q.elim (h pins s σ H xs us Q I rv) (h' pins s σ H xs us Q I rv)
def tOpS (r : St → R2) (ta tb : TE) : TE := fun σ H Q => ta σ H fun x H1 => tb σ H1 fun y H2 => r σ x y H2 Q
theorem pe_opS {op : Operator} {r : St → R2} (ho : OpRS X (binaryOp op) r) (ha : PE X a ta) (hb : PE X b tb) : PE X (.BinOp a op b pos) (tOpS r ta tb) := by
  refine ⟨fun pins s σ H Q I h => ?_⟩
  exact wpAny_BinOp (binT ha hb I h fun v u s2 x y H2 I2 rx ry q => ho pins s2 σ H2 x y v u Q I2 rx ry q)
theorem pe_cmpS {op : CmpOp} {r : St → R2} (ho : OpRS X (compareOp op) r) (ha : PE X a ta) (hb : PE X b tb) (hm : behindInMarks op b = false) : PE X (.Compare a [op] [b] pos) (tOpS r ta tb) := by
  refine ⟨fun pins s σ H Q I h => ?_⟩
  exact wpAny_Compare1 (binT ha hb I h fun v u s2 x y H2 I2 rx ry q => ho pins s2 σ H2 x y v u Q I2 rx ry q) hm
theorem pt_cmpS {op : CmpOp} {r : St → R2} (ho : OpRS X (compareOp op) r) (ha : PE X a ta) (hb : PE X b tb) (hm : behindInMarks op b = false) : PT X (.Compare a [op] [b] pos) (tTest (tOpS r ta tb)) := by
  refine ⟨fun pins s σ H Q I h => ?_⟩
  refine wpAny_isTrue_Compare1 (thn (ha.run pins s σ H _ I h) fun v s1 ⟨x, H1, I1, r1, q1⟩ => thn (hb.run pins s1 σ H1 _ I1 q1) fun u s2 ⟨y, H2, I2, r2, q2⟩ =>
    thn (ho pins s2 σ H2 x y v u _ I2 r1 r2 q2) fun c s3 ⟨z, H3, I3, r3, k, e, q3⟩ => ?_) hm
  subst e
  cases r3
  exact wpAny_truthy_bool ⟨H3, I3, q3⟩
/-- a comparison as a test, its answer by its truth -/
theorem pt_cmpV {op : CmpOp} {r : St → R2} (ho : OpRS X (compareOp op) r) (ha : PE X a ta) (hb : PE X b tb) (hm : behindInMarks op b = false) : PT X (.Compare a [op] [b] pos) (fun σ H Q => tOpS r ta tb σ H fun x H' => ∃ k, TruV X.K x H' k ∧ Q k H') := by
  refine ⟨fun pins s σ H Q I h => ?_⟩
  refine wpAny_isTrue_Compare1 (thn (ha.run pins s σ H _ I h) fun v s1 ⟨x, H1, I1, r1, q1⟩ => thn (hb.run pins s1 σ H1 _ I1 q1) fun u s2 ⟨y, H2, I2, r2, q2⟩ =>
    thn (ho pins s2 σ H2 x y v u _ I2 r1 r2 q2) fun c s3 ⟨z, H3, I3, r3, q3⟩ => ?_) hm
  exact tru_ok pins s3 σ H3 z c Q I3 r3 q3
theorem pe_ixS {r : St → R2} (hr : IxRS X r) (ha : PE X a ta) (hb : PE X b tb) (hs : PlainIx b) (hs' : ∀ o i, subscripted b true o i = runValue (.builtin "lifetime.subscript" ⟨[o, i], []⟩)) : PE X (.Subscript a b pos) (tOpS r ta tb) := by
  refine ⟨fun pins s σ H Q I h => ?_⟩
  exact Subscript_ (binT ha hb I h fun v u s2 x y H2 I2 rx ry q => hr a b pins s2 σ H2 x y v u Q I2 rx ry q (hs _ _) (hs' _ _))
def tCBS (r : St → List V → Hp → VK → Prop) (t : TA) : TE := fun σ H Q => t σ H fun vs H1 => r σ vs H1 Q
theorem pe_callBS {x : Str} {p : Pos} {es : List Expr} {t : TA} {id : String} {r : St → List V → Hp → VK → Prop} (hc : CallRS X (.builtin id) r) (hg : Gl X x) (hm : X.mg x = none) (hv : bootBuiltins x = some (.builtin id)) (ha : PA X (e :: es) t) (hn : x ≠ "__name__") (hdb : (x == ("__debug__" : Str)) = false)
    (he : starEach (e :: es) X.env = (false, eval e X.env) :: starEach es X.env) (hpl : (backTo pos (starEach es X.env)).any (·.1) = false) : PE X (.Call (.Name x p) (e :: es) [] pos) (tCBS r t) := by
  refine ⟨fun pins s σ H Q I h => ?_⟩
  refine wpAny_Call_Name_kw (ld_blt I hg hm hv ?_ hn hdb)
  exact PyProof.Rows.callWith_builtin1 (thn (ha.run pos pins s σ H _ I h) fun us s1 ⟨vs, H1, I1, r1, q1⟩ => hc pins s1 σ H1 vs us Q I1 r1 q1) he hpl
theorem pe_callTyS {x : Str} {p : Pos} {es : List Expr} {t : TA} {T : String} {r : St → List V → Hp → VK → Prop} (hc : CallRS X (.type T) r) (hg : Gl X x) (hm : X.mg x = none) (hv : bootBuiltins x = some (.type T)) (ha : PA X (e :: es) t) (hn : x ≠ "__name__") (hdb : (x == ("__debug__" : Str)) = false)
    (he : starEach (e :: es) X.env = (false, eval e X.env) :: starEach es X.env) (hpl : (backTo pos (starEach es X.env)).any (·.1) = false) : PE X (.Call (.Name x p) (e :: es) [] pos) (tCBS r t) := by
  refine ⟨fun pins s σ H Q I h => ?_⟩
  refine wpAny_Call_Name_kw (ld_blt I hg hm hv ?_ hn hdb)
  exact PyProof.Rows.callWith_type1 (thn (ha.run pos pins s σ H _ I h) fun us s1 ⟨vs, H1, I1, r1, q1⟩ => hc pins s1 σ H1 vs us Q I1 r1 q1) he hpl

/-- what an operator's method of the class C is -/
structure OpM (K : PySem.W.Frag) (C : Addr) (m : Str) (g : Addr) : Prop where
  at_ : PySem.W.findIn K (.ref C) m = some (some (.ref g))
  fn : PySem.W.isFn K (.ref g) = true
  fi : PySem.W.fnIn K g = true
/-- the callee runs, at some depth of the running body -/
theorem run_rsA {A : Around} {pins : List (Addr × Obj)} {σ : St} {H : Hp} {s : Shared} {Q : VK} {us : List Value} {vs : List V} {EE : XK} (F : FnR X.prog X.w X.K X.mg X.base CX k g sp) (hr : Room k A) (e0 : Env0 X.prog X.w X.K X.mg X.base A X.stack s H) (hx : PassesAt CX X σ EE)
    (I : Inv X pins σ H s) (r : Vals vs us) (h : sp vs H Q EE) : codeAny (model X.prog X.w) A (.call (.ref g) ⟨us, []⟩) (fun r s' => match r with | .ok (.ret v) => EP X pins σ Q v s' | .ok _ => False | .error e => X.xe e s') s := by
  refine codeAny_mono (F A X.stack s H us vs Q EE hr e0 r h) fun r s' hq => ?_
  cases r with
  | error e => exact hx pins H s e s' I hq
  | ok fl =>
    cases fl with
    | ret u => exact I.after hq
    | next => exact False.elim hq
    | brk => exact False.elim hq
    | cont => exact False.elim hq
/-- x op y, both instances of C -/
def rOpB (C : Addr) (sp : Sp) (E : St → XK) : St → R2 := fun σ x y H Q => ∃ a dx fs b dy ws, x = .ref a ∧ y = .ref b ∧ H a = some (.ins C dx fs) ∧ H b = some (.ins C dy ws) ∧ sp [x, y] H Q (E σ)
theorem op_binB {op : Operator} (M : OpM X.K C (PySem.dunder op.info.2) g) (hc : PySem.W.selfFirst X.K C = true) (F : FnR X.prog X.w X.K X.mg X.base CX k g sp) (hr : Room k X.A) (hx : ∀ σ, PassesAt CX X σ (E σ)) : OpRS X (binaryOp op) (rOpB C sp E) := by
  intro pins s σ H x y v u Q I rx ry h
  obtain ⟨a, dx, fs, b, dy, ws, rfl, rfl, ha, hb, q⟩ := h
  cases (show v = Value.ref a from rx)
  cases (show u = Value.ref b from ry)
  obtain ⟨_, O, _⟩ := ins_get I.hok ha
  obtain ⟨_, O', _⟩ := ins_get I.hok hb
  obtain ⟨_, J, _⟩ := O.look
  obtain ⟨_, J', _⟩ := O'.look
  obtain ⟨m, hF⟩ := I.fr
  refine PySem.W.binop_K (op := op) hF I.ok.mod.kin J J'.type hc M.at_ M.fn ?_
  refine wpAny_mono (wpAny_call (run_rsA (us := [.ref a, .ref b]) (vs := [.ref a, .ref b]) F hr I.env0 (hx σ) I (.cons rfl (.cons rfl .nil)) q)) (fun w s' z => ?_) fun _ _ x => x
  obtain ⟨z', H', I', rz, qz⟩ := z
  exact SlX.cmpback rz ⟨z', H', I', rz, qz⟩
theorem op_cmpB {op : CmpOp} (hop : ∀ a b, compareOp op a b = richCompare op a b) (M : OpM X.K C (cmpInfo op).2.1 g) (F : FnR X.prog X.w X.K X.mg X.base CX k g sp) (hr : Room k X.A) (hx : ∀ σ, PassesAt CX X σ (E σ)) : OpRS X (compareOp op) (rOpB C sp E) := by
  intro pins s σ H x y v u Q I rx ry h
  obtain ⟨a, dx, fs, b, dy, ws, rfl, rfl, ha, hb, q⟩ := h
  cases (show v = Value.ref a from rx)
  cases (show u = Value.ref b from ry)
  obtain ⟨_, O, _⟩ := ins_get I.hok ha
  obtain ⟨_, O', _⟩ := ins_get I.hok hb
  obtain ⟨_, J, _⟩ := O.look
  obtain ⟨_, J', _⟩ := O'.look
  obtain ⟨m, hF⟩ := I.fr
  rw [hop]
  refine PySem.W.cmp_K (op := op) (tb := .ref C) hr.units0 hF I.ok.mod.kin J J'.type (by unfold PySem.W.notFirst; rw [beq_self_eq_true]; rfl) M.at_ M.fn ?_
  refine wpAny_mono (wpAny_call (run_rsA (us := [.ref a, .ref b]) (vs := [.ref a, .ref b]) F hr I.env0 (hx σ) I (.cons rfl (.cons rfl .nil)) q)) (fun w s' z => ?_) fun _ _ x => x
  obtain ⟨z', H', I', rz, qz⟩ := z
  exact SlX.cmpback rz ⟨z', H', I', rz, qz⟩
/-- x in o, o an instance of C whose __contains__ answers a bool -/
def rInB (n : Bool) (C : Addr) (sp : Sp) (E : St → XK) : St → R2 := fun σ x y H Q => ∃ a dx fs, y = .ref a ∧ H a = some (.ins C dx fs) ∧ sp [y, x] H (fun z H' => ∃ b, z = .bl b ∧ Q (.bl (if n then !b else b)) H') (E σ)
theorem op_inB (M : OpM X.K C "__contains__" g) (F : FnR X.prog X.w X.K X.mg X.base CX k g sp) (hr : Room k X.A) (hx : ∀ σ, PassesAt CX X σ (E σ)) : OpRS X (compareOp .In) (rInB false C sp E) := by
  intro pins s σ H x y v u Q I rx ry h
  obtain ⟨a, dx, fs, rfl, ha, q⟩ := h
  cases (show u = Value.ref a from ry)
  obtain ⟨_, O, _⟩ := ins_get I.hok ha
  obtain ⟨_, J, _⟩ := O.look
  obtain ⟨m, hF⟩ := I.fr
  refine PySem.W.in_K hF I.ok.mod.kin J M.at_ M.fn ?_
  refine wpAny_mono (wpAny_call (run_rsA (us := [.ref a, v]) (vs := [.ref a, x]) F hr I.env0 (hx σ) I (.cons rfl (.cons rx .nil)) q)) (fun w s' z => ?_) fun _ _ x => x
  obtain ⟨z', H', I', rz, b, rfl, qz⟩ := z
  cases rz
  exact wpAny_truthy_bool ⟨.bl b, H', I', rfl, qz⟩
theorem op_ninB (M : OpM X.K C "__contains__" g) (F : FnR X.prog X.w X.K X.mg X.base CX k g sp) (hr : Room k X.A) (hx : ∀ σ, PassesAt CX X σ (E σ)) : OpRS X (compareOp .NotIn) (rInB true C sp E) := by
  intro pins s σ H x y v u Q I rx ry h
  obtain ⟨a, dx, fs, rfl, ha, q⟩ := h
  cases (show u = Value.ref a from ry)
  obtain ⟨_, O, _⟩ := ins_get I.hok ha
  obtain ⟨_, J, _⟩ := O.look
  obtain ⟨m, hF⟩ := I.fr
  refine PySem.W.notIn_K hF I.ok.mod.kin J M.at_ M.fn ?_
  refine wpAny_mono (wpAny_call (run_rsA (us := [.ref a, v]) (vs := [.ref a, x]) F hr I.env0 (hx σ) I (.cons rfl (.cons rx .nil)) q)) (fun w s' z => ?_) fun _ _ x => x
  obtain ⟨z', H', I', rz, b, rfl, qz⟩ := z
  cases rz
  exact wpAny_truthy_bool ⟨.bl (!b), H', I', rfl, qz⟩
/-- o[i] -/
def rIxB (C : Addr) (sp : Sp) (E : St → XK) : St → R2 := fun σ x y H Q => ∃ a dx fs, x = .ref a ∧ H a = some (.ins C dx fs) ∧ sp [x, y] H Q (E σ)
theorem ix_B (M : OpM X.K C "__getitem__" g) (F : FnR X.prog X.w X.K X.mg X.base CX k g sp) (hr : Room (k + 1) X.A) (hx : ∀ σ, PassesAt CX X σ (E σ)) : IxRS X (rIxB C sp E) := by
  intro value slice pins s σ H x y v u Q I rx ry h hs hs'
  obtain ⟨a, dx, fs, rfl, ha, q⟩ := h
  cases (show v = Value.ref a from rx)
  obtain ⟨_, O, _⟩ := ins_get I.hok ha
  obtain ⟨_, J, _⟩ := O.look
  obtain ⟨m, hF⟩ := I.fr
  refine PySem.W.sub_K hF I.ok.mod.kin J M.at_ M.fi M.fn ?_ hs'
  exact wpAny_call (run_rsA (us := [.ref a, u]) (vs := [.ref a, y]) F hr.in1 I.env0.in1 (hx σ) I (.cons rfl (.cons ry .nil)) q)
/-- len(o) -/
def rLenB (C : Addr) (sp : Sp) (E : St → XK) : St → List V → Hp → VK → Prop := fun σ xs H Q => ∃ a dx fs, xs = [.ref a] ∧ H a = some (.ins C dx fs) ∧ sp [.ref a] H (fun z H' => ∃ i, z = .int i ∧ 0 ≤ i ∧ i < 2 ^ 63 ∧ Q z H') (E σ)
theorem cr_lenB (M : OpM X.K C "__len__" g) (F : FnR X.prog X.w X.K X.mg X.base CX k g sp) (hr : Room (k + 1) X.A) (hx : ∀ σ, PassesAt CX X σ (E σ)) : CallRS X (.builtin "len") (rLenB C sp E) := by
  intro pins s σ H xs us Q I r h
  obtain ⟨a, dx, fs, rfl, ha, q⟩ := h
  obtain ⟨u, rfl, ru⟩ := r.one
  cases (show u = Value.ref a from ru)
  obtain ⟨_, O, _⟩ := ins_get I.hok ha
  obtain ⟨_, J, _⟩ := O.look
  obtain ⟨m, hF⟩ := I.fr
  refine PySem.W.len_K hF I.ok.mod.kin J M.at_ M.fn ?_
  refine wpAny_mono (wpAny_call (run_rsA (us := [.ref a]) (vs := [.ref a]) F hr.in1 I.env0.in1 (hx σ) I (.cons rfl .nil) q)) (fun w s' z => ?_) fun _ _ x => x
  obtain ⟨z', H', I', rz, i, rfl, h0, h1, qz⟩ := z
  obtain ⟨t, e⟩ := (show ∃ t, w = Value.int i t from rz)
  subst e
  exact ⟨⟨h0, h1⟩, ⟨.int i, H', I'.tok _, ⟨_, rfl⟩, qz⟩⟩
end
end L2

/-! soundness: operators, with those of boxes -/
namespace Mi
open PySem PySem.Spec PyProof.Rows L2
section
variable {G : Gx} {W : WX} {Γ : Gm} {C C' : CallF} {g g1 g2 g' : Gh} {H H1 H2 H' : Hp} {σ σ' : L2.St} {s s1 s2 : S} {lk lk' : List Pl} {Q : VK}
theorem argOk_fd {x : V} (h : argOk x = true) : (lks x ++ lk).filter Pl.isFd = lk.filter Pl.isFd := by
  obtain ⟨md, t⟩ := x
  unfold lks
  split
  · rename_i hc
    cases md with
    | own => rfl
    | fro => rfl
    | bor op =>
      cases op with
      | none => rfl
      | some p =>
        cases p with
        | sl i => rfl
        | fd n f =>
          have h : (!isCont t) = true := h
          rw [hc] at h; cases h
  · rfl
theorem methR_lk {x : V} {n m : Nat} {as : List (Mo × T)} (h : argOk x = true) : methR Γ C (lks x ++ lk) n m as s = methR Γ C lk n m as s := by
  unfold methR callB callR
  simp only [argOk_fd h]
theorem meth_box {n m : Nat} {as : List V} {xs : List L2.V} {vx : L2.V} {o : Ow} (r : R G g lk s σ H) (hx : Rep G g H o (.box n) vx) (p : RepL G g H lk as xs) (ha : argsOk' as = true) (h : Post G W lk g σ H (methR Γ C lk n m (as.map parOf) s) Q) :
    ∃ c f Cx a dx fs, (∃ bx, s.hp[n]? = some bx ∧ bx.cls = c) ∧ c ≠ 0 ∧ Γ.meth c m = some f ∧ G.A c = some Cx ∧ vx = .ref a ∧ H a = some (.ins Cx dx fs) ∧ spR G Γ C f (vx :: xs) H Q (WE W σ) := by
  unfold methR at h
  cases hb : s.hp[n]? with
  | none => rw [hb] at h; exact h.elim
  | some bx =>
    rw [hb] at h
    have hc : bx.cls ≠ 0 := fun z => by simp only [if_pos z] at h; exact h.elim
    simp only [if_neg hc] at h
    cases hf : Γ.meth bx.cls m with
    | none => simp only [hf] at h; exact h.elim
    | some f =>
      simp only [hf] at h
      obtain ⟨a, Cx, dx, fs, rfl, hm, _, hA, hH, _⟩ := box_at r hx hb hc
      rw [callB_eq] at h
      refine ⟨bx.cls, f, Cx, a, dx, fs, ⟨bx, rfl, rfl⟩, hc, hf, hA, rfl, hH, ?_⟩
      have hm' : (g.retag toCall).m[n]? = some a := hm
      refine call_sp (args := (.fro, .box n) :: as.map parOf) r (.cons (.box hm') (args_call p ha)) rfl (fun q hq => ?_) h
      rcases List.mem_cons.mp hq with rfl | hq
      · rfl
      · exact map_own q hq
/-- the methods' names -/
def opN : Nat → Str
  | 0 => "__init__" | 1 => "__and__" | 2 => "__or__" | 3 => "__contains__" | 4 => "__le__" | 5 => "__getitem__" | 6 => "__len__" | 7 => "__iter__"
  | n => ⟨(dec n).toArray⟩
/-- a reading for some class that has the method m -/
def anyB (G : Gx) (Γ : Gm) (C : CallF) (m : Nat) (r : Addr → Sp → L2.V → L2.V → Hp → VK → Prop) : L2.V → L2.V → Hp → VK → Prop := fun x y H Q => ∃ c f Cx, c ≠ 0 ∧ Γ.meth c m = some f ∧ G.A c = some Cx ∧ r Cx (spR G Γ C f) x y H Q
def opC : Op → Nat
  | .band => 1
  | .bor => 2
  | _ => 0
def rBinS (G : Gx) (W : WX) (Γ : Gm) (C' : CallF) (o : Op) : L2.St → R2 := fun σ x y H Q => rBin G.K o x y H Q ∨ (o.flat = false ∧ anyB G Γ C' (opC o) (fun Cx sp => rOpB Cx sp (WE W) σ) x y H Q)
theorem one_repl {y : V} {vy : L2.V} (hy : Rep G g H (pO lk y.1) y.2 vy) : RepL G g H lk [y] [vy] := .cons hy .nil
theorem binS_ok {o : Op} {x y : V} {vx vy : L2.V} (hR : R G g lk s σ H) (hx : Rep G g H (pO lk x.1) x.2 vx) (hy : Rep G g H (mdO lk y.1) y.2 vy)
    (h : Post G W lk g σ H (binR Γ C' lk o x y s) Q) : rBinS G W Γ C' o σ vx vy H Q := by
  cases ho : o.flat with
  | true => exact .inl (bin_ok ho hR hx hy h)
  | false =>
    refine .inr ⟨ho, ?_⟩
    unfold binR at h
    have bx : ∀ {n m : Nat}, x.2 = .box n → y.2 = .box m → Post G W lk g σ H (if sameC n m s then methR Γ C' lk n (opC o) [(.fro, .box m)] s else .no) Q → anyB G Γ C' (opC o) (fun Cx sp => rOpB Cx sp (WE W) σ) vx vy H Q := by
      intro n m e1 e2 h
      rw [e1] at hx
      rw [e2] at hy
      split at h
      · rename_i hs
        have hy' : Rep G g H .fz (.box m) vy := hy.free rfl
        obtain ⟨c, f, Cx, a, dx, fs, ⟨bx, hb, ec⟩, h1, h2, h3, rfl, h4, h5⟩ := meth_box (as := [(.fro, .box m)]) hR hx (.cons hy' .nil) rfl h
        unfold sameC at hs
        rw [hb] at hs
        cases hb2 : s.hp[m]? with
        | none => rw [hb2] at hs; cases hs
        | some b2 =>
          rw [hb2] at hs
          simp only [Bool.and_eq_true, beq_iff_eq] at hs
          obtain ⟨a2, C2, dx2, fs2, rfl, _, _, hA2, hH2, _⟩ := box_at hR hy' hb2 (by rw [← hs.1]; simpa using hs.2)
          rw [← hs.1, ec, h3] at hA2
          cases hA2
          exact ⟨c, f, Cx, h1, h2, h3, a, dx, fs, a2, dx2, fs2, rfl, rfl, h4, hH2, h5⟩
      · exact h.elim
    cases o with
    | band =>
      split at h
      all_goals try (rename_i e1 e2; first | exact bx e1 e2 h | skip)
      all_goals first
        | exact h.elim
        | (simp only [opI] at h; exact h.elim)
        | (split at h <;> first | exact h.elim | (rename_i hc; exact absurd hc.1 (by decide)))
    | bor =>
      split at h
      all_goals try (rename_i e1 e2; first | exact bx e1 e2 h | skip)
      all_goals first
        | exact h.elim
        | (simp only [opI] at h; exact h.elim)
        | (split at h <;> first | exact h.elim | (rename_i hc; exact absurd hc.1 (by decide)))
    | _ => cases ho
end
end Mi

/-! walking a dict: it stands frozen meanwhile -/
namespace L2
open PySem PySem.Spec PyProof.Rows
section
variable {X : Cx}
/-- thawed at the end -/
def thawE (X : Cx) (K : Hp → Prop) : Hp → Prop := fun H' => K H' ∨ ∃ d od u, H' d = some (.frz od u) ∧ (∀ o' u', X.H_0 d ≠ some (.frz o' u')) ∧ K (upd H' d u)
def thawD (X : Cx) (D : Ends) : Ends := { nx := fun σ => thawE X (D.nx σ), rt := fun v => thawE X (D.rt v), bk := fun σ => thawE X (D.bk σ), ct := fun σ => thawE X (D.ct σ) }
theorem thaw_inv {pins : List (Addr × Obj)} {σ : St} {H : Hp} {s : Shared} {K : Hp → Prop} (I : Inv X pins σ H s) (h : thawE X K H) : ∃ H', Inv X pins σ H' s ∧ K H' := by
  rcases h with h | ⟨d, od, u, h1, h2, h3⟩
  · exact ⟨H, I, h⟩
  · exact ⟨_, I.unlock h1 h2, h3⟩
theorem ps_thaw {st : Stmt} {t : TS} (h : PS X st t) : PS X st fun D σ H => t (thawD X D) σ H := by
  refine ⟨fun pins s σ H D I hw => thn (h.run pins s σ _ _ I hw) fun f s1 q => ?_⟩
  cases f with
  | next => obtain ⟨σ', H', I2, q⟩ := q; obtain ⟨H2, I3, q⟩ := thaw_inv I2 q; exact ⟨σ', H2, I3, q⟩
  | brk => obtain ⟨σ', H', I2, q⟩ := q; obtain ⟨H2, I3, q⟩ := thaw_inv I2 q; exact ⟨σ', H2, I3, q⟩
  | cont => obtain ⟨σ', H', I2, q⟩ := q; obtain ⟨H2, I3, q⟩ := thaw_inv I2 q; exact ⟨σ', H2, I3, q⟩
  | ret v => obtain ⟨x, σ', H', I2, r, q⟩ := q; obtain ⟨H2, I3, q⟩ := thaw_inv I2 q; exact ⟨x, σ', H2, I3, r, q⟩
def thawQ (X : Cx) (Q : VK) : VK := fun v => thawE X (Q v)
theorem pe_thaw {e : Expr} {t : TE} (h : PE X e t) : PE X e fun σ H Q => t σ H (thawQ X Q) := by
  refine ⟨fun pins s σ H Q I hw => thn (h.run pins s σ _ _ I hw) fun v s1 ⟨x, H1, I2, r, q⟩ => ?_⟩
  obtain ⟨H2, I3, q⟩ := thaw_inv I2 q
  exact ⟨x, H2, I3, r, q⟩
/-- the keys of a dict, which is frozen for the walk if it is not so already -/
def iKeysF (X : Cx) (td : TE) : TI := fun σ H R => td σ H fun x H1 => ∃ d, x = .ref d ∧
  ((∃ kvs, (∃ o, H1 d = some (.frz o (.dK kvs)) ∧ R (Itk d o kvs) H1) ∨ (H1 d = some (.dK kvs) ∧ ∀ o, (∀ o' u', X.H_0 d ≠ some (.frz o' u')) → R (Itk d o kvs) (upd H1 d (.frz o (.dK kvs))))) ∨
   (∃ kvs, (∃ o, H1 d = some (.frz o (.dT kvs)) ∧ R (Itkt d o kvs) H1) ∨ (H1 d = some (.dT kvs) ∧ ∀ o, (∀ o' u', X.H_0 d ≠ some (.frz o' u')) → R (Itkt d o kvs) (upd H1 d (.frz o (.dT kvs))))))
theorem pi_keysF {tg e : Expr} {td : TE} (he : PE X e td) : PI X tg e (iKeysF X td) := by
  refine ⟨fun pins s σ H R I h => ?_⟩
  refine thn (he.run pins s σ H _ I h) fun u s1 ⟨x, H1, I1, rx, d, ex, q⟩ => ?_
  subst ex
  obtain rfl : u = Value.ref d := rx
  have goK : ∀ {H2 : Hp} {o : Obj} {kvs : List (Key × V)}, Inv X pins σ H2 s1 → H2 d = some (.frz o (.dK kvs)) → R (Itk d o kvs) H2 → wpAny (model X.prog X.w) X.A (pyIter (.ref d)) (PIE X pins σ tg R) X.xe s1 := by
    intro H2 o kvs I2 hd q
    obtain ⟨hs, hgd, hx, es, ep, vs, hdt, hsz, kv, hm⟩ := I2.frzK hd
    refine iter_keys hs hgd hx hdt (pi_one (tk := s1.toks) I2 _ (turn_keys _ hdt) ⟨_, Heap.get?_push_size _ rfl, rfl, ?_⟩ q)
    rw [hsz]; rfl
  have goT : ∀ {H2 : Hp} {o : Obj} {kvs : List (List Key × V)}, Inv X pins σ H2 s1 → H2 d = some (.frz o (.dT kvs)) → R (Itkt d o kvs) H2 → wpAny (model X.prog X.w) X.A (pyIter (.ref d)) (PIE X pins σ tg R) X.xe s1 := by
    intro H2 o kvs I2 hd q
    obtain ⟨hs, hgd, hx, es, ep, hdt, hsz, ent⟩ := I2.frzT hd
    refine iter_keys hs hgd hx hdt (pi_one (tk := s1.toks) I2 _ (turn_keysT _ hdt) ⟨_, Heap.get?_push_size _ rfl, rfl, ?_⟩ q)
    rw [hsz]; rfl
  rcases q with ⟨kvs, ⟨o, hd, q⟩ | ⟨hd, q⟩⟩ | ⟨kvs, ⟨o, hd, q⟩ | ⟨hd, q⟩⟩
  · exact goK I1 hd q
  · obtain ⟨od, I2⟩ := I1.lock hd trivial
    exact goK I2 upd_same (q od (I1.nofrz hd trivial))
  · exact goT I1 hd q
  · obtain ⟨od, I2⟩ := I1.lock hd trivial
    exact goT I2 upd_same (q od (I1.nofrz hd trivial))
/-- what is wished of an exception while a thing stands frozen -/
def wLk (d : Addr) (od : Obj) (u : HO) (W : WX) : WX := fun cls x σ H' => H' d = some (.frz od u) ∧ W cls x σ (upd H' d u)
theorem takes_lk {W : WX} {d : Addr} {od : Obj} {u : HO} (tk : Takes X W) (hn : ∀ o' u', X.H_0 d ≠ some (.frz o' u')) : Takes X (wLk d od u W) := by
  intro v s' ⟨a, B, sI, pins, σ, H, cls, x, e, I, nb, up, sky, na, os, ag, w1, w2⟩
  exact tk v s' ⟨a, B, sI, pins, σ, upd H d u, cls, x, e, I.unlock w1 hn, nb, up, sky, by rw [upd_ne (fun z => by subst z; rw [na] at w1; cases w1)]; exact na, os, ag, w2⟩
end
end L2
namespace Mi
open PySem PySem.Spec PyProof.Rows L2
section
variable {G : Gx} {W : WX} {Γ : Gm} {C C' : CallF} {g g1 g2 g' : Gh} {H H1 H2 H' : Hp} {σ σ' : L2.St} {s s1 s2 : S} {lk lk' : List Pl} {Q : VK} {D : Ends}
/-- a thing freezes or thaws: what is read stays -/
structure Mv (g : Gh) (H H' : Hp) : Prop where
  at_ : ∀ o b u, g.ow b = some o → At H o b u → HO.hard u → At H' o b u
  tup : ∀ b vs, H b = some (.tup vs) → H' b = some (.tup vs)
  tup' : ∀ b vs, H' b = some (.tup vs) → H b = some (.tup vs)
  xd : ∀ b fs, H b = some (.xd fs) → H' b = some (.xd fs)
  bx : ∀ n b, g.ow b = some (.bx n) → H' b = H b
  dom : ∀ b, H b ≠ none → H' b ≠ none
/-- what may freeze -/
def Fz (u : HO) : Prop := match u with | .dK _ => True | .dT _ => True | _ => False
theorem Fz.hard {u : HO} (h : Fz u) : HO.hard u := by cases u <;> first | trivial | exact h.elim
theorem Fz.mut {u : HO} (h : Fz u) : Mut (some u) := by cases u <;> first | trivial | exact h.elim
theorem Fz.ntup {u : HO} (h : Fz u) (vs : List L2.V) : u ≠ .tup vs := by intro z; subst z; exact h
theorem Fz.nxd {u : HO} (h : Fz u) (vs : List (Str × L2.V)) : u ≠ .xd vs := by intro z; subst z; exact h
theorem Mv.frz {a : Addr} {o : Ow} {u : HO} (od : Obj) (ha : g.ow a = some o) (so : o.soft = true) (hH : H a = some u) (hu : Fz u) : Mv g H (upd H a (.frz od u)) where
  at_ := fun o' b u' hb h hh => by
    by_cases e : b = a
    · subst e
      rw [ha] at hb; cases hb
      unfold At at h ⊢
      rw [if_pos so] at h ⊢
      rcases h with h | ⟨ob, h⟩
      · rw [hH] at h; cases h; exact .inr ⟨od, upd_same⟩
      · rw [hH] at h; cases h; exact hu.elim
    · exact h.tr (upd_ne e)
  tup := fun b vs h => by rw [upd_ne (fun z => by subst z; rw [hH] at h; exact hu.ntup _ (Option.some.inj h))]; exact h
  tup' := fun b vs h => by
    by_cases e : b = a
    · subst e; rw [upd_same] at h; cases h
    · rw [upd_ne e] at h; exact h
  xd := fun b vs h => by rw [upd_ne (fun z => by subst z; rw [hH] at h; exact hu.nxd _ (Option.some.inj h))]; exact h
  bx := fun n b h => upd_ne fun z => by subst z; rw [ha] at h; cases h; cases so
  dom := fun b h => by
    by_cases e : b = a
    · subst e; rw [upd_same]; intro z; cases z
    · rw [upd_ne e]; exact h
theorem Mv.thaw {a : Addr} {o : Ow} {u : HO} {od : Obj} (ha : g.ow a = some o) (so : o.soft = true) (hH : H a = some (.frz od u)) (hu : Fz u) : Mv g H (upd H a u) where
  at_ := fun o' b u' hb h hh => by
    by_cases e : b = a
    · subst e
      rw [ha] at hb; cases hb
      unfold At at h ⊢
      rw [if_pos so] at h ⊢
      rcases h with h | ⟨ob, h⟩
      · rw [hH] at h; cases h; exact hh.elim
      · rw [hH] at h; cases h; exact .inl upd_same
    · exact h.tr (upd_ne e)
  tup := fun b vs h => by rw [upd_ne (fun z => by subst z; rw [hH] at h; cases h)]; exact h
  tup' := fun b vs h => by
    by_cases e : b = a
    · subst e; rw [upd_same] at h; exact absurd (Option.some.inj h) (hu.ntup _)
    · rw [upd_ne e] at h; exact h
  xd := fun b vs h => by rw [upd_ne (fun z => by subst z; rw [hH] at h; cases h)]; exact h
  bx := fun n b h => upd_ne fun z => by subst z; rw [ha] at h; cases h; cases so
  dom := fun b h => by
    by_cases e : b = a
    · subst e; rw [upd_same]; intro z; cases z
    · rw [upd_ne e]; exact h
theorem TupAt.mv {K : PySem.W.Frag} {a : Addr} {vs : List L2.V} {ku : Bool} (m : Mv g H H') (h : TupAt K g H a vs ku) : TupAt K g H' a vs ku := by
  rcases h with ⟨h1, h2⟩ | h
  · exact .inl ⟨h1, m.tup _ _ h2⟩
  · exact .inr h
mutual
theorem Rep.mv (m : Mv g H H') : ∀ {o : Ow} {t : T} {v : L2.V}, Rep G g H o t v → Rep G g H' o t v
  | _, _, _, .non => .non
  | _, _, _, .bl => .bl
  | _, _, _, .int => .int
  | _, _, _, .str h => .str h
  | _, _, _, .tup h r => .tup (h.mv m) (Reps.mv m r)
  | _, _, _, .lst w h z r => .lst w (m.at_ _ _ _ w h trivial) z (Reps.mv m r)
  | _, _, _, .lstK h z r => .lstK h z (Reps.mv m r)
  | _, _, _, .dct w h z r => .dct w (m.at_ _ _ _ w h trivial) z (KReps.mv m r)
  | _, _, _, .dcu w h z r => .dcu w (m.at_ _ _ _ w h trivial) z (TReps.mv m r)
  | _, _, _, .box h => .box h
  | _, _, _, .cls h => .cls h
theorem Reps.mv (m : Mv g H H') : ∀ {ts : List T} {vs : List L2.V}, Reps G g H ts vs → Reps G g H' ts vs
  | _, _, .nil => .nil
  | _, _, .cons h r => .cons (Rep.mv m h) (Reps.mv m r)
theorem KReps.mv (m : Mv g H H') : ∀ {ts : List (T × T)} {vs : List (L2.Key × L2.V)}, KReps G g H ts vs → KReps G g H' ts vs
  | _, _, .nil => .nil
  | _, _, .cons e nk h r => .cons e nk (Rep.mv m h) (KReps.mv m r)
theorem TReps.mv (m : Mv g H H') : ∀ {ts : List (T × T)} {vs : List (List L2.Key × L2.V)}, TReps G g H ts vs → TReps G g H' ts vs
  | _, _, .nil => .nil
  | _, _, .cons e ku kb nk h r => .cons e ku ⟨kb.1, m.tup _ _ kb.2⟩ nk (Rep.mv m h) (TReps.mv m r)
end
theorem FR.mv {n : Nat} (m : Mv g H H') {fs : List (Nat × Bool × T)} {vs : List (Str × L2.V)} (h : FR G g H lk n fs vs) : FR G g H' lk n fs vs := by
  induction h with
  | nil => exact .nil
  | cons e nf h _ ih => exact .cons e nf (h.mv m) ih
theorem ExcR.mv {c : Nat} {xs : List T} {cls : Value} {d : Option Addr} (m : Mv g H H') (h : ExcR G g H c xs cls d) : ExcR G g H' c xs cls d := by
  obtain ⟨C, da, fs, h1, h2, h3, h4, h5, h6⟩ := h
  refine ⟨C, da, fs, h1, h2, h3, m.xd _ _ h4, h5, fun i t hi => ?_⟩
  obtain ⟨n, v, z1, z2, z3⟩ := h6 i t hi
  exact ⟨n, v, z1, z2, z3.mv m⟩
theorem R.mv (m : Mv g H H') (r : R G g lk s σ H) : R G g lk s σ H' := by
  refine ⟨fun a o h => m.dom a (r.dom a o h), r.ln, fun i mo t h hx => ?_, r.ml, fun n b a h1 h2 => ?_, r.uq, r.li, fun i t h => ?_, fun a o vs h hH => r.tq a o vs h (m.tup' _ _ hH)⟩
  · obtain ⟨v, h1, h2⟩ := r.sl i mo t h hx
    exact ⟨v, h1, h2.mv m⟩
  · obtain ⟨h3, fs, h4, h5⟩ := r.bx n b a h1 h2
    exact ⟨h3, fs, h4.tr (m.bx n a h3), h5.mv m⟩
  · obtain ⟨c, xs, a, oe, h1, h2, h3, h4⟩ := r.xl i t h
    exact ⟨c, xs, a, oe, h1, h2, h3, h4.mv m⟩
/-- a soft thing's mark and content stay -/
theorem Keep.soft {a : Addr} {o : Ow} (k : Keep g H g' H') (ha : g.ow a = some o) (so : o.soft = true) : g'.ow a = some o ∧ H' a = H a := by
  cases o with
  | fz => exact k.fz a ha
  | ext => exact k.ext a ha
  | lkd p => exact k.lkd p a ha
  | _ => cases so
/-- kept from a frozen state: kept from the state before, thawed -/
theorem Keep.melt {a : Addr} {o : Ow} {u : HO} {od : Obj} (ha : g.ow a = some o) (so : o.soft = true) (hH : H a = some u) (k : Keep g (upd H a (.frz od u)) g' H') : Keep g H g' (upd H' a u) := by
  have key : ∀ o', Holds o' g (upd H a (.frz od u)) g' H' → Holds o' g H g' (upd H' a u) := fun o' h b hb => by
    obtain ⟨h1, h2⟩ := h b hb
    refine ⟨h1, ?_⟩
    by_cases e : b = a
    · subst e; rw [upd_same, hH]
    · rw [upd_ne e]; rw [upd_ne e] at h2; exact h2
  exact ⟨key _ k.fz, key _ k.ext, fun p => key _ (k.lkd p), fun d h => by
    have q := k.cm d h
    refine ⟨q.1, ?_⟩
    by_cases e : d = a
    · subst e; rw [upd_same, hH]
    · rw [upd_ne e]; have := q.2; rw [upd_ne e] at this; exact this, k.m⟩
def meltD (a : Addr) (u : HO) (od : Obj) (D : Ends) : Ends := { nx := fun σ H' => H' a = some (.frz od u) ∧ D.nx σ (upd H' a u), rt := fun v H' => H' a = some (.frz od u) ∧ D.rt v (upd H' a u), bk := fun σ H' => H' a = some (.frz od u) ∧ D.bk σ (upd H' a u), ct := fun σ H' => H' a = some (.frz od u) ∧ D.ct σ (upd H' a u) }
theorem PostS.melt {r : Res Fl} {a : Addr} {o : Ow} {u : HO} {od : Obj} (ha : g.ow a = some o) (so : o.soft = true) (hH : H a = some u) (hu : Fz u) (h : PostS G W lk g H r D) :
    PostS G (wLk a od u W) lk g (upd H a (.frz od u)) r (meltD a u od D) := by
  cases r with
  | no => exact h
  | exc c xs s' =>
    intro g' σ' H' cls d r' k' ex
    obtain ⟨q1, q2⟩ := k'.soft ha so
    rw [upd_same] at q2
    have m := Mv.thaw q1 so q2 hu
    exact ⟨q2, h g' σ' _ cls d (r'.mv m) (k'.melt ha so hH) (ex.mv m)⟩
  | ok f s' =>
    intro g' σ' H' r' k'
    obtain ⟨q1, q2⟩ := k'.soft ha so
    rw [upd_same] at q2
    have m := Mv.thaw q1 so q2 hu
    have q := h g' σ' _ (r'.mv m) (k'.melt ha so hH)
    cases f with
    | nx => exact ⟨q2, q⟩
    | brk => exact ⟨q2, q⟩
    | cont => exact ⟨q2, q⟩
    | ret v => exact fun x p st => ⟨q2, q x (p.mv m) st⟩
theorem Post.melt {r : Res V} {a : Addr} {o : Ow} {u : HO} {od : Obj} (ha : g.ow a = some o) (so : o.soft = true) (hH : H a = some u) (hu : Fz u) (h : Post G W lk g σ H r Q) :
    Post G (wLk a od u W) lk g σ (upd H a (.frz od u)) r (fun v H' => H' a = some (.frz od u) ∧ Q v (upd H' a u)) := by
  cases r with
  | no => exact h
  | exc c xs s' =>
    intro g' H' cls d r' k' ex
    obtain ⟨q1, q2⟩ := k'.soft ha so
    rw [upd_same] at q2
    have m := Mv.thaw q1 so q2 hu
    exact ⟨q2, h g' _ cls d (r'.mv m) (k'.melt ha so hH) (ex.mv m)⟩
  | ok f s' =>
    intro g' H' x r' k' p
    obtain ⟨q1, q2⟩ := k'.soft ha so
    rw [upd_same] at q2
    have m := Mv.thaw q1 so q2 hu
    exact ⟨q2, h g' _ x (r'.mv m) (k'.melt ha so hH) (p.mv m)⟩
/-- a tuple is ours from now on -/
theorem own_tup {q : Addr} {vs : List L2.V} (r : R G g lk s σ H) (h : H q = some (.tup vs)) : ∃ g', R G g' lk s σ H ∧ Keep g H g' H ∧ g'.ow q = some .fz ∧ (∀ o, Holds o g H g' H) ∧ MPre g g' := by
  cases e : g.ow q with
  | some o => exact ⟨g, r, Keep.refl, by rw [e, r.tq q o vs e h], fun o a h => ⟨h, rfl⟩, fun _ _ h => h⟩
  | none =>
    have hold : ∀ o, Holds o g H (g.own q .fz) H := fun o a ha => ⟨by rw [Gh.own_off (fun z => by subst z; rw [e] at ha; cases ha)]; exact ha, rfl⟩
    have mp : MPre g (g.own q .fz) := fun _ _ h => h
    have back : ∀ a o, (g.own q .fz).ow a = some o → (a = q ∧ o = .fz) ∨ g.ow a = some o := fun a o ha => by
      by_cases z : a = q
      · subst z; rw [Gh.own_at] at ha; cases ha; exact .inl ⟨rfl, rfl⟩
      · rw [Gh.own_off z] at ha; exact .inr ha
    have pl : ∀ a p, ((g.own q .fz).ow a = some (.pl p) ∨ (g.own q .fz).ow a = some (.lkd p)) → g.ow a = some (.pl p) ∨ g.ow a = some (.lkd p) := fun a p h => by
      rcases h with h | h
      · rcases back a _ h with ⟨_, z⟩ | z; cases z; exact .inl z
      · rcases back a _ h with ⟨_, z⟩ | z; cases z; exact .inr z
    refine ⟨g.own q .fz, ?_, ⟨hold _, hold _, fun p => hold _, fun d h => hold _ d h, mp⟩, Gh.own_at, hold, mp⟩
    refine r.go rfl (hold _) (hold _) (fun n => hold _) (fun i t v _ _ h => h.tr (hold _) mp (hold _)) (fun n bx f t v _ _ h => h.tr (hold _) mp (hold _)) (fun a o ha => ?_) (fun p a a' h1 h2 => r.uq p a a' (pl a p h1) (pl a' p h2)) (fun a p ha => ?_) (fun a o vs' ha hH => ?_)
    · rcases back a o ha with ⟨rfl, _⟩ | ha
      · rw [h]; intro z; cases z
      · exact r.dom a o ha
    · rcases back a _ ha with ⟨_, z⟩ | ha
      · cases z
      · exact r.li a p ha
    · rcases back a o ha with ⟨_, z⟩ | ha
      · exact z
      · exact r.tq a o vs' ha hH
end
end Mi

/-! soundness: comparisons, subscripts, len, with those of boxes -/
namespace Mi
open PySem PySem.Spec PyProof.Rows L2
section
variable {G : Gx} {W : WX} {Γ : Gm} {C C' : CallF} {g g1 g2 g' : Gh} {H H1 H2 H' : Hp} {σ σ' : L2.St} {s s1 s2 : S} {lk lk' : List Pl} {Q : VK}
/-- y in d, y not in d -/
def rDin (neg : Bool) : R2 := fun x y H Q => ∃ a o, y = .ref a ∧ DGet H a x o ∧ Q (.bl (neg ^^ o.isSome)) H
theorem in_dct {u : Bool} {x y : V} {vx vy : L2.V} {kvs : List (T × T)} {neg : Bool} (hR : R G g lk s σ H) {o1 o2 : Ow} (hx : Rep G g H o1 x.2 vx) (hy : Rep G g H o2 (dOf u kvs) vy) (ey : y.2 = dOf u kvs)
    (h : Post G W lk g σ H ((inR Γ C' (lks x ++ lk) x y s).bind fun b s' => okF (.bl (neg ^^ b)) s') Q) : rDin neg vx vy H Q := by
  have h : Post G W lk g σ H ((if dKey u x.2 then Res.ok (x.2.look kvs).isSome s else .no).bind fun b s' => okF (.bl (neg ^^ b)) s') Q := by
    unfold inR at h
    rw [ey] at h
    cases u <;> exact h
  split at h
  · rename_i e
    obtain ⟨a, r, rfl, gd, q⟩ := dget_of e hy hx
    refine ⟨a, r, rfl, gd, ?_⟩
    have h : Post G W lk g σ H (okF (.bl (neg ^^ (x.2.look kvs).isSome)) s) Q := h
    have e2 : (x.2.look kvs).isSome = r.isSome := by
      rcases q with ⟨h1, h2⟩ | ⟨t, v, h1, h2, _⟩
      · rw [h1, h2]; rfl
      · rw [h1, h2]; rfl
    rw [e2] at h
    exact Post.old hR h .bl
  · exact h.elim
def rCmpS (G : Gx) (W : WX) (Γ : Gm) (C' : CallF) (o : Co) : L2.St → R2 := fun σ x y H Q => rCmp G.K o x y H Q ∨ (o = .le ∧ anyB G Γ C' 4 (fun Cx sp => rOpB Cx sp (WE W) σ) x y H Q) ∨
  (o = .isin ∧ anyB G Γ C' 3 (fun Cx sp => rInB false Cx sp (WE W) σ) x y H Q) ∨ (o = .notin ∧ anyB G Γ C' 3 (fun Cx sp => rInB true Cx sp (WE W) σ) x y H Q) ∨ (o = .isin ∧ rDin false x y H Q) ∨ (o = .notin ∧ rDin true x y H Q)
theorem in_box {x : V} {vx vy : L2.V} {n : Nat} {f : Bool → Bool} (hR : R G g lk s σ H) (hx : Rep G g H (pO lk x.1) x.2 vx) {o2 : Ow} (hy : Rep G g H o2 (.box n) vy) {y : V} (ey : y.2 = .box n)
    (h : Post G W lk g σ H ((inR Γ C' (lks x ++ lk) x y s).bind fun b s' => okF (.bl (f b)) s') Q) :
    ∃ c fn Cx a dx fs, c ≠ 0 ∧ Γ.meth c 3 = some fn ∧ G.A c = some Cx ∧ vy = .ref a ∧ H a = some (.ins Cx dx fs) ∧ spR G Γ C' fn [vy, vx] H (fun z H' => ∃ b, z = .bl b ∧ Q (.bl (f b)) H') (WE W σ) := by
  unfold inR at h
  rw [ey] at h
  cases hb : s.hp[n]? with
  | none => simp only [hb] at h; exact h.elim
  | some bx =>
    simp only [hb] at h
    have hc : bx.cls ≠ 0 := fun z => by rw [if_pos z] at h; exact h.elim
    rw [if_neg hc] at h
    split at h
    · exact h.elim
    · rename_i ha
      have ha : argOk x = true := by simpa using ha
      rw [methR_lk ha] at h
      cases hm : methR Γ C' lk n 3 [parOf x] s with
      | no => rw [hm] at h; exact h.elim
      | exc d xs s1 =>
        rw [hm] at h
        have h : Post G W lk g σ H (Res.exc d xs s1 : Res V) Q := h
        have := meth_box (W := W) (Q := fun z H' => ∃ b, z = .bl b ∧ Q (.bl (f b)) H') (as := [x]) hR hy (.cons hx .nil) (by show (argOk x && true) = true; rw [ha]; rfl) (by rw [show [x].map parOf = [parOf x] from rfl, hm]; exact h)
        obtain ⟨c, fn, Cx, a, dx, fs, _, h1, h2, h3, e, h4, h5⟩ := this
        exact ⟨c, fn, Cx, a, dx, fs, h1, h2, h3, e, h4, h5⟩
      | ok v s1 =>
        rw [hm] at h
        have := meth_box (W := W) (Q := fun z H' => ∃ b, z = .bl b ∧ Q (.bl (f b)) H') (as := [x]) hR hy (.cons hx .nil) (by show (argOk x && true) = true; rw [ha]; rfl) (by
          rw [show [x].map parOf = [parOf x] from rfl, hm]
          intro g1 H1 z r1 k1 p1
          obtain ⟨md, t⟩ := v
          cases t with
          | bl b =>
            have h : Post G W lk g σ H (okF (.bl (f b)) s1) Q := h
            exact ⟨b, Rep.bl_inv p1, h g1 H1 _ r1 k1 .bl⟩
          | _ => exact (show False from h).elim)
        obtain ⟨c, fn, Cx, a, dx, fs, _, h1, h2, h3, e, h4, h5⟩ := this
        exact ⟨c, fn, Cx, a, dx, fs, h1, h2, h3, e, h4, h5⟩
theorem lks_box {x : V} {n : Nat} (h : x.2 = .box n) : lks x = [] := by unfold lks; rw [h]; rfl
theorem cmpS_ok {o : Co} {x y : V} {vx vy : L2.V} (hn : o = .isn ∨ o = .notn → y.2 = .non) (hR : R G g lk s σ H) (hx : Rep G g H (pO lk x.1) x.2 vx) (hy : Rep G g H (mdO lk y.1) y.2 vy)
    (h : Post G W lk g σ H (cmpR Γ C' (lks x ++ lk) o x y s) Q) : rCmpS G W Γ C' o σ vx vy H Q := by
  cases hf : flatC o y.2 with
  | true => exact .inl (cmp_ok hf hn hR hx hy h)
  | false =>
    have inn : ∀ f : Bool → Bool, (∀ ts, y.2 ≠ .lst ts) → (∀ ts, y.2 ≠ .tup ts) → Post G W lk g σ H ((inR Γ C' (lks x ++ lk) x y s).bind fun b s' => okF (.bl (f b)) s') Q → (∃ n, y.2 = .box n) ∨ ∃ u kvs, y.2 = dOf u kvs := by
      intro f n1 n2 h
      obtain ⟨md, t⟩ := y
      cases t with
      | box n => exact .inl ⟨n, rfl⟩
      | lst ts => exact absurd rfl (n1 ts)
      | tup ts => exact absurd rfl (n2 ts)
      | dct kvs => exact .inr ⟨false, kvs, rfl⟩
      | dcu kvs => exact .inr ⟨true, kvs, rfl⟩
      | _ => exact (show False from h).elim
    cases o with
    | le =>
      obtain ⟨md, t⟩ := y
      cases t with
      | box m =>
        refine .inr (.inl ⟨rfl, ?_⟩)
        unfold cmpR at h
        dsimp only at h
        split at h
        · rename_i e1 e2; cases e2
        · rename_i n m' e1 e2
          cases e2
          rw [e1] at hx
          rw [if_pos rfl] at h
          split at h
          · rename_i hs
            have hy' : Rep G g H .fz (.box m) vy := hy.free rfl
            have el : lks x ++ lk = lk := by rw [lks_box e1]; rfl
            rw [el] at h
            obtain ⟨c, f, Cx, a, dx, fs, ⟨bx, hb, ec⟩, h1, h2, h3, rfl, h4, h5⟩ := meth_box (as := [(.fro, .box m)]) hR hx (.cons hy' .nil) rfl h
            unfold sameC at hs
            rw [hb] at hs
            cases hb2 : s.hp[m]? with
            | none => rw [hb2] at hs; cases hs
            | some b2 =>
              rw [hb2] at hs
              simp only [Bool.and_eq_true, beq_iff_eq] at hs
              obtain ⟨a2, C2, dx2, fs2, rfl, _, _, hA2, hH2, _⟩ := box_at hR hy' hb2 (by rw [← hs.1]; simpa using hs.2)
              rw [← hs.1, ec, h3] at hA2
              cases hA2
              exact ⟨c, f, Cx, h1, h2, h3, a, dx, fs, a2, dx2, fs2, rfl, rfl, h4, hH2, h5⟩
          · exact h.elim
        · exact h.elim
      | _ => cases hf
    | isin =>
      rcases inn id (fun ts e => by rw [e] at hf; cases hf) (fun ts e => by rw [e] at hf; cases hf) h with ⟨n, e⟩ | ⟨u, kvs, e⟩
      rotate_left
      · rw [e] at hy
        exact .inr (.inr (.inr (.inr (.inl ⟨rfl, in_dct (neg := false) hR hx hy e (by simp only [Bool.false_xor]; exact h)⟩))))
      rw [e] at hy
      obtain ⟨c, fn, Cx, a, dx, fs, h1, h2, h3, ey, h4, h5⟩ := in_box (f := id) hR hx hy e h
      exact .inr (.inr (.inl ⟨rfl, c, fn, Cx, h1, h2, h3, a, dx, fs, ey, h4, h5⟩))
    | notin =>
      rcases inn not (fun ts e => by rw [e] at hf; cases hf) (fun ts e => by rw [e] at hf; cases hf) h with ⟨n, e⟩ | ⟨u, kvs, e⟩
      rotate_left
      · rw [e] at hy
        exact .inr (.inr (.inr (.inr (.inr ⟨rfl, in_dct (neg := true) hR hx hy e (by simp only [Bool.true_xor]; exact h)⟩))))
      rw [e] at hy
      obtain ⟨c, fn, Cx, a, dx, fs, h1, h2, h3, ey, h4, h5⟩ := in_box (f := not) hR hx hy e h
      exact .inr (.inr (.inr (.inl ⟨rfl, c, fn, Cx, h1, h2, h3, a, dx, fs, ey, h4, h5⟩)))
    | _ => cases hf

/-! ### subscripts -/
/-- d[y] -/
def rDIx : R2 := fun x y H Q => ∃ a v, x = .ref a ∧ DGet H a y (some v) ∧ Q v H
theorem sub_dct {u : Bool} {x y : V} {vx vy : L2.V} {kvs : List (T × T)} {b : Bool} {o1 o2 : Ow} (hR : R G g lk s σ H) (hx : Rep G g H o1 (dOf u kvs) vx) (hy : Rep G g H o2 y.2 vy) (e : x.2 = dOf u kvs)
    (h : Post G W lk g σ H (subR Γ C' lk' x y b s) Q) : rDIx vx vy H Q := by
  have h : Post G W lk g σ H (if dKey u y.2 then optR (y.2.look kvs) fun t => okF t s else .no) Q := by
    unfold subR at h
    rw [e] at h
    cases u <;> exact h
  split at h
  · rename_i ek
    obtain ⟨a, r, rfl, gd, q⟩ := dget_of ek hx hy
    rcases q with ⟨h1, h2⟩ | ⟨t, v, h1, rfl, h3⟩
    · rw [h1] at h; exact h.elim
    · rw [h1] at h
      have h : Post G W lk g σ H (okF t s) Q := h
      exact ⟨a, v, rfl, gd, Post.old hR h h3⟩
  · exact h.elim
theorem valV_txt {y : Str} : ∀ {fs : List (Str × L2.V)}, valV (fs.map fun q => ((.inr q.1 : L2.Key), q.2)) (.inr y) = fs.lookup y
  | [] => rfl
  | (x, v) :: fs => by
    by_cases e : x = y
    · subst e
      rw [List.map_cons, valV_pos (by rfl), List.lookup_cons, beq_self_eq_true]
    · rw [List.map_cons, valV_neg (by intro z; exact e (Sum.inr.inj z)), List.lookup_cons, beq_eq_false_iff_ne.mpr (fun z => e z.symm), valV_txt]
/-- a box of class 0 is read at a text -/
theorem sub_box0 {n k : Nat} {bx : Bx} {vx vy : L2.V} {b : Bool} {o1 o2 : Ow} (hR : R G g lk s σ H) (hb : s.hp[n]? = some bx) (hc : bx.cls = 0) (hx : Rep G g H o1 (.box n) vx) (hy : Rep G g H o2 (.str k) vy)
    (h : Post G W lk g σ H (rdFld lk n k b s) Q) : rDIx vx vy H Q := by
  obtain ⟨a, fs, rfl, hm, ho, hB, hF⟩ := box_any hR hx hb
  obtain ⟨y, rfl, hyk⟩ := str_inv hy
  obtain ⟨v, h1, h2⟩ := rdFld_ok hR hb hm ho hB hF hyk h
  unfold BoxH at hB
  rw [if_pos hc] at hB
  exact ⟨a, v, rfl, .inl ⟨_, .inr y, .inl hB, rfl, by rw [valV_txt, h1]⟩, h2⟩
def rSubS (G : Gx) (W : WX) (Γ : Gm) (C' : CallF) : L2.St → R2 := fun σ x y H Q => (rIxL G.K x y H Q ∨ rIxT G.K x y H Q) ∨ anyB G Γ C' 5 (fun Cx sp => rIxB Cx sp (WE W) σ) x y H Q ∨ rDIx x y H Q
/-- a value that was made for this is frozen -/
theorem frz_arg {y : V} {vy : L2.V} (hR : R G g lk s σ H) (hy : Rep G g H (mdO lk y.1) y.2 vy) : ∃ g', R G g' lk s σ H ∧ Keep g H g' H ∧ Rep G g' H (pO lk y.1) y.2 vy ∧ ∀ o t v, tmpFz o = o → Rep G g H o t v → Rep G g' H o t v := by
  obtain ⟨md, t⟩ := y
  refine ⟨g.retag tmpFz, hR.freeze, keep_freeze, ?_, fun o t v e h => h.freeze' e⟩
  cases md with
  | own => exact Rep.freeze hy
  | fro => exact Rep.freeze' hy rfl
  | bor op =>
    cases op with
    | none => exact Rep.freeze' hy rfl
    | some p => exact Rep.freeze' hy (tmpFz_pl lk p)
theorem tmpFz_pO {lk : List Pl} {m : Md} : tmpFz (pO lk m) = pO lk m := by
  cases m with
  | own => rfl
  | fro => rfl
  | bor op => cases op with
    | none => rfl
    | some p => exact tmpFz_pl lk p
theorem subS_ok {x y : V} {vx vy : L2.V} {b : Bool} (hR : R G g lk s σ H) (hx : Rep G g H (pO lk x.1) x.2 vx) (hy : Rep G g H (mdO lk y.1) y.2 vy)
    (h : Post G W lk g σ H (subR Γ C' (lks y ++ lk) x y b s) Q) : rSubS G W Γ C' σ vx vy H Q := by
  cases e : x.2 with
  | lst xs => exact .inl (sub_seq (.inl ⟨xs, e⟩) hR hx hy h)
  | tup xs => exact .inl (sub_seq (.inr ⟨xs, e⟩) hR hx hy h)
  | dct kvs =>
    rw [e] at hx
    exact .inr (.inr (sub_dct (u := false) hR hx hy e h))
  | dcu kvs =>
    rw [e] at hx
    exact .inr (.inr (sub_dct (u := true) hR hx hy e h))
  | box n =>
    rw [e] at hx
    unfold subR at h
    rw [e] at h
    dsimp only at h
    cases hb : s.hp[n]? with
    | none => simp only [hb] at h; exact h.elim
    | some bx =>
      simp only [hb] at h
      by_cases hc : bx.cls = 0
      · rw [if_pos hc] at h
        obtain ⟨md, t⟩ := y
        cases t with
        | str k => exact .inr (.inr (sub_box0 hR hb hc hx hy h))
        | _ => exact (show False from h).elim
      rw [if_neg hc] at h
      split at h
      · exact h.elim
      · rename_i ha
        have ha : argOk y = true := by simpa using ha
        rw [methR_lk ha] at h
        obtain ⟨g1, r1, k1, p1, mv⟩ := frz_arg hR hy
        have hx1 : Rep G g1 H (pO lk x.1) (.box n) vx := mv _ _ _ tmpFz_pO hx
        obtain ⟨c, f, Cx, a, dx, fs, _, h1, h2, h3, ex, h4, h5⟩ := meth_box (as := [y]) r1 hx1 (.cons p1 .nil) (by show (argOk y && true) = true; rw [ha]; rfl) (h.keep k1)
        exact .inr (.inl ⟨c, f, Cx, h1, h2, h3, a, dx, fs, ex, h4, h5⟩)
  | _ => unfold subR at h; rw [e] at h; exact h.elim
end
end Mi

/-! soundness: built-in functions with len of boxes; what is walked -/
namespace Mi
open PySem PySem.Spec PyProof.Rows L2
section
variable {G : Gx} {W : WX} {Γ : Gm} {C C' : CallF} {g g1 g2 g' : Gh} {H H1 H2 H' : Hp} {σ σ' : L2.St} {s s1 s2 : S} {lk lk' : List Pl} {Q : VK} {D : Ends}
/-- what a loop may walk: no box -/
def noIt (Γ : Gm) : Prop := ∀ c, Γ.iterf c = none
theorem items_of {x : T} {xs : List T} (ni : noIt Γ) (hi : itemsR Γ x s = some xs) : (x = .lst xs) ∨ (x = .tup xs ∧ xs.length ≤ szL) ∨ ∃ u kvs, x = dOf u kvs ∧ xs = kvs.map (·.1) := by
  cases x with
  | lst ys => cases hi; exact .inl rfl
  | tup ys =>
    have hi : (if ys.length ≤ szL then some ys else none) = some xs := hi
    split at hi
    · cases hi; exact .inr (.inl ⟨rfl, by assumption⟩)
    · cases hi
  | dct ys => cases hi; exact .inr (.inr ⟨false, ys, rfl, rfl⟩)
  | dcu ys => cases hi; exact .inr (.inr ⟨true, ys, rfl, rfl⟩)
  | box n =>
    exfalso
    unfold itemsR at hi
    cases e : s.hp[n]? with
    | none => simp only [e] at hi; cases hi
    | some bx =>
      simp only [e] at hi
      split at hi
      · cases hi
      · simp only [ni bx.cls] at hi; cases hi
  | _ => cases hi
/-! ### built-in functions -/
/-- len(d), list(d) -/
def rBiD (b : Bi) : List L2.V → Hp → VK → Prop := fun xs H Q =>
  (b = .len ∧ ∃ a n, xs = [.ref a] ∧ ((∃ kvs, Rd H a (.dK kvs) ∧ n = kvs.length) ∨ ∃ kvs, Rd H a (.dT kvs) ∧ n = kvs.length) ∧ Q (.int (n : Nat)) H) ∨
  (b = .list ∧ ∃ a kvs, xs = [.ref a] ∧ Rd H a (.dK kvs) ∧ ∀ p, H p = none → Q (.ref p) (upd H p (.lst (kvs.map fun kv => kV kv.1)))) ∨
  (b = .list ∧ ∃ a kvs, xs = [.ref a] ∧ Rd H a (.dT kvs) ∧ ∀ p bs, H p = none → IsKeys H kvs bs → Q (.ref p) (upd H p (.lst (bs.map V.ref))))
theorem KeyR.rep {k : T} {kk : L2.Key} (h : KeyR k kk) : Rep G g H .fz k (kV kk) := by
  cases k <;> cases kk <;> first | exact h.elim | skip
  · cases h; exact .int
  · exact .str h
theorem KReps.keys : ∀ {kvs : List (T × T)} {dvs : List (L2.Key × L2.V)}, KReps G g H kvs dvs → Reps G g H (kvs.map (·.1)) (dvs.map fun kv => kV kv.1)
  | _, _, .nil => .nil
  | _, _, .cons e _ _ r => .cons e.rep r.keys
theorem KeyRs.reps : ∀ {ts : List T} {ks : List L2.Key}, KeyRs ts ks → Reps G g H ts (ks.map kV)
  | [], [], _ => .nil
  | _ :: _, _ :: _, h => .cons (KeyR.rep h.1) (KeyRs.reps h.2)
  | [], _ :: _, h => h.elim
  | _ :: _, [], h => h.elim
theorem KeyU.rep {k : T} {kk : List L2.Key} {q : Addr} (h : KeyU k kk) (ho : g.ow q = some .fz) (hq : H q = some (.tup (kk.map kV))) : Rep G g H .fz k (.ref q) := by
  cases k <;> first | exact h.elim | skip
  exact .tup (.inl ⟨ho, hq⟩) (KeyRs.reps h)
theorem TReps.keys : ∀ {kvs : List (T × T)} {dvs : List (List L2.Key × L2.V)} {bs : List Addr} {s : S}, R G g lk s σ H → TReps G g H kvs dvs → IsKeys H dvs bs → ∃ g', R G g' lk s σ H ∧ Keep g H g' H ∧ Reps G g' H (kvs.map (·.1)) (bs.map V.ref)
  | _, _, _, _, r, .nil, .nil => ⟨g, r, Keep.refl, .nil⟩
  | _, _, b :: _, s, r, .cons (k := k) (kk := kk) e ku kb nk h rr, .cons hb rb => by
    have hb : H b = some (.tup (kk.map kV)) := hb
    obtain ⟨g1, r1, k1, h1⟩ := TReps.keys r rr rb
    obtain ⟨g2, r2, k2, o2, _, _⟩ := own_tup r1 hb
    exact ⟨g2, r2, k1.trans k2, .cons (e.rep o2 hb) (h1.tr k2.fz k2.m)⟩
theorem bi_dct {u : Bool} {kvs : List (T × T)} {b : Bi} {md : Md} {x : L2.V} {o : Ow} (hR : R G g lk s σ H) (p : Rep G g H o (dOf u kvs) x) (h : Post G W lk g σ H (biR Γ C' lk b [(md, dOf u kvs)] s) Q) : rBiD b [x] H Q := by
  cases b with
  | len =>
    left
    cases u with
    | false =>
      obtain ⟨a, dvs, rfl, w, hh, z, r⟩ := Rep.dct_inv (show Rep G g H o (.dct kvs) x from p)
      have h : Post G W lk g σ H (okF (.int kvs.length) s) Q := h
      exact ⟨rfl, a, _, rfl, .inl ⟨dvs, hh.rd, rfl⟩, by rw [← r.length]; exact Post.old hR h .int⟩
    | true =>
      obtain ⟨a, dvs, rfl, w, hh, z, r⟩ := Rep.dcu_inv (show Rep G g H o (.dcu kvs) x from p)
      have h : Post G W lk g σ H (okF (.int kvs.length) s) Q := h
      exact ⟨rfl, a, _, rfl, .inr ⟨dvs, hh.rd, rfl⟩, by rw [← r.length]; exact Post.old hR h .int⟩
  | list =>
    right
    cases u with
    | false =>
      obtain ⟨a, dvs, rfl, w, hh, z, r⟩ := Rep.dct_inv (show Rep G g H o (.dct kvs) x from p)
      have h : Post G W lk g σ H (okO (.lst (kvs.map (·.1))) s) Q := h
      exact .inl ⟨rfl, a, dvs, rfl, hh.rd, fun p hp => Post.newL hR h r.keys (by rw [List.length_map]; exact z) hp⟩
    | true =>
      obtain ⟨a, dvs, rfl, w, hh, z, r⟩ := Rep.dcu_inv (show Rep G g H o (.dcu kvs) x from p)
      have h : Post G W lk g σ H (okO (.lst (kvs.map (·.1))) s) Q := h
      refine .inr ⟨rfl, a, dvs, rfl, hh.rd, fun p bs hp hb => ?_⟩
      obtain ⟨g', r', k', rr⟩ := TReps.keys hR r hb
      exact Post.newL r' (Post.keep k' h) rr (by rw [List.length_map]; exact z) hp
  | _ => cases u <;> exact (show False from h).elim
def rBiS (G : Gx) (W : WX) (Γ : Gm) (C' : CallF) (b : Bi) : L2.St → List L2.V → Hp → VK → Prop := fun σ xs H Q => rBi G.K b xs H Q ∨ (b = .len ∧ ∃ c f Cx, c ≠ 0 ∧ Γ.meth c 6 = some f ∧ G.A c = some Cx ∧ rLenB Cx (spR G Γ C' f) (WE W) σ xs H Q) ∨ rBiD b xs H Q
theorem biS_ok (ni : noIt Γ) {b : Bi} {vs : List V} {xs : List L2.V} (hb : b ≠ .range ∧ b ≠ .enum) (hR : R G g lk s σ H) (p : RepL G g H lk vs xs) (h : Post G W lk g σ H (biR Γ C' lk b vs s) Q) : rBiS G W Γ C' b σ xs H Q := by
  cases hf : flatB b vs with
  | true => exact .inl (bi_ok hb hf hR p h)
  | false =>
    have ar : (∃ v, vs = [v]) := by
      match vs, h with
      | [v], _ => exact ⟨v, rfl⟩
      | [], h => cases b <;> exact h.elim
      | _ :: _ :: _, h => cases b <;> exact h.elim
    obtain ⟨⟨md, t⟩, rfl⟩ := ar
    cases p with
    | @cons _ x _ _ p1 p2 =>
      cases p2
      cases t with
      | dct kvs => exact .inr (.inr (bi_dct (u := false) hR p1 h))
      | dcu kvs => exact .inr (.inr (bi_dct (u := true) hR p1 h))
      | box n =>
        have p1 : Rep G g H (pO lk md) (.box n) x := p1
        cases b with
        | len =>
          have h : Post G W lk g σ H ((methR Γ C' lk n 6 (([] : List V).map parOf) s).bind fun v s' => match v.2 with
            | .int i => if 0 ≤ i ∧ i < 4611686018427387904 then okF (.int i) s' else .no
            | _ => .no) Q := h
          have key : Post G W lk g σ H (methR Γ C' lk n 6 (([] : List V).map parOf) s) (fun z H' => ∃ i, z = .int i ∧ 0 ≤ i ∧ i < 2 ^ 63 ∧ Q z H') := by
            refine Post.bind h fun v s1 g1 H1 z r1 k1 p1' h => ?_
            obtain ⟨m2, t2⟩ := v
            cases t2 with
            | int i =>
              have h : Post G W lk g1 σ H1 (if 0 ≤ i ∧ i < 4611686018427387904 then okF (.int i) s1 else .no) Q := h
              split at h
              · rename_i hc
                rw [Rep.int_inv p1']
                exact ⟨i, rfl, hc.1, by omega, Post.old r1 h .int⟩
              · exact h.elim
            | _ => exact (show False from h).elim
          obtain ⟨c, f, Cx, a, dx, fs, _, h1, h2, h3, e, h4, h5⟩ := meth_box (as := []) hR p1 .nil rfl key
          subst e
          exact .inr (.inl ⟨rfl, c, f, Cx, h1, h2, h3, a, dx, fs, rfl, h4, h5⟩)
        | list =>
          unfold biR at h
          dsimp only at h
          cases hi : itemsR Γ (.box n) s with
          | none => rw [hi] at h; exact h.elim
          | some ys =>
            rcases items_of ni hi with e | ⟨e, _⟩ | ⟨u, kvs, e, _⟩
            · cases e
            · cases e
            · cases u <;> cases e
        | range => exact absurd rfl hb.1
        | enum => exact absurd rfl hb.2
        | _ => exact h.elim
      | _ => cases hf
end
end Mi

/-! what is walked: lists, tuples, dicts -/
namespace Mi
open PySem PySem.Spec PyProof.Rows L2
section
variable {G : Gx} {W : WX} {Γ : Gm} {C C' : CallF} {g g1 g2 g' : Gh} {H H1 H2 H' : Hp} {σ σ' : L2.St} {s s1 s2 : S} {lk lk' : List Pl} {Q : VK} {D : Ends}
theorem gNames_mono {K K' : L2.St → Hp → Prop} (m : ∀ σ H, K σ H → K' σ H) : ∀ {is : List Nat} {vs : List L2.V} {σ : L2.St} {H : Hp}, gNames is vs σ H K → gNames is vs σ H K'
  | [], _, _, _, ⟨e, h⟩ => ⟨e, m _ _ h⟩
  | _ :: _, _, _, _, ⟨v, vs, e, h⟩ => ⟨v, vs, e, gNames_mono m h⟩
theorem gTg_mono {tg : Tg} {x : L2.V} {K K' : L2.St → Hp → Prop} (m : ∀ σ H, K σ H → K' σ H) (h : gTg G.K tg x σ H K) : gTg G.K tg x σ H K' := by
  cases tg with
  | one i => exact m _ _ h
  | many is =>
    obtain ⟨a, xs, e, q, hl, h⟩ := h
    exact ⟨a, xs, e, q, hl, gNames_mono m h⟩
theorem PostS.imp {D' : Ends} {r : Res Fl} (h : PostS G W lk g H r D) (i1 : ∀ σ H, D.nx σ H → D'.nx σ H) (i2 : ∀ v H, D.rt v H → D'.rt v H) (i3 : ∀ σ H, D.bk σ H → D'.bk σ H) (i4 : ∀ σ H, D.ct σ H → D'.ct σ H) : PostS G W lk g H r D' := by
  cases r with
  | no => exact h
  | exc c xs s' => exact h
  | ok f s' =>
    intro g' σ' H' r' k'
    have q := h g' σ' H' r' k'
    cases f with
    | nx => exact i1 _ _ q
    | brk => exact i3 _ _ q
    | cont => exact i4 _ _ q
    | ret v => exact fun x p st => i2 _ _ (q x p st)
theorem PostS.thaw {X : Cx} {r : Res Fl} (h : PostS G W lk g H r D) : PostS G W lk g H r (thawD X D) := h.imp (fun _ _ => .inl) (fun _ _ => .inl) (fun _ _ => .inl) fun _ _ => .inl
theorem PostS.thawM {X : Cx} {r : Res Fl} {a : Addr} {u : HO} {od : Obj} (hn : ∀ o' u', X.H_0 a ≠ some (.frz o' u')) (h : PostS G W lk g H r (meltD a u od D)) : PostS G W lk g H r (thawD X D) :=
  h.imp (fun _ _ q => .inr ⟨a, od, u, q.1, hn, q.2⟩) (fun _ _ q => .inr ⟨a, od, u, q.1, hn, q.2⟩) (fun _ _ q => .inr ⟨a, od, u, q.1, hn, q.2⟩) fun _ _ q => .inr ⟨a, od, u, q.1, hn, q.2⟩
/-- what a walk yields stands for an item -/
def Items (G : Gx) (g1 : Gh) (H1 : Hp) (lk : List Pl) (n : Nat) (Y : Nat → Hp → L2.V → Hp → Prop) (xs : List T) : Prop :=
  ∀ i x g' s' σ' H' H'', i < n → Keep g1 H1 g' H' → R G g' lk s' σ' H' → Y i H' x H'' → H'' = H' ∧ ∃ t g'', xs[i]? = some t ∧ R G g'' lk s' σ' H' ∧ Keep g' H' g'' H' ∧ Rep G g'' H' .fz t x
theorem for_core {J : It} {n : Nat} {Gd : Hp → Prop} {Y : Nat → Hp → L2.V → Hp → Prop} {tg : Tg} {body : List Sm} {xs : List T} {tb : TS} (w : Walk J n Gd Y) (hl : xs.length = n) (htb : ∀ D σ H, tSs G W Γ C C' body D σ H → tb D σ H)
    (r1 : R G g1 lk s1 σ H1) (hp : PostS G W lk g1 H1 (forL lk tg (fun s => execs Γ C C' lk body s) xs s1) D) (st : ∀ g' H', Keep g1 H1 g' H' → Gd H') (item : Items G g1 H1 lk n Y xs) :
    ∃ Wr : Nat → Nat → L2.St → Hp → Prop, (∃ m, Wr 0 m σ H1) ∧ ∀ i m σ H, Wr i m σ H →
      (J.stop i H ∧ D.nx σ H) ∨ (J.go i H ∧ ∃ N : L2.St → Hp → Prop, (∀ σ' H', N σ' H' → ∃ m', m' < m ∧ Wr (i + 1) m' σ' H') ∧ ∀ x H', J.yld i H x H' → gTg G.K tg x σ H' fun σ2 H2 => tb { D with nx := N, ct := N, bk := D.nx } σ2 H2) := by
  refine for_it w (fun i σ' H' => ∃ g' s', R G g' lk s' σ' H' ∧ Keep g1 H1 g' H' ∧ PostS G W lk g' H' (forL lk tg (fun s => execs Γ C C' lk body s) (xs.drop i) s') D)
    ⟨g1, s1, r1, Keep.refl, hp⟩ (fun i σ' H' _ ⟨g', s', _, k, _⟩ => st g' H' k) ?_ ?_
  · rintro i x σ' H' H'' hi ⟨g', s', r', k', p'⟩ y
    obtain ⟨rfl, t, g'', ht, r'', k'', pt⟩ := item i x g' s' σ' H' H'' hi k' r' y
    rw [drop_cons ht] at p'
    exact gTg_mono (fun _ _ q => htb _ _ _ q) (turn_ok r'' pt (PostS.keep k'' p') fun g2 σ2 H2 s2 r2 k2 p2 => ⟨g2, s2, r2, (k'.trans k'').trans k2, p2⟩)
  · rintro σ' H' ⟨g', s', r', k', p'⟩
    rw [← hl, List.drop_length] at p'
    exact p' g' σ' H' r' Keep.refl
theorem itemsK {kvs : List (T × T)} {dvs : List (L2.Key × L2.V)} (r : KReps G g1 H1 kvs dvs) : Items G g1 H1 lk dvs.length (fun i H x H' => H' = H ∧ ∃ k v, dvs[i]? = some (k, v) ∧ x = kV k) (kvs.map (·.1)) := by
  rintro i x g' s' σ' H' H'' hi k' r' ⟨rfl, k, v, e, rfl⟩
  refine ⟨rfl, ?_⟩
  have e2 : (dvs.map fun kv => kV kv.1)[i]? = some (kV k) := by rw [List.getElem?_map, e]; rfl
  obtain ⟨t, h1, h2⟩ := get_of (r.keys.stay k') e2
  exact ⟨t, g', h1, r', Keep.refl, h2⟩
theorem TReps.get : ∀ {kvs : List (T × T)} {dvs : List (List L2.Key × L2.V)} {i : Nat} {k : List L2.Key} {v : L2.V}, TReps G g H kvs dvs → dvs[i]? = some (k, v) → ∃ t, (kvs.map (·.1))[i]? = some t ∧ KeyU t k
  | _, _, i, _, _, .nil, e => by simp at e
  | _, _, 0, _, _, .cons h _ _ _ _ _, e => by simp at e; obtain ⟨rfl, rfl⟩ := e; exact ⟨_, rfl, h⟩
  | _, _, i + 1, k, v, .cons _ _ _ _ _ r, e => by
    obtain ⟨t, h1, h2⟩ := r.get (i := i) (k := k) (v := v) (by simpa using e)
    exact ⟨t, by simpa using h1, h2⟩
theorem itemsT {kvs : List (T × T)} {dvs : List (List L2.Key × L2.V)} (r : TReps G g1 H1 kvs dvs) :
    Items G g1 H1 lk dvs.length (fun i H x H' => H' = H ∧ ∃ (k : List L2.Key) (v : L2.V) (q : Addr), dvs[i]? = some (k, v) ∧ x = .ref q ∧ H q = some (.tup (k.map kV))) (kvs.map (·.1)) := by
  rintro i x g' s' σ' H' H'' hi k' r' ⟨rfl, k, v, q, e, rfl, hq⟩
  refine ⟨rfl, ?_⟩
  obtain ⟨t, h1, h2⟩ := r.get e
  obtain ⟨g'', r'', k'', o, _, _⟩ := own_tup r' hq
  exact ⟨t, g'', h1, r'', k'', h2.rep o hq⟩
/-- the wishes of a loop's body: of the whole, or while the walked thing stands frozen -/
def Wof (X : Cx) (W W' : WX) : Prop := W' = W ∨ ∃ d od u, (∀ o' u', X.H_0 d ≠ some (.frz o' u')) ∧ W' = wLk d od u W
def tbD (G : Gx) (X : Cx) (W : WX) (Γ : Gm) (C C' : CallF) (body : List Sm) : TS := fun D σ H => ∃ W', Wof X W W' ∧ tSs G W' Γ C C' body D σ H
theorem for_dct {X : Cx} {tg : Tg} {it : Ex} {body : List Sm} (hR : R G g lk s σ H) (h : PostS G W lk g H (exec Γ C C' lk (.for_ tg it body) s) D)
    (hd : ∀ v s1, ev Γ C C' lk it s = .ok v s1 → ∃ u kvs, v.2 = dOf u kvs) :
    tFor (iKeysF X (tE G W Γ C C' it)) (gTg G.K tg) (tbD G X W Γ C C' body) (thawD X D) σ H := by
  have h : PostS G W lk g H ((ev Γ C C' lk it s).bind fun x s1 => optR (itemsR Γ x.2 s1) fun xs => forL (lks x ++ lk) tg (fun s => execs Γ C C' (lks x ++ lk) body s) xs s1) D := h
  show tE G W Γ C C' it σ H _
  refine ⟨lk, g, s, hR, ?_⟩
  cases ea : ev Γ C C' lk it s with
  | no => rw [ea] at h; exact h.elim
  | exc c xs s1 =>
    rw [ea] at h
    exact fun g' H' cls d r' k' ex => h g' σ H' cls d r' k' ex
  | ok v s1 =>
    obtain ⟨u, kvs, e⟩ := hd v s1 ea
    rw [ea] at h
    have h : PostS G W lk g H (optR (itemsR Γ v.2 s1) fun xs => forL (lks v ++ lk) tg (fun s => execs Γ C C' (lks v ++ lk) body s) xs s1) D := h
    have hi : itemsR Γ v.2 s1 = some (kvs.map (·.1)) := by rw [e]; cases u <;> rfl
    rw [hi] at h
    have h : PostS G W lk g H (forL (lks v ++ lk) tg (fun s => execs Γ C C' (lks v ++ lk) body s) (kvs.map (·.1)) s1) D := h
    intro g1 H1 vx r1 k1 p1
    obtain ⟨g1', r1', k1', ⟨o, so, po⟩, back⟩ := pend r1 p1
    have hp : PostS G W (lks v ++ lk) g1' H1 (forL (lks v ++ lk) tg (fun s => execs Γ C C' (lks v ++ lk) body s) (kvs.map (·.1)) s1) D := PostS.unlock (x := v) (PostS.keep k1 h) fun g2 H2 s2 σ2 r2 k2 => by
      obtain ⟨g3, r3, k3, _, m3, _, f3⟩ := back g2 H2 s2 σ2 r2 k2
      exact ⟨g3, r3, k3, m3, f3⟩
    rw [e] at po
    cases u with
    | false =>
      obtain ⟨a, dvs, rfl, w, hh, z, r⟩ := Rep.dct_inv (show Rep G g1' H1 o (.dct kvs) vx from po)
      have lenE : (kvs.map (·.1)).length = dvs.length := by rw [List.length_map, r.length]
      refine ⟨a, rfl, .inl ⟨dvs, ?_⟩⟩
      rcases hh.rd with hard | ⟨od, fr⟩
      · refine .inr ⟨hard, fun od hn => ?_⟩
        have m := Mv.frz od w so hard (show Fz (.dK dvs) from trivial)
        exact for_core (tb := tbD G X W Γ C C' body) (W := wLk a od (.dK dvs) W) walk_keys lenE (fun D σ H q => ⟨_, .inr ⟨a, od, _, hn, rfl⟩, q⟩) (r1'.mv m) (PostS.thawM hn (PostS.melt w so hard trivial hp)) (fun g' H' k' => (k'.soft w so).2.trans upd_same) (itemsK (r.mv m))
      · exact .inl ⟨od, fr, for_core (tb := tbD G X W Γ C C' body) walk_keys lenE (fun D σ H q => ⟨W, .inl rfl, q⟩) r1' hp.thaw (fun g' H' k' => (k'.soft w so).2.trans fr) (itemsK r)⟩
    | true =>
      obtain ⟨a, dvs, rfl, w, hh, z, r⟩ := Rep.dcu_inv (show Rep G g1' H1 o (.dcu kvs) vx from po)
      have lenE : (kvs.map (·.1)).length = dvs.length := by rw [List.length_map, r.length]
      refine ⟨a, rfl, .inr ⟨dvs, ?_⟩⟩
      rcases hh.rd with hard | ⟨od, fr⟩
      · refine .inr ⟨hard, fun od hn => ?_⟩
        have m := Mv.frz od w so hard (show Fz (.dT dvs) from trivial)
        exact for_core (tb := tbD G X W Γ C C' body) (W := wLk a od (.dT dvs) W) walk_keysT lenE (fun D σ H q => ⟨_, .inr ⟨a, od, _, hn, rfl⟩, q⟩) (r1'.mv m) (PostS.thawM hn (PostS.melt w so hard trivial hp)) (fun g' H' k' => (k'.soft w so).2.trans upd_same) (itemsT (r.mv m))
      · exact .inl ⟨od, fr, for_core (tb := tbD G X W Γ C C' body) walk_keysT lenE (fun D σ H q => ⟨W, .inl rfl, q⟩) r1' hp.thaw (fun g' H' k' => (k'.soft w so).2.trans fr) (itemsT r)⟩
/-! ### comprehensions over a dict -/
theorem lc_core' {J : It} {n : Nat} {Gd : Hp → Prop} {Y : Nat → Hp → L2.V → Hp → Prop} {tg : Tg} {e : Ex} {c : Option Ex} {xs : List T} (w : Walk J n Gd Y) (hl : xs.length = n) (hz : xs.length ≤ szL) (r1 : R G g1 lk s1 σ H1)
    (h : Post G W lk g1 σ H1 (noExc ((compL lk tg (fun s => evc Γ C C' lk c s) (fun s => ev Γ C C' lk e s) xs [] s1).bind fun ys s2 => okO (.lst ys) s2)) Q) (st : ∀ g' H', Keep g1 H1 g' H' → Gd H') (item : Items G g1 H1 lk n Y xs) :
    ∀ D, H1 D = none → ∃ W : Nat → Nat → Hp → Prop, (∃ m, W 0 m (upd H1 D (.lst []))) ∧ ∀ i m H, W i m H →
      (J.stop i H ∧ Q (.ref D) H) ∨ (J.go i H ∧ ∃ Nx : Hp → Prop, (∀ H', Nx H' → ∃ m', m' < m ∧ W (i + 1) m' H') ∧ ∀ x H', J.yld i H x H' → gTg G.K tg x (L2.wipe σ tg.slots) H' fun σ2 H2 => L2.wipe σ2 tg.slots = L2.wipe σ tg.slots ∧ tTc G Γ C C' c σ2 H2 fun b H3 =>
        if b = true then tE G noW Γ C C' e σ2 H3 fun y H4 => ∃ acc, H4 D = some (.lst acc) ∧ acc.length < sizeLine ∧ Nx (upd H4 D (.lst (acc ++ [y]))) else Nx H3) := by
  intro D hD
  obtain ⟨g1', res, ys, sE, hres, r1', k1', _, hp⟩ := comp_core (v := (.fro, .non)) (x := .non) r1 .non hz h
  obtain ⟨m0, fin⟩ := hp D hD
  refine lc_it w (fun i H' => Mid G Γ C C' lk tg e c res D g1' H1 σ (xs.drop i) i H') m0 (fun i H' _ M => ?_) (fun i x H' H'' hi M y => ?_) (fun H' M => fin n H' (by omega) ?_)
  · obtain ⟨g', s', _, _, _, k, _⟩ := M.ex
    exact st g' H' (k1'.trans k)
  · have ht : xs[i]? = some (xs[i]'(by omega)) := List.getElem?_eq_getElem _
    rw [drop_cons ht] at M
    have e0 : H'' = H' := by
      obtain ⟨g', s', _, _, r, k, _⟩ := M.ex
      exact (item i x g' _ _ H' H'' hi (k1'.trans k) r y).1
    subst e0
    exact comp_turn hD r1'.dom hres (by omega) M fun g' s' σ' r k => by
      obtain ⟨_, t, g'', ht', r'', k'', pt⟩ := item i x g' s' σ' H'' H'' hi (k1'.trans k) r y
      rw [ht] at ht'
      cases ht'
      exact ⟨g'', r'', k'', pt⟩
  · have e0 : xs.drop n = [] := by rw [← hl, List.drop_length]
    rw [e0] at M; exact M
theorem Post.thaw {X : Cx} {r : Res V} (h : Post G W lk g σ H r Q) : Post G W lk g σ H r (thawQ X Q) := h.mono fun _ _ q => .inl q
theorem comp_dct {X : Cx} {tg : Tg} {it e : Ex} {c : Option Ex} (hR : R G g lk s σ H) (h : Post G W lk g σ H (ev Γ C C' lk (.comp e tg it c) s) Q) (hd : ∀ v s1, ev Γ C C' lk it s = .ok v s1 → ∃ u kvs, v.2 = dOf u kvs) :
    tLc (iKeysF X (tE G W Γ C C' it)) (gTg G.K tg) (tTc G Γ C C' c) (tE G noW Γ C C' e) tg.slots σ H (thawQ X Q) := by
  rw [ev] at h
  show tE G W Γ C C' it σ H _
  refine ⟨lk, g, s, hR, ?_⟩
  cases ea : ev Γ C C' lk it s with
  | no => rw [ea] at h; exact h.elim
  | exc c xs s1 =>
    rw [ea] at h
    exact fun g' H' cls d r' k' ex => h g' H' cls d r' k' ex
  | ok v s1 =>
    obtain ⟨u, kvs, ev'⟩ := hd v s1 ea
    rw [ea] at h
    have h : Post G W lk g σ H (optR (itemsR Γ v.2 s1) fun xs => noExc ((compL (lks v ++ lk) tg (fun s => evc Γ C C' (lks v ++ lk) c s) (fun s => ev Γ C C' (lks v ++ lk) e s) xs [] s1).bind fun ys s2 => okO (.lst ys) s2)) Q := h
    have hi : itemsR Γ v.2 s1 = some (kvs.map (·.1)) := by rw [ev']; cases u <;> rfl
    rw [hi] at h
    have h : Post G W lk g σ H (noExc ((compL (lks v ++ lk) tg (fun s => evc Γ C C' (lks v ++ lk) c s) (fun s => ev Γ C C' (lks v ++ lk) e s) (kvs.map (·.1)) [] s1).bind fun ys s2 => okO (.lst ys) s2)) Q := h
    intro g1 H1 vx r1 k1 p1
    obtain ⟨g1', r1', k1', ⟨o, so, po⟩, back⟩ := pend r1 p1
    have hp := Post.unpend (v := v) (g1 := g1) h k1 fun g2 H2 s2 σ2 r2 k2 => by
      obtain ⟨g3, r3, k3, _, m3, _, f3⟩ := back g2 H2 s2 σ2 r2 k2
      exact ⟨g3, r3, k3, m3, f3⟩
    rw [ev'] at po
    cases u with
    | false =>
      obtain ⟨a, dvs, rfl, w, hh, z, r⟩ := Rep.dct_inv (show Rep G g1' H1 o (.dct kvs) vx from po)
      have lenE : (kvs.map (·.1)).length = dvs.length := by rw [List.length_map, r.length]
      have hz : (kvs.map (·.1)).length ≤ szL := by rw [List.length_map]; exact z
      refine ⟨a, rfl, .inl ⟨dvs, ?_⟩⟩
      rcases hh.rd with hard | ⟨od, fr⟩
      · refine .inr ⟨hard, fun od hn => ?_⟩
        have m := Mv.frz od w so hard (show Fz (.dK dvs) from trivial)
        exact lc_core' (W := wLk a od (.dK dvs) W) walk_keys lenE hz (r1'.mv m) (Post.mono (Post.melt w so hard trivial hp) fun _ _ q => .inr ⟨a, od, _, q.1, hn, q.2⟩) (fun g' H' k' => (k'.soft w so).2.trans upd_same) (itemsK (r.mv m))
      · exact .inl ⟨od, fr, lc_core' walk_keys lenE hz r1' hp.thaw (fun g' H' k' => (k'.soft w so).2.trans fr) (itemsK r)⟩
    | true =>
      obtain ⟨a, dvs, rfl, w, hh, z, r⟩ := Rep.dcu_inv (show Rep G g1' H1 o (.dcu kvs) vx from po)
      have lenE : (kvs.map (·.1)).length = dvs.length := by rw [List.length_map, r.length]
      have hz : (kvs.map (·.1)).length ≤ szL := by rw [List.length_map]; exact z
      refine ⟨a, rfl, .inr ⟨dvs, ?_⟩⟩
      rcases hh.rd with hard | ⟨od, fr⟩
      · refine .inr ⟨hard, fun od hn => ?_⟩
        have m := Mv.frz od w so hard (show Fz (.dT dvs) from trivial)
        exact lc_core' (W := wLk a od (.dT dvs) W) walk_keysT lenE hz (r1'.mv m) (Post.mono (Post.melt w so hard trivial hp) fun _ _ q => .inr ⟨a, od, _, q.1, hn, q.2⟩) (fun g' H' k' => (k'.soft w so).2.trans upd_same) (itemsT (r.mv m))
      · exact .inl ⟨od, fr, lc_core' walk_keysT lenE hz r1' hp.thaw (fun g' H' k' => (k'.soft w so).2.trans fr) (itemsT r)⟩
end
end Mi

/-! soundness: t[::-1] of a tuple -/
namespace Mi
open PySem PySem.Spec PyProof.Rows L2
theorem fm_congr {α β : Type} {f g : α → Option β} : ∀ {l : List α}, (∀ a ∈ l, f a = g a) → l.filterMap f = l.filterMap g
  | [], _ => rfl
  | a :: l, h => by rw [List.filterMap_cons, List.filterMap_cons, h a List.mem_cons_self, fm_congr fun b hb => h b (List.mem_cons_of_mem _ hb)]
theorem rev_pick {α : Type} : ∀ l : List α, (List.range l.length).filterMap (fun m => l[l.length - 1 - m]?) = l.reverse
  | [] => rfl
  | x :: l => by
    have e : (List.range l.length).filterMap (fun m => (x :: l)[(x :: l).length - 1 - m]?) = l.reverse := by
      rw [← rev_pick l]
      refine fm_congr fun m hm => ?_
      have hm := List.mem_range.mp hm
      have : (x :: l).length - 1 - m = (l.length - 1 - m) + 1 := by rw [List.length_cons]; omega
      rw [this, List.getElem?_cons_succ]
    rw [List.length_cons, List.range_succ, List.filterMap_append, List.reverse_cons]
    rw [List.length_cons] at e
    rw [e]
    simp
theorem places_back (k : Nat) : Builtin.Slice.slicePlaces ((k : Int) - 1) (-1) (-1) = k := by
  unfold Builtin.Slice.slicePlaces
  rw [if_neg (by decide)]
  by_cases h : (k : Int) - 1 > -1
  · rw [if_pos h, show (- -1 : Int) = 1 by decide, Int.ediv_one]; omega
  · rw [if_neg h]; omega
section
variable {P : PySem.Program} {w : World} {A : Around} {E : Value → Shared → Prop} {s : Shared}
/-- the three parts of [::-1], applied to k things -/
theorem parts_back {p : Addr} {a b c : Value} {k : Nat} {R : Int × Int × Nat → Shared → Prop} (hs : s.heap.IsSliceOf p a b c) (pa : IsPart a none) (pb : IsPart b none) (pc : IsPart c (some (-1)))
    (h : R ((k : Int) - 1, -1, k) s) : wpAny (model P w) A (Builtin.Slice.sliceApplied (.ref p) (pure (k : Int))) R E s := by
  obtain ⟨o, h1, _, h2⟩ := hs
  unfold Builtin.Slice.sliceApplied Builtin.Slice.sliceFields
  refine wpAny_bind (wpAny_bind (wpAny_field h1 h2 (x := a) rfl (wpAny_bind ?_)))
  refine wpAny_field h1 h2 (x := b) rfl (wpAny_bind ?_)
  refine wpAny_field h1 h2 (x := c) rfl (wpAny_pure ?_)
  refine wpAny_bind (HT.slicePart_ pc ?_)
  show wpAny _ _ (if ((-1 : Int) == 0) = true then _ else _) R E s
  rw [if_neg (by decide)]
  refine wpAny_bind (HT.slicePart_ pa ?_)
  refine wpAny_bind (HT.slicePart_ pb ?_)
  refine wpAny_bind (wpAny_pure ?_)
  show wpAny _ _ (pure ((k : Int) - 1, (-1 : Int), Builtin.Slice.slicePlaces ((k : Int) - 1) (-1) (-1))) R E s
  rw [places_back]
  exact wpAny_pure h
theorem item_back {t p : Addr} {its : Array Value} {a b c : Value} {R : Value → Shared → Prop} (tp : IsTup s.heap t its) (hs : s.heap.IsSliceOf p a b c) (pa : IsPart a none) (pb : IsPart b none) (pc : IsPart c (some (-1))) (hz : its.size ≤ sizeLine)
    (h : R (.ref s.heap.objs.size) { s with heap := s.heap.push { cls := .type "tuple", data := .seq its.toList.reverse.toArray } }) : wpAny (model P w) A (getItem (.ref t) (.ref p)) R E s := by
  have tS : s.TypeIs (.ref p) "slice" := by
    obtain ⟨o, h1, h2, _⟩ := hs
    exact ⟨o, h1, h2⟩
  have tT := tp.typeIs
  have pick : ((List.range its.size).filterMap fun (m : Nat) => its[(((its.size : Nat) : Int) - 1 + (m : Int) * -1).toNat]?).toArray = its.toList.reverse.toArray := by
    congr 1
    rw [← rev_pick its.toList]
    rw [Array.length_toList]
    refine fm_congr fun m hm => ?_
    have hm := List.mem_range.mp hm
    rw [Array.getElem?_toList]
    congr 1
    omega
  unfold getItem
  try with_reducible refine wpAny_holding ?_
  try refine wpAny_bind (wpAny_pure ?_)
  refine wpAny_bind (wpAny_sequenceKey tT (by decide) ?_)
  refine wpAny_bind (wpAny_callSpecial?_slot (name := Str.ofString "__getitem__") tT slot_tuple_getitem ?_)
  refine wpAny_call_entry slot_tuple_getitem tT PyProof.Rows.entry_tuple_getitem ?_ (PyProof.Rows.args_tuple_getitem _ _)
  show wpAny _ A.in1 (Builtin.Tuple.tupleItemsOf (.ref t) >>= _) _ _ s
  refine wpAny_bind (PyProof.Rows.tupleItemsOf_ tp ?_)
  refine wpAny_bind (wpAny_typeOf tS ?_)
  rw [if_pos (by decide)]
  refine wpAny_bind (parts_back (k := its.size) hs pa pb pc ?_)
  have no : ¬ ((((its.size : Nat) : Int) - 1 == 0 && (-1 : Int) == 1 && its.size == its.size) = true) := by
    rw [show ((-1 : Int) == 1) = false by decide, Bool.and_false, Bool.false_and]
    exact Bool.false_ne_true
  show wpAny _ _ (if (((its.size : Nat) : Int) - 1 == 0 && (-1 : Int) == 1 && its.size == its.size) = true then _ else _) _ _ s
  rw [if_neg no, pick]
  have ok : sizeOk (.seq its.toList.reverse.toArray) := by
    show its.toList.reverse.toArray.size ≤ sizeLine
    rw [List.size_toArray, List.length_reverse, Array.length_toList]
    exact hz
  refine wpAny_bind (m := Builtin.Tuple.tupleExact _) ?_
  refine wpAny_newObj_type ?_ ok
  exact wpAny_pure ⟨_, rfl, wpAny_pure h⟩
end
/-- t[::-1] -/
def tRevT (K : PySem.W.Frag) (te : TE) : TE := fun σ H Q => te σ H fun x H1 => ∃ a xs, x = .ref a ∧ SqT K H1 a xs ∧ ∀ p, H1 p = none → Q (.ref p) (upd H1 p (.tup xs.reverse))
theorem pe_revT {X : Cx} {e : Expr} {te : TE} {k : Nat} {p1 p2 p3 pos : Pos} (he : PE X e te) : PE X (.Subscript e (.Slice none none (some (.UnaryOp .USub (.Constant (.int 1) k p1) p2)) p3) pos) (tRevT X.K te) := by
  have one : PO X (some (.UnaryOp .USub (.Constant (.int 1) k p1) p2)) (tPart (tUn (rU fun i => .int (-i)) (tC (.int 1)))) := po_some (pe_un un_neg pe_int)
  constructor
  intro pins s σ H Q I h
  refine Subscript_ (thn (he.run pins s σ H _ I h) ?_)
  rintro v s1 ⟨x, H1, I1, rx, a, xs, rfl, hx, q⟩
  obtain rfl : v = Value.ref a := rx
  refine wpAny_Slice (thn (po_none.run pins s1 σ H1 (fun o G => o = none ∧ G = H1) I1 ⟨rfl, rfl⟩) ?_)
  rintro va s2 ⟨_, _, I2, pa, rfl, rfl⟩
  refine thn (po_none.run pins s2 σ _ (fun o G => o = none ∧ G = _) I2 ⟨rfl, rfl⟩) ?_
  rintro vb s3 ⟨_, _, I3, pb, rfl, rfl⟩
  refine thn (one.run pins s3 σ _ (fun o G => o = some (-1) ∧ G = _) I3 ⟨1, rfl, -1, rfl, rfl, rfl⟩) ?_
  rintro vc s4 ⟨_, _, I4, pc, rfl, rfl⟩
  let s5 : Shared := { s4 with heap := s4.heap.push { cls := .type "slice", data := .fields #[va, vb, vc] } }
  have I5 : Inv X pins σ _ s5 := I4.kept (t' := s4.toks) fun _ _ z => Heap.get?_push_of_some _ z
  obtain ⟨its, r, ht, hz⟩ := I5.tuple hx
  show wpAny (model X.prog X.w) X.A (subscriptTail e _ (.ref a) (.ref s4.heap.objs.size)) (EP X pins σ Q) X.xe s5
  refine tail_any (ops := [.ref a, .ref s4.heap.objs.size]) ht.typeIs slot_tuple_getitem.lookup ?_ (by with_unfolding_all rfl)
  have zl := r.length
  refine item_back ht (Heap.IsSliceOf.new _ va vb vc) pa pb pc (by rw [List.size_toArray]; omega) ?_
  refine ⟨.ref s5.heap.objs.size, _, I5.laid (t' := s4.toks) (o := .tup xs.reverse) (fun _ _ z => Heap.get?_push_of_some _ z) (Nat.le_refl _) ?_, rfl, q _ (I5.hok.fresh (Nat.le_refl _))⟩
  refine ⟨by rw [List.length_reverse]; exact hz, _, r.reverse, ?_⟩
  exact IsTup.new _ _
section
variable {G : Gx} {W : WX} {Γ : Gm} {C C' : CallF} {g g1 : Gh} {H H1 : Hp} {σ : L2.St} {s : S} {lk : List Pl} {Q : VK}
theorem Reps.reverse : ∀ {ts : List T} {vs : List L2.V}, Reps G g H ts vs → Reps G g H ts.reverse vs.reverse
  | _, _, .nil => .nil
  | _, _, .cons p r => by
    rw [List.reverse_cons, List.reverse_cons]
    exact (Reps.reverse r).append (.cons p .nil)
theorem rev_e {e : Ex} (h : tE G W Γ C C' (.rev e) σ H Q) : tRevT G.K (tE G W Γ C C' e) σ H Q := by
  obtain ⟨lk, g, s, hR, h⟩ := h
  rw [ev] at h
  refine ⟨lk, g, s, hR, ?_⟩
  cases ea : ev Γ C C' lk e s with
  | no => rw [ea] at h; exact h.elim
  | exc c xs s1 => rw [ea] at h; exact h
  | ok x s1 =>
    rw [ea] at h
    intro g1 H1 vx r1 k1 p1
    obtain ⟨md, t⟩ := x
    cases t with
    | tup ts =>
      have pt : Rep G g1 H1 .fz (.tup ts) vx := p1.free (o' := .fz) rfl
      obtain ⟨a, vs, rfl, q, rs⟩ := pt.sqt
      exact ⟨a, vs, rfl, q, fun p hp => Post.newT r1 (Post.keep k1 h) rs.reverse hp⟩
    | _ => exact h.elim
end
end Mi

/-! soundness: a new box of class 0 (a dict of a law's own, keys constant texts) -/
namespace Mi
open PySem PySem.Spec PyProof.Rows L2
section
variable {G : Gx} {W : WX} {Γ : Gm} {C C' : CallF} {g g1 g' : Gh} {H H1 : Hp} {σ : L2.St} {s : S} {lk : List Pl} {Q : VK}
theorem R.box0 (r : R G g lk s σ H) {x : Addr} (hx : H x = none) :
    R G (g.mk' x) lk { s with hp := s.hp ++ [{ cls := 0, fs := [] }] } σ (upd H x (.dK [])) ∧ Keep g H (g.mk' x) (upd H x (.dK [])) ∧ ∀ o, Holds o g H (g.mk' x) (upd H x (.dK [])) := by
  have off : ∀ a o, g.ow a = some o → a ≠ x := fun a o h z => by subst z; exact r.dom _ _ h hx
  have hold : ∀ o, Holds o g H (g.mk' x) (upd H x (.dK [])) := fun o a h => by
    have n1 := off a o h
    exact ⟨by show (if a = x then _ else g.ow a) = _; rw [if_neg n1]; exact h, by rw [upd_ne n1]⟩
  have mp : MPre g (g.mk' x) := fun n a h => by
    show (g.m ++ [x])[n]? = some a
    obtain ⟨hl, _⟩ := List.getElem?_eq_some_iff.mp h
    rw [List.getElem?_append_left hl]; exact h
  have back : ∀ a o, (g.mk' x).ow a = some o → (a = x ∧ o = .bx g.m.length) ∨ (a ≠ x ∧ g.ow a = some o) := fun a o h => by
    have h : (if a = x then some (Ow.bx g.m.length) else g.ow a) = some o := h
    by_cases e : a = x
    · rw [if_pos e] at h; exact .inl ⟨e, (Option.some.inj h).symm⟩
    · rw [if_neg e] at h; exact .inr ⟨e, h⟩
  refine ⟨⟨fun a o h => ?_, r.ln, fun i mo t h hx => ?_, ?_, fun n b a h1 h2 => ?_, fun p a a' h1 h2 => ?_, fun a p h => ?_, fun i t h => (r.xl i t h).tr (hold _) mp rfl, fun a o vs h hH => by
    rcases back a o h with ⟨rfl, _⟩ | ⟨e, h⟩
    · rw [upd_same] at hH; cases hH
    · rw [upd_ne (off a o h)] at hH; exact r.tq a o vs h hH⟩, ⟨hold _, hold _, fun p => hold _, fun d => hold _ d, mp⟩, hold⟩
  · rcases back a o h with ⟨rfl, _⟩ | ⟨e, h⟩
    · rw [upd_same]; intro z; cases z
    · rw [upd_ne (off a o h)]; exact r.dom a o h
  · obtain ⟨v, h1, h2⟩ := r.sl i mo t h hx
    exact ⟨v, h1, h2.tr (hold _) mp (hold _)⟩
  · show (g.m ++ [x]).length = (s.hp ++ _).length
    rw [List.length_append, List.length_append, r.ml]; rfl
  · have h1 : (s.hp ++ [({ cls := 0, fs := [] } : Bx)])[n]? = some b := h1
    have h2 : (g.m ++ [x])[n]? = some a := h2
    by_cases hn : n < s.hp.length
    · rw [List.getElem?_append_left hn] at h1
      rw [List.getElem?_append_left (by rw [r.ml]; exact hn)] at h2
      obtain ⟨h3, h4⟩ := r.bx n b a h1 h2
      refine ⟨(hold _ a h3).1, ?_⟩
      obtain ⟨fs, z1, z3⟩ := h4
      exact ⟨fs, z1.tr (hold _ a h3).2, z3.go (fun t v h => h.tr (hold _) mp (hold _)) fun f t v _ h => h.tr (hold _) mp (hold _)⟩
    · have hl : n = s.hp.length := by
        obtain ⟨hl, _⟩ := List.getElem?_eq_some_iff.mp h1
        rw [List.length_append] at hl
        simp at hl; omega
      subst hl
      rw [List.getElem?_append_right (Nat.le_refl _), Nat.sub_self] at h1
      rw [List.getElem?_append_right (by rw [r.ml]; exact Nat.le_refl _), r.ml, Nat.sub_self] at h2
      cases h1
      cases h2
      refine ⟨by show (if x = x then _ else _) = _; rw [if_pos rfl, r.ml], ?_⟩
      refine ⟨[], ?_, .nil⟩
      unfold BoxH
      rw [if_pos rfl]
      exact upd_same
  · have key : ∀ b, ((g.mk' x).ow b = some (.pl p) ∨ (g.mk' x).ow b = some (.lkd p)) → g.ow b = some (.pl p) ∨ g.ow b = some (.lkd p) := fun b h => by
      rcases h with h | h
      · rcases back b _ h with ⟨_, z⟩ | ⟨_, h⟩
        · cases z
        · exact .inl h
      · rcases back b _ h with ⟨_, z⟩ | ⟨_, h⟩
        · cases z
        · exact .inr h
    exact r.uq p a a' (key a h1) (key a' h2)
  · rcases back a _ h with ⟨_, z⟩ | ⟨_, h⟩
    · cases z
    · exact r.li a p h
theorem FR.names {n : Nat} {fs : List (Nat × Bool × T)} {vs : List (Str × L2.V)} (h : FR G g H lk n fs vs) : ∀ q ∈ vs, ∃ p ∈ fs, StrOk q.1 p.1 := by
  induction h with
  | nil => intro q hq; cases hq
  | cons e nf h _ ih =>
    intro q hq
    rcases List.mem_cons.mp hq with rfl | hq
    · exact ⟨_, List.mem_cons_self, e⟩
    · obtain ⟨p, hp, e2⟩ := ih q hq
      exact ⟨p, List.mem_cons_of_mem _ hp, e2⟩
theorem FR.putK {n m : Nat} {fs : List (Nat × Bool × T)} {vs : List (Str × L2.V)} {y : Str} {v : L2.V} (h : FR G g H lk n fs vs) (hy : StrOk y m) :
    L2.putK (vs.map fun q => ((.inr q.1 : L2.Key), q.2)) (.inr y) v = (putF y v vs).map fun q => ((.inr q.1 : L2.Key), q.2) := by
  induction h with
  | nil => rfl
  | @cons f b t x w fs vs e nf h r ih =>
    show L2.putK _ _ _ = ((if x = y then (x, v) :: vs else (x, w) :: putF y v vs) : List (Str × L2.V)).map _
    by_cases q : x = y
    · subst q
      rw [if_pos rfl, List.map_cons, List.map_cons]
      refine putK_pos fun p hp z => ?_
      obtain ⟨p', hp', rfl⟩ := List.mem_map.mp hp
      obtain ⟨q', hq', e2⟩ := r.names p' hp'
      have ex : p'.1 = x := Sum.inr.inj z
      rw [ex] at e2
      exact nf q' hq' (e2.1.symm.trans e.1)
    · rw [if_neg q, List.map_cons, List.map_cons, putK_neg (by intro z; exact q (Sum.inr.inj z)), ih]
/-! the display: keys constant texts, values empty -/
inductive Emp where
  | l | k | t
def Emp.ex : Emp → Ex
  | .l => .lst []
  | .k => .dct []
  | .t => .dcu
def Emp.val : Emp → T
  | .l => .lst []
  | .k => .dct []
  | .t => .dcu []
def Emp.ho : Emp → HO
  | .l => .lst []
  | .k => .dK []
  | .t => .dT []
def Emp.te (e : Emp) : TE := fun _ H Q => ∀ p, H p = none → Q (.ref p) (upd H p e.ho)
theorem Emp.cont (e : Emp) : isCont e.val = true := by cases e <;> rfl
theorem emp_rep (r : R G g lk s σ H) {p : Addr} (hp : H p = none) (e : Emp) : Rep G (g.own p .tmp) (upd H p e.ho) .tmp e.val (.ref p) := by
  cases e with
  | l => exact Rep.newL r hp .nil (Nat.zero_le _)
  | k => exact .dct Gh.own_at (show upd H p (.dK []) p = _ from upd_same) (Nat.zero_le _) .nil
  | t => exact .dcu Gh.own_at (show upd H p (.dT []) p = _ from upd_same) (Nat.zero_le _) .nil
theorem emp_ho (e : Emp) : ∀ vs, e.ho ≠ .tup vs := by cases e <;> (intro vs z; cases z)
def inrM (fs : List (Str × L2.V)) : List (L2.Key × L2.V) := fs.map fun q => ((.inr q.1 : L2.Key), q.2)
theorem inrM_inj : ∀ {a b : List (Str × L2.V)}, inrM a = inrM b → a = b
  | [], [], _ => rfl
  | [], _ :: _, h => by cases h
  | _ :: _, [], h => by cases h
  | (x, v) :: a, (y, w) :: b, h => by
    have h : ((.inr x : L2.Key), v) :: inrM a = ((.inr y : L2.Key), w) :: inrM b := h
    injection h with h1 h2
    injection h1 with h3 h4
    injection h3 with h3
    rw [h3, h4, inrM_inj h2]
/-- the state with the new box -/
def withBx (s : S) (fs : List (Nat × Bool × T)) : S := { s with hp := s.hp ++ [{ cls := 0, fs := fs }] }
theorem withBx_get {fs : List (Nat × Bool × T)} : (withBx s fs).hp[s.hp.length]? = some { cls := 0, fs := fs } := by
  show (s.hp ++ [_])[s.hp.length]? = _
  rw [List.getElem?_append_right (Nat.le_refl _), Nat.sub_self]; rfl
theorem fput_len (f : Nat) (x : Bool × T) : ∀ l : List (Nat × Bool × T), (fput f x l).length ≤ l.length + 1
  | [] => Nat.le_refl _
  | (g, y) :: r => by
    unfold fput
    split
    · simp
    · have := fput_len f x r
      simp only [List.length_cons]; omega
theorem tPairs_mono : ∀ {L : List (Str × Nat × Emp)} {σ : L2.St} {H : Hp} {K K' : List (L2.V × L2.V) → Hp → Prop}, tPairs (L.map fun q => (tC (.str q.1), q.2.2.te)) σ H K → (∀ ps H', K ps H' → K' ps H') → tPairs (L.map fun q => (tC (.str q.1), q.2.2.te)) σ H K'
  | [], σ, H, K, K', h, hk => hk _ _ h
  | q :: L, σ, H, K, K', h, hk => fun p hp => tPairs_mono (L := L) (h p hp) fun ps H' h' => hk _ _ h'
theorem disp_go {p : Addr} : ∀ (L : List (Str × Nat × Emp)) (fsP : List (Nat × Bool × T)) (vsP : List (Str × L2.V)) (g : Gh) (Hc : Hp) (K : L2.V → Hp → Prop), (∀ q ∈ L, StrOk q.1 q.2.1 ∧ lk.contains (.fd s.hp.length q.2.1) = false) → fsP.length + L.length < 900 →
    Hc p = some (.dK []) → R G g lk (withBx s fsP) σ (upd Hc p (.dK (inrM vsP))) → g.m[s.hp.length]? = some p →
    (∀ g' H', R G g' lk (withBx s (L.foldl (fun d q => fput q.2.1 (true, q.2.2.val) d) fsP)) σ H' → Keep g (upd Hc p (.dK (inrM vsP))) g' H' → K (.ref p) H') →
    tPairs (L.map fun q => (tC (.str q.1), q.2.2.te)) σ Hc fun ps H2 => H2 p = some (.dK []) ∧ ∃ kvs : List (Key × L2.V), ps = kvs.map (fun kv => (kV kv.1, kv.2)) ∧ kvs.length = L.length ∧ K (.ref p) (upd H2 p (.dK (mergeK (inrM vsP) kvs)))
  | [], fsP, vsP, g, Hc, K, _, _, hp, r, hm, hk => ⟨hp, [], rfl, rfl, hk g _ r Keep.refl⟩
  | (y, f, e) :: L, fsP, vsP, g, Hc, K, hL, hz, hp, r, hm, hk => by
    obtain ⟨hy, hl⟩ := hL _ List.mem_cons_self
    show ∀ q, Hc q = none → _
    intro q hq
    have nq : q ≠ p := fun z => by subst z; rw [hp] at hq; cases hq
    have hq' : upd Hc p (.dK (inrM vsP)) q = none := by rw [upd_ne nq]; exact hq
    have r1 := r.alloc (o := .tmp) (u := e.ho) hq' (.inl rfl) (fun vs z => absurd z (emp_ho e vs))
    have k1 := keep_alloc (o := .tmp) (u := e.ho) r hq'
    have p1 := emp_rep r hq' e
    have hm1 := k1.m _ _ hm
    obtain ⟨ho, fs, hB, hF⟩ := r1.bx _ _ _ withBx_get hm1
    have hB0 := hB
    unfold BoxH at hB0
    rw [if_pos rfl, upd_ne nq.symm, upd_same] at hB0
    have efs : vsP = fs := inrM_inj (HO.dK.inj (Option.some.inj hB0))
    subst efs
    have hw : wrFld lk s.hp.length f (.own, e.val) (withBx s fsP) = some (setBx s.hp.length { cls := 0, fs := fput f (true, e.val) fsP } (withBx s fsP)) := by
      have hz' : fsP.length < 900 := by
        have : fsP.length + (L.length + 1) < 900 := hz
        omega
      unfold wrFld
      rw [hl, withBx_get]
      show (if fsP.length < 900 then some (setBx s.hp.length { cls := 0, fs := fput f (true, e.val) fsP } (withBx s fsP)) else none) = _
      rw [if_pos hz']
    obtain ⟨_, g2, r2, k2⟩ := wrFld_ok (u := .dK (inrM (putF y (.ref q) vsP))) r1 withBx_get hm1 ho (by unfold BoxH; rw [if_pos rfl]; exact upd_same) hF hy (fun _ z => by cases z) (show Rep G _ _ (mdO lk .own) e.val (.ref q) from p1) hw
    have es : setBx s.hp.length { cls := 0, fs := fput f (true, e.val) fsP } (withBx s fsP) = withBx s (fput f (true, e.val) fsP) := by
      unfold setBx withBx
      dsimp only
      rw [List.set_append_right _ _ (Nat.le_refl _), Nat.sub_self]; rfl
    have eh : upd (upd (upd Hc p (.dK (inrM vsP))) q e.ho) p (.dK (inrM (putF y (.ref q) vsP))) = upd (upd Hc q e.ho) p (.dK (inrM (putF y (.ref q) vsP))) := by
      funext a
      by_cases z : a = p
      · subst z; rw [upd_same, upd_same]
      · rw [upd_ne z, upd_ne z]
        by_cases z2 : a = q
        · subst z2; rw [upd_same, upd_same]
        · rw [upd_ne z2, upd_ne z2, upd_ne z]
    rw [es, eh] at r2
    rw [eh] at k2
    have := disp_go L (fput f (true, e.val) fsP) (putF y (.ref q) vsP) g2 (upd Hc q e.ho) K (fun q hq => hL q (List.mem_cons_of_mem _ hq)) (by have : fsP.length + (L.length + 1) < 900 := hz; have h2 := fput_len f (true, e.val) fsP; omega) (by rw [upd_ne nq.symm]; exact hp) r2 (k2.m _ _ hm1) fun g' H' r' k' => hk g' H' r' ((k1.trans k2).trans k')
    refine tPairs_mono this fun ps H2 ⟨h1, kvs, h2, h3, h4⟩ => ⟨h1, (.inr y, .ref q) :: kvs, by rw [h2]; rfl, by rw [List.length_cons, h3]; rfl, ?_⟩
    have em : mergeK (inrM vsP) ((.inr y, .ref q) :: kvs) = mergeK (inrM (putF y (.ref q) vsP)) kvs := by
      show mergeK (L2.putK (inrM vsP) (.inr y) (.ref q)) kvs = _
      rw [show L2.putK (inrM vsP) (.inr y) (.ref q) = inrM (putF y (.ref q) vsP) from hF.putK hy]
    rw [em]
    exact h4
theorem ev_emp (e : Emp) : ev Γ C C' lk e.ex s = .ok (.own, e.val) s := by cases e <;> (unfold Emp.ex Emp.val; rw [ev]; rfl)
theorem evs_emp : ∀ L : List (Str × Nat × Emp), evs Γ C C' lk (L.map fun q => q.2.2.ex) s = .ok (L.map fun q => (.own, q.2.2.val)) s
  | [] => rfl
  | (y, f, e) :: L => by
    have e0 : lks (Md.own, e.val) = [] := by cases e <;> rfl
    show evs Γ C C' lk (e.ex :: L.map fun q => q.2.2.ex) s = _
    rw [evs, ev_emp e]
    show (evs Γ C C' (lks (Md.own, e.val) ++ lk) (L.map fun q => q.2.2.ex) s).bind _ = _
    rw [e0, List.nil_append, evs_emp L]; rfl
theorem boxFs_emp : ∀ (L : List (Str × Nat × Emp)) (l : List (Nat × Bool × T)), boxFs (L.map fun q => q.2.1) (L.map fun q => ((.own, q.2.2.val) : V)) l = L.foldl (fun d q => fput q.2.1 (true, q.2.2.val) d) l
  | [], l => rfl
  | q :: L, l => boxFs_emp L _
theorem boxd_ok (L : List (Str × Nat × Emp)) (hy : ∀ q ∈ L, StrOk q.1 q.2.1) (h15 : L.length ≤ 15) (h : tE G W Γ C C' (.boxd (L.map fun q => q.2.1) (L.map fun q => q.2.2.ex)) σ H Q) : tDisp (L.map fun q => (tC (.str q.1), q.2.2.te)) σ H Q := by
  obtain ⟨lk, g, s, hR, h⟩ := h
  rw [ev, evs_emp] at h
  have h : Post G W lk g σ H (if (stoAll (L.map fun q => ((.own, q.2.2.val) : V)) && (L.map fun q => q.2.1).length == (L.map fun q => ((.own, q.2.2.val) : V)).length && (L.map fun q => q.2.1).all fun k => !lk.contains (.fd s.hp.length k)) = true then okF (.box s.hp.length) { s with hp := s.hp ++ [{ cls := 0, fs := boxFs (L.map fun q => q.2.1) (L.map fun q => ((.own, q.2.2.val) : V)) [] }] } else .no) Q := h
  split at h
  · rename_i hc
    rw [Bool.and_eq_true, List.all_eq_true] at hc
    rw [boxFs_emp] at h
    intro p hp
    obtain ⟨r0, k0, _⟩ := hR.box0 hp
    have eh : upd (upd H p (.dK [])) p (.dK (inrM [])) = upd H p (.dK []) := by
      funext a
      by_cases z : a = p
      · subst z; rw [upd_same, upd_same]; rfl
      · rw [upd_ne z, upd_ne z]
    have hm : (g.mk' p).m[s.hp.length]? = some p := by
      show (g.m ++ [p])[s.hp.length]? = some p
      rw [List.getElem?_append_right (by rw [hR.ml]; exact Nat.le_refl _), hR.ml, Nat.sub_self]; rfl
    have := disp_go (lk := lk) (σ := σ) (s := s) L [] [] (g.mk' p) (upd H p (.dK [])) Q (fun q hq => ⟨hy q hq, by simpa using hc.2 _ (List.mem_map_of_mem hq)⟩) (by simp; omega) upd_same (by rw [eh]; exact r0) hm fun g' H' r' k' => h g' H' (.ref p) r' (k0.trans (by rw [eh] at k'; exact k')) (.box (k'.m _ _ hm))
    exact tPairs_mono this fun ps H2 ⟨h1, kvs, h2, h3, h4⟩ => ⟨h1, kvs, h2, by omega, h4⟩
  · exact h.elim
end
end Mi

/-! exceptions: raise, try -/
namespace Mi
open PySem PySem.Spec PyProof.Rows L2
/-! ### a class of the program that is raised -/
def eqVx (a b : Option (Option Value)) : Bool := decide (a = b)
/-- the class object of an exception class over ValueError, with a dict -/
def exObjB (C : Addr) (o : Option Obj) : Bool := match o with
  | some ⟨.type t, _, .cls cd, sl⟩ => decide (t = "type") && cd.hasDict && !cd.hasDel && (match cd.mro with
      | .ref c :: bm => decide (c = C) && PySem.HandSPX.refsVE bm
      | _ => false) && (match sl with
      | ⟨[_, _, _, _, some (.builtin b), _]⟩ => decide (b = "ValueError.__new__")
      | _ => false)
  | _ => false
def oexB (K : PySem.W.Frag) (C : Addr) : Bool := exObjB C (K.lookup C) && (decide (PySem.W.findIn K (.ref C) "__setattr__" = some (some (.builtin "object.__setattr__"))) &&
  (decide (PySem.W.subIn K (.ref C) (.type "BaseException") = some true) && (decide (PySem.W.typeIn K (.ref C) = some (.type "type")) && PySem.W.keepIn K (.ref C))))
theorem oexB_ok {K : PySem.W.Frag} {C : Addr} (h : oexB K C = true) : OexC K C := by
  unfold oexB at h
  simp only [Bool.and_eq_true, decide_eq_true_eq] at h
  obtain ⟨h1, h2, h3, h4, h5⟩ := h
  refine ⟨?_, h2, h3, h4, h5⟩
  generalize hl : K.lookup C = lo at h1
  unfold exObjB at h1
  split at h1
  · rename_i t dd cd sl
    simp only [Bool.and_eq_true, decide_eq_true_eq, Bool.not_eq_true'] at h1
    obtain ⟨⟨⟨⟨rfl, hd⟩, hx⟩, hm⟩, hs⟩ := h1
    obtain ⟨nm, bs, mro, N, q, hasD, sn, sub, ab, col, del⟩ := cd
    dsimp only at hd hx hm
    subst hd hx
    split at hm
    · rename_i c bm
      simp only [Bool.and_eq_true, decide_eq_true_eq] at hm
      obtain ⟨rfl, hb⟩ := hm
      split at hs
      · rename_i k0 k1 k2 k3 b k5
        have hs := of_decide_eq_true hs
        subst hs
        exact ⟨nm, q, N, bs, bm, sn, sub, ab, col, dd, k0, k1, k2, k3, k5, rfl, hb⟩
      · cases hs
    · cases hm
  · cases h1
/-- the fields of an exception made of ys -/
def xFs (ys : List L2.V) : List (Str × L2.V) := (excNames.zip ys).reverse
/-- what its __init__ does -/
def spXI (K : PySem.W.Frag) (n : Nat) : Sp := fun vs H Q _ => ∃ (a Cx : Addr) (ys : List L2.V), vs = .ref a :: ys ∧ ys.length = n ∧ OexC K Cx ∧ (∀ y ∈ excNames, PySem.W.findIn K (.ref Cx) y = some none) ∧ H a = some (exo a Cx none) ∧
  ∀ dx, H dx = none → dx ≠ a → Q .non (upd (upd H dx (exd dx (xFs ys))) a (exo a Cx (some dx)))
section
variable {G : Gx} {W : WX} {Γ : Gm} {C C' : CallF} {g g1 g2 g' : Gh} {H H1 H2 H' : Hp} {σ σ' : L2.St} {s s1 s2 : S} {lk lk' : List Pl} {Q : VK} {D : Ends}
theorem lookup_rev {α β : Type} [BEq α] [LawfulBEq α] {k : α} {v : β} : ∀ {l : List (α × β)}, (l.map (·.1)).Nodup → (k, v) ∈ l → l.reverse.lookup k = some v := by
  intro l nd hm
  have nd' : (l.reverse.map (·.1)).Nodup := by rw [List.map_reverse]; exact List.pairwise_reverse.mpr (nd.imp fun z => Ne.symm z)
  have hm' : (k, v) ∈ l.reverse := List.mem_reverse.mpr hm
  generalize l.reverse = r at nd' hm'
  induction r with
  | nil => cases hm'
  | cons p r ih =>
    obtain ⟨a, b⟩ := p
    rw [List.lookup_cons]
    have nd2 := List.nodup_cons.mp nd'
    rcases List.mem_cons.mp hm' with e | e
    · cases e
      rw [beq_self_eq_true]
    · have : k ≠ a := fun z => nd2.1 (by rw [← z]; exact List.mem_map_of_mem (f := (·.1)) e)
      rw [beq_eq_false_iff_ne.mpr this]
      exact ih nd2.2 e
theorem zip_fst {α β : Type} : ∀ (l : List α) (ys : List β), ((l.zip ys).map (·.1)).Sublist l
  | [], _ => .slnil
  | _ :: _, [] => List.nil_sublist _
  | a :: l, y :: ys => .cons₂ a (zip_fst l ys)
theorem xFs_get {ys : List L2.V} {i : Nat} {n : Str} {v : L2.V} (hn : excNames[i]? = some n) (hv : ys[i]? = some v) : (xFs ys).lookup n = some v := by
  have nd : ((excNames.zip ys).map (·.1)).Nodup := by
    have h0 : excNames.Nodup := by decide
    exact h0.sublist (zip_fst _ _)
  refine lookup_rev nd ?_
  have : (excNames.zip ys)[i]? = some (n, v) := by rw [List.getElem?_zip_eq_some]; exact ⟨hn, hv⟩
  exact List.mem_of_getElem? this
/-- raise c(..) -/
theorem rai_ok {c n : Nat} {as : List Ex} {Cx : Addr} (hA : G.A.E c = some Cx) (ha : Γ.arity c = some n) (hn : n ≤ 3) (T : OexC G.K Cx) (hno : ∀ y ∈ excNames, PySem.W.findIn G.K (.ref Cx) y = some none) (h : tS G W Γ C C' (.rai c as) D σ H) :
    tMkO Cx (spXI G.K n) [] (tEs G W Γ C C' as) σ H fun cls d H' => W cls d σ H' := by
  obtain ⟨lk, g, s, hR, h⟩ := h
  refine ⟨lk, g, s, hR, ?_⟩
  have h : PostS G W lk g H ((evs Γ C C' lk as s).bind fun vs s1 => if stoAll vs && Γ.arity c == some vs.length then .exc c (vals vs) s1 else .no) D := by
    have e : exec Γ C C' lk (.rai c as) s = (evs Γ C C' lk as s).bind fun vs s1 => if stoAll vs && Γ.arity c == some vs.length then .exc c (vals vs) s1 else .no := by rw [exec]
    rw [← e]; exact h
  cases ea : evs Γ C C' lk as s with
  | no => rw [ea] at h; exact h.elim
  | exc d xs s1 => rw [ea] at h; exact fun g' H' cls dd r' k' x' => h g' σ H' cls dd r' k' x'
  | ok vs s1 =>
    rw [ea] at h
    have h : PostS G W lk g H (if stoAll vs && Γ.arity c == some vs.length then .exc c (vals vs) s1 else .no) D := h
    intro g1 H1 xs r1 k1 p1
    split at h
    · rename_i hc
      simp only [Bool.and_eq_true, beq_iff_eq] at hc
      obtain ⟨hs, hl⟩ := hc
      rw [ha] at hl
      have hl : n = vs.length := Option.some.inj hl
      have hxl : vs.length = xs.length := Paired.len p1
      refine ⟨by omega, fun a hfa => ⟨a, Cx, xs ++ [], rfl, by rw [List.append_nil]; omega, T, hno, upd_same, fun dx hdx hne => ⟨rfl, dx, xFs (xs ++ []), upd_same, ?_, ?_, ?_⟩⟩⟩
      · rw [upd_ne hne]; exact upd_same
      · rw [upd_ne hne] at hdx; exact hdx
      · rw [List.append_nil]
        rw [upd_ne hne] at hdx
        have eH : upd (del (upd (upd (upd H1 a (exo a Cx none)) dx (exd dx (xFs xs))) a (exo a Cx (some dx))) a) dx (.xd (xFs xs)) = upd H1 dx (.xd (xFs xs)) := by
          funext b
          by_cases hb : b = dx
          · subst hb; rw [upd_same, upd_same]
          · rw [upd_ne hb, upd_ne hb]
            by_cases hba : b = a
            · subst hba; rw [del_same, hfa]
            · rw [del_ne hba, upd_ne hba, upd_ne hb, upd_ne hba]
        rw [eH]
        have r2 := r1.alloc (p := dx) (o := .fz) (u := .xd (xFs xs)) hdx (.inr (.inl rfl))
        have k2 := keep_alloc r1 (p := dx) (o := .fz) (u := .xd (xFs xs)) hdx
        refine h (g1.own dx .fz) σ _ (.ref Cx) (some dx) r2 (k1.trans k2) ⟨Cx, dx, xFs xs, hA, rfl, rfl, upd_same, Gh.own_at, fun i t hi => ?_⟩
        have rr := RepL.reps hs p1
        obtain ⟨v, hv, rv⟩ := rr.get hi
        have hi3 : i < 3 := by
          have := (List.getElem?_eq_some_iff.mp hi).1
          unfold vals at this
          rw [List.length_map] at this
          omega
        have hnm : ∃ nm, excNames[i]? = some nm := ⟨excNames[i], List.getElem?_eq_getElem hi3⟩
        obtain ⟨nm, hnm⟩ := hnm
        exact ⟨nm, v, hnm, xFs_get hnm hv, rv.tr k2.fz k2.m k2.fz⟩
    · exact h.elim
end
end Mi
namespace Mi
open PySem PySem.Spec PyProof.Rows L2
/-! ### a try and its clauses -/
/-- an exception that this frame has caught: s0 is the state without it -/
structure Cgt (X : Cx) (pins : List (Addr × Obj)) (σ : L2.St) (H : Hp) (B : Heap) (a : Addr) (cls : Value) (d : Option Addr) (s0 s : Shared) : Prop where
  J : Inv X pins σ H s0
  nb : ∀ b o, s0.heap.get? b = some o → b ∉ frs X.stack → B.get? b = some o
  up : s0.heap.UpToSlots s.heap
  fl : HandSPX.FlyingZ B X.stack a (Zc cls d) s.heap
  na : H a = none
  os : s.os = s0.os
  ag : AllBare s.gens
section
variable {X : Cx} {pins : List (Addr × Obj)} {σ : L2.St} {H : Hp} {B : Heap} {a : Addr} {cls : Value} {d : Option Addr} {s0 s : Shared}
theorem Cgt.now (c : Cgt X pins σ H B a cls d s0 s) : Inv X pins σ H s := Inv.landed c.J c.nb c.fl.1 c.up c.os c.ag
theorem Cgt.on (c : Cgt X pins σ H B a cls d s0 s) {h' : Heap} (f : HandSPX.FlyingZ B X.stack a (Zc cls d) h') (u : s.heap.UpToSlots h') : Cgt X pins σ H B a cls d s0 { s with heap := h' } :=
  { c with up := c.up.trans u, fl := f }
theorem Cgt.notFrame (c : Cgt X pins σ H B a cls d s0 s) : a ∉ X.stack.filterMap (·.frame) := fun hm => by
  obtain ⟨oe, vs, e1, _, e2⟩ := c.fl.there
  obtain ⟨_, o, e3, e4⟩ := c.fl.2.2.1.mem hm
  rw [e1] at e3
  cases e3
  exact e4 vs e2
/-- the state in which a clause's suite starts -/
theorem Cgt.suite (c : Cgt X pins σ H B a cls d s0 s) (stk : X.stack = X.env :: X.outer) (fr : X.env.frame = some X.env.locals) :
    ∃ oe, Zc cls d oe ∧ (∃ vs, oe.data = .fields vs) ∧ s.heap.get? a = some oe ∧ Inv (X.suite a ((a, oe) :: (X.pn ++ pins))) [] σ H s := by
  have nf := c.notFrame
  rw [stk] at nf
  have n1 : a ≠ X.env.locals := fun z => nf (List.mem_filterMap.mpr ⟨X.env, .head _, by rw [fr, z]⟩)
  have n2 : a ∉ X.fs := fun hm => by
    obtain ⟨e, he, q⟩ := List.mem_filterMap.mp hm
    exact nf (List.mem_filterMap.mpr ⟨e, .tail _ he, q⟩)
  obtain ⟨oe, vs, e1, e2, e3⟩ := c.fl.there
  exact ⟨oe, e2, ⟨vs, e3⟩, e1, c.now.suite e1 e3 c.na n1 n2⟩
/-- the name of a clause's class is read -/
theorem Cgt.reads (c : Cgt X pins σ H B a cls d s0 s) (stk : X.stack = X.env :: X.outer) (fr : X.env.frame = some X.env.locals) {x : Str} {v : Value} (hv : Names X x v) {p : Pos} {Q E : Value → Shared → Prop} {Q' : Value → Shared → Prop} (q : Q' v s) :
    wpAny (model X.prog X.w) (X.A.mark (some (.ref a))) (eval (.Name x p) X.env) Q' E s := by
  obtain ⟨oe, _, _, _, S⟩ := c.suite stk fr
  obtain ⟨g1, g2, g3⟩ := hv
  rcases g3 with g3 | ⟨g3, g4, g5⟩
  · exact ld_glob (X := X.suite a ((a, oe) :: (X.pn ++ pins))) S g1 g3 q g2
  · exact ld_blt (X := X.suite a ((a, oe) :: (X.pn ++ pins))) S g1 g3 g4 q g5 g2
/-- no clause fits: it flies on -/
theorem Cgt.pass (c : Cgt X pins σ H B a cls d s0 s) (fr : X.env.frame = some X.env.locals) {Wout : WX} (tk : Takes X Wout) (w : Wout cls d σ H) {Q : Flow → Shared → Prop} : wpAny (model X.prog X.w) X.A (handleBy (.ref a) X.env []) Q X.xe s := by
  refine wpAny_handleBy_nil ?_
  have last : wpAny (model X.prog X.w) X.A (setFlight (.ref a) X.env.frame) (fun _ z => wpAny (model X.prog X.w) X.A (throw (.ref a) : Sem Flow) Q X.xe z) X.xe s := by
    rw [fr]
    exact HandSPX.setFlight_upZ c.fl fun h' held u => wpAny_throw (tk _ _ ⟨a, B, s0, pins, σ, H, cls, d, rfl, c.J, c.nb, c.up.trans u, .inr (.inr held), c.na, c.os, c.ag, w⟩)
  obtain ⟨_, _, _, oe, vs, tb, _, _, e1, _, e2, e3, _⟩ := id c.fl
  unfold PySem.passOn
  refine wpAny_bind (wpAny_field e1 e2 e3 ?_)
  have ne : ¬ ((Value.ref tb == Value.none) = true) := by simp
  rw [if_neg ne]
  first
    | exact wpAny_bind (wpAny_pure (wpAny_bind last))
    | exact wpAny_bind last
end
/-- a clause: its class, the slot of its name, its suite -/
structure Cl where
  c : Value
  i : Option Nat
  ts : Addr → Value → Option Addr → TS
def clEnds : Option Nat → Ends → Ends
  | none, D => D
  | some i, D => { nx := fun τ K => D.nx (τ.set i none) K, rt := D.rt, bk := fun τ K => D.bk (τ.set i none) K, ct := fun τ K => D.ct (τ.set i none) K }
def clSt (a : Addr) : Option Nat → L2.St → L2.St
  | none, σ => σ
  | some i, σ => σ.set i (some (.ref a))
/-- what the clauses wish of an exception -/
def wCls (K : PySem.W.Frag) (Wout : WX) (D : Ends) : List Cl → WX
  | [], cls, d, σ, H => Wout cls d σ H
  | q :: r, cls, d, σ, H => (PySem.W.exmOne K cls q.c = some true ∧ ∀ a, H a = none → q.ts a cls d (clEnds q.i D) (clSt a q.i σ) H) ∨ (PySem.W.exmOne K cls q.c = some false ∧ wCls K Wout D r cls d σ H)
/-- the clauses' texts -/
def SuiteOk (X : Cx) (b : List Stmt) (ts : Addr → Value → Option Addr → TS) : Prop := ∀ (a : Addr) (oe : Obj) (cls : Value) (d : Option Addr) (pn : List (Addr × Obj)), Zc cls d oe → (∃ vs, oe.data = .fields vs) → PSs (X.suite a ((a, oe) :: pn)) b (ts a cls d)
inductive ClsOk (X : Cx) : List ExceptHandler → List Cl → Prop
  | nil : ClsOk X [] []
  | bare {x : Str} {v : Value} {ts : Addr → Value → Option Addr → TS} {st : Stmt} {b : List Stmt} {p p' : Pos} {hs : List ExceptHandler} {l : List Cl} (hv : Names X x v) (hb : SuiteOk X (st :: b) ts) (r : ClsOk X hs l) : ClsOk X (.ExceptHandler (some (.Name x p)) none (st :: b) p' :: hs) (⟨v, none, ts⟩ :: l)
  | named {x n : Str} {i : Nat} {v : Value} {ts : Addr → Value → Option Addr → TS} {st : Stmt} {b : List Stmt} {p p' : Pos} {hs : List ExceptHandler} {l : List Cl} (hv : Names X x v) (hi : X.N[i]? = some n) (hl : X.env.kindOf n = some .local) (hb : SuiteOk X (st :: b) ts) (r : ClsOk X hs l) :
      ClsOk X (.ExceptHandler (some (.Name x p)) (some n) (st :: b) p' :: hs) (⟨v, some i, ts⟩ :: l)
section
variable {X : Cx} {pins : List (Addr × Obj)} {σ : L2.St} {H : Hp} {B : Heap} {a : Addr} {cls : Value} {d : Option Addr} {s0 s : Shared} {D : Ends}
theorem out_suite (ok : X.Ok) {q : Addr × Obj} {f : Flow} {s' : Shared} (h : SP (X.suite a (q :: (X.pn ++ pins))) [] D f s') : SP X pins D f s' := by
  cases f with
  | ret u =>
    obtain ⟨v, τ, K, I, r, z⟩ := h
    exact ⟨v, τ, K, I.unsuite ok, r, z⟩
  | next =>
    obtain ⟨τ, K, I, z⟩ := h
    exact ⟨τ, K, I.unsuite ok, z⟩
  | brk =>
    obtain ⟨τ, K, I, z⟩ := h
    exact ⟨τ, K, I.unsuite ok, z⟩
  | cont =>
    obtain ⟨τ, K, I, z⟩ := h
    exact ⟨τ, K, I.unsuite ok, z⟩
theorem clauses_run (stk : X.stack = X.env :: X.outer) (fr : X.env.frame = some X.env.locals) (nd : X.N.Nodup) {Wout : WX} (tk : Takes X Wout) (ok : X.Ok) {hs : List ExceptHandler} {l : List Cl} (hk : ClsOk X hs l) (c : Cgt X pins σ H B a cls d s0 s) (w : wCls X.K Wout D l cls d σ H) :
    wpAny (model X.prog X.w) X.A (handleBy (.ref a) X.env hs) (SP X pins D) X.xe s := by
  have look : PySem.W.Looks (model X.prog X.w) s.heap (typeOf (.ref a)) cls := fun A Q E z k q => by
    obtain ⟨oe, _, e1, e2, _⟩ := c.fl.there
    exact wpAny_typeOf_ref (k _ _ e1) (by rw [e2.1]; exact q)
  induction hk with
  | nil => exact c.pass fr tk w
  | @bare x v ts st b p p' hs l hv hb r ih =>
    refine wpAny_handleBy_cons (codeAny_handlers_test (c.reads stk fr hv (Q := fun _ _ => True) ?_)) (by intro z; cases z)
    rcases w with ⟨m, w⟩ | ⟨m, w⟩
    · refine (PySem.W.exm_one (M := model X.prog X.w) c.now.kIn look m).here ?_
      refine codeAny_handlers_suite (HandSPX.lands_againZ (l := X.stack) c.fl fun h' f' u' => ?_)
      obtain ⟨oe, z1, z2, _, S⟩ := (c.on f' u').suite stk fr
      exact wpAny_mono ((hb a oe cls d (X.pn ++ pins) z1 z2).run [] _ σ H D S (w a c.na)) (fun f z q => out_suite ok q) fun _ _ z => False.elim z
    · refine (PySem.W.exm_one (M := model X.prog X.w) c.now.kIn look m).here ?_
      exact ih w
  | @named x n i v ts st b p p' hs l hv hi hl hb r ih =>
    refine wpAny_handleBy_cons (codeAny_handlers_test (c.reads stk fr hv (Q := fun _ _ => True) ?_)) (by intro z; cases z)
    rcases w with ⟨m, w⟩ | ⟨m, w⟩
    · refine (PySem.W.exm_one (M := model X.prog X.w) c.now.kIn look m).here ?_
      refine codeAny_handlers_suite_as (HandSPX.lands_againZ (l := X.stack) c.fl fun h' f' u' => ?_)
      obtain ⟨oe, z1, z2, _, S⟩ := (c.on f' u').suite stk fr
      refine store_ok (X := X.suite a ((a, oe) :: (X.pn ++ pins))) (v := .ref a) S nd hi (.inl hl) rfl (fun z S' => ?_) (.inr hl)
      refine wpAny_mono ((hb a oe cls d (X.pn ++ pins) z1 z2).run [] z _ H _ S' (w a c.na)) (fun f z q => ?_) fun _ _ z => False.elim z
      have end_ : ∀ {τ : L2.St} {K : Hp} {R : Shared → Prop}, Inv X pins τ K z → (∀ z', Inv X pins (τ.set i none) K z' → R z') → wpAny (model X.prog X.w) X.A (do bindName X.env n .none; unbindBehindTheSuite X.env n p') (fun _ z' => R z') X.xe z :=
        fun I k => gone_ok I nd hi hl k
      have q := out_suite ok q
      cases f with
      | ret u =>
        obtain ⟨y, τ, K, I, r, k⟩ := q
        exact end_ I fun z' I' => ⟨y, _, K, I', r, k⟩
      | next =>
        obtain ⟨τ, K, I, k⟩ := q
        exact end_ I fun z' I' => ⟨_, K, I', k⟩
      | brk =>
        obtain ⟨τ, K, I, k⟩ := q
        exact end_ I fun z' I' => ⟨_, K, I', k⟩
      | cont =>
        obtain ⟨τ, K, I, k⟩ := q
        exact end_ I fun z' I' => ⟨_, K, I', k⟩
    · refine (PySem.W.exm_one (M := model X.prog X.w) c.now.kIn look m).here ?_
      exact ih w
/-- try: body / except ..: .. -/
theorem ps_tryC {body : List Stmt} {h0 : ExceptHandler} {hs : List ExceptHandler} {l : List Cl} {pos : Pos} {tb : WX → TS} {Wout : WX} (stk : X.stack = X.env :: X.outer) (fr : X.env.frame = some X.env.locals) (nd : X.N.Nodup) (tk : Takes X Wout)
    (hb : ∀ (W : WX) (pn : List (Addr × Obj)) (xe : Value → Shared → Prop), Takes (X.tr pn xe) W → PassesOwn (model X.prog X.w) X.A X.env xe → PSs (X.tr pn xe) body (tb W)) (hk : ClsOk X (h0 :: hs) l) :
    PS X (.Try body (h0 :: hs) [] [] pos) fun De τ K => tb (wCls X.K Wout De l) De τ K := by
  refine ⟨fun pins s σ H De I h => ?_⟩
  have ok := I.ok
  let caught : Value → Shared → Prop := fun e z => wpAny (model X.prog X.w) X.A (noteFrame e X.env) (fun _ z2 => wpAny (model X.prog X.w) X.A (setFlight e none) (fun _ z3 => wpAny (model X.prog X.w) X.A (handleBy e X.env (h0 :: hs)) (SP X pins De) X.xe z3) X.xe z2) X.xe z
  have take : Takes (X.tr (X.pn ++ pins) caught) (wCls X.K Wout De l) := fun u z x => by
    obtain ⟨a, B, zI, pins', τ, K, cls, d, rfl, J, nb, up, sky, na, os, ag, w⟩ := x
    have sk : Sky B (X.env :: X.outer) a (Zc cls d) X.env.locals z.heap := by rw [← stk]; exact sky
    have af : X.A.frames = some (X.env :: X.outer) := by rw [ok.frames, stk]
    refine Sky.land Zc.steady af fr sk fun h' f' u' => ?_
    exact clauses_run stk fr nd tk ok hk { J := J.ofTry ok, nb := nb, up := up.trans u', fl := (by rw [stk]; exact f'), na := na, os := os, ag := ag } w
  refine wpAny_Try_except (wpAny_mono ((hb _ _ caught take PassesOwn.looking).run [] s σ H De (I.toTry _) h) (fun f z q => ?_) fun _ _ x => x)
  cases f with
  | ret u =>
    obtain ⟨v, τ, K, J, r, k⟩ := q
    exact ⟨v, τ, K, J.ofTry ok, r, k⟩
  | next =>
    obtain ⟨τ, K, J, k⟩ := q
    exact wpAny_execs_nil ⟨τ, K, J.ofTry ok, k⟩
  | brk =>
    obtain ⟨τ, K, J, k⟩ := q
    exact ⟨τ, K, J.ofTry ok, k⟩
  | cont =>
    obtain ⟨τ, K, J, k⟩ := q
    exact ⟨τ, K, J.ofTry ok, k⟩
end
end Mi

/-! try: Mini's clauses -/
namespace Mi
open PySem PySem.Spec PyProof.Rows L2
/-- all but the exception that is handled -/
structure SameG (G G' : Gx) : Prop where
  K : G.K = G'.K
  A : ∀ c, G.A.A c = G'.A.A c
  E : ∀ c, G.A.E c = G'.A.E c
theorem SameG.symm {G G' : Gx} (h : SameG G G') : SameG G' G := ⟨h.K.symm, fun c => (h.A c).symm, fun c => (h.E c).symm⟩
mutual
theorem Rep.re {G G' : Gx} {g : Gh} {H : Hp} (e : SameG G G') : ∀ {o : Ow} {t : T} {v : L2.V}, Rep G g H o t v → Rep G' g H o t v
  | _, _, _, .non => .non
  | _, _, _, .bl => .bl
  | _, _, _, .int => .int
  | _, _, _, .str h => .str h
  | _, _, _, .tup h r => .tup (by rw [← e.K]; exact h) (Reps.re e r)
  | _, _, _, .lst w h z r => .lst w h z (Reps.re e r)
  | _, _, _, .lstK h z r => .lstK (by rw [← e.K]; exact h) z (Reps.re e r)
  | _, _, _, .dct w h z r => .dct w h z (KReps.re e r)
  | _, _, _, .dcu w h z r => .dcu w h z (TReps.re e r)
  | _, _, _, .box h => .box h
  | _, _, _, .cls h => .cls (by rw [← e.A]; exact h)
theorem Reps.re {G G' : Gx} {g : Gh} {H : Hp} (e : SameG G G') : ∀ {ts : List T} {vs : List L2.V}, Reps G g H ts vs → Reps G' g H ts vs
  | _, _, .nil => .nil
  | _, _, .cons h r => .cons (Rep.re e h) (Reps.re e r)
theorem KReps.re {G G' : Gx} {g : Gh} {H : Hp} (e : SameG G G') : ∀ {ts : List (T × T)} {vs : List (L2.Key × L2.V)}, KReps G g H ts vs → KReps G' g H ts vs
  | _, _, .nil => .nil
  | _, _, .cons k n h r => .cons k n (Rep.re e h) (KReps.re e r)
theorem TReps.re {G G' : Gx} {g : Gh} {H : Hp} (e : SameG G G') : ∀ {ts : List (T × T)} {vs : List (List L2.Key × L2.V)}, TReps G g H ts vs → TReps G' g H ts vs
  | _, _, .nil => .nil
  | _, _, .cons k u b n h r => .cons k u b n (Rep.re e h) (TReps.re e r)
end
section
variable {G G' : Gx} {W : WX} {Γ : Gm} {C C' : CallF} {g g1 g2 g' : Gh} {H H1 H2 H' : Hp} {σ σ' : L2.St} {s s1 s2 : S} {lk lk' : List Pl} {Q : VK} {D : Ends}
theorem FR.re (e : SameG G G') {n : Nat} : ∀ {fs : List (Nat × Bool × T)} {vs : List (Str × L2.V)}, FR G g H lk n fs vs → FR G' g H lk n fs vs
  | _, _, .nil => .nil
  | _, _, .cons k nf h r => .cons k nf (Rep.re e h) (FR.re e r)
theorem BoxH.re (e : SameG G G') {c : Nat} {a : Addr} {fs : List (Str × L2.V)} (h : BoxH G c H a fs) : BoxH G' c H a fs := by
  unfold BoxH at h ⊢
  split
  · rename_i hc; rw [if_pos hc] at h; exact h
  · rename_i hc; rw [if_neg hc] at h
    obtain ⟨q, dx, h1, h2⟩ := h
    exact ⟨q, dx, by rw [← e.A]; exact h1, h2⟩
theorem ExcR.re (e : SameG G G') {c : Nat} {xs : List T} {cls : Value} {d : Option Addr} (h : ExcR G g H c xs cls d) : ExcR G' g H c xs cls d := by
  obtain ⟨q, da, fs, h1, h2, h3, h4, h5, h6⟩ := h
  refine ⟨q, da, fs, by rw [← e.E]; exact h1, h2, h3, h4, h5, fun i t hi => ?_⟩
  obtain ⟨n, v, z1, z2, z3⟩ := h6 i t hi
  exact ⟨n, v, z1, z2, z3.re e⟩
theorem R.re (e : SameG G G') (r : R G g lk s σ H) (hx : ∀ i t, s.loc[i]? = some (some (.xc, t)) → XcR G' g H σ i t) : R G' g lk s σ H :=
  ⟨r.dom, r.ln, fun i mo t h1 h2 => by
    obtain ⟨v, z1, z2⟩ := r.sl i mo t h1 h2
    exact ⟨v, z1, z2.re e⟩, r.ml, fun n b a h1 h2 => by
    obtain ⟨z1, fs, z2, z3⟩ := r.bx n b a h1 h2
    exact ⟨z1, fs, z2.re e, z3.re e⟩, r.uq, r.li, hx, r.tq⟩
/-- the program's classes, while the exception at a is handled in slot i -/
def atX (G : Gx) (i : Nat) (a : Addr) (oe : Obj) : Gx := { G with A := { G.A with xp := some (i, a, oe) } }
theorem atX_same {i : Nat} {a : Addr} {oe : Obj} : SameG G (atX G i a oe) := ⟨rfl, fun _ => rfl, fun _ => rfl⟩
/-- the caught exception gets its slot -/
theorem R.catch (hn : G.A.xp = none) (r : R G g lk s σ H) {i : Nat} {a : Addr} {oe : Obj} {c : Nat} {xs : List T} (hx : ExcR G g H c xs oe.cls oe.dict) :
    R (atX G i a oe) g lk { s with loc := s.loc.set i (some (.xc, .exc c xs)) } (σ.set i (some (.ref a))) H := by
  have e : SameG G (atX G i a oe) := atX_same
  have none_ : ∀ j t, s.loc[j]? ≠ some (some (Mo.xc, t)) := fun j t h => by
    obtain ⟨_, _, _, _, _, z, _⟩ := r.xl j t h
    rw [hn] at z; cases z
  refine ⟨r.dom, by rw [List.length_set, List.length_set]; exact r.ln, fun j mo t h1 h2 => ?_, r.ml, fun n b q h1 h2 => ?_, r.uq, r.li, fun j t h => ?_, r.tq⟩
  · rcases getElem?_set_some h1 with ⟨_, z, _⟩ | ⟨ne, z⟩
    · cases z; exact absurd rfl h2
    · obtain ⟨v, w1, w2⟩ := r.sl j mo t z h2
      exact ⟨v, by rw [List.getElem?_set_ne ne]; exact w1, w2.re e⟩
  · obtain ⟨z1, fs, z2, z3⟩ := r.bx n b q h1 h2
    exact ⟨z1, fs, z2.re e, z3.re e⟩
  · rcases getElem?_set_some h with ⟨ej, z, hl⟩ | ⟨ne, z⟩
    · subst ej
      cases z
      exact ⟨c, xs, a, oe, rfl, rfl, List.getElem?_set_self (by rw [← r.ln]; exact hl), hx.re e⟩
    · exact absurd z (none_ j t)
/-- .. and loses it -/
theorem R.uncatch {i : Nat} {a : Addr} {oe : Obj} (r : R (atX G i a oe) g lk s σ H) : R G g lk (wipe (.one i) s) (σ.set i none) H := by
  have r1 := r.wipes [i]
  have r1 : R (atX G i a oe) g lk (wipe (.one i) s) (σ.set i none) H := r1
  refine r1.re atX_same.symm fun j t h => ?_
  obtain ⟨hj, h0⟩ := wipeL_get h
  obtain ⟨_, _, _, _, _, z, _⟩ := r.xl j t h0
  have z : some (i, a, oe) = some (j, _, _) := z
  cases z
  exact absurd (List.mem_singleton.mpr rfl) hj
/-- a clause of Mini's -/
def clOf (G : Gx) (Γ : Gm) (C C' : CallF) (v : Value) (b : List Sm) : Option Nat → Cl
  | none => ⟨v, none, fun _ _ _ => tSs G noW Γ C C' b⟩
  | some i => ⟨v, some i, fun a cls d De τ K => ∀ oe, Zc cls d oe → (∃ vs, oe.data = .fields vs) → tSs (atX G i a oe) noW Γ C C' b De τ K⟩
inductive HdCl (G : Gx) (Γ : Gm) (C C' : CallF) : Hd → List Cl → Prop
  | nil : HdCl G Γ C C' .nil []
  | cons {c : Nat} {x : Option Nat} {b : List Sm} {r : Hd} {l : List Cl} {q : Addr} (he : G.A.E c = some q) (h : HdCl G Γ C C' r l) : HdCl G Γ C C' (.cons c x b r) (clOf G Γ C C' (.ref q) b x :: l)
theorem clOf_c {v : Value} {b : List Sm} {x : Option Nat} : (clOf G Γ C C' v b x).c = v := by cases x <;> rfl
theorem hd_ok (hn : G.A.xp = none) (hs : ∀ c d p q, G.A.E c = some p → G.A.E d = some q → PySem.W.exmOne G.K (.ref p) (.ref q) = some (Γ.sub c d)) {h : Hd} {l : List Cl} (hc : HdCl G Γ C C' h l) {c : Nat} {xs : List T} {cls : Value} {d : Option Addr} (r : R G g lk s σ H) (hx : ExcR G g H c xs cls d)
    (hp : PostS G W lk g H (exh Γ C C' lk h c xs s) D) : wCls G.K W D l cls d σ H := by
  induction hc with
  | nil =>
    have hp : PostS G W lk g H (.exc c xs s) D := by have e : exh Γ C C' lk .nil c xs s = .exc c xs s := by unfold exh; rfl
                                                     rw [e] at hp; exact hp
    exact hp g σ H cls d r .refl hx
  | @cons e x b rest l q he hrest ih =>
    obtain ⟨p, da, fs, h1, h2, h3, h4⟩ := id hx
    have hm := hs c e p q h1 he
    have hp : PostS G W lk g H (if Γ.sub c e then
      (match x with
       | some i => if lk.contains (.sl i) then .no else (noExc (execs Γ C C' lk b { s with loc := s.loc.set i (some (.xc, .exc c xs)) })).bind fun f s3 => .ok f (wipe (.one i) s3)
       | none => noExc (execs Γ C C' lk b s))
      else exh Γ C C' lk rest c xs s) D := by
      have e : exh Γ C C' lk (.cons e x b rest) c xs s = (if Γ.sub c e then
      (match x with
       | some i => if lk.contains (.sl i) then .no else (noExc (execs Γ C C' lk b { s with loc := s.loc.set i (some (.xc, .exc c xs)) })).bind fun f s3 => .ok f (wipe (.one i) s3)
       | none => noExc (execs Γ C C' lk b s))
      else exh Γ C C' lk rest c xs s) := by (conv => lhs; unfold exh); cases x <;> rfl
      rw [e] at hp; exact hp
    show (PySem.W.exmOne G.K cls (clOf G Γ C C' (.ref q) b x).c = some true ∧ _) ∨ (PySem.W.exmOne G.K cls (clOf G Γ C C' (.ref q) b x).c = some false ∧ _)
    rw [clOf_c, h2, hm]
    cases hsub : Γ.sub c e with
    | false =>
      rw [hsub, if_neg (by decide)] at hp
      have := ih hp
      rw [h2] at this
      exact .inr ⟨rfl, this⟩
    | true =>
      rw [hsub, if_pos rfl] at hp
      refine .inl ⟨rfl, fun a ha => ?_⟩
      cases x with
      | none =>
        refine ⟨lk, g, s, r, ?_⟩
        dsimp only at hp
        cases eb : execs Γ C C' lk b s with
        | no => rw [eb] at hp; exact hp.elim
        | exc _ _ _ => rw [eb] at hp; exact (show False from hp).elim
        | ok f s3 => rw [eb] at hp; exact hp
      | some i =>
        dsimp only at hp
        split at hp
        · exact hp.elim
        · intro oe hz _
          have hx' : ExcR G g H c xs oe.cls oe.dict := by rw [hz.1, hz.2, ← h2]; exact hx
          refine ⟨lk, g, _, r.catch hn hx', ?_⟩
          cases eb : execs Γ C C' lk b { s with loc := s.loc.set i (some (.xc, .exc c xs)) } with
          | no => rw [eb] at hp; exact hp.elim
          | exc _ _ _ => rw [eb] at hp; exact (show False from hp).elim
          | ok f s3 =>
            rw [eb] at hp
            have hp : PostS G W lk g H (.ok f (wipe (.one i) s3)) D := hp
            intro g' τ K r' k'
            have z := hp g' _ K r'.uncatch k'
            cases f with
            | nx => exact z
            | brk => exact z
            | cont => exact z
            | ret v => exact fun y hy hs => z y (hy.re atX_same.symm) hs
theorem tr_ok (hn : G.A.xp = none) (hs : ∀ c d p q, G.A.E c = some p → G.A.E d = some q → PySem.W.exmOne G.K (.ref p) (.ref q) = some (Γ.sub c d)) {b : List Sm} {h : Hd} {l : List Cl} (hc : HdCl G Γ C C' h l) (ht : tS G W Γ C C' (.tr b h) D σ H) :
    tSs G (wCls G.K W D l) Γ C C' b D σ H := by
  obtain ⟨lk, g, s, hR, ht⟩ := ht
  refine ⟨lk, g, s, hR, ?_⟩
  rw [exec] at ht
  cases eb : execs Γ C C' lk b s with
  | no => rw [eb] at ht; exact ht.elim
  | ok f s1 => rw [eb] at ht; exact ht
  | exc c xs s1 =>
    rw [eb] at ht
    exact fun g' σ' H' cls d r' k' hx => hd_ok hn hs hc r' hx (PostS.keep k' ht)
end
end Mi

/-! d.get(k, x) -/
namespace Mi
open PySem PySem.Spec PyProof.Rows L2
section
variable {G : Gx} {W : WX} {Γ : Gm} {C C' : CallF} {g g1 g2 g' : Gh} {H H1 H2 H' : Hp} {σ σ' : L2.St} {s s1 s2 : S} {lk lk' : List Pl} {Q : VK} {D : Ends}
theorem soft_tr {o : Ow} {t : T} {v : L2.V} (so : o.soft = true) (k : Keep g H g' H') (h : Rep G g H o t v) : Rep G g' H' o t v := by
  refine h.tr k.fz k.m ?_
  cases o with
  | fz => exact k.fz
  | ext => exact k.ext
  | lkd p => exact k.lkd p
  | _ => cases so
theorem evs_two {lk : List Pl} {a b : Ex} {s : S} : evs Γ C C' lk [a, b] s = (ev Γ C C' lk a s).bind fun x s1 => (ev Γ C C' (lks x ++ lk) b s1).bind fun y s2 => .ok [x, y] s2 := by
  rw [evs]
  cases ev Γ C C' lk a s with
  | no => rfl
  | exc _ _ _ => rfl
  | ok x s1 =>
    show (evs Γ C C' (lks x ++ lk) [b] s1).bind _ = (ev Γ C C' (lks x ++ lk) b s1).bind _
    rw [evs]
    cases ev Γ C C' (lks x ++ lk) b s1 with
    | no => rfl
    | exc _ _ _ => rfl
    | ok y s2 => rfl
theorem isD_of {o : Ow} {t : T} {v : L2.V} (hd : isDct t = true) (so : o.soft = true) (h : Rep G g H o t v) : ∃ a, v = .ref a ∧ IsD H a ∧ ∃ u kvs, t = dOf u kvs := by
  cases t with
  | dct kvs =>
    obtain ⟨a, dvs, rfl, w, hh, z, r⟩ := Rep.dct_inv h
    exact ⟨a, rfl, .inl ⟨dvs, hh.rd⟩, false, kvs, rfl⟩
  | dcu kvs =>
    obtain ⟨a, dvs, rfl, w, hh, z, r⟩ := Rep.dcu_inv h
    exact ⟨a, rfl, .inr ⟨dvs, hh.rd⟩, true, kvs, rfl⟩
  | _ => cases hd
theorem get_ok {e k d : Ex} (h : tE G W Γ C C' (.get e [k, d]) σ H Q) : tDGet2 (tE G W Γ C C' e) (tE G W Γ C C' k) (tE G W Γ C C' d) σ H Q := by
  obtain ⟨lk, g, s, hR, h⟩ := h
  have h : Post G W lk g σ H ((ev Γ C C' lk e s).bind fun x s1 => if isDct x.2 then (evs Γ C C' (lks x ++ lk) [k, d] s1).bind fun vs s2 => getR x.2 vs s2 else .no) Q := by
    have z : ev Γ C C' lk (.get e [k, d]) s = (ev Γ C C' lk e s).bind fun x s1 => if isDct x.2 then (evs Γ C C' (lks x ++ lk) [k, d] s1).bind fun vs s2 => getR x.2 vs s2 else .no := by rw [ev]
    rw [← z]; exact h
  refine ⟨lk, g, s, hR, ?_⟩
  cases ea : ev Γ C C' lk e s with
  | no => rw [ea] at h; exact h.elim
  | exc c xs s1 => rw [ea] at h; exact h
  | ok x s1 =>
    rw [ea] at h
    have h : Post G W lk g σ H (if isDct x.2 then (evs Γ C C' (lks x ++ lk) [k, d] s1).bind fun vs s2 => getR x.2 vs s2 else .no) Q := h
    split at h
    rotate_left
    · exact h.elim
    rename_i hd
    rw [evs_two] at h
    intro g1 H1 vx r1 k1 p1
    obtain ⟨g1', r1', k1', ⟨o, so, po⟩, back⟩ := pend r1 p1
    obtain ⟨a, rfl, hD, u, kvs, ex⟩ := isD_of hd so po
    refine ⟨a, rfl, hD, ?_⟩
    have h2 : Post G W (lks x ++ lk) g1' σ H1 (((ev Γ C C' (lks x ++ lk) k s1).bind fun v s2 => (ev Γ C C' (lks v ++ (lks x ++ lk)) d s2).bind fun y s3 => .ok [v, y] s3).bind fun vs s2 => getR x.2 vs s2) Q :=
      Post.unpend (v := x) (g1 := g1) h k1 fun g2 H2 s2 σ2 r2 k2 => by
        obtain ⟨g3, r3, k3, _, m3, _, f3⟩ := back g2 H2 s2 σ2 r2 k2
        exact ⟨g3, r3, k3, m3, f3⟩
    refine ⟨lks x ++ lk, g1', s1, r1', ?_⟩
    cases ek : ev Γ C C' (lks x ++ lk) k s1 with
    | no => rw [ek] at h2; exact h2.elim
    | exc c xs s2 => rw [ek] at h2; exact h2
    | ok v s2 =>
      rw [ek] at h2
      have h2 : Post G W (lks x ++ lk) g1' σ H1 (((ev Γ C C' (lks v ++ (lks x ++ lk)) d s2).bind fun y s3 => .ok [v, y] s3).bind fun vs s2 => getR x.2 vs s2) Q := h2
      intro g2 H2 vk r2 k2 p2
      obtain ⟨g2', r2', k2', _, back2⟩ := pend r2 p2
      refine ⟨lks v ++ (lks x ++ lk), g2', s2, r2', ?_⟩
      cases ed : ev Γ C C' (lks v ++ (lks x ++ lk)) d s2 with
      | no => rw [ed] at h2; exact h2.elim
      | exc c xs s3 =>
        rw [ed] at h2
        intro g3 H3 cls dd r3 k3 exr
        obtain ⟨g4, r4, k4, _, m4, _, f4⟩ := back2 g3 H3 s3 σ r3 k3
        exact h2 g4 H3 cls dd r4 (k2.trans k4) (exr.move (fun t v z => m4 .fro t v z) f4)
      | ok y s3 =>
        rw [ed] at h2
        have h2 : Post G W (lks x ++ lk) g1' σ H1 (getR x.2 [v, y] s3) Q := h2
        intro g3 H3 vy r3 k3 p3
        obtain ⟨g4, r4, k4, q4, m4, _⟩ := back2 g3 H3 s3 σ r3 k3
        have kk := k2.trans k4
        have pd : Rep G g4 H3 o (dOf u kvs) (.ref a) := by rw [← ex]; exact soft_tr so kk po
        have h2 : Post G W (lks x ++ lk) g4 σ H3 (if dKey u v.2 && y.1.sto then okF ((v.2.look kvs).getD y.2) s3 else .no) Q := by
          have z := Post.keep kk h2
          rw [ex] at z
          cases u <;> exact z
        split at h2
        · rename_i hc
          rw [Bool.and_eq_true] at hc
          obtain ⟨a', r, ea', gd, q⟩ := dget_of hc.1 pd q4
          cases ea'
          refine ⟨r, gd, ?_⟩
          rcases q with ⟨q1, rfl⟩ | ⟨t, w, q1, rfl, q3⟩
          · rw [q1] at h2
            obtain ⟨r5, k5, p5, _⟩ := sto_frz r4 hc.2 (m4 _ _ _ p3)
            exact Post.old r5 (Post.keep k5 h2) p5
          · rw [q1] at h2
            exact Post.old r4 h2 q3
        · exact h2.elim
end
end Mi

/-! a def that sees no boxes -/
namespace Mi
open PySem PySem.Spec PyProof.Rows L2
def allX (o : Ow) : Ow := if o = .fz then .fz else .ext
theorem allX_fz : allX .fz = .fz := rfl
theorem allX_or (o : Ow) : allX o = .fz ∧ o = .fz ∨ allX o = .ext := by
  by_cases h : o = .fz
  · exact .inl ⟨if_pos h, h⟩
  · exact .inr (if_neg h)
/-- all is lent, no box is seen -/
def Gh.shut (g : Gh) : Gh := ⟨(g.retag allX).ow, []⟩
section
variable {G : Gx} {W : WX} {Γ : Gm} {C C' : CallF} {g g1 g2 g' : Gh} {H H1 H2 H' : Hp} {σ σ' : L2.St} {s s1 s2 : S} {lk lk' : List Pl} {Q : VK} {D : Ends}
mutual
theorem Rep.bare {m : List Addr} : ∀ {o : Ow} {t : T} {v : L2.V}, Rep G g H o t v → ∀ (n : Nat), t.dataN n = true → Rep G ⟨g.ow, m⟩ H o t v
  | _, _, _, .non => fun _ _ => .non
  | _, _, _, .bl => fun _ _ => .bl
  | _, _, _, .int => fun _ _ => .int
  | _, _, _, .str h => fun _ _ => .str h
  | _, _, _, .tup h r => fun n d => by
    cases n with
    | zero => cases d
    | succ n => exact .tup h (Reps.bare r n d)
  | _, _, _, .lst w h z r => fun n d => by
    cases n with
    | zero => cases d
    | succ n => exact .lst w h z (Reps.bare r n d)
  | _, _, _, .lstK h z r => fun n d => by
    cases n with
    | zero => cases d
    | succ n => exact .lstK h z (Reps.bare r n d)
  | _, _, _, .dct _ _ _ _ => fun n d => by cases n <;> cases d
  | _, _, _, .dcu _ _ _ _ => fun n d => by cases n <;> cases d
  | _, _, _, .box _ => fun n d => by cases n <;> cases d
  | _, _, _, .cls _ => fun n d => by cases n <;> cases d
theorem Reps.bare {m : List Addr} : ∀ {ts : List T} {vs : List L2.V}, Reps G g H ts vs → ∀ (n : Nat), T.dataNs ts n = true → Reps G ⟨g.ow, m⟩ H ts vs
  | _, _, .nil => fun _ _ => .nil
  | _, _, .cons h r => fun n d => by
    have d' := d
    simp only [T.dataNs, Bool.and_eq_true] at d'
    exact .cons (Rep.bare h n d'.1) (Reps.bare r n d'.2)
end
theorem R.shut (r : R G g lk s σ H) : RH G g.shut [] [] H := by
  have back : ∀ a o', g.shut.ow a = some o' → ∃ o, g.ow a = some o ∧ allX o = o' := fun a o' h => retag_some (ρ := allX) h
  refine ⟨fun a o' h => ?_, rfl, fun i mo t h => by simp at h, rfl, fun n b a h _ => by simp at h, fun p a a' h _ => ?_, fun a p h => ?_, fun i t h => by simp at h, fun a o' vs h hH => ?_⟩
  · obtain ⟨o, h1, _⟩ := back a o' h
    exact r.dom a o h1
  · exfalso
    rcases h with h | h <;>
      (obtain ⟨o, _, h2⟩ := back a _ h
       rcases allX_or o with ⟨z, _⟩ | z <;> (rw [z] at h2; cases h2))
  · exfalso
    obtain ⟨o, _, h2⟩ := back a _ h
    rcases allX_or o with ⟨z, _⟩ | z <;> (rw [z] at h2; cases h2)
  · obtain ⟨o, h1, h2⟩ := back a o' h
    have := r.tq a o vs h1 hH
    subst this
    exact h2.symm
theorem args_shut : ∀ {vs : List V} {xs : List L2.V}, RepL G g H lk vs xs → vs.all (fun v => v.2.data) = true → Paired (fun (a : Mo × T) v => Rep G g.shut H (parO a.1) a.2 v) (vs.map parOf) xs
  | _, _, .nil, _ => .nil
  | v :: vs, _, .cons p r, h => by
    rw [List.all_cons, Bool.and_eq_true] at h
    refine .cons ?_ (args_shut r h.2)
    obtain ⟨md, t⟩ := v
    have p' : Rep G g H (pO lk md) t _ := p
    have go : ∀ {o o' : Ow} {x}, allX o = o' → (o.soft = true → o'.soft = true) → Rep G g H o t x → Rep G g.shut H o' t x := fun e k z => Rep.bare (m := []) (Rep.retagS allX_fz e k z) 8 (show t.dataN 8 = true from h.1)
    cases md with
    | own => exact go rfl id p'
    | fro => exact go rfl id p'
    | bor op =>
      have x : ∀ o : Ow, o ≠ .fz → allX o = .ext := fun o ho => if_neg ho
      cases op with
      | none => exact go (x _ (by intro z; cases z)) (fun _ => rfl) p'
      | some pl =>
        refine go (x (plO lk pl) ?_) (fun _ => rfl) p'
        unfold plO
        split <;> (intro z; cases z)
theorem R.frame (r : R G g lk s σ H) (e : ∀ a o, g.ow a = some o → H' a = H a) : R G g lk s σ H' := by
  have hold : ∀ o, Holds o g H g H' := fun o a h => ⟨h, e a o h⟩
  have mp : MPre g g := fun _ _ h => h
  refine ⟨fun a o h => by rw [e a o h]; exact r.dom a o h, r.ln, fun i mo t h hx => ?_, r.ml, fun n b a h1 h2 => ?_, r.uq, r.li, fun i t h => (r.xl i t h).tr (hold _) mp rfl, fun a o vs h hH => r.tq a o vs h (by rw [← e a o h]; exact hH)⟩
  · obtain ⟨v, h1, h2⟩ := r.sl i mo t h hx
    exact ⟨v, h1, h2.tr (hold _) mp (hold _)⟩
  · obtain ⟨h3, fs, z1, z3⟩ := r.bx n b a h1 h2
    exact ⟨h3, fs, z1.tr (e a _ h3), z3.go (fun t v h => h.tr (hold _) mp (hold _)) fun f t v _ h => h.tr (hold _) mp (hold _)⟩
theorem callc_ok {f : Nat} {as : List Ex} (h : tE G W Γ C C' (.callc f as) σ H Q) : tCallRS (spR G Γ C f) (WE W) (tEs G W Γ C C' as) σ H Q := by
  obtain ⟨lk, g, s, hR, h⟩ := h
  rw [ev] at h
  refine many_at hR h fun vs s1 g1 H1 xs _ r1 p1 h1 => ?_
  split at h1
  rotate_left
  · exact h1.elim
  rename_i hc
  refine ⟨g1.shut, [], [], vs.map parOf, rfl, r1.shut, fun p hp => (nomatch hp), args_shut p1 hc, map_own, ?_⟩
  unfold callCR at h1
  unfold callA callAK
  cases hf : Γ.fn f with
  | none => rw [hf] at h1; exact h1.elim
  | some fd =>
    rw [hf] at h1
    dsimp only at h1 ⊢
    cases hb : bindArgs fd (vs.map parOf) [] with
    | none => rw [hb] at h1; exact h1.elim
    | some l =>
      rw [hb] at h1
      dsimp only at h1 ⊢
      cases hr : C f l [] [] with
      | no => rw [hr] at h1; exact h1.elim
      | exc _ _ _ => rw [hr] at h1; exact h1.elim
      | ok v s' =>
        rw [hr] at h1
        dsimp only at h1
        obtain ⟨md, t⟩ := v
        cases t with
        | bl b =>
          intro g2 H2 x r2 k2 p2 _
          have h1 : Post G W lk g1 σ H1 (okF (.bl b) s1) Q := h1
          have e : ∀ a o, g1.ow a = some o → H2 a = H1 a := fun a o ho => by
            have hs : g1.shut.ow a = some (allX o) := retag_at (ρ := allX) ho
            rcases allX_or o with ⟨z, _⟩ | z
            · rw [z] at hs; exact (k2.fz a hs).2
            · rw [z] at hs; exact (k2.ext a hs).2
          have hx := Rep.bl_inv p2
          subst hx
          exact h1 g1 H2 _ (r1.frame e) ⟨fun a h => ⟨h, e a _ h⟩, fun a h => ⟨h, e a _ h⟩, fun p a h => ⟨h, e a _ h⟩, fun d h => ⟨h, e d _ h⟩, fun _ _ h => h⟩ .bl
        | _ => exact h1.elim
end
end Mi

/-! the facts of a module and of a body, for the main induction -/
namespace L2
open PySem PySem.Spec PyProof.Rows
section
variable {X : Cx} {CX : CXT} {k : Nat} {f C p0 g0 : Addr} {mc : Value} {sp : Sp} {E : St → XK} {x m : Str} {p pos apos : Pos} {e o : Expr} {es : List Expr} {ta : TE} {t : TA} {pl : Sem Bool}
theorem pe_cmethRS0 (he : PE X o ta) (r : ClX.CRead X.K C mc) (c : ClX.CMet X.K C mc m p0 g0) (F : FnR X.prog X.w X.K X.mg X.base CX k g0 sp) (hr : Room k X.A) (hx : ∀ σ, PassesAt CX X σ (E σ))
    (ht : eval (.Call (.Attribute o m apos) [] [] pos) X.env = (do
      let ov ← eval o X.env
      standAt apos.atName
      let (f, first) ← holding [ov] (getMethod ov m pl)
      callWith pos f first (backTo pos (starEach [] X.env)) (backToKw pos (keywordEach [] X.env)))) :
    PE X (.Call (.Attribute o m apos) [] [] pos) (tCMethRS C sp E ta tNil) := by
  refine ⟨fun pins s σ H Q I h => ?_⟩
  refine PySem.W.methodCall_KW (pl := pl) (thn (he.run pins s σ H _ I h) fun u s1 ⟨x, H1, I1, rx, ex, q⟩ => ?_) ht
  subst ex
  obtain rfl : u = Value.ref C := rx
  refine ClX.getmethcm_ok I1 r c fun s2 I2 => ?_
  exact PySem.W.callWith_M0 (first := []) ⟨ClX.pin_at I2, I2.kIn⟩ c.fi (run_cmRS (us := []) F hr (hx σ) I2 .nil q)
/-- C.m is a staticmethod: its record at p, its def at g -/
structure SMet (K : PySem.W.Frag) (C : Addr) (mc : Value) (m : Str) (p g : Addr) : Prop where
  at_ : PySem.W.findCls K (.ref C) mc m = some (.get (.builtin "staticmethod.__get__") (.ref p) .none (.ref C))
  rc : ∃ rest, PySem.W.recIn K p "staticmethod" = some (.ref g :: rest)
  kp : PySem.W.keepIn K (.ref g) = true
def tSMethRS (C : Addr) (sp : Sp) (E : St → XK) (ta : TE) : TE := fun σ H Q => ta σ H fun x H1 => x = .ref C ∧ sp [] H1 Q (E σ)
theorem pe_smethRS0 (he : PE X o ta) (r : ClX.CRead X.K C mc) (c : SMet X.K C mc m p0 g0) (F : FnR X.prog X.w X.K X.mg X.base CX k g0 sp) (hr : Room k X.A) (hx : ∀ σ, PassesAt CX X σ (E σ))
    (ht : eval (.Call (.Attribute o m apos) [] [] pos) X.env = (do
      let ov ← eval o X.env
      standAt apos.atName
      let (f, first) ← holding [ov] (getMethod ov m pl)
      callWith pos f first (backTo pos (starEach [] X.env)) (backToKw pos (keywordEach [] X.env)))) :
    PE X (.Call (.Attribute o m apos) [] [] pos) (tSMethRS C sp E ta) := by
  refine ⟨fun pins s σ H Q I h => ?_⟩
  refine PySem.W.methodCall_KW (pl := pl) (thn (he.run pins s σ H _ I h) fun u s1 ⟨x, H1, I1, rx, ex, q⟩ => ?_) ht
  subst ex
  obtain rfl : u = Value.ref C := rx
  obtain ⟨rest, hp⟩ := c.rc
  refine PySem.W.method_cls I1.kIn r.ga (PySem.W.cls_bind I1.kIn r.rd c.at_ (wpAny_call (PySem.W.sm_get (s := { s1 with toks := s1.toks + 1 }) I1.kIn hp (PySem.W.handed_on rfl ?_))))
  exact PySem.W.callWith_K0 (first := []) (I1.tok _).kIn c.kp (wpAny_call (run_rs (us := []) F hr (hx σ) (I1.tok _) .nil q))
/-- a def's promise to a call with keywords ks, their values behind the others -/
def FnRK (P : Program) (w : World) (K : PySem.W.Frag) (mg : Str → Option Value) (base : Heap) (CX : CXT) (k : Nat) (f : Addr) (ks : List Str) (sp : Sp) : Prop :=
  ∀ (A : Around) (outer : List Env) (s : Shared) (H : Hp) (us ws : List Value) (vs zs : List V) (Q : VK) (E : XK), Room k A → Env0 P w K mg base A outer s H → Vals vs us → Vals zs ws → ws.length = ks.length → sp (vs ++ zs) H Q E →
    codeAny (model P w) A (.call (.ref f) ⟨us, ks.zip ws⟩) (CR CX outer P w H s Q E) s
theorem run_rsK {ks : List Str} {pins : List (Addr × Obj)} {σ : St} {H : Hp} {s : Shared} {Q : VK} {us ws : List Value} {vs zs : List V} {EE : XK} (F : FnRK X.prog X.w X.K X.mg X.base CX k f ks sp) (hr : Room k X.A) (hx : PassesAt CX X σ EE)
    (I : Inv X pins σ H s) (r : Vals vs us) (rz : Vals zs ws) (hl : ws.length = ks.length) (h : sp (vs ++ zs) H Q EE) : codeAny (model X.prog X.w) X.A (.call (.ref f) ⟨us, ks.zip ws⟩) (fun r s' => match r with | .ok (.ret v) => EP X pins σ Q v s' | .ok _ => False | .error e => X.xe e s') s := by
  refine codeAny_mono (F X.A X.stack s H us ws vs zs Q EE hr I.env0 r rz hl h) fun r s' hq => ?_
  cases r with
  | error e => exact hx pins H s e s' I hq
  | ok fl =>
    cases fl with
    | ret u => exact I.after hq
    | next => exact False.elim hq
    | brk => exact False.elim hq
    | cont => exact False.elim hq
/-- o.m(.., k = v, ..) -/
def tMethRSK (C : Addr) (m : Str) (nk : Nat) (sp : Sp) (E : St → XK) (ta : TE) (t tk : TA) : TE := fun σ H Q => ta σ H fun x H1 => ∃ a dx fs, x = .ref a ∧ H1 a = some (.ins C dx fs) ∧ fs.lookup m = none ∧ t σ H1 fun vs H2 => tk σ H2 fun zs H3 => zs.length = nk ∧ sp (x :: (vs ++ zs)) H3 Q (E σ)
theorem pe_methRSK {ks : List Str} {kws : List Keyword} {tk : TA} (he : PE X o ta) (c : Cls X.K C) (hm : Meth X.K C m f) (F : FnRK X.prog X.w X.K X.mg X.base CX k f ks sp) (hr : Room k X.A) (hx : ∀ σ, PassesAt CX X σ (E σ)) (ha : PA X es t) (hkw : PK X kws tk)
    (hst : ∀ e es', es = e :: es' → starEach (e :: es') X.env = (false, eval e X.env) :: starEach es' X.env) (hpl : ((backTo pos (starEach es X.env)).any (·.1) || (backToKw pos (keywordEach kws X.env)).any (·.1.isNone)) = false)
    (hall : (backToKw pos (keywordEach kws X.env)).all (·.1.isSome) = true) (hks : (backToKw pos (keywordEach kws X.env)).filterMap (·.1) = ks) (hnil : es = [] → ∀ σ H Q, t σ H Q → Q [] H)
    (ht : eval (.Call (.Attribute o m apos) es kws pos) X.env = (do
      let ov ← eval o X.env
      standAt apos.atName
      let (f, first) ← holding [ov] (getMethod ov m pl)
      callWith pos f first (backTo pos (starEach es X.env)) (backToKw pos (keywordEach kws X.env)))) :
    PE X (.Call (.Attribute o m apos) es kws pos) (tMethRSK C m ks.length sp E ta t tk) := by
  refine ⟨fun pins s σ H Q I h => ?_⟩
  refine PySem.W.methodCall_KW (pl := pl) (thn (he.run pins s σ H _ I h) fun u s1 ⟨x, H1, I1, rx, a, dx, fs, ex, ea, l, q⟩ => ?_) ht
  subst ex
  obtain rfl : u = Value.ref a := rx
  refine getmeth_ok I1 ea c hm l ?_
  cases es with
  | nil =>
    refine PySem.W.callWith_KW0 (first := [.ref a]) (h₀ := X.base) I.ok.mod.kin hm.kp hall ?_ hpl
    refine thn (hkw.run pos pins s1 σ H1 _ I1 (hnil rfl _ _ _ q)) fun ws s2 ⟨zs, H3, I3, rz, hl, q4⟩ => ⟨I3.kIn, ?_⟩
    rw [hks]
    exact wpAny_call (run_rsK (us := [.ref a]) (vs := [.ref a]) F hr (hx σ) I3 (.cons rfl .nil) rz (by rw [← rz.length]; exact hl) q4)
  | cons e es =>
    refine PySem.W.callWith_KW (first := [.ref a]) (h₀ := X.base) I.ok.mod.kin hm.kp hall (thn (ha.run pos pins s1 σ H1 _ I1 q) fun us s2 ⟨vs, H2, I2, r, q2⟩ => ?_) hpl (hst e es rfl)
    refine thn (hkw.run pos pins s2 σ H2 _ I2 q2) fun ws s3 ⟨zs, H3, I3, rz, hl, q3⟩ => ⟨I3.kIn, ?_⟩
    rw [hks]
    exact wpAny_call (run_rsK (us := .ref a :: us) (vs := .ref a :: vs) F hr (hx σ) I3 (.cons rfl r) rz (by rw [← rz.length]; exact hl) q3)
theorem call_attrK {kws : List Keyword} {env : Env} (hb : attributeBase o m env (eval o env) = eval o env) (hl : (apos.endLine == pos.line) = true) (hf : methodCallForm (es.length + kws.length) (backTo pos (starEach es env)) (backToKw pos (keywordEach kws env)) = true) :
    eval (.Call (.Attribute o m apos) es kws pos) env = (do
      let ov ← eval o env
      standAt apos.atName
      let (f, first) ← holding [ov] (getMethod ov m (plainOf o env))
      callWith pos f first (backTo pos (starEach es env)) (backToKw pos (keywordEach kws env))) := by
  rw [eval, hb]
  congr 1
  funext ov
  congr 1
  funext _
  exact mcall_line hf hl
theorem call_attr {env : Env} (hb : attributeBase o m env (eval o env) = eval o env) (hl : (apos.endLine == pos.line) = true) (hf : methodCallForm (es.length + 0) (backTo pos (starEach es env)) (backToKw pos (keywordEach [] env)) = true) :
    eval (.Call (.Attribute o m apos) es [] pos) env = (do
      let ov ← eval o env
      standAt apos.atName
      let (f, first) ← holding [ov] (getMethod ov m (plainOf o env))
      callWith pos f first (backTo pos (starEach es env)) (backToKw pos (keywordEach [] env))) := by
  rw [eval, hb]
  congr 1
  funext ov
  congr 1
  funext _
  exact mcall_line hf hl
end
end L2
namespace Mi
open PySem PySem.Spec PyProof.Rows L2
/-- what is true of the module -/
structure Mf (D : Kc) (Γ : Gm) (A : AP) (B : Nat → Option Addr) (K : PySem.W.Frag) (mg : Str → Option Value) : Prop where
  fn : ∀ x f, D.fns.lookup x = some f → ∃ a, B f = some a ∧ mg x = some (.ref a) ∧ PySem.W.keepIn K (.ref a) = true
  clss : ∀ x c, D.clss.lookup x = some c → ∃ a f, A c = some a ∧ c ≠ 0 ∧ mg x = some (.ref a) ∧ Γ.meth c 0 = some f
  mks : ∀ c f C, Γ.meth c 0 = some f → A c = some C → ∃ a, B f = some a ∧ Mk K C a
  cls : ∀ c C, c ≠ 0 → A c = some C → Cls K C ∧ PySem.W.selfFirst K C = true
  ini : ∀ c C, A c = some C → c ≠ 0 ∧ ∃ f, Γ.meth c 0 = some f
  xf : ∀ c C, A.E c = some C → XfC K C ∧ ∀ y ∈ excNames, PySem.W.findIn K (.ref C) y = some none
  meth : ∀ c m f C, Γ.meth c m = some f → A c = some C → ∃ a, B f = some a ∧ Meth K C (opN m) a ∧ PySem.W.fnIn K a = true
  mcs : ∀ m, m ∈ D.mcs → ∃ c f C, c ≠ 0 ∧ Γ.meth c m = some f ∧ A c = some C
  noat : ∀ y c C, y ∈ D.flds → c ≠ 0 → A c = some C → Γ.prop c (enc y) = none → NoAttr K C y
  prop : ∀ y c C g, y ∈ D.flds → A c = some C → Γ.prop c (enc y) = some g → ∃ p a, B g = some a ∧ PropOf K C y p a
  pls : ∀ y, y ∈ D.pls → y ∈ D.flds ∧ ∀ c, Γ.setr c (enc y) = none ∧ Γ.prop c (enc y) = none
  cms : ∀ x m c f, D.cms.lookup (x, m) = some (c, f) → ∃ C a p mc, A c = some C ∧ B f = some a ∧ mg x = some (.ref C) ∧ ClX.CRead K C mc ∧ ClX.CMet K C mc m p a
  sms : ∀ x m c f, D.sms.lookup (x, m) = some (c, f) → ∃ C a p mc, B f = some a ∧ mg x = some (.ref C) ∧ ClX.CRead K C mc ∧ SMet K C mc m p a
  free : ∀ x, x ∈ (["len", "range", "enumerate", "any", "all", "list", "tuple", "int", "str", "isinstance", "bool", "dict"] : List Str) → mg x = none
  consts : ∀ x t, D.consts.lookup x = some t → ∃ u v, mg x = some u ∧ RelV v u ∧ ∀ (G : Gx) g H, G.K = K → Rep G g H .fz t v
  ni : noIt Γ
  exn : ∀ x c, D.exs.lookup x = some c → ∃ q, A.E c = some q ∧ mg x = some (.ref q)
  esub : ∀ c d p q, A.E c = some p → A.E d = some q → PySem.W.exmOne K (.ref p) (.ref q) = some (Γ.sub c d)
  eox : ∀ c q, A.E c = some q → OexC K q

/-- what is true of a running body -/
structure Ev (D : Kc) (A : AP) (B : Nat → Option Addr) (Γ : Gm) (C C' : CallF) (m : Nat) (sc : Scope) (X : Cx) (W : WX) : Prop where
  N : X.N = D.N
  nd : X.N.Nodup
  calm : D.calm = true → X.calm = true
  scq : X.env.scope = sc
  kind : sc.kind = .function
  mf : Mf D Γ A B X.K X.mg
  room : D.calm = true → Room (m + 1) X.A
  un : X.A.units + 200 < cLine
  fC : D.calm = true → ∀ f a, B f = some a → FnR X.prog X.w X.K X.mg X.base (L2.CX X.prog X.w) (m + 1) a (spR (gxOf X A) Γ C f)
  fK : D.calm = true → ∀ f a ks, B f = some a → ks.all strC = true → ks.Nodup → FnRK X.prog X.w X.K X.mg X.base (L2.CX X.prog X.w) (m + 1) a ks (spRK (gxOf X A) Γ C f (ks.map enc))
  fC' : D.calm = true → ∀ f a, B f = some a → FnR X.prog X.w X.K X.mg X.base (L2.CX X.prog X.w) m a (spR (gxOf X A) Γ C' f)
  fP : D.calm = true → ∀ c y g a, Γ.prop c y = some g → B g = some a → ∃ fd ps, FnOk X.prog X.w X.K X.mg X.base (L2.CX X.prog X.w) m a fd ps (spC (gxOf X A) C' g 1) ∧ Binds X.K fd ps []
  tk : Takes X W
  xp0 : D.calm = true → A.xp = none
  xp : ∀ i a oe, A.xp = some (i, a, oe) → (a, oe) ∈ X.pn ∧ ∃ vs, oe.data = .fields vs
  fX : D.calm = true → ∀ x c, D.exs.lookup x = some c → ∃ (q fI : Addr) (fd : FuncData) (ps : List Str) (n : Nat), A.E c = some q ∧ Γ.arity c = some n ∧ n ≤ 3 ∧ PySem.W.findIn X.K (.ref q) "__init__" = some (some (.ref fI)) ∧ PySem.W.typeIn X.K (.ref fI) = some (.type "function") ∧
    FnOk X.prog X.w X.K X.mg X.base (L2.CX X.prog X.w) m fI fd ps (spXI X.K n) ∧ Binds X.K fd ps []
section
variable {D : Kc} {A : AP} {B : Nat → Option Addr} {Γ : Gm} {C C' : CallF} {m : Nat} {sc : Scope} {X : Cx} {W : WX}
theorem Ev.pass (E : Ev D A B Γ C C' m sc X W) : ∀ σ, PassesAt (L2.CX X.prog X.w) X σ (WE W σ) := fun σ => passAt E.tk σ
theorem Ev.env (E : Ev D A B Γ C C' m sc X W) : EnvOk D A sc X W where
  N := E.N
  nd := E.nd
  vis := fun x k h => by rw [E.scq]; exact h
  consts := fun x t h => by
    obtain ⟨u, v, h1, h2, h3⟩ := E.mf.consts x t h
    exact ⟨u, v, h1, h2, fun g H => h3 _ g H rfl⟩
  un := by have := E.un; omega
theorem pass_nox {X : Cx} : Passes (L2.CX X.prog X.w) X.nox (fun _ _ _ => False) := fun _ _ _ _ _ _ _ c => by
  obtain ⟨_, _, _, _, _, _, _, _, _, _, _, _, he⟩ := c
  exact he.elim
theorem Ev.blk (E : Ev D A B Γ C C' m sc X W) (hcl : D.calm = true) {scope : Scope} (hk : scope.kind = .function) (s : Shared) (H : Hp) (a : Addr) (cl : List (Str × Addr)) (fp : List Addr) :
    Ev D A B Γ C C' m (relS scope sc) (X.blk s H scope (compEnvC scope cl a X.env) fp) noW where
  N := E.N
  nd := E.nd
  calm := E.calm
  scq := by show relS scope X.env.scope = _; rw [E.scq]
  kind := hk
  mf := E.mf
  room := E.room
  fC := E.fC
  fK := E.fK
  fC' := E.fC'
  un := E.un
  fP := E.fP
  tk := takes_none5
  xp0 := E.xp0
  xp := fun i a oe h => by rw [E.xp0 hcl] at h; cases h
  fX := E.fX
theorem base_of {o : Expr} {y : Str} {env : Env} (h : notSuper o = true) : attributeBase o y env (eval o env) = eval o env := by
  unfold attributeBase
  split
  · rename_i id p q
    have h : (id != ("super" : Str)) = true := h
    rw [h]
    rfl
  · rfl
theorem stars_plain {sc : Scope} {D : Kc} {n : Nat} {env : Env} : ∀ {cs : List Ex} {es : List Expr}, chkL (chkE D sc n) cs es = true → starEach es env = es.map fun e => (false, eval e env)
  | [], [], _ => rfl
  | c :: cs, e :: es, h => by
    simp only [chkL, Bool.and_eq_true] at h
    have hh : headOk e = true := by
      cases n with
      | zero => cases h.1
      | succ n => unfold chkE at h; simp only [Bool.and_eq_true] at h; exact h.1.1
    rw [star_of hh, stars_plain h.2]; rfl
  | [], _ :: _, h => by cases h
  | _ :: _, [], h => by cases h
theorem head_of {sc : Scope} {D : Kc} {n : Nat} {c : Ex} {e : Expr} (h : chkE D sc n c e = true) : headOk e = true := by
  cases n with
  | zero => cases h
  | succ n => unfold chkE at h; simp only [Bool.and_eq_true] at h; exact h.1
theorem back_plain {es : List Expr} {pos : Pos} {env : Env} : ((backTo pos (es.map fun e => (false, eval e env)))).any (·.1) = false := by
  unfold backTo
  rw [List.any_eq_false]
  intro p hp
  simp only [List.map_map, List.mem_map] at hp
  obtain ⟨e, _, rfl⟩ := hp
  simp
theorem few_plain {es : List Expr} {pos : Pos} {env : Env} (h : starEach es env = es.map fun e => (false, eval e env)) (hn : es.length < 25) : methodCallForm (es.length + 0) (backTo pos (starEach es env)) (backToKw pos (keywordEach [] env)) = true := by
  unfold methodCallForm
  have h1 : (backTo pos (starEach es env)).all (!·.1) = true := by
    rw [List.all_eq_true]
    intro p hp
    rw [h] at hp
    unfold backTo at hp
    simp only [List.map_map, List.mem_map] at hp
    obtain ⟨e, _, rfl⟩ := hp
    simp
  rw [h1]
  have h2 : backToKw pos (keywordEach [] env) = [] := rfl
  rw [h2]
  simp
  omega
/-! ### the judgements of what is checked -/
structure Both (X : Cx) (A : AP) (W : WX) (Γ : Gm) (C C' : CallF) (c : Ex) (e : Expr) : Prop where
  pe : PE X e (tE (gxOf X A) W Γ C C' c)
  pt : PT X e (tT (gxOf X A) W Γ C C' c)
/-- a test that is a plain value -/
theorem pt_plain {c : Ex} {e : Expr} (h : PE X e (tE (gxOf X A) W Γ C C' c)) (he : ∀ whole, isTrue e X.env whole = (do let v ← whole; standAt e.pos; holding [v] (truthy v))) : PT X e (tT (gxOf X A) W Γ C C' c) :=
  PT.imp (pt_truth h he) fun σ H Q q => tru_ok' q
theorem Both.mk' {c : Ex} {e : Expr} (h : PE X e (tE (gxOf X A) W Γ C C' c)) (he : ∀ whole, isTrue e X.env whole = (do let v ← whole; standAt e.pos; holding [v] (truthy v))) : Both X A W Γ C C' c e := ⟨h, pt_plain h he⟩
theorem pa_of : ∀ {cs : List Ex} {es : List Expr}, Paired (fun c e => PE X e (tE (gxOf X A) W Γ C C' c) ∧ headOk e = true) cs es → PA X es (tEs (gxOf X A) W Γ C C' cs)
  | [], [], .nil => PA.imp pa_nil fun σ H Q q => evs_nil q
  | c :: cs, e :: es, .cons p r => PA.imp (pa_cons p.1 (pa_of r) (star_of p.2)) fun σ H Q q => evs_ok q
theorem paired_of {p : Ex → Expr → Bool} {F : Ex → Expr → Prop} (hf : ∀ c e, p c e = true → F c e) : ∀ {cs : List Ex} {es : List Expr}, chkL p cs es = true → Paired F cs es
  | [], [], _ => .nil
  | c :: cs, e :: es, h => by
    simp only [chkL, Bool.and_eq_true] at h
    exact .cons (hf _ _ h.1) (paired_of hf h.2)
  | [], _ :: _, h => by cases h
  | _ :: _, [], h => by cases h
end
end Mi

/-! the main induction: expressions -/
namespace Mi
open PySem PySem.Spec PyProof.Rows L2
section
variable {D : Kc} {A : AP} {B : Nat → Option Addr} {Γ : Gm} {C C' : CallF} {m : Nat} {sc : Scope} {X : Cx} {W : WX}
abbrev MainE (D : Kc) (A : AP) (B : Nat → Option Addr) (Γ : Gm) (C C' : CallF) (m n : Nat) : Prop := ∀ {sc : Scope} {X : Cx} {W : WX} {c : Ex} {e : Expr}, Ev D A B Γ C C' m sc X W → chkE D sc n c e = true → Both X A W Γ C C' c e
variable {n : Nat}
theorem args_of (M : MainE D A B Γ C C' m n) (E : Ev D A B Γ C C' m sc X W) {cs : List Ex} {es : List Expr} (h : chkL (chkE D sc n) cs es = true) : PA X es (tEs (gxOf X A) W Γ C C' cs) :=
  pa_of (paired_of (fun c e h => ⟨(M E h).pe, head_of h⟩) h)
theorem star_hd {e : Expr} {es : List Expr} {cs : List Ex} (h : chkL (chkE D sc n) cs (e :: es) = true) : starEach (e :: es) X.env = (false, eval e X.env) :: starEach es X.env := by
  cases cs with
  | nil => cases h
  | cons c cs =>
    simp only [chkL, Bool.and_eq_true] at h
    exact star_of (head_of h.1)
theorem plain_tl {e : Expr} {es : List Expr} {cs : List Ex} {pos : Pos} (h : chkL (chkE D sc n) cs (e :: es) = true) : (backTo pos (starEach es X.env)).any (·.1) = false := by
  cases cs with
  | nil => cases h
  | cons c cs =>
    simp only [chkL, Bool.and_eq_true] at h
    rw [stars_plain h.2]; exact back_plain

theorem m_cst (E : Ev D A B Γ C C' m sc X W) {t : T} {e : Expr} (h : chkE D sc (n + 1) (.cst t) e = true) : Both X A W Γ C C' (.cst t) e := by
  have h : (headOk e && chkCst D sc t e) = true := h
  rw [Bool.and_eq_true] at h
  replace h := h.2
  have fin : ∀ {v : L2.V} {σ : L2.St} {H : Hp} {Q : VK}, (∀ g H, Rep (gxOf X A) g H .fz t v) → tE (gxOf X A) W Γ C C' (.cst t) σ H Q → Q v H := by
    intro v σ H Q hr q
    obtain ⟨lk, g, s, hR, h'⟩ := q
    rw [ev] at h'
    exact Post.old hR h' (hr g H)
  unfold chkCst at h
  split at h
  · exact .mk' (pe_cst h) fun _ => rfl
  · rename_i x pos _
    rw [Bool.and_eq_true] at h
    obtain ⟨hg, hd, hn⟩ := glob_gl E.env h.1
    cases e1 : D.consts.lookup x with
    | none => rw [e1] at h; cases h.2
    | some u =>
      rw [e1] at h
      cases T.beq_eq h.2
      obtain ⟨u', v, h1, h2, h3⟩ := E.env.consts x t e1
      exact .mk' (PE.imp (pe_glob hg h1 h2 hd) fun σ H Q q => fin h3 q) fun _ => rfl
  · simp only [Bool.and_eq_true, decide_eq_true_eq] at h
    obtain ⟨⟨⟨h1, h2⟩, h3⟩, h4⟩ := h
    cases T.beq_eq h4
    exact .mk' (PE.imp (pe_op op_pow pe_int pe_int) fun σ H Q q => ⟨_, _, rfl, rfl, ⟨h1, by omega, h3⟩, fin (fun g H => .int) q⟩) fun _ => rfl
  · cases T.beq_eq h
    exact .mk' (PE.imp (pe_un un_neg pe_int) fun σ H Q q => ⟨_, rfl, fin (fun g H => .int) q⟩) fun _ => rfl
  · cases h
theorem var_ok {i : Nat} {b : Bool} {σ : L2.St} {H : Hp} {Q : VK} (h : tE (gxOf X A) W Γ C C' (.var i b) σ H Q) : tVar i σ H Q := by
  obtain ⟨lk, g, s, hR, h⟩ := h
  rw [ev] at h
  exact rdVar_ok hR h
theorem mv_ok {i : Nat} {σ : L2.St} {H : Hp} {Q : VK} (h : tE (gxOf X A) W Γ C C' (.mv i) σ H Q) : tVar i σ H Q := by
  obtain ⟨lk, g, s, hR, h⟩ := h
  rw [ev] at h
  exact mvVar_ok hR h
theorem m_var (E : Ev D A B Γ C C' m sc X W) {i : Nat} {b : Bool} {e : Expr} (h : chkE D sc (n + 1) (.var i b) e = true) : Both X A W Γ C C' (.var i b) e := by
  cases e with
  | Name x pos => exact .mk' (PE.imp (slot_pe E.env (show slotOk D sc i x = true from h)) fun σ H Q q => var_ok q) fun _ => rfl
  | _ => unfold chkE at h; simp at h
theorem m_mv (E : Ev D A B Γ C C' m sc X W) {i : Nat} {e : Expr} (h : chkE D sc (n + 1) (.mv i) e = true) : Both X A W Γ C C' (.mv i) e := by
  cases e with
  | Name x pos => exact .mk' (PE.imp (slot_pe E.env (show slotOk D sc i x = true from h)) fun σ H Q q => mv_ok q) fun _ => rfl
  | _ => unfold chkE at h; simp at h
theorem m_lst (M : MainE D A B Γ C C' m n) (E : Ev D A B Γ C C' m sc X W) {cs : List Ex} {e : Expr} (h : chkE D sc (n + 1) (.lst cs) e = true) : Both X A W Γ C C' (.lst cs) e := by
  cases e with
  | List es pos => exact .mk' (PE.imp (pe_lst (args_of M E (show chkL (chkE D sc n) cs es = true from h))) fun σ H Q q => lst_ok q) fun _ => rfl
  | _ => unfold chkE at h; simp at h
theorem dcu0_ok {σ : L2.St} {H : Hp} {Q : VK} (h : tE (gxOf X A) W Γ C C' .dcu σ H Q) : tDNewT σ H Q := by
  obtain ⟨lk, g, s, hR, h⟩ := h
  intro p hp
  have h : Post (gxOf X A) W lk g σ H (okO (.dcu []) s) Q := by rw [ev] at h; exact h
  exact h _ _ _ (hR.alloc hp (.inl rfl)) (keep_alloc hR hp) (.dcu Gh.own_at (show upd H p (.dT []) p = _ from upd_same) (by show 0 ≤ szL; omega) .nil)
theorem m_dcu (E : Ev D A B Γ C C' m sc X W) {e : Expr} (h : chkE D sc (n + 1) .dcu e = true) : Both X A W Γ C C' .dcu e := by
  unfold chkE at h
  rw [Bool.and_eq_true] at h
  replace h := h.2
  dsimp only at h
  split at h
  · exact .mk' (PE.imp pe_dnewT fun σ H Q q => dcu0_ok q) fun _ => rfl
  · cases h
theorem pe_false {e : Expr} : PE X e fun _ _ _ => False := ⟨fun _ _ _ _ _ _ h => h.elim⟩
theorem pt_false {e : Expr} : PT X e fun _ _ _ => False := ⟨fun _ _ _ _ _ _ h => h.elim⟩
theorem stuck_no {σ : L2.St} {H : Hp} {Q : VK} (h : tE (gxOf X A) W Γ C C' .stuck σ H Q) : False := by
  obtain ⟨lk, g, s, hR, h⟩ := h
  rw [ev] at h
  exact h
theorem m_stuck {e : Expr} : Both X A W Γ C C' .stuck e := ⟨PE.imp pe_false fun σ H Q q => stuck_no q, PT.imp pt_false fun σ H Q q => by
  obtain ⟨lk, g, s, hR, h⟩ := q
  rw [ev] at h
  exact h⟩
theorem dct0_ok {σ : L2.St} {H : Hp} {Q : VK} (h : tE (gxOf X A) W Γ C C' (.dct []) σ H Q) : tDNewK σ H Q := by
  obtain ⟨lk, g, s, hR, h⟩ := h
  intro p hp
  have h : Post (gxOf X A) W lk g σ H (okO (.dct []) s) Q := by
    have h : Post (gxOf X A) W lk g σ H ((Res.ok ([] : List V) s).bind fun vs s1 => if stoAll vs && decide (vs.length ≤ 28) && keysOk (vals vs) then okO (.dct (pairUp (vals vs) [])) s1 else .no) Q := h
    exact h
  exact h _ _ _ (hR.alloc hp (.inl rfl)) (keep_alloc hR hp) (.dct Gh.own_at (show upd H p (.dK []) p = _ from upd_same) (by show 0 ≤ szL; omega) .nil)
theorem m_dct (E : Ev D A B Γ C C' m sc X W) {cs : List Ex} {e : Expr} (h : chkE D sc (n + 1) (.dct cs) e = true) : Both X A W Γ C C' (.dct cs) e := by
  cases cs with
  | cons c cs => unfold chkE at h; simp at h
  | nil =>
    unfold chkE at h
    rw [Bool.and_eq_true] at h
    replace h := h.2
    dsimp only at h
    split at h
    · exact .mk' (PE.imp pe_dnewK fun σ H Q q => dct0_ok q) fun _ => rfl
    · cases h
theorem m_tup (M : MainE D A B Γ C C' m n) (E : Ev D A B Γ C C' m sc X W) {cs : List Ex} {e : Expr} (h : chkE D sc (n + 1) (.tup cs) e = true) : Both X A W Γ C C' (.tup cs) e := by
  cases e with
  | Tuple es k pos => exact .mk' (PE.imp (pe_tup (args_of M E (show chkL (chkE D sc n) cs es = true from h))) fun σ H Q q => tup_ok q) fun _ => rfl
  | _ => unfold chkE at h; simp at h
theorem opM_of (E : Ev D A B Γ C C' m sc X W) {c k f : Nat} {Cx : Addr} (h1 : Γ.meth c k = some f) (h2 : A c = some Cx) : ∃ a, B f = some a ∧ OpM X.K Cx (opN k) a := by
  obtain ⟨a, h3, h4, h5⟩ := E.mf.meth c k f Cx h1 h2
  exact ⟨a, h3, h4.at_, h4.fn, h5⟩
theorem opS_bin (E : Ev D A B Γ C C' m sc X W) (o : Op) (hc : (D.calm || o.flat) = true) : OpRS X (binaryOp (opOf o)) (rBinS (gxOf X A) W Γ C' o) := by
  refine (op_bin (X := X) o).at.or ?_
  intro pins s σ H x y v u Q I rx ry h
  obtain ⟨hf, c, f, Cx, hc0, hm, hA, h⟩ := h
  have hcl : D.calm = true := by rw [hf, Bool.or_false] at hc; exact hc
  have hA : A c = some Cx := hA
  obtain ⟨a, hB, hop⟩ := opM_of E hm hA
  cases o with
  | band => exact op_binB (op := .BitAnd) hop (E.mf.cls c Cx hc0 hA).2 (E.fC' hcl f a hB) ((E.room hcl).mono (by omega)) E.pass pins s σ H x y v u Q I rx ry h
  | bor => exact op_binB (op := .BitOr) hop (E.mf.cls c Cx hc0 hA).2 (E.fC' hcl f a hB) ((E.room hcl).mono (by omega)) E.pass pins s σ H x y v u Q I rx ry h
  | _ => cases hf
/-- two operands, where the slots are looked at -/
theorem two_okS {G : Gx} {a b : Ex} {F : List Pl → V → V → S → Res V} {r : L2.St → R2} {σ : L2.St} {g : Gh} {H : Hp} {s : S} {lk : List Pl} {Q : VK}
    (hr : ∀ lk g s H x y vx vy Q, R G g lk s σ H → Rep G g H (pO lk x.1) x.2 vx → Rep G g H (mdO lk y.1) y.2 vy → Post G W lk g σ H (F lk x y s) Q → r σ vx vy H Q)
    (hR : R G g lk s σ H) (h : Post G W lk g σ H ((ev Γ C C' lk a s).bind fun x s1 => (ev Γ C C' (lks x ++ lk) b s1).bind fun y s2 => F lk x y s2) Q) :
    tOpS r (tE G W Γ C C' a) (tE G W Γ C C' b) σ H Q :=
  two_at (r := r σ) (F := fun x y s2 => F lk x y s2) hR h fun x s1 y s2 g' H' vx vy _ _ r1 p1 p2 h1 => hr lk g' s2 H' x y vx vy Q r1 p1 p2 h1
theorem m_bin (M : MainE D A B Γ C C' m n) (E : Ev D A B Γ C C' m sc X W) {o : Op} {a b : Ex} {e : Expr} (h : chkE D sc (n + 1) (.bin o a b) e = true) : Both X A W Γ C C' (.bin o a b) e := by
  cases e with
  | BinOp x p y pos =>
    have h : ((D.calm || o.flat) && decide (p = opOf o) && chkE D sc n a x && chkE D sc n b y) = true := h
    rw [Bool.and_eq_true, Bool.and_eq_true, Bool.and_eq_true, decide_eq_true_eq] at h
    obtain ⟨⟨⟨hcl, rfl⟩, h1⟩, h2⟩ := h
    refine .mk' (PE.imp (pe_opS (opS_bin E o hcl) (M E h1).pe (M E h2).pe) fun σ H Q q => ?_) fun _ => rfl
    obtain ⟨lk, g, s, hR, h⟩ := q
    rw [ev] at h
    exact two_okS (r := rBinS (gxOf X A) W Γ C' o) (F := fun lk x y s => binR Γ C' lk o x y s) (fun lk g s H x y vx vy Q r h1 h2 h3 => binS_ok r h1 h2 h3) hR h
  | _ => unfold chkE at h; simp at h
theorem opS_cmp (E : Ev D A B Γ C C' m sc X W) (o : Co) (hcl : (D.calm || coHot o) = true) : OpRS X (compareOp (coOf o)) (rCmpS (gxOf X A) W Γ C' o) := by
  have hu : X.A.units + 1 < cLine := by have := E.env.un; omega
  refine (op_cmp (X := X) E.env.un o).at.or (OpRS.or ?_ (OpRS.or ?_ (OpRS.or ?_ (OpRS.or ?_ ?_))))
  rotate_left 3
  · rintro pins s σ H x y v u Q I rx ry ⟨rfl, a, r, rfl, gd, h⟩
    cases (show u = Value.ref a from ry)
    exact d_in hu I gd rx fun s' I' => ⟨.bl r.isSome, H, I', rfl, by simpa only [Bool.false_xor] using h⟩
  · rintro pins s σ H x y v u Q I rx ry ⟨rfl, a, r, rfl, gd, h⟩
    cases (show u = Value.ref a from ry)
    exact d_notIn hu I gd rx fun s' I' => ⟨.bl (!r.isSome), H, I', rfl, by simpa only [Bool.true_xor] using h⟩
  all_goals
    intro pins s σ H x y v u Q I rx ry h
    obtain ⟨rfl, c, f, Cx, hc, hm, hA, h⟩ := h
    have hcl : D.calm = true := by simpa [coHot] using hcl
    have hA : A c = some Cx := hA
    obtain ⟨a, hB, hop⟩ := opM_of E hm hA
  · exact op_cmpB (op := .LtE) (fun _ _ => rfl) hop (E.fC' hcl f a hB) ((E.room hcl).mono (by omega)) E.pass pins s σ H x y v u Q I rx ry h
  · exact op_inB hop (E.fC' hcl f a hB) ((E.room hcl).mono (by omega)) E.pass pins s σ H x y v u Q I rx ry h
  · exact op_ninB hop (E.fC' hcl f a hB) ((E.room hcl).mono (by omega)) E.pass pins s σ H x y v u Q I rx ry h
theorem cmp_tE {o : Co} {a b : Ex} {σ : L2.St} {H : Hp} {Q : VK} (hn : o = .isn ∨ o = .notn → b = .cst .non) (h : tE (gxOf X A) W Γ C C' (.cmp o a b) σ H Q) :
    tOpS (rCmpS (gxOf X A) W Γ C' o) (tE (gxOf X A) W Γ C C' a) (tE (gxOf X A) W Γ C C' b) σ H Q := by
  obtain ⟨lk, g, s, hR, h⟩ := h
  rw [ev] at h
  refine two_at (r := rCmpS (gxOf X A) W Γ C' o σ) (F := fun x y s2 => cmpR Γ C' (lks x ++ lk) o x y s2) hR h fun x s1 y s2 g' H' vx vy e1 e2 r1 p1 p2 h1 => cmpS_ok (fun ho => ?_) r1 p1 p2 h1
  have := hn ho
  subst this
  rw [ev] at e2
  cases e2
  rfl
theorem m_cmp (M : MainE D A B Γ C C' m n) (E : Ev D A B Γ C C' m sc X W) {o : Co} {a b : Ex} {e : Expr} (h : chkE D sc (n + 1) (.cmp o a b) e = true) : Both X A W Γ C C' (.cmp o a b) e := by
  unfold chkE at h
  rw [Bool.and_eq_true] at h
  replace h := h.2
  dsimp only at h
  split at h
  · rename_i x p y pos
    rw [Bool.and_eq_true, Bool.and_eq_true, Bool.and_eq_true, Bool.and_eq_true, decide_eq_true_eq] at h
    obtain ⟨⟨⟨⟨hcl, rfl⟩, h1⟩, h2⟩, h3⟩ := h
    have hn : o = .isn ∨ o = .notn → b = .cst .non := by
      rintro (rfl | rfl)
      · exact isNonX_ok h3
      · exact isNonX_ok h3
    have hm := nomark' (op := coOf o) (head_of h2)
    refine ⟨PE.imp (pe_cmpS (opS_cmp E o hcl) (M E h1).pe (M E h2).pe hm) fun σ H Q q => cmp_tE hn q, PT.imp (pt_cmpV (opS_cmp E o hcl) (M E h1).pe (M E h2).pe hm) fun σ H Q q => cmp_tE hn (tru_ok' q)⟩
  · cases h
end
end Mi

/-! the main induction: expressions, the rest -/
namespace Mi
open PySem PySem.Spec PyProof.Rows L2
section
variable {D : Kc} {A : AP} {B : Nat → Option Addr} {Γ : Gm} {C C' : CallF} {m : Nat} {sc : Scope} {X : Cx} {W : WX} {n : Nat}
theorem m_not (M : MainE D A B Γ C C' m n) (E : Ev D A B Γ C C' m sc X W) {a : Ex} {e : Expr} (h : chkE D sc (n + 1) (.not a) e = true) : Both X A W Γ C C' (.not a) e := by
  unfold chkE at h
  rw [Bool.and_eq_true] at h
  replace h := h.2
  dsimp only at h
  split at h
  · exact ⟨PE.imp (pe_not (M E h).pe) fun σ H Q q => not_e q, PT.imp (pt_not (M E h).pt) fun σ H Q q => not_t q⟩
  · cases h
theorem pw_of {op : BoolOp} {vs : List Expr} {p : Pos} {t : TT} (h : PT X (.BoolOp op vs p) t) : PW X (.BoolOp op vs p) t := ⟨fun wh pins s σ H Q I q => by
  have := h.run pins s σ H Q I q
  unfold PySem.isTrue at this ⊢
  exact this⟩
theorem m_and (M : MainE D A B Γ C C' m n) (E : Ev D A B Γ C C' m sc X W) {a b : Ex} {e : Expr} (h : chkE D sc (n + 1) (.and a b) e = true) : Both X A W Γ C C' (.and a b) e := by
  unfold chkE at h
  rw [Bool.and_eq_true] at h
  replace h := h.2
  dsimp only at h
  split at h
  · rename_i x y r p
    rw [Bool.and_eq_true] at h
    cases r with
    | nil => exact ⟨PE.imp (pe_and (M E h.1).pe (pe_one (M E h.2).pe)) fun σ H Q q => and_e q, PT.imp (PW.pt (pw_and (M E h.1).pt (pw_and1 (M E h.2).pt))) fun σ H Q q => and_t q⟩
    | cons z r => exact ⟨PE.imp (pe_and (M E h.1).pe (M E h.2).pe) fun σ H Q q => and_e q, PT.imp (PW.pt (pw_and (M E h.1).pt (pw_of (M E h.2).pt))) fun σ H Q q => and_t q⟩
  · cases h
theorem m_or (M : MainE D A B Γ C C' m n) (E : Ev D A B Γ C C' m sc X W) {a b : Ex} {e : Expr} (h : chkE D sc (n + 1) (.or a b) e = true) : Both X A W Γ C C' (.or a b) e := by
  unfold chkE at h
  rw [Bool.and_eq_true] at h
  replace h := h.2
  dsimp only at h
  split at h
  · rename_i x y r p
    rw [Bool.and_eq_true] at h
    cases r with
    | nil => exact ⟨PE.imp (pe_or (M E h.1).pe (pe_one (M E h.2).pe)) fun σ H Q q => or_e q, PT.imp (PW.pt (pw_or (M E h.1).pt (pw_or1 (M E h.2).pt))) fun σ H Q q => or_t q⟩
    | cons z r => exact ⟨PE.imp (pe_or (M E h.1).pe (M E h.2).pe) fun σ H Q q => or_e q, PT.imp (PW.pt (pw_or (M E h.1).pt (pw_of (M E h.2).pt))) fun σ H Q q => or_t q⟩
  · cases h
/-- what tE wants is there of anything that evaluates: a class that the value has -/
theorem m_att (M : MainE D A B Γ C C' m n) (E : Ev D A B Γ C C' m sc X W) {a : Ex} {f : Nat} {b : Bool} {e : Expr} (h : chkE D sc (n + 1) (.att a f b) e = true) : Both X A W Γ C C' (.att a f b) e := by
  cases e with
  | Attribute x y pos =>
    have h : (D.calm && D.flds.contains y && f == enc y && strC y && notSuper x && chkE D sc n a x) = true := h
    simp only [Bool.and_eq_true, beq_iff_eq, List.contains_iff_mem] at h
    obtain ⟨⟨⟨⟨⟨hcl, h1⟩, rfl⟩, h3⟩, h4⟩, h5⟩ := h
    refine .mk' (PE.of fun σ H Q q => ?_) fun _ => rfl
    rcases att_e (strC_ok h3) q (fun c Cx hc hA => ⟨(E.mf.cls c Cx hc hA).1, E.mf.noat y c Cx h1 hc hA⟩) with q | ⟨c, Cx, pg, hc, hA, hp, q⟩
    · exact ⟨_, pe_fld (M E h5).pe (base_of h4), q⟩
    · obtain ⟨p, g, hB, hP⟩ := E.mf.prop y c Cx pg h1 hA hp
      obtain ⟨fd, ps, F, hb⟩ := E.fP hcl c (enc y) pg g hp hB
      exact ⟨_, pe_prop (M E h5).pe (E.mf.cls c Cx hc hA).1 hP F (E.room hcl) hb .nil pass_nox (base_of h4), q⟩
  | _ => unfold chkE at h; simp at h
theorem po_of (M : MainE D A B Γ C C' m n) (E : Ev D A B Γ C C' m sc X W) {c : Option Ex} {e : Option Expr} (h : chkO (chkE D sc n) c e = true) : PO X e (tO (gxOf X A) W Γ C C' c) := by
  unfold chkO at h
  split at h
  · exact po_none
  · exact po_some (M E h).pe
  · cases h
theorem sl_any : SlR X (rSl X.K) := sl_list.or sl_tupA
theorem m_slc (M : MainE D A B Γ C C' m n) (E : Ev D A B Γ C C' m sc X W) {a : Ex} {lo hi : Option Ex} {e : Expr} (h : chkE D sc (n + 1) (.slc a lo hi) e = true) : Both X A W Γ C C' (.slc a lo hi) e := by
  unfold chkE at h
  rw [Bool.and_eq_true] at h
  replace h := h.2
  dsimp only at h
  split at h
  · rw [Bool.and_eq_true, Bool.and_eq_true] at h
    exact .mk' (PE.imp (pe_slice sl_any (M E h.1.1).pe (po_of M E h.1.2) (po_of M E h.2)) fun σ H Q q => slc_e q) fun _ => rfl
  · cases h
theorem m_rev (M : MainE D A B Γ C C' m n) (E : Ev D A B Γ C C' m sc X W) {a : Ex} {e : Expr} (h : chkE D sc (n + 1) (.rev a) e = true) : Both X A W Γ C C' (.rev a) e := by
  unfold chkE at h
  rw [Bool.and_eq_true] at h
  replace h := h.2
  dsimp only at h
  split at h
  · exact .mk' (PE.imp (pe_revT (M E h).pe) fun σ H Q q => rev_e q) fun _ => rfl
  · cases h
def BxP (X : Cx) (ks : List Nat) (es : List Ex) (keys : List (Option Expr)) (vs : List Expr) : Prop := ∃ L : List (Str × Nat × Emp), ks = L.map (fun q => q.2.1) ∧ es = L.map (fun q => q.2.2.ex) ∧ (∀ q ∈ L, StrOk q.1 q.2.1) ∧ L.length = keys.length ∧ keys.all (·.isSome) = true ∧ keys.length = vs.length ∧ ∀ pos, PPs X pos keys vs (L.map fun q => (tC (.str q.1), q.2.2.te))
theorem bx_of : ∀ {ks : List Nat} {es : List Ex} {keys : List (Option Expr)} {vs : List Expr}, chkBx ks es keys vs = true → BxP X ks es keys vs
  | ks, es, keys, vs, h => by
    unfold chkBx at h
    split at h
    · exact ⟨[], rfl, rfl, fun q hq => (nomatch hq), rfl, rfl, rfl, fun pos => pps_nil⟩
    · rename_i k ks e es y _ _ keys v vs
      simp only [Bool.and_eq_true, beq_iff_eq] at h
      obtain ⟨⟨⟨rfl, h2⟩, h3⟩, h4⟩ := h
      obtain ⟨L, e1, e2, e3, e4, e5, e6, e7⟩ := bx_of h4
      have fin : ∀ (em : Emp) (p1 : Pos) (k1 : Nat), em.ex = e → PE X v em.te → BxP X (enc y :: ks) (e :: es) (some (.Constant (.str y) k1 p1) :: keys) (v :: vs) := fun em p1 k1 he hv => by
        refine ⟨(y, enc y, em) :: L, by rw [e1]; rfl, by rw [List.map_cons, ← e2, he], fun q hq => ?_, by rw [List.length_cons, e4]; rfl, by rw [List.all_cons, e5]; rfl, by rw [List.length_cons, List.length_cons, e6], fun pos => pps_cons pe_str hv (e7 pos)⟩
        rcases List.mem_cons.mp hq with rfl | hq
        · exact strC_ok h2
        · exact e3 q hq
      unfold chkEmp at h3
      split at h3
      · exact fin .l _ _ rfl (PE.imp (pe_lst pa_nil) fun σ H Q q => ⟨Nat.zero_le _, q⟩)
      · exact fin .k _ _ rfl pe_dnewK
      · exact fin .t _ _ rfl pe_dnewT
      · cases h3
    · cases h
theorem m_boxd (E : Ev D A B Γ C C' m sc X W) {ks : List Nat} {es : List Ex} {e : Expr} (h : chkE D sc (n + 1) (.boxd ks es) e = true) : Both X A W Γ C C' (.boxd ks es) e := by
  unfold chkE at h
  rw [Bool.and_eq_true] at h
  replace h := h.2
  dsimp only at h
  split at h
  · simp only [Bool.and_eq_true, decide_eq_true_eq, Bool.not_eq_true', List.isEmpty_eq_false_iff] at h
    obtain ⟨⟨h1, h2⟩, h3⟩ := h
    obtain ⟨L, rfl, rfl, e3, e4, e5, e6, e7⟩ := bx_of (X := X) h3
    exact .mk' (PE.imp (pe_disp (e7 _) e5 e6 h1 h2) fun σ H Q q => boxd_ok L e3 (by omega) q) fun _ => rfl
  · cases h
theorem ixS (E : Ev D A B Γ C C' m sc X W) (hcl : D.calm = true) : IxRS X (rSubS (gxOf X A) W Γ C') := by
  refine (ix_list.or ix_tup).at.or (IxRS.or ?_ ?_)
  rotate_left
  · rintro value slice pins s σ H x y v u Q I rx ry ⟨a, w, rfl, gd, q⟩ hs hs'
    cases (show v = Value.ref a from rx)
    have hT := dict_typeIs I gd
    have h2 : wpAny (model X.prog X.w) X.A (getItem (.ref a) u) (EP X pins σ Q) X.xe s := d_getItem (by have := E.un; omega) I gd ry fun w' s' I' rw' => ⟨w, H, I', rw', q⟩
    unfold subscriptTail
    refine wpAny_bind ?_
    rw [getitemInPython_of_ne hT.not_modules]
    refine wpAny_bind (wpAny_specialOf hT PySem.F.slot_dict_getitem.lookup ?_)
    have fin : wpAny (model X.prog X.w) X.A (subscripted slice false (.ref a) u) (fun r s₃ => wpAny (model X.prog X.w) X.A (letTemporaryGo value (.ref a) r >>= fun _ => pure r) (EP X pins σ Q) X.xe s₃) X.xe s := by
      rw [hs]
      exact wpAny_operating (wpAny_mono h2 (fun r s₃ h₃ => wpAny_bind (wpAny_letTemporaryGo (wpAny_pure h₃))) fun _ _ x => x)
    first
      | exact wpAny_pure (wpAny_bind fin)
      | exact wpAny_bind (wpAny_pure (wpAny_bind fin))
      | exact wpAny_bind fin
  intro value slice pins s σ H x y v u Q I rx ry h hs hs'
  obtain ⟨c, f, Cx, hc, hm, hA, h⟩ := h
  have hA : A c = some Cx := hA
  obtain ⟨a, hB, hop⟩ := opM_of E hm hA
  exact ix_B hop (E.fC' hcl f a hB) (E.room hcl) E.pass value slice pins s σ H x y v u Q I rx ry h hs hs'
theorem m_sub (M : MainE D A B Γ C C' m n) (E : Ev D A B Γ C C' m sc X W) {a i : Ex} {b : Bool} {e : Expr} (h : chkE D sc (n + 1) (.sub a i b) e = true) : Both X A W Γ C C' (.sub a i b) e := by
  cases e with
  | Subscript x y pos =>
    have h : (D.calm && chkE D sc n a x && chkE D sc n i y) = true := h
    rw [Bool.and_eq_true, Bool.and_eq_true] at h
    obtain ⟨⟨hcl, h1⟩, h2⟩ := h
    have h := And.intro h1 h2
    have hh := head_of h.2
    refine .mk' (PE.imp (pe_ixS (ixS E hcl) (M E h.1).pe (M E h.2).pe (plainIx_of hh) (by cases y <;> first | (intro o i; rfl) | cases hh)) fun σ H Q q => ?_) fun _ => rfl
    obtain ⟨lk, g, s, hR, h⟩ := q
    rw [ev] at h
    exact two_at (r := rSubS (gxOf X A) W Γ C' σ) (F := fun x y s2 => subR Γ C' (lks y ++ lk) x y b s2) hR h fun x s1 y s2 g' H' vx vy _ _ r1 p1 p2 h1 => subS_ok r1 p1 p2 h1
  | _ => unfold chkE at h; simp at h
theorem m_split (M : MainE D A B Γ C C' m n) (E : Ev D A B Γ C C' m sc X W) {a : Ex} {e : Expr} (h : chkE D sc (n + 1) (.split a) e = true) : Both X A W Γ C C' (.split a) e := by
  unfold chkE at h
  rw [Bool.and_eq_true] at h
  replace h := h.2
  dsimp only at h
  split at h
  · simp only [Bool.and_eq_true, beq_iff_eq] at h
    obtain ⟨⟨⟨⟨rfl, rfl⟩, h3⟩, h4⟩, h5⟩ := h
    exact .mk' (PE.imp (pe_split (M E h5).pe pe_str rfl (base_of h3) (by rw [h4, beq_self_eq_true])) fun σ H Q q => split_e q) fun _ => rfl
  · cases h
theorem m_get (M : MainE D A B Γ C C' m n) (E : Ev D A B Γ C C' m sc X W) {a : Ex} {as : List Ex} {e : Expr} (h : chkE D sc (n + 1) (.get a as) e = true) : Both X A W Γ C C' (.get a as) e := by
  unfold chkE at h
  rw [Bool.and_eq_true] at h
  replace h := h.2
  cases as with
  | nil => cases h
  | cons k as =>
    cases as with
    | nil => cases h
    | cons d as =>
      cases as with
      | cons _ _ => cases h
      | nil =>
        dsimp only at h
        split at h
        · rename_i x y apos p q pos
          simp only [Bool.and_eq_true, beq_iff_eq] at h
          obtain ⟨⟨⟨⟨rfl, h3⟩, h4⟩, h5⟩, h6⟩ := h
          have st := stars_plain h6 (env := X.env)
          have h6' := h6
          simp only [chkL, Bool.and_eq_true] at h6
          exact .mk' (PE.imp (pe_dget2 (by have := E.un; omega) (M E h5).pe (M E h6.1).pe (M E h6.2.1).pe ⟨base_of h3, by rw [st]; rfl, by rw [h4, beq_self_eq_true], by rw [st]; rfl⟩) fun σ H Q q => get_ok q) fun _ => rfl
        · cases h
end
end Mi

/-! the main induction: calls, comprehensions -/
namespace Mi
open PySem PySem.Spec PyProof.Rows L2
section
variable {D : Kc} {A : AP} {B : Nat → Option Addr} {Γ : Gm} {C C' : CallF} {m : Nat} {sc : Scope} {X : Cx} {W : WX} {n : Nat}
theorem nil_of {cs : List Ex} (h : chkL (chkE D sc n) cs [] = true) : cs = [] := by
  cases cs with
  | nil => rfl
  | cons => cases h
theorem nilA {c : L2.St} {H : Hp} {Q : List L2.V → Hp → Prop} (h : tEs (gxOf X A) W Γ C C' [] c H Q) : tNil c H Q := evs_nil h
theorem m_fn (M : MainE D A B Γ C C' m n) (E : Ev D A B Γ C C' m sc X W) (hcl : D.calm = true) {f : Nat} {as : List Ex} {x : Str} {p pos : Pos} {es : List Expr} (h : chkFn D sc (chkE D sc n) f as x es = true) :
    PE X (.Call (.Name x p) es [] pos) (tE (gxOf X A) W Γ C C' (.call f as [])) := by
  unfold chkFn at h
  simp only [Bool.and_eq_true, decide_eq_true_eq] at h
  obtain ⟨⟨h1, h2⟩, h3⟩ := h
  obtain ⟨hg, hd, hn⟩ := glob_gl E.env h2
  obtain ⟨a, hB, hm, hk⟩ := E.mf.fn x f h1
  cases es with
  | nil =>
    cases nil_of h3
    exact PE.imp (pe_callRS0 (E.fC hcl f a hB) (E.room hcl) hg hm hk E.pass hd) fun σ H Q q => nilA (call_e q)
  | cons e es => exact PE.imp (pe_callRS (E.fC hcl f a hB) (E.room hcl) hg hm hk E.pass (args_of M E h3) hd (star_hd h3) (plain_tl h3)) fun σ H Q q => call_e q
theorem m_fnc (M : MainE D A B Γ C C' m n) (E : Ev D A B Γ C C' m sc X W) (hcl : D.calm = true) {f : Nat} {as : List Ex} {x : Str} {p pos : Pos} {es : List Expr} (h : chkFn D sc (chkE D sc n) f as x es = true) :
    PE X (.Call (.Name x p) es [] pos) (tE (gxOf X A) W Γ C C' (.callc f as)) := by
  unfold chkFn at h
  simp only [Bool.and_eq_true, decide_eq_true_eq] at h
  obtain ⟨⟨h1, h2⟩, h3⟩ := h
  obtain ⟨hg, hd, hn⟩ := glob_gl E.env h2
  obtain ⟨a, hB, hm, hk⟩ := E.mf.fn x f h1
  cases es with
  | nil =>
    cases nil_of h3
    exact PE.imp (pe_callRS0 (E.fC hcl f a hB) (E.room hcl) hg hm hk E.pass hd) fun σ H Q q => nilA (callc_ok q)
  | cons e es => exact PE.imp (pe_callRS (E.fC hcl f a hB) (E.room hcl) hg hm hk E.pass (args_of M E h3) hd (star_hd h3) (plain_tl h3)) fun σ H Q q => callc_ok q
theorem m_cm (M : MainE D A B Γ C C' m n) (E : Ev D A B Γ C C' m sc X W) (hcl : D.calm = true) {f : Nat} {as : List Ex} {x : Expr} {y : Str} {apos pos : Pos} {es : List Expr} (h : chkCm D sc (chkE D sc n) f as x y es apos pos = true) :
    PE X (.Call (.Attribute x y apos) es [] pos) (tE (gxOf X A) W Γ C C' (.call f as [])) := by
  unfold chkCm at h
  split at h
  · split at h
    · rename_i x p _ c as
      simp only [Bool.and_eq_true, decide_eq_true_eq] at h
      obtain ⟨⟨⟨⟨h1, h2⟩, h3⟩, h4⟩, h5⟩ := h
      obtain ⟨hg, hd, hn⟩ := glob_gl E.env h2
      obtain ⟨Ca, a, q, mc, hA, hB, hm, hr, hc⟩ := E.mf.cms x y c f h1
      have hA' : (gxOf X A).A c = some Ca := hA
      have hs : starEach es X.env = es.map fun e => (false, eval e X.env) := stars_plain h5
      have hpe : PE X (.Name x p) (tC (.ref Ca)) := pe_glob hg hm rfl hd
      have ht := call_attr (o := .Name x p) (m := y) (apos := apos) (pos := pos) (es := es) (env := X.env) (base_of rfl) h3 (few_plain hs h4)
      cases es with
      | nil =>
        cases nil_of h5
        exact PE.imp (pe_cmethRS0 hpe hr hc (E.fC hcl f a hB) (E.room hcl) E.pass ht) fun σ H Q q => by
          obtain ⟨z1, z2⟩ := cmeth_e hA' q
          exact ⟨z1, nilA z2⟩
      | cons e es => exact PE.imp (pe_cmethRS hpe hr hc (E.fC hcl f a hB) (E.room hcl) E.pass (args_of M E h5) (star_hd h5) (plain_tl h5) ht) fun σ H Q q => cmeth_e hA' q
    · cases h
  · cases h
theorem m_sm (M : MainE D A B Γ C C' m n) (E : Ev D A B Γ C C' m sc X W) (hcl : D.calm = true) {f : Nat} {as : List Ex} {x : Expr} {y : Str} {apos pos : Pos} {es : List Expr} (h : chkSm D sc f as x y es apos pos = true) :
    PE X (.Call (.Attribute x y apos) es [] pos) (tE (gxOf X A) W Γ C C' (.call f as [])) := by
  unfold chkSm at h
  split at h
  · rename_i x p
    simp only [Bool.and_eq_true, List.isEmpty_iff] at h
    obtain ⟨⟨⟨⟨h1, h2⟩, h3⟩, rfl⟩, rfl⟩ := h
    split at h1
    · rename_i c g hl
      have h1 : g = f := of_decide_eq_true h1
      subst h1
      obtain ⟨hg, hd, hn⟩ := glob_gl E.env h2
      obtain ⟨Ca, a, q, mc, hB, hm, hr, hc⟩ := E.mf.sms x y c g hl
      have hpe : PE X (.Name x p) (tC (.ref Ca)) := pe_glob hg hm rfl hd
      have ht := call_attr (o := .Name x p) (m := y) (apos := apos) (pos := pos) (es := []) (env := X.env) (base_of rfl) h3 (few_plain rfl (by decide))
      exact PE.imp (pe_smethRS0 hpe hr hc (E.fC hcl g a hB) (E.room hcl) E.pass ht) fun σ H Q q => ⟨rfl, nilA (call_e q)⟩
    · cases h1
  · cases h
theorem m_call (M : MainE D A B Γ C C' m n) (E : Ev D A B Γ C C' m sc X W) {f : Nat} {as : List Ex} {ks : List Nat} {e : Expr} (h : chkE D sc (n + 1) (.call f as ks) e = true) : Both X A W Γ C C' (.call f as ks) e := by
  unfold chkE at h
  rw [Bool.and_eq_true] at h
  replace h := h.2
  dsimp only at h
  rw [Bool.and_eq_true] at h
  obtain ⟨hcl, h⟩ := h
  split at h
  · rw [Bool.and_eq_true, List.isEmpty_iff] at h
    obtain ⟨rfl, h⟩ := h
    rw [Bool.or_eq_true] at h
    rcases h with h | h
    · exact .mk' (m_cm M E hcl h) fun _ => rfl
    · exact .mk' (m_sm M E hcl h) fun _ => rfl
  · rw [Bool.and_eq_true, List.isEmpty_iff] at h
    obtain ⟨rfl, h⟩ := h
    exact .mk' (m_fn M E hcl h) fun _ => rfl
  · cases h
theorem m_callc (M : MainE D A B Γ C C' m n) (E : Ev D A B Γ C C' m sc X W) {f : Nat} {as : List Ex} {e : Expr} (h : chkE D sc (n + 1) (.callc f as) e = true) : Both X A W Γ C C' (.callc f as) e := by
  unfold chkE at h
  rw [Bool.and_eq_true] at h
  replace h := h.2
  dsimp only at h
  rw [Bool.and_eq_true] at h
  obtain ⟨hcl, h⟩ := h
  split at h
  · exact .mk' (m_fnc M E hcl h) fun _ => rfl
  · cases h
theorem enc_dec {y : Str} (h : strC y = true) : (⟨(dec (enc y)).toArray⟩ : Str) = y := by
  have := (strC_ok h).dec
  rw [this]
theorem opN_enc {y : Str} (h : strC y = true) (h8 : 8 ≤ enc y) : opN (enc y) = y := by
  have : ∀ k, 8 ≤ k → opN k = ⟨(dec k).toArray⟩ := fun k hk => by
    match k, hk with
    | k + 8, _ => rfl
  rw [this _ h8, enc_dec h]
section
variable {G : Gx}
theorem tE_mono {c : Ex} {σ : L2.St} {H : Hp} {Q Q' : VK} (h : tE G W Γ C C' c σ H Q) (hq : ∀ v H', Q v H' → Q' v H') : tE G W Γ C C' c σ H Q' := by
  obtain ⟨lk, g, s, hR, q⟩ := h
  exact ⟨lk, g, s, hR, q.mono hq⟩
/-- several, one behind the other -/
def tCh (G : Gx) (W : WX) (Γ : Gm) (C C' : CallF) : List Ex → TA
  | [] => tNil
  | c :: cs => tCons (tE G W Γ C C' c) (tCh G W Γ C C' cs)
theorem tCh_mono : ∀ {cs : List Ex} {σ : L2.St} {H : Hp} {Q Q' : List L2.V → Hp → Prop}, tCh G W Γ C C' cs σ H Q → (∀ v H', Q v H' → Q' v H') → tCh G W Γ C C' cs σ H Q'
  | [], σ, H, Q, Q', h, hq => hq _ _ h
  | c :: cs, σ, H, Q, Q', h, hq => tE_mono h fun v H' h' => tCh_mono (cs := cs) h' fun vs H2 q => hq _ _ q
theorem tCh_of : ∀ {cs : List Ex} {σ : L2.St} {H : Hp} {Q : List L2.V → Hp → Prop}, tEs G W Γ C C' cs σ H Q → tCh G W Γ C C' cs σ H Q
  | [], σ, H, Q, h => evs_nil h
  | c :: cs, σ, H, Q, h => tE_mono (evs_ok h) fun v H' h' => tCh_of h'
theorem tCh_app {ds : List Ex} : ∀ {cs : List Ex} {σ : L2.St} {H : Hp} {Q : List L2.V → Hp → Prop}, tCh G W Γ C C' (cs ++ ds) σ H Q → tCh G W Γ C C' cs σ H fun vs H1 => tCh G W Γ C C' ds σ H1 fun zs H2 => Q (vs ++ zs) H2
  | [], σ, H, Q, h => h
  | c :: cs, σ, H, Q, h => tE_mono h fun v H' h' => tCh_app (cs := cs) h'
theorem tCh_len : ∀ {cs : List Ex} {σ : L2.St} {H : Hp} {Q : List L2.V → Hp → Prop}, tCh G W Γ C C' cs σ H Q → tCh G W Γ C C' cs σ H fun zs H' => zs.length = cs.length ∧ Q zs H'
  | [], σ, H, Q, h => ⟨rfl, h⟩
  | c :: cs, σ, H, Q, h => tE_mono h fun v H' h' => tCh_mono (tCh_len (cs := cs) h') fun vs H2 q => ⟨congrArg (· + 1) q.1, q.2⟩
end
theorem pa_ch : ∀ {cs : List Ex} {es : List Expr}, Paired (fun c e => PE X e (tE (gxOf X A) W Γ C C' c) ∧ headOk e = true) cs es → PA X es (tCh (gxOf X A) W Γ C C' cs)
  | [], [], .nil => pa_nil
  | c :: cs, e :: es, .cons p r => pa_cons p.1 (pa_ch r) (star_of p.2)
theorem pk_ch : ∀ {cs : List Ex} {kws : List Keyword}, Paired (fun c e => PE X e (tE (gxOf X A) W Γ C C' c) ∧ headOk e = true) cs (kws.map (·.value)) → PK X kws (tCh (gxOf X A) W Γ C C' cs)
  | [], [], .nil => pk_nil
  | c :: cs, ⟨nm, e, kp⟩ :: kws, .cons p r => pk_cons p.1 (pk_ch r)
theorem kw_names : ∀ {kws : List Keyword} {xs : List Str} {pos : Pos} {env : Env}, kwNames kws = some xs → (backToKw pos (keywordEach kws env)).all (·.1.isSome) = true ∧ (backToKw pos (keywordEach kws env)).any (·.1.isNone) = false ∧ (backToKw pos (keywordEach kws env)).filterMap (·.1) = xs ∧ kws.length = xs.length
  | [], xs, pos, env, h => by cases h; exact ⟨rfl, rfl, rfl, rfl⟩
  | ⟨some x, e, kp⟩ :: kws, xs, pos, env, h => by
    obtain ⟨ys, h1, rfl⟩ := Option.map_eq_some_iff.mp (show (kwNames kws).map (x :: ·) = some xs from h)
    obtain ⟨a, b, c, d⟩ := kw_names (pos := pos) (env := env) h1
    have e1 : backToKw pos (keywordEach (⟨some x, e, kp⟩ :: kws) env) = (some x, do let v ← eval e env; standAt pos; pure v) :: backToKw pos (keywordEach kws env) := rfl
    rw [e1]
    exact ⟨by rw [List.all_cons, a]; rfl, by rw [List.any_cons, b]; rfl, by rw [List.filterMap_cons, c], by simp [d]⟩
  | ⟨none, e, kp⟩ :: kws, xs, pos, env, h => by cases h
theorem nodupS_ok : ∀ {xs : List Str}, nodupS xs = true → xs.Nodup
  | [], _ => .nil
  | x :: xs, h => by
    simp only [nodupS, Bool.and_eq_true, Bool.not_eq_true'] at h
    rw [List.nodup_cons]
    exact ⟨fun hm => (by rw [List.contains_iff_mem.mpr hm] at h; cases h.1), nodupS_ok h.2⟩
theorem m_meth (M : MainE D A B Γ C C' m n) (E : Ev D A B Γ C C' m sc X W) {o : Ex} {k : Nat} {as : List Ex} {ks : List Nat} {e : Expr} (h : chkE D sc (n + 1) (.meth o k as ks) e = true) : Both X A W Γ C C' (.meth o k as ks) e := by
  unfold chkE at h
  rw [Bool.and_eq_true] at h
  replace h := h.2
  dsimp only at h
  rw [Bool.and_eq_true] at h
  obtain ⟨hcl, h⟩ := h
  split at h
  · rename_i x y apos es kws pos
    unfold chkAtt at h
    simp only [Bool.and_eq_true, decide_eq_true_eq, beq_iff_eq, List.contains_iff_mem] at h
    obtain ⟨⟨⟨⟨⟨⟨⟨⟨⟨h1, rfl⟩, h3⟩, h4⟩, h5⟩, h6⟩, h7⟩, h8⟩, h9⟩, h10⟩ := h
    unfold chkKw at h10
    split at h10
    · rename_i xs hxs
      simp only [Bool.and_eq_true, decide_eq_true_eq] at h10
      obtain ⟨⟨⟨⟨rfl, k2⟩, k3⟩, k4⟩, k5⟩ := h10
      obtain ⟨n1, n2, n3, n4⟩ := kw_names (pos := pos) (env := X.env) hxs
      have hs : starEach es X.env = es.map fun e => (false, eval e X.env) := stars_plain h9
      have hpl0 : (backTo pos (starEach es X.env)).any (·.1) = false := by rw [hs]; exact back_plain
      have hmf : methodCallForm (es.length + kws.length) (backTo pos (starEach es X.env)) (backToKw pos (keywordEach kws X.env)) = true := by
        unfold methodCallForm
        have a1 : (backTo pos (starEach es X.env)).all (!·.1) = true := by
          rw [List.all_eq_true]
          intro p hp
          have := List.any_eq_false.mp hpl0 p hp
          simpa using this
        rw [a1, n1]
        simp only [Bool.true_and, decide_eq_true_eq]
        split <;> omega
      have ht := call_attrK (o := x) (m := y) (apos := apos) (pos := pos) (es := es) (kws := kws) (env := X.env) (base_of h5) (by rw [h6, beq_self_eq_true]) hmf
      refine .mk' (PE.of fun σ H Q q => ?_) fun _ => rfl
      obtain ⟨c, f, Cx, hc, hf, hA, q⟩ := meth_e (strC_ok h1) q (E.mf.mcs _ h4)
      have hA : A c = some Cx := hA
      obtain ⟨a, hB, hM, hfi⟩ := E.mf.meth c _ f Cx hf hA
      rw [opN_enc h1 h3] at hM
      refine ⟨_, pe_methRSK (t := tCh (gxOf X A) W Γ C C' (as.take es.length)) (tk := tCh (gxOf X A) W Γ C C' (as.drop es.length)) (M E h8).pe (E.mf.cls c Cx hc hA).1 hM (E.fK hcl f a xs hB k2 (nodupS_ok k3)) (E.room hcl) E.pass
        (pa_ch (paired_of (fun c e h => ⟨(M E h).pe, head_of h⟩) h9)) (pk_ch (paired_of (fun c e h => ⟨(M E h).pe, head_of h⟩) k5)) (fun e es' he => by subst he; exact star_hd h9) (by rw [hpl0, n2]; rfl) n1 n3 (fun he σ H Q q => by
          subst he
          exact q) ht, ?_⟩
      have hlen : (as.drop es.length).length = xs.length := by
        have := Paired.len (paired_of (fun c e h => (show True from trivial)) k5)
        rw [List.length_map] at this
        omega
      refine tE_mono q fun v H1 ⟨a, dx, fs, e1, e2, e3, z⟩ => ⟨a, dx, fs, e1, e2, e3, ?_⟩
      have z2 := tCh_of z
      rw [← List.take_append_drop es.length as] at z2
      refine tCh_mono (tCh_app z2) fun vs H2 z3 => tCh_mono (tCh_len z3) fun zs H3 z4 => ⟨by rw [z4.1, hlen], z4.2⟩
    · cases h10
  · cases h
theorem m_make (M : MainE D A B Γ C C' m n) (E : Ev D A B Γ C C' m sc X W) {c : Nat} {as : List Ex} {e : Expr} (h : chkE D sc (n + 1) (.make c as) e = true) : Both X A W Γ C C' (.make c as) e := by
  unfold chkE at h
  rw [Bool.and_eq_true] at h
  replace h := h.2
  dsimp only at h
  rw [Bool.and_eq_true] at h
  obtain ⟨hcl, h⟩ := h
  split at h
  · rename_i x p es pos
    simp only [Bool.and_eq_true, decide_eq_true_eq] at h
    obtain ⟨⟨h1, h2⟩, h3⟩ := h
    obtain ⟨hg, hd, hn⟩ := glob_gl E.env h2
    obtain ⟨Ca, f, hA, hc, hm, hf⟩ := E.mf.clss x c h1
    obtain ⟨a, hB, hMk⟩ := E.mf.mks c f Ca hf hA
    have hA' : (gxOf X A).A c = some Ca := hA
    cases es with
    | nil =>
      cases nil_of h3
      exact .mk' (PE.imp (pe_makeRS0 hMk (E.fC' hcl f a hB) (E.room hcl) hg hm E.pass hd) fun σ H Q q => nilA (make_e hf hA' hc q)) fun _ => rfl
    | cons e es => exact .mk' (PE.imp (pe_makeRS hMk (E.fC' hcl f a hB) (E.room hcl) hg hm E.pass (args_of M E h3) hd (star_hd h3) (plain_tl h3)) fun σ H Q q => make_e hf hA' hc q) fun _ => rfl
  · cases h
theorem m_makev (M : MainE D A B Γ C C' m n) (E : Ev D A B Γ C C' m sc X W) {i : Nat} {as : List Ex} {e : Expr} (h : chkE D sc (n + 1) (.makev i as) e = true) : Both X A W Γ C C' (.makev i as) e := by
  unfold chkE at h
  rw [Bool.and_eq_true] at h
  replace h := h.2
  dsimp only at h
  rw [Bool.and_eq_true] at h
  obtain ⟨hcl, h⟩ := h
  split at h
  · rename_i x p es pos
    simp only [Bool.and_eq_true, decide_eq_true_eq] at h
    obtain ⟨⟨h1, h2⟩, h3⟩ := h
    cases es with
    | nil => cases h2
    | cons e es =>
      refine .mk' (PE.of fun σ H Q q => ?_) fun _ => rfl
      obtain ⟨c, Ca, hs, hA, q⟩ := makev_e q
      have hA : A c = some Ca := hA
      obtain ⟨hc, f, hf⟩ := E.mf.ini c Ca hA
      obtain ⟨a, hB, hMk⟩ := E.mf.mks c f Ca hf hA
      exact ⟨_, pe_makev hMk (E.fC' hcl f a hB) (E.room hcl) (slot_pe E.env h1) E.pass (args_of M E h3) (star_hd h3) (plain_tl h3), _, hs, rfl, make_e hf (show (gxOf X A).A c = some Ca from hA) hc q⟩
  · cases h
end
end Mi

/-! the main induction: built-ins, isinstance, comprehensions; all expressions -/
namespace Mi
open PySem PySem.Spec PyProof.Rows L2
section
variable {D : Kc} {A : AP} {B : Nat → Option Addr} {Γ : Gm} {C C' : CallF} {m : Nat} {sc : Scope} {X : Cx} {W : WX} {n : Nat}
theorem boot_bool' : bootBuiltins "bool" = some (.type "bool") := by decide +kernel
theorem boot_dict' : bootBuiltins "dict" = some (.type "dict") := by decide +kernel
theorem boot_ty : ∀ {t : Ty}, isiK t = true → bootBuiltins (tyName t) = some (.type (tyS t))
  | .bool, _ => boot_bool'
  | .int, _ => PyProof.Rows.boot_int
  | .str, _ => PyProof.Rows.boot_str
  | .tuple, _ => PyProof.Rows.boot_tuple
  | .list, _ => PyProof.Rows.boot_list
  | .dict, _ => boot_dict'
theorem ty_free {t : Ty} (h : isiK t = true) : tyName t ∈ (["len", "range", "enumerate", "any", "all", "list", "tuple", "int", "str", "isinstance", "bool", "dict"] : List Str) := by
  cases t <;> first | decide | cases h
theorem bi_free {b : Bi} : biName b ∈ (["len", "range", "enumerate", "any", "all", "list", "tuple", "int", "str", "isinstance", "bool", "dict"] : List Str) := by
  cases b <;> decide
theorem isiC_eq {t : Ty} (h : isiK t = true) : isiC t = true := by cases t <;> first | rfl | cases h
theorem m_isi (M : MainE D A B Γ C C' m n) (E : Ev D A B Γ C C' m sc X W) {a : Ex} {t : Ty} {e : Expr} (h : chkE D sc (n + 1) (.isi a t) e = true) : Both X A W Γ C C' (.isi a t) e := by
  unfold chkE at h
  rw [Bool.and_eq_true] at h
  replace h := h.2
  dsimp only at h
  split at h
  · rename_i x p y z q pos
    simp only [Bool.and_eq_true, beq_iff_eq] at h
    obtain ⟨⟨⟨⟨⟨rfl, h2⟩, h3⟩, rfl⟩, h5⟩, h6⟩ := h
    obtain ⟨hg, hd, hn⟩ := glob_gl E.env h2
    obtain ⟨hg2, hd2, hn2⟩ := glob_gl E.env h3
    have hb : PE X (.Name (tyName t) q) (tC (.ty (tyS t))) := pe_bltn hg2 (E.mf.free _ (ty_free h5)) (boot_ty h5) rfl hn2 hd2
    have hs1 : starEach [y, .Name (tyName t) q] X.env = (false, eval y X.env) :: starEach [.Name (tyName t) q] X.env := star_of (head_of h6)
    exact .mk' (PE.imp (pe_callB call_isi hg (E.mf.free _ (by decide)) PyProof.Rows.boot_isinstance (pa_cons (M E h6).pe (pa_cons hb pa_nil) hs1) hn hd hs1 rfl) fun σ H Q q => isi_e (isiC_eq h5) q) fun _ => rfl
  · cases h
theorem bi_eS {b : Bi} {as : List Ex} {σ : L2.St} {H : Hp} {Q : VK} (ni : noIt Γ) (hb : b ≠ .range ∧ b ≠ .enum) (h : tE (gxOf X A) W Γ C C' (.bi b as) σ H Q) : tCBS (rBiS (gxOf X A) W Γ C' b) (tEs (gxOf X A) W Γ C C' as) σ H Q := by
  obtain ⟨lk, g, s, hR, h⟩ := h
  rw [ev] at h
  exact many_at hR h fun vs s1 g' H' xs e r1 p1 h1 => biS_ok ni hb r1 p1 h1
theorem CallRS.weak {f : Value} {r r' : L2.St → List L2.V → Hp → VK → Prop} (h : CallRS X f r) (k : ∀ σ xs H Q, r' σ xs H Q → r σ xs H Q) : CallRS X f r' := fun pins s σ H xs us Q I rv q => h pins s σ H xs us Q I rv (k _ _ _ _ q)
theorem rBiS_flat {G : Gx} {b : Bi} {σ : L2.St} {xs : List L2.V} {H : Hp} {Q : VK} (h1 : b ≠ .len) (h2 : b ≠ .list) (q : rBiS G W Γ C' b σ xs H Q) : rBi G.K b xs H Q := by
  rcases q with q | ⟨z, _⟩ | ⟨z, _⟩ | ⟨z, _⟩ | ⟨z, _⟩
  · exact q
  · exact absurd z h1
  · exact absurd z h1
  · exact absurd z h2
  · exact absurd z h2
theorem m_bi (M : MainE D A B Γ C C' m n) (E : Ev D A B Γ C C' m sc X W) {b : Bi} {as : List Ex} {e : Expr} (h : chkE D sc (n + 1) (.bi b as) e = true) : Both X A W Γ C C' (.bi b as) e := by
  unfold chkE at h
  rw [Bool.and_eq_true] at h
  replace h := h.2
  dsimp only at h
  rw [Bool.and_eq_true] at h
  obtain ⟨hcl, h⟩ := h
  split at h
  · rename_i x p es pos
    simp only [Bool.and_eq_true, beq_iff_eq] at h
    obtain ⟨⟨⟨⟨rfl, h2⟩, h3⟩, h4⟩, h5⟩ := h
    obtain ⟨hg, hd, hn⟩ := glob_gl E.env h2
    have hb : b ≠ .range ∧ b ≠ .enum := by cases b <;> first | exact ⟨by decide, by decide⟩ | cases h4
    have hm := E.mf.free _ (bi_free (b := b))
    cases es with
    | nil => cases h3
    | cons e es =>
      have ar := args_of M E h5
      refine .mk' ?_ fun _ => rfl
      cases b with
      | len =>
        refine PE.imp (pe_callBS (r := rBiS (gxOf X A) W Γ C' .len) (id := "len") (fun pins s σ H xs us Q I r q => ?_) hg hm boot_len ar hn hd (star_hd h5) (plain_tl h5)) fun σ H Q q => bi_eS E.mf.ni hb q
        rcases q with q | ⟨_, c, f, Cx, hc, hme, hA, q⟩ | q
        rotate_left 2
        · rcases q with ⟨_, a, k, rfl, q1 | q1, q⟩ | ⟨z, _⟩ | ⟨z, _⟩
          · obtain ⟨kvs, hr, rfl⟩ := q1
            obtain ⟨u, rfl, rx⟩ := r.one
            cases rx
            exact d_len I hr fun t s' I' => ⟨.int ((kvs.length : Nat) : Int), H, I', ⟨t, rfl⟩, q⟩
          · obtain ⟨kvs, hr, rfl⟩ := q1
            obtain ⟨u, rfl, rx⟩ := r.one
            cases rx
            obtain ⟨z, hd, ys, rel, dd⟩ := dt_rd I.hok hr
            have hl : kvs.length = ys.length := Paired.length rel
            refine call_len_dictH hd dd (by rw [← hl]; rw [sizeLine_eq] at z; omega) ?_
            rw [← hl]
            exact ⟨.int ((kvs.length : Nat) : Int), H, I.tok _, ⟨_, rfl⟩, q⟩
          · cases z
          · cases z
        · exact call_len_seq pins s σ H xs us Q I r q
        · have hA : A c = some Cx := hA
          obtain ⟨a, hB, hop⟩ := opM_of E hme hA
          exact cr_lenB hop (E.fC' hcl f a hB) (E.room hcl) E.pass pins s σ H xs us Q I r q
      | any => exact PE.imp (pe_callBS (r := rBiS (gxOf X A) W Γ C' .any) (id := "any") (fun pins s σ H xs us Q I r q => (cr_any (E.calm hcl)) pins s σ H xs us Q I r (rBiS_flat (by decide) (by decide) q)) hg hm PyProof.Rows.boot_any ar hn hd (star_hd h5) (plain_tl h5)) fun σ H Q q => bi_eS E.mf.ni hb q
      | all => exact PE.imp (pe_callBS (r := rBiS (gxOf X A) W Γ C' .all) (id := "all") (fun pins s σ H xs us Q I r q => (cr_all (E.calm hcl)) pins s σ H xs us Q I r (rBiS_flat (by decide) (by decide) q)) hg hm PyProof.Rows.boot_all ar hn hd (star_hd h5) (plain_tl h5)) fun σ H Q q => bi_eS E.mf.ni hb q
      | list => exact PE.imp (pe_callTyS (r := rBiS (gxOf X A) W Γ C' .list) (T := "list") (fun pins s σ H xs us Q I r q => by
        rcases q with q | ⟨z, _⟩ | ⟨z, _⟩ | ⟨_, a, kvs, rfl, hr, q⟩ | ⟨_, a, kvs, rfl, hr, q⟩
        · exact call_list_of pins s σ H xs us Q I r q
        · cases z
        · cases z
        · exact call_listD (E.calm hcl) pins s σ H [.ref a] us Q I r ⟨a, kvs, rfl, hr, q⟩
        · exact call_list_dT (E.calm hcl) pins s σ H [.ref a] us Q I r ⟨a, kvs, rfl, hr, q⟩) hg hm PyProof.Rows.boot_list ar hn hd (star_hd h5) (plain_tl h5)) fun σ H Q q => bi_eS E.mf.ni hb q
      | tuple => exact PE.imp (pe_callTyS (r := rBiS (gxOf X A) W Γ C' .tuple) (T := "tuple") (fun pins s σ H xs us Q I r q => call_tuple_of pins s σ H xs us Q I r (rBiS_flat (by decide) (by decide) q)) hg hm PyProof.Rows.boot_tuple ar hn hd (star_hd h5) (plain_tl h5)) fun σ H Q q => bi_eS E.mf.ni hb q
      | int => exact PE.imp (pe_callTyS (r := rBiS (gxOf X A) W Γ C' .int) (T := "int") (fun pins s σ H xs us Q I r q => call_int1 pins s σ H xs us Q I r (rBiS_flat (by decide) (by decide) q)) hg hm PyProof.Rows.boot_int ar hn hd (star_hd h5) (plain_tl h5)) fun σ H Q q => bi_eS E.mf.ni hb q
      | str => exact PE.imp (pe_callTyS (r := rBiS (gxOf X A) W Γ C' .str) (T := "str") (fun pins s σ H xs us Q I r q => call_str_int pins s σ H xs us Q I r (rBiS_flat (by decide) (by decide) q)) hg hm PyProof.Rows.boot_str ar hn hd (star_hd h5) (plain_tl h5)) fun σ H Q q => bi_eS E.mf.ni hb q
      | range => cases h4
      | enum => cases h4
  · cases h
/-! ### targets -/
/-- names that may be stored -/
structure Sto (X : Cx) (sc0 : Scope) : Prop where
  loc : ∀ x, held sc0 x = true → Loc X.env.scope x ∧ (X.fn x = true ∨ X.env.scope.names.lookup x = some .local)
theorem slot_pg (hN : X.N = D.N) (nd : X.N.Nodup) {sc0 : Scope} (st : Sto X sc0) {i : Nat} {e : Expr} (h : slotN D sc0 i e = true) : PG X e (gName i) ∧ ∃ x p, e = .Name x p := by
  unfold slotN at h
  split at h
  · simp only [Bool.and_eq_true, decide_eq_true_eq] at h
    obtain ⟨h1, h2⟩ := st.loc _ h.2
    exact ⟨pg_name nd (by rw [hN]; exact h.1) h1 h2, _, _, rfl⟩
  · cases h
theorem names_pg (hN : X.N = D.N) (nd : X.N.Nodup) {sc0 : Scope} (st : Sto X sc0) : ∀ {is : List Nat} {es : List Expr}, chkL (slotN D sc0) is es = true →
    PGs X es (gNames is) ∧ (assignEach es X.env).length = is.length ∧ (assignEach es X.env).findIdx? (·.1) = none
  | [], [], _ => ⟨pgs_nil, rfl, rfl⟩
  | i :: is, e :: es, h => by
    simp only [chkL, Bool.and_eq_true] at h
    obtain ⟨h1, x, p, rfl⟩ := slot_pg hN nd st h.1
    obtain ⟨h2, h3, h4⟩ := names_pg hN nd st h.2
    refine ⟨pgs_cons h1 h2 rfl, ?_, ?_⟩
    · show (assignEach es X.env).length + 1 = is.length + 1
      rw [h3]
    · show ((false, _) :: assignEach es X.env).findIdx? (·.1) = none
      rw [List.findIdx?_cons, h4]
      rfl
  | [], _ :: _, h => by cases h
  | _ :: _, [], h => by cases h
theorem tg_pg (hN : X.N = D.N) (nd : X.N.Nodup) (hc : X.calm = true) {sc0 : Scope} (st : Sto X sc0) {g : Tg} {e : Expr} (h : chkTg D sc0 g e = true) : PG X e (gTg X.K g) := by
  unfold chkTg at h
  split at h
  · exact (slot_pg hN nd st h).1
  · obtain ⟨h1, h2, h3⟩ := names_pg hN nd st h
    exact pg_tup hc h1 h2 h3
  · cases h
theorem sto_blk {scope : Scope} {s : Shared} {H : Hp} {a : Addr} {cl : List (Str × Addr)} {fp : List Addr} : Sto (X.blk s H scope (compEnvC scope cl a X.env) fp) scope where
  loc := fun x h => by
    unfold held at h
    split at h
    · rename_i e
      have k : (relS scope X.env.scope).names.lookup x = some .local := lookup_relS_keep (by decide) e
      exact ⟨.inl k, .inr k⟩
    · rename_i e
      have k : (relS scope X.env.scope).names.lookup x = some .cell := lookup_relS_keep (by decide) e
      exact ⟨.inr k, .inl (by show (scope.names.lookup x == some .cell) = true; rw [e]; rfl)⟩
    · cases h
theorem fold_of {e : Expr} {env : Env} (h : headOk e = true) : ∀ x, foldedSetIterable e env x = pure x := by
  cases e <;> first | (intro x; rfl) | cases h
/-! ### comprehensions -/
theorem comp_any {G : Gx} (ni : noIt Γ) {tg : Tg} {it e : Ex} {c : Option Ex} {lk : List Pl} {g : Gh} {s : S} {σ : L2.St} {H : Hp} {Q : VK} (hR : R G g lk s σ H) (h : Post G W lk g σ H (ev Γ C C' lk (.comp e tg it c) s) Q) :
    (tLc (iList G.K (tE G W Γ C C' it)) (gTg G.K tg) (tTc G Γ C C' c) (tE G noW Γ C C' e) tg.slots σ H Q ∨ tLc (iTup G.K (tE G W Γ C C' it)) (gTg G.K tg) (tTc G Γ C C' c) (tE G noW Γ C C' e) tg.slots σ H Q) ∨
      tLc (iKeysF X (tE G W Γ C C' it)) (gTg G.K tg) (tTc G Γ C C' c) (tE G noW Γ C C' e) tg.slots σ H (thawQ X Q) := by
  cases ea : ev Γ C C' lk it s with
  | no => rw [ev, ea] at h; exact h.elim
  | exc c xs s1 => exact .inl (comp_seq hR h fun v s1 e => by rw [ea] at e; cases e)
  | ok v s1 =>
    cases hi : itemsR Γ v.2 s1 with
    | none =>
      rw [ev, ea] at h
      have h : Post G W lk g σ H (optR (itemsR Γ v.2 s1) fun xs => noExc ((compL (lks v ++ lk) tg (fun s => evc Γ C C' (lks v ++ lk) c s) (fun s => ev Γ C C' (lks v ++ lk) e s) xs [] s1).bind fun ys s2 => okO (.lst ys) s2)) Q := h
      rw [hi] at h
      exact h.elim
    | some xs =>
      rcases items_of ni hi with z | ⟨z, _⟩ | ⟨u, kvs, z, _⟩
      · exact .inl (comp_seq hR h fun v' s1' e => by rw [ea] at e; cases e; exact .inl ⟨_, z⟩)
      · exact .inl (comp_seq hR h fun v' s1' e => by rw [ea] at e; cases e; exact .inr ⟨_, z⟩)
      · exact .inr (comp_dct hR h fun v' s1' e => by rw [ea] at e; cases e; exact ⟨u, kvs, z⟩)
theorem for_any {G : Gx} (ni : noIt Γ) {tg : Tg} {it : Ex} {body : List Sm} {lk : List Pl} {g : Gh} {s : S} {σ : L2.St} {H : Hp} {De : Ends} (hR : R G g lk s σ H) (h : PostS G W lk g H (exec Γ C C' lk (.for_ tg it body) s) De) :
    ((tFor (iList G.K (tE G W Γ C C' it)) (gTg G.K tg) (tSs G W Γ C C' body) De σ H) ∨ tFor (iTup G.K (tE G W Γ C C' it)) (gTg G.K tg) (tSs G W Γ C C' body) De σ H) ∨
      tFor (iKeysF X (tE G W Γ C C' it)) (gTg G.K tg) (tbD G X W Γ C C' body) (thawD X De) σ H := by
  cases ea : ev Γ C C' lk it s with
  | no =>
    have h : PostS G W lk g H ((ev Γ C C' lk it s).bind fun x s1 => optR (itemsR Γ x.2 s1) fun xs => forL (lks x ++ lk) tg (fun s => execs Γ C C' (lks x ++ lk) body s) xs s1) De := h
    rw [ea] at h; exact h.elim
  | exc c xs s1 => exact .inl (for_seq hR h fun v s1 e => by rw [ea] at e; cases e)
  | ok v s1 =>
    cases hi : itemsR Γ v.2 s1 with
    | none =>
      have h : PostS G W lk g H ((ev Γ C C' lk it s).bind fun x s1 => optR (itemsR Γ x.2 s1) fun xs => forL (lks x ++ lk) tg (fun s => execs Γ C C' (lks x ++ lk) body s) xs s1) De := h
      rw [ea] at h
      have h : PostS G W lk g H (optR (itemsR Γ v.2 s1) fun xs => forL (lks v ++ lk) tg (fun s => execs Γ C C' (lks v ++ lk) body s) xs s1) De := h
      rw [hi] at h
      exact h.elim
    | some xs =>
      rcases items_of ni hi with z | ⟨z, _⟩ | ⟨u, kvs, z, _⟩
      · exact .inl (for_seq hR h fun v' s1' e => by rw [ea] at e; cases e; exact .inl ⟨_, z⟩)
      · exact .inl (for_seq hR h fun v' s1' e => by rw [ea] at e; cases e; exact .inr ⟨_, z⟩)
      · exact .inr (for_dct hR h fun v' s1' e => by rw [ea] at e; cases e; exact ⟨u, kvs, z⟩)
/-- the walked thing of a for or a comprehension, by what is walked -/
theorem it_pi (M : MainE D A B Γ C C' m n) (E : Ev D A B Γ C C' m sc X W) {tg : Expr} {it : Ex} {e : Expr} (h : chkItE sc (chkE D sc n) it e = true) :
    (isRange it = false ∧ PI X tg e (iList X.K (tE (gxOf X A) W Γ C C' it)) ∧ PI X tg e (iTup X.K (tE (gxOf X A) W Γ C C' it)) ∧ PI X tg e (iKeysF X (tE (gxOf X A) W Γ C C' it))) ∨ ∃ a, it = .bi .range [a] ∧ PI X tg e (iRng1 (tEs (gxOf X A) W Γ C C' [a])) := by
  unfold chkItE at h
  split at h
  · right
    split at h
    · rename_i a _ x p a' pos
      simp only [Bool.and_eq_true, beq_iff_eq] at h
      obtain ⟨⟨⟨rfl, h2⟩, h3⟩, h4⟩ := h
      obtain ⟨hg, hd, hn⟩ := glob_gl E.env h2
      exact ⟨a, rfl, pi_range1 hg (E.mf.free _ (by decide)) (args_of M E (cs := [a]) (es := [a']) (by simp only [chkL, Bool.and_true]; exact h4)) (star_of h3)⟩
    · cases h
  · left
    simp only [Bool.and_eq_true, Bool.not_eq_true'] at h
    exact ⟨h.1.1, pi_list (M E h.2).pe, pi_tup (M E h.2).pe, pi_keysF (M E h.2).pe⟩
theorem m_comp (M : MainE D A B Γ C C' m n) (E : Ev D A B Γ C C' m sc X W) {el : Ex} {g : Tg} {it : Ex} {cn : Option Ex} {e : Expr} (h : chkE D sc (n + 1) (.comp el g it cn) e = true) :
    Both X A W Γ C C' (.comp el g it cn) e ∧ ∀ {i : Nat} {y : Str} {py spos : Pos}, X.N[i]? = some y → X.env.scope.names.lookup y = some .local → swapsWith e (some (.Name y py)) spos.line X.env = pure true →
      PS X (.Assign [.Name y py] e spos) (tAsg (tE (gxOf X A) W Γ C C' (.comp el g it cn)) (gName i)) := by
  unfold chkE at h
  rw [Bool.and_eq_true] at h
  replace h := h.2
  dsimp only at h
  rw [Bool.and_eq_true] at h
  obtain ⟨hcl, h⟩ := h
  have ecalm := E.calm hcl
  split at h
  · rename_i el' t it' ifs scope pos
    simp only [Bool.and_eq_true, decide_eq_true_eq] at h
    obtain ⟨⟨⟨⟨⟨⟨h1, h2⟩, h3⟩, h4⟩, h5⟩, h6⟩, h7⟩ := h
    have ok : BlkOk X.N X.env.scope scope (ownOf g t) := by rw [E.N, E.scq]; exact blkOk_by h1
    have hk : scope.kind = .function := ok.kind
    have hg : ∀ (s : Shared) (H : Hp) (C : Addr) (cl : List (Str × Addr)) (fp : List Addr), PG (X.blk s H scope (compEnvC scope cl C X.env) fp) t (gTg X.K g) := fun s H a cl fp =>
      tg_pg (X := X.blk s H scope (compEnvC scope cl a X.env) fp) E.N E.nd ecalm sto_blk h2
    have ht : ∀ (s : Shared) (H : Hp) (a : Addr) (cl : List (Str × Addr)) (fp : List Addr), PTs (X.blk s H scope (compEnvC scope cl a X.env) fp) ifs (tTc (gxOf X A) Γ C C' cn) := fun s H a cl fp => by
      split at h7
      · cases cn with
        | none => exact pts_nil
        | some c => cases h7
      · cases cn with
        | none => cases h7
        | some c => exact pts_one (M (E.blk hcl hk s H a cl fp) (show chkE D (relS scope sc) n c _ = true from h7)).pt
      · cases h7
    have he : ∀ (s : Shared) (H : Hp) (a : Addr) (cl : List (Str × Addr)) (fp : List Addr), PE (X.blk s H scope (compEnvC scope cl a X.env) fp) el' (tE (gxOf X A) noW Γ C C' el) := fun s H a cl fp => (M (E.blk hcl hk s H a cl fp) h6).pe
    have fo := fold_of (env := X.env) h5
    rcases it_pi (tg := t) M E h4 with ⟨hr, p1, p2, p3⟩ | ⟨a, rfl, p1⟩
    · have key : ∀ {σ : L2.St} {H : Hp} {Q : VK}, tE (gxOf X A) W Γ C C' (.comp el g it cn) σ H Q → (tLc (iList X.K (tE (gxOf X A) W Γ C C' it)) (gTg X.K g) (tTc (gxOf X A) Γ C C' cn) (tE (gxOf X A) noW Γ C C' el) ((ownOf g t).map (·.2)) σ H Q ∨
          tLc (iTup X.K (tE (gxOf X A) W Γ C C' it)) (gTg X.K g) (tTc (gxOf X A) Γ C C' cn) (tE (gxOf X A) noW Γ C C' el) ((ownOf g t).map (·.2)) σ H Q) ∨
          tLc (iKeysF X (tE (gxOf X A) W Γ C C' it)) (gTg X.K g) (tTc (gxOf X A) Γ C C' cn) (tE (gxOf X A) noW Γ C C' el) ((ownOf g t).map (·.2)) σ H (thawQ X Q) := by
        intro σ H Q q
        obtain ⟨lk, g', s, hR, q⟩ := q
        rw [h3]
        exact comp_any E.mf.ni hR q
      refine ⟨.mk' (PE.of fun σ H Q q => ?_) fun _ => rfl, fun hi hl hsw => ?_⟩
      · rcases key q with (q | q) | q
        · exact ⟨_, pe_lc ecalm E.nd p1 ok hg ht he fo, q⟩
        · exact ⟨_, pe_lc ecalm E.nd p2 ok hg ht he fo, q⟩
        · exact ⟨_, pe_thaw (pe_lc ecalm E.nd p3 ok hg ht he fo), q⟩
      · refine PS.imp (PS.or (PS.or (ps_setLc ecalm E.nd hi hl hsw p1 ok hg ht he fo) (ps_setLc ecalm E.nd hi hl hsw p2 ok hg ht he fo)) (ps_thaw (ps_setLc ecalm E.nd hi hl hsw p3 ok hg ht he fo))) fun De σ H q => ?_
        rcases key q with q | q
        · exact .inl q
        · exact .inr q
    · have key : ∀ {σ : L2.St} {H : Hp} {Q : VK}, tE (gxOf X A) W Γ C C' (.comp el g (.bi .range [a]) cn) σ H Q → tLc (iRng1 (tEs (gxOf X A) W Γ C C' [a])) (gTg X.K g) (tTc (gxOf X A) Γ C C' cn) (tE (gxOf X A) noW Γ C C' el) ((ownOf g t).map (·.2)) σ H Q := by
        intro σ H Q q
        obtain ⟨lk, g', s, hR, q⟩ := q
        rw [h3]
        exact comp_range hR q
      exact ⟨.mk' (PE.imp (pe_lc ecalm E.nd p1 ok hg ht he fo) fun σ H Q q => key q) fun _ => rfl, fun hi hl hsw => PS.imp (ps_setLc ecalm E.nd hi hl hsw p1 ok hg ht he fo) fun De σ H q => key q⟩
  · cases h
/-! ### a field of the exception that is handled -/
theorem m_xf (E : Ev D A B Γ C C' m sc X W) {i f : Nat} {e : Expr} (h : chkE D sc (n + 1) (.xf i f) e = true) : Both X A W Γ C C' (.xf i f) e := by
  unfold chkE at h
  rw [Bool.and_eq_true] at h
  replace h := h.2
  dsimp only at h
  split at h
  · rename_i x p y pos
    simp only [Bool.and_eq_true, decide_eq_true_eq] at h
    obtain ⟨⟨⟨h1, h2⟩, h3⟩, h4⟩ := h
    refine .mk' ⟨fun pins s σ H Q I q => ?_⟩ fun _ => rfl
    obtain ⟨lk, g, st, hR, q⟩ := q
    rw [ev] at q
    split at q
    · rename_i c xs hl
      obtain ⟨c', xs', a, oe, e1, e2, e3, C1, da, fs, z1, z2, z3, z4, z5, z6⟩ := hR.xl i _ hl
      cases e1
      cases hx : xs[f - 1]? with
      | none => rw [hx] at q; exact q.elim
      | some t =>
        rw [hx] at q
        obtain ⟨nm, v, w1, w2, w3⟩ := z6 _ _ hx
        rw [h3] at w1
        cases w1
        have q : Post (gxOf X A) W lk g σ H (okF t st) Q := q
        obtain ⟨hpn, vs, hd⟩ := E.xp i a oe e2
        obtain ⟨T, hno⟩ := E.mf.xf c C1 z1
        refine attr_of (base_of rfl) (thn ((slot_pe E.env h1).run pins s σ H (fun x1 H1 => x1 = .ref a ∧ H1 = H) I ⟨_, e3, rfl, rfl⟩) fun u s1 hh => ?_)
        obtain ⟨x1, H1, I1, rx, ex, eH⟩ := hh
        subst ex
        subst eH
        cases (show u = Value.ref a from rx)
        obtain ⟨ha, _⟩ := I1.pin (a, oe) (List.mem_append_left _ hpn)
        obtain ⟨mA, hns, hr⟩ := (show ObjOk X.prog X.w _ s1.heap da (.xd fs) from I1.hok da _ z4)
        obtain ⟨od, ho, hl'⟩ := lookIn_ns hns
        obtain ⟨u, hu, ru⟩ := RelO.some_of (v := v) (o := mA y) (by rw [← w2]; exact hr y)
        have J : PySem.W.InstAt s1.heap a oe C1 (some od) := ⟨ha, z2, by unfold PySem.W.notCls; rw [hd], by rw [z3]; exact ho⟩
        exact HandSPX.exc_get I1.kIn J T.ga T.gg T.exC (PySem.W.findObj_own T.hdC (hno y (List.mem_of_getElem? h3)) rfl (by rw [hl', hu])) (handed_of ru) ⟨v, _, I1.tok _, ru, Post.old hR q w3⟩
    · exact q.elim
  · cases h
/-! ### all -/
theorem mainE : ∀ n : Nat, MainE D A B Γ C C' m n
  | 0, _, _, _, _, _, _, h => by cases h
  | n + 1, sc, X, W, c, e, E, h => by
    have M : MainE D A B Γ C C' m n := mainE n
    cases c with
    | cst t => exact m_cst E h
    | var i b => exact m_var E h
    | mv i => exact m_mv E h
    | lst cs => exact m_lst M E h
    | dct cs => exact m_dct E h
    | dcu => exact m_dcu E h
    | stuck => exact m_stuck
    | xf i f => exact m_xf E h
    | tup cs => exact m_tup M E h
    | bin o a b => exact m_bin M E h
    | cmp o a b => exact m_cmp M E h
    | not a => exact m_not M E h
    | and a b => exact m_and M E h
    | or a b => exact m_or M E h
    | att a f b => exact m_att M E h
    | slc a lo hi => exact m_slc M E h
    | rev a => exact m_rev M E h
    | boxd ks es => exact m_boxd E h
    | sub a i b => exact m_sub M E h
    | split a => exact m_split M E h
    | get a as => exact m_get M E h
    | call f as ks => exact m_call M E h
    | callc f as => exact m_callc M E h
    | meth o k as ks => exact m_meth M E h
    | make c as => exact m_make M E h
    | makev i as => exact m_makev M E h
    | isi a t => exact m_isi M E h
    | bi b as => exact m_bi M E h
    | comp el g it cn => exact (m_comp M E h).1
    | _ => unfold chkE at h; simp at h
end
end Mi

/-! the main induction: statements -/
namespace Mi
open PySem PySem.Spec PyProof.Rows L2
section
variable {G : Gx} {W : WX} {Γ : Gm} {C C' : CallF} {g g1 g2 g' : Gh} {H H1 H2 H' : Hp} {σ σ' : L2.St} {s s1 s2 : S} {lk lk' : List Pl} {Q : VK} {D : Ends}
theorem aug_ok {i : Nat} {e : Ex} (h : tS G W Γ C C' (.aug i e) D σ H) : tAug i (tE G W Γ C C' e) (ipI fun i j => i + j) D σ H := by
  obtain ⟨lk, g, s, hR, h⟩ := h
  have h : PostS G W lk g H (match s.loc[i]? with
    | some (some (_, .int a)) => (ev Γ C C' lk e s).bind fun y s1 => match y.2 with
      | .int b => nxR (bindTg lk (.one i) (.fro, .int (a + b)) s1)
      | _ => .no
    | _ => .no) D := h
  split at h
  · rename_i mo a hs
    have hmx : mo ≠ .xc := by
      intro z
      subst z
      obtain ⟨_, _, _, _, z, _⟩ := hR.xl i _ hs
      cases z
    obtain ⟨v, h1, h2⟩ := hR.sl i mo _ hs hmx
    cases Rep.int_inv h2
    refine ⟨_, h1, ?_⟩
    refine expr_ok hR h fun y s1 g1 H1 x r1 k1 p1 q => ?_
    obtain ⟨md, t⟩ := y
    cases t with
    | int b =>
      cases Rep.int_inv p1
      refine ⟨a, b, rfl, rfl, ?_⟩
      have q : PostS G W lk g1 H1 (nxR (bindTg lk (.one i) (.fro, .int (a + b)) s1)) D := q
      cases hb : bindTg lk (.one i) (.fro, .int (a + b)) s1 with
      | none => rw [hb] at q; exact q.elim
      | some s2 =>
        rw [hb] at q
        exact bind_one (v := (.fro, .int (a + b))) (x := .int (a + b)) r1 .int hb fun g' σ' H' r' k' => q g' σ' H' r' k'
    | _ => exact (show False from q).elim
  · exact h.elim
theorem Reps.set {t : T} {v : L2.V} (ht : Rep G g H .fz t v) : ∀ {xs : List T} {vs : List L2.V} (_ : Reps G g H xs vs) (j : Nat), Reps G g H (xs.set j t) (vs.set j v)
  | _, _, .nil, _ => .nil
  | _, _, .cons _ r, 0 => .cons ht r
  | _, _, .cons h r, j + 1 => .cons h (Reps.set ht r j)
def rSet : L2.V → L2.V → L2.V → Hp → (Hp → Prop) → Prop := fun o i v H Q => rSetL o i v H Q ∨ rSetD o i v H Q
theorem set_any {X : Cx} (hu : X.A.units + 1 < cLine) : PSet X rSet := fun pins s σ H o i v ov iv u Q I ro ri rv h => h.elim (set_list pins s σ H o i v ov iv u Q I ro ri rv) (set_dict hu pins s σ H o i v ov iv u Q I ro ri rv)
theorem setPl_ok {x y v : V} {vx vk vy : L2.V} (hR : R G g lk s σ H) (hc : isCont x.2 = true) (px : Rep G g H (plO lk (plOf x)) x.2 vx) (pk : Rep G g H (mdO lk y.1) y.2 vk) (pv : Rep G g H .fz v.2 vy)
    (h : PostS G W lk g H (setPl lk (plOf x) y v s) D) : rSet vx vk vy H fun H3 => D.nx σ H3 := by
  have dd : ∀ (u : Bool) (kvs : List (T × T)), rdPl lk (plOf x) s = some (dOf u kvs) → PostS G W lk g H (if y.1.sto && dKey u y.2 && decide (kvs.length < szL) then .ok .nx (wrPl (plOf x) (dOf u (T.put y.2 v.2 kvs)) s) else .no) D → rSet vx vk vy H fun H3 => D.nx σ H3 := by
    intro u kvs e h
    split at h
    · rename_i hcc
      simp only [Bool.and_eq_true, decide_eq_true_eq] at hcc
      obtain ⟨⟨_, hk⟩, hz⟩ := hcc
      obtain ⟨a, rfl, ha, pt, mu⟩ := hR.mutP e px hc (by cases u <;> rfl)
      obtain ⟨a', ob, ea, _, hob, dp, pn⟩ := dput_of hk hz pt pk pv
      cases ea
      obtain ⟨r4, k4⟩ := mu ob _ hob pn
      exact .inr ⟨a, _, rfl, dp, h _ σ _ r4 k4⟩
    · exact h.elim
  unfold setPl at h
  split at h
  · rename_i kvs e; exact dd false kvs e h
  · rename_i kvs e; exact dd true kvs e h
  · rename_i xs e
    obtain ⟨md, t⟩ := y
    cases t with
    | int k =>
      cases Rep.int_inv pk
      have h : PostS G W lk g H (optR (idx xs.length k) fun j => .ok .nx (wrPl (plOf x) (.lst (xs.set j v.2)) s)) D := h
      obtain ⟨a, rfl, ha, pt, mu⟩ := hR.mutP e px hc rfl
      obtain ⟨_, vs, ev', _, hH, hz, rs⟩ := lst_inv pt
      cases ev'
      cases hj : idx xs.length k with
      | none => rw [hj] at h; exact h.elim
      | some j =>
        rw [hj] at h
        have hold : Holds .fz g H g (upd H a (.lst (vs.set j vy))) := fun b h => ⟨h, upd_ne fun z => by subst z; rw [ha] at h; cases h⟩
        obtain ⟨r4, k4⟩ := mu (.lst (vs.set j vy)) (.lst (xs.set j v.2)) (fun _ z => by cases z) (.lst ha (show upd H a (.lst (vs.set j vy)) a = _ from upd_same) (by rw [List.length_set]; exact hz) ((Reps.set pv rs j).tr hold fun _ _ z => z))
        exact .inl ⟨a, vs, k, j, rfl, rfl, hH, by rw [← rs.length, ← idx_eq]; exact hj, h _ σ _ r4 k4⟩
    | _ => exact (show False from h).elim
  · exact h.elim
theorem seti_ok {p : Pa} {k e : Ex} (h : tS G W Γ C C' (.seti p k e) D σ H) : tAsg (tE G W Γ C C' e) (gSub (tE G W Γ C C' (paE p)) (tE G W Γ C C' k) rSet) D σ H := by
  obtain ⟨lk, g, s, hR, h⟩ := h
  rw [exec] at h
  refine expr_ok hR h fun v s1 g1 H1 y r1 k1 p1 h1 => ?_
  split at h1
  · exact h1.elim
  · rename_i hs
    have hs : v.1.sto = true := by simpa using hs
    obtain ⟨r2, k2, py, _⟩ := sto_frz r1 hs p1
    refine expr_ok r2 (PostS.keep k2 h1) fun x s2 g2 H2 vx r3 k3 p3 h2 => ?_
    split at h2
    · rename_i hpl
      obtain ⟨hm, hlk, hc⟩ := plOk_md hpl
      refine under r3 p3 hm h2 fun y s3 g3 H3 vk r4 k4 p4 px h3 => ?_
      exact setPl_ok r4 hc px p4 ((py.tr k3.fz k3.m k3.fz).tr k4.fz k4.m k4.fz) h3
    · exact h2.elim
/-! ### a dict of a law's own, a box of class 0 -/
theorem setb_ok {i f : Nat} {y : Str} {e : Ex} (hy : StrOk y f) (h : tS G W Γ C C' (.setb i f e) D σ H) : tAsg (tE G W Γ C C' e) (gSub (tVar i) (tC (.str y)) rSet) D σ H := by
  obtain ⟨lk, g, s, hR, h⟩ := h
  rw [exec] at h
  refine expr_ok hR h fun v s1 g1 H1 vy r1 k1 p1 h1 => ?_
  split at h1
  · rename_i n hi
    obtain ⟨w, hw, pw⟩ := r1.sl i _ _ hi (by decide)
    split at h1
    · rename_i bx hb
      split at h1
      · rename_i hc
        obtain ⟨a, fs, rfl, hm, ho, hB, hF⟩ := box_any r1 pw hb
        refine ⟨_, hw, .inr ?_⟩
        cases ew : wrFld lk n f v s1 with
        | none => rw [ew] at h1; exact h1.elim
        | some s2 =>
          rw [ew] at h1
          obtain ⟨hl, g2, r2, k2⟩ := wrFld_ok (u := .dK ((putF y vy fs).map fun q => ((.inr q.1 : L2.Key), q.2))) r1 hb hm ho (by unfold BoxH; rw [if_pos hc]; exact upd_same) hF hy (fun _ z => by cases z) p1 ew
          unfold BoxH at hB
          rw [if_pos hc] at hB
          exact ⟨a, _, rfl, .inl ⟨_, .inr y, hB, rfl, by rw [List.length_map, sizeLine_eq]; omega, by rw [hF.putK hy]⟩, h1 g2 σ _ r2 k2⟩
      · exact h1.elim
    · exact h1.elim
  · exact h1.elim
end
section
variable {D : Kc} {A : AP} {B : Nat → Option Addr} {Γ : Gm} {C C' : CallF} {m : Nat} {sc : Scope} {X : Cx} {W : WX} {n mE : Nat}
structure EvS (D : Kc) (A : AP) (B : Nat → Option Addr) (Γ : Gm) (C C' : CallF) (m : Nat) (sc : Scope) (X : Cx) (W : WX) : Prop where
  ev : Ev D A B Γ C C' m sc X W
  sto : Sto X sc
  own : PassesOwn (model X.prog X.w) X.A X.env X.xe
  stk : X.stack = X.env :: X.outer
  fr : X.env.frame = some X.env.locals
theorem ps_false {st : Stmt} : PS X st fun _ _ _ => False := ⟨fun _ _ _ _ _ _ h => h.elim⟩
theorem asg_sub {o i : Expr} {pos : Pos} {env : Env} (hh : headOk i = true) : ∀ v, assign (.Subscript o i pos) env v = (do
      let ov ← holding [v] (eval o env)
      let iv ← holding [v, ov] (eval i env)
      standAt pos
      holding [v, ov, iv] (setItem ov iv v)
      release [v, ov, iv] []) := by
  intro v
  cases i <;> first | rfl | cases hh
theorem sw_no {e : Expr} {t : Option Expr} {l : Nat} {env : Env} (h : isComp e = false) : swapsWith e t l env = pure false := by
  cases e <;> first | rfl | cases h
theorem sw_att {e o : Expr} {y : Str} {p : Pos} {l : Nat} {env : Env} : swapsWith e (some (.Attribute o y p)) l env = pure false := by
  cases e <;> rfl
theorem sw_sub {e o k : Expr} {p : Pos} {l : Nat} {env : Env} : swapsWith e (some (.Subscript o k p)) l env = pure false := by
  cases e <;> rfl
theorem sw_cell {e : Expr} {x : Str} {p : Pos} {l : Nat} {env : Env} (h : env.kindOf x ≠ some .local) : swapsWith e (some (.Name x p)) l env = pure false := by
  have h : (env.kindOf x == some .local) = false := beq_eq_false_iff_ne.mpr h
  cases e <;> first | rfl | (unfold swapsWith; simp [h])
theorem store_of (E : EvS D A B Γ C C' m sc X W) {i : Nat} {x : Str} {p : Pos} (h : slotN D sc i (.Name x p) = true) : X.N[i]? = some x ∧ Loc X.env.scope x ∧ (X.fn x = true ∨ X.env.scope.names.lookup x = some .local) := by
  unfold slotN at h
  simp only [Bool.and_eq_true, decide_eq_true_eq] at h
  obtain ⟨h1, h2⟩ := E.sto.loc _ h.2
  exact ⟨by rw [E.ev.N]; exact h.1, h1, h2⟩
theorem m_set1 (E : EvS D A B Γ C C' m sc X W) {i : Nat} {e : Ex} {x : Str} {px pos : Pos} {v : Expr} (h : chkSet D sc (chkE D sc mE) i e x px v = true) : PS X (.Assign [.Name x px] v pos) (tS (gxOf X A) W Γ C C' (.set (.one i) e)) := by
  unfold chkSet at h
  rw [Bool.and_eq_true] at h
  obtain ⟨h0, h⟩ := h
  obtain ⟨hi, hl, hf⟩ := store_of E h0
  split at h
  · rename_i el' gs scope cpos
    rw [Bool.and_eq_true, Bool.or_eq_true] at h
    obtain ⟨h | h, h4⟩ := h
    rotate_left
    · have hlo : X.env.kindOf x ≠ some .local := by
        have : X.env.kindOf x = some .cell := by show X.env.scope.names.lookup x = _; rw [E.ev.scq]; exact of_decide_eq_true h
        rw [this]; decide
      exact PS.imp (ps_set E.ev.nd hi hl (mainE mE E.ev h4).pe (sw_cell hlo) hf) fun De σ H q => set_ok q
    simp only [Bool.and_eq_true, decide_eq_true_eq, Bool.not_eq_true'] at h
    obtain ⟨⟨h1, h2⟩, h3⟩ := h
    have hk : X.env.scope.kind = .function := by rw [E.ev.scq]; exact E.ev.kind
    have hlo : X.env.scope.names.lookup x = some .local := by rw [E.ev.scq]; exact h1
    have hsw : swapsWith (.ListComp el' gs scope cpos) (some (.Name x px)) pos.line X.env = pure true := sw_true hk hlo h2 h3
    cases mE with
    | zero => cases h4
    | succ n =>
      cases e with
      | comp el g it cn => exact PS.imp ((m_comp (mainE n) E.ev h4).2 hi hlo hsw) fun De σ H q => set_ok q
      | dct es =>
        cases es <;> (unfold chkE at h4; simp at h4)
      | stuck => exact PS.imp ps_false fun De σ H q => stuck_no (set_ok q)
      | get a as => rcases as with _ | ⟨k, _ | ⟨d, _ | ⟨_, _⟩⟩⟩ <;> (unfold chkE at h4; simp at h4)
      | cst t => have h4 : (true && chkCst D sc t (.ListComp el' gs scope cpos)) = true := h4; cases h4
      | _ => unfold chkE at h4; simp at h4
  · rename_i v hv
    rw [Bool.and_eq_true, Bool.not_eq_true'] at h
    exact PS.imp (ps_set E.ev.nd hi hl (mainE mE E.ev h.2).pe (sw_no h.1) hf) fun De σ H q => set_ok q
theorem m_setf (E : EvS D A B Γ C C' m sc X W) {i f : Nat} {b : Bool} {e : Ex} {x y : Str} {p1 p2 pos : Pos} {v : Expr} (h : (slotOk D sc i x && D.pls.contains y && f == enc y && strC y && chkE D sc mE e v) = true) :
    PS X (.Assign [.Attribute (.Name x p1) y p2] v pos) (tS (gxOf X A) W Γ C C' (.setf (.var i b) f e)) := by
  simp only [Bool.and_eq_true, beq_iff_eq, List.contains_iff_mem] at h
  obtain ⟨⟨⟨⟨h1, h2⟩, rfl⟩, h4⟩, h5⟩ := h
  obtain ⟨h6, h7⟩ := E.ev.mf.pls y h2
  exact PS.imp (ps_fld (slot_pe E.ev.env h1) (mainE mE E.ev h5).pe sw_att) fun De σ H q =>
    setf_ok (strC_ok h4) (fun c => (h7 c).1) (fun c Cx hc hA => ⟨(E.ev.mf.cls c Cx hc hA).1, E.ev.mf.noat y c Cx h6 hc hA (h7 c).2⟩) q
theorem retN_ok {G : Gx} {De : Ends} {σ : L2.St} {H : Hp} (h : tS G W Γ C C' (.ret (.cst .non)) De σ H) : tRetN De σ H := by
  obtain ⟨lk, g, s, hR, h⟩ := ret_ok h
  rw [ev] at h
  exact Post.old hR h .non
abbrev MainS (D : Kc) (A : AP) (B : Nat → Option Addr) (Γ : Gm) (C C' : CallF) (m mE n : Nat) : Prop := ∀ {sc : Scope} {X : Cx} {W : WX} {c : Sm} {st : Stmt}, EvS D A B Γ C C' m sc X W → chkS D sc mE n c st = true → PS X st (tS (gxOf X A) W Γ C C' c)
theorem block_of (M : MainS D A B Γ C C' m mE n) (E : EvS D A B Γ C C' m sc X W) : ∀ {cs : List Sm} {sts : List Stmt}, chkL (chkS D sc mE n) cs sts = true → PSs X sts (tSs (gxOf X A) W Γ C C' cs)
  | [], [], _ => PSs.imp pss_nil fun De σ H q => nil_ok q
  | c :: cs, st :: sts, h => by
    simp only [chkL, Bool.and_eq_true] at h
    exact PSs.imp (pss_cons (M E h.1) (block_of M E h.2)) fun De σ H q => seq_ok q
  | [], _ :: _, h => by cases h
  | _ :: _, [], h => by cases h
/-- the same body, another wish of what is raised -/
theorem EvS.wof {W' : WX} (E : EvS D A B Γ C C' m sc X W) (h : Wof X W W') : EvS D A B Γ C C' m sc X W' := by
  rcases h with rfl | ⟨d, od, u, hn, rfl⟩
  · exact E
  · exact ⟨{ E.ev with tk := takes_lk E.ev.tk hn }, E.sto, E.own, E.stk, E.fr⟩
theorem m_for (M : MainS D A B Γ C C' m mE n) (E : EvS D A B Γ C C' m sc X W) {g : Tg} {it : Ex} {b : List Sm} {t it' : Expr} {b' : List Stmt} {pos : Pos} (h : (D.calm && chkTg D sc g t && chkIt D sc mE it it' && headOk it' && chkL (chkS D sc mE n) b b') = true) :
    PS X (.For t it' b' [] pos) (tS (gxOf X A) W Γ C C' (.for_ g it b)) := by
  simp only [Bool.and_eq_true] at h
  obtain ⟨⟨⟨⟨hcl, h1⟩, h2⟩, h3⟩, h4⟩ := h
  have hcal := E.ev.calm hcl
  have hg := tg_pg E.ev.N E.ev.nd hcal E.sto h1
  have fo := fold_of (env := X.env) h3
  have hb := block_of M E h4
  have hbD : PSs X b' (tbD (gxOf X A) X W Γ C C' b) := ⟨fun pins s σ H De I ⟨W', hw, q⟩ => (block_of M (E.wof hw) h4).run pins s σ H De I q⟩
  rcases it_pi (tg := t) (mainE mE) E.ev h2 with ⟨hr, p1, p2, p3⟩ | ⟨a, rfl, p1⟩
  · refine PS.imp (PS.or (PS.or (ps_for E.own hcal p1 hg hb fo) (ps_for E.own hcal p2 hg hb fo)) (ps_thaw (ps_for E.own hcal p3 hg hbD fo))) fun De σ H q => ?_
    obtain ⟨lk, g', s, hR, q⟩ := q
    exact for_any E.ev.mf.ni hR q
  · refine PS.imp (ps_for E.own hcal p1 hg hb fo) fun De σ H q => ?_
    obtain ⟨lk, g', s, hR, q⟩ := q
    exact for_rng hR q
theorem sstuck_no {De : Ends} {σ : L2.St} {H : Hp} (h : tS (gxOf X A) W Γ C C' .stuck De σ H) : False := by
  obtain ⟨lk, g, s, hR, h⟩ := h
  rw [exec] at h
  exact h
/-! ### raise, try -/
theorem pass_F : Passes (L2.CX X.prog X.w) X (fun _ _ _ => False) := fun _ _ _ _ _ _ _ c => by
  obtain ⟨_, _, _, _, _, _, _, _, _, _, _, _, he⟩ := c
  exact he.elim
theorem m_rai (E : EvS D A B Γ C C' m sc X W) {c : Nat} {as : List Ex} {x : Str} {e : Expr} {es : List Expr} {p1 p2 pos : Pos} (h : (D.calm && decide (D.exs.lookup x = some c) && globOk sc x && chkL (chkE D sc mE) as (e :: es)) = true) :
    PS X (.Raise (some (.Call (.Name x p1) (e :: es) [] p2)) none pos) (tS (gxOf X A) W Γ C C' (.rai c as)) := by
  simp only [Bool.and_eq_true, decide_eq_true_eq] at h
  obtain ⟨⟨⟨hcl, h1⟩, h2⟩, h3⟩ := h
  obtain ⟨q, hA, hmg⟩ := E.ev.mf.exn x c h1
  obtain ⟨q', fI, fd, ps, n, hA', ha, hn, iC, tI, F, hb⟩ := E.ev.fX hcl x c h1
  rw [hA] at hA'
  cases hA'
  have T := E.ev.mf.eox c q hA
  obtain ⟨g1, g2, _⟩ := glob_gl E.ev.env h2
  exact PS.imp (ps_raise (E.ev.calm hcl) E.ev.tk (pmk_oex T iC tI F (E.ev.room hcl) hb .nil pass_F g1 hmg (args_of (mainE mE) E.ev h3) g2 (star_hd h3) (plain_tl h3))) fun De σ H z =>
    rai_ok (G := gxOf X A) hA ha hn T (E.ev.mf.xf c q hA).2 z
theorem Mf.reX {K : PySem.W.Frag} {mg : Str → Option Value} (h : Mf D Γ A B K mg) (A' : AP) (e1 : A'.A = A.A) (e2 : A'.E = A.E) : Mf { D with calm := false } Γ A' B K mg := by
  obtain ⟨a, e, o⟩ := A'
  dsimp only at e1 e2
  subst e1 e2
  exact ⟨h.fn, h.clss, h.mks, h.cls, h.ini, h.xf, h.meth, h.mcs, h.noat, h.prop, h.pls, h.cms, h.sms, h.free, h.consts, h.ni, h.exn, h.esub, h.eox⟩
/-- the body of a try -/
theorem EvS.tr (E : EvS D A B Γ C C' m sc X W) (hxp : A.xp = none) {W' : WX} {pn : List (Addr × Obj)} {xe : Value → Shared → Prop} (tk : Takes (X.tr pn xe) W') (own : PassesOwn (model X.prog X.w) X.A X.env xe) : EvS D A B Γ C C' m sc (X.tr pn xe) W' where
  ev := { N := E.ev.N, nd := E.ev.nd, calm := E.ev.calm, scq := E.ev.scq, kind := E.ev.kind, mf := E.ev.mf, room := E.ev.room, un := E.ev.un, fC := E.ev.fC, fK := E.ev.fK, fC' := E.ev.fC', fP := E.ev.fP, tk := tk, xp0 := E.ev.xp0, xp := fun i a oe h => (by rw [hxp] at h; cases h), fX := E.ev.fX }
  sto := ⟨E.sto.loc⟩
  own := own
  stk := E.stk
  fr := E.fr
/-- the suite of a clause -/
theorem EvS.suite (E : EvS D A B Γ C C' m sc X W) (A' : AP) (e1 : A'.A = A.A) (e2 : A'.E = A.E) {a : Addr} {oe : Obj} (hx : ∀ i a' oe', A'.xp = some (i, a', oe') → a' = a ∧ oe' = oe) (hv : ∃ vs, oe.data = .fields vs) {pn : List (Addr × Obj)} :
    EvS { D with calm := false } A' B Γ C C' m sc (X.suite a ((a, oe) :: pn)) noW where
  ev := { N := E.ev.N, nd := E.ev.nd, calm := fun h => (by cases h), scq := E.ev.scq, kind := E.ev.kind, mf := E.ev.mf.reX A' e1 e2, room := fun h => (by cases h), un := E.ev.un, fC := fun h => (by cases h), fK := fun h => (by cases h), fC' := fun h => (by cases h), fP := fun h => (by cases h), tk := takes_none5, xp0 := fun h => (by cases h), xp := fun i a' oe' h => (by
            obtain ⟨rfl, rfl⟩ := hx i a' oe' h
            exact ⟨List.mem_cons_self, hv⟩), fX := fun h => (by cases h) }
  sto := ⟨E.sto.loc⟩
  own := PassesOwn.never
  stk := E.stk
  fr := E.fr
theorem cls_of (E : EvS D A B Γ C C' m sc X W) (hxp : A.xp = none) (M0 : ∀ A', MainS { D with calm := false } A' B Γ C C' m mE n) : ∀ {h : Hd} {hs : List ExceptHandler}, chkH D sc (chkS { D with calm := false } sc mE n) h hs = true → ∃ l, HdCl (gxOf X A) Γ C C' h l ∧ ClsOk X hs l
  | .nil, [], _ => ⟨[], .nil, .nil⟩
  | .nil, _ :: _, h => by cases h
  | .cons c x b r, [], h => by unfold chkH at h; cases h
  | .cons c x b r, hd :: hs, h => by
    unfold chkH at h
    split at h
    · rename_i heq1 heq2; cases heq1
    · rename_i c' x' b' r' y p nm st sts p' hs' heq1 heq2
      cases heq1
      cases heq2
      simp only [Bool.and_eq_true, decide_eq_true_eq] at h
      obtain ⟨⟨⟨⟨h1, h2⟩, h3⟩, h4⟩, h5⟩ := h
      obtain ⟨l, l1, l2⟩ := cls_of E hxp M0 h5
      obtain ⟨q, hA, hmg⟩ := E.ev.mf.exn y c h1
      obtain ⟨g1, g2, _⟩ := glob_gl E.ev.env h2
      have hn : Names X y (.ref q) := ⟨g1, g2, .inl hmg⟩
      refine ⟨_, .cons hA l1, ?_⟩
      split at h3
      · refine .bare hn (fun a oe cls d pn hz hv => ?_) l2
        exact block_of (M0 A) (E.suite A rfl rfl (fun i a' oe' z => by rw [hxp] at z; cases z) hv) h4
      · rename_i i n'
        simp only [Bool.and_eq_true, decide_eq_true_eq] at h3
        refine .named hn (by rw [E.ev.N]; exact h3.1) (by show X.env.scope.names.lookup n' = _; rw [E.ev.scq]; exact h3.2) (fun a oe cls d pn hz hv => ?_) l2
        exact PSs.imp (block_of (M0 { A with xp := some (i, a, oe) }) (E.suite { A with xp := some (i, a, oe) } rfl rfl (fun i' a' oe' z => by cases z; exact ⟨rfl, rfl⟩) hv) h4) fun De τ K z => z oe hz hv
      · cases h3
    · cases h
theorem m_tr (M : MainS D A B Γ C C' m mE n) (M0 : ∀ A', MainS { D with calm := false } A' B Γ C C' m mE n) (E : EvS D A B Γ C C' m sc X W) {b : List Sm} {hd : Hd} {body : List Stmt} {h0 : ExceptHandler} {hs : List ExceptHandler} {pos : Pos}
    (h : (D.calm && chkL (chkS D sc mE n) b body && chkH D sc (chkS { D with calm := false } sc mE n) hd (h0 :: hs)) = true) : PS X (.Try body (h0 :: hs) [] [] pos) (tS (gxOf X A) W Γ C C' (.tr b hd)) := by
  simp only [Bool.and_eq_true] at h
  obtain ⟨⟨hcl, h1⟩, h2⟩ := h
  have hxp := E.ev.xp0 hcl
  obtain ⟨l, l1, l2⟩ := cls_of E hxp M0 h2
  exact PS.imp (ps_tryC (tb := fun W' => tSs (gxOf X A) W' Γ C C' b) E.stk E.fr E.ev.nd E.ev.tk (fun W' pn xe tk own => block_of M (E.tr hxp tk own) h1) l2) fun De σ H z => tr_ok (G := gxOf X A) hxp E.ev.mf.esub l1 z
theorem mainS' (M0 : D.calm = true → ∀ A' n, MainS { D with calm := false } A' B Γ C C' m mE n) : ∀ n : Nat, MainS D A B Γ C C' m mE n
  | 0, _, _, _, _, _, _, h => by cases h
  | n + 1, sc, X, W, c, st, E, h => by
    have M : MainS D A B Γ C C' m mE n := mainS' M0 n
    unfold chkS at h
    split at h
    · -- set
      split at h
      · split at h
        · exact m_set1 E h
        · cases h
      · split at h
        · simp only [Bool.and_eq_true, Bool.not_eq_true'] at h
          obtain ⟨⟨⟨⟨hcl, h1⟩, h2⟩, h3⟩, h4⟩ := h
          have hg := tg_pg E.ev.N E.ev.nd (E.ev.calm hcl) E.sto h1
          exact PS.imp (ps_asg (mainE mE E.ev h4).pe hg (by unfold swapsWithSole; exact sw_no h2) (by
            rename_i v _ _ _
            cases v <;> first | rfl | cases h3) rfl) fun De σ H q => many_ok q
        · cases h
      · cases h
    · split at h
      · exact m_setf E h
      · cases h
    · split at h
      · simp only [Bool.and_eq_true] at h
        obtain ⟨⟨h1, h2⟩, h3⟩ := h
        exact PS.imp (ps_asg (mainE mE E.ev h3).pe (pg_sub (mainE mE E.ev h1).pe (mainE mE E.ev h2).pe (set_any (by have := E.ev.un; omega)) (asg_sub (head_of h2))) (by unfold swapsWithSole; exact sw_sub) (by rename_i v _; cases v <;> rfl) rfl) fun De σ H q => seti_ok q
      · cases h
    · split at h
      · simp only [Bool.and_eq_true, beq_iff_eq] at h
        obtain ⟨⟨⟨h1, rfl⟩, h3⟩, h4⟩ := h
        exact PS.imp (ps_asg (mainE mE E.ev h4).pe (pg_sub (slot_pe E.ev.env h1) pe_str (set_any (by have := E.ev.un; omega))) (by unfold swapsWithSole; exact sw_sub) (by rename_i v _; cases v <;> rfl) rfl) fun De σ H q => setb_ok (strC_ok h3) q
      · cases h
    · split at h
      · simp only [Bool.and_eq_true, beq_iff_eq] at h
        obtain ⟨⟨⟨⟨⟨rfl, h2⟩, h6⟩, h3⟩, h4⟩, h5⟩ := h
        exact PS.imp (ps_app (mainE mE E.ev h2).pe (base_of h6) h3 (mainE mE E.ev h5).pe (by rw [h4, beq_self_eq_true])) fun De σ H q => app_ok q
      · cases h
    · split at h
      · simp only [Bool.and_eq_true, beq_iff_eq] at h
        obtain ⟨⟨⟨rfl, h2⟩, h3⟩, h4⟩ := h
        obtain ⟨hi, hl, hf⟩ := store_of E h2
        exact PS.imp (ps_set E.ev.nd hi hl (pe_bm0 (T := "list") (id := "list.pop") F.plainAttrs_list F.slot_list_pop F.type_list_pop mt_pop (slot_pe E.ev.env h3) rfl (by rw [h4, beq_self_eq_true])) (sw_no rfl) hf) fun De σ H q => pops_ok q
      · cases h
    · split at h
      · simp only [Bool.and_eq_true, beq_iff_eq] at h
        obtain ⟨⟨rfl, h3⟩, h4⟩ := h
        exact PS.imp (ps_expr (pe_bm0 (T := "list") (id := "list.pop") F.plainAttrs_list F.slot_list_pop F.type_list_pop mt_pop (slot_pe E.ev.env h3) rfl (by rw [h4, beq_self_eq_true]))) fun De σ H q => popx_ok q
      · cases h
    · split at h
      · rw [Bool.and_eq_true] at h
        obtain ⟨hi, hl, hf⟩ := store_of E h.1
        exact PS.imp (ps_aug E.ev.nd hi hl (mainE mE E.ev h.2).pe ip_add hf) fun De σ H q => aug_ok q
      · cases h
    · split at h
      · rw [Bool.and_eq_true, Bool.not_eq_true'] at h
        exact PS.imp (ps_expr (mainE mE E.ev h.2).pe (sw_no h.1)) fun De σ H q => exp_ok q
      · cases h
    · split at h
      · split at h
        · exact PS.imp ps_retN fun De σ H q => retN_ok q
        · cases h
      · exact PS.imp (ps_ret (mainE mE E.ev h).pe) fun De σ H q => ret_ok q
      · cases h
    · split at h
      · simp only [Bool.and_eq_true] at h
        exact PS.imp (ps_if (mainE mE E.ev h.1.1).pt (block_of M E h.1.2) (block_of M E h.2)) fun De σ H q => ite_ok q
      · cases h
    · split at h
      · exact m_for M E h
      · cases h
    · split at h
      · rw [Bool.and_eq_true] at h
        exact PS.imp (ps_while E.own (mainE mE E.ev h.1).pt (block_of M E h.2)) fun De σ H q => whl_ok q
      · cases h
    · exact PS.imp ps_false fun De σ H q => sstuck_no q
    · split at h
      · exact PS.imp ps_pass fun De σ H q => pass_ok q
      · cases h
    · split at h
      · exact PS.imp ps_continue fun De σ H q => cont_ok q
      · cases h
    · split at h
      · exact PS.imp ps_break fun De σ H q => brk_ok q
      · cases h
    · split at h
      · exact m_rai E h
      · cases h
    · split at h
      · have hcl : D.calm = true := by simp only [Bool.and_eq_true] at h; exact h.1.1
        exact m_tr M (fun A' => M0 hcl A' n) E h
      · cases h
    · cases h
theorem mainS (n : Nat) : MainS D A B Γ C C' m mE n := mainS' (fun _ A' n => mainS' (D := { D with calm := false }) (fun h => (by cases h)) n) n
end
end Mi

/-! how arguments come to parameters -/
namespace Mi
open PySem PySem.Spec PyProof.Rows L2
theorem look_zip {ps : List Str} {us : List Value} (hl : us.length = ps.length) : ∀ x ∈ ps, ((ps.zip us).lookup x).isNone = false := by
  induction ps generalizing us with
  | nil => intro x h; cases h
  | cons p ps ih =>
    cases us with
    | nil => cases hl
    | cons u us =>
      intro x h
      rw [List.zip_cons_cons, List.lookup_cons]
      by_cases e : x = p
      · subst e; simp
      · rw [beq_eq_false_iff_ne.mpr e]
        exact ih (by simpa using hl) x ((List.mem_cons.mp h).resolve_left e)
theorem zip_lookL {L : List (Str × Value)} : ∀ {ps : List Str} {us : List Value}, ps.Nodup → us.length = ps.length → (∀ x ∈ ps, L.lookup x = (ps.zip us).lookup x) → ps.filterMap (fun n => (L.lookup n).map (n, ·)) = ps.zip us
  | [], [], _, _, _ => rfl
  | p :: ps, u :: us, nd, hl, h => by
    rw [List.nodup_cons] at nd
    have h0 := h p List.mem_cons_self
    rw [List.zip_cons_cons, List.lookup_cons, beq_self_eq_true] at h0
    rw [List.filterMap_cons, h0]
    show (p, u) :: _ = _
    rw [List.zip_cons_cons]
    congr 1
    refine zip_lookL (us := us) nd.2 (by simpa using hl) fun x hx => ?_
    have h1 := h x (List.mem_cons_of_mem _ hx)
    rw [List.zip_cons_cons, List.lookup_cons, beq_eq_false_iff_ne.mpr fun e => by subst e; exact nd.1 hx] at h1
    exact h1
  | [], _ :: _, _, hl, _ => by cases hl
  | _ :: _, [], _, hl, _ => by cases hl
theorem zip_look {ps : List Str} {us : List Value} (nd : ps.Nodup) (hl : us.length = ps.length) : ps.filterMap (fun n => ((ps.zip us).lookup n).map (n, ·)) = ps.zip us :=
  zip_lookL (ps := ps) (us := us) nd hl fun _ _ => rfl
theorem bind_all {x qual : Str} {params : Arguments} {body : List Stmt} {scope : Scope} {kV doc pm cdv ct : Value} {an : Option Addr} (h1 : params.posonlyargs = []) (h2 : params.vararg = none) (h3 : params.kwonlyargs = []) (h4 : params.kwarg = none) (nd : (params.args.map (·.arg)).Nodup)
    (us : List Value) (hl : us.length = (params.args.map (·.arg)).length) : PySem.bindArgs (PySem.W.fnOf x qual params body scope .none kV doc pm an cdv ct) ⟨us, []⟩ = pure ((params.args.map (·.arg)).zip us) := by
  unfold PySem.bindArgs
  simp only [PySem.W.fnOf, h1, h2, h3, h4, List.map_nil, List.nil_append, List.append_nil]
  generalize params.args.map (·.arg) = ps at *
  have e1 : (ps.filter fun n => ((ps.zip us).lookup n).isNone) = [] := by
    rw [List.filter_eq_nil_iff]
    intro a ha
    rw [look_zip hl a ha]
    simp
  simp [seqItems?, notAStandIn, hl, e1, zip_look nd hl]
theorem zip_app : ∀ {ps : List Str} {us rest : List Value}, us.length = ps.length → ps.zip (us ++ rest) = ps.zip us
  | [], [], rest, _ => by simp
  | p :: ps, u :: us, rest, h => by
    rw [List.cons_append, List.zip_cons_cons, List.zip_cons_cons, zip_app (ps := ps) (by simpa using h)]
  | [], _ :: _, _, h => by cases h
  | _ :: _, [], _, h => by cases h
theorem bind_star {x qual : Str} {params : Arguments} {body : List Stmt} {scope : Scope} {kV doc pm cdv ct : Value} {an : Option Addr} {pv : Arg} (h1 : params.posonlyargs = []) (h2 : params.vararg = some pv) (h3 : params.kwonlyargs = []) (h4 : params.kwarg = none) (nd : (params.args.map (·.arg)).Nodup)
    (us rest : List Value) (hl : us.length = (params.args.map (·.arg)).length) : PySem.bindArgs (PySem.W.fnOf x qual params body scope .none kV doc pm an cdv ct) ⟨us ++ rest, []⟩ = (newTuple rest >>= fun t => pure ((params.args.map (·.arg)).zip us ++ [(pv.arg, t)])) := by
  unfold PySem.bindArgs
  simp only [PySem.W.fnOf, h1, h2, h3, h4, List.map_nil, List.nil_append, List.append_nil]
  generalize params.args.map (·.arg) = ps at *
  have e1 : (ps.filter fun n => ((ps.zip us).lookup n).isNone) = [] := by
    rw [List.filter_eq_nil_iff]
    intro a ha
    rw [look_zip hl a ha]
    simp
  have e2 : (us ++ rest).drop ps.length = rest := by rw [← hl]; simp
  simp [seqItems?, notAStandIn, hl, e1, zip_look nd hl, zip_app (ps := ps) (us := us) (rest := rest) hl]
end Mi

/-! keyword arguments, keyword-only parameters with their defaults -/
namespace Mi
open PySem PySem.Spec PyProof.Rows L2
section
variable {α β : Type} {M : Model} {h : Heap}
theorem looks_forIn {f : α → β → Sem (ForInStep β)} (st : β → α → β) (P : List α → β → Prop) (hs : ∀ p r b, P (p :: r) b → PySem.W.Looks M h (f p b) (.yield (st b p)) ∧ P r (st b p)) :
    ∀ {l : List α} {b : β}, P l b → PySem.W.Looks M h (forIn l b f) (l.foldl st b) ∧ P [] (l.foldl st b)
  | [], b, hp => ⟨PySem.W.Looks.of_pure (by rw [List.forIn_nil]; rfl), hp⟩
  | p :: r, b, hp => by
    obtain ⟨h1, h2⟩ := hs p r b hp
    obtain ⟨h3, h4⟩ := looks_forIn st P hs (l := r) h2
    refine ⟨?_, h4⟩
    rw [List.forIn_cons]
    exact h1.andThen h3
end
theorem look_app {l m : List (Str × Value)} {x : Str} : (l ++ m).lookup x = (l.lookup x).or (m.lookup x) := by
  induction l with
  | nil => rfl
  | cons p l ih =>
    rw [List.cons_append, List.lookup_cons, List.lookup_cons]
    split
    · rfl
    · exact ih
theorem zip_none {ks : List Str} {ws : List Value} (hw : ws.length = ks.length) {x : Str} : ((ks.zip ws).lookup x) = none ↔ x ∉ ks := by
  induction ks generalizing ws with
  | nil => simp
  | cons k ks ih =>
    cases ws with
    | nil => cases hw
    | cons w ws =>
      rw [List.zip_cons_cons, List.lookup_cons]
      by_cases e : x = k
      · subst e; simp
      · rw [beq_eq_false_iff_ne.mpr e]
        simp only [List.mem_cons, e, false_or]
        exact ih (by simpa using hw)
/-- what a keyword-only parameter gets -/
def kwVal (ks : List Str) (ws : List Value) (dv : Str → Value) (n : Str) : Value := ((ks.zip ws).lookup n).getD (dv n)
theorem zip_map_look {kn : List Str} {f : Str → Value} {x : Str} (hx : x ∈ kn) : (kn.zip (kn.map f)).lookup x = some (f x) := by
  induction kn with
  | nil => cases hx
  | cons k kn ih =>
    rw [List.map_cons, List.zip_cons_cons, List.lookup_cons]
    by_cases e : x = k
    · subst e; simp
    · rw [beq_eq_false_iff_ne.mpr e]
      exact ih ((List.mem_cons.mp hx).resolve_left e)
theorem zip_append' {ps kn : List Str} {us vs : List Value} (hl : us.length = ps.length) : (ps ++ kn).zip (us ++ vs) = ps.zip us ++ kn.zip vs := by
  rw [List.zip_append hl.symm]
theorem kw_fold (dv : Str → Value) : ∀ (kn : List Str) (S0 : List (Str × Value)) (m : List Str) (x : Str), ((kn.foldl (fun (b : List (Str × Value) × List Str) n => if (b.1.lookup n).isNone then (b.1 ++ [(n, dv n)], b.2) else b) (S0, m)).1.lookup x) = (S0.lookup x).or (if x ∈ kn then some (dv x) else none)
  | [], S0, m, x => by simp
  | n :: kn, S0, m, x => by
    rw [List.foldl_cons]
    by_cases hn : (S0.lookup n).isNone = true
    · rw [if_pos hn, kw_fold dv kn, look_app]
      by_cases e : x = n
      · subst e
        rw [Option.isNone_iff_eq_none.mp hn]
        simp
      · have e2 : ([(n, dv n)] : List (Str × Value)).lookup x = none := by rw [List.lookup_cons, beq_eq_false_iff_ne.mpr e]; rfl
        rw [e2]
        simp [e]
    · rw [if_neg hn, kw_fold dv kn]
      by_cases e : x = n
      · subst e
        obtain ⟨v, hv⟩ : ∃ v, S0.lookup x = some v := by
          cases q : S0.lookup x with
          | none => rw [q] at hn; exact absurd rfl hn
          | some v => exact ⟨v, rfl⟩
        rw [hv]; simp
      · simp [e]
theorem bind_kw {x qual : Str} {params : Arguments} {body : List Stmt} {scope : Scope} {doc pm cdv ct : Value} {an : Option Addr} {kV : Value} {K : PySem.W.Frag} {M : Model} {h : Heap} (h1 : params.posonlyargs = []) (h2 : params.vararg = none) (h4 : params.kwarg = none)
    (us ws : List Value) (ks : List Str) (dv : Str → Value) (hl : us.length = (params.args.map (·.arg)).length) (hw : ws.length = ks.length) (nd : ((params.args.map (·.arg)) ++ params.kwonlyargs.map (·.arg)).Nodup) (ndk : ks.Nodup)
    (sub : ∀ k ∈ ks, k ∈ params.kwonlyargs.map (·.arg)) (X : K.In h) (hd : ∀ n ∈ params.kwonlyargs.map (·.arg), n ∉ ks → ∃ D, kV = .ref D ∧ PySem.W.nsIn K D n = some (some (dv n))) :
    PySem.W.Looks M h (PySem.bindArgs (PySem.W.fnOf x qual params body scope .none kV doc pm an cdv ct) ⟨us, ks.zip ws⟩)
      ((params.args.map (·.arg) ++ params.kwonlyargs.map (·.arg)).zip (us ++ (params.kwonlyargs.map (·.arg)).map (kwVal ks ws dv))) := by
  unfold PySem.bindArgs
  simp only [PySem.W.fnOf, h1, h2, h4, List.map_nil, List.nil_append, List.append_nil]
  generalize params.args.map (·.arg) = ps at *
  generalize params.kwonlyargs.map (·.arg) = kn at *
  have hdis : ∀ y ∈ kn, y ∉ ps := fun y hy hp => (List.nodup_append.mp nd).2.2 _ hp _ hy rfl
  have psl : ∀ y, y ∉ ps → (ps.zip us).lookup y = none := fun y hy => (zip_none hl).mpr hy
  -- the keywords
  have L1 : ∀ {f : Str × Value → (List (Str × Value) × List (Str × Value)) → Sem (ForInStep (List (Str × Value) × List (Str × Value)))},
      (∀ p b, kn.contains p.1 = true → b.1.lookup p.1 = none → f p b = pure (.yield (b.1 ++ [p], b.2))) → PySem.W.Looks M h (forIn (ks.zip ws) (ps.zip us, []) f) (ps.zip us ++ ks.zip ws, []) := by
    intro f hf
    have := looks_forIn (M := M) (h := h) (f := f) (fun b p => (b.1 ++ [p], b.2)) (fun r b => (∀ p ∈ r, p.1 ∈ kn ∧ b.1.lookup p.1 = none) ∧ (r.map (·.1)).Nodup) (fun p r b hp => by
      obtain ⟨q1, q2⟩ := hp
      obtain ⟨q3, q4⟩ := q1 p List.mem_cons_self
      refine ⟨PySem.W.Looks.of_pure (hf p b (by rw [List.contains_iff_mem]; exact q3) q4), fun p' hp' => ⟨(q1 p' (List.mem_cons_of_mem _ hp')).1, ?_⟩, (List.nodup_cons.mp (by simpa using q2)).2⟩
      have ne : p'.1 ≠ p.1 := fun z => (List.nodup_cons.mp (show (p.1 :: r.map (·.1)).Nodup from by simpa using q2)).1 (by rw [← z]; exact List.mem_map_of_mem hp')
      rw [look_app, (q1 p' (List.mem_cons_of_mem _ hp')).2, List.lookup_cons, beq_eq_false_iff_ne.mpr ne]; rfl) (l := ks.zip ws) (b := (ps.zip us, [])) ⟨fun p hp => by
        have hk : p.1 ∈ ks := (List.of_mem_zip hp).1
        exact ⟨sub _ hk, psl _ (hdis _ (sub _ hk))⟩, by
        have : (ks.zip ws).map (·.1) = ks := List.map_fst_zip (by omega)
        rw [this]; exact ndk⟩
    have e : ∀ (l : List (Str × Value)) (b : List (Str × Value) × List (Str × Value)), l.foldl (fun b p => (b.1 ++ [p], b.2)) b = (b.1 ++ l, b.2) := by
      intro l
      induction l with
      | nil => intro b; simp
      | cons p l ih => intro b; rw [List.foldl_cons, ih]; simp
    rw [e] at this
    exact this.1
  refine PySem.W.Looks.andThen (L1 fun p b hk hn => ?_) ?_
  · simp only [hk, hn, Bool.or_true, if_true, Option.isSome_none, Bool.false_eq_true, if_false]
  have e0 : seqItems? Value.none = pure none := rfl
  refine PySem.W.Looks.andThen (PySem.W.Looks.of_pure e0) ?_
  have e1 : (ps.filter fun n => ((ps.zip us ++ ks.zip ws).lookup n).isNone) = [] := by
    rw [List.filter_eq_nil_iff]
    intro a ha
    rw [look_app]
    have := look_zip hl a ha
    cases q : (ps.zip us).lookup a with
    | none => rw [q] at this; cases this
    | some v => simp
  simp only [hl, Nat.lt_irrefl, decide_false, Bool.false_and, if_false, Bool.false_eq_true, Option.getD_none, Array.toList, List.length_nil, Nat.zero_sub, List.drop_nil, Nat.sub_zero, List.take_length, e1, List.isEmpty_nil, Bool.not_true, List.drop_length, List.zip_nil_left, List.forIn_nil, pure_bind]
  have L4 : ∀ {f : Str → (List (Str × Value) × List Str) → Sem (ForInStep (List (Str × Value) × List Str))},
      (∀ n b, n ∈ kn → n ∉ ks → (b.1.lookup n).isNone = true → PySem.W.Looks M h (f n b) (.yield (b.1 ++ [(n, dv n)], b.2))) → (∀ n b, (b.1.lookup n).isNone = false → f n b = pure (.yield b)) →
      PySem.W.Looks M h (forIn kn (ps.zip us ++ ks.zip ws, []) f) (kn.foldl (fun (b : List (Str × Value) × List Str) n => if (b.1.lookup n).isNone then (b.1 ++ [(n, dv n)], b.2) else b) (ps.zip us ++ ks.zip ws, [])) ∧
        (kn.foldl (fun (b : List (Str × Value) × List Str) n => if (b.1.lookup n).isNone then (b.1 ++ [(n, dv n)], b.2) else b) (ps.zip us ++ ks.zip ws, [])).2 = [] := by
    intro f f1 f2
    have := looks_forIn (M := M) (h := h) (f := f) (fun (b : List (Str × Value) × List Str) n => if (b.1.lookup n).isNone then (b.1 ++ [(n, dv n)], b.2) else b)
      (fun r b => (∀ n ∈ r, n ∈ kn) ∧ b.2 = [] ∧ ∀ n, (b.1.lookup n).isNone = true → n ∉ ks) (fun n r b hp => by
        obtain ⟨q1, q2, q3⟩ := hp
        by_cases hn : (b.1.lookup n).isNone = true
        · rw [if_pos hn]
          refine ⟨f1 n b (q1 n List.mem_cons_self) (q3 n hn) hn, fun m hm => q1 m (List.mem_cons_of_mem _ hm), q2, fun m hm => q3 m ?_⟩
          have hm : ((b.1 ++ [(n, dv n)]).lookup m).isNone = true := hm
          rw [look_app] at hm
          cases q : b.1.lookup m with
          | none => rfl
          | some v => rw [q] at hm; cases hm
        · rw [if_neg hn]
          exact ⟨PySem.W.Looks.of_pure (f2 n b (by simpa using hn)), fun m hm => q1 m (List.mem_cons_of_mem _ hm), q2, q3⟩) (l := kn) (b := (ps.zip us ++ ks.zip ws, [])) ⟨fun _ h => h, rfl, fun n hn => by
        have hn : ((ps.zip us ++ ks.zip ws).lookup n).isNone = true := hn
        rw [look_app] at hn
        refine (zip_none hw).mp ?_
        cases q : (ps.zip us).lookup n with
        | none => rw [q] at hn; exact Option.isNone_iff_eq_none.mp hn
        | some v => rw [q] at hn; cases hn⟩
    exact ⟨this.1, this.2.2.1⟩
  have fin : ∀ S : List (Str × Value), S = (kn.foldl (fun (b : List (Str × Value) × List Str) n => if (b.1.lookup n).isNone then (b.1 ++ [(n, dv n)], b.2) else b) (ps.zip us ++ ks.zip ws, [])).1 →
      (ps ++ kn).filterMap (fun n => (S.lookup n).map (n, ·)) = (ps ++ kn).zip (us ++ kn.map (kwVal ks ws dv)) := by
    intro S hS
    refine zip_lookL nd (by rw [List.length_append, List.length_append, hl, List.length_map]) fun y hy => ?_
    rw [hS, kw_fold, zip_append' hl, look_app, look_app]
    by_cases hp : y ∈ ps
    · have := look_zip hl y hp
      cases q : (ps.zip us).lookup y with
      | none => rw [q] at this; cases this
      | some v => rfl
    · have hk := (List.mem_append.mp hy).resolve_left hp
      rw [psl y hp, zip_map_look hk, if_pos hk]
      unfold kwVal
      cases q : (ks.zip ws).lookup y <;> rfl
  have l5 := (L4 (f := fun n b => if (b.1.lookup n).isNone then pure (.yield (b.1 ++ [(n, dv n)], b.2)) else pure (.yield b)) (fun n b _ _ hb => by rw [if_pos hb]; exact PySem.W.Looks.of_pure rfl) (fun n b hb => by rw [if_neg (by rw [hb]; decide)])).2
  refine PySem.W.Looks.andThen (L4 (fun n b hn hk hb => ?_) (fun n b hb => ?_)).1 ?_
  · obtain ⟨D, rfl, e⟩ := hd n hn hk
    rw [if_pos hb]
    exact (PySem.W.looks_nsIn X e).andThen (PySem.W.Looks.of_pure rfl)
  · rw [if_neg (by rw [hb]; decide)]
  refine PySem.W.Looks.of_pure ?_
  rw [← fin _ rfl, l5]
  rfl
end Mi

/-! every def keeps what Mini says of it -/
namespace Mi
open PySem PySem.Spec PyProof.Rows L2
/-- a def of the text -/
structure Dn where
  name : Str
  qual : Str
  params : Arguments
  body : List Stmt
  scope : Scope
  N : List Str
def Dn.as (d : Dn) : List Str := d.params.args.map (·.arg)
def Dn.kwn (d : Dn) : List Str := d.params.kwonlyargs.map (·.arg)
def Dn.ps (d : Dn) : List Str := d.as ++ (match d.params.vararg with | some v => [v.arg] | none => []) ++ d.kwn
def isKindF (sc : Scope) : Bool := match sc.kind with | .function => true | _ => false
def nodupB : List Str → Bool
  | [] => true
  | x :: xs => !xs.contains x && nodupB xs
theorem nodupB_ok : ∀ {l : List Str}, nodupB l = true → l.Nodup
  | [], _ => .nil
  | x :: xs, h => by
    simp only [nodupB, Bool.and_eq_true, Bool.not_eq_true'] at h
    rw [List.nodup_cons]
    exact ⟨fun hm => (by rw [List.contains_iff_mem.mpr hm] at h; cases h.1), nodupB_ok h.2⟩
def chkScope (N P : List Str) (sc : Scope) : Bool := isKindF sc && !sc.isCoroutine && !sc.isGenerator && nodupB N && decide (N.take P.length = P) && P.all (held sc) && sc.names.all (fun y => decide (y.2 ≠ .free))
theorem chkScope_ok {N P : List Str} {sc : Scope} (h : chkScope N P sc = true) : FnScope N P sc := by
  unfold chkScope at h
  simp only [Bool.and_eq_true, Bool.not_eq_true', decide_eq_true_eq, List.all_eq_true] at h
  obtain ⟨⟨⟨⟨⟨⟨h1, h2⟩, h3⟩, h4⟩, h5⟩, h6⟩, h7⟩ := h
  refine ⟨?_, h2, h3, nodupB_ok h4, h5, fun x hx => ?_, h7⟩
  · unfold isKindF at h1
    split at h1
    · assumption
    · cases h1
  · have := h6 x hx
    unfold held at this
    split at this
    · exact .inl (by assumption)
    · exact .inr (by assumption)
    · cases this
def chkD (D : Kc) (d : Dn) (fd : Fn) : Bool :=
  d.params.posonlyargs.isEmpty && d.params.kwarg.isNone && (decide (fd.kw.map (·.1) = d.kwn.map enc) && d.kwn.all strC) && nodupB (d.as ++ d.kwn) && chkScope d.N d.ps d.scope && decide (fd.nl = d.N.length) && decide (fd.ps.length = d.as.length) &&
  decide (fd.star = d.params.vararg.isSome) && (fd.kw.isEmpty || d.params.vararg.isNone) && fd.nd.isEmpty && chkL (chkS { D with N := d.N } d.scope 60 30) fd.body d.body
section
variable {D : Kc} {A : AP} {B : Nat → Option Addr} {Γ : Gm} {P : PySem.Program} {w : World} {K : PySem.W.Frag} {mg : Str → Option Value} {base : Heap}
abbrev gx (P : PySem.Program) (w : World) (K : PySem.W.Frag) (mg : Str → Option Value) (base : Heap) (A : AP) : Gx := ⟨P, w, K, mg, base, A⟩
abbrev AllR (B : Nat → Option Addr) (Γ : Gm) (P : PySem.Program) (w : World) (K : PySem.W.Frag) (mg : Str → Option Value) (base : Heap) (A : AP) (n : Nat) : Prop := ∀ f a, B f = some a → FnR P w K mg base (L2.CX P w) (n + 1) a (spR (gx P w K mg base A) Γ (callN Γ n) f)
abbrev AllP (B : Nat → Option Addr) (Γ : Gm) (P : PySem.Program) (w : World) (K : PySem.W.Frag) (mg : Str → Option Value) (base : Heap) (A : AP) (n : Nat) : Prop := ∀ c y g a, Γ.prop c y = some g → B g = some a → ∃ fd ps, FnOk P w K mg base (L2.CX P w) (n + 1) a fd ps (spC (gx P w K mg base A) (callN Γ n) g 1) ∧ Binds K fd ps []
abbrev AllK (B : Nat → Option Addr) (Γ : Gm) (P : PySem.Program) (w : World) (K : PySem.W.Frag) (mg : Str → Option Value) (base : Heap) (A : AP) (n : Nat) : Prop := ∀ f a (ks : List Str), B f = some a → ks.all strC = true → ks.Nodup → FnRK P w K mg base (L2.CX P w) (n + 1) a ks (spRK (gx P w K mg base A) Γ (callN Γ n) f (ks.map enc))
/-- the keyword-only parameters' defaults -/
def KwD (K : PySem.W.Frag) (d : Dn) (fd : Fn) (fdd : FuncData) : Prop := ∃ (dv : Str → Value) (dT : Str → L2.V), ∀ n p, (n, p) ∈ d.kwn.zip fd.kw → ∀ t, p.2 = some t → (∃ D, fdd.kwdefaults = .ref D ∧ PySem.W.nsIn K D n = some (some (dv n))) ∧ RelV (dT n) (dv n) ∧ ∀ (G : Gx) g H, G.K = K → Rep G g H .fz t (dT n)
theorem enc_injS {x y : Str} (hx : strC x = true) (hy : strC y = true) (h : enc x = enc y) : x = y := by rw [← enc_dec hx, h, enc_dec hy]
section
variable {G : Gx} {g : Gh} {H : Hp}
theorem look3 {n : Str} (hn : strC n = true) : ∀ {ks : List Str} {as : List (Mo × T)} {zs : List L2.V} {ws : List Value}, ks.all strC = true → Paired (fun (a : Mo × T) v => Rep G g H (parO a.1) a.2 v) as zs → Vals zs ws → zs.length = ks.length →
    (n ∉ ks ∧ ((ks.map enc).zip as).lookup (enc n) = none ∧ (ks.zip zs).lookup n = none ∧ (ks.zip ws).lookup n = none) ∨ ∃ a z w, n ∈ ks ∧ a ∈ as ∧ ((ks.map enc).zip as).lookup (enc n) = some a ∧ (ks.zip zs).lookup n = some z ∧ (ks.zip ws).lookup n = some w ∧ Rep G g H (parO a.1) a.2 z ∧ RelV z w
  | [], _, _, _, _, _, _, _ => .inl ⟨by simp, rfl, rfl, rfl⟩
  | k :: ks, [], [], _, _, _, _, hl => by cases hl
  | k :: ks, a :: as, z :: zs, w :: ws, hk, .cons p r, .cons q r2, hl => by
    rw [List.all_cons, Bool.and_eq_true] at hk
    by_cases e : n = k
    · subst e
      refine .inr ⟨a, z, w, List.mem_cons_self, List.mem_cons_self, ?_, ?_, ?_, p, q⟩
      · rw [List.map_cons, List.zip_cons_cons, List.lookup_cons, beq_self_eq_true]
      · rw [List.zip_cons_cons, List.lookup_cons, beq_self_eq_true]
      · rw [List.zip_cons_cons, List.lookup_cons, beq_self_eq_true]
    · have e1 : (n == k) = false := beq_eq_false_iff_ne.mpr e
      have e2 : (enc n == enc k) = false := beq_eq_false_iff_ne.mpr fun h => e (enc_injS hn hk.1 h)
      have := look3 hn hk.2 r r2 (by simpa using hl)
      rw [List.map_cons, List.zip_cons_cons, List.zip_cons_cons, List.zip_cons_cons, List.lookup_cons, List.lookup_cons, List.lookup_cons, e1, e2]
      rcases this with ⟨h1, h2⟩ | ⟨a', z', w', h1, h2, h3⟩
      · exact .inl ⟨by simp [e, h1], h2⟩
      · exact .inr ⟨a', z', w', List.mem_cons_of_mem _ h1, List.mem_cons_of_mem _ h2, h3⟩
/-- what the keyword-only parameters get, in Mini -/
def kwsOf (ks : List Nat) (as : List (Mo × T)) (kw : List (Nat × Option T)) : List (Option (Mo × T)) := kw.map fun p => match (ks.zip as).lookup p.1 with
  | some v => some v
  | none => p.2.map fun d => (.fro, d)
def consO {α : Type} : Option α → List α → List α
  | some v, l => v :: l
  | none, l => l
theorem fm_id {α : Type} (o : Option α) (l : List (Option α)) : (o :: l).filterMap id = consO o (l.filterMap id) := by cases o <;> rfl
theorem kw_pair {ks : List Str} {as : List (Mo × T)} {zs : List L2.V} {ws : List Value} {dv : Str → Value} {dT : Str → L2.V} (hks : ks.all strC = true) (hp : Paired (fun (a : Mo × T) v => Rep G g H (parO a.1) a.2 v) as zs) (hv : Vals zs ws) (hl : zs.length = ks.length) (hno : ∀ a ∈ as, a.1.arg = true) :
    ∀ {kn : List Str} {kw : List (Nat × Option T)}, kw.map (·.1) = kn.map enc → kn.all strC = true → (∀ n p, (n, p) ∈ kn.zip kw → ∀ t, p.2 = some t → RelV (dT n) (dv n) ∧ Rep G g H .fz t (dT n)) → (kwsOf (ks.map enc) as kw).all Option.isSome = true →
    Paired (fun (a : Mo × T) v => Rep G g H (parO a.1) a.2 v) ((kwsOf (ks.map enc) as kw).filterMap id) (kn.map fun n => ((ks.zip zs).lookup n).getD (dT n)) ∧ Vals (kn.map fun n => ((ks.zip zs).lookup n).getD (dT n)) (kn.map (kwVal ks ws dv)) ∧ (∀ a ∈ (kwsOf (ks.map enc) as kw).filterMap id, a.1.arg = true) ∧ ∀ n ∈ kn, n ∉ ks → ∃ p t, (n, p) ∈ kn.zip kw ∧ p.2 = some t
  | [], [], _, _, _, _ => ⟨.nil, .nil, fun a ha => (nomatch ha), fun n hn => (nomatch hn)⟩
  | [], p :: kw, h, _, _, _ => by cases h
  | n :: kn, [], h, _, _, _ => by cases h
  | n :: kn, (c, o) :: kw, h, hs, hd, hall => by
    rw [List.map_cons, List.map_cons, List.cons.injEq] at h
    obtain ⟨h1, h2⟩ := h
    have h1 : c = enc n := h1
    subst h1
    rw [List.all_cons, Bool.and_eq_true] at hs
    have hall : ((match ((ks.map enc).zip as).lookup (enc n) with | some v => some v | none => o.map fun d => (Mo.fro, d)).isSome && (kwsOf (ks.map enc) as kw).all Option.isSome) = true := hall
    rw [Bool.and_eq_true] at hall
    obtain ⟨i1, i2, i3, i4⟩ := kw_pair (dv := dv) (dT := dT) hks hp hv hl hno h2 hs.2 (fun n p hm => hd n p (List.mem_cons_of_mem _ hm)) hall.2
    have e0 : (kwsOf (ks.map enc) as ((enc n, o) :: kw)).filterMap id = consO (match ((ks.map enc).zip as).lookup (enc n) with | some v => some v | none => o.map fun d => (Mo.fro, d)) ((kwsOf (ks.map enc) as kw).filterMap id) := by
      show List.filterMap id ((match ((ks.map enc).zip as).lookup (enc n) with | some v => some v | none => o.map fun d => (Mo.fro, d)) :: kwsOf (ks.map enc) as kw) = _
      exact fm_id _ _
    have i4' : ∀ m ∈ kn, m ∉ ks → ∃ p t, (m, p) ∈ (n :: kn).zip ((enc n, o) :: kw) ∧ p.2 = some t := fun m hm hk => by
      obtain ⟨p, t, q1, q2⟩ := i4 m hm hk
      exact ⟨p, t, List.mem_cons_of_mem _ q1, q2⟩
    rw [e0, List.map_cons, List.map_cons]
    rcases look3 hs.1 hks hp hv hl with ⟨q0, q1, q2, q3⟩ | ⟨a, z, w, q0, qm, q1, q2, q3, q4, q5⟩
    · rw [q1] at hall ⊢
      cases o with
      | none => exact absurd hall.1 (by simp)
      | some t =>
        obtain ⟨d1, d2⟩ := hd n (enc n, some t) List.mem_cons_self t rfl
        refine ⟨.cons ?_ i1, .cons ?_ i2, fun a ha => ?_, fun m hm hk => ?_⟩
        · rw [q2]; exact d2
        · unfold kwVal; rw [q2, q3]; exact d1
        · rcases List.mem_cons.mp ha with rfl | ha
          · rfl
          · exact i3 a ha
        · rcases List.mem_cons.mp hm with rfl | hm
          · exact ⟨_, t, List.mem_cons_self, rfl⟩
          · exact i4' m hm hk
    · rw [q1] at hall ⊢
      refine ⟨.cons ?_ i1, .cons ?_ i2, fun b hb => ?_, fun m hm hk => ?_⟩
      · rw [q2]; exact q4
      · unfold kwVal; rw [q2, q3]; exact q5
      · rcases List.mem_cons.mp hb with rfl | hb
        · exact hno _ qm
        · exact i3 b hb
      · rcases List.mem_cons.mp hm with rfl | hm
        · exact absurd q0 hk
        · exact i4' m hm hk
end
theorem paired_take {α β : Type} {F : α → β → Prop} : ∀ {xs : List α} {ys : List β} (n : Nat), Paired F xs ys → Paired F (xs.take n) (ys.take n)
  | _, _, 0, _ => .nil
  | _, _, _ + 1, .nil => .nil
  | _, _, n + 1, .cons h p => .cons h (paired_take n p)
theorem fnRK_of {k f : Nat} {a : Addr} {d : Dn} {fd : Fn} {fdd : FuncData} {C : CallF} {G : Gx} {CX : CXT} (hGK : G.K = K) (hfd : Γ.fn f = some fd) (hs : fd.star = false) (hnd : fd.nd = []) (hkn : fd.kw.map (·.1) = d.kwn.map enc) (hst : d.kwn.all strC = true) (hlen : fd.ps.length = d.as.length)
    (F : FnOk P w K mg base CX k a fdd (d.as ++ d.kwn) (spC G C f (fd.ps.length + fd.kw.length))) (KD : KwD K d fd fdd)
    (hb : ∀ (s : Shared) (us ws : List Value) (ks : List Str) (dv : Str → Value), K.In s.heap → us.length = d.as.length → ws.length = ks.length → ks.Nodup → (∀ k ∈ ks, k ∈ d.kwn) → (∀ n ∈ d.kwn, n ∉ ks → ∃ D, fdd.kwdefaults = .ref D ∧ PySem.W.nsIn K D n = some (some (dv n))) →
      BindsTo s fdd ⟨us, ks.zip ws⟩ ((d.as ++ d.kwn).zip (us ++ d.kwn.map (kwVal ks ws dv))))
    {ks : List Str} (hks : ks.all strC = true) (hnk : ks.Nodup) : FnRK P w K mg base CX k a ks (spRK G Γ C f (ks.map enc)) := by
  intro A outer s H us ws vs zs Q E hr e0 rv rz hw hsp
  obtain ⟨g, lk, hp, args, hl, hR, hlk, hpa, hno, hpost⟩ := hsp
  obtain ⟨dv, dT, hD⟩ := KD
  unfold callAK at hpost
  rw [hfd] at hpost
  dsimp only at hpost
  cases eb : Mi.bindArgs fd args (ks.map enc) with
  | none => rw [eb] at hpost; exact hpost.elim
  | some l =>
    rw [eb] at hpost
    have al : args.length = (vs ++ zs).length := Paired.len hpa
    have zl : zs.length = ks.length := by rw [rz.length]; exact hw
    have na : args.length - (ks.map enc).length = vs.length := by rw [al, List.length_append, List.length_map, zl]; omega
    unfold Mi.bindArgs at eb
    simp only [hs, Bool.false_eq_true, if_false, na] at eb
    split at eb
    · cases eb
    · rename_i h1
      split at eb
      · rename_i h2
        split at eb
        · rename_i h3
          split at eb
          · rename_i h4
            rw [hnd, List.length_nil] at h3
            have hnp : vs.length = fd.ps.length := by omega
            have el : l = args.take vs.length ++ (kwsOf (ks.map enc) (args.drop vs.length) fd.kw).filterMap id := by
              injection eb with eb
              rw [← eb, hnd, List.drop_nil, List.map_nil, List.append_nil]; rfl
            have p1 := paired_take vs.length hpa
            have p2 := paired_drop vs.length hpa
            rw [List.take_left] at p1
            rw [List.drop_left] at p2
            obtain ⟨i1, i2, i3, i4⟩ := kw_pair (dv := dv) (dT := dT) hks p2 rz zl (fun q hq => hno q (List.mem_of_mem_drop hq)) hkn hst (fun n p hm t ht => ⟨(hD n p hm t ht).2.1, (hD n p hm t ht).2.2 G g H hGK⟩) h4
            have kl : fd.kw.length = d.kwn.length := by
              have := congrArg List.length hkn
              rwa [List.length_map, List.length_map] at this
            have hsub : ∀ k ∈ ks, k ∈ d.kwn := fun k hk => by
              have := List.all_eq_true.mp h2 (enc k) (List.mem_map_of_mem hk)
              obtain ⟨p, hp1, hp2⟩ := List.any_eq_true.mp this
              have hp2 : p.1 = enc k := by simpa using hp2
              have hm : p.1 ∈ fd.kw.map (·.1) := List.mem_map_of_mem hp1
              rw [hkn, hp2] at hm
              obtain ⟨n, hn1, hn2⟩ := List.mem_map.mp hm
              rw [← enc_injS (List.all_eq_true.mp hst n hn1) (List.all_eq_true.mp hks k hk) hn2]
              exact hn1
            refine F.run A outer s H ⟨us, ks.zip ws⟩ (us ++ d.kwn.map (kwVal ks ws dv)) (vs ++ d.kwn.map fun n => ((ks.zip zs).lookup n).getD (dT n)) Q E hr e0
              (hb s us ws ks dv (e0.mod.kin.keeps fun b o e => (e0.bs b o e).1) (by rw [← rv.length, hnp, hlen]) hw hnk hsub fun n hn hk => ?_) (rv.append i2) ⟨g, lk, hp, l, ?_, hR, hlk, ?_, fun q hq => ?_, hpost⟩
            · obtain ⟨p, t, q1, q2⟩ := i4 n hn hk
              exact (hD n p q1 t q2).1
            · rw [List.length_append, List.length_map, hnp, kl]
            · rw [el]
              exact paired_app p1 i1
            · rw [el] at hq
              rcases List.mem_append.mp hq with z | z
              · exact hno q (List.mem_of_mem_take z)
              · exact i3 q z
          · cases eb
        · cases eb
      · cases eb
/-- what is known of the text's defs -/
structure Defs (D : Kc) (B : Nat → Option Addr) (Γ : Gm) (K : PySem.W.Frag) : Prop where
  all : ∀ f a, B f = some a → ∃ (d : Dn) (fd : Fn) (fdd : FuncData), Γ.fn f = some fd ∧ chkD D d fd = true ∧ FunD K d.name d.qual d.params d.body d.scope [] [] a fdd ∧ KwD K d fd fdd
  prop : ∀ c y g, Γ.prop c y = some g → ∃ fd, Γ.fn g = some fd ∧ fd.ps.length = 1 ∧ fd.star = false ∧ fd.kw = []
theorem Mf.reN {N : List Str} (h : Mf D Γ A B K mg) : Mf { D with N := N } Γ A B K mg := ⟨h.fn, h.clss, h.mks, h.cls, h.ini, h.xf, h.meth, h.mcs, h.noat, h.prop, h.pls, h.cms, h.sms, h.free, h.consts, h.ni, h.exn, h.esub, h.eox⟩
/-! ### the __init__ of exception classes -/
def xN : List Str := ["what", "why"]
def chkXB (D : Kc) (sc : Scope) : List Str → Nat → List Stmt → Bool
  | [], _, [] => true
  | f :: fs, i, .Assign [.Attribute (.Name s _) f' _] (.Name x _) _ :: r => decide (f' = f) && slotOk D sc 0 s && slotOk D sc i x && chkXB D sc fs (i + 1) r
  | _, _, _ => false
def chkXI (D : Kc) (d : Dn) (n : Nat) : Bool := d.params.posonlyargs.isEmpty && d.params.kwarg.isNone && d.params.vararg.isNone && d.params.kwonlyargs.isEmpty && nodupB d.as && chkScope d.N d.as d.scope && decide (d.as.length = n + 1) && decide (1 ≤ n) && decide (n ≤ 3) && chkXB { D with N := d.N } d.scope (excNames.take n) 1 d.body
def tXB (K : PySem.W.Frag) : List Str → Nat → TS
  | [], _ => tNext
  | f :: fs, i => tSeq (tOst K f (tVar 0) (tVar i)) (tXB K fs (i + 1))
theorem xb_run {D : Kc} {sc : Scope} {X : Cx} {W : WX} (E : EnvOk D A sc X W) : ∀ {fs : List Str} {i : Nat} {sts : List Stmt}, chkXB D sc fs i sts = true → PSs X sts (tXB X.K fs i)
  | [], _, [], _ => pss_nil
  | [], _, _ :: _, h => by unfold chkXB at h; cases h
  | f :: fs, i, [], h => by unfold chkXB at h; cases h
  | f :: fs, i, st :: r, h => by
    unfold chkXB at h
    split at h
    · rename_i h1 _; cases h1
    · rename_i f0 fs0 s p1 f' p2 x p3 p4 r0 h1 h2
      cases h1
      cases h2
      simp only [Bool.and_eq_true, decide_eq_true_eq] at h
      obtain ⟨⟨⟨rfl, h2⟩, h3⟩, h4⟩ := h
      exact pss_cons (ps_ost (slot_pe E h2) (slot_pe E h3) sw_att) (xb_run E h4)
    · cases h
theorem upd_upd {H : Hp} {a : Addr} {u v : HO} : upd (upd H a u) a v = upd H a v := by
  funext b
  by_cases e : b = a
  · subst e; rw [upd_same, upd_same]
  · rw [upd_ne e, upd_ne e, upd_ne e]
theorem xb_more {a Cx dx : Addr} {De : Ends} {σ : L2.St} (T : OexC K Cx) (h0 : σ[0]? = some (some (.ref a))) (ne : dx ≠ a) : ∀ {fs : List Str} {ys : List L2.V} {i : Nat} {H : Hp} {done : List (Str × L2.V)}, fs.length = ys.length → (∀ f ∈ fs, PySem.W.findIn K (.ref Cx) f = some none) →
    (∀ j y, ys[j]? = some y → σ[i + j]? = some (some y)) → H a = some (exo a Cx (some dx)) → H dx = some (exd dx done) → done.length + fs.length ≤ 900 → De.nx σ (upd H dx (exd dx ((fs.zip ys).reverse ++ done))) → tXB K fs i De σ H
  | [], [], i, H, done, _, _, _, _, hd, _, h => by
    have e : upd H dx (exd dx done) = H := by
      funext b
      by_cases z : b = dx
      · subst z; rw [upd_same, hd]
      · rw [upd_ne z]
    show De.nx σ H
    rw [← e]; exact h
  | [], _ :: _, _, _, _, hl, _, _, _, _, _, _ => by cases hl
  | _ :: _, [], _, _, _, hl, _, _, _, _, _, _ => by cases hl
  | f :: fs, y :: ys, i, H, done, hl, hno, hs, ha, hd, hz, h => by
    refine ⟨y, hs 0 y rfl, .ref a, h0, a, Cx, rfl, T, hno f List.mem_cons_self, .inr ⟨dx, done, ha, hd, by have : done.length + (fs.length + 1) ≤ 900 := hz; omega, ?_⟩⟩
    refine xb_more T h0 ne (fs := fs) (ys := ys) (done := (f, y) :: done) (by simpa using hl) (fun g hg => hno g (List.mem_cons_of_mem _ hg)) (fun j z hz => ?_) ((upd_ne (Ne.symm ne)).trans ha) upd_same (by simp at hz ⊢; omega) ?_
    · have := hs (j + 1) z (by simpa using hz)
      rw [show i + 1 + j = i + (j + 1) by omega]; exact this
    · rw [upd_upd]
      rw [List.zip_cons_cons, List.reverse_cons, List.append_assoc] at h
      exact h
theorem zip_take {α β : Type} : ∀ {n : Nat} {l : List α} {ys : List β}, ys.length ≤ n → (l.take n).zip ys = l.zip ys
  | _, [], _, _ => by simp
  | _, _ :: _, [], _ => by simp
  | 0, _ :: _, _ :: _, h => by simp at h
  | n + 1, a :: l, y :: ys, h => by
    rw [List.take_succ_cons, List.zip_cons_cons, List.zip_cons_cons, zip_take (by simpa using h)]
theorem xi_ok {d : Dn} {n k : Nat} {fdd : FuncData} {a : Addr} (mf : Mf D Γ A B K mg) (hc : chkXI D d n = true) (F : FunD K d.name d.qual d.params d.body d.scope [] [] a fdd) :
    n ≤ 3 ∧ FnOk P w K mg base (L2.CX P w) (k + 1) a fdd d.as (spXI K n) ∧ Binds K fdd d.as [] := by
  unfold chkXI at hc
  simp only [Bool.and_eq_true, decide_eq_true_eq, List.isEmpty_iff, Option.isNone_iff_eq_none] at hc
  obtain ⟨⟨⟨⟨⟨⟨⟨⟨⟨c1, c2⟩, c3⟩, c4⟩, c5⟩, c6⟩, c7⟩, c8⟩, c9⟩, c10⟩ := hc
  refine ⟨c9, F.ok (chkScope_ok c6) (fun vs H Q E h => ?_) fun cdv Ar outer s H vs Q E hr h => ?_, F.bindsN fun kV doc pm an cdv ct us hl => bind_all c1 c3 c4 c2 (nodupB_ok c5) us hl⟩
  · obtain ⟨b, q, ys, rfl, hl, _⟩ := h
    rw [List.length_cons, hl, c7]
  · obtain ⟨b, q, ys, rfl, hl, T, hno, hb, hq⟩ := h
    have env : EnvOk { D with N := d.N } A d.scope (cxOf (L2.CX P w) P w K mg base d.N d.qual d.scope a cdv Ar outer s H E) noW := {
      N := rfl
      nd := (chkScope_ok c6).nd
      vis := fun x kd hx => hx
      consts := fun x t hx => by
        obtain ⟨u, v, h1, h2, h3⟩ := mf.consts x t hx
        exact ⟨u, v, h1, h2, fun g H => h3 _ g H rfl⟩
      un := by have := hr.un; show (Ar.deeper (envOfC d.qual d.scope s.heap.objs.size a cdv)).units + 70 < cLine; omega }
    refine ⟨_, xb_run env c10, ?_⟩
    obtain ⟨y, ys', rfl⟩ : ∃ y ys', ys = y :: ys' := by
      cases ys with
      | nil => rw [← hl] at c8; cases c8
      | cons y ys => exact ⟨y, ys, rfl⟩
    obtain ⟨n', rfl⟩ : ∃ n', n = n' + 1 := ⟨n - 1, by omega⟩
    have sl : ∀ (j : Nat) (z : L2.V), (V.ref b :: y :: ys')[j]? = some z → (L2.start d.N (V.ref b :: y :: ys'))[j]? = some (some z) := fun j z hz => by
      unfold L2.start
      have hj := (List.getElem?_eq_some_iff.mp hz).1
      rw [List.getElem?_append_left (by rw [List.length_map]; exact hj), List.getElem?_map, hz]; rfl
    have hq0 : ∀ f ∈ excNames.take (n' + 1), PySem.W.findIn K (.ref q) f = some none := fun f hf => hno f (List.mem_of_mem_take hf)
    have ht : excNames.take (n' + 1) = ("row" : Str) :: xN.take n' := rfl
    rw [ht] at hq0
    show tXB K (excNames.take (n' + 1)) 1 _ _ H
    rw [ht]
    refine ⟨y, sl 1 y rfl, .ref b, sl 0 _ rfl, b, q, rfl, T, hq0 _ List.mem_cons_self, .inl ⟨hb, fun dx hdx hne => ?_⟩⟩
    have hys : ys'.length = n' := by simpa using hl
    refine xb_more T (sl 0 _ rfl) hne (ys := ys') (done := [(("row" : Str), y)]) (by rw [List.length_take, hys]; show min n' 2 = n'; omega) (fun f hf => hq0 f (List.mem_cons_of_mem _ hf)) (fun j z hz => ?_) upd_same ((upd_ne hne).trans upd_same) (by rw [List.length_take]; show 1 + min n' 2 ≤ 900; omega) ?_
    · rw [show 1 + 1 + j = j + 2 by omega]
      exact sl (j + 2) z hz
    · have e := hq dx hdx hne
      have ex : xFs (y :: ys') = (xN.take n' |>.zip ys').reverse ++ [(("row" : Str), y)] := by
        rw [zip_take (n := n') (by omega)]
        show ((("row" : Str), y) :: xN.zip ys').reverse = _
        rw [List.reverse_cons]
      rw [ex] at e
      have eh : upd (upd (upd H dx (exd dx [(("row" : Str), y)])) b (exo b q (some dx))) dx (exd dx ((xN.take n' |>.zip ys').reverse ++ [(("row" : Str), y)])) = upd (upd H dx (exd dx ((xN.take n' |>.zip ys').reverse ++ [(("row" : Str), y)]))) b (exo b q (some dx)) := by
        funext z
        by_cases z1 : z = dx
        · subst z1; rw [upd_same, upd_ne hne, upd_same]
        · rw [upd_ne z1]
          by_cases z2 : z = b
          · subst z2; rw [upd_same, upd_same]
          · rw [upd_ne z2, upd_ne z2, upd_ne z1, upd_ne z1]
      rw [eh]; exact e
/-- the exception classes of the text -/
def XDefs (D : Kc) (A : AP) (Γ : Gm) (K : PySem.W.Frag) : Prop := ∀ x c, D.exs.lookup x = some c → ∃ (q fI : Addr) (d : Dn) (fdd : FuncData) (n : Nat), A.E c = some q ∧ Γ.arity c = some n ∧ PySem.W.findIn K (.ref q) "__init__" = some (some (.ref fI)) ∧ PySem.W.typeIn K (.ref fI) = some (.type "function") ∧
  chkXI D d n = true ∧ FunD K d.name d.qual d.params d.body d.scope [] [] fI fdd
theorem body_run {m f : Nat} {d : Dn} {fd : Fn} {a : Addr} (hxp : A.xp = none) (mf : Mf D Γ A B K mg) (xd : XDefs D A Γ K) (hfd : Γ.fn f = some fd) (hc : chkD D d fd = true) (h1 : AllR B Γ P w K mg base A (m + 1)) (hk : AllK B Γ P w K mg base A (m + 1)) (h0 : AllR B Γ P w K mg base A m) (hp : AllP B Γ P w K mg base A m)
    (cdv : Value) (Ar : Around) (outer : List Env) (s : Shared) (H : Hp) (vs : List L2.V) (Q : VK) (E : XK) (hr : Room (m + 2) (Ar.deeper (envOfC d.qual d.scope s.heap.objs.size a cdv)))
    (h : spC (gx P w K mg base A) (callN Γ (m + 2)) f d.ps.length vs H Q E) :
    ∃ t, PSs (cxOf (L2.CX P w) P w K mg base d.N d.qual d.scope a cdv Ar outer s H E) d.body t ∧ t { nx := fun _ H' => Q .non H', rt := Q } (start d.N vs) H := by
  unfold chkD at hc
  simp only [Bool.and_eq_true, decide_eq_true_eq] at hc
  obtain ⟨⟨⟨⟨⟨⟨⟨⟨⟨⟨c1, c2⟩, c3⟩, c4⟩, c5⟩, c6⟩, c7⟩, c8⟩, c9⟩, c10⟩, c11⟩ := hc
  have S := chkScope_ok c5
  have hlen : d.ps.length ≤ fd.nl := by
    rw [c6]
    have := congrArg List.length S.pre
    rw [List.length_take] at this
    omega
  have tk : Takes (cxOf (L2.CX P w) P w K mg base d.N d.qual d.scope a cdv Ar outer s H E) (fun cls d _ H => E cls d H) := takes_of rfl rfl rfl rfl
  have fXd : ∀ x c, D.exs.lookup x = some c → ∃ (q fI : Addr) (fd : FuncData) (ps : List Str) (n : Nat), A.E c = some q ∧ Γ.arity c = some n ∧ n ≤ 3 ∧ PySem.W.findIn K (.ref q) "__init__" = some (some (.ref fI)) ∧ PySem.W.typeIn K (.ref fI) = some (.type "function") ∧ FnOk P w K mg base (L2.CX P w) (m + 1) fI fd ps (spXI K n) ∧ Binds K fd ps [] := fun x c hx => by
    obtain ⟨q, fI, dd, fdd, n, x1, x2, x3, x4, x5, x6⟩ := xd x c hx
    obtain ⟨y1, y2, y3⟩ := xi_ok (P := P) (w := w) (base := base) (k := m) mf x5 x6
    exact ⟨q, fI, fdd, dd.as, n, x1, x2, y1, x3, x4, y2, y3⟩
  have ev : EvS { D with N := d.N } A B Γ (callN Γ (m + 1)) (callN Γ m) (m + 1) d.scope (cxOf (L2.CX P w) P w K mg base d.N d.qual d.scope a cdv Ar outer s H E) (fun cls d _ H => E cls d H) :=
    { ev := { N := rfl, nd := S.nd, calm := fun _ => rfl, scq := rfl, kind := S.kind, mf := mf.reN, room := fun _ => hr, un := (by have := hr.un; show (Ar.deeper (envOfC d.qual d.scope s.heap.objs.size a cdv)).units + 200 < cLine; omega), fC := fun _ => h1, fK := fun _ => hk, fC' := fun _ => h0, fP := fun _ => hp, tk := tk, xp0 := fun _ => hxp, xp := fun i a oe h => (by rw [hxp] at h; cases h), fX := fun _ => fXd }
      sto := ⟨fun x hx => ⟨(by
        unfold held at hx
        split at hx
        · exact .inl (by assumption)
        · exact .inr (by assumption)
        · cases hx), .inl rfl⟩⟩
      own := passes_of rfl
      stk := rfl
      fr := rfl }
  refine ⟨_, block_of (mainS 30) ev c11, ?_⟩
  have z := body_ok hfd hlen h
  rw [c6] at z
  exact z
theorem spC_len {G : Gx} {C : CallF} {f n : Nat} {vs : List L2.V} {H : Hp} {Q : VK} {E : XK} (h : spC G C f n vs H Q E) : vs.length = n := by
  obtain ⟨_, _, _, _, h, _⟩ := h
  exact h
theorem fnOk_plain {m f : Nat} {d : Dn} {fd : Fn} {fdd : FuncData} {a : Addr} (hxp : A.xp = none) (mf : Mf D Γ A B K mg) (xd : XDefs D A Γ K) (hfd : Γ.fn f = some fd) (hc : chkD D d fd = true) (hv : d.params.vararg = none) (F : FunD K d.name d.qual d.params d.body d.scope [] [] a fdd)
    (h1 : AllR B Γ P w K mg base A (m + 1)) (hk : AllK B Γ P w K mg base A (m + 1)) (h0 : AllR B Γ P w K mg base A m) (hp : AllP B Γ P w K mg base A m) :
    FnOk P w K mg base (L2.CX P w) (m + 3) a fdd d.ps (spC (gx P w K mg base A) (callN Γ (m + 2)) f (fd.ps.length + fd.kw.length)) ∧ (d.kwn = [] → Binds K fdd d.ps []) ∧ d.ps = d.as ++ d.kwn := by
  have hc' := hc
  unfold chkD at hc'
  simp only [Bool.and_eq_true, decide_eq_true_eq, List.isEmpty_iff, Option.isNone_iff_eq_none] at hc'
  obtain ⟨⟨⟨⟨⟨⟨⟨⟨⟨⟨c1, c2⟩, c3⟩, c4⟩, c5⟩, c6⟩, c7⟩, c8⟩, c9⟩, c10⟩, c11⟩ := hc'
  have eps : d.ps = d.as ++ d.kwn := by unfold Dn.ps; rw [hv, List.append_nil]
  have kl : fd.kw.length = d.kwn.length := by
    have := congrArg List.length c3.1
    rwa [List.length_map, List.length_map] at this
  have el : fd.ps.length + fd.kw.length = d.ps.length := by rw [eps, c7, List.length_append, kl]
  refine ⟨?_, ?_, eps⟩
  · rw [el]
    exact F.ok (chkScope_ok c5) (fun vs H Q E h => spC_len h) fun cdv Ar outer s H vs Q E hr h => body_run hxp mf xd hfd hc h1 hk h0 hp cdv Ar outer s H vs Q E hr h
  · intro hkn
    have hko : d.params.kwonlyargs = [] := List.map_eq_nil_iff.mp hkn
    rw [hkn, List.append_nil] at c4
    rw [eps, hkn, List.append_nil]
    exact F.bindsN fun kV doc pm an cdv ct us hl => bind_all c1 hv hko c2 (nodupB_ok c4) us hl
theorem reps_of {G : Gx} {g : Gh} {H : Hp} : ∀ {as : List (Mo × T)} {vs : List L2.V}, Paired (fun (a : Mo × T) v => Rep G g H (parO a.1) a.2 v) as vs → as.all (fun p => p.1 == .fro) = true → Reps G g H (as.map (·.2)) vs
  | _, _, .nil, _ => .nil
  | (mo, t) :: as, v :: vs, .cons p r, h => by
    simp only [List.all_cons, Bool.and_eq_true, beq_iff_eq] at h
    obtain ⟨h1, h2⟩ := h
    subst h1
    exact .cons p (reps_of r h2)
theorem PostC.keep {G : Gx} {lk : List Pl} {g g1 : Gh} {H H1 : Hp} {r : Res V} {Q : VK} {E : XK} (k : Keep g H g1 H1) (h : PostC G lk g H r Q E) : PostC G lk g1 H1 r Q E := by
  cases r with
  | ok v s' => exact fun g' H' x r' k' => h g' H' x r' (k.trans k')
  | exc c xs s' => exact fun g' H' cls d r' k' => h g' H' cls d r' (k.trans k')
  | no => exact h
theorem sp_star {f : Nat} {fd : Fn} {C : CallF} {vs : List L2.V} {H : Hp} {Q : VK} {E : XK} (hfd : Γ.fn f = some fd) (hs : fd.star = true) {np : Nat} (hnp : fd.ps.length = np) (h : spR (gx P w K mg base A) Γ C f vs H Q E) :
    ∃ ws rest, vs = ws ++ rest ∧ ws.length = np ∧ rest.length ≤ sizeLine ∧ ∀ p, H p = none → spC (gx P w K mg base A) C f (np + 1) (ws ++ [V.ref p]) (upd H p (.tup rest)) Q E := by
  obtain ⟨g, lk, hp, args, _, hR, hlk, hpa, hno, hpost⟩ := h
  unfold callA callAK at hpost
  rw [hfd] at hpost
  dsimp only at hpost
  cases eb : Mi.bindArgs fd args [] with
  | none => rw [eb] at hpost; exact hpost.elim
  | some l =>
    rw [eb] at hpost
    unfold Mi.bindArgs at eb
    simp only [List.length_nil, Nat.sub_zero, List.take_length, hs, if_true] at eb
    split at eb
    · rename_i hcond
      simp only [Bool.and_eq_true, decide_eq_true_eq] at hcond
      obtain ⟨⟨⟨⟨_, hkw⟩, h1⟩, h2⟩, h3⟩ := hcond
      cases eb
      have al : args.length = vs.length := Paired.len hpa
      refine ⟨vs.take np, vs.drop np, (List.take_append_drop np vs).symm, by rw [List.length_take]; omega, by rw [List.length_drop, sizeLine_eq]; omega, fun p hp0 => ?_⟩
      rw [hnp] at h3 hpost
      have rr := reps_of (paired_drop np hpa) h3
      refine ⟨g.own p .fz, lk, hp, _, ?_, hR.alloc hp0 (.inr (.inl rfl)), hlk, paired_app (Paired.mapP (paired_take np hpa) fun q v z => z.tr (alloc_holds hR.dom hp0) (fun _ _ h => h) (alloc_holds hR.dom hp0)) (.cons (Rep.newT hR hp0 rr) .nil), fun q hq => ?_, PostC.keep (keep_alloc hR hp0) hpost⟩
      · rw [List.length_append, List.length_take]
        show min np vs.length + 1 = np + 1
        omega
      · rcases List.mem_append.mp hq with z | z
        · exact hno q (List.mem_of_mem_take z)
        · simp only [List.mem_singleton] at z
          rw [z]
          rfl
    · cases eb
theorem postC_no {G : Gx} {lk : List Pl} {g : Gh} {H : Hp} {Q : VK} {E : XK} (h : PostC G lk g H .no Q E) : False := h
theorem spR_no {f : Nat} {C : CallF} {vs : List L2.V} {H : Hp} {Q : VK} {E : XK} {G : Gx} (hC : ∀ f as hp lk, C f as hp lk = .no) (h : spR G Γ C f vs H Q E) : False := by
  obtain ⟨g, lk, hp, args, _, hR, hlk, hpa, hno, hpost⟩ := h
  unfold callA callAK at hpost
  split at hpost
  · split at hpost
    · rw [hC] at hpost; exact hpost
    · exact hpost
  · exact hpost
theorem low (df : Defs D B Γ K) {k n : Nat} (hC : ∀ f as hp lk, callN Γ n f as hp lk = .no) : AllR B Γ P w K mg base A n ∧ AllP B Γ P w K mg base A n ∧ AllK B Γ P w K mg base A n := by
  refine ⟨fun f a hB => ?_, fun c y g a hpr hB => ?_, fun f a ks hB _ _ => ?_⟩
  · intro Ar outer s H us vs Q E hr e0 r h
    exact (spR_no hC h).elim
  · obtain ⟨d, fd, fdd, hfd, hc, F, _⟩ := df.all g a hB
    obtain ⟨fd', hfd', hl, hst, hkw⟩ := df.prop c y g hpr
    rw [hfd] at hfd'
    cases hfd'
    have hc' := hc
    unfold chkD at hc'
    simp only [Bool.and_eq_true, decide_eq_true_eq, List.isEmpty_iff, Option.isNone_iff_eq_none] at hc'
    obtain ⟨⟨⟨⟨⟨⟨⟨⟨⟨⟨c1, c2⟩, c3⟩, c4⟩, c5⟩, c6⟩, c7⟩, c8⟩, c9⟩, c10⟩, c11⟩ := hc'
    have hkn : d.kwn = [] := by
      have h3 := c3.1
      rw [hkw] at h3
      exact List.map_eq_nil_iff.mp h3.symm
    have hko : d.params.kwonlyargs = [] := List.map_eq_nil_iff.mp hkn
    rw [hkn, List.append_nil] at c4
    have hv : d.params.vararg = none := by
      cases e : d.params.vararg with
      | none => rfl
      | some v => rw [e, hst] at c8; cases c8
    have bad : ∀ {vs : List L2.V} {H : Hp} {Q : VK} {E : XK}, spC (gx P w K mg base A) (callN Γ n) g 1 vs H Q E → False := fun h => by
      obtain ⟨_, _, _, _, _, _, _, _, _, hpost⟩ := h
      rw [hC] at hpost
      exact hpost
    refine ⟨fdd, d.as, ⟨fun vs H Q E h => (bad h).elim, fun _ _ _ _ _ _ _ _ _ _ _ _ _ h => (bad h).elim⟩, F.bindsN fun kV doc pm an cdv ct us hl => bind_all c1 hv hko c2 (nodupB_ok c4) us hl⟩
  · intro Ar outer s H us ws vs zs Q E hr e0 r rz hw h
    obtain ⟨g, lk, hp, args, _, hR, hlk, hpa, hno, hpost⟩ := h
    unfold callAK at hpost
    split at hpost
    · split at hpost
      · rw [hC] at hpost; exact hpost.elim
      · exact hpost.elim
    · exact hpost.elim
theorem fnR_K {k : Nat} {a : Addr} {sp sp' : Sp} (h : FnRK P w K mg base (L2.CX P w) k a [] sp) (e : ∀ vs H Q E, sp' vs H Q E → sp vs H Q E) : FnR P w K mg base (L2.CX P w) k a sp' := fun A outer s H us vs Q E hr e0 r hsp => by
  have := h A outer s H us [] vs [] Q E hr e0 r .nil rfl (by rw [List.append_nil]; exact e _ _ _ _ hsp)
  exact this
theorem all_defs (hxp : A.xp = none) (mf : Mf D Γ A B K mg) (xd : XDefs D A Γ K) (df : Defs D B Γ K) : ∀ n, (AllR B Γ P w K mg base A n ∧ AllP B Γ P w K mg base A n ∧ AllK B Γ P w K mg base A n) ∧ (AllR B Γ P w K mg base A (n + 1) ∧ AllP B Γ P w K mg base A (n + 1) ∧ AllK B Γ P w K mg base A (n + 1))
  | 0 => ⟨low (k := 0) df fun _ _ _ _ => rfl, low (k := 0) df fun _ _ _ _ => rfl⟩
  | n + 1 => by
    obtain ⟨⟨h0, p0, k0⟩, ⟨h1, p1, k1⟩⟩ := all_defs hxp mf xd df n
    have plain : ∀ f a (d : Dn) (fd : Fn) (fdd : FuncData), Γ.fn f = some fd → chkD D d fd = true → FunD K d.name d.qual d.params d.body d.scope [] [] a fdd → KwD K d fd fdd → d.params.vararg = none → ∀ ks : List Str, ks.all strC = true → ks.Nodup →
        FnRK P w K mg base (L2.CX P w) (n + 3) a ks (spRK (gx P w K mg base A) Γ (callN Γ (n + 2)) f (ks.map enc)) := fun f a d fd fdd hfd hc F KD e ks hks hnk => by
      obtain ⟨F1, b, eps⟩ := fnOk_plain hxp mf xd hfd hc e F h1 k1 h0 p0
      have hc' := hc
      unfold chkD at hc'
      simp only [Bool.and_eq_true, decide_eq_true_eq, List.isEmpty_iff, Option.isNone_iff_eq_none] at hc'
      obtain ⟨⟨⟨⟨⟨⟨⟨⟨⟨⟨c1, c2⟩, c3⟩, c4⟩, c5⟩, c6⟩, c7⟩, c8⟩, c9⟩, c10⟩, c11⟩ := hc'
      rw [eps] at F1
      refine fnRK_of (G := gx P w K mg base A) rfl hfd (by rw [c8, e]; rfl) c10 c3.1 c3.2 c7 F1 KD (fun s us ws ks dv hK hl hw hn hsub hd => ?_) hks hnk
      obtain ⟨oc, od, dV, kV, doc, pm, an, cdv, ct, osl, hfdd, lk, hcd, hDV, _⟩ := F.ex
      have hdV : dV = .none := by
        rcases hDV with ⟨_, z⟩ | ⟨z, _⟩
        · exact z
        · exact absurd rfl z
      subst hfdd hdV
      exact BindsTo.of_looks fun M => bind_kw c1 e c2 us ws ks dv hl hw (nodupB_ok c4) hn hsub hK hd
    have star : ∀ f a (d : Dn) (fd : Fn) (fdd : FuncData) v, Γ.fn f = some fd → chkD D d fd = true → FunD K d.name d.qual d.params d.body d.scope [] [] a fdd → d.params.vararg = some v → FnR P w K mg base (L2.CX P w) (n + 3) a (spR (gx P w K mg base A) Γ (callN Γ (n + 2)) f) := fun f a d fd fdd v hfd hc F e => by
      have hc' := hc
      unfold chkD at hc'
      simp only [Bool.and_eq_true, Bool.or_eq_true, decide_eq_true_eq, List.isEmpty_iff, Option.isNone_iff_eq_none] at hc'
      obtain ⟨⟨⟨⟨⟨⟨⟨⟨⟨⟨c1, c2⟩, c3⟩, c4⟩, c5⟩, c6⟩, c7⟩, c8⟩, c9⟩, c10⟩, c11⟩ := hc'
      have hst : fd.star = true := by rw [c8, e]; rfl
      have hkn : d.kwn = [] := by
        rcases c9 with z | z
        · have h3 := c3.1
          rw [z] at h3
          exact List.map_eq_nil_iff.mp h3.symm
        · rw [e] at z; cases z
      have hko : d.params.kwonlyargs = [] := List.map_eq_nil_iff.mp hkn
      rw [hkn, List.append_nil] at c4
      obtain ⟨oc, od, dV, kV, doc, pm, an, cdv, ct, osl, hfdd, lk, hcd, hD, _⟩ := F.ex
      have eps : d.ps = d.as ++ [v.arg] := by unfold Dn.ps; rw [e, hkn, List.append_nil]
      have hdV : dV = .none := by
        rcases hD with ⟨_, z⟩ | ⟨z, _⟩
        · exact z
        · exact absurd rfl z
      subst hfdd hdV
      have S := chkScope_ok c5
      rw [eps] at S
      have FF := StX.fn_star (P := P) (w := w) (mg := mg) (base := base) (CX := L2.CX P w) (k := n + 2) (sp := spC (gx P w K mg base A) (callN Γ (n + 2)) f (d.as.length + 1)) lk hcd S StX.cxUp
        (fun us rest hl => bind_star c1 e hko c2 (nodupB_ok c4) us rest hl) fun Ar outer s H vs Q E hr h => by
          refine body_run hxp mf xd hfd hc h1 k1 h0 p0 cdv Ar outer s H vs Q E hr ?_
          rw [eps, List.length_append]
          exact h
      intro Ar outer s H us vs Q E hr e0 r h
      exact FF Ar outer s H us vs Q E hr e0 r (sp_star hfd hst (show fd.ps.length = d.as.length from c7) h)
    refine ⟨⟨h1, p1, k1⟩, fun f a hB => ?_, fun c y g a hpr hB => ?_, fun f a ks hB hks hnk => ?_⟩
    · obtain ⟨d, fd, fdd, hfd, hc, F, KD⟩ := df.all f a hB
      cases e : d.params.vararg with
      | none => exact fnR_K (plain f a d fd fdd hfd hc F KD e [] rfl .nil) fun vs H Q E h => h
      | some v => exact star f a d fd fdd v hfd hc F e
    · obtain ⟨d, fd, fdd, hfd, hc, F, KD⟩ := df.all g a hB
      obtain ⟨fd', hfd', hl, hst, hkw⟩ := df.prop c y g hpr
      rw [hfd] at hfd'
      cases hfd'
      have hc' := hc
      unfold chkD at hc'
      simp only [Bool.and_eq_true, decide_eq_true_eq, List.isEmpty_iff, Option.isNone_iff_eq_none] at hc'
      obtain ⟨⟨⟨⟨⟨⟨⟨⟨⟨⟨c1, c2⟩, c3⟩, c4⟩, c5⟩, c6⟩, c7⟩, c8⟩, c9⟩, c10⟩, c11⟩ := hc'
      have hv : d.params.vararg = none := by
        cases e : d.params.vararg with
        | none => rfl
        | some v => rw [e, hst] at c8; cases c8
      have hkn : d.kwn = [] := by
        have h3 := c3.1
        rw [hkw] at h3
        exact List.map_eq_nil_iff.mp h3.symm
      obtain ⟨F1, b, eps⟩ := fnOk_plain hxp mf xd hfd hc hv F h1 k1 h0 p0
      rw [hl, hkw] at F1
      exact ⟨_, _, F1, b hkn⟩
    · obtain ⟨d, fd, fdd, hfd, hc, F, KD⟩ := df.all f a hB
      cases e : d.params.vararg with
      | none => exact plain f a d fd fdd hfd hc F KD e ks hks hnk
      | some v =>
        have hst : fd.star = true := by
          have hc' := hc
          unfold chkD at hc'
          simp only [Bool.and_eq_true, decide_eq_true_eq] at hc'
          obtain ⟨⟨⟨⟨⟨⟨⟨⟨⟨⟨c1, c2⟩, c3⟩, c4⟩, c5⟩, c6⟩, c7⟩, c8⟩, c9⟩, c10⟩, c11⟩ := hc'
          rw [c8, e]; rfl
        cases ks with
        | nil =>
          intro Ar outer s H us ws vs zs Q E hr e0 r rz hw h
          cases ws with
          | cons w ws => cases hw
          | nil =>
            cases rz
            rw [List.append_nil] at h
            exact star f a d fd fdd v hfd hc F e Ar outer s H us vs Q E hr e0 r h
        | cons k ks =>
          intro Ar outer s H us ws vs zs Q E hr e0 r rz hw h
          obtain ⟨g, lk, hp, args, _, hR, hlk, hpa, hno, hpost⟩ := h
          unfold callAK at hpost
          rw [hfd] at hpost
          dsimp only at hpost
          unfold Mi.bindArgs at hpost
          simp only [hst, if_true, List.map_cons, List.isEmpty_cons, Bool.false_and, Bool.false_eq_true, if_false] at hpost
          exact hpost.elim
end
end Mi

/-! the facts of the module by looks at the heap behind the top -/
namespace Mi
open PySem PySem.Spec PyProof.Rows L2
/-- where a def stands -/
inductive Path where
  | glo (x : Str) | meth (C m : Str) | prop (C m : Str) | cm (C m : Str) | sm (C m : Str)
def findA (K : PySem.W.Frag) (C m : Str) : Addr := match PySem.W.findIn K (.ref (He.ga K C)) m with
  | some (some (.ref a)) => a
  | _ => 0
def recA (K : PySem.W.Frag) (p : Addr) (T : String) : Addr := match PySem.W.recIn K p T with
  | some (.ref g :: _) => g
  | _ => 0
def cmA (K : PySem.W.Frag) (C m : Str) : Addr := match PySem.W.findCls K (.ref (He.ga K C)) (.type "type") m with
  | some (.get _ (.ref p) _ _) => p
  | _ => 0
def pA (K : PySem.W.Frag) : Path → Addr
  | .glo x => He.ga K x
  | .meth C m => findA K C m
  | .prop C m => recA K (findA K C m) "property"
  | .cm C m => recA K (cmA K C m) "classmethod"
  | .sm C m => recA K (cmA K C m) "staticmethod"
def dnAt (p : PySem.Program) (i : Nat) (j : Option Nat) (qual : Str) (N : List Str) : Dn :=
  let st : Stmt := p.main.body.getD i (.Pass default)
  let st : Stmt := match j with
    | none => st
    | some j => match st with | .ClassDef _ _ _ body _ _ _ _ _ _ _ => body.getD j (.Pass default) | _ => st
  match st with
  | .FunctionDef nm a body _ _ _ sc _ _ _ => ⟨nm, qual, a, body, sc, N⟩
  | _ => ⟨"", "", ⟨[], [], none, [], [], none, []⟩, [], ⟨.function, [], false, false, []⟩, []⟩
structure Ld where
  D : Kc
  tab : Tab
  dfs : List (Nat × Path × Dn)
  cls : List (Nat × Str)
  exs : List (Nat × Str) := []
  xis : List (Nat × Dn) := []
def Ld.A (L : Ld) (K : PySem.W.Frag) : AP := ⟨fun c => (L.cls.lookup c).map (He.ga K), fun c => (L.exs.lookup c).map (He.ga K), none⟩
def Ld.B (L : Ld) (K : PySem.W.Frag) : Nat → Option Addr := fun f => (L.dfs.lookup f).map fun p => pA K p.1
def isB (L : Ld) (f : Nat) : Bool := (L.dfs.lookup f).isSome
/-- what does not hang on the heap -/
def Ld.stat (L : Ld) : Bool :=
  (L.dfs.all fun p => match L.tab.fns.lookup p.1 with | some fd => chkD L.D p.2.2 fd | none => false) &&
  (L.tab.props.all fun e => match L.tab.fns.lookup e.2 with | some fd => decide (fd.ps.length = 1) && !fd.star && fd.kw.isEmpty | none => false) &&
  (L.D.pls.all fun y => L.D.flds.contains y && (L.tab.setrs.all fun e => e.1.2 != enc y) && (L.tab.props.all fun e => e.1.2 != enc y)) &&
  (L.D.mcs.all fun m => L.tab.meths.any fun e => e.1.2 == m && e.1.1 != 0 && (L.cls.lookup e.1.1).isSome && decide (L.tab.meths.lookup e.1 = some e.2)) &&
  L.tab.iters.isEmpty &&
  (L.D.clss.all fun p => decide (L.cls.lookup p.2 = some p.1) && p.2 != 0 && (L.tab.meths.lookup (p.2, 0)).isSome) &&
  (L.cls.all fun p => p.1 != 0 && (L.tab.meths.lookup (p.1, 0)).isSome) &&
  (L.D.exs.all fun p => decide (L.exs.lookup p.2 = some p.1) && (match L.xis.lookup p.2, L.tab.ars.lookup p.2 with
    | some d, some n => chkXI L.D d n
    | _, _ => false))
def eqV (a b : Option (Option Value)) : Bool := decide (a = b)
/-- the tree of a constant -/
def relT (K : PySem.W.Frag) : Nat → T → Value → Option L2.V
  | 0, _, _ => none
  | n + 1, t, u => match t, u with
    | .non, .none => some .non
    | .bl b, .bool c => if b = c then some (.bl b) else none
    | .int i, .int j _ => if i = j then some (.int i) else none
    | .str k, .str y _ => if k = enc y ∧ strC y = true then some (.str y) else none
    | .tup ts, .ref a => (match K.lookup a with
      | some ⟨.type c, _, .seq its _, _⟩ => if c = "tuple" ∧ its.size ≤ sizeLine ∧ T.isKeyU (.tup ts) = false ∧ relTs K n ts its.toList = true then some (.ref a) else none
      | _ => none)
    | _, _ => none
where
  relTs (K : PySem.W.Frag) : Nat → List T → List Value → Bool
    | _, [], [] => true
    | 0, _, _ => false
    | n + 1, t :: ts, u :: us => (relT K n t u).isSome && relTs K n ts us
    | _, _, _ => false
def clsB (K : PySem.W.Frag) (a : Addr) : Bool := PySem.W.plainGet K a Str.empty && (PySem.W.hasDictIn K a && (PySem.W.plainOver K a && (eqV (PySem.W.findIn K (.ref a) "__setattr__") (some (some (.builtin "object.__setattr__"))) && PySem.W.selfFirst K a)))
def mkB (K : PySem.W.Frag) (a f : Addr) : Bool := PySem.W.makesIn K a && (eqV (PySem.W.findIn K (.ref a) "__init__") (some (some (.ref f))) && (PySem.W.isFn K (.ref f) && PySem.W.keepIn K (.ref a)))
def methB (K : PySem.W.Frag) (a : Addr) (m : Str) (f : Addr) : Bool := eqV (PySem.W.findIn K (.ref a) m) (some (some (.ref f))) && (PySem.W.isFn K (.ref f) && (PySem.W.keepIn K (.ref f) && PySem.W.fnIn K f))
def propB (K : PySem.W.Frag) (a : Addr) (y : Str) (g : Addr) : Bool := match PySem.W.findIn K (.ref a) y with
  | some (some (.ref p)) => eqV (PySem.W.specialIn K (.ref p) "__get__") (some (some (.builtin "property.__get__"))) && (decide (PySem.W.takesIn K (.ref p) = some true) && (match PySem.W.recIn K p "property" with
    | some (.ref g' :: _) => decide (g' = g)
    | _ => false))
  | _ => false
def cmB (K : PySem.W.Frag) (x m : Str) (g : Addr) : Bool := PySem.W.readsIn K (He.ga K x) (.type "type") && (eqV (PySem.W.specialIn K (.ref (He.ga K x)) "__getattribute__") (some (some (.builtin "type.__getattribute__"))) &&
  ((match PySem.W.findCls K (.ref (He.ga K x)) (.type "type") m with
    | some (.get (.builtin b) (.ref p) .none (.ref c)) => decide (b = "classmethod.__get__") && (decide (c = He.ga K x) && (match PySem.W.recIn K p "classmethod" with
      | some (.ref g' :: _) => decide (g' = g)
      | _ => false))
    | _ => false) && PySem.W.fnIn K g))
def smB (K : PySem.W.Frag) (x m : Str) (g : Addr) : Bool := PySem.W.readsIn K (He.ga K x) (.type "type") && (eqV (PySem.W.specialIn K (.ref (He.ga K x)) "__getattribute__") (some (some (.builtin "type.__getattribute__"))) &&
  ((match PySem.W.findCls K (.ref (He.ga K x)) (.type "type") m with
    | some (.get (.builtin b) (.ref p) .none (.ref c)) => decide (b = "staticmethod.__get__") && (decide (c = He.ga K x) && (match PySem.W.recIn K p "staticmethod" with
      | some (.ref g' :: _) => decide (g' = g)
      | _ => false))
    | _ => false) && PySem.W.keepIn K (.ref g)))
/-- an exception class: its fields can be read -/
def exB (K : PySem.W.Frag) (a : Addr) : Bool := xfB K a && excNames.all fun y => eqV (PySem.W.findIn K (.ref a) y) (some none)
def bltNames : List Str := ["len", "range", "enumerate", "any", "all", "list", "tuple", "int", "str", "isinstance", "bool", "dict"]
def haveA (o : Option Addr) (p : Addr → Bool) : Bool := match o with | some a => p a | none => false
/-- what the heap must say -/
def Ld.facts (L : Ld) (K : PySem.W.Frag) : Bool :=
  (L.D.fns.all fun p => haveA (L.B K p.2) fun a => eqV (PySem.W.nsIn K mainGlobals p.1) (some (some (.ref a))) && PySem.W.keepIn K (.ref a)) &&
  (L.cls.all fun p => eqV (PySem.W.nsIn K mainGlobals p.2) (some (some (.ref (He.ga K p.2)))) && clsB K (He.ga K p.2)) &&
  (L.tab.meths.all fun e => match L.A K e.1.1 with
    | some C => haveA (L.B K e.2) fun a => methB K C (opN e.1.2) a && (e.1.2 != 0 || mkB K C a)
    | none => true) &&
  (L.tab.props.all fun e => match L.A K e.1.1 with
    | some C => haveA (L.B K e.2) fun a => L.D.flds.all fun y => e.1.2 != enc y || propB K C y a
    | none => true) &&
  (L.cls.all fun p => L.D.flds.all fun y => (L.tab.props.lookup (p.1, enc y)).isSome || eqV (PySem.W.findIn K (.ref (He.ga K p.2)) y) (some none)) &&
  (L.D.cms.all fun e => haveA (L.B K e.2.2) fun a => decide (L.cls.lookup e.2.1 = some e.1.1) && cmB K e.1.1 e.1.2 a) &&
  (L.D.sms.all fun e => haveA (L.B K e.2.2) fun a => decide (L.cls.lookup e.2.1 = some e.1.1) && smB K e.1.1 e.1.2 a) &&
  (bltNames.all fun x => eqV (PySem.W.nsIn K mainGlobals x) (some none)) &&
  (L.exs.all fun p => exB K (He.ga K p.2) && oexB K (He.ga K p.2) && eqV (PySem.W.nsIn K mainGlobals p.2) (some (some (.ref (He.ga K p.2)))) &&
    eqV (PySem.W.findIn K (.ref (He.ga K p.2)) "__init__") (some (some (.ref (findA K p.2 "__init__")))) && decide (PySem.W.typeIn K (.ref (findA K p.2 "__init__")) = some (.type "function"))) &&
  (L.exs.all fun p => L.exs.all fun q => decide (PySem.W.exmOne K (.ref (He.ga K p.2)) (.ref (He.ga K q.2)) = some (L.tab.gm.sub p.1 q.1))) &&
  (L.D.consts.all fun p => match PySem.W.nsIn K mainGlobals p.1 with
    | some (some u) => (relT K 60 p.2 u).isSome
    | _ => false)
/-! ### what follows -/
theorem mem_look {α β : Type} [BEq α] [LawfulBEq α] {a : α} {b : β} : ∀ {l : List (α × β)}, l.lookup a = some b → (a, b) ∈ l
  | [], h => by cases h
  | (x, y) :: l, h => by
    rw [List.lookup_cons] at h
    by_cases e : a = x
    · subst e
      rw [beq_self_eq_true] at h
      cases h
      exact List.mem_cons_self
    · rw [beq_eq_false_iff_ne.mpr e] at h
      exact List.mem_cons_of_mem _ (mem_look h)
theorem haveA_ok {o : Option Addr} {p : Addr → Bool} (h : haveA o p = true) : ∃ a, o = some a ∧ p a = true := by
  cases o with
  | none => cases h
  | some a => exact ⟨a, rfl, h⟩
theorem eqV_ok {a b : Option (Option Value)} (h : eqV a b = true) : a = b := of_decide_eq_true h
end Mi

/-! the module's facts from the looks -/
namespace Mi
open PySem PySem.Spec PyProof.Rows L2
section
variable {L : Ld} {K : PySem.W.Frag} {h : Heap} {mg : Str → Option Value}
theorem A_some {c : Nat} {a : Addr} (e : L.A K c = some a) : ∃ x, L.cls.lookup c = some x ∧ a = He.ga K x := by
  have e : (L.cls.lookup c).map (He.ga K) = some a := e
  obtain ⟨x, h1, h2⟩ := Option.map_eq_some_iff.mp e
  exact ⟨x, h1, h2.symm⟩
theorem relT_rel : ∀ {n : Nat} {t : T} {u : Value} {v : L2.V}, relT K n t u = some v → RelV v u
  | 0, _, _, _, e => by cases e
  | n + 1, t, u, v, e => by
    unfold relT at e
    split at e
    · cases e; rfl
    · split at e
      · rename_i q; subst q; cases e; rfl
      · cases e
    · split at e
      · rename_i q; subst q; cases e; exact ⟨_, rfl⟩
      · cases e
    · split at e
      · cases e; exact ⟨_, rfl⟩
      · cases e
    · split at e
      · split at e
        · cases e; rfl
        · cases e
      · cases e
    · cases e
mutual
theorem relT_rep (G : Gx) (hK : G.K = K) : ∀ {n : Nat} {t : T} {u : Value} {v : L2.V}, relT K n t u = some v → RelV v u ∧ ∀ g H, Rep G g H .fz t v
  | 0, _, _, _, e => by cases e
  | n + 1, t, u, v, e => by
    unfold relT at e
    split at e
    · cases e; exact ⟨rfl, fun _ _ => .non⟩
    · split at e
      · rename_i q; subst q; cases e; exact ⟨rfl, fun _ _ => .bl⟩
      · cases e
    · split at e
      · rename_i q; subst q; cases e; exact ⟨⟨_, rfl⟩, fun _ _ => .int⟩
      · cases e
    · split at e
      · rename_i q; cases e; rw [q.1]; exact ⟨⟨_, rfl⟩, fun _ _ => .str (strC_ok q.2)⟩
      · cases e
    · split at e
      · rename_i c d its m sl hl
        split at e
        · rename_i q
          cases e
          obtain ⟨vs, h1, h2⟩ := relTs_rep G hK q.2.2.2
          refine ⟨rfl, fun g H => .tup (.inr ⟨q.2.2.1, _, its, m, by rw [hK]; exact hl, by rw [q.1], rfl, q.2.1, h1⟩) (h2 g H)⟩
        · cases e
      · cases e
    · cases e
theorem relTs_rep (G : Gx) (hK : G.K = K) : ∀ {n : Nat} {ts : List T} {us : List Value}, relT.relTs K n ts us = true → ∃ vs, Vals vs us ∧ ∀ g H, Reps G g H ts vs
  | _, [], [], _ => ⟨[], .nil, fun _ _ => .nil⟩
  | 0, [], _ :: _, e => by cases e
  | 0, _ :: _, [], e => by cases e
  | 0, _ :: _, _ :: _, e => by cases e
  | n + 1, t :: ts, u :: us, e => by
    have e : ((relT K n t u).isSome && relT.relTs K n ts us) = true := e
    rw [Bool.and_eq_true] at e
    obtain ⟨v, hv⟩ := Option.isSome_iff_exists.mp e.1
    obtain ⟨h1, h2⟩ := relT_rep G hK hv
    obtain ⟨vs, h3, h4⟩ := relTs_rep G hK e.2
    exact ⟨v :: vs, .cons h1 h3, fun g H => .cons (h2 g H) (h4 g H)⟩
  | n + 1, [], _ :: _, e => by cases e
  | n + 1, _ :: _, [], e => by cases e
end
theorem methB_ok {a f : Addr} {m : Str} (e : methB K a m f = true) : Meth K a m f ∧ PySem.W.fnIn K f = true := by
  unfold methB at e
  simp only [Bool.and_eq_true] at e
  exact ⟨⟨eqV_ok e.1, e.2.1, e.2.2.1⟩, e.2.2.2⟩
theorem mkB_ok {a f : Addr} (e : mkB K a f = true) : Mk K a f := by
  unfold mkB at e
  simp only [Bool.and_eq_true] at e
  exact ⟨e.1, eqV_ok e.2.1, e.2.2.1, e.2.2.2⟩
theorem clsB_ok {a : Addr} (e : clsB K a = true) : Cls K a ∧ PySem.W.selfFirst K a = true := by
  unfold clsB at e
  simp only [Bool.and_eq_true] at e
  exact ⟨⟨e.1, e.2.1, e.2.2.1, eqV_ok e.2.2.2.1⟩, e.2.2.2.2⟩
theorem propB_ok {a g : Addr} {y : Str} (e : propB K a y g = true) : ∃ p, PropOf K a y p g := by
  unfold propB at e
  split at e
  · rename_i p hp
    simp only [Bool.and_eq_true, decide_eq_true_eq] at e
    obtain ⟨h1, h2, h3⟩ := e
    split at h3
    · rename_i g' r hr
      have := of_decide_eq_true h3
      subst this
      exact ⟨p, hp, eqV_ok h1, h2, r, hr⟩
    · cases h3
  · cases e
theorem cmB_ok {x m : Str} {g : Addr} (e : cmB K x m g = true) : ClX.CRead K (He.ga K x) (.type "type") ∧ ∃ p, ClX.CMet K (He.ga K x) (.type "type") m p g := by
  unfold cmB at e
  simp only [Bool.and_eq_true] at e
  obtain ⟨h1, h2, h3, h4⟩ := e
  refine ⟨⟨h1, eqV_ok h2⟩, ?_⟩
  split at h3
  · rename_i b p c hf
    simp only [Bool.and_eq_true, decide_eq_true_eq] at h3
    obtain ⟨rfl, rfl, h5⟩ := h3
    split at h5
    · rename_i g' r hr
      have := of_decide_eq_true h5
      subst this
      exact ⟨p, hf, ⟨r, hr⟩, h4⟩
    · cases h5
  · cases h3
theorem smB_ok {x m : Str} {g : Addr} (e : smB K x m g = true) : ClX.CRead K (He.ga K x) (.type "type") ∧ ∃ p, SMet K (He.ga K x) (.type "type") m p g := by
  unfold smB at e
  simp only [Bool.and_eq_true] at e
  obtain ⟨h1, h2, h3, h4⟩ := e
  refine ⟨⟨h1, eqV_ok h2⟩, ?_⟩
  split at h3
  · rename_i b p c hf
    simp only [Bool.and_eq_true, decide_eq_true_eq] at h3
    obtain ⟨rfl, rfl, h5⟩ := h3
    split at h5
    · rename_i g' r hr
      have := of_decide_eq_true h5
      subst this
      exact ⟨p, hf, ⟨r, hr⟩, h4⟩
    · cases h5
  · cases h3
theorem mf_of (X : K.In h) (G : h.Ns mainGlobals mg) (st : L.stat = true) (f : L.facts K = true) : Mf L.D L.tab.gm (L.A K) (L.B K) K mg := by
  unfold Ld.stat at st
  unfold Ld.facts at f
  simp only [Bool.and_eq_true] at st f
  obtain ⟨⟨⟨⟨⟨⟨⟨s1, s2⟩, s3⟩, s4⟩, s5⟩, s6⟩, s7⟩, s8⟩ := st
  obtain ⟨⟨⟨⟨⟨⟨⟨⟨⟨⟨f1, f2⟩, f3⟩, f4⟩, f5⟩, f6⟩, fs⟩, f7⟩, fx⟩, fy⟩, f8⟩ := f
  have clsOf : ∀ c C, L.A K c = some C → ∃ x, (c, x) ∈ L.cls ∧ C = He.ga K x := fun c C e => by
    obtain ⟨x, h1, h2⟩ := A_some e
    exact ⟨x, mem_look h1, h2⟩
  have methOf : ∀ c m f C, L.tab.gm.meth c m = some f → L.A K c = some C → ∃ a, L.B K f = some a ∧ methB K C (opN m) a = true ∧ (m != 0 || mkB K C a) = true := fun c m f C e hA => by
    have e1 : ((c, m), f) ∈ L.tab.meths := mem_look e
    have := List.all_eq_true.mp f3 _ e1
    dsimp only at this
    rw [hA] at this
    obtain ⟨a, h1, h2⟩ := haveA_ok this
    rw [Bool.and_eq_true] at h2
    exact ⟨a, h1, h2⟩
  have iniOf : ∀ c C, L.A K c = some C → c ≠ 0 ∧ ∃ f, L.tab.gm.meth c 0 = some f := fun c C e => by
    obtain ⟨x, hm, _⟩ := clsOf c C e
    have := List.all_eq_true.mp s7 _ hm
    simp only [Bool.and_eq_true, bne_iff_ne] at this
    exact ⟨this.1, Option.isSome_iff_exists.mp this.2⟩
  have exOf : ∀ c C, (L.A K).E c = some C → ∃ x, (c, x) ∈ L.exs ∧ L.exs.lookup c = some x ∧ C = He.ga K x := fun c C e => by
    have e : (L.exs.lookup c).map (He.ga K) = some C := e
    obtain ⟨x, h1, h2⟩ := Option.map_eq_some_iff.mp e
    exact ⟨x, mem_look h1, h1, h2.symm⟩
  refine { exn := fun x c e => ?_, esub := fun c d p q e1 e2 => ?_, eox := fun c q e => ?_, fn := fun x fc e => ?_, clss := fun x c e => ?_, mks := fun c fc C e hA => ?_, cls := fun c C hc hA => ?_, ini := iniOf, xf := fun c C e => ?_, meth := fun c m fc C e hA => ?_, mcs := fun m hm => ?_, noat := fun y c C hy hc hA hp => ?_, prop := fun y c C g hy hA hp => ?_, pls := fun y hy => ?_, cms := fun x m c fc e => ?_, sms := fun x m c fc e => ?_, free := fun x hx => ?_, consts := fun x t e => ?_, ni := fun c => ?_ }
  · have := List.all_eq_true.mp f1 _ (mem_look e)
    obtain ⟨a, h1, h2⟩ := haveA_ok this
    rw [Bool.and_eq_true] at h2
    exact ⟨a, h1, PySem.W.mg_of X G (eqV_ok h2.1), h2.2⟩
  · have := List.all_eq_true.mp s6 _ (mem_look e)
    simp only [Bool.and_eq_true, bne_iff_ne, decide_eq_true_eq] at this
    obtain ⟨⟨h1, h2⟩, h3⟩ := this
    obtain ⟨fc, hf⟩ := Option.isSome_iff_exists.mp h3
    have h4 := List.all_eq_true.mp f2 _ (mem_look h1)
    rw [Bool.and_eq_true] at h4
    exact ⟨He.ga K x, fc, by show (L.cls.lookup c).map _ = _; rw [h1]; rfl, h2, PySem.W.mg_of X G (eqV_ok h4.1), hf⟩
  · obtain ⟨a, h1, _, h3⟩ := methOf c 0 fc C e hA
    exact ⟨a, h1, mkB_ok (by simpa using h3)⟩
  · obtain ⟨x, hm, rfl⟩ := clsOf c C hA
    have h4 := List.all_eq_true.mp f2 _ hm
    rw [Bool.and_eq_true] at h4
    exact clsB_ok h4.2
  · obtain ⟨x, h1, h2⟩ : ∃ x, L.exs.lookup c = some x ∧ C = He.ga K x := by
      have e : (L.exs.lookup c).map (He.ga K) = some C := e
      obtain ⟨x, h1, h2⟩ := Option.map_eq_some_iff.mp e
      exact ⟨x, h1, h2.symm⟩
    subst h2
    have h4 := List.all_eq_true.mp fx _ (mem_look h1)
    simp only [Bool.and_eq_true] at h4
    replace h4 := h4.1.1.1.1
    unfold exB at h4
    rw [Bool.and_eq_true] at h4
    exact ⟨xfB_ok h4.1, fun y hy => eqV_ok (List.all_eq_true.mp h4.2 y hy)⟩
  · obtain ⟨a, h1, h2, _⟩ := methOf c m fc C e hA
    exact ⟨a, h1, (methB_ok h2).1, (methB_ok h2).2⟩
  · have := List.all_eq_true.mp s4 _ hm
    obtain ⟨e, he, h2⟩ := List.any_eq_true.mp this
    simp only [Bool.and_eq_true, beq_iff_eq, bne_iff_ne, decide_eq_true_eq] at h2
    obtain ⟨⟨⟨rfl, h3⟩, h4⟩, h5⟩ := h2
    obtain ⟨x, hx⟩ := Option.isSome_iff_exists.mp h4
    exact ⟨e.1.1, e.2, He.ga K x, h3, h5, by show (L.cls.lookup _).map _ = _; rw [hx]; rfl⟩
  · obtain ⟨x, hm, rfl⟩ := clsOf c C hA
    have h4 := List.all_eq_true.mp (List.all_eq_true.mp f5 _ hm) y hy
    have hp : L.tab.props.lookup (c, enc y) = none := hp
    rw [hp] at h4
    exact eqV_ok (by simpa using h4)
  · have h4 := List.all_eq_true.mp f4 _ (mem_look (show L.tab.props.lookup (c, enc y) = some g from hp))
    dsimp only at h4
    rw [hA] at h4
    obtain ⟨a, h1, h2⟩ := haveA_ok h4
    have h3 := List.all_eq_true.mp h2 y hy
    obtain ⟨p, h5⟩ := propB_ok (by simpa using h3)
    exact ⟨p, a, h1, h5⟩
  · have := List.all_eq_true.mp s3 _ hy
    simp only [Bool.and_eq_true, List.contains_iff_mem] at this
    obtain ⟨⟨h1, h2⟩, h3⟩ := this
    refine ⟨h1, fun c => ⟨?_, ?_⟩⟩
    · cases e : L.tab.gm.setr c (enc y) with
      | none => rfl
      | some q =>
        have := List.all_eq_true.mp h2 _ (mem_look (show L.tab.setrs.lookup (c, enc y) = some q from e))
        simp at this
    · cases e : L.tab.gm.prop c (enc y) with
      | none => rfl
      | some q =>
        have := List.all_eq_true.mp h3 _ (mem_look (show L.tab.props.lookup (c, enc y) = some q from e))
        simp at this
  · have := List.all_eq_true.mp f6 _ (mem_look e)
    obtain ⟨a, h1, h2⟩ := haveA_ok this
    rw [Bool.and_eq_true, decide_eq_true_eq] at h2
    obtain ⟨h3, p, h4⟩ := cmB_ok h2.2
    have h5 := List.all_eq_true.mp f2 _ (mem_look h2.1)
    rw [Bool.and_eq_true] at h5
    exact ⟨He.ga K x, a, p, .type "type", by show (L.cls.lookup _).map _ = _; rw [h2.1]; rfl, h1, PySem.W.mg_of X G (eqV_ok h5.1), h3, h4⟩
  · have := List.all_eq_true.mp fs _ (mem_look e)
    obtain ⟨a, h1, h2⟩ := haveA_ok this
    rw [Bool.and_eq_true, decide_eq_true_eq] at h2
    obtain ⟨h3, p, h4⟩ := smB_ok h2.2
    have h5 := List.all_eq_true.mp f2 _ (mem_look h2.1)
    rw [Bool.and_eq_true] at h5
    exact ⟨He.ga K x, a, p, .type "type", h1, PySem.W.mg_of X G (eqV_ok h5.1), h3, h4⟩
  · exact PySem.W.mg_none_of X G (eqV_ok (List.all_eq_true.mp f7 x hx))
  · have := List.all_eq_true.mp f8 _ (mem_look e)
    dsimp only at this
    split at this
    · rename_i u hu
      obtain ⟨v, hv⟩ := Option.isSome_iff_exists.mp this
      refine ⟨u, v, PySem.W.mg_of X G hu, relT_rel hv, fun G g H hK => (relT_rep G hK hv).2 g H⟩
    · cases this
  · have : L.tab.iters = [] := List.isEmpty_iff.mp s5
    show L.tab.iters.lookup c = none
    rw [this]; rfl
  · have := List.all_eq_true.mp s8 _ (mem_look e)
    simp only [Bool.and_eq_true, decide_eq_true_eq] at this
    have h4 := List.all_eq_true.mp fx _ (mem_look this.1)
    simp only [Bool.and_eq_true] at h4
    exact ⟨He.ga K x, by show (L.exs.lookup c).map _ = _; rw [this.1]; rfl, PySem.W.mg_of X G (eqV_ok h4.1.1.2)⟩
  · obtain ⟨x, m1, _, rfl⟩ := exOf c p e1
    obtain ⟨y, m2, _, rfl⟩ := exOf d q e2
    have := List.all_eq_true.mp (List.all_eq_true.mp fy _ m1) _ m2
    exact of_decide_eq_true this
  · obtain ⟨x, m1, _, rfl⟩ := exOf c q e
    have h4 := List.all_eq_true.mp fx _ m1
    simp only [Bool.and_eq_true] at h4
    exact oexB_ok h4.1.1.1.2
end
end Mi

/-! the end of a law: the head's Hook, the law's call -/
namespace Mi
open PySem PySem.Spec PyProof.Rows L2
/-! ### the Hook -/
def fnWa (K : PySem.W.Frag) (a : Addr) : He.FnW := match K.lookup a with
  | some ⟨_, _, .func fd, _⟩ => some (fd.name, fd.qualname, fd.params, fd.body, fd.scope, fd.globals, fd.closure, fd.builtins)
  | _ => none
def Dn.val (d : Dn) : He.FnW := some (d.name, d.qual, d.params, .stmts d.body, d.scope, mainGlobals, [], builtinsNs)
/-- the keyword-only parameters' defaults, as they stand -/
def kwX (K : PySem.W.Frag) (kV : Value) (kn : List Str) (kw : List (Nat × Option T)) : Bool := (kn.zip kw).all fun q => match q.2.2 with
  | none => true
  | some t => match kV with
    | .ref D => (match PySem.W.nsIn K D q.1 with
      | some (some u) => (relT K 60 t u).isSome
      | _ => false)
    | _ => false
def okD (K : PySem.W.Frag) (a : Addr) (d : Dn) (kw : List (Nat × Option T)) : Bool := PySem.W.keepIn K (.ref a) && (match K.lookup a with
  | some ⟨_, _, .func fd, _⟩ => PySem.W.codeIn K fd.code d.qual && (He.dflB K fd.defaults [] && kwX K fd.kwdefaults d.kwn kw)
  | _ => false)
theorem kwX_ok {K : PySem.W.Frag} {d : Dn} {fd : Fn} {fdd : FuncData} (nd : d.kwn.Nodup) (h : kwX K fdd.kwdefaults d.kwn fd.kw = true) : KwD K d fd fdd := by
  let kV := fdd.kwdefaults
  let dv : Str → Value := fun n => match kV with
    | .ref D => (match PySem.W.nsIn K D n with
      | some (some u) => u
      | _ => .none)
    | _ => .none
  let dT : Str → L2.V := fun n => match (d.kwn.zip fd.kw).lookup n with
    | some p => (match p.2 with
      | some t => (relT K 60 t (dv n)).getD .non
      | none => .non)
    | none => .non
  refine ⟨dv, dT, fun n p hm t ht => ?_⟩
  have hq := List.all_eq_true.mp h _ hm
  dsimp only at hq
  rw [ht] at hq
  dsimp only at hq
  split at hq
  · rename_i D hkV
    split at hq
    · rename_i u hu
      have e1 : dv n = u := by
        show (match fdd.kwdefaults with
          | .ref D => (match PySem.W.nsIn K D n with
            | some (some u) => u
            | _ => Value.none)
          | _ => .none) = u
        rw [hkV]
        dsimp only
        rw [hu]
      have e2 : (d.kwn.zip fd.kw).lookup n = some p := by
        have key : ∀ (kn : List Str) (kw : List (Nat × Option T)), kn.Nodup → (n, p) ∈ kn.zip kw → (kn.zip kw).lookup n = some p := by
          intro kn
          induction kn with
          | nil => intro kw _ hm; simp at hm
          | cons k kn ih =>
            intro kw nd hm
            cases kw with
            | nil => simp at hm
            | cons q kw =>
              rw [List.zip_cons_cons] at hm ⊢
              rw [List.lookup_cons]
              rcases List.mem_cons.mp hm with e | hm
              · cases e
                rw [beq_self_eq_true]
              · have : n ∈ kn := (List.of_mem_zip hm).1
                have ne : n ≠ k := fun e => (List.nodup_cons.mp nd).1 (e ▸ this)
                rw [beq_eq_false_iff_ne.mpr ne]
                exact ih kw (List.nodup_cons.mp nd).2 hm
        exact key _ _ nd hm
      obtain ⟨v, hv⟩ := Option.isSome_iff_exists.mp hq
      have e3 : dT n = v := by
        show (match (d.kwn.zip fd.kw).lookup n with
          | some p => (match p.2 with
            | some t => (relT K 60 t (dv n)).getD .non
            | none => .non)
          | none => L2.V.non) = v
        rw [e2]
        dsimp only
        rw [ht]
        dsimp only
        rw [e1, hv]; rfl
      rw [e1, e3]
      exact ⟨⟨D, hkV, hu⟩, relT_rel hv, fun G g H hK => (relT_rep G hK hv).2 g H⟩
    · cases hq
  · cases hq
theorem funD_of {K : PySem.W.Frag} {a : Addr} {d : Dn} {fn : Fn} (nd : d.kwn.Nodup) (e : fnWa K a = d.val) (c : okD K a d fn.kw = true) : ∃ fd, FunD K d.name d.qual d.params d.body d.scope [] [] a fd ∧ KwD K d fn fd := by
  obtain ⟨kp, c2⟩ := He.ba c
  unfold fnWa at e
  cases q : K.lookup a with
  | none =>
    rw [q] at c2
    cases c2
  | some o =>
    obtain ⟨oc, od, dt, osl⟩ := o
    rw [q] at c2 e
    cases dt with
    | func fd =>
      obtain ⟨n1, n2, n3, n4, n5, n6, n7, n8, n9, n10, n11, n12, n13, n14, n15⟩ := fd
      have e2 : (some (n1, n2, n3, n4, n5, n6, n7, n15) : He.FnW) = some (d.name, d.qual, d.params, .stmts d.body, d.scope, mainGlobals, [], builtinsNs) := e
      simp only [Option.some.injEq, Prod.mk.injEq] at e2
      obtain ⟨h1, h2, h3, h4, h5, h6, h7, h8⟩ := e2
      subst h1 h2 h3 h4 h5 h6 h7 h8
      have c3 : (PySem.W.codeIn K n13 d.qual && (He.dflB K n8 [] && kwX K n9 d.kwn fn.kw)) = true := c2
      obtain ⟨k1, k2⟩ := He.ba c3
      obtain ⟨k3, k4⟩ := He.ba k2
      exact ⟨_, ⟨⟨oc, od, n8, n9, n10, n11, n12, n13, n14, osl, rfl, q, k1, He.dflB_ok k3, .inl rfl⟩, kp⟩, kwX_ok nd k4⟩
    | _ => cases c2
def asX (g : Addr → Option Obj) : Nat → List Addr
  | 0 => [mainGlobals, PySem.cStatics]
  | n + 1 => He.growD g (asX g n)
/-- the keyword-only parameters of a def -/
def Ld.kwOf (L : Ld) (f : Nat) : List (Nat × Option T) := match L.tab.fns.lookup f with
  | some fd => fd.kw
  | none => []
/-- where an exception class's __init__ stands -/
def Ld.xA (L : Ld) (K : PySem.W.Frag) (c : Nat) : Addr := match L.exs.lookup c with
  | some x => findA K x "__init__"
  | none => 0
def obsK (L : Ld) (K : PySem.W.Frag) : He.AlD := (L.facts K && ((L.dfs.all fun p => okD K (pA K p.2.1) p.2.2 (L.kwOf p.1)) && (L.xis.all fun p => okD K (L.xA K p.1) p.2 [])), (L.dfs.map fun p => fnWa K (pA K p.2.1)) ++ L.xis.map fun p => fnWa K (L.xA K p.1))
def valL (L : Ld) : He.AlD := (true, (L.dfs.map fun p => p.2.2.val) ++ L.xis.map fun p => p.2.val)
def obsX (n : Nat) (L : Ld) (g : Addr → Option Obj) : He.AlD := obsK L (He.frG g (asX g n))
def hookX (n : Nat) (L : Ld) : PySem.W.Hook where
  α := He.AlD
  obs := fun s => obsX n L s.heap.get?
  val := fun _ => valL L
  says := fun _ h => ∃ K : PySem.W.Frag, K.In h ∧ obsK L K = valL L
  of := fun _ _ e => ⟨_, He.frG_in, e⟩
  keeps := fun _ _ _ ⟨K, hK, c⟩ k => ⟨K, PySem.W.Frag.In.keeps hK k, c⟩
theorem obsX_eq {n : Nat} {L : Ld} {g : Addr → Option Obj} {s : Shared} (h : ∀ a, g a = s.heap.get? a) : obsX n L g = (hookX n L).obs s := by
  have e : g = s.heap.get? := funext h
  rw [e] <;> rfl
section
variable {L : Ld} {K : PySem.W.Frag}
theorem facts_of (e : obsK L K = valL L) : L.facts K = true := (He.ba (show (L.facts K && ((L.dfs.all fun p => okD K (pA K p.2.1) p.2.2 (L.kwOf p.1)) && (L.xis.all fun p => okD K (L.xA K p.1) p.2 []))) = true from congrArg (fun z : He.AlD => z.1) e)).1
theorem def_of (e : obsK L K = valL L) {f : Nat} {p : Path × Dn} {fn : Fn} (h : L.dfs.lookup f = some p) (hf : L.tab.fns.lookup f = some fn) (nd : p.2.kwn.Nodup) : ∃ fd, FunD K p.2.name p.2.qual p.2.params p.2.body p.2.scope [] [] (pA K p.1) fd ∧ KwD K p.2 fn fd := by
  have e1 := (He.ba (He.ba (show (L.facts K && ((L.dfs.all fun p => okD K (pA K p.2.1) p.2.2 (L.kwOf p.1)) && (L.xis.all fun p => okD K (L.xA K p.1) p.2 []))) = true from congrArg (fun z : He.AlD => z.1) e)).2).1
  have e2 : (L.dfs.map fun p => fnWa K (pA K p.2.1)) = L.dfs.map fun p => p.2.2.val := (List.append_inj (show (L.dfs.map fun p => fnWa K (pA K p.2.1)) ++ (L.xis.map fun p => fnWa K (L.xA K p.1)) = (L.dfs.map fun p => p.2.2.val) ++ L.xis.map fun p => p.2.val from congrArg (fun z : He.AlD => z.2) e) (by rw [List.length_map, List.length_map])).1
  have hm := mem_look h
  obtain ⟨i, hi⟩ := List.getElem?_of_mem hm
  have e3 : (L.dfs.map fun p => fnWa K (pA K p.2.1))[i]? = (L.dfs.map fun p => p.2.2.val)[i]? := by rw [e2]
  rw [List.getElem?_map, List.getElem?_map, hi] at e3
  have e4 := List.all_eq_true.mp e1 _ hm
  dsimp only at e4
  rw [show L.kwOf f = fn.kw from by unfold Ld.kwOf; rw [hf]] at e4
  exact funD_of nd (Option.some.inj e3) e4
theorem chkD_nd {D : Kc} {d : Dn} {fd : Fn} (hc : chkD D d fd = true) : d.kwn.Nodup := by
  unfold chkD at hc
  simp only [Bool.and_eq_true, decide_eq_true_eq] at hc
  obtain ⟨⟨⟨⟨⟨⟨⟨⟨⟨⟨c1, c2⟩, c3⟩, c4⟩, c5⟩, c6⟩, c7⟩, c8⟩, c9⟩, c10⟩, c11⟩ := hc
  exact (List.nodup_append.mp (nodupB_ok c4)).2.1
theorem xdefs_of (st : L.stat = true) (e : obsK L K = valL L) : XDefs L.D (L.A K) L.tab.gm K := fun x c hx => by
  unfold Ld.stat at st
  simp only [Bool.and_eq_true] at st
  have s8 := List.all_eq_true.mp st.2 _ (mem_look hx)
  simp only [Bool.and_eq_true, decide_eq_true_eq] at s8
  obtain ⟨h1, h2⟩ := s8
  split at h2
  · rename_i d n hd hn
    have f := facts_of e
    unfold Ld.facts at f
    simp only [Bool.and_eq_true] at f
    have fx := List.all_eq_true.mp f.1.1.2 _ (mem_look h1)
    simp only [Bool.and_eq_true, decide_eq_true_eq] at fx
    have e1 := (He.ba (He.ba (show (L.facts K && ((L.dfs.all fun p => okD K (pA K p.2.1) p.2.2 (L.kwOf p.1)) && (L.xis.all fun p => okD K (L.xA K p.1) p.2 []))) = true from congrArg (fun z : He.AlD => z.1) e)).2).2
    have e2 : (L.xis.map fun p => fnWa K (L.xA K p.1)) = L.xis.map fun p => p.2.val := (List.append_inj (show (L.dfs.map fun p => fnWa K (pA K p.2.1)) ++ (L.xis.map fun p => fnWa K (L.xA K p.1)) = (L.dfs.map fun p => p.2.2.val) ++ L.xis.map fun p => p.2.val from congrArg (fun z : He.AlD => z.2) e) (by rw [List.length_map, List.length_map])).2
    have hm := mem_look hd
    obtain ⟨i, hi⟩ := List.getElem?_of_mem hm
    have e3 : (L.xis.map fun p => fnWa K (L.xA K p.1))[i]? = (L.xis.map fun p => p.2.val)[i]? := by rw [e2]
    rw [List.getElem?_map, List.getElem?_map, hi] at e3
    have e3 : fnWa K (L.xA K c) = d.val := Option.some.inj e3
    have e4 : okD K (L.xA K c) d [] = true := List.all_eq_true.mp e1 _ hm
    have ea : L.xA K c = findA K x "__init__" := by unfold Ld.xA; rw [h1]
    rw [ea] at e3 e4
    have nd : d.kwn.Nodup := by
      unfold chkXI at h2
      simp only [Bool.and_eq_true, List.isEmpty_iff] at h2
      have : d.params.kwonlyargs = [] := h2.1.1.1.1.1.1.2
      unfold Dn.kwn
      rw [this]; exact .nil
    obtain ⟨fdd, F, _⟩ := funD_of (fn := { (default : Fn) with kw := [] }) nd e3 e4
    exact ⟨He.ga K x, _, d, fdd, n, by show (L.exs.lookup c).map _ = _; rw [h1]; rfl, hn, eqV_ok fx.1.2, fx.2, h2, F⟩
  · cases h2
theorem defs_of (st : L.stat = true) (e : obsK L K = valL L) : Defs L.D (L.B K) L.tab.gm K := by
  unfold Ld.stat at st
  simp only [Bool.and_eq_true] at st
  obtain ⟨⟨⟨⟨⟨⟨⟨s1, s2⟩, s3⟩, s4⟩, s5⟩, s6⟩, s7⟩, s8⟩ := st
  refine ⟨fun f a hB => ?_, fun c y g hp => ?_⟩
  · unfold Ld.B at hB
    obtain ⟨p, h1, rfl⟩ := Option.map_eq_some_iff.mp hB
    have := List.all_eq_true.mp s1 _ (mem_look h1)
    dsimp only at this
    split at this
    · rename_i fd hfd
      obtain ⟨fdd, F, KD⟩ := def_of e h1 hfd (chkD_nd this)
      exact ⟨p.2, fd, fdd, hfd, this, F, KD⟩
    · cases this
  · have := List.all_eq_true.mp s2 _ (mem_look (show L.tab.props.lookup (c, y) = some g from hp))
    dsimp only at this
    split at this
    · rename_i fd hfd
      simp only [Bool.and_eq_true, decide_eq_true_eq, Bool.not_eq_true', List.isEmpty_iff] at this
      exact ⟨fd, hfd, this.1.1, this.1.2, this.2⟩
    · cases this
end
/-! ### the law's call -/
theorem script_rep {G : Gx} {H : Hp} {a : Addr} {ns : List Int} (hn : ns.length ≤ szL) (h : SqL G.K H a (ns.map V.int)) : ∃ g : Gh, RH G g [] [] H ∧ Rep G g H .fz (.lst (ns.map .int)) (.ref a) := by
  have rr : ∀ (g : Gh) (ns : List Int), Reps G g H (ns.map .int) (ns.map V.int) := fun g ns => by
    induction ns with
    | nil => exact .nil
    | cons i ns ih => exact .cons .int ih
  rcases h with h | h
  · refine ⟨⟨fun b => if b = a then some .fz else none, []⟩, ⟨fun b o e => ?_, rfl, fun i mo t e => by simp at e, rfl, fun n b c e _ => by simp at e, fun p b b' e _ => ?_, fun b p e => ?_, fun i t e => by simp at e, fun b o vs e _ => ?_⟩, .lst (if_pos rfl) h (by rw [List.length_map]; exact hn) (rr _ ns)⟩
    · have e : (if b = a then some Ow.fz else none) = some o := e
      split at e
      · rename_i q; subst q
        rcases h with h | ⟨_, h⟩ <;> (rw [h]; intro z; cases z)
      · cases e
    · have e : (if b = a then some Ow.fz else none) = some (.pl p) ∨ (if b = a then some Ow.fz else none) = some (.lkd p) := e
      split at e <;> rcases e with e | e <;> cases e
    · have e : (if b = a then some Ow.fz else none) = some (.lkd p) := e
      split at e <;> cases e
    · have e : (if b = a then some Ow.fz else none) = some o := e
      split at e <;> cases e
      rfl
  · exact ⟨⟨fun _ => none, []⟩, ⟨fun b o e => (nomatch e), rfl, fun i mo t e => (by simp at e), rfl, fun n b c e _ => (by simp at e), fun p b b' e _ => (by rcases e with e | e <;> cases e), fun b p e => (nomatch e), fun i t e => (by simp at e), fun b o vs e _ => (nomatch e)⟩, .lstK h (by rw [List.length_map]; exact hn) (rr _ ns)⟩
/-- what Mini must say of the law -/
def Good (Γ : Gm) (f n : Nat) : Prop := ∀ ns : List Int, ns.length ≤ n → ∃ md s, callN Γ 60 f [(.fro, .lst (ns.map .int))] [] [] = .ok (md, .bl true) s
theorem core {P : PySem.Program} {w : World} {L : Ld} {mg : Str → Option Value} {fa : Addr} {h : Heap} {f n : Nat} {x : Str} {p : Path × Dn} (Y : ∃ K : PySem.W.Frag, K.In h ∧ obsK L K = valL L) (G : h.Ns mainGlobals mg) (hmg : mg "law" = some (.ref fa)) (st : L.stat = true)
    (hf : L.D.fns.lookup ("law" : Str) = some f) (hp : L.dfs.lookup f = some p) (hx : p.2.as = [x]) (hv : p.2.params.vararg = none) (hko : p.2.params.kwonlyargs = []) (hn : n ≤ szL) (good : Good L.tab.gm f n) :
    ∃ (K : PySem.W.Frag) (fd : FuncData) (sp : Sp), K.In h ∧ (∀ (s : Shared) (u : Value), BindsTo s fd ⟨[u], []⟩ [(x, u)]) ∧
      (∀ (H : Hp) (a : Addr) (ns : List Int), ns.length ≤ n → Only H → SqL K H a (ns.map V.int) → sp [.ref a] H (fun v _ => v = .bl true) fun _ _ _ => False) ∧
      ∀ base : Heap, K.In base → base.Ns mainGlobals mg → FnOk P w K mg base (L2.CX P w) 61 fa fd [x] sp := by
  obtain ⟨K, X, e⟩ := Y
  have mf := mf_of X G st (facts_of e)
  have df := defs_of st e
  have xd := xdefs_of st e
  obtain ⟨a, hB, hmg', _⟩ := mf.fn "law" f hf
  rw [hmg] at hmg'
  cases hmg'
  have hB' := hB
  unfold Ld.B at hB'
  rw [hp] at hB'
  have ea : pA K p.1 = fa := Option.some.inj hB'
  have s1 : ∃ fd, L.tab.gm.fn f = some fd ∧ chkD L.D p.2 fd = true := by
    unfold Ld.stat at st
    simp only [Bool.and_eq_true] at st
    have := List.all_eq_true.mp st.1.1.1.1.1.1.1 _ (mem_look hp)
    dsimp only at this
    split at this
    · rename_i fd hfd
      exact ⟨fd, hfd, this⟩
    · cases this
  obtain ⟨fd, hfd, hc⟩ := s1
  obtain ⟨fdd, F, _⟩ := def_of e hp hfd (chkD_nd hc)
  rw [ea] at F
  have hkn : p.2.kwn = [] := by unfold Dn.kwn; rw [hko]; rfl
  have hc' := hc
  unfold chkD at hc'
  simp only [Bool.and_eq_true, decide_eq_true_eq, List.isEmpty_iff, Option.isNone_iff_eq_none] at hc'
  obtain ⟨⟨⟨⟨⟨⟨⟨⟨⟨⟨c1, c2⟩, c3⟩, c4⟩, c5⟩, c6⟩, c7⟩, c8⟩, c9⟩, c10⟩, c11⟩ := hc'
  have hlen : fd.ps.length = 1 := by rw [c7, hx]; rfl
  refine ⟨K, fdd, fun vs H Q E => ∀ base, spC (gx P w K mg base (L.A K)) (callN L.tab.gm 60) f 1 vs H Q E, X, fun s u => ?_, fun H a ns hl hO hS base => ?_, fun base hb hg => ?_⟩
  · have b := FunD.bindsA (ps := p.2.as) F (fun kV doc pm an cdv ct us hl => bind_all c1 hv hko c2 (nodupB_ok (by rw [hkn, List.append_nil] at c4; exact c4)) us hl) s [u] (by rw [hx]; rfl)
    rw [hx] at b
    exact b
  · obtain ⟨g, r, q⟩ := script_rep (G := gx P w K mg base (L.A K)) (by omega : ns.length ≤ szL) hS
    refine ⟨g, [], [], [(.fro, .lst (ns.map .int))], rfl, r, fun p hp => (nomatch hp), .cons q .nil, fun a ha => ?_, ?_⟩
    · rw [List.mem_singleton] at ha
      rw [ha]; rfl
    · obtain ⟨md, s, hs⟩ := good ns hl
      rw [hs]
      exact fun g' H' x _ _ hr _ => Rep.bl_inv hr
  · obtain ⟨⟨⟨h0, p0, k0⟩, ⟨h1, p1, k1⟩⟩⟩ := And.intro (all_defs (P := P) (w := w) (base := base) rfl mf xd df 58) trivial
    obtain ⟨F1, _, eps⟩ := fnOk_plain (A := L.A K) rfl mf xd hfd hc hv F h1 k1 h0 p0
    have hk0 : fd.kw = [] := by
      have h3 := c3.1
      rw [hkn] at h3
      exact List.map_eq_nil_iff.mp h3
    rw [hlen, eps, hx, hk0, hkn] at F1
    exact F1.imp fun vs H Q E z => z base
/-- the walk's end, where what leaves a def hangs on the world -/
theorem walk_ofW {l : PySem.W.OpenLaw} {n k : Nat} {q : Program} {loose : List Str} {XP : (Str → Option Value) → Heap → Prop} {YP : World → Heap → Prop} {d : DefRec} {CX : World → CXT} {x : Str}
    (hn : l.most = some n) (hn2 : n ≤ sizeLine) (hdf : d.params.defaults = []) (hr : Room k callerA)
    (F : ∀ (w : World) (mg : Str → Option Value) (fa : Addr) (h : Heap), YP w h → h.Ns mainGlobals mg → mg d.name = some (.ref fa) →
      ∃ (K : PySem.W.Frag) (fd : FuncData) (sp : Sp), K.In h ∧ (∀ (s : Shared) (u : Value), BindsTo s fd ⟨[u], []⟩ [(x, u)]) ∧
        (∀ (H : Hp) (a : Addr) (ns : List Int), ns.length ≤ n → Only H → SqL K H a (ns.map V.int) → sp [.ref a] H (fun v _ => v = .bl true) fun _ _ _ => False) ∧
        ∀ base : Heap, K.In base → base.Ns mainGlobals mg → FnOk l.prog w K mg base (CX w) k fa fd [x] sp)
    (hCX : ∀ (w : World) (H : Hp) (s : Shared) (e : Value) (s' : Shared), CX w [] H s (fun _ _ _ => False) e s' → False) :
    PySem.W.WalkO q loose XP YP l.row.toRowW d [] (fun f vs => PySem.call f vs) := by
  refine Att.attach_call hn hdf fun w s₀ s₁ mg mb fa o pm cd doc a vs ns G Y ho hd hcd hmg hobj hints hlen hg => ?_
  obtain ⟨K, fd, sp, KX, hb, hsp, hF⟩ := F w mg fa _ Y G.T.g hmg
  exact law_call KX G.T.g G.T.b G.T.builtins G.T.nolimit hg hobj hints (Nat.le_trans hlen hn2) hr hF hb (fun H hO hS => hsp H a ns hlen hO hS) fun H e s' => hCX w H s₁ e s'
theorem cx_no {P : PySem.Program} {w : World} {H : Hp} {s s' : Shared} {e : Value} (c : L2.CX P w [] H s (fun _ _ _ => False) e s') : False := by
  obtain ⟨_, _, _, _, _, _, _, _, _, _, _, _, he⟩ := c
  exact he
end Mi

/-! Mini by lemmas: what a piece of code does -/
namespace Mi
section
variable {Γ : Gm} {C C' : CallF} {lk : List Pl} {s s1 s2 s3 : S}
theorem execs_cons {c : Sm} {cs : List Sm} {r : Res Fl} (h1 : exec Γ C C' lk c s = .ok .nx s1) (h2 : execs Γ C C' lk cs s1 = r) : execs Γ C C' lk (c :: cs) s = r := by
  rw [execs, h1]; exact h2
theorem execs_ret {c : Sm} {cs : List Sm} {v : V} (h1 : exec Γ C C' lk c s = .ok (.ret v) s1) : execs Γ C C' lk (c :: cs) s = .ok (.ret v) s1 := by
  rw [execs, h1]; rfl
theorem execs_exc {c : Sm} {cs : List Sm} {d : Nat} {xs : List T} (h1 : exec Γ C C' lk c s = .exc d xs s1) : execs Γ C C' lk (c :: cs) s = .exc d xs s1 := by
  rw [execs, h1]; rfl
theorem exec_set {g : Tg} {e : Ex} {v : V} (h : ev Γ C C' lk e s = .ok v s1) (hb : bindTg lk g v s1 = some s2) : exec Γ C C' lk (.set g e) s = .ok .nx s2 := by
  rw [exec, h]; show nxR (bindTg lk g v s1) = _; rw [hb]; rfl
theorem exec_ret {e : Ex} {v : V} (h : ev Γ C C' lk e s = .ok v s1) (hs : v.1.sto = true) : exec Γ C C' lk (.ret e) s = .ok (.ret v) s1 := by
  rw [exec, h]; show (if v.1.sto = true then _ else _) = _; rw [if_pos hs]
theorem exec_ite {c : Ex} {a b : List Sm} {v : V} {t : Bool} {r : Res Fl} (h : ev Γ C C' lk c s = .ok v s1) (ht : truth v.2 = some t) (hr : (if t then execs Γ C C' lk a s1 else execs Γ C C' lk b s1) = r) : exec Γ C C' lk (.ite c a b) s = r := by
  rw [exec, h]; show optR (truth v.2) _ = _; rw [ht]; exact hr
theorem exec_for {g : Tg} {it : Ex} {b : List Sm} {x : V} {xs : List T} {r : Res Fl} (h : ev Γ C C' lk it s = .ok x s1) (hi : itemsR Γ x.2 s1 = some xs) (hr : forL (lks x ++ lk) g (fun s => execs Γ C C' (lks x ++ lk) b s) xs s1 = r) :
    exec Γ C C' lk (.for_ g it b) s = r := by
  rw [exec, h]; show optR (itemsR Γ x.2 s1) _ = _; rw [hi]; exact hr
theorem ev_bin {o : Op} {a b : Ex} {x y : V} {r : Res V} (ha : ev Γ C C' lk a s = .ok x s1) (hb : ev Γ C C' (lks x ++ lk) b s1 = .ok y s2) (h : binR Γ C' lk o x y s2 = r) : ev Γ C C' lk (.bin o a b) s = r := by
  rw [ev, ha]; show (ev Γ C C' (lks x ++ lk) b s1).bind _ = _; rw [hb]; exact h
theorem ev_cmp {o : Co} {a b : Ex} {x y : V} {r : Res V} (ha : ev Γ C C' lk a s = .ok x s1) (hb : ev Γ C C' (lks x ++ lk) b s1 = .ok y s2) (h : cmpR Γ C' (lks x ++ lk) o x y s2 = r) : ev Γ C C' lk (.cmp o a b) s = r := by
  rw [ev, ha]; show (ev Γ C C' (lks x ++ lk) b s1).bind _ = _; rw [hb]; exact h
theorem ev_sub {a b : Ex} {q : Bool} {x y : V} {r : Res V} (ha : ev Γ C C' lk a s = .ok x s1) (hb : ev Γ C C' (lks x ++ lk) b s1 = .ok y s2) (h : subR Γ C' (lks y ++ lk) x y q s2 = r) : ev Γ C C' lk (.sub a b q) s = r := by
  rw [ev, ha]; show (ev Γ C C' (lks x ++ lk) b s1).bind _ = _; rw [hb]; exact h
theorem ev_not {a : Ex} {m : Md} {b : Bool} (h : ev Γ C C' lk a s = .ok (m, .bl b) s1) : ev Γ C C' lk (.not a) s = okF (.bl (!b)) s1 := by
  rw [ev, h]; rfl
theorem ev_and {a b : Ex} {m : Md} {k : Bool} {r : Res V} (h : ev Γ C C' lk a s = .ok (m, .bl k) s1) (hr : (if k then ev Γ C C' lk b s1 else okF (.bl false) s1) = r) : ev Γ C C' lk (.and a b) s = r := by
  rw [ev, h]
  cases k <;> exact hr
theorem ev_or {a b : Ex} {m : Md} {k : Bool} {r : Res V} (h : ev Γ C C' lk a s = .ok (m, .bl k) s1) (hr : (if k then okF (.bl true) s1 else ev Γ C C' lk b s1) = r) : ev Γ C C' lk (.or a b) s = r := by
  rw [ev, h]
  cases k <;> exact hr
theorem ev_att {e : Ex} {f : Nat} {b : Bool} {x : V} {r : Res V} (h : ev Γ C C' lk e s = .ok x s1) (hr : attR Γ C' lk x.2 f b s1 = r) : ev Γ C C' lk (.att e f b) s = r := by
  rw [ev, h]; exact hr
theorem ev_bi {b : Bi} {as : List Ex} {vs : List V} {r : Res V} (h : evs Γ C C' lk as s = .ok vs s1) (hr : biR Γ C' lk b vs s1 = r) : ev Γ C C' lk (.bi b as) s = r := by
  rw [ev, h]; exact hr
theorem evs_cons {e : Ex} {es : List Ex} {v : V} {vs : List V} (h : ev Γ C C' lk e s = .ok v s1) (hs : evs Γ C C' (lks v ++ lk) es s1 = .ok vs s2) : evs Γ C C' lk (e :: es) s = .ok (v :: vs) s2 := by
  rw [evs, h]; show (evs Γ C C' (lks v ++ lk) es s1).bind _ = _; rw [hs]; rfl
theorem ev_call {f : Nat} {as : List Ex} {ks : List Nat} {vs : List V} {r : Res V} (h : evs Γ C C' lk as s = .ok vs s1) (ha : argsOk' vs = true) (hr : callB Γ C lk f (vs.map parOf) ks s1 = r) : ev Γ C C' lk (.call f as ks) s = r := by
  rw [ev, h]; show (if argsOk' vs = true then _ else _) = _; rw [if_pos ha]; exact hr
theorem ev_comp {e : Ex} {g : Tg} {it : Ex} {c : Option Ex} {x : V} {xs ys : List T} (h : ev Γ C C' lk it s = .ok x s1) (hi : itemsR Γ x.2 s1 = some xs)
    (hc : compL (lks x ++ lk) g (fun s => evc Γ C C' (lks x ++ lk) c s) (fun s => ev Γ C C' (lks x ++ lk) e s) xs [] s1 = .ok ys s2) : ev Γ C C' lk (.comp e g it c) s = okO (.lst ys) s2 := by
  rw [ev, h]; show optR (itemsR Γ x.2 s1) _ = _; rw [hi]; show noExc (Res.bind _ _) = _; rw [hc]; rfl
/-- a call: the callee's answer at the caller's slots -/
theorem callB_ok {f : Nat} {fd : Fn} {as l : List (Mo × T)} {ks : List Nat} {v : V} {s' : S} (hf : Γ.fn f = some fd) (hb : bindArgs fd as ks = some l) (hc : C f l s.hp (lk.filter Pl.isFd) = .ok v s') : callB Γ C lk f as ks s = .ok v { s with hp := s'.hp } := by
  unfold callB
  rw [hf]
  dsimp only
  rw [hb]
  dsimp only
  unfold callR
  rw [hc]
/-- a def, by its body -/
theorem callN_ret {n f : Nat} {fd : Fn} {as : List (Mo × T)} {hp : List Bx} {v : V} (hf : Γ.fn f = some fd) (h : execs Γ (callN Γ (n + 1)) (callN Γ n) lk fd.body ⟨as.map some ++ List.replicate (fd.nl - as.length) none, hp⟩ = .ok (.ret v) s) :
    callN Γ (n + 2) f as hp lk = .ok v s := by
  show (match Γ.fn f with
    | some fd => (execs Γ (callN Γ (n + 1)) (callN Γ n) lk fd.body ⟨as.map some ++ List.replicate (fd.nl - as.length) none, hp⟩).bind fun r s =>
      match r with
      | .nx => .ok (.fro, .non) s
      | .ret v => .ok v s
      | _ => .no
    | none => .no : Res V) = _
  rw [hf]
  dsimp only
  rw [h]; rfl
theorem callN_nx {n f : Nat} {fd : Fn} {as : List (Mo × T)} {hp : List Bx} (hf : Γ.fn f = some fd) (h : execs Γ (callN Γ (n + 1)) (callN Γ n) lk fd.body ⟨as.map some ++ List.replicate (fd.nl - as.length) none, hp⟩ = .ok .nx s) :
    callN Γ (n + 2) f as hp lk = .ok (.fro, .non) s := by
  show (match Γ.fn f with
    | some fd => (execs Γ (callN Γ (n + 1)) (callN Γ n) lk fd.body ⟨as.map some ++ List.replicate (fd.nl - as.length) none, hp⟩).bind fun r s =>
      match r with
      | .nx => .ok (.fro, .non) s
      | .ret v => .ok v s
      | _ => .no
    | none => .no : Res V) = _
  rw [hf]
  dsimp only
  rw [h]; rfl
/-! ### loops -/
theorem forL_nil {g : Tg} {body : S → Res Fl} : forL lk g body [] s = .ok .nx s := rfl
theorem forL_cons {g : Tg} {body : S → Res Fl} {x : T} {xs : List T} {r : Res Fl} (hb : bindTg lk g (.fro, x) s = some s1) (h : body s1 = .ok .nx s2 ∨ body s1 = .ok .cont s2) (hr : forL lk g body xs s2 = r) : forL lk g body (x :: xs) s = r := by
  unfold forL
  rw [hb]
  show (body s1).bind _ = _
  rcases h with h | h <;> (rw [h]; exact hr)
theorem forL_ret {g : Tg} {body : S → Res Fl} {x : T} {xs : List T} {v : V} (hb : bindTg lk g (.fro, x) s = some s1) (h : body s1 = .ok (.ret v) s2) : forL lk g body (x :: xs) s = .ok (.ret v) s2 := by
  unfold forL
  rw [hb]
  show (body s1).bind _ = _
  rw [h]; rfl
/-- a loop that never ends early: what holds at each turn -/
theorem forL_inv {g : Tg} {body : S → Res Fl} (I : Nat → S → Prop) {xs : List T} (step : ∀ i x s, xs[i]? = some x → I i s → ∃ s1 s2, bindTg lk g (.fro, x) s = some s1 ∧ (body s1 = .ok .nx s2 ∨ body s1 = .ok .cont s2) ∧ I (i + 1) s2) (h0 : I 0 s) :
    ∃ s', forL lk g body xs s = .ok .nx s' ∧ I xs.length s' := by
  have key : ∀ (k : Nat) (ys : List T) (s : S), xs.drop k = ys → I k s → ∃ s', forL lk g body ys s = .ok .nx s' ∧ I (k + ys.length) s' := by
    intro k ys
    induction ys generalizing k with
    | nil => exact fun s _ h => ⟨s, rfl, h⟩
    | cons y ys ih =>
      intro s hd hI
      have hy : xs[k]? = some y := by
        have := congrArg List.head? hd
        rw [List.head?_drop] at this
        exact this
      obtain ⟨s1, s2, hb, h, hI2⟩ := step k y s hy hI
      have hd2 : xs.drop (k + 1) = ys := by rw [← List.drop_drop, hd]; rfl
      obtain ⟨s', h1, h2⟩ := ih (k + 1) s2 hd2 hI2
      refine ⟨s', forL_cons hb h h1, ?_⟩
      rw [List.length_cons, Nat.add_comm ys.length 1, ← Nat.add_assoc]
      exact h2
  obtain ⟨s', h1, h2⟩ := key 0 xs s rfl h0
  exact ⟨s', h1, by rw [Nat.zero_add] at h2; exact h2⟩
/-- a comprehension whose test and element leave all as it is -/
theorem compL_pure {g : Tg} {test : S → Res Bool} {elt : S → Res V} (p : T → Bool) (f : T → T) {S0 : S} : ∀ {xs : List T} {acc : List T} {s : S}, wipe g s = S0 →
    (∀ x ∈ xs, ∃ s1, bindTg lk g (.fro, x) S0 = some s1 ∧ wipe g s1 = S0 ∧ test s1 = .ok (p x) s1 ∧ (p x = true → ∃ m, elt s1 = .ok (m, f x) s1 ∧ m.sto = true)) →
    compL lk g test elt xs acc s = .ok (acc ++ (xs.filter p).map f) S0
  | [], acc, s, hw, _ => by
    show Res.ok acc (wipe g s) = _
    rw [hw]; simp
  | x :: xs, acc, s, hw, h => by
    obtain ⟨s1, hb, hw1, ht, he⟩ := h x List.mem_cons_self
    unfold compL
    rw [hw, hb]
    show (test s1).bind _ = _
    rw [ht]
    show (if p x = true then _ else _) = _
    cases hp : p x with
    | true =>
      obtain ⟨m, h1, h2⟩ := he hp
      rw [if_pos rfl, h1]
      show (if m.sto = true then _ else _) = _
      rw [if_pos h2, compL_pure p f hw1 fun y hy => h y (List.mem_cons_of_mem _ hy), List.filter_cons, hp]
      simp
    | false =>
      rw [if_neg (by decide), compL_pure p f hw1 fun y hy => h y (List.mem_cons_of_mem _ hy), List.filter_cons, hp]
      simp
end
end Mi
namespace Mi
section
variable {Γ : Gm} {C C' : CallF} {lk : List Pl} {s s1 s2 s3 : S}
theorem idx_nat {n k : Nat} (h : k < n) : idx n (k : Int) = some k := by
  unfold idx
  rw [if_pos (by omega), if_pos (by omega)]
  simp
theorem sub_lst {xs : List T} {k : Nat} {t : T} {m m' : Md} {b : Bool} (h : xs[k]? = some t) : subR Γ C' lk (m, .lst xs) (m', .int (k : Nat)) b s = okF t s := by
  have hk : k < xs.length := (List.getElem?_eq_some_iff.mp h).1
  unfold subR
  dsimp only
  rw [idx_nat hk]
  show optR xs[k]? _ = _
  rw [h]; rfl
theorem sub_tup {xs : List T} {k : Nat} {t : T} {m m' : Md} {b : Bool} (h : xs[k]? = some t) : subR Γ C' lk (m, .tup xs) (m', .int (k : Nat)) b s = okF t s := by
  have hk : k < xs.length := (List.getElem?_eq_some_iff.mp h).1
  unfold subR
  dsimp only
  rw [idx_nat hk]
  show optR xs[k]? _ = _
  rw [h]; rfl
theorem bin_mul {i j : Int} {m m' : Md} (h : (-(2 ^ 64) < j ∧ j < 2 ^ 64) ∨ (-(2 ^ 64) < i ∧ i < 2 ^ 64)) : binR Γ C' lk .mul (m, .int i) (m', .int j) s = okF (.int (i * j)) s := by
  unfold binR
  dsimp only
  rw [show opI .mul i j = some (i * j) from if_pos h]
theorem bin_mod {i j : Int} {m m' : Md} (h : 0 < j) : binR Γ C' lk .mod (m, .int i) (m', .int j) s = okF (.int (i % j)) s := by
  unfold binR
  dsimp only
  rw [show opI .mod i j = some (i % j) from if_pos h]
theorem bin_fdiv {i j : Int} {m m' : Md} (h : 0 < j ∧ j < 1073741824) : binR Γ C' lk .fdiv (m, .int i) (m', .int j) s = okF (.int (i / j)) s := by
  unfold binR
  dsimp only
  rw [show opI .fdiv i j = some (i / j) from if_pos h]
end
end Mi
namespace Mi
section
variable {Γ : Gm} {C C' : CallF} {lk : List Pl} {s s1 s2 s3 : S}
theorem rd_sl {i : Nat} {t : T} (hl : lk.contains (.sl i) = false) (h : s.loc[i]? = some (some (.own, t))) : rdPl lk (.sl i) s = some t := by
  unfold rdPl
  rw [hl]
  simp only [Bool.false_eq_true, if_false]
  rw [h]
theorem rd_own {i : Nat} {t : T} (hc : isCont t = true) (h : s.loc[i]? = some (some (.own, t))) : ev Γ C C' lk (.var i true) s = .ok (.bor (some (.sl i)), t) s := by
  rw [ev]
  unfold rdVar
  rw [h]
  dsimp only
  rw [hc]; rfl
theorem exec_app {i : Nat} {e : Ex} {v : V} {xs0 xs : List T} (hl : lk.contains (.sl i) = false) (h0 : s.loc[i]? = some (some (.own, .lst xs0))) (h : ev Γ C C' (.sl i :: lk) e s = .ok v s1) (h1 : s1.loc[i]? = some (some (.own, .lst xs))) (hs : v.1.sto = true) (hz : xs.length < szL) :
    exec Γ C C' lk (.app (.sl i) e) s = .ok .nx { s1 with loc := s1.loc.set i (some (.own, .lst (xs ++ [v.2]))) } := by
  rw [exec, show ev Γ C C' lk (paE (.sl i)) s = _ from rd_own (t := .lst xs0) rfl h0]
  have e1 : ((Res.ok ((.bor (some (.sl i)), .lst xs0) : V) s).bind fun x s1 => if plOk lk x then (match x.2 with
      | .lst _ => (ev Γ C C' (lks x ++ lk) e s1).bind fun v s2 => match rdPl lk (plOf x) s2 with
        | some (.lst xs) => if v.1.sto && decide (xs.length < szL) then .ok .nx (wrPl (plOf x) (.lst (xs ++ [v.2])) s2) else .no
        | _ => .no
      | _ => .no) else .no : Res Fl) = (if (!lk.contains (.sl i) && true) then (ev Γ C C' (.sl i :: lk) e s).bind fun v s2 => match rdPl lk (.sl i) s2 with
        | some (.lst xs) => if v.1.sto && decide (xs.length < szL) then .ok .nx (wrPl (.sl i) (.lst (xs ++ [v.2])) s2) else .no
        | _ => .no else .no) := rfl
  refine e1.trans ?_
  rw [hl, h]
  show (match rdPl lk (.sl i) s1 with
      | some (.lst xs) => if v.1.sto && decide (xs.length < szL) then .ok .nx (wrPl (.sl i) (.lst (xs ++ [v.2])) s1) else .no
      | _ => .no : Res Fl) = _
  rw [rd_sl hl h1]
  dsimp only
  rw [if_pos (by rw [hs, decide_eq_true hz]; rfl)]
  rfl
theorem bind_slot {i : Nat} {v : V} (hl : lk.contains (.sl i) = false) (hv : v.1.isPl = false) : bindTg lk (.one i) v s = some { s with loc := s.loc.set i (some (v.1.slot, v.2)) } := by
  unfold bindTg
  dsimp only
  rw [hl, hv]; rfl
end
end Mi
namespace Mi
section
variable {Γ : Gm} {C C' : CallF} {lk : List Pl} {s s1 s2 s3 : S}
theorem boolsOf_map {α : Type} (q : α → Bool) : ∀ xs : List α, boolsOf (xs.map fun w => T.bl (q w)) = some (xs.map q)
  | [] => rfl
  | x :: xs => by
    show (boolsOf (xs.map fun w => T.bl (q w))).map (q x :: ·) = _
    rw [boolsOf_map q xs]; rfl
theorem ev_any {e : Ex} {α : Type} {q : α → Bool} {xs : List α} {md : Md} (h : ev Γ C C' lk e s = .ok (md, .lst (xs.map fun w => T.bl (q w))) s1) : ev Γ C C' lk (.bi .any [e]) s = okF (.bl (xs.any q)) s1 := by
  refine ev_bi (evs_cons h rfl) ?_
  unfold biR
  dsimp only
  rw [boolsOf_map]
  show okF (.bl ((xs.map q).any id)) s1 = _
  rw [List.any_map]; rfl
theorem ev_all {e : Ex} {α : Type} {q : α → Bool} {xs : List α} {md : Md} (h : ev Γ C C' lk e s = .ok (md, .lst (xs.map fun w => T.bl (q w))) s1) : ev Γ C C' lk (.bi .all [e]) s = okF (.bl (xs.all q)) s1 := by
  refine ev_bi (evs_cons h rfl) ?_
  unfold biR
  dsimp only
  rw [boolsOf_map]
  show okF (.bl ((xs.map q).all id)) s1 = _
  rw [List.all_map]; rfl
theorem items_tup {xs : List T} (h : xs.length ≤ szL) : itemsR Γ (.tup xs) s = some xs := if_pos h
theorem cmp_in {x : T} {ys : List T} {m m' : Md} (h1 : x.data = true) (h2 : T.datas ys = true) : cmpR Γ C' lk .isin (m, x) (m', .tup ys) s = okF (.bl (x.isIn ys)) s := by
  unfold cmpR inR
  dsimp only
  rw [h1, h2]; rfl
theorem cmp_inL {x : T} {ys : List T} {m m' : Md} (h1 : x.data = true) (h2 : T.datas ys = true) : cmpR Γ C' lk .isin (m, x) (m', .lst ys) s = okF (.bl (x.isIn ys)) s := by
  unfold cmpR inR
  dsimp only
  rw [h1, h2]; rfl
/-- no slot is locked -/
def Un (lk : List Pl) : Prop := ∀ i, lk.contains (.sl i) = false
theorem un_nil : Un [] := fun _ => rfl
theorem un_fd (lk : List Pl) : Un (lk.filter Pl.isFd) := fun i => by
  rw [Bool.eq_false_iff]
  intro h
  have := List.contains_iff_mem.mp h
  rw [List.mem_filter] at this
  cases this.2
theorem un_fro {t : T} (h : Un lk) : Un (lks (.fro, t) ++ lk) := by
  have : lks (.fro, t) = [] := by unfold lks; split <;> rfl
  rw [this]; exact h
end
end Mi
namespace Mi
section
variable {Γ : Gm} {C C' : CallF} {lk : List Pl} {s s1 s2 s3 : S}
theorem hp_last {hp : List Bx} {b : Bx} : (hp ++ [b])[hp.length]? = some b := by rw [List.getElem?_append_right (Nat.le_refl _), Nat.sub_self]; rfl
theorem hp_set {hp : List Bx} {b c : Bx} : (hp ++ [b]).set hp.length c = hp ++ [c] := by
  rw [List.set_append_right _ _ (Nat.le_refl _), Nat.sub_self]; rfl
/-- x.f = e -/
theorem exec_setf {o e : Ex} {f n : Nat} {v : V} {m : Md} {bx : Bx} (he : ev Γ C C' lk e s = .ok v s1) (ho : ev Γ C C' lk o s1 = .ok (m, .box n) s2) (hs : v.1.sto = true) (hb : s2.hp[n]? = some bx) (hst : Γ.setr bx.cls f = none) (hc : bx.cls ≠ 0) (hl : lk.contains (.fd n f) = false) (hn : bx.fs.length < 900) :
    exec Γ C C' lk (.setf o f e) s = .ok .nx (setBx n { bx with fs := fput f (v.1 == .own, v.2) bx.fs } s2) := by
  have e1 : exec Γ C C' lk (.setf o f e) s = (ev Γ C C' lk e s).bind fun v s1 => (ev Γ C C' lk o s1).bind fun x s2 => if !v.1.sto then .no else match x.2 with
    | .box n => match s2.hp[n]? with
      | some bx => match Γ.setr bx.cls f with
        | some g => (callR C' lk g [(.fro, .box n), parOf v] s2).bind fun _ s3 => .ok .nx s3
        | none => if bx.cls = 0 then .no else nxR (wrFld lk n f v s2)
      | none => .no
    | _ => .no := by rw [exec] <;> rfl
  rw [e1, he]
  show (ev Γ C C' lk o s1).bind _ = _
  rw [ho]
  show (if (!v.1.sto) = true then (Res.no : Res Fl) else match s2.hp[n]? with
      | some bx => match Γ.setr bx.cls f with
        | some g => (callR C' lk g [(.fro, .box n), parOf v] s2).bind fun _ s3 => .ok .nx s3
        | none => if bx.cls = 0 then .no else nxR (wrFld lk n f v s2)
      | none => .no) = _
  rw [hs, if_neg (by decide), hb]
  dsimp only
  rw [hst]
  dsimp only
  rw [if_neg hc]
  unfold wrFld
  rw [hs, hl, hb]
  dsimp only
  rw [if_pos hn]
  rfl
/-- reading a field that holds a frozen thing -/
theorem rd_fro {n f : Nat} {b : Bool} {bx : Bx} {t : T} (hb : s.hp[n]? = some bx) (hf : fget f bx.fs = some (false, t)) : rdFld lk n f b s = okF t s := by
  unfold rdFld
  rw [hb]
  dsimp only
  rw [hf]
theorem att_fro {n f : Nat} {b : Bool} {bx : Bx} {t : T} (hb : s.hp[n]? = some bx) (hc : bx.cls ≠ 0) (hp : Γ.prop bx.cls f = none) (hf : fget f bx.fs = some (false, t)) : attR Γ C' lk (.box n) f b s = okF t s := by
  unfold attR
  dsimp only
  rw [hb]
  dsimp only
  rw [if_neg hc, hp]
  exact rd_fro hb hf
theorem att_prop {n f g : Nat} {b : Bool} {bx : Bx} {v : V} {s' : S} (hb : s.hp[n]? = some bx) (hc : bx.cls ≠ 0) (hp : Γ.prop bx.cls f = some g) (h : C' g [(.fro, .box n)] s.hp (lk.filter Pl.isFd) = .ok v s') : attR Γ C' lk (.box n) f b s = .ok v { s with hp := s'.hp } := by
  unfold attR
  dsimp only
  rw [hb]
  dsimp only
  rw [if_neg hc, hp]
  dsimp only
  unfold callR
  rw [h]; rfl
/-- C(..), its __init__ -/
theorem make_ok {c f : Nat} {fd : Fn} {as l : List (Mo × T)} {md : Md} {s' : S} (hm : Γ.meth c 0 = some f) (hf : Γ.fn f = some fd) (hb : bindArgs fd ((.fro, .box s.hp.length) :: as) [] = some l) (h : C' f l (s.hp ++ [{ cls := c, fs := [] }]) (lk.filter Pl.isFd) = .ok (md, .non) s') :
    makeR Γ C' lk c as s = okF (.box s.hp.length) { s with hp := s'.hp } := by
  unfold makeR
  rw [hm]
  dsimp only
  rw [callB_ok (s := { s with hp := s.hp ++ [{ cls := c, fs := [] }] }) hf hb h]
  rfl
end
end Mi
namespace Mi
theorem bindS {fd : Fn} {a : Mo × T} {ws : List T} (hs : fd.star = true) (hk : fd.kw = []) (hp : fd.ps.length = 1) (hz : ws.length < 1000) : bindArgs fd (a :: ws.map fun w => (.fro, w)) [] = some [a, (.fro, .tup ws)] := by
  have e2 : (ws.map fun w => (Mo.fro, w)).all (fun p => p.1 == .fro) = true := by
    rw [List.all_eq_true]
    intro p hp
    obtain ⟨w, _, rfl⟩ := List.mem_map.mp hp
    rfl
  have e3 : (ws.map fun w => (Mo.fro, w)).map (·.2) = ws := by rw [List.map_map]; exact List.map_id ws
  unfold bindArgs
  simp only [List.length_nil, Nat.sub_zero, List.take_length, hs, if_true, hp, hk]
  have e4 : List.drop 1 (a :: ws.map fun w => (Mo.fro, w)) = ws.map fun w => (Mo.fro, w) := rfl
  have e5 : List.take 1 (a :: ws.map fun w => (Mo.fro, w)) = [a] := rfl
  have e6 : (a :: ws.map fun w => (Mo.fro, w)).length = ws.length + 1 := by rw [List.length_cons, List.length_map]
  rw [e4, e5, e6, e2, e3, decide_eq_true (show 1 ≤ ws.length + 1 by omega), decide_eq_true (show ws.length + 1 ≤ 1000 by omega)]
  rfl
end Mi

namespace Mi
open PySem
abbrev n_Lineage___init__ : Nat := 102903198601637537535651498928383549536
abbrev n_Lineage_classes : Nat := 401965619537646630999778826971801204
abbrev n_Lineage_line_up : Nat := 401965619537646631002308858825700977
abbrev n_Lineage_around : Nat := 1570178201318932152340713024417637
abbrev n_Lineage_is_below : Nat := 102903198601637537536377693321573527672
abbrev n_Lineage_joined_base : Nat := 1726429190030570920957106640123602684621255782
abbrev n_Lineage_link : Nat := 23959017964461245000500014956
abbrev n__law_digits : Nat := 116573433084600805644465524
abbrev n__law_name : Nat := 1778769425729549659750
abbrev n__law_up : Nat := 27141867458033265
abbrev n__law_joins : Nat := 455364972986747767648116
abbrev n__law_same : Nat := 1778769425729633545830
abbrev n__law_due : Nat := 6948318069255403110
abbrev n__law_try : Nat := 6948318069256450938
abbrev n_law : Nat := 7168632
abbrev n_Lineage : Nat := 21790599898359910
abbrev n_AccessError : Nat := 80263192799913396107702387
abbrev n_Unknown : Nat := 24329359513909359
abbrev n_Taken : Nat := 366723491439
abbrev n_Joined : Nat := 82946194105957
abbrev n_outer_by : Nat := 8103793662382596986
abbrev n_bases_by : Nat := 7161414340860470138
abbrev n_line_up : Nat := 30797799152973425
abbrev n_joined_base : Nat := 129885931126933385663116390
abbrev n_link : Nat := 1835691884
abbrev n_classes : Nat := 28267767299073652
abbrev n_is_below : Nat := 7670862045355274360
abbrev n_inside : Nat := 117026927043942
abbrev n_bases : Nat := 426853557876
abbrev n_ups : Nat := 7762292
abbrev n_order : Nat := 482972362355
abbrev n_around : Nat := 108247947571045
abbrev n_ValueError : Nat := 412661552533132826341491
abbrev n_self : Nat := 1952869735
abbrev n_name : Nat := 1868721766
abbrev n_lower : Nat := 470038374003
abbrev n_upper : Nat := 508709398131
abbrev n__law_script : Nat := 116573433084617272733626741
abbrev n__law_at : Nat := 27141867458028149
abbrev n__law_sizes : Nat := 455364972986786322802292
abbrev n__law_start : Nat := 455364972986786505716597
abbrev n__law_k : Nat := 106022919757932
abbrev n__law_world : Nat := 455364972986803602812261
abbrev n__law_name_here : Nat := 1955777666722077882735563534398310
abbrev n__law_ups : Nat := 6948318069256515956
abbrev n__law_up_here : Nat := 29842798869662598981791150950
abbrev n__law_actual : Nat := 116573433084597481558663789
abbrev n__law_due_here : Nat := 7639756510632401774173237965670
abbrev n__law_outer : Nat := 455364972986769343866483
abbrev n__law_line : Nat := 1778769425729516629862
def fn_Lineage___init__ : Fn :=
  { ps := [n_self], nd := [], star := false, kw := [], nl := 1,
    body := [
      (.setf (.var 0 true) n_outer_by (.dct [])),
      (.setf (.var 0 true) n_bases_by (.dct []))] }
def fn_Lineage_classes : Fn :=
  { ps := [n_self], nd := [], star := false, kw := [], nl := 1,
    body := [
      (.ret (.bi .list [(.att (.var 0 true) n_bases_by true)]))] }
def fn_Lineage_line_up : Fn :=
  { ps := [n_self, n_name], nd := [], star := false, kw := [], nl := 5,
    body := [
      (.set (.one 2) (.lst [])),
      (.set (.one 3) (.lst [(.var 1 false)])),
      (.whl (.var 3 true) [(.pops 4 3), (.app (.sl 2) (.var 4 false)), (.set (.one 3) (.bin .add (.var 3 true) (.bi .list [(.rev (.sub (.att (.var 0 true) n_bases_by true) (.var 4 true) true))])))]),
      (.ret (.mv 2))] }
def fn_Lineage_around : Fn :=
  { ps := [n_self, n_name], nd := [], star := false, kw := [], nl := 3,
    body := [
      (.set (.one 2) (.lst [])),
      (.whl (.cmp .notn (.var 1 true) (.cst .non)) [(.app (.sl 2) (.var 1 false)), (.set (.one 1) (.sub (.att (.var 0 true) n_outer_by true) (.var 1 true) false))]),
      (.ret (.mv 2))] }
def fn_Lineage_is_below : Fn :=
  { ps := [n_self, n_lower, n_upper], nd := [], star := false, kw := [], nl := 3,
    body := [
      (.ret (.cmp .isin (.var 2 true) (.meth (.var 0 true) n_line_up [(.var 1 true)] [])))] }
def fn_Lineage_joined_base : Fn :=
  { ps := [n_self, n_bases], nd := [], star := false, kw := [], nl := 6,
    body := [
      (.set (.one 2) (.lst [])),
      (.for_ (.one 3) (.var 1 true) [(.set (.one 4) (.meth (.var 0 true) n_line_up [(.var 3 true)] [])), (.ite (.bi .any [(.comp (.cmp .isin (.var 5 true) (.var 2 true)) (.one 5) (.var 4 true) none)]) [(.ret (.mv 3))] []), (.set (.one 2) (.bin .add (.var 2 true) (.var 4 true)))]),
      (.ret (.cst .non))] }
def fn_Lineage_link : Fn :=
  { ps := [n_self, n_name], nd := [], star := false, kw := [(n_inside, (some .non)), (n_bases, (some (.tup [])))], nl := 6,
    body := [
      (.ite (.cmp .isin (.var 1 true) (.att (.var 0 true) n_bases_by true)) [(.rai n_Taken [(.cst .non), (.var 1 false)])] []),
      (.ite (.and (.cmp .notn (.var 2 true) (.cst .non)) (.cmp .notin (.var 2 true) (.att (.var 0 true) n_bases_by true))) [(.rai n_Unknown [(.cst .non), (.var 2 false)])] []),
      (.for_ (.one 4) (.var 3 true) [(.ite (.cmp .notin (.var 4 true) (.att (.var 0 true) n_bases_by true)) [(.rai n_Unknown [(.cst .non), (.var 4 false)])] [])]),
      (.set (.one 5) (.meth (.var 0 true) n_joined_base [(.var 3 true)] [])),
      (.ite (.cmp .notn (.var 5 true) (.cst .non)) [(.rai n_Joined [(.cst .non), (.var 5 false)])] []),
      (.seti (.at (.var 0 true) n_outer_by) (.var 1 false) (.var 2 false)),
      (.seti (.at (.var 0 true) n_bases_by) (.var 1 false) (.bi .tuple [(.var 3 true)]))] }
def fn__law_digits : Fn :=
  { ps := [n__law_script, n__law_at, n__law_sizes], nd := [], star := false, kw := [], nl := 8,
    body := [
      (.set (.one 3) (.cst (.int (0)))),
      (.ite (.cmp .lt (.var 1 true) (.bi .len [(.var 0 true)])) [(.set (.one 3) (.sub (.var 0 true) (.var 1 true) false))] []),
      (.set (.one 4) (.cmp .ge (.var 3 true) (.cst (.int (1000000000000000000))))),
      (.set (.one 5) (.lst [])),
      (.for_ (.one 6) (.bi .range [(.bi .len [(.var 2 true)])]) [(.set (.one 7) (.bin .mod (.bi .int [(.bin .add (.bin .add (.bin .add (.bin .mul (.var 3 true) (.cst (.int (48271)))) (.bin .mul (.var 1 true) (.cst (.int (1009))))) (.bin .mul (.var 6 true) (.cst (.int (69621))))) (.cst (.int (5))))]) (.cst (.int (2147483647))))), (.set (.one 7) (.bin .fdiv (.bin .mod (.bi .int [(.bin .add (.bin .add (.bin .mul (.var 7 true) (.var 7 true)) (.var 3 true)) (.bin .mul (.var 6 true) (.cst (.int (7919)))))]) (.cst (.int (2147483629)))) (.cst (.int (7))))), (.ite (.var 4 true) [(.set (.one 7) (.var 3 false)), (.set (.one 3) (.bin .fdiv (.var 3 true) (.sub (.var 2 true) (.var 6 true) true)))] []), (.app (.sl 5) (.bin .mod (.bi .int [(.var 7 true)]) (.sub (.var 2 true) (.var 6 true) true)))]),
      (.ret (.mv 5))] }
def fn__law_name : Fn :=
  { ps := [n__law_start, n__law_k], nd := [], star := false, kw := [], nl := 3,
    body := [
      (.set (.one 2) (.lst [(.cst (.str 98)), (.cst (.str 25395)), (.cst (.str 6578787)), (.cst (.str 101)), (.cst (.str 26161)), (.cst (.str 6779001)), (.cst (.str 26728)), (.cst (.str 26930)), (.cst (.str 6972518)), (.cst (.str 107)), (.cst (.str 1818914160)), (.cst (.str 28016)), (.cst (.str 7237230)), (.cst (.str 28474)), (.cst (.str 7365228)), (.cst (.str 113)), (.cst (.str 29240))])),
      (.set (.one 2) (.bin .add (.var 2 true) (.lst [(.cst (.str 29555)), (.cst (.str 116)), (.cst (.str 7694959)), (.cst (.str 49)), (.cst (.str 119)), (.cst (.str 7889529)), (.cst (.str 30449688725782084748946664557)), (.cst (.str 8021620)), (.cst (.str 8073584))]))),
      (.ret (.sub (.var 2 true) (.bin .mod (.bi .int [(.bin .add (.var 0 true) (.bin .mul (.cst (.int (7))) (.var 1 true)))]) (.cst (.int (26)))) false))] }
def fn__law_up : Fn :=
  { ps := [n__law_world, n__law_name_here], nd := [], star := false, kw := [], nl := 4,
    body := [
      (.set (.one 2) (.lst [(.var 1 false)])),
      (.set (.one 3) (.cst (.int (0)))),
      (.whl (.cmp .lt (.var 3 true) (.bi .len [(.var 2 true)])) [(.set (.one 2) (.bin .add (.var 2 true) (.sub (.sub (.var 0 true) (.cst (.str 7762292)) true) (.sub (.var 2 true) (.var 3 true) true) true))), (.set (.one 3) (.bin .add (.var 3 true) (.cst (.int (1)))))]),
      (.ret (.mv 2))] }
def fn__law_joins : Fn :=
  { ps := [n__law_world, n__law_ups, n__law_up_here], nd := [], star := false, kw := [], nl := 6,
    body := [
      (.set (.one 3) (.call n__law_up [(.var 0 true), (.var 2 true)] [])),
      (.for_ (.one 4) (.var 1 true) [(.ite (.cmp .gt (.bi .len [(.comp (.var 5 false) (.one 5) (.call n__law_up [(.var 0 true), (.var 4 true)] []) (some (.cmp .isin (.var 5 true) (.var 3 true))))]) (.cst (.int (0)))) [(.ret (.cst (.bl true)))] [])]),
      (.ret (.cst (.bl false)))] }
def fn__law_same : Fn :=
  { ps := [n__law_actual, n__law_due_here], nd := [], star := false, kw := [], nl := 3,
    body := [
      (.ite (.cmp .isn (.var 1 true) (.cst .non)) [(.ret (.cmp .isn (.var 0 true) (.cst .non)))] []),
      (.ite (.isi (.var 1 true) .bool) [(.ret (.and (.isi (.var 0 true) .bool) (.cmp .eq (.var 0 true) (.var 1 true))))] []),
      (.ite (.isi (.var 1 true) .int) [(.ret (.and (.isi (.var 0 true) .int) (.and (.not (.isi (.var 0 true) .bool)) (.cmp .eq (.var 0 true) (.var 1 true)))))] []),
      (.ite (.isi (.var 1 true) .str) [(.ret (.and (.isi (.var 0 true) .str) (.cmp .eq (.var 0 true) (.var 1 true))))] []),
      (.ite (.and (.isi (.var 1 true) .tuple) (.not (.isi (.var 0 true) .tuple))) [(.ret (.cst (.bl false)))] []),
      (.ite (.and (.isi (.var 1 true) .list) (.not (.isi (.var 0 true) .list))) [(.ret (.cst (.bl false)))] []),
      (.ite (.cmp .ne (.bi .len [(.var 0 true)]) (.bi .len [(.var 1 true)])) [(.ret (.cst (.bl false)))] []),
      (.for_ (.one 2) (.bi .range [(.bi .len [(.var 1 true)])]) [(.ite (.not (.call n__law_same [(.sub (.var 0 true) (.var 2 true) false), (.sub (.var 1 true) (.var 2 true) false)] [])) [(.ret (.cst (.bl false)))] [])]),
      (.ret (.cst (.bl true)))] }
def fn__law_due : Fn :=
  { ps := [n__law_world, n__law_name_here, n__law_outer, n__law_ups], nd := [], star := false, kw := [], nl := 6,
    body := [
      (.ite (.cmp .isin (.var 1 true) (.sub (.var 0 true) (.cst (.str 482972362355)) true)) [(.ret (.tup [(.cst (.str 366723491439)), (.cst .non), (.var 1 false)]))] []),
      (.ite (.and (.cmp .notn (.var 2 true) (.cst .non)) (.cmp .notin (.var 2 true) (.sub (.var 0 true) (.cst (.str 482972362355)) true))) [(.ret (.tup [(.cst (.str 24329359513909359)), (.cst .non), (.var 2 false)]))] []),
      (.for_ (.one 4) (.var 3 true) [(.ite (.cmp .notin (.var 4 true) (.sub (.var 0 true) (.cst (.str 482972362355)) true)) [(.ret (.tup [(.cst (.str 24329359513909359)), (.cst .non), (.var 4 false)]))] [])]),
      (.for_ (.one 5) (.bi .range [(.bi .len [(.var 3 true)])]) [(.ite (.call n__law_joins [(.var 0 true), (.slc (.var 3 true) none (some (.var 5 true))), (.sub (.var 3 true) (.var 5 true) false)] []) [(.ret (.tup [(.cst (.str 82946194105957)), (.cst .non), (.sub (.var 3 true) (.var 5 true) false)]))] [])]),
      (.ret (.cst (.str 422607939173)))] }
def fn__law_try : Fn :=
  { ps := [n__law_line, n__law_name_here, n__law_outer, n__law_ups], nd := [], star := false, kw := [], nl := 5,
    body := [
      (.tr [(.exp (.meth (.var 0 true) n_link [(.var 1 true), (.var 2 true), (.bi .tuple [(.var 3 true)])] [n_inside, n_bases]))] (.cons n_Taken (some 4) [(.ret (.tup [(.cst (.str 366723491439)), (.xf 4 1), (.xf 4 2)]))] (.cons n_Unknown (some 4) [(.ret (.tup [(.cst (.str 24329359513909359)), (.xf 4 1), (.xf 4 2)]))] (.cons n_Joined (some 4) [(.ret (.tup [(.cst (.str 82946194105957)), (.xf 4 1), (.xf 4 2)]))] .nil)))),
      (.ret (.cst (.str 422607939173)))] }
def fn_law : Fn :=
  { ps := [n__law_script], nd := [], star := false, kw := [], nl := 14,
    body := [
      (.set (.one 1) (.call n__law_digits [(.var 0 true), (.cst (.int (0))), (.lst [(.cst (.int (10))), (.cst (.int (26)))])] [])),
      (.set (.one 2) (.make n_Lineage [])),
      (.set (.one 3) (.boxd [7762292, 482972362355] [(.dct []), (.lst [])])),
      (.for_ (.one 4) (.bi .range [(.sub (.var 1 true) (.cst (.int (0))) true)]) [(.set (.one 5) (.call n__law_digits [(.var 0 true), (.bin .add (.cst (.int (1))) (.var 4 true)), (.lst [(.cst (.int (10))), (.cst (.int (4))), (.cst (.int (10))), (.cst (.int (4))), (.cst (.int (10))), (.cst (.int (10))), (.cst (.int (10))), (.cst (.int (8)))])] [])), (.set (.one 6) (.call n__law_name [(.sub (.var 1 true) (.cst (.int (1))) false), (.sub (.var 5 true) (.cst (.int (0))) false)] [])), (.set (.one 7) (.cst .non)), (.ite (.cmp .eq (.sub (.var 5 true) (.cst (.int (1))) true) (.cst (.int (0)))) [(.set (.one 7) (.call n__law_name [(.sub (.var 1 true) (.cst (.int (1))) false), (.sub (.var 5 true) (.cst (.int (2))) false)] []))] []), (.set (.one 8) (.comp (.call n__law_name [(.sub (.var 1 true) (.cst (.int (1))) false), (.var 12 true)] []) (.one 12) (.slc (.var 5 true) (some (.cst (.int (4)))) (some (.bin .add (.cst (.int (4))) (.sub (.var 5 true) (.cst (.int (3))) true)))) none)), (.ite (.cmp .gt (.sub (.var 5 true) (.cst (.int (7))) true) (.cst (.int (1)))) [(.set (.one 8) (.comp (.var 13 false) (.one 13) (.var 8 true) (some (.cmp .isin (.var 13 true) (.sub (.var 3 true) (.cst (.str 482972362355)) true)))))] []), (.set (.one 9) (.call n__law_due [(.var 3 true), (.var 6 true), (.var 7 true), (.var 8 true)] [])), (.ite (.not (.call n__law_same [(.call n__law_try [(.var 2 true), (.var 6 true), (.var 7 true), (.var 8 true)] []), (.var 9 true)] [])) [(.ret (.cst (.bl false)))] []), (.ite (.cmp .eq (.var 9 true) (.cst (.str 422607939173))) [(.app (.ix (.var 3 true) (.cst (.str 482972362355))) (.var 6 false)), (.seti (.ix (.var 3 true) (.cst (.str 7762292))) (.var 6 false) (.var 8 false))] []), (.ite (.not (.callc n__law_same [(.att (.var 2 true) n_classes true), (.sub (.var 3 true) (.cst (.str 482972362355)) true)])) [(.ret (.cst (.bl false)))] []), (.for_ (.one 10) (.sub (.var 3 true) (.cst (.str 482972362355)) true) [(.for_ (.one 11) (.sub (.var 3 true) (.cst (.str 482972362355)) true) [(.ite (.not (.call n__law_same [(.meth (.var 2 true) n_is_below [(.var 10 true), (.var 11 true)] []), (.cmp .isin (.var 11 true) (.call n__law_up [(.var 3 true), (.var 10 true)] []))] [])) [(.ret (.cst (.bl false)))] [])])])]),
      (.ret (.cst (.bl true)))] }
def tab : Tab := {
    fns := [(n_Lineage___init__, fn_Lineage___init__), (n_Lineage_classes, fn_Lineage_classes), (n_Lineage_line_up, fn_Lineage_line_up), (n_Lineage_around, fn_Lineage_around), (n_Lineage_is_below, fn_Lineage_is_below), (n_Lineage_joined_base, fn_Lineage_joined_base), (n_Lineage_link, fn_Lineage_link), (n__law_digits, fn__law_digits), (n__law_name, fn__law_name), (n__law_up, fn__law_up), (n__law_joins, fn__law_joins), (n__law_same, fn__law_same), (n__law_due, fn__law_due), (n__law_try, fn__law_try), (n_law, fn_law)],
    meths := [((n_Lineage, 0), n_Lineage___init__), ((n_Lineage, n_line_up), n_Lineage_line_up), ((n_Lineage, n_around), n_Lineage_around), ((n_Lineage, n_is_below), n_Lineage_is_below), ((n_Lineage, n_joined_base), n_Lineage_joined_base), ((n_Lineage, n_link), n_Lineage_link)],
    props := [((n_Lineage, n_classes), n_Lineage_classes)],
    setrs := [],
    iters := [],
    subs := [(n_AccessError, [n_AccessError, n_ValueError]), (n_Unknown, [n_Unknown, n_AccessError, n_ValueError]), (n_Taken, [n_Taken, n_AccessError, n_ValueError]), (n_Joined, [n_Joined, n_AccessError, n_ValueError])],
    ars := [(n_AccessError, 2), (n_Unknown, 2), (n_Taken, 2), (n_Joined, 2)] }
def kc : Kc := {
    N := [], consts := [],
    fns := [("_law_digits", n__law_digits), ("_law_name", n__law_name), ("_law_up", n__law_up), ("_law_joins", n__law_joins), ("_law_same", n__law_same), ("_law_due", n__law_due), ("_law_try", n__law_try), ("law", n_law)],
    clss := [("Lineage", n_Lineage)],
    flds := ["outer_by", "bases_by", "classes"],
    pls := ["outer_by", "bases_by"],
    cms := [],
    sms := [],
    mcs := [n_line_up, n_joined_base, n_link, n_is_below],
    exs := [("AccessError", n_AccessError), ("Unknown", n_Unknown), ("Taken", n_Taken), ("Joined", n_Joined)] }
def ld : Ld := {
    D := kc, tab := tab,
    dfs := [(n_Lineage___init__, .meth "Lineage" "__init__", dnAt PySem.Challenge.pw_whomayname_k11_lineage_refusals 6 (some 0) "Lineage.__init__" ["self"]),
    (n_Lineage_classes, .prop "Lineage" "classes", dnAt PySem.Challenge.pw_whomayname_k11_lineage_refusals 6 (some 1) "Lineage.classes" ["self"]),
    (n_Lineage_line_up, .meth "Lineage" "line_up", dnAt PySem.Challenge.pw_whomayname_k11_lineage_refusals 6 (some 2) "Lineage.line_up" ["self", "name", "line", "waiting", "current"]),
    (n_Lineage_around, .meth "Lineage" "around", dnAt PySem.Challenge.pw_whomayname_k11_lineage_refusals 6 (some 3) "Lineage.around" ["self", "name", "found"]),
    (n_Lineage_is_below, .meth "Lineage" "is_below", dnAt PySem.Challenge.pw_whomayname_k11_lineage_refusals 6 (some 4) "Lineage.is_below" ["self", "lower", "upper"]),
    (n_Lineage_joined_base, .meth "Lineage" "joined_base", dnAt PySem.Challenge.pw_whomayname_k11_lineage_refusals 6 (some 5) "Lineage.joined_base" ["self", "bases", "known", "base", "line", "upper"]),
    (n_Lineage_link, .meth "Lineage" "link", dnAt PySem.Challenge.pw_whomayname_k11_lineage_refusals 6 (some 6) "Lineage.link" ["self", "name", "inside", "bases", "base", "joined"]),
    (n__law_digits, .glo "_law_digits", dnAt PySem.Challenge.pw_whomayname_k11_lineage_refusals 8 none "_law_digits" ["_law_script", "_law_at", "_law_sizes", "_law_cell", "_law_great", "_law_row", "_law_k", "_law_mixed"]),
    (n__law_name, .glo "_law_name", dnAt PySem.Challenge.pw_whomayname_k11_lineage_refusals 9 none "_law_name" ["_law_start", "_law_k", "_law_pool"]),
    (n__law_up, .glo "_law_up", dnAt PySem.Challenge.pw_whomayname_k11_lineage_refusals 10 none "_law_up" ["_law_world", "_law_name_here", "_law_line", "_law_k"]),
    (n__law_joins, .glo "_law_joins", dnAt PySem.Challenge.pw_whomayname_k11_lineage_refusals 11 none "_law_joins" ["_law_world", "_law_ups", "_law_up_here", "_law_line", "_law_other", "_law_upper"]),
    (n__law_same, .glo "_law_same", dnAt PySem.Challenge.pw_whomayname_k11_lineage_refusals 12 none "_law_same" ["_law_actual", "_law_due_here", "_law_k"]),
    (n__law_due, .glo "_law_due", dnAt PySem.Challenge.pw_whomayname_k11_lineage_refusals 13 none "_law_due" ["_law_world", "_law_name_here", "_law_outer", "_law_ups", "_law_up_here", "_law_k"]),
    (n__law_try, .glo "_law_try", dnAt PySem.Challenge.pw_whomayname_k11_lineage_refusals 14 none "_law_try" ["_law_line", "_law_name_here", "_law_outer", "_law_ups", "e"]),
    (n_law, .glo "law", dnAt PySem.Challenge.pw_whomayname_k11_lineage_refusals 15 none "law" ["_law_script", "_law_start", "_law_line", "_law_world", "_law_k", "_law_picks", "_law_name_here", "_law_outer", "_law_ups", "_law_due_here", "_law_lower", "_law_upper", "_law_pick", "_law_up_here"])],
    cls := [(n_Lineage, "Lineage")],
    exs := [(n_AccessError, "AccessError"), (n_Unknown, "Unknown"), (n_Taken, "Taken"), (n_Joined, "Joined")],
    xis := [(n_AccessError, dnAt PySem.Challenge.pw_whomayname_k11_lineage_refusals 1 (some 0) "AccessError.__init__" ["self", "row", "what"]), (n_Unknown, dnAt PySem.Challenge.pw_whomayname_k11_lineage_refusals 1 (some 0) "AccessError.__init__" ["self", "row", "what"]), (n_Taken, dnAt PySem.Challenge.pw_whomayname_k11_lineage_refusals 1 (some 0) "AccessError.__init__" ["self", "row", "what"]), (n_Joined, dnAt PySem.Challenge.pw_whomayname_k11_lineage_refusals 1 (some 0) "AccessError.__init__" ["self", "row", "what"])] }
/-! ### more of loops and comprehensions -/
section
variable {Γ : Gm} {C C' : CallF} {lk : List Pl} {s s1 s2 s3 : S}
theorem ev_comp0 {e : Ex} {g : Tg} {it : Ex} {c : Option Ex} {x : V} {xs ys : List T} (h : ev Γ C C' lk it s = .ok x s1) (hl : lks x = []) (hi : itemsR Γ x.2 s1 = some xs)
    (hc : compL lk g (fun s => evc Γ C C' lk c s) (fun s => ev Γ C C' lk e s) xs [] s1 = .ok ys s2) : ev Γ C C' lk (.comp e g it c) s = .ok (.own, .lst ys) s2 := ev_comp h hi (by rw [hl]; exact hc)
theorem ev_cmp0 {o : Co} {a b : Ex} {x y : V} {r : Res V} (ha : ev Γ C C' lk a s = .ok x s1) (hl : lks x = []) (hb : ev Γ C C' lk b s1 = .ok y s2) (h : cmpR Γ C' lk o x y s2 = r) : ev Γ C C' lk (.cmp o a b) s = r := ev_cmp ha (by rw [hl]; exact hb) (by rw [hl]; exact h)
theorem evs_cons0 {e : Ex} {es : List Ex} {v : V} {vs : List V} (h : ev Γ C C' lk e s = .ok v s1) (hl : lks v = []) (hs : evs Γ C C' lk es s1 = .ok vs s2) : evs Γ C C' lk (e :: es) s = .ok (v :: vs) s2 := evs_cons h (by rw [hl]; exact hs)
/-- a parameter that is read -/
theorem ev_par {k : Nat} {b : Bool} {m : Mo} {t : T} (hm : m = .fro ∨ m = .bor) (hk : s.loc[k]? = some (some (m, t))) : ∃ md, ev Γ C C' lk (.var k b) s = .ok (md, t) s ∧ lks (md, t) = [] ∧ (md.par = .fro ∨ md.par = .bor) ∧ argOk (md, t) = true := by
  rcases hm with rfl | rfl
  · refine ⟨.fro, ?_, ?_, .inl rfl, rfl⟩
    · rw [ev]; unfold rdVar; rw [hk]; rfl
    · unfold lks; split <;> rfl
  · refine ⟨fmd t (.bor none), ?_, ?_, ?_, ?_⟩
    · rw [ev]; unfold rdVar; rw [hk]
    · unfold lks fmd; split <;> rfl
    · unfold fmd; split; exact .inr rfl; exact .inl rfl
    · unfold fmd; split <;> rfl
/-- a comprehension over a mapped list whose test and element leave all as it is -/
theorem compL_map {α : Type} (h : α → T) {g : Tg} {test : S → Res Bool} {elt : S → Res V} (p : α → Bool) (f : α → T) {S0 : S} : ∀ {R : List α} {acc : List T} {s : S}, wipe g s = S0 →
    (∀ r ∈ R, ∃ s1, bindTg lk g (.fro, h r) S0 = some s1 ∧ wipe g s1 = S0 ∧ test s1 = .ok (p r) s1 ∧ (p r = true → ∃ m, elt s1 = .ok (m, f r) s1 ∧ m.sto = true)) →
    compL lk g test elt (R.map h) acc s = .ok (acc ++ (R.filter p).map f) S0
  | [], acc, s, hw, _ => by
    show Res.ok acc (wipe g s) = _
    rw [hw]; simp
  | x :: xs, acc, s, hw, hh => by
    obtain ⟨s1, hb, hw1, ht, he⟩ := hh x List.mem_cons_self
    rw [List.map_cons]
    unfold compL
    rw [hw, hb]
    show (test s1).bind _ = _
    rw [ht]
    show (if p x = true then _ else _) = _
    cases hp : p x with
    | true =>
      obtain ⟨m, h1, h2⟩ := he hp
      rw [if_pos rfl, h1]
      show (if m.sto = true then _ else _) = _
      rw [if_pos h2, compL_map h p f hw1 fun y hy => hh y (List.mem_cons_of_mem _ hy), List.filter_cons, hp]
      simp
    | false =>
      rw [if_neg (by decide), compL_map h p f hw1 fun y hy => hh y (List.mem_cons_of_mem _ hy), List.filter_cons, hp]
      simp
theorem compL_all {α : Type} (h : α → T) {g : Tg} {elt : S → Res V} (f : α → T) {S0 : S} {R : List α} {s : S} (hw : wipe g s = S0)
    (hh : ∀ r ∈ R, ∃ s1 m, bindTg lk g (.fro, h r) S0 = some s1 ∧ wipe g s1 = S0 ∧ elt s1 = .ok (m, f r) s1 ∧ m.sto = true) :
    compL lk g (fun s => evc Γ C C' lk none s) elt (R.map h) [] s = .ok (R.map f) S0 := by
  have := compL_map (lk := lk) (acc := []) h (test := fun s => evc Γ C C' lk none s) (elt := elt) (fun _ => true) f hw fun r hr => by
    obtain ⟨s1, m, h1, h2, h3, h4⟩ := hh r hr
    exact ⟨s1, h1, h2, rfl, fun _ => ⟨m, h3, h4⟩⟩
  rw [this, List.nil_append, List.filter_eq_self.mpr (fun _ _ => rfl)]
/-- a comprehension whose elements put new boxes behind the heap -/
theorem compL_new {α : Type} (h : α → T) {g : Tg} {elt : S → Res V} (P : α → T → List Bx → Prop) (hP : ∀ r t hp q, P r t hp → P r t (hp ++ q)) (St : List Bx → S) :
    ∀ (R : List α) (acc : List T) (hp : List Bx) (s : S), wipe g s = St hp →
    (∀ r ∈ R, ∀ hp, ∃ s1 s2 m t q, bindTg lk g (.fro, h r) (St hp) = some s1 ∧ elt s1 = .ok (m, t) s2 ∧ m.sto = true ∧ wipe g s2 = St (hp ++ q) ∧ P r t (hp ++ q)) →
    ∃ ts q, compL lk g (fun s => evc Γ C C' lk none s) elt (R.map h) acc s = .ok (acc ++ ts) (St (hp ++ q)) ∧ ts.length = R.length ∧ ∀ (i : Nat) (r : α) (t : T), R[i]? = some r → ts[i]? = some t → P r t (hp ++ q)
  | [], acc, hp, s, hw, _ => ⟨[], [], by
    show Res.ok acc (wipe g s) = _
    rw [hw]; simp, rfl, fun i r t h1 h2 => by simp at h1⟩
  | x :: xs, acc, hp, s, hw, hh => by
    obtain ⟨s1, s2, m, t, q, h1, h2, h3, h4, h5⟩ := hh x List.mem_cons_self hp
    obtain ⟨ts, q', h6, h7, h8⟩ := compL_new h (elt := elt) P hP St xs (acc ++ [t]) (hp ++ q) s2 h4 fun r hr => hh r (List.mem_cons_of_mem _ hr)
    refine ⟨t :: ts, q ++ q', ?_, by rw [List.length_cons, h7, List.length_cons], ?_⟩
    · rw [List.map_cons]
      unfold compL
      rw [hw, h1]
      show (elt s1).bind _ = _
      rw [h2]
      show (if m.sto = true then _ else _) = _
      rw [if_pos h3, h6, List.append_assoc, List.append_assoc]; rfl
    · rw [← List.append_assoc]
      intro i r u hr hu
      cases i with
      | zero =>
        obtain rfl : x = r := by simpa using hr
        obtain rfl : t = u := by simpa using hu
        exact hP _ _ _ _ h5
      | succ i => exact h8 i r u hr hu
/-- a loop that ends with False at the first one that fails -/
theorem forL_all {α : Type} (h : α → T) {g : Tg} {body : S → Res Fl} (I : S → Prop) (q : α → Bool) {v : V} :
    ∀ (R : List α) (s : S), I s → (∀ r ∈ R, ∀ s, I s → ∃ s1 s2, bindTg lk g (.fro, h r) s = some s1 ∧ body s1 = .ok (if q r then .nx else .ret v) s2 ∧ I s2) →
    ∃ s', forL lk g body (R.map h) s = .ok (if R.all q then .nx else .ret v) s' ∧ I s'
  | [], s, hI, _ => ⟨s, rfl, hI⟩
  | r :: R, s, hI, hh => by
    obtain ⟨s1, s2, h1, h2, h3⟩ := hh r List.mem_cons_self s hI
    cases hq : q r with
    | true =>
      rw [hq] at h2
      obtain ⟨s', h4, h5⟩ := forL_all h (body := body) I q R s2 h3 fun r' hr => hh r' (List.mem_cons_of_mem _ hr)
      refine ⟨s', ?_, h5⟩
      rw [List.map_cons, List.all_cons, hq, Bool.true_and]
      exact forL_cons h1 (.inl h2) h4
    | false =>
      rw [hq] at h2
      refine ⟨s2, ?_, h3⟩
      rw [List.map_cons, List.all_cons, hq, Bool.false_and]
      exact forL_ret h1 h2
theorem evc_of {Γ : Gm} {C C' : CallF} {lk : List Pl} {s s1 : S} {c : Ex} {m : Md} {b : Bool} (h : ev Γ C C' lk c s = .ok (m, .bl b) s1) : evc Γ C C' lk (some c) s = .ok b s1 := by
  unfold evc
  rw [h]; rfl
theorem ev_at {Γ : Gm} {C C' : CallF} {lk : List Pl} {s : S} {i k : Nat} {b : Bool} {ls : List T} {t : T} (hi : s.loc[i]? = some (some (.own, .lst ls))) (hk : ls[k]? = some t) : ev Γ C C' lk (.sub (.var i true) (.cst (.int k)) b) s = .ok (.fro, t) s := by
  have e : ev Γ C C' lk (.var i true) s = .ok (.bor (some (.sl i)), .lst ls) s := by rw [ev]; unfold rdVar; rw [hi]; rfl
  refine ev_sub (x := (.bor (some (.sl i)), .lst ls)) (y := (.fro, .int k)) (s1 := s) (s2 := s) e (by rw [ev]; rfl) ?_
  exact sub_lst hk
theorem ev_range {e : Ex} {m : Md} {i : Int} (he : ev Γ C C' lk e s = .ok (m, .int i) s1) (h : 0 ≤ i ∧ i < 1000) : ev Γ C C' lk (.bi .range [e]) s = .ok (.own, .lst ((List.range i.toNat).map fun k => T.int (k : Nat))) s1 := by
  refine ev_bi (evs_cons he rfl) ?_
  unfold biR
  dsimp only
  rw [if_pos (by omega)]; rfl
theorem ev_atv {i j k : Nat} {b c : Bool} {mo : Mo} {ls : List T} {t : T} (hi : s.loc[i]? = some (some (mo, .lst ls))) (hm : mo = .own ∨ mo = .fro) (hj : s.loc[j]? = some (some (.fro, .int (k : Nat)))) (hk : ls[k]? = some t) : ev Γ C C' lk (.sub (.var i true) (.var j c) b) s = .ok (.fro, t) s := by
  have hv : ∀ lk', ev Γ C C' lk' (.var j c) s = .ok (.fro, .int (k : Nat)) s := fun lk' => by rw [ev]; unfold rdVar; rw [hj]; rfl
  rcases hm with rfl | rfl
  · exact ev_sub (rd_own rfl hi) (hv _) (sub_lst hk)
  · refine ev_sub (x := (.fro, .lst ls)) (s1 := s) ?_ (hv _) (sub_lst hk)
    rw [ev]; unfold rdVar; rw [hi]; rfl
theorem ev_addL {a b : Ex} {m1 m2 : Md} {xs ys : List T} (ha : ev Γ C C' lk a s = .ok (m1, .lst xs) s1) (hl : lks (m1, .lst xs) = []) (hb : ev Γ C C' lk b s1 = .ok (m2, .lst ys) s2) (hz : xs.length + ys.length ≤ 1000) : ev Γ C C' lk (.bin .add a b) s = .ok (.own, .lst (xs ++ ys)) s2 := by
  refine ev_bin ha (by rw [hl]; exact hb) ?_
  unfold binR
  dsimp only
  rw [if_pos ⟨rfl, by unfold szL; omega⟩]; rfl
/-- if c: return False -/
theorem exec_ifF {c : Ex} {m : Md} {b : Bool} (h : ev Γ C C' lk c s = .ok (m, .bl b) s1) : exec Γ C C' lk (.ite c [.ret (.cst (.bl false))] []) s = .ok (if !b then .nx else .ret (.fro, .bl false)) s1 := by
  refine exec_ite h rfl ?_
  cases b <;> rfl
end
/-! ### digits -/
/-- one digit -/
def digV (at_ k : Nat) (cell : Int) (gr : Bool) (z : Int) : Int :=
  (if gr then cell else ((cell * 48271 + (at_ : Int) * 1009 + (k : Int) * 69621 + 5) % 2147483647 * ((cell * 48271 + (at_ : Int) * 1009 + (k : Int) * 69621 + 5) % 2147483647) + cell + (k : Int) * 7919) % 2147483629 / 7) % z
def digF (at_ : Nat) (gr : Bool) : Nat → Int → List Int → List Int
  | _, _, [] => []
  | k, cell, z :: zs => digV at_ k cell gr z :: digF at_ gr (k + 1) (if gr then cell / z else cell) zs
def cell0 (ns : List Int) (at_ : Nat) : Int := (ns[at_]?).getD 0
def digs (ns : List Int) (at_ : Nat) (sz : List Int) : List Int := digF at_ (decide ((1000000000000000000 : Int) ≤ cell0 ns at_)) 0 (cell0 ns at_) sz
theorem digF_len {at_ : Nat} {gr : Bool} : ∀ {k : Nat} {cell : Int} {sz : List Int}, (digF at_ gr k cell sz).length = sz.length
  | _, _, [] => rfl
  | _, _, _ :: _ => congrArg (· + 1) digF_len
theorem digF_rng {at_ : Nat} {gr : Bool} : ∀ {k : Nat} {cell : Int} {sz : List Int} {i : Nat} {d z : Int}, (∀ z ∈ sz, 0 < z) → (digF at_ gr k cell sz)[i]? = some d → sz[i]? = some z → 0 ≤ d ∧ d < z
  | _, _, [], _, _, _, _, h, _ => by simp [digF] at h
  | k, cell, y :: ys, 0, d, z, hz, h, h' => by
    simp [digF] at h h'
    subst h h'
    have := hz y List.mem_cons_self
    exact ⟨Int.emod_nonneg _ (by omega), Int.emod_lt_of_pos _ this⟩
  | k, cell, y :: ys, i + 1, d, z, hz, h, h' => digF_rng (fun w hw => hz w (List.mem_cons_of_mem _ hw)) (by simpa [digF] using h) (by simpa using h')
theorem digs_len {ns : List Int} {at_ : Nat} {sz : List Int} : (digs ns at_ sz).length = sz.length := digF_len
theorem digs_rng {ns : List Int} {at_ : Nat} {sz : List Int} {i : Nat} {d z : Int} (hz : ∀ z ∈ sz, 0 < z) (h : (digs ns at_ sz)[i]? = some d) (h' : sz[i]? = some z) : 0 ≤ d ∧ d < z := digF_rng hz h h'
def digBody : List Sm := match fn__law_digits.body with
  | [_, _, _, _, .for_ _ _ b, _] => b
  | _ => []
def digSt (ns : List Int) (at_ : Nat) (sz : List Int) (cell : Int) (gr : Bool) (acc : List Int) (x6 x7 : Option (Mo × T)) (hp : List Bx) : S :=
  ⟨[some (.fro, .lst (ns.map .int)), some (.fro, .int at_), some (.fro, .lst (sz.map .int)), some (.fro, .int cell), some (.fro, .bl gr), some (.own, .lst (acc.map .int)), x6, x7], hp⟩
theorem dig_turn {Γ : Gm} {C C' : CallF} {lk : List Pl} {ns sz acc : List Int} {at_ k : Nat} {cell z : Int} {gr : Bool} {x7 : Option (Mo × T)} {hp : List Bx} (hl : ∀ i, lk.contains (.sl i) = false) (hk : sz[k]? = some z) (hz : 0 < z ∧ z < 1073741824) (ha : acc.length < 1000) :
    ∃ x7', execs Γ C C' lk digBody (digSt ns at_ sz cell gr acc (some (.fro, .int k)) x7 hp) = .ok .nx (digSt ns at_ sz (if gr then cell / z else cell) gr (acc ++ [digV at_ k cell gr z]) (some (.fro, .int k)) x7' hp) := by
  have hk' : (sz.map T.int)[k]? = some (.int z) := by rw [List.getElem?_map, hk]; rfl
  have fr : ∀ i (v : V) (s : S), v.1.isPl = false → bindTg lk (.one i) v s = some { s with loc := s.loc.set i (some (v.1.slot, v.2)) } := fun i v s hv => by
    unfold bindTg
    dsimp only
    rw [hl, hv]; rfl
  obtain ⟨m1, hm1⟩ : ∃ m1, m1 = (cell * 48271 + (at_ : Int) * 1009 + (k : Int) * 69621 + 5) % 2147483647 := ⟨_, rfl⟩
  have b1 : 0 ≤ m1 ∧ m1 < 2147483647 := by rw [hm1]; exact ⟨Int.emod_nonneg _ (by decide), Int.emod_lt_of_pos _ (by decide)⟩
  obtain ⟨m2, hm2⟩ : ∃ m2, m2 = (m1 * m1 + cell + (k : Int) * 7919) % 2147483629 / 7 := ⟨_, rfl⟩
  have hV : digV at_ k cell gr z = (if gr then cell else m2) % z := by rw [hm2, hm1]; rfl
  rw [hV]
  refine ⟨some (.fro, .int (if gr then cell else m2)), ?_⟩
  refine execs_cons (s1 := digSt ns at_ sz cell gr acc (some (.fro, .int k)) (some (.fro, .int m1)) hp) (exec_set (v := (.fro, .int m1)) (s1 := digSt ns at_ sz cell gr acc (some (.fro, .int k)) x7 hp) (by rw [hm1]; rfl) (fr _ _ _ rfl)) ?_
  refine execs_cons (s1 := digSt ns at_ sz cell gr acc (some (.fro, .int k)) (some (.fro, .int m2)) hp) (exec_set (v := (.fro, .int m2)) (s1 := digSt ns at_ sz cell gr acc (some (.fro, .int k)) (some (.fro, .int m1)) hp) ?_ (fr _ _ _ rfl)) ?_
  · rw [hm2]
    refine ev_bin (ev_bin (ev_bi (evs_cons (ev_bin (ev_bin (ev_bin rfl rfl (bin_mul (.inl ⟨by omega, by omega⟩))) rfl rfl) rfl rfl) rfl) rfl) rfl rfl) rfl rfl
  have fin : ∀ (cell' v : Int), exec Γ C C' lk (.app (.sl 5) (.bin .mod (.bi .int [(.var 7 true)]) (.sub (.var 2 true) (.var 6 true) true))) (digSt ns at_ sz cell' gr acc (some (.fro, .int k)) (some (.fro, .int v)) hp) =
      .ok .nx (digSt ns at_ sz cell' gr (acc ++ [v % z]) (some (.fro, .int k)) (some (.fro, .int v)) hp) := fun cell' v => by
    have := exec_app (Γ := Γ) (C := C) (C' := C') (lk := lk) (i := 5) (s := digSt ns at_ sz cell' gr acc (some (.fro, .int k)) (some (.fro, .int v)) hp) (hl 5) rfl (ev_bin (a := .bi .int [(.var 7 true)]) rfl (ev_sub (a := .var 2 true) (b := .var 6 true) (q := true) rfl rfl (sub_lst hk')) (bin_mod (m := .fro) (m' := .fro) (i := v) hz.1)) rfl rfl (by rw [List.length_map]; unfold szL; omega)
    rw [this]
    show Res.ok Fl.nx (S.mk [_, _, _, _, _, some (Mo.own, T.lst (acc.map .int ++ [T.int (v % z)])), _, _] hp) = _
    unfold digSt
    rw [List.map_append]
    rfl
  cases gr with
  | true =>
    refine execs_cons (s1 := digSt ns at_ sz (cell / z) true acc (some (.fro, .int k)) (some (.fro, .int cell)) hp) (exec_ite rfl rfl ?_) (execs_cons (fin (cell / z) cell) rfl)
    refine execs_cons (s1 := digSt ns at_ sz cell true acc (some (.fro, .int k)) (some (.fro, .int cell)) hp) (exec_set rfl (fr _ _ _ rfl)) ?_
    exact execs_cons (s1 := digSt ns at_ sz (cell / z) true acc (some (.fro, .int k)) (some (.fro, .int cell)) hp) (exec_set (ev_bin rfl (ev_sub rfl rfl (sub_lst hk')) (bin_fdiv hz)) (fr _ _ _ rfl)) rfl
  | false => exact execs_cons (exec_ite rfl rfl rfl) (execs_cons (fin cell m2) rfl)
theorem digits_eq {Γ : Gm} (hΓ : Γ.fn n__law_digits = some fn__law_digits) {n : Nat} {ns sz : List Int} {at_ : Nat} {hp : List Bx} {lk : List Pl} (hl : ∀ i, lk.contains (.sl i) = false) (hz : ∀ z ∈ sz, 0 < z ∧ z < 1073741824) (hn : sz.length ≤ 1000) :
    ∃ l : List (Option (Mo × T)), callN Γ (n + 2) n__law_digits [(.fro, .lst (ns.map .int)), (.fro, .int at_), (.fro, .lst (sz.map .int))] hp lk = .ok (.own, .lst ((digs ns at_ sz).map .int)) ⟨l, hp⟩ := by
  let C := callN Γ (n + 1)
  let C' := callN Γ n
  have start : ∀ r, execs Γ C C' lk (fn__law_digits.body.drop 2) ⟨[some (.fro, .lst (ns.map .int)), some (.fro, .int at_), some (.fro, .lst (sz.map .int)), some (.fro, .int (cell0 ns at_)), none, none, none, none], hp⟩ = r →
      execs Γ C C' lk fn__law_digits.body ⟨[some (.fro, .lst (ns.map .int)), some (.fro, .int at_), some (.fro, .lst (sz.map .int)), none, none, none, none, none], hp⟩ = r := by
    have go : ∀ (cell : Int), exec Γ C C' lk (.ite (.cmp .lt (.var 1 true) (.bi .len [(.var 0 true)])) [(.set (.one 3) (.sub (.var 0 true) (.var 1 true) false))] []) ⟨[some (.fro, .lst (ns.map .int)), some (.fro, .int at_), some (.fro, .lst (sz.map .int)), some (.fro, .int 0), none, none, none, none], hp⟩ =
        .ok .nx ⟨[some (.fro, .lst (ns.map .int)), some (.fro, .int at_), some (.fro, .lst (sz.map .int)), some (.fro, .int cell), none, none, none, none], hp⟩ →
        ∀ r, execs Γ C C' lk (fn__law_digits.body.drop 2) ⟨[some (.fro, .lst (ns.map .int)), some (.fro, .int at_), some (.fro, .lst (sz.map .int)), some (.fro, .int cell), none, none, none, none], hp⟩ = r →
          execs Γ C C' lk fn__law_digits.body ⟨[some (.fro, .lst (ns.map .int)), some (.fro, .int at_), some (.fro, .lst (sz.map .int)), none, none, none, none, none], hp⟩ = r :=
      fun cell h r hr => execs_cons (exec_set rfl (bind_slot (hl 3) rfl)) (execs_cons h hr)
    by_cases hc : at_ < ns.length
    · have e : cell0 ns at_ = ns[at_] := by unfold cell0; rw [List.getElem?_eq_getElem hc]; rfl
      rw [e]
      refine go _ (exec_ite (v := (.fro, .bl (decide ((at_ : Int) < ((ns.map T.int).length : Int))))) (t := true) rfl (by rw [List.length_map, decide_eq_true (by omega)]; rfl) ?_)
      exact execs_cons (exec_set (ev_sub rfl rfl (sub_lst (t := .int ns[at_]) (by rw [List.getElem?_map, List.getElem?_eq_getElem hc]; rfl))) (bind_slot (hl 3) rfl)) rfl
    · have e : cell0 ns at_ = 0 := by unfold cell0; rw [List.getElem?_eq_none (by omega)]; rfl
      rw [e]
      exact go _ (exec_ite (v := (.fro, .bl (decide ((at_ : Int) < ((ns.map T.int).length : Int))))) (t := false) rfl (by rw [List.length_map, decide_eq_false (by omega)]; rfl) rfl)
  have loop : ∀ (zs : List Int) (k : Nat) (acc : List Int) (cell : Int) (x6 x7 : Option (Mo × T)) (gr : Bool), sz.drop k = zs → acc.length = k →
      ∃ (cell' : Int) (x6' x7' : Option (Mo × T)), forL lk (.one 6) (fun s => execs Γ C C' lk digBody s) ((List.range' k zs.length).map fun (k : Nat) => T.int (k : Nat)) (digSt ns at_ sz cell gr acc x6 x7 hp) = .ok .nx (digSt ns at_ sz cell' gr (acc ++ digF at_ gr k cell zs) x6' x7' hp) := by
    intro zs
    induction zs with
    | nil => exact fun k acc cell x6 x7 gr _ _ => ⟨cell, x6, x7, by rw [show digF at_ gr k cell [] = [] from rfl, List.append_nil]; rfl⟩
    | cons z zs ih =>
      intro k acc cell x6 x7 gr hd ha
      have hk : sz[k]? = some z := by
        have := congrArg List.head? hd
        rw [List.head?_drop] at this
        exact this
      have hlt : k < sz.length := (List.getElem?_eq_some_iff.mp hk).1
      obtain ⟨x7', he⟩ := dig_turn (Γ := Γ) (C := C) (C' := C') (lk := lk) (ns := ns) (at_ := at_) (cell := cell) (gr := gr) (x7 := x7) (hp := hp) hl hk (hz _ (List.mem_of_getElem? hk)) (show acc.length < 1000 by omega)
      obtain ⟨cell2, y6, y7, q1⟩ := ih (k + 1) (acc ++ [digV at_ k cell gr z]) (if gr then cell / z else cell) (some (.fro, .int k)) x7' gr (by rw [← List.drop_drop, hd]; rfl) (by rw [List.length_append, ha]; rfl)
      rw [List.append_assoc] at q1
      rw [List.length_cons, List.range'_succ]
      exact ⟨cell2, y6, y7, forL_cons (bind_slot (hl 6) rfl) (.inl he) q1⟩
  obtain ⟨cell', x6, x7, q1⟩ := loop sz 0 [] (cell0 ns at_) none none (decide ((1000000000000000000 : Int) ≤ cell0 ns at_)) rfl rfl
  rw [List.nil_append, ← List.range_eq_range'] at q1
  have fin : execs Γ C C' lk (fn__law_digits.body.drop 2) ⟨[some (.fro, .lst (ns.map .int)), some (.fro, .int at_), some (.fro, .lst (sz.map .int)), some (.fro, .int (cell0 ns at_)), none, none, none, none], hp⟩ =
      .ok (.ret (.own, .lst ((digs ns at_ sz).map .int))) ⟨(digSt ns at_ sz cell' (decide ((1000000000000000000 : Int) ≤ cell0 ns at_)) (digs ns at_ sz) x6 x7 hp).loc.set 5 none, hp⟩ := by
    refine execs_cons (exec_set (v := (.fro, .bl (decide ((1000000000000000000 : Int) ≤ cell0 ns at_)))) rfl (bind_slot (hl 4) rfl)) ?_
    refine execs_cons (exec_set (v := (.own, .lst [])) rfl (bind_slot (hl 5) rfl)) ?_
    refine execs_cons (s1 := digSt ns at_ sz cell' (decide ((1000000000000000000 : Int) ≤ cell0 ns at_)) (digs ns at_ sz) x6 x7 hp) (exec_for (x := (.own, .lst ((List.range sz.length).map fun (k : Nat) => T.int (k : Nat)))) (xs := (List.range sz.length).map fun (k : Nat) => T.int (k : Nat)) (s1 := digSt ns at_ sz (cell0 ns at_) (decide ((1000000000000000000 : Int) ≤ cell0 ns at_)) [] none none hp) ?_ rfl q1) ?_
    · refine ev_bi (vs := [(.fro, .int (sz.length : Nat))]) (s1 := digSt ns at_ sz (cell0 ns at_) (decide ((1000000000000000000 : Int) ≤ cell0 ns at_)) [] none none hp) (evs_cons (ev_bi (evs_cons rfl rfl) ?_) rfl) ?_
      · show okF (.int ((sz.map T.int).length : Nat)) _ = _
        rw [List.length_map]; rfl
      · unfold biR
        dsimp only
        rw [if_pos (by omega)]
        rfl
    · refine execs_ret (exec_ret (v := (.own, .lst ((digs ns at_ sz).map .int))) ?_ rfl)
      rw [ev]
      show mvVar lk 5 _ = _
      unfold mvVar
      show (if lk.contains (.sl 5) = true then _ else _) = _
      rw [hl]
      rfl
  exact ⟨_, callN_ret (fd := fn__law_digits) hΓ (start _ fin)⟩
/-! ### _law_same -/
mutual
def T.okN : T → Nat → Bool
  | .non, _ => true
  | .bl _, _ => true
  | .int _, _ => true
  | .str _, _ => true
  | .tup xs, n + 1 => decide (xs.length < 16777216) && T.okNs xs n
  | .lst xs, n + 1 => decide (xs.length < 16777216) && T.okNs xs n
  | _, _ => false
def T.okNs : List T → Nat → Bool
  | [], _ => true
  | a :: as, n => a.okN n && T.okNs as n
end
theorem okNs_mem {n : Nat} : ∀ {xs : List T} {t : T}, T.okNs xs n = true → t ∈ xs → t.okN n = true
  | x :: xs, t, h, hm => by
    simp only [T.okNs, Bool.and_eq_true] at h
    rcases List.mem_cons.mp hm with rfl | hm
    · exact h.1
    · exact okNs_mem h.2 hm
/-- the mode of a parameter -/
def Pm (m : Mo) : Prop := m = .fro ∨ m = .bor
def sameLoop : List Sm := match fn__law_same.body with
  | [_, _, _, _, _, _, _, .for_ _ _ b, _] => b
  | _ => []
theorem same_loop {Γ : Gm} {C C' : CallF} {lk : List Pl} (hl : ∀ i, lk.contains (.sl i) = false) {hp : List Bx} {m1 m2 : Mo} (h1 : Pm m1) (h2 : Pm m2) {t : T} {xs : List T} (ht : t = .lst xs ∨ t = .tup xs)
    (hf : ∃ fd, Γ.fn n__law_same = some fd ∧ ∀ a b, bindArgs fd [a, b] [] = some [a, b])
    (hc : ∀ (u : T), u ∈ xs → ∃ l, C n__law_same [(.fro, u), (.fro, u)] hp (lk.filter Pl.isFd) = .ok (.fro, .bl true) ⟨l, hp⟩) :
    ∀ (ks : List Nat) (x : Option (Mo × T)), (∀ k ∈ ks, k < xs.length) → ∃ x', forL lk (.one 2) (fun s => execs Γ C C' lk sameLoop s) (ks.map fun (k : Nat) => T.int (k : Nat)) ⟨[some (m1, t), some (m2, t), x], hp⟩ = .ok .nx ⟨[some (m1, t), some (m2, t), x'], hp⟩
  | [], x, _ => ⟨x, rfl⟩
  | k :: ks, x, h => by
    obtain ⟨fd, hfd, hb⟩ := hf
    have hk : k < xs.length := h k List.mem_cons_self
    have hx : xs[k]? = some xs[k] := List.getElem?_eq_getElem hk
    obtain ⟨l, hcall⟩ := hc xs[k] (List.getElem_mem hk)
    obtain ⟨x', hr⟩ := same_loop hl h1 h2 ht ⟨fd, hfd, hb⟩ hc ks (some (.fro, .int (k : Nat))) (fun j hj => h j (List.mem_cons_of_mem _ hj))
    refine ⟨x', forL_cons (bind_slot (hl 2) rfl) (.inl ?_) hr⟩
    have e1 : ∀ (i : Nat) (m : Mo), Pm m → (⟨[some (m1, t), some (m2, t), some (.fro, .int (k : Nat))], hp⟩ : S).loc[i]? = some (some (m, t)) → ∀ lk', (∀ i, lk'.contains (.sl i) = false) →
        ev Γ C C' lk' (.sub (.var i true) (.var 2 true) false) ⟨[some (m1, t), some (m2, t), some (.fro, .int (k : Nat))], hp⟩ = .ok (.fro, xs[k]) ⟨[some (m1, t), some (m2, t), some (.fro, .int (k : Nat))], hp⟩ := by
      intro i m hm hi lk' hl'
      have hv : ∃ md, ev Γ C C' lk' (.var i true) ⟨[some (m1, t), some (m2, t), some (.fro, .int (k : Nat))], hp⟩ = .ok (md, t) ⟨[some (m1, t), some (m2, t), some (.fro, .int (k : Nat))], hp⟩ := by
        rw [ev]
        unfold rdVar
        rw [hi]
        rcases hm with rfl | rfl
        · exact ⟨_, rfl⟩
        · exact ⟨_, rfl⟩
      obtain ⟨md, hv⟩ := hv
      refine ev_sub hv rfl ?_
      rcases ht with rfl | rfl
      · exact sub_lst hx
      · exact sub_tup hx
    refine execs_cons (exec_ite (t := false) (ev_not (m := .fro) (b := true) (ev_call (vs := [(.fro, xs[k]), (.fro, xs[k])]) (evs_cons (e1 0 m1 h1 rfl lk hl) (evs_cons (e1 1 m2 h2 rfl _ (fun i => ?_)) rfl)) rfl (callB_ok hfd (hb _ _) hcall))) rfl rfl) rfl
    show (lks (Md.fro, xs[k]) ++ lk).contains (.sl i) = false
    have : lks (Md.fro, xs[k]) = [] := by unfold lks; split <;> rfl
    rw [this]
    exact hl i
theorem same_seq {Γ : Gm} (hΓ : Γ.fn n__law_same = some fn__law_same) {d n : Nat} {t : T} {xs : List T} (ht : t = .lst xs ∨ t = .tup xs) (hz : xs.length < 16777216)
    (ih : ∀ u, u ∈ xs → ∀ (hp : List Bx) (lk : List Pl), (∀ i, lk.contains (.sl i) = false) → ∃ l, callN Γ (n + d + 2) n__law_same [(.fro, u), (.fro, u)] hp lk = .ok (.fro, .bl true) ⟨l, hp⟩)
    (hp : List Bx) (lk : List Pl) (m1 m2 : Mo) (hl : ∀ i, lk.contains (.sl i) = false) (h1 : Pm m1) (h2 : Pm m2) : ∃ l, callN Γ (n + (d + 1) + 2) n__law_same [(m1, t), (m2, t)] hp lk = .ok (.fro, .bl true) ⟨l, hp⟩ := by
  have hl' : ∀ i, (lk.filter Pl.isFd).contains (.sl i) = false := fun i => by
    rw [Bool.eq_false_iff]
    intro h
    have := List.contains_iff_mem.mp h
    rw [List.mem_filter] at this
    cases this.2
  obtain ⟨x', hloop⟩ := same_loop (Γ := Γ) (C := callN Γ (n + d + 2)) (C' := callN Γ (n + d + 1)) (lk := lk) hl (hp := hp) h1 h2 ht ⟨_, hΓ, fun a b => rfl⟩ (fun u hu => ih u hu hp _ hl') (List.range xs.length) none (fun k hk => List.mem_range.mp hk)
  have ne : (!((xs.length : Int) == (xs.length : Int))) = false := by rw [beq_self_eq_true]; rfl
  have rg : ∀ (s : S), biR Γ (callN Γ (n + d + 1)) lk .range [(.fro, .int (xs.length : Nat))] s = okO (.lst ((List.range xs.length).map fun (k : Nat) => T.int (k : Nat))) s := fun s => by
    unfold biR
    dsimp only
    rw [if_pos (by omega)]
    rfl
  refine ⟨_, callN_ret (n := n + (d + 1)) (v := (.fro, .bl true)) (s := ⟨[some (m1, t), some (m2, t), x'], hp⟩) hΓ ?_⟩
  rcases ht with rfl | rfl
  · rcases h1 with rfl | rfl <;> rcases h2 with rfl | rfl <;>
      exact execs_cons rfl (execs_cons rfl (execs_cons rfl (execs_cons rfl (execs_cons rfl (execs_cons rfl (execs_cons (exec_ite (v := (.fro, .bl (!((xs.length : Int) == (xs.length : Int))))) (t := false) rfl (by rw [ne]; rfl) rfl) (execs_cons (exec_for (ev_bi (evs_cons rfl rfl) (rg _)) rfl hloop) (execs_ret (exec_ret rfl rfl)))))))))
  · rcases h1 with rfl | rfl <;> rcases h2 with rfl | rfl <;>
      exact execs_cons rfl (execs_cons rfl (execs_cons rfl (execs_cons rfl (execs_cons rfl (execs_cons rfl (execs_cons (exec_ite (v := (.fro, .bl (!((xs.length : Int) == (xs.length : Int))))) (t := false) rfl (by rw [ne]; rfl) rfl) (execs_cons (exec_for (ev_bi (evs_cons rfl rfl) (rg _)) rfl hloop) (execs_ret (exec_ret rfl rfl)))))))))
theorem same_refl {Γ : Gm} (hΓ : Γ.fn n__law_same = some fn__law_same) : ∀ (d : Nat) (t : T), t.okN d = true → ∀ (n : Nat) (hp : List Bx) (lk : List Pl) (m1 m2 : Mo), (∀ i, lk.contains (.sl i) = false) → Pm m1 → Pm m2 →
    ∃ l, callN Γ (n + d + 2) n__law_same [(m1, t), (m2, t)] hp lk = .ok (.fro, .bl true) ⟨l, hp⟩
  | d, .non, h, n, hp, lk, m1, m2, hl, h1, h2 => by
    rcases h1 with rfl | rfl <;> rcases h2 with rfl | rfl <;> exact ⟨_, callN_ret hΓ (execs_ret (exec_ite (t := true) (v := (.fro, .bl true)) rfl rfl (execs_ret (exec_ret (v := (.fro, .bl true)) rfl rfl))))⟩
  | d, .bl b, h, n, hp, lk, m1, m2, hl, h1, h2 => by
    cases b <;> rcases h1 with rfl | rfl <;> rcases h2 with rfl | rfl <;> exact ⟨_, callN_ret (v := (.fro, .bl true)) hΓ rfl⟩
  | d, .int i, h, n, hp, lk, m1, m2, hl, h1, h2 => by
    have e : (i == i) = true := beq_self_eq_true i
    rcases h1 with rfl | rfl <;> rcases h2 with rfl | rfl <;> exact ⟨_, by rw [← e]; exact callN_ret (v := (.fro, .bl (i == i))) hΓ rfl⟩
  | d, .str i, h, n, hp, lk, m1, m2, hl, h1, h2 => by
    have e : (i == i) = true := beq_self_eq_true i
    rcases h1 with rfl | rfl <;> rcases h2 with rfl | rfl <;> exact ⟨_, by rw [← e]; exact callN_ret (v := (.fro, .bl (i == i))) hΓ rfl⟩
  | d + 1, .tup xs, h, n, hp, lk, m1, m2, hl, h1, h2 => by
    simp only [T.okN, Bool.and_eq_true, decide_eq_true_eq] at h
    exact same_seq hΓ (.inr rfl) h.1 (fun u hu hp lk hl => same_refl hΓ d u (okNs_mem h.2 hu) n hp lk .fro .fro hl (.inl rfl) (.inl rfl)) hp lk m1 m2 hl h1 h2
  | d + 1, .lst xs, h, n, hp, lk, m1, m2, hl, h1, h2 => by
    simp only [T.okN, Bool.and_eq_true, decide_eq_true_eq] at h
    exact same_seq hΓ (.inl rfl) h.1 (fun u hu hp lk hl => same_refl hΓ d u (okNs_mem h.2 hu) n hp lk .fro .fro hl (.inl rfl) (.inl rfl)) hp lk m1 m2 hl h1 h2
/-! ### _law_same of equals -/
theorem okNs_of {n : Nat} : ∀ {xs : List T}, (∀ t ∈ xs, t.okN n = true) → T.okNs xs n = true
  | [], _ => rfl
  | x :: xs, h => by
    simp only [T.okNs, Bool.and_eq_true]
    exact ⟨h x List.mem_cons_self, okNs_of fun t ht => h t (List.mem_cons_of_mem _ ht)⟩
theorem par_own (m : Md) : Pm m.par := by cases m; exact .inl rfl; exact .inl rfl; exact .inr rfl
theorem same_ev {Γ : Gm} (hf : Γ.fn n__law_same = some fn__law_same) {m : Nat} {C' : CallF} {s s2 : S} {a b : Ex} {t : T} {ma mb : Md} (ht : t.okN 3 = true) (h : evs Γ (callN Γ (m + 5)) C' [] [a, b] s = .ok [(ma, t), (mb, t)] s2) (hk : argsOk' [(ma, t), (mb, t)] = true) :
    ev Γ (callN Γ (m + 5)) C' [] (.call n__law_same [a, b] []) s = .ok (.fro, .bl true) s2 := by
  obtain ⟨l, hs⟩ := same_refl hf 3 t ht m s2.hp [] ma.par mb.par un_nil (par_own _) (par_own _)
  exact ev_call (vs := [(ma, t), (mb, t)]) (s1 := s2) h hk (callB_ok (s' := ⟨l, s2.hp⟩) (l := [(ma.par, t), (mb.par, t)]) hf rfl hs)
theorem ev_varF {Γ : Gm} {C C' : CallF} {lk : List Pl} {s : S} {k : Nat} {b : Bool} {t : T} (hk : s.loc[k]? = some (some (.fro, t))) : ev Γ C C' lk (.var k b) s = .ok (.fro, t) s := by
  rw [ev]; unfold rdVar; rw [hk]; rfl
/-! ### owned places of boxes; while loops -/
section
variable {Γ : Gm} {C C' : CallF} {lk : List Pl} {s s1 s2 s3 : S}
theorem whileL_dec {test : S → Res Bool} {body : S → Res Fl} (I : Nat → S → Prop) (E : S → Prop)
    (step : ∀ m s, I m s → (∃ s1, test s = .ok false s1 ∧ E s1) ∨ ∃ s1 s2 m', test s = .ok true s1 ∧ body s1 = .ok .nx s2 ∧ m' < m ∧ I m' s2) :
    ∀ (fuel m : Nat) (s : S), m < fuel → I m s → ∃ s', whileL test body fuel s = .ok .nx s' ∧ E s'
  | 0, m, s, h, _ => absurd h (Nat.not_lt_zero _)
  | fuel + 1, m, s, h, hI => by
    rcases step m s hI with ⟨s1, h1, h2⟩ | ⟨s1, s2, m', h1, h2, h3, h4⟩
    · refine ⟨s1, ?_, h2⟩
      show (test s).bind _ = _
      rw [h1]; rfl
    · obtain ⟨s', h5, h6⟩ := whileL_dec I E step fuel m' s2 (by omega) h4
      refine ⟨s', ?_, h6⟩
      show (test s).bind _ = _
      rw [h1]
      show (body s1).bind _ = _
      rw [h2]
      exact h5
theorem exec_whl {c : Ex} {b : List Sm} {r : Res Fl} (h : whileL (fun s => (ev Γ C C' lk c s).bind fun v s1 => optR (truth v.2) fun t => .ok t s1) (fun s => execs Γ C C' lk b s) whileMax s = r) : exec Γ C C' lk (.whl c b) s = r := by
  rw [exec]; exact h
theorem test_of {c : Ex} {v : V} {b : Bool} (h : ev Γ C C' lk c s = .ok v s1) (ht : truth v.2 = some b) : ((ev Γ C C' lk c s).bind fun v s1 => optR (truth v.2) fun t => .ok t s1 : Res Bool) = .ok b s1 := by
  rw [h]; show optR (truth v.2) _ = _; rw [ht]; rfl
/-- p.append(e), p an owned place -/
theorem exec_appP {p : Pa} {e : Ex} {v : V} {pl : Pl} {xs0 xs : List T} (hx : ev Γ C C' lk (paE p) s = .ok (.bor (some pl), .lst xs0) s1) (hl : lk.contains pl = false) (he : ev Γ C C' (pl :: lk) e s1 = .ok v s2) (hr : rdPl lk pl s2 = some (.lst xs)) (hs : v.1.sto = true) (hz : xs.length < szL) :
    exec Γ C C' lk (.app p e) s = .ok .nx (wrPl pl (.lst (xs ++ [v.2])) s2) := by
  rw [exec, hx]
  show (if (!lk.contains pl && true) then (ev Γ C C' (pl :: lk) e s1).bind fun v s2 => match rdPl lk pl s2 with
        | some (.lst xs) => if v.1.sto && decide (xs.length < szL) then .ok .nx (wrPl pl (.lst (xs ++ [v.2])) s2) else .no
        | _ => .no else .no : Res Fl) = _
  rw [hl, he]
  show (match rdPl lk pl s2 with
      | some (.lst xs) => if v.1.sto && decide (xs.length < szL) then .ok .nx (wrPl pl (.lst (xs ++ [v.2])) s2) else .no
      | _ => .no : Res Fl) = _
  rw [hr]
  dsimp only
  rw [if_pos (by rw [hs, decide_eq_true hz]; rfl)]
/-- p[k] = e, p an owned dict -/
theorem exec_setiP {p : Pa} {e k : Ex} {v y : V} {pl : Pl} {kv0 kvs : List (T × T)} (he : ev Γ C C' lk e s = .ok v s1) (hv : v.1.sto = true) (hx : ev Γ C C' lk (paE p) s1 = .ok (.bor (some pl), .dct kv0) s2) (hl : lk.contains pl = false)
    (hk : ev Γ C C' (pl :: lk) k s2 = .ok y s3) (hy : y.1.sto = true) (hyk : y.2.isKey = true) (hr : rdPl lk pl s3 = some (.dct kvs)) (hz : kvs.length < szL) :
    exec Γ C C' lk (.seti p k e) s = .ok .nx (wrPl pl (.dct (T.put y.2 v.2 kvs)) s3) := by
  rw [exec, he]
  show (if !v.1.sto then (.no : Res Fl) else (ev Γ C C' lk (paE p) s1).bind fun x s2 => if plOk lk x then
      (ev Γ C C' (lks x ++ lk) k s2).bind fun y s3 => setPl lk (plOf x) y v s3 else .no) = _
  rw [hv, if_neg (by decide), hx]
  show (if (!lk.contains pl && true) then (ev Γ C C' (pl :: lk) k s2).bind fun y s3 => setPl lk pl y v s3 else .no : Res Fl) = _
  rw [hl, hk]
  show setPl lk pl y v s3 = _
  unfold setPl
  rw [hr]
  dsimp only
  rw [hy, hyk, if_pos (by simpa using hz)]
/-- an owned field: read as borrowed -/
theorem rd_fd {n f : Nat} {bx : Bx} {t : T} (hb : s.hp[n]? = some bx) (hf : fget f bx.fs = some (true, t)) (hc : isCont t = true) : rdFld lk n f true s = .ok (.bor (some (.fd n f)), t) s := by
  unfold rdFld
  rw [hb]
  dsimp only
  rw [hf]
  dsimp only
  rw [hc]; rfl
theorem rp_fd {n f : Nat} {bx : Bx} {t : T} (hl : lk.contains (.fd n f) = false) (hb : s.hp[n]? = some bx) (hf : fget f bx.fs = some (true, t)) : rdPl lk (.fd n f) s = some t := by
  unfold rdPl
  rw [hl]
  simp only [Bool.false_eq_true, if_false]
  rw [hb]
  dsimp only
  rw [hf]
theorem wp_fd {n f : Nat} {bx : Bx} {t : T} (hb : s.hp[n]? = some bx) : wrPl (.fd n f) t s = { s with hp := s.hp.set n { bx with fs := fput f (true, t) bx.fs } } := by
  unfold wrPl
  dsimp only
  rw [hb]; rfl
/-- a field of a box, owned -/
theorem ev_fdO {a n f : Nat} {bx : Bx} {t : T} (ha : s.loc[a]? = some (some (.fro, .box n))) (hb : s.hp[n]? = some bx) (hc0 : bx.cls ≠ 0) (hp : Γ.prop bx.cls f = none) (hf : fget f bx.fs = some (true, t)) (hc : isCont t = true) :
    ev Γ C C' lk (.att (.var a true) f true) s = .ok (.bor (some (.fd n f)), t) s := by
  refine ev_att (ev_varF ha) ?_
  unfold attR
  dsimp only
  rw [hb]
  dsimp only
  rw [if_neg hc0, hp]
  exact rd_fd hb hf hc
/-- an item of a box dict, owned -/
theorem ev_bxO {a n f : Nat} {bx : Bx} {t : T} (ha : s.loc[a]? = some (some (.fro, .box n))) (hb : s.hp[n]? = some bx) (hc0 : bx.cls = 0) (hf : fget f bx.fs = some (true, t)) (hc : isCont t = true) :
    ev Γ C C' lk (.sub (.var a true) (.cst (.str f)) true) s = .ok (.bor (some (.fd n f)), t) s := by
  refine ev_sub (x := (.fro, .box n)) (y := (.fro, .str f)) (s1 := s) (s2 := s) (ev_varF ha) rfl ?_
  unfold subR
  dsimp only
  rw [hb]
  dsimp only
  rw [if_pos hc0]
  exact rd_fd hb hf hc
theorem sub_dctP {k t : T} {kvs : List (T × T)} {m m' : Md} {b : Bool} (hk : k.isKey = true) (h : k.look kvs = some t) (hne : (match k with | .int _ => True | .str _ => True | _ => False)) : subR Γ C' lk (m, .dct kvs) (m', k) b s = okF t s := by
  cases k <;> first | exact hne.elim | (unfold subR; dsimp only; rw [if_pos hk, h]; rfl)
end
/-- what a place's write leaves -/
theorem set_set {α : Type} (l : List α) (n : Nat) (a b : α) : (l.set n a).set n b = l.set n b := by rw [List.set_set]
/-! keys -/
theorem eqv_str (a b : Nat) : (T.str a).eqv (.str b) = (a == b) := by unfold T.eqv; rfl
theorem look_map {key : Nat → Nat} {val : Nat → T} {c : Nat} : ∀ {L : List Nat}, (∀ i ∈ L, key c = key i → c = i) → T.look (.str (key c)) (L.map fun i => (T.str (key i), val i)) = if c ∈ L then some (val c) else none
  | [], _ => rfl
  | i :: L, h => by
    have ih := look_map (val := val) (c := c) (L := L) fun j hj => h j (List.mem_cons_of_mem _ hj)
    show (if (T.str (key c)).eqv (.str (key i)) then some (val i) else T.look (.str (key c)) (L.map fun i => (T.str (key i), val i))) = _
    rw [eqv_str, ih]
    by_cases e : c = i
    · subst e
      rw [if_pos (by simp), if_pos List.mem_cons_self]
    · have : (key c == key i) = false := beq_eq_false_iff_ne.mpr fun h' => e (h i List.mem_cons_self h')
      rw [this]
      by_cases h2 : c ∈ L
      · rw [if_pos h2, if_pos (List.mem_cons_of_mem _ h2)]; rfl
      · rw [if_neg h2, if_neg (show ¬ c ∈ i :: L by simp [e, h2])]; rfl
theorem put_none {k v : T} : ∀ {kvs : List (T × T)}, T.look k kvs = none → T.put k v kvs = kvs ++ [(k, v)]
  | [], _ => rfl
  | (a, u) :: r, h => by
    have h' : (if k.eqv a then some u else T.look k r) = none := h
    show (if k.eqv a then (a, v) :: r else (a, u) :: T.put k v r) = _
    by_cases e : k.eqv a = true
    · rw [if_pos e] at h'; cases h'
    · rw [if_neg e] at h'
      rw [if_neg e, put_none h']; rfl
/-! ### classes above a class: plain lists -/
def Wf (U : Nat → List Nat) (k : Nat) : Prop := ∀ i, i < k → (∀ u ∈ U i, u < i) ∧ (U i).length ≤ 3
inductive Re (U : Nat → List Nat) : Nat → Nat → Prop
  | refl (a : Nat) : Re U a a
  | step (a u b : Nat) : u ∈ U a → Re U u b → Re U a b
theorem re_iff {U : Nat → List Nat} {a b : Nat} : Re U a b ↔ b = a ∨ ∃ u ∈ U a, Re U u b := by
  constructor
  · intro h
    cases h with
    | refl => exact .inl rfl
    | step _ u _ h1 h2 => exact .inr ⟨u, h1, h2⟩
  · rintro (rfl | ⟨u, h1, h2⟩)
    · exact .refl _
    · exact .step _ u _ h1 h2
/-- done, and what waits -/
def Rx (U : Nat → List Nat) (P Q : List Nat) (b : Nat) : Prop := b ∈ P ∨ ∃ a ∈ Q, Re U a b
theorem rx_perm {U : Nat → List Nat} {P P' Q Q' : List Nat} {b : Nat} (h1 : ∀ x, x ∈ P ↔ x ∈ P') (h2 : ∀ x, x ∈ Q ↔ x ∈ Q') : Rx U P Q b ↔ Rx U P' Q' b := by
  unfold Rx
  rw [h1]
  constructor <;> rintro (h | ⟨a, h3, h4⟩)
  · exact .inl h
  · exact .inr ⟨a, (h2 a).mp h3, h4⟩
  · exact .inl h
  · exact .inr ⟨a, (h2 a).mpr h3, h4⟩
theorem rx_step {U : Nat → List Nat} {P Q : List Nat} {c b : Nat} : Rx U (P ++ [c]) (U c ++ Q) b ↔ Rx U P (c :: Q) b := by
  unfold Rx
  constructor
  · rintro (h | ⟨a, h1, h2⟩)
    · rcases List.mem_append.mp h with h | h
      · exact .inl h
      · obtain rfl : b = c := by simpa using h
        exact .inr ⟨b, List.mem_cons_self, .refl _⟩
    · rcases List.mem_append.mp h1 with h | h
      · exact .inr ⟨c, List.mem_cons_self, .step _ a _ h h2⟩
      · exact .inr ⟨a, List.mem_cons_of_mem _ h, h2⟩
  · rintro (h | ⟨a, h1, h2⟩)
    · exact .inl (List.mem_append_left _ h)
    · rcases List.mem_cons.mp h1 with rfl | h
      · rcases re_iff.mp h2 with rfl | ⟨u, h3, h4⟩
        · exact .inl (List.mem_append_right _ List.mem_cons_self)
        · exact .inr ⟨u, List.mem_append_left _ h3, h4⟩
      · exact .inr ⟨a, List.mem_append_right _ h, h2⟩
theorem rx_start {U : Nat → List Nat} {c b : Nat} : Rx U [] [c] b ↔ Re U c b := by
  unfold Rx
  constructor
  · rintro (h | ⟨a, h1, h2⟩)
    · cases h
    · obtain rfl : a = c := by simpa using h1
      exact h2
  · exact fun h => .inr ⟨c, List.mem_cons_self, h⟩
theorem rx_end {U : Nat → List Nat} {P : List Nat} {b : Nat} : Rx U P [] b ↔ b ∈ P := by
  unfold Rx
  constructor
  · rintro (h | ⟨a, h1, _⟩)
    · exact h
    · cases h1
  · exact .inl
/-- what a class costs at most -/
def wt : Nat → Nat
  | 0 => 1
  | n + 1 => 3 * wt n + 1
theorem wt_pos : ∀ n, 0 < wt n
  | 0 => by decide
  | n + 1 => Nat.succ_pos _
theorem wt_mono : ∀ {m n : Nat}, m ≤ n → wt m ≤ wt n
  | m, 0, h => by obtain rfl : m = 0 := by omega
                  exact Nat.le_refl _
  | m, n + 1, h => by
    by_cases e : m = n + 1
    · rw [e]; exact Nat.le_refl _
    · have := wt_mono (show m ≤ n by omega)
      show wt m ≤ 3 * wt n + 1
      omega
def wts (L : List Nat) : Nat := (L.map wt).sum
theorem wts_app (L M : List Nat) : wts (L ++ M) = wts L + wts M := by unfold wts; rw [List.map_append, List.sum_append]
theorem wts_cons (c : Nat) (L : List Nat) : wts (c :: L) = wt c + wts L := rfl
theorem wts_len : ∀ L : List Nat, L.length ≤ wts L
  | [] => Nat.le_refl _
  | c :: L => by
    have := wts_len L
    have := wt_pos c
    rw [wts_cons, List.length_cons]; omega
theorem wts_lt : ∀ {c : Nat} {L : List Nat}, (∀ u ∈ L, u < c + 1) → wts L ≤ L.length * wt c
  | c, [], _ => Nat.zero_le _
  | c, u :: L, h => by
    have h1 := wts_lt (c := c) (L := L) fun v hv => h v (List.mem_cons_of_mem _ hv)
    have h2 := wt_mono (show u ≤ c by have := h u List.mem_cons_self; omega)
    rw [wts_cons, List.length_cons, Nat.succ_mul]; omega
theorem wts_up {U : Nat → List Nat} {k c : Nat} (h : Wf U k) (hc : c < k) : wts (U c) + 1 ≤ wt c := by
  obtain ⟨h1, h2⟩ := h c hc
  cases c with
  | zero =>
    cases e : U 0 with
    | nil => exact Nat.le_refl _
    | cons u L => rw [e] at h1; exact absurd (h1 u List.mem_cons_self) (Nat.not_lt_zero _)
  | succ c =>
    have h3 := wts_lt h1
    have h4 : (U (c + 1)).length * wt c ≤ 3 * wt c := Nat.mul_le_mul_right _ h2
    show _ ≤ 3 * wt c + 1
    omega
theorem wt12 {c : Nat} (h : c < 12) : wt c ≤ 265720 := wt_mono (show c ≤ 11 by omega)
noncomputable def reB (U : Nat → List Nat) (a b : Nat) : Bool := @decide (Re U a b) (Classical.propDecidable _)
noncomputable def joB (U : Nat → List Nat) (a b : Nat) : Bool := @decide (∃ x, Re U a x ∧ Re U b x) (Classical.propDecidable _)
theorem joB_iff {U : Nat → List Nat} {a b : Nat} : joB U a b = true ↔ ∃ x, Re U a x ∧ Re U b x := by exact @decide_eq_true_iff _ (Classical.propDecidable _)
theorem reB_iff {U : Nat → List Nat} {a b : Nat} : reB U a b = true ↔ Re U a b := by exact @decide_eq_true_iff _ (Classical.propDecidable _)
section
variable {Γ : Gm} {C C' : CallF} {lk : List Pl} {s s1 s2 s3 : S}
theorem ev_meth {o : Ex} {m f n : Nat} {as : List Ex} {ks : List Nat} {md : Md} {bx : Bx} {vs : List V} {r : Res V} (ho : ev Γ C C' lk o s = .ok (md, .box n) s1) (hb : s1.hp[n]? = some bx) (hc : bx.cls ≠ 0) (hm : Γ.meth bx.cls m = some f) (hg : fget m bx.fs = none)
    (ha : evs Γ C C' lk as s1 = .ok vs s2) (hk : argsOk' vs = true) (hr : callB Γ C lk f ((.fro, .box n) :: vs.map parOf) ks s2 = r) : ev Γ C C' lk (.meth o m as ks) s = r := by
  rw [ev, ho]
  show optR s1.hp[n]? _ = _
  rw [hb]
  show (if bx.cls = 0 then (Res.no : Res V) else optR (Γ.meth bx.cls m) _) = _
  rw [if_neg hc, hm]
  show (if (fget m bx.fs).isSome = true then (Res.no : Res V) else (evs Γ C C' lk as s1).bind _) = _
  rw [hg, if_neg (by decide), ha]
  show (if argsOk' vs = true then _ else _) = _
  rw [if_pos hk]
  exact hr
end
/-! ### what lies above a class: the law's way and the program's -/
theorem isIn_ks (l : Nat) (ks : List Nat) : (T.str l).isIn (ks.map .str) = ks.contains l := by
  unfold T.isIn
  rw [List.any_map]
  induction ks with
  | nil => rfl
  | cons k ks ih =>
    rw [List.any_cons, ih, List.contains_cons]
    show ((T.str k).eqv (.str l) || _) = _
    rw [eqv_str, Bool.beq_comm]
theorem datas_ks : ∀ ks : List Nat, T.datas (ks.map .str) = true
  | [] => rfl
  | k :: ks => by
    show ((T.str k).dataN 7 && T.datas (ks.map .str)) = true
    rw [datas_ks ks]; rfl
abbrev kUps : Nat := 7762292
abbrev kOrd : Nat := 482972362355
abbrev nmT (key : Nat → Nat) (i : Nat) : T := .str (key i)
def upsV (key : Nat → Nat) (U : Nat → List Nat) (k : Nat) : List (T × T) := (List.range k).map fun i => (.str (key i), .lst ((U i).map (nmT key)))
def basV (key : Nat → Nat) (U : Nat → List Nat) (k : Nat) : List (T × T) := (List.range k).map fun i => (.str (key i), .tup ((U i).map (nmT key)))
def ordV (key : Nat → Nat) (k : Nat) : List T := (List.range k).map (nmT key)
def Inj (key : Nat → Nat) (k : Nat) : Prop := ∀ a b, a < k → b < k → key a = key b → a = b
theorem map_key (key : Nat → Nat) (L : List Nat) : L.map (nmT key) = (L.map key).map .str := by rw [List.map_map]; rfl
theorem mem_key {key : Nat → Nat} {k : Nat} (hI : Inj key k) {P : List Nat} (hP : ∀ x ∈ P, x < k) {b : Nat} (hb : b < k) : (T.str (key b)).isIn (P.map (nmT key)) = P.contains b := by
  rw [map_key, isIn_ks]
  rw [Bool.eq_iff_iff, List.contains_iff_mem, List.contains_iff_mem, List.mem_map]
  constructor
  · rintro ⟨x, h1, h2⟩
    rw [← hI x b (hP x h1) hb h2]; exact h1
  · exact fun h => ⟨b, h, rfl⟩
theorem datas_key (key : Nat → Nat) (L : List Nat) : T.datas (L.map (nmT key)) = true := by rw [map_key]; exact datas_ks _
theorem look_ups {key : Nat → Nat} {U : Nat → List Nat} {k c : Nat} (hI : Inj key k) (hc : c < k) : T.look (.str (key c)) (upsV key U k) = some (.lst ((U c).map (nmT key))) := by
  unfold upsV
  rw [look_map (val := fun i => T.lst ((U i).map (nmT key))) fun i hi h => hI c i hc (List.mem_range.mp hi) h, if_pos (List.mem_range.mpr hc)]
theorem look_bas {key : Nat → Nat} {U : Nat → List Nat} {k c : Nat} (hI : Inj key k) (hc : c < k) : T.look (.str (key c)) (basV key U k) = some (.tup ((U c).map (nmT key))) := by
  unfold basV
  rw [look_map (val := fun i => T.tup ((U i).map (nmT key))) fun i hi h => hI c i hc (List.mem_range.mp hi) h, if_pos (List.mem_range.mpr hc)]
/-- what a walk up leaves: the classes above c -/
def Up (U : Nat → List Nat) (k c : Nat) (P : List Nat) : Prop := (∀ b, b ∈ P ↔ Re U c b) ∧ (∀ b ∈ P, b < k) ∧ P.length ≤ 265720
theorem up_contains {U : Nat → List Nat} {k c b : Nat} {P : List Nat} (h : Up U k c P) : P.contains b = reB U c b := by
  rw [Bool.eq_iff_iff, List.contains_iff_mem, reB_iff]
  exact h.1 b
theorem idx_at {P Q : List Nat} {q : Nat} (f : Nat → T) : ((P ++ q :: Q).map f)[P.length]? = some (f q) := by
  rw [List.getElem?_map, List.getElem?_append_right (Nat.le_refl _), Nat.sub_self]; rfl
theorem up_ok {Γ : Gm} (hu : Γ.fn n__law_up = some fn__law_up) {n : Nat} {hp : List Bx} {lk : List Pl} (hl : Un lk) {w : Nat} {bx : Bx} {key : Nat → Nat} {U : Nat → List Nat} {k c : Nat} (hb : hp[w]? = some bx) (h0 : bx.cls = 0) (hf : fget kUps bx.fs = some (true, .dct (upsV key U k)))
    (hW : Wf U k) (hI : Inj key k) (hk : k ≤ 12) (hc : c < k) : ∃ l P, callN Γ (n + 2) n__law_up [(.fro, .box w), (.fro, .str (key c))] hp lk = .ok (.own, .lst (P.map (nmT key))) ⟨l, hp⟩ ∧ Up U k c P := by
  let C := callN Γ (n + 1)
  let C' := callN Γ n
  let st := fun (L : List Nat) (j : Nat) => (⟨[some (.fro, .box w), some (.fro, .str (key c)), some (.own, .lst (L.map (nmT key))), some (.fro, .int (j : Nat))], hp⟩ : S)
  let I : Nat → S → Prop := fun m s => ∃ P Q : List Nat, s = st (P ++ Q) P.length ∧ m = wts Q ∧ P.length + wts Q ≤ wt c ∧ (∀ x ∈ P ++ Q, x < k) ∧ ∀ b, Rx U P Q b ↔ Re U c b
  let E : S → Prop := fun s => ∃ P, s = st P P.length ∧ Up U k c P
  have hw := wt12 (show c < 12 by omega)
  obtain ⟨s', h1, P, rfl, h2⟩ := whileL_dec (test := fun s => (ev Γ C C' lk (.cmp .lt (.var 3 true) (.bi .len [(.var 2 true)])) s).bind fun v s1 => optR (truth v.2) fun t => .ok t s1)
    (body := fun s => execs Γ C C' lk [(.set (.one 2) (.bin .add (.var 2 true) (.sub (.sub (.var 0 true) (.cst (.str kUps)) true) (.sub (.var 2 true) (.var 3 true) true) true))), (.set (.one 3) (.bin .add (.var 3 true) (.cst (.int (1)))))] s) I E (fun m s hI' => by
      obtain ⟨P, Q, rfl, rfl, hm, hx, hr⟩ := hI'
      have ht : ev Γ C C' lk (.cmp .lt (.var 3 true) (.bi .len [(.var 2 true)])) (st (P ++ Q) P.length) = .ok (.fro, .bl (decide (((P.length : Nat) : Int) < ((((P ++ Q).map (nmT key)).length : Nat) : Int)))) (st (P ++ Q) P.length) := rfl
      cases Q with
      | nil =>
        refine .inl ⟨st (P ++ []) P.length, test_of ht ?_, P, by rw [List.append_nil], fun b => ?_, fun b hb => hx b (List.mem_append_left _ hb), by omega⟩
        · show some _ = _
          rw [decide_eq_false]; rw [List.length_map, List.append_nil]; omega
        · rw [← hr b, rx_end]
      | cons q Q =>
        have hq : q < k := hx q (by simp)
        have hup := wts_up hW hq
        have hlen : (P ++ q :: Q).length ≤ 265720 := by
          have := wts_len (q :: Q)
          rw [List.length_append]; omega
        have hulen := (hW q hq).2
        rw [wts_cons] at hm
        have hadd : ev Γ C C' lk (.bin .add (.var 2 true) (.sub (.sub (.var 0 true) (.cst (.str kUps)) true) (.sub (.var 2 true) (.var 3 true) true) true)) (st (P ++ q :: Q) P.length) = .ok (.own, .lst ((P ++ q :: Q).map (nmT key) ++ (U q).map (nmT key))) (st (P ++ q :: Q) P.length) := by
          refine ev_bin (x := (.bor (some (.sl 2)), .lst ((P ++ q :: Q).map (nmT key)))) (y := (.fro, .lst ((U q).map (nmT key)))) (s1 := st (P ++ q :: Q) P.length) (s2 := st (P ++ q :: Q) P.length) rfl ?_ ?_
          · exact ev_sub (ev_bxO (a := 0) (f := kUps) rfl hb h0 hf rfl) (ev_atv (i := 2) (j := 3) (k := P.length) rfl (.inl rfl) rfl (idx_at _)) (sub_dctP rfl (look_ups hI hq) trivial)
          · unfold binR
            dsimp only
            rw [if_pos ⟨rfl, by rw [List.length_map, List.length_map]; unfold szL; omega⟩]; rfl
        rw [← List.map_append] at hadd
        refine .inr ⟨st (P ++ q :: Q) P.length, st ((P ++ [q]) ++ (Q ++ U q)) (P ++ [q]).length, wts (Q ++ U q), test_of ht ?_, ?_, ?_, P ++ [q], Q ++ U q, rfl, rfl, ?_, ?_, fun b => ?_⟩
        · show some _ = _
          rw [decide_eq_true]; rw [List.length_map, List.length_append, List.length_cons]; omega
        · refine execs_cons (exec_set hadd (bind_slot (hl 2) rfl)) (execs_cons (s1 := st ((P ++ [q]) ++ (Q ++ U q)) (P ++ [q]).length) (exec_set (v := (.fro, .int ((P.length : Nat) + 1 : Int))) rfl ?_) rfl)
          rw [bind_slot (hl 3) rfl]
          show some (S.mk _ _) = some (S.mk _ _)
          rw [show (P ++ [q]) ++ (Q ++ U q) = (P ++ q :: Q) ++ U q by simp, show (((P ++ [q]).length : Nat) : Int) = (P.length : Nat) + 1 by simp]; rfl
        · rw [wts_app, wts_cons]; omega
        · rw [wts_app, List.length_append]; simp; omega
        · intro x hx'
          rcases List.mem_append.mp hx' with h | h
          · exact hx x (by rcases List.mem_append.mp h with h | h; · exact List.mem_append_left _ h
                           · obtain rfl : x = q := by simpa using h
                             simp)
          · rcases List.mem_append.mp h with h | h
            · exact hx x (by simp [h])
            · exact Nat.lt_trans ((hW q hq).1 x h) hq
        · rw [← hr b, ← rx_step]
          exact rx_perm (fun _ => Iff.rfl) fun x => by rw [List.mem_append, List.mem_append, or_comm]) whileMax (wt c) (st [c] 0) (by unfold whileMax; omega)
    ⟨[], [c], rfl, by unfold wts; simp, by unfold wts; simp, by simpa using hc, fun b => rx_start⟩
  refine ⟨_, P, callN_ret (n := n) (v := (.own, .lst (P.map (nmT key)))) (s := ⟨[some (.fro, .box w), some (.fro, .str (key c)), none, some (.fro, .int (P.length : Nat))], hp⟩) hu ?_, h2⟩
  refine execs_cons (s1 := ⟨[some (.fro, .box w), some (.fro, .str (key c)), some (.own, .lst ([c].map (nmT key))), none], hp⟩) (exec_set (v := (.own, .lst [nmT key c])) rfl (bind_slot (hl 2) rfl)) ?_
  refine execs_cons (s1 := st [c] 0) (exec_set (v := (.fro, .int 0)) rfl (bind_slot (hl 3) rfl)) ?_
  refine execs_cons (s1 := st P P.length) (exec_whl h1) (execs_ret (exec_ret ?_ rfl))
  rw [ev]
  show mvVar lk 2 _ = _
  unfold mvVar
  show (if lk.contains (.sl 2) = true then _ else _) = _
  rw [hl]; rfl
/-! ### Lineage: line_up, is_below, joined_base -/
structure LnG (Γ : Gm) (cl : Nat) : Prop where
  fline : Γ.fn n_Lineage_line_up = some fn_Lineage_line_up
  mline : Γ.meth cl n_line_up = some n_Lineage_line_up
  fbel : Γ.fn n_Lineage_is_below = some fn_Lineage_is_below
  fjb : Γ.fn n_Lineage_joined_base = some fn_Lineage_joined_base
  mjb : Γ.meth cl n_joined_base = some n_Lineage_joined_base
  pb : Γ.prop cl n_bases_by = none
  po : Γ.prop cl n_outer_by = none
  ne : cl ≠ 0
/-- a box that holds classes with their bases -/
structure LnB (bx : Bx) (cl : Nat) (key : Nat → Nat) (U : Nat → List Nat) (k : Nat) : Prop where
  cls : bx.cls = cl
  bas : fget n_bases_by bx.fs = some (true, .dct (basV key U k))
  nl : fget n_line_up bx.fs = none
  nj : fget n_joined_base bx.fs = none
structure Cx (key : Nat → Nat) (U : Nat → List Nat) (k : Nat) : Prop where
  wf : Wf U k
  inj : Inj key k
  le : k ≤ 12
theorem line_ok {Γ : Gm} {cl : Nat} (G : LnG Γ cl) {n : Nat} {hp : List Bx} {lk : List Pl} (hl : Un lk) {o : Nat} {bx : Bx} {key : Nat → Nat} {U : Nat → List Nat} {k c : Nat} (hb : hp[o]? = some bx) (B : LnB bx cl key U k)
    (X : Cx key U k) (hc : c < k) : ∃ l P, callN Γ (n + 2) n_Lineage_line_up [(.fro, .box o), (.fro, .str (key c))] hp lk = .ok (.own, .lst (P.map (nmT key))) ⟨l, hp⟩ ∧ Up U k c P := by
  obtain ⟨hW, hI, hk⟩ := X
  let C := callN Γ (n + 1)
  let C' := callN Γ n
  let st := fun (P Q : List T) (x : Option (Mo × T)) => (⟨[some (.fro, .box o), some (.fro, .str (key c)), some (.own, .lst P), some (.own, .lst Q), x], hp⟩ : S)
  let I : Nat → S → Prop := fun m s => ∃ (P Q : List Nat) (x : Option (Mo × T)), s = st (P.map (nmT key)) (Q.map (nmT key)).reverse x ∧ m = wts Q ∧ P.length + wts Q ≤ wt c ∧ (∀ x ∈ P ++ Q, x < k) ∧ ∀ b, Rx U P Q b ↔ Re U c b
  let E : S → Prop := fun s => ∃ P x, s = st (P.map (nmT key)) [] x ∧ Up U k c P
  have hw := wt12 (show c < 12 by omega)
  obtain ⟨s', h1, P, x4, rfl, h2⟩ := whileL_dec (test := fun s => (ev Γ C C' lk (.var 3 true) s).bind fun v s1 => optR (truth v.2) fun t => .ok t s1)
    (body := fun s => execs Γ C C' lk [(.pops 4 3), (.app (.sl 2) (.var 4 false)), (.set (.one 3) (.bin .add (.var 3 true) (.bi .list [(.rev (.sub (.att (.var 0 true) n_bases_by true) (.var 4 true) true))])))] s) I E (fun m s hI' => by
      obtain ⟨P, Q, x, rfl, rfl, hm, hx, hr⟩ := hI'
      have ht : ∀ Q', ev Γ C C' lk (.var 3 true) (st (P.map (nmT key)) Q' x) = .ok (.bor (some (.sl 3)), .lst Q') (st (P.map (nmT key)) Q' x) := fun Q' => rd_own rfl rfl
      cases Q with
      | nil =>
        exact .inl ⟨_, test_of (ht _) rfl, P, x, rfl, fun b => by rw [← hr b, rx_end], fun b hb => hx b (List.mem_append_left _ hb), by omega⟩
      | cons q Q =>
        have hq : q < k := hx q (by simp)
        have hup := wts_up hW hq
        have hlen := wts_len Q
        have hulen := (hW q hq).2
        have hwq := wt_pos q
        rw [wts_cons] at hm
        let R := (Q.map (nmT key)).reverse
        let x4 : Option (Mo × T) := some (.fro, nmT key q)
        have e0 : ((q :: Q).map (nmT key)).reverse = R ++ [nmT key q] := by rw [List.map_cons, List.reverse_cons]
        have hRl : R.length = Q.length := by rw [List.length_reverse, List.length_map]
        let P' := (P ++ [q]).map (nmT key)
        have c1 : exec Γ C C' lk (.pops 4 3) (st (P.map (nmT key)) (R ++ [nmT key q]) x) = .ok .nx (st (P.map (nmT key)) R x4) := by
          rw [exec, rd_sl (hl 3) (t := .lst (R ++ [nmT key q])) rfl]
          show optR (R ++ [nmT key q]).getLast? _ = _
          rw [List.getLast?_concat]
          show nxR (bindTg lk (.one 4) (.fro, nmT key q) (wrPl (.sl 3) (.lst (R ++ [nmT key q]).dropLast) _)) = _
          rw [List.dropLast_concat, bind_slot (hl 4) rfl]; rfl
        have c2 : exec Γ C C' lk (.app (.sl 2) (.var 4 false)) (st (P.map (nmT key)) R x4) = .ok .nx (st P' R x4) := by
          have := exec_app (Γ := Γ) (C := C) (C' := C') (lk := lk) (i := 2) (e := .var 4 false) (v := (.fro, nmT key q)) (xs0 := P.map (nmT key)) (xs := P.map (nmT key)) (s := st (P.map (nmT key)) R x4) (s1 := st (P.map (nmT key)) R x4) (hl 2) rfl rfl rfl rfl (by rw [List.length_map]; unfold szL; omega)
          rw [this]
          show Res.ok Fl.nx (S.mk _ _) = Res.ok Fl.nx (S.mk [_, _, some (.own, .lst ((P ++ [q]).map (nmT key))), _, _] _)
          rw [List.map_append]; rfl
        have hrev : ev Γ C C' (.sl 3 :: lk) (.bi .list [(.rev (.sub (.att (.var 0 true) n_bases_by true) (.var 4 true) true))]) (st P' R x4) = .ok (.own, .lst ((U q).map (nmT key)).reverse) (st P' R x4) := by
          have hs : ev Γ C C' (.sl 3 :: lk) (.sub (.att (.var 0 true) n_bases_by true) (.var 4 true) true) (st P' R x4) = .ok (.fro, .tup ((U q).map (nmT key))) (st P' R x4) :=
            ev_sub (ev_fdO (a := 0) rfl hb (by rw [B.cls]; exact G.ne) (by rw [B.cls]; exact G.pb) B.bas rfl) (ev_varF (t := .str (key q)) rfl) (sub_dctP rfl (look_bas hI hq) trivial)
          have hv : ev Γ C C' (.sl 3 :: lk) (.rev (.sub (.att (.var 0 true) n_bases_by true) (.var 4 true) true)) (st P' R x4) = .ok (.fro, .tup ((U q).map (nmT key)).reverse) (st P' R x4) := by
            rw [ev, hs]; rfl
          refine ev_bi (evs_cons hv rfl) ?_
          show optR (itemsR Γ (.tup ((U q).map (nmT key)).reverse) _) _ = _
          rw [items_tup (by rw [List.length_reverse, List.length_map]; unfold szL; omega)]; rfl
        have c3 : exec Γ C C' lk (.set (.one 3) (.bin .add (.var 3 true) (.bi .list [(.rev (.sub (.att (.var 0 true) n_bases_by true) (.var 4 true) true))]))) (st P' R x4) = .ok .nx (st P' ((U q ++ Q).map (nmT key)).reverse x4) := by
          refine exec_set (v := (.own, .lst ((U q ++ Q).map (nmT key)).reverse)) (s1 := st P' R x4) ?_ (bind_slot (hl 3) rfl)
          refine ev_bin (x := (.bor (some (.sl 3)), .lst R)) (y := (.own, .lst ((U q).map (nmT key)).reverse)) (s1 := st P' R x4) (s2 := st P' R x4) (rd_own rfl rfl) hrev ?_
          rw [List.map_append, List.reverse_append]
          unfold binR
          dsimp only
          rw [if_pos ⟨rfl, by rw [hRl, List.length_reverse, List.length_map]; unfold szL; omega⟩]; rfl
        rw [e0]
        refine .inr ⟨_, st P' ((U q ++ Q).map (nmT key)).reverse x4, wts (U q ++ Q), test_of (ht _) ?_, execs_cons c1 (execs_cons c2 (execs_cons c3 rfl)), ?_, P ++ [q], U q ++ Q, x4, rfl, rfl, ?_, ?_, fun b => ?_⟩
        · show some (!(R ++ [nmT key q]).isEmpty) = _
          cases R <;> rfl
        · rw [wts_app, wts_cons]; omega
        · rw [wts_app, List.length_append]; simp; omega
        · intro x hx'
          rcases List.mem_append.mp hx' with h | h
          · exact hx x (by rcases List.mem_append.mp h with h | h; · exact List.mem_append_left _ h
                           · obtain rfl : x = q := by simpa using h
                             simp)
          · rcases List.mem_append.mp h with h | h
            · exact Nat.lt_trans ((hW q hq).1 x h) hq
            · exact hx x (by simp [h])
        · rw [← hr b, ← rx_step]) whileMax (wt c) (st [] [nmT key c] none) (by unfold whileMax; omega)
    ⟨[], [c], none, rfl, by unfold wts; simp, by unfold wts; simp, by simpa using hc, fun b => rx_start⟩
  refine ⟨_, P, callN_ret (n := n) (v := (.own, .lst (P.map (nmT key)))) (s := ⟨[some (.fro, .box o), some (.fro, .str (key c)), none, some (.own, .lst []), x4], hp⟩) G.fline ?_, h2⟩
  refine execs_cons (s1 := ⟨[some (.fro, .box o), some (.fro, .str (key c)), some (.own, .lst []), none, none], hp⟩) (exec_set (v := (.own, .lst [])) rfl (bind_slot (hl 2) rfl)) ?_
  refine execs_cons (s1 := st [] [nmT key c] none) (exec_set (v := (.own, .lst [nmT key c])) rfl (bind_slot (hl 3) rfl)) ?_
  refine execs_cons (s1 := st (P.map (nmT key)) [] x4) (exec_whl h1) (execs_ret (exec_ret ?_ rfl))
  rw [ev]
  show mvVar lk 2 _ = _
  unfold mvVar
  show (if lk.contains (.sl 2) = true then _ else _) = _
  rw [hl]; rfl
theorem str_data (x : Nat) : (T.str x).data = true := rfl
theorem below_ok {Γ : Gm} {cl : Nat} (G : LnG Γ cl) {n : Nat} {hp : List Bx} {lk : List Pl} {o : Nat} {bx : Bx} {key : Nat → Nat} {U : Nat → List Nat} {k c d : Nat} (hb : hp[o]? = some bx) (B : LnB bx cl key U k)
    (X : Cx key U k) (hc : c < k) (hd : d < k) : ∃ l, callN Γ (n + 3) n_Lineage_is_below [(.fro, .box o), (.fro, .str (key c)), (.fro, .str (key d))] hp lk = .ok (.fro, .bl (reB U c d)) ⟨l, hp⟩ := by
  let C := callN Γ (n + 2)
  let C' := callN Γ (n + 1)
  let st : S := ⟨[some (.fro, .box o), some (.fro, .str (key c)), some (.fro, .str (key d))], hp⟩
  obtain ⟨l, P, h1, h2⟩ := line_ok G (n := n) (lk := lk.filter Pl.isFd) (un_fd _) hb B X hc
  rw [← up_contains h2, ← mem_key X.inj h2.2.1 hd]
  refine ⟨_, callN_ret (n := n + 1) (s := st) G.fbel (execs_ret (exec_ret (v := (.fro, .bl ((T.str (key d)).isIn (P.map (nmT key))))) ?_ rfl))⟩
  refine ev_cmp0 (x := (.fro, .str (key d))) (y := (.own, .lst (P.map (nmT key)))) (s1 := st) (s2 := st) rfl rfl ?_ (cmp_inL rfl (datas_key _ _))
  exact ev_meth (md := .fro) (n := o) (bx := bx) (s1 := st) (s2 := st) (vs := [(.fro, .str (key c))]) rfl hb (by rw [B.cls]; exact G.ne) (by rw [B.cls]; exact G.mline) B.nl rfl rfl
    (callB_ok (s' := ⟨l, hp⟩) (l := [(.fro, .box o), (.fro, .str (key c))]) G.fline rfl h1)
/-! ### joined bases -/
def jbBody : List Sm := match fn_Lineage_joined_base.body with
  | [_, .for_ _ _ b, _] => b
  | _ => []
theorem jb_loop {Γ : Gm} {cl : Nat} (G : LnG Γ cl) {n : Nat} {hp : List Bx} {lk : List Pl} (hl : Un lk) {o : Nat} {bx : Bx} {key : Nat → Nat} {U : Nat → List Nat} {k : Nat} {x1 : Option (Mo × T)} (hb : hp[o]? = some bx) (B : LnB bx cl key U k) (X : Cx key U k) :
    ∀ (V pre K : List Nat) (x3 x4 : Option (Mo × T)), (∀ v ∈ V, v < k) → (pre ++ V).Pairwise (fun a b => ¬ ∃ x, Re U a x ∧ Re U b x) → (∀ b, b ∈ K ↔ ∃ a ∈ pre, Re U a b) → (∀ b ∈ K, b < k) → pre.length + V.length ≤ 3 → K.length ≤ pre.length * 265720 →
    ∃ (K' : List Nat) (x3' x4' : Option (Mo × T)), forL lk (.one 3) (fun s => execs Γ (callN Γ (n + 3)) (callN Γ (n + 2)) lk jbBody s) (V.map (nmT key)) ⟨[some (.fro, .box o), x1, some (.own, .lst (K.map (nmT key))), x3, x4, none], hp⟩ = .ok .nx ⟨[some (.fro, .box o), x1, some (.own, .lst (K'.map (nmT key))), x3', x4', none], hp⟩
  | [], pre, K, x3, x4, _, _, _, _, _, _ => ⟨K, x3, x4, rfl⟩
  | v :: V, pre, K, x3, x4, hv, hp', hK, hKk, hz, hKl => by
    let C := callN Γ (n + 3)
    let C' := callN Γ (n + 2)
    have hvk : v < k := hv v List.mem_cons_self
    obtain ⟨l, P, h1, hu, hPk, hPl⟩ := line_ok G (n := n + 1) (lk := lk.filter Pl.isFd) (un_fd _) hb B X hvk
    have hz' : pre.length + (V.length + 1) ≤ 3 := hz
    have hK2 : K.length ≤ 2 * 265720 := Nat.le_trans hKl (Nat.mul_le_mul_right _ (by omega))
    let st := fun (K : List Nat) (x4 x5 : Option (Mo × T)) => (⟨[some (.fro, .box o), x1, some (.own, .lst (K.map (nmT key))), some (.fro, nmT key v), x4, x5], hp⟩ : S)
    let F4 : Option (Mo × T) := some (.own, .lst (P.map (nmT key)))
    obtain ⟨K', y3, y4, hr⟩ := jb_loop G (n := n) hl hb B X (x1 := x1) V (pre ++ [v]) (K ++ P) (some (.fro, nmT key v)) F4 (fun u h => hv u (List.mem_cons_of_mem _ h)) (by rw [List.append_assoc]; exact hp') (fun b => by
        rw [List.mem_append, hK, hu]
        constructor
        · rintro (⟨a, h1, h2⟩ | h)
          · exact ⟨a, List.mem_append_left _ h1, h2⟩
          · exact ⟨v, by simp, h⟩
        · rintro ⟨a, h1, h2⟩
          rcases List.mem_append.mp h1 with h | h
          · exact .inl ⟨a, h, h2⟩
          · obtain rfl : a = v := by simpa using h
            exact .inr h2) (fun b hb => (List.mem_append.mp hb).elim (hKk b) (hPk b)) (by rw [List.length_append]; simp; omega) (by rw [List.length_append, List.length_append, Nat.add_mul]; simp; omega)
    refine ⟨K', y3, y4, forL_cons (s1 := st K x4 none) (s2 := st (K ++ P) F4 none) (bind_slot (hl 3) rfl) (.inl ?_) hr⟩
    have hno : P.any (fun i => K.contains i) = false := by
      rw [Bool.eq_false_iff]
      intro h
      obtain ⟨i, h3, h4⟩ := List.any_eq_true.mp h
      obtain ⟨a, h5, h6⟩ := (hK i).mp (List.contains_iff_mem.mp h4)
      exact (List.pairwise_append.mp hp').2.2 a h5 v List.mem_cons_self ⟨i, h6, (hu i).mp h3⟩
    refine execs_cons (s1 := st K F4 none) (exec_set (v := (.own, .lst (P.map (nmT key)))) (s1 := st K x4 none) (ev_meth (md := .fro) (n := o) (bx := bx) (s1 := st K x4 none) (s2 := st K x4 none) (vs := [(.fro, .str (key v))]) rfl hb (by rw [B.cls]; exact G.ne) (by rw [B.cls]; exact G.mline) B.nl rfl rfl
      (callB_ok (s' := ⟨l, hp⟩) (l := [(.fro, .box o), (.fro, .str (key v))]) G.fline rfl h1)) (bind_slot (hl 4) rfl)) ?_
    have hany : ev Γ C C' lk (.bi .any [(.comp (.cmp .isin (.var 5 true) (.var 2 true)) (.one 5) (.var 4 true) none)]) (st K F4 none) = .ok (.fro, .bl (P.any fun i => K.contains i)) (st K F4 none) := by
      refine ev_any (md := .own) ?_
      have hl4 : (.sl 4 :: lk : List Pl).contains (.sl 5) = false := by rw [List.contains_cons, hl 5]; rfl
      refine ev_comp (x := (.bor (some (.sl 4)), .lst (P.map (nmT key)))) (s1 := st K F4 none) (s2 := st K F4 none) (xs := P.map (nmT key)) (rd_own rfl rfl) rfl ?_
      refine compL_all (nmT key) (fun i => T.bl (K.contains i)) (R := P) (S0 := st K F4 none) rfl fun i hi => ?_
      refine ⟨st K F4 (some (.fro, nmT key i)), .fro, bind_slot hl4 rfl, rfl, ?_, rfl⟩
      rw [← mem_key X.inj hKk (hPk i hi)]
      exact ev_cmp0 (x := (.fro, .str (key i))) (y := (.bor (some (.sl 2)), .lst (K.map (nmT key)))) (s1 := st K F4 (some (.fro, nmT key i))) (s2 := st K F4 (some (.fro, nmT key i))) rfl rfl (rd_own rfl rfl) (cmp_inL rfl (datas_key _ _))
    rw [hno] at hany
    refine execs_cons (s1 := st K F4 none) (exec_ite (t := false) hany rfl rfl) ?_
    refine execs_cons (s1 := st (K ++ P) F4 none) (exec_set (v := (.own, .lst ((K ++ P).map (nmT key)))) (s1 := st K F4 none) ?_ (bind_slot (hl 2) rfl)) rfl
    refine ev_bin (x := (.bor (some (.sl 2)), .lst (K.map (nmT key)))) (y := (.bor (some (.sl 4)), .lst (P.map (nmT key)))) (s1 := st K F4 none) (s2 := st K F4 none) (rd_own rfl rfl) (rd_own rfl rfl) ?_
    rw [List.map_append]
    unfold binR
    dsimp only
    rw [if_pos ⟨rfl, by rw [List.length_map, List.length_map]; unfold szL; omega⟩]; rfl
theorem jb_ok {Γ : Gm} {cl : Nat} (G : LnG Γ cl) {n : Nat} {hp : List Bx} {lk : List Pl} (hl : Un lk) {o : Nat} {bx : Bx} {key : Nat → Nat} {U : Nat → List Nat} {k : Nat} (hb : hp[o]? = some bx) (B : LnB bx cl key U k) (X : Cx key U k)
    {V : List Nat} (hV : ∀ v ∈ V, v < k) (hz : V.length ≤ 3) (hp' : V.Pairwise (fun a b => ¬ ∃ x, Re U a x ∧ Re U b x)) :
    ∃ l, callN Γ (n + 4) n_Lineage_joined_base [(.fro, .box o), (.fro, .tup (V.map (nmT key)))] hp lk = .ok (.fro, .non) ⟨l, hp⟩ := by
  obtain ⟨K', y3, y4, h⟩ := jb_loop G (n := n) hl hb B X (x1 := some (.fro, .tup (V.map (nmT key)))) V [] [] none none hV hp' (fun b => by simp) (fun b hb => by cases hb) (by simpa using hz) (by simp)
  refine ⟨_, callN_ret (n := n + 2) G.fjb (execs_cons (s1 := ⟨[some (.fro, .box o), some (.fro, .tup (V.map (nmT key))), some (.own, .lst []), none, none, none], hp⟩) (exec_set (v := (.own, .lst [])) rfl (bind_slot (hl 2) rfl))
    (execs_cons (exec_for (x := (.fro, .tup (V.map (nmT key)))) (s1 := ⟨[some (.fro, .box o), some (.fro, .tup (V.map (nmT key))), some (.own, .lst []), none, none, none], hp⟩) rfl (items_tup (by rw [List.length_map]; unfold szL; omega)) h) (execs_ret (exec_ret rfl rfl))))⟩
/-! ### the law: does a class join those taken -/
def jsBody : List Sm := match fn__law_joins.body with
  | [_, .for_ _ _ b, _] => b
  | _ => []
theorem joins_ok {Γ : Gm} (hu : Γ.fn n__law_up = some fn__law_up) (hj : Γ.fn n__law_joins = some fn__law_joins) {n : Nat} {hp : List Bx} {lk : List Pl} (hl : Un lk) {w : Nat} {bx : Bx} {key : Nat → Nat} {U : Nat → List Nat} {k c : Nat} {m1 : Mo} (hm : m1 = .fro ∨ m1 = .bor) (hb : hp[w]? = some bx) (h0 : bx.cls = 0) (hf : fget kUps bx.fs = some (true, .dct (upsV key U k)))
    (X : Cx key U k) (hc : c < k) {V : List Nat} (hV : ∀ v ∈ V, v < k) :
    ∃ l, callN Γ (n + 3) n__law_joins [(.fro, .box w), (m1, .lst (V.map (nmT key))), (.fro, .str (key c))] hp lk = .ok (.fro, .bl (V.any fun v => joB U v c)) ⟨l, hp⟩ := by
  let C := callN Γ (n + 2)
  let C' := callN Γ (n + 1)
  let F1 : Option (Mo × T) := some (m1, .lst (V.map (nmT key)))
  let sa := fun (x3 : Option (Mo × T)) => (⟨[some (.fro, .box w), F1, some (.fro, .str (key c)), x3, none, none], hp⟩ : S)
  obtain ⟨l, P, h1, hP⟩ := up_ok hu (n := n) (lk := lk.filter Pl.isFd) (un_fd _) hb h0 hf X.wf X.inj X.le hc
  let F3 : Option (Mo × T) := some (.own, .lst (P.map (nmT key)))
  let st := fun (x4 x5 : Option (Mo × T)) => (⟨[some (.fro, .box w), F1, some (.fro, .str (key c)), F3, x4, x5], hp⟩ : S)
  have c1 : exec Γ C C' lk (.set (.one 3) (.call n__law_up [(.var 0 true), (.var 2 true)] [])) (sa none) = .ok .nx (st none none) :=
    exec_set (v := (.own, .lst (P.map (nmT key)))) (s1 := sa none) (ev_call (vs := [(.fro, .box w), (.fro, .str (key c))]) (s1 := sa none) rfl rfl (callB_ok (s' := ⟨l, hp⟩) (l := [(.fro, .box w), (.fro, .str (key c))]) hu rfl h1)) (bind_slot (hl 3) rfl)
  obtain ⟨sE, hE, x4, rfl⟩ := forL_all (lk := lk) (nmT key) (g := .one 4) (body := fun s => execs Γ C C' lk jsBody s) (fun s => ∃ x4, s = st x4 none) (fun v => !joB U v c) (v := (.fro, .bl true)) V (st none none) ⟨_, rfl⟩ fun v hv s hs => by
    obtain ⟨x4, rfl⟩ := hs
    have hvk := hV v hv
    let s1 := st (some (.fro, nmT key v)) none
    obtain ⟨l', Q, g1, hQ⟩ := up_ok hu (n := n) (lk := lk.filter Pl.isFd) (un_fd _) hb h0 hf X.wf X.inj X.le hvk
    refine ⟨s1, s1, bind_slot (hl 4) rfl, ?_, _, rfl⟩
    have hcomp : ev Γ C C' lk (.comp (.var 5 false) (.one 5) (.call n__law_up [(.var 0 true), (.var 4 true)] []) (some (.cmp .isin (.var 5 true) (.var 3 true)))) s1 = .ok (.own, .lst ((Q.filter fun i => P.contains i).map (nmT key))) s1 := by
      refine ev_comp0 (x := (.own, .lst (Q.map (nmT key)))) (s1 := s1) (ev_call (vs := [(.fro, .box w), (.fro, .str (key v))]) (s1 := s1) rfl rfl (callB_ok (s' := ⟨l', hp⟩) (l := [(.fro, .box w), (.fro, .str (key v))]) hu rfl g1)) rfl rfl ?_
      have := compL_map (lk := lk) (acc := []) (nmT key) (g := .one 5) (test := fun s => evc Γ C C' lk (some (.cmp .isin (.var 5 true) (.var 3 true))) s) (elt := fun s => ev Γ C C' lk (.var 5 false) s) (fun i => P.contains i) (nmT key) (S0 := s1) (R := Q) (s := s1) rfl fun i hi => by
        let s2 := st (some (.fro, nmT key v)) (some (.fro, nmT key i))
        refine ⟨s2, bind_slot (hl 5) rfl, rfl, ?_, fun _ => ⟨.fro, rfl, rfl⟩⟩
        rw [← mem_key X.inj hP.2.1 (hQ.2.1 i hi)]
        exact evc_of (m := .fro) (ev_cmp0 (x := (.fro, .str (key i))) (y := (.bor (some (.sl 3)), .lst (P.map (nmT key)))) (s1 := s2) (s2 := s2) rfl rfl (rd_own rfl rfl) (cmp_inL rfl (datas_key _ _)))
      rw [List.nil_append] at this
      exact this
    have hcond : ev Γ C C' lk (.cmp .gt (.bi .len [(.comp (.var 5 false) (.one 5) (.call n__law_up [(.var 0 true), (.var 4 true)] []) (some (.cmp .isin (.var 5 true) (.var 3 true))))]) (.cst (.int 0))) s1 = .ok (.fro, .bl (joB U v c)) s1 := by
      have hlen : ev Γ C C' lk (.bi .len [(.comp (.var 5 false) (.one 5) (.call n__law_up [(.var 0 true), (.var 4 true)] []) (some (.cmp .isin (.var 5 true) (.var 3 true))))]) s1 = .ok (.fro, .int ((((Q.filter fun i => P.contains i).map (nmT key)).length : Nat) : Int)) s1 := ev_bi (evs_cons hcomp rfl) rfl
      have e : joB U v c = decide ((0 : Int) < ((((Q.filter fun i => P.contains i).map (nmT key)).length : Nat) : Int)) := by
        rw [Bool.eq_iff_iff, joB_iff, decide_eq_true_iff, List.length_map]
        constructor
        · rintro ⟨x, h1, h2⟩
          have hm : x ∈ Q.filter fun i => P.contains i := List.mem_filter.mpr ⟨(hQ.1 x).mpr h1, List.contains_iff_mem.mpr ((hP.1 x).mpr h2)⟩
          have := List.length_pos_of_mem hm
          omega
        · intro h
          obtain ⟨x, hx⟩ := List.exists_mem_of_length_pos (l := Q.filter fun i => P.contains i) (by omega)
          obtain ⟨h1, h2⟩ := List.mem_filter.mp hx
          exact ⟨x, (hQ.1 x).mp h1, (hP.1 x).mp (List.contains_iff_mem.mp h2)⟩
      rw [e]
      exact ev_cmp hlen rfl rfl
    show execs Γ C C' lk [_] s1 = _
    cases hq : joB U v c with
    | true => rw [hq] at hcond; exact execs_ret (exec_ite (t := true) hcond rfl (execs_ret (exec_ret rfl rfl)))
    | false => rw [hq] at hcond; exact execs_cons (exec_ite (t := false) hcond rfl rfl) rfl
  have hv1 : ∃ md, ev Γ C C' lk (.var 1 true) (st none none) = .ok (md, .lst (V.map (nmT key))) (st none none) ∧ lks (md, .lst (V.map (nmT key))) = [] := by
    obtain ⟨md, h1, h2, _, _⟩ := ev_par (Γ := Γ) (C := C) (C' := C') (lk := lk) (s := st none none) (k := 1) (b := true) hm rfl
    exact ⟨md, h1, h2⟩
  obtain ⟨md, v1, v2⟩ := hv1
  have eF : exec Γ C C' lk (.for_ (.one 4) (.var 1 true) jsBody) (st none none) = .ok (if V.all (fun v => !joB U v c) then .nx else .ret (.fro, .bl true)) (st x4 none) := exec_for v1 rfl (by rw [v2]; exact hE)
  have eq : V.all (fun v => !joB U v c) = !(V.any fun v => joB U v c) := by rw [List.not_any_eq_all_not]
  rw [eq] at eF
  cases hq : V.any fun v => joB U v c with
  | true => rw [hq] at eF; exact ⟨_, callN_ret (n := n + 1) hj (execs_cons c1 (execs_ret eF))⟩
  | false => rw [hq] at eF; exact ⟨_, callN_ret (n := n + 1) (s := st x4 none) hj (execs_cons c1 (execs_cons eF (execs_ret (exec_ret rfl rfl))))⟩
/-! ### Lineage.link of what fits -/
theorem fget_put {f : Nat} {x : Bool × T} : ∀ {l : List (Nat × Bool × T)}, fget f (fput f x l) = some x
  | [] => by unfold fput fget; rw [if_pos rfl]
  | (g, y) :: r => by
    unfold fput
    by_cases h : g = f
    · rw [if_pos h]; unfold fget; rw [if_pos h]
    · rw [if_neg h]; unfold fget; rw [if_neg h]; exact fget_put
theorem fget_ne {f g : Nat} {x : Bool × T} (h : g ≠ f) : ∀ {l : List (Nat × Bool × T)}, fget f (fput g x l) = fget f l
  | [] => by unfold fput fget; rw [if_neg h]; rfl
  | (a, y) :: r => by
    unfold fput
    by_cases e : a = g
    · rw [if_pos e]; unfold fget; rw [if_neg (by omega), if_neg (by omega)]
    · rw [if_neg e]; unfold fget
      by_cases e2 : a = f
      · rw [if_pos e2, if_pos e2]
      · rw [if_neg e2, if_neg e2]; exact fget_ne h
def upd (U : Nat → List Nat) (k : Nat) (V : List Nat) : Nat → List Nat := fun i => if i = k then V else U i
theorem look_none {key : Nat → Nat} {val : Nat → T} {k : Nat} (hI : Inj key (k + 1)) : T.look (.str (key k)) ((List.range k).map fun i => (T.str (key i), val i)) = none := by
  rw [look_map fun i hi h => hI k i (Nat.lt_succ_self k) (Nat.lt_succ_of_lt (List.mem_range.mp hi)) h, if_neg (by simp)]
theorem put_bas {key : Nat → Nat} {U : Nat → List Nat} {k : Nat} {V : List Nat} (hI : Inj key (k + 1)) : T.put (.str (key k)) (.tup (V.map (nmT key))) (basV key U k) = basV key (upd U k V) (k + 1) := by
  unfold basV
  rw [put_none (look_none (val := fun i => T.tup ((U i).map (nmT key))) hI), List.range_succ, List.map_append]
  congr 1
  · refine List.map_congr_left fun i hi => ?_
    have := List.mem_range.mp hi
    unfold upd
    rw [if_neg (by omega)]
  · show _ = [(T.str (key k), T.tup ((upd U k V k).map (nmT key)))]
    rw [show upd U k V k = V from if_pos rfl]
theorem put_ups {key : Nat → Nat} {U : Nat → List Nat} {k : Nat} {V : List Nat} (hI : Inj key (k + 1)) : T.put (.str (key k)) (.lst (V.map (nmT key))) (upsV key U k) = upsV key (upd U k V) (k + 1) := by
  unfold upsV
  rw [put_none (look_none (val := fun i => T.lst ((U i).map (nmT key))) hI), List.range_succ, List.map_append]
  congr 1
  · refine List.map_congr_left fun i hi => ?_
    have := List.mem_range.mp hi
    unfold upd
    rw [if_neg (by omega)]
  · show _ = [(T.str (key k), T.lst ((upd U k V k).map (nmT key)))]
    rw [show upd U k V k = V from if_pos rfl]
theorem wf_upd {U : Nat → List Nat} {k : Nat} {V : List Nat} (h : Wf U k) (hV : ∀ v ∈ V, v < k) (hz : V.length ≤ 3) : Wf (upd U k V) (k + 1) := fun i hi => by
  unfold upd
  by_cases e : i = k
  · rw [if_pos e]; subst e; exact ⟨hV, hz⟩
  · rw [if_neg e]; exact h i (by omega)
def lkC (f : Nat) (x : T) (kvs : List (T × T)) (o : Nat) (bx : Bx) (hp : List Bx) : List Bx := hp.set o { bx with fs := fput f (true, .dct (T.put x x kvs)) bx.fs }
theorem look_len {k : Nat} (key : Nat → Nat) (U : Nat → List Nat) : (basV key U k).length = k := by unfold basV; rw [List.length_map, List.length_range]
structure LkG (Γ : Gm) (cl : Nat) : Prop extends LnG Γ cl where
  flink : Γ.fn n_Lineage_link = some fn_Lineage_link
/-- a name that is a class or not -/
theorem in_bas {Γ : Gm} {cl : Nat} (G : LnG Γ cl) {C C' : CallF} {lk : List Pl} {s : S} {o a : Nat} {bx : Bx} {key : Nat → Nat} {U : Nat → List Nat} {k x : Nat} (h0 : s.loc[0]? = some (some (.fro, .box o))) (hb : s.hp[o]? = some bx) (B : LnB bx cl key U k) (ha : s.loc[a]? = some (some (.fro, .str x))) :
    ev Γ C C' lk (.cmp .isin (.var a true) (.att (.var 0 true) n_bases_by true)) s = .ok (.fro, .bl ((T.str x).look (basV key U k)).isSome) s ∧
    ev Γ C C' lk (.cmp .notin (.var a true) (.att (.var 0 true) n_bases_by true)) s = .ok (.fro, .bl (!((T.str x).look (basV key U k)).isSome)) s :=
  ⟨ev_cmp0 (ev_varF ha) rfl (ev_fdO h0 hb (by rw [B.cls]; exact G.ne) (by rw [B.cls]; exact G.pb) B.bas rfl) rfl, ev_cmp0 (ev_varF ha) rfl (ev_fdO h0 hb (by rw [B.cls]; exact G.ne) (by rw [B.cls]; exact G.pb) B.bas rfl) rfl⟩
def linkFs (key : Nat → Nat) (U : Nat → List Nat) (k : Nat) (V : List Nat) (ins : T) (O : List (T × T)) (bx : Bx) : Bx := { bx with fs := fput n_bases_by (true, .dct (basV key (upd U k V) (k + 1))) (fput n_outer_by (true, .dct (T.put (.str (key k)) ins O)) bx.fs) }
def lnkBody : List Sm := match fn_Lineage_link.body with
  | [_, _, .for_ _ _ b, _, _, _, _] => b
  | _ => []
theorem link_ok {Γ : Gm} {cl : Nat} (G : LkG Γ cl) {n : Nat} {hp : List Bx} {lk : List Pl} (hl : Un lk) {o : Nat} (hlo : lk.contains (.fd o n_outer_by) = false) (hlb : lk.contains (.fd o n_bases_by) = false) {bx : Bx} {key : Nat → Nat} {U : Nat → List Nat} {k : Nat} (hb : hp[o]? = some bx) (B : LnB bx cl key U k) (X : Cx key U k)
    {V : List Nat} (hV : ∀ v ∈ V, v < k) (hz : V.length ≤ 3) (hp' : V.Pairwise (fun a b => ¬ ∃ x, Re U a x ∧ Re U b x)) (hI : Inj key (k + 1)) {O : List (T × T)} (hO : fget n_outer_by bx.fs = some (true, .dct O)) (hOl : O.length < 900) {ins : T} (hi : ins = .non ∨ ∃ j, j < k ∧ ins = .str (key j)) :
    ∃ l, callN Γ (n + 5) n_Lineage_link [(.fro, .box o), (.fro, .str (key k)), (.fro, ins), (.fro, .tup (V.map (nmT key)))] hp lk = .ok (.fro, .non) ⟨l, hp.set o (linkFs key U k V ins O bx)⟩ := by
  let C := callN Γ (n + 4)
  let C' := callN Γ (n + 3)
  let L := V.map (nmT key)
  let st := fun (x4 x5 : Option (Mo × T)) (hp : List Bx) => (⟨[some (.fro, .box o), some (.fro, .str (key k)), some (.fro, ins), some (.fro, .tup L), x4, x5], hp⟩ : S)
  have hcl : bx.cls ≠ 0 := by rw [B.cls]; exact G.ne
  have hlen : o < hp.length := (List.getElem?_eq_some_iff.mp hb).1
  have q0 : ((T.str (key k)).look (basV key U k)).isSome = false := by unfold basV; rw [look_none hI]; rfl
  have q1 : ∀ j, j < k → ((T.str (key j)).look (basV key U k)).isSome = true := fun j hj => by rw [look_bas X.inj hj]; rfl
  have c1 := (in_bas G.toLnG (C := C) (C' := C') (lk := lk) (s := st none none hp) (a := 1) (x := key k) rfl hb B rfl).1
  rw [q0] at c1
  have c2 : ev Γ C C' lk (.and (.cmp .notn (.var 2 true) (.cst .non)) (.cmp .notin (.var 2 true) (.att (.var 0 true) n_bases_by true))) (st none none hp) = .ok (.fro, .bl false) (st none none hp) := by
    rcases hi with rfl | ⟨j, hj, rfl⟩
    · exact ev_and (m := .fro) (k := false) rfl rfl
    · refine ev_and (m := .fro) (k := true) (s1 := st none none hp) rfl ?_
      have := (in_bas G.toLnG (C := C) (C' := C') (lk := lk) (s := st none none hp) (a := 2) (x := key j) rfl hb B rfl).2
      rw [q1 j hj] at this
      exact this
  obtain ⟨s3, h3, x4, rfl⟩ := forL_all (lk := lk) (nmT key) (g := .one 4) (body := fun s => execs Γ C C' lk lnkBody s) (fun s => ∃ x4, s = st x4 none hp) (fun _ => true) (v := (.fro, .non)) V (st none none hp) ⟨_, rfl⟩ fun v hv s hs => by
    obtain ⟨x4, rfl⟩ := hs
    have := (in_bas G.toLnG (C := C) (C' := C') (lk := lk) (s := st (some (.fro, nmT key v)) none hp) (a := 4) (x := key v) rfl hb B rfl).2
    rw [q1 v (hV v hv)] at this
    exact ⟨st (some (.fro, nmT key v)) none hp, st (some (.fro, nmT key v)) none hp, bind_slot (hl 4) rfl, execs_cons (exec_ite (t := false) this rfl rfl) rfl, _, rfl⟩
  rw [if_pos (List.all_eq_true.mpr fun _ _ => rfl)] at h3
  have c3 : exec Γ C C' lk (.for_ (.one 4) (.var 3 true) lnkBody) (st none none hp) = .ok .nx (st x4 none hp) :=
    exec_for (x := (.fro, .tup L)) (s1 := st none none hp) rfl (items_tup (by show (List.map _ _).length ≤ _; rw [List.length_map]; unfold szL; omega)) h3
  obtain ⟨l, hj⟩ := jb_ok G.toLnG (n := n) (lk := lk.filter Pl.isFd) (un_fd _) hb B X hV hz hp'
  let s5 := st x4 (some (.fro, .non)) hp
  have c4 : exec Γ C C' lk (.set (.one 5) (.meth (.var 0 true) n_joined_base [(.var 3 true)] [])) (st x4 none hp) = .ok .nx s5 :=
    exec_set (v := (.fro, .non)) (s1 := st x4 none hp) (ev_meth (md := .fro) (n := o) (bx := bx) (s1 := st x4 none hp) (s2 := st x4 none hp) (vs := [(.fro, .tup L)]) rfl hb hcl (by rw [B.cls]; exact G.mjb) B.nj rfl rfl
      (callB_ok (s' := ⟨l, hp⟩) (l := [(.fro, .box o), (.fro, .tup L)]) G.fjb rfl hj)) (bind_slot (hl 5) rfl)
  let bx1 : Bx := { bx with fs := fput n_outer_by (true, .dct (T.put (.str (key k)) ins O)) bx.fs }
  let hp1 := hp.set o bx1
  let s6 := st x4 (some (.fro, .non)) hp1
  have b1 : hp1[o]? = some bx1 := List.getElem?_set_self hlen
  have c6 : exec Γ C C' lk (.seti (.at (.var 0 true) n_outer_by) (.var 1 false) (.var 2 false)) s5 = .ok .nx s6 := by
    have := exec_setiP (Γ := Γ) (C := C) (C' := C') (lk := lk) (p := .at (.var 0 true) n_outer_by) (k := .var 1 false) (e := .var 2 false) (v := (.fro, ins)) (y := (.fro, .str (key k))) (pl := .fd o n_outer_by) (kv0 := O) (kvs := O) (s := s5) (s1 := s5) (s2 := s5) (s3 := s5)
      rfl rfl (ev_fdO (a := 0) rfl hb hcl (by rw [B.cls]; exact G.po) hO rfl) hlo rfl rfl rfl (rp_fd hlo hb hO) (by unfold szL; omega)
    rw [this, wp_fd hb]
  have B1 : fget n_bases_by bx1.fs = some (true, .dct (basV key U k)) := by
    show fget n_bases_by (fput n_outer_by _ bx.fs) = _
    rw [fget_ne (by decide)]; exact B.bas
  have c7 : exec Γ C C' lk (.seti (.at (.var 0 true) n_bases_by) (.var 1 false) (.bi .tuple [(.var 3 true)])) s6 = .ok .nx (st x4 (some (.fro, .non)) (hp.set o (linkFs key U k V ins O bx))) := by
    have := exec_setiP (Γ := Γ) (C := C) (C' := C') (lk := lk) (p := .at (.var 0 true) n_bases_by) (k := .var 1 false) (e := .bi .tuple [(.var 3 true)]) (v := (.fro, .tup L)) (y := (.fro, .str (key k))) (pl := .fd o n_bases_by) (kv0 := basV key U k) (kvs := basV key U k) (s := s6) (s1 := s6) (s2 := s6) (s3 := s6)
      rfl rfl (ev_fdO (a := 0) rfl b1 hcl (by show Γ.prop bx.cls _ = _; rw [B.cls]; exact G.pb) B1 rfl) hlb rfl rfl rfl (rp_fd hlb b1 B1) (by rw [look_len]; have := X.le; unfold szL; omega)
    rw [this, wp_fd b1]
    show Res.ok Fl.nx (st x4 _ (List.set (hp.set o bx1) o _)) = _
    rw [List.set_set]
    dsimp only
    rw [put_bas hI]; rfl
  exact ⟨_, callN_nx (n := n + 3) G.flink (execs_cons (exec_ite (t := false) c1 rfl rfl) (execs_cons (exec_ite (t := false) c2 rfl rfl) (execs_cons c3 (execs_cons c4 (execs_cons (s1 := s5) (exec_ite (t := false) (v := (.fro, .bl false)) rfl rfl rfl) (execs_cons c6 (execs_cons c7 rfl)))))))⟩
/-! ### names, several digits, products at a place that is computed -/
def lstOf : Ex → List T
  | .lst es => es.filterMap fun e => match e with | .cst t => some t | _ => none
  | _ => []
def poolL : List T := match fn__law_name.body with
  | [.set _ a, .set _ (.bin _ _ b), _] => lstOf a ++ lstOf b
  | _ => []
def poolN : List Nat := poolL.map fun t => match t with | .str k => k | _ => 0
def nm (d k : Nat) : Nat := (poolN[(d + 7 * k) % 26]?).getD 0
theorem pool_eq : poolL = poolN.map .str := by rfl
theorem pool_len : poolN.length = 26 := by rfl
theorem nm_inj : ∀ d, d < 26 → ∀ a, a < 26 → ∀ b, b < 26 → nm d a = nm d b → a = b := by decide +kernel
theorem name_ok {Γ : Gm} (hf : Γ.fn n__law_name = some fn__law_name) {n : Nat} {hp : List Bx} (d k : Nat) : ∃ l, callN Γ (n + 2) n__law_name [(.fro, .int (d : Nat)), (.fro, .int (k : Nat))] hp [] = .ok (.fro, .str (nm d k)) ⟨l, hp⟩ := by
  let C := callN Γ (n + 1)
  let C' := callN Γ n
  let st := fun (x : Option (Mo × T)) => (⟨[some (.fro, .int (d : Nat)), some (.fro, .int (k : Nat)), x], hp⟩ : S)
  refine ⟨_, callN_ret (n := n) (s := st (some (.own, .lst poolL))) hf (execs_cons (s1 := st (some (.own, .lst (poolL.take 17)))) rfl (execs_cons (s1 := st (some (.own, .lst poolL))) rfl (execs_ret (exec_ret (v := (.fro, .str (nm d k))) ?_ rfl))))⟩
  have e : (((d + 7 * k) % 26 : Nat) : Int) = (((d : Nat) : Int) + 7 * ((k : Nat) : Int)) % 26 := by omega
  refine ev_sub (x := (.bor (some (.sl 2)), .lst poolL)) (y := (.fro, .int (((d + 7 * k) % 26 : Nat) : Int))) (s1 := st (some (.own, .lst poolL))) (s2 := st (some (.own, .lst poolL))) rfl ?_ (sub_lst ?_)
  · rw [e]
    exact ev_bin (x := (.fro, .int (((d : Nat) : Int) + 7 * ((k : Nat) : Int)))) (y := (.fro, .int 26)) (s1 := st (some (.own, .lst poolL))) (s2 := st (some (.own, .lst poolL)))
      (ev_bi (evs_cons (ev_bin (x := (.fro, .int (d : Nat))) (y := (.fro, .int (7 * ((k : Nat) : Int)))) (s1 := st (some (.own, .lst poolL))) (s2 := st (some (.own, .lst poolL))) rfl (ev_bin (x := (.fro, .int 7)) (y := (.fro, .int (k : Nat))) (s1 := st (some (.own, .lst poolL))) (s2 := st (some (.own, .lst poolL))) rfl rfl (bin_mul (.inr (by decide)))) rfl) rfl) rfl) rfl (bin_mod (by decide))
  · have hlt : (d + 7 * k) % 26 < poolN.length := by rw [pool_len]; omega
    rw [pool_eq, List.getElem?_map, List.getElem?_eq_getElem hlt]
    unfold nm
    rw [List.getElem?_eq_getElem hlt]; rfl
theorem name_e {Γ : Gm} (hf : Γ.fn n__law_name = some fn__law_name) {n d k : Nat} {C' : CallF} {s : S} {a b : Ex} {m1 m2 : Md} (ha : ev Γ (callN Γ (n + 2)) C' [] a s = .ok (.fro, .int (d : Nat)) s) (hb : ev Γ (callN Γ (n + 2)) C' [] b s = .ok (.fro, .int (k : Nat)) s) :
    ev Γ (callN Γ (n + 2)) C' [] (.call n__law_name [a, b] []) s = .ok (.fro, .str (nm d k)) s := by
  obtain ⟨l, h⟩ := name_ok hf (n := n) (hp := s.hp) d k
  exact ev_call (vs := [(.fro, .int (d : Nat)), (.fro, .int (k : Nat))]) (s1 := s) (evs_cons0 ha rfl (evs_cons0 hb rfl rfl)) rfl (callB_ok (s' := ⟨l, s.hp⟩) (l := [(.fro, .int (d : Nat)), (.fro, .int (k : Nat))]) hf rfl h)
theorem digits_e {Γ : Gm} (hd : Γ.fn n__law_digits = some fn__law_digits) (ns : List Int) (at_ : Nat) (sz : List Int) (hz : ∀ z ∈ sz, 0 < z ∧ z < 1073741824) (hn : sz.length ≤ 900) (n : Nat) (C' : CallF) (s : S) {a e : Ex} (h0 : s.loc[0]? = some (some (.fro, .lst (ns.map .int)))) (ha : ev Γ (callN Γ (n + 2)) C' [] a s = .ok (.fro, .int (at_ : Nat)) s) (he : ev Γ (callN Γ (n + 2)) C' [] e s = .ok (.own, .lst (sz.map .int)) s) :
    ev Γ (callN Γ (n + 2)) C' [] (.call n__law_digits [(.var 0 true), a, e] []) s = .ok (.own, .lst ((digs ns at_ sz).map .int)) s := by
  obtain ⟨l, h⟩ := digits_eq (Γ := Γ) hd (n := n) (ns := ns) (sz := sz) (at_ := at_) (hp := s.hp) (lk := []) un_nil hz (by omega)
  exact ev_call (vs := [(.fro, .lst (ns.map .int)), (.fro, .int at_), (.own, .lst (sz.map .int))]) (s1 := s) (evs_cons0 (ev_varF h0) rfl (evs_cons0 ha rfl (evs_cons he rfl))) rfl (callB_ok (s' := ⟨l, s.hp⟩) (l := [(.fro, .lst (ns.map .int)), (.fro, .int at_), (.fro, .lst (sz.map .int))]) hd rfl h)
/-- the digits as numbers, below their sizes -/
theorem digs_nat (ns : List Int) (at_ : Nat) {sz : List Int} (hz : ∀ z ∈ sz, 0 < z ∧ z < 1073741824) : ∃ es : List Nat, digs ns at_ sz = es.map (fun e : Nat => (e : Int)) ∧ es.length = sz.length ∧ ∀ (i e : Nat) (z : Int), es[i]? = some e → sz[i]? = some z → (e : Int) < z := by
  have h := fun (i : Nat) (d z : Int) (h1 : (digs ns at_ sz)[i]? = some d) (h2 : sz[i]? = some z) => digs_rng (fun y hy => (hz y hy).1) h1 h2
  have hl : (digs ns at_ sz).length = sz.length := digs_len
  generalize digs ns at_ sz = ds at h hl
  refine ⟨ds.map Int.toNat, ?_, by rw [List.length_map, hl], fun i e z h1 h2 => ?_⟩
  · rw [List.map_map]
    have : ∀ d ∈ ds, ((fun e : Nat => (e : Int)) ∘ Int.toNat) d = id d := fun d hd => by
      obtain ⟨i, hi, rfl⟩ := List.getElem_of_mem hd
      have := h i ds[i] (sz[i]'(by omega)) (List.getElem?_eq_getElem hi) (List.getElem?_eq_getElem (by omega))
      show ((ds[i].toNat : Nat) : Int) = ds[i]
      omega
    rw [List.map_congr_left this, List.map_id]
  · rw [List.getElem?_map] at h1
    cases hd : ds[i]? with
    | none => rw [hd] at h1; cases h1
    | some d =>
      rw [hd] at h1
      obtain rfl : d.toNat = e := Option.some.inj h1
      have := h i d z hd h2
      omega
/-! ### exceptions -/
section
variable {Γ : Gm} {C C' : CallF} {lk : List Pl} {s s1 s2 s3 : S}
theorem callN_exc {n f : Nat} {fd : Fn} {as : List (Mo × T)} {hp : List Bx} {c : Nat} {xs : List T} (hf : Γ.fn f = some fd) (h : execs Γ (callN Γ (n + 1)) (callN Γ n) lk fd.body ⟨as.map some ++ List.replicate (fd.nl - as.length) none, hp⟩ = .exc c xs s) :
    callN Γ (n + 2) f as hp lk = .exc c xs s := by
  show (match Γ.fn f with
    | some fd => (execs Γ (callN Γ (n + 1)) (callN Γ n) lk fd.body ⟨as.map some ++ List.replicate (fd.nl - as.length) none, hp⟩).bind fun r s =>
      match r with
      | .nx => .ok (.fro, .non) s
      | .ret v => .ok v s
      | _ => .no
    | none => .no : Res V) = _
  rw [hf]
  dsimp only
  rw [h]; rfl
theorem callB_exc {f : Nat} {fd : Fn} {as l : List (Mo × T)} {ks : List Nat} {c : Nat} {xs : List T} {s' : S} (hf : Γ.fn f = some fd) (hb : bindArgs fd as ks = some l) (hc : C f l s.hp (lk.filter Pl.isFd) = .exc c xs s') : callB Γ C lk f as ks s = .exc c xs { s with hp := s'.hp } := by
  unfold callB
  rw [hf]
  dsimp only
  rw [hb]
  dsimp only
  unfold callR
  rw [hc]
theorem exec_exp {e : Ex} {v : V} (h : ev Γ C C' lk e s = .ok v s1) : exec Γ C C' lk (.exp e) s = .ok .nx s1 := by
  rw [exec, h]; rfl
theorem exec_expE {e : Ex} {c : Nat} {xs : List T} (h : ev Γ C C' lk e s = .exc c xs s1) : exec Γ C C' lk (.exp e) s = .exc c xs s1 := by
  rw [exec, h]; rfl
theorem exec_rai {c : Nat} {as : List Ex} {vs : List V} (h : evs Γ C C' lk as s = .ok vs s1) (hs : stoAll vs = true) (ha : Γ.arity c = some vs.length) : exec Γ C C' lk (.rai c as) s = .exc c (vals vs) s1 := by
  rw [exec, h]
  show (if stoAll vs && Γ.arity c == some vs.length then _ else _) = _
  rw [hs, ha, if_pos (by simp)]
theorem exec_tr {b : List Sm} {h : Hd} {f : Fl} (e : execs Γ C C' lk b s = .ok f s1) : exec Γ C C' lk (.tr b h) s = .ok f s1 := by
  rw [exec, e]
theorem exec_trE {b : List Sm} {h : Hd} {c : Nat} {xs : List T} {r : Res Fl} (e : execs Γ C C' lk b s = .exc c xs s1) (hr : exh Γ C C' lk h c xs s1 = r) : exec Γ C C' lk (.tr b h) s = r := by
  rw [exec, e]; exact hr
theorem exh_hit {c d i : Nat} {xs : List T} {b : List Sm} {r : Hd} {f : Fl} (hs : Γ.sub d c = true) (hl : lk.contains (.sl i) = false) (h : execs Γ C C' lk b { s with loc := s.loc.set i (some (.xc, .exc d xs)) } = .ok f s1) :
    exh Γ C C' lk (.cons c (some i) b r) d xs s = .ok f (wipe (.one i) s1) := by
  have e : exh Γ C C' lk (.cons c (some i) b r) d xs s = (if Γ.sub d c then
      (if lk.contains (.sl i) then .no else (noExc (execs Γ C C' lk b { s with loc := s.loc.set i (some (.xc, .exc d xs)) })).bind fun f s3 => .ok f (wipe (.one i) s3))
      else exh Γ C C' lk r d xs s) := by (conv => lhs; unfold exh)
  rw [e, if_pos hs, hl, if_neg (by decide), h]; rfl
theorem exh_miss {c d : Nat} {x : Option Nat} {xs : List T} {b : List Sm} {r : Hd} {q : Res Fl} (hs : Γ.sub d c = false) (h : exh Γ C C' lk r d xs s = q) : exh Γ C C' lk (.cons c x b r) d xs s = q := by
  rw [← h]
  conv => lhs; unfold exh
  rw [hs]; rfl
/-- d.get(k, x) of a dict with text keys -/
theorem ev_get {e k d : Ex} {md : Md} {kvs : List (T × T)} {x : T} {y : V} (he : ev Γ C C' lk e s = .ok (md, .dct kvs) s1) (hk : ∀ lk', ev Γ C C' lk' k s1 = .ok (.fro, x) s1) (hx : x.isKey = true) (hd : ∀ lk', ev Γ C C' lk' d s1 = .ok y s1) (hy : y.1.sto = true) :
    ev Γ C C' lk (.get e [k, d]) s = .ok (.fro, (x.look kvs).getD y.2) s1 := by
  rw [ev, he]
  show (if isDct (.dct kvs) then (evs Γ C C' (lks (md, .dct kvs) ++ lk) [k, d] s1).bind fun vs s2 => getR (.dct kvs) vs s2 else .no : Res V) = _
  rw [if_pos (show isDct (.dct kvs) = true from rfl), evs_cons (hk _) (evs_cons (hd _) rfl)]
  show (if x.isKey && y.1.sto then okF ((x.look kvs).getD y.2) s1 else .no : Res V) = _
  rw [hx, hy]; rfl
end
/-! ### loops that end at the first that fails; names that are known or not -/
section
variable {Γ : Gm} {C C' : CallF} {lk : List Pl} {s s1 s2 s3 : S}
/-- how a loop ends early -/
def endR (e : V ⊕ (Nat × List T)) (s : S) : Res Fl := match e with
  | .inl v => .ok (.ret v) s
  | .inr p => .exc p.1 p.2 s
theorem forL_find {α : Type} (h : α → T) {g : Tg} {body : S → Res Fl} (I : S → Prop) (q : α → Bool) (E : α → V ⊕ (Nat × List T)) :
    ∀ (R : List α) (s : S), I s → (∀ r ∈ R, ∀ s, I s → ∃ s1 s2, bindTg lk g (.fro, h r) s = some s1 ∧ body s1 = (if q r then .ok .nx s2 else endR (E r) s2) ∧ I s2) →
    ∃ s', forL lk g body (R.map h) s = (match R.find? (fun r => !q r) with
      | none => .ok .nx s'
      | some r => endR (E r) s') ∧ I s'
  | [], s, hI, _ => ⟨s, rfl, hI⟩
  | r :: R, s, hI, hh => by
    obtain ⟨s1, s2, h1, h2, h3⟩ := hh r List.mem_cons_self s hI
    cases hq : q r with
    | true =>
      rw [hq, if_pos rfl] at h2
      obtain ⟨s', h4, h5⟩ := forL_find h (body := body) I q E R s2 h3 fun r' hr => hh r' (List.mem_cons_of_mem _ hr)
      refine ⟨s', ?_, h5⟩
      rw [List.map_cons, List.find?_cons, hq]
      exact forL_cons h1 (.inl h2) h4
    | false =>
      rw [hq, if_neg (by decide)] at h2
      refine ⟨s2, ?_, h3⟩
      rw [List.map_cons, List.find?_cons, hq]
      show forL lk g body (h r :: R.map h) s = endR (E r) s2
      unfold forL
      rw [h1]
      show (body s1).bind _ = _
      rw [h2]
      cases E r <;> rfl
theorem execs_end {c : Sm} {cs : List Sm} {e : V ⊕ (Nat × List T)} (h : exec Γ C C' lk c s = endR e s1) : execs Γ C C' lk (c :: cs) s = endR e s1 := by
  cases e with
  | inl v => exact execs_ret h
  | inr p => exact execs_exc h
theorem callN_end {n f : Nat} {fd : Fn} {as : List (Mo × T)} {hp : List Bx} {e : V ⊕ (Nat × List T)} (hf : Γ.fn f = some fd) (h : execs Γ (callN Γ (n + 1)) (callN Γ n) lk fd.body ⟨as.map some ++ List.replicate (fd.nl - as.length) none, hp⟩ = endR e s) :
    callN Γ (n + 2) f as hp lk = (match e with | .inl v => .ok v s | .inr p => .exc p.1 p.2 s) := by
  cases e with
  | inl v => exact callN_ret hf h
  | inr p => exact callN_exc hf h
end
/-- a class has this name -/
def kn (key : Nat → Nat) (k x : Nat) : Bool := ((List.range k).map key).contains x
theorem kn_iff {key : Nat → Nat} {k x : Nat} : kn key k x = true ↔ ∃ i, i < k ∧ key i = x := by
  unfold kn
  rw [List.contains_iff_mem, List.mem_map]
  constructor
  · rintro ⟨i, h1, h2⟩; exact ⟨i, List.mem_range.mp h1, h2⟩
  · rintro ⟨i, h1, h2⟩; exact ⟨i, List.mem_range.mpr h1, h2⟩
theorem look_any {key : Nat → Nat} {val : Nat → T} {x : Nat} : ∀ {L : List Nat}, (T.look (.str x) (L.map fun i => (T.str (key i), val i))).isSome = (L.map key).contains x
  | [] => rfl
  | i :: L => by
    have ih := look_any (key := key) (val := val) (x := x) (L := L)
    show (if (T.str x).eqv (.str (key i)) then some (val i) else T.look (.str x) (L.map fun i => (T.str (key i), val i))).isSome = _
    rw [eqv_str, List.map_cons, List.contains_cons]
    cases h : x == key i with
    | true => rfl
    | false => rw [if_neg (by decide), ih]; rfl
theorem look_kn {key : Nat → Nat} {U : Nat → List Nat} {k x : Nat} : ((T.str x).look (basV key U k)).isSome = kn key k x := look_any
theorem ord_kn {key : Nat → Nat} {k x : Nat} : (T.str x).isIn (ordV key k) = kn key k x := by
  unfold ordV kn
  rw [map_key, isIn_ks]
/-- the place of a known name -/
def ix (key : Nat → Nat) (k z : Nat) : Nat := ((List.range k).find? fun i => key i == z).getD 0
theorem ix_ok {key : Nat → Nat} {k z : Nat} (h : kn key k z = true) : ix key k z < k ∧ key (ix key k z) = z := by
  obtain ⟨i, h1, h2⟩ := kn_iff.mp h
  unfold ix
  cases hf : (List.range k).find? fun i => key i == z with
  | none =>
    have := List.find?_eq_none.mp hf i (List.mem_range.mpr h1)
    rw [h2] at this; simp at this
  | some j =>
    have h3 := List.mem_of_find?_eq_some hf
    have h4 := List.find?_some hf
    exact ⟨List.mem_range.mp h3, by simpa using h4⟩
theorem ix_all {key : Nat → Nat} {k : Nat} : ∀ {zs : List Nat}, (∀ z ∈ zs, kn key k z = true) → (zs.map (ix key k)).map (nmT key) = zs.map .str ∧ ∀ v ∈ zs.map (ix key k), v < k
  | [], _ => ⟨rfl, fun v hv => (nomatch hv)⟩
  | z :: zs, h => by
    obtain ⟨h1, h2⟩ := ix_all (zs := zs) fun y hy => h y (List.mem_cons_of_mem _ hy)
    obtain ⟨h3, h4⟩ := ix_ok (h z List.mem_cons_self)
    refine ⟨?_, fun v hv => ?_⟩
    · rw [List.map_cons, List.map_cons, List.map_cons, h1]
      show T.str (key (ix key k z)) :: _ = _
      rw [h4]
    · rcases List.mem_cons.mp hv with rfl | hv
      · exact h3
      · exact h2 v hv
/-- the first that is joined with an earlier one -/
noncomputable def fjI (U : Nat → List Nat) : List Nat → List Nat → Option Nat
  | _, [] => none
  | pre, v :: V => if pre.any (fun a => joB U a v) then some v else fjI U (pre ++ [v]) V
theorem fj_none {U : Nat → List Nat} : ∀ {V pre : List Nat}, pre.Pairwise (fun a b => ¬ ∃ x, Re U a x ∧ Re U b x) → fjI U pre V = none → (pre ++ V).Pairwise (fun a b => ¬ ∃ x, Re U a x ∧ Re U b x)
  | [], pre, hp, _ => by rw [List.append_nil]; exact hp
  | v :: V, pre, hp, h => by
    unfold fjI at h
    split at h
    · cases h
    · rename_i hn
      have hn : pre.any (fun a => joB U a v) = false := by simpa using hn
      have := fj_none (V := V) (pre := pre ++ [v]) (List.pairwise_append.mpr ⟨hp, List.pairwise_singleton _ _, fun a ha b hb hj => by
        obtain rfl : b = v := by simpa using hb
        exact List.any_eq_false.mp hn a ha (joB_iff.mpr hj)⟩) h
      rw [List.append_assoc] at this
      exact this
theorem fj_mem {U : Nat → List Nat} {v : Nat} : ∀ {V pre : List Nat}, fjI U pre V = some v → v ∈ V
  | [], pre, h => by cases h
  | w :: V, pre, h => by
    unfold fjI at h
    split at h
    · cases h; exact List.mem_cons_self
    · exact List.mem_cons_of_mem _ (fj_mem h)
/-- what is due to an attempt: None, or a class of errors with what it tells -/
noncomputable def dueR (key : Nat → Nat) (U : Nat → List Nat) (k x : Nat) (out : Option Nat) (zs : List Nat) : Option (Nat × Nat) :=
  if kn key k x then some (n_Taken, x) else
  match out.filter (fun y => !kn key k y) with
  | some y => some (n_Unknown, y)
  | none => match zs.find? (fun z => !kn key k z) with
    | some z => some (n_Unknown, z)
    | none => (fjI U [] (zs.map (ix key k))).map fun v => (n_Joined, key v)
def outT : Option Nat → T
  | none => .non
  | some y => .str y
theorem str_map (L : List Nat) : L.map T.str = L.map T.str := rfl
/-! ### joined_base and link, whatever is asked -/
theorem jb2_loop {Γ : Gm} {cl : Nat} (G : LnG Γ cl) {n : Nat} {hp : List Bx} {lk : List Pl} (hl : Un lk) {o : Nat} {bx : Bx} {key : Nat → Nat} {U : Nat → List Nat} {k : Nat} {x1 : Option (Mo × T)} (hb : hp[o]? = some bx) (B : LnB bx cl key U k) (X : Cx key U k) :
    ∀ (V pre K : List Nat) (x3 x4 : Option (Mo × T)), (∀ v ∈ V, v < k) → (∀ b, b ∈ K ↔ ∃ a ∈ pre, Re U a b) → (∀ b ∈ K, b < k) → pre.length + V.length ≤ 3 → K.length ≤ pre.length * 265720 →
    ∃ l, forL lk (.one 3) (fun s => execs Γ (callN Γ (n + 3)) (callN Γ (n + 2)) lk jbBody s) (V.map (nmT key)) ⟨[some (.fro, .box o), x1, some (.own, .lst (K.map (nmT key))), x3, x4, none], hp⟩ = (match fjI U pre V with
      | none => .ok .nx ⟨l, hp⟩
      | some v => .ok (.ret (.fro, .str (key v))) ⟨l, hp⟩)
  | [], pre, K, x3, x4, _, _, _, _, _ => ⟨_, rfl⟩
  | v :: V, pre, K, x3, x4, hv, hK, hKk, hz, hKl => by
    let C := callN Γ (n + 3)
    let C' := callN Γ (n + 2)
    have hvk : v < k := hv v List.mem_cons_self
    obtain ⟨l, P, h1, hu, hPk, hPl⟩ := line_ok G (n := n + 1) (lk := lk.filter Pl.isFd) (un_fd _) hb B X hvk
    have hz' : pre.length + (V.length + 1) ≤ 3 := hz
    have hK2 : K.length ≤ 2 * 265720 := Nat.le_trans hKl (Nat.mul_le_mul_right _ (by omega))
    let st := fun (K : List Nat) (x3 x4 x5 : Option (Mo × T)) => (⟨[some (.fro, .box o), x1, some (.own, .lst (K.map (nmT key))), x3, x4, x5], hp⟩ : S)
    let N3 : Option (Mo × T) := some (.fro, nmT key v)
    let F4 : Option (Mo × T) := some (.own, .lst (P.map (nmT key)))
    have hno : P.any (fun i => K.contains i) = pre.any (fun a => joB U a v) := by
      rw [Bool.eq_iff_iff, List.any_eq_true, List.any_eq_true]
      constructor
      · rintro ⟨i, h3, h4⟩
        obtain ⟨a, h5, h6⟩ := (hK i).mp (List.contains_iff_mem.mp h4)
        exact ⟨a, h5, joB_iff.mpr ⟨i, h6, (hu i).mp h3⟩⟩
      · rintro ⟨a, h3, h4⟩
        obtain ⟨i, h5, h6⟩ := joB_iff.mp h4
        exact ⟨i, (hu i).mpr h6, List.contains_iff_mem.mpr ((hK i).mpr ⟨a, h3, h5⟩)⟩
    have c1 : exec Γ C C' lk (.set (.one 4) (.meth (.var 0 true) n_line_up [(.var 3 true)] [])) (st K N3 x4 none) = .ok .nx (st K N3 F4 none) :=
      exec_set (v := (.own, .lst (P.map (nmT key)))) (s1 := st K N3 x4 none) (ev_meth (md := .fro) (n := o) (bx := bx) (s1 := st K N3 x4 none) (s2 := st K N3 x4 none) (vs := [(.fro, .str (key v))]) rfl hb (by rw [B.cls]; exact G.ne) (by rw [B.cls]; exact G.mline) B.nl rfl rfl
        (callB_ok (s' := ⟨l, hp⟩) (l := [(.fro, .box o), (.fro, .str (key v))]) G.fline rfl h1)) (bind_slot (hl 4) rfl)
    have hany : ev Γ C C' lk (.bi .any [(.comp (.cmp .isin (.var 5 true) (.var 2 true)) (.one 5) (.var 4 true) none)]) (st K N3 F4 none) = .ok (.fro, .bl (P.any fun i => K.contains i)) (st K N3 F4 none) := by
      refine ev_any (md := .own) ?_
      have hl4 : (.sl 4 :: lk : List Pl).contains (.sl 5) = false := by rw [List.contains_cons, hl 5]; rfl
      refine ev_comp (x := (.bor (some (.sl 4)), .lst (P.map (nmT key)))) (s1 := st K N3 F4 none) (s2 := st K N3 F4 none) (xs := P.map (nmT key)) (rd_own rfl rfl) rfl ?_
      refine compL_all (nmT key) (fun i => T.bl (K.contains i)) (R := P) (S0 := st K N3 F4 none) rfl fun i hi => ?_
      refine ⟨st K N3 F4 (some (.fro, nmT key i)), .fro, bind_slot hl4 rfl, rfl, ?_, rfl⟩
      rw [← mem_key X.inj hKk (hPk i hi)]
      exact ev_cmp0 (x := (.fro, .str (key i))) (y := (.bor (some (.sl 2)), .lst (K.map (nmT key)))) (s1 := st K N3 F4 (some (.fro, nmT key i))) (s2 := st K N3 F4 (some (.fro, nmT key i))) rfl rfl (rd_own rfl rfl) (cmp_inL rfl (datas_key _ _))
    rw [hno] at hany
    unfold fjI
    cases hj : pre.any (fun a => joB U a v) with
    | true =>
      rw [hj] at hany
      rw [if_pos rfl]
      exact ⟨_, forL_ret (s1 := st K N3 x4 none) (s2 := st K N3 F4 none) (bind_slot (hl 3) rfl) (execs_cons c1 (execs_ret (exec_ite (t := true) hany rfl (execs_ret (exec_ret (s1 := st K N3 F4 none) (v := (.fro, .str (key v))) rfl rfl)))))⟩
    | false =>
      rw [hj] at hany
      rw [if_neg (by decide)]
      obtain ⟨l', hr⟩ := jb2_loop G (n := n) hl hb B X (x1 := x1) V (pre ++ [v]) (K ++ P) N3 F4 (fun u h => hv u (List.mem_cons_of_mem _ h)) (fun b => by
        rw [List.mem_append, hK, hu]
        constructor
        · rintro (⟨a, h1, h2⟩ | h)
          · exact ⟨a, List.mem_append_left _ h1, h2⟩
          · exact ⟨v, by simp, h⟩
        · rintro ⟨a, h1, h2⟩
          rcases List.mem_append.mp h1 with h | h
          · exact .inl ⟨a, h, h2⟩
          · obtain rfl : a = v := by simpa using h
            exact .inr h2) (fun b hb => (List.mem_append.mp hb).elim (hKk b) (hPk b)) (by rw [List.length_append]; simp; omega) (by rw [List.length_append, List.length_append, Nat.add_mul]; simp; omega)
      refine ⟨l', forL_cons (s1 := st K N3 x4 none) (s2 := st (K ++ P) N3 F4 none) (bind_slot (hl 3) rfl) (.inl ?_) hr⟩
      refine execs_cons c1 (execs_cons (s1 := st K N3 F4 none) (exec_ite (t := false) hany rfl rfl) ?_)
      refine execs_cons (s1 := st (K ++ P) N3 F4 none) (exec_set (v := (.own, .lst ((K ++ P).map (nmT key)))) (s1 := st K N3 F4 none) ?_ (bind_slot (hl 2) rfl)) rfl
      refine ev_bin (x := (.bor (some (.sl 2)), .lst (K.map (nmT key)))) (y := (.bor (some (.sl 4)), .lst (P.map (nmT key)))) (s1 := st K N3 F4 none) (s2 := st K N3 F4 none) (rd_own rfl rfl) (rd_own rfl rfl) ?_
      rw [List.map_append]
      unfold binR
      dsimp only
      rw [if_pos ⟨rfl, by rw [List.length_map, List.length_map]; unfold szL; omega⟩]; rfl
theorem jb2_ok {Γ : Gm} {cl : Nat} (G : LnG Γ cl) {n : Nat} {hp : List Bx} {lk : List Pl} (hl : Un lk) {o : Nat} {bx : Bx} {key : Nat → Nat} {U : Nat → List Nat} {k : Nat} (hb : hp[o]? = some bx) (B : LnB bx cl key U k) (X : Cx key U k)
    {V : List Nat} (hV : ∀ v ∈ V, v < k) (hz : V.length ≤ 3) :
    ∃ l, callN Γ (n + 4) n_Lineage_joined_base [(.fro, .box o), (.fro, .tup (V.map (nmT key)))] hp lk = .ok (.fro, outT ((fjI U [] V).map key)) ⟨l, hp⟩ := by
  obtain ⟨l, h⟩ := jb2_loop G (n := n) hl hb B X (x1 := some (.fro, .tup (V.map (nmT key)))) V [] [] none none hV (fun b => by simp) (fun b hb => by cases hb) (by simpa using hz) (by simp)
  have c1 : exec Γ (callN Γ (n + 3)) (callN Γ (n + 2)) lk (.set (.one 2) (.lst [])) ⟨[some (.fro, .box o), some (.fro, .tup (V.map (nmT key))), none, none, none, none], hp⟩ = .ok .nx ⟨[some (.fro, .box o), some (.fro, .tup (V.map (nmT key))), some (.own, .lst []), none, none, none], hp⟩ := exec_set (v := (.own, .lst [])) rfl (bind_slot (hl 2) rfl)
  have c2 := exec_for (Γ := Γ) (C := callN Γ (n + 3)) (C' := callN Γ (n + 2)) (lk := lk) (g := .one 3) (it := .var 1 true) (b := jbBody) (x := (.fro, .tup (V.map (nmT key)))) (s := ⟨[some (.fro, .box o), some (.fro, .tup (V.map (nmT key))), some (.own, .lst []), none, none, none], hp⟩) (s1 := ⟨[some (.fro, .box o), some (.fro, .tup (V.map (nmT key))), some (.own, .lst []), none, none, none], hp⟩) rfl (items_tup (by rw [List.length_map]; unfold szL; omega)) h
  cases hf : fjI U [] V with
  | none =>
    rw [hf] at c2
    exact ⟨_, callN_ret (n := n + 2) (s := ⟨l, hp⟩) G.fjb (execs_cons c1 (execs_cons c2 (execs_ret (exec_ret rfl rfl))))⟩
  | some v =>
    rw [hf] at c2
    exact ⟨_, callN_ret (n := n + 2) (s := ⟨l, hp⟩) G.fjb (execs_cons c1 (execs_ret c2))⟩
/-- the names with one more -/
def updK (key : Nat → Nat) (k x : Nat) : Nat → Nat := fun i => if i = k then x else key i
theorem updK_at {key : Nat → Nat} {k x : Nat} : updK key k x k = x := if_pos rfl
theorem updK_off {key : Nat → Nat} {k x i : Nat} (h : i < k) : updK key k x i = key i := if_neg (by omega)
theorem map_off {key : Nat → Nat} {k x : Nat} {L : List Nat} (h : ∀ v ∈ L, v < k) : L.map (nmT (updK key k x)) = L.map (nmT key) := List.map_congr_left fun v hv => by
  show T.str _ = T.str _
  rw [updK_off (h v hv)]
theorem bas_off {key : Nat → Nat} {U : Nat → List Nat} {k x : Nat} (W : Wf U k) : basV (updK key k x) U k = basV key U k := List.map_congr_left fun i hi => by
  have hi := List.mem_range.mp hi
  rw [updK_off hi, map_off fun v hv => Nat.lt_trans ((W i hi).1 v hv) hi]
theorem ups_off {key : Nat → Nat} {U : Nat → List Nat} {k x : Nat} (W : Wf U k) : upsV (updK key k x) U k = upsV key U k := List.map_congr_left fun i hi => by
  have hi := List.mem_range.mp hi
  rw [updK_off hi, map_off fun v hv => Nat.lt_trans ((W i hi).1 v hv) hi]
theorem ord_off {key : Nat → Nat} {k x : Nat} : ordV (updK key k x) k = ordV key k := map_off fun v hv => List.mem_range.mp hv
theorem inj_upd {key : Nat → Nat} {k x : Nat} (hI : Inj key k) (hx : kn key k x = false) : Inj (updK key k x) (k + 1) := fun a b ha hb h => by
  have no : ∀ i, i < k → key i ≠ x := fun i hi e => by
    rw [kn_iff.mpr ⟨i, hi, e⟩] at hx; cases hx
  by_cases h1 : a = k
  · by_cases h2 : b = k
    · omega
    · rw [h1, updK_at, updK_off (by omega)] at h
      exact absurd h.symm (no b (by omega))
  · by_cases h2 : b = k
    · rw [h2, updK_at, updK_off (by omega)] at h
      exact absurd h (no a (by omega))
    · rw [updK_off (by omega), updK_off (by omega)] at h
      exact hI a b (by omega) (by omega) h
theorem cx_off {key : Nat → Nat} {U : Nat → List Nat} {k x : Nat} (X : Cx key U k) : Cx (updK key k x) U k := ⟨X.wf, fun a b ha hb h => X.inj a b ha hb (by rw [updK_off ha, updK_off hb] at h; exact h), X.le⟩
theorem lnb_off {bx : Bx} {cl : Nat} {key : Nat → Nat} {U : Nat → List Nat} {k x : Nat} (W : Wf U k) (B : LnB bx cl key U k) : LnB bx cl (updK key k x) U k := ⟨B.cls, by rw [bas_off W]; exact B.bas, B.nl, B.nj⟩
structure LeG (Γ : Gm) : Prop where
  t : Γ.arity n_Taken = some 2
  u : Γ.arity n_Unknown = some 2
  j : Γ.arity n_Joined = some 2
theorem link2_ok {Γ : Gm} {cl : Nat} (G : LkG Γ cl) (A : LeG Γ) {n : Nat} {hp : List Bx} {lk : List Pl} (hl : Un lk) {o : Nat} (hlo : lk.contains (.fd o n_outer_by) = false) (hlb : lk.contains (.fd o n_bases_by) = false) {bx : Bx} {key : Nat → Nat} {U : Nat → List Nat} {k : Nat} (hb : hp[o]? = some bx) (B : LnB bx cl key U k) (X : Cx key U k)
    {x : Nat} {out : Option Nat} {zs : List Nat} (hz : zs.length ≤ 3) {O : List (T × T)} (hO : fget n_outer_by bx.fs = some (true, .dct O)) (hOl : O.length < 900) :
    ∃ l, callN Γ (n + 5) n_Lineage_link [(.fro, .box o), (.fro, .str x), (.fro, outT out), (.fro, .tup (zs.map .str))] hp lk = (match dueR key U k x out zs with
      | none => .ok (.fro, .non) ⟨l, hp.set o (linkFs (updK key k x) U k (zs.map (ix key k)) (outT out) O bx)⟩
      | some p => .exc p.1 [.non, .str p.2] ⟨l, hp⟩) := by
  let C := callN Γ (n + 4)
  let C' := callN Γ (n + 3)
  let st := fun (x4 x5 : Option (Mo × T)) => (⟨[some (.fro, .box o), some (.fro, .str x), some (.fro, outT out), some (.fro, .tup (zs.map .str)), x4, x5], hp⟩ : S)
  have c1 := (in_bas G.toLnG (C := C) (C' := C') (lk := lk) (s := st none none) (a := 1) (x := x) rfl hb B rfl).1
  rw [look_kn] at c1
  have rai : ∀ (cc w i : Nat) (s : S), Γ.arity cc = some 2 → s.loc[i]? = some (some (.fro, .str w)) → execs Γ C C' lk [(.rai cc [(.cst .non), (.var i false)])] s = .exc cc [.non, .str w] s := fun cc w i s ha hi =>
    execs_exc (exec_rai (vs := [(.fro, .non), (.fro, .str w)]) (s1 := s) (evs_cons0 rfl rfl (evs_cons0 (ev_varF hi) rfl rfl)) rfl ha)
  cases hk1 : kn key k x with
  | true =>
    rw [hk1] at c1
    have e : dueR key U k x out zs = some (n_Taken, x) := by unfold dueR; rw [hk1, if_pos rfl]
    rw [e]
    exact ⟨_, callN_exc (n := n + 3) G.flink (execs_exc (exec_ite (t := true) c1 rfl (rai n_Taken x 1 (st none none) A.t rfl)))⟩
  | false =>
  rw [hk1] at c1
  have s1 : ∀ {cs : List Sm} {r : Res Fl}, execs Γ C C' lk cs (st none none) = r → execs Γ C C' lk (_ :: cs) (st none none) = r := fun h => execs_cons (exec_ite (t := false) (a := [(.rai n_Taken [(.cst .non), (.var 1 false)])]) (b := []) c1 rfl rfl) h
  have c2 : ev Γ C C' lk (.and (.cmp .notn (.var 2 true) (.cst .non)) (.cmp .notin (.var 2 true) (.att (.var 0 true) n_bases_by true))) (st none none) = .ok (.fro, .bl (out.filter fun y => !kn key k y).isSome) (st none none) := by
    cases out with
    | none => exact ev_and (m := .fro) (k := false) rfl rfl
    | some y =>
      refine ev_and (m := .fro) (k := true) (s1 := st none none) rfl ?_
      have := (in_bas G.toLnG (C := C) (C' := C') (lk := lk) (s := st none none) (a := 2) (x := y) rfl hb B rfl).2
      rw [look_kn] at this
      rw [if_pos rfl, this]
      show _ = Res.ok (Md.fro, T.bl (Option.filter _ (some y)).isSome) _
      rw [Option.filter_some]
      cases kn key k y <;> rfl
  cases hk2 : out.filter (fun y => !kn key k y) with
  | some y =>
    have hy : out = some y := by
      cases out with
      | none => cases hk2
      | some y' =>
        rw [Option.filter_some] at hk2
        split at hk2
        · cases hk2; rfl
        · cases hk2
    rw [hk2] at c2
    have e : dueR key U k x out zs = some (n_Unknown, y) := by unfold dueR; rw [hk1, if_neg (by decide), hk2]
    rw [e]
    subst hy
    exact ⟨_, callN_exc (n := n + 3) G.flink (s1 (execs_exc (exec_ite (t := true) c2 rfl (rai n_Unknown y 2 (st none none) A.u rfl))))⟩
  | none =>
  rw [hk2] at c2
  have s2 : ∀ {cs : List Sm} {r : Res Fl}, execs Γ C C' lk cs (st none none) = r → execs Γ C C' lk (_ :: cs) (st none none) = r := fun h => execs_cons (exec_ite (t := false) (a := [(.rai n_Unknown [(.cst .non), (.var 2 false)])]) (b := []) c2 rfl rfl) h
  obtain ⟨s3, h3, x4, rfl⟩ := forL_find (lk := lk) T.str (g := .one 4) (body := fun s => execs Γ C C' lk lnkBody s) (fun s => ∃ x4, s = st x4 none) (fun z => kn key k z) (fun z => .inr (n_Unknown, [.non, .str z])) zs (st none none) ⟨_, rfl⟩ fun z hz s hs => by
    obtain ⟨x4, rfl⟩ := hs
    have := (in_bas G.toLnG (C := C) (C' := C') (lk := lk) (s := st (some (.fro, .str z)) none) (a := 4) (x := z) rfl hb B rfl).2
    rw [look_kn] at this
    refine ⟨st (some (.fro, .str z)) none, st (some (.fro, .str z)) none, bind_slot (hl 4) rfl, ?_, _, rfl⟩
    show execs Γ C C' lk [_] _ = _
    cases hkz : kn key k z with
    | true => rw [hkz] at this; exact execs_cons (exec_ite (t := false) this rfl rfl) rfl
    | false => rw [hkz] at this; exact execs_exc (exec_ite (t := true) this rfl (rai n_Unknown z 4 _ A.u rfl))
  have c3 := exec_for (Γ := Γ) (C := C) (C' := C') (lk := lk) (g := .one 4) (it := .var 3 true) (b := lnkBody) (x := (.fro, .tup (zs.map .str))) (s := st none none) (s1 := st none none) rfl (items_tup (by rw [List.length_map]; unfold szL; omega)) h3
  cases hk3 : zs.find? (fun z => !kn key k z) with
  | some z =>
    rw [hk3] at c3
    have e : dueR key U k x out zs = some (n_Unknown, z) := by unfold dueR; rw [hk1, if_neg (by decide), hk2]; dsimp only; rw [hk3]
    rw [e]
    exact ⟨_, callN_exc (n := n + 3) G.flink (s1 (s2 (execs_exc c3)))⟩
  | none =>
  rw [hk3] at c3
  have hall : ∀ z ∈ zs, kn key k z = true := fun z hz => by
    have := List.find?_eq_none.mp hk3 z hz
    simpa using this
  obtain ⟨hVs, hVk⟩ := ix_all hall
  have e : dueR key U k x out zs = (fjI U [] (zs.map (ix key k))).map fun v => (n_Joined, key v) := by unfold dueR; rw [hk1, if_neg (by decide), hk2]; dsimp only; rw [hk3]
  rw [e]
  have hV3 : (zs.map (ix key k)).length ≤ 3 := by rw [List.length_map]; exact hz
  cases hk4 : fjI U [] (zs.map (ix key k)) with
  | some v =>
    obtain ⟨l, hj⟩ := jb2_ok G.toLnG (n := n) (lk := lk.filter Pl.isFd) (un_fd _) hb B X hVk hV3
    rw [hk4, hVs] at hj
    let s5 := st x4 (some (.fro, .str (key v)))
    have c4 : exec Γ C C' lk (.set (.one 5) (.meth (.var 0 true) n_joined_base [(.var 3 true)] [])) (st x4 none) = .ok .nx s5 :=
      exec_set (v := (.fro, .str (key v))) (s1 := st x4 none) (ev_meth (md := .fro) (n := o) (bx := bx) (s1 := st x4 none) (s2 := st x4 none) (vs := [(.fro, .tup (zs.map .str))]) rfl hb (by rw [B.cls]; exact G.ne) (by rw [B.cls]; exact G.mjb) B.nj rfl rfl
        (callB_ok (s' := ⟨l, hp⟩) (l := [(.fro, .box o), (.fro, .tup (zs.map .str))]) G.fjb rfl hj)) (bind_slot (hl 5) rfl)
    exact ⟨_, callN_exc (n := n + 3) G.flink (s1 (s2 (execs_cons c3 (execs_cons c4 (execs_exc (exec_ite (t := true) (v := (.fro, .bl true)) (s1 := s5) rfl rfl (rai n_Joined (key v) 5 s5 A.j rfl)))))))⟩
  | none =>
    have hins : outT out = .non ∨ ∃ j, j < k ∧ outT out = .str (updK key k x j) := by
      cases out with
      | none => exact .inl rfl
      | some y =>
        rw [Option.filter_some] at hk2
        cases hy : kn key k y with
        | false => rw [hy] at hk2; cases hk2
        | true =>
          obtain ⟨j, h1, h2⟩ := kn_iff.mp hy
          exact .inr ⟨j, h1, by rw [updK_off h1, h2]; rfl⟩
    have hpw := fj_none (U := U) (V := zs.map (ix key k)) (pre := []) .nil hk4
    obtain ⟨l, h⟩ := link_ok G (n := n) hl hlo hlb hb (lnb_off (x := x) X.wf B) (cx_off X) hVk hV3 hpw (inj_upd X.inj hk1) hO hOl hins
    rw [updK_at, map_off hVk, hVs] at h
    exact ⟨l, h⟩
/-! ### what is due, and what the program does -/
theorem lkG : LkG tab.gm n_Lineage := ⟨⟨rfl, rfl, rfl, rfl, rfl, rfl, rfl, by decide⟩, rfl⟩
theorem leG : LeG tab.gm := ⟨rfl, rfl, rfl⟩
def linBx (key : Nat → Nat) (U : Nat → List Nat) (k : Nat) (O : List (T × T)) : Bx := { cls := n_Lineage, fs := [(n_outer_by, true, .dct O), (n_bases_by, true, .dct (basV key U k))] }
def wrlBx (key : Nat → Nat) (U : Nat → List Nat) (k : Nat) : Bx := { cls := 0, fs := [(kUps, true, .dct (upsV key U k)), (kOrd, true, .lst (ordV key k))] }
theorem lin_b (key : Nat → Nat) (U : Nat → List Nat) (k : Nat) (O : List (T × T)) : LnB (linBx key U k O) n_Lineage key U k := ⟨rfl, rfl, rfl, rfl⟩
def tagT (c : Nat) : Nat := if c = n_Taken then 366723491439 else if c = n_Unknown then 24329359513909359 else 82946194105957
def dueT : Option (Nat × Nat) → T
  | none => .str 422607939173
  | some p => .tup [.str (tagT p.1), .non, .str p.2]
theorem put_lenP (k v : T) : ∀ kvs : List (T × T), (T.put k v kvs).length ≤ kvs.length + 1
  | [] => Nat.le_refl _
  | (a, u) :: r => by
    have := put_lenP k v r
    show (if k.eqv a then (a, v) :: r else (a, u) :: T.put k v r).length ≤ _
    split <;> (simp only [List.length_cons]; omega)
theorem dueR_cls {key : Nat → Nat} {U : Nat → List Nat} {k x : Nat} {out : Option Nat} {zs : List Nat} {p : Nat × Nat} (h : dueR key U k x out zs = some p) : p.1 = n_Taken ∨ p.1 = n_Unknown ∨ p.1 = n_Joined := by
  unfold dueR at h
  split at h
  · cases h; exact .inl rfl
  · split at h
    · cases h; exact .inr (.inl rfl)
    · split at h
      · cases h; exact .inr (.inl rfl)
      · obtain ⟨v, _, rfl⟩ := Option.map_eq_some_iff.mp h
        exact .inr (.inr rfl)
theorem cmp_notinL {Γ : Gm} {C' : CallF} {lk : List Pl} {s : S} {x : T} {ys : List T} {m m' : Md} (h1 : x.data = true) (h2 : T.datas ys = true) : cmpR Γ C' lk .notin (m, x) (m', .lst ys) s = okF (.bl (!(x.isIn ys))) s := by
  unfold cmpR inR
  dsimp only
  rw [h1, h2]; rfl
theorem cut_take (xs : List T) (i : Nat) : Mi.cut xs none (some (i : Nat)) = xs.take i := by
  unfold Mi.cut clip
  dsimp only
  rw [if_neg (by omega), List.drop_zero, Nat.sub_zero]
  by_cases h : i ≤ xs.length
  · congr 1; omega
  · rw [List.take_of_length_le (by omega), List.take_of_length_le (by omega)]
theorem fj_find {U : Nat → List Nat} : ∀ (V pre : List Nat), fjI U pre V = ((List.range V.length).find? fun i => (pre ++ V.take i).any fun a => joB U a (V.getD i 0)).map fun i => V.getD i 0
  | [], _ => rfl
  | v :: V, pre => by
    unfold fjI
    rw [List.length_cons, List.range_succ_eq_map, List.find?_cons]
    rw [List.take_zero, List.append_nil, show (v :: V).getD 0 0 = v from rfl]
    cases hj : pre.any (fun a => joB U a v) with
    | true => rfl
    | false =>
      rw [if_neg (by decide), fj_find V (pre ++ [v])]
      dsimp only
      rw [List.find?_map, Option.map_map]
      have e : ((fun i => (pre ++ (v :: V).take i).any fun a => joB U a ((v :: V).getD i 0)) ∘ Nat.succ) = fun i => (pre ++ [v] ++ V.take i).any fun a => joB U a (V.getD i 0) := by
        funext i
        show (pre ++ (v :: V).take (i + 1)).any _ = _
        rw [List.take_succ_cons, List.append_assoc]; rfl
      rw [e]; rfl
def dueB : List Sm := match fn__law_due.body with
  | [_, _, .for_ _ _ b, _, _] => b
  | _ => []
def dueC : List Sm := match fn__law_due.body with
  | [_, _, _, .for_ _ _ b, _] => b
  | _ => []
theorem due_ok {n : Nat} {hp : List Bx} {lk : List Pl} (hl : Un lk) {w : Nat} {key : Nat → Nat} {U : Nat → List Nat} {k x : Nat} {out : Option Nat} {zs : List Nat} (hz : zs.length ≤ 3) (hb : hp[w]? = some (wrlBx key U k)) (X : Cx key U k) {m : Mo} (hm : m = .fro ∨ m = .bor) :
    ∃ l, callN tab.gm (n + 5) n__law_due [(.fro, .box w), (.fro, .str x), (.fro, outT out), (m, .lst (zs.map .str))] hp lk = .ok (.fro, dueT (dueR key U k x out zs)) ⟨l, hp⟩ := by
  let Γ := tab.gm
  let C := callN Γ (n + 4)
  let C' := callN Γ (n + 3)
  let st := fun (x4 x5 : Option (Mo × T)) => (⟨[some (.fro, .box w), some (.fro, .str x), some (.fro, outT out), some (m, .lst (zs.map .str)), x4, x5], hp⟩ : S)
  have ho : ∀ lk x4 x5, ev Γ C C' lk (.sub (.var 0 true) (.cst (.str kOrd)) true) (st x4 x5) = .ok (.bor (some (.fd w kOrd)), .lst (ordV key k)) (st x4 x5) := fun lk x4 x5 => ev_bxO (a := 0) rfl hb rfl rfl rfl
  have hdat : T.datas (ordV key k) = true := datas_key _ _
  have c1 : ev Γ C C' lk (.cmp .isin (.var 1 true) (.sub (.var 0 true) (.cst (.str kOrd)) true)) (st none none) = .ok (.fro, .bl (kn key k x)) (st none none) := by
    rw [← ord_kn]
    exact ev_cmp0 (x := (.fro, .str x)) (s1 := st none none) (ev_varF rfl) rfl (ho _ _ _) (cmp_inL rfl hdat)
  have notin : ∀ (a y : Nat) (x4 x5 : Option (Mo × T)), (st x4 x5).loc[a]? = some (some (.fro, .str y)) → ev Γ C C' lk (.cmp .notin (.var a true) (.sub (.var 0 true) (.cst (.str kOrd)) true)) (st x4 x5) = .ok (.fro, .bl (!kn key k y)) (st x4 x5) := fun a y x4 x5 ha => by
    rw [← ord_kn]
    exact ev_cmp0 (x := (.fro, .str y)) (s1 := st x4 x5) (ev_varF ha) rfl (ho _ _ _) (cmp_notinL rfl hdat)
  have ret : ∀ (tag : Nat) (e : Ex) (w : Nat) (s : S), (∀ lk, ev Γ C C' lk e s = .ok (.fro, .str w) s) → execs Γ C C' lk [(.ret (.tup [(.cst (.str tag)), (.cst .non), e]))] s = .ok (.ret (.fro, .tup [.str tag, .non, .str w])) s := fun tag e w s he =>
    execs_ret (exec_ret (s1 := s) (by
      have h : evs Γ C C' lk [(.cst (.str tag)), (.cst .non), e] s = .ok [(.fro, .str tag), (.fro, .non), (.fro, .str w)] s := evs_cons0 rfl rfl (evs_cons0 rfl rfl (evs_cons0 (he _) rfl rfl))
      rw [ev, h]; rfl) rfl)
  cases hk1 : kn key k x with
  | true =>
    rw [hk1] at c1
    have e : dueR key U k x out zs = some (n_Taken, x) := by unfold dueR; rw [hk1, if_pos rfl]
    rw [e]
    exact ⟨_, callN_ret (n := n + 3) (fd := fn__law_due) rfl (execs_ret (exec_ite (t := true) c1 rfl (ret 366723491439 (.var 1 false) x (st none none) fun _ => rfl)))⟩
  | false =>
  rw [hk1] at c1
  have s1 : ∀ {cs : List Sm} {a : List Sm} {r : Res Fl}, execs Γ C C' lk cs (st none none) = r → execs Γ C C' lk (.ite (.cmp .isin (.var 1 true) (.sub (.var 0 true) (.cst (.str kOrd)) true)) a [] :: cs) (st none none) = r := fun h => execs_cons (exec_ite (t := false) c1 rfl rfl) h
  have c2 : ev Γ C C' lk (.and (.cmp .notn (.var 2 true) (.cst .non)) (.cmp .notin (.var 2 true) (.sub (.var 0 true) (.cst (.str kOrd)) true))) (st none none) = .ok (.fro, .bl (out.filter fun y => !kn key k y).isSome) (st none none) := by
    cases out with
    | none => exact ev_and (m := .fro) (k := false) rfl rfl
    | some y =>
      refine ev_and (m := .fro) (k := true) (s1 := st none none) rfl ?_
      rw [if_pos rfl, notin 2 y none none rfl, Option.filter_some]
      cases kn key k y <;> rfl
  cases hk2 : out.filter (fun y => !kn key k y) with
  | some y =>
    have hy : out = some y := by
      cases out with
      | none => cases hk2
      | some y' =>
        rw [Option.filter_some] at hk2
        split at hk2
        · cases hk2; rfl
        · cases hk2
    rw [hk2] at c2
    have e : dueR key U k x out zs = some (n_Unknown, y) := by unfold dueR; rw [hk1, if_neg (by decide), hk2]
    rw [e]
    subst hy
    exact ⟨_, callN_ret (n := n + 3) (fd := fn__law_due) rfl (s1 (execs_ret (exec_ite (t := true) c2 rfl (ret 24329359513909359 (.var 2 false) y (st none none) fun _ => rfl))))⟩
  | none =>
  rw [hk2] at c2
  have s2 : ∀ {cs : List Sm} {a : List Sm} {r : Res Fl}, execs Γ C C' lk cs (st none none) = r → execs Γ C C' lk (.ite (.and (.cmp .notn (.var 2 true) (.cst .non)) (.cmp .notin (.var 2 true) (.sub (.var 0 true) (.cst (.str kOrd)) true))) a [] :: cs) (st none none) = r := fun h => execs_cons (exec_ite (t := false) c2 rfl rfl) h
  have hv3 : ∀ lk x4 x5, ∃ md, ev Γ C C' lk (.var 3 true) (st x4 x5) = .ok (md, .lst (zs.map .str)) (st x4 x5) ∧ lks (md, .lst (zs.map .str)) = [] := fun lk x4 x5 => by
    obtain ⟨md, h1, h2, _, _⟩ := ev_par (Γ := Γ) (C := C) (C' := C') (lk := lk) (s := st x4 x5) (k := 3) (b := true) hm rfl
    exact ⟨md, h1, h2⟩
  obtain ⟨s3, h3, x4, rfl⟩ := forL_find (lk := lk) T.str (g := .one 4) (body := fun s => execs Γ C C' lk dueB s) (fun s => ∃ x4, s = st x4 none) (fun z => kn key k z) (fun z => .inl (.fro, .tup [.str 24329359513909359, .non, .str z])) zs (st none none) ⟨_, rfl⟩ fun z hz s hs => by
    obtain ⟨x4, rfl⟩ := hs
    have := notin 4 z (some (.fro, .str z)) none rfl
    refine ⟨st (some (.fro, .str z)) none, st (some (.fro, .str z)) none, bind_slot (hl 4) rfl, ?_, _, rfl⟩
    show execs Γ C C' lk [_] _ = _
    cases hkz : kn key k z with
    | true => rw [hkz] at this; exact execs_cons (exec_ite (t := false) this rfl rfl) rfl
    | false => rw [hkz] at this; exact execs_ret (exec_ite (t := true) this rfl (ret 24329359513909359 (.var 4 false) z _ fun _ => rfl))
  obtain ⟨md3, v3, l3⟩ := hv3 lk none none
  cases hk3 : zs.find? (fun z => !kn key k z) with
  | some z =>
    rw [hk3] at h3
    have c3 : exec Γ C C' lk (.for_ (.one 4) (.var 3 true) dueB) (st none none) = .ok (.ret (.fro, .tup [.str 24329359513909359, .non, .str z])) (st x4 none) := exec_for (x := (md3, .lst (zs.map .str))) v3 rfl (by rw [l3]; exact h3)
    have e : dueR key U k x out zs = some (n_Unknown, z) := by unfold dueR; rw [hk1, if_neg (by decide), hk2]; dsimp only; rw [hk3]
    rw [e]
    exact ⟨_, callN_ret (n := n + 3) (fd := fn__law_due) rfl (s1 (s2 (execs_ret c3)))⟩
  | none =>
  rw [hk3] at h3
  have c3 : exec Γ C C' lk (.for_ (.one 4) (.var 3 true) dueB) (st none none) = .ok .nx (st x4 none) := exec_for (x := (md3, .lst (zs.map .str))) v3 rfl (by rw [l3]; exact h3)
  have hall : ∀ z ∈ zs, kn key k z = true := fun z hz => by
    have := List.find?_eq_none.mp hk3 z hz
    simpa using this
  obtain ⟨hVs, hVk⟩ := ix_all hall
  let V := zs.map (ix key k)
  have hVl : V.length = zs.length := List.length_map ..
  have e : dueR key U k x out zs = (fjI U [] V).map fun v => (n_Joined, key v) := by unfold dueR; rw [hk1, if_neg (by decide), hk2]; dsimp only; rw [hk3]
  rw [e, fj_find]
  obtain ⟨s4, h4, x5, rfl⟩ := forL_find (lk := lk) (fun i : Nat => T.int (i : Nat)) (g := .one 5) (body := fun s => execs Γ C C' lk dueC s) (fun s => ∃ x5, s = st x4 x5) (fun i => !(V.take i).any fun a => joB U a (V.getD i 0)) (fun i => .inl (.fro, .tup [.str 82946194105957, .non, .str (key (V.getD i 0))])) (List.range V.length) (st x4 none) ⟨_, rfl⟩ fun i hi s hs => by
    obtain ⟨x5, rfl⟩ := hs
    have hiV := List.mem_range.mp hi
    let s1 := st x4 (some (.fro, .int (i : Nat)))
    have hgd : V.getD i 0 = V[i] := List.getElem_eq_getD .. |>.symm
    have hvk : V.getD i 0 < k := by rw [hgd]; exact hVk _ (List.getElem_mem hiV)
    have at_ : ∀ lk b, ev Γ C C' lk (.sub (.var 3 true) (.var 5 true) b) s1 = .ok (.fro, .str (key (V.getD i 0))) s1 := fun lk b => by
      obtain ⟨md, v, _⟩ := hv3 lk x4 (some (.fro, .int (i : Nat)))
      refine ev_sub (x := (md, .lst (zs.map .str))) (y := (.fro, .int (i : Nat))) (s1 := s1) (s2 := s1) v (ev_varF rfl) (sub_lst ?_)
      rw [← hVs, List.getElem?_map, List.getElem?_eq_getElem hiV, hgd]; rfl
    have sl : ev Γ C C' lk (.slc (.var 3 true) none (some (.var 5 true))) s1 = .ok (.own, .lst ((V.take i).map (nmT key))) s1 := by
      obtain ⟨md, v, _⟩ := hv3 lk x4 (some (.fro, .int (i : Nat)))
      rw [ev, v]
      show okO (.lst (Mi.cut (zs.map .str) none (some (i : Nat)))) s1 = _
      rw [cut_take, ← hVs, ← List.map_take]; rfl
    obtain ⟨l, hj⟩ := joins_ok (Γ := Γ) rfl rfl (n := n + 1) (hp := hp) (lk := lk.filter Pl.isFd) (un_fd _) (w := w) (bx := wrlBx key U k) (m1 := .fro) (.inl rfl) hb rfl rfl X hvk (V := V.take i) (fun v hv => hVk v (List.mem_of_mem_take hv))
    have hc : ev Γ C C' lk (.call n__law_joins [(.var 0 true), (.slc (.var 3 true) none (some (.var 5 true))), (.sub (.var 3 true) (.var 5 true) false)] []) s1 = .ok (.fro, .bl ((V.take i).any fun a => joB U a (V.getD i 0))) s1 :=
      ev_call (vs := [(.fro, .box w), (.own, .lst ((V.take i).map (nmT key))), (.fro, .str (key (V.getD i 0)))]) (s1 := s1) (evs_cons0 rfl rfl (evs_cons0 sl rfl (evs_cons (at_ _ _) rfl))) rfl
        (callB_ok (s' := ⟨l, hp⟩) (fd := fn__law_joins) (l := [(.fro, .box w), (.fro, .lst ((V.take i).map (nmT key))), (.fro, .str (key (V.getD i 0)))]) rfl rfl hj)
    refine ⟨s1, s1, bind_slot (hl 5) rfl, ?_, _, rfl⟩
    show execs Γ C C' lk [_] _ = _
    cases hq : (V.take i).any fun a => joB U a (V.getD i 0) with
    | false => rw [hq] at hc; exact execs_cons (exec_ite (t := false) hc rfl rfl) rfl
    | true => rw [hq] at hc; exact execs_ret (exec_ite (t := true) hc rfl (ret 82946194105957 (.sub (.var 3 true) (.var 5 true) false) _ _ fun lk => at_ lk false))
  have hr : ev Γ C C' lk (.bi .range [(.bi .len [(.var 3 true)])]) (st x4 none) = .ok (.own, .lst ((List.range V.length).map fun i => T.int (i : Nat))) (st x4 none) := by
    obtain ⟨md, v, _⟩ := hv3 lk x4 none
    have hlen : ev Γ C C' lk (.bi .len [(.var 3 true)]) (st x4 none) = .ok (.fro, .int (((zs.map T.str).length : Nat) : Int)) (st x4 none) := ev_bi (evs_cons v rfl) rfl
    have := ev_range hlen (by rw [List.length_map]; omega)
    rw [List.length_map, show ((zs.length : Nat) : Int).toNat = V.length by rw [hVl]; omega] at this
    exact this
  have c4 := exec_for (Γ := Γ) (C := C) (C' := C') (lk := lk) (g := .one 5) (b := dueC) (x := (.own, .lst ((List.range V.length).map fun i => T.int (i : Nat)))) (s := st x4 none) (s1 := st x4 none) hr rfl h4
  have eq : (fun i => !(!(V.take i).any fun a => joB U a (V.getD i 0))) = fun i => ([] ++ V.take i).any fun a => joB U a (V.getD i 0) := by
    funext i; rw [Bool.not_not, List.nil_append]
  rw [eq] at c4
  cases hk4 : (List.range V.length).find? (fun i => ([] ++ V.take i).any fun a => joB U a (V.getD i 0)) with
  | some i =>
    rw [hk4] at c4
    exact ⟨_, callN_ret (n := n + 3) (fd := fn__law_due) rfl (s1 (s2 (execs_cons c3 (execs_ret c4))))⟩
  | none =>
    rw [hk4] at c4
    exact ⟨_, callN_ret (n := n + 3) (fd := fn__law_due) (s := st x4 x5) rfl (s1 (s2 (execs_cons c3 (execs_cons c4 (execs_ret (exec_ret rfl rfl))))))⟩
theorem try_ok {n : Nat} {hp : List Bx} {o : Nat} {key : Nat → Nat} {U : Nat → List Nat} {k x : Nat} {out : Option Nat} {zs : List Nat} {O : List (T × T)} (hz : zs.length ≤ 3) (hb : hp[o]? = some (linBx key U k O)) (X : Cx key U k) (hOl : O.length < 900) {m : Mo} (hm : m = .fro ∨ m = .bor) :
    ∃ l, callN tab.gm (n + 7) n__law_try [(.fro, .box o), (.fro, .str x), (.fro, outT out), (m, .lst (zs.map .str))] hp [] = .ok (.fro, dueT (dueR key U k x out zs)) ⟨l, match dueR key U k x out zs with
      | none => hp.set o (linBx (updK key k x) (upd U k (zs.map (ix key k))) (k + 1) (T.put (.str x) (outT out) O))
      | some _ => hp⟩ := by
  let Γ := tab.gm
  let C := callN Γ (n + 6)
  let C' := callN Γ (n + 5)
  let st := fun (x4 : Option (Mo × T)) (hp : List Bx) => (⟨[some (.fro, .box o), some (.fro, .str x), some (.fro, outT out), some (m, .lst (zs.map .str)), x4], hp⟩ : S)
  obtain ⟨md, v3, l3, _, _⟩ := ev_par (Γ := Γ) (C := C) (C' := C') (lk := []) (s := st none hp) (k := 3) (b := true) hm rfl
  have bt : ev Γ C C' [] (.bi .tuple [(.var 3 true)]) (st none hp) = .ok (.fro, .tup (zs.map .str)) (st none hp) := ev_bi (evs_cons v3 rfl) rfl
  obtain ⟨l, h⟩ := link2_ok (Γ := Γ) lkG leG (n := n + 1) (hp := hp) (lk := []) un_nil (o := o) rfl rfl (bx := linBx key U k O) hb (lin_b _ _ _ _) X (x := x) (out := out) (zs := zs) hz (O := O) rfl hOl
  have meth : ∀ r : Res V, callB Γ C [] n_Lineage_link [(.fro, .box o), (.fro, .str x), (.fro, outT out), (.fro, .tup (zs.map .str))] [n_inside, n_bases] (st none hp) = r → ev Γ C C' [] (.meth (.var 0 true) n_link [(.var 1 true), (.var 2 true), (.bi .tuple [(.var 3 true)])] [n_inside, n_bases]) (st none hp) = r := fun r hr => by
    have ho2 : lks (.fro, outT out) = [] := by cases out <;> rfl
    have ha2 : argOk (.fro, outT out) = true := by cases out <;> rfl
    exact ev_meth (md := .fro) (n := o) (bx := linBx key U k O) (s1 := st none hp) (s2 := st none hp) (vs := [(.fro, .str x), (.fro, outT out), (.fro, .tup (zs.map .str))]) rfl hb (show n_Lineage ≠ 0 by decide) rfl rfl (evs_cons0 rfl rfl (evs_cons0 (ev_varF rfl) ho2 (evs_cons0 bt rfl rfl))) rfl hr
  cases hr : dueR key U k x out zs with
  | none =>
    rw [hr] at h
    have e := meth _ (callB_ok (s' := ⟨l, _⟩) (fd := fn_Lineage_link) (l := [(.fro, .box o), (.fro, .str x), (.fro, outT out), (.fro, .tup (zs.map .str))]) rfl rfl h)
    have ek : T.put (.str (updK key k x k)) (outT out) O = T.put (.str x) (outT out) O := by rw [updK_at]
    refine ⟨_, callN_ret (n := n + 5) (fd := fn__law_try) (s := st none (hp.set o (linBx (updK key k x) (upd U k (zs.map (ix key k))) (k + 1) (T.put (.str x) (outT out) O)))) rfl (execs_cons (exec_tr (execs_cons (exec_exp e) rfl)) (execs_ret ?_))⟩
    show exec Γ C C' [] _ _ = _
    rw [← ek]
    exact exec_ret rfl rfl
  | some p =>
    obtain ⟨c, w⟩ := p
    rw [hr] at h
    have h : C n_Lineage_link [(.fro, .box o), (.fro, .str x), (.fro, outT out), (.fro, .tup (zs.map .str))] hp [] = .exc c [.non, .str w] ⟨l, hp⟩ := h
    have e := meth _ (callB_exc (s' := ⟨l, hp⟩) (fd := fn_Lineage_link) (l := [(.fro, .box o), (.fro, .str x), (.fro, outT out), (.fro, .tup (zs.map .str))]) rfl rfl h)
    have suite : ∀ (tag : Nat) (c : Nat), execs Γ C C' [] [(.ret (.tup [(.cst (.str tag)), (.xf 4 1), (.xf 4 2)]))] (st (some (.xc, .exc c [.non, .str w])) hp) = .ok (.ret (.fro, .tup [.str tag, .non, .str w])) (st (some (.xc, .exc c [.non, .str w])) hp) := fun tag c => execs_ret (exec_ret rfl rfl)
    rcases dueR_cls hr with hc | hc | hc
    · have hc : c = n_Taken := hc
      subst hc
      exact ⟨_, callN_ret (n := n + 5) (fd := fn__law_try) (s := st none hp) rfl (execs_ret (exec_trE (execs_exc (exec_expE e)) (exh_hit (s1 := st (some (.xc, .exc n_Taken [.non, .str w])) hp) rfl rfl (suite 366723491439 n_Taken))))⟩
    · have hc : c = n_Unknown := hc
      subst hc
      exact ⟨_, callN_ret (n := n + 5) (fd := fn__law_try) (s := st none hp) rfl (execs_ret (exec_trE (execs_exc (exec_expE e)) (exh_miss rfl (exh_hit (s1 := st (some (.xc, .exc n_Unknown [.non, .str w])) hp) rfl rfl (suite 24329359513909359 n_Unknown)))))⟩
    · have hc : c = n_Joined := hc
      subst hc
      exact ⟨_, callN_ret (n := n + 5) (fd := fn__law_try) (s := st none hp) rfl (execs_ret (exec_trE (execs_exc (exec_expE e)) (exh_miss rfl (exh_miss rfl (exh_hit (s1 := st (some (.xc, .exc n_Joined [.non, .str w])) hp) rfl rfl (suite 82946194105957 n_Joined))))))⟩
/-! ### the law of refusals -/
theorem ev_slc {Γ : Gm} {C C' : CallF} {lk : List Pl} {s s1 s2 s3 : S} {e : Ex} {lo hi : Option Ex} {x : V} {a b : Option Int} {r : Res V} (h : ev Γ C C' lk e s = .ok x s1) (ha : evo Γ C C' (lks x ++ lk) lo s1 = .ok a s2) (hb : evo Γ C C' (lks x ++ lk) hi s2 = .ok b s3) (hr : slcR x a b s3 = r) : ev Γ C C' lk (.slc e lo hi) s = r := by
  rw [ev, h]
  show (evo Γ C C' (lks x ++ lk) lo s1).bind _ = _
  rw [ha]
  show (evo Γ C C' (lks x ++ lk) hi s2).bind _ = _
  rw [hb]; exact hr
theorem evo_int {Γ : Gm} {C C' : CallF} {lk : List Pl} {s s1 : S} {e : Ex} {m : Md} {i : Int} (h : ev Γ C C' lk e s = .ok (m, .int i) s1) : evo Γ C C' lk (some e) s = .ok (some i) s1 := by
  rw [evo, h]; rfl
theorem ev_callc {Γ : Gm} {C C' : CallF} {lk : List Pl} {s s1 : S} {f : Nat} {as : List Ex} {vs : List V} {r : Res V} (h : evs Γ C C' lk as s = .ok vs s1) (hd : vs.all (fun v => v.2.data) = true) (hr : callCR Γ C f (vs.map parOf) s1 = r) : ev Γ C C' lk (.callc f as) s = r := by
  rw [ev, h]
  show (if vs.all (fun v => v.2.data) = true then _ else _) = _
  rw [if_pos hd]; exact hr
/-- _law_same of equals that are lent -/
theorem same_c {Γ : Gm} (hf : Γ.fn n__law_same = some fn__law_same) {m : Nat} {C' : CallF} {lk : List Pl} {s s2 : S} {a b : Ex} {t : T} {ma mb : Md} (ht : t.okN 3 = true) (hd : t.data = true) (h : evs Γ (callN Γ (m + 5)) C' lk [a, b] s = .ok [(ma, t), (mb, t)] s2) :
    ev Γ (callN Γ (m + 5)) C' lk (.callc n__law_same [a, b]) s = .ok (.fro, .bl true) s2 := by
  obtain ⟨l, hs⟩ := same_refl hf 3 t ht m [] [] ma.par mb.par un_nil (par_own _) (par_own _)
  refine ev_callc h (by rw [List.all_cons, List.all_cons, hd]; rfl) ?_
  unfold callCR
  rw [hf]
  dsimp only
  show (match callN Γ (m + 5) n__law_same [(ma.par, t), (mb.par, t)] [] [] with
      | .ok v _ => (match v.2 with
        | .bl b => okF (.bl b) s2
        | _ => .no)
      | _ => .no : Res V) = _
  rw [hs]; rfl
theorem same_evL {Γ : Gm} (hf : Γ.fn n__law_same = some fn__law_same) {m : Nat} {C' : CallF} {lk : List Pl} {s s2 : S} {a b : Ex} {t : T} {ma mb : Md} (ht : t.okN 3 = true) (h : evs Γ (callN Γ (m + 5)) C' lk [a, b] s = .ok [(ma, t), (mb, t)] s2) (hk : argsOk' [(ma, t), (mb, t)] = true) :
    ev Γ (callN Γ (m + 5)) C' lk (.call n__law_same [a, b] []) s = .ok (.fro, .bl true) s2 := by
  obtain ⟨l, hs⟩ := same_refl hf 3 t ht m s2.hp (lk.filter Pl.isFd) ma.par mb.par (un_fd _) (par_own _) (par_own _)
  exact ev_call (vs := [(ma, t), (mb, t)]) (s1 := s2) h hk (callB_ok (s' := ⟨l, s2.hp⟩) (l := [(ma.par, t), (mb.par, t)]) hf rfl hs)
theorem names_ok {key : Nat → Nat} : ∀ L : List Nat, T.okNs (L.map (nmT key)) 2 = true
  | [] => rfl
  | i :: L => by
    show ((T.str (key i)).okN 2 && T.okNs (L.map (nmT key)) 2) = true
    rw [names_ok L]; rfl
theorem ord_okN {key : Nat → Nat} {k : Nat} (hk : k ≤ 12) : (T.lst (ordV key k)).okN 3 = true := by
  have hol : (ordV key k).length = k := by unfold ordV; rw [List.length_map, List.length_range]
  show (decide ((ordV key k).length < 16777216) && T.okNs (ordV key k) 2) = true
  rw [decide_eq_true (by omega), show T.okNs (ordV key k) 2 = true from names_ok _]; rfl
theorem ord_app (key : Nat → Nat) (k : Nat) : ordV key k ++ [.str (key k)] = ordV key (k + 1) := by
  unfold ordV
  rw [List.range_succ, List.map_append]; rfl
def l11 : List Sm := match fn_law.body with
  | [_, _, _, .for_ _ _ b, _] => b
  | _ => []
def l11G : Sm := match l11 with
  | [_, _, _, _, _, _, _, _, g, _, _] => g
  | _ => .pass
def l11X : List Sm := match l11 with
  | [_, _, _, _, _, _, _, _, _, _, .for_ _ _ b] => b
  | _ => []
def l11Y : List Sm := match l11X with
  | [.for_ _ _ b] => b
  | _ => []
section
variable (ns : List Int) (e0 e1 : Nat)
def st11 (key : Nat → Nat) (U : Nat → List Nat) (k : Nat) (O : List (T × T)) (x4 x5 x6 x7 x8 x9 x10 x11 x12 x13 : Option (Mo × T)) : S :=
  ⟨[some (.fro, .lst (ns.map .int)), some (.own, .lst [.int (e0 : Nat), .int (e1 : Nat)]), some (.fro, .box 0), some (.fro, .box 1), x4, x5, x6, x7, x8, x9, x10, x11, x12, x13], [linBx key U k O, wrlBx key U k]⟩
end
/-- the questions behind an attempt -/
theorem ask11 {ns : List Int} {e0 e1 : Nat} {key : Nat → Nat} {U : Nat → List Nat} {k : Nat} {O : List (T × T)} (X : Cx key U k) {x4 x5 x6 x7 x8 x9 x10 x11 x12 x13 : Option (Mo × T)} : ∃ x10' x11',
    execs tab.gm (callN tab.gm 59) (callN tab.gm 58) [] (l11.drop 9) (st11 ns e0 e1 key U k O x4 x5 x6 x7 x8 x9 x10 x11 x12 x13) = .ok .nx (st11 ns e0 e1 key U k O x4 x5 x6 x7 x8 x9 x10' x11' x12 x13) := by
  let Γ := tab.gm
  let C := callN Γ 59
  let C' := callN Γ 58
  let st := fun (x10 x11 : Option (Mo × T)) => st11 ns e0 e1 key U k O x4 x5 x6 x7 x8 x9 x10 x11 x12 x13
  let lkO : List Pl := [.fd 1 kOrd]
  let lkP : List Pl := [.fd 1 kOrd, .fd 1 kOrd]
  have SM := show Γ.fn n__law_same = some fn__law_same from rfl
  have cls : ev Γ C C' [] (.att (.var 2 true) n_classes true) (st x10 x11) = .ok (.own, .lst (ordV key k)) (st x10 x11) := by
    have hk : (basV key U k).map (·.1) = ordV key k := by unfold basV ordV; rw [List.map_map]; rfl
    refine ev_att (x := (.fro, .box 0)) (ev_varF rfl) ?_
    have hc : C' n_Lineage_classes [(.fro, .box 0)] (st x10 x11).hp [] = .ok (.own, .lst (ordV key k)) ⟨[some (.fro, .box 0)], (st x10 x11).hp⟩ := by
      refine callN_ret (n := 56) (Γ := Γ) (f := n_Lineage_classes) (fd := fn_Lineage_classes) (s := ⟨[some (.fro, .box 0)], (st x10 x11).hp⟩) rfl (execs_ret (exec_ret (s1 := ⟨[some (.fro, .box 0)], (st x10 x11).hp⟩) ?_ rfl))
      refine ev_bi (evs_cons (ev_fdO (a := 0) (s := ⟨[some (.fro, .box 0)], (st x10 x11).hp⟩) (bx := linBx key U k O) rfl rfl (show n_Lineage ≠ 0 by decide) rfl (lin_b key U k O).bas rfl) rfl) ?_
      show okO (.lst ((basV key U k).map (·.1))) _ = _
      rw [hk]; rfl
    exact att_prop (s := st x10 x11) (s' := ⟨[some (.fro, .box 0)], (st x10 x11).hp⟩) (bx := linBx key U k O) rfl (show n_Lineage ≠ 0 by decide) rfl hc
  have hord : ∀ lk x10 x11, ev Γ C C' lk (.sub (.var 3 true) (.cst (.str kOrd)) true) (st x10 x11) = .ok (.bor (some (.fd 1 kOrd)), .lst (ordV key k)) (st x10 x11) := fun lk _ _ => ev_bxO (a := 3) rfl rfl rfl rfl rfl
  have c1 : exec Γ C C' [] (.ite (.not (.callc n__law_same [(.att (.var 2 true) n_classes true), (.sub (.var 3 true) (.cst (.str kOrd)) true)])) [(.ret (.cst (.bl false)))] []) (st x10 x11) = .ok .nx (st x10 x11) :=
    exec_ite (t := false) (ev_not (m := .fro) (b := true) (same_c SM (m := 54) (t := .lst (ordV key k)) (ma := .own) (mb := .bor (some (.fd 1 kOrd))) (s2 := st x10 x11) (ord_okN X.le) (datas_key _ _) (evs_cons cls (evs_cons (hord _ _ _) rfl)))) rfl rfl
  obtain ⟨sB, hB, y10, y11, rfl⟩ := forL_all (lk := lkO) (nmT key) (g := .one 10) (body := fun s => execs Γ C C' lkO l11X s) (fun s => ∃ x10 x11, s = st x10 x11) (fun _ => true) (v := (.fro, .bl false)) (List.range k) (st x10 x11) ⟨_, _, rfl⟩ fun c hc s hs => by
    obtain ⟨x10, x11, rfl⟩ := hs
    have hck := List.mem_range.mp hc
    let F10 : Option (Mo × T) := some (.fro, nmT key c)
    obtain ⟨sC, hC, y11, rfl⟩ := forL_all (lk := lkP) (nmT key) (g := .one 11) (body := fun s => execs Γ C C' lkP l11Y s) (fun s => ∃ x11, s = st F10 x11) (fun _ => true) (v := (.fro, .bl false)) (List.range k) (st F10 x11) ⟨_, rfl⟩ fun d hd s hs => by
      obtain ⟨x11, rfl⟩ := hs
      have hdk := List.mem_range.mp hd
      let s1 := st F10 (some (.fro, nmT key d))
      have un : Un lkP := fun i => rfl
      refine ⟨s1, s1, rfl, ?_, _, rfl⟩
      obtain ⟨l, hb⟩ := below_ok (Γ := Γ) lkG.toLnG (n := 56) (hp := s1.hp) (lk := lkP) (o := 0) (bx := linBx key U k O) rfl (lin_b _ _ _ _) X hck hdk
      obtain ⟨l', P, hu, hP⟩ := up_ok (Γ := Γ) rfl (n := 57) (hp := s1.hp) (lk := lkP) un (w := 1) (bx := wrlBx key U k) rfl rfl rfl X.wf X.inj X.le hck
      have a1 : ev Γ C C' lkP (.meth (.var 2 true) n_is_below [(.var 10 true), (.var 11 true)] []) s1 = .ok (.fro, .bl (reB U c d)) s1 :=
        ev_meth (md := .fro) (n := 0) (bx := linBx key U k O) (s1 := s1) (s2 := s1) (vs := [(.fro, .str (key c)), (.fro, .str (key d))]) rfl rfl (show n_Lineage ≠ 0 by decide) rfl rfl rfl rfl
          (callB_ok (s' := ⟨l, s1.hp⟩) (fd := fn_Lineage_is_below) (l := [(.fro, .box 0), (.fro, .str (key c)), (.fro, .str (key d))]) rfl rfl hb)
      have a2 : ev Γ C C' lkP (.cmp .isin (.var 11 true) (.call n__law_up [(.var 3 true), (.var 10 true)] [])) s1 = .ok (.fro, .bl (reB U c d)) s1 := by
        rw [← up_contains hP, ← mem_key X.inj hP.2.1 hdk]
        exact ev_cmp0 (x := (.fro, .str (key d))) (y := (.own, .lst (P.map (nmT key)))) (s1 := s1) (s2 := s1) rfl rfl
          (ev_call (vs := [(.fro, .box 1), (.fro, .str (key c))]) (s1 := s1) rfl rfl (callB_ok (s' := ⟨l', s1.hp⟩) (fd := fn__law_up) (l := [(.fro, .box 1), (.fro, .str (key c))]) rfl rfl hu)) (cmp_inL rfl (datas_key _ _))
      exact execs_cons (exec_ite (t := false) (ev_not (m := .fro) (b := true) (same_evL SM (m := 54) (t := .bl (reB U c d)) (ma := .fro) (mb := .fro) (s2 := s1) rfl (evs_cons0 a1 rfl (evs_cons0 a2 rfl rfl)) rfl)) rfl rfl) rfl
    rw [if_pos (List.all_eq_true.mpr fun _ _ => rfl)] at hC
    exact ⟨st F10 x11, st F10 y11, rfl, execs_cons (exec_for (x := (.bor (some (.fd 1 kOrd)), .lst (ordV key k))) (s1 := st F10 x11) (hord _ _ _) rfl hC) rfl, _, _, rfl⟩
  rw [if_pos (List.all_eq_true.mpr fun _ _ => rfl)] at hB
  exact ⟨y10, y11, execs_cons c1 (execs_cons (exec_for (x := (.bor (some (.fd 1 kOrd)), .lst (ordV key k))) (s1 := st x10 x11) (hord _ _ _) rfl hB) rfl)⟩
/-- the names of the bases -/
theorem names11 {ns : List Int} {e0 e1 : Nat} {key : Nat → Nat} {U : Nat → List Nat} {k : Nat} {O : List (T × T)} {d0 d1 d2 d3 d4 d5 d6 d7 : Nat} (hd3 : d3 < 4) {x4 x6 x7 x8 x9 x10 x11 : Option (Mo × T)} :
    let D : Option (Mo × T) := some (.own, .lst [.int (d0 : Nat), .int (d1 : Nat), .int (d2 : Nat), .int (d3 : Nat), .int (d4 : Nat), .int (d5 : Nat), .int (d6 : Nat), .int (d7 : Nat)])
    ∃ zs : List Nat, zs.length ≤ 3 ∧ execs tab.gm (callN tab.gm 59) (callN tab.gm 58) [] ((l11.drop 4).take 2) (st11 ns e0 e1 key U k O x4 D x6 x7 x8 x9 x10 x11 none none) = .ok .nx (st11 ns e0 e1 key U k O x4 D x6 x7 (some (.own, .lst (zs.map .str))) x9 x10 x11 none none) := by
  intro D
  let Γ := tab.gm
  let C := callN Γ 59
  let C' := callN Γ 58
  let st := fun (x8 x12 x13 : Option (Mo × T)) => st11 ns e0 e1 key U k O x4 D x6 x7 x8 x9 x10 x11 x12 x13
  let ps : List Nat := [d4, d5, d6, d7].take d3
  have hps : ps.length ≤ 3 := by show (List.take d3 _).length ≤ 3; rw [List.length_take]; omega
  let zs0 := ps.map (nm e1)
  have c1 : exec Γ C C' [] (.set (.one 8) (.comp (.call n__law_name [(.sub (.var 1 true) (.cst (.int (1))) false), (.var 12 true)] []) (.one 12) (.slc (.var 5 true) (some (.cst (.int (4)))) (some (.bin .add (.cst (.int (4))) (.sub (.var 5 true) (.cst (.int (3))) true)))) none)) (st x8 none none) = .ok .nx (st (some (.own, .lst (zs0.map .str))) none none) := by
    have hs : ev Γ C C' [] (.slc (.var 5 true) (some (.cst (.int (4)))) (some (.bin .add (.cst (.int (4))) (.sub (.var 5 true) (.cst (.int (3))) true)))) (st x8 none none) = .ok (.own, .lst (ps.map fun p => T.int (p : Nat))) (st x8 none none) := by
      have hb : ∀ lk, ev Γ C C' lk (.bin .add (.cst (.int (4))) (.sub (.var 5 true) (.cst (.int (3))) true)) (st x8 none none) = .ok (.fro, .int (4 + (d3 : Nat))) (st x8 none none) := fun lk =>
        ev_bin (x := (.fro, .int 4)) (y := (.fro, .int (d3 : Nat))) (s1 := st x8 none none) (s2 := st x8 none none) rfl (ev_at (i := 5) (k := 3) rfl rfl) rfl
      have : Mi.cut [T.int (d0 : Nat), .int (d1 : Nat), .int (d2 : Nat), .int (d3 : Nat), .int (d4 : Nat), .int (d5 : Nat), .int (d6 : Nat), .int (d7 : Nat)] (some 4) (some (4 + (d3 : Nat))) = ps.map fun p => T.int (p : Nat) := by
        show _ = (List.take d3 [d4, d5, d6, d7]).map fun p => T.int (p : Nat)
        match d3, hd3 with
        | 0, _ => rfl
        | 1, _ => rfl
        | 2, _ => rfl
        | 3, _ => rfl
      refine ev_slc (s2 := st x8 none none) (rd_own rfl rfl) (evo_int (m := .fro) rfl) (evo_int (hb _)) ?_
      show okO (.lst (Mi.cut _ (some 4) (some (4 + (d3 : Nat))))) _ = _
      rw [this]; rfl
    refine exec_set (v := (.own, .lst (zs0.map .str))) (s1 := st x8 none none) ?_ rfl
    refine ev_comp0 hs rfl rfl ?_
    have e : zs0.map T.str = ps.map fun p => T.str (nm e1 p) := by show List.map _ (List.map _ _) = _; rw [List.map_map]; rfl
    rw [e]
    refine compL_all (fun p : Nat => T.int (p : Nat)) (fun p => T.str (nm e1 p)) (R := ps) (S0 := st x8 none none) rfl fun p hp => ?_
    let s1 := st x8 (some (.fro, .int (p : Nat))) none
    exact ⟨s1, .fro, rfl, rfl, name_e (Γ := Γ) rfl (n := 57) (d := e1) (k := p) (m1 := .fro) (m2 := .fro) (ev_at (i := 1) (k := 1) rfl rfl) (ev_varF rfl), rfl⟩
  let F8 : Option (Mo × T) := some (.own, .lst (zs0.map .str))
  have hz0 : zs0.length ≤ 3 := by show (List.map _ _).length ≤ 3; rw [List.length_map]; exact hps
  have cond : ev Γ C C' [] (.cmp .gt (.sub (.var 5 true) (.cst (.int (7))) true) (.cst (.int (1)))) (st F8 none none) = .ok (.fro, .bl (decide ((1 : Int) < ((d7 : Nat) : Int)))) (st F8 none none) :=
    ev_cmp (x := (.fro, .int (d7 : Nat))) (y := (.fro, .int 1)) (s1 := st F8 none none) (s2 := st F8 none none) (ev_at (i := 5) (k := 7) rfl rfl) rfl rfl
  by_cases h : (1 : Int) < ((d7 : Nat) : Int)
  · rw [decide_eq_true h] at cond
    let zs := zs0.filter fun z => kn key k z
    refine ⟨zs, Nat.le_trans (List.length_filter_le _ _) hz0, execs_cons c1 (execs_cons (exec_ite (t := true) cond rfl (execs_cons (s1 := st (some (.own, .lst (zs.map .str))) none none) (exec_set (v := (.own, .lst (zs.map .str))) (s1 := st F8 none none) ?_ rfl) rfl)) rfl)⟩
    refine ev_comp (x := (.bor (some (.sl 8)), .lst (zs0.map .str))) (s1 := st F8 none none) (s2 := st F8 none none) (xs := zs0.map .str) (rd_own rfl rfl) rfl ?_
    have := compL_map (lk := [.sl 8]) (acc := []) T.str (g := .one 13) (test := fun s => evc Γ C C' [.sl 8] (some (.cmp .isin (.var 13 true) (.sub (.var 3 true) (.cst (.str kOrd)) true))) s) (elt := fun s => ev Γ C C' [.sl 8] (.var 13 false) s) (fun z => kn key k z) T.str (S0 := st F8 none none) (R := zs0) (s := st F8 none none) rfl fun z hz => by
      let s1 := st F8 none (some (.fro, .str z))
      refine ⟨s1, rfl, rfl, ?_, fun _ => ⟨.fro, rfl, rfl⟩⟩
      rw [← ord_kn]
      exact evc_of (m := .fro) (ev_cmp0 (x := (.fro, .str z)) (s1 := s1) (s2 := s1) rfl rfl (ev_bxO (a := 3) rfl rfl rfl rfl rfl) (cmp_inL rfl (datas_key _ _)))
    rw [List.nil_append] at this
    exact this
  · rw [decide_eq_false h] at cond
    exact ⟨zs0, hz0, execs_cons c1 (execs_cons (exec_ite (t := false) cond rfl rfl) rfl)⟩
theorem dueR_none {key : Nat → Nat} {U : Nat → List Nat} {k x : Nat} {out : Option Nat} {zs : List Nat} (h : dueR key U k x out zs = none) : kn key k x = false ∧ ∀ z ∈ zs, kn key k z = true := by
  unfold dueR at h
  split at h
  · cases h
  · rename_i h1
    split at h
    · cases h
    · split at h
      · cases h
      · rename_i h3
        exact ⟨by simpa using h1, fun z hz => by simpa using List.find?_eq_none.mp h3 z hz⟩
theorem execs_two {Γ : Gm} {C C' : CallF} {lk : List Pl} {b : List Sm} {s1 : S} {r : Res Fl} (h2 : execs Γ C C' lk b s1 = r) : ∀ {a : List Sm} {s : S}, execs Γ C C' lk a s = .ok .nx s1 → execs Γ C C' lk (a ++ b) s = r
  | [], s, h => by
    cases (show Res.ok Fl.nx s = Res.ok Fl.nx s1 from h)
    exact h2
  | c :: a, s, h => by
    rw [execs] at h
    show execs Γ C C' lk (c :: (a ++ b)) s = r
    rw [execs]
    cases hc : exec Γ C C' lk c s with
    | no => rw [hc] at h; cases h
    | exc _ _ _ => rw [hc] at h; cases h
    | ok f s' =>
      rw [hc] at h
      cases f with
      | nx => exact execs_two h2 (show execs Γ C C' lk a s' = .ok .nx s1 from h)
      | ret v => cases h
      | brk => cases h
      | cont => cases h
theorem turn11 {ns : List Int} {e0 e1 : Nat} {key : Nat → Nat} {U : Nat → List Nat} {k t : Nat} {O : List (T × T)} (X : Cx key U k) (hO : O.length ≤ k) (hk : k ≤ t) (ht : t < 10) {x5 x6 x7 x8 x9 x10 x11 : Option (Mo × T)} :
    ∃ (key' : Nat → Nat) (U' : Nat → List Nat) (k' : Nat) (O' : List (T × T)) (x5' x6' x7' x8' x9' x10' x11' : Option (Mo × T)), Cx key' U' k' ∧ O'.length ≤ k' ∧ k' ≤ t + 1 ∧
      execs tab.gm (callN tab.gm 59) (callN tab.gm 58) [] l11 (st11 ns e0 e1 key U k O (some (.fro, .int (t : Nat))) x5 x6 x7 x8 x9 x10 x11 none none) = .ok .nx (st11 ns e0 e1 key' U' k' O' (some (.fro, .int (t : Nat))) x5' x6' x7' x8' x9' x10' x11' none none) := by
  let Γ := tab.gm
  let C := callN Γ 59
  let C' := callN Γ 58
  have SM := show Γ.fn n__law_same = some fn__law_same from rfl
  let K : Option (Mo × T) := some (.fro, .int (t : Nat))
  have hz : ∀ z ∈ ([10, 4, 10, 4, 10, 10, 10, 8] : List Int), 0 < z ∧ z < 1073741824 := by decide
  obtain ⟨es, hes, hel, hr⟩ := digs_nat ns (1 + t) hz
  match es, hel with
  | [d0, d1, d2, d3, d4, d5, d6, d7], _ =>
  have hd3 : d3 < 4 := by have := hr 3 d3 4 rfl rfl; omega
  clear hr
  let D : Option (Mo × T) := some (.own, .lst [.int (d0 : Nat), .int (d1 : Nat), .int (d2 : Nat), .int (d3 : Nat), .int (d4 : Nat), .int (d5 : Nat), .int (d6 : Nat), .int (d7 : Nat)])
  let x := nm e1 d0
  let N : Option (Mo × T) := some (.fro, .str x)
  let st := fun (x5 x6 x7 x8 x9 : Option (Mo × T)) => st11 ns e0 e1 key U k O K x5 x6 x7 x8 x9 x10 x11 none none
  have c1 : exec Γ C C' [] (.set (.one 5) (.call n__law_digits [(.var 0 true), (.bin .add (.cst (.int (1))) (.var 4 true)), (.lst [(.cst (.int (10))), (.cst (.int (4))), (.cst (.int (10))), (.cst (.int (4))), (.cst (.int (10))), (.cst (.int (10))), (.cst (.int (10))), (.cst (.int (8)))])] [])) (st x5 x6 x7 x8 x9) = .ok .nx (st D x6 x7 x8 x9) := by
    have := digits_e (Γ := Γ) rfl ns (1 + t) [10, 4, 10, 4, 10, 10, 10, 8] hz (by decide) 57 C' (st x5 x6 x7 x8 x9) (a := .bin .add (.cst (.int (1))) (.var 4 true)) (e := .lst [(.cst (.int (10))), (.cst (.int (4))), (.cst (.int (10))), (.cst (.int (4))), (.cst (.int (10))), (.cst (.int (10))), (.cst (.int (10))), (.cst (.int (8)))]) rfl
      (ev_bin (x := (.fro, .int 1)) (y := (.fro, .int (t : Nat))) rfl rfl (by show okF (.int (1 + ((t : Nat) : Int))) _ = _; rw [show (((1 + t : Nat)) : Int) = 1 + (t : Int) by omega]; rfl)) rfl
    rw [hes] at this
    exact exec_set this rfl
  have name : ∀ (i p d : Nat) (x6 x7 : Option (Mo × T)), ([d0, d1, d2, d3, d4, d5, d6, d7] : List Nat)[i]? = some d → ev Γ C C' [] (.call n__law_name [(.sub (.var 1 true) (.cst (.int (1))) false), (.sub (.var 5 true) (.cst (.int (i : Nat))) false)] []) (st D x6 x7 x8 x9) = .ok (.fro, .str (nm e1 d)) (st D x6 x7 x8 x9) := fun i p d x6 x7 hi =>
    name_e (Γ := Γ) rfl (n := 57) (d := e1) (k := d) (m1 := .fro) (m2 := .fro) (ev_at (i := 1) (k := 1) rfl rfl) (ev_at (i := 5) (k := i) (ls := [d0, d1, d2, d3, d4, d5, d6, d7].map fun e : Nat => T.int (e : Nat)) rfl (by rw [List.getElem?_map, hi]; rfl))
  have c2 : exec Γ C C' [] (.set (.one 6) (.call n__law_name [(.sub (.var 1 true) (.cst (.int (1))) false), (.sub (.var 5 true) (.cst (.int (0))) false)] [])) (st D x6 x7 x8 x9) = .ok .nx (st D N x7 x8 x9) := exec_set (name 0 0 d0 x6 x7 rfl) rfl
  obtain ⟨out, c4⟩ : ∃ out : Option Nat, exec Γ C C' [] (.ite (.cmp .eq (.sub (.var 5 true) (.cst (.int (1))) true) (.cst (.int (0)))) [(.set (.one 7) (.call n__law_name [(.sub (.var 1 true) (.cst (.int (1))) false), (.sub (.var 5 true) (.cst (.int (2))) false)] []))] []) (st D N (some (.fro, .non)) x8 x9) = .ok .nx (st D N (some (.fro, outT out)) x8 x9) := by
    have cond : ev Γ C C' [] (.cmp .eq (.sub (.var 5 true) (.cst (.int (1))) true) (.cst (.int (0)))) (st D N (some (.fro, .non)) x8 x9) = .ok (.fro, .bl (((d1 : Nat) : Int) == 0)) (st D N (some (.fro, .non)) x8 x9) :=
      ev_cmp (x := (.fro, .int (d1 : Nat))) (y := (.fro, .int 0)) (s1 := st D N (some (.fro, .non)) x8 x9) (s2 := st D N (some (.fro, .non)) x8 x9) (ev_at (i := 5) (k := 1) rfl rfl) rfl rfl
    cases hc : (((d1 : Nat) : Int) == 0) with
    | true =>
      rw [hc] at cond
      exact ⟨some (nm e1 d2), exec_ite (t := true) cond rfl (execs_cons (exec_set (name 2 0 d2 N (some (.fro, .non)) rfl) rfl) rfl)⟩
    | false =>
      rw [hc] at cond
      exact ⟨none, exec_ite (t := false) cond rfl rfl⟩
  let U7 : Option (Mo × T) := some (.fro, outT out)
  obtain ⟨zs, hz3, c5⟩ := names11 (ns := ns) (e0 := e0) (e1 := e1) (key := key) (U := U) (k := k) (O := O) (d0 := d0) (d1 := d1) (d2 := d2) (d4 := d4) (d5 := d5) (d6 := d6) (d7 := d7) hd3 (x4 := K) (x6 := N) (x7 := U7) (x8 := x8) (x9 := x9) (x10 := x10) (x11 := x11)
  let Z : Option (Mo × T) := some (.own, .lst (zs.map .str))
  let r := dueR key U k x out zs
  let R9 : Option (Mo × T) := some (.fro, dueT r)
  have ho2 : lks (.fro, outT out) = [] := by cases out <;> rfl
  have ha2 : argOk (.fro, outT out) = true := by cases out <;> rfl
  have args : ∀ (i b : Nat) (s : S), s.loc[i]? = some (some (.fro, .box b)) → s.loc[6]? = some N → s.loc[7]? = some U7 → s.loc[8]? = some Z → evs Γ C C' [] [(.var i true), (.var 6 true), (.var 7 true), (.var 8 true)] s = .ok [(.fro, .box b), (.fro, .str x), (.fro, outT out), (.bor (some (.sl 8)), .lst (zs.map .str))] s := fun i b s hi h6 h7 h8 =>
    evs_cons0 (ev_varF hi) rfl (evs_cons0 (ev_varF h6) rfl (evs_cons0 (ev_varF h7) ho2 (evs_cons (rd_own rfl h8) rfl)))
  have hargs : ∀ b : Nat, argsOk' [((.fro, .box b) : V), (.fro, .str x), (.fro, outT out), (.bor (some (.sl 8)), .lst (zs.map .str))] = true := fun b => by
    cases out <;> rfl
  have c7 : exec Γ C C' [] (.set (.one 9) (.call n__law_due [(.var 3 true), (.var 6 true), (.var 7 true), (.var 8 true)] [])) (st D N U7 Z x9) = .ok .nx (st D N U7 Z R9) := by
    let s := st D N U7 Z x9
    obtain ⟨l, h⟩ := due_ok (n := 54) (hp := s.hp) (lk := []) un_nil (w := 1) (x := x) (out := out) hz3 rfl X (m := .bor) (.inr rfl)
    refine exec_set (v := (.fro, dueT r)) (s1 := s) (ev_call (s1 := s) (args 3 1 s rfl rfl rfl rfl) (hargs 1) (callB_ok (s' := ⟨l, s.hp⟩) (fd := fn__law_due) (l := [(.fro, .box 1), (.fro, .str x), (.fro, outT out), (.bor, .lst (zs.map .str))]) rfl rfl h)) ?_
    exact bind_slot rfl rfl
  obtain ⟨l8, h8⟩ := try_ok (n := 52) (hp := (st D N U7 Z R9).hp) (o := 0) (x := x) (out := out) hz3 rfl X (by have := X.le; omega) (m := .bor) (.inr rfl)
  have hdT : (dueT r).okN 3 = true := by
    show (dueT r).okN 3 = true
    cases r with
    | none => rfl
    | some p => rfl
  have hdl : lks (.fro, dueT r) = [] := by
    show lks (.fro, dueT r) = []
    cases r <;> rfl
  have hda : argsOk' [((.fro, dueT r) : V), (.fro, dueT r)] = true := by
    show argsOk' [((.fro, dueT r) : V), (.fro, dueT r)] = true
    cases r <;> rfl
  have c8 : ∀ hp' : List Bx, C n__law_try [(.fro, .box 0), (.fro, .str x), (.fro, outT out), (.bor, .lst (zs.map .str))] (st D N U7 Z R9).hp [] = .ok (.fro, dueT r) ⟨l8, hp'⟩ →
      exec Γ C C' [] (.ite (.not (.call n__law_same [(.call n__law_try [(.var 2 true), (.var 6 true), (.var 7 true), (.var 8 true)] []), (.var 9 true)] [])) [(.ret (.cst (.bl false)))] []) (st D N U7 Z R9) = .ok .nx { st D N U7 Z R9 with hp := hp' } := fun hp' h8 => by
    let s := st D N U7 Z R9
    let s2 : S := { st D N U7 Z R9 with hp := hp' }
    have a1 : ev Γ C C' [] (.call n__law_try [(.var 2 true), (.var 6 true), (.var 7 true), (.var 8 true)] []) s = .ok (.fro, dueT r) s2 :=
      ev_call (s1 := s) (args 2 0 s rfl rfl rfl rfl) (hargs 0) (callB_ok (s' := ⟨l8, hp'⟩) (fd := fn__law_try) (l := [(.fro, .box 0), (.fro, .str x), (.fro, outT out), (.bor, .lst (zs.map .str))]) rfl rfl h8)
    exact exec_ite (t := false) (ev_not (m := .fro) (b := true) (same_ev SM (m := 54) (t := dueT r) (ma := .fro) (mb := .fro) (s2 := s2) hdT (evs_cons0 a1 hdl (evs_cons0 (ev_varF rfl) hdl rfl)) hda)) rfl rfl
  have eqA : ∀ s : S, s.loc[9]? = some R9 → ev Γ C C' [] (.cmp .eq (.var 9 true) (.cst (.str 422607939173))) s = .ok (.fro, .bl r.isNone) s := fun s h9 => by
    refine ev_cmp0 (x := (.fro, dueT r)) (y := (.fro, .str 422607939173)) (s1 := s) (s2 := s) (ev_varF h9) hdl rfl ?_
    show cmpR Γ C' [] .eq (.fro, dueT r) (.fro, .str 422607939173) s = _
    cases r with
    | none => rfl
    | some p => rfl
  have parts : l11 = l11.take 4 ++ ((l11.drop 4).take 2 ++ ((l11.drop 6).take 3 ++ l11.drop 9)) := by rfl
  have p1 : execs Γ C C' [] (l11.take 4) (st x5 x6 x7 x8 x9) = .ok .nx (st D N U7 x8 x9) := execs_cons c1 (execs_cons c2 (execs_cons (s1 := st D N (some (.fro, .non)) x8 x9) rfl (execs_cons c4 rfl)))
  rw [parts]
  cases hr : dueR key U k x out zs with
  | some p =>
    have h8' : C n__law_try [(.fro, .box 0), (.fro, .str x), (.fro, outT out), (.bor, .lst (zs.map .str))] (st D N U7 Z R9).hp [] = .ok (.fro, dueT (dueR key U k x out zs)) ⟨l8, (st D N U7 Z R9).hp⟩ := by
      rw [hr]; rw [hr] at h8; exact h8
    have c8' := c8 _ h8'
    have c9 : exec Γ C C' [] l11G (st D N U7 Z R9) = .ok .nx (st D N U7 Z R9) := by
      have := eqA (st D N U7 Z R9) rfl
      rw [show r.isNone = false from by show (dueR key U k x out zs).isNone = false; rw [hr]; rfl] at this
      exact exec_ite (t := false) this rfl rfl
    obtain ⟨y10, y11, c10⟩ := ask11 (ns := ns) (e0 := e0) (e1 := e1) (O := O) X (x4 := K) (x5 := D) (x6 := N) (x7 := U7) (x8 := Z) (x9 := R9) (x10 := x10) (x11 := x11) (x12 := none) (x13 := none)
    exact ⟨key, U, k, O, D, N, U7, Z, R9, y10, y11, X, hO, by omega, execs_two (execs_two (execs_two c10 (execs_cons c7 (execs_cons c8' (execs_cons c9 rfl)))) c5) p1⟩
  | none =>
    obtain ⟨hx, hall⟩ := dueR_none hr
    obtain ⟨hVs, hVk⟩ := ix_all hall
    let V := zs.map (ix key k)
    have hV3 : V.length ≤ 3 := by show (List.map _ _).length ≤ 3; rw [List.length_map]; exact hz3
    let key' := updK key k x
    let U' := upd U k V
    let O' := T.put (.str x) (outT out) O
    have hI' : Inj key' (k + 1) := inj_upd X.inj hx
    have X' : Cx key' U' (k + 1) := ⟨wf_upd X.wf hVk hV3, hI', by omega⟩
    let L' := linBx key' U' (k + 1) O'
    let s8 : S := ⟨(st D N U7 Z R9).loc, [L', wrlBx key U k]⟩
    have h8' : C n__law_try [(.fro, .box 0), (.fro, .str x), (.fro, outT out), (.bor, .lst (zs.map .str))] (st D N U7 Z R9).hp [] = .ok (.fro, dueT (dueR key U k x out zs)) ⟨l8, [L', wrlBx key U k]⟩ := by
      rw [hr]; rw [hr] at h8; exact h8
    have c8' := c8 _ h8'
    let w1 : Bx := { cls := 0, fs := [(kUps, true, .dct (upsV key U k)), (kOrd, true, .lst (ordV key k ++ [.str x]))] }
    let s9 : S := ⟨(st D N U7 Z R9).loc, [L', w1]⟩
    have g1 : exec Γ C C' [] (.app (.ix (.var 3 true) (.cst (.str kOrd))) (.var 6 false)) s8 = .ok .nx s9 := by
      have := exec_appP (Γ := Γ) (C := C) (C' := C') (lk := []) (p := .ix (.var 3 true) (.cst (.str kOrd))) (e := .var 6 false) (v := (.fro, .str x)) (pl := .fd 1 kOrd) (xs0 := ordV key k) (xs := ordV key k) (s := s8) (s1 := s8) (s2 := s8)
        (ev_bxO (a := 3) rfl rfl rfl rfl rfl) rfl rfl rfl rfl (by unfold ordV; rw [List.length_map, List.length_range]; have := X.le; unfold szL; omega)
      rw [this]; rfl
    let Z' : Option (Mo × T) := some (.fro, .lst (zs.map .str))
    let s10 := st11 ns e0 e1 key' U' (k + 1) O' K D N U7 Z' R9 x10 x11 none none
    have g2 : exec Γ C C' [] (.seti (.ix (.var 3 true) (.cst (.str kUps))) (.var 6 false) (.var 8 false)) s9 = .ok .nx s10 := by
      let s9' : S := ⟨(st D N U7 Z' R9).loc, [L', w1]⟩
      have := exec_setiP (Γ := Γ) (C := C) (C' := C') (lk := []) (p := .ix (.var 3 true) (.cst (.str kUps))) (k := .var 6 false) (e := .var 8 false) (v := (.fro, .lst (zs.map .str))) (y := (.fro, .str x)) (pl := .fd 1 kUps) (kv0 := upsV key U k) (kvs := upsV key U k) (s := s9) (s1 := s9') (s2 := s9') (s3 := s9')
        rfl rfl (ev_bxO (a := 3) rfl rfl rfl rfl rfl) rfl rfl rfl rfl rfl (by unfold upsV; rw [List.length_map, List.length_range]; have := X.le; unfold szL; omega)
      rw [this]
      dsimp only
      have e1' : T.put (.str x) (.lst (zs.map .str)) (upsV key U k) = upsV key' U' (k + 1) := by
        have := put_ups (key := key') (U := U) (V := V) hI'
        rw [show key' k = x from updK_at, map_off hVk, hVs, ups_off X.wf] at this
        exact this
      have e2' : ordV key k ++ [.str x] = ordV key' (k + 1) := by
        rw [← ord_app, show key' k = x from updK_at, ord_off]
      rw [e1']
      show Res.ok Fl.nx (S.mk _ [L', ⟨0, [(kUps, true, .dct (upsV key' U' (k + 1))), (kOrd, true, .lst (ordV key k ++ [.str x]))]⟩]) = _
      rw [e2']; rfl
    have c9 : exec Γ C C' [] l11G s8 = .ok .nx s10 := by
      have := eqA s8 rfl
      rw [show r.isNone = true from by show (dueR key U k x out zs).isNone = true; rw [hr]; rfl] at this
      exact exec_ite (t := true) this rfl (execs_cons g1 (execs_cons g2 rfl))
    obtain ⟨y10, y11, c10⟩ := ask11 (ns := ns) (e0 := e0) (e1 := e1) (O := O') X' (x4 := K) (x5 := D) (x6 := N) (x7 := U7) (x8 := Z') (x9 := R9) (x10 := x10) (x11 := x11) (x12 := none) (x13 := none)
    exact ⟨key', U', k + 1, O', D, N, U7, Z', R9, y10, y11, X', Nat.le_trans (put_lenP _ _ _) (by omega), by omega, execs_two (execs_two (execs_two c10 (execs_cons c7 (execs_cons c8' (execs_cons c9 rfl)))) c5) p1⟩
theorem good : Good tab.gm n_law 63 := fun ns _ => by
  let Γ := tab.gm
  let C := callN Γ 59
  let C' := callN Γ 58
  have hz : ∀ z ∈ ([10, 26] : List Int), 0 < z ∧ z < 1073741824 := by decide
  obtain ⟨es, hes, hel, hr⟩ := digs_nat ns 0 hz
  match es, hel with
  | [e0, e1], _ =>
  have h0 : e0 < 10 := by have := hr 0 e0 10 rfl rfl; omega
  clear hr
  let key : Nat → Nat := fun _ => 0
  let D : Option (Mo × T) := some (.own, .lst [.int (e0 : Nat), .int (e1 : Nat)])
  let sa := fun (x1 x2 x3 : Option (Mo × T)) (hp : List Bx) => (⟨[some (.fro, .lst (ns.map .int)), x1, x2, x3, none, none, none, none, none, none, none, none, none, none], hp⟩ : S)
  have c1 : exec Γ C C' [] (.set (.one 1) (.call n__law_digits [(.var 0 true), (.cst (.int (0))), (.lst [(.cst (.int (10))), (.cst (.int (26)))])] [])) (sa none none none []) = .ok .nx (sa D none none []) := by
    have := digits_e (Γ := Γ) rfl ns 0 [10, 26] hz (by decide) 57 C' (sa none none none []) (a := .cst (.int 0)) (e := .lst [(.cst (.int (10))), (.cst (.int (26)))]) rfl rfl rfl
    rw [hes] at this
    exact exec_set this rfl
  let U0 : Nat → List Nat := fun _ => []
  let X2 : Option (Mo × T) := some (.fro, .box 0)
  have c2 : exec Γ C C' [] (.set (.one 2) (.make n_Lineage [])) (sa D none none []) = .ok .nx (sa D X2 none [linBx key U0 0 []]) := by
    have hi : C' n_Lineage___init__ [(.fro, .box 0)] [{ cls := n_Lineage, fs := [] }] [] = .ok (.fro, .non) ⟨[some (.fro, .box 0)], [linBx key U0 0 []]⟩ := by
      let t1 : S := ⟨[some (.fro, .box 0)], [{ cls := n_Lineage, fs := [] }]⟩
      let t2 : S := ⟨[some (.fro, .box 0)], [{ cls := n_Lineage, fs := [(n_outer_by, true, .dct [])] }]⟩
      refine callN_nx (n := 56) (Γ := Γ) (f := n_Lineage___init__) (fd := fn_Lineage___init__) rfl (execs_cons (s1 := t2) ?_ (execs_cons (s1 := ⟨[some (.fro, .box 0)], [linBx key U0 0 []]⟩) ?_ rfl))
      · exact exec_setf (s := t1) (s1 := t1) (s2 := t1) (o := .var 0 true) (e := .dct []) (f := n_outer_by) (n := 0) (v := (.own, .dct [])) (m := .fro) (bx := { cls := n_Lineage, fs := [] }) rfl rfl rfl rfl rfl (by decide) rfl (by decide)
      · exact exec_setf (s := t2) (s1 := t2) (s2 := t2) (o := .var 0 true) (e := .dct []) (f := n_bases_by) (n := 0) (v := (.own, .dct [])) (m := .fro) (bx := { cls := n_Lineage, fs := [(n_outer_by, true, .dct [])] }) rfl rfl rfl rfl rfl (by decide) rfl (by decide)
    refine exec_set (v := (.fro, .box 0)) (s1 := sa D none none [linBx key U0 0 []]) ?_ rfl
    rw [ev, show evs Γ C C' [] [] (sa D none none []) = .ok [] (sa D none none []) from rfl]
    exact make_ok (Γ := Γ) (C' := C') (lk := []) (s := sa D none none []) (c := n_Lineage) (f := n_Lineage___init__) (fd := fn_Lineage___init__) (as := []) (l := [(.fro, .box 0)]) rfl rfl rfl hi
  let s3 := st11 ns e0 e1 key U0 0 [] none none none none none none none none none none
  have c3 : exec Γ C C' [] (.set (.one 3) (.boxd [7762292, 482972362355] [(.dct []), (.lst [])])) (sa D X2 none [linBx key U0 0 []]) = .ok .nx s3 := rfl
  let I : Nat → S → Prop := fun i s => ∃ (key : Nat → Nat) (U : Nat → List Nat) (k : Nat) (O : List (T × T)) (x4 x5 x6 x7 x8 x9 x10 x11 : Option (Mo × T)), s = st11 ns e0 e1 key U k O x4 x5 x6 x7 x8 x9 x10 x11 none none ∧ Cx key U k ∧ O.length ≤ k ∧ k ≤ i
  obtain ⟨s', hl, key, U, k, O, x4, x5, x6, x7, x8, x9, x10, x11, rfl, _, _, _⟩ := forL_inv (lk := []) (g := .one 4) (body := fun s => execs Γ C C' [] l11 s) I (xs := (List.range e0).map fun k => T.int (k : Nat)) (s := s3) (fun i x s hx hI' => by
    obtain ⟨key, U, k, O, x4, x5, x6, x7, x8, x9, x10, x11, rfl, X, hO, hk⟩ := hI'
    have hi : i < e0 := by
      have := (List.getElem?_eq_some_iff.mp hx).1
      rw [List.length_map, List.length_range] at this
      exact this
    obtain rfl : T.int (i : Nat) = x := by
      rw [List.getElem?_map, List.getElem?_range hi] at hx
      exact Option.some.inj hx
    obtain ⟨key', U', k', O', y5, y6, y7, y8, y9, y10, y11, X', hO', hk', h⟩ := turn11 (ns := ns) (e0 := e0) (e1 := e1) X hO hk (by omega) (x5 := x5) (x6 := x6) (x7 := x7) (x8 := x8) (x9 := x9) (x10 := x10) (x11 := x11)
    exact ⟨_, _, rfl, .inl h, key', U', k', O', _, y5, y6, y7, y8, y9, y10, y11, rfl, X', hO', hk'⟩) ⟨key, U0, 0, [], none, none, none, none, none, none, none, none, rfl, ⟨fun i hi => absurd hi (Nat.not_lt_zero _), fun a b ha _ _ => absurd ha (Nat.not_lt_zero _), by decide⟩, Nat.le_refl _, Nat.le_refl _⟩
  have c4 : exec Γ C C' [] (.for_ (.one 4) (.bi .range [(.sub (.var 1 true) (.cst (.int (0))) true)]) l11) s3 = .ok .nx (st11 ns e0 e1 key U k O x4 x5 x6 x7 x8 x9 x10 x11 none none) := by
    have hr := ev_range (Γ := Γ) (C := C) (C' := C') (lk := []) (e := .sub (.var 1 true) (.cst (.int (0))) true) (m := .fro) (i := (e0 : Nat)) (s := s3) (s1 := s3) (ev_at (i := 1) (k := 0) rfl rfl) (by omega)
    rw [show ((e0 : Nat) : Int).toNat = e0 by omega] at hr
    exact exec_for hr rfl hl
  exact ⟨.fro, _, callN_ret (n := 58) (fd := fn_law) rfl (execs_cons c1 (execs_cons c2 (execs_cons c3 (execs_cons c4 (execs_ret (exec_ret rfl rfl))))))⟩

end Mi
namespace Lw
open PySem PySem.W PySem.Calls PyProof.Rows
abbrev R : OpenRow := OpenLaw.row PySem.Challenge.rw_whomayname_k11_lineage_refusals
def lo0 : List PySem.Str := ["AccessError", "Unknown", "Taken", "Joined", "Lineage", "_law_digits", "_law_name", "_law_up", "_law_joins", "_law_same", "_law_due", "_law_try"]
def loose : List PySem.Str := lo0
def lawAt (p : Program) : Nat := p.main.body.findIdx fun s => match s with | .FunctionDef nm .. => nm == ("law" : PySem.Str) | _ => false
abbrev qv : Program := view R.prog [15]
def ob (s : SharedT) : He.AlD := Mi.obsX 6 Mi.ld (HandSHeadRun.getT s)
theorem ob_eq (s : SharedT) : ob s = (Mi.hookX 6 Mi.ld).obs s.abs := Mi.obsX_eq (HandSHeadRun.getT_eq s)
theorem run (w : World) : HandSHeadRun.RunEq R qv (Mi.hookX 6 Mi.ld) ob 6000 loose w := by
  intro os
  kernel_rfl
theorem stat : Mi.ld.stat = true := by decide +kernel
end Lw
open PySem PySem.W PySem.Calls PyProof.Rows
theorem PySem.Challenge.cw_whomayname_k11_lineage_refusals_holds : PySem.Challenge.rw_whomayname_k11_lineage_refusals.Holds := by
  w_on; o_law
  refine HandSHeadRun.head_any (r := OpenLaw.row PySem.Challenge.rw_whomayname_k11_lineage_refusals) (q := view (OpenLaw.row PySem.Challenge.rw_whomayname_k11_lineage_refusals).prog [15]) (H := Mi.hookX 6 Mi.ld) (ob := Lw.ob) (M := 6000) (loose := Lw.loose) (d := HandSHeadRun.topDef (OpenLaw.row PySem.Challenge.rw_whomayname_k11_lineage_refusals).prog 15) (kwd := []) Lw.ob_eq
    (by kernel_rfl) (fun s => by kernel_rfl) Lw.run (by kernel_rfl) (by kernel_rfl) (by kernel_rfl) (by rfl) (by first | assumption | decide +kernel) (by decide +kernel) ⟨rfl, rfl, rfl, rfl, rfl, by decide +kernel⟩ ?hw ?hc
  case hw => w_witness2
  case hc =>
    refine Mi.walk_ofW (l := PySem.Challenge.rw_whomayname_k11_lineage_refusals) (n := 63) (k := 61) (x := "_law_script") (CX := fun w => L2.CX (PySem.Challenge.rw_whomayname_k11_lineage_refusals).prog w) rfl (by decide) (by kernel_rfl) ⟨rfl, by decide, by decide⟩ ?F (fun _ _ _ _ _ z => Mi.cx_no z)
    intro w mg fa h Y G hmg0
    have hmg : mg ("law" : PySem.Str) = some (.ref fa) := by
      have e : (HandSHeadRun.topDef (OpenLaw.row PySem.Challenge.rw_whomayname_k11_lineage_refusals).prog 15).name = ("law" : PySem.Str) := by kernel_rfl
      rw [← e]
      exact hmg0
    exact Mi.core Y G hmg Lw.stat (f := Mi.n_law) (p := (.glo "law", Mi.dnAt PySem.Challenge.pw_whomayname_k11_lineage_refusals 15 none "law" ["_law_script", "_law_start", "_law_line", "_law_world", "_law_k", "_law_picks", "_law_name_here", "_law_outer", "_law_ups", "_law_due_here", "_law_lower", "_law_upper", "_law_pick", "_law_up_here"])) (by decide +kernel) (by kernel_rfl) (by kernel_rfl) (by kernel_rfl) (by kernel_rfl) (by decide) Mi.good
