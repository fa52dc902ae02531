import PyProof.Rows.All
import Wide.All
import OpenK.AllK
import Wide.FinOn
import HandS.ForMost
import HandS.ForExc
import HandS.TupAny
import HandS.Deep
import HandS.IsInst
import HandS.CallSlots
import HandS.Conv
import PyProof.ListStr
import HandS.Walk
import HandS.Comp
import HandS.WordsExc
import HandS.Replace
import HandS.SetFor
import HandS.ExcOwn
import PyProof.ExcBaseAll.ValueError
import HandS.Lambda
import HandS.ExcIs
import PyProof.ZipIter
import HandS.TryOnly
import HandS.Style
import HandS.EndBits
import PySem.Challenge.RW_tornrelay_k06_hits_only_punch
set_option Elab.async false
set_option autoImplicit false
set_option linter.all false
set_option maxRecDepth 100000
/-! A core language of values that are trees, and its meaning as a plain function. -/
namespace VS
open PySem L2

/-- who may change a list: its one holder; its one holder, behind a loop over it; nobody; nobody (it stands in the module's text or was handed to the law) -/
inductive Fl where
  | own | lck | frz | wrt
  deriving DecidableEq

inductive D where
  | gone | non | bl (b : Bool) | int (i : Int) | str (x : Str)
  | tup (ds : List D)
  | lst (o : Fl) (ds : List D)
  | dK (o : Fl) (ks : List Key) (ds : List D)
  | dT (o : Fl) (ks : List (List Key)) (ds : List D)
  | obj (n : Nat)
  | exc (c : Nat) (ps : List D)
instance : Inhabited D := ⟨.non⟩

mutual
/-- nothing in it that its holder may change -/
def D.plain : D → Bool
  | .gone => false
  | .non => true | .bl _ => true | .int _ => true | .str _ => true | .obj _ => true
  | .tup ds => plainL ds
  | .lst o _ => match o with | .frz => true | .wrt => true | _ => false
  | .dK o _ _ => match o with | .frz => true | .wrt => true | _ => false
  | .dT o _ _ => match o with | .frz => true | .wrt => true | _ => false
  | .exc _ _ => true
def plainL : List D → Bool
  | [] => true
  | d :: ds => d.plain && plainL ds
end
mutual
/-- given up by its holder -/
def D.frz : D → D
  | .gone => .gone
  | .non => .non | .bl b => .bl b | .int i => .int i | .str x => .str x | .obj n => .obj n
  | .tup ds => .tup (frzL ds)
  | .lst .own ds => .lst .frz (frzL ds)
  | .lst o ds => .lst o ds
  | .dK .own ks ds => .dK .frz ks (frzL ds)
  | .dK o ks ds => .dK o ks ds
  | .dT .own ks ds => .dT .frz ks (frzL ds)
  | .dT o ks ds => .dT o ks ds
  | .exc c ps => .exc c ps
def frzL : List D → List D
  | [] => []
  | d :: ds => d.frz :: frzL ds
end
mutual
/-- nothing in it that a loop walks -/
def D.frzOk : D → Bool
  | .gone => false
  | .non => true | .bl _ => true | .int _ => true | .str _ => true | .obj _ => true
  | .tup ds => frzOkL ds
  | .lst o ds => match o with | .own => frzOkL ds | .lck => false | _ => true
  | .dK o _ ds => match o with | .own => frzOkL ds | .lck => false | _ => true
  | .dT o _ ds => match o with | .own => frzOkL ds | .lck => false | _ => true
  | .exc _ _ => true
def frzOkL : List D → Bool
  | [] => true
  | d :: ds => d.frzOk && frzOkL ds
end
mutual
/-- as plain data -/
def D.pd : D → Option PyData
  | .gone => none
  | .non => some .none | .bl b => some (.bool b) | .int i => some (.int i) | .str x => some (.str x)
  | .obj _ => none
  | .tup ds => (pdL ds).map .tuple
  | .lst _ ds => (pdL ds).map .list
  | .dK .. => none | .dT .. => none | .exc .. => none
def pdL : List D → Option (List PyData)
  | [] => some []
  | d :: ds => match d.pd, pdL ds with
    | some x, some xs => some (x :: xs)
    | _, _ => none
end
mutual
/-- no place in it that was moved away -/
def D.there : D → Bool
  | .gone => false
  | .non => true | .bl _ => true | .int _ => true | .str _ => true | .obj _ => true
  | .tup ds => thereL ds
  | .lst _ ds => thereL ds
  | .dK _ _ ds => thereL ds
  | .dT _ _ ds => thereL ds
  | .exc _ _ => true
def thereL : List D → Bool
  | [] => true
  | d :: ds => d.there && thereL ds
end

structure Ob where
  cls : Nat
  fs : List (Str × D)

structure Sx where
  env : List D
  sto : List Ob

inductive Out (α : Type) where
  | ok (a : α) (s : Sx)
  | exc (c : Nat) (ps : List D) (s : Sx)
  | fail

def M (α : Type) : Type := Sx → Out α
def M.bind {α β : Type} (m : M α) (f : α → M β) : M β := fun s => match m s with
  | .ok a s' => f a s'
  | .exc c ps s' => .exc c ps s'
  | .fail => .fail
instance : Monad M where
  pure a := fun s => .ok a s
  bind := M.bind
def fail {α : Type} : M α := fun _ => .fail
def getS : M Sx := fun s => .ok s s
def putS (s : Sx) : M Unit := fun _ => .ok () s
def opt {α : Type} : Option α → M α
  | some a => pure a
  | none => fail
def need (b : Bool) : M Unit := if b then pure () else fail

/-! ### places -/
inductive Acc where
  | ix (i : Nat) | key (k : Key) | keyT (k : List Key)
inductive Root where
  | loc (i : Nat) | fld (n : Nat) (f : Str)
structure Path where
  root : Root
  acc : List Acc
inductive Tm where
  | val (d : D) | at (p : Path)

def findK {κ : Type} [DecidableEq κ] : List κ → κ → Option Nat
  | [], _ => none
  | k :: ks, x => if k = x then some 0 else (findK ks x).map (· + 1)
def D.kid : D → Acc → Option D
  | .tup ds, .ix i => ds[i]?
  | .lst .own ds, .ix i => ds[i]?
  | .lst .lck ds, .ix i => ds[i]?
  | .lst .frz ds, .ix i => ds[i]?
  | .dK _ ks ds, .key k => (findK ks k).bind fun i => ds[i]?
  | .dT _ ks ds, .keyT k => (findK ks k).bind fun i => ds[i]?
  | _, _ => none
def D.setKid : D → Acc → D → Option D
  | .tup ds, .ix i, e => some (.tup (ds.set i e))
  | .lst .own ds, .ix i, e => some (.lst .own (ds.set i e))
  | .lst .lck ds, .ix i, e => some (.lst .lck (ds.set i e))
  | .dK .own ks ds, .key k, e => (findK ks k).map fun i => .dK .own ks (ds.set i e)
  | .dT .own ks ds, .keyT k, e => (findK ks k).map fun i => .dT .own ks (ds.set i e)
  | _, _, _ => none
def D.get : D → List Acc → Option D
  | d, [] => some d
  | d, a :: as => (d.kid a).bind fun e => e.get as
def D.put : D → List Acc → D → Option D
  | _, [], e => some e
  | d, a :: as, e => (d.kid a).bind fun x => (x.put as e).bind fun y => d.setKid a y
def fget : List (Str × D) → Str → Option D
  | [], _ => none
  | (g, d) :: r, f => if f = g then some d else fget r f
def fput : List (Str × D) → Str → D → List (Str × D)
  | [], f, e => [(f, e)]
  | (g, d) :: r, f, e => if f = g then (g, e) :: r else (g, d) :: fput r f e
def Sx.getR (s : Sx) : Root → Option D
  | .loc i => s.env[i]?
  | .fld n f => (s.sto[n]?).bind fun o => fget o.fs f
def Sx.putR (s : Sx) (r : Root) (e : D) : Sx := match r with
  | .loc i => { s with env := s.env.set i e }
  | .fld n f => match s.sto[n]? with
    | some o => { s with sto := s.sto.set n { o with fs := fput o.fs f e } }
    | none => s
def Sx.getP (s : Sx) (p : Path) : Option D := (s.getR p.root).bind fun d => d.get p.acc
def Sx.putP (s : Sx) (p : Path) (e : D) : Option Sx := (s.getR p.root).bind fun d => (d.put p.acc e).map fun d' => s.putR p.root d'

def deref : Tm → M D
  | .val d => pure d
  | .at p => fun s => match s.getP p with | some d => .ok d s | none => .fail
def putAt (p : Path) (e : D) : M Unit := fun s => match s.putP p e with | some s' => .ok () s' | none => .fail
/-- the value, for another holder -/
def escape : Tm → M D
  | .val d => pure d
  | .at p => do
    let d ← deref (.at p)
    if d.plain then pure d else if d.frzOk then do
      putAt p d.frz
      pure d.frz
    else fail
/-- a value read: plain as it is, else by its place -/
def placed (p : Path) (d : D) : Tm := if d.plain then .val d else .at p
/-- its parts, for another holder -/
def kidsOf (t : Tm) : M (List D) := do
  let d ← deref t
  match t, d with
  | .val _, .tup ds => pure ds
  | .val _, .lst _ ds => pure ds
  | .at p, .tup ds => if plainL ds then pure ds else if frzOkL ds then do putAt p (.tup (frzL ds)); pure (frzL ds) else fail
  | .at p, .lst o ds => if plainL ds then pure ds else if frzOkL ds then do putAt p (.lst o (frzL ds)); pure (frzL ds) else fail
  | _, _ => fail
def plainTm : Tm → Bool
  | .val _ => true
  | .at ⟨.loc _, []⟩ => true
  | .at _ => false

/-! ### the language -/
inductive Lit where
  | non | bl (b : Bool) | int (i : Int) | str (x : Str)
def Lit.d : Lit → D
  | .non => .non | .bl b => .bl b | .int i => .int i | .str x => .str x
inductive Bop where | add | sub | mul | fdiv | mod | pow | bor
  deriving DecidableEq
inductive Cop where | eq | ne | lt | le | gt | ge | isin | notin
  deriving DecidableEq
inductive Ty where | int | bool | str | list | tuple | seq | exc (c : Nat) | verr
  deriving DecidableEq
inductive Bi where | len | abs | int | str | list | tuple | max | min | sum | any | all | sorted | divmod | set | range
  deriving DecidableEq
inductive Bm where
  | append | extend | insert | pop | remove | clear | reverse | index | count
  | join | split | partition | replace | find | endswith | isdigit | get | setdefault | items | values
  deriving DecidableEq
inductive Pat where
  | name (i : Nat) | tup (ps : List Pat)
mutual
inductive CE where
  | loc (i : Nat) | glo (x : Str) | lit (l : Lit)
  | bin (op : Bop) (a b : CE) | neg (a : CE) | not (a : CE) | and (a b : CE) | or (a b : CE)
  | cmp (op : Cop) (a b : CE) | chain (o1 o2 : Cop) (a b c : CE) | isN (a : CE) | notN (a : CE)
  | ite (c a b : CE)
  | sub (a i : CE) | slice (a : CE) (lo hi : Option CE) | attr (a : CE) (f : Str)
  | tup (es : List CE) | lst (es : List CE) | dnK | dnT | disp (ks : List CE) (vs : List CE)
  | comp (own : List Nat) (p : Pat) (src : Src) (cond : Option CE) (elt : CE)
  | call (f : Nat) (es : List CE) | mcall (o : CE) (m : Str) (es : List CE) | new (c : Nat) (es : List CE)
  | bi (b : Bi) (es : List CE) | bm (b : Bm) (o : CE) (es : List CE)
  | isi (a : CE) (t : Ty) | fstr (es : List CE)
  | sortk (a : CE) (f : Nat)
inductive Src where
  | it (e : CE) | range (es : List CE) | enum (e : CE) | zip (es : List CE) | items (e : CE) | values (e : CE)
end
instance : Inhabited CE := ⟨.dnK⟩
inductive Tgt where
  | pat (p : Pat) | attr (o : CE) (f : Str) | sub (a i : CE) | slice (a : CE) (lo hi : Option CE)
inductive CS where
  | asg (t : Tgt) (e : CE)
  | augN (i : Nat) (op : Bop) (e : CE) | augF (o : CE) (f : Str) (op : Bop) (e : CE) | augS (a i : CE) (op : Bop) (e : CE)
  | expr (e : CE)
  | sdApp (d k e : CE) | sdPut (d k k2 e : CE)   -- d.setdefault(k, []).append(e); d.setdefault(k, {})[k2] = e
  | ite (c : CE) (a b : List CS)
  | for (p : Pat) (src : Src) (body : List CS)
  | while (c : CE) (body : List CS)
  | ret (e : CE) | retM (i : Nat) | retN | raise (c : Nat) (es : List CE) | brk | cont | pass
  | try (body : List CS) (hs : List (List Nat × Option Nat × List CS)) (els : List CS)
inductive Flow where
  | nx | ret (d : D) | brk | cont
structure FD where
  np : Nat                 -- parameters
  ns : Nat                 -- slots
  defs : List D            -- defaults of the last parameters
  fixed : List Bool        -- parameters that the body never stores
  body : List CS
structure Prog where
  fns : List FD
  meths : List (List (Str × Nat))     -- by class
  glob : Str → Option D
  excUp : Nat → List Nat              -- an error's class and those above it

/-! ### operations by value -/
def keyD : D → Option Key
  | .int i => some (.inl i)
  | .str x => some (.inr x)
  | _ => none
def keysD : List D → Option (List Key)
  | [] => some []
  | d :: ds => match keyD d, keysD ds with
    | some k, some ks => some (k :: ks)
    | _, _ => none
def dKey : Key → D
  | .inl i => .int i
  | .inr x => .str x
def eqD (a b : D) : Option Bool := match a.pd, b.pd with
  | some x, some y => if SeqAt.shaped x && SeqAt.shaped y then some (PyData.eqv x y) else none
  | _, _ => none
def fits (n : Nat) : Bool := decide (n ≤ sizeLine)
def strIn (i j : Str) : Bool := !(Builtin.Str.occurrences j i 0 j.length 1).isEmpty
def eqAny (x : D) : List D → Option Bool
  | [] => some false
  | d :: ds => match eqD d x, eqAny x ds with
    | some b, some c => some (b || c)
    | _, _ => none
def flatD : D → Bool
  | .non => true | .bl _ => true | .int _ => true | .str _ => true
  | _ => false
def eqF (a b : D) : Bool := match a.pd, b.pd with
  | some x, some y => PyData.eqv x y
  | _, _ => false
def isInL (a : D) (ds : List D) : Option Bool := match a.pd, pdL ds with
  | some x, some xs => if SeqAt.shaped x && SeqAt.shaped (.list xs) then some (xs.any fun z => PyData.eqv z x) else none
  | _, _ => none
def isInD (a b : D) : Option Bool := match b with
  | .str j => match a with | .str i => some (strIn i j) | _ => none
  | .lst _ ds => isInL a ds
  | .tup ds => if flatD a && ds.all flatD then some (ds.any fun y => eqF y a) else none
  | .dK _ ks _ => (keyD a).map fun k => (findK ks k).isSome
  | .dT _ ks _ => match a with | .tup es => (keysD es).map fun k => (findK ks k).isSome | _ => none
  | _ => none
def cmpD (op : Cop) (a b : D) : Option Bool := match op with
  | .eq => eqD a b
  | .ne => (eqD a b).map (!·)
  | .lt => match a, b with | .int i, .int j => some (decide (i < j)) | _, _ => none
  | .le => match a, b with | .int i, .int j => some (decide (i ≤ j)) | _, _ => none
  | .gt => match a, b with | .int i, .int j => some (decide (j < i)) | _, _ => none
  | .ge => match a, b with | .int i, .int j => some (decide (j ≤ i)) | _, _ => none
  | .isin => isInD a b
  | .notin => (isInD a b).map (!·)
def intOp (op : Bop) (i j : Int) : Option Int := match op with
  | .add => some (i + j)
  | .sub => some (i - j)
  | .mul => if (-(2 ^ 64) < i ∧ i < 2 ^ 64) ∨ (-(2 ^ 64) < j ∧ j < 2 ^ 64) then some (i * j) else none
  | .fdiv => if 0 < j ∧ j < 1073741824 then some (i / j) else none
  | .mod => if 0 < j then some (i % j) else none
  | .pow => if 0 ≤ j ∧ j ≤ 1000000 ∧ i.natAbs < 2 ^ 64 then some (i ^ j.toNat) else none
  | .bor => some (Builtin.bitOr i j)
def strMul (x : Str) (n : Int) : Str := Txt.mul x n
/-- .. of a list of the call's own -/
def kidsTr (t : Tm) : M (List D) := do
  let d ← deref t
  match d with
  | .lst o _ => do
    need (decide (o ≠ .wrt))
    kidsOf t
  | _ => fail
def signsD (x : Str) : List D := x.cps.toList.map fun c => .str ⟨#[c]⟩
/-- a list's or a tuple's parts, a text's signs -/
def kidsLs (t : Tm) : M (List D) := do
  let d ← deref t
  match d with
  | .str x => do
    need (fits x.length)
    pure (signsD x)
  | _ => kidsOf t
def escV (t : Tm) : M Tm := do
  let d ← escape t
  pure (.val d)
def kidsTp (t : Tm) : M (List D) := do
  let d ← deref t
  match d with
  | .tup _ => kidsOf t
  | _ => fail
def catTup (ta tb : Tm) : M Tm := do
  let ys ← kidsTp tb
  let xs ← kidsTp ta
  pure (.val (.tup (xs ++ ys)))
def binT (op : Bop) (ta tb : Tm) : M Tm := do
  let b ← deref tb
  let a ← deref ta
  match a, b with
  | .int i, .int j => do
    let k ← opt (intOp op i j)
    pure (.val (.int k))
  | .str x, .str y => do
    need (decide (op = .add) && fits (x.length + y.length))
    pure (.val (.str (x ++ y)))
  | .str x, .int n => do
    need (decide (op = .mul) && decide (-(2 ^ 63) ≤ n ∧ n < 2 ^ 63) && fits (x.length * n.toNat))
    pure (.val (.str (strMul x n)))
  | .lst o xs, .lst q ys => do
    need (decide (op = .add))
    let ys' ← kidsTr tb
    let xs' ← kidsTr ta
    need (fits (xs'.length + ys'.length))
    pure (.val (.lst .own (xs' ++ ys')))
  | .tup xs, .tup ys => do
    need (decide (op = .add) && fits (xs.length + ys.length))
    if xs.isEmpty then escV tb else if ys.isEmpty then escV ta else catTup ta tb
  | .lst o xs, .int n => do
    need (decide (op = .mul) && decide (-(2 ^ 63) ≤ n ∧ n < 2 ^ 63))
    let xs' ← kidsTr ta
    need (frzOkL xs' && fits (xs'.length * n.toNat))
    pure (.val (.lst .own (List.replicate n.toNat (frzL xs')).flatten))
  | _, _ => fail
def truth : D → Option Bool
  | .bl b => some b
  | _ => none
def strsD : List D → Option (List Str)
  | [] => some []
  | .str x :: ds => (strsD ds).map (x :: ·)
  | _ :: _ => none
def intsD : List D → Option (List Int)
  | [] => some []
  | .int x :: ds => (intsD ds).map (x :: ·)
  | _ :: _ => none
def blsD : List D → Option (List Bool)
  | [] => some []
  | .bl x :: ds => (blsD ds).map (x :: ·)
  | _ :: _ => none
def seqD : D → Option (List D)
  | .lst _ ds => some ds
  | .tup ds => some ds
  | _ => none
def lenD : D → Option Nat
  | .str x => if x.length ≤ sizeLine then some x.length else none
  | .lst _ ds => some ds.length
  | .tup ds => some ds.length
  | .dK _ ks _ => some ks.length
  | .dT _ ks _ => some ks.length
  | _ => none
def isiD (up : Nat → List Nat) (d : D) (t : Ty) : Option Bool := match d, t with
  | .gone, _ => none
  | .exc c _, .exc e => some ((up c).contains e)
  | .exc _ _, .verr => some true
  | _, .exc _ => none
  | _, .verr => none
  | .bl _, .int => some true
  | .bl _, .bool => some true
  | .int _, .int => some true
  | .str _, .str => some true
  | .lst .., .list => some true
  | .tup _, .tuple => some true
  | .lst .., .seq => some true
  | .tup _, .seq => some true
  | _, _ => some false
def maxL : Int → List Int → Int
  | m, [] => m
  | m, x :: xs => maxL (if x > m then x else m) xs
def minL : Int → List Int → Int
  | m, [] => m
  | m, x :: xs => minL (if x < m then x else m) xs
/-- an order of data of one shape -/
def ltNats : List Nat → List Nat → Bool
  | [], [] => false
  | [], _ :: _ => true
  | _ :: _, [] => false
  | x :: xs, y :: ys => if x = y then ltNats xs ys else decide (x < y)
mutual
def ltD : D → D → Option Bool
  | .int i, .int j => some (decide (i < j))
  | .str x, .str y => some (ltNats x.cps.toList y.cps.toList)
  | .tup xs, .tup ys => ltL xs ys
  | _, _ => none
def ltL : List D → List D → Option Bool
  | [], [] => some false
  | [], _ :: _ => some true
  | _ :: _, [] => some false
  | x :: xs, y :: ys => match eqD x y with
    | some true => ltL xs ys
    | some false => ltD x y
    | none => none
end
def insD (x : D × D) : List (D × D) → Option (List (D × D))
  | [] => some [x]
  | y :: ys => match ltD x.1 y.1 with
    | some true => some (x :: y :: ys)
    | some false => (insD x ys).map (y :: ·)
    | none => none
/-- stable -/
def sortD (xs : List (D × D)) : Option (List (D × D)) := xs.foldl (fun acc x => acc.bind fun l => insD x l) (some [])
def firsts : List D → List D → Option (List D)
  | [], acc => some acc
  | d :: ds, acc => match eqAny d acc with
    | some true => firsts ds acc
    | some false => firsts ds (acc ++ [d])
    | none => none
def fpart : D → Option Str
  | .str x => some x
  | .int i => if i.natAbs.log2 < 1920 then some (Str.ofString (toString i)) else none
  | _ => none

/-! ### the meaning -/
section
variable (P : Prog)
mutual
/-- it changes nothing that stands -/
def quiet : CE → Bool
  | .loc _ | .glo _ | .lit _ | .dnK | .dnT => true
  | .bin _ a b | .and a b | .or a b | .cmp _ a b | .sub a b => quiet a && quiet b
  | .neg a | .not a | .isN a | .notN a | .attr a _ | .isi a _ => quiet a
  | .chain _ _ a b c | .ite c a b => quiet a && quiet b && quiet c
  | .slice a lo hi => quiet a && quietO lo && quietO hi
  | .tup es | .lst es | .fstr es | .bi _ es => quietL es
  | .bm .join o es | .bm .split o es | .bm .count o es | .bm .get o es | .bm .index o es => quiet o && quietL es
  | _ => false
def quietL : List CE → Bool
  | [] => true
  | e :: es => quiet e && quietL es
def quietO : Option CE → Bool
  | none => true
  | some e => quiet e
end
/-- a place that is read must stay while what comes behind is reckoned -/
def stays (t : Tm) (es : List CE) : M Unit := need (plainTm t || quietL es)

/-! values of what is read, the last first -/
def derefL : List Tm → M (List D)
  | [] => pure []
  | t :: ts => do
    let d ← deref t
    let ds ← derefL ts
    pure (d :: ds)
def escL : List Tm → M (List D)
  | [] => pure []
  | t :: ts => do
    let ds ← escL ts
    let d ← escape t
    pure (d :: ds)
def kidsL : List Tm → M (List (List D))
  | [] => pure []
  | t :: ts => do
    let ls ← kidsL ts
    let l ← kidsOf t
    pure (l :: ls)

/-! arguments: a name's own list is lent, once -/
def isLoc : Tm → Option Nat
  | .at ⟨.loc i, []⟩ => some i
  | _ => none
def escN (t : Tm) : M (D × Option Nat) := do
  let d ← escape t
  pure (d, none)
def lendLoc (i : Nat) : M (D × Option Nat) := fun s => match s.env[i]? with
  | some .gone => .fail
  | some d => .ok (d, some i) { s with env := s.env.set i .gone }
  | none => .fail
def lend1 (ok : Bool) (t : Tm) : M (D × Option Nat) := match ok with
  | false => escN t
  | true => match isLoc t with
    | some i => lendLoc i
    | none => escN t
def lendL : List Tm → List Bool → M (List (D × Option Nat))
  | [], _ => pure []
  | t :: ts, fx => do
    let r ← lendL ts fx.tail
    let x ← lend1 (fx.headD false) t
    pure (x :: r)
def back : List (Option Nat) → List D → Sx → Sx
  | some i :: r, d :: ds, s => back r ds { s with env := s.env.set i d }
  | none :: r, _ :: ds, s => back r ds s
  | _, _, s => s
def callR (cf : Nat → List D → M (D × List D)) (f n : Nat) (as : List (D × Option Nat)) : M Tm := fun s => match cf f (as.map (·.1)) ⟨[], s.sto⟩ with
    | .ok (r, outs) s' => if outs.length = n then .ok (.val r) (back (as.map (·.2)) outs { s with sto := s'.sto }) else .fail
    | .exc c ps s' => if s'.env.length = n then .exc c ps (back (as.map (·.2)) s'.env { s with sto := s'.sto }) else .fail
    | .fail => .fail
def callT (cf : Nat → List D → M (D × List D)) (f : Nat) (ts : List Tm) : M Tm := do
  let fd ← opt P.fns[f]?
  need (decide (ts.length = fd.np))
  let as ← lendL ts fd.fixed
  callR cf f ts.length as
/-- nothing raises here -/
def noRaise {α : Type} (m : M α) : M α := fun s => match m s with
  | .ok a s' => .ok a s'
  | _ => .fail

/-! one of its parts -/
def child (ta : Tm) (a : Acc) (d : D) : M Tm := match ta with
  | .val _ => pure (.val d)
  | .at p => pure (placed ⟨p.root, p.acc ++ [a]⟩ d)
def subT (ta ti : Tm) : M Tm := do
  let i ← deref ti
  let a ← deref ta
  match a, i with
  | .str x, .int k => do
    need (fits x.length)
    let c ← opt (atI x.cps.toList k)
    pure (.val (.str ⟨#[c]⟩))
  | .lst o ds, .int k => do
    let j ← opt (ixN ds.length k)
    let d ← opt ds[j]?
    need (d.plain || decide (o ≠ .wrt))
    child ta (.ix j) d
  | .tup ds, .int k => do
    let j ← opt (ixN ds.length k)
    let d ← opt ds[j]?
    child ta (.ix j) d
  | .dK _ ks ds, k => do
    let k ← opt (keyD k)
    let d ← opt ((findK ks k).bind fun j => ds[j]?)
    child ta (.key k) d
  | .dT _ ks ds, .tup es => do
    let k ← opt (keysD es)
    let d ← opt ((findK ks k).bind fun j => ds[j]?)
    child ta (.keyT k) d
  | _, _ => fail
def cutL (ds : List D) (lo hi : Option Int) : List D := (ds.drop (HT.sIx ds.length 0 lo)).take (HT.sIx ds.length ds.length hi - HT.sIx ds.length 0 lo)
def sliceT (ta : Tm) (lo hi : Option Int) : M Tm := do
  let a ← deref ta
  match a with
  | .str x => do
    need (fits x.length)
    pure (.val (.str (cutS x lo hi)))
  | .lst _ ds => match ta with
    | .val _ => pure (.val (.lst .own (cutL ds lo hi)))
    | .at _ => if plainL (cutL ds lo hi) then pure (.val (.lst .own (cutL ds lo hi))) else do
      let l ← kidsOf ta
      pure (.val (.lst .own (cutL l lo hi)))
  | .tup ds => if HT.sIx ds.length 0 lo = 0 ∧ HT.sIx ds.length ds.length hi = ds.length then escV ta else do
    let l ← kidsOf ta
    pure (.val (.tup (cutL l lo hi)))
  | _ => fail

/-! what a loop takes -/
inductive Items where
  | ds (l : List D) (locks : List Nat) | moved (i : Nat) (n : Nat) (locks : List Nat)
def lockOk : D → Bool
  | .lst .frz _ => true
  | .tup _ => true
  | _ => false
/-- a list that is walked isn't changed meanwhile -/
def lockT (t : Tm) : M (List Nat) := match t with
  | .val _ => pure []
  | .at ⟨.loc i, []⟩ => fun s => match s.env[i]? with
    | some (.lst .own ds) => .ok [i] { s with env := s.env.set i (.lst .lck ds) }
    | some (.lst .lck _) => .ok [] s
    | some (.tup _) => .ok [] s
    | _ => .fail
  | .at p => do
    let d ← escape (.at p)
    need (lockOk d)
    pure []
def locksL : List Tm → M (List Nat)
  | [] => pure []
  | t :: ts => do
    let b ← locksL ts
    let a ← lockT t
    pure (a ++ b)
def unlock : List Nat → Sx → Option Sx
  | [], s => some s
  | i :: r, s => match s.env[i]? with
    | some (.lst .lck ds) => unlock r { s with env := s.env.set i (.lst .own ds) }
    | _ => none
/-- behind a loop, however it is left -/
def unlocked {α : Type} (ls : List Nat) (m : M α) : M α := fun s => match m s with
  | .ok a s' => match unlock ls s' with
    | some s'' => .ok a s''
    | none => .fail
  | .exc c es s' => match unlock ls s' with
    | some s'' => .exc c es s''
    | none => .fail
  | .fail => .fail
def mapOpt {α β : Type} (f : α → Option β) : List α → Option (List β)
  | [] => some []
  | a :: as => match f a, mapOpt f as with
    | some b, some bs => some (b :: bs)
    | _, _ => none
def walkOk (t : Tm) (d : D) : Bool := match t, d with
  | .at _, .lst .wrt _ => false
  | _, _ => true
def walked (t : Tm) : M Items := do
  let d ← deref t
  need (walkOk t d)
  let l ← kidsOf t
  let ls ← lockT t
  pure (.ds l ls)
/-- .. a list's -/
def walkedL (t : Tm) : M Items := do
  let d ← deref t
  match d with
  | .lst _ _ => walked t
  | _ => fail
/-- the items of a name's own list are given to the loop -/
def goneL (ds : List D) : List D := ds.map fun _ => .gone
def movedOut (t : Tm) (d : D) : M Items := match t, d with
  | .at ⟨.loc i, []⟩, .lst .own ds => fun s => .ok (.ds ds [i]) { s with env := s.env.set i (.lst .lck (goneL ds)) }
  | _, _ => fail
def kidsFor (mv : Bool) (t : Tm) : M Items := do
  let d ← deref t
  match d with
  | .str x => pure (.ds (signsD x) [])
  | .dK _ _ _ => fail
  | .dT _ _ _ => fail
  | _ => match t with
    | .at _ => if mv && !plainL ((seqD d).getD []) then movedOut t d else walked t
    | .val _ => walked t
def zip2 : List D → List D → List D
  | x :: xs, y :: ys => .tup [x, y] :: zip2 xs ys
  | _, _ => []
def zip3 : List D → List D → List D → List D
  | x :: xs, y :: ys, z :: zs => .tup [x, y, z] :: zip3 xs ys zs
  | _, _, _ => []
def enumL : Nat → List D → List D
  | _, [] => []
  | i, d :: ds => .tup [.int (i : Nat), d] :: enumL (i + 1) ds
def rangeL (lo : Int) : Nat → List D
  | 0 => []
  | n + 1 => .int lo :: rangeL (lo + 1) n
def rangeC (lo c : Int) : Nat → List D
  | 0 => []
  | n + 1 => .int lo :: rangeC (lo + c) c n
def small62 (i : Int) : Bool := decide (-(2 ^ 62) ≤ i ∧ i < 2 ^ 62)
mutual
/-- a value put into names -/
def bindP : Pat → D → M Unit
  | .name i, d => fun s => if i < s.env.length then .ok () { s with env := s.env.set i d } else .fail
  | .tup ps, .tup ds => do
      need (decide (ps.length = ds.length))
      bindPs ps ds
  | .tup _, _ => fail
def bindPs : List Pat → List D → M Unit
  | p :: ps, d :: ds => do
    bindP p d
    bindPs ps ds
  | _, _ => pure ()
end

section
variable (ev : CE → M Tm) (cf : Nat → List D → M (D × List D))
def evalL : List CE → M (List Tm)
  | [] => pure []
  | e :: es => do
    let t ← ev e
    stays t es
    let ts ← evalL es
    pure (t :: ts)
def evalD (e : CE) : M D := (ev e).bind deref
def evalB (e : CE) : M Bool := do
  let d ← evalD ev e
  opt (truth d)
def evalI (e : CE) : M Int := do
  let d ← evalD ev e
  match d with | .int i => pure i | _ => fail
def srcItems (mv : Bool) : Src → M Items
  | .it e => (ev e).bind (kidsFor mv)
  | .range es => do
    let ts ← evalL ev es
    let ds ← derefL ts
    match ds with
    | [.int b] => do
      need (small62 b)
      pure (.ds (rangeL 0 b.toNat) [])
    | [.int a, .int b] => do
      need (small62 a && small62 b)
      pure (.ds (rangeL a (b - a).toNat) [])
    | [.int a, .int b, .int c] => do
      need (decide (c = -1) && small62 a && small62 b)
      pure (.ds (rangeC a c (a - b).toNat) [])
    | _ => fail
  | .enum e => do
    let t ← ev e
    let it ← walkedL t
    match it with
    | .ds l lk => pure (.ds (enumL 0 l) lk)
    | _ => fail
  | .zip [a, b] => do
    let ts ← evalL ev [a, b]
    match ts with
    | [t1, t2] => do
      let y ← walkedL t2
      let x ← walkedL t1
      match x, y with
      | .ds xs k1, .ds ys k2 => pure (.ds (zip2 xs ys) (k1 ++ k2))
      | _, _ => fail
    | _ => fail
  | .zip [a, b, c] => do
    let ts ← evalL ev [a, b, c]
    match ts with
    | [t1, t2, t3] => do
      let z ← walkedL t3
      let y ← walkedL t2
      let x ← walkedL t1
      match x, y, z with
      | .ds xs k1, .ds ys k2, .ds zs k3 => pure (.ds (zip3 xs ys zs) (k1 ++ k2 ++ k3))
      | _, _, _ => fail
    | _ => fail
  | .zip _ => fail
  | .items e => do
    let t ← ev e
    let d ← escape t
    match d with
    | .dK _ ks ds => pure (.ds (zip2 (ks.map dKey) ds) [])
    | .dT _ ks ds => pure (.ds (zip2 (ks.map fun k => .tup (k.map dKey)) ds) [])
    | _ => fail
  | .values e => do
    let t ← ev e
    let d ← escape t
    match d with
    | .dK _ _ ds => pure (.ds ds [])
    | .dT _ _ ds => pure (.ds ds [])
    | _ => fail
def clr : List Nat → List D → List D
  | [], env => env
  | i :: r, env => (clr r env).set i .gone
def clear (own : List Nat) : M Unit := fun s => .ok () { s with env := clr own s.env }
def compLoop (own : List Nat) (p : Pat) (cond : Option CE) (elt : CE) : List D → List D → M (List D)
  | [], acc => pure acc
  | d :: ds, acc => do
    clear own
    bindP p d
    let b ← (match cond with | some c => evalB ev c | none => pure true)
    if b then do
      let t ← ev elt
      let e ← escape t
      need (decide (acc.length < sizeLine))
      compLoop own p cond elt ds (acc ++ [e])
    else compLoop own p cond elt ds acc
/-- behind a comprehension its own names are as they were -/
def backE : List Nat → List D → List D → List D
  | [], _, env => env
  | i :: r, old, env => backE r old (env.set i (old[i]?.getD .gone))
def inBlock {α : Type} (own : List Nat) (m : M α) : M α := fun s => match m s with
  | .ok a s' => .ok a { s' with env := backE own s.env s'.env }
  | .exc c ps s' => .exc c ps s'
  | .fail => .fail
def noRaiseL {α : Type} (m : M α) : M α := fun s => match m s with
  | .exc _ _ _ => .fail
  | o => o
/-- what a call of a built-in is worth, its arguments read -/
def biD (b : Bi) (ds : List D) : Option D := match b, ds with
  | .len, [d] => match lenD d with | some n => some (.int ((n : Nat) : Int)) | none => none
  | .abs, [.int i] => some (.int (if i < 0 then -i else i))
  | .int, [.int i] => some (.int i)
  | .int, [.bl b] => some (.int (if b then 1 else 0))
  | .int, [.str x] => if x.length ≤ 640 then (PySem.intText? x).map .int else none
  | .str, [.int i] => if i.natAbs.log2 < 1920 then some (.str (Str.ofString (toString i))) else none
  | .max, [.int i, .int j] => some (.int (if j > i then j else i))
  | .min, [.int i, .int j] => some (.int (if j < i then j else i))
  | .max, [.lst _ ds] => match intsD ds with | some (x :: xs) => some (.int (maxL x xs)) | _ => none
  | .min, [.lst _ ds] => match intsD ds with | some (x :: xs) => some (.int (minL x xs)) | _ => none
  | .sum, [.lst _ ds] => (intsD ds).map fun xs => .int xs.sum
  | .any, [.lst _ ds] => (blsD ds).map fun xs => .bl (xs.any id)
  | .all, [.lst _ ds] => (blsD ds).map fun xs => .bl (xs.all id)
  | .divmod, [.int i, .int j] => if 0 < j ∧ j < 1073741824 then some (.tup [.int (i / j), .int (i % j)]) else none
  | _, _ => none
def setD : D → Option (List D)
  | .str x => firsts (signsD x) []
  | .lst _ ds => firsts ds []
  | .tup ds => firsts ds []
  | _ => none
def notObj : D → Bool
  | .obj _ => false
  | _ => true
def noDict : D → Bool
  | .dK _ _ _ => false
  | .dT _ _ _ => false
  | _ => true
def noDT : D → Bool
  | .dT _ _ _ => false
  | _ => true
def biT (b : Bi) (es : List CE) : M Tm := match b, es with
  | .list, [] => pure (.val (.lst .own []))
  | .list, [.bi .range rs] => do
    let it ← srcItems ev false (.range rs)
    match it with
    | .ds l _ => pure (.val (.lst .own l))
    | _ => fail
  | .tuple, [.bi .range rs] => do
    let it ← srcItems ev false (.range rs)
    match it with
    | .ds l _ => pure (.val (.tup l))
    | _ => fail
  | .list, [e] => do
    let t ← ev e
    let l ← kidsLs t
    pure (.val (.lst .own l))
  | .tuple, [e] => do
    let t ← ev e
    let d ← deref t
    match d with
    | .tup _ => escV t
    | .lst _ _ => do
      let l ← kidsOf t
      pure (.val (.tup l))
    | _ => fail
  | .sorted, [.bi .set [e]] => do
    let t ← ev e
    let d ← deref t
    let l ← opt (setD d)
    let l' ← opt (sortD (l.map fun x => (x, x)))
    pure (.val (.lst .own (l'.map (·.2))))
  | .len, [.bi .set [e]] => do
    let t ← ev e
    let d ← deref t
    let l ← opt (setD d)
    pure (.val (.int l.length))
  | .sorted, [e] => do
    let t ← ev e
    let d ← deref t
    let l ← (match d with
      | .str x => pure (signsD x)
      | .dK _ ks _ => pure (ks.map dKey)
      | .dT _ ks _ => pure (ks.map fun k => .tup (k.map dKey))
      | _ => kidsOf t)
    let l' ← opt (sortD (l.map fun x => (x, x)))
    pure (.val (.lst .own (l'.map (·.2))))
  | b, es => do
    let ts ← evalL ev es
    let ds ← derefL ts
    need (ds.all noDict)
    let d ← opt (biD b ds)
    pure (.val d)
def ownList (t : Tm) : M (Path × List D) := match t with
  | .at p => do
    let d ← deref t
    match d with
    | .lst .own ds => pure (p, ds)
    | _ => fail
  | .val _ => fail
def idxOf (x : D) : List D → Option Nat
  | [] => none
  | d :: ds => match eqD d x with
    | some true => some 0
    | some false => (idxOf x ds).map (· + 1)
    | none => none
/-- the first place of a thing -/
def indexD (d x : D) : Option Nat := match d with
  | .lst _ ds => match pdL ds, x.pd with
    | some zs, some z => if SeqAt.shaped (.list zs) && SeqAt.shaped z then zs.findIdx? (fun y => PyData.eqv y z) else none
    | _, _ => none
  | _ => none
def countI (d x : D) : Option Nat := match d with
  | .lst _ ds => match intsD ds, x with
    | some ns, .int k => some (ns.count k)
    | _, _ => none
  | _ => none
def strBm (b : Bm) (x : Str) (ds : List D) : Option D := match b, ds with
  | .index, [.str y] => match Builtin.Str.occurrences x y 0 x.length 1 with | i :: _ => some (.int ((i : Nat) : Int)) | [] => none
  | .find, [.str y] => some (.int (Txt.find x y))
  | .count, [.str y] => some (.int (Txt.count x y))
  | .endswith, [.str y] => some (.bl (Txt.endswith x y))
  | .isdigit, [] => some (.bl (Txt.isdigit x))
  | .split, [.str y] => if y.length ≠ 0 ∧ x.length + 2 ≤ sizeLine then some (.lst .own ((Txt.split x y).map .str)) else none
  | .split, [] => if x.length + 2 ≤ sizeLine then some (.lst .own ((Txt.words x).map .str)) else none
  | .partition, [.str y] => if y.length ≠ 0 ∧ x.length ≤ sizeLine then some (.tup [.str (Txt.partition x y).1, .str (Txt.partition x y).2.1, .str (Txt.partition x y).2.2]) else none
  | .replace, [.str y, .str z] => some (.str ⟨((Str.join z (Txt.split x y)).cps)⟩)
  | .join, [d] => match (seqD d).bind strsD with
    | some ys => if (ys.map (fun y => y.length + x.length)).sum ≤ 16777216 then some (.str (Txt.join x ys)) else none
    | none => none
  | _, _ => none
def getT (t : Tm) (a : Acc) (v : Option D) (u : M Tm) : M Tm := match v with
  | some v => child t a v
  | none => u
/-- what a method is asked of -/
def bmOk (b : Bm) (d : D) : Bool := match b, d with
  | .append, .lst _ _ => true | .extend, .lst _ _ => true | .insert, .lst _ _ => true | .remove, .lst _ _ => true | .reverse, .lst _ _ => true
  | .pop, .lst _ _ => true | .clear, .lst _ _ => true
  | .get, .dK _ _ _ => true | .get, .dT _ _ _ => true
  | .index, .lst _ _ => true | .count, .lst _ _ => true
  | .append, _ => false | .extend, _ => false | .insert, _ => false | .remove, _ => false | .reverse, _ => false | .pop, _ => false | .clear, _ => false | .get, _ => false
  | _, .str _ => true
  | _, _ => false
def bmT (b : Bm) (t : Tm) (ts : List Tm) : M Tm := do
  let d ← deref t
  match d with
  | .str x => do
    let ds ← derefL ts
    let r ← opt (strBm b x ds)
    pure (.val r)
  | .dK _ ks vs => match b, ts with
    | .get, [k] => do
      let k ← deref k
      let k ← opt (keyD k)
      getT t (.key k) ((findK ks k).bind fun j => vs[j]?) (pure (.val .non))
    | .get, [k, u] => do
      let k ← deref k
      let k ← opt (keyD k)
      getT t (.key k) ((findK ks k).bind fun j => vs[j]?) (pure u)
    | _, _ => fail
  | .dT _ ks vs => match b, ts with
    | .get, [k] => do
      let k ← deref k
      match k with
      | .tup k => do
        let k ← opt (keysD k)
        getT t (.keyT k) ((findK ks k).bind fun j => vs[j]?) (pure (.val .non))
      | _ => fail
    | .get, [k, u] => do
      let k ← deref k
      match k with
      | .tup k => do
        let k ← opt (keysD k)
        getT t (.keyT k) ((findK ks k).bind fun j => vs[j]?) (pure u)
      | _ => fail
    | _, _ => fail
  | _ => match b, ts with
    | .index, [u] => do
      let x ← deref u
      let j ← opt (indexD d x)
      pure (.val (.int ((j : Nat) : Int)))
    | .count, [u] => do
      let x ← deref u
      let n ← opt (countI d x)
      pure (.val (.int ((n : Nat) : Int)))
    | .append, [u] => do
      let x ← escape u
      let (p, ds) ← ownList t
      need (decide (ds.length < sizeLine))
      putAt p (.lst .own (ds ++ [x]))
      pure (.val .non)
    | .extend, [u] => do
      let l ← kidsTr u
      let (p, ds) ← ownList t
      need (decide (ds.length + l.length ≤ sizeLine))
      putAt p (.lst .own (ds ++ l))
      pure (.val .non)
    | .insert, [i, u] => do
      let x ← escape u
      let i ← deref i
      let (p, ds) ← ownList t
      match i with
      | .int i => do
        need (decide (ds.length < sizeLine) && decide (0 ≤ i ∧ i < 2 ^ 62))
        putAt p (.lst .own (ds.take i.toNat ++ x :: ds.drop i.toNat))
        pure (.val .non)
      | _ => fail
    | .pop, [] => do
      let (p, ds) ← ownList t
      let x ← opt ds[ds.length - 1]?
      putAt p (.lst .own ds.dropLast)
      pure (.val x)
    | .pop, [i] => do
      let i ← deref i
      let (p, ds) ← ownList t
      match i with
      | .int i => do
        need (small62 i)
        let j ← opt (ixN ds.length i)
        let x ← opt ds[j]?
        putAt p (.lst .own (ds.eraseIdx j))
        pure (.val x)
      | _ => fail
    | .remove, [u] => do
      let x ← deref u
      let (p, ds) ← ownList t
      let j ← opt (idxOf x ds)
      putAt p (.lst .own (ds.eraseIdx j))
      pure (.val .non)
    | .clear, [] => do
      let (p, _) ← ownList t
      putAt p (.lst .own [])
      pure (.val .non)
    | .reverse, [] => do
      let (p, ds) ← ownList t
      putAt p (.lst .own ds.reverse)
      pure (.val .non)
    | _, _ => fail
/-- what is stored away -/
def putKey {κ : Type} [DecidableEq κ] (ks : List κ) (ds : List D) (k : κ) (d : D) : List κ × List D :=
  match findK ks k with
  | some j => (ks, ds.set j d)
  | none => (ks ++ [k], ds ++ [d])
def dispK : List CE → List CE → M (List (D × D))
  | k :: ks, v :: vs => do
    let kd ← evalD ev k
    let u ← ev v
    let d ← escape u
    let r ← dispK ks vs
    pure ((kd, d) :: r)
  | [], [] => pure []
  | _, _ => fail
def mkDict : List (D × D) → List Key → List D → Option D
  | [], ks, ds => some (.dK .own ks ds)
  | (k, d) :: r, ks, ds => match keyD k with
    | some k => let (ks', ds') := putKey ks ds k d; mkDict r ks' ds'
    | none => none
def mkDictT : List (D × D) → List (List Key) → List D → Option D
  | [], ks, ds => some (.dT .own ks ds)
  | (.tup k, d) :: r, ks, ds => match keysD k with
    | some k => let (ks', ds') := putKey ks ds k d; mkDictT r ks' ds'
    | none => none
  | _ :: _, _, _ => none
/-- a field -/
def fldP (d : D) (f : Str) : M Tm := match d with
  | .obj n => fun s => match s.getR (.fld n f) with
    | some v => .ok (placed ⟨.fld n f, []⟩ v) s
    | none => .fail
  | _ => fail
/-- an object's method -/
def methOf (n : Nat) (m : Str) : M Nat := fun s => match s.sto[n]? with
  | some o => if (fget o.fs m).isNone then
      match (P.meths[o.cls]?).bind fun ms => ms.lookup m with
      | some f => .ok f s
      | none => .fail
    else .fail
  | none => .fail
/-- a method's call, its object known -/
def mcallP (m : Str) (es : List CE) (d : D) : M Tm := match d with
  | .obj n => do
    let f ← methOf P n m
    let ts ← evalL ev es
    callT P cf f (.val (.obj n) :: ts)
  | _ => fail
def noneT (n : Nat) (t : Tm) : M Tm := match t with
  | .val .non => pure (.val (.obj n))
  | _ => fail
/-- a new object -/
def newP (c f : Nat) (ts : List Tm) : M Tm := fun s => ((callT P cf f (.val (.obj s.sto.length) :: ts)).bind (noneT s.sto.length)) { s with sto := s.sto ++ [⟨c, []⟩] }
def op2 (f : Tm → Tm → M Tm) : List Tm → M Tm
  | [a, b] => f a b
  | _ => fail
def cmpT (op : Cop) (ta tb : Tm) : M Tm := do
  let y ← deref tb
  let x ← deref ta
  let r ← opt (cmpD op x y)
  pure (.val (.bl r))
def cmpG (op : Cop) (ta tb : Tm) : M Tm := do
  let y ← deref tb
  need (noDT y)
  cmpT op ta tb
def subG (ta ti : Tm) : M Tm := do
  let d ← deref ta
  need (noDT d)
  subT ta ti
def sliceP (a : CE) (lo hi : Option CE) : M Tm := match lo, hi with
  | none, none => do
    let ta ← ev a
    sliceT ta none none
  | some l, none => do
    let ts ← evalL ev [a, l]
    op2 (fun ta tl => do
      let d ← deref tl
      match d with | .int i => sliceT ta (some i) none | _ => fail) ts
  | none, some h => do
    let ts ← evalL ev [a, h]
    op2 (fun ta tl => do
      let d ← deref tl
      match d with | .int i => sliceT ta none (some i) | _ => fail) ts
  | some l, some h => do
    let ta ← ev a
    stays ta [l, h]
    let i ← evalI ev l
    let j ← evalI ev h
    sliceT ta (some i) (some j)
def step : CE → M Tm
  | .loc i => fun s => match s.env[i]? with
    | some .gone => .fail
    | some d => .ok (placed ⟨.loc i, []⟩ d) s
    | none => .fail
  | .glo x => (opt (P.glob x)).bind fun d => pure (.val d)
  | .lit l => pure (.val l.d)
  | .bin op a b => (evalL ev [a, b]).bind (op2 (binT op))
  | .neg a => do
    let i ← evalI ev a
    pure (.val (.int (-i)))
  | .not a => do
    let b ← evalB ev a
    pure (.val (.bl (!b)))
  | .and a b => do
    let x ← evalB ev a
    if x then (do let y ← evalB ev b; pure (.val (.bl y))) else pure (.val (.bl false))
  | .or a b => do
    let x ← evalB ev a
    if x then pure (.val (.bl true)) else (do let y ← evalB ev b; pure (.val (.bl y)))
  | .cmp op a b => (evalL ev [a, b]).bind (op2 (cmpG op))
  | .chain o1 o2 a b c => do
    let x ← evalI ev a
    let y ← evalI ev b
    let r ← opt (cmpD o1 (.int x) (.int y))
    if r then do
      let z ← evalI ev c
      let r' ← opt (cmpD o2 (.int y) (.int z))
      pure (.val (.bl r'))
    else pure (.val (.bl false))
  | .isN a => do
    let d ← evalD ev a
    match d with
    | .gone => fail
    | .non => pure (.val (.bl true))
    | _ => pure (.val (.bl false))
  | .notN a => do
    let d ← evalD ev a
    match d with
    | .gone => fail
    | .non => pure (.val (.bl false))
    | _ => pure (.val (.bl true))
  | .ite c a b => do
    let x ← evalB ev c
    if x then ev a else ev b
  | .sub a i => (evalL ev [a, i]).bind (op2 subG)
  | .slice a lo hi => sliceP ev a lo hi
  | .attr a f => do
    let d ← evalD ev a
    fldP d f
  | .tup es => do
    let ts ← evalL ev es
    let ds ← escL ts
    need (fits ds.length)
    pure (.val (.tup ds))
  | .lst es => do
    let ts ← evalL ev es
    let ds ← escL ts
    need (fits ds.length)
    pure (.val (.lst .own ds))
  | .dnK => pure (.val (.dK .own [] []))
  | .dnT => pure (.val (.dT .own [] []))
  | .disp ks vs => do
    let l ← dispK ev ks vs
    match l with
    | (.tup _, _) :: _ => (opt (mkDictT l [] [])).bind fun d => pure (.val d)
    | _ => (opt (mkDict l [] [])).bind fun d => pure (.val d)
  | .comp own p src cond elt => do
    let it ← srcItems ev false src
    match it with
    | .ds l lk => do
      let acc ← noRaiseL (unlocked lk (inBlock own (compLoop ev own p cond elt l [])))
      pure (.val (.lst .own acc))
    | _ => fail
  | .call f es => (evalL ev es).bind (callT P cf f)
  | .mcall o m es => do
    let t ← ev o
    let d ← deref t
    mcallP P ev cf m es d
  | .new c es => do
    let ts ← evalL ev es
    let ms ← opt P.meths[c]?
    let f ← opt (ms.lookup (Str.ofString "__init__"))
    newP P cf c f ts
  | .bi b es => biT ev b es
  | .bm b o es => do
    let t ← ev o
    let d ← deref t
    need (bmOk b d)
    stays t es
    let ts ← evalL ev es
    bmT b t ts
  | .isi a t => do
    let d ← evalD ev a
    need (notObj d)
    let b ← opt (isiD P.excUp d t)
    pure (.val (.bl b))
  | .fstr es => do
    let ts ← evalL ev es
    let ds ← derefL ts
    let xs ← opt (mapOpt fpart ds)
    pure (.val (.str (xs.foldl (· ++ ·) Str.empty)))
  | .sortk a f => do
    let t ← ev a
    let l ← kidsOf t
    let ks ← l.mapM fun d => (callT P cf f [.val d]).bind deref
    let l' ← opt (sortD (ks.zip l))
    pure (.val (.lst .own (l'.map (·.2))))
end

def evalE (cf : Nat → List D → M (D × List D)) : Nat → CE → M Tm
  | 0, _ => fail
  | n + 1, e => step P (evalE cf n) cf e

section
variable (ev : CE → M Tm) (ex : List CS → M Flow)
mutual
def patNames : Pat → List Nat
  | .name i => [i]
  | .tup ps => patsNames ps
def patsNames : List Pat → List Nat
  | [] => []
  | p :: ps => patNames p ++ patsNames ps
end
def rootOf : CE → Option Nat
  | .loc i => some i
  | .sub a _ => rootOf a
  | _ => none
mutual
def changes1 (i : Nat) : CS → Bool
  | .expr (.bm b o _) => (match b with | .append | .extend | .insert | .pop | .remove | .clear | .reverse => true | _ => false) && rootOf o == some i
  | .asg (.sub a _) _ => rootOf a == some i
  | .augS a _ _ _ => rootOf a == some i
  | .ite _ a b => changesL i a || changesL i b
  | .for _ _ b => changesL i b
  | .while _ b => changesL i b
  | _ => false
def changesL (i : Nat) : List CS → Bool
  | [] => false
  | s :: r => changes1 i s || changesL i r
end
/-- does the body change the lists that its names hold? -/
def moves (p : Pat) (body : List CS) : Bool := (patNames p).any fun i => changesL i body
def forLoop (p : Pat) (body : List CS) : List D → M Flow
  | [] => pure .nx
  | d :: ds => do
    bindP p d
    let f ← ex body
    match f with
    | .nx => forLoop p body ds
    | .cont => forLoop p body ds
    | .brk => pure .nx
    | .ret r => pure (.ret r)
/-- the item at its place in a name's list, taken out -/
def takeAt (i j : Nat) : M D := fun s => match s.env[i]? with
  | some (.lst .lck ds) => match ds[j]? with
    | some .gone => .fail
    | some d => .ok d { s with env := s.env.set i (.lst .lck (ds.set j .gone)) }
    | none => .fail
  | _ => .fail
def forMoved (p : Pat) (body : List CS) (i : Nat) : Nat → Nat → M Flow
  | _, 0 => pure .nx
  | j, n + 1 => do
    let d ← takeAt i j
    bindP p d
    let f ← ex body
    match f with
    | .nx => forMoved p body i (j + 1) n
    | .cont => forMoved p body i (j + 1) n
    | .brk => pure .nx
    | .ret r => pure (.ret r)
def whileLoop (c : CE) (body : List CS) : Nat → M Flow
  | 0 => fail
  | n + 1 => do
    let b ← evalB ev c
    if b then do
      let f ← ex body
      match f with
      | .nx => whileLoop c body n
      | .cont => whileLoop c body n
      | .brk => pure .nx
      | .ret r => pure (.ret r)
    else pure .nx
/-- a[i] = x; x stands ahead of a and i -/
def setItem (ti ta te : Tm) : M Unit := do
  let i ← deref ti
  match ta with
  | .at p => do
    let x ← escape te
    let a ← deref ta
    match a, i with
    | .lst .own ds, .int k => do
      let j ← opt (ixN ds.length k)
      putAt p (.lst .own (ds.set j x))
    | .dK .own ks ds, k => do
      let k ← opt (keyD k)
      need (decide (ks.length < sizeLine))
      putAt p (.dK .own (putKey ks ds k x).1 (putKey ks ds k x).2)
    | .dT .own ks ds, .tup k => do
      let k ← opt (keysD k)
      need (decide (ks.length < sizeLine))
      putAt p (.dT .own (putKey ks ds k x).1 (putKey ks ds k x).2)
    | _, _ => fail
  | .val _ => fail
/-- a[i] = x, a list -/
def setItemL (ti ta te : Tm) : M Unit := do
  let i ← deref ti
  match ta with
  | .at p => do
    let x ← escape te
    let a ← deref ta
    match a, i with
    | .lst .own ds, .int k => do
      let j ← opt (ixN ds.length k)
      putAt p (.lst .own (ds.set j x))
    | .dK .own ks ds, k => do
      let k ← opt (keyD k)
      need (decide (ks.length < sizeLine))
      need (decide ks.Nodup)
      putAt p (.dK .own (putKey ks ds k x).1 (putKey ks ds k x).2)
    | _, _ => fail
  | .val _ => fail
def setFld (n : Nat) (f : Str) (x : D) : M Unit := fun s => match s.sto[n]? with
  | some o => if o.fs.length < 1000 then .ok () { s with sto := s.sto.set n { o with fs := fput o.fs f x } } else .fail
  | none => .fail
def setSlice (ta te : Tm) (l h : Int) : M Unit := match te with
  | .val (.lst .own ys) => do
    let q ← ownList ta
    need (decide (0 ≤ l ∧ l ≤ h))
    need (fits (q.2.length + ys.length))
    putAt q.1 (.lst .own (q.2.take l.toNat ++ ys ++ q.2.drop h.toNat))
  | _ => fail
def asgS (t : Tgt) (e : CE) : M Flow := match t with
  | .pat p => do
    let u ← ev e
    let x ← escape u
    bindP p x
    pure .nx
  | .attr o f => do
    let ts ← evalL ev [e, o]
    match ts with
    | [te, to] => do
      let d ← deref to
      let x ← escape te
      match d with
      | .obj n => do
        setFld n f x
        pure .nx
      | _ => fail
    | _ => fail
  | .sub a i => do
    let ts ← evalL ev [e, a, i]
    match ts with
    | [te, ta, ti] => do
      setItemL ti ta te
      pure .nx
    | _ => fail
  | .slice a (some (.lit (.int l))) (some (.lit (.int h))) => do
    let ts ← evalL ev [e, a]
    match ts with
    | [te, ta] => do
      setSlice ta te l h
      pure .nx
    | _ => fail
  | _ => fail
def handle (up : Nat → List Nat) (c : Nat) (ps : List D) : List (List Nat × Option Nat × List CS) → Option (M Flow)
  | [] => none
  | (cs, n, suite) :: r => if cs.any (fun x => (up c).contains x) then some (match n with
      | none => ex suite
      | some i => do
        bindP (.name i) (.exc c ps)
        let f ← ex suite
        bindP (.name i) .gone
        pure f)
    else handle up c ps r
/-- names whose lists a loop may hold -/
def srcLocs : Src → List Nat
  | .it (.loc j) => [j]
  | .enum (.loc j) => [j]
  | .zip es => es.filterMap fun e => match e with | .loc j => some j | _ => none
  | _ => []
/-- a name's int -/
def getInt (i : Nat) : M Int := fun s => match s.env[i]? with
  | some (.int a) => .ok a s
  | _ => .fail
/-- a field's int -/
def getFldI (n : Nat) (f : Str) : M Int := fun s => match s.getR (.fld n f) with
  | some (.int a) => .ok a s
  | _ => .fail
def augI (op : Bop) (a b : Int) : Option Int := match op with
  | .add => some (a + b)
  | .sub => some (a - b)
  | _ => none
def isVal : Tm → Bool
  | .val _ => true
  | .at _ => false
def stepS (wf : Nat) : CS → M Flow
  | .asg t e => asgS ev t e
  | .augN i op e => do
    let a ← getInt i
    let b ← evalI ev e
    let k ← opt (augI op a b)
    bindP (.name i) (.int k)
    pure .nx
  | .augF o f op e => do
    let d ← evalD ev o
    match d with
    | .obj n => do
      let a ← getFldI n f
      need (quiet e)
      let b ← evalI ev e
      let k ← opt (augI op a b)
      setFld n f (.int k)
      pure .nx
    | _ => fail
  | .augS a i op e => do
    let ts ← evalL ev [a, i]
    match ts with
    | [ta, ti] => do
      stays ta [e]
      let tv ← subG ta ti
      need (isVal tv)
      let u ← ev e
      let r ← binT op tv u
      setItemL ti ta r
      pure .nx
    | _ => fail
  | .expr e => do
    let _ ← ev e
    pure .nx
  | .sdApp dd k e => do
    let ts ← evalL ev [dd, k, e]
    match ts with
    | [t, tk, u] => do
      let x ← escape u
      let kd ← deref tk
      match t with
      | .at p => do
        let d ← deref t
        match d, kd with
        | .dT .own ks ds, .tup kk => do
          let kk ← opt (keysD kk)
          need (decide (ks.length < sizeLine))
          match findK ks kk with
          | some j => match ds[j]? with
            | some (.lst .own l) => do
              need (decide (l.length < sizeLine))
              putAt p (.dT .own ks (ds.set j (.lst .own (l ++ [x]))))
              pure .nx
            | _ => fail
          | none => do
            putAt p (.dT .own (ks ++ [kk]) (ds ++ [.lst .own [x]]))
            pure .nx
        | .dK .own ks ds, kk => do
          let kk ← opt (keyD kk)
          need (decide (ks.length < sizeLine))
          match findK ks kk with
          | some j => match ds[j]? with
            | some (.lst .own l) => do
              need (decide (l.length < sizeLine))
              putAt p (.dK .own ks (ds.set j (.lst .own (l ++ [x]))))
              pure .nx
            | _ => fail
          | none => do
            putAt p (.dK .own (ks ++ [kk]) (ds ++ [.lst .own [x]]))
            pure .nx
        | _, _ => fail
      | .val _ => fail
    | _ => fail
  | .sdPut dd k k2 e => do
    let ts ← evalL ev [e, dd, k, k2]
    match ts with
    | [u, t, tk, tk2] => do
      let x ← escape u
      let kd ← deref tk
      let k2 ← deref tk2
      let k2 ← opt (keyD k2)
      match t with
      | .at p => do
        let d ← deref t
        match d, kd with
        | .dT .own ks ds, .tup kk => do
          let kk ← opt (keysD kk)
          match findK ks kk with
          | some j => match ds[j]? with
            | some (.dK .own ks2 ds2) => do
              putAt p (.dT .own ks (ds.set j (.dK .own (putKey ks2 ds2 k2 x).1 (putKey ks2 ds2 k2 x).2)))
              pure .nx
            | _ => fail
          | none => do
            putAt p (.dT .own (ks ++ [kk]) (ds ++ [.dK .own [k2] [x]]))
            pure .nx
        | _, _ => fail
      | .val _ => fail
    | _ => fail
  | .ite c a b => do
    let x ← evalB ev c
    if x then ex a else ex b
  | .for p src body => do
    let it ← srcItems ev (moves p body) src
    match it with
    | .ds l lk => do
      need (lk.all fun j => (srcLocs src).contains j)
      unlocked lk (forLoop ex p body l)
    | .moved _ _ _ => fail
  | .while c body => whileLoop ev ex c body wf
  | .ret e => do
    let t ← ev e
    let d ← escape t
    pure (.ret d)
  | .retM i => fun s => match s.env[i]? with
    | some .gone => .fail
    | some d => .ok (.ret d) { s with env := s.env.set i .gone }
    | none => .fail
  | .retN => pure (.ret .non)
  | .raise c es => do
    let ts ← evalL ev es
    let ds ← derefL ts
    fun s => .exc c ds s
  | .brk => pure .brk
  | .cont => pure .cont
  | .pass => pure .nx
  | .try body hs els => fun s => match ex body s with
    | .ok .nx s' => ex els s'
    | .ok f s' => .ok f s'
    | .exc c ps s' => if (P.excUp c).isEmpty || !ps.isEmpty then .fail else match handle ex P.excUp c ps hs with
      | some m => noRaiseL m s'
      | none => .exc c ps s'
    | .fail => .fail
def execL (xs : CS → M Flow) : List CS → M Flow
  | [] => pure .nx
  | s :: r => do
    let f ← xs s
    match f with
    | .nx => execL xs r
    | f => pure f
end
def execB (cf : Nat → List D → M (D × List D)) (wf : Nat) : Nat → List CS → M Flow
  | 0, _ => fail
  | n + 1, b => execL (stepS P (evalE P cf n) (execB cf wf n) wf) b
/-- what the handed things have become, where the def's own name still holds them -/
def maskL : List Bool → List D → List D
  | b :: bs, d :: ds => (if b then d else .gone) :: maskL bs ds
  | _, _ => []
/-- a def called -/
def runF (cf : Nat → List D → M (D × List D)) (wf n : Nat) (f : Nat) (as : List D) : M (D × List D) := fun s =>
  match P.fns[f]? with
  | none => .fail
  | some fd =>
    if as.length = fd.np then
      match execB P cf wf n fd.body ⟨as ++ List.replicate (fd.ns - fd.np) .gone, s.sto⟩ with
      | .ok (.ret d) s' => .ok (d, maskL fd.fixed s'.env) s'
      | .ok .nx s' => .ok (.non, maskL fd.fixed s'.env) s'
      | .ok _ _ => .fail
      | .exc c ps s' => .exc c ps { s' with env := maskL fd.fixed s'.env }
      | .fail => .fail
    else .fail
def callF (wf n : Nat) : Nat → Nat → List D → M (D × List D)
  | 0, _, _ => fail
  | k + 1, f, as => runF P (callF wf n k) wf n f as
end
end VS
/-! How the trees stand in the heap. -/
namespace VS
open PySem L2

abbrev Fp := Addr → Nat
structure Gh where
  Fz : Hp
  Lk : Hp
  as : List Addr
def one (a : Addr) : Fp := fun b => if b = a then 1 else 0

section
variable (K : PySem.W.Frag) (g : Gh) (H : Hp)
mutual
inductive Rp : D → V → Fp → Prop
  | gone {v : V} {fp : Fp} : (∀ b, fp b = 0) → Rp .gone v fp
  | non {fp : Fp} : (∀ b, fp b = 0) → Rp .non .non fp
  | bl {x : Bool} {fp : Fp} : (∀ b, fp b = 0) → Rp (.bl x) (.bl x) fp
  | int {x : Int} {fp : Fp} : (∀ b, fp b = 0) → Rp (.int x) (.int x) fp
  | str {x : Str} {fp : Fp} : (∀ b, fp b = 0) → Rp (.str x) (.str x) fp
  | obj {n : Nat} {a : Addr} {fp : Fp} : g.as[n]? = some a → (∀ b, fp b = 0) → Rp (.obj n) (.ref a) fp
  | tup {ds : List D} {vs : List V} {a : Addr} {fp : Fp} : g.Fz a = some (.tup vs) → Rps ds vs fp → Rp (.tup ds) (.ref a) fp
  | own {ds : List D} {vs : List V} {a : Addr} {fp fp' : Fp} : H a = some (.lst vs) → g.Lk a = none → Rps ds vs fp' → (∀ b, fp b = fp' b + one a b) → Rp (.lst .own ds) (.ref a) fp
  | lck {ds : List D} {vs : List V} {a : Addr} {fp fp' : Fp} : H a = some (.lst vs) → g.Lk a = some (.lst vs) → Rps ds vs fp' → (∀ b, fp b = fp' b + one a b) → Rp (.lst .lck ds) (.ref a) fp
  | frz {ds : List D} {vs : List V} {a : Addr} {fp : Fp} : g.Fz a = some (.lst vs) → Rps ds vs fp → (∀ b, fp b = 0) → Rp (.lst .frz ds) (.ref a) fp
  | wrt {ds : List D} {vs : List V} {a : Addr} {fp : Fp} : SqL K g.Fz a vs → Rps ds vs fp → (∀ b, fp b = 0) → Rp (.lst .wrt ds) (.ref a) fp
  | dKo {ks : List Key} {ds : List D} {vs : List V} {a : Addr} {fp fp' : Fp} : H a = some (.dK (ks.zip vs)) → ks.length = vs.length → g.Lk a = none → Rps ds vs fp' → (∀ b, fp b = fp' b + one a b) → Rp (.dK .own ks ds) (.ref a) fp
  | dKf {ks : List Key} {ds : List D} {vs : List V} {a : Addr} {fp : Fp} : g.Fz a = some (.dK (ks.zip vs)) → ks.length = vs.length → Rps ds vs fp → (∀ b, fp b = 0) → Rp (.dK .frz ks ds) (.ref a) fp
inductive Rps : List D → List V → Fp → Prop
  | nil {fp : Fp} : (∀ b, fp b = 0) → Rps [] [] fp
  | cons {d : D} {ds : List D} {v : V} {vs : List V} {fp f1 f2 : Fp} : Rp d v f1 → Rps ds vs f2 → (∀ b, fp b = f1 b + f2 b) → Rps (d :: ds) (v :: vs) fp
end
end

theorem sqL_mono {K : PySem.W.Frag} {F F' : Hp} {a : Addr} {vs : List V} (h : ∀ a o, F a = some o → F' a = some o) (x : SqL K F a vs) : SqL K F' a vs := by
  rcases x with (x | ⟨o, x⟩) | x
  · exact .inl (.inl (h _ _ x))
  · exact .inl (.inr ⟨o, h _ _ x⟩)
  · exact .inr x
theorem sqT_mono {K : PySem.W.Frag} {F F' : Hp} {a : Addr} {vs : List V} (h : ∀ a o, F a = some o → F' a = some o) (x : SqT K F a vs) : SqT K F' a vs := by
  rcases x with (x | ⟨o, x⟩) | x
  · exact .inl (.inl (h _ _ x))
  · exact .inl (.inr ⟨o, h _ _ x⟩)
  · exact .inr x
theorem pre_get {as as' : List Addr} (h : as <+: as') {n : Nat} {a : Addr} (e : as[n]? = some a) : as'[n]? = some a := by
  obtain ⟨r, rfl⟩ := h
  rw [List.getElem?_append_left (List.getElem?_eq_some_iff.mp e).1]
  exact e

section
variable {K : PySem.W.Frag} {g g' : Gh} {H H' : Hp}
mutual
theorem Rp.mono (hF : ∀ a o, g.Fz a = some o → g'.Fz a = some o) (hA : g.as <+: g'.as) : ∀ {d : D} {v : V} {fp : Fp}, Rp K g H d v fp → (∀ b, fp b ≠ 0 → H' b = H b ∧ g'.Lk b = g.Lk b) → Rp K g' H' d v fp
  | _, _, _, .gone z, _ => .gone z
  | _, _, _, .non z, _ => .non z
  | _, _, _, .bl z, _ => .bl z
  | _, _, _, .int z, _ => .int z
  | _, _, _, .str z, _ => .str z
  | _, _, _, .obj e z, _ => .obj (pre_get hA e) z
  | _, _, _, .tup e r, h => .tup (hF _ _ e) (r.mono hF hA h)
  | _, _, _, .own (a := a) e l r z, h => by
    have ha := h a (by rw [z]; simp [one])
    exact .own (by rw [ha.1]; exact e) (by rw [ha.2]; exact l) (r.mono hF hA fun b hb => h b (by rw [z]; omega)) z
  | _, _, _, .lck (a := a) e l r z, h => by
    have ha := h a (by rw [z]; simp [one])
    exact .lck (by rw [ha.1]; exact e) (by rw [ha.2]; exact l) (r.mono hF hA fun b hb => h b (by rw [z]; omega)) z
  | _, _, _, .frz e r z, h => .frz (hF _ _ e) (r.mono hF hA h) z
  | _, _, _, .wrt e r z, h => .wrt (sqL_mono hF e) (r.mono hF hA h) z
  | _, _, _, .dKo (a := a) e hl l r z, h => by
    have ha := h a (by rw [z]; simp [one])
    exact .dKo (by rw [ha.1]; exact e) hl (by rw [ha.2]; exact l) (r.mono hF hA fun b hb => h b (by rw [z]; omega)) z
  | _, _, _, .dKf e hl r z, h => .dKf (hF _ _ e) hl (r.mono hF hA h) z
theorem Rps.mono (hF : ∀ a o, g.Fz a = some o → g'.Fz a = some o) (hA : g.as <+: g'.as) : ∀ {ds : List D} {vs : List V} {fp : Fp}, Rps K g H ds vs fp → (∀ b, fp b ≠ 0 → H' b = H b ∧ g'.Lk b = g.Lk b) → Rps K g' H' ds vs fp
  | _, _, _, .nil z, _ => .nil z
  | _, _, _, .cons r rs z, h => .cons (r.mono hF hA fun b hb => h b (by rw [z]; omega)) (rs.mono hF hA fun b hb => h b (by rw [z]; omega)) z
end

/-- what is owned stands there and may be written -/
def ownObj : Option HO → Prop
  | some (.lst _) => True
  | some (.dK _) => True
  | some (.dT _) => True
  | some (.ins _ _ _) => True
  | _ => False
mutual
theorem Rp.dom : ∀ {d : D} {v : V} {fp : Fp}, Rp K g H d v fp → ∀ b, fp b ≠ 0 → ownObj (H b)
  | _, _, _, .gone z, b, h => absurd (z b) h
  | _, _, _, .non z, b, h => absurd (z b) h
  | _, _, _, .bl z, b, h => absurd (z b) h
  | _, _, _, .int z, b, h => absurd (z b) h
  | _, _, _, .str z, b, h => absurd (z b) h
  | _, _, _, .obj e z, b, h => absurd (z b) h
  | _, _, _, .tup e r, b, h => r.dom b h
  | _, _, _, .own (a := a) e l r z, b, h => by
    by_cases hb : b = a
    · rw [hb, e]; trivial
    · exact r.dom b (by rw [z] at h; simp [one, hb] at h; exact h)
  | _, _, _, .lck (a := a) e l r z, b, h => by
    by_cases hb : b = a
    · rw [hb, e]; trivial
    · exact r.dom b (by rw [z] at h; simp [one, hb] at h; exact h)
  | _, _, _, .frz e r z, b, h => absurd (z b) h
  | _, _, _, .wrt e r z, b, h => absurd (z b) h
  | _, _, _, .dKo (a := a) e hl l r z, b, h => by
    by_cases hb : b = a
    · rw [hb, e]; trivial
    · exact r.dom b (by rw [z] at h; simp [one, hb] at h; exact h)
  | _, _, _, .dKf e hl r z, b, h => absurd (z b) h
theorem Rps.dom : ∀ {ds : List D} {vs : List V} {fp : Fp}, Rps K g H ds vs fp → ∀ b, fp b ≠ 0 → ownObj (H b)
  | _, _, _, .nil z, b, h => absurd (z b) h
  | _, _, _, .cons r rs z, b, h => by
    rw [z] at h
    rcases Nat.eq_zero_or_pos (_ : Nat) with q | q
    · exact r.dom b (by intro w; apply h; rw [w]; simpa using q)
    · exact rs.dom b (Nat.ne_of_gt q)
end
theorem Rps.len : ∀ {ds : List D} {vs : List V} {fp : Fp}, Rps K g H ds vs fp → ds.length = vs.length
  | _, _, _, .nil z => rfl
  | _, _, _, .cons r rs z => by simp [rs.len]
mutual
/-- plain things own nothing -/
theorem Rp.plain0 : ∀ {d : D} {v : V} {fp : Fp}, Rp K g H d v fp → d.plain = true → ∀ b, fp b = 0
  | _, _, _, .gone z, _ => z
  | _, _, _, .non z, _ => z
  | _, _, _, .bl z, _ => z
  | _, _, _, .int z, _ => z
  | _, _, _, .str z, _ => z
  | _, _, _, .obj e z, _ => z
  | _, _, _, .tup e r, h => r.plain0 (by simpa [D.plain] using h)
  | _, _, _, .own e l r z, h => by simp [D.plain] at h
  | _, _, _, .lck e l r z, h => by simp [D.plain] at h
  | _, _, _, .frz e r z, h => z
  | _, _, _, .wrt e r z, h => z
  | _, _, _, .dKo e hl l r z, h => by simp [D.plain] at h
  | _, _, _, .dKf e hl r z, h => z
theorem Rps.plain0 : ∀ {ds : List D} {vs : List V} {fp : Fp}, Rps K g H ds vs fp → plainL ds = true → ∀ b, fp b = 0
  | _, _, _, .nil z, _ => z
  | _, _, _, .cons r rs z, h => fun b => by
    simp only [plainL, Bool.and_eq_true] at h
    rw [z, r.plain0 h.1, rs.plain0 h.2]
end
theorem Rps.split : ∀ {ds₁ ds₂ : List D} {vs : List V} {fp : Fp}, Rps K g H (ds₁ ++ ds₂) vs fp → ∃ (vs₁ vs₂ : List V) (f1 f2 : Fp), vs = vs₁ ++ vs₂ ∧ Rps K g H ds₁ vs₁ f1 ∧ Rps K g H ds₂ vs₂ f2 ∧ ∀ b, fp b = f1 b + f2 b
  | [], _, vs, fp, h => ⟨[], vs, fun _ => 0, fp, rfl, .nil fun _ => rfl, h, fun b => by simp⟩
  | d :: ds, _, _, _, .cons r rs z => by
    obtain ⟨v1, v2, f1, f2, e, r1, r2, q⟩ := rs.split
    refine ⟨_ :: v1, v2, _, f2, by rw [e]; rfl, .cons r r1 (fun _ => rfl), r2, fun b => by rw [z, q]; omega⟩
theorem Rps.append : ∀ {ds₁ ds₂ : List D} {vs₁ vs₂ : List V} {f1 f2 fp : Fp}, Rps K g H ds₁ vs₁ f1 → Rps K g H ds₂ vs₂ f2 → (∀ b, fp b = f1 b + f2 b) → Rps K g H (ds₁ ++ ds₂) (vs₁ ++ vs₂) fp
  | _, ds₂, _, vs₂, _, f2, fp, .nil z, h, q => by
    have e : f2 = fp := by funext b; rw [q, z]; omega
    rw [← e]; exact h
  | _, _, _, _, _, _, _, .cons r rs z, h, q => .cons r (Rps.append rs h (fun _ => rfl)) fun b => by rw [q, z]; omega
/-- one of them, and another one in its place -/
theorem Rps.at : ∀ {ds : List D} {vs : List V} {fp : Fp} {i : Nat} {d : D}, Rps K g H ds vs fp → ds[i]? = some d → ∃ (v : V) (f1 f2 : Fp), vs[i]? = some v ∧ Rp K g H d v f1 ∧ (∀ b, fp b = f1 b + f2 b) ∧
    ∀ {g' : Gh} {H' : Hp}, (∀ a o, g.Fz a = some o → g'.Fz a = some o) → g.as <+: g'.as → (∀ b, f2 b ≠ 0 → H' b = H b ∧ g'.Lk b = g.Lk b) → ∀ {d' : D} {v' : V} {f1' : Fp}, Rp K g' H' d' v' f1' → ∃ fp', Rps K g' H' (ds.set i d') (vs.set i v') fp' ∧ ∀ b, fp' b = f1' b + f2 b
  | _, _, _, 0, _, .cons r rs z, e => by
    simp only [List.getElem?_cons_zero, Option.some.injEq] at e
    subst e
    exact ⟨_, _, _, rfl, r, z, fun hF hA hk d' v' f1' r' => ⟨_, .cons r' (rs.mono hF hA hk) (fun _ => rfl), fun _ => rfl⟩⟩
  | _, _, _, i + 1, _, .cons (f1 := g1) r rs z, e => by
    simp only [List.getElem?_cons_succ] at e
    obtain ⟨v, f1, f2, e1, r1, q, k⟩ := rs.at e
    refine ⟨v, f1, fun b => g1 b + f2 b, by simpa using e1, r1, fun b => by dsimp only; rw [z, q]; omega, fun hF hA hk d' v' f1' r' => ?_⟩
    dsimp only at hk
    obtain ⟨fp', rp, q'⟩ := k hF hA (fun b hb => hk b (by omega)) r'
    exact ⟨_, .cons (r.mono hF hA fun b hb => hk b (by omega)) rp (fun _ => rfl), fun b => by dsimp only; rw [q']; omega⟩
mutual
/-- given up: it becomes what nobody changes -/
theorem Rp.freeze (hF : ∀ a o, g.Fz a = some o → g'.Fz a = some o) (hA : g.as <+: g'.as) : ∀ {d : D} {v : V} {fp : Fp}, Rp K g H d v fp → d.frzOk = true → (∀ b, fp b ≠ 0 → g'.Fz b = H b) → ∀ {fz : Fp}, (∀ b, fz b = 0) → Rp K g' H' d.frz v fz
  | _, _, _, .gone z, p, _, _, w => by simp [D.frzOk] at p
  | _, _, _, .non z, _, _, _, w => .non w
  | _, _, _, .bl z, _, _, _, w => .bl w
  | _, _, _, .int z, _, _, _, w => .int w
  | _, _, _, .str z, _, _, _, w => .str w
  | _, _, _, .obj e z, _, _, _, w => .obj (pre_get hA e) w
  | _, _, _, .tup e r, p, h, _, w => .tup (hF _ _ e) (r.freeze hF hA (by simpa [D.frzOk] using p) h w)
  | _, _, _, .own (a := a) e l r z, p, h, _, w => by
    have ha := h a (by rw [z]; simp [one])
    exact .frz (by rw [ha]; exact e) (r.freeze hF hA (by simpa [D.frzOk] using p) (fun b hb => h b (by rw [z]; omega)) w) w
  | _, _, _, .lck (a := a) e l r z, p, h, _, w => by simp [D.frzOk] at p
  | _, _, _, .frz e r z, p, h, _, w => .frz (hF _ _ e) (by
    have e2 : _ = _ := funext fun b => (z b).trans (w b).symm
    rw [← e2]; exact r.mono hF hA fun b hb => absurd (z b) hb) w
  | _, _, _, .wrt e r z, p, h, _, w => .wrt (sqL_mono hF e) (by
    have e2 : _ = _ := funext fun b => (z b).trans (w b).symm
    rw [← e2]; exact r.mono hF hA fun b hb => absurd (z b) hb) w
  | _, _, _, .dKo (a := a) e hl l r z, p, h, _, w => by
    have ha := h a (by rw [z]; simp [one])
    exact .dKf (by rw [ha]; exact e) hl (r.freeze hF hA (by simpa [D.frzOk] using p) (fun b hb => h b (by rw [z]; omega)) w) w
  | _, _, _, .dKf e hl r z, p, h, _, w => .dKf (hF _ _ e) hl (by
    have e2 : _ = _ := funext fun b => (z b).trans (w b).symm
    rw [← e2]; exact r.mono hF hA fun b hb => absurd (z b) hb) w
theorem Rps.freeze (hF : ∀ a o, g.Fz a = some o → g'.Fz a = some o) (hA : g.as <+: g'.as) : ∀ {ds : List D} {vs : List V} {fp : Fp}, Rps K g H ds vs fp → frzOkL ds = true → (∀ b, fp b ≠ 0 → g'.Fz b = H b) → ∀ {fz : Fp}, (∀ b, fz b = 0) → Rps K g' H' (frzL ds) vs fz
  | _, _, _, .nil z, _, _, _, w => .nil w
  | _, _, _, .cons r rs z, p, h, _, w => by
    simp only [frzOkL, Bool.and_eq_true] at p
    exact .cons (r.freeze hF hA p.1 (fun b hb => h b (by rw [z]; omega)) (fz := fun _ => 0) fun _ => rfl) (rs.freeze hF hA p.2 (fun b hb => h b (by rw [z]; omega)) (fz := fun _ => 0) fun _ => rfl) fun b => by rw [w]
end
end

/-! ### a thing as it is read -/
section
variable (K : PySem.W.Frag) (as : List Addr) (H : Hp)
mutual
inductive Vw : D → V → Prop
  | non : Vw .non .non
  | bl {x : Bool} : Vw (.bl x) (.bl x)
  | int {x : Int} : Vw (.int x) (.int x)
  | str {x : Str} : Vw (.str x) (.str x)
  | gone {v : V} : Vw .gone v
  | obj {n : Nat} {a : Addr} : as[n]? = some a → Vw (.obj n) (.ref a)
  | tup {ds : List D} {vs : List V} {a : Addr} : H a = some (.tup vs) → Vws ds vs → Vw (.tup ds) (.ref a)
  | lst {o : Fl} {ds : List D} {vs : List V} {a : Addr} : SqL K H a vs → (o ≠ .wrt → H a = some (.lst vs)) → Vws ds vs → Vw (.lst o ds) (.ref a)
  | dK {o : Fl} {ks : List Key} {ds : List D} {vs : List V} {a : Addr} : H a = some (.dK (ks.zip vs)) → ks.length = vs.length → Vws ds vs → Vw (.dK o ks ds) (.ref a)
inductive Vws : List D → List V → Prop
  | nil : Vws [] []
  | cons {d : D} {ds : List D} {v : V} {vs : List V} : Vw d v → Vws ds vs → Vws (d :: ds) (v :: vs)
end
end
section
variable {K : PySem.W.Frag} {g : Gh} {H H' : Hp} {as : List Addr}
mutual
theorem Rp.vw (hF : ∀ a o, g.Fz a = some o → H a = some o) : ∀ {d : D} {v : V} {fp : Fp}, Rp K g H d v fp → Vw K g.as H d v
  | _, _, _, .gone z => .gone
  | _, _, _, .non z => .non
  | _, _, _, .bl z => .bl
  | _, _, _, .int z => .int
  | _, _, _, .str z => .str
  | _, _, _, .obj e z => .obj e
  | _, _, _, .tup e r => .tup (hF _ _ e) (r.vw hF)
  | _, _, _, .own e l r z => .lst (.of e) (fun _ => e) (r.vw hF)
  | _, _, _, .lck e l r z => .lst (.of e) (fun _ => e) (r.vw hF)
  | _, _, _, .frz e r z => .lst (.of (hF _ _ e)) (fun _ => hF _ _ e) (r.vw hF)
  | _, _, _, .wrt e r z => .lst (sqL_mono hF e) (fun h => absurd rfl h) (r.vw hF)
  | _, _, _, .dKo e hl l r z => .dK e hl (r.vw hF)
  | _, _, _, .dKf e hl r z => .dK (hF _ _ e) hl (r.vw hF)
theorem Rps.vw (hF : ∀ a o, g.Fz a = some o → H a = some o) : ∀ {ds : List D} {vs : List V} {fp : Fp}, Rps K g H ds vs fp → Vws K g.as H ds vs
  | _, _, _, .nil z => .nil
  | _, _, _, .cons r rs z => .cons (r.vw hF) (rs.vw hF)
end
def Ext (H H' : Hp) : Prop := ∀ a o, H a = some o → H' a = some o
theorem Ext.refl : Ext H H := fun _ _ e => e
theorem Ext.trans {H1 H2 H3 : Hp} (a : Ext H1 H2) (b : Ext H2 H3) : Ext H1 H3 := fun x o e => b x o (a x o e)
theorem Ext.upd {p : Addr} {o : HO} (hp : H p = none) : Ext H (upd H p o) := fun a u e => by rw [upd_ne (ne_of_none e hp)]; exact e
mutual
theorem Vw.ext {as' : List Addr} (hA : as <+: as') (h : Ext H H') : ∀ {d : D} {v : V}, Vw K as H d v → Vw K as' H' d v
  | _, _, .gone => .gone
  | _, _, .non => .non
  | _, _, .bl => .bl
  | _, _, .int => .int
  | _, _, .str => .str
  | _, _, .obj e => .obj (pre_get hA e)
  | _, _, .tup e r => .tup (h _ _ e) (r.ext hA h)
  | _, _, .lst e t r => .lst (sqL_mono h e) (fun o => h _ _ (t o)) (r.ext hA h)
  | _, _, .dK e l r => .dK (h _ _ e) l (r.ext hA h)
theorem Vws.ext {as' : List Addr} (hA : as <+: as') (h : Ext H H') : ∀ {ds : List D} {vs : List V}, Vws K as H ds vs → Vws K as' H' ds vs
  | _, _, .nil => .nil
  | _, _, .cons r rs => .cons (r.ext hA h) (rs.ext hA h)
end
theorem Vws.len : ∀ {ds : List D} {vs : List V}, Vws K as H ds vs → ds.length = vs.length
  | _, _, .nil => rfl
  | _, _, .cons r rs => by simp [rs.len]
theorem Vws.get : ∀ {ds : List D} {vs : List V} {i : Nat} {d : D}, Vws K as H ds vs → ds[i]? = some d → ∃ v, vs[i]? = some v ∧ Vw K as H d v
  | _, _, 0, _, .cons r rs, e => by
    simp only [List.getElem?_cons_zero, Option.some.injEq] at e
    subst e; exact ⟨_, rfl, r⟩
  | _, _, i + 1, _, .cons r rs, e => by
    simp only [List.getElem?_cons_succ] at e
    obtain ⟨v, e1, r1⟩ := rs.get e
    exact ⟨v, by simpa using e1, r1⟩
theorem Vws.getV : ∀ {ds : List D} {vs : List V} {i : Nat} {v : V}, Vws K as H ds vs → vs[i]? = some v → ∃ d, ds[i]? = some d ∧ Vw K as H d v
  | _, _, 0, _, .cons r rs, e => by
    simp only [List.getElem?_cons_zero, Option.some.injEq] at e
    subst e; exact ⟨_, rfl, r⟩
  | _, _, i + 1, _, .cons r rs, e => by
    simp only [List.getElem?_cons_succ] at e
    obtain ⟨v, e1, r1⟩ := rs.getV e
    exact ⟨v, by simpa using e1, r1⟩
mutual
theorem Vw.dp : ∀ {d : D} {v : V} {x : PyData}, Vw K as H d v → d.pd = some x → Dp K H v x
  | _, _, _, .gone, e => by simp [D.pd] at e
  | _, _, _, .non, e => by simp [D.pd] at e; subst e; exact .non
  | _, _, _, .bl, e => by simp [D.pd] at e; subst e; exact .bl _
  | _, _, _, .int, e => by simp [D.pd] at e; subst e; exact .int _
  | _, _, _, .str, e => by simp [D.pd] at e; subst e; exact .str _
  | _, _, _, .obj _, e => by simp [D.pd] at e
  | _, _, _, .tup q r, e => by
    simp only [D.pd, Option.map_eq_some_iff] at e
    obtain ⟨xs, e1, rfl⟩ := e
    exact .tup (.of q) (r.dp e1)
  | _, _, _, .lst q _ r, e => by
    simp only [D.pd, Option.map_eq_some_iff] at e
    obtain ⟨xs, e1, rfl⟩ := e
    exact .lst q (r.dp e1)
  | _, _, _, .dK _ _ _, e => by simp [D.pd] at e
theorem Vws.dp : ∀ {ds : List D} {vs : List V} {xs : List PyData}, Vws K as H ds vs → pdL ds = some xs → DpAll K H vs xs
  | _, _, _, .nil, e => by simp [pdL] at e; subst e; exact .nil
  | _, _, _, .cons r rs, e => by
    simp only [pdL] at e
    split at e
    · rename_i x xs e1 e2
      cases e
      exact .cons (r.dp e1) (rs.dp e2)
    · cases e
end

/-! ### the objects of the program's own classes -/
inductive Objs (K : PySem.W.Frag) (T : Nat → Addr) (g : Gh) (H : Hp) : List Addr → List Ob → Fp → Prop
  | nil {fp : Fp} : (∀ b, fp b = 0) → Objs K T g H [] [] fp
  | cons {a dx : Addr} {as : List Addr} {fs : List (Str × V)} {o : Ob} {os : List Ob} {f1 f2 fp : Fp} : H a = some (.ins (T o.cls) dx fs) → g.Lk a = none → fs.map (·.1) = o.fs.map (·.1) →
      Rps K g H (o.fs.map (·.2)) (fs.map (·.2)) f1 → Objs K T g H as os f2 → (∀ b, fp b = f1 b + one a b + f2 b) → Objs K T g H (a :: as) (o :: os) fp
theorem Objs.mono {T : Nat → Addr} {g g' : Gh} {H H' : Hp} (hF : ∀ a o, g.Fz a = some o → g'.Fz a = some o) (hA : g.as <+: g'.as) : ∀ {as : List Addr} {os : List Ob} {fp : Fp}, Objs K T g H as os fp → (∀ b, fp b ≠ 0 → H' b = H b ∧ g'.Lk b = g.Lk b) → Objs K T g' H' as os fp
  | _, _, _, .nil z, _ => .nil z
  | _, _, _, .cons (a := a) e l n r rs z, h => by
    have ha := h a (by rw [z]; simp [one])
    exact .cons (by rw [ha.1]; exact e) (by rw [ha.2]; exact l) n (r.mono hF hA fun b hb => h b (by rw [z]; omega)) (rs.mono hF hA fun b hb => h b (by rw [z]; omega)) z
theorem Objs.dom {T : Nat → Addr} {g : Gh} {H : Hp} : ∀ {as : List Addr} {os : List Ob} {fp : Fp}, Objs K T g H as os fp → ∀ b, fp b ≠ 0 → ownObj (H b)
  | _, _, _, .nil z, b, h => absurd (z b) h
  | _, _, _, .cons (a := a) e l n r rs z, b, h => by
    by_cases hb : b = a
    · rw [hb, e]; trivial
    · rw [z] at h
      simp only [one, if_neg hb, Nat.add_zero] at h
      rcases Nat.eq_zero_or_pos (_ : Nat) with q | q
      · exact r.dom b (by intro w; apply h; rw [w]; simpa using q)
      · exact rs.dom b (Nat.ne_of_gt q)
end

/-! ### the whole state -/
structure Act where
  H0 : Hp
  fp0 : Fp
  Fz0 : Hp
  Lk : Hp
  as0 : List Addr
  fix : List (Nat × V)
/-- the names, the things between, the objects: what they own -/
structure RelC (K : PySem.W.Frag) (T : Nat → Addr) (g : Gh) (σ : St) (ts : List V) (H : Hp) (s : Sx) (tds : List D) (tot : Fp) (evs : List V) (fE fT fS : Fp) : Prop where
  env : ∀ (i : Nat) (d : D), s.env[i]? = some d → d = D.gone ∨ ∃ v : V, evs[i]? = some v ∧ σ[i]? = some (some v)
  sl : σ.length = s.env.length
  rE : Rps K g H s.env evs fE
  rT : Rps K g H tds ts fT
  rS : Objs K T g H g.as s.sto fS
  sum : ∀ b, tot b = fE b + fT b + fS b
structure Sane (A : Act) (as : List Addr) (Fz H : Hp) (tot : Fp) : Prop where
  fzH : ∀ a o, Fz a = some o → H a = some o
  fz0 : ∀ a o, A.Fz0 a = some o → Fz a = some o
  lkH : ∀ a o, A.Lk a = some o → H a = some o
  as0 : A.as0 <+: as
  uno : ∀ b, tot b ≤ 1
  nfz : ∀ b, tot b ≠ 0 → Fz b = none
  own : ∀ b, tot b ≠ 0 → A.fp0 b ≠ 0 ∨ A.H0 b = none
  kp : ∀ a o, A.H0 a = some o → A.fp0 a = 0 → H a = some o
  fzo : ∀ b o, Fz b = some o → A.Fz0 b = some o ∨ A.fp0 b ≠ 0 ∨ A.H0 b = none
def Rel (K : PySem.W.Frag) (T : Nat → Addr) (A : Act) (as : List Addr) (σ : St) (ts : List V) (H : Hp) (s : Sx) (tds : List D) : Prop :=
  (∀ p ∈ A.fix, σ[p.1]? = some (some p.2)) ∧ ∃ Fz tot evs fE fT fS, RelC K T ⟨Fz, A.Lk, as⟩ σ ts H s tds tot evs fE fT fS ∧ Sane A as Fz H tot

section
variable {K : PySem.W.Frag} {T : Nat → Addr} {A : Act} {as : List Addr} {Fz H : Hp} {tot tot' : Fp} {σ : St} {ts : List V} {s : Sx} {tds : List D}
theorem Sane.less (S : Sane A as Fz H tot) (h : ∀ b, tot' b ≤ tot b) : Sane A as Fz H tot' :=
  ⟨S.fzH, S.fz0, S.lkH, S.as0, fun b => Nat.le_trans (h b) (S.uno b), fun b hb => S.nfz b (by have := h b; omega), fun b hb => S.own b (by have := h b; omega), S.kp, S.fzo⟩
theorem Sane.fresh (S : Sane A as Fz H tot) {p : Addr} (hp : H p = none) : A.fp0 p ≠ 0 ∨ A.H0 p = none := by
  by_cases h : A.fp0 p = 0
  · refine .inr ?_
    cases q : A.H0 p with
    | none => rfl
    | some o => rw [S.kp p o q h] at hp; cases hp
  · exact .inl h
theorem Sane.alloc (S : Sane A as Fz H tot) {p : Addr} {o : HO} (hp : H p = none) (ht : tot p = 0) (h : ∀ b, tot' b = tot b + one p b) : Sane A as Fz (upd H p o) tot' := by
  have hfz : Fz p = none := by
    cases q : Fz p with
    | none => rfl
    | some u => rw [S.fzH _ _ q] at hp; cases hp
  refine ⟨fun a u e => Ext.upd hp a u (S.fzH a u e), S.fz0, fun a u e => Ext.upd hp a u (S.lkH a u e), S.as0, fun b => ?_, fun b hb => ?_, fun b hb => ?_, fun a u e z => Ext.upd hp a u (S.kp a u e z), S.fzo⟩
  · rw [h]; have := S.uno b; unfold one; split <;> rename_i q
    · subst q; omega
    · omega
  · by_cases q : b = p
    · subst q; exact hfz
    · exact S.nfz b (by rw [h] at hb; simpa [one, q] using hb)
  · by_cases q : b = p
    · subst q; exact S.fresh hp
    · exact S.own b (by rw [h] at hb; simpa [one, q] using hb)
theorem Sane.allocF (S : Sane A as Fz H tot) {p : Addr} {o : HO} (hp : H p = none) (ht : tot p = 0) : Sane A as (upd Fz p o) (upd H p o) tot := by
  have hfz : Fz p = none := by
    cases q : Fz p with
    | none => rfl
    | some u => rw [S.fzH _ _ q] at hp; cases hp
  refine ⟨fun a u e => ?_, fun a u e => Ext.upd hfz a u (S.fz0 a u e), fun a u e => Ext.upd hp a u (S.lkH a u e), S.as0, S.uno, fun b hb => ?_, S.own, fun a u e z => Ext.upd hp a u (S.kp a u e z), fun b o e => ?_⟩
  · by_cases q : a = p
    · subst q; rw [upd_same] at e ⊢; exact e
    · rw [upd_ne q] at e ⊢; exact S.fzH a u e
  · have q : b ≠ p := fun z => hb (by rw [z]; exact ht)
    rw [upd_ne q]; exact S.nfz b hb
  · by_cases q : b = p
    · rw [q]; exact .inr (S.fresh hp)
    · rw [upd_ne q] at e; exact S.fzo b o e
theorem Sane.write (S : Sane A as Fz H tot) {a : Addr} {o : HO} (ha : tot a ≠ 0) (hl : A.Lk a = none) (h : ∀ b, tot' b ≤ tot b) : Sane A as Fz (upd H a o) tot' := by
  have S' := S.less h
  refine ⟨fun b u e => ?_, S.fz0, fun b u e => ?_, S.as0, S'.uno, S'.nfz, S'.own, fun b u e z => ?_, S.fzo⟩
  · have q : b ≠ a := fun q => by rw [q, S.nfz a ha] at e; cases e
    rw [upd_ne q]; exact S.fzH b u e
  · have q : b ≠ a := fun q => by rw [q, hl] at e; cases e
    rw [upd_ne q]; exact S.lkH b u e
  · have q : b ≠ a := fun q => by
      rcases S.own a ha with w | w
      · rw [q] at z; exact w z
      · rw [q, w] at e; cases e
    rw [upd_ne q]; exact S.kp b u e z
/-- what is owned may be given up -/
def addF (Fz H : Hp) (f : Fp) : Hp := fun b => if f b = 0 then Fz b else H b
theorem Sane.freeze (S : Sane A as Fz H tot) {f fr : Fp} (h : ∀ b, tot b = f b + fr b) : Sane A as (addF Fz H f) H fr ∧ (∀ a o, Fz a = some o → addF Fz H f a = some o) ∧ (∀ b, f b ≠ 0 → addF Fz H f b = H b) := by
  have le : ∀ b, fr b ≤ tot b := fun b => by have := h b; omega
  have S' := S.less le
  have k1 : ∀ a o, Fz a = some o → addF Fz H f a = some o := fun a o e => by
    unfold addF; split
    · exact e
    · exact S.fzH a o e
  refine ⟨⟨fun a u e => ?_, fun a u e => k1 a u (S.fz0 a u e), S.lkH, S.as0, S'.uno, fun b hb => ?_, S'.own, S.kp, fun b o e => ?_⟩, k1, fun b hb => by unfold addF; rw [if_neg hb]⟩
  · unfold addF at e; split at e
    · exact S.fzH a u e
    · exact e
  · have q := S.uno b
    have q2 := h b
    unfold addF; rw [if_pos (by omega)]; exact S'.nfz b hb
  · unfold addF at e; split at e
    · exact S.fzo b o e
    · exact .inr (S.own b (by have := h b; omega))
end

section
variable {K : PySem.W.Frag} {T : Nat → Addr} {g g' : Gh} {σ : St} {ts : List V} {H H' : Hp} {s : Sx} {tds : List D} {tot tot' : Fp} {evs : List V} {fE fT fS : Fp}
theorem RelC.mono (R : RelC K T g σ ts H s tds tot evs fE fT fS) (hF : ∀ a o, g.Fz a = some o → g'.Fz a = some o) (hA : g'.as = g.as) (h : ∀ b, tot b ≠ 0 → H' b = H b ∧ g'.Lk b = g.Lk b) : RelC K T g' σ ts H' s tds tot evs fE fT fS := by
  have hp : g.as <+: g'.as := by rw [hA]; exact List.prefix_rfl
  have q := R.sum
  exact ⟨R.env, R.sl, R.rE.mono hF hp fun b hb => h b (by rw [q]; omega), R.rT.mono hF hp fun b hb => h b (by rw [q]; omega), by rw [hA]; exact R.rS.mono hF hp fun b hb => h b (by rw [q]; omega), R.sum⟩
theorem RelC.dom (R : RelC K T g σ ts H s tds tot evs fE fT fS) {b : Addr} (hb : tot b ≠ 0) : ownObj (H b) := by
  rw [R.sum] at hb
  by_cases h1 : fE b = 0
  · by_cases h2 : fT b = 0
    · exact R.rS.dom b (by omega)
    · exact R.rT.dom b h2
  · exact R.rE.dom b h1
theorem RelC.free (R : RelC K T g σ ts H s tds tot evs fE fT fS) {b : Addr} (hb : H b = none) : tot b = 0 := by
  by_cases h : tot b = 0
  · exact h
  · have := R.dom h; rw [hb] at this; exact this.elim
theorem RelC.push {d : D} {v : V} {f : Fp} (R : RelC K T g σ ts H s tds tot evs fE fT fS) (r : Rp K g H d v f) : RelC K T g σ (v :: ts) H s (d :: tds) (fun b => tot b + f b) evs fE (fun b => f b + fT b) fS :=
  ⟨R.env, R.sl, R.rE, .cons r R.rT fun _ => rfl, R.rS, fun b => by have := R.sum b; omega⟩
theorem RelC.pushs {ds : List D} {vs : List V} {f : Fp} (R : RelC K T g σ ts H s tds tot evs fE fT fS) (r : Rps K g H ds vs f) : RelC K T g σ (vs ++ ts) H s (ds ++ tds) (fun b => tot b + f b) evs fE (fun b => f b + fT b) fS :=
  ⟨R.env, R.sl, R.rE, r.append R.rT fun _ => rfl, R.rS, fun b => by have := R.sum b; omega⟩
theorem RelC.pop {d : D} (R : RelC K T g σ ts H s (d :: tds) tot evs fE fT fS) : ∃ (v : V) (ts' : List V) (f fT' tot' : Fp), ts = v :: ts' ∧ Rp K g H d v f ∧ RelC K T g σ ts' H s tds tot' evs fE fT' fS ∧ ∀ b, tot b = tot' b + f b := by
  obtain ⟨e, sl, rE, rT, rS, q⟩ := R
  cases rT with
  | cons r rs z => exact ⟨_, _, _, _, fun b => fE b + _ + fS b, rfl, r, ⟨e, sl, rE, rs, rS, fun _ => rfl⟩, fun b => by dsimp only; rw [q, z]; omega⟩
theorem RelC.pops {ds : List D} (R : RelC K T g σ ts H s (ds ++ tds) tot evs fE fT fS) : ∃ (vs ts' : List V) (f fT' tot' : Fp), ts = vs ++ ts' ∧ Rps K g H ds vs f ∧ RelC K T g σ ts' H s tds tot' evs fE fT' fS ∧ ∀ b, tot b = tot' b + f b := by
  obtain ⟨e, sl, rE, rT, rS, q⟩ := R
  obtain ⟨vs, ts', f, f', e1, r1, r2, z⟩ := rT.split
  exact ⟨vs, ts', f, f', fun b => fE b + f' b + fS b, e1, r1, ⟨e, sl, rE, r2, rS, fun _ => rfl⟩, fun b => by dsimp only; rw [q, z]; omega⟩
theorem Rps.consI {d : D} {ds : List D} {v : V} {vs : List V} {f : Fp} (r : Rps K g H (d :: ds) (v :: vs) f) : ∃ (f1 f2 : Fp), Rp K g H d v f1 ∧ Rps K g H ds vs f2 ∧ ∀ b, f b = f1 b + f2 b := by
  cases r with
  | cons r rs z => exact ⟨_, _, r, rs, z⟩
/-- a name gets a value -/
theorem RelC.store {i : Nat} {d : D} {v : V} (R : RelC K T g σ (v :: ts) H s (d :: tds) tot evs fE fT fS) (hi : i < s.env.length) :
    ∃ (evs' : List V) (fE' fT' tot' : Fp), RelC K T g (σ.set i (some v)) ts H { s with env := s.env.set i d } tds tot' evs' fE' fT' fS ∧ ∀ b, tot' b ≤ tot b := by
  obtain ⟨v', ts', f, fT', tot', e, r, R', q⟩ := R.pop
  cases e
  obtain ⟨x, hx⟩ : ∃ x, s.env[i]? = some x := ⟨_, List.getElem?_eq_getElem hi⟩
  obtain ⟨v0, f1, f2, e0, r0, q0, k⟩ := R'.rE.at hx
  obtain ⟨fp', rp, q'⟩ := k (fun _ _ z => z) List.prefix_rfl (fun b _ => ⟨rfl, rfl⟩) r
  have hl := R'.rE.len
  have hiv : i < evs.length := by omega
  have his : i < σ.length := by rw [R'.sl]; exact hi
  refine ⟨_, fp', _, fun b => fp' b + fT' b + fS b, ⟨fun j y ey => ?_, by simp [R'.sl], rp, R'.rT, R'.rS, fun _ => rfl⟩, fun b => ?_⟩
  · by_cases hj : i = j
    · subst hj
      exact .inr ⟨v, List.getElem?_set_self hiv, List.getElem?_set_self his⟩
    · rw [List.getElem?_set_ne hj] at ey
      rcases R'.env j y ey with z | ⟨w, z1, z2⟩
      · exact .inl z
      · exact .inr ⟨w, by rw [List.getElem?_set_ne hj]; exact z1, by rw [List.getElem?_set_ne hj]; exact z2⟩
  · have a1 := R'.sum b
    have a2 := q b
    have a3 := q0 b
    have a4 := q' b
    dsimp only
    omega
end

/-! ### places -/
section
variable (H : Hp)
inductive AccV : V → Acc → V → Prop
  | lst {a : Addr} {vs : List V} {i : Nat} {v : V} : H a = some (.lst vs) → vs[i]? = some v → AccV (.ref a) (.ix i) v
  | tup {a : Addr} {vs : List V} {i : Nat} {v : V} : H a = some (.tup vs) → vs[i]? = some v → AccV (.ref a) (.ix i) v
  | dK {a : Addr} {ks : List Key} {vs : List V} {k : Key} {j : Nat} {v : V} : H a = some (.dK (ks.zip vs)) → ks.length = vs.length → findK ks k = some j → vs[j]? = some v → AccV (.ref a) (.key k) v
inductive AccsV : V → List Acc → V → Prop
  | nil {v : V} : AccsV v [] v
  | cons {v v1 v2 : V} {x : Acc} {xs : List Acc} : AccV H v x v1 → AccsV v1 xs v2 → AccsV v (x :: xs) v2
end
def RootV (as : List Addr) (σ : St) (H : Hp) : Root → V → Prop
  | .loc i, v => σ[i]? = some (some v)
  | .fld n f, v => ∃ a C dx fs, as[n]? = some a ∧ H a = some (.ins C dx fs) ∧ fs.lookup f = some v
def AtP (as : List Addr) (σ : St) (H : Hp) (p : Path) (v : V) : Prop := ∃ v0, RootV as σ H p.root v0 ∧ AccsV H v0 p.acc v
theorem AccsV.snoc {H : Hp} {x : Acc} {v2 : V} : ∀ {v v1 : V} {xs : List Acc}, AccsV H v xs v1 → AccV H v1 x v2 → AccsV H v (xs ++ [x]) v2
  | _, _, _, .nil, h => .cons h .nil
  | _, _, _, .cons a r, h => .cons a (r.snoc h)
theorem AccV.ext {H H' : Hp} (h : Ext H H') {v v1 : V} {x : Acc} : AccV H v x v1 → AccV H' v x v1
  | .lst e q => .lst (h _ _ e) q
  | .tup e q => .tup (h _ _ e) q
  | .dK e l f q => .dK (h _ _ e) l f q
theorem AccsV.ext {H H' : Hp} (h : Ext H H') : ∀ {v v1 : V} {xs : List Acc}, AccsV H v xs v1 → AccsV H' v xs v1
  | _, _, _, .nil => .nil
  | _, _, _, .cons a r => .cons (a.ext h) (r.ext h)
theorem AtP.ext {as as' : List Addr} {σ : St} {H H' : Hp} {p : Path} {v : V} (hA : as <+: as') (h : Ext H H') (x : AtP as σ H p v) : AtP as' σ H' p v := by
  obtain ⟨v0, r, a⟩ := x
  refine ⟨v0, ?_, a.ext h⟩
  obtain ⟨root, acc⟩ := p
  cases root with
  | loc i => exact r
  | fld n f =>
    obtain ⟨b, C, dx, fs, e1, e2, e3⟩ := r
    exact ⟨b, C, dx, fs, pre_get hA e1, h _ _ e2, e3⟩
theorem findK_lt {κ : Type} [DecidableEq κ] : ∀ {ks : List κ} {k : κ} {j : Nat}, findK ks k = some j → j < ks.length ∧ ks[j]? = some k
  | x :: xs, k, j, h => by
    unfold findK at h
    split at h
    · cases h; rename_i e; subst e; simp
    · simp only [Option.map_eq_some_iff] at h
      obtain ⟨i, e, rfl⟩ := h
      have := findK_lt e
      simpa using this
theorem zip_inj {α β : Type} : ∀ {as cs : List α} {bs ds : List β}, as.zip bs = cs.zip ds → as.length = bs.length → cs.length = ds.length → as = cs ∧ bs = ds
  | [], [], [], [], _, _, _ => ⟨rfl, rfl⟩
  | [], _ :: _, [], _ :: _, h, _, _ => by simp at h
  | _ :: _, [], _ :: _, [], h, _, _ => by simp at h
  | a :: as, c :: cs, b :: bs, d :: ds, h, h1, h2 => by
    simp only [List.zip_cons_cons, List.cons.injEq, Prod.mk.injEq] at h
    obtain ⟨⟨e1, e2⟩, e3⟩ := h
    obtain ⟨q1, q2⟩ := zip_inj e3 (by simpa using h1) (by simpa using h2)
    exact ⟨by rw [e1, q1], by rw [e2, q2]⟩
  | [], [], _ :: _, _, _, h, _ => by simp at h
  | _ :: _, _, [], _, _, h, _ => by simp at h
  | _, [], _, _ :: _, _, _, h => by simp at h
  | _, _ :: _, _, [], _, _, h => by simp at h

section
variable {K : PySem.W.Frag} {g : Gh} {H : Hp}
/-- what stands at a part may be put otherwise -/
def Foc (K : PySem.W.Frag) (g : Gh) (H : Hp) (d : D) (v : V) (fp : Fp) (d1 : D) (v1 : V) (re : D → Option D) : Prop :=
  ∃ f1 f2 : Fp, Rp K g H d1 v1 f1 ∧ (∀ b, fp b = f1 b + f2 b) ∧
    ∀ {g' : Gh} {H' : Hp}, (∀ a o, g.Fz a = some o → g'.Fz a = some o) → g.as <+: g'.as → (∀ b, f2 b ≠ 0 → H' b = H b ∧ g'.Lk b = g.Lk b) → ∀ {d1' : D} {f1' : Fp}, Rp K g' H' d1' v1 f1' → ∀ d', re d1' = some d' →
      ∃ fp', Rp K g' H' d' v fp' ∧ ∀ b, fp' b = f1' b + f2 b
theorem set_get_self {α : Type} {l : List α} {i : Nat} {x : α} (h : l[i]? = some x) : l.set i x = l := by
  obtain ⟨hi, e⟩ := List.getElem?_eq_some_iff.mp h
  rw [← e]; exact List.set_getElem_self hi
theorem Rp.foc1 (hF : ∀ a o, g.Fz a = some o → H a = some o) {d : D} {v : V} {fp : Fp} {x : Acc} {d1 : D} {v1 : V} (r : Rp K g H d v fp) (a : AccV H v x v1) (e : d.kid x = some d1) : Foc K g H d v fp d1 v1 (fun y => d.setKid x y) := by
  cases r with
  | gone z => simp [D.kid] at e
  | non z => cases a
  | bl z => cases a
  | int z => cases a
  | str z => cases a
  | obj _ z => simp [D.kid] at e
  | tup q rs =>
    have q := hF _ _ q
    cases a with
    | lst e1 e2 => rw [q] at e1; cases e1
    | dK e1 _ _ _ => rw [q] at e1; cases e1
    | tup e1 e2 =>
      rw [q] at e1; cases e1
      simp only [D.kid] at e
      obtain ⟨w, f1, f2, e3, r1, z, k⟩ := rs.at e
      rw [e2] at e3; cases e3
      refine ⟨f1, f2, r1, z, fun hF' hA hk d1' f1' r' d' ed => ?_⟩
      simp only [D.setKid, Option.some.injEq] at ed
      subst ed
      obtain ⟨fp', rp, z'⟩ := k hF' hA hk r'
      rw [set_get_self e2] at rp
      exact ⟨fp', .tup (hF' _ _ (by assumption)) rp, z'⟩
  | @own _ _ a₀ _ _ q l rs z =>
    cases a with
    | tup e1 e2 => rw [q] at e1; cases e1
    | dK e1 _ _ _ => rw [q] at e1; cases e1
    | lst e1 e2 =>
      rw [q] at e1; cases e1
      simp only [D.kid] at e
      obtain ⟨w, f1, f2, e3, r1, z1, k⟩ := rs.at e
      rw [e2] at e3; cases e3
      refine ⟨f1, fun b => f2 b + one a₀ b, r1, fun b => by dsimp only; rw [z, z1]; omega, fun hF' hA hk d1' f1' r' d' ed => ?_⟩
      simp only [D.setKid, Option.some.injEq] at ed
      subst ed
      obtain ⟨fp', rp, z'⟩ := k hF' hA (fun b hb => hk b (by dsimp only; omega)) r'
      rw [set_get_self e2] at rp
      have ha := hk a₀ (by dsimp only [one]; rw [if_pos rfl]; omega)
      exact ⟨_, .own (by rw [ha.1]; exact q) (by rw [ha.2]; exact l) rp (fun _ => rfl), fun b => by dsimp only; rw [z']; omega⟩
  | @lck _ _ a₀ _ _ q l rs z =>
    cases a with
    | tup e1 e2 => rw [q] at e1; cases e1
    | dK e1 _ _ _ => rw [q] at e1; cases e1
    | lst e1 e2 =>
      rw [q] at e1; cases e1
      simp only [D.kid] at e
      obtain ⟨w, f1, f2, e3, r1, z1, k⟩ := rs.at e
      rw [e2] at e3; cases e3
      refine ⟨f1, fun b => f2 b + one a₀ b, r1, fun b => by dsimp only; rw [z, z1]; omega, fun hF' hA hk d1' f1' r' d' ed => ?_⟩
      simp only [D.setKid, Option.some.injEq] at ed
      subst ed
      obtain ⟨fp', rp, z'⟩ := k hF' hA (fun b hb => hk b (by dsimp only; omega)) r'
      rw [set_get_self e2] at rp
      have ha := hk a₀ (by dsimp only [one]; rw [if_pos rfl]; omega)
      exact ⟨_, .lck (by rw [ha.1]; exact q) (by rw [ha.2]; exact l) rp (fun _ => rfl), fun b => by dsimp only; rw [z']; omega⟩
  | frz q rs z =>
    cases a with
    | tup e1 e2 => rw [hF _ _ q] at e1; cases e1
    | dK e1 _ _ _ => rw [hF _ _ q] at e1; cases e1
    | lst e1 e2 =>
      rw [hF _ _ q] at e1; cases e1
      simp only [D.kid] at e
      obtain ⟨w, f1, f2, e3, r1, z1, k⟩ := rs.at e
      rw [e2] at e3; cases e3
      exact ⟨f1, f2, r1, z1, fun _ _ _ _ _ _ _ ed => by simp [D.setKid] at ed⟩
  | wrt q rs z => cases x <;> simp [D.kid] at e
  | @dKo _ _ _ a₀ _ _ q hl l rs z =>
    cases a with
    | lst e1 e2 => rw [q] at e1; cases e1
    | tup e1 e2 => rw [q] at e1; cases e1
    | dK e1 hl' e2 e3 =>
      rw [q] at e1
      simp only [Option.some.injEq, HO.dK.injEq] at e1
      obtain ⟨rfl, rfl⟩ := zip_inj e1 hl hl'
      simp only [D.kid, e2, Option.bind_some] at e
      obtain ⟨w, f1, f2, e4, r1, z1, k⟩ := rs.at e
      rw [e3] at e4; cases e4
      refine ⟨f1, fun b => f2 b + one a₀ b, r1, fun b => by dsimp only; rw [z, z1]; omega, fun hF' hA hk d1' f1' r' d' ed => ?_⟩
      simp only [D.setKid, e2, Option.map_some, Option.some.injEq] at ed
      subst ed
      obtain ⟨fp', rp, z'⟩ := k hF' hA (fun b hb => hk b (by dsimp only; omega)) r'
      rw [set_get_self e3] at rp
      have ha := hk a₀ (by dsimp only [one]; rw [if_pos rfl]; omega)
      exact ⟨_, .dKo (by rw [ha.1]; exact q) hl (by rw [ha.2]; exact l) rp (fun _ => rfl), fun b => by dsimp only; rw [z']; omega⟩
  | dKf q hl rs z =>
    cases a with
    | lst e1 e2 => rw [hF _ _ q] at e1; cases e1
    | tup e1 e2 => rw [hF _ _ q] at e1; cases e1
    | dK e1 hl' e2 e3 =>
      rw [hF _ _ q] at e1
      simp only [Option.some.injEq, HO.dK.injEq] at e1
      obtain ⟨rfl, rfl⟩ := zip_inj e1 hl hl'
      simp only [D.kid, e2, Option.bind_some] at e
      obtain ⟨w, f1, f2, e4, r1, z1, k⟩ := rs.at e
      rw [e3] at e4; cases e4
      exact ⟨f1, f2, r1, z1, fun _ _ _ _ _ _ _ ed => by simp [D.setKid] at ed⟩
end

section
variable {K : PySem.W.Frag} {g : Gh} {H : Hp}
theorem Rp.foc (hF : ∀ a o, g.Fz a = some o → H a = some o) : ∀ {acc : List Acc} {d : D} {v : V} {fp : Fp} {d1 : D} {v1 : V}, Rp K g H d v fp → AccsV H v acc v1 → d.get acc = some d1 → Foc K g H d v fp d1 v1 (fun y => d.put acc y)
  | [], d, v, fp, d1, _, r, .nil, e => by
    simp only [D.get, Option.some.injEq] at e
    subst e
    refine ⟨fp, fun _ => 0, r, fun b => by simp, fun _ _ _ d1' f1' r' d' ed => ?_⟩
    simp only [D.put, Option.some.injEq] at ed
    subst ed
    exact ⟨f1', r', fun b => by simp⟩
  | x :: acc, d, v, fp, d1, v1, r, .cons (v1 := w) a as, e => by
    simp only [D.get, Option.bind_eq_some_iff] at e
    obtain ⟨dk, e1, e2⟩ := e
    obtain ⟨f1, f2, r1, z, k⟩ := r.foc1 hF a e1
    obtain ⟨f3, f4, r3, z3, k3⟩ := Rp.foc hF r1 as e2
    refine ⟨f3, fun b => f4 b + f2 b, r3, fun b => by dsimp only; rw [z, z3]; omega, fun hF' hA hk d1' f1' r' d' ed => ?_⟩
    dsimp only at hk
    simp only [D.put, e1, Option.bind_some, Option.bind_eq_some_iff] at ed
    obtain ⟨y, ey, ed⟩ := ed
    obtain ⟨fp1, q1, w1⟩ := k3 hF' hA (fun b hb => hk b (by omega)) r' y ey
    obtain ⟨fp2, q2, w2⟩ := k hF' hA (fun b hb => hk b (by omega)) q1 d' ed
    exact ⟨fp2, q2, fun b => by dsimp only; rw [w2, w1]; omega⟩
theorem fget_ix : ∀ {l : List (Str × D)} {f : Str} {d : D}, fget l f = some d → ∃ j, j < l.length ∧ l[j]? = some (f, d) ∧ (∀ e, fput l f e = l.set j (f, e)) ∧ ∀ (m : List (Str × V)), m.map (·.1) = l.map (·.1) → ∀ v, m.lookup f = some v → m[j]? = some (f, v)
  | (x, y) :: l, f, d, h => by
    unfold fget at h
    split at h
    · cases h
      rename_i e
      subst e
      refine ⟨0, by simp, by simp, fun e => by simp [fput], fun m hm v hv => ?_⟩
      cases m with
      | nil => simp at hm
      | cons p m =>
        obtain ⟨p1, p2⟩ := p
        simp only [List.map_cons, List.cons.injEq] at hm
        obtain ⟨rfl, _⟩ := hm
        simp [List.lookup_cons] at hv
        simp [hv]
    · rename_i hne
      obtain ⟨j, h0, h1, h2, h3⟩ := fget_ix h
      refine ⟨j + 1, by simp; omega, by simpa using h1, fun e => by simp [fput, hne, h2], fun m hm v hv => ?_⟩
      cases m with
      | nil => simp at hm
      | cons p m =>
        obtain ⟨p1, p2⟩ := p
        simp only [List.map_cons, List.cons.injEq] at hm
        obtain ⟨rfl, hm⟩ := hm
        have : (f == p1) = false := by simpa using hne
        rw [List.lookup_cons, this] at hv
        simpa using h3 m hm v hv
theorem Objs.at {T : Nat → Addr} : ∀ {as : List Addr} {os : List Ob} {fp : Fp} {n : Nat} {o : Ob}, Objs K T g H as os fp → os[n]? = some o → ∃ (a dx : Addr) (fs : List (Str × V)) (f1 f2 : Fp), as[n]? = some a ∧ H a = some (.ins (T o.cls) dx fs) ∧ g.Lk a = none ∧ fs.map (·.1) = o.fs.map (·.1) ∧
    Rps K g H (o.fs.map (·.2)) (fs.map (·.2)) f1 ∧ (∀ b, fp b = f1 b + one a b + f2 b) ∧
    ∀ {g' : Gh} {H' : Hp}, (∀ a o, g.Fz a = some o → g'.Fz a = some o) → g.as <+: g'.as → (∀ b, f2 b ≠ 0 → H' b = H b ∧ g'.Lk b = g.Lk b) → ∀ {o' : Ob} {fs' : List (Str × V)} {f1' : Fp}, o'.cls = o.cls → H' a = some (.ins (T o.cls) dx fs') → g'.Lk a = none → fs'.map (·.1) = o'.fs.map (·.1) →
      Rps K g' H' (o'.fs.map (·.2)) (fs'.map (·.2)) f1' → ∃ fp', Objs K T g' H' as (os.set n o') fp' ∧ ∀ b, fp' b = f1' b + one a b + f2 b
  | _, _, _, 0, o, .cons e l nm r rs z, h => by
    simp only [List.getElem?_cons_zero, Option.some.injEq] at h
    subst h
    refine ⟨_, _, _, _, _, rfl, e, l, nm, r, z, fun hF hA hk o' fs' f1' ec e' l' nm' r' => ⟨_, .cons (by rw [ec]; exact e') l' nm' r' (rs.mono hF hA hk) (fun _ => rfl), fun _ => rfl⟩⟩
  | _, _, _, n + 1, o, .cons (a := a0) (f1 := g1) e l nm r rs z, h => by
    simp only [List.getElem?_cons_succ] at h
    obtain ⟨a, dx, fs, f1, f2, e1, e2, e3, e4, e5, z1, k⟩ := rs.at h
    refine ⟨a, dx, fs, f1, fun b => g1 b + one a0 b + f2 b, by simpa using e1, e2, e3, e4, e5, fun b => by dsimp only; rw [z, z1]; omega, fun hF hA hk o' fs' f1' ec e' l' nm' r' => ?_⟩
    dsimp only at hk
    obtain ⟨fp', rp, q⟩ := k hF hA (fun b hb => hk b (by omega)) ec e' l' nm' r'
    have ha := hk a0 (by simp [one])
    exact ⟨_, .cons (by rw [ha.1]; exact e) (by rw [ha.2]; exact l) nm (r.mono hF hA fun b hb => hk b (by omega)) rp (fun _ => rfl), fun b => by dsimp only; rw [q]; omega⟩

variable {T : Nat → Addr} {σ : St} {ts : List V} {s : Sx} {tds : List D} {tot : Fp} {evs : List V} {fE fT fS : Fp}
theorem RelC.foc (hF : ∀ a o, g.Fz a = some o → H a = some o) (R : RelC K T g σ ts H s tds tot evs fE fT fS) {p : Path} {v : V} {d : D} (a : AtP g.as σ H p v) (e : s.getP p = some d) (hd : d ≠ .gone) :
    ∃ f fr : Fp, Rp K g H d v f ∧ (∀ b, tot b = f b + fr b) ∧ ∀ {g' : Gh} {H' : Hp}, (∀ a o, g.Fz a = some o → g'.Fz a = some o) → g'.as = g.as → (∀ b, fr b ≠ 0 → H' b = H b ∧ g'.Lk b = g.Lk b) → ∀ {d' : D} {f' : Fp}, Rp K g' H' d' v f' → ∀ s', s.putP p d' = some s' →
      ∃ fE' fS' tot', RelC K T g' σ ts H' s' tds tot' evs fE' fT fS' ∧ ∀ b, tot' b = f' b + fr b := by
  obtain ⟨root, acc⟩ := p
  obtain ⟨v0, hr, ha⟩ := a
  cases root with
  | loc i =>
    simp only [Sx.getP, Sx.getR, Option.bind_eq_some_iff] at e
    obtain ⟨d0, e0, e⟩ := e
    have hn : d0 ≠ .gone := by
      rintro rfl
      cases acc with
      | nil => simp [D.get] at e; exact hd e.symm
      | cons x xs => simp [D.get, D.kid] at e
    obtain ⟨w, hw, hσ⟩ := (R.env i d0 e0).resolve_left hn
    have hr : σ[i]? = some (some v0) := hr
    rw [hr] at hσ; cases hσ
    obtain ⟨w, f1, f2, h1, r, z, k⟩ := R.rE.at e0
    rw [hw] at h1; cases h1
    obtain ⟨f3, f4, r3, z3, k3⟩ := r.foc hF ha e
    refine ⟨f3, fun b => f4 b + f2 b + fT b + fS b, r3, fun b => by dsimp only; rw [R.sum, z, z3]; omega, fun {g' H'} hF' hA hk d' f' r' s' es => ?_⟩
    dsimp only at hk
    simp only [Sx.putP, Sx.getR, e0, Option.bind_some, Option.map_eq_some_iff] at es
    obtain ⟨dn, edn, rfl⟩ := es
    have hp : g.as <+: g'.as := by rw [hA]; exact List.prefix_rfl
    obtain ⟨fp1, q1, w1⟩ := k3 hF' hp (fun b hb => hk b (by omega)) r' dn edn
    obtain ⟨fp2, q2, w2⟩ := k hF' hp (fun b hb => hk b (by omega)) q1
    rw [set_get_self hw] at q2
    refine ⟨fp2, fS, _, ⟨fun j y ey => ?_, by simpa [Sx.putR] using R.sl, q2, R.rT.mono hF' hp fun b hb => hk b (by omega), by rw [hA]; exact R.rS.mono hF' hp fun b hb => hk b (by omega), fun _ => rfl⟩, fun b => by dsimp only; rw [w2, w1]; omega⟩
    simp only [Sx.putR] at ey
    by_cases hj : i = j
    · subst hj; exact .inr ⟨v0, hw, hr⟩
    · rw [List.getElem?_set_ne hj] at ey; exact R.env j y ey
  | fld n f =>
    simp only [Sx.getP, Sx.getR, Option.bind_eq_some_iff] at e
    obtain ⟨d0, ⟨o, eo, e0⟩, e⟩ := e
    obtain ⟨a, dx, fs, f1, f2, ea, eH, eL, nm, r, z, k⟩ := R.rS.at eo
    obtain ⟨b, C, dx', fs', eb, eH', el⟩ := hr
    rw [ea] at eb; cases eb
    rw [eH] at eH'; cases eH'
    obtain ⟨j, hj, h1, h2, h3⟩ := fget_ix e0
    have h4 := h3 fs nm v0 el
    have e1 : (o.fs.map (·.2))[j]? = some d0 := by rw [List.getElem?_map, h1]; rfl
    have e2 : (fs.map (·.2))[j]? = some v0 := by rw [List.getElem?_map, h4]; rfl
    obtain ⟨w, f3, f4, h5, r5, z5, k5⟩ := r.at e1
    rw [e2] at h5; cases h5
    obtain ⟨f6, f7, r6, z6, k6⟩ := r5.foc hF ha e
    refine ⟨f6, fun b => f7 b + f4 b + one a b + f2 b + fE b + fT b, r6, fun b => by dsimp only; rw [R.sum, z, z5, z6]; omega, fun {g' H'} hF' hA hk d' f' r' s' es => ?_⟩
    dsimp only at hk
    simp only [Sx.putP, Sx.getR, eo, e0, Option.bind_some, Option.map_eq_some_iff] at es
    obtain ⟨dn, edn, rfl⟩ := es
    have hp : g.as <+: g'.as := by rw [hA]; exact List.prefix_rfl
    obtain ⟨fp1, q1, w1⟩ := k6 hF' hp (fun b hb => hk b (by omega)) r' dn edn
    obtain ⟨fp2, q2, w2⟩ := k5 hF' hp (fun b hb => hk b (by omega)) q1
    rw [set_get_self e2] at q2
    have ha' := hk a (by simp [one])
    obtain ⟨fp3, q3, w3⟩ := k hF' hp (fun b hb => hk b (by omega)) (o' := { o with fs := fput o.fs f dn }) rfl (by rw [ha'.1]; exact eH) (by rw [ha'.2]; exact eL) (by dsimp only; rw [h2, nm, List.map_set]; exact (set_get_self (by rw [List.getElem?_map, h1]; rfl)).symm) (by dsimp only; rw [h2, List.map_set]; exact q2)
    have es' : s.putR (.fld n f) dn = { s with sto := s.sto.set n { o with fs := fput o.fs f dn } } := by simp [Sx.putR, eo]
    rw [es']
    exact ⟨fE, fp3, _, ⟨R.env, R.sl, R.rE.mono hF' hp fun b hb => hk b (by omega), R.rT.mono hF' hp fun b hb => hk b (by omega), by rw [hA]; exact q3, fun _ => rfl⟩, fun b => by dsimp only; rw [w3, w2, w1]; omega⟩
end
end VS
/-! What stands between: operands, by value or by place. -/
namespace VS
open PySem L2

/-! ### how a run ends, part by part -/
section
variable {α β : Type} {s s' : Sx}
theorem ok_bind {m : M α} {f : α → M β} {b : β} : (m >>= f) s = .ok b s' ↔ ∃ a s1, m s = .ok a s1 ∧ f a s1 = .ok b s' := by
  show M.bind m f s = _ ↔ _
  unfold M.bind
  cases h : m s with
  | ok a s1 => exact ⟨fun q => ⟨a, s1, rfl, q⟩, fun ⟨_, _, e, q⟩ => by cases e; exact q⟩
  | exc _ _ _ => simp
  | fail => simp
theorem ok_bind' {m : M α} {f : α → M β} {b : β} : (m.bind f) s = .ok b s' ↔ ∃ a s1, m s = .ok a s1 ∧ f a s1 = .ok b s' := ok_bind
theorem ok_pure {a b : α} : (pure a : M α) s = .ok b s' ↔ b = a ∧ s' = s := by
  show Out.ok a s = .ok b s' ↔ _
  constructor
  · intro h; cases h; exact ⟨rfl, rfl⟩
  · rintro ⟨rfl, rfl⟩; rfl
theorem ok_fail {b : α} : (fail : M α) s = .ok b s' ↔ False := by
  show Out.fail = .ok b s' ↔ False
  simp
theorem ok_ite {c : Prop} [Decidable c] {m1 m2 : M α} {b : α} : (if c then m1 else m2) s = .ok b s' ↔ (c ∧ m1 s = .ok b s') ∨ (¬ c ∧ m2 s = .ok b s') := by
  by_cases h : c <;> simp [h]
theorem ok_opt {o : Option α} {b : α} : opt o s = .ok b s' ↔ o = some b ∧ s' = s := by
  cases o with
  | none => show Out.fail = .ok b s' ↔ _; simp
  | some a => show Out.ok a s = .ok b s' ↔ _; constructor
              · intro h; cases h; exact ⟨rfl, rfl⟩
              · rintro ⟨h, rfl⟩; cases h; rfl
theorem ok_need {b : Bool} {u : Unit} : need b s = .ok u s' ↔ b = true ∧ s' = s := by
  cases b with
  | false => show Out.fail = .ok u s' ↔ _; simp
  | true => show Out.ok () s = .ok u s' ↔ _; constructor
            · intro h; cases h; exact ⟨rfl, rfl⟩
            · rintro ⟨_, rfl⟩; rfl
theorem ok_val {d e : D} : deref (.val d) s = .ok e s' ↔ e = d ∧ s' = s := ok_pure
theorem ok_at {p : Path} {e : D} : deref (.at p) s = .ok e s' ↔ s.getP p = some e ∧ s' = s := by
  show (match s.getP p with | some d => Out.ok d s | none => .fail) = _ ↔ _
  cases s.getP p with
  | none => simp
  | some d => simp only [Out.ok.injEq, Option.some.injEq]; constructor
              · rintro ⟨rfl, rfl⟩; exact ⟨rfl, rfl⟩
              · rintro ⟨rfl, rfl⟩; exact ⟨rfl, rfl⟩
theorem ok_putAt {p : Path} {e : D} {u : Unit} : putAt p e s = .ok u s' ↔ s.putP p e = some s' := by
  show (match s.putP p e with | some s' => Out.ok () s' | none => .fail) = _ ↔ _
  cases s.putP p e with
  | none => simp
  | some d => simp
theorem bind_ok_of {m : M α} {f : α → M β} {a : α} {s1 : Sx} (h : m s = .ok a s1) : (m >>= f) s = f a s1 := by
  show M.bind m f s = _
  unfold M.bind; rw [h]
theorem bind_fail_of {m : M α} {f : α → M β} (h : m s = .fail) : (m >>= f) s = .fail := by
  show M.bind m f s = _
  unfold M.bind; rw [h]
theorem ex_bind {m : M α} {f : α → M β} {c : Nat} {ps : List D} : (m >>= f) s = .exc c ps s' ↔ m s = .exc c ps s' ∨ ∃ a s1, m s = .ok a s1 ∧ f a s1 = .exc c ps s' := by
  show M.bind m f s = _ ↔ _
  unfold M.bind
  cases h : m s with
  | ok a s1 => exact ⟨fun q => .inr ⟨a, s1, rfl, q⟩, fun q => by
      rcases q with q | ⟨_, _, e, q⟩
      · cases q
      · cases e; exact q⟩
  | exc _ _ _ => simp
  | fail => simp
theorem ex_bind' {m : M α} {f : α → M β} {c : Nat} {ps : List D} : (m.bind f) s = .exc c ps s' ↔ m s = .exc c ps s' ∨ ∃ a s1, m s = .ok a s1 ∧ f a s1 = .exc c ps s' := ex_bind
theorem ex_pure {a : α} {c : Nat} {ps : List D} : (pure a : M α) s = .exc c ps s' ↔ False := by
  show Out.ok a s = .exc c ps s' ↔ _
  simp
theorem ex_fail {c : Nat} {ps : List D} : (fail : M α) s = .exc c ps s' ↔ False := by
  show Out.fail = .exc c ps s' ↔ False
  simp
theorem ex_ite {c : Prop} [Decidable c] {m1 m2 : M α} {k : Nat} {ps : List D} : (if c then m1 else m2) s = .exc k ps s' ↔ (c ∧ m1 s = .exc k ps s') ∨ (¬ c ∧ m2 s = .exc k ps s') := by
  by_cases h : c <;> simp [h]
theorem ex_opt {o : Option α} {c : Nat} {ps : List D} : opt o s = .exc c ps s' ↔ False := by
  cases o with
  | none => show Out.fail = .exc c ps s' ↔ _; simp
  | some a => show Out.ok a s = .exc c ps s' ↔ _; simp
theorem ex_need {b : Bool} {c : Nat} {ps : List D} : need b s = .exc c ps s' ↔ False := by
  cases b with
  | false => show Out.fail = .exc c ps s' ↔ _; simp
  | true => show Out.ok () s = .exc c ps s' ↔ _; simp
theorem ex_deref {t : Tm} {c : Nat} {ps : List D} : deref t s = .exc c ps s' ↔ False := by
  cases t with
  | val d => exact ex_pure
  | «at» p =>
    show (match s.getP p with | some d => Out.ok d s | none => .fail) = _ ↔ _
    cases s.getP p <;> simp
theorem ex_putAt {p : Path} {e : D} {c : Nat} {ps : List D} : putAt p e s = .exc c ps s' ↔ False := by
  show (match s.putP p e with | some s' => Out.ok () s' | none => .fail) = _ ↔ _
  cases s.putP p e <;> simp
end

section
variable {K : PySem.W.Frag} {T : Nat → Addr} {A : Act} {as : List Addr} {g : Gh} {H H' : Hp} {σ : St} {ts : List V} {s s' : Sx} {tds : List D}

theorem Rps.rot : ∀ {ds₁ ds₂ : List D} {d : D} {vs₁ vs₂ : List V} {v : V} {f : Fp}, ds₁.length = vs₁.length → Rps K g H (ds₁ ++ d :: ds₂) (vs₁ ++ v :: vs₂) f → Rps K g H (d :: (ds₁ ++ ds₂)) (v :: (vs₁ ++ vs₂)) f
  | [], ds₂, d, [], vs₂, v, f, _, h => h
  | x :: ds₁, ds₂, d, y :: vs₁, vs₂, v, f, hl, h => by
    obtain ⟨f1, f2, r, rs, z⟩ := Rps.consI h
    obtain ⟨f3, f4, r3, r4, z4⟩ := Rps.consI (Rps.rot (by simpa using hl) rs)
    exact .cons r3 (.cons r r4 (fun _ => rfl)) fun b => by rw [z, z4]; omega
  | [], _, _, _ :: _, _, _, _, h, _ => by simp at h
  | _ :: _, _, _, [], _, _, _, h, _ => by simp at h
theorem Rps.unrot : ∀ {ds₁ ds₂ : List D} {d : D} {vs₁ vs₂ : List V} {v : V} {f : Fp}, ds₁.length = vs₁.length → Rps K g H (d :: (ds₁ ++ ds₂)) (v :: (vs₁ ++ vs₂)) f → Rps K g H (ds₁ ++ d :: ds₂) (vs₁ ++ v :: vs₂) f
  | [], ds₂, d, [], vs₂, v, f, _, h => h
  | x :: ds₁, ds₂, d, y :: vs₁, vs₂, v, f, hl, h => by
    obtain ⟨f1, f2, r, rs, z⟩ := Rps.consI h
    obtain ⟨f3, f4, r3, r4, z4⟩ := Rps.consI rs
    exact .cons r3 (Rps.unrot (by simpa using hl) (.cons r r4 (fun _ => rfl))) fun b => by rw [z, z4]; omega
  | [], _, _, _ :: _, _, _, _, h, _ => by simp at h
  | _ :: _, _, _, [], _, _, _, h, _ => by simp at h

/-! ### the state and what stands between -/
theorem Rel.tmp {ts' : List V} {tds' : List D} (R : Rel K T A as σ ts H s tds) (h : ∀ (g : Gh) (f : Fp), (∀ a o, g.Fz a = some o → H a = some o) → g.as = as → Rps K g H tds ts f → ∃ f', Rps K g H tds' ts' f' ∧ ∀ b, f' b ≤ f b) : Rel K T A as σ ts' H s tds' := by
  obtain ⟨fx, Fz, tot, evs, fE, fT, fS, C, S⟩ := R
  obtain ⟨f', r, hf⟩ := h _ _ S.fzH rfl C.rT
  refine ⟨fx, Fz, fun b => fE b + f' b + fS b, evs, fE, f', fS, ⟨C.env, C.sl, C.rE, r, C.rS, fun _ => rfl⟩, S.less fun b => ?_⟩
  have := C.sum b
  have := hf b
  omega
theorem Rel.drop {d : D} (R : Rel K T A as σ ts H s (d :: tds)) : ∃ v ts', ts = v :: ts' ∧ Rel K T A as σ ts' H s tds := by
  obtain ⟨fx, Fz, tot, evs, fE, fT, fS, C, S⟩ := R
  obtain ⟨v, ts', f, fT', tot', e, r, C', z⟩ := C.pop
  exact ⟨v, ts', e, fx, Fz, tot', evs, fE, fT', fS, C', S.less fun b => by have := z b; omega⟩
theorem Rel.drop' {d : D} {v : V} (R : Rel K T A as σ (v :: ts) H s (d :: tds)) : Rel K T A as σ ts H s tds := by
  obtain ⟨v', ts', e, R'⟩ := R.drop
  cases e; exact R'
theorem Rel.tlen (R : Rel K T A as σ ts H s tds) : tds.length = ts.length := by
  obtain ⟨fx, Fz, tot, evs, fE, fT, fS, C, S⟩ := R
  exact C.rT.len
theorem Rel.drops : ∀ {ds : List D} {vs : List V} {tds : List D} {ts : List V}, ds.length = vs.length → Rel K T A as σ (vs ++ ts) H s (ds ++ tds) → Rel K T A as σ ts H s tds
  | [], [], _, _, _, R => R
  | _ :: ds, _ :: vs, _, _, h, R => Rel.drops (by simpa using h) R.drop'
  | [], _ :: _, _, _, h, _ => by simp at h
  | _ :: _, [], _, _, h, _ => by simp at h
theorem Rel.rot {ds₁ ds₂ : List D} {d : D} {vs₁ vs₂ : List V} {v : V} (hl : ds₁.length = vs₁.length) (R : Rel K T A as σ (vs₁ ++ v :: vs₂) H s (ds₁ ++ d :: ds₂)) : Rel K T A as σ (v :: (vs₁ ++ vs₂)) H s (d :: (ds₁ ++ ds₂)) :=
  R.tmp fun g f _ _ r => ⟨f, Rps.rot hl r, fun _ => Nat.le_refl _⟩
theorem Rel.unrot {ds₁ ds₂ : List D} {d : D} {vs₁ vs₂ : List V} {v : V} (hl : ds₁.length = vs₁.length) (R : Rel K T A as σ (v :: (vs₁ ++ vs₂)) H s (d :: (ds₁ ++ ds₂))) : Rel K T A as σ (vs₁ ++ v :: vs₂) H s (ds₁ ++ d :: ds₂) :=
  R.tmp fun g f _ _ r => ⟨f, Rps.unrot hl r, fun _ => Nat.le_refl _⟩
/-- what owns nothing comes for nothing -/
theorem Rel.scal {d : D} {v : V} (R : Rel K T A as σ ts H s tds) (h : ∀ g : Gh, g.as = as → Rp K g H d v fun _ => 0) : Rel K T A as σ (v :: ts) H s (d :: tds) :=
  R.tmp fun g f _ ha r => ⟨f, .cons (h g ha) r fun b => by simp, fun _ => Nat.le_refl _⟩
theorem Rel.vw {d : D} {v : V} (R : Rel K T A as σ (v :: ts) H s (d :: tds)) : Vw K as H d v := by
  obtain ⟨fx, Fz, tot, evs, fE, fT, fS, C, S⟩ := R
  obtain ⟨v', ts', f, fT', tot', e, r, C', z⟩ := C.pop
  cases e
  exact r.vw S.fzH
theorem Rel.vws : ∀ {ds : List D} {vs : List V} {tds : List D} {ts : List V}, ds.length = vs.length → Rel K T A as σ (vs ++ ts) H s (ds ++ tds) → Vws K as H ds vs
  | [], [], _, _, _, R => .nil
  | _ :: ds, _ :: vs, _, _, h, R => .cons R.vw (Rel.vws (by simpa using h) R.drop')
  | [], _ :: _, _, _, h, _ => by simp at h
  | _ :: _, [], _, _, h, _ => by simp at h
/-- a plain thing may stand twice -/
theorem Rel.at_vw {p : Path} {v : V} {d : D} (R : Rel K T A as σ ts H s tds) (a : AtP as σ H p v) (e : s.getP p = some d) : Vw K as H d v := by
  by_cases hd : d = .gone
  · subst hd; exact .gone
  · obtain ⟨fx, Fz, tot, evs, fE, fT, fS, C, S⟩ := R
    obtain ⟨f, fr, r, _⟩ := C.foc S.fzH a e hd
    exact r.vw S.fzH
theorem Rel.at_plain {p : Path} {v : V} {d : D} (R : Rel K T A as σ ts H s tds) (a : AtP as σ H p v) (e : s.getP p = some d) (hp : d.plain = true) : Rel K T A as σ (v :: ts) H s (d :: tds) := by
  have hd : d ≠ .gone := by rintro rfl; simp [D.plain] at hp
  obtain ⟨fx, Fz, tot, evs, fE, fT, fS, C, S⟩ := R
  obtain ⟨f, fr, r, _⟩ := C.foc S.fzH a e hd
  refine ⟨fx, Fz, _, evs, fE, _, fS, C.push r, S.less fun b => ?_⟩
  rw [r.plain0 hp b]; omega
/-- given up at its place -/
theorem Rel.at_frz {p : Path} {v : V} {d : D} (R : Rel K T A as σ ts H s tds) (a : AtP as σ H p v) (e : s.getP p = some d) (hd : d ≠ .gone) (hp : d.frzOk = true) (es : s.putP p d.frz = some s') : Rel K T A as σ (v :: ts) H s' (d.frz :: tds) := by
  obtain ⟨fx, Fz, tot, evs, fE, fT, fS, C, S⟩ := R
  obtain ⟨f, fr, r, z, k⟩ := C.foc S.fzH a e hd
  obtain ⟨S', k1, k2⟩ := S.freeze (f := f) (fr := fr) z
  have r' : Rp K ⟨addF Fz H f, A.Lk, as⟩ H d.frz v fun _ => 0 := Rp.freeze (g := ⟨Fz, A.Lk, as⟩) (g' := ⟨addF Fz H f, A.Lk, as⟩) (H' := H) k1 List.prefix_rfl r hp k2 fun _ => rfl
  obtain ⟨fE', fS', tot', C', z'⟩ := k (g' := ⟨addF Fz H f, A.Lk, as⟩) (H' := H) k1 rfl (fun b _ => ⟨rfl, rfl⟩) r' s' es
  refine ⟨fx, _, _, evs, fE', _, fS', C'.push r', S'.less fun b => ?_⟩
  have := z' b
  omega
theorem escape_at {p : Path} {d : D} (e : escape (.at p) s = .ok d s') : ∃ d0, s.getP p = some d0 ∧ ((d0.plain = true ∧ d = d0 ∧ s' = s) ∨ (d0.plain = false ∧ d0.frzOk = true ∧ d = d0.frz ∧ s.putP p d0.frz = some s')) := by
  simp only [escape, ok_bind, ok_ite, ok_at, ok_pure, ok_putAt, ok_fail] at e
  obtain ⟨d0, s1, ⟨h0, rfl⟩, e⟩ := e
  refine ⟨d0, h0, ?_⟩
  rcases e with ⟨hp, rfl, rfl⟩ | ⟨hp, ⟨hf, _, s2, h2, rfl, rfl⟩ | ⟨_, h⟩⟩
  · exact .inl ⟨hp, rfl, rfl⟩
  · exact .inr ⟨by simpa using hp, hf, rfl, h2⟩
  · exact h.elim

def sV : List (Tm × V) → List V
  | [] => []
  | (.val _, v) :: r => v :: sV r
  | (.at _, _) :: r => sV r
def sD : List (Tm × V) → List D
  | [] => []
  | (.val d, _) :: r => d :: sD r
  | (.at _, _) :: r => sD r
/-- operands, the last one first, and what was made of some of them -/
def TmsR (K : PySem.W.Frag) (T : Nat → Addr) (A : Act) (as : List Addr) (σ : St) (ts : List V) (H : Hp) (s : Sx) (tds : List D) (pv : List V) (pd : List D) (L : List (Tm × V)) : Prop :=
  pd.length = pv.length ∧ Rel K T A as σ (pv ++ (sV L ++ ts)) H s (pd ++ (sD L ++ tds)) ∧ ∀ p v, (Tm.at p, v) ∈ L → AtP as σ H p v
variable {pv : List V} {pd : List D} {L : List (Tm × V)} {t : Tm} {v : V} {d : D}
theorem TmsR.drop (R : TmsR K T A as σ ts H s tds pv pd ((t, v) :: L)) : TmsR K T A as σ ts H s tds pv pd L := by
  obtain ⟨hl, R, a⟩ := R
  refine ⟨hl, ?_, fun p w h => a p w (List.mem_cons_of_mem _ h)⟩
  cases t with
  | val d => exact (Rel.rot hl R).drop'
  | «at» p => exact R
theorem TmsR.nil (R : TmsR K T A as σ ts H s tds pv pd []) : Rel K T A as σ (pv ++ ts) H s (pd ++ tds) := R.2.1
theorem TmsR.dropAll : ∀ {L : List (Tm × V)}, TmsR K T A as σ ts H s tds pv pd L → Rel K T A as σ (pv ++ ts) H s (pd ++ tds)
  | [], R => R.nil
  | (_, _) :: _, R => TmsR.dropAll R.drop
theorem TmsR.view : ∀ {L : List (Tm × V)}, TmsR K T A as σ ts H s tds pv pd L → ∀ {t : Tm} {v : V}, (t, v) ∈ L → ∀ {d : D} {s' : Sx}, deref t s = .ok d s' → s' = s ∧ Vw K as H d v
  | (t0, v0) :: L, R, t, v, hm, d, s', e => by
    rcases List.mem_cons.mp hm with q | q
    · cases q
      obtain ⟨hl, R, a⟩ := R
      cases t0 with
      | val d => obtain ⟨rfl, rfl⟩ := ok_val.mp e; exact ⟨rfl, (Rel.rot hl R).vw⟩
      | «at» p => obtain ⟨e, rfl⟩ := ok_at.mp e; exact ⟨rfl, R.at_vw (a p v0 List.mem_cons_self) e⟩
    · exact TmsR.view R.drop q e
theorem TmsR.esc (R : TmsR K T A as σ ts H s tds pv pd ((t, v) :: L)) (e : escape t s = .ok d s') : TmsR K T A as σ ts H s' tds (v :: pv) (d :: pd) L := by
  obtain ⟨hl, R, a⟩ := R
  refine ⟨by simp [hl], ?_, fun p w h => a p w (List.mem_cons_of_mem _ h)⟩
  cases t with
  | val x => obtain ⟨rfl, rfl⟩ := ok_pure.mp e; exact Rel.rot hl R
  | «at» p =>
    have ap := a p v List.mem_cons_self
    obtain ⟨d0, h0, ⟨hp, rfl, rfl⟩ | ⟨hp, hf, rfl, es⟩⟩ := escape_at e
    · exact R.at_plain ap h0 hp
    · exact R.at_frz ap h0 (by rintro rfl; simp [D.frzOk] at hf) hf es

/-- v is a list or a tuple of vs, as d is of some things -/
def SeqV (K : PySem.W.Frag) (H : Hp) (d : D) (a : Addr) (vs : List V) : Prop := match d with
  | .lst o _ => SqL K H a vs ∧ (o ≠ .wrt → H a = some (.lst vs))
  | .tup _ => H a = some (.tup vs)
  | _ => False
theorem Rp.kids {f : Fp} (hF : ∀ a o, g.Fz a = some o → H a = some o) (r : Rp K g H d v f) {ds : List D} (e : seqD d = some ds) : ∃ a vs f', v = .ref a ∧ SeqV K H d a vs ∧ Rps K g H ds vs f' ∧ ∀ b, f' b ≤ f b := by
  cases r with
  | tup q rs => cases e; exact ⟨_, _, _, rfl, hF _ _ q, rs, fun _ => Nat.le_refl _⟩
  | own q l rs z => cases e; exact ⟨_, _, _, rfl, ⟨.of q, fun _ => q⟩, rs, fun b => by rw [z]; omega⟩
  | lck q l rs z => cases e; exact ⟨_, _, _, rfl, ⟨.of q, fun _ => q⟩, rs, fun b => by rw [z]; omega⟩
  | frz q rs z => cases e; exact ⟨_, _, _, rfl, ⟨.of (hF _ _ q), fun _ => hF _ _ q⟩, rs, fun _ => Nat.le_refl _⟩
  | wrt q rs z => cases e; exact ⟨_, _, _, rfl, ⟨sqL_mono hF q, fun h => absurd rfl h⟩, rs, fun _ => Nat.le_refl _⟩
  | gone _ => cases e
  | non _ => cases e
  | bl _ => cases e
  | int _ => cases e
  | str _ => cases e
  | obj _ _ => cases e
  | dKo _ _ _ _ _ => cases e
  | dKf _ _ _ _ => cases e
theorem Rel.kids {ds : List D} (R : Rel K T A as σ (v :: ts) H s (d :: tds)) (e : seqD d = some ds) : ∃ a vs, v = .ref a ∧ SeqV K H d a vs ∧ ds.length = vs.length ∧ Rel K T A as σ (vs ++ ts) H s (ds ++ tds) := by
  obtain ⟨fx, Fz, tot, evs, fE, fT, fS, C, S⟩ := R
  obtain ⟨v', ts', f, fT', tot', e0, r, C', z⟩ := C.pop
  cases e0
  obtain ⟨a, vs, f', h1, h2, h3, h4⟩ := r.kids S.fzH e
  refine ⟨a, vs, h1, h2, h3.len, fx, Fz, _, evs, fE, _, fS, C'.pushs h3, S.less fun b => ?_⟩
  have := z b
  have := h4 b
  omega
theorem kidsOf_at {p : Path} {ds : List D} (e : kidsOf (.at p) s = .ok ds s') : ∃ d0 ds0, s.getP p = some d0 ∧ seqD d0 = some ds0 ∧ ((plainL ds0 = true ∧ ds = ds0 ∧ s' = s) ∨ (frzOkL ds0 = true ∧ ds = frzL ds0 ∧ ∃ d1, s.putP p d1 = some s' ∧ ((∃ o, d0 = .lst o ds0 ∧ d1 = .lst o (frzL ds0)) ∨ (d0 = .tup ds0 ∧ d1 = .tup (frzL ds0))))) := by
  simp only [kidsOf, ok_bind, ok_at] at e
  obtain ⟨d0, s1, ⟨h0, rfl⟩, e⟩ := e
  cases d0 with
  | tup ds0 =>
    simp only [ok_ite, ok_bind, ok_putAt, ok_pure, ok_fail] at e
    rcases e with ⟨hp, rfl, rfl⟩ | ⟨hp, ⟨hf, _, s2, h2, rfl, rfl⟩ | ⟨_, h⟩⟩
    · exact ⟨_, _, h0, rfl, .inl ⟨hp, rfl, rfl⟩⟩
    · exact ⟨_, _, h0, rfl, .inr ⟨hf, rfl, _, h2, .inr ⟨rfl, rfl⟩⟩⟩
    · exact h.elim
  | lst o ds0 =>
    simp only [ok_ite, ok_bind, ok_putAt, ok_pure, ok_fail] at e
    rcases e with ⟨hp, rfl, rfl⟩ | ⟨hp, ⟨hf, _, s2, h2, rfl, rfl⟩ | ⟨_, h⟩⟩
    · exact ⟨_, _, h0, rfl, .inl ⟨hp, rfl, rfl⟩⟩
    · exact ⟨_, _, h0, rfl, .inr ⟨hf, rfl, _, h2, .inl ⟨_, rfl, rfl⟩⟩⟩
    · exact h.elim
  | _ => simp only [ok_fail] at e
theorem plain_kids {d : D} {ds : List D} (hp : plainL ds = true) (e : seqD d = some ds) : True := trivial
theorem Rel.at_kids {p : Path} {ds : List D} (R : Rel K T A as σ ts H s tds) (a : AtP as σ H p v) (e : kidsOf (.at p) s = .ok ds s') : ∃ d0 a vs, s.getP p = some d0 ∧ v = .ref a ∧ SeqV K H d0 a vs ∧ ds.length = vs.length ∧ Rel K T A as σ (vs ++ ts) H s' (ds ++ tds) := by
  obtain ⟨d0, ds0, h0, hs, hh⟩ := kidsOf_at e
  have hd : d0 ≠ .gone := by rintro rfl; simp [seqD] at hs
  obtain ⟨fx, Fz, tot, evs, fE, fT, fS, C, S⟩ := R
  obtain ⟨f, fr, r, z, k⟩ := C.foc S.fzH a h0 hd
  rcases hh with ⟨hp, rfl, rfl⟩ | ⟨hf, rfl, d1, es, hh⟩
  · obtain ⟨b, vs, f', e1, e2, e3, e4⟩ := r.kids S.fzH hs
    refine ⟨d0, b, vs, h0, e1, e2, e3.len, fx, Fz, _, evs, fE, _, fS, C.pushs e3, S.less fun b => ?_⟩
    rw [e3.plain0 hp b]; omega
  · rcases hh with ⟨o, rfl, rfl⟩ | ⟨rfl, rfl⟩
    · cases r with
      | @own _ vs a₀ _ fk q l rs z1 =>
        obtain ⟨S', k1, k2⟩ := S.freeze (f := fk) (fr := fun b => one a₀ b + fr b) fun b => by have h1 := z b; have h2 := z1 b; omega
        have rk : Rps K ⟨addF Fz H fk, A.Lk, as⟩ H (frzL ds0) vs fun _ => 0 := Rps.freeze (g := ⟨Fz, A.Lk, as⟩) (g' := ⟨addF Fz H fk, A.Lk, as⟩) (H' := H) k1 List.prefix_rfl rs hf k2 fun _ => rfl
        obtain ⟨fE', fS', tot', C', z'⟩ := k (g' := ⟨addF Fz H fk, A.Lk, as⟩) (H' := H) k1 rfl (fun b _ => ⟨rfl, rfl⟩) (Rp.own (fp := one a₀) q l rk fun b => by simp) s' es
        refine ⟨_, a₀, vs, h0, rfl, ⟨.of q, fun _ => q⟩, rk.len, fx, _, _, evs, fE', _, fS', C'.pushs rk, S'.less fun b => ?_⟩
        have := z' b
        omega
      | @lck _ vs a₀ _ fk q l rs z1 =>
        obtain ⟨S', k1, k2⟩ := S.freeze (f := fk) (fr := fun b => one a₀ b + fr b) fun b => by have h1 := z b; have h2 := z1 b; omega
        have rk : Rps K ⟨addF Fz H fk, A.Lk, as⟩ H (frzL ds0) vs fun _ => 0 := Rps.freeze (g := ⟨Fz, A.Lk, as⟩) (g' := ⟨addF Fz H fk, A.Lk, as⟩) (H' := H) k1 List.prefix_rfl rs hf k2 fun _ => rfl
        obtain ⟨fE', fS', tot', C', z'⟩ := k (g' := ⟨addF Fz H fk, A.Lk, as⟩) (H' := H) k1 rfl (fun b _ => ⟨rfl, rfl⟩) (Rp.lck (fp := one a₀) q l rk fun b => by simp) s' es
        refine ⟨_, a₀, vs, h0, rfl, ⟨.of q, fun _ => q⟩, rk.len, fx, _, _, evs, fE', _, fS', C'.pushs rk, S'.less fun b => ?_⟩
        have := z' b
        omega
      | @frz _ vs a₀ _ q rs z1 =>
        have z0 : ∀ b, f b = 0 := z1
        obtain ⟨S', k1, k2⟩ := S.freeze (f := f) (fr := fr) z
        have rk : Rps K ⟨addF Fz H f, A.Lk, as⟩ H (frzL ds0) vs fun _ => 0 := Rps.freeze (g := ⟨Fz, A.Lk, as⟩) (g' := ⟨addF Fz H f, A.Lk, as⟩) (H' := H) k1 List.prefix_rfl rs hf k2 fun _ => rfl
        obtain ⟨fE', fS', tot', C', z'⟩ := k (g' := ⟨addF Fz H f, A.Lk, as⟩) (H' := H) k1 rfl (fun b _ => ⟨rfl, rfl⟩) (Rp.frz (fp := fun _ => 0) (k1 _ _ q) rk fun b => rfl) s' es
        refine ⟨_, a₀, vs, h0, rfl, ⟨.of (S.fzH _ _ q), fun _ => S.fzH _ _ q⟩, rk.len, fx, _, _, evs, fE', _, fS', C'.pushs rk, S'.less fun b => ?_⟩
        have := z' b
        omega
      | @wrt _ vs a₀ _ q rs z1 =>
        obtain ⟨S', k1, k2⟩ := S.freeze (f := f) (fr := fr) z
        have rk : Rps K ⟨addF Fz H f, A.Lk, as⟩ H (frzL ds0) vs fun _ => 0 := Rps.freeze (g := ⟨Fz, A.Lk, as⟩) (g' := ⟨addF Fz H f, A.Lk, as⟩) (H' := H) k1 List.prefix_rfl rs hf k2 fun _ => rfl
        obtain ⟨fE', fS', tot', C', z'⟩ := k (g' := ⟨addF Fz H f, A.Lk, as⟩) (H' := H) k1 rfl (fun b _ => ⟨rfl, rfl⟩) (Rp.wrt (fp := fun _ => 0) (sqL_mono k1 q) rk fun b => rfl) s' es
        refine ⟨_, a₀, vs, h0, rfl, ⟨sqL_mono S.fzH q, fun h => absurd rfl h⟩, rk.len, fx, _, _, evs, fE', _, fS', C'.pushs rk, S'.less fun b => ?_⟩
        have := z' b
        omega
    · cases r with
      | @tup _ vs a₀ _ q rs =>
        obtain ⟨S', k1, k2⟩ := S.freeze (f := f) (fr := fr) z
        have rk : Rps K ⟨addF Fz H f, A.Lk, as⟩ H (frzL ds0) vs fun _ => 0 := Rps.freeze (g := ⟨Fz, A.Lk, as⟩) (g' := ⟨addF Fz H f, A.Lk, as⟩) (H' := H) k1 List.prefix_rfl rs hf k2 fun _ => rfl
        obtain ⟨fE', fS', tot', C', z'⟩ := k (g' := ⟨addF Fz H f, A.Lk, as⟩) (H' := H) k1 rfl (fun b _ => ⟨rfl, rfl⟩) (Rp.tup (k1 _ _ q) rk) s' es
        refine ⟨_, a₀, vs, h0, rfl, S.fzH _ _ q, rk.len, fx, _, _, evs, fE', _, fS', C'.pushs rk, S'.less fun b => ?_⟩
        have := z' b
        omega
theorem kidsOf_val {x : D} {ds : List D} (e : kidsOf (.val x) s = .ok ds s') : seqD x = some ds ∧ s' = s := by
  simp only [kidsOf, ok_bind, ok_val] at e
  obtain ⟨d0, s1, ⟨rfl, rfl⟩, e⟩ := e
  cases d0 with
  | tup ds0 => obtain ⟨rfl, rfl⟩ := ok_pure.mp e; exact ⟨rfl, rfl⟩
  | lst o ds0 => obtain ⟨rfl, rfl⟩ := ok_pure.mp e; exact ⟨rfl, rfl⟩
  | _ => simp only [ok_fail] at e
theorem TmsR.kids {ds : List D} (R : TmsR K T A as σ ts H s tds pv pd ((t, v) :: L)) (e : kidsOf t s = .ok ds s') : ∃ d0 a vs, deref t s = .ok d0 s ∧ v = .ref a ∧ SeqV K H d0 a vs ∧ ds.length = vs.length ∧ TmsR K T A as σ ts H s' tds (vs ++ pv) (ds ++ pd) L := by
  obtain ⟨hl, R, a⟩ := R
  have a' : ∀ p w, (Tm.at p, w) ∈ L → AtP as σ H p w := fun p w h => a p w (List.mem_cons_of_mem _ h)
  cases t with
  | val x =>
    obtain ⟨e1, rfl⟩ := kidsOf_val e
    obtain ⟨b, vs, e2, e3, e4, R'⟩ := (Rel.rot hl R).kids e1
    refine ⟨x, b, vs, ok_val.mpr ⟨rfl, rfl⟩, e2, e3, e4, by simp [hl, e4], ?_, a'⟩
    rw [List.append_assoc, List.append_assoc]; exact R'
  | «at» p =>
    obtain ⟨d0, b, vs, e1, e2, e3, e4, R'⟩ := R.at_kids (a p v List.mem_cons_self) e
    refine ⟨d0, b, vs, ok_at.mpr ⟨e1, rfl⟩, e2, e3, e4, by simp [hl, e4], ?_, a'⟩
    rw [List.append_assoc, List.append_assoc]; exact R'
theorem TmsR.kidsTr {ds : List D} (R : TmsR K T A as σ ts H s tds pv pd ((t, v) :: L)) (e : VS.kidsTr t s = .ok ds s') : ∃ a vs, v = .ref a ∧ H a = some (.lst vs) ∧ ds.length = vs.length ∧ TmsR K T A as σ ts H s' tds (vs ++ pv) (ds ++ pd) L := by
  simp only [VS.kidsTr, ok_bind] at e
  obtain ⟨d, s1, h1, e⟩ := e
  obtain ⟨rfl, -⟩ := R.view (t := t) (v := v) List.mem_cons_self h1
  cases d with
  | lst o xs =>
    simp only [ok_bind, ok_need, decide_eq_true_eq] at e
    obtain ⟨_, s2, ⟨ho, rfl⟩, e⟩ := e
    obtain ⟨d0, a, vs, h0, h2, h3, h4, h5⟩ := R.kids e
    rw [h1] at h0; cases h0
    exact ⟨a, vs, h2, h3.2 ho, h4, h5⟩
  | _ => simp only [ok_fail] at e
theorem TmsR.kidsTp {ds : List D} (R : TmsR K T A as σ ts H s tds pv pd ((t, v) :: L)) (e : VS.kidsTp t s = .ok ds s') : ∃ a vs, v = .ref a ∧ H a = some (.tup vs) ∧ ds.length = vs.length ∧ TmsR K T A as σ ts H s' tds (vs ++ pv) (ds ++ pd) L := by
  simp only [VS.kidsTp, ok_bind] at e
  obtain ⟨d, s1, h1, e⟩ := e
  obtain ⟨rfl, -⟩ := R.view (t := t) (v := v) List.mem_cons_self h1
  cases d with
  | tup xs =>
    obtain ⟨d0, a, vs, h0, h2, h3, h4, h5⟩ := R.kids e
    rw [h1] at h0; cases h0
    exact ⟨a, vs, h2, h3, h4, h5⟩
  | _ => simp only [ok_fail] at e
theorem TmsR.swap {t1 t2 : Tm} {v1 v2 : V} (R : TmsR K T A as σ ts H s tds pv pd [(t2, v2), (t1, v1)]) : TmsR K T A as σ ts H s tds pv pd [(t1, v1), (t2, v2)] := by
  obtain ⟨hl, R, a⟩ := R
  refine ⟨hl, ?_, fun p w h => a p w (by simp at h ⊢; rcases h with h | h <;> simp [h])⟩
  cases t1 with
  | «at» p1 => cases t2 <;> exact R
  | val d1 =>
    cases t2 with
    | «at» p2 => exact R
    | val d2 =>
      have R2 : Rel K T A as σ ((pv ++ [v2]) ++ v1 :: ts) H s ((pd ++ [d2]) ++ d1 :: tds) := by simpa [sV, sD] using R
      have R3 := Rel.rot (by simp [hl]) R2
      have R4 : Rel K T A as σ (v1 :: (pv ++ (v2 :: ts))) H s (d1 :: (pd ++ (d2 :: tds))) := by simpa using R3
      have R5 := Rel.unrot (vs₂ := v2 :: ts) (ds₂ := d2 :: tds) hl R4
      simpa [sV, sD] using R5
theorem frzL_len : ∀ ds : List D, (frzL ds).length = ds.length
  | [] => rfl
  | d :: ds => by simp [frzL, frzL_len ds]
theorem Rps.rep {ds : List D} {vs : List V} (r : Rps K g H ds vs fun _ => 0) : ∀ n : Nat, Rps K g H (List.replicate n ds).flatten (List.replicate n vs).flatten fun _ => 0
  | 0 => .nil fun _ => rfl
  | n + 1 => by
    rw [List.replicate_succ, List.replicate_succ, List.flatten_cons, List.flatten_cons]
    exact r.append (Rps.rep r n) fun b => rfl
theorem Rel.frzT {ds : List D} {vs : List V} (hl : ds.length = vs.length) (hf : frzOkL ds = true) (R : Rel K T A as σ (vs ++ ts) H s (ds ++ tds)) (F : List D → List D) (G : List V → List V) (hk : ∀ (g : Gh), Rps K g H (frzL ds) vs (fun _ => 0) → Rps K g H (F (frzL ds)) (G vs) (fun _ => 0)) : Rel K T A as σ (G vs ++ ts) H s (F (frzL ds) ++ tds) := by
  obtain ⟨fx, Fz, tot, evs, fE, fT, fS, C, S⟩ := R
  obtain ⟨vs', ts', f, fT', tot', e, r, C', z⟩ := C.pops
  have e' : vs = vs' ∧ ts = ts' := List.append_inj e (by rw [← hl, r.len])
  obtain ⟨rfl, rfl⟩ := e'
  obtain ⟨S', k1, k2⟩ := S.freeze (f := f) (fr := tot') fun b => by have := z b; omega
  have rk : Rps K ⟨addF Fz H f, A.Lk, as⟩ H (frzL ds) vs fun _ => 0 := Rps.freeze (g := ⟨Fz, A.Lk, as⟩) (g' := ⟨addF Fz H f, A.Lk, as⟩) (H' := H) k1 List.prefix_rfl r hf k2 fun _ => rfl
  have C2 := C'.mono (g' := ⟨addF Fz H f, A.Lk, as⟩) (H' := H) k1 rfl fun b _ => ⟨rfl, rfl⟩
  exact ⟨fx, _, _, evs, fE, _, fS, C2.pushs (hk _ rk), S'.less fun b => by simp⟩

/-! ### new objects, written objects -/
theorem Sane.fzNone {Fz : Hp} {tot : Fp} (S : Sane A as Fz H tot) {p : Addr} (hp : H p = none) : Fz p = none := by
  cases q : Fz p with
  | none => rfl
  | some u => rw [S.fzH _ _ q] at hp; cases hp
theorem Sane.lkNone {Fz : Hp} {tot : Fp} (S : Sane A as Fz H tot) {p : Addr} (hp : H p = none) : A.Lk p = none := by
  cases q : A.Lk p with
  | none => rfl
  | some u => rw [S.lkH _ _ q] at hp; cases hp
theorem Rel.alloc_lst {ds : List D} {vs : List V} {p : Addr} (hl : ds.length = vs.length) (R : Rel K T A as σ (vs ++ ts) H s (ds ++ tds)) (hp : H p = none) : Rel K T A as σ (.ref p :: ts) (upd H p (.lst vs)) s (.lst .own ds :: tds) := by
  obtain ⟨fx, Fz, tot, evs, fE, fT, fS, C, S⟩ := R
  have h0 := C.free hp
  obtain ⟨vs', ts', f, fT', tot', e, r, C', z⟩ := C.pops
  have e' : vs = vs' ∧ ts = ts' := List.append_inj e (by rw [← hl, r.len])
  obtain ⟨rfl, rfl⟩ := e'
  have z0 := z p
  have C2 := C'.mono (g' := ⟨Fz, A.Lk, as⟩) (H' := upd H p (.lst vs)) (fun _ _ q => q) rfl fun b hb => ⟨upd_ne (by rintro rfl; omega), rfl⟩
  have r2 : Rps K ⟨Fz, A.Lk, as⟩ (upd H p (.lst vs)) ds vs f := r.mono (fun _ _ q => q) List.prefix_rfl fun b hb => ⟨upd_ne (by rintro rfl; omega), rfl⟩
  have ro : Rp K ⟨Fz, A.Lk, as⟩ (upd H p (.lst vs)) (.lst .own ds) (.ref p) (fun b => f b + one p b) := .own upd_same (S.lkNone hp) r2 fun _ => rfl
  refine ⟨fx, Fz, _, evs, fE, _, fS, C2.push ro, S.alloc hp h0 fun b => ?_⟩
  have := z b
  omega
theorem Rel.alloc_tup {ds : List D} {vs : List V} {p : Addr} (hl : ds.length = vs.length) (R : Rel K T A as σ (vs ++ ts) H s (ds ++ tds)) (hp : H p = none) : Rel K T A as σ (.ref p :: ts) (upd H p (.tup vs)) s (.tup ds :: tds) := by
  obtain ⟨fx, Fz, tot, evs, fE, fT, fS, C, S⟩ := R
  have h0 := C.free hp
  obtain ⟨vs', ts', f, fT', tot', e, r, C', z⟩ := C.pops
  have e' : vs = vs' ∧ ts = ts' := List.append_inj e (by rw [← hl, r.len])
  obtain ⟨rfl, rfl⟩ := e'
  have z0 := z p
  have hf := S.fzNone hp
  have C2 := C'.mono (g' := ⟨upd Fz p (.tup vs), A.Lk, as⟩) (H' := upd H p (.tup vs)) (Ext.upd hf) rfl fun b hb => ⟨upd_ne (by rintro rfl; omega), rfl⟩
  have r2 : Rps K ⟨upd Fz p (.tup vs), A.Lk, as⟩ (upd H p (.tup vs)) ds vs f := Rps.mono (g := ⟨Fz, A.Lk, as⟩) (g' := ⟨upd Fz p (.tup vs), A.Lk, as⟩) (H' := upd H p (.tup vs)) (Ext.upd hf) List.prefix_rfl r fun b hb => ⟨upd_ne (by rintro rfl; omega), rfl⟩
  have ro : Rp K ⟨upd Fz p (.tup vs), A.Lk, as⟩ (upd H p (.tup vs)) (.tup ds) (.ref p) f := .tup upd_same r2
  refine ⟨fx, _, _, evs, fE, _, fS, C2.push ro, (S.allocF (o := .tup vs) hp h0).less fun b => ?_⟩
  have := z b
  omega
theorem Rel.alloc_dK {p : Addr} (R : Rel K T A as σ ts H s tds) (hp : H p = none) : Rel K T A as σ (.ref p :: ts) (upd H p (.dK [])) s (.dK .own [] [] :: tds) := by
  obtain ⟨fx, Fz, tot, evs, fE, fT, fS, C, S⟩ := R
  have h0 := C.free hp
  have C2 := C.mono (g' := ⟨Fz, A.Lk, as⟩) (H' := upd H p (.dK [])) (fun _ _ q => q) rfl fun b hb => ⟨upd_ne (by rintro rfl; omega), rfl⟩
  have ro : Rp K ⟨Fz, A.Lk, as⟩ (upd H p (.dK [])) (.dK .own [] []) (.ref p) (one p) := .dKo (vs := []) (by rw [upd_same]; rfl) rfl (S.lkNone hp) (.nil (fp := fun _ => 0) fun _ => rfl) fun b => by simp
  exact ⟨fx, Fz, _, evs, fE, _, fS, C2.push ro, S.alloc hp h0 fun b => rfl⟩
/-- a list is written at its place: with the things es, which become its own; the things os come out of it -/
theorem Rel.write {p : Path} {ds ds' es os : List D} {ws : List V} {fv gv : List V → List V} (hl : es.length = ws.length) (R : Rel K T A as σ (ws ++ ts) H s (es ++ tds)) (a : AtP as σ H p v) (e : s.getP p = some (.lst .own ds))
    (hk : ∀ (g : Gh) (H : Hp) (vs : List V) (f1 f2 : Fp), Rps K g H ds vs f1 → Rps K g H es ws f2 → ∃ f3 f4 : Fp, Rps K g H ds' (fv vs) f3 ∧ Rps K g H os (gv vs) f4 ∧ ∀ b, f3 b + f4 b ≤ f1 b + f2 b) (es' : s.putP p (.lst .own ds') = some s') :
    ∃ a₀ vs, v = .ref a₀ ∧ H a₀ = some (.lst vs) ∧ ds.length = vs.length ∧ Rel K T A as σ (gv vs ++ ts) (upd H a₀ (.lst (fv vs))) s' (os ++ tds) := by
  obtain ⟨fx, Fz, tot, evs, fE, fT, fS, C, S⟩ := R
  obtain ⟨ws', ts', f2, fT', tot', e2, r2, C', z2⟩ := C.pops
  have e' : ws = ws' ∧ ts = ts' := List.append_inj e2 (by rw [← hl, r2.len])
  obtain ⟨rfl, rfl⟩ := e'
  obtain ⟨f, fr, r, z, k⟩ := C'.foc S.fzH a e (by simp)
  cases r with
  | @own _ vs a₀ _ f1 q l r1 z1 =>
    refine ⟨a₀, vs, rfl, q, r1.len, ?_⟩
    have u := S.uno a₀
    have u2 := z2 a₀
    have u3 := z a₀
    have u4 := z1 a₀
    have u5 : one a₀ a₀ = 1 := by simp [one]
    have nf : ∀ {F : Fp} {b : Addr}, F a₀ = 0 → F b ≠ 0 → b ≠ a₀ := fun {F b} h1 h2 h3 => h2 (by rw [h3]; exact h1)
    have r1' : Rps K ⟨Fz, A.Lk, as⟩ (upd H a₀ (.lst (fv vs))) ds vs f1 := r1.mono (fun _ _ q => q) List.prefix_rfl fun b hb => ⟨upd_ne (nf (F := f1) (by omega) hb), rfl⟩
    have r2' : Rps K ⟨Fz, A.Lk, as⟩ (upd H a₀ (.lst (fv vs))) es ws f2 := r2.mono (fun _ _ q => q) List.prefix_rfl fun b hb => ⟨upd_ne (nf (F := f2) (by omega) hb), rfl⟩
    obtain ⟨f3, f4, r3, r4, z4⟩ := hk _ _ vs f1 f2 r1' r2'
    obtain ⟨fE', fS', tot2, C2, z5⟩ := k (g' := ⟨Fz, A.Lk, as⟩) (H' := upd H a₀ (.lst (fv vs))) (fun _ _ q => q) rfl (fun b hb => ⟨upd_ne (nf (F := fr) (by omega) hb), rfl⟩) (Rp.own (fp := fun b => f3 b + one a₀ b) upd_same l r3 fun _ => rfl) s' es'
    refine ⟨fx, Fz, _, evs, fE', _, fS', C2.pushs r4, S.write (by omega) l fun b => ?_⟩
    have h1 := z b
    have h2 := z1 b
    have h3 := z2 b
    have h4 := z4 b
    have h5 := z5 b
    omega
/-- a dict is written at its place -/
theorem Rel.writeK {p : Path} {ks ks' : List Key} {ds ds' es os : List D} {ws : List V} {fv gv : List V → List V} (hl : es.length = ws.length) (R : Rel K T A as σ (ws ++ ts) H s (es ++ tds)) (a : AtP as σ H p v) (e : s.getP p = some (.dK .own ks ds))
    (hk : ∀ (g : Gh) (H : Hp) (vs : List V) (f1 f2 : Fp), ks.length = vs.length → Rps K g H ds vs f1 → Rps K g H es ws f2 → ∃ f3 f4 : Fp, ks'.length = (fv vs).length ∧ Rps K g H ds' (fv vs) f3 ∧ Rps K g H os (gv vs) f4 ∧ ∀ b, f3 b + f4 b ≤ f1 b + f2 b) (es' : s.putP p (.dK .own ks' ds') = some s') :
    ∃ a₀ vs, v = .ref a₀ ∧ H a₀ = some (.dK (ks.zip vs)) ∧ ks.length = vs.length ∧ Rel K T A as σ (gv vs ++ ts) (upd H a₀ (.dK (ks'.zip (fv vs)))) s' (os ++ tds) := by
  obtain ⟨fx, Fz, tot, evs, fE, fT, fS, C, S⟩ := R
  obtain ⟨ws', ts', f2, fT', tot', e2, r2, C', z2⟩ := C.pops
  have e' : ws = ws' ∧ ts = ts' := List.append_inj e2 (by rw [← hl, r2.len])
  obtain ⟨rfl, rfl⟩ := e'
  obtain ⟨f, fr, r, z, k⟩ := C'.foc S.fzH a e (by simp)
  cases r with
  | @dKo _ _ vs a₀ _ f1 q hq l r1 z1 =>
    refine ⟨a₀, vs, rfl, q, hq, ?_⟩
    have u := S.uno a₀
    have u2 := z2 a₀
    have u3 := z a₀
    have u4 := z1 a₀
    have u5 : one a₀ a₀ = 1 := by simp [one]
    have nf : ∀ {F : Fp} {b : Addr}, F a₀ = 0 → F b ≠ 0 → b ≠ a₀ := fun {F b} h1 h2 h3 => h2 (by rw [h3]; exact h1)
    have r1' : Rps K ⟨Fz, A.Lk, as⟩ (upd H a₀ (.dK (ks'.zip (fv vs)))) ds vs f1 := r1.mono (fun _ _ q => q) List.prefix_rfl fun b hb => ⟨upd_ne (nf (F := f1) (by omega) hb), rfl⟩
    have r2' : Rps K ⟨Fz, A.Lk, as⟩ (upd H a₀ (.dK (ks'.zip (fv vs)))) es ws f2 := r2.mono (fun _ _ q => q) List.prefix_rfl fun b hb => ⟨upd_ne (nf (F := f2) (by omega) hb), rfl⟩
    obtain ⟨f3, f4, l3, r3, r4, z4⟩ := hk _ _ vs f1 f2 hq r1' r2'
    obtain ⟨fE', fS', tot2, C2, z5⟩ := k (g' := ⟨Fz, A.Lk, as⟩) (H' := upd H a₀ (.dK (ks'.zip (fv vs)))) (fun _ _ q => q) rfl (fun b hb => ⟨upd_ne (nf (F := fr) (by omega) hb), rfl⟩) (Rp.dKo (fp := fun b => f3 b + one a₀ b) upd_same l3 l r3 fun _ => rfl) s' es'
    refine ⟨fx, Fz, _, evs, fE', _, fS', C2.pushs r4, S.write (by omega) l fun b => ?_⟩
    have h1 := z b
    have h2 := z1 b
    have h3 := z2 b
    have h4 := z4 b
    have h5 := z5 b
    omega

/-! ### a list that a loop walks -/
def Act.lock (A : Act) (i : Nat) (a : Addr) (vs : List V) : Act := { A with Lk := upd A.Lk a (.lst vs), fix := (i, .ref a) :: A.fix }
theorem Rel.lock {i : Nat} {ds : List D} (R : Rel K T A as σ ts H s tds) (e : s.env[i]? = some (.lst .own ds)) : ∃ a vs, σ[i]? = some (some (.ref a)) ∧ H a = some (.lst vs) ∧ ds.length = vs.length ∧ A.Lk a = none ∧ Rel K T (A.lock i a vs) as σ ts H { s with env := s.env.set i (.lst .lck ds) } tds := by
  obtain ⟨fx, Fz, tot, evs, fE, fT, fS, C, S⟩ := R
  obtain ⟨w, hw, hσ⟩ := (C.env i _ e).resolve_left (by simp)
  obtain ⟨w', f1, f2, h1, r, z, k⟩ := C.rE.at e
  rw [hw] at h1; cases h1
  cases r with
  | @own _ vs a₀ _ fk q l r1 z1 =>
    refine ⟨a₀, vs, hσ, q, r1.len, l, ?_⟩
    have u := S.uno a₀
    have u2 := C.sum a₀
    have u3 := z a₀
    have u4 := z1 a₀
    have u5 : one a₀ a₀ = 1 := by simp [one]
    have nf : ∀ {F : Fp} {b : Addr}, F a₀ = 0 → F b ≠ 0 → b ≠ a₀ := fun {F b} h1 h2 h3 => h2 (by rw [h3]; exact h1)
    have ag : ∀ {F : Fp}, F a₀ = 0 → ∀ b, F b ≠ 0 → H b = H b ∧ (A.lock i a₀ vs).Lk b = A.Lk b := fun {F} h b hb => ⟨rfl, upd_ne (nf (F := F) h hb)⟩
    have r1' : Rps K ⟨Fz, (A.lock i a₀ vs).Lk, as⟩ H ds vs fk := Rps.mono (g := ⟨Fz, A.Lk, as⟩) (g' := ⟨Fz, (A.lock i a₀ vs).Lk, as⟩) (fun _ _ q => q) List.prefix_rfl r1 (ag (by omega))
    obtain ⟨fp', rp, zp⟩ := k (g' := ⟨Fz, (A.lock i a₀ vs).Lk, as⟩) (H' := H) (fun _ _ q => q) List.prefix_rfl (ag (by omega)) (Rp.lck (fp := fun b => fk b + one a₀ b) q (by show upd A.Lk a₀ (.lst vs) a₀ = _; exact upd_same) r1' fun _ => rfl)
    rw [set_get_self hw] at rp
    refine ⟨fun p hp => ?_, Fz, fun b => fp' b + fT b + fS b, evs, fp', fT, fS, ⟨fun j y ey => ?_, by simpa using C.sl, rp, Rps.mono (g := ⟨Fz, A.Lk, as⟩) (g' := ⟨Fz, (A.lock i a₀ vs).Lk, as⟩) (fun _ _ q => q) List.prefix_rfl C.rT (ag (by omega)), Objs.mono (g := ⟨Fz, A.Lk, as⟩) (g' := ⟨Fz, (A.lock i a₀ vs).Lk, as⟩) (fun _ _ q => q) List.prefix_rfl C.rS (ag (by omega)), fun _ => rfl⟩, ⟨S.fzH, S.fz0, fun b o e => ?_, S.as0, fun b => ?_, fun b hb => S.nfz b ?_, fun b hb => S.own b ?_, S.kp, S.fzo⟩⟩
    · rcases List.mem_cons.mp hp with rfl | hp
      · exact hσ
      · exact fx p hp
    · by_cases hj : i = j
      · subst hj; exact .inr ⟨_, hw, hσ⟩
      · rw [List.getElem?_set_ne hj] at ey; exact C.env j y ey
    · have e : upd A.Lk a₀ (.lst vs) b = some o := e
      by_cases hb : b = a₀
      · subst hb; rw [upd_same] at e; cases e; exact q
      · rw [upd_ne hb] at e; exact S.lkH b o e
    · have := S.uno b; have := C.sum b; have := z b; have := z1 b; have := zp b; omega
    · have := C.sum b; have := z b; have := z1 b; have := zp b; omega
    · have := C.sum b; have := z b; have := z1 b; have := zp b; omega
theorem Rel.unlock {i : Nat} {a : Addr} {vs : List V} {ds : List D} (hn : A.Lk a = none) (R : Rel K T (A.lock i a vs) as σ ts H s tds) (e : s.env[i]? = some (.lst .lck ds)) : Rel K T A as σ ts H { s with env := s.env.set i (.lst .own ds) } tds := by
  obtain ⟨fx, Fz, tot, evs, fE, fT, fS, C, S⟩ := R
  obtain ⟨w, hw, hσ⟩ := (C.env i _ e).resolve_left (by simp)
  have hσ2 := fx (i, .ref a) List.mem_cons_self
  dsimp only at hσ2
  rw [hσ] at hσ2; cases hσ2
  obtain ⟨w', f1, f2, h1, r, z, k⟩ := C.rE.at e
  rw [hw] at h1; cases h1
  cases r with
  | @lck _ vs' _ _ fk q l r1 z1 =>
    have u := S.uno a
    have u2 := C.sum a
    have u3 := z a
    have u4 := z1 a
    have u5 : one a a = 1 := by simp [one]
    have nf : ∀ {F : Fp} {b : Addr}, F a = 0 → F b ≠ 0 → b ≠ a := fun {F b} h1 h2 h3 => h2 (by rw [h3]; exact h1)
    have ag : ∀ {F : Fp}, F a = 0 → ∀ b, F b ≠ 0 → H b = H b ∧ A.Lk b = (A.lock i a vs).Lk b := fun {F} h b hb => ⟨rfl, (upd_ne (nf (F := F) h hb)).symm⟩
    have r1' : Rps K ⟨Fz, A.Lk, as⟩ H ds vs' fk := Rps.mono (g := ⟨Fz, (A.lock i a vs).Lk, as⟩) (g' := ⟨Fz, A.Lk, as⟩) (fun _ _ q => q) List.prefix_rfl r1 (ag (by omega))
    obtain ⟨fp', rp, zp⟩ := k (g' := ⟨Fz, A.Lk, as⟩) (H' := H) (fun _ _ q => q) List.prefix_rfl (ag (by omega)) (Rp.own (fp := fun b => fk b + one a b) q hn r1' fun _ => rfl)
    rw [set_get_self hw] at rp
    refine ⟨fun p hp => fx p (List.mem_cons_of_mem _ hp), Fz, fun b => fp' b + fT b + fS b, evs, fp', fT, fS, ⟨fun j y ey => ?_, by simpa using C.sl, rp, Rps.mono (g := ⟨Fz, (A.lock i a vs).Lk, as⟩) (g' := ⟨Fz, A.Lk, as⟩) (fun _ _ q => q) List.prefix_rfl C.rT (ag (by omega)), Objs.mono (g := ⟨Fz, (A.lock i a vs).Lk, as⟩) (g' := ⟨Fz, A.Lk, as⟩) (fun _ _ q => q) List.prefix_rfl C.rS (ag (by omega)), fun _ => rfl⟩, ⟨S.fzH, S.fz0, fun b o e => ?_, S.as0, fun b => ?_, fun b hb => S.nfz b ?_, fun b hb => S.own b ?_, S.kp, S.fzo⟩⟩
    · by_cases hj : i = j
      · subst hj; exact .inr ⟨_, hw, hσ⟩
      · rw [List.getElem?_set_ne hj] at ey; exact C.env j y ey
    · refine S.lkH b o ?_
      show upd A.Lk a (.lst vs) b = _
      rw [upd_ne (by rintro rfl; rw [hn] at e; cases e)]; exact e
    · have := S.uno b; have := C.sum b; have := z b; have := z1 b; have := zp b; omega
    · have := C.sum b; have := z b; have := z1 b; have := zp b; omega
    · have := C.sum b; have := z b; have := z1 b; have := zp b; omega
end
end VS
/-! What the rules of the hand layer ask is what the core's meaning gives. -/
namespace VS
open PySem L2

/-- the fixed things of a law -/
structure Kit where
  K : PySem.W.Frag
  T : Nat → Addr
  exV : Nat → Value
section
variable (κ : Kit)
abbrev KRel (κ : Kit) := Rel κ.K κ.T
abbrev KTms (κ : Kit) := TmsR κ.K κ.T
/-- what is wished where an error leaves -/
def Under (ts : List V) (tds : List D) (ts' : List V) (tds' : List D) : Prop := ∃ p pd, p.length = pd.length ∧ ts' = p ++ ts ∧ tds' = pd ++ tds
def RunX (A : Act) (σ : St) (ts : List V) (tds : List D) (W : WX) (c : Nat) (ps : List D) (s' : Sx) : Prop :=
  ps = [] ∧ ∀ H' as' ts' tds', Under ts tds ts' tds' → KRel κ A as' σ ts' H' s' tds' → W (κ.exV c) none σ H'
def RunE (A : Act) (σ : St) (ts : List V) (tds : List D) (H0 : Hp) (as0 : List Addr) (q : Bool) (W : WX) (Q : VK) : Out Tm → Prop
  | .ok t s' => ∀ v H' as', as0 <+: as' → (q = true → Ext H0 H') → KTms κ A as' σ ts H' s' tds [] [] [(t, v)] → Q v H'
  | .exc c ps s' => RunX κ A σ ts tds W c ps s'
  | .fail => False
def tE (W : WX) (q : Bool) (m : M Tm) : TE := fun σ H Q => ∃ A as ts tds s, KRel κ A as σ ts H s tds ∧ RunE κ A σ ts tds H as q W Q (m s)
def RunB (A : Act) (σ : St) (ts : List V) (tds : List D) (H0 : Hp) (as0 : List Addr) (q : Bool) (W : WX) (Q : Bool → Hp → Prop) : Out Bool → Prop
  | .ok b s' => ∀ H' as', as0 <+: as' → (q = true → Ext H0 H') → KRel κ A as' σ ts H' s' tds → Q b H'
  | .exc c ps s' => RunX κ A σ ts tds W c ps s'
  | .fail => False
def tT (W : WX) (q : Bool) (m : M Bool) : TT := fun σ H Q => ∃ A as ts tds s, KRel κ A as σ ts H s tds ∧ RunB κ A σ ts tds H as q W Q (m s)
def rz : List Tm → List V → List (Tm × V) → List (Tm × V)
  | t :: ts, v :: vs, L => rz ts vs ((t, v) :: L)
  | _, _, L => L
def RunL (A : Act) (σ : St) (ts : List V) (tds : List D) (L : List (Tm × V)) (H0 : Hp) (as0 : List Addr) (q : Bool) (W : WX) (Q : List V → Hp → Prop) : Out (List Tm) → Prop
  | .ok tms s' => ∀ vs H' as', tms.length = vs.length → as0 <+: as' → (q = true → Ext H0 H') → KTms κ A as' σ ts H' s' tds [] [] (rz tms vs L) → Q vs H'
  | .exc c ps s' => RunX κ A σ ts tds W c ps s'
  | .fail => False
/-- operands from the left -/
def tLs (W : WX) (ev : CE → M Tm) : List CE → TA
  | [] => tNil
  | e :: es => tCons (tE κ W (quiet e) (ev e)) (tLs W ev es)
end
section
variable {κ : Kit} {A : Act} {σ : St} {ts : List V} {tds : List D} {as : List Addr} {H : Hp} {s : Sx} {W : WX}
theorem sVD_len : ∀ L : List (Tm × V), (sV L).length = (sD L).length
  | [] => rfl
  | (.val _, _) :: r => congrArg (· + 1) (sVD_len r)
  | (.at _, _) :: r => sVD_len r
theorem Under.refl : Under ts tds ts tds := ⟨[], [], rfl, rfl, rfl⟩
theorem Under.add {ts' : List V} {tds' : List D} {p : List V} {pd : List D} (hl : p.length = pd.length) (h : Under (p ++ ts) (pd ++ tds) ts' tds') : Under ts tds ts' tds' := by
  obtain ⟨q, qd, h1, rfl, rfl⟩ := h
  exact ⟨q ++ p, qd ++ pd, by simp [h1, hl], by simp, by simp⟩
theorem RunX.up {c : Nat} {ps : List D} {s' : Sx} {p : List V} {pd : List D} (h : RunX κ A σ ts tds W c ps s') (hl : p.length = pd.length) : RunX κ A σ (p ++ ts) (pd ++ tds) W c ps s' := ⟨h.1, fun H' as' ts' tds' u R => h.2 H' as' ts' tds' (u.add hl) R⟩
theorem keepAt {L : List (Tm × V)} {es : List CE} {e : CE} {H' : Hp} {as' : List Addr} (hs : ∀ t v, (t, v) ∈ L → plainTm t = true ∨ quietL (e :: es) = true) (hA : as <+: as') (hx : quiet e = true → Ext H H') (h : ∀ p v, (Tm.at p, v) ∈ L → AtP as σ H p v) : ∀ p v, (Tm.at p, v) ∈ L → AtP as' σ H' p v := fun p v hm => by
  rcases hs _ _ hm with q | q
  · obtain ⟨v0, r, a⟩ := h p v hm
    obtain ⟨root, acc⟩ := p
    cases root with
    | fld n f => cases acc <;> simp [plainTm] at q
    | loc i =>
      cases acc with
      | cons x xs => simp [plainTm] at q
      | nil => cases a; exact ⟨_, r, .nil⟩
  · simp only [quietL, Bool.and_eq_true] at q
    exact (h p v hm).ext hA (hx q.1)
theorem tLs_of {ev : CE → M Tm} : ∀ (es : List CE) {L : List (Tm × V)} {as : List Addr} {H : Hp} {s : Sx} {Q : List V → Hp → Prop}, KTms κ A as σ ts H s tds [] [] L → (∀ t v, (t, v) ∈ L → plainTm t = true ∨ quietL es = true) →
    RunL κ A σ ts tds L H as (quietL es) W Q (evalL ev es s) → tLs κ W ev es σ H Q
  | [], L, as, H, s, Q, R, hs, h => by
    have h : RunL κ A σ ts tds L H as true W Q (.ok [] s) := h
    exact h [] H as rfl List.prefix_rfl (fun _ => Ext.refl) R
  | e :: es, L, as, H, s, Q, R, hs, h => by
    refine ⟨A, as, sV L ++ ts, sD L ++ tds, s, R.2.1, ?_⟩
    have h : RunL κ A σ ts tds L H as (quietL (e :: es)) W Q (M.bind (ev e) (fun t => M.bind (stays t es) fun _ => M.bind (evalL ev es) fun ts => pure (t :: ts)) s) := h
    unfold M.bind at h
    cases e1 : ev e s with
    | fail => rw [e1] at h; exact h
    | exc c ps s1 => rw [e1] at h; exact RunX.up h (sVD_len L)
    | ok t s1 =>
      rw [e1] at h
      intro v H1 as1 hA hx R1
      dsimp only at h
      by_cases hst : (plainTm t || quietL es) = true
      · have es1 : stays t es s1 = .ok () s1 := by unfold stays need; rw [hst]; rfl
        rw [es1] at h
        dsimp only at h
        have R2 : KTms κ A as1 σ ts H1 s1 tds [] [] ((t, v) :: L) := by
          obtain ⟨_, r1, a1⟩ := R1
          refine ⟨rfl, ?_, fun p w hm => ?_⟩
          · cases t with
            | val d => exact r1
            | «at» p => exact r1
          · rcases List.mem_cons.mp hm with q | q
            · cases q; exact a1 p v List.mem_cons_self
            · exact keepAt hs hA hx R.2.2 p w q
        refine tLs_of es R2 (fun t' v' hm => ?_) ?_
        · rcases List.mem_cons.mp hm with q | q
          · cases q
            simpa using hst
          · rcases hs _ _ q with q | q
            · exact .inl q
            · simp only [quietL, Bool.and_eq_true] at q; exact .inr q.2
        · cases e2 : evalL ev es s1 with
          | fail => rw [e2] at h; exact h
          | exc c ps s2 => rw [e2] at h; exact h
          | ok tms s2 =>
            rw [e2] at h
            have h : RunL κ A σ ts tds L H as (quietL (e :: es)) W Q (.ok (t :: tms) s2) := h
            intro vs H2 as2 hl hA2 hx2 R3
            refine h (v :: vs) H2 as2 (by simp [hl]) (hA.trans hA2) (fun q => ?_) R3
            simp only [quietL, Bool.and_eq_true] at q
            exact (hx q.1).trans (hx2 q.2)
      · have es1 : stays t es s1 = .fail := by unfold stays need; rw [if_neg hst]; rfl
        rw [es1] at h
        exact h.elim
/-- operands, then what is made of them -/
theorem tLs_bind {ev : CE → M Tm} {es : List CE} {k : List Tm → M Tm} {q : Bool} {Q : VK} {Q' : List V → Hp → Prop} (h : tE κ W q ((evalL ev es).bind k) σ H Q)
    (hk : ∀ {A as ts tds tms s1 vs H1 as1}, tms.length = vs.length → as <+: as1 → (quietL es = true → Ext H H1) → KTms κ A as1 σ ts H1 s1 tds [] [] (rz tms vs []) → RunE κ A σ ts tds H as q W Q (k tms s1) → tms.length = es.length → Q' vs H1) : tLs κ W ev es σ H Q' := by
  obtain ⟨A, as, ts, tds, s, R, h⟩ := h
  have len : ∀ (es : List CE) (s : Sx) {tms s1}, evalL ev es s = .ok tms s1 → tms.length = es.length := by
    intro es
    induction es with
    | nil => intro s tms s1 e; cases e; rfl
    | cons x xs ih =>
      intro s tms s1 e
      have e : (do let t ← ev x; stays t xs; let ts ← evalL ev xs; pure (t :: ts)) s = Out.ok tms s1 := e
      simp only [ok_bind, ok_pure] at e
      obtain ⟨t, s2, _, _, s3, _, ts', s4, e4, rfl, rfl⟩ := e
      simp [ih _ e4]
  refine tLs_of es (A := A) (as := as) (s := s) (L := []) (ts := ts) (tds := tds) ⟨rfl, R, fun _ _ hm => absurd hm (by simp)⟩ (fun _ _ hm => absurd hm (by simp)) ?_
  unfold M.bind at h
  cases e1 : evalL ev es s with
  | fail => rw [e1] at h; exact h
  | exc c ps s1 => rw [e1] at h; exact h
  | ok tms s1 =>
    rw [e1] at h
    intro vs H1 as1 hl hA hx R1
    exact hk hl hA hx R1 h (len es s e1)
end
/-- a reading that asks more -/
theorem _root_.L2.PE.mono {X : Cx} {e : Expr} {t t' : TE} (h : PE X e t) (hi : ∀ σ H Q, t' σ H Q → t σ H Q) : PE X e t' := ⟨fun pins s σ H Q I q => h.run pins s σ H Q I (hi σ H Q q)⟩
theorem _root_.L2.PT.mono {X : Cx} {e : Expr} {t t' : TT} (h : PT X e t) (hi : ∀ σ H Q, t' σ H Q → t σ H Q) : PT X e t' := ⟨fun pins s σ H Q I q => h.run pins s σ H Q I (hi σ H Q q)⟩
theorem _root_.L2.PW.mono {X : Cx} {e : Expr} {t t' : TT} (h : PW X e t) (hi : ∀ σ H Q, t' σ H Q → t σ H Q) : PW X e t' := ⟨fun w pins s σ H Q I q => h.run w pins s σ H Q I (hi σ H Q q)⟩
theorem _root_.L2.PE.or {X : Cx} {e : Expr} {t t' : TE} (h : PE X e t) (h' : PE X e t') : PE X e (fun σ H Q => t σ H Q ∨ t' σ H Q) := ⟨fun pins s σ H Q I q => q.elim (h.run pins s σ H Q I) (h'.run pins s σ H Q I)⟩
theorem _root_.L2.PS.mono {X : Cx} {e : Stmt} {t t' : TS} (h : PS X e t) (hi : ∀ D σ H, t' D σ H → t D σ H) : PS X e t' := ⟨fun pins s σ H D I q => h.run pins s σ H D I (hi D σ H q)⟩
theorem _root_.L2.PSs.mono {X : Cx} {e : List Stmt} {t t' : TS} (h : PSs X e t) (hi : ∀ D σ H, t' D σ H → t D σ H) : PSs X e t' := ⟨fun pins s σ H D I q => h.run pins s σ H D I (hi D σ H q)⟩
theorem _root_.L2.PS.or {X : Cx} {e : Stmt} {t t' : TS} (h : PS X e t) (h' : PS X e t') : PS X e (fun D σ H => t D σ H ∨ t' D σ H) := ⟨fun pins s σ H D I q => q.elim (h.run pins s σ H D I) (h'.run pins s σ H D I)⟩
end VS
/-! Operators. -/
namespace VS
open PySem L2

/-- no error comes out of it -/
def NoEx {α : Type} (m : M α) : Prop := ∀ s c ps s', m s ≠ .exc c ps s'
section
variable {α β : Type}
theorem NoEx.bind {m : M α} {f : α → M β} (h : NoEx m) (h' : ∀ a, NoEx (f a)) : NoEx (m >>= f) := fun s c ps s' e => by
  rcases ex_bind.mp e with e | ⟨a, s1, _, e⟩
  · exact h _ _ _ _ e
  · exact h' _ _ _ _ _ e
theorem NoEx.bind' {m : M α} {f : α → M β} (h : NoEx m) (h' : ∀ a, NoEx (f a)) : NoEx (m.bind f) := NoEx.bind h h'
theorem NoEx.pure {a : α} : NoEx (Pure.pure a : M α) := fun _ _ _ _ e => ex_pure.mp e
theorem NoEx.fail : NoEx (VS.fail : M α) := fun _ _ _ _ e => ex_fail.mp e
theorem NoEx.opt {o : Option α} : NoEx (VS.opt o) := fun _ _ _ _ e => ex_opt.mp e
theorem NoEx.need {b : Bool} : NoEx (VS.need b) := fun _ _ _ _ e => ex_need.mp e
theorem NoEx.deref {t : Tm} : NoEx (VS.deref t) := fun _ _ _ _ e => ex_deref.mp e
theorem NoEx.putAt {p : Path} {d : D} : NoEx (VS.putAt p d) := fun _ _ _ _ e => ex_putAt.mp e
theorem NoEx.ite {c : Prop} [Decidable c] {m m' : M α} (h : NoEx m) (h' : NoEx m') : NoEx (if c then m else m') := by
  by_cases q : c
  · rw [if_pos q]; exact h
  · rw [if_neg q]; exact h'
theorem NoEx.escape {t : Tm} : NoEx (VS.escape t) := by
  cases t with
  | val d => exact .pure
  | «at» p => exact .bind .deref fun d => .ite .pure (.ite (.bind .putAt fun _ => .pure) .fail)
theorem NoEx.kidsOf {t : Tm} : NoEx (VS.kidsOf t) := by
  refine .bind .deref fun d => ?_
  cases t <;> cases d <;> first | exact .pure | exact .fail | exact .ite .pure (.ite (.bind .putAt fun _ => .pure) .fail)
theorem NoEx.kidsTr {t : Tm} : NoEx (VS.kidsTr t) := by
  refine .bind .deref fun d => ?_
  cases d <;> first | exact .fail | exact .bind .need fun _ => .kidsOf
theorem NoEx.kidsTp {t : Tm} : NoEx (VS.kidsTp t) := by
  refine .bind .deref fun d => ?_
  cases d <;> first | exact .fail | exact .kidsOf
theorem NoEx.derefL : ∀ {ts : List Tm}, NoEx (VS.derefL ts)
  | [] => .pure
  | t :: ts => .bind .deref fun _ => .bind NoEx.derefL fun _ => .pure
theorem NoEx.escL : ∀ {ts : List Tm}, NoEx (VS.escL ts)
  | [] => .pure
  | t :: ts => .bind NoEx.escL fun _ => .bind .escape fun _ => .pure
theorem NoEx.kidsL : ∀ {ts : List Tm}, NoEx (VS.kidsL ts)
  | [] => .pure
  | t :: ts => .bind NoEx.kidsL fun _ => .bind .kidsOf fun _ => .pure
theorem NoEx.escV {t : Tm} : NoEx (VS.escV t) := .bind .escape fun _ => .pure
theorem NoEx.catTup {a b : Tm} : NoEx (VS.catTup a b) := .bind .kidsTp fun _ => .bind .kidsTp fun _ => .pure
theorem NoEx.binT {op : Bop} {a b : Tm} : NoEx (VS.binT op a b) := by
  refine .bind .deref fun y => .bind .deref fun x => ?_
  cases x <;> cases y <;> first
    | exact .fail
    | exact .bind .opt fun _ => .pure
    | exact .bind .need fun _ => .pure
    | exact .bind .need fun _ => .bind .kidsTr fun _ => .bind .kidsTr fun _ => .bind .need fun _ => .pure
    | exact .bind .need fun _ => .ite .escV (.ite .escV .catTup)
    | exact .bind .need fun _ => .bind .kidsTr fun _ => .bind .need fun _ => .pure
end

section
variable {κ : Kit} {A : Act} {σ : St} {ts : List V} {tds : List D} {as as0 : List Addr} {H H0 : Hp} {s : Sx} {W : WX} {q : Bool} {Q : VK}
/-- where no error comes: how it ends -/
theorem RunE.ok {m : M Tm} (n : NoEx m) (h : RunE κ A σ ts tds H0 as0 q W Q (m s)) : ∃ t s', m s = .ok t s' ∧ ∀ v H' as', as0 <+: as' → (q = true → Ext H0 H') → KTms κ A as' σ ts H' s' tds [] [] [(t, v)] → Q v H' := by
  cases e : m s with
  | ok t s' => rw [e] at h; exact ⟨t, s', rfl, h⟩
  | exc c ps s' => exact (n _ _ _ _ e).elim
  | fail => rw [e] at h; exact h.elim
theorem TmsR.one {d : D} {v : V} (R : KRel κ A as σ (v :: ts) H s (d :: tds)) : KTms κ A as σ ts H s tds [] [] [(.val d, v)] := ⟨rfl, R, fun p w h => by simp at h⟩
theorem KRel.int (R : KRel κ A as σ ts H s tds) (i : Int) : KTms κ A as σ ts H s tds [] [] [(.val (.int i), .int i)] := TmsR.one (R.scal fun g _ => .int fun _ => rfl)
theorem KRel.bl (R : KRel κ A as σ ts H s tds) (i : Bool) : KTms κ A as σ ts H s tds [] [] [(.val (.bl i), .bl i)] := TmsR.one (R.scal fun g _ => .bl fun _ => rfl)
theorem KRel.str (R : KRel κ A as σ ts H s tds) (i : Str) : KTms κ A as σ ts H s tds [] [] [(.val (.str i), .str i)] := TmsR.one (R.scal fun g _ => .str fun _ => rfl)
theorem KRel.non (R : KRel κ A as σ ts H s tds) : KTms κ A as σ ts H s tds [] [] [(.val .non, .non)] := TmsR.one (R.scal fun g _ => .non fun _ => rfl)

/-! ### + - * // % ** | -/
def bopE : Bop → Operator
  | .add => .Add | .sub => .Sub | .mul => .Mult | .fdiv => .FloorDiv | .mod => .Mod | .pow => .Pow | .bor => .BitOr
def rAddS : R2 := fun x y H Q => ∃ i j, x = .str i ∧ y = .str j ∧ i.length + j.length ≤ sizeLine ∧ Q (.str (i ++ j)) H
def rMulS : R2 := fun x y H Q => ∃ (i : Str) (n : Int), x = .str i ∧ y = .int n ∧ (-(2 ^ 63) ≤ n ∧ n < 2 ^ 63) ∧ i.length * n.toNat ≤ sizeLine ∧ Q (.str (strMul i n)) H
def rBin (K : PySem.W.Frag) : Bop → R2
  | .add => fun x y H Q => rI0 (fun i j => .int (i + j)) x y H Q ∨ rAddS x y H Q ∨ rCat x y H Q ∨ rCatA K x y H Q
  | .sub => rI0 fun i j => .int (i - j)
  | .mul => fun x y H Q => rI CMul (fun i j => .int (i * j)) x y H Q ∨ rRep x y H Q ∨ rMulS x y H Q
  | .fdiv => rI CDiv fun i j => .int (i / j)
  | .mod => rI (fun _ j => 0 < j) fun i j => .int (i % j)
  | .pow => rI CPow fun i j => .int (i ^ j.toNat)
  | .bor => rI0 fun i j => .int (Builtin.bitOr i j)
theorem op_mulS {X : Cx} : OpR X (binaryOp .Mult) rMulS := by
  intro pins s σ H x y v u Q I rx ry h
  obtain ⟨i, n, rfl, rfl, ⟨h1, h2⟩, hz, q⟩ := h
  obtain ⟨t, rfl⟩ := rx
  obtain ⟨t', rfl⟩ := ry
  have hs : (sizeLine : Nat) < 2 ^ 62 := by rw [sizeLine_eq]; decide
  refine PySem.SB.mul ⟨?_, fun a _ => ?_, fun a _ => ?_⟩ fun t2 k => ⟨.str _, H, I.tok _, ⟨t2, rfl⟩, q⟩
  · have e1 : ¬ n < -(2 ^ 63 : Int) := by omega
    have e2 : ¬ n ≥ 2 ^ 63 := by omega
    rw [decide_eq_false e1, decide_eq_false e2]; rfl
  · have hn : 0 < n := by omega
    have : (i.length : Int) * n ≤ 2 ^ 62 := by
      have e : ((i.length * n.toNat : Nat) : Int) = (i.length : Int) * n := by
        rw [Int.natCast_mul, Int.toNat_of_nonneg (by omega)]
      rw [← e]; omega
    have h3 : (i.length : Int) ≤ (2 ^ 63 - 1) / n := (Int.le_ediv_iff_mul_le hn).mpr (by omega)
    omega
  · unfold Builtin.Str.tooLong; exact decide_eq_false (by omega)
theorem op_bin {X : Cx} : ∀ op : Bop, OpR X (binaryOp (bopE op)) (rBin X.K op)
  | .add => op_add.or (op_add_str.or (op_cat.or op_catA))
  | .sub => op_sub
  | .mul => op_mul.or (op_rep.or op_mulS)
  | .fdiv => op_fdiv
  | .mod => op_mod
  | .pow => op_pow
  | .bor => op_or

theorem strMul_eq {x : Str} {n : Int} : strMul x n = Txt.mul x n := rfl
theorem bin_ok (op : Bop) {t1 t2 : Tm} {v1 v2 : V} (R : KTms κ A as σ ts H s tds [] [] [(t2, v2), (t1, v1)]) (h : RunE κ A σ ts tds H0 as0 q W Q (binT op t1 t2 s)) (hA : as0 <+: as) (hx : q = true → Ext H0 H) : rBin κ.K op v1 v2 H Q := by
  obtain ⟨t, s', e, k⟩ := h.ok NoEx.binT
  simp only [binT, ok_bind] at e
  obtain ⟨b, s1, e2, a, s2, e1, e⟩ := e
  obtain ⟨rfl, w2⟩ := R.view (t := t2) (v := v2) (by simp) e2
  obtain ⟨rfl, w1⟩ := R.view (t := t1) (v := v1) (by simp) e1
  have new : ∀ {p : Addr} {o : HO}, H p = none → (q = true → Ext H0 (upd H p o)) := fun hp hq => (hx hq).trans (Ext.upd hp)
  cases a with
  | int i =>
    cases b with
    | int j =>
      cases w1; cases w2
      simp only [ok_bind, ok_opt, ok_pure] at e
      obtain ⟨n, s3, ⟨hn, rfl⟩, rfl, rfl⟩ := e
      have fin : Q (.int n) H := k _ _ _ hA hx (KRel.int R.dropAll n)
      cases op with
      | add => cases hn; exact .inl ⟨_, _, rfl, rfl, fin⟩
      | sub => cases hn; exact ⟨_, _, rfl, rfl, fin⟩
      | bor => cases hn; exact ⟨_, _, rfl, rfl, fin⟩
      | mul =>
        simp only [intOp] at hn
        split at hn
        · cases hn; rename_i hc; exact .inl ⟨_, _, rfl, rfl, hc, fin⟩
        · cases hn
      | fdiv =>
        simp only [intOp] at hn
        split at hn
        · cases hn; rename_i hc; exact ⟨_, _, rfl, rfl, hc, fin⟩
        · cases hn
      | mod =>
        simp only [intOp] at hn
        split at hn
        · cases hn; rename_i hc; exact ⟨_, _, rfl, rfl, hc, fin⟩
        · cases hn
      | pow =>
        simp only [intOp] at hn
        split at hn
        · cases hn; rename_i hc; exact ⟨_, _, rfl, rfl, hc, fin⟩
        · cases hn
    | _ => simp only [ok_fail] at e
  | str x =>
    cases b with
    | str y =>
      cases w1; cases w2
      simp only [ok_bind, ok_need, ok_pure, Bool.and_eq_true, decide_eq_true_eq, fits] at e
      obtain ⟨_, s3, ⟨⟨rfl, hz⟩, rfl⟩, rfl, rfl⟩ := e
      exact .inr (.inl ⟨_, _, rfl, rfl, hz, k _ _ _ hA hx (KRel.str R.dropAll _)⟩)
    | int n =>
      cases w1; cases w2
      simp only [ok_bind, ok_need, ok_pure, Bool.and_eq_true, decide_eq_true_eq, fits] at e
      obtain ⟨_, s3, ⟨⟨⟨rfl, hn⟩, hz⟩, rfl⟩, rfl, rfl⟩ := e
      exact .inr (.inr ⟨_, _, rfl, rfl, hn, hz, k _ _ _ hA hx (KRel.str R.dropAll _)⟩)
    | _ => simp only [ok_fail] at e
  | lst o xs =>
    cases b with
    | lst o2 ys =>
      simp only [ok_bind, ok_need, ok_pure, Bool.and_eq_true, decide_eq_true_eq, fits] at e
      obtain ⟨_, s3, ⟨rfl, rfl⟩, ys', s4, ey, xs', s5, ex, _, s6, ⟨hz, rfl⟩, rfl, rfl⟩ := e
      obtain ⟨a2, vs2, rfl, q2, l2, R2⟩ := R.kidsTr ey
      obtain ⟨a1, vs1, rfl, q1, l1, R1⟩ := R2.kidsTr ex
      have R0 := R1.nil
      rw [List.append_nil, List.append_nil] at R0
      exact .inr (.inr (.inl ⟨_, _, _, _, rfl, rfl, q1, q2, by omega, fun p hp => k _ _ _ hA (new hp) (TmsR.one (Rel.alloc_lst (by simp [l1, l2]) R0 hp))⟩))
    | int n =>
      simp only [ok_bind, ok_need, ok_pure, Bool.and_eq_true, decide_eq_true_eq, fits] at e
      obtain ⟨_, s3, ⟨⟨rfl, hn⟩, rfl⟩, xs', s4, ex, _, s5, ⟨⟨hf, hz⟩, rfl⟩, rfl, rfl⟩ := e
      cases w2
      have R' := TmsR.swap R
      obtain ⟨a1, vs1, rfl, q1, l1, R1⟩ := R'.kidsTr ex
      have R0 := R1.dropAll
      rw [List.append_nil, List.append_nil] at R0
      have R2 := Rel.frzT l1 hf R0 (fun l => (List.replicate n.toNat l).flatten) (fun l => (List.replicate n.toNat l).flatten) fun g r => r.rep _
      exact .inr (.inl ⟨_, _, _, rfl, rfl, q1, hn.1, hn.2, by rw [← l1]; exact hz, fun p hp => k _ _ _ hA (new hp) (TmsR.one (Rel.alloc_lst (by simp [frzL_len, l1]) R2 hp))⟩)
    | _ => simp only [ok_fail] at e
  | tup xs =>
    cases b with
    | tup ys =>
      simp only [ok_bind, ok_need, ok_ite, Bool.and_eq_true, decide_eq_true_eq, fits, escV, catTup, ok_pure] at e
      obtain ⟨_, s3, ⟨⟨rfl, hz⟩, rfl⟩, e⟩ := e
      cases w1 with
      | tup q1 vv1 =>
        cases w2 with
        | tup q2 vv2 =>
          have n1 := vv1.len
          have n2 := vv2.len
          refine .inr (.inr (.inr ⟨_, _, _, _, rfl, rfl, .of q1, .of q2, by omega, ?_⟩))
          rcases e with ⟨hx0, d, s4, ed, rfl, rfl⟩ | ⟨hx0, ⟨hy0, d, s4, ed, rfl, rfl⟩ | ⟨hy0, ys', s4, ey, xs', s5, ex, rfl, rfl⟩⟩
          · have hx0 : xs = [] := by simpa using hx0
            subst hx0
            have hv : _ = [] := List.length_eq_zero_iff.mp n1.symm
            refine ⟨fun _ => ?_, fun h => absurd hv h, fun h => absurd hv h⟩
            exact k _ _ _ hA hx (TmsR.one ((R.esc ed).dropAll))
          · have hx0 : xs ≠ [] := by simpa using hx0
            have hy0 : ys = [] := by simpa using hy0
            subst hy0
            have hv : _ = [] := List.length_eq_zero_iff.mp n2.symm
            have hv1 : ¬ _ = [] := fun h => hx0 (List.length_eq_zero_iff.mp (n1.trans (List.length_eq_zero_iff.mpr h)))
            refine ⟨fun h => absurd h hv1, fun _ _ => ?_, fun _ h => absurd hv h⟩
            exact k _ _ _ hA hx (TmsR.one ((TmsR.swap R).esc ed).dropAll)
          · have hx0 : xs ≠ [] := by simpa using hx0
            have hy0 : ys ≠ [] := by simpa using hy0
            have hv1 : ¬ _ = [] := fun h => hx0 (List.length_eq_zero_iff.mp (n1.trans (List.length_eq_zero_iff.mpr h)))
            have hv2 : ¬ _ = [] := fun h => hy0 (List.length_eq_zero_iff.mp (n2.trans (List.length_eq_zero_iff.mpr h)))
            refine ⟨fun h => absurd h hv1, fun _ h => absurd h hv2, fun _ _ p hp => ?_⟩
            obtain ⟨a2, us2, r2, g2, l2, R2⟩ := R.kidsTp ey
            obtain ⟨a1, us1, r1, g1, l1, R1⟩ := R2.kidsTp ex
            cases r2; cases r1
            rw [q2] at g2; cases g2
            rw [q1] at g1; cases g1
            have R0 := R1.nil
            rw [List.append_nil, List.append_nil] at R0
            exact k _ _ _ hA (new hp) (TmsR.one (Rel.alloc_tup (by simp [l1, l2]) R0 hp))
    | _ => simp only [ok_fail] at e
  | _ => simp only [ok_fail] at e

/-! ### comparisons -/
def copE : Cop → CmpOp
  | .eq => .Eq | .ne => .NotEq | .lt => .Lt | .le => .LtE | .gt => .Gt | .ge => .GtE | .isin => .In | .notin => .NotIn
def rInS : R2 := fun x y H Q => ∃ i j, x = .str i ∧ y = .str j ∧ Q (.bl (strIn i j)) H
def rNotInS : R2 := fun x y H Q => ∃ i j, x = .str i ∧ y = .str j ∧ Q (.bl (!strIn i j)) H
def rDIn : R2 := fun x y H Q => ∃ a o, y = .ref a ∧ DGet H a x o ∧ Q (.bl o.isSome) H
def rDNotIn : R2 := fun x y H Q => ∃ a o, y = .ref a ∧ DGet H a x o ∧ Q (.bl (!o.isSome)) H
theorem op_in_dict {X : Cx} (hu : X.A.units + 1 < cLine) : OpR X (compareOp .In) rDIn := by
  intro pins s σ H x y v u Q I rx ry h
  obtain ⟨a, o, rfl, g, q⟩ := h
  cases ry
  exact d_in hu I g rx fun s' I' => ⟨.bl o.isSome, H, I', rfl, q⟩
theorem op_notin_dict {X : Cx} (hu : X.A.units + 1 < cLine) : OpR X (compareOp .NotIn) rDNotIn := by
  intro pins s σ H x y v u Q I rx ry h
  obtain ⟨a, o, rfl, g, q⟩ := h
  cases ry
  exact d_notIn hu I g rx fun s' I' => ⟨.bl (!o.isSome), H, I', rfl, q⟩
theorem valV_zip {k : Key} : ∀ {ks : List Key} {vs : List V}, ks.length = vs.length → valV (ks.zip vs) k = (findK ks k).bind fun j => vs[j]?
  | [], _, _ => rfl
  | _ :: _, [], h => by cases h
  | k' :: ks, v :: vs, h => by
    have ih := valV_zip (k := k) (ks := ks) (vs := vs) (by simpa using h)
    by_cases hk : k' = k
    · subst hk
      rw [List.zip_cons_cons, valV_pos rfl]
      simp [findK]
    · rw [List.zip_cons_cons, valV_neg hk, ih]
      simp only [findK, if_neg hk]
      cases findK ks k <;> rfl
def rCmp (K : PySem.W.Frag) : Cop → R2
  | .eq => rEqD K
  | .ne => rNeD K
  | .lt => rI0 fun i j => .bl (decide (i < j))
  | .le => rI0 fun i j => .bl (decide (i ≤ j))
  | .gt => rI0 fun i j => .bl (decide (j < i))
  | .ge => rI0 fun i j => .bl (decide (j ≤ i))
  | .isin => fun x y H Q => rInS x y H Q ∨ rInD K x y H Q ∨ rIn K false x y H Q ∨ rDIn x y H Q
  | .notin => fun x y H Q => rNotInS x y H Q ∨ rNotInD K x y H Q ∨ rIn K true x y H Q ∨ rDNotIn x y H Q
theorem op_cmp {X : Cx} (hu : X.A.units + 65 < cLine) : ∀ op : Cop, OpR X (compareOp (copE op)) (rCmp X.K op)
  | .eq => op_eqD (by omega)
  | .ne => op_neD (by omega)
  | .lt => op_lt
  | .le => op_le
  | .gt => op_gt
  | .ge => op_ge
  | .isin => OpR.or (r := rInS) op_in_str ((op_inD hu).or (op_in_seq.or (op_in_dict (by omega))))
  | .notin => OpR.or (r := rNotInS) op_notin_str ((op_notInD hu).or (op_notIn_seq.or (op_notin_dict (by omega))))
theorem NoEx.cmpT {op : Cop} {a b : Tm} : NoEx (VS.cmpT op a b) := .bind .deref fun _ => .bind .deref fun _ => .bind .opt fun _ => .pure
theorem Vw.flat {K : PySem.W.Frag} {d : D} {v : V} (h : Vw K as H d v) (f : flatD d = true) : flatV v = true := by
  cases h <;> first | rfl | simp [flatD] at f
theorem Vw.eqF {K : PySem.W.Frag} {d e : D} {v u : V} (h : Vw K as H d v) (h' : Vw K as H e u) (f : flatD d = true) (f' : flatD e = true) : eqV v u = VS.eqF d e := by
  cases h <;> first | (simp [flatD] at f; done) | (cases h' <;> first | (simp [flatD] at f'; done) | rfl)
theorem Vws.flat {K : PySem.W.Frag} : ∀ {ds : List D} {vs : List V}, Vws K as H ds vs → ds.all flatD = true → vs.all flatV = true
  | _, _, .nil, _ => rfl
  | _, _, .cons r rs, f => by
    simp only [List.all_cons, Bool.and_eq_true] at f ⊢
    exact ⟨r.flat f.1, rs.flat f.2⟩
theorem Vws.anyF {K : PySem.W.Frag} {e : D} {u : V} (h' : Vw K as H e u) (f' : flatD e = true) : ∀ {ds : List D} {vs : List V}, Vws K as H ds vs → ds.all flatD = true → inV u vs = ds.any fun y => VS.eqF y e
  | _, _, .nil, _ => rfl
  | _, _, .cons r rs, f => by
    simp only [List.all_cons, Bool.and_eq_true] at f
    have ih := Vws.anyF h' f' rs f.2
    unfold inV at ih ⊢
    simp only [List.any_cons, ih, r.eqF h' f.1 f']
theorem cmpD_ok (op : Cop) {a b : D} {v1 v2 : V} {r : Bool} (w1 : Vw κ.K as H a v1) (w2 : Vw κ.K as H b v2) (h : cmpD op a b = some r) (hd' : ∀ o ks ds, b ≠ .dT o ks ds) (hQ : Q (.bl r) H) : rCmp κ.K op v1 v2 H Q := by
  have eqc : ∀ {r}, eqD a b = some r → ∃ x y, Dp κ.K H v1 x ∧ Dp κ.K H v2 y ∧ SeqAt.shaped x = true ∧ SeqAt.shaped y = true ∧ r = PyData.eqv x y := fun {r} h => by
    unfold eqD at h
    split at h
    · rename_i x y h1 h2
      split at h
      · rename_i hs
        simp only [Bool.and_eq_true] at hs
        cases h
        exact ⟨x, y, w1.dp h1, w2.dp h2, hs.1, hs.2, rfl⟩
      · cases h
    · cases h
  have inc : ∀ {r}, isInD a b = some r → (∃ i j, v1 = .str i ∧ v2 = .str j ∧ r = strIn i j) ∨ (∃ d ds, Dp κ.K H v1 d ∧ Dp κ.K H v2 (.list ds) ∧ SeqAt.shaped d = true ∧ SeqAt.shaped (.list ds) = true ∧ r = ds.any fun z => PyData.eqv z d) ∨
      (∃ p xs, v2 = .ref p ∧ (SqL κ.K H p xs ∨ SqT κ.K H p xs) ∧ flatV v1 = true ∧ xs.all flatV = true ∧ r = inV v1 xs) ∨ (∃ p o, v2 = .ref p ∧ DGet H p v1 o ∧ r = o.isSome) := fun {r} h => by
    unfold isInD at h
    split at h
    · split at h
      · cases h; cases w1; cases w2; exact .inl ⟨_, _, rfl, rfl, rfl⟩
      · cases h
    · rename_i o ds
      unfold isInL at h
      split at h
      · rename_i x xs h1 h2
        split at h
        · rename_i hs
          simp only [Bool.and_eq_true] at hs
          cases h
          exact .inr (.inl ⟨x, xs, w1.dp h1, w2.dp (by simp [D.pd, h2]), hs.1, hs.2, rfl⟩)
        · cases h
      · cases h
    · rename_i ds
      split at h
      · rename_i hs
        simp only [Bool.and_eq_true] at hs
        cases h
        cases w2 with
        | tup q rs => exact .inr (.inr (.inl ⟨_, _, rfl, .inr (.of q), w1.flat hs.1, rs.flat hs.2, (Vws.anyF w1 hs.1 rs hs.2).symm⟩))
      · cases h
    · rename_i o ks ds _
      rw [Option.map_eq_some_iff] at h
      obtain ⟨k, hk, rfl⟩ := h
      obtain ⟨p, vs, rfl, q, hl⟩ : ∃ p vs, v2 = .ref p ∧ H p = some (.dK (ks.zip vs)) ∧ ks.length = vs.length := by
        cases w2 with
        | dK q hl ws => exact ⟨_, _, rfl, q, hl⟩
      · refine .inr (.inr (.inr ⟨p, valV (ks.zip vs) k, rfl, ?_, ?_⟩))
        · have e1 : v1 = kV k := by
            cases w1 <;> simp [keyD] at hk <;> (subst hk; rfl)
          rw [e1]; exact .k q
        · rw [valV_zip hl]
          cases hf : findK ks k with
          | none => rfl
          | some j =>
            have := (findK_lt hf).1
            rw [Option.bind_some, List.getElem?_eq_getElem (by omega)]; rfl
    · exact (hd' _ _ _ rfl).elim
    · cases h
  cases op with
  | eq =>
    obtain ⟨x, y, h1, h2, h3, h4, rfl⟩ := eqc h
    exact ⟨x, y, h1, h2, h3, h4, hQ⟩
  | ne =>
    simp only [cmpD, Option.map_eq_some_iff] at h
    obtain ⟨r', h, rfl⟩ := h
    obtain ⟨x, y, h1, h2, h3, h4, rfl⟩ := eqc h
    exact ⟨x, y, h1, h2, h3, h4, hQ⟩
  | isin =>
    rcases inc h with ⟨i, j, rfl, rfl, rfl⟩ | ⟨d, ds, h1, h2, h3, h4, rfl⟩ | ⟨p, xs, rfl, h1, h2, h3, rfl⟩ | ⟨p, o, rfl, h1, rfl⟩
    · exact .inl ⟨i, j, rfl, rfl, hQ⟩
    · exact .inr (.inl ⟨d, ds, h1, h2, h3, h4, hQ⟩)
    · exact .inr (.inr (.inl ⟨p, xs, rfl, h1, h2, h3, hQ⟩))
    · exact .inr (.inr (.inr ⟨p, o, rfl, h1, hQ⟩))
  | notin =>
    simp only [cmpD, Option.map_eq_some_iff] at h
    obtain ⟨r', h, rfl⟩ := h
    rcases inc h with ⟨i, j, rfl, rfl, rfl⟩ | ⟨d, ds, h1, h2, h3, h4, rfl⟩ | ⟨p, xs, rfl, h1, h2, h3, rfl⟩ | ⟨p, o, rfl, h1, rfl⟩
    · exact .inl ⟨i, j, rfl, rfl, hQ⟩
    · exact .inr (.inl ⟨d, ds, h1, h2, h3, h4, hQ⟩)
    · exact .inr (.inr (.inl ⟨p, xs, rfl, h1, h2, h3, hQ⟩))
    · exact .inr (.inr (.inr ⟨p, o, rfl, h1, hQ⟩))
  | lt => cases w1 <;> cases w2 <;> first | (simp [cmpD] at h; subst h; exact ⟨_, _, rfl, rfl, hQ⟩) | simp [cmpD] at h
  | le => cases w1 <;> cases w2 <;> first | (simp [cmpD] at h; subst h; exact ⟨_, _, rfl, rfl, hQ⟩) | simp [cmpD] at h
  | gt => cases w1 <;> cases w2 <;> first | (simp [cmpD] at h; subst h; exact ⟨_, _, rfl, rfl, hQ⟩) | simp [cmpD] at h
  | ge => cases w1 <;> cases w2 <;> first | (simp [cmpD] at h; subst h; exact ⟨_, _, rfl, rfl, hQ⟩) | simp [cmpD] at h
end
end VS
/-! Parts, slices, built-ins. -/
namespace VS
open PySem L2
section
variable {κ : Kit} {A : Act} {σ : St} {ts : List V} {tds : List D} {as as0 : List Addr} {H H0 : Hp} {s s' : Sx} {W : WX} {q : Bool} {Q : VK}
theorem cmpT_ok (op : Cop) {t1 t2 : Tm} {v1 v2 : V} (R : KTms κ A as σ ts H s tds [] [] [(t2, v2), (t1, v1)]) (h : RunE κ A σ ts tds H0 as0 q W Q (cmpT op t1 t2 s)) (hA : as0 <+: as) (hx : q = true → Ext H0 H) (hd : ∀ d, deref t2 s = .ok d s → ∀ o ks ds, d ≠ .dT o ks ds) : rCmp κ.K op v1 v2 H Q := by
  obtain ⟨t, s', e, k⟩ := h.ok NoEx.cmpT
  simp only [cmpT, ok_bind, ok_opt, ok_pure] at e
  obtain ⟨b, s1, e2, a, s2, e1, r, s3, ⟨hr, rfl⟩, rfl, rfl⟩ := e
  obtain ⟨rfl, w2⟩ := R.view (t := t2) (v := v2) (by simp) e2
  obtain ⟨rfl, w1⟩ := R.view (t := t1) (v := v1) (by simp) e1
  exact cmpD_ok op w1 w2 hr (hd _ e2) (k _ _ _ hA hx (KRel.bl R.dropAll r))

/-! ### one part -/
theorem Vw.seq {K : PySem.W.Frag} {d : D} {ds : List D} {v : V} (w : Vw K as H d v) (e : seqD d = some ds) : ∃ a vs, v = .ref a ∧ SeqV K H d a vs ∧ Vws K as H ds vs := by
  cases w with
  | tup q rs => cases e; exact ⟨_, _, rfl, q, rs⟩
  | lst q t rs => cases e; exact ⟨_, _, rfl, ⟨q, t⟩, rs⟩
  | non => cases e
  | bl => cases e
  | int => cases e
  | str => cases e
  | gone => cases e
  | obj _ => cases e
  | dK _ _ _ => cases e
/-- a part of a thing between -/
theorem Rel.kidV {d0 d : D} {ds : List D} {v0 : V} {j : Nat} (R : KRel κ A as σ (v0 :: ts) H s (d0 :: tds)) (e : seqD d0 = some ds) (ej : ds[j]? = some d) : ∃ a vs v, v0 = .ref a ∧ SeqV κ.K H d0 a vs ∧ ds.length = vs.length ∧ vs[j]? = some v ∧ KRel κ A as σ (v :: ts) H s (d :: tds) := by
  obtain ⟨a, vs, e1, e2, e3, R2⟩ := R.kids e
  have hj : j < vs.length := by rw [← e3]; exact (List.getElem?_eq_some_iff.mp ej).1
  have ev : vs[j]? = some vs[j] := List.getElem?_eq_getElem hj
  refine ⟨a, vs, vs[j], e1, e2, e3, ev, R2.tmp fun g f _ _ r => ?_⟩
  obtain ⟨ws, us, f1, f2, q1, q2, q3, q4⟩ := r.split
  obtain ⟨rfl, rfl⟩ := List.append_inj q1 (by rw [← e3, q2.len])
  obtain ⟨w, f3, f4, q5, q6, q7, _⟩ := q2.at ej
  rw [ev] at q5; cases q5
  exact ⟨_, .cons q6 q3 (fun _ => rfl), fun b => by have := q4 b; have := q7 b; omega⟩
/-- a plain part of a thing at its place -/
theorem Rel.kidP {d0 d : D} {ds : List D} {v0 : V} {p : Path} {j : Nat} (R : KRel κ A as σ ts H s tds) (a : AtP as σ H p v0) (e0 : s.getP p = some d0) (e : seqD d0 = some ds) (ej : ds[j]? = some d) (hp : d.plain = true) : ∃ a vs v, v0 = .ref a ∧ SeqV κ.K H d0 a vs ∧ ds.length = vs.length ∧ vs[j]? = some v ∧ KRel κ A as σ (v :: ts) H s (d :: tds) := by
  have hd : d0 ≠ .gone := by rintro rfl; simp [seqD] at e
  obtain ⟨fx, Fz, tot, evs, fE, fT, fS, C, S⟩ := R
  obtain ⟨f, fr, r, z, _⟩ := C.foc S.fzH a e0 hd
  obtain ⟨b, vs, f', e1, e2, e3, e4⟩ := r.kids S.fzH e
  obtain ⟨w, f3, f4, q5, q6, q7, _⟩ := e3.at ej
  refine ⟨b, vs, w, e1, e2, e3.len, q5, fx, Fz, _, evs, fE, _, fS, C.push q6, S.less fun c => ?_⟩
  rw [q6.plain0 hp c]; omega
def rDGet : R2 := fun x y H Q => ∃ a v, x = .ref a ∧ DGet H a y (some v) ∧ Q v H
def rSub (K : PySem.W.Frag) : R2 := fun x y H Q => rIx K x y H Q ∨ rDGet x y H Q
theorem NoEx.child {t : Tm} {a : Acc} {d : D} : NoEx (VS.child t a d) := by cases t <;> exact .pure
theorem NoEx.subT {a b : Tm} : NoEx (VS.subT a b) := by
  refine .bind .deref fun y => .bind .deref fun x => ?_
  cases x <;> cases y <;> first
    | exact .fail
    | exact .bind .need fun _ => .bind .opt fun _ => .pure
    | exact .bind .opt fun _ => .bind .opt fun _ => .bind .need fun _ => .child
    | exact .bind .opt fun _ => .bind .opt fun _ => .child
theorem atI_ix {α : Type} {xs : List α} {i : Int} {j : Nat} {x : α} (h : ixN xs.length i = some j) (e : xs[j]? = some x) : atI xs i = some x := by
  unfold atI; rw [h]; exact e
/-- a part of an operand, by itself or by its place -/
theorem child_ok {t1 t : Tm} {v1 : V} {d0 d : D} {ds : List D} {j : Nat} {L : List (Tm × V)} (R : KTms κ A as σ ts H s tds [] [] ((t1, v1) :: L)) (e1 : deref t1 s = .ok d0 s) (eq : seqD d0 = some ds) (ej : ds[j]? = some d) (hw : d.plain = true ∨ ∀ l, d0 ≠ .lst .wrt l) (e : child t1 (.ix j) d s = .ok t s') :
    s' = s ∧ ∃ a vs v, v1 = .ref a ∧ SeqV κ.K H d0 a vs ∧ ds.length = vs.length ∧ vs[j]? = some v ∧ KTms κ A as σ ts H s tds [] [] [(t, v)] := by
  obtain ⟨hl, R0, aP⟩ := R
  cases t1 with
  | val x =>
    obtain ⟨rfl, -⟩ := ok_val.mp e1
    obtain ⟨rfl, rfl⟩ := ok_pure.mp e
    obtain ⟨a, vs, v, q1, q2, q3, q4, R2⟩ := Rel.kidV R0 eq ej
    refine ⟨rfl, a, vs, v, q1, q2, q3, q4, TmsR.one ?_⟩
    have R3 : KTms κ A as σ ts H s' tds [v] [d] L := ⟨rfl, R2, fun p w hm => aP p w (List.mem_cons_of_mem _ hm)⟩
    exact R3.dropAll
  | «at» p =>
    obtain ⟨eg, -⟩ := ok_at.mp e1
    obtain ⟨rfl, rfl⟩ := ok_pure.mp e
    have ap := aP p v1 List.mem_cons_self
    by_cases hp : d.plain = true
    · obtain ⟨a, vs, v, q1, q2, q3, q4, R2⟩ := Rel.kidP R0 ap eg eq ej hp
      refine ⟨rfl, a, vs, v, q1, q2, q3, q4, ?_⟩
      rw [placed, if_pos hp]
      have R3 : KTms κ A as σ ts H s' tds [v] [d] L := ⟨rfl, R2, fun p w hm => aP p w (List.mem_cons_of_mem _ hm)⟩
      exact TmsR.one R3.dropAll
    · have hw := hw.resolve_left hp
      obtain ⟨a, vs, q1, q2, q3⟩ := (Rel.at_vw R0 ap eg).seq eq
      subst q1
      obtain ⟨v, q4, q5⟩ := q3.get ej
      refine ⟨rfl, a, vs, v, rfl, q2, q3.len, q4, ?_⟩
      rw [placed, if_neg hp]
      have R3 : KTms κ A as σ ts H s' tds [] [] L := ⟨rfl, R0, fun p w hm => aP p w (List.mem_cons_of_mem _ hm)⟩
      refine ⟨rfl, R3.dropAll, fun p' w hm => ?_⟩
      simp at hm
      obtain ⟨rfl, rfl⟩ := hm
      obtain ⟨v0, r0, a0⟩ := ap
      refine ⟨v0, r0, a0.snoc ?_⟩
      cases d0 with
      | lst o l => exact .lst (q2.2 fun h => hw l (by rw [h])) q4
      | tup l => exact .tup q2 q4
      | _ => cases eq
/-! ### parts of a dict -/
theorem Rp.kidsK {K : PySem.W.Frag} {g : Gh} {o : Fl} {ks : List Key} {ds : List D} {v : V} {f : Fp} (hF : ∀ a o, g.Fz a = some o → H a = some o) (r : Rp K g H (.dK o ks ds) v f) : ∃ a vs f', v = .ref a ∧ H a = some (.dK (ks.zip vs)) ∧ ks.length = vs.length ∧ Rps K g H ds vs f' ∧ ∀ b, f' b ≤ f b := by
  cases r with
  | dKo q hl l rs z => exact ⟨_, _, _, rfl, q, hl, rs, fun b => by rw [z]; omega⟩
  | dKf q hl rs z => exact ⟨_, _, _, rfl, hF _ _ q, hl, rs, fun _ => Nat.le_refl _⟩
theorem Rel.kidK {o : Fl} {ks : List Key} {d : D} {ds : List D} {v0 : V} {j : Nat} (R : KRel κ A as σ (v0 :: ts) H s (.dK o ks ds :: tds)) (ej : ds[j]? = some d) : ∃ a vs v, v0 = .ref a ∧ H a = some (.dK (ks.zip vs)) ∧ ks.length = vs.length ∧ vs[j]? = some v ∧ KRel κ A as σ (v :: ts) H s (d :: tds) := by
  obtain ⟨fx, Fz, tot, evs, fE, fT, fS, C, S⟩ := R
  obtain ⟨v', ts', f, fT', tot', e0, r, C', z⟩ := C.pop
  cases e0
  obtain ⟨a, vs, f', h1, h2, h3, h4, h5⟩ := r.kidsK S.fzH
  obtain ⟨w, f3, f4, q5, q6, q7, _⟩ := h4.at ej
  refine ⟨a, vs, w, h1, h2, h3, q5, fx, Fz, _, evs, fE, _, fS, C'.push q6, S.less fun b => ?_⟩
  have := z b
  have := h5 b
  have := q7 b
  omega
theorem Rel.kidKP {o : Fl} {ks : List Key} {d : D} {ds : List D} {v0 : V} {p : Path} {j : Nat} (R : KRel κ A as σ ts H s tds) (a : AtP as σ H p v0) (e0 : s.getP p = some (.dK o ks ds)) (ej : ds[j]? = some d) (hp : d.plain = true) : ∃ a vs v, v0 = .ref a ∧ H a = some (.dK (ks.zip vs)) ∧ ks.length = vs.length ∧ vs[j]? = some v ∧ KRel κ A as σ (v :: ts) H s (d :: tds) := by
  obtain ⟨fx, Fz, tot, evs, fE, fT, fS, C, S⟩ := R
  obtain ⟨f, fr, r, z, _⟩ := C.foc S.fzH a e0 (by rintro ⟨⟩)
  obtain ⟨b, vs, f', e1, e2, e3, e4, e5⟩ := r.kidsK S.fzH
  obtain ⟨w, f3, f4, q5, q6, q7, _⟩ := e4.at ej
  refine ⟨b, vs, w, e1, e2, e3, q5, fx, Fz, _, evs, fE, _, fS, C.push q6, S.less fun c => ?_⟩
  rw [q6.plain0 hp c]; omega
theorem child_okK {t1 t : Tm} {v1 : V} {o : Fl} {ks : List Key} {k : Key} {d : D} {ds : List D} {j : Nat} {L : List (Tm × V)} (R : KTms κ A as σ ts H s tds [] [] ((t1, v1) :: L)) (e1 : deref t1 s = .ok (.dK o ks ds) s) (ek : findK ks k = some j) (ej : ds[j]? = some d) (e : child t1 (.key k) d s = .ok t s') :
    s' = s ∧ ∃ a vs v, v1 = .ref a ∧ H a = some (.dK (ks.zip vs)) ∧ ks.length = vs.length ∧ vs[j]? = some v ∧ KTms κ A as σ ts H s tds [] [] [(t, v)] := by
  obtain ⟨hl, R0, aP⟩ := R
  cases t1 with
  | val x =>
    obtain ⟨rfl, -⟩ := ok_val.mp e1
    obtain ⟨rfl, rfl⟩ := ok_pure.mp e
    obtain ⟨a, vs, v, q1, q2, q3, q4, R2⟩ := Rel.kidK R0 ej
    refine ⟨rfl, a, vs, v, q1, q2, q3, q4, TmsR.one ?_⟩
    have R3 : KTms κ A as σ ts H s' tds [v] [d] L := ⟨rfl, R2, fun p w hm => aP p w (List.mem_cons_of_mem _ hm)⟩
    exact R3.dropAll
  | «at» p =>
    obtain ⟨eg, -⟩ := ok_at.mp e1
    obtain ⟨rfl, rfl⟩ := ok_pure.mp e
    have ap := aP p v1 List.mem_cons_self
    by_cases hp : d.plain = true
    · obtain ⟨a, vs, v, q1, q2, q3, q4, R2⟩ := Rel.kidKP R0 ap eg ej hp
      refine ⟨rfl, a, vs, v, q1, q2, q3, q4, ?_⟩
      rw [placed, if_pos hp]
      have R3 : KTms κ A as σ ts H s' tds [v] [d] L := ⟨rfl, R2, fun p w hm => aP p w (List.mem_cons_of_mem _ hm)⟩
      exact TmsR.one R3.dropAll
    · have wv := Rel.at_vw R0 ap eg
      obtain ⟨a, vs, q1, q2, q3, q4⟩ : ∃ a vs, v1 = .ref a ∧ H a = some (.dK (ks.zip vs)) ∧ ks.length = vs.length ∧ Vws κ.K as H ds vs := by
        cases wv with
        | dK q hl ws => exact ⟨_, _, rfl, q, hl, ws⟩
      subst q1
      obtain ⟨v, q5, q6⟩ := q4.get ej
      refine ⟨rfl, a, vs, v, rfl, q2, q3, q5, ?_⟩
      rw [placed, if_neg hp]
      have R3 : KTms κ A as σ ts H s' tds [] [] L := ⟨rfl, R0, fun p w hm => aP p w (List.mem_cons_of_mem _ hm)⟩
      refine ⟨rfl, R3.dropAll, fun p' w hm => ?_⟩
      simp at hm
      obtain ⟨rfl, rfl⟩ := hm
      obtain ⟨v0, r0, a0⟩ := ap
      exact ⟨v0, r0, a0.snoc (.dK q2 q3 ek q5)⟩
theorem subT_ok {t1 t2 : Tm} {v1 v2 : V} (R : KTms κ A as σ ts H s tds [] [] [(t2, v2), (t1, v1)]) (h : RunE κ A σ ts tds H0 as0 q W Q (subT t1 t2 s)) (hA : as0 <+: as) (hx : q = true → Ext H0 H) (hd : ∀ d, deref t1 s = .ok d s → ∀ o ks ds, d ≠ .dT o ks ds) : rSub κ.K v1 v2 H Q := by
  obtain ⟨t, s', e, k⟩ := h.ok NoEx.subT
  simp only [subT, ok_bind] at e
  obtain ⟨b, s1, e2, a, s2, e1, e⟩ := e
  obtain ⟨rfl, w2⟩ := R.view (t := t2) (v := v2) (by simp) e2
  obtain ⟨rfl, w1⟩ := R.view (t := t1) (v := v1) (by simp) e1
  have R' := (TmsR.swap R)
  cases a with
  | str x =>
    cases b with
    | int i =>
      cases w1; cases w2
      simp only [ok_bind, ok_need, ok_opt, ok_pure, fits, decide_eq_true_eq] at e
      obtain ⟨_, s3, ⟨hz, rfl⟩, c, s4, ⟨hc, rfl⟩, rfl, rfl⟩ := e
      exact .inl <| .inr (.inr ⟨_, _, c, rfl, rfl, hz, hc, k _ _ _ hA hx (KRel.str R.dropAll _)⟩)
    | _ => simp only [ok_fail] at e
  | lst o ds =>
    cases b with
    | int i =>
      cases w2
      simp only [ok_bind, ok_need, ok_opt, Bool.or_eq_true, decide_eq_true_eq] at e
      obtain ⟨j, s3, ⟨hj, rfl⟩, d, s4, ⟨ej, rfl⟩, _, s5, ⟨hp, rfl⟩, e⟩ := e
      obtain ⟨rfl, a, vs, v, rfl, q1, q2, q3, R2⟩ := child_ok R' e1 rfl ej (hp.imp id fun h l h' => h (by cases h'; rfl)) e
      exact .inl <| .inl ⟨a, vs, i, v, rfl, rfl, q1.1, atI_ix (by rw [← q2]; exact hj) q3, k _ _ _ hA hx R2⟩
    | _ => simp only [ok_fail] at e
  | tup ds =>
    cases b with
    | int i =>
      cases w2
      simp only [ok_bind, ok_opt] at e
      obtain ⟨j, s3, ⟨hj, rfl⟩, d, s4, ⟨ej, rfl⟩, e⟩ := e
      obtain ⟨rfl, a, vs, v, rfl, q1, q2, q3, R2⟩ := child_ok R' e1 rfl ej (.inr fun l h' => by cases h') e
      exact .inl <| .inr (.inl ⟨a, vs, i, v, rfl, rfl, .of q1, atI_ix (by rw [← q2]; exact hj) q3, k _ _ _ hA hx R2⟩)
    | _ => simp only [ok_fail] at e
  | dK o ks ds =>
    simp only [ok_bind, ok_opt] at e
    obtain ⟨k', s3, ⟨hk, rfl⟩, d, s4, ⟨hj, rfl⟩, e⟩ := e
    rw [Option.bind_eq_some_iff] at hj
    obtain ⟨j, ek, ej⟩ := hj
    obtain ⟨rfl, a, vs, v, rfl, q1, q2, q3, R2⟩ := child_okK R' e1 ek ej e
    have e2 : v2 = kV k' := by
      cases w2 <;> simp [keyD] at hk <;> (subst hk; rfl)
    refine .inr ⟨a, v, rfl, ?_, k _ _ _ hA hx R2⟩
    have := DGet.k (H := H) (a := a) (k := k') q1
    rw [valV_zip q2, ek, Option.bind_some, q3] at this
    rw [e2]; exact this
  | dT o ks ds => exact (hd _ e1 _ _ _ rfl).elim
  | _ => simp only [ok_fail] at e

/-! ### slices -/
def rSl (K : PySem.W.Frag) : V → Option Int → Option Int → Hp → VK → Prop := fun x lo hi H Q => rSlL K x lo hi H Q ∨ rSlA K x lo hi H Q ∨ rSlS x lo hi H Q
theorem sl_all {X : Cx} : SlR X (rSl X.K) := sl_list.or (sl_tupA.or sl_str)
theorem NoEx.sliceT {a : Tm} {lo hi : Option Int} : NoEx (VS.sliceT a lo hi) := by
  refine .bind .deref fun x => ?_
  cases x <;> first
    | exact .fail
    | exact .bind .need fun _ => .pure
    | exact .ite .escV (.bind .kidsOf fun _ => .pure)
    | (cases a <;> first | exact .pure | exact .ite .pure (.bind .kidsOf fun _ => .pure))
theorem cut_len {ds : List D} {vs : List V} (h : ds.length = vs.length) (lo hi : Option Int) : (cutL ds lo hi).length = (cutV vs lo hi).length := by
  unfold cutL cutV; simp [h]
theorem Rps.take {K : PySem.W.Frag} {g : Gh} : ∀ {ds : List D} {vs : List V} {f : Fp} (n : Nat), Rps K g H ds vs f → ∃ f', Rps K g H (ds.take n) (vs.take n) f' ∧ ∀ b, f' b ≤ f b
  | _, _, _, 0, h => ⟨fun _ => 0, by simpa using Rps.nil fun _ => rfl, fun _ => Nat.zero_le _⟩
  | _, _, _, n + 1, .nil z => ⟨_, .nil z, fun _ => Nat.le_refl _⟩
  | _, _, _, n + 1, .cons r rs z => by
    obtain ⟨f', h1, h2⟩ := rs.take n
    exact ⟨_, .cons r h1 (fun _ => rfl), fun b => by have := h2 b; have := z b; omega⟩
theorem Rps.drop {K : PySem.W.Frag} {g : Gh} : ∀ {ds : List D} {vs : List V} {f : Fp} (n : Nat), Rps K g H ds vs f → ∃ f', Rps K g H (ds.drop n) (vs.drop n) f' ∧ ∀ b, f' b ≤ f b
  | _, _, f, 0, h => ⟨f, h, fun _ => Nat.le_refl _⟩
  | _, _, _, n + 1, .nil z => ⟨_, .nil z, fun _ => Nat.le_refl _⟩
  | _, _, _, n + 1, .cons r rs z => by
    obtain ⟨f', h1, h2⟩ := rs.drop n
    exact ⟨_, h1, fun b => by have := h2 b; have := z b; omega⟩
theorem Rps.cut {K : PySem.W.Frag} {g : Gh} {ds : List D} {vs : List V} {f : Fp} (lo hi : Option Int) (h : Rps K g H ds vs f) : ∃ f', Rps K g H (cutL ds lo hi) (cutV vs lo hi) f' ∧ ∀ b, f' b ≤ f b := by
  unfold cutL cutV
  rw [h.len]
  obtain ⟨f1, r1, h1⟩ := h.drop (HT.sIx vs.length 0 lo)
  obtain ⟨f2, r2, h2⟩ := r1.take (HT.sIx vs.length vs.length hi - HT.sIx vs.length 0 lo)
  exact ⟨f2, r2, fun b => Nat.le_trans (h2 b) (h1 b)⟩
theorem Rel.cut {ds : List D} {vs : List V} (hl : ds.length = vs.length) (lo hi : Option Int) (R : KRel κ A as σ (vs ++ ts) H s (ds ++ tds)) : KRel κ A as σ (cutV vs lo hi ++ ts) H s (cutL ds lo hi ++ tds) :=
  R.tmp fun g f _ _ r => by
    obtain ⟨ws, us, f1, f2, q1, q2, q3, q4⟩ := r.split
    obtain ⟨rfl, rfl⟩ := List.append_inj q1 (by rw [← hl, q2.len])
    obtain ⟨f', r1, h1⟩ := q2.cut lo hi
    exact ⟨_, r1.append q3 (fun _ => rfl), fun b => by have := h1 b; have := q4 b; omega⟩
/-- plain parts of a list at its place -/
theorem Rel.cutP {d0 : D} {ds : List D} {v0 : V} {p : Path} (lo hi : Option Int) (R : KRel κ A as σ ts H s tds) (a : AtP as σ H p v0) (e0 : s.getP p = some d0) (e : seqD d0 = some ds) (hp : plainL (cutL ds lo hi) = true) : ∃ a vs, v0 = .ref a ∧ SeqV κ.K H d0 a vs ∧ ds.length = vs.length ∧ KRel κ A as σ (cutV vs lo hi ++ ts) H s (cutL ds lo hi ++ tds) := by
  have hd : d0 ≠ .gone := by rintro rfl; simp [seqD] at e
  obtain ⟨fx, Fz, tot, evs, fE, fT, fS, C, S⟩ := R
  obtain ⟨f, fr, r, z, _⟩ := C.foc S.fzH a e0 hd
  obtain ⟨b, vs, f', e1, e2, e3, e4⟩ := r.kids S.fzH e
  obtain ⟨f3, q6, q7⟩ := e3.cut lo hi
  refine ⟨b, vs, e1, e2, e3.len, fx, Fz, _, evs, fE, _, fS, C.pushs q6, S.less fun c => ?_⟩
  rw [q6.plain0 hp c]; omega
theorem sliceT_ok {t1 : Tm} {v1 : V} {lo hi : Option Int} {L : List (Tm × V)} (R : KTms κ A as σ ts H s tds [] [] ((t1, v1) :: L)) (h : RunE κ A σ ts tds H0 as0 q W Q (sliceT t1 lo hi s)) (hA : as0 <+: as) (hx : q = true → Ext H0 H) : rSl κ.K v1 lo hi H Q := by
  obtain ⟨t, s', e, k⟩ := h.ok NoEx.sliceT
  simp only [sliceT, ok_bind] at e
  obtain ⟨a, s1, e1, e⟩ := e
  obtain ⟨rfl, w1⟩ := R.view (t := t1) (v := v1) (by simp) e1
  have new : ∀ {p : Addr} {o : HO}, H p = none → (q = true → Ext H0 (upd H p o)) := fun hp hq => (hx hq).trans (Ext.upd hp)
  cases a with
  | str x =>
    cases w1
    simp only [ok_bind, ok_need, ok_pure, fits, decide_eq_true_eq] at e
    obtain ⟨_, s3, ⟨hz, rfl⟩, rfl, rfl⟩ := e
    exact .inr (.inr ⟨_, rfl, hz, k _ _ _ hA hx (KRel.str R.dropAll _)⟩)
  | lst o ds =>
    left
    cases t1 with
    | val d =>
      obtain ⟨rfl, -⟩ := ok_val.mp e1
      obtain ⟨rfl, rfl⟩ := ok_pure.mp e
      obtain ⟨_, R0, aP⟩ := R
      obtain ⟨a, vs, rfl, q2, q3, R2⟩ := R0.kids (d := .lst o ds) rfl
      have R3 : KTms κ A as σ ts H s' tds vs ds L := ⟨q3, R2, fun p w hm => aP p w (List.mem_cons_of_mem _ hm)⟩
      exact ⟨a, vs, rfl, q2.1, fun p hp => k _ _ _ hA (new hp) (TmsR.one (Rel.alloc_lst (cut_len q3 lo hi) (Rel.cut q3 lo hi R3.dropAll) hp))⟩
    | «at» p =>
      obtain ⟨eg, -⟩ := ok_at.mp e1
      have ap := R.2.2 p v1 List.mem_cons_self
      simp only [ok_ite, ok_bind, ok_pure] at e
      rcases e with ⟨hp, rfl, rfl⟩ | ⟨hp, l, s2, el, rfl, rfl⟩
      · obtain ⟨a, vs, rfl, q2, q3, R2⟩ := Rel.cutP lo hi R.2.1 ap eg rfl hp
        have R3 : KTms κ A as σ ts H s' tds (cutV vs lo hi) (cutL ds lo hi) L := ⟨cut_len q3 lo hi, R2, fun p w hm => R.2.2 p w (List.mem_cons_of_mem _ hm)⟩
        exact ⟨a, vs, rfl, q2.1, fun p hp => k _ _ _ hA (new hp) (TmsR.one (Rel.alloc_lst (cut_len q3 lo hi) R3.dropAll hp))⟩
      · obtain ⟨d0, a, vs, e0, rfl, q2, q3, R2⟩ := R.kids el
        rw [e1] at e0; cases e0
        have R3 := R2.dropAll
        rw [List.append_nil, List.append_nil] at R3
        exact ⟨a, vs, rfl, q2.1, fun p hp => k _ _ _ hA (new hp) (TmsR.one (Rel.alloc_lst (cut_len q3 lo hi) (Rel.cut q3 lo hi R3) hp))⟩
  | tup ds =>
    right; left
    cases w1 with
    | tup q1 vv =>
      have hl := vv.len
      refine ⟨_, _, rfl, .of q1, ?_⟩
      rw [← hl]
      simp only [ok_ite, ok_bind, escV, ok_pure] at e
      rcases e with ⟨hw, d, s2, ed, rfl, rfl⟩ | ⟨hw, l, s2, el, rfl, rfl⟩
      · exact ⟨fun _ => k _ _ _ hA hx (TmsR.one ((R.esc ed).dropAll)), fun h => absurd hw h⟩
      · refine ⟨fun h => absurd h hw, fun _ p hp => ?_⟩
        obtain ⟨d0, a, vs, e0, e2, q2, q3, R2⟩ := R.kids el
        rw [e1] at e0; cases e0
        cases e2
        have q2 : H _ = some (.tup vs) := q2
        rw [q1] at q2; cases q2
        have R3 := R2.dropAll
        rw [List.append_nil, List.append_nil] at R3
        exact k _ _ _ hA (new hp) (TmsR.one (Rel.alloc_tup (cut_len q3 lo hi) (Rel.cut q3 lo hi R3) hp))
  | _ => simp only [ok_fail] at e
end
end VS
/-! Built-ins by the values of their arguments. -/
namespace VS
open PySem L2
section
variable {κ : Kit} {A : Act} {σ : St} {ts : List V} {tds : List D} {as as0 : List Addr} {H H0 : Hp} {s s' : Sx} {W : WX} {q : Bool} {Q : VK}
theorem rz_mem : ∀ {tms : List Tm} {vs : List V} {L : List (Tm × V)} {x : Tm × V}, x ∈ L ∨ x ∈ tms.zip vs → x ∈ rz tms vs L
  | [], _, _, _, h => by simpa [rz] using h
  | _ :: _, [], _, _, h => by simpa [rz] using h
  | t :: ts, v :: vs, L, x, h => rz_mem (L := (t, v) :: L) (by
      rcases h with h | h
      · exact .inl (List.mem_cons_of_mem _ h)
      · rcases List.mem_cons.mp h with h | h
        · exact .inl (by rw [h]; exact List.mem_cons_self)
        · exact .inr h)
theorem derefL_ok : ∀ {tms : List Tm} {vs : List V} {ds : List D} {s s' : Sx}, tms.length = vs.length → (∀ t v, (t, v) ∈ tms.zip vs → ∀ {d s'}, deref t s = .ok d s' → s' = s ∧ Vw κ.K as H d v) → derefL tms s = .ok ds s' → s' = s ∧ Vws κ.K as H ds vs
  | [], [], ds, _, _, _, _, e => by obtain ⟨rfl, rfl⟩ := ok_pure.mp e; exact ⟨rfl, .nil⟩
  | t :: tms, v :: vs, ds, _, _, hl, h, e => by
    simp only [derefL, ok_bind, ok_pure] at e
    obtain ⟨d, s1, e1, ds', s2, e2, rfl, rfl⟩ := e
    obtain ⟨rfl, w⟩ := h t v (by simp) e1
    obtain ⟨rfl, ws⟩ := derefL_ok (by simpa using hl) (fun t' v' hm => h t' v' (by simp [hm])) e2
    exact ⟨rfl, .cons w ws⟩
  | [], _ :: _, _, _, _, h, _, _ => by simp at h
  | _ :: _, [], _, _, _, h, _, _ => by simp at h
theorem KTms.derefL {tms : List Tm} {vs : List V} {ds : List D} {L : List (Tm × V)} (R : KTms κ A as σ ts H s tds [] [] (rz tms vs L)) (hl : tms.length = vs.length) (e : VS.derefL tms s = .ok ds s') : s' = s ∧ Vws κ.K as H ds vs :=
  derefL_ok hl (fun t v hm {d s'} e => TmsR.view (K := κ.K) (T := κ.T) R (rz_mem (.inr hm)) e) e

theorem Vws.ints {K : PySem.W.Frag} : ∀ {ds : List D} {vs : List V} {ns : List Int}, Vws K as H ds vs → intsD ds = some ns → vs = ns.map V.int
  | _, _, _, .nil, e => by cases e; rfl
  | _, _, _, .cons r rs, e => by
    cases r with
    | int =>
      simp only [intsD, Option.map_eq_some_iff] at e
      obtain ⟨ms, e, rfl⟩ := e
      rw [rs.ints e]; rfl
    | _ => simp [intsD] at e
theorem Vws.bls {K : PySem.W.Frag} : ∀ {ds : List D} {vs : List V} {ns : List Bool}, Vws K as H ds vs → blsD ds = some ns → vs = ns.map V.bl
  | _, _, _, .nil, e => by cases e; rfl
  | _, _, _, .cons r rs, e => by
    cases r with
    | bl =>
      simp only [blsD, Option.map_eq_some_iff] at e
      obtain ⟨ms, e, rfl⟩ := e
      rw [rs.bls e]; rfl
    | _ => simp [blsD] at e
theorem Vws.strs {K : PySem.W.Frag} : ∀ {ds : List D} {vs : List V} {ns : List Str}, Vws K as H ds vs → strsD ds = some ns → vs = ns.map V.str
  | _, _, _, .nil, e => by cases e; rfl
  | _, _, _, .cons r rs, e => by
    cases r with
    | str =>
      simp only [strsD, Option.map_eq_some_iff] at e
      obtain ⟨ms, e, rfl⟩ := e
      rw [rs.strs e]; rfl
    | _ => simp [strsD] at e
theorem maxL_spec : ∀ (xs : List Int) (m : Int), (maxL m xs = m ∨ maxL m xs ∈ xs) ∧ m ≤ maxL m xs ∧ ∀ y ∈ xs, y ≤ maxL m xs
  | [], m => ⟨.inl rfl, Int.le_refl _, by simp⟩
  | x :: xs, m => by
    have ih := maxL_spec xs (if x > m then x else m)
    simp only [maxL]
    obtain ⟨h1, h2, h3⟩ := ih
    refine ⟨?_, ?_, fun y hy => ?_⟩
    · rcases h1 with h1 | h1
      · by_cases h : x > m
        · rw [if_pos h] at h1 ⊢; exact .inr (by rw [h1]; simp)
        · rw [if_neg h] at h1 ⊢; exact .inl h1
      · exact .inr (List.mem_cons_of_mem _ h1)
    · split at h2 <;> rename_i h
      · rw [if_pos h]; omega
      · rw [if_neg h]; exact h2
    · rcases List.mem_cons.mp hy with rfl | hy
      · split at h2 <;> rename_i h
        · rw [if_pos h]; exact h2
        · rw [if_neg h]; omega
      · exact h3 y hy
theorem minL_spec : ∀ (xs : List Int) (m : Int), (minL m xs = m ∨ minL m xs ∈ xs) ∧ minL m xs ≤ m ∧ ∀ y ∈ xs, minL m xs ≤ y
  | [], m => ⟨.inl rfl, Int.le_refl _, by simp⟩
  | x :: xs, m => by
    have ih := minL_spec xs (if x < m then x else m)
    simp only [minL]
    obtain ⟨h1, h2, h3⟩ := ih
    refine ⟨?_, ?_, fun y hy => ?_⟩
    · rcases h1 with h1 | h1
      · by_cases h : x < m
        · rw [if_pos h] at h1 ⊢; exact .inr (by rw [h1]; simp)
        · rw [if_neg h] at h1 ⊢; exact .inl h1
      · exact .inr (List.mem_cons_of_mem _ h1)
    · split at h2 <;> rename_i h
      · rw [if_pos h]; omega
      · rw [if_neg h]; exact h2
    · rcases List.mem_cons.mp hy with rfl | hy
      · split at h2 <;> rename_i h
        · rw [if_pos h]; exact h2
        · rw [if_neg h]; omega
      · exact h3 y hy

/-- a built-in function or class, by its name -/
def biName : Bi → Str × Value
  | .len => ("len", .builtin "len") | .abs => ("abs", .builtin "abs") | .int => ("int", .type "int") | .str => ("str", .type "str")
  | .list => ("list", .type "list") | .tuple => ("tuple", .type "tuple") | .max => ("max", .builtin "max") | .min => ("min", .builtin "min")
  | .sum => ("sum", .builtin "sum") | .any => ("any", .builtin "any") | .all => ("all", .builtin "all") | .sorted => ("sorted", .builtin "sorted")
  | .divmod => ("divmod", .builtin "divmod") | .set => ("set", .type "set") | .range => ("range", .type "range")
abbrev RCall := List V → Hp → VK → Prop
def rBi (K : PySem.W.Frag) : Bi → RCall
  | .len => fun xs H Q => ∃ x n, xs = [x] ∧ LenV K x H n ∧ Q (.int n) H
  | .abs => fun xs H Q => ∃ i, xs = [.int i] ∧ Q (.int (if i < 0 then -i else i)) H
  | .int => fun xs H Q => ((∃ i, xs = [.int i] ∧ Q (.int i) H) ∨ ∃ k, xs = [.bl k] ∧ Q (.int (if k then 1 else 0)) H) ∨ ∃ a n, xs = [.str a] ∧ PySem.intText? a = some n ∧ a.length ≤ 640 ∧ Q (.int n) H
  | .str => fun xs H Q => ∃ i, xs = [.int i] ∧ i.natAbs.log2 < 1920 ∧ Q (.str (toString i)) H
  | .max => fun xs H Q => (∃ i j, xs = [.int i, .int j] ∧ Q (.int (if j > i then j else i)) H) ∨ rMax K xs H Q
  | .min => fun xs H Q => (∃ i j, xs = [.int i, .int j] ∧ Q (.int (if j < i then j else i)) H) ∨ rMin K xs H Q
  | .sum => rSum K
  | .any => rAny K
  | .all => rAll K
  | .divmod => fun xs H Q => ∃ i j, xs = [.int i, .int j] ∧ CDiv i j ∧ ∀ p, H p = none → Q (.ref p) (upd H p (.tup [.int (i / j), .int (i % j)]))
  | _ => fun _ _ _ => False
theorem callR_false {X : Cx} {f : Value} : CallR X f (fun _ _ _ => False) := fun _ _ _ _ _ _ _ _ _ h => h.elim
theorem call_bi {X : Cx} (hc : X.calm = true) : ∀ b : Bi, CallR X (biName b).2 (rBi X.K b)
  | .len => call_len
  | .abs => call_abs
  | .int => call_int1.or call_int_str
  | .str => call_str_int
  | .max => (call_max2 hc).or (cr_max hc)
  | .min => (call_min2 hc).or (cr_min hc)
  | .sum => cr_sum hc
  | .any => cr_any hc
  | .all => cr_all hc
  | .divmod => call_divmod
  | .list => callR_false
  | .tuple => callR_false
  | .sorted => callR_false
  | .set => callR_false
  | .range => callR_false
theorem biD_ok (b : Bi) {ds : List D} {vs : List V} {d : D} (ws : Vws κ.K as H ds vs) (h : biD b ds = some d) (R : KRel κ A as σ ts H s tds) (hn : b = .len → ∀ o ks es, ds ≠ [.dK o ks es]) (hn' : b = .len → ∀ o ks es, ds ≠ [.dT o ks es])
    (hQ : ∀ v H', Ext H H' → KTms κ A as σ ts H' s tds [] [] [(.val d, v)] → Q v H') : rBi κ.K b vs H Q := by
  have one : ∀ {x v}, Vws κ.K as H [x] v → ∃ y, v = [y] ∧ Vw κ.K as H x y := fun w => by cases w with | cons r rs => cases rs; exact ⟨_, rfl, r⟩
  cases b with
  | len =>
    match ds, ws, h with
    | [x], ws, h =>
      obtain ⟨y, rfl, w⟩ := one ws
      simp only [biD] at h
      split at h
      case h_2 => cases h
      rename_i n h0
      cases h
      refine ⟨y, n, rfl, ?_, hQ _ _ Ext.refl (KRel.int R _)⟩
      have h := h0
      cases w with
      | str => simp only [lenD] at h; split at h; · cases h; exact ⟨by assumption, rfl⟩
               · cases h
      | tup q1 rs => simp only [lenD] at h; cases h; exact .inr ⟨_, .of q1, rs.len⟩
      | lst q1 t rs => simp only [lenD] at h; cases h; exact .inl ⟨_, q1, rs.len⟩
      | dK _ _ _ => exact (hn rfl _ _ _ rfl).elim
      | _ => simp [lenD] at h
    | [], _, h => simp [biD] at h
    | _ :: _ :: _, _, h => simp [biD] at h
  | abs =>
    match ds, ws, h with
    | [x], ws, h =>
      obtain ⟨y, rfl, w⟩ := one ws
      cases w <;> simp only [biD] at h <;> cases h
      exact ⟨_, rfl, hQ _ _ Ext.refl (KRel.int R _)⟩
    | [], _, h => simp [biD] at h
    | _ :: _ :: _, _, h => simp [biD] at h
  | int =>
    match ds, ws, h with
    | [x], ws, h =>
      obtain ⟨y, rfl, w⟩ := one ws
      cases w with
      | int => simp only [biD] at h; cases h; exact .inl (.inl ⟨_, rfl, hQ _ _ Ext.refl (KRel.int R _)⟩)
      | bl => simp only [biD] at h; cases h; exact .inl (.inr ⟨_, rfl, hQ _ _ Ext.refl (KRel.int R _)⟩)
      | str =>
        simp only [biD] at h
        split at h
        · simp only [Option.map_eq_some_iff] at h
          obtain ⟨n, h', rfl⟩ := h
          exact .inr ⟨_, n, rfl, h', by assumption, hQ _ _ Ext.refl (KRel.int R _)⟩
        · cases h
      | _ => simp [biD] at h
    | [], _, h => simp [biD] at h
    | _ :: _ :: _, _, h => simp [biD] at h
  | str =>
    match ds, ws, h with
    | [x], ws, h =>
      obtain ⟨y, rfl, w⟩ := one ws
      cases w with
      | int =>
        simp only [biD] at h
        split at h
        · cases h; exact ⟨_, rfl, by assumption, hQ _ _ Ext.refl (KRel.str R _)⟩
        · cases h
      | _ => simp [biD] at h
    | [], _, h => simp [biD] at h
    | _ :: _ :: _, _, h => simp [biD] at h
  | max =>
    match ds, ws, h with
    | [x], ws, h =>
      obtain ⟨y, rfl, w⟩ := one ws
      cases w with
      | lst q1 t rs =>
        simp only [biD] at h
        split at h
        · rename_i n ns hi
          cases h
          have e := rs.ints hi
          subst e
          refine .inr ⟨_, n :: ns, rfl, q1, by simp, fun m hm hle => ?_⟩
          have sp := maxL_spec ns n
          have e : maxL n ns = m := by
            have h1 : maxL n ns ≤ m := by
              rcases sp.1 with h | h
              · rw [h]; exact hle _ (by simp)
              · exact hle _ (by simp [h])
            have h2 : m ≤ maxL n ns := by
              rcases List.mem_cons.mp hm with rfl | hm
              · exact sp.2.1
              · exact sp.2.2 _ hm
            omega
          rw [← e]
          exact hQ _ _ Ext.refl (KRel.int R _)
        · cases h
      | _ => simp [biD] at h
    | [x, y], .cons r (.cons r' .nil), h =>
      cases r <;> first | (cases r' <;> first | (simp only [biD] at h; cases h; exact .inl ⟨_, _, rfl, hQ _ _ Ext.refl (KRel.int R _)⟩) | (simp [biD] at h; done)) | (simp [biD] at h; done)
    | [], _, h => simp [biD] at h
    | _ :: _ :: _ :: _, _, h => simp [biD] at h
  | min =>
    match ds, ws, h with
    | [x], ws, h =>
      obtain ⟨y, rfl, w⟩ := one ws
      cases w with
      | lst q1 t rs =>
        simp only [biD] at h
        split at h
        · rename_i n ns hi
          cases h
          have e := rs.ints hi
          subst e
          refine .inr ⟨_, n :: ns, rfl, q1, by simp, fun m hm hle => ?_⟩
          have sp := minL_spec ns n
          have e : minL n ns = m := by
            have h1 : m ≤ minL n ns := by
              rcases sp.1 with h | h
              · rw [h]; exact hle _ (by simp)
              · exact hle _ (by simp [h])
            have h2 : minL n ns ≤ m := by
              rcases List.mem_cons.mp hm with rfl | hm
              · exact sp.2.1
              · exact sp.2.2 _ hm
            omega
          rw [← e]
          exact hQ _ _ Ext.refl (KRel.int R _)
        · cases h
      | _ => simp [biD] at h
    | [x, y], .cons r (.cons r' .nil), h =>
      cases r <;> first | (cases r' <;> first | (simp only [biD] at h; cases h; exact .inl ⟨_, _, rfl, hQ _ _ Ext.refl (KRel.int R _)⟩) | (simp [biD] at h; done)) | (simp [biD] at h; done)
    | [], _, h => simp [biD] at h
    | _ :: _ :: _ :: _, _, h => simp [biD] at h
  | sum =>
    match ds, ws, h with
    | [x], ws, h =>
      obtain ⟨y, rfl, w⟩ := one ws
      cases w with
      | lst q1 t rs =>
        simp only [biD, Option.map_eq_some_iff] at h
        obtain ⟨ns, hi, rfl⟩ := h
        have e := rs.ints hi
        subst e
        exact ⟨_, ns, rfl, q1, hQ _ _ Ext.refl (KRel.int R _)⟩
      | _ => simp [biD] at h
    | [], _, h => simp [biD] at h
    | _ :: _ :: _, _, h => simp [biD] at h
  | any =>
    match ds, ws, h with
    | [x], ws, h =>
      obtain ⟨y, rfl, w⟩ := one ws
      cases w with
      | lst q1 t rs =>
        simp only [biD, Option.map_eq_some_iff] at h
        obtain ⟨ns, hi, rfl⟩ := h
        have e := rs.bls hi
        subst e
        exact ⟨_, ns, rfl, q1, hQ _ _ Ext.refl (KRel.bl R _)⟩
      | _ => simp [biD] at h
    | [], _, h => simp [biD] at h
    | _ :: _ :: _, _, h => simp [biD] at h
  | all =>
    match ds, ws, h with
    | [x], ws, h =>
      obtain ⟨y, rfl, w⟩ := one ws
      cases w with
      | lst q1 t rs =>
        simp only [biD, Option.map_eq_some_iff] at h
        obtain ⟨ns, hi, rfl⟩ := h
        have e := rs.bls hi
        subst e
        exact ⟨_, ns, rfl, q1, hQ _ _ Ext.refl (KRel.bl R _)⟩
      | _ => simp [biD] at h
    | [], _, h => simp [biD] at h
    | _ :: _ :: _, _, h => simp [biD] at h
  | divmod =>
    match ds, ws, h with
    | [x, y], .cons r (.cons r' .nil), h =>
      cases r with
      | int =>
        cases r' with
        | int =>
          simp only [biD] at h
          split at h
          · cases h
            rename_i hc
            refine ⟨_, _, rfl, hc, fun p hp => hQ _ _ (Ext.upd hp) (TmsR.one ?_)⟩
            exact Rel.alloc_tup (ds := [_, _]) (vs := [_, _]) (ts := ts) (tds := tds) rfl (Rel.scal (Rel.scal R fun g _ => .int fun _ => rfl) fun g _ => .int fun _ => rfl) hp
          · cases h
        | _ => simp [biD] at h
      | _ => simp [biD] at h
    | [], _, h => simp [biD] at h
    | [_], _, h => simp [biD] at h
    | _ :: _ :: _ :: _, _, h => simp [biD] at h
  | list => simp [biD] at h
  | tuple => simp [biD] at h
  | sorted => simp [biD] at h
  | set => simp [biD] at h
  | range => simp [biD] at h
end
end VS
/-! Calls: what is lent, what comes back. -/
namespace VS
open PySem L2
section
variable {κ : Kit} {A : Act} {σ : St} {ts : List V} {tds : List D} {as as0 : List Addr} {H H0 : Hp} {s s' : Sx} {W : WX} {q : Bool} {Q : VK}
/-- a name's thing is taken out of it -/
theorem Rel.moveOut {i : Nat} {d : D} {v : V} (R : KRel κ A as σ ts H s tds) (e : s.env[i]? = some d) (hd : d ≠ .gone) (hσ : σ[i]? = some (some v)) : KRel κ A as σ (v :: ts) H { s with env := s.env.set i .gone } (d :: tds) := by
  obtain ⟨fx, Fz, tot, evs, fE, fT, fS, C, S⟩ := R
  obtain ⟨w, hw, hσ'⟩ := (C.env i d e).resolve_left hd
  rw [hσ] at hσ'; cases hσ'
  obtain ⟨w, f1, f2, h1, r, z, k⟩ := C.rE.at e
  rw [hw] at h1; cases h1
  obtain ⟨fp', rp, zp⟩ := k (g' := ⟨Fz, A.Lk, as⟩) (H' := H) (fun _ _ q => q) List.prefix_rfl (fun b _ => ⟨rfl, rfl⟩) (Rp.gone (v := v) (fp := fun _ => 0) fun _ => rfl)
  rw [set_get_self hw] at rp
  refine ⟨fx, Fz, fun b => fp' b + (f1 b + fT b) + fS b, evs, fp', fun b => f1 b + fT b, fS, ⟨fun j y ey => ?_, by simpa using C.sl, rp, .cons r C.rT fun _ => rfl, C.rS, fun _ => rfl⟩, S.less fun b => ?_⟩
  · by_cases hj : i = j
    · subst hj
      exact .inr ⟨_, hw, hσ⟩
    · rw [List.getElem?_set_ne hj] at ey; exact C.env j y ey
  · have := C.sum b; have := z b; have := zp b; omega
/-- a name that holds it gets its thing again -/
theorem Rel.moveIn {i : Nat} {d : D} {v : V} (R : KRel κ A as σ (v :: ts) H s (d :: tds)) (hσ : σ[i]? = some (some v)) : KRel κ A as σ ts H { s with env := s.env.set i d } tds := by
  obtain ⟨fx, Fz, tot, evs, fE, fT, fS, C, S⟩ := R
  have hi : i < s.env.length := by rw [← C.sl]; exact (List.getElem?_eq_some_iff.mp hσ).1
  obtain ⟨evs', fE', fT', tot', C', hz⟩ := C.store hi
  rw [set_get_self hσ] at C'
  exact ⟨fx, Fz, tot', evs', fE', fT', fS, C', S.less hz⟩
theorem Rel.getσ {i : Nat} {d : D} (R : KRel κ A as σ ts H s tds) (e : s.env[i]? = some d) (hd : d ≠ .gone) : ∃ v, σ[i]? = some (some v) := by
  obtain ⟨fx, Fz, tot, evs, fE, fT, fS, C, S⟩ := R
  obtain ⟨w, hw, hσ'⟩ := (C.env i d e).resolve_left hd
  exact ⟨w, hσ'⟩
/-- where what was lent goes back to -/
def Lent (σ : St) : List (Option Nat) → List V → Prop
  | some i :: r, v :: vs => σ[i]? = some (some v) ∧ Lent σ r vs
  | none :: r, _ :: vs => Lent σ r vs
  | [], [] => True
  | _, _ => False
theorem lend1_ok {ok : Bool} {t : Tm} {v : V} {x : D × Option Nat} {pv : List V} {pd : List D} {L : List (Tm × V)} (R : KTms κ A as σ ts H s tds pv pd ((t, v) :: L)) (e : lend1 ok t s = .ok x s') :
    KTms κ A as σ ts H s' tds (v :: pv) (x.1 :: pd) L ∧ (∀ i, x.2 = some i → σ[i]? = some (some v)) := by
  have gen : escN t s = .ok x s' → KTms κ A as σ ts H s' tds (v :: pv) (x.1 :: pd) L ∧ (∀ i, x.2 = some i → σ[i]? = some (some v)) := fun e => by
    simp only [escN, ok_bind, ok_pure] at e
    obtain ⟨d, s1, ed, rfl, rfl⟩ := e
    exact ⟨R.esc ed, fun i hi => by cases hi⟩
  cases ok with
  | false => exact gen e
  | true =>
    cases t with
    | val d => exact gen e
    | «at» p =>
      obtain ⟨root, acc⟩ := p
      cases root with
      | fld n f => cases acc <;> exact gen e
      | loc j =>
        cases acc with
        | cons _ _ => exact gen e
        | nil =>
          obtain ⟨hl, R0, aP⟩ := R
          obtain ⟨v0, hr, ha⟩ := aP _ _ List.mem_cons_self
          cases ha
          have hr : σ[j]? = some (some v) := hr
          have e : lendLoc j s = .ok x s' := e
          unfold lendLoc at e
          split at e
          · cases e
          · rename_i d hg hd
            cases e
            refine ⟨⟨by simp [hl], Rel.moveOut (v := v) R0 hd (by intro h; exact hg h) hr, fun p w hm => aP p w (List.mem_cons_of_mem _ hm)⟩, fun i hi => ?_⟩
            cases hi; exact hr
          · cases e
theorem lendL_ok : ∀ {tms : List Tm} {vs : List V} {fx : List Bool} {r : List (D × Option Nat)} {L : List (Tm × V)} {pv : List V} {pd : List D} {s s' : Sx}, tms.length = vs.length → KTms κ A as σ ts H s tds pv pd (rz tms vs L) → lendL tms fx s = .ok r s' →
    KTms κ A as σ ts H s' tds (vs ++ pv) (r.map (·.1) ++ pd) L ∧ Lent σ (r.map (·.2)) vs ∧ r.length = vs.length
  | [], [], fx, r, L, pv, pd, s, s', _, R, e => by
    obtain ⟨rfl, rfl⟩ := ok_pure.mp e
    exact ⟨R, trivial, rfl⟩
  | t :: tms, v :: vs, fx, r, L, pv, pd, s, s', hl, R, e => by
    simp only [lendL, ok_bind, ok_pure] at e
    obtain ⟨r1, s1, e1, x, s2, e2, e3, e4⟩ := e
    subst e3 e4
    obtain ⟨R1, l1, l2⟩ := lendL_ok (tms := tms) (vs := vs) (L := (t, v) :: L) (by simpa using hl) R e1
    obtain ⟨R2, h2⟩ := lend1_ok R1 e2
    refine ⟨R2, ?_, by simp [l2]⟩
    obtain ⟨d, o⟩ := x
    cases o with
    | none => exact l1
    | some i => exact ⟨h2 i rfl, l1⟩
  | [], _ :: _, _, _, _, _, _, _, _, h, _, _ => by simp at h
  | _ :: _, [], _, _, _, _, _, _, _, h, _, _ => by simp at h
theorem back_ok : ∀ {ls : List (Option Nat)} {vs : List V} {outs : List D} {s : Sx}, outs.length = vs.length → Lent σ ls vs → KRel κ A as σ (vs ++ ts) H s (outs ++ tds) → KRel κ A as σ ts H (back ls outs s) tds
  | [], [], [], s, _, _, R => R
  | some i :: ls, v :: vs, d :: outs, s, hl, h, R => by
    have R1 := Rel.moveIn (i := i) R h.1
    exact back_ok (ls := ls) (vs := vs) (outs := outs) (by simpa using hl) h.2 R1
  | none :: ls, v :: vs, d :: outs, s, hl, h, R => back_ok (ls := ls) (vs := vs) (outs := outs) (by simpa using hl) h (Rel.drop' (ts := vs ++ ts) (tds := outs ++ tds) R)
  | [], _ :: _, _, _, _, h, _ => h.elim
  | some _ :: _, [], _, _, _, h, _ => h.elim
  | none :: _, [], _, _, _, h, _ => h.elim
  | _, _ :: _, [], _, h, _, _ => by simp at h
  | _, [], _ :: _, _, h, _, _ => by simp at h

/-- what a def promises: what the core's meaning of it gives -/
def spF (κ : Kit) (cf : Nat → List D → M (D × List D)) (np : Nat) (i : Nat) : Sp := fun vs H Q E => vs.length = np ∧
  ∃ (ds : List D) (sto : List Ob) (as : List Addr) (Fz Lk : Hp) (tot : Fp) (evs : List V) (fE fT fS : Fp), RelC κ.K κ.T ⟨Fz, Lk, as⟩ [] vs H ⟨[], sto⟩ ds tot evs fE fT fS ∧ Sane ⟨H, tot, Fz, Lk, as, []⟩ as Fz H tot ∧
  match cf i ds ⟨[], sto⟩ with
  | .ok (r, outs) s' => outs.length = vs.length ∧ ∀ v H' as', KRel κ ⟨H, tot, Fz, Lk, as, []⟩ as' [] (v :: vs) H' ⟨[], s'.sto⟩ (r :: outs) → Q v H'
  | .exc c ps s' => ps = [] ∧ s'.env.length = vs.length ∧ ∀ H' as', KRel κ ⟨H, tot, Fz, Lk, as, []⟩ as' [] vs H' ⟨[], s'.sto⟩ s'.env → E (κ.exV c) none H'
  | .fail => False
/-- behind the call: what the callee left, and all else as it was -/
theorem Rel.after {ws : List V} {es : List D} {f fT' tot tot' : Fp} {Fz : Hp} {evs : List V} {fE fS : Fp} {H' : Hp} {as' : List Addr} {sto' : List Ob}
    (fx : ∀ p ∈ A.fix, σ[p.1]? = some (some p.2)) (C : RelC κ.K κ.T ⟨Fz, A.Lk, as⟩ σ ts H s tds tot' evs fE fT' fS) (S : Sane A as Fz H tot) (z : ∀ b, tot b = tot' b + f b)
    (R : KRel κ ⟨H, fun b => f b + fS b, Fz, A.Lk, as, []⟩ as' [] ws H' ⟨[], sto'⟩ es) : KRel κ A as' σ (ws ++ ts) H' { s with sto := sto' } (es ++ tds) := by
  obtain ⟨_, Fz', tot2, evs2, fE2, fT2, fS2, C2, S2⟩ := R
  have hF : ∀ a o, Fz a = some o → Fz' a = some o := S2.fz0
  have hA : as <+: as' := S2.as0
  have ag : ∀ {F : Fp}, (∀ b, F b ≠ 0 → f b + fS b = 0 ∧ ownObj (H b)) → ∀ b, F b ≠ 0 → H' b = H b ∧ A.Lk b = A.Lk b := fun {F} h b hb => by
    obtain ⟨h1, h2⟩ := h b hb
    cases e : H b with
    | none => rw [e] at h2; exact h2.elim
    | some o => exact ⟨S2.kp b o e h1, rfl⟩
  have cE : ∀ b, fE b ≠ 0 → f b + fS b = 0 ∧ ownObj (H b) := fun b hb => ⟨by have := C.sum b; have := z b; have := S.uno b; omega, C.rE.dom b hb⟩
  have cT : ∀ b, fT' b ≠ 0 → f b + fS b = 0 ∧ ownObj (H b) := fun b hb => ⟨by have := C.sum b; have := z b; have := S.uno b; omega, C.rT.dom b hb⟩
  have e0 : ∀ b, fE2 b = 0 := by
    have := C2.rE
    cases this with
    | nil z => exact z
  have rE : Rps κ.K ⟨Fz', A.Lk, as'⟩ H' s.env evs fE := Rps.mono (g := ⟨Fz, A.Lk, as⟩) (g' := ⟨Fz', A.Lk, as'⟩) hF hA C.rE (ag cE)
  have rT : Rps κ.K ⟨Fz', A.Lk, as'⟩ H' tds ts fT' := Rps.mono (g := ⟨Fz, A.Lk, as⟩) (g' := ⟨Fz', A.Lk, as'⟩) hF hA C.rT (ag cT)
  have ne : ∀ b, tot2 b ≠ 0 → fE b = 0 ∧ fT' b = 0 := fun b hb => by
    have e1 := C.sum b
    have e2 := z b
    have e3 := S.uno b
    rcases S2.own b hb with h | h
    · have h : f b + fS b ≠ 0 := h
      constructor <;> omega
    · have h : H b = none := h
      constructor
      · by_cases q : fE b = 0
        · exact q
        · have := (cE b q).2; rw [h] at this; exact this.elim
      · by_cases q : fT' b = 0
        · exact q
        · have := (cT b q).2; rw [h] at this; exact this.elim
  refine ⟨fx, Fz', fun b => fE b + (fT2 b + fT' b) + fS2 b, evs, fE, fun b => fT2 b + fT' b, fS2, ⟨C.env, C.sl, rE, C2.rT.append rT fun _ => rfl, C2.rS, fun _ => rfl⟩, ⟨S2.fzH, fun a o e => hF a o (S.fz0 a o e), S2.lkH, S.as0.trans hA, fun b => ?_, fun b hb => ?_, fun b hb => ?_, fun a o e h0 => ?_, fun b o e => ?_⟩⟩
  · have h1 := C2.sum b
    have h2 := e0 b
    have h3 := S2.uno b
    have h4 := S.uno b
    have h5 := z b
    have h6 := C.sum b
    by_cases q : tot2 b = 0
    · omega
    · have := ne b q; omega
  · have h1 := C2.sum b
    have h2 := e0 b
    by_cases q : tot2 b = 0
    · have hh : fE b ≠ 0 ∨ fT' b ≠ 0 := by omega
      cases e : Fz' b with
      | none => rfl
      | some o =>
        have hH' := S2.fzH b o e
        have hn : Fz b = none := S.nfz b (by have := z b; have := C.sum b; omega)
        rcases S2.fzo b o e with w | w | w
        · have w : Fz b = some o := w; rw [hn] at w; cases w
        · have w : f b + fS b ≠ 0 := w
          have := C.sum b; have := z b; have := S.uno b; omega
        · have w : H b = none := w
          rcases hh with hh | hh
          · have := (cE b hh).2; rw [w] at this; exact this.elim
          · have := (cT b hh).2; rw [w] at this; exact this.elim
    · exact S2.nfz b q
  · have h1 := C2.sum b
    have h2 := e0 b
    by_cases q : tot2 b = 0
    · exact S.own b (by have := z b; have := C.sum b; omega)
    · rcases S2.own b q with h | h
      · exact S.own b (by have h : f b + fS b ≠ 0 := h; have := z b; have := C.sum b; omega)
      · exact S.fresh h
  · have hH := S.kp a o e h0
    refine S2.kp a o hH ?_
    show f a + fS a = 0
    by_cases q : f a + fS a = 0
    · exact q
    · rcases S.own a (by have := z a; have := C.sum a; omega) with h | h
      · exact (h h0).elim
      · rw [h] at e; cases e
  · rcases S2.fzo b o e with w | w | w
    · exact S.fzo b o w
    · exact .inr (S.own b (by have w : f b + fS b ≠ 0 := w; have := z b; have := C.sum b; omega))
    · exact .inr (S.fresh w)

theorem NoEx.lendL : ∀ {ts : List Tm} {fx : List Bool}, NoEx (VS.lendL ts fx)
  | [], _ => .pure
  | t :: ts, fx => by
    refine .bind NoEx.lendL fun r => .bind ?_ fun _ => .pure
    unfold lend1
    have n : NoEx (escN t) := .bind .escape fun _ => .pure
    split
    · exact n
    · split
      · intro s c ps s' e
        unfold lendLoc at e
        split at e <;> cases e
      · exact n
theorem callT_ok {P : Prog} {cf : Nat → List D → M (D × List D)} {f : Nat} {fd : FD} {tms : List Tm} {vs : List V} (hf : P.fns[f]? = some fd) (hl : tms.length = vs.length) (R : KTms κ A as σ ts H s tds [] [] (rz tms vs [])) (h : RunE κ A σ ts tds H0 as0 q W Q (callT P cf f tms s)) (hA : as0 <+: as) (hq : q = false) :
    spF κ cf fd.np f vs H Q (fun c d H' => W c d σ H') := by
  subst hq
  have run : ∃ r s1, tms.length = fd.np ∧ lendL tms fd.fixed s = .ok r s1 ∧ RunE κ A σ ts tds H0 as0 false W Q (callR cf f tms.length r s1) := by
    have e1 : callT P cf f tms s = (need (decide (tms.length = fd.np)) >>= fun _ => lendL tms fd.fixed >>= fun as => callR cf f tms.length as) s := by
      unfold callT; exact bind_ok_of (by rw [hf]; rfl)
    rw [e1] at h
    by_cases hn : tms.length = fd.np
    · rw [bind_ok_of (s1 := s) (a := ()) (by rw [decide_eq_true hn]; rfl)] at h
      cases e : lendL tms fd.fixed s with
      | ok r s1 => rw [bind_ok_of e] at h; exact ⟨r, s1, hn, rfl, h⟩
      | exc c ps s1 => exact (NoEx.lendL _ _ _ _ e).elim
      | fail => rw [bind_fail_of e] at h; exact h.elim
    · rw [bind_fail_of (by rw [decide_eq_false hn]; rfl)] at h
      exact h.elim
  obtain ⟨r, s1, hn, el, h⟩ := run
  obtain ⟨R1, hL, hr⟩ := lendL_ok hl R el
  have R0 := R1.nil
  rw [List.append_nil, List.append_nil] at R0
  obtain ⟨fx, Fz, tot, evs, fE, fT, fS, C, S⟩ := R0
  obtain ⟨vs', ts', g, fT', tot', e0, rp, C', z⟩ := C.pops
  obtain ⟨rfl, rfl⟩ := List.append_inj e0 (by rw [← hr, ← rp.len, List.length_map])
  refine ⟨by rw [← hl, hn], r.map (·.1), s1.sto, as, Fz, A.Lk, fun b => g b + fS b, [], fun _ => 0, g, fS, ⟨fun i d e => by simp at e, rfl, .nil fun _ => rfl, rp, C'.rS, fun b => by simp⟩, ⟨S.fzH, fun _ _ e => e, S.lkH, List.prefix_rfl, fun b => ?_, fun b hb => S.nfz b ?_, fun b hb => .inl hb, fun _ _ e _ => e, fun b o e => .inl e⟩, ?_⟩
  · have := z b; have := C'.sum b; have := S.uno b; omega
  · have := z b; have := C'.sum b; omega
  · unfold callR at h
    cases ec : cf f (r.map (·.1)) ⟨[], s1.sto⟩ with
    | fail => rw [ec] at h; exact h
    | ok ro s2 =>
      obtain ⟨d, outs⟩ := ro
      rw [ec] at h
      dsimp only at h ⊢
      by_cases ho : outs.length = tms.length
      · rw [if_pos ho] at h
        refine ⟨by rw [ho, hl], fun v H' as' R' => ?_⟩
        have R2 := Rel.after fx C' S z R'
        have hlv : outs.length = vs.length := by rw [ho, hl]
        have R3 : KRel κ A as' σ (vs ++ v :: ts) H' { s1 with sto := s2.sto } (outs ++ d :: tds) := Rel.unrot hlv R2
        have R4 := back_ok hlv hL R3
        exact h v H' as' (hA.trans (by obtain ⟨_, Fz', tot2, evs2, fE2, fT2, fS2, C2, S2⟩ := R'; exact S2.as0)) (fun q => by cases q) (TmsR.one R4)
      · rw [if_neg ho] at h; exact h.elim
    | exc c ps s2 =>
      rw [ec] at h
      dsimp only at h ⊢
      by_cases ho : s2.env.length = tms.length
      · rw [if_pos ho] at h
        obtain ⟨h1, h2⟩ := h
        refine ⟨h1, by rw [ho, hl], fun H' as' R' => ?_⟩
        have R2 := Rel.after fx C' S z R'
        exact h2 H' as' _ _ .refl (back_ok (by rw [ho, hl]) hL R2)
      · rw [if_neg ho] at h; exact h.elim
end
end VS
/-! Expressions, one construct after another. -/
namespace VS
open PySem L2
/-- an expression does what the core says, as a value and as a test -/
structure SE (κ : Kit) (X : Cx) (W : WX) (e : Expr) (ev : CE → M Tm) (ce : CE) : Prop where
  pe : PE X e (tE κ W (quiet ce) (ev ce))
  pt : PT X e (tT κ W (quiet ce) (evalB ev ce))
/-- whatever stands for the whole (and, or) -/
def SW (κ : Kit) (X : Cx) (W : WX) (e : Expr) (ev : CE → M Tm) (ce : CE) : Prop := PW X e (tT κ W (quiet ce) (evalB ev ce))
section
variable {κ : Kit} {X : Cx} {W : WX} {ev : CE → M Tm}
theorem truth_bl {d : D} {b : Bool} (h : truth d = some b) : d = .bl b := by
  cases d <;> simp [truth] at h; rw [h]
/-- a value that is a truth, as a test -/
theorem tT_tE {σ : St} {H : Hp} {ce : CE} {q : Bool} {Q : Bool → Hp → Prop} (h : tT κ W q (evalB ev ce) σ H Q) : tE κ W q (ev ce) σ H fun x H1 => ∃ c, x = .bl c ∧ Q c H1 := by
  obtain ⟨A, as, ts, tds, s, R, h⟩ := h
  refine ⟨A, as, ts, tds, s, R, ?_⟩
  have e0 : evalB ev ce s = ((ev ce).bind deref >>= fun d => opt (truth d)) s := rfl
  rw [e0] at h
  cases e1 : ev ce s with
  | fail => rw [bind_fail_of (by exact bind_fail_of e1)] at h; exact h
  | exc c ps s1 =>
    have : (((ev ce).bind deref) >>= fun d => opt (truth d)) s = .exc c ps s1 := ex_bind.mpr (.inl (ex_bind'.mpr (.inl e1)))
    rw [this] at h; exact h
  | ok t s1 =>
    intro v H' as' hA hx R1
    have e2 : ((ev ce).bind deref) s = deref t s1 := bind_ok_of e1
    cases e3 : deref t s1 with
    | fail => rw [bind_fail_of (by rw [e2, e3])] at h; exact h.elim
    | exc c ps s2 => exact (ex_deref.mp e3).elim
    | ok d s2 =>
      obtain ⟨rfl, w⟩ := R1.view (t := t) (v := v) (by simp) e3
      rw [bind_ok_of (by rw [e2, e3])] at h
      cases e4 : truth d with
      | none => rw [e4] at h; exact h.elim
      | some b =>
        rw [e4] at h
        cases truth_bl e4
        cases w
        exact ⟨b, rfl, h H' as' hA hx R1.dropAll⟩
theorem SE.of_pe {e : Expr} {ce : CE} (h : PE X e (tE κ W (quiet ce) (ev ce))) (he : ∀ whole, isTrue e X.env whole = (do let v ← whole; standAt e.pos; holding [v] (truthy v))) : SE κ X W e ev ce :=
  ⟨h, (pt_val h he).mono fun σ H Q q => tT_tE q⟩

/-! ### leaves -/
variable {P : Prog} {cf : Nat → List D → M (D × List D)}
theorem snd_loc {i : Nat} {x : Str} {pos : Pos} {q : Bool} (hN : X.N[i]? = some x) (hv : Vis X.env.scope x) (hd : (x == ("__debug__" : Str)) = false) (hcd : (x == ("__classdict__" : Str)) = false) : PE X (.Name x pos) (tE κ W q (step P ev cf (.loc i))) := by
  refine (pe_var hN hv hd hcd).mono fun σ H Q h => ?_
  obtain ⟨A, as, ts, tds, s, R, h⟩ := h
  have e0 : step P ev cf (.loc i) s = (match s.env[i]? with | some .gone => .fail | some d => .ok (placed ⟨.loc i, []⟩ d) s | none => .fail) := rfl
  rw [e0] at h
  cases e : s.env[i]? with
  | none => rw [e] at h; exact h.elim
  | some d =>
    rw [e] at h
    by_cases hd : d = .gone
    · subst hd; exact h.elim
    · have h : RunE κ A σ ts tds H as q W Q (.ok (placed ⟨.loc i, []⟩ d) s) := by cases d <;> first | exact (hd rfl).elim | exact h
      obtain ⟨v, hσ⟩ := Rel.getσ R e hd
      have eg : s.getP ⟨.loc i, []⟩ = some d := by simp [Sx.getP, Sx.getR, e, D.get]
      have ap : AtP as σ H ⟨.loc i, []⟩ v := ⟨v, hσ, .nil⟩
      refine ⟨v, hσ, h v H as List.prefix_rfl (fun _ => Ext.refl) ?_⟩
      unfold placed
      by_cases hp : d.plain = true
      · rw [if_pos hp]; exact TmsR.one (Rel.at_plain R ap eg hp)
      · rw [if_neg hp]
        refine ⟨rfl, R, fun p w hm => ?_⟩
        simp at hm
        obtain ⟨rfl, rfl⟩ := hm
        exact ap
/-- a thing of the module that is one flat value -/
def Scal (d : D) (v : V) : Prop := ∀ (K : PySem.W.Frag) (g : Gh) (H : Hp), Rp K g H d v fun _ => 0
theorem tE_scal {e : Expr} {d : D} {v : V} {q : Bool} {m : M Tm} (hm : ∀ s, m s = .ok (.val d) s) (hs : Scal d v) (h : PE X e (tC v)) : PE X e (tE κ W q m) := by
  refine h.mono fun σ H Q h => ?_
  obtain ⟨A, as, ts, tds, s, R, h⟩ := h
  rw [hm] at h
  exact h v H as List.prefix_rfl (fun _ => Ext.refl) (TmsR.one (R.scal fun g _ => hs _ g H))
theorem scal_int (i : Int) : Scal (.int i) (.int i) := fun _ _ _ => .int fun _ => rfl
theorem scal_bl (i : Bool) : Scal (.bl i) (.bl i) := fun _ _ _ => .bl fun _ => rfl
theorem scal_str (i : Str) : Scal (.str i) (.str i) := fun _ _ _ => .str fun _ => rfl
theorem scal_non : Scal .non .non := fun _ _ _ => .non fun _ => rfl
theorem snd_glo {x : Str} {d : D} {v : V} {u : Value} {pos : Pos} {q : Bool} (hg : Gl X x) (hm : X.mg x = some u) (r : RelV v u) (hp : P.glob x = some d) (hs : Scal d v) (hd : (x == ("__debug__" : Str)) = false) : PE X (.Name x pos) (tE κ W q (step P ev cf (.glo x))) :=
  tE_scal (d := d) (fun s => by show (opt (P.glob x)).bind _ s = _; rw [hp]; rfl) hs (pe_glob hg hm r hd)
theorem snd_lit {q : Bool} : ∀ {l : Lit} {k : Const} {j : Nat} {pos : Pos}, (match l, k with | .int i, .int i' => i = i' | .str x, .str y => x = y | .bl b, .bool c => b = c | .non, .none => True | _, _ => False) → PE X (.Constant k j pos) (tE κ W q (step P ev cf (.lit l)))
  | .int i, .int _, _, _, h => by cases h; exact tE_scal (fun s => rfl) (scal_int i) pe_int
  | .str i, .str _, _, _, h => by cases h; exact tE_scal (fun s => rfl) (scal_str i) pe_str
  | .bl i, .bool _, _, _, h => by cases h; exact tE_scal (fun s => rfl) (scal_bl i) pe_bl
  | .non, .none, _, _, h => tE_scal (fun s => rfl) scal_non pe_non

/-! ### operands -/
theorem M.assoc {α β γ : Type} (m : M α) (f : α → M β) (g : β → M γ) : (m.bind f).bind g = m.bind fun a => (f a).bind g := by
  funext s
  show (match (match m s with | .ok a s' => f a s' | .exc c ps s' => .exc c ps s' | .fail => .fail) with | .ok a s' => g a s' | .exc c ps s' => .exc c ps s' | .fail => .fail) = (match m s with | .ok a s' => (f a).bind g s' | .exc c ps s' => .exc c ps s' | .fail => .fail)
  cases m s <;> rfl
theorem M.pureB {α β : Type} (a : α) (f : α → M β) : (pure a : M α).bind f = f a := rfl
theorem M.optB {α β : Type} (a : α) (f : α → M β) : (opt (some a)).bind f = f a := rfl
theorem M.eta {α β : Type} {m : M α} {f g : α → M β} (h : ∀ a, f a = g a) : m.bind f = m.bind g := by rw [funext h]
section
variable {A : Act} {σ : St} {ts : List V} {tds : List D} {as as1 : List Addr} {H H1 : Hp} {s s1 : Sx} {q q' : Bool}
theorem RunE.shift {Q : VK} {o : Out Tm} (h : RunE κ A σ ts tds H as q W Q o) (hA : as <+: as1) (hx : q = true → Ext H H1 ∧ q' = true) : RunE κ A σ ts tds H1 as1 q' W Q o := by
  cases o with
  | ok t s => exact fun v H' as' h1 h2 r => h v H' as' (hA.trans h1) (fun z => ((hx z).1).trans (h2 (hx z).2)) r
  | exc c ps s => exact h
  | fail => exact h
theorem RunB.shift {Q : Bool → Hp → Prop} {o : Out Bool} (h : RunB κ A σ ts tds H as q W Q o) (hA : as <+: as1) (hx : q = true → Ext H H1 ∧ q' = true) : RunB κ A σ ts tds H1 as1 q' W Q o := by
  cases o with
  | ok t s => exact fun H' as' h1 h2 r => h H' as' (hA.trans h1) (fun z => ((hx z).1).trans (h2 (hx z).2)) r
  | exc c ps s => exact h
  | fail => exact h
end
/-- one operand, by its place -/
theorem oneT {σ : St} {H : Hp} {a : CE} {k : Tm → M Tm} {q : Bool} {Q : VK} {r : V → Hp → Prop} (h : tE κ W q ((ev a).bind k) σ H Q)
    (hk : ∀ {A as as1 ts tds t s1 v H1}, as <+: as1 → (quiet a = true → Ext H H1) → KTms κ A as1 σ ts H1 s1 tds [] [] [(t, v)] → RunE κ A σ ts tds H as q W Q (k t s1) → r v H1) : tE κ W (quiet a) (ev a) σ H r := by
  obtain ⟨A, as, ts, tds, s, R, h⟩ := h
  refine ⟨A, as, ts, tds, s, R, ?_⟩
  cases e1 : ev a s with
  | fail => rw [show ((ev a).bind k) s = _ from bind_fail_of e1] at h; exact h
  | exc c ps s1 => rw [show ((ev a).bind k) s = .exc c ps s1 from ex_bind'.mpr (.inl e1)] at h; exact h
  | ok t s1 =>
    intro v H' as' hA hx R1
    rw [show ((ev a).bind k) s = _ from bind_ok_of e1] at h
    exact hk hA hx R1 h
/-- one operand, read -/
theorem oneD {σ : St} {H : Hp} {a : CE} {k : D → M Tm} {q : Bool} {Q : VK} {r : V → Hp → Prop} (h : tE κ W q ((evalD ev a).bind k) σ H Q)
    (hk : ∀ {A as as1 ts tds d s1 v H1}, as <+: as1 → (quiet a = true → Ext H H1) → Vw κ.K as1 H1 d v → KRel κ A as1 σ ts H1 s1 tds → RunE κ A σ ts tds H as q W Q (k d s1) → r v H1) : tE κ W (quiet a) (ev a) σ H r := by
  unfold evalD at h
  rw [M.assoc] at h
  refine oneT h fun hA hx R h => ?_
  rename_i A as as1 ts tds t s1 v H1
  cases e3 : deref t s1 with
  | fail => rw [show ((deref t).bind k) s1 = _ from bind_fail_of e3] at h; exact h.elim
  | exc c ps s2 => exact (ex_deref.mp e3).elim
  | ok d s2 =>
    obtain ⟨rfl, w⟩ := R.view (t := t) (v := v) (by simp) e3
    rw [show ((deref t).bind k) s2 = _ from bind_ok_of e3] at h
    exact hk hA hx w R.dropAll h
theorem oneB {σ : St} {H : Hp} {a : CE} {k : Bool → M Tm} {q : Bool} {Q : VK} {r : Bool → Hp → Prop} (h : tE κ W q ((evalB ev a).bind k) σ H Q)
    (hk : ∀ {A as as1 ts tds b s1 H1}, as <+: as1 → (quiet a = true → Ext H H1) → KRel κ A as1 σ ts H1 s1 tds → RunE κ A σ ts tds H as q W Q (k b s1) → r b H1) : tT κ W (quiet a) (evalB ev a) σ H r := by
  obtain ⟨A, as, ts, tds, s, R, h⟩ := h
  refine ⟨A, as, ts, tds, s, R, ?_⟩
  cases e1 : evalB ev a s with
  | fail => rw [show ((evalB ev a).bind k) s = _ from bind_fail_of e1] at h; exact h
  | exc c ps s1 => rw [show ((evalB ev a).bind k) s = .exc c ps s1 from ex_bind'.mpr (.inl e1)] at h; exact h
  | ok t s1 =>
    intro H' as' hA hx R1
    rw [show ((evalB ev a).bind k) s = _ from bind_ok_of e1] at h
    exact hk hA hx R1 h
theorem oneBB {σ : St} {H : Hp} {a : CE} {k : Bool → M Bool} {q : Bool} {Q : Bool → Hp → Prop} {r : Bool → Hp → Prop} (h : tT κ W q ((evalB ev a).bind k) σ H Q)
    (hk : ∀ {A as as1 ts tds b s1 H1}, as <+: as1 → (quiet a = true → Ext H H1) → KRel κ A as1 σ ts H1 s1 tds → RunB κ A σ ts tds H as q W Q (k b s1) → r b H1) : tT κ W (quiet a) (evalB ev a) σ H r := by
  obtain ⟨A, as, ts, tds, s, R, h⟩ := h
  refine ⟨A, as, ts, tds, s, R, ?_⟩
  cases e1 : evalB ev a s with
  | fail => rw [show ((evalB ev a).bind k) s = _ from bind_fail_of e1] at h; exact h
  | exc c ps s1 => rw [show ((evalB ev a).bind k) s = .exc c ps s1 from ex_bind'.mpr (.inl e1)] at h; exact h
  | ok t s1 =>
    intro H' as' hA hx R1
    rw [show ((evalB ev a).bind k) s = _ from bind_ok_of e1] at h
    exact hk hA hx R1 h
/-- a truth, as a value -/
theorem tE_evalB {σ : St} {H : Hp} {a : CE} {k : Bool → M Tm} {q : Bool} {Q : VK} {r : Bool → Hp → Prop} (h : tE κ W q ((evalB ev a).bind k) σ H Q)
    (hk : ∀ {A as as1 ts tds b s1 H1}, as <+: as1 → (quiet a = true → Ext H H1) → KRel κ A as1 σ ts H1 s1 tds → RunE κ A σ ts tds H as q W Q (k b s1) → r b H1) : tE κ W (quiet a) (ev a) σ H fun x H1 => ∃ c, x = .bl c ∧ r c H1 := tT_tE (oneB h hk)
theorem RunE.pureV {A : Act} {σ : St} {ts : List V} {tds : List D} {as as1 : List Addr} {H H1 : Hp} {s : Sx} {q : Bool} {Q : VK} {d : D} {v : V} (h : RunE κ A σ ts tds H as q W Q ((pure (.val d) : M Tm) s)) (hA : as <+: as1) (hx : q = true → Ext H H1) (R : KRel κ A as1 σ ts H1 s tds) (hs : Scal d v) : Q v H1 :=
  h v H1 as1 hA hx (TmsR.one (R.scal fun g _ => hs _ g H1))
theorem two {σ : St} {H : Hp} {a b : CE} {k : Tm → Tm → M Tm} {q : Bool} {Q : VK} {r : V → V → Hp → Prop} (h : tE κ W q ((evalL ev [a, b]).bind (op2 k)) σ H Q)
    (hk : ∀ {A as as1 ts tds t1 t2 s1 v1 v2 H1}, as <+: as1 → ((quiet a && quiet b) = true → Ext H H1) → KTms κ A as1 σ ts H1 s1 tds [] [] [(t2, v2), (t1, v1)] → RunE κ A σ ts tds H as q W Q (k t1 t2 s1) → r v1 v2 H1) :
    tE κ W (quiet a) (ev a) σ H fun x H1 => tE κ W (quiet b) (ev b) σ H1 fun y H2 => r x y H2 := by
  refine tLs_bind (es := [a, b]) (Q' := fun vs H2 => match vs with | [x, y] => r x y H2 | _ => True) h fun {A as ts tds tms s1 vs H1 as1} hl hA hx R hr hl2 => ?_
  match tms, vs, hl, hl2 with
  | [t1, t2], [v1, v2], _, _ => exact hk hA (fun q => hx (by simpa [quietL] using q)) R hr
theorem snd_bin {a b : Expr} {ca cb : CE} {op : Bop} {pos : Pos} (ha : SE κ X W a ev ca) (hb : SE κ X W b ev cb) (hK : X.K = κ.K) : PE X (.BinOp a (bopE op) b pos) (tE κ W (quiet (.bin op ca cb)) (step P ev cf (.bin op ca cb))) := by
  refine (pe_op (op_bin op) ha.pe hb.pe).mono fun σ H Q h => ?_
  rw [hK]
  have h : tE κ W (quiet (.bin op ca cb)) ((evalL ev [ca, cb]).bind (op2 (binT op))) σ H Q := h
  exact two h fun hA hx R hr => bin_ok op R hr hA (fun q => hx (by simpa [quiet] using q))
end
end VS
namespace VS
open PySem L2
section
variable {κ : Kit} {X : Cx} {W : WX} {ev : CE → M Tm} {P : Prog} {cf : Nat → List D → M (D × List D)} {a b c : Expr} {ca cb cc : CE} {pos : Pos}
theorem tE.monoQ {m : M Tm} {q : Bool} {σ : St} {H : Hp} {Q Q' : VK} (h : tE κ W q m σ H Q) (hi : ∀ v H, Q v H → Q' v H) : tE κ W q m σ H Q' := by
  obtain ⟨A, as, ts, tds, s, R, h⟩ := h
  refine ⟨A, as, ts, tds, s, R, ?_⟩
  cases e : m s with
  | ok t s' => rw [e] at h; exact fun v H' as' h1 h2 r => hi _ _ (h v H' as' h1 h2 r)
  | exc c ps s' => rw [e] at h; exact h
  | fail => rw [e] at h; exact h
theorem M.bindPure {α : Type} (m : M α) : (m.bind fun a => (pure a : M α)) = m := by
  funext s
  show (match m s with | .ok a s' => .ok a s' | .exc c ps s' => .exc c ps s' | .fail => .fail) = m s
  cases m s <;> rfl
/-- a rule whose value is read and whose test is its value -/
theorem SE.of2 {e : Expr} {ce : CE} {t : TE} (pe : PE X e t) (pt : PT X e (fun σ H Q => t σ H fun x H' => ∃ k, x = .bl k ∧ Q k H')) (hi : ∀ σ H Q, tE κ W (quiet ce) (ev ce) σ H Q → t σ H Q) : SE κ X W e ev ce :=
  ⟨pe.mono hi, pt.mono fun σ H Q h => hi _ _ _ (tT_tE h)⟩
theorem andq {a b : Bool} (h : (a && b) = true) : a = true ∧ b = true := by simpa using h
theorem Scal.blv (b : Bool) : Scal (.bl b) (.bl b) := scal_bl b
theorem snd_neg (ha : SE κ X W a ev ca) : PE X (.UnaryOp .USub a pos) (tE κ W (quiet (.neg ca)) (step P ev cf (.neg ca))) := by
  refine (pe_un un_neg ha.pe).mono fun σ H Q h => ?_
  have h : tE κ W (quiet ca) (((evalD ev ca).bind fun d => match d with | .int i => (pure i : M Int) | _ => VS.fail).bind fun i => (pure (.val (.int (-i))) : M Tm)) σ H Q := h
  rw [M.assoc] at h
  refine oneD h fun {A as as1 ts tds d s1 v H1} hA hx w R h => ?_
  cases w with
  | int => exact ⟨_, rfl, h.pureV hA hx R (scal_int _)⟩
  | _ => exact h.elim
/-! ### not, and, or -/
theorem evalB_not : evalB (step P ev cf) (.not ca) = (evalB ev ca).bind fun x => (pure (!x) : M Bool) := by
  show (((evalB ev ca).bind fun x => (pure (.val (.bl (!x))) : M Tm)).bind deref).bind (fun d => opt (truth d)) = _
  rw [M.assoc, M.assoc]
  rfl
theorem snd_not (ha : SE κ X W a ev ca) : SE κ X W (.UnaryOp .Not a pos) (step P ev cf) (.not ca) := by
  refine ⟨(pe_not ha.pe).mono fun σ H Q h => ?_, (pt_not ha.pt).mono fun σ H Q h => ?_⟩
  · have h : tE κ W (quiet ca) ((evalB ev ca).bind fun x => (pure (.val (.bl (!x))) : M Tm)) σ H Q := h
    exact tE_evalB (r := fun b H1 => Q (.bl (!b)) H1) h fun hA hx R h => h.pureV hA hx R (scal_bl _)
  · have h : tT κ W (quiet ca) (evalB (step P ev cf) (.not ca)) σ H Q := h
    rw [evalB_not] at h
    exact oneBB h fun hA hx R h => h _ _ hA hx R
/-- the rest of an and / or -/
structure SBo (κ : Kit) (X : Cx) (W : WX) (op : BoolOp) (es : List Expr) (pos : Pos) (ev : CE → M Tm) (ce : CE) : Prop where
  pe : PE X (.BoolOp op es pos) (tE κ W (quiet ce) (ev ce))
  pw : PW X (.BoolOp op es pos) (tT κ W (quiet ce) (evalB ev ce))
theorem SBo.se {op : BoolOp} {es : List Expr} (h : SBo κ X W op es pos ev ca) : SE κ X W (.BoolOp op es pos) ev ca := ⟨h.pe, h.pw.pt⟩
theorem SBo.one : ∀ {op : BoolOp}, SE κ X W a ev ca → SBo κ X W op [a] pos ev ca
  | .And, h => ⟨pe_one h.pe, pw_and1 h.pt⟩
  | .Or, h => ⟨pe_one h.pe, pw_or1 h.pt⟩
theorem evalB_and : evalB (step P ev cf) (.and ca cb) = (evalB ev ca).bind fun x => if x = true then evalB ev cb else (pure false : M Bool) := by
  show (((evalB ev ca).bind fun x => if x = true then (evalB ev cb).bind fun y => (pure (.val (.bl y)) : M Tm) else (pure (.val (.bl false)) : M Tm)).bind deref).bind (fun d => opt (truth d)) = _
  rw [M.assoc, M.assoc]
  refine M.eta fun x => ?_
  cases x with
  | false => rfl
  | true =>
    show ((evalB ev cb).bind fun y => (pure (.val (.bl y)) : M Tm)).bind (fun a => (deref a).bind fun d => opt (truth d)) = evalB ev cb
    rw [M.assoc]
    exact M.bindPure _
theorem evalB_or : evalB (step P ev cf) (.or ca cb) = (evalB ev ca).bind fun x => if x = true then (pure true : M Bool) else evalB ev cb := by
  show (((evalB ev ca).bind fun x => if x = true then (pure (.val (.bl true)) : M Tm) else (evalB ev cb).bind fun y => (pure (.val (.bl y)) : M Tm)).bind deref).bind (fun d => opt (truth d)) = _
  rw [M.assoc, M.assoc]
  refine M.eta fun x => ?_
  cases x with
  | true => rfl
  | false =>
    show ((evalB ev cb).bind fun y => (pure (.val (.bl y)) : M Tm)).bind (fun a => (deref a).bind fun d => opt (truth d)) = evalB ev cb
    rw [M.assoc]
    exact M.bindPure _
/-- the rest's run, from where the first part leaves -/
theorem tE.rest {A : Act} {σ : St} {ts : List V} {tds : List D} {as as1 : List Addr} {H H1 : Hp} {s1 : Sx} {q : Bool} {Q : VK} (h : RunE κ A σ ts tds H as q W Q (((evalB ev cb).bind fun y => (pure (.val (.bl y)) : M Tm)) s1)) (hA : as <+: as1) (hx : q = true → Ext H H1) (hq : q = true → quiet cb = true) (R : KRel κ A as1 σ ts H1 s1 tds) : tE κ W (quiet cb) (ev cb) σ H1 Q := by
  have h1 : tE κ W q ((evalB ev cb).bind fun y => (pure (.val (.bl y)) : M Tm)) σ H1 Q := ⟨A, as1, ts, tds, s1, R, h.shift hA fun z => ⟨hx z, z⟩⟩
  exact (tE_evalB (r := fun b H2 => Q (.bl b) H2) h1 fun hA hx R h => h.pureV hA (fun z => hx (hq z)) R (scal_bl _)).monoQ fun v H ⟨c, e, h⟩ => e ▸ h
theorem SBo.and {es : List Expr} (ha : SE κ X W a ev ca) (hb : SBo κ X W .And (b :: es) pos ev cb) : SBo κ X W .And (a :: b :: es) pos (step P ev cf) (.and ca cb) := by
  refine ⟨(pe_and ha.pe hb.pe).mono fun σ H Q h => ?_, (pw_and ha.pt hb.pw).mono fun σ H Q h => ?_⟩
  · have h : tE κ W (quiet ca && quiet cb) ((evalB ev ca).bind fun x => if x = true then (evalB ev cb).bind fun y => (pure (.val (.bl y)) : M Tm) else (pure (.val (.bl false)) : M Tm)) σ H Q := h
    refine tE_evalB (r := fun c H1 => if c = true then tE κ W (quiet cb) (ev cb) σ H1 Q else Q (.bl false) H1) h fun {A as as1 ts tds b s1 H1} hA hx R h => ?_
    cases b with
    | true => exact tE.rest h hA (fun z => hx (andq z).1) (fun z => (andq z).2) R
    | false => exact RunE.pureV h hA (fun z => hx (andq z).1) R (scal_bl _)
  · have h : tT κ W (quiet ca && quiet cb) (evalB (step P ev cf) (.and ca cb)) σ H Q := h
    rw [evalB_and] at h
    refine oneBB h fun {A as as1 ts tds b s1 H1} hA hx R h => ?_
    cases b with
    | true => exact ⟨A, as1, ts, tds, s1, R, RunB.shift h hA fun z => ⟨hx (andq z).1, (andq z).2⟩⟩
    | false => exact h _ _ hA (fun z => hx (andq z).1) R
theorem SBo.or {es : List Expr} (ha : SE κ X W a ev ca) (hb : SBo κ X W .Or (b :: es) pos ev cb) : SBo κ X W .Or (a :: b :: es) pos (step P ev cf) (.or ca cb) := by
  refine ⟨(pe_or ha.pe hb.pe).mono fun σ H Q h => ?_, (pw_or ha.pt hb.pw).mono fun σ H Q h => ?_⟩
  · have h : tE κ W (quiet ca && quiet cb) ((evalB ev ca).bind fun x => if x = true then (pure (.val (.bl true)) : M Tm) else (evalB ev cb).bind fun y => (pure (.val (.bl y)) : M Tm)) σ H Q := h
    refine tE_evalB (r := fun c H1 => if c = true then Q (.bl true) H1 else tE κ W (quiet cb) (ev cb) σ H1 Q) h fun {A as as1 ts tds b s1 H1} hA hx R h => ?_
    cases b with
    | false => exact tE.rest h hA (fun z => hx (andq z).1) (fun z => (andq z).2) R
    | true => exact RunE.pureV h hA (fun z => hx (andq z).1) R (scal_bl _)
  · have h : tT κ W (quiet ca && quiet cb) (evalB (step P ev cf) (.or ca cb)) σ H Q := h
    rw [evalB_or] at h
    refine oneBB h fun {A as as1 ts tds b s1 H1} hA hx R h => ?_
    cases b with
    | false => exact ⟨A, as1, ts, tds, s1, R, RunB.shift h hA fun z => ⟨hx (andq z).1, (andq z).2⟩⟩
    | true => exact h _ _ hA (fun z => hx (andq z).1) R

/-! ### comparisons -/
theorem cmpG_ok {A : Act} {σ : St} {ts : List V} {tds : List D} {as as0 : List Addr} {H H0 : Hp} {s : Sx} {q : Bool} {Q : VK} (op : Cop) {t1 t2 : Tm} {v1 v2 : V} (R : KTms κ A as σ ts H s tds [] [] [(t2, v2), (t1, v1)]) (h : RunE κ A σ ts tds H0 as0 q W Q (cmpG op t1 t2 s)) (hA : as0 <+: as) (hx : q = true → Ext H0 H) : rCmp κ.K op v1 v2 H Q := by
  have e0 : cmpG op t1 t2 s = (deref t2 >>= fun y => need (noDT y) >>= fun _ => cmpT op t1 t2) s := rfl
  rw [e0] at h
  cases e : deref t2 s with
  | fail => rw [bind_fail_of e] at h; exact h.elim
  | exc c ps s1 => exact (ex_deref.mp e).elim
  | ok d s1 =>
    obtain ⟨rfl, w⟩ := R.view (t := t2) (v := v2) (by simp) e
    rw [bind_ok_of e] at h
    cases hn : noDT d with
    | false => rw [hn] at h; exact h.elim
    | true =>
      rw [hn] at h
      refine cmpT_ok op R h hA hx fun d' e' => ?_
      rw [e] at e'
      cases e'
      rintro o ks ds rfl; cases hn
theorem snd_cmp {op : Cop} (hu : X.A.units + 65 < cLine) (hK : X.K = κ.K) (ha : SE κ X W a ev ca) (hb : SE κ X W b ev cb) (hm : behindInMarks (copE op) b = false) : SE κ X W (.Compare a [copE op] [b] pos) (step P ev cf) (.cmp op ca cb) := by
  refine SE.of2 (pe_cmpR (op_cmp hu op) ha.pe hb.pe hm) (pt_cmpR (op_cmp hu op) ha.pe hb.pe hm) fun σ H Q h => ?_
  rw [hK]
  have h : tE κ W (quiet ca && quiet cb) ((evalL ev [ca, cb]).bind (op2 (cmpG op))) σ H Q := h
  exact two h fun hA hx R h => cmpG_ok op R h hA hx
theorem snd_isN {j pos'} (ha : SE κ X W a ev ca) : SE κ X W (.Compare a [.Is] [.Constant .none j pos'] pos) (step P ev cf) (.isN ca) := by
  refine SE.of2 (pe_cmp (pc_isN ha.pe)) (pt_cmp (pc_isN ha.pe)) fun σ H Q h => ?_
  have h : tE κ W (quiet ca) ((evalD ev ca).bind fun d => match d with | .gone => (VS.fail : M Tm) | .non => pure (.val (.bl true)) | _ => pure (.val (.bl false))) σ H Q := h
  refine oneD h fun {A as as1 ts tds d s1 v H1} hA hx w R h => ?_
  cases w with
  | non => exact h.pureV hA hx R (scal_bl _)
  | gone => exact h.elim
  | _ => exact RunE.pureV (d := .bl false) (v := .bl false) h hA hx R (scal_bl _)
theorem snd_notN {j pos'} (ha : SE κ X W a ev ca) : SE κ X W (.Compare a [.IsNot] [.Constant .none j pos'] pos) (step P ev cf) (.notN ca) := by
  refine SE.of2 (pe_cmp (pc_notN ha.pe)) (pt_cmp (pc_notN ha.pe)) fun σ H Q h => ?_
  have h : tE κ W (quiet ca) ((evalD ev ca).bind fun d => match d with | .gone => (VS.fail : M Tm) | .non => pure (.val (.bl false)) | _ => pure (.val (.bl true))) σ H Q := h
  refine oneD h fun {A as as1 ts tds d s1 v H1} hA hx w R h => ?_
  cases w with
  | non => exact h.pureV hA hx R (scal_bl _)
  | gone => exact h.elim
  | _ => exact RunE.pureV (d := .bl true) (v := .bl true) h hA hx R (scal_bl _)
end
end VS
namespace VS
open PySem L2
section
variable {κ : Kit} {X : Cx} {W : WX} {ev : CE → M Tm} {P : Prog} {cf : Nat → List D → M (D × List D)} {a b c : Expr} {ca cb cc : CE} {pos : Pos}
theorem oneI {σ : St} {H : Hp} {k : Int → M Tm} {q : Bool} {Q : VK} {r : V → Hp → Prop} (h : tE κ W q ((evalI ev ca).bind k) σ H Q)
    (hk : ∀ {A as as1 ts tds i s1 H1}, as <+: as1 → (quiet ca = true → Ext H H1) → KRel κ A as1 σ ts H1 s1 tds → RunE κ A σ ts tds H as q W Q (k i s1) → r (.int i) H1) : tE κ W (quiet ca) (ev ca) σ H r := by
  have h : tE κ W q (((evalD ev ca).bind fun d => match d with | .int i => (pure i : M Int) | _ => VS.fail).bind k) σ H Q := h
  rw [M.assoc] at h
  refine oneD h fun {A as as1 ts tds d s1 v H1} hA hx w R h => ?_
  cases w with
  | int => exact hk hA hx R h
  | _ => exact h.elim
theorem cmpI {K : PySem.W.Frag} {H : Hp} {op : Cop} {x y : Int} {r : Bool} {Q : VK} (h : cmpD op (.int x) (.int y) = some r) (hQ : Q (.bl r) H) : rCmp K op (.int x) (.int y) H Q :=
  cmpD_ok (κ := ⟨K, fun _ => 0, fun _ => .none⟩) (as := []) op .int .int h (fun _ _ _ e => by cases e) hQ
theorem snd_chain {o1 o2 : Cop} (hu : X.A.units + 65 < cLine) (hK : X.K = κ.K) (ha : SE κ X W a ev ca) (hb : SE κ X W b ev cb) (hc : SE κ X W c ev cc) (hm : lastMarks [copE o1, copE o2] [b, c] = false) : SE κ X W (.Compare a [copE o1, copE o2] [b, c] pos) (step P ev cf) (.chain o1 o2 ca cb cc) := by
  refine SE.of2 (pe_chain (op_cmp hu o1) (op_cmp hu o2) ha.pe hb.pe hc.pe hm) (pt_chain (op_cmp hu o1) (op_cmp hu o2) ha.pe hb.pe hc.pe hm) fun σ H Q h => ?_
  rw [hK]
  have h : tE κ W (quiet ca && quiet cb && quiet cc) ((evalI ev ca).bind fun x => (evalI ev cb).bind fun y => (opt (cmpD o1 (.int x) (.int y))).bind fun r => if r = true then ((evalI ev cc).bind fun z => (opt (cmpD o2 (.int y) (.int z))).bind fun r' => (pure (.val (.bl r')) : M Tm)) else (pure (.val (.bl false)) : M Tm)) σ H Q := h
  refine oneI h fun {A as as1 ts tds x s1 H1} hA hx R h => ?_
  have h : tE κ W (quiet ca && quiet cb && quiet cc) _ σ H1 Q := ⟨A, as1, ts, tds, s1, R, RunE.shift h hA fun z => ⟨hx (andq (andq z).1).1, z⟩⟩
  refine oneI h fun {A as as1 ts tds y s1 H2} hA hx R h => ?_
  cases e : cmpD o1 (.int x) (.int y) with
  | none => rw [e] at h; exact h.elim
  | some r =>
    rw [e] at h
    refine cmpI e ⟨r, rfl, ?_⟩
    cases r with
    | false => exact RunE.pureV (d := .bl false) h hA (fun z => hx (andq (andq z).1).2) R (scal_bl _)
    | true =>
      have h : tE κ W (quiet ca && quiet cb && quiet cc) ((evalI ev cc).bind fun z => (opt (cmpD o2 (.int y) (.int z))).bind fun r' => (pure (.val (.bl r')) : M Tm)) σ H2 Q := ⟨A, as1, ts, tds, s1, R, RunE.shift h hA fun z => ⟨hx (andq (andq z).1).2, z⟩⟩
      refine oneI h fun {A as as1 ts tds w s1 H3} hA hx R h => ?_
      cases e : cmpD o2 (.int y) (.int w) with
      | none => rw [e] at h; exact h.elim
      | some r =>
        rw [e] at h
        exact cmpI e (RunE.pureV (d := .bl r) h hA (fun z => hx (andq z).2) R (scal_bl _))
theorem snd_ite (hc : SE κ X W c ev cc) (ha : SE κ X W a ev ca) (hb : SE κ X W b ev cb) : PE X (.IfExp c a b pos) (tE κ W (quiet (.ite cc ca cb)) (step P ev cf (.ite cc ca cb))) := by
  refine (pe_ifExp hc.pt ha.pe hb.pe).mono fun σ H Q h => ?_
  have h : tE κ W (quiet ca && quiet cb && quiet cc) ((evalB ev cc).bind fun x => if x = true then ev ca else ev cb) σ H Q := h
  refine oneB h fun {A as as1 ts tds b s1 H1} hA hx R h => ?_
  cases b with
  | true => exact ⟨A, as1, ts, tds, s1, R, RunE.shift h hA fun z => ⟨hx (andq z).2, (andq (andq z).1).1⟩⟩
  | false => exact ⟨A, as1, ts, tds, s1, R, RunE.shift h hA fun z => ⟨hx (andq z).2, (andq (andq z).1).2⟩⟩
theorem subG_ok {A : Act} {σ : St} {ts : List V} {tds : List D} {as as0 : List Addr} {H H0 : Hp} {s : Sx} {q : Bool} {Q : VK} {t1 t2 : Tm} {v1 v2 : V} (R : KTms κ A as σ ts H s tds [] [] [(t2, v2), (t1, v1)]) (h : RunE κ A σ ts tds H0 as0 q W Q (subG t1 t2 s)) (hA : as0 <+: as) (hx : q = true → Ext H0 H) : rSub κ.K v1 v2 H Q := by
  have e0 : subG t1 t2 s = (deref t1 >>= fun y => need (noDT y) >>= fun _ => subT t1 t2) s := rfl
  rw [e0] at h
  cases e : deref t1 s with
  | fail => rw [bind_fail_of e] at h; exact h.elim
  | exc c ps s1 => exact (ex_deref.mp e).elim
  | ok d s1 =>
    obtain ⟨rfl, w⟩ := R.view (t := t1) (v := v1) (by simp) e
    rw [bind_ok_of e] at h
    cases hn : noDT d with
    | false => rw [hn] at h; exact h.elim
    | true =>
      rw [hn] at h
      refine subT_ok R h hA hx fun d' e' => ?_
      rw [e] at e'
      cases e'
      rintro o ks ds rfl; cases hn
theorem ix_dict (hu : X.A.units + 1 < cLine) : IxR X rDGet := by
  intro value slice pins s σ H x y v u Q I rx ry h hs
  obtain ⟨a, z, rfl, g, q⟩ := h
  obtain rfl : v = Value.ref a := rx
  exact PyProof.Rows.tail_any (dict_typeIs I g) PySem.F.slot_dict_getitem.lookup (d_getItem hu I g ry fun w' s' I' rw' => ⟨z, H, I', rw', q⟩) hs
theorem snd_sub (hu : X.A.units + 1 < cLine) (hK : X.K = κ.K) (ha : SE κ X W a ev ca) (hb : SE κ X W b ev cb) (hs : PlainIx b) : PE X (.Subscript a b pos) (tE κ W (quiet (.sub ca cb)) (step P ev cf (.sub ca cb))) := by
  refine (pe_ix (r := rSub X.K) (ix_seq.or (ix_dict hu)) ha.pe hb.pe hs).mono fun σ H Q h => ?_
  rw [hK]
  have h : tE κ W (quiet ca && quiet cb) ((evalL ev [ca, cb]).bind (op2 subG)) σ H Q := h
  exact two h fun hA hx R h => subG_ok R h hA hx
/-! ### slices -/
theorem derefB {m : M Tm} {t : Tm} {k : D → M Tm} {A : Act} {σ : St} {ts ts' : List V} {tds tds' : List D} {as as0 : List Addr} {H H0 : Hp} {s : Sx} {q : Bool} {Q : VK} {L : List (Tm × V)} {v : V} (R : KTms κ A as σ ts' H s tds' [] [] L) (hm : (t, v) ∈ L) (h : RunE κ A σ ts tds H0 as0 q W Q ((deref t >>= k) s)) : ∃ d, deref t s = .ok d s ∧ Vw κ.K as H d v ∧ RunE κ A σ ts tds H0 as0 q W Q (k d s) := by
  cases e : deref t s with
  | fail => rw [bind_fail_of e] at h; exact h.elim
  | exc c ps s1 => exact (ex_deref.mp e).elim
  | ok d s1 =>
    obtain ⟨rfl, w⟩ := R.view hm e
    rw [bind_ok_of e] at h
    exact ⟨d, rfl, w, h⟩
theorem snd_slice0 {p2 : Pos} (hK : X.K = κ.K) (ha : SE κ X W a ev ca) : PE X (.Subscript a (.Slice none none none p2) pos) (tE κ W (quiet (.slice ca none none)) (step P ev cf (.slice ca none none))) := by
  refine (pe_slice sl_all ha.pe po_none po_none).mono fun σ H Q h => ?_
  rw [hK]
  have h : tE κ W (quiet ca && true && true) ((ev ca).bind fun t => sliceT t none none) σ H Q := h
  exact oneT h fun hA hx R h => sliceT_ok R h hA fun z => hx (andq (andq z).1).1
theorem snd_slice1 {p2 : Pos} (hK : X.K = κ.K) (ha : SE κ X W a ev ca) (hb : SE κ X W b ev cb) : PE X (.Subscript a (.Slice (some b) none none p2) pos) (tE κ W (quiet (.slice ca (some cb) none)) (step P ev cf (.slice ca (some cb) none))) := by
  refine (pe_slice sl_all ha.pe (po_some hb.pe) po_none).mono fun σ H Q h => ?_
  rw [hK]
  have h : tE κ W (quiet ca && quiet cb && true) ((evalL ev [ca, cb]).bind (op2 fun ta tl => deref tl >>= fun d => match d with | .int i => sliceT ta (some i) none | _ => VS.fail)) σ H Q := h
  refine two h fun {A as as1 ts tds t1 t2 s1 v1 v2 H1} hA hx R h => ?_
  obtain ⟨d, e, w, h⟩ := derefB (m := VS.fail) R (t := t2) (v := v2) (by simp) h
  cases w with
  | int => exact ⟨_, rfl, sliceT_ok R.swap h hA fun z => hx (by have := andq z; simp at this ⊢; exact this)⟩
  | _ => exact h.elim
theorem snd_slice2 {p2 : Pos} (hK : X.K = κ.K) (ha : SE κ X W a ev ca) (hb : SE κ X W b ev cb) : PE X (.Subscript a (.Slice none (some b) none p2) pos) (tE κ W (quiet (.slice ca none (some cb))) (step P ev cf (.slice ca none (some cb)))) := by
  refine (pe_slice sl_all ha.pe po_none (po_some hb.pe)).mono fun σ H Q h => ?_
  rw [hK]
  have h : tE κ W (quiet ca && true && quiet cb) ((evalL ev [ca, cb]).bind (op2 fun ta tl => deref tl >>= fun d => match d with | .int i => sliceT ta none (some i) | _ => VS.fail)) σ H Q := h
  refine two h fun {A as as1 ts tds t1 t2 s1 v1 v2 H1} hA hx R h => ?_
  obtain ⟨d, e, w, h⟩ := derefB (m := VS.fail) R (t := t2) (v := v2) (by simp) h
  cases w with
  | int => exact ⟨_, rfl, sliceT_ok R.swap h hA fun z => hx (by have := andq z; simp at this ⊢; exact this)⟩
  | _ => exact h.elim
/-- an int, reckoned while an operand is held -/
theorem hold {e : CE} {es : List CE} {t1 : Tm} {v1 : V} {k : Int → M Tm} {A : Act} {σ : St} {ts : List V} {tds : List D} {as0 as1 : List Addr} {H0 H1 : Hp} {s1 : Sx} {q : Bool} {Q : VK} {r : V → Hp → Prop}
    (R : KTms κ A as1 σ ts H1 s1 tds [] [] [(t1, v1)]) (hs : plainTm t1 = true ∨ quietL (e :: es) = true) (h : RunE κ A σ ts tds H0 as0 q W Q ((evalI ev e).bind k s1))
    (hk : ∀ {as2 i s2 H2}, as1 <+: as2 → (quiet e = true → Ext H1 H2) → KTms κ A as2 σ ts H2 s2 tds [] [] [(t1, v1)] → RunE κ A σ ts tds H0 as0 q W Q (k i s2) → r (.int i) H2) : tE κ W (quiet e) (ev e) σ H1 r := by
  refine ⟨A, as1, sV [(t1, v1)] ++ ts, sD [(t1, v1)] ++ tds, s1, R.2.1, ?_⟩
  have e0 : (evalI ev e).bind k s1 = ((ev e).bind fun t => (deref t).bind fun d => (match d with | .int i => (pure i : M Int) | _ => VS.fail).bind k) s1 := by
    show ((((ev e).bind deref).bind fun d => match d with | .int i => (pure i : M Int) | _ => VS.fail).bind k) s1 = _
    rw [M.assoc, M.assoc]
  rw [e0] at h
  cases e1 : ev e s1 with
  | fail => rw [show ((ev e).bind _) s1 = _ from bind_fail_of e1] at h; exact h
  | exc c ps s2 => rw [show ((ev e).bind _) s1 = .exc c ps s2 from ex_bind'.mpr (.inl e1)] at h; exact RunX.up h (sVD_len _)
  | ok t s2 =>
    rw [show ((ev e).bind _) s1 = _ from bind_ok_of e1] at h
    intro v H2 as2 hA hx R2
    obtain ⟨d, ed, w, h⟩ := derefB (m := VS.fail) R2 (t := t) (v := v) (by simp) h
    cases w with
    | int =>
      have R3 : KRel κ A as2 σ (sV [(t1, v1)] ++ ts) H2 s2 (sD [(t1, v1)] ++ tds) := R2.dropAll
      exact hk hA hx ⟨R.1, R3, keepAt (es := es) (e := e) (fun t v hm => by simp at hm; rw [hm.1]; exact hs) hA hx R.2.2⟩ h
    | _ => exact h.elim
theorem staysB {t : Tm} {es : List CE} {k : M Tm} {A : Act} {σ : St} {ts : List V} {tds : List D} {as0 : List Addr} {H0 : Hp} {s : Sx} {q : Bool} {Q : VK} (h : RunE κ A σ ts tds H0 as0 q W Q (((stays t es).bind fun _ => k) s)) : (plainTm t = true ∨ quietL es = true) ∧ RunE κ A σ ts tds H0 as0 q W Q (k s) := by
  by_cases hst : (plainTm t || quietL es) = true
  · have es1 : stays t es s = .ok () s := by unfold stays need; rw [hst]; rfl
    rw [show ((stays t es).bind fun _ => k) s = _ from bind_ok_of es1] at h
    exact ⟨by simpa using hst, h⟩
  · have es1 : stays t es s = .fail := by unfold stays need; rw [if_neg hst]; rfl
    rw [show ((stays t es).bind fun _ => k) s = _ from bind_fail_of es1] at h
    exact h.elim
theorem snd_slice3 {p2 : Pos} (hK : X.K = κ.K) (ha : SE κ X W a ev ca) (hb : SE κ X W b ev cb) (hc : SE κ X W c ev cc) : PE X (.Subscript a (.Slice (some b) (some c) none p2) pos) (tE κ W (quiet (.slice ca (some cb) (some cc))) (step P ev cf (.slice ca (some cb) (some cc)))) := by
  refine (pe_slice sl_all ha.pe (po_some hb.pe) (po_some hc.pe)).mono fun σ H Q h => ?_
  rw [hK]
  have h : tE κ W (quiet ca && quiet cb && quiet cc) ((ev ca).bind fun ta => (stays ta [cb, cc]).bind fun _ => (evalI ev cb).bind fun i => (evalI ev cc).bind fun j => sliceT ta (some i) (some j)) σ H Q := h
  refine oneT h fun {A as as1 ts tds t1 s1 v1 H1} hA hx R h => ?_
  obtain ⟨hs, h⟩ := staysB h
  refine hold (es := [cc]) R hs h fun {as2 i s2 H2} hA2 hx2 R2 h => ⟨i, rfl, ?_⟩
  refine hold (es := []) R2 (hs.imp id fun z => by simp only [quietL, Bool.and_eq_true] at z ⊢; exact z.2) h fun {as3 j s3 H3} hA3 hx3 R3 h => ⟨j, rfl, ?_⟩
  exact sliceT_ok R3 h (hA.trans (hA2.trans hA3)) fun z => ((hx (andq (andq z).1).1).trans (hx2 (andq (andq z).1).2)).trans (hx3 (andq z).2)
/-! ### displays -/
/-- the arguments, one after another -/
inductive SAs (κ : Kit) (X : Cx) (W : WX) (ev : CE → M Tm) : List Expr → List CE → Prop
  | nil : SAs κ X W ev [] []
  | cons {e : Expr} {es : List Expr} {c : CE} {cs : List CE} : SE κ X W e ev c → (starEach (e :: es) X.env = (false, eval e X.env) :: starEach es X.env) → SAs κ X W ev es cs → SAs κ X W ev (e :: es) (c :: cs)
theorem SAs.pa {es : List Expr} {cs : List CE} (h : SAs κ X W ev es cs) : PA X es (tLs κ W ev cs) := by
  induction h with
  | nil => exact pa_nil
  | cons h hs r ih => exact pa_cons h.pe ih hs
theorem SAs.len {es : List Expr} {cs : List CE} (h : SAs κ X W ev es cs) : es.length = cs.length := by
  induction h with
  | nil => rfl
  | cons h hs r ih => simp [ih]
theorem rz_app : ∀ {tms : List Tm} {vs : List V} {L : List (Tm × V)}, rz tms vs L = rz tms vs [] ++ L
  | [], _, _ => by simp [rz]
  | _ :: _, [], _ => by simp [rz]
  | t :: tms, v :: vs, L => by
    show rz tms vs ((t, v) :: L) = rz tms vs [(t, v)] ++ L
    rw [rz_app, rz_app (L := [(t, v)])]
    simp
theorem escL_ok : ∀ {tms : List Tm} {vs : List V} {L : List (Tm × V)} {ds : List D} {A : Act} {σ : St} {ts : List V} {tds : List D} {as : List Addr} {H : Hp} {s s' : Sx} {pv : List V} {pd : List D}, tms.length = vs.length → KTms κ A as σ ts H s tds pv pd (rz tms vs L) → escL tms s = .ok ds s' → ds.length = vs.length ∧ KTms κ A as σ ts H s' tds (vs ++ pv) (ds ++ pd) L
  | [], [], L, ds, A, σ, ts, tds, as, H, s, s', pv, pd, _, R, e => by
    obtain ⟨rfl, rfl⟩ := ok_pure.mp e
    exact ⟨rfl, R⟩
  | t :: tms, v :: vs, L, ds, A, σ, ts, tds, as, H, s, s', pv, pd, hl, R, e => by
    simp only [escL, ok_bind, ok_pure] at e
    obtain ⟨ds', s1, e1, d, s2, e2, rfl, rfl⟩ := e
    obtain ⟨h1, R1⟩ := escL_ok (L := (t, v) :: L) (by simpa using hl) R e1
    exact ⟨by simp [h1], R1.esc e2⟩
  | [], _ :: _, _, _, _, _, _, _, _, _, _, _, _, _, h, _, _ => by simp at h
  | _ :: _, [], _, _, _, _, _, _, _, _, _, _, _, _, h, _, _ => by simp at h
theorem fits_le {n : Nat} (h : fits n = true) : n ≤ sizeLine := by simpa [fits] using h
theorem snd_tup {es : List Expr} {cs : List CE} {k : Nat} (ha : SAs κ X W ev es cs) : PE X (.Tuple es k pos) (tE κ W (quiet (.tup cs)) (step P ev cf (.tup cs))) := by
  refine (pe_tup ha.pa).mono fun σ H Q h => ?_
  have h : tE κ W (quietL cs) ((evalL ev cs).bind fun ts => escL ts >>= fun ds => need (fits ds.length) >>= fun _ => (pure (.val (.tup ds)) : M Tm)) σ H Q := h
  refine tLs_bind h fun {A as ts tds tms s1 vs H1 as1} hl hA hx R hr hl2 => ?_
  obtain ⟨t, s2, e, k⟩ := RunE.ok (m := escL tms >>= fun ds => need (fits ds.length) >>= fun _ => (pure (.val (.tup ds)) : M Tm)) (.bind .escL fun _ => .bind .need fun _ => .pure) hr
  simp only [ok_bind, ok_need, ok_pure] at e
  obtain ⟨ds, s3, e1, _, s4, ⟨hf, rfl⟩, rfl, rfl⟩ := e
  obtain ⟨h1, R1⟩ := escL_ok hl R e1
  refine ⟨by rw [← h1]; exact fits_le hf, fun p hp => ?_⟩
  have R2 := R1.nil
  rw [List.append_nil, List.append_nil] at R2
  exact k _ _ as1 hA (fun z => (hx z).trans (Ext.upd hp)) (TmsR.one (R2.alloc_tup h1 hp))
theorem snd_lst {es : List Expr} {cs : List CE} (ha : SAs κ X W ev es cs) : PE X (.List es pos) (tE κ W (quiet (.lst cs)) (step P ev cf (.lst cs))) := by
  refine (pe_lst ha.pa).mono fun σ H Q h => ?_
  have h : tE κ W (quietL cs) ((evalL ev cs).bind fun ts => escL ts >>= fun ds => need (fits ds.length) >>= fun _ => (pure (.val (.lst .own ds)) : M Tm)) σ H Q := h
  refine tLs_bind h fun {A as ts tds tms s1 vs H1 as1} hl hA hx R hr hl2 => ?_
  obtain ⟨t, s2, e, k⟩ := RunE.ok (m := escL tms >>= fun ds => need (fits ds.length) >>= fun _ => (pure (.val (.lst .own ds)) : M Tm)) (.bind .escL fun _ => .bind .need fun _ => .pure) hr
  simp only [ok_bind, ok_need, ok_pure] at e
  obtain ⟨ds, s3, e1, _, s4, ⟨hf, rfl⟩, rfl, rfl⟩ := e
  obtain ⟨h1, R1⟩ := escL_ok hl R e1
  refine ⟨by rw [← h1]; exact fits_le hf, fun p hp => ?_⟩
  have R2 := R1.nil
  rw [List.append_nil, List.append_nil] at R2
  exact k _ _ as1 hA (fun z => (hx z).trans (Ext.upd hp)) (TmsR.one (R2.alloc_lst h1 hp))
theorem snd_dnK : PE X (.Dict [] [] pos) (tE κ W (quiet .dnK) (step P ev cf .dnK)) := by
  refine (pe_dnewK).mono fun σ H Q h => ?_
  obtain ⟨A, as, ts, tds, s, R, h⟩ := h
  intro p hp
  exact h _ _ as List.prefix_rfl (fun _ => Ext.upd hp) (TmsR.one (R.alloc_dK hp))
end
end VS
namespace VS
open PySem L2
section
variable {κ : Kit} {X : Cx} {W : WX} {ev : CE → M Tm} {P : Prog} {cf : Nat → List D → M (D × List D)} {a b c : Expr} {ca cb cc : CE} {pos : Pos}
theorem backTo_any {pos : Pos} {l : List (Bool × Sem Value)} : (backTo pos l).any (·.1) = l.any (·.1) := by
  unfold backTo
  rw [List.any_map]
  rfl
theorem SAs.plain {es : List Expr} {cs : List CE} (h : SAs κ X W ev es cs) : (starEach es X.env).any (·.1) = false := by
  induction h with
  | nil => rfl
  | cons h hs r ih => rw [hs]; simpa using ih
/-- built-ins whose arguments are read from the left -/
def plainBi : Bi → List CE → Bool
  | .list, _ => false | .tuple, _ => false | .sorted, _ => false | .set, _ => false | .range, _ => false
  | .len, [.bi .set _] => false
  | _, _ => true
theorem biT_plain {b : Bi} {cs : List CE} (h : plainBi b cs = true) : biT ev b cs = (evalL ev cs).bind fun ts => derefL ts >>= fun ds => need (ds.all noDict) >>= fun _ => opt (biD b ds) >>= fun d => (pure (.val d) : M Tm) := by
  unfold biT
  split <;> first | rfl | (simp [plainBi] at h; done)
theorem bi_ok {b : Bi} {tms : List Tm} {vs : List V} {A : Act} {σ : St} {ts : List V} {tds : List D} {as as0 : List Addr} {H H0 : Hp} {s : Sx} {q : Bool} {Q : VK} (hl : tms.length = vs.length) (R : KTms κ A as σ ts H s tds [] [] (rz tms vs []))
    (h : RunE κ A σ ts tds H0 as0 q W Q ((derefL tms >>= fun ds => need (ds.all noDict) >>= fun _ => opt (biD b ds) >>= fun d => (pure (.val d) : M Tm)) s)) (hA : as0 <+: as) (hx : q = true → Ext H0 H) : rBi κ.K b vs H Q := by
  obtain ⟨t, s', e, k⟩ := RunE.ok (m := derefL tms >>= fun ds => need (ds.all noDict) >>= fun _ => opt (biD b ds) >>= fun d => (pure (.val d) : M Tm)) (.bind .derefL fun _ => .bind .need fun _ => .bind .opt fun _ => .pure) h
  simp only [ok_bind, ok_need, ok_opt, ok_pure] at e
  obtain ⟨ds, s1, e1, _, s2, ⟨hn, rfl⟩, d, s3, ⟨hd, rfl⟩, rfl, rfl⟩ := e
  obtain ⟨rfl, ws⟩ := KTms.derefL R hl e1
  refine biD_ok b ws hd R.dropAll (fun _ o ks es e => by subst e; simp [noDict] at hn) (fun _ o ks es e => by subst e; simp [noDict] at hn) fun v H' hE R' => ?_
  exact k v H' as hA (fun z => (hx z).trans hE) R'
theorem snd_bi {b : Bi} {x : Expr} {es : List Expr} {cs : List CE} (hK : X.K = κ.K) (hb : plainBi b cs = true) (hp : PE X x (tCB (rBi X.K b) (tLs κ W ev cs))) : PE X x (tE κ W (quiet (.bi b cs)) (step P ev cf (.bi b cs))) := by
  refine hp.mono fun σ H Q h => ?_
  rw [hK]
  have h : tE κ W (quietL cs) (biT ev b cs) σ H Q := h
  rw [biT_plain hb] at h
  refine tLs_bind h fun {A as ts tds tms s1 vs H1 as1} hl hA hx R hr hl2 => ?_
  exact bi_ok hl R hr hA hx
/-- list(x), tuple(x) of a list or a tuple -/
theorem SeqV.or {K : PySem.W.Frag} {H : Hp} {d : D} {x : Addr} {vs : List V} (h : SeqV K H d x vs) : SqL K H x vs ∨ SqT K H x vs := by
  cases d <;> first | exact .inl h.1 | exact .inr (.inl (.inl h)) | exact h.elim
theorem vals_signs {x : Str} {acc : Array Value} (h : ItemsOf (SignAt x) acc x.cps.size) : Vals (x.cps.toList.map fun c => V.str ⟨#[c]⟩) acc.toList := by
  refine vals_of_at (by rw [List.length_map, Array.length_toList, Array.length_toList, h.1]) fun j y v h1 h2 => ?_
  obtain ⟨c, u, e1, rfl⟩ := h.2 j v (by simpa using h2)
  rw [List.getElem?_map] at h1
  have e2 : x.cps.toList[j]? = some c := by simpa using e1
  rw [e2] at h1
  cases h1
  exact ⟨u, rfl⟩
theorem call_list_sgn (hc : X.calm = true) : CallR X (.type "list") (fun xs H Q => ∃ x : Str, xs = [.str x] ∧ x.length ≤ sizeLine ∧ ∀ p, H p = none → Q (.ref p) (upd H p (.lst (x.cps.toList.map fun c => V.str ⟨#[c]⟩)))) := by
  intro pins s σ H xs us Q I r h
  obtain ⟨x, rfl, hx, q⟩ := h
  obtain ⟨u, rfl, t, rfl⟩ := vals1 r
  refine call_list_str (I.ok.hd hc) x t (fun h' tk acc' c' kp hS it => ?_) hx
  exact ⟨.ref s.heap.objs.size, _, I.laid kp (Nat.le_refl _) (show ObjOk X.prog X.w _ h' _ (.lst (x.cps.toList.map fun c => V.str ⟨#[c]⟩)) from ⟨by rw [List.length_map, Array.length_toList]; exact hx, acc'.toList, c', vals_signs it, hS⟩), rfl, q _ (I.hok.fresh (Nat.le_refl _))⟩
theorem vals_rps {K : PySem.W.Frag} {g : Gh} {H : Hp} : ∀ (l : List Nat), Rps K g H (l.map fun c => D.str ⟨#[c]⟩) (l.map fun c => V.str ⟨#[c]⟩) (fun _ => 0)
  | [] => .nil fun _ => rfl
  | c :: l => .cons (f1 := fun _ => 0) (.str fun _ => rfl) (vals_rps l) fun _ => rfl
theorem Rel.signs {A : Act} {as : List Addr} {σ : St} {ts : List V} {H : Hp} {s : Sx} {tds : List D} (R : KRel κ A as σ ts H s tds) : ∀ l : List Nat, KRel κ A as σ ((l.map fun c => V.str ⟨#[c]⟩) ++ ts) H s ((l.map fun c => D.str ⟨#[c]⟩) ++ tds)
  | [] => R
  | c :: l => (Rel.signs R l).scal fun _ _ => .str fun _ => rfl
theorem NoEx.kidsLs {t : Tm} : NoEx (VS.kidsLs t) := .bind .deref fun d => by
  cases d with
  | str x => exact .bind .need fun _ => .pure
  | _ => exact .kidsOf
theorem snd_list1 {p : Pos} (hcalm : X.calm = true) (hK : X.K = κ.K) (hg : Gl X "list") (hm : X.mg "list" = none) (ha : SAs κ X W ev [a] [ca]) (hc : ∀ es, ca ≠ .bi .range es) : PE X (.Call (.Name "list" p) [a] [] pos) (tE κ W (quiet (.bi .list [ca])) (step P ev cf (.bi .list [ca]))) := by
  have hs : starEach [a] X.env = (false, eval a X.env) :: starEach [] X.env := by cases ha with | cons _ h _ => exact h
  refine (pe_callTy (es := []) ((call_list_sgn hcalm).or call_list_of) hg hm PyProof.Rows.boot_list ha.pa (he := hs)).mono fun σ H Q h => ?_
  have h : tE κ W (quiet ca && true) (biT ev .list [ca]) σ H Q := h
  have e0 : biT ev .list [ca] = (ev ca).bind fun t => (kidsLs t).bind fun l => (pure (.val (.lst .own l)) : M Tm) := by
    cases ca with
    | bi b es => cases b <;> first | rfl | exact (hc es rfl).elim
    | _ => rfl
  rw [e0] at h
  refine oneT h fun {A as as1 ts tds t s1 v H1} hA hx R h => ?_
  obtain ⟨t', s', e, k⟩ := RunE.ok (m := (kidsLs t).bind fun l => (pure (.val (.lst .own l)) : M Tm)) (.bind' .kidsLs fun _ => .pure) h
  simp only [ok_bind', ok_pure] at e
  obtain ⟨ds, s2, e1, rfl, rfl⟩ := e
  unfold kidsLs at e1
  rw [ok_bind] at e1
  obtain ⟨d, s3, e3, e1⟩ := e1
  obtain ⟨rfl, w⟩ := R.view (List.mem_singleton.mpr rfl) e3
  cases d with
  | str x =>
    simp only [ok_bind, ok_need, ok_pure] at e1
    obtain ⟨_, s4, ⟨hf, rfl⟩, rfl, rfl⟩ := e1
    cases w
    refine .inl ⟨x, rfl, by unfold fits at hf; exact of_decide_eq_true hf, fun p hp => ?_⟩
    have R3 := Rel.signs R.dropAll x.cps.toList
    exact k _ _ as1 hA (fun z => (hx (andq z).1).trans (Ext.upd hp)) (TmsR.one (R3.alloc_lst (by simp [signsD]) hp))
  | _ =>
    obtain ⟨d0, p, vs, ed, rfl, sq, hl, R1⟩ := R.kids e1
    rw [hK]
    refine .inr ⟨p, vs, rfl, sq.or, fun l hl0 => ?_⟩
    have R2 := R1.nil
    rw [List.append_nil, List.append_nil] at R2
    exact k _ _ as1 hA (fun z => (hx (andq z).1).trans (Ext.upd hl0)) (TmsR.one (R2.alloc_lst hl hl0))
theorem snd_tuple1 {p : Pos} (hK : X.K = κ.K) (hg : Gl X "tuple") (hm : X.mg "tuple" = none) (ha : SAs κ X W ev [a] [ca]) (hc : ∀ es, ca ≠ .bi .range es) : PE X (.Call (.Name "tuple" p) [a] [] pos) (tE κ W (quiet (.bi .tuple [ca])) (step P ev cf (.bi .tuple [ca]))) := by
  have hs : starEach [a] X.env = (false, eval a X.env) :: starEach [] X.env := by cases ha with | cons _ h _ => exact h
  refine (pe_callTy (es := []) call_tuple_of hg hm PyProof.Rows.boot_tuple ha.pa (he := hs)).mono fun σ H Q h => ?_
  have h : tE κ W (quiet ca && true) (biT ev .tuple [ca]) σ H Q := h
  have e0 : biT ev .tuple [ca] = (ev ca).bind fun t => (deref t).bind fun d => match d with
    | .tup _ => escV t
    | .lst _ _ => (kidsOf t).bind fun l => (pure (.val (.tup l)) : M Tm)
    | _ => VS.fail := by
    cases ca with
    | bi b es => cases b <;> first | rfl | exact (hc es rfl).elim
    | _ => rfl
  rw [e0] at h
  refine oneT h fun {A as as1 ts tds t s1 v H1} hA hx R h => ?_
  obtain ⟨d, ed, w, h⟩ := derefB (m := VS.fail) R (t := t) (v := v) (by simp) h
  cases w with
  | tup q ws =>
    obtain ⟨t', s', e, k⟩ := RunE.ok (m := escV t) .escV h
    simp only [escV, ok_bind, ok_pure] at e
    obtain ⟨d', s2, e1, rfl, rfl⟩ := e
    rw [hK]
    have R1 := (R.esc e1).nil
    exact ⟨_, _, rfl, .inr ⟨.inl (.inl q), k _ _ as1 hA (fun z => hx (andq z).1) (TmsR.one R1)⟩⟩
  | lst q t0 ws =>
    obtain ⟨t', s', e, k⟩ := RunE.ok (m := (kidsOf t).bind fun l => (pure (.val (.tup l)) : M Tm)) (.bind' .kidsOf fun _ => .pure) h
    simp only [ok_bind', ok_pure] at e
    obtain ⟨ds, s2, e1, rfl, rfl⟩ := e
    obtain ⟨d0, p, vs, ed', e', sq, hl, R1⟩ := R.kids e1
    rw [ed] at ed'
    cases ed'
    cases e'
    rw [hK]
    refine ⟨_, _, rfl, .inl ⟨sq.1, fun l hl0 => ?_⟩⟩
    have R2 := R1.nil
    rw [List.append_nil, List.append_nil] at R2
    exact k _ _ as1 hA (fun z => (hx (andq z).1).trans (Ext.upd hl0)) (TmsR.one (R2.alloc_tup hl hl0))
  | _ => exact h.elim
/-- isinstance(x, T) -/
def tyName : Ty → Option (Str × String)
  | .int => some ("int", "int") | .bool => some ("bool", "bool") | .str => some ("str", "str") | .list => some ("list", "list") | .tuple => some ("tuple", "tuple")
  | _ => none
theorem isi_ok {K : PySem.W.Frag} {H : Hp} {as : List Addr} {d : D} {v : V} {up : Nat → List Nat} {t : Ty} {x : Str} {n : String} {r : Bool} (w : Vw K as H d v) (hx : tyName t = some (x, n)) (h : isiD up d t = some r) (ho : ∀ i, d ≠ .obj i) : ∃ u, TyX K H v u ∧ PySem.W.kitOne K u (.type n) = some r := by
  cases w with
  | non => exact ⟨_, .base .non, by cases t <;> simp [tyName, isiD] at hx h <;> (obtain ⟨rfl, rfl⟩ := hx; subst h; exact kit_ty (by decide +kernel))⟩
  | bl => exact ⟨_, .base (.bl _), by cases t <;> simp [tyName, isiD] at hx h <;> (obtain ⟨rfl, rfl⟩ := hx; subst h; exact kit_ty (by decide +kernel))⟩
  | int => exact ⟨_, .base (.int _), by cases t <;> simp [tyName, isiD] at hx h <;> (obtain ⟨rfl, rfl⟩ := hx; subst h; exact kit_ty (by decide +kernel))⟩
  | str => exact ⟨_, .base (.str _), by cases t <;> simp [tyName, isiD] at hx h <;> (obtain ⟨rfl, rfl⟩ := hx; subst h; exact kit_ty (by decide +kernel))⟩
  | gone => simp [isiD] at h
  | obj e => exact (ho _ rfl).elim
  | tup q ws => exact ⟨_, .base (.tup q), by cases t <;> simp [tyName, isiD] at hx h <;> (obtain ⟨rfl, rfl⟩ := hx; subst h; exact kit_ty (by decide +kernel))⟩
  | @lst o ds vs a q t0 ws =>
    have hu : TyX K H (.ref a) (.type "list") := by
      rcases q with (q | ⟨o', q⟩) | ⟨o', its, n', hk, hc, _⟩
      · exact .base (.lst q)
      · exact .base (.frz q)
      · exact .kList hk hc
    exact ⟨_, hu, by cases t <;> simp [tyName, isiD] at hx h <;> (obtain ⟨rfl, rfl⟩ := hx; subst h; exact kit_ty (by decide +kernel))⟩
  | dK q hl ws => exact ⟨_, .base (.dK q), by cases t <;> simp [tyName, isiD] at hx h <;> (obtain ⟨rfl, rfl⟩ := hx; subst h; exact kit_ty (by decide +kernel))⟩
end
end VS
namespace VS
open PySem L2
section
variable {κ : Kit} {X : Cx} {W : WX} {ev : CE → M Tm} {P : Prog} {cf : Nat → List D → M (D × List D)} {a b c : Expr} {ca cb cc : CE} {pos : Pos}
theorem snd_isi {t : Ty} {x : Str} {n : String} {p p2 : Pos} (hK : X.K = κ.K) (hx : tyName t = some (x, n)) (hg : Gl X "isinstance") (hm : X.mg "isinstance" = none) (hg2 : Gl X x) (hm2 : X.mg x = none) (ha : SE κ X W a ev ca) (hs : starEach [a, .Name x p2] X.env = (false, eval a X.env) :: starEach [.Name x p2] X.env) :
    PE X (.Call (.Name "isinstance" p) [a, .Name x p2] [] pos) (tE κ W (quiet (.isi ca t)) (step P ev cf (.isi ca t))) := by
  have hv : bootBuiltins x = some (.type n) := by
    cases t <;> simp [tyName] at hx <;> (obtain ⟨rfl, rfl⟩ := hx; decide +kernel)
  have hn : x ≠ "__name__" := by
    cases t <;> simp [tyName] at hx <;> (obtain ⟨rfl, rfl⟩ := hx; decide)
  have hd : (x == ("__debug__" : Str)) = false := by
    cases t <;> simp [tyName] at hx <;> (obtain ⟨rfl, rfl⟩ := hx; decide)
  have hp2 : PE X (.Name x p2) (tC (.ty n)) := pe_bltn hg2 hm2 hv rfl hn hd
  refine (pe_callB call_isi hg hm PyProof.Rows.boot_isinstance (pa_cons ha.pe (pa_cons hp2 pa_nil) hs) (he := hs)).mono fun σ H Q h => ?_
  have h : tE κ W (quiet ca) ((evalD ev ca).bind fun d => (need (notObj d)).bind fun _ => (opt (isiD P.excUp d t)).bind fun b => (pure (.val (.bl b)) : M Tm)) σ H Q := h
  refine oneD h fun {A as as1 ts tds d s1 v H1} hA hx' w R h => ?_
  cases hn' : notObj d with
  | false => rw [hn'] at h; exact h.elim
  | true =>
    rw [hn'] at h
    have h : RunE κ A σ ts tds H as (quiet ca) W Q (((opt (isiD P.excUp d t)).bind fun b => (pure (.val (.bl b)) : M Tm)) s1) := h
    cases e : isiD P.excUp d t with
    | none => rw [e] at h; exact h.elim
    | some r =>
      rw [e] at h
      obtain ⟨u, tu, k⟩ := isi_ok w hx e (fun i z => by rw [z] at hn'; cases hn')
      rw [hK]
      exact ⟨v, .ty n, u, .type n, r, rfl, .ty n, tu, k, RunE.pureV (d := .bl r) h hA hx' R (scal_bl _)⟩
/-- a def of the module -/
theorem snd_call {CX : CXT} {k i : Nat} {f : Addr} {fd' : FuncData} {ps : List Str} {fd : FD} {x : Str} {p : Pos} {e : Expr} {es : List Expr} {c : CE} {cs : List CE} (F : FnOk X.prog X.w X.K X.mg X.base CX k f fd' ps (spF κ cf fd.np i)) (hf : P.fns[i]? = some fd) (hr : Room k X.A) (hg : Gl X x) (hm : X.mg x = some (.ref f))
    (hk : PySem.W.keepIn X.K (.ref f) = true) (hb : Binds X.K fd' ps []) (hx : ∀ σ, PassesAt CX X σ (WE W σ)) (ha : SAs κ X W ev (e :: es) (c :: cs)) (hd : (x == ("__debug__" : Str)) = false) :
    PE X (.Call (.Name x p) (e :: es) [] pos) (tE κ W (quiet (.call i (c :: cs))) (step P ev cf (.call i (c :: cs)))) := by
  have hs : starEach (e :: es) X.env = (false, eval e X.env) :: starEach es X.env := by cases ha with | cons _ h _ => exact h
  have hpl : (backTo pos (starEach es X.env)).any (·.1) = false := by
    cases ha with | cons _ _ r => exact backTo_any.trans r.plain
  refine (pe_callSD F hr hg hm hk hb .nil hx ha.pa hd hs hpl).mono fun σ H Q h => ?_
  have h : tE κ W false ((evalL ev (c :: cs)).bind (callT P cf i)) σ H Q := h
  refine tLs_bind h fun {A as ts tds tms s1 vs H1 as1} hl hA hx R hr hl2 => ?_
  rw [List.append_nil]
  exact callT_ok hf hl R hr hA rfl
/-! ### methods -/
/-- arguments, reckoned while an operand is held -/
theorem tLs_hold {es : List CE} {L : List (Tm × V)} {k : List Tm → M Tm} {A : Act} {σ : St} {ts : List V} {tds : List D} {as0 as1 : List Addr} {H0 H1 : Hp} {s1 : Sx} {q : Bool} {Q : VK} {Q' : List V → Hp → Prop}
    (R : KTms κ A as1 σ ts H1 s1 tds [] [] L) (hs : ∀ t v, (t, v) ∈ L → plainTm t = true ∨ quietL es = true) (h : RunE κ A σ ts tds H0 as0 q W Q (((evalL ev es).bind k) s1))
    (hk : ∀ {tms s2 vs H2 as2}, tms.length = vs.length → tms.length = es.length → as1 <+: as2 → (quietL es = true → Ext H1 H2) → KTms κ A as2 σ ts H2 s2 tds [] [] (rz tms vs L) → RunE κ A σ ts tds H0 as0 q W Q (k tms s2) → Q' vs H2) : tLs κ W ev es σ H1 Q' := by
  have len : ∀ (es : List CE) (s : Sx) {tms s1}, evalL ev es s = .ok tms s1 → tms.length = es.length := by
    intro es
    induction es with
    | nil => intro s tms s1 e; cases e; rfl
    | cons x xs ih =>
      intro s tms s1 e
      have e : (do let t ← ev x; stays t xs; let ts ← evalL ev xs; pure (t :: ts)) s = Out.ok tms s1 := e
      simp only [ok_bind, ok_pure] at e
      obtain ⟨t, s2, _, _, s3, _, ts', s4, e4, rfl, rfl⟩ := e
      simp [ih _ e4]
  refine tLs_of es R hs ?_
  cases e1 : evalL ev es s1 with
  | fail => rw [show ((evalL ev es).bind k) s1 = _ from bind_fail_of e1] at h; exact h
  | exc c ps s2 => rw [show ((evalL ev es).bind k) s1 = .exc c ps s2 from ex_bind'.mpr (.inl e1)] at h; exact h
  | ok tms s2 =>
    rw [show ((evalL ev es).bind k) s1 = _ from bind_ok_of e1] at h
    intro vs H2 as2 hl hA hx R2
    exact hk hl (len es s1 e1) hA hx R2 h
theorem needB {b : Bool} {k : M Tm} {A : Act} {σ : St} {ts : List V} {tds : List D} {as0 : List Addr} {H0 : Hp} {s : Sx} {q : Bool} {Q : VK} (h : RunE κ A σ ts tds H0 as0 q W Q (((need b).bind fun _ => k) s)) : b = true ∧ RunE κ A σ ts tds H0 as0 q W Q (k s) := by
  cases b with
  | true => exact ⟨rfl, h⟩
  | false => exact h.elim
/-- a method's call, up to the method -/
theorem meth {b : Bm} {co : CE} {es : List CE} {q : Bool} {σ : St} {H : Hp} {Q : VK} {T : String} {r : V → List V → Hp → VK → Prop} (h : tE κ W q (step P ev cf (.bm b co es)) σ H Q)
    (ht : ∀ {as d v H1}, Vw κ.K as H1 d v → bmOk b d = true → tyV κ.K T v H1)
    (hk : ∀ {A as as1 as2 ts tds t tms s1 v vs H1 H2}, tms.length = vs.length → tms.length = es.length → as <+: as1 → as1 <+: as2 → (quiet co = true → Ext H H1) → (quietL es = true → Ext H1 H2) → KTms κ A as2 σ ts H2 s1 tds [] [] (rz tms vs [(t, v)]) → RunE κ A σ ts tds H as q W Q (bmT b t tms s1) → r v vs H2 Q) :
    tBM κ.K T r (tE κ W (quiet co) (ev co)) (tLs κ W ev es) σ H Q := by
  have h : tE κ W q ((ev co).bind fun t => (deref t).bind fun d => (need (bmOk b d)).bind fun _ => (stays t es).bind fun _ => (evalL ev es).bind fun ts => bmT b t ts) σ H Q := h
  refine oneT h fun {A as as1 ts tds t s1 v H1} hA hx R h => ?_
  obtain ⟨d, ed, w, h⟩ := derefB (m := VS.fail) R (t := t) (v := v) (by simp) h
  obtain ⟨hb, h⟩ := needB h
  obtain ⟨hs, h⟩ := staysB h
  refine ⟨ht w hb, tLs_hold R (fun t' v' hm => by simp at hm; rw [hm.1]; exact hs) h fun {tms s2 vs H2 as2} hl hl2 hA2 hx2 R2 h => ?_⟩
  exact hk hl hl2 hA hA2 hx hx2 R2 h
theorem getP_lst {p : Path} {ds : List D} {s s' : Sx} {x : Path × List D} (e : ownList (.at p) s = .ok x s') : x.1 = p ∧ s' = s ∧ s.getP p = some (.lst .own x.2) := by
  simp only [ownList, ok_bind] at e
  obtain ⟨d, s1, e1, e⟩ := e
  obtain ⟨e1, rfl⟩ := ok_at.mp e1
  split at e
  · obtain ⟨rfl, rfl⟩ := ok_pure.mp e
    exact ⟨rfl, rfl, e1⟩
  · exact (ok_fail.mp e).elim
theorem tyList {K : PySem.W.Frag} {as : List Addr} {H : Hp} {o : Fl} {ds : List D} {v : V} (w : Vw K as H (.lst o ds) v) : tyV K "list" v H := by
  cases w with
  | lst q t ws => exact .inl ⟨rfl, _, q⟩
theorem append_ok {t u : Tm} {v w : V} {A : Act} {σ : St} {ts : List V} {tds : List D} {as as0 : List Addr} {H H0 : Hp} {s : Sx} {Q : VK} (R : KTms κ A as σ ts H s tds [] [] [(u, w), (t, v)]) (h : RunE κ A σ ts tds H0 as0 false W Q (bmT .append t [u] s)) (hA : as0 <+: as) : rAppend v [w] H Q := by
  have h : RunE κ A σ ts tds H0 as0 false W Q ((deref t >>= fun d => match d with
    | .str x => (derefL [u]).bind fun ds => (opt (strBm .append x ds)).bind fun r => (pure (.val r) : M Tm)
    | .dK _ _ _ => VS.fail
    | .dT _ _ _ => VS.fail
    | _ => (escape u).bind fun x => (ownList t).bind fun pds => (need (decide (pds.2.length < sizeLine))).bind fun _ => (putAt pds.1 (.lst .own (pds.2 ++ [x]))).bind fun _ => pure (.val .non)) s) := h
  obtain ⟨d, ed, wd, h⟩ := derefB (m := VS.fail) R (t := t) (v := v) (by simp) h
  have main : RunE κ A σ ts tds H0 as0 false W Q (((escape u).bind fun x => (ownList t).bind fun pds => (need (decide (pds.2.length < sizeLine))).bind fun _ => (putAt pds.1 (.lst .own (pds.2 ++ [x]))).bind fun _ => (pure (.val .non) : M Tm)) s) → rAppend v [w] H Q := fun h => by
    obtain ⟨t', s', e, k⟩ := RunE.ok (m := (escape u).bind fun x => (ownList t).bind fun pds => (need (decide (pds.2.length < sizeLine))).bind fun _ => (putAt pds.1 (.lst .own (pds.2 ++ [x]))).bind fun _ => (pure (.val .non) : M Tm)) (.bind' .escape fun _ => .bind' (by
      cases t with
      | val _ => exact .fail
      | «at» p => exact .bind .deref fun d => by cases d <;> first | exact .fail | (rename_i o ds; cases o <;> first | exact .fail | exact .pure)) fun _ => .bind' .need fun _ => .bind' .putAt fun _ => .pure) h
    simp only [ok_bind', ok_need, ok_pure, ok_putAt] at e
    obtain ⟨x, s1, e1, pds, s2, e2, _, s3, ⟨hz, rfl⟩, _, s4, e3, rfl, rfl⟩ := e
    have R1 := R.esc e1
    cases t with
    | val _ =>
      have e2 : (Out.fail : Out (Path × List D)) = .ok pds _ := e2
      cases e2
    | «at» p =>
      obtain ⟨rfl, rfl, eg⟩ := getP_lst (ds := []) e2
      obtain ⟨hl1, R2, aP⟩ := R1
      have hz := of_decide_eq_true hz
      obtain ⟨a₀, vs, rfl, hH, hlen, R3⟩ := Rel.write (es := [x]) (ws := [w]) (os := []) (gv := fun _ => []) (fv := fun vs => vs ++ [w]) rfl R2 (aP _ v List.mem_cons_self) eg (fun g H vs f1 f2 r1 r2 => ⟨_, _, r1.append r2 (fun _ => rfl), .nil fun _ => rfl, fun b => by simp⟩) e3
      exact ⟨a₀, vs, w, rfl, rfl, hH, by rw [← hlen]; exact hz, k _ _ as hA (fun z => by cases z) (KRel.non R3)⟩
  cases wd with
  | @str x =>
    obtain ⟨t', s', e, k⟩ := RunE.ok (m := (derefL [u]).bind fun ds => (opt (strBm .append x ds)).bind fun r => (pure (.val r) : M Tm)) (.bind' .derefL fun _ => .bind' .opt fun _ => .pure) h
    simp only [ok_bind', ok_opt, ok_pure] at e
    obtain ⟨ds, s1, e1, r, s2, ⟨er, _⟩, _⟩ := e
    cases er
  | dK _ _ _ => exact h.elim
  | _ => exact main h
theorem snd_append {e : Expr} {apos : Pos} (hK : X.K = κ.K) (ho : SE κ X W a ev ca) (he : SAs κ X W ev [e] [cb]) (hbase : attributeBase a "append" X.env (eval a X.env) = eval a X.env) (hline : (apos.endLine == pos.line) = true) :
    PE X (.Call (.Attribute a "append" apos) [e] [] pos) (tE κ W (quiet (.bm .append ca [cb])) (step P ev cf (.bm .append ca [cb]))) := by
  have hs : starEach [e] X.env = (false, eval e X.env) :: starEach [] X.env := by cases he with | cons _ h _ => exact h
  refine (pe_bm PySem.F.plainAttrs_list PySem.F.slot_list_append type_list_append mt_append ho.pe he.pa hbase (by
    rw [hs]; rfl) hline hs rfl).mono fun σ H Q h => ?_
  rw [hK]
  have h : tE κ W false (step P ev cf (.bm .append ca [cb])) σ H Q := h
  refine meth h (fun {as d v H1} w hb => ?_) fun {A as as1 as2 ts tds t tms s1 v vs H1 H2} hl hl2 hA hA2 hx hx2 R h => ?_
  · cases d <;> first | exact tyList w | cases hb
  · match tms, vs, hl, hl2 with
    | [u], [w], _, _ => exact append_ok R h (hA.trans hA2)
end
end VS
/-! A dict of the module's text, asked with a default. -/
namespace VS
open PySem L2
inductive Ents (w : World) : List DictEntry → List Key → List D → Prop
  | nil : Ents w [] [] []
  | cons {e : DictEntry} {es : List DictEntry} {k : Key} {ks : List Key} {d : D} {ds : List D} {v : V} : keyIs k e.key = true → e.hash = keyH w k → RelV v e.val → Scal d v → Ents w es ks ds → Ents w (e :: es) (k :: ks) (d :: ds)
structure KD (K : PySem.W.Frag) (w : World) (a : Addr) (ks : List Key) (ds : List D) : Prop where
  ex : ∃ es n, K.lookup a = some ⟨.type "dict", none, .dict es n, #[]⟩ ∧ Ents w es.toList ks ds
  low : (a == sysModules) = false
theorem Ents.keys {w : World} {es : List DictEntry} {ks : List Key} {ds : List D} (h : Ents w es ks ds) : ∀ e ∈ es, ∃ k, keyIs k e.key = true ∧ e.hash = keyH w k := by
  induction h with
  | nil => intro e he; cases he
  | cons h1 h2 h3 h4 h5 ih =>
    intro e he
    rcases List.mem_cons.mp he with rfl | he
    · exact ⟨_, h1, h2⟩
    · exact ih e he
theorem Ents.find {P : Program} {w : World} {es : List DictEntry} {ks : List Key} {ds : List D} (h : Ents w es ks ds) (k : Key) : (match (findK ks k).bind fun j => ds[j]? with
    | some d => ∃ u v, (es.find? fun e => keyIs k e.key).map (·.val) = some u ∧ RelV v u ∧ Scal d v
    | none => (es.find? fun e => keyIs k e.key).map (·.val) = none) := by
  induction h with
  | nil => rfl
  | @cons e es k' ks d ds v h1 h2 h3 h4 h5 ih =>
    have hd : keyIs k e.key = decide (k = k') := (PySem.KeyKind.is_eq_decide (knd := mixKind P w) h1 k)
    by_cases hk : k' = k
    · subst hk
      simp only [findK, if_true, Option.bind_some, List.getElem?_cons_zero]
      refine ⟨e.val, v, ?_, h3, h4⟩
      rw [List.find?_cons, h1]
      rfl
    · have hn : keyIs k e.key = false := by rw [hd]; exact decide_eq_false fun z => hk z.symm
      have e1 : ((findK (k' :: ks) k).bind fun j => (d :: ds)[j]?) = (findK ks k).bind fun j => ds[j]? := by
        simp only [findK, if_neg hk]
        cases findK ks k <;> rfl
      rw [e1, List.find?_cons, hn]
      exact ih
section
variable {κ : Kit} {X : Cx} {W : WX} {ev : CE → M Tm} {P : Prog} {cf : Nat → List D → M (D × List D)}
theorem pe_kget2 {x : Str} {p apos cpos : Pos} {e f : Expr} {a : Addr} {ks : List Key} {ds : List D} {ty tx : TE} (kd : KD X.K X.w a ks ds) (hg : Gl X x) (hm : X.mg x = some (.ref a)) (hd : (x == ("__debug__" : Str)) = false) (he : PE X e ty) (hf : PE X f tx) (m : M2 X (.Name x p) "get" apos e f cpos) :
    PE X (.Call (.Attribute (.Name x p) "get" apos) [e, f] [] cpos) (fun σ H Q => ty σ H fun y H2 => tx σ H2 fun z H3 => ∃ k, y = kV k ∧ match (findK ks k).bind fun j => ds[j]? with | some d => ∀ v, Scal d v → Q v H3 | none => Q z H3) := by
  refine ⟨fun pins s σ H Q I h => ?_⟩
  have ho : PE X (.Name x p) (tC (.ref a)) := pe_glob hg hm rfl hd
  obtain ⟨⟨es, n, hl, en⟩, low⟩ := kd
  have mp : ∀ {s : Shared}, X.K.In s.heap → s.heap.MapOf (mixKind X.prog X.w) a fun k => findBy keyIs es k := fun hK => ⟨_, es, n, hK _ _ hl, ⟨rfl, rfl, rfl⟩, rfl, fun e he => en.keys e (Array.mem_toList_iff.mpr he), fun _ => rfl⟩
  refine wpAny_Call_method m.base m.few m.line PySem.F.plainAttrs_dict PySem.F.slot_dict_get PySem.F.type_dict_get (thn (ho.run pins s σ H (fun x H1 => x = .ref a ∧ H1 = H) I ⟨rfl, rfl⟩) fun u s1 ⟨x', H1, I1, rx, ex, eH⟩ => ?_)
  subst ex eH
  obtain rfl : u = Value.ref a := rx
  refine ⟨(mp I1.kIn).typeIs, (mp I1.kIn).noDict, ?_⟩
  rw [m.trees]
  refine Calls.callWith_builtin rfl (Calls.evalArgs_plain (Calls.spliced_cons (thn (he.run pins s1 σ _ _ I1 h) fun iv s2 ⟨y, H2, I2, ry, q2⟩ =>
    Calls.spliced_cons (thn (hf.run pins s2 σ H2 _ I2 q2) fun fv s3 ⟨z, H3, I3, rz, k, ey, q3⟩ => Calls.spliced_nil ?_))))
  subst ey
  refine call_meetsIn PySem.F.slot_dict_get (mp I3.kIn).typeIs PySem.F.entry_dict_get (PySem.F.args_dict_get_3 _ _ _) (meets_dict_get_default (mixKind X.prog X.w) a (kV_is ry) low fv) ⟨_, mp I3.kIn, ?_⟩
  have hfind := en.find (P := X.prog) k
  have ef : findBy keyIs es k = (es.toList.find? fun e => keyIs k e.key).map (·.val) := by
    obtain ⟨l⟩ := es
    unfold findBy
    rw [List.find?_toArray]
  cases e1 : (findK ks k).bind fun j => ds[j]? with
  | none =>
    simp only [e1] at hfind q3
    refine ⟨z, H3, I3.tok _, ?_, q3⟩
    show RelV z ((findBy keyIs es k).getD fv)
    rw [ef, hfind]
    exact rz
  | some d =>
    simp only [e1] at hfind q3
    obtain ⟨u, v, hu, rv, sc⟩ := hfind
    refine ⟨v, H3, I3.tok _, ?_, q3 v sc⟩
    show RelV v ((findBy keyIs es k).getD fv)
    rw [ef, hu]
    exact rv
theorem snd_kget {x : Str} {p apos cpos : Pos} {e f : Expr} {ce cf' : CE} {a : Addr} {ks : List Key} {ds : List D} (hev : (∀ s, ev (.glo x) s = .ok (.val (.dK .wrt ks ds)) s) ∨ ∀ s, ev (.glo x) s = .fail) (kd : KD X.K X.w a ks ds) (hg : Gl X x) (hm : X.mg x = some (.ref a)) (hd : (x == ("__debug__" : Str)) = false)
    (hs : SAs κ X W ev [e, f] [ce, cf']) (m : M2 X (.Name x p) "get" apos e f cpos) :
    PE X (.Call (.Attribute (.Name x p) "get" apos) [e, f] [] cpos) (tE κ W (quiet (.bm .get (.glo x) [ce, cf'])) (step P ev cf (.bm .get (.glo x) [ce, cf']))) := by
  have he : PE X e (tE κ W (quiet ce) (ev ce)) := by cases hs with | cons h _ _ => exact h.pe
  have hf : PE X f (tE κ W (quiet cf') (ev cf')) := by cases hs with | cons _ _ r => cases r with | cons h _ _ => exact h.pe
  refine (pe_kget2 kd hg hm hd he hf m).mono fun σ H Q h => ?_
  have h : tE κ W (true && quietL [ce, cf']) ((ev (.glo x)).bind fun t => (deref t).bind fun d => (need (bmOk .get d)).bind fun _ => (stays t [ce, cf']).bind fun _ => (evalL ev [ce, cf']).bind fun ts => bmT .get t ts) σ H Q := h
  have h : tE κ W (true && quietL [ce, cf']) ((evalL ev [ce, cf']).bind fun ts => bmT .get (.val (.dK .wrt ks ds)) ts) σ H Q := by
    obtain ⟨A, as, ts, tds, s, R, h⟩ := h
    refine ⟨A, as, ts, tds, s, R, ?_⟩
    rcases hev with hev | hev
    · rw [show ((ev (.glo x)).bind _) s = _ from bind_ok_of (hev s)] at h
      exact h
    · rw [show ((ev (.glo x)).bind _) s = _ from bind_fail_of (hev s)] at h
      exact h.elim
  refine tLs_bind (es := [ce, cf']) (Q' := fun vs H3 => match vs with | [y, z] => ∃ k, y = kV k ∧ (match (findK ks k).bind fun j => ds[j]? with | some d => ∀ v, Scal d v → Q v H3 | none => Q z H3) | _ => True) h fun {A as ts tds tms s1 vs H1 as1} hl hA hx R hr hl2 => ?_
  match tms, vs, hl, hl2 with
  | [tk, tu], [vk, vu], _, _ =>
    have R : KTms κ A as1 σ ts H1 s1 tds [] [] [(tu, vu), (tk, vk)] := R
    have hr : RunE κ A σ ts tds H as (true && quietL [ce, cf']) W Q ((deref tk >>= fun k => (opt (keyD k)).bind fun k => getT (.val (.dK .wrt ks ds)) (.key k) ((findK ks k).bind fun j => ds[j]?) (pure tu)) s1) := hr
    obtain ⟨d, ed, w, hr⟩ := derefB (m := VS.fail) R (t := tk) (v := vk) (by simp) hr
    have key : ∃ k, keyD d = some k ∧ vk = kV k := by
      cases hk : keyD d with
      | none => rw [hk] at hr; exact hr.elim
      | some k =>
        refine ⟨k, rfl, ?_⟩
        cases w <;> simp [keyD] at hk <;> (subst hk; rfl)
    obtain ⟨k, ek, rfl⟩ := key
    rw [ek] at hr
    refine ⟨k, rfl, ?_⟩
    have hr : RunE κ A σ ts tds H as (true && quietL [ce, cf']) W Q (getT (.val (.dK .wrt ks ds)) (.key k) ((findK ks k).bind fun j => ds[j]?) (pure tu) s1) := hr
    cases e1 : (findK ks k).bind fun j => ds[j]? with
    | none =>
      rw [e1] at hr
      exact hr vu H1 as1 hA (fun z => hx (andq z).2) R.swap.drop
    | some d =>
      rw [e1] at hr
      intro v sc
      exact RunE.pureV (d := d) hr hA (fun z => hx (andq z).2) R.dropAll sc
end
end VS
/-! What is walked over. -/
namespace VS
open PySem L2
def Act.pin (A : Act) (F : Hp) : Act := { A with Fz0 := F }
/-- no name is held -/
def Act.nf (A : Act) : Act := { A with fix := [] }
def SqK (K : PySem.W.Frag) (H : Hp) (d : D) (a : Addr) (vs : List V) : Prop := match d with
  | .tup _ => H a = some (.tup vs)
  | .lst .wrt _ => SqL K H a vs
  | _ => H a = some (.lst vs)
section
variable {κ : Kit} {A A' : Act} {σ : St} {ts : List V} {tds : List D} {as : List Addr} {H : Hp} {s s' : Sx}
/-- while it is so, the thing stays -/
def Holds (κ : Kit) (A' : Act) (d : D) (a : Addr) (vs : List V) : Prop := ∀ {as : List Addr} {σ : St} {ts : List V} {H : Hp} {s : Sx} {tds : List D}, KRel κ A'.nf as σ ts H s tds → SqK κ.K H d a vs
/-- why it stays -/
def Why (κ : Kit) (A' : Act) (d : D) (a : Addr) (vs : List V) : Prop := SqK κ.K A'.Fz0 d a vs ∨ ((∀ ds, d ≠ .tup ds) ∧ A'.Lk a = some (.lst vs))
/-- what is fixed stays so -/
structure Grow (A A' : Act) : Prop where
  fz : ∀ a o, A.Fz0 a = some o → A'.Fz0 a = some o
  lk : ∀ a o, A.Lk a = some o → A'.Lk a = some o
theorem Grow.refl : Grow A A := ⟨fun _ _ h => h, fun _ _ h => h⟩
theorem Rel.nf (R : KRel κ A as σ ts H s tds) : KRel κ A.nf as σ ts H s tds := by
  obtain ⟨fx, Fz, tot, evs, fE, fT, fS, C, S⟩ := R
  exact ⟨fun _ h => absurd h (by simp [Act.nf]), Fz, tot, evs, fE, fT, fS, C, ⟨S.fzH, S.fz0, S.lkH, S.as0, S.uno, S.nfz, S.own, S.kp, S.fzo⟩⟩
theorem Rel.unnf (R : KRel κ A.nf as σ ts H s tds) (fx : ∀ p ∈ A.fix, σ[p.1]? = some (some p.2)) : KRel κ A as σ ts H s tds := by
  obtain ⟨_, Fz, tot, evs, fE, fT, fS, C, S⟩ := R
  exact ⟨fx, Fz, tot, evs, fE, fT, fS, C, ⟨S.fzH, S.fz0, S.lkH, S.as0, S.uno, S.nfz, S.own, S.kp, S.fzo⟩⟩
/-- and behind it all is as it was -/
structure Back (κ : Kit) (A' A : Act) (lk : List Nat) : Prop where
  run : ∀ {as : List Addr} {σ : St} {ts : List V} {H : Hp} {s s' : Sx} {tds : List D}, KRel κ A' as σ ts H s tds → unlock lk s = some s' → KRel κ A as σ ts H s' tds
  fx : ∀ q ∈ A'.fix, q ∈ A.fix ∨ q.1 ∈ lk
theorem Back.refl : Back κ A A [] := ⟨fun R e => by cases e; exact R, fun q h => .inl h⟩
theorem Rel.pinIt {Fz : Hp} {tot : Fp} {evs : List V} {fE fT fS : Fp} (fx : ∀ p ∈ A.fix, σ[p.1]? = some (some p.2)) (C : RelC κ.K κ.T ⟨Fz, A.Lk, as⟩ σ ts H s tds tot evs fE fT fS) (S : Sane A as Fz H tot) : KRel κ (A.pin Fz) as σ ts H s tds ∧ Back κ (A.pin Fz) A [] := by
  refine ⟨⟨fx, Fz, tot, evs, fE, fT, fS, C, ⟨S.fzH, fun _ _ e => e, S.lkH, S.as0, S.uno, S.nfz, S.own, S.kp, fun b o e => .inl e⟩⟩, fun R e => ?_, fun q h => .inl h⟩
  cases e
  obtain ⟨fx1, Fz1, tot1, evs1, fE1, fT1, fS1, C1, S1⟩ := R
  exact ⟨fx1, Fz1, tot1, evs1, fE1, fT1, fS1, C1, ⟨S1.fzH, fun a o e => S1.fz0 a o (S.fz0 a o e), S1.lkH, S1.as0, S1.uno, S1.nfz, S1.own, S1.kp, fun b o e => by
    rcases S1.fzo b o e with h | h
    · exact S.fzo b o h
    · exact .inr h⟩⟩
theorem pin_fz {a : Addr} {o : HO} (e : A.Fz0 a = some o) (R : KRel κ A as σ ts H s tds) : H a = some o := by
  obtain ⟨fx, Fz, tot, evs, fE, fT, fS, C, S⟩ := R
  exact S.fzH _ _ (S.fz0 _ _ e)
theorem pin_fz0 {F : Hp} {a : Addr} {o : HO} (e : F a = some o) (R : KRel κ (A.pin F) as σ ts H s tds) : H a = some o := pin_fz (A := A.pin F) e R
theorem pin_fzn {F : Hp} {a : Addr} {o : HO} (e : F a = some o) (R : KRel κ (A.pin F).nf as σ ts H s tds) : H a = some o := pin_fz (A := (A.pin F).nf) e R
theorem lock_at {a : Addr} {o : HO} (e : A.Lk a = some o) (R : KRel κ A as σ ts H s tds) : H a = some o := by
  obtain ⟨fx, Fz, tot, evs, fE, fT, fS, C, S⟩ := R
  exact S.lkH _ _ e
theorem sqL_of {K : PySem.W.Frag} {a : Addr} {vs : List V} (h : H a = some (.lst vs)) : SqL K H a vs := .inl (.inl h)
theorem sqT_of {K : PySem.W.Frag} {a : Addr} {vs : List V} (h : H a = some (.tup vs)) : SqT K H a vs := .inl (.inl h)
/-- a list or tuple between: its parts, and it stays as it is -/
theorem Rel.kidsPin {d : D} {v : V} {ds : List D} (R : KRel κ A as σ (v :: ts) H s (d :: tds)) (e : seqD d = some ds) : ∃ a vs A', v = .ref a ∧ ds.length = vs.length ∧ KRel κ A' as σ (vs ++ ts) H s (ds ++ tds) ∧ Holds κ A' d a vs ∧ Back κ A' A [] ∧ Why κ A' d a vs ∧ Grow A A' := by
  obtain ⟨fx, Fz, tot, evs, fE, fT, fS, C, S⟩ := R
  obtain ⟨v', ts', f, fT', tot', e1, r, C', z⟩ := C.pop
  cases e1
  have own : ∀ {a : Addr} {vs : List V} {fk : Fp}, H a = some (.lst vs) → Rps κ.K ⟨Fz, A.Lk, as⟩ H ds vs fk → (∀ b, f b = fk b + one a b) → ∃ A', KRel κ A' as σ (vs ++ ts) H s (ds ++ tds) ∧ (∀ {as : List Addr} {σ : St} {ts : List V} {H : Hp} {s : Sx} {tds : List D}, KRel κ A'.nf as σ ts H s tds → H a = some (.lst vs)) ∧ Back κ A' A [] ∧ A'.Fz0 a = some (.lst vs) ∧ Grow A A' := fun {a vs fk} h1 h2 h3 => by
    obtain ⟨S1, k1, k2⟩ := Sane.freeze S (f := one a) (fr := fun b => tot' b + fk b) fun b => by have := z b; have := h3 b; omega
    have Cx := C'.pushs h2
    have C1 := RelC.mono (g' := ⟨addF Fz H (one a), A.Lk, as⟩) (H' := H) Cx k1 rfl (fun b _ => ⟨rfl, rfl⟩)
    obtain ⟨P, B⟩ := Rel.pinIt fx C1 S1
    have ef : addF Fz H (one a) a = some (.lst vs) := by rw [k2 a (by simp [one])]; exact h1
    exact ⟨_, P, fun R => pin_fzn ef R, B, ef, ⟨fun a o e => k1 a o (S.fz0 a o e), fun _ _ h => h⟩⟩
  have same : ∀ {vs : List V} {fk : Fp}, Rps κ.K ⟨Fz, A.Lk, as⟩ H ds vs fk → (∀ b, fk b ≤ f b) → KRel κ (A.pin Fz) as σ (vs ++ ts) H s (ds ++ tds) ∧ Back κ (A.pin Fz) A [] ∧ Grow A (A.pin Fz) := fun {vs fk} h1 h2 => by
    obtain ⟨P, B⟩ := Rel.pinIt fx (C'.pushs h1) (S.less fun b => by have := z b; have := h2 b; omega)
    exact ⟨P, B, ⟨S.fz0, fun _ _ h => h⟩⟩
  cases r with
  | tup q rs =>
    cases e
    obtain ⟨P, B, g⟩ := same rs fun _ => Nat.le_refl _
    exact ⟨_, _, _, rfl, rs.len, P, fun R => pin_fzn q R, B, .inl q, g⟩
  | own q l rs z1 =>
    cases e
    obtain ⟨A', P, Hd, B, ef, g⟩ := own q rs z1
    exact ⟨_, _, _, rfl, rs.len, P, Hd, B, .inl ef, g⟩
  | lck q l rs z1 =>
    cases e
    obtain ⟨A', P, Hd, B, ef, g⟩ := own q rs z1
    exact ⟨_, _, _, rfl, rs.len, P, Hd, B, .inl ef, g⟩
  | frz q rs z1 =>
    cases e
    obtain ⟨P, B, g⟩ := same rs fun _ => Nat.le_refl _
    exact ⟨_, _, _, rfl, rs.len, P, fun R => pin_fzn q R, B, .inl q, g⟩
  | wrt q rs z1 =>
    cases e
    obtain ⟨P, B, g⟩ := same rs fun _ => Nat.le_refl _
    exact ⟨_, _, _, rfl, rs.len, P, fun R => sqL_mono (fun _ _ e => pin_fzn e R) q, B, .inl q, g⟩
  | gone _ => cases e
  | non _ => cases e
  | bl _ => cases e
  | int _ => cases e
  | str _ => cases e
  | obj _ _ => cases e
  | dKo => cases e
  | dKf => cases e
theorem Rel.lckAt {i : Nat} {ds : List D} {v : V} (R : KRel κ A as σ ts H s tds) (a : AtP as σ H ⟨.loc i, []⟩ v) (e : s.env[i]? = some (.lst .lck ds)) : ∃ x vs, v = .ref x ∧ A.Lk x = some (.lst vs) := by
  obtain ⟨fx, Fz, tot, evs, fE, fT, fS, C, S⟩ := R
  have eg : s.getP ⟨.loc i, []⟩ = some (.lst .lck ds) := by simp [Sx.getP, Sx.getR, e, D.get]
  obtain ⟨f, fr, r, z, _⟩ := C.foc S.fzH a eg (by simp)
  cases r with
  | lck q l rs z => exact ⟨_, _, rfl, l⟩
theorem Rel.tupAt {i : Nat} {ds : List D} {v : V} (R : KRel κ A as σ ts H s tds) (a : AtP as σ H ⟨.loc i, []⟩ v) (e : s.env[i]? = some (.tup ds)) : ∃ x vs F, v = .ref x ∧ F x = some (.tup vs) ∧ KRel κ (A.pin F) as σ ts H s tds ∧ Back κ (A.pin F) A [] ∧ Grow A (A.pin F) := by
  obtain ⟨fx, Fz, tot, evs, fE, fT, fS, C, S⟩ := R
  have eg : s.getP ⟨.loc i, []⟩ = some (.tup ds) := by simp [Sx.getP, Sx.getR, e, D.get]
  obtain ⟨f, fr, r, z, _⟩ := C.foc S.fzH a eg (by simp)
  obtain ⟨P, B⟩ := Rel.pinIt fx C S
  cases r with
  | tup q rs => exact ⟨_, _, _, rfl, q, P, B, ⟨S.fz0, fun _ _ h => h⟩⟩
/-- what is walked, and how it is left -/
theorem walked_ok {t : Tm} {v : V} {it : Items} (R : KTms κ A as σ ts H s tds [] [] [(t, v)]) (e : walked t s = .ok it s') : ∃ l lk A' a vs d0, it = .ds l lk ∧ deref t s = .ok d0 s ∧ v = .ref a ∧ l.length = vs.length ∧ KRel κ A' as σ (vs ++ ts) H s' (l ++ tds) ∧ Holds κ A' d0 a vs ∧ Back κ A' A lk ∧ (seqD d0).isSome = true ∧ Why κ A' d0 a vs ∧ Grow A A' := by
  simp only [walked, ok_bind, ok_need, ok_pure] at e
  obtain ⟨d, s1, ed, _, s2, ⟨hw, rfl⟩, l, s3, ek, lk, s4, el, rfl, rfl⟩ := e
  obtain ⟨rfl, w⟩ := R.view (t := t) (v := v) (by simp) ed
  cases t with
  | val x =>
    obtain ⟨rfl, -⟩ := ok_val.mp ed
    obtain ⟨e1, rfl⟩ := kidsOf_val ek
    obtain ⟨rfl, rfl⟩ := ok_pure.mp el
    obtain ⟨a, vs, A', rfl, hl, P, Hd, B, wy, g⟩ := Rel.kidsPin (R.2.1 : KRel κ A as σ (v :: ts) H _ (d :: tds)) e1
    exact ⟨_, _, A', a, vs, d, rfl, ok_val.mpr ⟨rfl, rfl⟩, rfl, hl, P, Hd, B, by rw [e1]; rfl, wy, g⟩
  | «at» p =>
    have aP : AtP as σ H p v := R.2.2 p v (by simp)
    have R0 : KRel κ A as σ ts H s2 tds := R.2.1
    obtain ⟨ep, -⟩ := ok_at.mp ed
    obtain ⟨d0, a, vs, ep', rfl, sq, hl, R1⟩ := R0.at_kids aP ek
    rw [ep] at ep'
    cases ep'
    have hH : H a = some (.lst vs) ∨ H a = some (.tup vs) := by
      cases d <;> first | exact sq.elim | exact .inr sq | (rename_i o ds; cases o with
        | wrt => simp [walkOk] at hw
        | own => exact .inl (sq.2 fun z => by cases z)
        | lck => exact .inl (sq.2 fun z => by cases z)
        | frz => exact .inl (sq.2 fun z => by cases z))
    have sI : (seqD d).isSome = true := by cases d <;> first | exact sq.elim | rfl
    have hK : ∀ {H' : Hp}, H' a = some (.lst vs) → (∀ ds, d ≠ .tup ds) → SqK κ.K H' d a vs := fun h1 h2 => by
      cases d <;> first | exact (h2 _ rfl).elim | exact h1 | (rename_i o ds; cases o <;> first | exact h1 | exact sqL_of h1)
    have hT : ∀ {H' : Hp} {ds : List D}, H' a = some (.tup vs) → d = .tup ds → SqK κ.K H' d a vs := fun h1 h2 => by subst h2; exact h1
    have notT : H a = some (.lst vs) → ∀ ds, d ≠ .tup ds := fun h ds z => by subst z; have sq : H a = some (.tup vs) := sq; rw [h] at sq; cases sq
    have isT : H a = some (.tup vs) → ∃ ds, d = .tup ds := fun h => by
      cases d <;> first | exact sq.elim | exact ⟨_, rfl⟩ | (rename_i o ds; cases o with
        | wrt => simp [walkOk] at hw
        | own => have := sq.2 (fun z => by cases z); rw [h] at this; cases this
        | lck => have := sq.2 (fun z => by cases z); rw [h] at this; cases this
        | frz => have := sq.2 (fun z => by cases z); rw [h] at this; cases this)
    by_cases hp : ∃ i, p = ⟨.loc i, []⟩
    · obtain ⟨i, rfl⟩ := hp
      have hσ : σ[i]? = some (some (.ref a)) := by obtain ⟨v0, r, ac⟩ := aP; cases ac; exact r
      have el : (match s3.env[i]? with
        | some (.lst .own ds) => (Out.ok [i] { s3 with env := s3.env.set i (.lst .lck ds) } : Out (List Nat))
        | some (.lst .lck _) => .ok [] s3
        | some (.tup _) => .ok [] s3
        | _ => .fail) = .ok lk s' := el
      split at el
      · rename_i ds' e'
        obtain ⟨rfl, rfl⟩ : lk = [i] ∧ s' = { s3 with env := s3.env.set i (.lst .lck ds') } := by cases el; exact ⟨rfl, rfl⟩
        obtain ⟨a', vs', h1, h2, h3, h4, P⟩ := R1.lock e'
        rw [hσ] at h1
        cases h1
        have hv : H a = some (.lst vs) := by
          rcases hH with h | h
          · exact h
          · rw [h2] at h; cases h
        rw [h2] at hv
        cases hv
        refine ⟨l, [i], _, a, vs, d, rfl, ed, rfl, hl, P, fun R => hK (lock_at (A := (A.lock i a vs).nf) (by show upd A.Lk a (.lst vs) a = _; exact upd_same) R) (notT h2), ⟨fun {as σ ts H s s' tds} R e => ?_, fun q hq => ?_⟩, sI, .inr ⟨notT h2, upd_same⟩, ⟨fun _ _ h => h, fun b o h => by
          have hne : b ≠ a := by rintro rfl; rw [h4] at h; cases h
          show upd A.Lk a _ b = _
          rw [upd_ne hne]; exact h⟩⟩
        rotate_left
        · rcases List.mem_cons.mp hq with rfl | hq
          · exact .inr (by simp)
          · exact .inl hq
        simp only [unlock] at e
        split at e
        · rename_i ds'' e''
          cases e
          exact Rel.unlock h4 R e''
        · cases e
      · rename_i ds' e'
        cases el
        obtain ⟨x, vs', e1, e2⟩ := R1.lckAt aP e'
        cases e1
        have h2 := lock_at e2 R1
        have hv : H a = some (.lst vs) := by
          rcases hH with h | h
          · exact h
          · rw [h2] at h; cases h
        rw [h2] at hv
        cases hv
        exact ⟨l, [], A, a, vs, d, rfl, ed, rfl, hl, R1, fun R => hK (lock_at (A := A.nf) e2 R) (notT h2), Back.refl, sI, .inr ⟨notT h2, e2⟩, .refl⟩
      · rename_i ds' e'
        cases el
        obtain ⟨x, vs', F, e1, e2, P, B, g⟩ := R1.tupAt aP e'
        cases e1
        have h2 := pin_fz0 e2 P
        have hv : H a = some (.tup vs) := by
          rcases hH with h | h
          · rw [h2] at h; cases h
          · exact h
        rw [h2] at hv
        cases hv
        obtain ⟨ds, hd⟩ := isT h2
        exact ⟨l, [], _, a, vs, d, rfl, ed, rfl, hl, P, fun R => hT (pin_fzn e2 R) hd, B, sI, .inl (hT (H' := F) e2 hd), g⟩
      · cases el
    · have el : lockT (.at p) s3 = .ok lk s' := el
      have e0 : lockT (.at p) = (escape (.at p)).bind fun d => (need (lockOk d)).bind fun _ => (pure [] : M (List Nat)) := by
        obtain ⟨root, acc⟩ := p
        cases root with
        | fld n f => rfl
        | loc i =>
          cases acc with
          | nil => exact (hp ⟨i, rfl⟩).elim
          | cons x xs => rfl
      rw [e0] at el
      simp only [ok_bind', ok_need, ok_pure] at el
      obtain ⟨d', s5, e5, _, s6, ⟨hlk, rfl⟩, rfl, rfl⟩ := el
      obtain ⟨d1, eg, h⟩ := escape_at e5
      have R2 : KRel κ A as σ (.ref a :: (vs ++ ts)) H s' (d' :: (l ++ tds)) := by
        rcases h with ⟨hp1, rfl, rfl⟩ | ⟨hp1, hf, rfl, es⟩
        · exact R1.at_plain aP eg hp1
        · exact R1.at_frz aP eg (by rintro rfl; simp [D.frzOk] at hf) hf es
      have hd' : ∃ ds', seqD d' = some ds' ∧ ((∃ x, d' = .lst .frz x) ∨ ∃ x, d' = .tup x) := by
        cases d' with
        | lst o x => cases o <;> first | exact ⟨_, rfl, .inl ⟨_, rfl⟩⟩ | cases hlk
        | tup x => exact ⟨_, rfl, .inr ⟨_, rfl⟩⟩
        | _ => cases hlk
      obtain ⟨ds', es', hk'⟩ := hd'
      obtain ⟨a', vs', A', e1, h3, P, Hd, B, wy, g⟩ := Rel.kidsPin R2 es'
      cases e1
      have P2 := Rel.drops h3 P
      have hP := Hd (Rel.nf P)
      suffices q : (KRel κ A'.nf as σ (vs ++ ts) H s' (l ++ tds) → True) ∧ (∀ {as : List Addr} {σ : St} {ts : List V} {H : Hp} {s : Sx} {tds : List D}, KRel κ A'.nf as σ ts H s tds → SqK κ.K H d a vs) ∧ Why κ A' d a vs by
        exact ⟨l, [], A', a, vs, d, rfl, ed, rfl, hl, P2, q.2.1, B, sI, q.2.2, g⟩
      refine ⟨fun _ => trivial, ?_⟩
      rcases hk' with ⟨x, rfl⟩ | ⟨x, rfl⟩
      · have hv : H a = some (.lst vs) := by
          rcases hH with h | h
          · exact h
          · have hP : H a = some (.lst vs') := hP; rw [h] at hP; cases hP
        have e2 : vs' = vs := by have hP : H a = some (.lst vs') := hP; rw [hv] at hP; cases hP; rfl
        subst e2
        refine ⟨fun R => hK (Hd R) (notT hv), ?_⟩
        rcases wy with w | w
        · exact .inl (hK (H' := A'.Fz0) w (notT hv))
        · exact .inr ⟨notT hv, w.2⟩
      · have hv : H a = some (.tup vs) := by
          rcases hH with h | h
          · have hP : H a = some (.tup vs') := hP; rw [h] at hP; cases hP
          · exact h
        have e2 : vs' = vs := by have hP : H a = some (.tup vs') := hP; rw [hv] at hP; cases hP; rfl
        subst e2
        obtain ⟨ds, hd⟩ := isT hv
        refine ⟨fun R => hT (Hd R) hd, ?_⟩
        rcases wy with w | w
        · exact .inl (hT (H' := A'.Fz0) w hd)
        · exact (w.1 _ rfl).elim
end
end VS
namespace VS
open PySem L2
/-- the turns of a walk, and what they give -/
structure Wk (κ : Kit) (A' : Act) (J : It) (l : List D) (us : Nat → List V) (es : Nat → List D) : Prop where
  len : ∀ i, (es i).length = (us i).length
  go : ∀ {i : Nat} {as : List Addr} {σ : St} {ts : List V} {H : Hp} {s : Sx} {tds : List D}, i < l.length → KRel κ A'.nf as σ (us i ++ ts) H s (es i ++ tds) → J.go i H
  stop : ∀ {as : List Addr} {σ : St} {ts : List V} {H : Hp} {s : Sx} {tds : List D}, KRel κ A'.nf as σ (us l.length ++ ts) H s (es l.length ++ tds) → J.stop l.length H
  yld : ∀ {i : Nat} {as : List Addr} {σ : St} {ts : List V} {H : Hp} {s : Sx} {tds : List D} {x : V} {H' : Hp}, i < l.length → KRel κ A'.nf as σ (us i ++ ts) H s (es i ++ tds) → J.yld i H x H' → ∃ d, l[i]? = some d ∧ KRel κ A'.nf as σ (x :: (us (i + 1) ++ ts)) H' s (d :: (es (i + 1) ++ tds))
def RunI (κ : Kit) (A : Act) (σ : St) (ts : List V) (tds : List D) (as0 : List Addr) (W : WX) (R : It → Hp → Prop) : Out Items → Prop
  | .ok (.ds l lk) s' => ∀ A' as' H' J us es, Wk κ A' J l us es → as0 <+: as' → KRel κ A' as' σ (us 0 ++ ts) H' s' (es 0 ++ tds) → Back κ A' A lk → R J H'
  | .ok (.moved _ _ _) _ => False
  | .exc c ps s' => RunX κ A σ ts tds W c ps s'
  | .fail => False
def tI (κ : Kit) (W : WX) (m : M Items) : TI := fun σ H R => ∃ A as ts tds s, KRel κ A as σ ts H s tds ∧ RunI κ A σ ts tds as W R (m s)
theorem _root_.L2.PI.mono {X : Cx} {tg iter : Expr} {t t' : TI} (h : PI X tg iter t) (hi : ∀ σ H R, t' σ H R → t σ H R) : PI X tg iter t' := ⟨fun pins s σ H R I q => h.run pins s σ H R I (hi σ H R q)⟩
theorem _root_.L2.PI.or {X : Cx} {tg iter : Expr} {t t' : TI} (h : PI X tg iter t) (h' : PI X tg iter t') : PI X tg iter (fun σ H R => t σ H R ∨ t' σ H R) := ⟨fun pins s σ H R I q => q.elim (h.run pins s σ H R I) (h'.run pins s σ H R I)⟩
section
variable {κ : Kit} {A A' : Act} {σ : St} {ts : List V} {tds : List D} {as : List Addr} {H : Hp} {s s' : Sx}
theorem drop_at {α : Type} {l : List α} {i : Nat} {x : α} (h : l[i]? = some x) : l.drop i = x :: l.drop (i + 1) := by
  obtain ⟨hi, rfl⟩ := List.getElem?_eq_some_iff.mp h
  exact List.drop_eq_getElem_cons hi
theorem wk_of {n : Nat} {G : Hp → Prop} {J : It} {l : List D} {vs : List V} (w : Walk J n G (YAt vs)) (hl : l.length = vs.length) (hn : n = vs.length) (hG : ∀ {as : List Addr} {σ : St} {ts : List V} {H : Hp} {s : Sx} {tds : List D}, KRel κ A'.nf as σ ts H s tds → G H) : Wk κ A' J l (fun i => vs.drop i) (fun i => l.drop i) := by
  subst hn
  refine ⟨fun i => by simp [hl], fun hi R => w.goes _ _ (by rw [← hl]; exact hi) (hG R), fun R => by rw [hl]; exact w.stops _ (hG R), fun {i as σ ts H s tds x H'} hi R y => ?_⟩
  obtain ⟨rfl, hx⟩ := w.yields i H x H' (by rw [← hl]; exact hi) (hG R) y
  have hd : l[i]? = some l[i] := List.getElem?_eq_getElem hi
  refine ⟨l[i], hd, ?_⟩
  have R : KRel κ A'.nf as σ (vs.drop i ++ ts) H' s (l.drop i ++ tds) := R
  rw [drop_at hx, drop_at hd] at R
  exact R
theorem SqK.list {K : PySem.W.Frag} {o : Fl} {ds : List D} {a : Addr} {vs : List V} (h : SqK K H (.lst o ds) a vs) : SqL K H a vs := by
  cases o <;> first | exact sqL_of h | exact h
theorem wk_list {l : List D} {vs : List V} {o : Fl} {ds : List D} {a : Addr} (hl : l.length = vs.length) (hh : Holds κ A' (.lst o ds) a vs) : Wk κ A' (Itl κ.K a) l (fun i => vs.drop i) (fun i => l.drop i) :=
  wk_of walk_list hl rfl fun R => (hh R).list
theorem wk_tup {l : List D} {vs : List V} {ds : List D} {a : Addr} (hl : l.length = vs.length) (hh : Holds κ A' (.tup ds) a vs) : Wk κ A' (Itt κ.K a) l (fun i => vs.drop i) (fun i => l.drop i) :=
  wk_of walk_tup hl rfl fun R => sqT_of (hh R)
/-- a walk that gives flat things -/
theorem wk_flat {J : It} {l : List D} {n : Nat} (hn : n = l.length) (f : Nat → V) (w : Walk J n (fun _ => True) (fun i H x H' => H' = H ∧ x = f i)) (hs : ∀ i d, l[i]? = some d → Scal d (f i)) : Wk κ A' J l (fun _ => []) (fun _ => []) := by
  subst hn
  refine ⟨fun _ => rfl, fun hi _ => w.goes _ _ hi True.intro, fun _ => w.stops _ True.intro, fun {i as σ ts H s tds x H'} hi R y => ?_⟩
  obtain ⟨rfl, rfl⟩ := w.yields i H x H' hi True.intro y
  exact ⟨l[i], List.getElem?_eq_getElem hi, Rel.scal R fun g _ => hs i _ (List.getElem?_eq_getElem hi) _ g _⟩
theorem wk_str {z : Str} : Wk κ A' (Its z) (signsD z) (fun _ => []) (fun _ => []) := by
  refine wk_flat (n := z.cps.size) (by simp [signsD]) (fun i => .str ⟨#[z.cps.toList.getD i 0]⟩) (walk_str.mono (fun _ h => h) fun i H x H' hi _ y => ?_) fun i d hd => ?_
  · obtain ⟨rfl, c, hc, rfl⟩ := y
    refine ⟨rfl, ?_⟩
    have : z.cps.toList[i]? = some c := by rw [Array.getElem?_toList]; exact hc
    simp [List.getD, this]
  · simp only [signsD, List.getElem?_map, Option.map_eq_some_iff] at hd
    obtain ⟨c, hc, rfl⟩ := hd
    simp only [List.getD, hc, Option.getD_some]
    exact scal_str _
theorem rangeL_len : ∀ (n : Nat) (lo : Int), (rangeL lo n).length = n
  | 0, _ => rfl
  | n + 1, lo => by simp [rangeL, rangeL_len n]
theorem rangeL_at : ∀ (n : Nat) (lo : Int) (i : Nat) (d : D), (rangeL lo n)[i]? = some d → d = .int (lo + i)
  | 0, _, _, _, h => by simp [rangeL] at h
  | n + 1, lo, 0, d, h => by simp [rangeL] at h; rw [← h]; simp
  | n + 1, lo, i + 1, d, h => by
    simp only [rangeL, List.getElem?_cons_succ] at h
    rw [rangeL_at n (lo + 1) i d h]
    congr 1
    omega
theorem wk_range {lo : Int} {n : Nat} : Wk κ A' (Itr lo n) (rangeL lo n) (fun _ => []) (fun _ => []) := by
  refine wk_flat (n := n) (rangeL_len n lo).symm (fun i => .int (lo + i)) walk_range fun i d hd => ?_
  rw [rangeL_at n lo i d hd]
  exact scal_int _
end
section
variable {κ : Kit} {X : Cx} {W : WX} {ev : CE → M Tm} {e : Expr} {c : CE} {tg : Expr}
theorem deref_same {t : Tm} {d : D} {s s' : Sx} (e : deref t s = .ok d s') : s' = s := by
  cases t with
  | val x => exact (ok_val.mp e).2
  | «at» p => exact (ok_at.mp e).2
theorem NoEx.lockT {t : Tm} : NoEx (VS.lockT t) := by
  cases t with
  | val x => exact .pure
  | «at» p =>
    obtain ⟨root, acc⟩ := p
    have gen : ∀ p : Path, NoEx ((VS.escape (Tm.at p)).bind fun d => (VS.need (lockOk d)).bind fun _ => (Pure.pure [] : M (List Nat))) := fun p => NoEx.bind' NoEx.escape fun _ => NoEx.bind' NoEx.need fun _ => NoEx.pure
    cases root with
    | fld n f => exact gen _
    | loc i =>
      cases acc with
      | cons x xs => exact gen _
      | nil =>
        intro s c ps s' e
        have e : (match s.env[i]? with
        | some (.lst .own ds) => (Out.ok [i] { s with env := s.env.set i (.lst .lck ds) } : Out (List Nat))
        | some (.lst .lck _) => .ok [] s
        | some (.tup _) => .ok [] s
        | _ => .fail) = .exc c ps s' := e
        split at e <;> cases e
theorem NoEx.walked {t : Tm} : NoEx (VS.walked t) := .bind .deref fun _ => .bind .need fun _ => .bind .kidsOf fun _ => .bind .lockT fun _ => .pure
theorem moved_eq (t : Tm) (d : D) : movedOut t d = VS.fail ∨ ∃ i ds, t = .at ⟨.loc i, []⟩ ∧ d = .lst .own ds := by
  cases t with
  | val x => exact .inl rfl
  | «at» p =>
    obtain ⟨r, acc⟩ := p
    cases r with
    | fld n f => exact .inl rfl
    | loc i =>
      cases acc with
      | cons x xs => exact .inl rfl
      | nil =>
        cases d with
        | lst o ds => cases o <;> first | exact .inr ⟨i, ds, rfl, rfl⟩ | exact .inl rfl
        | _ => exact .inl rfl
theorem gone_rps {K : PySem.W.Frag} {g : Gh} {H : Hp} : ∀ {ds : List D} {vs : List V}, ds.length = vs.length → Rps K g H (goneL ds) vs fun _ => 0
  | [], [], _ => .nil fun _ => rfl
  | _ :: ds, _ :: vs, h => .cons (f1 := fun _ => 0) (f2 := fun _ => 0) (.gone fun _ => rfl) (gone_rps (by simpa using h)) fun _ => rfl
  | [], _ :: _, h => by simp at h
  | _ :: _, [], h => by simp at h
/-- the items of a name's own list, taken out -/
theorem moved_ok {κ : Kit} {A : Act} {σ : St} {ts : List V} {tds : List D} {as : List Addr} {H : Hp} {s : Sx} {i : Nat} {ds : List D} {v : V} (R : KRel κ A as σ ts H s tds) (e : s.env[i]? = some (.lst .own ds)) (hσ : σ[i]? = some (some v)) :
    ∃ a vs A', v = .ref a ∧ ds.length = vs.length ∧ KRel κ A' as σ (vs ++ ts) H { s with env := s.env.set i (.lst .lck (goneL ds)) } (ds ++ tds) ∧ Holds κ A' (.lst .own ds) a vs ∧ Back κ A' A [i] := by
  have key : ∃ a vs, v = .ref a ∧ ds.length = vs.length ∧ H a = some (.lst vs) ∧ KRel κ A as σ (vs ++ ts) H { s with env := s.env.set i (.lst .own (goneL ds)) } (ds ++ tds) := by
    obtain ⟨fx, Fz, tot, evs, fE, fT, fS, C, S⟩ := R
    obtain ⟨w, hw, hσ'⟩ := (C.env i _ e).resolve_left (by simp)
    rw [hσ] at hσ'; cases hσ'
    obtain ⟨w', f1, f2, h1, r, z, k⟩ := C.rE.at e
    rw [hw] at h1; cases h1
    cases r with
    | @own _ vs a₀ _ fk q l rs z1 =>
      have hl := rs.len
      have ro : Rp κ.K ⟨Fz, A.Lk, as⟩ H (.lst .own (goneL ds)) (.ref a₀) (one a₀) := .own q l (gone_rps hl) fun b => by simp
      obtain ⟨fp', rp, zp⟩ := k (g' := ⟨Fz, A.Lk, as⟩) (H' := H) (fun _ _ q => q) List.prefix_rfl (fun b _ => ⟨rfl, rfl⟩) ro
      rw [set_get_self hw] at rp
      refine ⟨a₀, vs, rfl, hl, q, fx, Fz, fun b => fp' b + (fk b + fT b) + fS b, evs, fp', fun b => fk b + fT b, fS, ⟨fun j y ey => ?_, by simpa using C.sl, rp, rs.append C.rT fun _ => rfl, C.rS, fun _ => rfl⟩, S.less fun b => ?_⟩
      · by_cases hj : i = j
        · subst hj
          exact .inr ⟨_, hw, hσ⟩
        · rw [List.getElem?_set_ne hj] at ey; exact C.env j y ey
      · have := C.sum b; have := z b; have := zp b; have := z1 b; omega
  obtain ⟨a, vs, rfl, hl, hH, R1⟩ := key
  have e1 : ({ s with env := s.env.set i (.lst .own (goneL ds)) } : Sx).env[i]? = some (.lst .own (goneL ds)) := by
    have hi : i < s.env.length := (List.getElem?_eq_some_iff.mp e).1
    show (s.env.set i _)[i]? = _
    rw [List.getElem?_set_self hi]
  obtain ⟨a', vs', h1, h2, h3, h4, P⟩ := R1.lock e1
  rw [hσ] at h1
  cases h1
  rw [hH] at h2
  cases h2
  have P : KRel κ (A.lock i a vs) as σ (vs ++ ts) H { s with env := s.env.set i (.lst .lck (goneL ds)) } (ds ++ tds) := by
    have eq : (s.env.set i (.lst .own (goneL ds))).set i (.lst .lck (goneL ds)) = s.env.set i (.lst .lck (goneL ds)) := List.set_set ..
    have P : KRel κ (A.lock i a vs) as σ (vs ++ ts) H { s with env := (s.env.set i (.lst .own (goneL ds))).set i (.lst .lck (goneL ds)) } (ds ++ tds) := P
    rw [eq] at P; exact P
  refine ⟨a, vs, A.lock i a vs, rfl, hl, P, fun R => lock_at (A := (A.lock i a vs).nf) (by show upd A.Lk a (.lst vs) a = _; exact upd_same) R, ⟨fun {as σ ts H s s' tds} R e => ?_, fun q hq => ?_⟩⟩
  · simp only [unlock] at e
    split at e
    · rename_i ds'' e''
      cases e
      exact Rel.unlock h4 R e''
    · cases e
  · rcases List.mem_cons.mp hq with rfl | hq
    · exact .inr (by simp)
    · exact .inl hq
theorem moved_cases {κ : Kit} {W : WX} {A : Act} {σ : St} {ts : List V} {tds : List D} {as : List Addr} {s : Sx} {R : It → Hp → Prop} {t : Tm} {d : D} (go : RunI κ A σ ts tds as W R (movedOut t d s)) : ∃ i ds, t = .at ⟨.loc i, []⟩ ∧ d = .lst .own ds ∧ RunI κ A σ ts tds as W R (.ok (.ds ds [i]) { s with env := s.env.set i (.lst .lck (goneL ds)) }) := by
  rcases moved_eq t d with h | ⟨i, ds, rfl, rfl⟩
  · rw [h] at go
    exact False.elim go
  · exact ⟨i, ds, rfl, rfl, go⟩
theorem src_it {mv : Bool} (h : SE κ X W e ev c) (hK : X.K = κ.K) : PI X tg e (tI κ W (srcItems ev mv (.it c))) := by
  refine ((pi_list h.pe).or ((pi_tup h.pe).or (pi_str h.pe))).mono fun σ H R hh => ?_
  obtain ⟨A, as, ts, tds, s, R0, hh⟩ := hh
  have hh : RunI κ A σ ts tds as W R (((ev c).bind (kidsFor mv)) s) := hh
  rw [hK]
  cases e1 : ev c s with
  | fail => rw [show ((ev c).bind _) s = _ from bind_fail_of e1] at hh; exact hh.elim
  | exc k ps s1 =>
    rw [show ((ev c).bind _) s = .exc k ps s1 from ex_bind'.mpr (.inl e1)] at hh
    exact .inl ⟨A, as, ts, tds, s, R0, by rw [e1]; exact hh⟩
  | ok t s1 =>
    rw [show ((ev c).bind _) s = _ from bind_ok_of e1] at hh
    cases e2 : deref t s1 with
    | fail => rw [show kidsFor mv t s1 = _ from bind_fail_of e2] at hh; exact hh.elim
    | exc k ps s2 => exact (ex_deref.mp e2).elim
    | ok d s2 =>
      obtain rfl := deref_same e2
      rw [show kidsFor mv t s2 = _ from bind_ok_of e2] at hh
      have walk : (∀ x, d ≠ .str x) → (∀ o ks ds, d ≠ .dK o ks ds) → (∀ o ks ds, d ≠ .dT o ks ds) → RunI κ A σ ts tds as W R (walked t s2) ∨ ∃ i ds, t = .at ⟨.loc i, []⟩ ∧ d = .lst .own ds ∧ RunI κ A σ ts tds as W R (.ok (.ds ds [i]) { s2 with env := s2.env.set i (.lst .lck (goneL ds)) }) := fun n1 n2 n3 => by
        have go : RunI κ A σ ts tds as W R ((match t with | .at _ => if mv && !plainL ((seqD d).getD []) then movedOut t d else walked t | .val _ => walked t) s2) := by
          cases d <;> first | exact hh | exact (n1 _ rfl).elim | exact (n2 _ _ _ rfl).elim | exact (n3 _ _ _ rfl).elim
        cases t with
        | val x => exact .inl go
        | «at» p =>
          by_cases q : (mv && !plainL ((seqD d).getD [])) = true
          · rw [show (match (Tm.at p) with | .at _ => if mv && !plainL ((seqD d).getD []) then movedOut (.at p) d else walked (.at p) | .val _ => walked (.at p)) = movedOut (.at p) d by simp only [q]; rfl] at go
            exact .inr (moved_cases go)
          · refine .inl ?_
            simpa [q] using go
      have run : ∀ t s2, deref t s2 = .ok d s2 → RunI κ A σ ts tds as W R (walked t s2) → ∀ v H1 as1, as <+: as1 → KTms κ A as1 σ ts H1 s2 tds [] [] [(t, v)] → ∃ l lk A' a vs s3, v = .ref a ∧ l.length = vs.length ∧ KRel κ A' as1 σ (vs ++ ts) H1 s3 (l ++ tds) ∧ Holds κ A' d a vs ∧ Back κ A' A lk ∧ (seqD d).isSome = true ∧ (∀ J us es, Wk κ A' J l us es → us 0 = vs → es 0 = l → R J H1) := fun t s2 e2 hw v H1 as1 hA R1 => by
        cases ew : walked t s2 with
        | fail => rw [ew] at hw; exact hw.elim
        | exc k ps s3 => exact (NoEx.walked _ _ _ _ ew).elim
        | ok it s3 =>
          obtain ⟨l, lk, A', a, vs, d0, rfl, ed, rfl, hl, P, Hd, B, sI, -, -⟩ := walked_ok R1 ew
          rw [e2] at ed
          cases ed
          rw [ew] at hw
          exact ⟨l, lk, A', a, vs, s3, rfl, hl, P, Hd, B, sI, fun J us es wk h1 h2 => hw A' as1 H1 J us es wk hA (by rw [h1, h2]; exact P) B⟩
      cases d with
      | lst o ds =>
        refine .inl ⟨A, as, ts, tds, s, R0, ?_⟩
        rw [e1]
        intro v H1 as1 hA hx R1
        rcases walk (fun _ z => by cases z) (fun _ _ _ z => by cases z) (fun _ _ _ z => by cases z) with q | ⟨i, ds', rfl, ed, q⟩
        · obtain ⟨l, lk, A', a, vs, s3, rfl, hl, P, Hd, B, sI, fin⟩ := run t s2 e2 q v H1 as1 hA R1
          exact ⟨a, rfl, ⟨vs, (Hd (Rel.nf P)).list⟩, fin _ _ _ (wk_list hl Hd) rfl rfl⟩
        · have hσ : σ[i]? = some (some v) := by
            obtain ⟨v0, h1, h2⟩ := R1.2.2 ⟨.loc i, []⟩ v (by simp)
            cases h2
            exact h1
          have he : s2.env[i]? = some (.lst o ds) := by
            have e3 : (match (s2.getP ⟨.loc i, []⟩) with | some d => (Out.ok d s2 : Out D) | none => .fail) = .ok (.lst o ds) s2 := e2
            have e4 : s2.getP ⟨.loc i, []⟩ = s2.env[i]? := by
              show (s2.env[i]?).bind _ = _
              cases s2.env[i]? <;> simp [D.get]
            rw [e4] at e3
            cases e5 : s2.env[i]? with
            | none => rw [e5] at e3; cases e3
            | some d => rw [e5] at e3; cases e3; rfl
          cases ed
          obtain ⟨a, vs, A', rfl, hl, P, Hd, B⟩ := moved_ok R1.dropAll he hσ
          exact ⟨a, rfl, ⟨vs, (Hd (Rel.nf P)).list⟩, q A' as1 H1 _ _ _ (wk_list hl Hd) hA (by exact P) B⟩
      | tup ds =>
        refine .inr (.inl ⟨A, as, ts, tds, s, R0, ?_⟩)
        rw [e1]
        intro v H1 as1 hA hx R1
        obtain ⟨l, lk, A', a, vs, s3, rfl, hl, P, Hd, B, sI, fin⟩ := run t s2 e2 ((walk (fun _ z => by cases z) (fun _ _ _ z => by cases z) (fun _ _ _ z => by cases z)).resolve_right (fun ⟨_, _, _, z, _⟩ => by cases z)) v H1 as1 hA R1
        exact ⟨a, rfl, ⟨vs, sqT_of (Hd (Rel.nf P))⟩, fin _ _ _ (wk_tup hl Hd) rfl rfl⟩
      | str x =>
        refine .inr (.inr ⟨A, as, ts, tds, s, R0, ?_⟩)
        rw [e1]
        intro v H1 as1 hA hx R1
        obtain ⟨-, w⟩ := R1.view (t := t) (v := v) (by simp) e2
        cases w
        exact ⟨x, rfl, hh A as1 H1 _ _ _ wk_str hA R1.dropAll Back.refl⟩
      | dK o ks ds => exact hh.elim
      | dT o ks ds => exact hh.elim
      | _ =>
        refine .inl ⟨A, as, ts, tds, s, R0, ?_⟩
        rw [e1]
        intro v H1 as1 hA hx R1
        obtain ⟨l, lk, A', a, vs, s3, rfl, hl, P, Hd, B, sI, fin⟩ := run t s2 e2 ((walk (fun _ z => by cases z) (fun _ _ _ z => by cases z) (fun _ _ _ z => by cases z)).resolve_right (fun ⟨_, _, _, z, _⟩ => by cases z)) v H1 as1 hA R1
        cases sI
end
end VS
namespace VS
open PySem L2
section
variable {κ : Kit} {X : Cx} {W : WX} {ev : CE → M Tm} {e : Expr} {c : CE} {tg : Expr}
theorem evalL_len : ∀ (es : List CE) (s : Sx) {tms : List Tm} {s1 : Sx}, evalL ev es s = .ok tms s1 → tms.length = es.length := by
  intro es
  induction es with
  | nil => intro s tms s1 e; cases e; rfl
  | cons x xs ih =>
    intro s tms s1 e
    have e : (do let t ← ev x; stays t xs; let ts ← evalL ev xs; pure (t :: ts)) s = Out.ok tms s1 := e
    simp only [ok_bind, ok_pure] at e
    obtain ⟨t, s2, _, _, s3, _, ts', s4, e4, rfl, rfl⟩ := e
    simp [ih _ e4]
theorem tLs_items {es : List CE} {k : List Tm → M Items} {σ : St} {H : Hp} {R : It → Hp → Prop} {Q' : List V → Hp → Prop} (h : tI κ W ((evalL ev es).bind k) σ H R)
    (hk : ∀ {A as as1 ts tds tms s1 vs H1}, tms.length = vs.length → tms.length = es.length → as <+: as1 → KTms κ A as1 σ ts H1 s1 tds [] [] (rz tms vs []) → RunI κ A σ ts tds as W R (k tms s1) → Q' vs H1) : tLs κ W ev es σ H Q' := by
  obtain ⟨A, as, ts, tds, s, R0, h⟩ := h
  refine tLs_of es (A := A) (as := as) (s := s) (L := []) (ts := ts) (tds := tds) ⟨rfl, R0, fun _ _ hm => absurd hm (by simp)⟩ (fun _ _ hm => absurd hm (by simp)) ?_
  cases e1 : evalL ev es s with
  | fail => rw [show ((evalL ev es).bind k) s = _ from bind_fail_of e1] at h; exact h.elim
  | exc c ps s2 => rw [show ((evalL ev es).bind k) s = .exc c ps s2 from ex_bind'.mpr (.inl e1)] at h; exact h
  | ok tms s2 =>
    rw [show ((evalL ev es).bind k) s = _ from bind_ok_of e1] at h
    intro vs H2 as2 hl hA hx R2
    exact hk hl (evalL_len es s e1) hA R2 h
def rangeK (ds : List D) : M Items := match ds with
    | [.int b] => (need (small62 b)).bind fun _ => pure (.ds (rangeL 0 b.toNat) [])
    | [.int a, .int b] => (need (small62 a && small62 b)).bind fun _ => pure (.ds (rangeL a (b - a).toNat) [])
    | [.int a, .int b, .int c] => (need (decide (c = -1) && small62 a && small62 b)).bind fun _ => pure (.ds (rangeC a c (a - b).toNat) [])
    | _ => VS.fail
theorem small_iff {i : Int} (h : small62 i = true) : -(2 ^ 62) ≤ i ∧ i < 2 ^ 62 := by simpa [small62] using h
/-- reading the arguments of range -/
theorem range_read {tms : List Tm} {vs : List V} {A : Act} {σ : St} {ts : List V} {tds : List D} {as as1 : List Addr} {H1 : Hp} {s1 : Sx} {R : It → Hp → Prop} (hl : tms.length = vs.length) (Rt : KTms κ A as1 σ ts H1 s1 tds [] [] (rz tms vs [])) (h : RunI κ A σ ts tds as W R ((derefL tms >>= rangeK) s1)) :
    ∃ ds, Vws κ.K as1 H1 ds vs ∧ RunI κ A σ ts tds as W R (rangeK ds s1) := by
  cases e1 : derefL tms s1 with
  | fail => rw [show (derefL tms >>= rangeK) s1 = _ from bind_fail_of e1] at h; exact h.elim
  | exc c ps s2 => exact (NoEx.derefL _ _ _ _ e1).elim
  | ok ds s2 =>
    rw [show (derefL tms >>= rangeK) s1 = _ from bind_ok_of e1] at h
    obtain ⟨rfl, ws⟩ := KTms.derefL Rt hl e1
    exact ⟨ds, ws, h⟩
theorem src_range1 {mv : Bool} {p pos : Pos} (hg : Gl X "range") (hm : X.mg "range" = none) (ha : SAs κ X W ev [e] [c]) : PI X tg (.Call (.Name "range" p) [e] [] pos) (tI κ W (srcItems ev mv (.range [c]))) := by
  have hs : starEach [e] X.env = [(false, eval e X.env)] := by cases ha with | cons _ h _ => exact h
  refine (pi_range1 hg hm ha.pa hs).mono fun σ H R h => ?_
  have h : tI κ W ((evalL ev [c]).bind fun ts => derefL ts >>= rangeK) σ H R := h
  refine tLs_items h fun {A as as1 ts tds tms s1 vs H1} hl hl2 hA Rt h => ?_
  obtain ⟨ds, ws, h⟩ := range_read hl Rt h
  match ds, vs, ws, hl, hl2, Rt with
  | [d], [v], .cons w .nil, hl, hl2, Rt =>
    cases w with
    | @int b =>
      have h : RunI κ A σ ts tds as W R (((need (small62 b)).bind fun _ => (pure (.ds (rangeL 0 b.toNat) []) : M Items)) s1) := h
      cases hb : small62 b with
      | false => rw [hb] at h; exact h.elim
      | true =>
        rw [hb] at h
        obtain ⟨h1, h2⟩ := small_iff hb
        exact ⟨b, rfl, h1, h2, h A as1 H1 _ _ _ wk_range hA Rt.dropAll Back.refl⟩
    | _ => exact h.elim
  | [], [], _, hl, hl2, _ => rw [hl] at hl2; simp at hl2
  | _ :: _ :: _, _ :: _ :: _, _, hl, hl2, _ => rw [hl] at hl2; simp at hl2
theorem src_range2 {mv : Bool} {e2 : Expr} {c2 : CE} {p pos : Pos} (hg : Gl X "range") (hm : X.mg "range" = none) (ha : SAs κ X W ev [e, e2] [c, c2]) : PI X tg (.Call (.Name "range" p) [e, e2] [] pos) (tI κ W (srcItems ev mv (.range [c, c2]))) := by
  have hs : starEach [e, e2] X.env = [(false, eval e X.env), (false, eval e2 X.env)] := by
    cases ha with | cons _ h r => cases r with | cons _ h2 _ => rw [h, h2]; rfl
  have hs2 : starEach [e2] X.env = [(false, eval e2 X.env)] := by cases ha with | cons _ h r => cases r with | cons _ h2 _ => rw [h2]; rfl
  refine (pi_range2 hg hm ha.pa hs hs2).mono fun σ H R h => ?_
  have h : tI κ W ((evalL ev [c, c2]).bind fun ts => derefL ts >>= rangeK) σ H R := h
  refine tLs_items h fun {A as as1 ts tds tms s1 vs H1} hl hl2 hA Rt h => ?_
  obtain ⟨ds, ws, h⟩ := range_read hl Rt h
  match ds, vs, ws, hl, hl2, Rt with
  | [d, d'], [v, v'], .cons w (.cons w' .nil), hl, hl2, Rt =>
    cases w with
    | @int a =>
      cases w' with
      | @int b =>
        have h : RunI κ A σ ts tds as W R (((need (small62 a && small62 b)).bind fun _ => (pure (.ds (rangeL a (b - a).toNat) []) : M Items)) s1) := h
        cases hb : small62 a && small62 b with
        | false => rw [hb] at h; exact h.elim
        | true =>
          rw [hb] at h
          obtain ⟨hb1, hb2⟩ := andq hb
          obtain ⟨h1, h2⟩ := small_iff hb1
          obtain ⟨h3, h4⟩ := small_iff hb2
          exact ⟨a, b, rfl, ⟨h1, h2, h3, h4⟩, h A as1 H1 _ _ _ wk_range hA Rt.dropAll Back.refl⟩
      | _ => exact h.elim
    | _ => exact h.elim
  | [], [], _, hl, hl2, _ => rw [hl] at hl2; simp at hl2
  | [_], [_], _, hl, hl2, _ => rw [hl] at hl2; simp at hl2
  | _ :: _ :: _ :: _, _ :: _ :: _ :: _, _, hl, hl2, _ => rw [hl] at hl2; simp at hl2
end
end VS
/-! Comprehensions. -/
namespace VS
open PySem L2
def tG (κ : Kit) (p : Pat) : TG := fun x σ H k => ∃ A as ts tds s d, KRel κ A as σ (x :: ts) H s (d :: tds) ∧ (∀ q ∈ A.fix, q.1 ∉ patNames p) ∧ ∃ s', bindP p d s = .ok () s' ∧ ∀ σ', σ'.length = σ.length → (∀ j, j ∉ patNames p → σ'[j]? = σ[j]?) → KRel κ A as σ' ts H s' tds → k σ' H
section
variable {κ : Kit} {A A' : Act} {σ : St} {ts : List V} {tds : List D} {as : List Addr} {H : Hp} {s s' : Sx}
theorem Rel.swapB {a b c : List V} {a' b' c' : List D} (h1 : a'.length = a.length) (h2 : b'.length = b.length) (R : KRel κ A as σ (a ++ (b ++ c)) H s (a' ++ (b' ++ c'))) : KRel κ A as σ (b ++ (a ++ c)) H s (b' ++ (a' ++ c')) :=
  R.tmp fun g f _ _ r => by
    obtain ⟨w1, w2, f1, f2, e1, r1, r2, z⟩ := r.split
    obtain ⟨rfl, rfl⟩ := List.append_inj e1 (by rw [← h1, r1.len])
    obtain ⟨w3, w4, f3, f4, e2, r3, r4, z2⟩ := r2.split
    obtain ⟨rfl, rfl⟩ := List.append_inj e2 (by rw [← h2, r3.len])
    exact ⟨_, r3.append (r1.append r4 fun _ => rfl) (fun _ => rfl), fun b => by have := z b; have := z2 b; omega⟩
/-- a new list between grows -/
theorem Rel.growT {D : Addr} {ac : List VS.D} {e : VS.D} {y : V} (R : KRel κ A as σ (.ref D :: y :: ts) H s (.lst .own ac :: e :: tds)) : ∃ acV, H D = some (.lst acV) ∧ ac.length = acV.length ∧ KRel κ A as σ (.ref D :: ts) (upd H D (.lst (acV ++ [y]))) s (.lst .own (ac ++ [e]) :: tds) := by
  obtain ⟨fx, Fz, tot, evs, fE, fT, fS, C, S⟩ := R
  obtain ⟨v1, ts1, f1, fT1, tot1, e1, r1, C1, z1⟩ := C.pop
  cases e1
  obtain ⟨v2, ts2, f2, fT2, tot2, e2, r2, C2, z2⟩ := C1.pop
  cases e2
  cases r1 with
  | @own _ acV _ _ fk q l rs z =>
    refine ⟨acV, q, rs.len, ?_⟩
    have u := S.uno D
    have a1 := z1 D
    have a2 := z D
    have a3 := z2 D
    have o1 : one D D = 1 := by simp [one]
    have ne : ∀ {F : Fp} {b : Addr}, F D = 0 → F b ≠ 0 → b ≠ D := fun {F b} h1 h2 h3 => h2 (by rw [h3]; exact h1)
    have ag : ∀ {F : Fp}, F D = 0 → ∀ b, F b ≠ 0 → upd H D (.lst (acV ++ [y])) b = H b ∧ A.Lk b = A.Lk b := fun {F} h b hb => ⟨upd_ne (ne (F := F) h hb), rfl⟩
    have C3 := RelC.mono (g' := ⟨Fz, A.Lk, as⟩) (H' := upd H D (.lst (acV ++ [y]))) C2 (fun _ _ q => q) rfl (ag (F := tot2) (by omega))
    have rs' := Rps.mono (g := ⟨Fz, A.Lk, as⟩) (g' := ⟨Fz, A.Lk, as⟩) (H' := upd H D (.lst (acV ++ [y]))) (fun _ _ q => q) List.prefix_rfl rs (ag (F := fk) (by omega))
    have re' := Rp.mono (g := ⟨Fz, A.Lk, as⟩) (g' := ⟨Fz, A.Lk, as⟩) (H' := upd H D (.lst (acV ++ [y]))) (fun _ _ q => q) List.prefix_rfl r2 (ag (F := f2) (by omega))
    have rn : Rp κ.K ⟨Fz, A.Lk, as⟩ (upd H D (.lst (acV ++ [y]))) (.lst .own (ac ++ [e])) (.ref D) (fun b => (fk b + f2 b) + one D b) :=
      .own upd_same l (rs'.append (f1 := fk) (f2 := f2) (.cons re' (.nil fun _ => rfl) fun b => by simp) fun _ => rfl) fun _ => rfl
    exact ⟨fx, Fz, _, evs, fE, _, fS, C3.push rn, Sane.write S (by omega) l fun b => by have := z1 b; have := z2 b; have := z b; omega⟩
theorem Rel.seeT {D : Addr} {ac : List VS.D} {ws : List V} {es : List VS.D} (hl : es.length = ws.length) (R : KRel κ A as σ (ws ++ (.ref D :: ts)) H s (es ++ (.lst .own ac :: tds))) : KRel κ A as σ (.ref D :: (ws ++ ts)) H s (.lst .own ac :: (es ++ tds)) :=
  Rel.swapB (a := ws) (b := [.ref D]) (c := ts) (a' := es) (b' := [.lst .own ac]) (c' := tds) hl rfl R
/-! own names -/
theorem Rel.loseσ {i : Nat} (fx : A.fix = []) (R : KRel κ A as σ ts H s tds) (h : s.env[i]? = some .gone ∨ s.env[i]? = none) : KRel κ A as (σ.set i none) ts H s tds := by
  obtain ⟨_, Fz, tot, evs, fE, fT, fS, C, S⟩ := R
  refine ⟨fun p hp => absurd hp (by simp [fx]), Fz, tot, evs, fE, fT, fS, ⟨fun j d e => ?_, by simpa using C.sl, C.rE, C.rT, C.rS, C.sum⟩, S⟩
  by_cases hj : i = j
  · subst hj
    rcases h with h | h
    · rw [h] at e; cases e; exact .inl rfl
    · rw [h] at e; cases e
  · rw [List.getElem?_set_ne hj]; exact C.env j d e
theorem Rel.gainσ {i : Nat} (fx : A.fix = []) (R : KRel κ A as (σ.set i none) ts H s tds) (h : s.env[i]? = some .gone ∨ s.env[i]? = none) : KRel κ A as σ ts H s tds := by
  obtain ⟨_, Fz, tot, evs, fE, fT, fS, C, S⟩ := R
  refine ⟨fun p hp => absurd hp (by simp [fx]), Fz, tot, evs, fE, fT, fS, ⟨fun j d e => ?_, by simpa using C.sl, C.rE, C.rT, C.rS, C.sum⟩, S⟩
  by_cases hj : i = j
  · subst hj
    rcases h with h | h
    · rw [h] at e; cases e; exact .inl rfl
    · rw [h] at e; cases e
  · have := C.env j d e
    rw [List.getElem?_set_ne hj] at this; exact this
def keptD (s : Sx) (i : Nat) : List D := match s.env[i]? with
  | some .gone => []
  | some d => [d]
  | none => []
theorem kept_cases (s : Sx) (i : Nat) : (keptD s i = [] ∧ (s.env[i]? = some .gone ∨ s.env[i]? = none)) ∨ ∃ d, keptD s i = [d] ∧ s.env[i]? = some d ∧ d ≠ .gone := by
  unfold keptD
  cases e : s.env[i]? with
  | none => exact .inl ⟨rfl, .inr rfl⟩
  | some d => cases d <;> first | exact .inl ⟨rfl, .inl rfl⟩ | exact .inr ⟨_, rfl, rfl, by simp⟩
theorem set_gone {env : List D} {i : Nat} : (env.set i .gone)[i]? = some .gone ∨ (env.set i .gone)[i]? = none := by
  by_cases h : i < env.length
  · exact .inl (by simp [h])
  · exact .inr (by simp; omega)
theorem Rel.enter1 {i : Nat} (fx : A.fix = []) (R : KRel κ A as σ ts H s tds) : ∃ sv, (keptD s i).length = sv.length ∧ (∀ d, keptD s i = [d] → ∃ v, sv = [v] ∧ σ[i]? = some (some v)) ∧ KRel κ A as (σ.set i none) (sv ++ ts) H { s with env := s.env.set i .gone } (keptD s i ++ tds) := by
  rcases kept_cases s i with ⟨e1, e2⟩ | ⟨d, e1, e2, e3⟩
  · refine ⟨[], (by rw [e1]; rfl), (fun d h => by rw [e1] at h; cases h), ?_⟩
    rw [e1]
    have es : { s with env := s.env.set i .gone } = s := by
      have : s.env.set i .gone = s.env := by
        rcases e2 with h | h
        · obtain ⟨hi, hg⟩ := List.getElem?_eq_some_iff.mp h
          rw [← hg]; exact List.set_getElem_self hi
        · exact List.set_eq_of_length_le (by simpa using h)
      rw [this]
    rw [es]
    exact R.loseσ fx e2
  · obtain ⟨v, hv⟩ := R.getσ e2 e3
    refine ⟨[v], by rw [e1]; rfl, fun d' h => ⟨v, rfl, hv⟩, ?_⟩
    rw [e1]
    exact Rel.loseσ fx (R.moveOut e2 e3 hv) set_gone
theorem Rel.forget1 {i : Nat} (fx : A.fix = []) (R : KRel κ A as σ ts H s tds) : KRel κ A as (σ.set i none) ts H { s with env := s.env.set i .gone } tds := by
  obtain ⟨sv, hl, _, R1⟩ := R.enter1 (i := i) fx
  exact R1.drops hl
theorem Rel.forget (fx : A.fix = []) : ∀ (own : List Nat) {s : Sx}, KRel κ A as σ ts H s tds → KRel κ A as (wipe σ own) ts H { s with env := clr own s.env } tds
  | [], s, R => R
  | i :: r, s, R => Rel.forget1 (i := i) fx (Rel.forget fx r R)
theorem clr_out {i : Nat} : ∀ {r : List Nat} {env : List D}, i ∉ r → (clr r env)[i]? = env[i]?
  | [], _, _ => rfl
  | j :: r, env, h => by
    show ((clr r env).set j .gone)[i]? = _
    rw [List.getElem?_set_ne (by intro e; exact h (by simp [e])), clr_out (fun q => h (by simp [q]))]
theorem clr_set {i : Nat} {d : D} : ∀ {r : List Nat} {env : List D}, i ∉ r → (clr r env).set i d = clr r (env.set i d)
  | [], _, _ => rfl
  | j :: r, env, h => by
    show ((clr r env).set j .gone).set i d = (clr r (env.set i d)).set j .gone
    rw [← clr_set (r := r) (fun q => h (by simp [q])), List.set_comm _ _ (by intro e; exact h (by simp [e]))]
/-- what was put aside -/
def Sav (σ : St) (s : Sx) : List Nat → List V → List D → Prop
  | [], sv, sd => sv = [] ∧ sd = []
  | i :: r, sv, sd => ∃ sv1 sv2 sd2, sv = sv1 ++ sv2 ∧ sd = keptD s i ++ sd2 ∧ (keptD s i).length = sv1.length ∧ (∀ d, keptD s i = [d] → ∃ v, sv1 = [v] ∧ σ[i]? = some (some v)) ∧ Sav σ s r sv2 sd2
theorem Rel.enter (fx : A.fix = []) : ∀ (own : List Nat), own.Nodup → KRel κ A as σ ts H s tds → ∃ sv sd, Sav σ s own sv sd ∧ sd.length = sv.length ∧ KRel κ A as (wipe σ own) (sv ++ ts) H { s with env := clr own s.env } (sd ++ tds)
  | [], _, R => ⟨[], [], ⟨rfl, rfl⟩, rfl, R⟩
  | i :: r, hn, R => by
    obtain ⟨h1, h2⟩ := List.nodup_cons.mp hn
    obtain ⟨sv2, sd2, S2, hl2, R2⟩ := Rel.enter fx r h2 R
    have hk : keptD { s with env := clr r s.env } i = keptD s i := by unfold keptD; rw [show ({ s with env := clr r s.env } : Sx).env[i]? = s.env[i]? from clr_out h1]
    obtain ⟨sv1, hl1, hv, R1⟩ := R2.enter1 (i := i) fx
    rw [hk] at hl1 hv R1
    refine ⟨sv1 ++ sv2, keptD s i ++ sd2, ⟨sv1, sv2, sd2, rfl, rfl, hl1, fun d hd => ?_, S2⟩, by simp [hl1, hl2], ?_⟩
    · obtain ⟨v, e1, e2⟩ := hv d hd
      refine ⟨v, e1, ?_⟩
      rw [wipe_out h1] at e2; exact e2
    · rw [List.append_assoc, List.append_assoc]; exact R1
theorem Rel.leave (fx : A.fix = []) {old : Sx} : ∀ (own : List Nat) {sv : List V} {sd : List D} {env' : List D} {sto : List Ob}, own.Nodup → Sav σ old own sv sd → KRel κ A as (wipe σ own) (sv ++ ts) H ⟨clr own env', sto⟩ (sd ++ tds) → KRel κ A as σ ts H ⟨backE own old.env env', sto⟩ tds
  | [], _, _, _, _, _, ⟨rfl, rfl⟩, R => R
  | i :: r, _, _, env', sto, hn, ⟨sv1, sv2, sd2, rfl, rfl, hl, hv, S2⟩, R => by
    obtain ⟨h1, h2⟩ := List.nodup_cons.mp hn
    rw [List.append_assoc, List.append_assoc] at R
    have R : KRel κ A as ((wipe σ r).set i none) (sv1 ++ (sv2 ++ ts)) H ⟨(clr r env').set i .gone, sto⟩ (keptD old i ++ (sd2 ++ tds)) := R
    have R := R.gainσ fx set_gone
    refine Rel.leave fx r h2 S2 ?_
    rcases kept_cases old i with ⟨e1, e2⟩ | ⟨d, e1, e2, e3⟩
    · rw [e1] at R hl
      obtain rfl : sv1 = [] := List.eq_nil_of_length_eq_zero hl.symm
      have eg : old.env[i]?.getD .gone = .gone := by rcases e2 with h | h <;> rw [h] <;> rfl
      rw [eg, ← clr_set h1]
      exact R
    · obtain ⟨v, rfl, e5⟩ := hv d e1
      rw [e1] at R
      have R2 := Rel.moveIn R (i := i) (by rw [wipe_out h1]; exact e5)
      have eg : old.env[i]?.getD .gone = d := by rw [e2]; rfl
      rw [eg, ← clr_set h1]
      have es : ((clr r env').set i .gone).set i d = (clr r env').set i d := List.set_set ..
      have R2 : KRel κ A as (wipe σ r) (sv2 ++ ts) H ⟨((clr r env').set i .gone).set i d, sto⟩ (sd2 ++ tds) := R2
      rw [es] at R2
      exact R2
end
end VS
namespace VS
open PySem L2
/-- an error leaves nowhere -/
abbrev W0 : WX := fun _ _ _ _ => False
section
variable {κ : Kit} {X : Cx} {W : WX} {ev : CE → M Tm} {P : Prog} {cf : Nat → List D → M (D × List D)}
def tCond (κ : Kit) (ev : CE → M Tm) : Option CE → TT
  | none => tYes
  | some c => tT κ W0 (quiet c) (evalB ev c)
theorem wipe_eq {σ σ' : St} : ∀ {own : List Nat}, σ'.length = σ.length → (∀ j, j ∉ own → σ'[j]? = σ[j]?) → wipe σ' own = wipe σ own := by
  intro own hl h
  refine List.ext_getElem? fun j => ?_
  by_cases hj : j ∈ own
  · have e : ∀ {σ : St} {own : List Nat}, j ∈ own → (wipe σ own)[j]? = if j < σ.length then some none else none := by
      intro σ own hj
      induction own with
      | nil => simp at hj
      | cons i r ih =>
        show ((wipe σ r).set i none)[j]? = _
        by_cases hi : i = j
        · subst hi
          rw [List.getElem?_set_self', ]
          by_cases hlt : i < σ.length
          · have : (wipe σ r)[i]? = some ((wipe σ r)[i]'(by rw [wipe_length]; exact hlt)) := List.getElem?_eq_getElem _
            rw [this, if_pos hlt]; rfl
          · have : (wipe σ r)[i]? = none := List.getElem?_eq_none (by rw [wipe_length]; omega)
            rw [this, if_neg hlt]; rfl
        · rw [List.getElem?_set_ne hi]
          exact ih ((List.mem_cons.mp hj).resolve_left fun e => hi e.symm)
    rw [e hj, e hj, hl]
  · rw [wipe_out hj, wipe_out hj, h j hj]
theorem comp_ok {own : List Nat} {p : Pat} {src : Src} {cond : Option CE} {elt : CE} {σ : St} {H : Hp} {Q : VK} (hn : own.Nodup) (hp : ∀ j ∈ patNames p, j ∈ own) (h : tE κ W false (step P ev cf (.comp own p src cond elt)) σ H Q) :
    tLc (tI κ W (srcItems ev false src)) (tG κ p) (tCond κ ev cond) (tE κ W0 (quiet elt) (ev elt)) own σ H Q := by
  obtain ⟨A, as, ts, tds, s, R, h⟩ := h
  refine ⟨A, as, ts, tds, s, R, ?_⟩
  have h : RunE κ A σ ts tds H as false W Q (((srcItems ev false src).bind fun it => match it with
    | .ds l lk => (noRaiseL (unlocked lk (inBlock own (compLoop ev own p cond elt l [])))).bind fun acc => (pure (.val (.lst .own acc)) : M Tm)
    | _ => VS.fail) s) := h
  cases e1 : srcItems ev false src s with
  | fail => rw [show ((srcItems ev false src).bind _) s = _ from bind_fail_of e1] at h; exact h
  | exc c ps s1 => rw [show ((srcItems ev false src).bind _) s = .exc c ps s1 from ex_bind'.mpr (.inl e1)] at h; exact h
  | ok it s1 =>
    rw [show ((srcItems ev false src).bind _) s = _ from bind_ok_of e1] at h
    cases it with
    | moved i n lk => exact h
    | ds l lk =>
      have h : RunE κ A σ ts tds H as false W Q (((noRaiseL (unlocked lk (inBlock own (compLoop ev own p cond elt l [])))).bind fun acc => (pure (.val (.lst .own acc)) : M Tm)) s1) := h
      intro A' as' H' J us es wk hA P B D hD
      -- the run
      obtain ⟨acc, s2, s4, run, ul, fin⟩ : ∃ acc s2 s4, compLoop ev own p cond elt l [] s1 = .ok acc s2 ∧ unlock lk { s2 with env := backE own s1.env s2.env } = some s4 ∧ RunE κ A σ ts tds H as false W Q (.ok (.val (.lst .own acc)) s4) := by
        cases e2 : compLoop ev own p cond elt l [] s1 with
        | fail =>
          have : noRaiseL (unlocked lk (inBlock own (compLoop ev own p cond elt l []))) s1 = .fail := by simp only [noRaiseL, unlocked, inBlock, e2]
          rw [show ((noRaiseL (unlocked lk (inBlock own (compLoop ev own p cond elt l [])))).bind _) s1 = _ from bind_fail_of this] at h
          exact h.elim
        | exc c ps s2 =>
          have : noRaiseL (unlocked lk (inBlock own (compLoop ev own p cond elt l []))) s1 = .fail := by
            simp only [noRaiseL, unlocked, inBlock, e2]
            cases unlock lk s2 <;> rfl
          rw [show ((noRaiseL (unlocked lk (inBlock own (compLoop ev own p cond elt l [])))).bind _) s1 = _ from bind_fail_of this] at h
          exact h.elim
        | ok acc s2 =>
          cases e3 : unlock lk { s2 with env := backE own s1.env s2.env } with
          | none =>
            have : noRaiseL (unlocked lk (inBlock own (compLoop ev own p cond elt l []))) s1 = .fail := by simp only [noRaiseL, unlocked, inBlock, e2, e3]
            rw [show ((noRaiseL (unlocked lk (inBlock own (compLoop ev own p cond elt l [])))).bind _) s1 = _ from bind_fail_of this] at h
            exact h.elim
          | some s4 =>
            have : noRaiseL (unlocked lk (inBlock own (compLoop ev own p cond elt l []))) s1 = .ok acc s4 := by simp only [noRaiseL, unlocked, inBlock, e2, e3]
            rw [show ((noRaiseL (unlocked lk (inBlock own (compLoop ev own p cond elt l [])))).bind _) s1 = _ from bind_ok_of this] at h
            exact ⟨acc, s2, s4, rfl, e3, h⟩
      have fxσ : ∀ p ∈ A'.fix, σ[p.1]? = some (some p.2) := by obtain ⟨fx, _⟩ := P; exact fx
      have nf : A'.nf.fix = [] := rfl
      obtain ⟨sv, sd, SV, hsl, P1⟩ := Rel.enter nf own hn (Rel.nf P)
      let Pv : Nat → Hp → Prop := fun i H2 => ∃ as2 sx ac, as' <+: as2 ∧ compLoop ev own p cond elt (l.drop i) ac sx = .ok acc s2 ∧
        KRel κ A'.nf as2 (wipe σ own) (us i ++ (.ref D :: (sv ++ ts))) H2 { sx with env := clr own sx.env } (es i ++ (.lst .own ac :: (sd ++ tds)))
      have h0 : Pv 0 (upd H' D (.lst [])) := by
        refine ⟨as', s1, [], List.prefix_rfl, run, ?_⟩
        have P2 : KRel κ A'.nf as' (wipe σ own) (([] : List V) ++ (sv ++ (us 0 ++ ts))) H' { s1 with env := clr own s1.env } (([] : List VS.D) ++ (sd ++ (es 0 ++ tds))) := P1
        have P3 := Rel.alloc_lst (ds := []) (vs := []) rfl P2 hD
        have P4 := Rel.swapB (a := [.ref D]) (a' := [.lst .own []]) (b := sv) (b' := sd) (c := us 0 ++ ts) (c' := es 0 ++ tds) rfl hsl P3
        have P5 : KRel κ A'.nf as' (wipe σ own) ((sv ++ [.ref D]) ++ (us 0 ++ ts)) (upd H' D (.lst [])) { s1 with env := clr own s1.env } ((sd ++ [.lst .own []]) ++ (es 0 ++ tds)) := by
          rw [List.append_assoc, List.append_assoc]; exact P4
        have P6 := Rel.swapB (by simp [hsl]) (wk.len 0) P5
        have P7 : KRel κ A'.nf as' (wipe σ own) (us 0 ++ (sv ++ ([.ref D] ++ ts))) (upd H' D (.lst [])) { s1 with env := clr own s1.env } (es 0 ++ (sd ++ ([.lst .own []] ++ tds))) := by
          rw [List.append_assoc, List.append_assoc] at P6; exact P6
        -- bring the list ahead of what was put aside
        exact P7.tmp fun g f _ _ r => by
          obtain ⟨w1, w2, f1, f2, e1, r1, r2, z⟩ := r.split
          obtain ⟨rfl, rfl⟩ := List.append_inj e1 (by rw [← wk.len 0, r1.len])
          obtain ⟨w3, w4, f3, f4, e2, r3, r4, z2⟩ := r2.split
          obtain ⟨rfl, rfl⟩ := List.append_inj e2 (by rw [← hsl, r3.len])
          obtain ⟨w5, w6, f5, f6, e3, r5, r6, z3⟩ := r4.split
          obtain ⟨rfl, rfl⟩ := List.append_inj e3 (by rw [← r5.len]; rfl)
          exact ⟨_, r1.append (r5.append (r3.append r6 fun _ => rfl) fun _ => rfl) fun _ => rfl, fun b => by have := z b; have := z2 b; have := z3 b; omega⟩
      refine ⟨fun i m H => m = l.length - i ∧ i ≤ l.length ∧ Pv i H, ⟨l.length, by simp, Nat.zero_le _, h0⟩, ?_⟩
      rintro i m H2 ⟨rfl, hi, pv⟩
      obtain ⟨as2, sx, ac, hA2, run2, R2⟩ := pv
      by_cases hlt : i < l.length
      · refine .inr ⟨wk.go hlt R2, Pv (i + 1), fun H3 p' => ⟨l.length - (i + 1), by omega, rfl, hlt, p'⟩, fun x H3 y => ?_⟩
        obtain ⟨d, hd, R3⟩ := wk.yld hlt R2 y
        rw [drop_at hd] at run2
        have run3 : (clear own >>= fun _ => bindP p d >>= fun _ => (match cond with | some c => evalB ev c | none => (pure true : M Bool)) >>= fun b => if b = true then (ev elt >>= fun t => escape t >>= fun e => need (decide (ac.length < sizeLine)) >>= fun _ => compLoop ev own p cond elt (l.drop (i + 1)) (ac ++ [e])) else compLoop ev own p cond elt (l.drop (i + 1)) ac) sx = .ok acc s2 := run2
        rw [show (clear own >>= _) sx = _ from bind_ok_of (show clear own sx = .ok () { sx with env := clr own sx.env } from rfl)] at run3
        obtain ⟨_, sb, eb, run4⟩ := ok_bind.mp run3
        obtain ⟨b, sc, ec, run5⟩ := ok_bind.mp run4
        refine ⟨A'.nf, as2, _, _, _, d, R3, fun q hq => absurd hq (by simp [Act.nf]), sb, eb, fun σ2 hl hσ R4 => ?_⟩
        have hw : wipe σ2 own = wipe σ own := wipe_eq (by rw [hl, wipe_length]) fun j hj => by rw [hσ j fun q => hj (hp j q), wipe_out hj]
        have fn : ∀ {H5 as5}, as2 <+: as5 → KRel κ A'.nf as5 σ2 (us (i + 1) ++ (.ref D :: (sv ++ ts))) H5 sc (es (i + 1) ++ (.lst .own ac :: (sd ++ tds))) →
            (if b = true then tE κ W0 (quiet elt) (ev elt) σ2 H5 (fun y H6 => ∃ acc, H6 D = some (.lst acc) ∧ acc.length < sizeLine ∧ Pv (i + 1) (upd H6 D (.lst (acc ++ [y])))) else Pv (i + 1) H5) := fun {H5 as5} hA5 R5 => by
          cases b with
          | false =>
            have R6 := Rel.forget nf own R5
            rw [hw] at R6
            exact ⟨as5, sc, ac, hA2.trans hA5, run5, R6⟩
          | true =>
            have run5 : (ev elt >>= fun t => escape t >>= fun e => need (decide (ac.length < sizeLine)) >>= fun _ => compLoop ev own p cond elt (l.drop (i + 1)) (ac ++ [e])) sc = .ok acc s2 := run5
            obtain ⟨t, s5, et, run6⟩ := ok_bind.mp run5
            obtain ⟨e, s6, ee, run7⟩ := ok_bind.mp run6
            obtain ⟨_, s7, en, run8⟩ := ok_bind.mp run7
            obtain ⟨hz, rfl⟩ := ok_need.mp en
            rw [if_pos rfl]
            refine ⟨A'.nf, as5, _, _, sc, R5, ?_⟩
            rw [et]
            intro y H6 as6 hA6 _ R6
            have R7 := (R6.esc ee).nil
            have R8 : KRel κ A'.nf as6 σ2 ((y :: us (i + 1)) ++ (.ref D :: (sv ++ ts))) H6 s7 ((e :: es (i + 1)) ++ (.lst .own ac :: (sd ++ tds))) := R7
            obtain ⟨acV, hH, hlen, R9⟩ := Rel.growT (Rel.seeT (by simp [wk.len]) R8)
            have R10 := Rel.swapB (a := [.ref D]) (a' := [.lst .own (ac ++ [e])]) (b := us (i + 1)) (b' := es (i + 1)) (c := sv ++ ts) (c' := sd ++ tds) rfl (wk.len _) R9
            have R11 := Rel.forget nf own R10
            rw [hw] at R11
            exact ⟨acV, hH, by rw [← hlen]; exact of_decide_eq_true hz, as6, s7, ac ++ [e], (hA2.trans hA5).trans hA6, run8, R11⟩
        refine ⟨hw, ?_⟩
        cases cond with
        | none =>
          obtain ⟨rfl, rfl⟩ := ok_pure.mp ec
          exact fn List.prefix_rfl R4
        | some c =>
          refine ⟨A'.nf, as2, _, _, sb, R4, ?_⟩
          have ec : evalB ev c sb = .ok b sc := ec
          rw [ec]
          intro H5 as5 hA5 hx R5
          exact fn hA5 R5
      · have e : i = l.length := by omega
        subst e
        refine .inl ⟨wk.stop R2, ?_⟩
        rw [List.drop_length] at run2
        obtain ⟨rfl, rfl⟩ := ok_pure.mp run2
        have R3 := Rel.drops (wk.len _) R2
        have R4 := Rel.swapB (a := [.ref D]) (a' := [.lst .own acc]) (b := sv) (b' := sd) (c := ts) (c' := tds) rfl hsl R3
        have R5 := Rel.leave nf own hn SV R4
        have R6 := Rel.unnf R5 fxσ
        exact fin (.ref D) H2 as2 (hA.trans hA2) (fun z => by cases z) (TmsR.one (B.run R6 ul))
end
end VS
/-! Statements. -/
namespace VS
open PySem L2
def RunSX (κ : Kit) (A : Act) (ts : List V) (tds : List D) (W : WX) (c : Nat) (ps : List D) (s' : Sx) : Prop :=
  ps = [] ∧ ∀ σ' H' as' ts' tds', Under ts tds ts' tds' → KRel κ A as' σ' ts' H' s' tds' → W (κ.exV c) none σ' H'
def RunS (κ : Kit) (A : Act) (ts : List V) (tds : List D) (W : WX) (E : Ends) : Out Flow → Prop
  | .ok .nx s' => ∀ σ' H' as', KRel κ A as' σ' ts H' s' tds → E.nx σ' H'
  | .ok .brk s' => ∀ σ' H' as', KRel κ A as' σ' ts H' s' tds → E.bk σ' H'
  | .ok .cont s' => ∀ σ' H' as', KRel κ A as' σ' ts H' s' tds → E.ct σ' H'
  | .ok (.ret d) s' => ∀ σ' H' as' v, KRel κ A as' σ' (v :: ts) H' s' (d :: tds) → E.rt v H'
  | .exc c ps s' => RunSX κ A ts tds W c ps s'
  | .fail => False
/-- a statement does what the core says; fx: names it leaves alone -/
def tS (κ : Kit) (W : WX) (fx : List Nat) (m : M Flow) : TS := fun E σ H => ∃ A as ts tds s, KRel κ A as σ ts H s tds ∧ (∀ q ∈ A.fix, q.1 ∈ fx) ∧ RunS κ A ts tds W E (m s)
section
variable {κ : Kit} {X : Cx} {W : WX} {ev : CE → M Tm} {ex : List CS → M Flow} {P : Prog} {cf : Nat → List D → M (D × List D)} {fx : List Nat} {wf : Nat}
theorem RunSX.of {A : Act} {ts : List V} {tds : List D} {c : Nat} {ps : List D} {s' : Sx} (h : RunSX κ A ts tds W c ps s') (σ : St) : RunX κ A σ ts tds W c ps s' := ⟨h.1, fun H' as' ts' tds' u R => h.2 _ _ _ _ _ u R⟩
/-- an expression, then the rest -/
theorem exprS {E : Ends} {σ : St} {H : Hp} {c : CE} {k : Tm → M Flow} {Q : VK} (h : tS κ W fx ((ev c).bind k) E σ H)
    (hk : ∀ {A as ts tds t s1 v H1}, (∀ q ∈ A.fix, q.1 ∈ fx) → KTms κ A as σ ts H1 s1 tds [] [] [(t, v)] → RunS κ A ts tds W E (k t s1) → Q v H1) : tE κ W (quiet c) (ev c) σ H Q := by
  obtain ⟨A, as, ts, tds, s, R, hf, h⟩ := h
  refine ⟨A, as, ts, tds, s, R, ?_⟩
  cases e1 : ev c s with
  | fail => rw [show ((ev c).bind k) s = _ from bind_fail_of e1] at h; exact h
  | exc ec ps s1 => rw [show ((ev c).bind k) s = .exc ec ps s1 from ex_bind'.mpr (.inl e1)] at h; exact RunSX.of h σ
  | ok t s1 =>
    rw [show ((ev c).bind k) s = _ from bind_ok_of e1] at h
    intro v H1 as1 hA hx R1
    exact hk hf R1 h
theorem testS {E : Ends} {σ : St} {H : Hp} {c : CE} {k : Bool → M Flow} {Q : Bool → Hp → Prop} (h : tS κ W fx ((evalB ev c).bind k) E σ H)
    (hk : ∀ {A as ts tds b s1 H1}, (∀ q ∈ A.fix, q.1 ∈ fx) → KRel κ A as σ ts H1 s1 tds → RunS κ A ts tds W E (k b s1) → Q b H1) : tT κ W (quiet c) (evalB ev c) σ H Q := by
  obtain ⟨A, as, ts, tds, s, R, hf, h⟩ := h
  refine ⟨A, as, ts, tds, s, R, ?_⟩
  cases e1 : evalB ev c s with
  | fail => rw [show ((evalB ev c).bind k) s = _ from bind_fail_of e1] at h; exact h
  | exc ec ps s1 => rw [show ((evalB ev c).bind k) s = .exc ec ps s1 from ex_bind'.mpr (.inl e1)] at h; exact RunSX.of h σ
  | ok b s1 =>
    rw [show ((evalB ev c).bind k) s = _ from bind_ok_of e1] at h
    intro H1 as1 hA hx R1
    exact hk hf R1 h
theorem argsS {E : Ends} {σ : St} {H : Hp} {es : List CE} {k : List Tm → M Flow} {Q : List V → Hp → Prop} (h : tS κ W fx ((evalL ev es).bind k) E σ H)
    (hk : ∀ {A as ts tds tms s1 vs H1}, tms.length = vs.length → tms.length = es.length → (∀ q ∈ A.fix, q.1 ∈ fx) → KTms κ A as σ ts H1 s1 tds [] [] (rz tms vs []) → RunS κ A ts tds W E (k tms s1) → Q vs H1) : tLs κ W ev es σ H Q := by
  obtain ⟨A, as, ts, tds, s, R, hf, h⟩ := h
  refine tLs_of es (A := A) (as := as) (s := s) (L := []) (ts := ts) (tds := tds) ⟨rfl, R, fun _ _ hm => absurd hm (by simp)⟩ (fun _ _ hm => absurd hm (by simp)) ?_
  cases e1 : evalL ev es s with
  | fail => rw [show ((evalL ev es).bind k) s = _ from bind_fail_of e1] at h; exact h
  | exc c ps s1 => rw [show ((evalL ev es).bind k) s = .exc c ps s1 from ex_bind'.mpr (.inl e1)] at h; exact RunSX.of h σ
  | ok tms s1 =>
    rw [show ((evalL ev es).bind k) s = _ from bind_ok_of e1] at h
    intro vs H1 as1 hl hA hx R1
    exact hk hl (evalL_len es s e1) hf R1 h
/-! ### the small ones -/
theorem s_pass {pos : Pos} : PS X (.Pass pos) (tS κ W fx (stepS P ev ex wf .pass)) := ps_pass.mono fun E σ H ⟨A, as, ts, tds, s, R, hf, h⟩ => h σ H as R
theorem s_break {pos : Pos} : PS X (.Break pos) (tS κ W fx (stepS P ev ex wf .brk)) := ps_break.mono fun E σ H ⟨A, as, ts, tds, s, R, hf, h⟩ => h σ H as R
theorem s_cont {pos : Pos} : PS X (.Continue pos) (tS κ W fx (stepS P ev ex wf .cont)) := ps_continue.mono fun E σ H ⟨A, as, ts, tds, s, R, hf, h⟩ => h σ H as R
theorem s_expr {e : Expr} {c : CE} {pos : Pos} (he : SE κ X W e ev c) (hs : swapsWith e none pos.line X.env = pure false) : PS X (.Expr e pos) (tS κ W fx (stepS P ev ex wf (.expr c))) := by
  refine (ps_expr he.pe hs).mono fun E σ H h => ?_
  have h : tS κ W fx ((ev c).bind fun _ => (pure .nx : M Flow)) E σ H := h
  exact exprS (Q := fun _ H1 => E.nx σ H1) h fun hf R h => h _ _ _ R.dropAll
theorem s_ret {e : Expr} {c : CE} {pos : Pos} (he : SE κ X W e ev c) : PS X (.Return (some e) pos) (tS κ W fx (stepS P ev ex wf (.ret c))) := by
  refine (ps_ret he.pe).mono fun E σ H h => ?_
  have h : tS κ W fx ((ev c).bind fun t => (escape t).bind fun d => (pure (.ret d) : M Flow)) E σ H := h
  refine exprS h fun {A as ts tds t s1 v H1} hf R h => ?_
  cases e1 : escape t s1 with
  | fail => rw [show ((escape t).bind _) s1 = _ from bind_fail_of e1] at h; exact h.elim
  | exc c ps s2 => exact (NoEx.escape _ _ _ _ e1).elim
  | ok d s2 =>
    rw [show ((escape t).bind _) s1 = _ from bind_ok_of e1] at h
    exact h σ H1 as v (R.esc e1).nil
theorem s_retN {pos : Pos} : PS X (.Return none pos) (tS κ W fx (stepS P ev ex wf .retN)) := ps_retN.mono fun E σ H ⟨A, as, ts, tds, s, R, hf, h⟩ => h σ H as .non (R.scal fun g _ => .non fun _ => rfl)
/-- return of a name's own list -/
theorem s_retM {i : Nat} {x : Str} {p pos : Pos} (hN : X.N[i]? = some x) (hv : Vis X.env.scope x) (hd : (x == ("__debug__" : Str)) = false) (hcd : (x == ("__classdict__" : Str)) = false) : PS X (.Return (some (.Name x p)) pos) (tS κ W fx (stepS P ev ex wf (.retM i))) := by
  refine (ps_ret (pe_var hN hv hd hcd)).mono fun E σ H h => ?_
  obtain ⟨A, as, ts, tds, s, R, hf, h⟩ := h
  have h : RunS κ A ts tds W E (match s.env[i]? with
    | some .gone => .fail
    | some d => .ok (.ret d) { s with env := s.env.set i .gone }
    | none => .fail) := h
  cases e : s.env[i]? with
  | none => rw [e] at h; exact h.elim
  | some d =>
    rw [e] at h
    by_cases hg : d = .gone
    · subst hg; exact h.elim
    · have h : RunS κ A ts tds W E (.ok (.ret d) { s with env := s.env.set i .gone }) := by cases d <;> first | exact (hg rfl).elim | exact h
      obtain ⟨v, hσ⟩ := R.getσ e hg
      exact ⟨v, hσ, h σ H as v (R.moveOut e hg hσ)⟩
theorem s_ite {c : Expr} {cc : CE} {a b : List Stmt} {ca cb : List CS} {pos : Pos} (hc : SE κ X W c ev cc) (ha : PSs X a (tS κ W fx (ex ca))) (hb : PSs X b (tS κ W fx (ex cb))) : PS X (.If c a b pos) (tS κ W fx (stepS P ev ex wf (.ite cc ca cb))) := by
  refine (ps_if hc.pt ha hb).mono fun E σ H h => ?_
  have h : tS κ W fx ((evalB ev cc).bind fun x => if x = true then ex ca else ex cb) E σ H := h
  refine testS h fun {A as ts tds b s1 H1} hf R h => ?_
  cases b with
  | true => exact ⟨A, as, ts, tds, s1, R, hf, h⟩
  | false => exact ⟨A, as, ts, tds, s1, R, hf, h⟩
/-! ### one after another -/
theorem ss_nil {xs : CS → M Flow} : PSs X [] (tS κ W fx (execL xs [])) := pss_nil.mono fun E σ H ⟨A, as, ts, tds, s, R, hf, h⟩ => h σ H as R
theorem ss_cons {xs : CS → M Flow} {st : Stmt} {rest : List Stmt} {c : CS} {cs : List CS} (h1 : PS X st (tS κ W fx (xs c))) (h2 : PSs X rest (tS κ W fx (execL xs cs))) : PSs X (st :: rest) (tS κ W fx (execL xs (c :: cs))) := by
  refine (pss_cons h1 h2).mono fun E σ H h => ?_
  obtain ⟨A, as, ts, tds, s, R, hf, h⟩ := h
  have h : RunS κ A ts tds W E (((xs c).bind fun f => match f with | .nx => execL xs cs | f => (pure f : M Flow)) s) := h
  refine ⟨A, as, ts, tds, s, R, hf, ?_⟩
  cases e1 : xs c s with
  | fail => rw [show ((xs c).bind _) s = _ from bind_fail_of e1] at h; exact h
  | exc k ps s1 => rw [show ((xs c).bind _) s = .exc k ps s1 from ex_bind'.mpr (.inl e1)] at h; exact h
  | ok f s1 =>
    rw [show ((xs c).bind _) s = _ from bind_ok_of e1] at h
    cases f with
    | nx => exact fun σ' H' as' R' => ⟨A, as', ts, tds, s1, R', hf, h⟩
    | brk => exact h
    | cont => exact h
    | ret d => exact h
end
end VS
namespace VS
open PySem L2
theorem _root_.L2.PG.mono {X : Cx} {tg : Expr} {t t' : TG} (h : PG X tg t) (hi : ∀ v σ H Q, t' v σ H Q → t v σ H Q) : PG X tg t' := ⟨fun pins s σ H v u Q I r q => h.run pins s σ H v u Q I r (hi v σ H Q q)⟩
theorem _root_.L2.PGs.mono {X : Cx} {tg : List Expr} {t t' : TGs} (h : PGs X tg t) (hi : ∀ v σ H Q, t' v σ H Q → t v σ H Q) : PGs X tg t' := ⟨fun pins s σ H v u Q I r q => h.run pins s σ H v u Q I r (hi v σ H Q q)⟩
section
variable {κ : Kit} {X : Cx} {W : WX} {ev : CE → M Tm} {ex : List CS → M Flow} {P : Prog} {cf : Nat → List D → M (D × List D)} {fx : List Nat} {wf : Nat}
/-! ### targets -/
theorem tG_name {i : Nat} {x : V} {σ : St} {H : Hp} {k : St → Hp → Prop} (h : tG κ (.name i) x σ H k) : gName i x σ H k := by
  obtain ⟨A, as, ts, tds, s, d, R, hf, s', e, h⟩ := h
  have e : (if i < s.env.length then (Out.ok () { s with env := s.env.set i d } : Out Unit) else .fail) = .ok () s' := e
  split at e
  · rename_i hi
    cases e
    refine h _ (by simp) (fun j hj => List.getElem?_set_ne (by intro e; exact hj (by simp [patNames, e]))) ?_
    obtain ⟨fx, Fz, tot, evs, fE, fT, fS, C, S⟩ := R
    obtain ⟨evs', fE', fT', tot', C', hz⟩ := C.store hi
    refine ⟨fun p hp => ?_, Fz, tot', evs', fE', fT', fS, C', S.less hz⟩
    have := hf p hp
    rw [List.getElem?_set_ne (by intro e; exact this (by simp [patNames, e]))]
    exact fx p hp
  · cases e
theorem g_name {i : Nat} {x : Str} {pos : Pos} (hN : X.N.Nodup) (hi : X.N[i]? = some x) (hx : Loc X.env.scope x) (hf : X.fn x = true ∨ X.env.scope.names.lookup x = some .local) : PG X (.Name x pos) (tG κ (.name i)) :=
  (pg_name hN hi hx hf).mono fun v σ H Q h => tG_name h
/-! ### name = e, names = e -/
mutual
theorem NoExP : ∀ (p : Pat) (d : D), NoEx (bindP p d)
  | .name i, d => fun s c ps s' e => by
    have e : (if i < s.env.length then (Out.ok () { s with env := s.env.set i d } : Out Unit) else .fail) = .exc c ps s' := e
    split at e <;> cases e
  | .tup ps, d => by
    cases d <;> first | exact NoEx.fail | exact NoEx.bind .need fun _ => NoExPs _ _
theorem NoExPs : ∀ (ps : List Pat) (ds : List D), NoEx (bindPs ps ds)
  | [], _ => NoEx.pure
  | _ :: _, [] => NoEx.pure
  | p :: ps, d :: ds => NoEx.bind (NoExP p d) fun _ => NoExPs ps ds
end
theorem asg_read {p : Pat} {c : CE} {E : Ends} {σ : St} {H : Hp} (hp : ∀ j ∈ patNames p, j ∉ fx) (h : tS κ W fx (stepS P ev ex wf (.asg (.pat p) c)) E σ H) : tAsg (tE κ W (quiet c) (ev c)) (tG κ p) E σ H := by
  have h : tS κ W fx ((ev c).bind fun u => (escape u).bind fun x => (bindP p x).bind fun _ => (pure .nx : M Flow)) E σ H := h
  refine exprS h fun {A as ts tds t s1 v H1} hf R h => ?_
  cases e1 : escape t s1 with
  | fail => rw [show ((escape t).bind _) s1 = _ from bind_fail_of e1] at h; exact h.elim
  | exc ec ps s2 => exact (NoEx.escape _ _ _ _ e1).elim
  | ok d s2 =>
    rw [show ((escape t).bind _) s1 = _ from bind_ok_of e1] at h
    have R2 := (R.esc e1).nil
    cases e2 : bindP p d s2 with
    | fail => rw [show ((bindP p d).bind _) s2 = _ from bind_fail_of e2] at h; exact h.elim
    | exc ec ps s3 => exact (NoExP p d _ _ _ _ e2).elim
    | ok u s3 =>
      rw [show ((bindP p d).bind _) s2 = _ from bind_ok_of e2] at h
      exact ⟨A, as, ts, tds, s2, d, R2, fun q hq hm => hp _ hm (hf q hq), s3, e2, fun σ' hl hσ R3 => h σ' H1 as R3⟩
theorem s_set {i : Nat} {x : Str} {e : Expr} {c : CE} {pos pos' : Pos} (hN : X.N.Nodup) (hi : X.N[i]? = some x) (hx : Loc X.env.scope x) (he : SE κ X W e ev c) (hs : swapsWith e (some (.Name x pos')) pos.line X.env = pure false) (hf : X.fn x = true ∨ X.env.scope.names.lookup x = some .local) (hfx : i ∉ fx) :
    PS X (.Assign [.Name x pos'] e pos) (tS κ W fx (stepS P ev ex wf (.asg (.pat (.name i)) c))) :=
  (ps_set hN hi hx he.pe hs hf).mono fun E σ H h => by
    have h1 := asg_read (p := .name i) (by simpa [patNames] using hfx) h
    obtain ⟨A, as, ts, tds, s, R, h1⟩ := h1
    refine ⟨A, as, ts, tds, s, R, ?_⟩
    cases eo : ev c s with
    | ok t s' => rw [eo] at h1; exact fun v H' as' a b r => tG_name (h1 v H' as' a b r)
    | exc ec ps s' => rw [eo] at h1; exact h1
    | fail => rw [eo] at h1; exact h1
end
end VS
namespace VS
open PySem L2
section
variable {κ : Kit} {X : Cx} {W : WX} {ev : CE → M Tm} {ex : List CS → M Flow} {P : Prog} {cf : Nat → List D → M (D × List D)} {fx : List Nat} {wf : Nat}
def forK (ex : List CS → M Flow) (p : Pat) (body : List CS) (rest : List D) : Flow → M Flow
  | .nx => forLoop ex p body rest
  | .cont => forLoop ex p body rest
  | .brk => pure .nx
  | .ret r => pure (.ret r)
theorem for_read {p : Pat} {src : Src} {body : List CS} {E : Ends} {σ : St} {H : Hp} (hp : ∀ j ∈ patNames p, j ∉ srcLocs src ++ fx) (h : tS κ W fx (stepS P ev ex wf (.for p src body)) E σ H) :
    tFor (tI κ W (srcItems ev (moves p body) src)) (tG κ p) (tS κ W (srcLocs src ++ fx) (ex body)) E σ H := by
  obtain ⟨A, as, ts, tds, s, R, hf, h⟩ := h
  refine ⟨A, as, ts, tds, s, R, ?_⟩
  have h : RunS κ A ts tds W E (((srcItems ev (moves p body) src).bind fun it => match it with
    | .ds l lk => (need (lk.all fun j => (srcLocs src).contains j)).bind fun _ => unlocked lk (forLoop ex p body l)
    | .moved _ _ _ => VS.fail) s) := h
  cases e1 : srcItems ev (moves p body) src s with
  | fail => rw [show ((srcItems ev (moves p body) src).bind _) s = _ from bind_fail_of e1] at h; exact h
  | exc c ps s1 => rw [show ((srcItems ev (moves p body) src).bind _) s = .exc c ps s1 from ex_bind'.mpr (.inl e1)] at h; exact RunSX.of h σ
  | ok it s1 =>
    rw [show ((srcItems ev (moves p body) src).bind _) s = _ from bind_ok_of e1] at h
    cases it with
    | moved i n lk => exact h
    | ds l lk =>
      have h : RunS κ A ts tds W E (((need (lk.all fun j => (srcLocs src).contains j)).bind fun _ => unlocked lk (forLoop ex p body l)) s1) := h
      intro A' as' H' J us es wk hA R1 B
      obtain ⟨hlk, h⟩ : (∀ j ∈ lk, j ∈ srcLocs src) ∧ RunS κ A ts tds W E (unlocked lk (forLoop ex p body l) s1) := by
        cases hb : lk.all fun j => (srcLocs src).contains j with
        | false => rw [hb] at h; exact h.elim
        | true => rw [hb] at h; exact ⟨by simpa using hb, h⟩
      have hf' : ∀ q ∈ A'.fix, q.1 ∈ srcLocs src ++ fx := fun q hq => by
        rcases B.fx q hq with h | h
        · exact List.mem_append_right _ (hf q h)
        · exact List.mem_append_left _ (hlk _ h)
      let Pv : Nat → St → Hp → Prop := fun i σ H => ∃ as2 sx, KRel κ A' as2 σ (us i ++ ts) H sx (es i ++ tds) ∧ RunS κ A ts tds W E (unlocked lk (forLoop ex p body (l.drop i)) sx)
      -- leaving the loop
      have out : ∀ {i : Nat} {sx : Sx} {as2 : List Addr} {σ2 : St} {H2 : Hp}, KRel κ A' as2 σ2 (us i ++ ts) H2 sx (es i ++ tds) → RunS κ A ts tds W E (unlocked lk (pure .nx : M Flow) sx) → E.nx σ2 H2 := fun {i sx as2 σ2 H2} R h => by
        have R2 := Rel.drops (wk.len i) R
        cases eu : unlock lk sx with
        | none =>
          have : unlocked lk (pure .nx : M Flow) sx = .fail := by show (match unlock lk sx with | some s'' => (Out.ok Flow.nx s'' : Out Flow) | none => .fail) = _; rw [eu]
          rw [this] at h; exact h.elim
        | some s'' =>
          have : unlocked lk (pure .nx : M Flow) sx = .ok .nx s'' := by show (match unlock lk sx with | some s'' => (Out.ok Flow.nx s'' : Out Flow) | none => .fail) = _; rw [eu]
          rw [this] at h
          exact h _ _ _ (B.run R2 eu)
      refine ⟨fun i m σ H => m = l.length - i ∧ i ≤ l.length ∧ Pv i σ H, ⟨l.length, by simp, Nat.zero_le _, as', s1, R1, h⟩, ?_⟩
      rintro i m σ2 H2 ⟨rfl, hi, as2, sx, R2, h2⟩
      by_cases hlt : i < l.length
      · refine .inr ⟨wk.go hlt (Rel.nf R2), Pv (i + 1), fun σ' H3 p' => ⟨l.length - (i + 1), by omega, rfl, hlt, p'⟩, fun x H3 y => ?_⟩
        obtain ⟨d, hd, R3⟩ := wk.yld hlt (Rel.nf R2) y
        have R4 := Rel.unnf R3 (by obtain ⟨fx, _⟩ := R2; exact fx)
        rw [drop_at hd] at h2
        have ef : forLoop ex p body (d :: l.drop (i + 1)) = (bindP p d).bind fun _ => (ex body).bind (forK ex p body (l.drop (i + 1))) := rfl
        rw [ef] at h2
        cases eb : bindP p d sx with
        | fail =>
          have : unlocked lk ((bindP p d).bind fun _ => (ex body).bind (forK ex p body (l.drop (i + 1)))) sx = .fail := by
            unfold unlocked
            rw [show ((bindP p d).bind _) sx = _ from bind_fail_of eb]
          rw [this] at h2; exact h2.elim
        | exc c ps s3 => exact (NoExP p d _ _ _ _ eb).elim
        | ok u sb =>
          have step1 : unlocked lk ((bindP p d).bind fun _ => (ex body).bind (forK ex p body (l.drop (i + 1)))) sx = unlocked lk ((ex body).bind (forK ex p body (l.drop (i + 1)))) sb := by
            unfold unlocked
            rw [show ((bindP p d).bind _) sx = _ from bind_ok_of eb]
          rw [step1] at h2
          refine ⟨A', as2, _, _, sx, d, R4, fun q hq hm => hp _ hm (hf' q hq), sb, eb, fun σ' hl hσ R5 => ?_⟩
          refine ⟨A', as2, _, _, sb, R5, hf', ?_⟩
          cases ebd : ex body sb with
          | fail =>
            have : unlocked lk ((ex body).bind (forK ex p body (l.drop (i + 1)))) sb = .fail := by
              unfold unlocked
              rw [show ((ex body).bind _) sb = _ from bind_fail_of ebd]
            rw [this] at h2; exact h2.elim
          | exc c ps s5 =>
            have e5 : ((ex body).bind (forK ex p body (l.drop (i + 1)))) sb = .exc c ps s5 := ex_bind'.mpr (.inl ebd)
            unfold unlocked at h2
            rw [e5] at h2
            cases eu : unlock lk s5 with
            | none => simp only [eu] at h2; exact h2.elim
            | some s'' =>
              simp only [eu] at h2
              obtain ⟨h3, h4⟩ := h2
              exact ⟨h3, fun σ'' H'' as'' ts'' tds'' u6 R6 => h4 _ _ _ _ _ (u6.add (wk.len _).symm) (B.run R6 eu)⟩
          | ok f s5 =>
            have step2 : ((ex body).bind (forK ex p body (l.drop (i + 1)))) sb = (forK ex p body (l.drop (i + 1)) f) s5 := bind_ok_of ebd
            have h3 : RunS κ A ts tds W E (unlocked lk (forK ex p body (l.drop (i + 1)) f) s5) := by
              unfold unlocked at h2 ⊢
              rw [step2] at h2
              exact h2
            cases f with
            | nx => exact fun σ'' H'' as'' R6 => ⟨as'', s5, R6, h3⟩
            | cont => exact fun σ'' H'' as'' R6 => ⟨as'', s5, R6, h3⟩
            | brk => exact fun σ'' H'' as'' R6 => out R6 h3
            | ret r =>
              intro σ'' H'' as'' v R6
              have R7 := Rel.swapB (a := [v]) (a' := [r]) (b := us (i + 1)) (b' := es (i + 1)) (c := ts) (c' := tds) rfl (wk.len _) R6
              have R8 := Rel.drops (wk.len _) R7
              cases eu : unlock lk s5 with
              | none =>
                have : unlocked lk (pure (.ret r) : M Flow) s5 = .fail := by show (match unlock lk s5 with | some s'' => (Out.ok (Flow.ret r) s'' : Out Flow) | none => .fail) = _; rw [eu]
                have h3 : RunS κ A ts tds W E (unlocked lk (pure (.ret r) : M Flow) s5) := h3
                rw [this] at h3; exact h3.elim
              | some s'' =>
                have : unlocked lk (pure (.ret r) : M Flow) s5 = .ok (.ret r) s'' := by show (match unlock lk s5 with | some s'' => (Out.ok (Flow.ret r) s'' : Out Flow) | none => .fail) = _; rw [eu]
                have h3 : RunS κ A ts tds W E (unlocked lk (pure (.ret r) : M Flow) s5) := h3
                rw [this] at h3
                exact h3 _ _ _ _ (B.run R8 eu)
      · have e : i = l.length := by omega
        subst e
        rw [List.drop_length] at h2
        exact .inl ⟨wk.stop (Rel.nf R2), out R2 h2⟩
theorem s_for {p : Pat} {src : Src} {body : List CS} {tg iter : Expr} {st : List Stmt} {pos : Pos} (hc : X.calm = true) (hpo : PassesOwn (model X.prog X.w) X.A X.env X.xe) (hi : PI X tg iter (tI κ W (srcItems ev (moves p body) src))) (hg : PG X tg (tG κ p)) (hb : PSs X st (tS κ W (srcLocs src ++ fx) (ex body))) (hp : ∀ j ∈ patNames p, j ∉ srcLocs src ++ fx) (hs : ∀ x, foldedSetIterable iter X.env x = pure x) :
    PS X (.For tg iter st [] pos) (tS κ W fx (stepS P ev ex wf (.for p src body))) := (ps_for hpo hc hi hg hb hs).mono fun E σ H h => for_read hp h
end
end VS
/-! a[i] = e, x op= e. -/
namespace VS
open PySem L2
section
variable {κ : Kit} {X : Cx} {W : WX} {ev : CE → M Tm} {ex : List CS → M Flow} {P : Prog} {cf : Nat → List D → M (D × List D)} {fx : List Nat} {wf : Nat}
theorem derefS {t : Tm} {k : D → M Flow} {A : Act} {σ : St} {ts ts' : List V} {tds tds' : List D} {as : List Addr} {H : Hp} {s : Sx} {E : Ends} {L : List (Tm × V)} {v : V} (R : KTms κ A as σ ts' H s tds' [] [] L) (hm : (t, v) ∈ L) (h : RunS κ A ts tds W E ((deref t >>= k) s)) : ∃ d, deref t s = .ok d s ∧ Vw κ.K as H d v ∧ RunS κ A ts tds W E (k d s) := by
  cases e : deref t s with
  | fail => rw [bind_fail_of e] at h; exact h.elim
  | exc c ps s1 => exact (ex_deref.mp e).elim
  | ok d s1 =>
    obtain ⟨rfl, w⟩ := R.view hm e
    rw [bind_ok_of e] at h
    exact ⟨d, rfl, w, h⟩
theorem RunS.okM {A : Act} {ts : List V} {tds : List D} {E : Ends} {α : Type} {m : M α} {k : α → M Flow} {s : Sx} (n : NoEx m) (h : RunS κ A ts tds W E ((m.bind k) s)) : ∃ a s', m s = .ok a s' ∧ RunS κ A ts tds W E (k a s') := by
  cases e : m s with
  | fail => rw [show (m.bind k) s = _ from bind_fail_of e] at h; exact h.elim
  | exc c ps s1 => exact (n _ _ _ _ e).elim
  | ok a s1 => rw [show (m.bind k) s = _ from bind_ok_of e] at h; exact ⟨a, s1, rfl, h⟩
theorem mapK_id {k : Key} {v : V} : ∀ {ks : List Key} {vs : List V}, k ∉ ks → (ks.zip vs).map (fun kv => if kv.1 = k then (kv.1, v) else kv) = ks.zip vs
  | [], _, _ => rfl
  | _ :: _, [], _ => rfl
  | k' :: ks, v' :: vs, h => by
    rw [List.mem_cons, not_or] at h
    rw [List.zip_cons_cons, List.map_cons, mapK_id h.2, if_neg fun e => h.1 (e : k' = k).symm]
theorem mapK_set {k : Key} {v : V} : ∀ {ks : List Key} {vs : List V} {j : Nat}, ks.length = vs.length → ks.Nodup → findK ks k = some j → (ks.zip vs).map (fun kv => if kv.1 = k then (kv.1, v) else kv) = ks.zip (vs.set j v)
  | [], _, _, _, _, h => by cases h
  | _ :: _, [], _, h, _, _ => by cases h
  | k' :: ks, v' :: vs, j, hl, hn, h => by
    rw [List.nodup_cons] at hn
    unfold findK at h
    by_cases hk : k' = k
    · rw [if_pos hk] at h
      cases h
      rw [List.zip_cons_cons, List.map_cons, if_pos hk, mapK_id (by rw [← hk]; exact hn.1)]
      rfl
    · rw [if_neg hk, Option.map_eq_some_iff] at h
      obtain ⟨j', h, rfl⟩ := h
      rw [List.zip_cons_cons, List.map_cons, if_neg hk, mapK_set (by simpa using hl) hn.2 h]
      rfl
theorem putK_old {k : Key} {v : V} {ks : List Key} {vs : List V} {j : Nat} (hl : ks.length = vs.length) (hn : ks.Nodup) (h : findK ks k = some j) : ks.zip (vs.set j v) = putK (ks.zip vs) k v := by
  unfold putK
  have hj := (findK_lt h).1
  rw [if_pos, mapK_set hl hn h]
  rw [valV_any, valV_zip hl, h, Option.bind_some, List.getElem?_eq_getElem (by omega)]
  rfl
theorem putK_add {k : Key} {v : V} {ks : List Key} {vs : List V} (hl : ks.length = vs.length) (h : findK ks k = none) : (ks ++ [k]).zip (vs ++ [v]) = putK (ks.zip vs) k v := by
  rw [putK_new v (by rw [valV_zip hl, h]; rfl), List.zip_append hl]
  rfl
theorem setL_ok {te ta ti : Tm} {ve va vi : V} {A : Act} {σ : St} {ts : List V} {tds : List D} {as : List Addr} {H : Hp} {s s' : Sx} {u : Unit} (R : KTms κ A as σ ts H s tds [] [] [(ti, vi), (ta, va), (te, ve)]) (e : setItemL ti ta te s = .ok u s') :
    (∃ p xs k j, va = .ref p ∧ vi = .int k ∧ H p = some (.lst xs) ∧ L2.ixN xs.length k = some j ∧ KRel κ A as σ ts (upd H p (.lst (xs.set j ve))) s' tds) ∨
    ∃ p H', va = .ref p ∧ DPut H p vi ve H' ∧ KRel κ A as σ ts H' s' tds := by
  simp only [setItemL, ok_bind] at e
  obtain ⟨di, s1, e1, e⟩ := e
  obtain ⟨rfl, wi⟩ := R.view (t := ti) (v := vi) (by simp) e1
  cases ta with
  | val d => exact (ok_fail.mp e).elim
  | «at» p =>
    simp only [ok_bind] at e
    obtain ⟨x, s2, e2, da, s3, e3, e⟩ := e
    have R1 := (R.drop.swap).esc e2
    have R2 : KRel κ A as σ (ve :: ts) H s2 (x :: tds) := R1.2.1
    have aP : AtP as σ H p va := R1.2.2 p va (by simp)
    obtain ⟨eg, rfl⟩ := ok_at.mp e3
    cases da with
    | lst o ds =>
      left
      cases wi with
      | @int k =>
        cases o with
        | own =>
          simp only [ok_bind, ok_opt, ok_putAt] at e
          obtain ⟨j, s4, ⟨ej, rfl⟩, e⟩ := e
          have hj : j < ds.length := (ixN_seq ej).2.1
          obtain ⟨a₀, vs, rfl, hH, hlen, R3⟩ := Rel.write (es := [x]) (ws := [ve]) (os := []) (gv := fun _ => []) (fv := fun vs => vs.set j ve) rfl R2 aP eg (fun g H vs f1 f2 r1 r2 => by
            obtain ⟨w, g1, g2, h1, h2, h3, h4⟩ := r1.at (List.getElem?_eq_getElem hj)
            cases r2 with
            | cons r rs z =>
              obtain ⟨fp', h5, h6⟩ := h4 (g' := g) (H' := H) (fun _ _ q => q) List.prefix_rfl (fun _ _ => ⟨rfl, rfl⟩) r
              exact ⟨fp', fun _ => 0, h5, .nil fun _ => rfl, fun b => by dsimp only; have := h3 b; have := h6 b; have := z b; omega⟩) e
          exact ⟨a₀, vs, k, j, rfl, rfl, hH, by rw [← hlen]; exact ej, R3⟩
        | _ => exact (ok_fail.mp e).elim
      | _ => cases o <;> exact (ok_fail.mp e).elim
    | dK o ks ds =>
      right
      cases o with
      | own =>
        simp only [ok_bind, ok_opt, ok_need, ok_putAt, decide_eq_true_eq] at e
        obtain ⟨k, s4, ⟨hk, rfl⟩, _, s5, ⟨hz, rfl⟩, _, s6, ⟨hn, rfl⟩, e⟩ := e
        obtain rfl : vi = kV k := by
          cases wi <;> simp [keyD] at hk <;> (subst hk; rfl)
        have fin : ∀ {a₀ : Addr} {vs : List V}, H a₀ = some (.dK (ks.zip vs)) → ks.length = vs.length → DPut H a₀ (kV k) ve (upd H a₀ (.dK (putK (ks.zip vs) k ve))) := fun h1 h2 =>
          .k h1 (by rw [List.length_zip]; omega)
        unfold putKey at e
        cases hf : findK ks k with
        | none =>
          rw [hf] at e
          obtain ⟨a₀, vs, rfl, hH, hlen, R3⟩ := Rel.writeK (es := [x]) (ws := [ve]) (os := []) (gv := fun _ => []) (fv := fun vs => vs ++ [ve]) rfl R2 aP eg (fun g H vs f1 f2 hl r1 r2 =>
            ⟨_, fun _ => 0, by rw [List.length_append, List.length_append, hl]; rfl, r1.append r2 (fun _ => rfl), .nil fun _ => rfl, fun b => by dsimp only; omega⟩) e
          have R3 : KRel κ A as σ ts (upd H a₀ (.dK ((ks ++ [k]).zip (vs ++ [ve])))) s' tds := R3
          rw [putK_add hlen hf] at R3
          exact ⟨a₀, _, rfl, fin hH hlen, R3⟩
        | some j =>
          rw [hf] at e
          obtain ⟨a₀, vs, rfl, hH, hlen, R3⟩ := Rel.writeK (es := [x]) (ws := [ve]) (os := []) (gv := fun _ => []) (fv := fun vs => vs.set j ve) rfl R2 aP eg (fun g H vs f1 f2 hl r1 r2 => by
            have hj : j < ds.length := by rw [r1.len, ← hl]; exact (findK_lt hf).1
            obtain ⟨w, g1, g2, h1, h2, h3, h4⟩ := r1.at (List.getElem?_eq_getElem hj)
            cases r2 with
            | cons r rs z =>
              obtain ⟨fp', h5, h6⟩ := h4 (g' := g) (H' := H) (fun _ _ q => q) List.prefix_rfl (fun _ _ => ⟨rfl, rfl⟩) r
              exact ⟨fp', fun _ => 0, by rw [List.length_set]; exact hl, h5, .nil fun _ => rfl, fun b => by dsimp only; have := h3 b; have := h6 b; have := z b; omega⟩) e
          have R3 : KRel κ A as σ ts (upd H a₀ (.dK (ks.zip (vs.set j ve)))) s' tds := R3
          rw [putK_old hlen hn hf] at R3
          exact ⟨a₀, _, rfl, fin hH hlen, R3⟩
      | _ => exact (ok_fail.mp e).elim
    | _ => exact (ok_fail.mp e).elim
theorem NoEx.setItemL {ti ta te : Tm} : NoEx (VS.setItemL ti ta te) := by
  refine .bind .deref fun i => ?_
  cases ta with
  | val d => exact .fail
  | «at» p =>
    refine .bind .escape fun x => .bind .deref fun a => ?_
    cases a <;> first
      | exact .fail
      | (rename_i o ds; cases o <;> first | exact .fail | (cases i <;> first | exact .fail | exact .bind .opt fun _ => .putAt))
      | (rename_i o ks ds; cases o <;> first | exact .fail | exact .bind .opt fun _ => .bind .need fun _ => .bind .need fun _ => .putAt)
def rSetDk : TSet := fun o i v H Q => ∃ a H', o = .ref a ∧ DPut H a i v H' ∧ Q H'
theorem set_dk (hu : X.A.units + 1 < cLine) : PSet X rSetDk := by
  intro pins s σ H o i v ov iv u Q I ro ri rv h
  obtain ⟨a, H', eo, g, q⟩ := h
  subst eo
  cases (show ov = Value.ref a from ro)
  exact d_setItem hu I g ri rv fun s' I' => ⟨H', I', q⟩
theorem PSet.or {t t' : TSet} (h : PSet X t) (h' : PSet X t') : PSet X (fun o i v H Q => t o i v H Q ∨ t' o i v H Q) := by
  intro pins s σ H o i v ov iv u Q I ro ri rv q
  rcases q with q | q
  · exact h pins s σ H o i v ov iv u Q I ro ri rv q
  · exact h' pins s σ H o i v ov iv u Q I ro ri rv q
theorem s_setItem (hu : X.A.units + 1 < cLine) {a i e : Expr} {ca ci c : CE} {pos spos : Pos} (he : SE κ X W e ev c) (ha : SE κ X W a ev ca) (hi : SE κ X W i ev ci)
    (has : ∀ v, assign (.Subscript a i pos) X.env v = (do
      let ov ← holding [v] (eval a X.env)
      let iv ← holding [v, ov] (eval i X.env)
      standAt pos
      holding [v, ov, iv] (PySem.setItem ov iv v)
      release [v, ov, iv] [])) (hs : swapsWithSole [.Subscript a i pos] e spos.line X.env = pure false) (hw : swappedStores [.Subscript a i pos] e X.env = pure none) (h1 : (assignEach [.Subscript a i pos] X.env).map (·.2) = [assign (.Subscript a i pos) X.env]) :
    PS X (.Assign [.Subscript a i pos] e spos) (tS κ W fx (stepS P ev ex wf (.asg (.sub ca ci) c))) := by
  refine (ps_asg he.pe (pg_sub ha.pe hi.pe (PSet.or set_list (set_dk hu)) has) hs hw h1).mono fun E σ H h => ?_
  have h : tS κ W fx ((evalL ev [c, ca, ci]).bind fun ts => match ts with | [te, ta, ti] => (setItemL ti ta te).bind fun _ => (pure .nx : M Flow) | _ => VS.fail) E σ H := h
  refine argsS (es := [c, ca, ci]) (Q := fun vs H3 => match vs with | [v, o, i] => (rSetL o i v H3 fun H4 => E.nx σ H4) ∨ rSetDk o i v H3 fun H4 => E.nx σ H4 | _ => True) h fun {A as ts tds tms s1 vs H1} hl hl2 hf R h => ?_
  match tms, vs, hl, hl2 with
  | [te, ta, ti], [ve, va, vi], _, _ =>
    have R : KTms κ A as σ ts H1 s1 tds [] [] [(ti, vi), (ta, va), (te, ve)] := R
    obtain ⟨u, s2, e2, h⟩ := RunS.okM .setItemL h
    rcases setL_ok R e2 with ⟨p, xs, k, j, rfl, rfl, hH, hj, R2⟩ | ⟨p, H', rfl, g, R2⟩
    · exact .inl ⟨p, xs, k, j, rfl, rfl, hH, hj, h _ _ _ R2⟩
    · exact .inr ⟨p, H', rfl, g, h _ _ _ R2⟩
end
end VS
/-! Comprehensions as expressions and stored in a name; tuple targets; raise. -/
namespace VS
open PySem L2
section
variable {κ : Kit} {X : Cx} {W : WX} {ev : CE → M Tm} {ex : List CS → M Flow} {P : Prog} {cf : Nat → List D → M (D × List D)} {fx : List Nat} {wf : Nat}
theorem snd_comp {elt tg iter : Expr} {ifs : List Expr} {scope : Scope} {own : List (Str × Nat)} {pos : Pos} {p : Pat} {src : Src} {cond : Option CE} {ce : CE} (hc : X.calm = true) (hN : X.N.Nodup) (hi : PI X tg iter (tI κ W (srcItems ev false src))) (ok : BlkOk X.N X.env.scope scope own)
    (hg : ∀ (s : Shared) (H : Hp) (C : Addr) (cl : List (Str × Addr)) (fp : List Addr), PG (X.blk s H scope (compEnvC scope cl C X.env) fp) tg (tG κ p)) (ht : ∀ (s : Shared) (H : Hp) (C : Addr) (cl : List (Str × Addr)) (fp : List Addr), PTs (X.blk s H scope (compEnvC scope cl C X.env) fp) ifs (tCond κ ev cond))
    (he : ∀ (s : Shared) (H : Hp) (C : Addr) (cl : List (Str × Addr)) (fp : List Addr), PE (X.blk s H scope (compEnvC scope cl C X.env) fp) elt (tE κ W0 (quiet ce) (ev ce))) (hs : ∀ x, foldedSetIterable iter X.env x = pure x) (hn : (own.map (·.2)).Nodup) (hp : ∀ j ∈ patNames p, j ∈ own.map (·.2)) :
    PE X (.ListComp elt [⟨tg, iter, ifs, 0⟩] scope pos) (tE κ W (quiet (.comp (own.map (·.2)) p src cond ce)) (step P ev cf (.comp (own.map (·.2)) p src cond ce))) :=
  (pe_lc hc hN hi ok hg ht he hs).mono fun σ H Q h => comp_ok hn hp h
theorem s_setLc {i : Nat} {y : Str} {py : Pos} {elt tg iter : Expr} {ifs : List Expr} {scope : Scope} {own : List (Str × Nat)} {pos spos : Pos} {p : Pat} {src : Src} {cond : Option CE} {ce : CE} (hc : X.calm = true) (hN : X.N.Nodup) (hy : X.N[i]? = some y) (hyl : X.env.scope.names.lookup y = some .local)
    (hsw : swapsWith (.ListComp elt [⟨tg, iter, ifs, 0⟩] scope pos) (some (.Name y py)) spos.line X.env = pure true) (hi : PI X tg iter (tI κ W (srcItems ev false src))) (ok : BlkOk X.N X.env.scope scope own)
    (hg : ∀ (s : Shared) (H : Hp) (C : Addr) (cl : List (Str × Addr)) (fp : List Addr), PG (X.blk s H scope (compEnvC scope cl C X.env) fp) tg (tG κ p)) (ht : ∀ (s : Shared) (H : Hp) (C : Addr) (cl : List (Str × Addr)) (fp : List Addr), PTs (X.blk s H scope (compEnvC scope cl C X.env) fp) ifs (tCond κ ev cond))
    (he : ∀ (s : Shared) (H : Hp) (C : Addr) (cl : List (Str × Addr)) (fp : List Addr), PE (X.blk s H scope (compEnvC scope cl C X.env) fp) elt (tE κ W0 (quiet ce) (ev ce))) (hs : ∀ x, foldedSetIterable iter X.env x = pure x) (hn : (own.map (·.2)).Nodup) (hp : ∀ j ∈ patNames p, j ∈ own.map (·.2)) (hfx : i ∉ fx) :
    PS X (.Assign [.Name y py] (.ListComp elt [⟨tg, iter, ifs, 0⟩] scope pos) spos) (tS κ W fx (stepS P (step P ev cf) ex wf (.asg (.pat (.name i)) (.comp (own.map (·.2)) p src cond ce)))) :=
  (ps_setLc hc hN hy hyl hsw hi ok hg ht he hs).mono fun E σ H h => by
    have h1 := asg_read (p := .name i) (by simpa [patNames] using hfx) h
    have h2 : tE κ W false (step P ev cf (.comp (own.map (·.2)) p src cond ce)) σ H (fun x H1 => gName i x σ H1 E.nx) := tE.monoQ h1 fun v H1 q => tG_name q
    exact comp_ok hn hp h2
/-! ### names, names = .. -/
def gs (κ : Kit) : List Pat → TGs
  | [] => gNil
  | p :: ps => gCons (tG κ p) (gs κ ps)
theorem gs_ok {A : Act} {as : List Addr} {H : Hp} {ts : List V} {tds : List D} {s' : Sx} {k : St → Hp → Prop} : ∀ {ps : List Pat} {vs : List V} {ds : List D} {σ : St} {s : Sx}, ps.length = ds.length → ds.length = vs.length → KRel κ A as σ (vs ++ ts) H s (ds ++ tds) → bindPs ps ds s = .ok () s' → (∀ q ∈ A.fix, q.1 ∉ patsNames ps) → (∀ σ', σ'.length = σ.length → (∀ j, j ∉ patsNames ps → σ'[j]? = σ[j]?) → KRel κ A as σ' ts H s' tds → k σ' H) → gs κ ps vs σ H k
  | [], [], [], σ, s, _, _, R, e, hf, h => by
    cases e
    exact ⟨rfl, h σ rfl (fun _ _ => rfl) R⟩
  | p :: ps, v :: vs, d :: ds, σ, s, hl, hl2, R, e, hf, h => by
    have e : (bindP p d >>= fun _ => bindPs ps ds) s = .ok () s' := e
    obtain ⟨u, s1, e1, e2⟩ := ok_bind.mp e
    refine ⟨v, vs, rfl, A, as, vs ++ ts, ds ++ tds, s, d, R, fun q hq hm => hf q hq (by simp [patsNames, hm]), s1, e1, fun σ1 hl1 hσ1 R1 => ?_⟩
    refine gs_ok (by simpa using hl) (by simpa using hl2) R1 e2 (fun q hq hm => hf q hq (by simp [patsNames, hm])) fun σ2 hl3 hσ2 R2 => h σ2 (hl3.trans hl1) (fun j hj => ?_) R2
    rw [hσ2 j fun q => hj (by simp [patsNames, q]), hσ1 j fun q => hj (by simp [patsNames, q])]
  | [], _ :: _, [], _, _, _, hl2, _, _, _, _ => by simp at hl2
  | _ :: _, [], _ :: _, _, _, _, hl2, _, _, _, _ => by simp at hl2
  | [], _, _ :: _, _, _, hl, _, _, _, _, _ => by simp at hl
  | _ :: _, _, [], _, _, hl, _, _, _, _, _ => by simp at hl
theorem g_tup {ps : List Pat} {es : List Expr} {k : Nat} {pos : Pos} (hK : X.K = κ.K) (hc : X.calm = true) (hg : PGs X es (gs κ ps)) (hl : ps.length = es.length) (hn : (assignEach es X.env).length = ps.length) (hst : (assignEach es X.env).findIdx? (·.1) = none) : PG X (.Tuple es k pos) (tG κ (.tup ps)) := by
  refine (pg_tup hc hg hn hst).mono fun x σ H k h => ?_
  obtain ⟨A, as, ts, tds, s, d, R, hf, s', e, h⟩ := h
  rw [hK]
  cases d with
  | tup ds =>
    have e : (need (decide (ps.length = ds.length)) >>= fun _ => bindPs ps ds) s = .ok () s' := e
    obtain ⟨_, s1, e1, e2⟩ := ok_bind.mp e
    obtain ⟨hd, rfl⟩ := ok_need.mp e1
    have hd := of_decide_eq_true hd
    obtain ⟨a, vs, rfl, sq, hlen, R2⟩ := Rel.kids R (ds := ds) rfl
    exact ⟨a, vs, rfl, sqT_of sq, by rw [← hlen, hd], gs_ok hd hlen R2 e2 hf h⟩
  | _ =>
    have e : (Out.fail : Out Unit) = .ok () s' := e
    cases e
end
end VS
/-! A def keeps its promise. -/
namespace VS
open PySem L2
theorem mask_rps {K : PySem.W.Frag} {g : Gh} {H : Hp} : ∀ {fixed : List Bool} {env : List D} {evs vs : List V} {f : Fp}, fixed.length = vs.length → fixed.length ≤ env.length → Rps K g H env evs f → (∀ (i : Nat), fixed[i]? = some true → ∀ (d : VS.D), env[i]? = some d → d = VS.D.gone ∨ evs[i]? = vs[i]?) → ∃ f', Rps K g H (maskL fixed env) vs f' ∧ ∀ b, f' b ≤ f b
  | [], env, evs, [], f, _, _, _, _ => ⟨fun _ => 0, .nil fun _ => rfl, fun _ => Nat.zero_le _⟩
  | b :: bs, d :: env, e :: evs, v :: vs, f, h1, h2, .cons (f1 := f1) (f2 := f2) r rs z, h => by
    obtain ⟨f', h3, h4⟩ := mask_rps (fixed := bs) (env := env) (evs := evs) (vs := vs) (by simpa using h1) (by simpa using h2) rs fun i hi d hd => by simpa using h (i + 1) (by simpa using hi) d (by simpa using hd)
    cases b with
    | false => exact ⟨fun b => 0 + f' b, .cons (f1 := fun _ => 0) (.gone fun _ => rfl) h3 fun _ => rfl, fun b => by have := h4 b; have := z b; dsimp only; omega⟩
    | true =>
      rcases h 0 rfl d rfl with q | q
      · subst q
        exact ⟨fun b => 0 + f' b, .cons (f1 := fun _ => 0) (.gone fun _ => rfl) h3 fun _ => rfl, fun b => by have := h4 b; have := z b; dsimp only; omega⟩
      · simp only [List.getElem?_cons_zero, Option.some.injEq] at q
        subst q
        exact ⟨fun b => f1 b + f' b, .cons r h3 fun _ => rfl, fun b => by have := h4 b; have := z b; dsimp only; omega⟩
  | _ :: _, [], _, _, _, _, h2, _, _ => by simp at h2
  | [], _, _, _ :: _, _, h1, _, _, _ => by simp at h1
  | _ :: _, _, _, [], _, h1, _, _, _ => by simp at h1
/-- the parameters that a def never stores -/
def fixL : List Bool → List V → Nat → List (Nat × V)
  | b :: bs, v :: vs, i => if b then (i, v) :: fixL bs vs (i + 1) else fixL bs vs (i + 1)
  | _, _, _ => []
theorem fixL_mem : ∀ {bs : List Bool} {vs : List V} {i j : Nat} {v : V}, bs[j]? = some true → vs[j]? = some v → (i + j, v) ∈ fixL bs vs i
  | b :: bs, w :: vs, i, 0, v, h1, h2 => by
    simp only [List.getElem?_cons_zero, Option.some.injEq] at h1 h2
    subst h1 h2
    simp [fixL]
  | b :: bs, w :: vs, i, j + 1, v, h1, h2 => by
    have := fixL_mem (i := i + 1) (j := j) (bs := bs) (vs := vs) (by simpa using h1) (by simpa using h2)
    rw [show i + 1 + j = i + (j + 1) by omega] at this
    unfold fixL
    split
    · exact List.mem_cons_of_mem _ this
    · exact this
  | [], _, _, _, _, h, _ => by simp at h
  | _ :: _, [], _, _, _, _, h => by simp at h
theorem fixL_of : ∀ {bs : List Bool} {vs : List V} {i : Nat} {q : Nat × V}, q ∈ fixL bs vs i → ∃ j, q.1 = i + j ∧ bs[j]? = some true ∧ vs[j]? = some q.2
  | b :: bs, w :: vs, i, q, h => by
    unfold fixL at h
    split at h
    · rename_i hb
      rcases List.mem_cons.mp h with rfl | h
      · exact ⟨0, rfl, by simp [hb], rfl⟩
      · obtain ⟨j, h1, h2, h3⟩ := fixL_of h
        exact ⟨j + 1, by omega, by simpa using h2, by simpa using h3⟩
    · obtain ⟨j, h1, h2, h3⟩ := fixL_of h
      exact ⟨j + 1, by omega, by simpa using h2, by simpa using h3⟩
  | [], _, _, _, h => by simp [fixL] at h
  | _ :: _, [], _, _, h => by simp [fixL] at h
section
variable {κ : Kit} {A : Act} {as : List Addr} {σ : St} {ts : List V} {H : Hp} {s : Sx} {tds : List D}
theorem Rel.mask {fixed : List Bool} {vs : List V} (hl : fixed.length = vs.length) (he : fixed.length ≤ s.env.length) (hf : ∀ j v, fixed[j]? = some true → vs[j]? = some v → (j, v) ∈ A.fix) (R : KRel κ A as σ ts H s tds) : KRel κ A.nf as [] (vs ++ ts) H ⟨[], s.sto⟩ (maskL fixed s.env ++ tds) := by
  obtain ⟨fx, Fz, tot, evs, fE, fT, fS, C, S⟩ := R
  obtain ⟨f', rm, hm⟩ := mask_rps hl he C.rE fun i hi d hd => by
    rcases C.env i d hd with h | ⟨v, h1, h2⟩
    · exact .inl h
    · have hv : i < vs.length := by rw [← hl]; exact (List.getElem?_eq_some_iff.mp hi).1
      have := fx _ (hf i vs[i] hi (List.getElem?_eq_getElem hv))
      rw [h2] at this
      refine .inr ?_
      rw [h1, List.getElem?_eq_getElem hv]
      simpa using this
  refine ⟨fun _ h => absurd h (by simp [Act.nf]), Fz, fun b => 0 + (f' b + fT b) + fS b, [], fun _ => 0, fun b => f' b + fT b, fS, ⟨fun i d e => by simp at e, rfl, .nil fun _ => rfl, rm.append C.rT fun _ => rfl, C.rS, fun _ => rfl⟩, ?_⟩
  have S' := S.less (tot' := fun b => 0 + (f' b + fT b) + fS b) fun b => by have := hm b; have := C.sum b; omega
  exact ⟨S'.fzH, S'.fz0, S'.lkH, S'.as0, S'.uno, S'.nfz, S'.own, S'.kp, S'.fzo⟩
end
end VS
namespace VS
open PySem L2 PySem.Spec PyProof.Rows
def fxOf : List Bool → Nat → List Nat
  | [], _ => []
  | b :: bs, i => if b then i :: fxOf bs (i + 1) else fxOf bs (i + 1)
theorem fxOf_mem : ∀ {bs : List Bool} {i j : Nat}, bs[j]? = some true → i + j ∈ fxOf bs i
  | b :: bs, i, 0, h => by
    simp only [List.getElem?_cons_zero, Option.some.injEq] at h
    subst h
    simp [fxOf]
  | b :: bs, i, j + 1, h => by
    have := fxOf_mem (bs := bs) (i := i + 1) (j := j) (by simpa using h)
    rw [show i + 1 + j = i + (j + 1) by omega] at this
    unfold fxOf
    split
    · exact List.mem_cons_of_mem _ this
    · exact this
  | [], _, _, h => by simp at h
theorem maskL_len : ∀ {bs : List Bool} {ds : List D}, (maskL bs ds).length = min bs.length ds.length
  | [], _ => by simp [maskL]
  | _ :: _, [] => by simp [maskL]
  | b :: bs, d :: ds => by simp [maskL, maskL_len (bs := bs) (ds := ds)]
theorem rps_gone {K : PySem.W.Frag} {g : Gh} {H : Hp} : ∀ n : Nat, Rps K g H (List.replicate n VS.D.gone) (List.replicate n V.non) fun _ => 0
  | 0 => .nil fun _ => rfl
  | n + 1 => .cons (f1 := fun _ => 0) (f2 := fun _ => 0) (.gone fun _ => rfl) (rps_gone n) fun _ => rfl
section
variable {κ : Kit} {Pr : Program} {w : World} {K : PySem.W.Frag} {mg : Str → Option Value} {base : Heap} {Pg : Prog} {x qual : Str} {st : Stmt} {f : Addr} {fdat : FuncData} {N ps : List Str} {k i wf n lev : Nat} {fd : FD}
theorem fn_ok (F : Fun K x qual st f fdat) (S : FnScope N ps (defScope st)) (hf : Pg.fns[i]? = some fd) (hnp : fd.np = ps.length) (hfix : fd.fixed.length = fd.np) (hns : fd.ns = N.length)
    (body : ∀ (cdv : Value) (A : Around) (outer : List Env) (s : Shared) (H : Hp) (E : XK), Room k (A.deeper (envOfC qual (defScope st) s.heap.objs.size f cdv)) →
      PSs (cxOf (L2.CX Pr w) Pr w K mg base N qual (defScope st) f cdv A outer s H E) (defBody st) (tS κ (fun c d _ H' => E c d H') (fxOf fd.fixed 0) (execB Pg (callF Pg wf n lev) wf n fd.body))) :
    FnOk Pr w K mg base (L2.CX Pr w) (k + 1) f fdat ps (spF κ (callF Pg wf n (lev + 1)) fd.np i) := by
  refine F.okX S (fun vs H Q E h => by rw [← hnp]; exact h.1) (fun cdv A outer s H vs Q E hr hsp => ⟨_, body cdv A outer s H E hr, ?_⟩)
  obtain ⟨hl, ds, sto, as, Fz, Lk, tot, evs, fE, fT, fS, C, Sn, h⟩ := hsp
  have hdl : ds.length = vs.length := C.rT.len
  have e0 : callF Pg wf n (lev + 1) i ds ⟨[], sto⟩ = (match execB Pg (callF Pg wf n lev) wf n fd.body ⟨ds ++ List.replicate (fd.ns - fd.np) .gone, sto⟩ with
      | .ok (.ret d) s' => .ok (d, maskL fd.fixed s'.env) s'
      | .ok .nx s' => .ok (.non, maskL fd.fixed s'.env) s'
      | .ok _ _ => .fail
      | .exc c ps s' => .exc c ps { s' with env := maskL fd.fixed s'.env }
      | .fail => .fail) := by
    show runF Pg (callF Pg wf n lev) wf n i ds ⟨[], sto⟩ = _
    unfold runF
    rw [hf]
    (simp only [hdl, hl, if_true]) <;> rfl
  rw [e0] at h
  have gE : ∀ b, fE b = 0 := by
    have := C.rE
    cases this with
    | nil z => exact z
  let A0 : Act := ⟨H, tot, Fz, Lk, as, fixL fd.fixed vs 0⟩
  have σat : ∀ j v, vs[j]? = some v → (start N vs)[j]? = some (some v) := fun j v h => by
    have hj : j < vs.length := (List.getElem?_eq_some_iff.mp h).1
    unfold L2.start
    rw [List.getElem?_append_left (by simpa using hj), List.getElem?_map, h]
    rfl
  have R0 : KRel κ A0 as (start N vs) [] H ⟨ds ++ List.replicate (fd.ns - fd.np) .gone, sto⟩ [] := by
    refine ⟨fun q hq => ?_, Fz, tot, vs ++ List.replicate (fd.ns - fd.np) .non, fun b => fT b + 0, fun _ => 0, fS, ⟨fun j d e => ?_, ?_, C.rT.append (rps_gone _) fun _ => rfl, .nil fun _ => rfl, C.rS, fun b => by have := C.sum b; have := gE b; omega⟩, ⟨Sn.fzH, Sn.fz0, Sn.lkH, Sn.as0, Sn.uno, Sn.nfz, Sn.own, Sn.kp, Sn.fzo⟩⟩
    · obtain ⟨j, h1, h2, h3⟩ := fixL_of hq
      rw [h1, Nat.zero_add]
      exact σat j _ h3
    · by_cases hj : j < ds.length
      · have hv : vs[j]? = some (vs[j]'(by omega)) := List.getElem?_eq_getElem _
        exact .inr ⟨_, by rw [List.getElem?_append_left (by omega)]; exact hv, σat j _ hv⟩
      · have e : (ds ++ List.replicate (fd.ns - fd.np) VS.D.gone)[j]? = some d := e
        rw [List.getElem?_append_right (by omega), List.getElem?_replicate] at e
        split at e
        · cases e; exact .inl rfl
        · cases e
    · show (start N vs).length = (ds ++ List.replicate (fd.ns - fd.np) VS.D.gone).length
      unfold L2.start
      simp [hdl, hl, hns]
  have hfx : ∀ q ∈ A0.fix, q.1 ∈ fxOf fd.fixed 0 := fun q hq => by
    obtain ⟨j, h1, h2, h3⟩ := fixL_of hq
    rw [h1]; exact fxOf_mem h2
  have hm : ∀ j v, fd.fixed[j]? = some true → vs[j]? = some v → (j, v) ∈ A0.fix := fun j v h1 h2 => by
    have := fixL_mem (i := 0) h1 h2
    rw [Nat.zero_add] at this; exact this
  have hfl : fd.fixed.length = vs.length := by rw [hfix, hl]
  refine ⟨A0, as, [], [], _, R0, hfx, ?_⟩
  cases ex : execB Pg (callF Pg wf n lev) wf n fd.body ⟨ds ++ List.replicate (fd.ns - fd.np) .gone, sto⟩ with
  | fail => rw [ex] at h; exact h
  | exc c ps' s' =>
    rw [ex] at h
    obtain ⟨h1, h2, h3⟩ := h
    refine ⟨h1, fun σ' H' as' ts' tds' _ R => ?_⟩
    have R1 : KRel κ A0 as' σ' [] H' s' [] := Rel.drops (ds := tds') (vs := ts') R.tlen (by rw [List.append_nil, List.append_nil]; exact R)
    have he : fd.fixed.length ≤ s'.env.length := by have h2 : (maskL fd.fixed s'.env).length = vs.length := h2; rw [maskL_len] at h2; omega
    have R2 := Rel.mask hfl he hm R1
    rw [List.append_nil, List.append_nil] at R2
    exact h3 H' as' R2
  | ok fl s' =>
    rw [ex] at h
    cases fl with
    | brk => exact h.elim
    | cont => exact h.elim
    | nx =>
      obtain ⟨h1, h2⟩ := h
      intro σ' H' as' R
      have he : fd.fixed.length ≤ s'.env.length := by have h1 : (maskL fd.fixed s'.env).length = vs.length := h1; rw [maskL_len] at h1; omega
      have R2 := Rel.mask hfl he hm R
      rw [List.append_nil, List.append_nil] at R2
      exact h2 .non H' as' (Rel.scal R2 fun g _ => .non fun _ => rfl)
    | ret d =>
      obtain ⟨h1, h2⟩ := h
      intro σ' H' as' v R
      have h1 : (maskL fd.fixed s'.env).length = vs.length := h1
      have he : fd.fixed.length ≤ s'.env.length := by rw [maskL_len] at h1; omega
      have R2 := Rel.mask hfl he hm R
      have R3 := Rel.rot (vs₂ := []) (ds₂ := []) h1 R2
      rw [List.append_nil, List.append_nil] at R3
      exact h2 v H' as' R3
end
end VS
/-! An if-expression as a test. -/
namespace VS
open PySem L2 PySem.Spec PyProof.Rows
section
variable {κ : Kit} {X : Cx} {W : WX} {ev : CE → M Tm} {P : Prog} {cf : Nat → List D → M (D × List D)} {a b c : Expr} {ca cb cc : CE} {pos : Pos}
def tIfT (t ta tb : TT) : TT := fun σ H Q => t σ H fun c H1 => if c = true then ta σ H1 Q else tb σ H1 Q
theorem pt_ifExp {tc ta tb : TT} (hc : PT X c tc) (ha : PT X a ta) (hb : PT X b tb) : PT X (.IfExp c a b pos) (tIfT tc ta tb) := by
  refine ⟨fun pins s σ H Q I h => ?_⟩
  show wpAny (model X.prog X.w) X.A (do if ← isTrue c X.env (eval c X.env) then isTrue a X.env (eval a X.env) else isTrue b X.env (eval b X.env)) _ X.xe s
  refine wpAny_bind (thn (hc.run pins s σ H _ I h) fun d s1 ⟨H1, I1, q1⟩ => ?_)
  cases d with
  | true => exact ha.run pins s1 σ H1 Q I1 q1
  | false => exact hb.run pins s1 σ H1 Q I1 q1
theorem evalB_ite : evalB (step P ev cf) (.ite cc ca cb) = (evalB ev cc).bind fun x => if x = true then evalB ev ca else evalB ev cb := by
  show ((((evalB ev cc).bind fun x => if x = true then ev ca else ev cb).bind deref).bind fun d => opt (truth d)) = _
  rw [M.assoc, M.assoc]
  refine M.eta fun x => ?_
  cases x with
  | true => show (ev ca).bind (fun a => (deref a).bind fun d => opt (truth d)) = ((ev ca).bind deref).bind (fun d => opt (truth d)); rw [M.assoc]
  | false => show (ev cb).bind (fun a => (deref a).bind fun d => opt (truth d)) = ((ev cb).bind deref).bind (fun d => opt (truth d)); rw [M.assoc]
theorem se_ite (hc : SE κ X W c ev cc) (ha : SE κ X W a ev ca) (hb : SE κ X W b ev cb) : SE κ X W (.IfExp c a b pos) (step P ev cf) (.ite cc ca cb) := by
  refine ⟨snd_ite hc ha hb, (pt_ifExp hc.pt ha.pt hb.pt).mono fun σ H Q h => ?_⟩
  have h : tT κ W (quiet ca && quiet cb && quiet cc) (evalB (step P ev cf) (.ite cc ca cb)) σ H Q := h
  rw [evalB_ite] at h
  refine oneBB h fun {A as as1 ts tds b s1 H1} hA hx R h => ?_
  cases b with
  | true => exact ⟨A, as1, ts, tds, s1, R, RunB.shift h hA fun z => ⟨hx (andq z).2, (andq (andq z).1).1⟩⟩
  | false => exact ⟨A, as1, ts, tds, s1, R, RunB.shift h hA fun z => ⟨hx (andq z).2, (andq (andq z).1).2⟩⟩
end
end VS
/-! enumerate, zip. -/
namespace VS
open PySem L2
section
variable {κ : Kit} {A A' A'' : Act} {σ : St} {ts : List V} {tds : List D} {as : List Addr} {H : Hp} {s s' : Sx}
theorem Why.holds {d : D} {a : Addr} {vs : List V} (w : Why κ A' d a vs) : Holds κ A' d a vs := fun R => by
  rcases w with w | ⟨h1, h2⟩
  · cases d with
    | tup x => exact pin_fz (A := A'.nf) w R
    | lst o x => cases o with
      | wrt => exact sqL_mono (fun a o e => pin_fz (A := A'.nf) e R) w
      | own => exact pin_fz (A := A'.nf) w R
      | lck => exact pin_fz (A := A'.nf) w R
      | frz => exact pin_fz (A := A'.nf) w R
    | _ => exact pin_fz (A := A'.nf) w R
  · have h3 := lock_at (A := A'.nf) h2 R
    cases d with
    | tup x => exact (h1 _ rfl).elim
    | lst o x => cases o <;> first | exact h3 | exact sqL_of h3
    | _ => exact h3
theorem Why.grow {d : D} {a : Addr} {vs : List V} (w : Why κ A' d a vs) (g : Grow A' A'') : Why κ A'' d a vs := by
  rcases w with w | ⟨h1, h2⟩
  · left
    cases d with
    | tup x => exact g.fz _ _ w
    | lst o x => cases o with
      | wrt => exact sqL_mono g.fz w
      | own => exact g.fz _ _ w
      | lck => exact g.fz _ _ w
      | frz => exact g.fz _ _ w
    | _ => exact g.fz _ _ w
  · exact .inr ⟨h1, g.lk _ _ h2⟩
theorem unlock_app : ∀ {a b : List Nat} {s s' : Sx}, unlock (a ++ b) s = some s' → ∃ s1, unlock a s = some s1 ∧ unlock b s1 = some s'
  | [], b, s, s', h => ⟨s, rfl, h⟩
  | i :: a, b, s, s', h => by
    have h : (match s.env[i]? with
      | some (.lst .lck ds) => unlock (a ++ b) { s with env := s.env.set i (.lst .own ds) }
      | _ => none) = some s' := h
    show ∃ s1, (match s.env[i]? with
      | some (.lst .lck ds) => unlock a { s with env := s.env.set i (.lst .own ds) }
      | _ => none) = some s1 ∧ _
    cases e : s.env[i]? with
    | none => rw [e] at h; cases h
    | some d =>
      rw [e] at h
      cases d with
      | lst o ds => cases o <;> first | exact unlock_app h | cases h
      | _ => cases h
theorem Back.trans {k1 k2 : List Nat} (b1 : Back κ A'' A' k1) (b2 : Back κ A' A k2) : Back κ A'' A (k1 ++ k2) := ⟨fun R e => by
    obtain ⟨s1, e1, e2⟩ := unlock_app e
    exact b2.run (b1.run R e1) e2, fun q hq => by
    rcases b1.fx q hq with h | h
    · rcases b2.fx q h with h | h
      · exact .inl h
      · exact .inr (List.mem_append_right _ h)
    · exact .inr (List.mem_append_left _ h)⟩
theorem enumL_at : ∀ {l : List D} {k i : Nat}, (enumL k l)[i]? = l[i]?.map fun d => D.tup [.int ((k + i : Nat) : Int), d]
  | [], _, _ => by simp [enumL]
  | d :: l, k, 0 => by simp [enumL]
  | d :: l, k, i + 1 => by
    simp only [enumL, List.getElem?_cons_succ]
    rw [enumL_at, show k + 1 + i = k + (i + 1) by omega]
theorem enumL_len : ∀ {l : List D} {k : Nat}, (enumL k l).length = l.length
  | [], _ => rfl
  | _ :: _, _ => congrArg (· + 1) enumL_len
theorem wk_enum {l : List D} {vs : List V} {o : Fl} {ds : List D} {a : Addr} (hl : l.length = vs.length) (hh : Holds κ A' (.lst o ds) a vs) : Wk κ A' (Ite κ.K a) (enumL 0 l) (fun i => vs.drop i) (fun i => l.drop i) := by
  have w := walk_enum (K := κ.K) (a := a) (xs := vs)
  refine ⟨fun i => by simp [hl], fun hi R => w.goes _ _ (by rw [enumL_len, hl] at hi; exact hi) (hh R).list, fun R => by rw [enumL_len, hl]; exact w.stops _ (hh R).list, fun {i as σ ts H s tds x H'} hi R y => ?_⟩
  rw [enumL_len] at hi
  obtain ⟨T, x1, x2, rfl, hT, rfl, h1, h2⟩ := w.yields i H x H' (by rw [← hl]; exact hi) (hh R).list y
  cases h1
  have hd : l[i]? = some l[i] := List.getElem?_eq_getElem hi
  refine ⟨.tup [.int (i : Nat), l[i]], by rw [enumL_at, hd]; simp, ?_⟩
  have R : KRel κ A'.nf as σ (vs.drop i ++ ts) H s (l.drop i ++ tds) := R
  rw [drop_at h2, drop_at hd] at R
  have R2 : KRel κ A'.nf as σ (.int (i : Nat) :: x2 :: (vs.drop (i + 1) ++ ts)) H s (.int (i : Nat) :: l[i] :: (l.drop (i + 1) ++ tds)) := Rel.scal R fun g _ => .int fun _ => rfl
  exact Rel.alloc_tup (vs := [.int (i : Nat), x2]) (ds := [.int (i : Nat), l[i]]) rfl R2 hT
theorem zip2_len : ∀ {xs ys : List D}, (zip2 xs ys).length = min xs.length ys.length
  | [], ys => by simp [zip2]
  | _ :: _, [] => by simp [zip2]
  | x :: xs, y :: ys => by simp [zip2, zip2_len (xs := xs) (ys := ys)]
theorem zip2_at : ∀ {xs ys : List D} {i : Nat} {x y : D}, xs[i]? = some x → ys[i]? = some y → (zip2 xs ys)[i]? = some (.tup [x, y])
  | [], _, _, _, _, h, _ => by simp at h
  | _ :: _, [], _, _, _, _, h => by simp at h
  | x :: xs, y :: ys, 0, _, _, h1, h2 => by simp at h1 h2; simp [zip2, h1, h2]
  | x :: xs, y :: ys, i + 1, _, _, h1, h2 => by simp only [zip2, List.getElem?_cons_succ] at *; exact zip2_at h1 h2
theorem wk_zip {xs ys : List D} {vs ws : List V} {o q : Fl} {ds es : List D} {a b : Addr} (h1 : xs.length = vs.length) (h2 : ys.length = ws.length) (hh : Holds κ A' (.lst o ds) a vs) (hg : Holds κ A' (.lst q es) b ws) :
    Wk κ A' (Itz κ.K a b) (zip2 xs ys) (fun i => vs.drop i ++ ws.drop i) (fun i => xs.drop i ++ ys.drop i) := by
  have w := walk_zip (K := κ.K) (a := a) (b := b) (xs := vs) (ys := ws) rfl
  have hl : (zip2 xs ys).length = min vs.length ws.length := by rw [zip2_len, h1, h2]
  refine ⟨fun i => by simp [h1, h2], fun hi R => w.goes _ _ (by rw [hl] at hi; exact hi) ⟨(hh R).list, (hg R).list⟩, fun R => by rw [hl]; exact w.stops _ ⟨(hh R).list, (hg R).list⟩, fun {i as σ ts H s tds x H'} hi R y => ?_⟩
  rw [hl] at hi
  obtain ⟨T, x1, x2, rfl, hT, rfl, e1, e2⟩ := w.yields i H x H' hi ⟨(hh R).list, (hg R).list⟩ y
  have hi1 : i < xs.length := by omega
  have hi2 : i < ys.length := by omega
  have hd : xs[i]? = some xs[i] := List.getElem?_eq_getElem hi1
  have he : ys[i]? = some ys[i] := List.getElem?_eq_getElem hi2
  refine ⟨.tup [xs[i], ys[i]], zip2_at hd he, ?_⟩
  have R : KRel κ A'.nf as σ ((vs.drop i ++ ws.drop i) ++ ts) H s ((xs.drop i ++ ys.drop i) ++ tds) := R
  rw [drop_at e1, drop_at e2, drop_at hd, drop_at he] at R
  have R2 : KRel κ A'.nf as σ ((x1 :: vs.drop (i + 1)) ++ (x2 :: (ws.drop (i + 1) ++ ts))) H s ((xs[i] :: xs.drop (i + 1)) ++ (ys[i] :: (ys.drop (i + 1) ++ tds))) := by
    simp only [List.append_assoc, List.cons_append] at R ⊢
    exact R
  have R3 := Rel.rot (d := ys[i]) (v := x2) (ds₁ := xs[i] :: xs.drop (i + 1)) (vs₁ := x1 :: vs.drop (i + 1)) (by simp only [List.length_cons, List.length_drop, h1]) R2
  have R4 : KRel κ A'.nf as σ ([x2] ++ (x1 :: (vs.drop (i + 1) ++ (ws.drop (i + 1) ++ ts)))) H s ([ys[i]] ++ (xs[i] :: (xs.drop (i + 1) ++ (ys.drop (i + 1) ++ tds)))) := R3
  have R5 := Rel.rot (d := xs[i]) (v := x1) (ds₁ := [ys[i]]) (vs₁ := [x2]) rfl R4
  have R6 : KRel κ A'.nf as σ ([x1, x2] ++ ((vs.drop (i + 1) ++ ws.drop (i + 1)) ++ ts)) H s ([xs[i], ys[i]] ++ ((xs.drop (i + 1) ++ ys.drop (i + 1)) ++ tds)) := by
    have R5 : KRel κ A'.nf as σ (x1 :: x2 :: (vs.drop (i + 1) ++ (ws.drop (i + 1) ++ ts))) H s (xs[i] :: ys[i] :: (xs.drop (i + 1) ++ (ys.drop (i + 1) ++ tds))) := R5
    simp only [List.append_assoc, List.cons_append, List.nil_append] at R5 ⊢
    exact R5
  exact Rel.alloc_tup (vs := [x1, x2]) (ds := [xs[i], ys[i]]) rfl R6 hT
theorem walkedL_ok {t : Tm} {v : V} {it : Items} (R : KTms κ A as σ ts H s tds [] [] [(t, v)]) (e : walkedL t s = .ok it s') : ∃ l lk A' a vs o ds, it = .ds l lk ∧ v = .ref a ∧ l.length = vs.length ∧ KRel κ A' as σ (vs ++ ts) H s' (l ++ tds) ∧ Back κ A' A lk ∧ Why κ A' (.lst o ds) a vs ∧ Grow A A' := by
  simp only [walkedL, ok_bind] at e
  obtain ⟨d, s1, ed, e⟩ := e
  obtain rfl := deref_same ed
  cases d with
  | lst o ds =>
    obtain ⟨l, lk, A', a, vs, d0, h1, ed', h3, h4, P, -, B, -, wy, g⟩ := walked_ok R e
    rw [ed] at ed'
    cases ed'
    exact ⟨l, lk, A', a, vs, o, ds, h1, h3, h4, P, B, wy, g⟩
  | _ => cases e
theorem NoEx.walkedL {t : Tm} : NoEx (VS.walkedL t) := .bind .deref fun d => by cases d <;> first | exact NoEx.walked | exact NoEx.fail
end
section
variable {κ : Kit} {X : Cx} {W : WX} {ev : CE → M Tm} {e e2 : Expr} {c c2 : CE} {tg : Expr}
theorem evalL1 {s : Sx} : evalL ev [c] s = match ev c s with | .ok t s1 => .ok [t] s1 | .exc k ps s1 => .exc k ps s1 | .fail => .fail := by
  show ((ev c).bind fun t => (stays t []).bind fun _ => (pure [t] : M (List Tm))) s = _
  cases e1 : ev c s with
  | fail => exact bind_fail_of e1
  | exc k ps s1 => exact ex_bind'.mpr (.inl e1)
  | ok t s1 =>
    rw [show ((ev c).bind _) s = _ from bind_ok_of e1]
    have : stays t [] = (pure () : M Unit) := by unfold stays; simp [quietL, need]
    rw [this]; rfl
theorem src_enum {mv : Bool} {elts : List Expr} {kk : Nat} {tpos p pos : Pos} (hK : X.K = κ.K) (hg : Gl X "enumerate") (hm : X.mg "enumerate" = none) (ha : SAs κ X W ev [e] [c]) : PI X (.Tuple elts kk tpos) (.Call (.Name "enumerate" p) [e] [] pos) (tI κ W (srcItems ev mv (.enum c))) := by
  have hs : starEach [e] X.env = [(false, eval e X.env)] := by cases ha with | cons _ h _ => exact h
  refine (pi_enum hg hm ha.pa hs).mono fun σ H R h => ?_
  have h : tI κ W ((ev c).bind fun t => (walkedL t).bind fun it => match it with | .ds l lk => (pure (.ds (enumL 0 l) lk) : M Items) | _ => VS.fail) σ H R := h
  have h2 : tI κ W ((evalL ev [c]).bind fun ts => match ts with | [t] => (walkedL t).bind fun it => (match it with | .ds l lk => (pure (.ds (enumL 0 l) lk) : M Items) | _ => VS.fail) | _ => VS.fail) σ H R := by
    obtain ⟨A, as, ts, tds, s, R0, h⟩ := h
    refine ⟨A, as, ts, tds, s, R0, ?_⟩
    have e0 := evalL1 (ev := ev) (c := c) (s := s)
    cases e1 : ev c s with
    | fail => rw [e1] at e0; rw [show ((evalL ev [c]).bind _) s = _ from bind_fail_of e0]; rw [show ((ev c).bind _) s = _ from bind_fail_of e1] at h; exact h
    | exc k ps s1 => rw [e1] at e0; rw [show ((evalL ev [c]).bind _) s = .exc k ps s1 from ex_bind'.mpr (.inl e0)]; rw [show ((ev c).bind _) s = .exc k ps s1 from ex_bind'.mpr (.inl e1)] at h; exact h
    | ok t s1 => rw [e1] at e0; rw [show ((evalL ev [c]).bind _) s = _ from bind_ok_of e0]; rw [show ((ev c).bind _) s = _ from bind_ok_of e1] at h; exact h
  show tLs κ W ev [c] σ H fun vs H1 => ∃ a xs, vs = [.ref a] ∧ SqL X.K H1 a xs ∧ R (Ite X.K a) H1
  rw [hK]
  refine tLs_items h2 fun {A as as1 ts tds tms s1 vs H1} hl hl2 hA Rt h => ?_
  match tms, vs, hl, hl2, Rt, h with
  | [t], [v], _, _, Rt, h =>
    have h : RunI κ A σ ts tds as W R (((walkedL t).bind fun it => match it with | .ds l lk => (pure (.ds (enumL 0 l) lk) : M Items) | _ => VS.fail) s1) := h
    cases ew : walkedL t s1 with
    | fail => rw [show ((walkedL t).bind _) s1 = _ from bind_fail_of ew] at h; exact h.elim
    | exc k ps s3 => exact (NoEx.walkedL _ _ _ _ ew).elim
    | ok it s3 =>
      rw [show ((walkedL t).bind _) s1 = _ from bind_ok_of ew] at h
      obtain ⟨l, lk, A', a, vs, o, ds, rfl, rfl, hl, P, B, wy, g⟩ := walkedL_ok Rt ew
      exact ⟨a, vs, rfl, (wy.holds (Rel.nf P)).list, h A' as1 H1 _ _ _ (wk_enum hl wy.holds) hA P B⟩
  | [], _, _, hl2, _, _ => simp at hl2
  | _ :: _ :: _, _, _, hl2, _, _ => simp at hl2
theorem src_zip {mv : Bool} {elts : List Expr} {kk : Nat} {tpos p pos : Pos} (hK : X.K = κ.K) (hg : Gl X "zip") (hm : X.mg "zip" = none) (ha : SAs κ X W ev [e, e2] [c, c2]) : PI X (.Tuple elts kk tpos) (.Call (.Name "zip" p) [e, e2] [] pos) (tI κ W (srcItems ev mv (.zip [c, c2]))) := by
  have hs : starEach [e, e2] X.env = (false, eval e X.env) :: starEach [e2] X.env := by
    cases ha with | cons _ h r => exact h
  have hs2 : (backTo pos (starEach [e2] X.env)).any (·.1) = false := by cases ha with | cons _ h r => cases r with | cons _ h2 _ => rw [h2]; rfl
  refine (pi_zip hg hm ha.pa hs hs2).mono fun σ H R h => ?_
  have h : tI κ W ((evalL ev [c, c2]).bind fun ts => match ts with
    | [t1, t2] => (walkedL t2).bind fun y => (walkedL t1).bind fun x => (match x, y with | .ds xs k1, .ds ys k2 => (pure (.ds (zip2 xs ys) (k1 ++ k2)) : M Items) | _, _ => VS.fail)
    | _ => VS.fail) σ H R := h
  show tLs κ W ev [c, c2] σ H fun vs H1 => ∃ a b xs ys, vs = [.ref a, .ref b] ∧ SqL X.K H1 a xs ∧ SqL X.K H1 b ys ∧ R (Itz X.K a b) H1
  rw [hK]
  refine tLs_items h fun {A as as1 ts tds tms s1 vs H1} hl hl2 hA Rt h => ?_
  match tms, vs, hl, hl2, Rt, h with
  | [t1, t2], [v1, v2], _, _, Rt, h =>
    have h : RunI κ A σ ts tds as W R (((walkedL t2).bind fun y => (walkedL t1).bind fun x => match x, y with | .ds xs k1, .ds ys k2 => (pure (.ds (zip2 xs ys) (k1 ++ k2)) : M Items) | _, _ => VS.fail) s1) := h
    have Rt : KTms κ A as1 σ ts H1 s1 tds [] [] [(t2, v2), (t1, v1)] := Rt
    cases ew : walkedL t2 s1 with
    | fail => rw [show ((walkedL t2).bind _) s1 = _ from bind_fail_of ew] at h; exact h.elim
    | exc k ps s3 => exact (NoEx.walkedL _ _ _ _ ew).elim
    | ok y s3 =>
      rw [show ((walkedL t2).bind _) s1 = _ from bind_ok_of ew] at h
      have hat : ∀ p v, (Tm.at p, v) ∈ [(t1, v1)] → AtP as1 σ H1 p v := fun p v hm => Rt.2.2 p v (List.mem_cons_of_mem _ hm)
      have R2 : KTms κ A as1 σ (sV [(t1, v1)] ++ ts) H1 s1 (sD [(t1, v1)] ++ tds) [] [] [(t2, v2)] := by
        refine ⟨rfl, ?_, fun p v hm => Rt.2.2 p v (by rcases List.mem_singleton.mp hm with h; rw [h]; simp)⟩
        have := Rt.2.1
        cases t2 <;> simpa [sV, sD] using this
      obtain ⟨l2, k2, A1, b, vs2, o2, ds2, rfl, rfl, hl2, P2, B2, wy2, g2⟩ := walkedL_ok R2 ew
      have hlen : (sD [(t1, v1)]).length = (sV [(t1, v1)]).length := by cases t1 <;> rfl
      have P3 := Rel.swapB hl2 hlen P2
      have R3 : KTms κ A1 as1 σ (vs2 ++ ts) H1 s3 (l2 ++ tds) [] [] [(t1, v1)] := ⟨rfl, P3, hat⟩
      have h : RunI κ A σ ts tds as W R (((walkedL t1).bind fun x => match x, (Items.ds l2 k2) with | .ds xs k1, .ds ys k2 => (pure (.ds (zip2 xs ys) (k1 ++ k2)) : M Items) | _, _ => VS.fail) s3) := h
      cases ew1 : walkedL t1 s3 with
      | fail => rw [show ((walkedL t1).bind _) s3 = _ from bind_fail_of ew1] at h; exact h.elim
      | exc k ps s4 => exact (NoEx.walkedL _ _ _ _ ew1).elim
      | ok x s4 =>
        rw [show ((walkedL t1).bind _) s3 = _ from bind_ok_of ew1] at h
        obtain ⟨l1, k1, A2, a, vs1, o1, ds1, rfl, rfl, hl1, P4, B1, wy1, g1⟩ := walkedL_ok R3 ew1
        have w2 := wy2.grow g1
        have P5 : KRel κ A2 as1 σ ((vs1 ++ vs2) ++ ts) H1 s4 ((l1 ++ l2) ++ tds) := by simpa [List.append_assoc] using P4
        exact ⟨a, b, vs1, vs2, rfl, (wy1.holds (Rel.nf P4)).list, (w2.holds (Rel.nf P4)).list, h A2 as1 H1 _ _ _ (wk_zip hl1 hl2 wy1.holds w2.holds) hA P5 (B1.trans B2)⟩
  | [], _, _, hl2, _, _ => simp at hl2
  | [_], _, _, hl2, _, _ => simp at hl2
  | _ :: _ :: _ :: _, _, _, hl2, _, _ => simp at hl2
end
end VS
/-! Methods that change nothing. -/
namespace VS
open PySem L2
section
variable {κ : Kit} {X : Cx} {W : WX} {ev : CE → M Tm} {P : Prog} {cf : Nat → List D → M (D × List D)} {a c : Expr} {ca cb cc : CE} {pos : Pos}
/-- a method's call, asked of some things -/
def bmP (ev : CE → M Tm) (ok : D → Bool) (b : Bm) (co : CE) (es : List CE) : M Tm := (ev co).bind fun t => (deref t).bind fun d => (need (ok d)).bind fun _ => (stays t es).bind fun _ => (evalL ev es).bind fun ts => bmT b t ts
theorem bm_split {b : Bm} {co : CE} {es : List CE} {q : Bool} {σ : St} {H : Hp} {Q : VK} (ok : D → Bool) (h : tE κ W q (step P ev cf (.bm b co es)) σ H Q) :
    tE κ W q (bmP ev (fun d => bmOk b d && ok d) b co es) σ H Q ∨ tE κ W q (bmP ev (fun d => bmOk b d && !ok d) b co es) σ H Q := by
  have h : tE κ W q (bmP ev (bmOk b) b co es) σ H Q := h
  obtain ⟨A, as, ts, tds, s, R, h⟩ := h
  unfold bmP at h
  cases e1 : ev co s with
  | fail => rw [show ((ev co).bind _) s = _ from bind_fail_of e1] at h; exact h.elim
  | exc k ps s1 =>
    rw [show ((ev co).bind _) s = .exc k ps s1 from ex_bind'.mpr (.inl e1)] at h
    refine .inl ⟨A, as, ts, tds, s, R, ?_⟩
    unfold bmP
    rw [show ((ev co).bind _) s = .exc k ps s1 from ex_bind'.mpr (.inl e1)]; exact h
  | ok t s1 =>
    rw [show ((ev co).bind _) s = _ from bind_ok_of e1] at h
    cases e2 : deref t s1 with
    | fail => rw [show ((deref t).bind _) s1 = _ from bind_fail_of e2] at h; exact h.elim
    | exc k ps s2 => exact (ex_deref.mp e2).elim
    | ok d s2 =>
      rw [show ((deref t).bind _) s1 = _ from bind_ok_of e2] at h
      have go : ∀ p : D → Bool, p d = true → tE κ W q (bmP ev (fun d => bmOk b d && p d) b co es) σ H Q := fun p hp => by
        refine ⟨A, as, ts, tds, s, R, ?_⟩
        unfold bmP
        rw [show ((ev co).bind _) s = _ from bind_ok_of e1, show ((deref t).bind _) s1 = _ from bind_ok_of e2]
        have e : (bmOk b d && p d) = bmOk b d := by rw [hp, Bool.and_true]
        show RunE κ A σ ts tds H as q W Q (((need (bmOk b d && p d)).bind fun _ => (stays t es).bind fun _ => (evalL ev es).bind fun ts => bmT b t ts) s2)
        rw [e]; exact h
      cases hk : ok d with
      | true => exact .inl (go ok hk)
      | false => exact .inr (go (fun d => !ok d) (by rw [hk]; rfl))
theorem methP {ok : D → Bool} {b : Bm} {co : CE} {es : List CE} {q : Bool} {σ : St} {H : Hp} {Q : VK} {T : String} {r : V → List V → Hp → VK → Prop} (h : tE κ W q (bmP ev ok b co es) σ H Q)
    (ht : ∀ {as d v H1}, Vw κ.K as H1 d v → ok d = true → tyV κ.K T v H1)
    (hk : ∀ {A as as1 as2 ts tds t tms s1 v vs H1 H2 s0 d}, deref t s0 = .ok d s0 → Vw κ.K as1 H1 d v → ok d = true → tms.length = vs.length → tms.length = es.length → as <+: as1 → as1 <+: as2 → (quiet co = true → Ext H H1) → (quietL es = true → Ext H1 H2) → KTms κ A as2 σ ts H2 s1 tds [] [] (rz tms vs [(t, v)]) → RunE κ A σ ts tds H as q W Q (bmT b t tms s1) → r v vs H2 Q) :
    tBM κ.K T r (tE κ W (quiet co) (ev co)) (tLs κ W ev es) σ H Q := by
  refine oneT h fun {A as as1 ts tds t s1 v H1} hA hx R h => ?_
  obtain ⟨d, ed, w, h⟩ := derefB (m := VS.fail) R (t := t) (v := v) (by simp) h
  obtain ⟨hb, h⟩ := needB h
  obtain ⟨hs, h⟩ := staysB h
  refine ⟨ht w hb, tLs_hold R (fun t' v' hm => by simp at hm; rw [hm.1]; exact hs) h fun {tms s2 vs H2 as2} hl hl2 hA2 hx2 R2 h => ?_⟩
  exact hk ed w hb hl hl2 hA hA2 hx hx2 R2 h
def isStr : D → Bool
  | .str _ => true
  | _ => false
theorem isStr_ok {d : D} (h : isStr d = true) : ∃ x, d = .str x := by cases d <;> first | exact ⟨_, rfl⟩ | cases h
def isLst : D → Bool
  | .lst _ _ => true
  | _ => false
theorem isLst_ok {d : D} (h : isLst d = true) : ∃ o x, d = .lst o x := by cases d <;> first | exact ⟨_, _, rfl⟩ | cases h
/-- methods of texts that are used -/
def strM : Bm → Bool
  | .join => true | .index => true | .find => true | .count => true | .endswith => true | .isdigit => true | .split => true | .partition => true
  | _ => false
/-- what a text's method does, by values -/
theorem strBm_run {b : Bm} {t : Tm} {tms : List Tm} {vs : List V} {x : Str} {A : Act} {σ : St} {ts : List V} {tds : List D} {as as0 : List Addr} {H H0 : Hp} {s : Sx} {q : Bool} {Q : VK} (hb : strM b = true) (hl : tms.length = vs.length) (R : KTms κ A as σ ts H s tds [] [] (rz tms vs [(t, .str x)]))
    (h : RunE κ A σ ts tds H0 as0 q W Q (bmT b t tms s)) : ∃ ds r, Vws κ.K as H ds vs ∧ strBm b x ds = some r ∧ RunE κ A σ ts tds H0 as0 q W Q (.ok (.val r) s) := by
  cases ed : deref t s with
  | fail => rw [show bmT b t tms s = _ from bind_fail_of ed] at h; exact h.elim
  | exc k ps s1 => exact (ex_deref.mp ed).elim
  | ok d s1 =>
    obtain ⟨rfl, w⟩ := TmsR.view (K := κ.K) (T := κ.T) R (rz_mem (.inl (List.mem_singleton.mpr rfl))) ed
    rw [show bmT b t tms s1 = _ from bind_ok_of ed] at h
    cases w with
    | str =>
      have h1 : RunE κ A σ ts tds H0 as0 q W Q (((derefL tms).bind fun ds => (opt (strBm b x ds)).bind fun r => (pure (.val r) : M Tm)) s1) := h
      clear h
      cases e1 : derefL tms s1 with
      | fail => rw [show ((derefL tms).bind _) s1 = _ from bind_fail_of e1] at h1; exact h1.elim
      | exc k ps s2 => exact (NoEx.derefL _ _ _ _ e1).elim
      | ok ds s2 =>
        rw [show ((derefL tms).bind _) s1 = _ from bind_ok_of e1] at h1
        obtain ⟨rfl, ws⟩ := KTms.derefL R hl e1
        have h2 : RunE κ A σ ts tds H0 as0 q W Q (((opt (strBm b x ds)).bind fun r => (pure (.val r) : M Tm)) s2) := h1
        cases e2 : strBm b x ds with
        | none => rw [e2] at h2; exact h2.elim
        | some r => rw [e2] at h2; exact ⟨ds, r, ws, e2, h2⟩
    | gone =>
      exfalso
      match b, tms, hb with
      | .join, _, _ => exact h
      | .find, _, _ => exact h
      | .endswith, _, _ => exact h
      | .isdigit, _, _ => exact h
      | .split, _, _ => exact h
      | .partition, _, _ => exact h
      | .index, [], _ => exact h
      | .index, [u], _ =>
        have h : RunE κ A σ ts tds H0 as0 q W Q (((deref u).bind fun x => (opt (indexD .gone x)).bind fun j => (pure (.val (.int ((j : Nat) : Int))) : M Tm)) s1) := h
        cases e1 : deref u s1 with
        | fail => rw [show ((deref u).bind _) s1 = _ from bind_fail_of e1] at h; exact h
        | exc k ps s2 => exact (ex_deref.mp e1).elim
        | ok x s2 => rw [show ((deref u).bind _) s1 = _ from bind_ok_of e1] at h; exact h
      | .index, _ :: _ :: _, _ => exact h
      | .count, [], _ => exact h
      | .count, [u], _ =>
        have h : RunE κ A σ ts tds H0 as0 q W Q (((deref u).bind fun x => (opt (countI .gone x)).bind fun j => (pure (.val (.int ((j : Nat) : Int))) : M Tm)) s1) := h
        cases e1 : deref u s1 with
        | fail => rw [show ((deref u).bind _) s1 = _ from bind_fail_of e1] at h; exact h
        | exc k ps s2 => exact (ex_deref.mp e1).elim
        | ok x s2 => rw [show ((deref u).bind _) s1 = _ from bind_ok_of e1] at h; exact h
      | .count, _ :: _ :: _, _ => exact h
theorem tyStr {as : List Addr} {H : Hp} {d : D} {v : V} (w : Vw κ.K as H d v) (h : isStr d = true) : tyV κ.K "str" v H := by
  obtain ⟨x, rfl⟩ := isStr_ok h
  cases w; rfl
/-- a text's method with an argument, of a flat value -/
theorem snd_str1 {b : Bm} {name : Str} {id : String} {r : V → List V → Hp → VK → Prop} {apos : Pos} {q : Bool} (slot : PySem.Slot "str" name id) (hty : typeOf (.builtin id) = pure (.type "method_descriptor")) (hm : MtR X id r) (hb : strM b = true)
    (hr : ∀ {as : List Addr} {H : Hp} {x : Str} {d : D} {v : V} {res : D} {Q : VK}, Vw κ.K as H d v → strBm b x [d] = some res → (∀ w, Scal res w → Q w H) → r (.str x) [v] H Q)
    (hq : ∀ {H H1 H2 : Hp}, q = true → (quiet ca = true → Ext H H1) → (quietL [cb] = true → Ext H1 H2) → Ext H H2) (hK : X.K = κ.K) (ho : SE κ X W a ev ca) (he : SAs κ X W ev [c] [cb]) (hbase : attributeBase a name X.env (eval a X.env) = eval a X.env) (hline : (apos.endLine == pos.line) = true) :
    PE X (.Call (.Attribute a name apos) [c] [] pos) (tE κ W q (bmP ev (fun d => bmOk b d && isStr d) b ca [cb])) := by
  have hs : starEach [c] X.env = (false, eval c X.env) :: starEach [] X.env := by cases he with | cons _ h _ => exact h
  refine (pe_bm PySem.F.plainAttrs_str slot hty hm ho.pe he.pa hbase (by rw [hs]; rfl) hline hs rfl).mono fun σ H Q h => ?_
  rw [hK]
  refine methP h (fun {as d v H1} w hb => tyStr w (andq hb).2) fun {A as as1 as2 ts tds t tms s1 v vs H1 H2 s0 d} ed w hok hl hl2 hA hA2 hx hx2 R h => ?_
  obtain ⟨x, rfl⟩ := isStr_ok (andq hok).2
  cases w
  match tms, vs, hl, hl2, R, h with
  | [u], [w], hl, _, R, h =>
    obtain ⟨ds, r1, ws, e, k⟩ := strBm_run hb hl R h
    cases ws with
    | cons wd wr =>
      cases wr
      exact hr wd e fun w' hw => k w' H2 as2 (hA.trans hA2) (fun z => hq z hx hx2) ⟨rfl, Rel.scal R.dropAll fun g _ => hw _ g _, fun p v hm => by simp at hm⟩
theorem seq_strs {K : PySem.W.Frag} {as : List Addr} {H : Hp} {d : D} {v : V} {ys : List Str} (w : Vw K as H d v) (e : (seqD d).bind strsD = some ys) : ∃ p, v = .ref p ∧ (SqL K H p (ys.map V.str) ∨ SqT K H p (ys.map V.str)) := by
  cases w with
  | lst q t ws =>
    have e : strsD _ = some ys := e
    exact ⟨_, rfl, .inl (by rw [← ws.strs e]; exact q)⟩
  | tup q ws =>
    have e : strsD _ = some ys := e
    exact ⟨_, rfl, .inr (by rw [← ws.strs e]; exact sqT_of q)⟩
  | _ => cases e
theorem sum_len (x : Str) : ∀ ys : List Str, (ys.map (fun y => y.length + x.length)).sum = (ys.map (·.length)).sum + ys.length * x.length
  | [] => by simp
  | y :: ys => by simp only [List.map_cons, List.sum_cons, List.length_cons, sum_len x ys, Nat.add_mul]; omega
theorem snd_join {apos : Pos} (hK : X.K = κ.K) (ho : SE κ X W a ev ca) (he : SAs κ X W ev [c] [cb]) (hbase : attributeBase a "join" X.env (eval a X.env) = eval a X.env) (hline : (apos.endLine == pos.line) = true) :
    PE X (.Call (.Attribute a "join" apos) [c] [] pos) (tE κ W (quiet (.bm .join ca [cb])) (step P ev cf (.bm .join ca [cb]))) := by
  refine (snd_str1 (b := .join) PySem.F.slot_str_join PySem.F.type_str_join mt_join rfl (fun {as H x d v res Q} w e k => ?_) (fun z h1 h2 => (h1 (andq z).1).trans (h2 (andq z).2)) hK ho he hbase hline).mono fun σ H Q h => ?_
  · have e : (match (seqD d).bind strsD with
      | some ys => if (ys.map (fun y => y.length + x.length)).sum ≤ 16777216 then some (D.str (Txt.join x ys)) else none
      | none => none) = some res := e
    cases e2 : (seqD d).bind strsD with
    | none => rw [e2] at e; cases e
    | some ys =>
      rw [e2] at e
      have e : (if (ys.map (fun y => y.length + x.length)).sum ≤ 16777216 then some (D.str (Txt.join x ys)) else none) = some res := e
      split at e
      · rename_i hz
        cases e
        obtain ⟨p, rfl, hs⟩ := seq_strs w e2
        rw [hK]
        exact ⟨x, p, ys, rfl, rfl, hs, by rw [← sum_len]; exact hz, k _ (scal_str _)⟩
      · cases e
  · rcases bm_split isStr h with h | h
    · exact h
    · obtain ⟨A, as, ts, tds, s, R, h⟩ := h
      refine ⟨A, as, ts, tds, s, R, ?_⟩
      unfold bmP at h ⊢
      cases e1 : ev ca s with
      | fail => rw [show ((ev ca).bind _) s = _ from bind_fail_of e1] at h; exact h.elim
      | exc k ps s1 =>
        rw [show ((ev ca).bind _) s = .exc k ps s1 from ex_bind'.mpr (.inl e1)] at h ⊢; exact h
      | ok t s1 =>
        rw [show ((ev ca).bind _) s = _ from bind_ok_of e1] at h
        cases e2 : deref t s1 with
        | fail => rw [show ((deref t).bind _) s1 = _ from bind_fail_of e2] at h; exact h.elim
        | exc k ps s2 => exact (ex_deref.mp e2).elim
        | ok d s2 =>
          rw [show ((deref t).bind _) s1 = _ from bind_ok_of e2] at h
          cases d <;> exact h.elim
theorem tyLst {as : List Addr} {H : Hp} {d : D} {v : V} (w : Vw κ.K as H d v) (h : isLst d = true) : tyV κ.K "list" v H := by
  obtain ⟨o, x, rfl⟩ := isLst_ok h
  exact tyList w
/-- what a list's index or count does -/
theorem lstBm_run {b : Bm} {f : D → D → Option Nat} {t u : Tm} {v w : V} {A : Act} {σ : St} {ts : List V} {tds : List D} {as as0 : List Addr} {H H0 : Hp} {s : Sx} {q : Bool} {Q : VK} (hb : (b = .index ∧ f = indexD) ∨ (b = .count ∧ f = countI)) (R : KTms κ A as σ ts H s tds [] [] [(u, w), (t, v)]) (hv : ∃ p, v = .ref p)
    (h : RunE κ A σ ts tds H0 as0 q W Q (bmT b t [u] s)) : ∃ d x j, Vw κ.K as H d v ∧ Vw κ.K as H x w ∧ f d x = some j ∧ RunE κ A σ ts tds H0 as0 q W Q (.ok (.val (.int ((j : Nat) : Int))) s) := by
  cases ed : deref t s with
  | fail => rw [show bmT b t [u] s = _ from bind_fail_of ed] at h; exact h.elim
  | exc k ps s1 => exact (ex_deref.mp ed).elim
  | ok d s1 =>
    obtain ⟨rfl, wd⟩ := TmsR.view (K := κ.K) (T := κ.T) R (t := t) (v := v) (by simp) ed
    rw [show bmT b t [u] s1 = _ from bind_ok_of ed] at h
    obtain ⟨p, rfl⟩ := hv
    have h1 : RunE κ A σ ts tds H0 as0 q W Q (((deref u).bind fun x => (opt (f d x)).bind fun j => (pure (.val (.int ((j : Nat) : Int))) : M Tm)) s1) := by
      rcases hb with ⟨rfl, rfl⟩ | ⟨rfl, rfl⟩ <;> (cases d <;> first | exact h | (cases wd; done) | exact h.elim)
    clear h
    cases e1 : deref u s1 with
    | fail => rw [show ((deref u).bind _) s1 = _ from bind_fail_of e1] at h1; exact h1.elim
    | exc k ps s2 => exact (ex_deref.mp e1).elim
    | ok x s2 =>
      obtain ⟨rfl, wx⟩ := TmsR.view (K := κ.K) (T := κ.T) R (t := u) (v := w) (by simp) e1
      rw [show ((deref u).bind _) s2 = _ from bind_ok_of e1] at h1
      cases e2 : f d x with
      | none => rw [e2] at h1; exact h1.elim
      | some j => rw [e2] at h1; exact ⟨d, x, j, wd, wx, e2, h1⟩
theorem snd_lst1 {b : Bm} {f : D → D → Option Nat} {name : Str} {id : String} {r : V → List V → Hp → VK → Prop} {apos : Pos} {q : Bool} (slot : PySem.Slot "list" name id) (hty : typeOf (.builtin id) = pure (.type "method_descriptor")) (hm : MtR X id r) (hb : (b = .index ∧ f = indexD) ∨ (b = .count ∧ f = countI))
    (hr : ∀ {as : List Addr} {H : Hp} {x d : D} {v : V} {p : Addr} {j : Nat} {Q : VK}, Vw κ.K as H x (.ref p) → Vw κ.K as H d v → f x d = some j → Q (.int ((j : Nat) : Int)) H → r (.ref p) [v] H Q)
    (hq : ∀ {H H1 H2 : Hp}, q = true → (quiet ca = true → Ext H H1) → (quietL [cb] = true → Ext H1 H2) → Ext H H2) (hK : X.K = κ.K) (ho : SE κ X W a ev ca) (he : SAs κ X W ev [c] [cb]) (hbase : attributeBase a name X.env (eval a X.env) = eval a X.env) (hline : (apos.endLine == pos.line) = true) :
    PE X (.Call (.Attribute a name apos) [c] [] pos) (tE κ W q (bmP ev (fun d => bmOk b d && !isStr d) b ca [cb])) := by
  have hs : starEach [c] X.env = (false, eval c X.env) :: starEach [] X.env := by cases he with | cons _ h _ => exact h
  refine (pe_bm PySem.F.plainAttrs_list slot hty hm ho.pe he.pa hbase (by rw [hs]; rfl) hline hs rfl).mono fun σ H Q h => ?_
  rw [hK]
  have isL : ∀ {d : D}, (bmOk b d && !isStr d) = true → isLst d = true := fun {d} h => by
    rcases hb with ⟨rfl, _⟩ | ⟨rfl, _⟩ <;> (cases d <;> first | rfl | cases h)
  refine methP h (fun {as d v H1} w hb => tyLst w (isL hb)) fun {A as as1 as2 ts tds t tms s1 v vs H1 H2 s0 d} ed w hok hl hl2 hA hA2 hx hx2 R h => ?_
  obtain ⟨o, x, rfl⟩ := isLst_ok (isL hok)
  match tms, vs, hl, hl2, R, h with
  | [u], [w'], hl, _, R, h =>
    have hv : ∃ p, v = .ref p := by cases w; exact ⟨_, rfl⟩
    obtain ⟨d, x, j, wd, wx, e, k⟩ := lstBm_run hb R hv h
    obtain ⟨p, rfl⟩ := hv
    exact hr wd wx e (k _ H2 as2 (hA.trans hA2) (fun z => hq z hx hx2) ⟨rfl, Rel.scal R.dropAll fun g _ => .int fun _ => rfl, fun p v hm => by simp at hm⟩)
theorem count_ok {as : List Addr} {H : Hp} {x d : D} {v : V} {p : Addr} {j : Nat} {Q : VK} (w : Vw κ.K as H x (.ref p)) (w2 : Vw κ.K as H d v) (e : countI x d = some j) (k : Q (.int ((j : Nat) : Int)) H) : rCntI κ.K (.ref p) [v] H Q := by
  cases x with
  | lst o ds =>
    simp only [countI] at e
    cases w with
    | lst q t ws =>
      cases e2 : intsD ds with
      | none => rw [e2] at e; cases e
      | some ns =>
        rw [e2] at e
        cases d with
        | int z =>
          cases e
          cases w2
          exact ⟨p, ns, z, rfl, rfl, by rw [← ws.ints e2]; exact q, k⟩
        | _ => cases e
  | _ => cases e
theorem index_ok {as : List Addr} {H : Hp} {x d : D} {v : V} {p : Addr} {j : Nat} {Q : VK} (w : Vw κ.K as H x (.ref p)) (w2 : Vw κ.K as H d v) (e : indexD x d = some j) (k : Q (.int ((j : Nat) : Int)) H) : rIndexD κ.K (.ref p) [v] H Q := by
  cases x with
  | lst o ds =>
    have e : (match pdL ds, d.pd with
      | some zs, some z => if SeqAt.shaped (.list zs) && SeqAt.shaped z then zs.findIdx? (fun y => PyData.eqv y z) else none
      | _, _ => none) = some j := e
    cases e2 : pdL ds with
    | none => rw [e2] at e; cases e
    | some zs =>
      cases e3 : d.pd with
      | none => rw [e2, e3] at e; cases e
      | some z =>
        rw [e2, e3] at e
        have e : (if SeqAt.shaped (.list zs) && SeqAt.shaped z then zs.findIdx? (fun y => PyData.eqv y z) else none) = some j := e
        split at e
        · rename_i hz
          obtain ⟨hz1, hz2⟩ := andq hz
          rw [List.findIdx?_eq_some_iff_getElem] at e
          obtain ⟨h1, h2, h3⟩ := e
          exact ⟨p, v, z, zs, j, zs[j], rfl, rfl, Vw.dp w (by simp [D.pd, e2]), Vw.dp w2 e3, hz1, hz2, List.getElem?_eq_getElem h1, h2, fun m z' hm hz' => by
            obtain ⟨hm', rfl⟩ := List.getElem?_eq_some_iff.mp hz'
            have := h3 m hm
            simpa using this, k⟩
        · cases e
  | _ => cases e
theorem snd_count {apos : Pos} (hK : X.K = κ.K) (ho : SE κ X W a ev ca) (he : SAs κ X W ev [c] [cb]) (hbase : attributeBase a "count" X.env (eval a X.env) = eval a X.env) (hline : (apos.endLine == pos.line) = true) :
    PE X (.Call (.Attribute a "count" apos) [c] [] pos) (tE κ W (quiet (.bm .count ca [cb])) (step P ev cf (.bm .count ca [cb]))) := by
  refine PE.mono ((snd_str1 (b := .count) PySem.F.slot_str_count PySem.F.type_str_count mt_count rfl (fun {as H x d v res Q} w e k => ?_) (fun z h1 h2 => (h1 (andq z).1).trans (h2 (andq z).2)) hK ho he hbase hline).or (snd_lst1 (b := .count) (f := countI) PySem.F.slot_list_count PySem.F.type_list_count mt_lcount (.inr ⟨rfl, rfl⟩) (fun {as H x d v p j Q} w w2 e k => by rw [hK]; exact count_ok w w2 e k) (fun z h1 h2 => (h1 (andq z).1).trans (h2 (andq z).2)) hK ho he hbase hline)) fun σ H Q h => bm_split isStr h
  cases d with
  | str y =>
    cases w
    have e : some (D.int (Txt.count x y)) = some res := e
    cases e
    exact ⟨x, y, rfl, rfl, k _ (scal_int _)⟩
  | _ => cases e
theorem snd_index {apos : Pos} (hu : X.A.units + 65 < cLine) (hK : X.K = κ.K) (ho : SE κ X W a ev ca) (he : SAs κ X W ev [c] [cb]) (hbase : attributeBase a "index" X.env (eval a X.env) = eval a X.env) (hline : (apos.endLine == pos.line) = true) :
    PE X (.Call (.Attribute a "index" apos) [c] [] pos) (tE κ W (quiet (.bm .index ca [cb])) (step P ev cf (.bm .index ca [cb]))) := by
  refine PE.mono ((snd_str1 (b := .index) PySem.F.slot_str_index PySem.F.type_str_index mt_sindex rfl (fun {as H x d v res Q} w e k => ?_) (fun z h1 h2 => (h1 (andq z).1).trans (h2 (andq z).2)) hK ho he hbase hline).or (snd_lst1 (b := .index) (f := indexD) PySem.F.slot_list_index PySem.F.type_list_index (mt_indexD hu) (.inl ⟨rfl, rfl⟩) (fun {as H x d v p j Q} w w2 e k => by rw [hK]; exact index_ok w w2 e k) (fun z h1 h2 => (h1 (andq z).1).trans (h2 (andq z).2)) hK ho he hbase hline)) fun σ H Q h => bm_split isStr h
  cases d with
  | str y =>
    cases w
    have e : (match Builtin.Str.occurrences x y 0 x.length 1 with | i :: _ => some (D.int ((i : Nat) : Int)) | [] => none) = some res := e
    cases e2 : Builtin.Str.occurrences x y 0 x.length 1 with
    | nil => rw [e2] at e; cases e
    | cons i rest =>
      rw [e2] at e
      cases e
      exact ⟨x, y, i, rest, rfl, rfl, e2, k _ (scal_int _)⟩
  | _ => cases e
theorem tms_fst {t : Tm} {v : V} {L : List (Tm × V)} {A : Act} {σ : St} {ts : List V} {tds : List D} {as : List Addr} {H : Hp} {s : Sx} (R : KTms κ A as σ ts H s tds [] [] ((t, v) :: L)) : KTms κ A as σ ts H s tds [] [] [(t, v)] := by
  obtain ⟨hl, R0, aP⟩ := R
  cases t with
  | val x =>
    have R3 : KTms κ A as σ ts H s tds [v] [x] L := ⟨rfl, R0, fun p w hm => aP p w (List.mem_cons_of_mem _ hm)⟩
    exact TmsR.one R3.dropAll
  | «at» p =>
    have R3 : KTms κ A as σ ts H s tds [] [] L := ⟨rfl, R0, fun p w hm => aP p w (List.mem_cons_of_mem _ hm)⟩
    exact ⟨rfl, R3.dropAll, fun p' w hm => by
      simp at hm
      obtain ⟨rfl, rfl⟩ := hm
      exact aP p' w List.mem_cons_self⟩
/-- d.get(k, x), d a dict made at run time -/
theorem snd_get2 {apos : Pos} {e f : Expr} {ce cf' : CE} (hu : X.A.units + 1 < cLine) (ho : SE κ X W a ev ca) (hs : SAs κ X W ev [e, f] [ce, cf']) (m : M2 X a "get" apos e f pos) :
    PE X (.Call (.Attribute a "get" apos) [e, f] [] pos) (tE κ W (quiet (.bm .get ca [ce, cf'])) (step P ev cf (.bm .get ca [ce, cf']))) := by
  have he : PE X e (tE κ W (quiet ce) (ev ce)) := by cases hs with | cons h _ _ => exact h.pe
  have hf : PE X f (tE κ W (quiet cf') (ev cf')) := by cases hs with | cons _ _ r => cases r with | cons h _ _ => exact h.pe
  refine (pe_dget2 hu ho.pe he hf m).mono fun σ H Q h => ?_
  have h : tE κ W (quiet ca && quietL [ce, cf']) (bmP ev (bmOk .get) .get ca [ce, cf']) σ H Q := h
  refine oneT h fun {A as as1 ts tds t s1 v H1} hA hx R h => ?_
  obtain ⟨d, ed, w, h⟩ := derefB (m := VS.fail) R (t := t) (v := v) (by simp) h
  obtain ⟨hb, h⟩ := needB h
  obtain ⟨hst, h⟩ := staysB h
  obtain ⟨p, ks, vs, rfl, q⟩ : ∃ p ks vs, v = .ref p ∧ H1 p = some (.dK (List.zip ks vs)) := by
    cases w with
    | dK q hl ws => exact ⟨_, _, _, rfl, q⟩
    | _ => cases hb
  refine ⟨p, rfl, .inl ⟨_, .inl q⟩, ?_⟩
  refine tLs_hold (es := [ce, cf']) (Q' := fun vs H3 => match vs with | [y, z] => ∃ o, DGet H3 p y o ∧ Q (o.getD z) H3 | _ => True) R (fun t' v' hm => by simp at hm; rw [hm.1]; exact hst) h fun {tms s2 vs2 H2 as2} hl hl2 hA2 hx2 R2 h => ?_
  match tms, vs2, hl, hl2 with
  | [tk, tu], [vk, vu], _, _ =>
    have R2 : KTms κ A as2 σ ts H2 s2 tds [] [] [(tu, vu), (tk, vk), (t, .ref p)] := R2
    have hE : (quiet ca && quietL [ce, cf']) = true → Ext H H2 := fun z => (hx (andq z).1).trans (hx2 (andq z).2)
    obtain ⟨d2, ed2, w2, h⟩ := derefB (m := VS.fail) R2 (t := t) (v := .ref p) (by simp) h
    cases w2 with
    | @dK o ks2 ds2 vs2 _ q2 hl2 ws2 =>
      have h : RunE κ A σ ts tds H as (quiet ca && quietL [ce, cf']) W Q ((deref tk >>= fun k => (opt (keyD k)).bind fun k => getT t (.key k) ((findK ks2 k).bind fun j => ds2[j]?) (pure tu)) s2) := h
      obtain ⟨d3, ed3, w3, h⟩ := derefB (m := VS.fail) R2 (t := tk) (v := vk) (by simp) h
      cases hk : keyD d3 with
      | none => rw [hk] at h; exact h.elim
      | some k =>
        rw [hk] at h
        obtain rfl : vk = kV k := by
          cases w3 <;> simp [keyD] at hk <;> (subst hk; rfl)
        have h : RunE κ A σ ts tds H as (quiet ca && quietL [ce, cf']) W Q (getT t (.key k) ((findK ks2 k).bind fun j => ds2[j]?) (pure tu) s2) := h
        have g := DGet.k (k := k) q2
        rw [valV_zip hl2] at g
        cases ek : findK ks2 k with
        | none =>
          rw [ek] at h g
          exact ⟨none, g, h vu H2 as2 (hA.trans hA2) hE (tms_fst R2)⟩
        | some j =>
          rw [ek] at h g
          cases ej : ds2[j]? with
          | none =>
            have := (findK_lt ek).1
            rw [List.getElem?_eq_none_iff, ws2.len] at ej
            omega
          | some d =>
            rw [Option.bind_some, ej] at h
            have h : RunE κ A σ ts tds H as (quiet ca && quietL [ce, cf']) W Q (child t (.key k) d s2) := h
            obtain ⟨t', s', e, kk⟩ := RunE.ok NoEx.child h
            obtain ⟨rfl, a2, vs3, v, e1, q1, q2', q3, R3⟩ := child_okK R2.drop.drop ed2 ek ej e
            cases e1
            rw [q2] at q1
            obtain rfl : vs2 = vs3 := by
              simp only [Option.some.injEq, HO.dK.injEq] at q1
              have := congrArg List.unzip q1
              rw [List.unzip_zip hl2, List.unzip_zip q2'] at this
              simpa using this
            rw [Option.bind_some, q3] at g
            exact ⟨some v, g, kk _ _ _ (hA.trans hA2) hE R3⟩
    | tup q2 ws => exact h.elim
    | lst q2 t2 ws => exact h.elim
    | _ => exact h.elim
end
end VS
/-! a, b = e; while; x += e. -/
namespace VS
open PySem L2
section
variable {κ : Kit} {X : Cx} {W : WX} {ev : CE → M Tm} {ex : List CS → M Flow} {P : Prog} {cf : Nat → List D → M (D × List D)} {fx : List Nat} {wf : Nat}
def tupB : Expr → Bool
  | .Tuple _ _ _ => true
  | _ => false
theorem s_setT {ps : List Pat} {es : List Expr} {k : Nat} {tpos pos : Pos} {e : Expr} {c : CE} (he : SE κ X W e ev c) (hg : PG X (.Tuple es k tpos) (tG κ (.tup ps))) (ht : tupB e = false) (hp : ∀ j ∈ patNames (.tup ps), j ∉ fx) :
    PS X (.Assign [.Tuple es k tpos] e pos) (tS κ W fx (stepS P ev ex wf (.asg (.pat (.tup ps)) c))) := by
  refine (ps_asg he.pe hg ?_ ?_ rfl).mono fun E σ H h => asg_read hp h
  · unfold swapsWithSole
    cases e <;> first | rfl | cases ht
  · cases e <;> first | rfl | cases ht
theorem s_while {c : Expr} {cc : CE} {body : List CS} {st : List Stmt} {pos : Pos} (hpo : PassesOwn (model X.prog X.w) X.A X.env X.xe) (hc : SE κ X W c ev cc) (hb : PSs X st (tS κ W fx (ex body))) :
    PS X (.While c st [] pos) (tS κ W fx (stepS P ev ex wf (.while cc body))) := by
  refine (ps_while hpo hc.pt hb).mono fun E σ H h => ?_
  refine ⟨fun m σ H => tS κ W fx (whileLoop ev ex cc body m) E σ H, ⟨wf, h⟩, ?_⟩
  intro m σ H h
  cases m with
  | zero => obtain ⟨A, as, ts, tds, s, R, hf, h⟩ := h; exact h.elim
  | succ m =>
    have h : tS κ W fx ((evalB ev cc).bind fun b => if b = true then (ex body).bind (fun f => match f with
      | .nx => whileLoop ev ex cc body m
      | .cont => whileLoop ev ex cc body m
      | .brk => (pure .nx : M Flow)
      | .ret r => pure (.ret r)) else (pure .nx : M Flow)) E σ H := h
    refine testS h fun {A as ts tds b s1 H1} hf R h => ?_
    cases b with
    | false => exact h σ H1 _ R
    | true =>
      refine ⟨fun σ' H' => tS κ W fx (whileLoop ev ex cc body m) E σ' H', fun σ' H' z => ⟨m, Nat.lt_succ_self m, z⟩, A, as, ts, tds, s1, R, hf, ?_⟩
      have h : RunS κ A ts tds W E (((ex body).bind fun f => match f with
        | .nx => whileLoop ev ex cc body m
        | .cont => whileLoop ev ex cc body m
        | .brk => (pure .nx : M Flow)
        | .ret r => pure (.ret r)) s1) := h
      cases e1 : ex body s1 with
      | fail => rw [show ((ex body).bind _) s1 = _ from bind_fail_of e1] at h; exact h
      | exc k ps s2 => rw [show ((ex body).bind _) s1 = .exc k ps s2 from ex_bind'.mpr (.inl e1)] at h; exact h
      | ok f s2 =>
        rw [show ((ex body).bind _) s1 = _ from bind_ok_of e1] at h
        cases f with
        | nx => exact fun σ' H' as' R' => ⟨A, as', ts, tds, s2, R', hf, h⟩
        | cont => exact fun σ' H' as' R' => ⟨A, as', ts, tds, s2, R', hf, h⟩
        | brk => exact h
        | ret r => exact h
def augE : Bop → Operator
  | .add => .Add
  | .sub => .Sub
  | _ => .Add
theorem s_augN {i : Nat} {x : Str} {e : Expr} {c : CE} {op : Bop} {pos pos' : Pos} (hN : X.N.Nodup) (hi : X.N[i]? = some x) (hx : Loc X.env.scope x) (he : SE κ X W e ev c) (hf : X.fn x = true ∨ X.env.scope.names.lookup x = some .local) (hfx : i ∉ fx) :
    PS X (.AugAssign (.Name x pos') (augE op) e pos) (tS κ W fx (stepS P ev ex wf (.augN i op c))) := by
  have key : ∀ {f : Int → Int → Int} {ti : TIp}, PIp X (augE op) ti → ti = ipI f → (∀ a b k, augI op a b = some k → k = f a b) → PS X (.AugAssign (.Name x pos') (augE op) e pos) (tS κ W fx (stepS P ev ex wf (.augN i op c))) := fun {f ti} hp ht hk => by
    subst ht
    refine (ps_aug hN hi hx he.pe hp hf).mono fun E σ H h => ?_
    obtain ⟨A, as, ts, tds, s, R, hf, h⟩ := h
    have h : RunS κ A ts tds W E (((getInt i).bind fun a => (evalI ev c).bind fun b => (opt (augI op a b)).bind fun k => (bindP (.name i) (.int k)).bind fun _ => (pure .nx : M Flow)) s) := h
    cases es : s.env[i]? with
    | none =>
      have : getInt i s = .fail := by unfold getInt; rw [es]
      rw [show ((getInt i).bind _) s = _ from bind_fail_of this] at h; exact h.elim
    | some d =>
      cases d with
      | int a =>
        have e0 : getInt i s = .ok a s := by unfold getInt; rw [es]
        rw [show ((getInt i).bind _) s = _ from bind_ok_of e0] at h
        obtain ⟨v, hv⟩ := R.getσ es (by simp)
        have eg : s.getP ⟨.loc i, []⟩ = some (.int a) := by simp [Sx.getP, Sx.getR, es, D.get]
        have w := R.at_vw (p := ⟨.loc i, []⟩) ⟨v, hv, .nil⟩ eg
        cases w
        refine ⟨_, hv, ?_⟩
        have h : tS κ W fx ((ev c).bind fun t => (deref t).bind fun d => (match d with | .int i => (pure i : M Int) | _ => VS.fail).bind fun b => (opt (augI op a b)).bind fun k => (bindP (.name i) (.int k)).bind fun _ => (pure .nx : M Flow)) E σ H := by
          refine ⟨A, as, ts, tds, s, R, hf, ?_⟩
          have e1 : ((evalI ev c).bind fun b => (opt (augI op a b)).bind fun k => (bindP (.name i) (.int k)).bind fun _ => (pure .nx : M Flow)) s = ((ev c).bind fun t => (deref t).bind fun d => (match d with | .int i => (pure i : M Int) | _ => VS.fail).bind fun b => (opt (augI op a b)).bind fun k => (bindP (.name i) (.int k)).bind fun _ => (pure .nx : M Flow)) s := by
            show ((((ev c).bind deref).bind fun d => match d with | .int i => (pure i : M Int) | _ => VS.fail).bind _) s = _
            rw [M.assoc, M.assoc]
          rw [← e1]; exact h
        refine exprS h fun {A as ts tds t s1 v H1} hf R h => ?_
        cases e2 : deref t s1 with
        | fail => rw [show ((deref t).bind _) s1 = _ from bind_fail_of e2] at h; exact h.elim
        | exc k ps s2 => exact (ex_deref.mp e2).elim
        | ok d s2 =>
          obtain rfl := deref_same e2
          rw [show ((deref t).bind _) s2 = _ from bind_ok_of e2] at h
          obtain ⟨-, w⟩ := R.view (t := t) (v := v) (by simp) e2
          cases d with
          | int b =>
            cases w
            have h : RunS κ A ts tds W E (((opt (augI op a b)).bind fun k => (bindP (.name i) (.int k)).bind fun _ => (pure .nx : M Flow)) s2) := h
            cases ek : augI op a b with
            | none => rw [ek] at h; exact h.elim
            | some k =>
              rw [ek] at h
              have h : RunS κ A ts tds W E (((bindP (.name i) (.int k)).bind fun _ => (pure .nx : M Flow)) s2) := h
              have hb : bindP (.name i) (.int k) s2 = (if i < s2.env.length then (Out.ok () { s2 with env := s2.env.set i (.int k) } : Out Unit) else .fail) := rfl
              by_cases hl : i < s2.env.length
              · rw [if_pos hl] at hb
                rw [show ((bindP (.name i) (.int k)).bind _) s2 = _ from bind_ok_of hb] at h
                refine ⟨a, b, rfl, rfl, ?_⟩
                rw [← hk a b k ek]
                refine h (σ.set i (some (.int k))) H1 as ?_
                have R1 : KRel κ A as σ (.int k :: ts) H1 s2 (.int k :: tds) := Rel.scal R.dropAll fun g _ => .int fun _ => rfl
                obtain ⟨fx', Fz, tot, evs, fE, fT, fS, C, S⟩ := R1
                obtain ⟨evs', fE', fT', tot', C', z⟩ := C.store hl
                refine ⟨fun q hq => ?_, Fz, tot', evs', fE', fT', fS, C', S.less z⟩
                have hne : q.1 ≠ i := fun e => hfx (e ▸ hf q hq)
                rw [List.getElem?_set_ne (fun e => hne e.symm)]
                exact fx' q hq
              · rw [if_neg hl] at hb
                rw [show ((bindP (.name i) (.int k)).bind _) s2 = _ from bind_fail_of hb] at h; exact h.elim
          | _ => exact h.elim
      | _ =>
        have : getInt i s = .fail := by unfold getInt; rw [es]
        rw [show ((getInt i).bind _) s = _ from bind_fail_of this] at h; exact h.elim
  cases op with
  | add => exact key ip_add rfl fun a b k h => by cases h; rfl
  | sub => exact key ip_sub rfl fun a b k h => by cases h; rfl
  | _ => exact key ip_add rfl fun a b k h => by cases h
end
end VS
/-! a[l:h] = a new list (l, h literal; l ≤ h; clipped at the end). -/
namespace VS
open PySem PySem.Spec PyProof.Rows L2
section
variable {prog : Program} {w : World} {A : Around} {E : Value → Shared → Prop} {s : Shared}
theorem clip_bounds {a c n : Nat} : sliceBounds (some (a : Int)) (some (c : Int)) none n = (((min a n : Nat) : Int), ((min c n : Nat) : Int), 1) := by
  have h1 : ¬ ((a : Int) < 0) := by omega
  have h2 : ¬ ((c : Int) < 0) := by omega
  simp only [sliceBounds, Option.getD_none, h1, h2, if_false, show (1 : Int) > 0 by decide, if_true]
  congr 1
  · omega
  · congr 1; omega
theorem put_run {l b sl : Addr} {xs ys : Array Value} {n n2 : Nat} {vl vu : Value} {a c : Nat} {Q : Unit → Shared → Prop}
    (e : s.heap.get? l = some { cls := .type "list", data := .seq xs n }) (e2 : s.heap.get? b = some { cls := .type "list", data := .seq ys n2 }) (hne : l ≠ b)
    (hs : s.heap.IsSliceOf sl vl vu .none) (pl : IsPart vl (some (a : Int))) (pu : IsPart vu (some (c : Int))) (hac : a ≤ c) (hz : xs.size + ys.size ≤ sizeLine)
    (h : Q () { s with heap := s.heap.update l (Obj.mapSeq fun zs => zs.extract 0 (min a xs.size) ++ ys ++ zs.extract (min c xs.size) zs.size) }) :
    wpAny (model prog w) A (PySem.setItem (.ref l) (.ref sl) (.ref b)) Q E s := by
  have il : s.heap.IsList l xs := PySem.IsL.isList e
  have ib : s.heap.IsList b ys := PySem.IsL.isList e2
  obtain ⟨o, ho, hc1, hd⟩ := id hs
  have ty : s.TypeIs (.ref sl) "slice" := ⟨o, ho, hc1⟩
  have one0 : ¬ ((rawPart none == rawInt 0) = true) := Bool.false_ne_true
  have diff : Builtin.List.listSameRef (.ref l) (.ref b) = false := beq_eq_false_iff_ne.mpr hne
  have mx : (max ((min a xs.size : Nat) : Int) ((min c xs.size : Nat) : Int)).toNat = min c xs.size := by omega
  have z2 : ((fun zs : Array Value => zs.extract 0 (min a xs.size) ++ ys ++ zs.extract (min c xs.size) zs.size) xs).size ≤ sizeLine + 1 := by
    simp only [Array.size_append, Array.size_extract]
    omega
  unfold PySem.setItem
  refine wpAny_holding ?_
  refine wpAny_bind (wpAny_sequenceKey il.typeIs (by decide) ?_)
  refine wpAny_bind (wpAny_callSpecial?_slot (name := Str.ofString "__setitem__") il.typeIs slot_list_setitem
    (wpAny_call_entry slot_list_setitem il.typeIs entry_list_setitem ?_ (args_list_setitem _ _ _)))
  show wpAny _ _ (Builtin.List.listSubscript? (.ref sl) >>= _) _ _ s
  refine wpAny_bind ?_
  unfold Builtin.List.listSubscript?
  refine wpAny_bind (wpAny_specialOf ty slice_no_index ?_)
  simp only [Option.isNone_none, if_true]
  refine wpAny_pure ?_
  show wpAny _ _ (typeOf (.ref sl) >>= _) _ _ s
  refine wpAny_bind (wpAny_typeOf ty ?_)
  rw [if_neg (by decide), listSliceParts_eq]
  refine wpAny_bind (wpAny_bind (wpAny_field ho hd (x := .none) rfl (wpAny_bind (wpAny_listPart .none ?_))))
  rw [if_neg one0]
  refine wpAny_bind (wpAny_field ho hd (x := vl) rfl (wpAny_bind (wpAny_listPart pl ?_)))
  refine wpAny_bind (wpAny_field ho hd (x := vu) rfl (wpAny_bind (wpAny_listPart pu (wpAny_pure ?_))))
  simp only [diff, Bool.false_eq_true, if_false]
  refine wpAny_bind (m := Builtin.List.listAllItems (.ref b) "must assign iterable to extended slice") ?_
  unfold Builtin.List.listAllItems
  refine wpAny_bind (wpAny_typeOf ib.typeIs ?_)
  rw [if_pos (by decide)]
  unfold Builtin.List.listItems
  refine wpAny_bind (wpAny_seqItems e2 rfl (wpAny_pure ?_))
  refine wpAny_bind (wpAny_bind (wpAny_seqItems e rfl (wpAny_pure ?_)))
  refine wpAny_bind (wpAny_of_eq ((sliceIndices_raw (some (a : Int)) (some (c : Int)) none xs.size (by simp)).trans (congrArg (pure : Int × Int × Int → Sem (Int × Int × Int)) clip_bounds)) ?_)
  show wpAny _ _ (if ((1 : Int) == 1) = true then _ else _) _ _ s
  rw [if_pos (by decide)]
  refine wpAny_bind (wpAny_rule ?_)
  simp only [notLongL hz, Bool.false_eq_true, if_false]
  show wpAny _ _ (updateSeq l (fun zs => zs.extract 0 (((min a xs.size : Nat) : Int)).toNat ++ ys ++ zs.extract (max ((min a xs.size : Nat) : Int) ((min c xs.size : Nat) : Int)).toNat zs.size) >>= _) _ _ s
  rw [mx, Int.toNat_natCast]
  refine wpAny_bind (wpAny_updateSeq (hz := Nat.le_trans (Nat.le_add_right _ _) hz) (_hz' := z2) e rfl ?_)
  refine wpAny_bind (wpAny_letGo ?_)
  exact wpAny_bind (wpAny_pure (wpAny_pure ⟨.none, rfl, wpAny_pure h⟩))
end
section
variable {X : Cx}
theorem put_val {pins : List (Addr × Obj)} {s : Shared} {σ : L2.St} {H : Hp} {l b sl : Addr} {xs ys : List V} {a c : Nat} {vl vu : Value} {Q : Unit → Shared → Prop} (I : Inv X pins σ H s)
    (hH : H l = some (.lst xs)) (hB : H b = some (.lst ys)) (hne : l ≠ b) (hs : s.heap.IsSliceOf sl vl vu .none) (pl : IsPart vl (some (a : Int))) (pu : IsPart vu (some (c : Int))) (hac : a ≤ c)
    (hz : xs.length + ys.length ≤ sizeLine) (h : ∀ s', Inv X pins σ (upd H l (.lst (xs.take a ++ ys ++ xs.drop c))) s' → Q () s') :
    wpAny (model X.prog X.w) X.A (PySem.setItem (.ref l) (.ref sl) (.ref b)) Q X.xe s := by
  obtain ⟨z, its, n, r, hl, e⟩ := I.lstM hH
  obtain ⟨z2, its2, n2, r2, hl2, e2⟩ := I.lstM hB
  refine put_run (a := a) (c := c) e e2 hne hs pl pu hac (by rw [List.size_toArray, List.size_toArray]; omega) (h _ ?_)
  have t1 : its.take (min a its.length) = its.take a := by
    by_cases q : a ≤ its.length
    · rw [Nat.min_eq_left q]
    · rw [Nat.min_eq_right (by omega), List.take_length, List.take_of_length_le (by omega)]
  have t2 : its.drop (min c its.length) = its.drop c := by
    by_cases q : c ≤ its.length
    · rw [Nat.min_eq_left q]
    · rw [Nat.min_eq_right (by omega), List.drop_length, List.drop_eq_nil_of_le (by omega)]
  refine I.lset (its' := its.take a ++ its2 ++ its.drop c) (t' := s.toks) hH e ?_ (Vals.append (Vals.append (r.take _) r2) (r.drop _)) ?_
  · rw [List.size_toArray, ← t1, ← t2]
    exact splice_eq its its2 _ _
  · rw [List.length_append, List.length_append, List.length_take, List.length_drop]
    omega
/-- o[a:c] = a list, by values -/
def gPut (a c : Nat) (to : TE) : TG := fun y σ H Q => to σ H fun x H1 => ∃ l b xs ys, x = .ref l ∧ y = .ref b ∧ H1 l = some (.lst xs) ∧ H1 b = some (.lst ys) ∧ l ≠ b ∧ xs.length + ys.length ≤ sizeLine ∧ Q σ (upd H1 l (.lst (xs.take a ++ ys ++ xs.drop c)))
theorem pg_put {o : Expr} {to : TE} {a c k1 k2 : Nat} {p1 p2 p3 pos : Pos} (hac : a ≤ c) (ho : PE X o to) : PG X (.Subscript o (.Slice (some (.Constant (.int (a : Int)) k1 p1)) (some (.Constant (.int (c : Int)) k2 p2)) none p3) pos) (gPut a c to) := by
  refine ⟨fun pins s σ H v u Q I r h => ?_⟩
  show wpAny _ _ (do
      let ov ← holding [u] (eval o X.env)
      let iv ← holding [u, ov] (eval (.Slice (some (.Constant (.int (a : Int)) k1 p1)) (some (.Constant (.int (c : Int)) k2 p2)) none p3) X.env)
      standAt pos
      holding [u, ov, iv] (PySem.setItem ov iv u)
      release [iv, u, ov] []) _ _ _
  refine wpAny_bind (wpAny_holding (thn (ho.run pins s σ H _ I h) fun ov s1 ⟨x, H1, I1, r1, q1⟩ => ?_))
  refine wpAny_bind (wpAny_holding ?_)
  refine wpAny_Slice (thn ((po_some pe_int).run pins s1 σ H1 (fun o H2 => o = some (a : Int) ∧ H2 = H1) I1 ⟨_, rfl, rfl, rfl⟩) fun vl s2 ⟨l2, H2, I2, pl, e1, e2⟩ => ?_)
  subst e1 e2
  refine thn ((po_some pe_int).run pins s2 σ H2 (fun o H3 => o = some (c : Int) ∧ H3 = H2) I2 ⟨_, rfl, rfl, rfl⟩) fun vu s3 ⟨l3, H3, I3, pu, e1, e2⟩ => ?_
  subst e1 e2
  rw [evalPart_none]
  refine wpAny_pure ?_
  have I4 : Inv X pins σ H3 { s3 with heap := s3.heap.push { cls := .type "slice", data := .fields #[vl, vu, .none] } } := I3.kept (t' := s3.toks) fun b ob q => Heap.get?_push_of_some _ q
  refine wpAny_bind (wpAny_standAt (wpAny_bind (wpAny_holding ?_)))
  obtain ⟨l, b, xs, ys, rfl, rfl, hl, hb, hne, hz, q⟩ := q1
  cases r1
  cases r
  exact put_val I4 hl hb hne (Heap.IsSliceOf.new ..) pl pu hac hz fun s' I5 => wpAny_release ⟨σ, _, I5, q⟩
end
/-! the layer's own -/
section
variable {K : PySem.W.Frag} {T : Nat → Addr} {A : Act} {as : List Addr} {H : Hp} {σ : L2.St} {ts : List V} {s s' : Sx} {tds : List D}
theorem Rel.apart {v w : V} {p : Path} {ds es : List D} (R : Rel K T A as σ (w :: ts) H s (.lst .own es :: tds)) (a : AtP as σ H p v) (e : s.getP p = some (.lst .own ds)) : ∃ l b, v = .ref l ∧ w = .ref b ∧ l ≠ b := by
  obtain ⟨fx, Fz, tot, evs, fE, fT, fS, C, S⟩ := R
  obtain ⟨v', ts', f, fT', tot', e0, r, C', z⟩ := C.pop
  cases e0
  obtain ⟨f2, fr, r2, z2, k⟩ := C'.foc S.fzH a e (by simp)
  cases r with
  | @own _ vs b _ fk q l rs z1 =>
    cases r2 with
    | @own _ vs2 l2 _ fk2 q2 l3 rs2 z3 =>
      refine ⟨l2, b, rfl, rfl, ?_⟩
      rintro rfl
      have h1 := S.uno l2
      have h2 := z l2
      have h3 := z2 l2
      have h4 := z1 l2
      have h5 := z3 l2
      have h6 : one l2 l2 = 1 := by simp [one]
      omega
end
section
variable {κ : Kit} {X : Cx} {W : WX} {ev : CE → M Tm} {ex : List CS → M Flow} {P : Prog} {cf : Nat → List D → M (D × List D)} {fx : List Nat} {wf : Nat}
theorem setSlice_ok {te ta : Tm} {ve va : V} {A : Act} {σ : L2.St} {ts : List V} {tds : List D} {as : List Addr} {H : Hp} {s s' : Sx} {u : Unit} {a c : Nat} (R : KTms κ A as σ ts H s tds [] [] [(ta, va), (te, ve)]) (e : setSlice ta te (a : Int) (c : Int) s = .ok u s') :
    ∃ l b xs ys, va = .ref l ∧ ve = .ref b ∧ H l = some (.lst xs) ∧ H b = some (.lst ys) ∧ l ≠ b ∧ xs.length + ys.length ≤ sizeLine ∧ KRel κ A as σ ts (upd H l (.lst (xs.take a ++ ys ++ xs.drop c))) s' tds := by
  cases te with
  | «at» _ => have e : (Out.fail : Out Unit) = .ok u s' := e; cases e
  | val d =>
    cases d with
    | lst o es =>
      cases o with
      | own =>
        simp only [setSlice, ok_bind, ok_need, ok_putAt] at e
        obtain ⟨q, s1, e1, _, s2, ⟨hac, rfl⟩, _, s3, ⟨hz, rfl⟩, e4⟩ := e
        cases ta with
        | val _ =>
          have e1 : (Out.fail : Out (Path × List D)) = .ok q _ := e1
          cases e1
        | «at» p =>
          obtain ⟨rfl, rfl, eg⟩ := getP_lst (ds := []) e1
          have R1 := (R.swap).esc (d := .lst .own es) (s' := s3) rfl
          obtain ⟨hl1, R2, aP⟩ := R1
          have aP := aP _ va List.mem_cons_self
          obtain ⟨l, b, rfl, rfl, hne⟩ := Rel.apart R2 aP eg
          obtain ⟨b2, ys, e5, sq, hlen, R3⟩ := Rel.kids R2 (ds := es) rfl
          cases e5
          obtain ⟨l2, xs, e6, hH, hlen2, R4⟩ := Rel.write (es := es) (ws := ys) (os := []) (gv := fun _ => []) (fv := fun vs => vs.take a ++ ys ++ vs.drop c) hlen R3 aP eg (fun g H vs f1 f2 r1 r2 => by
            have hac := (of_decide_eq_true hac).2
            have hac : a ≤ c := by omega
            have r1' := r1
            rw [← List.take_append_drop a q.2] at r1'
            obtain ⟨v1, v2, g1, g2, e7, r3, r4, z1⟩ := r1'.split
            have hv : v1 = vs.take a ∧ v2 = vs.drop a := by
              have := r3.len
              have := r4.len
              have h8 := r1.len
              rw [List.length_take] at *
              rw [List.length_drop] at *
              exact List.append_inj (e7.symm.trans (List.take_append_drop a vs).symm) (by rw [List.length_take]; omega)
            obtain ⟨rfl, rfl⟩ := hv
            obtain ⟨g3, r5, z2⟩ := r4.drop (c - a)
            rw [List.drop_drop, List.drop_drop, show a + (c - a) = c by omega] at r5
            exact ⟨_, fun _ => 0, (r3.append r2 fun _ => rfl).append r5 fun _ => rfl, .nil fun _ => rfl, fun b => by dsimp only; have := z1 b; have := z2 b; omega⟩) e4
          cases e6
          refine ⟨l, b, xs, ys, rfl, rfl, hH, sq.2 (by simp), hne, ?_, R4⟩
          have := of_decide_eq_true hz
          rw [← hlen, ← hlen2]
          exact this
      | _ => have e : (Out.fail : Out Unit) = .ok u s' := e; cases e
    | _ => have e : (Out.fail : Out Unit) = .ok u s' := e; cases e
theorem NoEx.setSlice {ta te : Tm} {l h : Int} : NoEx (VS.setSlice ta te l h) := by
  unfold VS.setSlice
  split
  · exact .bind (by
      cases ta with
      | val _ => exact .fail
      | «at» p => exact .bind .deref fun d => by cases d <;> first | exact .fail | (rename_i o ds; cases o <;> first | exact .fail | exact .pure)) fun q => .bind .need fun _ => .bind .need fun _ => .putAt
  · exact .fail
theorem s_slas {x z : Expr} {ca cc : CE} {a c k1 k2 : Nat} {p1 p2 p3 pos spos : Pos} (hac : a ≤ c) (he : SE κ X W z ev cc) (ho : SE κ X W x ev ca)
    (hs : swapsWithSole [.Subscript x (.Slice (some (.Constant (.int (a : Int)) k1 p1)) (some (.Constant (.int (c : Int)) k2 p2)) none p3) pos] z spos.line X.env = pure false) (hw : swappedStores [.Subscript x (.Slice (some (.Constant (.int (a : Int)) k1 p1)) (some (.Constant (.int (c : Int)) k2 p2)) none p3) pos] z X.env = pure none) :
    PS X (.Assign [.Subscript x (.Slice (some (.Constant (.int (a : Int)) k1 p1)) (some (.Constant (.int (c : Int)) k2 p2)) none p3) pos] z spos) (tS κ W fx (stepS P ev ex wf (.asg (.slice ca (some (.lit (.int (a : Int)))) (some (.lit (.int (c : Int))))) cc))) := by
  refine (ps_asg he.pe (pg_put hac ho.pe) hs hw rfl).mono fun E σ H h => ?_
  have h : tS κ W fx ((evalL ev [cc, ca]).bind fun ts => match ts with | [te, ta] => (setSlice ta te (a : Int) (c : Int)).bind fun _ => (pure .nx : M Flow) | _ => VS.fail) E σ H := h
  refine argsS (es := [cc, ca]) (Q := fun vs H3 => match vs with | [y, x] => ∃ l b xs ys, x = .ref l ∧ y = .ref b ∧ H3 l = some (.lst xs) ∧ H3 b = some (.lst ys) ∧ l ≠ b ∧ xs.length + ys.length ≤ sizeLine ∧ E.nx σ (upd H3 l (.lst (xs.take a ++ ys ++ xs.drop c))) | _ => True) h fun {A as ts tds tms s1 vs H1} hl hl2 hf R h => ?_
  match tms, vs, hl, hl2 with
  | [te, ta], [ve, va], _, _ =>
    have R : KTms κ A as σ ts H1 s1 tds [] [] [(ta, va), (te, ve)] := R
    obtain ⟨u, s2, e2, h⟩ := RunS.okM .setSlice h
    obtain ⟨l, b, xs, ys, rfl, rfl, h1, h2, h3, h4, R2⟩ := setSlice_ok R e2
    exact ⟨l, b, xs, ys, rfl, rfl, h1, h2, h3, h4, h _ _ _ R2⟩
theorem s_slasI {x z : Expr} {ca cc : CE} {l h : Int} {k1 k2 : Nat} {p1 p2 p3 pos spos : Pos} (h1 : 0 ≤ l) (h2 : l ≤ h) (he : SE κ X W z ev cc) (ho : SE κ X W x ev ca)
    (hs : swapsWithSole [.Subscript x (.Slice (some (.Constant (.int l) k1 p1)) (some (.Constant (.int h) k2 p2)) none p3) pos] z spos.line X.env = pure false) (hw : swappedStores [.Subscript x (.Slice (some (.Constant (.int l) k1 p1)) (some (.Constant (.int h) k2 p2)) none p3) pos] z X.env = pure none) :
    PS X (.Assign [.Subscript x (.Slice (some (.Constant (.int l) k1 p1)) (some (.Constant (.int h) k2 p2)) none p3) pos] z spos) (tS κ W fx (stepS P ev ex wf (.asg (.slice ca (some (.lit (.int l))) (some (.lit (.int h)))) cc))) := by
  obtain ⟨a, rfl⟩ := Int.eq_ofNat_of_zero_le h1
  obtain ⟨c, rfl⟩ := Int.eq_ofNat_of_zero_le (Int.le_trans h1 h2)
  exact s_slas (by omega) he ho hs hw
end
end VS
/-! Objects of the program's own classes: fields, methods, new ones. -/
namespace VS
open PySem L2
/-! ### fields -/
theorem fget_iff : ∀ {l : List (Str × D)} {m : List (Str × V)} {f : Str}, m.map (·.1) = l.map (·.1) → (fget l f).isSome = (m.lookup f).isSome
  | [], [], _, _ => rfl
  | [], _ :: _, _, h => by simp at h
  | _ :: _, [], _, h => by simp at h
  | (g, d) :: l, (g', v) :: m, f, h => by
    simp only [List.map_cons, List.cons.injEq] at h
    obtain ⟨rfl, h⟩ := h
    rw [List.lookup_cons]
    unfold fget
    by_cases e : f = g'
    · subst e; simp
    · have : (f == g') = false := by simpa using e
      rw [if_neg e, this]
      exact fget_iff h
section
variable {K : PySem.W.Frag} {g : Gh} {H : Hp}
theorem putF_rps {f : Str} {d : D} {v : V} {f2 : Fp} : ∀ {l : List (Str × D)} {m : List (Str × V)} {f1 : Fp}, m.map (·.1) = l.map (·.1) → Rps K g H (l.map (·.2)) (m.map (·.2)) f1 → Rp K g H d v f2 →
    ∃ f3, Rps K g H ((fput l f d).map (·.2)) ((putF f v m).map (·.2)) f3 ∧ (∀ b, f3 b ≤ f1 b + f2 b) ∧ (putF f v m).map (·.1) = (fput l f d).map (·.1)
  | [], [], f1, _, .nil z, r => ⟨fun b => f2 b + 0, .cons (f2 := fun _ => 0) r (.nil fun _ => rfl) fun _ => rfl, fun b => by dsimp only; omega, rfl⟩
  | [], _ :: _, _, h, _, _ => by simp at h
  | _ :: _, [], _, h, _, _ => by simp at h
  | (x, e) :: l, (y, w) :: m, f1, h, rs, r => by
    simp only [List.map_cons, List.cons.injEq] at h
    obtain ⟨rfl, h⟩ := h
    have e1 : fput ((y, e) :: l) f d = if f = y then (y, d) :: l else (y, e) :: fput l f d := rfl
    have e2 : putF f v ((y, w) :: m) = if y = f then (y, v) :: m else (y, w) :: putF f v m := rfl
    obtain ⟨g1, g2, r1, r2, z⟩ := Rps.consI rs
    rw [e1, e2]
    by_cases q : f = y
    · rw [if_pos q, if_pos q.symm]
      exact ⟨_, .cons r r2 (fun _ => rfl), fun b => by have := z b; omega, by simp [h]⟩
    · rw [if_neg q, if_neg fun q' => q q'.symm]
      obtain ⟨f3, r3, z3, n3⟩ := putF_rps h r2 r
      exact ⟨_, .cons r1 r3 (fun _ => rfl), fun b => by have := z b; have := z3 b; omega, by simp [n3]⟩
end
section
variable {κ : Kit} {A : Act} {σ : St} {ts : List V} {tds : List D} {as : List Addr} {H : Hp} {s s' : Sx} {W : WX}
/-- an object as it stands -/
theorem Rel.objAt {n : Nat} {a : Addr} {o : Ob} (R : KRel κ A as σ ts H s tds) (ea : as[n]? = some a) (eo : s.sto[n]? = some o) : ∃ dx fs, H a = some (.ins (κ.T o.cls) dx fs) ∧ fs.map (·.1) = o.fs.map (·.1) := by
  obtain ⟨fx, Fz, tot, evs, fE, fT, fS, C, S⟩ := R
  obtain ⟨a', dx, fs, f1, f2, ea', eH, eL, nm, _, _, _⟩ := C.rS.at eo
  have ea' : as[n]? = some a' := ea'
  rw [ea] at ea'; cases ea'
  exact ⟨dx, fs, eH, nm⟩
theorem getR_fld {n : Nat} {f : Str} {d : D} (e : s.getR (.fld n f) = some d) : ∃ o, s.sto[n]? = some o ∧ fget o.fs f = some d := by
  simp only [Sx.getR, Option.bind_eq_some_iff] at e
  exact e
/-- an object's field gets a value -/
theorem Rel.setFld {n : Nat} {f : Str} {d : D} {v : V} {a : Addr} {o : Ob} (R : KRel κ A as σ (v :: ts) H s (d :: tds)) (ea : as[n]? = some a) (eo : s.sto[n]? = some o) :
    ∃ dx fs, H a = some (.ins (κ.T o.cls) dx fs) ∧ fs.length = o.fs.length ∧ KRel κ A as σ ts (upd H a (.ins (κ.T o.cls) dx (putF f v fs))) { s with sto := s.sto.set n { o with fs := fput o.fs f d } } tds := by
  obtain ⟨fx, Fz, tot, evs, fE, fT, fS, C, S⟩ := R
  obtain ⟨v', ts', fd, fT', tot', e, r, C', z⟩ := C.pop
  cases e
  obtain ⟨a', dx, fs, f1, f2, ea', eH, eL, nm, rf, zS, k⟩ := C'.rS.at eo
  have ea' : as[n]? = some a' := ea'
  rw [ea] at ea'; cases ea'
  have eL : A.Lk a = none := eL
  have u := S.uno a
  have u2 := z a
  have u3 := C'.sum a
  have u4 := zS a
  have u5 : one a a = 1 := by simp [one]
  have nf : ∀ {F : Fp} {b : Addr}, F a = 0 → F b ≠ 0 → b ≠ a := fun {F b} h1 h2 h3 => h2 (by rw [h3]; exact h1)
  have ag : ∀ {F : Fp}, F a = 0 → ∀ b, F b ≠ 0 → upd H a (.ins (κ.T o.cls) dx (putF f v fs)) b = H b ∧ A.Lk b = A.Lk b := fun {F} h b hb => ⟨upd_ne (nf (F := F) h hb), rfl⟩
  have r' : Rp κ.K ⟨Fz, A.Lk, as⟩ (upd H a (.ins (κ.T o.cls) dx (putF f v fs))) d v fd := Rp.mono (g' := ⟨Fz, A.Lk, as⟩) (fun _ _ q => q) List.prefix_rfl r (ag (by omega))
  have rf' : Rps κ.K ⟨Fz, A.Lk, as⟩ (upd H a (.ins (κ.T o.cls) dx (putF f v fs))) (o.fs.map (·.2)) (fs.map (·.2)) f1 := Rps.mono (g' := ⟨Fz, A.Lk, as⟩) (fun _ _ q => q) List.prefix_rfl rf (ag (by omega))
  obtain ⟨f3, r3, z3, n3⟩ := putF_rps (f := f) nm rf' r'
  obtain ⟨fp3, q3, w3⟩ := k (g' := ⟨Fz, A.Lk, as⟩) (H' := upd H a (.ins (κ.T o.cls) dx (putF f v fs))) (fun _ _ q => q) List.prefix_rfl (ag (by omega)) (o' := { o with fs := fput o.fs f d }) rfl upd_same eL n3 r3
  refine ⟨dx, fs, eH, by have := congrArg List.length nm; simpa using this, fx, Fz, fun b => fE b + fT' b + fp3 b, evs, fE, fT', fp3, ⟨C'.env, C'.sl, Rps.mono (g' := ⟨Fz, A.Lk, as⟩) (fun _ _ q => q) List.prefix_rfl C'.rE (ag (by omega)), Rps.mono (g' := ⟨Fz, A.Lk, as⟩) (fun _ _ q => q) List.prefix_rfl C'.rT (ag (by omega)), q3, fun _ => rfl⟩, S.write (by omega) eL fun b => ?_⟩
  have h1 := z b
  have h2 := C'.sum b
  have h3 := zS b
  have h4 := z3 b
  have h5 := w3 b
  omega
theorem Objs.snoc {K : PySem.W.Frag} {T : Nat → Addr} {g : Gh} {c : Nat} {x dx : Addr} (hx : H x = some (.ins (T c) dx [])) (hl : g.Lk x = none) : ∀ {as : List Addr} {os : List Ob} {f : Fp}, Objs K T g H as os f → Objs K T g H (as ++ [x]) (os ++ [⟨c, []⟩]) (fun b => f b + one x b)
  | _, _, f, .nil z => .cons (o := ⟨c, []⟩) (fs := []) (f1 := fun _ => 0) (f2 := fun _ => 0) hx hl rfl (.nil fun _ => rfl) (.nil fun _ => rfl) fun b => by have := z b; omega
  | _, _, f, .cons e l n r rs z => .cons e l n r (Objs.snoc hx hl rs) fun b => by have := z b; omega
theorem Objs.len {K : PySem.W.Frag} {T : Nat → Addr} {g : Gh} : ∀ {as : List Addr} {os : List Ob} {f : Fp}, Objs K T g H as os f → as.length = os.length
  | _, _, _, .nil _ => rfl
  | _, _, _, .cons _ _ _ _ rs _ => congrArg (· + 1) rs.len
/-- a new object -/
theorem Rel.newObj {c : Nat} {x dx : Addr} (R : KRel κ A as σ ts H s tds) (hx : H x = none) (hd : H dx = none) (hne : dx ≠ x) :
    KRel κ A (as ++ [x]) σ ts (upd (upd H dx (.own x)) x (.ins (κ.T c) dx [])) { s with sto := s.sto ++ [⟨c, []⟩] } tds ∧ (as ++ [x])[s.sto.length]? = some x ∧ Ext H (upd (upd H dx (.own x)) x (.ins (κ.T c) dx [])) := by
  have E1 : Ext H (upd H dx (.own x)) := Ext.upd hd
  have hx1 : upd H dx (.own x) x = none := by rw [upd_ne hne.symm]; exact hx
  have E2 : Ext (upd H dx (.own x)) (upd (upd H dx (.own x)) x (.ins (κ.T c) dx [])) := Ext.upd hx1
  obtain ⟨fx, Fz, tot, evs, fE, fT, fS, C, S⟩ := R
  have t0 := C.free hd
  have t1 := C.free hx
  have lk := S.lkNone hx
  have S1 : Sane A as Fz (upd H dx (.own x)) tot := (S.alloc (o := .own x) hd t0 (tot' := fun b => tot b + one dx b) fun _ => rfl).less fun b => by omega
  have S2 : Sane A as Fz (upd (upd H dx (.own x)) x (.ins (κ.T c) dx [])) (fun b => tot b + one x b) := S1.alloc hx1 t1 fun _ => rfl
  have hp : (⟨Fz, A.Lk, as⟩ : Gh).as <+: (⟨Fz, A.Lk, as ++ [x]⟩ : Gh).as := List.prefix_append _ _
  have ag : ∀ {F : Fp}, (∀ b, F b ≤ tot b) → ∀ b, F b ≠ 0 → upd (upd H dx (.own x)) x (.ins (κ.T c) dx []) b = H b ∧ A.Lk b = A.Lk b := fun {F} h b hb => by
    have h1 : b ≠ x := fun q => by rw [q] at hb; have := h x; omega
    have h2 : b ≠ dx := fun q => by rw [q] at hb; have := h dx; omega
    exact ⟨by rw [upd_ne h1, upd_ne h2], rfl⟩
  have rS := Objs.mono (g := ⟨Fz, A.Lk, as⟩) (g' := ⟨Fz, A.Lk, as ++ [x]⟩) (H' := upd (upd H dx (.own x)) x (.ins (κ.T c) dx [])) (fun _ _ q => q) hp C.rS (ag fun b => by have := C.sum b; omega)
  have hlen : as.length = s.sto.length := Objs.len (g := ⟨Fz, A.Lk, as⟩) C.rS
  refine ⟨⟨fx, Fz, fun b => tot b + one x b, evs, fE, fT, _, ⟨C.env, C.sl, Rps.mono (g := ⟨Fz, A.Lk, as⟩) (g' := ⟨Fz, A.Lk, as ++ [x]⟩) (fun _ _ q => q) hp C.rE (ag fun b => by have := C.sum b; omega), Rps.mono (g := ⟨Fz, A.Lk, as⟩) (g' := ⟨Fz, A.Lk, as ++ [x]⟩) (fun _ _ q => q) hp C.rT (ag fun b => by have := C.sum b; omega), rS.snoc upd_same lk, fun b => by have := C.sum b; omega⟩,
    ⟨S2.fzH, S2.fz0, S2.lkH, S2.as0.trans (List.prefix_append _ _), S2.uno, S2.nfz, S2.own, S2.kp, S2.fzo⟩⟩, by rw [← hlen, List.getElem?_append_right (Nat.le_refl _)]; simp, E1.trans E2⟩
theorem rz_snoc : ∀ {tms : List Tm} {vs : List V} {L L2 : List (Tm × V)}, rz tms vs (L ++ L2) = rz tms vs L ++ L2
  | [], _, _, _ => rfl
  | _ :: _, [], _, _ => rfl
  | t :: ts, v :: vs, L, L2 => rz_snoc (tms := ts) (vs := vs) (L := (t, v) :: L)
theorem sV_app : ∀ {L L2 : List (Tm × V)}, sV (L ++ L2) = sV L ++ sV L2
  | [], _ => rfl
  | (.val _, _) :: L, _ => congrArg (_ :: ·) (sV_app (L := L))
  | (.at _, _) :: L, _ => sV_app (L := L)
theorem sD_app : ∀ {L L2 : List (Tm × V)}, sD (L ++ L2) = sD L ++ sD L2
  | [], _ => rfl
  | (.val _, _) :: L, _ => congrArg (_ :: ·) (sD_app (L := L))
  | (.at _, _) :: L, _ => sD_app (L := L)
/-- behind all operands one that owns nothing -/
theorem TmsR.last {L : List (Tm × V)} {d : D} {v : V} (R : KTms κ A as σ ts H s tds [] [] L) (h : ∀ g : Gh, g.as = as → Rp κ.K g H d v fun _ => 0) : KTms κ A as σ ts H s tds [] [] (L ++ [(.val d, v)]) := by
  obtain ⟨hl, R, a⟩ := R
  refine ⟨rfl, ?_, fun p w hm => ?_⟩
  · have R2 := Rel.unrot (ds₁ := sD L) (vs₁ := sV L) (sVD_len L).symm (Rel.scal R h)
    rw [sV_app, sD_app]
    simpa [sV, sD] using R2
  · rcases List.mem_append.mp hm with q | q
    · exact a p w q
    · simp at q
end
/-! ### calls -/
section
variable {X : Cx} {CX : CXT} {k : Nat} {f C : Addr} {fd : FuncData} {ps : List Str} {sp : Sp} {E : St → XK} {x m : Str} {p pos apos : Pos} {e o : Expr} {es : List Expr} {ta : TE} {t : TA}
def tMethSD (C : Addr) (m : Str) (sp : Sp) (E : St → XK) (ta : TE) (t : TA) : TE := fun σ H Q => ta σ H fun x H1 => ∃ a dx fs, x = .ref a ∧ H1 a = some (.ins C dx fs) ∧ fs.lookup m = none ∧
  t σ H1 fun vs H2 => sp (x :: vs) H2 Q (E σ)
def tMakeSD (C : Addr) (sp : Sp) (E : St → XK) (t : TA) : TE := fun σ H Q => t σ H fun vs H1 => ∀ x dx, H1 x = none → H1 dx = none → dx ≠ x →
  sp (.ref x :: vs) (upd (upd H1 dx (.own x)) x (.ins C dx [])) (fun v H2 => v = .non ∧ Q (.ref x) H2) (E σ)
theorem pe_methSD {pl : Sem Bool} (he : PE X o ta) (c : Cls X.K C) (hm : Meth X.K C m f) (F : FnOk X.prog X.w X.K X.mg X.base CX k f fd ps sp) (hr : Room k X.A) (hb : Binds X.K fd ps []) (hx : ∀ σ, PassesAt CX X σ (E σ)) (ha : PA X (e :: es) t)
    (hst : starEach (e :: es) X.env = (false, eval e X.env) :: starEach es X.env) (hpl : (backTo pos (starEach es X.env)).any (·.1) = false)
    (ht : eval (.Call (.Attribute o m apos) (e :: es) [] pos) X.env = (do
      let ov ← eval o X.env
      standAt apos.atName
      let (f, first) ← holding [ov] (getMethod ov m pl)
      callWith pos f first (backTo pos (starEach (e :: es) X.env)) (backToKw pos (keywordEach [] X.env)))) :
    PE X (.Call (.Attribute o m apos) (e :: es) [] pos) (tMethSD C m sp E ta t) := by
  refine ⟨fun pins s σ H Q I h => ?_⟩
  refine PySem.W.methodCall_KW (pl := pl) (thn (he.run pins s σ H _ I h) fun u s1 ⟨x, H1, I1, rx, a, dx, fs, ex, ea, l, q⟩ => ?_) ht
  subst ex
  obtain rfl : u = Value.ref a := rx
  refine getmeth_ok I1 ea c hm l ?_
  refine PySem.W.callWith_K (first := [.ref a]) (h₀ := X.base) I.ok.mod.kin hm.kp (thn (ha.run pos pins s1 σ H1 _ I1 q) fun us s2 ⟨vs, H2, I2, r, q2⟩ => ⟨I2.kIn, ?_⟩) hst hpl
  exact run_fnSD (us := .ref a :: us) (vs := .ref a :: vs) F hr hb .nil (hx σ) I2 (.cons rfl r) (by rw [List.append_nil]; exact q2)
theorem pe_methSD0 {pl : Sem Bool} (he : PE X o ta) (c : Cls X.K C) (hm : Meth X.K C m f) (F : FnOk X.prog X.w X.K X.mg X.base CX k f fd ps sp) (hr : Room k X.A) (hb : Binds X.K fd ps []) (hx : ∀ σ, PassesAt CX X σ (E σ))
    (ht : eval (.Call (.Attribute o m apos) [] [] pos) X.env = (do
      let ov ← eval o X.env
      standAt apos.atName
      let (f, first) ← holding [ov] (getMethod ov m pl)
      callWith pos f first (backTo pos (starEach [] X.env)) (backToKw pos (keywordEach [] X.env)))) :
    PE X (.Call (.Attribute o m apos) [] [] pos) (tMethSD C m sp E ta tNil) := by
  refine ⟨fun pins s σ H Q I h => ?_⟩
  refine PySem.W.methodCall_KW (pl := pl) (thn (he.run pins s σ H _ I h) fun u s1 ⟨x, H1, I1, rx, a, dx, fs, ex, ea, l, q⟩ => ?_) ht
  subst ex
  obtain rfl : u = Value.ref a := rx
  refine getmeth_ok I1 ea c hm l ?_
  exact PySem.W.callWith_K0 (first := [.ref a]) I1.kIn hm.kp (run_fnSD (us := [.ref a]) (vs := [.ref a]) F hr hb .nil (hx σ) I1 (.cons rfl .nil) (by rw [List.append_nil]; exact q))
theorem run_makeSD {pins : List (Addr × Obj)} {σ : St} {H : Hp} {s : Shared} {Q : VK} {us : List Value} {vs : List V} (M : Mk X.K C f) (F : FnOk X.prog X.w X.K X.mg X.base CX k f fd ps sp) (hr : Room (k + 1) X.A) (hb : Binds X.K fd ps [])
    (hx : PassesAt CX X σ (E σ)) (I : Inv X pins σ H s) (r : Vals vs us)
    (h : ∀ x dx, H x = none → H dx = none → dx ≠ x → sp (.ref x :: vs) (upd (upd H dx (.own x)) x (.ins C dx [])) (fun v H2 => v = .non ∧ Q (.ref x) H2) (E σ)) :
    wpAny (model X.prog X.w) X.A (call (.ref C) us) (EP X pins σ Q) X.xe s := by
  have hq := h (s.heap.objs.size + 1) s.heap.objs.size (I.hok.fresh (Nat.le_succ _)) (I.hok.fresh (Nat.le_refl _)) (Nat.ne_of_lt (Nat.lt_succ_self _))
  have I2 := Inv.made (C := C) I
  have r2 : Vals (V.ref (s.heap.objs.size + 1) :: vs) (Value.ref (s.heap.objs.size + 1) :: us) := .cons rfl r
  have hl : (Value.ref (s.heap.objs.size + 1) :: us ++ []).length = ps.length := by
    have e := r2.length
    rw [F.len _ _ _ _ hq] at e
    rw [List.append_nil]
    exact e.symm
  have hb' := hb _ (Value.ref (s.heap.objs.size + 1) :: us) I2.kIn hl
  rw [List.append_nil] at hb'
  refine wpAny_call (make_map (f := f) I.kIn M.makes M.init (beq_iff_eq.mp M.fn) (codeAny_mono (F.run _ X.stack _ _ ⟨Value.ref (s.heap.objs.size + 1) :: us, []⟩ (Value.ref (s.heap.objs.size + 1) :: us) _ _ (E σ) (hr.make C us [])
    (I2.env0.make C us []) hb' r2 hq) fun r s' hq' => ?_))
  cases r with
  | error e => exact hx pins _ _ e s' I2 hq'
  | ok fl =>
    cases fl with
    | ret u =>
      obtain ⟨v, H', I3, rv, ev, q3⟩ := I2.after hq'
      subst ev
      exact ⟨rv, ⟨V.ref (s.heap.objs.size + 1), H', I3, rfl, q3⟩⟩
    | next => exact False.elim hq'
    | brk => exact False.elim hq'
    | cont => exact False.elim hq'
theorem pe_makeSD (M : Mk X.K C f) (F : FnOk X.prog X.w X.K X.mg X.base CX k f fd ps sp) (hr : Room (k + 1) X.A) (hg : Gl X x) (hm : X.mg x = some (.ref C)) (hb : Binds X.K fd ps []) (hx : ∀ σ, PassesAt CX X σ (E σ))
    (ha : PA X (e :: es) t) (hdb : (x == ("__debug__" : Str)) = false) (he : starEach (e :: es) X.env = (false, eval e X.env) :: starEach es X.env) (hpl : (backTo pos (starEach es X.env)).any (·.1) = false) :
    PE X (.Call (.Name x p) (e :: es) [] pos) (tMakeSD C sp E t) := by
  refine ⟨fun pins s σ H Q I h => ?_⟩
  refine wpAny_Call_Name_kw (ld_glob I hg hm ?_ hdb)
  refine PySem.W.callWith_K (h₀ := X.base) I.ok.mod.kin M.kp (thn (ha.run pos pins s σ H _ I h) fun us s1 ⟨vs, H1, I1, r, q⟩ => ⟨I1.kIn, ?_⟩) he hpl
  exact run_makeSD M F hr hb (hx σ) I1 r q
theorem pe_makeSD0 (M : Mk X.K C f) (F : FnOk X.prog X.w X.K X.mg X.base CX k f fd ps sp) (hr : Room (k + 1) X.A) (hg : Gl X x) (hm : X.mg x = some (.ref C)) (hb : Binds X.K fd ps []) (hx : ∀ σ, PassesAt CX X σ (E σ))
    (hdb : (x == ("__debug__" : Str)) = false) : PE X (.Call (.Name x p) [] [] pos) (tMakeSD C sp E tNil) := by
  refine ⟨fun pins s σ H Q I h => ?_⟩
  refine wpAny_Call_Name_kw (ld_glob I hg hm ?_ hdb)
  exact PySem.W.callWith_K0 I.kIn M.kp (run_makeSD (us := []) M F hr hb (hx σ) I .nil h)
end
/-! ### expressions -/
section
variable {κ : Kit} {X : Cx} {W : WX} {ev : CE → M Tm} {P : Prog} {cf : Nat → List D → M (D × List D)}
theorem snd_attr {e : Expr} {f : Str} {pos : Pos} {c : CE} (hK : X.K = κ.K) (he : SE κ X W e ev c) (hb : attributeBase e f X.env (eval e X.env) = eval e X.env) (hC : ∀ n, Cls X.K (κ.T n) ∧ NoAttr X.K (κ.T n) f) :
    PE X (.Attribute e f pos) (tE κ W (quiet (.attr c f)) (step P ev cf (.attr c f))) := by
  refine (pe_fld he.pe hb).mono fun σ H Q h => ?_
  have h : tE κ W (quiet c) ((evalD ev c).bind fun d => fldP d f) σ H Q := h
  refine oneD h fun {A as as1 ts tds d s1 v H1} hA hx w R h => ?_
  cases d with
  | obj n =>
    cases w with
    | @obj _ a ea =>
      have h : RunE κ A σ ts tds H as (quiet c) W Q (match s1.getR (.fld n f) with
        | some v => .ok (placed ⟨.fld n f, []⟩ v) s1
        | none => .fail) := h
      cases e0 : s1.getR (.fld n f) with
      | none => rw [e0] at h; exact h.elim
      | some d =>
        rw [e0] at h
        dsimp only at h
        obtain ⟨o, eo, ef⟩ := getR_fld e0
        obtain ⟨dx, fs, eH, nm⟩ := Rel.objAt R ea eo
        have hs := fget_iff (f := f) nm
        rw [ef] at hs
        obtain ⟨v, el⟩ := Option.isSome_iff_exists.mp hs.symm
        obtain ⟨h1, h2⟩ := hC o.cls
        have ap : AtP as1 σ H1 ⟨.fld n f, []⟩ v := ⟨v, ⟨a, _, dx, fs, ea, eH, el⟩, .nil⟩
        have eg : s1.getP ⟨.fld n f, []⟩ = some d := by
          show (s1.getR (.fld n f)).bind (fun d => d.get []) = _
          rw [e0]
          show d.get [] = _
          unfold D.get; rfl
        refine ⟨a, _, dx, fs, v, rfl, eH, h1, h2, el, h v H1 as1 hA hx ?_⟩
        unfold placed
        by_cases hp : d.plain = true
        · rw [if_pos hp]; exact TmsR.one (Rel.at_plain R ap eg hp)
        · rw [if_neg hp]
          refine ⟨rfl, R, fun p w hm => ?_⟩
          simp at hm
          obtain ⟨rfl, rfl⟩ := hm
          exact ap
  | _ => exact h.elim
/-- behind the reading of an object, its method and arguments -/
theorem mcall_args {m : Str} {cs : List CE} {n ci i : Nat} {fd : FD} {A : Act} {σ : St} {ts : List V} {tds : List D} {as as0 : List Addr} {H H0 : Hp} {s : Sx} {v : V} {Q : VK}
    (uniq : ∀ c' j, ((P.meths[c']?).bind fun ms => ms.lookup m) = some j → c' = ci ∧ j = i) (hf : P.fns[i]? = some fd) (R : KRel κ A as σ ts H s tds) (w : Vw κ.K as H (.obj n) v) (hA : as0 <+: as)
    (h : RunE κ A σ ts tds H0 as0 false W Q (mcallP P ev cf m cs (.obj n) s)) : ∃ a dx fs, v = .ref a ∧ H a = some (.ins (κ.T ci) dx fs) ∧ fs.lookup m = none ∧ tLs κ W ev cs σ H fun vs H2 => spF κ cf fd.np i (v :: vs) H2 Q (fun c d H' => W c d σ H') := by
  cases w with
  | @obj _ a ea =>
    have h : RunE κ A σ ts tds H0 as0 false W Q (((methOf P n m).bind fun f => (evalL ev cs).bind fun ts => callT P cf f (.val (.obj n) :: ts)) s) := h
    have mo : methOf P n m s = (match s.sto[n]? with
      | some o => if (fget o.fs m).isNone then (match (P.meths[o.cls]?).bind fun ms => ms.lookup m with | some f => (Out.ok f s : Out Nat) | none => .fail) else .fail
      | none => .fail) := rfl
    cases eo : s.sto[n]? with
    | none => rw [eo] at mo; rw [show ((methOf P n m).bind _) s = _ from bind_fail_of mo] at h; exact h.elim
    | some o =>
      rw [eo] at mo
      dsimp only at mo
      by_cases hn : (fget o.fs m).isNone = true
      · rw [if_pos hn] at mo
        cases el : (P.meths[o.cls]?).bind fun ms => ms.lookup m with
        | none => rw [el] at mo; rw [show ((methOf P n m).bind _) s = _ from bind_fail_of mo] at h; exact h.elim
        | some j =>
          rw [el] at mo
          obtain ⟨ec, ej⟩ := uniq _ _ el
          subst ej
          rw [show ((methOf P n m).bind _) s = _ from bind_ok_of mo] at h
          obtain ⟨dx, fs, eH, nm⟩ := Rel.objAt R ea eo
          rw [ec] at eH
          have hs := fget_iff (f := m) nm
          have hl : fs.lookup m = none := by
            have : fget o.fs m = none := by simpa using hn
            rw [this] at hs
            simpa using hs.symm
          have R' : KTms κ A as σ ts H s tds [] [] [(.val (.obj n), .ref a)] := ⟨rfl, Rel.scal R fun g hg => .obj (by rw [hg]; exact ea) fun _ => rfl, fun p w hm => by simp at hm⟩
          refine ⟨a, dx, fs, rfl, eH, hl, tLs_hold R' (fun t' v' hm => by simp at hm; rw [hm.1]; exact .inl rfl) h fun {tms s2 vs H2 as2} hl hl2 hA2 hx2 R2 h => ?_⟩
          exact callT_ok (tms := .val (.obj n) :: tms) (vs := .ref a :: vs) hf (by simp [hl]) R2 h (hA.trans hA2) rfl
      · rw [if_neg hn] at mo; rw [show ((methOf P n m).bind _) s = _ from bind_fail_of mo] at h; exact h.elim
theorem mcall_obj {m : Str} {cs : List CE} {d : D} {A : Act} {σ : St} {ts : List V} {tds : List D} {as0 : List Addr} {H0 : Hp} {s : Sx} {Q : VK} (h : RunE κ A σ ts tds H0 as0 false W Q (mcallP P ev cf m cs d s)) : ∃ n, d = .obj n := by
  cases d with
  | obj n => exact ⟨n, rfl⟩
  | _ => exact h.elim
section
variable {CX : CXT} {k i ci : Nat} {f : Addr} {fd' : FuncData} {ps : List Str} {fd : FD} {m : Str} {o : Expr} {apos pos : Pos} {co : CE}
theorem snd_mcall {e : Expr} {es : List Expr} {c : CE} {cs : List CE} (hC : Cls X.K (κ.T ci)) (hm : Meth X.K (κ.T ci) m f) (F : FnOk X.prog X.w X.K X.mg X.base CX k f fd' ps (spF κ cf fd.np i)) (hf : P.fns[i]? = some fd) (hr : Room k X.A)
    (hb : Binds X.K fd' ps []) (hx : ∀ σ, PassesAt CX X σ (WE W σ)) (uniq : ∀ c' j, ((P.meths[c']?).bind fun ms => ms.lookup m) = some j → c' = ci ∧ j = i) (ho : SE κ X W o ev co) (ha : SAs κ X W ev (e :: es) (c :: cs)) (hbase : attributeBase o m X.env (eval o X.env) = eval o X.env) {pl : Sem Bool}
    (ht : eval (.Call (.Attribute o m apos) (e :: es) [] pos) X.env = (do
      let ov ← eval o X.env
      standAt apos.atName
      let (f, first) ← holding [ov] (getMethod ov m pl)
      callWith pos f first (backTo pos (starEach (e :: es) X.env)) (backToKw pos (keywordEach [] X.env)))) :
    PE X (.Call (.Attribute o m apos) (e :: es) [] pos) (tE κ W false (step P ev cf (.mcall co m (c :: cs)))) := by
  have hs : starEach (e :: es) X.env = (false, eval e X.env) :: starEach es X.env := by cases ha with | cons _ h _ => exact h
  have hpl : (backTo pos (starEach es X.env)).any (·.1) = false := by
    cases ha with | cons _ _ r => exact backTo_any.trans r.plain
  refine (pe_methSD ho.pe hC hm F hr hb hx ha.pa hs hpl ht).mono fun σ H Q h => ?_
  have h : tE κ W false ((evalD ev co).bind fun d => mcallP P ev cf m (c :: cs) d) σ H Q := by
    unfold evalD
    rw [M.assoc]; exact h
  refine oneD h fun {A as as1 ts tds d s1 v H1} hA hx w R h => ?_
  obtain ⟨n, rfl⟩ := mcall_obj h
  exact mcall_args uniq hf R w hA h
theorem snd_mcall0 (hC : Cls X.K (κ.T ci)) (hm : Meth X.K (κ.T ci) m f) (F : FnOk X.prog X.w X.K X.mg X.base CX k f fd' ps (spF κ cf fd.np i)) (hf : P.fns[i]? = some fd) (hr : Room k X.A)
    (hb : Binds X.K fd' ps []) (hx : ∀ σ, PassesAt CX X σ (WE W σ)) (uniq : ∀ c' j, ((P.meths[c']?).bind fun ms => ms.lookup m) = some j → c' = ci ∧ j = i) (ho : SE κ X W o ev co) {pl : Sem Bool}
    (ht : eval (.Call (.Attribute o m apos) [] [] pos) X.env = (do
      let ov ← eval o X.env
      standAt apos.atName
      let (f, first) ← holding [ov] (getMethod ov m pl)
      callWith pos f first (backTo pos (starEach [] X.env)) (backToKw pos (keywordEach [] X.env)))) :
    PE X (.Call (.Attribute o m apos) [] [] pos) (tE κ W false (step P ev cf (.mcall co m []))) := by
  refine (pe_methSD0 ho.pe hC hm F hr hb hx ht).mono fun σ H Q h => ?_
  have h : tE κ W false ((evalD ev co).bind fun d => mcallP P ev cf m [] d) σ H Q := by
    unfold evalD
    rw [M.assoc]; exact h
  refine oneD h fun {A as as1 ts tds d s1 v H1} hA hx w R h => ?_
  obtain ⟨n, rfl⟩ := mcall_obj h
  exact mcall_args uniq hf R w hA h
/-- a new object, its arguments reckoned -/
theorem new_args {tms : List Tm} {vs : List V} {A : Act} {σ : St} {ts : List V} {tds : List D} {as as0 : List Addr} {H H0 : Hp} {s : Sx} {Q : VK} (hl : tms.length = vs.length) (hf : P.fns[i]? = some fd) (R : KTms κ A as σ ts H s tds [] [] (rz tms vs [])) (hA : as0 <+: as)
    (h : RunE κ A σ ts tds H0 as0 false W Q (newP P cf ci i tms s)) (x dx : Addr) (hx : H x = none) (hd : H dx = none) (hne : dx ≠ x) :
    spF κ cf fd.np i (.ref x :: vs) (upd (upd H dx (.own x)) x (.ins (κ.T ci) dx [])) (fun v H2 => v = .non ∧ Q (.ref x) H2) (fun c d H' => W c d σ H') := by
  have hA1 : as <+: as ++ [x] := List.prefix_append _ _
  have R1 : KTms κ A (as ++ [x]) σ ts (upd (upd H dx (.own x)) x (.ins (κ.T ci) dx [])) { s with sto := s.sto ++ [⟨ci, []⟩] } tds [] [] (rz tms vs []) ∧ (as ++ [x])[s.sto.length]? = some x := by
    obtain ⟨h1, h2, h3⟩ := R
    obtain ⟨h4, h5, h6⟩ := Rel.newObj (c := ci) h2 hx hd hne
    exact ⟨⟨h1, h4, fun p w hm => (h3 p w hm).ext hA1 h6⟩, h5⟩
  obtain ⟨R1, ex⟩ := R1
  have R2 := TmsR.last (d := .obj s.sto.length) (v := .ref x) R1 fun g hg => .obj (by rw [hg]; exact ex) fun _ => rfl
  have R3 : KTms κ A (as ++ [x]) σ ts (upd (upd H dx (.own x)) x (.ins (κ.T ci) dx [])) { s with sto := s.sto ++ [⟨ci, []⟩] } tds [] [] (rz (.val (.obj s.sto.length) :: tms) (.ref x :: vs) []) := by
    show KTms κ A (as ++ [x]) σ ts _ _ tds [] [] (rz tms vs ([] ++ [(.val (.obj s.sto.length), .ref x)]))
    rw [rz_snoc]; exact R2
  refine callT_ok (tms := .val (.obj s.sto.length) :: tms) (vs := .ref x :: vs) (H0 := H0) (as0 := as ++ [x]) (q := false) hf (by simp [hl]) R3 ?_ List.prefix_rfl rfl
  have h : RunE κ A σ ts tds H0 as0 false W Q (((callT P cf i (.val (.obj s.sto.length) :: tms)).bind (noneT s.sto.length)) { s with sto := s.sto ++ [⟨ci, []⟩] }) := h
  cases ec : callT P cf i (.val (.obj s.sto.length) :: tms) { s with sto := s.sto ++ [⟨ci, []⟩] } with
  | fail => rw [show ((callT P cf i _).bind _) _ = _ from bind_fail_of ec] at h; exact h
  | exc c ps s2 => rw [show ((callT P cf i _).bind _) _ = .exc c ps s2 from ex_bind'.mpr (.inl ec)] at h; exact h
  | ok t s2 =>
    rw [show ((callT P cf i _).bind _) _ = _ from bind_ok_of ec] at h
    intro v H' as' h5 h2 R4
    have h1 : as0 <+: as' := (hA.trans hA1).trans h5
    cases t with
    | «at» p => exact h.elim
    | val d =>
      cases d with
      | non =>
        have w := R4.2.1.vw
        cases w
        refine ⟨rfl, ?_⟩
        have h : RunE κ A σ ts tds H0 as0 false W Q (.ok (.val (.obj s.sto.length)) s2) := h
        have ex' : as'[s.sto.length]? = some x := pre_get h5 ex
        exact h (.ref x) H' as' h1 (fun q => by cases q) ⟨rfl, Rel.scal R4.drop.nil fun g hg => .obj (by rw [hg]; exact ex') fun _ => rfl, fun p w hm => by simp at hm⟩
      | _ => exact h.elim
theorem snd_new {C : Addr} {x : Str} {p : Pos} {e : Expr} {es : List Expr} {c : CE} {cs : List CE} {ms : List (Str × Nat)} (hm0 : P.meths[ci]? = some ms) (hi : ms.lookup (Str.ofString "__init__") = some i) (hC : C = κ.T ci) (M : Mk X.K C f) (F : FnOk X.prog X.w X.K X.mg X.base CX k f fd' ps (spF κ cf fd.np i)) (hf : P.fns[i]? = some fd) (hr : Room (k + 1) X.A)
    (hg : Gl X x) (hm : X.mg x = some (.ref C)) (hb : Binds X.K fd' ps []) (hx : ∀ σ, PassesAt CX X σ (WE W σ)) (ha : SAs κ X W ev (e :: es) (c :: cs)) (hd : (x == ("__debug__" : Str)) = false) :
    PE X (.Call (.Name x p) (e :: es) [] pos) (tE κ W false (step P ev cf (.new ci (c :: cs)))) := by
  subst hC
  have hs : starEach (e :: es) X.env = (false, eval e X.env) :: starEach es X.env := by cases ha with | cons _ h _ => exact h
  have hpl : (backTo pos (starEach es X.env)).any (·.1) = false := by
    cases ha with | cons _ _ r => exact backTo_any.trans r.plain
  refine (pe_makeSD M F hr hg hm hb hx ha.pa hd hs hpl).mono fun σ H Q h => ?_
  have h : tE κ W false ((evalL ev (c :: cs)).bind fun ts => (opt P.meths[ci]?).bind fun ms => (opt (ms.lookup (Str.ofString "__init__"))).bind fun f => newP P cf ci f ts) σ H Q := h
  refine tLs_bind h fun {A as ts tds tms s1 vs H1 as1} hl hA hx R h hl2 => ?_
  rw [hm0] at h
  have h : RunE κ A σ ts tds H as false W Q (((opt (ms.lookup (Str.ofString "__init__"))).bind fun f => newP P cf ci f tms) s1) := h
  rw [hi] at h
  exact new_args hl hf R hA h
theorem snd_new0 {C : Addr} {x : Str} {p : Pos} {ms : List (Str × Nat)} (hm0 : P.meths[ci]? = some ms) (hi : ms.lookup (Str.ofString "__init__") = some i) (hC : C = κ.T ci) (M : Mk X.K C f) (F : FnOk X.prog X.w X.K X.mg X.base CX k f fd' ps (spF κ cf fd.np i)) (hf : P.fns[i]? = some fd) (hr : Room (k + 1) X.A)
    (hg : Gl X x) (hm : X.mg x = some (.ref C)) (hb : Binds X.K fd' ps []) (hx : ∀ σ, PassesAt CX X σ (WE W σ)) (hd : (x == ("__debug__" : Str)) = false) :
    PE X (.Call (.Name x p) [] [] pos) (tE κ W false (step P ev cf (.new ci []))) := by
  subst hC
  refine (pe_makeSD0 M F hr hg hm hb hx hd).mono fun σ H Q h => ?_
  have h : tE κ W false ((evalL ev []).bind fun ts => (opt P.meths[ci]?).bind fun ms => (opt (ms.lookup (Str.ofString "__init__"))).bind fun f => newP P cf ci f ts) σ H Q := h
  have key : tLs κ W ev [] σ H fun vs H1 => ∀ x dx, H1 x = none → H1 dx = none → dx ≠ x → spF κ cf fd.np i (.ref x :: vs) (upd (upd H1 dx (.own x)) x (.ins (κ.T ci) dx [])) (fun v H2 => v = .non ∧ Q (.ref x) H2) (WE W σ) := by
    refine tLs_bind h fun {A as ts tds tms s1 vs H1 as1} hl hA hx R h hl2 => ?_
    rw [hm0] at h
    have h : RunE κ A σ ts tds H as false W Q (((opt (ms.lookup (Str.ofString "__init__"))).bind fun f => newP P cf ci f tms) s1) := h
    rw [hi] at h
    exact new_args hl hf R hA h
  exact key
end
end
/-! ### statements -/
section
variable {κ : Kit} {X : Cx} {W : WX} {ev : CE → M Tm} {ex : List CS → M Flow} {P : Prog} {cf : Nat → List D → M (D × List D)} {fx : List Nat} {wf : Nat}
theorem ok_setFld {n : Nat} {f : Str} {d : D} {s s' : Sx} {u : Unit} (e : setFld n f d s = .ok u s') : ∃ o, s.sto[n]? = some o ∧ o.fs.length < 1000 ∧ s' = { s with sto := s.sto.set n { o with fs := fput o.fs f d } } := by
  unfold setFld at e
  cases eo : s.sto[n]? with
  | none => rw [eo] at e; cases e
  | some o =>
    rw [eo] at e
    dsimp only at e
    by_cases hl : o.fs.length < 1000
    · rw [if_pos hl] at e; cases e; exact ⟨o, rfl, hl, rfl⟩
    · rw [if_neg hl] at e; cases e
theorem NoEx.setFld {n : Nat} {f : Str} {d : D} : NoEx (VS.setFld n f d) := by
  intro s c ps s' e
  unfold VS.setFld at e
  cases eo : s.sto[n]? with
  | none => rw [eo] at e; cases e
  | some o =>
    rw [eo] at e
    dsimp only at e
    split at e <;> cases e
theorem s_fld {o e : Expr} {f : Str} {co c : CE} {pos pos' : Pos} (hK : X.K = κ.K) (he : SE κ X W e ev c) (ho : SE κ X W o ev co) (hC : ∀ n, Cls X.K (κ.T n) ∧ NoAttr X.K (κ.T n) f) (hs : swapsWith e (some (.Attribute o f pos')) pos.line X.env = pure false) :
    PS X (.Assign [.Attribute o f pos'] e pos) (tS κ W fx (stepS P ev ex wf (.asg (.attr co f) c))) := by
  refine (ps_fld ho.pe he.pe hs).mono fun E σ H h => ?_
  have h : tS κ W fx ((evalL ev [c, co]).bind fun ts => match ts with
    | [te, to] => (deref to).bind fun d => (escape te).bind fun x => match d with
      | .obj n => (setFld n f x).bind fun _ => (pure .nx : M Flow)
      | _ => VS.fail
    | _ => VS.fail) E σ H := h
  refine argsS (es := [c, co]) (Q := fun vs H2 => match vs with | [y, x] => ∃ a C dx fs, x = .ref a ∧ H2 a = some (.ins C dx fs) ∧ Cls X.K C ∧ NoAttr X.K C f ∧ fs.length < 1000 ∧ E.nx σ (upd H2 a (.ins C dx (putF f y fs))) | _ => True) h fun {A as ts tds tms s1 vs H1} hl hl2 hf R h => ?_
  match tms, vs, hl, hl2 with
  | [te, to], [ve, vo], _, _ =>
    have R : KTms κ A as σ ts H1 s1 tds [] [] [(to, vo), (te, ve)] := R
    obtain ⟨d, ed, w, h⟩ := derefS R (t := to) (v := vo) (by simp) h
    obtain ⟨x, s2, e1, h⟩ := RunS.okM .escape h
    have R1 := R.drop.esc e1
    cases d with
    | obj n =>
      cases w with
      | @obj _ a ea =>
        obtain ⟨u, s3, e2, h⟩ := RunS.okM .setFld h
        obtain ⟨ob, eo, hl, rfl⟩ := ok_setFld e2
        obtain ⟨dx, fs, eH, hlen, R2⟩ := Rel.setFld R1.nil ea eo
        obtain ⟨h1, h2⟩ := hC ob.cls
        exact ⟨a, _, dx, fs, rfl, eH, h1, h2, by omega, h _ _ _ R2⟩
    | _ => exact h.elim
theorem NoEx.getFldI {n : Nat} {f : Str} : NoEx (VS.getFldI n f) := by
  intro s c ps s' e
  unfold VS.getFldI at e
  split at e <;> cases e
theorem ok_getFldI {n : Nat} {f : Str} {i : Int} {s s' : Sx} (e : getFldI n f s = .ok i s') : s' = s ∧ s.getR (.fld n f) = some (.int i) := by
  unfold getFldI at e
  split at e
  · rename_i a h; cases e; exact ⟨rfl, h⟩
  · cases e
/-- o.f += e, o.f -= e of whole numbers -/
theorem s_augF {o e : Expr} {f : Str} {co c : CE} {tpos pos : Pos} {op : Bop} {bop : Operator} (hop : (op = .add ∧ bop = .Add) ∨ (op = .sub ∧ bop = .Sub)) (hK : X.K = κ.K) (he : SE κ X W e ev c) (ho : SE κ X W o ev co) (hC : ∀ n, Cls X.K (κ.T n) ∧ NoAttr X.K (κ.T n) f) :
    PS X (.AugAssign (.Attribute o f tpos) bop e pos) (tS κ W fx (stepS P ev ex wf (.augF co f op c))) := by
  have main : ∀ (rd : V → V → Hp → VK → Prop), InOp X bop rd → (∀ (a b k : Int) H Q, augI op a b = some k → Q (.int k) H → rd (.int a) (.int b) H Q) → PS X (.AugAssign (.Attribute o f tpos) bop e pos) (tS κ W fx (stepS P ev ex wf (.augF co f op c))) := fun rd hin hrd => by
    refine (ps_fldaug ho.pe he.pe hin).mono fun E σ H h => ?_
    have h : tS κ W fx ((ev co).bind fun t => (deref t).bind fun d => match d with
      | .obj n => (getFldI n f).bind fun a => (need (quiet c)).bind fun _ => (evalI ev c).bind fun b => (opt (augI op a b)).bind fun k => (setFld n f (.int k)).bind fun _ => (pure .nx : M Flow)
      | _ => VS.fail) E σ H := by
      have e0 : stepS P ev ex wf (.augF co f op c) = (ev co).bind fun t => (deref t).bind fun d => match d with
        | .obj n => (getFldI n f).bind fun a => (need (quiet c)).bind fun _ => (evalI ev c).bind fun b => (opt (augI op a b)).bind fun k => (setFld n f (.int k)).bind fun _ => (pure .nx : M Flow)
        | _ => VS.fail := M.assoc _ _ _
      rw [← e0]; exact h
    refine exprS h fun {A as ts tds t s1 v H1} hf R h => ?_
    obtain ⟨d, ed, w, h⟩ := derefS R (t := t) (v := v) (by simp) h
    cases d with
    | obj n =>
      cases w with
      | @obj _ a ea =>
        have h : RunS κ A ts tds W E (((getFldI n f).bind fun a => (need (quiet c)).bind fun _ => (evalI ev c).bind fun b => (opt (augI op a b)).bind fun k => (setFld n f (.int k)).bind fun _ => (pure .nx : M Flow)) s1) := h
        obtain ⟨i, s2, e1, h3⟩ := RunS.okM (k := fun a => (need (quiet c)).bind fun _ => (evalI ev c).bind fun b => (opt (augI op a b)).bind fun k => (setFld n f (.int k)).bind fun _ => (pure .nx : M Flow)) .getFldI h
        obtain ⟨e0, e1⟩ := ok_getFldI e1
        subst e0
        obtain ⟨ob, eo, ef⟩ := getR_fld e1
        have R0 := R.dropAll
        obtain ⟨dx, fs, eH, nm⟩ := Rel.objAt R0 ea eo
        obtain ⟨h1, h2⟩ := hC ob.cls
        have hs := fget_iff (f := f) nm
        rw [ef] at hs
        obtain ⟨v, el⟩ := Option.isSome_iff_exists.mp hs.symm
        have ap : AtP as σ H1 ⟨.fld n f, []⟩ v := ⟨v, ⟨a, _, dx, fs, ea, eH, el⟩, .nil⟩
        have eg : s2.getP ⟨.fld n f, []⟩ = some (.int i) := by
          show (s2.getR (.fld n f)).bind (fun d => d.get []) = _
          rw [e1]; rfl
        have wv := Rel.at_vw R0 ap eg
        cases wv
        refine ⟨a, _, dx, fs, _, rfl, eH, h1, h2, el, A, as, ts, tds, s2, R0, ?_⟩
        have h : RunS κ A ts tds W E (((need (quiet c)).bind fun _ => (evalI ev c).bind fun b => (opt (augI op i b)).bind fun k => (setFld n f (.int k)).bind fun _ => (pure .nx : M Flow)) s2) := h3
        obtain ⟨_, s6, e6, h4⟩ := RunS.okM (k := fun _ => (evalI ev c).bind fun b => (opt (augI op i b)).bind fun k => (setFld n f (.int k)).bind fun _ => (pure .nx : M Flow)) .need h
        obtain ⟨hq, e7⟩ := ok_need.mp e6
        rw [e7] at h4
        have h : RunS κ A ts tds W E (((evalI ev c).bind fun b => (opt (augI op i b)).bind fun k => (setFld n f (.int k)).bind fun _ => (pure .nx : M Flow)) s2) := h4
        have eI : evalI ev c = (ev c).bind fun t => (deref t).bind fun d => (match d with | .int i => (pure i : M Int) | _ => VS.fail) := M.assoc _ _ _
        rw [eI, M.assoc] at h
        cases e2 : ev c s2 with
        | fail => rw [show ((ev c).bind _) s2 = _ from bind_fail_of e2] at h; exact h
        | exc ec ps s3 => rw [show ((ev c).bind _) s2 = .exc ec ps s3 from ex_bind'.mpr (.inl e2)] at h; exact RunSX.of h σ
        | ok t2 s3 =>
          rw [show ((ev c).bind _) s2 = _ from bind_ok_of e2] at h
          rw [M.assoc] at h
          intro v2 H2 as2 hA hx R2
          obtain ⟨d2, ed2, w2, h⟩ := derefS R2 (t := t2) (v := v2) (by simp) h
          cases d2 with
          | int j =>
            cases w2
            have h : RunS κ A ts tds W E (((opt (augI op i j)).bind fun k => (setFld n f (.int k)).bind fun _ => (pure .nx : M Flow)) s3) := h
            obtain ⟨k, s4, e4, h5⟩ := RunS.okM (k := fun k => (setFld n f (.int k)).bind fun _ => (pure .nx : M Flow)) .opt h
            obtain ⟨e4, e8⟩ := ok_opt.mp e4
            rw [e8] at h5
            obtain ⟨u, s5, e5, h6⟩ := RunS.okM (k := fun _ => (pure .nx : M Flow)) .setFld h5
            obtain ⟨ob2, eo2, hl, e9⟩ := ok_setFld e5
            rw [e9] at h6
            obtain ⟨dx2, fs2, eH2, hlen, R3⟩ := Rel.setFld (d := .int k) (v := .int k) (f := f) (Rel.scal R2.dropAll fun _ _ => .int fun _ => rfl) (pre_get hA ea) eo2
            have eH3 := hx hq _ _ eH
            have q := eH3.symm.trans eH2
            simp only [Option.some.injEq, HO.ins.injEq] at q
            obtain ⟨q1, q2, q3⟩ := q
            refine hrd _ _ _ _ _ e4 ⟨dx, fs, eH3, by rw [q3]; omega, ?_⟩
            rw [q1, q2, q3]
            exact h6 _ _ _ R3
          | _ => exact h.elim
    | _ => exact h.elim
  rcases hop with ⟨rfl, rfl⟩ | ⟨rfl, rfl⟩
  · exact main _ in_add fun a b k H Q e q => by cases e; exact ⟨a, b, rfl, rfl, q⟩
  · exact main _ in_sub fun a b k H Q e q => by cases e; exact ⟨a, b, rfl, rfl, q⟩
end
section
variable {X : Cx}
/-- X() -/
theorem pmk_own0 {C : Addr} {bmB : List Value} {B newId initId : String} {x : Str} {p pos : Pos} (F : PySem.ExcBaseFacts B newId initId bmB) (q : PySem.W.excIn X.K C bmB newId = true) (gC : X.mg x = some (.ref C)) (kC : PySem.W.keepIn X.K (.ref C) = true) (r : Raises X (.ref C)) (hg : Gl X x)
    (hdb : (x == ("__debug__" : Str)) = false) : PMk X (.Call (.Name x p) [] [] pos) (fun _ H Q => Q (.ref C) none H) := by
  intro pins s σ H Q I h
  refine wpAny_Call_Name_kw (ld_glob I hg gC ?_ hdb)
  refine PySem.W.callWith_K0 I.kIn kC ?_
  show wpAny _ _ (call (.ref C) []) _ _ _
  obtain ⟨bm, N, nm, qn, bs, hdct, sn, sub, ab, col, dd, k0, k1, k2, k3, k5, mN, hC, hN, hni, T⟩ := exc_obj I.kIn q
  refine wpAny_call_exc_subT F T hC hN hni (fun h' e hm => ?_) (by show 0 ≤ sizeLine; omega)
  exact mk_of I hm r h (I.hok.gone hm.new)
/-- a method's call in the model's words -/
theorem mcall_eval {o : Expr} {es : List Expr} {m : Str} {apos pos : Pos} {env : Env} (hbase : attributeBase o m env (eval o env) = eval o env) (hp0 : (starEach es env).any (·.1) = false) (hn : es.length < 30) (hline : (apos.endLine == pos.line) = true) : ∃ pl : Sem Bool, eval (.Call (.Attribute o m apos) es [] pos) env = (do
      let ov ← eval o env
      standAt apos.atName
      let (f, first) ← holding [ov] (getMethod ov m pl)
      callWith pos f first (backTo pos (starEach es env)) (backToKw pos (keywordEach [] env))) := by
  have hp : (backTo pos (starEach es env)).any (·.1) = false := backTo_any.trans hp0
  have hfew : methodCallForm (es.length + ([] : List Keyword).length) (backTo pos (starEach es env)) (backToKw pos (keywordEach [] env)) = true := by
    have h1 : (backTo pos (starEach es env)).all (fun x => !x.1) = true := by
      rw [List.all_eq_true]
      intro x hx
      cases e : x.1 with
      | false => rfl
      | true => rw [List.any_eq_false] at hp; exact absurd e (hp x hx)
    show ((backTo pos (starEach es env)).all (fun x => !x.1) && true && decide (es.length + 0 + 0 < 30)) = true
    rw [h1, decide_eq_true (by omega)]; rfl
  refine ⟨(do return (← importBound o env).getD true), ?_⟩
  have e0 : eval (.Call (.Attribute o m apos) es [] pos) env = (do
      let ov ← attributeBase o m env (eval o env)
      standAt apos.atName
      methodCall o m apos pos env ov (es.length + ([] : List Keyword).length) (backTo pos (starEach es env)) (backToKw pos (keywordEach [] env))) := rfl
  rw [e0, hbase]
  congr 1
  funext ov
  congr 1
  funext u
  unfold methodCall calleeOf methodCallPos
  rw [hfew, hline]
  rfl
end
end VS
/-! The checker: core against syntax. -/
namespace VS
open PySem L2
/-- what is caught; is there an `as`; what isinstance asks a caught error for -/
structure HdI where
  hd : List Nat := []
  asB : Bool := false
  isL : List Nat := []
structure Ck where
  P : Prog
  N : List Str
  sc : Scope
  fnN : List (Option Str)
  top : Bool
  clN : List Str
  atN : List Str
  exN : List (Option Str) := []
  hdN : HdI := {}
def visB (sc : Scope) (x : Str) : Bool := match sc.names.lookup x with
  | some .local => true | some .cell => true | some .free => true | _ => false
def glB (sc : Scope) (x : Str) : Bool := match sc.names.lookup x with
  | some .globalImplicit => true | _ => false
def okN (x : Str) : Bool := !(x == ("__debug__" : Str)) && !(x == ("__classdict__" : Str))
def litB : Lit → Const → Bool
  | .int i, .int j => decide (i = j)
  | .str x, .str y => decide (x = y)
  | .bl b, .bool c => decide (b = c)
  | .non, .none => true
  | _, _ => false
def scalD : D → Bool
  | .int _ => true | .bl _ => true | .str _ => true | .non => true
  | _ => false
def starB : Expr → Bool
  | .Starred _ _ => false
  | _ => true
def plainIxB : Expr → Bool
  | .Slice _ _ _ _ => false
  | .Tuple _ _ _ => false
  | _ => true
def baseB : Expr → Bool
  | .Call (.Name id _) [] [] _ => id != "super"
  | _ => true
def setB : Expr → Bool
  | .Set _ _ _ => false
  | _ => true
theorem star_ok {e : Expr} {es : List Expr} {env : Env} (h : starB e = true) : starEach (e :: es) env = (false, eval e env) :: starEach es env := by
  cases e <;> first | rfl | cases h
theorem plainIx_ok {e : Expr} (h : plainIxB e = true) : PlainIx e := by
  intro o i
  cases e <;> first | rfl | cases h
theorem base_ok {e : Expr} {x : Str} {env : Env} (h : baseB e = true) : attributeBase e x env (eval e env) = eval e env := by
  unfold baseB at h
  split at h
  · unfold attributeBase
    simp only [h, Bool.true_or, if_true]
  · rename_i hn
    unfold attributeBase
    split
    · rename_i id p pos
      exact (hn id p pos rfl).elim
    · rfl
theorem set_ok {e : Expr} {env : Env} (h : setB e = true) (x : Value) : foldedSetIterable e env x = pure x := by
  cases e <;> first | rfl | cases h
theorem vis_ok {sc : Scope} {x : Str} (h : visB sc x = true) : Vis sc x := by
  unfold visB at h
  unfold Vis
  split at h <;> rename_i e <;> first | exact .inl e | exact .inr (.inl e) | exact .inr (.inr e) | cases h
theorem gl_ok {X : Cx} {sc : Scope} {x : Str} (hs : X.env.scope = sc) (h : glB sc x = true) : Gl X x := by
  unfold glB at h
  split at h
  · rename_i e; show X.env.scope.names.lookup x = _; rw [hs]; exact e
  · cases h
theorem okN_ok {x : Str} (h : okN x = true) : (x == ("__debug__" : Str)) = false ∧ (x == ("__classdict__" : Str)) = false := by
  simpa [okN] using h
theorem behind_ok {op : CmpOp} {e : Expr} (h : setB e = true) : behindInMarks op e = false := by
  cases e <;> first | rfl | cases h
theorem last_ok {o1 o2 : CmpOp} {b c : Expr} (h : setB c = true) : lastMarks [o1, o2] [b, c] = false := behind_ok h
/-- in a def's own block -/
structure SCt (X : Cx) : Prop where
  fn : ∀ x, X.fn x = true
  kind : X.env.scope.kind = .function
  own : PassesOwn (model X.prog X.w) X.A X.env X.xe
  stk : X.stack = X.env :: X.outer
  frm : X.env.frame = some X.env.locals
/-- an error's class of the program, without an __init__ of its own -/
def ExcAt (K : PySem.W.Frag) (mg : Str → Option Value) (x : Str) (v : Value) : Prop := ∃ (B newId initId : String) (bmB : List Value) (C : Addr), PySem.ExcBaseFacts B newId initId bmB ∧ PySem.W.excIn K C bmB newId = true ∧ mg x = some (.ref C) ∧
  PySem.W.keepIn K (.ref C) = true ∧ PySem.W.subIn K (.ref C) (.type "BaseException") = some true ∧ PySem.W.typeIn K (.ref C) = some (.type "type") ∧ v = .ref C
/-- an error asked for its classes -/
structure IsX (κ : Kit) (K : PySem.W.Frag) (mg : Str → Option Value) (P : Prog) (isL : List Nat) : Prop where
  own : ∀ i, (P.excUp i).isEmpty = false → ∃ D, κ.exV i = .ref D ∧ ExcC K D ∧ PySem.W.subIn K (.ref D) (.type "ValueError") = some true
  kit : ∀ i j, isL.contains j = true → (P.excUp i).isEmpty = false → PySem.W.kitOne K (κ.exV i) (κ.exV j) = some ((P.excUp i).contains j)
  ve : mg "ValueError" = none
/-- what a context is known to give -/
structure SC (κ : Kit) (cf : Nat → List D → M (D × List D)) (X : Cx) (W : WX) (c : Ck) : Prop where
  hK : X.K = κ.K
  hN : X.N = c.N
  sc : X.env.scope = c.sc
  nd : X.N.Nodup
  calm : X.calm = true
  units : X.A.units + 65 < cLine
  scal : ∀ x d, c.P.glob x = some d → scalD d = true → ∃ v u, X.mg x = some u ∧ RelV v u ∧ Scal d v
  dict : ∀ x ks ds, c.P.glob x = some (.dK .wrt ks ds) → ∃ a, X.mg x = some (.ref a) ∧ KD X.K X.w a ks ds
  blt : ∀ x, x ∈ (["len", "abs", "int", "str", "max", "min", "sum", "any", "all", "divmod", "list", "tuple", "isinstance", "range", "bool", "enumerate", "zip", "set", "sorted"] : List Str) → X.mg x = none
  fns : ∀ i x, c.fnN[i]? = some (some x) → ∃ (k : Nat) (f : Addr) (fd' : FuncData) (ps : List Str) (fd : FD), c.P.fns[i]? = some fd ∧ FnOk X.prog X.w X.K X.mg X.base (L2.CX X.prog X.w) k f fd' ps (spF κ cf fd.np i) ∧ Room k X.A ∧ X.mg x = some (.ref f) ∧
    PySem.W.keepIn X.K (.ref f) = true ∧ Binds X.K fd' ps []
  cls : ∀ f, c.atN.contains f = true → ∀ n, Cls X.K (κ.T n) ∧ NoAttr X.K (κ.T n) f
  mth : ∀ ci ms m j, c.P.meths[ci]? = some ms → ms.lookup m = some j → m ≠ Str.ofString "__init__" → ∃ (k : Nat) (f : Addr) (fd' : FuncData) (ps : List Str) (fd : FD), c.P.fns[j]? = some fd ∧ FnOk X.prog X.w X.K X.mg X.base (L2.CX X.prog X.w) k f fd' ps (spF κ cf fd.np j) ∧ Room k X.A ∧ Cls X.K (κ.T ci) ∧
    Meth X.K (κ.T ci) m f ∧ Binds X.K fd' ps []
  mkc : ∀ ci x ms j, c.clN[ci]? = some x → c.P.meths[ci]? = some ms → ms.lookup (Str.ofString "__init__") = some j → ∃ (k : Nat) (f : Addr) (fd' : FuncData) (ps : List Str) (fd : FD), c.P.fns[j]? = some fd ∧ FnOk X.prog X.w X.K X.mg X.base (L2.CX X.prog X.w) k f fd' ps (spF κ cf fd.np j) ∧ Room (k + 1) X.A ∧
    Mk X.K (κ.T ci) f ∧ X.mg x = some (.ref (κ.T ci)) ∧ Binds X.K fd' ps []
  tk : Takes X W
  tops : c.top = true → SCt X
  exc : ∀ i x, c.exN[i]? = some (some x) → ExcAt X.K X.mg x (κ.exV i)
  exm : ∀ i j, c.hdN.hd.contains j = true → (c.P.excUp i).isEmpty = false → PySem.W.exmOne X.K (κ.exV i) (κ.exV j) = some ((c.P.excUp i).contains j)
  isx : c.hdN.asB = true → IsX κ X.K X.mg c.P c.hdN.isL
section
variable {κ : Kit} {cf : Nat → List D → M (D × List D)} {X : Cx} {W : WX} {c : Ck} {P : Prog}
/-- inside a comprehension -/
theorem SC.blk (S : SC κ cf X W c) (s : Shared) (H : Hp) (scope : Scope) (C : Addr) (cl : List (Str × Addr)) (fp : List Addr) : SC κ cf (X.blk s H scope (compEnvC scope cl C X.env) fp) W0 { c with sc := relS scope c.sc, top := false } :=
  ⟨S.hK, S.hN, by show relS scope X.env.scope = _; rw [S.sc], S.nd, S.calm, S.units, S.scal, S.dict, S.blt, S.fns, S.cls, S.mth, S.mkc, takes0, (fun h => by cases h), S.exc, S.exm, S.isx⟩
/-- with no steps left there is nothing to show -/
theorem pe_fail {e : Expr} {q : Bool} : PE X e (tE κ W q (VS.fail : M Tm)) := ⟨fun _ _ _ _ _ _ ⟨_, _, _, _, _, _, h⟩ => h.elim⟩
theorem se_fail {e : Expr} {ce : CE} : SE κ X W e (evalE P cf 0) ce :=
  ⟨pe_fail, ⟨fun _ _ _ _ _ _ ⟨_, _, _, _, _, _, h⟩ => h.elim⟩⟩
theorem se_loc {i : Nat} {x : Str} {pos : Pos} {ev : CE → M Tm} (hN : X.N[i]? = some x) (hv : Vis X.env.scope x) (hd : (x == ("__debug__" : Str)) = false) (hcd : (x == ("__classdict__" : Str)) = false) : SE κ X W (.Name x pos) (step P ev cf) (.loc i) :=
  SE.of_pe (snd_loc hN hv hd hcd) fun _ => rfl
end
end VS
namespace VS
open PySem L2
def chkL (f : CE → Expr → Bool) : List CE → List Expr → Bool
  | [], [] => true
  | a :: as, e :: es => starB e && f a e && chkL f as es
  | _, _ => false
def chkBo (f : CE → Expr → Bool) : BoolOp → CE → List Expr → Bool
  | _, ce, [e] => f ce e
  | .And, .and a b, e :: es => f a e && chkBo f .And b es
  | .Or, .or a b, e :: es => f a e && chkBo f .Or b es
  | _, _, _ => false
def nameB (c : Ck) (i : Nat) (x : Str) : Bool := decide (c.N[i]? = some x) && visB c.sc x && okN x
def gloB (c : Ck) (x : Str) : Bool := glB c.sc x && okN x && (match c.P.glob x with | some d => scalD d | none => false)
section
variable {κ : Kit} {cf : Nat → List D → M (D × List D)} {X : Cx} {W : WX} {c : Ck} {P : Prog}
theorem name_ok {i : Nat} {x : Str} {pos : Pos} {ev : CE → M Tm} (S : SC κ cf X W c) (h : nameB c i x = true) : SE κ X W (.Name x pos) (step P ev cf) (.loc i) := by
  simp only [nameB, Bool.and_eq_true, decide_eq_true_eq] at h
  obtain ⟨⟨h1, h2⟩, h3⟩ := h
  exact se_loc (by rw [S.hN]; exact h1) (by rw [S.sc]; exact vis_ok h2) (okN_ok h3).1 (okN_ok h3).2
theorem glo_ok {x : Str} {pos : Pos} {ev : CE → M Tm} (S : SC κ cf X W c) (h : gloB c x = true) : SE κ X W (.Name x pos) (step c.P ev cf) (.glo x) := by
  simp only [gloB, Bool.and_eq_true] at h
  obtain ⟨⟨h1, h2⟩, h3⟩ := h
  cases e : c.P.glob x with
  | none => rw [e] at h3; cases h3
  | some d =>
    rw [e] at h3
    obtain ⟨v, u, hm, r, hs⟩ := S.scal x d e h3
    exact SE.of_pe (snd_glo (gl_ok S.sc h1) hm r e hs (okN_ok h2).1) fun _ => rfl
theorem lit_ok {l : Lit} {k : Const} {j : Nat} {pos : Pos} {ev : CE → M Tm} (h : litB l k = true) : SE κ X W (.Constant k j pos) (step P ev cf) (.lit l) := by
  refine SE.of_pe (snd_lit ?_) fun _ => rfl
  cases l <;> cases k <;> simp [litB] at h <;> first | exact h | trivial
/-- arguments, all of one level -/
theorem chkL_ok {f : CE → Expr → Bool} {ev : CE → M Tm} (hf : ∀ ce e, f ce e = true → SE κ X W e ev ce) : ∀ {cs : List CE} {es : List Expr}, chkL f cs es = true → SAs κ X W ev es cs
  | [], [], _ => .nil
  | a :: as, e :: es, h => by
    simp only [chkL, Bool.and_eq_true] at h
    exact .cons (hf _ _ h.1.2) (star_ok h.1.1) (chkL_ok hf h.2)
  | [], _ :: _, h => by cases h
  | _ :: _, [], h => by cases h
theorem bo_fail {op : BoolOp} {es : List Expr} {pos : Pos} {ce : CE} : SBo κ X W op es pos (evalE P cf 0) ce :=
  ⟨pe_fail, ⟨fun _ _ _ _ _ _ _ ⟨_, _, _, _, _, _, h⟩ => h.elim⟩⟩
theorem chkBo_ok {f : CE → Expr → Bool} (hf : ∀ ce e, f ce e = true → ∀ m, SE κ X W e (evalE P cf m) ce) {pos : Pos} : ∀ {es : List Expr} {op : BoolOp} {ce : CE}, chkBo f op ce es = true → ∀ m, SBo κ X W op es pos (evalE P cf m) ce
  | [], op, ce, h, m => by cases op <;> cases ce <;> simp [chkBo] at h
  | [e], op, ce, h, m => SBo.one (hf _ _ (by cases op <;> cases ce <;> exact h) m)
  | e :: e2 :: es, op, ce, h, 0 => bo_fail
  | e :: e2 :: es, op, ce, h, m + 1 => by
    cases op <;> cases ce <;> first
      | (simp [chkBo] at h; done)
      | (simp only [chkBo, Bool.and_eq_true] at h
         first
         | exact SBo.and (hf _ _ h.1 m) (chkBo_ok hf h.2 m)
         | exact SBo.or (hf _ _ h.1 m) (chkBo_ok hf h.2 m))
theorem pe_bi {b : Bi} {cs : List CE} {e : Expr} {es : List Expr} {p pos : Pos} {t : TA} (hc : X.calm = true) (hb : plainBi b cs = true) (hg : Gl X (biName b).1) (hm : X.mg (biName b).1 = none) (ha : PA X (e :: es) t) (he : starEach (e :: es) X.env = (false, eval e X.env) :: starEach es X.env) (hpl : (backTo pos (starEach es X.env)).any (·.1) = false) :
    PE X (.Call (.Name (biName b).1 p) (e :: es) [] pos) (tCB (rBi X.K b) t) := by
  cases b <;> first
    | exact pe_callB (call_bi hc _) hg hm (by decide +kernel) ha (he := he) (hpl := hpl)
    | exact pe_callTy (call_bi hc _) hg hm (by decide +kernel) ha (he := he) (hpl := hpl)
    | (simp [plainBi] at hb; done)
end
end VS
/-! Methods that change a list: reverse, clear, pop, extend, insert. -/
namespace VS
open PySem L2
theorem ixN_seqIx {n : Nat} {i : Int} {j : Nat} (h : ixN n i = some j) : seqIndex? i n = some j := (ixN_seq h).1
theorem Rps.rev {K : PySem.W.Frag} {g : Gh} {H : Hp} : ∀ {ds : List D} {vs : List V} {f : Fp}, Rps K g H ds vs f → Rps K g H ds.reverse vs.reverse f
  | [], [], _, .nil z => .nil z
  | d :: ds, v :: vs, f, r => by
    obtain ⟨f1, f2, r1, r2, z⟩ := Rps.consI r
    rw [List.reverse_cons, List.reverse_cons]
    exact (Rps.rev r2).append (.cons (f2 := fun _ => 0) r1 (.nil fun _ => rfl) fun _ => rfl) fun b => by rw [z]; omega
  | [], _ :: _, _, r => by have := r.len; simp at this
  | _ :: _, [], _, r => by have := r.len; simp at this
/-- an item, taken out -/
theorem Rps.pick {K : PySem.W.Frag} {g : Gh} {H : Hp} : ∀ {ds : List D} {vs : List V} {f : Fp} {j : Nat} {d : D}, Rps K g H ds vs f → ds[j]? = some d → ∃ v f1 f2, vs[j]? = some v ∧ Rp K g H d v f1 ∧ Rps K g H (ds.eraseIdx j) (vs.eraseIdx j) f2 ∧ ∀ b, f b = f1 b + f2 b
  | d :: ds, v :: vs, f, 0, e, r, h => by
    cases h
    obtain ⟨f1, f2, r1, r2, z⟩ := Rps.consI r
    exact ⟨v, f1, f2, rfl, r1, r2, z⟩
  | d :: ds, v :: vs, f, j + 1, e, r, h => by
    obtain ⟨f1, f2, r1, r2, z⟩ := Rps.consI r
    obtain ⟨w, f3, f4, h1, r3, r4, z2⟩ := Rps.pick r2 (j := j) (by simpa using h)
    exact ⟨w, f3, fun b => f1 b + f4 b, by simpa using h1, r3, .cons r1 r4 fun _ => rfl, fun b => by have h1 := z b; have h2 := z2 b; dsimp only; omega⟩
  | [], _, _, _, _, _, h => by simp at h
  | _ :: _, [], _, _, _, r, _ => by have := r.len; simp at this
section
variable {κ : Kit} {X : Cx} {W : WX} {ev : CE → M Tm} {P : Prog} {cf : Nat → List D → M (D × List D)} {a c : Expr} {ca cb cc : CE} {pos apos : Pos}
theorem meth0 {b : Bm} {co : CE} {q : Bool} {σ : St} {H : Hp} {Q : VK} {r : V → List V → Hp → VK → Prop} (h : tE κ W q (step P ev cf (.bm b co [])) σ H Q) (hok : ∀ d, bmOk b d = true → isLst d = true)
    (hk : ∀ {A as as1 ts tds t s1 v H1}, as <+: as1 → KTms κ A as1 σ ts H1 s1 tds [] [] [(t, v)] → RunE κ A σ ts tds H as q W Q (bmT b t [] s1) → r v [] H1 Q) :
    tBM0 κ.K "list" r (tE κ W (quiet co) (ev co)) σ H Q := by
  have h : tE κ W q ((ev co).bind fun t => (deref t).bind fun d => (need (bmOk b d)).bind fun _ => (stays t []).bind fun _ => (evalL ev []).bind fun ts => bmT b t ts) σ H Q := h
  refine oneT h fun {A as as1 ts tds t s1 v H1} hA hx R h => ?_
  obtain ⟨d, ed, w, h⟩ := derefB (m := VS.fail) R (t := t) (v := v) (by simp) h
  obtain ⟨hb, h2⟩ := needB h
  obtain ⟨hs, h3⟩ := staysB h2
  refine ⟨?_, hk hA R h3⟩
  obtain ⟨o, ds, rfl⟩ := isLst_ok (hok d hb)
  exact tyList w
/-- the own list, written -/
theorem own_wr {t : Tm} {v : V} {A : Act} {σ : St} {ts : List V} {tds : List D} {as : List Addr} {H : Hp} {s s1 s2 : Sx} {pds : Path × List D} {ds' os es : List D} {ws : List V} {fv gv : List V → List V} (R : KTms κ A as σ ts H s tds ws es [(t, v)]) (e1 : ownList t s = .ok pds s1)
    (hk : ∀ (g : Gh) (H : Hp) (vs : List V) (f1 f2 : Fp), Rps κ.K g H pds.2 vs f1 → Rps κ.K g H es ws f2 → ∃ f3 f4 : Fp, Rps κ.K g H ds' (fv vs) f3 ∧ Rps κ.K g H os (gv vs) f4 ∧ ∀ b, f3 b + f4 b ≤ f1 b + f2 b) (e2 : s1.putP pds.1 (.lst .own ds') = some s2) :
    ∃ l vs, v = .ref l ∧ H l = some (.lst vs) ∧ pds.2.length = vs.length ∧ KRel κ A as σ (gv vs ++ ts) (upd H l (.lst (fv vs))) s2 (os ++ tds) := by
  cases t with
  | val _ =>
    have e1 : (Out.fail : Out (Path × List D)) = .ok pds _ := e1
    cases e1
  | «at» p =>
    obtain ⟨rfl, rfl, eg⟩ := getP_lst (ds := []) e1
    obtain ⟨hl1, R2, aP⟩ := R
    exact Rel.write (es := es) (ws := ws) (os := os) (gv := gv) (fv := fv) hl1 R2 (aP _ v List.mem_cons_self) eg hk e2
theorem noex_own {t : Tm} : NoEx (ownList t) := by
  cases t with
  | val _ => exact .fail
  | «at» p => exact .bind .deref fun d => by cases d <;> first | exact .fail | (rename_i o ds; cases o <;> first | exact .fail | exact .pure)
theorem listD {b : Bm} {t : Tm} {tms : List Tm} {v : V} {L : List (Tm × V)} {A : Act} {σ : St} {ts : List V} {tds : List D} {as as0 : List Addr} {H H0 : Hp} {s : Sx} {q : Bool} {Q : VK} (R : KTms κ A as σ ts H s tds [] [] L) (hm : (t, v) ∈ L) (h : RunE κ A σ ts tds H0 as0 q W Q (bmT b t tms s)) : ∃ d, deref t s = .ok d s ∧ Vw κ.K as H d v := by
  cases e : deref t s with
  | fail => rw [show bmT b t tms s = _ from bind_fail_of e] at h; exact h.elim
  | exc k ps s1 => exact (ex_deref.mp e).elim
  | ok d s1 =>
    obtain ⟨rfl, w⟩ := R.view hm e
    exact ⟨d, rfl, w⟩
theorem strNone {b : Bm} {x : Str} {tms : List Tm} {A : Act} {σ : St} {ts : List V} {tds : List D} {as0 : List Addr} {H0 : Hp} {s : Sx} {q : Bool} {Q : VK} (hn : ∀ ds, strBm b x ds = none) (h : RunE κ A σ ts tds H0 as0 q W Q (((derefL tms).bind fun ds => (opt (strBm b x ds)).bind fun r => (pure (.val r) : M Tm)) s)) : False := by
  obtain ⟨t', s', e, k⟩ := RunE.ok (.bind' .derefL fun _ => .bind' .opt fun _ => .pure) h
  simp only [ok_bind', ok_opt, ok_pure] at e
  obtain ⟨ds, s1, e1, r, s2, ⟨er, _⟩, _⟩ := e
  rw [hn] at er; cases er
theorem reverse_ok {t : Tm} {v : V} {A : Act} {σ : St} {ts : List V} {tds : List D} {as as0 : List Addr} {H H0 : Hp} {s : Sx} {Q : VK} (R : KTms κ A as σ ts H s tds [] [] [(t, v)]) (h : RunE κ A σ ts tds H0 as0 false W Q (bmT .reverse t [] s)) (hA : as0 <+: as) : rReverse v [] H Q := by
  obtain ⟨d, ed, wd⟩ := listD R (t := t) (v := v) (by simp) h
  rw [show bmT .reverse t [] s = _ from bind_ok_of ed] at h
  have h : RunE κ A σ ts tds H0 as0 false W Q (((ownList t).bind fun pds => (putAt pds.1 (.lst .own pds.2.reverse)).bind fun _ => (pure (.val .non) : M Tm)) s) := by
    cases wd with
    | str => exact (strNone (b := .reverse) (fun ds => rfl) h).elim
    | dK _ _ _ => exact h.elim
    | _ => exact h
  obtain ⟨t', s', e, k⟩ := RunE.ok (m := (ownList t).bind fun pds => (putAt pds.1 (.lst .own pds.2.reverse)).bind fun _ => (pure (.val .non) : M Tm)) (.bind' noex_own fun _ => .bind' .putAt fun _ => .pure) h
  simp only [ok_bind', ok_need, ok_pure, ok_putAt] at e
  obtain ⟨pds, s1, e1, _, s2, e2, rfl, rfl⟩ := e
  obtain ⟨l, vs, rfl, hH, hl, R1⟩ := own_wr (os := []) (gv := fun _ => []) (fv := List.reverse) R e1 (es := []) (ws := []) (fun g H vs f1 f2 r _ => ⟨_, _, r.rev, .nil fun _ => rfl, fun b => by simp⟩) e2
  exact ⟨l, vs, rfl, rfl, hH, k _ _ as hA (fun z => by cases z) (KRel.non R1)⟩
theorem clear_ok {t : Tm} {v : V} {A : Act} {σ : St} {ts : List V} {tds : List D} {as as0 : List Addr} {H H0 : Hp} {s : Sx} {Q : VK} (R : KTms κ A as σ ts H s tds [] [] [(t, v)]) (h : RunE κ A σ ts tds H0 as0 false W Q (bmT .clear t [] s)) (hA : as0 <+: as) : rClear v [] H Q := by
  obtain ⟨d, ed, wd⟩ := listD R (t := t) (v := v) (by simp) h
  rw [show bmT .clear t [] s = _ from bind_ok_of ed] at h
  have h : RunE κ A σ ts tds H0 as0 false W Q (((ownList t).bind fun pds => (putAt pds.1 (.lst .own [])).bind fun _ => (pure (.val .non) : M Tm)) s) := by
    cases wd with
    | str => exact (strNone (b := .clear) (fun ds => rfl) h).elim
    | dK _ _ _ => exact h.elim
    | _ => exact h
  obtain ⟨t', s', e, k⟩ := RunE.ok (m := (ownList t).bind fun pds => (putAt pds.1 (.lst .own [])).bind fun _ => (pure (.val .non) : M Tm)) (.bind' noex_own fun _ => .bind' .putAt fun _ => .pure) h
  simp only [ok_bind', ok_need, ok_pure, ok_putAt] at e
  obtain ⟨pds, s1, e1, _, s2, e2, rfl, rfl⟩ := e
  obtain ⟨l, vs, rfl, hH, hl, R1⟩ := own_wr (os := []) (gv := fun _ => []) (fv := fun _ => []) R e1 (es := []) (ws := []) (fun g H vs f1 f2 r _ => ⟨fun _ => 0, _, .nil fun _ => rfl, .nil fun _ => rfl, fun b => by simp⟩) e2
  exact ⟨l, vs, rfl, rfl, hH, k _ _ as hA (fun z => by cases z) (KRel.non R1)⟩
theorem pop_ok {t : Tm} {v : V} {A : Act} {σ : St} {ts : List V} {tds : List D} {as as0 : List Addr} {H H0 : Hp} {s : Sx} {Q : VK} (R : KTms κ A as σ ts H s tds [] [] [(t, v)]) (h : RunE κ A σ ts tds H0 as0 false W Q (bmT .pop t [] s)) (hA : as0 <+: as) : rPop v [] H Q := by
  obtain ⟨d, ed, wd⟩ := listD R (t := t) (v := v) (by simp) h
  rw [show bmT .pop t [] s = _ from bind_ok_of ed] at h
  have h : RunE κ A σ ts tds H0 as0 false W Q (((ownList t).bind fun pds => (opt pds.2[pds.2.length - 1]?).bind fun x => (putAt pds.1 (.lst .own pds.2.dropLast)).bind fun _ => (pure (.val x) : M Tm)) s) := by
    cases wd with
    | str => exact (strNone (b := .pop) (fun ds => rfl) h).elim
    | dK _ _ _ => exact h.elim
    | _ => exact h
  obtain ⟨t', s', e, k⟩ := RunE.ok (m := (ownList t).bind fun pds => (opt pds.2[pds.2.length - 1]?).bind fun x => (putAt pds.1 (.lst .own pds.2.dropLast)).bind fun _ => (pure (.val x) : M Tm)) (.bind' noex_own fun _ => .bind' .opt fun _ => .bind' .putAt fun _ => .pure) h
  simp only [ok_bind', ok_opt, ok_pure, ok_putAt] at e
  obtain ⟨pds, s1, e1, x, s2, ⟨ex, rfl⟩, _, s3, e2, rfl, rfl⟩ := e
  have er : ∀ {α : Type} (l : List α), l.dropLast = l.eraseIdx (l.length - 1) := fun l => by
    rw [List.dropLast_eq_take, List.eraseIdx_eq_take_drop_succ]
    rw [List.drop_eq_nil_of_le (by omega), List.append_nil]
  rw [er] at e2
  obtain ⟨l, vs, rfl, hH, hl, R1⟩ := own_wr (os := [x]) (gv := fun vs => [vs.getD (pds.2.length - 1) .non]) (fv := fun vs => vs.eraseIdx (pds.2.length - 1)) (es := []) (ws := []) R e1 (fun g H vs f1 f2 r _ => by
    obtain ⟨v, f3, f4, h1, h2, h3, z⟩ := Rps.pick r ex
    refine ⟨f4, fun b => f3 b, h3, .cons (f2 := fun _ => 0) ?_ (.nil fun _ => rfl) (fun _ => rfl), fun b => by have h5 := z b; have h6 : (fun b => f3 b) b = f3 b := rfl; dsimp only; omega⟩
    rw [List.getD_eq_getElem?_getD, h1]; exact h2) e2
  have hv : ∃ y, vs[vs.length - 1]? = some y := ⟨_, List.getElem?_eq_getElem (by have := (List.getElem?_eq_some_iff.mp ex).1; omega)⟩
  obtain ⟨y, hy⟩ := hv
  rw [hl] at R1
  refine ⟨l, vs, y, rfl, rfl, hH, hy, ?_⟩
  have e3 : vs.getD (vs.length - 1) .non = y := by rw [List.getD_eq_getElem?_getD, hy]; rfl
  simp only [e3, ← er] at R1
  exact k _ _ as hA (fun z => by cases z) (TmsR.one R1)
theorem popAt_ok {t ti : Tm} {v vi : V} {A : Act} {σ : St} {ts : List V} {tds : List D} {as as0 : List Addr} {H H0 : Hp} {s : Sx} {Q : VK} (R : KTms κ A as σ ts H s tds [] [] [(ti, vi), (t, v)]) (h : RunE κ A σ ts tds H0 as0 false W Q (bmT .pop t [ti] s)) (hA : as0 <+: as) : rPopAt v [vi] H Q := by
  obtain ⟨d, ed, wd⟩ := listD R (t := t) (v := v) (by simp) h
  rw [show bmT .pop t [ti] s = _ from bind_ok_of ed] at h
  have h : RunE κ A σ ts tds H0 as0 false W Q (((deref ti).bind fun i => (ownList t).bind fun pds => match i with
      | .int i => (need (small62 i)).bind fun _ => (opt (ixN pds.2.length i)).bind fun j => (opt pds.2[j]?).bind fun x => (putAt pds.1 (.lst .own (pds.2.eraseIdx j))).bind fun _ => (pure (.val x) : M Tm)
      | _ => VS.fail) s) := by
    cases wd with
    | str => exact (strNone (b := .pop) (fun ds => rfl) h).elim
    | dK _ _ _ => exact h.elim
    | _ => exact h
  obtain ⟨t', s', e, k⟩ := RunE.ok (m := (deref ti).bind fun i => (ownList t).bind fun pds => match i with
      | .int i => (need (small62 i)).bind fun _ => (opt (ixN pds.2.length i)).bind fun j => (opt pds.2[j]?).bind fun x => (putAt pds.1 (.lst .own (pds.2.eraseIdx j))).bind fun _ => (pure (.val x) : M Tm)
      | _ => VS.fail) (.bind' .deref fun i => .bind' noex_own fun _ => by cases i <;> first | exact .fail | exact .bind' .need fun _ => .bind' .opt fun _ => .bind' .opt fun _ => .bind' .putAt fun _ => .pure) h
  simp only [ok_bind'] at e
  obtain ⟨i, s1, e0, pds, s2, e1, e⟩ := e
  obtain ⟨rfl, wi⟩ := R.view (t := ti) (v := vi) List.mem_cons_self e0
  cases i with
  | int i =>
    cases wi
    simp only [ok_bind', ok_opt, ok_need, ok_pure, ok_putAt] at e
    obtain ⟨_, s3, ⟨hs, rfl⟩, j, s4, ⟨ej, rfl⟩, x, s5, ⟨ex, rfl⟩, _, s6, e2, rfl, rfl⟩ := e
    obtain ⟨l, vs, rfl, hH, hl, R1⟩ := own_wr (os := [x]) (gv := fun vs => [vs.getD j .non]) (fv := fun vs => vs.eraseIdx j) (es := []) (ws := []) R.drop e1 (fun g H vs f1 f2 r _ => by
      obtain ⟨v, f3, f4, h1, h2, h3, z⟩ := Rps.pick r ex
      refine ⟨f4, fun b => f3 b, h3, .cons (f2 := fun _ => 0) ?_ (.nil fun _ => rfl) (fun _ => rfl), fun b => by have h5 := z b; dsimp only; omega⟩
      rw [List.getD_eq_getElem?_getD, h1]; exact h2) e2
    have hj : j < vs.length := by have := (List.getElem?_eq_some_iff.mp ex).1; omega
    have hy : vs[j]? = some vs[j] := List.getElem?_eq_getElem hj
    have hs := of_decide_eq_true hs
    rw [hl] at ej
    have e3 : vs.getD j .non = vs[j] := by rw [List.getD_eq_getElem?_getD, hy]; rfl
    simp only [e3] at R1
    exact ⟨l, vs, i, j, vs[j], rfl, rfl, hH, by omega, by omega, ixN_seqIx ej, hy, k _ _ as hA (fun z => by cases z) (TmsR.one R1)⟩
  | _ => exact (ok_fail.mp e).elim
abbrev rInsI : V → List V → Hp → VK → Prop := fun x vs H Q => ∃ (l : Addr) (xs : List V) (i : Int) (y : V), x = .ref l ∧ vs = [.int i, y] ∧ H l = some (.lst xs) ∧ xs.length < sizeLine ∧ 0 ≤ i ∧ i < 2 ^ 63 ∧ Q .non (upd H l (.lst (xs.take i.toNat ++ [y] ++ xs.drop i.toNat)))
theorem insert_ok {t ti tu : Tm} {v vi vu : V} {A : Act} {σ : St} {ts : List V} {tds : List D} {as as0 : List Addr} {H H0 : Hp} {s : Sx} {Q : VK} (R : KTms κ A as σ ts H s tds [] [] [(tu, vu), (ti, vi), (t, v)]) (h : RunE κ A σ ts tds H0 as0 false W Q (bmT .insert t [ti, tu] s)) (hA : as0 <+: as) : rInsI v [vi, vu] H Q := by
  obtain ⟨d, ed, wd⟩ := listD R (t := t) (v := v) (by simp) h
  rw [show bmT .insert t [ti, tu] s = _ from bind_ok_of ed] at h
  have h : RunE κ A σ ts tds H0 as0 false W Q (((escape tu).bind fun x => (deref ti).bind fun i => (ownList t).bind fun pds => match i with
      | .int i => (need (decide (pds.2.length < sizeLine) && decide (0 ≤ i ∧ i < 2 ^ 62))).bind fun _ => (putAt pds.1 (.lst .own (pds.2.take i.toNat ++ x :: pds.2.drop i.toNat))).bind fun _ => (pure (.val .non) : M Tm)
      | _ => VS.fail) s) := by
    cases wd with
    | str => exact (strNone (b := .insert) (fun ds => rfl) h).elim
    | dK _ _ _ => exact h.elim
    | _ => exact h
  obtain ⟨t', s', e, k⟩ := RunE.ok (m := (escape tu).bind fun x => (deref ti).bind fun i => (ownList t).bind fun pds => match i with
      | .int i => (need (decide (pds.2.length < sizeLine) && decide (0 ≤ i ∧ i < 2 ^ 62))).bind fun _ => (putAt pds.1 (.lst .own (pds.2.take i.toNat ++ x :: pds.2.drop i.toNat))).bind fun _ => (pure (.val .non) : M Tm)
      | _ => VS.fail) (.bind' .escape fun x => .bind' .deref fun i => .bind' noex_own fun _ => by cases i <;> first | exact .fail | exact .bind' .need fun _ => .bind' .putAt fun _ => .pure) h
  simp only [ok_bind'] at e
  obtain ⟨x, s0, ex, i, s1, e0, pds, s2, e1, e⟩ := e
  have R1 := R.esc ex
  obtain ⟨rfl, wi⟩ := R1.view (t := ti) (v := vi) List.mem_cons_self e0
  cases i with
  | int i =>
    cases wi
    simp only [ok_bind', ok_opt, ok_need, ok_pure, ok_putAt] at e
    obtain ⟨_, s3, ⟨hs, rfl⟩, _, s6, e2, rfl, rfl⟩ := e
    obtain ⟨hz, hi⟩ := andq hs
    have hz := of_decide_eq_true hz
    have hi := of_decide_eq_true hi
    obtain ⟨l, vs, rfl, hH, hl, R1⟩ := own_wr (os := []) (gv := fun _ => []) (fv := fun vs => vs.take i.toNat ++ [vu] ++ vs.drop i.toNat) (es := [x]) (ws := [vu]) R1.drop e1 (fun g H vs f1 f2 r r2 => by
      obtain ⟨g1, r3, z1⟩ := r.take i.toNat
      have r1' := r
      rw [← List.take_append_drop i.toNat pds.2] at r1'
      obtain ⟨v1, v2, g1, g2, e7, r3, r4, z1⟩ := r1'.split
      have hv : v1 = vs.take i.toNat ∧ v2 = vs.drop i.toNat := by
        have := r3.len
        have := r4.len
        have h8 := r.len
        rw [List.length_take] at *
        rw [List.length_drop] at *
        exact List.append_inj (e7.symm.trans (List.take_append_drop i.toNat vs).symm) (by rw [List.length_take]; omega)
      obtain ⟨rfl, rfl⟩ := hv
      have q := (r3.append r2 fun _ => rfl).append r4 fun _ => rfl
      rw [show pds.2.take i.toNat ++ [x] ++ pds.2.drop i.toNat = pds.2.take i.toNat ++ x :: pds.2.drop i.toNat by simp] at q
      exact ⟨_, fun _ => 0, q, .nil fun _ => rfl, fun b => by dsimp only; have := z1 b; omega⟩) e2
    exact ⟨l, vs, i, vu, rfl, rfl, hH, by omega, hi.1, by omega, k _ _ as hA (fun z => by cases z) (KRel.non R1)⟩
  | _ => exact (ok_fail.mp e).elim
theorem extend_ok {t u : Tm} {v w : V} {A : Act} {σ : St} {ts : List V} {tds : List D} {as as0 : List Addr} {H H0 : Hp} {s : Sx} {Q : VK} (R : KTms κ A as σ ts H s tds [] [] [(u, w), (t, v)]) (h : RunE κ A σ ts tds H0 as0 false W Q (bmT .extend t [u] s)) (hA : as0 <+: as) : rExtend v [w] H Q := by
  obtain ⟨d, ed, wd⟩ := listD R (t := t) (v := v) (by simp) h
  rw [show bmT .extend t [u] s = _ from bind_ok_of ed] at h
  have h : RunE κ A σ ts tds H0 as0 false W Q (((kidsTr u).bind fun l => (ownList t).bind fun pds => (need (decide (pds.2.length + l.length ≤ sizeLine))).bind fun _ => (putAt pds.1 (.lst .own (pds.2 ++ l))).bind fun _ => (pure (.val .non) : M Tm)) s) := by
    cases wd with
    | str => exact (strNone (b := .extend) (fun ds => rfl) h).elim
    | dK _ _ _ => exact h.elim
    | _ => exact h
  obtain ⟨t', s', e, k⟩ := RunE.ok (m := (kidsTr u).bind fun l => (ownList t).bind fun pds => (need (decide (pds.2.length + l.length ≤ sizeLine))).bind fun _ => (putAt pds.1 (.lst .own (pds.2 ++ l))).bind fun _ => (pure (.val .non) : M Tm)) (.bind' .kidsTr fun _ => .bind' noex_own fun _ => .bind' .need fun _ => .bind' .putAt fun _ => .pure) h
  simp only [ok_bind', ok_need, ok_pure, ok_putAt] at e
  obtain ⟨x, s0, ex, pds, s2, e1, _, s3, ⟨hz, rfl⟩, _, s6, e2, rfl, rfl⟩ := e
  obtain ⟨b, ws, rfl, hb, hlw, R1⟩ := R.kidsTr ex
  rw [List.append_nil, List.append_nil] at R1
  have hz := of_decide_eq_true hz
  obtain ⟨l, vs, rfl, hH, hl, R1⟩ := own_wr (os := []) (gv := fun _ => []) (fv := fun vs => vs ++ ws) (es := x) (ws := ws) R1 e1 (fun g H vs f1 f2 r r2 => ⟨_, _, r.append r2 fun _ => rfl, .nil fun _ => rfl, fun b => by simp⟩) e2
  exact ⟨l, b, vs, ws, rfl, rfl, hH, hb, by omega, k _ _ as hA (fun z => by cases z) (KRel.non R1)⟩
/-- with things handed -/
theorem methL {b : Bm} {co : CE} {es : List CE} {q : Bool} {σ : St} {H : Hp} {Q : VK} {r : V → List V → Hp → VK → Prop} (h : tE κ W q (step P ev cf (.bm b co es)) σ H Q) (hok : ∀ d, bmOk b d = true → isLst d = true)
    (hk : ∀ {A as as2 ts tds t tms s1 v vs H2}, tms.length = vs.length → tms.length = es.length → as <+: as2 → KTms κ A as2 σ ts H2 s1 tds [] [] (rz tms vs [(t, v)]) → RunE κ A σ ts tds H as q W Q (bmT b t tms s1) → r v vs H2 Q) :
    tBM κ.K "list" r (tE κ W (quiet co) (ev co)) (tLs κ W ev es) σ H Q := by
  have h : tE κ W q (bmP ev (bmOk b) b co es) σ H Q := h
  refine methP h (fun {as d v H1} w hb => by obtain ⟨o, ds, rfl⟩ := isLst_ok (hok d hb); exact tyList w) fun {A as as1 as2 ts tds t tms s1 v vs H1 H2 s0 d} ed w hok2 hl hl2 hA hA2 hx hx2 R h => ?_
  exact hk hl hl2 (hA.trans hA2) R h
theorem lst_reverse (d : D) (h : bmOk .reverse d = true) : isLst d = true := by cases d <;> first | rfl | cases h
theorem lst_clear (d : D) (h : bmOk .clear d = true) : isLst d = true := by cases d <;> first | rfl | cases h
theorem lst_pop (d : D) (h : bmOk .pop d = true) : isLst d = true := by cases d <;> first | rfl | cases h
theorem lst_insert (d : D) (h : bmOk .insert d = true) : isLst d = true := by cases d <;> first | rfl | cases h
theorem lst_extend (d : D) (h : bmOk .extend d = true) : isLst d = true := by cases d <;> first | rfl | cases h
theorem snd_reverse (hK : X.K = κ.K) (ho : SE κ X W a ev ca) (hbase : attributeBase a "reverse" X.env (eval a X.env) = eval a X.env) (hline : (apos.endLine == pos.line) = true) :
    PE X (.Call (.Attribute a "reverse" apos) [] [] pos) (tE κ W (quiet (.bm .reverse ca [])) (step P ev cf (.bm .reverse ca []))) := by
  refine (pe_bm0 PySem.F.plainAttrs_list PySem.F.slot_list_reverse PySem.F.type_list_reverse mt_reverse ho.pe hbase hline).mono fun σ H Q h => ?_
  rw [hK]
  have h : tE κ W false (step P ev cf (.bm .reverse ca [])) σ H Q := h
  exact meth0 h lst_reverse fun hA R h => reverse_ok R h hA
theorem snd_clear (hK : X.K = κ.K) (ho : SE κ X W a ev ca) (hbase : attributeBase a "clear" X.env (eval a X.env) = eval a X.env) (hline : (apos.endLine == pos.line) = true) :
    PE X (.Call (.Attribute a "clear" apos) [] [] pos) (tE κ W (quiet (.bm .clear ca [])) (step P ev cf (.bm .clear ca []))) := by
  refine (pe_bm0 PySem.F.plainAttrs_list PySem.F.slot_list_clear PySem.F.type_list_clear mt_clear ho.pe hbase hline).mono fun σ H Q h => ?_
  rw [hK]
  have h : tE κ W false (step P ev cf (.bm .clear ca [])) σ H Q := h
  exact meth0 h lst_clear fun hA R h => clear_ok R h hA
theorem snd_pop (hK : X.K = κ.K) (ho : SE κ X W a ev ca) (hbase : attributeBase a "pop" X.env (eval a X.env) = eval a X.env) (hline : (apos.endLine == pos.line) = true) :
    PE X (.Call (.Attribute a "pop" apos) [] [] pos) (tE κ W (quiet (.bm .pop ca [])) (step P ev cf (.bm .pop ca []))) := by
  refine (pe_bm0 PySem.F.plainAttrs_list PySem.F.slot_list_pop PySem.F.type_list_pop mt_pop ho.pe hbase hline).mono fun σ H Q h => ?_
  rw [hK]
  have h : tE κ W false (step P ev cf (.bm .pop ca [])) σ H Q := h
  exact meth0 h lst_pop fun hA R h => pop_ok R h hA
theorem snd_popAt {e : Expr} (hK : X.K = κ.K) (ho : SE κ X W a ev ca) (he : SAs κ X W ev [e] [cb]) (hbase : attributeBase a "pop" X.env (eval a X.env) = eval a X.env) (hline : (apos.endLine == pos.line) = true) :
    PE X (.Call (.Attribute a "pop" apos) [e] [] pos) (tE κ W (quiet (.bm .pop ca [cb])) (step P ev cf (.bm .pop ca [cb]))) := by
  have hs : starEach [e] X.env = (false, eval e X.env) :: starEach [] X.env := by cases he with | cons _ h _ => exact h
  refine (pe_bm PySem.F.plainAttrs_list PySem.F.slot_list_pop PySem.F.type_list_pop mt_popAt ho.pe he.pa hbase (by
    rw [hs]; rfl) hline hs rfl).mono fun σ H Q h => ?_
  rw [hK]
  have h : tE κ W false (step P ev cf (.bm .pop ca [cb])) σ H Q := h
  refine methL h lst_pop fun {A as as2 ts tds t tms s1 v vs H2} hl hl2 hA R h => ?_
  match tms, vs, hl, hl2 with
  | [u], [w], _, _ => exact popAt_ok R h hA
theorem snd_extend {e : Expr} (hK : X.K = κ.K) (ho : SE κ X W a ev ca) (he : SAs κ X W ev [e] [cb]) (hbase : attributeBase a "extend" X.env (eval a X.env) = eval a X.env) (hline : (apos.endLine == pos.line) = true) :
    PE X (.Call (.Attribute a "extend" apos) [e] [] pos) (tE κ W (quiet (.bm .extend ca [cb])) (step P ev cf (.bm .extend ca [cb]))) := by
  have hs : starEach [e] X.env = (false, eval e X.env) :: starEach [] X.env := by cases he with | cons _ h _ => exact h
  refine (pe_bm PySem.F.plainAttrs_list PySem.F.slot_list_extend PySem.F.type_list_extend mt_extend ho.pe he.pa hbase (by
    rw [hs]; rfl) hline hs rfl).mono fun σ H Q h => ?_
  rw [hK]
  have h : tE κ W false (step P ev cf (.bm .extend ca [cb])) σ H Q := h
  refine methL h lst_extend fun {A as as2 ts tds t tms s1 v vs H2} hl hl2 hA R h => ?_
  match tms, vs, hl, hl2 with
  | [u], [w], _, _ => exact extend_ok R h hA
theorem snd_insert {e1 e2 : Expr} {c1 c2 : CE} (hK : X.K = κ.K) (ho : SE κ X W a ev ca) (he : SAs κ X W ev [e1, e2] [c1, c2]) (hbase : attributeBase a "insert" X.env (eval a X.env) = eval a X.env) (hline : (apos.endLine == pos.line) = true) :
    PE X (.Call (.Attribute a "insert" apos) [e1, e2] [] pos) (tE κ W (quiet (.bm .insert ca [c1, c2])) (step P ev cf (.bm .insert ca [c1, c2]))) := by
  obtain ⟨hs, hp, ht⟩ : starEach [e1, e2] X.env = (false, eval e1 X.env) :: starEach [e2] X.env ∧ (starEach [e2] X.env = [(false, eval e2 X.env)]) ∧ True := by
    cases he with | cons _ h r => cases r with | cons _ h2 _ => exact ⟨h, h2, trivial⟩
  refine (pe_bm PySem.F.plainAttrs_list PySem.F.slot_list_insert PySem.F.type_list_insert mt_insert ho.pe he.pa hbase (by
    rw [hs, hp]; rfl) hline hs (by rw [hp]; rfl)).mono fun σ H Q h => ?_
  rw [hK]
  have h : tE κ W false (step P ev cf (.bm .insert ca [c1, c2])) σ H Q := h
  refine methL h lst_insert fun {A as as2 ts tds t tms s1 v vs H2} hl hl2 hA R h => ?_
  match tms, vs, hl, hl2 with
  | [u1, u2], [w1, w2], _, _ => exact insert_ok R h hA
end
end VS
/-! More expressions for the checker. -/
namespace VS
open PySem L2
/-- something laid that nobody holds -/
theorem Rel.lay {K : PySem.W.Frag} {T : Nat → Addr} {A : Act} {as : List Addr} {σ : St} {ts : List V} {H : Hp} {s : Sx} {tds : List D} {p : Addr} {o : HO} (R : Rel K T A as σ ts H s tds) (hp : H p = none) : Rel K T A as σ ts (upd H p o) s tds := by
  obtain ⟨fx, Fz, tot, evs, fE, fT, fS, C, S⟩ := R
  have h0 := C.free hp
  have hf := S.fzNone hp
  have C2 := C.mono (g' := ⟨upd Fz p o, A.Lk, as⟩) (H' := upd H p o) (Ext.upd hf) rfl fun b hb => ⟨upd_ne (by rintro rfl; omega), rfl⟩
  exact ⟨fx, _, _, evs, fE, _, fS, C2, S.allocF (o := o) hp h0⟩
section
variable {κ : Kit} {X : Cx} {W : WX} {ev : CE → M Tm} {P : Prog} {cf : Nat → List D → M (D × List D)} {a : Expr} {ca : CE} {pos : Pos}
theorem kit_pair {K : PySem.W.Frag} {t : String} {b1 b2 r : Bool} (h1 : kitB t "list" = some b1) (h2 : kitB t "tuple" = some b2) (h3 : (b1 || b2) = r) : PySem.W.kitAny K (.type t) [.type "list", .type "tuple"] = some r := by
  refine kitAny_cons (kit_ty h1) (fun z => kitAny_cons (kit_ty h2) (fun z2 => ?_) fun z2 => ?_) fun z => ?_
  · subst z z2 h3; rfl
  · subst z z2 h3; rfl
  · subst z h3; rfl
theorem isi_seq {K : PySem.W.Frag} {H : Hp} {as : List Addr} {d : D} {v : V} {up : Nat → List Nat} {r : Bool} (w : Vw K as H d v) (h : isiD up d .seq = some r) (ho : notObj d = true) : ∃ u, TyX K H v u ∧ PySem.W.kitAny K u [.type "list", .type "tuple"] = some r := by
  cases w with
  | non => cases h; exact ⟨_, .base .non, kit_pair (b1 := false) (b2 := false) (by decide +kernel) (by decide +kernel) rfl⟩
  | bl => cases h; exact ⟨_, .base (.bl _), kit_pair (b1 := false) (b2 := false) (by decide +kernel) (by decide +kernel) rfl⟩
  | int => cases h; exact ⟨_, .base (.int _), kit_pair (b1 := false) (b2 := false) (by decide +kernel) (by decide +kernel) rfl⟩
  | str => cases h; exact ⟨_, .base (.str _), kit_pair (b1 := false) (b2 := false) (by decide +kernel) (by decide +kernel) rfl⟩
  | gone => simp [isiD] at h
  | obj e => cases ho
  | tup q ws => cases h; exact ⟨_, .base (.tup q), kit_pair (b1 := false) (b2 := true) (by decide +kernel) (by decide +kernel) rfl⟩
  | @lst o ds vs a q t0 ws =>
    have hu : TyX K H (.ref a) (.type "list") := by
      rcases q with (q | ⟨o', q⟩) | ⟨o', its, n', hk, hc, _⟩
      · exact .base (.lst q)
      · exact .base (.frz q)
      · exact .kList hk hc
    cases h
    exact ⟨_, hu, kit_pair (b1 := true) (b2 := false) (by decide +kernel) (by decide +kernel) rfl⟩
  | dK q hl ws => cases h; exact ⟨_, .base (.dK q), kit_pair (b1 := false) (b2 := false) (by decide +kernel) (by decide +kernel) rfl⟩
theorem pe_ty {x : Str} {n : String} {p : Pos} (h : (x = "list" ∧ n = "list") ∨ (x = "tuple" ∧ n = "tuple")) (hg : Gl X x) (hm : X.mg x = none) : PE X (.Name x p) (tC (.ty n)) := by
  rcases h with ⟨rfl, rfl⟩ | ⟨rfl, rfl⟩
  · exact pe_bltn hg hm (show bootBuiltins "list" = some (.type "list") by decide +kernel) rfl (by decide) (by decide)
  · exact pe_bltn hg hm (show bootBuiltins "tuple" = some (.type "tuple") by decide +kernel) rfl (by decide) (by decide)
theorem snd_isiS {p p2 p3 tp : Pos} {k : Nat} (hK : X.K = κ.K) (hg : Gl X "isinstance") (hm : X.mg "isinstance" = none) (hg2 : Gl X "list") (hm2 : X.mg "list" = none) (hg3 : Gl X "tuple") (hm3 : X.mg "tuple" = none) (ha : SE κ X W a ev ca)
    (hs : starEach [a, .Tuple [.Name "list" p2, .Name "tuple" p3] k tp] X.env = (false, eval a X.env) :: starEach [.Tuple [.Name "list" p2, .Name "tuple" p3] k tp] X.env) :
    PE X (.Call (.Name "isinstance" p) [a, .Tuple [.Name "list" p2, .Name "tuple" p3] k tp] [] pos) (tE κ W (quiet (.isi ca .seq)) (step P ev cf (.isi ca .seq))) := by
  have hT : PE X (.Tuple [.Name "list" p2, .Name "tuple" p3] k tp) (tTup (tCons (tC (.ty "list")) (tCons (tC (.ty "tuple")) tNil))) :=
    pe_tup (pa_cons (pe_ty (.inl ⟨rfl, rfl⟩) hg2 hm2) (pa_cons (pe_ty (.inr ⟨rfl, rfl⟩) hg3 hm3) pa_nil))
  refine (pe_callB call_isiT hg hm PyProof.Rows.boot_isinstance (pa_cons ha.pe (pa_cons hT pa_nil) hs) (he := hs)).mono fun σ H Q h => ?_
  have h : tE κ W (quiet ca) ((evalD ev ca).bind fun d => (need (notObj d)).bind fun _ => (opt (isiD P.excUp d .seq)).bind fun b => (pure (.val (.bl b)) : M Tm)) σ H Q := h
  refine oneD h fun {A as as1 ts tds d s1 v H1} hA hx' w R h => ?_
  cases hn' : notObj d with
  | false => rw [hn'] at h; exact h.elim
  | true =>
    rw [hn'] at h
    have h : RunE κ A σ ts tds H as (quiet ca) W Q (((opt (isiD P.excUp d .seq)).bind fun b => (pure (.val (.bl b)) : M Tm)) s1) := h
    cases e : isiD P.excUp d .seq with
    | none => rw [e] at h; exact h.elim
    | some r =>
      rw [e] at h
      refine ⟨by show 2 ≤ sizeLine; decide, fun q hq => ?_⟩
      obtain ⟨u, tu, kk⟩ := isi_seq (Vw.ext List.prefix_rfl (Ext.upd (o := .tup [.ty "list", .ty "tuple"]) hq) w) e hn'
      have R2 := Rel.lay (o := .tup [.ty "list", .ty "tuple"]) R hq
      have E2 : Ext H1 (upd H1 q (.tup [.ty "list", .ty "tuple"])) := Ext.upd hq
      rw [hK]
      refine ⟨v, q, [.ty "list", .ty "tuple"], u, [.type "list", .type "tuple"], r, rfl, upd_same, .cons (.ty _) (.cons (.ty _) .nil), ?_, kk, RunE.pureV (d := .bl r) h hA (fun z => (hx' z).trans E2) R2 (scal_bl _)⟩
      exact tu
end
/-- more expressions -/
def chkMore (f : CE → Expr → Bool) (c : Ck) : CE → Expr → Bool
  | .bm .reverse o [], .Call (.Attribute x mn apos) [] [] pos => decide (mn = "reverse") && baseB x && (apos.endLine == pos.line) && f o x
  | .bm .clear o [], .Call (.Attribute x mn apos) [] [] pos => decide (mn = "clear") && baseB x && (apos.endLine == pos.line) && f o x
  | .bm .pop o [], .Call (.Attribute x mn apos) [] [] pos => decide (mn = "pop") && baseB x && (apos.endLine == pos.line) && f o x
  | .bm .pop o [a], .Call (.Attribute x mn apos) [y] [] pos => decide (mn = "pop") && baseB x && (apos.endLine == pos.line) && f o x && chkL f [a] [y]
  | .bm .extend o [a], .Call (.Attribute x mn apos) [y] [] pos => decide (mn = "extend") && baseB x && (apos.endLine == pos.line) && f o x && chkL f [a] [y]
  | .bm .insert o [a, b], .Call (.Attribute x mn apos) [y, z] [] pos => decide (mn = "insert") && baseB x && (apos.endLine == pos.line) && f o x && chkL f [a, b] [y, z]
  | .isi a .seq, .Call (.Name g _) [x, .Tuple [.Name y1 _, .Name y2 _] _ _] [] _ => decide (g = "isinstance") && decide (y1 = "list") && decide (y2 = "tuple") && glB c.sc "isinstance" && glB c.sc "list" && glB c.sc "tuple" && starB x && f a x
  | _, _ => false
section
variable {κ : Kit} {cf : Nat → List D → M (D × List D)} {X : Cx} {W : WX} {c : Ck} {ev : CE → M Tm}
theorem chkMore_ok (S : SC κ cf X W c) {f : CE → Expr → Bool} (hf : ∀ ce e, f ce e = true → SE κ X W e ev ce) {ce : CE} {e : Expr} (h : chkMore f c ce e = true) : SE κ X W e (step c.P ev cf) ce := by
  unfold chkMore at h
  split at h
  · simp only [Bool.and_eq_true, decide_eq_true_eq] at h
    obtain ⟨⟨⟨rfl, h1⟩, h2⟩, h3⟩ := h
    exact SE.of_pe (snd_reverse S.hK (hf _ _ h3) (base_ok h1) h2) fun _ => rfl
  · simp only [Bool.and_eq_true, decide_eq_true_eq] at h
    obtain ⟨⟨⟨rfl, h1⟩, h2⟩, h3⟩ := h
    exact SE.of_pe (snd_clear S.hK (hf _ _ h3) (base_ok h1) h2) fun _ => rfl
  · simp only [Bool.and_eq_true, decide_eq_true_eq] at h
    obtain ⟨⟨⟨rfl, h1⟩, h2⟩, h3⟩ := h
    exact SE.of_pe (snd_pop S.hK (hf _ _ h3) (base_ok h1) h2) fun _ => rfl
  · simp only [Bool.and_eq_true, decide_eq_true_eq] at h
    obtain ⟨⟨⟨⟨rfl, h1⟩, h2⟩, h3⟩, h4⟩ := h
    exact SE.of_pe (snd_popAt S.hK (hf _ _ h3) (chkL_ok hf h4) (base_ok h1) h2) fun _ => rfl
  · simp only [Bool.and_eq_true, decide_eq_true_eq] at h
    obtain ⟨⟨⟨⟨rfl, h1⟩, h2⟩, h3⟩, h4⟩ := h
    exact SE.of_pe (snd_extend S.hK (hf _ _ h3) (chkL_ok hf h4) (base_ok h1) h2) fun _ => rfl
  · simp only [Bool.and_eq_true, decide_eq_true_eq] at h
    obtain ⟨⟨⟨⟨rfl, h1⟩, h2⟩, h3⟩, h4⟩ := h
    exact SE.of_pe (snd_insert S.hK (hf _ _ h3) (chkL_ok hf h4) (base_ok h1) h2) fun _ => rfl
  · simp only [Bool.and_eq_true, decide_eq_true_eq] at h
    obtain ⟨⟨⟨⟨⟨⟨⟨rfl, rfl⟩, rfl⟩, h1⟩, h2⟩, h3⟩, h4⟩, h5⟩ := h
    exact SE.of_pe (snd_isiS S.hK (gl_ok S.sc h1) (S.blt _ (by decide +kernel)) (gl_ok S.sc h2) (S.blt _ (by decide +kernel)) (gl_ok S.sc h3) (S.blt _ (by decide +kernel)) (hf _ _ h5) (star_ok h4)) fun _ => rfl
  · cases h
end
end VS
/-! zip of three lists: at the library's level, then in the layer. -/
namespace VS
open PySem L2
/-- a tuple of three -/
abbrev Tri (h : Heap) (t : Addr) (a b c : Value) : Prop := h.get? t = some { cls := .type "tuple", data := .seq #[a, b, c] }
section
variable {prog : Program} {w : World} {A : Around} {E : Value → Shared → Prop} {s : Shared}
theorem upd_tri {t : Addr} {a b c x : Value} {k : Nat} {Q : Unit → Shared → Prop} (g : Tri s.heap t a b c)
    (q : ∀ h₂, h₂.get? t = some { cls := .type "tuple", data := .seq ((#[a, b, c] : Array Value).setIfInBounds k x) } → Heap.SameBut t s.heap h₂ → Q () { s with heap := h₂ }) :
    wpAny (model prog w) A (updateSeq t (·.setIfInBounds k x)) Q E s :=
  wpAny_updateSeq g rfl (q _ (by rw [Heap.get?_update_self _ g rfl]; simp [Obj.mapSeq]) (Heap.SameBut.update ..))
/-- a zip of three lists, and what it rests on, all unlike -/
structure Apart3 (z ti to p1 p2 p3 l1 l2 l3 : Addr) : Prop where
  n : [z, ti, to, p1, p2, p3].Nodup
  m1 : l1 ∉ [z, to, p1, p2, p3]
  m2 : l2 ∉ [z, to, p1, p2, p3]
  m3 : l3 ∉ [z, to, p1, p2, p3]
/-- a zip amid its turn: g its first field, a b c its own tuple, k1 k2 k3 how far its lists are -/
structure Z3 (h0 h : Heap) (z ti to p1 p2 p3 l1 l2 l3 : Addr) (g a b c : Value) (k1 k2 k3 : Nat) : Prop where
  hz : IsZip h z ti to g
  hto : Tri h to a b c
  i1 : h.IsListIter p1 l1 k1
  i2 : h.IsListIter p2 l2 k2
  i3 : h.IsListIter p3 l3 k3
  sz : h.objs.size = h0.objs.size
  kp : ∀ x o, x ∉ [z, to, p1, p2, p3] → h0.get? x = some o → h.get? x = some o
section
variable {h0 h h' : Heap} {z ti to p1 p2 p3 l1 l2 l3 : Addr} {g a b c a' b' c' : Value} {k1 k2 k3 : Nat}
theorem Z3.put (S : Z3 h0 h z ti to p1 p2 p3 l1 l2 l3 g a b c k1 k2 k3) (D : Apart3 z ti to p1 p2 p3 l1 l2 l3) (hs : Heap.SameBut to h h') (ht : Tri h' to a' b' c') : Z3 h0 h' z ti to p1 p2 p3 l1 l2 l3 g a' b' c' k1 k2 k3 := by
  have n := D.n
  simp only [List.nodup_cons, List.mem_cons, List.not_mem_nil, or_false, not_or] at n
  refine ⟨hs.extBut _ _ (by rintro rfl; simp at n) S.hz, ht, S.i1.extBut hs.extBut (by rintro rfl; simp at n), S.i2.extBut hs.extBut (by rintro rfl; simp at n), S.i3.extBut hs.extBut (by rintro rfl; simp at n), by rw [hs.1, S.sz], fun x o hx e => hs.extBut _ _ (fun q => hx (by simp [q])) (S.kp x o hx e)⟩
theorem Z3.go1 (S : Z3 h0 h z ti to p1 p2 p3 l1 l2 l3 g a b c k1 k2 k3) (D : Apart3 z ti to p1 p2 p3 l1 l2 l3) (hs : Heap.SameBut p1 h h') (ht : h'.IsListIter p1 l1 (k1 + 1)) : Z3 h0 h' z ti to p1 p2 p3 l1 l2 l3 g a b c (k1 + 1) k2 k3 := by
  have n := D.n
  simp only [List.nodup_cons, List.mem_cons, List.not_mem_nil, or_false, not_or] at n
  refine ⟨hs.extBut _ _ (by rintro rfl; simp at n) S.hz, hs.extBut _ _ (by rintro rfl; simp at n) S.hto, ht, S.i2.extBut hs.extBut (by rintro rfl; simp at n), S.i3.extBut hs.extBut (by rintro rfl; simp at n), by rw [hs.1, S.sz], fun x o hx e => hs.extBut _ _ (fun q => hx (by simp [q])) (S.kp x o hx e)⟩
theorem Z3.go2 (S : Z3 h0 h z ti to p1 p2 p3 l1 l2 l3 g a b c k1 k2 k3) (D : Apart3 z ti to p1 p2 p3 l1 l2 l3) (hs : Heap.SameBut p2 h h') (ht : h'.IsListIter p2 l2 (k2 + 1)) : Z3 h0 h' z ti to p1 p2 p3 l1 l2 l3 g a b c k1 (k2 + 1) k3 := by
  have n := D.n
  simp only [List.nodup_cons, List.mem_cons, List.not_mem_nil, or_false, not_or] at n
  refine ⟨hs.extBut _ _ (by rintro rfl; simp at n) S.hz, hs.extBut _ _ (by rintro rfl; simp at n) S.hto, S.i1.extBut hs.extBut (by rintro rfl; simp at n), ht, S.i3.extBut hs.extBut (by rintro rfl; simp at n), by rw [hs.1, S.sz], fun x o hx e => hs.extBut _ _ (fun q => hx (by simp [q])) (S.kp x o hx e)⟩
theorem Z3.go3 (S : Z3 h0 h z ti to p1 p2 p3 l1 l2 l3 g a b c k1 k2 k3) (D : Apart3 z ti to p1 p2 p3 l1 l2 l3) (hs : Heap.SameBut p3 h h') (ht : h'.IsListIter p3 l3 (k3 + 1)) : Z3 h0 h' z ti to p1 p2 p3 l1 l2 l3 g a b c k1 k2 (k3 + 1) := by
  have n := D.n
  simp only [List.nodup_cons, List.mem_cons, List.not_mem_nil, or_false, not_or] at n
  refine ⟨hs.extBut _ _ (by rintro rfl; simp at n) S.hz, hs.extBut _ _ (by rintro rfl; simp at n) S.hto, S.i1.extBut hs.extBut (by rintro rfl; simp at n), S.i2.extBut hs.extBut (by rintro rfl; simp at n), ht, by rw [hs.1, S.sz], fun x o hx e => hs.extBut _ _ (fun q => hx (by simp [q])) (S.kp x o hx e)⟩
theorem Z3.fld {g' : Value} (S : Z3 h0 h z ti to p1 p2 p3 l1 l2 l3 g a b c k1 k2 k3) (D : Apart3 z ti to p1 p2 p3 l1 l2 l3) (hs : Heap.SameBut z h h') (ht : IsZip h' z ti to g') : Z3 h0 h' z ti to p1 p2 p3 l1 l2 l3 g' a b c k1 k2 k3 := by
  have n := D.n
  simp only [List.nodup_cons, List.mem_cons, List.not_mem_nil, or_false, not_or] at n
  refine ⟨ht, hs.extBut _ _ (by rintro rfl; simp at n) S.hto, S.i1.extBut hs.extBut (by rintro rfl; simp at n), S.i2.extBut hs.extBut (by rintro rfl; simp at n), S.i3.extBut hs.extBut (by rintro rfl; simp at n), by rw [hs.1, S.sz], fun x o hx e => hs.extBut _ _ (fun q => hx (by simp [q])) (S.kp x o hx e)⟩
theorem Z3.list {l : Addr} {xs : Array Value} (S : Z3 h0 h z ti to p1 p2 p3 l1 l2 l3 g a b c k1 k2 k3) (hl : h0.IsList l xs) (hn : l ∉ [z, to, p1, p2, p3]) : h.IsList l xs := Heap.IsList.at hl fun o e => S.kp l o hn e
end
theorem zip3_item {z ti to p1 p2 p3 l1 l2 l3 : Addr} {k1 k2 k3 : Nat} {xs ys zs : Array Value} {x y v a b c : Value} {Q : Value → Shared → Prop} (D : Apart3 z ti to p1 p2 p3 l1 l2 l3)
    (S : Z3 s.heap s.heap z ti to p1 p2 p3 l1 l2 l3 .none a b c k1 k2 k3) (hti : Tri s.heap ti (.ref p1) (.ref p2) (.ref p3))
    (g1 : s.heap.IsList l1 xs) (g2 : s.heap.IsList l2 ys) (g3 : s.heap.IsList l3 zs) (e1 : xs[k1]? = some x) (e2 : ys[k2]? = some y) (e3 : zs[k3]? = some v)
    (q : ∀ h', IsZip h' z ti to (rawInt s.heap.objs.size) → Tri h' to x y v → h'.IsListIter p1 l1 (k1 + 1) → h'.IsListIter p2 l2 (k2 + 1) → h'.IsListIter p3 l3 (k3 + 1) → Tri h' s.heap.objs.size x y v →
      (∀ m o, m ∉ [z, to, p1, p2, p3] → s.heap.get? m = some o → h'.get? m = some o) → Q (.ref s.heap.objs.size) { s with heap := h' }) :
    wpAny (model prog w) A (Builtin.«zip.__next__» ⟨[.ref z], []⟩) (fun fin s' => ∃ r, fin = .done (.ret r) ∧ Q r s') E s := by
  have hz := S.hz
  show wpAny _ _ (field (.ref z) 2 >>= _) _ _ _
  refine wpAny_bind (wpAny_field hz rfl (x := .bool false) rfl ?_)
  show wpAny _ _ (field (.ref z) 3 >>= _) _ _ _
  refine wpAny_bind (wpAny_field hz rfl (x := .ref ti) rfl ?_)
  refine wpAny_bind (wpAny_seqItems hti rfl ?_)
  show wpAny _ _ (Builtin.SmallTypes.ownedTupleIsFree (.ref z) >>= _) _ _ _
  refine wpAny_bind ?_
  unfold Builtin.SmallTypes.ownedTupleIsFree
  refine wpAny_bind (wpAny_field hz rfl (x := .none) rfl (wpAny_pure ?_))
  simp only [if_true]
  refine wpAny_bind (wpAny_rule ?_)
  refine wpAny_bind (wpAny_field hz rfl (x := .ref to) rfl ?_)
  refine wpAny_bind (wpAny_setField_rec hz (by simp) fun h₁ z1 s1 => ?_)
  have S1 := S.fld D s1 (g' := .ellipsis) z1
  refine wpAny_bind ?_
  simp only [List.zipIdx_cons, List.zipIdx_nil, List.forIn_cons, List.forIn_nil]
  refine wpAny_bind (wpAny_bind (wpAny_onRaise ?_))
  show wpAny _ _ (Builtin.SmallTypes.nextOf (.ref p1) >>= _) _ _ _
  refine wpAny_bind (wpAny_nextOf_list_item S1.i1 (S1.list g1 D.m1) e1 fun h₂ t2 s2 => wpAny_pure ?_)
  have S2 := S1.go1 D s2 t2
  refine wpAny_bind (wpAny_seqItems S2.hto rfl ?_)
  refine wpAny_bind (upd_tri S2.hto fun h₃ t3 s3 => ?_)
  have S3 := S2.put D s3 (a' := x) (b' := b) (c' := c) t3
  refine wpAny_bind (wpAny_letGo (wpAny_pure ?_))
  refine wpAny_bind (wpAny_bind (wpAny_onRaise ?_))
  show wpAny _ _ (Builtin.SmallTypes.nextOf (.ref p2) >>= _) _ _ _
  refine wpAny_bind (wpAny_nextOf_list_item S3.i2 (S3.list g2 D.m2) e2 fun h₄ t4 s4 => wpAny_pure ?_)
  have S4 := S3.go2 D s4 t4
  refine wpAny_bind (wpAny_seqItems S4.hto rfl ?_)
  refine wpAny_bind (upd_tri S4.hto fun h₅ t5 s5 => ?_)
  have S5 := S4.put D s5 (a' := x) (b' := y) (c' := c) t5
  refine wpAny_bind (wpAny_letGo (wpAny_pure ?_))
  refine wpAny_bind (wpAny_bind (wpAny_onRaise ?_))
  show wpAny _ _ (Builtin.SmallTypes.nextOf (.ref p3) >>= _) _ _ _
  refine wpAny_bind (wpAny_nextOf_list_item S5.i3 (S5.list g3 D.m3) e3 fun h₆ t6 s6 => wpAny_pure ?_)
  have S6 := S5.go3 D s6 t6
  refine wpAny_bind (wpAny_seqItems S6.hto rfl ?_)
  refine wpAny_bind (upd_tri S6.hto fun h₇ t7 s7 => ?_)
  have S7 := S6.put D s7 (a' := x) (b' := y) (c' := v) t7
  refine wpAny_bind (wpAny_letGo (wpAny_pure (wpAny_pure ?_)))
  refine wpAny_bind (wpAny_seqItems S7.hto rfl ?_)
  refine wpAny_bind (wpAny_newTuple ?_)
  have lz : z < h₇.objs.size := Heap.lt_size S7.hz
  show wpAny _ _ (Builtin.SmallTypes.ownedTupleHandOut (.ref z) (.ref h₇.objs.size) >>= _) _ _ _
  refine wpAny_bind ?_
  unfold Builtin.SmallTypes.ownedTupleHandOut
  have z8 : IsZip (h₇.push { cls := .type "tuple", data := .seq #[x, y, v] }) z ti to .ellipsis := Heap.get?_push_of_some _ S7.hz
  refine wpAny_bind (wpAny_setField_rec z8 (by simp) fun h₈ z9 s8 => ?_)
  replace z9 : IsZip h₈ z ti to (rawInt h₇.objs.size) := z9
  refine wpAny_setField_rec z9 (by simp) fun h₉ z10 s9 => ?_
  replace z10 : IsZip h₉ z ti to (rawInt h₇.objs.size) := z10
  have up : ∀ m o, m ≠ z → h₇.get? m = some o → h₉.get? m = some o := fun m o c1 e => s9.extBut _ _ c1 (s8.extBut _ _ c1 (Heap.get?_push_of_some _ e))
  have T9 : Tri h₉ h₇.objs.size x y v := s9.extBut _ _ (Nat.ne_of_gt lz) (s8.extBut _ _ (Nat.ne_of_gt lz) (Heap.get?_push_size _ rfl))
  have n := D.n
  simp only [List.nodup_cons, List.mem_cons, List.not_mem_nil, or_false, not_or] at n
  have sz := S7.sz
  rw [sz] at z10 T9
  refine wpAny_pure ⟨_, rfl, ?_⟩
  show Q (.ref h₇.objs.size) _
  rw [sz]
  exact q h₉ z10 (up _ _ (by rintro rfl; simp at n) S7.hto) (S7.i1.at fun o e => up _ o (by rintro rfl; simp at n) e) (S7.i2.at fun o e => up _ o (by rintro rfl; simp at n) e) (S7.i3.at fun o e => up _ o (by rintro rfl; simp at n) e) T9 fun m o hm e => up m o (fun w => hm (by simp [w])) (S7.kp m o hm e)
theorem zip3_end {z ti to p1 p2 p3 l1 l2 l3 : Addr} {k1 k2 k3 : Nat} {xs ys zs : Array Value} {a b c : Value} {Q : Fin → Shared → Prop} (hh : A.handled = none) (D : Apart3 z ti to p1 p2 p3 l1 l2 l3)
    (S : Z3 s.heap s.heap z ti to p1 p2 p3 l1 l2 l3 .none a b c k1 k2 k3) (hti : Tri s.heap ti (.ref p1) (.ref p2) (.ref p3))
    (g1 : s.heap.IsList l1 xs) (g2 : s.heap.IsList l2 ys) (g3 : s.heap.IsList l3 zs) (hend : xs[k1]? = none ∨ ys[k2]? = none ∨ zs[k3]? = none)
    (q : ∀ h' e, (∀ m o, m ∉ [z, to, p1, p2, p3] → s.heap.get? m = some o → h'.get? m = some o) → (∃ o, h'.get? e = some o ∧ o.cls = .type "StopIteration") → E (.ref e) { s with heap := h' }) :
    wpAny (model prog w) A (Builtin.«zip.__next__» ⟨[.ref z], []⟩) Q E s := by
  have n := D.n
  simp only [List.nodup_cons, List.mem_cons, List.not_mem_nil, or_false, not_or] at n
  have fin : ∀ {h h₂ : Heap} {a b c : Value} {k1 k2 k3 : Nat} {p : Addr}, p ∈ [p1, p2, p3] → Z3 s.heap h z ti to p1 p2 p3 l1 l2 l3 .ellipsis a b c k1 k2 k3 → ∀ e, (∀ m o, m ≠ p → h.get? m = some o → h₂.get? m = some o) → (∃ o, h₂.get? e = some o ∧ o.cls = .type "StopIteration") →
      wpAny (model prog w) A (setField (.ref z) 0 .none) (fun _ s' => E (.ref e) s') E { s with heap := h₂ } := fun {h h₂ a b c k1 k2 k3 p} hp S e s2 he => by
    obtain ⟨oe, hoe, hce⟩ := he
    have zp : z ≠ p := by
      rintro rfl
      simp only [List.mem_cons, List.not_mem_nil, or_false] at hp
      rcases hp with rfl | rfl | rfl <;> simp at n
    have z2 : IsZip h₂ z ti to .ellipsis := s2 _ _ zp S.hz
    have ez : e ≠ z := fun x => by subst x; rw [z2] at hoe; cases hoe; simp at hce
    refine wpAny_setField_rec z2 (by simp) fun h₃ _ s3 => q h₃ e (fun m o hm x => s3.extBut _ _ (fun y => hm (by simp [y])) (s2 _ _ (fun y => hm (by
      rw [y]
      simp only [List.mem_cons, List.not_mem_nil, or_false] at hp ⊢
      rcases hp with h | h | h <;> simp [h])) (S.kp m o hm x))) ⟨oe, s3.extBut _ _ ez hoe, hce⟩
  have hz := S.hz
  show wpAny _ _ (field (.ref z) 2 >>= _) _ _ _
  refine wpAny_bind (wpAny_field hz rfl (x := .bool false) rfl ?_)
  show wpAny _ _ (field (.ref z) 3 >>= _) _ _ _
  refine wpAny_bind (wpAny_field hz rfl (x := .ref ti) rfl ?_)
  refine wpAny_bind (wpAny_seqItems hti rfl ?_)
  show wpAny _ _ (Builtin.SmallTypes.ownedTupleIsFree (.ref z) >>= _) _ _ _
  refine wpAny_bind ?_
  unfold Builtin.SmallTypes.ownedTupleIsFree
  refine wpAny_bind (wpAny_field hz rfl (x := .none) rfl (wpAny_pure ?_))
  simp only [if_true]
  refine wpAny_bind (wpAny_rule ?_)
  refine wpAny_bind (wpAny_field hz rfl (x := .ref to) rfl ?_)
  refine wpAny_bind (wpAny_setField_rec hz (by simp) fun h₁ z1 s1 => ?_)
  have S1 := S.fld D s1 (g' := .ellipsis) z1
  refine wpAny_bind ?_
  simp only [List.zipIdx_cons, List.zipIdx_nil, List.forIn_cons, List.forIn_nil]
  refine wpAny_bind (wpAny_bind (wpAny_onRaise ?_))
  show wpAny _ _ (Builtin.SmallTypes.nextOf (.ref p1) >>= _) _ _ _
  cases e1 : xs[k1]? with
  | none =>
    refine wpAny_bind (wpAny_nextOf_list_end hh S1.i1 (S1.list g1 D.m1) e1 fun h₂ e s2 he => ?_)
    exact fin (p := p1) (by simp) S1 e s2 he
  | some x =>
    refine wpAny_bind (wpAny_nextOf_list_item S1.i1 (S1.list g1 D.m1) e1 fun h₂ t2 s2 => wpAny_pure ?_)
    have S2 := S1.go1 D s2 t2
    refine wpAny_bind (wpAny_seqItems S2.hto rfl ?_)
    refine wpAny_bind (upd_tri S2.hto fun h₃ t3 s3 => ?_)
    have S3 := S2.put D s3 (a' := x) (b' := b) (c' := c) t3
    refine wpAny_bind (wpAny_letGo (wpAny_pure ?_))
    refine wpAny_bind (wpAny_bind (wpAny_onRaise ?_))
    show wpAny _ _ (Builtin.SmallTypes.nextOf (.ref p2) >>= _) _ _ _
    cases e2 : ys[k2]? with
    | none =>
      refine wpAny_bind (wpAny_nextOf_list_end hh S3.i2 (S3.list g2 D.m2) e2 fun h₂ e s2 he => ?_)
      exact fin (p := p2) (by simp) S3 e s2 he
    | some y =>
      have e3 : zs[k3]? = none := by
        rcases hend with h | h | h
        · rw [e1] at h; cases h
        · rw [e2] at h; cases h
        · exact h
      refine wpAny_bind (wpAny_nextOf_list_item S3.i2 (S3.list g2 D.m2) e2 fun h₄ t4 s4 => wpAny_pure ?_)
      have S4 := S3.go2 D s4 t4
      refine wpAny_bind (wpAny_seqItems S4.hto rfl ?_)
      refine wpAny_bind (upd_tri S4.hto fun h₅ t5 s5 => ?_)
      have S5 := S4.put D s5 (a' := x) (b' := y) (c' := c) t5
      refine wpAny_bind (wpAny_letGo (wpAny_pure ?_))
      refine wpAny_bind (wpAny_bind (wpAny_onRaise ?_))
      show wpAny _ _ (Builtin.SmallTypes.nextOf (.ref p3) >>= _) _ _ _
      refine wpAny_bind (wpAny_nextOf_list_end hh S5.i3 (S5.list g3 D.m3) e3 fun h₂ e s2 he => ?_)
      exact fin (p := p3) (by simp) S5 e s2 he
theorem zip3_next {z ti to p1 p2 p3 l1 l2 l3 : Addr} {k1 k2 k3 : Nat} {xs ys zs : Array Value} {x y v a b c : Value} {Q : Option Value → Shared → Prop} (D : Apart3 z ti to p1 p2 p3 l1 l2 l3)
    (S : Z3 s.heap s.heap z ti to p1 p2 p3 l1 l2 l3 .none a b c k1 k2 k3) (hti : Tri s.heap ti (.ref p1) (.ref p2) (.ref p3))
    (g1 : s.heap.IsList l1 xs) (g2 : s.heap.IsList l2 ys) (g3 : s.heap.IsList l3 zs) (e1 : xs[k1]? = some x) (e2 : ys[k2]? = some y) (e3 : zs[k3]? = some v)
    (q : ∀ h', IsZip h' z ti to (rawInt s.heap.objs.size) → Tri h' to x y v → h'.IsListIter p1 l1 (k1 + 1) → h'.IsListIter p2 l2 (k2 + 1) → h'.IsListIter p3 l3 (k3 + 1) → Tri h' s.heap.objs.size x y v →
      (∀ m o, m ∉ [z, to, p1, p2, p3] → s.heap.get? m = some o → h'.get? m = some o) → Q (some (.ref s.heap.objs.size)) { s with heap := h' }) :
    wpAny (model prog w) A (pyNext (.ref z)) Q E s := by
  have tz : s.TypeIs (.ref z) "zip" := ⟨_, S.hz, rfl⟩
  unfold pyNext
  refine wpAny_bind (wpAny_attempt (wpAny_callSpecial?_slot (name := Str.ofString "__next__") tz F.slot_zip_next ?_))
  exact wpAny_call_entry F.slot_zip_next tz F.entry_zip_next (zip3_item D S hti g1 g2 g3 e1 e2 e3 fun h' a1 a2 a3 a4 a5 a6 a7 => wpAny_pure (q h' a1 a2 a3 a4 a5 a6 a7)) (F.args_zip_next_1 _)
theorem zip3_stop {z ti to p1 p2 p3 l1 l2 l3 : Addr} {k1 k2 k3 : Nat} {xs ys zs : Array Value} {a b c : Value} {Q : Option Value → Shared → Prop} (hh : A.handled = none) (D : Apart3 z ti to p1 p2 p3 l1 l2 l3)
    (S : Z3 s.heap s.heap z ti to p1 p2 p3 l1 l2 l3 .none a b c k1 k2 k3) (hti : Tri s.heap ti (.ref p1) (.ref p2) (.ref p3))
    (g1 : s.heap.IsList l1 xs) (g2 : s.heap.IsList l2 ys) (g3 : s.heap.IsList l3 zs) (hend : xs[k1]? = none ∨ ys[k2]? = none ∨ zs[k3]? = none)
    (q : ∀ h', (∀ m o, m ∉ [z, to, p1, p2, p3] → s.heap.get? m = some o → h'.get? m = some o) → Q none { s with heap := h' }) : wpAny (model prog w) A (pyNext (.ref z)) Q E s := by
  have tz : s.TypeIs (.ref z) "zip" := ⟨_, S.hz, rfl⟩
  unfold pyNext
  refine wpAny_bind (wpAny_attempt (wpAny_callSpecial?_slot (name := Str.ofString "__next__") tz F.slot_zip_next ?_))
  refine wpAny_call_entry F.slot_zip_next tz F.entry_zip_next (zip3_end hh D S hti g1 g2 g3 hend fun h' e hk he => ?_) (F.args_zip_next_1 _)
  obtain ⟨o, ho, hc⟩ := he
  exact wpAny_bind (wpAny_isInstance (T := "StopIteration") (b := true) ⟨o, ho, hc⟩ isSubtype_stop (wpAny_pure (q _ hk)))
end
/-! a new one -/
theorem typeCall3 (a b c : Value) : checkTypeCall "zip" ⟨[a, b, c], []⟩ = pure () := by kernel_rfl
theorem newCall3 (a b c : Value) : checkBuiltinCall "zip.__new__" ⟨[.type "zip", a, b, c], []⟩ = pure () := by kernel_rfl
theorem initArgs4 (a b c d : Value) : argsOk "object.__init__" ⟨[a, b, c, d], []⟩ := by
  unfold argsOk
  rw [signature?_of (id := "object.__init__") (n := ['_', '_', 't', 'i', 'n', 'i', '_', '_'])
    (o := ['t', 'c', 'e', 'j', 'b', 'o']) (by kernel_rfl) PySem.F.owner_object]
  kernel_rfl
abbrev nA (h : Heap) (l1 : Addr) : Heap := h.push { cls := .type "list_iterator", data := .fields #[.ref l1, .int 0 0] }
abbrev nB (h : Heap) (l1 l2 : Addr) : Heap := nA (nA h l1) l2
abbrev nC (h : Heap) (l1 l2 l3 : Addr) : Heap := nA (nB h l1 l2) l3
abbrev nD (h : Heap) (l1 l2 l3 : Addr) : Heap := (nC h l1 l2 l3).push { cls := .type "tuple", data := .seq #[.ref h.objs.size, .ref (nA h l1).objs.size, .ref (nB h l1 l2).objs.size] }
abbrev nE (h : Heap) (l1 l2 l3 : Addr) : Heap := (nD h l1 l2 l3).push { cls := .type "tuple", data := .seq #[.none, .none, .none] }
abbrev nF (h : Heap) (l1 l2 l3 : Addr) : Heap := (nE h l1 l2 l3).push { cls := .type "zip", data := .fields #[.none, .bool false, .bool false, .ref (nC h l1 l2 l3).objs.size, .ref (nD h l1 l2 l3).objs.size] }
theorem meets3 (l1 l2 l3 : Addr) (xs ys zs : Array Value) :
    Meets (Builtin.«zip.__new__» ⟨[.type "zip", .ref l1, .ref l2, .ref l3], []⟩) (fun _ R s => s.heap.IsList l1 xs ∧ s.heap.IsList l2 ys ∧ s.heap.IsList l3 zs ∧
      R (.ok (.ret (.ref (nE s.heap l1 l2 l3).objs.size))) { s with heap := nF s.heap l1 l2 l3 }) :=
  .of_wp fun prog w A R s h => by
    obtain ⟨hp, g, d, tk, os⟩ := s
    obtain ⟨q1, q2, q3, h⟩ := h
    have hsub := sub_zip
    have L1 : Heap.IsList (Shared.heap ⟨hp, g, d, tk, os⟩) l1 xs := q1
    have L2 : Heap.IsList (Shared.heap ⟨hp.push { cls := .type "list_iterator", data := .fields #[.ref l1, .int 0 0] }, g, d, tk, os⟩) l2 ys := Heap.IsList.push q2 _
    have L3 : Heap.IsList (Shared.heap ⟨(hp.push { cls := .type "list_iterator", data := .fields #[.ref l1, .int 0 0] }).push { cls := .type "list_iterator", data := .fields #[.ref l2, .int 0 0] }, g, d, tk, os⟩) l3 zs := Heap.IsList.push (Heap.IsList.push q3 _) _
    wp_walk using wpAny_pyIter_list L1, wpAny_pyIter_list L2, wpAny_pyIter_list L3
    exact ⟨_, rfl, h⟩
section
variable {prog : Program} {w : World} {A : Around} {E : Value → Shared → Prop} {s : Shared}
theorem call_zip3 {l1 l2 l3 : Addr} {xs ys zs : Array Value} {Q : Value → Shared → Prop} (g1 : s.heap.IsList l1 xs) (g2 : s.heap.IsList l2 ys) (g3 : s.heap.IsList l3 zs)
    (q : ∀ h', IsZip h' (s.heap.objs.size + 5) (s.heap.objs.size + 3) (s.heap.objs.size + 4) .none → Tri h' (s.heap.objs.size + 3) (.ref s.heap.objs.size) (.ref (s.heap.objs.size + 1)) (.ref (s.heap.objs.size + 2)) →
      Tri h' (s.heap.objs.size + 4) .none .none .none → h'.IsListIter s.heap.objs.size l1 0 → h'.IsListIter (s.heap.objs.size + 1) l2 0 → h'.IsListIter (s.heap.objs.size + 2) l3 0 →
      (∀ c o, s.heap.get? c = some o → h'.get? c = some o) → Q (.ref (s.heap.objs.size + 5)) { s with heap := h' }) :
    wpAny (model prog w) A (call (.type "zip") [.ref l1, .ref l2, .ref l3]) Q E s := by
  refine callType_new F.called_zip (by decide) (typeCall3 _ _ _) (newCall3 _ _ _) (fun obj => initArgs4 obj _ _ _) F.entry_zip_new (meets3 l1 l2 l3 xs ys zs) ⟨g1, g2, g3, ?_⟩
  have z1 : (nA s.heap l1).objs.size = s.heap.objs.size + 1 := Heap.size_push ..
  have z2 : (nB s.heap l1 l2).objs.size = s.heap.objs.size + 2 := by rw [Heap.size_push, z1]
  have z3 : (nC s.heap l1 l2 l3).objs.size = s.heap.objs.size + 3 := by rw [Heap.size_push, z2]
  have z4 : (nD s.heap l1 l2 l3).objs.size = s.heap.objs.size + 4 := by rw [Heap.size_push, z3]
  have z5 : (nE s.heap l1 l2 l3).objs.size = s.heap.objs.size + 5 := by rw [Heap.size_push, z4]
  have up : ∀ {h : Heap} {o x : Obj} {c : Addr}, h.get? c = some x → (h.push o).get? c = some x := fun e => Heap.get?_push_of_some _ e
  have f6 : (nF s.heap l1 l2 l3).get? (nE s.heap l1 l2 l3).objs.size = some _ := Heap.get?_push_size _ rfl
  have f5 : (nF s.heap l1 l2 l3).get? (nD s.heap l1 l2 l3).objs.size = some _ := up (Heap.get?_push_size _ rfl)
  have f4 : (nF s.heap l1 l2 l3).get? (nC s.heap l1 l2 l3).objs.size = some _ := up (up (Heap.get?_push_size _ rfl))
  have f3 : (nF s.heap l1 l2 l3).get? (nB s.heap l1 l2).objs.size = some _ := up (up (up (Heap.get?_push_size _ rfl)))
  have f2 : (nF s.heap l1 l2 l3).get? (nA s.heap l1).objs.size = some _ := up (up (up (up (Heap.get?_push_size _ rfl))))
  have f1 : (nF s.heap l1 l2 l3).get? s.heap.objs.size = some _ := up (up (up (up (up (Heap.get?_push_size _ rfl)))))
  show _ ∧ _
  rw [z3, z4, z5] at f6
  rw [z4] at f5
  rw [z1, z2, z3] at f4
  rw [z2] at f3
  rw [z1] at f2
  rw [z5]
  exact ⟨⟨_, f6, rfl⟩, q _ f6 f4 f5 ⟨_, f1, rfl, rfl⟩ ⟨_, f2, rfl, rfl⟩ ⟨_, f3, rfl, rfl⟩ fun c o x => up (up (up (up (up (up x)))))⟩
end
theorem apart3_new {n l1 l2 l3 : Addr} (h1 : l1 < n) (h2 : l2 < n) (h3 : l3 < n) : Apart3 (n + 5) (n + 3) (n + 4) n (n + 1) (n + 2) l1 l2 l3 := by
  have e : ∀ {a b : Nat}, a < b → a ≠ b := Nat.ne_of_lt
  have e' : ∀ {a b : Nat}, b < a → a ≠ b := Nat.ne_of_gt
  refine ⟨?_, ?_, ?_, ?_⟩
  · show ([(n : Nat) + 5, n + 3, n + 4, n, n + 1, n + 2] : List Nat).Nodup
    simp
  all_goals
    intro hm
    have hm : _ ∈ ([(n : Nat) + 5, n + 4, n, n + 1, n + 2] : List Nat) := hm
    simp only [List.mem_cons, List.not_mem_nil, or_false] at hm
  · have h1 : (l1 : Nat) < n := h1
    rcases hm with q | q | q | q | q <;> (rw [q] at h1; exact Nat.not_lt.mpr (by first | exact Nat.le_refl n | exact Nat.le_add_right n _) h1)
  · have h2 : (l2 : Nat) < n := h2
    rcases hm with q | q | q | q | q <;> (rw [q] at h2; exact Nat.not_lt.mpr (by first | exact Nat.le_refl n | exact Nat.le_add_right n _) h2)
  · have h3 : (l3 : Nat) < n := h3
    rcases hm with q | q | q | q | q <;> (rw [q] at h3; exact Nat.not_lt.mpr (by first | exact Nat.le_refl n | exact Nat.le_add_right n _) h3)
/-! the layer -/
open PySem.Spec PyProof.Rows
/-- the lists at a, b, c as they stand at each turn, the items in new tuples -/
def It3 (K : PySem.W.Frag) (a b c : Addr) : It :=
  ⟨fun i H => ∃ (xs ys zs : List V) (x y z : V), SqL K H a xs ∧ SqL K H b ys ∧ SqL K H c zs ∧ xs[i]? = some x ∧ ys[i]? = some y ∧ zs[i]? = some z,
    fun i H v H' => ∃ T x y z, v = .ref T ∧ H T = none ∧ H' = upd H T (.tup [x, y, z]) ∧ (∀ xs, SqL K H a xs → xs[i]? = some x) ∧ (∀ ys, SqL K H b ys → ys[i]? = some y) ∧ ∀ zs, SqL K H c zs → zs[i]? = some z,
    fun i H => ∃ xs ys zs : List V, SqL K H a xs ∧ SqL K H b ys ∧ SqL K H c zs ∧ (xs.length ≤ i ∨ ys.length ≤ i ∨ zs.length ≤ i)⟩
def tn3 (z ti to p1 p2 p3 l1 l2 l3 : Addr) (i : Nat) (h : Heap) : Prop :=
  IsZip h z ti to .none ∧ Tri h ti (.ref p1) (.ref p2) (.ref p3) ∧ (∃ a b c, Tri h to a b c) ∧ h.IsListIter p1 l1 i ∧ h.IsListIter p2 l2 i ∧ h.IsListIter p3 l3 i
theorem turn3 {P : Program} {w : World} {K : PySem.W.Frag} {elts : List Expr} {kk : Nat} {tpos : Pos} {l1 l2 l3 z ti to p1 p2 p3 : Addr} (D : Apart3 z ti to p1 p2 p3 l1 l2 l3) :
    Turn P w K (.Tuple elts kk tpos) (It3 K l1 l2 l3) [z, ti, to, p1, p2, p3] z (tn3 z ti to p1 p2 p3 l1 l2 l3) where
  mem := by simp
  obj := fun i h st c hc => by
    obtain ⟨hz, hti, ⟨a, b, d, hto⟩, ⟨o1, e1, _, d1⟩, ⟨o2, e2, _, d2⟩, ⟨o3, e3, _, d3⟩⟩ := st
    simp only [List.mem_cons, List.not_mem_nil, or_false] at hc
    rcases hc with q | q | q | q | q | q
    · rw [q]; exact ⟨_, hz, fun v q => nomatch q⟩
    · rw [q]; exact ⟨_, hti, fun v q => nomatch q⟩
    · rw [q]; exact ⟨_, hto, fun v q => nomatch q⟩
    · rw [q]; exact ⟨o1, e1, fun v q => by rw [d1] at q; cases q⟩
    · rw [q]; exact ⟨o2, e2, fun v q => by rw [d2] at q; cases q⟩
    · rw [q]; exact ⟨o3, e3, fun v q => by rw [d3] at q; cases q⟩
  keep := fun i h h' st k => by
    obtain ⟨hz, hti, ⟨a, b, d, hto⟩, h1, h2, h3⟩ := st
    exact ⟨k z (by simp) _ hz, k ti (by simp) _ hti, ⟨a, b, d, k to (by simp) _ hto⟩, h1.at fun o q => k p1 (by simp) o q, h2.at fun o q => k p2 (by simp) o q, h3.at fun o q => k p3 (by simp) o q⟩
  item := by
    intro X hP hw hK hc i pins s σ H E I hf st hg
    subst hP hw hK
    obtain ⟨hz, hti, ⟨a0, b0, c0, hto⟩, h1, h2, h3⟩ := st
    obtain ⟨xs, ys, zs, x, y, v, sx, sy, sv, hx, hy, hv⟩ := hg
    obtain ⟨its, rv, q1, _⟩ := I.list sx
    obtain ⟨its2, rv2, q2, _⟩ := I.list sy
    obtain ⟨its3, rv3, q3, _⟩ := I.list sv
    obtain ⟨u, hu, ru⟩ := rv.get hx
    obtain ⟨u2, hu2, ru2⟩ := rv2.get hy
    obtain ⟨u3, hu3, ru3⟩ := rv3.get hv
    have hzl : z < s.heap.objs.size := Heap.lt_size hz
    have n := D.n
    simp only [List.nodup_cons, List.mem_cons, List.not_mem_nil, or_false, not_or] at n
    refine zip3_next D ⟨hz, hto, h1, h2, h3, rfl, fun _ _ _ e => e⟩ hti q1.isList q2.isList q3.isList (x := u) (y := u2) (v := u3) (by simpa using hu) (by simpa using hu2) (by simpa using hu3) fun h' z' to' h1' h2' h3' hT hk => ?_
    refine ⟨_, rfl, wpAny_letOwnedTupleGo_zip (s := { s with heap := h' }) z' fun h'' z'' sb => ?_⟩
    have hT2 : h''.get? s.heap.objs.size = some { cls := .type "tuple", data := .seq #[u, u2, u3] } := (sb.2 _ (Nat.ne_of_gt hzl)).trans hT
    have new : ObjOk X.prog X.w (upd H s.heap.objs.size (.tup [x, y, v])) h'' s.heap.objs.size (.tup [x, y, v]) :=
      ⟨by show 3 ≤ sizeLine; decide, [u, u2, u3], .cons ru (.cons ru2 (.cons ru3 .nil)), ⟨_, hT2, rfl, _, rfl⟩⟩
    have I1 : Inv X pins σ (upd H s.heap.objs.size (.tup [x, y, v])) { s with heap := h'' } :=
      I.turnedNew (t' := s.toks) (ch := [z, ti, to, p1, p2, p3]) (fun c o hb q => (sb.2 c (fun q' => hb (by simp [q']))).trans (hk c o (fun q' => hb (by
        simp only [List.mem_cons, List.not_mem_nil, or_false] at q' ⊢
        rcases q' with h | h | h | h | h <;> simp [h])) q)) hf (Nat.le_refl _) new
    have up : ∀ {c : Addr} {o : Obj}, c ≠ z → h'.get? c = some o → h''.get? c = some o := fun hc e => (sb.2 _ hc).trans e
    refine ⟨.ref s.heap.objs.size, _, I1, rfl, ⟨_, x, y, v, rfl, I.hok.fresh (Nat.le_refl _), rfl, fun l hl => by rw [I.list_inj hl sx]; exact hx, fun l hl => by rw [I.list_inj hl sy]; exact hy, fun l hl => by rw [I.list_inj hl sv]; exact hv⟩, ⟨z'', ?_, ⟨u, u2, u3, ?_⟩, ?_, ?_, ?_⟩, fun c hcm => ?_⟩
    · exact up (by rintro rfl; simp at n) (hk _ _ (by
        intro hm
        simp only [List.mem_cons, List.not_mem_nil, or_false] at hm
        rcases hm with rfl | rfl | rfl | rfl | rfl <;> simp at n) hti)
    · exact up (by rintro rfl; simp at n) to'
    · exact h1'.at fun o q => up (by rintro rfl; simp at n) q
    · exact h2'.at fun o q => up (by rintro rfl; simp at n) q
    · exact h3'.at fun o q => up (by rintro rfl; simp at n) q
    · have hlt : c < s.heap.objs.size := by
        simp only [List.mem_cons, List.not_mem_nil, or_false] at hcm
        rcases hcm with q | q | q | q | q | q
        · rw [q]; exact hzl
        · rw [q]; exact Heap.lt_size hti
        · rw [q]; exact Heap.lt_size hto
        · rw [q]; obtain ⟨_, e1, _⟩ := h1; exact Heap.lt_size e1
        · rw [q]; obtain ⟨_, e2, _⟩ := h2; exact Heap.lt_size e2
        · rw [q]; obtain ⟨_, e3, _⟩ := h3; exact Heap.lt_size e3
      rw [upd_ne (Nat.ne_of_lt hlt)]
      exact (hf c hcm).1
  done := by
    intro X hP hw hK hc i pins s σ H E I hf st hg
    subst hP hw hK
    obtain ⟨hz, hti, ⟨a0, b0, c0, hto⟩, h1, h2, h3⟩ := st
    obtain ⟨xs, ys, zs, sx, sy, sv, hend⟩ := hg
    obtain ⟨its, rv, q1, _⟩ := I.list sx
    obtain ⟨its2, rv2, q2, _⟩ := I.list sy
    obtain ⟨its3, rv3, q3, _⟩ := I.list sv
    have l1 := rv.length
    have l2 := rv2.length
    have l3 := rv3.length
    have he : its.toArray[i]? = none ∨ its2.toArray[i]? = none ∨ its3.toArray[i]? = none := by
      rcases hend with q | q | q
      · exact .inl (by simp; omega)
      · exact .inr (.inl (by simp; omega))
      · exact .inr (.inr (by simp; omega))
    refine zip3_stop (I.ok.hd hc) D ⟨hz, hto, h1, h2, h3, rfl, fun _ _ _ e => e⟩ hti q1.isList q2.isList q3.isList he fun h' hk => ⟨rfl, I.turnedL (t' := s.toks) (ch := [z, ti, to, p1, p2, p3]) (fun c o hb q => hk c o (fun q' => hb (by
        simp only [List.mem_cons, List.not_mem_nil, or_false] at q' ⊢
        rcases q' with h | h | h | h | h <;> simp [h])) q) hf⟩
  self := fun A i s Q E st h => wpAny_pyIter_zip st.1 h
def iZip3 (K : PySem.W.Frag) (ta : TA) : TI := fun σ H R => ta σ H fun vs H1 => ∃ a b c xs ys zs, vs = [.ref a, .ref b, .ref c] ∧ SqL K H1 a xs ∧ SqL K H1 b ys ∧ SqL K H1 c zs ∧ R (It3 K a b c) H1
theorem pi_zip3 {X : Cx} {e e2 e3 : Expr} {ta : TA} {p pos tpos : Pos} {elts : List Expr} {kk : Nat} (hg : Gl X "zip") (hm : X.mg "zip" = none) (ha : PA X [e, e2, e3] ta)
    (hs : starEach [e, e2, e3] X.env = (false, eval e X.env) :: starEach [e2, e3] X.env) (hpl : (backTo pos (starEach [e2, e3] X.env)).any (·.1) = false) :
    PI X (.Tuple elts kk tpos) (.Call (.Name "zip" p) [e, e2, e3] [] pos) (iZip3 X.K ta) := by
  refine ⟨fun pins s σ H R I h => ?_⟩
  refine Call_ (ld_blt I hg hm PyProof.Rows.boot_zip (PyProof.Rows.callWith_type1 (thn (ha.run pos pins s σ H _ I h) fun us s1 ⟨vs, H1, I1, r1, q1⟩ => ?_) hs hpl))
  obtain ⟨a, b, c, xs, ys, zs, rfl, sx, sy, sz, q⟩ := q1
  cases r1 with
  | cons r rr =>
    cases rr with
    | cons r' rr =>
      cases rr with
      | cons r'' rr =>
        cases rr
        cases r
        cases r'
        cases r''
        obtain ⟨its, rv, q1, _⟩ := I1.list sx
        obtain ⟨its2, rv2, q2, _⟩ := I1.list sy
        obtain ⟨its3, rv3, q3, _⟩ := I1.list sz
        refine call_zip3 q1.isList q2.isList q3.isList fun h' hz hti hto h1 h2 h3 hk => wpAny_pyIter_zip hz ?_
        have I2 : Inv X pins σ H1 { s1 with heap := h' } := I1.kept (t' := s1.toks) hk
        refine ⟨s1.heap.objs.size + 5, [s1.heap.objs.size + 5, s1.heap.objs.size + 3, s1.heap.objs.size + 4, s1.heap.objs.size, s1.heap.objs.size + 1, s1.heap.objs.size + 2], _, _, H1, rfl, I2, turn3 (apart3_new q1.lt q2.lt q3.lt), ⟨hz, hti, ⟨_, _, _, hto⟩, h1, h2, h3⟩, fun d hd => ?_, q⟩
        have hle : s1.heap.objs.size ≤ d := by
          simp only [List.mem_cons, List.not_mem_nil, or_false] at hd
          rcases hd with z | z | z | z | z | z
          · rw [z]; exact Nat.le_add_right _ _
          · rw [z]; exact Nat.le_add_right _ _
          · rw [z]; exact Nat.le_add_right _ _
          · rw [z]; exact Nat.le_refl _
          · rw [z]; exact Nat.le_add_right _ _
          · rw [z]; exact Nat.le_add_right _ _
        exact I1.fpOk hle (I1.hok.fresh hle)
end VS
namespace VS
open PySem L2
theorem zip3_len : ∀ {xs ys zs : List D}, (zip3 xs ys zs).length = min xs.length (min ys.length zs.length)
  | [], ys, zs => by simp [zip3]
  | _ :: _, [], zs => by simp [zip3]
  | _ :: _, _ :: _, [] => by simp [zip3]
  | x :: xs, y :: ys, z :: zs => by simp [zip3, zip3_len (xs := xs) (ys := ys) (zs := zs)]
theorem zip3_at : ∀ {xs ys zs : List D} {i : Nat} {x y z : D}, xs[i]? = some x → ys[i]? = some y → zs[i]? = some z → (zip3 xs ys zs)[i]? = some (.tup [x, y, z])
  | [], _, _, _, _, _, _, h, _, _ => by simp at h
  | _ :: _, [], _, _, _, _, _, _, h, _ => by simp at h
  | _ :: _, _ :: _, [], _, _, _, _, _, _, h => by simp at h
  | x :: xs, y :: ys, z :: zs, 0, _, _, _, h1, h2, h3 => by simp at h1 h2 h3; simp [zip3, h1, h2, h3]
  | x :: xs, y :: ys, z :: zs, i + 1, _, _, _, h1, h2, h3 => by simp only [zip3, List.getElem?_cons_succ] at *; exact zip3_at h1 h2 h3
section
variable {κ : Kit} {A A' : Act}
theorem wk_zip3 {xs ys zs : List D} {vs ws us : List V} {o q r : Fl} {ds es fs : List D} {a b c : Addr} (h1 : xs.length = vs.length) (h2 : ys.length = ws.length) (h3 : zs.length = us.length) (hh : Holds κ A' (.lst o ds) a vs) (hg : Holds κ A' (.lst q es) b ws) (hk : Holds κ A' (.lst r fs) c us) :
    Wk κ A' (It3 κ.K a b c) (zip3 xs ys zs) (fun i => vs.drop i ++ (ws.drop i ++ us.drop i)) (fun i => xs.drop i ++ (ys.drop i ++ zs.drop i)) := by
  have hl : (zip3 xs ys zs).length = min vs.length (min ws.length us.length) := by rw [zip3_len, h1, h2, h3]
  refine ⟨fun i => by simp [h1, h2, h3], fun {i as σ ts H s tds} hi R => ?_, fun R => ⟨vs, ws, us, (hh R).list, (hg R).list, (hk R).list, by rw [hl]; omega⟩, fun {i as σ ts H s tds x H'} hi R y => ?_⟩
  · rw [hl] at hi
    exact ⟨vs, ws, us, _, _, _, (hh R).list, (hg R).list, (hk R).list, List.getElem?_eq_getElem (by omega), List.getElem?_eq_getElem (by omega), List.getElem?_eq_getElem (by omega)⟩
  rw [hl] at hi
  obtain ⟨T, x1, x2, x3, rfl, hT, rfl, e1, e2, e3⟩ := y
  have e1 := e1 vs (hh R).list
  have e2 := e2 ws (hg R).list
  have e3 := e3 us (hk R).list
  have hd : xs[i]? = some xs[i] := List.getElem?_eq_getElem (by omega)
  have he : ys[i]? = some ys[i] := List.getElem?_eq_getElem (by omega)
  have hf : zs[i]? = some zs[i] := List.getElem?_eq_getElem (by omega)
  refine ⟨.tup [xs[i], ys[i], zs[i]], zip3_at hd he hf, ?_⟩
  have R : KRel κ A'.nf as σ ((vs.drop i ++ (ws.drop i ++ us.drop i)) ++ ts) H s ((xs.drop i ++ (ys.drop i ++ zs.drop i)) ++ tds) := R
  rw [drop_at e1, drop_at e2, drop_at e3, drop_at hd, drop_at he, drop_at hf] at R
  have l1 : (xs[i] :: xs.drop (i + 1)).length = (x1 :: vs.drop (i + 1)).length := by simp only [List.length_cons, List.length_drop, h1]
  have l2 : (ys[i] :: ys.drop (i + 1)).length = (x2 :: ws.drop (i + 1)).length := by simp only [List.length_cons, List.length_drop, h2]
  have R2 : KRel κ A'.nf as σ (((x1 :: vs.drop (i + 1)) ++ (x2 :: ws.drop (i + 1))) ++ (x3 :: (us.drop (i + 1) ++ ts))) H s (((xs[i] :: xs.drop (i + 1)) ++ (ys[i] :: ys.drop (i + 1))) ++ (zs[i] :: (zs.drop (i + 1) ++ tds))) := by
    simp only [List.append_assoc, List.cons_append] at R ⊢
    exact R
  have R3 := Rel.rot (by rw [List.length_append, List.length_append, l1, l2]) R2
  have R4 : KRel κ A'.nf as σ ((x3 :: x1 :: vs.drop (i + 1)) ++ (x2 :: (ws.drop (i + 1) ++ (us.drop (i + 1) ++ ts)))) H s ((zs[i] :: xs[i] :: xs.drop (i + 1)) ++ (ys[i] :: (ys.drop (i + 1) ++ (zs.drop (i + 1) ++ tds)))) := by
    simp only [List.append_assoc, List.cons_append] at R3 ⊢
    exact R3
  have R5 := Rel.rot (by simp only [List.length_cons, List.length_drop, h1]) R4
  have R6 : KRel κ A'.nf as σ ([x2, x3] ++ (x1 :: (vs.drop (i + 1) ++ (ws.drop (i + 1) ++ (us.drop (i + 1) ++ ts))))) H s ([ys[i], zs[i]] ++ (xs[i] :: (xs.drop (i + 1) ++ (ys.drop (i + 1) ++ (zs.drop (i + 1) ++ tds))))) := by
    simp only [List.append_assoc, List.cons_append, List.nil_append] at R5 ⊢
    exact R5
  have R7 := Rel.rot rfl R6
  have R8 : KRel κ A'.nf as σ ([x1, x2, x3] ++ ((vs.drop (i + 1) ++ (ws.drop (i + 1) ++ us.drop (i + 1))) ++ ts)) H s ([xs[i], ys[i], zs[i]] ++ ((xs.drop (i + 1) ++ (ys.drop (i + 1) ++ zs.drop (i + 1))) ++ tds)) := by
    simp only [List.append_assoc, List.cons_append, List.nil_append] at R7 ⊢
    exact R7
  exact Rel.alloc_tup (vs := [x1, x2, x3]) (ds := [xs[i], ys[i], zs[i]]) rfl R8 hT
end
section
variable {κ : Kit} {X : Cx} {W : WX} {ev : CE → M Tm} {e e2 e3 : Expr} {c c2 c3 : CE}
theorem bindI_ok {α β : Type} {m : M α} {f : α → M β} {s s' : Sx} {a : α} (h : m s = .ok a s') : (m.bind f) s = f a s' := bind_ok_of h
theorem src_zip3 {mv : Bool} {elts : List Expr} {kk : Nat} {tpos p pos : Pos} (hK : X.K = κ.K) (hg : Gl X "zip") (hm : X.mg "zip" = none) (ha : SAs κ X W ev [e, e2, e3] [c, c2, c3]) : PI X (.Tuple elts kk tpos) (.Call (.Name "zip" p) [e, e2, e3] [] pos) (tI κ W (srcItems ev mv (.zip [c, c2, c3]))) := by
  have hs : starEach [e, e2, e3] X.env = (false, eval e X.env) :: starEach [e2, e3] X.env := by
    cases ha with | cons _ h r => exact h
  have hs2 : (backTo pos (starEach [e2, e3] X.env)).any (·.1) = false := by cases ha with | cons _ _ r => exact backTo_any.trans r.plain
  refine (pi_zip3 hg hm ha.pa hs hs2).mono fun σ H R h => ?_
  have h : tI κ W ((evalL ev [c, c2, c3]).bind fun ts => match ts with
    | [t1, t2, t3] => (walkedL t3).bind fun z => (walkedL t2).bind fun y => (walkedL t1).bind fun x => (match x, y, z with | .ds xs k1, .ds ys k2, .ds zs k3 => (pure (.ds (zip3 xs ys zs) (k1 ++ k2 ++ k3)) : M Items) | _, _, _ => VS.fail)
    | _ => VS.fail) σ H R := h
  show tLs κ W ev [c, c2, c3] σ H fun vs H1 => ∃ a b c xs ys zs, vs = [.ref a, .ref b, .ref c] ∧ SqL X.K H1 a xs ∧ SqL X.K H1 b ys ∧ SqL X.K H1 c zs ∧ R (It3 X.K a b c) H1
  rw [hK]
  refine tLs_items h fun {A as as1 ts tds tms s1 vs H1} hl hl2 hA Rt h => ?_
  match tms, vs, hl, hl2, Rt, h with
  | [t1, t2, t3], [v1, v2, v3], _, _, Rt, h =>
    have h : RunI κ A σ ts tds as W R (((walkedL t3).bind fun z => (walkedL t2).bind fun y => (walkedL t1).bind fun x => match x, y, z with | .ds xs k1, .ds ys k2, .ds zs k3 => (pure (.ds (zip3 xs ys zs) (k1 ++ k2 ++ k3)) : M Items) | _, _, _ => VS.fail) s1) := h
    have Rt : KTms κ A as1 σ ts H1 s1 tds [] [] [(t3, v3), (t2, v2), (t1, v1)] := Rt
    cases ew : walkedL t3 s1 with
    | fail => rw [show ((walkedL t3).bind _) s1 = _ from bind_fail_of ew] at h; exact h.elim
    | exc k ps s3 => exact (NoEx.walkedL _ _ _ _ ew).elim
    | ok z s3 =>
      rw [show ((walkedL t3).bind _) s1 = _ from bind_ok_of ew] at h
      have hat : ∀ p v, (Tm.at p, v) ∈ [(t2, v2), (t1, v1)] → AtP as1 σ H1 p v := fun p v hm => Rt.2.2 p v (List.mem_cons_of_mem _ hm)
      have R2 : KTms κ A as1 σ (sV [(t2, v2), (t1, v1)] ++ ts) H1 s1 (sD [(t2, v2), (t1, v1)] ++ tds) [] [] [(t3, v3)] := by
        refine ⟨rfl, ?_, fun p v hm => Rt.2.2 p v (by rcases List.mem_singleton.mp hm with h; rw [h]; simp)⟩
        have := Rt.2.1
        cases t3 <;> simpa [sV, sD] using this
      obtain ⟨l3, k3, A1, d, vs3, o3, ds3, rfl, rfl, hl3, P3, B3, wy3, g3⟩ := walkedL_ok R2 ew
      have P4 := Rel.swapB hl3 (sVD_len _).symm P3
      have R3 : KTms κ A1 as1 σ (vs3 ++ ts) H1 s3 (l3 ++ tds) [] [] [(t2, v2), (t1, v1)] := ⟨rfl, P4, hat⟩
      have h : RunI κ A σ ts tds as W R (((walkedL t2).bind fun y => (walkedL t1).bind fun x => match x, y, (Items.ds l3 k3) with | .ds xs k1, .ds ys k2, .ds zs k3 => (pure (.ds (zip3 xs ys zs) (k1 ++ k2 ++ k3)) : M Items) | _, _, _ => VS.fail) s3) := h
      cases ew2 : walkedL t2 s3 with
      | fail => rw [show ((walkedL t2).bind _) s3 = _ from bind_fail_of ew2] at h; exact h.elim
      | exc k ps s4 => exact (NoEx.walkedL _ _ _ _ ew2).elim
      | ok y s4 =>
        rw [show ((walkedL t2).bind _) s3 = _ from bind_ok_of ew2] at h
        have hat2 : ∀ p v, (Tm.at p, v) ∈ [(t1, v1)] → AtP as1 σ H1 p v := fun p v hm => hat p v (List.mem_cons_of_mem _ hm)
        have R4 : KTms κ A1 as1 σ (sV [(t1, v1)] ++ (vs3 ++ ts)) H1 s3 (sD [(t1, v1)] ++ (l3 ++ tds)) [] [] [(t2, v2)] := by
          refine ⟨rfl, ?_, fun p v hm => hat p v (by rcases List.mem_singleton.mp hm with h; rw [h]; simp)⟩
          have := R3.2.1
          cases t2 <;> simpa [sV, sD] using this
        obtain ⟨l2, k2, A2, b, vs2, o2, ds2, rfl, rfl, hl2, P5, B2, wy2, g2⟩ := walkedL_ok R4 ew2
        have P6 := Rel.swapB hl2 (sVD_len _).symm P5
        have R5 : KTms κ A2 as1 σ (vs2 ++ (vs3 ++ ts)) H1 s4 (l2 ++ (l3 ++ tds)) [] [] [(t1, v1)] := ⟨rfl, P6, hat2⟩
        have h : RunI κ A σ ts tds as W R (((walkedL t1).bind fun x => match x, (Items.ds l2 k2), (Items.ds l3 k3) with | .ds xs k1, .ds ys k2, .ds zs k3 => (pure (.ds (zip3 xs ys zs) (k1 ++ k2 ++ k3)) : M Items) | _, _, _ => VS.fail) s4) := h
        cases ew1 : walkedL t1 s4 with
        | fail => rw [show ((walkedL t1).bind _) s4 = _ from bind_fail_of ew1] at h; exact h.elim
        | exc k ps s5 => exact (NoEx.walkedL _ _ _ _ ew1).elim
        | ok x s5 =>
          rw [show ((walkedL t1).bind _) s4 = _ from bind_ok_of ew1] at h
          obtain ⟨l1, k1, A3, a, vs1, o1, ds1, rfl, rfl, hl1, P7, B1, wy1, g1⟩ := walkedL_ok R5 ew1
          have w2 := wy2.grow g1
          have w3 := (wy3.grow g2).grow g1
          have P8 : KRel κ A3 as1 σ ((vs1 ++ (vs2 ++ vs3)) ++ ts) H1 s5 ((l1 ++ (l2 ++ l3)) ++ tds) := by simpa [List.append_assoc] using P7
          exact ⟨a, b, d, vs1, vs2, vs3, rfl, (wy1.holds (Rel.nf P7)).list, (w2.holds (Rel.nf P7)).list, (w3.holds (Rel.nf P7)).list, h A3 as1 H1 _ _ _ (wk_zip3 hl1 hl2 hl3 wy1.holds w2.holds w3.holds) hA P8 ((B1.trans B2).trans B3)⟩
  | [], _, _, hl2, _, _ => simp at hl2
  | [_], _, _, hl2, _, _ => simp at hl2
  | [_, _], _, _, hl2, _, _ => simp at hl2
  | _ :: _ :: _ :: _ :: _, _, _, hl2, _, _ => simp at hl2
end
end VS
namespace VS
open PySem L2
def isNoneC : Const → Bool
  | .none => true
  | _ => false
def tyB (t : Ty) (y : Str) : Bool := match tyName t with
  | some (x, _) => decide (x = y)
  | none => false
def notRange : CE → Bool
  | .bi .range _ => false
  | _ => true
def wrtB : Option D → Bool
  | some (.dK .wrt _ _) => true
  | _ => false
def locB (c : Ck) (x : Str) : Bool := decide (c.sc.names.lookup x = some .local) || (c.top && decide (c.sc.names.lookup x = some .cell))
mutual
def chkP (c : Ck) : Pat → Expr → Bool
  | .name i, .Name x _ => decide (c.N[i]? = some x) && locB c x
  | .tup ps, .Tuple es _ _ => chkPs c ps es
  | _, _ => false
def chkPs (c : Ck) : List Pat → List Expr → Bool
  | [], [] => true
  | p :: ps, e :: es => starB e && chkP c p e && chkPs c ps es
  | _, _ => false
end
/-- a source -/
def tupT : Expr → Bool
  | .Tuple _ _ _ => true
  | _ => false
def chkSrc (f : CE → Expr → Bool) (c : Ck) (tg : Expr) : Src → Expr → Bool
  | .range [a], .Call (.Name x _) [y] [] _ => decide (x = "range") && glB c.sc x && chkL f [a] [y]
  | .range [a, b], .Call (.Name x _) [y, z] [] _ => decide (x = "range") && glB c.sc x && chkL f [a, b] [y, z]
  | .enum a, .Call (.Name x _) [y] [] _ => tupT tg && (decide (x = "enumerate") && glB c.sc x && chkL f [a] [y])
  | .zip [a, b], .Call (.Name x _) [y, z] [] _ => tupT tg && (decide (x = "zip") && glB c.sc x && chkL f [a, b] [y, z])
  | .zip [a, b, d], .Call (.Name x _) [y, z, u] [] _ => tupT tg && (decide (x = "zip") && glB c.sc x && chkL f [a, b, d] [y, z, u])
  | .it a, e => f a e
  | _, _ => false
def chkCond (f : CE → Expr → Bool) : Option CE → List Expr → Bool
  | none, [] => true
  | some a, [e] => f a e
  | _, _ => false
def ownN (c : Ck) (own : List Nat) : List (Str × Nat) := own.map fun i => (c.N.getD i Str.empty, i)
def chkCmp (f g : CE → Expr → Bool) (c : Ck) (own : List Nat) (p : Pat) (src : Src) (cond : Option CE) (elt : CE) (y tg iter : Expr) (ifs : List Expr) (scope : Scope) : Bool :=
  decide own.Nodup && (patNames p).all (fun j => own.contains j) && blkC c.N c.sc scope (ownN c own) && setB iter && chkSrc f c tg src iter && chkP { c with sc := relS scope c.sc, top := false } p tg && chkCond g cond ifs && g elt y
/-- the classes that have the method -/
def mtAll (m : Str) : Nat → List (List (Str × Nat)) → List (Nat × Nat)
  | _, [] => []
  | k, ms :: r => match ms.lookup m with
    | some j => (k, j) :: mtAll m (k + 1) r
    | none => mtAll m (k + 1) r
def onlyB : List (Nat × Nat) → Bool
  | [_] => true
  | _ => false
def mtB (c : Ck) (m : Str) : Bool := onlyB (mtAll m 0 c.P.meths) && !decide (m = Str.ofString "__init__")
def clB (c : Ck) (i : Nat) (x : Str) : Bool := decide (c.clN[i]? = some x) && ((c.P.meths[i]?).bind fun ms => ms.lookup (Str.ofString "__init__")).isSome
theorem mtAll_in {m : Str} {j : Nat} : ∀ {l : List (List (Str × Nat))} {k c : Nat}, ((l[c]?).bind fun ms => ms.lookup m) = some j → (k + c, j) ∈ mtAll m k l
  | [], _, _, h => by simp at h
  | ms :: r, k, 0, h => by
    simp only [List.getElem?_cons_zero, Option.bind_some] at h
    unfold mtAll
    rw [h]
    exact .head _
  | ms :: r, k, c + 1, h => by
    simp only [List.getElem?_cons_succ] at h
    have := mtAll_in (k := k + 1) h
    rw [show k + 1 + c = k + (c + 1) by omega] at this
    unfold mtAll
    split
    · exact .tail _ this
    · exact this
theorem mtAll_of {m : Str} : ∀ {l : List (List (Str × Nat))} {k : Nat} {p : Nat × Nat}, p ∈ mtAll m k l → ∃ c ms, p.1 = k + c ∧ l[c]? = some ms ∧ ms.lookup m = some p.2
  | [], _, _, h => by cases h
  | ms :: r, k, p, h => by
    unfold mtAll at h
    have tail : p ∈ mtAll m (k + 1) r → ∃ c ms', p.1 = k + c ∧ (ms :: r)[c]? = some ms' ∧ ms'.lookup m = some p.2 := fun h => by
      obtain ⟨c, ms', h1, h2, h3⟩ := mtAll_of h
      exact ⟨c + 1, ms', by omega, by simpa using h2, h3⟩
    split at h
    · rename_i j e
      rcases List.mem_cons.mp h with rfl | h
      · exact ⟨0, ms, rfl, rfl, e⟩
      · exact tail h
    · exact tail h
theorem mtB_ok {c : Ck} {m : Str} (h : mtB c m = true) : m ≠ Str.ofString "__init__" ∧ ∃ (ci : Nat) (ms : List (Str × Nat)) (j : Nat), c.P.meths[ci]? = some ms ∧ ms.lookup m = some j ∧ ∀ (c' j' : Nat), ((c.P.meths[c']?).bind fun ms => ms.lookup m) = some j' → c' = ci ∧ j' = j := by
  simp only [mtB, Bool.and_eq_true, Bool.not_eq_true', decide_eq_false_iff_not] at h
  obtain ⟨h1, h2⟩ := h
  refine ⟨h2, ?_⟩
  cases e : mtAll m 0 c.P.meths with
  | nil => rw [e] at h1; cases h1
  | cons p r =>
    cases r with
    | cons _ _ => rw [e] at h1; cases h1
    | nil =>
      obtain ⟨ci, ms, g1, g2, g3⟩ := mtAll_of (p := p) (by rw [e]; exact .head _)
      refine ⟨ci, ms, p.2, g2, g3, fun c' j' h => ?_⟩
      have := mtAll_in (k := 0) h
      rw [e, List.mem_singleton] at this
      obtain ⟨a, b⟩ := p
      cases this
      exact ⟨by simp at g1; omega, rfl⟩
def chkE : Nat → Ck → CE → Expr → Bool
  | 0, _, _, _ => false
  | n + 1, c, ce, e => match ce, e with
    | .loc i, .Name x _ => nameB c i x
    | .glo x, .Name y _ => decide (x = y) && gloB c x
    | .lit l, .Constant k _ _ => litB l k
    | .bin op a b, .BinOp x o y _ => decide (o = bopE op) && (chkE n c a x && chkE n c b y)
    | .neg a, .UnaryOp o x _ => decide (o = .USub) && chkE n c a x
    | .not a, .UnaryOp o x _ => decide (o = .Not) && chkE n c a x
    | .and a b, .BoolOp op es _ => chkBo (chkE n c) op (.and a b) es
    | .or a b, .BoolOp op es _ => chkBo (chkE n c) op (.or a b) es
    | .cmp op a b, .Compare x [o] [y] _ => decide (o = copE op) && setB y && (chkE n c a x && chkE n c b y)
    | .chain o1 o2 a b d, .Compare x [p1, p2] [y, z] _ => decide (p1 = copE o1) && decide (p2 = copE o2) && setB z && (chkE n c a x && chkE n c b y && chkE n c d z)
    | .isN a, .Compare x [o] [.Constant k _ _] _ => decide (o = .Is) && isNoneC k && chkE n c a x
    | .notN a, .Compare x [o] [.Constant k _ _] _ => decide (o = .IsNot) && isNoneC k && chkE n c a x
    | .ite t a b, .IfExp x y z _ => chkE n c t x && chkE n c a y && chkE n c b z
    | .sub a i, .Subscript x y _ => plainIxB y && (chkE n c a x && chkE n c i y)
    | .slice a none none, .Subscript x (.Slice none none none _) _ => chkE n c a x
    | .slice a (some l) none, .Subscript x (.Slice (some y) none none _) _ => chkE n c a x && chkE n c l y
    | .slice a none (some h), .Subscript x (.Slice none (some y) none _) _ => chkE n c a x && chkE n c h y
    | .slice a (some l) (some h), .Subscript x (.Slice (some y) (some z) none _) _ => chkE n c a x && chkE n c l y && chkE n c h z
    | .tup cs, .Tuple es _ _ => chkL (chkE n c) cs es
    | .lst cs, .List es _ => chkL (chkE n c) cs es
    | .dnK, .Dict [] [] _ => true
    | .call i (a :: cs), .Call (.Name x _) (y :: es) [] _ => decide (c.fnN[i]? = some (some x)) && glB c.sc x && okN x && chkL (chkE n c) (a :: cs) (y :: es)
    | .attr a f, .Attribute x g _ => decide (f = g) && baseB x && c.atN.contains f && chkE n c a x
    | .mcall o m [], .Call (.Attribute x g apos) [] [] pos => decide (m = g) && baseB x && mtB c m && (apos.endLine == pos.line) && chkE n c o x
    | .mcall o m (a :: cs), .Call (.Attribute x g apos) (y :: es) [] pos => decide (m = g) && baseB x && mtB c m && (apos.endLine == pos.line) && decide (es.length < 20) && chkE n c o x && chkL (chkE n c) (a :: cs) (y :: es)
    | .new i [], .Call (.Name x _) [] [] _ => clB c i x && glB c.sc x && okN x
    | .new i (a :: cs), .Call (.Name x _) (y :: es) [] _ => clB c i x && glB c.sc x && okN x && chkL (chkE n c) (a :: cs) (y :: es)
    | .isi a t, .Call (.Name f _) [x, .Name y _] [] _ => decide (f = "isinstance") && glB c.sc f && tyB t y && glB c.sc y && starB x && chkE n c a x
    | .bm .append o [a], .Call (.Attribute x mn apos) [y] [] pos => decide (mn = "append") && baseB x && (apos.endLine == pos.line) && chkE n c o x && chkL (chkE n c) [a] [y]
    | .bm .join o [a], .Call (.Attribute x mn apos) [y] [] pos => decide (mn = "join") && baseB x && (apos.endLine == pos.line) && chkE n c o x && chkL (chkE n c) [a] [y]
    | .bm .count o [a], .Call (.Attribute x mn apos) [y] [] pos => decide (mn = "count") && baseB x && (apos.endLine == pos.line) && chkE n c o x && chkL (chkE n c) [a] [y]
    | .bm .index o [a], .Call (.Attribute x mn apos) [y] [] pos => decide (mn = "index") && baseB x && (apos.endLine == pos.line) && chkE n c o x && chkL (chkE n c) [a] [y]
    | .bm .get (.glo g) [a, b], .Call (.Attribute (.Name x _) mn apos) [y, z] [] pos => decide (mn = "get") && decide (g = x) && glB c.sc x && okN x && wrtB (c.P.glob g) && (apos.endLine == pos.line) && chkL (chkE n c) [a, b] [y, z]
    | .bm .get o [a, b], .Call (.Attribute x mn apos) [y, z] [] pos => decide (mn = "get") && baseB x && (apos.endLine == pos.line) && chkE n c o x && chkL (chkE n c) [a, b] [y, z]
    | .bi .list [a], .Call (.Name x _) [y] [] _ => decide (x = "list") && glB c.sc x && notRange a && chkL (chkE n c) [a] [y]
    | .bi .tuple [a], .Call (.Name x _) [y] [] _ => decide (x = "tuple") && glB c.sc x && notRange a && chkL (chkE n c) [a] [y]
    | .comp own p src cond elt, .ListComp y [⟨tg, iter, ifs, asy⟩] scope _ => decide (asy = 0) && chkCmp (chkE n c) (chkE n { c with sc := relS scope c.sc, top := false }) c own p src cond elt y tg iter ifs scope
    | .bi b (a :: cs), .Call (.Name x _) (y :: es) [] _ => decide (x = (biName b).1) && glB c.sc x && plainBi b (a :: cs) && chkL (chkE n c) (a :: cs) (y :: es)
    | _, _ => chkMore (chkE n c) c ce e
section
variable {κ : Kit} {cf : Nat → List D → M (D × List D)} {X : Cx} {W : WX} {c : Ck}
theorem SAs.head {ev : CE → M Tm} {e : Expr} {es : List Expr} {cc : CE} {cs : List CE} (h : SAs κ X W ev (e :: es) (cc :: cs)) : starEach (e :: es) X.env = (false, eval e X.env) :: starEach es X.env := by
  cases h with | cons _ h _ => exact h
theorem SAs.tailPlain {ev : CE → M Tm} {e : Expr} {es : List Expr} {cc : CE} {cs : List CE} {pos : Pos} (h : SAs κ X W ev (e :: es) (cc :: cs)) : (backTo pos (starEach es X.env)).any (·.1) = false := by
  cases h with | cons _ _ r => exact backTo_any.trans r.plain
theorem tyB_ok {t : Ty} {y : Str} (h : tyB t y = true) : ∃ n, tyName t = some (y, n) := by
  unfold tyB at h
  split at h
  · rename_i x n e; exact ⟨n, by rw [e, of_decide_eq_true h]⟩
  · cases h
theorem tyName_in {t : Ty} {x : Str} {n : String} (h : tyName t = some (x, n)) : x ∈ (["len", "abs", "int", "str", "max", "min", "sum", "any", "all", "divmod", "list", "tuple", "isinstance", "range", "bool", "enumerate", "zip", "set", "sorted"] : List Str) := by
  cases t <;> simp [tyName] at h <;> (obtain ⟨rfl, _⟩ := h; decide +kernel)
theorem biName_in {b : Bi} {cs : List CE} (h : plainBi b cs = true) : (biName b).1 ∈ (["len", "abs", "int", "str", "max", "min", "sum", "any", "all", "divmod", "list", "tuple", "isinstance", "range", "bool", "enumerate", "zip", "set", "sorted"] : List Str) := by
  cases b <;> first | decide +kernel | (simp [plainBi] at h; done)
theorem wrtB_ok {o : Option D} (h : wrtB o = true) : ∃ ks ds, o = some (.dK .wrt ks ds) := by
  unfold wrtB at h
  split at h
  · exact ⟨_, _, rfl⟩
  · cases h
theorem loc_ok (S : SC κ cf X W c) {x : Str} (h : locB c x = true) : Loc X.env.scope x ∧ (X.fn x = true ∨ X.env.scope.names.lookup x = some .local) := by
  simp only [locB, Bool.or_eq_true, Bool.and_eq_true, decide_eq_true_eq] at h
  rw [← S.sc] at h
  rcases h with h | ⟨h1, h2⟩
  · exact ⟨.inl h, .inr h⟩
  · exact ⟨.inr h2, .inl ((S.tops h1).fn x)⟩
theorem star_asg {e : Expr} {es : List Expr} {env : Env} (h : starB e = true) : assignEach (e :: es) env = (false, assign e env) :: assignEach es env := by
  cases e <;> first | rfl | cases h
theorem chkPs_len : ∀ {ps : List Pat} {es : List Expr}, chkPs c ps es = true → ps.length = es.length
  | [], [], _ => rfl
  | p :: ps, e :: es, h => by
    simp only [chkPs, Bool.and_eq_true] at h
    exact congrArg (· + 1) (chkPs_len h.2)
  | [], _ :: _, h => by simp [chkPs] at h
  | _ :: _, [], h => by simp [chkPs] at h
theorem chkPs_star {env : Env} : ∀ {ps : List Pat} {es : List Expr}, chkPs c ps es = true → (assignEach es env).length = ps.length ∧ (assignEach es env).findIdx? (·.1) = none
  | [], [], _ => ⟨rfl, rfl⟩
  | p :: ps, e :: es, h => by
    simp only [chkPs, Bool.and_eq_true] at h
    obtain ⟨i1, i2⟩ := chkPs_star (env := env) h.2
    rw [star_asg h.1.1]
    refine ⟨congrArg (· + 1) i1, ?_⟩
    rw [List.findIdx?_cons, i2]; rfl
  | [], _ :: _, h => by simp [chkPs] at h
  | _ :: _, [], h => by simp [chkPs] at h
mutual
theorem chkP_ok (S : SC κ cf X W c) : ∀ {p : Pat} {tg : Expr}, chkP c p tg = true → PG X tg (tG κ p)
  | .name i, .Name x pos, h => by
    simp only [chkP, Bool.and_eq_true, decide_eq_true_eq] at h
    obtain ⟨h1, h2⟩ := h
    obtain ⟨g1, g2⟩ := loc_ok S h2
    exact g_name S.nd (by rw [S.hN]; exact h1) g1 g2
  | .tup ps, .Tuple es k pos, h => by
    simp only [chkP] at h
    obtain ⟨g1, g2⟩ := chkPs_star (env := X.env) h
    exact g_tup S.hK S.calm (chkPs_ok S h) (chkPs_len h) g1 g2
  | .name _, tg, h => by
    cases tg <;> first | (simp [chkP] at h; done) | skip
    simp only [chkP, Bool.and_eq_true, decide_eq_true_eq] at h
    obtain ⟨h1, h2⟩ := h
    obtain ⟨g1, g2⟩ := loc_ok S h2
    exact g_name S.nd (by rw [S.hN]; exact h1) g1 g2
  | .tup ps, tg, h => by
    cases tg <;> first | (simp [chkP] at h; done) | skip
    simp only [chkP] at h
    obtain ⟨g1, g2⟩ := chkPs_star (env := X.env) h
    exact g_tup S.hK S.calm (chkPs_ok S h) (chkPs_len h) g1 g2
theorem chkPs_ok (S : SC κ cf X W c) : ∀ {ps : List Pat} {es : List Expr}, chkPs c ps es = true → PGs X es (gs κ ps)
  | [], [], _ => pgs_nil
  | p :: ps, e :: es, h => by
    simp only [chkPs, Bool.and_eq_true] at h
    exact pgs_cons (chkP_ok S h.1.2) (chkPs_ok S h.2) (by rw [star_asg h.1.1]; rfl)
  | [], _ :: _, h => by simp [chkPs] at h
  | _ :: _, [], h => by simp [chkPs] at h
end
theorem tupT_ok {e : Expr} (h : tupT e = true) : ∃ el k p, e = .Tuple el k p := by cases e <;> first | exact ⟨_, _, _, rfl⟩ | cases h
theorem chkSrc_ok (S : SC κ cf X W c) {f : CE → Expr → Bool} {ev : CE → M Tm} (hf : ∀ ce e, f ce e = true → SE κ X W e ev ce) {mv : Bool} {src : Src} {iter tg : Expr} (h : chkSrc f c tg src iter = true) : PI X tg iter (tI κ W (srcItems ev mv src)) := by
  unfold chkSrc at h
  split at h
  · simp only [Bool.and_eq_true, decide_eq_true_eq] at h
    obtain ⟨⟨rfl, h1⟩, h2⟩ := h
    exact src_range1 (gl_ok S.sc h1) (S.blt _ (by decide +kernel)) (chkL_ok hf h2)
  · simp only [Bool.and_eq_true, decide_eq_true_eq] at h
    obtain ⟨⟨rfl, h1⟩, h2⟩ := h
    exact src_range2 (gl_ok S.sc h1) (S.blt _ (by decide +kernel)) (chkL_ok hf h2)
  · simp only [Bool.and_eq_true, decide_eq_true_eq] at h
    obtain ⟨h0, ⟨rfl, h1⟩, h2⟩ := h
    obtain ⟨el, kk, tp, rfl⟩ := tupT_ok h0
    exact src_enum S.hK (gl_ok S.sc h1) (S.blt _ (by decide +kernel)) (chkL_ok hf h2)
  · simp only [Bool.and_eq_true, decide_eq_true_eq] at h
    obtain ⟨h0, ⟨rfl, h1⟩, h2⟩ := h
    obtain ⟨el, kk, tp, rfl⟩ := tupT_ok h0
    exact src_zip S.hK (gl_ok S.sc h1) (S.blt _ (by decide +kernel)) (chkL_ok hf h2)
  · simp only [Bool.and_eq_true, decide_eq_true_eq] at h
    obtain ⟨h0, ⟨rfl, h1⟩, h2⟩ := h
    obtain ⟨el, kk, tp, rfl⟩ := tupT_ok h0
    exact src_zip3 S.hK (gl_ok S.sc h1) (S.blt _ (by decide +kernel)) (chkL_ok hf h2)
  · exact src_it (hf _ _ h) S.hK
  · cases h
theorem ownN_snd (c : Ck) (own : List Nat) : (ownN c own).map (·.2) = own := by
  unfold ownN; rw [List.map_map]; exact List.map_id'' (fun _ => rfl) _
theorem cmp_ok {P : Prog} (S : SC κ cf X W c) {f g : CE → Expr → Bool} {ev : CE → M Tm} {own : List Nat} {p : Pat} {src : Src} {cond : Option CE} {elt : CE} {y tg iter : Expr} {ifs : List Expr} {scope : Scope} {pos : Pos} (hf : ∀ ce e, f ce e = true → SE κ X W e ev ce)
    (hg : ∀ (s : Shared) (H : Hp) (C : Addr) (cl : List (Str × Addr)) (fp : List Addr) ce e, g ce e = true → SE κ (X.blk s H scope (compEnvC scope cl C X.env) fp) W0 e ev ce)
    (h : chkCmp f g c own p src cond elt y tg iter ifs scope = true) : SE κ X W (.ListComp y [⟨tg, iter, ifs, 0⟩] scope pos) (step P ev cf) (.comp own p src cond elt) := by
  simp only [chkCmp, Bool.and_eq_true, decide_eq_true_eq] at h
  obtain ⟨⟨⟨⟨⟨⟨⟨h1, h2⟩, h3⟩, h4⟩, h5⟩, h6⟩, h7⟩, h8⟩ := h
  have hown := ownN_snd c own
  have key := snd_comp (P := P) (cf := cf) (pos := pos) (own := ownN c own) (scope := scope) (elt := y) (ifs := ifs) (ce := elt) (cond := cond) (p := p) (W := W) (ev := ev) S.calm S.nd (chkSrc_ok S hf h5 (tg := tg) (mv := false)) (by rw [S.hN, S.sc]; exact blkOk_by h3)
    (fun s H C cl fp => chkP_ok (S.blk s H scope C cl fp) h6)
    (fun s H C cl fp => by
      cases cond with
      | none => cases ifs with
        | nil => exact pts_nil
        | cons _ _ => cases h7
      | some a => cases ifs with
        | nil => cases h7
        | cons e r => cases r with
          | nil => exact pts_one (hg s H C cl fp _ _ h7).pt
          | cons _ _ => cases h7)
    (fun s H C cl fp => (hg s H C cl fp _ _ h8).pe) (set_ok h4) (by rw [hown]; exact h1) (fun j hj => by rw [hown]; simpa using List.all_eq_true.mp h2 j hj)
  rw [hown] at key
  exact SE.of_pe key fun _ => rfl
theorem chkE_ok : ∀ (n : Nat) {X : Cx} {W : WX} {c : Ck} (S : SC κ cf X W c) (ce : CE) (e : Expr), chkE n c ce e = true → ∀ m, SE κ X W e (evalE c.P cf m) ce
  | 0, _, _, _, _, _, _, h, _ => by cases h
  | _ + 1, _, _, _, _, _, _, _, 0 => se_fail
  | n + 1, X, W, c, S, ce, e, h, m + 1 => by
    have ih : ∀ ce e, chkE n c ce e = true → SE κ X W e (evalE c.P cf m) ce := fun ce e h => chkE_ok n S ce e h m
    show SE κ X W e (step c.P (evalE c.P cf m) cf) ce
    unfold chkE at h
    split at h
    · exact name_ok S h
    · simp only [Bool.and_eq_true, decide_eq_true_eq] at h
      obtain ⟨rfl, h⟩ := h
      exact glo_ok S h
    · exact lit_ok h
    · simp only [Bool.and_eq_true, decide_eq_true_eq] at h
      obtain ⟨rfl, h1, h2⟩ := h
      exact SE.of_pe (snd_bin (ih _ _ h1) (ih _ _ h2) S.hK) fun _ => rfl
    · simp only [Bool.and_eq_true, decide_eq_true_eq] at h
      obtain ⟨rfl, h⟩ := h
      exact SE.of_pe (snd_neg (ih _ _ h)) fun _ => rfl
    · simp only [Bool.and_eq_true, decide_eq_true_eq] at h
      obtain ⟨rfl, h⟩ := h
      exact snd_not (ih _ _ h)
    · exact (chkBo_ok (fun ce e h m => chkE_ok n S ce e h m) h (m + 1)).se
    · exact (chkBo_ok (fun ce e h m => chkE_ok n S ce e h m) h (m + 1)).se
    · simp only [Bool.and_eq_true, decide_eq_true_eq] at h
      obtain ⟨⟨rfl, h0⟩, h1, h2⟩ := h
      exact snd_cmp S.units S.hK (ih _ _ h1) (ih _ _ h2) (behind_ok h0)
    · simp only [Bool.and_eq_true, decide_eq_true_eq] at h
      obtain ⟨⟨⟨rfl, rfl⟩, h0⟩, ⟨h1, h2⟩, h3⟩ := h
      exact snd_chain S.units S.hK (ih _ _ h1) (ih _ _ h2) (ih _ _ h3) (last_ok h0)
    · rename_i k _ _ _
      simp only [Bool.and_eq_true, decide_eq_true_eq] at h
      obtain ⟨⟨rfl, h0⟩, h⟩ := h
      cases k <;> first | exact snd_isN (ih _ _ h) | cases h0
    · rename_i k _ _ _
      simp only [Bool.and_eq_true, decide_eq_true_eq] at h
      obtain ⟨⟨rfl, h0⟩, h⟩ := h
      cases k <;> first | exact snd_notN (ih _ _ h) | cases h0
    · simp only [Bool.and_eq_true] at h
      exact se_ite (ih _ _ h.1.1) (ih _ _ h.1.2) (ih _ _ h.2)
    · simp only [Bool.and_eq_true] at h
      exact SE.of_pe (snd_sub (by have := S.units; omega) S.hK (ih _ _ h.2.1) (ih _ _ h.2.2) (plainIx_ok h.1)) fun _ => rfl
    · exact SE.of_pe (snd_slice0 S.hK (ih _ _ h)) fun _ => rfl
    · simp only [Bool.and_eq_true] at h
      exact SE.of_pe (snd_slice1 S.hK (ih _ _ h.1) (ih _ _ h.2)) fun _ => rfl
    · simp only [Bool.and_eq_true] at h
      exact SE.of_pe (snd_slice2 S.hK (ih _ _ h.1) (ih _ _ h.2)) fun _ => rfl
    · simp only [Bool.and_eq_true] at h
      exact SE.of_pe (snd_slice3 S.hK (ih _ _ h.1.1) (ih _ _ h.1.2) (ih _ _ h.2)) fun _ => rfl
    · exact SE.of_pe (snd_tup (chkL_ok ih h)) fun _ => rfl
    · exact SE.of_pe (snd_lst (chkL_ok ih h)) fun _ => rfl
    · exact SE.of_pe snd_dnK fun _ => rfl
    · simp only [Bool.and_eq_true, decide_eq_true_eq] at h
      obtain ⟨⟨⟨h1, h2⟩, h3⟩, h4⟩ := h
      obtain ⟨k, f, fd', ps, fd, hf, F, hr, hm, hk, hb⟩ := S.fns _ _ h1
      exact SE.of_pe (snd_call F hf hr (gl_ok S.sc h2) hm hk hb (passAt S.tk) (chkL_ok ih h4) (okN_ok h3).1) fun _ => rfl
    · simp only [Bool.and_eq_true, decide_eq_true_eq] at h
      obtain ⟨⟨⟨rfl, h1⟩, h2⟩, h3⟩ := h
      exact SE.of_pe (snd_attr S.hK (ih _ _ h3) (base_ok h1) (S.cls _ h2)) fun _ => rfl
    · simp only [Bool.and_eq_true, decide_eq_true_eq] at h
      obtain ⟨⟨⟨⟨rfl, h1⟩, h2⟩, h3⟩, h4⟩ := h
      obtain ⟨g1, ci, ms, j, g2, g3, g4⟩ := mtB_ok h2
      obtain ⟨k, f, fd', ps, fd, hf, F, hr, hc, hm, hb⟩ := S.mth _ _ _ _ g2 g3 g1
      obtain ⟨pl, ht⟩ := mcall_eval (es := []) (env := X.env) (base_ok h1) rfl (by decide) h3
      exact SE.of_pe (snd_mcall0 hc hm F hf hr hb (passAt S.tk) g4 (ih _ _ h4) ht) fun _ => rfl
    · simp only [Bool.and_eq_true, decide_eq_true_eq] at h
      obtain ⟨⟨⟨⟨⟨⟨rfl, h1⟩, h2⟩, h3⟩, h5⟩, h4⟩, h6⟩ := h
      obtain ⟨g1, ci, ms, j, g2, g3, g4⟩ := mtB_ok h2
      obtain ⟨k, f, fd', ps, fd, hf, F, hr, hc, hm, hb⟩ := S.mth _ _ _ _ g2 g3 g1
      have hs := chkL_ok ih h6
      obtain ⟨pl, ht⟩ := mcall_eval (env := X.env) (base_ok h1) hs.plain (by simp only [List.length_cons]; omega) h3
      exact SE.of_pe (snd_mcall hc hm F hf hr hb (passAt S.tk) g4 (ih _ _ h4) hs (base_ok h1) ht) fun _ => rfl
    · simp only [Bool.and_eq_true, decide_eq_true_eq, clB, Option.isSome_iff_exists] at h
      obtain ⟨⟨⟨h1, j, h2⟩, h3⟩, h4⟩ := h
      rw [Option.bind_eq_some_iff] at h2
      obtain ⟨ms, g1, g2⟩ := h2
      obtain ⟨k, f, fd', ps, fd, hf, F, hr, hM, hm, hb⟩ := S.mkc _ _ _ _ h1 g1 g2
      exact SE.of_pe (snd_new0 g1 g2 rfl hM F hf hr (gl_ok S.sc h3) hm hb (passAt S.tk) (okN_ok h4).1) fun _ => rfl
    · simp only [Bool.and_eq_true, decide_eq_true_eq, clB, Option.isSome_iff_exists] at h
      obtain ⟨⟨⟨⟨h1, j, h2⟩, h3⟩, h4⟩, h5⟩ := h
      rw [Option.bind_eq_some_iff] at h2
      obtain ⟨ms, g1, g2⟩ := h2
      obtain ⟨k, f, fd', ps, fd, hf, F, hr, hM, hm, hb⟩ := S.mkc _ _ _ _ h1 g1 g2
      exact SE.of_pe (snd_new g1 g2 rfl hM F hf hr (gl_ok S.sc h3) hm hb (passAt S.tk) (chkL_ok ih h5) (okN_ok h4).1) fun _ => rfl
    · simp only [Bool.and_eq_true, decide_eq_true_eq] at h
      obtain ⟨⟨⟨⟨⟨rfl, h1⟩, h2⟩, h3⟩, h4⟩, h5⟩ := h
      obtain ⟨nn, ht⟩ : ∃ n, tyName _ = some (_, n) := tyB_ok h2
      exact SE.of_pe (snd_isi S.hK ht (gl_ok S.sc h1) (S.blt _ (by decide +kernel)) (gl_ok S.sc h3) (S.blt _ (tyName_in ht)) (ih _ _ h5) (star_ok h4)) fun _ => rfl
    · simp only [Bool.and_eq_true, decide_eq_true_eq] at h
      obtain ⟨⟨⟨⟨rfl, h1⟩, h2⟩, h3⟩, h4⟩ := h
      exact SE.of_pe (snd_append S.hK (ih _ _ h3) (chkL_ok ih h4) (base_ok h1) h2) fun _ => rfl
    · simp only [Bool.and_eq_true, decide_eq_true_eq] at h
      obtain ⟨⟨⟨⟨rfl, h1⟩, h2⟩, h3⟩, h4⟩ := h
      exact SE.of_pe (snd_join S.hK (ih _ _ h3) (chkL_ok ih h4) (base_ok h1) h2) fun _ => rfl
    · simp only [Bool.and_eq_true, decide_eq_true_eq] at h
      obtain ⟨⟨⟨⟨rfl, h1⟩, h2⟩, h3⟩, h4⟩ := h
      exact SE.of_pe (snd_count S.hK (ih _ _ h3) (chkL_ok ih h4) (base_ok h1) h2) fun _ => rfl
    · simp only [Bool.and_eq_true, decide_eq_true_eq] at h
      obtain ⟨⟨⟨⟨rfl, h1⟩, h2⟩, h3⟩, h4⟩ := h
      exact SE.of_pe (snd_index S.units S.hK (ih _ _ h3) (chkL_ok ih h4) (base_ok h1) h2) fun _ => rfl
    · simp only [Bool.and_eq_true, decide_eq_true_eq] at h
      obtain ⟨⟨⟨⟨⟨⟨rfl, rfl⟩, h1⟩, h2⟩, h3⟩, h4⟩, h5⟩ := h
      obtain ⟨ks, ds, e0⟩ := wrtB_ok h3
      obtain ⟨ad, hm, kd⟩ := S.dict _ _ _ e0
      have hs := chkL_ok ih h5
      refine SE.of_pe (snd_kget ?_ kd (gl_ok S.sc h1) hm (okN_ok h2).1 hs ?_) fun _ => rfl
      · cases m with
        | zero => exact .inr fun _ => rfl
        | succ m => exact .inl fun s => by show (opt (c.P.glob _)).bind _ s = _; rw [e0]; rfl
      · cases hs with
        | cons _ q1 r => cases r with
          | cons _ q2 _ => exact ⟨rfl, by rw [q1, q2]; rfl, h4, by rw [q1, q2]; rfl⟩
    · simp only [Bool.and_eq_true, decide_eq_true_eq] at h
      obtain ⟨⟨⟨⟨rfl, h1⟩, h2⟩, h3⟩, h4⟩ := h
      have hs := chkL_ok ih h4
      refine SE.of_pe (snd_get2 (by have := S.units; omega) (ih _ _ h3) hs ?_) fun _ => rfl
      cases hs with
      | cons _ q1 r => cases r with
        | cons _ q2 _ => exact ⟨base_ok h1, by rw [q1, q2]; rfl, h2, by rw [q1, q2]; rfl⟩
    · simp only [Bool.and_eq_true, decide_eq_true_eq] at h
      obtain ⟨⟨⟨rfl, h1⟩, h2⟩, h3⟩ := h
      exact SE.of_pe (snd_list1 S.calm S.hK (gl_ok S.sc h1) (S.blt _ (by decide +kernel)) (chkL_ok ih h3) (fun es z => by rw [z] at h2; cases h2)) fun _ => rfl
    · simp only [Bool.and_eq_true, decide_eq_true_eq] at h
      obtain ⟨⟨⟨rfl, h1⟩, h2⟩, h3⟩ := h
      exact SE.of_pe (snd_tuple1 S.hK (gl_ok S.sc h1) (S.blt _ (by decide +kernel)) (chkL_ok ih h3) (fun es z => by rw [z] at h2; cases h2)) fun _ => rfl
    · simp only [Bool.and_eq_true, decide_eq_true_eq] at h
      obtain ⟨rfl, h⟩ := h
      exact cmp_ok S ih (fun s H C cl fp ce e h => chkE_ok n (S.blk s H _ C cl fp) ce e h m) h
    · simp only [Bool.and_eq_true, decide_eq_true_eq] at h
      obtain ⟨⟨⟨rfl, h1⟩, h2⟩, h3⟩ := h
      have hs := chkL_ok ih h3
      exact SE.of_pe (snd_bi (es := []) S.hK h2 (pe_bi S.calm h2 (gl_ok S.sc h1) (S.blt _ (biName_in h2)) hs.pa hs.head hs.tailPlain)) fun _ => rfl
    · exact chkMore_ok S ih h
end
end VS
/-! try: .. except X: .. -/
namespace VS
open PySem L2
section
variable {κ : Kit} {cf : Nat → List D → M (D × List D)} {X : Cx} {W : WX} {c : Ck} {fx : List Nat} {wf : Nat}
theorem SC.tr (S : SC κ cf X W c) {W' : WX} {pn : List (Addr × Obj)} {xe : Value → Shared → Prop} (tk : Takes (X.tr pn xe) W') (po : PassesOwn (model X.prog X.w) X.A X.env xe) : SC κ cf (X.tr pn xe) W' c :=
  ⟨S.hK, S.hN, S.sc, S.nd, S.calm, S.units, S.scal, S.dict, S.blt, S.fns, S.cls, S.mth, S.mkc, tk, fun h => have T := S.tops h; ⟨T.fn, T.kind, po, T.stk, T.frm⟩, S.exc, S.exm, S.isx⟩
theorem RunS.calm {A : Act} {ts : List V} {tds : List D} {E : Ends} {m : M Flow} {s : Sx} (h : RunS κ A ts tds W E (noRaiseL m s)) : RunS κ A ts tds W0 E (m s) := by
  unfold noRaiseL at h
  cases e : m s with
  | fail => rw [e] at h; exact h
  | exc c ps s' => rw [e] at h; exact h.elim
  | ok f s' => rw [e] at h; cases f <;> exact h
theorem s_try {P : Prog} {ev : CE → M Tm} {ex : List CS → M Flow} {body suite : List CS} {b su : List Stmt} {b₀ : Stmt} {j : Nat} {x : Str} {np pos pos' : Pos} (S : SC κ cf X W c) (ht : c.top = true) (hP : c.P = P) (hj : c.exN[j]? = some (some x)) (hj2 : c.hdN.hd.contains j = true) (hg : Gl X x) (hdb : (x == ("__debug__" : Str)) = false)
    (hn : ∀ s, ex [] s = .fail ∨ ex [] s = .ok .nx s)
    (hb : ∀ {W' : WX} {pn : List (Addr × Obj)} {xe : Value → Shared → Prop}, SC κ cf (X.tr pn xe) W' c → PSs (X.tr pn xe) b (tS κ W' fx (ex body))) (hsu : ∀ (a : Addr) (pn : List (Addr × Obj)), PSs (X.suite a pn) (b₀ :: su) (tS κ W0 fx (ex suite))) :
    PS X (.Try b [.ExceptHandler (some (.Name x np)) none (b₀ :: su) pos'] [] [] pos) (tS κ W fx (stepS P ev ex wf (.try body [([j], none, suite)] []))) := by
  have T := S.tops ht
  obtain ⟨B, n, t, bm, C, F, q, g, k, s1, s2, eC⟩ := S.exc _ _ hj
  refine (ps_try_only (c := .ref C) (tb := fun W => tS κ W fx (ex body)) (ts := fun _ _ _ => tS κ W0 fx (ex suite)) T.stk T.frm ⟨hg, hdb, .inl g⟩ S.tk (fun W' pn xe tk po => hb (S.tr tk po)) (fun a oe cls d pn _ _ => hsu a _)).mono fun D σ H h => ?_
  obtain ⟨A, as, ts, tds, s, R, hf, h⟩ := h
  refine ⟨A, as, ts, tds, s, R, hf, ?_⟩
  have h : RunS κ A ts tds W D (match ex body s with
    | .ok .nx s' => ex [] s'
    | .ok f s' => .ok f s'
    | .exc c ps s' => if (P.excUp c).isEmpty || !ps.isEmpty then .fail else match handle ex P.excUp c ps [([j], none, suite)] with
      | some m => noRaiseL m s'
      | none => .exc c ps s'
    | .fail => .fail) := h
  cases e : ex body s with
  | fail => rw [e] at h; exact h
  | ok f s' =>
    rw [e] at h
    cases f with
    | nx =>
      have h : RunS κ A ts tds W D (ex [] s') := h
      rcases hn s' with e2 | e2
      · rw [e2] at h; exact h.elim
      · rw [e2] at h; exact h
    | ret d => exact h
    | brk => exact h
    | cont => exact h
  | exc ec ps s' =>
    rw [e] at h
    dsimp only at h
    by_cases hc : ((P.excUp ec).isEmpty || !ps.isEmpty) = true
    · rw [if_pos hc] at h; exact h.elim
    · rw [if_neg hc] at h
      have hu : (P.excUp ec).isEmpty = false := by
        cases hh : (P.excUp ec).isEmpty with
        | true => exact absurd (by rw [hh]; rfl) hc
        | false => rfl
      have hps : ps = [] := by
        cases ps with
        | nil => rfl
        | cons _ _ => exact absurd (by simp) hc
      have hx := S.exm ec j hj2 (by rw [hP]; exact hu)
      rw [hP, eC] at hx
      refine ⟨hps, fun σ' H' as' ts' tds' u R' => ⟨_, hx, fun hy a ha => ?_, fun hno => ?_⟩⟩
      · have hh : handle ex P.excUp ec ps [([j], none, suite)] = some (ex suite) := by
          show (if _ then _ else _) = _
          rw [if_pos (by simp only [List.any_cons, List.any_nil, Bool.or_false]; exact hy)]
        rw [hh] at h
        obtain ⟨p, pd, hl, rfl, rfl⟩ := u
        exact ⟨A, as', ts, tds, s', Rel.drops hl.symm R', hf, RunS.calm h⟩
      · have hh : handle ex P.excUp ec ps [([j], none, suite)] = none := by
          show (if _ then _ else _) = _
          rw [if_neg (by simp only [List.any_cons, List.any_nil, Bool.or_false]; rw [hno]; decide)]
          rfl
        rw [hh] at h
        exact h.2 _ _ _ _ _ u R'
/-- what may stand in an except suite -/
def chkH (c : Ck) (fx : List Nat) : CS → Stmt → Bool
  | .pass, .Pass _ => true
  | .brk, .Break _ => true
  | .cont, .Continue _ => true
  | .ret (.lit l), .Return (some (.Constant k _ _)) _ => litB l k
  | .ret (.tup []), .Return (some (.Tuple [] _ _)) _ => true
  | .asg (.pat (.name i)) (.lit l), .Assign [.Name x _] (.Constant k _ _) _ => decide (c.N[i]? = some x) && locB c x && !(fx.contains i) && litB l k
  | _, _ => false
theorem chkH_ok (S : SC κ cf X W c) {a : Addr} {pn : List (Addr × Obj)} {cs : CS} {st : Stmt} (h : chkH c fx cs st = true) : ∀ m, PS (X.suite a pn) st (tS κ W0 fx (stepS c.P (evalE c.P cf m) (execB c.P cf wf m) wf cs)) := by
  intro m
  have fl : ∀ {st : Stmt}, PS (X.suite a pn) st (tS κ W0 fx (VS.fail : M Flow)) := ⟨fun _ _ _ _ _ _ ⟨_, _, _, _, _, _, _, h⟩ => h.elim⟩
  unfold chkH at h
  split at h
  · exact s_pass
  · exact s_break
  · exact s_cont
  · cases m with
    | zero => exact fl
    | succ m => exact s_ret (lit_ok h)
  · cases m with
    | zero => exact fl
    | succ m => exact s_ret (SE.of_pe (snd_tup .nil) fun _ => rfl)
  · simp only [Bool.and_eq_true, decide_eq_true_eq, Bool.not_eq_true', List.contains_eq_mem, decide_eq_false_iff_not] at h
    obtain ⟨⟨⟨h1, h2⟩, h3⟩, h4⟩ := h
    obtain ⟨g1, g2⟩ := loc_ok S h2
    cases m with
    | zero => exact fl
    | succ m => exact s_set (X := X.suite a pn) S.nd (by show X.N[_]? = _; rw [S.hN]; exact h1) g1 (lit_ok h4) rfl g2 h3
  · cases h
end
end VS
/-! The interpreter, run step by step: equations for simp, and what holds behind a run. -/
namespace VS
open PySem L2
def rn {α : Type} (m : M α) (s : Sx) : Out α := m s
/-- a run that is not looked into -/
def rnX {α : Type} (m : M α) (s : Sx) : Out α := rn m s
def rnY {α : Type} (m : M α) (s : Sx) : Out α := rn m s
def Out.bind {α β : Type} (o : Out α) (f : α → Sx → Out β) : Out β := match o with
  | .ok a s => f a s
  | .exc c ps s => .exc c ps s
  | .fail => .fail
theorem Out.bind_congr {α β : Type} {o o' : Out α} {f : α → Sx → Out β} (h : o = o') : Out.bind o f = Out.bind o' f := by rw [h]
def onD {α β : Type} (o : Option α) (f : α → Out β) : Out β := match o with
  | some a => f a
  | none => .fail
theorem onD_congr {α β : Type} {o o' : Option α} {f : α → Out β} (h : o = o') : onD o f = onD o' f := by rw [h]
/-- a choice, its ways not looked into ahead of it -/
def ifO {α : Type} (b : Bool) (x y : Unit → Out α) : Out α := match b with
  | true => x ()
  | false => y ()
theorem ifO_congr {α : Type} {b b' : Bool} {x y : Unit → Out α} (h : b = b') : ifO b x y = ifO b' x y := by rw [h]
/-- what holds behind a run -/
@[irreducible] def W {α : Type} (o : Out α) (Q : α → Sx → Prop) (E : Nat → List D → Sx → Prop) : Prop := match o with
  | .ok a s => Q a s
  | .exc c ps s => E c ps s
  | .fail => False
theorem W_congr {α : Type} {o o' : Out α} {Q : α → Sx → Prop} {E : Nat → List D → Sx → Prop} (h : o = o') : W o Q E = W o' Q E := by rw [h]
abbrev noX : Nat → List D → Sx → Prop := fun _ _ _ => False
section
variable {α β γ : Type} {s : Sx} {Q : α → Sx → Prop} {E : Nat → List D → Sx → Prop}
theorem rn_bind {m : M α} {f : α → M β} : rn (M.bind m f) s = Out.bind (rn m s) fun a s1 => rn (f a) s1 := rfl
theorem rn_bind' {m : M α} {f : α → M β} : rn (m >>= f) s = Out.bind (rn m s) fun a s1 => rn (f a) s1 := rfl
theorem rn_pure {a : α} : rn (pure a : M α) s = .ok a s := rfl
theorem rn_fail : rn (fail : M α) s = .fail := rfl
theorem bind_ok {a : α} {f : α → Sx → Out β} : (Out.ok a s).bind f = f a s := rfl
theorem bind_exc {c : Nat} {ps : List D} {f : α → Sx → Out β} : (Out.exc c ps s).bind f = .exc c ps s := rfl
theorem bind_fail {f : α → Sx → Out β} : (Out.fail : Out α).bind f = .fail := rfl
theorem onD_some {a : α} {f : α → Out β} : onD (some a) f = f a := rfl
theorem onD_none {f : α → Out β} : onD none f = .fail := rfl
theorem ifO_t {x y : Unit → Out α} : ifO true x y = x () := rfl
theorem ifO_f {x y : Unit → Out α} : ifO false x y = y () := rfl
theorem rn_ite {c : Prop} [Decidable c] {m1 m2 : M α} : rn (if c then m1 else m2) s = ifO (decide c) (fun _ => rn m1 s) fun _ => rn m2 s := by by_cases h : c <;> simp [h, ifO]
theorem bind_assoc {o : Out α} {f : α → Sx → Out β} {g : β → Sx → Out γ} : (o.bind f).bind g = o.bind fun a s => (f a s).bind g := by cases o <;> rfl
theorem bind_ifO {b : Bool} {x y : Unit → Out α} {f : α → Sx → Out β} : (ifO b x y).bind f = ifO b (fun u => (x u).bind f) fun u => (y u).bind f := by cases b <;> rfl
theorem bind_onD {o : Option γ} {x : γ → Out α} {f : α → Sx → Out β} : (onD o x).bind f = onD o fun u => (x u).bind f := by cases o <;> rfl
theorem rn_need {b : Bool} : rn (need b) s = ifO b (fun _ => .ok () s) fun _ => .fail := by cases b <;> rfl
theorem rn_opt {o : Option α} : rn (opt o) s = onD o fun a => .ok a s := by cases o <;> rfl
theorem W_ok {a : α} : W (.ok a s) Q E = Q a s := by unfold W; rfl
theorem W_exc {c : Nat} {ps : List D} : W (.exc c ps s : Out α) Q E = E c ps s := by unfold W; rfl
theorem W_fail : W (.fail : Out α) Q E = False := by unfold W; rfl
theorem W_bind {o : Out β} {f : β → Sx → Out α} : W (o.bind f) Q E = W o (fun a s => W (f a s) Q E) E := by cases o <;> simp [W, Out.bind]
theorem W_ifO {b : Bool} {x y : Unit → Out α} : W (ifO b x y) Q E ↔ (b = true → W (x ()) Q E) ∧ (b = false → W (y ()) Q E) := by cases b <;> simp [ifO]
theorem W_need {b : Bool} {x : Unit → Out α} : W (ifO b x fun _ => .fail) Q E ↔ b = true ∧ W (x ()) Q E := by cases b <;> simp [ifO, W]
theorem W_mono {o : Out α} {Q' : α → Sx → Prop} {E' : Nat → List D → Sx → Prop} (h : W o Q E) (hq : ∀ a s, Q a s → Q' a s) (he : ∀ c ps s, E c ps s → E' c ps s) : W o Q' E' := by
  unfold W at h ⊢
  cases o with
  | ok a s => exact hq _ _ h
  | exc c ps s => exact he _ _ _ h
  | fail => exact h
theorem W_bindI {o : Out β} {f : β → Sx → Out α} {R : β → Sx → Prop} (h : W o R E) (k : ∀ a s, R a s → W (f a s) Q E) : W (o.bind f) Q E := by
  rw [W_bind]; exact W_mono h k fun _ _ _ h => h
end
/-! ### places -/
section
variable {s : Sx} {env : List D} {sto : List Ob}
theorem getP_loc {i : Nat} {acc : List Acc} : Sx.getP ⟨env, sto⟩ ⟨.loc i, acc⟩ = (env[i]?).bind fun d => d.get acc := rfl
theorem get_nil {d : D} : d.get [] = some d := by cases d <;> rfl
theorem get_cons {d : D} {a : Acc} {as : List Acc} : d.get (a :: as) = (d.kid a).bind fun e => e.get as := by cases d <;> rfl
theorem putP_loc {i : Nat} {acc : List Acc} {e : D} : Sx.putP ⟨env, sto⟩ ⟨.loc i, acc⟩ e = (env[i]?).bind fun d => (d.put acc e).map fun d' => ⟨env.set i d', sto⟩ := rfl
theorem put_nil {d e : D} : d.put [] e = some e := by cases d <;> rfl
theorem put_cons {d e : D} {a : Acc} {as : List Acc} : d.put (a :: as) e = (d.kid a).bind fun x => (x.put as e).bind fun y => d.setKid a y := by cases d <;> rfl
theorem rn_deref_val {d : D} : rn (deref (.val d)) s = .ok d s := rfl
theorem rn_deref_at {p : Path} : rn (deref (.at p)) s = onD (s.getP p) fun d => .ok d s := by show (match s.getP p with | some d => (Out.ok d s : Out D) | none => .fail) = _; cases s.getP p <;> rfl
theorem rn_putAt {p : Path} {e : D} : rn (putAt p e) s = onD (s.putP p e) fun s' => .ok () s' := by show (match s.putP p e with | some s' => (Out.ok () s' : Out Unit) | none => .fail) = _; cases s.putP p e <;> rfl
theorem rn_esc_val {d : D} : rn (escape (.val d)) s = .ok d s := rfl
theorem rn_esc_at {p : Path} : rn (escape (.at p)) s = onD (s.getP p) fun d => ifO d.plain (fun _ => .ok d s) fun _ => ifO d.frzOk (fun _ => onD (s.putP p d.frz) fun s' => .ok d.frz s') fun _ => .fail := by
  show rn ((deref (.at p)).bind fun d => if d.plain = true then (pure d : M D) else if d.frzOk = true then (putAt p d.frz).bind fun _ => (pure d.frz : M D) else fail) s = _
  simp only [rn_bind, rn_deref_at, bind_onD, bind_ok, rn_ite, Bool.decide_eq_true, rn_putAt, rn_pure, rn_fail]
theorem placed_int {p : Path} {i : Int} : placed p (.int i) = .val (.int i) := rfl
theorem placed_str {p : Path} {i : Str} : placed p (.str i) = .val (.str i) := rfl
theorem placed_bl {p : Path} {i : Bool} : placed p (.bl i) = .val (.bl i) := rfl
theorem placed_non {p : Path} : placed p .non = .val .non := rfl
theorem placed_obj {p : Path} {n : Nat} : placed p (.obj n) = .val (.obj n) := rfl
theorem placed_exc {p : Path} {c : Nat} {ps : List D} : placed p (.exc c ps) = .val (.exc c ps) := rfl
theorem placed_own {p : Path} {ds : List D} : placed p (.lst .own ds) = .at p := rfl
theorem placed_lck {p : Path} {ds : List D} : placed p (.lst .lck ds) = .at p := rfl
theorem placed_frz {p : Path} {ds : List D} : placed p (.lst .frz ds) = .val (.lst .frz ds) := rfl
theorem placed_wrt {p : Path} {ds : List D} : placed p (.lst .wrt ds) = .val (.lst .wrt ds) := rfl
theorem placed_dKo {p : Path} {ks : List Key} {ds : List D} : placed p (.dK .own ks ds) = .at p := rfl
theorem placed_dTo {p : Path} {ks : List (List Key)} {ds : List D} : placed p (.dT .own ks ds) = .at p := rfl
theorem placed_dKw {p : Path} {ks : List Key} {ds : List D} : placed p (.dK .wrt ks ds) = .val (.dK .wrt ks ds) := rfl
theorem placed_tup {p : Path} {ds : List D} : placed p (.tup ds) = if plainL ds then .val (.tup ds) else .at p := rfl
/-- a name's value -/
def locO (i : Nat) (s : Sx) : Option D → Out Tm
  | some .gone => .fail
  | some d => .ok (placed ⟨.loc i, []⟩ d) s
  | none => .fail
end
/-! ### expressions -/
section
variable {P : Prog} {cf : Nat → List D → M (D × List D)} {n : Nat} {s : Sx} {ev : CE → M Tm} {env : List D} {sto : List Ob}
theorem locO_int {i : Nat} {x : Int} : locO i s (some (.int x)) = .ok (.val (.int x)) s := rfl
theorem locO_str {i : Nat} {x : Str} : locO i s (some (.str x)) = .ok (.val (.str x)) s := rfl
theorem locO_bl {i : Nat} {x : Bool} : locO i s (some (.bl x)) = .ok (.val (.bl x)) s := rfl
theorem locO_non {i : Nat} : locO i s (some .non) = .ok (.val .non) s := rfl
theorem locO_obj {i n : Nat} : locO i s (some (.obj n)) = .ok (.val (.obj n)) s := rfl
theorem locO_exc {i n : Nat} {ps : List D} : locO i s (some (.exc n ps)) = .ok (.val (.exc n ps)) s := rfl
theorem locO_own {i : Nat} {ds : List D} : locO i s (some (.lst .own ds)) = .ok (.at ⟨.loc i, []⟩) s := rfl
theorem locO_lck {i : Nat} {ds : List D} : locO i s (some (.lst .lck ds)) = .ok (.at ⟨.loc i, []⟩) s := rfl
theorem locO_frz {i : Nat} {ds : List D} : locO i s (some (.lst .frz ds)) = .ok (.val (.lst .frz ds)) s := rfl
theorem locO_wrt {i : Nat} {ds : List D} : locO i s (some (.lst .wrt ds)) = .ok (.val (.lst .wrt ds)) s := rfl
theorem locO_dKo {i : Nat} {ks : List Key} {ds : List D} : locO i s (some (.dK .own ks ds)) = .ok (.at ⟨.loc i, []⟩) s := rfl
theorem locO_dTo {i : Nat} {ks : List (List Key)} {ds : List D} : locO i s (some (.dT .own ks ds)) = .ok (.at ⟨.loc i, []⟩) s := rfl
theorem locO_tup {i : Nat} {ds : List D} : locO i s (some (.tup ds)) = .ok (placed ⟨.loc i, []⟩ (.tup ds)) s := rfl
theorem E_loc {i : Nat} : rn (evalE P cf (n + 1) (.loc i)) ⟨env, sto⟩ = locO i ⟨env, sto⟩ env[i]? := by
  show (match env[i]? with | some .gone => (Out.fail : Out Tm) | some d => .ok (placed ⟨.loc i, []⟩ d) ⟨env, sto⟩ | none => .fail) = _
  cases env[i]? with
  | none => rfl
  | some d => cases d <;> rfl
theorem E_glo {x : Str} : rn (evalE P cf (n + 1) (.glo x)) s = onD (P.glob x) fun d => .ok (.val d) s := by
  show rn ((opt (P.glob x)).bind fun d => (pure (.val d) : M Tm)) s = _
  rw [rn_bind, rn_opt]; cases P.glob x <;> rfl
theorem E_lit {l : Lit} : rn (evalE P cf (n + 1) (.lit l)) s = .ok (.val l.d) s := rfl
theorem L_nil : rn (evalL ev []) s = .ok [] s := rfl
theorem L_cons {e : CE} {es : List CE} : rn (evalL ev (e :: es)) s = Out.bind (rn (ev e) s) fun t s1 => Out.bind (rn (stays t es) s1) fun _ s2 => Out.bind (rn (evalL ev es) s2) fun ts s3 => .ok (t :: ts) s3 := rfl
theorem stays_val {d : D} {es : List CE} : rn (stays (.val d) es) s = .ok () s := rfl
theorem stays_loc {i : Nat} {es : List CE} : rn (stays (.at ⟨.loc i, []⟩) es) s = .ok () s := rfl
theorem stays_acc {i : Nat} {a : Acc} {as : List Acc} {es : List CE} : rn (stays (.at ⟨.loc i, a :: as⟩) es) s = ifO (quietL es) (fun _ => .ok () s) fun _ => .fail := by unfold stays; rw [rn_need]; rfl
theorem stays_fld {i : Nat} {f : Str} {as : List Acc} {es : List CE} : rn (stays (.at ⟨.fld i f, as⟩) es) s = ifO (quietL es) (fun _ => .ok () s) fun _ => .fail := by unfold stays; rw [rn_need]; rfl
theorem stays_nil {t : Tm} : rn (stays t []) s = .ok () s := by unfold stays; cases plainTm t <;> rfl
theorem E_bin {op : Bop} {a b : CE} : rn (evalE P cf (n + 1) (.bin op a b)) s = Out.bind (rn (evalE P cf n a) s) fun ta s1 => Out.bind (rn (stays ta [b]) s1) fun _ s2 => Out.bind (rn (evalE P cf n b) s2) fun tb s3 => rn (binT op ta tb) s3 := by
  show rn ((evalL (evalE P cf n) [a, b]).bind (op2 (binT op))) s = _
  simp only [rn_bind, L_cons, bind_assoc, bind_ok, stays_nil, L_nil]
  rfl
theorem E_cmp {op : Cop} {a b : CE} : rn (evalE P cf (n + 1) (.cmp op a b)) s = Out.bind (rn (evalE P cf n a) s) fun ta s1 => Out.bind (rn (stays ta [b]) s1) fun _ s2 => Out.bind (rn (evalE P cf n b) s2) fun tb s3 => rn (cmpG op ta tb) s3 := by
  show rn ((evalL (evalE P cf n) [a, b]).bind (op2 (cmpG op))) s = _
  simp only [rn_bind, L_cons, bind_assoc, bind_ok, stays_nil, L_nil]
  rfl
theorem E_sub {a b : CE} : rn (evalE P cf (n + 1) (.sub a b)) s = Out.bind (rn (evalE P cf n a) s) fun ta s1 => Out.bind (rn (stays ta [b]) s1) fun _ s2 => Out.bind (rn (evalE P cf n b) s2) fun tb s3 => rn (subG ta tb) s3 := by
  show rn ((evalL (evalE P cf n) [a, b]).bind (op2 subG)) s = _
  simp only [rn_bind, L_cons, bind_assoc, bind_ok, stays_nil, L_nil]
  rfl
def truthO (s : Sx) : D → Out Bool
  | .bl b => .ok b s
  | _ => .fail
def intO (s : Sx) : D → Out Int
  | .int b => .ok b s
  | _ => .fail
theorem rn_evalD {e : CE} : rn (evalD ev e) s = Out.bind (rn (ev e) s) fun t s1 => rn (deref t) s1 := rfl
theorem rn_evalB {e : CE} : rn (evalB ev e) s = Out.bind (rn (ev e) s) fun t s1 => Out.bind (rn (deref t) s1) fun d s2 => truthO s2 d := by
  show rn ((evalD ev e).bind fun d => opt (truth d)) s = _
  rw [rn_bind, rn_evalD, bind_assoc]
  congr 1; funext t s1
  congr 1; funext d s2
  cases d <;> rfl
theorem rn_evalI {e : CE} : rn (evalI ev e) s = Out.bind (rn (ev e) s) fun t s1 => Out.bind (rn (deref t) s1) fun d s2 => intO s2 d := by
  show rn ((evalD ev e).bind fun d => match d with | .int i => (pure i : M Int) | _ => fail) s = _
  rw [rn_bind, rn_evalD, bind_assoc]
  congr 1; funext t s1
  congr 1; funext d s2
  cases d <;> rfl
theorem truthO_bl {b : Bool} : truthO s (.bl b) = .ok b s := rfl
theorem intO_int {b : Int} : intO s (.int b) = .ok b s := rfl
theorem E_neg {a : CE} : rn (evalE P cf (n + 1) (.neg a)) s = Out.bind (rn (evalI (evalE P cf n) a) s) fun i s1 => .ok (.val (.int (-i))) s1 := rfl
theorem E_not {a : CE} : rn (evalE P cf (n + 1) (.not a)) s = Out.bind (rn (evalB (evalE P cf n) a) s) fun b s1 => .ok (.val (.bl (!b))) s1 := rfl
theorem E_and {a b : CE} : rn (evalE P cf (n + 1) (.and a b)) s = Out.bind (rn (evalB (evalE P cf n) a) s) fun x s1 => ifO x (fun _ => Out.bind (rn (evalB (evalE P cf n) b) s1) fun y s2 => .ok (.val (.bl y)) s2) fun _ => .ok (.val (.bl false)) s1 := by
  show Out.bind _ _ = _
  congr 1; funext x s1; cases x <;> rfl
theorem E_or {a b : CE} : rn (evalE P cf (n + 1) (.or a b)) s = Out.bind (rn (evalB (evalE P cf n) a) s) fun x s1 => ifO x (fun _ => .ok (.val (.bl true)) s1) fun _ => Out.bind (rn (evalB (evalE P cf n) b) s1) fun y s2 => .ok (.val (.bl y)) s2 := by
  show Out.bind _ _ = _
  congr 1; funext x s1; cases x <;> rfl
theorem E_ite {c a b : CE} : rn (evalE P cf (n + 1) (.ite c a b)) s = Out.bind (rn (evalB (evalE P cf n) c) s) fun x s1 => ifO x (fun _ => rn (evalE P cf n a) s1) fun _ => rn (evalE P cf n b) s1 := by
  show Out.bind _ _ = _
  congr 1; funext x s1; cases x <;> rfl
theorem E_chain {o1 o2 : Cop} {a b c : CE} : rn (evalE P cf (n + 1) (.chain o1 o2 a b c)) s = Out.bind (rn (evalI (evalE P cf n) a) s) fun x s1 => Out.bind (rn (evalI (evalE P cf n) b) s1) fun y s2 => onD (cmpD o1 (.int x) (.int y)) fun r => ifO r (fun _ =>
    Out.bind (rn (evalI (evalE P cf n) c) s2) fun z s3 => onD (cmpD o2 (.int y) (.int z)) fun r' => .ok (.val (.bl r')) s3) fun _ => .ok (.val (.bl false)) s2 := by
  show rn ((evalI (evalE P cf n) a).bind fun x => (evalI (evalE P cf n) b).bind fun y => (opt (cmpD o1 (.int x) (.int y))).bind fun r => if r = true then (evalI (evalE P cf n) c).bind fun z => (opt (cmpD o2 (.int y) (.int z))).bind fun r' => (pure (.val (.bl r')) : M Tm) else pure (.val (.bl false))) s = _
  simp only [rn_bind, rn_opt, bind_onD, bind_ok, rn_ite, rn_pure, Bool.decide_eq_true]
def noneB : D → Option Bool
  | .gone => none
  | .non => some true
  | _ => some false
theorem E_isN {a : CE} : rn (evalE P cf (n + 1) (.isN a)) s = Out.bind (rn (evalE P cf n a) s) fun t s1 => Out.bind (rn (deref t) s1) fun d s2 => onD (noneB d) fun b => .ok (.val (.bl b)) s2 := by
  show rn ((evalD (evalE P cf n) a).bind fun d => match d with | .gone => (fail : M Tm) | .non => pure (.val (.bl true)) | _ => pure (.val (.bl false))) s = _
  rw [rn_bind, rn_evalD, bind_assoc]
  congr 1; funext t s1
  congr 1; funext d s2
  cases d <;> rfl
theorem E_notN {a : CE} : rn (evalE P cf (n + 1) (.notN a)) s = Out.bind (rn (evalE P cf n a) s) fun t s1 => Out.bind (rn (deref t) s1) fun d s2 => onD (noneB d) fun b => .ok (.val (.bl (!b))) s2 := by
  show rn ((evalD (evalE P cf n) a).bind fun d => match d with | .gone => (fail : M Tm) | .non => pure (.val (.bl false)) | _ => pure (.val (.bl true))) s = _
  rw [rn_bind, rn_evalD, bind_assoc]
  congr 1; funext t s1
  congr 1; funext d s2
  cases d <;> rfl
theorem escL_nil : rn (escL []) s = .ok [] s := rfl
theorem escL_cons {t : Tm} {ts : List Tm} : rn (escL (t :: ts)) s = Out.bind (rn (escL ts) s) fun ds s1 => Out.bind (rn (escape t) s1) fun d s2 => .ok (d :: ds) s2 := rfl
theorem E_tup {es : List CE} : rn (evalE P cf (n + 1) (.tup es)) s = Out.bind (rn (evalL (evalE P cf n) es) s) fun ts s1 => Out.bind (rn (escL ts) s1) fun ds s2 => ifO (fits ds.length) (fun _ => .ok (.val (.tup ds)) s2) fun _ => .fail := by
  show rn ((evalL (evalE P cf n) es).bind fun ts => (escL ts).bind fun ds => (need (fits ds.length)).bind fun _ => (pure (.val (.tup ds)) : M Tm)) s = _
  simp only [rn_bind, rn_need, bind_ifO, bind_ok, rn_pure, bind_fail]
theorem E_lst {es : List CE} : rn (evalE P cf (n + 1) (.lst es)) s = Out.bind (rn (evalL (evalE P cf n) es) s) fun ts s1 => Out.bind (rn (escL ts) s1) fun ds s2 => ifO (fits ds.length) (fun _ => .ok (.val (.lst .own ds)) s2) fun _ => .fail := by
  show rn ((evalL (evalE P cf n) es).bind fun ts => (escL ts).bind fun ds => (need (fits ds.length)).bind fun _ => (pure (.val (.lst .own ds)) : M Tm)) s = _
  simp only [rn_bind, rn_need, bind_ifO, bind_ok, rn_pure, bind_fail]
theorem E_call {f : Nat} {e : CE} {es : List CE} : rn (evalE P cf (n + 1) (.call f (e :: es))) s = Out.bind (rn (evalL (evalE P cf n) (e :: es)) s) fun ts s1 => rn (callT P cf f ts) s1 := rfl
theorem E_isi {a : CE} {t : Ty} : rn (evalE P cf (n + 1) (.isi a t)) s = Out.bind (rn (evalE P cf n a) s) fun u s1 => Out.bind (rn (deref u) s1) fun d s2 => ifO (notObj d) (fun _ => onD (isiD P.excUp d t) fun b => .ok (.val (.bl b)) s2) fun _ => .fail := by
  show rn ((evalD (evalE P cf n) a).bind fun d => (need (notObj d)).bind fun _ => (opt (isiD P.excUp d t)).bind fun b => (pure (.val (.bl b)) : M Tm)) s = _
  simp only [rn_bind, rn_evalD, rn_need, rn_opt, bind_ifO, bind_onD, bind_ok, rn_pure, bind_fail, bind_assoc]
theorem E_bi {b : Bi} {es : List CE} : rn (evalE P cf (n + 1) (.bi b es)) s = rn (biT (evalE P cf n) b es) s := rfl
theorem E_bm {b : Bm} {o : CE} {es : List CE} : rn (evalE P cf (n + 1) (.bm b o es)) s = Out.bind (rn (evalE P cf n o) s) fun t s1 => Out.bind (rn (deref t) s1) fun d s2 => ifO (bmOk b d) (fun _ => Out.bind (rn (stays t es) s2) fun _ s3 => Out.bind (rn (evalL (evalE P cf n) es) s3) fun ts s4 => rn (bmT b t ts) s4) fun _ => .fail := by
  show rn ((evalE P cf n o).bind fun t => (deref t).bind fun d => (need (bmOk b d)).bind fun _ => (stays t es).bind fun _ => (evalL (evalE P cf n) es).bind fun ts => bmT b t ts) s = _
  simp only [rn_bind, rn_need, bind_ifO, bind_ok, rn_pure, bind_fail]
theorem E_slice {a : CE} {lo hi : Option CE} : rn (evalE P cf (n + 1) (.slice a lo hi)) s = rn (sliceP (evalE P cf n) a lo hi) s := rfl
theorem derefL_nil : rn (derefL []) s = .ok [] s := rfl
theorem derefL_cons {t : Tm} {ts : List Tm} : rn (derefL (t :: ts)) s = Out.bind (rn (deref t) s) fun d s1 => Out.bind (rn (derefL ts) s1) fun ds s2 => .ok (d :: ds) s2 := rfl
/-! ### operations -/
/-- what an operator gives of two values -/
def binV (op : Bop) (ta tb : Tm) (s : Sx) (a b : D) : Out Tm := match a, b with
  | .int i, .int j => onD (intOp op i j) fun k => .ok (.val (.int k)) s
  | .str x, .str y => ifO (decide (op = .add) && fits (x.length + y.length)) (fun _ => .ok (.val (.str (x ++ y))) s) fun _ => .fail
  | .str x, .int n => ifO (decide (op = .mul) && decide (-(2 ^ 63) ≤ n ∧ n < 2 ^ 63) && fits (x.length * n.toNat)) (fun _ => .ok (.val (.str (strMul x n))) s) fun _ => .fail
  | .lst o xs, .lst q ys => ifO (decide (op = .add)) (fun _ => Out.bind (rn (kidsTr tb) s) fun ys' s1 => Out.bind (rn (kidsTr ta) s1) fun xs' s2 => ifO (fits (xs'.length + ys'.length)) (fun _ => .ok (.val (.lst .own (xs' ++ ys'))) s2) fun _ => .fail) fun _ => .fail
  | .tup xs, .tup ys => ifO (decide (op = .add) && fits (xs.length + ys.length)) (fun _ => ifO xs.isEmpty (fun _ => rn (escV tb) s) fun _ => ifO ys.isEmpty (fun _ => rn (escV ta) s) fun _ => rn (catTup ta tb) s) fun _ => .fail
  | .lst o xs, .int n => ifO (decide (op = .mul) && decide (-(2 ^ 63) ≤ n ∧ n < 2 ^ 63)) (fun _ => Out.bind (rn (kidsTr ta) s) fun xs' s1 => ifO (frzOkL xs' && fits (xs'.length * n.toNat)) (fun _ => .ok (.val (.lst .own (List.replicate n.toNat (frzL xs')).flatten)) s1) fun _ => .fail) fun _ => .fail
  | _, _ => .fail
theorem rn_binT {op : Bop} {ta tb : Tm} : rn (binT op ta tb) s = Out.bind (rn (deref tb) s) fun b s1 => Out.bind (rn (deref ta) s1) fun a s2 => binV op ta tb s2 a b := by
  unfold binT
  rw [rn_bind']; congr 1; funext b s1
  rw [rn_bind']; congr 1; funext a s2
  cases a <;> cases b <;> first
    | rfl
    | (simp only [rn_bind', rn_opt, rn_need, bind_onD, bind_ifO, bind_ok, bind_fail, rn_pure, rn_ite, binV, Bool.decide_eq_true, rn_fail]; done)
theorem binV_ii {op : Bop} {ta tb : Tm} {i j : Int} : binV op ta tb s (.int i) (.int j) = onD (intOp op i j) fun k => .ok (.val (.int k)) s := rfl
theorem binV_ss {op : Bop} {ta tb : Tm} {x y : Str} : binV op ta tb s (.str x) (.str y) = ifO (decide (op = .add) && fits (x.length + y.length)) (fun _ => .ok (.val (.str (x ++ y))) s) fun _ => .fail := rfl
theorem binV_si {op : Bop} {ta tb : Tm} {x : Str} {n : Int} : binV op ta tb s (.str x) (.int n) = ifO (decide (op = .mul) && decide (-(2 ^ 63) ≤ n ∧ n < 2 ^ 63) && fits (x.length * n.toNat)) (fun _ => .ok (.val (.str (strMul x n))) s) fun _ => .fail := rfl
theorem binV_ll {op : Bop} {ta tb : Tm} {o q : Fl} {xs ys : List D} : binV op ta tb s (.lst o xs) (.lst q ys) = ifO (decide (op = .add)) (fun _ => Out.bind (rn (kidsTr tb) s) fun ys' s1 => Out.bind (rn (kidsTr ta) s1) fun xs' s2 => ifO (fits (xs'.length + ys'.length)) (fun _ => .ok (.val (.lst .own (xs' ++ ys'))) s2) fun _ => .fail) fun _ => .fail := rfl
theorem binV_li {op : Bop} {ta tb : Tm} {o : Fl} {xs : List D} {n : Int} : binV op ta tb s (.lst o xs) (.int n) = ifO (decide (op = .mul) && decide (-(2 ^ 63) ≤ n ∧ n < 2 ^ 63)) (fun _ => Out.bind (rn (kidsTr ta) s) fun xs' s1 => ifO (frzOkL xs' && fits (xs'.length * n.toNat)) (fun _ => .ok (.val (.lst .own (List.replicate n.toNat (frzL xs')).flatten)) s1) fun _ => .fail) fun _ => .fail := rfl
theorem intOp_add {i j : Int} : intOp .add i j = some (i + j) := rfl
theorem intOp_sub {i j : Int} : intOp .sub i j = some (i - j) := rfl
theorem intOp_bor {i j : Int} : intOp .bor i j = some (Builtin.bitOr i j) := rfl
theorem onD_ite {α β : Type} {c : Prop} [Decidable c] {a : α} {f : α → Out β} : onD (if c then some a else none) f = ifO (decide c) (fun _ => f a) fun _ => .fail := by by_cases h : c <;> simp [h, ifO, onD]
theorem onD_mul {β : Type} {i j : Int} {f : Int → Out β} : onD (intOp .mul i j) f = ifO (decide ((-(2 ^ 64) < i ∧ i < 2 ^ 64) ∨ (-(2 ^ 64) < j ∧ j < 2 ^ 64))) (fun _ => f (i * j)) fun _ => .fail := onD_ite
theorem onD_fdiv {β : Type} {i j : Int} {f : Int → Out β} : onD (intOp .fdiv i j) f = ifO (decide (0 < j ∧ j < 1073741824)) (fun _ => f (i / j)) fun _ => .fail := onD_ite
theorem onD_mod {β : Type} {i j : Int} {f : Int → Out β} : onD (intOp .mod i j) f = ifO (decide (0 < j)) (fun _ => f (i % j)) fun _ => .fail := onD_ite
theorem onD_pow {β : Type} {i j : Int} {f : Int → Out β} : onD (intOp .pow i j) f = ifO (decide (0 ≤ j ∧ j ≤ 1000000 ∧ i.natAbs < 2 ^ 64)) (fun _ => f (i ^ j.toNat)) fun _ => .fail := onD_ite
theorem rn_cmpG {op : Cop} {ta tb : Tm} : rn (cmpG op ta tb) s = Out.bind (rn (deref tb) s) fun y s1 => ifO (noDT y) (fun _ => rn (cmpT op ta tb) s1) fun _ => .fail := by
  unfold cmpG
  simp only [rn_bind', rn_need, bind_ifO, bind_ok, bind_fail]
theorem rn_cmpT {op : Cop} {ta tb : Tm} : rn (cmpT op ta tb) s = Out.bind (rn (deref tb) s) fun y s1 => Out.bind (rn (deref ta) s1) fun x s2 => onD (cmpD op x y) fun r => .ok (.val (.bl r)) s2 := by
  unfold cmpT
  simp only [rn_bind', rn_opt, bind_onD, bind_ok, bind_fail, rn_pure]
theorem rn_subG {ta ti : Tm} : rn (subG ta ti) s = Out.bind (rn (deref ta) s) fun d s1 => ifO (noDT d) (fun _ => rn (subT ta ti) s1) fun _ => .fail := by
  unfold subG
  simp only [rn_bind', rn_need, bind_ifO, bind_ok, bind_fail]
def subV (ta : Tm) (s : Sx) (a i : D) : Out Tm := match a, i with
  | .str x, .int k => ifO (fits x.length) (fun _ => onD (atI x.cps.toList k) fun c => .ok (.val (.str ⟨#[c]⟩)) s) fun _ => .fail
  | .lst o ds, .int k => onD (ixN ds.length k) fun j => onD ds[j]? fun d => ifO (d.plain || decide (o ≠ .wrt)) (fun _ => rn (child ta (.ix j) d) s) fun _ => .fail
  | .tup ds, .int k => onD (ixN ds.length k) fun j => onD ds[j]? fun d => rn (child ta (.ix j) d) s
  | .dK _ ks ds, k => onD (keyD k) fun k => onD ((findK ks k).bind fun j => ds[j]?) fun d => rn (child ta (.key k) d) s
  | .dT _ ks ds, .tup es => onD (keysD es) fun k => onD ((findK ks k).bind fun j => ds[j]?) fun d => rn (child ta (.keyT k) d) s
  | _, _ => .fail
theorem rn_subT {ta ti : Tm} : rn (subT ta ti) s = Out.bind (rn (deref ti) s) fun i s1 => Out.bind (rn (deref ta) s1) fun a s2 => subV ta s2 a i := by
  unfold subT
  rw [rn_bind']; congr 1; funext b s1
  rw [rn_bind']; congr 1; funext a s2
  cases a <;> cases b <;> first
    | rfl
    | (simp only [rn_bind', rn_opt, rn_need, bind_onD, bind_ifO, bind_ok, bind_fail, rn_pure, subV]; done)
theorem subV_si {ta : Tm} {x : Str} {k : Int} : subV ta s (.str x) (.int k) = ifO (fits x.length) (fun _ => onD (atI x.cps.toList k) fun c => .ok (.val (.str ⟨#[c]⟩)) s) fun _ => .fail := rfl
theorem subV_li {ta : Tm} {o : Fl} {ds : List D} {k : Int} : subV ta s (.lst o ds) (.int k) = onD (ixN ds.length k) fun j => onD ds[j]? fun d => ifO (d.plain || decide (o ≠ .wrt)) (fun _ => rn (child ta (.ix j) d) s) fun _ => .fail := rfl
theorem subV_ti {ta : Tm} {ds : List D} {k : Int} : subV ta s (.tup ds) (.int k) = onD (ixN ds.length k) fun j => onD ds[j]? fun d => rn (child ta (.ix j) d) s := rfl
theorem child_val {d e : D} {a : Acc} : rn (child (.val e) a d) s = .ok (.val d) s := rfl
theorem child_at {d : D} {p : Path} {a : Acc} : rn (child (.at p) a d) s = .ok (placed ⟨p.root, p.acc ++ [a]⟩ d) s := rfl
/-! ### calls -/
/-- what a call gives, with the objects behind it -/
inductive RO where
  | ok (r : D) (outs : List D) (sto : List Ob) | exc (c : Nat) (ps : List D) (outs : List D) (sto : List Ob) | fail
def res (o : Out (D × List D)) : RO := match o with
  | .ok (r, outs) s => .ok r outs s.sto
  | .exc c ps s => .exc c ps s.env s.sto
  | .fail => .fail
def backR (n : Nat) (ls : List (Option Nat)) (s : Sx) : RO → Out Tm
  | .ok r outs sto => ifO (decide (outs.length = n)) (fun _ => .ok (.val r) (back ls outs ⟨s.env, sto⟩)) fun _ => .fail
  | .exc c ps outs sto => ifO (decide (outs.length = n)) (fun _ => .exc c ps (back ls outs ⟨s.env, sto⟩)) fun _ => .fail
  | .fail => .fail
theorem callR_eq {f n : Nat} {as : List (D × Option Nat)} : callR cf f n as s = (match cf f (as.map (·.1)) ⟨[], s.sto⟩ with
    | .ok (r, outs) s' => if outs.length = n then Out.ok (Tm.val r) (back (as.map (·.2)) outs { s with sto := s'.sto }) else Out.fail
    | .exc c ps s' => if s'.env.length = n then Out.exc c ps (back (as.map (·.2)) s'.env { s with sto := s'.sto }) else Out.fail
    | .fail => Out.fail) := rfl
theorem rn_callR {f n : Nat} {as : List (D × Option Nat)} : rn (callR cf f n as) s = backR n (as.map (·.2)) s (res (rn (cf f (as.map (·.1))) ⟨[], s.sto⟩)) := by
  unfold rn
  rw [callR_eq]
  cases cf f (as.map (·.1)) ⟨[], s.sto⟩ with
  | ok a s' =>
    obtain ⟨r, outs⟩ := a
    by_cases h : outs.length = n <;> simp [h, ifO, backR, res]
  | exc c ps s' =>
    by_cases h : s'.env.length = n <;> simp [h, ifO, backR, res]
  | fail => rfl
theorem rn_callT {f : Nat} {ts : List Tm} : rn (callT P cf f ts) s = onD P.fns[f]? fun fd => ifO (decide (ts.length = fd.np)) (fun _ => Out.bind (rn (lendL ts fd.fixed) s) fun as s1 => rn (callR cf f ts.length as) s1) fun _ => .fail := by
  unfold callT
  simp only [rn_bind', rn_opt, rn_need, bind_onD, bind_ok, bind_ifO, bind_fail]
theorem lendL_nil {bs : List Bool} : rn (lendL [] bs) s = .ok [] s := rfl
theorem lendL_cons {t : Tm} {ts : List Tm} {b : Bool} {bs : List Bool} : rn (lendL (t :: ts) (b :: bs)) s = Out.bind (rn (lendL ts bs) s) fun r s1 => Out.bind (rn (lend1 b t) s1) fun x s2 => .ok (x :: r) s2 := rfl
theorem lend_val {b : Bool} {d : D} : rn (lend1 b (.val d)) s = .ok (d, none) s := by cases b <;> rfl
theorem lend_f {t : Tm} : rn (lend1 false t) s = Out.bind (rn (escape t) s) fun d s1 => .ok (d, none) s1 := rfl
def lendO (i : Nat) (env : List D) (sto : List Ob) : Option D → Out (D × Option Nat)
  | some .gone => .fail
  | some d => .ok (d, some i) ⟨env.set i .gone, sto⟩
  | none => .fail
theorem lend_t {i : Nat} : rn (lend1 true (.at ⟨.loc i, []⟩)) ⟨env, sto⟩ = lendO i env sto env[i]? := by
  show (match env[i]? with | some .gone => (Out.fail : Out (D × Option Nat)) | some d => .ok (d, some i) ⟨env.set i .gone, sto⟩ | none => .fail) = _
  cases env[i]? with
  | none => rfl
  | some d => cases d <;> rfl
theorem lendO_lst {i : Nat} {o : Fl} {ds : List D} : lendO i env sto (some (.lst o ds)) = .ok (.lst o ds, some i) ⟨env.set i .gone, sto⟩ := rfl
theorem lendO_tup {i : Nat} {ds : List D} : lendO i env sto (some (.tup ds)) = .ok (.tup ds, some i) ⟨env.set i .gone, sto⟩ := rfl
theorem lendO_dK {i : Nat} {o : Fl} {ks : List Key} {ds : List D} : lendO i env sto (some (.dK o ks ds)) = .ok (.dK o ks ds, some i) ⟨env.set i .gone, sto⟩ := rfl
theorem lendO_dT {i : Nat} {o : Fl} {ks : List (List Key)} {ds : List D} : lendO i env sto (some (.dT o ks ds)) = .ok (.dT o ks ds, some i) ⟨env.set i .gone, sto⟩ := rfl
theorem lend_acc {i : Nat} {a : Acc} {as : List Acc} : rn (lend1 true (.at ⟨.loc i, a :: as⟩)) s = Out.bind (rn (escape (.at ⟨.loc i, a :: as⟩)) s) fun d s1 => .ok (d, none) s1 := rfl
theorem lend_fld {i : Nat} {f : Str} {as : List Acc} : rn (lend1 true (.at ⟨.fld i f, as⟩)) s = Out.bind (rn (escape (.at ⟨.fld i f, as⟩)) s) fun d s1 => .ok (d, none) s1 := rfl
theorem back_nil {outs : List D} : back [] outs s = s := by cases outs <;> rfl
theorem back_some {i : Nat} {r : List (Option Nat)} {d : D} {ds : List D} : back (some i :: r) (d :: ds) ⟨env, sto⟩ = back r ds ⟨env.set i d, sto⟩ := rfl
theorem back_none {r : List (Option Nat)} {d : D} {ds : List D} : back (none :: r) (d :: ds) s = back r ds s := rfl
theorem backR_ok {n : Nat} {ls : List (Option Nat)} {r : D} {outs : List D} {sto' : List Ob} : backR n ls s (.ok r outs sto') = ifO (decide (outs.length = n)) (fun _ => .ok (.val r) (back ls outs ⟨s.env, sto'⟩)) fun _ => .fail := rfl
end
end VS
/-! try: .. except X as e: return .. isinstance(e, Y) .. -/
namespace VS
open PySem L2
/-- what is asked of an error -/
def xw (up : Nat → List Nat) (i c : Nat) : CE → Option Bool
  | .isi (.loc j) (.exc k) => if j = i then some ((up c).contains k) else none
  | .isi (.loc j) .verr => if j = i then some true else none
  | .not a => (xw up i c a).map (!·)
  | .and a b => match xw up i c a, xw up i c b with | some x, some y => some (x && y) | _, _ => none
  | .or a b => match xw up i c a, xw up i c b with | some x, some y => some (x || y) | _, _ => none
  | _ => none
/-- .. as it is written -/
def chkX (c : Ck) (i : Nat) : Nat → CE → Expr → Bool
  | 0, _, _ => false
  | n + 1, ce, e => match ce, e with
    | .isi (.loc j) (.exc k), .Call (.Name f _) [.Name y _, .Name z _] [] _ => decide (j = i) && decide (f = "isinstance") && glB c.sc f && nameB c i y && decide (c.exN[k]? = some (some z)) && glB c.sc z && !(z == ("__debug__" : Str)) && c.hdN.isL.contains k
    | .isi (.loc j) .verr, .Call (.Name f _) [.Name y _, .Name z _] [] _ => decide (j = i) && decide (f = "isinstance") && glB c.sc f && nameB c i y && decide (z = "ValueError") && glB c.sc z
    | .not a, .UnaryOp .Not x _ => chkX c i n a x
    | .and a b, .BoolOp .And [x, y] _ => chkX c i n a x && chkX c i n b y
    | .and a b, .BoolOp .And (x :: y :: z :: r) p => chkX c i n a x && chkX c i n b (.BoolOp .And (y :: z :: r) p)
    | .or a b, .BoolOp .Or [x, y] _ => chkX c i n a x && chkX c i n b y
    | .or a b, .BoolOp .Or (x :: y :: z :: r) p => chkX c i n a x && chkX c i n b (.BoolOp .Or (y :: z :: r) p)
    | _, _ => false
section
variable {κ : Kit} {cf : Nat → List D → M (D × List D)} {X : Cx} {W : WX} {c : Ck} {fx : List Nat} {wf : Nat}
theorem xw_tot {up : Nat → List Nat} {i ec : Nat} : ∀ (n : Nat) (ce : CE) (e : Expr), chkX c i n ce e = true → ∃ b, xw up i ec ce = some b
  | 0, _, _, h => by cases h
  | n + 1, ce, e, h => by
    unfold chkX at h
    split at h
    · simp only [Bool.and_eq_true, decide_eq_true_eq] at h
      obtain ⟨⟨⟨⟨⟨⟨⟨rfl, _⟩, _⟩, _⟩, _⟩, _⟩, _⟩, _⟩ := h
      exact ⟨_, by unfold xw; rw [if_pos rfl]⟩
    · simp only [Bool.and_eq_true, decide_eq_true_eq] at h
      obtain ⟨⟨⟨⟨⟨rfl, _⟩, _⟩, _⟩, _⟩, _⟩ := h
      exact ⟨_, by unfold xw; rw [if_pos rfl]⟩
    · obtain ⟨b, e⟩ := xw_tot n _ _ h
      exact ⟨_, by unfold xw; rw [e]; rfl⟩
    all_goals
      first
        | (simp only [Bool.and_eq_true] at h
           obtain ⟨b, e⟩ := xw_tot (up := up) (ec := ec) n _ _ h.1
           obtain ⟨b2, e2⟩ := xw_tot (up := up) (ec := ec) n _ _ h.2
           exact ⟨_, by unfold xw; rw [e, e2]⟩)
        | (cases h; done)
/-- the core's meaning of it -/
theorem xw_run {i ec : Nat} {ps : List D} {s : Sx} (hs : s.env[i]? = some (.exc ec ps)) : ∀ (n : Nat) (ce : CE) (e : Expr), chkX c i n ce e = true → ∀ m, evalE c.P cf m ce s = .fail ∨ ∃ b, xw c.P.excUp i ec ce = some b ∧ evalE c.P cf m ce s = .ok (.val (.bl b)) s
  | 0, _, _, h, _ => by cases h
  | n + 1, ce, e, h, 0 => .inl rfl
  | n + 1, ce, e, h, m + 1 => by
    have loc : ∀ m, rn (evalE c.P cf m (.loc i)) s = .fail ∨ rn (evalE c.P cf m (.loc i)) s = .ok (.val (.exc ec ps)) s := fun m => by
      cases m with
      | zero => exact .inl rfl
      | succ m =>
        refine .inr ?_
        obtain ⟨env, sto⟩ := s
        have hs : env[i]? = some (.exc ec ps) := hs
        rw [E_loc, hs]; rfl
    have tst : ∀ m a, (evalE c.P cf m a s = .fail ∨ ∃ b, xw c.P.excUp i ec a = some b ∧ evalE c.P cf m a s = .ok (.val (.bl b)) s) → (rn (evalB (evalE c.P cf m) a) s = .fail ∨ ∃ b, xw c.P.excUp i ec a = some b ∧ rn (evalB (evalE c.P cf m) a) s = .ok b s) := fun m a h => by
      rw [rn_evalB]
      rcases h with h | ⟨b, h1, h2⟩
      · exact .inl (by rw [show rn (evalE c.P cf m a) s = .fail from h]; rfl)
      · exact .inr ⟨b, h1, by rw [show rn (evalE c.P cf m a) s = _ from h2]; rfl⟩
    unfold chkX at h
    split at h
    · simp only [Bool.and_eq_true, decide_eq_true_eq] at h
      obtain ⟨⟨⟨⟨⟨⟨⟨rfl, _⟩, _⟩, _⟩, _⟩, _⟩, _⟩, _⟩ := h
      show rn (evalE c.P cf (m + 1) _) s = _ ∨ ∃ b, _ ∧ rn (evalE c.P cf (m + 1) _) s = _
      rw [E_isi]
      rcases loc m with e1 | e1
      · rw [e1]; exact .inl rfl
      · rw [e1]; exact .inr ⟨_, by unfold xw; rw [if_pos rfl], rfl⟩
    · simp only [Bool.and_eq_true, decide_eq_true_eq] at h
      obtain ⟨⟨⟨⟨⟨rfl, _⟩, _⟩, _⟩, _⟩, _⟩ := h
      show rn (evalE c.P cf (m + 1) _) s = _ ∨ ∃ b, _ ∧ rn (evalE c.P cf (m + 1) _) s = _
      rw [E_isi]
      rcases loc m with e1 | e1
      · rw [e1]; exact .inl rfl
      · rw [e1]; exact .inr ⟨_, by unfold xw; rw [if_pos rfl], rfl⟩
    · show rn (evalE c.P cf (m + 1) _) s = _ ∨ ∃ b, _ ∧ rn (evalE c.P cf (m + 1) _) s = _
      rw [E_not]
      rcases tst m _ (xw_run hs n _ _ h m) with e1 | ⟨b, h1, e1⟩
      · rw [e1]; exact .inl rfl
      · rw [e1]; exact .inr ⟨_, by unfold xw; rw [h1]; rfl, rfl⟩
    case h_8 => cases h
    all_goals
      simp only [Bool.and_eq_true] at h
      show rn (evalE c.P cf (m + 1) _) s = _ ∨ ∃ b, _ ∧ rn (evalE c.P cf (m + 1) _) s = _
      first | rw [E_and] | rw [E_or]
      obtain ⟨b2, h2⟩ := xw_tot (up := c.P.excUp) (ec := ec) n _ _ h.2
      rcases tst m _ (xw_run hs n _ _ h.1 m) with e1 | ⟨b, h1, e1⟩
      · rw [e1]; exact .inl rfl
      · rw [e1, bind_ok]
        cases b
        · first
            | (rw [ifO_f]; exact .inr ⟨_, by unfold xw; rw [h1, h2]; rfl, rfl⟩)
            | (rw [ifO_f]
               rcases tst m _ (xw_run hs n _ _ h.2 m) with e2 | ⟨b3, h3, e2⟩
               · rw [e2]; exact .inl rfl
               · rw [e2]; exact .inr ⟨_, by unfold xw; rw [h1, h3]; rfl, rfl⟩)
        · first
            | (rw [ifO_t]; exact .inr ⟨_, by unfold xw; rw [h1, h2]; rfl, rfl⟩)
            | (rw [ifO_t]
               rcases tst m _ (xw_run hs n _ _ h.2 m) with e2 | ⟨b3, h3, e2⟩
               · rw [e2]; exact .inl rfl
               · rw [e2]; exact .inr ⟨_, by unfold xw; rw [h1, h3]; rfl, rfl⟩)
theorem pe_X (S : SC κ cf X W c) (IX : IsX κ X.K X.mg c.P c.hdN.isL) {a D : Addr} {oe : Obj} {pn : List (Addr × Obj)} {i ec : Nat} (hz : Zc (.ref D) none oe) (hf : ∃ vs, oe.data = .fields vs) (hD : κ.exV ec = .ref D) (hC : ExcC X.K D)
    (hv : PySem.W.subIn X.K (.ref D) (.type "ValueError") = some true) (hne : (c.P.excUp ec).isEmpty = false) : ∀ (n : Nat) (ce : CE) (e : Expr), chkX c i n ce e = true →
    PE (X.suite a ((a, oe) :: pn)) e (fun σ H Q => σ[i]? = some (some (.ref a)) ∧ ∃ b, xw c.P.excUp i ec ce = some b ∧ Q (.bl b) H)
  | 0, _, _, h => by cases h
  | n + 1, ce, e, h => by
    unfold chkX at h
    split at h
    · simp only [Bool.and_eq_true, decide_eq_true_eq, Bool.not_eq_true'] at h
      obtain ⟨⟨⟨⟨⟨⟨⟨rfl, rfl⟩, h1⟩, h2⟩, h3⟩, h4⟩, h5⟩, h6⟩ := h
      simp only [nameB, Bool.and_eq_true, decide_eq_true_eq] at h2
      obtain ⟨⟨g1, g2⟩, g3⟩ := h2
      obtain ⟨B, nn, t, bm, C, F, q, g, kp, s1, s2, eC⟩ := S.exc _ _ h3
      have pv := fun p => pe_var (X := X.suite a ((a, oe) :: pn)) (pos := p) (by show X.N[_]? = _; rw [S.hN]; exact g1) (by have := vis_ok g2; rw [← S.sc] at this; exact this) (okN_ok g3).1 (okN_ok g3).2
      have pc := fun p => pe_glob (X := X.suite a ((a, oe) :: pn)) (v := .ref C) (pos := p) (gl_ok S.sc h4) g rfl h5
      refine (pe_callB (call_isE hC hz hf) (gl_ok S.sc h1) (S.blt "isinstance" (by decide +kernel)) PyProof.Rows.boot_isinstance (pa_cons (pv _) (pa_cons (pc _) pa_nil))).mono fun σ H Q h => ?_
      obtain ⟨hs, b, hx, hq⟩ := h
      refine ⟨.ref a, hs, .ref C, .ref C, b, rfl, fun u r => by cases r; rfl, ?_, hq⟩
      have := IX.kit ec _ h6 hne
      rw [hD, eC] at this
      unfold xw at hx
      rw [if_pos rfl] at hx
      cases hx
      exact this
    · simp only [Bool.and_eq_true, decide_eq_true_eq, Bool.not_eq_true'] at h
      obtain ⟨⟨⟨⟨⟨rfl, rfl⟩, h1⟩, h2⟩, rfl⟩, h4⟩ := h
      simp only [nameB, Bool.and_eq_true, decide_eq_true_eq] at h2
      obtain ⟨⟨g1, g2⟩, g3⟩ := h2
      have pv := fun p => pe_var (X := X.suite a ((a, oe) :: pn)) (pos := p) (by show X.N[_]? = _; rw [S.hN]; exact g1) (by have := vis_ok g2; rw [← S.sc] at this; exact this) (okN_ok g3).1 (okN_ok g3).2
      have pc := fun p => pe_bltn (X := X.suite a ((a, oe) :: pn)) (v := .ty "ValueError") (pos := p) (gl_ok S.sc h4) IX.ve (u := .type "ValueError") (by decide +kernel) rfl
      refine (pe_callB (call_isE hC hz hf) (gl_ok S.sc h1) (S.blt "isinstance" (by decide +kernel)) PyProof.Rows.boot_isinstance (pa_cons (pv _) (pa_cons (pc _) pa_nil))).mono fun σ H Q h => ?_
      obtain ⟨hs, b, hx, hq⟩ := h
      refine ⟨.ref a, hs, .ty "ValueError", .type "ValueError", b, rfl, fun u r => by cases r; rfl, ?_, hq⟩
      unfold xw at hx
      rw [if_pos rfl] at hx
      cases hx
      show (if ((PySem.Value.ref D) == .type "ValueError") = true then some true else PySem.W.kitCls X.K (.ref D) (.type "ValueError")) = _
      rw [if_neg (by intro q; cases (beq_iff_eq.mp q))]
      show (if PySem.W.kitMeta "ValueError" = true then PySem.W.subIn X.K (.ref D) (.type "ValueError") else none) = _
      rw [if_pos (by decide +kernel), hv]
    · refine (pe_not (pe_X S IX hz hf hD hC hv hne n _ _ h)).mono fun σ H Q h => ?_
      obtain ⟨hs, b, hx, hq⟩ := h
      unfold xw at hx
      rw [Option.map_eq_some_iff] at hx
      obtain ⟨b', hx, rfl⟩ := hx
      exact ⟨hs, b', hx, b', rfl, hq⟩
    case h_8 => cases h
    · simp only [Bool.and_eq_true] at h
      refine (pe_and (pe_X S IX hz hf hD hC hv hne n _ _ h.1) (pe_one (pe_X S IX hz hf hD hC hv hne n _ _ h.2))).mono fun σ H Q hh => ?_
      obtain ⟨hs, b, hx, hq⟩ := hh
      obtain ⟨b1, e1⟩ := xw_tot (up := c.P.excUp) (ec := ec) n _ _ h.1
      obtain ⟨b2, e2⟩ := xw_tot (up := c.P.excUp) (ec := ec) n _ _ h.2
      unfold xw at hx
      rw [e1, e2] at hx
      cases hx
      refine ⟨hs, b1, e1, b1, rfl, ?_⟩
      cases b1
      · first | (exact hq) | (exact ⟨hs, b2, e2, hq⟩)
      · first | (exact hq) | (exact ⟨hs, b2, e2, hq⟩)
    · simp only [Bool.and_eq_true] at h
      refine (pe_and (pe_X S IX hz hf hD hC hv hne n _ _ h.1) (pe_X S IX hz hf hD hC hv hne n _ _ h.2)).mono fun σ H Q hh => ?_
      obtain ⟨hs, b, hx, hq⟩ := hh
      obtain ⟨b1, e1⟩ := xw_tot (up := c.P.excUp) (ec := ec) n _ _ h.1
      obtain ⟨b2, e2⟩ := xw_tot (up := c.P.excUp) (ec := ec) n _ _ h.2
      unfold xw at hx
      rw [e1, e2] at hx
      cases hx
      refine ⟨hs, b1, e1, b1, rfl, ?_⟩
      cases b1
      · first | (exact hq) | (exact ⟨hs, b2, e2, hq⟩)
      · first | (exact hq) | (exact ⟨hs, b2, e2, hq⟩)
    · simp only [Bool.and_eq_true] at h
      refine (pe_or (pe_X S IX hz hf hD hC hv hne n _ _ h.1) (pe_one (pe_X S IX hz hf hD hC hv hne n _ _ h.2))).mono fun σ H Q hh => ?_
      obtain ⟨hs, b, hx, hq⟩ := hh
      obtain ⟨b1, e1⟩ := xw_tot (up := c.P.excUp) (ec := ec) n _ _ h.1
      obtain ⟨b2, e2⟩ := xw_tot (up := c.P.excUp) (ec := ec) n _ _ h.2
      unfold xw at hx
      rw [e1, e2] at hx
      cases hx
      refine ⟨hs, b1, e1, b1, rfl, ?_⟩
      cases b1
      · first | (exact hq) | (exact ⟨hs, b2, e2, hq⟩)
      · first | (exact hq) | (exact ⟨hs, b2, e2, hq⟩)
    · simp only [Bool.and_eq_true] at h
      refine (pe_or (pe_X S IX hz hf hD hC hv hne n _ _ h.1) (pe_X S IX hz hf hD hC hv hne n _ _ h.2)).mono fun σ H Q hh => ?_
      obtain ⟨hs, b, hx, hq⟩ := hh
      obtain ⟨b1, e1⟩ := xw_tot (up := c.P.excUp) (ec := ec) n _ _ h.1
      obtain ⟨b2, e2⟩ := xw_tot (up := c.P.excUp) (ec := ec) n _ _ h.2
      unfold xw at hx
      rw [e1, e2] at hx
      cases hx
      refine ⟨hs, b1, e1, b1, rfl, ?_⟩
      cases b1
      · first | (exact hq) | (exact ⟨hs, b2, e2, hq⟩)
      · first | (exact hq) | (exact ⟨hs, b2, e2, hq⟩)
theorem ret_run {P : Prog} {s : Sx} {ce : CE} {Q : Bool → Prop} (h : ∀ m, evalE P cf m ce s = .fail ∨ ∃ b, Q b ∧ evalE P cf m ce s = .ok (.val (.bl b)) s) : ∀ m, execB P cf wf m [.ret ce] s = .fail ∨ ∃ b, Q b ∧ execB P cf wf m [.ret ce] s = .ok (.ret (.bl b)) s
  | 0 => .inl rfl
  | m + 1 => by
    have e0 : execB P cf wf (m + 1) [.ret ce] s = M.bind ((evalE P cf m ce).bind fun t => (escape t).bind fun d => (pure (.ret d) : M Flow)) (fun f => match f with | .nx => execL (stepS P (evalE P cf m) (execB P cf wf m) wf) [] | f => pure f) s := rfl
    rcases h m with e | ⟨b, hw, e⟩
    · refine .inl ?_
      rw [e0]; unfold M.bind; rw [e]
    · refine .inr ⟨b, hw, ?_⟩
      rw [e0]; unfold M.bind; rw [e]; rfl
theorem Rel.goneAt {A : Act} {as : List Addr} {σ : St} {ts : List V} {H : Hp} {s : Sx} {tds : List D} {i : Nat} (R : KRel κ A as σ ts H s tds) : KRel κ A as σ ts H { s with env := s.env.set i .gone } tds := by
  cases e : s.env[i]? with
  | none =>
    have : s.env.set i .gone = s.env := List.set_eq_of_length_le (by simpa using e)
    rw [this]; exact R
  | some d =>
    by_cases hg : d = .gone
    · subst hg
      have : s.env.set i .gone = s.env := by
        obtain ⟨hl, hv⟩ := List.getElem?_eq_some_iff.mp e
        exact List.ext_getElem? fun j => by
          rw [List.getElem?_set]
          split
          · rename_i hj; subst hj; first | rw [if_pos hl, e] | exact e.symm | rw [e]
          · rfl
      rw [this]; exact R
    · obtain ⟨v, hσ⟩ := R.getσ e hg
      exact (R.moveOut e hg hσ).drop'
/-- the suite's own -/
def tAs (κ : Kit) (up : Nat → List Nat) (i : Nat) (ce : CE) (a : Addr) (cls : Value) (d : Option Addr) : TS := fun E σ H => ∃ ec b, cls = κ.exV ec ∧ d = none ∧ (up ec).isEmpty = false ∧ σ[i]? = some (some (.ref a)) ∧ xw up i ec ce = some b ∧ E.rt (.bl b) H
theorem s_tryAs {P : Prog} {ev : CE → M Tm} {ex : List CS → M Flow} {body : List CS} {ce : CE} {e : Expr} {b : List Stmt} {i j nX : Nat} {x y : Str} {np pos pos' p2 : Pos} (S : SC κ cf X W c) (ht : c.top = true) (hP : c.P = P) (hj : c.exN[j]? = some (some x)) (hj2 : c.hdN.hd.contains j = true) (hg : Gl X x) (hdb : (x == ("__debug__" : Str)) = false)
    (has : c.hdN.asB = true) (hx : chkX c i nX ce e = true) (hi : c.N[i]? = some y) (hln : c.sc.names.lookup y = some .local)
    (hn : ∀ s, ex [] s = .fail ∨ ex [] s = .ok .nx s) (hsu : ∀ ec ps s, s.env[i]? = some (.exc ec ps) → ex [.ret ce] s = .fail ∨ ∃ b, xw P.excUp i ec ce = some b ∧ ex [.ret ce] s = .ok (.ret (.bl b)) s)
    (hb : ∀ {W' : WX} {pn : List (Addr × Obj)} {xe : Value → Shared → Prop}, SC κ cf (X.tr pn xe) W' c → PSs (X.tr pn xe) b (tS κ W' fx (ex body))) :
    PS X (.Try b [.ExceptHandler (some (.Name x np)) (some y) [.Return (some e) p2] pos'] [] [] pos) (tS κ W fx (stepS P ev ex wf (.try body [([j], some i, [.ret ce])] []))) := by
  have T := S.tops ht
  have IX := S.isx has
  obtain ⟨B, n, t, bm, C, F, q, g, k, s1, s2, eC⟩ := S.exc _ _ hj
  refine (ps_try_as (c := .ref C) (tb := fun W => tS κ W fx (ex body)) (ts := tAs κ P.excUp i ce) T.stk T.frm S.nd (by rw [S.hN]; exact hi) (by show X.env.scope.names.lookup y = _; rw [S.sc]; exact hln) ⟨hg, hdb, .inl g⟩ S.tk (fun W' pn xe tk po => hb (S.tr tk po)) (fun a oe cls d pn hz hf => ?_)).mono fun D σ H h => ?_
  · refine pss_one ⟨fun pins s σ H E I h => ?_⟩
    obtain ⟨ec, b, rfl, rfl, hne, hs, hw, hE⟩ := h
    rw [← hP] at hne hw
    obtain ⟨Dc, h1, h2, h3⟩ := IX.own ec hne
    rw [h1] at hz
    exact (ps_ret (pe_X S IX hz hf h1 h2 h3 hne nX ce e hx)).run pins s σ H E I ⟨hs, b, hw, hE⟩
  obtain ⟨A, as, ts, tds, s, R, hf, h⟩ := h
  refine ⟨A, as, ts, tds, s, R, hf, ?_⟩
  have h : RunS κ A ts tds W D (match ex body s with
    | .ok .nx s' => ex [] s'
    | .ok f s' => .ok f s'
    | .exc c ps s' => if (P.excUp c).isEmpty || !ps.isEmpty then .fail else match handle ex P.excUp c ps [([j], some i, [.ret ce])] with
      | some m => noRaiseL m s'
      | none => .exc c ps s'
    | .fail => .fail) := h
  cases e : ex body s with
  | fail => rw [e] at h; exact h
  | ok f s' =>
    rw [e] at h
    cases f with
    | nx =>
      have h : RunS κ A ts tds W D (ex [] s') := h
      rcases hn s' with e2 | e2
      · rw [e2] at h; exact h.elim
      · rw [e2] at h; exact h
    | ret d => exact h
    | brk => exact h
    | cont => exact h
  | exc ec ps s' =>
    rw [e] at h
    dsimp only at h
    by_cases hc : ((P.excUp ec).isEmpty || !ps.isEmpty) = true
    · rw [if_pos hc] at h; exact h.elim
    · rw [if_neg hc] at h
      have hu : (P.excUp ec).isEmpty = false := by
        cases hh : (P.excUp ec).isEmpty with
        | true => exact absurd (by rw [hh]; rfl) hc
        | false => rfl
      have hps : ps = [] := by
        cases ps with
        | nil => rfl
        | cons _ _ => exact absurd (by simp) hc
      have hx := S.exm ec j hj2 (by rw [hP]; exact hu)
      rw [hP, eC] at hx
      refine ⟨hps, fun σ' H' as' ts' tds' u R' => ⟨_, hx, fun hy a ha => ?_, fun hno => ?_⟩⟩
      · have hh : handle ex P.excUp ec ps [([j], some i, [.ret ce])] = some (do
            bindP (.name i) (.exc ec ps)
            let f ← ex [.ret ce]
            bindP (.name i) .gone
            pure f) := by
          show (if _ then _ else _) = _
          rw [if_pos (by simp only [List.any_cons, List.any_nil, Bool.or_false]; exact hy)]
        rw [hh] at h
        obtain ⟨p, pd, hl, rfl, rfl⟩ := u
        have R2 : KRel κ A as' σ' ts H' s' tds := Rel.drops hl.symm R'
        have hlen : σ'.length = s'.env.length := by
          obtain ⟨_, _, _, _, _, _, _, C2, _⟩ := R2
          exact C2.sl
        by_cases hi2 : i < s'.env.length
        · have hset : ({ s' with env := s'.env.set i (.exc ec ps) } : Sx).env[i]? = some (.exc ec ps) := by
            show (s'.env.set i _)[i]? = _
            rw [List.getElem?_set_self hi2]
          have h : RunS κ A ts tds W D (noRaiseL (do
            bindP (.name i) (.exc ec ps)
            let f ← ex [.ret ce]
            bindP (.name i) .gone
            pure f) s') := h
          have e3 : (do
            bindP (.name i) (.exc ec ps)
            let f ← ex [.ret ce]
            bindP (.name i) .gone
            pure f : M Flow) s' = (do
            let f ← ex [.ret ce]
            bindP (.name i) .gone
            pure f : M Flow) { s' with env := s'.env.set i (.exc ec ps) } := by
            show M.bind (bindP (.name i) (.exc ec ps)) _ s' = _
            unfold M.bind
            have : bindP (.name i) (.exc ec ps) s' = .ok () { s' with env := s'.env.set i (.exc ec ps) } := by
              show (if i < s'.env.length then _ else _) = _
              rw [if_pos hi2]
            rw [this]
          unfold noRaiseL at h
          rw [e3] at h
          rcases hsu ec ps _ hset with e4 | ⟨b, hw, e4⟩
          · have : (do
            let f ← ex [.ret ce]
            bindP (.name i) .gone
            pure f : M Flow) { s' with env := s'.env.set i (.exc ec ps) } = .fail := by
              show M.bind (ex [.ret ce]) _ _ = _
              unfold M.bind; rw [e4]
            rw [this] at h; exact h.elim
          · have : (do
            let f ← ex [.ret ce]
            bindP (.name i) .gone
            pure f : M Flow) { s' with env := s'.env.set i (.exc ec ps) } = .ok (.ret (.bl b)) { s' with env := s'.env.set i .gone } := by
              show M.bind (ex [.ret ce]) _ _ = _
              unfold M.bind; rw [e4]
              show M.bind (bindP (.name i) .gone) _ _ = _
              unfold M.bind
              have : bindP (.name i) .gone { s' with env := s'.env.set i (.exc ec ps) } = .ok () { s' with env := s'.env.set i .gone } := by
                show (if i < (s'.env.set i _).length then _ else _) = _
                rw [if_pos (by rw [List.length_set]; exact hi2)]
                show Out.ok () { s' with env := (s'.env.set i _).set i .gone } = _
                rw [List.set_set]
              rw [this]; rfl
            rw [this] at h
            have h : ∀ σ' H' as' v, KRel κ A as' σ' (v :: ts) H' { s' with env := s'.env.set i .gone } (.bl b :: tds) → D.rt v H' := h
            refine ⟨ec, b, rfl, rfl, hu, ?_, hw, h σ' H' as' (.bl b) (R2.goneAt.scal fun g _ => .bl fun _ => rfl)⟩
            rw [List.getElem?_set_self (by rw [hlen]; exact hi2)]
        · have h : RunS κ A ts tds W D (noRaiseL (do
            bindP (.name i) (.exc ec ps)
            let f ← ex [.ret ce]
            bindP (.name i) .gone
            pure f) s') := h
          have e3 : (do
            bindP (.name i) (.exc ec ps)
            let f ← ex [.ret ce]
            bindP (.name i) .gone
            pure f : M Flow) s' = .fail := by
            show M.bind (bindP (.name i) (.exc ec ps)) _ s' = _
            unfold M.bind
            have : bindP (.name i) (.exc ec ps) s' = .fail := by
              show (if i < s'.env.length then _ else _) = _
              rw [if_neg hi2]
            rw [this]
          unfold noRaiseL at h
          rw [e3] at h; exact h.elim
      · have hh : handle ex P.excUp ec ps [([j], some i, [.ret ce])] = none := by
          show (if _ then _ else _) = _
          rw [if_neg (by simp only [List.any_cons, List.any_nil, Bool.or_false]; rw [hno]; decide)]
          rfl
        rw [hh] at h
        exact h.2 _ _ _ _ _ u R'
end
end VS
/-! a, b = c, d of two or three names of the def's own. -/
namespace VS
open PySem L2
def starX : Expr → Bool
  | .Starred .. => true
  | _ => false
/-- names, all of the def's own, on one row -/
def parN (sc : Scope) (l : Nat) : List Expr → List Str → Bool
  | [], [] => true
  | .Name x p :: ts, y :: ys => decide (x = y) && decide (sc.names.lookup x = some .local) && (p.line == l) && parN sc l ts ys
  | _, _ => false
def headL (ts : List Expr) : Nat := (ts.head?.map (·.pos.line)).getD 0
def parB (sc : Scope) (ts vs : List Expr) (ys : List Str) : Bool :=
  (ts.length == 2 || ts.length == 3) && (vs.length == ts.length) && !(vs.any starX) && parN sc (headL ts) ts ys && (ys.eraseDups.length == ys.length) && decide ys.Nodup && !(vs.all (foldedForSure 8)) && !(vs.all (constantsAlone 8))
theorem parN_len {sc : Scope} {l : Nat} : ∀ {ts : List Expr} {ys : List Str}, parN sc l ts ys = true → ys.length = ts.length
  | [], [], _ => rfl
  | e :: ts, [], h => by cases e <;> cases h
  | [], _ :: _, h => by cases h
  | e :: ts, y :: ys, h => by
    cases e with
    | Name x p =>
      simp only [parN, Bool.and_eq_true] at h
      simp [parN_len h.2]
    | _ => cases h
theorem any_star {g : Expr → Bool} (hg : ∀ e, g e = starX e) {vs : List Expr} (h : vs.any starX = false) (hh : vs.any g = true) : False := by
  rw [show g = starX from funext hg, h] at hh; cases hh
theorem parN_fm {g : Expr → Option Str} {sc : Scope} {l : Nat} {env : Env} (hg : ∀ x p, g (.Name x p) = if env.kindOf x == some .local && p.line == l then some x else none) (hs : env.scope = sc) : ∀ {ts : List Expr} {ys : List Str}, parN sc l ts ys = true → ts.filterMap g = ys
  | [], [], _ => rfl
  | e :: ts, [], h => by cases e <;> cases h
  | [], _ :: _, h => by cases h
  | e :: ts, y :: ys, h => by
    cases e with
    | Name x p =>
      simp only [parN, Bool.and_eq_true, decide_eq_true_eq] at h
      obtain ⟨⟨⟨rfl, h2⟩, h3⟩, h4⟩ := h
      have ih := parN_fm hg hs h4
      have : (env.kindOf x == some .local && p.line == l) = true := by
        show (env.scope.names.lookup x == some .local && p.line == l) = true
        rw [hs, h2, h3]; rfl
      rw [List.filterMap_cons, hg, if_pos this, ih]
    | _ => cases h
theorem par_ok {sc : Scope} {ts vs : List Expr} {ys : List Str} {env : Env} {k1 k2 : Nat} {p1 p2 : Pos} (hs : env.scope = sc) (hk : env.scope.kind = .function) (h : parB sc ts vs ys = true) :
    swappedStores [.Tuple ts k1 p1] (.Tuple vs k2 p2) env = pure (some ys) := by
  simp only [parB, Bool.and_eq_true, Bool.not_eq_true', decide_eq_true_eq] at h
  obtain ⟨⟨⟨⟨⟨⟨⟨h1, h2⟩, h3⟩, h4⟩, h5⟩, _⟩, h6⟩, h7⟩ := h
  have hl := parN_len h4
  have hb : env.blockKind = .function := by unfold Env.blockKind; rw [hk]; rfl
  unfold swappedStores
  dsimp only
  rw [h1, hb, if_neg (by simp [eq_of_beq h2])]
  refine (if_neg fun hh => any_star (fun e => by cases e <;> rfl) h3 hh).trans ?_
  rw [parN_fm (env := env) ?_ hs h4]
  · have h5' : (ys.eraseDups.length != ys.length) = false := by simpa using h5
    rw [hl] at *
    rw [show (ts.length != ts.length) = false by simp, Bool.false_or, h5', h6, h7]
    rfl
  · intro x p; rfl
section
variable {κ : Kit} {X : Cx} {W : WX} {ev : CE → M Tm} {ex : List CS → M Flow} {P : Prog} {cf : Nat → List D → M (D × List D)} {fx : List Nat} {wf : Nat}
theorem Rel.bind1 {A : Act} {as : List Addr} {σ : St} {ts : List V} {tds : List D} {H : Hp} {s s' : Sx} {i : Nat} {d : D} {v : V} {u : Unit} (R : KRel κ A as σ (v :: ts) H s (d :: tds)) (hf : ∀ q ∈ A.fix, q.1 ≠ i) (e : bindP (.name i) d s = .ok u s') : KRel κ A as (σ.set i (some v)) ts H s' tds := by
  have e : (if i < s.env.length then (Out.ok () { s with env := s.env.set i d } : Out Unit) else .fail) = .ok u s' := e
  split at e
  · rename_i hi
    cases e
    obtain ⟨fx, Fz, tot, evs, fE, fT, fS, C, S⟩ := R
    obtain ⟨evs', fE', fT', tot', C', hz⟩ := C.store hi
    refine ⟨fun p hp => ?_, Fz, tot', evs', fE', fT', fS, C', S.less hz⟩
    rw [List.getElem?_set_ne fun e => hf p hp e.symm]
    exact fx p hp
  · cases e
theorem bind_as {α β γ : Type} {m : M α} {f : α → M β} {g : β → M γ} : (m.bind f).bind g = m.bind fun x => (f x).bind g := by
  funext s
  show (match (match m s with | .ok a s' => f a s' | .exc c ps s' => .exc c ps s' | .fail => .fail : Out β) with | .ok a s' => g a s' | .exc c ps s' => .exc c ps s' | .fail => .fail) = (match m s with | .ok a s' => _ | .exc c ps s' => .exc c ps s' | .fail => .fail : Out γ)
  cases m s <;> rfl
theorem par_eq {es : List CE} {p : Pat} : asgS (step P ev cf) (.pat p) (.tup es) = (evalL ev es).bind fun ts => (escL ts).bind fun ds => (need (fits ds.length)).bind fun _ => (bindP p (.tup ds)).bind fun _ => (pure .nx : M Flow) := by
  show ((evalL ev es).bind fun ts => (escL ts).bind fun ds => (need (fits ds.length)).bind fun _ => (pure (.val (.tup ds)) : M Tm)).bind (fun u => (escape u).bind fun x => (bindP p x).bind fun _ => (pure .nx : M Flow)) = _
  rw [bind_as]; congr 1; funext ts
  rw [bind_as]; congr 1; funext ds
  rw [bind_as]; rfl
theorem s_par {i j : Nat} {x y : Str} {a b : Expr} {ca cb : CE} {px py pt pos p2 : Pos} {kt k2 : Nat} (hc : X.calm = true) (hN : X.N.Nodup) (hi : X.N[i]? = some x) (hj : X.N[j]? = some y) (hij : i ≠ j) (hx : X.env.scope.names.lookup x = some .local) (hy : X.env.scope.names.lookup y = some .local)
    (ha : SAs κ X W ev [a, b] [ca, cb]) (hw : swappedStores [.Tuple [.Name x px, .Name y py] kt pt] (.Tuple [a, b] k2 p2) X.env = pure (some [x, y])) (h1 : i ∉ fx) (h2 : j ∉ fx) :
    PS X (.Assign [.Tuple [.Name x px, .Name y py] kt pt] (.Tuple [a, b] k2 p2) pos) (tS κ W fx (stepS P (step P ev cf) ex wf (.asg (.pat (.tup [.name i, .name j])) (.tup [ca, cb])))) := by
  refine (ps_par hc hN hi hj hij hx hy ha.pa hw).mono fun E σ H h => ?_
  have h : tS κ W fx (asgS (step P ev cf) (.pat (.tup [.name i, .name j])) (.tup [ca, cb])) E σ H := h
  rw [par_eq] at h
  refine argsS (es := [ca, cb]) h fun {A as ts tds tms s1 vs H1} hl hl2 hf R h => ?_
  match tms, vs, hl, hl2 with
  | [t1, t2], [v1, v2], _, _ =>
    have R : KTms κ A as σ ts H1 s1 tds [] [] [(t2, v2), (t1, v1)] := R
    obtain ⟨ds, s2, e2, hA⟩ := RunS.okM .escL h
    obtain ⟨_, s3, e3, hB⟩ := RunS.okM .need hA
    obtain ⟨_, s4, e4, hC⟩ := RunS.okM (NoExP _ _) hB
    have e2 : ((((pure [] : M (List D)).bind fun r => (escape t2).bind fun d => (pure (d :: r) : M (List D)))).bind fun r => (escape t1).bind fun d => (pure (d :: r) : M (List D))) s1 = .ok ds s2 := e2
    simp only [ok_bind', ok_pure, ok_need] at e2 e3
    obtain ⟨_, _, ⟨_, _, ⟨rfl, rfl⟩, d2, q3, g2, rfl, rfl⟩, d1, q1, g1, rfl, rfl⟩ := e2
    obtain ⟨_, rfl⟩ := e3
    have e4 : ((need (decide ([Pat.name i, Pat.name j].length = [d1, d2].length))).bind fun _ => (bindP (.name i) d1).bind fun _ => (bindP (.name j) d2).bind fun _ => (pure () : M Unit)) _ = .ok _ s4 := e4
    simp only [ok_bind', ok_pure, ok_need] at e4
    obtain ⟨_, _, ⟨_, rfl⟩, _, q5, b1, _, q6, b2, _, rfl⟩ := e4
    have R1 := (R.esc g2).esc g1
    have R3 : KRel κ A as σ (v1 :: v2 :: ts) H1 _ (d1 :: d2 :: tds) := R1.nil
    have fi : ∀ q ∈ A.fix, q.1 ≠ i := fun q hq e => h1 (e ▸ hf q hq)
    have fj : ∀ q ∈ A.fix, q.1 ≠ j := fun q hq e => h2 (e ▸ hf q hq)
    exact ⟨v1, v2, rfl, hC _ _ _ ((R3.bind1 fi b1).bind1 fj b2)⟩
theorem s_par3 {i j l : Nat} {x y z : Str} {a b c : Expr} {ca cb cc : CE} {px py pz pt pos p2 : Pos} {kt k2 : Nat} (hc : X.calm = true) (hN : X.N.Nodup) (hi : X.N[i]? = some x) (hj : X.N[j]? = some y) (hk : X.N[l]? = some z) (hij : i ≠ j) (hil : i ≠ l) (hjl : j ≠ l) (hx : X.env.scope.names.lookup x = some .local) (hy : X.env.scope.names.lookup y = some .local) (hz : X.env.scope.names.lookup z = some .local)
    (ha : SAs κ X W ev [a, b, c] [ca, cb, cc]) (hw : swappedStores [.Tuple [.Name x px, .Name y py, .Name z pz] kt pt] (.Tuple [a, b, c] k2 p2) X.env = pure (some [x, y, z])) (h1 : i ∉ fx) (h2 : j ∉ fx) (h3 : l ∉ fx) :
    PS X (.Assign [.Tuple [.Name x px, .Name y py, .Name z pz] kt pt] (.Tuple [a, b, c] k2 p2) pos) (tS κ W fx (stepS P (step P ev cf) ex wf (.asg (.pat (.tup [.name i, .name j, .name l])) (.tup [ca, cb, cc])))) := by
  refine (ps_par3 hc hN hi hj hk hij hil hjl hx hy hz ha.pa hw).mono fun E σ H h => ?_
  have h : tS κ W fx (asgS (step P ev cf) (.pat (.tup [.name i, .name j, .name l])) (.tup [ca, cb, cc])) E σ H := h
  rw [par_eq] at h
  refine argsS (es := [ca, cb, cc]) h fun {A as ts tds tms s1 vs H1} hl hl2 hf R h => ?_
  match tms, vs, hl, hl2 with
  | [t1, t2, t3], [v1, v2, v3], _, _ =>
    have R : KTms κ A as σ ts H1 s1 tds [] [] [(t3, v3), (t2, v2), (t1, v1)] := R
    obtain ⟨ds, s2, e2, hA⟩ := RunS.okM .escL h
    obtain ⟨_, s3, e3, hB⟩ := RunS.okM .need hA
    obtain ⟨_, s4, e4, hC⟩ := RunS.okM (NoExP _ _) hB
    have e2 : ((((pure [] : M (List D)).bind fun r => (escape t3).bind fun d => (pure (d :: r) : M (List D))).bind fun r => (escape t2).bind fun d => (pure (d :: r) : M (List D))).bind fun r => (escape t1).bind fun d => (pure (d :: r) : M (List D))) s1 = .ok ds s2 := e2
    simp only [ok_bind', ok_pure, ok_need] at e2 e3
    obtain ⟨_, _, ⟨_, _, ⟨_, _, ⟨rfl, rfl⟩, d3, q5, g3, rfl, rfl⟩, d2, q3, g2, rfl, rfl⟩, d1, q1, g1, rfl, rfl⟩ := e2
    obtain ⟨_, rfl⟩ := e3
    have e4 : ((need (decide ([Pat.name i, Pat.name j, Pat.name l].length = [d1, d2, d3].length))).bind fun _ => (bindP (.name i) d1).bind fun _ => (bindP (.name j) d2).bind fun _ => (bindP (.name l) d3).bind fun _ => (pure () : M Unit)) _ = .ok _ s4 := e4
    simp only [ok_bind', ok_pure, ok_need] at e4
    obtain ⟨_, _, ⟨_, rfl⟩, _, q5, b1, _, q6, b2, _, q7, b3, _, rfl⟩ := e4
    have R1 := ((R.esc g3).esc g2).esc g1
    have R3 : KRel κ A as σ (v1 :: v2 :: v3 :: ts) H1 _ (d1 :: d2 :: d3 :: tds) := R1.nil
    have fi : ∀ q ∈ A.fix, q.1 ≠ i := fun q hq e => h1 (e ▸ hf q hq)
    have fj : ∀ q ∈ A.fix, q.1 ≠ j := fun q hq e => h2 (e ▸ hf q hq)
    have fl : ∀ q ∈ A.fix, q.1 ≠ l := fun q hq e => h3 (e ▸ hf q hq)
    exact ⟨v1, v2, v3, rfl, hC _ _ _ (((R3.bind1 fi b1).bind1 fj b2).bind1 fl b3)⟩
end
end VS
/-! Statements, checked. -/
namespace VS
open PySem L2
def compB : Expr → Bool
  | .ListComp _ _ _ _ => true
  | .SetComp _ _ _ _ => true
  | .DictComp _ _ _ _ _ => true
  | _ => false
theorem swaps_no {e : Expr} {t : Option Expr} {l : Nat} {env : Env} (h : compB e = false) : swapsWith e t l env = pure false := by
  cases e <;> first | rfl | cases h
/-- does y = [..] keep its list ahead of the comprehension's names? -/
def swapB (sc : Scope) (y : Str) (py pos : Pos) (scope : Scope) : Bool :=
  decide (sc.names.lookup y = some .local) && (py.line == pos.line) && !(scope.names.any fun (n, k) => n == y && (k == .local || k == .cell))
theorem swap_true {sc : Scope} {elt : Expr} {gs : List Comprehension} {scope : Scope} {pos py : Pos} {y : Str} {l : Nat} {env : Env} (hk : env.scope.kind = .function) (hs : env.scope = sc) (h : swapB sc y py pos scope = true) :
    swapsWith (.ListComp elt gs scope pos) (some (.Name y py)) l env = pure true := by
  simp only [swapB, Bool.and_eq_true, decide_eq_true_eq, Bool.not_eq_true'] at h
  obtain ⟨⟨h1, h2⟩, h3⟩ := h
  exact sw_true hk (by rw [hs]; exact h1) h2 h3
theorem swap_false {sc : Scope} {elt : Expr} {gs : List Comprehension} {scope : Scope} {pos py : Pos} {y : Str} {l : Nat} {env : Env} (hk : env.scope.kind = .function) (hs : env.scope = sc) (h : swapB sc y py pos scope = false) :
    swapsWith (.ListComp elt gs scope pos) (some (.Name y py)) l env = pure false := by
  have hb : env.blockKind = .function := by unfold Env.blockKind; rw [hk]; rfl
  have hkn : env.kindOf y = sc.names.lookup y := by rw [← hs]; rfl
  unfold swapsWith
  unfold swapB at h
  simp only [hb, hkn, Expr.pos]
  have e1 : (sc.names.lookup y == some NameKind.local) = decide (sc.names.lookup y = some NameKind.local) := by
    cases hh : sc.names.lookup y with
    | none => rfl
    | some k => cases k <;> rfl
  show (pure (_ && _ && _ && _) : Sem Bool) = _
  rw [e1]
  have : ((PySem.ScopeKind.function == PySem.ScopeKind.function) && decide (sc.names.lookup y = some NameKind.local) && (py.line == pos.line) && !(scope.names.any fun (n, k) => n == y && (k == .local || k == .cell))) = false := by
    rw [show (PySem.ScopeKind.function == PySem.ScopeKind.function) = true from rfl, Bool.true_and]; exact h
  exact congrArg pure this
def chkB (f : CS → Stmt → Bool) : List CS → List Stmt → Bool
  | [], [] => true
  | c :: cs, s :: ss => f c s && chkB f cs ss
  | _, _ => false
def augB : Bop → Operator → Bool
  | .add, .Add => true
  | .sub, .Sub => true
  | _, _ => false
theorem augB_ok {op : Bop} {b : Operator} (h : augB op b = true) : (op = .add ∧ b = .Add) ∨ (op = .sub ∧ b = .Sub) := by
  cases op <;> cases b <;> first | exact .inl ⟨rfl, rfl⟩ | exact .inr ⟨rfl, rfl⟩ | cases h
theorem swaps_attr {e x : Expr} {f : Str} {p : Pos} {l : Nat} {env : Env} : swapsWith e (some (.Attribute x f p)) l env = pure false := by
  cases e <;> rfl
/-- a subscript target without a tuple or a slice -/
def chkS : Nat → Ck → List Nat → CS → Stmt → Bool
  | 0, _, _, _, _ => false
  | n + 1, c, fx, cs, st => match cs, st with
    | .pass, .Pass _ => true
    | .brk, .Break _ => true
    | .cont, .Continue _ => true
    | .expr e, .Expr x _ => !compB x && chkE n c e x
    | .ret e, .Return (some x) _ => chkE n c e x
    | .retM i, .Return (some (.Name x _)) _ => nameB c i x
    | .retN, .Return none _ => true
    | .ite t a b, .If x y z _ => chkE n c t x && chkB (chkS n c fx) a y && chkB (chkS n c fx) b z
    | .asg (.pat (.name i)) (.comp own p src cond elt), .Assign [.Name x py] (.ListComp y [⟨tg, iter, ifs, asy⟩] scope pos) _ => decide (c.N[i]? = some x) && locB c x && !(fx.contains i) && c.top && decide (asy = 0) &&
        (if swapB c.sc x py pos scope then chkCmp (chkE n c) (chkE n { c with sc := relS scope c.sc, top := false }) c own p src cond elt y tg iter ifs scope else chkE n c (.comp own p src cond elt) (.ListComp y [⟨tg, iter, ifs, asy⟩] scope pos))
    | .asg (.pat (.name i)) e, .Assign [.Name x _] y _ => decide (c.N[i]? = some x) && locB c x && !(fx.contains i) && !compB y && chkE n c e y
    | .asg (.pat (.tup [.name i, .name j])) (.tup [a, b]), .Assign [.Tuple [.Name x px, .Name y py] kt pt] (.Tuple [v, w] k2 p2) _ => c.top && parB c.sc [.Name x px, .Name y py] [v, w] [x, y] && decide (c.N[i]? = some x) && decide (c.N[j]? = some y) && !decide (i = j) && !(fx.contains i) && !(fx.contains j) && decide (c.sc.names.lookup x = some .local) && decide (c.sc.names.lookup y = some .local) && chkL (chkE n c) [a, b] [v, w]
    | .asg (.pat (.tup [.name i, .name j, .name l])) (.tup [a, b, d]), .Assign [.Tuple [.Name x px, .Name y py, .Name z pz] kt pt] (.Tuple [v, w, u] k2 p2) _ => c.top && parB c.sc [.Name x px, .Name y py, .Name z pz] [v, w, u] [x, y, z] && decide (c.N[i]? = some x) && decide (c.N[j]? = some y) && decide (c.N[l]? = some z) && !decide (i = j) && !decide (i = l) && !decide (j = l) && !(fx.contains i) && !(fx.contains j) && !(fx.contains l) && decide (c.sc.names.lookup x = some .local) && decide (c.sc.names.lookup y = some .local) && decide (c.sc.names.lookup z = some .local) && chkL (chkE n c) [a, b, d] [v, w, u]
    | .asg (.pat (.tup ps)) e, .Assign [.Tuple es k tp] y _ => chkP c (.tup ps) (.Tuple es k tp) && (patNames (.tup ps)).all (fun j => !(fx.contains j)) && !tupB y && chkE n c e y
    | .asg (.sub a i) e, .Assign [.Subscript x y _] z _ => plainIxB y && !compB z && (chkE n c a x && chkE n c i y && chkE n c e z)
    | .asg (.slice a (some (.lit (.int l))) (some (.lit (.int h)))) e, .Assign [.Subscript x (.Slice (some (.Constant (.int l2) _ _)) (some (.Constant (.int h2) _ _)) none _) _] z _ => decide (l = l2 ∧ h = h2 ∧ 0 ≤ l ∧ l ≤ h) && !compB z && (chkE n c a x && chkE n c e z)
    | .asg (.attr o f) e, .Assign [.Attribute x g _] y _ => decide (f = g) && c.atN.contains f && (chkE n c o x && chkE n c e y)
    | .augF o f op e, .AugAssign (.Attribute x g _) bop y _ => decide (f = g) && c.atN.contains f && augB op bop && (chkE n c o x && chkE n c e y)
    | .raise i [], .Raise (some (.Call (.Name x _) [] [] _)) none _ => decide (c.exN[i]? = some (some x)) && glB c.sc x && !(x == ("__debug__" : Str))
    | .raise i [], .Raise (some (.Call (.Name x _) [.Constant (.str _) _ _] [] _)) none _ => decide (c.exN[i]? = some (some x)) && glB c.sc x && !(x == ("__debug__" : Str))
    | .try body [([j], none, suite)] [], .Try b [.ExceptHandler (some (.Name x _)) none (b₀ :: su) _] [] [] _ => c.top && decide (c.exN[j]? = some (some x)) && c.hdN.hd.contains j && glB c.sc x && !(x == ("__debug__" : Str)) && chkB (chkS n c fx) body b && chkB (chkH c fx) suite (b₀ :: su)
    | .try body [([j], some i, [.ret ce])] [], .Try b [.ExceptHandler (some (.Name x _)) (some y) [.Return (some e) _] _] [] [] _ => c.top && decide (c.exN[j]? = some (some x)) && c.hdN.hd.contains j && glB c.sc x && !(x == ("__debug__" : Str)) && chkB (chkS n c fx) body b && c.hdN.asB && chkX c i n ce e && decide (c.N[i]? = some y) && decide (c.sc.names.lookup y = some .local)
    | .for p src body, .For tg iter st [] _ => c.top && setB iter && chkSrc (chkE n c) c tg src iter && chkP c p tg && (patNames p).all (fun j => !((srcLocs src ++ fx).contains j)) && chkB (chkS n c (srcLocs src ++ fx)) body st
    | .while t b, .While x st [] _ => c.top && chkE n c t x && chkB (chkS n c fx) b st
    | .augN i op e, .AugAssign (.Name x _) o y _ => decide (c.N[i]? = some x) && locB c x && !(fx.contains i) && decide (o = augE op) && chkE n c e y
    | _, _ => false
section
variable {κ : Kit} {cf : Nat → List D → M (D × List D)} {X : Cx} {W : WX} {c : Ck} {fx : List Nat} {wf : Nat}
theorem s_fail {st : Stmt} : PS X st (tS κ W fx (VS.fail : M Flow)) := ⟨fun _ _ _ _ _ _ ⟨_, _, _, _, _, _, _, h⟩ => h.elim⟩
theorem ss_fail {st : List Stmt} : PSs X st (tS κ W fx (VS.fail : M Flow)) := ⟨fun _ _ _ _ _ _ ⟨_, _, _, _, _, _, _, h⟩ => h.elim⟩
theorem chkB_ok {f : CS → Stmt → Bool} {xs : CS → M Flow} (hf : ∀ cs st, f cs st = true → PS X st (tS κ W fx (xs cs))) : ∀ {css : List CS} {sts : List Stmt}, chkB f css sts = true → PSs X sts (tS κ W fx (execL xs css))
  | [], [], _ => ss_nil
  | c :: cs, s :: ss, h => by
    simp only [chkB, Bool.and_eq_true] at h
    exact ss_cons (hf _ _ h.1) (chkB_ok hf h.2)
  | [], _ :: _, h => by cases h
  | _ :: _, [], h => by cases h
theorem setItem_ok {x y : Expr} {pos : Pos} {env : Env} (h : plainIxB y = true) (v : Value) : assign (.Subscript x y pos) env v = (do
      let ov ← holding [v] (eval x env)
      let iv ← holding [v, ov] (eval y env)
      standAt pos
      holding [v, ov, iv] (PySem.setItem ov iv v)
      release [v, ov, iv] []) := by
  cases y <;> first | rfl | cases h
/-- a block, its steps shown one level up -/
theorem blk_ok {n : Nat} (ih : ∀ (fx : List Nat) cs st, chkS n c fx cs st = true → ∀ m, PS X st (tS κ W fx (stepS c.P (evalE c.P cf m) (execB c.P cf wf m) wf cs))) {fx : List Nat} {css : List CS} {sts : List Stmt} (h : chkB (chkS n c fx) css sts = true) : ∀ m, PSs X sts (tS κ W fx (execB c.P cf wf m css))
  | 0 => ss_fail
  | m + 1 => chkB_ok (fun cs st h => ih fx cs st h m) h
theorem comp_set {i : Nat} {x : Str} {P : Prog} (S : SC κ cf X W c) (S2 : SCt X) {f g : CE → Expr → Bool} {ev : CE → M Tm} {ex : List CS → M Flow} {own : List Nat} {p : Pat} {src : Src} {cond : Option CE} {elt : CE} {y tg iter : Expr} {ifs : List Expr} {scope : Scope} {pos py spos : Pos} (hi : c.N[i]? = some x) (hfx : i ∉ fx)
    (hsw : swapB c.sc x py pos scope = true) (hf : ∀ ce e, f ce e = true → SE κ X W e ev ce)
    (hg : ∀ (s : Shared) (H : Hp) (C : Addr) (cl : List (Str × Addr)) (fp : List Addr) ce e, g ce e = true → SE κ (X.blk s H scope (compEnvC scope cl C X.env) fp) W0 e ev ce)
    (h : chkCmp f g c own p src cond elt y tg iter ifs scope = true) : PS X (.Assign [.Name x py] (.ListComp y [⟨tg, iter, ifs, 0⟩] scope pos) spos) (tS κ W fx (stepS P (step P ev cf) ex wf (.asg (.pat (.name i)) (.comp own p src cond elt)))) := by
  simp only [chkCmp, Bool.and_eq_true, decide_eq_true_eq] at h
  obtain ⟨⟨⟨⟨⟨⟨⟨h1, h2⟩, h3⟩, h4⟩, h5⟩, h6⟩, h7⟩, h8⟩ := h
  have hown := ownN_snd c own
  have hl : X.env.scope.names.lookup x = some .local := by
    simp only [swapB, Bool.and_eq_true, decide_eq_true_eq] at hsw
    rw [S.sc]; exact hsw.1.1
  have key := s_setLc (P := P) (cf := cf) (pos := pos) (spos := spos) (own := ownN c own) (scope := scope) (elt := y) (ifs := ifs) (ce := elt) (cond := cond) (p := p) (W := W) (ev := ev) (wf := wf) (ex := ex) (fx := fx) S.calm S.nd (by rw [S.hN]; exact hi) hl (swap_true S2.kind S.sc hsw)
    (chkSrc_ok S hf h5 (tg := tg) (mv := false)) (by rw [S.hN, S.sc]; exact blkOk_by h3)
    (fun s H C cl fp => chkP_ok (S.blk s H scope C cl fp) h6)
    (fun s H C cl fp => by
      cases cond with
      | none => cases ifs with
        | nil => exact pts_nil
        | cons _ _ => cases h7
      | some a => cases ifs with
        | nil => cases h7
        | cons e r => cases r with
          | nil => exact pts_one (hg s H C cl fp _ _ h7).pt
          | cons _ _ => cases h7)
    (fun s H C cl fp => (hg s H C cl fp _ _ h8).pe) (set_ok h4) (by rw [hown]; exact h1) (fun j hj => by rw [hown]; simpa using List.all_eq_true.mp h2 j hj) hfx
  rw [hown] at key
  exact key
theorem s_raise {P : Prog} {ev : CE → M Tm} {ex : List CS → M Flow} {i : Nat} {x m : Str} {j : Nat} {p p2 pos pos' : Pos} (hc : X.calm = true) (tk : Takes X W) (E : ExcAt X.K X.mg x (κ.exV i)) (hg : Gl X x) (hdb : (x == ("__debug__" : Str)) = false) :
    PS X (.Raise (some (.Call (.Name x p) [.Constant (.str m) j p2] [] pos)) none pos') (tS κ W fx (stepS P ev ex wf (.raise i []))) := by
  obtain ⟨B, n, t, bm, C, F, q, g, k, s1, s2, e⟩ := E
  refine (ps_raise hc tk (pmk_own F q g k (raises_own s1 s2) hg hdb)).mono fun E σ H h => ?_
  obtain ⟨A, as, ts, tds, s, R, hf, h⟩ := h
  have h : RunSX κ A ts tds W i [] s := h
  show W (.ref C) none σ H
  rw [← e]; exact h.2 σ H as ts tds .refl R
theorem s_raise0 {P : Prog} {ev : CE → M Tm} {ex : List CS → M Flow} {i : Nat} {x : Str} {p pos pos' : Pos} (hc : X.calm = true) (tk : Takes X W) (E : ExcAt X.K X.mg x (κ.exV i)) (hg : Gl X x) (hdb : (x == ("__debug__" : Str)) = false) :
    PS X (.Raise (some (.Call (.Name x p) [] [] pos)) none pos') (tS κ W fx (stepS P ev ex wf (.raise i []))) := by
  obtain ⟨B, n, t, bm, C, F, q, g, k, s1, s2, e⟩ := E
  refine (ps_raise hc tk (pmk_own0 F q g k (raises_own s1 s2) hg hdb)).mono fun E σ H h => ?_
  obtain ⟨A, as, ts, tds, s, R, hf, h⟩ := h
  have h : RunSX κ A ts tds W i [] s := h
  show W (.ref C) none σ H
  rw [← e]; exact h.2 σ H as ts tds .refl R
theorem chkS_ok : ∀ (n : Nat) {X : Cx} {W : WX} {c : Ck} (S : SC κ cf X W c) (fx : List Nat) (cs : CS) (st : Stmt), chkS n c fx cs st = true → ∀ m, PS X st (tS κ W fx (stepS c.P (evalE c.P cf m) (execB c.P cf wf m) wf cs))
  | 0, _, _, _, _, _, _, _, h, _ => by cases h
  | n + 1, X, W, c, S, fx, cs, st, h, m => by
    have he : ∀ ce e, chkE n c ce e = true → SE κ X W e (evalE c.P cf m) ce := fun ce e h => chkE_ok n S ce e h m
    have hb : ∀ {fx : List Nat} {css : List CS} {sts : List Stmt}, chkB (chkS n c fx) css sts = true → PSs X sts (tS κ W fx (execB c.P cf wf m css)) := fun h => blk_ok (chkS_ok n S) h m
    unfold chkS at h
    split at h
    · exact s_pass
    · exact s_break
    · exact s_cont
    · simp only [Bool.and_eq_true, Bool.not_eq_true'] at h
      exact s_expr (he _ _ h.2) (swaps_no h.1)
    · exact s_ret (he _ _ h)
    · simp only [nameB, Bool.and_eq_true, decide_eq_true_eq] at h
      obtain ⟨⟨h1, h2⟩, h3⟩ := h
      exact s_retM (by rw [S.hN]; exact h1) (by rw [S.sc]; exact vis_ok h2) (okN_ok h3).1 (okN_ok h3).2
    · exact s_retN
    · simp only [Bool.and_eq_true] at h
      exact s_ite (he _ _ h.1.1) (hb h.1.2) (hb h.2)
    · rename_i i own p src cond elt x py y tg iter ifs asy scope pos spos
      simp only [Bool.and_eq_true, decide_eq_true_eq, Bool.not_eq_true', List.contains_eq_mem, decide_eq_false_iff_not] at h
      obtain ⟨⟨⟨⟨⟨h1, h2⟩, h3⟩, h4⟩, rfl⟩, h5⟩ := h
      split at h5
      · rename_i hsw
        cases m with
        | zero => exact s_fail
        | succ m => exact comp_set S (S.tops h4) h1 h3 hsw (fun ce e h => chkE_ok n S ce e h m) (fun s H C cl fp ce e h => chkE_ok n (S.blk s H _ C cl fp) ce e h m) h5
      · rename_i hsw
        have hsw : swapB c.sc x py pos scope = false := by simpa using hsw
        obtain ⟨g1, g2⟩ := loc_ok S h2
        exact s_set S.nd (by rw [S.hN]; exact h1) g1 (he _ _ h5) (swap_false (S.tops h4).kind S.sc hsw) g2 h3
    · simp only [Bool.and_eq_true, decide_eq_true_eq, Bool.not_eq_true', List.contains_eq_mem, decide_eq_false_iff_not] at h
      obtain ⟨⟨⟨⟨h1, h2⟩, h3⟩, h4⟩, h5⟩ := h
      obtain ⟨g1, g2⟩ := loc_ok S h2
      exact s_set S.nd (by rw [S.hN]; exact h1) g1 (he _ _ h5) (swaps_no h4) g2 h3
    · simp only [Bool.and_eq_true, decide_eq_true_eq, Bool.not_eq_true', List.contains_eq_mem, decide_eq_false_iff_not] at h
      obtain ⟨⟨⟨⟨⟨⟨⟨⟨⟨h1, h2⟩, h3⟩, h4⟩, h5⟩, h6⟩, h7⟩, h8⟩, h9⟩, h10⟩ := h
      cases m with
      | zero => exact s_fail
      | succ m => exact s_par S.calm S.nd (by rw [S.hN]; exact h3) (by rw [S.hN]; exact h4) h5 (by rw [S.sc]; exact h8) (by rw [S.sc]; exact h9) (chkL_ok (fun ce e h => chkE_ok n S ce e h m) h10) (par_ok S.sc (S.tops h1).kind h2) h6 h7
    · simp only [Bool.and_eq_true, decide_eq_true_eq, Bool.not_eq_true', List.contains_eq_mem, decide_eq_false_iff_not] at h
      obtain ⟨⟨⟨⟨⟨⟨⟨⟨⟨⟨⟨⟨⟨⟨h1, h2⟩, h3⟩, h4⟩, h5⟩, h6⟩, h7⟩, h8⟩, h9⟩, h10⟩, h11⟩, h12⟩, h13⟩, h14⟩, h15⟩ := h
      cases m with
      | zero => exact s_fail
      | succ m => exact s_par3 S.calm S.nd (by rw [S.hN]; exact h3) (by rw [S.hN]; exact h4) (by rw [S.hN]; exact h5) h6 h7 h8 (by rw [S.sc]; exact h12) (by rw [S.sc]; exact h13) (by rw [S.sc]; exact h14) (chkL_ok (fun ce e h => chkE_ok n S ce e h m) h15) (par_ok S.sc (S.tops h1).kind h2) h9 h10 h11
    · simp only [Bool.and_eq_true, Bool.not_eq_true'] at h
      obtain ⟨⟨⟨h1, h2⟩, h3⟩, h4⟩ := h
      exact s_setT (he _ _ h4) (chkP_ok S h1) h3 (fun j hj hm => by
        have := List.all_eq_true.mp h2 j hj
        simp only [Bool.not_eq_true', List.contains_eq_mem, decide_eq_false_iff_not] at this
        exact this hm)
    · simp only [Bool.and_eq_true, Bool.not_eq_true'] at h
      obtain ⟨⟨h1, h2⟩, ⟨h3, h4⟩, h5⟩ := h
      exact s_setItem (by have := S.units; omega) (he _ _ h5) (he _ _ h3) (he _ _ h4) (setItem_ok h1) (by unfold swapsWithSole; exact swaps_no h2) rfl rfl
    · simp only [Bool.and_eq_true, Bool.not_eq_true', decide_eq_true_eq] at h
      obtain ⟨⟨⟨rfl, rfl, h1, h2⟩, h3⟩, h4, h5⟩ := h
      exact s_slasI h1 h2 (he _ _ h5) (he _ _ h4) (by unfold swapsWithSole; exact swaps_no h3) rfl
    · simp only [Bool.and_eq_true, decide_eq_true_eq] at h
      obtain ⟨⟨rfl, h1⟩, h2, h3⟩ := h
      exact s_fld S.hK (he _ _ h3) (he _ _ h2) (S.cls _ h1) swaps_attr
    · simp only [Bool.and_eq_true, decide_eq_true_eq] at h
      obtain ⟨⟨⟨rfl, h1⟩, h4⟩, h2, h3⟩ := h
      exact s_augF (augB_ok h4) S.hK (he _ _ h3) (he _ _ h2) (S.cls _ h1)
    · simp only [Bool.and_eq_true, decide_eq_true_eq, Bool.not_eq_true'] at h
      obtain ⟨⟨h1, h2⟩, h3⟩ := h
      exact s_raise0 S.calm S.tk (S.exc _ _ h1) (gl_ok S.sc h2) h3
    · simp only [Bool.and_eq_true, decide_eq_true_eq, Bool.not_eq_true'] at h
      obtain ⟨⟨h1, h2⟩, h3⟩ := h
      exact s_raise S.calm S.tk (S.exc _ _ h1) (gl_ok S.sc h2) h3
    · simp only [Bool.and_eq_true, decide_eq_true_eq, Bool.not_eq_true'] at h
      obtain ⟨⟨⟨⟨⟨⟨h1, h2⟩, h3⟩, h4⟩, h5⟩, h6⟩, h7⟩ := h
      exact s_try S h1 rfl h2 h3 (gl_ok S.sc h4) h5 (fun s => by
        cases m with
        | zero => exact .inl rfl
        | succ m => exact .inr rfl) (fun S' => blk_ok (chkS_ok n S') h6 m) fun a pn => by
        cases m with
        | zero => exact ss_fail
        | succ m => exact chkB_ok (f := chkH c fx) (fun cs st h => chkH_ok S h m) h7
    · simp only [Bool.and_eq_true, decide_eq_true_eq, Bool.not_eq_true'] at h
      obtain ⟨⟨⟨⟨⟨⟨⟨⟨⟨h1, h2⟩, h3⟩, h4⟩, h5⟩, h6⟩, h7⟩, h8⟩, h9⟩, h10⟩ := h
      exact s_tryAs S h1 rfl h2 h3 (gl_ok S.sc h4) h5 h7 h8 h9 h10 (fun s => by
        cases m with
        | zero => exact .inl rfl
        | succ m => exact .inr rfl) (fun ec ps s hs => ret_run (fun m => xw_run hs n _ _ h8 m) m) (fun S' => blk_ok (chkS_ok n S') h6 m)
    · simp only [Bool.and_eq_true] at h
      obtain ⟨⟨⟨⟨⟨h1, h2⟩, h3⟩, h4⟩, h5⟩, h6⟩ := h
      exact s_for S.calm (S.tops h1).own (chkSrc_ok S he h3) (chkP_ok S h4) (hb h6) (fun j hj hm => by
        have := List.all_eq_true.mp h5 j hj
        simp only [Bool.not_eq_true', List.contains_eq_mem, decide_eq_false_iff_not] at this
        exact this hm) (set_ok h2)
    · simp only [Bool.and_eq_true] at h
      exact s_while (S.tops h.1.1).own (he _ _ h.1.2) (hb h.2)
    · simp only [Bool.and_eq_true, decide_eq_true_eq, Bool.not_eq_true', List.contains_eq_mem, decide_eq_false_iff_not] at h
      obtain ⟨⟨⟨⟨h1, h2⟩, h3⟩, rfl⟩, h5⟩ := h
      obtain ⟨g1, g2⟩ := loc_ok S h2
      exact s_augN S.nd (by rw [S.hN]; exact h1) g1 (he _ _ h5) g2 h3
    · cases h
end
end VS
/-! From the checker to the law. -/
namespace VS
open PySem L2 PySem.Spec PyProof.Rows
structure DefI where
  x : Str
  qual : Str
  st : Stmt
  N : List Str
  ps : List Str
  g : Bool := true
/-- the names that stand in the module -/
def gN (ds : List DefI) : List (Option Str) := ds.map fun d => if d.g then some d.x else none
/-- the classes' names, the fields' names -/
structure ClI where
  cl : List Str := []
  at_ : List Str := []
def scB (d : DefI) : Bool := decide ((defScope d.st).kind = .function) && !(defScope d.st).isCoroutine && !(defScope d.st).isGenerator && decide d.N.Nodup && decide (d.N.take d.ps.length = d.ps) &&
  d.ps.all (fun x => decide ((defScope d.st).names.lookup x = some .local) || decide ((defScope d.st).names.lookup x = some .cell)) && (defScope d.st).names.all (fun y => decide (y.2 ≠ .free))
theorem scB_ok {d : DefI} (h : scB d = true) : FnScope d.N d.ps (defScope d.st) := by
  simp only [scB, Bool.and_eq_true, decide_eq_true_eq, Bool.not_eq_true', List.all_eq_true, Bool.or_eq_true] at h
  obtain ⟨⟨⟨⟨⟨⟨h1, h2⟩, h3⟩, h4⟩, h5⟩, h6⟩, h7⟩ := h
  exact ⟨h1, h2, h3, h4, h5, h6, h7⟩
def chkD (m : Nat) (P : Prog) (fnN : List (Option Str)) (ci : ClI) (ex : List (Option Str)) (hd : HdI) (d : DefI) (fd : FD) : Bool :=
  decide (fd.np = d.ps.length) && decide (fd.fixed.length = fd.np) && decide (fd.ns = d.N.length) && scB d && chkB (chkS m ⟨P, d.N, defScope d.st, fnN, true, ci.cl, ci.at_, ex, hd⟩ (fxOf fd.fixed 0)) fd.body (defBody d.st)
def chkDs (m : Nat) (P : Prog) (fnN : List (Option Str)) (ci : ClI) (ex : List (Option Str)) (hd : HdI) : List DefI → List FD → Bool
  | [], [] => true
  | d :: ds, f :: fs => chkD m P fnN ci ex hd d f && chkDs m P fnN ci ex hd ds fs
  | _, _ => false
theorem chkDs_at {m : Nat} {P : Prog} {fnN : List (Option Str)} {ci : ClI} {ex : List (Option Str)} {hd : HdI} : ∀ {ds : List DefI} {fs : List FD}, chkDs m P fnN ci ex hd ds fs = true → ∀ {i : Nat} {d : DefI}, ds[i]? = some d → ∃ fd, fs[i]? = some fd ∧ chkD m P fnN ci ex hd d fd = true
  | d :: ds, f :: fs, h, 0, e, he => by
    simp only [chkDs, Bool.and_eq_true] at h
    cases he
    exact ⟨f, rfl, h.1⟩
  | d :: ds, f :: fs, h, i + 1, e, he => by
    simp only [chkDs, Bool.and_eq_true] at h
    exact chkDs_at h.2 (by simpa using he)
  | [], [], _, i, e, he => by simp at he
  | [], _ :: _, h, _, _, _ => by cases h
  | _ :: _, [], h, _, _, _ => by cases h
abbrev bltL : List Str := ["len", "abs", "int", "str", "max", "min", "sum", "any", "all", "divmod", "list", "tuple", "isinstance", "range", "bool", "enumerate", "zip", "set", "sorted"]
/-- what the module has written; fa: where its defs stand -/
structure Md (κ : Kit) (mg : Str → Option Value) (w : World) (P : Prog) (ds : List DefI) (ci : ClI) (ex : List (Option Str)) (hd : HdI) (fa : Nat → Addr) : Prop where
  scal : ∀ x d, P.glob x = some d → scalD d = true → ∃ v u, mg x = some u ∧ RelV v u ∧ Scal d v
  dict : ∀ x ks dd, P.glob x = some (.dK .wrt ks dd) → ∃ a, mg x = some (.ref a) ∧ KD κ.K w a ks dd
  blt : ∀ x, x ∈ bltL → mg x = none
  fns : ∀ i d, ds[i]? = some d → ∃ fdat, Fun κ.K d.x d.qual d.st (fa i) fdat ∧ (d.g = true → mg d.x = some (.ref (fa i))) ∧ Binds κ.K fdat d.ps []
  cls : ∀ f, ci.at_.contains f = true → ∀ n, Cls κ.K (κ.T n) ∧ NoAttr κ.K (κ.T n) f
  mth : ∀ (c : Nat) (ms : List (Str × Nat)) (m : Str) (j : Nat), P.meths[c]? = some ms → ms.lookup m = some j → m ≠ Str.ofString "__init__" → Cls κ.K (κ.T c) ∧ Meth κ.K (κ.T c) m (fa j)
  mkc : ∀ (c : Nat) (x : Str) (ms : List (Str × Nat)) (j : Nat), ci.cl[c]? = some x → P.meths[c]? = some ms → ms.lookup (Str.ofString "__init__") = some j → Mk κ.K (κ.T c) (fa j) ∧ mg x = some (.ref (κ.T c))
  inn : ∀ (c : Nat) (ms : List (Str × Nat)) (m : Str) (j : Nat), P.meths[c]? = some ms → ms.lookup m = some j → j < ds.length
  exc : ∀ i x, ex[i]? = some (some x) → ExcAt κ.K mg x (κ.exV i)
  exm : ∀ i j, hd.hd.contains j = true → (P.excUp i).isEmpty = false → PySem.W.exmOne κ.K (κ.exV i) (κ.exV j) = some ((P.excUp i).contains j)
  isx : hd.asB = true → IsX κ κ.K mg P hd.isL
section
variable {κ : Kit} {mg : Str → Option Value} {w : World} {P : Prog} {ds : List DefI} {ci : ClI} {ex : List (Option Str)} {hdl : HdI} {fa : Nat → Addr} {Pr : Program} {base : Heap} {m wf n : Nat}
theorem lv_ok (M : Md κ mg w P ds ci ex hdl fa) (hc : chkDs m P (gN ds) ci ex hdl ds P.fns = true) : ∀ (lev i : Nat) (d : DefI) (fdat : FuncData) (fd : FD), ds[i]? = some d → Fun κ.K d.x d.qual d.st (fa i) fdat → P.fns[i]? = some fd →
    FnOk Pr w κ.K mg base (L2.CX Pr w) (2 * lev) (fa i) fdat d.ps (spF κ (callF P wf n lev) fd.np i)
  | 0, i, d, fdat, fd, hd, F, hf => by
    obtain ⟨fd', h1, h2⟩ := chkDs_at hc hd
    rw [hf] at h1; cases h1
    simp only [chkD, Bool.and_eq_true, decide_eq_true_eq] at h2
    refine ⟨fun vs H Q E h => by rw [← h2.1.1.1.1]; exact h.1, fun A outer s H args us vs Q E _ _ _ _ h => ?_⟩
    obtain ⟨_, dds, sto, as, Fz, Lk, tot, evs, fE, fT, fS, _, _, h⟩ := h
    exact h.elim
  | lev + 1, i, d, fdat, fd, hd, F, hf => by
    obtain ⟨fd', h1, h2⟩ := chkDs_at hc hd
    rw [hf] at h1; cases h1
    simp only [chkD, Bool.and_eq_true, decide_eq_true_eq] at h2
    obtain ⟨⟨⟨⟨h3, h4⟩, h5⟩, h6⟩, h7⟩ := h2
    have S := scB_ok h6
    refine fn_ok (k := 2 * lev + 1) F S hf h3 h4 h5 fun cdv A outer s H E hr => ?_
    have at_ : ∀ j d', ds[j]? = some d' → ∃ (fd' : FuncData) (fd : FD), P.fns[j]? = some fd ∧ FnOk Pr w κ.K mg base (L2.CX Pr w) (2 * lev) (fa j) fd' d'.ps (spF κ (callF P wf n lev) fd.np j) ∧ (d'.g = true → mg d'.x = some (.ref (fa j))) ∧ PySem.W.keepIn κ.K (.ref (fa j)) = true ∧ Binds κ.K fd' d'.ps [] := fun j d' e => by
      obtain ⟨fd', g1, g2⟩ := chkDs_at hc e
      obtain ⟨fdat', g3, g4, g5⟩ := M.fns j d' e
      exact ⟨fdat', fd', g1, lv_ok M hc lev j d' fdat' fd' e g3 g1, g4, g3.kp, g5⟩
    have SCx : SC κ (callF P wf n lev) (cxOf (L2.CX Pr w) Pr w κ.K mg base d.N d.qual (defScope d.st) (fa i) cdv A outer s H E) (fun c dd _ H' => E c dd H') ⟨P, d.N, defScope d.st, gN ds, true, ci.cl, ci.at_, ex, hdl⟩ := by
      refine ⟨rfl, rfl, rfl, S.nd, rfl, ?_, M.scal, M.dict, M.blt, ?_, M.cls, ?_, ?_, takes_of rfl rfl rfl rfl, (fun _ => ⟨fun _ => rfl, S.kind, passes_of rfl, rfl, rfl⟩), M.exc, M.exm, M.isx⟩
      · have := hr.un
        show (A.deeper _).units + 65 < cLine
        omega
      · intro j x hx
        unfold gN at hx
        rw [List.getElem?_map] at hx
        cases e : ds[j]? with
        | none => rw [e] at hx; cases hx
        | some d' =>
          rw [e] at hx
          simp only [Option.map_some, Option.some.injEq] at hx
          split at hx
          · rename_i hg
            cases hx
            obtain ⟨fdat', fd', g1, g2, g3, g4, g5⟩ := at_ j d' e
            exact ⟨2 * lev, fa j, fdat', d'.ps, fd', g1, g2, hr.mono (by omega), g3 hg, g4, g5⟩
          · cases hx
      · intro c ms mm j h1 h2 h3
        obtain ⟨d', e⟩ : ∃ d', ds[j]? = some d' := ⟨_, List.getElem?_eq_getElem (M.inn c ms mm j h1 h2)⟩
        obtain ⟨fdat', fd', g1, g2, g3, g4, g5⟩ := at_ j d' e
        obtain ⟨q1, q2⟩ := M.mth c ms mm j h1 h2 h3
        exact ⟨2 * lev, fa j, fdat', d'.ps, fd', g1, g2, hr.mono (by omega), q1, q2, g5⟩
      · intro c x ms j h0 h1 h2
        obtain ⟨d', e⟩ : ∃ d', ds[j]? = some d' := ⟨_, List.getElem?_eq_getElem (M.inn c ms _ j h1 h2)⟩
        obtain ⟨fdat', fd', g1, g2, g3, g4, g5⟩ := at_ j d' e
        obtain ⟨q1, q2⟩ := M.mkc c x ms j h0 h1 h2
        exact ⟨2 * lev, fa j, fdat', d'.ps, fd', g1, g2, hr, q1, q2, g5⟩
    exact blk_ok (chkS_ok m SCx) h7 n
end
def pickA : List Addr → Addr → Nat → Addr
  | [], d, _ => d
  | a :: _, _, 0 => a
  | _ :: r, d, n + 1 => pickA r d n
theorem all_nil {α : Type} {P : α → Prop} : ∀ y, y ∈ ([] : List α) → P y := fun _ h => nomatch h
theorem all_cons {α : Type} {P : α → Prop} {x : α} {l : List α} (h : P x) (t : ∀ y, y ∈ l → P y) : ∀ y, y ∈ x :: l → P y := List.forall_mem_cons.mpr ⟨h, t⟩
theorem lookup_mem {α β : Type} [BEq α] [LawfulBEq α] {x : α} {d : β} : ∀ {l : List (α × β)}, l.lookup x = some d → (x, d) ∈ l
  | (y, e) :: l, h => by
    rw [List.lookup_cons] at h
    split at h
    · rename_i hb; cases h; rw [eq_of_beq hb]; exact .head _
    · exact .tail _ (lookup_mem h)
  | [], h => by cases h
theorem scal_of {mg : Str → Option Value} {l : List (Str × D)} (h : ∀ p, p ∈ l → scalD p.2 = true → ∃ v u, mg p.1 = some u ∧ RelV v u ∧ Scal p.2 v) : ∀ x d, l.lookup x = some d → scalD d = true → ∃ v u, mg x = some u ∧ RelV v u ∧ Scal d v :=
  fun x d e => h (x, d) (lookup_mem e)
theorem dict_of {K : PySem.W.Frag} {w : World} {mg : Str → Option Value} {l : List (Str × D)} (h : ∀ p, p ∈ l → ∀ ks dd, p.2 = D.dK .wrt ks dd → ∃ a, mg p.1 = some (.ref a) ∧ KD K w a ks dd) : ∀ x ks dd, l.lookup x = some (.dK .wrt ks dd) → ∃ a, mg x = some (.ref a) ∧ KD K w a ks dd :=
  fun x ks dd e => h (x, .dK .wrt ks dd) (lookup_mem e) ks dd rfl
theorem exm_of {K : PySem.W.Frag} {i j : Addr} {b : Bool} (bP : PySem.W.subIn K (.ref j) (.type "BaseException") = some true) (iP : PySem.W.isClsIn K j = true) (tP : PySem.W.typeIn K (.ref j) = some (.type "type")) (sP : PySem.W.subIn K (.ref i) (.ref j) = some b) : PySem.W.exmOne K (.ref i) (.ref j) = some b := by
  unfold PySem.W.exmOne
  rw [if_pos (by rw [bP]; rfl)]
  show (if _ then _ else _) = _
  rw [if_pos (by rw [tP, Bool.and_eq_true]; exact ⟨iP, rfl⟩), sP]
theorem kit_of {K : PySem.W.Frag} {i j : Addr} {b : Bool} (iP : PySem.W.isClsIn K j = true) (tP : PySem.W.typeIn K (.ref j) = some (.type "type")) (sP : PySem.W.subIn K (.ref i) (.ref j) = some b) (sJ : PySem.W.subIn K (.ref j) (.ref j) = some true) : PySem.W.kitOne K (.ref i) (.ref j) = some b := by
  unfold PySem.W.kitOne
  by_cases h : i = j
  · subst h
    rw [sJ] at sP
    cases sP
    rw [if_pos (by simp)]
  · rw [if_neg (by intro q; exact h (PySem.Value.ref.inj (beq_iff_eq.mp q)))]
    show (if _ then _ else _) = _
    rw [if_pos (by rw [tP, Bool.and_eq_true]; exact ⟨iP, rfl⟩), sP]
/-- the law's promise -/
def spLaw (K : PySem.W.Frag) (ok : List Int → Prop) : Sp := fun vs H Q _ => ∃ (a : Addr) (ns : List Int), vs = [.ref a] ∧ SqL K H a (ns.map V.int) ∧ ok ns ∧ ∀ H', Q (.bl true) H'
theorem rps_ints {K : PySem.W.Frag} {g : Gh} {H : Hp} : ∀ ns : List Int, Rps K g H (ns.map D.int) (ns.map V.int) fun _ => 0
  | [] => .nil fun _ => rfl
  | n :: ns => .cons (f1 := fun _ => 0) (f2 := fun _ => 0) (.int fun _ => rfl) (rps_ints ns) fun _ => rfl
/-- where the core's meaning says True, so does the law -/
theorem law_sp {κ : Kit} {P : Prog} {wf n lev i : Nat} {ok : List Int → Prop} {vs : List V} {H : Hp} {Q : VK} {E : XK}
    (hL : ∀ ns, ok ns → ∃ o s', callF P wf n lev i [.lst .wrt (ns.map D.int)] ⟨[], []⟩ = .ok (.bl true, [o]) s') (h : spLaw κ.K ok vs H Q E) : spF κ (callF P wf n lev) 1 i vs H Q E := by
  obtain ⟨a, ns, rfl, hS, hok, hQ⟩ := h
  obtain ⟨o, s', e⟩ := hL ns hok
  refine ⟨rfl, [.lst .wrt (ns.map D.int)], [], [], H, fun _ => none, fun _ => 0, [], fun _ => 0, fun _ => 0, fun _ => 0,
    ⟨fun i d e => by simp at e, rfl, .nil fun _ => rfl, .cons (f1 := fun _ => 0) (f2 := fun _ => 0) (.wrt hS (rps_ints ns) fun _ => rfl) (.nil fun _ => rfl) fun _ => rfl, .nil fun _ => rfl, fun _ => rfl⟩,
    ⟨fun _ _ h => h, fun _ _ h => h, fun _ _ h => (nomatch h), List.prefix_refl _, fun _ => Nat.zero_le _, fun b h => (h rfl).elim, fun b h => (h rfl).elim, fun _ _ h _ => h, fun b o h => Or.inl h⟩, ?_⟩
  rw [e]
  refine ⟨rfl, fun v H' as' R => ?_⟩
  have := Rel.vw R
  cases this
  exact hQ H'
/-- what k_head leaves -/
theorem walkV {l : PySem.W.OpenLaw} {q : Program} {loose : List Str} {XP : (Str → Option Value) → Heap → Prop} {YP : World → Heap → Prop} {d : DefRec} {K : Params → PySem.W.Frag} {P : Prog} {ds : List DefI} {ci : ClI} {ex : List (Option Str)} {hdl : HdI} {m wf n lev i : Nat} {dl : DefI} {fd : FD}
    (hn : l.most = some 63) (hdf : d.params.defaults = []) (hr : Room (2 * lev) callerA) (hY : ∀ (w : World) (h : Heap), YP w h → (K w.params).In h)
    (hg : dl.g = true) (hc : chkDs m P (gN ds) ci ex hdl ds P.fns = true) (hi : ds[i]? = some dl) (hfd : P.fns[i]? = some fd) (hps : dl.ps = ([("_law_script" : Str)] : List Str)) (hbd : ∀ f fdat K, Fun K dl.x dl.qual dl.st f fdat → ∀ (s : Shared) (u : Value), BindsTo s fdat ⟨[u], []⟩ [(("_law_script" : Str), u)]) (hx : dl.x = d.name)
    (hL : ∀ ns : List Int, ns.length ≤ 63 → (∀ z ∈ ns, Builtin.Int.intBits z ≤ 1048576) → ∃ o s', callF P wf n lev i [.lst .wrt (ns.map D.int)] ⟨[], []⟩ = .ok (.bl true, [o]) s')
    (F : ∀ (w : World) (mg : Str → Option Value) (h : Heap), (K w.params).In h → h.Ns mainGlobals mg → ∃ (κ : Kit) (fa : Nat → Addr), κ.K = K w.params ∧ Md κ mg w P ds ci ex hdl fa) :
    PySem.W.WalkO q loose XP YP l.row.toRowW d [] (fun f vs => PySem.call f vs) :=
  walk_ofB (n := 63) (k := 2 * lev) (x := "_law_script") (CX := fun w => L2.CX l.prog w) (sp := fun w => spLaw (K w.params) fun ns => ns.length ≤ 63 ∧ ∀ z ∈ ns, Builtin.Int.intBits z ≤ 1048576) hn (by decide) hdf hr hY
    (fun w mg fa h KX G hmg => by
      obtain ⟨κ, fa', eK, M⟩ := F w mg h KX G
      obtain ⟨fdat, F1, hm, b⟩ := M.fns i dl hi
      have e : fa' i = fa := by
        have hm := hm hg
        rw [hx] at hm
        rw [hm] at hmg
        cases hmg; rfl
      subst e
      refine ⟨fdat, fun s v => ?_, fun base hb hN => ?_⟩
      · exact hbd _ _ _ F1 s v
      · rw [← eK]
        have L := lv_ok (Pr := l.prog) (base := base) (wf := wf) (n := n) M hc lev i dl fdat fd hi F1 hfd
        rw [hps] at L
        refine L.imp fun vs H Q E h => ?_
        have hnp : fd.np = 1 := by
          obtain ⟨fd', h1, h2⟩ := chkDs_at hc hi
          rw [hfd] at h1; cases h1
          simp only [chkD, Bool.and_eq_true, decide_eq_true_eq] at h2
          rw [h2.1.1.1.1, hps]; rfl
        rw [hnp]
        exact law_sp (fun ns h => hL ns h.1 h.2) h)
    (fun w H a ns hl hb _ hS => ⟨a, ns, rfl, hS, ⟨hl, hb⟩, fun _ => rfl⟩) fun w H s e s' z => by
      obtain ⟨_, _, _, _, _, _, _, _, _, _, _, _, z⟩ := z
      exact z
end VS
/-! Statements, loops, calls. -/
namespace VS
open PySem L2
section
variable {P : Prog} {cf : Nat → List D → M (D × List D)} {n wf : Nat} {s : Sx} {ev : CE → M Tm} {ex : List CS → M Flow} {env : List D} {sto : List Ob}
theorem B_exec {b : List CS} : rn (execB P cf wf (n + 1) b) s = rn (execL (stepS P (evalE P cf n) (execB P cf wf n) wf) b) s := rfl
theorem X_nil {xs : CS → M Flow} : rn (execL xs []) s = .ok .nx s := rfl
/-- behind a statement -/
def flowK (xs : CS → M Flow) (r : List CS) (s : Sx) : Flow → Out Flow
  | .nx => rn (execL xs r) s
  | .ret d => .ok (.ret d) s
  | .brk => .ok .brk s
  | .cont => .ok .cont s
theorem X_cons {xs : CS → M Flow} {c : CS} {r : List CS} : rn (execL xs (c :: r)) s = Out.bind (rn (xs c) s) fun f s1 => flowK xs r s1 f := by
  show rn ((xs c).bind fun f => match f with | .nx => execL xs r | f => (pure f : M Flow)) s = _
  rw [rn_bind]; congr 1; funext f s1; cases f <;> rfl
theorem flowK_nx {xs : CS → M Flow} {r : List CS} : flowK xs r s .nx = rn (execL xs r) s := rfl
theorem flowK_ret {xs : CS → M Flow} {r : List CS} {d : D} : flowK xs r s (.ret d) = .ok (.ret d) s := rfl
theorem flowK_brk {xs : CS → M Flow} {r : List CS} : flowK xs r s .brk = .ok .brk s := rfl
theorem flowK_cont {xs : CS → M Flow} {r : List CS} : flowK xs r s .cont = .ok .cont s := rfl
theorem S_expr {e : CE} : rn (stepS P ev ex wf (.expr e)) s = Out.bind (rn (ev e) s) fun _ s1 => .ok .nx s1 := rfl
theorem S_ite {c : CE} {a b : List CS} : rn (stepS P ev ex wf (.ite c a b)) s = Out.bind (rn (evalB ev c) s) fun x s1 => ifO x (fun _ => rn (ex a) s1) fun _ => rn (ex b) s1 := by
  show rn ((evalB ev c).bind fun x => if x = true then ex a else ex b) s = _
  simp only [rn_bind, rn_ite, Bool.decide_eq_true]
theorem S_ret {e : CE} : rn (stepS P ev ex wf (.ret e)) s = Out.bind (rn (ev e) s) fun t s1 => Out.bind (rn (escape t) s1) fun d s2 => .ok (.ret d) s2 := rfl
def retO (i : Nat) (env : List D) (sto : List Ob) : Option D → Out Flow
  | some .gone => .fail
  | some d => .ok (.ret d) ⟨env.set i .gone, sto⟩
  | none => .fail
theorem S_retM {i : Nat} : rn (stepS P ev ex wf (.retM i)) ⟨env, sto⟩ = retO i env sto env[i]? := by
  show (match env[i]? with | some .gone => (Out.fail : Out Flow) | some d => .ok (.ret d) ⟨env.set i .gone, sto⟩ | none => .fail) = _
  cases env[i]? with
  | none => rfl
  | some d => cases d <;> rfl
theorem retO_int {i : Nat} {x : Int} : retO i env sto (some (.int x)) = .ok (.ret (.int x)) ⟨env.set i .gone, sto⟩ := rfl
theorem retO_bl {i : Nat} {x : Bool} : retO i env sto (some (.bl x)) = .ok (.ret (.bl x)) ⟨env.set i .gone, sto⟩ := rfl
theorem retO_str {i : Nat} {x : Str} : retO i env sto (some (.str x)) = .ok (.ret (.str x)) ⟨env.set i .gone, sto⟩ := rfl
theorem retO_non {i : Nat} : retO i env sto (some .non) = .ok (.ret .non) ⟨env.set i .gone, sto⟩ := rfl
theorem retO_lst {i : Nat} {o : Fl} {x : List D} : retO i env sto (some (.lst o x)) = .ok (.ret (.lst o x)) ⟨env.set i .gone, sto⟩ := rfl
theorem retO_tup {i : Nat} {x : List D} : retO i env sto (some (.tup x)) = .ok (.ret (.tup x)) ⟨env.set i .gone, sto⟩ := rfl
theorem retO_dK {i : Nat} {o : Fl} {k : List Key} {x : List D} : retO i env sto (some (.dK o k x)) = .ok (.ret (.dK o k x)) ⟨env.set i .gone, sto⟩ := rfl
theorem retO_dT {i : Nat} {o : Fl} {k : List (List Key)} {x : List D} : retO i env sto (some (.dT o k x)) = .ok (.ret (.dT o k x)) ⟨env.set i .gone, sto⟩ := rfl
theorem retO_obj {i m : Nat} : retO i env sto (some (.obj m)) = .ok (.ret (.obj m)) ⟨env.set i .gone, sto⟩ := rfl
theorem S_retN : rn (stepS P ev ex wf .retN) s = .ok (.ret .non) s := rfl
theorem S_brk : rn (stepS P ev ex wf .brk) s = .ok .brk s := rfl
theorem S_cont : rn (stepS P ev ex wf .cont) s = .ok .cont s := rfl
theorem S_pass : rn (stepS P ev ex wf .pass) s = .ok .nx s := rfl
theorem S_set {p : Pat} {e : CE} : rn (stepS P ev ex wf (.asg (.pat p) e)) s = Out.bind (rn (ev e) s) fun t s1 => Out.bind (rn (escape t) s1) fun d s2 => Out.bind (rn (bindP p d) s2) fun _ s3 => .ok .nx s3 := rfl
theorem bindP_name {i : Nat} {d : D} : rn (bindP (.name i) d) ⟨env, sto⟩ = ifO (decide (i < env.length)) (fun _ => .ok () ⟨env.set i d, sto⟩) fun _ => .fail := by
  show (if i < env.length then (Out.ok () ⟨env.set i d, sto⟩ : Out Unit) else .fail) = _
  by_cases h : i < env.length <;> simp [h, ifO]
theorem bindP_tup {ps : List Pat} {ds : List D} : rn (bindP (.tup ps) (.tup ds)) s = ifO (decide (ps.length = ds.length)) (fun _ => rn (bindPs ps ds) s) fun _ => .fail := by
  show rn (((need (decide (ps.length = ds.length))).bind fun _ => bindPs ps ds)) s = _
  simp only [rn_bind, rn_need, bind_ifO, bind_ok, bind_fail]
theorem bindPs_nil {ds : List D} : rn (bindPs [] ds) s = .ok () s := by cases ds <;> rfl
theorem bindPs_cons {p : Pat} {ps : List Pat} {d : D} {ds : List D} : rn (bindPs (p :: ps) (d :: ds)) s = Out.bind (rn (bindP p d) s) fun _ s1 => rn (bindPs ps ds) s1 := rfl
theorem S_setItem {a i e : CE} : rn (stepS P ev ex wf (.asg (.sub a i) e)) s = Out.bind (rn (ev e) s) fun te s1 => Out.bind (rn (stays te [a, i]) s1) fun _ s2 => Out.bind (rn (ev a) s2) fun ta s3 => Out.bind (rn (stays ta [i]) s3) fun _ s4 =>
    Out.bind (rn (ev i) s4) fun ti s5 => Out.bind (rn (setItemL ti ta te) s5) fun _ s6 => .ok .nx s6 := by
  show rn ((evalL ev [e, a, i]).bind fun ts => match ts with | [te, ta, ti] => (setItemL ti ta te).bind fun _ => (pure .nx : M Flow) | _ => fail) s = _
  simp only [rn_bind, L_cons, bind_assoc, bind_ok, stays_nil, L_nil, rn_pure]
def setV (p : Path) (x : D) (s : Sx) (a i : D) : Out Unit := match a, i with
  | .lst .own ds, .int k => onD (ixN ds.length k) fun j => onD (s.putP p (.lst .own (ds.set j x))) fun s' => .ok () s'
  | .dK .own ks ds, k => onD (keyD k) fun k => ifO (decide (ks.length < sizeLine)) (fun _ => ifO (decide ks.Nodup) (fun _ => onD (s.putP p (.dK .own (putKey ks ds k x).1 (putKey ks ds k x).2)) fun s' => .ok () s') fun _ => .fail) fun _ => .fail
  | _, _ => .fail
theorem setV_dk {p : Path} {x : D} {ks : List Key} {ds : List D} {k : D} : setV p x s (.dK .own ks ds) k = onD (keyD k) fun k => ifO (decide (ks.length < sizeLine)) (fun _ => ifO (decide ks.Nodup) (fun _ => onD (s.putP p (.dK .own (putKey ks ds k x).1 (putKey ks ds k x).2)) fun s' => .ok () s') fun _ => .fail) fun _ => .fail := rfl
theorem setV_li {p : Path} {x : D} {ds : List D} {k : Int} : setV p x s (.lst .own ds) (.int k) = onD (ixN ds.length k) fun j => onD (s.putP p (.lst .own (ds.set j x))) fun s' => .ok () s' := rfl
theorem rn_setItemL {ti te : Tm} {p : Path} : rn (setItemL ti (.at p) te) s = Out.bind (rn (deref ti) s) fun i s1 => Out.bind (rn (escape te) s1) fun x s2 => Out.bind (rn (deref (.at p)) s2) fun a s3 => setV p x s3 a i := by
  show rn ((deref ti).bind fun i => (escape te).bind fun x => (deref (.at p)).bind fun a => match a, i with
    | .lst .own ds, .int k => (opt (ixN ds.length k)).bind fun j => putAt p (.lst .own (ds.set j x))
    | .dK .own ks ds, k => (opt (keyD k)).bind fun k => (need (decide (ks.length < sizeLine))).bind fun _ => (need (decide ks.Nodup)).bind fun _ => putAt p (.dK .own (putKey ks ds k x).1 (putKey ks ds k x).2)
    | _, _ => (fail : M Unit)) s = _
  rw [rn_bind]; congr 1; funext i s1
  rw [rn_bind]; congr 1; funext x s2
  rw [rn_bind]; congr 1; funext a s3
  cases a with
  | lst o ds => cases o <;> first
    | rfl
    | (cases i <;> first | rfl | (simp only [rn_bind, rn_opt, bind_onD, bind_ok, rn_putAt, setV]; done))
  | dK o ks ds => cases o <;> first
    | rfl
    | (simp only [rn_bind, rn_opt, rn_need, bind_onD, bind_ifO, bind_ok, bind_fail, rn_putAt, setV]; done)
  | _ => rfl
theorem S_setSlice {a e : CE} {l h : Int} : rn (stepS P ev ex wf (.asg (.slice a (some (.lit (.int l))) (some (.lit (.int h)))) e)) s = Out.bind (rn (ev e) s) fun te s1 => Out.bind (rn (stays te [a]) s1) fun _ s2 => Out.bind (rn (ev a) s2) fun ta s3 => Out.bind (rn (setSlice ta te l h) s3) fun _ s6 => .ok .nx s6 := by
  show rn ((evalL ev [e, a]).bind fun ts => match ts with | [te, ta] => (setSlice ta te l h).bind fun _ => (pure .nx : M Flow) | _ => fail) s = _
  simp only [rn_bind, L_cons, bind_assoc, bind_ok, stays_nil, L_nil, rn_pure]
theorem rn_setSlice {ta : Tm} {ys : List D} {l h : Int} : rn (setSlice ta (.val (.lst .own ys)) l h) s = Out.bind (rn (ownList ta) s) fun q s1 => ifO (decide (0 ≤ l ∧ l ≤ h)) (fun _ => ifO (fits (q.2.length + ys.length)) (fun _ => rn (putAt q.1 (.lst .own (q.2.take l.toNat ++ ys ++ q.2.drop h.toNat))) s1) fun _ => .fail) fun _ => .fail := by
  show rn ((ownList ta).bind fun q => (need (decide (0 ≤ l ∧ l ≤ h))).bind fun _ => (need (fits (q.2.length + ys.length))).bind fun _ => putAt q.1 (.lst .own (q.2.take l.toNat ++ ys ++ q.2.drop h.toNat))) s = _
  simp only [rn_bind, rn_need, bind_ifO, bind_ok, bind_fail]
/-! ### a def's run -/
def endV (fixed : List Bool) : Out Flow → RO
  | .ok (.ret d) s => .ok d (maskL fixed s.env) s.sto
  | .ok .nx s => .ok .non (maskL fixed s.env) s.sto
  | .ok _ _ => .fail
  | .exc c ps s => .exc c ps (maskL fixed s.env) s.sto
  | .fail => .fail
theorem call_run {k f : Nat} {fd : FD} {as : List D} {sto : List Ob} (h : P.fns[f]? = some fd) (hl : as.length = fd.np) : res (rn (callF P wf n (k + 1) f as) ⟨[], sto⟩) = endV fd.fixed (rn (execB P (callF P wf n k) wf n fd.body) ⟨as ++ List.replicate (fd.ns - fd.np) .gone, sto⟩) := by
  show res (runF P (callF P wf n k) wf n f as ⟨[], sto⟩) = _
  unfold runF
  rw [h]
  show res (if as.length = fd.np then _ else _) = _
  rw [if_pos hl]
  unfold rn
  show res (match execB P (callF P wf n k) wf n fd.body ⟨as ++ List.replicate (fd.ns - fd.np) .gone, sto⟩ with
      | .ok (.ret d) s' => .ok (d, maskL fd.fixed s'.env) s'
      | .ok .nx s' => .ok (.non, maskL fd.fixed s'.env) s'
      | .ok _ _ => .fail
      | .exc c ps s' => .exc c ps { s' with env := maskL fd.fixed s'.env }
      | .fail => .fail) = _
  cases execB P (callF P wf n k) wf n fd.body ⟨as ++ List.replicate (fd.ns - fd.np) .gone, sto⟩ with
  | ok fl s' => cases fl <;> rfl
  | exc c ps s' => rfl
  | fail => rfl
/-- what holds behind a call -/
def RW (o : RO) (Q : D → List D → List Ob → Prop) (E : Nat → List D → List D → List Ob → Prop) : Prop := match o with
  | .ok r outs sto => Q r outs sto
  | .exc c ps outs sto => E c ps outs sto
  | .fail => False
def endQ (fixed : List Bool) (Q : D → List D → List Ob → Prop) (f : Flow) (s : Sx) : Prop := match f with
  | .ret d => Q d (maskL fixed s.env) s.sto
  | .nx => Q .non (maskL fixed s.env) s.sto
  | _ => False
theorem endQ_ret {fixed : List Bool} {Q : D → List D → List Ob → Prop} {d : D} : endQ fixed Q (.ret d) ⟨env, sto⟩ = Q d (maskL fixed env) sto := rfl
theorem endQ_nx {fixed : List Bool} {Q : D → List D → List Ob → Prop} : endQ fixed Q .nx ⟨env, sto⟩ = Q .non (maskL fixed env) sto := rfl
theorem RW_end {fixed : List Bool} {o : Out Flow} {Q : D → List D → List Ob → Prop} {E : Nat → List D → List D → List Ob → Prop} : RW (endV fixed o) Q E = W o (endQ fixed Q) (fun c ps s => E c ps (maskL fixed s.env) s.sto) := by
  unfold W
  cases o with
  | ok f s => cases f <;> rfl
  | exc c ps s => rfl
  | fail => rfl
abbrev noXR : Nat → List D → List D → List Ob → Prop := fun _ _ _ _ => False
/-- a def called with these things: what holds behind it -/
@[irreducible] def FC (P : Prog) (wf n k f : Nat) (as : List D) (sto : List Ob) (Q : D → List D → List Ob → Prop) (E : Nat → List D → List D → List Ob → Prop) : Prop := RW (res (rn (callF P wf n k f as) ⟨[], sto⟩)) Q E
theorem FC_run {k f : Nat} {fd : FD} {as : List D} {sto : List Ob} {Q : D → List D → List Ob → Prop} {E : Nat → List D → List D → List Ob → Prop} (h : P.fns[f]? = some fd) (hl : as.length = fd.np)
    (hb : W (rn (execB P (callF P wf n k) wf n fd.body) ⟨as ++ List.replicate (fd.ns - fd.np) .gone, sto⟩) (endQ fd.fixed Q) (fun c ps s => E c ps (maskL fd.fixed s.env) s.sto)) : FC P wf n (k + 1) f as sto Q E := by
  unfold FC
  rw [call_run h hl, RW_end]; exact hb
theorem FC_mono {k f : Nat} {as : List D} {sto : List Ob} {Q Q' : D → List D → List Ob → Prop} {E E' : Nat → List D → List D → List Ob → Prop} (h : FC P wf n k f as sto Q E) (hq : ∀ r o s, Q r o s → Q' r o s) (he : ∀ c ps o s, E c ps o s → E' c ps o s) : FC P wf n k f as sto Q' E' := by
  unfold FC at h ⊢
  cases e : res (rn (callF P wf n k f as) ⟨[], sto⟩) with
  | ok r o s => rw [e] at h; exact hq _ _ _ h
  | exc c ps o s => rw [e] at h; exact he _ _ _ _ h
  | fail => rw [e] at h; exact h
theorem backR_exc {n : Nat} {ls : List (Option Nat)} {c : Nat} {ps outs : List D} {sto' : List Ob} : backR n ls s (.exc c ps outs sto') = ifO (decide (outs.length = n)) (fun _ => .exc c ps (back ls outs ⟨s.env, sto'⟩)) fun _ => .fail := rfl
/-- a call, by what is known of it -/
theorem W_call {k f m : Nat} {as : List D} {ls : List (Option Nat)} {Q : Tm → Sx → Prop} {E : Nat → List D → Sx → Prop} {Q' : D → List D → List Ob → Prop} (h : FC P wf n k f as sto Q' noXR)
    (hk : ∀ r outs sto', Q' r outs sto' → outs.length = m ∧ Q (.val r) (back ls outs ⟨env, sto'⟩)) : W (backR m ls ⟨env, sto⟩ (res (rn (callF P wf n k f as) ⟨[], sto⟩))) Q E := by
  unfold FC at h
  cases e : res (rn (callF P wf n k f as) ⟨[], sto⟩) with
  | ok r o s =>
    rw [e] at h
    obtain ⟨h1, h2⟩ := hk _ _ _ h
    rw [backR_ok, decide_eq_true h1, ifO_t, W_ok]; exact h2
  | exc c ps o s => rw [e] at h; exact h.elim
  | fail => rw [e] at h; exact h.elim
/-- .. that may raise -/
theorem W_callX {k f m : Nat} {as : List D} {ls : List (Option Nat)} {Q : Tm → Sx → Prop} {E : Nat → List D → Sx → Prop} {Q' : D → List D → List Ob → Prop} {E' : Nat → List D → List D → List Ob → Prop} (h : FC P wf n k f as sto Q' E')
    (hk : ∀ r outs sto', Q' r outs sto' → outs.length = m ∧ Q (.val r) (back ls outs ⟨env, sto'⟩)) (he : ∀ c ps outs sto', E' c ps outs sto' → outs.length = m ∧ E c ps (back ls outs ⟨env, sto'⟩)) : W (backR m ls ⟨env, sto⟩ (res (rn (callF P wf n k f as) ⟨[], sto⟩))) Q E := by
  unfold FC at h
  cases e : res (rn (callF P wf n k f as) ⟨[], sto⟩) with
  | ok r o s =>
    rw [e] at h
    obtain ⟨h1, h2⟩ := hk _ _ _ h
    rw [backR_ok, decide_eq_true h1, ifO_t, W_ok]; exact h2
  | exc c ps o s =>
    rw [e] at h
    obtain ⟨h1, h2⟩ := he _ _ _ _ h
    rw [backR_exc, decide_eq_true h1, ifO_t, W_exc]; exact h2
  | fail => rw [e] at h; exact h.elim
/-! ### loops -/
def forE (ex : List CS → M Flow) (p : Pat) (body : List CS) (ds : List D) (s : Sx) : Flow → Out Flow
  | .nx => rn (forLoop ex p body ds) s
  | .cont => rn (forLoop ex p body ds) s
  | .brk => .ok .nx s
  | .ret r => .ok (.ret r) s
theorem for_cons {p : Pat} {body : List CS} {d : D} {ds : List D} : rn (forLoop ex p body (d :: ds)) s = Out.bind (rn (bindP p d) s) fun _ s1 => Out.bind (rn (ex body) s1) fun f s2 => forE ex p body ds s2 f := by
  show rn ((bindP p d).bind fun _ => (ex body).bind fun f => match f with | .nx => forLoop ex p body ds | .cont => forLoop ex p body ds | .brk => pure .nx | .ret r => (pure (.ret r) : M Flow)) s = _
  rw [rn_bind]; congr 1; funext _ s1
  rw [rn_bind]; congr 1; funext f s2; cases f <;> rfl
/-- a loop by what holds ahead of each turn, with the things that are left -/
theorem W_for {p : Pat} {body : List CS} {Q : Flow → Sx → Prop} {E : Nat → List D → Sx → Prop} (I : List D → Sx → Prop)
    (step : ∀ d ds s, I (d :: ds) s → W (rn (bindP p d) s) (fun _ s1 => W (rn (ex body) s1) (fun f s2 => match f with | .nx => I ds s2 | .cont => I ds s2 | .brk => Q .nx s2 | .ret r => Q (.ret r) s2) E) E) (done : ∀ s, I [] s → Q .nx s) : ∀ (l : List D) (s : Sx), I l s → W (rn (forLoop ex p body l) s) Q E
  | [], s, h => by show W (.ok .nx s) Q E; rw [W_ok]; exact done s h
  | d :: ds, s, h => by
    rw [for_cons, W_bind]
    refine W_mono (step d ds s h) (fun _ s1 h1 => ?_) fun _ _ _ h => h
    rw [W_bind]
    refine W_mono h1 (fun f s2 h2 => ?_) fun _ _ _ h => h
    cases f with
    | nx => exact W_for I step done ds s2 h2
    | cont => exact W_for I step done ds s2 h2
    | brk => show W (.ok .nx s2) Q E; rw [W_ok]; exact h2
    | ret r => show W (.ok (.ret r) s2) Q E; rw [W_ok]; exact h2
def unlO {α : Type} (ls : List Nat) : Out α → Out α
  | .ok a s => onD (unlock ls s) fun s' => .ok a s'
  | .exc c es s => onD (unlock ls s) fun s' => .exc c es s'
  | .fail => .fail
theorem rn_unlocked {α : Type} {ls : List Nat} {m : M α} : rn (unlocked ls m) s = unlO ls (rn m s) := by
  cases hm : m s with
  | ok a s' => cases hu : unlock ls s' <;> simp [unlocked, rn, unlO, hm, hu, onD]
  | exc c es s' => cases hu : unlock ls s' <;> simp [unlocked, rn, unlO, hm, hu, onD]
  | fail => simp [unlocked, rn, unlO, hm]
theorem W_unl {α : Type} {ls : List Nat} {o : Out α} {Q : α → Sx → Prop} {E : Nat → List D → Sx → Prop} : W (unlO ls o) Q E ↔ W o (fun a s => ∃ s', unlock ls s = some s' ∧ Q a s') (fun c ps s => ∃ s', unlock ls s = some s' ∧ E c ps s') := by
  cases o with
  | ok a s => show W (onD _ _) Q E ↔ _; cases h : unlock ls s <;> simp [onD, W, h]
  | exc c ps s => show W (onD _ _) Q E ↔ _; cases h : unlock ls s <;> simp [onD, W, h]
  | fail => show W .fail Q E ↔ _; rw [W_fail, W_fail]
theorem unlock_nil : unlock [] s = some s := rfl
def forI (ex : List CS → M Flow) (p : Pat) (src : Src) (body : List CS) (s : Sx) : Items → Out Flow
  | .ds l lk => ifO (lk.all fun j => (srcLocs src).contains j) (fun _ => unlO lk (rn (forLoop ex p body l) s)) fun _ => .fail
  | .moved _ _ _ => .fail
theorem S_for {p : Pat} {src : Src} {body : List CS} : rn (stepS P ev ex wf (.for p src body)) s = Out.bind (rn (srcItems ev (moves p body) src) s) fun it s1 => forI ex p src body s1 it := by
  show rn ((srcItems ev (moves p body) src).bind fun it => match it with
    | .ds l lk => (need (lk.all fun j => (srcLocs src).contains j)).bind fun _ => unlocked lk (forLoop ex p body l)
    | .moved _ _ _ => (fail : M Flow)) s = _
  rw [rn_bind]; congr 1; funext it s1
  cases it with
  | ds l lk => simp only [rn_bind, rn_need, bind_ifO, bind_ok, bind_fail, rn_unlocked]; rfl
  | moved => rfl
theorem forI_ds {p : Pat} {src : Src} {body : List CS} {l : List D} {lk : List Nat} : forI ex p src body s (.ds l lk) = ifO (lk.all fun j => (srcLocs src).contains j) (fun _ => unlO lk (rn (forLoop ex p body l) s)) fun _ => .fail := rfl
/-! comprehensions -/
def compT (ev : CE → M Tm) (elt : CE) (s : Sx) (b : Bool) : Out (Option D) := ifO b (fun _ => Out.bind (rn (ev elt) s) fun t s1 => Out.bind (rn (escape t) s1) fun e s2 => .ok (some e) s2) fun _ => .ok none s
theorem compT_t {elt : CE} : compT ev elt s true = Out.bind (rn (ev elt) s) fun t s1 => Out.bind (rn (escape t) s1) fun e s2 => .ok (some e) s2 := rfl
theorem compT_f {elt : CE} : compT ev elt s false = .ok none s := rfl
def condO (ev : CE → M Tm) (s : Sx) : Option CE → Out Bool
  | none => .ok true s
  | some c => rn (evalB ev c) s
theorem condO_none : condO ev s none = .ok true s := rfl
theorem condO_some {c : CE} : condO ev s (some c) = rn (evalB ev c) s := rfl
theorem comp_cons {own : List Nat} {p : Pat} {cond : Option CE} {elt : CE} {d : D} {ds acc : List D} : rn (compLoop ev own p cond elt (d :: ds) acc) ⟨env, sto⟩ = Out.bind (rn (bindP p d) ⟨clr own env, sto⟩) fun _ s1 => Out.bind (condO ev s1 cond) fun b s2 => Out.bind (compT ev elt s2 b) fun o s3 => match o with
    | some e => ifO (decide (acc.length < sizeLine)) (fun _ => rn (compLoop ev own p cond elt ds (acc ++ [e])) s3) fun _ => .fail
    | none => rn (compLoop ev own p cond elt ds acc) s3 := by
  show rn ((clear own).bind fun _ => (bindP p d).bind fun _ => (match cond with | some c => evalB ev c | none => (pure true : M Bool)).bind fun b => if b = true then (ev elt).bind fun t => (escape t).bind fun e => (need (decide (acc.length < sizeLine))).bind fun _ => compLoop ev own p cond elt ds (acc ++ [e]) else compLoop ev own p cond elt ds acc) ⟨env, sto⟩ = _
  rw [rn_bind]
  show Out.bind (.ok () ⟨clr own env, sto⟩) _ = _
  rw [bind_ok, rn_bind]; congr 1; funext _ s1
  rw [rn_bind]
  have e1 : rn (match cond with | some c => evalB ev c | none => (pure true : M Bool)) s1 = condO ev s1 cond := by cases cond <;> rfl
  rw [e1]; congr 1; funext b s2
  cases b with
  | true => simp only [rn_bind, rn_ite, compT, ifO_t, bind_assoc, bind_ok, rn_need, bind_ifO, bind_fail, decide_true]
  | false => rfl
theorem W_comp {own : List Nat} {p : Pat} {cond : Option CE} {elt : CE} {Q : List D → Sx → Prop} (I : List D → List D → Sx → Prop)
    (step : ∀ d ds acc env sto, I (d :: ds) acc ⟨env, sto⟩ → W (rn (bindP p d) ⟨clr own env, sto⟩) (fun _ s1 => W (condO ev s1 cond) (fun b s2 => W (compT ev elt s2 b) (fun o s3 => match o with | some e => acc.length < sizeLine ∧ I ds (acc ++ [e]) s3 | none => I ds acc s3) noX) noX) noX)
    (done : ∀ acc s, I [] acc s → Q acc s) : ∀ (l acc : List D) (s : Sx), I l acc s → W (rn (compLoop ev own p cond elt l acc) s) Q noX
  | [], acc, s, h => by show W (.ok acc s) Q noX; rw [W_ok]; exact done acc s h
  | d :: ds, acc, ⟨env, sto⟩, h => by
    rw [comp_cons, W_bind]
    refine W_mono (step d ds acc env sto h) (fun _ s1 h1 => ?_) fun _ _ _ h => h
    rw [W_bind]
    refine W_mono h1 (fun b s2 h2 => ?_) fun _ _ _ h => h
    rw [W_bind]
    refine W_mono h2 (fun o s3 h3 => ?_) fun _ _ _ h => h
    cases o with
    | some e =>
      show W (ifO _ _ _) Q noX
      rw [decide_eq_true h3.1]
      exact W_comp I step done ds _ s3 h3.2
    | none => exact W_comp I step done ds _ s3 h3
def inB (own : List Nat) (env : List D) : Out (List D) → Out (List D)
  | .ok a s => .ok a ⟨backE own env s.env, s.sto⟩
  | .exc c ps s => .exc c ps s
  | .fail => .fail
def nrO {α : Type} : Out α → Out α
  | .ok a s => .ok a s
  | _ => .fail
def compI (ev : CE → M Tm) (own : List Nat) (p : Pat) (cond : Option CE) (elt : CE) (s : Sx) : Items → Out Tm
  | .ds l lk => Out.bind (nrO (unlO lk (inB own s.env (rn (compLoop ev own p cond elt l []) s)))) fun acc s1 => .ok (.val (.lst .own acc)) s1
  | .moved _ _ _ => .fail
theorem E_comp {own : List Nat} {p : Pat} {src : Src} {cond : Option CE} {elt : CE} : rn (evalE P cf (n + 1) (.comp own p src cond elt)) s = Out.bind (rn (srcItems (evalE P cf n) false src) s) fun it s1 => compI (evalE P cf n) own p cond elt s1 it := by
  show rn (step P (evalE P cf n) cf (.comp own p src cond elt)) s = _
  simp only [step]
  rw [rn_bind']; congr 1; funext it s1
  cases it with
  | ds l lk =>
    simp only [rn_bind', rn_pure]
    have e1 : rn (noRaiseL (unlocked lk (inBlock own (compLoop (evalE P cf n) own p cond elt l [])))) s1 = nrO (unlO lk (inB own s1.env (rn (compLoop (evalE P cf n) own p cond elt l []) s1))) := by
      have e2 : rn (inBlock own (compLoop (evalE P cf n) own p cond elt l [])) s1 = inB own s1.env (rn (compLoop (evalE P cf n) own p cond elt l []) s1) := by
        cases h : compLoop (evalE P cf n) own p cond elt l [] s1 <;> simp [inBlock, rn, inB, h]
      rw [← e2, ← rn_unlocked]
      cases h : unlocked lk (inBlock own (compLoop (evalE P cf n) own p cond elt l [])) s1 <;> simp [noRaiseL, rn, nrO, h]
    rw [e1]; rfl
  | moved => rfl
theorem compI_ds {own : List Nat} {p : Pat} {cond : Option CE} {elt : CE} {l : List D} {lk : List Nat} : compI ev own p cond elt ⟨env, sto⟩ (.ds l lk) = Out.bind (nrO (unlO lk (inB own env (rn (compLoop ev own p cond elt l []) ⟨env, sto⟩)))) fun acc s1 => .ok (.val (.lst .own acc)) s1 := rfl
theorem W_nr {α : Type} {o : Out α} {Q : α → Sx → Prop} {E : Nat → List D → Sx → Prop} : W (nrO o) Q E = W o Q noX := by unfold W; cases o <;> rfl
theorem W_inB {own : List Nat} {o : Out (List D)} {Q : List D → Sx → Prop} {E : Nat → List D → Sx → Prop} : W (inB own env o) Q E = W o (fun a s => Q a ⟨backE own env s.env, s.sto⟩) E := by unfold W; cases o <;> rfl
/-! sources -/
theorem src_it_rn {mv : Bool} {e : CE} : rn (srcItems ev mv (.it e)) s = Out.bind (rn (ev e) s) fun t s1 => rn (kidsFor mv t) s1 := rfl
def rangeV (s : Sx) : List D → Out Items
  | [.int b] => ifO (small62 b) (fun _ => .ok (.ds (rangeL 0 b.toNat) []) s) fun _ => .fail
  | [.int a, .int b] => ifO (small62 a && small62 b) (fun _ => .ok (.ds (rangeL a (b - a).toNat) []) s) fun _ => .fail
  | [.int a, .int b, .int c] => ifO (decide (c = -1) && small62 a && small62 b) (fun _ => .ok (.ds (rangeC a c (a - b).toNat) []) s) fun _ => .fail
  | _ => .fail
theorem rangeV_1 {b : Int} : rangeV s [.int b] = ifO (small62 b) (fun _ => .ok (.ds (rangeL 0 b.toNat) []) s) fun _ => .fail := rfl
theorem rangeV_2 {a b : Int} : rangeV s [.int a, .int b] = ifO (small62 a && small62 b) (fun _ => .ok (.ds (rangeL a (b - a).toNat) []) s) fun _ => .fail := rfl
theorem src_range_rn {mv : Bool} {es : List CE} : rn (srcItems ev mv (.range es)) s = Out.bind (rn (evalL ev es) s) fun ts s1 => Out.bind (rn (derefL ts) s1) fun ds s2 => rangeV s2 ds := by
  show rn ((evalL ev es).bind fun ts => (derefL ts).bind fun ds => match ds with
    | [.int b] => (need (small62 b)).bind fun _ => (pure (.ds (rangeL 0 b.toNat) []) : M Items)
    | [.int a, .int b] => (need (small62 a && small62 b)).bind fun _ => pure (.ds (rangeL a (b - a).toNat) [])
    | [.int a, .int b, .int c] => (need (decide (c = -1) && small62 a && small62 b)).bind fun _ => pure (.ds (rangeC a c (a - b).toNat) [])
    | _ => fail) s = _
  rw [rn_bind]; congr 1; funext ts s1
  rw [rn_bind]; congr 1; funext ds s2
  unfold rangeV
  split <;> simp only [rn_bind, rn_need, bind_ifO, bind_ok, bind_fail, rn_pure, rn_fail]
end
end VS
/-! Built-ins, methods, slices. -/
namespace VS
open PySem L2
section
variable {P : Prog} {cf : Nat → List D → M (D × List D)} {n wf : Nat} {s : Sx} {ev : CE → M Tm} {ex : List CS → M Flow} {env : List D} {sto : List Ob}
/-! ### the parts of a list -/
def kidsV (p : Path) (s : Sx) : D → Out (List D)
  | .tup ds => ifO (plainL ds) (fun _ => .ok ds s) fun _ => ifO (frzOkL ds) (fun _ => onD (s.putP p (.tup (frzL ds))) fun s' => .ok (frzL ds) s') fun _ => .fail
  | .lst o ds => ifO (plainL ds) (fun _ => .ok ds s) fun _ => ifO (frzOkL ds) (fun _ => onD (s.putP p (.lst o (frzL ds))) fun s' => .ok (frzL ds) s') fun _ => .fail
  | _ => .fail
def seqO (s : Sx) : D → Out (List D)
  | .tup ds => .ok ds s
  | .lst _ ds => .ok ds s
  | _ => .fail
theorem x_kids_val {d : D} : rn (kidsOf (.val d)) s = seqO s d := by
  unfold kidsOf
  rw [rn_bind', rn_deref_val, bind_ok]
  cases d <;> rfl
theorem x_kids_at {p : Path} : rn (kidsOf (.at p)) s = Out.bind (rn (deref (.at p)) s) fun d s1 => kidsV p s1 d := by
  unfold kidsOf
  rw [rn_bind']; congr 1; funext d s1
  cases d <;> first
    | rfl
    | (simp only [rn_ite, rn_pure, rn_bind', rn_putAt, bind_onD, bind_ok, rn_fail, kidsV, Bool.decide_eq_true]; done)
theorem seqO_tup {ds : List D} : seqO s (.tup ds) = .ok ds s := rfl
theorem seqO_lst {o : Fl} {ds : List D} : seqO s (.lst o ds) = .ok ds s := rfl
theorem kidsV_tup {p : Path} {ds : List D} : kidsV p s (.tup ds) = ifO (plainL ds) (fun _ => .ok ds s) fun _ => ifO (frzOkL ds) (fun _ => onD (s.putP p (.tup (frzL ds))) fun s' => .ok (frzL ds) s') fun _ => .fail := rfl
theorem kidsV_lst {p : Path} {o : Fl} {ds : List D} : kidsV p s (.lst o ds) = ifO (plainL ds) (fun _ => .ok ds s) fun _ => ifO (frzOkL ds) (fun _ => onD (s.putP p (.lst o (frzL ds))) fun s' => .ok (frzL ds) s') fun _ => .fail := rfl
def trO (s : Sx) (t : Tm) : D → Out (List D)
  | .lst o _ => ifO (decide (o ≠ .wrt)) (fun _ => rn (kidsOf t) s) fun _ => .fail
  | _ => .fail
theorem x_kidsTr {t : Tm} : rn (kidsTr t) s = Out.bind (rn (deref t) s) fun d s1 => trO s1 t d := by
  unfold kidsTr
  rw [rn_bind']; congr 1; funext d s1
  cases d <;> first
    | rfl
    | (simp only [rn_bind', rn_need, bind_ifO, bind_ok, bind_fail, trO]; done)
theorem trO_own {t : Tm} {ds : List D} : trO s t (.lst .own ds) = rn (kidsOf t) s := rfl
theorem trO_lck {t : Tm} {ds : List D} : trO s t (.lst .lck ds) = rn (kidsOf t) s := rfl
theorem trO_frz {t : Tm} {ds : List D} : trO s t (.lst .frz ds) = rn (kidsOf t) s := rfl
/-! ### built-ins -/
def plainB : Bi → List CE → Bool
  | .list, _ => false | .tuple, _ => false | .sorted, _ => false | .set, _ => false | .range, _ => false
  | .len, [.bi .set _] => false
  | _, _ => true
theorem biT_plainB {b : Bi} {cs : List CE} (h : plainB b cs = true) : biT ev b cs = (evalL ev cs).bind fun ts => derefL ts >>= fun ds => need (ds.all noDict) >>= fun _ => opt (biD b ds) >>= fun d => (pure (.val d) : M Tm) := by
  unfold biT
  split <;> first | (simp [plainB] at h; done) | rfl
theorem x_biP {b : Bi} {es : List CE} : rn (evalE P cf (n + 1) (.bi b es)) s = ifO (plainB b es) (fun _ => Out.bind (rn (evalL (evalE P cf n) es) s) fun ts s1 => Out.bind (rn (derefL ts) s1) fun ds s2 => ifO (ds.all noDict) (fun _ => onD (biD b ds) fun d => .ok (.val d) s2) fun _ => .fail) fun _ => rnX (biT (evalE P cf n) b es) s := by
  rw [E_bi]
  cases h : plainB b es with
  | false => rfl
  | true =>
    rw [biT_plainB h, ifO_t]
    simp only [rn_bind, rn_bind', rn_need, rn_opt, bind_ifO, bind_onD, bind_ok, bind_fail, rn_pure]
def rangeE : CE → Bool
  | .bi .range _ => true
  | _ => false
theorem x_biX {b : Bi} {es : List CE} : rnX (biT ev b es) s = rn (biT ev b es) s := rfl
def kidsLO (t : Tm) (s : Sx) : D → Out (List D)
  | .str x => ifO (fits x.length) (fun _ => .ok (signsD x) s) fun _ => .fail
  | _ => rn (kidsOf t) s
theorem x_kidsLs {t : Tm} : rn (kidsLs t) s = Out.bind (rn (deref t) s) fun d s1 => kidsLO t s1 d := by
  unfold kidsLs
  rw [rn_bind']; congr 1; funext d s1
  cases d <;> first
    | rfl
    | (simp only [rn_bind', rn_need, bind_ifO, bind_ok, bind_fail, rn_pure, kidsLO]; done)
theorem kidsLO_str {t : Tm} {x : Str} : kidsLO t s (.str x) = ifO (fits x.length) (fun _ => .ok (signsD x) s) fun _ => .fail := rfl
theorem kidsLO_lst {t : Tm} {o : Fl} {ds : List D} : kidsLO t s (.lst o ds) = rn (kidsOf t) s := rfl
theorem kidsLO_tup {t : Tm} {ds : List D} : kidsLO t s (.tup ds) = rn (kidsOf t) s := rfl
theorem x_list1 {e : CE} : rn (biT ev .list [e]) s = ifO (rangeE e) (fun _ => rnY (biT ev .list [e]) s) fun _ => Out.bind (rn (ev e) s) fun t s1 => Out.bind (rn (kidsLs t) s1) fun l s2 => .ok (.val (.lst .own l)) s2 := by
  cases h : rangeE e with
  | true => rfl
  | false =>
    rw [ifO_f]
    unfold biT
    split <;> first
      | rfl
      | (simp_all [rangeE]; done)
      | (rename_i h1; cases h1; simp only [rn_bind', rn_pure]; done)
      | (rename_i h1 h2; cases h2; simp only [rn_bind', rn_pure]; done)
      | (rename_i h1 h2 h3; cases h3; simp only [rn_bind', rn_pure]; done)
      | (rename_i h1; subst h1; simp only [rn_bind', rn_pure]; done)
def tupO (t : Tm) (s : Sx) : D → Out Tm
  | .tup _ => rn (escV t) s
  | .lst _ _ => Out.bind (rn (kidsOf t) s) fun l s2 => .ok (.val (.tup l)) s2
  | _ => .fail
theorem x_tuple1 {e : CE} : rn (biT ev .tuple [e]) s = ifO (rangeE e) (fun _ => rnY (biT ev .tuple [e]) s) fun _ => Out.bind (rn (ev e) s) fun t s1 => Out.bind (rn (deref t) s1) fun d s2 => tupO t s2 d := by
  cases h : rangeE e with
  | true => rfl
  | false =>
    rw [ifO_f]
    have e0 : biT ev .tuple [e] = (ev e).bind fun t => (deref t).bind fun d => match d with
      | .tup _ => escV t
      | .lst _ _ => (kidsOf t).bind fun l => (pure (.val (.tup l)) : M Tm)
      | _ => fail := by
      cases e with
      | bi b es => cases b <;> first | rfl | (simp [rangeE] at h; done)
      | _ => rfl
    rw [e0, rn_bind]; congr 1; funext t s1
    rw [rn_bind]; congr 1; funext d s2
    cases d <;> rfl
theorem tupO_tup {t : Tm} {ds : List D} : tupO t s (.tup ds) = rn (escV t) s := rfl
theorem tupO_lst {t : Tm} {o : Fl} {ds : List D} : tupO t s (.lst o ds) = Out.bind (rn (kidsOf t) s) fun l s2 => .ok (.val (.tup l)) s2 := rfl
theorem x_escV {t : Tm} : rn (escV t) s = Out.bind (rn (escape t) s) fun d s1 => .ok (.val d) s1 := rfl
theorem x_list0 : rn (biT ev .list []) s = .ok (.val (.lst .own [])) s := rfl
theorem biD_len_lst {o : Fl} {ds : List D} : biD .len [.lst o ds] = some (.int ds.length) := rfl
theorem biD_len_tup {ds : List D} : biD .len [.tup ds] = some (.int ds.length) := rfl
theorem biD_len_str {x : Str} (h : x.length ≤ sizeLine) : biD .len [.str x] = some (.int x.length) := by
  show (match lenD (.str x) with | some n => some (D.int ((n : Nat) : Int)) | none => none) = _
  have : lenD (.str x) = some x.length := if_pos h
  rw [this]
theorem biD_abs {i : Int} : biD .abs [.int i] = some (.int i.natAbs) := by
  show some (D.int (if i < 0 then -i else i)) = _
  congr 2; split <;> omega
theorem biD_max {i j : Int} : biD .max [.int i, .int j] = some (.int (max i j)) := by
  show some (D.int (if j > i then j else i)) = _
  congr 2; omega
theorem biD_min {i j : Int} : biD .min [.int i, .int j] = some (.int (min i j)) := by
  show some (D.int (if j < i then j else i)) = _
  congr 2; omega
theorem biD_int {i : Int} : biD .int [.int i] = some (.int i) := rfl
theorem intsD_map : ∀ ns : List Int, intsD (ns.map D.int) = some ns
  | [] => rfl
  | n :: ns => by show (intsD (ns.map D.int)).map (n :: ·) = _; rw [intsD_map ns]; rfl
theorem blsD_map : ∀ ns : List Bool, blsD (ns.map D.bl) = some ns
  | [] => rfl
  | n :: ns => by show (blsD (ns.map D.bl)).map (n :: ·) = _; rw [blsD_map ns]; rfl
theorem strsD_map : ∀ ns : List Str, strsD (ns.map D.str) = some ns
  | [] => rfl
  | n :: ns => by show (strsD (ns.map D.str)).map (n :: ·) = _; rw [strsD_map ns]; rfl
theorem biD_sum {o : Fl} {ns : List Int} : biD .sum [.lst o (ns.map D.int)] = some (.int ns.sum) := by
  show (intsD (ns.map D.int)).map (fun xs => D.int xs.sum) = _; rw [intsD_map]; rfl
theorem biD_all {o : Fl} {ns : List Bool} : biD .all [.lst o (ns.map D.bl)] = some (.bl (ns.all id)) := by
  show (blsD (ns.map D.bl)).map (fun xs => D.bl (xs.all id)) = _; rw [blsD_map]; rfl
theorem biD_any {o : Fl} {ns : List Bool} : biD .any [.lst o (ns.map D.bl)] = some (.bl (ns.any id)) := by
  show (blsD (ns.map D.bl)).map (fun xs => D.bl (xs.any id)) = _; rw [blsD_map]; rfl
theorem plainL_map {α : Type} {f : α → D} (h : ∀ a, (f a).plain = true) : ∀ l : List α, plainL (l.map f) = true
  | [] => rfl
  | a :: l => by show ((f a).plain && plainL (l.map f)) = true; rw [h, plainL_map h l]; rfl
theorem plainL_ints {l : List Int} : plainL (l.map D.int) = true := plainL_map (fun _ => rfl) l
theorem plainL_strs {l : List Str} : plainL (l.map D.str) = true := plainL_map (fun _ => rfl) l
theorem plainL_bls {l : List Bool} : plainL (l.map D.bl) = true := plainL_map (fun _ => rfl) l
theorem plainL_append : ∀ {a b : List D}, plainL (a ++ b) = (plainL a && plainL b)
  | [], b => (Bool.true_and _).symm
  | d :: a, b => by show (d.plain && plainL (a ++ b)) = ((d.plain && plainL a) && plainL b); rw [plainL_append, Bool.and_assoc]
theorem frz_plain_list {l : List Int} : frzL (l.map D.int) = l.map D.int := by
  induction l with
  | nil => rfl
  | cons a l ih => show (D.int a).frz :: frzL (l.map D.int) = _; rw [ih]; rfl
theorem frz_plain_strs {l : List Str} : frzL (l.map D.str) = l.map D.str := by
  induction l with
  | nil => rfl
  | cons a l ih => show (D.str a).frz :: frzL (l.map D.str) = _; rw [ih]; rfl
theorem frzOk_ints {l : List Int} : frzOkL (l.map D.int) = true := by
  induction l with
  | nil => rfl
  | cons a l ih => show ((D.int a).frzOk && frzOkL (l.map D.int)) = true; rw [ih]; rfl
theorem frzOk_strs {l : List Str} : frzOkL (l.map D.str) = true := by
  induction l with
  | nil => rfl
  | cons a l ih => show ((D.str a).frzOk && frzOkL (l.map D.str)) = true; rw [ih]; rfl
/-! ### slices -/
def cutO (ta : Tm) (s : Sx) (lo hi : Option Int) : D → Out Tm
  | .str x => ifO (fits x.length) (fun _ => .ok (.val (.str (cutS x lo hi))) s) fun _ => .fail
  | .lst _ ds => (match ta with
    | .val _ => .ok (.val (.lst .own (cutL ds lo hi))) s
    | .at _ => ifO (plainL (cutL ds lo hi)) (fun _ => .ok (.val (.lst .own (cutL ds lo hi))) s) fun _ => Out.bind (rn (kidsOf ta) s) fun l s1 => .ok (.val (.lst .own (cutL l lo hi))) s1)
  | .tup ds => ifO (decide (HT.sIx ds.length 0 lo = 0 ∧ HT.sIx ds.length ds.length hi = ds.length)) (fun _ => rn (escV ta) s) fun _ => Out.bind (rn (kidsOf ta) s) fun l s1 => .ok (.val (.tup (cutL l lo hi))) s1
  | _ => .fail
theorem x_sliceT {ta : Tm} {lo hi : Option Int} : rn (sliceT ta lo hi) s = Out.bind (rn (deref ta) s) fun a s1 => cutO ta s1 lo hi a := by
  unfold sliceT
  rw [rn_bind']; congr 1; funext d s1
  cases d <;> first
    | rfl
    | (simp only [rn_bind', rn_need, bind_ifO, bind_ok, bind_fail, cutO, rn_pure, rn_ite]; done)
    | (cases ta <;> first | rfl | (simp only [rn_bind', rn_need, bind_ifO, bind_ok, bind_fail, cutO, rn_pure, rn_ite, Bool.decide_eq_true]; done))
theorem cutO_str {ta : Tm} {lo hi : Option Int} {x : Str} : cutO ta s lo hi (.str x) = ifO (fits x.length) (fun _ => .ok (.val (.str (cutS x lo hi))) s) fun _ => .fail := rfl
theorem cutO_val {d : D} {lo hi : Option Int} {o : Fl} {ds : List D} : cutO (.val d) s lo hi (.lst o ds) = .ok (.val (.lst .own (cutL ds lo hi))) s := rfl
theorem cutO_at {p : Path} {lo hi : Option Int} {o : Fl} {ds : List D} : cutO (.at p) s lo hi (.lst o ds) = ifO (plainL (cutL ds lo hi)) (fun _ => .ok (.val (.lst .own (cutL ds lo hi))) s) fun _ => Out.bind (rn (kidsOf (.at p)) s) fun l s1 => .ok (.val (.lst .own (cutL l lo hi))) s1 := rfl
theorem x_slice0 {a : CE} : rn (sliceP ev a none none) s = Out.bind (rn (ev a) s) fun ta s1 => rn (sliceT ta none none) s1 := rfl
theorem x_slice1 {a l : CE} : rn (sliceP ev a (some l) none) s = Out.bind (rn (ev a) s) fun ta s1 => Out.bind (rn (stays ta [l]) s1) fun _ s2 => Out.bind (rn (ev l) s2) fun tl s3 => Out.bind (rn (deref tl) s3) fun d s4 => Out.bind (intO s4 d) fun i s5 => rn (sliceT ta (some i) none) s5 := by
  show rn ((evalL ev [a, l]).bind (op2 fun ta tl => (deref tl).bind fun d => match d with | .int i => sliceT ta (some i) none | _ => fail)) s = _
  simp only [rn_bind, L_cons, bind_assoc, bind_ok, stays_nil, L_nil]
  congr 1; funext ta s1; congr 1; funext _ s2; congr 1; funext tl s3
  show rn ((deref tl).bind _) s3 = _
  rw [rn_bind]; congr 1; funext d s4; cases d <;> rfl
theorem x_slice2 {a h : CE} : rn (sliceP ev a none (some h)) s = Out.bind (rn (ev a) s) fun ta s1 => Out.bind (rn (stays ta [h]) s1) fun _ s2 => Out.bind (rn (ev h) s2) fun tl s3 => Out.bind (rn (deref tl) s3) fun d s4 => Out.bind (intO s4 d) fun i s5 => rn (sliceT ta none (some i)) s5 := by
  show rn ((evalL ev [a, h]).bind (op2 fun ta tl => (deref tl).bind fun d => match d with | .int i => sliceT ta none (some i) | _ => fail)) s = _
  simp only [rn_bind, L_cons, bind_assoc, bind_ok, stays_nil, L_nil]
  congr 1; funext ta s1; congr 1; funext _ s2; congr 1; funext tl s3
  show rn ((deref tl).bind _) s3 = _
  rw [rn_bind]; congr 1; funext d s4; cases d <;> rfl
theorem x_slice3 {a l h : CE} : rn (sliceP ev a (some l) (some h)) s = Out.bind (rn (ev a) s) fun ta s1 => Out.bind (rn (stays ta [l, h]) s1) fun _ s2 => Out.bind (rn (evalI ev l) s2) fun i s3 => Out.bind (rn (evalI ev h) s3) fun j s4 => rn (sliceT ta (some i) (some j)) s4 := rfl
/-! ### methods -/
def bmV (b : Bm) (t : Tm) (ts : List Tm) (s : Sx) : D → Out Tm
  | .str x => Out.bind (rn (derefL ts) s) fun ds s1 => onD (strBm b x ds) fun r => .ok (.val r) s1
  | d => rn (bmT b t ts) s
theorem x_bm_str {b : Bm} {x : Str} {ts : List Tm} : rn (bmT b (.val (.str x)) ts) s = Out.bind (rn (derefL ts) s) fun ds s1 => onD (strBm b x ds) fun r => .ok (.val r) s1 := by
  show rn ((derefL ts).bind fun ds => (opt (strBm b x ds)).bind fun r => (pure (.val r) : M Tm)) s = _
  simp only [rn_bind, rn_opt, bind_onD, bind_ok, rn_pure]
def ownO (p : Path) (s : Sx) : D → Out (Path × List D)
  | .lst .own ds => .ok (p, ds) s
  | _ => .fail
theorem x_own {p : Path} : rn (ownList (.at p)) s = Out.bind (rn (deref (.at p)) s) fun d s1 => ownO p s1 d := by
  unfold ownList
  rw [rn_bind']; congr 1; funext d s1
  cases d with
  | lst o ds => cases o <;> rfl
  | _ => rfl
theorem ownO_own {p : Path} {ds : List D} : ownO p s (.lst .own ds) = .ok (p, ds) s := rfl
def lstO {β : Type} (d : D) (f g : Unit → Out β) : Out β := match d with
  | .lst _ _ => f ()
  | _ => g ()
theorem lstO_lst {β : Type} {o : Fl} {ds : List D} {f g : Unit → Out β} : lstO (.lst o ds) f g = f () := rfl
theorem x_append {p : Path} {u : Tm} : rn (bmT .append (.at p) [u]) s = Out.bind (rn (deref (.at p)) s) fun d s1 => lstO d (fun _ => Out.bind (rn (escape u) s1) fun x s1 => Out.bind (rn (ownList (.at p)) s1) fun q s2 => ifO (decide (q.2.length < sizeLine)) (fun _ => Out.bind (rn (putAt q.1 (.lst .own (q.2 ++ [x]))) s2) fun _ s3 => .ok (.val .non) s3) fun _ => .fail) fun _ => rnY (bmT .append (.at p) [u]) s := by
  rw [rn_deref_at]
  cases h : s.getP p with
  | none =>
    unfold bmT
    rw [rn_bind', rn_deref_at, h]; rfl
  | some d =>
    rw [onD_some, bind_ok]
    cases d with
    | lst o ds =>
      rw [lstO_lst]
      unfold bmT
      rw [rn_bind', rn_deref_at, h, onD_some, bind_ok]
      simp only [rn_bind', rn_need, bind_ifO, bind_ok, bind_fail, rn_pure]
    | _ => rfl
theorem bmOk_append {o : Fl} {ds : List D} : bmOk .append (.lst o ds) = true := rfl
theorem bmOk_str {b : Bm} {x : Str} (h : b ≠ .append ∧ b ≠ .extend ∧ b ≠ .insert ∧ b ≠ .remove ∧ b ≠ .reverse ∧ b ≠ .pop ∧ b ≠ .clear ∧ b ≠ .get) : bmOk b (.str x) = true := by
  cases b <;> simp at h <;> rfl
theorem bmOk_join {x : Str} : bmOk .join (.str x) = true := rfl
theorem bmOk_index {x : Str} : bmOk .index (.str x) = true := rfl
theorem bmOk_getK {o : Fl} {ks : List Key} {ds : List D} : bmOk .get (.dK o ks ds) = true := rfl
def getO (s : Sx) (u : Tm) : Option D → Out Tm
  | some v => .ok (.val v) s
  | none => .ok u s
theorem getO_some {u : Tm} {v : D} : getO s u (some v) = .ok (.val v) s := rfl
theorem getO_none {u : Tm} : getO s u none = .ok u s := rfl
/-- d.get(k, x) of a dict of the module's text -/
theorem x_getK2 {o : Fl} {ks : List Key} {ds : List D} {k u : Tm} : rn (bmT .get (.val (.dK o ks ds)) [k, u]) s = Out.bind (rn (deref k) s) fun k s1 => onD (keyD k) fun k => getO s1 u ((findK ks k).bind fun j => ds[j]?) := by
  show rn ((deref k).bind fun k => (opt (keyD k)).bind fun k => getT (.val (.dK o ks ds)) (.key k) ((findK ks k).bind fun j => ds[j]?) (pure u)) s = _
  rw [rn_bind]; congr 1; funext d s1
  rw [rn_bind, rn_opt, bind_onD]; congr 1; funext k'
  rw [bind_ok]
  cases ((findK ks k').bind fun j => ds[j]?) <;> rfl
theorem keyD_int {i : Int} : keyD (.int i) = some (.inl i) := rfl
theorem keyD_str {i : Str} : keyD (.str i) = some (.inr i) := rfl
/-! ### a walked list -/
def lockD : D → D
  | .lst .own ds => .lst .lck ds
  | d => d
def lckO (i : Nat) (env : List D) (sto : List Ob) : Option D → Out (List Nat)
  | some (.lst .own ds) => .ok [i] ⟨env.set i (.lst .lck ds), sto⟩
  | some (.lst .lck _) => .ok [] ⟨env, sto⟩
  | some (.tup _) => .ok [] ⟨env, sto⟩
  | _ => .fail
theorem lock_loc {i : Nat} : rn (lockT (.at ⟨.loc i, []⟩)) ⟨env, sto⟩ = lckO i env sto env[i]? := by
  show (match env[i]? with
    | some (.lst .own ds) => Out.ok [i] ⟨env.set i (.lst .lck ds), sto⟩
    | some (.lst .lck _) => Out.ok [] ⟨env, sto⟩
    | some (.tup _) => Out.ok [] ⟨env, sto⟩
    | _ => Out.fail) = _
  cases env[i]? with
  | none => rfl
  | some d => cases d with
    | lst o ds => cases o <;> rfl
    | _ => rfl
theorem lckO_own {i : Nat} {ds : List D} : lckO i env sto (some (.lst .own ds)) = .ok [i] ⟨env.set i (.lst .lck ds), sto⟩ := rfl
theorem lckO_lck {i : Nat} {ds : List D} : lckO i env sto (some (.lst .lck ds)) = .ok [] ⟨env, sto⟩ := rfl
theorem lckO_tup {i : Nat} {ds : List D} : lckO i env sto (some (.tup ds)) = .ok [] ⟨env, sto⟩ := rfl
theorem x_lock_val {d : D} : rn (lockT (.val d)) s = .ok [] s := rfl
theorem x_walked {t : Tm} : rn (walked t) s = Out.bind (rn (deref t) s) fun d s1 => ifO (walkOk t d) (fun _ => Out.bind (rn (kidsOf t) s1) fun l s2 => Out.bind (rn (lockT t) s2) fun ls s3 => .ok (.ds l ls) s3) fun _ => .fail := by
  unfold walked
  simp only [rn_bind', rn_need, bind_ifO, bind_ok, bind_fail, rn_pure]
def forK2 (mv : Bool) (t : Tm) (s : Sx) : D → Out Items
  | .str x => .ok (.ds (signsD x) []) s
  | .dK _ _ _ => .fail
  | .dT _ _ _ => .fail
  | d => (match t with
    | .at _ => ifO (mv && !plainL ((seqD d).getD [])) (fun _ => rnY (movedOut t d) s) fun _ => rn (walked t) s
    | .val _ => rn (walked t) s)
theorem x_kidsFor {mv : Bool} {t : Tm} : rn (kidsFor mv t) s = Out.bind (rn (deref t) s) fun d s1 => forK2 mv t s1 d := by
  unfold kidsFor
  rw [rn_bind']; congr 1; funext d s1
  cases d <;> first
    | rfl
    | (cases t <;> first | rfl | (simp only [rn_ite, forK2, Bool.decide_eq_true, rnY]; done))
theorem forK2_str {mv : Bool} {t : Tm} {x : Str} : forK2 mv t s (.str x) = .ok (.ds (signsD x) []) s := rfl
theorem forK2_lv {mv : Bool} {d : D} {o : Fl} {ds : List D} : forK2 mv (.val d) s (.lst o ds) = rn (walked (.val d)) s := rfl
theorem forK2_la {mv : Bool} {p : Path} {o : Fl} {ds : List D} : forK2 mv (.at p) s (.lst o ds) = ifO (mv && !plainL ds) (fun _ => rnY (movedOut (.at p) (.lst o ds)) s) fun _ => rn (walked (.at p)) s := rfl
theorem forK2_tv {mv : Bool} {d : D} {ds : List D} : forK2 mv (.val d) s (.tup ds) = rn (walked (.val d)) s := rfl
theorem forK2_ta {mv : Bool} {p : Path} {ds : List D} : forK2 mv (.at p) s (.tup ds) = ifO (mv && !plainL ds) (fun _ => rnY (movedOut (.at p) (.tup ds)) s) fun _ => rn (walked (.at p)) s := rfl
theorem rnY_moved {i : Nat} {ds : List D} : rnY (movedOut (.at ⟨.loc i, []⟩) (.lst .own ds)) ⟨env, sto⟩ = .ok (.ds ds [i]) ⟨env.set i (.lst .lck (goneL ds)), sto⟩ := rfl
theorem walkOk_val {d e : D} : walkOk (.val d) e = true := rfl
theorem walkOk_own {p : Path} {ds : List D} : walkOk (.at p) (.lst .own ds) = true := rfl
theorem walkOk_lck {p : Path} {ds : List D} : walkOk (.at p) (.lst .lck ds) = true := rfl
theorem walkOk_frz {p : Path} {ds : List D} : walkOk (.at p) (.lst .frz ds) = true := rfl
theorem walkOk_tup {p : Path} {ds : List D} : walkOk (.at p) (.tup ds) = true := rfl
def unlE (i : Nat) (r : List Nat) (env : List D) (sto : List Ob) : Option D → Option Sx
  | some (.lst .lck ds) => unlock r ⟨env.set i (.lst .own ds), sto⟩
  | _ => none
theorem unlock_cons {i : Nat} {r : List Nat} : unlock (i :: r) ⟨env, sto⟩ = unlE i r env sto env[i]? := by
  show (match env[i]? with
    | some (.lst .lck ds) => unlock r ⟨env.set i (.lst .own ds), sto⟩
    | _ => none) = _
  cases env[i]? with
  | none => rfl
  | some d => cases d with
    | lst o ds => cases o <;> rfl
    | _ => rfl
theorem small_of {i : Int} (h1 : -1000000000 ≤ i) (h2 : i ≤ 1000000000) : small62 i = true := by
  unfold small62; exact decide_eq_true ⟨by omega, by omega⟩
theorem unlE_lck {i : Nat} {r : List Nat} {ds : List D} : unlE i r env sto (some (.lst .lck ds)) = unlock r ⟨env.set i (.lst .own ds), sto⟩ := rfl
/-! enumerate, zip -/
def ifP (b : Bool) (p q : Prop) : Prop := match b with | true => p | false => q
theorem x_walkedL {t : Tm} : rn (walkedL t) s = Out.bind (rn (deref t) s) fun d s1 => lstO d (fun _ => rn (walked t) s1) fun _ => .fail := by
  unfold walkedL
  rw [rn_bind']; congr 1; funext d s1
  cases d <;> rfl
def enumO (s : Sx) : Items → Out Items
  | .ds l lk => .ok (.ds (enumL 0 l) lk) s
  | _ => .fail
theorem x_src_enum {mv : Bool} {e : CE} : rn (srcItems ev mv (.enum e)) s = Out.bind (rn (ev e) s) fun t s1 => Out.bind (rn (walkedL t) s1) fun it s2 => enumO s2 it := by
  show rn ((ev e).bind fun t => (walkedL t).bind fun it => match it with | .ds l lk => (pure (.ds (enumL 0 l) lk) : M Items) | _ => fail) s = _
  rw [rn_bind]; congr 1; funext t s1
  rw [rn_bind]; congr 1; funext it s2; cases it <;> rfl
theorem enumO_ds {l : List D} {lk : List Nat} : enumO s (.ds l lk) = .ok (.ds (enumL 0 l) lk) s := rfl
def zipO (s : Sx) : Items → Items → Out Items
  | .ds xs k1, .ds ys k2 => .ok (.ds (zip2 xs ys) (k1 ++ k2)) s
  | _, _ => .fail
theorem x_src_zip {mv : Bool} {a b : CE} : rn (srcItems ev mv (.zip [a, b])) s = Out.bind (rn (ev a) s) fun t1 s1 => Out.bind (rn (stays t1 [b]) s1) fun _ s2 => Out.bind (rn (ev b) s2) fun t2 s3 => Out.bind (rn (walkedL t2) s3) fun y s4 => Out.bind (rn (walkedL t1) s4) fun x s5 => zipO s5 x y := by
  show rn ((evalL ev [a, b]).bind fun ts => match ts with
    | [t1, t2] => (walkedL t2).bind fun y => (walkedL t1).bind fun x => (match x, y with | .ds xs k1, .ds ys k2 => (pure (.ds (zip2 xs ys) (k1 ++ k2)) : M Items) | _, _ => fail)
    | _ => fail) s = _
  simp only [rn_bind, L_cons, bind_assoc, bind_ok, stays_nil, L_nil]
  congr 1; funext t1 s1; congr 1; funext _ s2; congr 1; funext t2 s3
  congr 1; funext y s4; congr 1; funext x s5
  cases x <;> cases y <;> rfl
theorem zipO_ds {xs ys : List D} {k1 k2 : List Nat} : zipO s (.ds xs k1) (.ds ys k2) = .ok (.ds (zip2 xs ys) (k1 ++ k2)) s := rfl
theorem zip2_map {α β : Type} {f : α → D} {g : β → D} : ∀ {xs : List α} {ys : List β}, zip2 (xs.map f) (ys.map g) = (xs.zip ys).map fun p => D.tup [f p.1, g p.2]
  | [], _ => by simp [zip2]
  | _ :: _, [] => by simp [zip2]
  | x :: xs, y :: ys => by simp [zip2, zip2_map (xs := xs) (ys := ys)]
def zipO3 (s : Sx) : Items → Items → Items → Out Items
  | .ds xs k1, .ds ys k2, .ds zs k3 => .ok (.ds (zip3 xs ys zs) (k1 ++ k2 ++ k3)) s
  | _, _, _ => .fail
theorem x_src_zip3 {mv : Bool} {a b c : CE} : rn (srcItems ev mv (.zip [a, b, c])) s = Out.bind (rn (ev a) s) fun t1 s1 => Out.bind (rn (stays t1 [b, c]) s1) fun _ s2 => Out.bind (rn (ev b) s2) fun t2 s3 => Out.bind (rn (stays t2 [c]) s3) fun _ s4 => Out.bind (rn (ev c) s4) fun t3 s5 =>
    Out.bind (rn (walkedL t3) s5) fun z s6 => Out.bind (rn (walkedL t2) s6) fun y s7 => Out.bind (rn (walkedL t1) s7) fun x s8 => zipO3 s8 x y z := by
  show rn ((evalL ev [a, b, c]).bind fun ts => match ts with
    | [t1, t2, t3] => (walkedL t3).bind fun z => (walkedL t2).bind fun y => (walkedL t1).bind fun x => (match x, y, z with | .ds xs k1, .ds ys k2, .ds zs k3 => (pure (.ds (zip3 xs ys zs) (k1 ++ k2 ++ k3)) : M Items) | _, _, _ => fail)
    | _ => fail) s = _
  simp only [rn_bind, L_cons, bind_assoc, bind_ok, stays_nil, L_nil]
  congr 1; funext t1 s1; congr 1; funext _ s2; congr 1; funext t2 s3; congr 1; funext _ s4; congr 1; funext t3 s5
  congr 1; funext z s6; congr 1; funext y s7; congr 1; funext x s8
  cases x <;> cases y <;> cases z <;> rfl
theorem zipO3_ds {xs ys zs : List D} {k1 k2 k3 : List Nat} : zipO3 s (.ds xs k1) (.ds ys k2) (.ds zs k3) = .ok (.ds (zip3 xs ys zs) (k1 ++ k2 ++ k3)) s := rfl
theorem zip3_map {α β γ : Type} {f : α → D} {g : β → D} {h : γ → D} : ∀ {xs : List α} {ys : List β} {zs : List γ}, zip3 (xs.map f) (ys.map g) (zs.map h) = (xs.zip (ys.zip zs)).map fun p => D.tup [f p.1, g p.2.1, h p.2.2]
  | [], _, _ => by simp [zip3]
  | _ :: _, [], _ => by simp [zip3]
  | _ :: _, _ :: _, [] => by simp [zip3]
  | x :: xs, y :: ys, z :: zs => by simp [zip3, zip3_map (xs := xs) (ys := ys) (zs := zs)]
/-! while, += -/
theorem S_while {c : CE} {body : List CS} : rn (stepS P ev ex wf (.while c body)) s = rn (whileLoop ev ex c body wf) s := rfl
def whileE (ev : CE → M Tm) (ex : List CS → M Flow) (c : CE) (body : List CS) (n : Nat) (s : Sx) : Flow → Out Flow
  | .nx => rn (whileLoop ev ex c body n) s
  | .cont => rn (whileLoop ev ex c body n) s
  | .brk => .ok .nx s
  | .ret r => .ok (.ret r) s
theorem while_succ {c : CE} {body : List CS} {n : Nat} : rn (whileLoop ev ex c body (n + 1)) s = Out.bind (rn (evalB ev c) s) fun b s1 => ifO b (fun _ => Out.bind (rn (ex body) s1) fun f s2 => whileE ev ex c body n s2 f) fun _ => .ok .nx s1 := by
  show rn ((evalB ev c).bind fun b => if b = true then (ex body).bind (fun f => match f with
    | .nx => whileLoop ev ex c body n
    | .cont => whileLoop ev ex c body n
    | .brk => (pure .nx : M Flow)
    | .ret r => pure (.ret r)) else (pure .nx : M Flow)) s = _
  rw [rn_bind]; congr 1; funext b s1
  cases b with
  | false => rfl
  | true =>
    rw [ifO_t]
    show rn ((ex body).bind _) s1 = _
    rw [rn_bind]; congr 1; funext f s2; cases f <;> rfl
/-- a loop by what holds ahead of each turn, with a number that falls -/
theorem W_while {c : CE} {body : List CS} {Q : Flow → Sx → Prop} {E : Nat → List D → Sx → Prop} (I : Nat → Sx → Prop)
    (step : ∀ m s, I m s → W (rn (evalB ev c) s) (fun b s1 => ifP b (W (rn (ex body) s1) (fun f s2 => match f with | .nx => ∃ m', m' < m ∧ I m' s2 | .cont => ∃ m', m' < m ∧ I m' s2 | .brk => Q .nx s2 | .ret r => Q (.ret r) s2) E) (Q .nx s1)) E) : ∀ (n m : Nat) (s : Sx), I m s → m < n → W (rn (whileLoop ev ex c body n) s) Q E
  | 0, m, s, _, h => absurd h (Nat.not_lt_zero _)
  | n + 1, m, s, h, hm => by
    rw [while_succ, W_bind]
    refine W_mono (step m s h) (fun b s1 h1 => ?_) fun _ _ _ h => h
    cases b with
    | false => rw [ifO_f, W_ok]; exact h1
    | true =>
      rw [ifO_t, W_bind]
      refine W_mono h1 (fun f s2 h2 => ?_) fun _ _ _ h => h
      cases f with
      | nx => obtain ⟨m', h3, h4⟩ := h2; exact W_while I step n m' s2 h4 (by omega)
      | cont => obtain ⟨m', h3, h4⟩ := h2; exact W_while I step n m' s2 h4 (by omega)
      | brk => show W (.ok .nx s2) Q E; rw [W_ok]; exact h2
      | ret r => show W (.ok (.ret r) s2) Q E; rw [W_ok]; exact h2
def gI (env : List D) (sto : List Ob) : Option D → Out Int
  | some (.int a) => .ok a ⟨env, sto⟩
  | _ => .fail
theorem gI_int {a : Int} : gI env sto (some (.int a)) = .ok a ⟨env, sto⟩ := rfl
theorem getInt_rn {i : Nat} : rn (getInt i) ⟨env, sto⟩ = gI env sto env[i]? := by
  show (match env[i]? with | some (.int a) => Out.ok a ⟨env, sto⟩ | _ => Out.fail) = _
  cases env[i]? with
  | none => rfl
  | some d => cases d <;> rfl
theorem S_augN {i : Nat} {op : Bop} {e : CE} : rn (stepS P ev ex wf (.augN i op e)) s = Out.bind (rn (getInt i) s) fun a s1 => Out.bind (rn (evalI ev e) s1) fun b s2 => onD (augI op a b) fun k => Out.bind (rn (bindP (.name i) (.int k)) s2) fun _ s3 => .ok .nx s3 := by
  show rn ((getInt i).bind fun a => (evalI ev e).bind fun b => (opt (augI op a b)).bind fun k => (bindP (.name i) (.int k)).bind fun _ => (pure .nx : M Flow)) s = _
  simp only [rn_bind, rn_opt, bind_onD, bind_ok, rn_pure]
theorem augI_add {a b : Int} : augI .add a b = some (a + b) := rfl
theorem augI_sub {a b : Int} : augI .sub a b = some (a - b) := rfl
/-! count, index of a list -/
def strO {β : Type} (d : D) (f : Str → Out β) (g : Unit → Out β) : Out β := match d with
  | .str x => f x
  | _ => g ()
theorem strO_str {β : Type} {x : Str} {f : Str → Out β} {g : Unit → Out β} : strO (.str x) f g = f x := rfl
theorem lstO_str {β : Type} {x : Str} {f g : Unit → Out β} : lstO (.str x) f g = g () := rfl
theorem x_count {t u : Tm} : rn (bmT .count t [u]) s = Out.bind (rn (deref t) s) fun d s1 => lstO d (fun _ => Out.bind (rn (deref u) s1) fun x s2 => onD (countI d x) fun n => .ok (.val (.int ((n : Nat) : Int))) s2) fun _ => strO d (fun x => Out.bind (rn (derefL [u]) s1) fun ds s2 => onD (strBm .count x ds) fun r => .ok (.val r) s2) fun _ => rnY (bmT .count t [u]) s := by
  unfold rnY
  unfold bmT
  rw [rn_bind']
  cases h : rn (deref t) s with
  | ok d s1 =>
    cases d with
    | lst o ds => simp only [bind_ok, lstO_lst, rn_bind', rn_opt, bind_onD, rn_pure]
    | str x => simp only [bind_ok, lstO, strO_str, rn_bind', rn_opt, bind_onD, rn_pure]
    | _ => rfl
  | _ => rfl
theorem x_index {t u : Tm} : rn (bmT .index t [u]) s = Out.bind (rn (deref t) s) fun d s1 => lstO d (fun _ => Out.bind (rn (deref u) s1) fun x s2 => onD (indexD d x) fun n => .ok (.val (.int ((n : Nat) : Int))) s2) fun _ => strO d (fun x => Out.bind (rn (derefL [u]) s1) fun ds s2 => onD (strBm .index x ds) fun r => .ok (.val r) s2) fun _ => rnY (bmT .index t [u]) s := by
  unfold rnY
  unfold bmT
  rw [rn_bind']
  cases h : rn (deref t) s with
  | ok d s1 =>
    cases d with
    | lst o ds => simp only [bind_ok, lstO_lst, rn_bind', rn_opt, bind_onD, rn_pure]
    | str x => simp only [bind_ok, lstO, strO_str, rn_bind', rn_opt, bind_onD, rn_pure]
    | _ => rfl
  | _ => rfl
theorem bmOk_count_l {o : Fl} {ds : List D} : bmOk .count (.lst o ds) = true := rfl
theorem bmOk_index_l {o : Fl} {ds : List D} : bmOk .index (.lst o ds) = true := rfl
theorem countI_ints {o : Fl} {ns : List Int} {k : Int} : countI (.lst o (ns.map D.int)) (.int k) = some (ns.count k) := by
  simp only [countI, intsD_map]
end
/-- what is meant by a test -/
theorem ifP_t {a b : Prop} : ifP true a b = a := rfl
theorem ifP_f {a b : Prop} : ifP false a b = b := rfl
/-! ### raise, try -/
section
variable {P : Prog} {ev : CE → M Tm} {ex : List CS → M Flow} {wf : Nat} {s : Sx}
theorem S_raise {c : Nat} : rn (stepS P ev ex wf (.raise c [])) s = .exc c [] s := rfl
def tryO (P : Prog) (ex : List CS → M Flow) (j : Nat) (su : List CS) : Out Flow → Out Flow
  | .ok .nx s' => rn (ex []) s'
  | .ok f s' => .ok f s'
  | .exc c ps s' => if (P.excUp c).isEmpty || !ps.isEmpty then .fail else if (P.excUp c).contains j then rn (noRaiseL (ex su)) s' else .exc c ps s'
  | .fail => .fail
theorem S_try {b su : List CS} {j : Nat} : rn (stepS P ev ex wf (.try b [([j], none, su)] [])) s = tryO P ex j su (rn (ex b) s) := by
  show (match ex b s with
    | .ok .nx s' => ex [] s'
    | .ok f s' => .ok f s'
    | .exc c ps s' => if (P.excUp c).isEmpty || !ps.isEmpty then .fail else match handle ex P.excUp c ps [([j], none, su)] with
      | some m => noRaiseL m s'
      | none => .exc c ps s'
    | .fail => .fail) = tryO P ex j su (ex b s)
  cases ex b s with
  | fail => rfl
  | ok f s' => cases f <;> rfl
  | exc c ps s' =>
    show (if (P.excUp c).isEmpty || !ps.isEmpty then .fail else match (if [j].any (fun x => (P.excUp c).contains x) then some (ex su) else none) with
      | some m => noRaiseL m s'
      | none => .exc c ps s') = if (P.excUp c).isEmpty || !ps.isEmpty then .fail else if (P.excUp c).contains j then noRaiseL (ex su) s' else .exc c ps s'
    rw [show [j].any (fun x => (P.excUp c).contains x) = (P.excUp c).contains j by simp only [List.any_cons, List.any_nil, Bool.or_false]]
    cases (P.excUp c).contains j <;> rfl
theorem W_calm {m : M Flow} {Q : Flow → Sx → Prop} {E : Nat → List D → Sx → Prop} (h : W (rn m s) Q noX) : W (rn (noRaiseL m) s) Q E := by
  unfold W at *
  unfold rn at *
  unfold noRaiseL
  cases e : m s with
  | ok a s1 => rw [e] at h; exact h
  | exc c ps s1 => rw [e] at h; exact h.elim
  | fail => rw [e] at h; exact h.elim
theorem W_excE {α : Type} {c : Nat} {ps : List D} {Q : α → Sx → Prop} {E : Nat → List D → Sx → Prop} : W (.exc c ps s) Q E = E c ps s := by unfold W; rfl
/-- a try by what its body does -/
theorem W_try {b : Out Flow} {j : Nat} {su : List CS} {Q : Flow → Sx → Prop} {E : Nat → List D → Sx → Prop}
    (h : W b (fun f s' => match f with | .nx => W (rn (ex []) s') Q E | f => Q f s') (fun c ps s' => (P.excUp c).isEmpty = false ∧ ps = [] ∧ (((P.excUp c).contains j = true ∧ W (rn (ex su) s') Q noX) ∨ ((P.excUp c).contains j = false ∧ E c ps s')))) : W (tryO P ex j su b) Q E := by
  cases b with
  | fail => unfold W at h; exact h.elim
  | ok f s' =>
    rw [W_ok] at h
    cases f with
    | nx => exact h
    | brk => show W (.ok _ _) Q E; rw [W_ok]; exact h
    | cont => show W (.ok _ _) Q E; rw [W_ok]; exact h
    | ret r => show W (.ok _ _) Q E; rw [W_ok]; exact h
  | exc c ps s' =>
    have h : (P.excUp c).isEmpty = false ∧ ps = [] ∧ (((P.excUp c).contains j = true ∧ W (rn (ex su) s') Q noX) ∨ ((P.excUp c).contains j = false ∧ E c ps s')) := by rw [W_excE] at h; exact h
    obtain ⟨h1, rfl, h2⟩ := h
    show W (if (P.excUp c).isEmpty || !([] : List D).isEmpty then .fail else if (P.excUp c).contains j then rn (noRaiseL (ex su)) s' else .exc c [] s') Q E
    rw [if_neg (by rw [h1]; decide)]
    rcases h2 with ⟨h3, h4⟩ | ⟨h3, h4⟩
    · rw [if_pos h3]; exact W_calm h4
    · rw [if_neg (by rw [h3]; decide)]
      unfold W; exact h4
end
theorem noneB_lst {o : Fl} {ds : List D} : noneB (.lst o ds) = some false := rfl
theorem noneB_tup {ds : List D} : noneB (.tup ds) = some false := rfl
theorem noneB_int {i : Int} : noneB (.int i) = some false := rfl
theorem noneB_str {i : Str} : noneB (.str i) = some false := rfl
theorem noneB_bl {i : Bool} : noneB (.bl i) = some false := rfl
theorem noneB_non : noneB .non = some true := rfl
theorem isi_exc_exc {up : Nat → List Nat} {c e : Nat} {ps : List D} : isiD up (.exc c ps) (.exc e) = some ((up c).contains e) := rfl
theorem isi_exc_verr {up : Nat → List Nat} {c : Nat} {ps : List D} : isiD up (.exc c ps) .verr = some true := rfl
theorem notObj_exc {c : Nat} {ps : List D} : notObj (.exc c ps) = true := rfl
section
variable {P : Prog} {ev : CE → M Tm} {ex : List CS → M Flow} {wf : Nat} {s : Sx}
def tryOA (P : Prog) (ex : List CS → M Flow) (j i : Nat) (su : List CS) : Out Flow → Out Flow
  | .ok .nx s' => rn (ex []) s'
  | .ok f s' => .ok f s'
  | .exc c ps s' => if (P.excUp c).isEmpty || !ps.isEmpty then .fail else if (P.excUp c).contains j then rn (noRaiseL (do
      bindP (.name i) (.exc c ps)
      let f ← ex su
      bindP (.name i) .gone
      pure f)) s' else .exc c ps s'
  | .fail => .fail
theorem S_tryAs {b su : List CS} {j i : Nat} : rn (stepS P ev ex wf (.try b [([j], some i, su)] [])) s = tryOA P ex j i su (rn (ex b) s) := by
  show (match ex b s with
    | .ok .nx s' => ex [] s'
    | .ok f s' => .ok f s'
    | .exc c ps s' => if (P.excUp c).isEmpty || !ps.isEmpty then .fail else match handle ex P.excUp c ps [([j], some i, su)] with
      | some m => noRaiseL m s'
      | none => .exc c ps s'
    | .fail => .fail) = tryOA P ex j i su (ex b s)
  cases ex b s with
  | fail => rfl
  | ok f s' => cases f <;> rfl
  | exc c ps s' =>
    show (if (P.excUp c).isEmpty || !ps.isEmpty then .fail else match (if [j].any (fun x => (P.excUp c).contains x) then some (do
      bindP (.name i) (.exc c ps)
      let f ← ex su
      bindP (.name i) .gone
      pure f) else none) with
      | some m => noRaiseL m s'
      | none => .exc c ps s') = if (P.excUp c).isEmpty || !ps.isEmpty then .fail else if (P.excUp c).contains j then noRaiseL (do
      bindP (.name i) (.exc c ps)
      let f ← ex su
      bindP (.name i) .gone
      pure f) s' else .exc c ps s'
    rw [show [j].any (fun x => (P.excUp c).contains x) = (P.excUp c).contains j by simp only [List.any_cons, List.any_nil, Bool.or_false]]
    cases (P.excUp c).contains j <;> rfl
/-- .. by what its body does -/
theorem W_tryAs {b : Out Flow} {j i : Nat} {su : List CS} {Q : Flow → Sx → Prop} {E : Nat → List D → Sx → Prop}
    (h : W b (fun f s' => match f with | .nx => W (rn (ex []) s') Q E | f => Q f s') (fun c ps s' => (P.excUp c).isEmpty = false ∧ ps = [] ∧ (((P.excUp c).contains j = true ∧ W (rn (bindP (.name i) (.exc c [])) s') (fun _ s1 => W (rn (ex su) s1) (fun f s2 => W (rn (bindP (.name i) .gone) s2) (fun _ s3 => Q f s3) noX) noX) noX) ∨ ((P.excUp c).contains j = false ∧ E c ps s')))) : W (tryOA P ex j i su b) Q E := by
  cases b with
  | fail => unfold W at h; exact h.elim
  | ok f s' =>
    rw [W_ok] at h
    cases f with
    | nx => exact h
    | brk => show W (.ok _ _) Q E; rw [W_ok]; exact h
    | cont => show W (.ok _ _) Q E; rw [W_ok]; exact h
    | ret r => show W (.ok _ _) Q E; rw [W_ok]; exact h
  | exc c ps s' =>
    rw [W_excE] at h
    obtain ⟨h1, rfl, h2⟩ := h
    show W (if (P.excUp c).isEmpty || !([] : List D).isEmpty then .fail else if (P.excUp c).contains j then _ else .exc c [] s') Q E
    rw [if_neg (by rw [h1]; decide)]
    rcases h2 with ⟨h3, h4⟩ | ⟨h3, h4⟩
    · rw [if_pos h3]
      refine W_calm ?_
      rw [rn_bind', W_bind]
      refine W_mono h4 (fun _ s1 h5 => ?_) fun _ _ _ h => h
      rw [rn_bind', W_bind]
      refine W_mono h5 (fun f s2 h6 => ?_) fun _ _ _ h => h
      rw [rn_bind', W_bind]
      refine W_mono h6 (fun _ s3 h7 => ?_) fun _ _ _ h => h
      rw [rn_pure, W_ok]; exact h7
    · rw [if_neg (by rw [h3]; decide)]
      unfold W; exact h4
end
section
variable {P : Prog} {cf : Nat → List D → M (D × List D)} {n wf : Nat} {s : Sx} {ev : CE → M Tm} {ex : List CS → M Flow} {env : List D} {sto : List Ob}
/-! ### objects -/
def fldV (k : Nat) (f : Str) (s : Sx) : Option D → Out Tm
  | some v => .ok (placed ⟨.fld k f, []⟩ v) s
  | none => .fail
def fldO (f : Str) (s : Sx) : D → Out Tm
  | .obj k => fldV k f s ((s.sto[k]?).bind fun o => fget o.fs f)
  | _ => .fail
theorem E_attr {a : CE} {f : Str} : rn (evalE P cf (n + 1) (.attr a f)) s = Out.bind (rn (evalE P cf n a) s) fun t s1 => Out.bind (rn (deref t) s1) fun d s2 => fldO f s2 d := by
  show rn ((evalD (evalE P cf n) a).bind fun d => fldP d f) s = _
  rw [rn_bind, rn_evalD, bind_assoc]
  congr 1; funext t s1
  congr 1; funext d s2
  cases d with
  | obj k =>
    show (match s2.getR (.fld k f) with | some v => (Out.ok (placed ⟨.fld k f, []⟩ v) s2 : Out Tm) | none => .fail) = fldV k f s2 (s2.getR (.fld k f))
    cases s2.getR (.fld k f) <;> rfl
  | _ => rfl
theorem fldO_obj {k : Nat} {f : Str} : fldO f ⟨env, sto⟩ (.obj k) = fldV k f ⟨env, sto⟩ ((sto[k]?).bind fun o => fget o.fs f) := rfl
theorem fldV_some {k : Nat} {f : Str} {s : Sx} {v : D} : fldV k f s (some v) = .ok (placed ⟨.fld k f, []⟩ v) s := rfl
theorem getP_fld {k : Nat} {f : Str} {acc : List Acc} : Sx.getP ⟨env, sto⟩ ⟨.fld k f, acc⟩ = ((sto[k]?).bind fun o => fget o.fs f).bind fun d => d.get acc := rfl
theorem putP_fld {k : Nat} {f : Str} {acc : List Acc} {e : D} : Sx.putP ⟨env, sto⟩ ⟨.fld k f, acc⟩ e = (sto[k]?).bind fun o => (fget o.fs f).bind fun d => (d.put acc e).map fun d' => ⟨env, sto.set k ⟨o.cls, fput o.fs f d'⟩⟩ := by
  show (((sto[k]?).bind fun o => fget o.fs f).bind fun d => (d.put acc e).map fun d' => (match sto[k]? with | some o => (⟨env, sto.set k ⟨o.cls, fput o.fs f d'⟩⟩ : Sx) | none => ⟨env, sto⟩)) = _
  cases sto[k]? <;> rfl
theorem fget_nil {f : Str} : fget [] f = none := rfl
theorem fget_cons {f g : Str} {d : D} {r : List (Str × D)} : fget ((g, d) :: r) f = if f = g then some d else fget r f := rfl
theorem fput_nil {f : Str} {e : D} : fput [] f e = [(f, e)] := rfl
theorem fput_cons {f g : Str} {d e : D} {r : List (Str × D)} : fput ((g, d) :: r) f e = if f = g then (g, e) :: r else (g, d) :: fput r f e := rfl
def setFO (f : Str) (x : D) (s : Sx) : D → Out Flow
  | .obj k => onD s.sto[k]? fun o => ifO (decide (o.fs.length < 1000)) (fun _ => .ok .nx { s with sto := s.sto.set k ⟨o.cls, fput o.fs f x⟩ }) fun _ => .fail
  | _ => .fail
theorem S_setFld {o e : CE} {f : Str} : rn (stepS P ev ex wf (.asg (.attr o f) e)) s = Out.bind (rn (ev e) s) fun te s1 => Out.bind (rn (stays te [o]) s1) fun _ s2 => Out.bind (rn (ev o) s2) fun to s3 => Out.bind (rn (deref to) s3) fun d s4 => Out.bind (rn (escape te) s4) fun x s5 => setFO f x s5 d := by
  show rn ((evalL ev [e, o]).bind fun ts => match ts with
    | [te, to] => (deref to).bind fun d => (escape te).bind fun x => match d with
      | .obj n => (setFld n f x).bind fun _ => (pure .nx : M Flow)
      | _ => VS.fail
    | _ => VS.fail) s = _
  simp only [rn_bind, L_cons, bind_assoc, bind_ok, stays_nil, L_nil]
  congr 1; funext te s1
  congr 1; funext _ s2
  congr 1; funext to s3
  congr 1; funext d s4
  congr 1; funext x s5
  cases d with
  | obj k =>
    show Out.bind (rn (setFld k f x) s5) (fun _ s6 => .ok Flow.nx s6) = onD s5.sto[k]? _
    have e : rn (setFld k f x) s5 = (match s5.sto[k]? with
      | some o => if o.fs.length < 1000 then Out.ok () { s5 with sto := s5.sto.set k { o with fs := fput o.fs f x } } else .fail
      | none => .fail) := rfl
    rw [e]
    cases s5.sto[k]? with
    | none => rfl
    | some o => by_cases h : o.fs.length < 1000 <;> simp [h, ifO, Out.bind, onD]
  | _ => rfl
theorem setFO_obj {k : Nat} {f : Str} {x : D} : setFO f x ⟨env, sto⟩ (.obj k) = onD sto[k]? fun o => ifO (decide (o.fs.length < 1000)) (fun _ => .ok .nx ⟨env, sto.set k ⟨o.cls, fput o.fs f x⟩⟩) fun _ => .fail := rfl
/-- a class's def -/
def methF (P : Prog) (c : Nat) (m : Str) : Option Nat := (P.meths[c]?).bind fun ms => ms.lookup m
def mcO (P : Prog) (ev : CE → M Tm) (cf : Nat → List D → M (D × List D)) (m : Str) (es : List CE) (s : Sx) : D → Out Tm
  | .obj k => onD s.sto[k]? fun o => ifO (fget o.fs m).isNone (fun _ => onD (methF P o.cls m) fun f => Out.bind (rn (evalL ev es) s) fun ts s1 => rn (callT P cf f (.val (.obj k) :: ts)) s1) fun _ => .fail
  | _ => .fail
theorem E_mcall {o : CE} {m : Str} {es : List CE} : rn (evalE P cf (n + 1) (.mcall o m es)) s = Out.bind (rn (evalE P cf n o) s) fun t s1 => Out.bind (rn (deref t) s1) fun d s2 => mcO P (evalE P cf n) cf m es s2 d := by
  show rn ((evalE P cf n o).bind fun t => (deref t).bind fun d => mcallP P (evalE P cf n) cf m es d) s = _
  rw [rn_bind]
  congr 1; funext t s1
  rw [rn_bind]
  congr 1; funext d s2
  cases d with
  | obj k =>
    show Out.bind (rn (methOf P k m) s2) (fun f s3 => Out.bind (rn (evalL (evalE P cf n) es) s3) fun ts s4 => rn (callT P cf f (.val (.obj k) :: ts)) s4) = onD s2.sto[k]? _
    have e : rn (methOf P k m) s2 = (match s2.sto[k]? with
      | some o => if (fget o.fs m).isNone then (match methF P o.cls m with | some f => Out.ok f s2 | none => .fail) else .fail
      | none => .fail) := rfl
    rw [e]
    cases s2.sto[k]? with
    | none => rfl
    | some o =>
      rw [onD_some]
      dsimp only
      cases (fget o.fs m).isNone with
      | false => rfl
      | true =>
        show Out.bind (match methF P o.cls m with | some f => Out.ok f s2 | none => .fail) _ = onD (methF P o.cls m) _
        cases methF P o.cls m <;> rfl
  | _ => rfl
theorem mcO_obj {m : Str} {es : List CE} {k : Nat} : mcO P ev cf m es ⟨env, sto⟩ (.obj k) = onD sto[k]? fun o => ifO (fget o.fs m).isNone (fun _ => onD (methF P o.cls m) fun f => Out.bind (rn (evalL ev es) ⟨env, sto⟩) fun ts s1 => rn (callT P cf f (.val (.obj k) :: ts)) s1) fun _ => .fail := rfl
def noneO (k : Nat) (s : Sx) : Tm → Out Tm
  | .val .non => .ok (.val (.obj k)) s
  | _ => .fail
theorem noneO_non {k : Nat} {s : Sx} : noneO k s (.val .non) = .ok (.val (.obj k)) s := rfl
def newO (P : Prog) (cf : Nat → List D → M (D × List D)) (c f : Nat) (ts : List Tm) (s : Sx) : Out Tm := Out.bind (rn (callT P cf f (.val (.obj s.sto.length) :: ts)) { s with sto := s.sto ++ [⟨c, []⟩] }) fun t s2 => noneO s.sto.length s2 t
theorem E_new {c : Nat} {es : List CE} : rn (evalE P cf (n + 1) (.new c es)) s = Out.bind (rn (evalL (evalE P cf n) es) s) fun ts s1 => onD (methF P c (Str.ofString "__init__")) fun f => newO P cf c f ts s1 := by
  show rn ((evalL (evalE P cf n) es).bind fun ts => (opt P.meths[c]?).bind fun ms => (opt (ms.lookup (Str.ofString "__init__"))).bind fun f => newP P cf c f ts) s = _
  rw [rn_bind]
  congr 1; funext ts s1
  rw [rn_bind, rn_opt]
  unfold methF
  cases P.meths[c]? with
  | none => rfl
  | some ms =>
    show rn ((opt (ms.lookup (Str.ofString "__init__"))).bind fun f => newP P cf c f ts) s1 = onD (ms.lookup (Str.ofString "__init__")) _
    cases ms.lookup (Str.ofString "__init__") with
    | none => rfl
    | some f =>
      show Out.bind _ _ = Out.bind _ _
      congr 1; funext t s2
      cases t with
      | «at» p => rfl
      | val d => cases d <;> rfl
theorem newO_at {c f : Nat} {ts : List Tm} : newO P cf c f ts ⟨env, sto⟩ = Out.bind (rn (callT P cf f (.val (.obj sto.length) :: ts)) ⟨env, sto ++ [⟨c, []⟩]⟩) fun t s2 => noneO sto.length s2 t := rfl
def getFO (f : Str) (s : Sx) : Option D → (Int → Out Flow) → Out Flow
  | some (.int a), g => g a
  | _, _ => .fail
theorem getFO_int {f : Str} {s : Sx} {a : Int} {g : Int → Out Flow} : getFO f s (some (.int a)) g = g a := rfl
def augFO (ev : CE → M Tm) (op : Bop) (f : Str) (e : CE) (s : Sx) : D → Out Flow
  | .obj k => getFO f s ((s.sto[k]?).bind fun o => fget o.fs f) fun a => ifO (quiet e) (fun _ => Out.bind (rn (evalI ev e) s) fun b s1 => onD (augI op a b) fun r => setFO f (.int r) s1 (.obj k)) fun _ => .fail
  | _ => .fail
theorem S_augF {o e : CE} {f : Str} {op : Bop} : rn (stepS P ev ex wf (.augF o f op e)) s = Out.bind (rn (ev o) s) fun t s1 => Out.bind (rn (deref t) s1) fun d s2 => augFO ev op f e s2 d := by
  show rn ((evalD ev o).bind fun d => match d with
      | .obj n => (getFldI n f).bind fun a => (need (quiet e)).bind fun _ => (evalI ev e).bind fun b => (opt (augI op a b)).bind fun k => (setFld n f (.int k)).bind fun _ => (pure .nx : M Flow)
      | _ => VS.fail) s = _
  rw [rn_bind, rn_evalD, bind_assoc]
  congr 1; funext t s1
  congr 1; funext d s2
  cases d with
  | obj k =>
    show Out.bind (rn (getFldI k f) s2) _ = getFO f s2 (s2.getR (.fld k f)) _
    have e0 : rn (getFldI k f) s2 = (match s2.getR (.fld k f) with | some (.int a) => Out.ok a s2 | _ => .fail) := rfl
    rw [e0]
    cases s2.getR (.fld k f) with
    | none => rfl
    | some v =>
      cases v with
      | int a =>
        show rn ((need (quiet e)).bind fun _ => (evalI ev e).bind fun b => (opt (augI op a b)).bind fun r => (setFld k f (.int r)).bind fun _ => (pure .nx : M Flow)) s2 = _
        rw [rn_bind, rn_need, bind_ifO, getFO_int]
        cases quiet e with
        | false => rfl
        | true =>
          show Out.bind _ _ = Out.bind _ _
          congr 1; funext b s3
          show rn ((opt (augI op a b)).bind fun r => (setFld k f (.int r)).bind fun _ => (pure .nx : M Flow)) s3 = _
          rw [rn_bind, rn_opt, bind_onD]
          congr 1; funext r
          show Out.bind (rn (setFld k f (.int r)) s3) (fun _ s6 => .ok Flow.nx s6) = onD s3.sto[k]? _
          have e : rn (setFld k f (.int r)) s3 = (match s3.sto[k]? with
            | some o => if o.fs.length < 1000 then Out.ok () { s3 with sto := s3.sto.set k { o with fs := fput o.fs f (.int r) } } else .fail
            | none => .fail) := rfl
          rw [e]
          cases s3.sto[k]? with
          | none => rfl
          | some o => by_cases h : o.fs.length < 1000 <;> simp [h, ifO, Out.bind, onD]
      | _ => rfl
  | _ => rfl
theorem augFO_obj {op : Bop} {f : Str} {e : CE} {k : Nat} : augFO ev op f e ⟨env, sto⟩ (.obj k) = getFO f ⟨env, sto⟩ ((sto[k]?).bind fun o => fget o.fs f) fun a => ifO (quiet e) (fun _ => Out.bind (rn (evalI ev e) ⟨env, sto⟩) fun b s1 => onD (augI op a b) fun r => setFO f (.int r) s1 (.obj k)) fun _ => .fail := rfl
theorem lock_fld {k : Nat} {f : Str} {acc : List Acc} : rn (lockT (.at ⟨.fld k f, acc⟩)) s = Out.bind (rn (escape (.at ⟨.fld k f, acc⟩)) s) fun d s1 => ifO (lockOk d) (fun _ => .ok [] s1) fun _ => .fail := by
  have e : lockT (.at ⟨.fld k f, acc⟩) = (escape (.at ⟨.fld k f, acc⟩)).bind fun d => (need (lockOk d)).bind fun _ => (pure [] : M (List Nat)) := by cases acc <;> rfl
  rw [e, rn_bind]
  congr 1; funext d s1
  rw [rn_bind, rn_need, bind_ifO]
  rfl
theorem lockOk_frz {ds : List D} : lockOk (.lst .frz ds) = true := rfl
theorem lockOk_tup {ds : List D} : lockOk (.tup ds) = true := rfl
theorem frz_ownL {ds : List D} : (D.lst .own ds).frz = .lst .frz (frzL ds) := rfl
theorem frz_frzL {ds : List D} : (D.lst .frz ds).frz = .lst .frz ds := rfl
theorem frzOk_ownL {ds : List D} : (D.lst .own ds).frzOk = frzOkL ds := rfl
theorem obj_plain {k : Nat} : (D.obj k).plain = true := rfl
end
end VS
/-! Equality of things, membership. -/
namespace VS
open PySem L2
theorem eqD_of {a b : D} {x y : PyData} (ha : a.pd = some x) (hb : b.pd = some y) (sx : SeqAt.shaped x = true) (sy : SeqAt.shaped y = true) : eqD a b = some (PyData.eqv x y) := by
  show (match a.pd, b.pd with
    | some x, some y => if SeqAt.shaped x && SeqAt.shaped y then some (PyData.eqv x y) else none
    | _, _ => none) = _
  rw [ha, hb]
  show (if SeqAt.shaped x && SeqAt.shaped y then some (PyData.eqv x y) else none) = _
  rw [sx, sy]; rfl
theorem pdL_map {α : Type} {f : α → D} {g : α → PyData} (h : ∀ a, (f a).pd = some (g a)) : ∀ l : List α, pdL (l.map f) = some (l.map g)
  | [] => by simp [pdL]
  | a :: l => by simp [pdL, h a, pdL_map h l]
theorem eqvAll_map {α : Type} {g : α → PyData} : ∀ (l m : List α), (∀ a ∈ l, ∀ b ∈ m, PyData.eqv (g a) (g b) = true ↔ a = b) → (PyData.eqvAll (l.map g) (m.map g) = true ↔ l = m)
  | [], [], _ => by simp [PyData.eqvAll]
  | [], _ :: _, _ => by simp [PyData.eqvAll]
  | _ :: _, [], _ => by simp [PyData.eqvAll]
  | a :: l, b :: m, h => by
    simp only [List.map_cons, PyData.eqvAll, Bool.and_eq_true, List.cons.injEq]
    rw [h a (by simp) b (by simp), eqvAll_map l m fun x hx y hy => h x (by simp [hx]) y (by simp [hy])]
theorem canAll_map {α : Type} {g : α → PyData} : ∀ (l : List α), (∀ a ∈ l, (g a).canLay0 = true) → PyData.canLayAll0 (l.map g) = true
  | [], _ => by simp [PyData.canLayAll0]
  | a :: l, h => by simp [PyData.canLayAll0, h a (by simp), canAll_map l fun x hx => h x (by simp [hx])]
theorem depthAll_map {α : Type} {g : α → PyData} {d : Nat} : ∀ (l : List α), (∀ a ∈ l, (g a).depth ≤ d) → PyData.depthAll (l.map g) ≤ d
  | [], _ => by simp [PyData.depthAll]
  | a :: l, h => by
    simp only [List.map_cons, PyData.depthAll]
    exact Nat.max_le.mpr ⟨h a (by simp), depthAll_map l fun x hx => h x (by simp [hx])⟩
theorem shaped_of {x : PyData} (h1 : x.canLay0 = true) (h2 : x.depth ≤ 64) : SeqAt.shaped x = true := by
  unfold SeqAt.shaped; rw [h1, decide_eq_true h2]; rfl
theorem shaped_list {α : Type} {g : α → PyData} {d : Nat} (hd : d ≤ 63) (l : List α) (h1 : ∀ a ∈ l, (g a).canLay0 = true) (h2 : ∀ a ∈ l, (g a).depth ≤ d) : SeqAt.shaped (.list (l.map g)) = true :=
  shaped_of (by simp [PyData.canLay0, canAll_map l h1]) (by have := depthAll_map l h2; simp only [PyData.depth]; omega)
theorem eqD_lists {α : Type} {f : α → D} {g : α → PyData} {d : Nat} {o q : Fl} {l m : List α} [Decidable (l = m)] (hf : ∀ a, (f a).pd = some (g a)) (hd : d ≤ 63) (h1 : ∀ a ∈ l ++ m, (g a).canLay0 = true) (h2 : ∀ a ∈ l ++ m, (g a).depth ≤ d) (h : ∀ a ∈ l, ∀ b ∈ m, PyData.eqv (g a) (g b) = true ↔ a = b) :
    eqD (.lst o (l.map f)) (.lst q (m.map f)) = some (decide (l = m)) := by
  rw [eqD_of (x := .list (l.map g)) (y := .list (m.map g)) (by simp [D.pd, pdL_map hf l]) (by simp [D.pd, pdL_map hf m]) (shaped_list hd l (fun a ha => h1 a (by simp [ha])) fun a ha => h2 a (by simp [ha])) (shaped_list hd m (fun a ha => h1 a (by simp [ha])) fun a ha => h2 a (by simp [ha]))]
  congr 1
  have e := eqvAll_map l m h
  show PyData.eqv (.list _) (.list _) = _
  simp only [PyData.eqv]
  by_cases hl : l = m
  · rw [decide_eq_true hl]; exact e.mpr hl
  · rw [decide_eq_false hl]
    cases hh : PyData.eqvAll (l.map g) (m.map g) with
    | false => rfl
    | true => exact absurd (e.mp hh) hl
theorem eq_ll_int {o q : Fl} {l m : List Int} : eqD (.lst o (l.map D.int)) (.lst q (m.map D.int)) = some (decide (l = m)) :=
  eqD_lists (g := PyData.int) (d := 0) (fun _ => by simp [D.pd]) (by decide) (fun _ _ => by simp [PyData.canLay0]) (fun _ _ => by simp [PyData.depth]) fun a _ b _ => by simp [PyData.eqv]
theorem eq_ll_nil {o q : Fl} {l : List Int} : eqD (.lst o (l.map D.int)) (.lst q []) = some (decide (l = [])) := eq_ll_int (m := [])
theorem eq_ll_str {o q : Fl} {l m : List Str} (h : ∀ a ∈ l ++ m, PyData.strOk a = true) : eqD (.lst o (l.map D.str)) (.lst q (m.map D.str)) = some (decide (l = m)) :=
  eqD_lists (g := PyData.str) (d := 0) (fun _ => by simp [D.pd]) (by decide) (fun a ha => by simp [PyData.canLay0, h a ha]) (fun _ _ => by simp [PyData.depth]) fun a _ b _ => by simp [PyData.eqv]
theorem eq_ss {x y : Str} (hx : PyData.strOk x = true) (hy : PyData.strOk y = true) : eqD (.str x) (.str y) = some (decide (x = y)) := by
  rw [eqD_of (x := .str x) (y := .str y) (by simp [D.pd]) (by simp [D.pd]) (shaped_of (by simp [PyData.canLay0, hx]) (by simp [PyData.depth])) (shaped_of (by simp [PyData.canLay0, hy]) (by simp [PyData.depth]))]
  simp only [PyData.eqv]
  by_cases h : x = y <;> simp [h]
theorem isi_int_int {up : Nat → List Nat} {i : Int} : isiD up (.int i) .int = some true := rfl
theorem isi_int_bool {up : Nat → List Nat} {i : Int} : isiD up (.int i) .bool = some false := rfl
theorem isi_int_str {up : Nat → List Nat} {i : Int} : isiD up (.int i) .str = some false := rfl
theorem isi_int_list {up : Nat → List Nat} {i : Int} : isiD up (.int i) .list = some false := rfl
theorem isi_int_tuple {up : Nat → List Nat} {i : Int} : isiD up (.int i) .tuple = some false := rfl
theorem notObj_int {i : Int} : notObj (.int i) = true := rfl
theorem isi_str_int {up : Nat → List Nat} {i : Str} : isiD up (.str i) .int = some false := rfl
theorem isi_str_bool {up : Nat → List Nat} {i : Str} : isiD up (.str i) .bool = some false := rfl
theorem isi_str_str {up : Nat → List Nat} {i : Str} : isiD up (.str i) .str = some true := rfl
theorem isi_str_list {up : Nat → List Nat} {i : Str} : isiD up (.str i) .list = some false := rfl
theorem isi_str_tuple {up : Nat → List Nat} {i : Str} : isiD up (.str i) .tuple = some false := rfl
theorem notObj_str {i : Str} : notObj (.str i) = true := rfl
theorem isi_bl_int {up : Nat → List Nat} {i : Bool} : isiD up (.bl i) .int = some true := rfl
theorem isi_bl_bool {up : Nat → List Nat} {i : Bool} : isiD up (.bl i) .bool = some true := rfl
theorem isi_bl_str {up : Nat → List Nat} {i : Bool} : isiD up (.bl i) .str = some false := rfl
theorem isi_bl_list {up : Nat → List Nat} {i : Bool} : isiD up (.bl i) .list = some false := rfl
theorem isi_bl_tuple {up : Nat → List Nat} {i : Bool} : isiD up (.bl i) .tuple = some false := rfl
theorem notObj_bl {i : Bool} : notObj (.bl i) = true := rfl
theorem isi_non_int {up : Nat → List Nat} : isiD up .non .int = some false := rfl
theorem isi_non_bool {up : Nat → List Nat} : isiD up .non .bool = some false := rfl
theorem isi_non_str {up : Nat → List Nat} : isiD up .non .str = some false := rfl
theorem isi_non_list {up : Nat → List Nat} : isiD up .non .list = some false := rfl
theorem isi_non_tuple {up : Nat → List Nat} : isiD up .non .tuple = some false := rfl
theorem notObj_non  : notObj .non = true := rfl
theorem isi_lst_int {up : Nat → List Nat} {o : Fl} {i : List D} : isiD up (.lst o i) .int = some false := rfl
theorem isi_lst_bool {up : Nat → List Nat} {o : Fl} {i : List D} : isiD up (.lst o i) .bool = some false := rfl
theorem isi_lst_str {up : Nat → List Nat} {o : Fl} {i : List D} : isiD up (.lst o i) .str = some false := rfl
theorem isi_lst_list {up : Nat → List Nat} {o : Fl} {i : List D} : isiD up (.lst o i) .list = some true := rfl
theorem isi_lst_tuple {up : Nat → List Nat} {o : Fl} {i : List D} : isiD up (.lst o i) .tuple = some false := rfl
theorem notObj_lst {o : Fl} {i : List D} : notObj (.lst o i) = true := rfl
theorem isi_tup_int {up : Nat → List Nat} {i : List D} : isiD up (.tup i) .int = some false := rfl
theorem isi_tup_bool {up : Nat → List Nat} {i : List D} : isiD up (.tup i) .bool = some false := rfl
theorem isi_tup_str {up : Nat → List Nat} {i : List D} : isiD up (.tup i) .str = some false := rfl
theorem isi_tup_list {up : Nat → List Nat} {i : List D} : isiD up (.tup i) .list = some false := rfl
theorem isi_tup_tuple {up : Nat → List Nat} {i : List D} : isiD up (.tup i) .tuple = some true := rfl
theorem notObj_tup {i : List D} : notObj (.tup i) = true := rfl
theorem isi_seq_lst {up : Nat → List Nat} {o : Fl} {i : List D} : isiD up (.lst o i) .seq = some true := rfl
theorem isi_seq_tup {up : Nat → List Nat} {i : List D} : isiD up (.tup i) .seq = some true := rfl
theorem isi_seq_int {up : Nat → List Nat} {i : Int} : isiD up (.int i) .seq = some false := rfl
theorem isi_seq_str {up : Nat → List Nat} {i : Str} : isiD up (.str i) .seq = some false := rfl
theorem isi_seq_bl {up : Nat → List Nat} {i : Bool} : isiD up (.bl i) .seq = some false := rfl
theorem isi_seq_non {up : Nat → List Nat} : isiD up .non .seq = some false := rfl
mutual
theorem eqv_refl : ∀ x : PyData, x.canLay0 = true → PyData.eqv x x = true
  | .none, _ => by simp [PyData.eqv]
  | .bool _, _ => by simp [PyData.eqv]
  | .int _, _ => by simp [PyData.eqv]
  | .str _, _ => by simp [PyData.eqv]
  | .list xs, h => by simp only [PyData.eqv]; exact eqvAll_refl xs (by simpa [PyData.canLay0] using h)
  | .tuple xs, h => by simp only [PyData.eqv]; exact eqvAll_refl xs (by simpa [PyData.canLay0] using h)
  | .dict _, h => by simp [PyData.canLay0] at h
theorem eqvAll_refl : ∀ xs : List PyData, PyData.canLayAll0 xs = true → PyData.eqvAll xs xs = true
  | [], _ => by simp [PyData.eqvAll]
  | x :: xs, h => by
    simp only [PyData.canLayAll0, Bool.and_eq_true] at h
    simp only [PyData.eqvAll, Bool.and_eq_true]
    exact ⟨eqv_refl x h.1, eqvAll_refl xs h.2⟩
end
/-- the same things are equal -/
theorem eqD_same {a b : D} {x : PyData} (ha : a.pd = some x) (hb : b.pd = some x) (sx : SeqAt.shaped x = true) : eqD a b = some true := by
  rw [eqD_of ha hb sx sx]; congr 1
  refine eqv_refl x ?_
  unfold SeqAt.shaped at sx
  simp only [Bool.and_eq_true] at sx
  exact sx.1
theorem in_tup {a : D} {ds : List D} : isInD a (.tup ds) = if flatD a && ds.all flatD then some (ds.any fun y => eqF y a) else none := by
  show (match (D.tup ds) with | _ => _) = _
  rfl
theorem in_str {i j : Str} : isInD (.str i) (.str j) = some (strIn i j) := rfl
theorem in_lst {a : D} {o : Fl} {ds : List D} : isInD a (.lst o ds) = isInL a ds := rfl
theorem in_dK {a : D} {o : Fl} {ks : List Key} {ds : List D} : isInD a (.dK o ks ds) = (keyD a).map fun k => (findK ks k).isSome := rfl
theorem flat_int {i : Int} : flatD (.int i) = true := rfl
theorem flat_str {i : Str} : flatD (.str i) = true := rfl
theorem flat_bl {i : Bool} : flatD (.bl i) = true := rfl
theorem flat_non : flatD .non = true := rfl
theorem eqF_ii {i j : Int} : eqF (.int i) (.int j) = decide (i = j) := by
  show PyData.eqv (.int i) (.int j) = _
  simp only [PyData.eqv]
  by_cases h : i = j <;> simp [h]
/-- a slice of anything -/
def cutA {α : Type} (l : List α) (lo hi : Option Int) : List α := (l.drop (HT.sIx l.length 0 lo)).take (HT.sIx l.length l.length hi - HT.sIx l.length 0 lo)
theorem cutL_map {α : Type} {f : α → D} {l : List α} {lo hi : Option Int} : cutL (l.map f) lo hi = (cutA l lo hi).map f := by
  unfold cutL cutA; rw [List.length_map, List.map_take, List.map_drop]
theorem cutA_from {α : Type} (l : List α) (k : Nat) : cutA l (some (k : Int)) none = l.drop k := by
  unfold cutA
  rw [HT.sIx_nat]
  show (l.drop (min k l.length)).take (l.length - min k l.length) = _
  rw [← List.length_drop, List.take_length]
  by_cases h : k ≤ l.length
  · rw [Nat.min_eq_left h]
  · rw [Nat.min_eq_right (by omega), List.drop_length, List.drop_eq_nil_of_le (by omega)]
theorem cutA_to {α : Type} (l : List α) (k : Nat) : cutA l none (some (k : Int)) = l.take k := by
  unfold cutA
  rw [HT.sIx_nat]
  show (l.drop 0).take (min k l.length - 0) = _
  rw [List.drop_zero, Nat.sub_zero]
  by_cases h : k ≤ l.length
  · rw [Nat.min_eq_left h]
  · rw [Nat.min_eq_right (by omega), List.take_length, List.take_of_length_le (by omega)]
theorem cutA_mid {α : Type} (l : List α) (a b : Nat) : cutA l (some (a : Int)) (some (b : Int)) = (l.drop a).take (b - a) := by
  unfold cutA
  rw [HT.sIx_nat, HT.sIx_nat]
  by_cases h : a ≤ l.length
  · have e1 : min a l.length = a := Nat.min_eq_left h
    rw [e1]
    by_cases h2 : b ≤ l.length
    · have e2 : min b l.length = b := Nat.min_eq_left h2
      rw [e2]
    · have e2 : min b l.length = l.length := Nat.min_eq_right (by omega)
      rw [e2, List.take_of_length_le (by rw [List.length_drop]; exact Nat.le_refl _), List.take_of_length_le (by rw [List.length_drop]; omega)]
  · have e1 : min a l.length = l.length := Nat.min_eq_right (by omega)
    have e3 : l.drop a = [] := List.drop_eq_nil_of_le (by omega)
    rw [e1, e3, List.drop_length, List.take_nil, List.take_nil]
theorem cutA_all {α : Type} (l : List α) : cutA l none none = l := by
  unfold cutA
  show (l.drop 0).take (l.length - 0) = l
  rw [List.drop_zero, Nat.sub_zero, List.take_length]
theorem eqv_ii (i j : Int) : PyData.eqv (.int i) (.int j) = (i == j) := by simp only [PyData.eqv]
theorem any_ints (x : Int) : ∀ xs : List Int, (xs.map PyData.int).any (fun z => PyData.eqv z (.int x)) = xs.any fun y => y == x
  | [] => rfl
  | y :: ys => by rw [List.map_cons, List.any_cons, List.any_cons, any_ints x ys, eqv_ii]
theorem isInL_ints {x : Int} {xs : List Int} : isInL (.int x) (xs.map D.int) = some (xs.any fun y => y == x) := by
  unfold isInL
  have e1 : (D.int x).pd = some (.int x) := by simp [D.pd]
  have e2 : pdL (xs.map D.int) = some (xs.map PyData.int) := pdL_map (fun _ => by simp [D.pd]) xs
  have e3 : SeqAt.shaped (.list (xs.map PyData.int)) = true := shaped_list (d := 0) (by decide) xs (fun _ _ => by simp [PyData.canLay0]) (fun _ _ => by simp [PyData.depth])
  have e4 : SeqAt.shaped (.int x) = true := rfl
  rw [e1, e2]
  show (if SeqAt.shaped (.int x) && SeqAt.shaped (.list (xs.map PyData.int)) then some ((xs.map PyData.int).any fun z => PyData.eqv z (.int x)) else none) = _
  rw [e3, e4, any_ints]; rfl
end VS
/-! The last steps. -/
namespace VS
open PySem L2
mutual
def dB : D → D → Bool
  | .non, .non => true
  | .bl a, .bl b => a == b
  | .int a, .int b => decide (a = b)
  | .str a, .str b => decide (a = b)
  | .dK o ks ds, .dK q ls es => decide (o = q) && decide (ks = ls) && dBs ds es
  | _, _ => false
def dBs : List D → List D → Bool
  | [], [] => true
  | a :: as, b :: bs => dB a b && dBs as bs
  | _, _ => false
end
mutual
theorem dB_ok : ∀ {a b : D}, dB a b = true → a = b
  | .non, b, h => by cases b <;> simp [dB] at h; rfl
  | .bl a, b, h => by cases b <;> simp [dB] at h; rw [h]
  | .int a, b, h => by cases b <;> simp [dB] at h; rw [h]
  | .str a, b, h => by cases b <;> simp [dB] at h; rw [h]
  | .dK o ks ds, b, h => by cases b <;> simp [dB] at h; obtain ⟨⟨rfl, rfl⟩, h⟩ := h; rw [dBs_ok h]
  | .gone, b, h => by simp [dB] at h
  | .tup _, b, h => by simp [dB] at h
  | .lst _ _, b, h => by simp [dB] at h
  | .dT _ _ _, b, h => by simp [dB] at h
  | .obj _, b, h => by simp [dB] at h
  | .exc _ _, b, h => by simp [dB] at h
theorem dBs_ok : ∀ {as bs : List D}, dBs as bs = true → as = bs
  | [], [], _ => rfl
  | a :: as, b :: bs, h => by
    simp only [dBs, Bool.and_eq_true] at h
    rw [dB_ok h.1, dBs_ok h.2]
  | [], _ :: _, h => by simp [dBs] at h
  | _ :: _, [], h => by simp [dBs] at h
end
def optB (o : Option D) (d : D) : Bool := match o with
  | some e => dB e d
  | none => false
theorem glob_of {o : Option D} {d : D} (h : optB o d = true) : o = some d := by
  cases o with
  | none => cases h
  | some e => rw [dB_ok h]
theorem hL_of {P : Prog} {wf n k i : Nat} {as : List D} (h : FC P wf n k i as [] (fun v outs _ => v = .bl true ∧ outs.length = 1) noXR) : ∃ o s', callF P wf n k i as ⟨[], []⟩ = .ok (.bl true, [o]) s' := by
  unfold FC at h
  unfold rn at h
  cases e : callF P wf n k i as ⟨[], []⟩ with
  | ok a s =>
    obtain ⟨r, outs⟩ := a
    rw [e] at h
    obtain ⟨rfl, hl⟩ := h
    match outs, hl with
    | [o], _ => exact ⟨o, s, rfl⟩
  | exc c ps s => rw [e] at h; exact h.elim
  | fail => rw [e] at h; exact h.elim
end VS
/-! The equations together. -/
namespace VS
open PySem L2
section
variable {α β γ : Type} {P : Prog} {cf : Nat → List D → M (D × List D)} {n wf : Nat} {s : Sx} {ev : CE → M Tm} {ex : List CS → M Flow} {env : List D} {sto : List Ob}
theorem Lit_int {i : Int} : (Lit.int i).d = .int i := rfl
theorem Lit_str {i : Str} : (Lit.str i).d = .str i := rfl
theorem Lit_bl {i : Bool} : (Lit.bl i).d = .bl i := rfl
theorem Lit_non : Lit.non.d = .non := rfl
theorem cmp_eq {a b : D} : cmpD .eq a b = eqD a b := rfl
theorem cmp_ne {a b : D} : cmpD .ne a b = (eqD a b).map (!·) := rfl
theorem cmp_lt {a b : Int} : cmpD .lt (.int a) (.int b) = some (decide (a < b)) := rfl
theorem cmp_le {a b : Int} : cmpD .le (.int a) (.int b) = some (decide (a ≤ b)) := rfl
theorem cmp_gt {a b : Int} : cmpD .gt (.int a) (.int b) = some (decide (b < a)) := rfl
theorem cmp_ge {a b : Int} : cmpD .ge (.int a) (.int b) = some (decide (b ≤ a)) := rfl
theorem cmp_in {a b : D} : cmpD .isin a b = isInD a b := rfl
theorem cmp_nin {a b : D} : cmpD .notin a b = (isInD a b).map (!·) := rfl
theorem eq_ii {a b : Int} : eqD (.int a) (.int b) = some (decide (a = b)) := by
  show (if SeqAt.shaped (.int a) && SeqAt.shaped (.int b) then some (PyData.eqv (.int a) (.int b)) else none) = _
  have h1 : SeqAt.shaped (.int a) = true := rfl
  have h2 : SeqAt.shaped (.int b) = true := rfl
  rw [h1, h2, Bool.and_self, if_pos rfl]
  show some (a == b) = _
  by_cases h : a = b <;> simp [h]
theorem noDT_int {a : Int} : noDT (.int a) = true := rfl
theorem noDT_str {a : Str} : noDT (.str a) = true := rfl
theorem noDT_bl {a : Bool} : noDT (.bl a) = true := rfl
theorem noDT_non : noDT .non = true := rfl
theorem noDT_lst {o : Fl} {a : List D} : noDT (.lst o a) = true := rfl
theorem noDT_tup {a : List D} : noDT (.tup a) = true := rfl
theorem noDT_dK {o : Fl} {ks : List Key} {a : List D} : noDT (.dK o ks a) = true := rfl
theorem noDict_int {a : Int} : noDict (.int a) = true := rfl
theorem noDict_str {a : Str} : noDict (.str a) = true := rfl
theorem noDict_bl {a : Bool} : noDict (.bl a) = true := rfl
theorem noDict_non : noDict .non = true := rfl
theorem noDict_lst {o : Fl} {a : List D} : noDict (.lst o a) = true := rfl
theorem noDict_tup {a : List D} : noDict (.tup a) = true := rfl
theorem ixN_nat (n i : Nat) : ixN n (i : Int) = if i < n then some i else none := by
  unfold ixN
  by_cases h : i < n
  · rw [if_pos (by omega), if_pos (by omega), if_pos h, Int.toNat_natCast]
  · rw [if_pos (by omega), if_neg (by omega), if_neg h]
theorem ixN_at {n : Nat} {i : Int} (h0 : 0 ≤ i) (h : i < n) : ixN n i = some i.toNat := by unfold ixN; rw [if_pos h0, if_pos h]
theorem ixN_0 {n : Nat} : ixN (n + 1) 0 = some 0 := by unfold ixN; rw [if_pos (by omega), if_pos (by omega)]; rfl
theorem ixN_1 {n : Nat} : ixN (n + 2) 1 = some 1 := by unfold ixN; rw [if_pos (by omega), if_pos (by omega)]; rfl
theorem ixN_2 {n : Nat} : ixN (n + 3) 2 = some 2 := by unfold ixN; rw [if_pos (by omega), if_pos (by omega)]; rfl
theorem ixN_3 {n : Nat} : ixN (n + 4) 3 = some 3 := by unfold ixN; rw [if_pos (by omega), if_pos (by omega)]; rfl
theorem ixN_4 {n : Nat} : ixN (n + 5) 4 = some 4 := by unfold ixN; rw [if_pos (by omega), if_pos (by omega)]; rfl
theorem ixN_5 {n : Nat} : ixN (n + 6) 5 = some 5 := by unfold ixN; rw [if_pos (by omega), if_pos (by omega)]; rfl
theorem ixN_6 {n : Nat} : ixN (n + 7) 6 = some 6 := by unfold ixN; rw [if_pos (by omega), if_pos (by omega)]; rfl
theorem ixN_7 {n : Nat} : ixN (n + 8) 7 = some 7 := by unfold ixN; rw [if_pos (by omega), if_pos (by omega)]; rfl
theorem ixN_8 {n : Nat} : ixN (n + 9) 8 = some 8 := by unfold ixN; rw [if_pos (by omega), if_pos (by omega)]; rfl
theorem ixN_9 {n : Nat} : ixN (n + 10) 9 = some 9 := by unfold ixN; rw [if_pos (by omega), if_pos (by omega)]; rfl
theorem imp_not {c A : Prop} : ((c → A) ∧ (¬c → False)) = (c ∧ A) := by
  by_cases h : c <;> simp [h]
theorem imp_notB {b : Bool} {A : Prop} : ((b = true → A) ∧ (b = false → False)) = (b = true ∧ A) := by cases b <;> simp
theorem onD_divmod {β : Type} {i j : Int} {f : D → Out β} : onD (biD .divmod [.int i, .int j]) f = ifO (decide (0 < j ∧ j < 1073741824)) (fun _ => f (.tup [.int (i / j), .int (i % j)])) fun _ => .fail := onD_ite
theorem comp_nil {own : List Nat} {p : Pat} {cond : Option CE} {elt : CE} {acc : List D} : rn (compLoop ev own p cond elt [] acc) s = .ok acc s := rfl
theorem onD_map {α β γ : Type} {o : Option α} {f : α → β} {g : β → Out γ} : onD (o.map f) g = onD o fun a => g (f a) := by cases o <;> rfl
theorem W_onD {α β : Type} {o : Option α} {f : α → Out β} {Q : β → Sx → Prop} {E : Nat → List D → Sx → Prop} : W (onD o f) Q E = ∃ a, o = some a ∧ W (f a) Q E := by cases o <;> simp [onD, W]
/-- a list, cut at a turn -/
structure Cut3 {α : Type} (xs pre : List α) (a : α) (post : List α) : Prop where
  eq : xs = pre ++ a :: post
theorem Cut3.len {α : Type} {xs pre : List α} {a : α} {post : List α} (c : Cut3 xs pre a post) : xs.length = pre.length + post.length + 1 := by rw [c.eq]; simp; omega
theorem Cut3.mem {α : Type} {xs pre : List α} {a : α} {post : List α} (c : Cut3 xs pre a post) : a ∈ xs := by rw [c.eq]; simp
theorem Cut3.at {α : Type} {xs pre : List α} {a : α} {post : List α} (c : Cut3 xs pre a post) : xs[pre.length]? = some a := by rw [c.eq]; simp
theorem W_forM {α : Type} {f : α → D} {p : Pat} {body : List CS} {Q : Flow → Sx → Prop} {E : Nat → List D → Sx → Prop} {xs : List α} (I : List α → Sx → Prop)
    (step : ∀ pre a post s, Cut3 xs pre a post → I pre s → W (rn (bindP p (f a)) s) (fun _ s1 => W (rn (ex body) s1) (fun fl s2 => match fl with | .nx => I (pre ++ [a]) s2 | .cont => I (pre ++ [a]) s2 | .brk => Q .nx s2 | .ret r => Q (.ret r) s2) E) E)
    (done : ∀ s, I xs s → Q .nx s) {s : Sx} (init : I [] s) : W (rn (forLoop ex p body (xs.map f)) s) Q E := by
  refine W_for (fun l s => ∃ pre post, xs = pre ++ post ∧ l = post.map f ∧ I pre s) ?_ ?_ _ _ ⟨[], xs, rfl, rfl, init⟩
  · rintro d ds s ⟨pre, post, e1, e2, h⟩
    cases post with
    | nil => cases e2
    | cons a post =>
      simp only [List.map_cons, List.cons.injEq] at e2
      obtain ⟨rfl, rfl⟩ := e2
      refine W_mono (step pre a post s ⟨e1⟩ h) (fun _ s1 h1 => W_mono h1 (fun fl s2 h2 => ?_) fun _ _ _ h => h) fun _ _ _ h => h
      cases fl with
      | nx => exact ⟨pre ++ [a], post, by rw [e1]; simp, rfl, h2⟩
      | cont => exact ⟨pre ++ [a], post, by rw [e1]; simp, rfl, h2⟩
      | brk => exact h2
      | ret r => exact h2
  · rintro s ⟨pre, post, e1, e2, h⟩
    cases post with
    | nil => rw [List.append_nil] at e1; subst e1; exact done s h
    | cons a post => cases e2
theorem W_compM {α : Type} {f : α → D} {own : List Nat} {p : Pat} {cond : Option CE} {elt : CE} {Q : List D → Sx → Prop} {E : Nat → List D → Sx → Prop} {xs : List α} (I : List α → List D → Sx → Prop)
    (step : ∀ pre a post acc env sto, Cut3 xs pre a post → I pre acc ⟨env, sto⟩ → W (rn (bindP p (f a)) ⟨clr own env, sto⟩) (fun _ s1 => W (condO ev s1 cond) (fun b s2 => W (compT ev elt s2 b) (fun o s3 => match o with | some e => acc.length < sizeLine ∧ I (pre ++ [a]) (acc ++ [e]) s3 | none => I (pre ++ [a]) acc s3) noX) noX) noX)
    (done : ∀ acc s, I xs acc s → Q acc s) {s : Sx} (init : I [] [] s) : W (rn (compLoop ev own p cond elt (xs.map f) []) s) Q E := by
  refine W_mono ?_ (fun _ _ h => h) (fun _ _ _ h => h.elim) (E := noX) (Q := Q)
  refine W_comp (fun l acc s => ∃ pre post, xs = pre ++ post ∧ l = post.map f ∧ I pre acc s) ?_ ?_ _ _ _ ⟨[], xs, rfl, rfl, init⟩
  · rintro d ds acc env sto ⟨pre, post, e1, e2, h⟩
    cases post with
    | nil => cases e2
    | cons a post =>
      simp only [List.map_cons, List.cons.injEq] at e2
      obtain ⟨rfl, rfl⟩ := e2
      refine W_mono (step pre a post acc env sto ⟨e1⟩ h) (fun _ s1 h1 => W_mono h1 (fun b s2 h2 => W_mono h2 (fun o s3 h3 => ?_) fun _ _ _ h => h) fun _ _ _ h => h) fun _ _ _ h => h
      cases o with
      | some e => exact ⟨h3.1, pre ++ [a], post, by rw [e1]; simp, rfl, h3.2⟩
      | none => exact ⟨pre ++ [a], post, by rw [e1]; simp, rfl, h3⟩
  · rintro acc s ⟨pre, post, e1, e2, h⟩
    cases post with
    | nil => rw [List.append_nil] at e1; subst e1; exact done acc s h
    | cons a post => cases e2
/-- a range's turns -/
theorem rangeL_map (lo : Int) : ∀ n : Nat, rangeL lo n = ((List.range n).map fun (i : Nat) => lo + (i : Int)).map D.int := by
  intro n
  induction n generalizing lo with
  | zero => rfl
  | succ n ih =>
    show D.int lo :: rangeL (lo + 1) n = _
    rw [ih, List.range_succ_eq_map]
    simp only [List.map_cons, List.map_map]
    congr 1
    · congr 1; omega
    · congr 1; funext i; show D.int (lo + 1 + (i : Int)) = D.int (lo + ((i + 1 : Nat) : Int)); congr 1; omega
theorem W_forR {p : Pat} {body : List CS} {Q : Flow → Sx → Prop} {E : Nat → List D → Sx → Prop} {lo : Int} {n : Nat} (I : Nat → Sx → Prop)
    (step : ∀ i s, i < n → I i s → W (rn (bindP p (.int (lo + i))) s) (fun _ s1 => W (rn (ex body) s1) (fun fl s2 => match fl with | .nx => I (i + 1) s2 | .cont => I (i + 1) s2 | .brk => Q .nx s2 | .ret r => Q (.ret r) s2) E) E)
    (done : ∀ s, I n s → Q .nx s) {s : Sx} (init : I 0 s) : W (rn (forLoop ex p body (rangeL lo n)) s) Q E := by
  rw [rangeL_map, List.map_map]
  refine W_forM (xs := List.range n) (fun pre s => I pre.length s) ?_ ?_ init
  · intro pre a post s c h
    have hl := c.len
    rw [List.length_range] at hl
    have ha : a = pre.length := by
      have := c.at
      rw [List.getElem?_range (by omega)] at this
      exact (Option.some.inj this).symm
    subst ha
    refine W_mono (step _ s (by omega) h) (fun _ s1 h1 => W_mono h1 (fun fl s2 h2 => ?_) fun _ _ _ h => h) fun _ _ _ h => h
    cases fl <;> first | exact h2 | (rw [List.length_append]; exact h2)
  · intro s h
    rw [List.length_range] at h
    exact done s h
theorem W_compR {own : List Nat} {p : Pat} {cond : Option CE} {elt : CE} {Q : List D → Sx → Prop} {E : Nat → List D → Sx → Prop} {lo : Int} {n : Nat} (I : Nat → List D → Sx → Prop)
    (step : ∀ i acc env sto, i < n → I i acc ⟨env, sto⟩ → W (rn (bindP p (.int (lo + i))) ⟨clr own env, sto⟩) (fun _ s1 => W (condO ev s1 cond) (fun b s2 => W (compT ev elt s2 b) (fun o s3 => match o with | some e => acc.length < sizeLine ∧ I (i + 1) (acc ++ [e]) s3 | none => I (i + 1) acc s3) noX) noX) noX)
    (done : ∀ acc s, I n acc s → Q acc s) {s : Sx} (init : I 0 [] s) : W (rn (compLoop ev own p cond elt (rangeL lo n) []) s) Q E := by
  rw [rangeL_map, List.map_map]
  refine W_compM (xs := List.range n) (fun pre acc s => I pre.length acc s) ?_ ?_ init
  · intro pre a post acc env sto c h
    have hl := c.len
    rw [List.length_range] at hl
    have ha : a = pre.length := by
      have := c.at
      rw [List.getElem?_range (by omega)] at this
      exact (Option.some.inj this).symm
    subst ha
    refine W_mono (step _ acc env sto (by omega) h) (fun _ s1 h1 => W_mono h1 (fun b s2 h2 => W_mono h2 (fun o s3 h3 => ?_) fun _ _ _ h => h) fun _ _ _ h => h) fun _ _ _ h => h
    cases o <;> (rw [List.length_append]; exact h3)
  · intro acc s h
    rw [List.length_range] at h
    exact done acc s h
theorem W_forE {α : Type} {f : α → D} {p : Pat} {body : List CS} {Q : Flow → Sx → Prop} {E : Nat → List D → Sx → Prop} {xs : List α} (I : List α → Sx → Prop)
    (step : ∀ pre a post s, Cut3 xs pre a post → I pre s → W (rn (bindP p (.tup [.int (pre.length : Nat), f a])) s) (fun _ s1 => W (rn (ex body) s1) (fun fl s2 => match fl with | .nx => I (pre ++ [a]) s2 | .cont => I (pre ++ [a]) s2 | .brk => Q .nx s2 | .ret r => Q (.ret r) s2) E) E)
    (done : ∀ s, I xs s → Q .nx s) {s : Sx} (init : I [] s) : W (rn (forLoop ex p body (enumL 0 (xs.map f))) s) Q E := by
  refine W_for (fun l s => ∃ pre post, xs = pre ++ post ∧ l = enumL pre.length (post.map f) ∧ I pre s) ?_ ?_ _ _ ⟨[], xs, rfl, rfl, init⟩
  · rintro d ds s ⟨pre, post, e1, e2, h⟩
    cases post with
    | nil => cases e2
    | cons a post =>
      simp only [List.map_cons, enumL, List.cons.injEq] at e2
      obtain ⟨rfl, rfl⟩ := e2
      refine W_mono (step pre a post s ⟨e1⟩ h) (fun _ s1 h1 => W_mono h1 (fun fl s2 h2 => ?_) fun _ _ _ h => h) fun _ _ _ h => h
      cases fl with
      | nx => exact ⟨pre ++ [a], post, by rw [e1]; simp, by rw [List.length_append]; rfl, h2⟩
      | cont => exact ⟨pre ++ [a], post, by rw [e1]; simp, by rw [List.length_append]; rfl, h2⟩
      | brk => exact h2
      | ret r => exact h2
  · rintro s ⟨pre, post, e1, e2, h⟩
    cases post with
    | nil => rw [List.append_nil] at e1; subst e1; exact done s h
    | cons a post => cases e2
theorem for_nil {p : Pat} {body : List CS} : rn (forLoop ex p body []) s = .ok .nx s := rfl
theorem need_true {β : Type} {b : Bool} {x : Unit → Out β} (h : b = true) : ifO b x (fun _ => .fail) = x () := by rw [h]; rfl
theorem kid_own {ds : List D} {i : Nat} : (D.lst .own ds).kid (.ix i) = ds[i]? := rfl
theorem kid_lck {ds : List D} {i : Nat} : (D.lst .lck ds).kid (.ix i) = ds[i]? := rfl
theorem kid_frz {ds : List D} {i : Nat} : (D.lst .frz ds).kid (.ix i) = ds[i]? := rfl
theorem kid_tup {ds : List D} {i : Nat} : (D.tup ds).kid (.ix i) = ds[i]? := rfl
theorem setKid_own {ds : List D} {i : Nat} {e : D} : (D.lst .own ds).setKid (.ix i) e = some (.lst .own (ds.set i e)) := rfl
theorem setKid_lck {ds : List D} {i : Nat} {e : D} : (D.lst .lck ds).setKid (.ix i) e = some (.lst .lck (ds.set i e)) := rfl
theorem setKid_tup {ds : List D} {i : Nat} {e : D} : (D.tup ds).setKid (.ix i) e = some (.tup (ds.set i e)) := rfl
theorem z_rn_pure {a : α} : rn (pure a : M α) ⟨env, sto⟩ = .ok a ⟨env, sto⟩ := by exact rn_pure
theorem z_rn_fail : rn (fail : M α) ⟨env, sto⟩ = .fail := by exact rn_fail
theorem z_rn_need {b : Bool} : rn (need b) ⟨env, sto⟩ = ifO b (fun _ => .ok () ⟨env, sto⟩) fun _ => .fail := by exact rn_need
theorem z_rn_opt {o : Option α} : rn (opt o) ⟨env, sto⟩ = onD o fun a => .ok a ⟨env, sto⟩ := by exact rn_opt
theorem z_rn_deref_val {d : D} : rn (deref (.val d)) ⟨env, sto⟩ = .ok d ⟨env, sto⟩ := by exact rn_deref_val
theorem z_rn_deref_at {p : Path} : rn (deref (.at p)) ⟨env, sto⟩ = onD (Sx.getP ⟨env, sto⟩ p) fun d => .ok d ⟨env, sto⟩ := by exact rn_deref_at
theorem z_rn_putAt {p : Path} {e : D} : rn (putAt p e) ⟨env, sto⟩ = onD (Sx.putP ⟨env, sto⟩ p e) fun s' => .ok () s' := by exact rn_putAt
theorem z_rn_esc_val {d : D} : rn (escape (.val d)) ⟨env, sto⟩ = .ok d ⟨env, sto⟩ := by exact rn_esc_val
theorem z_rn_esc_at {p : Path} : rn (escape (.at p)) ⟨env, sto⟩ = onD (Sx.getP ⟨env, sto⟩ p) fun d => ifO d.plain (fun _ => .ok d ⟨env, sto⟩) fun _ => ifO d.frzOk (fun _ => onD (Sx.putP ⟨env, sto⟩ p d.frz) fun s' => .ok d.frz s') fun _ => .fail := by exact rn_esc_at
theorem z_E_glo {x : Str} : rn (evalE P cf (n + 1) (.glo x)) ⟨env, sto⟩ = onD (P.glob x) fun d => .ok (.val d) ⟨env, sto⟩ := by exact E_glo
theorem z_E_lit {l : Lit} : rn (evalE P cf (n + 1) (.lit l)) ⟨env, sto⟩ = .ok (.val l.d) ⟨env, sto⟩ := by exact E_lit
theorem z_L_nil : rn (evalL ev []) ⟨env, sto⟩ = .ok [] ⟨env, sto⟩ := by exact L_nil
theorem z_L_cons {e : CE} {es : List CE} : rn (evalL ev (e :: es)) ⟨env, sto⟩ = Out.bind (rn (ev e) ⟨env, sto⟩) fun t s1 => Out.bind (rn (stays t es) s1) fun _ s2 => Out.bind (rn (evalL ev es) s2) fun ts s3 => .ok (t :: ts) s3 := by exact L_cons
theorem z_stays_val {d : D} {es : List CE} : rn (stays (.val d) es) ⟨env, sto⟩ = .ok () ⟨env, sto⟩ := by exact stays_val
theorem z_stays_loc {i : Nat} {es : List CE} : rn (stays (.at ⟨.loc i, []⟩) es) ⟨env, sto⟩ = .ok () ⟨env, sto⟩ := by exact stays_loc
theorem z_stays_acc {i : Nat} {a : Acc} {as : List Acc} {es : List CE} : rn (stays (.at ⟨.loc i, a :: as⟩) es) ⟨env, sto⟩ = ifO (quietL es) (fun _ => .ok () ⟨env, sto⟩) fun _ => .fail := by exact stays_acc
theorem z_stays_fld {i : Nat} {f : Str} {as : List Acc} {es : List CE} : rn (stays (.at ⟨.fld i f, as⟩) es) ⟨env, sto⟩ = ifO (quietL es) (fun _ => .ok () ⟨env, sto⟩) fun _ => .fail := by exact stays_fld
theorem z_stays_nil {t : Tm} : rn (stays t []) ⟨env, sto⟩ = .ok () ⟨env, sto⟩ := by exact stays_nil
theorem z_E_bin {op : Bop} {a b : CE} : rn (evalE P cf (n + 1) (.bin op a b)) ⟨env, sto⟩ = Out.bind (rn (evalE P cf n a) ⟨env, sto⟩) fun ta s1 => Out.bind (rn (stays ta [b]) s1) fun _ s2 => Out.bind (rn (evalE P cf n b) s2) fun tb s3 => rn (binT op ta tb) s3 := by exact E_bin
theorem z_E_cmp {op : Cop} {a b : CE} : rn (evalE P cf (n + 1) (.cmp op a b)) ⟨env, sto⟩ = Out.bind (rn (evalE P cf n a) ⟨env, sto⟩) fun ta s1 => Out.bind (rn (stays ta [b]) s1) fun _ s2 => Out.bind (rn (evalE P cf n b) s2) fun tb s3 => rn (cmpG op ta tb) s3 := by exact E_cmp
theorem z_E_sub {a b : CE} : rn (evalE P cf (n + 1) (.sub a b)) ⟨env, sto⟩ = Out.bind (rn (evalE P cf n a) ⟨env, sto⟩) fun ta s1 => Out.bind (rn (stays ta [b]) s1) fun _ s2 => Out.bind (rn (evalE P cf n b) s2) fun tb s3 => rn (subG ta tb) s3 := by exact E_sub
theorem z_rn_evalD {e : CE} : rn (evalD ev e) ⟨env, sto⟩ = Out.bind (rn (ev e) ⟨env, sto⟩) fun t s1 => rn (deref t) s1 := by exact rn_evalD
theorem z_rn_evalB {e : CE} : rn (evalB ev e) ⟨env, sto⟩ = Out.bind (rn (ev e) ⟨env, sto⟩) fun t s1 => Out.bind (rn (deref t) s1) fun d s2 => truthO s2 d := by exact rn_evalB
theorem z_rn_evalI {e : CE} : rn (evalI ev e) ⟨env, sto⟩ = Out.bind (rn (ev e) ⟨env, sto⟩) fun t s1 => Out.bind (rn (deref t) s1) fun d s2 => intO s2 d := by exact rn_evalI
theorem z_truthO_bl {b : Bool} : truthO ⟨env, sto⟩ (.bl b) = .ok b ⟨env, sto⟩ := by exact truthO_bl
theorem z_intO_int {b : Int} : intO ⟨env, sto⟩ (.int b) = .ok b ⟨env, sto⟩ := by exact intO_int
theorem z_E_neg {a : CE} : rn (evalE P cf (n + 1) (.neg a)) ⟨env, sto⟩ = Out.bind (rn (evalI (evalE P cf n) a) ⟨env, sto⟩) fun i s1 => .ok (.val (.int (-i))) s1 := by exact E_neg
theorem z_E_not {a : CE} : rn (evalE P cf (n + 1) (.not a)) ⟨env, sto⟩ = Out.bind (rn (evalB (evalE P cf n) a) ⟨env, sto⟩) fun b s1 => .ok (.val (.bl (!b))) s1 := by exact E_not
theorem z_E_and {a b : CE} : rn (evalE P cf (n + 1) (.and a b)) ⟨env, sto⟩ = Out.bind (rn (evalB (evalE P cf n) a) ⟨env, sto⟩) fun x s1 => ifO x (fun _ => Out.bind (rn (evalB (evalE P cf n) b) s1) fun y s2 => .ok (.val (.bl y)) s2) fun _ => .ok (.val (.bl false)) s1 := by exact E_and
theorem z_E_or {a b : CE} : rn (evalE P cf (n + 1) (.or a b)) ⟨env, sto⟩ = Out.bind (rn (evalB (evalE P cf n) a) ⟨env, sto⟩) fun x s1 => ifO x (fun _ => .ok (.val (.bl true)) s1) fun _ => Out.bind (rn (evalB (evalE P cf n) b) s1) fun y s2 => .ok (.val (.bl y)) s2 := by exact E_or
theorem z_E_ite {c a b : CE} : rn (evalE P cf (n + 1) (.ite c a b)) ⟨env, sto⟩ = Out.bind (rn (evalB (evalE P cf n) c) ⟨env, sto⟩) fun x s1 => ifO x (fun _ => rn (evalE P cf n a) s1) fun _ => rn (evalE P cf n b) s1 := by exact E_ite
theorem z_E_chain {o1 o2 : Cop} {a b c : CE} : rn (evalE P cf (n + 1) (.chain o1 o2 a b c)) ⟨env, sto⟩ = Out.bind (rn (evalI (evalE P cf n) a) ⟨env, sto⟩) fun x s1 => Out.bind (rn (evalI (evalE P cf n) b) s1) fun y s2 => onD (cmpD o1 (.int x) (.int y)) fun r => ifO r (fun _ =>
    Out.bind (rn (evalI (evalE P cf n) c) s2) fun z s3 => onD (cmpD o2 (.int y) (.int z)) fun r' => .ok (.val (.bl r')) s3) fun _ => .ok (.val (.bl false)) s2 := by exact E_chain
theorem z_E_isN {a : CE} : rn (evalE P cf (n + 1) (.isN a)) ⟨env, sto⟩ = Out.bind (rn (evalE P cf n a) ⟨env, sto⟩) fun t s1 => Out.bind (rn (deref t) s1) fun d s2 => onD (noneB d) fun b => .ok (.val (.bl b)) s2 := by exact E_isN
theorem z_E_notN {a : CE} : rn (evalE P cf (n + 1) (.notN a)) ⟨env, sto⟩ = Out.bind (rn (evalE P cf n a) ⟨env, sto⟩) fun t s1 => Out.bind (rn (deref t) s1) fun d s2 => onD (noneB d) fun b => .ok (.val (.bl (!b))) s2 := by exact E_notN
theorem z_escL_nil : rn (escL []) ⟨env, sto⟩ = .ok [] ⟨env, sto⟩ := by exact escL_nil
theorem z_escL_cons {t : Tm} {ts : List Tm} : rn (escL (t :: ts)) ⟨env, sto⟩ = Out.bind (rn (escL ts) ⟨env, sto⟩) fun ds s1 => Out.bind (rn (escape t) s1) fun d s2 => .ok (d :: ds) s2 := by exact escL_cons
theorem z_E_tup {es : List CE} : rn (evalE P cf (n + 1) (.tup es)) ⟨env, sto⟩ = Out.bind (rn (evalL (evalE P cf n) es) ⟨env, sto⟩) fun ts s1 => Out.bind (rn (escL ts) s1) fun ds s2 => ifO (fits ds.length) (fun _ => .ok (.val (.tup ds)) s2) fun _ => .fail := by exact E_tup
theorem z_E_lst {es : List CE} : rn (evalE P cf (n + 1) (.lst es)) ⟨env, sto⟩ = Out.bind (rn (evalL (evalE P cf n) es) ⟨env, sto⟩) fun ts s1 => Out.bind (rn (escL ts) s1) fun ds s2 => ifO (fits ds.length) (fun _ => .ok (.val (.lst .own ds)) s2) fun _ => .fail := by exact E_lst
theorem z_E_call {f : Nat} {e : CE} {es : List CE} : rn (evalE P cf (n + 1) (.call f (e :: es))) ⟨env, sto⟩ = Out.bind (rn (evalL (evalE P cf n) (e :: es)) ⟨env, sto⟩) fun ts s1 => rn (callT P cf f ts) s1 := by exact E_call
theorem z_E_isi {a : CE} {t : Ty} : rn (evalE P cf (n + 1) (.isi a t)) ⟨env, sto⟩ = Out.bind (rn (evalE P cf n a) ⟨env, sto⟩) fun u s1 => Out.bind (rn (deref u) s1) fun d s2 => ifO (notObj d) (fun _ => onD (isiD P.excUp d t) fun b => .ok (.val (.bl b)) s2) fun _ => .fail := by exact E_isi
theorem z_E_bm {b : Bm} {o : CE} {es : List CE} : rn (evalE P cf (n + 1) (.bm b o es)) ⟨env, sto⟩ = Out.bind (rn (evalE P cf n o) ⟨env, sto⟩) fun t s1 => Out.bind (rn (deref t) s1) fun d s2 => ifO (bmOk b d) (fun _ => Out.bind (rn (stays t es) s2) fun _ s3 => Out.bind (rn (evalL (evalE P cf n) es) s3) fun ts s4 => rn (bmT b t ts) s4) fun _ => .fail := by exact E_bm
theorem z_E_slice {a : CE} {lo hi : Option CE} : rn (evalE P cf (n + 1) (.slice a lo hi)) ⟨env, sto⟩ = rn (sliceP (evalE P cf n) a lo hi) ⟨env, sto⟩ := by exact E_slice
theorem z_derefL_nil : rn (derefL []) ⟨env, sto⟩ = .ok [] ⟨env, sto⟩ := by exact derefL_nil
theorem z_derefL_cons {t : Tm} {ts : List Tm} : rn (derefL (t :: ts)) ⟨env, sto⟩ = Out.bind (rn (deref t) ⟨env, sto⟩) fun d s1 => Out.bind (rn (derefL ts) s1) fun ds s2 => .ok (d :: ds) s2 := by exact derefL_cons
theorem z_rn_binT {op : Bop} {ta tb : Tm} : rn (binT op ta tb) ⟨env, sto⟩ = Out.bind (rn (deref tb) ⟨env, sto⟩) fun b s1 => Out.bind (rn (deref ta) s1) fun a s2 => binV op ta tb s2 a b := by exact rn_binT
theorem z_binV_ii {op : Bop} {ta tb : Tm} {i j : Int} : binV op ta tb ⟨env, sto⟩ (.int i) (.int j) = onD (intOp op i j) fun k => .ok (.val (.int k)) ⟨env, sto⟩ := by exact binV_ii
theorem z_binV_ss {op : Bop} {ta tb : Tm} {x y : Str} : binV op ta tb ⟨env, sto⟩ (.str x) (.str y) = ifO (decide (op = .add) && fits (x.length + y.length)) (fun _ => .ok (.val (.str (x ++ y))) ⟨env, sto⟩) fun _ => .fail := by exact binV_ss
theorem z_binV_si {op : Bop} {ta tb : Tm} {x : Str} {n : Int} : binV op ta tb ⟨env, sto⟩ (.str x) (.int n) = ifO (decide (op = .mul) && decide (-(2 ^ 63) ≤ n ∧ n < 2 ^ 63) && fits (x.length * n.toNat)) (fun _ => .ok (.val (.str (strMul x n))) ⟨env, sto⟩) fun _ => .fail := by exact binV_si
theorem z_binV_ll {op : Bop} {ta tb : Tm} {o q : Fl} {xs ys : List D} : binV op ta tb ⟨env, sto⟩ (.lst o xs) (.lst q ys) = ifO (decide (op = .add)) (fun _ => Out.bind (rn (kidsTr tb) ⟨env, sto⟩) fun ys' s1 => Out.bind (rn (kidsTr ta) s1) fun xs' s2 => ifO (fits (xs'.length + ys'.length)) (fun _ => .ok (.val (.lst .own (xs' ++ ys'))) s2) fun _ => .fail) fun _ => .fail := by exact binV_ll
theorem z_binV_li {op : Bop} {ta tb : Tm} {o : Fl} {xs : List D} {n : Int} : binV op ta tb ⟨env, sto⟩ (.lst o xs) (.int n) = ifO (decide (op = .mul) && decide (-(2 ^ 63) ≤ n ∧ n < 2 ^ 63)) (fun _ => Out.bind (rn (kidsTr ta) ⟨env, sto⟩) fun xs' s1 => ifO (frzOkL xs' && fits (xs'.length * n.toNat)) (fun _ => .ok (.val (.lst .own (List.replicate n.toNat (frzL xs')).flatten)) s1) fun _ => .fail) fun _ => .fail := by exact binV_li
theorem z_rn_cmpG {op : Cop} {ta tb : Tm} : rn (cmpG op ta tb) ⟨env, sto⟩ = Out.bind (rn (deref tb) ⟨env, sto⟩) fun y s1 => ifO (noDT y) (fun _ => rn (cmpT op ta tb) s1) fun _ => .fail := by exact rn_cmpG
theorem z_rn_cmpT {op : Cop} {ta tb : Tm} : rn (cmpT op ta tb) ⟨env, sto⟩ = Out.bind (rn (deref tb) ⟨env, sto⟩) fun y s1 => Out.bind (rn (deref ta) s1) fun x s2 => onD (cmpD op x y) fun r => .ok (.val (.bl r)) s2 := by exact rn_cmpT
theorem z_rn_subG {ta ti : Tm} : rn (subG ta ti) ⟨env, sto⟩ = Out.bind (rn (deref ta) ⟨env, sto⟩) fun d s1 => ifO (noDT d) (fun _ => rn (subT ta ti) s1) fun _ => .fail := by exact rn_subG
theorem z_rn_subT {ta ti : Tm} : rn (subT ta ti) ⟨env, sto⟩ = Out.bind (rn (deref ti) ⟨env, sto⟩) fun i s1 => Out.bind (rn (deref ta) s1) fun a s2 => subV ta s2 a i := by exact rn_subT
theorem z_subV_si {ta : Tm} {x : Str} {k : Int} : subV ta ⟨env, sto⟩ (.str x) (.int k) = ifO (fits x.length) (fun _ => onD (atI x.cps.toList k) fun c => .ok (.val (.str ⟨#[c]⟩)) ⟨env, sto⟩) fun _ => .fail := by exact subV_si
theorem z_subV_li {ta : Tm} {o : Fl} {ds : List D} {k : Int} : subV ta ⟨env, sto⟩ (.lst o ds) (.int k) = onD (ixN ds.length k) fun j => onD ds[j]? fun d => ifO (d.plain || decide (o ≠ .wrt)) (fun _ => rn (child ta (.ix j) d) ⟨env, sto⟩) fun _ => .fail := by exact subV_li
theorem z_subV_ti {ta : Tm} {ds : List D} {k : Int} : subV ta ⟨env, sto⟩ (.tup ds) (.int k) = onD (ixN ds.length k) fun j => onD ds[j]? fun d => rn (child ta (.ix j) d) ⟨env, sto⟩ := by exact subV_ti
theorem z_child_val {d e : D} {a : Acc} : rn (child (.val e) a d) ⟨env, sto⟩ = .ok (.val d) ⟨env, sto⟩ := by exact child_val
theorem z_child_at {d : D} {p : Path} {a : Acc} : rn (child (.at p) a d) ⟨env, sto⟩ = .ok (placed ⟨p.root, p.acc ++ [a]⟩ d) ⟨env, sto⟩ := by exact child_at
theorem z_rn_callR {f n : Nat} {as : List (D × Option Nat)} : rn (callR cf f n as) ⟨env, sto⟩ = backR n (as.map (·.2)) ⟨env, sto⟩ (res (rn (cf f (as.map (·.1))) ⟨[], sto⟩)) := by exact rn_callR
theorem z_rn_callT {f : Nat} {ts : List Tm} : rn (callT P cf f ts) ⟨env, sto⟩ = onD P.fns[f]? fun fd => ifO (decide (ts.length = fd.np)) (fun _ => Out.bind (rn (lendL ts fd.fixed) ⟨env, sto⟩) fun as s1 => rn (callR cf f ts.length as) s1) fun _ => .fail := by exact rn_callT
theorem z_lendL_nil {bs : List Bool} : rn (lendL [] bs) ⟨env, sto⟩ = .ok [] ⟨env, sto⟩ := by exact lendL_nil
theorem z_lendL_cons {t : Tm} {ts : List Tm} {b : Bool} {bs : List Bool} : rn (lendL (t :: ts) (b :: bs)) ⟨env, sto⟩ = Out.bind (rn (lendL ts bs) ⟨env, sto⟩) fun r s1 => Out.bind (rn (lend1 b t) s1) fun x s2 => .ok (x :: r) s2 := by exact lendL_cons
theorem z_lend_val {b : Bool} {d : D} : rn (lend1 b (.val d)) ⟨env, sto⟩ = .ok (d, none) ⟨env, sto⟩ := by exact lend_val
theorem z_lend_f {t : Tm} : rn (lend1 false t) ⟨env, sto⟩ = Out.bind (rn (escape t) ⟨env, sto⟩) fun d s1 => .ok (d, none) s1 := by exact lend_f
theorem z_lend_acc {i : Nat} {a : Acc} {as : List Acc} : rn (lend1 true (.at ⟨.loc i, a :: as⟩)) ⟨env, sto⟩ = Out.bind (rn (escape (.at ⟨.loc i, a :: as⟩)) ⟨env, sto⟩) fun d s1 => .ok (d, none) s1 := by exact lend_acc
theorem z_lend_fld {i : Nat} {f : Str} {as : List Acc} : rn (lend1 true (.at ⟨.fld i f, as⟩)) ⟨env, sto⟩ = Out.bind (rn (escape (.at ⟨.fld i f, as⟩)) ⟨env, sto⟩) fun d s1 => .ok (d, none) s1 := by exact lend_fld
theorem z_backR_ok {n : Nat} {ls : List (Option Nat)} {r : D} {outs : List D} {sto' : List Ob} : backR n ls ⟨env, sto⟩ (.ok r outs sto') = ifO (decide (outs.length = n)) (fun _ => .ok (.val r) (back ls outs ⟨env, sto'⟩)) fun _ => .fail := by exact backR_ok
theorem z_B_exec {b : List CS} : rn (execB P cf wf (n + 1) b) ⟨env, sto⟩ = rn (execL (stepS P (evalE P cf n) (execB P cf wf n) wf) b) ⟨env, sto⟩ := by exact B_exec
theorem z_X_nil {xs : CS → M Flow} : rn (execL xs []) ⟨env, sto⟩ = .ok .nx ⟨env, sto⟩ := by exact X_nil
theorem z_X_cons {xs : CS → M Flow} {c : CS} {r : List CS} : rn (execL xs (c :: r)) ⟨env, sto⟩ = Out.bind (rn (xs c) ⟨env, sto⟩) fun f s1 => flowK xs r s1 f := by exact X_cons
theorem z_flowK_nx {xs : CS → M Flow} {r : List CS} : flowK xs r ⟨env, sto⟩ .nx = rn (execL xs r) ⟨env, sto⟩ := by exact flowK_nx
theorem z_flowK_ret {xs : CS → M Flow} {r : List CS} {d : D} : flowK xs r ⟨env, sto⟩ (.ret d) = .ok (.ret d) ⟨env, sto⟩ := by exact flowK_ret
theorem z_flowK_brk {xs : CS → M Flow} {r : List CS} : flowK xs r ⟨env, sto⟩ .brk = .ok .brk ⟨env, sto⟩ := by exact flowK_brk
theorem z_flowK_cont {xs : CS → M Flow} {r : List CS} : flowK xs r ⟨env, sto⟩ .cont = .ok .cont ⟨env, sto⟩ := by exact flowK_cont
theorem z_S_expr {e : CE} : rn (stepS P ev ex wf (.expr e)) ⟨env, sto⟩ = Out.bind (rn (ev e) ⟨env, sto⟩) fun _ s1 => .ok .nx s1 := by exact S_expr
theorem z_S_ite {c : CE} {a b : List CS} : rn (stepS P ev ex wf (.ite c a b)) ⟨env, sto⟩ = Out.bind (rn (evalB ev c) ⟨env, sto⟩) fun x s1 => ifO x (fun _ => rn (ex a) s1) fun _ => rn (ex b) s1 := by exact S_ite
theorem z_S_ret {e : CE} : rn (stepS P ev ex wf (.ret e)) ⟨env, sto⟩ = Out.bind (rn (ev e) ⟨env, sto⟩) fun t s1 => Out.bind (rn (escape t) s1) fun d s2 => .ok (.ret d) s2 := by exact S_ret
theorem z_S_retN : rn (stepS P ev ex wf .retN) ⟨env, sto⟩ = .ok (.ret .non) ⟨env, sto⟩ := by exact S_retN
theorem z_S_brk : rn (stepS P ev ex wf .brk) ⟨env, sto⟩ = .ok .brk ⟨env, sto⟩ := by exact S_brk
theorem z_S_cont : rn (stepS P ev ex wf .cont) ⟨env, sto⟩ = .ok .cont ⟨env, sto⟩ := by exact S_cont
theorem z_S_pass : rn (stepS P ev ex wf .pass) ⟨env, sto⟩ = .ok .nx ⟨env, sto⟩ := by exact S_pass
theorem z_S_set {p : Pat} {e : CE} : rn (stepS P ev ex wf (.asg (.pat p) e)) ⟨env, sto⟩ = Out.bind (rn (ev e) ⟨env, sto⟩) fun t s1 => Out.bind (rn (escape t) s1) fun d s2 => Out.bind (rn (bindP p d) s2) fun _ s3 => .ok .nx s3 := by exact S_set
theorem z_bindP_tup {ps : List Pat} {ds : List D} : rn (bindP (.tup ps) (.tup ds)) ⟨env, sto⟩ = ifO (decide (ps.length = ds.length)) (fun _ => rn (bindPs ps ds) ⟨env, sto⟩) fun _ => .fail := by exact bindP_tup
theorem z_bindPs_nil {ds : List D} : rn (bindPs [] ds) ⟨env, sto⟩ = .ok () ⟨env, sto⟩ := by exact bindPs_nil
theorem z_bindPs_cons {p : Pat} {ps : List Pat} {d : D} {ds : List D} : rn (bindPs (p :: ps) (d :: ds)) ⟨env, sto⟩ = Out.bind (rn (bindP p d) ⟨env, sto⟩) fun _ s1 => rn (bindPs ps ds) s1 := by exact bindPs_cons
theorem z_S_setItem {a i e : CE} : rn (stepS P ev ex wf (.asg (.sub a i) e)) ⟨env, sto⟩ = Out.bind (rn (ev e) ⟨env, sto⟩) fun te s1 => Out.bind (rn (stays te [a, i]) s1) fun _ s2 => Out.bind (rn (ev a) s2) fun ta s3 => Out.bind (rn (stays ta [i]) s3) fun _ s4 =>
    Out.bind (rn (ev i) s4) fun ti s5 => Out.bind (rn (setItemL ti ta te) s5) fun _ s6 => .ok .nx s6 := by exact S_setItem
theorem z_setV_li {p : Path} {x : D} {ds : List D} {k : Int} : setV p x ⟨env, sto⟩ (.lst .own ds) (.int k) = onD (ixN ds.length k) fun j => onD (Sx.putP ⟨env, sto⟩ p (.lst .own (ds.set j x))) fun s' => .ok () s' := by exact setV_li
theorem z_rn_setItemL {ti te : Tm} {p : Path} : rn (setItemL ti (.at p) te) ⟨env, sto⟩ = Out.bind (rn (deref ti) ⟨env, sto⟩) fun i s1 => Out.bind (rn (escape te) s1) fun x s2 => Out.bind (rn (deref (.at p)) s2) fun a s3 => setV p x s3 a i := by exact rn_setItemL
theorem z_S_setSlice {a e : CE} {l h : Int} : rn (stepS P ev ex wf (.asg (.slice a (some (.lit (.int l))) (some (.lit (.int h)))) e)) ⟨env, sto⟩ = Out.bind (rn (ev e) ⟨env, sto⟩) fun te s1 => Out.bind (rn (stays te [a]) s1) fun _ s2 => Out.bind (rn (ev a) s2) fun ta s3 => Out.bind (rn (setSlice ta te l h) s3) fun _ s6 => .ok .nx s6 := by exact S_setSlice
theorem z_rn_setSlice {ta : Tm} {ys : List D} {l h : Int} : rn (setSlice ta (.val (.lst .own ys)) l h) ⟨env, sto⟩ = Out.bind (rn (ownList ta) ⟨env, sto⟩) fun q s1 => ifO (decide (0 ≤ l ∧ l ≤ h)) (fun _ => ifO (fits (q.2.length + ys.length)) (fun _ => rn (putAt q.1 (.lst .own (q.2.take l.toNat ++ ys ++ q.2.drop h.toNat))) s1) fun _ => .fail) fun _ => .fail := by exact rn_setSlice
theorem z_backR_exc {n : Nat} {ls : List (Option Nat)} {c : Nat} {ps outs : List D} {sto' : List Ob} : backR n ls ⟨env, sto⟩ (.exc c ps outs sto') = ifO (decide (outs.length = n)) (fun _ => .exc c ps (back ls outs ⟨env, sto'⟩)) fun _ => .fail := by exact backR_exc
theorem z_rn_unlocked {α : Type} {ls : List Nat} {m : M α} : rn (unlocked ls m) ⟨env, sto⟩ = unlO ls (rn m ⟨env, sto⟩) := by exact rn_unlocked
theorem z_S_for {p : Pat} {src : Src} {body : List CS} : rn (stepS P ev ex wf (.for p src body)) ⟨env, sto⟩ = Out.bind (rn (srcItems ev (moves p body) src) ⟨env, sto⟩) fun it s1 => forI ex p src body s1 it := by exact S_for
theorem z_compT_t {elt : CE} : compT ev elt ⟨env, sto⟩ true = Out.bind (rn (ev elt) ⟨env, sto⟩) fun t s1 => Out.bind (rn (escape t) s1) fun e s2 => .ok (some e) s2 := by exact compT_t
theorem z_compT_f {elt : CE} : compT ev elt ⟨env, sto⟩ false = .ok none ⟨env, sto⟩ := by exact compT_f
theorem z_condO_none : condO ev ⟨env, sto⟩ none = .ok true ⟨env, sto⟩ := by exact condO_none
theorem z_condO_some {c : CE} : condO ev ⟨env, sto⟩ (some c) = rn (evalB ev c) ⟨env, sto⟩ := by exact condO_some
theorem z_E_comp {own : List Nat} {p : Pat} {src : Src} {cond : Option CE} {elt : CE} : rn (evalE P cf (n + 1) (.comp own p src cond elt)) ⟨env, sto⟩ = Out.bind (rn (srcItems (evalE P cf n) false src) ⟨env, sto⟩) fun it s1 => compI (evalE P cf n) own p cond elt s1 it := by exact E_comp
theorem z_src_it_rn {mv : Bool} {e : CE} : rn (srcItems ev mv (.it e)) ⟨env, sto⟩ = Out.bind (rn (ev e) ⟨env, sto⟩) fun t s1 => rn (kidsFor mv t) s1 := by exact src_it_rn
theorem z_rangeV_1 {b : Int} : rangeV ⟨env, sto⟩ [.int b] = ifO (small62 b) (fun _ => .ok (.ds (rangeL 0 b.toNat) []) ⟨env, sto⟩) fun _ => .fail := by exact rangeV_1
theorem z_rangeV_2 {a b : Int} : rangeV ⟨env, sto⟩ [.int a, .int b] = ifO (small62 a && small62 b) (fun _ => .ok (.ds (rangeL a (b - a).toNat) []) ⟨env, sto⟩) fun _ => .fail := by exact rangeV_2
theorem z_src_range_rn {mv : Bool} {es : List CE} : rn (srcItems ev mv (.range es)) ⟨env, sto⟩ = Out.bind (rn (evalL ev es) ⟨env, sto⟩) fun ts s1 => Out.bind (rn (derefL ts) s1) fun ds s2 => rangeV s2 ds := by exact src_range_rn
theorem z_x_kids_val {d : D} : rn (kidsOf (.val d)) ⟨env, sto⟩ = seqO ⟨env, sto⟩ d := by exact x_kids_val
theorem z_x_kids_at {p : Path} : rn (kidsOf (.at p)) ⟨env, sto⟩ = Out.bind (rn (deref (.at p)) ⟨env, sto⟩) fun d s1 => kidsV p s1 d := by exact x_kids_at
theorem z_x_kidsTr {t : Tm} : rn (kidsTr t) ⟨env, sto⟩ = Out.bind (rn (deref t) ⟨env, sto⟩) fun d s1 => trO s1 t d := by exact x_kidsTr
theorem z_x_biP {b : Bi} {es : List CE} : rn (evalE P cf (n + 1) (.bi b es)) ⟨env, sto⟩ = ifO (plainB b es) (fun _ => Out.bind (rn (evalL (evalE P cf n) es) ⟨env, sto⟩) fun ts s1 => Out.bind (rn (derefL ts) s1) fun ds s2 => ifO (ds.all noDict) (fun _ => onD (biD b ds) fun d => .ok (.val d) s2) fun _ => .fail) fun _ => rnX (biT (evalE P cf n) b es) ⟨env, sto⟩ := by exact x_biP
theorem z_x_biX {b : Bi} {es : List CE} : rnX (biT ev b es) ⟨env, sto⟩ = rn (biT ev b es) ⟨env, sto⟩ := by exact x_biX
theorem z_x_kidsLs {t : Tm} : rn (kidsLs t) ⟨env, sto⟩ = Out.bind (rn (deref t) ⟨env, sto⟩) fun d s1 => kidsLO t s1 d := by exact x_kidsLs
theorem z_x_list1 {e : CE} : rn (biT ev .list [e]) ⟨env, sto⟩ = ifO (rangeE e) (fun _ => rnY (biT ev .list [e]) ⟨env, sto⟩) fun _ => Out.bind (rn (ev e) ⟨env, sto⟩) fun t s1 => Out.bind (rn (kidsLs t) s1) fun l s2 => .ok (.val (.lst .own l)) s2 := by exact x_list1
theorem z_x_tuple1 {e : CE} : rn (biT ev .tuple [e]) ⟨env, sto⟩ = ifO (rangeE e) (fun _ => rnY (biT ev .tuple [e]) ⟨env, sto⟩) fun _ => Out.bind (rn (ev e) ⟨env, sto⟩) fun t s1 => Out.bind (rn (deref t) s1) fun d s2 => tupO t s2 d := by exact x_tuple1
theorem z_x_escV {t : Tm} : rn (escV t) ⟨env, sto⟩ = Out.bind (rn (escape t) ⟨env, sto⟩) fun d s1 => .ok (.val d) s1 := by exact x_escV
theorem z_x_list0 : rn (biT ev .list []) ⟨env, sto⟩ = .ok (.val (.lst .own [])) ⟨env, sto⟩ := by exact x_list0
theorem z_x_sliceT {ta : Tm} {lo hi : Option Int} : rn (sliceT ta lo hi) ⟨env, sto⟩ = Out.bind (rn (deref ta) ⟨env, sto⟩) fun a s1 => cutO ta s1 lo hi a := by exact x_sliceT
theorem z_x_slice0 {a : CE} : rn (sliceP ev a none none) ⟨env, sto⟩ = Out.bind (rn (ev a) ⟨env, sto⟩) fun ta s1 => rn (sliceT ta none none) s1 := by exact x_slice0
theorem z_x_slice1 {a l : CE} : rn (sliceP ev a (some l) none) ⟨env, sto⟩ = Out.bind (rn (ev a) ⟨env, sto⟩) fun ta s1 => Out.bind (rn (stays ta [l]) s1) fun _ s2 => Out.bind (rn (ev l) s2) fun tl s3 => Out.bind (rn (deref tl) s3) fun d s4 => Out.bind (intO s4 d) fun i s5 => rn (sliceT ta (some i) none) s5 := by exact x_slice1
theorem z_x_slice2 {a h : CE} : rn (sliceP ev a none (some h)) ⟨env, sto⟩ = Out.bind (rn (ev a) ⟨env, sto⟩) fun ta s1 => Out.bind (rn (stays ta [h]) s1) fun _ s2 => Out.bind (rn (ev h) s2) fun tl s3 => Out.bind (rn (deref tl) s3) fun d s4 => Out.bind (intO s4 d) fun i s5 => rn (sliceT ta none (some i)) s5 := by exact x_slice2
theorem z_x_slice3 {a l h : CE} : rn (sliceP ev a (some l) (some h)) ⟨env, sto⟩ = Out.bind (rn (ev a) ⟨env, sto⟩) fun ta s1 => Out.bind (rn (stays ta [l, h]) s1) fun _ s2 => Out.bind (rn (evalI ev l) s2) fun i s3 => Out.bind (rn (evalI ev h) s3) fun j s4 => rn (sliceT ta (some i) (some j)) s4 := by exact x_slice3
theorem z_x_bm_str {b : Bm} {x : Str} {ts : List Tm} : rn (bmT b (.val (.str x)) ts) ⟨env, sto⟩ = Out.bind (rn (derefL ts) ⟨env, sto⟩) fun ds s1 => onD (strBm b x ds) fun r => .ok (.val r) s1 := by exact x_bm_str
theorem z_x_own {p : Path} : rn (ownList (.at p)) ⟨env, sto⟩ = Out.bind (rn (deref (.at p)) ⟨env, sto⟩) fun d s1 => ownO p s1 d := by exact x_own
theorem z_x_append {p : Path} {u : Tm} : rn (bmT .append (.at p) [u]) ⟨env, sto⟩ = Out.bind (rn (deref (.at p)) ⟨env, sto⟩) fun d s1 => lstO d (fun _ => Out.bind (rn (escape u) s1) fun x s1 => Out.bind (rn (ownList (.at p)) s1) fun q s2 => ifO (decide (q.2.length < sizeLine)) (fun _ => Out.bind (rn (putAt q.1 (.lst .own (q.2 ++ [x]))) s2) fun _ s3 => .ok (.val .non) s3) fun _ => .fail) fun _ => rnY (bmT .append (.at p) [u]) ⟨env, sto⟩ := by exact x_append
theorem z_x_getK2 {o : Fl} {ks : List Key} {ds : List D} {k u : Tm} : rn (bmT .get (.val (.dK o ks ds)) [k, u]) ⟨env, sto⟩ = Out.bind (rn (deref k) ⟨env, sto⟩) fun k s1 => onD (keyD k) fun k => getO s1 u ((findK ks k).bind fun j => ds[j]?) := by exact x_getK2
theorem z_x_lock_val {d : D} : rn (lockT (.val d)) ⟨env, sto⟩ = .ok [] ⟨env, sto⟩ := by exact x_lock_val
theorem z_x_walked {t : Tm} : rn (walked t) ⟨env, sto⟩ = Out.bind (rn (deref t) ⟨env, sto⟩) fun d s1 => ifO (walkOk t d) (fun _ => Out.bind (rn (kidsOf t) s1) fun l s2 => Out.bind (rn (lockT t) s2) fun ls s3 => .ok (.ds l ls) s3) fun _ => .fail := by exact x_walked
theorem z_x_kidsFor {mv : Bool} {t : Tm} : rn (kidsFor mv t) ⟨env, sto⟩ = Out.bind (rn (deref t) ⟨env, sto⟩) fun d s1 => forK2 mv t s1 d := by exact x_kidsFor
theorem z_x_walkedL {t : Tm} : rn (walkedL t) ⟨env, sto⟩ = Out.bind (rn (deref t) ⟨env, sto⟩) fun d s1 => lstO d (fun _ => rn (walked t) s1) fun _ => .fail := by exact x_walkedL
theorem z_x_src_enum {mv : Bool} {e : CE} : rn (srcItems ev mv (.enum e)) ⟨env, sto⟩ = Out.bind (rn (ev e) ⟨env, sto⟩) fun t s1 => Out.bind (rn (walkedL t) s1) fun it s2 => enumO s2 it := by exact x_src_enum
theorem z_x_src_zip {mv : Bool} {a b : CE} : rn (srcItems ev mv (.zip [a, b])) ⟨env, sto⟩ = Out.bind (rn (ev a) ⟨env, sto⟩) fun t1 s1 => Out.bind (rn (stays t1 [b]) s1) fun _ s2 => Out.bind (rn (ev b) s2) fun t2 s3 => Out.bind (rn (walkedL t2) s3) fun y s4 => Out.bind (rn (walkedL t1) s4) fun x s5 => zipO s5 x y := by exact x_src_zip
theorem z_x_src_zip3 {mv : Bool} {a b c : CE} : rn (srcItems ev mv (.zip [a, b, c])) ⟨env, sto⟩ = Out.bind (rn (ev a) ⟨env, sto⟩) fun t1 s1 => Out.bind (rn (stays t1 [b, c]) s1) fun _ s2 => Out.bind (rn (ev b) s2) fun t2 s3 => Out.bind (rn (stays t2 [c]) s3) fun _ s4 => Out.bind (rn (ev c) s4) fun t3 s5 =>
    Out.bind (rn (walkedL t3) s5) fun z s6 => Out.bind (rn (walkedL t2) s6) fun y s7 => Out.bind (rn (walkedL t1) s7) fun x s8 => zipO3 s8 x y z := by exact x_src_zip3
theorem z_S_while {c : CE} {body : List CS} : rn (stepS P ev ex wf (.while c body)) ⟨env, sto⟩ = rn (whileLoop ev ex c body wf) ⟨env, sto⟩ := by exact S_while
theorem z_S_augN {i : Nat} {op : Bop} {e : CE} : rn (stepS P ev ex wf (.augN i op e)) ⟨env, sto⟩ = Out.bind (rn (getInt i) ⟨env, sto⟩) fun a s1 => Out.bind (rn (evalI ev e) s1) fun b s2 => onD (augI op a b) fun k => Out.bind (rn (bindP (.name i) (.int k)) s2) fun _ s3 => .ok .nx s3 := by exact S_augN
theorem z_x_count {t u : Tm} : rn (bmT .count t [u]) ⟨env, sto⟩ = Out.bind (rn (deref t) ⟨env, sto⟩) fun d s1 => lstO d (fun _ => Out.bind (rn (deref u) s1) fun x s2 => onD (countI d x) fun n => .ok (.val (.int ((n : Nat) : Int))) s2) fun _ => strO d (fun x => Out.bind (rn (derefL [u]) s1) fun ds s2 => onD (strBm .count x ds) fun r => .ok (.val r) s2) fun _ => rnY (bmT .count t [u]) ⟨env, sto⟩ := by exact x_count
theorem z_x_index {t u : Tm} : rn (bmT .index t [u]) ⟨env, sto⟩ = Out.bind (rn (deref t) ⟨env, sto⟩) fun d s1 => lstO d (fun _ => Out.bind (rn (deref u) s1) fun x s2 => onD (indexD d x) fun n => .ok (.val (.int ((n : Nat) : Int))) s2) fun _ => strO d (fun x => Out.bind (rn (derefL [u]) s1) fun ds s2 => onD (strBm .index x ds) fun r => .ok (.val r) s2) fun _ => rnY (bmT .index t [u]) ⟨env, sto⟩ := by exact x_index
theorem z_S_raise {c : Nat} : rn (stepS P ev ex wf (.raise c [])) ⟨env, sto⟩ = .exc c [] ⟨env, sto⟩ := by exact S_raise
theorem z_S_try {b su : List CS} {j : Nat} : rn (stepS P ev ex wf (.try b [([j], none, su)] [])) ⟨env, sto⟩ = tryO P ex j su (rn (ex b) ⟨env, sto⟩) := by exact S_try
theorem z_S_tryAs {b su : List CS} {j i : Nat} : rn (stepS P ev ex wf (.try b [([j], some i, su)] [])) ⟨env, sto⟩ = tryOA P ex j i su (rn (ex b) ⟨env, sto⟩) := by exact S_tryAs
theorem z_E_attr {a : CE} {f : Str} : rn (evalE P cf (n + 1) (.attr a f)) ⟨env, sto⟩ = Out.bind (rn (evalE P cf n a) ⟨env, sto⟩) fun t s1 => Out.bind (rn (deref t) s1) fun d s2 => fldO f s2 d := by exact E_attr
theorem z_S_setFld {o e : CE} {f : Str} : rn (stepS P ev ex wf (.asg (.attr o f) e)) ⟨env, sto⟩ = Out.bind (rn (ev e) ⟨env, sto⟩) fun te s1 => Out.bind (rn (stays te [o]) s1) fun _ s2 => Out.bind (rn (ev o) s2) fun to s3 => Out.bind (rn (deref to) s3) fun d s4 => Out.bind (rn (escape te) s4) fun x s5 => setFO f x s5 d := by exact S_setFld
theorem z_E_mcall {o : CE} {m : Str} {es : List CE} : rn (evalE P cf (n + 1) (.mcall o m es)) ⟨env, sto⟩ = Out.bind (rn (evalE P cf n o) ⟨env, sto⟩) fun t s1 => Out.bind (rn (deref t) s1) fun d s2 => mcO P (evalE P cf n) cf m es s2 d := by exact E_mcall
theorem z_E_new {c : Nat} {es : List CE} : rn (evalE P cf (n + 1) (.new c es)) ⟨env, sto⟩ = Out.bind (rn (evalL (evalE P cf n) es) ⟨env, sto⟩) fun ts s1 => onD (methF P c (Str.ofString "__init__")) fun f => newO P cf c f ts s1 := by exact E_new
theorem z_S_augF {o e : CE} {f : Str} {op : Bop} : rn (stepS P ev ex wf (.augF o f op e)) ⟨env, sto⟩ = Out.bind (rn (ev o) ⟨env, sto⟩) fun t s1 => Out.bind (rn (deref t) s1) fun d s2 => augFO ev op f e s2 d := by exact S_augF
theorem z_lock_fld {k : Nat} {f : Str} {acc : List Acc} : rn (lockT (.at ⟨.fld k f, acc⟩)) ⟨env, sto⟩ = Out.bind (rn (escape (.at ⟨.fld k f, acc⟩)) ⟨env, sto⟩) fun d s1 => ifO (lockOk d) (fun _ => .ok [] s1) fun _ => .fail := by exact lock_fld
end
end VS
open PySem L2 VS
local macro_rules | `(tactic| walk_at "vs") => `(tactic| simp -implicitDefEqProofs only [↓z_rn_pure, ↓z_rn_fail, ↓z_rn_need, ↓z_rn_opt, ↓z_rn_deref_val, ↓z_rn_deref_at, ↓z_rn_putAt, ↓z_rn_esc_val, ↓z_rn_esc_at, ↓z_E_glo, ↓z_E_lit, ↓z_L_nil, ↓z_L_cons, ↓z_stays_val, ↓z_stays_loc, ↓z_stays_acc, ↓z_stays_fld, ↓z_stays_nil, ↓z_E_bin, ↓z_E_cmp, ↓z_E_sub, ↓z_rn_evalD, ↓z_rn_evalB, ↓z_rn_evalI, ↓z_truthO_bl, ↓z_intO_int, ↓z_E_neg, ↓z_E_not, ↓z_E_and, ↓z_E_or, ↓z_E_ite, ↓z_E_chain, ↓z_E_isN, ↓z_E_notN, ↓z_escL_nil, ↓z_escL_cons, ↓z_E_tup, ↓z_E_lst, ↓z_E_call, ↓z_E_isi, ↓z_E_bm, ↓z_E_slice, ↓z_derefL_nil, ↓z_derefL_cons, ↓z_rn_binT, ↓z_binV_ii, ↓z_binV_ss, ↓z_binV_si, ↓z_binV_ll, ↓z_binV_li, ↓z_rn_cmpG, ↓z_rn_cmpT, ↓z_rn_subG, ↓z_rn_subT, ↓z_subV_si, ↓z_subV_li, ↓z_subV_ti, ↓z_child_val, ↓z_child_at, ↓z_rn_callR, ↓z_rn_callT, ↓z_lendL_nil, ↓z_lendL_cons, ↓z_lend_val, ↓z_lend_f, ↓z_lend_acc, ↓z_lend_fld, ↓z_backR_ok, ↓z_B_exec, ↓z_X_nil, ↓z_X_cons, ↓z_flowK_nx, ↓z_flowK_ret, ↓z_flowK_brk, ↓z_flowK_cont, ↓z_S_expr, ↓z_S_ite, ↓z_S_ret, ↓z_S_retN, ↓z_S_brk, ↓z_S_cont, ↓z_S_pass, ↓z_S_set, ↓z_bindP_tup, ↓z_bindPs_nil, ↓z_bindPs_cons, ↓z_S_setItem, ↓z_setV_li, ↓z_rn_setItemL, ↓z_S_setSlice, ↓z_rn_setSlice, ↓z_backR_exc, ↓z_rn_unlocked, ↓z_S_for, ↓z_compT_t, ↓z_compT_f, ↓z_condO_none, ↓z_condO_some, ↓z_E_comp, ↓z_src_it_rn, ↓z_rangeV_1, ↓z_rangeV_2, ↓z_src_range_rn, ↓z_x_kids_val, ↓z_x_kids_at, ↓z_x_kidsTr, ↓z_x_biP, ↓z_x_biX, ↓z_x_kidsLs, ↓z_x_list1, ↓z_x_tuple1, ↓z_x_escV, ↓z_x_list0, ↓z_x_sliceT, ↓z_x_slice0, ↓z_x_slice1, ↓z_x_slice2, ↓z_x_slice3, ↓z_x_bm_str, ↓z_x_own, ↓z_x_append, ↓z_x_getK2, ↓z_x_lock_val, ↓z_x_walked, ↓z_x_kidsFor, ↓z_x_walkedL, ↓z_x_src_enum, ↓z_x_src_zip, ↓z_x_src_zip3, ↓z_S_while, ↓z_S_augN, ↓z_x_count, ↓z_x_index, ↓z_S_raise, ↓z_S_try, ↓z_S_tryAs, ↓z_E_attr, ↓z_S_setFld, ↓z_E_mcall, ↓z_E_new, ↓z_S_augF, ↓z_lock_fld, ↓bind_ok, ↓bind_exc, ↓bind_fail, ↓onD_some, ↓onD_none, ↓ifO_t, ↓ifO_f, ↓E_loc, ↓S_retM, ↓bindP_name, ↓lend_t, ↓compI_ds, ↓comp_cons, bind_ok, bind_exc, bind_fail, onD_some, onD_none, ifO_t, ifO_f, bind_assoc,
  seqO_tup, seqO_lst, kidsV_tup, kidsV_lst, trO_own, trO_lck, trO_frz, plainB, rangeE, biD_len_lst, biD_len_tup, biD_abs, biD_max, biD_min, biD_int, biD_sum, biD_all, biD_any, plainL_ints, plainL_strs, plainL_bls, plainL_append, cutO_str, cutO_val, cutO_at, ownO_own, lstO_lst, bmOk_append, bmOk_join, bmOk_index, bmOk_getK, keyD_int, keyD_str, lock_loc, lckO_own, lckO_lck, lckO_tup, forK2_str, forK2_lv, forK2_la, forK2_tv, forK2_ta, walkOk_val, walkOk_own, walkOk_lck, walkOk_frz, walkOk_tup, unlock_cons, unlE_lck, List.all_cons, List.all_nil, forI_ds, srcLocs, moves, patNames, changesL, changes1, onD_map, W_onD, List.getElem?_map, Bool.and_false, Bool.false_and, Bool.or_false, Bool.false_or, Bool.false_eq_true, List.contains_cons, beq_self_eq_true, Bool.true_eq_false, getO_some, getO_none, Option.bind_none, eq_ll_int, eq_ll_nil, in_tup, in_str, in_lst, in_dK, flat_int, flat_str, flat_bl, flat_non, eqF_ii, List.any_cons, List.any_nil, isInL_ints, frz_plain_list, frz_plain_strs, frzOk_ints, frzOk_strs, clr, backE, Option.getD_some, isi_int_int, isi_int_bool, isi_int_str, isi_int_list, isi_int_tuple, notObj_int, isi_str_int, isi_str_bool, isi_str_str, isi_str_list, isi_str_tuple, notObj_str, isi_bl_int, isi_bl_bool, isi_bl_str, isi_bl_list, isi_bl_tuple, notObj_bl, isi_non_int, isi_non_bool, isi_non_str, isi_non_list, isi_non_tuple, notObj_non, isi_lst_int, isi_lst_bool, isi_lst_str, isi_lst_list, isi_lst_tuple, notObj_lst, isi_tup_int, isi_tup_bool, isi_tup_str, isi_tup_list, isi_tup_tuple, notObj_tup, Option.some.injEq, exists_eq_left', cutL_map, cutA_all, enumO_ds, zipO_ds, zip2_map, getInt_rn, gI_int, augI_add, augI_sub, bmOk_count_l, bmOk_index_l, countI_ints, ifP_t, ifP_f, strO_str, lstO_str, Bool.not_eq_true', Bool.not_eq_false', ↓onD_divmod, comp_nil, placed_int, placed_str, placed_bl, placed_non, placed_obj, placed_exc, placed_own, placed_lck, placed_frz, placed_wrt, placed_dKo, placed_dTo, placed_dKw,
  locO_int, locO_str, locO_bl, locO_non, locO_obj, locO_exc, locO_own, locO_lck, locO_frz, locO_wrt, locO_dKo, locO_dTo, locO_tup, getP_loc, get_nil, get_cons, putP_loc, put_nil, put_cons, Option.bind_some, Option.map_some,
  Lit_int, Lit_str, Lit_bl, Lit_non, cmp_eq, cmp_ne, cmp_lt, cmp_le, cmp_gt, cmp_ge, cmp_in, cmp_nin, eq_ii, noDT_int, noDT_str, noDT_bl, noDT_non, noDT_lst, noDT_tup, noDT_dK, noDict_int, noDict_str, noDict_bl, noDict_non, noDict_lst, noDict_tup, truthO_bl, intO_int,
  intOp_add, intOp_sub, intOp_bor, ↓onD_mul, ↓onD_fdiv, ↓onD_mod, ↓onD_pow, binV_ii, flowK_nx, flowK_ret, flowK_brk, flowK_cont, retO_int, retO_bl, retO_str, retO_non, retO_lst, retO_tup, retO_dK, retO_dT, retO_obj,
  lendO_lst, lendO_tup, lendO_dK, lendO_dT, back_nil, back_some, back_none, W_ok, W_exc, W_fail, W_need, W_ifO, ↓W_bind, W_unl, W_nr, W_inB, unlock_nil, endQ_ret, endQ_nx, maskL,
  List.cons_append, List.nil_append, List.replicate_succ, List.replicate_zero, List.getElem?_cons_zero, List.getElem?_cons_succ, List.set_cons_zero, List.set_cons_succ, List.length_cons, List.length_nil, List.length_map, List.map_cons, List.map_nil,
  Nat.reduceSub, Nat.reduceAdd, Nat.reduceLT, Nat.reduceEqDiff, Nat.reduceLeDiff, Int.reduceToNat, Bool.or_true, Bool.true_or, Bool.and_true, Bool.true_and, Bool.not_true, Bool.not_false, decide_true, decide_false, decide_eq_true_eq, decide_eq_false_iff_not, ite_true, ite_false, if_true, if_false, reduceCtorEq, ne_eq, not_true_eq_false, not_false_eq_true, and_true, true_and, imp_not, imp_notB, Int.reduceLT, Int.reduceLE, Int.reduceNeg, true_implies, implies_true, false_implies, and_self, D.plain, plainL, ixN_0, ixN_1, ixN_2, ixN_3, ixN_4, ixN_5, ixN_6, ixN_7, ixN_8, ixN_9, noneB_lst, noneB_tup, noneB_int, noneB_str, noneB_bl, noneB_non, isi_exc_exc, isi_exc_verr, notObj_exc, kidsLO_str, kidsLO_lst, kidsLO_tup, tupO_tup, tupO_lst, rnY_moved, patsNames, rootOf, Option.some_beq_some, Nat.reduceBEq, for_nil, ↓reduceIte, *])
local macro_rules | `(tactic| walk_at "vs0") => `(tactic| simp -implicitDefEqProofs only [↓z_rn_pure, ↓z_rn_fail, ↓z_rn_need, ↓z_rn_opt, ↓z_rn_deref_val, ↓z_rn_deref_at, ↓z_rn_putAt, ↓z_rn_esc_val, ↓z_rn_esc_at, ↓z_E_glo, ↓z_E_lit, ↓z_L_nil, ↓z_L_cons, ↓z_stays_val, ↓z_stays_loc, ↓z_stays_acc, ↓z_stays_fld, ↓z_stays_nil, ↓z_E_bin, ↓z_E_cmp, ↓z_E_sub, ↓z_rn_evalD, ↓z_rn_evalB, ↓z_rn_evalI, ↓z_truthO_bl, ↓z_intO_int, ↓z_E_neg, ↓z_E_not, ↓z_E_and, ↓z_E_or, ↓z_E_ite, ↓z_E_chain, ↓z_E_isN, ↓z_E_notN, ↓z_escL_nil, ↓z_escL_cons, ↓z_E_tup, ↓z_E_lst, ↓z_E_call, ↓z_E_isi, ↓z_E_bm, ↓z_E_slice, ↓z_derefL_nil, ↓z_derefL_cons, ↓z_rn_binT, ↓z_binV_ii, ↓z_binV_ss, ↓z_binV_si, ↓z_binV_ll, ↓z_binV_li, ↓z_rn_cmpG, ↓z_rn_cmpT, ↓z_rn_subG, ↓z_rn_subT, ↓z_subV_si, ↓z_subV_li, ↓z_subV_ti, ↓z_child_val, ↓z_child_at, ↓z_rn_callR, ↓z_rn_callT, ↓z_lendL_nil, ↓z_lendL_cons, ↓z_lend_val, ↓z_lend_f, ↓z_lend_acc, ↓z_lend_fld, ↓z_backR_ok, ↓z_B_exec, ↓z_X_nil, ↓z_X_cons, ↓z_flowK_nx, ↓z_flowK_ret, ↓z_flowK_brk, ↓z_flowK_cont, ↓z_S_expr, ↓z_S_ite, ↓z_S_ret, ↓z_S_retN, ↓z_S_brk, ↓z_S_cont, ↓z_S_pass, ↓z_S_set, ↓z_bindP_tup, ↓z_bindPs_nil, ↓z_bindPs_cons, ↓z_S_setItem, ↓z_setV_li, ↓z_rn_setItemL, ↓z_S_setSlice, ↓z_rn_setSlice, ↓z_backR_exc, ↓z_rn_unlocked, ↓z_S_for, ↓z_compT_t, ↓z_compT_f, ↓z_condO_none, ↓z_condO_some, ↓z_E_comp, ↓z_src_it_rn, ↓z_rangeV_1, ↓z_rangeV_2, ↓z_src_range_rn, ↓z_x_kids_val, ↓z_x_kids_at, ↓z_x_kidsTr, ↓z_x_biP, ↓z_x_biX, ↓z_x_kidsLs, ↓z_x_list1, ↓z_x_tuple1, ↓z_x_escV, ↓z_x_list0, ↓z_x_sliceT, ↓z_x_slice0, ↓z_x_slice1, ↓z_x_slice2, ↓z_x_slice3, ↓z_x_bm_str, ↓z_x_own, ↓z_x_append, ↓z_x_getK2, ↓z_x_lock_val, ↓z_x_walked, ↓z_x_kidsFor, ↓z_x_walkedL, ↓z_x_src_enum, ↓z_x_src_zip, ↓z_x_src_zip3, ↓z_S_while, ↓z_S_augN, ↓z_x_count, ↓z_x_index, ↓z_S_raise, ↓z_S_try, ↓z_S_tryAs, ↓z_E_attr, ↓z_S_setFld, ↓z_E_mcall, ↓z_E_new, ↓z_S_augF, ↓z_lock_fld, ↓bind_ok, ↓bind_exc, ↓bind_fail, ↓onD_some, ↓onD_none, ↓ifO_t, ↓ifO_f, ↓E_loc, ↓S_retM, ↓bindP_name, ↓lend_t, ↓compI_ds, ↓comp_cons, bind_ok, bind_exc, bind_fail, onD_some, onD_none, ifO_t, ifO_f, bind_assoc,
  seqO_tup, seqO_lst, kidsV_tup, kidsV_lst, trO_own, trO_lck, trO_frz, plainB, rangeE, biD_len_lst, biD_len_tup, biD_abs, biD_max, biD_min, biD_int, biD_sum, biD_all, biD_any, plainL_ints, plainL_strs, plainL_bls, plainL_append, cutO_str, cutO_val, cutO_at, ownO_own, lstO_lst, bmOk_append, bmOk_join, bmOk_index, bmOk_getK, keyD_int, keyD_str, lock_loc, lckO_own, lckO_lck, lckO_tup, forK2_str, forK2_lv, forK2_la, forK2_tv, forK2_ta, walkOk_val, walkOk_own, walkOk_lck, walkOk_frz, walkOk_tup, unlock_cons, unlE_lck, List.all_cons, List.all_nil, forI_ds, srcLocs, moves, patNames, changesL, changes1, onD_map, W_onD, List.getElem?_map, Bool.and_false, Bool.false_and, Bool.or_false, Bool.false_or, Bool.false_eq_true, List.contains_cons, beq_self_eq_true, Bool.true_eq_false, getO_some, getO_none, Option.bind_none, eq_ll_int, eq_ll_nil, in_tup, in_str, in_lst, in_dK, flat_int, flat_str, flat_bl, flat_non, eqF_ii, List.any_cons, List.any_nil, isInL_ints, frz_plain_list, frz_plain_strs, frzOk_ints, frzOk_strs, clr, backE, Option.getD_some, isi_int_int, isi_int_bool, isi_int_str, isi_int_list, isi_int_tuple, notObj_int, isi_str_int, isi_str_bool, isi_str_str, isi_str_list, isi_str_tuple, notObj_str, isi_bl_int, isi_bl_bool, isi_bl_str, isi_bl_list, isi_bl_tuple, notObj_bl, isi_non_int, isi_non_bool, isi_non_str, isi_non_list, isi_non_tuple, notObj_non, isi_lst_int, isi_lst_bool, isi_lst_str, isi_lst_list, isi_lst_tuple, notObj_lst, isi_tup_int, isi_tup_bool, isi_tup_str, isi_tup_list, isi_tup_tuple, notObj_tup, Option.some.injEq, exists_eq_left', cutL_map, cutA_all, enumO_ds, zipO_ds, zip2_map, getInt_rn, gI_int, augI_add, augI_sub, bmOk_count_l, bmOk_index_l, countI_ints, ifP_t, ifP_f, strO_str, lstO_str, Bool.not_eq_true', Bool.not_eq_false', ↓onD_divmod, comp_nil, placed_int, placed_str, placed_bl, placed_non, placed_obj, placed_exc, placed_own, placed_lck, placed_frz, placed_wrt, placed_dKo, placed_dTo, placed_dKw,
  locO_int, locO_str, locO_bl, locO_non, locO_obj, locO_exc, locO_own, locO_lck, locO_frz, locO_wrt, locO_dKo, locO_dTo, locO_tup, getP_loc, get_nil, get_cons, putP_loc, put_nil, put_cons, Option.bind_some, Option.map_some,
  Lit_int, Lit_str, Lit_bl, Lit_non, cmp_eq, cmp_ne, cmp_lt, cmp_le, cmp_gt, cmp_ge, cmp_in, cmp_nin, eq_ii, noDT_int, noDT_str, noDT_bl, noDT_non, noDT_lst, noDT_tup, noDT_dK, noDict_int, noDict_str, noDict_bl, noDict_non, noDict_lst, noDict_tup, truthO_bl, intO_int,
  intOp_add, intOp_sub, intOp_bor, ↓onD_mul, ↓onD_fdiv, ↓onD_mod, ↓onD_pow, binV_ii, flowK_nx, flowK_ret, flowK_brk, flowK_cont, retO_int, retO_bl, retO_str, retO_non, retO_lst, retO_tup, retO_dK, retO_dT, retO_obj,
  lendO_lst, lendO_tup, lendO_dK, lendO_dT, back_nil, back_some, back_none, W_ok, W_exc, W_fail, W_need, W_ifO, ↓W_bind, W_unl, W_nr, W_inB, unlock_nil, endQ_ret, endQ_nx, maskL,
  List.cons_append, List.nil_append, List.replicate_succ, List.replicate_zero, List.getElem?_cons_zero, List.getElem?_cons_succ, List.set_cons_zero, List.set_cons_succ, List.length_cons, List.length_nil, List.length_map, List.map_cons, List.map_nil,
  Nat.reduceSub, Nat.reduceAdd, Nat.reduceLT, Nat.reduceEqDiff, Nat.reduceLeDiff, Int.reduceToNat, Bool.or_true, Bool.true_or, Bool.and_true, Bool.true_and, Bool.not_true, Bool.not_false, decide_true, decide_false, decide_eq_true_eq, decide_eq_false_iff_not, ite_true, ite_false, if_true, if_false, reduceCtorEq, ne_eq, not_true_eq_false, not_false_eq_true, and_true, true_and, imp_not, imp_notB, Int.reduceLT, Int.reduceLE, Int.reduceNeg, true_implies, implies_true, false_implies, and_self, D.plain, plainL, ixN_0, ixN_1, ixN_2, ixN_3, ixN_4, ixN_5, ixN_6, ixN_7, ixN_8, ixN_9, noneB_lst, noneB_tup, noneB_int, noneB_str, noneB_bl, noneB_non, isi_exc_exc, isi_exc_verr, notObj_exc, kidsLO_str, kidsLO_lst, kidsLO_tup, tupO_tup, tupO_lst, rnY_moved, patsNames, rootOf, Option.some_beq_some, Nat.reduceBEq, for_nil, ↓reduceIte])
local macro_rules | `(tactic| walk_at "vsi") => `(tactic| simp -implicitDefEqProofs only [↓z_rn_pure, ↓z_rn_fail, ↓z_rn_need, ↓z_rn_opt, ↓z_rn_deref_val, ↓z_rn_deref_at, ↓z_rn_putAt, ↓z_rn_esc_val, ↓z_rn_esc_at, ↓z_E_glo, ↓z_E_lit, ↓z_L_nil, ↓z_L_cons, ↓z_stays_val, ↓z_stays_loc, ↓z_stays_acc, ↓z_stays_fld, ↓z_stays_nil, ↓z_E_bin, ↓z_E_cmp, ↓z_E_sub, ↓z_rn_evalD, ↓z_rn_evalB, ↓z_rn_evalI, ↓z_truthO_bl, ↓z_intO_int, ↓z_E_neg, ↓z_E_not, ↓z_E_and, ↓z_E_or, ↓z_E_ite, ↓z_E_chain, ↓z_E_isN, ↓z_E_notN, ↓z_escL_nil, ↓z_escL_cons, ↓z_E_tup, ↓z_E_lst, ↓z_E_call, ↓z_E_isi, ↓z_E_bm, ↓z_E_slice, ↓z_derefL_nil, ↓z_derefL_cons, ↓z_rn_binT, ↓z_binV_ii, ↓z_binV_ss, ↓z_binV_si, ↓z_binV_ll, ↓z_binV_li, ↓z_rn_cmpG, ↓z_rn_cmpT, ↓z_rn_subG, ↓z_rn_subT, ↓z_subV_si, ↓z_subV_li, ↓z_subV_ti, ↓z_child_val, ↓z_child_at, ↓z_rn_callR, ↓z_rn_callT, ↓z_lendL_nil, ↓z_lendL_cons, ↓z_lend_val, ↓z_lend_f, ↓z_lend_acc, ↓z_lend_fld, ↓z_backR_ok, ↓z_B_exec, ↓z_X_nil, ↓z_X_cons, ↓z_flowK_nx, ↓z_flowK_ret, ↓z_flowK_brk, ↓z_flowK_cont, ↓z_S_expr, ↓z_S_ite, ↓z_S_ret, ↓z_S_retN, ↓z_S_brk, ↓z_S_cont, ↓z_S_pass, ↓z_S_set, ↓z_bindP_tup, ↓z_bindPs_nil, ↓z_bindPs_cons, ↓z_S_setItem, ↓z_setV_li, ↓z_rn_setItemL, ↓z_S_setSlice, ↓z_rn_setSlice, ↓z_backR_exc, ↓z_rn_unlocked, ↓z_S_for, ↓z_compT_t, ↓z_compT_f, ↓z_condO_none, ↓z_condO_some, ↓z_E_comp, ↓z_src_it_rn, ↓z_rangeV_1, ↓z_rangeV_2, ↓z_src_range_rn, ↓z_x_kids_val, ↓z_x_kids_at, ↓z_x_kidsTr, ↓z_x_biP, ↓z_x_biX, ↓z_x_kidsLs, ↓z_x_list1, ↓z_x_tuple1, ↓z_x_escV, ↓z_x_list0, ↓z_x_sliceT, ↓z_x_slice0, ↓z_x_slice1, ↓z_x_slice2, ↓z_x_slice3, ↓z_x_bm_str, ↓z_x_own, ↓z_x_append, ↓z_x_getK2, ↓z_x_lock_val, ↓z_x_walked, ↓z_x_kidsFor, ↓z_x_walkedL, ↓z_x_src_enum, ↓z_x_src_zip, ↓z_x_src_zip3, ↓z_S_while, ↓z_S_augN, ↓z_x_count, ↓z_x_index, ↓z_S_raise, ↓z_S_try, ↓z_S_tryAs, ↓z_E_attr, ↓z_S_setFld, ↓z_E_mcall, ↓z_E_new, ↓z_S_augF, ↓z_lock_fld, ↓bind_ok, ↓bind_exc, ↓bind_fail, ↓onD_some, ↓onD_none, ↓ifO_t, ↓ifO_f, ↓E_loc, ↓S_retM, ↓bindP_name, ↓lend_t, ↓compI_ds, ↓comp_cons, bind_ok, bind_exc, bind_fail, onD_some, onD_none, ifO_t, ifO_f, bind_assoc,
  seqO_tup, seqO_lst, kidsV_tup, kidsV_lst, trO_own, trO_lck, trO_frz, plainB, rangeE, biD_len_lst, biD_len_tup, biD_abs, biD_max, biD_min, biD_int, biD_sum, biD_all, biD_any, plainL_ints, plainL_strs, plainL_bls, plainL_append, cutO_str, cutO_val, cutO_at, ownO_own, lstO_lst, bmOk_append, bmOk_join, bmOk_index, bmOk_getK, keyD_int, keyD_str, lock_loc, lckO_own, lckO_lck, lckO_tup, forK2_str, forK2_lv, forK2_la, forK2_tv, forK2_ta, walkOk_val, walkOk_own, walkOk_lck, walkOk_frz, walkOk_tup, unlock_cons, unlE_lck, List.all_cons, List.all_nil, forI_ds, srcLocs, moves, patNames, changesL, changes1, onD_map, W_onD, List.getElem?_map, Bool.and_false, Bool.false_and, Bool.or_false, Bool.false_or, Bool.false_eq_true, List.contains_cons, beq_self_eq_true, Bool.true_eq_false, getO_some, getO_none, Option.bind_none, eq_ll_int, eq_ll_nil, in_tup, in_str, in_lst, in_dK, flat_int, flat_str, flat_bl, flat_non, eqF_ii, List.any_cons, List.any_nil, isInL_ints, frz_plain_list, frz_plain_strs, frzOk_ints, frzOk_strs, clr, backE, Option.getD_some, isi_int_int, isi_int_bool, isi_int_str, isi_int_list, isi_int_tuple, notObj_int, isi_str_int, isi_str_bool, isi_str_str, isi_str_list, isi_str_tuple, notObj_str, isi_bl_int, isi_bl_bool, isi_bl_str, isi_bl_list, isi_bl_tuple, notObj_bl, isi_non_int, isi_non_bool, isi_non_str, isi_non_list, isi_non_tuple, notObj_non, isi_lst_int, isi_lst_bool, isi_lst_str, isi_lst_list, isi_lst_tuple, notObj_lst, isi_tup_int, isi_tup_bool, isi_tup_str, isi_tup_list, isi_tup_tuple, notObj_tup, Option.some.injEq, exists_eq_left', cutL_map, cutA_all, enumO_ds, zipO_ds, zip2_map, getInt_rn, gI_int, augI_add, augI_sub, bmOk_count_l, bmOk_index_l, countI_ints, ifP_t, ifP_f, strO_str, lstO_str, Bool.not_eq_true', Bool.not_eq_false', ↓onD_divmod, comp_nil, placed_int, placed_str, placed_bl, placed_non, placed_obj, placed_exc, placed_own, placed_lck, placed_frz, placed_wrt, placed_dKo, placed_dTo, placed_dKw,
  locO_int, locO_str, locO_bl, locO_non, locO_obj, locO_exc, locO_own, locO_lck, locO_frz, locO_wrt, locO_dKo, locO_dTo, locO_tup, getP_loc, get_nil, get_cons, putP_loc, put_nil, put_cons, Option.bind_some, Option.map_some,
  Lit_int, Lit_str, Lit_bl, Lit_non, cmp_eq, cmp_ne, cmp_lt, cmp_le, cmp_gt, cmp_ge, cmp_in, cmp_nin, eq_ii, noDT_int, noDT_str, noDT_bl, noDT_non, noDT_lst, noDT_tup, noDT_dK, noDict_int, noDict_str, noDict_bl, noDict_non, noDict_lst, noDict_tup, truthO_bl, intO_int,
  intOp_add, intOp_sub, intOp_bor, ↓onD_mul, ↓onD_fdiv, ↓onD_mod, ↓onD_pow, binV_ii, flowK_nx, flowK_ret, flowK_brk, flowK_cont, retO_int, retO_bl, retO_str, retO_non, retO_lst, retO_tup, retO_dK, retO_dT, retO_obj,
  lendO_lst, lendO_tup, lendO_dK, lendO_dT, back_nil, back_some, back_none, W_ok, W_exc, W_fail, W_need, W_ifO, ↓W_bind, W_unl, W_nr, W_inB, unlock_nil, endQ_ret, endQ_nx, maskL,
  List.cons_append, List.nil_append, List.replicate_succ, List.replicate_zero, List.getElem?_cons_zero, List.getElem?_cons_succ, List.set_cons_zero, List.set_cons_succ, List.length_cons, List.length_nil, List.length_map, List.map_cons, List.map_nil,
  Nat.reduceSub, Nat.reduceAdd, Nat.reduceLT, Nat.reduceEqDiff, Nat.reduceLeDiff, Int.reduceToNat, Bool.or_true, Bool.true_or, Bool.and_true, Bool.true_and, Bool.not_true, Bool.not_false, decide_true, decide_false, decide_eq_true_eq, decide_eq_false_iff_not, ite_true, ite_false, if_true, if_false, reduceCtorEq, ne_eq, not_true_eq_false, not_false_eq_true, and_true, true_and, imp_not, imp_notB, Int.reduceLT, Int.reduceLE, Int.reduceNeg, true_implies, implies_true, false_implies, and_self, D.plain, plainL, ixN_0, ixN_1, ixN_2, ixN_3, ixN_4, ixN_5, ixN_6, ixN_7, ixN_8, ixN_9, noneB_lst, noneB_tup, noneB_int, noneB_str, noneB_bl, noneB_non, isi_exc_exc, isi_exc_verr, notObj_exc, kidsLO_str, kidsLO_lst, kidsLO_tup, tupO_tup, tupO_lst, rnY_moved, patsNames, rootOf, Option.some_beq_some, Nat.reduceBEq, for_nil, ↓reduceIte, Int.reduceEq, *])
local macro_rules | `(tactic| walk_at "vso") => `(tactic| simp -implicitDefEqProofs only [↓z_rn_pure, ↓z_rn_fail, ↓z_rn_need, ↓z_rn_opt, ↓z_rn_deref_val, ↓z_rn_deref_at, ↓z_rn_putAt, ↓z_rn_esc_val, ↓z_rn_esc_at, ↓z_E_glo, ↓z_E_lit, ↓z_L_nil, ↓z_L_cons, ↓z_stays_val, ↓z_stays_loc, ↓z_stays_acc, ↓z_stays_fld, ↓z_stays_nil, ↓z_E_bin, ↓z_E_cmp, ↓z_E_sub, ↓z_rn_evalD, ↓z_rn_evalB, ↓z_rn_evalI, ↓z_truthO_bl, ↓z_intO_int, ↓z_E_neg, ↓z_E_not, ↓z_E_and, ↓z_E_or, ↓z_E_ite, ↓z_E_chain, ↓z_E_isN, ↓z_E_notN, ↓z_escL_nil, ↓z_escL_cons, ↓z_E_tup, ↓z_E_lst, ↓z_E_call, ↓z_E_isi, ↓z_E_bm, ↓z_E_slice, ↓z_derefL_nil, ↓z_derefL_cons, ↓z_rn_binT, ↓z_binV_ii, ↓z_binV_ss, ↓z_binV_si, ↓z_binV_ll, ↓z_binV_li, ↓z_rn_cmpG, ↓z_rn_cmpT, ↓z_rn_subG, ↓z_rn_subT, ↓z_subV_si, ↓z_subV_li, ↓z_subV_ti, ↓z_child_val, ↓z_child_at, ↓z_rn_callR, ↓z_rn_callT, ↓z_lendL_nil, ↓z_lendL_cons, ↓z_lend_val, ↓z_lend_f, ↓z_lend_acc, ↓z_lend_fld, ↓z_backR_ok, ↓z_B_exec, ↓z_X_nil, ↓z_X_cons, ↓z_flowK_nx, ↓z_flowK_ret, ↓z_flowK_brk, ↓z_flowK_cont, ↓z_S_expr, ↓z_S_ite, ↓z_S_ret, ↓z_S_retN, ↓z_S_brk, ↓z_S_cont, ↓z_S_pass, ↓z_S_set, ↓z_bindP_tup, ↓z_bindPs_nil, ↓z_bindPs_cons, ↓z_S_setItem, ↓z_setV_li, ↓z_rn_setItemL, ↓z_S_setSlice, ↓z_rn_setSlice, ↓z_backR_exc, ↓z_rn_unlocked, ↓z_S_for, ↓z_compT_t, ↓z_compT_f, ↓z_condO_none, ↓z_condO_some, ↓z_E_comp, ↓z_src_it_rn, ↓z_rangeV_1, ↓z_rangeV_2, ↓z_src_range_rn, ↓z_x_kids_val, ↓z_x_kids_at, ↓z_x_kidsTr, ↓z_x_biP, ↓z_x_biX, ↓z_x_kidsLs, ↓z_x_list1, ↓z_x_tuple1, ↓z_x_escV, ↓z_x_list0, ↓z_x_sliceT, ↓z_x_slice0, ↓z_x_slice1, ↓z_x_slice2, ↓z_x_slice3, ↓z_x_bm_str, ↓z_x_own, ↓z_x_append, ↓z_x_getK2, ↓z_x_lock_val, ↓z_x_walked, ↓z_x_kidsFor, ↓z_x_walkedL, ↓z_x_src_enum, ↓z_x_src_zip, ↓z_x_src_zip3, ↓z_S_while, ↓z_S_augN, ↓z_x_count, ↓z_x_index, ↓z_S_raise, ↓z_S_try, ↓z_S_tryAs, ↓z_E_attr, ↓z_S_setFld, ↓z_E_mcall, ↓z_E_new, ↓z_S_augF, ↓z_lock_fld, ↓bind_ok, ↓bind_exc, ↓bind_fail, ↓onD_some, ↓onD_none, ↓ifO_t, ↓ifO_f, ↓E_loc, ↓S_retM, ↓bindP_name, ↓lend_t, ↓compI_ds, ↓comp_cons, bind_ok, bind_exc, bind_fail, onD_some, onD_none, ifO_t, ifO_f, bind_assoc,
  seqO_tup, seqO_lst, kidsV_tup, kidsV_lst, trO_own, trO_lck, trO_frz, plainB, rangeE, biD_len_lst, biD_len_tup, biD_abs, biD_max, biD_min, biD_int, biD_sum, biD_all, biD_any, plainL_ints, plainL_strs, plainL_bls, plainL_append, cutO_str, cutO_val, cutO_at, ownO_own, lstO_lst, bmOk_append, bmOk_join, bmOk_index, bmOk_getK, keyD_int, keyD_str, lock_loc, lckO_own, lckO_lck, lckO_tup, forK2_str, forK2_lv, forK2_la, forK2_tv, forK2_ta, walkOk_val, walkOk_own, walkOk_lck, walkOk_frz, walkOk_tup, unlock_cons, unlE_lck, List.all_cons, List.all_nil, forI_ds, srcLocs, moves, patNames, changesL, changes1, onD_map, W_onD, List.getElem?_map, Bool.and_false, Bool.false_and, Bool.or_false, Bool.false_or, Bool.false_eq_true, List.contains_cons, beq_self_eq_true, Bool.true_eq_false, getO_some, getO_none, Option.bind_none, eq_ll_int, eq_ll_nil, in_tup, in_str, in_lst, in_dK, flat_int, flat_str, flat_bl, flat_non, eqF_ii, List.any_cons, List.any_nil, isInL_ints, frz_plain_list, frz_plain_strs, frzOk_ints, frzOk_strs, clr, backE, Option.getD_some, isi_int_int, isi_int_bool, isi_int_str, isi_int_list, isi_int_tuple, notObj_int, isi_str_int, isi_str_bool, isi_str_str, isi_str_list, isi_str_tuple, notObj_str, isi_bl_int, isi_bl_bool, isi_bl_str, isi_bl_list, isi_bl_tuple, notObj_bl, isi_non_int, isi_non_bool, isi_non_str, isi_non_list, isi_non_tuple, notObj_non, isi_lst_int, isi_lst_bool, isi_lst_str, isi_lst_list, isi_lst_tuple, notObj_lst, isi_tup_int, isi_tup_bool, isi_tup_str, isi_tup_list, isi_tup_tuple, notObj_tup, Option.some.injEq, exists_eq_left', cutL_map, cutA_all, enumO_ds, zipO_ds, zip2_map, getInt_rn, gI_int, augI_add, augI_sub, bmOk_count_l, bmOk_index_l, countI_ints, ifP_t, ifP_f, strO_str, lstO_str, Bool.not_eq_true', Bool.not_eq_false', ↓onD_divmod, comp_nil, placed_int, placed_str, placed_bl, placed_non, placed_obj, placed_exc, placed_own, placed_lck, placed_frz, placed_wrt, placed_dKo, placed_dTo, placed_dKw,
  locO_int, locO_str, locO_bl, locO_non, locO_obj, locO_exc, locO_own, locO_lck, locO_frz, locO_wrt, locO_dKo, locO_dTo, locO_tup, getP_loc, get_nil, get_cons, putP_loc, put_nil, put_cons, Option.bind_some, Option.map_some,
  Lit_int, Lit_str, Lit_bl, Lit_non, cmp_eq, cmp_ne, cmp_lt, cmp_le, cmp_gt, cmp_ge, cmp_in, cmp_nin, eq_ii, noDT_int, noDT_str, noDT_bl, noDT_non, noDT_lst, noDT_tup, noDT_dK, noDict_int, noDict_str, noDict_bl, noDict_non, noDict_lst, noDict_tup, truthO_bl, intO_int,
  intOp_add, intOp_sub, intOp_bor, ↓onD_mul, ↓onD_fdiv, ↓onD_mod, ↓onD_pow, binV_ii, flowK_nx, flowK_ret, flowK_brk, flowK_cont, retO_int, retO_bl, retO_str, retO_non, retO_lst, retO_tup, retO_dK, retO_dT, retO_obj,
  lendO_lst, lendO_tup, lendO_dK, lendO_dT, back_nil, back_some, back_none, W_ok, W_exc, W_fail, W_need, W_ifO, ↓W_bind, W_unl, W_nr, W_inB, unlock_nil, endQ_ret, endQ_nx, maskL,
  List.cons_append, List.nil_append, List.replicate_succ, List.replicate_zero, List.getElem?_cons_zero, List.getElem?_cons_succ, List.set_cons_zero, List.set_cons_succ, List.length_cons, List.length_nil, List.length_map, List.map_cons, List.map_nil,
  Nat.reduceSub, Nat.reduceAdd, Nat.reduceLT, Nat.reduceEqDiff, Nat.reduceLeDiff, Int.reduceToNat, Bool.or_true, Bool.true_or, Bool.and_true, Bool.true_and, Bool.not_true, Bool.not_false, decide_true, decide_false, decide_eq_true_eq, decide_eq_false_iff_not, ite_true, ite_false, if_true, if_false, reduceCtorEq, ne_eq, not_true_eq_false, not_false_eq_true, and_true, true_and, imp_not, imp_notB, Int.reduceLT, Int.reduceLE, Int.reduceNeg, true_implies, implies_true, false_implies, and_self, D.plain, plainL, ixN_0, ixN_1, ixN_2, ixN_3, ixN_4, ixN_5, ixN_6, ixN_7, ixN_8, ixN_9, noneB_lst, noneB_tup, noneB_int, noneB_str, noneB_bl, noneB_non, isi_exc_exc, isi_exc_verr, notObj_exc, kidsLO_str, kidsLO_lst, kidsLO_tup, tupO_tup, tupO_lst, rnY_moved, patsNames, rootOf, Option.some_beq_some, Nat.reduceBEq, for_nil, ↓reduceIte, fldO_obj, fldV_some, getP_fld, putP_fld, fget_nil, fget_cons, fput_nil, fput_cons, setFO_obj, mcO_obj, noneO_non, newO_at, getFO_int, augFO_obj, lockOk_frz, lockOk_tup, frz_ownL, frz_frzL, frzOk_ownL, eq_self, quiet, quietL, quietO, Option.isNone_none, Option.isNone_some, List.set_set, kid_own, kid_lck, kid_frz, kid_tup, setKid_own, setKid_lck, setKid_tup, isi_seq_lst, isi_seq_tup, isi_seq_int, isi_seq_str, isi_seq_bl, isi_seq_non, zipO3_ds, zip3_map, *])

/-! Draws: bag and take. -/
namespace VS
open PySem L2
section
variable {P : Prog} {wf n k f : Nat} {as : List D} {sto : List Ob}
def Ret (v : D) (outs : List D) (sto : List Ob) : D → List D → List Ob → Prop := fun v' o' s' => v' = v ∧ o' = outs ∧ s' = sto
theorem FC_eq {v : D} {outs : List D} {sto' : List Ob} (h : FC P wf n k f as sto (Ret v outs sto') noXR) : res (rn (callF P wf n k f as) ⟨[], sto⟩) = .ok v outs sto' := by
  unfold FC at h
  cases e : res (rn (callF P wf n k f as) ⟨[], sto⟩) with
  | ok r o s => rw [e] at h; obtain ⟨rfl, rfl, rfl⟩ := h; rfl
  | exc c ps o s => rw [e] at h; exact h.elim
  | fail => rw [e] at h; exact h.elim
end
/- _law_bag: 0=_law_script 1=_law_at 2=_law_cell 3=_law_great 4=_law_primes -/
def b_l_bag : List VS.CS := [.asg (.pat (.name 2)) (.lit (.int 0)), .ite (.cmp .lt (.loc 1) (.bi .len [(.loc 0)])) [.asg (.pat (.name 2)) (.sub (.loc 0) (.loc 1))] [], .asg (.pat (.name 3)) (.lit (.int 0)), .ite (.cmp .ge (.bi .abs [(.loc 2)]) (.bin .pow (.lit (.int 10)) (.lit (.int 18)))) [.asg (.pat (.name 3)) (.bi .abs [(.loc 2)])] [], .asg (.pat (.name 4)) (.lst [(.lit (.int 2147483629)), (.lit (.int 2147483587)), (.lit (.int 2147483579)), (.lit (.int 2147483563)), (.lit (.int 2147483549)), (.lit (.int 2147483543)), (.lit (.int 2147483497)), (.lit (.int 2147483489))]), .ret (.lst [(.loc 3), (.bin .mod (.bin .pow (.bin .add (.bin .add (.bin .mod (.loc 2) (.lit (.int 2147483647))) (.bin .mul (.lit (.int 104729)) (.loc 1))) (.lit (.int 7))) (.lit (.int 5))) (.sub (.loc 4) (.bin .mod (.loc 1) (.lit (.int 8)))))])]
abbrev Fb_l_bag : VS.FD := ⟨2, 5, [], [true, true], b_l_bag⟩
/- _law_take: 0=_law_bag_here 1=_law_many 2=_law_digit -/
def b_l_take : List VS.CS := [.ite (.cmp .gt (.sub (.loc 0) (.lit (.int 0))) (.lit (.int 0))) [.asg (.pat (.name 2)) (.bin .mod (.sub (.loc 0) (.lit (.int 0))) (.loc 1)), .asg (.sub (.loc 0) (.lit (.int 0))) (.bin .fdiv (.sub (.loc 0) (.lit (.int 0))) (.loc 1)), .retM 2] [], .asg (.sub (.loc 0) (.lit (.int 1))) (.bin .mod (.bin .add (.bin .mul (.sub (.loc 0) (.lit (.int 1))) (.lit (.int 48271))) (.lit (.int 11))) (.lit (.int 2147483647))), .ret (.bin .mod (.bin .mod (.bin .pow (.bin .fdiv (.sub (.loc 0) (.lit (.int 1))) (.lit (.int 8))) (.lit (.int 3))) (.lit (.int 2147483629))) (.loc 1))]
abbrev Fb_l_take : VS.FD := ⟨2, 3, [], [true, true], b_l_take⟩

/-- a bag between two draws -/
abbrev bagD (b : Int × Int) : D := .lst .own [.int b.1, .int b.2]
def Bag (b : Int × Int) : Prop := 0 ≤ b.1 ∧ 0 ≤ b.2 ∧ b.2 < 2147483647
section
variable {P : Prog} {wf n k i : Nat} {sto : List Ob}
theorem nat_lt64 {a : Int} (h1 : -4611686018427387904 < a) (h2 : a < 4611686018427387904) : a.natAbs < 2 ^ 64 := by omega
theorem take_ok (h : P.fns[i]? = some Fb_l_take) {b : Int × Int} (hb : Bag b) {m : Int} (hm : 0 < m ∧ m < 1073741824) :
    FC P wf (n + 40) (k + 1) i [bagD b, .int m] sto (fun v outs sto' => sto' = sto ∧ ∃ (d : Int) (b' : Int × Int), v = .int d ∧ outs = [bagD b', .int m] ∧ Bag b' ∧ 0 ≤ d ∧ d < m) noXR := by
  obtain ⟨g, r⟩ := b
  obtain ⟨hg, hr0, hr⟩ := hb
  refine FC_run h rfl ?_
  simp only [b_l_take]
  walk_at "vs"
  have e0 : 0 ≤ (r * 48271 + 11) % 2147483647 := Int.emod_nonneg _ (by decide)
  have e1 : (r * 48271 + 11) % 2147483647 < 2147483647 := Int.emod_lt_of_pos _ (by decide)
  refine ⟨fun h0 => ?_, fun h0 => ⟨.inr (by decide), nat_lt64 (by omega) (by omega), ?_⟩⟩
  · refine ⟨g % m, (g / m, r), rfl, rfl, ⟨Int.ediv_nonneg hg (by omega), hr0, hr⟩, Int.emod_nonneg _ (by omega), Int.emod_lt_of_pos _ hm.1⟩
  · exact ⟨_, (g, _), rfl, rfl, ⟨hg, e0, e1⟩, Int.emod_nonneg _ (by omega), Int.emod_lt_of_pos _ hm.1⟩
theorem bag_ok (h : P.fns[i]? = some Fb_l_bag) {ns : List Int} {a : Nat} (ha : a < 1000) :
    FC P wf (n + 40) (k + 1) i [.lst .wrt (ns.map .int), .int a] sto (fun v outs sto' => sto' = sto ∧ ∃ b, v = bagD b ∧ outs = [.lst .wrt (ns.map .int), .int a] ∧ Bag b) noXR := by
  refine FC_run h rfl ?_
  simp only [b_l_bag]
  walk_at "vs"
  have e8 : ixN 8 ((a : Int) % 8) = some (a % 8) := by
    rw [show (a : Int) % 8 = ((a % 8 : Nat) : Int) by omega, ixN_nat, if_pos (Nat.mod_lt _ (by decide))]
  obtain ⟨p, hp, hp0, hp1⟩ : ∃ p : Int, [D.int 2147483629, D.int 2147483587, D.int 2147483579, D.int 2147483563, D.int 2147483549, D.int 2147483543, D.int 2147483497, D.int 2147483489][a % 8]? = some (.int p) ∧ 0 < p ∧ p < 2147483647 := by
    have : a % 8 < 8 := Nat.mod_lt _ (by decide)
    rcases (by omega : a % 8 = 0 ∨ a % 8 = 1 ∨ a % 8 = 2 ∨ a % 8 = 3 ∨ a % 8 = 4 ∨ a % 8 = 5 ∨ a % 8 = 6 ∨ a % 8 = 7) with e | e | e | e | e | e | e | e <;> rw [e] <;> exact ⟨_, rfl, by decide, by decide⟩
  have lt : ∀ x y : Int, x ≥ 0 → Bag (x, y % p) := fun x y hx => ⟨hx, Int.emod_nonneg _ (by omega), Int.lt_trans (Int.emod_lt_of_pos _ hp0) hp1⟩
  have e1 : ∀ z : Int, (z % 2147483647 + 104729 * a + 7).natAbs < 2 ^ 64 := fun z => nat_lt64 (by omega) (by omega)
  refine ⟨fun h0 => ⟨a, by rw [ixN_nat, if_pos (by omega)], _, List.getElem?_eq_getElem (by omega), by decide, fun h1 => ?_, fun h1 => ?_⟩, fun h0 => ⟨by decide, fun h1 => ?_, fun h1 => ?_⟩⟩
  all_goals
    refine ⟨by decide, .inl (by decide), e1 _, _, e8, _, hp, ?_⟩
    walk_at "vs"
    exact ⟨by decide, (_, _), rfl, lt _ _ (by first | exact Int.natCast_nonneg _ | omega)⟩
end
def rowsIn (m : Int) (xs : List Int) : Prop := ∀ x ∈ xs, 0 ≤ x ∧ x < m
theorem rowsIn.app {m : Int} {xs ys : List Int} (h1 : rowsIn m xs) (h2 : rowsIn m ys) : rowsIn m (xs ++ ys) := fun x hx => by
  rcases List.mem_append.mp hx with h | h
  · exact h1 x h
  · exact h2 x h
theorem rowsIn.one {m d : Int} (h0 : 0 ≤ d) (h1 : d < m) : rowsIn m [d] := fun x hx => by
  rw [List.mem_singleton] at hx; subst hx; exact ⟨h0, h1⟩
theorem rep_map {α : Type} (f : α → D) (n : Nat) (xs : List α) : (List.replicate n (xs.map f)).flatten = ((List.replicate n xs).flatten).map f := by
  rw [List.map_flatten, List.map_replicate]
theorem rep_len {α : Type} (n : Nat) (xs : List α) : ((List.replicate n xs).flatten).length = n * xs.length := by simp
theorem rep_rows {m : Int} {xs : List Int} (n : Nat) (h : rowsIn m xs) : rowsIn m ((List.replicate n xs).flatten) := fun x hx => by
  simp only [List.mem_flatten, List.mem_replicate] at hx
  obtain ⟨l, ⟨_, rfl⟩, hx⟩ := hx
  exact h x hx
theorem fits_of {n : Nat} (h : n ≤ 16777216) : fits n = true := by unfold fits; exact decide_eq_true h
theorem lt_size {n : Nat} (h : n < 16777216) : n < sizeLine := h
theorem rep_fact {xs : List Int} (h : ¬ xs = []) (hl : xs.length ≤ 1500) : 0 < xs.length ∧ 0 ≤ (1500 : Int) / xs.length ∧ (-2 ^ 63 ≤ (1500 : Int) / xs.length ∧ (1500 : Int) / xs.length < 2 ^ 63) ∧ xs.length ≤ 1500 ∧ xs.length * (1500 / (xs.length : Int)).toNat ≤ 1500 := by
  have h1 : 0 < xs.length := List.length_pos_iff.mpr h
  have h2 : (xs.length : Int) * (1500 / xs.length) ≤ 1500 := Int.mul_ediv_self_le (by omega)
  have h3 : 0 ≤ (1500 : Int) / xs.length := Int.ediv_nonneg (by decide) (by omega)
  have h5 : (1500 : Int) / xs.length ≤ 1500 := Int.ediv_le_self _ (by decide)
  refine ⟨h1, h3, ⟨by omega, by omega⟩, hl, ?_⟩
  have : ((xs.length * (1500 / (xs.length : Int)).toNat : Nat) : Int) ≤ 1500 := by
    rw [Int.natCast_mul, Int.toNat_of_nonneg h3]; exact h2
  omega
end VS
/-! What rows say. -/
namespace VS
open PySem L2
/- is_shift: 0=row -/
def b_is_shift : List VS.CS := [.ret (.or (.cmp .eq (.loc 0) (.glo (PySem.Str.ofString "TO_LETTERS"))) (.cmp .eq (.loc 0) (.glo (PySem.Str.ofString "TO_FIGURES"))))]
abbrev Fb_is_shift : VS.FD := ⟨1, 1, [], [true], b_is_shift⟩
/- is_key: 0=row -/
def b_is_key : List VS.CS := [.ret (.chain .le .le (.lit (.int 1)) (.loc 0) (.lit (.int 26)))]
abbrev Fb_is_key : VS.FD := ⟨1, 1, [], [true], b_is_key⟩
/- sign_of: 0=row 1=in_figures -/
def b_sign_of (i_is_key : Nat) : List VS.CS := [.ite (.call i_is_key [(.loc 0)]) [.ret (.ite (.loc 1) (.sub (.glo (PySem.Str.ofString "FIGURES")) (.bin .sub (.loc 0) (.lit (.int 1)))) (.sub (.glo (PySem.Str.ofString "LETTERS")) (.bin .sub (.loc 0) (.lit (.int 1)))))] [], .ret (.bm .get (.glo (PySem.Str.ofString "SPACES")) [(.loc 0), (.lit (.str (PySem.Str.ofString "")))])]
abbrev Fb_sign_of (i_is_key : Nat) : VS.FD := ⟨2, 2, [], [true, true], b_sign_of i_is_key⟩
/- said_by_rows: 0=tape 1=told 2=in_figures 3=row -/
def b_said_by_rows (i_is_shift : Nat) (i_sign_of : Nat) : List VS.CS := [.asg (.pat (.name 1)) (.lst []), .asg (.pat (.name 2)) (.lit (.bl false)), .for (.name 3) (.it (.loc 0)) [.ite (.call i_is_shift [(.loc 3)]) [.asg (.pat (.name 2)) (.cmp .eq (.loc 3) (.glo (PySem.Str.ofString "TO_FIGURES")))] [], .expr (.bm .append (.loc 1) [(.call i_sign_of [(.loc 3), (.loc 2)])])], .retM 1]
abbrev Fb_said_by_rows (i_is_shift : Nat) (i_sign_of : Nat) : VS.FD := ⟨1, 4, [], [true], b_said_by_rows i_is_shift i_sign_of⟩
/- reach: 0=tape 1=place 2=at -/
def b_reach (i_is_shift : Nat) : List VS.CS := [.for (.name 2) (.range [(.bin .add (.loc 1) (.lit (.int 1))), (.bi .len [(.loc 0)])]) [.ite (.call i_is_shift [(.sub (.loc 0) (.loc 2))]) [.retM 2] []], .ret (.bi .len [(.loc 0)])]
abbrev Fb_reach (i_is_shift : Nat) : VS.FD := ⟨2, 3, [], [true, true], b_reach i_is_shift⟩

abbrev sLET : Str := Str.ofString "abcdefghijklmnopqrstuvwxyz"
abbrev sFIG : Str := Str.ofString "1234567890-/.,?()+:='*****"
structure CodeG (P : Prog) : Prop where
  gL : P.glob (Str.ofString "LETTERS") = some (.str sLET)
  gF : P.glob (Str.ofString "FIGURES") = some (.str sFIG)
  gTL : P.glob (Str.ofString "TO_LETTERS") = some (.int 29)
  gTF : P.glob (Str.ofString "TO_FIGURES") = some (.int 30)
  gS : P.glob (Str.ofString "SPACES") = some (.dK .wrt [.inl 27, .inl 28] [.str (Str.ofString " "), .str (Str.ofString "|")])
/-! the plain functions -/
def isShift (r : Int) : Bool := decide (r = 29) || decide (r = 30)
def isKey (r : Int) : Bool := decide (1 ≤ r ∧ r ≤ 26)
def chr1 (c : Nat) : Str := ⟨#[c]⟩
def signZ (r : Int) (fig : Bool) : Str := if 1 ≤ r ∧ r ≤ 26 then chr1 ((if fig then sFIG else sLET).cps.toList.getD (r - 1).toNat 0) else if r = 27 then Str.ofString " " else if r = 28 then Str.ofString "|" else Str.ofString ""
def figB (r : Int) (fig : Bool) : Bool := if isShift r then decide (r = 30) else fig
def saidL : List Int → Bool → List Str
  | [], _ => []
  | r :: rs, fig => signZ r (figB r fig) :: saidL rs (figB r fig)
def figL : List Int → Bool → Bool
  | [], f => f
  | r :: rs, f => figL rs (figB r f)
theorem saidL_len : ∀ (rs : List Int) (f : Bool), (saidL rs f).length = rs.length
  | [], _ => rfl
  | r :: rs, f => congrArg (· + 1) (saidL_len rs _)
theorem saidL_append : ∀ (a b : List Int) (f : Bool), saidL (a ++ b) f = saidL a f ++ saidL b (figL a f)
  | [], b, f => rfl
  | r :: a, b, f => by show _ :: saidL (a ++ b) _ = _ :: (saidL a _ ++ saidL b _); rw [saidL_append]; rfl
theorem figL_append : ∀ (a b : List Int) (f : Bool), figL (a ++ b) f = figL b (figL a f)
  | [], b, f => rfl
  | r :: a, b, f => figL_append a b _
theorem len_LET : sLET.length = 26 := by decide +kernel
theorem len_FIG : sFIG.length = 26 := by decide +kernel
theorem fits_LET : fits sLET.length = true := by rw [len_LET]; decide
theorem fits_FIG : fits sFIG.length = true := by rw [len_FIG]; decide
theorem atI_row {s : Str} (hs : s.length = 26) {r : Int} (h : 1 ≤ r ∧ r ≤ 26) : atI s.cps.toList (r - 1) = some (s.cps.toList.getD (r - 1).toNat 0) := by
  unfold atI
  have hl : s.cps.toList.length = 26 := by rw [Array.length_toList]; exact hs
  rw [hl, ixN_at (by omega) (by omega), Option.bind_some, List.getD_eq_getElem?_getD, List.getElem?_eq_getElem (by omega)]
  rfl
section
variable {P : Prog} {wf n k i j l m : Nat} {sto : List Ob}
theorem is_shift_ok (h : P.fns[i]? = some Fb_is_shift) (G : CodeG P) (r : Int) (sto : List Ob) : res (rn (callF P wf (n + 40) (k + 1) i [.int r]) ⟨[], sto⟩) = .ok (.bl (isShift r)) [.int r] sto := by
  refine FC_eq (FC_run h rfl ?_)
  obtain ⟨gL, gF, gTL, gTF, gS⟩ := G
  simp only [b_is_shift]
  walk_at "vs"
  refine ⟨fun h => ⟨?_, rfl, rfl⟩, fun h => ⟨?_, rfl, rfl⟩⟩ <;> simp [isShift, h]
theorem is_key_ok (h : P.fns[i]? = some Fb_is_key) (r : Int) (sto : List Ob) : res (rn (callF P wf (n + 40) (k + 1) i [.int r]) ⟨[], sto⟩) = .ok (.bl (isKey r)) [.int r] sto := by
  refine FC_eq (FC_run h rfl ?_)
  simp only [b_is_key]
  walk_at "vs"
  refine ⟨fun h => ⟨?_, rfl, rfl⟩, fun h => ⟨?_, rfl, rfl⟩⟩ <;> simp [isKey, h]
theorem sign_of_ok (h : P.fns[i]? = some (Fb_sign_of j)) (hk : P.fns[j]? = some Fb_is_key) (G : CodeG P) (r : Int) (f : Bool) (sto : List Ob) : res (rn (callF P wf (n + 40) (k + 2) i [.int r, .bl f]) ⟨[], sto⟩) = .ok (.str (signZ r f)) [.int r, .bl f] sto := by
  refine FC_eq (FC_run h rfl ?_)
  obtain ⟨gL, gF, gTL, gTF, gS⟩ := G
  have ek := is_key_ok (wf := wf) (n := n) (k := k) hk
  simp only [b_sign_of]
  walk_at "vs"
  refine ⟨fun h0 => ?_, fun h0 => ?_⟩
  · have h1 : 1 ≤ r ∧ r ≤ 26 := by simpa [isKey] using h0
    refine ⟨fun hf => ⟨fits_FIG, _, atI_row len_FIG h1, ?_, rfl, rfl⟩, fun hf => ⟨fits_LET, _, atI_row len_LET h1, ?_, rfl, rfl⟩⟩ <;> (subst hf; unfold signZ; rw [if_pos h1]; rfl)
  · have h1 : ¬ (1 ≤ r ∧ r ≤ 26) := by simpa [isKey] using h0
    by_cases h2 : r = 27
    · subst h2
      have e : ((findK [(Sum.inl 27 : Key), Sum.inl 28] (Sum.inl 27)).bind fun j => [D.str (Str.ofString " "), D.str (Str.ofString "|")][j]?) = some (.str (Str.ofString " ")) := rfl
      rw [e]
      walk_at "vs"
      exact ⟨rfl, rfl, rfl⟩
    · by_cases h3 : r = 28
      · subst h3
        have e : ((findK [(Sum.inl 27 : Key), Sum.inl 28] (Sum.inl 28)).bind fun j => [D.str (Str.ofString " "), D.str (Str.ofString "|")][j]?) = some (.str (Str.ofString "|")) := rfl
        rw [e]
        walk_at "vs"
        exact ⟨rfl, rfl, rfl⟩
      · have e : findK [(Sum.inl 27 : Key), Sum.inl 28] (Sum.inl r) = none := by
          have e1 : (Sum.inl 27 : Key) ≠ Sum.inl r := fun z => h2 (Sum.inl.inj z).symm
          have e2 : (Sum.inl 28 : Key) ≠ Sum.inl r := fun z => h3 (Sum.inl.inj z).symm
          simp only [findK, if_neg e1, if_neg e2, Option.map_none]
        rw [e]
        walk_at "vs"
        have e3 : signZ r f = Str.ofString "" := by unfold signZ; rw [if_neg h1, if_neg h2, if_neg h3]
        exact ⟨by rw [e3], rfl, rfl⟩
/-- the turns of said_by_rows -/
theorem said_ok (h : P.fns[i]? = some (Fb_said_by_rows j l)) (hs : P.fns[j]? = some Fb_is_shift) (hg : P.fns[l]? = some (Fb_sign_of m)) (hk : P.fns[m]? = some Fb_is_key) (G : CodeG P) (rs : List Int) (hl : rs.length < 10000) (sto : List Ob) :
    res (rn (callF P wf (n + 40) (k + 3) i [.lst .own (rs.map .int)]) ⟨[], sto⟩) = .ok (.lst .own ((saidL rs false).map .str)) [.lst .own (rs.map .int)] sto := by
  refine FC_eq (FC_run h rfl ?_)
  have es := is_shift_ok (wf := wf) (n := n) (k := k + 1) hs G
  have eg := sign_of_ok (wf := wf) (n := n) (k := k) hg hk G
  obtain ⟨gL, gF, gTL, gTF, gS⟩ := G
  simp only [b_said_by_rows]
  walk_at "vs"
  refine ⟨by decide, W_forM (I := fun pre s => ∃ x, s = ⟨[.lst .lck (rs.map .int), .lst .own ((saidL pre false).map .str), .bl (figL pre false), x], sto⟩) ?_ ?_ ⟨_, rfl⟩⟩
  · rintro pre a post s c ⟨x, rfl⟩
    walk_at "vs"
    have hlen : (saidL pre false).length < sizeLine := by
      rw [saidL_len]; have := c.len; exact Nat.lt_of_lt_of_le (show pre.length < 10000 by omega) (by decide)
    have e1 : saidL (pre ++ [a]) false = saidL pre false ++ [signZ a (figB a (figL pre false))] := saidL_append _ _ _
    have e2 : figL (pre ++ [a]) false = figB a (figL pre false) := figL_append _ _ _
    refine ⟨fun h0 => ⟨hlen, .int a, ?_⟩, fun h0 => ⟨hlen, .int a, ?_⟩⟩
    · rw [e1, e2]; simp [figB, h0]
    · rw [e1, e2]; simp [figB, h0]
  · rintro s ⟨x, rfl⟩
    refine ⟨_, rfl, ?_⟩
    walk_at "vs"
    exact ⟨rfl, rfl, rfl⟩
def reachL : List Int → Nat → Nat
  | [], a => a
  | r :: rs, a => if isShift r then a else reachL rs (a + 1)
theorem reach_ok (h : P.fns[i]? = some (Fb_reach j)) (hs : P.fns[j]? = some Fb_is_shift) (G : CodeG P) (rs : List Int) (hl : rs.length < 10000) (p : Nat) (hp : p < rs.length) (sto : List Ob) :
    res (rn (callF P wf (n + 40) (k + 2) i [.lst .own (rs.map .int), .int p]) ⟨[], sto⟩) = .ok (.int (reachL (rs.drop (p + 1)) (p + 1) : Nat)) [.lst .own (rs.map .int), .int p] sto := by
  refine FC_eq (FC_run h rfl ?_)
  have es := is_shift_ok (wf := wf) (n := n) (k := k) hs G
  obtain ⟨gL, gF, gTL, gTF, gS⟩ := G
  simp only [b_reach]
  walk_at "vs"
  refine ⟨?_, W_forR (I := fun i s => reachL (rs.drop (p + 1)) (p + 1) = reachL (rs.drop (p + 1 + i)) (p + 1 + i) ∧ ∃ x, s = ⟨[.lst .own (rs.map .int), .int p, x], sto⟩) ?_ ?_ ⟨rfl, _, rfl⟩⟩
  · rw [small_of (by omega) (by omega), small_of (by omega) (by omega)]; rfl
  · rintro t s ht ⟨hx, x, rfl⟩
    walk_at "vs"
    have hlt : p + 1 + t < rs.length := by omega
    have e0 : rs.drop (p + 1 + t) = rs[p + 1 + t] :: rs.drop (p + 1 + t + 1) := List.drop_eq_getElem_cons hlt
    refine ⟨p + 1 + t, by rw [show (p : Int) + 1 + t = ((p + 1 + t : Nat) : Int) by omega, ixN_nat, if_pos hlt], _, List.getElem?_eq_getElem hlt, fun h0 => ⟨?_, rfl, rfl⟩, fun h0 => ⟨?_, _, rfl⟩⟩
    · rw [e0]
      show D.int _ = D.int ((if isShift rs[p + 1 + t] = true then p + 1 + t else _ : Nat) : Int)
      rw [if_pos h0]; congr 1
    · rw [e0]
      show (if isShift rs[p + 1 + t] = true then p + 1 + t else _) = _
      rw [if_neg (by rw [h0]; decide)]; rfl
  · rintro s ⟨hx, x, rfl⟩
    walk_at "vs"
    have e : (p + 1 + ((rs.length : Int) - (p + 1)).toNat) = rs.length := by omega
    rw [e, List.drop_length]
    exact ⟨rfl, rfl, rfl⟩
theorem reachL_le : ∀ (rs : List Int) (a : Nat), a ≤ reachL rs a ∧ reachL rs a ≤ a + rs.length
  | [], a => ⟨Nat.le_refl _, Nat.le_refl _⟩
  | r :: rs, a => by
    show a ≤ (if isShift r = true then a else reachL rs (a + 1)) ∧ (if isShift r = true then a else reachL rs (a + 1)) ≤ _
    have := reachL_le rs (a + 1)
    split
    · exact ⟨Nat.le_refl _, by simp⟩
    · simp only [List.length_cons]; omega
end
end VS
/-! Loops by what is left. -/
namespace VS
open PySem L2
section
variable {P : Prog} {cf : Nat → List D → M (D × List D)} {n wf : Nat} {ev : CE → M Tm} {ex : List CS → M Flow}
theorem Cut3.drop {α : Type} {xs pre : List α} {a : α} {post : List α} (c : Cut3 xs pre a post) : xs.drop pre.length = a :: post := by rw [c.eq]; simp
theorem Cut3.drop1 {α : Type} {xs pre : List α} {a : α} {post : List α} (c : Cut3 xs pre a post) : xs.drop (pre ++ [a]).length = post := by
  rw [c.eq, show pre ++ a :: post = (pre ++ [a]) ++ post by simp, List.drop_left]
/-- where a loop stands -/
structure Lft {α : Type} (xs : List α) (i : Nat) (a : α) (rest : List α) : Prop where
  drop : xs.drop i = a :: rest
theorem Lft.at {α : Type} {xs : List α} {i : Nat} {a : α} {rest : List α} (c : Lft xs i a rest) : xs[i]? = some a := by
  have h := c.drop
  have : (xs.drop i)[0]? = some a := by rw [h]; rfl
  simpa using this
theorem Lft.lt {α : Type} {xs : List α} {i : Nat} {a : α} {rest : List α} (c : Lft xs i a rest) : i < xs.length := (List.getElem?_eq_some_iff.mp c.at).1
theorem Lft.len {α : Type} {xs : List α} {i : Nat} {a : α} {rest : List α} (c : Lft xs i a rest) : xs.length = i + rest.length + 1 := by
  have h := congrArg List.length c.drop
  have := c.lt
  simp only [List.length_drop, List.length_cons] at h; omega
theorem Lft.mem {α : Type} {xs : List α} {i : Nat} {a : α} {rest : List α} (c : Lft xs i a rest) : a ∈ xs := List.mem_of_getElem? c.at
theorem Lft.nxt {α : Type} {xs : List α} {i : Nat} {a : α} {rest : List α} (c : Lft xs i a rest) : xs.drop (i + 1) = rest := by
  have : (xs.drop i).drop 1 = rest := by rw [c.drop]; rfl
  rw [List.drop_drop] at this; exact this
theorem Lft.sub {α : Type} {xs : List α} {i : Nat} {a : α} {rest : List α} (c : Lft xs i a rest) : ∀ x ∈ a :: rest, x ∈ xs := by
  intro x hx; rw [← c.drop] at hx; exact List.mem_of_mem_drop hx
theorem W_forT {α : Type} {f : α → D} {p : Pat} {body : List CS} {Q : Flow → Sx → Prop} {E : Nat → List D → Sx → Prop} {xs : List α} (I : Nat → List α → Sx → Prop)
    (step : ∀ i a rest s, Lft xs i a rest → I i (a :: rest) s → W (rn (bindP p (f a)) s) (fun _ s1 => W (rn (ex body) s1) (fun fl s2 => match fl with | .nx => I (i + 1) rest s2 | .cont => I (i + 1) rest s2 | .brk => Q .nx s2 | .ret r => Q (.ret r) s2) E) E)
    (done : ∀ s, I xs.length [] s → Q .nx s) {s : Sx} (init : I 0 xs s) : W (rn (forLoop ex p body (xs.map f)) s) Q E := by
  refine W_forM (I := fun pre s => I pre.length (xs.drop pre.length) s) ?_ ?_ init
  · intro pre a post s c h
    rw [c.drop] at h
    refine W_mono (step pre.length a post s ⟨c.drop⟩ h) (fun _ s1 h1 => W_mono h1 (fun fl s2 h2 => ?_) fun _ _ _ h => h) fun _ _ _ h => h
    cases fl with
    | nx => show I _ _ _; rw [c.drop1, List.length_append]; exact h2
    | cont => show I _ _ _; rw [c.drop1, List.length_append]; exact h2
    | brk => exact h2
    | ret r => exact h2
  · intro s h
    rw [List.drop_length] at h
    exact done s h
theorem W_forTE {α : Type} {f : α → D} {p : Pat} {body : List CS} {Q : Flow → Sx → Prop} {E : Nat → List D → Sx → Prop} {xs : List α} (I : Nat → List α → Sx → Prop)
    (step : ∀ (i : Nat) a rest s, Lft xs i a rest → I i (a :: rest) s → W (rn (bindP p (.tup [.int (i : Int), f a])) s) (fun _ s1 => W (rn (ex body) s1) (fun fl s2 => match fl with | .nx => I (i + 1) rest s2 | .cont => I (i + 1) rest s2 | .brk => Q .nx s2 | .ret r => Q (.ret r) s2) E) E)
    (done : ∀ s, I xs.length [] s → Q .nx s) {s : Sx} (init : I 0 xs s) : W (rn (forLoop ex p body (enumL 0 (xs.map f))) s) Q E := by
  refine W_forE (I := fun pre s => I pre.length (xs.drop pre.length) s) ?_ ?_ init
  · intro pre a post s c h
    rw [c.drop] at h
    refine W_mono (step pre.length a post s ⟨c.drop⟩ h) (fun _ s1 h1 => W_mono h1 (fun fl s2 h2 => ?_) fun _ _ _ h => h) fun _ _ _ h => h
    cases fl with
    | nx => show I _ _ _; rw [c.drop1, List.length_append]; exact h2
    | cont => show I _ _ _; rw [c.drop1, List.length_append]; exact h2
    | brk => exact h2
    | ret r => exact h2
  · intro s h
    rw [List.drop_length] at h
    exact done s h
theorem W_for0 {p : Pat} {body : List CS} {Q : Flow → Sx → Prop} {E : Nat → List D → Sx → Prop} {n : Nat} (I : Nat → Sx → Prop)
    (step : ∀ (i : Nat) s, i < n → I i s → W (rn (bindP p (.int (i : Int))) s) (fun _ s1 => W (rn (ex body) s1) (fun fl s2 => match fl with | .nx => I (i + 1) s2 | .cont => I (i + 1) s2 | .brk => Q .nx s2 | .ret r => Q (.ret r) s2) E) E)
    (done : ∀ s, I n s → Q .nx s) {s : Sx} (init : I 0 s) : W (rn (forLoop ex p body (rangeL 0 n)) s) Q E :=
  W_forR I (fun i s hi h => by rw [Int.zero_add]; exact step i s hi h) done init
theorem W_comp0 {own : List Nat} {p : Pat} {cond : Option CE} {elt : CE} {Q : List D → Sx → Prop} {E : Nat → List D → Sx → Prop} {n : Nat} (I : Nat → List D → Sx → Prop)
    (step : ∀ (i : Nat) acc env sto, i < n → I i acc ⟨env, sto⟩ → W (rn (bindP p (.int (i : Int))) ⟨clr own env, sto⟩) (fun _ s1 => W (condO ev s1 cond) (fun b s2 => W (compT ev elt s2 b) (fun o s3 => match o with | some e => acc.length < sizeLine ∧ I (i + 1) (acc ++ [e]) s3 | none => I (i + 1) acc s3) noX) noX) noX)
    (done : ∀ acc s, I n acc s → Q acc s) {s : Sx} (init : I 0 [] s) : W (rn (compLoop ev own p cond elt (rangeL 0 n) []) s) Q E :=
  W_compR I (fun i acc env sto hi h => by rw [Int.zero_add]; exact step i acc env sto hi h) done init
/-- a comprehension whose turns change nothing but its own names -/
theorem W_compP {α : Type} {f : α → D} {own : List Nat} {p : Pat} {cond : Option CE} {elt : CE} {Q : List D → Sx → Prop} {E : Nat → List D → Sx → Prop} {xs : List α} (S : Sx → Prop) (g : α → Option D)
    (hlen : xs.length < sizeLine)
    (step : ∀ a env sto, a ∈ xs → S ⟨env, sto⟩ → W (rn (bindP p (f a)) ⟨clr own env, sto⟩) (fun _ s1 => W (condO ev s1 cond) (fun b s2 => W (compT ev elt s2 b) (fun o s3 => o = g a ∧ S s3) noX) noX) noX)
    (done : ∀ s, S s → Q (xs.filterMap g) s) {s : Sx} (init : S s) : W (rn (compLoop ev own p cond elt (xs.map f) []) s) Q E := by
  refine W_compM (I := fun pre acc s => acc = pre.filterMap g ∧ acc.length ≤ pre.length ∧ S s) ?_ ?_ ⟨rfl, Nat.le_refl _, init⟩
  · rintro pre a post acc env sto c ⟨rfl, hl, h⟩
    have := c.len
    refine W_mono (step a env sto c.mem h) (fun _ s1 h1 => W_mono h1 (fun b s2 h2 => W_mono h2 (fun o s3 h3 => ?_) fun _ _ _ h => h) fun _ _ _ h => h) fun _ _ _ h => h
    obtain ⟨rfl, h4⟩ := h3
    cases e : g a with
    | none => exact ⟨by simp [e], by simp only [List.length_append, List.length_cons]; omega, h4⟩
    | some x => exact ⟨by omega, by simp [e], by simp only [List.length_append, List.length_cons, List.length_nil]; omega, h4⟩
  · rintro acc s ⟨rfl, _, h⟩
    exact done s h
end
theorem RetE {v : D} {outs : List D} {sto : List Ob} {v' : D} {o' : List D} {s' : List Ob} : (v' = v ∧ o' = outs ∧ s' = sto) = (v' = v ∧ o' = outs ∧ s' = sto) := rfl
end VS
/-! The law's own defs: a tape, held. -/
namespace VS
open PySem L2
/- _law_tape: 0=_law_bag_here 1=_law_few 2=_law_way 3=_law_tape_here 4=_law_k -/
def b5_l_tape (i__law_take : Nat) : List VS.CS := [.asg (.pat (.name 2)) (.call i__law_take [(.loc 0), (.lit (.int 8))]), .asg (.pat (.name 3)) (.comp [4] (.name 4) (.range [(.call i__law_take [(.loc 0), (.bin .add (.loc 1) (.lit (.int 1)))])]) none (.call i__law_take [(.loc 0), (.lit (.int 32))])), .ite (.and (.cmp .eq (.loc 2) (.lit (.int 0))) (.cmp .ne (.loc 3) (.lst []))) [.asg (.pat (.name 3)) (.bin .mul (.loc 3) (.bin .fdiv (.lit (.int 1500)) (.bi .len [(.loc 3)])))] [], .retM 3]
abbrev Fb5_l_tape (i__law_take : Nat) : VS.FD := ⟨2, 5, [], [true, true], b5_l_tape i__law_take⟩
/- _law_is_held: 0=_law_tape_here 1=_law_place 2=_law_bent 3=_law_handed 4=_law_told 5=_law_due 6=_law_at 7=_law_behind 8=_law_said 9=_law_other -/
def b5_l_is_held (i_said_by_rows : Nat) (i_reach : Nat) : List VS.CS := [.asg (.pat (.name 3)) (.bi .list [(.loc 0)]), .asg (.pat (.name 4)) (.call i_reach [(.loc 3), (.loc 1)]), .asg (.pat (.name 5)) (.bin .add (.comp [6] (.name 6) (.range [(.bin .add (.loc 1) (.lit (.int 1))), (.bi .len [(.loc 0)])]) (some (.cmp .isin (.sub (.loc 0) (.loc 6)) (.tup [(.lit (.int 29)), (.lit (.int 30))]))) (.loc 6)) (.lst [(.bi .len [(.loc 0)])])), .ite (.or (.not (.isi (.loc 4) .int)) (.or (.isi (.loc 4) .bool) (.or (.cmp .ne (.loc 4) (.sub (.loc 5) (.lit (.int 0)))) (.cmp .ne (.loc 3) (.loc 0))))) [.ret (.lit (.bl false))] [], .asg (.pat (.name 7)) (.bin .sub (.bi .len [(.loc 0)]) (.loc 4)), .asg (.pat (.name 8)) (.call i_said_by_rows [(.loc 3)]), .asg (.pat (.name 9)) (.call i_said_by_rows [(.bi .list [(.loc 2)])]), .ret (.and (.cmp .eq (.slice (.loc 8) (some (.bin .sub (.bi .len [(.loc 8)]) (.loc 7))) none) (.slice (.loc 9) (some (.bin .sub (.bi .len [(.loc 9)]) (.loc 7))) none)) (.cmp .eq (.bi .len [(.loc 9)]) (.bi .len [(.loc 2)])))]
abbrev Fb5_l_is_held (i_said_by_rows : Nat) (i_reach : Nat) : VS.FD := ⟨3, 10, [], [true, true, true], b5_l_is_held i_said_by_rows i_reach⟩
/- law: 0=_law_script 1=_law_k 2=_law_bag_here 3=_law_tape_here 4=_law_place 5=_law_row -/
def b5_law (i__law_bag : Nat) (i__law_take : Nat) (i__law_tape : Nat) (i__law_is_held : Nat) : List VS.CS := [.for (.name 1) (.range [(.bi .max [(.lit (.int 1)), (.bi .min [(.lit (.int 3)), (.bi .len [(.loc 0)])])])]) [.asg (.pat (.name 2)) (.call i__law_bag [(.loc 0), (.loc 1)]), .asg (.pat (.name 3)) (.bin .add (.lst [(.call i__law_take [(.loc 2), (.lit (.int 32))])]) (.slice (.call i__law_tape [(.loc 2), (.lit (.int 40))]) none (some (.lit (.int 1499))))), .for (.name 4) (.it (.tup [(.lit (.int 0)), (.bin .sub (.bi .len [(.loc 3)]) (.lit (.int 1))), (.call i__law_take [(.loc 2), (.bi .len [(.loc 3)])]), (.call i__law_take [(.loc 2), (.bi .len [(.loc 3)])])])) [.asg (.pat (.name 5)) (.sub (.lst [(.call i__law_take [(.loc 2), (.lit (.int 32))]), (.lit (.int 29)), (.lit (.int 30))]) (.call i__law_take [(.loc 2), (.lit (.int 3))])), .ite (.not (.call i__law_is_held [(.loc 3), (.loc 4), (.bin .add (.bin .add (.slice (.loc 3) none (some (.loc 4))) (.lst [(.loc 5)])) (.slice (.loc 3) (some (.bin .add (.loc 4) (.lit (.int 1)))) none))])) [.ret (.lit (.bl false))] [], .ite (.not (.call i__law_is_held [(.loc 3), (.loc 4), (.bin .add (.slice (.loc 3) none (some (.loc 4))) (.slice (.loc 3) (some (.bin .add (.loc 4) (.lit (.int 1)))) none))])) [.ret (.lit (.bl false))] []]], .ret (.lit (.bl true))]
abbrev Fb5_law (i__law_bag : Nat) (i__law_take : Nat) (i__law_tape : Nat) (i__law_is_held : Nat) : VS.FD := ⟨1, 6, [], [true], b5_law i__law_bag i__law_take i__law_tape i__law_is_held⟩

section
variable {P : Prog} {wf n k i j l m i1 i2 i3 i4 i5 i6 i7 : Nat} {sto : List Ob}
theorem tape_ok (h : P.fns[i]? = some (Fb5_l_tape j)) (ht : P.fns[j]? = some Fb_l_take) {b : Int × Int} (hb : Bag b) {few : Int} (hf : 0 ≤ few ∧ few ≤ 40) :
    FC P wf (n + 40) (k + 2) i [bagD b, .int few] sto (fun v outs sto' => sto' = sto ∧ ∃ (xs : List Int) (b' : Int × Int), v = .lst .own (xs.map .int) ∧ outs = [bagD b', .int few] ∧ Bag b' ∧ rowsIn 32 xs ∧ xs.length ≤ 1500) noXR := by
  refine FC_run h rfl ?_
  simp only [b5_l_tape]
  walk_at "vs"
  refine W_call (take_ok ht hb (by omega)) ?_
  rintro _ _ _ ⟨rfl, w, b1, rfl, rfl, hb1, hw0, hw1⟩
  refine ⟨rfl, ?_⟩
  walk_at "vs"
  refine W_call (take_ok ht hb1 (by omega)) ?_
  rintro _ _ _ ⟨rfl, m, b2, rfl, rfl, hb2, hm0, hm1⟩
  refine ⟨rfl, ?_⟩
  walk_at "vs"
  refine ⟨small_of (by omega) (by omega), ?_⟩
  refine W_compR (I := fun i acc s => ∃ (xs : List Int) (b' : Int × Int) (x : D), acc = xs.map .int ∧ xs.length = i ∧ rowsIn 32 xs ∧ Bag b' ∧ s = ⟨[bagD b', .int few, .int w, .gone, x], _⟩) ?_ ?_ ⟨[], b2, .gone, rfl, rfl, (fun _ h => nomatch h), hb2, rfl⟩
  · rintro t acc env sto ht' ⟨xs, b', x, rfl, hxl, hx, hb', he⟩
    cases he
    walk_at "vs"
    refine W_call (take_ok ht hb' (by omega)) ?_
    rintro _ _ _ ⟨rfl, d, b3, rfl, rfl, hb3, hd0, hd1⟩
    refine ⟨rfl, ?_⟩
    walk_at "vs"
    exact ⟨lt_size (by omega), xs ++ [d], b3, _, by rw [List.map_append]; rfl, by rw [List.length_append, hxl]; rfl, hx.app (.one hd0 hd1), hb3, rfl⟩
  · rintro acc s ⟨xs, b', x, rfl, hxl, hx, hb', rfl⟩
    walk_at "vs"
    refine ⟨fun _ => ⟨by decide, fun h0 => ?_, fun _ => ⟨xs, b', rfl, rfl, hb', hx, by omega⟩⟩, fun _ => ⟨xs, b', rfl, rfl, hb', hx, by omega⟩⟩
    have h1 : 0 < m.toNat := by
      rw [← hxl]
      cases xs with
      | nil => simp at h0
      | cons _ _ => simp
    have h2 : (m.toNat : Int) * (1500 / m.toNat) ≤ 1500 := Int.mul_ediv_self_le (by omega)
    have h3 : 0 ≤ (1500 : Int) / m.toNat := Int.ediv_nonneg (by decide) (by omega)
    have h4 : m.toNat * (1500 / (m.toNat : Int)).toNat ≤ 1500 := by
      have : ((m.toNat * (1500 / (m.toNat : Int)).toNat : Nat) : Int) ≤ 1500 := by
        rw [Int.natCast_mul, Int.toNat_of_nonneg h3]; exact h2
      omega
    have h5 : (1500 : Int) / m.toNat ≤ 1500 := Int.ediv_le_self _ (by decide)
    exact ⟨⟨by omega, by omega⟩, ⟨by omega, by omega⟩, fits_of (by omega), _, b', by rw [rep_map], rfl, hb', rep_rows _ hx, by rw [rep_len, hxl, Nat.mul_comm]; exact h4⟩
theorem reach_cut : ∀ (rs : List Int) (a : Nat), rs.drop (reachL rs a - a) = [] ∨ ∃ r rs', rs.drop (reachL rs a - a) = r :: rs' ∧ isShift r = true
  | [], a => .inl (by simp)
  | r :: rs, a => by
    by_cases h : isShift r = true
    · have e : reachL (r :: rs) a = a := by unfold reachL; rw [if_pos h]
      rw [e, Nat.sub_self]
      exact .inr ⟨r, rs, rfl, h⟩
    · have e : reachL (r :: rs) a = reachL rs (a + 1) := by conv => lhs; unfold reachL; rw [if_neg h]
      have h1 := (reachL_le rs (a + 1)).1
      rw [e, show reachL rs (a + 1) - a = reachL rs (a + 1) - (a + 1) + 1 by omega, List.drop_succ_cons]
      exact reach_cut rs (a + 1)
theorem said_shift {post : List Int} (h : post = [] ∨ ∃ r rs', post = r :: rs' ∧ isShift r = true) (f g : Bool) : saidL post f = saidL post g := by
  rcases h with rfl | ⟨r, rs', rfl, hr⟩
  · rfl
  · show signZ r (figB r f) :: saidL rs' (figB r f) = signZ r (figB r g) :: saidL rs' (figB r g)
    have : figB r f = figB r g := by simp [figB, hr]
    rw [this]
theorem said_tail {a post : List Int} {k : Nat} (hk : k = a.length) (f : Bool) : (saidL (a ++ post) f).drop k = saidL post (figL a f) := by
  rw [saidL_append, hk, ← saidL_len a f, List.drop_left]
/-- from the reach on all is said as it was -/
theorem held_math (rs mid : List Int) (p : Nat) (hp : p < rs.length) :
    let t := reachL (rs.drop (p + 1)) (p + 1)
    let bs := rs.take p ++ mid ++ rs.drop (p + 1)
    (saidL rs false).drop t = (saidL bs false).drop (bs.length - (rs.length - t)) ∧ p + 1 ≤ t ∧ t ≤ rs.length ∧ rs.length - t ≤ bs.length := by
  intro t bs
  have h1 := reachL_le (rs.drop (p + 1)) (p + 1)
  have h1a : p + 1 ≤ t := h1.1
  have h1b : t ≤ p + 1 + (rs.drop (p + 1)).length := h1.2
  rw [List.length_drop] at h1b
  have hc := reach_cut (rs.drop (p + 1)) (p + 1)
  rw [List.drop_drop] at hc
  have e0 : p + 1 + (reachL (rs.drop (p + 1)) (p + 1) - (p + 1)) = t := by omega
  rw [e0] at hc
  have e1 : rs = rs.take t ++ rs.drop t := (List.take_append_drop t rs).symm
  have e2 : bs = (rs.take p ++ mid ++ (rs.drop (p + 1)).take (t - (p + 1))) ++ rs.drop t := by
    show rs.take p ++ mid ++ rs.drop (p + 1) = _
    rw [List.append_assoc (rs.take p ++ mid)]
    congr 1
    have := (List.take_append_drop (t - (p + 1)) (rs.drop (p + 1))).symm
    rw [List.drop_drop, show p + 1 + (t - (p + 1)) = t by omega] at this
    exact this
  have hl : bs.length = (rs.take p ++ mid ++ (rs.drop (p + 1)).take (t - (p + 1))).length + (rs.length - t) := by
    rw [e2, List.length_append, List.length_drop]
  refine ⟨?_, h1a, by omega, by omega⟩
  have l1 : (saidL rs false).drop t = saidL (rs.drop t) (figL (rs.take t) false) := by
    conv => lhs; rw [e1]
    exact said_tail (by rw [List.length_take]; omega) false
  have l2 : (saidL bs false).drop (bs.length - (rs.length - t)) = saidL (rs.drop t) (figL (rs.take p ++ mid ++ (rs.drop (p + 1)).take (t - (p + 1))) false) := by
    have e3 : bs.length - (rs.length - t) = (rs.take p ++ mid ++ (rs.drop (p + 1)).take (t - (p + 1))).length := by omega
    rw [e3]
    conv => lhs; rw [e2]
    exact said_tail rfl false
  rw [l1, l2]
  exact said_shift hc _ _
theorem sign_ok (r : Int) (f : Bool) : PyData.strOk (signZ r f) = true := by
  unfold signZ
  split
  · rename_i h
    unfold PyData.strOk chr1
    have : ∀ (f : Bool) (k : Nat), k < 26 → ((if f then sFIG else sLET).cps.toList.getD k 0) < 0x110000 := by decide +kernel
    simp only [Array.all_push, List.size_toArray]
    simpa using this f _ (by omega)
  · split
    · decide +kernel
    · split <;> decide +kernel
theorem said_strs : ∀ (rs : List Int) (f : Bool), ∀ a ∈ saidL rs f, PyData.strOk a = true
  | [], _, _, h => nomatch h
  | r :: rs, f, a, h => by
    rcases List.mem_cons.mp h with rfl | h
    · exact sign_ok _ _
    · exact said_strs rs _ a h
theorem held_ok (h : P.fns[i]? = some (Fb5_l_is_held i1 i2)) (h1 : P.fns[i1]? = some (Fb_said_by_rows i3 i4)) (h2 : P.fns[i2]? = some (Fb_reach i3)) (h3 : P.fns[i3]? = some Fb_is_shift) (h4 : P.fns[i4]? = some (Fb_sign_of i5)) (h5 : P.fns[i5]? = some Fb_is_key) (G : CodeG P)
    (rs mid : List Int) (p : Nat) (hp : p < rs.length) (hl : rs.length ≤ 1500) (hm : mid.length ≤ 1) (sto : List Ob) :
    res (rn (callF P wf (n + 40) (k + 4) i [.lst .own (rs.map .int), .int p, .lst .own ((rs.take p ++ mid ++ rs.drop (p + 1)).map .int)]) ⟨[], sto⟩) = .ok (.bl true) [.lst .own (rs.map .int), .int p, .lst .own ((rs.take p ++ mid ++ rs.drop (p + 1)).map .int)] sto := by
  refine FC_eq (FC_run h rfl ?_)
  have hb : (rs.take p ++ mid ++ rs.drop (p + 1)).length < 10000 := by simp only [List.length_append, List.length_take, List.length_drop]; omega
  obtain ⟨m1, m2, m3, m4⟩ := held_math rs mid p hp
  have es := fun sto => said_ok (wf := wf) (n := n) (k := k) h1 h3 h4 h5 G rs (by omega) sto
  have eb := fun sto => said_ok (wf := wf) (n := n) (k := k) h1 h3 h4 h5 G _ hb sto
  have er := fun sto => reach_ok (wf := wf) (n := n) (k := k + 1) h2 h3 G rs (by omega) p hp sto
  generalize hbs : rs.take p ++ mid ++ rs.drop (p + 1) = bs at *
  generalize ht : reachL (rs.drop (p + 1)) (p + 1) = t at *
  simp only [b5_l_is_held]
  walk_at "vs"
  refine ⟨by rw [small_of (by omega) (by omega), small_of (by omega) (by omega)]; rfl, ?_⟩
  refine W_compR (I := fun i acc s => ∃ (xs : List Int) (x : D), acc = xs.map .int ∧ ((xs = [] ∧ reachL (rs.drop (p + 1 + i)) (p + 1 + i) = t) ∨ ∃ tl, xs = (t : Int) :: tl) ∧ xs.length ≤ i ∧
    s = ⟨[.lst .own (rs.map .int), .int p, .lst .own (bs.map .int), .lst .own (rs.map .int), .int t, .gone, x, .gone, .gone, .gone], sto⟩) ?_ ?_ ⟨[], .gone, rfl, .inl ⟨rfl, ht⟩, Nat.le_refl _, rfl⟩
  · rintro q acc env sto hq ⟨xs, x, rfl, hx, hxl, he⟩
    cases he
    walk_at "vs"
    have hlt : p + 1 + q < rs.length := by omega
    have e0 : rs.drop (p + 1 + q) = rs[p + 1 + q] :: rs.drop (p + 1 + q + 1) := List.drop_eq_getElem_cons hlt
    refine ⟨p + 1 + q, by rw [show (p : Int) + 1 + q = ((p + 1 + q : Nat) : Int) by omega, ixN_nat, if_pos hlt], _, List.getElem?_eq_getElem hlt, by decide, ?_⟩
    rw [e0] at hx
    generalize rs[p + 1 + q] = r at *
    have hB : (decide (29 = r) || decide (30 = r)) = isShift r := by simp only [isShift, eq_comm]
    rw [hB]
    cases hr : isShift r with
    | true =>
      walk_at "vs"
      refine ⟨lt_size (by omega), xs ++ [(p : Int) + 1 + q], _, by rw [List.map_append]; rfl, .inr ?_, by rw [List.length_append]; exact Nat.succ_le_succ hxl, rfl⟩
      rcases hx with ⟨rfl, e⟩ | ⟨tl, rfl⟩
      · refine ⟨[], ?_⟩
        have : p + 1 + q = t := by rw [← e]; unfold reachL; rw [if_pos hr]
        rw [← this]; simp
      · exact ⟨_, rfl⟩
    | false =>
      walk_at "vs"
      refine ⟨xs, _, rfl, ?_, by omega, rfl⟩
      rcases hx with ⟨rfl, e⟩ | ⟨tl, rfl⟩
      · refine .inl ⟨rfl, ?_⟩
        rw [← e]; conv => rhs; unfold reachL; rw [if_neg (by rw [hr]; decide)]
        rfl
      · exact .inr ⟨_, rfl⟩
  · rintro acc s ⟨xs, x, rfl, hx, hxl, rfl⟩
    have hdue : ∃ tl : List Int, xs ++ [(rs.length : Int)] = (t : Int) :: tl := by
      rcases hx with ⟨rfl, e⟩ | ⟨tl, rfl⟩
      · rw [show p + 1 + ((rs.length : Int) - (p + 1)).toNat = rs.length by omega, List.drop_length] at e
        exact ⟨[], by rw [← e]; rfl⟩
      · exact ⟨_, rfl⟩
    clear hx
    walk_at "vs"
    obtain ⟨tl, hd⟩ := hdue
    rw [show List.map D.int xs ++ [D.int (rs.length : Int)] = D.int (t : Int) :: tl.map D.int by rw [← List.map_cons, ← hd, List.map_append]; rfl]
    walk_at "vs"
    have l1 := saidL_len rs false
    have l2 := saidL_len bs false
    have c1 : cutA (saidL rs false) (some (((saidL rs false).length : Int) - ((rs.length : Int) - t))) none = (saidL rs false).drop t := by
      rw [l1, show (rs.length : Int) - ((rs.length : Int) - t) = (t : Int) by omega, cutA_from]
    have c2 : cutA (saidL bs false) (some (((saidL bs false).length : Int) - ((rs.length : Int) - t))) none = (saidL rs false).drop t := by
      rw [l2, show (bs.length : Int) - ((rs.length : Int) - t) = ((bs.length - (rs.length - t) : Nat) : Int) by omega, cutA_from, m1]
    refine ⟨by decide, fits_of (by omega), ?_⟩
    rw [c1, c2]
    refine ⟨true, ?_, fun _ => ?_, fun h => by cases h⟩
    · rw [eq_ll_str, decide_eq_true rfl]
      intro a ha
      rcases List.mem_append.mp ha with h | h <;> exact said_strs _ _ _ (List.mem_of_mem_drop h)
    · rw [l2]; exact ⟨by simp, rfl, rfl⟩
theorem law_ok (h : P.fns[i]? = some (Fb5_law i6 i7 l j)) (h6 : P.fns[i6]? = some Fb_l_bag) (h7 : P.fns[i7]? = some Fb_l_take) (h8 : P.fns[l]? = some (Fb5_l_tape i7)) (hj : P.fns[j]? = some (Fb5_l_is_held i1 i2)) (h1 : P.fns[i1]? = some (Fb_said_by_rows i3 i4)) (h2 : P.fns[i2]? = some (Fb_reach i3)) (h3 : P.fns[i3]? = some Fb_is_shift) (h4 : P.fns[i4]? = some (Fb_sign_of i5)) (h5 : P.fns[i5]? = some Fb_is_key) (G : CodeG P)
    (ns : List Int) (hn : ns.length ≤ 63) (sto : List Ob) : FC P wf (n + 40) (k + 5) i [.lst .wrt (ns.map .int)] sto (fun v outs _ => v = .bl true ∧ outs.length = 1) noXR := by
  refine FC_run h rfl ?_
  have eh := fun rs mid p hp hl hm sto => held_ok (wf := wf) (n := n) (k := k) hj h1 h2 h3 h4 h5 G rs mid p hp hl hm sto
  simp only [b5_law]
  walk_at "vs"
  refine ⟨small_of (by omega) (by omega), W_forR (I := fun i s => ∃ x1 x2 x3 x4 x5, s = ⟨[.lst .wrt (ns.map .int), x1, x2, x3, x4, x5], sto⟩) ?_ ?_ ⟨_, _, _, _, _, rfl⟩⟩
  · rintro q s hq ⟨x1, x2, x3, x4, x5, rfl⟩
    have hq2 : q < 1000 := by omega
    rw [show (0 : Int) + (q : Int) = ((q : Nat) : Int) by omega]
    walk_at "vs"
    refine W_call (bag_ok h6 hq2) ?_
    rintro _ _ _ ⟨rfl, b, rfl, rfl, hb⟩
    refine ⟨rfl, ?_⟩
    walk_at "vs"
    refine W_call (take_ok h7 hb (by omega)) ?_
    rintro _ _ _ ⟨rfl, r0, b1, rfl, rfl, hb1, hr0, hr1⟩
    refine ⟨rfl, ?_⟩
    walk_at "vs"
    refine ⟨by decide, W_call (tape_ok h8 h7 hb1 (by omega)) ?_⟩
    rintro _ _ _ ⟨rfl, xs, b2, rfl, rfl, hb2, hx, hxl⟩
    refine ⟨rfl, ?_⟩
    walk_at "vs"
    rw [show cutA xs none (some 1499) = xs.take 1499 from cutA_to xs 1499, ← List.map_cons]
    obtain ⟨rs, hrs⟩ : ∃ rs, rs = r0 :: xs.take 1499 := ⟨_, rfl⟩
    rw [← hrs, show (xs.take 1499).length + 1 = rs.length by rw [hrs]; rfl]
    have hrl : 0 < rs.length ∧ rs.length ≤ 1500 := by rw [hrs]; simp only [List.length_cons, List.length_take]; omega
    clear hrs
    refine ⟨fits_of (by simp only [List.length_take]; omega), W_call (take_ok h7 hb2 (by omega)) ?_⟩
    rintro _ _ _ ⟨rfl, p2, b3, rfl, rfl, hb3, hp2, hp2'⟩
    refine ⟨rfl, ?_⟩
    walk_at "vs"
    refine W_call (take_ok h7 hb3 (by omega)) ?_
    rintro _ _ _ ⟨rfl, p3, b4, rfl, rfl, hb4, hp3, hp3'⟩
    refine ⟨rfl, ?_⟩
    walk_at "vs"
    refine ⟨by decide, ?_⟩
    rw [show [D.int 0, D.int ((rs.length : Int) - 1), D.int p2, D.int p3] = [0, (rs.length : Int) - 1, p2, p3].map D.int from rfl]
    refine W_forM (I := fun pre s => ∃ b x4 x5, Bag b ∧ s = ⟨[.lst .wrt (ns.map .int), .int q, bagD b, .lst .own (rs.map .int), x4, x5], _⟩) ?_ ?_ ⟨b4, _, _, hb4, rfl⟩
    · rintro pre a post s c ⟨b5, x4, x5, hb5, rfl⟩
      obtain ⟨p, rfl, hp⟩ : ∃ p : Nat, a = p ∧ p < rs.length := by
        have := c.mem
        simp only [List.mem_cons, List.not_mem_nil, or_false] at this
        exact ⟨a.toNat, by omega, by omega⟩
      walk_at "vs"
      refine W_call (take_ok h7 hb5 (by omega)) ?_
      rintro _ _ _ ⟨rfl, ra, b6, rfl, rfl, hb6, hra, hra'⟩
      refine ⟨rfl, ?_⟩
      walk_at "vs"
      refine ⟨by decide, W_call (take_ok h7 hb6 (by omega)) ?_⟩
      rintro _ _ _ ⟨rfl, rb, b7, rfl, rfl, hb7, hrb, hrb'⟩
      refine ⟨rfl, ?_⟩
      obtain ⟨row, hrow⟩ : ∃ row : Int, [D.int ra, D.int 29, D.int 30][rb.toNat]? = some (.int row) := by
        rcases (by omega : rb = 0 ∨ rb = 1 ∨ rb = 2) with rfl | rfl | rfl <;> exact ⟨_, rfl⟩
      have hix : ixN 3 rb = some rb.toNat := ixN_at hrb hrb'
      have c1 : cutA rs none (some (p : Int)) = rs.take p := cutA_to rs p
      have c2 : cutA rs (some ((p : Int) + 1)) none = rs.drop (p + 1) := cutA_from rs (p + 1)
      have e1 := eh rs [row] p hp hrl.2 (by simp)
      have e2 := eh rs [] p hp hrl.2 (by simp)
      simp only [List.map_append, List.map_cons, List.map_nil, List.append_nil] at e1 e2
      walk_at "vs"
      have lt : (rs.take p).length ≤ 1500 := by rw [List.length_take]; omega
      have ld : (rs.drop (p + 1)).length ≤ 1500 := by rw [List.length_drop]; omega
      exact ⟨by decide, fits_of (by omega), fits_of (by simp only [List.length_append, List.length_map, List.length_cons, List.length_nil]; omega), fits_of (by omega), b7, _, _, hb7, rfl⟩
    · rintro s ⟨b5, x4, x5, hb5, rfl⟩
      walk_at "vs"
      exact ⟨_, _, _, _, _, rfl⟩
  · rintro s ⟨x1, x2, x3, x4, x5, rfl⟩
    walk_at "vs"
end
end VS
/-! Hits only punch. -/
namespace VS
open PySem L2
/- hit_tape: 0=tape 1=masks 2=row 3=mask -/
def b6_hit_tape : List VS.CS := [.ret (.comp [2, 3] (.tup [(.name 2), (.name 3)]) (.zip [(.loc 0), (.loc 1)]) none (.bin .bor (.loc 2) (.loc 3)))]
abbrev Fb6_hit_tape : VS.FD := ⟨2, 4, [], [true, true], b6_hit_tape⟩
/- _law_masks: 0=_law_bag_here 1=_law_many 2=_law_some 3=_law_k -/
def b6_l_masks (i__law_take : Nat) : List VS.CS := [.asg (.pat (.name 2)) (.comp [3] (.name 3) (.range [(.bin .add (.lit (.int 1)) (.call i__law_take [(.loc 0), (.lit (.int 40))]))]) none (.call i__law_take [(.loc 0), (.lit (.int 32))])), .ret (.comp [3] (.name 3) (.range [(.loc 1)]) none (.sub (.loc 2) (.bin .mod (.loc 3) (.bi .len [(.loc 2)]))))]
abbrev Fb6_l_masks (i__law_take : Nat) : VS.FD := ⟨2, 4, [], [true, true], b6_l_masks i__law_take⟩
/- _law_holes: 0=_law_row 1=_law_hole -/
def b6_l_holes : List VS.CS := [.ret (.comp [1] (.name 1) (.it (.tup [(.lit (.int 1)), (.lit (.int 2)), (.lit (.int 4)), (.lit (.int 8)), (.lit (.int 16))])) none (.bin .mod (.bin .fdiv (.loc 0) (.loc 1)) (.lit (.int 2))))]
abbrev Fb6_l_holes : VS.FD := ⟨1, 2, [], [true], b6_l_holes⟩
/- _law_is_hit: 0=_law_tape_here 1=_law_masks_here 2=_law_told 3=_law_row 4=_law_mask 5=_law_other 6=_law_a 7=_law_b -/
def b6_l_is_hit (i__law_holes : Nat) : List VS.CS := [.ite (.or (.not (.isi (.loc 2) .list)) (.cmp .ne (.bi .len [(.loc 2)]) (.bi .len [(.loc 0)]))) [.ret (.lit (.bl false))] [], .for (.tup [(.name 3), (.name 4), (.name 5)]) (.zip [(.loc 0), (.loc 1), (.loc 2)]) [.ite (.or (.not (.isi (.loc 5) .int)) (.or (.isi (.loc 5) .bool) (.not (.chain .le .le (.lit (.int 0)) (.loc 5) (.lit (.int 31)))))) [.ret (.lit (.bl false))] [], .ite (.cmp .ne (.call i__law_holes [(.loc 5)]) (.comp [6, 7] (.tup [(.name 6), (.name 7)]) (.zip [(.call i__law_holes [(.loc 3)]), (.call i__law_holes [(.loc 4)])]) none (.bi .max [(.loc 6), (.loc 7)]))) [.ret (.lit (.bl false))] []], .ret (.lit (.bl true))]
abbrev Fb6_l_is_hit (i__law_holes : Nat) : VS.FD := ⟨3, 8, [], [true, true, true], b6_l_is_hit i__law_holes⟩
/- law: 0=_law_script 1=_law_k 2=_law_bag_here 3=_law_few 4=_law_tape_here 5=_law_more 6=_law_some 7=_law_row 8=_law_handed 9=_law_told 10=_law_both -/
def b6_law_r9 (i_hit_tape : Nat) (i__law_bag : Nat) (i__law_take : Nat) (i__law_tape : Nat) (i__law_masks : Nat) (i__law_is_hit : Nat) : List VS.CS := [.asg (.pat (.name 8)) (.lst [(.bi .list [(.loc 4)]), (.bi .list [(.loc 6)])]), .asg (.pat (.name 9)) (.call i_hit_tape [(.sub (.loc 8) (.lit (.int 0))), (.sub (.loc 8) (.lit (.int 1)))]), .ite (.or (.cmp .ne (.loc 8) (.lst [(.loc 4), (.loc 6)])) (.not (.call i__law_is_hit [(.loc 4), (.loc 6), (.loc 9)]))) [.ret (.lit (.bl false))] [], .asg (.pat (.name 10)) (.call i_hit_tape [(.bi .list [(.loc 9)]), (.bi .list [(.loc 5)])]), .ite (.or (.not (.call i__law_is_hit [(.loc 9), (.loc 5), (.loc 10)])) (.cmp .ne (.loc 10) (.call i_hit_tape [(.call i_hit_tape [(.bi .list [(.loc 4)]), (.bi .list [(.loc 5)])]), (.bi .list [(.loc 6)])]))) [.ret (.lit (.bl false))] [], .ite (.cmp .ne (.call i_hit_tape [(.bi .list [(.loc 9)]), (.bi .list [(.loc 6)])]) (.loc 9)) [.ret (.lit (.bl false))] [], .expr (.bm .append (.loc 9) [(.lit (.int 31))]), .ite (.or (.cmp .ne (.loc 8) (.lst [(.loc 4), (.loc 6)])) (.cmp .ne (.call i_hit_tape [(.sub (.loc 8) (.lit (.int 0))), (.sub (.loc 8) (.lit (.int 1)))]) (.slice (.loc 9) none (some (.neg (.lit (.int 1))))))) [.ret (.lit (.bl false))] []]
def b6_law (i_hit_tape : Nat) (i__law_bag : Nat) (i__law_take : Nat) (i__law_tape : Nat) (i__law_masks : Nat) (i__law_is_hit : Nat) : List VS.CS := [.for (.name 1) (.range [(.bi .max [(.lit (.int 1)), (.bi .min [(.lit (.int 3)), (.bi .len [(.loc 0)])])])]) (.asg (.pat (.name 2)) (.call i__law_bag [(.loc 0), (.loc 1)]) :: .asg (.pat (.name 3)) (.call i__law_take [(.loc 2), (.lit (.int 4))]) :: .asg (.pat (.name 4)) (.call i__law_tape [(.loc 2), (.lit (.int 40))]) :: .asg (.pat (.name 5)) (.call i__law_masks [(.loc 2), (.bi .len [(.loc 4)])]) :: .asg (.pat (.name 6)) (.call i__law_masks [(.loc 2), (.bi .len [(.loc 4)])]) :: .ite (.cmp .eq (.loc 3) (.lit (.int 0))) [.asg (.pat (.name 6)) (.comp [7] (.name 7) (.it (.loc 4)) none (.lit (.int 0)))] [] :: b6_law_r9 i_hit_tape i__law_bag i__law_take i__law_tape i__law_masks i__law_is_hit), .ret (.cmp .eq (.call i_hit_tape [(.lst []), (.lst [])]) (.lst []))]
abbrev Fb6_law (i_hit_tape : Nat) (i__law_bag : Nat) (i__law_take : Nat) (i__law_tape : Nat) (i__law_masks : Nat) (i__law_is_hit : Nat) : VS.FD := ⟨1, 11, [], [true], b6_law i_hit_tape i__law_bag i__law_take i__law_tape i__law_masks i__law_is_hit⟩

def orF (r m : Fin 32) : Int := Builtin.bitOr (r.val : Int) (m.val : Int)
theorem or_lor : ∀ r m : Fin 32, Builtin.bitOr (r.val : Int) (m.val : Int) = ((r.val ||| m.val : Nat) : Int) := by decide +kernel
theorem or_nat {r m : Int} (hr : 0 ≤ r ∧ r < 32) (hm : 0 ≤ m ∧ m < 32) : Builtin.bitOr r m = ((r.toNat ||| m.toNat : Nat) : Int) := by
  have := or_lor ⟨r.toNat, by omega⟩ ⟨m.toNat, by omega⟩
  simpa [Int.toNat_of_nonneg hr.1, Int.toNat_of_nonneg hm.1] using this
theorem or_lt {r m : Int} (hr : 0 ≤ r ∧ r < 32) (hm : 0 ≤ m ∧ m < 32) : 0 ≤ Builtin.bitOr r m ∧ Builtin.bitOr r m < 32 := by
  rw [or_nat hr hm]
  have := Nat.or_lt_two_pow (n := 5) (x := r.toNat) (y := m.toNat) (by omega) (by omega)
  omega
def holL (r : Int) : List Int := [r / 1 % 2, r / 2 % 2, r / 4 % 2, r / 8 % 2, r / 16 % 2]
theorem hol_or_f : ∀ r m : Fin 32, holL (Builtin.bitOr (r.val : Int) (m.val : Int)) = ((holL r.val).zip (holL m.val)).map fun p => max p.1 p.2 := by decide +kernel
theorem hol_or {r m : Int} (hr : 0 ≤ r ∧ r < 32) (hm : 0 ≤ m ∧ m < 32) : holL (Builtin.bitOr r m) = ((holL r).zip (holL m)).map fun p => max p.1 p.2 := by
  have := hol_or_f ⟨r.toNat, by omega⟩ ⟨m.toNat, by omega⟩
  simpa [Int.toNat_of_nonneg hr.1, Int.toNat_of_nonneg hm.1] using this
def hitZ (t m : List Int) : List Int := (t.zip m).map fun p => Builtin.bitOr p.1 p.2
theorem hitZ_len {t m : List Int} (h : m.length = t.length) : (hitZ t m).length = t.length := by unfold hitZ; simp [h]
theorem hitZ_at {t m : List Int} {i : Nat} {r k : Int} (h1 : t[i]? = some r) (h2 : m[i]? = some k) : (hitZ t m)[i]? = some (Builtin.bitOr r k) := by
  unfold hitZ
  rw [List.getElem?_map, (List.getElem?_zip_eq_some (z := (r, k))).mpr ⟨h1, h2⟩]; rfl
theorem hitZ_rows {t m : List Int} (ht : rowsIn 32 t) (hm : rowsIn 32 m) : rowsIn 32 (hitZ t m) := fun x hx => by
  unfold hitZ at hx
  obtain ⟨⟨r, k⟩, hp, rfl⟩ := List.mem_map.mp hx
  exact or_lt (ht r (List.of_mem_zip hp).1) (hm k (List.of_mem_zip hp).2)
theorem hitZ_ext {t m u v : List Int} (h1 : m.length = t.length) (h2 : u.length = t.length) (h3 : v.length = t.length) (h : ∀ (i : Nat) r k a b, t[i]? = some r → m[i]? = some k → u[i]? = some a → v[i]? = some b → Builtin.bitOr r k = Builtin.bitOr a b) : hitZ t m = hitZ u v := by
  apply List.ext_getElem?
  intro i
  by_cases hi : i < t.length
  · have e1 : t[i]? = some t[i] := List.getElem?_eq_getElem hi
    have e2 : m[i]? = some m[i] := List.getElem?_eq_getElem (by omega)
    have e3 : u[i]? = some u[i] := List.getElem?_eq_getElem (by omega)
    have e4 : v[i]? = some v[i] := List.getElem?_eq_getElem (by omega)
    rw [hitZ_at e1 e2, hitZ_at e3 e4, h i _ _ _ _ e1 e2 e3 e4]
  · rw [List.getElem?_eq_none (by rw [hitZ_len h1]; omega), List.getElem?_eq_none (by rw [hitZ_len (by omega)]; omega)]
theorem or3 {r m k : Int} (hr : 0 ≤ r ∧ r < 32) (hm : 0 ≤ m ∧ m < 32) (hk : 0 ≤ k ∧ k < 32) : Builtin.bitOr (Builtin.bitOr r m) k = Builtin.bitOr (Builtin.bitOr r k) m := by
  rw [or_nat (or_lt hr hm) hk, or_nat (or_lt hr hk) hm, or_nat hr hm, or_nat hr hk]
  simp only [Int.toNat_natCast]
  rw [Nat.or_assoc, Nat.or_comm m.toNat, ← Nat.or_assoc]
theorem or2 {r m : Int} (hr : 0 ≤ r ∧ r < 32) (hm : 0 ≤ m ∧ m < 32) : Builtin.bitOr (Builtin.bitOr r m) m = Builtin.bitOr r m := by
  rw [or_nat (or_lt hr hm) hm, or_nat hr hm]
  simp only [Int.toNat_natCast]
  rw [Nat.or_assoc, Nat.or_self]
theorem mem_at {xs : List Int} {i : Nat} {x : Int} (h : rowsIn 32 xs) (e : xs[i]? = some x) : 0 ≤ x ∧ x < 32 := h x (List.mem_of_getElem? e)
theorem hit_comm {t m k : List Int} (ht : rowsIn 32 t) (hm : rowsIn 32 m) (hk : rowsIn 32 k) (l1 : m.length = t.length) (l2 : k.length = t.length) : hitZ (hitZ t m) k = hitZ (hitZ t k) m := by
  have q1 := hitZ_len l1
  have q2 := hitZ_len l2
  refine hitZ_ext (by omega) (by omega) (by omega) fun i a b c d e1 e2 e3 e4 => ?_
  have hi : i < t.length := by rw [← q1]; exact (List.getElem?_eq_some_iff.mp e1).1
  have e5 : t[i]? = some t[i] := List.getElem?_eq_getElem hi
  rw [hitZ_at e5 e4] at e1
  rw [hitZ_at e5 e2] at e3
  cases e1; cases e3
  exact or3 (mem_at ht e5) (mem_at hm e4) (mem_at hk e2)
theorem hit_twice {t m : List Int} (ht : rowsIn 32 t) (hm : rowsIn 32 m) (l1 : m.length = t.length) : hitZ (hitZ t m) m = hitZ t m := by
  have q1 := hitZ_len l1
  refine hitZ_ext (by omega) (by omega) (by omega) fun i a b c d e1 e2 e3 e4 => ?_
  rw [hitZ_at e3 e4] at e1
  rw [e2] at e4
  cases e1; cases e4
  exact or2 (mem_at ht e3) (mem_at hm e2)
section
variable {P : Prog} {wf n k i i1 i2 i3 i4 i5 i6 i7 j : Nat} {sto : List Ob}
theorem hit_ok (h : P.fns[i]? = some Fb6_hit_tape) {o : Fl} (ho : o = .own ∨ o = .frz) {t m : List Int} (hl : m.length = t.length) (hlen : t.length < 10000) (sto : List Ob) :
    res (rn (callF P wf (n + 40) (k + 1) i [.lst o (t.map .int), .lst o (m.map .int)]) ⟨[], sto⟩) = .ok (.lst .own ((hitZ t m).map .int)) [.lst o (t.map .int), .lst o (m.map .int)] sto := by
  refine FC_eq (FC_run h rfl ?_)
  have e : (t.zip m).filterMap (fun p : Int × Int => some (D.int (Builtin.bitOr p.1 p.2))) = (hitZ t m).map D.int := by simp [hitZ]
  have hz : (t.zip m).length < sizeLine := lt_size (by simp; omega)
  simp only [b6_hit_tape]
  rcases ho with rfl | rfl
  · walk_at "vso"
    refine W_compP (S := fun s => ∃ x2 x3, s = ⟨[.lst .lck (t.map .int), .lst .lck (m.map .int), x2, x3], sto⟩) (g := fun p : Int × Int => some (.int (Builtin.bitOr p.1 p.2))) hz ?_ ?_ ⟨_, _, rfl⟩
    · rintro ⟨r, q⟩ env sto' _ ⟨x2, x3, he⟩
      cases he
      walk_at "vso"
      exact ⟨_, _, rfl⟩
    · rintro s ⟨x2, x3, rfl⟩
      rw [e]
      walk_at "vso"
      exact ⟨rfl, rfl, rfl⟩
  · walk_at "vso"
    refine W_compP (S := fun s => ∃ x2 x3, s = ⟨[.lst .frz (t.map .int), .lst .frz (m.map .int), x2, x3], sto⟩) (g := fun p : Int × Int => some (.int (Builtin.bitOr p.1 p.2))) hz ?_ ?_ ⟨_, _, rfl⟩
    · rintro ⟨r, q⟩ env sto' _ ⟨x2, x3, he⟩
      cases he
      walk_at "vso"
      exact ⟨_, _, rfl⟩
    · rintro s ⟨x2, x3, rfl⟩
      rw [e]
      walk_at "vso"
      exact ⟨rfl, rfl, rfl⟩
theorem holes6_ok (h : P.fns[i]? = some Fb6_l_holes) (r : Int) (sto : List Ob) : res (rn (callF P wf (n + 40) (k + 1) i [.int r]) ⟨[], sto⟩) = .ok (.lst .own ((holL r).map .int)) [.int r] sto := by
  refine FC_eq (FC_run h rfl ?_)
  simp only [b6_l_holes]
  walk_at "vso"
  exact ⟨by decide, by decide, by decide, by decide, by decide, by decide, rfl, rfl, rfl⟩
def flD : Bool → Fl
  | true => .own
  | false => .frz
def flL : Bool → Fl
  | true => .lck
  | false => .frz
theorem is_hit_ok (h : P.fns[i]? = some (Fb6_l_is_hit i1)) (h1 : P.fns[i1]? = some Fb6_l_holes) (o : Bool) {t m : List Int} (ht : rowsIn 32 t) (hm : rowsIn 32 m) (hl : m.length = t.length) (hlen : t.length < 10000) (sto : List Ob) :
    res (rn (callF P wf (n + 40) (k + 2) i [.lst (flD o) (t.map .int), .lst (flD o) (m.map .int), .lst .own ((hitZ t m).map .int)]) ⟨[], sto⟩) = .ok (.bl true) [.lst (flD o) (t.map .int), .lst (flD o) (m.map .int), .lst .own ((hitZ t m).map .int)] sto := by
  refine FC_eq (FC_run h rfl ?_)
  have e1 := fun r sto => holes6_ok (wf := wf) (n := n) (k := k) h1 r sto
  have q1 := hitZ_len hl
  have q2 : ((hitZ t m).length : Int) = (t.length : Int) := by omega
  have comp : ∀ (x0 x1 x2 x5 : D) (r q : Int) (Q : List D → Sx → Prop), (∀ x6 x7, Q ((((holL r).zip (holL q)).map fun p => max p.1 p.2).map .int) ⟨[x0, x1, x2, .int r, .int q, x5, x6, x7], sto⟩) → ∀ x6 x7 : D,
      W (rn (compLoop (evalE P (callF P wf (n + 40) (k + 1)) (n + 36)) [6, 7] (.tup [.name 6, .name 7]) none (.bi .max [.loc 6, .loc 7]) (((holL r).zip (holL q)).map fun p => D.tup [.int p.1, .int p.2]) []) ⟨[x0, x1, x2, .int r, .int q, x5, x6, x7], sto⟩) Q noX := fun x0 x1 x2 x5 r q Q hQ x6 x7 => by
    refine W_compP (S := fun s => ∃ x6 x7, s = ⟨[x0, x1, x2, .int r, .int q, x5, x6, x7], sto⟩) (g := fun p : Int × Int => some (.int (max p.1 p.2))) (lt_size (by simp [holL])) ?_ ?_ ⟨_, _, rfl⟩
    · rintro ⟨a, b⟩ env sto' _ ⟨x6, x7, he⟩
      cases he
      clear e1
      walk_at "vso"
      exact ⟨_, _, rfl⟩
    · rintro s ⟨x6, x7, rfl⟩
      rw [show (((holL r).zip (holL q)).filterMap fun p : Int × Int => some (D.int (max p.1 p.2))) = (((holL r).zip (holL q)).map fun p => max p.1 p.2).map D.int by simp]
      exact hQ _ _
  simp only [b6_l_is_hit]
  cases o
  all_goals
    simp only [flD]
    walk_at "vso"
    refine ⟨by decide, ?_⟩
    refine W_forT (I := fun _ _ s => ∃ x3 x4 x5, s = ⟨[_, _, .lst .lck ((hitZ t m).map .int), x3, x4, x5, .gone, .gone], sto⟩) ?_ ?_ ⟨_, _, _, rfl⟩
    · rintro i ⟨r, q, x⟩ rest s c ⟨x3, x4, x5, rfl⟩
      obtain ⟨a1, a2⟩ := List.getElem?_zip_eq_some.mp c.at
      obtain ⟨a2, a3⟩ := List.getElem?_zip_eq_some.mp a2
      have a1 : t[i]? = some r := a1
      have a2 : m[i]? = some q := a2
      have a3 : (hitZ t m)[i]? = some x := a3
      rw [hitZ_at a1 a2] at a3
      have hr := mem_at ht a1
      have hq := mem_at hm a2
      have hx := or_lt hr hq
      have hh := hol_or hr hq
      have a3 : Builtin.bitOr r q = x := by cases a3; rfl
      rw [a3] at hx hh
      have eq1 : ∀ o1 o2, eqD (.lst o1 ((holL x).map .int)) (.lst o2 ((((holL r).zip (holL q)).map fun p => max p.1 p.2).map .int)) = some true := fun o1 o2 => by rw [hh]; exact eq_ll_int.trans (by simp)
      have hx1 : 0 ≤ x := hx.1
      have hx2 : x ≤ 31 := by omega
      clear a1 a2 a3 hh hx hr hq c
      walk_at "vso"
      refine comp _ _ _ _ _ _ _ (fun x6 x7 => ?_) _ _
      clear comp e1
      generalize holL x = hx at *
      generalize ((holL r).zip (holL q)).map (fun p => max p.1 p.2) = hy at *
      walk_at "vso"
      exact ⟨_, _, _, rfl⟩
    · rintro s ⟨x3, x4, x5, rfl⟩
      clear comp e1
      walk_at "vso"
      exact ⟨rfl, rfl, rfl⟩
theorem masks_ok (h : P.fns[i]? = some (Fb6_l_masks j)) (ht : P.fns[j]? = some Fb_l_take) {b : Int × Int} (hb : Bag b) {q : Nat} (hq : q ≤ 1500) :
    FC P wf (n + 40) (k + 2) i [bagD b, .int q] sto (fun v outs sto' => sto' = sto ∧ ∃ (xs : List Int) (b' : Int × Int), v = .lst .own (xs.map .int) ∧ outs = [bagD b', .int q] ∧ Bag b' ∧ rowsIn 32 xs ∧ xs.length = q) noXR := by
  refine FC_run h rfl ?_
  simp only [b6_l_masks]
  walk_at "vso"
  refine W_call (take_ok ht hb (by omega)) ?_
  rintro _ _ sto ⟨rfl, w, b1, rfl, rfl, hb1, hw0, hw1⟩
  refine ⟨rfl, ?_⟩
  walk_at "vso"
  refine ⟨small_of (by omega) (by omega), ?_⟩
  refine W_comp0 (I := fun i acc s => ∃ (xs : List Int) (b' : Int × Int) (x : D), acc = xs.map .int ∧ xs.length = i ∧ rowsIn 32 xs ∧ Bag b' ∧ s = ⟨[bagD b', .int q, .gone, x], sto⟩) ?_ ?_ ⟨[], b1, _, rfl, rfl, (fun _ h => nomatch h), hb1, rfl⟩
  · rintro t acc env sto' ht' ⟨xs, b', x, rfl, hxl, hx, hb', he⟩
    cases he
    walk_at "vso"
    refine W_call (take_ok ht hb' (by omega)) ?_
    rintro _ _ _ ⟨rfl, d, b3, rfl, rfl, hb3, hd0, hd1⟩
    refine ⟨rfl, ?_⟩
    walk_at "vso"
    exact ⟨lt_size (by omega), xs ++ [d], b3, _, by rw [List.map_append]; rfl, by rw [List.length_append, hxl]; rfl, hx.app (.one hd0 hd1), hb3, rfl⟩
  · rintro acc s ⟨xs, b', x, rfl, hxl, hx, hb', rfl⟩
    have hpos : 0 < xs.length := by omega
    clear hxl
    have hs : small62 (q : Int) = true := small_of (by omega) (by omega)
    walk_at "vso"
    refine W_comp0 (I := fun i acc s => ∃ (ys : List Int) (x : D), acc = ys.map .int ∧ ys.length = i ∧ rowsIn 32 ys ∧ s = ⟨[bagD b', .int q, .lst .own (xs.map .int), x], sto⟩) ?_ ?_ ⟨[], _, rfl, rfl, (fun _ h => nomatch h), rfl⟩
    · rintro t acc env sto' ht' ⟨ys, x, rfl, hyl, hy, he⟩
      cases he
      have hlt : t % xs.length < xs.length := Nat.mod_lt _ hpos
      have g1 : ixN xs.length ((t : Int) % (xs.length : Int)) = some (t % xs.length) := by rw [show (t : Int) % (xs.length : Int) = ((t % xs.length : Nat) : Int) by omega, ixN_nat, if_pos hlt]
      have g2 : xs[t % xs.length]? = some xs[t % xs.length] := List.getElem?_eq_getElem hlt
      have hr := hx xs[t % xs.length] (List.getElem_mem hlt)
      have hp : (0 : Int) < xs.length := by omega
      generalize xs[t % xs.length] = r at *
      have pk : t < sizeLine := lt_size (by omega)
      walk_at "vso"
      exact ⟨ys ++ [r], _, by rw [List.map_append]; rfl, by simp [hyl], hy.app (.one hr.1 hr.2), rfl⟩
    · rintro acc s ⟨ys, x, rfl, hyl, hy, rfl⟩
      walk_at "vso"
      exact ⟨ys, b', rfl, rfl, hb', hy, by simpa using hyl⟩
theorem turn6 (h1 : P.fns[i1]? = some Fb6_hit_tape) (h6 : P.fns[i6]? = some (Fb6_l_is_hit i7)) (h7 : P.fns[i7]? = some Fb6_l_holes)
    (x0 x1 x2 x3 x7 x8 x9 x10 : D) {t m u : List Int} (hr : rowsIn 32 t) (hm : rowsIn 32 m) (hu : rowsIn 32 u) (hl : t.length ≤ 1500) (hml : m.length = t.length) (hul : u.length = t.length) (st0 : List Ob) :
    W (rn (execL (stepS P (evalE P (callF P wf (n + 40) (k + 3)) (n + 38)) (execB P (callF P wf (n + 40) (k + 3)) wf (n + 38)) wf) (b6_law_r9 i1 i2 i3 i4 i5 i6)) ⟨[x0, x1, x2, x3, .lst .own (t.map .int), .lst .own (m.map .int), .lst .own (u.map .int), x7, x8, x9, x10], st0⟩)
      (fun fl s2 => fl = .nx ∧ ∃ x4 x5 x6 x8 x9 x10, s2 = ⟨[x0, x1, x2, x3, x4, x5, x6, x7, x8, x9, x10], st0⟩) noX := by
  have q1 := hitZ_len hul
  have q2 := hitZ_len (t := hitZ t u) (m := m) (by omega)
  have q3 := hitZ_len hml
  have e1 := fun sto => hit_ok (wf := wf) (n := n) (k := k + 2) h1 (o := .frz) (.inr rfl) (t := t) (m := u) hul (by omega) sto
  have e2 := fun sto => hit_ok (wf := wf) (n := n) (k := k + 2) h1 (o := .own) (.inl rfl) (t := hitZ t u) (m := m) (by omega) (by omega) sto
  have e3 := fun sto => hit_ok (wf := wf) (n := n) (k := k + 2) h1 (o := .own) (.inl rfl) (t := t) (m := m) hml (by omega) sto
  have e4 := fun sto => hit_ok (wf := wf) (n := n) (k := k + 2) h1 (o := .own) (.inl rfl) (t := hitZ t m) (m := u) (by omega) (by omega) sto
  have e5 := fun sto => hit_ok (wf := wf) (n := n) (k := k + 2) h1 (o := .own) (.inl rfl) (t := hitZ t u) (m := u) (by omega) (by omega) sto
  rw [hit_comm hr hm hu hml hul] at e4
  rw [hit_twice hr hu hul] at e5
  have g1 := fun sto => is_hit_ok (wf := wf) (n := n) (k := k + 1) h6 h7 false hr hu hul (by omega) sto
  have g2 := fun sto => is_hit_ok (wf := wf) (n := n) (k := k + 1) h6 h7 true (hitZ_rows hr hu) hm (by omega) (by omega) sto
  simp only [flD] at g1 g2
  have f2 : fits 2 = true := by decide
  have pk : (hitZ t u).length < sizeLine := lt_size (by omega)
  have eqA : ∀ o q (a b c d : Fl), eqD (.lst o [.lst a (t.map .int), .lst b (u.map .int)]) (.lst q [.lst c (t.map .int), .lst d (u.map .int)]) = some true := fun o q a b c d => by
    have p1 : ∀ (b : List Int), pdL (b.map D.int) = some (b.map PyData.int) := fun b => pdL_map (fun _ => by simp [D.pd]) b
    refine eqD_same (x := .list [.list (t.map .int), .list (u.map .int)]) (by simp [D.pd, pdL, p1]) (by simp [D.pd, pdL, p1]) ?_
    refine shaped_list (g := fun b : List Int => PyData.list (b.map .int)) (d := 2) (by decide) [t, u] (fun b _ => by simp [PyData.canLay0, canAll_map (g := PyData.int) b fun _ _ => by simp [PyData.canLay0]]) fun b _ => ?_
    have := depthAll_map (g := PyData.int) (d := 0) b fun _ _ => by simp [PyData.depth]
    simp only [PyData.depth]; omega
  have c1 : cutA (hitZ t u ++ [31]) none (some (-1)) = hitZ t u := by
    have : HT.sIx (hitZ t u ++ [31]).length (hitZ t u ++ [31]).length (some (-1)) = (hitZ t u).length := by
      simp [HT.sIx]
      omega
    unfold cutA
    rw [this]
    show ((hitZ t u ++ [31]).drop 0).take ((hitZ t u).length - 0) = _
    rw [List.drop_zero, Nat.sub_zero, List.take_left' rfl]
  have em : (hitZ t u).map D.int ++ [D.int 31] = (hitZ t u ++ [31]).map D.int := by simp
  clear q1 q2 q3 hr hm hu hml hul hl
  generalize hitZ (hitZ t u) m = v2 at *
  generalize hitZ t m = v3 at *
  generalize hitZ t u = v1 at *
  simp only [b6_law_r9]
  walk_at "vso"
  exact ⟨_, _, _, _, _, _, rfl⟩
theorem law6_ok (h : P.fns[i]? = some (Fb6_law i1 i2 i3 i4 i5 i6)) (h1 : P.fns[i1]? = some Fb6_hit_tape) (h2 : P.fns[i2]? = some Fb_l_bag) (ht : P.fns[i3]? = some Fb_l_take) (h4 : P.fns[i4]? = some (Fb5_l_tape i3)) (h5 : P.fns[i5]? = some (Fb6_l_masks i3)) (h6 : P.fns[i6]? = some (Fb6_l_is_hit i7)) (h7 : P.fns[i7]? = some Fb6_l_holes)
    (ns : List Int) (hn : ns.length ≤ 63) (st0 : List Ob) : FC P wf (n + 40) (k + 4) i [.lst .wrt (ns.map .int)] st0 (fun v outs _ => v = .bl true ∧ outs.length = 1) noXR := by
  refine FC_run h rfl ?_
  have f2 : fits 2 = true := by decide
  have f0 : fits 0 = true := by decide
  simp only [b6_law]
  walk_at "vso"
  refine ⟨small_of (by omega) (by omega), W_for0 (I := fun i s => ∃ x1 x2 x3 x4 x5 x6 x7 x8 x9 x10, s = ⟨[.lst .wrt (ns.map .int), x1, x2, x3, x4, x5, x6, x7, x8, x9, x10], st0⟩) ?_ ?_ ⟨_, _, _, _, _, _, _, _, _, _, rfl⟩⟩
  · rintro q s hq ⟨x1, x2, x3, x4, x5, x6, x7, x8, x9, x10, rfl⟩
    have hq2 : q < 1000 := by omega
    walk_at "vso"
    refine W_call (bag_ok h2 hq2) ?_
    rintro _ _ sto ⟨rfl, b, rfl, rfl, hb⟩
    refine ⟨rfl, ?_⟩
    walk_at "vso"
    refine W_call (take_ok (m := 4) ht hb (by decide)) ?_
    rintro _ _ sto ⟨rfl, few, b1, rfl, rfl, hb1, hf0, hf1⟩
    refine ⟨rfl, ?_⟩
    walk_at "vso"
    refine W_call (tape_ok h4 ht hb1 (by decide)) ?_
    rintro _ _ sto ⟨rfl, t, b2, rfl, rfl, hb2, hr, hl⟩
    refine ⟨rfl, ?_⟩
    walk_at "vso"
    refine W_call (masks_ok h5 ht hb2 (q := t.length) hl) ?_
    rintro _ _ sto ⟨rfl, m, b3, rfl, rfl, hb3, hm, hml⟩
    refine ⟨rfl, ?_⟩
    walk_at "vso"
    refine W_call (masks_ok h5 ht hb3 (q := t.length) hl) ?_
    rintro _ _ sto ⟨rfl, u, b4, rfl, rfl, hb4, hu, hul⟩
    refine ⟨rfl, ?_⟩
    have tn := fun (u : List Int) (hu : rowsIn 32 u) (hul : u.length = t.length) x7 x8 x9 x10 => turn6 (wf := wf) (n := n) (k := k) (i2 := i2) (i3 := i3) (i4 := i4) (i5 := i5) h1 h6 h7 (.lst .wrt (ns.map .int)) (.int q) (bagD b4) (.int few) x7 x8 x9 x10 hr hm hu hl hml hul sto
    have tn0 := tn (t.map fun _ => (0 : Int)) (fun x hx => by obtain ⟨_, _, rfl⟩ := List.mem_map.mp hx; decide) (by simp)
    have tn1 := tn u hu hul
    clear tn
    have hlp : t.length < sizeLine := lt_size (by omega)
    clear hr hm hu hml hul
    walk_at "vso"
    refine ⟨fun h0 => ?_, fun _ => ?_⟩
    · subst h0
      refine W_compP (S := fun s => ∃ x, s = ⟨[.lst .wrt (ns.map .int), .int q, bagD b4, .int 0, .lst .lck (t.map .int), .lst .own (m.map .int), .lst .own (u.map .int), x, x8, x9, x10], sto⟩) (g := fun _ => some (.int 0)) hlp ?_ ?_ ⟨_, rfl⟩
      · rintro a env sto' _ ⟨x, he⟩
        cases he
        walk_at "vso"
        exact ⟨_, rfl⟩
      · rintro s ⟨x, rfl⟩
        rw [show (t.filterMap fun _ => some (D.int 0)) = (t.map fun _ => (0 : Int)).map D.int by simp]
        generalize (t.map fun _ => (0 : Int)) = u0 at *
        walk_at "vso"
        refine W_mono (tn0 _ _ _ _) ?_ fun _ _ _ h => h.elim
        rintro _ _ ⟨rfl, x4, x5, x6, x8, x9, x10, rfl⟩
        exact ⟨_, _, _, _, _, _, _, _, _, _, rfl⟩
    · refine W_mono (tn1 _ _ _ _) ?_ fun _ _ _ h => h.elim
      rintro _ _ ⟨rfl, x4, x5, x6, x8, x9, x10, rfl⟩
      exact ⟨_, _, _, _, _, _, _, _, _, _, rfl⟩
  · rintro s ⟨x1, x2, x3, x4, x5, x6, x7, x8, x9, x10, rfl⟩
    have e0 := fun sto => hit_ok (wf := wf) (n := n) (k := k + 2) h1 (o := .own) (.inl rfl) (t := []) (m := []) rfl (by decide) sto
    have eq0 : eqD (.lst .own []) (.lst .own []) = some true := eq_ll_int (l := []) (m := [])
    rw [show hitZ [] [] = [] from rfl] at e0
    simp only [List.map_nil] at e0
    walk_at "vso"
end
end VS
namespace Lk06
open PySem L2 VS
def top (i : Nat) : Stmt := PySem.Challenge.pw_tornrelay_k06_hits_only_punch.main.body.getD i (.Pass ⟨0, 0, 0, 0⟩)
/- hit_tape: 0=tape 1=masks 2=row 3=mask -/
def f0 : VS.FD := { np := 2, ns := 4, defs := [], fixed := [true, true], body := [.ret (.comp [2, 3] (.tup [(.name 2), (.name 3)]) (.zip [(.loc 0), (.loc 1)]) none (.bin .bor (.loc 2) (.loc 3)))] }
/- _law_bag: 0=_law_script 1=_law_at 2=_law_cell 3=_law_great 4=_law_primes -/
def f1 : VS.FD := { np := 2, ns := 5, defs := [], fixed := [true, true], body := [.asg (.pat (.name 2)) (.lit (.int 0)), .ite (.cmp .lt (.loc 1) (.bi .len [(.loc 0)])) [.asg (.pat (.name 2)) (.sub (.loc 0) (.loc 1))] [], .asg (.pat (.name 3)) (.lit (.int 0)), .ite (.cmp .ge (.bi .abs [(.loc 2)]) (.bin .pow (.lit (.int 10)) (.lit (.int 18)))) [.asg (.pat (.name 3)) (.bi .abs [(.loc 2)])] [], .asg (.pat (.name 4)) (.lst [(.lit (.int 2147483629)), (.lit (.int 2147483587)), (.lit (.int 2147483579)), (.lit (.int 2147483563)), (.lit (.int 2147483549)), (.lit (.int 2147483543)), (.lit (.int 2147483497)), (.lit (.int 2147483489))]), .ret (.lst [(.loc 3), (.bin .mod (.bin .pow (.bin .add (.bin .add (.bin .mod (.loc 2) (.lit (.int 2147483647))) (.bin .mul (.lit (.int 104729)) (.loc 1))) (.lit (.int 7))) (.lit (.int 5))) (.sub (.loc 4) (.bin .mod (.loc 1) (.lit (.int 8)))))])] }
/- _law_take: 0=_law_bag_here 1=_law_many 2=_law_digit -/
def f2 : VS.FD := { np := 2, ns := 3, defs := [], fixed := [true, true], body := [.ite (.cmp .gt (.sub (.loc 0) (.lit (.int 0))) (.lit (.int 0))) [.asg (.pat (.name 2)) (.bin .mod (.sub (.loc 0) (.lit (.int 0))) (.loc 1)), .asg (.sub (.loc 0) (.lit (.int 0))) (.bin .fdiv (.sub (.loc 0) (.lit (.int 0))) (.loc 1)), .retM 2] [], .asg (.sub (.loc 0) (.lit (.int 1))) (.bin .mod (.bin .add (.bin .mul (.sub (.loc 0) (.lit (.int 1))) (.lit (.int 48271))) (.lit (.int 11))) (.lit (.int 2147483647))), .ret (.bin .mod (.bin .mod (.bin .pow (.bin .fdiv (.sub (.loc 0) (.lit (.int 1))) (.lit (.int 8))) (.lit (.int 3))) (.lit (.int 2147483629))) (.loc 1))] }
/- _law_tape: 0=_law_bag_here 1=_law_few 2=_law_way 3=_law_tape_here 4=_law_k -/
def f3 : VS.FD := { np := 2, ns := 5, defs := [], fixed := [true, true], body := [.asg (.pat (.name 2)) (.call 2 [(.loc 0), (.lit (.int 8))]), .asg (.pat (.name 3)) (.comp [4] (.name 4) (.range [(.call 2 [(.loc 0), (.bin .add (.loc 1) (.lit (.int 1)))])]) none (.call 2 [(.loc 0), (.lit (.int 32))])), .ite (.and (.cmp .eq (.loc 2) (.lit (.int 0))) (.cmp .ne (.loc 3) (.lst []))) [.asg (.pat (.name 3)) (.bin .mul (.loc 3) (.bin .fdiv (.lit (.int 1500)) (.bi .len [(.loc 3)])))] [], .retM 3] }
/- _law_masks: 0=_law_bag_here 1=_law_many 2=_law_some 3=_law_k -/
def f4 : VS.FD := { np := 2, ns := 4, defs := [], fixed := [true, true], body := [.asg (.pat (.name 2)) (.comp [3] (.name 3) (.range [(.bin .add (.lit (.int 1)) (.call 2 [(.loc 0), (.lit (.int 40))]))]) none (.call 2 [(.loc 0), (.lit (.int 32))])), .ret (.comp [3] (.name 3) (.range [(.loc 1)]) none (.sub (.loc 2) (.bin .mod (.loc 3) (.bi .len [(.loc 2)]))))] }
/- _law_holes: 0=_law_row 1=_law_hole -/
def f5 : VS.FD := { np := 1, ns := 2, defs := [], fixed := [true], body := [.ret (.comp [1] (.name 1) (.it (.tup [(.lit (.int 1)), (.lit (.int 2)), (.lit (.int 4)), (.lit (.int 8)), (.lit (.int 16))])) none (.bin .mod (.bin .fdiv (.loc 0) (.loc 1)) (.lit (.int 2))))] }
/- _law_is_hit: 0=_law_tape_here 1=_law_masks_here 2=_law_told 3=_law_row 4=_law_mask 5=_law_other 6=_law_a 7=_law_b -/
def f6 : VS.FD := { np := 3, ns := 8, defs := [], fixed := [true, true, true], body := [.ite (.or (.not (.isi (.loc 2) .list)) (.cmp .ne (.bi .len [(.loc 2)]) (.bi .len [(.loc 0)]))) [.ret (.lit (.bl false))] [], .for (.tup [(.name 3), (.name 4), (.name 5)]) (.zip [(.loc 0), (.loc 1), (.loc 2)]) [.ite (.or (.not (.isi (.loc 5) .int)) (.or (.isi (.loc 5) .bool) (.not (.chain .le .le (.lit (.int 0)) (.loc 5) (.lit (.int 31)))))) [.ret (.lit (.bl false))] [], .ite (.cmp .ne (.call 5 [(.loc 5)]) (.comp [6, 7] (.tup [(.name 6), (.name 7)]) (.zip [(.call 5 [(.loc 3)]), (.call 5 [(.loc 4)])]) none (.bi .max [(.loc 6), (.loc 7)]))) [.ret (.lit (.bl false))] []], .ret (.lit (.bl true))] }
/- law: 0=_law_script 1=_law_k 2=_law_bag_here 3=_law_few 4=_law_tape_here 5=_law_more 6=_law_some 7=_law_row 8=_law_handed 9=_law_told 10=_law_both -/
def f7 : VS.FD := { np := 1, ns := 11, defs := [], fixed := [true], body := [.for (.name 1) (.range [(.bi .max [(.lit (.int 1)), (.bi .min [(.lit (.int 3)), (.bi .len [(.loc 0)])])])]) [.asg (.pat (.name 2)) (.call 1 [(.loc 0), (.loc 1)]), .asg (.pat (.name 3)) (.call 2 [(.loc 2), (.lit (.int 4))]), .asg (.pat (.name 4)) (.call 3 [(.loc 2), (.lit (.int 40))]), .asg (.pat (.name 5)) (.call 4 [(.loc 2), (.bi .len [(.loc 4)])]), .asg (.pat (.name 6)) (.call 4 [(.loc 2), (.bi .len [(.loc 4)])]), .ite (.cmp .eq (.loc 3) (.lit (.int 0))) [.asg (.pat (.name 6)) (.comp [7] (.name 7) (.it (.loc 4)) none (.lit (.int 0)))] [], .asg (.pat (.name 8)) (.lst [(.bi .list [(.loc 4)]), (.bi .list [(.loc 6)])]), .asg (.pat (.name 9)) (.call 0 [(.sub (.loc 8) (.lit (.int 0))), (.sub (.loc 8) (.lit (.int 1)))]), .ite (.or (.cmp .ne (.loc 8) (.lst [(.loc 4), (.loc 6)])) (.not (.call 6 [(.loc 4), (.loc 6), (.loc 9)]))) [.ret (.lit (.bl false))] [], .asg (.pat (.name 10)) (.call 0 [(.bi .list [(.loc 9)]), (.bi .list [(.loc 5)])]), .ite (.or (.not (.call 6 [(.loc 9), (.loc 5), (.loc 10)])) (.cmp .ne (.loc 10) (.call 0 [(.call 0 [(.bi .list [(.loc 4)]), (.bi .list [(.loc 5)])]), (.bi .list [(.loc 6)])]))) [.ret (.lit (.bl false))] [], .ite (.cmp .ne (.call 0 [(.bi .list [(.loc 9)]), (.bi .list [(.loc 6)])]) (.loc 9)) [.ret (.lit (.bl false))] [], .expr (.bm .append (.loc 9) [(.lit (.int 31))]), .ite (.or (.cmp .ne (.loc 8) (.lst [(.loc 4), (.loc 6)])) (.cmp .ne (.call 0 [(.sub (.loc 8) (.lit (.int 0))), (.sub (.loc 8) (.lit (.int 1)))]) (.slice (.loc 9) none (some (.neg (.lit (.int 1))))))) [.ret (.lit (.bl false))] []], .ret (.cmp .eq (.call 0 [(.lst []), (.lst [])]) (.lst []))] }
def glob : List (PySem.Str × VS.D) := []
def meths : List (List (PySem.Str × Nat)) := []
def excUp : Nat → List Nat := fun c => ([] : List (List Nat)).getD c []
def prog : VS.Prog := { fns := [f0, f1, f2, f3, f4, f5, f6, f7], meths := meths, glob := fun x => glob.lookup x, excUp := excUp }
def iLaw : Nat := 7
def d0 : DefI := ⟨"hit_tape", "hit_tape", (top 1), ["tape", "masks", "row", "mask"], ["tape", "masks"], true⟩
def d1 : DefI := ⟨"_law_bag", "_law_bag", (top 3), ["_law_script", "_law_at", "_law_cell", "_law_great", "_law_primes"], ["_law_script", "_law_at"], true⟩
def d2 : DefI := ⟨"_law_take", "_law_take", (top 4), ["_law_bag_here", "_law_many", "_law_digit"], ["_law_bag_here", "_law_many"], true⟩
def d3 : DefI := ⟨"_law_tape", "_law_tape", (top 5), ["_law_bag_here", "_law_few", "_law_way", "_law_tape_here", "_law_k"], ["_law_bag_here", "_law_few"], true⟩
def d4 : DefI := ⟨"_law_masks", "_law_masks", (top 6), ["_law_bag_here", "_law_many", "_law_some", "_law_k"], ["_law_bag_here", "_law_many"], true⟩
def d5 : DefI := ⟨"_law_holes", "_law_holes", (top 7), ["_law_row", "_law_hole"], ["_law_row"], true⟩
def d6 : DefI := ⟨"_law_is_hit", "_law_is_hit", (top 8), ["_law_tape_here", "_law_masks_here", "_law_told", "_law_row", "_law_mask", "_law_other", "_law_a", "_law_b"], ["_law_tape_here", "_law_masks_here", "_law_told"], true⟩
def d7 : DefI := ⟨"law", "law", (top 9), ["_law_script", "_law_k", "_law_bag_here", "_law_few", "_law_tape_here", "_law_more", "_law_some", "_law_row", "_law_handed", "_law_told", "_law_both"], ["_law_script"], true⟩
def dl : List DefI := [d0, d1, d2, d3, d4, d5, d6, d7]
def clI : ClI := ⟨[], []⟩
def exN : List (Option Str) := []
def hdN : HdI := ⟨[], false, []⟩
set_option maxHeartbeats 4000000 in
theorem chk : chkDs 60 prog (gN dl) clI exN hdN dl prog.fns = true := by decide +kernel
theorem md {K : PySem.W.Frag} {w : World} {h : Heap} {mg : Str → Option Value} (X : K.In h) (G : h.Ns mainGlobals mg)
    {f0a : Addr} {od0 an0 : Option Addr} {sl0 : Array (Option Value)} {oc0 kV0 dc0 pm0 cd0 ct0 : Value}
    {f1a : Addr} {od1 an1 : Option Addr} {sl1 : Array (Option Value)} {oc1 kV1 dc1 pm1 cd1 ct1 : Value}
    {f2a : Addr} {od2 an2 : Option Addr} {sl2 : Array (Option Value)} {oc2 kV2 dc2 pm2 cd2 ct2 : Value}
    {f3a : Addr} {od3 an3 : Option Addr} {sl3 : Array (Option Value)} {oc3 kV3 dc3 pm3 cd3 ct3 : Value}
    {f4a : Addr} {od4 an4 : Option Addr} {sl4 : Array (Option Value)} {oc4 kV4 dc4 pm4 cd4 ct4 : Value}
    {f5a : Addr} {od5 an5 : Option Addr} {sl5 : Array (Option Value)} {oc5 kV5 dc5 pm5 cd5 ct5 : Value}
    {f6a : Addr} {od6 an6 : Option Addr} {sl6 : Array (Option Value)} {oc6 kV6 dc6 pm6 cd6 ct6 : Value}
    {f7a : Addr} {od7 an7 : Option Addr} {sl7 : Array (Option Value)} {oc7 kV7 dc7 pm7 cd7 ct7 : Value}
    (a0 : PySem.W.nsIn K mainGlobals "hit_tape" = some (some (.ref f0a)))
    (l0 : K.lookup f0a = some ⟨oc0, od0, .func (PySem.W.fnOf "hit_tape" "hit_tape" (defArgs d0.st) (defBody d0.st) (defScope d0.st) .none kV0 dc0 pm0 an0 cd0 ct0), sl0⟩)
    (c0 : PySem.W.codeIn K cd0 "hit_tape" = true)
    (k0 : PySem.W.keepIn K (.ref f0a) = true)
    (a1 : PySem.W.nsIn K mainGlobals "_law_bag" = some (some (.ref f1a)))
    (l1 : K.lookup f1a = some ⟨oc1, od1, .func (PySem.W.fnOf "_law_bag" "_law_bag" (defArgs d1.st) (defBody d1.st) (defScope d1.st) .none kV1 dc1 pm1 an1 cd1 ct1), sl1⟩)
    (c1 : PySem.W.codeIn K cd1 "_law_bag" = true)
    (k1 : PySem.W.keepIn K (.ref f1a) = true)
    (a2 : PySem.W.nsIn K mainGlobals "_law_take" = some (some (.ref f2a)))
    (l2 : K.lookup f2a = some ⟨oc2, od2, .func (PySem.W.fnOf "_law_take" "_law_take" (defArgs d2.st) (defBody d2.st) (defScope d2.st) .none kV2 dc2 pm2 an2 cd2 ct2), sl2⟩)
    (c2 : PySem.W.codeIn K cd2 "_law_take" = true)
    (k2 : PySem.W.keepIn K (.ref f2a) = true)
    (a3 : PySem.W.nsIn K mainGlobals "_law_tape" = some (some (.ref f3a)))
    (l3 : K.lookup f3a = some ⟨oc3, od3, .func (PySem.W.fnOf "_law_tape" "_law_tape" (defArgs d3.st) (defBody d3.st) (defScope d3.st) .none kV3 dc3 pm3 an3 cd3 ct3), sl3⟩)
    (c3 : PySem.W.codeIn K cd3 "_law_tape" = true)
    (k3 : PySem.W.keepIn K (.ref f3a) = true)
    (a4 : PySem.W.nsIn K mainGlobals "_law_masks" = some (some (.ref f4a)))
    (l4 : K.lookup f4a = some ⟨oc4, od4, .func (PySem.W.fnOf "_law_masks" "_law_masks" (defArgs d4.st) (defBody d4.st) (defScope d4.st) .none kV4 dc4 pm4 an4 cd4 ct4), sl4⟩)
    (c4 : PySem.W.codeIn K cd4 "_law_masks" = true)
    (k4 : PySem.W.keepIn K (.ref f4a) = true)
    (a5 : PySem.W.nsIn K mainGlobals "_law_holes" = some (some (.ref f5a)))
    (l5 : K.lookup f5a = some ⟨oc5, od5, .func (PySem.W.fnOf "_law_holes" "_law_holes" (defArgs d5.st) (defBody d5.st) (defScope d5.st) .none kV5 dc5 pm5 an5 cd5 ct5), sl5⟩)
    (c5 : PySem.W.codeIn K cd5 "_law_holes" = true)
    (k5 : PySem.W.keepIn K (.ref f5a) = true)
    (a6 : PySem.W.nsIn K mainGlobals "_law_is_hit" = some (some (.ref f6a)))
    (l6 : K.lookup f6a = some ⟨oc6, od6, .func (PySem.W.fnOf "_law_is_hit" "_law_is_hit" (defArgs d6.st) (defBody d6.st) (defScope d6.st) .none kV6 dc6 pm6 an6 cd6 ct6), sl6⟩)
    (c6 : PySem.W.codeIn K cd6 "_law_is_hit" = true)
    (k6 : PySem.W.keepIn K (.ref f6a) = true)
    (a7 : PySem.W.nsIn K mainGlobals "law" = some (some (.ref f7a)))
    (l7 : K.lookup f7a = some ⟨oc7, od7, .func (PySem.W.fnOf "law" "law" (defArgs d7.st) (defBody d7.st) (defScope d7.st) .none kV7 dc7 pm7 an7 cd7 ct7), sl7⟩)
    (c7 : PySem.W.codeIn K cd7 "law" = true)
    (k7 : PySem.W.keepIn K (.ref f7a) = true)
    (b0 : PySem.W.nsIn K mainGlobals "len" = some none)
    (b1 : PySem.W.nsIn K mainGlobals "abs" = some none)
    (b2 : PySem.W.nsIn K mainGlobals "int" = some none)
    (b3 : PySem.W.nsIn K mainGlobals "str" = some none)
    (b4 : PySem.W.nsIn K mainGlobals "max" = some none)
    (b5 : PySem.W.nsIn K mainGlobals "min" = some none)
    (b6 : PySem.W.nsIn K mainGlobals "sum" = some none)
    (b7 : PySem.W.nsIn K mainGlobals "any" = some none)
    (b8 : PySem.W.nsIn K mainGlobals "all" = some none)
    (b9 : PySem.W.nsIn K mainGlobals "divmod" = some none)
    (b10 : PySem.W.nsIn K mainGlobals "list" = some none)
    (b11 : PySem.W.nsIn K mainGlobals "tuple" = some none)
    (b12 : PySem.W.nsIn K mainGlobals "isinstance" = some none)
    (b13 : PySem.W.nsIn K mainGlobals "range" = some none)
    (b14 : PySem.W.nsIn K mainGlobals "bool" = some none)
    (b15 : PySem.W.nsIn K mainGlobals "enumerate" = some none)
    (b16 : PySem.W.nsIn K mainGlobals "zip" = some none)
    (b17 : PySem.W.nsIn K mainGlobals "set" = some none)
    (b18 : PySem.W.nsIn K mainGlobals "sorted" = some none)
    : ∃ (κ : Kit) (fa : Nat → Addr), κ.K = K ∧ Md κ mg w prog dl clI exN hdN fa := by
  refine ⟨⟨K, fun _ => 0, fun i => ([] : List Value).getD i .none⟩, pickA [f0a, f1a, f2a, f3a, f4a, f5a, f6a, f7a] 0, rfl, ?_, ?_, ?_, ?_, ?_, ?_, ?_, ?_, ?_, ?_, ?_⟩
  · refine scal_of (l := glob) ?_; unfold glob; refine all_nil
  · refine dict_of (l := glob) ?_; unfold glob; refine all_nil
  · refine (all_cons ?_ (all_cons ?_ (all_cons ?_ (all_cons ?_ (all_cons ?_ (all_cons ?_ (all_cons ?_ (all_cons ?_ (all_cons ?_ (all_cons ?_ (all_cons ?_ (all_cons ?_ (all_cons ?_ (all_cons ?_ (all_cons ?_ (all_cons ?_ (all_cons ?_ (all_cons ?_ (all_cons ?_ all_nil)))))))))))))))))))
    · exact PySem.W.mg_none_of X G b0
    · exact PySem.W.mg_none_of X G b1
    · exact PySem.W.mg_none_of X G b2
    · exact PySem.W.mg_none_of X G b3
    · exact PySem.W.mg_none_of X G b4
    · exact PySem.W.mg_none_of X G b5
    · exact PySem.W.mg_none_of X G b6
    · exact PySem.W.mg_none_of X G b7
    · exact PySem.W.mg_none_of X G b8
    · exact PySem.W.mg_none_of X G b9
    · exact PySem.W.mg_none_of X G b10
    · exact PySem.W.mg_none_of X G b11
    · exact PySem.W.mg_none_of X G b12
    · exact PySem.W.mg_none_of X G b13
    · exact PySem.W.mg_none_of X G b14
    · exact PySem.W.mg_none_of X G b15
    · exact PySem.W.mg_none_of X G b16
    · exact PySem.W.mg_none_of X G b17
    · exact PySem.W.mg_none_of X G b18
  · intro i d h
    unfold dl at h
    match i, h with
    | 0, h => cases h; exact ⟨_, fun_mk (st := d0.st) l0 c0 k0, fun _ => PySem.W.mg_of X G a0, (fun_mk (st := d0.st) l0 c0 k0).binds fun _ _ _ _ _ _ us hl => match us, hl with | [_, _], _ => rfl⟩
    | 1, h => cases h; exact ⟨_, fun_mk (st := d1.st) l1 c1 k1, fun _ => PySem.W.mg_of X G a1, (fun_mk (st := d1.st) l1 c1 k1).binds fun _ _ _ _ _ _ us hl => match us, hl with | [_, _], _ => rfl⟩
    | 2, h => cases h; exact ⟨_, fun_mk (st := d2.st) l2 c2 k2, fun _ => PySem.W.mg_of X G a2, (fun_mk (st := d2.st) l2 c2 k2).binds fun _ _ _ _ _ _ us hl => match us, hl with | [_, _], _ => rfl⟩
    | 3, h => cases h; exact ⟨_, fun_mk (st := d3.st) l3 c3 k3, fun _ => PySem.W.mg_of X G a3, (fun_mk (st := d3.st) l3 c3 k3).binds fun _ _ _ _ _ _ us hl => match us, hl with | [_, _], _ => rfl⟩
    | 4, h => cases h; exact ⟨_, fun_mk (st := d4.st) l4 c4 k4, fun _ => PySem.W.mg_of X G a4, (fun_mk (st := d4.st) l4 c4 k4).binds fun _ _ _ _ _ _ us hl => match us, hl with | [_, _], _ => rfl⟩
    | 5, h => cases h; exact ⟨_, fun_mk (st := d5.st) l5 c5 k5, fun _ => PySem.W.mg_of X G a5, (fun_mk (st := d5.st) l5 c5 k5).binds fun _ _ _ _ _ _ us hl => match us, hl with | [_], _ => rfl⟩
    | 6, h => cases h; exact ⟨_, fun_mk (st := d6.st) l6 c6 k6, fun _ => PySem.W.mg_of X G a6, (fun_mk (st := d6.st) l6 c6 k6).binds fun _ _ _ _ _ _ us hl => match us, hl with | [_, _, _], _ => rfl⟩
    | 7, h => cases h; exact ⟨_, fun_mk (st := d7.st) l7 c7 k7, fun _ => PySem.W.mg_of X G a7, (fun_mk (st := d7.st) l7 c7 k7).binds fun _ _ _ _ _ _ us hl => match us, hl with | [_], _ => rfl⟩
    | j + 8, h => simp at h
  · intro f h; simp [clI] at h
  · intro c ms m j h; simp [prog, meths] at h
  · intro c x ms j h; simp [clI] at h
  · intro c ms m j h; simp [prog, meths] at h
  · intro i x h
    unfold exN at h
    match i, h with
    | _, h => simp at h
  · intro i j hj hu
    simp [hdN] at hj
  · intro h; exact absurd h (by decide)
theorem walk {q : Program} {loose : List Str} {XP : (Str → Option Value) → Heap → Prop} {YP : World → Heap → Prop} {d : DefRec} {K : Params → PySem.W.Frag} (hdf : d.params.defaults = []) (hx : d7.x = d.name)
    (hL : ∀ ns : List Int, ns.length ≤ 63 → (∀ z ∈ ns, Builtin.Int.intBits z ≤ 1048576) → ∃ o s', callF prog 100000 60 10 iLaw [.lst .wrt (ns.map VS.D.int)] ⟨[], []⟩ = .ok (.bl true, [o]) s')
    (hY : ∀ (w : World) (h : Heap), YP w h → (K w.params).In h) (F : ∀ (w : World) (mg : Str → Option Value) (h : Heap), (K w.params).In h → h.Ns mainGlobals mg → ∃ (κ : Kit) (fa : Nat → Addr), κ.K = K w.params ∧ Md κ mg w prog dl clI exN hdN fa) :
    PySem.W.WalkO q loose XP YP PySem.Challenge.rw_tornrelay_k06_hits_only_punch.row.toRowW d [] (fun f vs => PySem.call f vs) :=
  walkV (l := PySem.Challenge.rw_tornrelay_k06_hits_only_punch) rfl hdf ⟨rfl, by decide, by decide⟩ hY rfl chk (i := iLaw) rfl rfl rfl
    (fun f fdat K F s v => by
      obtain ⟨_, _, _, _, _, _, _, _, _, rfl, _, _⟩ := F.ex
      exact .of_eq rfl) hx hL F
theorem hL : ∀ ns : List Int, ns.length ≤ 63 → (∀ z ∈ ns, Builtin.Int.intBits z ≤ 1048576) → ∃ o s', callF prog 100000 60 10 iLaw [.lst .wrt (ns.map VS.D.int)] ⟨[], []⟩ = .ok (.bl true, [o]) s' := fun ns hn _ =>
  hL_of (law6_ok (n := 20) (k := 6) (i := iLaw) (i1 := 0) (i2 := 1) (i3 := 2) (i4 := 3) (i5 := 4) (i6 := 6) (i7 := 5) rfl rfl rfl rfl rfl rfl rfl rfl ns hn [])
end Lk06
open PySem PySem.W PyProof.Rows
set_option maxRecDepth 100000 in
set_option maxHeartbeats 0 in
theorem PySem.Challenge.cw_tornrelay_k06_hits_only_punch_holds : PySem.Challenge.rw_tornrelay_k06_hits_only_punch.Holds := by
  w_on; o_law; k_head; (case hw => w_witness2)
  k_fill
  refine Lk06.walk rfl rfl Lk06.hL (fun w h Y => PySem.W.kIn_of Y) ?F
  case F =>
    intro w mg h KX G
    refine' Lk06.md KX G ?ya0 ?yl0 ?yc0 ?yk0 ?ya1 ?yl1 ?yc1 ?yk1 ?ya2 ?yl2 ?yc2 ?yk2 ?ya3 ?yl3 ?yc3 ?yk3 ?ya4 ?yl4 ?yc4 ?yk4 ?ya5 ?yl5 ?yc5 ?yk5 ?ya6 ?yl6 ?yc6 ?yk6 ?ya7 ?yl7 ?yc7 ?yk7 ?yb0 ?yb1 ?yb2 ?yb3 ?yb4 ?yb5 ?yb6 ?yb7 ?yb8 ?yb9 ?yb10 ?yb11 ?yb12 ?yb13 ?yb14 ?yb15 ?yb16 ?yb17 ?yb18
    (case ya0 => k_is)
    (case yl0 => k_is)
    (case yc0 => k_is)
    (case yk0 => k_is)
    (case ya1 => k_is)
    (case yl1 => k_is)
    (case yc1 => k_is)
    (case yk1 => k_is)
    (case ya2 => k_is)
    (case yl2 => k_is)
    (case yc2 => k_is)
    (case yk2 => k_is)
    (case ya3 => k_is)
    (case yl3 => k_is)
    (case yc3 => k_is)
    (case yk3 => k_is)
    (case ya4 => k_is)
    (case yl4 => k_is)
    (case yc4 => k_is)
    (case yk4 => k_is)
    (case ya5 => k_is)
    (case yl5 => k_is)
    (case yc5 => k_is)
    (case yk5 => k_is)
    (case ya6 => k_is)
    (case yl6 => k_is)
    (case yc6 => k_is)
    (case yk6 => k_is)
    (case ya7 => k_is)
    (case yl7 => k_is)
    (case yc7 => k_is)
    (case yk7 => k_is)
    (case yb0 => k_is)
    (case yb1 => k_is)
    (case yb2 => k_is)
    (case yb3 => k_is)
    (case yb4 => k_is)
    (case yb5 => k_is)
    (case yb6 => k_is)
    (case yb7 => k_is)
    (case yb8 => k_is)
    (case yb9 => k_is)
    (case yb10 => k_is)
    (case yb11 => k_is)
    (case yb12 => k_is)
    (case yb13 => k_is)
    (case yb14 => k_is)
    (case yb15 => k_is)
    (case yb16 => k_is)
    (case yb17 => k_is)
    (case yb18 => k_is)
