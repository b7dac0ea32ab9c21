import PyProof.Rows.All
import Wide.All
import OpenK.AllK
import Wide.FinOn
import HandS.ForMost
import HandS.ForSpec
import HandS.IsInst
import HandS.Star
import HandS.Deep
import HandS.More
import HandS.TupAny
import HandS.TupMul
import HandS.Style
import HandS.Rev
import KE.KRevSl
import KE.DataFind
import HandS.RaiseMore
import HandS.SetFor
import HandS.Text
import HandS.StrMore
import HandS.MethStar
import HandS.Codes
import HandS.Ends
import HandS.EndBits
import HandS.HeadEnd
import HandS.Defaults
import HandS.WordsExc
import HandS.Dict
import HandS.TryMany
import HandS.ExcInit
import HandS.ExcField
import HandS.ExcIs
import HandS.DictComp
import KE.GoesEnum
import HandS.Iter
import HandS.Comp
import KE.KUnpackStar
import PyProof.RulesMatch
import PyProof.Rows.MatchSeqLen
import KE.KUnpack
import HandS.Head0
import HandS.Head1
import HandS.Head2
import HandS.HeadHook1
import HandS.HeadHook2
import HandS.HeadHook3
import PyProof.StrLawsTight
import PyProof.Rows.StrFirst2
import PyProof.StrLawsIn
import PyProof.FitsInt
import PyProof.StrLawsRepr
import PySem.Challenge.RW_fewestmethods_k95_spoilt_written_forms
set_option Elab.async false
set_option linter.all false
set_option maxRecDepth 100000
/-! Mi, part A: a small language with a functional meaning over a store; no machine here. -/
namespace Mi
open PySem

/-! ### values -/
inductive W where
  | dat (d : PyData)
  | tup (xs : List W)
  | lst (xs : List W)
  | ref (i : Nat)
  | glo (x : Str)
  | obj (c : Str) (fs : List (Str × W))
  | scr (ns : List Int)
  | tab (kvs : List (Str × W))
  | exo (c : Str) (fs : List (Str × W))
  | itr (k : Nat) (xs : List W)
  deriving Inhabited

abbrev wN : W := .dat .none
abbrev wB (b : Bool) : W := .dat (.bool b)
abbrev wI (i : Int) : W := .dat (.int i)
abbrev wS (x : Str) : W := .dat (.str x)

def datAll : List W → Option (List PyData)
  | [] => some []
  | w :: r => match w, datAll r with
    | .dat d, some ds => some (d :: ds)
    | _, _ => none
theorem datAll_map (ds : List PyData) : datAll (ds.map W.dat) = some ds := by
  induction ds with
  | nil => rfl
  | cons d ds ih => simp [datAll, ih]
theorem datAll_some : ∀ {ws : List W} {ds : List PyData}, datAll ws = some ds → ws = ds.map W.dat
  | [], ds, h => by cases h; rfl
  | w :: r, ds, h => by
    cases w with
    | dat d =>
      cases e : datAll r with
      | none => simp [datAll, e] at h
      | some es =>
        simp [datAll, e] at h
        subst h
        rw [datAll_some e]; rfl
    | _ => simp [datAll] at h
/-- a new tuple, a new list that stays as it is -/
def mkT (ws : List W) : W := match datAll ws with
  | some ds => .dat (.tuple ds)
  | none => .tup ws
def mkL (ws : List W) : W := match datAll ws with
  | some ds => .dat (.list ds)
  | none => .lst ws
@[simp] theorem mkT_map (ds : List PyData) : mkT (ds.map W.dat) = .dat (.tuple ds) := by simp [mkT, datAll_map]
@[simp] theorem mkL_map (ds : List PyData) : mkL (ds.map W.dat) = .dat (.list ds) := by simp [mkL, datAll_map]

/-! ### the store -/
inductive Cell where
  | lst (xs : List W)
  | dic (kvs : List (W × W))
  | ins (c : Str) (fs : List (Str × W))
abbrev Sto := List Cell
inductive Res (α : Type) where
  | ok (a : α) (m : Sto)
  | exc (c : Str) (fs : List (Str × W)) (m : Sto)
  | no
abbrev M (α : Type) := Sto → Res α
def Res.bind {α β : Type} : Res α → (α → Sto → Res β) → Res β
  | .ok a m, f => f a m
  | .exc c fs m, _ => .exc c fs m
  | .no, _ => .no
@[simp] theorem bind_ok {α β : Type} (a : α) (m : Sto) (f : α → Sto → Res β) : (Res.ok a m).bind f = f a m := rfl
@[simp] theorem bind_exc {α β : Type} (c : Str) (fs : List (Str × W)) (m : Sto) (f : α → Sto → Res β) : (Res.exc c fs m).bind f = .exc c fs m := rfl
@[simp] theorem bind_no {α β : Type} (f : α → Sto → Res β) : (Res.no : Res α).bind f = .no := rfl
/-- what raises nothing -/
def Res.calm {α : Type} : Res α → Res α
  | .exc _ _ _ => .no
  | r => r
@[simp] theorem calm_ok {α : Type} (a : α) (m : Sto) : (Res.ok a m).calm = .ok a m := rfl
@[simp] theorem calm_no {α : Type} : (Res.no : Res α).calm = .no := rfl
@[simp] theorem calm_exc {α : Type} (c : Str) (fs : List (Str × W)) (m : Sto) : (Res.exc c fs m : Res α).calm = .no := rfl
def lift {α : Type} (o : Option α) (m : Sto) : Res α := match o with
  | some a => .ok a m
  | none => .no
@[simp] theorem lift_some {α : Type} (a : α) (m : Sto) : lift (some a) m = .ok a m := rfl
@[simp] theorem lift_none {α : Type} (m : Sto) : lift (none : Option α) m = .no := rfl

/-! ### views -/
def tupOf : W → Option (List W)
  | .dat (.tuple ds) => some (ds.map .dat)
  | .tup ws => some ws
  | _ => none
def cellL (m : Sto) (i : Nat) : Option (List W) := match m[i]? with
  | some (.lst ws) => some ws
  | _ => none
def lstOf (m : Sto) : W → Option (List W)
  | .dat (.list ds) => some (ds.map .dat)
  | .lst ws => some ws
  | .ref i => cellL m i
  | _ => none
def seqOf (m : Sto) (w : W) : Option (List W) := match tupOf w with
  | some ws => some ws
  | none => lstOf m w
/-! the data of what is frozen -/
mutual
def datF : W → Option PyData
  | .dat d => some d
  | .tup ws => (datFs ws).map .tuple
  | .lst ws => (datFs ws).map .list
  | _ => none
def datFs : List W → Option (List PyData)
  | [] => some []
  | w :: r => match datF w, datFs r with
    | some d, some ds => some (d :: ds)
    | _, _ => none
end
/-- the data of a value, a list of the store too -/
def datOf (m : Sto) : W → Option PyData
  | .ref i => (cellL m i).bind fun ws => (datFs ws).map .list
  | w => datF w
theorem datFs_map (ds : List PyData) : datFs (ds.map W.dat) = some ds := by
  induction ds with
  | nil => rfl
  | cons d ds ih => simp [datFs, datF, ih]

def lim : Nat := 1000000

/-! ### operators -/
inductive BOp where | add | sub | mul | fdiv | mod | pow
  deriving DecidableEq
inductive COp where | eq | ne | lt | le | gt | ge | isn | notn | isin | notin
  deriving DecidableEq

def intOf : W → Option Int
  | .dat (.int i) => some i
  | _ => none
def strOf : W → Option Str
  | .dat (.str x) => some x
  | _ => none
/-- truth: none, bools, ints, texts, lists, tuples -/
def tru (m : Sto) (w : W) : Option Bool := match w with
  | .dat .none => some false
  | .dat (.bool b) => some b
  | .dat (.int i) => some (i != 0)
  | .dat (.str x) => if x.length ≤ lim then some (x.length != 0) else none
  | w => (seqOf m w).map fun ws => !ws.isEmpty

def addW (m : Sto) (x y : W) : Option W := match x, y with
  | .dat (.int i), .dat (.int j) => some (wI (i + j))
  | .dat (.str i), .dat (.str j) => if i.length + j.length ≤ lim then some (wS (i ++ j)) else none
  | x, y => match tupOf x, tupOf y with
    | some a, some b => if a.length + b.length ≤ lim then some (if a.isEmpty then y else if b.isEmpty then x else mkT (a ++ b)) else none
    | _, _ => match lstOf m x, lstOf m y with
      | some a, some b => if a.length + b.length ≤ lim then some (mkL (a ++ b)) else none
      | _, _ => none
def small (i : Int) : Bool := decide (-(2 ^ 64) < i) && decide (i < 2 ^ 64)
def binW (o : BOp) (x y : W) (m : Sto) : Option W := match o with
  | .add => addW m x y
  | .sub => match x, y with
    | .dat (.int i), .dat (.int j) => some (wI (i - j))
    | _, _ => none
  | .mul => match x, y with
    | .dat (.int i), .dat (.int j) => if small i || small j then some (wI (i * j)) else none
    | x, .dat (.int j) => match lstOf m x, tupOf x with
      | some a, _ => if 0 ≤ j ∧ j ≤ 1000 ∧ a.length ≤ 1000 then some (mkL (List.replicate j.toNat a).flatten) else none
      | none, some a => if 2 ≤ j ∧ j ≤ 1000 ∧ a.length ≤ 1000 ∧ a.length ≠ 0 then some (.tup (List.replicate j.toNat a).flatten) else none
      | none, none => none
    | _, _ => none
  | .fdiv => match x, y with
    | .dat (.int i), .dat (.int j) => if 0 < j ∧ j < 1073741824 then some (wI (i / j)) else none
    | _, _ => none
  | .mod => match x, y with
    | .dat (.int i), .dat (.int j) => if 0 < j then some (wI (i % j)) else none
    | _, _ => none
  | .pow => match x, y with
    | .dat (.int i), .dat (.int j) => if 0 ≤ j ∧ j ≤ 1000 ∧ i.natAbs < 2 ^ 64 then some (wI (i ^ j.toNat)) else none
    | _, _ => none

/-- == of data at any depth -/
def eqW (m : Sto) (x y : W) : Option Bool := match datOf m x, datOf m y with
  | some d, some e => if SeqAt.shaped d && SeqAt.shaped e then some (PyData.eqv d e) else none
  | _, _ => none
/-- ==: two tuples of which one is empty, whatever the other holds; else data -/
def eqX (m : Sto) (x y : W) : Option Bool := match tupOf x, tupOf y with
  | some xs, some ys => if xs.isEmpty || ys.isEmpty then some (xs.isEmpty && ys.isEmpty) else eqW m x y
  | _, _ => eqW m x y
def flatD : PyData → Bool
  | .none | .bool _ | .int _ | .str _ => true
  | _ => false
def hasS (x y : Str) : Bool := !(Builtin.Str.occurrences y x 0 y.length 1).isEmpty
/-- x in y: a text in a text; data in a list or tuple of data; in the keys of a dict -/
def inW (m : Sto) (x y : W) : Option Bool := match x, y with
  | .dat (.str a), .dat (.str b) => some (hasS a b)
  | .dat (.str a), .tab kvs => some (kvs.lookup a).isSome
  | x, y => match datOf m x, datOf m y with
    | some d, some (.list es) => if SeqAt.shaped d && SeqAt.shaped (.list es) then some (es.any fun z => PyData.eqv z d) else none
    | some d, some (.tuple es) => if SeqAt.shaped d && SeqAt.shaped (.tuple es) then some (es.any fun z => PyData.eqv z d) else none
    | _, _ => none
def isNon : W → Bool
  | .dat .none => true
  | _ => false
def cmpW (o : COp) (x y : W) (m : Sto) : Option Bool := match o with
  | .eq => eqX m x y
  | .ne => (eqW m x y).map (!·)
  | .isin => inW m x y
  | .notin => (inW m x y).map (!·)
  | .isn => match y with
    | .dat .none => some (isNon x)
    | _ => none
  | .notn => match y with
    | .dat .none => some (!isNon x)
    | _ => none
  | o => match x, y with
    | .dat (.int i), .dat (.int j) => some (match o with
      | .lt => decide (i < j)
      | .le => decide (i ≤ j)
      | .gt => decide (j < i)
      | _ => decide (j ≤ i))
    | _, _ => none

/-! ### the language -/
inductive Ty where | str | int | bool | tuple | list | dict | own (c : Str)
  deriving DecidableEq
inductive Bi where | len | all | any | tuple | str | int | abs | max | min | divmod | repr
  deriving DecidableEq
inductive Me where | join | split | count | index | append | extend | insert | pop | splitB
  deriving DecidableEq
inductive Ex where
  | var (i : Nat)
  | con (d : PyData)
  | glo (x : Str)
  | bin (o : BOp) (a b : Ex)
  | neg (a : Ex)
  | cmp (o : COp) (a b : Ex)
  | chn (o p : COp) (a b c : Ex)
  | and (a b : Ex)
  | or (a b : Ex)
  | not (a : Ex)
  | ite (c a b : Ex)
  | star (a : Ex)
  | tup (es : List Ex)
  | lst (bx : Bool) (es : List Ex)
  | cpy (bx : Bool) (a : Ex)
  | dic0
  | call (f : Str) (es : List Ex)
  | isi (a : Ex) (ts : List Ty)
  | bi (f : Bi) (es : List Ex)
  | met (m : Me) (o : Ex) (es : List Ex)
  | ix (a i : Ex)
  | sl (a : Ex) (l u : Option Ex)
  | rev (a : Ex)
  | lc (bx : Bool) (own : List Nat) (ts : List Nat) (it : Ex) (cs : List Ex) (e : Ex)
  | itEnum (a : Ex)
  | itZip (a b : Ex)
  | itRng (a : Ex)
  deriving Inhabited
/-- what an except suite computes: of the caught exception's fields, class -/
inductive Xe where
  | fld (f : Str)
  | rep (a : Xe)
  | isx (c : Str)
  | con (d : PyData)
  | lst (es : List Xe)
  | var (i : Nat)
  | ite (c a b : Xe)
  | and (a b : Xe)
  | not (a : Xe)
  deriving Inhabited
/-- an assignment's target -/
inductive Tg where
  | nm (i : Nat)
  | ix (a i : Ex)
  deriving Inhabited
inductive St where
  | ex (e : Ex)
  | ret (e : Ex)
  | retN
  | asg (t : Tg) (e : Ex)
  | unp (ts : List Tg) (e : Ex)
  | par (is : List Nat) (es : List Ex)
  | star (i j : Nat) (e : Ex)
  | ifs (c : Ex) (t f : List St)
  | fors (ts : List Nat) (it : Ex) (b : List St)
  | raise (c : Str) (es : List Ex)
  | tryx (b : List St) (c : Str) (k : Nat) (h : List (Nat × Xe))
  | mat (e : Ex) (cs : List St)
  | cas (ps : Option (List Nat)) (g : Option Ex) (b : List St)
  | pass
  deriving Inhabited

/-! ### its meaning -/
/-- what a body knows: the defs, the module's other names, the barrier -/
structure Fe where
  call : Str → List W → M W
  con : Str → Option W
  L : Nat
  sub : Str → Str → Option Bool
  isx : Str → Str → Option Bool
  fld : Str → Option (List Str)

abbrev En := List (Option W)
def getV (σ : En) (i : Nat) : Option W := match σ[i]? with
  | some (some w) => some w
  | _ => none
def wipeE (σ : En) : List Nat → En
  | [] => σ
  | v :: vs => (wipeE σ vs).set v none
/-- a for's, a comprehension's target: one name, or several for a tuple's or list's items -/
def setAll (σ : En) : List Nat → List W → Option En
  | [], [] => some σ
  | i :: is, w :: ws => setAll (σ.set i (some w)) is ws
  | _, _ => none
def bindT (m : Sto) (σ : En) (ts : List Nat) (w : W) : Option En := match ts with
  | [i] => some (σ.set i (some w))
  | ts => (tupOf w).bind (setAll σ ts)

def newL (bx : Bool) (ws : List W) (m : Sto) : Res W := match bx with
  | true => .ok (.ref m.length) (m ++ [.lst ws])
  | false => .ok (mkL ws) m
def enumW : Nat → List W → List W
  | _, [] => []
  | n, w :: r => .tup [wI n, w] :: enumW (n + 1) r
def zipW : List W → List W → List W
  | a :: r, b :: q => .tup [a, b] :: zipW r q
  | _, _ => []
def isStar : Ex → Bool
  | .star _ => true
  | _ => false
/-- what a for, a comprehension walks -/
def iterOf (m : Sto) : W → Option (List W)
  | .dat (.str x) => some (x.cps.toList.map fun c => wS ⟨#[c]⟩)
  | .itr 0 [x] => (seqOf m x).map (enumW 0)
  | .itr 1 [x, y] => (seqOf m x).bind fun ws => (seqOf m y).map (zipW ws)
  | .itr 2 [.dat (.int i)] => if -100000 ≤ i ∧ i ≤ 100000 then some ((List.range i.toNat).map fun (n : Nat) => wI n) else none
  | w => seqOf m w
/-- the lists of the store that are walked: they must stay as they are -/
def grd1 (m : Sto) : W → List (Nat × List W)
  | .ref i => [(i, (cellL m i).getD [])]
  | _ => []
def grds (m : Sto) : W → List (Nat × List W)
  | .itr _ xs => xs.flatMap (grd1 m)
  | w => grd1 m w
def gOk (m : Sto) (gs : List (Nat × List W)) : Prop := ∀ g ∈ gs, cellL m g.1 = some g.2
open Classical in
noncomputable def lcGo (gs : List (Nat × List W)) (f : W → M (Option W)) : List W → M (List W)
  | [], m => if gOk m gs then .ok [] m else .no
  | w :: r, m => if gOk m gs then (f w m).bind fun o m => (lcGo gs f r m).bind fun ys m => .ok (match o with
    | some y => y :: ys
    | none => ys) m else .no

/-! refs at most n -/
mutual
def refsLe (n : Nat) : W → Bool
  | .dat _ => true
  | .tup xs => refsLeAll n xs
  | .lst xs => refsLeAll n xs
  | .ref i => decide (i ≤ n)
  | .glo _ => true
  | .obj _ fs => refsLeF n fs
  | .scr _ => true
  | .tab _ => true
  | .exo _ fs => refsLeF n fs
  | .itr _ xs => refsLeAll n xs
def refsLeAll (n : Nat) : List W → Bool
  | [] => true
  | w :: r => refsLe n w && refsLeAll n r
def refsLeF (n : Nat) : List (Str × W) → Bool
  | [] => true
  | (_, w) :: r => refsLe n w && refsLeF n r
end
/-- the list at i becomes ws: what comes in must not point beyond the barrier -/
def setCell (L i : Nat) (ws new : List W) (m : Sto) : Option Sto :=
  if (decide (L ≤ i) || refsLeAll i new) && decide (ws.length ≤ lim) then some (m.set i (.lst ws)) else none

def boolAll : List W → Option (List Bool)
  | [] => some []
  | w :: r => match w, boolAll r with
    | .dat (.bool b), some bs => some (b :: bs)
    | _, _ => none
def strAll : List W → Option (List Str)
  | [] => some []
  | w :: r => match w, strAll r with
    | .dat (.str b), some bs => some (b :: bs)
    | _, _ => none
def sumLen : List Str → Nat
  | [] => 0
  | x :: r => x.length + sumLen r
def lenW (m : Sto) (w : W) : Option Nat := match w with
  | .dat (.str x) => if x.length ≤ lim then some x.length else none
  | .scr ns => some ns.length
  | w => (seqOf m w).map List.length
def showOk (d : PyData) : Bool := d.showable && decide (d.depth ≤ 40) && decide (d.shown.length ≤ lim)

/-- the built-in functions and types, by values -/
def biW (f : Bi) (vs : List W) (m : Sto) : Option W := match f, vs with
  | .len, [w] => (lenW m w).map fun n => wI n
  | .all, [w] => (lstOf m w).bind fun ws => (boolAll ws).map fun bs => wB (bs.all id)
  | .any, [w] => (lstOf m w).bind fun ws => (boolAll ws).map fun bs => wB (bs.any id)
  | .tuple, [w] => match tupOf w with
    | some _ => some w
    | none => (lstOf m w).map mkT
  | .str, [w] => match w with
    | .dat (.str x) => some (wS x)
    | .dat (.int i) => if i.natAbs.log2 < 1920 then some (wS (toString i)) else none
    | _ => none
  | .int, [.dat (.str x)] => (if x.length ≤ 640 then PySem.intText? x else none).map wI
  | .abs, [.dat (.int i)] => some (wI (if i < 0 then -i else i))
  | .max, [.dat (.int i), .dat (.int j)] => some (wI (if j > i then j else i))
  | .min, [.dat (.int i), .dat (.int j)] => some (wI (if j < i then j else i))
  | .divmod, [.dat (.int i), .dat (.int j)] => if 0 < j ∧ j < 1073741824 then some (.tup [wI (i / j), wI (i % j)]) else none
  | .repr, [w] => (datOf m w).bind fun d => if showOk d then some (wS d.shown) else none
  | _, _ => none
/-- a tuple that is known to have no dict of its own -/
def cleanT : W → Option (List PyData)
  | .dat (.tuple ds) => some ds
  | _ => none
/-- the methods of built-in types that change nothing, by values -/
def metW (f : Me) (o : W) (vs : List W) (m : Sto) : Option W := match f, vs with
  | .join, [w] => (strOf o).bind fun x => (seqOf m w).bind fun ws => (strAll ws).bind fun ys => if sumLen ys + ys.length * x.length ≤ lim then some (wS (PySem.Txt.join x ys)) else none
  | .split, [w] => (strOf o).bind fun x => (strOf w).bind fun y => if (y.length == 0) = false ∧ x.length ≤ lim then some (mkL ((PySem.Txt.split x y).map wS)) else none
  | .count, [v] => (cleanT o).bind fun ds => (datOf m v).bind fun d => if SeqAt.shaped d && SeqAt.shaped (.tuple ds) then some (wI (ds.countP fun z => PyData.eqv z d)) else none
  | .index, [v] => (lstOf m o).bind fun ws => (datFs ws).bind fun ds => (datOf m v).bind fun d => if SeqAt.shaped d && SeqAt.shaped (.list ds) then (ds.findIdx? fun z => PyData.eqv z d).map fun (i : Nat) => wI (i : Int) else none
  | _, _ => none
/-- those that change a list of the store -/
def mutW (L : Nat) (f : Me) (o : W) (vs : List W) (m : Sto) : Option (W × Sto) := match o with
  | .ref i => (cellL m i).bind fun ws => match f, vs with
    | .append, [v] => (setCell L i (ws ++ [v]) [v] m).map fun m => (wN, m)
    | .extend, [v] => (lstOf m v).bind fun zs => (setCell L i (ws ++ zs) zs m).map fun m => (wN, m)
    | .insert, [.dat (.int k), v] => if 0 ≤ k ∧ k ≤ 1000000 then (setCell L i (ws.take k.toNat ++ [v] ++ ws.drop k.toNat) [v] m).map fun m => (wN, m) else none
    | .pop, [] => match ws[ws.length - 1]? with
      | some v => (setCell L i ws.dropLast [] m).map fun m => (v, m)
      | none => none
    | .pop, [.dat (.int k)] => if 0 ≤ k ∧ k ≤ 1000000 then match ws[k.toNat]? with
        | some v => (setCell L i (ws.eraseIdx k.toNat) [] m).map fun m => (v, m)
        | none => none
      else none
    | _, _ => none
  | .dat (.str x) => match f, vs with
    | .splitB, [.dat (.str y)] => if (y.length == 0) = false ∧ x.length ≤ lim then some (.ref m.length, m ++ [.lst ((PySem.Txt.split x y).map wS)]) else none
    | _, _ => none
  | _ => none
def isMut : Me → Bool
  | .append | .extend | .insert | .pop | .splitB => true
  | _ => false
def ixW (m : Sto) (a i : W) : Option W := match a, i with
  | .dat (.str x), .dat (.int i) => if x.length ≤ lim then (L2.atI x.cps.toList i).map fun c => wS ⟨#[c]⟩ else none
  | .tab kvs, .dat (.str k) => kvs.lookup k
  | .scr ns, .dat (.int i) => (L2.atI ns i).map wI
  | a, .dat (.int i) => (seqOf m a).bind fun ws => L2.atI ws i
  | _, _ => none
def cutW (ws : List W) (l u : Option Int) : List W := (ws.drop (HT.sIx ws.length 0 l)).take (HT.sIx ws.length ws.length u - HT.sIx ws.length 0 l)
def slW (m : Sto) (a : W) (l u : Option Int) : Option W := match a with
  | .dat (.str z) => if z.length ≤ lim then some (wS (PySem.Txt.slice z l u)) else none
  | a => match tupOf a with
  | some ws => some (if HT.sIx ws.length 0 l = 0 ∧ HT.sIx ws.length ws.length u = ws.length then a else mkT (cutW ws l u))
  | none => (lstOf m a).map fun ws => mkL (cutW ws l u)
def tyOf (m : Sto) : W → Option Ty
  | .dat (.str _) => some .str
  | .dat (.int _) => some .int
  | .dat (.bool _) => some .bool
  | .dat (.tuple _) => some .tuple
  | .dat (.list _) => some .list
  | .dat (.dict _) => some .dict
  | .tup _ => some .tuple
  | .lst _ => some .list
  | .obj c _ => some (.own c)
  | .ref i => match m[i]? with
    | some (.lst _) => some .list
    | some (.dic _) => some .dict
    | some (.ins c _) => some (.own c)
    | none => none
  | _ => none
def isiT (F : Fe) (t : Ty) (c : Ty) : Bool := match t, c with
  | .own a, .own b => (F.sub a b).getD false
  | .bool, .int => true
  | a, b => decide (a = b)
def isiW (F : Fe) (m : Sto) (w : W) (cs : List Ty) : Option Bool := match w with
  | .dat .none => some false
  | w => (tyOf m w).map fun t => cs.any fun c => isiT F t c

/-- a list of the store -/
def isBox (m : Sto) : W → Bool
  | .ref i => (cellL m i).isSome
  | _ => false
/-- whether a method's receiver is of the method's type -/
def rcv (f : Me) (x : W) (m : Sto) : Bool := match f with
  | .join | .split | .splitB => (strOf x).isSome
  | .count => (cleanT x).isSome
  | .index => (lstOf m x).isSome
  | .append | .extend | .insert | .pop => isBox m x
mutual
noncomputable def evE (F : Fe) : Ex → En → M W
  | .var i, σ, m => lift (getV σ i) m
  | .con d, _, m => .ok (.dat d) m
  | .glo x, _, m => lift (F.con x) m
  | .bin o a b, σ, m => (evE F a σ m).bind fun x m => (evE F b σ m).bind fun y m => lift (binW o x y m) m
  | .neg a, σ, m => (evE F a σ m).bind fun x m => lift ((intOf x).map fun i => wI (-i)) m
  | .cmp o a b, σ, m => (evE F a σ m).bind fun x m => (evE F b σ m).bind fun y m => lift ((cmpW o x y m).map wB) m
  | .chn o p a b c, σ, m => (evE F a σ m).bind fun x m => (evE F b σ m).bind fun y m => (lift (cmpW o x y m) m).bind fun k m => match k with
    | true => (evE F c σ m).bind fun z m => lift ((cmpW p y z m).map wB) m
    | false => .ok (wB false) m
  | .and a b, σ, m => (evE F a σ m).bind fun x m => (lift (tru m x) m).bind fun k m => match k with
    | true => evE F b σ m
    | false => .ok x m
  | .or a b, σ, m => (evE F a σ m).bind fun x m => (lift (tru m x) m).bind fun k m => match k with
    | true => .ok x m
    | false => evE F b σ m
  | .not a, σ, m => (evE F a σ m).bind fun x m => (lift (tru m x) m).bind fun k m => .ok (wB (!k)) m
  | .ite c a b, σ, m => (evE F c σ m).bind fun x m => (lift (tru m x) m).bind fun k m => match k with
    | true => evE F a σ m
    | false => evE F b σ m
  | .star a, σ, m => (evE F a σ m).bind fun x m => lift ((seqOf m x).map W.tup) m
  | .tup es, σ, m => (evEs F es σ m).bind fun ws m => match decide (ws.length ≤ lim) with
    | true => .ok (mkT ws) m
    | false => .no
  | .lst bx es, σ, m => (evEs F es σ m).bind fun ws m => match decide (ws.length ≤ lim) with
    | true => newL bx ws m
    | false => .no
  | .cpy bx a, σ, m => (evE F a σ m).bind fun x m => (lift (seqOf m x) m).bind fun ws m => newL bx ws m
  | .dic0, _, m => .ok (.dat (.dict [])) m
  | .call f es, σ, m => (evEs F es σ m).bind fun ws m => match decide (ws.length = es.length) with
    | true => F.call f ws m
    | false => .no
  | .isi a ts, σ, m => (evE F a σ m).bind fun x m => lift ((isiW F m x ts).map wB) m
  | .bi f es, σ, m => (evEs F es σ m).bind fun ws m => lift (biW f ws m) m
  | .met f o es, σ, m => (evE F o σ m).bind fun x m => match rcv f x m with
    | false => .no
    | true => (evEs F es σ m).bind fun ws m => match isMut f with
      | true => (lift (mutW F.L f x ws m) m).bind fun q _ => .ok q.1 q.2
      | false => lift (metW f x ws m) m
  | .ix a i, σ, m => (evE F a σ m).bind fun x m => (evE F i σ m).bind fun y m => lift (ixW m x y) m
  | .sl a l u, σ, m => (evE F a σ m).bind fun x m => (evO F l σ m).bind fun i m => (evO F u σ m).bind fun j m => lift (slW m x i j) m
  | .rev a, σ, m => (evE F a σ m).bind fun x m => lift (match tupOf x with
    | some ws => some (mkT ws.reverse)
    | none => (lstOf m x).map fun ws => mkL ws.reverse) m
  | .lc bx own ts it cs e, σ, m => (evE F it σ m).bind fun x m => (lift (iterOf m x) m).bind fun ws m => match decide (ws.length ≤ lim) with
    | true => ((lcGo (grds m x) (fun w m => (lift (bindT m (wipeE σ own) ts w) m).bind fun σ' m => (evC F cs σ' m).bind fun k m => match k with
      | true => (evE F e σ' m).bind fun y m => .ok (some y) m
      | false => .ok none m) ws m).calm).bind fun ys m => newL bx ys m
    | false => .no
  | .itEnum a, σ, m => (evE F a σ m).bind fun x m => .ok (.itr 0 [x]) m
  | .itZip a b, σ, m => (evE F a σ m).bind fun x m => (evE F b σ m).bind fun y m => .ok (.itr 1 [x, y]) m
  | .itRng a, σ, m => (evE F a σ m).bind fun x m => .ok (.itr 2 [x]) m
noncomputable def evEs (F : Fe) : List Ex → En → M (List W)
  | [], _, m => .ok [] m
  | e :: r, σ, m => (evE F e σ m).bind fun x m => (evEs F r σ m).bind fun ys m => .ok (match isStar e, x with
    | true, .tup xs => xs ++ ys
    | _, x => x :: ys) m
noncomputable def evO (F : Fe) : Option Ex → En → M (Option Int)
  | none, _, m => .ok none m
  | some e, σ, m => (evE F e σ m).bind fun x m => lift ((intOf x).map some) m
noncomputable def evC (F : Fe) : List Ex → En → M Bool
  | [], _, m => .ok true m
  | e :: r, σ, m => (evE F e σ m).bind fun x m => (lift (tru m x) m).bind fun k m => match k with
    | true => evC F r σ m
    | false => .ok false m
end

/-! ### statements -/
inductive SR where
  | nx (σ : En) (m : Sto)
  | rt (w : W) (m : Sto)
  | xc (σ : En) (c : Str) (fs : List (Str × W)) (m : Sto)
  | no
/-- an expression's end as a statement's -/
def Res.st {α : Type} (r : Res α) (σ : En) (f : α → Sto → SR) : SR := match r with
  | .ok a m => f a m
  | .exc c fs m => .xc σ c fs m
  | .no => .no
@[simp] theorem st_ok {α : Type} (a : α) (m : Sto) (σ : En) (f : α → Sto → SR) : (Res.ok a m).st σ f = f a m := rfl
@[simp] theorem st_exc {α : Type} (c : Str) (fs : List (Str × W)) (m : Sto) (σ : En) (f : α → Sto → SR) : (Res.exc c fs m : Res α).st σ f = .xc σ c fs m := rfl
@[simp] theorem st_no {α : Type} (σ : En) (f : α → Sto → SR) : (Res.no : Res α).st σ f = .no := rfl
def SR.then (r : SR) (f : En → Sto → SR) : SR := match r with
  | .nx σ m => f σ m
  | r => r
@[simp] theorem then_nx (σ : En) (m : Sto) (f : En → Sto → SR) : (SR.nx σ m).then f = f σ m := rfl
@[simp] theorem then_rt (w : W) (m : Sto) (f : En → Sto → SR) : (SR.rt w m).then f = .rt w m := rfl
@[simp] theorem then_xc (σ : En) (c : Str) (fs : List (Str × W)) (m : Sto) (f : En → Sto → SR) : (SR.xc σ c fs m).then f = .xc σ c fs m := rfl
@[simp] theorem then_no (f : En → Sto → SR) : (SR.no).then f = .no := rfl
open Classical in
noncomputable def forGo (gs : List (Nat × List W)) (f : W → En → Sto → SR) : List W → En → Sto → SR
  | [], σ, m => if gOk m gs then .nx σ m else .no
  | w :: r, σ, m => if gOk m gs then (f w σ m).then fun σ m => forGo gs f r σ m else .no

noncomputable def evG (F : Fe) (g : Option Ex) (σ : En) (m : Sto) : Res Bool := match g with
  | none => .ok true m
  | some e => (evE F e σ m).bind fun x m => lift (tru m x) m
def stoIx (L : Nat) (x y v : W) (m : Sto) : Option Sto := match x, y with
  | .ref i, .dat (.int k) => (cellL m i).bind fun ws => (L2.ixN ws.length k).bind fun j => setCell L i (ws.set j v) [v] m
  | _, _ => none
noncomputable def asT (F : Fe) : Tg → W → En → Sto → SR
  | .nm i, w, σ, m => .nx (σ.set i (some w)) m
  | .ix a i, w, σ, m => (evE F a σ m).st σ fun x m => (evE F i σ m).st σ fun y m => (lift (stoIx F.L x y w m) m).st σ fun m' _ => .nx σ m'
noncomputable def asTs (F : Fe) : List Tg → List W → En → Sto → SR
  | [], [], σ, m => .nx σ m
  | t :: ts, w :: ws, σ, m => (asT F t w σ m).then fun σ m => asTs F ts ws σ m
  | _, _, _, _ => .no
mutual
def evX (F : Fe) (σ : En) (m : Sto) (c : Str) (fs : List (Str × W)) : Xe → Option W
  | .fld f => (F.fld c).bind fun ns => if f ∈ ns then fs.lookup f else none
  | .rep a => (evX F σ m c fs a).bind fun w => (datOf m w).bind fun d => if showOk d then some (wS d.shown) else none
  | .isx d => (F.isx c d).map wB
  | .con d => some (.dat d)
  | .lst es => (evXs F σ m c fs es).bind fun ws => if ws.length ≤ lim then some (mkL ws) else none
  | .var i => getV σ i
  | .ite a b d => (evX F σ m c fs a).bind fun w => (tru m w).bind fun k => if k = true then evX F σ m c fs b else evX F σ m c fs d
  | .and a b => (evX F σ m c fs a).bind fun w => (tru m w).bind fun k => if k = true then evX F σ m c fs b else some w
  | .not a => (evX F σ m c fs a).bind fun w => (tru m w).map fun k => wB (!k)
def evXs (F : Fe) (σ : En) (m : Sto) (c : Str) (fs : List (Str × W)) : List Xe → Option (List W)
  | [] => some []
  | e :: r => (evX F σ m c fs e).bind fun w => (evXs F σ m c fs r).map fun ws => w :: ws
end
def evH (F : Fe) (k : Nat) (m : Sto) (c : Str) (fs : List (Str × W)) : List (Nat × Xe) → En → Option En
  | [], σ => some σ
  | (i, x) :: r, σ => if i = k then none else (evX F σ m c fs x).bind fun w => evH F k m c fs r (σ.set i (some w))
mutual
noncomputable def evS (F : Fe) : St → En → Sto → SR
  | .ex e, σ, m => (evE F e σ m).st σ fun _ m => .nx σ m
  | .ret e, σ, m => (evE F e σ m).st σ fun w m => .rt w m
  | .retN, _, m => .rt wN m
  | .asg t e, σ, m => (evE F e σ m).st σ fun w m => asT F t w σ m
  | .unp ts e, σ, m => (evE F e σ m).st σ fun w m => (lift (tupOf w) m).st σ fun ws m => match decide (ws.length = ts.length) with
    | true => asTs F ts ws σ m
    | false => .no
  | .par is es, σ, m => (evEs F es σ m).st σ fun ws m => (lift (setAll σ is ws) m).st σ fun σ m => .nx σ m
  | .star i j e, σ, m => (evE F e σ m).st σ fun w m => (lift (seqOf m w) m).st σ fun ws m => match ws with
    | x :: r => .nx ((σ.set i (some x)).set j (some (mkL r))) m
    | [] => .no
  | .ifs c t f, σ, m => ((evE F c σ m).bind fun x m => lift (tru m x) m).st σ fun k m => match k with
    | true => evSs F t σ m
    | false => evSs F f σ m
  | .fors ts it b, σ, m => ((evE F it σ m).bind fun x m => (lift (iterOf m x) m).bind fun ws m => .ok (ws, grds m x) m).st σ fun p m =>
    forGo p.2 (fun w σ m => (lift (bindT m σ ts w) m).st σ fun σ m => evSs F b σ m) p.1 σ m
  | .raise c es, σ, m => (evEs F es σ m).st σ fun ws m => match F.fld c with
    | some fs => if fs.length = ws.length then .xc σ c (fs.zip ws) m else .no
    | none => .no
  | .tryx b c k h, σ, m => match evSs F b σ m with
    | .xc σ d fs m => (match F.sub d c with
      | some true => if k < σ.length then (match evH F k m d fs h (σ.set k none) with
        | some σ => .nx (σ.set k none) m
        | none => .no) else .no
      | some false => .xc σ d fs m
      | none => .no)
    | r => r
  | .mat e cs, σ, m => (evE F e σ m).st σ fun w m => evCs F cs w σ m
  | .cas _ _ _, _, _ => .no
  | .pass, σ, m => .nx σ m
noncomputable def evSs (F : Fe) : List St → En → Sto → SR
  | [], σ, m => .nx σ m
  | s :: r, σ, m => (evS F s σ m).then fun σ m => evSs F r σ m
noncomputable def evCs (F : Fe) : List St → W → En → Sto → SR
  | [], _, σ, m => .nx σ m
  | c :: r, w, σ, m => match evCa F c w σ m with
    | (true, x) => x
    | (false, .nx σ m) => evCs F r w σ m
    | (false, x) => x
/-- one case: whether it is taken -/
noncomputable def evCa (F : Fe) : St → W → En → Sto → Bool × SR
  | .cas ps g b, w, σ, m => match ps with
    | none => (true, evSs F b σ m)
    | some is => match lstOf m w with
      | none => (true, .no)
      | some ws => match setAll σ is ws with
        | none => (false, .nx σ m)
        | some σ => match evG F g σ m with
          | .ok true m => (true, evSs F b σ m)
          | .ok false m => (false, .nx σ m)
          | _ => (true, .no)
  | _, _, _, _ => (true, .no)
end
end Mi
/-! Mi, part B: what a value of Mi is on the abstract heap. -/
namespace Mi
open PySem PySem.Spec PyProof.Rows L2

/-- a tuple without a dict of its own: laid by Mi, or of the written part -/
def TupC (K : PySem.W.Frag) (G : Hp) (a : Addr) (xs : List V) : Prop :=
  (∃ o : Obj, G a = some (.frz o (.tup xs)) ∧ o.dict = none) ∨ ∃ (o : Obj) (its : Array Value) (n : Nat), K.lookup a = some o ∧ o.cls = .type "tuple" ∧ o.dict = none ∧ o.data = .seq its n ∧ its.size ≤ sizeLine ∧ Vals xs its.toList
theorem TupC.sqt {K : PySem.W.Frag} {G : Hp} {a : Addr} {xs : List V} (h : TupC K G a xs) : SqT K G a xs := by
  rcases h with ⟨o, h, _⟩ | ⟨o, its, n, h1, h2, _, h3, h4, h5⟩
  · exact .inl (.inr ⟨o, h⟩)
  · exact .inr ⟨o, its, n, h1, h2, h3, h4, h5⟩
section
variable (K : PySem.W.Frag)
mutual
/-- data at V; G holds what never changes any more -/
inductive RD (G : Hp) : V → PyData → Prop
  | non : RD G .non .none
  | bl (b : Bool) : RD G (.bl b) (.bool b)
  | int (i : Int) : RD G (.int i) (.int i)
  | str (x : Str) : RD G (.str x) (.str x)
  | lst {a : Addr} {xs : List V} {ds : List PyData} : G a = some (.lst xs) → RDs G xs ds → RD G (.ref a) (.list ds)
  | tup {a : Addr} {xs : List V} {ds : List PyData} : TupC K G a xs → RDs G xs ds → RD G (.ref a) (.tuple ds)
  | dic {a : Addr} : G a = some (.dK []) → RD G (.ref a) (.dict [])
inductive RDs (G : Hp) : List V → List PyData → Prop
  | nil : RDs G [] []
  | cons {v : V} {vs : List V} {d : PyData} {ds : List PyData} : RD G v d → RDs G vs ds → RDs G (v :: vs) (d :: ds)
end
mutual
/-- data at V as it stands at the moment, its tuples of any make -/
inductive RU (H : Hp) : V → PyData → Prop
  | non : RU H .non .none
  | bl (b : Bool) : RU H (.bl b) (.bool b)
  | int (i : Int) : RU H (.int i) (.int i)
  | str (x : Str) : RU H (.str x) (.str x)
  | lst {a : Addr} {xs : List V} {ds : List PyData} : H a = some (.lst xs) → RUs H xs ds → RU H (.ref a) (.list ds)
  | tup {a : Addr} {xs : List V} {ds : List PyData} : SqT K H a xs → RUs H xs ds → RU H (.ref a) (.tuple ds)
  | dic {a : Addr} : H a = some (.dK []) → RU H (.ref a) (.dict [])
inductive RUs (H : Hp) : List V → List PyData → Prop
  | nil : RUs H [] []
  | cons {v : V} {vs : List V} {d : PyData} {ds : List PyData} : RU H v d → RUs H vs ds → RUs H (v :: vs) (d :: ds)
end
end
/-- the written part, the module's names, the world -/
structure Wd where
  K : PySem.W.Frag
  mg : Str → Option Value
  w : World
/-- what never changes: data, defs -/
def RCo (Z : Wd) (G : Hp) (v : V) (w : W) : Prop := (∃ d, w = .dat d ∧ RD Z.K G v d) ∨ ∃ f x, v = .ref f ∧ w = .glo x ∧ Z.mg x = some (.ref f)
section
variable (Z : Wd)
mutual
inductive RW (G : Hp) (ι : List Addr) : V → W → Prop
  | dat {v : V} {d : PyData} : RD Z.K G v d → RW G ι v (.dat d)
  | tup {a : Addr} {vs : List V} {ws : List W} : SqT Z.K G a vs → RWs G ι vs ws → RW G ι (.ref a) (.tup ws)
  | lst {a : Addr} {vs : List V} {ws : List W} : G a = some (.lst vs) → RWs G ι vs ws → RW G ι (.ref a) (.lst ws)
  | ref {a : Addr} {i : Nat} : ι[i]? = some a → RW G ι (.ref a) (.ref i)
  | glo {f : Addr} {x : Str} : Z.mg x = some (.ref f) → RW G ι (.ref f) (.glo x)
  | scr {a : Addr} {ns : List Int} : SqL Z.K G a (ns.map V.int) → RW G ι (.ref a) (.scr ns)
  | tab {a : Addr} {kvs : List (Str × W)} {es : Array DictEntry} {n : Nat} (uf : Str → Value) (vf : Str → V) : KDict Z.K Z.w a es n → (∀ z, kvs.lookup z = none → PySem.W.nsIn Z.K a z = some none) →
      (∀ z w, kvs.lookup z = some w → PySem.W.nsIn Z.K a z = some (some (uf z)) ∧ RelV (vf z) (uf z)) → (∀ z w, kvs.lookup z = some w → RCo Z G (vf z) w) → RW G ι (.ref a) (.tab kvs)
inductive RWs (G : Hp) (ι : List Addr) : List V → List W → Prop
  | nil : RWs G ι [] []
  | cons {v : V} {vs : List V} {w : W} {ws : List W} : RW G ι v w → RWs G ι vs ws → RWs G ι (v :: vs) (w :: ws)
end
end

structure Grow (G : Hp) (ι : List Addr) (G' : Hp) (ι' : List Addr) : Prop where
  g : Same G G'
  i : ι <+: ι'
theorem Grow.refl (G : Hp) (ι : List Addr) : Grow G ι G ι := ⟨Same.refl G, List.prefix_rfl⟩
theorem Grow.trans {G1 G2 G3 : Hp} {i1 i2 i3 : List Addr} (a : Grow G1 i1 G2 i2) (b : Grow G2 i2 G3 i3) : Grow G1 i1 G3 i3 := ⟨a.g.trans b.g, a.i.trans b.i⟩
theorem Same.sqt {K : PySem.W.Frag} {H H' : Hp} {a : Addr} {xs : List V} (e : Same H H') (h : SqT K H a xs) : SqT K H' a xs := by
  rcases h with (h | ⟨o, h⟩) | h
  · exact .inl (.inl (e _ _ h))
  · exact .inl (.inr ⟨o, e _ _ h⟩)
  · exact .inr h
theorem Same.tupc {K : PySem.W.Frag} {H H' : Hp} {a : Addr} {xs : List V} (e : Same H H') (h : TupC K H a xs) : TupC K H' a xs := by
  rcases h with ⟨o, h, d⟩ | h
  · exact .inl ⟨o, e _ _ h, d⟩
  · exact .inr h
section
variable {Z : Wd} {G G' : Hp} {ι ι' : List Addr}
mutual
theorem RD.mono (e : Same G G') : ∀ {v : V} {d : PyData}, RD Z.K G v d → RD Z.K G' v d
  | _, _, .non => .non
  | _, _, .bl b => .bl b
  | _, _, .int i => .int i
  | _, _, .str x => .str x
  | _, _, .lst h r => .lst (e _ _ h) (RDs.mono e r)
  | _, _, .tup h r => .tup (Same.tupc e h) (RDs.mono e r)
  | _, _, .dic h => .dic (e _ _ h)
theorem RDs.mono (e : Same G G') : ∀ {vs : List V} {ds : List PyData}, RDs Z.K G vs ds → RDs Z.K G' vs ds
  | _, _, .nil => .nil
  | _, _, .cons h r => .cons (RD.mono e h) (RDs.mono e r)
end
theorem RCo.mono (e : Same G G') {v : V} {w : W} (h : RCo Z G v w) : RCo Z G' v w := h.imp (fun ⟨d, h1, h2⟩ => ⟨d, h1, RD.mono e h2⟩) id
theorem RCo.rw {v : V} {w : W} (h : RCo Z G v w) : RW Z G ι v w := by
  rcases h with ⟨d, rfl, h⟩ | ⟨f, x, rfl, rfl, h⟩
  · exact .dat h
  · exact .glo h
theorem pre_get {α : Type} {l l' : List α} (h : l <+: l') {i : Nat} {a : α} (e : l[i]? = some a) : l'[i]? = some a := by
  obtain ⟨t, rfl⟩ := h
  rw [List.getElem?_append_left (List.getElem?_eq_some_iff.mp e).1]
  exact e
mutual
theorem RW.mono (g : Grow G ι G' ι') : ∀ {v : V} {w : W}, RW Z G ι v w → RW Z G' ι' v w
  | _, _, .dat h => .dat (RD.mono g.g h)
  | _, _, .tup h r => .tup (Same.sqt g.g h) (RWs.mono g r)
  | _, _, .lst h r => .lst (g.g _ _ h) (RWs.mono g r)
  | _, _, .ref h => .ref (pre_get g.i h)
  | _, _, .glo h => .glo h
  | _, _, .scr h => .scr (g.g.seq h)
  | _, _, .tab uf vf h1 h2 h3 h4 => .tab uf vf h1 h2 h3 fun z w e => RCo.mono g.g (h4 z w e)
theorem RWs.mono (g : Grow G ι G' ι') : ∀ {vs : List V} {ws : List W}, RWs Z G ι vs ws → RWs Z G' ι' vs ws
  | _, _, .nil => .nil
  | _, _, .cons h r => .cons (RW.mono g h) (RWs.mono g r)
end
theorem RDs.rws : ∀ {vs : List V} {ds : List PyData}, RDs Z.K G vs ds → RWs Z G ι vs (ds.map W.dat)
  | _, _, .nil => .nil
  | _, _, .cons h r => .cons (.dat h) (RDs.rws r)
theorem RWs.rds : ∀ {vs : List V} {ds : List PyData}, RWs Z G ι vs (ds.map W.dat) → RDs Z.K G vs ds
  | _, [], .nil => .nil
  | _, _ :: _, .cons (.dat h) r => .cons h (RWs.rds r)
theorem RWs.length : ∀ {vs : List V} {ws : List W}, RWs Z G ι vs ws → vs.length = ws.length
  | _, _, .nil => rfl
  | _, _, .cons _ r => congrArg (· + 1) (RWs.length r)
theorem RWs.append : ∀ {vs us : List V} {ws zs : List W}, RWs Z G ι vs ws → RWs Z G ι us zs → RWs Z G ι (vs ++ us) (ws ++ zs)
  | _, _, _, _, .nil, s => s
  | _, _, _, _, .cons h r, s => .cons h (RWs.append r s)
theorem RWs.get : ∀ {vs : List V} {ws : List W} {i : Nat} {w : W}, RWs Z G ι vs ws → ws[i]? = some w → ∃ v, vs[i]? = some v ∧ RW Z G ι v w
  | _, _, i, w, .nil, e => by simp at e
  | _, _, 0, w, .cons h _, e => by
    simp at e
    subst e
    exact ⟨_, rfl, h⟩
  | _, _, i + 1, w, .cons _ r, e => by
    obtain ⟨v, h1, h2⟩ := RWs.get (i := i) (w := w) r (by simpa using e)
    exact ⟨v, by simpa using h1, h2⟩
theorem RWs.set {v : V} {w : W} (h : RW Z G ι v w) : ∀ {vs : List V} {ws : List W} (i : Nat), RWs Z G ι vs ws → RWs Z G ι (vs.set i v) (ws.set i w)
  | _, _, _, .nil => .nil
  | _, _, 0, .cons _ r => .cons h r
  | _, _, i + 1, .cons q r => .cons q (RWs.set h i r)
theorem RWs.take : ∀ {vs : List V} {ws : List W} (n : Nat), RWs Z G ι vs ws → RWs Z G ι (vs.take n) (ws.take n)
  | _, _, 0, _ => .nil
  | _, _, _ + 1, .nil => .nil
  | _, _, n + 1, .cons h r => .cons h (RWs.take n r)
theorem RWs.drop : ∀ {vs : List V} {ws : List W} (n : Nat), RWs Z G ι vs ws → RWs Z G ι (vs.drop n) (ws.drop n)
  | _, _, 0, r => r
  | _, _, _ + 1, .nil => .nil
  | _, _, n + 1, .cons _ r => RWs.drop n r
theorem RWs.rev : ∀ {vs : List V} {ws : List W}, RWs Z G ι vs ws → RWs Z G ι vs.reverse ws.reverse
  | _, _, .nil => .nil
  | _, _, .cons h r => by
    rw [List.reverse_cons, List.reverse_cons]
    exact RWs.append (RWs.rev r) (.cons h .nil)
theorem RWs.erase : ∀ {vs : List V} {ws : List W} (i : Nat), RWs Z G ι vs ws → RWs Z G ι (vs.eraseIdx i) (ws.eraseIdx i)
  | _, _, _, .nil => .nil
  | _, _, 0, .cons _ r => r
  | _, _, i + 1, .cons h r => .cons h (RWs.erase i r)
theorem RWs.init : ∀ {vs : List V} {ws : List W}, RWs Z G ι vs ws → RWs Z G ι vs.dropLast ws.dropLast
  | _, _, .nil => .nil
  | _, _, .cons _ .nil => .nil
  | _, _, .cons h (.cons h2 r) => .cons h (RWs.init (.cons h2 r))
theorem RWs.rep {vs : List V} {ws : List W} (r : RWs Z G ι vs ws) : ∀ k : Nat, RWs Z G ι (List.replicate k vs).flatten (List.replicate k ws).flatten
  | 0 => .nil
  | k + 1 => by
    rw [List.replicate_succ, List.replicate_succ, List.flatten_cons, List.flatten_cons]
    exact RWs.append r (RWs.rep r k)
theorem rw_ints : ∀ ns : List Int, RWs Z G ι (ns.map V.int) (ns.map wI)
  | [] => .nil
  | n :: r => .cons (.dat (.int n)) (rw_ints r)
theorem rw_strs : ∀ ns : List Str, RWs Z G ι (ns.map V.str) (ns.map wS)
  | [] => .nil
  | n :: r => .cons (.dat (.str n)) (rw_strs r)

/-- a tuple -/
theorem tup_rw {v : V} {w : W} {ws : List W} (h : RW Z G ι v w) (e : tupOf w = some ws) : ∃ a vs, v = .ref a ∧ SqT Z.K G a vs ∧ RWs Z G ι vs ws := by
  cases h with
  | dat r =>
    cases r with
    | tup h1 h2 => cases e; exact ⟨_, _, rfl, h1.sqt, h2.rws⟩
    | _ => cases e
  | tup h1 h2 => cases e; exact ⟨_, _, rfl, h1, h2⟩
  | _ => cases e
theorem mkT_rw {a : Addr} {vs : List V} {ws : List W} (h : TupC Z.K G a vs) (r : RWs Z G ι vs ws) : RW Z G ι (.ref a) (mkT ws) := by
  unfold mkT
  cases e : datAll ws with
  | none => exact .tup h.sqt r
  | some ds =>
    rw [datAll_some e] at r
    exact .dat (.tup h r.rds)
theorem mkL_rw {a : Addr} {vs : List V} {ws : List W} (h : G a = some (.lst vs)) (r : RWs Z G ι vs ws) : RW Z G ι (.ref a) (mkL ws) := by
  unfold mkL
  cases e : datAll ws with
  | none => exact .lst h r
  | some ds =>
    rw [datAll_some e] at r
    exact .dat (.lst h r.rds)
end

/-! ### the store on the heap -/
def cellLe (n : Nat) : Cell → Bool
  | .lst ws => refsLeAll n ws
  | .dic kvs => kvs.all fun q => refsLe n q.1 && refsLe n q.2
  | .ins _ fs => refsLeF n fs
def wfB (B : Nat) (m : Sto) : Prop := ∀ i c, i < B → m[i]? = some c → cellLe (B - 1) c = true
/-- what a body may do to the store: no ref beyond a barrier comes below it -/
def Kp (L : Nat) (m m' : Sto) : Prop := m.length ≤ m'.length ∧ ∀ B, B ≤ L → wfB B m → wfB B m'
theorem Kp.refl (L : Nat) (m : Sto) : Kp L m m := ⟨Nat.le_refl _, fun _ _ h => h⟩
theorem Kp.trans {L : Nat} {a b c : Sto} (h : Kp L a b) (k : Kp L b c) : Kp L a c := ⟨Nat.le_trans h.1 k.1, fun B hB w => k.2 B hB (h.2 B hB w)⟩
/-- lists, tuples are no longer than the line -/
def SzO : HO → Prop
  | .lst xs => xs.length ≤ sizeLine
  | .tup xs => xs.length ≤ sizeLine
  | .frz _ u => SzO u
  | _ => True
def CellR (Z : Wd) (G : Hp) (ι : List Addr) (H : Hp) (a : Addr) : Cell → Prop
  | .lst ws => ∃ vs, H a = some (.lst vs) ∧ RWs Z G ι vs ws
  | .dic _ => False
  | .ins _ _ => False
structure RS (Z : Wd) (G : Hp) (ι : List Addr) (m : Sto) (H : Hp) : Prop where
  sub : Same G H
  nd : ι.Nodup
  len : ι.length = m.length
  off : ∀ a ∈ ι, G a = none
  cell : ∀ (i : Nat) c, m[i]? = some c → ∃ a, ι[i]? = some a ∧ CellR Z G ι H a c
  sz : ∀ a o, H a = some o → SzO o

section
variable {Z : Wd} {G : Hp} {ι : List Addr} {m : Sto} {H : Hp}
theorem RS.lst (S : RS Z G ι m H) {i : Nat} {a : Addr} {ws : List W} (h : ι[i]? = some a) (e : cellL m i = some ws) : ∃ vs, H a = some (.lst vs) ∧ RWs Z G ι vs ws := by
  unfold cellL at e
  cases q : m[i]? with
  | none => rw [q] at e; cases e
  | some c =>
    rw [q] at e
    cases c with
    | lst zs =>
      cases e
      obtain ⟨b, hb, vs, h1, h2⟩ := S.cell i _ q
      rw [h] at hb
      cases hb
      exact ⟨vs, h1, h2⟩
    | _ => cases e
theorem lst_rw (S : RS Z G ι m H) {v : V} {w : W} {ws : List W} (h : RW Z G ι v w) (e : lstOf m w = some ws) : ∃ a vs, v = .ref a ∧ H a = some (.lst vs) ∧ RWs Z G ι vs ws := by
  cases h with
  | dat r =>
    cases r with
    | lst h1 h2 => cases e; exact ⟨_, _, rfl, S.sub _ _ h1, h2.rws⟩
    | _ => cases e
  | lst h1 h2 => cases e; exact ⟨_, _, rfl, S.sub _ _ h1, h2⟩
  | ref h1 =>
    obtain ⟨vs, h2, h3⟩ := S.lst h1 e
    exact ⟨_, vs, rfl, h2, h3⟩
  | _ => cases e
theorem seq_rw (S : RS Z G ι m H) {v : V} {w : W} {ws : List W} (h : RW Z G ι v w) (e : seqOf m w = some ws) : ∃ a vs, v = .ref a ∧ (SqL Z.K H a vs ∨ SqT Z.K H a vs) ∧ RWs Z G ι vs ws := by
  unfold seqOf at e
  cases q : tupOf w with
  | some zs =>
    rw [q] at e
    cases e
    obtain ⟨a, vs, h1, h2, h3⟩ := tup_rw h q
    exact ⟨a, vs, h1, .inr (Same.sqt S.sub h2), h3⟩
  | none =>
    rw [q] at e
    obtain ⟨a, vs, h1, h2, h3⟩ := lst_rw S h e
    exact ⟨a, vs, h1, .inl (SqL.of h2), h3⟩
mutual
theorem RU.dp : ∀ {v : V} {d : PyData}, RU Z.K H v d → d.canLay0 = true → Dp Z.K H v d
  | _, _, .non, _ => .non
  | _, _, .bl b, _ => .bl b
  | _, _, .int i, _ => .int i
  | _, _, .str x, _ => .str x
  | _, _, .lst h r, c => .lst (SqL.of h) (RUs.dps r (by simpa [PyData.canLay0] using c))
  | _, _, .tup h r, c => .tup h (RUs.dps r (by simpa [PyData.canLay0] using c))
  | _, _, .dic h, c => by simp [PyData.canLay0] at c
theorem RUs.dps : ∀ {vs : List V} {ds : List PyData}, RUs Z.K H vs ds → PyData.canLayAll0 ds = true → DpAll Z.K H vs ds
  | _, _, .nil, _ => .nil
  | _, _, .cons h r, c => by
    simp only [PyData.canLayAll0, Bool.and_eq_true] at c
    exact .cons (RU.dp h c.1) (RUs.dps r c.2)
end
mutual
theorem RD.ru {K : PySem.W.Frag} (S : Same G H) : ∀ {v : V} {d : PyData}, RD K G v d → RU K H v d
  | _, _, .non => .non
  | _, _, .bl b => .bl b
  | _, _, .int i => .int i
  | _, _, .str x => .str x
  | _, _, .lst h r => .lst (S _ _ h) (RDs.ru S r)
  | _, _, .tup h r => .tup (Same.sqt S h.sqt) (RDs.ru S r)
  | _, _, .dic h => .dic (S _ _ h)
theorem RDs.ru {K : PySem.W.Frag} (S : Same G H) : ∀ {vs : List V} {ds : List PyData}, RDs K G vs ds → RUs K H vs ds
  | _, _, .nil => .nil
  | _, _, .cons h r => .cons (RD.ru S h) (RDs.ru S r)
end
mutual
theorem datF_ru (S : Same G H) : ∀ {v : V} {w : W} {d : PyData}, RW Z G ι v w → datF w = some d → RU Z.K H v d
  | _, .dat _, _, .dat r, e => by
    cases e
    exact r.ru S
  | _, .tup ws, d, .tup h r, e => by
    simp only [datF, Option.map_eq_some_iff] at e
    obtain ⟨ds, e, rfl⟩ := e
    exact .tup (Same.sqt S h) (datFs_ru S r e)
  | _, .lst ws, d, .lst h r, e => by
    simp only [datF, Option.map_eq_some_iff] at e
    obtain ⟨ds, e, rfl⟩ := e
    exact .lst (S _ _ h) (datFs_ru S r e)
  | _, .ref _, _, _, e => by simp [datF] at e
  | _, .glo _, _, _, e => by simp [datF] at e
  | _, .obj _ _, _, _, e => by simp [datF] at e
  | _, .scr _, _, _, e => by simp [datF] at e
  | _, .tab _, _, _, e => by simp [datF] at e
  | _, .exo _ _, _, _, e => by simp [datF] at e
  | _, .itr _ _, _, _, e => by simp [datF] at e
theorem datFs_ru (S : Same G H) : ∀ {vs : List V} {ws : List W} {ds : List PyData}, RWs Z G ι vs ws → datFs ws = some ds → RUs Z.K H vs ds
  | _, [], _, .nil, e => by
    cases e
    exact .nil
  | _, w :: r, ds, .cons h q, e => by
    unfold datFs at e
    split at e
    · rename_i d es e1 e2
      cases e
      exact .cons (datF_ru S h e1) (datFs_ru S q e2)
    · cases e
end
theorem dat_ru (S : RS Z G ι m H) {v : V} {w : W} {d : PyData} (h : RW Z G ι v w) (e : datOf m w = some d) : RU Z.K H v d := by
  unfold datOf at e
  split at e
  · rename_i i
    obtain ⟨ws, e1, e⟩ := Option.bind_eq_some_iff.mp e
    obtain ⟨ds, e2, rfl⟩ := Option.map_eq_some_iff.mp e
    cases h with
    | ref h1 =>
      obtain ⟨vs, h2, h3⟩ := S.lst h1 e1
      exact .lst h2 (datFs_ru S.sub h3 e2)
  · exact datF_ru S.sub h e
theorem dat_dp (S : RS Z G ι m H) {v : V} {w : W} {d : PyData} (h : RW Z G ι v w) (e : datOf m w = some d) (c : d.canLay0 = true) : Dp Z.K H v d := (dat_ru S h e).dp c
end
end Mi
/-! Mi, part C: ends, and the operators by values. -/
namespace Mi
open PySem PySem.Spec PyProof.Rows L2

/-- an exception of the own class c with these fields -/
def RX (Z : Wd) (G : Hp) (ι : List Addr) (H : Hp) (cls : Value) (d : Option Addr) (c : Str) (fs : List (Str × W)) : Prop :=
  ∃ (C dd : Addr) (fl : List (Str × V)), Z.mg c = some (.ref C) ∧ cls = .ref C ∧ d = some dd ∧ H dd = some (.xd fl) ∧ ∀ f w, fs.lookup f = some w → ∃ v, fl.lookup f = some v ∧ RW Z G ι v w
/-- what stands outside stays as it is -/
def Fr (G : Hp) (ι : List Addr) (H : Hp) (G' : Hp) (ι' : List Addr) (H' : Hp) : Prop := ∀ a o, H a = some o → a ∉ ι → G a = none → H' a = some o ∧ a ∉ ι' ∧ G' a = none
theorem Fr.refl (G : Hp) (ι : List Addr) (H : Hp) : Fr G ι H G ι H := fun _ _ h n g => ⟨h, n, g⟩
theorem Fr.trans {G G1 G2 : Hp} {ι ι1 ι2 : List Addr} {H H1 H2 : Hp} (a : Fr G ι H G1 ι1 H1) (b : Fr G1 ι1 H1 G2 ι2 H2) : Fr G ι H G2 ι2 H2 := fun x o h n g => b x o (a x o h n g).1 (a x o h n g).2.1 (a x o h n g).2.2
/-- from one state of things to a later one -/
structure To (L : Nat) (G : Hp) (ι : List Addr) (m : Sto) (H : Hp) (G' : Hp) (ι' : List Addr) (m' : Sto) (H' : Hp) : Prop where
  g : Grow G ι G' ι'
  k : Kp L m m'
  f : Fr G ι H G' ι' H'
theorem To.refl {L : Nat} {G : Hp} {ι : List Addr} {m : Sto} {H : Hp} : To L G ι m H G ι m H := ⟨Grow.refl _ _, Kp.refl _ _, Fr.refl _ _ _⟩
theorem To.trans {L : Nat} {G G1 G2 : Hp} {ι ι1 ι2 : List Addr} {m m1 m2 : Sto} {H H1 H2 : Hp} (a : To L G ι m H G1 ι1 m1 H1) (b : To L G1 ι1 m1 H1 G2 ι2 m2 H2) : To L G ι m H G2 ι2 m2 H2 :=
  ⟨a.g.trans b.g, a.k.trans b.k, a.f.trans b.f⟩
section
variable (Z : Wd)
/-- what is wanted of an end -/
def Post {α β : Type} (R : Hp → List Addr → α → β → Prop) (L : Nat) (G : Hp) (ι : List Addr) (m : Sto) (H : Hp) (r : Res β) (Q : α → Hp → Prop) (E : XK) : Prop := match r with
  | .ok w m' => ∀ v H' G' ι', To L G ι m H G' ι' m' H' → RS Z G' ι' m' H' → R G' ι' v w → Q v H'
  | .exc c fs m' => ∀ cls d H' G' ι', To L G ι m H G' ι' m' H' → RS Z G' ι' m' H' → RX Z G' ι' H' cls d c fs → E cls d H'
  | .no => False
/-- what the slots hold -/
def REn (G : Hp) (ι : List Addr) (σ : L2.St) (e : En) : Prop := σ.length = e.length ∧ ∀ i w, getV e i = some w → ∃ v, σ[i]? = some (some v) ∧ RW Z G ι v w
end
section
variable {Z : Wd} {α β γ : Type} {R : Hp → List Addr → α → β → Prop} {L : Nat} {G G1 : Hp} {ι ι1 : List Addr} {m m1 : Sto} {H H1 : Hp} {r : Res β} {Q Q' : α → Hp → Prop} {E : XK}
theorem Post.mono (h : Post Z R L G ι m H r Q E) (k : ∀ v H, Q v H → Q' v H) : Post Z R L G ι m H r Q' E := by
  cases r with
  | ok w m' => exact fun v H' G' ι' t S q => k _ _ (h v H' G' ι' t S q)
  | exc c fs m' => exact h
  | no => exact h
theorem Post.shift (h : Post Z R L G ι m H r Q E) (t : To L G ι m H G1 ι1 m1 H1) : Post Z R L G1 ι1 m1 H1 r Q E := by
  cases r with
  | ok w m' => exact fun v H' G' ι' t' S q => h v H' G' ι' (t.trans t') S q
  | exc c fs m' => exact fun cls d H' G' ι' t' S q => h cls d H' G' ι' (t.trans t') S q
  | no => exact h
/-- what stands behind a first part -/
def Mid (Z : Wd) {α β : Type} (R : Hp → List Addr → α → β → Prop) (L : Nat) (G : Hp) (ι : List Addr) (m : Sto) (H : Hp) (N : Hp → List Addr → Sto → β → Hp → Prop) (v : α) (H1 : Hp) : Prop :=
  ∃ G1 ι1 m1 w, To L G ι m H G1 ι1 m1 H1 ∧ RS Z G1 ι1 m1 H1 ∧ R G1 ι1 v w ∧ N G1 ι1 m1 w H1
theorem Post.bind {δ : Type} {R2 : Hp → List Addr → δ → γ → Prop} {f : β → Sto → Res γ} {Q2 : δ → Hp → Prop} (h : Post Z R2 L G ι m H (r.bind f) Q2 E) :
    Post Z R L G ι m H r (Mid Z R L G ι m H fun G1 ι1 m1 w H1 => Post Z R2 L G1 ι1 m1 H1 (f w m1) Q2 E) E := by
  cases r with
  | ok w m' => exact fun v H' G' ι' t S q => ⟨G', ι', m', w, t, S, q, Post.shift h t⟩
  | exc c fs m' => exact h
  | no => exact h
/-- .. told of the first state -/
theorem Post.bindAt {δ : Type} {R2 : Hp → List Addr → δ → γ → Prop} {f : β → Sto → Res γ} {Q2 : δ → Hp → Prop} (t : To L G ι m H G1 ι1 m1 H1) (h : Post Z R2 L G ι m H (r.bind f) Q2 E) :
    Post Z R L G1 ι1 m1 H1 r (fun v H' => ∃ G' ι' m' w, To L G1 ι1 m1 H1 G' ι' m' H' ∧ RS Z G' ι' m' H' ∧ R G' ι' v w ∧ Post Z R2 L G ι m H (f w m') Q2 E) E := by
  cases r with
  | ok w m' => exact fun v H' G' ι' t' S q => ⟨G', ι', m', w, t', S, q, h⟩
  | exc c fs m' => exact fun cls d H' G' ι' t' S q => h cls d H' G' ι' (t.trans t') S q
  | no => exact h
theorem Post.uncalm {E' : XK} (h : Post Z R L G ι m H r.calm Q E) : Post Z R L G ι m H r Q E' := by
  cases r with
  | ok w m' => exact h
  | exc c fs m' => exact h.elim
  | no => exact h
theorem calm_bind {f : β → Sto → Res γ} : (r.bind f).calm = r.calm.bind fun a m => (f a m).calm := by cases r <;> rfl
theorem REn.mono {σ : L2.St} {e : En} (h : REn Z G ι σ e) (g : Grow G ι G1 ι1) : REn Z G1 ι1 σ e := ⟨h.1, fun i w q => by
  obtain ⟨v, a, b⟩ := h.2 i w q
  exact ⟨v, a, b.mono g⟩⟩
/-- an end that is there at once -/
theorem Post.here {v : α} {w : β} (h : Post Z R L G ι m H (.ok w m) Q E) (S : RS Z G ι m H) (q : R G ι v w) : Q v H := h v H G ι To.refl S q
theorem Post.lift {o : Option β} (h : Post Z R L G ι m H (Mi.lift o m) Q E) : ∃ w, o = some w ∧ Post Z R L G ι m H (.ok w m) Q E := by
  cases o with
  | none => exact h.elim
  | some w => exact ⟨w, rfl, h⟩
/-! ### new things -/
theorem upd_ref_none {H : Hp} {p : Addr} {o : HO} (h : H p = none) : Same H (upd H p o) := fun a u e => by
  rw [upd_ne (ne_of_none e h)]
  exact e
theorem fr_new {H : Hp} {p : Addr} {o o' : HO} (h : H p = none) : Fr G ι H (upd G p o') ι (upd H p o) := fun a u e n g => ⟨by rw [upd_ne (ne_of_none e h)]; exact e, n, by rw [upd_ne (ne_of_none e h)]; exact g⟩
theorem fr_box {H : Hp} {p : Addr} {o : HO} (h : H p = none) : Fr G ι H G (ι ++ [p]) (upd H p o) := fun a u e n g => ⟨by rw [upd_ne (ne_of_none e h)]; exact e, fun hm => (List.mem_append.mp hm).elim n fun z => ne_of_none e h (List.mem_singleton.mp z), g⟩
theorem fr_put {H : Hp} {p : Addr} {o : HO} (h : p ∈ ι) : Fr G ι H G ι (upd H p o) := fun a u e n g => ⟨by rw [upd_ne (fun z => n (by rw [z]; exact h))]; exact e, n, g⟩
theorem grow_new {p : Addr} {o : HO} (h : G p = none) : Grow G ι (upd G p o) ι := ⟨upd_ref_none h, List.prefix_rfl⟩
theorem RS.free {H : Hp} (S : RS Z G ι m H) {p : Addr} (h : H p = none) : G p = none ∧ p ∉ ι := by
  refine ⟨S.sub.free h, fun hp => ?_⟩
  obtain ⟨i, hi, e⟩ := List.mem_iff_getElem.mp hp
  have hl : i < m.length := by rw [← S.len]; exact hi
  obtain ⟨a, ha, c⟩ := S.cell i m[i] (by simp [hl])
  rw [List.getElem?_eq_getElem hi, e] at ha
  cases ha
  cases q : m[i] with
  | lst ws =>
    rw [q] at c
    obtain ⟨vs, c1, _⟩ := c
    rw [h] at c1
    cases c1
  | _ => rw [q] at c; exact c.elim
theorem CellR.mono {H H' : Hp} {a : Addr} {c : Cell} (h : CellR Z G ι H a c) (g : Grow G ι G1 ι1) (e : H' a = H a) : CellR Z G1 ι1 H' a c := by
  cases c with
  | lst ws =>
    obtain ⟨vs, h1, h2⟩ := h
    exact ⟨vs, e.trans h1, h2.mono g⟩
  | _ => exact h.elim
/-- a new frozen object -/
theorem to_new {H : Hp} {p : Addr} {o : HO} (S : RS Z G ι m H) (h : H p = none) : To L G ι m H (upd G p o) ι m (upd H p o) := ⟨grow_new (S.free h).1, Kp.refl _ _, fr_new h⟩
theorem RS.new {H : Hp} (S : RS Z G ι m H) {p : Addr} {o : HO} (h : H p = none) (z : SzO o) : RS Z (upd G p o) ι m (upd H p o) := by
  obtain ⟨hG, hι⟩ := S.free h
  refine ⟨fun a u e => ?_, S.nd, S.len, fun a ha => ?_, fun i c e => ?_, fun a u e => ?_⟩
  · by_cases q : a = p
    · subst q
      rw [upd_same] at e ⊢
      exact e
    · rw [upd_ne q] at e ⊢
      exact S.sub _ _ e
  · have q : a ≠ p := fun q => hι (q ▸ ha)
    rw [upd_ne q]
    exact S.off a ha
  · obtain ⟨a, ha, r⟩ := S.cell i c e
    have q : a ≠ p := fun q => hι (q ▸ List.mem_of_getElem? ha)
    exact ⟨a, ha, r.mono (grow_new hG) (upd_ne q)⟩
  · by_cases q : a = p
    · subst q
      rw [upd_same] at e
      cases e
      exact z
    · rw [upd_ne q] at e
      exact S.sz _ _ e
theorem grow_box {p : Addr} : Grow G ι G (ι ++ [p]) := ⟨Same.refl _, List.prefix_append _ _⟩
theorem kp_push {c : Cell} (hL : L ≤ m.length) : Kp L m (m ++ [c]) := by
  refine ⟨by simp, fun B hB w i x hi e => ?_⟩
  have hi' : i < m.length := Nat.lt_of_lt_of_le hi (Nat.le_trans hB hL)
  rw [List.getElem?_append_left hi'] at e
  exact w i x hi e
/-- a new list in the store -/
theorem RS.box {H : Hp} (S : RS Z G ι m H) {p : Addr} {vs : List V} {ws : List W} (h : H p = none) (z : vs.length ≤ sizeLine) (r : RWs Z G ι vs ws) :
    RS Z G (ι ++ [p]) (m ++ [.lst ws]) (upd H p (.lst vs)) := by
  obtain ⟨hG, hι⟩ := S.free h
  refine ⟨fun a u e => ?_, ?_, by simp [S.len], fun a ha => ?_, fun i c e => ?_, fun a u e => ?_⟩
  · have q : a ≠ p := fun q => by rw [q, hG] at e; cases e
    rw [upd_ne q]
    exact S.sub _ _ e
  · refine List.nodup_append.mpr ⟨S.nd, List.nodup_cons.mpr ⟨List.not_mem_nil, List.nodup_nil⟩, fun a ha b hb => ?_⟩
    rcases List.mem_singleton.mp hb with rfl
    exact fun q => hι (q ▸ ha)
  · rcases List.mem_append.mp ha with q | q
    · exact S.off a q
    · rcases List.mem_singleton.mp q with rfl
      exact hG
  · by_cases hi : i < m.length
    · rw [List.getElem?_append_left hi] at e
      obtain ⟨a, ha, r'⟩ := S.cell i c e
      have q : a ≠ p := fun q => hι (q ▸ List.mem_of_getElem? ha)
      exact ⟨a, pre_get (List.prefix_append _ _) ha, r'.mono grow_box (upd_ne q)⟩
    · rw [List.getElem?_append_right (Nat.le_of_not_lt hi)] at e
      have h0 : i - m.length = 0 := by
        cases q : i - m.length with
        | zero => rfl
        | succ n => rw [q] at e; simp at e
      rw [h0] at e
      simp at e
      subst e
      have ei : i = ι.length := by rw [S.len]; omega
      refine ⟨p, by rw [ei]; simp, vs, upd_same, r.mono grow_box⟩
  · by_cases q : a = p
    · subst q
      rw [upd_same] at e
      cases e
      exact z
    · rw [upd_ne q] at e
      exact S.sz _ _ e
/-- a list of the store becomes another -/
theorem RS.put {H : Hp} (S : RS Z G ι m H) {i : Nat} {a : Addr} {vs : List V} {ws : List W} (h : ι[i]? = some a) (z : vs.length ≤ sizeLine) (r : RWs Z G ι vs ws) :
    RS Z G ι (m.set i (.lst ws)) (upd H a (.lst vs)) := by
  have ha : a ∈ ι := List.mem_of_getElem? h
  have hG := S.off a ha
  refine ⟨fun b u e => ?_, S.nd, by simp [S.len], S.off, fun j c e => ?_, fun b u e => ?_⟩
  · have q : b ≠ a := fun q => by rw [q, hG] at e; cases e
    rw [upd_ne q]
    exact S.sub _ _ e
  · by_cases q : i = j
    · subst q
      have hl : i < m.length := by rw [← S.len]; exact (List.getElem?_eq_some_iff.mp h).1
      rw [List.getElem?_set_self hl] at e
      cases e
      exact ⟨a, h, vs, upd_same, r⟩
    · rw [List.getElem?_set_ne q] at e
      obtain ⟨b, hb, r'⟩ := S.cell j c e
      have qb : b ≠ a := fun z => q (by
        subst z
        obtain ⟨l1, e1⟩ := List.getElem?_eq_some_iff.mp h
        obtain ⟨l2, e2⟩ := List.getElem?_eq_some_iff.mp hb
        exact (List.getElem_inj S.nd).mp (e1.trans e2.symm))
      exact ⟨b, hb, r'.mono (Grow.refl _ _) (upd_ne qb)⟩
  · by_cases q : b = a
    · subst q
      rw [upd_same] at e
      cases e
      exact z
    · rw [upd_ne q] at e
      exact S.sz _ _ e
theorem le_line {n : Nat} (h : n ≤ lim) : n ≤ sizeLine := Nat.le_trans h (by decide)
theorem lt_line {n : Nat} (h : n ≤ lim) : n < sizeLine := Nat.lt_of_le_of_lt h (by decide)
theorem RS.lsz {H : Hp} (S : RS Z G ι m H) {a : Addr} {xs : List V} (h : H a = some (.lst xs)) : xs.length ≤ sizeLine := S.sz a _ h

theorem refsLeAll_mem {n : Nat} : ∀ {ws : List W}, refsLeAll n ws = true ↔ ∀ w ∈ ws, refsLe n w = true
  | [] => by simp [refsLeAll]
  | w :: r => by simp [refsLeAll, refsLeAll_mem (ws := r)]
/-! a ref stays small -/
mutual
theorem refsLe_mono {n k : Nat} (h : n ≤ k) : ∀ {w : W}, refsLe n w = true → refsLe k w = true
  | .dat _, _ => rfl
  | .tup xs, q => refsLeAll_mono h (ws := xs) q
  | .lst xs, q => refsLeAll_mono h (ws := xs) q
  | .ref i, q => by
    simp only [refsLe, decide_eq_true_eq] at q ⊢
    omega
  | .glo _, _ => rfl
  | .obj _ fs, q => refsLeF_mono h (fs := fs) q
  | .scr _, _ => rfl
  | .tab _, _ => rfl
  | .exo _ fs, q => refsLeF_mono h (fs := fs) q
  | .itr _ xs, q => refsLeAll_mono h (ws := xs) q
theorem refsLeAll_mono {n k : Nat} (h : n ≤ k) : ∀ {ws : List W}, refsLeAll n ws = true → refsLeAll k ws = true
  | [], _ => rfl
  | w :: r, q => by
    simp only [refsLeAll, Bool.and_eq_true] at q ⊢
    exact ⟨refsLe_mono h q.1, refsLeAll_mono h q.2⟩
theorem refsLeF_mono {n k : Nat} (h : n ≤ k) : ∀ {fs : List (Str × W)}, refsLeF n fs = true → refsLeF k fs = true
  | [], _ => rfl
  | (_, w) :: r, q => by
    simp only [refsLeF, Bool.and_eq_true] at q ⊢
    exact ⟨refsLe_mono h q.1, refsLeF_mono h q.2⟩
end
theorem kp_set {i : Nat} {old ws new : List W} (e : cellL m i = some old) (h : (decide (L ≤ i) || refsLeAll i new) = true) (hw : ∀ w ∈ ws, w ∈ old ∨ w ∈ new) : Kp L m (m.set i (.lst ws)) := by
  refine ⟨by simp, fun B hB wf j c hj q => ?_⟩
  by_cases hij : i = j
  · subst hij
    by_cases hl : i < m.length
    · rw [List.getElem?_set_self hl] at q
      cases q
      have h2 : refsLeAll i new = true := by
        rcases Bool.or_eq_true_iff.mp h with z | z
        · exact absurd (of_decide_eq_true z) (by omega)
        · exact z
      have e0 : m[i]? = some (.lst old) := by
        unfold cellL at e
        cases q2 : m[i]? with
        | none => rw [q2] at e; cases e
        | some c =>
          rw [q2] at e
          cases c with
          | lst zs => cases e; rfl
          | _ => cases e
      have hold := wf i _ hj e0
      show refsLeAll (B - 1) ws = true
      refine refsLeAll_mem.mpr fun w hm => ?_
      rcases hw w hm with z | z
      · exact refsLeAll_mem.mp hold w z
      · exact refsLe_mono (by omega) (refsLeAll_mem.mp h2 w z)
    · rw [List.getElem?_eq_none (by simpa using hl)] at q
      cases q
  · rw [List.getElem?_set_ne hij] at q
    exact wf j c hj q
end
end Mi
/-! Mi: new tuples, kept as they are made (no dict of their own). -/
namespace Mi
open PySem PySem.Spec PyProof.Rows L2
/-- what is wanted of a new tuple of xs -/
def NT (H : Hp) (xs : List V) (Q : VK) : Prop := ∀ (p : Addr) (o : Obj), H p = none → o.dict = none → Q (.ref p) (upd H p (.frz o (.tup xs)))
section
variable {X : Cx} {pins : List (Addr × Obj)} {σ : L2.St} {H : Hp} {s : Shared} {Q : VK}
theorem nt_lay {h : Heap} {tk : Nat} {o : Obj} {xs : List V} {us : List Value} (I : Inv X pins σ H s) (k : ∀ b u, s.heap.get? b = some u → h.get? b = some u) {a : Addr} (ha : s.heap.objs.size ≤ a) (hg : h.get? a = some o) (hd : o.dict = none)
    (hc : o.cls = .type "tuple") {n : Nat} (hq : o.data = .seq us.toArray n) (r : Vals xs us) (hz : xs.length ≤ sizeLine) (q : NT H xs Q) : EP X pins σ Q (.ref a) { s with heap := h, toks := tk } := by
  refine ⟨.ref a, upd H a (.frz o (.tup xs)), I.laid (t' := tk) (fun b u e => k b u e) ha ?_, rfl, q a o (I.hok.fresh ha) hd⟩
  exact ⟨hg, hz, us, r, ⟨o, hg, hc, n, hq⟩⟩
def tTupF (t : TA) : TE := fun σ H Q => t σ H fun xs H1 => xs.length ≤ sizeLine ∧ NT H1 xs Q
theorem pe_tupF {x1} {es : List Expr} {t : TA} {pos : Pos} (h : PA X es t) : PE X (.Tuple es x1 pos) (tTupF t) := by
  refine ⟨fun pins s σ H Q I hq => ?_⟩
  refine wpAny_Tuple_spliced (thn (h.run pos pins s σ H _ I hq) fun us s1 ⟨xs, H1, I1, r, z, q⟩ => ⟨by rw [← r.length]; exact z, ?_⟩)
  exact nt_lay (tk := s1.toks) I1 (fun b u e => Heap.get?_push_of_some _ e) (Nat.le_refl _) (Heap.get?_push_size _ rfl) rfl rfl rfl r z q
theorem call_tupleF : CallR X (.type "tuple") (fun xs H Q => ∃ p ys, xs = [.ref p] ∧ ((SqL X.K H p ys ∧ NT H ys Q) ∨ (SqT X.K H p ys ∧ Q (.ref p) H))) := by
  intro pins s σ H xs us Q I r h
  obtain ⟨p, ys, rfl, h⟩ := h
  obtain ⟨u, rfl, rx⟩ := vals1 r
  cases rx
  rcases h with ⟨hq, q⟩ | ⟨hq, q⟩
  · obtain ⟨its, r', pl, hz⟩ := I.list hq
    have hlen := r'.length
    refine call_tuple_list pl.isList (fun h' kp => ?_) (by simp only [List.size_toArray] <;> omega)
    have I1 : Inv X pins σ H { s with heap := h' } := I.kept (t' := s.toks) kp
    exact nt_lay (tk := s.toks) I1 (fun b o e => Heap.get?_push_of_some _ e) (Nat.le_refl _) (Heap.get?_push_size _ rfl) rfl rfl rfl r' hz q
  · obtain ⟨its, r', pl, hz⟩ := I.tuple hq
    exact call_tuple_same pl ⟨.ref p, H, I, rfl, q⟩
def rCatF (K : PySem.W.Frag) : R2 := fun x y H Q => ∃ a b xs ys, x = .ref a ∧ y = .ref b ∧ SqT K H a xs ∧ SqT K H b ys ∧ xs.length + ys.length ≤ sizeLine ∧
  (xs = [] → Q (.ref b) H) ∧ (xs ≠ [] → ys = [] → Q (.ref a) H) ∧ (xs ≠ [] → ys ≠ [] → NT H (xs ++ ys) Q)
theorem op_catF : OpR X (binaryOp .Add) (rCatF X.K) := by
  intro pins s σ H x y v u Q I rx ry h
  obtain ⟨a, b, xs, ys, rfl, rfl, ha, hb, hz, q0, q1, q2⟩ := h
  cases rx
  cases ry
  obtain ⟨its, r1, p1, _⟩ := I.tuple ha
  obtain ⟨its2, r2, p2, _⟩ := I.tuple hb
  by_cases hx : xs = []
  · subst hx
    cases r1
    exact cat_tup0 p1 p2 ⟨.ref b, H, I, rfl, q0 rfl⟩
  · refine HT.cat_tup p1 p2 (fun z => hx (r1.nil_iff.mp z)) (fun z => ⟨.ref a, H, I, rfl, q1 hx (r2.nil_iff.mp z)⟩) (fun z => ?_) (by rw [← r1.length, ← r2.length]; exact hz)
    exact nt_lay (tk := s.toks) I (fun b o e => Heap.get?_push_of_some _ e) (Nat.le_refl _) (Heap.get?_push_size _ rfl) rfl rfl rfl (r1.append r2) (by rw [List.length_append]; exact hz) (q2 hx (fun w => z (r2.nil_iff.mpr w)))
def rSlF (K : PySem.W.Frag) : V → Option Int → Option Int → Hp → VK → Prop := fun x lo hi H Q => ∃ a xs, x = .ref a ∧ SqT K H a xs ∧
  (HT.sIx xs.length 0 lo = 0 ∧ HT.sIx xs.length xs.length hi = xs.length → Q (.ref a) H) ∧ (¬ (HT.sIx xs.length 0 lo = 0 ∧ HT.sIx xs.length xs.length hi = xs.length) → NT H (cutV xs lo hi) Q)
theorem sl_tupF : SlR X (rSlF X.K) := by
  intro pins s σ H x v vl vu lo hi sl Q I rx hs pl pu h
  obtain ⟨a, xs, rfl, hx, q1, q2⟩ := h
  cases rx
  obtain ⟨its, r, ht, hz⟩ := I.tuple hx
  have hlen : its.toArray.size = xs.length := by rw [List.size_toArray]; exact r.length.symm
  refine ⟨"tuple", _, PyProof.Rows.slot_tuple_getitem.lookup, ht.typeIs, ?_⟩
  by_cases hw : HT.sIx xs.length 0 lo = 0 ∧ HT.sIx xs.length xs.length hi = xs.length
  · exact getItem_tuple_whole ht hs pl pu (by rw [hlen]; exact hw) ⟨.ref a, H, I, rfl, q1 hw⟩
  · refine HT.getItem_tuple_cut ht hs pl pu (by rw [hlen]; exact hw) ?_ (by rw [hlen]; exact hz)
    rw [hlen]
    exact nt_lay (tk := s.toks) I (fun b o e => Heap.get?_push_of_some _ e) (Nat.le_refl _) (Heap.get?_push_size _ rfl) rfl rfl rfl ((r.drop (HT.sIx xs.length 0 lo)).take (HT.sIx xs.length xs.length hi - HT.sIx xs.length 0 lo)) (Nat.le_trans (cutV_length xs lo hi) hz) (q2 hw)
end
end Mi
/-! Mi: t[::-1] of a tuple. -/
namespace Mi
open PySem PySem.Spec PyProof.Rows L2
section
variable {prog : Program} {w : World} {A : Around} {E : Value → Shared → Prop} {s : Shared}
theorem places_rev (n : Nat) : Builtin.Slice.sliceAdjust none none (-1) (n : Int) = ((n : Int) - 1, -1) ∧ Builtin.Slice.slicePlaces ((n : Int) - 1) (-1) (-1) = n := by
  refine ⟨rfl, ?_⟩
  unfold Builtin.Slice.slicePlaces
  rw [if_neg (by decide)]
  by_cases h : (n : Int) - 1 > -1
  · rw [if_pos h, show (- -1 : Int) = 1 by decide, Int.ediv_one]
    omega
  · rw [if_neg h]
    omega
theorem fm_congr {α β : Type} {f g : α → Option β} : ∀ {l : List α}, (∀ x ∈ l, f x = g x) → l.filterMap f = l.filterMap g
  | [], _ => rfl
  | a :: r, h => by
    rw [List.filterMap_cons, List.filterMap_cons, h a (List.mem_cons_self ..), fm_congr fun x hx => h x (List.mem_cons_of_mem _ hx)]
theorem pick_rev (xs : Array Value) : (List.filterMap (fun (k : Nat) => xs[((xs.size : Int) - 1 + (k : Int) * -1).toNat]?) (List.range xs.size)).toArray = xs.toList.reverse.toArray := by
  have e : (List.range xs.size).filterMap (fun (k : Nat) => xs[((xs.size : Int) - 1 + (k : Int) * -1).toNat]?) = ((List.range xs.size).map fun k => xs.size - 1 - k).filterMap (xs[·]?) := by
    rw [List.filterMap_map]
    refine fm_congr fun k hk => ?_
    have := List.mem_range.mp hk
    show xs[((xs.size : Int) - 1 + (k : Int) * -1).toNat]? = xs[xs.size - 1 - k]?
    rw [show ((xs.size : Int) - 1 + (k : Int) * -1).toNat = xs.size - 1 - k by omega]
  rw [e, PySem.W.krv_range, List.filterMap_reverse, PySem.W.krv_all]
theorem sliceApplied_rev {sl : Addr} {vs : Value} {n : Nat} {Q : Int × Int × Nat → Shared → Prop} (hs : s.heap.IsSliceOf sl .none .none vs) (ps : IsPart vs (some (-1))) (h : Q ((n : Int) - 1, -1, n) s) : wpAny (model prog w) A (Builtin.Slice.sliceApplied (.ref sl) (pure (n : Int))) Q E s := by
  obtain ⟨os, hos, hcs, hds⟩ := id hs
  unfold Builtin.Slice.sliceApplied Builtin.Slice.sliceFields
  refine wpAny_bind (wpAny_bind (wpAny_field hos hds (x := .none) rfl (wpAny_bind (wpAny_field hos hds (x := .none) rfl (wpAny_bind (wpAny_field hos hds (x := vs) rfl (wpAny_pure ?_)))))))
  refine wpAny_bind (HT.slicePart_ ps ?_)
  show wpAny _ _ (if ((-1 : Int) == 0) = true then _ else _) _ _ s
  rw [if_neg (by decide)]
  refine wpAny_bind (slicePart_none (wpAny_bind (slicePart_none (wpAny_bind (wpAny_pure ?_)))))
  show wpAny _ _ (match Builtin.Slice.sliceAdjust none none (-1) (n : Int) with | (lo, hi) => pure (lo, (-1 : Int), Builtin.Slice.slicePlaces lo hi (-1))) _ _ s
  rw [(places_rev n).1]
  show wpAny _ _ (pure ((n : Int) - 1, (-1 : Int), Builtin.Slice.slicePlaces ((n : Int) - 1) (-1) (-1))) _ _ s
  rw [(places_rev n).2]
  exact wpAny_pure h
theorem getItem_tuple_rev {t sl : Addr} {items : Array Value} {vs : Value} {Q : Value → Shared → Prop} (ht : IsTup s.heap t items) (hs : s.heap.IsSliceOf sl .none .none vs) (ps : IsPart vs (some (-1)))
    (h : Q (.ref s.heap.objs.size) { s with heap := s.heap.push { cls := .type "tuple", data := .seq items.toList.reverse.toArray } })
    (hsz : items.size ≤ sizeLine) : wpAny (model prog w) A (getItem (.ref t) (.ref sl)) Q E s := by
  have htake : sizeOk (.seq items.toList.reverse.toArray) := by
    show items.toList.reverse.toArray.size ≤ sizeLine
    rw [List.size_toArray, List.length_reverse, Array.length_toList]
    exact hsz
  obtain ⟨os, hos, hcs, hds⟩ := id hs
  have hTs : s.TypeIs (.ref sl) "slice" := ⟨os, hos, hcs⟩
  unfold getItem
  try with_reducible refine wpAny_holding ?_
  first | refine wpAny_bind (wpAny_pure ?_) | skip
  refine wpAny_bind (wpAny_sequenceKey ht.typeIs (by decide) ?_)
  refine wpAny_bind (wpAny_callSpecial?_slot (name := Str.ofString "__getitem__") ht.typeIs PyProof.Rows.slot_tuple_getitem
    (wpAny_call_entry PyProof.Rows.slot_tuple_getitem ht.typeIs entry_tuple_getitem ?_ (args_tuple_getitem _ _)))
  show wpAny _ _ (Builtin.Tuple.tupleItemsOf (.ref t) >>= _) _ _ s
  refine wpAny_bind (tupleItemsOf_ ht ?_)
  refine wpAny_bind (wpAny_typeOf hTs ?_)
  rw [if_pos (by decide)]
  refine wpAny_bind (sliceApplied_rev hs ps ?_)
  have hno : ¬ (((items.size : Int) - 1 == 0 && (-1 : Int) == 1 && items.size == items.size) = true) := by
    intro q
    rw [Bool.and_eq_true, Bool.and_eq_true] at q
    have q1 : (-1 : Int) = 1 := eq_of_beq q.1.2
    omega
  show wpAny _ _ (if ((items.size : Int) - 1 == 0 && (-1 : Int) == 1 && items.size == items.size) = true then _ else _) _ _ s
  rw [if_neg hno, pick_rev]
  first
    | exact wpAny_bind (m := Builtin.Tuple.tupleExact _) (wpAny_newObj_type (wpAny_pure ⟨_, rfl, wpAny_pure h⟩) htake)
    | exact wpAny_bind (m := Builtin.Tuple.tupleExact _) (wpAny_newObj_type (wpAny_bind (wpAny_pure (wpAny_pure ⟨_, rfl, wpAny_pure h⟩))) htake)
    | exact wpAny_bind (wpAny_bind (m := Builtin.Tuple.tupleExact _) (wpAny_newObj_type (wpAny_pure (wpAny_pure ⟨_, rfl, wpAny_pure h⟩)) htake))
    | exact wpAny_bind (wpAny_bind (m := Builtin.Tuple.tupleExact _) (wpAny_newObj_type (wpAny_pure ⟨_, rfl, wpAny_pure h⟩) htake))
end
/-- x[::-1]: a new list, a new tuple -/
def rRev (K : PySem.W.Frag) (x : V) (H : Hp) (Q : VK) : Prop := ∃ a xs, x = .ref a ∧ ((SqL K H a xs ∧ ∀ p, H p = none → Q (.ref p) (upd H p (.lst xs.reverse))) ∨ (SqT K H a xs ∧ NT H xs.reverse Q))
theorem pe_rev {X : Cx} {e : Expr} {te : TE} {k : Nat} {p1 p2 p3 pos : Pos} (he : PE X e te) : PE X (.Subscript e (.Slice none none (some (.UnaryOp .USub (.Constant (.int 1) k p1) p2)) p3) pos) (fun σ H Q => te σ H fun x H1 => rRev X.K x H1 Q) := by
  refine ⟨fun pins s σ H Q I h => ?_⟩
  refine Subscript_ (thn (he.run pins s σ H _ I h) fun v s1 ⟨x, H1, I1, r1, q1⟩ => ?_)
  obtain ⟨a, xs, ex, hx⟩ := q1
  subst ex
  cases r1
  have hst : PO X (some (.UnaryOp .USub (.Constant (.int 1) k p1) p2)) (tPart (tUn (rU fun i => .int (-i)) (tC (.int 1)))) := po_some (pe_un un_neg pe_int)
  refine wpAny_Slice (thn (po_none.run pins s1 σ H1 (fun o H2 => o = none ∧ H2 = H1) I1 ⟨rfl, rfl⟩) fun vl s2 ⟨l, H2, I2, pl, el, e2⟩ => ?_)
  subst el e2
  refine thn (po_none.run pins s2 σ H2 (fun o H3 => o = none ∧ H3 = H2) I2 ⟨rfl, rfl⟩) fun vu s3 ⟨u, H3, I3, pu, eu, e3⟩ => ?_
  subst eu e3
  refine thn (hst.run pins s3 σ H3 (fun o H4 => o = some (-1) ∧ H4 = H3) I3 ⟨1, rfl, -1, rfl, rfl, rfl⟩) fun vs s4 ⟨o, H4, I4, ps, eo, e4⟩ => ?_
  subst eo e4
  have I5 : Inv X pins σ H4 { s4 with heap := s4.heap.push { cls := .type "slice", data := .fields #[vl, vu, vs] } } := I4.kept (t' := s4.toks) fun b ob q => Heap.get?_push_of_some _ q
  show wpAny (model X.prog X.w) X.A (subscriptTail e (.Slice none none (some (.UnaryOp .USub (.Constant (.int 1) k p1) p2)) p3) (.ref a) (.ref s4.heap.objs.size)) (EP X pins σ Q) X.xe { s4 with heap := s4.heap.push { cls := .type "slice", data := .fields #[vl, vu, vs] } }
  rcases hx with ⟨hx, q⟩ | ⟨hx, q⟩
  · obtain ⟨its, r, ht, hz⟩ := I5.list hx
    have hlen := r.length
    refine tail_any (ops := [.ref a, .ref s4.heap.objs.size]) ht.isList.typeIs (PySem.slot_list_getitem.lookup) ?_ (by with_unfolding_all rfl)
    refine wpAny_getItem_list_slice ht.isList (Heap.IsSliceOf.new _ vl vu vs) pl pu ps (by decide) ?_ (by rw [List.size_toArray]; omega)
    rw [PySem.W.krv_pick]
    refine ⟨.ref _, _, I5.laid (t' := s4.toks) (o := .lst xs.reverse) (fun b ob q => Heap.get?_push_of_some _ q) (Nat.le_refl _) ?_, rfl, q _ (I5.hok.fresh (Nat.le_refl _))⟩
    exact ⟨by rw [List.length_reverse]; exact hz, _, 0, r.reverse, Heap.get?_push_size _ rfl⟩
  · obtain ⟨its, r, ht, hz⟩ := I5.tuple hx
    have hlen := r.length
    cases pl
    cases pu
    refine tail_any (ops := [.ref a, .ref s4.heap.objs.size]) ht.typeIs (PyProof.Rows.slot_tuple_getitem.lookup) ?_ (by with_unfolding_all rfl)
    refine getItem_tuple_rev ht (Heap.IsSliceOf.new _ .none .none vs) ps ?_ (by rw [List.size_toArray]; omega)
    exact nt_lay (tk := s4.toks) I5 (fun b ob q => Heap.get?_push_of_some _ q) (Nat.le_refl _) (Heap.get?_push_size _ rfl) rfl rfl rfl r.reverse (by rw [List.length_reverse]; exact hz) q
end Mi
/-! Mi, part D: operators and comparisons by values. -/
namespace Mi
open PySem PySem.Spec PyProof.Rows L2
section
variable {Z : Wd} {L : Nat} {G : Hp} {ι : List Addr} {m : Sto} {H : Hp} {Q : VK} {E : XK} {v u : V} {x y : W}
abbrev PV (Z : Wd) (L : Nat) (G : Hp) (ι : List Addr) (m : Sto) (H : Hp) (r : Res W) (Q : VK) (E : XK) : Prop := Post Z (RW Z) L G ι m H r Q E
theorem rw_int {i : Int} (h : RW Z G ι v (.dat (.int i))) : v = .int i := by
  cases h with
  | dat r => cases r; rfl
theorem rw_str {i : Str} (h : RW Z G ι v (.dat (.str i))) : v = .str i := by
  cases h with
  | dat r => cases r; rfl
theorem rw_bl {i : Bool} (h : RW Z G ι v (.dat (.bool i))) : v = .bl i := by
  cases h with
  | dat r => cases r; rfl
theorem rw_non (h : RW Z G ι v (.dat .none)) : v = .non := by
  cases h with
  | dat r => cases r; rfl
/-- a new frozen list, a new frozen tuple -/
theorem new_lst {ws : List W} {vs : List V} (S : RS Z G ι m H) (P : PV Z L G ι m H (.ok (mkL ws) m) Q E) (r : RWs Z G ι vs ws) (z : vs.length ≤ sizeLine) : ∀ p, H p = none → Q (.ref p) (upd H p (.lst vs)) := fun p hp =>
  P (.ref p) _ (upd G p (.lst vs)) ι (to_new S hp) (S.new hp z) (mkL_rw upd_same (r.mono (grow_new (S.free hp).1)))
theorem new_tupU {ws : List W} {vs : List V} (S : RS Z G ι m H) (P : PV Z L G ι m H (.ok (.tup ws) m) Q E) (r : RWs Z G ι vs ws) (z : vs.length ≤ sizeLine) : ∀ p, H p = none → Q (.ref p) (upd H p (.tup vs)) := fun p hp =>
  P (.ref p) _ (upd G p (.tup vs)) ι (to_new S hp) (S.new hp z) (.tup (SqT.of upd_same) (r.mono (grow_new (S.free hp).1)))
theorem new_tup {ws : List W} {vs : List V} (S : RS Z G ι m H) (P : PV Z L G ι m H (.ok (mkT ws) m) Q E) (r : RWs Z G ι vs ws) (z : vs.length ≤ sizeLine) : NT H vs Q := fun p o hp ho =>
  P (.ref p) _ (upd G p (.frz o (.tup vs))) ι (to_new S hp) (S.new hp z) (mkT_rw (.inl ⟨o, upd_same, ho⟩) (r.mono (grow_new (S.free hp).1)))

def opOf : BOp → Operator
  | .add => .Add
  | .sub => .Sub
  | .mul => .Mult
  | .fdiv => .FloorDiv
  | .mod => .Mod
  | .pow => .Pow
def rStr : R2 := fun x y H Q => ∃ i j, x = .str i ∧ y = .str j ∧ i.length + j.length ≤ sizeLine ∧ Q (.str (i ++ j)) H
def rBin (K : PySem.W.Frag) : BOp → R2
  | .add => fun x y H Q => rI0 (fun i j => .int (i + j)) x y H Q ∨ rStr x y H Q ∨ rCatF K x y H Q ∨ rCat x y H Q
  | .sub => rI0 fun i j => .int (i - j)
  | .mul => fun x y H Q => rI CMul (fun i j => .int (i * j)) x y H Q ∨ rRep x y H Q ∨ rRepT K x y H Q
  | .fdiv => rI CDiv fun i j => .int (i / j)
  | .mod => rI (fun _ j => 0 < j) fun i j => .int (i % j)
  | .pow => rI CPow fun i j => .int (i ^ j.toNat)
theorem bin_rule (X : Cx) : ∀ o : BOp, OpR X (binaryOp (opOf o)) (rBin X.K o)
  | .add => op_add.or (op_add_str.or (op_catF.or op_cat))
  | .sub => op_sub
  | .mul => op_mul.or (op_rep.or op_repT)
  | .fdiv => op_fdiv
  | .mod => op_mod
  | .pow => op_pow
theorem add_ok (S : RS Z G ι m H) (hv : RW Z G ι v x) (hu : RW Z G ι u y) (P : PV Z L G ι m H (lift (addW m x y) m) Q E) : rBin Z.K .add v u H Q := by
  obtain ⟨w, e, P⟩ := P.lift
  unfold addW at e
  split at e
  · cases e
    cases rw_int hv
    cases rw_int hu
    exact .inl ⟨_, _, rfl, rfl, P.here S (.dat (.int _))⟩
  · split at e
    · rename_i hz
      cases e
      cases rw_str hv
      cases rw_str hu
      exact .inr (.inl ⟨_, _, rfl, rfl, le_line hz, P.here S (.dat (.str _))⟩)
    · cases e
  · split at e
    · rename_i a b ea eb
      split at e
      · rename_i hz
        cases e
        obtain ⟨p, vs, rfl, h1, r1⟩ := tup_rw hv ea
        obtain ⟨q, us, rfl, h2, r2⟩ := tup_rw hu eb
        refine .inr (.inr (.inl ⟨p, q, vs, us, rfl, rfl, Same.sqt S.sub h1, Same.sqt S.sub h2, by rw [r1.length, r2.length]; exact le_line hz, fun e0 => ?_, fun e1 e0 => ?_, fun e1 e2 => ?_⟩))
        · subst e0
          cases r1
          exact P.here S hu
        · subst e0
          cases r2
          rw [if_neg (fun h => e1 (by cases r1 with | nil => rfl | cons _ _ => cases h))] at P
          exact P.here S hv
        · rw [if_neg (fun h => e1 (by cases r1 with | nil => rfl | cons _ _ => cases h)), if_neg (fun h => e2 (by cases r2 with | nil => rfl | cons _ _ => cases h))] at P
          exact new_tup S P (r1.append r2) (by rw [List.length_append, r1.length, r2.length]; exact le_line hz)
      · cases e
    · split at e
      · rename_i a b ea eb
        split at e
        · rename_i hz
          cases e
          obtain ⟨p, vs, rfl, h1, r1⟩ := lst_rw S hv ea
          obtain ⟨q, us, rfl, h2, r2⟩ := lst_rw S hu eb
          exact .inr (.inr (.inr ⟨p, q, vs, us, rfl, rfl, h1, h2, by rw [r1.length, r2.length]; exact le_line hz, new_lst S P (r1.append r2) (by rw [List.length_append, r1.length, r2.length]; exact le_line hz)⟩))
        · cases e
      · cases e
theorem flat_len {α : Type} (a : List α) : ∀ k : Nat, (List.replicate k a).flatten.length = k * a.length := fun k => by simp
theorem bin_ok (S : RS Z G ι m H) (hv : RW Z G ι v x) (hu : RW Z G ι u y) : ∀ {o : BOp}, PV Z L G ι m H (lift (binW o x y m) m) Q E → rBin Z.K o v u H Q
  | .add, P => add_ok S hv hu P
  | .sub, P => by
    obtain ⟨w, e, P⟩ := P.lift
    simp only [binW] at e
    split at e
    · cases e
      cases rw_int hv
      cases rw_int hu
      exact ⟨_, _, rfl, rfl, P.here S (.dat (.int _))⟩
    · cases e
  | .mul, P => by
    obtain ⟨w, e, P⟩ := P.lift
    simp only [binW] at e
    split at e
    · split at e
      · rename_i hz
        cases e
        cases rw_int hv
        cases rw_int hu
        refine .inl ⟨_, _, rfl, rfl, ?_, P.here S (.dat (.int _))⟩
        simp only [small, Bool.or_eq_true, Bool.and_eq_true, decide_eq_true_eq] at hz
        exact hz
      · cases e
    · split at e
      · rename_i a ea
        split at e
        · rename_i hz
          cases e
          cases rw_int hu
          obtain ⟨p, vs, rfl, h1, r1⟩ := lst_rw S hv ea
          have hm : ∀ j : Int, j ≤ 1000 → vs.length * j.toNat ≤ sizeLine := fun j hj => Nat.le_trans (Nat.mul_le_mul (show vs.length ≤ 1000 by rw [r1.length]; exact hz.2.2) (show j.toNat ≤ 1000 by omega)) (by decide)
          refine .inr (.inl ⟨p, _, vs, rfl, rfl, h1, by omega, by omega, hm _ hz.2.1, new_lst S P (r1.rep _) ?_⟩)
          rw [flat_len, Nat.mul_comm]
          exact hm _ hz.2.1
        · cases e
      · rename_i a ea1 ea
        split at e
        · rename_i hz
          cases e
          cases rw_int hu
          obtain ⟨p, vs, rfl, h1, r1⟩ := tup_rw hv ea
          have hm : ∀ j : Int, j ≤ 1000 → vs.length * j.toNat ≤ sizeLine := fun j hj => Nat.le_trans (Nat.mul_le_mul (show vs.length ≤ 1000 by rw [r1.length]; exact hz.2.2.1) (show j.toNat ≤ 1000 by omega)) (by decide)
          refine .inr (.inr ⟨p, _, vs, rfl, rfl, Same.sqt S.sub h1, fun e0 => hz.2.2.2 (by rw [← r1.length, e0]; rfl), hz.1, hz.2.1, by rw [r1.length]; exact hz.2.2.1, new_tupU S P (r1.rep _) ?_⟩)
          rw [flat_len, Nat.mul_comm]
          exact hm _ hz.2.1
        · cases e
      · cases e
    · cases e
  | .fdiv, P => by
    obtain ⟨w, e, P⟩ := P.lift
    simp only [binW] at e
    split at e
    · split at e
      · rename_i hz
        cases e
        cases rw_int hv
        cases rw_int hu
        exact ⟨_, _, rfl, rfl, hz, P.here S (.dat (.int _))⟩
      · cases e
    · cases e
  | .mod, P => by
    obtain ⟨w, e, P⟩ := P.lift
    simp only [binW] at e
    split at e
    · split at e
      · rename_i hz
        cases e
        cases rw_int hv
        cases rw_int hu
        exact ⟨_, _, rfl, rfl, hz, P.here S (.dat (.int _))⟩
      · cases e
    · cases e
  | .pow, P => by
    obtain ⟨w, e, P⟩ := P.lift
    simp only [binW] at e
    split at e
    · split at e
      · rename_i hz
        cases e
        cases rw_int hv
        cases rw_int hu
        exact ⟨_, _, rfl, rfl, ⟨hz.1, by omega, hz.2.2⟩, P.here S (.dat (.int _))⟩
      · cases e
    · cases e

/-! ### comparisons -/
abbrev R2b := V → V → Hp → (Bool → Hp → Prop) → Prop
def opC : COp → CmpOp
  | .eq => .Eq
  | .ne => .NotEq
  | .lt => .Lt
  | .le => .LtE
  | .gt => .Gt
  | .ge => .GtE
  | .isn => .Is
  | .notn => .IsNot
  | .isin => .In
  | .notin => .NotIn
def rInS (neg : Bool) : R2 := fun x y H Q => ∃ i j, x = .str i ∧ y = .str j ∧ Q (.bl (if neg then !hasS i j else hasS i j)) H
def rInK (K : PySem.W.Frag) (w : World) (neg : Bool) : R2 := fun x y H Q => ∃ z d es n r, KDict K w d es n ∧ x = .str z ∧ y = .ref d ∧ PySem.W.nsIn K d z = some r ∧ Q (.bl (if neg then !r.isSome else r.isSome)) H
theorem op_inK {X : Cx} : OpR X (compareOp .In) (rInK X.K X.w false) := by
  rintro pins s σ H x y v u Q I rx ry ⟨z, d, es, n, r, D, rfl, rfl, h, q⟩
  exact op_in_kd D pins s σ H _ _ v u Q I rx ry ⟨z, r, rfl, rfl, h, q⟩
theorem op_notInK {X : Cx} : OpR X (compareOp .NotIn) (rInK X.K X.w true) := by
  rintro pins s σ H x y v u Q I rx ry ⟨z, d, es, n, r, D, rfl, rfl, h, q⟩
  exact op_notIn_kd D pins s σ H _ _ v u Q I rx ry ⟨z, r, rfl, rfl, h, q⟩
def rInT (K : PySem.W.Frag) (neg : Bool) : R2 := fun x y H Q => ∃ d ds, Dp K H x d ∧ Dp K H y (.tuple ds) ∧ SeqAt.shaped d = true ∧ SeqAt.shaped (.tuple ds) = true ∧ Q (.bl (if neg then !(ds.any fun z => PyData.eqv z d) else ds.any fun z => PyData.eqv z d)) H
theorem room_tup {A : Around} {d : PyData} {ds : List PyData} (h : SeqAt.shaped d = true) (hu : A.units + 65 < cLine) : A.units + 1 + min (PyData.depthAll ds) d.depth < cLine := by
  have h1 := SeqAt.depth_of_shaped h
  have h2 : min (PyData.depthAll ds) d.depth ≤ d.depth := Nat.min_le_right _ _
  omega
theorem op_inT {X : Cx} (hu : X.A.units + 65 < cLine) : OpR X (compareOp .In) (rInT X.K false) := by
  rintro pins s σ H x y v u Q I rx ry ⟨d, ds, hd, he, sd, se, q⟩
  obtain ⟨as, r1⟩ := Dp.reads I d x v hd rx
  obtain ⟨bs, r2⟩ := Dp.reads I (.tuple ds) y u he ry
  exact SeqAt.in_tuple_reads r2 r1 (SeqAt.canLay_of_shaped se) (SeqAt.canLay_of_shaped sd) (room_tup sd hu) ⟨.bl _, H, I, rfl, q⟩
theorem op_notInT {X : Cx} (hu : X.A.units + 65 < cLine) : OpR X (compareOp .NotIn) (rInT X.K true) := by
  rintro pins s σ H x y v u Q I rx ry ⟨d, ds, hd, he, sd, se, q⟩
  obtain ⟨as, r1⟩ := Dp.reads I d x v hd rx
  obtain ⟨bs, r2⟩ := Dp.reads I (.tuple ds) y u he ry
  exact SeqAt.notIn_tuple_reads r2 r1 (SeqAt.canLay_of_shaped se) (SeqAt.canLay_of_shaped sd) (room_tup sd hu) ⟨.bl _, H, I, rfl, q⟩
/-- two tuples of which one is empty -/
def rEqE (K : PySem.W.Frag) : R2 := fun x y H Q => ∃ a b xs ys, x = .ref a ∧ y = .ref b ∧ SqT K H a xs ∧ SqT K H b ys ∧ (xs = [] ∨ ys = []) ∧ Q (.bl (xs.isEmpty && ys.isEmpty)) H
theorem op_eqE {X : Cx} (hu : X.A.units < cLine) : OpR X (compareOp .Eq) (rEqE X.K) := by
  rintro pins s σ H x y v u Q I rx ry ⟨a, b, xs, ys, rfl, rfl, ha, hb, he, q⟩
  cases rx
  cases ry
  obtain ⟨its, r1, p1, _⟩ := I.tuple ha
  obtain ⟨its2, r2, p2, _⟩ := I.tuple hb
  have l1 := r1.length
  have l2 := r2.length
  refine SeqAt.eq_tupleAt (e := fun _ => true) p1 p2 hu (fun j h1 h2 => ?_) ?_
  · exfalso
    rw [List.size_toArray] at h1 h2
    rcases he with rfl | rfl
    · simp at l1
      omega
    · simp at l2
      omega
  · have e : ((List.range (min its.toArray.size its2.toArray.size)).all (fun _ => true) && its.toArray.size == its2.toArray.size) = (xs.isEmpty && ys.isEmpty) := by
      rw [show ((List.range (min its.toArray.size its2.toArray.size)).all fun _ => true) = true from List.all_eq_true.mpr fun _ _ => rfl, Bool.true_and, List.size_toArray, List.size_toArray, ← l1, ← l2]
      rcases he with rfl | rfl
      · cases ys <;> simp
      · cases xs <;> simp
    rw [e]
    exact ⟨.bl _, H, I, rfl, q⟩
def rCmp (K : PySem.W.Frag) (w : World) : COp → R2
  | .eq => fun x y H Q => rEqD K x y H Q ∨ rEqE K x y H Q
  | .ne => rNeD K
  | .lt => rI0 fun i j => .bl (decide (i < j))
  | .le => rI0 fun i j => .bl (decide (i ≤ j))
  | .gt => rI0 fun i j => .bl (decide (j < i))
  | .ge => rI0 fun i j => .bl (decide (j ≤ i))
  | .isn => fun x y H Q => y = .non ∧ Q (.bl (decide (x = .non))) H
  | .notn => fun x y H Q => y = .non ∧ Q (.bl (!decide (x = .non))) H
  | .isin => fun x y H Q => rInS false x y H Q ∨ rInD K x y H Q ∨ rInT K false x y H Q ∨ rInK K w false x y H Q
  | .notin => fun x y H Q => rInS true x y H Q ∨ rNotInD K x y H Q ∨ rInT K true x y H Q ∨ rInK K w true x y H Q
theorem cmp_rule (X : Cx) (hu : X.A.units + 65 < cLine) : ∀ o : COp, OpR X (compareOp (opC o)) (rCmp X.K X.w o)
  | .eq => (op_eqD (by omega)).or (op_eqE (by omega))
  | .ne => op_neD (by omega)
  | .lt => op_lt
  | .le => op_le
  | .gt => op_gt
  | .ge => op_ge
  | .isn => op_isN
  | .notn => op_notN
  | .isin => op_in_str.or ((op_inD hu).or ((op_inT hu).or op_inK))
  | .notin => op_notIn_str.or ((op_notInD hu).or ((op_notInT hu).or op_notInK))
abbrev PB (Z : Wd) (L : Nat) (G : Hp) (ι : List Addr) (m : Sto) (H : Hp) (r : Res Bool) (Q : Bool → Hp → Prop) (E : XK) : Prop := Post Z (fun _ _ (a b : Bool) => a = b) L G ι m H r Q E
/-- x in y, to its answer -/
theorem in_ok (S : RS Z G ι m H) (hv : RW Z G ι v x) (hu : RW Z G ι u y) {b : Bool} (e : inW m x y = some b) :
    (∃ i j, v = .str i ∧ u = .str j ∧ b = hasS i j) ∨ (∃ d ds, Dp Z.K H v d ∧ Dp Z.K H u (.list ds) ∧ SeqAt.shaped d = true ∧ SeqAt.shaped (.list ds) = true ∧ b = ds.any fun z => PyData.eqv z d) ∨
    (∃ d ds, Dp Z.K H v d ∧ Dp Z.K H u (.tuple ds) ∧ SeqAt.shaped d = true ∧ SeqAt.shaped (.tuple ds) = true ∧ b = ds.any fun z => PyData.eqv z d) ∨
    ∃ z d es n r, KDict Z.K Z.w d es n ∧ v = .str z ∧ u = .ref d ∧ PySem.W.nsIn Z.K d z = some r ∧ b = r.isSome := by
  unfold inW at e
  split at e
  · cases e
    exact .inl ⟨_, _, rw_str hv, rw_str hu, rfl⟩
  · cases e
    cases rw_str hv
    rename_i a kvs
    cases hu with
    | tab uf vf h1 h2 h3 h4 =>
      cases q : kvs.lookup a with
      | none => exact .inr (.inr (.inr ⟨_, _, _, _, _, h1, rfl, rfl, h2 _ q, rfl⟩))
      | some w => exact .inr (.inr (.inr ⟨_, _, _, _, _, h1, rfl, rfl, (h3 _ _ q).1, rfl⟩))
  · split at e
    · rename_i d es e1 e2
      split at e
      · rename_i hz
        cases e
        rw [Bool.and_eq_true] at hz
        exact .inr (.inl ⟨d, es, dat_dp S hv e1 (SeqAt.canLay_of_shaped hz.1), dat_dp S hu e2 (SeqAt.canLay_of_shaped hz.2), hz.1, hz.2, rfl⟩)
      · cases e
    · rename_i d es e1 e2
      split at e
      · rename_i hz
        cases e
        rw [Bool.and_eq_true] at hz
        exact .inr (.inr (.inl ⟨d, es, dat_dp S hv e1 (SeqAt.canLay_of_shaped hz.1), dat_dp S hu e2 (SeqAt.canLay_of_shaped hz.2), hz.1, hz.2, rfl⟩))
      · cases e
    · cases e
theorem eq_ok (S : RS Z G ι m H) (hv : RW Z G ι v x) (hu : RW Z G ι u y) {b : Bool} (e : eqW m x y = some b) : ∃ d e, Dp Z.K H v d ∧ Dp Z.K H u e ∧ SeqAt.shaped d = true ∧ SeqAt.shaped e = true ∧ b = PyData.eqv d e := by
  unfold eqW at e
  split at e
  · rename_i d f e1 e2
    split at e
    · rename_i hz
      cases e
      rw [Bool.and_eq_true] at hz
      exact ⟨d, f, dat_dp S hv e1 (SeqAt.canLay_of_shaped hz.1), dat_dp S hu e2 (SeqAt.canLay_of_shaped hz.2), hz.1, hz.2, rfl⟩
    · cases e
  · cases e
theorem isNon_rw (hv : RW Z G ι v x) : decide (v = V.non) = isNon x := by
  cases hv with
  | dat r => cases r <;> simp [isNon]
  | _ => simp [isNon]
/-- a comparison, from what its answer is to reach -/
theorem cmp_ok (S : RS Z G ι m H) (hv : RW Z G ι v x) (hu : RW Z G ι u y) : ∀ {o : COp} {b : Bool}, cmpW o x y m = some b → Q (.bl b) H → rCmp Z.K Z.w o v u H Q
  | .eq, b, e, q => by
    have e : eqX m x y = some b := e
    have old : eqW m x y = some b → rEqD Z.K v u H Q ∨ rEqE Z.K v u H Q := fun e => by
      obtain ⟨d, f, h1, h2, h3, h4, rfl⟩ := eq_ok S hv hu e
      exact .inl ⟨d, f, h1, h2, h3, h4, q⟩
    unfold eqX at e
    split at e
    · rename_i xs ys e1 e2
      split at e
      · rename_i hz
        cases e
        obtain ⟨a, vs, rfl, ha, r1⟩ := tup_rw hv e1
        obtain ⟨c, us, rfl, hc, r2⟩ := tup_rw hu e2
        have z1 : vs.isEmpty = xs.isEmpty := by cases r1 <;> rfl
        have z2 : us.isEmpty = ys.isEmpty := by cases r2 <;> rfl
        refine .inr ⟨a, c, vs, us, rfl, rfl, Same.sqt S.sub ha, Same.sqt S.sub hc, ?_, by rw [z1, z2]; exact q⟩
        rw [← z1, ← z2, Bool.or_eq_true] at hz
        exact hz.imp List.isEmpty_iff.mp List.isEmpty_iff.mp
      · exact old e
    · exact old e
  | .ne, b, e, q => by
    have e : (eqW m x y).map (!·) = some b := e
    cases e1 : eqW m x y with
    | none => rw [e1] at e; cases e
    | some c =>
      rw [e1] at e
      cases e
      obtain ⟨d, f, h1, h2, h3, h4, rfl⟩ := eq_ok S hv hu e1
      exact ⟨d, f, h1, h2, h3, h4, q⟩
  | .lt, b, e, q => by
    simp only [cmpW] at e
    split at e
    · cases e
      exact ⟨_, _, rw_int hv, rw_int hu, q⟩
    · cases e
  | .le, b, e, q => by
    simp only [cmpW] at e
    split at e
    · cases e
      exact ⟨_, _, rw_int hv, rw_int hu, q⟩
    · cases e
  | .gt, b, e, q => by
    simp only [cmpW] at e
    split at e
    · cases e
      exact ⟨_, _, rw_int hv, rw_int hu, q⟩
    · cases e
  | .ge, b, e, q => by
    simp only [cmpW] at e
    split at e
    · cases e
      exact ⟨_, _, rw_int hv, rw_int hu, q⟩
    · cases e
  | .isn, b, e, q => by
    simp only [cmpW] at e
    split at e
    · cases e
      refine ⟨rw_non hu, ?_⟩
      rw [isNon_rw hv]
      exact q
    · cases e
  | .notn, b, e, q => by
    simp only [cmpW] at e
    split at e
    · cases e
      refine ⟨rw_non hu, ?_⟩
      rw [isNon_rw hv]
      exact q
    · cases e
  | .isin, b, e, q => by
    have e : inW m x y = some b := e
    rcases in_ok S hv hu e with ⟨i, j, h1, h2, rfl⟩ | ⟨d, ds, h1, h2, h3, h4, rfl⟩ | ⟨d, ds, h1, h2, h3, h4, rfl⟩ | ⟨z, d, es, n, r, h1, h2, h3, h4, rfl⟩
    · exact .inl ⟨i, j, h1, h2, q⟩
    · exact .inr (.inl ⟨d, ds, h1, h2, h3, h4, q⟩)
    · exact .inr (.inr (.inl ⟨d, ds, h1, h2, h3, h4, q⟩))
    · exact .inr (.inr (.inr ⟨z, d, es, n, r, h1, h2, h3, h4, q⟩))
  | .notin, b, e, q => by
    have e : (inW m x y).map (!·) = some b := e
    cases e1 : inW m x y with
    | none => rw [e1] at e; cases e
    | some c =>
      rw [e1] at e
      cases e
      rcases in_ok S hv hu e1 with ⟨i, j, h1, h2, rfl⟩ | ⟨d, ds, h1, h2, h3, h4, rfl⟩ | ⟨d, ds, h1, h2, h3, h4, rfl⟩ | ⟨z, d, es, n, r, h1, h2, h3, h4, rfl⟩
      · exact .inl ⟨i, j, h1, h2, q⟩
      · exact .inr (.inl ⟨d, ds, h1, h2, h3, h4, q⟩)
      · exact .inr (.inr (.inl ⟨d, ds, h1, h2, h3, h4, q⟩))
      · exact .inr (.inr (.inr ⟨z, d, es, n, r, h1, h2, h3, h4, q⟩))
end
end Mi
/-! Mi, part E: built-in functions, subscripts, slices, truth by values. -/
namespace Mi
open PySem PySem.Spec PyProof.Rows L2
section
variable {X : Cx} {pins : List (Addr × Obj)} {σ : L2.St} {H : Hp} {s : Shared}
/-- the interpreter's table of modules is of the written part -/
def SysK (K : PySem.W.Frag) : Prop := ∃ o, K.lookup sysModules = some o
theorem sys_ne (I : Inv X pins σ H s) (hs : SysK X.K) {a : Addr} {o : HO} (h : H a = some o) : a ≠ sysModules := fun e => by
  obtain ⟨ob, hk⟩ := hs
  have h1 := (I.bs _ _ (I.ok.mod.kin _ _ hk)).2
  rw [← e, h] at h1
  cases h1
mutual
theorem RU.reads (I : Inv X pins σ H s) : ∀ {v : V} {d : PyData}, RU X.K H v d → ∀ {u : Value}, RelV v u → ∃ as, Reads s.heap u d as ∧ ∀ b ∈ as, ∃ o, H b = some o
  | _, _, .non, _, r => by
    cases r
    exact ⟨_, Reads.none, fun _ h => nomatch h⟩
  | _, _, .bl b, _, r => by
    cases r
    exact ⟨_, Reads.bool b, fun _ h => nomatch h⟩
  | _, _, .int i, _, r => by
    obtain ⟨t, rfl⟩ := r
    exact ⟨_, Reads.int i t, fun _ h => nomatch h⟩
  | _, _, .str x, _, r => by
    obtain ⟨t, rfl⟩ := r
    exact ⟨_, Reads.str x t, fun _ h => nomatch h⟩
  | _, _, .lst h q, _, r => by
    cases r
    obtain ⟨its, rv, ⟨o, n, ho, hc, _, hd⟩, _⟩ := I.list (SqL.of h)
    obtain ⟨as, hr, ht⟩ := RUs.reads I q rv
    refine ⟨_, Reads.list ho hc hd hr, fun b hb => ?_⟩
    rcases List.mem_cons.mp hb with rfl | hb
    · exact ⟨_, h⟩
    · exact ht b hb
  | _, _, .tup h q, _, r => by
    cases r
    obtain ⟨its, rv, ⟨o, ho, hc, n, hd⟩, _⟩ := I.tuple h
    obtain ⟨as, hr, ht⟩ := RUs.reads I q rv
    exact ⟨_, Reads.tuple ho hc hd hr, ht⟩
  | _, _, .dic h, _, r => by
    cases r
    obtain ⟨_, _, vs, rk, o, es, ep, h1, h2, h3, h4⟩ := I.hok _ _ h
    cases rk
    have h5 : es.toList = [] := by
      obtain ⟨_, hp, _⟩ := h4
      cases q : es.toList with
      | nil => rfl
      | cons e r => rw [q] at hp; cases hp
    refine ⟨_, Reads.dict (kvs := []) (as := []) (bs := []) h1 h2.1 h3 (by rw [h5]; exact .nil) (by rw [h5]; exact .nil), fun b hb => ?_⟩
    rcases List.mem_cons.mp hb with rfl | hb
    · exact ⟨_, h⟩
    · cases hb
theorem RUs.reads (I : Inv X pins σ H s) : ∀ {vs : List V} {ds : List PyData}, RUs X.K H vs ds → ∀ {us : List Value}, Vals vs us → ∃ as, ReadsAll s.heap us ds as ∧ ∀ b ∈ as, ∃ o, H b = some o
  | _, _, .nil, _, r => by
    cases r
    exact ⟨_, ReadsAll.nil, fun _ h => nomatch h⟩
  | _, _, .cons h q, _, r => by
    cases r with
    | cons r1 r2 =>
      obtain ⟨as, h1, t1⟩ := RU.reads I h r1
      obtain ⟨bs, h2, t2⟩ := RUs.reads I q r2
      exact ⟨_, ReadsAll.cons h1 h2, fun b hb => (List.mem_append.mp hb).elim (t1 b) (t2 b)⟩
end
/-- repr(x) of data -/
def rRepr (K : PySem.W.Frag) : List V → Hp → VK → Prop := fun vs H Q => ∃ v d, vs = [v] ∧ RU K H v d ∧ showOk d = true ∧ Q (.str d.shown) H
theorem call_reprD (hg : X.A.guards = some []) (hu : X.A.units + 64 < cLine) (hs : SysK X.K) : CallR X (.builtin "repr") (rRepr X.K) := by
  rintro pins s σ H vs us Q I r ⟨v, d, rfl, hd, ho, q⟩
  obtain ⟨u, rfl, ru⟩ := vals1 r
  simp only [showOk, Bool.and_eq_true, decide_eq_true_eq] at ho
  obtain ⟨⟨h1, h2⟩, h3⟩ := ho
  have hsz : d.shown.length ≤ sizeLine := le_line h3
  have leaf : ∀ (w : Value) (k : Nat), RelV (.str d.shown) w → EP X pins σ Q w { s with toks := k } := fun w k rw' => ⟨_, H, I.tok k, rw', q⟩
  cases hd with
  | non => cases ru; exact P.repr_of_none (leaf _ _ ⟨_, rfl⟩)
  | bl b => cases ru; exact P.repr_of_bool (leaf _ _ ⟨_, rfl⟩)
  | int i =>
    obtain ⟨t, rfl⟩ := ru
    exact P.repr_of_int (by simpa [PyData.showable] using h1) (leaf _ _ ⟨_, rfl⟩)
  | str x =>
    obtain ⟨t, rfl⟩ := ru
    exact P.repr_of_str (leaf _ _ ⟨_, rfl⟩) hsz
  | lst h q' =>
    obtain ⟨as, hr, ht⟩ := RU.reads I (.lst h q') ru
    cases ru
    exact repr_of_reads' hr h1 (fun _ hb => (ht _ hb).elim fun o e => sys_ne I hs e rfl) hg (by omega) (fun _ _ e => e) (fun h' u tk hk => ⟨.str _, H, I.kept hk, ⟨_, rfl⟩, q⟩) hsz
  | tup h q' =>
    obtain ⟨as, hr, ht⟩ := RU.reads I (.tup h q') ru
    cases ru
    exact repr_of_reads' hr h1 (fun _ hb => (ht _ hb).elim fun o e => sys_ne I hs e rfl) hg (by omega) (fun _ _ e => e) (fun h' u tk hk => ⟨.str _, H, I.kept hk, ⟨_, rfl⟩, q⟩) hsz
  | dic h =>
    obtain ⟨as, hr, ht⟩ := RU.reads I (.dic h) ru
    cases ru
    exact repr_of_reads' hr h1 (fun _ hb => (ht _ hb).elim fun o e => sys_ne I hs e rfl) hg (by omega) (fun _ _ e => e) (fun h' u tk hk => ⟨.str _, H, I.kept hk, ⟨_, rfl⟩, q⟩) hsz
end

/-! ### built-in functions -/
def biV : Bi → Value
  | .len => .builtin "len"
  | .all => .builtin "all"
  | .any => .builtin "any"
  | .tuple => .type "tuple"
  | .str => .type "str"
  | .int => .type "int"
  | .abs => .builtin "abs"
  | .max => .builtin "max"
  | .min => .builtin "min"
  | .divmod => .builtin "divmod"
  | .repr => .builtin "repr"
abbrev RC := List V → Hp → VK → Prop
def rBi (K : PySem.W.Frag) : Bi → RC
  | .len => fun xs H Q => ∃ x n, xs = [x] ∧ LenV K x H n ∧ Q (.int n) H
  | .all => rAll K
  | .any => rAny K
  | .tuple => fun xs H Q => ∃ p ys, xs = [.ref p] ∧ ((SqL K H p ys ∧ NT H ys Q) ∨ (SqT K H p ys ∧ Q (.ref p) H))
  | .str => fun xs H Q => (∃ i, xs = [.int i] ∧ i.natAbs.log2 < 1920 ∧ Q (.str (toString i)) H) ∨ ∃ a, xs = [.str a] ∧ Q (.str a) H
  | .int => fun xs H Q => ∃ a n, xs = [.str a] ∧ PySem.intText? a = some n ∧ a.length ≤ 640 ∧ Q (.int n) H
  | .abs => fun xs H Q => ∃ i, xs = [.int i] ∧ Q (.int (if i < 0 then -i else i)) H
  | .max => fun xs H Q => ∃ i j, xs = [.int i, .int j] ∧ Q (.int (if j > i then j else i)) H
  | .min => fun xs H Q => ∃ i j, xs = [.int i, .int j] ∧ Q (.int (if j < i then j else i)) H
  | .divmod => fun xs H Q => ∃ i j, xs = [.int i, .int j] ∧ CDiv i j ∧ ∀ p, H p = none → Q (.ref p) (upd H p (.tup [.int (i / j), .int (i % j)]))
  | .repr => rRepr K
theorem bi_rule (X : Cx) (hc : X.calm = true) (hg : X.A.guards = some []) (hu : X.A.units + 64 < cLine) (hs : SysK X.K) : ∀ f : Bi, CallR X (biV f) (rBi X.K f)
  | .len => call_len
  | .all => cr_all hc
  | .any => cr_any hc
  | .tuple => call_tupleF
  | .str => call_str_int.or SkE.call_str_str
  | .int => call_int_str
  | .abs => call_abs
  | .max => call_max2 hc
  | .min => call_min2 hc
  | .divmod => call_divmod
  | .repr => call_reprD hg hu hs
theorem bi_rule' (X : Cx) (f : Bi) (hc : (f = .all ∨ f = .any ∨ f = .max ∨ f = .min) → X.calm = true) (hg : X.A.guards = some []) (hu : X.A.units + 64 < cLine) (hs : SysK X.K) : CallR X (biV f) (rBi X.K f) := match f, hc with
  | .len, _ => call_len
  | .all, hc => cr_all (hc (.inl rfl))
  | .any, hc => cr_any (hc (.inr (.inl rfl)))
  | .tuple, _ => call_tupleF
  | .str, _ => call_str_int.or SkE.call_str_str
  | .int, _ => call_int_str
  | .abs, _ => call_abs
  | .max, hc => call_max2 (hc (.inr (.inr (.inl rfl))))
  | .min, hc => call_min2 (hc (.inr (.inr (.inr rfl))))
  | .divmod, _ => call_divmod
  | .repr, _ => call_reprD hg hu hs
section
variable {Z : Wd} {L : Nat} {G : Hp} {ι : List Addr} {m : Sto} {H : Hp} {Q : VK} {E : XK} {v u : V} {x y : W}
theorem rws1 {vs : List V} {w : W} (r : RWs Z G ι vs [w]) : ∃ v, vs = [v] ∧ RW Z G ι v w := by
  cases r with
  | cons h t => cases t; exact ⟨_, rfl, h⟩
theorem rws2 {vs : List V} {w z : W} (r : RWs Z G ι vs [w, z]) : ∃ v u, vs = [v, u] ∧ RW Z G ι v w ∧ RW Z G ι u z := by
  cases r with
  | cons h t =>
    obtain ⟨u, rfl, h2⟩ := rws1 t
    exact ⟨_, _, rfl, h, h2⟩
theorem boolAll_rw : ∀ {ws : List W} {bs : List Bool} {vs : List V}, boolAll ws = some bs → RWs Z G ι vs ws → vs = bs.map V.bl
  | [], bs, vs, e, r => by
    cases e
    cases r
    rfl
  | w :: r, bs, vs, e, q => by
    unfold boolAll at e
    split at e
    · rename_i b cs e1
      cases e
      cases q with
      | cons h t =>
        rw [rw_bl h, boolAll_rw e1 t]
        rfl
    · cases e
theorem strAll_rw : ∀ {ws : List W} {bs : List Str} {vs : List V}, strAll ws = some bs → RWs Z G ι vs ws → vs = bs.map V.str
  | [], bs, vs, e, r => by
    cases e
    cases r
    rfl
  | w :: r, bs, vs, e, q => by
    unfold strAll at e
    split at e
    · rename_i b cs e1
      cases e
      cases q with
      | cons h t =>
        rw [rw_str h, strAll_rw e1 t]
        rfl
    · cases e
theorem len_ok (S : RS Z G ι m H) (hv : RW Z G ι v x) {n : Nat} (e : lenW m x = some n) : LenV Z.K v H n := by
  unfold lenW at e
  split at e
  · split at e
    · rename_i hz
      cases e
      cases rw_str hv
      exact ⟨le_line hz, rfl⟩
    · cases e
  · cases e
    cases hv with
    | scr h => exact .inl ⟨_, S.sub.seq h, by rw [List.length_map]⟩
  · cases e1 : seqOf m x with
    | none => rw [e1] at e; cases e
    | some ws =>
      rw [e1] at e
      cases e
      obtain ⟨a, vs, rfl, h, r⟩ := seq_rw S hv e1
      rcases h with h | h
      · exact .inl ⟨vs, h, r.length.symm⟩
      · exact .inr ⟨vs, h, r.length.symm⟩
theorem tru_okW (S : RS Z G ι m H) (hv : RW Z G ι v x) {b : Bool} (e : tru m x = some b) : TruV Z.K v H b := by
  unfold tru at e
  split at e
  · cases e
    cases rw_non hv
    rfl
  · cases e
    cases rw_bl hv
    rfl
  · cases e
    cases rw_int hv
    rfl
  · split at e
    · rename_i x hz
      cases e
      cases rw_str hv
      refine ⟨le_line hz, ?_⟩
      cases q : x.length with
      | zero => rfl
      | succ n =>
        have h1 : ((n + 1 : Nat) != 0) = true := by simp
        have h2 : (((n + 1 : Nat) : Int) != 0) = true := by
          rw [bne_iff_ne]
          omega
        rw [h1, h2]
    · cases e
  · cases e1 : seqOf m x with
    | none => rw [e1] at e; cases e
    | some ws =>
      rw [e1] at e
      cases e
      obtain ⟨a, vs, rfl, h, r⟩ := seq_rw S hv e1
      have z : (!ws.isEmpty) = !vs.isEmpty := by cases r <;> rfl
      show TruV Z.K (V.ref a) H (!ws.isEmpty)
      rw [z]
      rcases h with h | h
      · exact .inl ⟨vs, h, rfl⟩
      · exact .inr (.inl ⟨vs, h, rfl⟩)
theorem bi_ok (S : RS Z G ι m H) {vs : List V} {ws : List W} (r : RWs Z G ι vs ws) : ∀ {f : Bi}, PV Z L G ι m H (lift (biW f ws m) m) Q E → rBi Z.K f vs H Q
  | f, P => by
    replace P := P.lift
    obtain ⟨w, e, P⟩ := P
    unfold biW at e
    split at e
    · -- len
      obtain ⟨v, rfl, h⟩ := rws1 r
      cases e1 : lenW m _ with
      | none => rw [e1] at e; cases e
      | some n =>
        rw [e1] at e
        cases e
        exact ⟨v, n, rfl, len_ok S h e1, P.here S (.dat (.int _))⟩
    · -- all
      obtain ⟨v, rfl, h⟩ := rws1 r
      obtain ⟨zs, e1, e⟩ := Option.bind_eq_some_iff.mp e
      obtain ⟨bs, e2, e⟩ := Option.map_eq_some_iff.mp e
      subst e
      obtain ⟨a, us, rfl, h1, r1⟩ := lst_rw S h e1
      rw [boolAll_rw e2 r1] at h1
      exact ⟨a, bs, rfl, SqL.of h1, P.here S (.dat (.bl _))⟩
    · -- any
      obtain ⟨v, rfl, h⟩ := rws1 r
      obtain ⟨zs, e1, e⟩ := Option.bind_eq_some_iff.mp e
      obtain ⟨bs, e2, e⟩ := Option.map_eq_some_iff.mp e
      subst e
      obtain ⟨a, us, rfl, h1, r1⟩ := lst_rw S h e1
      rw [boolAll_rw e2 r1] at h1
      exact ⟨a, bs, rfl, SqL.of h1, P.here S (.dat (.bl _))⟩
    · -- tuple
      obtain ⟨v, rfl, h⟩ := rws1 r
      split at e
      · rename_i zs e1
        cases e
        obtain ⟨a, us, rfl, h1, r1⟩ := tup_rw h e1
        exact ⟨a, us, rfl, .inr ⟨Same.sqt S.sub h1, P.here S h⟩⟩
      · obtain ⟨zs, e1, e⟩ := Option.map_eq_some_iff.mp e
        subst e
        obtain ⟨a, us, rfl, h1, r1⟩ := lst_rw S h e1
        exact ⟨a, us, rfl, .inl ⟨SqL.of h1, new_tup S P r1 (S.lsz h1)⟩⟩
    · -- str
      obtain ⟨v, rfl, h⟩ := rws1 r
      split at e
      · cases e
        cases rw_str h
        exact .inr ⟨_, rfl, P.here S (.dat (.str _))⟩
      · split at e
        · rename_i hz
          cases e
          cases rw_int h
          exact .inl ⟨_, rfl, hz, P.here S (.dat (.str _))⟩
        · cases e
      · cases e
    · -- int
      obtain ⟨v, rfl, h⟩ := rws1 r
      obtain ⟨n, e1, e⟩ := Option.map_eq_some_iff.mp e
      subst e
      split at e1
      · rename_i hz
        cases rw_str h
        exact ⟨_, n, rfl, e1, hz, P.here S (.dat (.int _))⟩
      · cases e1
    · -- abs
      obtain ⟨v, rfl, h⟩ := rws1 r
      cases e
      cases rw_int h
      exact ⟨_, rfl, P.here S (.dat (.int _))⟩
    · -- max
      obtain ⟨v, u, rfl, h, k⟩ := rws2 r
      cases e
      cases rw_int h
      cases rw_int k
      exact ⟨_, _, rfl, P.here S (.dat (.int _))⟩
    · -- min
      obtain ⟨v, u, rfl, h, k⟩ := rws2 r
      cases e
      cases rw_int h
      cases rw_int k
      exact ⟨_, _, rfl, P.here S (.dat (.int _))⟩
    · -- divmod
      obtain ⟨v, u, rfl, h, k⟩ := rws2 r
      split at e
      · rename_i hz
        cases e
        cases rw_int h
        cases rw_int k
        exact ⟨_, _, rfl, hz, new_tupU (ws := [wI _, wI _]) S P (.cons (.dat (.int _)) (.cons (.dat (.int _)) .nil)) (by show 2 ≤ sizeLine; decide)⟩
      · cases e
    · -- repr
      obtain ⟨v, rfl, h⟩ := rws1 r
      obtain ⟨d, e1, e⟩ := Option.bind_eq_some_iff.mp e
      split at e
      · rename_i hz
        cases e
        exact ⟨v, d, rfl, dat_ru S h e1, hz, P.here S (.dat (.str _))⟩
      · cases e
    · cases e
end
end Mi
/-! Mi, part F: methods of built-in types, subscripts, slices by values. -/
namespace Mi
open PySem PySem.Spec PyProof.Rows L2
/-! ### methods: the receiver's type -/
def tyW (K : PySem.W.Frag) (T : String) (x : V) (H : Hp) : Prop := tyV K T x H ∨ (T = "tuple" ∧ ∃ (p : Addr) (o : Obj) (xs : List V), x = .ref p ∧ H p = some (.frz o (.tup xs)) ∧ o.dict = none)
section
variable {X : Cx} {pins : List (Addr × Obj)} {σ : L2.St} {H : Hp} {s : Shared}
theorem tyW_is {T : String} {x : V} {v : Value} (I : Inv X pins σ H s) (r : RelV x v) (ty : tyW X.K T x H) : s.TypeIs v T ∧ ∀ a, v = .ref a → ∃ ob, s.heap.get? a = some ob ∧ ob.dict = none := by
  rcases ty with ty | ⟨rfl, p, o, xs, rfl, e, d⟩
  · exact tyV_is I r ty
  · cases r
    obtain ⟨h1, _, its, _, o', h2, hc, _⟩ := I.hok p _ e
    rw [h1] at h2
    cases h2
    exact ⟨⟨o, h1, hc⟩, fun a z => by cases z; exact ⟨o, h1, d⟩⟩
def tBW0 (K : PySem.W.Frag) (T : String) (r : V → List V → Hp → VK → Prop) (to : TE) : TE := fun σ H Q => to σ H fun x H1 => tyW K T x H1 ∧ r x [] H1 Q
def tBW (K : PySem.W.Frag) (T : String) (r : V → List V → Hp → VK → Prop) (to : TE) (t : TA) : TE := fun σ H Q => to σ H fun x H1 => tyW K T x H1 ∧ t σ H1 fun xs H2 => r x xs H2 Q
variable {o e : Expr} {es : List Expr} {to : TE} {t : TA} {name : Str} {apos cpos : Pos} {T id : String} {r : V → List V → Hp → VK → Prop}
theorem pe_bw0 (pa : PlainAttrs T) (slot : Slot T name id) (hty : typeOf (.builtin id) = pure (.type "method_descriptor")) (hm : MtR X id r) (ho : PE X o to)
    (hbase : attributeBase o name X.env (eval o X.env) = eval o X.env) (hline : (apos.endLine == cpos.line) = true) : PE X (.Call (.Attribute o name apos) [] [] cpos) (tBW0 X.K T r to) := by
  refine ⟨fun pins s σ H Q I h => wpAny_Call_method0_late hbase hline (thn (ho.run pins s σ H _ I h) fun v s1 hq => ?_)⟩
  obtain ⟨x, H1, I1, r1, ty, q1⟩ := hq
  have h12 := tyW_is I1 r1 ty
  exact ⟨T, id, pa, slot, hty, h12.1, h12.2, Calls.callWith_builtin rfl (PySem.evalArgs_none (hm pins s1 σ H1 x [] v [] Q I1 r1 .nil q1))⟩
theorem pe_bw (pa : PlainAttrs T) (slot : Slot T name id) (hty : typeOf (.builtin id) = pure (.type "method_descriptor")) (hm : MtR X id r) (ho : PE X o to) (ha : PA X (e :: es) t)
    (hbase : attributeBase o name X.env (eval o X.env) = eval o X.env)
    (hfew : ((backTo cpos (starEach (e :: es) X.env)).all (fun x => !x.1) && (backToKw cpos (keywordEach [] X.env)).all (fun x => x.1.isSome)
      && decide ((e :: es).length + ([] : List Keyword).length + (if ([] : List Keyword).isEmpty then 0 else 1) < 30)) = true)
    (hline : (apos.endLine == cpos.line) = true) (hs : starEach (e :: es) X.env = (false, eval e X.env) :: starEach es X.env) (hplain : (backTo cpos (starEach es X.env)).any (·.1) = false) :
    PE X (.Call (.Attribute o name apos) (e :: es) [] cpos) (tBW X.K T r to t) := by
  refine ⟨fun pins s σ H Q I h => wpAny_Call_method_late hbase hfew hline rfl (thn (ho.run pins s σ H _ I h) fun v s1 hq => ?_)⟩
  obtain ⟨x, H1, I1, r1, ty, q1⟩ := hq
  have h12 := tyW_is I1 r1 ty
  refine ⟨T, id, pa, slot, hty, h12.1, h12.2, ?_⟩
  have hA := ha.run cpos pins s1 σ H1 _ I1 q1
  rw [hs] at hA ⊢
  refine Calls.callWith_builtin (by show (false || (backTo cpos (starEach es X.env)).any (·.1)) = false; rw [hplain] <;> rfl) (Calls.evalArgs_plain ?_)
  exact thn hA fun us s2 ⟨vs, H2, I2, r2, q2⟩ => hm pins s2 σ H2 x vs v us Q I2 r1 r2 q2
/-- t.count(x) of data -/
def rCntT (K : PySem.W.Frag) : V → List V → Hp → VK → Prop := fun x xs H Q => ∃ (p : Addr) (y : V) (d : PyData) (ds : List PyData), x = .ref p ∧ xs = [y] ∧ RU K H (.ref p) (.tuple ds) ∧ RU K H y d ∧ SeqAt.shaped d = true ∧ SeqAt.shaped (.tuple ds) = true ∧
  Q (.int ((ds.countP fun z => PyData.eqv z d : Nat) : Int)) H
theorem mt_countT (hu : X.A.units + 65 < cLine) : MtR X "tuple.count" (rCntT X.K) := by
  intro pins s σ H x xs v us Q I rx rxs h
  obtain ⟨p, y, d, ds, rfl, rfl, ht, hy, sd, st, q⟩ := h
  cases rx
  obtain ⟨u, rfl, ru⟩ := vals1 rxs
  obtain ⟨bs, rb⟩ := Dp.reads I d y u (RU.dp (Z := ⟨X.K, X.mg, X.w⟩) hy (SeqAt.canLay_of_shaped sd)) ru
  have hxs : PyData.canLayAll0 ds = true := by
    have z := SeqAt.canLay_of_shaped st
    simpa [PyData.canLay0] using z
  cases ht with
  | tup hs hr =>
    obtain ⟨its, rv, hi, hz⟩ := I.tuple hs
    obtain ⟨as, ra⟩ := Dp.readsAll I ds _ its (RUs.dps (Z := ⟨X.K, X.mg, X.w⟩) hr hxs) rv
    have hd := SeqAt.depth_of_shaped sd
    exact SeqAt.count_tuple_data (show s.heap.IsTuple p its.toArray from hi) (show ReadsAll s.heap its.toArray.toList ds as from ra) rb (PyData.plainAll_of_canLay0 ds hxs) (PyData.plain_of_canLay0 d (SeqAt.canLay_of_shaped sd)) (by omega)
      ⟨.int _, H, I.tok _, ⟨_, rfl⟩, q⟩
end
def meTy : Me → String × String
  | .join => ("str", "str.join")
  | .split => ("str", "str.split")
  | .count => ("tuple", "tuple.count")
  | .index => ("list", "list.index")
  | .append => ("list", "list.append")
  | .extend => ("list", "list.extend")
  | .insert => ("list", "list.insert")
  | .pop => ("list", "list.pop")
  | .splitB => ("str", "str.split")
def meNm : Me → Str
  | .join => "join"
  | .split => "split"
  | .count => "count"
  | .index => "index"
  | .append => "append"
  | .extend => "extend"
  | .insert => "insert"
  | .pop => "pop"
  | .splitB => "split"
abbrev RM := V → List V → Hp → VK → Prop
def rMe (K : PySem.W.Frag) : Me → RM
  | .join => fun x xs H Q => ∃ a p, ∃ ys : List Str, x = .str a ∧ xs = [.ref p] ∧ (SqL K H p (ys.map V.str) ∨ SqT K H p (ys.map V.str)) ∧ (ys.map (·.length)).sum + ys.length * a.length ≤ 16777216 ∧ Q (.str (PySem.Txt.join a ys)) H
  | .split => fun x xs H Q => ∃ a b, x = .str a ∧ xs = [.str b] ∧ (b.length == 0) = false ∧ a.length + 2 ≤ sizeLine ∧ rNewStrs (PySem.Txt.split a b) H Q
  | .count => rCntT K
  | .index => rIndexD K
  | .append => rAppend
  | .extend => rExtend
  | .insert => fun x vs H Q => ∃ (l : Addr) (xs : List V) (i : Int) (y : V), x = .ref l ∧ vs = [.int i, y] ∧ H l = some (.lst xs) ∧ xs.length < sizeLine ∧ 0 ≤ i ∧ i < 2 ^ 63 ∧ Q .non (upd H l (.lst (xs.take i.toNat ++ [y] ++ xs.drop i.toNat)))
  | .pop => fun x vs H Q => rPop x vs H Q ∨ rPopAt x vs H Q
  | .splitB => fun x xs H Q => ∃ a b, x = .str a ∧ xs = [.str b] ∧ (b.length == 0) = false ∧ a.length + 2 ≤ sizeLine ∧ rNewStrs (PySem.Txt.split a b) H Q
theorem me_rule (X : Cx) (hu : X.A.units + 65 < cLine) : ∀ f : Me, MtR X (meTy f).2 (rMe X.K f)
  | .join => mt_join
  | .split => mt_split
  | .count => mt_countT hu
  | .index => mt_indexD hu
  | .append => mt_append
  | .extend => mt_extend
  | .insert => mt_insert
  | .pop => MtR.or (id := "list.pop") mt_pop mt_popAt
  | .splitB => mt_split
theorem me_attrs : ∀ f : Me, PlainAttrs (meTy f).1
  | .join | .split | .splitB => F.plainAttrs_str
  | .count => F.plainAttrs_tuple
  | .index | .append | .extend | .insert | .pop => F.plainAttrs_list
theorem me_slot : ∀ f : Me, Slot (meTy f).1 (meNm f) (meTy f).2
  | .join => F.slot_str_join
  | .split => F.slot_str_split
  | .count => F.slot_tuple_count
  | .index => F.slot_list_index
  | .append => F.slot_list_append
  | .extend => F.slot_list_extend
  | .insert => F.slot_list_insert
  | .pop => F.slot_list_pop
  | .splitB => F.slot_str_split
theorem me_type : ∀ f : Me, typeOf (.builtin (meTy f).2) = pure (.type "method_descriptor")
  | .join => F.type_str_join
  | .split => F.type_str_split
  | .count => F.type_tuple_count
  | .index => F.type_list_index
  | .append => F.type_list_append
  | .extend => F.type_list_extend
  | .insert => F.type_list_insert
  | .pop => F.type_list_pop
  | .splitB => F.type_str_split
/-! ### what Mi's answer gives to a rule -/
section
variable {Z : Wd} {L : Nat} {G : Hp} {ι : List Addr} {m : Sto} {H : Hp} {Q : VK} {E : XK} {v u : V} {x y : W}
theorem sum_len : ∀ ys : List Str, (ys.map (·.length)).sum = sumLen ys
  | [] => rfl
  | a :: r => by
    rw [List.map_cons, List.sum_cons, sum_len r]
    rfl
theorem strOf_rw {a : Str} (h : RW Z G ι v x) (e : strOf x = some a) : v = .str a := by
  unfold strOf at e
  split at e
  · cases e
    exact rw_str h
  · cases e
theorem intOf_rw {a : Int} (h : RW Z G ι v x) (e : intOf x = some a) : v = .int a := by
  unfold intOf at e
  split at e
  · cases e
    exact rw_int h
  · cases e
theorem ref_rw {i : Nat} (h : RW Z G ι v (.ref i)) : ∃ a, v = .ref a ∧ ι[i]? = some a := by
  cases h with
  | ref h => exact ⟨_, rfl, h⟩
theorem tyl {a : Addr} {xs : List V} {K : PySem.W.Frag} (h : H a = some (.lst xs)) : tyW K "list" (.ref a) H := .inl (.inl ⟨rfl, xs, SqL.of h⟩)
/-- a list of the store becomes another -/
theorem put_ok (S : RS Z G ι m H) {i : Nat} {a : Addr} {old ws new : List W} {vs : List V} {m' : Sto} (h : ι[i]? = some a) (e : cellL m i = some old) (c : setCell L i ws new m = some m') (hw : ∀ w ∈ ws, w ∈ old ∨ w ∈ new) (r : RWs Z G ι vs ws) :
    RS Z G ι m' (upd H a (.lst vs)) ∧ To L G ι m H G ι m' (upd H a (.lst vs)) ∧ vs.length ≤ lim := by
  unfold setCell at c
  split at c
  · rename_i hb
    cases c
    have h1 := Bool.and_eq_true_iff.mp hb
    have h2 : ws.length ≤ lim := of_decide_eq_true h1.2
    have h3 : vs.length ≤ lim := by rw [r.length]; exact h2
    exact ⟨S.put h (le_line h3) r, ⟨Grow.refl _ _, kp_set e h1.1 hw, fr_put (List.mem_of_getElem? h)⟩, h3⟩
  · cases c
theorem mem_take_drop {α : Type} {a : List α} {k : Nat} {y w : α} (h : w ∈ a.take k ++ [y] ++ a.drop k) : w ∈ a ∨ w ∈ [y] := by
  rcases List.mem_append.mp h with h | h
  · rcases List.mem_append.mp h with h | h
    · exact .inl (List.mem_of_mem_take h)
    · exact .inr h
  · exact .inl (List.mem_of_mem_drop h)
/-- the receiver's type -/
theorem rcv_ty (S : RS Z G ι m H) (hv : RW Z G ι v x) {f : Me} (e : rcv f x m = true) : tyW Z.K (meTy f).1 v H := by
  have st : (strOf x).isSome = true → tyW Z.K "str" v H := fun e => by
    obtain ⟨a, e1⟩ := Option.isSome_iff_exists.mp e
    cases strOf_rw hv e1
    exact .inl (show tyV _ "str" (V.str a) H from rfl)
  have mu : isBox m x = true → tyW Z.K "list" v H := fun e => by
    unfold isBox at e
    split at e
    · obtain ⟨ws, e1⟩ := Option.isSome_iff_exists.mp e
      obtain ⟨a, rfl, h⟩ := ref_rw hv
      obtain ⟨vs, h1, _⟩ := S.lst h e1
      exact tyl h1
    · cases e
  cases f with
  | join => exact st e
  | split => exact st e
  | splitB => exact st e
  | count =>
    obtain ⟨ds, e1⟩ := Option.isSome_iff_exists.mp (show (cleanT x).isSome = true from e)
    unfold cleanT at e1
    split at e1
    · cases e1
      cases hv with
      | dat r =>
        cases r with
        | tup h _ =>
          rcases h with ⟨o, h1, h2⟩ | ⟨o, its, n, h1, h2, h3, _⟩
          · exact .inr ⟨rfl, _, o, _, rfl, S.sub _ _ h1, h2⟩
          · exact .inl (.inr (.inl ⟨rfl, o, h1, h2, h3⟩))
    · cases e1
  | index =>
    obtain ⟨zs, e1⟩ := Option.isSome_iff_exists.mp (show (lstOf m x).isSome = true from e)
    obtain ⟨a, vs, rfl, h, _⟩ := lst_rw S hv e1
    exact tyl h
  | append => exact mu e
  | extend => exact mu e
  | insert => exact mu e
  | pop => exact mu e
theorem clean_rw {ds : List PyData} (S : RS Z G ι m H) (hv : RW Z G ι v x) (e : cleanT x = some ds) : ∃ p, v = .ref p ∧ RU Z.K H (.ref p) (.tuple ds) := by
  unfold cleanT at e
  split at e
  · cases e
    cases hv with
    | dat r =>
      cases r with
      | tup h1 h2 => exact ⟨_, rfl, (RD.tup h1 h2).ru S.sub⟩
  · cases e
theorem me_ok (S : RS Z G ι m H) (hv : RW Z G ι v x) {vs : List V} {ws : List W} (r : RWs Z G ι vs ws) {f : Me} (P : PV Z L G ι m H (lift (metW f x ws m) m) Q E) : rMe Z.K f v vs H Q := by
  replace P := P.lift
  obtain ⟨w, e, P⟩ := P
  unfold metW at e
  split at e
  · -- join
    obtain ⟨u, rfl, h⟩ := rws1 r
    obtain ⟨a, e1, e⟩ := Option.bind_eq_some_iff.mp e
    obtain ⟨zs, e2, e⟩ := Option.bind_eq_some_iff.mp e
    obtain ⟨ys, e3, e⟩ := Option.bind_eq_some_iff.mp e
    split at e
    · rename_i hz
      cases e
      cases strOf_rw hv e1
      obtain ⟨p, us, rfl, hs, r1⟩ := seq_rw S h e2
      rw [strAll_rw e3 r1] at hs
      exact ⟨a, p, ys, rfl, rfl, hs, by rw [sum_len]; exact Nat.le_trans hz (by decide), P.here S (.dat (.str _))⟩
    · cases e
  · -- split
    obtain ⟨u, rfl, h⟩ := rws1 r
    obtain ⟨a, e1, e⟩ := Option.bind_eq_some_iff.mp e
    obtain ⟨b, e2, e⟩ := Option.bind_eq_some_iff.mp e
    split at e
    · rename_i hz
      cases e
      cases strOf_rw hv e1
      cases strOf_rw h e2
      refine ⟨a, b, rfl, rfl, hz.1, ?_, new_lst S P (rw_strs _) ?_⟩
      · have h2 := hz.2
        rw [sizeLine_eq]
        unfold lim at h2
        omega
      · rw [List.length_map]
        have h2 := hz.2
        refine Nat.le_trans (PyProof.Rows.split_le _ _) ?_
        rw [sizeLine_eq]
        unfold lim at h2
        omega
    · cases e
  · -- count
    obtain ⟨u, rfl, h⟩ := rws1 r
    obtain ⟨ds, e1, e⟩ := Option.bind_eq_some_iff.mp e
    obtain ⟨d, e2, e⟩ := Option.bind_eq_some_iff.mp e
    split at e
    · rename_i hz
      cases e
      have h1 := Bool.and_eq_true_iff.mp hz
      obtain ⟨p, rfl, hp⟩ := clean_rw S hv e1
      exact ⟨p, u, d, ds, rfl, rfl, hp, dat_ru S h e2, h1.1, h1.2, P.here S (.dat (.int _))⟩
    · cases e
  · -- index
    obtain ⟨u, rfl, h⟩ := rws1 r
    obtain ⟨zs, e1, e⟩ := Option.bind_eq_some_iff.mp e
    obtain ⟨ds, e2, e⟩ := Option.bind_eq_some_iff.mp e
    obtain ⟨d, e3, e⟩ := Option.bind_eq_some_iff.mp e
    split at e
    · rename_i hz
      obtain ⟨j, e4, e⟩ := Option.map_eq_some_iff.mp e
      subst e
      have h1 := Bool.and_eq_true_iff.mp hz
      obtain ⟨a, us, rfl, hl, r1⟩ := lst_rw S hv e1
      obtain ⟨hj, hj1, hj2⟩ := List.findIdx?_eq_some_iff_getElem.mp e4
      refine ⟨a, u, d, ds, j, ds[j], rfl, rfl, (RU.lst hl (datFs_ru S.sub r1 e2)).dp (SeqAt.canLay_of_shaped h1.2), dat_dp S h e3 (SeqAt.canLay_of_shaped h1.1), h1.2, h1.1, by simp [hj], hj1, fun k z' hk hz' => ?_, P.here S (.dat (.int _))⟩
      obtain ⟨hk2, ez⟩ := List.getElem?_eq_some_iff.mp hz'
      have := hj2 k hk
      rw [ez] at this
      exact Bool.eq_false_iff.mpr this
    · cases e
  · cases e
theorem mu_ok (S : RS Z G ι m H) (hv : RW Z G ι v x) {vs : List V} {ws : List W} (r : RWs Z G ι vs ws) {f : Me} (hf : f ≠ .splitB) {q : W × Sto} (e : mutW L f x ws m = some q) (P : PV Z L G ι m H (.ok q.1 q.2) Q E) : rMe Z.K f v vs H Q := by
  unfold mutW at e
  split at e
  · rename_i i
    obtain ⟨old, e1, e⟩ := Option.bind_eq_some_iff.mp e
    obtain ⟨a, rfl, ha⟩ := ref_rw hv
    obtain ⟨us, h1, r1⟩ := S.lst ha e1
    have hu : us.length = old.length := r1.length
    split at e
    · -- append
      obtain ⟨z, rfl, h⟩ := rws1 r
      obtain ⟨m', e2, e⟩ := Option.map_eq_some_iff.mp e
      subst e
      obtain ⟨S', T, hz⟩ := put_ok S ha e1 e2 (fun w hw => List.mem_append.mp hw) (r1.append (.cons h .nil))
      refine ⟨a, us, z, rfl, rfl, h1, ?_, P _ _ _ _ T S' (.dat .non)⟩
      rw [List.length_append] at hz
      have := lt_line hz
      simp at this
      omega
    · -- extend
      obtain ⟨z, rfl, h⟩ := rws1 r
      obtain ⟨zs, e3, e⟩ := Option.bind_eq_some_iff.mp e
      obtain ⟨m', e2, e⟩ := Option.map_eq_some_iff.mp e
      subst e
      obtain ⟨b, xs, rfl, h2, r2⟩ := lst_rw S h e3
      obtain ⟨S', T, hz⟩ := put_ok S ha e1 e2 (fun w hw => List.mem_append.mp hw) (r1.append r2)
      refine ⟨a, b, us, xs, rfl, rfl, h1, h2, ?_, P _ _ _ _ T S' (.dat .non)⟩
      rw [List.length_append] at hz
      exact le_line hz
    · -- insert
      obtain ⟨z, z2, rfl, h, h2⟩ := rws2 r
      split at e
      · rename_i hk
        obtain ⟨m', e2, e⟩ := Option.map_eq_some_iff.mp e
        subst e
        cases rw_int h
        obtain ⟨S', T, hz⟩ := put_ok S ha e1 e2 (fun w hw => mem_take_drop hw) (((r1.take _).append (.cons h2 .nil)).append (r1.drop _))
        refine ⟨a, us, _, z2, rfl, rfl, h1, ?_, hk.1, by omega, P _ _ _ _ T S' (.dat .non)⟩
        have := lt_line hz
        simp only [List.length_append, List.length_take, List.length_drop, List.length_singleton] at this
        omega
      · cases e
    · -- pop()
      split at e
      · rename_i w ew
        obtain ⟨m', e2, e⟩ := Option.map_eq_some_iff.mp e
        subst e
        cases r
        obtain ⟨S', T, _⟩ := put_ok S ha e1 e2 (fun w hw => .inl ((List.dropLast_sublist _).mem hw)) r1.init
        rw [← hu] at ew
        obtain ⟨z, ez, rz⟩ := r1.get ew
        exact .inl ⟨a, us, z, rfl, rfl, h1, ez, P _ _ _ _ T S' rz⟩
      · cases e
    · -- pop(i)
      obtain ⟨z, rfl, h⟩ := rws1 r
      split at e
      · rename_i hk
        split at e
        · rename_i w ew
          obtain ⟨m', e2, e⟩ := Option.map_eq_some_iff.mp e
          subst e
          cases rw_int h
          obtain ⟨S', T, _⟩ := put_ok S ha e1 e2 (fun w hw => .inl (List.mem_of_mem_eraseIdx hw)) (r1.erase _)
          obtain ⟨z, ez, rz⟩ := r1.get ew
          refine .inr ⟨a, us, _, _, z, rfl, rfl, h1, by omega, by omega, seqIndex_of hk.1 ?_, ez, P _ _ _ _ T S' rz⟩
          have := (List.getElem?_eq_some_iff.mp ez).1
          omega
        · cases e
      · cases e
    · cases e
  · split at e
    · exact absurd rfl hf
    · cases e
  · cases e
/-! ### subscripts -/
def rIxW (K : PySem.W.Frag) (w : World) : R2 := fun x y H Q => rIx K x y H Q ∨ rIxD K w x y H Q
theorem ix_rule (X : Cx) : IxR X (rIxW X.K X.w) := ix_seq.or ix_kdict
theorem atI_map {α β : Type} (f : α → β) (xs : List α) (i : Int) : L2.atI (xs.map f) i = (L2.atI xs i).map f := by
  unfold L2.atI
  rw [List.length_map]
  cases L2.ixN xs.length i with
  | none => rfl
  | some j => simp
theorem atI_rw {vs : List V} {ws : List W} {i : Int} {w : W} (r : RWs Z G ι vs ws) (e : L2.atI ws i = some w) : ∃ z, L2.atI vs i = some z ∧ RW Z G ι z w := by
  unfold L2.atI at e ⊢
  rw [r.length]
  obtain ⟨j, e1, e2⟩ := Option.bind_eq_some_iff.mp e
  obtain ⟨z, h1, h2⟩ := r.get e2
  rw [e1]
  exact ⟨z, h1, h2⟩
theorem ix_ok (S : RS Z G ι m H) (hv : RW Z G ι v x) (hu : RW Z G ι u y) (P : PV Z L G ι m H (lift (ixW m x y) m) Q E) : rIxW Z.K Z.w v u H Q := by
  replace P := P.lift
  obtain ⟨w, e, P⟩ := P
  unfold ixW at e
  split at e
  · split at e
    · rename_i hz
      obtain ⟨c, e1, e⟩ := Option.map_eq_some_iff.mp e
      subst e
      cases rw_str hv
      cases rw_int hu
      exact .inl (.inr (.inr ⟨_, _, c, rfl, rfl, le_line hz, e1, P.here S (.dat (.str _))⟩))
    · cases e
  · cases rw_str hu
    cases hv with
    | tab uf vf h1 h2 h3 h4 => exact .inr ⟨_, _, _, rfl, rfl, ⟨_, _, _, h1.at_, h1.lit, (h3 _ _ e).1, (h3 _ _ e).2⟩, P.here S (h4 _ _ e).rw⟩
  · obtain ⟨c, e1, e⟩ := Option.map_eq_some_iff.mp e
    subst e
    cases rw_int hu
    cases hv with
    | scr h => exact .inl (.inl ⟨_, _, _, _, rfl, rfl, S.sub.seq h, by rw [atI_map, e1]; rfl, P.here S (.dat (.int _))⟩)
  · obtain ⟨ws, e1, e⟩ := Option.bind_eq_some_iff.mp e
    cases rw_int hu
    obtain ⟨a, vs, rfl, hs, r⟩ := seq_rw S hv e1
    obtain ⟨z, h1, h2⟩ := atI_rw r e
    rcases hs with hs | hs
    · exact .inl (.inl ⟨_, _, _, z, rfl, rfl, hs, h1, P.here S h2⟩)
    · exact .inl (.inr (.inl ⟨_, _, _, z, rfl, rfl, hs, h1, P.here S h2⟩))
  · cases e
/-! ### slices -/
def rSlW (K : PySem.W.Frag) : V → Option Int → Option Int → Hp → VK → Prop := fun x l u H Q => C8.rSlX x l u H Q ∨ rSlL K x l u H Q ∨ rSlF K x l u H Q
theorem sl_rule (X : Cx) : SlR X (rSlW X.K) := C8.sl_txt.or (sl_list.or sl_tupF)
theorem cut_rw {vs : List V} {ws : List W} (r : RWs Z G ι vs ws) (l u : Option Int) : RWs Z G ι (cutV vs l u) (cutW ws l u) := by
  unfold cutV cutW
  rw [r.length]
  exact (r.drop _).take _
theorem tup_sz {a : Addr} {vs : List V} (S : RS Z G ι m H) (h : SqT Z.K H a vs) : vs.length ≤ sizeLine := by
  rcases h with (h | ⟨o, h⟩) | ⟨o, its, n, _, _, _, hz, r⟩
  · exact S.sz _ _ h
  · exact S.sz _ _ h
  · rw [r.length, Array.length_toList]
    exact hz
theorem sql_sz {a : Addr} {vs : List V} (S : RS Z G ι m H) (h : SqL Z.K H a vs) : vs.length ≤ sizeLine := by
  rcases h with (h | ⟨o, h⟩) | ⟨o, its, n, _, _, _, _, hz, r⟩
  · exact S.sz _ _ h
  · exact S.sz _ _ h
  · rw [r.length, Array.length_toList]
    exact hz
theorem sl_ok {l h : Option Int} (S : RS Z G ι m H) (hv : RW Z G ι v x) (P : PV Z L G ι m H (lift (slW m x l h) m) Q E) : rSlW Z.K v l h H Q := by
  replace P := P.lift
  obtain ⟨w, e, P⟩ := P
  unfold slW at e
  split at e
  · split at e
    · rename_i hz
      cases e
      cases rw_str hv
      exact .inl ⟨_, rfl, le_line hz, P.here S (.dat (.str _))⟩
    · cases e
  · split at e
    · rename_i ws e1
      cases e
      obtain ⟨a, vs, rfl, h1, r⟩ := tup_rw hv e1
      have h2 := Same.sqt S.sub h1
      rw [← r.length] at P
      refine .inr (.inr ⟨a, vs, rfl, h2, fun hw => ?_, fun hw => ?_⟩)
      · rw [if_pos hw] at P
        exact P.here S hv
      · rw [if_neg hw] at P
        refine new_tup S P (cut_rw r _ _) (Nat.le_trans (cutV_length _ _ _) (tup_sz S h2))
    · obtain ⟨ws, e1, e⟩ := Option.map_eq_some_iff.mp e
      subst e
      obtain ⟨a, vs, rfl, h1, r⟩ := lst_rw S hv e1
      exact .inr (.inl ⟨a, vs, rfl, SqL.of h1, new_lst S P (cut_rw r _ _) (Nat.le_trans (cutV_length _ _ _) (S.lsz h1))⟩)
end
end Mi
set_option maxHeartbeats 2000000
/-! Mi: a def's promise where no guard stands around (HandS's FnOk, its rules, turned). -/
namespace Mi
open PySem PySem.Spec PyProof.Rows L2
structure FnG (P : Program) (w : World) (K : PySem.W.Frag) (mg : Str → Option Value) (base : Heap) (CX : CXT) (k : Nat) (f : Addr) (fd : FuncData) (ps : List Str) (sp : Sp) : Prop where
  len : ∀ vs H Q E, sp vs H Q E → vs.length = ps.length
  run : ∀ (A : Around) (outer : List Env) (s : Shared) (H : Hp) (args : Args) (us : List Value) (vs : List V) (Q : VK) (E : XK), Room k A → A.guards = some [] → Env0 P w K mg base A outer s H → BindsTo s fd args (ps.zip us) → Vals vs us → sp vs H Q E →
    codeAny (model P w) A (.call (.ref f) args) (CR CX outer P w H s Q E) s
theorem FnG.mono {P : Program} {w : World} {K : PySem.W.Frag} {mg : Str → Option Value} {base : Heap} {CX : CXT} {j k : Nat} {f : Addr} {fd : FuncData} {ps : List Str} {sp : Sp} (F : FnG P w K mg base CX j f fd ps sp) (h : j ≤ k) : FnG P w K mg base CX k f fd ps sp :=
  ⟨F.len, fun A outer s H args us vs Q E hr => F.run A outer s H args us vs Q E (hr.mono h)⟩
theorem fng_of {CX : CXT} {P : Program} {w : World} {K : PySem.W.Frag} {mg : Str → Option Value} {base : Heap} {k : Nat} {f : Addr} {name qual : Str} {params : Arguments} {body : List Stmt} {scope : Scope} {dV kV doc pm cdv ct oc : Value} {an od : Option Addr}
    {osl : Array (Option Value)} {N ps : List Str} {sp : Sp} (lk : K.lookup f = some ⟨oc, od, .func (PySem.W.fnOf name qual params body scope dV kV doc pm an cdv ct), osl⟩) (hcd : PySem.W.codeIn K cdv qual = true) (S : FnScope N ps scope)
    (len : ∀ vs H Q E, sp vs H Q E → vs.length = ps.length)
    (hbody : ∀ (A : Around) (outer : List Env) (s : Shared) (H : Hp) (vs : List V) (Q : VK) (E : XK), Room k (A.deeper (envOfC qual scope s.heap.objs.size f cdv)) → A.guards = some [] → sp vs H Q E →
      ∃ t, PSs (cxOf CX P w K mg base N qual scope f cdv A outer s H E) body t ∧ t { nx := fun _ H' => Q .non H', rt := Q } (start N vs) H) :
    FnG P w K mg base CX (k + 1) f (PySem.W.fnOf name qual params body scope dV kV doc pm an cdv ct) ps sp := by
  refine ⟨len, fun A outer s H args us vs Q E hr hg e0 hb r hsp => ?_⟩
  have hl := len _ _ _ _ hsp
  have KX : K.In s.heap := e0.mod.kin.keeps fun b o e => (e0.bs b o e).1
  have lim : s.heap.NoLimit := e0.mod.nolimit.keeps fun b o e => (e0.bs b o e).1
  have hkind : ∀ y ∈ ps.zip us, scope.names.lookup y.1 = some .local ∨ (scope.names.lookup y.1 = some .cell ∧ ((cellsFrom (s.heap.objs.size + 1) scope.names []).lookup y.1).isSome = true) := fun ⟨n, v⟩ hy => by
    rcases S.par n (List.of_mem_zip hy).1 with q | q
    · exact .inl q
    · exact .inr ⟨q, PySem.W.cellsFrom_some _ _ _ (.inl q)⟩
  refine codeAny_call_function hr.depth (KX _ _ lk) rfl S.co S.gen rfl (PySem.W.codeRec_of KX hcd) (hb _ _ _ _ ?_)
  refine wpAny_newFunctionEnv_cells S.kind hkind fun env he s1 x => ?_
  subst he
  refine ⟨lim.keeps x.toInCall.keep, codeAny_func ?_⟩
  obtain ⟨t, ht, hq⟩ := hbody A outer s H vs Q E (hr.deeper _) hg hsp
  have I : Inv (cxOf CX P w K mg base N qual scope f cdv A outer s H E) [] (start N vs) H s1 := inv_start S hr.hd e0 hl r x
  refine wpAny_mono (ht.run [] s1 (start N vs) H _ I hq) (fun fl s' hs => ?_) fun e s' hs => hs
  have fin : ∀ {σ' : L2.St} {H' : Hp} {v : V} {u : Value}, Inv (cxOf CX P w K mg base N qual scope f cdv A outer s H E) [] σ' H' s' → RelV v u → Q v H' → CE outer P w H s Q u s' :=
    fun {σ' H' v u} J rv q => ⟨v, H', J.os, J.bare, J.base, J.hok, rv, q⟩
  cases fl with
  | ret u =>
    obtain ⟨v, σ', H', J, rv, q⟩ := hs
    exact fin J rv q
  | next =>
    obtain ⟨σ', H', J, q⟩ := hs
    exact fin (v := V.non) (u := Value.none) J rfl q
  | brk =>
    obtain ⟨_, _, _, q⟩ := hs
    exact False.elim q
  | cont =>
    obtain ⟨_, _, _, q⟩ := hs
    exact False.elim q
section
variable {X : Cx} {CX : CXT} {k : Nat} {f : Addr} {fd : FuncData} {ps : List Str} {sp : Sp} {dvs : List V} {ds : List Value} {E : XK} {x : Str} {p pos : Pos} {e : Expr} {es : List Expr} {t : TA}
theorem run_fng {pins : List (Addr × Obj)} {σ : L2.St} {H : Hp} {s : Shared} {Q : VK} {us : List Value} {vs : List V} (F : FnG X.prog X.w X.K X.mg X.base CX k f fd ps sp) (hr : Room k X.A) (hg : X.A.guards = some []) (hb : Binds X.K fd ps ds) (hd : Vals dvs ds)
    (hx : ∀ u s', CX X.stack H s E u s' → X.xe u s') (I : Inv X pins σ H s) (r : Vals vs us) (h : sp (vs ++ dvs) H Q E) : wpAny (model X.prog X.w) X.A (call (.ref f) us) (EP X pins σ Q) X.xe s := by
  have r2 : Vals (vs ++ dvs) (us ++ ds) := r.append hd
  have hl : (us ++ ds).length = ps.length := by rw [← r2.length]; exact F.len _ _ _ _ h
  refine wpAny_call (codeAny_mono (F.run X.A X.stack s H ⟨us, []⟩ (us ++ ds) (vs ++ dvs) Q E hr hg I.env0 (hb s us I.kIn hl) r2 h) fun r s' hq => ?_)
  cases r with
  | error e => exact hx e s' hq
  | ok fl =>
    cases fl with
    | ret u => exact I.after hq
    | next => exact False.elim hq
    | brk => exact False.elim hq
    | cont => exact False.elim hq
/-- f(e, ..), f an own def; the wish about exceptions may know the frame's slots -/
def tCallG (sp : Sp) (dvs : List V) (W : WX) (t : TA) : TE := fun σ H Q => t σ H fun vs H1 => sp (vs ++ dvs) H1 Q fun c d H2 => W c d σ H2
theorem pe_callg {W : WX} (F : FnG X.prog X.w X.K X.mg X.base (L2.CX X.prog X.w) k f fd ps sp) (hr : Room k X.A) (hgd : X.A.guards = some []) (hg : Gl X x) (hm : X.mg x = some (.ref f)) (hk : PySem.W.keepIn X.K (.ref f) = true) (hb : Binds X.K fd ps ds) (hd : Vals dvs ds) (tk : Takes X W)
    (ha : PA X (e :: es) t) (hdb : (x == ("__debug__" : Str)) = false) (he : starEach (e :: es) X.env = (false, eval e X.env) :: starEach es X.env) (hpl : (backTo pos (starEach es X.env)).any (·.1) = false) :
    PE X (.Call (.Name x p) (e :: es) [] pos) (tCallG sp dvs W t) := by
  refine ⟨fun pins s σ H Q I h => wpAny_Call_Name_kw (ld_glob I hg hm ?_ hdb)⟩
  refine PySem.W.callWith_K (h₀ := X.base) I.ok.mod.kin hk (thn (ha.run pos pins s σ H _ I h) fun us s1 hq => ?_) he hpl
  obtain ⟨vs, H1, I1, r, q⟩ := hq
  exact ⟨I1.kIn, run_fng F hr hgd hb hd (fun u s' c => tk u s' (XE.of_call I1 (fun cls d H' z => z) c)) I1 r q⟩
theorem pe_callg0 {W : WX} (F : FnG X.prog X.w X.K X.mg X.base (L2.CX X.prog X.w) k f fd ps sp) (hr : Room k X.A) (hgd : X.A.guards = some []) (hg : Gl X x) (hm : X.mg x = some (.ref f)) (hk : PySem.W.keepIn X.K (.ref f) = true) (hb : Binds X.K fd ps ds) (hd : Vals dvs ds) (tk : Takes X W)
    (hdb : (x == ("__debug__" : Str)) = false) : PE X (.Call (.Name x p) [] [] pos) (tCallG sp dvs W tNil) := by
  refine ⟨fun pins s σ H Q I h => wpAny_Call_Name_kw (ld_glob I hg hm ?_ hdb)⟩
  exact PySem.W.callWith_K0 I.kIn hk (run_fng (us := []) (vs := []) F hr hgd hb hd (fun u s' c => tk u s' (XE.of_call I (fun cls d H' z => z) c)) I .nil h)
end
/-- THE RULE for a def's datum -/
theorem FunD.okG {P : Program} {w : World} {K : PySem.W.Frag} {mg : Str → Option Value} {base : Heap} {x qual : Str} {params : Arguments} {body : List Stmt} {scope : Scope} {dvs : List V} {kws : List (Str × V)} {f : Addr} {fd : FuncData} {CX : CXT} {N ps : List Str} {k : Nat} {sp : Sp}
    (F : FunD K x qual params body scope dvs kws f fd) (S : FnScope N ps scope) (len : ∀ vs H Q E, sp vs H Q E → vs.length = ps.length)
    (hbody : ∀ (cdv : Value) (A : Around) (outer : List Env) (s : Shared) (H : Hp) (vs : List V) (Q : VK) (E : XK), Room k (A.deeper (envOfC qual scope s.heap.objs.size f cdv)) → A.guards = some [] → sp vs H Q E →
      ∃ t, PSs (cxOf CX P w K mg base N qual scope f cdv A outer s H E) body t ∧ t { nx := fun _ H' => Q .non H', rt := Q } (start N vs) H) : FnG P w K mg base CX (k + 1) f fd ps sp := by
  obtain ⟨oc, od, dV, kV, doc, pm, an, cdv, ct, osl, rfl, lk, hcd, _, _⟩ := F.ex
  exact fng_of lk hcd S len fun A outer s H vs Q E hr hg hsp => hbody cdv A outer s H vs Q E hr hg hsp
theorem law_callG {P : Program} {w : World} {K : PySem.W.Frag} {mg mb : Str → Option Value} {CX : CXT} {k : Nat} {fa a : Addr} {fd : FuncData} {x : Str} {sp : Sp} {s₁ : Shared} {vs : List Value} {ns : List Int}
    (KX : K.In s₁.heap) (hns : s₁.heap.Ns mainGlobals mg) (hb : s₁.heap.Ns builtinsNs mb) (hbb : ∀ x : Str, x ≠ "__name__" → mb x = bootBuiltins x) (hlim : s₁.heap.NoLimit) (hg : s₁.gens = #[])
    (ha : s₁.heap.get? a = some { cls := .type "list", data := .seq vs.toArray }) (hi : IntsAre vs ns) (hl : ns.length ≤ sizeLine) (hr : Room k callerA)
    (F : ∀ base : Heap, K.In base → base.Ns mainGlobals mg → FnG P w K mg base CX k fa fd [x] sp) (hbind : ∀ (s : Shared) (u : Value), BindsTo s fd ⟨[u], []⟩ [(x, u)])
    (hsp : ∀ H : Hp, Only H → (∀ b o, H b = some o → SzO o) → SqL K H a (ns.map V.int) → sp [.ref a] H (fun v _ => v = .bl true) fun _ _ _ => False)
    (hCX : ∀ H e s', CX [] H s₁ (fun _ _ _ => False) e s' → False) :
    codeAny (model P w) callerA (.call (.ref fa) ⟨[.ref a], []⟩) (fun r s' => r = .ok (.ret (.bool true)) ∧ OldK s₁.heap s'.heap ∧ s'.os = s₁.os ∧ AllBare s'.gens) s₁ := by
  have rv := vals_ints hi
  have lenV := hi.length
  -- from an abstract heap in which nothing but the script may be tracked
  have core : ∀ H : Hp, Only H → (∀ b o, H b = some o → SzO o) → SqL K H a (ns.map V.int) → HOk P w H s₁.heap → (∀ b, H b ≠ none → b = a) → (H a ≠ none → K.lookup a = none) →
      codeAny (model P w) callerA (.call (.ref fa) ⟨[.ref a], []⟩) (fun r s' => r = .ok (.ret (.bool true)) ∧ OldK s₁.heap s'.heap ∧ s'.os = s₁.os ∧ AllBare s'.gens) s₁ := by
    intro H hO hZ hS hok hA hK
    have base_of : ∀ {b : Addr} {o : Obj}, s₁.heap.get? b = some o → H b = none → (hidT s₁.heap H).get? b = some o := fun e n => hidT_get e n
    have noA : ∀ {b : Addr} {o : Obj} {es : Array DictEntry} {ep : Nat}, s₁.heap.get? b = some o → o.data = .dict es ep → H b = none := fun {b o es ep} e d => by
      cases q : H b with
      | none => rfl
      | some u =>
        have e' : b = a := hA b (by rw [q]; simp)
        subst e'
        rw [ha] at e; cases e
        have d' : Data.seq vs.toArray _ = Data.dict es ep := d
        cases d'
    have nsK : ∀ {b : Addr} {m : Str → Option Value}, s₁.heap.Ns b m → (hidT s₁.heap H).Ns b m := fun {b m} ⟨o, es, ep, e, d, r⟩ => ⟨o, es, ep, base_of e (noA e d), d, r⟩
    have hKb : K.In (hidT s₁.heap H) := fun b o e => base_of (KX b o e) (by
      cases q : H b with
      | none => rfl
      | some u =>
        have e' : b = a := hA b (by rw [q]; simp)
        subst e'
        rw [hK (by rw [q]; simp)] at e; cases e)
    have hM : Mod K mg (hidT s₁.heap H) := ⟨hKb, nsK hns, ⟨mb, nsK hb, hbb⟩, let ⟨mc, h1, h2⟩ := hlim; ⟨mc, nsK h1, h2⟩⟩
    have e0 : Env0 P w K mg (hidT s₁.heap H) callerA [] s₁ H := ⟨rfl, hM, fun b o e => of_hidT e, Nat.le_of_eq (hidT_size _ _), trivial, fun b hb => absurd (show b ∈ ([] : List Addr) from hb) (by simp), hok, .of_eq hg⟩
    refine codeAny_mono ((F _ hKb (nsK hns)).run callerA [] s₁ H ⟨[.ref a], []⟩ [.ref a] [.ref a] _ _ hr rfl e0 (hbind s₁ (.ref a)) (.cons rfl .nil) (hsp H hO hZ hS)) fun r s' h => ?_
    cases r with
    | error e => exact (hCX H e s' h).elim
    | ok fl =>
      cases fl with
      | next => exact False.elim h
      | brk => exact False.elim h
      | cont => exact False.elim h
      | ret u =>
        obtain ⟨v, H', os, bare, un, hok', r', q⟩ := h
        have q' : v = .bl true := q
        subst q'
        obtain rfl : u = Value.bool true := r'
        refine ⟨rfl, OldK.of_keep fun b o e => ?_, os, bare⟩
        cases q : H b with
        | none => exact un.keep b o e q (by intro z; exact absurd (show b ∈ ([] : List Addr) from z) (by simp)) (by simp)
        | some u =>
          rcases hO b with z | ⟨ob, xs, z⟩
          · rw [q] at z; cases z
          · have z2 := un.frzs b ob _ z
            obtain ⟨e1, _⟩ := hok b _ z
            obtain ⟨e2, _⟩ := hok' b _ z2
            rw [e] at e1; cases e1
            exact e2
  cases hk : K.lookup a with
  | some o =>
    -- the script is one of the module's own objects
    have e := KX a o hk
    rw [ha] at e
    cases e
    refine core (fun _ => none) (fun _ => .inl rfl) (fun b o z => by cases z) (.inr ⟨_, vs.toArray, _, hk, rfl, rfl, rfl, by rw [List.size_toArray, lenV]; exact hl, by simpa using rv⟩) (fun b u z => by have z' : (none : Option HO) = some u := z; cases z') (fun b z => absurd rfl z) fun z => absurd rfl z
  | none =>
    refine core (fun b => if b = a then some (.frz { cls := .type "list", data := .seq vs.toArray } (.lst (ns.map V.int))) else none) (fun b => ?_) (fun b u z => ?_) (.inl (.inr ⟨{ cls := .type "list", data := .seq vs.toArray }, if_pos rfl⟩)) (fun b u z => ?_) (fun b z => ?_) fun _ => hk
    · by_cases hb : b = a
      · exact .inr ⟨_, _, if_pos hb⟩
      · exact .inl (if_neg hb)
    · by_cases hb : b = a
      · have z' := (if_pos hb).symm.trans z
        cases z'
        show (ns.map V.int).length ≤ sizeLine
        rw [List.length_map]
        exact hl
      · have z' := (if_neg hb).symm.trans z
        cases z'
    · by_cases hb : b = a
      · have z' := (if_pos hb).symm.trans z
        cases z'
        subst hb
        exact ⟨ha, by rw [List.length_map]; exact hl, vs, _, rv, ha⟩
      · have z' := (if_neg hb).symm.trans z
        cases z'
    · by_cases hb : b = a
      · exact hb
      · exact absurd (if_neg hb) z
theorem walk_ofG {l : PySem.W.OpenLaw} {n k : Nat} {q : Program} {loose : List Str} {XP : (Str → Option Value) → Heap → Prop} {YP : World → Heap → Prop} {d : DefRec} {CX : World → CXT}
    (hn : l.most = some n) (hn2 : n ≤ sizeLine) (hdf : d.params.defaults = []) (hr : Room k callerA)
    (F : ∀ (w : World) (mg : Str → Option Value) (fa : Addr) (h : Heap), YP w h → h.Ns mainGlobals mg → mg d.name = some (.ref fa) →
      ∃ (x : Str) (K : PySem.W.Frag) (fd : FuncData) (sp : Sp), K.In h ∧ (∀ (s : Shared) (u : Value), BindsTo s fd ⟨[u], []⟩ [(x, u)]) ∧
        (∀ (H : Hp) (a : Addr) (ns : List Int), ns.length ≤ n → Only H → (∀ b o, H b = some o → SzO o) → SqL K H a (ns.map V.int) → sp [.ref a] H (fun v _ => v = .bl true) fun _ _ _ => False) ∧
        ∀ base : Heap, K.In base → base.Ns mainGlobals mg → FnG l.prog w K mg base (CX w) k fa fd [x] sp)
    (hCX : ∀ (w : World) (H : Hp) (s : Shared) (e : Value) (s' : Shared), CX w [] H s (fun _ _ _ => False) e s' → False) :
    PySem.W.WalkO q loose XP YP l.row.toRowW d [] (fun f vs => PySem.call f vs) := by
  refine Att.attach_call hn hdf fun w s₀ s₁ mg mb fa o pm cd doc a vs ns G Y ho hd hcd hmg hobj hints hlen hg => ?_
  obtain ⟨x, K, fd, sp, KX, hb, hsp, hF⟩ := F w mg fa _ Y G.T.g hmg
  exact law_callG KX G.T.g G.T.b G.T.builtins G.T.nolimit hg hobj hints (Nat.le_trans hlen hn2) hr hF hb (fun H hO hZ hS => hsp H a ns hlen hO hZ hS) fun H e s' => hCX w H s₁ e s'
end Mi
/-! Mi, part H: an expression's reading; the rules with it. -/
namespace Mi
open PySem PySem.Spec PyProof.Rows L2
/-- what the text is held against: the slots' names, the scope, whether within an except suite, the built-in names that the module leaves, the defs with their arities -/
structure Cc where
  N : List Str
  sc : Scope
  hot : Bool
  bl : List Str
  fn : List (Str × Nat)
  own : Scope
  ecl : List Str
abbrev zd (X : Cx) : Wd := ⟨X.K, X.mg, X.w⟩
def spW (Z : Wd) (n : Nat) (g : List W → M W) : Sp := fun vs H Q E => vs.length = n ∧ ∃ L G ι m ws, RS Z G ι m H ∧ RWs Z G ι vs ws ∧ L ≤ m.length ∧ PV Z L G ι m H (g ws m) Q E
structure FnI (X : Cx) (n : Nat) (f : Str) (g : List W → M W) : Prop where
  ex : ∃ (fa : Addr) (fd : FuncData) (ps : List Str) (k : Nat), FnG X.prog X.w X.K X.mg X.base (L2.CX X.prog X.w) k fa fd ps (spW (zd X) n g) ∧ Room k X.A ∧ X.mg f = some (.ref fa) ∧ PySem.W.keepIn X.K (.ref fa) = true ∧ Binds X.K fd ps []
/-- an own exception class -/
structure ExI (X : Cx) (c : Str) (fs : List Str) (spi : Sp) : Prop where
  nd : fs.Nodup
  few : fs.length ≤ 100
  ex : ∃ (C fI : Addr) (fd : FuncData) (ps : List Str) (k : Nat), OexC X.K C ∧ X.mg c = some (.ref C) ∧ PySem.W.findIn X.K (.ref C) "__init__" = some (some (.ref fI)) ∧ PySem.W.typeIn X.K (.ref fI) = some (.type "function") ∧
    FnOk X.prog X.w X.K X.mg X.base (L2.CX X.prog X.w) k fI fd ps spi ∧ Room (k + 1) X.A ∧ Binds X.K fd ps [] ∧ ∀ f ∈ fs, PySem.W.findIn X.K (.ref C) f = some none
def spI (K : PySem.W.Frag) (fs : List Str) : Sp := fun vs H Q _ => ∃ (a C : Addr) (us : List V), vs = .ref a :: us ∧ us.length = fs.length ∧ OexC K C ∧ H a = some (exo a C none) ∧ (∀ f ∈ fs, PySem.W.findIn K (.ref C) f = some none) ∧
  ∀ d H', H d = none → d ≠ a → H' a = some (exo a C (some d)) → H' d = some (exd d ((fs.zip us).foldl (fun l q => q :: l) [])) → (∀ b, b ≠ a → b ≠ d → H' b = H b) → Q .non H'
structure Ok (c : Cc) (X : Cx) (F : Fe) (U : WX) : Prop where
  hN : X.N = c.N
  nd : X.N.Nodup
  sc : X.env.scope = c.sc
  tk : Takes X U
  calm : c.hot = false → X.calm = true
  gd : X.A.guards = some []
  un : X.A.units + 100 < cLine
  sys : SysK X.K
  con : ∀ x w, F.con x = some w → ∃ v u, X.mg x = some u ∧ RelV v u ∧ ∀ G ι, RW (zd X) G ι v w
  bl : ∀ n, n ∈ c.bl → X.mg n = none
  call : c.hot = false → ∀ f n, (f, n) ∈ c.fn → FnI X n f (F.call f)
  exc : c.hot = false → ∀ f fs, F.fld f = some fs → ExI X f fs (spI X.K fs)
  sub : ∀ d n b, F.sub d n = some b → ∃ C D, X.mg d = some (.ref C) ∧ X.mg n = some (.ref D) ∧ PySem.W.exmOne X.K (.ref C) (.ref D) = some b
  ecl : ∀ n ∈ c.ecl, ∃ D : Addr, X.mg n = some (.ref D)
  exf : ∀ d fs, F.fld d = some fs → ∃ C, X.mg d = some (.ref C) ∧ XfC X.K C ∧ ExcC X.K C ∧ ∀ f ∈ fs, PySem.W.findIn X.K (.ref C) f = some none
  isx : ∀ d n b, F.isx d n = some b → (F.fld d).isSome = true ∧ ∃ (C : Addr) (cv : V) (u : Value), X.mg d = some (.ref C) ∧ (X.mg n = some u ∨ (X.mg n = none ∧ bootBuiltins n = some u ∧ n ≠ "__name__")) ∧ ClsV cv u ∧ PySem.W.kitOne X.K (.ref C) u = some b
  st : ∀ x, (c.own.names.lookup x = some .local ∨ c.own.names.lookup x = some .cell) → Loc X.env.scope x ∧ (X.fn x = true ∨ X.env.scope.names.lookup x = some .local)
/-- the reading -/
def TX (Z : Wd) (F : Fe) (U : WX) (e : Ex) : TE := fun σ H Q => ∃ G ι m σw, RS Z G ι m H ∧ REn Z G ι σ σw ∧ F.L ≤ m.length ∧ PV Z F.L G ι m H (evE F e σw m) Q (fun c d H' => U c d σ H')
def TXs (Z : Wd) (F : Fe) (U : WX) (es : List Ex) : TA := fun σ H Q => ∃ G ι m σw, RS Z G ι m H ∧ REn Z G ι σ σw ∧ F.L ≤ m.length ∧ Post Z (RWs Z) F.L G ι m H (evEs F es σw m) Q (fun c d H' => U c d σ H')
/-- .. as a test -/
def TXt (Z : Wd) (F : Fe) (U : WX) (e : Ex) : TT := fun σ H Q => ∃ G ι m σw, RS Z G ι m H ∧ REn Z G ι σ σw ∧ F.L ≤ m.length ∧ PB Z F.L G ι m H ((evE F e σw m).bind fun x m => lift (tru m x) m) Q (fun c d H' => U c d σ H')
def TXo (Z : Wd) (F : Fe) (U : WX) (e : Option Ex) : TO := fun σ H Q => ∃ G ι m σw, RS Z G ι m H ∧ REn Z G ι σ σw ∧ F.L ≤ m.length ∧ Post Z (fun _ _ (a b : Option Int) => a = b) F.L G ι m H (evO F e σw m) Q (fun c d H' => U c d σ H')
theorem PE.of {X : Cx} {e : Expr} {t t' : TE} (h : PE X e t) (k : ∀ σ H Q, t' σ H Q → t σ H Q) : PE X e t' := ⟨fun pins s σ H Q I q => h.run pins s σ H Q I (k σ H Q q)⟩
theorem PT.of {X : Cx} {e : Expr} {t t' : TT} (h : PT X e t) (k : ∀ σ H Q, t' σ H Q → t σ H Q) : PT X e t' := ⟨fun pins s σ H Q I q => h.run pins s σ H Q I (k σ H Q q)⟩
theorem PA.of {X : Cx} {e : List Expr} {t t' : TA} (h : PA X e t) (k : ∀ σ H Q, t' σ H Q → t σ H Q) : PA X e t' := ⟨fun pos pins s σ H Q I q => h.run pos pins s σ H Q I (k σ H Q q)⟩
theorem PO.of {X : Cx} {e : Option Expr} {t t' : TO} (h : PO X e t) (k : ∀ σ H Q, t' σ H Q → t σ H Q) : PO X e t' := ⟨fun pins s σ H Q I q => h.run pins s σ H Q I (k σ H Q q)⟩
section
variable {Z : Wd} {F : Fe} {U : WX} {α β γ : Type} {R : Hp → List Addr → α → β → Prop} {R2 : Hp → List Addr → γ → α → Prop}
/-- the next part of a reading -/
theorem TX.step {δ β : Type} {a : Ex} {R2 : Hp → List Addr → δ → β → Prop} {f : W → M β} {Q2 : δ → Hp → Prop} {Q : VK} {G : Hp} {ι : List Addr} {m : Sto} {H : Hp} {σ : L2.St} {σw : En}
    (S : RS Z G ι m H) (e : REn Z G ι σ σw) (hL : F.L ≤ m.length) (P : Post Z R2 F.L G ι m H ((evE F a σw m).bind f) Q2 (fun c d H' => U c d σ H'))
    (k : ∀ v H1 G1 ι1 m1 w, To F.L G ι m H G1 ι1 m1 H1 → RS Z G1 ι1 m1 H1 → REn Z G1 ι1 σ σw → F.L ≤ m1.length → RW Z G1 ι1 v w → Post Z R2 F.L G1 ι1 m1 H1 (f w m1) Q2 (fun c d H' => U c d σ H') → Q v H1) : TX Z F U a σ H Q := by
  refine ⟨G, ι, m, σw, S, e, hL, Post.mono (Post.bind P) fun v H1 hm => ?_⟩
  obtain ⟨G1, ι1, m1, w, t, S1, r, P1⟩ := hm
  exact k v H1 G1 ι1 m1 w t S1 (e.mono t.g) (Nat.le_trans hL t.k.1) r P1
theorem TXs.step {δ : Type} {a : List Ex} {β : Type} {R2 : Hp → List Addr → δ → β → Prop} {f : List W → M β} {Q2 : δ → Hp → Prop} {Q : List V → Hp → Prop} {G : Hp} {ι : List Addr} {m : Sto} {H : Hp} {σ : L2.St} {σw : En}
    (S : RS Z G ι m H) (e : REn Z G ι σ σw) (hL : F.L ≤ m.length) (P : Post Z R2 F.L G ι m H ((evEs F a σw m).bind f) Q2 (fun c d H' => U c d σ H'))
    (k : ∀ v H1 G1 ι1 m1 w, To F.L G ι m H G1 ι1 m1 H1 → RS Z G1 ι1 m1 H1 → REn Z G1 ι1 σ σw → F.L ≤ m1.length → RWs Z G1 ι1 v w → Post Z R2 F.L G1 ι1 m1 H1 (f w m1) Q2 (fun c d H' => U c d σ H') → Q v H1) : TXs Z F U a σ H Q := by
  refine ⟨G, ι, m, σw, S, e, hL, Post.mono (Post.bind P) fun v H1 hm => ?_⟩
  obtain ⟨G1, ι1, m1, w, t, S1, r, P1⟩ := hm
  exact k v H1 G1 ι1 m1 w t S1 (e.mono t.g) (Nat.le_trans hL t.k.1) r P1
theorem TXo.step {δ : Type} {a : Option Ex} {β : Type} {R2 : Hp → List Addr → δ → β → Prop} {f : Option Int → M β} {Q2 : δ → Hp → Prop} {Q : Option Int → Hp → Prop} {G : Hp} {ι : List Addr} {m : Sto} {H : Hp} {σ : L2.St} {σw : En}
    (S : RS Z G ι m H) (e : REn Z G ι σ σw) (hL : F.L ≤ m.length) (P : Post Z R2 F.L G ι m H ((evO F a σw m).bind f) Q2 (fun c d H' => U c d σ H'))
    (k : ∀ v H1 G1 ι1 m1, To F.L G ι m H G1 ι1 m1 H1 → RS Z G1 ι1 m1 H1 → REn Z G1 ι1 σ σw → F.L ≤ m1.length → Post Z R2 F.L G1 ι1 m1 H1 (f v m1) Q2 (fun c d H' => U c d σ H') → Q v H1) : TXo Z F U a σ H Q := by
  refine ⟨G, ι, m, σw, S, e, hL, Post.mono (Post.bind P) fun v H1 hm => ?_⟩
  obtain ⟨G1, ι1, m1, w, t, S1, r, P1⟩ := hm
  subst r
  exact k v H1 G1 ι1 m1 t S1 (e.mono t.g) (Nat.le_trans hL t.k.1) P1
theorem bind_bind {α β γ : Type} (r : Res α) (f : α → Sto → Res β) (g : β → Sto → Res γ) : (r.bind f).bind g = r.bind fun a m => (f a m).bind g := by cases r <;> rfl
/-- the next part, a test -/
theorem TXt.step {δ : Type} {a : Ex} {β : Type} {R2 : Hp → List Addr → δ → β → Prop} {f : W → Bool → M β} {Q2 : δ → Hp → Prop} {Q : Bool → Hp → Prop} {G : Hp} {ι : List Addr} {m : Sto} {H : Hp} {σ : L2.St} {σw : En}
    (S : RS Z G ι m H) (e : REn Z G ι σ σw) (hL : F.L ≤ m.length) (P : Post Z R2 F.L G ι m H ((evE F a σw m).bind fun x m => (lift (tru m x) m).bind (f x)) Q2 (fun c d H' => U c d σ H'))
    (k : ∀ b H1 G1 ι1 m1 w, To F.L G ι m H G1 ι1 m1 H1 → RS Z G1 ι1 m1 H1 → REn Z G1 ι1 σ σw → F.L ≤ m1.length → tru m1 w = some b → Post Z R2 F.L G1 ι1 m1 H1 (f w b m1) Q2 (fun c d H' => U c d σ H') → Q b H1) : TXt Z F U a σ H Q := by
  refine ⟨G, ι, m, σw, S, e, hL, ?_⟩
  show Post Z _ _ _ _ _ _ _ _ _
  cases hr : evE F a σw m with
  | no =>
    rw [hr] at P
    exact P
  | exc c fs m' =>
    rw [hr] at P
    exact P
  | ok w m1 =>
    rw [hr] at P
    have P' : Post Z R2 F.L G ι m H ((lift (tru m1 w) m1).bind (f w)) Q2 (fun c d H' => U c d σ H') := P
    show Post Z _ _ _ _ _ _ (lift (tru m1 w) m1) _ _
    cases hb : tru m1 w with
    | none =>
      rw [hb] at P'
      exact P'
    | some b =>
      rw [hb] at P'
      have P2 : Post Z R2 F.L G ι m H (f w b m1) Q2 (fun c d H' => U c d σ H') := P'
      intro v H1 G1 ι1 t S1 r
      have r' : v = b := r
      subst r'
      exact k v H1 G1 ι1 m1 w t S1 (e.mono t.g) (Nat.le_trans hL t.k.1) hb (P2.shift t)
end
/-! ### names of the AST -/
def biNm : Bi → Str
  | .len => "len"
  | .all => "all"
  | .any => "any"
  | .tuple => "tuple"
  | .str => "str"
  | .int => "int"
  | .abs => "abs"
  | .max => "max"
  | .min => "min"
  | .divmod => "divmod"
  | .repr => "repr"
theorem bi_boot : ∀ f : Bi, bootBuiltins (biNm f) = some (biV f)
  | .len => boot_len
  | .all => boot_all
  | .any => boot_any
  | .tuple => boot_tuple
  | .str => boot_str
  | .int => boot_int
  | .abs => boot_abs
  | .max => boot_max
  | .min => boot_min
  | .divmod => boot_divmod
  | .repr => boot_repr
theorem bi_names (f : Bi) : biNm f ≠ "__name__" ∧ (biNm f == ("__debug__" : Str)) = false := by cases f <;> decide +kernel
end Mi
/-! Mi, part I: the rules, form by form. -/
namespace Mi
open PySem PySem.Spec PyProof.Rows L2
section
variable {X : Cx} {c : Cc} {F : Fe} {U : WX} {e e1 e2 e3 : Expr} {es : List Expr} {x a b d : Ex} {xs : List Ex} {pos : Pos}
theorem px_var {i : Nat} {n : Str} (hN : X.N[i]? = some n) (hv : Vis X.env.scope n) (hd : (n == ("__debug__" : Str)) = false) (hcd : (n == ("__classdict__" : Str)) = false) : PE X (.Name n pos) (TX (zd X) F U (.var i)) :=
  PE.of (pe_var hN hv hd hcd) fun σ H Q h => by
    obtain ⟨G, ι, m, σw, S, E, hL, P⟩ := h
    obtain ⟨w, e1, P⟩ := P.lift
    obtain ⟨v, h1, h2⟩ := E.2 i w e1
    exact ⟨v, h1, P.here S h2⟩
def constOf : PyData → Option Const
  | .none => some .none
  | .bool b => some (.bool b)
  | .int i => some (.int i)
  | .str x => some (.str x)
  | _ => none
theorem px_con {d : PyData} {k : Const} {j : Nat} (h : constOf d = some k) : PE X (.Constant k j pos) (TX (zd X) F U (.con d)) := by
  have fin : ∀ {v : V} {σ H Q}, TX (zd X) F U (.con d) σ H Q → (∀ G, RD X.K G v d) → Q v H := fun {v σ H Q} h r => by
    obtain ⟨G, ι, m, σw, S, E, hL, P⟩ := h
    exact Post.here P S (.dat (r G))
  cases d with
  | none => cases h; exact PE.of pe_non fun σ H Q h => fin h fun _ => .non
  | bool b => cases h; exact PE.of pe_bl fun σ H Q h => fin h fun _ => .bl b
  | int i => cases h; exact PE.of pe_int fun σ H Q h => fin h fun _ => .int i
  | str z => cases h; exact PE.of pe_str fun σ H Q h => fin h fun _ => .str z
  | _ => cases h
theorem px_glo (O : Ok c X F U) {n : Str} (hg : Gl X n) (hd : (n == ("__debug__" : Str)) = false) : PE X (.Name n pos) (TX (zd X) F U (.glo n)) := by
  refine ⟨fun pins s σ H Q I h => ?_⟩
  obtain ⟨G, ι, m, σw, S, E, hL, P⟩ := h
  obtain ⟨w, e1, P⟩ := P.lift
  obtain ⟨v, u, hm, r, h2⟩ := O.con n w e1
  exact (pe_glob (v := v) hg hm r hd).run pins s σ H Q I (P.here S (h2 G ι))
theorem px_bin {o : BOp} (h1 : PE X e1 (TX (zd X) F U a)) (h2 : PE X e2 (TX (zd X) F U b)) : PE X (.BinOp e1 (opOf o) e2 pos) (TX (zd X) F U (.bin o a b)) :=
  PE.of (pe_op (bin_rule X o) h1 h2) fun σ H Q h => by
    obtain ⟨G, ι, m, σw, S, E, hL, P⟩ := h
    exact TX.step S E hL P fun v H1 G1 ι1 m1 w T1 S1 E1 L1 r1 P1 => TX.step S1 E1 L1 P1 fun u H2 G2 ι2 m2 z T2 S2 E2 L2 r2 P2 => bin_ok S2 (r1.mono T2.g) r2 P2
theorem px_neg (h1 : PE X e1 (TX (zd X) F U a)) : PE X (.UnaryOp .USub e1 pos) (TX (zd X) F U (.neg a)) :=
  PE.of (pe_un un_neg h1) fun σ H Q h => by
    obtain ⟨G, ι, m, σw, S, E, hL, P⟩ := h
    refine TX.step S E hL P fun v H1 G1 ι1 m1 w T1 S1 E1 L1 r1 P1 => ?_
    obtain ⟨z, e, P1⟩ := P1.lift
    obtain ⟨i, e2, rfl⟩ := Option.map_eq_some_iff.mp e
    exact ⟨i, intOf_rw r1 e2, P1.here S1 (.dat (.int _))⟩
theorem px_cmp (O : Ok c X F U) {o : COp} (h1 : PE X e1 (TX (zd X) F U a)) (h2 : PE X e2 (TX (zd X) F U b)) (hm : behindInMarks (opC o) e2 = false) : PE X (.Compare e1 [opC o] [e2] pos) (TX (zd X) F U (.cmp o a b)) :=
  PE.of (pe_cmpR (cmp_rule X (by have := O.un; omega) o) h1 h2 hm) fun σ H Q h => by
    obtain ⟨G, ι, m, σw, S, E, hL, P⟩ := h
    refine TX.step S E hL P fun v H1 G1 ι1 m1 w T1 S1 E1 L1 r1 P1 => TX.step S1 E1 L1 P1 fun u H2 G2 ι2 m2 z T2 S2 E2 L2 r2 P2 => ?_
    obtain ⟨y, e, P2⟩ := P2.lift
    obtain ⟨k, e2, rfl⟩ := Option.map_eq_some_iff.mp e
    exact cmp_ok S2 (r1.mono T2.g) r2 e2 (P2.here S2 (.dat (.bl _)))

theorem ite_true_tx {α : Type} {a b : α} : (match true with | true => a | false => b) = a := rfl
theorem px_chn (O : Ok c X F U) {o p : COp} (h1 : PE X e1 (TX (zd X) F U a)) (h2 : PE X e2 (TX (zd X) F U b)) (h3 : PE X e3 (TX (zd X) F U d)) (hm : lastMarks [opC o, opC p] [e2, e3] = false) :
    PE X (.Compare e1 [opC o, opC p] [e2, e3] pos) (TX (zd X) F U (.chn o p a b d)) :=
  PE.of (pe_chain (cmp_rule X (by have := O.un; omega) o) (cmp_rule X (by have := O.un; omega) p) h1 h2 h3 hm) fun σ H Q h => by
    obtain ⟨G, ι, m, σw, S, E, hL, P⟩ := h
    refine TX.step S E hL P fun v H1 G1 ι1 m1 w T1 S1 E1 L1 r1 P1 => TX.step S1 E1 L1 P1 fun u H2 G2 ι2 m2 z T2 S2 E2 L2 r2 P2 => ?_
    cases q : cmpW o w z m2 with
    | none =>
      rw [q] at P2
      exact P2.elim
    | some k =>
      rw [q] at P2
      refine cmp_ok S2 (r1.mono T2.g) r2 q ⟨k, rfl, ?_⟩
      cases k with
      | false => exact Post.here (P2 : Post _ _ _ _ _ _ _ (.ok (wB false) m2) Q _) S2 (.dat (.bl _))
      | true =>
        refine TX.step S2 E2 L2 (P2 : Post _ _ _ _ _ _ _ ((evE F d σw m2).bind _) Q _) fun y H3 G3 ι3 m3 q3 T3 S3 E3 L3 r3 P3 => ?_
        obtain ⟨y, e, P3⟩ := P3.lift
        obtain ⟨k, e2, rfl⟩ := Option.map_eq_some_iff.mp e
        exact cmp_ok S3 (r2.mono T3.g) r3 e2 (P3.here S3 (.dat (.bl _)))
/-! ### truth -/
theorem px_truth (h1 : PE X e1 (TX (zd X) F U a)) (he : ∀ whole, isTrue e1 X.env whole = (do let v ← whole; standAt e1.pos; holding [v] (truthy v))) : PT X e1 (TXt (zd X) F U a) :=
  PT.of (pt_truth h1 he) fun σ H Q h => by
    obtain ⟨G, ι, m, σw, S, E, hL, P⟩ := h
    refine TX.step S E hL P fun v H1 G1 ι1 m1 w T1 S1 E1 L1 r1 P1 => ?_
    obtain ⟨k, e, P1⟩ := P1.lift
    exact ⟨k, tru_okW S1 r1 e, P1.here S1 rfl⟩
theorem px_not (h1 : PE X e1 (TX (zd X) F U a)) : PE X (.UnaryOp .Not e1 pos) (TX (zd X) F U (.not a)) := by
  refine ⟨fun pins s σ H Q I h => ?_⟩
  obtain ⟨G, ι, m, σw, S, E, hL, P⟩ := h
  refine UnaryOp_ (thn (h1.run pins s σ H (fun v H1 => ∃ k, TruV X.K v H1 k ∧ Q (.bl (!k)) H1) I (TX.step S E hL P fun v H1 G1 ι1 m1 w T1 S1 E1 L1 r1 P1 => ?_)) fun v s1 hq => ?_)
  · cases e : tru m1 w with
    | none =>
      rw [e] at P1
      exact P1.elim
    | some k =>
      rw [e] at P1
      exact ⟨k, tru_okW S1 r1 e, Post.here (P1 : Post _ _ _ _ _ _ _ (.ok (wB (!k)) m1) Q _) S1 (.dat (.bl _))⟩
  · obtain ⟨y, H1, I1, r1, k, ht, q⟩ := hq
    exact not_of (thn (tru_ok pins s1 σ H1 y v (fun k H2 => Q (.bl (!k)) H2) I1 r1 ⟨k, ht, q⟩) fun k s2 hq => by
      obtain ⟨H2, I2, q2⟩ := hq
      exact ⟨.bl (!k), H2, I2, rfl, q2⟩)
theorem px_and {rest : List Expr} (h1 : PE X e1 (TX (zd X) F U a)) (h2 : PE X (.BoolOp .And (e2 :: rest) pos) (TX (zd X) F U b)) : PE X (.BoolOp .And (e1 :: e2 :: rest) pos) (TX (zd X) F U (.and a b)) := by
  refine ⟨fun pins s σ H Q I h => ?_⟩
  obtain ⟨G, ι, m, σw, S, E, hL, P⟩ := h
  refine BoolOp_and (thn (h1.run pins s σ H (fun v H1 => ∃ k, TruV X.K v H1 k ∧ if k = true then TX (zd X) F U b σ H1 Q else Q v H1) I (TX.step S E hL P fun v H1 G1 ι1 m1 w T1 S1 E1 L1 r1 P1 => ?_)) fun v s1 hq => ?_)
  · cases e : tru m1 w with
    | none =>
      rw [e] at P1
      exact P1.elim
    | some k =>
      rw [e] at P1
      refine ⟨k, tru_okW S1 r1 e, ?_⟩
      cases k with
      | true => exact ⟨G1, ι1, m1, σw, S1, E1, L1, P1⟩
      | false => exact Post.here (P1 : Post _ _ _ _ _ _ _ (.ok w m1) Q _) S1 r1
  · obtain ⟨y, H1, I1, r1, k, ht, q⟩ := hq
    refine thn (tru_ok pins s1 σ H1 y v (fun k H2 => H2 = H1 ∧ if k = true then TX (zd X) F U b σ H1 Q else Q y H1) I1 r1 ⟨k, ht, rfl, q⟩) fun k s2 hq => ?_
    obtain ⟨H2, I2, rfl, q2⟩ := hq
    cases k with
    | true => exact h2.run pins s2 σ H2 Q I2 q2
    | false => exact ⟨y, H2, I2, r1, q2⟩
theorem px_or {rest : List Expr} (h1 : PE X e1 (TX (zd X) F U a)) (h2 : PE X (.BoolOp .Or (e2 :: rest) pos) (TX (zd X) F U b)) : PE X (.BoolOp .Or (e1 :: e2 :: rest) pos) (TX (zd X) F U (.or a b)) := by
  refine ⟨fun pins s σ H Q I h => ?_⟩
  obtain ⟨G, ι, m, σw, S, E, hL, P⟩ := h
  refine BoolOp_or (thn (h1.run pins s σ H (fun v H1 => ∃ k, TruV X.K v H1 k ∧ if k = true then Q v H1 else TX (zd X) F U b σ H1 Q) I (TX.step S E hL P fun v H1 G1 ι1 m1 w T1 S1 E1 L1 r1 P1 => ?_)) fun v s1 hq => ?_)
  · cases e : tru m1 w with
    | none =>
      rw [e] at P1
      exact P1.elim
    | some k =>
      rw [e] at P1
      refine ⟨k, tru_okW S1 r1 e, ?_⟩
      cases k with
      | false => exact ⟨G1, ι1, m1, σw, S1, E1, L1, P1⟩
      | true => exact Post.here (P1 : Post _ _ _ _ _ _ _ (.ok w m1) Q _) S1 r1
  · obtain ⟨y, H1, I1, r1, k, ht, q⟩ := hq
    refine thn (tru_ok pins s1 σ H1 y v (fun k H2 => H2 = H1 ∧ if k = true then Q y H1 else TX (zd X) F U b σ H1 Q) I1 r1 ⟨k, ht, rfl, q⟩) fun k s2 hq => ?_
    obtain ⟨H2, I2, rfl, q2⟩ := hq
    cases k with
    | false => exact h2.run pins s2 σ H2 Q I2 q2
    | true => exact ⟨y, H2, I2, r1, q2⟩
theorem tru_wB (m : Sto) (k : Bool) : tru m (wB k) = some k := rfl
theorem px_tnot (h1 : PT X e1 (TXt (zd X) F U a)) : PT X (.UnaryOp .Not e1 pos) (TXt (zd X) F U (.not a)) :=
  PT.of (pt_not h1) fun σ H Q h => by
    obtain ⟨G, ι, m, σw, S, E, hL, P⟩ := h
    have P : Post _ _ _ _ _ _ _ (((evE F a σw m).bind fun x m => (lift (tru m x) m).bind fun k m => .ok (wB (!k)) m).bind fun x m => lift (tru m x) m) Q _ := P
    rw [bind_bind] at P
    refine TXt.step (f := fun x k m => .ok (!k) m) S E hL ?_ fun k H1 G1 ι1 m1 w T1 S1 E1 L1 e1 P1 => Post.here P1 S1 rfl
    have e : (fun (x : W) (m : Sto) => ((lift (tru m x) m).bind fun k m => (Res.ok (wB (!k)) m : Res W)).bind fun x m => lift (tru m x) m) = fun x m => (lift (tru m x) m).bind fun k m => .ok (!k) m := by
      funext x m
      cases tru m x <;> rfl
    rw [e] at P
    exact P
theorem pw_tand {rest : List Expr} (h1 : PT X e1 (TXt (zd X) F U a)) (h2 : PW X (.BoolOp .And (e2 :: rest) pos) (TXt (zd X) F U b)) : PW X (.BoolOp .And (e1 :: e2 :: rest) pos) (TXt (zd X) F U (.and a b)) := by
  have w := pw_and h1 h2
  refine ⟨fun wh pins s σ H Q I h => w.run wh pins s σ H Q I ?_⟩
  obtain ⟨G, ι, m, σw, S, E, hL, P⟩ := h
  have P : Post _ _ _ _ _ _ _ (((evE F a σw m).bind fun x m => (lift (tru m x) m).bind fun k m => match k with | true => evE F b σw m | false => .ok x m).bind fun x m => lift (tru m x) m) Q _ := P
  rw [bind_bind] at P
  have e : (fun (x : W) (m : Sto) => ((lift (tru m x) m).bind fun k m => (match k with | true => evE F b σw m | false => .ok x m : Res W)).bind fun x m => lift (tru m x) m) =
      fun x m => (lift (tru m x) m).bind fun k m => (match k with | true => evE F b σw m | false => .ok x m : Res W).bind fun x m => lift (tru m x) m := by
    funext x m
    rw [bind_bind]
  rw [e] at P
  refine TXt.step S E hL P fun k H1 G1 ι1 m1 w T1 S1 E1 L1 e1 P1 => ?_
  cases k with
  | true => exact ⟨G1, ι1, m1, σw, S1, E1, L1, P1⟩
  | false =>
    have P2 : Post _ _ _ _ _ _ _ (lift (tru m1 w) m1) Q _ := P1
    rw [e1] at P2
    exact P2.here S1 rfl
theorem pw_tor {rest : List Expr} (h1 : PT X e1 (TXt (zd X) F U a)) (h2 : PW X (.BoolOp .Or (e2 :: rest) pos) (TXt (zd X) F U b)) : PW X (.BoolOp .Or (e1 :: e2 :: rest) pos) (TXt (zd X) F U (.or a b)) := by
  have w := pw_or h1 h2
  refine ⟨fun wh pins s σ H Q I h => w.run wh pins s σ H Q I ?_⟩
  obtain ⟨G, ι, m, σw, S, E, hL, P⟩ := h
  have P : Post _ _ _ _ _ _ _ (((evE F a σw m).bind fun x m => (lift (tru m x) m).bind fun k m => match k with | true => .ok x m | false => evE F b σw m).bind fun x m => lift (tru m x) m) Q _ := P
  rw [bind_bind] at P
  have e : (fun (x : W) (m : Sto) => ((lift (tru m x) m).bind fun k m => (match k with | true => .ok x m | false => evE F b σw m : Res W)).bind fun x m => lift (tru m x) m) =
      fun x m => (lift (tru m x) m).bind fun k m => (match k with | true => .ok x m | false => evE F b σw m : Res W).bind fun x m => lift (tru m x) m := by
    funext x m
    rw [bind_bind]
  rw [e] at P
  refine TXt.step S E hL P fun k H1 G1 ι1 m1 w T1 S1 E1 L1 e1 P1 => ?_
  cases k with
  | false => exact ⟨G1, ι1, m1, σw, S1, E1, L1, P1⟩
  | true =>
    have P2 : Post _ _ _ _ _ _ _ (lift (tru m1 w) m1) Q _ := P1
    rw [e1] at P2
    exact P2.here S1 rfl
theorem px_ite (h1 : PT X e1 (TXt (zd X) F U a)) (h2 : PE X e2 (TX (zd X) F U b)) (h3 : PE X e3 (TX (zd X) F U d)) : PE X (.IfExp e1 e2 e3 pos) (TX (zd X) F U (.ite a b d)) :=
  PE.of (pe_ifExp h1 h2 h3) fun σ H Q h => by
    obtain ⟨G, ι, m, σw, S, E, hL, P⟩ := h
    refine TXt.step (f := fun x k m => match k with | true => evE F b σw m | false => evE F d σw m) S E hL P fun k H1 G1 ι1 m1 w T1 S1 E1 L1 e1 P1 => ?_
    cases k with
    | true => exact ⟨G1, ι1, m1, σw, S1, E1, L1, P1⟩
    | false => exact ⟨G1, ι1, m1, σw, S1, E1, L1, P1⟩
theorem px_tite (h1 : PT X e1 (TXt (zd X) F U a)) (h2 : PT X e2 (TXt (zd X) F U b)) (h3 : PT X e3 (TXt (zd X) F U d)) : PT X (.IfExp e1 e2 e3 pos) (TXt (zd X) F U (.ite a b d)) := by
  refine ⟨fun pins s σ H Q I h => ?_⟩
  obtain ⟨G, ι, m, σw, S, E, hL, P⟩ := h
  have P : Post _ _ _ _ _ _ _ (((evE F a σw m).bind fun x m => (lift (tru m x) m).bind fun k m => match k with | true => evE F b σw m | false => evE F d σw m).bind fun x m => lift (tru m x) m) Q _ := P
  rw [bind_bind] at P
  have e : (fun (x : W) (m : Sto) => ((lift (tru m x) m).bind fun k m => (match k with | true => evE F b σw m | false => evE F d σw m : Res W)).bind fun x m => lift (tru m x) m) =
      fun x m => (lift (tru m x) m).bind fun k m => (match k with | true => evE F b σw m | false => evE F d σw m : Res W).bind fun x m => lift (tru m x) m := by
    funext x m
    rw [bind_bind]
  rw [e] at P
  refine isTrue_IfExp (thn (h1.run pins s σ H (fun k H1 => if k = true then TXt (zd X) F U b σ H1 Q else TXt (zd X) F U d σ H1 Q) I (TXt.step S E hL P fun k H1 G1 ι1 m1 w T1 S1 E1 L1 e1 P1 => ?_)) fun k s1 hq => ?_)
  · cases k with
    | true => exact ⟨G1, ι1, m1, σw, S1, E1, L1, P1⟩
    | false => exact ⟨G1, ι1, m1, σw, S1, E1, L1, P1⟩
  · obtain ⟨H1, I1, q⟩ := hq
    cases k with
    | true => exact h2.run pins s1 σ H1 Q I1 q
    | false => exact h3.run pins s1 σ H1 Q I1 q
end
end Mi
/-! Mi, part J: argument lists, displays, calls, subscripts. -/
namespace Mi
open PySem PySem.Spec PyProof.Rows L2
def noSt : Expr → Bool
  | .Starred _ _ => false
  | _ => true
theorem noSt_ok {e : Expr} {es : List Expr} {env : Env} (h : noSt e = true) : starEach (e :: es) env = (false, eval e env) :: starEach es env := by
  cases e <;> first | rfl | cases h
theorem noSt_all {pos : Pos} {env : Env} : ∀ {es : List Expr}, es.all noSt = true → (backTo pos (starEach es env)).any (·.1) = false
  | [], _ => rfl
  | e :: r, h => by
    simp only [List.all_cons, Bool.and_eq_true] at h
    rw [noSt_ok h.1]
    show (false || (backTo pos (starEach r env)).any (·.1)) = false
    rw [noSt_all h.2]
    rfl
theorem noSt_all2 {pos : Pos} {env : Env} : ∀ {es : List Expr}, es.all noSt = true → (backTo pos (starEach es env)).all (fun x => !x.1) = true
  | [], _ => rfl
  | e :: r, h => by
    simp only [List.all_cons, Bool.and_eq_true] at h
    rw [noSt_ok h.1]
    show (!false && (backTo pos (starEach r env)).all (fun x => !x.1)) = true
    rw [noSt_all2 h.2]
    rfl
section
variable {X : Cx} {c : Cc} {F : Fe} {U : WX} {e e1 e2 e3 : Expr} {es : List Expr} {x a b d : Ex} {xs : List Ex} {pos : Pos}
theorem pxs_nil : PA X [] (TXs (zd X) F U []) :=
  PA.of pa_nil fun σ H Q h => by
    obtain ⟨G, ι, m, σw, S, E, hL, P⟩ := h
    exact Post.here (R := RWs (zd X)) P S .nil
theorem pxs_cons (h1 : PE X e (TX (zd X) F U x)) (h2 : PA X es (TXs (zd X) F U xs)) (hs : noSt e = true) (hx : isStar x = false) : PA X (e :: es) (TXs (zd X) F U (x :: xs)) :=
  PA.of (pa_cons h1 h2 (noSt_ok hs)) fun σ H Q h => by
    obtain ⟨G, ι, m, σw, S, E, hL, P⟩ := h
    refine TX.step S E hL P fun v H1 G1 ι1 m1 w T1 S1 E1 L1 r1 P1 => TXs.step S1 E1 L1 P1 fun vs H2 G2 ι2 m2 ws T2 S2 E2 L2 r2 P2 => ?_
    rw [hx] at P2
    exact Post.here P2 S2 (RWs.cons (r1.mono T2.g) r2)
theorem pxs_star {p : Pos} (h1 : PE X e (TX (zd X) F U x)) (h2 : PA X es (TXs (zd X) F U xs)) : PA X (.Starred e p :: es) (TXs (zd X) F U (.star x :: xs)) :=
  PA.of (StX.pa_star h1 h2) fun σ H Q h => by
    obtain ⟨G, ι, m, σw, S, E, hL, P⟩ := h
    have P : Post _ _ _ _ _ _ _ (((evE F x σw m).bind fun x m => lift ((seqOf m x).map W.tup) m).bind fun x m => (evEs F xs σw m).bind fun ys m => .ok (match isStar (.star (default : Ex)), x with
      | true, .tup xs => xs ++ ys
      | _, x => x :: ys) m) Q _ := P
    rw [bind_bind] at P
    refine TX.step S E hL P fun v H1 G1 ι1 m1 w T1 S1 E1 L1 r1 P1 => ?_
    cases q : seqOf m1 w with
    | none =>
      rw [q] at P1
      exact P1.elim
    | some zs =>
      rw [q] at P1
      obtain ⟨p, us, rfl, hs, rs⟩ := seq_rw S1 r1 q
      refine ⟨p, us, rfl, hs.symm, ?_⟩
      exact TXs.step S1 E1 L1 (P1 : Post _ _ _ _ _ _ _ ((evEs F xs σw m1).bind _) Q _) fun vs H2 G2 ι2 m2 ws T2 S2 E2 L2 r2 P2 => Post.here (R := RWs (zd X)) P2 S2 ((rs.mono T2.g).append r2)
/-! ### displays -/
theorem RWs.lim {Z : Wd} {G : Hp} {ι : List Addr} {vs : List V} {ws : List W} (r : RWs Z G ι vs ws) (h : decide (ws.length ≤ Mi.lim) = true) : vs.length ≤ sizeLine := by
  rw [r.length]
  exact le_line (of_decide_eq_true h)
theorem newL_ok {Z : Wd} {L : Nat} {G : Hp} {ι : List Addr} {m : Sto} {H : Hp} {Q : VK} {E : XK} {bx : Bool} {vs : List V} {ws : List W} (S : RS Z G ι m H) (hL : L ≤ m.length) (P : PV Z L G ι m H (newL bx ws m) Q E) (r : RWs Z G ι vs ws) (z : vs.length ≤ sizeLine) :
    ∀ p, H p = none → Q (.ref p) (upd H p (.lst vs)) := by
  cases bx with
  | false => exact new_lst S P r z
  | true =>
    intro p hp
    exact (P : PV Z L G ι m H (.ok (.ref m.length) (m ++ [.lst ws])) Q E) (.ref p) _ G (ι ++ [p]) ⟨grow_box, kp_push hL, fr_box hp⟩ (S.box hp z r) (.ref (by rw [← S.len]; simp))
theorem px_tup {k : Nat} (h1 : PA X es (TXs (zd X) F U xs)) : PE X (.Tuple es k pos) (TX (zd X) F U (.tup xs)) :=
  PE.of (pe_tupF h1) fun σ H Q h => by
    obtain ⟨G, ι, m, σw, S, E, hL, P⟩ := h
    refine TXs.step S E hL P fun vs H1 G1 ι1 m1 ws T1 S1 E1 L1 r1 P1 => ?_
    cases hz : decide (ws.length ≤ lim) with
    | false =>
      rw [hz] at P1
      exact P1.elim
    | true =>
      rw [hz] at P1
      exact ⟨r1.lim hz, new_tup S1 P1 r1 (r1.lim hz)⟩
theorem px_lst {bx : Bool} (h1 : PA X es (TXs (zd X) F U xs)) : PE X (.List es pos) (TX (zd X) F U (.lst bx xs)) :=
  PE.of (pe_lst h1) fun σ H Q h => by
    obtain ⟨G, ι, m, σw, S, E, hL, P⟩ := h
    refine TXs.step S E hL P fun vs H1 G1 ι1 m1 ws T1 S1 E1 L1 r1 P1 => ?_
    cases hz : decide (ws.length ≤ lim) with
    | false =>
      rw [hz] at P1
      exact P1.elim
    | true =>
      rw [hz] at P1
      exact ⟨r1.lim hz, newL_ok S1 L1 P1 r1 (r1.lim hz)⟩
theorem px_dic0 : PE X (.Dict [] [] pos) (TX (zd X) F U .dic0) :=
  PE.of pe_dnewK fun σ H Q h => by
    obtain ⟨G, ι, m, σw, S, E, hL, P⟩ := h
    exact fun p hp => Post.here (Post.shift P (to_new S hp)) (S.new hp True.intro) (.dat (.dic upd_same))
/-! ### calls -/
theorem px_call (O : Ok c X F U) {f : Str} {p : Pos} (hx : es = [] → xs = []) (hh : c.hot = false) (hf : (f, xs.length) ∈ c.fn) (hg : Gl X f) (hd : (f == ("__debug__" : Str)) = false) (h1 : PA X es (TXs (zd X) F U xs)) (hs : es.all noSt = true) :
    PE X (.Call (.Name f p) es [] pos) (TX (zd X) F U (.call f xs)) := by
  obtain ⟨fa, fd, ps, k, G, hr, hm, hk, hb⟩ := (O.call hh f _ hf).ex
  have go : ∀ σ H Q, TX (zd X) F U (.call f xs) σ H Q → TXs (zd X) F U xs σ H fun vs H1 => spW (zd X) xs.length (F.call f) vs H1 Q fun c d H2 => U c d σ H2 := fun σ H Q h => by
    obtain ⟨G, ι, m, σw, S, E, hL, P⟩ := h
    refine TXs.step S E hL P fun vs H1 G1 ι1 m1 ws T1 S1 E1 L1 r1 P1 => ?_
    cases hz : decide (ws.length = xs.length) with
    | false =>
      rw [hz] at P1
      exact P1.elim
    | true =>
      rw [hz] at P1
      exact ⟨by rw [r1.length]; exact of_decide_eq_true hz, F.L, G1, ι1, m1, ws, S1, r1, L1, P1⟩
  cases es with
  | nil =>
    cases hx rfl
    refine PE.of (pe_callg0 (dvs := []) G hr O.gd hg hm hk hb .nil O.tk hd) fun σ H Q h => ?_
    obtain ⟨G, ι, m, σw, S, E, hL, P⟩ := h
    exact ⟨rfl, F.L, G, ι, m, [], S, .nil, hL, P⟩
  | cons e es =>
    simp only [List.all_cons, Bool.and_eq_true] at hs
    refine PE.of (pe_callg (dvs := []) G hr O.gd hg hm hk hb .nil O.tk h1 hd (noSt_ok hs.1) (noSt_all hs.2)) fun σ H Q h => ?_
    have q := go σ H Q h
    simp only [tCallG, List.append_nil]
    exact q
/-- the built-in functions and types -/
theorem px_bi (O : Ok c X F U) {f : Bi} {p : Pos} (hh : c.hot = false ∨ (f ≠ .all ∧ f ≠ .any ∧ f ≠ .max ∧ f ≠ .min)) (hf : biNm f ∈ c.bl) (hg : Gl X (biNm f)) (h1 : PA X (e :: es) (TXs (zd X) F U xs)) (hs : (e :: es).all noSt = true) :
    PE X (.Call (.Name (biNm f) p) (e :: es) [] pos) (TX (zd X) F U (.bi f xs)) := by
  have hm := O.bl _ hf
  obtain ⟨n1, n2⟩ := bi_names f
  simp only [List.all_cons, Bool.and_eq_true] at hs
  have u1 := O.un
  have rule : CallR X (biV f) (rBi X.K f) := bi_rule' X f (fun q => O.calm (hh.resolve_right fun z => q.elim z.1 fun q => q.elim z.2.1 fun q => q.elim z.2.2.1 z.2.2.2)) O.gd (by omega) O.sys
  have main : PE X (.Call (.Name (biNm f) p) (e :: es) [] pos) (tCB (rBi X.K f) (TXs (zd X) F U xs)) := by
    have hb := bi_boot f
    cases f with
    | tuple => exact pe_callTy rule hg hm hb h1 n1 n2 (noSt_ok hs.1) (noSt_all hs.2)
    | str => exact pe_callTy rule hg hm hb h1 n1 n2 (noSt_ok hs.1) (noSt_all hs.2)
    | int => exact pe_callTy rule hg hm hb h1 n1 n2 (noSt_ok hs.1) (noSt_all hs.2)
    | _ => exact pe_callB rule hg hm hb h1 n1 n2 (noSt_ok hs.1) (noSt_all hs.2)
  refine PE.of main fun σ H Q h => ?_
  obtain ⟨G, ι, m, σw, S, E, hL, P⟩ := h
  exact TXs.step S E hL P fun vs H1 G1 ι1 m1 ws T1 S1 E1 L1 r1 P1 => bi_ok S1 r1 P1
/-- list(x) -/
theorem px_cpy (O : Ok c X F U) {bx : Bool} {p : Pos} (hf : ("list" : Str) ∈ c.bl) (hg : Gl X "list") (h1 : PE X e (TX (zd X) F U x)) (hs : noSt e = true) : PE X (.Call (.Name "list" p) [e] [] pos) (TX (zd X) F U (.cpy bx x)) :=
  PE.of (pe_callTy (x := "list") call_list_of hg (O.bl _ hf) boot_list (pa_cons h1 pa_nil (noSt_ok hs)) (by decide) (by decide) (noSt_ok hs) rfl) fun σ H Q h => by
    obtain ⟨G, ι, m, σw, S, E, hL, P⟩ := h
    refine TX.step S E hL P fun v H1 G1 ι1 m1 w T1 S1 E1 L1 r1 P1 => ?_
    cases q : seqOf m1 w with
    | none =>
      rw [q] at P1
      exact P1.elim
    | some zs =>
      rw [q] at P1
      obtain ⟨p, us, rfl, hs, rs⟩ := seq_rw S1 r1 q
      have hz : us.length ≤ sizeLine := hs.elim (fun h => sql_sz S1 h) fun h => tup_sz S1 h
      exact ⟨p, us, rfl, hs, newL_ok S1 L1 (P1 : PV _ _ _ _ _ _ (newL bx zs m1) Q _) rs hz⟩
/-! ### subscripts, slices -/
def noSl : Expr → Bool
  | .Slice _ _ _ _ => false
  | _ => true
theorem noSl_ok {e : Expr} (h : noSl e = true) : PlainIx e := by
  intro o i
  cases e <;> first | rfl | cases h
theorem px_ix (h1 : PE X e1 (TX (zd X) F U a)) (h2 : PE X e2 (TX (zd X) F U b)) (hs : noSl e2 = true) : PE X (.Subscript e1 e2 pos) (TX (zd X) F U (.ix a b)) :=
  PE.of (pe_ix (ix_rule X) h1 h2 (noSl_ok hs)) fun σ H Q h => by
    obtain ⟨G, ι, m, σw, S, E, hL, P⟩ := h
    exact TX.step S E hL P fun v H1 G1 ι1 m1 w T1 S1 E1 L1 r1 P1 => TX.step S1 E1 L1 P1 fun u H2 G2 ι2 m2 z T2 S2 E2 L2 r2 P2 => ix_ok S2 (r1.mono T2.g) r2 P2
theorem pxo_none : PO X none (TXo (zd X) F U none) :=
  PO.of po_none fun σ H Q h => by
    obtain ⟨G, ι, m, σw, S, E, hL, P⟩ := h
    exact Post.here P S rfl
theorem pxo_some (h1 : PE X e (TX (zd X) F U x)) : PO X (some e) (TXo (zd X) F U (some x)) :=
  PO.of (po_some h1) fun σ H Q h => by
    obtain ⟨G, ι, m, σw, S, E, hL, P⟩ := h
    refine TX.step S E hL P fun v H1 G1 ι1 m1 w T1 S1 E1 L1 r1 P1 => ?_
    obtain ⟨z, e, P1⟩ := P1.lift
    obtain ⟨i, e2, rfl⟩ := Option.map_eq_some_iff.mp e
    exact ⟨i, intOf_rw r1 e2, P1.here S1 rfl⟩
theorem px_sl {l u : Option Expr} {lx ux : Option Ex} {p2 : Pos} (h1 : PE X e1 (TX (zd X) F U a)) (h2 : PO X l (TXo (zd X) F U lx)) (h3 : PO X u (TXo (zd X) F U ux)) : PE X (.Subscript e1 (.Slice l u none p2) pos) (TX (zd X) F U (.sl a lx ux)) :=
  PE.of (pe_slice (sl_rule X) h1 h2 h3) fun σ H Q h => by
    obtain ⟨G, ι, m, σw, S, E, hL, P⟩ := h
    exact TX.step S E hL P fun v H1 G1 ι1 m1 w T1 S1 E1 L1 r1 P1 => TXo.step S1 E1 L1 P1 fun i H2 G2 ι2 m2 T2 S2 E2 L2 P2 => TXo.step S2 E2 L2 P2 fun j H3 G3 ι3 m3 T3 S3 E3 L3 P3 => sl_ok S3 ((r1.mono T2.g).mono T3.g) P3
theorem px_rev {k : Nat} {p1 p2 p3 : Pos} (h1 : PE X e1 (TX (zd X) F U a)) : PE X (.Subscript e1 (.Slice none none (some (.UnaryOp .USub (.Constant (.int 1) k p1) p2)) p3) pos) (TX (zd X) F U (.rev a)) :=
  PE.of (pe_rev h1) fun σ H Q h => by
    obtain ⟨G, ι, m, σw, S, E, hL, P⟩ := h
    refine TX.step S E hL P fun v H1 G1 ι1 m1 w T1 S1 E1 L1 r1 P1 => ?_
    replace P1 := P1.lift
    obtain ⟨z, e, P1⟩ := P1
    split at e
    · rename_i ws e1
      cases e
      obtain ⟨p, vs, rfl, h, r⟩ := tup_rw r1 e1
      have h2 := Same.sqt S1.sub h
      exact ⟨p, vs, rfl, .inr ⟨h2, new_tup S1 P1 r.rev (by rw [List.length_reverse]; exact tup_sz S1 h2)⟩⟩
    · obtain ⟨ws, e1, e⟩ := Option.map_eq_some_iff.mp e
      subst e
      obtain ⟨p, vs, rfl, h, r⟩ := lst_rw S1 r1 e1
      exact ⟨p, vs, rfl, .inl ⟨SqL.of h, new_lst S1 P1 r.rev (by rw [List.length_reverse]; exact S1.lsz h)⟩⟩
/-! ### methods -/
def baseOk : Expr → Bool
  | .Call (.Name _ _) [] _ _ => false
  | _ => true
theorem baseOk_ok {o : Expr} {n : Str} {env : Env} (h : baseOk o = true) : attributeBase o n env (eval o env) = eval o env := by
  cases o with
  | Call f es ks p =>
    cases f <;> cases es <;> first | cases h; done | (unfold attributeBase; rfl)
  | _ => unfold attributeBase; rfl
theorem mu_split {Z : Wd} {L : Nat} {G : Hp} {ι : List Addr} {m : Sto} {H : Hp} {Q : VK} {E : XK} {v : V} {x : W} (S : RS Z G ι m H) (hL : L ≤ m.length) (hv : RW Z G ι v x) {vs : List V} {ws : List W} (r : RWs Z G ι vs ws) {q : W × Sto} (e : mutW L .splitB x ws m = some q) (P : PV Z L G ι m H (.ok q.1 q.2) Q E) : rMe Z.K .splitB v vs H Q := by
  unfold mutW at e
  split at e
  · obtain ⟨old, e1, e⟩ := Option.bind_eq_some_iff.mp e
    simp at e
  · split at e
    · obtain ⟨u, rfl, h⟩ := rws1 r
      split at e
      · rename_i hz
        cases e
        cases rw_str hv
        cases rw_str h
        refine ⟨_, _, rfl, rfl, hz.1, ?_, newL_ok (bx := true) S hL P (rw_strs _) ?_⟩
        · have h2 := hz.2
          rw [sizeLine_eq]
          unfold lim at h2
          omega
        · rw [List.length_map]
          have h2 := hz.2
          refine Nat.le_trans (PyProof.Rows.split_le _ _) ?_
          rw [sizeLine_eq]
          unfold lim at h2
          omega
      · cases e
    · cases e
  · cases e
theorem px_met (O : Ok c X F U) {f : Me} {apos : Pos} (h1 : PE X e1 (TX (zd X) F U a)) (h2 : PA X (e :: es) (TXs (zd X) F U xs)) (hs : (e :: es).all noSt = true) (hb : baseOk e1 = true) (hl : (apos.endLine == pos.line) = true) (hn : decide ((e :: es).length < 30) = true) :
    PE X (.Call (.Attribute e1 (meNm f) apos) (e :: es) [] pos) (TX (zd X) F U (.met f a xs)) := by
  have u1 := O.un
  have hs' := hs
  simp only [List.all_cons, Bool.and_eq_true] at hs'
  have hfew : ((backTo pos (starEach (e :: es) X.env)).all (fun x => !x.1) && (backToKw pos (keywordEach [] X.env)).all (fun x => x.1.isSome)
      && decide ((e :: es).length + ([] : List Keyword).length + (if ([] : List Keyword).isEmpty then 0 else 1) < 30)) = true := by
    rw [noSt_all2 hs]
    exact hn
  refine PE.of (pe_bw (me_attrs f) (me_slot f) (me_type f) (me_rule X (by omega) f) h1 h2 (baseOk_ok hb) hfew hl (noSt_ok hs'.1) (noSt_all hs'.2)) fun σ H Q h => ?_
  obtain ⟨G, ι, m, σw, S, E, hL, P⟩ := h
  refine TX.step S E hL P fun v H1 G1 ι1 m1 w T1 S1 E1 L1 r1 P1 => ?_
  cases hr : rcv f w m1 with
  | false =>
    rw [hr] at P1
    exact P1.elim
  | true =>
    rw [hr] at P1
    refine ⟨rcv_ty S1 r1 hr, TXs.step S1 E1 L1 P1 fun vs H2 G2 ι2 m2 ws T2 S2 E2 L2 r2 P2 => ?_⟩
    cases hf : isMut f with
    | false =>
      rw [hf] at P2
      exact me_ok S2 (r1.mono T2.g) r2 P2
    | true =>
      rw [hf] at P2
      cases hq : mutW F.L f w ws m2 with
      | none =>
        rw [hq] at P2
        exact P2.elim
      | some q =>
        rw [hq] at P2
        by_cases hs : f = .splitB
        · subst hs
          exact mu_split S2 L2 (r1.mono T2.g) r2 hq P2
        · exact mu_ok S2 (r1.mono T2.g) r2 hs hq P2
end
end Mi
/-! Mi, part K: isinstance. -/
namespace Mi
open PySem PySem.Spec PyProof.Rows L2
/-- a built-in type's name -/
def tyS : Ty → Option String
  | .str => some "str"
  | .int => some "int"
  | .bool => some "bool"
  | .tuple => some "tuple"
  | .list => some "list"
  | .dict => some "dict"
  | .own _ => none
def tyN : Ty → Str
  | .str => "str"
  | .int => "int"
  | .bool => "bool"
  | .tuple => "tuple"
  | .list => "list"
  | .dict => "dict"
  | .own x => x
theorem ty_boot {t : Ty} {n : String} (h : tyS t = some n) : bootBuiltins (tyN t) = some (.type n) ∧ tyN t ≠ "__name__" ∧ (tyN t == ("__debug__" : Str)) = false := by
  cases t with
  | own x => cases h
  | _ => cases h; exact ⟨by decide +kernel, by decide +kernel, by decide +kernel⟩
theorem kit_none {t : Ty} {n : String} (h : tyS t = some n) : kitB "NoneType" n = some false := by
  cases t with
  | own x => cases h
  | _ => cases h; decide +kernel
theorem kit_fix : ∀ t s : Ty, ∀ n k : String, tyS t = some n → tyS s = some k → kitB n k = some (isiT ⟨fun _ _ _ => .no, fun _ => none, 0, fun _ _ => none, fun _ _ => none, fun _ => none⟩ t s) := by
  intro t s n k h g
  cases t <;> cases s <;> first | (cases h; done) | (cases g; done) | (cases h; cases g; decide +kernel)
theorem kit_two {F : Fe} {t s : Ty} {n k : String} (h : tyS t = some n) (g : tyS s = some k) : kitB n k = some (isiT F t s) := by
  rw [kit_fix t s n k h g]
  cases t <;> cases s <;> first | (cases h; done) | (cases g; done) | rfl
section
variable {Z : Wd} {L : Nat} {G : Hp} {ι : List Addr} {m : Sto} {H : Hp} {v : V} {x : W}
theorem sqt_tyx {K : PySem.W.Frag} {a : Addr} {xs : List V} (h : SqT K H a xs) : TyX K H (.ref a) (.type "tuple") := by
  rcases h with (h | ⟨o, h⟩) | ⟨o, its, n, h, hc, _⟩
  · exact .base (.tup h)
  · exact .fTuple h
  · exact .kTuple h hc
theorem tyx_ok (S : RS Z G ι m H) (hv : RW Z G ι v x) : (x = .dat .none ∧ TyX Z.K H v (.type "NoneType")) ∨ ∀ t n, tyOf m x = some t → tyS t = some n → TyX Z.K H v (.type n) := by
  cases hv with
  | dat r =>
    cases r with
    | non => exact .inl ⟨rfl, .base .non⟩
    | bl b => exact .inr fun t n e1 e2 => by cases e1; cases e2; exact .base (.bl b)
    | int b => exact .inr fun t n e1 e2 => by cases e1; cases e2; exact .base (.int b)
    | str b => exact .inr fun t n e1 e2 => by cases e1; cases e2; exact .base (.str b)
    | lst h _ => exact .inr fun t n e1 e2 => by cases e1; cases e2; exact .base (.lst (S.sub _ _ h))
    | tup h _ => exact .inr fun t n e1 e2 => by cases e1; cases e2; exact sqt_tyx (Same.sqt S.sub h.sqt)
    | dic h => exact .inr fun t n e1 e2 => by cases e1; cases e2; exact .base (.dK (S.sub _ _ h))
  | tup h _ => exact .inr fun t n e1 e2 => by cases e1; cases e2; exact sqt_tyx (Same.sqt S.sub h)
  | lst h _ => exact .inr fun t n e1 e2 => by cases e1; cases e2; exact .base (.lst (S.sub _ _ h))
  | @ref a i h =>
    refine .inr fun t n e1 e2 => ?_
    unfold tyOf at e1
    cases q : m[i]? with
    | none =>
      simp only [q] at e1
      cases e1
    | some c =>
      obtain ⟨b, hb, hc⟩ := S.cell i c q
      rw [h] at hb
      cases hb
      cases c with
      | lst ws =>
        simp only [q] at e1
        cases e1
        cases e2
        obtain ⟨vs, h1, _⟩ := hc
        exact .base (.lst h1)
      | dic _ => exact hc.elim
      | ins _ _ => exact hc.elim
  | glo h => exact .inr fun t n e1 e2 => by cases e1
  | scr h => exact .inr fun t n e1 e2 => by cases e1
  | tab _ _ _ _ _ _ => exact .inr fun t n e1 e2 => by cases e1
end
section
variable {X : Cx} {c : Cc} {F : Fe} {U : WX} {e : Expr} {x : Ex} {pos : Pos}
/-- isinstance(e, T), T a built-in type -/
theorem px_isi (O : Ok c X F U) {t : Ty} {n : String} {p p2 : Pos} (ht : tyS t = some n) (hi : ("isinstance" : Str) ∈ c.bl) (hgi : Gl X "isinstance") (hf : tyN t ∈ c.bl) (hg : Gl X (tyN t)) (h1 : PE X e (TX (zd X) F U x)) (hs : noSt e = true) :
    PE X (.Call (.Name "isinstance" p) [e, .Name (tyN t) p2] [] pos) (TX (zd X) F U (.isi x [t])) := by
  obtain ⟨b1, b2, b3⟩ := ty_boot ht
  refine PE.of (pe_callB (x := "isinstance") call_isi hgi (O.bl _ hi) boot_isinstance (pa_cons h1 (pa_cons (pe_bltn (v := .ty n) hg (O.bl _ hf) b1 rfl b2 b3) pa_nil rfl) (noSt_ok hs)) (by decide) (by decide) (noSt_ok hs) rfl) fun σ H Q h => ?_
  obtain ⟨G, ι, m, σw, S, E, hL, P⟩ := h
  refine TX.step S E hL P fun v H1 G1 ι1 m1 w T1 S1 E1 L1 r1 P1 => ?_
  obtain ⟨z, e, P1⟩ := P1.lift
  obtain ⟨k, e2, rfl⟩ := Option.map_eq_some_iff.mp e
  have q := P1.here S1 (.dat (.bl k))
  show rIsi _ _ _ _
  rcases tyx_ok S1 r1 with ⟨rfl, ty⟩ | ty
  · have ek : false = k := Option.some.inj e2
    subst ek
    exact ⟨v, .ty n, _, _, false, rfl, .ty n, ty, kit_ty (kit_none ht), q⟩
  · unfold isiW at e2
    split at e2
    · have ek : false = k := Option.some.inj e2
      subst ek
      cases rw_non r1
      exact ⟨.non, .ty n, _, _, false, rfl, .ty n, .base .non, kit_ty (kit_none ht), q⟩
    · obtain ⟨s, e3, e4⟩ := Option.map_eq_some_iff.mp e2
      have hk : tyS s = none ∨ ∃ k, tyS s = some k := by cases tyS s <;> simp
      rcases hk with hk | ⟨k2, hk⟩
      · exfalso
        cases s with
        | own y =>
          unfold tyOf at e3
          split at e3 <;> first | cases e3 | skip
          · cases r1
          · rename_i i _
            cases r1 with
            | ref h =>
              cases q2 : m1[i]? with
              | none =>
                rw [q2] at e3
                cases e3
              | some cc =>
                obtain ⟨b, _, hc⟩ := S1.cell i cc q2
                rw [q2] at e3
                cases cc with
                | lst _ => cases e3
                | dic _ => exact hc.elim
                | ins _ _ => exact hc.elim
        | _ => cases hk
      · refine ⟨v, .ty n, _, _, k, rfl, .ty n, ty s k2 e3 hk, kit_ty ?_, q⟩
        rw [kit_two (F := F) hk ht, ← e4]
        simp
end
end Mi
set_option maxHeartbeats 2000000
/-! Mi, part L: enumerate and zip over lists and tuples in any mix, as HandS iterators. -/
namespace Mi
open PySem PySem.Spec PyProof.Rows L2
/-! ### a list or a tuple (b: a tuple) -/
def SqB (b : Bool) (K : PySem.W.Frag) (H : Hp) (a : Addr) (xs : List V) : Prop := match b with
  | true => SqT K H a xs
  | false => SqL K H a xs
def IsSq (b : Bool) (h : Heap) (a : Addr) (its : Array Value) : Prop := match b with
  | true => h.IsTuple a its
  | false => h.IsList a its
def IsSi (b : Bool) (h : Heap) (it a : Addr) (i : Nat) : Prop := match b with
  | true => h.IsTupleIter it a i
  | false => h.IsListIter it a i
def siO (b : Bool) (a : Addr) : Obj := match b with
  | true => { cls := .type "tuple_iterator", data := .fields #[.ref a, .int 0 0] }
  | false => { cls := .type "list_iterator", data := .fields #[.ref a, .int 0 0] }
section
variable {X : Cx} {pins : List (Addr × Obj)} {σ : L2.St} {H : Hp} {s : Shared} {a : Addr} {xs ys : List V}
theorem sqB_at {b : Bool} (I : Inv X pins σ H s) (h : SqB b X.K H a xs) : ∃ its : List Value, Vals xs its ∧ IsSq b s.heap a its.toArray ∧ a < s.heap.objs.size := by
  cases b with
  | true =>
    obtain ⟨its, r, p, _⟩ := I.tuple h
    exact ⟨its, r, p, p.lt⟩
  | false =>
    obtain ⟨its, r, p, _⟩ := I.list h
    exact ⟨its, r, p.isList, p.lt⟩
theorem sqB_inj {b : Bool} (I : Inv X pins σ H s) (h : SqB b X.K H a xs) (h' : SqB b X.K H a ys) : xs = ys := by
  cases b with
  | true => exact I.tuple_inj h h'
  | false => exact I.list_inj h h'
theorem isSi_obj {b : Bool} {h : Heap} {it : Addr} {i : Nat} (x : IsSi b h it a i) : ∃ o, h.get? it = some o ∧ ∀ v, o.data ≠ .cell v := by
  cases b with
  | true =>
    obtain ⟨o, e, _, d⟩ := x
    exact ⟨o, e, fun v q => by rw [d] at q; cases q⟩
  | false =>
    obtain ⟨o, e, _, d⟩ := x
    exact ⟨o, e, fun v q => by rw [d] at q; cases q⟩
theorem isSi_at {b : Bool} {h h' : Heap} {it : Addr} {i : Nat} (x : IsSi b h it a i) (k : ∀ o, h.get? it = some o → h'.get? it = some o) : IsSi b h' it a i := by
  cases b with
  | true => exact Heap.IsTupleIter.at x k
  | false => exact Heap.IsListIter.at x k
theorem isSi_new {b : Bool} {h : Heap} {it : Addr} (e : h.get? it = some (siO b a)) : IsSi b h it a 0 := by
  cases b with
  | true => exact ⟨_, e, rfl, rfl⟩
  | false => exact ⟨_, e, rfl, rfl⟩
theorem draws_seq {prog : Program} {w : World} {A : Around} (b : Bool) (hh : A.handled = none) (it l : Addr) (hne : l ≠ it) (items : Array Value) :
    Draws prog w A it [it, l] items.size (fun i v => items[i]? = some v) (fun i h => IsSi b h it l i ∧ IsSq b h l items) := by
  cases b with
  | true => exact Draws.tuple hh it l hne items
  | false => exact Draws.list hh it l hne items
theorem begins_seq (b : Bool) (l : Addr) (items : Array Value) : Begins (.ref l) (siO b l) fun h => IsSq b h l items := by
  cases b with
  | true => exact begins_tuple l items
  | false => exact begins_list l items
end
/-! ### enumerate -/
def ItE (K : PySem.W.Frag) (b : Bool) (a : Addr) (k : Int) : It :=
  ⟨fun i H => ∃ (xs : List V) (x : V), SqB b K H a xs ∧ xs[i]? = some x,
    fun i H v H' => ∃ T x, v = .ref T ∧ H T = none ∧ H' = upd H T (.tup [.int (k + (i : Nat)), x]) ∧ ∀ xs, SqB b K H a xs → xs[i]? = some x,
    fun i H => ∃ xs : List V, SqB b K H a xs ∧ xs.length = i⟩
theorem turn_enumB {P : Program} {w : World} {K : PySem.W.Frag} {elts : List Expr} {kk : Nat} {tpos : Pos} {b : Bool} {k : Int} (a e it : Addr) (hei : e ≠ it) (hea : e ≠ a) (hai : a ≠ it) :
    Turn P w K (.Tuple elts kk tpos) (ItE K b a k) [e, it] e (fun i h => (∃ old, IsEnum h e it (k + ((i : Nat) : Int)) old) ∧ IsSi b h it a i) where
  mem := by simp
  obj := fun i h st c hc => by
    obtain ⟨⟨old, he⟩, hi⟩ := st
    have e' : c = e ∨ c = it := by simpa using hc
    rcases e' with z | z
    · rw [z]; exact ⟨_, he, fun v q => nomatch q⟩
    · rw [z]; exact isSi_obj hi
  keep := fun i h h' st kp => let ⟨⟨old, he⟩, hi⟩ := st; ⟨⟨old, kp e (by simp) _ he⟩, isSi_at hi fun o q => kp it (by simp) o q⟩
  item := by
    intro X hP hw hK hc i pins s σ H E I hf st hg
    subst hP hw hK
    obtain ⟨he, hit⟩ := st
    obtain ⟨xs, x, hq, hx⟩ := hg
    obtain ⟨its, rv, p, _⟩ := sqB_at I hq
    obtain ⟨u, hu, ru⟩ := rv.get hx
    have D := draws_seq (prog := X.prog) (w := X.w) (A := X.A.in1) b (I.ok.hd hc) it a hai its.toArray
    have Wk := WalksT.enumFrom k D e hei (by simp [hei, hea]) (by simp)
    have hi : i < its.toArray.size := by
      rw [List.size_toArray]
      exact (List.getElem?_eq_some_iff.mp hu).1
    refine Wk.item i s _ _ hi ⟨he, hit, p⟩ fun T vals h' tk hP hT hTup hM hk => ⟨_, rfl, ?_⟩
    refine Wk.go elts kk tpos i T _ _ _ hM fun h'' st'' hk'' => ?_
    obtain ⟨t, y, hy, ev⟩ := hP
    have ey : y = u := by
      have hy' : its.toArray[i]? = some y := hy
      have hu' : its.toArray[i]? = some u := by simpa using hu
      rw [hu'] at hy'
      exact (Option.some.inj hy').symm
    subst ey
    subst ev
    have hne : T ∉ [e, it] := Wk.apart i T h' hM
    obtain ⟨oT, g1, g2, n, g3⟩ := hTup
    have new : ObjOk X.prog X.w (upd H T (.tup [.int (k + (i : Nat)), x])) h'' T (.tup [.int (k + (i : Nat)), x]) :=
      ⟨by show 2 ≤ sizeLine; decide, [.int (k + (i : Int)) t, y], .cons ⟨_, rfl⟩ (.cons ru .nil), ⟨oT, hk'' T _ hne g1, g2, n, g3⟩⟩
    have I1 : Inv X pins σ (upd H T (.tup [.int (k + (i : Nat)), x])) { s with heap := h'', toks := tk } := I.turnedNew (ch := [e, it]) (fun c o hc q => hk'' c o hc (hk c o hc q)) hf hT new
    refine ⟨.ref T, _, I1, rfl, ⟨T, x, rfl, I.hok.fresh hT, rfl, fun ys hy => by rw [sqB_inj I hy hq]; exact hx⟩, ⟨st''.1, st''.2.1⟩, fun c hc => ?_⟩
    have hlt : c < s.heap.objs.size := by
      have e' : c = e ∨ c = it := by simpa using hc
      obtain ⟨⟨old, h1⟩, ⟨o, h2, _⟩⟩ := (⟨he, isSi_obj hit⟩ : (∃ old, IsEnum s.heap e it (k + ((i : Nat) : Int)) old) ∧ ∃ o, s.heap.get? it = some o ∧ ∀ v, o.data ≠ .cell v)
      rcases e' with z | z
      · rw [z]; exact Heap.lt_size h1
      · rw [z]; exact Heap.lt_size h2
    rw [upd_ne (Nat.ne_of_lt (Nat.lt_of_lt_of_le hlt hT))]
    exact (hf c hc).1
  done := by
    intro X hP hw hK hc i pins s σ H E I hf st hg
    subst hP hw hK
    obtain ⟨he, hit⟩ := st
    obtain ⟨xs, hq, hl⟩ := hg
    obtain ⟨its, rv, p, _⟩ := sqB_at I hq
    have D := draws_seq (prog := X.prog) (w := X.w) (A := X.A.in1) b (I.ok.hd hc) it a hai its.toArray
    have Wk := WalksT.enumFrom k D e hei (by simp [hei, hea]) (by simp)
    have hn : its.toArray.size = i := by rw [List.size_toArray, ← rv.length, hl]
    refine Wk.done s _ _ (by rw [hn]; exact ⟨he, hit, p⟩) fun h' tk hk => ⟨rfl, I.turnedL (t' := tk) (ch := [e, it]) hk hf⟩
  self := fun A i s Q E st h => let ⟨⟨_, he⟩, _⟩ := st; wpAny_pyIter_enum he h
/-- enumerate(v), one argument -/
theorem meets_enum1 {v : Value} {o : Obj} {H : Heap → Prop} (B : Begins v o H) :
    Meets (Builtin.«enumerate.__new__» ⟨[.type "enumerate", v], []⟩) (fun _ R s => H s.heap ∧
      R (.ok (.ret (.ref (s.heap.push o).objs.size))) { s with heap := (s.heap.push o).push { cls := .type "enumerate", data := .fields #[.none, .bool false, .ref s.heap.objs.size, rawInt 0, .none, .none] } }) :=
  .of_wp fun prog w A R s h => by
    obtain ⟨hp, g, d, tk, os⟩ := s; obtain ⟨h1, h⟩ := h
    have hsub := sub_enumerate
    have q1 : ∀ {A' : Around} {E : Value → Shared → Prop} {Q : Value → Shared → Prop}, Q (.ref hp.objs.size) ⟨hp.push o, g, d, tk, os⟩ → wpAny (model prog w) A' (pyIter v) Q E ⟨hp, g, d, tk, os⟩ :=
      fun q => B.iter prog w _ _ ⟨hp, g, d, tk, os⟩ _ h1 q
    wp_walk using q1
    first
    | exact ⟨_, rfl, h⟩
    | (refine wpAny_stack_any fun st => wpAny_pure ?_
       split
       · rename_i c _ _ _ _ _
         cases (c == Value.type "enumerate")
         · wp_walk using q1
           exact ⟨_, rfl, h⟩
         · wp_walk using q1
           exact ⟨_, rfl, h⟩
       · wp_walk using q1
         exact ⟨_, rfl, h⟩)
theorem enum_begins1 {prog : Program} {w : World} {A : Around} {E : Value → Shared → Prop} {s : Shared} {v : Value} {o : Obj} {H : Heap → Prop} {Q : Value → Shared → Prop} (B : Begins v o H) (h1 : H s.heap)
    (h : ∀ h', IsEnum h' (s.heap.objs.size + 1) s.heap.objs.size 0 .none → h'.get? s.heap.objs.size = some o → (∀ b o, s.heap.get? b = some o → h'.get? b = some o) → Q (.ref (s.heap.objs.size + 1)) { s with heap := h' }) :
    wpAny (model prog w) A (call (.type "enumerate") [v]) Q E s := by
  refine callType_new F.called_enumerate (by decide) (F.typeCall_enumerate_1 _) (F.newCall_enumerate_1 _) (fun obj => F.args_object_init_2 obj _) F.entry_enumerate_new (meets_enum1 B) ⟨h1, ?_⟩
  have hz : (s.heap.push o).objs.size = s.heap.objs.size + 1 := Heap.size_push ..
  show _ ∧ _
  rw [hz]
  have he : IsEnum ((s.heap.push o).push { cls := .type "enumerate", data := .fields #[.none, .bool false, .ref s.heap.objs.size, rawInt 0, .none, .none] }) (s.heap.objs.size + 1) s.heap.objs.size 0 .none := by
    have := Heap.get?_push_size (s.heap.push o) (o := { cls := .type "enumerate", data := .fields #[.none, .bool false, .ref s.heap.objs.size, rawInt 0, .none, .none] }) rfl
    rw [hz] at this; exact this
  exact ⟨⟨_, he, rfl⟩, h _ he (Heap.get?_push_of_some _ (Heap.get?_push_size _ B.free)) fun b o x => Heap.get?_push_of_some _ (Heap.get?_push_of_some _ x)⟩
def iEnumB (K : PySem.W.Frag) (ta : TA) : TI := fun σ H R => ta σ H fun vs H1 => ∃ b a xs, vs = [.ref a] ∧ SqB b K H1 a xs ∧ R (ItE K b a 0) H1
theorem pi_enumB {X : Cx} {e : Expr} {ta : TA} {p pos tpos : Pos} {elts : List Expr} {kk : Nat} (hg : Gl X "enumerate") (hm : X.mg "enumerate" = none) (ha : PA X [e] ta) (hs : starEach [e] X.env = [(false, eval e X.env)]) :
    PI X (.Tuple elts kk tpos) (.Call (.Name "enumerate" p) [e] [] pos) (iEnumB X.K ta) := by
  refine ⟨fun pins s σ H R I h => Call_ (ld_blt I hg hm boot_enumerate (PyProof.Rows.callWith_type1 (thn (ha.run pos pins s σ H _ I h) fun us s1 hq => ?_) hs rfl))⟩
  obtain ⟨vs, H1, I1, r1, b, a, xs, ex, hq, q⟩ := hq
  subst ex
  obtain ⟨u, rfl, ru⟩ := vals1 r1
  cases ru
  obtain ⟨its, rv, sq, hlt⟩ := sqB_at I1 hq
  refine enum_begins1 (begins_seq b a its.toArray) sq fun h' he hit hk => wpAny_pyIter_enum he ?_
  have I2 : Inv X pins σ H1 { s1 with heap := h' } := I1.kept (t' := s1.toks) hk
  refine ⟨s1.heap.objs.size + 1, [s1.heap.objs.size + 1, s1.heap.objs.size], _, _, H1, rfl, I2, turn_enumB a (s1.heap.objs.size + 1) s1.heap.objs.size (Nat.succ_ne_self _) (Nat.ne_of_gt (Nat.lt_succ_of_lt hlt)) (Nat.ne_of_lt hlt), ⟨⟨.none, by simpa using he⟩, isSi_new hit⟩, fun c hc => ?_, q⟩
  have hle : s1.heap.objs.size ≤ c := by
    have e' : c = s1.heap.objs.size + 1 ∨ c = s1.heap.objs.size := by simpa using hc
    rcases e' with z | z
    · rw [z]; exact Nat.le_succ _
    · rw [z]; exact Nat.le_refl _
  exact I1.fpOk hle (I1.hok.fresh hle)
theorem sep2 (n a1 a2 : Nat) (h1 : a1 < n) (h2 : a2 < n) : ZipSep2 (n + 4) (n + 2) (n + 3) n (n + 1) [n, a1] [n + 1, a2] := by
  have q : ∀ i j : Nat, i ≠ j → @Ne Addr (n + i) (n + j) := fun i j h e => h (Nat.add_left_cancel e)
  have l : ∀ i a : Nat, a < n → @Ne Addr (n + i) a := fun i a h e => absurd (Nat.lt_of_le_of_lt (Nat.le_add_right n i) (Nat.lt_of_le_of_lt (Nat.le_of_eq e) h)) (Nat.lt_irrefl _)
  have nm : ∀ {a b c : Addr}, a ≠ b → a ≠ c → a ∉ [b, c] := fun h1 h2 h => by
    rcases List.mem_cons.mp h with e | h
    · exact h1 e
    · exact h2 (List.mem_singleton.mp h)
  exact ⟨q 2 4 (by decide), q 3 4 (by decide), q 2 3 (by decide), q 2 0 (by decide), List.mem_cons_self .., nm (q 4 0 (by decide)) (l 4 a1 h1), nm (q 3 0 (by decide)) (l 3 a1 h1), q 2 1 (by decide), List.mem_cons_self ..,
    nm (q 4 1 (by decide)) (l 4 a2 h2), nm (q 3 1 (by decide)) (l 3 a2 h2), nm (q 0 1 (by decide)) (l 0 a2 h2), nm (q 1 0 (by decide)) (l 1 a1 h1)⟩
theorem le5 {n c : Nat} (h : c ∈ [n + 4, n + 2, n + 3, n, n + 1]) : n ≤ c := by
  simp at h
  omega
/-! ### zip of two -/
def ItZ (K : PySem.W.Frag) (b1 b2 : Bool) (a1 a2 : Addr) : It :=
  ⟨fun i H => ∃ (xs ys : List V) (x y : V), SqB b1 K H a1 xs ∧ SqB b2 K H a2 ys ∧ xs[i]? = some x ∧ ys[i]? = some y,
    fun i H v H' => ∃ T x y, v = .ref T ∧ H T = none ∧ H' = upd H T (.tup [x, y]) ∧ (∀ xs, SqB b1 K H a1 xs → xs[i]? = some x) ∧ ∀ ys, SqB b2 K H a2 ys → ys[i]? = some y,
    fun i H => ∃ xs ys : List V, SqB b1 K H a1 xs ∧ SqB b2 K H a2 ys ∧ min xs.length ys.length = i⟩
theorem turn_zipB {P : Program} {w : World} {K : PySem.W.Frag} {elts : List Expr} {kk : Nat} {tpos : Pos} {b1 b2 : Bool} {a1 a2 z TI TO i1 i2 : Addr} (S : ZipSep2 z TI TO i1 i2 [i1, a1] [i2, a2]) (h1 : a1 ≠ i1) (h2 : a2 ≠ i2) :
    Turn P w K (.Tuple elts kk tpos) (ItZ K b1 b2 a1 a2) [z, TI, TO, i1, i2] z (fun i h => IsZip h z TI TO .none ∧ IsTupOf2 h TI (.ref i1) (.ref i2) ∧ (∃ x y, IsTupOf2 h TO x y) ∧ IsSi b1 h i1 a1 i ∧ IsSi b2 h i2 a2 i) where
  mem := by simp
  obj := fun i h st c hc => by
    obtain ⟨hz, hTI, ⟨x, y, hTO⟩, k1, k2⟩ := st
    have e' : c = z ∨ c = TI ∨ c = TO ∨ c = i1 ∨ c = i2 := by simpa using hc
    rcases e' with q | q | q | q | q
    · rw [q]; exact ⟨_, hz, fun v q => nomatch q⟩
    · rw [q]; exact ⟨_, hTI, fun v q => nomatch q⟩
    · rw [q]; exact ⟨_, hTO, fun v q => nomatch q⟩
    · rw [q]; exact isSi_obj k1
    · rw [q]; exact isSi_obj k2
  keep := fun i h h' st k => by
    obtain ⟨hz, hTI, ⟨x, y, hTO⟩, k1, k2⟩ := st
    exact ⟨k z (by simp) _ hz, k TI (by simp) _ hTI, ⟨x, y, k TO (by simp) _ hTO⟩, isSi_at k1 fun o q => k i1 (by simp) o q, isSi_at k2 fun o q => k i2 (by simp) o q⟩
  item := by
    intro X hP hw hK hc i pins s σ H E I hf st hg
    subst hP hw hK
    obtain ⟨hz, hTI, hTO, k1, k2⟩ := st
    obtain ⟨xs, ys, x, y, hqx, hqy, hx, hy⟩ := hg
    obtain ⟨its, rv, p, _⟩ := sqB_at I hqx
    obtain ⟨its2, rv2, p2, _⟩ := sqB_at I hqy
    obtain ⟨u, hu, ru⟩ := rv.get hx
    obtain ⟨u2, hu2, ru2⟩ := rv2.get hy
    have D1 := draws_seq (prog := X.prog) (w := X.w) (A := X.A.in1) b1 (I.ok.hd hc) i1 a1 h1 its.toArray
    have D2 := draws_seq (prog := X.prog) (w := X.w) (A := X.A.in1) b2 (I.ok.hd hc) i2 a2 h2 its2.toArray
    have Wk := WalksT.zipD2 S D1 D2
    have hi : i < min its.toArray.size its2.toArray.size := by
      rw [List.size_toArray, List.size_toArray]
      have l1 := (List.getElem?_eq_some_iff.mp hu).1
      have l2 := (List.getElem?_eq_some_iff.mp hu2).1
      omega
    refine Wk.item i s _ _ hi ⟨hz, hTI, hTO, ⟨k1, p⟩, ⟨k2, p2⟩⟩ fun T vals h' tk hP hT hTup hM hk => ⟨_, rfl, ?_⟩
    refine Wk.go elts kk tpos i T _ _ _ hM fun h'' st'' hk'' => ?_
    obtain ⟨v1, v2, hv1, hv2, ev⟩ := hP
    have e1 : v1 = u := by
      have q1 : its.toArray[i]? = some v1 := hv1
      have q2 : its.toArray[i]? = some u := by simpa using hu
      rw [q2] at q1
      exact (Option.some.inj q1).symm
    have e2 : v2 = u2 := by
      have q1 : its2.toArray[i]? = some v2 := hv2
      have q2 : its2.toArray[i]? = some u2 := by simpa using hu2
      rw [q2] at q1
      exact (Option.some.inj q1).symm
    subst e1 e2 ev
    have hne : T ∉ [z, TO, i1, i2] := Wk.apart i T h' hM
    obtain ⟨oT, g1, g2, n, g3⟩ := hTup
    have new : ObjOk X.prog X.w (upd H T (.tup [x, y])) h'' T (.tup [x, y]) := ⟨by show 2 ≤ sizeLine; decide, [v1, v2], .cons ru (.cons ru2 .nil), ⟨oT, hk'' T _ hne g1, g2, n, g3⟩⟩
    have sub : ∀ c, c ∉ [z, TI, TO, i1, i2] → c ∉ [z, TO, i1, i2] := fun c hc hm => hc (by
      have e' : c = z ∨ c = TO ∨ c = i1 ∨ c = i2 := by simpa using hm
      rcases e' with q | q | q | q <;> simp [q])
    have I1 : Inv X pins σ (upd H T (.tup [x, y])) { s with heap := h'', toks := tk } := I.turnedNew (ch := [z, TI, TO, i1, i2]) (fun c o hc q => hk'' c o (sub c hc) (hk c o (sub c hc) q)) hf hT new
    refine ⟨.ref T, _, I1, rfl, ⟨T, x, y, rfl, I.hok.fresh hT, rfl, fun l hl => by rw [sqB_inj I hl hqx]; exact hx, fun l hl => by rw [sqB_inj I hl hqy]; exact hy⟩, ⟨st''.1, st''.2.1, st''.2.2.1, st''.2.2.2.1.1, st''.2.2.2.2.1⟩, fun c hcm => ?_⟩
    have hlt : c < s.heap.objs.size := by
      have e' : c = z ∨ c = TI ∨ c = TO ∨ c = i1 ∨ c = i2 := by simpa using hcm
      obtain ⟨x0, y0, hTO⟩ := hTO
      obtain ⟨o1, g4, _⟩ := isSi_obj k1
      obtain ⟨o2, g5, _⟩ := isSi_obj k2
      rcases e' with q | q | q | q | q
      · rw [q]; exact Heap.lt_size hz
      · rw [q]; exact Heap.lt_size hTI
      · rw [q]; exact Heap.lt_size hTO
      · rw [q]; exact Heap.lt_size g4
      · rw [q]; exact Heap.lt_size g5
    rw [upd_ne (Nat.ne_of_lt (Nat.lt_of_lt_of_le hlt hT))]
    exact (hf c hcm).1
  done := by
    intro X hP hw hK hc i pins s σ H E I hf st hg
    subst hP hw hK
    obtain ⟨hz, hTI, hTO, k1, k2⟩ := st
    obtain ⟨xs, ys, hqx, hqy, hl⟩ := hg
    obtain ⟨its, rv, p, _⟩ := sqB_at I hqx
    obtain ⟨its2, rv2, p2, _⟩ := sqB_at I hqy
    have D1 := draws_seq (prog := X.prog) (w := X.w) (A := X.A.in1) b1 (I.ok.hd hc) i1 a1 h1 its.toArray
    have D2 := draws_seq (prog := X.prog) (w := X.w) (A := X.A.in1) b2 (I.ok.hd hc) i2 a2 h2 its2.toArray
    have Wk := WalksT.zipD2 S D1 D2
    have hn : min its.toArray.size its2.toArray.size = i := by rw [List.size_toArray, List.size_toArray, ← rv.length, ← rv2.length, hl]
    have sub : ∀ c, c ∉ [z, TI, TO, i1, i2] → c ∉ [z, TO, i1, i2] := fun c hc hm => hc (by
      have e' : c = z ∨ c = TO ∨ c = i1 ∨ c = i2 := by simpa using hm
      rcases e' with q | q | q | q <;> simp [q])
    refine Wk.done s _ _ (by rw [hn]; exact ⟨hz, hTI, hTO, ⟨k1, p⟩, ⟨k2, p2⟩⟩) fun h' tk hk => ⟨rfl, I.turnedL (t' := tk) (ch := [z, TI, TO, i1, i2]) (fun c o hc q => hk c o (sub c hc) q) hf⟩
  self := fun A i s Q E st h => wpAny_pyIter_zip st.1 h
def iZipB (K : PySem.W.Frag) (ta : TA) : TI := fun σ H R => ta σ H fun vs H1 => ∃ b1 b2 a1 a2 xs ys, vs = [.ref a1, .ref a2] ∧ SqB b1 K H1 a1 xs ∧ SqB b2 K H1 a2 ys ∧ R (ItZ K b1 b2 a1 a2) H1
theorem pi_zipB {X : Cx} {e e2 : Expr} {ta : TA} {p pos tpos : Pos} {elts : List Expr} {kk : Nat} (hg : Gl X "zip") (hm : X.mg "zip" = none) (ha : PA X [e, e2] ta) (hs : starEach [e, e2] X.env = (false, eval e X.env) :: starEach [e2] X.env)
    (hpl : (backTo pos (starEach [e2] X.env)).any (·.1) = false) : PI X (.Tuple elts kk tpos) (.Call (.Name "zip" p) [e, e2] [] pos) (iZipB X.K ta) := by
  refine ⟨fun pins s σ H R I h => Call_ (ld_blt I hg hm PyProof.Rows.boot_zip (PyProof.Rows.callWith_type1 (thn (ha.run pos pins s σ H _ I h) fun us s1 hq => ?_) hs hpl))⟩
  obtain ⟨vs, H1, I1, r1, b1, b2, a1, a2, xs, ys, ex, hqx, hqy, q⟩ := hq
  subst ex
  obtain ⟨u1, u2, rfl, ru1, ru2⟩ := vals2 r1
  cases ru1
  cases ru2
  obtain ⟨its, rv, sq, hlt⟩ := sqB_at I1 hqx
  obtain ⟨its2, rv2, sq2, hlt2⟩ := sqB_at I1 hqy
  refine zip_begins2 (begins_seq b1 a1 its.toArray) (begins_seq b2 a2 its2.toArray) sq sq2 fun h' hz hTI hTO g1 g2 hsz hk => wpAny_pyIter_zip hz ?_
  have I2 : Inv X pins σ H1 { s1 with heap := h' } := I1.kept (t' := s1.toks) hk
  refine ⟨s1.heap.objs.size + 4, [s1.heap.objs.size + 4, s1.heap.objs.size + 2, s1.heap.objs.size + 3, s1.heap.objs.size, s1.heap.objs.size + 1], _, _, H1, rfl, I2, turn_zipB (a1 := a1) (a2 := a2) (sep2 _ a1 a2 hlt hlt2) (Nat.ne_of_lt hlt) (Nat.ne_of_lt (Nat.lt_succ_of_lt hlt2)),
    ⟨hz, hTI, ⟨_, _, hTO⟩, isSi_new g1, isSi_new g2⟩, fun c hc => ?_, q⟩
  have hle : s1.heap.objs.size ≤ c := le5 hc
  exact I1.fpOk hle (I1.hok.fresh hle)
/-! ### any walked value -/
def itOf (K : PySem.W.Frag) (b : Bool) (a : Addr) : It := match b with
  | true => Itt K a
  | false => Itl K a
def iVal (K : PySem.W.Frag) (te : TE) : TI := fun σ H R => te σ H fun v H1 => (∃ b a xs, v = .ref a ∧ SqB b K H1 a xs ∧ R (itOf K b a) H1) ∨ ∃ x, v = .str x ∧ R (Its x) H1
theorem pi_val {X : Cx} {tg e : Expr} {te : TE} (he : PE X e te) : PI X tg e (iVal X.K te) := by
  refine ⟨fun pins s σ H R I h => thn (he.run pins s σ H _ I h) fun v s1 hq => ?_⟩
  obtain ⟨y, H1, I1, r1, q1⟩ := hq
  rcases q1 with ⟨b, a, xs, ey, hs, q⟩ | ⟨x, ey, q⟩
  · subst ey
    cases r1
    cases b with
    | true =>
      obtain ⟨its, rv, p, hz⟩ := I1.tuple hs
      exact wpAny_pyIter_tuple (show s1.heap.IsTuple a its.toArray from p) (pi_one (tk := s1.toks) I1 _ (turn_tuple a _) ⟨_, Heap.get?_push_size _ rfl, rfl, rfl⟩ q)
    | false =>
      obtain ⟨its, rv, p, hz⟩ := I1.list hs
      exact wpAny_pyIter_list p.isList (pi_one (tk := s1.toks) I1 _ (turn_list a _) ⟨_, Heap.get?_push_size _ rfl, rfl, rfl⟩ q)
  · subst ey
    obtain ⟨t, rfl⟩ := r1
    cases ha : x.cps.all (· < 128)
    · exact wpAny_pyIter_wide ha (pi_one (tk := s1.toks) I1 _ (turn_str _ x t "str_iterator" (.inr rfl)) ⟨_, Heap.get?_push_size _ rfl, rfl, rfl⟩ q)
    · exact wpAny_pyIter_ascii ha (pi_one (tk := s1.toks) I1 _ (turn_str _ x t "str_ascii_iterator" (.inl rfl)) ⟨_, Heap.get?_push_size _ rfl, rfl, rfl⟩ q)
end Mi
/-! Mi, part M: what is walked, targets. -/
namespace Mi
open PySem PySem.Spec PyProof.Rows L2
/-- the iterator J goes through ws, wherever the walked lists stay -/
structure Wk (Z : Wd) (G : Hp) (ι : List Addr) (J : It) (ws : List W) (gs : List (Nat × List W)) : Prop where
  go : ∀ (i : Nat) (G' : Hp) (ι' : List Addr) (m' : Sto) (H : Hp), Grow G ι G' ι' → RS Z G' ι' m' H → gOk m' gs → i < ws.length → J.go i H
  yld : ∀ (i : Nat) (w : W) (G' : Hp) (ι' : List Addr) (m' : Sto) (H : Hp) (x : V) (H' : Hp), Grow G ι G' ι' → RS Z G' ι' m' H → gOk m' gs → ws[i]? = some w → J.yld i H x H' → ∃ G'', To 0 G' ι' m' H G'' ι' m' H' ∧ RS Z G'' ι' m' H' ∧ RW Z G'' ι' x w
  stop : ∀ (G' : Hp) (ι' : List Addr) (m' : Sto) (H : Hp), Grow G ι G' ι' → RS Z G' ι' m' H → gOk m' gs → J.stop ws.length H
theorem To.any {L L' : Nat} {G : Hp} {ι : List Addr} {m : Sto} {H : Hp} {G' : Hp} {ι' : List Addr} {H' : Hp} (t : To L G ι m H G' ι' m H') : To L' G ι m H G' ι' m H' := ⟨t.g, Kp.refl _ _, t.f⟩
section
variable {Z : Wd} {G : Hp} {ι : List Addr} {m : Sto} {H : Hp} {v : V} {x : W}
/-- a sequence that stays, wherever its list stays -/
def SqSt (Z : Wd) (G : Hp) (ι : List Addr) (b : Bool) (a : Addr) (ws : List W) (gs : List (Nat × List W)) : Prop :=
  ∀ (G' : Hp) (ι' : List Addr) (m' : Sto) (H : Hp), Grow G ι G' ι' → RS Z G' ι' m' H → gOk m' gs → ∃ vs, SqB b Z.K H a vs ∧ RWs Z G' ι' vs ws
theorem SqSt.mono {b : Bool} {a : Addr} {ws : List W} {gs gs' : List (Nat × List W)} (h : SqSt Z G ι b a ws gs) (k : ∀ g ∈ gs, g ∈ gs') : SqSt Z G ι b a ws gs' := fun G' ι' m' H g S q => h G' ι' m' H g S fun p hp => q p (k p hp)
theorem seq_st (hv : RW Z G ι v x) {ws : List W} (e : seqOf m x = some ws) : ∃ b a, v = .ref a ∧ SqSt Z G ι b a ws (grd1 m x) := by
  unfold seqOf at e
  cases q : tupOf x with
  | some zs =>
    rw [q] at e
    cases e
    obtain ⟨a, vs, rfl, h, r⟩ := tup_rw hv q
    exact ⟨true, a, rfl, fun G' ι' m' H g S _ => ⟨vs, Same.sqt (g.g.trans S.sub) h, r.mono g⟩⟩
  | none =>
    rw [q] at e
    cases hv with
    | dat r =>
      cases r with
      | lst h1 h2 => cases e; exact ⟨false, _, rfl, fun G' ι' m' H g S _ => ⟨_, SqL.of (S.sub _ _ (g.g _ _ h1)), (RDs.mono g.g h2).rws⟩⟩
      | _ => cases e
    | lst h1 h2 => cases e; exact ⟨false, _, rfl, fun G' ι' m' H g S _ => ⟨_, SqL.of (S.sub _ _ (g.g _ _ h1)), h2.mono g⟩⟩
    | @ref a i h =>
      refine ⟨false, a, rfl, fun G' ι' m' H g S q => ?_⟩
      have e' : cellL m i = some ws := e
      have q' := q (i, (cellL m i).getD []) (List.mem_singleton.mpr rfl)
      rw [e'] at q'
      obtain ⟨vs, h1, h2⟩ := S.lst (pre_get g.i h) q'
      exact ⟨vs, SqL.of h1, h2⟩
    | _ => cases e
theorem gOk_app {gs hs : List (Nat × List W)} : gOk m (gs ++ hs) ↔ gOk m gs ∧ gOk m hs := by
  unfold gOk
  simp only [List.mem_append]
  exact ⟨fun h => ⟨fun g hg => h g (.inl hg), fun g hg => h g (.inr hg)⟩, fun h g hg => hg.elim (h.1 g) (h.2 g)⟩
theorem enumW_get : ∀ {ws : List W} {n i : Nat} {w : W}, (enumW n ws)[i]? = some w → ∃ z, ws[i]? = some z ∧ w = .tup [wI ((n + i : Nat) : Int), z]
  | [], n, i, w, e => by simp [enumW] at e
  | z :: r, n, 0, w, e => by
    simp [enumW] at e
    exact ⟨z, rfl, e.symm⟩
  | z :: r, n, i + 1, w, e => by
    obtain ⟨y, h1, h2⟩ := enumW_get (ws := r) (n := n + 1) (i := i) (w := w) (by simpa [enumW] using e)
    exact ⟨y, by simpa using h1, by rw [h2, show n + 1 + i = n + (i + 1) by omega]⟩
theorem enumW_len : ∀ (ws : List W) (n : Nat), (enumW n ws).length = ws.length
  | [], _ => rfl
  | _ :: r, n => by simp [enumW, enumW_len r (n + 1)]
theorem zipW_get : ∀ {ws zs : List W} {i : Nat} {w : W}, (zipW ws zs)[i]? = some w → ∃ y z, ws[i]? = some y ∧ zs[i]? = some z ∧ w = .tup [y, z]
  | [], zs, i, w, e => by cases zs <;> simp [zipW] at e
  | _ :: _, [], i, w, e => by simp [zipW] at e
  | y :: r, z :: q, 0, w, e => by
    simp [zipW] at e
    exact ⟨y, z, rfl, rfl, e.symm⟩
  | y :: r, z :: q, i + 1, w, e => by
    obtain ⟨a, b, h1, h2, h3⟩ := zipW_get (ws := r) (zs := q) (i := i) (w := w) (by simpa [zipW] using e)
    exact ⟨a, b, by simpa using h1, by simpa using h2, h3⟩
theorem zipW_len : ∀ (ws zs : List W), (zipW ws zs).length = min ws.length zs.length
  | [], zs => by cases zs <;> simp [zipW]
  | _ :: _, [] => by simp [zipW]
  | _ :: r, _ :: q => by simp [zipW, zipW_len r q]
/-- a new pair -/
theorem yld_pair {G' : Hp} {ι' : List Addr} {m' : Sto} {T : Addr} {v1 v2 : V} {w1 w2 : W} (S : RS Z G' ι' m' H) (hT : H T = none) (r1 : RW Z G' ι' v1 w1) (r2 : RW Z G' ι' v2 w2) :
    ∃ G'', To 0 G' ι' m' H G'' ι' m' (upd H T (.tup [v1, v2])) ∧ RS Z G'' ι' m' (upd H T (.tup [v1, v2])) ∧ RW Z G'' ι' (.ref T) (.tup [w1, w2]) :=
  have g := grow_new (ι := ι') (o := .tup [v1, v2]) (S.free hT).1
  ⟨upd G' T (.tup [v1, v2]), to_new S hT, S.new hT (by show 2 ≤ sizeLine; decide), .tup (SqT.of upd_same) (.cons (r1.mono g) (.cons (r2.mono g) .nil))⟩
theorem wk_seq {b : Bool} {a : Addr} {ws : List W} {gs : List (Nat × List W)} (h : SqSt Z G ι b a ws gs) : Wk Z G ι (itOf Z.K b a) ws gs := by
  cases b with
  | true =>
    refine ⟨fun i G' ι' m' H g S q hi => ?_, fun i w G' ι' m' H x H' g S q e y => ?_, fun G' ι' m' H g S q => ?_⟩
    · obtain ⟨vs, h1, h2⟩ := h G' ι' m' H g S q
      have hl : i < vs.length := by rw [h2.length]; exact hi
      exact ⟨vs, vs[i], h1, by simp [hl]⟩
    · obtain ⟨vs, h1, h2⟩ := h G' ι' m' H g S q
      obtain ⟨rfl, y⟩ := y
      obtain ⟨z, e1, r⟩ := h2.get e
      have := y vs h1
      rw [e1] at this
      cases this
      exact ⟨G', To.refl, S, r⟩
    · obtain ⟨vs, h1, h2⟩ := h G' ι' m' H g S q
      exact ⟨vs, h1, by rw [h2.length]; exact Nat.le_refl _⟩
  | false =>
    refine ⟨fun i G' ι' m' H g S q hi => ?_, fun i w G' ι' m' H x H' g S q e y => ?_, fun G' ι' m' H g S q => ?_⟩
    · obtain ⟨vs, h1, h2⟩ := h G' ι' m' H g S q
      have hl : i < vs.length := by rw [h2.length]; exact hi
      exact ⟨vs, vs[i], h1, by simp [hl]⟩
    · obtain ⟨vs, h1, h2⟩ := h G' ι' m' H g S q
      obtain ⟨rfl, y⟩ := y
      obtain ⟨z, e1, r⟩ := h2.get e
      have := y vs h1
      rw [e1] at this
      cases this
      exact ⟨G', To.refl, S, r⟩
    · obtain ⟨vs, h1, h2⟩ := h G' ι' m' H g S q
      exact ⟨vs, h1, by rw [h2.length]; exact Nat.le_refl _⟩
theorem wk_enum {b : Bool} {a : Addr} {ws : List W} {gs : List (Nat × List W)} (h : SqSt Z G ι b a ws gs) : Wk Z G ι (ItE Z.K b a 0) (enumW 0 ws) gs := by
  refine ⟨fun i G' ι' m' H g S q hi => ?_, fun i w G' ι' m' H x H' g S q e y => ?_, fun G' ι' m' H g S q => ?_⟩
  · obtain ⟨vs, h1, h2⟩ := h G' ι' m' H g S q
    rw [enumW_len] at hi
    have hl : i < vs.length := by rw [h2.length]; exact hi
    exact ⟨vs, vs[i], h1, by simp [hl]⟩
  · obtain ⟨vs, h1, h2⟩ := h G' ι' m' H g S q
    obtain ⟨T, y0, rfl, hT, rfl, hy⟩ := y
    obtain ⟨z, e1, rfl⟩ := enumW_get e
    obtain ⟨u, e2, r⟩ := h2.get e1
    have := hy vs h1
    rw [e2] at this
    cases this
    have ei : (0 : Int) + (i : Nat) = ((0 + i : Nat) : Int) := by omega
    rw [ei]
    exact yld_pair S hT (.dat (.int _)) r
  · obtain ⟨vs, h1, h2⟩ := h G' ι' m' H g S q
    exact ⟨vs, h1, by rw [h2.length, enumW_len]⟩
theorem wk_zip {b1 b2 : Bool} {a1 a2 : Addr} {ws zs : List W} {gs : List (Nat × List W)} (h1 : SqSt Z G ι b1 a1 ws gs) (h2 : SqSt Z G ι b2 a2 zs gs) : Wk Z G ι (ItZ Z.K b1 b2 a1 a2) (zipW ws zs) gs := by
  refine ⟨fun i G' ι' m' H g S q hi => ?_, fun i w G' ι' m' H x H' g S q e y => ?_, fun G' ι' m' H g S q => ?_⟩
  · obtain ⟨vs, k1, r1⟩ := h1 G' ι' m' H g S q
    obtain ⟨us, k2, r2⟩ := h2 G' ι' m' H g S q
    rw [zipW_len] at hi
    have hl : i < vs.length := by rw [r1.length]; omega
    have hl2 : i < us.length := by rw [r2.length]; omega
    exact ⟨vs, us, vs[i], us[i], k1, k2, by simp [hl], by simp [hl2]⟩
  · obtain ⟨vs, k1, r1⟩ := h1 G' ι' m' H g S q
    obtain ⟨us, k2, r2⟩ := h2 G' ι' m' H g S q
    obtain ⟨T, y0, z0, rfl, hT, rfl, hy, hz⟩ := y
    obtain ⟨p, q', e1, e2, rfl⟩ := zipW_get e
    obtain ⟨u, e3, ru⟩ := r1.get e1
    obtain ⟨u', e4, ru'⟩ := r2.get e2
    have t1 := hy vs k1
    have t2 := hz us k2
    rw [e3] at t1
    rw [e4] at t2
    cases t1
    cases t2
    exact yld_pair S hT ru ru'
  · obtain ⟨vs, k1, r1⟩ := h1 G' ι' m' H g S q
    obtain ⟨us, k2, r2⟩ := h2 G' ι' m' H g S q
    exact ⟨vs, us, k1, k2, by rw [r1.length, r2.length, zipW_len]⟩
theorem wk_str {x : Str} : Wk Z G ι (Its x) (x.cps.toList.map fun c => wS ⟨#[c]⟩) [] := by
  refine ⟨fun i G' ι' m' H g S q hi => ?_, fun i w G' ι' m' H y H' g S q e h => ?_, fun G' ι' m' H g S q => ?_⟩
  · rw [List.length_map, Array.length_toList] at hi
    exact hi
  · obtain ⟨rfl, c, hc, rfl⟩ := h
    rw [List.getElem?_map, Array.getElem?_toList, hc] at e
    cases e
    exact ⟨G', To.refl, S, .dat (.str _)⟩
  · rw [List.length_map, Array.length_toList]
    exact Nat.le_refl _
theorem wk_rng {n : Nat} : Wk Z G ι (Itr 0 n) ((List.range n).map fun (n : Nat) => wI n) [] := by
  refine ⟨fun i G' ι' m' H g S q hi => ?_, fun i w G' ι' m' H y H' g S q e h => ?_, fun G' ι' m' H g S q => ?_⟩
  · rw [List.length_map, List.length_range] at hi
    exact hi
  · obtain ⟨rfl, rfl⟩ := h
    rw [List.getElem?_map] at e
    obtain ⟨k, hk, rfl⟩ := Option.map_eq_some_iff.mp e
    have ek : k = i := by
      have hi : i < n := by
        have := (List.getElem?_eq_some_iff.mp hk).1
        rw [List.length_range] at this
        exact this
      rw [List.getElem?_range hi] at hk
      exact (Option.some.inj hk).symm
    subst ek
    rw [Int.zero_add]
    exact ⟨G', To.refl, S, .dat (.int _)⟩
  · rw [List.length_map, List.length_range]
    exact Nat.le_refl _
end
/-! ### an iterator's reading -/
def TXi (Z : Wd) (F : Fe) (U : WX) (x : Ex) : TI := fun σ H R => ∃ G ι m σw, RS Z G ι m H ∧ REn Z G ι σ σw ∧ F.L ≤ m.length ∧
  Post Z (fun G' ι' (J : It) (p : List W × List (Nat × List W)) => Wk Z G' ι' J p.1 p.2) F.L G ι m H ((evE F x σw m).bind fun w m => (lift (iterOf m w) m).bind fun ws m => .ok (ws, grds m w) m) R (fun c d H' => U c d σ H')
theorem PI.of {X : Cx} {tg e : Expr} {t t' : TI} (h : PI X tg e t) (k : ∀ σ H Q, t' σ H Q → t σ H Q) : PI X tg e t' := ⟨fun pins s σ H Q I q => h.run pins s σ H Q I (k σ H Q q)⟩
def notItr : Ex → Bool
  | .itEnum _ => false
  | .itZip _ _ => false
  | .itRng _ => false
  | _ => true
section
variable {X : Cx} {c : Cc} {F : Fe} {U : WX} {e e1 e2 tg : Expr} {es : List Expr} {x a b : Ex} {pos : Pos}
theorem grd1_ok {m : Sto} {w : W} {ws : List W} (e : seqOf m w = some ws) : gOk m (grd1 m w) := by
  intro g hg
  unfold grd1 at hg
  split at hg
  · rename_i i
    rcases List.mem_singleton.mp hg with rfl
    have e' : cellL m i = some ws := e
    show cellL m i = some ((cellL m i).getD [])
    rw [e']
    rfl
  · cases hg
theorem iter_plain {m : Sto} {G : Hp} {ι : List Addr} {H : Hp} {Z : Wd} {v : V} {w : W} {ws : List W} (S : RS Z G ι m H) (r : RW Z G ι v w) (e : iterOf m w = some ws) :
    (∃ b a xs, v = .ref a ∧ SqB b Z.K H a xs ∧ Wk Z G ι (itOf Z.K b a) ws (grds m w)) ∨ ∃ x, v = .str x ∧ Wk Z G ι (Its x) ws (grds m w) := by
  have main : ∀ {ws : List W}, seqOf m w = some ws → grd1 m w = grds m w → ∃ b a xs, v = .ref a ∧ SqB b Z.K H a xs ∧ Wk Z G ι (itOf Z.K b a) ws (grds m w) := fun {ws} e eg => by
    obtain ⟨b, a, rfl, h⟩ := seq_st r e
    rw [eg] at h
    obtain ⟨a', vs, e1, hs, _⟩ := seq_rw S r e
    cases e1
    have hg : gOk m (grds m w) := by
      rw [← eg]
      exact grd1_ok e
    obtain ⟨us, h1, _⟩ := h G ι m H (Grow.refl _ _) S hg
    exact ⟨b, a, us, rfl, h1, wk_seq h⟩
  cases w with
  | dat d =>
    cases d with
    | str z =>
      cases rw_str r
      cases e
      exact .inr ⟨z, rfl, wk_str⟩
    | _ => exact .inl (main e rfl)
  | itr k xs => cases r
  | _ => exact .inl (main e rfl)
theorem pxi_val (h1 : PE X e (TX (zd X) F U x)) (hx : notItr x = true) : PI X tg e (TXi (zd X) F U x) :=
  PI.of (pi_val h1) fun σ H R h => by
    obtain ⟨G, ι, m, σw, S, E, hL, P⟩ := h
    refine TX.step S E hL P fun v H1 G1 ι1 m1 w T1 S1 E1 L1 r1 P1 => ?_
    cases q : iterOf m1 w with
    | none =>
      rw [q] at P1
      exact P1.elim
    | some ws =>
      rw [q] at P1
      have P2 : Post (zd X) (fun G' ι' (J : It) (p : List W × List (Nat × List W)) => Wk (zd X) G' ι' J p.1 p.2) F.L G1 ι1 m1 H1 (.ok (ws, grds m1 w) m1) R _ := P1
      rcases iter_plain S1 r1 q with ⟨b, a, xs, rfl, hs, hw⟩ | ⟨z, rfl, hw⟩
      · exact .inl ⟨b, a, xs, rfl, hs, P2.here S1 hw⟩
      · exact .inr ⟨z, rfl, P2.here S1 hw⟩
theorem pxi_enum (O : Ok c X F U) {elts : List Expr} {kk : Nat} {p tpos : Pos} (hf : ("enumerate" : Str) ∈ c.bl) (hg : Gl X "enumerate") (h1 : PE X e (TX (zd X) F U x)) (hs : noSt e = true) : PI X (.Tuple elts kk tpos) (.Call (.Name "enumerate" p) [e] [] pos) (TXi (zd X) F U (.itEnum x)) :=
  PI.of (pi_enumB hg (O.bl _ hf) (pa_cons h1 pa_nil (noSt_ok hs)) (noSt_ok hs)) fun σ H R h => by
    obtain ⟨G, ι, m, σw, S, E, hL, P⟩ := h
    have P : Post _ _ _ _ _ _ _ (((evE F x σw m).bind fun x m => .ok (.itr 0 [x]) m).bind fun w m => (lift (iterOf m w) m).bind fun ws m => .ok (ws, grds m w) m) R _ := P
    rw [bind_bind] at P
    refine TX.step S E hL P fun v H1 G1 ι1 m1 w T1 S1 E1 L1 r1 P1 => ?_
    have P1 : Post (zd X) (fun G' ι' (J : It) (p : List W × List (Nat × List W)) => Wk (zd X) G' ι' J p.1 p.2) F.L G1 ι1 m1 H1 ((lift ((seqOf m1 w).map (enumW 0)) m1).bind fun ws m => .ok (ws, [w].flatMap (grd1 m)) m) R _ := P1
    cases q : seqOf m1 w with
    | none =>
      rw [q] at P1
      exact P1.elim
    | some ws =>
      rw [q] at P1
      obtain ⟨b, a, rfl, h⟩ := seq_st r1 q
      obtain ⟨vs, k1, _⟩ := h G1 ι1 m1 H1 (Grow.refl _ _) S1 (grd1_ok q)
      refine ⟨b, a, vs, rfl, k1, Post.here (P1 : Post _ _ _ _ _ _ _ (.ok (enumW 0 ws, [w].flatMap (grd1 m1)) m1) R _) S1 ?_⟩
      have eg : [w].flatMap (grd1 m1) = grd1 m1 w := by simp
      rw [eg]
      exact wk_enum h
theorem pxi_zip (O : Ok c X F U) {elts : List Expr} {kk : Nat} {p tpos : Pos} (hf : ("zip" : Str) ∈ c.bl) (hg : Gl X "zip") (h1 : PE X e1 (TX (zd X) F U a)) (h2 : PE X e2 (TX (zd X) F U b)) (hs : noSt e1 = true) (hs2 : noSt e2 = true) :
    PI X (.Tuple elts kk tpos) (.Call (.Name "zip" p) [e1, e2] [] pos) (TXi (zd X) F U (.itZip a b)) :=
  PI.of (pi_zipB hg (O.bl _ hf) (pa_cons h1 (pa_cons h2 pa_nil (noSt_ok hs2)) (noSt_ok hs)) (noSt_ok hs) (noSt_all (by simp [hs2]))) fun σ H R h => by
    obtain ⟨G, ι, m, σw, S, E, hL, P⟩ := h
    have P : Post _ _ _ _ _ _ _ (((evE F a σw m).bind fun x m => (evE F b σw m).bind fun y m => .ok (.itr 1 [x, y]) m).bind fun w m => (lift (iterOf m w) m).bind fun ws m => .ok (ws, grds m w) m) R _ := P
    rw [bind_bind] at P
    refine TX.step S E hL P fun v H1 G1 ι1 m1 w T1 S1 E1 L1 r1 P1 => ?_
    rw [bind_bind] at P1
    refine TX.step S1 E1 L1 P1 fun u H2 G2 ι2 m2 z T2 S2 E2 L2 r2 P2 => ?_
    have P2 : Post (zd X) (fun G' ι' (J : It) (p : List W × List (Nat × List W)) => Wk (zd X) G' ι' J p.1 p.2) F.L G2 ι2 m2 H2 ((lift ((seqOf m2 w).bind fun ws => (seqOf m2 z).map (zipW ws)) m2).bind fun ws m => .ok (ws, [w, z].flatMap (grd1 m)) m) R _ := P2
    cases q : seqOf m2 w with
    | none =>
      rw [q] at P2
      exact P2.elim
    | some ws =>
      cases q2 : seqOf m2 z with
      | none =>
        rw [q, q2] at P2
        exact P2.elim
      | some zs =>
        rw [q, q2] at P2
        obtain ⟨b1, a1, rfl, k1⟩ := seq_st (r1.mono T2.g) q
        obtain ⟨b2, a2, rfl, k2⟩ := seq_st r2 q2
        obtain ⟨vs, j1, _⟩ := k1 G2 ι2 m2 H2 (Grow.refl _ _) S2 (grd1_ok q)
        obtain ⟨us, j2, _⟩ := k2 G2 ι2 m2 H2 (Grow.refl _ _) S2 (grd1_ok q2)
        refine ⟨b1, b2, a1, a2, vs, us, rfl, j1, j2, Post.here (P2 : Post _ _ _ _ _ _ _ (.ok (zipW ws zs, [w, z].flatMap (grd1 m2)) m2) R _) S2 ?_⟩
        exact wk_zip (k1.mono fun g hg => by simp [hg]) (k2.mono fun g hg => by simp [hg])
theorem pxi_rng (O : Ok c X F U) {p : Pos} (hf : ("range" : Str) ∈ c.bl) (hg : Gl X "range") (h1 : PE X e (TX (zd X) F U x)) (hs : noSt e = true) : PI X tg (.Call (.Name "range" p) [e] [] pos) (TXi (zd X) F U (.itRng x)) :=
  PI.of (pi_range1 hg (O.bl _ hf) (pa_cons h1 pa_nil (noSt_ok hs)) (noSt_ok hs)) fun σ H R h => by
    obtain ⟨G, ι, m, σw, S, E, hL, P⟩ := h
    have P : Post _ _ _ _ _ _ _ (((evE F x σw m).bind fun x m => .ok (.itr 2 [x]) m).bind fun w m => (lift (iterOf m w) m).bind fun ws m => .ok (ws, grds m w) m) R _ := P
    rw [bind_bind] at P
    refine TX.step S E hL P fun v H1 G1 ι1 m1 w T1 S1 E1 L1 r1 P1 => ?_
    have hw : (∃ i, w = .dat (.int i)) ∨ iterOf m1 (.itr 2 [w]) = none := by
      cases w with
      | dat d => cases d <;> first | exact .inl ⟨_, rfl⟩ | exact .inr rfl
      | _ => exact .inr rfl
    rcases hw with ⟨i, rfl⟩ | hw
    · cases rw_int r1
      have P1 : Post (zd X) (fun G' ι' (J : It) (p : List W × List (Nat × List W)) => Wk (zd X) G' ι' J p.1 p.2) F.L G1 ι1 m1 H1 ((lift (if -100000 ≤ i ∧ i ≤ 100000 then some ((List.range i.toNat).map fun (n : Nat) => wI n) else none) m1).bind fun ws m => .ok (ws, []) m) R _ := P1
      by_cases hi : -100000 ≤ i ∧ i ≤ 100000
      · rw [if_pos hi] at P1
        exact ⟨i, rfl, by omega, by omega, Post.here (P1 : Post _ _ _ _ _ _ _ (.ok ((List.range i.toNat).map fun (n : Nat) => wI n, []) m1) R _) S1 wk_rng⟩
      · rw [if_neg hi] at P1
        exact P1.elim
    · have P1 : Post (zd X) (fun G' ι' (J : It) (p : List W × List (Nat × List W)) => Wk (zd X) G' ι' J p.1 p.2) F.L G1 ι1 m1 H1 ((lift (iterOf m1 (.itr 2 [w])) m1).bind fun ws m => .ok (ws, grds m (.itr 2 [w])) m) R _ := P1
      rw [hw] at P1
      exact P1.elim
end
end Mi
/-! Mi, part N: targets, list comprehensions. -/
namespace Mi
open PySem PySem.Spec PyProof.Rows L2
section
variable {Z : Wd} {G : Hp} {ι : List Addr} {m : Sto} {H : Hp} {σ : L2.St} {σw : En}
theorem getV_set {σw : En} {i j : Nat} {o : Option W} : getV (σw.set i o) j = if i = j then (if i < σw.length then o else none) else getV σw j := by
  unfold getV
  by_cases h : i = j
  · subst h
    rw [if_pos rfl]
    by_cases hl : i < σw.length
    · rw [List.getElem?_set_self hl, if_pos hl]
      cases o <;> rfl
    · rw [if_neg hl, List.getElem?_eq_none (by simpa using hl)]
  · rw [if_neg h, List.getElem?_set_ne h]
theorem REn.set (E : REn Z G ι σ σw) {v : V} {w : W} (r : RW Z G ι v w) (i : Nat) : REn Z G ι (σ.set i (some v)) (σw.set i (some w)) := by
  refine ⟨by simp [E.1], fun j z e => ?_⟩
  rw [getV_set] at e
  by_cases h : i = j
  · subst h
    rw [if_pos rfl] at e
    split at e
    · rename_i hl
      cases e
      exact ⟨v, List.getElem?_set_self (by rw [E.1]; exact hl), r⟩
    · cases e
  · rw [if_neg h] at e
    obtain ⟨u, h1, h2⟩ := E.2 j z e
    exact ⟨u, by rw [List.getElem?_set_ne h]; exact h1, h2⟩
theorem REn.gone (E : REn Z G ι σ σw) (i : Nat) : REn Z G ι (σ.set i none) (σw.set i none) := by
  refine ⟨by simp [E.1], fun j z e => ?_⟩
  rw [getV_set] at e
  by_cases h : i = j
  · subst h
    rw [if_pos rfl] at e
    split at e <;> cases e
  · rw [if_neg h] at e
    obtain ⟨u, h1, h2⟩ := E.2 j z e
    exact ⟨u, by rw [List.getElem?_set_ne h]; exact h1, h2⟩
theorem REn.wipe (E : REn Z G ι σ σw) : ∀ vs : List Nat, REn Z G ι (wipe σ vs) (wipeE σw vs)
  | [] => E
  | v :: vs => (REn.wipe E vs).gone v
theorem wipe_get (σ : L2.St) : ∀ (vs : List Nat) (j : Nat), (wipe σ vs)[j]? = if j ∈ vs ∧ j < σ.length then some none else σ[j]?
  | [], j => by simp [L2.wipe]
  | v :: vs, j => by
    have hl := wipe_length σ vs
    unfold L2.wipe
    by_cases h : v = j
    · subst h
      by_cases hv : v < σ.length
      · rw [List.getElem?_set_self (by rw [hl]; exact hv), if_pos ⟨List.mem_cons_self .., hv⟩]
      · rw [List.getElem?_eq_none (by rw [List.length_set, hl]; omega), if_neg (fun q => hv q.2), List.getElem?_eq_none (by omega)]
    · rw [List.getElem?_set_ne h, wipe_get σ vs j]
      have e : (j ∈ v :: vs ∧ j < σ.length) ↔ (j ∈ vs ∧ j < σ.length) := by
        simp only [List.mem_cons]
        exact ⟨fun q => ⟨q.1.resolve_left fun z => h z.symm, q.2⟩, fun q => ⟨.inr q.1, q.2⟩⟩
      simp only [e]
theorem wipe_set {i : Nat} {o : Option V} {vs : List Nat} (h : i ∈ vs) : wipe (σ.set i o) vs = wipe σ vs := by
  apply List.ext_getElem?
  intro j
  rw [wipe_get, wipe_get, List.length_set]
  by_cases hj : j ∈ vs ∧ j < σ.length
  · rw [if_pos hj, if_pos hj]
  · rw [if_neg hj, if_neg hj]
    by_cases e : i = j
    · subst e
      have hl : ¬ i < σ.length := fun z => hj ⟨h, z⟩
      rw [List.getElem?_eq_none (by simpa using hl), List.getElem?_eq_none (by simpa using hl)]
    · rw [List.getElem?_set_ne e]
/-! ### targets -/
def TGb (Z : Wd) (ts : List Nat) : TG := fun v σ H Q => ∃ G ι m σw w σw', RS Z G ι m H ∧ REn Z G ι σ σw ∧ RW Z G ι v w ∧ bindT m σw ts w = some σw' ∧
  ∀ σ', REn Z G ι σ' σw' → (∀ vs, (∀ i ∈ ts, i ∈ vs) → wipe σ' vs = wipe σ vs) → Q σ' H
def gNames : List Nat → TGs
  | [] => gNil
  | i :: is => gCons (gName i) (gNames is)
theorem setAll_ok {Q : L2.St → Hp → Prop} : ∀ {is : List Nat} {vs : List V} {ws : List W} {σ : L2.St} {σw σw' : En}, REn Z G ι σ σw → RWs Z G ι vs ws → setAll σw is ws = some σw' →
    (∀ σ', REn Z G ι σ' σw' → (∀ vs, (∀ i ∈ is, i ∈ vs) → wipe σ' vs = wipe σ vs) → Q σ' H) → gNames is vs σ H Q
  | [], _, _, σ, σw, σw', E, .nil, e, q => by
    cases e
    exact ⟨rfl, q σ E fun _ _ => rfl⟩
  | i :: is, _, _, σ, σw, σw', E, .cons r rs, e, q => by
    refine ⟨_, _, rfl, setAll_ok (E.set r i) rs e fun σ' E' hw => q σ' E' fun vs hv => ?_⟩
    rw [hw vs fun j hj => hv j (List.mem_cons_of_mem _ hj), wipe_set (hv i (List.mem_cons_self ..))]
  | [], _, _, _, _, _, _, .cons _ _, e, _ => by cases e
  | _ :: _, _, _, _, _, _, _, .nil, e, _ => by cases e
end
section
variable {X : Cx} {c : Cc} {F : Fe} {U : WX} {e e1 e2 tg : Expr} {es : List Expr} {x a b : Ex} {pos : Pos}
theorem pg_one (O : Ok c X F U) {i : Nat} {n : Str} (hi : c.N[i]? = some n) (hn : c.own.names.lookup n = some .local ∨ c.own.names.lookup n = some .cell) : PG X (.Name n pos) (TGb (zd X) [i]) := by
  obtain ⟨h1, h2⟩ := O.st n hn
  have w := pg_name (pos := pos) O.nd (by rw [O.hN]; exact hi) h1 h2
  refine ⟨fun pins s σ H v u Q I r h => w.run pins s σ H v u Q I r ?_⟩
  obtain ⟨G, ι, m, σw, z, σw', S, E, rv, e, q⟩ := h
  cases e
  exact q _ (E.set rv i) fun vs hv => wipe_set (hv i (List.mem_singleton.mpr rfl))
def namesOk (c : Cc) : List Nat → List Expr → Bool
  | [], [] => true
  | i :: is, .Name n _ :: es => decide (c.N[i]? = some n) && ((decide (c.own.names.lookup n = some .local) || decide (c.own.names.lookup n = some .cell)) && namesOk c is es)
  | _, _ => false
theorem pgs_names (O : Ok c X F U) : ∀ {is : List Nat} {es : List Expr}, namesOk c is es = true → PGs X es (gNames is) ∧ (assignEach es X.env).length = is.length ∧ (assignEach es X.env).findIdx? (·.1) = none
  | [], [], _ => ⟨pgs_nil, rfl, rfl⟩
  | i :: is, .Name n p :: es, h => by
    simp only [namesOk, Bool.and_eq_true, Bool.or_eq_true, decide_eq_true_eq] at h
    obtain ⟨h1, h2, h3⟩ := h
    obtain ⟨q1, q2, q3⟩ := pgs_names O h3
    obtain ⟨l1, l2⟩ := O.st n h2
    refine ⟨pgs_cons (pg_name O.nd (by rw [O.hN]; exact h1) l1 l2) q1 rfl, ?_, ?_⟩
    · show (assignEach es X.env).length + 1 = _
      rw [q2]
      rfl
    · show List.findIdx? _ ((false, _) :: assignEach es X.env) = none
      rw [List.findIdx?_cons, q3]
      rfl
  | [], _ :: _, h => by cases h
  | _ :: _, [], h => by cases h
  | _ :: _, .BoolOp _ _ _ :: _, h => by cases h
  | _ :: _, .NamedExpr _ _ _ :: _, h => by cases h
  | _ :: _, .BinOp _ _ _ _ :: _, h => by cases h
  | _ :: _, .UnaryOp _ _ _ :: _, h => by cases h
  | _ :: _, .Lambda _ _ _ _ :: _, h => by cases h
  | _ :: _, .IfExp _ _ _ _ :: _, h => by cases h
  | _ :: _, .Dict _ _ _ :: _, h => by cases h
  | _ :: _, .Set _ _ _ :: _, h => by cases h
  | _ :: _, .ListComp _ _ _ _ :: _, h => by cases h
  | _ :: _, .SetComp _ _ _ _ :: _, h => by cases h
  | _ :: _, .DictComp _ _ _ _ _ :: _, h => by cases h
  | _ :: _, .GeneratorExp _ _ _ _ :: _, h => by cases h
  | _ :: _, .Await _ _ :: _, h => by cases h
  | _ :: _, .Yield _ _ :: _, h => by cases h
  | _ :: _, .YieldFrom _ _ :: _, h => by cases h
  | _ :: _, .Compare _ _ _ _ :: _, h => by cases h
  | _ :: _, .Call _ _ _ _ :: _, h => by cases h
  | _ :: _, .FormattedValue _ _ _ _ :: _, h => by cases h
  | _ :: _, .JoinedStr _ _ :: _, h => by cases h
  | _ :: _, .Constant _ _ _ :: _, h => by cases h
  | _ :: _, .Attribute _ _ _ :: _, h => by cases h
  | _ :: _, .Subscript _ _ _ :: _, h => by cases h
  | _ :: _, .Starred _ _ :: _, h => by cases h
  | _ :: _, .List _ _ :: _, h => by cases h
  | _ :: _, .Tuple _ _ _ :: _, h => by cases h
  | _ :: _, .Slice _ _ _ _ :: _, h => by cases h
theorem bindT_many {m : Sto} {σw : En} {is : List Nat} {w : W} (h : is.length ≠ 1) : bindT m σw is w = (tupOf w).bind (setAll σw is) := by
  unfold bindT
  split
  · exact absurd rfl h
  · rfl
theorem pg_many (O : Ok c X F U) (hc : X.calm = true) {is : List Nat} {k : Nat} (hn : namesOk c is es = true) (hl : is.length ≠ 1) : PG X (.Tuple es k pos) (TGb (zd X) is) := by
  obtain ⟨q1, q2, q3⟩ := pgs_names O hn
  have w := pg_tup (k := k) (pos := pos) hc q1 q2 q3
  refine ⟨fun pins s σ H v u Q I r h => w.run pins s σ H v u Q I r ?_⟩
  obtain ⟨G, ι, m, σw, z, σw', S, E, rv, e, q⟩ := h
  rw [bindT_many hl] at e
  obtain ⟨ws, e1, e2⟩ := Option.bind_eq_some_iff.mp e
  obtain ⟨a, vs, rfl, hs, rs⟩ := tup_rw rv e1
  have len : ∀ {is : List Nat} {ws : List W} {σw σw' : En}, setAll σw is ws = some σw' → ws.length = is.length := by
    intro is
    induction is with
    | nil => intro ws σw σw' e; cases ws <;> first | rfl | cases e
    | cons i is ih => intro ws σw σw' e; cases ws with
      | nil => cases e
      | cons w ws => simp [ih e]
  exact ⟨a, vs, rfl, Same.sqt S.sub hs, by rw [rs.length]; exact len e2, setAll_ok E rs e2 q⟩
/-- what a target's text must be -/
def chkTg (c : Cc) (ts : List Nat) : Expr → Bool
  | .Name n _ => (match ts with
    | [i] => decide (c.N[i]? = some n) && (decide (c.own.names.lookup n = some .local) || decide (c.own.names.lookup n = some .cell))
    | _ => false)
  | .Tuple es _ _ => namesOk c ts es && decide (ts.length ≠ 1)
  | _ => false
theorem pg_tg (O : Ok c X F U) (hc : X.calm = true) {ts : List Nat} (h : chkTg c ts tg = true) : PG X tg (TGb (zd X) ts) := by
  cases tg with
  | Name n p =>
    unfold chkTg at h
    simp only at h
    split at h
    · simp only [Bool.and_eq_true, Bool.or_eq_true, decide_eq_true_eq] at h
      exact pg_one O h.1 h.2
    · cases h
  | Tuple es k p =>
    simp only [chkTg, Bool.and_eq_true, decide_eq_true_eq] at h
    exact pg_many O hc h.1 h.2
  | _ => cases h
/-! ### blocks -/
def Cc.blk (c : Cc) (scope : Scope) : Cc := { c with sc := relS scope c.sc, own := scope }
theorem Ok.blk (O : Ok c X F U) (s : Shared) (H : Hp) (scope : Scope) (C : Addr) (cl : List (Str × Addr)) (fp : List Addr) : Ok (c.blk scope) (X.blk s H scope (compEnvC scope cl C X.env) fp) F (fun _ _ _ _ => False) := by
  refine ⟨O.hN, O.nd, ?_, takes_none5, O.calm, O.gd, O.un, O.sys, O.con, O.bl, fun h f n q => ?_, fun h f fs q => ?_, O.sub, O.ecl, O.exf, O.isx, fun x h => ?_⟩
  · show relS scope X.env.scope = relS scope c.sc
    rw [O.sc]
  · obtain ⟨fa, fd, ps, k, q⟩ := (O.call h f n q).ex
    exact ⟨fa, fd, ps, k, q⟩
  · have w := O.exc h f fs q
    exact ⟨w.nd, w.few, w.ex⟩
  · have h : scope.names.lookup x = some .local ∨ scope.names.lookup x = some .cell := h
    rcases h with h | h
    · have l : (relS scope X.env.scope).names.lookup x = some .local := lookup_relS_keep (by decide) h
      exact ⟨.inl l, .inr l⟩
    · have l : (relS scope X.env.scope).names.lookup x = some .cell := lookup_relS_keep (by decide) h
      refine ⟨.inr l, .inl ?_⟩
      show (scope.names.lookup x == some NameKind.cell) = true
      rw [h]
      rfl
end
end Mi
/-! Mi, part O: list comprehensions. -/
namespace Mi
open PySem PySem.Spec PyProof.Rows L2
section
variable {Z : Wd} {L : Nat} {G G1 : Hp} {ι ι1 : List Addr} {m m1 : Sto} {H H1 : Hp} {D : Addr}
theorem Fr.side {o : HO} (f : Fr G ι H G1 ι1 H1) (h : H D = none) : Fr G ι H G1 ι1 (upd H1 D o) := fun a u e n g => by
  obtain ⟨h1, h2, h3⟩ := f a u e n g
  exact ⟨by rw [upd_ne (ne_of_none e h)]; exact h1, h2, h3⟩
/-- an address that Mi does not know -/
theorem RS.side {o : HO} (S : RS Z G ι m H) (hG : G D = none) (hι : D ∉ ι) (z : SzO o) : RS Z G ι m (upd H D o) := by
  refine ⟨fun a u e => ?_, S.nd, S.len, S.off, fun i c e => ?_, fun a u e => ?_⟩
  · rw [upd_ne (fun q => by rw [q, hG] at e; cases e)]
    exact S.sub _ _ e
  · obtain ⟨a, ha, r⟩ := S.cell i c e
    exact ⟨a, ha, r.mono (Grow.refl _ _) (upd_ne fun q => hι (q ▸ List.mem_of_getElem? ha))⟩
  · by_cases q : a = D
    · subst q
      rw [upd_same] at e
      cases e
      exact z
    · rw [upd_ne q] at e
      exact S.sz _ _ e
/-- .. becomes frozen -/
theorem RS.frz {o : HO} (S : RS Z G ι m H) (hι : D ∉ ι) (e : H D = some o) : RS Z (upd G D o) ι m H := by
  refine ⟨fun a u h => ?_, S.nd, S.len, fun a ha => ?_, fun i c h => ?_, S.sz⟩
  · by_cases q : a = D
    · subst q
      rw [upd_same] at h
      cases h
      exact e
    · rw [upd_ne q] at h
      exact S.sub _ _ h
  · rw [upd_ne (fun q => hι (by rw [← q]; exact ha))]
    exact S.off a ha
  · obtain ⟨a, ha, r⟩ := S.cell i c h
    refine ⟨a, ha, ?_⟩
    cases c with
    | lst ws =>
      obtain ⟨vs, h1, h2⟩ := r
      by_cases hG : G D = none
      · exact ⟨vs, h1, h2.mono (grow_new hG)⟩
      · obtain ⟨u, hu⟩ := Option.ne_none_iff_exists'.mp hG
        have e2 := S.sub _ _ hu
        rw [e] at e2
        cases e2
        have eg : upd G D o = G := by
          funext b
          by_cases q : b = D
          · subst q
            rw [upd_same, hu]
          · rw [upd_ne q]
        rw [eg]
        exact ⟨vs, h1, h2⟩
    | _ => exact r.elim
/-- .. becomes a list of the store -/
theorem RS.adopt {vs : List V} {ws : List W} (S : RS Z G ι m H) (hG : G D = none) (hι : D ∉ ι) (e : H D = some (.lst vs)) (r : RWs Z G ι vs ws) : RS Z G (ι ++ [D]) (m ++ [.lst ws]) H := by
  refine ⟨S.sub, ?_, by simp [S.len], fun a ha => ?_, fun i c h => ?_, S.sz⟩
  · refine List.nodup_append.mpr ⟨S.nd, List.nodup_cons.mpr ⟨List.not_mem_nil, List.nodup_nil⟩, fun a ha b hb => ?_⟩
    rcases List.mem_singleton.mp hb with rfl
    exact fun q => hι (q ▸ ha)
  · rcases List.mem_append.mp ha with q | q
    · exact S.off a q
    · rcases List.mem_singleton.mp q with rfl
      exact hG
  · by_cases hi : i < m.length
    · rw [List.getElem?_append_left hi] at h
      obtain ⟨a, ha, r'⟩ := S.cell i c h
      exact ⟨a, pre_get (List.prefix_append _ _) ha, r'.mono grow_box rfl⟩
    · rw [List.getElem?_append_right (Nat.le_of_not_lt hi)] at h
      have h0 : i - m.length = 0 := by
        cases q : i - m.length with
        | zero => rfl
        | succ n => rw [q] at h; simp at h
      rw [h0] at h
      simp at h
      subst h
      have ei : i = ι.length := by rw [S.len]; omega
      exact ⟨D, by rw [ei]; simp, vs, e, r.mono grow_box⟩
end
/-- a clause's tests -/
def TXc (Z : Wd) (F : Fe) (U : WX) (cs : List Ex) : TT := fun σ H Q => ∃ G ι m σw, RS Z G ι m H ∧ REn Z G ι σ σw ∧ F.L ≤ m.length ∧ PB Z F.L G ι m H (evC F cs σw m) Q (fun c d H' => U c d σ H')
section
variable {X : Cx} {c : Cc} {F : Fe} {U : WX} {e e1 e2 tg it elt : Expr} {ifs es : List Expr} {x a b : Ex} {pos : Pos}
theorem pts_nilX : PTs X [] (TXc (zd X) F U []) := ⟨fun pins s σ H Q I h => pts_nil.run pins s σ H Q I (by
  obtain ⟨G, ι, m, σw, S, E, hL, P⟩ := h
  exact Post.here P S rfl)⟩
theorem pts_oneX (h : PT X e (TXt (zd X) F U x)) : PTs X [e] (TXc (zd X) F U [x]) := ⟨fun pins s σ H Q I q => (pts_one h).run pins s σ H Q I (by
  obtain ⟨G, ι, m, σw, S, E, hL, P⟩ := q
  refine ⟨G, ι, m, σw, S, E, hL, ?_⟩
  have P : Post _ _ _ _ _ _ _ ((evE F x σw m).bind fun x m => (lift (tru m x) m).bind fun k m => match k with | true => .ok true m | false => .ok false m) Q _ := P
  have ef : (fun (x : W) (m : Sto) => (lift (tru m x) m).bind fun k m => (match k with | true => .ok true m | false => .ok false m : Res Bool)) = fun x m => lift (tru m x) m := by
    funext x m
    cases tru m x with
    | none => rfl
    | some k => cases k <;> rfl
  rw [ef] at P
  exact P)⟩
noncomputable abbrev lcF (F : Fe) (own ts : List Nat) (cs : List Ex) (e : Ex) (σw : En) : W → M (Option W) := fun w m => (lift (bindT m (wipeE σw own) ts w) m).bind fun σ' m => (evC F cs σ' m).bind fun k m => match k with
  | true => (evE F e σ' m).bind fun y m => .ok (some y) m
  | false => .ok none m
open Classical in
theorem lc_read {ow : List (Str × Nat)} {ts : List Nat} {cs : List Ex} {bx : Bool} (hts : ∀ i ∈ ts, i ∈ ow.map (·.2)) {σ : L2.St} {H : Hp} {Q : VK} (h : TX (zd X) F U (.lc bx (ow.map (·.2)) ts a cs x) σ H Q) :
    tLc (TXi (zd X) F U a) (TGb (zd X) ts) (TXc (zd X) F (fun _ _ _ _ => False) cs) (TX (zd X) F (fun _ _ _ _ => False) x) (ow.map (·.2)) σ H Q := by
    obtain ⟨G, ι, m, σw, S, E, hL, P⟩ := h
    refine ⟨G, ι, m, σw, S, E, hL, ?_⟩
    have P : Post (zd X) (RW (zd X)) F.L G ι m H ((evE F a σw m).bind fun x' m => (lift (iterOf m x') m).bind fun ws m => match decide (ws.length ≤ lim) with
      | true => ((lcGo (grds m x') (lcF F (ow.map (·.2)) ts cs x σw) ws m).calm).bind fun ys m => newL bx ys m
      | false => .no) Q (fun c d H' => U c d σ H') := P
    cases hr : evE F a σw m with
    | no => rw [hr] at P; exact P
    | exc c' fs m' => rw [hr] at P; exact P
    | ok w0 m1 =>
      rw [hr] at P
      cases q0 : iterOf m1 w0 with
      | none =>
        have P : Post (zd X) (RW (zd X)) F.L G ι m H ((lift (iterOf m1 w0) m1).bind _) Q _ := P
        rw [q0] at P
        exact P.elim
      | some ws =>
        have P : Post (zd X) (RW (zd X)) F.L G ι m H ((lift (iterOf m1 w0) m1).bind _) Q _ := P
        rw [q0] at P
        have P : Post (zd X) (RW (zd X)) F.L G ι m H (match decide (ws.length ≤ lim) with
          | true => ((lcGo (grds m1 w0) (lcF F (ow.map (·.2)) ts cs x σw) ws m1).calm).bind fun ys m => newL bx ys m
          | false => .no) Q (fun c d H' => U c d σ H') := P
        cases hz : decide (ws.length ≤ lim) with
        | false => rw [hz] at P; exact P.elim
        | true =>
          rw [hz] at P
          have hlen : ws.length ≤ lim := of_decide_eq_true hz
          show Post _ _ _ _ _ _ _ ((lift (iterOf m1 w0) m1).bind fun ws m => .ok (ws, grds m w0) m) _ _
          rw [q0]
          generalize hgs : grds m1 w0 = gs at P
          show Post _ _ _ _ _ _ _ (.ok (ws, grds m1 w0) m1) _ _
          rw [hgs]
          intro J H1 G1 ι1 T1 S1 hw D hD
          have hD0 : H D = none := by
            cases q : H D with
            | none => rfl
            | some o =>
              by_cases hι : D ∈ ι
              · exact absurd (T1.g.i.subset hι) (S1.free hD).2
              · by_cases hG : G D = none
                · have := (T1.f D o q hι hG).1
                  rw [hD] at this
                  cases this
                · obtain ⟨u, hu⟩ := Option.ne_none_iff_exists'.mp hG
                  have := S1.sub _ _ (T1.g.g _ _ hu)
                  rw [hD] at this
                  cases this
          have hDG := (S1.free hD).1
          have hDι := (S1.free hD).2
          refine ⟨fun i n H2 => n = ws.length - i ∧ i ≤ ws.length ∧ ∃ G2 ι2 m2 acc ys, To F.L G ι m H G2 ι2 m2 H2 ∧ Grow G1 ι1 G2 ι2 ∧ RS (zd X) G2 ι2 m2 H2 ∧ H2 D = some (.lst acc) ∧ D ∉ ι2 ∧ G2 D = none ∧ RWs (zd X) G2 ι2 acc ys ∧ acc.length ≤ i ∧
            Post (zd X) (RW (zd X)) F.L G ι m H (((lcGo gs (lcF F (ow.map (·.2)) ts cs x σw) (ws.drop i) m2).calm).bind fun zs m => newL bx (ys ++ zs) m) Q (fun c d H' => U c d σ H'),
            ⟨ws.length, rfl, Nat.zero_le _, G1, ι1, m1, [], [], ⟨T1.g, T1.k, T1.f.side hD0⟩, Grow.refl _ _, S1.side hDG hDι (Nat.zero_le _), upd_same, hDι, hDG, .nil, Nat.le_refl _, P⟩, ?_⟩
          rintro i n H2 ⟨rfl, hi, G2, ι2, m2, acc, ys, T2, g2, S2, hD2, hι2, hG2, r2, hl2, P2⟩
          have hL2 : F.L ≤ m2.length := Nat.le_trans hL T2.k.1
          by_cases hlt : i < ws.length
          · rw [List.drop_eq_getElem_cons hlt] at P2
            by_cases hgk : gOk m2 gs
            · refine .inr ⟨hw.go i G2 ι2 m2 H2 g2 S2 hgk hlt, fun H' => ∃ G4 ι4 m4 acc' ys', To F.L G ι m H G4 ι4 m4 H' ∧ Grow G1 ι1 G4 ι4 ∧ RS (zd X) G4 ι4 m4 H' ∧ H' D = some (.lst acc') ∧ D ∉ ι4 ∧ G4 D = none ∧ RWs (zd X) G4 ι4 acc' ys' ∧ acc'.length ≤ i + 1 ∧
                Post (zd X) (RW (zd X)) F.L G ι m H (((lcGo gs (lcF F (ow.map (·.2)) ts cs x σw) (ws.drop (i + 1)) m4).calm).bind fun zs m => newL bx (ys' ++ zs) m) Q (fun c d H' => U c d σ H'),
                fun H' hN => ⟨ws.length - (i + 1), by omega, rfl, hlt, hN⟩, fun v H' hy => ?_⟩
              obtain ⟨G3, T3, S3, rv⟩ := hw.yld i ws[i] G2 ι2 m2 H2 v H' g2 S2 hgk (by simp [hlt]) hy
              have P3 : Post (zd X) (RW (zd X)) F.L G ι m H ((((if gOk m2 gs then (lcF F (ow.map (·.2)) ts cs x σw ws[i] m2).bind fun o m => (lcGo gs (lcF F (ow.map (·.2)) ts cs x σw) (ws.drop (i + 1)) m).bind fun ys m => .ok (match o with
                | some y => y :: ys
                | none => ys) m else .no : Res (List W))).calm).bind fun zs m => newL bx (ys ++ zs) m) Q (fun c d H' => U c d σ H') := P2
              rw [if_pos hgk, calm_bind, bind_bind] at P3
              have T23 : To F.L G ι m H G3 ι2 m2 H' := T2.trans T3.any
              obtain ⟨hD3, hι3, hG3⟩ := T3.f D _ hD2 hι2 hG2
              -- the target
              cases hb : bindT m2 (wipeE σw (ow.map (·.2))) ts ws[i] with
              | none =>
                unfold lcF at P3
                rw [hb] at P3
                exact P3.elim
              | some σ1 =>
                have P4 : Post (zd X) (RW (zd X)) F.L G ι m H ((((evC F cs σ1 m2).bind fun k m => match k with
                  | true => (evE F x σ1 m).bind fun y m => (Res.ok (some y) m : Res (Option W))
                  | false => .ok none m).calm).bind fun o m => ((lcGo gs (lcF F (ow.map (·.2)) ts cs x σw) (ws.drop (i + 1)) m).bind fun ys m => (Res.ok (match o with
                    | some y => y :: ys
                    | none => ys) m : Res (List W))).calm.bind fun zs m => newL bx (ys ++ zs) m) Q (fun c d H' => U c d σ H') := by
                  have e0 : lcF F (ow.map (·.2)) ts cs x σw ws[i] m2 = (evC F cs σ1 m2).bind fun k m => match k with
                    | true => (evE F x σ1 m).bind fun y m => (Res.ok (some y) m : Res (Option W))
                    | false => .ok none m := by
                    unfold lcF
                    rw [hb]
                    rfl
                  rw [e0] at P3
                  exact P3
                rw [calm_bind, bind_bind] at P4
                have E3 : REn (zd X) G3 ι2 σ σw := E.mono T23.g
                refine ⟨G3, ι2, m2, wipeE σw (ow.map (·.2)), ws[i], σ1, S3, E3.wipe _, rv, hb, fun σ2 E2 hwp => ⟨?_, ?_⟩⟩
                · rw [hwp _ hts]
                  apply List.ext_getElem?
                  intro j
                  rw [wipe_get, wipe_length]
                  by_cases hj : j ∈ ow.map (·.2) ∧ j < σ.length
                  · rw [if_pos hj, wipe_get, if_pos hj]
                  · rw [if_neg hj]
                · refine ⟨G3, ι2, m2, σ1, S3, E2, hL2, Post.uncalm (E := fun c d H' => U c d σ H') (Post.mono (Post.bindAt T23 P4) ?_)⟩
                  rintro k H4 ⟨G4, ι4, m4, k', T4, S4, ek, P5⟩
                  have ek : k = k' := ek
                  subst ek
                  have T24 := T23.trans T4
                  obtain ⟨hD4, hι4, hG4⟩ := T4.f D _ hD3 hι3 hG3
                  have g4 : Grow G1 ι1 G4 ι4 := g2.trans (T3.g.trans T4.g)
                  cases k with
                  | false =>
                    refine ⟨G4, ι4, m4, acc, ys, T24, g4, S4, hD4, hι4, hG4, (r2.mono T3.g).mono T4.g, by omega, ?_⟩
                    have P6 : Post (zd X) (RW (zd X)) F.L G ι m H (((lcGo gs (lcF F (ow.map (·.2)) ts cs x σw) (ws.drop (i + 1)) m4).bind fun ys m => (Res.ok ys m : Res (List W))).calm.bind fun zs m => newL bx (ys ++ zs) m) Q (fun c d H' => U c d σ H') := P5
                    have e1 : ∀ r : Res (List W), (r.bind fun ys m => (Res.ok ys m : Res (List W))) = r := fun r => by cases r <;> rfl
                    rw [e1] at P6
                    exact P6
                  | true =>
                    have P6 : Post (zd X) (RW (zd X)) F.L G ι m H ((((evE F x σ1 m4).bind fun y m => (Res.ok (some y) m : Res (Option W))).calm).bind fun o m => ((lcGo gs (lcF F (ow.map (·.2)) ts cs x σw) (ws.drop (i + 1)) m).bind fun ys m => (Res.ok (match o with
                      | some y => y :: ys
                      | none => ys) m : Res (List W))).calm.bind fun zs m => newL bx (ys ++ zs) m) Q (fun c d H' => U c d σ H') := P5
                    rw [calm_bind, bind_bind] at P6
                    refine ⟨G4, ι4, m4, σ1, S4, E2.mono T4.g, Nat.le_trans hL2 T4.k.1, Post.uncalm (E := fun c d H' => U c d σ H') (Post.mono (Post.bindAt T24 P6) ?_)⟩
                    rintro yv H5 ⟨G5, ι5, m5, y, T5, S5, ry, P7⟩
                    have P8 : Post (zd X) (RW (zd X)) F.L G ι m H (((lcGo gs (lcF F (ow.map (·.2)) ts cs x σw) (ws.drop (i + 1)) m5).bind fun ys m => (Res.ok (y :: ys) m : Res (List W))).calm.bind fun zs m => newL bx (ys ++ zs) m) Q (fun c d H' => U c d σ H') := P7
                    have e1 : ∀ r : Res (List W), ((r.bind fun ys m => (Res.ok (y :: ys) m : Res (List W))).calm.bind fun zs m => newL bx (ys ++ zs) m) = r.calm.bind fun zs m => newL bx ((ys ++ [y]) ++ zs) m := fun r => by
                      cases r with
                      | ok zs m => show newL bx (ys ++ (y :: zs)) m = newL bx ((ys ++ [y]) ++ zs) m; rw [List.append_assoc]; rfl
                      | exc _ _ _ => rfl
                      | no => rfl
                    rw [e1] at P8
                    have T25 := T24.trans T5
                    obtain ⟨hD5, hι5, hG5⟩ := T5.f D _ hD4 hι4 hG4
                    have r5 : RWs (zd X) G5 ι5 acc ys := ((r2.mono T3.g).mono T4.g).mono T5.g
                    have hb5 : acc.length + 1 ≤ lim := by omega
                    exact ⟨acc, hD5, Nat.lt_of_lt_of_le (Nat.lt_succ_self _) (le_line hb5), G5, ι5, m5, acc ++ [yv], ys ++ [y], ⟨T25.g, T25.k, T25.f.side hD0⟩, g4.trans T5.g, S5.side hG5 hι5 (by show (acc ++ [yv]).length ≤ _; rw [List.length_append]; exact le_line hb5),
                      upd_same, hι5, hG5, r5.append (.cons ry .nil), by rw [List.length_append]; show acc.length + 1 ≤ i + 1; omega, P8⟩
            · exfalso
              have P3 : Post (zd X) (RW (zd X)) F.L G ι m H ((((if gOk m2 gs then (lcF F (ow.map (·.2)) ts cs x σw ws[i] m2).bind fun o m => (lcGo gs (lcF F (ow.map (·.2)) ts cs x σw) (ws.drop (i + 1)) m).bind fun ys m => .ok (match o with
                | some y => y :: ys
                | none => ys) m else .no : Res (List W))).calm).bind fun zs m => newL bx (ys ++ zs) m) Q (fun c d H' => U c d σ H') := P2
              rw [if_neg hgk] at P3
              exact P3
          · have ei : i = ws.length := by omega
            subst ei
            rw [List.drop_length] at P2
            have P3 : Post (zd X) (RW (zd X)) F.L G ι m H ((((if gOk m2 gs then .ok [] m2 else .no : Res (List W))).calm).bind fun zs m => newL bx (ys ++ zs) m) Q (fun c d H' => U c d σ H') := P2
            by_cases hgk : gOk m2 gs
            · rw [if_pos hgk] at P3
              have P4 : Post (zd X) (RW (zd X)) F.L G ι m H (newL bx (ys ++ []) m2) Q (fun c d H' => U c d σ H') := P3
              rw [List.append_nil] at P4
              refine .inl ⟨hw.stop G2 ι2 m2 H2 g2 S2 hgk, ?_⟩
              cases bx with
              | false =>
                have P5 : Post (zd X) (RW (zd X)) F.L G ι m H (.ok (mkL ys) m2) Q (fun c d H' => U c d σ H') := P4
                refine P5 (.ref D) H2 (upd G2 D (.lst acc)) ι2 ⟨⟨T2.g.g.trans (upd_ref_none hG2), T2.g.i⟩, T2.k, fun b o e n g => ?_⟩ (S2.frz hι2 hD2) (mkL_rw upd_same (r2.mono (grow_new hG2)))
                obtain ⟨q1, q2, q3⟩ := T2.f b o e n g
                exact ⟨q1, q2, by rw [upd_ne (ne_of_none e hD0)]; exact q3⟩
              | true =>
                have P5 : Post (zd X) (RW (zd X)) F.L G ι m H (.ok (.ref m2.length) (m2 ++ [.lst ys])) Q (fun c d H' => U c d σ H') := P4
                refine P5 (.ref D) H2 G2 (ι2 ++ [D]) ⟨T2.g.trans grow_box, T2.k.trans (kp_push hL2), fun b o e n g => ?_⟩ (S2.adopt hG2 hι2 hD2 r2) (.ref (by rw [← S2.len]; simp))
                obtain ⟨q1, q2, q3⟩ := T2.f b o e n g
                exact ⟨q1, fun hm => (List.mem_append.mp hm).elim q2 fun z => ne_of_none e hD0 (List.mem_singleton.mp z), q3⟩
            · rw [if_neg hgk] at P3
              exact P3.elim
theorem px_lc (O : Ok c X F U) {scope : Scope} {ow : List (Str × Nat)} {ts : List Nat} {cs : List Ex} {bx : Bool} (hc : X.calm = true) (hi : PI X tg it (TXi (zd X) F U a)) (ok : BlkOk X.N X.env.scope scope ow)
    (hg : ∀ (s : Shared) (H : Hp) (C : Addr) (cl : List (Str × Addr)) (fp : List Addr), PG (X.blk s H scope (compEnvC scope cl C X.env) fp) tg (TGb (zd X) ts))
    (ht : ∀ (s : Shared) (H : Hp) (C : Addr) (cl : List (Str × Addr)) (fp : List Addr), PTs (X.blk s H scope (compEnvC scope cl C X.env) fp) ifs (TXc (zd X) F (fun _ _ _ _ => False) cs))
    (he : ∀ (s : Shared) (H : Hp) (C : Addr) (cl : List (Str × Addr)) (fp : List Addr), PE (X.blk s H scope (compEnvC scope cl C X.env) fp) elt (TX (zd X) F (fun _ _ _ _ => False) x))
    (hs : ∀ v, foldedSetIterable it X.env v = pure v) (hts : ∀ i ∈ ts, i ∈ ow.map (·.2)) : PE X (.ListComp elt [⟨tg, it, ifs, 0⟩] scope pos) (TX (zd X) F U (.lc bx (ow.map (·.2)) ts a cs x)) :=
  PE.of (pe_lc hc O.nd hi ok hg ht he hs) fun σ H Q h => lc_read hts h
end
end Mi
/-! Mi, part P: statements. -/
namespace Mi
open PySem PySem.Spec PyProof.Rows L2
/-- what is wanted of a statement's end -/
def PostS (Z : Wd) (L : Nat) (G : Hp) (ι : List Addr) (m : Sto) (H : Hp) (r : SR) (D : Ends) (U : WX) : Prop := match r with
  | .nx σw m' => ∀ σ' H' G' ι', To L G ι m H G' ι' m' H' → RS Z G' ι' m' H' → REn Z G' ι' σ' σw → D.nx σ' H'
  | .rt w m' => ∀ v H' G' ι', To L G ι m H G' ι' m' H' → RS Z G' ι' m' H' → RW Z G' ι' v w → D.rt v H'
  | .xc σw c fs m' => ∀ cls d σ' H' G' ι', To L G ι m H G' ι' m' H' → RS Z G' ι' m' H' → REn Z G' ι' σ' σw → RX Z G' ι' H' cls d c fs → U cls d σ' H'
  | .no => False
def TSx (Z : Wd) (F : Fe) (U : WX) (s : Mi.St) : TS := fun D σ H => ∃ G ι m σw, RS Z G ι m H ∧ REn Z G ι σ σw ∧ F.L ≤ m.length ∧ PostS Z F.L G ι m H (evS F s σw m) D U
def TSs (Z : Wd) (F : Fe) (U : WX) (ss : List Mi.St) : TS := fun D σ H => ∃ G ι m σw, RS Z G ι m H ∧ REn Z G ι σ σw ∧ F.L ≤ m.length ∧ PostS Z F.L G ι m H (evSs F ss σw m) D U
/-- a target's reading -/
def TGt (Z : Wd) (F : Fe) (U : WX) (t : Tg) : TG := fun v σ H Q => ∃ G ι m σw w, RS Z G ι m H ∧ REn Z G ι σ σw ∧ F.L ≤ m.length ∧ RW Z G ι v w ∧ PostS Z F.L G ι m H (asT F t w σw m) { nx := Q, rt := fun _ _ => False } U
def TGts (Z : Wd) (F : Fe) (U : WX) (ts : List Tg) : TGs := fun vs σ H Q => ∃ G ι m σw ws, RS Z G ι m H ∧ REn Z G ι σ σw ∧ F.L ≤ m.length ∧ RWs Z G ι vs ws ∧ PostS Z F.L G ι m H (asTs F ts ws σw m) { nx := Q, rt := fun _ _ => False } U
theorem PS.of {X : Cx} {s : Stmt} {t t' : TS} (h : PS X s t) (k : ∀ D σ H, t' D σ H → t D σ H) : PS X s t' := ⟨fun pins s σ H D I q => h.run pins s σ H D I (k D σ H q)⟩
theorem PSs.of {X : Cx} {s : List Stmt} {t t' : TS} (h : PSs X s t) (k : ∀ D σ H, t' D σ H → t D σ H) : PSs X s t' := ⟨fun pins s σ H D I q => h.run pins s σ H D I (k D σ H q)⟩
theorem PG.of {X : Cx} {e : Expr} {t t' : TG} (h : PG X e t) (k : ∀ v σ H Q, t' v σ H Q → t v σ H Q) : PG X e t' := ⟨fun pins s σ H v u Q I r q => h.run pins s σ H v u Q I r (k v σ H Q q)⟩
theorem PGs.of {X : Cx} {e : List Expr} {t t' : TGs} (h : PGs X e t) (k : ∀ v σ H Q, t' v σ H Q → t v σ H Q) : PGs X e t' := ⟨fun pins s σ H v u Q I r q => h.run pins s σ H v u Q I r (k v σ H Q q)⟩
section
variable {Z : Wd} {L : Nat} {G G1 : Hp} {ι ι1 : List Addr} {m m1 : Sto} {H H1 : Hp} {r : SR} {D D' : Ends} {U : WX}
theorem PostS.shift (h : PostS Z L G ι m H r D U) (t : To L G ι m H G1 ι1 m1 H1) : PostS Z L G1 ι1 m1 H1 r D U := by
  cases r with
  | nx σw m' => exact fun σ' H' G' ι' t' S q => h σ' H' G' ι' (t.trans t') S q
  | rt w m' => exact fun v H' G' ι' t' S q => h v H' G' ι' (t.trans t') S q
  | xc σw c fs m' => exact fun cls d σ' H' G' ι' t' S E q => h cls d σ' H' G' ι' (t.trans t') S E q
  | no => exact h
theorem PostS.mono (h : PostS Z L G ι m H r D U) (k1 : ∀ σ H, D.nx σ H → D'.nx σ H) (k2 : ∀ v H, D.rt v H → D'.rt v H) : PostS Z L G ι m H r D' U := by
  cases r with
  | nx σw m' => exact fun σ' H' G' ι' t' S q => k1 _ _ (h σ' H' G' ι' t' S q)
  | rt w m' => exact fun v H' G' ι' t' S q => k2 _ _ (h v H' G' ι' t' S q)
  | xc σw c fs m' => exact h
  | no => exact h
/-- an expression ahead of the rest -/
theorem PostS.st {α β : Type} {R : Hp → List Addr → α → β → Prop} {σ : L2.St} {σw : En} {x : Res β} {f : β → Sto → SR} (E : REn Z G ι σ σw) (hL : L ≤ m.length) (h : PostS Z L G ι m H (x.st σw f) D U) :
    Post Z R L G ι m H x (fun v H1 => ∃ G1 ι1 m1 w, To L G ι m H G1 ι1 m1 H1 ∧ RS Z G1 ι1 m1 H1 ∧ REn Z G1 ι1 σ σw ∧ L ≤ m1.length ∧ R G1 ι1 v w ∧ PostS Z L G1 ι1 m1 H1 (f w m1) D U) (fun c d H' => U c d σ H') := by
  cases x with
  | ok w m' => exact fun v H' G' ι' t S q => ⟨G', ι', m', w, t, S, E.mono t.g, Nat.le_trans hL t.k.1, q, PostS.shift h t⟩
  | exc c fs m' => exact fun cls d H' G' ι' t S q => h cls d σ H' G' ι' t S (E.mono t.g) q
  | no => exact h
/-- a statement ahead of the rest -/
theorem PostS.then {f : En → Sto → SR} (hL : L ≤ m.length) (h : PostS Z L G ι m H (r.then f) D U) :
    PostS Z L G ι m H r { D with nx := fun σ' H' => ∃ G1 ι1 m1 σw, RS Z G1 ι1 m1 H' ∧ REn Z G1 ι1 σ' σw ∧ L ≤ m1.length ∧ PostS Z L G1 ι1 m1 H' (f σw m1) D U } U := by
  cases r with
  | nx σw m' => exact fun σ' H' G' ι' t S E => ⟨G', ι', m', σw, S, E, Nat.le_trans hL t.k.1, PostS.shift h t⟩
  | rt w m' => exact h
  | xc σw c fs m' => exact h
  | no => exact h
theorem PostS.nxt {σ : L2.St} {σw : En} (h : PostS Z L G ι m H (.nx σw m) D U) (S : RS Z G ι m H) (E : REn Z G ι σ σw) : D.nx σ H := h σ H G ι To.refl S E
theorem PostS.lift {α : Type} {o : Option α} {σw : En} {f : α → Sto → SR} (h : PostS Z L G ι m H ((Mi.lift o m).st σw f) D U) : ∃ w, o = some w ∧ PostS Z L G ι m H (f w m) D U := by
  cases o with
  | none => exact h.elim
  | some w => exact ⟨w, rfl, h⟩
end
section
variable {X : Cx} {c : Cc} {F : Fe} {U : WX} {e e1 e2 tg : Expr} {es : List Expr} {x a b : Ex} {xs : List Ex} {pos : Pos} {s s1 s2 : Mi.St} {ss t f : List Mi.St} {st : Stmt} {sts st1 st2 : List Stmt}
theorem pss_nilX : PSs X [] (TSs (zd X) F U []) :=
  PSs.of pss_nil fun D σ H h => by
    obtain ⟨G, ι, m, σw, S, E, hL, P⟩ := h
    exact PostS.nxt P S E
theorem pss_consX (h1 : PS X st (TSx (zd X) F U s)) (h2 : PSs X sts (TSs (zd X) F U ss)) : PSs X (st :: sts) (TSs (zd X) F U (s :: ss)) :=
  PSs.of (pss_cons h1 h2) fun D σ H h => by
    obtain ⟨G, ι, m, σw, S, E, hL, P⟩ := h
    exact ⟨G, ι, m, σw, S, E, hL, PostS.then hL P⟩
theorem psx_pass : PS X (.Pass pos) (TSx (zd X) F U .pass) :=
  PS.of ps_pass fun D σ H h => by
    obtain ⟨G, ι, m, σw, S, E, hL, P⟩ := h
    exact PostS.nxt P S E
theorem psx_retN : PS X (.Return none pos) (TSx (zd X) F U .retN) :=
  PS.of ps_retN fun D σ H h => by
    obtain ⟨G, ι, m, σw, S, E, hL, P⟩ := h
    exact (P : PostS _ _ _ _ _ _ (.rt wN m) D U) .non H G ι To.refl S (.dat .non)
theorem psx_ret (h1 : PE X e (TX (zd X) F U x)) : PS X (.Return (some e) pos) (TSx (zd X) F U (.ret x)) :=
  PS.of (ps_ret h1) fun D σ H h => by
    obtain ⟨G, ι, m, σw, S, E, hL, P⟩ := h
    refine ⟨G, ι, m, σw, S, E, hL, Post.mono (PostS.st (R := RW (zd X)) E hL P) ?_⟩
    rintro v H1 ⟨G1, ι1, m1, w, T1, S1, E1, L1, r1, P1⟩
    exact (P1 : PostS _ _ _ _ _ _ (.rt w m1) D U) v H1 G1 ι1 To.refl S1 r1
def notComp : Expr → Bool
  | .ListComp _ _ _ _ => false
  | .SetComp _ _ _ _ => false
  | .DictComp _ _ _ _ _ => false
  | _ => true
theorem swaps_no {e : Expr} {t : Option Expr} {l : Nat} {env : Env} (h : notComp e = true) : swapsWith e t l env = pure false := by
  cases e <;> first | rfl | cases h
theorem psx_ex (h1 : PE X e (TX (zd X) F U x)) (hn : notComp e = true) : PS X (.Expr e pos) (TSx (zd X) F U (.ex x)) :=
  PS.of (ps_expr h1 (swaps_no hn)) fun D σ H h => by
    obtain ⟨G, ι, m, σw, S, E, hL, P⟩ := h
    refine ⟨G, ι, m, σw, S, E, hL, Post.mono (PostS.st (R := RW (zd X)) E hL P) ?_⟩
    rintro v H1 ⟨G1, ι1, m1, w, T1, S1, E1, L1, r1, P1⟩
    exact PostS.nxt P1 S1 E1
theorem psx_if (h1 : PT X e (TXt (zd X) F U x)) (h2 : PSs X st1 (TSs (zd X) F U t)) (h3 : PSs X st2 (TSs (zd X) F U f)) : PS X (.If e st1 st2 pos) (TSx (zd X) F U (.ifs x t f)) :=
  PS.of (ps_if h1 h2 h3) fun D σ H h => by
    obtain ⟨G, ι, m, σw, S, E, hL, P⟩ := h
    refine ⟨G, ι, m, σw, S, E, hL, Post.mono (PostS.st (R := fun _ _ (a b : Bool) => a = b) E hL P) ?_⟩
    rintro k H1 ⟨G1, ι1, m1, w, T1, S1, E1, L1, r1, P1⟩
    have r1 : k = w := r1
    subst r1
    cases k with
    | true => exact ⟨G1, ι1, m1, σw, S1, E1, L1, P1⟩
    | false => exact ⟨G1, ι1, m1, σw, S1, E1, L1, P1⟩
open Classical in
theorem psx_for {ts : List Nat} (hp : PassesOwn (model X.prog X.w) X.A X.env X.xe) (hc : X.calm = true) (hi : PI X tg e (TXi (zd X) F U x)) (hg : PG X tg (TGb (zd X) ts)) (hb : PSs X sts (TSs (zd X) F U ss)) (hs : ∀ v, foldedSetIterable e X.env v = pure v) :
    PS X (.For tg e sts [] pos) (TSx (zd X) F U (.fors ts x ss)) :=
  PS.of (ps_for hp hc hi hg hb hs) fun D σ H h => by
    obtain ⟨G, ι, m, σw, S, E, hL, P⟩ := h
    refine ⟨G, ι, m, σw, S, E, hL, Post.mono (PostS.st E hL P) ?_⟩
    rintro J H1 ⟨G1, ι1, m1, ⟨ws, gs⟩, T1, S1, E1, L1, hw, P1⟩
    have hw : Wk (zd X) G1 ι1 J ws gs := hw
    generalize hff : (fun (w : W) (σ : En) (m : Sto) => (lift (bindT m σ ts w) m).st σ fun σ m => evSs F ss σ m) = ff at P1
    have P1 : PostS (zd X) F.L G1 ι1 m1 H1 (forGo gs ff ws σw m1) D U := P1
    refine ⟨fun i n σ2 H2 => n = ws.length - i ∧ i ≤ ws.length ∧ ∃ G2 ι2 m2 σw2, Grow G1 ι1 G2 ι2 ∧ RS (zd X) G2 ι2 m2 H2 ∧ REn (zd X) G2 ι2 σ2 σw2 ∧ F.L ≤ m2.length ∧ PostS (zd X) F.L G2 ι2 m2 H2 (forGo gs ff (ws.drop i) σw2 m2) D U,
      ⟨ws.length, rfl, Nat.zero_le _, G1, ι1, m1, σw, Grow.refl _ _, S1, E1, L1, P1⟩, ?_⟩
    rintro i n σ2 H2 ⟨rfl, hi, G2, ι2, m2, σw2, g2, S2, E2, L2, P2⟩
    by_cases hlt : i < ws.length
    · rw [List.drop_eq_getElem_cons hlt] at P2
      have P3 : PostS (zd X) F.L G2 ι2 m2 H2 (if gOk m2 gs then (ff ws[i] σw2 m2).then fun σ m => forGo gs ff (ws.drop (i + 1)) σ m else .no) D U := P2
      by_cases hgk : gOk m2 gs
      · rw [if_pos hgk] at P3
        refine .inr ⟨hw.go i G2 ι2 m2 H2 g2 S2 hgk hlt, fun σ' H' => ∃ G4 ι4 m4 σw4, Grow G1 ι1 G4 ι4 ∧ RS (zd X) G4 ι4 m4 H' ∧ REn (zd X) G4 ι4 σ' σw4 ∧ F.L ≤ m4.length ∧ PostS (zd X) F.L G4 ι4 m4 H' (forGo gs ff (ws.drop (i + 1)) σw4 m4) D U,
          fun σ' H' hN => ⟨ws.length - (i + 1), by omega, rfl, hlt, hN⟩, fun v H' hy => ?_⟩
        obtain ⟨G3, T3, S3, rv⟩ := hw.yld i ws[i] G2 ι2 m2 H2 v H' g2 S2 hgk (by simp [hlt]) hy
        have P4 := PostS.shift P3 T3.any
        rw [← hff] at P4
        cases hbt : bindT m2 σw2 ts ws[i] with
        | none =>
          have P4 : PostS (zd X) F.L G3 ι2 m2 H' (((lift (bindT m2 σw2 ts ws[i]) m2).st σw2 fun σ m => evSs F ss σ m).then _) D U := P4
          rw [hbt] at P4
          exact P4.elim
        | some σ1 =>
          have P4 : PostS (zd X) F.L G3 ι2 m2 H' (((lift (bindT m2 σw2 ts ws[i]) m2).st σw2 fun σ m => evSs F ss σ m).then fun σ m => forGo gs (fun (w : W) (σ : En) (m : Sto) => (lift (bindT m σ ts w) m).st σ fun σ m => evSs F ss σ m) (ws.drop (i + 1)) σ m) D U := P4
          rw [hbt, hff] at P4
          have P5 : PostS (zd X) F.L G3 ι2 m2 H' ((evSs F ss σ1 m2).then fun σ m => forGo gs ff (ws.drop (i + 1)) σ m) D U := P4
          refine ⟨G3, ι2, m2, σw2, ws[i], σ1, S3, E2.mono T3.g, rv, hbt, fun σ' E' _ => ⟨G3, ι2, m2, σ1, S3, E', L2, ?_⟩⟩
          have g3 := g2.trans T3.g
          cases hr : evSs F ss σ1 m2 with
          | nx σw' m' =>
            rw [hr] at P5
            exact fun σ' H' G' ι' t S E => ⟨G', ι', m', σw', g3.trans t.g, S, E, Nat.le_trans L2 t.k.1, PostS.shift (P5 : PostS _ _ _ _ _ _ (forGo gs ff (ws.drop (i + 1)) σw' m') D U) t⟩
          | rt w m' => rw [hr] at P5; exact P5
          | xc σw' c fs m' => rw [hr] at P5; exact P5
          | no => rw [hr] at P5; exact P5.elim
      · rw [if_neg hgk] at P3
        exact P3.elim
    · have ei : i = ws.length := by omega
      subst ei
      rw [List.drop_length] at P2
      have P3 : PostS (zd X) F.L G2 ι2 m2 H2 (if gOk m2 gs then .nx σw2 m2 else .no) D U := P2
      by_cases hgk : gOk m2 gs
      · rw [if_pos hgk] at P3
        exact .inl ⟨hw.stop G2 ι2 m2 H2 g2 S2 hgk, PostS.nxt P3 S2 E2⟩
      · rw [if_neg hgk] at P3
        exact P3.elim
end
end Mi
/-! Mi, part Q: assignments. -/
namespace Mi
open PySem PySem.Spec PyProof.Rows L2
/-! ### what the machine asks of a display that is assigned to names -/
def isSt : Expr → Bool
  | .Starred _ _ => true
  | _ => false
def swNames (sc : Scope) (ts : List Expr) : List Str := ts.filterMap fun
  | .Name id pos => if sc.names.lookup id == some .local && pos.line == (ts.head?.map (·.pos.line)).getD 0 then some id else none
  | _ => none
def swN (sc : Scope) (ts vs : List Expr) : Option (Option (List Str)) :=
  if (!(ts.length == 2 || ts.length == 3) || vs.length != ts.length) = true then some none
  else if vs.any isSt = true then some none
  else if ((swNames sc ts).length != ts.length || (swNames sc ts).eraseDups.length != (swNames sc ts).length) = true then some none
  else if vs.all (foldedForSure 8) = true then some none
  else if vs.all (constantsAlone 8) = true then none
  else some (some (swNames sc ts))
theorem blockK {env : Env} (hk : env.scope.kind = .function) : env.blockKind = .function := by
  unfold Env.blockKind
  rw [hk]
  rfl
theorem swN_ok {env : Env} {ts vs : List Expr} {k k2 : Nat} {p p2 : Pos} {r : Option (List Str)} (hk : env.scope.kind = .function) (h : swN env.scope ts vs = some r) : swappedStores [.Tuple ts k p] (.Tuple vs k2 p2) env = pure r := by
  have hb := blockK hk
  unfold swN at h
  unfold swappedStores
  simp only [hb]
  change (if (!(ts.length == 2 || ts.length == 3) || vs.length != ts.length || (ScopeKind.function != ScopeKind.function)) = true then (pure none : Sem (Option (List Str))) else
    if vs.any isSt = true then pure none else if ((swNames env.scope ts).length != ts.length || (swNames env.scope ts).eraseDups.length != (swNames env.scope ts).length) = true then pure none else
    if vs.all (foldedForSure 8) = true then pure none else if vs.all (constantsAlone 8) = true then _ else pure (some (swNames env.scope ts))) = pure r
  rw [show (ScopeKind.function != ScopeKind.function) = false from by decide, Bool.or_false]
  by_cases c1 : (!(ts.length == 2 || ts.length == 3) || vs.length != ts.length) = true
  · rw [if_pos c1] at h ⊢
    cases h
    rfl
  · rw [if_neg c1] at h ⊢
    by_cases c2 : vs.any isSt = true
    · rw [if_pos c2] at h ⊢
      cases h
      rfl
    · rw [if_neg c2] at h ⊢
      by_cases c3 : ((swNames env.scope ts).length != ts.length || (swNames env.scope ts).eraseDups.length != (swNames env.scope ts).length) = true
      · rw [if_pos c3] at h ⊢
        cases h
        rfl
      · rw [if_neg c3] at h ⊢
        by_cases c4 : vs.all (foldedForSure 8) = true
        · rw [if_pos c4] at h ⊢
          cases h
          rfl
        · rw [if_neg c4] at h ⊢
          by_cases c5 : vs.all (constantsAlone 8) = true
          · rw [if_pos c5] at h
            cases h
          · rw [if_neg c5] at h ⊢
            cases h
            rfl
/-- name = [..] -/
def swB (sc scope : Scope) (pos py : Pos) (t : Str) : Bool := sc.names.lookup t == some .local && py.line == pos.line && !(scope.names.any fun (n, k) => n == t && (k == .local || k == .cell))
theorem swaps_lc {env : Env} {elt : Expr} {gs : List Comprehension} {scope : Scope} {pos py : Pos} {t : Str} {l : Nat} (hk : env.scope.kind = .function) :
    swapsWith (.ListComp elt gs scope pos) (some (.Name t py)) l env = pure (swB env.scope scope pos py t) := by
  have hb := blockK hk
  unfold swapsWith swB
  simp only [hb]
  rfl
section
variable {X : Cx} {c : Cc} {F : Fe} {U : WX} {e e1 e2 tg it elt : Expr} {es ifs : List Expr} {x a b : Ex} {xs : List Ex} {pos : Pos}
def locC (c : Cc) (n : Str) : Bool := decide (c.own.names.lookup n = some .local) || decide (c.own.names.lookup n = some .cell)
theorem locC_ok (O : Ok c X F U) {n : Str} (h : locC c n = true) : Loc X.env.scope n ∧ (X.fn n = true ∨ X.env.scope.names.lookup n = some .local) := by
  simp only [locC, Bool.or_eq_true, decide_eq_true_eq] at h
  exact O.st n h
/-- name = e -/
theorem psx_set (O : Ok c X F U) {i : Nat} {n : Str} {p : Pos} (hi : c.N[i]? = some n) (hn : locC c n = true) (h1 : PE X e (TX (zd X) F U x)) (hs : swapsWith e (some (.Name n p)) pos.line X.env = pure false) : PS X (.Assign [.Name n p] e pos) (TSx (zd X) F U (.asg (.nm i) x)) :=
  have l := locC_ok O hn
  PS.of (ps_set O.nd (by rw [O.hN]; exact hi) l.1 h1 hs l.2) fun D σ H h => by
    obtain ⟨G, ι, m, σw, S, E, hL, P⟩ := h
    refine ⟨G, ι, m, σw, S, E, hL, Post.mono (PostS.st (R := RW (zd X)) E hL P) ?_⟩
    rintro v H1 ⟨G1, ι1, m1, w, T1, S1, E1, L1, r1, P1⟩
    exact PostS.nxt (P1 : PostS _ _ _ _ _ _ (.nx (σw.set i (some w)) m1) D U) S1 (E1.set r1 i)
theorem psx_setLc (O : Ok c X F U) {i : Nat} {n : Str} {p lp : Pos} {scope : Scope} {ow : List (Str × Nat)} {ts : List Nat} {cs : List Ex} {bx : Bool} (hi0 : c.N[i]? = some n) (hn : X.env.scope.names.lookup n = some .local)
    (hsw : swapsWith (.ListComp elt [⟨tg, it, ifs, 0⟩] scope lp) (some (.Name n p)) pos.line X.env = pure true) (hc : X.calm = true) (hi : PI X tg it (TXi (zd X) F U a)) (ok : BlkOk X.N X.env.scope scope ow)
    (hg : ∀ (s : Shared) (H : Hp) (C : Addr) (cl : List (Str × Addr)) (fp : List Addr), PG (X.blk s H scope (compEnvC scope cl C X.env) fp) tg (TGb (zd X) ts))
    (ht : ∀ (s : Shared) (H : Hp) (C : Addr) (cl : List (Str × Addr)) (fp : List Addr), PTs (X.blk s H scope (compEnvC scope cl C X.env) fp) ifs (TXc (zd X) F (fun _ _ _ _ => False) cs))
    (he : ∀ (s : Shared) (H : Hp) (C : Addr) (cl : List (Str × Addr)) (fp : List Addr), PE (X.blk s H scope (compEnvC scope cl C X.env) fp) elt (TX (zd X) F (fun _ _ _ _ => False) x))
    (hs : ∀ v, foldedSetIterable it X.env v = pure v) (hts : ∀ i ∈ ts, i ∈ ow.map (·.2)) : PS X (.Assign [.Name n p] (.ListComp elt [⟨tg, it, ifs, 0⟩] scope lp) pos) (TSx (zd X) F U (.asg (.nm i) (.lc bx (ow.map (·.2)) ts a cs x))) :=
  PS.of (ps_setLc hc O.nd (by rw [O.hN]; exact hi0) hn hsw hi ok hg ht he hs) fun D σ H h => by
    obtain ⟨G, ι, m, σw, S, E, hL, P⟩ := h
    refine lc_read (U := U) (bx := bx) hts ⟨G, ι, m, σw, S, E, hL, Post.mono (PostS.st (R := RW (zd X)) E hL P) ?_⟩
    rintro v H1 ⟨G1, ι1, m1, w, T1, S1, E1, L1, r1, P1⟩
    exact PostS.nxt (P1 : PostS _ _ _ _ _ _ (.nx (σw.set i (some w)) m1) D U) S1 (E1.set r1 i)
/-! ### targets of a single kind -/
theorem pgt_nm (O : Ok c X F U) {i : Nat} {n : Str} {p : Pos} (hi : c.N[i]? = some n) (hn : locC c n = true) : PG X (.Name n p) (TGt (zd X) F U (.nm i)) :=
  have l := locC_ok O hn
  PG.of (pg_name O.nd (by rw [O.hN]; exact hi) l.1 l.2) fun v σ H Q h => by
    obtain ⟨G, ι, m, σw, w, S, E, hL, r, P⟩ := h
    exact PostS.nxt (P : PostS _ _ _ _ _ _ (.nx (σw.set i (some w)) m) _ U) S (E.set r i)
theorem assign_sub {o i : Expr} {env : Env} (h : noSl i = true) (v : Value) : assign (.Subscript o i pos) env v = (do
      let ov ← holding [v] (eval o env)
      let iv ← holding [v, ov] (eval i env)
      standAt pos
      holding [v, ov, iv] (setItem ov iv v)
      release [v, ov, iv] []) := by
  cases i <;> first | rfl | cases h
theorem sto_ok {Z : Wd} {L : Nat} {G : Hp} {ι : List Addr} {m m' : Sto} {H : Hp} {v o i : V} {w y z : W} {Q : Hp → Prop} (S : RS Z G ι m H) (ro : RW Z G ι o y) (ri : RW Z G ι i z) (rv : RW Z G ι v w) (e : stoIx L y z w m = some m')
    (q : ∀ H', RS Z G ι m' H' → To L G ι m H G ι m' H' → Q H') : rSetL o i v H Q := by
  unfold stoIx at e
  split at e
  · rename_i j k
    obtain ⟨ws, e1, e⟩ := Option.bind_eq_some_iff.mp e
    obtain ⟨n, e2, e⟩ := Option.bind_eq_some_iff.mp e
    obtain ⟨p, rfl, hp⟩ := ref_rw ro
    cases rw_int ri
    obtain ⟨vs, h1, r1⟩ := S.lst hp e1
    obtain ⟨S', T, _⟩ := put_ok S hp e1 e (fun u hu => (List.mem_or_eq_of_mem_set hu).imp id fun q => List.mem_singleton.mpr q) (RWs.set rv n r1)
    exact ⟨p, vs, k, n, rfl, rfl, h1, by rw [r1.length]; exact e2, q _ S' T⟩
  · cases e
theorem pgt_ix {p : Pos} (h1 : PE X e1 (TX (zd X) F U a)) (h2 : PE X e2 (TX (zd X) F U b)) (hs : noSl e2 = true) : PG X (.Subscript e1 e2 p) (TGt (zd X) F U (.ix a b)) :=
  PG.of (pg_sub h1 h2 set_list (assign_sub hs)) fun v σ H Q h => by
    obtain ⟨G, ι, m, σw, w, S, E, hL, r, P⟩ := h
    have P : PostS _ _ _ _ _ _ ((evE F a σw m).st σw fun x m => (evE F b σw m).st σw fun y m => (lift (stoIx F.L x y w m) m).st σw fun m' _ => .nx σw m') _ U := P
    refine ⟨G, ι, m, σw, S, E, hL, Post.mono (PostS.st (R := RW (zd X)) E hL P) ?_⟩
    rintro o H1 ⟨G1, ι1, m1, y, T1, S1, E1, L1, r1, P1⟩
    refine ⟨G1, ι1, m1, σw, S1, E1, L1, Post.mono (PostS.st (R := RW (zd X)) E1 L1 P1) ?_⟩
    rintro i H2 ⟨G2, ι2, m2, z, T2, S2, E2, L2, r2, P2⟩
    obtain ⟨m3, e, P3⟩ := P2.lift
    refine sto_ok S2 (r1.mono T2.g) r2 ((r.mono T1.g).mono T2.g) e fun H' S' T' => ?_
    exact (P3 : PostS _ _ _ _ _ _ (.nx σw m3) _ U) σ H' G2 ι2 T' S' E2
theorem pgts_nil : PGs X [] (TGts (zd X) F U []) :=
  PGs.of pgs_nil fun vs σ H Q h => by
    obtain ⟨G, ι, m, σw, ws, S, E, hL, r, P⟩ := h
    cases r with
    | nil => exact ⟨rfl, PostS.nxt P S E⟩
    | cons _ _ => exact P.elim
theorem pgts_cons {t : Tg} {ts : List Tg} (h1 : PG X e (TGt (zd X) F U t)) (h2 : PGs X es (TGts (zd X) F U ts)) (hs : (assignEach (e :: es) X.env).map (·.2) = assign e X.env :: (assignEach es X.env).map (·.2)) : PGs X (e :: es) (TGts (zd X) F U (t :: ts)) :=
  PGs.of (pgs_cons h1 h2 hs) fun vs σ H Q h => by
    obtain ⟨G, ι, m, σw, ws, S, E, hL, r, P⟩ := h
    cases r with
    | nil => exact P.elim
    | @cons v vs w ws r rs =>
      refine ⟨v, vs, rfl, G, ι, m, σw, w, S, E, hL, r, ?_⟩
      have P : PostS _ _ _ _ _ _ ((asT F t w σw m).then fun σ m => asTs F ts ws σ m) _ U := P
      cases hr : asT F t w σw m with
      | nx σ1 m1 =>
        rw [hr] at P
        exact fun σ' H' G' ι' T S' E' => ⟨G', ι', m1, σ1, ws, S', E', Nat.le_trans hL T.k.1, rs.mono T.g, PostS.shift (P : PostS _ _ _ _ _ _ (asTs F ts ws σ1 m1) _ U) T⟩
      | rt w m' => rw [hr] at P; exact P
      | xc σw' c fs m' => rw [hr] at P; exact P
      | no => rw [hr] at P; exact P.elim
theorem asT_rt {t : Tg} {w w' : W} {σw : En} {m m' : Sto} : asT F t w σw m ≠ .rt w' m' := by
  cases t with
  | nm i => intro z; cases z
  | ix p q =>
    intro z
    simp only [asT] at z
    cases h1 : evE F p σw m with
    | no => rw [h1] at z; cases z
    | exc _ _ _ => rw [h1] at z; cases z
    | ok y my =>
      rw [h1] at z
      simp only [st_ok] at z
      cases h2 : evE F q σw my with
      | no => rw [h2] at z; cases z
      | exc _ _ _ => rw [h2] at z; cases z
      | ok y2 my2 =>
        rw [h2] at z
        simp only [st_ok] at z
        cases h3 : stoIx F.L y y2 w my2 with
        | none => rw [h3] at z; cases z
        | some m3 => rw [h3] at z; cases z
theorem asTs_rt {w' : W} {m' : Sto} : ∀ {ts : List Tg} {ws : List W} {σw : En} {m : Sto}, asTs F ts ws σw m ≠ .rt w' m'
  | [], [], _, _ => fun z => by cases z
  | [], _ :: _, _, _ => fun z => by cases z
  | _ :: _, [], _, _ => fun z => by cases z
  | t :: ts, w :: ws, σw, m => fun z => by
    have z : (asT F t w σw m).then (fun σ m => asTs F ts ws σ m) = .rt w' m' := z
    cases h : asT F t w σw m with
    | nx σ1 m1 =>
      rw [h] at z
      exact asTs_rt z
    | rt w1 m1 => exact asT_rt h
    | xc _ _ _ _ => rw [h] at z; cases z
    | no => rw [h] at z; cases z
theorem PostS.only {Z : Wd} {L : Nat} {G : Hp} {ι : List Addr} {m : Sto} {H : Hp} {r : SR} {D : Ends} (hr : ∀ w m, r ≠ .rt w m) (P : PostS Z L G ι m H r D U) : PostS Z L G ι m H r { nx := D.nx, rt := fun _ _ => False } U := by
  cases r with
  | nx _ _ => exact P
  | rt w m => exact absurd rfl (hr w m)
  | xc _ _ _ _ => exact P
  | no => exact P
/-- x[i] = e, name = e by the general road -/
theorem psx_asg {t : Tg} (h1 : PE X e (TX (zd X) F U x)) (hg : PG X tg (TGt (zd X) F U t)) (hs : swapsWithSole [tg] e pos.line X.env = pure false) (hw : swappedStores [tg] e X.env = pure none) (ha : (assignEach [tg] X.env).map (·.2) = [assign tg X.env]) :
    PS X (.Assign [tg] e pos) (TSx (zd X) F U (.asg t x)) :=
  PS.of (ps_asg h1 hg hs hw ha) fun D σ H h => by
    obtain ⟨G, ι, m, σw, S, E, hL, P⟩ := h
    refine ⟨G, ι, m, σw, S, E, hL, Post.mono (PostS.st (R := RW (zd X)) E hL P) ?_⟩
    rintro v H1 ⟨G1, ι1, m1, w, T1, S1, E1, L1, r1, P1⟩
    refine ⟨G1, ι1, m1, σw, w, S1, E1, L1, r1, ?_⟩
    exact P1.only fun _ _ => asT_rt
/-- (a, b, ..) = e -/
theorem psx_unp {ts : List Tg} {k : Nat} {p : Pos} (hc : X.calm = true) (h1 : PE X e (TX (zd X) F U x)) (hg : PGs X es (TGts (zd X) F U ts)) (hn : (assignEach es X.env).length = ts.length) (hst : (assignEach es X.env).findIdx? (·.1) = none)
    (hs : swapsWithSole [.Tuple es k p] e pos.line X.env = pure false) (hw : swappedStores [.Tuple es k p] e X.env = pure none) :
    PS X (.Assign [.Tuple es k p] e pos) (TSx (zd X) F U (.unp ts x)) :=
  PS.of (ps_asg h1 (pg_tup (k := k) (pos := p) hc hg hn hst) hs hw rfl) fun D σ H h => by
    obtain ⟨G, ι, m, σw, S, E, hL, P⟩ := h
    refine ⟨G, ι, m, σw, S, E, hL, Post.mono (PostS.st (R := RW (zd X)) E hL P) ?_⟩
    rintro v H1 ⟨G1, ι1, m1, w, T1, S1, E1, L1, r1, P1⟩
    obtain ⟨ws, e1, P1⟩ := P1.lift
    obtain ⟨q, vs, rfl, hq, rs⟩ := tup_rw r1 e1
    cases hz : decide (ws.length = ts.length) with
    | false => rw [hz] at P1; exact P1.elim
    | true =>
      rw [hz] at P1
      exact ⟨q, vs, rfl, Same.sqt S1.sub hq, by rw [rs.length]; exact of_decide_eq_true hz, G1, ι1, m1, σw, ws, S1, E1, L1, rs, PostS.only (fun _ _ => asTs_rt) P1⟩
/-! ### a, b = x, y -/
theorem psx_par2 (O : Ok c X F U) {i j : Nat} {n1 n2 : Str} {p1 p2 pt pt2 : Pos} {kt k2 : Nat} (hc : X.calm = true) (hi : c.N[i]? = some n1) (hj : c.N[j]? = some n2) (hij : i ≠ j) (hx : X.env.scope.names.lookup n1 = some .local) (hy : X.env.scope.names.lookup n2 = some .local)
    (h1 : PA X [e1, e2] (TXs (zd X) F U xs)) (hw : swappedStores [.Tuple [.Name n1 p1, .Name n2 p2] kt pt] (.Tuple [e1, e2] k2 pt2) X.env = pure (some [n1, n2])) :
    PS X (.Assign [.Tuple [.Name n1 p1, .Name n2 p2] kt pt] (.Tuple [e1, e2] k2 pt2) pos) (TSx (zd X) F U (.par [i, j] xs)) :=
  PS.of (ps_par hc O.nd (by rw [O.hN]; exact hi) (by rw [O.hN]; exact hj) hij hx hy h1 hw) fun D σ H h => by
    obtain ⟨G, ι, m, σw, S, E, hL, P⟩ := h
    refine ⟨G, ι, m, σw, S, E, hL, Post.mono (PostS.st (R := RWs (zd X)) E hL P) ?_⟩
    rintro vs H1 ⟨G1, ι1, m1, ws, T1, S1, E1, L1, r1, P1⟩
    obtain ⟨σ1, e, P1⟩ := P1.lift
    cases r1 with
    | nil => cases e
    | @cons v _ w _ r rs =>
      cases rs with
      | nil => cases e
      | @cons u _ z _ r' rs =>
        cases rs with
        | cons _ _ => cases e
        | nil =>
          cases e
          exact ⟨v, u, rfl, PostS.nxt (P1 : PostS _ _ _ _ _ _ (.nx ((σw.set i (some w)).set j (some z)) m1) D U) S1 ((E1.set r i).set r' j)⟩
theorem psx_par3 (O : Ok c X F U) {i j l : Nat} {n1 n2 n3 : Str} {p1 p2 p3 pt pt2 : Pos} {kt k2 : Nat} (hc : X.calm = true) (hi : c.N[i]? = some n1) (hj : c.N[j]? = some n2) (hl : c.N[l]? = some n3) (hij : i ≠ j) (hil : i ≠ l) (hjl : j ≠ l)
    (hx : X.env.scope.names.lookup n1 = some .local) (hy : X.env.scope.names.lookup n2 = some .local) (hz : X.env.scope.names.lookup n3 = some .local)
    (h1 : PA X [e1, e2, elt] (TXs (zd X) F U xs)) (hw : swappedStores [.Tuple [.Name n1 p1, .Name n2 p2, .Name n3 p3] kt pt] (.Tuple [e1, e2, elt] k2 pt2) X.env = pure (some [n1, n2, n3])) :
    PS X (.Assign [.Tuple [.Name n1 p1, .Name n2 p2, .Name n3 p3] kt pt] (.Tuple [e1, e2, elt] k2 pt2) pos) (TSx (zd X) F U (.par [i, j, l] xs)) :=
  PS.of (ps_par3 hc O.nd (by rw [O.hN]; exact hi) (by rw [O.hN]; exact hj) (by rw [O.hN]; exact hl) hij hil hjl hx hy hz h1 hw) fun D σ H h => by
    obtain ⟨G, ι, m, σw, S, E, hL, P⟩ := h
    refine ⟨G, ι, m, σw, S, E, hL, Post.mono (PostS.st (R := RWs (zd X)) E hL P) ?_⟩
    rintro vs H1 ⟨G1, ι1, m1, ws, T1, S1, E1, L1, r1, P1⟩
    obtain ⟨σ1, e, P1⟩ := P1.lift
    cases r1 with
    | nil => cases e
    | @cons v _ w _ r rs =>
      cases rs with
      | nil => cases e
      | @cons u _ z _ r' rs =>
        cases rs with
        | nil => cases e
        | @cons u2 _ z2 _ r'' rs =>
          cases rs with
          | cons _ _ => cases e
          | nil =>
            cases e
            exact ⟨v, u, u2, rfl, PostS.nxt (P1 : PostS _ _ _ _ _ _ (.nx (((σw.set i (some w)).set j (some z)).set l (some z2)) m1) D U) S1 (((E1.set r i).set r' j).set r'' l)⟩
end
/-! ### a, *b = x -/
section
variable {X : Cx} {pins : List (Addr × Obj)} {σ : L2.St} {H : Hp} {s : Shared}
theorem unpack_star {b : Bool} {a : Addr} {v : V} {vs : List V} {Q : List Value → Shared → Prop} (I : Inv X pins σ H s) (hc : X.calm = true) (h : SqB b X.K H a (v :: vs))
    (q : ∀ (u : Value) (p : Addr) (s' : Shared), H p = none → RelV v u → Inv X pins σ (upd H p (.lst vs)) s' → Q [u, .ref p] s') : wpAny (model X.prog X.w) X.A (unpackItems (.ref a) 2 (some 1)) Q X.xe s := by
  obtain ⟨its, rv, sq, hlt⟩ := sqB_at I h
  have hh : X.A.handled = none := I.ok.hd hc
  cases rv with
  | @cons _ u _ us ru rus =>
    have hlen : vs.length ≤ sizeLine := by
      cases b with
      | true =>
        obtain ⟨i2, r2, _, z⟩ := I.tuple h
        have := rus.length
        simp at z
        omega
      | false =>
        obtain ⟨i2, r2, _, z⟩ := I.list h
        have := rus.length
        simp at z
        omega
    have hsz : (u :: us).toArray.size ≤ sizeLine := by
      cases b with
      | true =>
        obtain ⟨i2, r2, _, z⟩ := I.tuple h
        have := rus.length
        simp at z ⊢
        omega
      | false =>
        obtain ⟨i2, r2, _, z⟩ := I.list h
        have := rus.length
        simp at z ⊢
        omega
    have hne : a ≠ s.heap.objs.size := Nat.ne_of_lt hlt
    have fin : ∀ (h₁ h₂ : Heap) (tk : Nat), (∀ b o, b ≠ s.heap.objs.size → h₁.get? b = some o → h₂.get? b = some o) → Heap.SameBut s.heap.objs.size (s.heap.push (siO b a)) h₁ →
        wpAny (model X.prog X.w) X.A (newList us >>= fun d => pure ([u] ++ [d] ++ ([] : List Value))) Q X.xe { s with heap := h₂, toks := tk } := fun h₁ h₂ tk hk hs₁ => by
      have kp : ∀ b o, s.heap.get? b = some o → h₂.get? b = some o := fun b o e => hk b o (Nat.ne_of_lt (Heap.lt_size e)) ((hs₁.2 b (Nat.ne_of_lt (Heap.lt_size e))).trans (Heap.get?_push_of_some _ e))
      have I1 : Inv X pins σ H { s with heap := h₂, toks := tk } := I.kept kp
      refine wpAny_bind (wpAny_newObj_type (wpAny_pure ?_) (by simp only [sizeOk, List.size_toArray]; rw [← rus.length]; exact hlen))
      refine q u h₂.objs.size _ (I1.hok.fresh (Nat.le_refl _)) ru (I1.laid (t' := tk) (fun b o e => Heap.get?_push_of_some _ e) (Nat.le_refl _) ?_)
      exact ⟨hlen, us, 0, rus, Heap.get?_push_size _ rfl⟩
    unfold unpackItems
    refine wpAny_bind ?_
    unfold notIterableAtAll
    cases b with
    | true =>
      have ht : IsTup s.heap a (u :: us).toArray := sq
      refine wpAny_bind (wpAny_specialOf ht.typeIs slot_tuple_iter.lookup ?_)
      refine wpAny_pure ?_
      simp only [Bool.false_eq_true, if_false]
      refine wpAny_bind (wpAny_holding (iter_tuple ht ?_))
      refine wpAny_bind (wpAny_holding (draw_tuple hne 1 0 _ _ ⟨_, Heap.get?_push_size _ rfl, rfl, rfl⟩ (ht.push _) (by simp) fun h₁ hit₁ hs₁ => ?_))
      have ht₁ : IsTup h₁ a (u :: us).toArray := (ht.push _).extBut hs₁.extBut hne
      obtain ⟨oi, hoi, _⟩ := id hit₁
      obtain ⟨ol, hol, _⟩ := id ht₁
      show wpAny _ _ (if ([u] : List Value).length < 1 then _ else _) _ _ _
      rw [if_neg (by simp)]
      refine wpAny_bind (wpAny_holding (PySem.W.kun_collect (s := { s with heap := h₁ }) (T := "tuple_iterator") (.inr (.inr (.inr rfl))) (Walks.tuple (A := X.A.in1) hh s.heap.objs.size a hne (u :: us).toArray) (fun j u st => st.1.typeIs) (k := 1) (by simp) ⟨hit₁, ht₁⟩ (Heap.lt_size hoi) (Heap.lt_size hol) (fun h₂ tk hk => ?_) hsz))
      show wpAny _ _ (if ((u :: us).drop 1).length < 0 then _ else (newList (((u :: us).drop 1).take (((u :: us).drop 1).length - 0)) >>= fun d => pure ([u] ++ [d] ++ ((u :: us).drop 1).drop (((u :: us).drop 1).length - 0)))) _ _ _
      rw [if_neg (Nat.not_lt_zero _)]
      simp only [List.drop_succ_cons, List.drop_zero, Nat.sub_zero, List.take_length, List.drop_length]
      exact fin h₁ h₂ tk hk hs₁
    | false =>
      have ht : s.heap.IsList a (u :: us).toArray := sq
      refine wpAny_bind (wpAny_specialOf ht.typeIs slot_list_iter.lookup ?_)
      refine wpAny_pure ?_
      simp only [Bool.false_eq_true, if_false]
      refine wpAny_bind (wpAny_holding (wpAny_pyIter_list ht ?_))
      refine wpAny_bind (wpAny_holding (PySem.W.kun_draw hne 1 0 _ _ ⟨_, Heap.get?_push_size _ rfl, rfl, rfl⟩ (ht.push _) (by simp) fun h₁ hit₁ hs₁ => ?_))
      have ht₁ : h₁.IsList a (u :: us).toArray := (ht.push _).extBut hs₁.extBut hne
      obtain ⟨oi, hoi, _⟩ := id hit₁
      obtain ⟨ol, hol, _⟩ := id ht₁
      show wpAny _ _ (if ([u] : List Value).length < 1 then _ else _) _ _ _
      rw [if_neg (by simp)]
      refine wpAny_bind (wpAny_holding (PySem.W.kun_collect (s := { s with heap := h₁ }) (T := "list_iterator") (.inr (.inr (.inl rfl))) (Walks.list (A := X.A.in1) hh s.heap.objs.size a hne (u :: us).toArray) (fun j u st => st.1.typeIs) (k := 1) (by simp) ⟨hit₁, ht₁⟩ (Heap.lt_size hoi) (Heap.lt_size hol) (fun h₂ tk hk => ?_) hsz))
      show wpAny _ _ (if ((u :: us).drop 1).length < 0 then _ else (newList (((u :: us).drop 1).take (((u :: us).drop 1).length - 0)) >>= fun d => pure ([u] ++ [d] ++ ((u :: us).drop 1).drop (((u :: us).drop 1).length - 0)))) _ _ _
      rw [if_neg (Nat.not_lt_zero _)]
      simp only [List.drop_succ_cons, List.drop_zero, Nat.sub_zero, List.take_length, List.drop_length]
      exact fin h₁ h₂ tk hk hs₁
end
section
variable {X : Cx} {c : Cc} {F : Fe} {U : WX} {e : Expr} {x : Ex} {pos : Pos}
def gStar (K : PySem.W.Frag) (i j : Nat) : TG := fun v σ H Q => ∃ b a y vs, v = .ref a ∧ SqB b K H a (y :: vs) ∧ ∀ p, H p = none → Q ((σ.set i (some y)).set j (some (.ref p))) (upd H p (.lst vs))
theorem pg_star (O : Ok c X F U) {i j k : Nat} {n1 n2 : Str} {p1 p2 p3 p : Pos} (hc : X.calm = true) (hi : c.N[i]? = some n1) (hj : c.N[j]? = some n2) (h1 : locC c n1 = true) (h2 : locC c n2 = true) :
    PG X (.Tuple [.Name n1 p1, .Starred (.Name n2 p2) p3] k p) (gStar X.K i j) := by
  obtain ⟨l1, f1⟩ := locC_ok O h1
  obtain ⟨l2, f2⟩ := locC_ok O h2
  refine ⟨fun pins s σ H v u Q I r h => ?_⟩
  obtain ⟨b, a, y, vs, rfl, hs, q⟩ := h
  cases r
  rw [assign_Tuple]
  refine wpAny_bind (wpAny_standAt ?_)
  show wpAny _ _ (holding [.ref a] (unpackItems (.ref a) 2 (some 1)) >>= fun vs => assignInOrder [assign (.Name n1 p1) X.env, assign (.Name n2 p2) X.env] vs) _ _ _
  refine wpAny_bind (wpAny_holding (unpack_star I hc hs fun w p s' hp rw' I' => ?_))
  refine assignInOrder_cons (wpAny_assign_Name (store_ok I' O.nd (by rw [O.hN]; exact hi) l1 rw' (fun s2 I2 => ?_) f1))
  exact assignInOrder_cons (wpAny_assign_Name (store_ok (v := .ref p) I2 O.nd (by rw [O.hN]; exact hj) l2 rfl (fun s3 I3 => assignInOrder_nil ⟨_, _, I3, q p hp⟩) f2))
theorem psx_star (O : Ok c X F U) {i j k : Nat} {n1 n2 : Str} {p1 p2 p3 p : Pos} (hc : X.calm = true) (hi : c.N[i]? = some n1) (hj : c.N[j]? = some n2) (h1 : locC c n1 = true) (h2 : locC c n2 = true) (he : PE X e (TX (zd X) F U x))
    (hs : swapsWithSole [.Tuple [.Name n1 p1, .Starred (.Name n2 p2) p3] k p] e pos.line X.env = pure false) (hw : swappedStores [.Tuple [.Name n1 p1, .Starred (.Name n2 p2) p3] k p] e X.env = pure none) :
    PS X (.Assign [.Tuple [.Name n1 p1, .Starred (.Name n2 p2) p3] k p] e pos) (TSx (zd X) F U (.star i j x)) :=
  PS.of (ps_asg he (pg_star O hc hi hj h1 h2) hs hw rfl) fun D σ H h => by
    obtain ⟨G, ι, m, σw, S, E, hL, P⟩ := h
    refine ⟨G, ι, m, σw, S, E, hL, Post.mono (PostS.st (R := RW (zd X)) E hL P) ?_⟩
    rintro v H1 ⟨G1, ι1, m1, w, T1, S1, E1, L1, r1, P1⟩
    obtain ⟨ws, e1, P1⟩ := P1.lift
    obtain ⟨a, vs, rfl, hs, rs⟩ := seq_rw S1 r1 e1
    cases rs with
    | nil => exact P1.elim
    | @cons y vs w' ws ry rs =>
      have P1 : PostS _ _ _ _ _ _ (.nx ((σw.set i (some w')).set j (some (mkL ws))) m1) D U := P1
      have hz : vs.length ≤ sizeLine := by
        have : (y :: vs).length ≤ sizeLine := hs.elim (fun h => sql_sz S1 h) fun h => tup_sz S1 h
        simp at this
        omega
      have hs' : ∃ b, SqB b X.K H1 a (y :: vs) := hs.elim (fun h => ⟨false, h⟩) fun h => ⟨true, h⟩
      obtain ⟨b, hs'⟩ := hs'
      refine ⟨b, a, y, vs, rfl, hs', fun p hp => ?_⟩
      have g := grow_new (ι := ι1) (o := .lst vs) (S1.free hp).1
      exact P1 _ _ (upd G1 p (.lst vs)) ι1 (to_new S1 hp) (S1.new hp hz) (((E1.mono g).set (ry.mono g) i).set (mkL_rw upd_same (rs.mono g)) j)
end
end Mi
/-! Mi, part R: own exception classes over an own base over ValueError. -/
namespace Mi
open PySem PySem.Spec PyProof.Rows L2
/-- the base: B.__init__ is ValueError's -/
structure BaseC (K : PySem.W.Frag) (C : Addr) : Prop where
  ga : PySem.W.specialIn K (.ref C) "__getattribute__" = some (some (.builtin "type.__getattribute__"))
  rd : PySem.W.readsIn K C (.type "type") = true
  vi : PySem.W.findCls K (.ref C) (.type "type") "__init__" = some (.val (.builtin "ValueError.__init__"))
theorem mcall_eq {o : Expr} {name : Str} {apos pos : Pos} {args : List Expr} {env : Env} (hb : baseOk o = true) (hs : args.all noSt = true) (hn : decide (args.length < 30) = true) (hl : (apos.endLine == pos.line) = true) :
    eval (.Call (.Attribute o name apos) args [] pos) env = (do
      let ov ← eval o env
      standAt apos.atName
      let (f, first) ← holding [ov] (getMethod ov name (do return (← importBound o env).getD true))
      callWith pos f first (backTo pos (starEach args env)) (backToKw pos (keywordEach [] env))) := by
  have hf : methodCallForm (args.length + ([] : List Keyword).length) (backTo pos (starEach args env)) (backToKw pos (keywordEach [] env)) = true := by
    unfold methodCallForm
    rw [noSt_all2 hs]
    exact hn
  have hp : methodCallPos true o env apos pos = pure pos := by
    unfold methodCallPos
    rw [hl]
    rfl
  show (do
    let ov ← attributeBase o name env (eval o env)
    standAt apos.atName
    methodCall o name apos pos env ov (args.length + ([] : List Keyword).length) (backTo pos (starEach args env)) (backToKw pos (keywordEach [] env))) = _
  rw [baseOk_ok hb]
  unfold methodCall calleeOf
  rw [hf, hp]
  rfl
section
variable {X : Cx} {e : Expr} {es : List Expr} {ta : TA} {p1 p2 pos : Pos} {b : Str} {B : Addr}
theorem pe_binit {pl : Sem Bool} (hg : Gl X b) (hd : (b == ("__debug__" : Str)) = false) (hm : X.mg b = some (.ref B)) (T : BaseC X.K B) (ha : PA X (e :: es) ta) (he : starEach (e :: es) X.env = (false, eval e X.env) :: starEach es X.env) (hpl : (backTo pos (starEach es X.env)).any (·.1) = false)
    (hc : eval (.Call (.Attribute (.Name b p1) "__init__" p2) (e :: es) [] pos) X.env = (do
      let ov ← eval (.Name b p1) X.env
      standAt p2.atName
      let (f, first) ← holding [ov] (getMethod ov "__init__" pl)
      callWith pos f first (backTo pos (starEach (e :: es) X.env)) (backToKw pos (keywordEach [] X.env)))) :
    PE X (.Call (.Attribute (.Name b p1) "__init__" p2) (e :: es) [] pos) (tVeI X.K ta) := by
  refine ⟨fun pins s σ H Q I h => PySem.W.methodCall_KW (ld_glob I hg hm (PySem.W.method_cls I.kIn T.ga (PySem.W.cls_value I.kIn T.rd T.vi (by decide +kernel) ?_)) hd) hc⟩
  show wpAny _ _ (callWith pos (Value.builtin "ValueError.__init__") [] (backTo pos (starEach (e :: es) X.env)) []) _ _ _
  refine PyProof.Rows.callWith_method1 (thn (ha.run pos pins _ σ H _ (I.tok _) h) fun us s1 hq => ?_) he hpl
  obtain ⟨vs, H1, I1, r1, a, C, ws, ev, hl, T1, ea, q⟩ := hq
  subst ev
  cases r1 with
  | @cons _ u0 _ ur ra rw' =>
    obtain rfl : u0 = Value.ref a := ra
    exact oinit_ok T1 I1 ea (by rw [← Paired.length rw', sizeLine_eq]; omega) fun s' J => ⟨.non, H1, J, rfl, q⟩
end
/-! ### the fields, one after the other -/
abbrev Flds := List (Nat × Str)
def tFld (K : PySem.W.Frag) (fs : Flds) : TS := fun D σ H => ∃ (a C dx : Addr) (fl : List (Str × V)) (vs : List V), σ[0]? = some (some (.ref a)) ∧ OexC K C ∧ H a = some (exo a C (some dx)) ∧ H dx = some (exd dx fl) ∧ dx ≠ a ∧ fl.length + fs.length ≤ 900 ∧
  (∀ p ∈ fs, PySem.W.findIn K (.ref C) p.2 = some none) ∧ vs.length = fs.length ∧ (∀ q ∈ fs.zip vs, σ[q.1.1]? = some (some q.2)) ∧
  ∀ H', H' a = some (exo a C (some dx)) → H' dx = some (exd dx (((fs.map (·.2)).zip vs).foldl (fun l q => q :: l) fl)) → (∀ b, b ≠ a → b ≠ dx → H' b = H b) → D.nx σ H'
def fldSt (self : Str) (q : Nat × Str) : Stmt → Bool
  | .Assign [.Attribute (.Name n _) f _] (.Name v _) _ => n == self && f == q.2 && v == q.2
  | _ => false
def fldSts (self : Str) : Flds → List Stmt → Bool
  | [], [] => true
  | q :: fs, s :: ss => fldSt self q s && fldSts self fs ss
  | _, _ => false
theorem fldSt_eq {self : Str} {q : Nat × Str} {s : Stmt} (h : fldSt self q s = true) : ∃ p1 p2 p3 p4, s = .Assign [.Attribute (.Name self p1) q.2 p2] (.Name q.2 p3) p4 := by
  unfold fldSt at h
  split at h
  · simp only [Bool.and_eq_true, beq_iff_eq] at h
    obtain ⟨⟨rfl, rfl⟩, rfl⟩ := h
    exact ⟨_, _, _, _, rfl⟩
  · cases h
def nmOk (n : Str) : Bool := (n != ("__debug__" : Str)) && (n != ("__classdict__" : Str))
theorem nmOk_ok {n : Str} (h : nmOk n = true) : (n == ("__debug__" : Str)) = false ∧ (n == ("__classdict__" : Str)) = false := by
  simp only [nmOk, Bool.and_eq_true, bne_iff_ne, ne_eq] at h
  exact ⟨by simpa using h.1, by simpa using h.2⟩
section
variable {X : Cx} {self : Str}
theorem ps_fld1 (h0 : X.N[0]? = some self) (v0 : Vis X.env.scope self) (n0 : nmOk self = true) {q : Nat × Str} (hq : X.N[q.1]? = some q.2) (vq : Vis X.env.scope q.2) (nq : nmOk q.2 = true) {s : Stmt} (hs : fldSt self q s = true) : PS X s (tOst X.K q.2 (tVar 0) (tVar q.1)) := by
  obtain ⟨p1, p2, p3, p4, rfl⟩ := fldSt_eq hs
  exact ps_ost (pe_var h0 v0 (nmOk_ok n0).1 (nmOk_ok n0).2) (pe_var hq vq (nmOk_ok nq).1 (nmOk_ok nq).2) rfl
theorem pss_flds (h0 : X.N[0]? = some self) (v0 : Vis X.env.scope self) (n0 : nmOk self = true) : ∀ {fs : Flds} {ss : List Stmt}, (∀ q ∈ fs, X.N[q.1]? = some q.2 ∧ Vis X.env.scope q.2 ∧ nmOk q.2 = true) → fldSts self fs ss = true → PSs X ss (tFld X.K fs)
  | [], [], _, _ => PSs.of pss_nil fun D σ H h => by
    obtain ⟨a, C, dx, fl, vs, h1, h2, h3, h4, h5, h6, h7, h8, h9, k⟩ := h
    cases vs with
    | nil => exact k H h3 h4 fun _ _ _ => rfl
    | cons _ _ => cases h8
  | q :: fs, s :: ss, hf, hs => by
    simp only [fldSts, Bool.and_eq_true] at hs
    obtain ⟨q1, q2, q3⟩ := hf q (List.mem_cons_self ..)
    refine PSs.of (pss_cons (ps_fld1 h0 v0 n0 q1 q2 q3 hs.1) (pss_flds h0 v0 n0 (fun p hp => hf p (List.mem_cons_of_mem _ hp)) hs.2)) fun D σ H h => ?_
    obtain ⟨a, C, dx, fl, vs, h1, h2, h3, h4, h5, h6, h7, h8, h9, k⟩ := h
    cases vs with
    | nil => cases h8
    | cons v vs =>
      refine ⟨v, h9 (q, v) (List.mem_cons_self ..), .ref a, h1, a, C, rfl, h2, h7 q (List.mem_cons_self ..), .inr ⟨dx, fl, h3, h4, by simp at h6; omega, ?_⟩⟩
      refine ⟨a, C, dx, (q.2, v) :: fl, vs, h1, h2, by rw [upd_ne (Ne.symm h5)]; exact h3, upd_same, h5, by simp at h6 ⊢; omega, fun p hp => h7 p (List.mem_cons_of_mem _ hp), by simpa using h8, fun p hp => h9 p (List.mem_cons_of_mem _ hp), fun H' k1 k2 k3 => ?_⟩
      exact k H' k1 k2 fun b hb hd => (k3 b hb hd).trans (upd_ne hd)
  | [], _ :: _, _, h => by cases h
  | _ :: _, [], _, h => by cases h
end
/-! ### __init__ -/
/-- the text of such an __init__ -/
def chkInit (base self : Str) (sc : Scope) (fs : Flds) : List Stmt → Bool
  | .Expr (.Call (.Attribute (.Name b _) i ap) [.Name n _, .Constant (.str _) _ _] [] cp) _ :: ss => (ap.endLine == cp.line) && b == base && i == ("__init__" : Str) && n == self && (b != ("__debug__" : Str)) && decide (sc.names.lookup b = some .globalImplicit) && fldSts self fs ss
  | _ => false
theorem start_get {N : List Str} {vs : List V} {i : Nat} {v : V} (h : vs[i]? = some v) : (L2.start N vs)[i]? = some (some v) := by
  unfold L2.start
  have hi := (List.getElem?_eq_some_iff.mp h).1
  rw [List.getElem?_append_left (by simpa using hi), List.getElem?_map, h]
  rfl
theorem zip_from {fs : List Str} : ∀ {us : List V} {k : Nat} {q : (Nat × Str) × V}, q ∈ ((fs.zipIdx k).map fun p => (p.2, p.1)).zip us → ∃ i, q.1.1 = k + i ∧ us[i]? = some q.2 ∧ fs[i]? = some q.1.2 := by
  induction fs with
  | nil => intro us k q h; simp at h
  | cons f fs ih =>
    intro us k q h
    cases us with
    | nil => simp at h
    | cons u us =>
      rcases List.mem_cons.mp (by simpa [List.zipIdx_cons] using h) with e | h
      · exact ⟨0, by rw [e]; rfl, by rw [e]; rfl, by rw [e]; rfl⟩
      · obtain ⟨i, h1, h2, h3⟩ := ih (us := us) (k := k + 1) (q := q) h
        exact ⟨i + 1, by rw [h1]; omega, by simpa using h2, by simpa using h3⟩
def fldsOf (fs : List Str) : Flds := (fs.zipIdx 1).map fun p => (p.2, p.1)
theorem init_ok {P : Program} {w : World} {K : PySem.W.Frag} {mg : Str → Option Value} {hb : Heap} {CX : CXT} {x qual base self : Str} {params : Arguments} {body : List Stmt} {scope : Scope} {kws : List (Str × V)} {f B : Addr} {fd : FuncData} {fs : List Str}
    (F : FunD K x qual params body scope [] kws f fd) (S : FnScope (self :: fs) (self :: fs) scope) (hm : mg base = some (.ref B)) (T : BaseC K B) (hn : (self :: fs).all nmOk = true) (hne : fs ≠ []) (hz : fs.length ≤ 100) (hc : chkInit base self scope (fldsOf fs) body = true) :
    FnOk P w K mg hb CX 1 f fd (self :: fs) (spI K fs) := by
  refine F.ok S (fun vs H Q E h => ?_) (fun cdv A outer s H vs Q E hr h => ?_)
  · obtain ⟨a, C, us, rfl, hl, _⟩ := h
    simp [hl]
  · unfold chkInit at hc
    split at hc
    · rename_i b _ i _ n _ _ _ _ _ _ ss
      simp only [Bool.and_eq_true, beq_iff_eq, bne_iff_ne, ne_eq, decide_eq_true_eq] at hc
      obtain ⟨⟨⟨⟨⟨⟨hline, rfl⟩, rfl⟩, rfl⟩, hdb⟩, hgl⟩, hfs⟩ := hc
      have par : ∀ y ∈ n :: fs, Vis scope y := fun y hy => (S.par y hy).elim .inl fun h => .inr (.inl h)
      have nms := List.all_eq_true.mp hn
      cases fs with
      | nil => exact absurd rfl hne
      | cons f0 fs =>
        have e0 : fldsOf (f0 :: fs) = (1, f0) :: (fs.zipIdx 2).map fun p => (p.2, p.1) := by simp [fldsOf, List.zipIdx_cons]
        rw [e0] at hfs
        cases ss with
        | nil => cases hfs
        | cons s0 ss =>
          simp only [fldSts, Bool.and_eq_true] at hfs
          refine ⟨_, pss_cons (ps_expr (pe_binit (b := b) (B := B) hgl (by simpa using hdb) hm T (pa_cons (pe_var (i := 0) rfl (par n (List.mem_cons_self ..)) (nmOk_ok (nms n (List.mem_cons_self ..))).1 (nmOk_ok (nms n (List.mem_cons_self ..))).2) (pa_cons pe_str pa_nil rfl) rfl) rfl rfl (mcall_eq rfl rfl rfl (by simpa using hline))) rfl)
            (pss_cons (ps_fld1 (self := n) (q := (1, f0)) rfl (par n (List.mem_cons_self ..)) (nms n (List.mem_cons_self ..)) rfl (par f0 (by simp)) (nms f0 (by simp)) hfs.1)
              (pss_flds (self := n) rfl (par n (List.mem_cons_self ..)) (nms n (List.mem_cons_self ..)) (fs := (fs.zipIdx 2).map fun p => (p.2, p.1)) (fun q hq => ?_) hfs.2)), ?_⟩
          · obtain ⟨p, hp, rfl⟩ := List.mem_map.mp hq
            obtain ⟨h1, h2⟩ := List.mem_zipIdx_iff_le_and_getElem?_sub.mp hp
            have hm1 : p.1 ∈ fs := List.mem_of_getElem? h2
            refine ⟨?_, par p.1 (by simp [hm1]), nms p.1 (by simp [hm1])⟩
            show (n :: f0 :: fs)[p.2]? = some p.1
            have e1 : p.2 = (p.2 - 2) + 2 := by omega
            rw [e1]
            simpa using h2
          · obtain ⟨a, C, us, rfl, hl, T1, ea, hno, k⟩ := h
            cases us with
            | nil => cases hl
            | cons u us =>
              refine ⟨.ref a, start_get rfl, a, C, [_], rfl, by simp, T1, ea, ?_⟩
              refine ⟨u, start_get rfl, .ref a, start_get rfl, a, C, rfl, T1, hno f0 (List.mem_cons_self ..), .inl ⟨ea, fun d hd hda => ?_⟩⟩
              refine ⟨a, C, d, [(f0, u)], us, start_get rfl, T1, upd_same, by rw [upd_ne hda]; exact upd_same, hda, by simp at hz ⊢; omega, fun p hp => ?_, by simpa using hl, fun q hq => ?_, fun H' k1 k2 k3 => ?_⟩
              · obtain ⟨p', hp', rfl⟩ := List.mem_map.mp hp
                obtain ⟨_, h2⟩ := List.mem_zipIdx_iff_le_and_getElem?_sub.mp hp'
                exact hno p'.1 (List.mem_cons_of_mem _ (List.mem_of_getElem? h2))
              · obtain ⟨i, h1, h2, _⟩ := zip_from hq
                rw [h1]
                exact start_get (by rw [show 2 + i = i + 2 by omega]; simpa using h2)
              · refine k d H' hd hda k1 ?_ fun b hb hbd => (k3 b hb hbd).trans ((upd_ne hb).trans (upd_ne hbd))
                have e2 : ((fs.zipIdx 2).map fun p => ((p.2, p.1) : Nat × Str)).map (·.2) = fs := by
                  rw [List.map_map]
                  show (fs.zipIdx 2).map (·.1) = fs
                  simp
                rw [e2] at k2
                exact k2
    · cases hc
/-! ### raise -/
theorem look_put : ∀ {fs : List Str} {us : List V} {acc : List (Str × V)} {f : Str}, fs.Nodup → ((fs.zip us).foldl (fun l q => q :: l) acc).lookup f = match (fs.zip us).lookup f with
    | some v => some v
    | none => acc.lookup f
  | [], _, _, _, _ => rfl
  | _ :: _, [], _, _, _ => rfl
  | g :: fs, u :: us, acc, f, nd => by
    rw [List.zip_cons_cons, List.foldl_cons, look_put (List.nodup_cons.mp nd).2, List.lookup_cons, List.lookup_cons]
    cases e : (f == g) with
    | false => rfl
    | true =>
      have e' : f = g := by simpa using e
      have hn : (fs.zip us).lookup f = none := by
        cases q : (fs.zip us).lookup f with
        | none => rfl
        | some v => exact absurd (e' ▸ (List.of_mem_zip (PySem.mem_of_lookup q)).1) (List.nodup_cons.mp nd).1
      rw [hn]
theorem zip_rw {Z : Wd} {G : Hp} {ι : List Addr} : ∀ {fs : List Str} {vs : List V} {ws : List W} {f : Str} {w : W}, RWs Z G ι vs ws → (fs.zip ws).lookup f = some w → ∃ v, (fs.zip vs).lookup f = some v ∧ RW Z G ι v w
  | [], _, _, _, _, _, e => by cases e
  | _ :: _, _, _, _, _, .nil, e => by cases e
  | g :: fs, _, _, f, w, .cons r rs, e => by
    rw [List.zip_cons_cons, List.lookup_cons] at e ⊢
    cases q : (f == g) with
    | true =>
      rw [q] at e
      cases e
      exact ⟨_, rfl, r⟩
    | false =>
      rw [q] at e
      exact zip_rw rs e
section
variable {X : Cx} {c : Cc} {F : Fe} {U : WX} {e : Expr} {es : List Expr} {x : Ex} {xs : List Ex} {pos cpos p : Pos}
theorem psx_raise (O : Ok c X F U) {n : Str} {fs : List Str} (hh : c.hot = false) (hf : F.fld n = some fs) (hg : Gl X n) (hd : (n == ("__debug__" : Str)) = false) (h1 : PA X (e :: es) (TXs (zd X) F U xs)) (hs : (e :: es).all noSt = true) :
    PS X (.Raise (some (.Call (.Name n p) (e :: es) [] cpos)) none pos) (TSx (zd X) F U (.raise n xs)) := by
  have I0 := O.exc hh n fs hf
  obtain ⟨C, fI, fd, ps, k, T, hm, hi, ht, G1, hr, hb, hno⟩ := I0.ex
  simp only [List.all_cons, Bool.and_eq_true] at hs
  have hx : Passes (L2.CX X.prog X.w) X (fun _ _ _ => False) := by
    rintro pins σ H s e s' I ⟨_, _, _, _, _, _, _, _, _, _, _, _, h⟩
    exact h.elim
  refine PS.of (ps_raise (O.calm hh) O.tk (pmk_oex (dvs := []) T hi ht G1 hr hb .nil hx hg hm h1 hd (noSt_ok hs.1) (noSt_all hs.2))) fun D σ H h => ?_
  obtain ⟨G, ι, m, σw, S, E, hL, P⟩ := h
  refine ⟨G, ι, m, σw, S, E, hL, Post.mono (PostS.st (R := RWs (zd X)) E hL P) ?_⟩
  rintro vs H1 ⟨G1', ι1, m1, ws, T1, S1, E1, L1, r1, P1⟩
  rw [hf] at P1
  by_cases hl : fs.length = ws.length
  · have P1 : PostS (zd X) F.L G1' ι1 m1 H1 (if fs.length = ws.length then .xc σw n (fs.zip ws) m1 else .no) D U := P1
    rw [if_pos hl] at P1
    have hvl : vs.length = fs.length := by rw [r1.length, hl]
    refine ⟨by have := I0.few; omega, fun a ha => ⟨a, C, vs ++ [], rfl, by rw [List.append_nil]; exact hvl, T, upd_same, hno, fun d H' hda hne k1 k2 k3 => ⟨rfl, d, _, k1, k2, ?_, ?_⟩⟩⟩
    · rw [upd_ne hne] at hda
      exact hda
    · rw [upd_ne hne] at hda
      have eh : upd (del H' a) d (.xd ((fs.zip (vs ++ [])).foldl (fun l q => q :: l) [])) = upd H1 d (.xd ((fs.zip vs).foldl (fun l q => q :: l) [])) := by
        rw [List.append_nil]
        funext b
        by_cases q : b = d
        · rw [q, upd_same, upd_same]
        · rw [upd_ne q, upd_ne q]
          by_cases q2 : b = a
          · rw [q2, del_same, ha]
          · rw [del_ne q2, k3 b q2 q, upd_ne q2]
      rw [eh]
      have fr := S1.free hda
      refine P1 (.ref C) (some d) σ _ G1' ι1 ⟨Grow.refl _ _, Kp.refl _ _, (Fr.refl _ _ _).side hda⟩ (S1.side fr.1 fr.2 True.intro) E1 ⟨C, d, _, hm, rfl, rfl, upd_same, fun f w hw => ?_⟩
      obtain ⟨v, h1, h2⟩ := zip_rw r1 hw
      exact ⟨v, by rw [look_put I0.nd, h1], h2⟩
  · have P1 : PostS (zd X) F.L G1' ι1 m1 H1 (if fs.length = ws.length then .xc σw n (fs.zip ws) m1 else .no) D U := P1
    rw [if_neg hl] at P1
    exact P1.elim
end
end Mi
set_option maxHeartbeats 4000000
/-! Mi, part S: isinstance of a caught error that has fields (HandS.ExcIs turned to it). -/
namespace PySem.W
open PySem PySem.Spec PySem.Calls PyProof.Rows
section
variable {prog : Program} {w : World} {A : Around} {E : Value → Shared → Prop} {s : Shared} {K : Frag} {x D : Addr} {ox : Obj}
theorem findObj_dataX {od : Option Obj} {C : Addr} {name : Str} {a g : Value} (hc : (clsIn K C).isSome = true) (ha : findIn K (.ref C) name = some (some a)) (hg : specialIn K a "__get__" = some (some g)) (ht : takesIn K a = some true) : findObj K C od name = some (.bind g a) := by
  obtain ⟨cd, hc⟩ := Option.isSome_iff_exists.mp hc
  unfold findObj
  rw [hc, Option.bind_some, ha, Option.bind_some]
  simp [hg, ht]
theorem kin_classX {od : Option Obj} {Q : Option Value → Shared → Prop} (hga : findIn K (.ref D) "__getattribute__" = some (some (.builtin "BaseException.__getattribute__"))) (hgt : findIn K (.ref D) "__getattr__" = some none) (hsub : subIn K (.ref D) (.type "BaseException") = some true)
    (hdct : hasDictIn K D = true) (ha : findIn K (.ref D) "__class__" = some (some (.builtin "object.__class__")))
    (hn : specialIn K (.builtin "object.__class__") "__get__" = some (some (.builtin "getset_descriptor.__get__"))) (htk : takesIn K (.builtin "object.__class__") = some true) (hm : mroIn K D (.type "object") = some true)
    (X : K.In s.heap) (I : InstAt s.heap x ox D od) (h : Q (some (.ref D)) { s with toks := s.toks + 1 }) : wpAny (model prog w) A (getAttr? (.ref x) "__class__") Q E s := by
  have hf : findObj K D od "__class__" = some (.bind (.builtin "getset_descriptor.__get__") (.builtin "object.__class__")) := findObj_dataX (by obtain ⟨cd, hc, _⟩ := any_some hdct; rw [hc]; rfl) ha hn htk
  obtain ⟨hp, g, d, t, os⟩ := s
  have L0 := I.type (M := model prog w)
  have L1 := looks_findIn (M := model prog w) X hga
  have L2 := looks_findIn (M := model prog w) X hgt
  have L3 := looks_find (M := model prog w) X I hf
  have sub : Looks (model prog w) hp (isInstance (.ref x) (.type "BaseException")) true := L0.andThen (looks_subIn X hsub)
  have hx0 : (false && onTheHeap (Value.builtin "BaseException.__getattribute__")) = false := rfl
  have hx2 : (Value.builtin "BaseException.__getattribute__" == Value.builtin "object.__getattribute__") = false := by decide +kernel
  have hx1 : (onTheHeap (Value.ref D) && Value.builtin "BaseException.__getattribute__" == Value.builtin "object.__getattribute__") = false := by rw [hx2]; rfl
  unfold getAttr? getAttrBy? getAttrBy
  refine wpAny_bind (wpAny_mkText (wpAny_bind (wpAny_attempt (wpAny_holding (wpAny_bind (L0.at (wpAny_bind (L1.at ?_))))))))
  show wpAny _ _ (if (onTheHeap (Value.ref D) && Value.builtin "BaseException.__getattribute__" == Value.builtin "object.__getattribute__") = true then _ else _) _ _ _
  rw [hx1, if_neg Bool.false_ne_true]
  unfold getAttrByItsOwn hookBefore
  refine wpAny_bind ?_
  rw [if_pos (show onTheHeap (Value.ref D) = true from rfl)]
  refine L2.at ?_
  refine wpAny_bind (wpAny_attempt (wpAny_holding ?_))
  unfold callGetattribute
  rw [hx0, if_neg Bool.false_ne_true]
  unfold boundAndCalled
  rw [PySem.F.excAttr_ValueError.ga.bind (.ref x)]
  refine wpAny_bind (wpAny_pure ?_)
  show wpAny _ _ (call (.builtin "BaseException.__getattribute__") [.ref x, .str "__class__" t]) _ _ _
  refine wpAny_call (codeAny_call_builtin PySem.F.excAttr_ValueError.ga.plain PySem.F.entry_bexc_ga ?_)
  refine @check_slot (model prog w) _ _ ⟨hp, g, d, t + 1, os⟩ "BaseException.__getattribute__" "BaseException" "__getattribute__" (.ref x) [.str "__class__" t] [] _ (by decide +kernel) (by decide +kernel) sub (PySem.F.args_bexc_ga (.ref x) (.str "__class__" t)) ?_
  unfold Builtin.«object.__getattribute__»
  refine wpAny_bind (wpAny_of_eq (a := ((Value.ref x : Value), [Value.str "__class__" t])) (by first | rfl | (simp only [slotArgs]; rfl)) ?_)
  refine wpAny_bind (wpAny_pure (wpAny_bind (L0.at (wpAny_bind (L3.at ?_)))))
  show wpAny _ _ (holding [Value.builtin "object.__class__"] (call (.builtin "getset_descriptor.__get__") [.builtin "object.__class__", .ref x, .ref D]) >>= ret) _ _ _
  refine wpAny_bind (wpAny_holding (wpAny_call (class_get (s := ⟨hp, g, d, t + 1, os⟩) (ox := ox) (od := od) X I hm ?_)))
  refine wpAny_pure ?_
  show wpAny _ _ (handedOut (.ref D)) _ _ _
  rw [handedOut_of (v := .ref D) rfl]
  first
    | exact wpAny_pure (wpAny_pure h)
    | exact wpAny_pure h
    | exact wpAny_pure (wpAny_bind (wpAny_pure (wpAny_pure h)))
theorem kitx_excX {od : Option Obj} (hga : findIn K (.ref D) "__getattribute__" = some (some (.builtin "BaseException.__getattribute__"))) (hgt : findIn K (.ref D) "__getattr__" = some none) (hsub : subIn K (.ref D) (.type "BaseException") = some true) (hdct : hasDictIn K D = true) (ha : findIn K (.ref D) "__class__" = some (some (.builtin "object.__class__")))
    (hn : specialIn K (.builtin "object.__class__") "__get__" = some (some (.builtin "getset_descriptor.__get__"))) (htk : takesIn K (.builtin "object.__class__") = some true) (hm : mroIn K D (.type "object") = some true) :
    KitX K (.ref x) (.ref D) (fun h => InstAt h x ox D od) where
  ty := fun _ _ _ I => I.type
  it := fun _ _ X _ => by
    obtain ⟨cdD, hcD, _⟩ := any_some hdct
    unfold clsIn at hcD
    split at hcD
    · rename_i c' d' cd' sl' ho
      intro A' Q' E' s' k q
      unfold isType loadHead
      exact wpAny_bind (wpAny_loadPart (k _ _ (X _ _ ho)) (wpAny_pure q))
    · cases hcD
  ne := fun h tp dd its n sl X htp => by
    obtain ⟨cdD, hcD, _⟩ := any_some hdct
    refine Bool.eq_false_iff.mpr fun q => ?_
    have e : D = tp := Value.ref.inj (beq_iff_eq.mp q)
    subst e
    unfold clsIn at hcD
    split at hcD
    · rename_i c' d' cd' sl' ho
      have z := (X _ _ ho).symm.trans htp
      cases z
    · cases hcD
  ca := fun X I k => kin_classX hga hgt hsub hdct ha hn htk hm X I k
end
end PySem.W
namespace Mi
open PySem PySem.Spec PyProof.Rows L2
/-- isinstance(e, c), e the exception that the suite holds, with its dict -/
theorem call_isX {X : Cx} {a D : Addr} {oe : Obj} {dd : Addr} {fl : List (Str × V)} {pn : List (Addr × Obj)} (C : ExcC X.K D) (hz : Zc (.ref D) (some dd) oe) (hf : ∃ vs, oe.data = .fields vs) :
    CallR (X.suite a ((a, oe) :: pn)) (.builtin "isinstance") (fun xs H Q => ∃ (c : V) (cv : Value) (b : Bool), xs = [.ref a, c] ∧ H dd = some (.xd fl) ∧ (∀ u, RelV c u → u = cv) ∧ PySem.W.kitOne X.K (.ref D) cv = some b ∧ Q (.bl b) H) := by
  intro pins s σ H xs us Q I r h
  obtain ⟨c, cv, b, rfl, hx, hcv, e, q⟩ := h
  cases r with
  | cons rx rr =>
    cases rr with
    | cons rt rr =>
      cases rr
      cases rx
      have ec := hcv _ rt
      subst ec
      obtain ⟨hget, _⟩ := I.pin (a, oe) (List.mem_append.mpr (.inl List.mem_cons_self))
      obtain ⟨vs, hv⟩ := hf
      have hx' : ObjOk X.prog X.w H s.heap dd (.xd fl) := I.hok dd _ hx
      obtain ⟨mA, hns, _⟩ := hx'
      obtain ⟨od, ho, _⟩ := lookIn_ns hns
      have J : PySem.W.InstAt s.heap a oe D (some od) := ⟨hget, hz.1, by unfold PySem.W.notCls; rw [hv] <;> rfl, by rw [hz.2]; exact ho⟩
      exact PySem.W.kia_one (PySem.W.kitx_excX C.hg C.hk C.hs C.hd C.ha C.hn C.ht C.hm) I.kIn J e (fun z => nomatch z) fun tk => ⟨.bl b, H, I.kept (t' := tk) fun _ _ z => z, rfl, q⟩
/-! ### what a suite computes -/
def XF (Z : Wd) (G : Hp) (ι : List Addr) (H : Hp) (cls : Value) (dd : Addr) (dn : Str) (fs : List (Str × W)) : Prop :=
  ∃ C fl, Z.mg dn = some (.ref C) ∧ cls = .ref C ∧ dd ∉ ι ∧ H dd = some (.xd fl) ∧ ∀ f w, fs.lookup f = some w → ∃ v, fl.lookup f = some v ∧ RW Z G ι v w
structure AtH (Z : Wd) (k : Nat) (a : Addr) (cls : Value) (dd : Addr) (G : Hp) (ι : List Addr) (m : Sto) (σw : En) (dn : Str) (fs : List (Str × W)) (σ : L2.St) (H : Hp) : Prop where
  hk : σ[k]? = some (some (.ref a))
  S : RS Z G ι m H
  E : REn Z G ι σ σw
  X : XF Z G ι H cls dd dn fs
theorem XF.on {Z : Wd} {G G' : Hp} {ι : List Addr} {m : Sto} {cls : Value} {dd : Addr} {dn : Str} {fs : List (Str × W)} {H H' : Hp} (h : XF Z G ι H cls dd dn fs) (S : RS Z G ι m H) (t : To 0 G ι m H G' ι m H') (S' : RS Z G' ι m H') : XF Z G' ι H' cls dd dn fs := by
  obtain ⟨C, fl, h1, h2, h3, h4, h5⟩ := h
  refine ⟨C, fl, h1, h2, h3, ?_, fun f w e => let ⟨v, a, b⟩ := h5 f w e; ⟨v, a, b.mono t.g⟩⟩
  cases q : G dd with
  | none => exact (t.f dd _ h4 h3 q).1
  | some u =>
    have e1 := S.sub _ _ q
    rw [h4] at e1
    cases e1
    exact S'.sub _ _ (t.g.g _ _ q)
theorem AtH.on {Z : Wd} {k : Nat} {a : Addr} {cls : Value} {dd : Addr} {G G' : Hp} {ι : List Addr} {m : Sto} {σw : En} {dn : Str} {fs : List (Str × W)} {σ : L2.St} {H H' : Hp} (h : AtH Z k a cls dd G ι m σw dn fs σ H) (t : To 0 G ι m H G' ι m H') (S : RS Z G' ι m H') :
    AtH Z k a cls dd G' ι m σw dn fs σ H' := ⟨h.hk, S, h.E.mono t.g, h.X.on h.S t S⟩
def THe (Z : Wd) (F : Fe) (k : Nat) (a : Addr) (cls : Value) (dd : Addr) (x : Xe) : TE := fun σ H Q => ∃ G ι m σw dn fs w, AtH Z k a cls dd G ι m σw dn fs σ H ∧ evX F σw m dn fs x = some w ∧ ∀ v H' G', To 0 G ι m H G' ι m H' → RS Z G' ι m H' → RW Z G' ι v w → Q v H'
def THt (Z : Wd) (F : Fe) (k : Nat) (a : Addr) (cls : Value) (dd : Addr) (x : Xe) : TT := fun σ H Q => ∃ G ι m σw dn fs w b, AtH Z k a cls dd G ι m σw dn fs σ H ∧ evX F σw m dn fs x = some w ∧ tru m w = some b ∧ ∀ H' G', To 0 G ι m H G' ι m H' → RS Z G' ι m H' → Q b H'
def THs (Z : Wd) (F : Fe) (k : Nat) (a : Addr) (cls : Value) (dd : Addr) (xs : List Xe) : TA := fun σ H Q => ∃ G ι m σw dn fs ws, AtH Z k a cls dd G ι m σw dn fs σ H ∧ evXs F σw m dn fs xs = some ws ∧ ∀ vs H' G', To 0 G ι m H G' ι m H' → RS Z G' ι m H' → RWs Z G' ι vs ws → Q vs H'
section
variable {X : Cx} {c : Cc} {F : Fe} {U : WX} {e e1 e2 e3 : Expr} {es : List Expr} {pos : Pos} {a dd : Addr} {cls : Value} {oe : Obj} {pn : List (Addr × Obj)} {k : Nat} {en : Str} {x y z : Xe} {xs : List Xe}
abbrev PH (X : Cx) (F : Fe) (k : Nat) (a dd : Addr) (cls : Value) (oe : Obj) (pn : List (Addr × Obj)) (e : Expr) (x : Xe) : Prop := PE (X.suite a ((a, oe) :: pn)) e (THe (zd X) F k a cls dd x)
theorem ph_fld (O : Ok c X F U) (hz : Zc cls (some dd) oe) (hf : ∃ vs, oe.data = .fields vs) (hk : X.N[k]? = some en) (hv : Vis X.env.scope en) (hn : nmOk en = true) {f : Str} {p : Pos} : PH X F k a dd cls oe pn (.Attribute (.Name en p) f pos) (.fld f) := by
  refine ⟨fun pins s σ H Q I h => ?_⟩
  obtain ⟨G, ι, m, σw, dn, fs, w, A, e, q⟩ := h
  obtain ⟨ns, e1, e2⟩ := Option.bind_eq_some_iff.mp e
  by_cases hfn : f ∈ ns
  · rw [if_pos hfn] at e2
    obtain ⟨C, h1, h2, h3, h4⟩ := O.exf dn ns e1
    obtain ⟨C', fl, g1, g2, g0, g3, g4⟩ := A.X
    have g1 : X.mg dn = some (.ref C') := g1
    rw [h1] at g1
    cases g1
    obtain ⟨v, k1, k2⟩ := g4 f w e2
    have P := pe_xf (X := X) (a := a) (pn := pn) (pos := pos) h2 (h4 f hfn) hz hf (pe_var (X := X.suite a ((a, oe) :: pn)) (i := k) (pos := p) hk hv (nmOk_ok hn).1 (nmOk_ok hn).2) rfl
    exact P.run pins s σ H Q I ⟨.ref a, A.hk, rfl, g2, dd, fl, v, rfl, g3, k1, q v H G To.refl A.S k2⟩
  · rw [if_neg hfn] at e2
    cases e2
theorem ph_con {d : PyData} {kc : Const} {j : Nat} (h : constOf d = some kc) : PH X F k a dd cls oe pn (.Constant kc j pos) (.con d) := by
  have fin : ∀ {v : V} {σ H Q}, THe (zd X) F k a cls dd (.con d) σ H Q → (∀ G, RD X.K G v d) → Q v H := fun {v σ H Q} h r => by
    obtain ⟨G, ι, m, σw, dn, fs, w, A, e, q⟩ := h
    cases e
    exact q v H G To.refl A.S (.dat (r G))
  cases d with
  | none => cases h; exact PE.of pe_non fun σ H Q h => fin h fun _ => .non
  | bool b => cases h; exact PE.of pe_bl fun σ H Q h => fin h fun _ => .bl b
  | int i => cases h; exact PE.of pe_int fun σ H Q h => fin h fun _ => .int i
  | str z => cases h; exact PE.of pe_str fun σ H Q h => fin h fun _ => .str z
  | _ => cases h
theorem ph_var {i : Nat} {n : Str} (hN : X.N[i]? = some n) (hv : Vis X.env.scope n) (hn : nmOk n = true) : PH X F k a dd cls oe pn (.Name n pos) (.var i) :=
  PE.of (pe_var (X := X.suite a ((a, oe) :: pn)) hN hv (nmOk_ok hn).1 (nmOk_ok hn).2) fun σ H Q h => by
    obtain ⟨G, ι, m, σw, dn, fs, w, A, e, q⟩ := h
    obtain ⟨v, h1, h2⟩ := A.E.2 i w e
    exact ⟨v, h1, q v H G To.refl A.S h2⟩
theorem ph_rep (O : Ok c X F U) {p : Pos} (hb : ("repr" : Str) ∈ c.bl) (hg : Gl X "repr") (hs : noSt e = true) (h1 : PH X F k a dd cls oe pn e x) : PH X F k a dd cls oe pn (.Call (.Name "repr" p) [e] [] pos) (.rep x) := by
  have rule : CallR (X.suite a ((a, oe) :: pn)) (.builtin "repr") (rRepr X.K) := call_reprD (X := X.suite a ((a, oe) :: pn)) O.gd (by have := O.un; show X.A.units + 64 < cLine; omega) O.sys
  refine PE.of (pe_callB (X := X.suite a ((a, oe) :: pn)) (x := "repr") rule hg (O.bl _ hb) boot_repr (pa_cons h1 pa_nil (noSt_ok hs)) (by decide) (by decide) (noSt_ok hs) rfl) fun σ H Q h => ?_
  obtain ⟨G, ι, m, σw, dn, fs, w, A, e, q⟩ := h
  obtain ⟨w1, e1, e⟩ := Option.bind_eq_some_iff.mp e
  obtain ⟨d, e2, e⟩ := Option.bind_eq_some_iff.mp e
  split at e
  · rename_i hz
    cases e
    exact ⟨G, ι, m, σw, dn, fs, w1, A, e1, fun v H' G' T S' r => ⟨v, d, rfl, dat_ru S' r e2, hz, q _ H' G' T S' (.dat (.str _))⟩⟩
  · cases e
theorem ph_isx (O : Ok c X F U) (hz : Zc cls (some dd) oe) (hf : ∃ vs, oe.data = .fields vs) (hk : X.N[k]? = some en) (hv : Vis X.env.scope en) (hn : nmOk en = true) {t : Str} {p p1 p2 : Pos} (hb : ("isinstance" : Str) ∈ c.bl) (hg : Gl X "isinstance") (ht : Gl X t) (hd : (t == ("__debug__" : Str)) = false) :
    PH X F k a dd cls oe pn (.Call (.Name "isinstance" p) [.Name en p1, .Name t p2] [] pos) (.isx t) := by
  refine ⟨fun pins s σ H Q I h => ?_⟩
  obtain ⟨G, ι, m, σw, dn, fs, w, A, e, q⟩ := h
  obtain ⟨b, e1, rfl⟩ := Option.map_eq_some_iff.mp e
  obtain ⟨h0, C, cv, u, h1, h2, h3, h4⟩ := O.isx dn t b e1
  obtain ⟨ns, hns⟩ := Option.isSome_iff_exists.mp h0
  obtain ⟨C2, k1, k2, k3, k4⟩ := O.exf dn ns hns
  rw [h1] at k1
  cases k1
  obtain ⟨C', fl, g1, g2, g0, g3, g4⟩ := A.X
  have g1 : X.mg dn = some (.ref C') := g1
  rw [h1] at g1
  cases g1
  subst g2
  have h3' : RelV cv u := by cases h3 <;> rfl
  have hcls : PE (X.suite a ((a, oe) :: pn)) (.Name t p2) (tC cv) := by
    rcases h2 with h2 | ⟨h2, h5, h6⟩
    · exact pe_glob (X := X.suite a ((a, oe) :: pn)) ht h2 h3' hd
    · exact pe_bltn (X := X.suite a ((a, oe) :: pn)) ht h2 h5 h3' h6 hd
  have P := pe_callB (X := X.suite a ((a, oe) :: pn)) (x := "isinstance") (p := p) (pos := pos) (call_isX (fl := fl) (pn := pn) k3 hz hf) hg (O.bl _ hb) boot_isinstance
    (pa_cons (pe_var (X := X.suite a ((a, oe) :: pn)) (i := k) (pos := p1) hk hv (nmOk_ok hn).1 (nmOk_ok hn).2) (pa_cons hcls pa_nil rfl) rfl) (by decide) (by decide) rfl rfl
  refine P.run pins s σ H Q I ⟨.ref a, A.hk, cv, u, b, rfl, g3, fun u' r => ?_, h4, q _ H G To.refl A.S (.dat (.bl _))⟩
  exact h3.eq r
theorem ph_nil : PA (X.suite a ((a, oe) :: pn)) [] (THs (zd X) F k a cls dd []) :=
  PA.of pa_nil fun σ H Q h => by
    obtain ⟨G, ι, m, σw, dn, fs, ws, A, e, q⟩ := h
    cases e
    exact q [] H G To.refl A.S .nil
theorem ph_cons (h1 : PH X F k a dd cls oe pn e x) (h2 : PA (X.suite a ((a, oe) :: pn)) es (THs (zd X) F k a cls dd xs)) (hs : noSt e = true) : PA (X.suite a ((a, oe) :: pn)) (e :: es) (THs (zd X) F k a cls dd (x :: xs)) :=
  PA.of (pa_cons h1 h2 (noSt_ok hs)) fun σ H Q h => by
    obtain ⟨G, ι, m, σw, dn, fs, ws, A, e, q⟩ := h
    obtain ⟨w, e1, e⟩ := Option.bind_eq_some_iff.mp e
    obtain ⟨ws', e2, rfl⟩ := Option.map_eq_some_iff.mp e
    exact ⟨G, ι, m, σw, dn, fs, w, A, e1, fun v H1 G1 T1 S1 r1 => ⟨G1, ι, m, σw, dn, fs, ws', A.on T1 S1, e2, fun vs H2 G2 T2 S2 r2 => q (v :: vs) H2 G2 (T1.trans T2) S2 (.cons (r1.mono T2.g) r2)⟩⟩
theorem ph_lst (h1 : PA (X.suite a ((a, oe) :: pn)) es (THs (zd X) F k a cls dd xs)) : PH X F k a dd cls oe pn (.List es pos) (.lst xs) :=
  PE.of (pe_lst h1) fun σ H Q h => by
    obtain ⟨G, ι, m, σw, dn, fs, w, A, e, q⟩ := h
    obtain ⟨ws, e1, e⟩ := Option.bind_eq_some_iff.mp e
    split at e
    · rename_i hz
      cases e
      refine ⟨G, ι, m, σw, dn, fs, ws, A, e1, fun vs H1 G1 T1 S1 r1 => ?_⟩
      have hl : vs.length ≤ sizeLine := by rw [r1.length]; exact le_line hz
      exact ⟨hl, fun p hp => q (.ref p) _ (upd G1 p (.lst vs)) (T1.trans (to_new S1 hp)) (S1.new hp hl) (mkL_rw upd_same (r1.mono (grow_new (S1.free hp).1)))⟩
    · cases e
/-! .. as a test -/
abbrev PHt (X : Cx) (F : Fe) (k : Nat) (a dd : Addr) (cls : Value) (oe : Obj) (pn : List (Addr × Obj)) (e : Expr) (x : Xe) : Prop := PT (X.suite a ((a, oe) :: pn)) e (THt (zd X) F k a cls dd x)
theorem ph_truth (h1 : PH X F k a dd cls oe pn e x) (he : ∀ whole, isTrue e X.env whole = (do let v ← whole; standAt e.pos; holding [v] (truthy v))) : PHt X F k a dd cls oe pn e x :=
  PT.of (pt_truth h1 he) fun σ H Q h => by
    obtain ⟨G, ι, m, σw, dn, fs, w, b, A, e, eb, q⟩ := h
    exact ⟨G, ι, m, σw, dn, fs, w, A, e, fun v H' G' T S' r => ⟨b, tru_okW S' r eb, q H' G' T S'⟩⟩
theorem ph_tnot (h1 : PHt X F k a dd cls oe pn e x) : PHt X F k a dd cls oe pn (.UnaryOp .Not e pos) (.not x) :=
  PT.of (pt_not h1) fun σ H Q h => by
    obtain ⟨G, ι, m, σw, dn, fs, w, b, A, e, eb, q⟩ := h
    obtain ⟨w1, e1, e⟩ := Option.bind_eq_some_iff.mp e
    obtain ⟨b1, e2, rfl⟩ := Option.map_eq_some_iff.mp e
    cases eb
    exact ⟨G, ι, m, σw, dn, fs, w1, b1, A, e1, e2, q⟩
theorem ph_not (h1 : PH X F k a dd cls oe pn e x) : PH X F k a dd cls oe pn (.UnaryOp .Not e pos) (.not x) := by
  refine ⟨fun pins s σ H Q I h => ?_⟩
  obtain ⟨G, ι, m, σw, dn, fs, w, A, e, q⟩ := h
  obtain ⟨w1, e1, e⟩ := Option.bind_eq_some_iff.mp e
  obtain ⟨b1, e2, rfl⟩ := Option.map_eq_some_iff.mp e
  refine UnaryOp_ (thn (h1.run pins s σ H (fun v H1 => ∃ k, TruV X.K v H1 k ∧ Q (.bl (!k)) H1) I ⟨G, ι, m, σw, dn, fs, w1, A, e1, fun v H' G' T S' r => ⟨b1, tru_okW S' r e2, q _ H' G' T S' (.dat (.bl _))⟩⟩) fun v s1 hq => ?_)
  obtain ⟨y, H1, I1, r1, b, ht, q1⟩ := hq
  exact not_of (thn (tru_ok (X := X.suite a ((a, oe) :: pn)) pins s1 σ H1 y v (fun k H2 => Q (.bl (!k)) H2) I1 r1 ⟨b, ht, q1⟩) fun k s2 hq => by
    obtain ⟨H2, I2, q2⟩ := hq
    exact ⟨.bl (!k), H2, I2, rfl, q2⟩)
theorem ph_and (h1 : PH X F k a dd cls oe pn e1 x) (h2 : PH X F k a dd cls oe pn e2 y) : PH X F k a dd cls oe pn (.BoolOp .And [e1, e2] pos) (.and x y) := by
  refine ⟨fun pins s σ H Q I h => ?_⟩
  obtain ⟨G, ι, m, σw, dn, fs, w, A, e, q⟩ := h
  obtain ⟨w1, e1', e⟩ := Option.bind_eq_some_iff.mp e
  obtain ⟨b1, e2', e⟩ := Option.bind_eq_some_iff.mp e
  refine BoolOp_and (thn (h1.run pins s σ H (fun v H1 => ∃ b, TruV X.K v H1 b ∧ if b = true then THe (zd X) F k a cls dd y σ H1 Q else Q v H1) I ⟨G, ι, m, σw, dn, fs, w1, A, e1', fun v H' G' T S' r => ⟨b1, tru_okW S' r e2', ?_⟩⟩) fun v s1 hq => ?_)
  · cases b1 with
    | true => exact ⟨G', ι, m, σw, dn, fs, w, A.on T S', e, fun v2 H2 G2 T2 S2 r2 => q v2 H2 G2 (T.trans T2) S2 r2⟩
    | false =>
      cases e
      exact q v H' G' T S' r
  · obtain ⟨z, H1, I1, r1, b, ht, q1⟩ := hq
    refine thn (tru_ok (X := X.suite a ((a, oe) :: pn)) pins s1 σ H1 z v (fun b H2 => H2 = H1 ∧ if b = true then THe (zd X) F k a cls dd y σ H1 Q else Q z H1) I1 r1 ⟨b, ht, rfl, q1⟩) fun b s2 hq => ?_
    obtain ⟨H2, I2, rfl, q2⟩ := hq
    cases b with
    | true => exact (pe_one h2).run pins s2 σ H2 Q I2 q2
    | false => exact ⟨z, H2, I2, r1, q2⟩
theorem ph_tand (h1 : PHt X F k a dd cls oe pn e1 x) (h2 : PHt X F k a dd cls oe pn e2 y) : PHt X F k a dd cls oe pn (.BoolOp .And [e1, e2] pos) (.and x y) :=
  PT.of (pw_and h1 (pw_and1 h2)).pt fun σ H Q h => by
    obtain ⟨G, ι, m, σw, dn, fs, w, b, A, e, eb, q⟩ := h
    obtain ⟨w1, e1', e⟩ := Option.bind_eq_some_iff.mp e
    obtain ⟨b1, e2', e⟩ := Option.bind_eq_some_iff.mp e
    refine ⟨G, ι, m, σw, dn, fs, w1, b1, A, e1', e2', fun H' G' T S' => ?_⟩
    cases b1 with
    | true => exact ⟨G', ι, m, σw, dn, fs, w, b, A.on T S', e, eb, fun H2 G2 T2 S2 => q H2 G2 (T.trans T2) S2⟩
    | false =>
      cases e
      rw [e2'] at eb
      cases eb
      exact q H' G' T S'
theorem ph_ite (h1 : PHt X F k a dd cls oe pn e1 x) (h2 : PH X F k a dd cls oe pn e2 y) (h3 : PH X F k a dd cls oe pn e3 z) : PH X F k a dd cls oe pn (.IfExp e1 e2 e3 pos) (.ite x y z) :=
  PE.of (pe_ifExp h1 h2 h3) fun σ H Q h => by
    obtain ⟨G, ι, m, σw, dn, fs, w, A, e, q⟩ := h
    obtain ⟨w1, e1', e⟩ := Option.bind_eq_some_iff.mp e
    obtain ⟨b1, e2', e⟩ := Option.bind_eq_some_iff.mp e
    refine ⟨G, ι, m, σw, dn, fs, w1, b1, A, e1', e2', fun H' G' T S' => ?_⟩
    cases b1 with
    | true => exact ⟨G', ι, m, σw, dn, fs, w, A.on T S', e, fun v2 H2 G2 T2 S2 r2 => q v2 H2 G2 (T.trans T2) S2 r2⟩
    | false => exact ⟨G', ι, m, σw, dn, fs, w, A.on T S', e, fun v2 H2 G2 T2 S2 r2 => q v2 H2 G2 (T.trans T2) S2 r2⟩
end
/-! ### the suite, the try -/
section
variable {X : Cx} {c : Cc} {F : Fe} {U : WX} {e e1 e2 e3 : Expr} {es : List Expr} {pos : Pos} {a dd : Addr} {cls : Value} {oe : Obj} {pn : List (Addr × Obj)} {k : Nat} {en : Str} {x y z : Xe} {xs : List Xe} {h : List (Nat × Xe)} {sts body : List Stmt} {b : List Mi.St}
def THss (Z : Wd) (F : Fe) (k : Nat) (a : Addr) (cls : Value) (dd : Addr) (h : List (Nat × Xe)) : TS := fun D σ H => ∃ G ι m σw dn fs σw', AtH Z k a cls dd G ι m σw dn fs σ H ∧ evH F k m dn fs h σw = some σw' ∧
  ∀ σ' H' G', To 0 G ι m H G' ι m H' → RS Z G' ι m H' → REn Z G' ι σ' σw' → D.nx σ' H'
theorem phs_nil : PSs (X.suite a ((a, oe) :: pn)) [] (THss (zd X) F k a cls dd []) :=
  PSs.of pss_nil fun D σ H q => by
    obtain ⟨G, ι, m, σw, dn, fs, σw', A, e, q⟩ := q
    cases e
    exact q σ H G To.refl A.S A.E
theorem phs_cons (O : Ok c X F U) {i : Nat} {n : Str} {p : Pos} (hi : c.N[i]? = some n) (hn : locC c n = true) (hne : i ≠ k) (h1 : PH X F k a dd cls oe pn e x) (hc : notComp e = true) (h2 : PSs (X.suite a ((a, oe) :: pn)) sts (THss (zd X) F k a cls dd h)) :
    PSs (X.suite a ((a, oe) :: pn)) (.Assign [.Name n p] e pos :: sts) (THss (zd X) F k a cls dd ((i, x) :: h)) :=
  have l := locC_ok O hn
  PSs.of (pss_cons (ps_set (X := X.suite a ((a, oe) :: pn)) O.nd (show X.N[i]? = some n by rw [O.hN]; exact hi) l.1 h1 (swaps_no hc) l.2) h2) fun D σ H q => by
    obtain ⟨G, ι, m, σw, dn, fs, σw', A, e, q⟩ := q
    have e : (if i = k then none else (evX F σw m dn fs x).bind fun w => evH F k m dn fs h (σw.set i (some w))) = some σw' := e
    rw [if_neg hne] at e
    obtain ⟨w, e1, e⟩ := Option.bind_eq_some_iff.mp e
    refine ⟨G, ι, m, σw, dn, fs, w, A, e1, fun v H1 G1 T1 S1 r1 => ?_⟩
    have A1 := A.on T1 S1
    exact ⟨G1, ι, m, σw.set i (some w), dn, fs, σw', ⟨by rw [List.getElem?_set_ne hne]; exact A1.hk, S1, A1.E.set r1 i, A1.X⟩, e, fun σ' H' G' T S' E' => q σ' H' G' (T1.trans T) S' E'⟩
theorem REn.hide {Z : Wd} {G : Hp} {ι : List Addr} {σ : L2.St} {σw : En} (E : REn Z G ι σ σw) (i : Nat) (o : Option V) : REn Z G ι (σ.set i o) (σw.set i none) := by
  refine ⟨by simp [E.1], fun j z e => ?_⟩
  rw [getV_set] at e
  by_cases h : i = j
  · subst h
    rw [if_pos rfl] at e
    split at e <;> cases e
  · rw [if_neg h] at e
    obtain ⟨u, h1, h2⟩ := E.2 j z e
    exact ⟨u, by rw [List.getElem?_set_ne h]; exact h1, h2⟩
theorem psx_try (O : Ok c X F U) {cn : Str} {b0 : Stmt} {np pos' : Pos} (hs : X.stack = X.env :: X.outer) (hf : X.env.frame = some X.env.locals) (hi : X.N[k]? = some en) (hln : X.env.kindOf en = some .local) (hg : Gl X cn) (hd : (cn == ("__debug__" : Str)) = false) (he : cn ∈ c.ecl)
    (hb : ∀ (W : WX) (pn : List (Addr × Obj)) (xe : Value → Shared → Prop), Takes (X.tr pn xe) W → PassesOwn (model X.prog X.w) X.A X.env xe → PSs (X.tr pn xe) body (TSs (zd X) F W b))
    (hsu : ∀ (a dd : Addr) (oe : Obj) (cls : Value) (pn : List (Addr × Obj)), Zc cls (some dd) oe → (∃ vs, oe.data = .fields vs) → PSs (X.suite a ((a, oe) :: pn)) (b0 :: sts) (THss (zd X) F k a cls dd h)) :
    PS X (.Try body [.ExceptHandler (some (.Name cn np)) (some en) (b0 :: sts) pos'] [] [] pos) (TSx (zd X) F U (.tryx b cn k h)) := by
  obtain ⟨D0, hD⟩ := O.ecl cn he
  refine PS.of (ps_try_as (c := .ref D0) (ts := fun a cls d => fun D σ H => ∃ dd, d = some dd ∧ THss (zd X) F k a cls dd h D σ H) hs hf O.nd hi hln ⟨hg, hd, .inl hD⟩ O.tk hb fun a oe cls d pn hz hfl => ?_) fun D σ H q => ?_
  · cases d with
    | none => exact ⟨fun pins s σ H D I q => by obtain ⟨dd, e, _⟩ := q; cases e⟩
    | some dd =>
      exact PSs.of (hsu a dd oe cls pn hz hfl) fun D σ H q => by
          obtain ⟨dd', e, q⟩ := q
          cases e
          exact q
  · obtain ⟨G, ι, m, σw, S, E, hL, P⟩ := q
    refine ⟨G, ι, m, σw, S, E, hL, ?_⟩
    have P : PostS (zd X) F.L G ι m H (match evSs F b σw m with
      | .xc σ d fs m => (match F.sub d cn with
        | some true => if k < σ.length then (match evH F k m d fs h (σ.set k none) with
          | some σ => .nx (σ.set k none) m
          | none => .no) else .no
        | some false => .xc σ d fs m
        | none => .no)
      | r => r) D U := P
    cases hr : evSs F b σw m with
    | nx σ1 m1 => rw [hr] at P; exact P
    | rt w m1 => rw [hr] at P; exact P
    | no => rw [hr] at P; exact P
    | xc σ1 dn fs m1 =>
      rw [hr] at P
      intro cls d σ' H' G' ι' T S' E' hx
      have hx0 := hx
      obtain ⟨C, dd, fl, g1, g2, g3, g4, g5⟩ := hx
      have g1 : X.mg dn = some (.ref C) := g1
      cases hsb : F.sub dn cn with
      | none => simp only [hsb] at P; exact P.elim
      | some bb =>
        obtain ⟨C', D', k1, k2, k3⟩ := O.sub dn cn bb hsb
        rw [g1] at k1
        cases k1
        rw [hD] at k2
        cases k2
        subst g2
        refine ⟨bb, k3, fun e a hna => ?_, fun e => ?_⟩
        · subst e
          simp only [hsb] at P
          by_cases hk : k < σ1.length
          · rw [if_pos hk] at P
            cases hh : evH F k m1 dn fs h (σ1.set k none) with
            | none => rw [hh] at P; exact P.elim
            | some σ2 =>
              rw [hh] at P
              have P : PostS (zd X) F.L G ι m H (.nx (σ2.set k none) m1) D U := P
              have hdι : dd ∉ ι' := fun hm => by
                obtain ⟨i, hi2, ei⟩ := List.mem_iff_getElem.mp hm
                have hl2 : i < m1.length := by rw [← S'.len]; exact hi2
                obtain ⟨a2, ha2, cc⟩ := S'.cell i m1[i] (by simp [hl2])
                rw [List.getElem?_eq_getElem hi2, ei] at ha2
                cases ha2
                cases q : m1[i] with
                | lst ws =>
                  rw [q] at cc
                  obtain ⟨vs, c1, _⟩ := cc
                  rw [g4] at c1
                  cases c1
                | _ => rw [q] at cc; exact cc.elim
              refine ⟨dd, g3, G', ι', m1, σ1.set k none, dn, fs, σ2, ⟨List.getElem?_set_self (by rw [E'.1]; exact hk), S', E'.hide k _, ⟨C, fl, g1, rfl, hdι, g4, g5⟩⟩, hh, fun σ3 H3 G3 T3 S3 E3 => ?_⟩
              exact P (σ3.set k none) H3 G3 ι' (T.trans T3.any) S3 (E3.gone k)
          · rw [if_neg hk] at P
            exact P.elim
        · subst e
          simp only [hsb] at P
          exact (P : PostS (zd X) F.L G ι m H (.xc σ1 dn fs m1) D U) _ d σ' H' G' ι' T S' E' hx0
end
end Mi
/-! Mi, part T: match. -/
namespace Mi
open PySem PySem.Spec PyProof.Rows L2
structure PM (X : Cx) (cs : List MatchCase) (t : V → TS) : Prop where
  run : ∀ (first : Bool) (pins : List (Addr × Obj)) (s : Shared) (σ : L2.St) (H : Hp) (v : V) (u : Value) (D : Ends), L2.Inv X pins σ H s → RelV v u → t v D σ H → wpAny (model X.prog X.w) X.A (matchCases cs X.env u first) (SP X pins D) X.xe s
def TMt (Z : Wd) (F : Fe) (U : WX) (cs : List Mi.St) : V → TS := fun v D σ H => ∃ G ι m σw w, RS Z G ι m H ∧ REn Z G ι σ σw ∧ F.L ≤ m.length ∧ RW Z G ι v w ∧ PostS Z F.L G ι m H (evCs F cs w σw m) D U
theorem setAll_some : ∀ {is : List Nat} {ws : List W} {σ σ' : En}, setAll σ is ws = some σ' → is.length = ws.length
  | [], [], _, _, _ => rfl
  | _ :: _, _ :: _, _, _, e => congrArg (· + 1) (setAll_some (σ := _) e)
  | [], _ :: _, _, _, e => nomatch e
  | _ :: _, [], _, _, e => nomatch e
theorem setAll_none : ∀ {is : List Nat} {ws : List W} {σ : En}, setAll σ is ws = none → is.length ≠ ws.length
  | [], [], _, e => nomatch e
  | i :: is, w :: ws, σ, e => fun h => setAll_none (is := is) (ws := ws) (σ := σ.set i (some w)) e (by simpa using h)
  | [], _ :: _, _, _ => fun h => nomatch h
  | _ :: _, [], _, _ => fun h => nomatch h
/-- captures -/
def capN : Pattern → Option Str
  | .MatchAs none (some n) _ => some n
  | _ => none
theorem capN_eq {p : Pattern} {n : Str} (h : capN p = some n) : ∃ q, p = .MatchAs none (some n) q := by
  unfold capN at h
  split at h
  · cases h; exact ⟨_, rfl⟩
  · cases h
def chkP (c : Cc) : List Pattern → List Nat → Bool
  | [], [] => true
  | p :: ps, i :: is => (match capN p with
    | some n => decide (c.N[i]? = some n) && locC c n
    | none => false) && chkP c ps is
  | _, _ => false
theorem chkP_cons {c : Cc} {p : Pattern} {ps : List Pattern} {i : Nat} {is : List Nat} (h : chkP c (p :: ps) (i :: is) = true) : ∃ n q, p = .MatchAs none (some n) q ∧ c.N[i]? = some n ∧ locC c n = true ∧ chkP c ps is = true := by
  rw [chkP, Bool.and_eq_true] at h
  obtain ⟨h1, h2⟩ := h
  split at h1
  · rename_i n e
    obtain ⟨q, rfl⟩ := capN_eq e
    rw [Bool.and_eq_true, decide_eq_true_eq] at h1
    exact ⟨n, q, rfl, h1.1, h1.2, h2⟩
  · cases h1
theorem chkP_len {c : Cc} : ∀ {ps : List Pattern} {is : List Nat}, chkP c ps is = true → ps.length = is.length
  | [], [], _ => rfl
  | [], _ :: _, h => by cases h
  | _ :: _, [], h => by cases h
  | _ :: _, _ :: _, h => by
    obtain ⟨n, q, _, _, _, h2⟩ := chkP_cons h
    simp [chkP_len h2]
theorem chkP_star {c : Cc} : ∀ {ps : List Pattern} {is : List Nat}, chkP c ps is = true → ps.findIdx? (·.isStar) = none
  | [], [], _ => rfl
  | [], _ :: _, h => by cases h
  | _ :: _, [], h => by cases h
  | _ :: _, _ :: _, h => by
    obtain ⟨n, q, rfl, _, _, h2⟩ := chkP_cons h
    rw [List.findIdx?_cons, chkP_star h2]
    rfl
theorem chkP_wild {c : Cc} {ps : List Pattern} {is : List Nat} (h : chkP c ps is = true) (hne : ps ≠ []) : (ps.all fun p => p.isWildcard || (p.isStar && p.names.isEmpty)) = false := by
  cases ps with
  | nil => exact (hne rfl).elim
  | cons p ps =>
    cases is with
    | nil => cases h
    | cons i is =>
      obtain ⟨n, q, rfl, _, _, h2⟩ := chkP_cons h
      rw [List.all_cons]
      rfl
def capB : List Pattern → List Value → List (Str × Value)
  | p :: ps, u :: us => (match capN p with
    | some n => [(n, u)]
    | none => []) ++ capB ps us
  | _, _ => []
theorem each_cap {M : Model} {A : Around} {E : Value → Shared → Prop} {env : Env} {c : Cc} : ∀ {ps : List Pattern} {is : List Nat} {us : List Value} {s : Shared} {Q : Option (List (Str × Value)) → Shared → Prop}, chkP c ps is = true → ps.length = us.length → Q (some (capB ps us)) s → wpAny M A (matchEach ps env us) Q E s
  | [], [], us, s, Q, _, hl, q => by
    cases us with
    | nil => exact wpAny_matchEach_nil q
    | cons _ _ => cases hl
  | [], _ :: _, _, _, _, h, _, _ => by cases h
  | _ :: _, [], _, _, _, h, _, _ => by cases h
  | p :: ps, i :: is, us, s, Q, h, hl, q => by
    obtain ⟨n, q, rfl, _, _, h2⟩ := chkP_cons h
    cases us with
    | nil => cases hl
    | cons u us =>
      refine wpAny_matchEach_cons (wpAny_matchPattern_Capture ?_)
      simp at hl
      exact each_cap h2 hl q
section
variable {X : Cx} {c : Cc} {F : Fe} {U : WX} {e : Expr} {x : Ex} {pos : Pos} {pins : List (Addr × Obj)} {H G : Hp} {ι : List Addr}
theorem bind_cap {M : Model} {A : Around} {E : Value → Shared → Prop} {Q : Unit → Shared → Prop} (O : Ok c X F U) : ∀ {ps : List Pattern} {is : List Nat} {us : List Value} {vs : List V} {ws : List W} {σ : L2.St} {σw σw' : En} {s : Shared}, chkP c ps is = true →
    L2.Inv X pins σ H s → REn (zd X) G ι σ σw → Vals vs us → RWs (zd X) G ι vs ws → setAll σw is ws = some σw' → (∀ s' σ', L2.Inv X pins σ' H s' → REn (zd X) G ι σ' σw' → Q () s') →
    wpAny M A (assignInOrder ((capB ps us).map fun (n, _) => bindName X.env n) ((capB ps us).map (·.2))) Q E s
  | [], [], us, vs, ws, σ, σw, σw', s, _, I, En, rv, rs, e, q => by
    cases ws with
    | nil => cases e; exact wpAny_assignInOrder_none (q _ _ I En)
    | cons _ _ => cases e
  | [], _ :: _, _, _, _, _, _, _, _, h, _, _, _, _, _, _ => by cases h
  | _ :: _, [], _, _, _, _, _, _, _, h, _, _, _, _, _, _ => by cases h
  | p :: ps, i :: is, us, vs, ws, σ, σw, σw', s, h, I, En, rv, rs, e, q => by
    obtain ⟨n, q0, rfl, hi, hn, h2⟩ := chkP_cons h
    cases rs with
    | nil => cases e
    | @cons v w vs ws r rs =>
      cases rv with
      | @cons _ u _ us ru rus =>
        obtain ⟨l1, f1⟩ := locC_ok O hn
        refine assignInOrder_cons (wpAny_bindName (store_ok I O.nd (by rw [O.hN]; exact hi) l1 ru (fun s2 I2 => ?_) f1))
        exact bind_cap O h2 I2 (En.set r i) rus rs e q
theorem pm_nil : PM X [] (TMt (zd X) F U []) := ⟨fun first pins s σ H v u D I r h => by
  obtain ⟨G, ι, m, σw, w, S, E, hL, rw', P⟩ := h
  exact wpAny_matchCases_nil ⟨σ, H, I, PostS.nxt P S E⟩⟩
def PGd (X : Cx) (F : Fe) (U : WX) (g : Option Expr) (g' : Option Ex) : Prop := match g, g' with
  | none, none => True
  | some e, some x => PT X e (TXt (zd X) F U x)
  | _, _ => False
theorem pm_any {p : Pos} {g0 : Option Ex} {body : List Stmt} {b : List Mi.St} {rest : List MatchCase} {cs : List Mi.St} (hb : PSs X body (TSs (zd X) F U b)) : PM X (⟨.MatchAs none none p, none, body⟩ :: rest) (TMt (zd X) F U (.cas none g0 b :: cs)) :=
  ⟨fun first pins s σ H v u D I r h => by
    obtain ⟨G, ι, m, σw, w, S, E, hL, rw', P⟩ := h
    refine wpAny_matchCases_cons (wpAny_matchPattern_Capture (wpAny_assignInOrder_none ?_))
    exact hb.run pins s σ H D I ⟨G, ι, m, σw, S, E, hL, P⟩⟩
theorem pm_seq (O : Ok c X F U) (hc : X.calm = true) {ps : List Pattern} {is : List Nat} {p : Pos} {g : Option Expr} {g' : Option Ex} {body : List Stmt} {b : List Mi.St} {rest : List MatchCase} {cs : List Mi.St} (hp : chkP c ps is = true) (hne : ps ≠ []) (hg : PGd X F U g g') (hb : PSs X body (TSs (zd X) F U b)) (hr : PM X rest (TMt (zd X) F U cs)) :
    PM X (⟨.MatchSequence ps p, g, body⟩ :: rest) (TMt (zd X) F U (.cas (some is) g' b :: cs)) := by
  refine ⟨fun first pins s σ H v u D I r h => ?_⟩
  obtain ⟨G, ι, m, σw, w, S, E, hL, rw', P⟩ := h
  have P : PostS (zd X) F.L G ι m H (match (match lstOf m w with
      | none => (true, SR.no)
      | some ws => match setAll σw is ws with
        | none => (false, .nx σw m)
        | some σ => match evG F g' σ m with
          | .ok true m => (true, evSs F b σ m)
          | .ok false m => (false, .nx σ m)
          | _ => (true, .no)) with
    | (true, x) => x
    | (false, .nx σ m) => evCs F cs w σ m
    | (false, x) => x) D U := P
  cases e1 : lstOf m w with
  | none => rw [e1] at P; exact P.elim
  | some ws =>
    simp only [e1] at P
    obtain ⟨a, vs, rfl, ha, rs⟩ := lst_rw S rw' e1
    cases r
    obtain ⟨its, rv, ht, hlt⟩ := sqB_at (b := false) I (show SqB false X.K H a vs from .inl (.inl ha))
    have ht : s.heap.IsList a its.toArray := ht
    have hz : vs.length ≤ sizeLine := sql_sz S (.inl (.inl ha))
    have h1 := rv.length
    have h2 := rs.length
    have hsz : its.toArray.size = ws.length := by
      rw [List.size_toArray]
      omega
    have hfit : (its.toArray.size : Int) < 2 ^ 63 := by
      have : sizeLine < 2 ^ 63 := by decide
      rw [hsz]
      omega
    have hpl := chkP_len hp
    cases e2 : setAll σw is ws with
    | none =>
      simp only [e2] at P
      refine wpAny_matchCases_cons (matchSeq_list_miss ht hfit (by rw [hsz, hpl]; exact fun h => setAll_none e2 h.symm) ?_ (chkP_star hp) (chkP_wild hp hne))
      exact hr.run false pins _ σ H (.ref a) (.ref a) D (I.kept fun _ _ e => e) rfl ⟨G, ι, m, σw, w, S, E, hL, rw', P⟩
    | some σw' =>
      simp only [e2] at P
      have hl := setAll_some e2
      have hn : its.toArray.size = ps.length := by rw [hsz, hpl]; exact hl.symm
      refine wpAny_matchCases_cons (matchSeq_list_hit ht hfit hn ?_ (chkP_star hp) (chkP_wild hp hne))
      rw [← hn]
      refine PySem.W.kun_itemsOf (s := { s with toks := s.toks + 1 + 1 }) (I.ok.hd hc) ht fun h' hx => ?_
      refine each_cap hp hn.symm ?_
      have I1 : L2.Inv X pins σ H { s with heap := h', toks := s.toks + 1 + 1 } := I.kept fun b o e => hx b o (Nat.ne_of_lt (Heap.lt_size e)) e
      refine bind_cap O hp I1 E rv rs e2 fun s2 σ2 I2 E2 => ?_
      cases g with
      | none =>
        cases g' with
        | none => exact hb.run pins s2 σ2 H D I2 ⟨G, ι, m, σw', S, E2, hL, P⟩
        | some _ => exact hg.elim
      | some e =>
        cases g' with
        | none => exact hg.elim
        | some x =>
          have hg : PT X e (TXt (zd X) F U x) := hg
          have P : PostS (zd X) F.L G ι m H (match (match evG F (some x) σw' m with
              | .ok true m => (true, evSs F b σw' m)
              | .ok false m => (false, .nx σw' m)
              | _ => (true, .no)) with
            | (true, x) => x
            | (false, .nx σ m) => evCs F cs w σ m
            | (false, x) => x) D U := P
          refine thn (hg.run pins s2 σ2 H (fun k H1 => ∃ G1 ι1 m1, Grow G ι G1 ι1 ∧ RS (zd X) G1 ι1 m1 H1 ∧ REn (zd X) G1 ι1 σ2 σw' ∧ F.L ≤ m1.length ∧ PostS (zd X) F.L G1 ι1 m1 H1 (if k then evSs F b σw' m1 else evCs F cs w σw' m1) D U) I2 ⟨G, ι, m, σw', S, E2, hL, ?_⟩) ?_
          · generalize hgg : ((evE F x σw' m).bind fun x m => lift (tru m x) m) = rr
            have P := (show evG F (some x) σw' m = rr from hgg) ▸ P
            cases rr with
            | ok k m1 =>
              rintro k' H1 G1 ι1 T1 S1 (rfl : k' = k)
              refine ⟨G1, ι1, m1, T1.g, S1, E2.mono T1.g, Nat.le_trans hL T1.k.1, ?_⟩
              cases k' with
              | true => exact PostS.shift P T1
              | false => exact PostS.shift P T1
            | exc c fs m1 => exact P.elim
            | no => exact P.elim
          · rintro k s3 ⟨H1, I3, G1, ι1, m1, T1, S1, E3, L1, P3⟩
            cases k with
            | true => exact hb.run pins s3 σ2 H1 D I3 ⟨G1, ι1, m1, σw', S1, E3, L1, P3⟩
            | false => exact hr.run false pins s3 σ2 H1 (.ref a) (.ref a) D I3 rfl ⟨G1, ι1, m1, σw', w, S1, E3, L1, rw'.mono T1, P3⟩
theorem psx_mat {cs : List MatchCase} {cs' : List Mi.St} (h1 : PE X e (TX (zd X) F U x)) (h2 : PM X cs (TMt (zd X) F U cs')) : PS X (.Match e cs pos) (TSx (zd X) F U (.mat x cs')) := by
  refine ⟨fun pins s σ H D I h => ?_⟩
  obtain ⟨G, ι, m, σw, S, E, hL, P⟩ := h
  refine wpAny_Match (thn (h1.run pins s σ H _ I ⟨G, ι, m, σw, S, E, hL, PostS.st (R := RW (zd X)) E hL P⟩) fun u s1 q => ?_)
  obtain ⟨v, H1, I1, r, G1, ι1, m1, w, T1, S1, E1, L1, r1, P1⟩ := q
  exact h2.run true pins s1 σ H1 v u D I1 r ⟨G1, ι1, m1, σw, w, S1, E1, L1, r1, P1⟩
end
end Mi
/-! Mi, part U: the text of an expression held against the language; if it fits, the readings follow. -/
namespace Mi
open PySem PySem.Spec PyProof.Rows L2
/-! ### checks -/
def glC (c : Cc) (n : Str) : Bool := decide (c.sc.names.lookup n = some .globalImplicit) && (n != ("__debug__" : Str))
def visC (c : Cc) (n : Str) : Bool := decide (c.sc.names.lookup n = some .local) || decide (c.sc.names.lookup n = some .cell) || decide (c.sc.names.lookup n = some .free)
def notSet : Expr → Bool
  | .Set _ _ _ => false
  | _ => true
def isTupE : Expr → Bool
  | .Tuple _ _ _ => true
  | _ => false
def chkSt (chk : Expr → Ex → Bool) (e : Expr) (x : Ex) : Bool := match e with
  | .Starred e' _ => (match x with
    | .star x' => chk e' x'
    | _ => false)
  | _ => false
def chkE1 (chk : Expr → Ex → Bool) (e : Expr) (x : Ex) : Bool := match noSt e && !isStar x with
  | true => chk e x
  | false => chkSt chk e x
def chkEs (chk : Expr → Ex → Bool) : List Expr → List Ex → Bool
  | [], [] => true
  | e :: es, x :: xs => chkE1 chk e x && chkEs chk es xs
  | _, _ => false
def chkO (chk : Expr → Ex → Bool) : Option Expr → Option Ex → Bool
  | none, none => true
  | some e, some x => chk e x
  | _, _ => false
def chkI (chk : Expr → Ex → Bool) (c : Cc) (tg e : Expr) (x : Ex) : Bool := match x with
  | .itEnum a => (match e with
    | .Call (.Name f _) [e1] [] _ => decide (f = ("enumerate" : Str)) && decide (("enumerate" : Str) ∈ c.bl) && glC c "enumerate" && noSt e1 && chk e1 a && isTupE tg
    | _ => false)
  | .itZip a b => (match e with
    | .Call (.Name f _) [e1, e2] [] _ => decide (f = ("zip" : Str)) && decide (("zip" : Str) ∈ c.bl) && glC c "zip" && noSt e1 && noSt e2 && chk e1 a && chk e2 b && isTupE tg
    | _ => false)
  | .itRng a => (match e with
    | .Call (.Name f _) [e1] [] _ => decide (f = ("range" : Str)) && decide (("range" : Str) ∈ c.bl) && glC c "range" && noSt e1 && chk e1 a
    | _ => false)
  | x => notItr x && chk e x
def chkIfs (chk : Expr → Ex → Bool) : List Expr → List Ex → Bool
  | [], [] => true
  | [e], [x] => chk e x
  | _, _ => false
def owC (c : Cc) (own : List Nat) : List (Str × Nat) := own.map fun i => (c.N.getD i "", i)
theorem owC_snd (c : Cc) (own : List Nat) : (owC c own).map (·.2) = own := by
  unfold owC
  rw [List.map_map]
  exact List.map_id own
def chkE : Nat → Cc → Expr → Ex → Bool
  | 0, _, _, _ => false
  | n + 1, c, e, x => match x with
    | .var i => (match e with
      | .Name s _ => decide (c.N[i]? = some s) && visC c s && nmOk s
      | _ => false)
    | .con d => (match e with
      | .Constant k _ _ => decide (constOf d = some k)
      | _ => false)
    | .glo t => (match e with
      | .Name s _ => decide (s = t) && glC c s
      | _ => false)
    | .bin o a b => (match e with
      | .BinOp l op r _ => decide (op = opOf o) && chkE n c l a && chkE n c r b
      | _ => false)
    | .neg a => (match e with
      | .UnaryOp .USub l _ => chkE n c l a
      | _ => false)
    | .cmp o a b => (match e with
      | .Compare l [op] [r] _ => decide (op = opC o) && !(behindInMarks op r) && chkE n c l a && chkE n c r b
      | _ => false)
    | .chn o p a b d => (match e with
      | .Compare l [op, op2] [r, r2] _ => decide (op = opC o) && decide (op2 = opC p) && !(lastMarks [op, op2] [r, r2]) && chkE n c l a && chkE n c r b && chkE n c r2 d
      | _ => false)
    | .and a b => (match e with
      | .BoolOp .And (e1 :: e2 :: rest) pos => chkE n c e1 a && (match rest with
        | [] => chkE n c e2 b
        | _ => chkE n c (.BoolOp .And (e2 :: rest) pos) b)
      | _ => false)
    | .or a b => (match e with
      | .BoolOp .Or (e1 :: e2 :: rest) pos => chkE n c e1 a && (match rest with
        | [] => chkE n c e2 b
        | _ => chkE n c (.BoolOp .Or (e2 :: rest) pos) b)
      | _ => false)
    | .not a => (match e with
      | .UnaryOp .Not l _ => chkE n c l a
      | _ => false)
    | .ite a b d => (match e with
      | .IfExp e1 e2 e3 _ => chkE n c e1 a && chkE n c e2 b && chkE n c e3 d
      | _ => false)
    | .star _ => false
    | .tup xs => (match e with
      | .Tuple es _ _ => chkEs (chkE n c) es xs
      | _ => false)
    | .lst _ xs => (match e with
      | .List es _ => chkEs (chkE n c) es xs
      | _ => false)
    | .cpy _ a => (match e with
      | .Call (.Name f _) [e1] [] _ => decide (f = ("list" : Str)) && decide (("list" : Str) ∈ c.bl) && glC c "list" && noSt e1 && chkE n c e1 a
      | _ => false)
    | .dic0 => (match e with
      | .Dict [] [] _ => true
      | _ => false)
    | .call f xs => (match e with
      | .Call (.Name g _) es [] _ => decide (g = f) && !c.hot && decide ((f, xs.length) ∈ c.fn) && glC c f && es.all noSt && chkEs (chkE n c) es xs
      | _ => false)
    | .isi a ts => (match ts with
      | [t] => (match e with
        | .Call (.Name f _) [e1, .Name g _] [] _ => decide (f = ("isinstance" : Str)) && decide (("isinstance" : Str) ∈ c.bl) && glC c "isinstance" && decide (g = tyN t) && (tyS t).isSome && decide (tyN t ∈ c.bl) && glC c (tyN t) && noSt e1 && chkE n c e1 a
        | _ => false)
      | _ => false)
    | .bi f xs => (match e with
      | .Call (.Name g _) (e1 :: es) [] _ => decide (g = biNm f) && (!c.hot || (decide (f ≠ .all) && decide (f ≠ .any) && decide (f ≠ .max) && decide (f ≠ .min))) && decide (biNm f ∈ c.bl) && glC c (biNm f) && (e1 :: es).all noSt && chkEs (chkE n c) (e1 :: es) xs
      | _ => false)
    | .met f o xs => (match e with
      | .Call (.Attribute e1 m ap) (e2 :: es) [] pos => decide (m = meNm f) && (ap.endLine == pos.line) && baseOk e1 && (e2 :: es).all noSt && decide ((e2 :: es).length < 30) && chkE n c e1 o && chkEs (chkE n c) (e2 :: es) xs
      | _ => false)
    | .ix a b => (match e with
      | .Subscript e1 e2 _ => noSl e2 && chkE n c e1 a && chkE n c e2 b
      | _ => false)
    | .sl a l u => (match e with
      | .Subscript e1 (.Slice l' u' none _) _ => chkE n c e1 a && chkO (chkE n c) l' l && chkO (chkE n c) u' u
      | _ => false)
    | .rev a => (match e with
      | .Subscript e1 (.Slice none none (some (.UnaryOp .USub (.Constant (.int 1) _ _) _)) _) _ => chkE n c e1 a
      | _ => false)
    | .lc _ own ts it cs y => (match e with
      | .ListComp elt [⟨tg, iter, ifs, 0⟩] scope _ => !c.hot && notSet iter && chkI (chkE n c) c tg iter it && blkC c.N c.sc scope (owC c own) && chkTg (c.blk scope) ts tg && chkIfs (chkE n (c.blk scope)) ifs cs && chkE n (c.blk scope) elt y && ts.all (fun i => decide (i ∈ own))
      | _ => false)
    | .itEnum _ => false
    | .itZip _ _ => false
    | .itRng _ => false
/-! ### from a check -/
section
variable {X : Cx} {c : Cc} {F : Fe} {U : WX} {e e1 e2 e3 : Expr} {es : List Expr} {x a b d : Ex} {xs : List Ex} {pos : Pos}
theorem glC_ok (O : Ok c X F U) {n : Str} (h : glC c n = true) : Gl X n ∧ (n == ("__debug__" : Str)) = false := by
  simp only [glC, Bool.and_eq_true, decide_eq_true_eq, bne_iff_ne, ne_eq] at h
  refine ⟨?_, by simpa using h.2⟩
  show X.env.scope.names.lookup n = some .globalImplicit
  rw [O.sc]
  exact h.1
theorem visC_ok (O : Ok c X F U) {n : Str} (h : visC c n = true) : Vis X.env.scope n := by
  simp only [visC, Bool.or_eq_true, decide_eq_true_eq] at h
  unfold Vis
  rw [O.sc]
  exact h.elim (fun h => h.elim .inl fun h => .inr (.inl h)) fun h => .inr (.inr h)
theorem set_no {env : Env} (h : notSet e = true) : ∀ v, foldedSetIterable e env v = pure v := by
  intro v
  cases e <;> first | rfl | cases h
theorem px_tcmp (O : Ok c X F U) {o : COp} (h1 : PE X e1 (TX (zd X) F U a)) (h2 : PE X e2 (TX (zd X) F U b)) (hm : behindInMarks (opC o) e2 = false) : PT X (.Compare e1 [opC o] [e2] pos) (TXt (zd X) F U (.cmp o a b)) :=
  PT.of (pt_cmpR (cmp_rule X (by have := O.un; omega) o) h1 h2 hm) fun σ H Q h => by
    obtain ⟨G, ι, m, σw, S, E, hL, P⟩ := h
    have P : Post _ _ _ _ _ _ _ (((evE F a σw m).bind fun x m => (evE F b σw m).bind fun y m => lift ((cmpW o x y m).map wB) m).bind fun x m => lift (tru m x) m) Q _ := P
    rw [bind_bind] at P
    refine TX.step S E hL P fun v H1 G1 ι1 m1 w T1 S1 E1 L1 r1 P1 => ?_
    rw [bind_bind] at P1
    refine TX.step S1 E1 L1 P1 fun u H2 G2 ι2 m2 z T2 S2 E2 L2 r2 P2 => ?_
    cases q : cmpW o w z m2 with
    | none =>
      rw [q] at P2
      exact P2.elim
    | some k =>
      rw [q] at P2
      exact cmp_ok S2 (r1.mono T2.g) r2 q ⟨k, rfl, Post.here (P2 : Post _ _ _ _ _ _ _ (.ok k m2) Q _) S2 rfl⟩
theorem px_tchn (O : Ok c X F U) {o p : COp} (h1 : PE X e1 (TX (zd X) F U a)) (h2 : PE X e2 (TX (zd X) F U b)) (h3 : PE X e3 (TX (zd X) F U d)) (hm : lastMarks [opC o, opC p] [e2, e3] = false) :
    PT X (.Compare e1 [opC o, opC p] [e2, e3] pos) (TXt (zd X) F U (.chn o p a b d)) :=
  PT.of (pt_chain (cmp_rule X (by have := O.un; omega) o) (cmp_rule X (by have := O.un; omega) p) h1 h2 h3 hm) fun σ H Q h => by
    obtain ⟨G, ι, m, σw, S, E, hL, P⟩ := h
    have P : Post _ _ _ _ _ _ _ (((evE F a σw m).bind fun x m => (evE F b σw m).bind fun y m => (lift (cmpW o x y m) m).bind fun k m => match k with
      | true => (evE F d σw m).bind fun z m => lift ((cmpW p y z m).map wB) m
      | false => .ok (wB false) m).bind fun x m => lift (tru m x) m) Q _ := P
    rw [bind_bind] at P
    refine TX.step S E hL P fun v H1 G1 ι1 m1 w T1 S1 E1 L1 r1 P1 => ?_
    rw [bind_bind] at P1
    refine TX.step S1 E1 L1 P1 fun u H2 G2 ι2 m2 z T2 S2 E2 L2 r2 P2 => ?_
    cases q : cmpW o w z m2 with
    | none =>
      rw [q] at P2
      exact P2.elim
    | some k =>
      rw [q] at P2
      refine cmp_ok S2 (r1.mono T2.g) r2 q ⟨k, rfl, ?_⟩
      cases k with
      | false => exact ⟨false, rfl, Post.here (P2 : Post _ _ _ _ _ _ _ (.ok false m2) Q _) S2 rfl⟩
      | true =>
        have P2 : Post _ _ _ _ _ _ _ (((evE F d σw m2).bind fun z2 m => lift ((cmpW p z z2 m).map wB) m).bind fun x m => lift (tru m x) m) Q _ := P2
        rw [bind_bind] at P2
        refine TX.step S2 E2 L2 P2 fun y H3 G3 ι3 m3 q3 T3 S3 E3 L3 r3 P3 => ?_
        cases q2 : cmpW p z q3 m3 with
        | none =>
          rw [q2] at P3
          exact P3.elim
        | some k2 =>
          rw [q2] at P3
          exact cmp_ok S3 (r2.mono T3.g) r3 q2 ⟨k2, rfl, Post.here (P3 : Post _ _ _ _ _ _ _ (.ok k2 m3) Q _) S3 rfl⟩
theorem pw_bool {op : BoolOp} {t : TT} (h : PT X (.BoolOp op es pos) t) : PW X (.BoolOp op es pos) t := ⟨fun wh pins s σ H Q I q => h.run pins s σ H Q I q⟩
/-- both readings -/
def Bo (X : Cx) (F : Fe) (U : WX) (e : Expr) (x : Ex) : Prop := PE X e (TX (zd X) F U x) ∧ PT X e (TXt (zd X) F U x)
theorem Bo.tr (h1 : PE X e (TX (zd X) F U x)) (he : ∀ whole, isTrue e X.env whole = (do let v ← whole; standAt e.pos; holding [v] (truthy v))) : Bo X F U e x := ⟨h1, px_truth h1 he⟩
theorem chkEs_ok {chk : Expr → Ex → Bool} (k : ∀ e x, chk e x = true → Bo X F U e x) : ∀ {es : List Expr} {xs : List Ex}, chkEs chk es xs = true → PA X es (TXs (zd X) F U xs)
  | [], [], _ => pxs_nil
  | [], _ :: _, h => by cases h
  | _ :: _, [], h => by cases h
  | e :: es, x :: xs, h => by
    rw [chkEs, Bool.and_eq_true] at h
    obtain ⟨h1, h2⟩ := h
    have r := chkEs_ok k h2
    unfold chkE1 at h1
    split at h1
    · rename_i q
      simp only [Bool.and_eq_true, Bool.not_eq_true'] at q
      exact pxs_cons (k _ _ h1).1 r q.1 q.2
    · unfold chkSt at h1
      split at h1
      · split at h1
        · exact pxs_star (k _ _ h1).1 r
        · cases h1
      · cases h1
theorem chkEs_len {chk : Expr → Ex → Bool} : ∀ {es : List Expr} {xs : List Ex}, chkEs chk es xs = true → es.length = xs.length
  | [], [], _ => rfl
  | [], _ :: _, h => by cases h
  | _ :: _, [], h => by cases h
  | e :: es, x :: xs, h => by
    rw [chkEs, Bool.and_eq_true] at h
    rw [List.length_cons, List.length_cons, chkEs_len h.2]
theorem chkO_ok {chk : Expr → Ex → Bool} (k : ∀ e x, chk e x = true → Bo X F U e x) {e : Option Expr} {x : Option Ex} (h : chkO chk e x = true) : PO X e (TXo (zd X) F U x) := by
  cases e with
  | none => cases x with
    | none => exact pxo_none
    | some _ => cases h
  | some e => cases x with
    | none => cases h
    | some x => exact pxo_some (k _ _ h).1
theorem chkIfs_ok {chk : Expr → Ex → Bool} (k : ∀ e x, chk e x = true → Bo X F U e x) : ∀ {es : List Expr} {xs : List Ex}, chkIfs chk es xs = true → PTs X es (TXc (zd X) F U xs)
  | [], [], _ => pts_nilX
  | [e], [x], h => pts_oneX (k _ _ h).2
  | [], _ :: _, h => by cases h
  | [_], [], h => by cases h
  | _ :: _ :: _, [], h => by cases h
  | [_], _ :: _ :: _, h => by cases h
  | _ :: _ :: _, _ :: _, h => by cases h
theorem chkI_ok (O : Ok c X F U) {tg : Expr} {chk : Expr → Ex → Bool} (k : ∀ e x, chk e x = true → Bo X F U e x) (h : chkI chk c tg e x = true) : PI X tg e (TXi (zd X) F U x) := by
  unfold chkI at h
  split at h
  · split at h
    · simp only [Bool.and_eq_true, decide_eq_true_eq] at h
      obtain ⟨⟨⟨⟨⟨rfl, h2⟩, h3⟩, h4⟩, h5⟩, h6⟩ := h
      cases tg <;> first | (cases h6; done) | skip
      exact pxi_enum O h2 (glC_ok O h3).1 (k _ _ h5).1 h4
    · cases h
  · split at h
    · simp only [Bool.and_eq_true, decide_eq_true_eq] at h
      obtain ⟨⟨⟨⟨⟨⟨⟨rfl, h2⟩, h3⟩, h4⟩, h4'⟩, h5⟩, h5'⟩, h6⟩ := h
      cases tg <;> first | (cases h6; done) | skip
      exact pxi_zip O h2 (glC_ok O h3).1 (k _ _ h5).1 (k _ _ h5').1 h4 h4'
    · cases h
  · split at h
    · simp only [Bool.and_eq_true, decide_eq_true_eq] at h
      obtain ⟨⟨⟨⟨rfl, h2⟩, h3⟩, h4⟩, h5⟩ := h
      exact pxi_rng O h2 (glC_ok O h3).1 (k _ _ h5).1 h4
    · cases h
  · rw [Bool.and_eq_true] at h
    exact pxi_val (k _ _ h.2).1 h.1
end
theorem chkE_ok : ∀ (n : Nat) {X : Cx} {c : Cc} {F : Fe} {U : WX} {e : Expr} {x : Ex}, Ok c X F U → chkE n c e x = true → Bo X F U e x
  | 0, _, _, _, _, _, _, _, h => by cases h
  | n + 1, X, c, F, U, e, x, O, h => by
    have k : ∀ e x, chkE n c e x = true → Bo X F U e x := fun e x q => chkE_ok n O q
    cases x with
    | var i =>
      simp only [chkE] at h
      split at h
      · simp only [Bool.and_eq_true, decide_eq_true_eq] at h
        exact Bo.tr (px_var (by rw [O.hN]; exact h.1.1) (visC_ok O h.1.2) (nmOk_ok h.2).1 (nmOk_ok h.2).2) fun _ => rfl
      · cases h
    | con d =>
      simp only [chkE] at h
      split at h
      · exact Bo.tr (px_con (of_decide_eq_true h)) fun _ => rfl
      · cases h
    | glo t =>
      simp only [chkE] at h
      split at h
      · simp only [Bool.and_eq_true, decide_eq_true_eq] at h
        obtain ⟨rfl, h2⟩ := h
        exact Bo.tr (px_glo O (glC_ok O h2).1 (glC_ok O h2).2) fun _ => rfl
      · cases h
    | bin o a b =>
      simp only [chkE] at h
      split at h
      · simp only [Bool.and_eq_true, decide_eq_true_eq] at h
        obtain ⟨⟨rfl, h2⟩, h3⟩ := h
        exact Bo.tr (px_bin (k _ _ h2).1 (k _ _ h3).1) fun _ => rfl
      · cases h
    | neg a =>
      simp only [chkE] at h
      split at h
      · exact Bo.tr (px_neg (k _ _ h).1) fun _ => rfl
      · cases h
    | cmp o a b =>
      simp only [chkE] at h
      split at h
      · simp only [Bool.and_eq_true, decide_eq_true_eq, Bool.not_eq_true'] at h
        obtain ⟨⟨⟨rfl, h1⟩, h2⟩, h3⟩ := h
        exact ⟨px_cmp O (k _ _ h2).1 (k _ _ h3).1 h1, px_tcmp O (k _ _ h2).1 (k _ _ h3).1 h1⟩
      · cases h
    | chn o p a b d =>
      simp only [chkE] at h
      split at h
      · simp only [Bool.and_eq_true, decide_eq_true_eq, Bool.not_eq_true'] at h
        obtain ⟨⟨⟨⟨⟨rfl, rfl⟩, h1⟩, h2⟩, h3⟩, h4⟩ := h
        exact ⟨px_chn O (k _ _ h2).1 (k _ _ h3).1 (k _ _ h4).1 h1, px_tchn O (k _ _ h2).1 (k _ _ h3).1 (k _ _ h4).1 h1⟩
      · cases h
    | and a b =>
      simp only [chkE] at h
      split at h
      · rename_i e1 e2 rest pos
        rw [Bool.and_eq_true] at h
        obtain ⟨h1, h2⟩ := h
        have k1 := k _ _ h1
        cases rest with
        | nil =>
          have k2 := k _ _ h2
          exact ⟨px_and k1.1 (pe_one k2.1), (pw_tand k1.2 (pw_and1 k2.2)).pt⟩
        | cons e3 rest =>
          have k2 := k _ _ h2
          exact ⟨px_and k1.1 k2.1, (pw_tand k1.2 (pw_bool k2.2)).pt⟩
      · cases h
    | or a b =>
      simp only [chkE] at h
      split at h
      · rename_i e1 e2 rest pos
        rw [Bool.and_eq_true] at h
        obtain ⟨h1, h2⟩ := h
        have k1 := k _ _ h1
        cases rest with
        | nil =>
          have k2 := k _ _ h2
          exact ⟨px_or k1.1 (pe_one k2.1), (pw_tor k1.2 (pw_or1 k2.2)).pt⟩
        | cons e3 rest =>
          have k2 := k _ _ h2
          exact ⟨px_or k1.1 k2.1, (pw_tor k1.2 (pw_bool k2.2)).pt⟩
      · cases h
    | not a =>
      simp only [chkE] at h
      split at h
      · exact ⟨px_not (k _ _ h).1, px_tnot (k _ _ h).2⟩
      · cases h
    | ite a b d =>
      simp only [chkE] at h
      split at h
      · simp only [Bool.and_eq_true] at h
        obtain ⟨⟨h1, h2⟩, h3⟩ := h
        exact ⟨px_ite (k _ _ h1).2 (k _ _ h2).1 (k _ _ h3).1, px_tite (k _ _ h1).2 (k _ _ h2).2 (k _ _ h3).2⟩
      · cases h
    | star _ => simp only [chkE] at h; cases h
    | tup xs =>
      simp only [chkE] at h
      split at h
      · exact Bo.tr (px_tup (chkEs_ok k h)) fun _ => rfl
      · cases h
    | lst bx xs =>
      simp only [chkE] at h
      split at h
      · exact Bo.tr (px_lst (chkEs_ok k h)) fun _ => rfl
      · cases h
    | cpy bx a =>
      simp only [chkE] at h
      split at h
      · simp only [Bool.and_eq_true, decide_eq_true_eq] at h
        obtain ⟨⟨⟨⟨rfl, h2⟩, h3⟩, h4⟩, h5⟩ := h
        exact Bo.tr (px_cpy O h2 (glC_ok O h3).1 (k _ _ h5).1 h4) fun _ => rfl
      · cases h
    | dic0 =>
      simp only [chkE] at h
      split at h
      · exact Bo.tr px_dic0 fun _ => rfl
      · cases h
    | call f xs =>
      simp only [chkE] at h
      split at h
      · simp only [Bool.and_eq_true, decide_eq_true_eq, Bool.not_eq_true'] at h
        obtain ⟨⟨⟨⟨⟨rfl, h2⟩, h3⟩, h4⟩, h5⟩, h6⟩ := h
        exact Bo.tr (px_call O (fun e => by subst e; exact List.length_eq_zero_iff.mp (chkEs_len h6).symm) h2 h3 (glC_ok O h4).1 (glC_ok O h4).2 (chkEs_ok k h6) h5) fun _ => rfl
      · cases h
    | isi a ts =>
      simp only [chkE] at h
      split at h
      · split at h
        · simp only [Bool.and_eq_true, decide_eq_true_eq] at h
          obtain ⟨⟨⟨⟨⟨⟨⟨⟨rfl, h2⟩, h3⟩, rfl⟩, h5⟩, h6⟩, h7⟩, h8⟩, h9⟩ := h
          obtain ⟨m, hm⟩ := Option.isSome_iff_exists.mp h5
          exact Bo.tr (px_isi O hm h2 (glC_ok O h3).1 h6 (glC_ok O h7).1 (k _ _ h9).1 h8) fun _ => rfl
        · cases h
      · cases h
    | bi f xs =>
      simp only [chkE] at h
      split at h
      · simp only [Bool.and_eq_true, decide_eq_true_eq, Bool.or_eq_true, Bool.not_eq_true'] at h
        obtain ⟨⟨⟨⟨⟨rfl, h2⟩, h3⟩, h4⟩, h5⟩, h6⟩ := h
        exact Bo.tr (px_bi O (h2.imp id fun q => ⟨q.1.1.1, q.1.1.2, q.1.2, q.2⟩) h3 (glC_ok O h4).1 (chkEs_ok k h6) (by simpa using h5)) fun _ => rfl
      · cases h
    | met f o xs =>
      simp only [chkE] at h
      split at h
      · simp only [Bool.and_eq_true, decide_eq_true_eq] at h
        obtain ⟨⟨⟨⟨⟨⟨rfl, h2⟩, h3⟩, h4⟩, h5⟩, h6⟩, h7⟩ := h
        exact Bo.tr (px_met O (k _ _ h6).1 (chkEs_ok k h7) (by simpa using h4) h3 h2 (decide_eq_true h5)) fun _ => rfl
      · cases h
    | ix a b =>
      simp only [chkE] at h
      split at h
      · simp only [Bool.and_eq_true] at h
        exact Bo.tr (px_ix (k _ _ h.1.2).1 (k _ _ h.2).1 h.1.1) fun _ => rfl
      · cases h
    | sl a l u =>
      simp only [chkE] at h
      split at h
      · simp only [Bool.and_eq_true] at h
        exact Bo.tr (px_sl (k _ _ h.1.1).1 (chkO_ok k h.1.2) (chkO_ok k h.2)) fun _ => rfl
      · cases h
    | rev a =>
      simp only [chkE] at h
      split at h
      · exact Bo.tr (px_rev (k _ _ h).1) fun _ => rfl
      · cases h
    | lc bx own ts it cs y =>
      simp only [chkE] at h
      split at h
      · rename_i elt tg iter ifs scope pos
        simp only [Bool.and_eq_true, Bool.not_eq_true'] at h
        obtain ⟨⟨⟨⟨⟨⟨⟨h1, h2⟩, h3⟩, h4⟩, h5⟩, h6⟩, h7⟩, h8⟩ := h
        have hts : ∀ i ∈ ts, i ∈ (owC c own).map (·.2) := fun i hi => by
          rw [owC_snd]
          exact of_decide_eq_true (List.all_eq_true.mp h8 i hi)
        have P := px_lc (U := U) (bx := bx) (pos := pos) (ow := owC c own) O (O.calm h1) (chkI_ok O k h3) (by rw [O.hN, O.sc]; exact blkOk_by h4)
          (fun s H C cl fp => pg_tg (O.blk s H scope C cl fp) (O.calm h1) h5) (fun s H C cl fp => chkIfs_ok (fun e x q => chkE_ok n (O.blk s H scope C cl fp) q) h6) (fun s H C cl fp => (chkE_ok n (O.blk s H scope C cl fp) h7).1) (set_no h2) hts
        rw [owC_snd] at P
        exact Bo.tr P fun _ => rfl
      · cases h
    | itEnum _ => simp only [chkE] at h; cases h
    | itZip _ _ => simp only [chkE] at h; cases h
    | itRng _ => simp only [chkE] at h; cases h
end Mi
/-! Mi, part V: the text of a statement held against the language. -/
namespace Mi
open PySem PySem.Spec PyProof.Rows L2
/-! ### except suites -/
def chkXs (chk : Expr → Xe → Bool) : List Expr → List Xe → Bool
  | [], [] => true
  | e :: es, x :: xs => noSt e && chk e x && chkXs chk es xs
  | _, _ => false
def tstX : Xe → Bool
  | .ite _ _ _ => false
  | .and a b => tstX a && tstX b
  | .not a => tstX a
  | _ => true
def chkX : Nat → Cc → Str → Expr → Xe → Bool
  | 0, _, _, _, _ => false
  | n + 1, c, en, e, x => match x with
    | .fld f => (match e with
      | .Attribute (.Name m _) g _ => decide (m = en) && decide (g = f)
      | _ => false)
    | .rep a => (match e with
      | .Call (.Name f _) [e1] [] _ => decide (f = ("repr" : Str)) && decide (("repr" : Str) ∈ c.bl) && glC c "repr" && noSt e1 && chkX n c en e1 a
      | _ => false)
    | .isx t => (match e with
      | .Call (.Name f _) [.Name m _, .Name g _] [] _ => decide (f = ("isinstance" : Str)) && decide (("isinstance" : Str) ∈ c.bl) && glC c "isinstance" && decide (m = en) && decide (g = t) && glC c t
      | _ => false)
    | .con d => (match e with
      | .Constant k _ _ => decide (constOf d = some k)
      | _ => false)
    | .lst xs => (match e with
      | .List es _ => chkXs (chkX n c en) es xs
      | _ => false)
    | .var i => (match e with
      | .Name s _ => decide (c.N[i]? = some s) && visC c s && nmOk s
      | _ => false)
    | .ite a b d => (match e with
      | .IfExp e1 e2 e3 _ => chkX n c en e1 a && tstX a && chkX n c en e2 b && chkX n c en e3 d
      | _ => false)
    | .and a b => (match e with
      | .BoolOp .And [e1, e2] _ => chkX n c en e1 a && chkX n c en e2 b
      | _ => false)
    | .not a => (match e with
      | .UnaryOp .Not e1 _ => chkX n c en e1 a
      | _ => false)
def chkH1 (n : Nat) (c : Cc) (en : Str) (k : Nat) (s : Stmt) (i : Nat) (x : Xe) : Bool := match s with
  | .Assign [.Name m _] e _ => decide (c.N[i]? = some m) && locC c m && decide (i ≠ k) && notComp e && chkX n c en e x
  | _ => false
def chkH (n : Nat) (c : Cc) (en : Str) (k : Nat) : List Stmt → List (Nat × Xe) → Bool
  | [], [] => true
  | s :: sts, p :: h => chkH1 n c en k s p.1 p.2 && chkH n c en k sts h
  | _, _ => false
section
variable {X : Cx} {c : Cc} {F : Fe} {U : WX} {e e1 e2 e3 : Expr} {es : List Expr} {pos : Pos} {a dd : Addr} {cls : Value} {oe : Obj} {pn : List (Addr × Obj)} {k : Nat} {en : Str} {x y z : Xe} {xs : List Xe}
def Bh (X : Cx) (F : Fe) (k : Nat) (a dd : Addr) (cls : Value) (oe : Obj) (pn : List (Addr × Obj)) (e : Expr) (x : Xe) : Prop := PH X F k a dd cls oe pn e x ∧ (tstX x = true → PHt X F k a dd cls oe pn e x)
theorem Bh.tr (h1 : PH X F k a dd cls oe pn e x) (he : ∀ whole, isTrue e X.env whole = (do let v ← whole; standAt e.pos; holding [v] (truthy v))) : Bh X F k a dd cls oe pn e x := ⟨h1, fun _ => ph_truth h1 he⟩
theorem chkXs_ok {chk : Expr → Xe → Bool} (kk : ∀ e x, chk e x = true → Bh X F k a dd cls oe pn e x) : ∀ {es : List Expr} {xs : List Xe}, chkXs chk es xs = true → PA (X.suite a ((a, oe) :: pn)) es (THs (zd X) F k a cls dd xs)
  | [], [], _ => ph_nil
  | [], _ :: _, h => by cases h
  | _ :: _, [], h => by cases h
  | e :: es, x :: xs, h => by
    simp only [chkXs, Bool.and_eq_true] at h
    exact ph_cons (kk _ _ h.1.2).1 (chkXs_ok kk h.2) h.1.1
theorem chkX_ok (O : Ok c X F U) (hz : Zc cls (some dd) oe) (hf : ∃ vs, oe.data = .fields vs) (hk : X.N[k]? = some en) (hv : Vis X.env.scope en) (hn : nmOk en = true) : ∀ (n : Nat) {e : Expr} {x : Xe}, chkX n c en e x = true → Bh X F k a dd cls oe pn e x
  | 0, _, _, h => by cases h
  | n + 1, e, x, h => by
    have kk : ∀ e x, chkX n c en e x = true → Bh X F k a dd cls oe pn e x := fun e x q => chkX_ok O hz hf hk hv hn n q
    cases x with
    | fld f =>
      simp only [chkX] at h
      split at h
      · simp only [Bool.and_eq_true, decide_eq_true_eq] at h
        obtain ⟨rfl, rfl⟩ := h
        exact Bh.tr (ph_fld O hz hf hk hv hn) fun _ => rfl
      · cases h
    | rep y =>
      simp only [chkX] at h
      split at h
      · simp only [Bool.and_eq_true, decide_eq_true_eq] at h
        obtain ⟨⟨⟨⟨rfl, h2⟩, h3⟩, h4⟩, h5⟩ := h
        exact Bh.tr (ph_rep O h2 (glC_ok O h3).1 h4 (kk _ _ h5).1) fun _ => rfl
      · cases h
    | isx t =>
      simp only [chkX] at h
      split at h
      · simp only [Bool.and_eq_true, decide_eq_true_eq] at h
        obtain ⟨⟨⟨⟨⟨rfl, h2⟩, h3⟩, rfl⟩, rfl⟩, h6⟩ := h
        exact Bh.tr (ph_isx O hz hf hk hv hn h2 (glC_ok O h3).1 (glC_ok O h6).1 (glC_ok O h6).2) fun _ => rfl
      · cases h
    | con d =>
      simp only [chkX] at h
      split at h
      · exact Bh.tr (ph_con (of_decide_eq_true h)) fun _ => rfl
      · cases h
    | lst xs =>
      simp only [chkX] at h
      split at h
      · exact Bh.tr (ph_lst (chkXs_ok kk h)) fun _ => rfl
      · cases h
    | var i =>
      simp only [chkX] at h
      split at h
      · simp only [Bool.and_eq_true, decide_eq_true_eq] at h
        exact Bh.tr (ph_var (by rw [O.hN]; exact h.1.1) (visC_ok O h.1.2) h.2) fun _ => rfl
      · cases h
    | ite p q r =>
      simp only [chkX] at h
      split at h
      · simp only [Bool.and_eq_true] at h
        obtain ⟨⟨⟨h1, h2⟩, h3⟩, h4⟩ := h
        exact ⟨ph_ite ((kk _ _ h1).2 h2) (kk _ _ h3).1 (kk _ _ h4).1, fun z => by cases z⟩
      · cases h
    | and p q =>
      simp only [chkX] at h
      split at h
      · rw [Bool.and_eq_true] at h
        refine ⟨ph_and (kk _ _ h.1).1 (kk _ _ h.2).1, fun z => ?_⟩
        rw [tstX, Bool.and_eq_true] at z
        exact ph_tand ((kk _ _ h.1).2 z.1) ((kk _ _ h.2).2 z.2)
      · cases h
    | not p =>
      simp only [chkX] at h
      split at h
      · exact ⟨ph_not (kk _ _ h).1, fun z => ph_tnot ((kk _ _ h).2 z)⟩
      · cases h
theorem chkH_ok (O : Ok c X F U) (hz : Zc cls (some dd) oe) (hf : ∃ vs, oe.data = .fields vs) (hk : X.N[k]? = some en) (hv : Vis X.env.scope en) (hn : nmOk en = true) {n : Nat} : ∀ {sts : List Stmt} {h : List (Nat × Xe)}, chkH n c en k sts h = true → PSs (X.suite a ((a, oe) :: pn)) sts (THss (zd X) F k a cls dd h)
  | [], [], _ => phs_nil
  | [], _ :: _, h => by cases h
  | _ :: _, [], h => by cases h
  | s :: sts, (i, x) :: hh, h => by
    rw [chkH, Bool.and_eq_true] at h
    obtain ⟨h1, h2⟩ := h
    unfold chkH1 at h1
    split at h1
    · simp only [Bool.and_eq_true, decide_eq_true_eq] at h1
      obtain ⟨⟨⟨⟨g1, g2⟩, g3⟩, g4⟩, g5⟩ := h1
      exact phs_cons O g1 g2 g3 (chkX_ok O hz hf hk hv hn n g5).1 g4 (chkH_ok O hz hf hk hv hn h2)
    · cases h1
end
/-! ### statements -/
def chkT1 (chk : Expr → Ex → Bool) (c : Cc) (e : Expr) (t : Tg) : Bool := match t with
  | .nm i => (match e with
    | .Name n _ => decide (c.N[i]? = some n) && locC c n
    | _ => false)
  | .ix a b => (match e with
    | .Subscript e1 e2 _ => noSl e2 && chk e1 a && chk e2 b
    | _ => false)
def chkTs (chk : Expr → Ex → Bool) (c : Cc) : List Expr → List Tg → Bool
  | [], [] => true
  | e :: es, t :: ts => chkT1 chk c e t && chkTs chk c es ts
  | _, _ => false
def chkC1 (chk : Expr → Ex → Bool) (chkB : List Stmt → List Mi.St → Bool) (c : Cc) (q : MatchCase) (t : Mi.St) (r : Bool) : Bool := match t with
  | .cas none none b => (match q with
    | ⟨.MatchAs none none _, none, body⟩ => chkB body b
    | _ => false)
  | .cas (some is) g b => (match q with
    | ⟨.MatchSequence ps _, g', body⟩ => chkP c ps is && !ps.isEmpty && chkO chk g' g && chkB body b && r
    | _ => false)
  | _ => false
def chkCs (chk : Expr → Ex → Bool) (chkB : List Stmt → List Mi.St → Bool) (c : Cc) : List MatchCase → List Mi.St → Bool
  | [], [] => true
  | q :: cs, t :: ts => chkC1 chk chkB c q t (chkCs chk chkB c cs ts)
  | _, _ => false
def chkSs (chk : Stmt → Mi.St → Bool) : List Stmt → List Mi.St → Bool
  | [], [] => true
  | s :: ss, t :: ts => chk s t && chkSs chk ss ts
  | _, _ => false
def chkS : Nat → Cc → Stmt → Mi.St → Bool
  | 0, _, _, _ => false
  | n + 1, c, s, t => match t with
    | .ex x => (match s with
      | .Expr e _ => notComp e && chkE n c e x
      | _ => false)
    | .ret x => (match s with
      | .Return (some e) _ => chkE n c e x
      | _ => false)
    | .retN => (match s with
      | .Return none _ => true
      | _ => false)
    | .asg (.nm i) x => (match s with
      | .Assign [.Name m p] e pos => decide (c.N[i]? = some m) && locC c m && (match e with
        | .ListComp elt gs scope lp => (match swB c.sc scope lp p m with
          | false => chkE n c e x
          | true => decide (c.sc.names.lookup m = some .local) && (match n with
            | 0 => false
            | n' + 1 => (match x with
              | .lc _ own ts it cs y => (match gs with
                | [⟨tg, iter, ifs, 0⟩] => !c.hot && notSet iter && chkI (chkE n' c) c tg iter it && blkC c.N c.sc scope (owC c own) && chkTg (c.blk scope) ts tg && chkIfs (chkE n' (c.blk scope)) ifs cs && chkE n' (c.blk scope) elt y && ts.all (fun i => decide (i ∈ own))
                | _ => false)
              | _ => false)))
        | e => notComp e && chkE n c e x)
      | _ => false)
    | .asg (.ix a b) x => (match s with
      | .Assign [.Subscript e1 e2 _] e _ => noSl e2 && chkE n c e1 a && chkE n c e2 b && notComp e && chkE n c e x
      | _ => false)
    | .unp ts x => (match s with
      | .Assign [.Tuple es _ _] e _ => chkTs (chkE n c) c es ts && chkE n c e x && notComp e && (match e with
        | .Tuple vs _ _ => decide (swN c.sc es vs = some none)
        | _ => true)
      | _ => false)
    | .par is xs => (match s with
      | .Assign [.Tuple es _ _] (.Tuple vs _ _) _ => (match es, is with
        | [.Name n1 _, .Name n2 _], [i, j] => decide (c.N[i]? = some n1) && decide (c.N[j]? = some n2) && decide (i ≠ j) && decide (c.sc.names.lookup n1 = some .local) && decide (c.sc.names.lookup n2 = some .local) && decide (vs.length = 2) && chkEs (chkE n c) vs xs && decide (swN c.sc es vs = some (some [n1, n2]))
        | [.Name n1 _, .Name n2 _, .Name n3 _], [i, j, l] => decide (c.N[i]? = some n1) && decide (c.N[j]? = some n2) && decide (c.N[l]? = some n3) && decide (i ≠ j) && decide (i ≠ l) && decide (j ≠ l) && decide (c.sc.names.lookup n1 = some .local) && decide (c.sc.names.lookup n2 = some .local) && decide (c.sc.names.lookup n3 = some .local) && decide (vs.length = 3) && chkEs (chkE n c) vs xs && decide (swN c.sc es vs = some (some [n1, n2, n3]))
        | _, _ => false)
      | _ => false)
    | .star i j x => (match s with
      | .Assign [.Tuple [.Name n1 _, .Starred (.Name n2 _) _] _ _] e _ => decide (c.N[i]? = some n1) && decide (c.N[j]? = some n2) && locC c n1 && locC c n2 && notComp e && !isTupE e && chkE n c e x
      | _ => false)
    | .ifs x a b => (match s with
      | .If e s1 s2 _ => chkE n c e x && chkSs (chkS n c) s1 a && chkSs (chkS n c) s2 b
      | _ => false)
    | .fors ts it b => (match s with
      | .For tg e body [] _ => chkTg c ts tg && chkI (chkE n c) c tg e it && notSet e && chkSs (chkS n c) body b
      | _ => false)
    | .raise cn xs => (match s with
      | .Raise (some (.Call (.Name m _) (e :: es) [] _)) none _ => decide (m = cn) && decide (cn ∈ c.ecl) && glC c cn && (e :: es).all noSt && chkEs (chkE n c) (e :: es) xs
      | _ => false)
    | .tryx b cn k h => (match s with
      | .Try body [.ExceptHandler (some (.Name m _)) (some en) (b0 :: sts) _] [] [] _ => decide (m = cn) && decide (cn ∈ c.ecl) && glC c cn && decide (c.N[k]? = some en) && decide (c.sc.names.lookup en = some .local) && nmOk en && chkSs (chkS n c) body b && chkH n c en k (b0 :: sts) h
      | _ => false)
    | .mat x cs => (match s with
      | .Match e cs' _ => chkE n c e x && chkCs (chkE n c) (chkSs (chkS n c)) c cs' cs
      | _ => false)
    | .cas _ _ _ => false
    | .pass => (match s with
      | .Pass _ => true
      | _ => false)
structure OkS (c : Cc) (X : Cx) (F : Fe) (U : WX) : Prop where
  o : Ok c X F U
  hp : PassesOwn (model X.prog X.w) X.A X.env X.xe
  hs : X.stack = X.env :: X.outer
  hf : X.env.frame = some X.env.locals
  cold : c.hot = false
  kind : X.env.scope.kind = .function
  ecl : ∀ n ∈ c.ecl, ∃ fs, F.fld n = some fs
theorem Ok.tr {c : Cc} {X : Cx} {F : Fe} {U W : WX} (O : Ok c X F U) {pn : List (Addr × Obj)} {xe : Value → Shared → Prop} (tk : Takes (X.tr pn xe) W) : Ok c (X.tr pn xe) F W := by
  refine ⟨O.hN, O.nd, O.sc, tk, O.calm, O.gd, O.un, O.sys, O.con, O.bl, fun h f n q => ?_, fun h f fs q => ?_, O.sub, O.ecl, O.exf, O.isx, O.st⟩
  · obtain ⟨fa, fd, ps, k, q⟩ := (O.call h f n q).ex
    exact ⟨fa, fd, ps, k, q⟩
  · have w := O.exc h f fs q
    exact ⟨w.nd, w.few, w.ex⟩
theorem OkS.tr {c : Cc} {X : Cx} {F : Fe} {U W : WX} (O : OkS c X F U) {pn : List (Addr × Obj)} {xe : Value → Shared → Prop} (tk : Takes (X.tr pn xe) W) (hp : PassesOwn (model X.prog X.w) X.A X.env xe) : OkS c (X.tr pn xe) F W :=
  ⟨O.o.tr tk, hp, O.hs, O.hf, O.cold, O.kind, O.ecl⟩
section
variable {X : Cx} {c : Cc} {F : Fe} {U : WX} {e e1 e2 e3 : Expr} {es : List Expr} {x a b d : Ex} {xs : List Ex} {pos : Pos}
theorem assignEach_len : ∀ (es : List Expr) (env : Env), (assignEach es env).length = es.length
  | [], _ => rfl
  | e :: es, env => by cases e <;> exact congrArg (· + 1) (assignEach_len es env)
theorem sole_no {e t : Expr} {l : Nat} {env : Env} (h : notComp e = true) : swapsWithSole [t] e l env = pure false := by
  unfold swapsWithSole
  exact swaps_no h
theorem sw_ntup {e : Expr} {ts : List Expr} {env : Env} {k : Nat} {p : Pos} (h : isTupE e = false) : swappedStores [.Tuple ts k p] e env = pure none := by
  cases e <;> first | rfl | cases h
theorem chkTs_ok (O : Ok c X F U) {chk : Expr → Ex → Bool} (k : ∀ e x, chk e x = true → Bo X F U e x) : ∀ {es : List Expr} {ts : List Tg}, chkTs chk c es ts = true → PGs X es (TGts (zd X) F U ts) ∧ es.length = ts.length ∧ (assignEach es X.env).findIdx? (·.1) = none
  | [], [], _ => ⟨pgts_nil, rfl, rfl⟩
  | [], _ :: _, h => by cases h
  | _ :: _, [], h => by cases h
  | e :: es, t :: ts, h => by
    rw [chkTs, Bool.and_eq_true] at h
    obtain ⟨h1, h2⟩ := h
    obtain ⟨r1, r2, r3⟩ := chkTs_ok O k h2
    cases t with
    | nm i =>
      simp only [chkT1] at h1
      split at h1
      · simp only [Bool.and_eq_true, decide_eq_true_eq] at h1
        refine ⟨pgts_cons (pgt_nm O h1.1 h1.2) r1 rfl, congrArg (· + 1) r2, ?_⟩
        show List.findIdx? _ ((false, _) :: assignEach es X.env) = none
        rw [List.findIdx?_cons, r3]
        rfl
      · cases h1
    | ix p q =>
      simp only [chkT1] at h1
      split at h1
      · simp only [Bool.and_eq_true] at h1
        refine ⟨pgts_cons (pgt_ix (k _ _ h1.1.2).1 (k _ _ h1.2).1 h1.1.1) r1 rfl, congrArg (· + 1) r2, ?_⟩
        show List.findIdx? _ ((false, _) :: assignEach es X.env) = none
        rw [List.findIdx?_cons, r3]
        rfl
      · cases h1
theorem chkSs_ok {chk : Stmt → Mi.St → Bool} (k : ∀ s t, chk s t = true → PS X s (TSx (zd X) F U t)) : ∀ {ss : List Stmt} {ts : List Mi.St}, chkSs chk ss ts = true → PSs X ss (TSs (zd X) F U ts)
  | [], [], _ => pss_nilX
  | [], _ :: _, h => by cases h
  | _ :: _, [], h => by cases h
  | s :: ss, t :: ts, h => by
    rw [chkSs, Bool.and_eq_true] at h
    exact pss_consX (k _ _ h.1) (chkSs_ok k h.2)
theorem chkO_gd {chk : Expr → Ex → Bool} (k : ∀ e x, chk e x = true → Bo X F U e x) {g' : Option Expr} {g : Option Ex} (h : chkO chk g' g = true) : PGd X F U g' g := by
  unfold chkO at h
  split at h
  · trivial
  · exact (k _ _ h).2
  · cases h
theorem chkCs_ok (O : Ok c X F U) (hc : X.calm = true) {chk : Expr → Ex → Bool} {chkB : List Stmt → List Mi.St → Bool} (k : ∀ e x, chk e x = true → Bo X F U e x) (kb : ∀ ss ts, chkB ss ts = true → PSs X ss (TSs (zd X) F U ts)) :
    ∀ {cs : List MatchCase} {ts : List Mi.St}, chkCs chk chkB c cs ts = true → PM X cs (TMt (zd X) F U ts)
  | [], [], _ => pm_nil
  | [], _ :: _, h => by cases h
  | _ :: _, [], h => by cases h
  | q :: cs, t :: ts, h => by
    rw [chkCs] at h
    unfold chkC1 at h
    split at h
    · split at h
      · exact pm_any (kb _ _ h)
      · cases h
    · split at h
      · simp only [Bool.and_eq_true, Bool.not_eq_true'] at h
        obtain ⟨⟨⟨⟨h1, h2⟩, h3⟩, h4⟩, h5⟩ := h
        exact pm_seq O hc h1 (fun e => by rw [e] at h2; cases h2) (chkO_gd k h3) (kb _ _ h4) (chkCs_ok O hc k kb h5)
      · cases h
    · cases h
theorem chkLc_ok (O : Ok c X F U) {i n : Nat} {m : Str} {p lp : Pos} {elt tg iter : Expr} {ifs : List Expr} {scope : Scope} {bx : Bool} {own ts : List Nat} {it y : Ex} {cs : List Ex} (hk : X.env.scope.kind = .function)
    (hi : c.N[i]? = some m) (hl : c.sc.names.lookup m = some .local) (hsw : swB c.sc scope lp p m = true)
    (h : (!c.hot && notSet iter && chkI (chkE n c) c tg iter it && blkC c.N c.sc scope (owC c own) && chkTg (c.blk scope) ts tg && chkIfs (chkE n (c.blk scope)) ifs cs && chkE n (c.blk scope) elt y && ts.all (fun i => decide (i ∈ own))) = true) :
    PS X (.Assign [.Name m p] (.ListComp elt [⟨tg, iter, ifs, 0⟩] scope lp) pos) (TSx (zd X) F U (.asg (.nm i) (.lc bx own ts it cs y))) := by
  simp only [Bool.and_eq_true, Bool.not_eq_true'] at h
  obtain ⟨⟨⟨⟨⟨⟨⟨h1, h2⟩, h3⟩, h4⟩, h5⟩, h6⟩, h7⟩, h8⟩ := h
  have hts : ∀ i ∈ ts, i ∈ (owC c own).map (·.2) := fun i hi => by
    rw [owC_snd]
    exact of_decide_eq_true (List.all_eq_true.mp h8 i hi)
  have P := psx_setLc (U := U) (bx := bx) (pos := pos) (ow := owC c own) (n := m) (p := p) (lp := lp) O hi (by rw [O.sc]; exact hl) (by rw [swaps_lc hk, O.sc, hsw]) (O.calm h1) (chkI_ok O (fun e x q => chkE_ok n O q) h3) (by rw [O.hN, O.sc]; exact blkOk_by h4)
    (fun s H C cl fp => pg_tg (O.blk s H scope C cl fp) (O.calm h1) h5) (fun s H C cl fp => chkIfs_ok (fun e x q => chkE_ok n (O.blk s H scope C cl fp) q) h6) (fun s H C cl fp => (chkE_ok n (O.blk s H scope C cl fp) h7).1) (set_no h2) hts
  rw [owC_snd] at P
  exact P
end
theorem chkS_ok : ∀ (n : Nat) {X : Cx} {c : Cc} {F : Fe} {U : WX} {s : Stmt} {t : Mi.St}, OkS c X F U → chkS n c s t = true → PS X s (TSx (zd X) F U t)
  | 0, _, _, _, _, _, _, _, h => by cases h
  | n + 1, X, c, F, U, s, t, OS, h => by
    have O := OS.o
    have ca := O.calm OS.cold
    have k : ∀ e x, chkE n c e x = true → Bo X F U e x := fun e x q => chkE_ok n O q
    have kb : ∀ ss ts, chkSs (chkS n c) ss ts = true → PSs X ss (TSs (zd X) F U ts) := fun ss ts q => chkSs_ok (fun s t q => chkS_ok n OS q) q
    cases t with
    | ex x =>
      simp only [chkS] at h
      split at h
      · rw [Bool.and_eq_true] at h
        exact psx_ex (k _ _ h.2).1 h.1
      · cases h
    | ret x =>
      simp only [chkS] at h
      split at h
      · exact psx_ret (k _ _ h).1
      · cases h
    | retN =>
      simp only [chkS] at h
      split at h
      · exact psx_retN
      · cases h
    | asg t x =>
      cases t with
      | nm i =>
        simp only [chkS] at h
        split at h
        · rename_i m p e pos
          simp only [Bool.and_eq_true, decide_eq_true_eq] at h
          obtain ⟨⟨h1, h2⟩, h3⟩ := h
          split at h3
          · rename_i elt gs scope lp
            split at h3
            · rename_i hsw
              exact psx_set O h1 h2 (k _ _ h3).1 (by rw [swaps_lc OS.kind, O.sc, hsw])
            · rename_i hsw
              rw [Bool.and_eq_true, decide_eq_true_eq] at h3
              obtain ⟨h3, h4⟩ := h3
              split at h4
              · cases h4
              · split at h4
                · split at h4
                  · exact chkLc_ok O OS.kind h1 h3 hsw h4
                  · cases h4
                · cases h4
          · rw [Bool.and_eq_true] at h3
            exact psx_set O h1 h2 (k _ _ h3.2).1 (swaps_no h3.1)
        · cases h
      | ix a b =>
        simp only [chkS] at h
        split at h
        · simp only [Bool.and_eq_true] at h
          obtain ⟨⟨⟨⟨h1, h2⟩, h3⟩, h4⟩, h5⟩ := h
          exact psx_asg (k _ _ h5).1 (pgt_ix (k _ _ h2).1 (k _ _ h3).1 h1) (sole_no h4) rfl rfl
        · cases h
    | unp ts x =>
      simp only [chkS] at h
      split at h
      · rename_i es kk p e pos
        simp only [Bool.and_eq_true] at h
        obtain ⟨⟨⟨h1, h2⟩, h3⟩, h4⟩ := h
        obtain ⟨r1, r2, r3⟩ := chkTs_ok O k h1
        refine psx_unp ca (k _ _ h2).1 r1 (by rw [assignEach_len, r2]) r3 (sole_no h3) ?_
        split at h4
        · have q := of_decide_eq_true h4
          exact swN_ok OS.kind (by rw [O.sc]; exact q)
        · rename_i hne
          cases e <;> first | rfl | exact absurd rfl (hne _ _ _)
      · cases h
    | par is xs =>
      simp only [chkS] at h
      split at h
      · rename_i es kk p vs k2 p2 pos
        split at h
        · rename_i n1 q1 n2 q2 i j
          simp only [Bool.and_eq_true, decide_eq_true_eq] at h
          obtain ⟨⟨⟨⟨⟨⟨⟨h1, h2⟩, h3⟩, h4⟩, h5⟩, h6⟩, h7⟩, h8⟩ := h
          match vs, h6, h7, h8 with
          | [v1, v2], _, h7, h8 => exact psx_par2 O ca h1 h2 h3 (by rw [O.sc]; exact h4) (by rw [O.sc]; exact h5) (chkEs_ok k h7) (swN_ok OS.kind (by rw [O.sc]; exact h8))
        · rename_i n1 q1 n2 q2 n3 q3 i j l
          simp only [Bool.and_eq_true, decide_eq_true_eq] at h
          obtain ⟨⟨⟨⟨⟨⟨⟨⟨⟨⟨⟨h1, h2⟩, h3⟩, h4⟩, h5⟩, h6⟩, h7⟩, h8⟩, h9⟩, h10⟩, h11⟩, h12⟩ := h
          match vs, h10, h11, h12 with
          | [v1, v2, v3], _, h11, h12 => exact psx_par3 O ca h1 h2 h3 h4 h5 h6 (by rw [O.sc]; exact h7) (by rw [O.sc]; exact h8) (by rw [O.sc]; exact h9) (chkEs_ok k h11) (swN_ok OS.kind (by rw [O.sc]; exact h12))
        · cases h
      · cases h
    | star i j x =>
      simp only [chkS] at h
      split at h
      · simp only [Bool.and_eq_true, decide_eq_true_eq, Bool.not_eq_true'] at h
        obtain ⟨⟨⟨⟨⟨⟨h1, h2⟩, h3⟩, h4⟩, h5⟩, h6⟩, h7⟩ := h
        refine psx_star O ca h1 h2 h3 h4 (k _ _ h7).1 (sole_no h5) (sw_ntup h6)
      · cases h
    | ifs x a b =>
      simp only [chkS] at h
      split at h
      · simp only [Bool.and_eq_true] at h
        exact psx_if (k _ _ h.1.1).2 (kb _ _ h.1.2) (kb _ _ h.2)
      · cases h
    | fors ts it b =>
      simp only [chkS] at h
      split at h
      · simp only [Bool.and_eq_true] at h
        obtain ⟨⟨⟨h1, h2⟩, h3⟩, h4⟩ := h
        exact psx_for OS.hp ca (chkI_ok O k h2) (pg_tg O ca h1) (kb _ _ h4) (set_no h3)
      · cases h
    | raise cn xs =>
      simp only [chkS] at h
      split at h
      · simp only [Bool.and_eq_true, decide_eq_true_eq] at h
        obtain ⟨⟨⟨⟨rfl, h2⟩, h3⟩, h4⟩, h5⟩ := h
        obtain ⟨fs, hfs⟩ := OS.ecl _ h2
        exact psx_raise O OS.cold hfs (glC_ok O h3).1 (glC_ok O h3).2 (chkEs_ok k h5) (by simpa using h4)
      · cases h
    | tryx b cn kk hh =>
      simp only [chkS] at h
      split at h
      · rename_i body m np en b0 sts pos' pos
        simp only [Bool.and_eq_true, decide_eq_true_eq] at h
        obtain ⟨⟨⟨⟨⟨⟨⟨rfl, h2⟩, h3⟩, h4⟩, h5⟩, h6⟩, h7⟩, h8⟩ := h
        have hN : X.N[kk]? = some en := by rw [O.hN]; exact h4
        have hl : X.env.kindOf en = some .local := by
          show X.env.scope.names.lookup en = _
          rw [O.sc]
          exact h5
        exact psx_try O OS.hs OS.hf hN hl (glC_ok O h3).1 (glC_ok O h3).2 h2
          (fun W pn xe tk hp => chkSs_ok (fun s t q => chkS_ok n (OS.tr tk hp) q) h7)
          (fun a dd oe cls pn hz hf => chkH_ok O hz hf hN (.inl hl) h6 h8)
      · cases h
    | mat x cs =>
      simp only [chkS] at h
      split at h
      · rw [Bool.and_eq_true] at h
        exact psx_mat (k _ _ h.1).1 (chkCs_ok O ca k kb h.2)
      · cases h
    | cas _ _ _ => simp only [chkS] at h; cases h
    | pass =>
      simp only [chkS] at h
      split at h
      · exact psx_pass
      · cases h
end Mi
/-! Mi, part W: calls; what a def makes is frozen when it is left. -/
namespace Mi
open PySem PySem.Spec PyProof.Rows L2
/-! ### the meaning of a call -/
def trav {α β : Type} (f : α → Option β) : List α → Option (List β)
  | [] => some []
  | a :: r => (f a).bind fun b => (trav f r).map fun bs => b :: bs
/-- the value as it is when the store's lists from n on are frozen -/
def frz (n : Nat) (m : Sto) : Nat → W → Option W
  | 0, _ => none
  | k + 1, w => match w with
    | .dat d => some (.dat d)
    | .tup ws => (trav (frz n m k) ws).map .tup
    | .lst ws => (trav (frz n m k) ws).map mkL
    | .ref i => if i < n then some (.ref i) else (cellL m i).bind fun ws => (trav (frz n m k) ws).map mkL
    | .glo x => some (.glo x)
    | .scr ns => some (.scr ns)
    | _ => none
def frzF (n : Nat) (m : Sto) (fs : List (Str × W)) : Option (List (Str × W)) := trav (fun q => (frz n m 40 q.2).map fun w => (q.1, w)) fs
def cutR (pure : Bool) (n : Nat) (w : W) (m : Sto) : Res W := match pure with
  | true => (match frz n m 40 w with
    | some w' => .ok w' (m.take n)
    | none => .no)
  | false => .ok w m
def fin (pure : Bool) (n : Nat) : SR → Res W
  | .nx _ m => cutR pure n wN m
  | .rt w m => cutR pure n w m
  | .xc _ c fs m => (match pure with
    | true => (match frzF n m fs with
      | some fs' => .exc c fs' (m.take n)
      | none => .no)
    | false => .exc c fs m)
  | .no => .no
structure Df where
  n : Nat
  loc : Nat
  pure : Bool
  body : List Mi.St
noncomputable def bodyN (F : Fe) (d : Df) (ws : List W) (m : Sto) : Res W := match decide (ws.length = d.n) with
  | true => fin d.pure m.length (evSs F d.body (ws.map some ++ List.replicate (d.loc - d.n) none) m)
  | false => .no
/-- the defs P over what the module holds, to a depth -/
noncomputable def callN (P : Str → Option Df) (B : Fe) : Nat → Str → List W → M W
  | 0, _, _, _ => .no
  | k + 1, f, ws, m => match P f with
    | none => .no
    | some d => bodyN { B with call := callN P B k, L := m.length } d ws m
/-! ### freezing -/
def cutG (G : Hp) (ι : List Addr) (n : Nat) (H : Hp) : Hp := fun a => if a ∈ ι.drop n then H a else G a
section
variable {Z : Wd} {G : Hp} {ι : List Addr} {m : Sto} {H : Hp} {n : Nat}
theorem cut_same (S : RS Z G ι m H) : Same G (cutG G ι n H) := fun a o e => by
  unfold cutG
  rw [if_neg fun h => ?_]
  · exact e
  · rw [S.off a (List.mem_of_mem_drop h)] at e
    cases e
theorem cut_sub (S : RS Z G ι m H) : Same (cutG G ι n H) H := fun a o e => by
  unfold cutG at e
  split at e
  · exact e
  · exact S.sub _ _ e
theorem trav_rw {f : W → Option W} {G' : Hp} {ι' : List Addr} (k : ∀ v w w', RW Z G ι v w → f w = some w' → RW Z G' ι' v w') : ∀ {vs : List V} {ws ws' : List W}, RWs Z G ι vs ws → trav f ws = some ws' → RWs Z G' ι' vs ws'
  | _, [], _, .nil, e => by cases e; exact .nil
  | _, w :: ws, ws', .cons r rs, e => by
    obtain ⟨w1, e1, e⟩ := Option.bind_eq_some_iff.mp e
    obtain ⟨ws1, e2, rfl⟩ := Option.map_eq_some_iff.mp e
    exact .cons (k _ _ _ r e1) (trav_rw k rs e2)
theorem get_take {α : Type} {l : List α} {i n : Nat} {a : α} (e : l[i]? = some a) (h : i < n) : (l.take n)[i]? = some a := by
  rw [List.getElem?_take, if_pos h]
  exact e
theorem frz_rw (S : RS Z G ι m H) : ∀ (k : Nat) (v : V) (w w' : W), RW Z G ι v w → frz n m k w = some w' → RW Z (cutG G ι n H) (ι.take n) v w'
  | 0, _, _, _, _, e => by cases e
  | k + 1, v, w, w', r, e => by
    have ih := frz_rw S k
    cases r with
    | dat h => cases e; exact .dat (RD.mono (cut_same S) h)
    | tup h rs =>
      obtain ⟨ws', e1, rfl⟩ := Option.map_eq_some_iff.mp e
      exact .tup (Same.sqt (cut_same S) h) (trav_rw ih rs e1)
    | lst h rs =>
      obtain ⟨ws', e1, rfl⟩ := Option.map_eq_some_iff.mp e
      exact mkL_rw (cut_same S _ _ h) (trav_rw ih rs e1)
    | @ref a i h =>
      have e : (if i < n then some (.ref i) else (cellL m i).bind fun ws => (trav (frz n m k) ws).map mkL) = some w' := e
      by_cases hi : i < n
      · rw [if_pos hi] at e
        cases e
        exact .ref (get_take h hi)
      · rw [if_neg hi] at e
        obtain ⟨ws, e1, e⟩ := Option.bind_eq_some_iff.mp e
        obtain ⟨ws', e2, rfl⟩ := Option.map_eq_some_iff.mp e
        obtain ⟨vs, h1, rs⟩ := S.lst h e1
        have ha : a ∈ ι.drop n := by
          refine List.mem_of_getElem? (i := i - n) ?_
          rw [List.getElem?_drop, show n + (i - n) = i by omega]
          exact h
        refine mkL_rw ?_ (trav_rw ih rs e2)
        unfold cutG
        rw [if_pos ha]
        exact h1
    | glo h => cases e; exact .glo h
    | scr h => cases e; exact .scr ((cut_same S).seq h)
    | tab _ _ _ _ _ _ => cases e
/-! refs that lie below n -/
mutual
theorem rw_cut (S : RS Z G ι m H) {j : Nat} (hj : j < n) : ∀ {v : V} {w : W}, RW Z G ι v w → refsLe j w = true → RW Z (cutG G ι n H) (ι.take n) v w
  | _, _, .dat h, _ => .dat (RD.mono (cut_same S) h)
  | _, _, .tup h r, q => .tup (Same.sqt (cut_same S) h) (rws_cut S hj r (by simpa [refsLe] using q))
  | _, _, .lst h r, q => .lst (cut_same S _ _ h) (rws_cut S hj r (by simpa [refsLe] using q))
  | _, _, .ref h, q => .ref (get_take h (by simp [refsLe] at q; omega))
  | _, _, .glo h, _ => .glo h
  | _, _, .scr h, _ => .scr ((cut_same S).seq h)
  | _, _, .tab uf vf h1 h2 h3 h4, _ => .tab uf vf h1 h2 h3 fun z w e => RCo.mono (cut_same S) (h4 z w e)
theorem rws_cut (S : RS Z G ι m H) {j : Nat} (hj : j < n) : ∀ {vs : List V} {ws : List W}, RWs Z G ι vs ws → refsLeAll j ws = true → RWs Z (cutG G ι n H) (ι.take n) vs ws
  | _, _, .nil, _ => .nil
  | _, _, .cons h r, q => by
    simp only [refsLeAll, Bool.and_eq_true] at q
    exact .cons (rw_cut S hj h q.1) (rws_cut S hj r q.2)
end
mutual
theorem rw_le : ∀ {v : V} {w : W}, RW Z G ι v w → refsLe (ι.length - 1) w = true
  | _, _, .dat _ => rfl
  | _, _, .tup _ r => by
    simp only [refsLe]
    exact rws_le r
  | _, _, .lst _ r => by
    simp only [refsLe]
    exact rws_le r
  | _, _, .ref h => by
    have := (List.getElem?_eq_some_iff.mp h).1
    simp only [refsLe, decide_eq_true_eq]
    omega
  | _, _, .glo _ => rfl
  | _, _, .scr _ => rfl
  | _, _, .tab _ _ _ _ _ _ => rfl
theorem rws_le : ∀ {vs : List V} {ws : List W}, RWs Z G ι vs ws → refsLeAll (ι.length - 1) ws = true
  | _, _, .nil => rfl
  | _, _, .cons h r => by
    simp only [refsLeAll, Bool.and_eq_true]
    exact ⟨rw_le h, rws_le r⟩
end
theorem RS.wf (S : RS Z G ι m H) : wfB m.length m := fun i c hi e => by
  obtain ⟨a, _, r⟩ := S.cell i c e
  cases c with
  | lst ws =>
    obtain ⟨vs, _, rs⟩ := r
    have := rws_le rs
    rw [S.len] at this
    exact this
  | dic _ => exact r.elim
  | ins _ _ => exact r.elim
/-- the store cut to its first n lists -/
theorem RS.cut (S : RS Z G ι m H) (hn : n ≤ m.length) (hw : wfB n m) : RS Z (cutG G ι n H) (ι.take n) (m.take n) H := by
  refine ⟨cut_sub S, S.nd.sublist (List.take_sublist n ι), by rw [List.length_take, List.length_take, S.len], fun a ha => ?_, fun i c e => ?_, S.sz⟩
  · unfold cutG
    rw [if_neg fun h => ?_]
    · exact S.off a (List.mem_of_mem_take ha)
    · obtain ⟨i, hi, ei⟩ := List.mem_iff_getElem.mp ha
      obtain ⟨j, hj, ej⟩ := List.mem_iff_getElem.mp h
      rw [List.getElem_take] at ei
      rw [List.getElem_drop] at ej
      rw [List.length_take] at hi
      have := (List.getElem_inj S.nd).mp (ei.trans ej.symm)
      omega
  · rw [List.getElem?_take] at e
    split at e
    · rename_i hi
      obtain ⟨a, h1, r⟩ := S.cell i c e
      refine ⟨a, get_take h1 hi, ?_⟩
      have q := hw i c hi e
      cases c with
      | lst ws =>
        obtain ⟨vs, g1, g2⟩ := r
        exact ⟨vs, g1, rws_cut S (by omega) g2 q⟩
      | dic _ => exact r.elim
      | ins _ _ => exact r.elim
    · cases e
end
/-! ### from a body to a call -/
section
variable {Z : Wd} {G G1 : Hp} {ι ι1 : List Addr} {m m1 : Sto} {H H1 : Hp} {L : Nat}
theorem to_cut (S : RS Z G ι m H) (S1 : RS Z G1 ι1 m1 H1) (T : To m.length G ι m H G1 ι1 m1 H1) (hL : L ≤ m.length) : To L G ι m H (cutG G1 ι1 m.length H1) ι (m1.take m.length) H1 := by
  have hi := T.g.i
  refine ⟨⟨fun a o e => cut_same S1 _ _ (T.g.g _ _ e), List.prefix_rfl⟩, ⟨by rw [List.length_take]; have := T.k.1; omega, fun B hB w i c hi e => ?_⟩, fun a o e hn g => ?_⟩
  · rw [List.getElem?_take] at e
    split at e
    · exact T.k.2 B (by omega) w i c hi e
    · cases e
  · obtain ⟨q1, q2, q3⟩ := T.f a o e hn g
    refine ⟨q1, hn, ?_⟩
    unfold cutG
    rw [if_neg fun h => q2 (List.mem_of_mem_drop h)]
    exact q3
theorem take_pre {α : Type} {l l' : List α} (h : l <+: l') : l'.take l.length = l := by
  obtain ⟨t, rfl⟩ := h
  simp
theorem to_low {L' : Nat} (T : To L' G ι m H G1 ι1 m1 H1) (hL : L ≤ L') : To L G ι m H G1 ι1 m1 H1 := ⟨T.g, ⟨T.k.1, fun B hB w => T.k.2 B (Nat.le_trans hB hL) w⟩, T.f⟩
theorem cut_ends (S : RS Z G ι m H) (S1 : RS Z G1 ι1 m1 H1) (T : To m.length G ι m H G1 ι1 m1 H1) (hL : L ≤ m.length) {w w' : W} {v : V} {p : Bool} {Q : VK} {E : XK} (r : RW Z G1 ι1 v w) (P : PV Z L G ι m H (cutR p m.length w m1) Q E) : Q v H1 := by
  cases p with
  | false => exact (P : PV Z L G ι m H (.ok w m1) Q E) v H1 G1 ι1 (to_low T hL) S1 r
  | true =>
    have P : PV Z L G ι m H (match frz m.length m1 40 w with
      | some w' => .ok w' (m1.take m.length)
      | none => .no) Q E := P
    cases e : frz m.length m1 40 w with
    | none => rw [e] at P; exact P.elim
    | some w2 =>
      rw [e] at P
      have hw : wfB m.length m1 := T.k.2 _ (Nat.le_refl _) S.wf
      have S2 := S1.cut T.k.1 hw
      have ei : ι1.take m.length = ι := by
        rw [← S.len]
        exact take_pre T.g.i
      have r2 := frz_rw (n := m.length) S1 40 v w w2 r e
      rw [ei] at S2 r2
      exact (P : PV Z L G ι m H (.ok w2 (m1.take m.length)) Q E) v H1 _ ι (to_cut S S1 T hL) S2 r2
theorem frzF_look {n : Nat} {G' : Hp} {ι' : List Addr} {f : Str} (k : ∀ v w w', RW Z G1 ι1 v w → frz n m1 40 w = some w' → RW Z G' ι' v w') {fl : List (Str × V)} : ∀ {fs fs' : List (Str × W)}, (∀ w, fs.lookup f = some w → ∃ v, fl.lookup f = some v ∧ RW Z G1 ι1 v w) → frzF n m1 fs = some fs' →
    ∀ w, fs'.lookup f = some w → ∃ v, fl.lookup f = some v ∧ RW Z G' ι' v w
  | [], fs', _, e, w, hw => by cases e; cases hw
  | (g, u) :: fs, fs', h, e, w, hw => by
    obtain ⟨q, e1, e⟩ := Option.bind_eq_some_iff.mp e
    obtain ⟨fs2, e2, rfl⟩ := Option.map_eq_some_iff.mp e
    obtain ⟨u2, e3, rfl⟩ := Option.map_eq_some_iff.mp e1
    rw [List.lookup_cons] at hw
    cases c : (f == g) with
    | true =>
      simp only [c] at hw
      cases hw
      obtain ⟨v, h1, h2⟩ := h u (by rw [List.lookup_cons, c])
      exact ⟨v, h1, k _ _ _ h2 e3⟩
    | false =>
      simp only [c] at hw
      exact frzF_look k (fs := fs) (fun w q => h w (by rw [List.lookup_cons, c]; exact q)) e2 w hw
theorem fin_ok (S : RS Z G ι m H) (hL : L ≤ m.length) {p : Bool} {r : SR} {Q : VK} {E : XK} (P : PV Z L G ι m H (fin p m.length r) Q E) :
    PostS Z m.length G ι m H r { nx := fun _ H' => Q .non H', rt := Q } (fun c d _ H' => E c d H') := by
  cases r with
  | nx σ m1 => exact fun σ' H1 G1 ι1 T S1 _ => cut_ends (w' := wN) S S1 T hL (.dat .non) P
  | rt w m1 => exact fun v H1 G1 ι1 T S1 r => cut_ends (w' := wN) S S1 T hL r P
  | no => exact P
  | xc σ c fs m1 =>
    intro cls d σ' H1 G1 ι1 T S1 _ hx
    cases p with
    | false => exact (P : PV Z L G ι m H (.exc c fs m1) Q E) cls d H1 G1 ι1 (to_low T hL) S1 hx
    | true =>
      have P : PV Z L G ι m H (match frzF m.length m1 fs with
        | some fs' => .exc c fs' (m1.take m.length)
        | none => .no) Q E := P
      cases e : frzF m.length m1 fs with
      | none => rw [e] at P; exact P.elim
      | some fs' =>
        rw [e] at P
        have hw : wfB m.length m1 := T.k.2 _ (Nat.le_refl _) S.wf
        have S2 := S1.cut T.k.1 hw
        have ei : ι1.take m.length = ι := by
          rw [← S.len]
          exact take_pre T.g.i
        have k := frz_rw (n := m.length) S1 40
        rw [ei] at S2 k
        refine (P : PV Z L G ι m H (.exc c fs' (m1.take m.length)) Q E) cls d H1 _ ι (to_cut S S1 T hL) S2 ?_
        obtain ⟨C, dd, fl, h1, h2, h3, h4, h5⟩ := hx
        exact ⟨C, dd, fl, h1, h2, h3, h4, fun f w q => frzF_look k (h5 f) e w q⟩
end
end Mi
/-! Mi, part X: the defs of a text, all of them, to a depth. -/
namespace Mi
open PySem PySem.Spec PyProof.Rows L2
/-! ### parameters -/
theorem look_zip {α : Type} : ∀ {ns : List Str} {us : List α}, us.length = ns.length → ∀ n ∈ ns, ((ns.zip us).lookup n).isSome = true
  | [], _, _, n, h => by cases h
  | m :: ns, [], h, _, _ => by cases h
  | m :: ns, u :: us, h, n, hn => by
    rw [List.zip_cons_cons, List.lookup_cons]
    cases q : (n == m) with
    | true => rfl
    | false =>
      have hne : n ≠ m := by simpa using q
      exact look_zip (by simpa using h) n ((List.mem_cons.mp hn).resolve_left hne)
theorem filt_zip {α : Type} {ns : List Str} {us : List α} (h : us.length = ns.length) (l : List Str) (hl : ∀ n ∈ l, n ∈ ns) : l.filter (fun n => ((ns.zip us).lookup n).isNone) = [] := by
  rw [List.filter_eq_nil_iff]
  intro n hn q
  have := look_zip h n (hl n hn)
  rw [Option.isNone_iff_eq_none] at q
  rw [q] at this
  cases this
theorem fm_cong {α β : Type} {f g : α → Option β} : ∀ {l : List α}, (∀ a ∈ l, f a = g a) → l.filterMap f = l.filterMap g
  | [], _ => rfl
  | a :: l, h => by
    rw [List.filterMap_cons, List.filterMap_cons, h a (List.mem_cons_self ..), fm_cong fun b hb => h b (List.mem_cons_of_mem _ hb)]
theorem fmap_zip {α : Type} : ∀ {ns : List Str} {us : List α}, ns.Nodup → us.length = ns.length → ns.filterMap (fun n => ((ns.zip us).lookup n).map fun v => (n, v)) = ns.zip us
  | [], _, _, _ => rfl
  | m :: ns, [], _, h => by cases h
  | m :: ns, u :: us, nd, h => by
    have nd' := List.nodup_cons.mp nd
    rw [List.zip_cons_cons, List.filterMap_cons, List.lookup_cons]
    simp only [beq_self_eq_true, Option.map_some]
    congr 1
    refine Eq.trans ?_ (fmap_zip nd'.2 (by simpa using h))
    refine fm_cong fun n hn => ?_
    have hne : (n == m) = false := by
      rw [beq_eq_false_iff_ne]
      intro e
      exact nd'.1 (e ▸ hn)
    simp only [List.lookup_cons, hne]
theorem binds_ok {fd : FuncData} {as : List Arg} {us : List Value} (hp : fd.params = ⟨[], as, none, [], [], none, []⟩) (hd : fd.defaults = .none) (nd : (as.map (·.arg)).Nodup) (hl : us.length = (as.map (·.arg)).length) :
    bindArgs fd ⟨us, []⟩ = pure ((as.map (·.arg)).zip us) := by
  unfold bindArgs
  rw [hp, hd]
  have e1 : ∀ l : List Str, (∀ n ∈ l, n ∈ as.map (·.arg)) → l.filter (fun n => (((as.map (·.arg)).zip us).lookup n).isNone) = [] := fun l h => filt_zip hl l h
  have e0 := e1 _ fun _ h => h
  have e2 := fmap_zip nd hl
  have hnot : ¬ (us.length > (as.map (·.arg)).length) := by omega
  have hit : seqItems? Value.none = pure none := rfl
  simp only [hit, pure_bind, List.nil_append, List.append_nil, List.map_nil, List.forIn'_nil, List.forIn_nil, Option.getD_none, Array.toList_empty, hnot, decide_false, Bool.false_and, List.drop_nil, List.length_nil, Nat.sub_zero, List.take_length, List.zip_nil_right, e0, e2, Bool.false_eq_true, if_false, List.isEmpty_nil, Bool.not_true]
def argsOf : Arguments → Option (List Arg)
  | ⟨[], as, none, [], [], none, []⟩ => some as
  | _ => none
theorem argsOf_eq {a : Arguments} {as : List Arg} (h : argsOf a = some as) : a = ⟨[], as, none, [], [], none, []⟩ := by
  unfold argsOf at h
  split at h
  · cases h; rfl
  · cases h
/-! ### a def of the text -/
structure Dd where
  name : Str
  d : Df
  N : List Str
  st : Stmt
def scB (N ps : List Str) (sc : Scope) : Bool := (match sc.kind with
    | .function => true
    | _ => false) && !sc.isCoroutine && !sc.isGenerator && decide N.Nodup && decide (N.take ps.length = ps) && ps.all (fun x => decide (sc.names.lookup x = some .local) || decide (sc.names.lookup x = some .cell)) && sc.names.all (fun y => decide (y.2 ≠ .free))
theorem scB_ok {N ps : List Str} {sc : Scope} (h : scB N ps sc = true) : FnScope N ps sc := by
  unfold scB at h
  simp only [Bool.and_eq_true, Bool.not_eq_true', decide_eq_true_eq, List.all_eq_true, Bool.or_eq_true] at h
  obtain ⟨⟨⟨⟨⟨⟨h1, h2⟩, h3⟩, h4⟩, h5⟩, h6⟩, h7⟩ := h
  refine ⟨?_, h2, h3, h4, h5, h6, h7⟩
  split at h1
  · assumption
  · cases h1
def ccOf (bl ecl : List Str) (fn : List (Str × Nat)) (q : Dd) : Cc := ⟨q.N, defScope q.st, false, bl, fn, defScope q.st, ecl⟩
def chkD (bl ecl : List Str) (fn : List (Str × Nat)) (q : Dd) : Bool := match argsOf (defArgs q.st) with
  | none => false
  | some as => decide (as.map (·.arg)).Nodup && scB q.N (as.map (·.arg)) (defScope q.st) && decide (q.d.n = (as.map (·.arg)).length) && decide (q.N.length = q.d.loc) && chkSs (chkS 80 (ccOf bl ecl fn q)) (defBody q.st) q.d.body
/-- what the module holds, as it is told of the written part -/
structure Fx (P : Program) (w : World) (K : PySem.W.Frag) (mg : Str → Option Value) (bl ec : List Str) (B : Fe) (ds : List Dd) : Prop where
  sys : SysK K
  con : ∀ x u, B.con x = some u → ∃ v uu, mg x = some uu ∧ RelV v uu ∧ ∀ G ι, RW ⟨K, mg, w⟩ G ι v u
  bl : ∀ n, n ∈ bl → mg n = none
  exc : ∀ f fs, B.fld f = some fs → fs.Nodup ∧ fs.length ≤ 100 ∧ ∃ (C fI : Addr) (fd : FuncData) (ps : List Str), OexC K C ∧ mg f = some (.ref C) ∧ PySem.W.findIn K (.ref C) "__init__" = some (some (.ref fI)) ∧ PySem.W.typeIn K (.ref fI) = some (.type "function") ∧
    (∀ base : Heap, FnOk P w K mg base (L2.CX P w) 1 fI fd ps (spI K fs)) ∧ Binds K fd ps [] ∧ ∀ f ∈ fs, PySem.W.findIn K (.ref C) f = some none
  sub : ∀ d n b, B.sub d n = some b → ∃ C D, mg d = some (.ref C) ∧ mg n = some (.ref D) ∧ PySem.W.exmOne K (.ref C) (.ref D) = some b
  ecl : ∀ n ∈ ec, ∃ D : Addr, mg n = some (.ref D)
  exf : ∀ d fs, B.fld d = some fs → ∃ C, mg d = some (.ref C) ∧ XfC K C ∧ ExcC K C ∧ ∀ f ∈ fs, PySem.W.findIn K (.ref C) f = some none
  isx : ∀ d n b, B.isx d n = some b → (B.fld d).isSome = true ∧ ∃ (C : Addr) (cv : V) (u : Value), mg d = some (.ref C) ∧ (mg n = some u ∨ (mg n = none ∧ bootBuiltins n = some u ∧ n ≠ "__name__")) ∧ ClsV cv u ∧ PySem.W.kitOne K (.ref C) u = some b
  eclF : ∀ n ∈ ec, ∃ fs, B.fld n = some fs
  def_ : ∀ q ∈ ds, ∃ fa fd, FunD K q.name q.name (defArgs q.st) (defBody q.st) (defScope q.st) [] [] fa fd ∧ mg q.name = some (.ref fa)
def fnOf (ds : List Dd) : List (Str × Nat) := ds.map fun q => (q.name, q.d.n)
def pOf (ds : List Dd) (f : Str) : Option Df := (ds.find? fun q => q.name == f).map (·.d)
theorem ren_start {Z : Wd} {G : Hp} {ι : List Addr} {N : List Str} {vs : List V} {ws : List W} {loc n : Nat} (r : RWs Z G ι vs ws) (hN : N.length = loc) (hn : vs.length = n) : REn Z G ι (L2.start N vs) (ws.map some ++ List.replicate (loc - n) none) := by
  have hw : n = ws.length := by rw [← hn, r.length]
  refine ⟨by simp [L2.start, hN, hn, hw], fun i w e => ?_⟩
  unfold getV at e
  by_cases hi : i < ws.length
  · rw [List.getElem?_append_left (by simpa using hi), List.getElem?_map] at e
    cases q : ws[i]? with
    | none => rw [q] at e; cases e
    | some w' =>
      rw [q] at e
      cases e
      obtain ⟨v, h1, h2⟩ := r.get q
      exact ⟨v, start_get h1, h2⟩
  · rw [List.getElem?_append_right (by simpa using Nat.le_of_not_lt hi), List.getElem?_replicate] at e
    split at e
    · rename_i hh
      split at hh <;> cases hh
    · cases e
section
variable {P : Program} {w : World} {K : PySem.W.Frag} {mg : Str → Option Value} {base : Heap} {bl ecl : List Str} {B : Fe} {ds : List Dd}
/-- what is known of a def, to a depth -/
def DefAt (P : Program) (w : World) (K : PySem.W.Frag) (mg : Str → Option Value) (lv : Nat) (n : Nat) (f : Str) (g : List W → M W) : Prop :=
  ∃ (fa : Addr) (fd : FuncData) (ps : List Str), (∀ base : Heap, FnG P w K mg base (L2.CX P w) lv fa fd ps (spW ⟨K, mg, w⟩ n g)) ∧ mg f = some (.ref fa) ∧ PySem.W.keepIn K (.ref fa) = true ∧ Binds K fd ps [] ∧ n = ps.length ∧ ∀ (s : Shared) (us : List Value), us.length = ps.length → BindsTo s fd ⟨us, []⟩ (ps.zip us)
theorem okS_of (FX : Fx P w K mg bl ecl B ds) {q : Dd} {g : Str → List W → M W} {L lv : Nat} (hlv : 2 ≤ lv) (hcall : ∀ f n, (f, n) ∈ fnOf ds → DefAt P w K mg lv n f (g f)) {ps : List Str} (S : FnScope q.N ps (defScope q.st))
    {qual : Str} {f : Addr} {cdv : Value} {A : Around} {outer : List Env} {s : Shared} {H : Hp} {E : XK} (hr : Room lv (A.deeper (envOfC qual (defScope q.st) s.heap.objs.size f cdv))) (hg : A.guards = some []) :
    OkS (ccOf bl ecl (fnOf ds) q) (cxOf (L2.CX P w) P w K mg base q.N qual (defScope q.st) f cdv A outer s H E) { B with call := g, L := L } (fun c d _ H' => E c d H') := by
  refine ⟨⟨rfl, S.nd, rfl, takes_of rfl rfl rfl rfl, fun _ => rfl, hg, ?_, FX.sys, FX.con, FX.bl, fun _ f n hf => ?_, fun _ f fs hf => ?_, FX.sub, FX.ecl, FX.exf, FX.isx, fun x h => ⟨h, .inl rfl⟩⟩, passes_of rfl, rfl, rfl, rfl, S.kind, FX.eclF⟩
  · have := hr.un
    show (A.deeper _).units + 100 < cLine
    omega
  · obtain ⟨fa, fd, ps', h1, h2, h3, h4, _⟩ := hcall f n hf
    exact ⟨fa, fd, ps', lv, h1 base, hr, h2, h3, h4⟩
  · obtain ⟨h1, h2, C, fI, fd, ps', h3, h4, h5, h6, h7, h8, h9⟩ := FX.exc f fs hf
    exact ⟨h1, h2, C, fI, fd, ps', 1, h3, h4, h5, h6, h7 base, hr.mono hlv, h8, h9⟩
theorem def_ok (FX : Fx P w K mg bl ecl B ds) {q : Dd} (hq : q ∈ ds) (hc : chkD bl ecl (fnOf ds) q = true) {lv : Nat} (hlv : 2 ≤ lv) {g : Str → List W → M W} (hcall : ∀ f n, (f, n) ∈ fnOf ds → DefAt P w K mg lv n f (g f)) :
    DefAt P w K mg (lv + 1) q.d.n q.name (fun ws m => bodyN { B with call := g, L := m.length } q.d ws m) := by
  obtain ⟨fa, fd, F, hm⟩ := FX.def_ q hq
  unfold chkD at hc
  cases ea : argsOf (defArgs q.st) with
  | none => rw [ea] at hc; cases hc
  | some as =>
    rw [ea] at hc
    simp only [Bool.and_eq_true, decide_eq_true_eq] at hc
    obtain ⟨⟨⟨⟨c1, c2⟩, c3⟩, c4⟩, c5⟩ := hc
    have S := scB_ok c2
    have hb : Binds K fd (as.map (·.arg)) [] := F.bindsN fun kV doc pm an cdv ct us hl => binds_ok (argsOf_eq ea) rfl c1 hl
    refine ⟨fa, fd, as.map (·.arg), fun base => ?_, hm, F.kp, hb, c3, F.bindsA fun kV doc pm an cdv ct us hl => binds_ok (argsOf_eq ea) rfl c1 hl⟩
    refine Mi.FunD.okG F S (fun vs H Q E h => by rw [← c3]; exact h.1) fun cdv A outer s H vs Q E hr hg hsp => ?_
    obtain ⟨hl, L, G, ι, m, ws, S1, r, hL, Pv⟩ := hsp
    have hwl : ws.length = q.d.n := by rw [← r.length]; exact hl
    have Pv : PV ⟨K, mg, w⟩ L G ι m H (match decide (ws.length = q.d.n) with
      | true => fin q.d.pure m.length (evSs { B with call := g, L := m.length } q.d.body (ws.map some ++ List.replicate (q.d.loc - q.d.n) none) m)
      | false => .no) Q E := Pv
    rw [decide_eq_true hwl] at Pv
    have O := okS_of (base := base) (L := m.length) (s := s) (H := H) (E := E) (outer := outer) FX hlv hcall S hr hg
    refine ⟨_, chkSs_ok (fun s t h => chkS_ok 80 O h) c5, G, ι, m, _, S1, ren_start r c4 hl, Nat.le_refl _, fin_ok S1 hL Pv⟩
theorem none_ok {fa : Addr} {fd : FuncData} {ps : List Str} {n lv : Nat} (hn : n = ps.length) : FnG P w K mg base (L2.CX P w) lv fa fd ps (spW ⟨K, mg, w⟩ n fun _ _ => .no) :=
  ⟨fun vs H Q E h => by rw [← hn]; exact h.1, fun A outer s H args us vs Q E _ _ _ _ _ h => by obtain ⟨_, _, _, _, _, _, _, _, _, h⟩ := h; exact h.elim⟩
theorem calls_ok (FX : Fx P w K mg bl ecl B ds) (hc : ∀ q ∈ ds, chkD bl ecl (fnOf ds) q = true) (hp : ∀ q ∈ ds, pOf ds q.name = some q.d) : ∀ k : Nat, ∀ q ∈ ds, DefAt P w K mg (k + 2) q.d.n q.name (callN (pOf ds) B k q.name)
  | 0, q, hq => by
    obtain ⟨fa, fd, F, hm⟩ := FX.def_ q hq
    have hc := hc q hq
    unfold chkD at hc
    cases ea : argsOf (defArgs q.st) with
    | none => rw [ea] at hc; cases hc
    | some as =>
      rw [ea] at hc
      simp only [Bool.and_eq_true, decide_eq_true_eq] at hc
      obtain ⟨⟨⟨⟨c1, c2⟩, c3⟩, c4⟩, c5⟩ := hc
      have hb : Binds K fd (as.map (·.arg)) [] := F.bindsN fun kV doc pm an cdv ct us hl => binds_ok (argsOf_eq ea) rfl c1 hl
      exact ⟨fa, fd, as.map (·.arg), fun base => none_ok c3, hm, F.kp, hb, c3, F.bindsA fun kV doc pm an cdv ct us hl => binds_ok (argsOf_eq ea) rfl c1 hl⟩
  | k + 1, q, hq => by
    have D := def_ok (lv := k + 2) (g := callN (pOf ds) B k) FX hq (hc q hq) (by omega) fun f n hf => by
      obtain ⟨q2, hq2, e⟩ := List.mem_map.mp hf
      cases e
      exact calls_ok FX hc hp k q2 hq2
    have e : callN (pOf ds) B (k + 1) q.name = fun ws m => bodyN { B with call := callN (pOf ds) B k, L := m.length } q.d ws m := by
      funext ws m
      show (match pOf ds q.name with
        | none => Res.no
        | some d => bodyN { B with call := callN (pOf ds) B k, L := m.length } d ws m) = _
      rw [hp q hq]
    rw [e]
    exact D
end
end Mi
/-! Mi, part Y: what is read off the state behind the top. -/
namespace Mi
open PySem PySem.Spec PyProof.Rows L2
open He (ga ma eqO eqO_ok)
abbrev Fg := PySem.W.Frag
/-! ### data of the top -/
mutual
def datV (K : Fg) : PyData → Value → Bool
  | .none, u => (match u with
    | .none => true
    | _ => false)
  | .bool b, u => (match u with
    | .bool c => b == c
    | _ => false)
  | .int i, u => (match u with
    | .int j _ => decide (i = j)
    | _ => false)
  | .str x, u => (match u with
    | .str y _ => decide (x = y)
    | _ => false)
  | .tuple ds, u => (match u with
    | .ref a => (match K.lookup a with
      | some ⟨.type c, none, .seq its _, _⟩ => decide (c = "tuple") && (decide (its.size ≤ sizeLine) && datVs K ds its.toList)
      | _ => false)
    | _ => false)
  | .list _, _ => false
  | .dict _, _ => false
def datVs (K : Fg) : List PyData → List Value → Bool
  | [], us => us.isEmpty
  | d :: ds, us => (match us with
    | u :: us => datV K d u && datVs K ds us
    | [] => false)
end
mutual
theorem datV_ok {K : Fg} : ∀ {d : PyData} {u : Value}, datV K d u = true → ∃ v, RelV v u ∧ ∀ G, RD K G v d
  | .none, u, h => by
    unfold datV at h
    split at h
    · exact ⟨.non, rfl, fun _ => .non⟩
    · cases h
  | .bool b, u, h => by
    unfold datV at h
    split at h
    · exact ⟨.bl b, by rw [eq_of_beq h]; rfl, fun _ => .bl b⟩
    · cases h
  | .int i, u, h => by
    unfold datV at h
    split at h
    · exact ⟨.int i, ⟨_, by rw [of_decide_eq_true h]⟩, fun _ => .int i⟩
    · cases h
  | .str x, u, h => by
    unfold datV at h
    split at h
    · exact ⟨.str x, ⟨_, by rw [of_decide_eq_true h]⟩, fun _ => .str x⟩
    · cases h
  | .tuple ds, u, h => by
    unfold datV at h
    split at h
    · rename_i a
      split at h
      · rename_i c its n sl lk
        simp only [Bool.and_eq_true, decide_eq_true_eq] at h
        obtain ⟨rfl, h2, h3⟩ := h
        obtain ⟨vs, r, q⟩ := datVs_ok h3
        exact ⟨.ref a, rfl, fun G => .tup (.inr ⟨_, its, n, lk, rfl, rfl, rfl, h2, r⟩) (q G)⟩
      · cases h
    · cases h
  | .list _, _, h => by cases h
  | .dict _, _, h => by cases h
theorem datVs_ok {K : Fg} : ∀ {ds : List PyData} {us : List Value}, datVs K ds us = true → ∃ vs, Vals vs us ∧ ∀ G, RDs K G vs ds
  | [], us, h => by
    unfold datVs at h
    cases us with
    | nil => exact ⟨[], .nil, fun _ => .nil⟩
    | cons _ _ => cases h
  | d :: ds, us, h => by
    unfold datVs at h
    cases us with
    | nil => cases h
    | cons u us =>
      have h : (datV K d u && datVs K ds us) = true := h
      rw [Bool.and_eq_true] at h
      obtain ⟨v, h1, h2⟩ := datV_ok h.1
      obtain ⟨vs, h3, h4⟩ := datVs_ok h.2
      exact ⟨v :: vs, .cons h1 h3, fun G => .cons (h2 G) (h4 G)⟩
end
/-! a table's entries -/
def entB (K : Fg) : List DictEntry → List (Str × PyData) → Bool
  | [], [] => true
  | e :: es, q :: qs => (match e.key with
    | .str x _ => decide (x = q.1)
    | _ => false) && datV K q.2 e.val && entB K es qs
  | _, _ => false
theorem entB_key {K : Fg} {e : DictEntry} {es : List DictEntry} {q : Str × PyData} {qs : List (Str × PyData)} (h : entB K (e :: es) (q :: qs) = true) : (∃ t, e.key = .str q.1 t) ∧ datV K q.2 e.val = true ∧ entB K es qs = true := by
  simp only [entB, Bool.and_eq_true] at h
  refine ⟨?_, h.1.2, h.2⟩
  have h1 := h.1.1
  split at h1
  · rename_i x t ek
    exact ⟨t, by rw [ek, of_decide_eq_true h1]⟩
  · cases h1
theorem entB_find {K : Fg} (z : Str) : ∀ {es : List DictEntry} {qs : List (Str × PyData)}, entB K es qs = true → (qs.lookup z = none → es.find? (·.key.isStr z) = none) ∧ ∀ d, qs.lookup z = some d → ∃ e, es.find? (·.key.isStr z) = some e ∧ datV K d e.val = true
  | [], [], _ => ⟨fun _ => rfl, fun d e => by cases e⟩
  | [], _ :: _, h => by cases h
  | _ :: _, [], h => by cases h
  | e :: es, q :: qs, h => by
    obtain ⟨⟨t, hk⟩, h2, h3⟩ := entB_key h
    obtain ⟨r1, r2⟩ := entB_find z h3
    have hs : e.key.isStr z = (q.1 == z) := by rw [hk]; rfl
    have hl : List.lookup z (q :: qs) = if z == q.1 then some q.2 else qs.lookup z := by
      obtain ⟨q1, q2⟩ := q
      rw [List.lookup_cons]
      cases (z == q1) <;> rfl
    have hc : (q.1 == z) = (z == q.1) := by
      rw [Bool.eq_iff_iff, beq_iff_eq, beq_iff_eq]
      exact eq_comm
    rw [List.find?_cons, hs, hl, hc]
    cases (z == q.1) with
    | true =>
      refine ⟨fun z => (by cases z), fun d ed => ⟨e, rfl, ?_⟩⟩
      have ed : some q.2 = some d := ed
      cases ed
      exact h2
    | false => exact ⟨r1, r2⟩
theorem entB_ref {K : Fg} : ∀ {es : List DictEntry} {qs : List (Str × PyData)}, entB K es qs = true → es.any (·.refKey) = false
  | [], [], _ => rfl
  | [], _ :: _, h => by cases h
  | _ :: _, [], h => by cases h
  | e :: es, q :: qs, h => by
    obtain ⟨⟨t, hk⟩, _, h3⟩ := entB_key h
    rw [List.any_cons, entB_ref h3]
    unfold DictEntry.refKey
    rw [hk]
    rfl
def tabB (K : Fg) (a : Addr) (qs : List (Str × PyData)) : Bool := match K.lookup a with
  | some ⟨_, _, .dict es _, _⟩ => entB K es.toList qs
  | _ => false
theorem lookup_map {α β γ : Type} [BEq α] (f : β → γ) (z : α) : ∀ l : List (α × β), (l.map fun q => (q.1, f q.2)).lookup z = (l.lookup z).map f
  | [] => rfl
  | (a, b) :: l => by
    rw [List.map_cons, List.lookup_cons, List.lookup_cons]
    cases (z == a) with
    | true => rfl
    | false => exact lookup_map f z l
theorem tabB_ok {K : Fg} {w : World} {mg : Str → Option Value} {a : Addr} {qs : List (Str × PyData)} (h : tabB K a qs = true) {es : Array DictEntry} {n : Nat} (hd : KDict K w a es n) (G : Hp) (ι : List Addr) : RW ⟨K, mg, w⟩ G ι (.ref a) (.tab (qs.map fun q => (q.1, W.dat q.2))) := by
  unfold tabB at h
  split at h
  · rename_i es' n' sl lk
    have key : ∀ z, (qs.lookup z = none → PySem.W.nsIn K a z = some none) ∧ ∀ d, qs.lookup z = some d → ∃ u, PySem.W.nsIn K a z = some (some u) ∧ datV K d u = true := fun z => by
      obtain ⟨r1, r2⟩ := entB_find z h
      constructor
      · intro e
        unfold PySem.W.nsIn
        rw [lk]
        simp only [r1 e, entB_ref h]
        rfl
      · intro d e
        obtain ⟨e1, g1, g2⟩ := r2 d e
        refine ⟨e1.val, ?_, g2⟩
        unfold PySem.W.nsIn
        rw [lk]
        simp only [g1]
    have pick : ∀ z : Str, ∃ (u : Value) (v : V), ∀ d, qs.lookup z = some d → PySem.W.nsIn K a z = some (some u) ∧ RelV v u ∧ ∀ G, RD K G v d := fun z => by
      cases e : qs.lookup z with
      | none => exact ⟨.none, .non, fun d e => by cases e⟩
      | some d =>
        obtain ⟨u, g1, g2⟩ := (key z).2 d e
        obtain ⟨v, g3, g4⟩ := datV_ok g2
        exact ⟨u, v, fun d' e' => by cases e'; exact ⟨g1, g3, g4⟩⟩
    have lm : ∀ z u, (qs.map fun q => (q.1, W.dat q.2)).lookup z = some u → ∃ d, qs.lookup z = some d ∧ u = .dat d := fun z u e => by
      rw [lookup_map] at e
      obtain ⟨d, e1, e2⟩ := Option.map_eq_some_iff.mp e
      exact ⟨d, e1, e2.symm⟩
    refine .tab (fun z => (pick z).choose) (fun z => (pick z).choose_spec.choose) hd (fun z e => ?_) (fun z u e => ?_) fun z u e => ?_
    · rw [lookup_map] at e
      exact (key z).1 (Option.map_eq_none_iff.mp e)
    · obtain ⟨d, e1, _⟩ := lm z u e
      have := (pick z).choose_spec.choose_spec d e1
      exact ⟨this.1, this.2.1⟩
    · obtain ⟨d, e1, e2⟩ := lm z u e
      have := (pick z).choose_spec.choose_spec d e1
      exact .inl ⟨d, e2, this.2.2 G⟩
  · cases h
/-! ### own exception classes -/
structure Xd where
  name : Str
  fs : List Str
  base : Str
  self : Str
  qual : Str
  st : Stmt
def oexB (K : Fg) (C : Addr) : Bool := (match K.lookup C with
  | some ⟨.type t, _, .cls cd, sl⟩ => (match cd.mro, sl.toList with
    | .ref C' :: bm, [_, _, _, _, some (.builtin n), _] => decide (t = "type") && (decide (C' = C) && (decide (n = "ValueError.__new__") && (!cd.hasDel && (cd.hasDict && PySem.HandSPX.refsVE bm))))
    | _, _ => false)
  | _ => false) && (eqO (PySem.W.findIn K (.ref C) "__setattr__") (some (some (.builtin "object.__setattr__"))) && (decide (PySem.W.subIn K (.ref C) (.type "BaseException") = some true) && (decide (PySem.W.typeIn K (.ref C) = some (.type "type")) && PySem.W.keepIn K (.ref C))))
theorem oexB_ok {K : Fg} {C : Addr} (h : oexB K C = true) : OexC K C := by
  unfold oexB at h
  rw [Bool.and_eq_true] at h
  obtain ⟨h1, h2⟩ := h
  simp only [Bool.and_eq_true, decide_eq_true_eq] at h2
  refine ⟨?_, eqO_ok h2.1, h2.2.1, h2.2.2.1, h2.2.2.2⟩
  split at h1
  · rename_i t dd cd sl lk
    split at h1
    · rename_i C' bm k0 k1 k2 k3 n k5 hm hs
      simp only [Bool.and_eq_true, decide_eq_true_eq, Bool.not_eq_true'] at h1
      obtain ⟨rfl, rfl, rfl, hdel, hdict, hb⟩ := h1
      obtain ⟨nm, bs, mro, ns, qn, hd, sn, sub, ab, col, del⟩ := cd
      dsimp only at hm hdel hdict
      subst hm hdel hdict
      have hsl : sl = #[k0, k1, k2, k3, some (.builtin "ValueError.__new__"), k5] := by
        obtain ⟨l⟩ := sl
        simp only at hs
        rw [hs]
      subst hsl
      exact ⟨nm, qn, ns, bs, bm, sn, sub, ab, col, dd, k0, k1, k2, k3, k5, lk, hb⟩
    · cases h1
  · cases h1
def excB (K : Fg) (D : Addr) : Bool := eqO (PySem.W.findIn K (.ref D) "__getattribute__") (some (some (.builtin "BaseException.__getattribute__"))) && (eqO (PySem.W.findIn K (.ref D) "__getattr__") (some none) && (decide (PySem.W.subIn K (.ref D) (.type "BaseException") = some true) && (PySem.W.hasDictIn K D &&
  (eqO (PySem.W.findIn K (.ref D) "__class__") (some (some (.builtin "object.__class__"))) && (eqO (PySem.W.specialIn K (.builtin "object.__class__") "__get__") (some (some (.builtin "getset_descriptor.__get__"))) && (decide (PySem.W.takesIn K (.builtin "object.__class__") = some true) && decide (PySem.W.mroIn K D (.type "object") = some true)))))))
theorem excB_ok {K : Fg} {D : Addr} (h : excB K D = true) : ExcC K D := by
  simp only [excB, Bool.and_eq_true, decide_eq_true_eq] at h
  obtain ⟨h1, h2, h3, h4, h5, h6, h7, h8⟩ := h
  exact ⟨eqO_ok h1, eqO_ok h2, h3, h4, eqO_ok h5, eqO_ok h6, h7, h8⟩
def baseB (K : Fg) (C : Addr) : Bool := eqO (PySem.W.specialIn K (.ref C) "__getattribute__") (some (some (.builtin "type.__getattribute__"))) && (PySem.W.readsIn K C (.type "type") && (match PySem.W.findCls K (.ref C) (.type "type") "__init__" with
  | some (.val (.builtin n)) => decide (n = "ValueError.__init__")
  | _ => false))
theorem baseB_ok {K : Fg} {C : Addr} (h : baseB K C = true) : BaseC K C := by
  simp only [baseB, Bool.and_eq_true] at h
  obtain ⟨h1, h2, h3⟩ := h
  refine ⟨eqO_ok h1, h2, ?_⟩
  split at h3
  · rename_i n e
    rw [e, of_decide_eq_true h3]
  · cases h3
def gloB (K : Fg) (x : Str) : Bool := eqO (PySem.W.nsIn K mainGlobals x) (some (some (.ref (ga K x))))
def xdB (K : Fg) (x : Xd) : Bool := gloB K x.name && (oexB K (ga K x.name) && (L2.xfB K (ga K x.name) && (excB K (ga K x.name) && (eqO (PySem.W.findIn K (.ref (ga K x.name)) "__init__") (some (some (.ref (ma K (ga K x.name) "__init__")))) &&
  (decide (PySem.W.typeIn K (.ref (ma K (ga K x.name) "__init__")) = some (.type "function")) && (x.fs.all (fun f => eqO (PySem.W.findIn K (.ref (ga K x.name)) f) (some none)) && (gloB K x.base && baseB K (ga K x.base))))))))
/-- .. and its text -/
def xdT (x : Xd) : Bool := match argsOf (defArgs x.st) with
  | none => false
  | some as => decide (as.map (·.arg) = x.self :: x.fs) && decide (x.self :: x.fs).Nodup && scB (x.self :: x.fs) (x.self :: x.fs) (defScope x.st) && (x.self :: x.fs).all nmOk && !x.fs.isEmpty && decide (x.fs.length ≤ 100) && chkInit x.base x.self (defScope x.st) (fldsOf x.fs) (defBody x.st)
def Xd.def (x : Xd) : He.DefD := ⟨(x.name, some "__init__"), "__init__", x.qual, defArgs x.st, defBody x.st, defScope x.st, [], []⟩
def Dd.def (q : Dd) : He.DefD := ⟨(q.name, none), q.name, q.name, defArgs q.st, defBody q.st, defScope q.st, [], []⟩
/-! ### the module -/
structure Mo where
  ds : List Dd
  cs : List (Str × PyData)
  tb : List (Str × List (Str × PyData))
  bl : List Str
  xs : List Xd
  ec : List Str
  sb : List ((Str × Str) × Bool)
  ix : List ((Str × Str) × Bool)
def Mo.B (M : Mo) : Fe where
  call := fun _ _ _ => .no
  con := fun x => match M.cs.lookup x with
    | some d => some (.dat d)
    | none => (M.tb.lookup x).map fun qs => .tab (qs.map fun q => (q.1, W.dat q.2))
  L := 0
  sub := fun a b => M.sb.lookup (a, b)
  isx := fun a b => M.ix.lookup (a, b)
  fld := fun a => (M.xs.find? fun x => x.name == a).map (·.fs)
def isxB (K : Fg) (q : (Str × Str) × Bool) : Bool := gloB K q.1.1 && (match PySem.W.nsIn K mainGlobals q.1.2 with
  | some (some (.ref D)) => decide (PySem.W.kitOne K (.ref (ga K q.1.1)) (.ref D) = some q.2)
  | some none => (match bootBuiltins q.1.2 with
    | some (.type n) => decide (q.1.2 ≠ "__name__") && decide (PySem.W.kitOne K (.ref (ga K q.1.1)) (.type n) = some q.2)
    | _ => false)
  | _ => false)
def moB (M : Mo) (K : Fg) : Bool := (K.lookup sysModules).isSome && (M.cs.all (fun q => (match PySem.W.nsIn K mainGlobals q.1 with
    | some (some u) => datV K q.2 u
    | _ => false)) && (M.tb.all (fun t => gloB K t.1 && tabB K (ga K t.1) t.2) && (M.bl.all (fun n => eqO (PySem.W.nsIn K mainGlobals n) (some none)) && (M.xs.all (xdB K) && (M.ec.all (gloB K) &&
    (M.sb.all (fun q => gloB K q.1.1 && (gloB K q.1.2 && decide (PySem.W.exmOne K (.ref (ga K q.1.1)) (.ref (ga K q.1.2)) = some q.2))) && (M.ix.all (isxB K) && M.ds.all (fun q => gloB K q.name))))))))
def moT (M : Mo) : Bool := M.xs.all xdT && (M.ds.all (chkD M.bl M.ec (fnOf M.ds)) && (M.ds.all (fun q => (pOf M.ds q.name).isSome) && (decide (M.ds.map (·.name)).Nodup && (M.ec.all (fun n => (M.B.fld n).isSome) && M.ix.all (fun q => (M.B.fld q.1.1).isSome)))))
def Mo.fn (M : Mo) : List He.DefD := M.ds.map Dd.def ++ M.xs.map Xd.def
/-! ### the Hook -/
abbrev AlM : Type := He.AlD × List (Option (List (Option (Str × Int)))) × Bool
def obsM (M : Mo) (K : Fg) : AlM := (He.obsD [] M.fn K, M.tb.map (fun t => He.dicW K (ga K t.1)), moB M K)
def valM (M : Mo) (w : World) : AlM := (He.valD M.fn, M.tb.map (fun t => some (He.keysIn w.params (t.2.map (·.1)))), true)
def obsMG (n : Nat) (M : Mo) (g : Addr → Option Obj) : AlM := obsM M (He.frG g (cStatics :: sysModules :: He.asD g n))
def hookM (n : Nat) (M : Mo) : PySem.W.Hook where
  α := AlM
  obs := fun s => obsMG n M s.heap.get?
  val := fun w => valM M w
  says := fun w h => ∃ K : Fg, K.In h ∧ obsM M K = valM M w
  of := fun _ _ e => ⟨_, He.frG_in, e⟩
  keeps := fun _ _ _ ⟨K, hK, c⟩ k => ⟨K, PySem.W.Frag.In.keeps hK k, c⟩
theorem obsMG_eq {n : Nat} {M : Mo} {g : Addr → Option Obj} {s : Shared} (h : ∀ a, g a = s.heap.get? a) : obsMG n M g = (hookM n M).obs s := by
  have e : g = s.heap.get? := funext h
  rw [e] <;> rfl
theorem saysD_defs {fn : List He.DefD} {K : Fg} (c : He.SaysD [] fn K) {d : He.DefD} (h : d ∈ fn) : ∃ fd, FunD K d.name d.qual d.params d.body d.scope (d.dvs K) (d.kws K) (He.fAd K d.at_) fd := by
  obtain ⟨i, hi, e⟩ := List.mem_iff_getElem.mp h
  exact c.def_ i (d := d) (by rw [List.getElem?_eq_getElem hi, e])
theorem lookup_memA {α β : Type} [BEq α] [LawfulBEq α] {z : α} {b : β} : ∀ {l : List (α × β)}, l.lookup z = some b → (z, b) ∈ l
  | [], h => by cases h
  | (a, c) :: l, h => by
    rw [List.lookup_cons] at h
    cases q : (z == a) with
    | true =>
      simp only [q] at h
      cases h
      rw [beq_iff_eq.mp q]
      exact List.mem_cons_self
    | false =>
      simp only [q] at h
      exact List.mem_cons_of_mem _ (lookup_memA h)
theorem fx_of {M : Mo} (hT : moT M = true) {P : Program} {w : World} {K : Fg} {h : Heap} {mg : Str → Option Value} (X : K.In h) (G : h.Ns mainGlobals mg) (c : obsM M K = valM M w) : Fx P w K mg M.bl M.ec M.B M.ds := by
  have c1 : He.SaysD [] M.fn K := congrArg (fun z : AlM => z.1) c
  have c2 : M.tb.map (fun t => He.dicW K (ga K t.1)) = M.tb.map (fun t => some (He.keysIn w.params (t.2.map (·.1)))) := congrArg (fun z : AlM => z.2.1) c
  have c3 : moB M K = true := congrArg (fun z : AlM => z.2.2) c
  simp only [moB, Bool.and_eq_true, List.all_eq_true] at c3
  obtain ⟨k1, k2, k3, k4, k5, k6, k7, k8, k9⟩ := c3
  simp only [moT, Bool.and_eq_true, List.all_eq_true] at hT
  obtain ⟨t1, t2, t3, t4, t5, t6⟩ := hT
  have glo : ∀ {x}, gloB K x = true → mg x = some (.ref (ga K x)) := fun h => PySem.W.mg_of X G (eqO_ok h)
  refine ⟨Option.isSome_iff_exists.mp k1, fun x u e => ?_, fun n hn => PySem.W.mg_none_of X G (eqO_ok (k4 n hn)), fun f fs e => ?_, fun d n b e => ?_, fun n hn => ⟨_, glo (k6 n hn)⟩, fun d fs e => ?_, fun d n b e => ?_, fun n hn => Option.isSome_iff_exists.mp (t5 n hn), fun q hq => ?_⟩
  · have e : (match M.cs.lookup x with
      | some d => some (W.dat d)
      | none => (M.tb.lookup x).map fun qs => .tab (qs.map fun q => (q.1, W.dat q.2))) = some u := e
    cases ec : M.cs.lookup x with
    | some d =>
      rw [ec] at e
      cases e
      have q := k2 _ (lookup_memA ec)
      split at q
      · rename_i uu en
        obtain ⟨v, r1, r2⟩ := datV_ok q
        exact ⟨v, uu, PySem.W.mg_of X G en, r1, fun G ι => .dat (r2 G)⟩
      · cases q
    | none =>
      rw [ec] at e
      obtain ⟨qs, e1, rfl⟩ := Option.map_eq_some_iff.mp e
      have hm := lookup_memA e1
      have q := k3 _ hm
      obtain ⟨i, hi, ei⟩ := List.mem_iff_getElem.mp hm
      have c4 : (M.tb.map fun t => He.dicW K (ga K t.1))[i]? = (M.tb.map fun t => some (He.keysIn w.params (t.2.map (·.1))))[i]? := by rw [c2]
      rw [List.getElem?_map, List.getElem?_map, List.getElem?_eq_getElem hi, ei] at c4
      obtain ⟨es, n, hk⟩ := He.dicW_ok (Option.some.inj c4)
      exact ⟨.ref (ga K x), _, glo q.1, rfl, fun G ι => tabB_ok q.2 hk G ι⟩
  · obtain ⟨x, e1, rfl⟩ := Option.map_eq_some_iff.mp e
    have hx := List.mem_of_find?_eq_some e1
    have en : x.name = f := by simpa using List.find?_some e1
    have kx := k5 x hx
    have tx := t1 x hx
    simp only [xdB, Bool.and_eq_true, decide_eq_true_eq, List.all_eq_true] at kx
    obtain ⟨g1, g2, g3, g4, g5, g6, g7, g8, g9⟩ := kx
    unfold xdT at tx
    cases ea : argsOf (defArgs x.st) with
    | none => rw [ea] at tx; cases tx
    | some as =>
      rw [ea] at tx
      simp only [Bool.and_eq_true, decide_eq_true_eq, Bool.not_eq_true'] at tx
      obtain ⟨⟨⟨⟨⟨⟨s1, s2⟩, s3⟩, s4⟩, s5⟩, s6⟩, s7⟩ := tx
      obtain ⟨fd, F⟩ := saysD_defs c1 (d := x.def) (List.mem_append_right _ (List.mem_map_of_mem hx))
      have F : FunD K "__init__" x.qual (defArgs x.st) (defBody x.st) (defScope x.st) [] [] (ma K (ga K x.name) "__init__") fd := F
      have hb : Binds K fd (x.self :: x.fs) [] := F.bindsN fun kV doc pm an cdv ct us hl => by
        rw [← s1]
        exact binds_ok (argsOf_eq ea) rfl (by rw [s1]; exact s2) (by rw [s1]; exact hl)
      subst en
      refine ⟨(List.nodup_cons.mp s2).2, s6, ga K x.name, ma K (ga K x.name) "__init__", fd, x.self :: x.fs, oexB_ok g2, glo g1, eqO_ok g5, g6, fun base => ?_, hb, fun f hf => eqO_ok (g7 f hf)⟩
      exact init_ok F (scB_ok s3) (glo g8) (baseB_ok g9) s4 (fun z => by rw [z] at s5; cases s5) s6 s7
  · have q := k7 _ (lookup_memA e)
    simp only [Bool.and_eq_true, decide_eq_true_eq] at q
    exact ⟨_, _, glo q.1, glo q.2.1, q.2.2⟩
  · obtain ⟨x, e1, rfl⟩ := Option.map_eq_some_iff.mp e
    have hx := List.mem_of_find?_eq_some e1
    have en : x.name = d := by simpa using List.find?_some e1
    have kx := k5 x hx
    simp only [xdB, Bool.and_eq_true, decide_eq_true_eq, List.all_eq_true] at kx
    obtain ⟨g1, g2, g3, g4, g5, g6, g7, g8, g9⟩ := kx
    subst en
    exact ⟨_, glo g1, xfB_ok g3, excB_ok g4, fun f hf => eqO_ok (g7 f hf)⟩
  · have hm := lookup_memA e
    have q := k8 _ hm
    refine ⟨t6 _ hm, ?_⟩
    simp only [isxB, Bool.and_eq_true] at q
    obtain ⟨q1, q2⟩ := q
    split at q2
    · rename_i D eD
      exact ⟨_, .ref D, .ref D, glo q1, .inl (PySem.W.mg_of X G eD), .own D, of_decide_eq_true q2⟩
    · rename_i eD
      split at q2
      · rename_i n' en
        simp only [Bool.and_eq_true, decide_eq_true_eq] at q2
        exact ⟨_, .ty n', .type n', glo q1, .inr ⟨PySem.W.mg_none_of X G eD, en, q2.1⟩, .ty n', q2.2⟩
      · cases q2
    · cases q2
  · obtain ⟨fd, F⟩ := saysD_defs c1 (d := q.def) (List.mem_append_left _ (List.mem_map_of_mem hq))
    exact ⟨_, fd, F, glo (k9 q hq)⟩
theorem pOf_ok {ds : List Dd} (nd : (ds.map (·.name)).Nodup) {q : Dd} (hq : q ∈ ds) : pOf ds q.name = some q.d := by
  induction ds with
  | nil => cases hq
  | cons p ds ih =>
    have nd' := List.nodup_cons.mp (show (p.name :: ds.map (·.name)).Nodup from nd)
    unfold pOf
    rw [List.find?_cons]
    by_cases e : p.name = q.name
    · rcases List.mem_cons.mp hq with rfl | hm
      · simp
      · exact absurd (e ▸ List.mem_map_of_mem hm) nd'.1
    · have e1 : (p.name == q.name) = false := by simpa using e
      rw [e1]
      rcases List.mem_cons.mp hq with rfl | hm
      · exact absurd rfl e
      · exact ih nd'.2 hm
end Mi
/-! Mi, part Z: a law's end. -/
namespace Mi
open PySem PySem.Spec PyProof.Rows L2
theorem rs_start {Z : Wd} {H : Hp} (hZ : ∀ b o, H b = some o → SzO o) : RS Z H [] [] H := ⟨Same.refl H, List.nodup_nil, rfl, fun a h => (by cases h), fun i c e => (by simp at e), hZ⟩
theorem law_end {l : PySem.W.OpenLaw} {M : Mo} {d : DefRec} {n k : Nat} {qv : Program} {loose : List Str} {XP : (Str → Option Value) → Heap → Prop} (hn : l.most = some 63) (hdf : d.params.defaults = []) (hT : moT M = true) {q : Dd} (hq : q ∈ M.ds) (hd : d.name = q.name) (h1 : q.d.n = 1)
    (hr : Room (k + 2) callerA) (hl : ∀ ns : List Int, ns.length ≤ 63 → ∃ m, callN (pOf M.ds) M.B k q.name [.scr ns] [] = .ok (wB true) m) :
    PySem.W.WalkO qv loose XP (hookM n M).says l.row.toRowW d [] (fun f vs => PySem.call f vs) := by
  have hT' := hT
  simp only [moT, Bool.and_eq_true, List.all_eq_true, decide_eq_true_eq] at hT'
  obtain ⟨_, t2, _, t4, _⟩ := hT'
  refine Mi.walk_ofG (l := l) (n := 63) (k := k + 2) (CX := fun w => L2.CX l.prog w) hn (by decide) hdf hr ?_ ?_
  · intro w mg fa h Y G hmg
    obtain ⟨K, KX, c⟩ := Y
    have FX := fx_of hT (P := l.prog) KX G c
    obtain ⟨fa', fd, ps, F, hm, _, _, hn', hb⟩ := calls_ok FX t2 (fun q hq => pOf_ok t4 hq) k q hq
    rw [hd, hm] at hmg
    cases hmg
    have hps1 : ∃ x', ps = [x'] := by
      rw [h1] at hn'
      match ps, hn' with
      | [a], _ => exact ⟨a, rfl⟩
    obtain ⟨x, rfl⟩ := hps1
    refine ⟨x, K, fd, _, KX, fun s u => hb s [u] rfl, fun H a ns hns hO hZ hS => ?_, fun base _ _ => F base⟩
    obtain ⟨m, e⟩ := hl ns hns
    refine ⟨h1.symm, 0, H, [], [], [.scr ns], rs_start hZ, .cons (.scr hS) .nil, Nat.zero_le _, ?_⟩
    rw [e]
    exact fun v H' G' ι' _ _ r => by
      cases r with
      | dat r => cases r; rfl
  · rintro w H s e s' ⟨_, _, _, _, _, _, _, _, _, _, _, _, h⟩
    exact h
end Mi
/-! Sp: texts as lists of codes; join and split. -/
namespace Sp
open PySem PySem.StrLaws PySem.Builtin.Str
abbrev cs (x : Str) : List Nat := x.cps.toList
def tx (l : List Nat) : Str := ⟨l.toArray⟩
@[simp] theorem cs_tx (l : List Nat) : cs (tx l) = l := by simp [cs, tx]
@[simp] theorem tx_cs (x : Str) : tx (cs x) = x := by
  apply Str.ext'
  simp [tx, cs]
theorem cs_inj {x y : Str} (h : cs x = cs y) : x = y := by rw [← tx_cs x, h, tx_cs]
theorem cs_app (x y : Str) : cs (x ++ y) = cs x ++ cs y := by
  show (x.cps ++ y.cps).toList = _
  rw [Array.toList_append]
theorem len_cs (x : Str) : x.length = (cs x).length := by simp [Str.length, cs]
theorem beq_cs (x y : Str) : (x == y) = (cs x == cs y) := by
  rw [Bool.eq_iff_iff, beq_iff_eq, beq_iff_eq]
  exact ⟨fun h => by rw [h], cs_inj⟩
/-! ### join -/
def jn (s : List Nat) : List (List Nat) → List Nat
  | [] => []
  | [x] => x
  | x :: y :: r => x ++ s ++ jn s (y :: r)
theorem cs_join (s : Str) (xs : List Str) : cs (Txt.join s xs) = jn (cs s) (xs.map cs) := by
  show cs (glued s xs) = _
  rw [glued_eq_join]
  induction xs with
  | nil => rfl
  | cons x r ih =>
    cases r with
    | nil => rfl
    | cons y r =>
      show cs (x ++ s ++ Str.join s (y :: r)) = _
      rw [cs_app, cs_app, ih]
      rfl
/-! ### split -/
def spl (y : List Nat) : Nat → List Nat → List (List Nat)
  | 0, l => [l]
  | n + 1, l => match y.isPrefixOf l with
    | true => [] :: spl y n (l.drop y.length)
    | false => match l with
      | [] => [[]]
      | c :: r => match spl y n r with
        | p :: ps => (c :: p) :: ps
        | [] => [[c]]
theorem spl_ne (y : List Nat) : ∀ (n : Nat) (l : List Nat), ∃ p ps, spl y n l = p :: ps
  | 0, l => ⟨_, _, rfl⟩
  | n + 1, l => by
    unfold spl
    cases y.isPrefixOf l with
    | true => exact ⟨_, _, rfl⟩
    | false => cases l with
      | nil => exact ⟨_, _, rfl⟩
      | cons c r =>
        obtain ⟨p, ps, e⟩ := spl_ne y n r
        simp only [e]
        exact ⟨_, _, rfl⟩
theorem spl_pre {y : List Nat} {n : Nat} {l : List Nat} (h : y.isPrefixOf l = true) : spl y (n + 1) l = [] :: spl y n (l.drop y.length) := by
  rw [spl.eq_def]
  simp only [h]
/-- glue a text ahead of the first part -/
def hd (a : List Nat) : List (List Nat) → List (List Nat)
  | [] => [a]
  | p :: ps => (a ++ p) :: ps
theorem spl_cons {y : List Nat} {n : Nat} {c : Nat} {r : List Nat} (h : y.isPrefixOf (c :: r) = false) : spl y (n + 1) (c :: r) = hd [c] (spl y n r) := by
  show (match y.isPrefixOf (c :: r) with
    | true => [] :: spl y n ((c :: r).drop y.length)
    | false => match spl y n r with
      | p :: ps => (c :: p) :: ps
      | [] => [[c]]) = _
  rw [h]
  cases spl y n r <;> rfl
theorem hd_hd (a b : List Nat) (l : List (List Nat)) : hd a (hd b l) = hd (a ++ b) l := by cases l <;> simp [hd]
theorem hd_nil {l : List (List Nat)} (h : ∃ p ps, l = p :: ps) : hd [] l = l := by obtain ⟨p, ps, rfl⟩ := h; rfl
theorem spl_skip {y : List Nat} : ∀ (j n : Nat) (l : List Nat), j ≤ l.length → l.length ≤ n → (∀ k, k < j → y.isPrefixOf (l.drop k) = false) → spl y n l = hd (l.take j) (spl y (n - j) (l.drop j))
  | 0, n, l, _, _, _ => by simp [hd_nil (spl_ne y n l)]
  | j + 1, n, [], h, _, _ => by simp at h
  | j + 1, 0, c :: r, _, h, _ => by simp at h
  | j + 1, n + 1, c :: r, h1, h2, h3 => by
    rw [spl_cons (h3 0 (Nat.succ_pos j))]
    rw [spl_skip j n r (by simpa using h1) (by simpa using h2) fun k hk => by simpa using h3 (k + 1) (by omega)]
    rw [hd_hd]
    simp
theorem spl_end {y : List Nat} (hy : y ≠ []) (n : Nat) : spl y n [] = [[]] := by
  cases n with
  | zero => rfl
  | succ n =>
    cases y with
    | nil => exact absurd rfl hy
    | cons _ _ => rfl
theorem spl_none {y : List Nat} (hy : y ≠ []) {n : Nat} {l : List Nat} (hn : l.length ≤ n) (h : ∀ k, k < l.length → y.isPrefixOf (l.drop k) = false) : spl y n l = [l] := by
  rw [spl_skip l.length n l (Nat.le_refl _) hn h]
  simp [spl_end hy, hd]
theorem at_pre {x y : Str} {k : Nat} (hy : cs y ≠ []) : At x y x.length k ↔ (cs y).isPrefixOf ((cs x).drop k) = true := by
  unfold At
  rw [subAt_eq, beq_iff_eq, List.isPrefixOf_iff_prefix, List.prefix_iff_eq_take, len_cs x, len_cs y]
  constructor
  · rintro ⟨h1, h2⟩
    exact h2.symm
  · intro h
    refine ⟨?_, h.symm⟩
    have := congrArg List.length h
    rw [List.length_take, List.length_drop] at this
    by_cases hk : k ≤ (cs x).length
    · omega
    · have h0 : (cs y).length = 0 := by omega
      exact absurd (List.length_eq_zero_iff.mp h0) hy
theorem parts_spl {x y : Str} (hy : cs y ≠ []) : ∀ (cuts : List Nat) (a f n : Nat), ChainG x y x.length a cuts f → (∀ k, f ≤ k → ¬ At x y x.length k) → a ≤ x.length → (cs x).length - a ≤ n → (partsFrom x y.length a cuts).map cs = spl (cs y) n ((cs x).drop a)
  | [], a, f, n, h, hn, ha, hl => by
    have e : f = a := h
    subst e
    rw [spl_none hy (by rw [List.length_drop]; exact hl) fun k _ => ?_]
    · show [cs (strSub x f x.length)] = _
      rw [show cs (strSub x f x.length) = ((cs x).drop f).take (x.length - f) from strSub_toList _ _ _, List.take_of_length_le (by rw [List.length_drop, len_cs]; exact Nat.le_refl _)]
    · cases q : (cs y).isPrefixOf (((cs x).drop f).drop k) with
      | false => rfl
      | true =>
        rw [List.drop_drop] at q
        exact absurd ((at_pre hy).mpr q) (hn (f + k) (by omega))
  | c :: r, a, f, n, h, hn, ha, hl => by
    obtain ⟨h1, h2, h3, h4⟩ := h
    have hc := h2.1
    have hw : 1 ≤ y.length := by
      rw [len_cs]
      exact List.length_pos_iff.mpr hy
    rw [len_cs x] at ha hc
    rw [spl_skip (c - a) n _ (by rw [List.length_drop]; omega) (by rw [List.length_drop]; exact hl) fun k hk => ?_]
    · rw [List.drop_drop, show a + (c - a) = c by omega]
      obtain ⟨n', hn'⟩ : ∃ n', n - (c - a) = n' + 1 := ⟨n - (c - a) - 1, by omega⟩
      rw [hn', spl_pre ((at_pre hy).mp h2)]
      show cs (strSub x a c) :: (partsFrom x y.length (c + y.length) r).map cs = hd _ ([] :: spl (cs y) n' (((cs x).drop c).drop (cs y).length))
      rw [List.drop_drop, ← len_cs y, parts_spl hy r (c + y.length) f n' h4 hn (by rw [len_cs x]; omega) (by omega)]
      rw [show cs (strSub x a c) = ((cs x).drop a).take (c - a) from strSub_toList _ _ _]
      simp [hd]
    · cases q : (cs y).isPrefixOf (((cs x).drop a).drop k) with
      | false => rfl
      | true =>
        rw [List.drop_drop] at q
        exact absurd ((at_pre hy).mpr q) (h3 (a + k) (by omega) (by omega))
/-- the machine's split is the plain one -/
theorem cs_split {x y : Str} (hy : cs y ≠ []) (hk : strKind y = 1) : (Txt.split x y).map cs = spl (cs y) (cs x).length (cs x) := by
  have hw : 1 ≤ y.length := by
    rw [len_cs]
    exact List.length_pos_iff.mpr hy
  obtain ⟨f, hG, hn⟩ := occ_tight x y hw
  have none_of : (∀ k, ¬ At x y x.length k) → [x].map cs = spl (cs y) (cs x).length (cs x) := fun h => by
    rw [spl_none hy (Nat.le_refl _) fun k _ => ?_]
    · rfl
    · cases q : (cs y).isPrefixOf ((cs x).drop k) with
      | false => rfl
      | true => exact absurd ((at_pre hy).mpr q) (h k)
  unfold Txt.split
  split
  · rename_i hc
    refine none_of fun k hA => ?_
    rw [Bool.or_eq_true, decide_eq_true_eq, decide_eq_true_eq] at hc
    rcases hc with hc | hc
    · have := hA.1
      omega
    · rw [hk] at hc
      have := PyProof.Rows.strKind_pos x
      omega
  · split
    · rename_i he
      rw [List.isEmpty_iff.mp he] at hG
      have e : f = 0 := hG
      subst e
      exact none_of fun k => hn k (Nat.zero_le k)
    · rw [partsBetween_eq, parts_spl hy _ 0 f (cs x).length hG hn (Nat.zero_le _) (by omega)]
      rfl
/-! ### split of what was joined -/
theorem not_pre {y0 : Nat} {y : List Nat} {c : Nat} {r : List Nat} (h : c ≠ y0) : (y0 :: y).isPrefixOf (c :: r) = false := by
  rw [List.isPrefixOf_cons₂]
  have : (y0 == c) = false := by simpa using fun e : y0 = c => h e.symm
  rw [this]
  rfl
theorem pre_self (y r : List Nat) : y.isPrefixOf (y ++ r) = true := List.isPrefixOf_iff_prefix.mpr (List.prefix_append _ _)
theorem spl_free {y0 : Nat} {y : List Nat} : ∀ (p : List Nat) (n : Nat), p.length ≤ n → y0 ∉ p → spl (y0 :: y) n p = [p]
  | [], n, _, _ => spl_end (by simp) n
  | c :: p, 0, h, _ => by simp at h
  | c :: p, n + 1, h, hf => by
    rw [spl_cons (not_pre (by intro e; exact hf (by rw [e]; exact List.mem_cons_self ..))), spl_free p n (by simpa using h) fun q => hf (List.mem_cons_of_mem _ q)]
    rfl
theorem spl_app {y0 : Nat} {y r : List Nat} : ∀ (p : List Nat) (n : Nat), p.length + (y.length + 1) + r.length ≤ n → y0 ∉ p → ∃ n', r.length ≤ n' ∧ spl (y0 :: y) n (p ++ (y0 :: y) ++ r) = p :: spl (y0 :: y) n' r
  | [], 0, h, _ => by simp at h
  | [], n + 1, h, _ => by
    refine ⟨n, by simp at h; omega, ?_⟩
    rw [List.nil_append, spl_pre (pre_self _ _)]
    simp
  | c :: p, 0, h, _ => by simp at h
  | c :: p, n + 1, h, hf => by
    obtain ⟨n', h1, h2⟩ := spl_app (y0 := y0) (y := y) (r := r) p n (by simp at h; omega) fun q => hf (List.mem_cons_of_mem _ q)
    refine ⟨n', h1, ?_⟩
    rw [List.cons_append, List.cons_append, spl_cons (not_pre (by intro e; exact hf (by rw [e]; exact List.mem_cons_self ..))), h2]
    rfl
theorem spl_jn {y0 : Nat} {y : List Nat} : ∀ (ps : List (List Nat)) (n : Nat), ps ≠ [] → (jn (y0 :: y) ps).length ≤ n → (∀ p ∈ ps, y0 ∉ p) → spl (y0 :: y) n (jn (y0 :: y) ps) = ps
  | [], _, h, _, _ => absurd rfl h
  | [p], n, _, h, hf => spl_free p n h (hf p (List.mem_cons_self ..))
  | p :: q :: r, n, _, h, hf => by
    have e : jn (y0 :: y) (p :: q :: r) = p ++ (y0 :: y) ++ jn (y0 :: y) (q :: r) := rfl
    rw [e] at h ⊢
    obtain ⟨n', h1, h2⟩ := spl_app (y0 := y0) (y := y) (r := jn (y0 :: y) (q :: r)) p n (by simp at h ⊢; omega) (hf p (List.mem_cons_self ..))
    rw [h2, spl_jn (q :: r) n' (by simp) h1 fun z hz => hf z (List.mem_cons_of_mem _ hz)]
/-- .. of the machine -/
theorem split_join {y0 : Nat} {y : List Nat} {s : Str} {xs : List Str} (hs : cs s = y0 :: y) (hk : strKind s = 1) (hx : xs ≠ []) (hf : ∀ x ∈ xs, y0 ∉ cs x) : Txt.split (Txt.join s xs) s = xs := by
  have h := cs_split (x := Txt.join s xs) (y := s) (by rw [hs]; simp) hk
  rw [cs_join, hs, spl_jn _ _ (by simpa using hx) (Nat.le_refl _) (by simpa using hf)] at h
  have inj : ∀ {a b : List Str}, a.map cs = b.map cs → a = b := by
    intro a
    induction a with
    | nil => intro b h; cases b <;> simp_all
    | cons u a ih =>
      intro b h
      cases b with
      | nil => simp at h
      | cons v b =>
        simp only [List.map_cons, List.cons.injEq] at h
        rw [cs_inj h.1, ih h.2]
  exact inj h
/-- each part of a split text: joined, the text again -/
theorem join_split (x y : Str) : Txt.join y (Txt.split x y) = x := by
  show glued y (Txt.split x y) = x
  rw [glued_eq_join]
  exact PySem.StrLaws.join_split x y
end Sp
/-! Pl, part 1: tools to read the language's meaning off a term. -/
namespace Mi
open PySem PySem.Spec PyProof.Rows L2
theorem callN_at {P : Str → Option Df} {B : Fe} {f : Str} {d : Df} (h : P f = some d) (k : Nat) (ws : List W) (m : Sto) : callN P B (k + 1) f ws m = bodyN { B with call := callN P B k, L := m.length } d ws m := by
  show (match P f with
    | none => Res.no
    | some d => bodyN { B with call := callN P B k, L := m.length } d ws m) = _
  rw [h]
theorem gOk_nil (m : Sto) : gOk m [] := fun g h => by cases h
theorem lcGo_pure {gs : List (Nat × List W)} {f : W → M (Option W)} {g : W → Option W} {m : Sto} : ∀ {ws : List W}, gOk m gs → (∀ w ∈ ws, f w m = .ok (g w) m) → lcGo gs f ws m = .ok (ws.filterMap g) m
  | [], hg, h => by rw [lcGo, if_pos hg]; rfl
  | w :: r, hg, h => by
    rw [lcGo, if_pos hg, h w (List.mem_cons_self ..), bind_ok, lcGo_pure hg fun w hw => h w (List.mem_cons_of_mem _ hw), bind_ok]
    cases e : g w with
    | none => rw [List.filterMap_cons_none e]
    | some y => rw [List.filterMap_cons_some e]
theorem lcGo_map {gs : List (Nat × List W)} {f : W → M (Option W)} {g : W → W} {m : Sto} {ws : List W} (hg : gOk m gs) (h : ∀ w ∈ ws, f w m = .ok (some (g w)) m) : lcGo gs f ws m = .ok (ws.map g) m := by
  rw [lcGo_pure (g := fun w => some (g w)) hg h]
  rw [List.filterMap_eq_map']
theorem mkL_dat {α : Type} (f : α → PyData) (l : List α) : mkL (l.map fun a => W.dat (f a)) = .dat (.list (l.map f)) := by
  rw [show (l.map fun a => W.dat (f a)) = (l.map f).map W.dat by rw [List.map_map]; rfl, mkL_map]
theorem boolAll_map {α : Type} (p : α → Bool) : ∀ l : List α, boolAll (l.map fun a => W.dat (.bool (p a))) = some (l.map p)
  | [] => rfl
  | a :: l => by simp only [List.map_cons, boolAll, boolAll_map p l]
theorem biW_all {α : Type} (p : α → Bool) (l : List α) (m : Sto) : biW .all [W.dat (.list (l.map fun a => .bool (p a)))] m = some (wB (l.all p)) := by
  show ((lstOf m (W.dat (.list (l.map fun a => .bool (p a))))).bind fun ws => (boolAll ws).map fun bs => wB (bs.all id)) = _
  rw [show lstOf m (W.dat (.list (l.map fun a => .bool (p a)))) = some (l.map fun a => W.dat (.bool (p a))) by show some _ = some _; rw [List.map_map]; rfl]
  rw [Option.bind_some, boolAll_map, Option.map_some, List.all_map]
  rfl
theorem biW_any {α : Type} (p : α → Bool) (l : List α) (m : Sto) : biW .any [W.dat (.list (l.map fun a => .bool (p a)))] m = some (wB (l.any p)) := by
  show ((lstOf m (W.dat (.list (l.map fun a => .bool (p a))))).bind fun ws => (boolAll ws).map fun bs => wB (bs.any id)) = _
  rw [show lstOf m (W.dat (.list (l.map fun a => .bool (p a)))) = some (l.map fun a => W.dat (.bool (p a))) by show some _ = some _; rw [List.map_map]; rfl]
  rw [Option.bind_some, boolAll_map, Option.map_some, List.any_map]
  rfl
end Mi
/-! Pl, part 2: rules for data. -/
namespace Mi
open PySem PySem.Spec PyProof.Rows L2
@[simp] theorem tru_b (m : Sto) (b : Bool) : tru m (.dat (.bool b)) = some b := rfl
@[simp] theorem tru_n (m : Sto) : tru m (.dat .none) = some false := rfl
@[simp] theorem tru_i (m : Sto) (i : Int) : tru m (.dat (.int i)) = some (i != 0) := rfl
@[simp] theorem grds_dat (m : Sto) (d : PyData) : grds m (.dat d) = [] := rfl
@[simp] theorem grds_tup (m : Sto) (xs : List W) : grds m (.tup xs) = [] := rfl
@[simp] theorem grds_lst (m : Sto) (xs : List W) : grds m (.lst xs) = [] := rfl
@[simp] theorem seqOf_tuple (m : Sto) (ds : List PyData) : seqOf m (.dat (.tuple ds)) = some (ds.map .dat) := rfl
@[simp] theorem seqOf_list (m : Sto) (ds : List PyData) : seqOf m (.dat (.list ds)) = some (ds.map .dat) := rfl
@[simp] theorem iterOf_tuple (m : Sto) (ds : List PyData) : iterOf m (.dat (.tuple ds)) = some (ds.map .dat) := rfl
@[simp] theorem iterOf_list (m : Sto) (ds : List PyData) : iterOf m (.dat (.list ds)) = some (ds.map .dat) := rfl
@[simp] theorem iterOf_str (m : Sto) (x : Str) : iterOf m (.dat (.str x)) = some (x.cps.toList.map fun c => wS ⟨#[c]⟩) := rfl
@[simp] theorem tupOf_tuple (ds : List PyData) : tupOf (.dat (.tuple ds)) = some (ds.map .dat) := rfl
@[simp] theorem tupOf_str (x : Str) : tupOf (.dat (.str x)) = none := rfl
@[simp] theorem tupOf_list (x : List PyData) : tupOf (.dat (.list x)) = none := rfl
@[simp] theorem tupOf_int (x : Int) : tupOf (.dat (.int x)) = none := rfl
@[simp] theorem tupOf_bool (x : Bool) : tupOf (.dat (.bool x)) = none := rfl
@[simp] theorem tupOf_none : tupOf (.dat .none) = none := rfl
@[simp] theorem lstOf_list (m : Sto) (ds : List PyData) : lstOf m (.dat (.list ds)) = some (ds.map .dat) := rfl
@[simp] theorem datOf_dat (m : Sto) (d : PyData) : datOf m (.dat d) = some d := rfl
@[simp] theorem wipe_one (σ : En) (i : Nat) : wipeE σ [i] = σ.set i none := rfl
@[simp] theorem wipe_two (σ : En) (i j : Nat) : wipeE σ [i, j] = (σ.set j none).set i none := rfl
@[simp] theorem bindT_one (m : Sto) (σ : En) (i : Nat) (w : W) : bindT m σ [i] w = some (σ.set i (some w)) := rfl
@[simp] theorem bindT_two (m : Sto) (σ : En) (i j : Nat) (a b : W) : bindT m σ [i, j] (.tup [a, b]) = some ((σ.set i (some a)).set j (some b)) := rfl
@[simp] theorem grds_zip (m : Sto) (d e : PyData) : grds m (.itr 1 [.dat d, .dat e]) = [] := rfl
@[simp] theorem grds_enum (m : Sto) (d : PyData) : grds m (.itr 0 [.dat d]) = [] := rfl
@[simp] theorem grds_rng (m : Sto) (d : PyData) : grds m (.itr 2 [.dat d]) = [] := rfl
theorem zipW_map {α β : Type} (f : α → W) (g : β → W) : ∀ (as : List α) (bs : List β), zipW (as.map f) (bs.map g) = (as.zip bs).map fun q => .tup [f q.1, g q.2]
  | [], _ => by simp [zipW]
  | _ :: _, [] => by simp [zipW]
  | a :: as, b :: bs => by simp [zipW, zipW_map f g as bs]
theorem iterOf_zip (m : Sto) (as bs : List PyData) : iterOf m (.itr 1 [.dat (.tuple as), .dat (.list bs)]) = some ((as.zip bs).map fun q => .tup [.dat q.1, .dat q.2]) := by
  show some (zipW (as.map W.dat) (bs.map W.dat)) = _
  rw [zipW_map]
theorem lim_le {n : Nat} (h : n ≤ 1000000) : n ≤ lim := h
theorem eqW_dat (m : Sto) (d e : PyData) (h1 : SeqAt.shaped d = true) (h2 : SeqAt.shaped e = true) : eqW m (.dat d) (.dat e) = some (PyData.eqv d e) := by
  simp [eqW, h1, h2]
theorem eqX_str (m : Sto) (d : PyData) (x : Str) (h1 : SeqAt.shaped d = true) (h2 : SeqAt.shaped (.str x) = true) : eqX m (.dat d) (.dat (.str x)) = some (PyData.eqv d (.str x)) := by
  unfold eqX
  rw [tupOf_str]
  split
  · rename_i h; cases h
  · exact eqW_dat m d _ h1 h2
theorem eqX_int (m : Sto) (i j : Int) : eqX m (wI i) (wI j) = some (decide (i = j)) := by
  show (if (true && true) = true then some (PyData.eqv (.int i) (.int j)) else none) = _
  simp only [PyData.eqv]
  rfl
theorem eqW_int (m : Sto) (i j : Int) : eqW m (wI i) (wI j) = some (decide (i = j)) := eqX_int m i j
theorem in_tab (m : Sto) (a : Str) (kvs : List (Str × W)) : inW m (wS a) (.tab kvs) = some (kvs.lookup a).isSome := rfl
theorem ix_tab (m : Sto) (a : Str) (kvs : List (Str × W)) : ixW m (.tab kvs) (wS a) = kvs.lookup a := rfl
theorem ix_0 (m : Sto) (d : PyData) (ds : List PyData) : ixW m (.dat (.tuple (d :: ds))) (wI 0) = some (.dat d) := by
  simp [ixW, L2.atI, L2.ixN]
theorem eqX_ss {m : Sto} {a b : Str} (h1 : a.cps.all (· < 0x110000) = true) (h2 : b.cps.all (· < 0x110000) = true) : eqX m (wS a) (wS b) = some (decide (a = b)) := by
  unfold eqX
  show (if (SeqAt.shaped (.str a) && SeqAt.shaped (.str b)) = true then some (PyData.eqv (.str a) (.str b)) else none) = _
  have e : ∀ x : Str, x.cps.all (· < 0x110000) = true → SeqAt.shaped (.str x) = true := fun x h => by simp [SeqAt.shaped, PyData.canLay0, PyData.strOk, h, PyData.depth]
  rw [e a h1, e b h2]
  simp only [PyData.eqv]
  rfl
theorem eqX_nil (m : Sto) (ds : List PyData) : eqX m (.dat (.tuple ds)) (.dat (.tuple [])) = some ds.isEmpty := by
  cases ds <;> simp [eqX]
theorem eqX_tup (m : Sto) (ds es : List PyData) (h1 : SeqAt.shaped (.tuple ds) = true) (h2 : SeqAt.shaped (.tuple es) = true) : eqX m (.dat (.tuple ds)) (.dat (.tuple es)) = some (PyData.eqv (.tuple ds) (.tuple es)) := by
  unfold eqX
  rw [tupOf_tuple, tupOf_tuple]
  cases ds with
  | nil => cases es <;> simp [PyData.eqv, PyData.eqvAll]
  | cons d ds => cases es with
    | nil => simp [PyData.eqv, PyData.eqvAll]
    | cons e es =>
      simp only [List.map_cons, List.isEmpty_cons, Bool.or_self, Bool.false_eq_true, if_false]
      exact eqW_dat m _ _ h1 h2
theorem shaped_str {x : Str} (h : PyData.strOk x = true) : SeqAt.shaped (.str x) = true := by
  simp [SeqAt.shaped, PyData.canLay0, h, PyData.depth]
theorem lcGo_mapF {α : Type} {gs : List (Nat × List W)} {f : W → M (Option W)} {u v : α → W} {m : Sto} {l : List α} (hg : gOk m gs) (h : ∀ a ∈ l, f (u a) m = .ok (some (v a)) m) : lcGo gs f (l.map u) m = .ok (l.map v) m := by
  induction l with
  | nil => rw [List.map_nil, lcGo, if_pos hg]; rfl
  | cons a l ih => rw [List.map_cons, lcGo, if_pos hg, h a (List.mem_cons_self ..), bind_ok, ih fun a ha => h a (List.mem_cons_of_mem _ ha)]; rfl
theorem lcGo_filF {α : Type} {gs : List (Nat × List W)} {f : W → M (Option W)} {u v : α → W} {p : α → Bool} {m : Sto} {l : List α} (hg : gOk m gs) (h : ∀ a ∈ l, f (u a) m = .ok (if p a then some (v a) else none) m) : lcGo gs f (l.map u) m = .ok ((l.filter p).map v) m := by
  induction l with
  | nil => rw [List.map_nil, lcGo, if_pos hg]; rfl
  | cons a l ih =>
    rw [List.map_cons, lcGo, if_pos hg, h a (List.mem_cons_self ..), bind_ok, ih fun a ha => h a (List.mem_cons_of_mem _ ha), bind_ok, List.filter_cons]
    cases p a <;> rfl
@[simp] theorem isStar_var (i : Nat) : isStar (.var i) = false := rfl
@[simp] theorem isStar_con (d : PyData) : isStar (.con d) = false := rfl
@[simp] theorem isStar_glo (x : Str) : isStar (.glo x) = false := rfl
@[simp] theorem isStar_bin (o : BOp) (a b : Ex) : isStar (.bin o a b) = false := rfl
@[simp] theorem isStar_neg (a : Ex) : isStar (.neg a) = false := rfl
@[simp] theorem isStar_cmp (o : COp) (a b : Ex) : isStar (.cmp o a b) = false := rfl
@[simp] theorem isStar_chn (o p : COp) (a b c : Ex) : isStar (.chn o p a b c) = false := rfl
@[simp] theorem isStar_and (a b : Ex) : isStar (.and a b) = false := rfl
@[simp] theorem isStar_or (a b : Ex) : isStar (.or a b) = false := rfl
@[simp] theorem isStar_not (a : Ex) : isStar (.not a) = false := rfl
@[simp] theorem isStar_ite (c a b : Ex) : isStar (.ite c a b) = false := rfl
@[simp] theorem isStar_tup (es : List Ex) : isStar (.tup es) = false := rfl
@[simp] theorem isStar_lst (bx : Bool) (es : List Ex) : isStar (.lst bx es) = false := rfl
@[simp] theorem isStar_cpy (bx : Bool) (a : Ex) : isStar (.cpy bx a) = false := rfl
@[simp] theorem isStar_dic0  : isStar (.dic0 ) = false := rfl
@[simp] theorem isStar_call (f : Str) (es : List Ex) : isStar (.call f es) = false := rfl
@[simp] theorem isStar_isi (a : Ex) (ts : List Ty) : isStar (.isi a ts) = false := rfl
@[simp] theorem isStar_bi (f : Bi) (es : List Ex) : isStar (.bi f es) = false := rfl
@[simp] theorem isStar_met (m : Me) (o : Ex) (es : List Ex) : isStar (.met m o es) = false := rfl
@[simp] theorem isStar_ix (a i : Ex) : isStar (.ix a i) = false := rfl
@[simp] theorem isStar_sl (a : Ex) (l u : Option Ex) : isStar (.sl a l u) = false := rfl
@[simp] theorem isStar_rev (a : Ex) : isStar (.rev a) = false := rfl
@[simp] theorem isStar_lc (bx : Bool) (own ts : List Nat) (it : Ex) (cs : List Ex) (e : Ex) : isStar (.lc bx own ts it cs e) = false := rfl
@[simp] theorem evEs_nil (F : Fe) (σ : En) (m : Sto) : evEs F [] σ m = .ok [] m := rfl
theorem evEs_cons (F : Fe) (e : Ex) (r : List Ex) (σ : En) (m : Sto) (h : isStar e = false) : evEs F (e :: r) σ m = (evE F e σ m).bind fun x m => (evEs F r σ m).bind fun ys m => .ok (x :: ys) m := by
  show ((evE F e σ m).bind fun x m => (evEs F r σ m).bind fun ys m => .ok (match isStar e, x with
    | true, .tup xs => xs ++ ys
    | _, x => x :: ys) m) = _
  rw [h]
@[simp] theorem evEs_var (F : Fe) (i : Nat) (r : List Ex) (σ : En) (m : Sto) : evEs F (.var i :: r) σ m = (evE F (.var i) σ m).bind fun x m => (evEs F r σ m).bind fun ys m => .ok (x :: ys) m := evEs_cons _ _ _ _ _ rfl
@[simp] theorem evEs_con (F : Fe) (d : PyData) (r : List Ex) (σ : En) (m : Sto) : evEs F (.con d :: r) σ m = (evE F (.con d) σ m).bind fun x m => (evEs F r σ m).bind fun ys m => .ok (x :: ys) m := evEs_cons _ _ _ _ _ rfl
@[simp] theorem evEs_glo (F : Fe) (x : Str) (r : List Ex) (σ : En) (m : Sto) : evEs F (.glo x :: r) σ m = (evE F (.glo x) σ m).bind fun x m => (evEs F r σ m).bind fun ys m => .ok (x :: ys) m := evEs_cons _ _ _ _ _ rfl
@[simp] theorem evEs_bin (F : Fe) (o : BOp) (a b : Ex) (r : List Ex) (σ : En) (m : Sto) : evEs F (.bin o a b :: r) σ m = (evE F (.bin o a b) σ m).bind fun x m => (evEs F r σ m).bind fun ys m => .ok (x :: ys) m := evEs_cons _ _ _ _ _ rfl
@[simp] theorem evEs_neg (F : Fe) (a : Ex) (r : List Ex) (σ : En) (m : Sto) : evEs F (.neg a :: r) σ m = (evE F (.neg a) σ m).bind fun x m => (evEs F r σ m).bind fun ys m => .ok (x :: ys) m := evEs_cons _ _ _ _ _ rfl
@[simp] theorem evEs_cmp (F : Fe) (o : COp) (a b : Ex) (r : List Ex) (σ : En) (m : Sto) : evEs F (.cmp o a b :: r) σ m = (evE F (.cmp o a b) σ m).bind fun x m => (evEs F r σ m).bind fun ys m => .ok (x :: ys) m := evEs_cons _ _ _ _ _ rfl
@[simp] theorem evEs_chn (F : Fe) (o p : COp) (a b c : Ex) (r : List Ex) (σ : En) (m : Sto) : evEs F (.chn o p a b c :: r) σ m = (evE F (.chn o p a b c) σ m).bind fun x m => (evEs F r σ m).bind fun ys m => .ok (x :: ys) m := evEs_cons _ _ _ _ _ rfl
@[simp] theorem evEs_and (F : Fe) (a b : Ex) (r : List Ex) (σ : En) (m : Sto) : evEs F (.and a b :: r) σ m = (evE F (.and a b) σ m).bind fun x m => (evEs F r σ m).bind fun ys m => .ok (x :: ys) m := evEs_cons _ _ _ _ _ rfl
@[simp] theorem evEs_or (F : Fe) (a b : Ex) (r : List Ex) (σ : En) (m : Sto) : evEs F (.or a b :: r) σ m = (evE F (.or a b) σ m).bind fun x m => (evEs F r σ m).bind fun ys m => .ok (x :: ys) m := evEs_cons _ _ _ _ _ rfl
@[simp] theorem evEs_not (F : Fe) (a : Ex) (r : List Ex) (σ : En) (m : Sto) : evEs F (.not a :: r) σ m = (evE F (.not a) σ m).bind fun x m => (evEs F r σ m).bind fun ys m => .ok (x :: ys) m := evEs_cons _ _ _ _ _ rfl
@[simp] theorem evEs_ite (F : Fe) (c a b : Ex) (r : List Ex) (σ : En) (m : Sto) : evEs F (.ite c a b :: r) σ m = (evE F (.ite c a b) σ m).bind fun x m => (evEs F r σ m).bind fun ys m => .ok (x :: ys) m := evEs_cons _ _ _ _ _ rfl
@[simp] theorem evEs_tup (F : Fe) (es : List Ex) (r : List Ex) (σ : En) (m : Sto) : evEs F (.tup es :: r) σ m = (evE F (.tup es) σ m).bind fun x m => (evEs F r σ m).bind fun ys m => .ok (x :: ys) m := evEs_cons _ _ _ _ _ rfl
@[simp] theorem evEs_lst (F : Fe) (bx : Bool) (es : List Ex) (r : List Ex) (σ : En) (m : Sto) : evEs F (.lst bx es :: r) σ m = (evE F (.lst bx es) σ m).bind fun x m => (evEs F r σ m).bind fun ys m => .ok (x :: ys) m := evEs_cons _ _ _ _ _ rfl
@[simp] theorem evEs_cpy (F : Fe) (bx : Bool) (a : Ex) (r : List Ex) (σ : En) (m : Sto) : evEs F (.cpy bx a :: r) σ m = (evE F (.cpy bx a) σ m).bind fun x m => (evEs F r σ m).bind fun ys m => .ok (x :: ys) m := evEs_cons _ _ _ _ _ rfl
@[simp] theorem evEs_dic0 (F : Fe)  (r : List Ex) (σ : En) (m : Sto) : evEs F (.dic0  :: r) σ m = (evE F (.dic0 ) σ m).bind fun x m => (evEs F r σ m).bind fun ys m => .ok (x :: ys) m := evEs_cons _ _ _ _ _ rfl
@[simp] theorem evEs_call (F : Fe) (f : Str) (es : List Ex) (r : List Ex) (σ : En) (m : Sto) : evEs F (.call f es :: r) σ m = (evE F (.call f es) σ m).bind fun x m => (evEs F r σ m).bind fun ys m => .ok (x :: ys) m := evEs_cons _ _ _ _ _ rfl
@[simp] theorem evEs_isi (F : Fe) (a : Ex) (ts : List Ty) (r : List Ex) (σ : En) (m : Sto) : evEs F (.isi a ts :: r) σ m = (evE F (.isi a ts) σ m).bind fun x m => (evEs F r σ m).bind fun ys m => .ok (x :: ys) m := evEs_cons _ _ _ _ _ rfl
@[simp] theorem evEs_bi (F : Fe) (f : Bi) (es : List Ex) (r : List Ex) (σ : En) (m : Sto) : evEs F (.bi f es :: r) σ m = (evE F (.bi f es) σ m).bind fun x m => (evEs F r σ m).bind fun ys m => .ok (x :: ys) m := evEs_cons _ _ _ _ _ rfl
@[simp] theorem evEs_met (F : Fe) (f : Me) (o : Ex) (es : List Ex) (r : List Ex) (σ : En) (m : Sto) : evEs F (.met f o es :: r) σ m = (evE F (.met f o es) σ m).bind fun x m => (evEs F r σ m).bind fun ys m => .ok (x :: ys) m := evEs_cons _ _ _ _ _ rfl
@[simp] theorem evEs_ix (F : Fe) (a i : Ex) (r : List Ex) (σ : En) (m : Sto) : evEs F (.ix a i :: r) σ m = (evE F (.ix a i) σ m).bind fun x m => (evEs F r σ m).bind fun ys m => .ok (x :: ys) m := evEs_cons _ _ _ _ _ rfl
@[simp] theorem evEs_sl (F : Fe) (a : Ex) (l u : Option Ex) (r : List Ex) (σ : En) (m : Sto) : evEs F (.sl a l u :: r) σ m = (evE F (.sl a l u) σ m).bind fun x m => (evEs F r σ m).bind fun ys m => .ok (x :: ys) m := evEs_cons _ _ _ _ _ rfl
@[simp] theorem evEs_rev (F : Fe) (a : Ex) (r : List Ex) (σ : En) (m : Sto) : evEs F (.rev a :: r) σ m = (evE F (.rev a) σ m).bind fun x m => (evEs F r σ m).bind fun ys m => .ok (x :: ys) m := evEs_cons _ _ _ _ _ rfl
@[simp] theorem evEs_lc (F : Fe) (bx : Bool) (own ts : List Nat) (it : Ex) (cs : List Ex) (e : Ex) (r : List Ex) (σ : En) (m : Sto) : evEs F (.lc bx own ts it cs e :: r) σ m = (evE F (.lc bx own ts it cs e) σ m).bind fun x m => (evEs F r σ m).bind fun ys m => .ok (x :: ys) m := evEs_cons _ _ _ _ _ rfl
@[simp] theorem evEs_star (F : Fe) (e : Ex) (r : List Ex) (σ : En) (m : Sto) : evEs F (.star e :: r) σ m = (evE F e σ m).bind fun x m => (lift (seqOf m x) m).bind fun xs m => (evEs F r σ m).bind fun ys m => .ok (xs ++ ys) m := by
  show (((evE F e σ m).bind fun x m => lift ((seqOf m x).map W.tup) m).bind fun x m => (evEs F r σ m).bind fun ys m => .ok (match true, x with
    | true, .tup xs => xs ++ ys
    | _, x => x :: ys) m) = _
  rw [bind_bind]
  congr 1
  funext x m
  cases seqOf m x <;> rfl
@[simp] theorem newL_f (ws : List W) (m : Sto) : newL false ws m = .ok (mkL ws) m := rfl
@[simp] theorem newL_t (ws : List W) (m : Sto) : newL true ws m = .ok (.ref m.length) (m ++ [.lst ws]) := rfl
theorem biW_len (w : W) (m : Sto) : biW .len [w] m = (lenW m w).map fun n => wI n := rfl
theorem lenW_str (x : Str) (m : Sto) (h : x.length ≤ lim) : lenW m (.dat (.str x)) = some x.length := if_pos h
theorem lenW_tuple (ds : List PyData) (m : Sto) : lenW m (.dat (.tuple ds)) = some ds.length := by
  show some ((ds.map W.dat).length) = _
  rw [List.length_map]
theorem lenW_list (ds : List PyData) (m : Sto) : lenW m (.dat (.list ds)) = some ds.length := by
  show some ((ds.map W.dat).length) = _
  rw [List.length_map]
theorem cmp_le (m : Sto) (i j : Int) : cmpW .le (wI i) (wI j) m = some (decide (i ≤ j)) := rfl
theorem cmp_lt (m : Sto) (i j : Int) : cmpW .lt (wI i) (wI j) m = some (decide (i < j)) := rfl
theorem cmp_gt (m : Sto) (i j : Int) : cmpW .gt (wI i) (wI j) m = some (decide (j < i)) := rfl
theorem cmp_ge (m : Sto) (i j : Int) : cmpW .ge (wI i) (wI j) m = some (decide (j ≤ i)) := rfl
theorem cmp_in (m : Sto) (x y : W) : cmpW .isin x y m = inW m x y := rfl
theorem cmp_nin (m : Sto) (x y : W) : cmpW .notin x y m = (inW m x y).map (!·) := rfl
theorem cmp_eq (m : Sto) (x y : W) : cmpW .eq x y m = eqX m x y := rfl
theorem cmp_ne (m : Sto) (x y : W) : cmpW .ne x y m = (eqW m x y).map (!·) := rfl
theorem in_str (m : Sto) (a b : Str) : inW m (wS a) (wS b) = some (hasS a b) := rfl
theorem frz_dat (n : Nat) (m : Sto) (d : PyData) : frz n m 40 (.dat d) = some (.dat d) := rfl
theorem cellL_app (m : Sto) (ws : List W) : cellL (m ++ [.lst ws]) m.length = some ws := by simp [cellL]
theorem set_app (m : Sto) (c c' : Cell) : (m ++ [c]).set m.length c' = m ++ [c'] := by simp
theorem setCell_app (m : Sto) (ws zs new : List W) (h : zs.length ≤ lim) : setCell m.length m.length zs new (m ++ [.lst ws]) = some (m ++ [.lst zs]) := by
  simp [setCell, h]
theorem seqOf_app (m : Sto) (ws : List W) : seqOf (m ++ [.lst ws]) (.ref m.length) = some ws := cellL_app m ws
theorem strAll_map {α : Type} (f : α → Str) : ∀ l : List α, strAll (l.map fun a => wS (f a)) = some (l.map f)
  | [] => rfl
  | a :: l => by simp only [List.map_cons, strAll, strAll_map f l]
theorem met_join (x : Str) (w : W) (m : Sto) : metW .join (wS x) [w] m = (seqOf m w).bind fun ws => (strAll ws).bind fun ys => if sumLen ys + ys.length * x.length ≤ lim then some (wS (PySem.Txt.join x ys)) else none := rfl
theorem join_ok {s : Str} {xs : List Str} {w : W} {m : Sto} (hs : seqOf m w = some (xs.map wS)) (h : sumLen xs + xs.length * s.length ≤ 1000000) : metW .join (wS s) [w] m = some (wS (PySem.Txt.join s xs)) := by
  have e : strAll (xs.map wS) = some xs := by
    have := strAll_map (fun x : Str => x) xs
    rw [List.map_id'] at this
    exact this
  rw [met_join, hs]
  show ((strAll (xs.map wS)).bind fun ys => if sumLen ys + ys.length * s.length ≤ lim then some (wS (PySem.Txt.join s ys)) else none) = _
  rw [e]
  exact if_pos h
theorem seqOf_strs (m : Sto) (xs : List Str) : seqOf m (.dat (.list (xs.map PyData.str))) = some (xs.map wS) := by
  rw [seqOf_list, List.map_map]
  rfl
theorem seqOf_strT (m : Sto) (xs : List Str) : seqOf m (.dat (.tuple (xs.map PyData.str))) = some (xs.map wS) := by
  rw [seqOf_tuple, List.map_map]
  rfl
theorem atI_k {α : Type} {xs : List α} {k : Nat} {x : α} (h : xs[k]? = some x) : L2.atI xs (k : Int) = some x := by
  have hl := (List.getElem?_eq_some_iff.mp h).1
  have e : L2.ixN xs.length (k : Int) = some k := by
    unfold L2.ixN
    rw [if_pos (Int.natCast_nonneg k), if_pos (by omega), Int.toNat_natCast]
  unfold L2.atI
  rw [e]
  exact h
theorem ix_nat {m : Sto} {ds : List PyData} {k : Nat} {d : PyData} (h : ds[k]? = some d) : ixW m (.dat (.tuple ds)) (wI k) = some (.dat d) := by
  show (seqOf m (.dat (.tuple ds))).bind (fun ws => L2.atI ws k) = _
  rw [seqOf_tuple, Option.bind_some]
  exact atI_k (by rw [List.getElem?_map, h]; rfl)
theorem ixl_nat {m : Sto} {ds : List PyData} {k : Nat} {d : PyData} (h : ds[k]? = some d) : ixW m (.dat (.list ds)) (wI k) = some (.dat d) := by
  show (seqOf m (.dat (.list ds))).bind (fun ws => L2.atI ws k) = _
  rw [seqOf_list, Option.bind_some]
  exact atI_k (by rw [List.getElem?_map, h]; rfl)
theorem ix_1 (m : Sto) (a d : PyData) (ds : List PyData) : ixW m (.dat (.tuple (a :: d :: ds))) (wI 1) = some (.dat d) := ix_nat (k := 1) rfl
theorem ix_2 (m : Sto) (a b d : PyData) (ds : List PyData) : ixW m (.dat (.tuple (a :: b :: d :: ds))) (wI 2) = some (.dat d) := ix_nat (k := 2) rfl
theorem ix_3 (m : Sto) (a b c d : PyData) (ds : List PyData) : ixW m (.dat (.tuple (a :: b :: c :: d :: ds))) (wI 3) = some (.dat d) := ix_nat (k := 3) rfl
theorem ixl_0 (m : Sto) (d : PyData) (ds : List PyData) : ixW m (.dat (.list (d :: ds))) (wI 0) = some (.dat d) := ixl_nat (k := 0) rfl
theorem rcv_join (x : Str) (m : Sto) : rcv .join (wS x) m = true := rfl
theorem rcv_split (x : Str) (m : Sto) : rcv .split (wS x) m = true := rfl
theorem rcv_app (m : Sto) (ws : List W) : rcv .append (.ref m.length) (m ++ [.lst ws]) = true := by simp [rcv, isBox, cellL_app]
theorem rcv_ext (m : Sto) (ws : List W) : rcv .extend (.ref m.length) (m ++ [.lst ws]) = true := by simp [rcv, isBox, cellL_app]
theorem mut_app (m : Sto) (ws : List W) (v : W) (h : ws.length + 1 ≤ lim) : mutW m.length .append (.ref m.length) [v] (m ++ [.lst ws]) = some (wN, m ++ [.lst (ws ++ [v])]) := by
  simp [mutW, cellL_app, setCell_app, h]
theorem mut_ext (m : Sto) (ws : List W) (ds : List PyData) (h : ws.length + ds.length ≤ lim) : mutW m.length .extend (.ref m.length) [.dat (.list ds)] (m ++ [.lst ws]) = some (wN, m ++ [.lst (ws ++ ds.map W.dat)]) := by
  simp [mutW, cellL_app, setCell_app, h]
theorem isMut_f : isMut .join = false ∧ isMut .split = false ∧ isMut .count = false ∧ isMut .index = false := ⟨rfl, rfl, rfl, rfl⟩
theorem isMut_t : isMut .append = true ∧ isMut .extend = true ∧ isMut .insert = true ∧ isMut .pop = true := ⟨rfl, rfl, rfl, rfl⟩
theorem bi_str_s (x : Str) (m : Sto) : biW .str [wS x] m = some (wS x) := rfl
theorem bi_str_i (i : Int) (m : Sto) (h : i.natAbs.log2 < 1920) : biW .str [wI i] m = some (wS (toString i)) := if_pos h
def cutD (ds : List PyData) (l u : Option Int) : List PyData := (ds.drop (HT.sIx ds.length 0 l)).take (HT.sIx ds.length ds.length u - HT.sIx ds.length 0 l)
theorem cutW_map (ds : List PyData) (l u : Option Int) : cutW (ds.map W.dat) l u = (cutD ds l u).map W.dat := by
  simp [cutW, cutD, List.map_take, List.map_drop]
theorem sl_tuple (m : Sto) (ds : List PyData) (l u : Option Int) : slW m (.dat (.tuple ds)) l u = some (.dat (.tuple (cutD ds l u))) := by
  show some (if HT.sIx (ds.map W.dat).length 0 l = 0 ∧ HT.sIx (ds.map W.dat).length (ds.map W.dat).length u = (ds.map W.dat).length then W.dat (.tuple ds) else mkT (cutW (ds.map W.dat) l u)) = _
  rw [cutW_map, mkT_map, List.length_map]
  split
  · rename_i h
    rw [cutD, h.1, h.2]
    simp
  · rfl
theorem sl_list (m : Sto) (ds : List PyData) (l u : Option Int) : slW m (.dat (.list ds)) l u = some (.dat (.list (cutD ds l u))) := by
  show some (mkL (cutW (ds.map W.dat) l u)) = _
  rw [cutW_map, mkL_map]
theorem hasS_one (c : Nat) (x : Str) : hasS ⟨#[c]⟩ x = decide (c ∈ x.cps.toList) := PySem.StrLaws.found_one x c
end Mi
/-! Pl, part 3: sizes of data. -/
namespace Mi
open PySem
mutual
/-- a bound of what repr writes -/
def wt : PyData → Nat
  | .none => 4
  | .bool _ => 5
  | .int i => i.natAbs.log2 + 2
  | .str x => 10 * x.length + 2
  | .list xs => wts xs + 2
  | .tuple xs => wts xs + 3
  | .dict _ => 2
def wts : List PyData → Nat
  | [] => 0
  | x :: xs => wt x + 2 + wts xs
end
theorem wts_mem : ∀ {xs : List PyData} {x : PyData}, x ∈ xs → wt x ≤ wts xs
  | y :: xs, x, h => by
    simp only [wts]
    rcases List.mem_cons.mp h with rfl | h
    · omega
    · have := wts_mem h
      omega
theorem wts_len : ∀ xs : List PyData, xs.length ≤ wts xs
  | [] => Nat.zero_le _
  | x :: xs => by
    have := wts_len xs
    simp only [wts, List.length_cons]
    omega
theorem wts_app : ∀ xs ys : List PyData, wts (xs ++ ys) = wts xs + wts ys
  | [], ys => by simp [wts]
  | x :: xs, ys => by
    simp only [List.cons_append, wts, wts_app xs ys]
    omega
theorem wts_rev (xs : List PyData) : wts xs.reverse = wts xs := by
  induction xs with
  | nil => rfl
  | cons x xs ih => simp only [List.reverse_cons, wts_app, ih, wts]; omega
theorem wts_take (n : Nat) (xs : List PyData) : wts (xs.take n) ≤ wts xs := by
  have h := wts_app (xs.take n) (xs.drop n)
  rw [List.take_append_drop] at h
  omega
theorem wts_drop (n : Nat) (xs : List PyData) : wts (xs.drop n) ≤ wts xs := by
  have h := wts_app (xs.take n) (xs.drop n)
  rw [List.take_append_drop] at h
  omega
theorem depthAll_mem : ∀ {xs : List PyData} {x : PyData}, x ∈ xs → x.depth ≤ PyData.depthAll xs
  | y :: xs, x, h => by
    simp only [PyData.depthAll]
    rcases List.mem_cons.mp h with rfl | h
    · omega
    · have := depthAll_mem h
      omega
theorem depthAll_le {n : Nat} : ∀ {xs : List PyData}, PyData.depthAll xs ≤ n ↔ ∀ x ∈ xs, x.depth ≤ n
  | [] => by simp [PyData.depthAll]
  | y :: xs => by simp [PyData.depthAll, Nat.max_le, depthAll_le (xs := xs)]
theorem canLayAll_mem : ∀ {xs : List PyData}, PyData.canLayAll0 xs = true ↔ ∀ x ∈ xs, x.canLay0 = true
  | [] => by simp [PyData.canLayAll0]
  | y :: xs => by simp [PyData.canLayAll0, canLayAll_mem (xs := xs)]
mutual
/-- no text, no list, no tuple in it is long -/
def smD : PyData → Bool
  | .str x => decide (x.length ≤ 4000)
  | .list xs => decide (xs.length ≤ 4000) && smDs xs
  | .tuple xs => decide (xs.length ≤ 4000) && smDs xs
  | .none => true
  | .bool _ => true
  | .int _ => true
  | .dict _ => true
def smDs : List PyData → Bool
  | [] => true
  | x :: xs => smD x && smDs xs
end
theorem smDs_mem : ∀ {xs : List PyData}, smDs xs = true ↔ ∀ x ∈ xs, smD x = true
  | [] => by simp [smDs]
  | y :: xs => by simp [smDs, smDs_mem (xs := xs)]
/-- data of moderate size, no dict in it -/
structure Tm (d : PyData) : Prop where
  lay : d.canLay0 = true
  sm : smD d = true
  dep : d.depth ≤ 20
theorem Tm.shaped {d : PyData} (h : Tm d) : SeqAt.shaped d = true := by
  have := h.dep
  simp only [SeqAt.shaped, h.lay, Bool.true_and, decide_eq_true_eq]
  omega
theorem Tm.str_le {x : Str} (h : Tm (.str x)) : x.length ≤ 4000 := by
  have := h.sm
  simpa [smD] using this
theorem Tm.str {x : Str} (h : Tm (.str x)) : x.length ≤ lim := Nat.le_trans h.str_le (by decide)
theorem Tm.mem {ds : List PyData} (h : Tm (.tuple ds)) {d : PyData} (hd : d ∈ ds) : Tm d := by
  refine ⟨canLayAll_mem.mp (by simpa [PyData.canLay0] using h.lay) d hd, ?_, ?_⟩
  · have h1 := h.sm
    simp only [smD, Bool.and_eq_true] at h1
    exact smDs_mem.mp h1.2 d hd
  · have h1 := h.dep
    have h2 := depthAll_mem hd
    simp only [PyData.depth] at h1
    omega
theorem Tm.len_le {ds : List PyData} (h : Tm (.tuple ds)) : ds.length ≤ 4000 := by
  have h1 := h.sm
  simp only [smD, Bool.and_eq_true, decide_eq_true_eq] at h1
  exact h1.1
theorem Tm.len {ds : List PyData} (h : Tm (.tuple ds)) : ds.length ≤ lim := Nat.le_trans h.len_le (by decide)
theorem Tm.isStr {d : PyData} (h : Tm d) : ∀ x, d = .str x → x.length ≤ lim := fun x e => by subst e; exact h.str
theorem Tm.of_str {x : Str} (h1 : x.cps.all (· < 0x110000) = true) (h2 : x.length ≤ 4000) : Tm (.str x) := ⟨by simpa [PyData.canLay0, PyData.strOk] using h1, by simpa [smD] using h2, by simp [PyData.depth]⟩
theorem Tm.of_int (i : Int) : Tm (.int i) := ⟨by simp [PyData.canLay0], by simp [smD], by simp [PyData.depth]⟩
theorem Tm.of_none : Tm .none := ⟨by simp [PyData.canLay0], by simp [smD], by simp [PyData.depth]⟩
theorem Tm.of_tuple {ds : List PyData} (hl : ds.length ≤ 4000) (h : ∀ d ∈ ds, Tm d) (hd : ∀ d ∈ ds, d.depth ≤ 19) : Tm (.tuple ds) := by
  refine ⟨?_, ?_, ?_⟩
  · simp only [PyData.canLay0]
    exact canLayAll_mem.mpr fun d hd => (h d hd).lay
  · simp only [smD, Bool.and_eq_true, decide_eq_true_eq]
    exact ⟨hl, smDs_mem.mpr fun d hd => (h d hd).sm⟩
  · simp only [PyData.depth]
    have := depthAll_le.mpr hd
    omega
/-- .. or a dict -/
def Tq (d : PyData) : Prop := Tm d ∨ ∃ k, d = .dict k
theorem Tq.tup {ds : List PyData} (h : Tq (.tuple ds)) : Tm (.tuple ds) := h.resolve_right fun ⟨k, e⟩ => by cases e
theorem Tq.isStr {d : PyData} (h : Tq d) : ∀ x, d = .str x → x.length ≤ lim := fun x e => by
  subst e
  exact (h.resolve_right fun ⟨k, e⟩ => by cases e).str
theorem shaped_next : SeqAt.shaped (.tuple [.str "next"]) = true := by decide +kernel
theorem shaped_s (x : Str) (h : x.cps.all (· < 0x110000) = true) : SeqAt.shaped (.str x) = true := shaped_str h
end Mi
/-! Pl, part 4: ends by what is wanted of them; loops. -/
namespace Mi
open PySem
def Res.to {α : Type} (r : Res α) (Q : α → Sto → Prop) : Prop := match r with
  | .ok a m => Q a m
  | _ => False
def SR.to (r : SR) (N : En → Sto → Prop) (R : W → Sto → Prop) : Prop := match r with
  | .nx σ m => N σ m
  | .rt w m => R w m
  | _ => False
@[simp] theorem to_ok {α : Type} {a : α} {m : Sto} {Q : α → Sto → Prop} : (Res.ok a m).to Q = Q a m := rfl
@[simp] theorem to_nx {σ : En} {m : Sto} {N : En → Sto → Prop} {R : W → Sto → Prop} : (SR.nx σ m).to N R = N σ m := rfl
@[simp] theorem to_rt {w : W} {m : Sto} {N : En → Sto → Prop} {R : W → Sto → Prop} : (SR.rt w m).to N R = R w m := rfl
theorem Res.to_mono {α : Type} {r : Res α} {Q Q' : α → Sto → Prop} (h : r.to Q) (k : ∀ a m, Q a m → Q' a m) : r.to Q' := by
  cases r with
  | ok a m => exact k a m h
  | _ => exact h.elim
theorem Res.to_bind {α β : Type} {r : Res α} {f : α → Sto → Res β} {Q : β → Sto → Prop} (h : r.to fun a m => (f a m).to Q) : (r.bind f).to Q := by
  cases r with
  | ok a m => exact h
  | _ => exact h.elim
theorem Res.to_calm {α : Type} {r : Res α} {Q : α → Sto → Prop} (h : r.to Q) : r.calm.to Q := by
  cases r with
  | ok a m => exact h
  | _ => exact h.elim
theorem Res.to_eq {α : Type} {r : Res α} {Q : α → Sto → Prop} (h : r.to Q) : ∃ a m, r = .ok a m ∧ Q a m := by
  cases r with
  | ok a m => exact ⟨a, m, rfl, h⟩
  | _ => exact h.elim
theorem Res.to_of {α : Type} {r : Res α} {a : α} {m : Sto} {Q : α → Sto → Prop} (e : r = .ok a m) (h : Q a m) : r.to Q := by
  rw [e]
  exact h
theorem Res.to_st {α : Type} {r : Res α} {σ : En} {f : α → Sto → SR} {N : En → Sto → Prop} {R : W → Sto → Prop} (h : r.to fun a m => (f a m).to N R) : (r.st σ f).to N R := by
  cases r with
  | ok a m => exact h
  | _ => exact h.elim
theorem SR.to_then {r : SR} {f : En → Sto → SR} {N : En → Sto → Prop} {R : W → Sto → Prop} (h : r.to (fun σ m => (f σ m).to N R) R) : (r.then f).to N R := by
  cases r with
  | nx σ m => exact h
  | rt w m => exact h
  | _ => exact h.elim
theorem SR.to_mono {r : SR} {N N' : En → Sto → Prop} {R R' : W → Sto → Prop} (h : r.to N R) (k1 : ∀ σ m, N σ m → N' σ m) (k2 : ∀ w m, R w m → R' w m) : r.to N' R' := by
  cases r with
  | nx σ m => exact k1 σ m h
  | rt w m => exact k2 w m h
  | _ => exact h.elim
theorem evSs_nil {F : Fe} {σ : En} {m : Sto} : evSs F [] σ m = .nx σ m := rfl
theorem evSs_cons {F : Fe} {s : Mi.St} {r : List Mi.St} {σ : En} {m : Sto} : evSs F (s :: r) σ m = (evS F s σ m).then fun σ m => evSs F r σ m := rfl
theorem to_cons {F : Fe} {s : Mi.St} {r : List Mi.St} {σ : En} {m : Sto} {N : En → Sto → Prop} {R : W → Sto → Prop} (h : (evS F s σ m).to (fun σ m => (evSs F r σ m).to N R) R) : (evSs F (s :: r) σ m).to N R := by
  rw [evSs_cons]
  exact SR.to_then h
/-- a def that cuts the store at its end -/
theorem fin_dat {n : Nat} {r : SR} {d : PyData} {m : Sto} (h : r.to (fun _ _ => False) fun w m' => w = .dat d ∧ m'.take n = m) : fin true n r = .ok (.dat d) m := by
  cases r with
  | rt w m' =>
    obtain ⟨rfl, h⟩ := h
    show (match frz n m' 40 (.dat d) with
      | some w' => Res.ok w' (m'.take n)
      | none => .no) = _
    rw [frz_dat, h]
  | _ => exact h.elim
theorem fin_to {n : Nat} {r : SR} {Q : W → Sto → Prop} (h : r.to (fun _ m => Q wN m) Q) : (fin false n r).to Q := by
  cases r with
  | rt w m' => exact h
  | nx σ m' => exact h
  | _ => exact h.elim
theorem forGo_to {f : W → En → Sto → SR} {R : W → Sto → Prop} {Inv : Nat → En → Sto → Prop} {ws : List W} (step : ∀ i x σ m, ws[i]? = some x → Inv i σ m → (f x σ m).to (Inv (i + 1)) R) : ∀ (n i : Nat) (σ : En) (m : Sto), n = ws.length - i → i ≤ ws.length → Inv i σ m → (forGo [] f (ws.drop i) σ m).to (Inv ws.length) R
  | 0, i, σ, m, hn, hi, h => by
    have e : i = ws.length := by omega
    subst e
    rw [List.drop_length, forGo, if_pos (gOk_nil m)]
    exact h
  | n + 1, i, σ, m, hn, hi, h => by
    have hl : i < ws.length := by omega
    rw [List.drop_eq_getElem_cons hl, forGo, if_pos (gOk_nil m)]
    exact SR.to_then (SR.to_mono (step i ws[i] σ m (by simp [hl]) h) (fun σ' m' h' => forGo_to step n (i + 1) σ' m' (by omega) (by omega) h') fun _ _ h => h)
/-- a for over what is not a list of the store -/
theorem fors_to {F : Fe} {ts : List Nat} {it : Ex} {b : List Mi.St} {σ : En} {m m1 : Sto} {w : W} {ws : List W} {R : W → Sto → Prop} (Inv : Nat → En → Sto → Prop) (h1 : evE F it σ m = .ok w m1) (h2 : iterOf m1 w = some ws) (h3 : grds m1 w = []) (h0 : Inv 0 σ m1)
    (step : ∀ i x σ m, ws[i]? = some x → Inv i σ m → ((lift (bindT m σ ts x) m).st σ fun σ m => evSs F b σ m).to (Inv (i + 1)) R) : (evS F (.fors ts it b) σ m).to (Inv ws.length) R := by
  rw [evS, h1]
  simp only [bind_ok, h2, lift_some, st_ok, h3]
  exact forGo_to (ws := ws) step ws.length 0 σ m1 (by omega) (Nat.zero_le _) h0
theorem lcGo_to {f : W → M (Option W)} {Inv : Nat → List W → Sto → Prop} {ws : List W} (step : ∀ i x ys m, ws[i]? = some x → Inv i ys m → (f x m).to fun o m => Inv (i + 1) (ys ++ o.toList) m) : ∀ (n i : Nat) (ys : List W) (m : Sto), n = ws.length - i → i ≤ ws.length → Inv i ys m →
    (lcGo [] f (ws.drop i) m).to fun zs m => Inv ws.length (ys ++ zs) m
  | 0, i, ys, m, hn, hi, h => by
    have e : i = ws.length := by omega
    subst e
    rw [List.drop_length, lcGo, if_pos (gOk_nil m), to_ok, List.append_nil]
    exact h
  | n + 1, i, ys, m, hn, hi, h => by
    have hl : i < ws.length := by omega
    rw [List.drop_eq_getElem_cons hl, lcGo, if_pos (gOk_nil m)]
    refine Res.to_bind (Res.to_mono (step i ws[i] ys m (by simp [hl]) h) fun o m' h' => Res.to_bind (Res.to_mono (lcGo_to step n (i + 1) (ys ++ o.toList) m' (by omega) (by omega) h') fun zs m2 h2 => ?_))
    rw [to_ok]
    cases o with
    | none => simpa using h2
    | some y => simpa using h2
/-- a comprehension over what is not a list of the store -/
theorem lc_to {F : Fe} {bx : Bool} {own ts : List Nat} {it : Ex} {cs : List Ex} {e : Ex} {σ : En} {m m1 : Sto} {w : W} {ws : List W} {Q : W → Sto → Prop} (Inv : Nat → List W → Sto → Prop) (h1 : evE F it σ m = .ok w m1) (h2 : iterOf m1 w = some ws) (h3 : grds m1 w = []) (hl : ws.length ≤ lim) (h0 : Inv 0 [] m1)
    (step : ∀ i x ys m, ws[i]? = some x → Inv i ys m → ((lift (bindT m (wipeE σ own) ts x) m).bind fun σ' m => (evC F cs σ' m).bind fun k m => match k with
      | true => (evE F e σ' m).bind fun y m => .ok (some y) m
      | false => .ok none m).to fun o m => Inv (i + 1) (ys ++ o.toList) m)
    (fin : ∀ ys m, Inv ws.length ys m → (newL bx ys m).to Q) : (evE F (.lc bx own ts it cs e) σ m).to Q := by
  rw [evE, h1]
  simp only [bind_ok, h2, lift_some, h3, decide_eq_true hl]
  refine Res.to_bind (Res.to_mono (Res.to_calm (lcGo_to (ws := ws) step ws.length 0 [] m1 (by omega) (Nat.zero_le _) h0)) fun ys m h => fin ys m (by simpa using h))
end Mi
/-! Op: the operations' defs, what they compute. -/
namespace Op
open PySem Mi
def bdis_name : List Mi.St := [.ifs (.or (.not (.isi (.var 0) [.str])) (.not (.chn .le .le (.con (.int 1)) (.bi .len [.var 0]) (.glo "MAX_NAME_LENGTH")))) [.ret (.con (.bool false))] [],
    .ret (.bi .all [.lc false [1] [1] (.var 0) [] (.cmp .isin (.var 1) (.glo "LETTERS"))])]
def dis_name : Df := ⟨1, 2, false, bdis_name⟩
def bdis_integer_from : List Mi.St := [.ret (.and (.isi (.var 0) [.int]) (.and (.not (.isi (.var 0) [.bool])) (.chn .le .le (.var 1) (.var 0) (.var 2))))]
def dis_integer_from : Df := ⟨3, 3, false, bdis_integer_from⟩
def bdis_index : List Mi.St := [.ret (.and (.isi (.var 0) [.int]) (.and (.not (.isi (.var 0) [.bool])) (.chn .le .lt (.con (.int 0)) (.var 0) (.var 1))))]
def dis_index : Df := ⟨2, 2, false, bdis_index⟩
def bdare_arguments : List Mi.St := [.ifs (.or (.not (.isi (.var 0) [.tuple])) (.not (.chn .le .le (.con (.int 1)) (.bi .len [.var 0]) (.glo "MAX_ARGUMENTS")))) [.ret (.con (.bool false))] [],
    .ret (.bi .all [.lc false [2] [2] (.var 0) [] (.or (.call "is_name" [.var 2]) (.call "is_index" [.var 2, .var 1]))])]
def dare_arguments : Df := ⟨2, 3, false, bdare_arguments⟩
def bdis_step : List Mi.St := [.ifs (.not (.isi (.var 0) [.tuple])) [.ret (.con (.bool false))] [],
    .ifs (.cmp .eq (.bi .len [.var 0]) (.con (.int 2))) [.ret (.and (.cmp .eq (.ix (.var 0) (.con (.int 0))) (.glo "SAY")) (.call "is_name" [.ix (.var 0) (.con (.int 1))]))] [],
    .ifs (.cmp .eq (.bi .len [.var 0]) (.con (.int 3))) [.ret (.and (.cmp .eq (.ix (.var 0) (.con (.int 0))) (.glo "CALL")) (.and (.call "is_name" [.ix (.var 0) (.con (.int 1))]) (.call "are_arguments" [.ix (.var 0) (.con (.int 2)), .var 1])))] [],
    .ret (.cmp .eq (.var 0) (.glo "NEXT_STEP"))]
def dis_step : Df := ⟨2, 2, false, bdis_step⟩
def bdis_body : List Mi.St := [.ifs (.or (.not (.isi (.var 0) [.tuple])) (.not (.bi .all [.lc false [2] [2] (.var 0) [] (.call "is_step" [.var 2, .var 1])]))) [.ret (.con (.bool false))] [],
    .ret (.cmp .le (.met .count (.var 0) [.glo "NEXT_STEP"]) (.con (.int 1)))]
def dis_body : Df := ⟨2, 3, false, bdis_body⟩
def bdare_names : List Mi.St := [.ret (.and (.isi (.var 0) [.tuple]) (.bi .all [.lc false [1] [1] (.var 0) [] (.call "is_name" [.var 1])]))]
def dare_names : Df := ⟨1, 2, false, bdare_names⟩
def bdis_part : List Mi.St := [.ifs (.cmp .eq (.var 0) (.glo "NAME")) [.ret (.call "is_name" [.var 1])] [],
    .ifs (.cmp .eq (.var 0) (.glo "SUPERCLASSES")) [.ret (.call "are_names" [.var 1])] [],
    .ifs (.cmp .eq (.var 0) (.glo "COUNT")) [.ret (.call "is_integer_from" [.var 1, .con (.int 1), .glo "MAX_PARAMETERS"])] [],
    .ifs (.cmp .eq (.var 0) (.glo "POINT")) [.ret (.and (.call "are_names" [.var 1]) (.chn .le .le (.con (.int 1)) (.bi .len [.var 1]) (.glo "MAX_PARAMETERS")))] [],
    .ret (.call "is_body" [.var 1, .glo "MAX_PARAMETERS"])]
def dis_part : Df := ⟨2, 2, false, bdis_part⟩
def bdis_operation : List Mi.St := [.ifs (.or (.not (.isi (.var 0) [.tuple])) (.or (.cmp .eq (.var 0) (.tup [])) (.or (.not (.isi (.ix (.var 0) (.con (.int 0))) [.str])) (.cmp .notin (.ix (.var 0) (.con (.int 0))) (.glo "PARTS"))))) [.ret (.con (.bool false))] [],
    .star 1 2 (.var 0),
    .ifs (.cmp .ne (.bi .len [.var 2]) (.bi .len [.ix (.glo "PARTS") (.var 1)])) [.ret (.con (.bool false))] [],
    .ret (.bi .all [.lc false [3, 4] [3, 4] (.itZip (.ix (.glo "PARTS") (.var 1)) (.var 2)) [] (.call "is_part" [.var 3, .var 4])])]
def dis_operation : Df := ⟨1, 5, false, bdis_operation⟩
def bdwrite_point : List Mi.St := [.ret (.met .join (.con (.str ",")) [.var 0])]
def dwrite_point : Df := ⟨1, 1, false, bdwrite_point⟩
def bdwrite_step : List Mi.St := [.asg (.nm 1) (.lc true [2] [2] (.sl (.var 0) none (some (.con (.int 2)))) [] (.bi .str [.var 2])),
    .ifs (.cmp .eq (.ix (.var 0) (.con (.int 0))) (.glo "CALL")) [.ex (.met .append (.var 1) [.met .join (.con (.str ",")) [.lc false [3] [3] (.ix (.var 0) (.con (.int 2))) [] (.bi .str [.var 3])]])] [],
    .ret (.met .join (.con (.str " ")) [.var 1])]
def dwrite_step : Df := ⟨1, 4, true, bdwrite_step⟩
def bdwrite_body : List Mi.St := [.ret (.ite (.cmp .eq (.var 0) (.tup [])) (.glo "EMPTY") (.met .join (.con (.str "; ")) [.lc false [1] [1] (.var 0) [] (.call "write_step" [.var 1])]))]
def dwrite_body : Df := ⟨1, 2, false, bdwrite_body⟩
def bdwrite_words : List Mi.St := [.ifs (.cmp .eq (.var 0) (.glo "SUPERCLASSES")) [.ret (.cpy false (.var 1))] [],
    .ifs (.cmp .eq (.var 0) (.glo "POINT")) [.ret (.lst false [.call "write_point" [.var 1]])] [],
    .ret (.ite (.cmp .eq (.var 0) (.glo "BODY")) (.lst false [.call "write_body" [.var 1]]) (.lst false [.bi .str [.var 1]]))]
def dwrite_words : Df := ⟨2, 2, false, bdwrite_words⟩
def bdwrite_operation : List Mi.St := [.ifs (.not (.call "is_operation" [.var 0])) [.raise "InvalidOperation" [.var 0]] [],
    .star 1 2 (.var 0),
    .asg (.nm 3) (.lst true [.var 1]),
    .fors [4, 5] (.itZip (.ix (.glo "PARTS") (.var 1)) (.var 2)) [.ex (.met .extend (.var 3) [.call "write_words" [.var 4, .var 5]])],
    .ret (.met .join (.con (.str " ")) [.var 3])]
def dwrite_operation : Df := ⟨1, 6, true, bdwrite_operation⟩
def bdread_item : List Mi.St := [.ifs (.and (.chn .le .le (.con (.int 1)) (.bi .len [.var 0]) (.con (.int 2))) (.bi .all [.lc false [1] [1] (.var 0) [] (.cmp .isin (.var 1) (.glo "DIGITS"))])) [.ret (.bi .int [.var 0])] [],
    .ret (.var 0)]
def dread_item : Df := ⟨1, 2, false, bdread_item⟩
def bdread_step : List Mi.St := [.mat (.met .split (.var 0) [.con (.str " ")]) [.cas (some [1, 2]) (some (.cmp .eq (.var 1) (.glo "SAY"))) [.ret (.tup [.glo "SAY", .var 2])], .cas (some [1, 3, 4]) (some (.cmp .eq (.var 1) (.glo "CALL"))) [.ret (.tup [.glo "CALL", .var 3, .bi .tuple [.lc false [5] [5] (.met .split (.var 4) [.con (.str ",")]) [] (.call "read_item" [.var 5])]])], .cas (some [1]) (some (.cmp .eq (.var 1) (.ix (.glo "NEXT_STEP") (.con (.int 0))))) [.ret (.glo "NEXT_STEP")], .cas none none [.ret (.con .none)]]]
def dread_step : Df := ⟨1, 6, false, bdread_step⟩
def bdread_body : List Mi.St := [.ret (.ite (.cmp .eq (.var 0) (.glo "EMPTY")) (.tup []) (.bi .tuple [.lc false [1] [1] (.met .split (.var 0) [.con (.str "; ")]) [] (.call "read_step" [.var 1])]))]
def dread_body : Df := ⟨1, 2, false, bdread_body⟩
def bdread_part : List Mi.St := [.ifs (.cmp .eq (.var 0) (.glo "SUPERCLASSES")) [.ret (.bi .tuple [.var 1])] [],
    .ifs (.cmp .eq (.var 1) (.lst false [])) [.ret (.con .none)] [],
    .ifs (.cmp .eq (.var 0) (.glo "BODY")) [.ret (.call "read_body" [.met .join (.con (.str " ")) [.var 1]])] [],
    .ifs (.cmp .eq (.var 0) (.glo "POINT")) [.ret (.bi .tuple [.met .split (.ix (.var 1) (.con (.int 0))) [.con (.str ",")]])] [],
    .ret (.ite (.cmp .eq (.var 0) (.glo "COUNT")) (.call "read_item" [.ix (.var 1) (.con (.int 0))]) (.ix (.var 1) (.con (.int 0))))]
def dread_part : Df := ⟨2, 2, false, bdread_part⟩
def bdparsed : List Mi.St := [.star 1 2 (.met .split (.var 0) [.con (.str " ")]),
    .ifs (.cmp .notin (.var 1) (.glo "PARTS")) [.ret (.con .none)] [],
    .asg (.nm 3) (.tup [.var 1, .star (.lc false [4, 5] [4, 5] (.itEnum (.ix (.glo "PARTS") (.var 1))) [] (.call "read_part" [.var 5, .sl (.var 2) (some (.var 4)) none]))]),
    .ret (.ite (.and (.call "is_operation" [.var 3]) (.cmp .eq (.call "write_operation" [.var 3]) (.var 0))) (.var 3) (.con .none))]
def dparsed : Df := ⟨1, 6, false, bdparsed⟩
def bdread_operation : List Mi.St := [.ifs (.not (.isi (.var 0) [.str])) [.raise "InvalidText" [.con (.int 0)]] [],
    .asg (.nm 1) (.call "parsed" [.var 0]),
    .ifs (.cmp .isn (.var 1) (.con .none)) [.raise "InvalidText" [.con (.int 1)]] [],
    .ret (.var 1)]
def dread_operation : Df := ⟨1, 2, false, bdread_operation⟩
def tabW : List (Str × W) := [("class", .dat (.tuple [.str "name", .str "superclasses"])), ("remove", .dat (.tuple [.str "name"])), ("function", .dat (.tuple [.str "name", .str "count"])), ("define", .dat (.tuple [.str "name", .str "point", .str "body"])), ("drop", .dat (.tuple [.str "name", .str "point"])), ("decide", .dat (.tuple [.str "name", .str "point", .str "body"])), ("reduce", .dat (.tuple [.str "name"])), ("watch", .dat (.tuple [.str "name", .str "point"]))]
/-- what the module must hold -/
structure Has (P : Str → Option Df) (B : Fe) : Prop where
  is_name : P "is_name" = some dis_name
  is_integer_from : P "is_integer_from" = some dis_integer_from
  is_index : P "is_index" = some dis_index
  are_arguments : P "are_arguments" = some dare_arguments
  is_step : P "is_step" = some dis_step
  is_body : P "is_body" = some dis_body
  are_names : P "are_names" = some dare_names
  is_part : P "is_part" = some dis_part
  is_operation : P "is_operation" = some dis_operation
  write_point : P "write_point" = some dwrite_point
  write_step : P "write_step" = some dwrite_step
  write_body : P "write_body" = some dwrite_body
  write_words : P "write_words" = some dwrite_words
  write_operation : P "write_operation" = some dwrite_operation
  read_item : P "read_item" = some dread_item
  read_step : P "read_step" = some dread_step
  read_body : P "read_body" = some dread_body
  read_part : P "read_part" = some dread_part
  parsed : P "parsed" = some dparsed
  read_operation : P "read_operation" = some dread_operation
  LETTERS : B.con "LETTERS" = some (wS "abcdefghijklmnopqrstuvwxyz")
  MAX_NAME_LENGTH : B.con "MAX_NAME_LENGTH" = some (wI 8)
  MAX_ARGUMENTS : B.con "MAX_ARGUMENTS" = some (wI 3)
  MAX_PARAMETERS : B.con "MAX_PARAMETERS" = some (wI 3)
  SAY : B.con "SAY" = some (wS "say")
  CALL : B.con "CALL" = some (wS "call")
  NEXT_STEP : B.con "NEXT_STEP" = some (.dat (.tuple [.str "next"]))
  NAME : B.con "NAME" = some (wS "name")
  SUPERCLASSES : B.con "SUPERCLASSES" = some (wS "superclasses")
  COUNT : B.con "COUNT" = some (wS "count")
  POINT : B.con "POINT" = some (wS "point")
  BODY : B.con "BODY" = some (wS "body")
  EMPTY : B.con "EMPTY" = some (wS "-")
  DIGITS : B.con "DIGITS" = some (wS "0123456789")
  PARTS : B.con "PARTS" = some (.tab tabW)
  fIO : B.fld "InvalidOperation" = some [("value" : Str)]
  fIT : B.fld "InvalidText" = some [("line" : Str)]
/-! ### what is meant -/
def letter (c : Nat) : Bool := decide (97 ≤ c) && decide (c ≤ 122)
def nameS (x : Str) : Bool := decide (1 ≤ x.length) && decide (x.length ≤ 8) && (Sp.cs x).all letter
def isName : PyData → Bool
  | .str x => nameS x
  | _ => false
def isIdx (c : Int) : PyData → Bool
  | .int i => decide (0 ≤ i) && decide (i < c)
  | _ => false
def isArgs (c : Int) : PyData → Bool
  | .tuple ds => decide (1 ≤ ds.length) && decide (ds.length ≤ 3) && ds.all (fun d => isName d || isIdx c d)
  | _ => false
def isS (s : Str) : PyData → Bool
  | .str w => decide (w = s)
  | _ => false
def isStep (c : Int) : PyData → Bool
  | .tuple [a, d] => isS "say" a && isName d
  | .tuple [a, d, e] => isS "call" a && isName d && isArgs c e
  | .tuple [a] => isS "next" a
  | _ => false
def isNext : PyData → Bool
  | .tuple [a] => isS "next" a
  | _ => false
def isBody (c : Int) : PyData → Bool
  | .tuple ds => ds.all (isStep c) && decide (ds.countP isNext ≤ 1)
  | _ => false
def isNames : PyData → Bool
  | .tuple ds => ds.all isName
  | _ => false
def isCount : PyData → Bool
  | .int i => decide (1 ≤ i) && decide (i ≤ 3)
  | _ => false
def isPoint : PyData → Bool
  | .tuple ds => ds.all isName && decide (1 ≤ ds.length) && decide (ds.length ≤ 3)
  | _ => false
theorem letters_mem (c : Nat) : decide (c ∈ (("abcdefghijklmnopqrstuvwxyz" : Str)).cps.toList) = letter c := by
  have e : (("abcdefghijklmnopqrstuvwxyz" : Str)).cps.toList = [97, 98, 99, 100, 101, 102, 103, 104, 105, 106, 107, 108, 109, 110, 111, 112, 113, 114, 115, 116, 117, 118, 119, 120, 121, 122] := by decide +kernel
  rw [e]
  unfold letter
  rw [Bool.eq_iff_iff, decide_eq_true_eq, Bool.and_eq_true, decide_eq_true_eq, decide_eq_true_eq]
  simp only [List.mem_cons, List.not_mem_nil, or_false]
  omega
theorem letters_has (c : Nat) : hasS ⟨#[c]⟩ "abcdefghijklmnopqrstuvwxyz" = letter c := by rw [hasS_one, letters_mem]
theorem eqv_s (d : PyData) (s : Str) : PyData.eqv d (.str s) = isS s d := by
  cases d <;> first | rfl | simp [PyData.eqv, isS]
theorem eqv_next (ds : List PyData) : PyData.eqv (.tuple ds) (.tuple [.str "next"]) = isNext (.tuple ds) := by
  cases ds with
  | nil => simp [PyData.eqv, PyData.eqvAll, isNext]
  | cons d ds => cases ds <;> simp [PyData.eqv, PyData.eqvAll, isNext, eqv_s]
theorem eqX_s {m : Sto} {d : PyData} {s : Str} (h1 : Tm d) (h2 : s.cps.all (· < 0x110000) = true) : eqX m (.dat d) (wS s) = some (isS s d) := by
  rw [eqX_str m d s h1.shaped (shaped_s s h2), eqv_s]
theorem eqX_next {m : Sto} {ds : List PyData} (h : Tm (.tuple ds)) : eqX m (.dat (.tuple ds)) (.dat (.tuple [.str "next"])) = some (isNext (.tuple ds)) := by
  rw [eqX_tup m _ _ h.shaped shaped_next, eqv_next]
theorem o_say : ("say" : Str).cps.all (· < 0x110000) = true := by decide +kernel
theorem o_call : ("call" : Str).cps.all (· < 0x110000) = true := by decide +kernel
theorem eqv_nextD (d : PyData) : PyData.eqv d (.tuple [.str "next"]) = isNext d := by
  cases d with
  | tuple ds => exact eqv_next ds
  | _ => simp [PyData.eqv, isNext]
/-- data that is looked at from outside: a dict may stand in a tuple's place -/
def Tp (d : PyData) : Prop := ∀ ds, d = .tuple ds → ds.length ≤ 4000 ∧ ∀ e ∈ ds, Tq e
theorem Tp.tup {ds : List PyData} (h : Tp (.tuple ds)) : ds.length ≤ 4000 ∧ ∀ e ∈ ds, Tq e := h ds rfl
theorem Tp.of {d : PyData} (h : Tm d) : Tp d := fun ds e => by
  subst e
  exact ⟨h.len_le, fun e he => .inl (h.mem he)⟩
/-! the kinds -/
def partsTab : List (Str × List Str) := [("class", ["name", "superclasses"]), ("remove", ["name"]), ("function", ["name", "count"]), ("define", ["name", "point", "body"]), ("drop", ["name", "point"]), ("decide", ["name", "point", "body"]), ("reduce", ["name"]), ("watch", ["name", "point"])]
def partsOf (w : Str) : Option (List Str) := partsTab.lookup w
def isPart (k : Str) (d : PyData) : Bool := if k = "name" then isName d else if k = "superclasses" then isNames d else if k = "count" then isCount d else if k = "point" then isPoint d else isBody 3 d
def isOp : PyData → Bool
  | .tuple (.str w :: ps) => (match partsOf w with
    | none => false
    | some ks => decide (ps.length = ks.length) && (ks.zip ps).all fun q => isPart q.1 q.2)
  | _ => false
def isPartD (k d : PyData) : Bool := match k with
  | .str k => isPart k d
  | _ => false
theorem zip_parts {ks : List Str} {ps : List PyData} : ((ks.map PyData.str).zip ps).all (fun q => isPartD q.1 q.2) = (ks.zip ps).all fun q => isPart q.1 q.2 := by
  induction ks generalizing ps with
  | nil => rfl
  | cons k ks ih => cases ps with
    | nil => rfl
    | cons p ps => simp only [List.map_cons, List.zip_cons_cons, List.all_cons, ih]; rfl
def strD (ks : List Str) : PyData := .tuple (ks.map .str)
theorem parts_look (w : Str) : tabW.lookup w = (partsOf w).map fun ks => .dat (strD ks) := lookup_map (fun ks => W.dat (strD ks)) w partsTab
theorem parts_short {w : Str} {ks : List Str} (h : partsOf w = some ks) : ks.length ≤ 3 := by
  have hm := lookup_memA h
  simp only [partsTab, List.mem_cons, Prod.mk.injEq, List.not_mem_nil, or_false] at hm
  rcases hm with ⟨_, rfl⟩ | ⟨_, rfl⟩ | ⟨_, rfl⟩ | ⟨_, rfl⟩ | ⟨_, rfl⟩ | ⟨_, rfl⟩ | ⟨_, rfl⟩ | ⟨_, rfl⟩ <;> decide
theorem parts_kinds {w : Str} {ks : List Str} (h : partsOf w = some ks) : ∀ k ∈ ks, k ∈ [("name" : Str), "superclasses", "count", "point", "body"] := by
  have hm := lookup_memA h
  simp only [partsTab, List.mem_cons, Prod.mk.injEq, List.not_mem_nil, or_false] at hm
  intro k hk
  rcases hm with ⟨_, rfl⟩ | ⟨_, rfl⟩ | ⟨_, rfl⟩ | ⟨_, rfl⟩ | ⟨_, rfl⟩ | ⟨_, rfl⟩ | ⟨_, rfl⟩ | ⟨_, rfl⟩ <;> simp at hk ⊢ <;> grind
theorem o_name : ("name" : Str).cps.all (· < 0x110000) = true := by decide +kernel
theorem o_superclasses : ("superclasses" : Str).cps.all (· < 0x110000) = true := by decide +kernel
theorem o_count : ("count" : Str).cps.all (· < 0x110000) = true := by decide +kernel
theorem o_point : ("point" : Str).cps.all (· < 0x110000) = true := by decide +kernel
theorem o_body : ("body" : Str).cps.all (· < 0x110000) = true := by decide +kernel
theorem n_name_superclasses : ¬ (("name" : Str) = "superclasses") := by decide +kernel
theorem n_name_count : ¬ (("name" : Str) = "count") := by decide +kernel
theorem n_name_point : ¬ (("name" : Str) = "point") := by decide +kernel
theorem n_name_body : ¬ (("name" : Str) = "body") := by decide +kernel
theorem n_superclasses_name : ¬ (("superclasses" : Str) = "name") := by decide +kernel
theorem n_superclasses_count : ¬ (("superclasses" : Str) = "count") := by decide +kernel
theorem n_superclasses_point : ¬ (("superclasses" : Str) = "point") := by decide +kernel
theorem n_superclasses_body : ¬ (("superclasses" : Str) = "body") := by decide +kernel
theorem n_count_name : ¬ (("count" : Str) = "name") := by decide +kernel
theorem n_count_superclasses : ¬ (("count" : Str) = "superclasses") := by decide +kernel
theorem n_count_point : ¬ (("count" : Str) = "point") := by decide +kernel
theorem n_count_body : ¬ (("count" : Str) = "body") := by decide +kernel
theorem n_point_name : ¬ (("point" : Str) = "name") := by decide +kernel
theorem n_point_superclasses : ¬ (("point" : Str) = "superclasses") := by decide +kernel
theorem n_point_count : ¬ (("point" : Str) = "count") := by decide +kernel
theorem n_point_body : ¬ (("point" : Str) = "body") := by decide +kernel
theorem n_body_name : ¬ (("body" : Str) = "name") := by decide +kernel
theorem n_body_superclasses : ¬ (("body" : Str) = "superclasses") := by decide +kernel
theorem n_body_count : ¬ (("body" : Str) = "count") := by decide +kernel
theorem n_body_point : ¬ (("body" : Str) = "point") := by decide +kernel
section
variable {P : Str → Option Df} {B : Fe} (X : Has P B)
include X
set_option maxHeartbeats 4000000 in
theorem is_index_eq (n : Nat) (d : PyData) (c : Int) (m : Sto) : callN P B (n + 1) "is_index" [.dat d, wI c] m = .ok (wB (isIdx c d)) m := by
  rw [callN_at X.is_index]
  cases d with
  | int i =>
    by_cases h : 0 ≤ i <;> simp [dis_index, bdis_index, bodyN, evSs, evS, evE, evC, evO, getV, isiW, tyOf, isiT, fin, cutR, biW_len, lenW_str, lenW_tuple, lenW_list, cmp_le, cmp_lt, cmp_gt, cmp_ge, cmp_in, cmp_nin, cmp_eq, cmp_ne, in_str, intOf, asT, asTs, lcGo, gOk_nil, sl_tuple, sl_list, isIdx, h]
  | _ => simp [dis_index, bdis_index, bodyN, evSs, evS, evE, evC, evO, getV, isiW, tyOf, isiT, fin, cutR, biW_len, lenW_str, lenW_tuple, lenW_list, cmp_le, cmp_lt, cmp_gt, cmp_ge, cmp_in, cmp_nin, cmp_eq, cmp_ne, in_str, intOf, asT, asTs, lcGo, gOk_nil, sl_tuple, sl_list, isIdx]
set_option maxHeartbeats 4000000 in
theorem is_name_eq (n : Nat) (d : PyData) (m : Sto) (h : ∀ x, d = .str x → x.length ≤ lim) : callN P B (n + 1) "is_name" [.dat d] m = .ok (wB (isName d)) m := by
  rw [callN_at X.is_name]
  cases d with
  | str x =>
    have hx := h x rfl
    have hx2 : x.cps.size ≤ lim := hx
    by_cases h1 : 1 ≤ x.length
    · by_cases h2 : x.length ≤ 8
      · have e1 : (1 : Int) ≤ x.length := by omega
        have e2 : (x.length : Int) ≤ 8 := by omega
        simp [dis_name, bdis_name, bodyN, evSs, evS, evE, evC, evO, getV, isiW, tyOf, isiT, fin, cutR, biW_len, lenW_str, lenW_tuple, lenW_list, cmp_le, cmp_lt, cmp_gt, cmp_ge, cmp_in, cmp_nin, cmp_eq, cmp_ne, in_str, intOf, asT, asTs, lcGo, gOk_nil, sl_tuple, sl_list, isName, nameS, X.LETTERS, X.MAX_NAME_LENGTH, hx, hx2, h1, h2, e1, e2, letters_has]
        rw [lcGo_mapF (v := fun c => wB (letter c)) (gOk_nil _) fun c _ => by simp [in_str, letters_has]]
        simp [mkL_dat, biW_all]
      · have e1 : (1 : Int) ≤ x.length := by omega
        have e2 : ¬ (x.length : Int) ≤ 8 := by omega
        simp [dis_name, bdis_name, bodyN, evSs, evS, evE, evC, evO, getV, isiW, tyOf, isiT, fin, cutR, biW_len, lenW_str, lenW_tuple, lenW_list, cmp_le, cmp_lt, cmp_gt, cmp_ge, cmp_in, cmp_nin, cmp_eq, cmp_ne, in_str, intOf, asT, asTs, lcGo, gOk_nil, sl_tuple, sl_list, isName, nameS, X.LETTERS, X.MAX_NAME_LENGTH, hx, h1, h2, e1, e2]
    · have e1 : ¬ (1 : Int) ≤ x.length := by omega
      simp [dis_name, bdis_name, bodyN, evSs, evS, evE, evC, evO, getV, isiW, tyOf, isiT, fin, cutR, biW_len, lenW_str, lenW_tuple, lenW_list, cmp_le, cmp_lt, cmp_gt, cmp_ge, cmp_in, cmp_nin, cmp_eq, cmp_ne, in_str, intOf, asT, asTs, lcGo, gOk_nil, sl_tuple, sl_list, isName, nameS, X.LETTERS, X.MAX_NAME_LENGTH, hx, h1, e1]
  | _ => simp [dis_name, bdis_name, bodyN, evSs, evS, evE, evC, evO, getV, isiW, tyOf, isiT, fin, cutR, biW_len, lenW_str, lenW_tuple, lenW_list, cmp_le, cmp_lt, cmp_gt, cmp_ge, cmp_in, cmp_nin, cmp_eq, cmp_ne, in_str, intOf, asT, asTs, lcGo, gOk_nil, sl_tuple, sl_list, isName]
theorem is_nameQ (n : Nat) (d : PyData) (m : Sto) (h : Tq d) : callN P B (n + 1) "is_name" [.dat d] m = .ok (wB (isName d)) m := is_name_eq X n d m h.isStr
theorem is_nameT (n : Nat) (d : PyData) (m : Sto) (h : Tm d) : callN P B (n + 1) "is_name" [.dat d] m = .ok (wB (isName d)) m := is_name_eq X n d m h.isStr
set_option maxHeartbeats 4000000 in
theorem are_arguments_eq (n : Nat) (d : PyData) (c : Int) (m : Sto) (h : Tm d) : callN P B (n + 2) "are_arguments" [.dat d, wI c] m = .ok (wB (isArgs c d)) m := by
  rw [callN_at X.are_arguments]
  cases d with
  | tuple ds =>
    have hl := h.len
    by_cases h1 : 1 ≤ ds.length
    · by_cases h2 : ds.length ≤ 3
      · have e1 : (1 : Int) ≤ ds.length := by omega
        have e2 : (ds.length : Int) ≤ 3 := by omega
        simp [dare_arguments, bdare_arguments, bodyN, evSs, evS, evE, evC, evO, getV, isiW, tyOf, isiT, fin, cutR, biW_len, lenW_str, lenW_tuple, lenW_list, cmp_le, cmp_lt, cmp_gt, cmp_ge, cmp_in, cmp_nin, cmp_eq, cmp_ne, in_str, intOf, asT, asTs, lcGo, gOk_nil, sl_tuple, sl_list, isArgs, X.MAX_ARGUMENTS, h1, h2, e1, e2, hl]
        rw [lcGo_mapF (v := fun d => wB (isName d || isIdx c d)) (gOk_nil _) fun d hd => by
          simp only [is_nameT X n d _ (h.mem hd), is_index_eq X, bind_ok, tru_b, lift_some]
          cases isName d <;> rfl]
        simp [mkL_dat, biW_all]
      · have e1 : (1 : Int) ≤ ds.length := by omega
        have e2 : ¬ (ds.length : Int) ≤ 3 := by omega
        simp [dare_arguments, bdare_arguments, bodyN, evSs, evS, evE, evC, evO, getV, isiW, tyOf, isiT, fin, cutR, biW_len, lenW_str, lenW_tuple, lenW_list, cmp_le, cmp_lt, cmp_gt, cmp_ge, cmp_in, cmp_nin, cmp_eq, cmp_ne, in_str, intOf, asT, asTs, lcGo, gOk_nil, sl_tuple, sl_list, isArgs, X.MAX_ARGUMENTS, h1, h2, e1, e2]
    · have e1 : ¬ (1 : Int) ≤ ds.length := by omega
      simp [dare_arguments, bdare_arguments, bodyN, evSs, evS, evE, evC, evO, getV, isiW, tyOf, isiT, fin, cutR, biW_len, lenW_str, lenW_tuple, lenW_list, cmp_le, cmp_lt, cmp_gt, cmp_ge, cmp_in, cmp_nin, cmp_eq, cmp_ne, in_str, intOf, asT, asTs, lcGo, gOk_nil, sl_tuple, sl_list, isArgs, X.MAX_ARGUMENTS, h1, e1]
  | _ => simp [dare_arguments, bdare_arguments, bodyN, evSs, evS, evE, evC, evO, getV, isiW, tyOf, isiT, fin, cutR, biW_len, lenW_str, lenW_tuple, lenW_list, cmp_le, cmp_lt, cmp_gt, cmp_ge, cmp_in, cmp_nin, cmp_eq, cmp_ne, in_str, intOf, asT, asTs, lcGo, gOk_nil, sl_tuple, sl_list, isArgs]
set_option maxHeartbeats 4000000 in
theorem is_step_eq (n : Nat) (d : PyData) (c : Int) (m : Sto) (h : Tm d) : callN P B (n + 3) "is_step" [.dat d, wI c] m = .ok (wB (isStep c d)) m := by
  rw [callN_at X.is_step]
  cases d with
  | tuple ds =>
    match ds, h with
    | [], h => simp [dis_step, bdis_step, bodyN, evSs, evS, evE, evC, evO, getV, isiW, tyOf, isiT, fin, cutR, biW_len, lenW_str, lenW_tuple, lenW_list, cmp_le, cmp_lt, cmp_gt, cmp_ge, cmp_in, cmp_nin, cmp_eq, cmp_ne, in_str, intOf, asT, asTs, lcGo, gOk_nil, sl_tuple, sl_list, isStep, X.NEXT_STEP, eqX_int, eqX_next h, isNext]
    | [a], h => simp [dis_step, bdis_step, bodyN, evSs, evS, evE, evC, evO, getV, isiW, tyOf, isiT, fin, cutR, biW_len, lenW_str, lenW_tuple, lenW_list, cmp_le, cmp_lt, cmp_gt, cmp_ge, cmp_in, cmp_nin, cmp_eq, cmp_ne, in_str, intOf, asT, asTs, lcGo, gOk_nil, sl_tuple, sl_list, isStep, X.NEXT_STEP, eqX_int, eqX_next h, isNext]
    | [a, b], h =>
      have ha : Tm a := h.mem (by simp)
      have hb : Tm b := h.mem (by simp)
      simp [dis_step, bdis_step, bodyN, evSs, evS, evE, evC, evO, getV, isiW, tyOf, isiT, fin, cutR, biW_len, lenW_str, lenW_tuple, lenW_list, cmp_le, cmp_lt, cmp_gt, cmp_ge, cmp_in, cmp_nin, cmp_eq, cmp_ne, in_str, intOf, asT, asTs, lcGo, gOk_nil, sl_tuple, sl_list, isStep, X.SAY, eqX_int, ixW, L2.atI, L2.ixN, eqX_s ha o_say, is_nameT X (n + 1) b _ hb]
      cases isS "say" a <;> simp
    | [a, b, e], h =>
      have ha : Tm a := h.mem (by simp)
      have hb : Tm b := h.mem (by simp)
      have he : Tm e := h.mem (by simp)
      simp [dis_step, bdis_step, bodyN, evSs, evS, evE, evC, evO, getV, isiW, tyOf, isiT, fin, cutR, biW_len, lenW_str, lenW_tuple, lenW_list, cmp_le, cmp_lt, cmp_gt, cmp_ge, cmp_in, cmp_nin, cmp_eq, cmp_ne, in_str, intOf, asT, asTs, lcGo, gOk_nil, sl_tuple, sl_list, isStep, X.CALL, eqX_int, ixW, L2.atI, L2.ixN, eqX_s ha o_call, is_nameT X (n + 1) b _ hb, are_arguments_eq X n e c _ he]
      cases isS "call" a <;> simp
      cases isName b <;> simp
    | a :: b :: e :: f :: r, h =>
      have e2 : ¬ ((r.length : Int) + 1 + 1 + 1 + 1 = 2) := by omega
      have e3 : ¬ ((r.length : Int) + 1 + 1 + 1 + 1 = 3) := by omega
      simp [dis_step, bdis_step, bodyN, evSs, evS, evE, evC, evO, getV, isiW, tyOf, isiT, fin, cutR, biW_len, lenW_str, lenW_tuple, lenW_list, cmp_le, cmp_lt, cmp_gt, cmp_ge, cmp_in, cmp_nin, cmp_eq, cmp_ne, in_str, intOf, asT, asTs, lcGo, gOk_nil, sl_tuple, sl_list, isStep, X.NEXT_STEP, eqX_int, eqX_next h, isNext, e2, e3]
  | _ => simp [dis_step, bdis_step, bodyN, evSs, evS, evE, evC, evO, getV, isiW, tyOf, isiT, fin, cutR, biW_len, lenW_str, lenW_tuple, lenW_list, cmp_le, cmp_lt, cmp_gt, cmp_ge, cmp_in, cmp_nin, cmp_eq, cmp_ne, in_str, intOf, asT, asTs, lcGo, gOk_nil, sl_tuple, sl_list, isStep]
set_option maxHeartbeats 4000000 in
theorem is_body_eq (n : Nat) (d : PyData) (c : Int) (m : Sto) (h : Tq d) : callN P B (n + 4) "is_body" [.dat d, wI c] m = .ok (wB (isBody c d)) m := by
  rw [callN_at X.is_body]
  cases d with
  | tuple ds =>
    replace h := h.tup
    have hl := h.len
    simp [dis_body, bdis_body, bodyN, evSs, evS, evE, evC, evO, getV, isiW, tyOf, isiT, fin, cutR, biW_len, lenW_str, lenW_tuple, lenW_list, cmp_le, cmp_lt, cmp_gt, cmp_ge, cmp_in, cmp_nin, cmp_eq, cmp_ne, in_str, intOf, asT, asTs, lcGo, gOk_nil, sl_tuple, sl_list, isBody, hl, X.NEXT_STEP]
    rw [lcGo_mapF (v := fun d => wB (isStep c d)) (gOk_nil _) fun d hd => by simp [is_step_eq X n d c _ (h.mem hd)]]
    simp [mkL_dat, biW_all, -List.all_eq_true, -List.all_eq_false]
    cases hq : ds.all (isStep c) with
    | false => simp
    | true =>
      have e : ds.countP (fun z => PyData.eqv z (.tuple [.str "next"])) = ds.countP isNext := by
        congr 1
        funext z
        exact eqv_nextD z
      simp [rcv, isMut, cleanT, metW, h.shaped, shaped_next, e, cmp_le]
      omega
  | _ => simp [dis_body, bdis_body, bodyN, evSs, evS, evE, evC, evO, getV, isiW, tyOf, isiT, fin, cutR, biW_len, lenW_str, lenW_tuple, lenW_list, cmp_le, cmp_lt, cmp_gt, cmp_ge, cmp_in, cmp_nin, cmp_eq, cmp_ne, in_str, intOf, asT, asTs, lcGo, gOk_nil, sl_tuple, sl_list, isBody]
set_option maxHeartbeats 4000000 in
theorem are_names_eq (n : Nat) (d : PyData) (m : Sto) (h : Tq d) : callN P B (n + 2) "are_names" [.dat d] m = .ok (wB (isNames d)) m := by
  rw [callN_at X.are_names]
  cases d with
  | tuple ds =>
    replace h := h.tup
    have hl := h.len
    simp [dare_names, bdare_names, bodyN, evSs, evS, evE, evC, evO, getV, isiW, tyOf, isiT, fin, cutR, biW_len, lenW_str, lenW_tuple, lenW_list, cmp_le, cmp_lt, cmp_gt, cmp_ge, cmp_in, cmp_nin, cmp_eq, cmp_ne, in_str, intOf, asT, asTs, lcGo, gOk_nil, sl_tuple, sl_list, isNames, hl]
    rw [lcGo_mapF (v := fun d => wB (isName d)) (gOk_nil _) fun d hd => by simp [is_nameT X n d _ (h.mem hd)]]
    simp [mkL_dat, biW_all]
  | _ => simp [dare_names, bdare_names, bodyN, evSs, evS, evE, evC, evO, getV, isiW, tyOf, isiT, fin, cutR, biW_len, lenW_str, lenW_tuple, lenW_list, cmp_le, cmp_lt, cmp_gt, cmp_ge, cmp_in, cmp_nin, cmp_eq, cmp_ne, in_str, intOf, asT, asTs, lcGo, gOk_nil, sl_tuple, sl_list, isNames]
set_option maxHeartbeats 4000000 in
theorem is_integer_eq (n : Nat) (d : PyData) (m : Sto) : callN P B (n + 1) "is_integer_from" [.dat d, wI 1, wI 3] m = .ok (wB (isCount d)) m := by
  rw [callN_at X.is_integer_from]
  cases d with
  | int i => by_cases h1 : 1 ≤ i <;> simp [dis_integer_from, bdis_integer_from, bodyN, evSs, evS, evE, evC, evO, getV, isiW, tyOf, isiT, fin, cutR, biW_len, lenW_str, lenW_tuple, lenW_list, cmp_le, cmp_lt, cmp_gt, cmp_ge, cmp_in, cmp_nin, cmp_eq, cmp_ne, in_str, intOf, asT, asTs, lcGo, gOk_nil, sl_tuple, sl_list, isCount, h1]
  | _ => simp [dis_integer_from, bdis_integer_from, bodyN, evSs, evS, evE, evC, evO, getV, isiW, tyOf, isiT, fin, cutR, biW_len, lenW_str, lenW_tuple, lenW_list, cmp_le, cmp_lt, cmp_gt, cmp_ge, cmp_in, cmp_nin, cmp_eq, cmp_ne, in_str, intOf, asT, asTs, lcGo, gOk_nil, sl_tuple, sl_list, isCount]
set_option maxHeartbeats 4000000 in
theorem is_part_eq (n : Nat) (k : Str) (d : PyData) (m : Sto) (h : Tq d) (hk : k ∈ [("name" : Str), "superclasses", "count", "point", "body"]) : callN P B (n + 5) "is_part" [wS k, .dat d] m = .ok (wB (isPart k d)) m := by
  rw [callN_at X.is_part]
  simp only [List.mem_cons, List.not_mem_nil, or_false] at hk
  rcases hk with rfl | rfl | rfl | rfl | rfl
  · simp [dis_part, bdis_part, bodyN, evSs, evS, evE, evC, evO, getV, isiW, tyOf, isiT, fin, cutR, biW_len, lenW_str, lenW_tuple, lenW_list, cmp_le, cmp_lt, cmp_gt, cmp_ge, cmp_in, cmp_nin, cmp_eq, cmp_ne, in_str, intOf, asT, asTs, lcGo, gOk_nil, sl_tuple, sl_list, isPart, X.NAME, eqX_ss, o_name, o_superclasses, o_count, o_point, o_body, is_nameQ X (n + 3) d _ h]
  · simp [dis_part, bdis_part, bodyN, evSs, evS, evE, evC, evO, getV, isiW, tyOf, isiT, fin, cutR, biW_len, lenW_str, lenW_tuple, lenW_list, cmp_le, cmp_lt, cmp_gt, cmp_ge, cmp_in, cmp_nin, cmp_eq, cmp_ne, in_str, intOf, asT, asTs, lcGo, gOk_nil, sl_tuple, sl_list, isPart, X.NAME, X.SUPERCLASSES, eqX_ss, o_name, o_superclasses, o_count, o_point, o_body, n_name_superclasses, n_name_count, n_name_point, n_name_body, n_superclasses_name, n_superclasses_count, n_superclasses_point, n_superclasses_body, n_count_name, n_count_superclasses, n_count_point, n_count_body, n_point_name, n_point_superclasses, n_point_count, n_point_body, n_body_name, n_body_superclasses, n_body_count, n_body_point, are_names_eq X (n + 2) d _ h]
  · simp [dis_part, bdis_part, bodyN, evSs, evS, evE, evC, evO, getV, isiW, tyOf, isiT, fin, cutR, biW_len, lenW_str, lenW_tuple, lenW_list, cmp_le, cmp_lt, cmp_gt, cmp_ge, cmp_in, cmp_nin, cmp_eq, cmp_ne, in_str, intOf, asT, asTs, lcGo, gOk_nil, sl_tuple, sl_list, isPart, X.NAME, X.SUPERCLASSES, X.COUNT, X.MAX_PARAMETERS, eqX_ss, o_name, o_superclasses, o_count, o_point, o_body, n_name_superclasses, n_name_count, n_name_point, n_name_body, n_superclasses_name, n_superclasses_count, n_superclasses_point, n_superclasses_body, n_count_name, n_count_superclasses, n_count_point, n_count_body, n_point_name, n_point_superclasses, n_point_count, n_point_body, n_body_name, n_body_superclasses, n_body_count, n_body_point, is_integer_eq X (n + 3) d]
  · simp [dis_part, bdis_part, bodyN, evSs, evS, evE, evC, evO, getV, isiW, tyOf, isiT, fin, cutR, biW_len, lenW_str, lenW_tuple, lenW_list, cmp_le, cmp_lt, cmp_gt, cmp_ge, cmp_in, cmp_nin, cmp_eq, cmp_ne, in_str, intOf, asT, asTs, lcGo, gOk_nil, sl_tuple, sl_list, isPart, X.NAME, X.SUPERCLASSES, X.COUNT, X.POINT, X.MAX_PARAMETERS, eqX_ss, o_name, o_superclasses, o_count, o_point, o_body, n_name_superclasses, n_name_count, n_name_point, n_name_body, n_superclasses_name, n_superclasses_count, n_superclasses_point, n_superclasses_body, n_count_name, n_count_superclasses, n_count_point, n_count_body, n_point_name, n_point_superclasses, n_point_count, n_point_body, n_body_name, n_body_superclasses, n_body_count, n_body_point, are_names_eq X (n + 2) d _ h]
    cases d with
    | tuple ds =>
      simp only [isNames, isPoint]
      cases ds.all isName with
      | false => simp
      | true =>
        by_cases h1 : 1 ≤ ds.length
        · have e1 : (1 : Int) ≤ ds.length := by omega
          by_cases h2 : ds.length ≤ 3
          · have e2 : (ds.length : Int) ≤ 3 := by omega
            simp [lenW_tuple, cmp_le, h1, h2, e1, e2]
          · have e2 : ¬ (ds.length : Int) ≤ 3 := by omega
            simp [lenW_tuple, cmp_le, h1, h2, e1, e2]
        · have e1 : ¬ (1 : Int) ≤ ds.length := by omega
          simp [lenW_tuple, cmp_le, h1, e1]
    | _ => simp [isNames, isPoint]
  · simp [dis_part, bdis_part, bodyN, evSs, evS, evE, evC, evO, getV, isiW, tyOf, isiT, fin, cutR, biW_len, lenW_str, lenW_tuple, lenW_list, cmp_le, cmp_lt, cmp_gt, cmp_ge, cmp_in, cmp_nin, cmp_eq, cmp_ne, in_str, intOf, asT, asTs, lcGo, gOk_nil, sl_tuple, sl_list, isPart, X.NAME, X.SUPERCLASSES, X.COUNT, X.POINT, X.MAX_PARAMETERS, eqX_ss, o_name, o_superclasses, o_count, o_point, o_body, n_name_superclasses, n_name_count, n_name_point, n_name_body, n_superclasses_name, n_superclasses_count, n_superclasses_point, n_superclasses_body, n_count_name, n_count_superclasses, n_count_point, n_count_body, n_point_name, n_point_superclasses, n_point_count, n_point_body, n_body_name, n_body_superclasses, n_body_count, n_body_point, is_body_eq X n d 3 _ h]
end
end Op
/-! Op, part 2. -/
namespace Op
open PySem Mi
section
variable {P : Str → Option Df} {B : Fe} (X : Has P B)
include X
set_option maxHeartbeats 4000000 in
theorem is_operation_eq (n : Nat) (d : PyData) (m : Sto) (h : Tp d) : callN P B (n + 6) "is_operation" [.dat d] m = .ok (wB (isOp d)) m := by
  rw [callN_at X.is_operation]
  cases d with
  | tuple ds =>
    obtain ⟨hl, hq⟩ := h.tup
    cases ds with
    | nil => simp [dis_operation, bdis_operation, bodyN, evSs, evS, evE, evC, evO, getV, isiW, tyOf, isiT, fin, cutR, biW_len, lenW_str, lenW_tuple, lenW_list, cmp_le, cmp_lt, cmp_gt, cmp_ge, cmp_in, cmp_nin, cmp_eq, cmp_ne, in_str, intOf, asT, asTs, lcGo, gOk_nil, sl_tuple, sl_list, isOp, mkT, datAll, eqX_nil]
    | cons w ps =>
      have hl : ps.length + 1 ≤ lim := by
        show ps.length + 1 ≤ 1000000
        simp at hl
        omega
      cases w with
      | str w =>
        cases hp : partsOf w with
        | none => simp [dis_operation, bdis_operation, bodyN, evSs, evS, evE, evC, evO, getV, isiW, tyOf, isiT, fin, cutR, biW_len, lenW_str, lenW_tuple, lenW_list, cmp_le, cmp_lt, cmp_gt, cmp_ge, cmp_in, cmp_nin, cmp_eq, cmp_ne, in_str, intOf, asT, asTs, lcGo, gOk_nil, sl_tuple, sl_list, isOp, mkT, datAll, eqX_nil, ix_0, X.PARTS, in_tab, parts_look, hp]
        | some ks =>
          have hk := parts_kinds hp
          have hkl : ks.length ≤ 3 := parts_short hp
          by_cases he : ps.length = ks.length
          · have e3 : min ks.length ps.length ≤ lim := by
              show _ ≤ 1000000
              omega
            have e4 : ks.length ≤ lim := by
              show _ ≤ 1000000
              omega
            simp [dis_operation, bdis_operation, bodyN, evSs, evS, evE, evC, evO, getV, isiW, tyOf, isiT, fin, cutR, biW_len, lenW_str, lenW_tuple, lenW_list, cmp_le, cmp_lt, cmp_gt, cmp_ge, cmp_in, cmp_nin, cmp_eq, cmp_ne, in_str, intOf, asT, asTs, lcGo, gOk_nil, sl_tuple, sl_list, isOp, mkT, datAll, eqX_nil, ix_0, X.PARTS, in_tab, ix_tab, parts_look, hp, eqW_int, strD, iterOf_zip, he, e4]
            rw [lcGo_mapF (v := fun q => wB (isPartD q.1 q.2)) (gOk_nil _) fun q hq' => ?_]
            · simp [mkL_dat, biW_all, zip_parts]
            · obtain ⟨k, p⟩ := q
              obtain ⟨h1, h2⟩ := List.of_mem_zip hq'
              obtain ⟨k', hk', rfl⟩ := List.mem_map.mp h1
              simp [evEs, getV, isPartD, is_part_eq X n k' p _ (hq p (List.mem_cons_of_mem _ h2)) (hk k' hk')]
          · have e1 : ¬ (ps.length : Int) = ks.length := by omega
            simp [dis_operation, bdis_operation, bodyN, evSs, evS, evE, evC, evO, getV, isiW, tyOf, isiT, fin, cutR, biW_len, lenW_str, lenW_tuple, lenW_list, cmp_le, cmp_lt, cmp_gt, cmp_ge, cmp_in, cmp_nin, cmp_eq, cmp_ne, in_str, intOf, asT, asTs, lcGo, gOk_nil, sl_tuple, sl_list, isOp, mkT, datAll, eqX_nil, ix_0, X.PARTS, in_tab, ix_tab, parts_look, hp, eqW_int, strD, he, e1]
      | _ => simp [dis_operation, bdis_operation, bodyN, evSs, evS, evE, evC, evO, getV, isiW, tyOf, isiT, fin, cutR, biW_len, lenW_str, lenW_tuple, lenW_list, cmp_le, cmp_lt, cmp_gt, cmp_ge, cmp_in, cmp_nin, cmp_eq, cmp_ne, in_str, intOf, asT, asTs, lcGo, gOk_nil, sl_tuple, sl_list, isOp, mkT, datAll, eqX_nil, ix_0]
  | _ => simp [dis_operation, bdis_operation, bodyN, evSs, evS, evE, evC, evO, getV, isiW, tyOf, isiT, fin, cutR, biW_len, lenW_str, lenW_tuple, lenW_list, cmp_le, cmp_lt, cmp_gt, cmp_ge, cmp_in, cmp_nin, cmp_eq, cmp_ne, in_str, intOf, asT, asTs, lcGo, gOk_nil, sl_tuple, sl_list, isOp]
end
/-! ### writing -/
/-- str of a name, of an index -/
def txS : PyData → Str
  | .str x => x
  | .int i => toString i
  | _ => ""
theorem txS_s (x : Str) : txS (.str x) = x := rfl
def wPoint : PyData → Str
  | .tuple ds => Txt.join "," (ds.map txS)
  | _ => ""
def wStep : PyData → Str
  | .tuple [a, b, .tuple es] => Txt.join " " [txS a, txS b, Txt.join "," (es.map txS)]
  | .tuple ds => Txt.join " " (ds.map txS)
  | _ => ""
def wBody : PyData → Str
  | .tuple ds => if ds = [] then "-" else Txt.join "; " (ds.map wStep)
  | _ => ""
def wWords (k : Str) (d : PyData) : List Str := if k = "superclasses" then (match d with
    | .tuple ds => ds.map txS
    | _ => []) else if k = "point" then [wPoint d] else if k = "body" then [wBody d] else [txS d]
def wOp : PyData → Str
  | .tuple (.str w :: ps) => Txt.join " " (w :: (((partsOf w).getD []).zip ps).flatMap fun q => wWords q.1 q.2)
  | _ => ""
theorem join_len (s : Str) (xs : List Str) : (Txt.join s xs).length ≤ sumLen xs + xs.length * s.length := by
  rw [Sp.len_cs, Sp.cs_join]
  induction xs with
  | nil => simp [Sp.jn]
  | cons x r ih => cases r with
    | nil =>
      simp only [List.map_cons, List.map_nil, Sp.jn, sumLen, List.length_cons, List.length_nil]
      rw [← Sp.len_cs]
      omega
    | cons y r =>
      simp only [List.map_cons, Sp.jn, List.length_append, sumLen, List.length_cons] at ih ⊢
      rw [← Sp.len_cs, ← Sp.len_cs]
      rw [Nat.succ_mul]
      omega
theorem names_str {ds : List PyData} (h : ds.all isName = true) : ds = (ds.map txS).map PyData.str := by
  induction ds with
  | nil => rfl
  | cons d ds ih =>
    simp only [List.all_cons, Bool.and_eq_true] at h
    rw [List.map_cons, List.map_cons, ← ih h.2]
    cases d <;> first | rfl | (have := h.1; simp [isName] at this)
theorem isName_eq {d : PyData} (h : isName d = true) : ∃ x, d = .str x ∧ nameS x = true := by
  cases d <;> first | exact ⟨_, rfl, h⟩ | cases h
theorem isS_eq {s : Str} {d : PyData} (h : isS s d = true) : d = .str s := by
  cases d <;> first | (rw [of_decide_eq_true h]) | cases h
theorem isIdx_eq {c : Int} {d : PyData} (h : isIdx c d = true) : ∃ i, d = .int i ∧ 0 ≤ i ∧ i < c := by
  cases d <;> first | (simp only [isIdx, Bool.and_eq_true, decide_eq_true_eq] at h; exact ⟨_, rfl, h.1, h.2⟩) | cases h
theorem nameS_len {x : Str} (h : nameS x = true) : 1 ≤ x.length ∧ x.length ≤ 8 := by
  simp only [nameS, Bool.and_eq_true, decide_eq_true_eq] at h
  exact h.1
theorem idx_text {i : Int} (h0 : 0 ≤ i) (h1 : i < 3) : i = 0 ∨ i = 1 ∨ i = 2 := by omega
/-- an argument of a call, as a text -/
def isArg (d : PyData) : Bool := isName d || isIdx 3 d
theorem arg_str {d : PyData} (m : Sto) (h : isArg d = true) : biW .str [.dat d] m = some (wS (txS d)) := by
  simp only [isArg, Bool.or_eq_true] at h
  rcases h with h | h
  · obtain ⟨x, rfl, _⟩ := isName_eq h
    rfl
  · obtain ⟨i, rfl, h0, h1⟩ := isIdx_eq h
    rcases idx_text h0 h1 with rfl | rfl | rfl <;> exact bi_str_i _ m (by decide)
theorem arg_len {d : PyData} (h : isArg d = true) : (txS d).length ≤ 8 := by
  simp only [isArg, Bool.or_eq_true] at h
  rcases h with h | h
  · obtain ⟨x, rfl, hx⟩ := isName_eq h
    exact (nameS_len hx).2
  · obtain ⟨i, rfl, h0, h1⟩ := isIdx_eq h
    rcases idx_text h0 h1 with rfl | rfl | rfl <;> decide +kernel
theorem sum_le {k : Nat} : ∀ {xs : List Str}, (∀ x ∈ xs, x.length ≤ k) → sumLen xs ≤ xs.length * k
  | [], _ => by simp [sumLen]
  | x :: xs, h => by
    have h1 := h x (List.mem_cons_self ..)
    have h2 := sum_le fun y hy => h y (List.mem_cons_of_mem x hy)
    simp only [sumLen, List.length_cons, Nat.succ_mul]
    omega
theorem l_comma : ("," : Str).length = 1 := by decide +kernel
theorem l_space : (" " : Str).length = 1 := by decide +kernel
theorem l_semi : ("; " : Str).length = 2 := by decide +kernel
theorem l_call : ("call" : Str).length = 4 := by decide +kernel
theorem l_say : ("say" : Str).length = 3 := by decide +kernel
theorem l_next : ("next" : Str).length = 4 := by decide +kernel
theorem n_call_say : ¬ (("say" : Str) = "call") := by decide +kernel
theorem n_call_next : ¬ (("next" : Str) = "call") := by decide +kernel
theorem o_next : ("next" : Str).cps.all (· < 0x110000) = true := by decide +kernel
/-- the shape of a step -/
theorem step_cases {d : PyData} (h : isStep 3 d = true) : d = .tuple [.str "next"] ∨ (∃ x, d = .tuple [.str "say", .str x] ∧ nameS x = true) ∨
    ∃ x es, d = .tuple [.str "call", .str x, .tuple es] ∧ nameS x = true ∧ 1 ≤ es.length ∧ es.length ≤ 3 ∧ es.all isArg = true := by
  unfold isStep at h
  split at h
  · rw [Bool.and_eq_true] at h
    obtain ⟨x, rfl, hx⟩ := isName_eq h.2
    rw [isS_eq h.1]
    exact .inr (.inl ⟨x, rfl, hx⟩)
  · simp only [Bool.and_eq_true] at h
    obtain ⟨⟨h1, h2⟩, h3⟩ := h
    obtain ⟨x, rfl, hx⟩ := isName_eq h2
    rw [isS_eq h1]
    unfold isArgs at h3
    split at h3
    · simp only [Bool.and_eq_true, decide_eq_true_eq] at h3
      exact .inr (.inr ⟨x, _, rfl, hx, h3.1.1, h3.1.2, h3.2⟩)
    · cases h3
  · rw [isS_eq h]
    exact .inl rfl
  · cases h
theorem wStep_len {d : PyData} (h : isStep 3 d = true) : (wStep d).length ≤ 60 := by
  rcases step_cases h with rfl | ⟨x, rfl, hx⟩ | ⟨x, es, rfl, hx, h1, h2, h3⟩
  · refine Nat.le_trans (join_len _ _) ?_
    simp [sumLen, txS, l_space, l_next]
  · refine Nat.le_trans (join_len _ _) ?_
    have := nameS_len hx
    simp [sumLen, txS, l_space, l_say]
    omega
  · have hn := nameS_len hx
    have ha : (Txt.join "," (es.map txS)).length ≤ 27 := by
      refine Nat.le_trans (join_len _ _) ?_
      have := sum_le (k := 8) (xs := es.map txS) fun y hy => by
        obtain ⟨e, he, rfl⟩ := List.mem_map.mp hy
        exact arg_len (List.all_eq_true.mp h3 e he)
      simp only [List.length_map, l_comma] at this ⊢
      omega
    refine Nat.le_trans (join_len _ _) ?_
    simp [sumLen, txS, l_space, l_call]
    omega
theorem names_sum {ds : List PyData} (h : ds.all isName = true) : sumLen (ds.map txS) ≤ ds.length * 8 := by
  have := sum_le (k := 8) (xs := ds.map txS) fun y hy => by
    obtain ⟨e, he, rfl⟩ := List.mem_map.mp hy
    obtain ⟨x, rfl, hx⟩ := isName_eq (List.all_eq_true.mp h e he)
    exact (nameS_len hx).2
  rw [List.length_map] at this
  exact this
section
variable {P : Str → Option Df} {B : Fe} (X : Has P B)
include X
set_option maxHeartbeats 4000000 in
theorem write_point_eq (n : Nat) (d : PyData) (m : Sto) (h : Tm d) (hp : isPoint d = true) : callN P B (n + 1) "write_point" [.dat d] m = .ok (wS (wPoint d)) m := by
  rw [callN_at X.write_point]
  cases d with
  | tuple ds =>
    simp only [isPoint, Bool.and_eq_true] at hp
    have hs := names_str hp.1.1
    have hw := names_sum hp.1.1
    have hb : sumLen (ds.map txS) + (ds.map txS).length * ("," : Str).length ≤ lim := by
      have := h.len_le
      show _ ≤ 1000000
      rw [show ("," : Str).length = 1 from by decide +kernel, List.length_map]
      omega
    have e : strAll (ds.map W.dat) = some (ds.map txS) := by
      conv => lhs; rw [hs]
      rw [List.map_map, List.map_map]
      exact strAll_map txS ds
    simp [dwrite_point, bdwrite_point, bodyN, evSs, evS, evE, evC, evO, getV, isiW, tyOf, isiT, fin, cutR, biW_len, lenW_str, lenW_tuple, lenW_list, cmp_le, cmp_lt, cmp_gt, cmp_ge, cmp_in, cmp_nin, cmp_eq, cmp_ne, in_str, intOf, asT, asTs, lcGo, gOk_nil, sl_tuple, sl_list, rcv_join, isMut_f, met_join, e]
    rw [if_pos (by simpa using hb)]
    simp [wPoint]
  | _ => simp [isPoint] at hp
set_option maxHeartbeats 4000000 in
theorem write_step_eq (n : Nat) (d : PyData) (m : Sto) (hp : isStep 3 d = true) : callN P B (n + 1) "write_step" [.dat d] m = .ok (wS (wStep d)) m := by
  rw [callN_at X.write_step]
  rcases step_cases hp with rfl | ⟨x, rfl, hx⟩ | ⟨x, es, rfl, hx, h1, h2, h3⟩
  · have j := join_ok (s := " ") (xs := ["next"]) (seqOf_app m [wS "next"]) (by simp [sumLen, l_next, l_space])
    simp [dwrite_step, bdwrite_step, bodyN, evSs, evS, evE, evC, evO, getV, isiW, tyOf, isiT, fin, cutR, biW_len, lenW_str, lenW_tuple, lenW_list, cmp_le, cmp_lt, cmp_gt, cmp_ge, cmp_in, cmp_nin, cmp_eq, cmp_ne, in_str, intOf, asT, asTs, lcGo, gOk_nil, sl_tuple, sl_list, cutD, HT.sIx, bi_str_s, ix_0, X.CALL, eqX_ss, o_call, o_next, n_call_next, rcv_join, isMut_f, j, lim, frz_dat, wStep, txS]
  · have hn := nameS_len hx
    have j := join_ok (s := " ") (xs := ["say", x]) (seqOf_app m [wS "say", wS x]) (by simp [sumLen, l_say, l_space]; omega)
    simp [dwrite_step, bdwrite_step, bodyN, evSs, evS, evE, evC, evO, getV, isiW, tyOf, isiT, fin, cutR, biW_len, lenW_str, lenW_tuple, lenW_list, cmp_le, cmp_lt, cmp_gt, cmp_ge, cmp_in, cmp_nin, cmp_eq, cmp_ne, in_str, intOf, asT, asTs, lcGo, gOk_nil, sl_tuple, sl_list, cutD, HT.sIx, bi_str_s, ix_0, X.CALL, eqX_ss, o_call, o_say, n_call_say, rcv_join, isMut_f, j, lim, frz_dat, wStep, txS]
  · have hn := nameS_len hx
    have hl := sum_le (k := 8) (xs := es.map txS) fun y hy => by
      obtain ⟨e, he, rfl⟩ := List.mem_map.mp hy
      exact arg_len (List.all_eq_true.mp h3 e he)
    rw [List.length_map] at hl
    have j1 := join_ok (s := ",") (xs := es.map txS) (m := m ++ [.lst [wS "call", wS x]]) (seqOf_strs _ _) (by simp [l_comma]; omega)
    have ha : (Txt.join "," (es.map txS)).length ≤ 27 := by
      refine Nat.le_trans (join_len _ _) ?_
      simp only [List.length_map, l_comma]
      omega
    have j2 := join_ok (s := " ") (xs := ["call", x, Txt.join "," (es.map txS)]) (seqOf_app m [wS "call", wS x, wS (Txt.join "," (es.map txS))]) (by simp [sumLen, l_call, l_space]; omega)
    have hz : es.length ≤ 1000000 := by omega
    simp [dwrite_step, bdwrite_step, bodyN, evSs, evS, evE, evC, evO, getV, isiW, tyOf, isiT, fin, cutR, biW_len, lenW_str, lenW_tuple, lenW_list, cmp_le, cmp_lt, cmp_gt, cmp_ge, cmp_in, cmp_nin, cmp_eq, cmp_ne, in_str, intOf, asT, asTs, lcGo, gOk_nil, sl_tuple, sl_list, cutD, HT.sIx, bi_str_s, ix_0, ix_2, X.CALL, eqX_ss, o_call, rcv_join, isMut_f, isMut_t, rcv_app, lim, hz]
    rw [lcGo_mapF (v := fun d => wS (txS d)) (gOk_nil _) fun d hd => by simp [arg_str _ (List.all_eq_true.mp h3 d hd)]]
    have e1 : mkL (es.map fun d => wS (txS d)) = .dat (.list ((es.map txS).map PyData.str)) := by
      rw [mkL_dat, List.map_map]
      rfl
    simp only [calm_ok, bind_ok, e1, j1, lift_some, mut_app m [wS "call", wS x] _ (show 2 + 1 ≤ lim by decide), st_ok, then_nx, List.getElem?_cons_succ, List.getElem?_cons_zero, List.cons_append, List.nil_append, j2, then_rt, frz_dat, List.take_left, wStep, txS_s]
end
end Op
/-! Op, part 3: writing an operation. -/
namespace Op
open PySem Mi
theorem body_bound {ds : List PyData} (h : ds.all (isStep 3) = true) (hl : ds.length ≤ 4000) : sumLen (ds.map wStep) + (ds.map wStep).length * ("; " : Str).length ≤ 248000 := by
  have h2 := sum_le (k := 60) (xs := ds.map wStep) fun y hy => by
    obtain ⟨e, he, rfl⟩ := List.mem_map.mp hy
    exact wStep_len (List.all_eq_true.mp h e he)
  rw [List.length_map] at h2
  rw [List.length_map, l_semi]
  omega
theorem l_minus : ("-" : Str).length = 1 := by decide +kernel
theorem wBody_len {d : PyData} (h : Tm d) (hb : isBody 3 d = true) : (wBody d).length ≤ 248000 := by
  cases d with
  | tuple ds =>
    simp only [isBody, Bool.and_eq_true] at hb
    simp only [wBody]
    split
    · rw [l_minus]
      omega
    · exact Nat.le_trans (join_len _ _) (body_bound hb.1 h.len_le)
  | _ => cases hb
theorem wPoint_len {d : PyData} (h : Tm d) (hp : isPoint d = true) : (wPoint d).length ≤ 36000 := by
  cases d with
  | tuple ds =>
    simp only [isPoint, Bool.and_eq_true] at hp
    have hw := names_sum hp.1.1
    refine Nat.le_trans (join_len _ _) ?_
    have := h.len_le
    rw [l_comma, List.length_map]
    omega
  | _ => cases hp
/-- a part's words: how much they weigh -/
theorem words_len {k : Str} {d : PyData} (hk : k ∈ [("name" : Str), "superclasses", "count", "point", "body"]) (h : Tm d) (hp : isPart k d = true) : sumLen (wWords k d) + (wWords k d).length ≤ 248001 := by
  simp only [List.mem_cons, List.not_mem_nil, or_false] at hk
  rcases hk with rfl | rfl | rfl | rfl | rfl
  · simp only [isPart, if_true] at hp
    obtain ⟨x, rfl, hx⟩ := isName_eq hp
    have := nameS_len hx
    simp [wWords, n_name_superclasses, n_name_count, n_name_point, n_name_body, n_superclasses_name, n_superclasses_count, n_superclasses_point, n_superclasses_body, n_count_name, n_count_superclasses, n_count_point, n_count_body, n_point_name, n_point_superclasses, n_point_count, n_point_body, n_body_name, n_body_superclasses, n_body_count, n_body_point, sumLen, txS]
    omega
  · simp only [isPart, if_true, n_name_superclasses, n_name_count, n_name_point, n_name_body, n_superclasses_name, n_superclasses_count, n_superclasses_point, n_superclasses_body, n_count_name, n_count_superclasses, n_count_point, n_count_body, n_point_name, n_point_superclasses, n_point_count, n_point_body, n_body_name, n_body_superclasses, n_body_count, n_body_point, if_false] at hp
    cases d with
    | tuple ds =>
      have hw := names_sum hp
      have := h.len_le
      simp only [wWords, if_true, List.length_map]
      omega
    | _ => cases hp
  · simp only [isPart, if_true, n_name_superclasses, n_name_count, n_name_point, n_name_body, n_superclasses_name, n_superclasses_count, n_superclasses_point, n_superclasses_body, n_count_name, n_count_superclasses, n_count_point, n_count_body, n_point_name, n_point_superclasses, n_point_count, n_point_body, n_body_name, n_body_superclasses, n_body_count, n_body_point, if_false] at hp
    cases d with
    | int i =>
      simp only [isCount, Bool.and_eq_true, decide_eq_true_eq] at hp
      have e : (txS (.int i)).length = 1 := by
        have : i = 1 ∨ i = 2 ∨ i = 3 := by omega
        rcases this with rfl | rfl | rfl <;> decide +kernel
      simp [wWords, n_name_superclasses, n_name_count, n_name_point, n_name_body, n_superclasses_name, n_superclasses_count, n_superclasses_point, n_superclasses_body, n_count_name, n_count_superclasses, n_count_point, n_count_body, n_point_name, n_point_superclasses, n_point_count, n_point_body, n_body_name, n_body_superclasses, n_body_count, n_body_point, sumLen, e]
    | _ => cases hp
  · simp only [isPart, if_true, n_name_superclasses, n_name_count, n_name_point, n_name_body, n_superclasses_name, n_superclasses_count, n_superclasses_point, n_superclasses_body, n_count_name, n_count_superclasses, n_count_point, n_count_body, n_point_name, n_point_superclasses, n_point_count, n_point_body, n_body_name, n_body_superclasses, n_body_count, n_body_point, if_false] at hp
    have := wPoint_len h hp
    simp [wWords, n_name_superclasses, n_name_count, n_name_point, n_name_body, n_superclasses_name, n_superclasses_count, n_superclasses_point, n_superclasses_body, n_count_name, n_count_superclasses, n_count_point, n_count_body, n_point_name, n_point_superclasses, n_point_count, n_point_body, n_body_name, n_body_superclasses, n_body_count, n_body_point, sumLen]
    omega
  · simp only [isPart, if_true, n_name_superclasses, n_name_count, n_name_point, n_name_body, n_superclasses_name, n_superclasses_count, n_superclasses_point, n_superclasses_body, n_count_name, n_count_superclasses, n_count_point, n_count_body, n_point_name, n_point_superclasses, n_point_count, n_point_body, n_body_name, n_body_superclasses, n_body_count, n_body_point, if_false] at hp
    have := wBody_len h hp
    simp [wWords, n_name_superclasses, n_name_count, n_name_point, n_name_body, n_superclasses_name, n_superclasses_count, n_superclasses_point, n_superclasses_body, n_count_name, n_count_superclasses, n_count_point, n_count_body, n_point_name, n_point_superclasses, n_point_count, n_point_body, n_body_name, n_body_superclasses, n_body_count, n_body_point, sumLen]
    omega
section
variable {P : Str → Option Df} {B : Fe} (X : Has P B)
include X
set_option maxHeartbeats 4000000 in
theorem write_body_eq (n : Nat) (d : PyData) (m : Sto) (h : Tm d) (hb : isBody 3 d = true) : callN P B (n + 2) "write_body" [.dat d] m = .ok (wS (wBody d)) m := by
  rw [callN_at X.write_body]
  cases d with
  | tuple ds =>
    have hl := h.len
    simp only [isBody, Bool.and_eq_true] at hb
    have j := join_ok (s := "; ") (xs := ds.map wStep) (m := m) (seqOf_strs _ _) (Nat.le_trans (body_bound hb.1 h.len_le) (by omega))
    by_cases hn : ds = []
    · subst hn
      simp [dwrite_body, bdwrite_body, bodyN, evSs, evS, evE, evC, evO, getV, isiW, tyOf, isiT, fin, cutR, biW_len, lenW_str, lenW_tuple, lenW_list, cmp_le, cmp_lt, cmp_gt, cmp_ge, cmp_in, cmp_nin, cmp_eq, cmp_ne, in_str, intOf, asT, asTs, lcGo, gOk_nil, sl_tuple, sl_list, mkT, datAll, eqX_nil, X.EMPTY, wBody]
    · have he : ds.isEmpty = false := by cases ds <;> first | exact absurd rfl hn | rfl
      simp [dwrite_body, bdwrite_body, bodyN, evSs, evS, evE, evC, evO, getV, isiW, tyOf, isiT, fin, cutR, biW_len, lenW_str, lenW_tuple, lenW_list, cmp_le, cmp_lt, cmp_gt, cmp_ge, cmp_in, cmp_nin, cmp_eq, cmp_ne, in_str, intOf, asT, asTs, lcGo, gOk_nil, sl_tuple, sl_list, mkT, datAll, eqX_nil, X.EMPTY, rcv_join, isMut_f, hl, he, hn]
      rw [lcGo_mapF (v := fun d => wS (wStep d)) (gOk_nil _) fun e he => by simp [write_step_eq X n e _ (List.all_eq_true.mp hb.1 e he)]]
      have e1 : mkL (ds.map fun d => wS (wStep d)) = .dat (.list ((ds.map wStep).map PyData.str)) := by
        rw [mkL_dat, List.map_map]
        rfl
      simp only [calm_ok, bind_ok, e1, j, lift_some, st_ok, then_rt, wBody, if_neg hn]
  | _ => cases hb
set_option maxHeartbeats 4000000 in
theorem write_words_eq (n : Nat) (k : Str) (d : PyData) (m : Sto) (h : Tm d) (hk : k ∈ [("name" : Str), "superclasses", "count", "point", "body"]) (hp : isPart k d = true) :
    callN P B (n + 3) "write_words" [wS k, .dat d] m = .ok (.dat (.list ((wWords k d).map PyData.str))) m := by
  rw [callN_at X.write_words]
  simp only [List.mem_cons, List.not_mem_nil, or_false] at hk
  rcases hk with rfl | rfl | rfl | rfl | rfl
  · simp only [isPart, if_true] at hp
    obtain ⟨x, rfl, hx⟩ := isName_eq hp
    simp [dwrite_words, bdwrite_words, bodyN, evSs, evS, evE, evC, evO, getV, isiW, tyOf, isiT, fin, cutR, biW_len, lenW_str, lenW_tuple, lenW_list, cmp_le, cmp_lt, cmp_gt, cmp_ge, cmp_in, cmp_nin, cmp_eq, cmp_ne, in_str, intOf, asT, asTs, lcGo, gOk_nil, sl_tuple, sl_list, X.SUPERCLASSES, X.POINT, X.BODY, eqX_ss, o_name, o_superclasses, o_count, o_point, o_body, n_name_superclasses, n_name_count, n_name_point, n_name_body, n_superclasses_name, n_superclasses_count, n_superclasses_point, n_superclasses_body, n_count_name, n_count_superclasses, n_count_point, n_count_body, n_point_name, n_point_superclasses, n_point_count, n_point_body, n_body_name, n_body_superclasses, n_body_count, n_body_point, bi_str_s, mkL, datAll, wWords, txS, lim]
  · simp only [isPart, if_true, n_name_superclasses, n_name_count, n_name_point, n_name_body, n_superclasses_name, n_superclasses_count, n_superclasses_point, n_superclasses_body, n_count_name, n_count_superclasses, n_count_point, n_count_body, n_point_name, n_point_superclasses, n_point_count, n_point_body, n_body_name, n_body_superclasses, n_body_count, n_body_point, if_false] at hp
    cases d with
    | tuple ds =>
      have hs := names_str hp
      simp only [wWords, if_true]
      rw [← hs]
      simp [dwrite_words, bdwrite_words, bodyN, evSs, evS, evE, evC, evO, getV, isiW, tyOf, isiT, fin, cutR, biW_len, lenW_str, lenW_tuple, lenW_list, cmp_le, cmp_lt, cmp_gt, cmp_ge, cmp_in, cmp_nin, cmp_eq, cmp_ne, in_str, intOf, asT, asTs, lcGo, gOk_nil, sl_tuple, sl_list, X.SUPERCLASSES, eqX_ss, o_name, o_superclasses, o_count, o_point, o_body]
    | _ => cases hp
  · simp only [isPart, if_true, n_name_superclasses, n_name_count, n_name_point, n_name_body, n_superclasses_name, n_superclasses_count, n_superclasses_point, n_superclasses_body, n_count_name, n_count_superclasses, n_count_point, n_count_body, n_point_name, n_point_superclasses, n_point_count, n_point_body, n_body_name, n_body_superclasses, n_body_count, n_body_point, if_false] at hp
    cases d with
    | int i =>
      simp only [isCount, Bool.and_eq_true, decide_eq_true_eq] at hp
      have e : ∀ m, biW .str [wI i] m = some (wS (toString i)) := fun m => by
        have : i = 1 ∨ i = 2 ∨ i = 3 := by omega
        rcases this with rfl | rfl | rfl <;> exact bi_str_i _ m (by decide)
      simp [dwrite_words, bdwrite_words, bodyN, evSs, evS, evE, evC, evO, getV, isiW, tyOf, isiT, fin, cutR, biW_len, lenW_str, lenW_tuple, lenW_list, cmp_le, cmp_lt, cmp_gt, cmp_ge, cmp_in, cmp_nin, cmp_eq, cmp_ne, in_str, intOf, asT, asTs, lcGo, gOk_nil, sl_tuple, sl_list, X.SUPERCLASSES, X.POINT, X.BODY, eqX_ss, o_name, o_superclasses, o_count, o_point, o_body, n_name_superclasses, n_name_count, n_name_point, n_name_body, n_superclasses_name, n_superclasses_count, n_superclasses_point, n_superclasses_body, n_count_name, n_count_superclasses, n_count_point, n_count_body, n_point_name, n_point_superclasses, n_point_count, n_point_body, n_body_name, n_body_superclasses, n_body_count, n_body_point, e, mkL, datAll, wWords, txS, lim]
    | _ => cases hp
  · simp only [isPart, if_true, n_name_superclasses, n_name_count, n_name_point, n_name_body, n_superclasses_name, n_superclasses_count, n_superclasses_point, n_superclasses_body, n_count_name, n_count_superclasses, n_count_point, n_count_body, n_point_name, n_point_superclasses, n_point_count, n_point_body, n_body_name, n_body_superclasses, n_body_count, n_body_point, if_false] at hp
    simp [dwrite_words, bdwrite_words, bodyN, evSs, evS, evE, evC, evO, getV, isiW, tyOf, isiT, fin, cutR, biW_len, lenW_str, lenW_tuple, lenW_list, cmp_le, cmp_lt, cmp_gt, cmp_ge, cmp_in, cmp_nin, cmp_eq, cmp_ne, in_str, intOf, asT, asTs, lcGo, gOk_nil, sl_tuple, sl_list, X.SUPERCLASSES, X.POINT, X.BODY, eqX_ss, o_name, o_superclasses, o_count, o_point, o_body, n_name_superclasses, n_name_count, n_name_point, n_name_body, n_superclasses_name, n_superclasses_count, n_superclasses_point, n_superclasses_body, n_count_name, n_count_superclasses, n_count_point, n_count_body, n_point_name, n_point_superclasses, n_point_count, n_point_body, n_body_name, n_body_superclasses, n_body_count, n_body_point, write_point_eq X (n + 1) d _ h hp, mkL, datAll, wWords, lim]
  · simp only [isPart, if_true, n_name_superclasses, n_name_count, n_name_point, n_name_body, n_superclasses_name, n_superclasses_count, n_superclasses_point, n_superclasses_body, n_count_name, n_count_superclasses, n_count_point, n_count_body, n_point_name, n_point_superclasses, n_point_count, n_point_body, n_body_name, n_body_superclasses, n_body_count, n_body_point, if_false] at hp
    simp [dwrite_words, bdwrite_words, bodyN, evSs, evS, evE, evC, evO, getV, isiW, tyOf, isiT, fin, cutR, biW_len, lenW_str, lenW_tuple, lenW_list, cmp_le, cmp_lt, cmp_gt, cmp_ge, cmp_in, cmp_nin, cmp_eq, cmp_ne, in_str, intOf, asT, asTs, lcGo, gOk_nil, sl_tuple, sl_list, X.SUPERCLASSES, X.POINT, X.BODY, eqX_ss, o_name, o_superclasses, o_count, o_point, o_body, n_name_superclasses, n_name_count, n_name_point, n_name_body, n_superclasses_name, n_superclasses_count, n_superclasses_point, n_superclasses_body, n_count_name, n_count_superclasses, n_count_point, n_count_body, n_point_name, n_point_superclasses, n_point_count, n_point_body, n_body_name, n_body_superclasses, n_body_count, n_body_point, write_body_eq X n d _ h hp, mkL, datAll, wWords, lim]
end
end Op
/-! Op, part 4: write_operation. -/
namespace Op
open PySem Mi
theorem part_tm {k : Str} {p : PyData} (hk : k ∈ [("name" : Str), "superclasses", "count", "point", "body"]) (h : isPart k p = true) (hq : Tq p) : Tm p := by
  rcases hq with hq | ⟨kv, rfl⟩
  · exact hq
  · exfalso
    simp only [List.mem_cons, List.not_mem_nil, or_false] at hk
    rcases hk with rfl | rfl | rfl | rfl | rfl <;> simp [isPart, n_name_superclasses, n_name_count, n_name_point, n_name_body, n_superclasses_name, n_superclasses_count, n_superclasses_point, n_superclasses_body, n_count_name, n_count_superclasses, n_count_point, n_count_body, n_point_name, n_point_superclasses, n_point_count, n_point_body, n_body_name, n_body_superclasses, n_body_count, n_body_point, isName, isNames, isCount, isPoint, isBody] at h
theorem isOp_shape {d : PyData} (h : isOp d = true) : ∃ w ps ks, d = .tuple (.str w :: ps) ∧ partsOf w = some ks ∧ ps.length = ks.length ∧ ∀ q ∈ ks.zip ps, isPart q.1 q.2 = true := by
  unfold isOp at h
  split at h
  · rename_i w ps
    split at h
    · cases h
    · rename_i ks e
      simp only [Bool.and_eq_true, decide_eq_true_eq, List.all_eq_true] at h
      exact ⟨w, ps, ks, rfl, e, h.1, h.2⟩
  · cases h
theorem zip_strs {ks : List Str} {ps : List PyData} : ((ks.map PyData.str).zip ps).map (fun q => W.tup [.dat q.1, .dat q.2]) = (ks.zip ps).map fun q => .tup [wS q.1, .dat q.2] := by
  induction ks generalizing ps with
  | nil => rfl
  | cons k ks ih => cases ps with
    | nil => rfl
    | cons p ps => simp only [List.map_cons, List.zip_cons_cons, ih]
theorem flat_take {α β : Type} (f : α → List β) (l : List α) (i : Nat) (x : α) (h : l[i]? = some x) : (l.take (i + 1)).flatMap f = (l.take i).flatMap f ++ f x := by
  rw [List.take_add_one, h, List.flatMap_append]
  simp
theorem sumLen_app (xs ys : List Str) : sumLen (xs ++ ys) = sumLen xs + sumLen ys := by
  induction xs with
  | nil => simp [sumLen]
  | cons x xs ih => simp only [List.cons_append, sumLen, ih]; omega
theorem sum_flat {α : Type} (f : α → List Str) {k : Nat} : ∀ {l : List α}, (∀ a ∈ l, sumLen (f a) + (f a).length ≤ k) → sumLen (l.flatMap f) + (l.flatMap f).length ≤ l.length * k
  | [], _ => by simp [sumLen]
  | a :: l, h => by
    have h1 := h a (List.mem_cons_self ..)
    have h2 := sum_flat f fun b hb => h b (List.mem_cons_of_mem a hb)
    simp only [List.flatMap_cons, sumLen_app, List.length_append, List.length_cons, Nat.succ_mul]
    omega
theorem kinds_len {w : Str} {ks : List Str} (h : partsOf w = some ks) : w.length ≤ 8 := by
  have hm := lookup_memA h
  simp only [partsTab, List.mem_cons, Prod.mk.injEq, List.not_mem_nil, or_false] at hm
  rcases hm with ⟨rfl, _⟩ | ⟨rfl, _⟩ | ⟨rfl, _⟩ | ⟨rfl, _⟩ | ⟨rfl, _⟩ | ⟨rfl, _⟩ | ⟨rfl, _⟩ | ⟨rfl, _⟩ <;> decide +kernel
section
variable {P : Str → Option Df} {B : Fe} (X : Has P B)
include X
set_option maxHeartbeats 4000000 in
theorem write_op_no (n : Nat) (d : PyData) (m : Sto) (h : Tp d) (ho : isOp d = false) : callN P B (n + 7) "write_operation" [.dat d] m = .exc "InvalidOperation" [("value", .dat d)] m := by
  rw [callN_at X.write_operation]
  simp [dwrite_operation, bdwrite_operation, bodyN, evSs, evS, evE, evC, evO, getV, isiW, tyOf, isiT, fin, cutR, biW_len, lenW_str, lenW_tuple, lenW_list, cmp_le, cmp_lt, cmp_gt, cmp_ge, cmp_in, cmp_nin, cmp_eq, cmp_ne, in_str, intOf, asT, asTs, lcGo, gOk_nil, sl_tuple, sl_list, is_operation_eq X n d _ h, ho, X.fIO, frzF, trav, frz_dat]
set_option maxHeartbeats 4000000 in
theorem write_op_eq (n : Nat) (d : PyData) (m : Sto) (h : Tp d) (ho : isOp d = true) : callN P B (n + 7) "write_operation" [.dat d] m = .ok (wS (wOp d)) m := by
  rw [callN_at X.write_operation]
  obtain ⟨w, ps, ks, rfl, hp, hl, hz⟩ := isOp_shape ho
  obtain ⟨hl2, hq⟩ := h.tup
  have hk := parts_kinds hp
  have hks := parts_short hp
  have htm : ∀ q ∈ ks.zip ps, Tm q.2 ∧ q.1 ∈ [("name" : Str), "superclasses", "count", "point", "body"] := fun q hqz => by
    obtain ⟨h1, h2⟩ := List.of_mem_zip hqz
    exact ⟨part_tm (hk _ h1) (hz q hqz) (hq _ (List.mem_cons_of_mem _ h2)), hk _ h1⟩
  have hzl : (ks.zip ps).length ≤ 3 := by
    rw [List.length_zip]
    omega
  have hsum := sum_flat (fun q : Str × PyData => wWords q.1 q.2) (k := 248001) (l := ks.zip ps) fun q hqz => words_len (htm q hqz).2 (htm q hqz).1 (hz q hqz)
  have hsum2 : ∀ i, sumLen (((ks.zip ps).take i).flatMap fun q => wWords q.1 q.2) + (((ks.zip ps).take i).flatMap fun q => wWords q.1 q.2).length ≤ 744003 := fun i => by
    have := sum_flat (fun q : Str × PyData => wWords q.1 q.2) (k := 248001) (l := (ks.zip ps).take i) fun q hqz => words_len (htm q (List.mem_of_mem_take hqz)).2 (htm q (List.mem_of_mem_take hqz)).1 (hz q (List.mem_of_mem_take hqz))
    have hl3 : ((ks.zip ps).take i).length ≤ 3 := by
      rw [List.length_take]
      omega
    omega
  show (match decide (([W.dat (.tuple (.str w :: ps))] : List W).length = 1) with
    | true => fin true m.length (evSs { B with call := callN P B (n + 6), L := m.length } bdwrite_operation ([W.dat (.tuple (.str w :: ps))].map some ++ List.replicate (6 - 1) none) m)
    | false => .no) = _
  refine fin_dat ?_
  unfold bdwrite_operation
  refine to_cons ?_
  simp only [evS, evE, evSs_nil, evEs_var, evEs_nil, getV, List.map_cons, List.map_nil, List.cons_append, List.nil_append, List.getElem?_cons_zero, lift_some, bind_ok, List.length_cons, List.length_nil, decide_true, is_operation_eq X n _ _ h, ho, tru_b, Bool.not_true, st_ok, to_nx]
  refine to_cons ?_
  simp only [evS, evE, getV, List.getElem?_cons_zero, lift_some, bind_ok, st_ok, seqOf_tuple, List.map_cons, mkL_map, to_nx, List.replicate, List.set_cons_succ, List.set_cons_zero]
  refine to_cons ?_
  simp only [evS, evE, evEs_var, evEs_nil, getV, List.getElem?_cons_zero, List.getElem?_cons_succ, lift_some, bind_ok, st_ok, List.length_cons, List.length_nil, show decide (0 + 1 ≤ lim) = true from rfl, newL_t, asT, to_nx, List.set_cons_succ, List.set_cons_zero]
  refine to_cons (SR.to_mono (fors_to (ws := (ks.zip ps).map fun q => .tup [wS q.1, .dat q.2]) (w := .itr 1 [.dat (strD ks), .dat (.list ps)]) (fun i σ m' => (∃ x y, σ = [some (W.dat (.tuple (.str w :: ps))), some (wS w), some (.dat (.list ps)), some (.ref m.length), x, y]) ∧
      m' = m ++ [.lst ((w :: ((ks.zip ps).take i).flatMap fun q => wWords q.1 q.2).map wS)]) ?_ ?_ rfl ⟨⟨_, _, rfl⟩, rfl⟩ ?_) ?_ fun _ _ h => h)
  · simp [evE, getV, X.PARTS, ix_tab, parts_look, hp]
  · rw [strD, iterOf_zip, zip_strs]
  · rintro i x σ m' hx ⟨⟨x4, x5, rfl⟩, rfl⟩
    rw [List.getElem?_map] at hx
    obtain ⟨q, hq1, rfl⟩ := Option.map_eq_some_iff.mp hx
    have hqz := List.mem_of_getElem? hq1
    have hs2 := hsum2 i
    have hw := words_len (htm q hqz).2 (htm q hqz).1 (hz q hqz)
    have mu := mut_ext m ((w :: ((ks.zip ps).take i).flatMap fun q => wWords q.1 q.2).map wS) ((wWords q.1 q.2).map PyData.str) (by
      simp only [List.length_map, List.length_cons]
      show _ ≤ 1000000
      omega)
    simp only [bindT_two, lift_some, st_ok, evSs, evS, evE, evEs_call, evEs_var, evEs_nil, getV, List.set_cons_succ, List.set_cons_zero, List.getElem?_cons_succ, List.getElem?_cons_zero, bind_ok, rcv_ext, List.length_cons, List.length_nil, decide_true,
      write_words_eq X (n + 3) q.1 q.2 _ (htm q hqz).1 (htm q hqz).2 (hz q hqz), isMut_t, mu, then_nx, to_nx]
    refine ⟨⟨_, _, rfl⟩, ?_⟩
    rw [flat_take _ _ _ _ hq1]
    simp [List.map_map]
  · rintro σ m' ⟨⟨x4, x5, rfl⟩, rfl⟩
    rw [List.length_map, List.take_length]
    have j := join_ok (s := " ") (xs := w :: (ks.zip ps).flatMap fun q => wWords q.1 q.2) (seqOf_app m ((w :: (ks.zip ps).flatMap fun q => wWords q.1 q.2).map wS)) (by
      have := kinds_len hp
      simp only [sumLen, List.length_cons, l_space]
      omega)
    simp only [evSs, evS, evE, evEs_var, evEs_nil, getV, List.getElem?_cons_succ, List.getElem?_cons_zero, lift_some, bind_ok, rcv_join, isMut_f, j, st_ok, then_rt, to_rt]
    refine ⟨?_, by simp⟩
    simp [wOp, hp]
end
end Op
/-! Op, part 5: reading. -/
namespace Op
open PySem Mi
/-! ### texts -/
def okS (x : Str) : Bool := x.cps.all (· < 0x110000)
theorem okS_iff {x : Str} : okS x = true ↔ ∀ c ∈ Sp.cs x, c < 0x110000 := by
  unfold okS
  rw [← Array.all_toList, List.all_eq_true]
  simp
/-- a text of at most n codes -/
structure Mx (n : Nat) (x : Str) : Prop where
  ok : okS x = true
  le : x.length ≤ n
theorem Mx.tm {n : Nat} {x : Str} (h : Mx n x) (hn : n ≤ 4000) : Tm (.str x) := Tm.of_str h.ok (by have := h.le; omega)
theorem jn_mem {s : List Nat} : ∀ {ps : List (List Nat)} {p : List Nat}, p ∈ ps → ∀ c ∈ p, c ∈ Sp.jn s ps
  | [], _, h => by cases h
  | [q], p, h => by
    simp only [List.mem_cons, List.not_mem_nil, or_false] at h
    subst h
    exact fun c hc => hc
  | q :: r :: l, p, h => by
    intro c hc
    show c ∈ q ++ s ++ Sp.jn s (r :: l)
    rcases List.mem_cons.mp h with rfl | h
    · simp [hc]
    · simp [jn_mem h c hc]
theorem jn_in {s : List Nat} : ∀ {ps : List (List Nat)} {c : Nat}, c ∈ Sp.jn s ps → c ∈ s ∨ ∃ p ∈ ps, c ∈ p
  | [], _, h => by cases h
  | [q], c, h => .inr ⟨q, by simp, h⟩
  | q :: r :: l, c, h => by
    have h : c ∈ q ++ s ++ Sp.jn s (r :: l) := h
    simp only [List.mem_append] at h
    rcases h with (h | h) | h
    · exact .inr ⟨q, by simp, h⟩
    · exact .inl h
    · rcases jn_in h with h | ⟨p, hp, h⟩
      · exact .inl h
      · exact .inr ⟨p, List.mem_cons_of_mem _ hp, h⟩
theorem jn_len {s : List Nat} : ∀ {ps : List (List Nat)}, (ps.map List.length).sum + ps.length * s.length ≤ (Sp.jn s ps).length + s.length
  | [] => by simp [Sp.jn]
  | [q] => by simp [Sp.jn]
  | q :: r :: l => by
    have := jn_len (s := s) (ps := r :: l)
    simp only [Sp.jn, List.length_append, List.map_cons, List.sum_cons, List.length_cons, Nat.succ_mul] at this ⊢
    omega
theorem sum_cs : ∀ xs : List Str, ((xs.map Sp.cs).map List.length).sum = sumLen xs
  | [] => rfl
  | x :: xs => by
    simp only [List.map_cons, List.sum_cons, sumLen, sum_cs xs]
    rw [← Sp.len_cs]
/-- texts of at most n codes in all, each with one more -/
structure Ws (n : Nat) (ws : List Str) : Prop where
  ok : ∀ w ∈ ws, okS w = true
  le : sumLen ws + ws.length ≤ n
theorem sum_mem : ∀ {ws : List Str} {w : Str}, w ∈ ws → w.length ≤ sumLen ws
  | x :: xs, w, h => by
    simp only [sumLen]
    rcases List.mem_cons.mp h with rfl | h
    · omega
    · have := sum_mem h
      omega
theorem Ws.mem {n : Nat} {ws : List Str} (h : Ws n ws) {w : Str} (hw : w ∈ ws) : Mx n w := ⟨h.ok w hw, by
  have := sum_mem hw
  have := h.le
  omega⟩
theorem sum_drop : ∀ (i : Nat) (ws : List Str), sumLen (ws.drop i) ≤ sumLen ws
  | 0, ws => Nat.le_refl _
  | i + 1, [] => Nat.le_refl _
  | i + 1, w :: ws => by
    have := sum_drop i ws
    simp only [List.drop_succ_cons, sumLen]
    omega
theorem Ws.drop {n : Nat} {ws : List Str} (h : Ws n ws) (i : Nat) : Ws n (ws.drop i) := ⟨fun w hw => h.ok w (List.mem_of_mem_drop hw), by
  have := sum_drop i ws
  have := h.le
  rw [List.length_drop]
  omega⟩
theorem Ws.tail {n : Nat} {w : Str} {ws : List Str} (h : Ws n (w :: ws)) : Ws n ws := h.drop 1
theorem split_ws {n : Nat} {x y : Str} (h : Mx n x) (hy : 1 ≤ y.length) : Ws (n + y.length) (Txt.split x y) := by
  have e : Sp.cs x = Sp.jn (Sp.cs y) ((Txt.split x y).map Sp.cs) := by
    rw [← Sp.cs_join, Sp.join_split]
  constructor
  · intro w hw
    rw [okS_iff]
    intro c hc
    refine okS_iff.mp h.ok c ?_
    rw [e]
    exact jn_mem (List.mem_map_of_mem hw) c hc
  · have h1 := jn_len (s := Sp.cs y) (ps := (Txt.split x y).map Sp.cs)
    rw [← e, sum_cs, List.length_map, ← Sp.len_cs, ← Sp.len_cs] at h1
    have h2 := h.le
    have : (Txt.split x y).length ≤ (Txt.split x y).length * y.length := Nat.le_mul_of_pos_right _ hy
    omega
theorem join_mx {n : Nat} {s : Str} {ws : List Str} (h : Ws n ws) (hs : okS s = true) (hl : s.length = 1) : Mx n (Txt.join s ws) := by
  constructor
  · rw [okS_iff]
    intro c hc
    rw [Sp.cs_join] at hc
    rcases jn_in hc with hc | ⟨p, hp, hc⟩
    · exact okS_iff.mp hs c hc
    · obtain ⟨w, hw, rfl⟩ := List.mem_map.mp hp
      exact okS_iff.mp (h.ok w hw) c hc
  · have := join_len s ws
    have := h.le
    rw [hl] at *
    omega
theorem split_ne (x y : Str) (hy : 1 ≤ y.length) (hk : Builtin.Str.strKind y = 1) : Txt.split x y ≠ [] := by
  intro e
  have h := Sp.cs_split (x := x) (y := y) (by
    intro q
    rw [Sp.len_cs, q] at hy
    simp at hy) hk
  obtain ⟨p, ps, q⟩ := Sp.spl_ne (Sp.cs y) (Sp.cs x).length (Sp.cs x)
  rw [e, q] at h
  cases h
/-! ### what is read -/
def digit (c : Nat) : Bool := decide (48 ≤ c) && decide (c ≤ 57)
def isNum (x : Str) : Bool := decide (1 ≤ x.length) && decide (x.length ≤ 2) && (Sp.cs x).all digit
def numV (x : Str) : Int := (intText? x).getD 0
def rItem (x : Str) : PyData := if isNum x then .int (numV x) else .str x
def rStepL : List Str → PyData
  | [a, b] => if a = "say" then .tuple [.str "say", .str b] else .none
  | [a, b, c] => if a = "call" then .tuple [.str "call", .str b, .tuple ((Txt.split c ",").map rItem)] else .none
  | [a] => if a = "next" then .tuple [.str "next"] else .none
  | _ => .none
def rStep (x : Str) : PyData := rStepL (Txt.split x " ")
def rBody (x : Str) : PyData := if x = "-" then .tuple [] else .tuple ((Txt.split x "; ").map rStep)
def rPart (k : Str) : List Str → PyData
  | [] => if k = "superclasses" then .tuple [] else .none
  | w :: ws => if k = "superclasses" then .tuple ((w :: ws).map .str) else if k = "body" then rBody (Txt.join " " (w :: ws)) else
    if k = "point" then .tuple ((Txt.split w ",").map .str) else if k = "count" then rItem w else .str w
def rFind : List Str → Option PyData
  | [] => none
  | w :: ws => (partsOf w).map fun ks => .tuple (.str w :: ks.zipIdx.map fun q => rPart q.1 (ws.drop q.2))
/-- what a text is read as -/
def rOp (x : Str) : Option PyData := match rFind (Txt.split x " ") with
  | some d => if isOp d = true ∧ wOp d = x then some d else none
  | none => none
theorem digits_mem (c : Nat) : decide (c ∈ (("0123456789" : Str)).cps.toList) = digit c := by
  have e : (("0123456789" : Str)).cps.toList = [48, 49, 50, 51, 52, 53, 54, 55, 56, 57] := by decide +kernel
  rw [e]
  unfold digit
  rw [Bool.eq_iff_iff, decide_eq_true_eq, Bool.and_eq_true, decide_eq_true_eq, decide_eq_true_eq]
  simp only [List.mem_cons, List.not_mem_nil, or_false]
  omega
theorem digits_has (c : Nat) : hasS ⟨#[c]⟩ "0123456789" = digit c := by rw [hasS_one, digits_mem]
theorem num_1 : ∀ a : Fin 10, intText? ⟨#[48 + a.val]⟩ = some (a.val : Int) := by decide +kernel
theorem num_2 : ∀ a b : Fin 10, intText? ⟨#[48 + a.val, 48 + b.val]⟩ = some ((10 * a.val + b.val : Nat) : Int) := by decide +kernel
theorem num_some {x : Str} (h : isNum x = true) : intText? x = some (numV x) := by
  have : ∃ i, intText? x = some i := by
    simp only [isNum, Bool.and_eq_true, decide_eq_true_eq, List.all_eq_true] at h
    obtain ⟨⟨h1, h2⟩, h3⟩ := h
    rw [Sp.len_cs] at h1 h2
    rw [← Sp.tx_cs x]
    generalize Sp.cs x = l at h1 h2 h3
    match l, h1, h2, h3 with
    | [a], _, _, h3 =>
      have ha := h3 a (by simp)
      simp only [digit, Bool.and_eq_true, decide_eq_true_eq] at ha
      have := num_1 ⟨a - 48, by omega⟩
      rw [show 48 + (a - 48) = a by omega] at this
      exact ⟨_, this⟩
    | [a, b], _, _, h3 =>
      have ha := h3 a (by simp)
      have hb := h3 b (by simp)
      simp only [digit, Bool.and_eq_true, decide_eq_true_eq] at ha hb
      have := num_2 ⟨a - 48, by omega⟩ ⟨b - 48, by omega⟩
      rw [show 48 + (a - 48) = a by omega, show 48 + (b - 48) = b by omega] at this
      exact ⟨_, this⟩
    | [], h1, _, _ => simp at h1
    | _ :: _ :: _ :: _, _, h2, _ => simp at h2
  obtain ⟨i, e⟩ := this
  rw [numV, e]
  rfl
theorem met_split {x y : Str} {m : Sto} (hy : (y.length == 0) = false) (h : x.length ≤ lim) : metW .split (wS x) [wS y] m = some (.dat (.list ((Txt.split x y).map .str))) := by
  show ((strOf (wS x)).bind fun x => (strOf (wS y)).bind fun y => if (y.length == 0) = false ∧ x.length ≤ lim then some (mkL ((PySem.Txt.split x y).map wS)) else none) = _
  show (if (y.length == 0) = false ∧ x.length ≤ lim then some (mkL ((PySem.Txt.split x y).map wS)) else none) = _
  rw [if_pos ⟨hy, h⟩, mkL_dat]
theorem ln_comma : (("," : Str).length == 0) = false := by decide +kernel
theorem ln_space : ((" " : Str).length == 0) = false := by decide +kernel
theorem ln_semi : (("; " : Str).length == 0) = false := by decide +kernel
theorem o_minus : ("-" : Str).cps.all (· < 0x110000) = true := by decide +kernel
theorem biW_int {x : Str} (m : Sto) (h : isNum x = true) : biW .int [wS x] m = some (wI (numV x)) := by
  show ((if x.length ≤ 640 then intText? x else none).map wI) = _
  rw [num_some h, if_pos]
  · rfl
  · simp only [isNum, Bool.and_eq_true, decide_eq_true_eq] at h
    omega
theorem biW_tuple_l (m : Sto) (ds : List PyData) : biW .tuple [.dat (.list ds)] m = some (.dat (.tuple ds)) := by
  show (lstOf m (.dat (.list ds))).map mkT = _
  rw [lstOf_list, Option.map_some, mkT_map]
theorem lstOf_strs (m : Sto) (xs : List Str) : lstOf m (.dat (.list (xs.map PyData.str))) = some (xs.map wS) := by
  rw [lstOf_list, List.map_map]
  rfl
section
variable {P : Str → Option Df} {B : Fe} (X : Has P B)
include X
set_option maxHeartbeats 4000000 in
theorem read_item_eq (n : Nat) (x : Str) (m : Sto) (h : Mx 4000 x) : callN P B (n + 1) "read_item" [wS x] m = .ok (.dat (rItem x)) m := by
  rw [callN_at X.read_item]
  have hx : x.length ≤ lim := by
    have := h.le
    show _ ≤ 1000000
    omega
  have hx2 : x.cps.size ≤ lim := hx
  by_cases h1 : 1 ≤ x.length
  · by_cases h2 : x.length ≤ 2
    · have e1 : (1 : Int) ≤ x.length := by omega
      have e2 : (x.length : Int) ≤ 2 := by omega
      have e3 : isNum x = (Sp.cs x).all digit := by simp [isNum, h1, h2]
      simp [dread_item, bdread_item, bodyN, evSs, evS, evE, evC, evO, getV, isiW, tyOf, isiT, fin, cutR, biW_len, lenW_str, lenW_tuple, lenW_list, cmp_le, cmp_lt, cmp_gt, cmp_ge, cmp_in, cmp_nin, cmp_eq, cmp_ne, in_str, intOf, asT, asTs, lcGo, gOk_nil, sl_tuple, sl_list, X.DIGITS, hx, hx2, h1, h2, e1, e2, rItem]
      rw [lcGo_mapF (v := fun c => wB (digit c)) (gOk_nil _) fun c _ => by simp [in_str, digits_has]]
      have e4 : x.cps.toList.all digit = isNum x := e3.symm
      simp [mkL_dat, biW_all, -List.all_eq_true, -List.all_eq_false, -Array.all_toList, e4]
      cases q : isNum x with
      | false => simp
      | true => simp [biW_int _ q]
    · have e1 : (1 : Int) ≤ x.length := by omega
      have e2 : ¬ (x.length : Int) ≤ 2 := by omega
      simp [dread_item, bdread_item, bodyN, evSs, evS, evE, evC, evO, getV, isiW, tyOf, isiT, fin, cutR, biW_len, lenW_str, lenW_tuple, lenW_list, cmp_le, cmp_lt, cmp_gt, cmp_ge, cmp_in, cmp_nin, cmp_eq, cmp_ne, in_str, intOf, asT, asTs, lcGo, gOk_nil, sl_tuple, sl_list, rItem, isNum, hx, h1, h2, e1, e2]
  · have e1 : ¬ (1 : Int) ≤ x.length := by omega
    simp [dread_item, bdread_item, bodyN, evSs, evS, evE, evC, evO, getV, isiW, tyOf, isiT, fin, cutR, biW_len, lenW_str, lenW_tuple, lenW_list, cmp_le, cmp_lt, cmp_gt, cmp_ge, cmp_in, cmp_nin, cmp_eq, cmp_ne, in_str, intOf, asT, asTs, lcGo, gOk_nil, sl_tuple, sl_list, rItem, isNum, hx, h1, e1]
end
end Op
/-! Op, part 6: reading, the steps. -/
namespace Op
open PySem Mi
theorem rItem_tm {x : Str} (h : Mx 4000 x) : Tm (rItem x) := by
  unfold rItem
  split
  · exact Tm.of_int _
  · exact h.tm (Nat.le_refl _)
theorem rItem_dep (x : Str) : (rItem x).depth = 0 := by
  unfold rItem
  split <;> rfl
theorem Mx.mono {n k : Nat} {x : Str} (h : Mx n x) (hk : n ≤ k) : Mx k x := ⟨h.ok, Nat.le_trans h.le hk⟩
theorem l_comma1 : 1 ≤ ("," : Str).length := by decide +kernel
theorem l_space1 : 1 ≤ (" " : Str).length := by decide +kernel
theorem l_semi1 : 1 ≤ ("; " : Str).length := by decide +kernel
theorem k_space : Builtin.Str.strKind (" " : Str) = 1 := by decide +kernel
theorem k_comma : Builtin.Str.strKind ("," : Str) = 1 := by decide +kernel
theorem k_semi : Builtin.Str.strKind ("; " : Str) = 1 := by decide +kernel
theorem split_comma {n : Nat} {x : Str} (h : Mx n x) : Ws (n + 1) (Txt.split x ",") := by
  have := split_ws h l_comma1
  rwa [l_comma] at this
theorem split_space {n : Nat} {x : Str} (h : Mx n x) : Ws (n + 1) (Txt.split x " ") := by
  have := split_ws h l_space1
  rwa [l_space] at this
theorem split_semi {n : Nat} {x : Str} (h : Mx n x) : Ws (n + 2) (Txt.split x "; ") := by
  have := split_ws h l_semi1
  rwa [l_semi] at this
theorem strs_tm {n : Nat} {ws : List Str} (h : Ws n ws) (hn : n ≤ 4000) : Tm (.tuple (ws.map .str)) := by
  refine Tm.of_tuple ?_ ?_ ?_
  · have := h.le
    rw [List.length_map]
    omega
  · intro d hd
    obtain ⟨w, hw, rfl⟩ := List.mem_map.mp hd
    exact (h.mem hw).tm hn
  · intro d hd
    obtain ⟨w, hw, rfl⟩ := List.mem_map.mp hd
    simp [PyData.depth]
theorem items_tm {n : Nat} {ws : List Str} (h : Ws n ws) (hn : n ≤ 4000) : Tm (.tuple (ws.map rItem)) ∧ (PyData.tuple (ws.map rItem)).depth ≤ 1 := by
  have hd : ∀ d ∈ ws.map rItem, d.depth ≤ 0 := by
    intro d hd
    obtain ⟨w, hw, rfl⟩ := List.mem_map.mp hd
    rw [rItem_dep]
    exact Nat.le_refl _
  refine ⟨Tm.of_tuple ?_ ?_ fun d h => Nat.le_trans (hd d h) (by decide), ?_⟩
  · have := h.le
    rw [List.length_map]
    omega
  · intro d hd
    obtain ⟨w, hw, rfl⟩ := List.mem_map.mp hd
    exact rItem_tm ((h.mem hw).mono hn)
  · simp only [PyData.depth]
    have := depthAll_le.mpr hd
    omega
theorem rStep_tm {x : Str} (h : Mx 3990 x) : Tm (rStep x) ∧ (rStep x).depth ≤ 2 := by
  have hw := split_space h
  unfold rStep
  generalize Txt.split x " " = l at hw
  unfold rStepL
  split
  · split
    · exact ⟨Tm.of_tuple (by simp) (by
        intro d hd
        simp only [List.mem_cons, List.not_mem_nil, or_false] at hd
        rcases hd with rfl | rfl
        · exact Tm.of_str o_say (by rw [l_say]; decide)
        · exact (hw.mem (by simp)).tm (by decide)) (by simp [PyData.depth]), by simp [PyData.depth, PyData.depthAll]⟩
    · exact ⟨Tm.of_none, by simp [PyData.depth]⟩
  · rename_i a b c
    split
    · have hc := items_tm (split_comma (hw.mem (w := c) (by simp))) (by decide)
      refine ⟨Tm.of_tuple (by simp) (by
        intro d hd
        simp only [List.mem_cons, List.not_mem_nil, or_false] at hd
        rcases hd with rfl | rfl | rfl
        · exact Tm.of_str o_call (by rw [l_call]; decide)
        · exact (hw.mem (by simp)).tm (by decide)
        · exact hc.1) (by
        intro d hd
        simp only [List.mem_cons, List.not_mem_nil, or_false] at hd
        rcases hd with rfl | rfl | rfl
        · simp [PyData.depth]
        · simp [PyData.depth]
        · exact Nat.le_trans hc.2 (by decide)), ?_⟩
      have := hc.2
      simp only [PyData.depth, PyData.depthAll] at this ⊢
      omega
    · exact ⟨Tm.of_none, by simp [PyData.depth]⟩
  · split
    · exact ⟨Tm.of_tuple (by simp) (by
        intro d hd
        simp only [List.mem_cons, List.not_mem_nil, or_false] at hd
        rcases hd with rfl
        exact Tm.of_str o_next (by rw [l_next]; decide)) (by simp [PyData.depth]), by simp [PyData.depth, PyData.depthAll]⟩
    · exact ⟨Tm.of_none, by simp [PyData.depth]⟩
  · exact ⟨Tm.of_none, by simp [PyData.depth]⟩
theorem rBody_tm {x : Str} (h : Mx 3988 x) : Tm (rBody x) ∧ (rBody x).depth ≤ 3 := by
  have hw := split_semi h
  unfold rBody
  split
  · exact ⟨Tm.of_tuple (by simp) (by simp) (by simp), by simp [PyData.depth, PyData.depthAll]⟩
  · have hd : ∀ d ∈ (Txt.split x "; ").map rStep, d.depth ≤ 2 := by
      intro d hd
      obtain ⟨w, hw2, rfl⟩ := List.mem_map.mp hd
      exact (rStep_tm (hw.mem hw2)).2
    refine ⟨Tm.of_tuple ?_ ?_ fun d h => Nat.le_trans (hd d h) (by decide), ?_⟩
    · have := hw.le
      rw [List.length_map]
      omega
    · intro d hd
      obtain ⟨w, hw2, rfl⟩ := List.mem_map.mp hd
      exact (rStep_tm (hw.mem hw2)).1
    · simp only [PyData.depth]
      have := depthAll_le.mpr hd
      omega
theorem rPart_tm {k : Str} {ws : List Str} (h : Ws 3980 ws) : Tm (rPart k ws) := by
  unfold rPart
  split
  · split
    · exact Tm.of_tuple (by simp) (by simp) (by simp)
    · exact Tm.of_none
  · rename_i w ws
    have hm : Mx 3980 w := h.mem (by simp)
    split
    · exact strs_tm h (by decide)
    · split
      · exact (rBody_tm ((join_mx h (by decide +kernel) l_space).mono (by decide))).1
      · split
        · exact strs_tm (split_comma hm) (by decide)
        · split
          · exact rItem_tm (hm.mono (by decide))
          · exact hm.tm (by decide)
theorem enumW_map {α : Type} (f : α → W) : ∀ (l : List α) (n : Nat), enumW n (l.map f) = (l.zipIdx n).map fun q => .tup [wI q.2, f q.1]
  | [], _ => rfl
  | a :: l, n => by simp only [List.map_cons, enumW, List.zipIdx_cons, enumW_map f l]
theorem cutD_drop (ds : List PyData) (i : Nat) : cutD ds (some (i : Int)) none = ds.drop i := by
  unfold cutD
  rw [HT.sIx_nat, HT.sIx_none]
  by_cases h : i ≤ ds.length
  · rw [Nat.min_eq_left h, List.take_of_length_le (by rw [List.length_drop]; exact Nat.le_refl _)]
  · rw [Nat.min_eq_right (by omega), List.drop_of_length_le (Nat.le_refl _), List.drop_of_length_le (by omega)]
    simp
theorem split_cons (x : Str) : ∃ w ws, Txt.split x " " = w :: ws := by
  cases e : Txt.split x " " with
  | nil => exact absurd e (split_ne x " " l_space1 k_space)
  | cons w ws => exact ⟨w, ws, rfl⟩
theorem okS_say : ∀ {a : Str}, okS a = true → a.cps.all (· < 0x110000) = true := fun h => h
section
variable {P : Str → Option Df} {B : Fe} (X : Has P B)
include X
set_option maxHeartbeats 4000000 in
theorem read_step_eq (n : Nat) (x : Str) (m : Sto) (h : Mx 3990 x) : callN P B (n + 2) "read_step" [wS x] m = .ok (.dat (rStep x)) m := by
  rw [callN_at X.read_step]
  have hx : x.length ≤ lim := by
    have := h.le
    show _ ≤ 1000000
    omega
  have hw := split_space h
  unfold rStep
  have hs := met_split (m := m) ln_space hx
  have hg : ixW m (.dat (.tuple [.str "next"])) (wI 0) = some (wS "next") := ix_0 m _ _
  simp only [dread_step, bdread_step, bodyN, evSs, evS, evE, evEs_con, evEs_nil, getV, List.length_cons, List.length_nil, decide_true, List.map_cons, List.map_nil, List.cons_append, List.getElem?_cons_zero, lift_some, bind_ok, rcv_split, isMut_f, hs, st_ok]
  generalize hl : Txt.split x " " = l at hw
  match l, hw with
  | [], hw => exact absurd hl (split_ne x " " l_space1 k_space)
  | [a], hw =>
    have ha := (hw.mem (w := a) (by simp)).ok
    by_cases q : a = "next"
    · subst q
      simp [evCs, evCa, setAll, evG, bodyN, evSs, evS, evE, evC, evO, getV, isiW, tyOf, isiT, fin, cutR, biW_len, lenW_str, lenW_tuple, lenW_list, cmp_le, cmp_lt, cmp_gt, cmp_ge, cmp_in, cmp_nin, cmp_eq, cmp_ne, in_str, intOf, asT, asTs, lcGo, gOk_nil, sl_tuple, sl_list, lstOf_list, X.NEXT_STEP, hg, eqX_ss o_next o_next, rStepL]
    · simp [evCs, evCa, setAll, evG, bodyN, evSs, evS, evE, evC, evO, getV, isiW, tyOf, isiT, fin, cutR, biW_len, lenW_str, lenW_tuple, lenW_list, cmp_le, cmp_lt, cmp_gt, cmp_ge, cmp_in, cmp_nin, cmp_eq, cmp_ne, in_str, intOf, asT, asTs, lcGo, gOk_nil, sl_tuple, sl_list, lstOf_list, X.NEXT_STEP, hg, eqX_ss (okS_say ha) o_next, q, rStepL]
  | [a, b], hw =>
    have ha := (hw.mem (w := a) (by simp)).ok
    by_cases q : a = "say"
    · subst q
      simp [evCs, evCa, setAll, evG, bodyN, evSs, evS, evE, evC, evO, getV, isiW, tyOf, isiT, fin, cutR, biW_len, lenW_str, lenW_tuple, lenW_list, cmp_le, cmp_lt, cmp_gt, cmp_ge, cmp_in, cmp_nin, cmp_eq, cmp_ne, in_str, intOf, asT, asTs, lcGo, gOk_nil, sl_tuple, sl_list, lstOf_list, X.SAY, eqX_ss o_say o_say, rStepL, lim, mkT, datAll]
    · simp [evCs, evCa, setAll, evG, bodyN, evSs, evS, evE, evC, evO, getV, isiW, tyOf, isiT, fin, cutR, biW_len, lenW_str, lenW_tuple, lenW_list, cmp_le, cmp_lt, cmp_gt, cmp_ge, cmp_in, cmp_nin, cmp_eq, cmp_ne, in_str, intOf, asT, asTs, lcGo, gOk_nil, sl_tuple, sl_list, lstOf_list, X.SAY, eqX_ss (okS_say ha) o_say, q, rStepL, lim]
  | [a, b, c], hw =>
    have ha := (hw.mem (w := a) (by simp)).ok
    have hc : Mx 3991 c := hw.mem (w := c) (by simp)
    have hcl : c.length ≤ lim := by
      have := hc.le
      show _ ≤ 1000000
      omega
    have hcw := split_comma hc
    have hz : (Txt.split c ",").length ≤ 1000000 := by
      have := hcw.le
      omega
    by_cases q : a = "call"
    · subst q
      simp [evCs, evCa, setAll, evG, bodyN, evSs, evS, evE, evC, evO, getV, isiW, tyOf, isiT, fin, cutR, biW_len, lenW_str, lenW_tuple, lenW_list, cmp_le, cmp_lt, cmp_gt, cmp_ge, cmp_in, cmp_nin, cmp_eq, cmp_ne, in_str, intOf, asT, asTs, lcGo, gOk_nil, sl_tuple, sl_list, lstOf_list, X.CALL, eqX_ss o_call o_call, rStepL, rcv_split, isMut_f, met_split ln_comma hcl, lim, hz]
      rw [lcGo_mapF (u := W.dat ∘ PyData.str) (v := fun y => .dat (rItem y)) (gOk_nil _) fun y hy => by simp [read_item_eq X n y _ ((hcw.mem hy).mono (by decide))]]
      simp [mkL_dat, biW_tuple_l, mkT, datAll]
    · simp [evCs, evCa, setAll, evG, bodyN, evSs, evS, evE, evC, evO, getV, isiW, tyOf, isiT, fin, cutR, biW_len, lenW_str, lenW_tuple, lenW_list, cmp_le, cmp_lt, cmp_gt, cmp_ge, cmp_in, cmp_nin, cmp_eq, cmp_ne, in_str, intOf, asT, asTs, lcGo, gOk_nil, sl_tuple, sl_list, lstOf_list, X.CALL, eqX_ss (okS_say ha) o_call, q, rStepL]
  | a :: b :: c :: d :: r, hw => simp [evCs, evCa, setAll, evG, bodyN, evSs, evS, evE, evC, evO, getV, isiW, tyOf, isiT, fin, cutR, biW_len, lenW_str, lenW_tuple, lenW_list, cmp_le, cmp_lt, cmp_gt, cmp_ge, cmp_in, cmp_nin, cmp_eq, cmp_ne, in_str, intOf, asT, asTs, lcGo, gOk_nil, sl_tuple, sl_list, lstOf_list, rStepL]
set_option maxHeartbeats 4000000 in
theorem read_body_eq (n : Nat) (x : Str) (m : Sto) (h : Mx 3988 x) : callN P B (n + 3) "read_body" [wS x] m = .ok (.dat (rBody x)) m := by
  rw [callN_at X.read_body]
  have hx : x.length ≤ lim := by
    have := h.le
    show _ ≤ 1000000
    omega
  have hw := split_semi h
  have hz : (Txt.split x "; ").length ≤ 1000000 := by
    have := hw.le
    omega
  by_cases q : x = "-"
  · subst q
    simp [dread_body, bdread_body, bodyN, evSs, evS, evE, evC, evO, getV, isiW, tyOf, isiT, fin, cutR, biW_len, lenW_str, lenW_tuple, lenW_list, cmp_le, cmp_lt, cmp_gt, cmp_ge, cmp_in, cmp_nin, cmp_eq, cmp_ne, in_str, intOf, asT, asTs, lcGo, gOk_nil, sl_tuple, sl_list, X.EMPTY, eqX_ss o_minus o_minus, rBody, mkT, datAll]
  · simp [dread_body, bdread_body, bodyN, evSs, evS, evE, evC, evO, getV, isiW, tyOf, isiT, fin, cutR, biW_len, lenW_str, lenW_tuple, lenW_list, cmp_le, cmp_lt, cmp_gt, cmp_ge, cmp_in, cmp_nin, cmp_eq, cmp_ne, in_str, intOf, asT, asTs, lcGo, gOk_nil, sl_tuple, sl_list, X.EMPTY, eqX_ss (okS_say h.ok) o_minus, q, rBody, rcv_split, isMut_f, met_split ln_semi hx, lim, hz]
    rw [lcGo_mapF (u := W.dat ∘ PyData.str) (v := fun y => .dat (rStep y)) (gOk_nil _) fun y hy => by simp [read_step_eq X n y _ (hw.mem hy)]]
    simp [mkL_dat, biW_tuple_l]
end
end Op
/-! Op, part 7: reading an operation. -/
namespace Op
open PySem Mi
theorem sum_get : ∀ {xs : List Str} {a : Str}, a ∈ xs → a.length ≤ sumLen xs := fun h => sum_mem h
theorem okS_app {x y : Str} : okS (x ++ y) = (okS x && okS y) := by
  rw [Bool.eq_iff_iff, Bool.and_eq_true, okS_iff, okS_iff, okS_iff, Sp.cs_app]
  simp only [List.mem_append]
  exact ⟨fun h => ⟨fun c hc => h c (.inl hc), fun c hc => h c (.inr hc)⟩, fun h c hc => hc.elim (h.1 c) (h.2 c)⟩
theorem okS_join {s : Str} {ws : List Str} (hs : okS s = true) (h : ∀ w ∈ ws, okS w = true) : okS (Txt.join s ws) = true := by
  rw [okS_iff]
  intro c hc
  rw [Sp.cs_join] at hc
  rcases jn_in hc with hc | ⟨p, hp, hc⟩
  · exact okS_iff.mp hs c hc
  · obtain ⟨w, hw, rfl⟩ := List.mem_map.mp hp
    exact okS_iff.mp (h w hw) c hc
theorem nameS_ok {x : Str} (h : nameS x = true) : okS x = true := by
  simp only [nameS, Bool.and_eq_true, List.all_eq_true] at h
  rw [okS_iff]
  intro c hc
  have := h.2 c hc
  simp only [letter, Bool.and_eq_true, decide_eq_true_eq] at this
  omega
theorem arg_ok {d : PyData} (h : isArg d = true) : okS (txS d) = true := by
  simp only [isArg, Bool.or_eq_true] at h
  rcases h with h | h
  · obtain ⟨x, rfl, hx⟩ := isName_eq h
    exact nameS_ok hx
  · obtain ⟨i, rfl, h0, h1⟩ := isIdx_eq h
    rcases idx_text h0 h1 with rfl | rfl | rfl <;> decide +kernel
theorem ok_space : okS (" " : Str) = true := by decide +kernel
theorem ok_comma : okS ("," : Str) = true := by decide +kernel
theorem ok_semi : okS ("; " : Str) = true := by decide +kernel
theorem wStep_ok {d : PyData} (h : isStep 3 d = true) : okS (wStep d) = true := by
  rcases step_cases h with rfl | ⟨x, rfl, hx⟩ | ⟨x, es, rfl, hx, h1, h2, h3⟩
  · decide +kernel
  · refine okS_join ok_space ?_
    simp only [List.map_cons, List.map_nil, txS, List.mem_cons, List.not_mem_nil, or_false]
    rintro w (rfl | rfl)
    · decide +kernel
    · exact nameS_ok hx
  · refine okS_join ok_space ?_
    simp only [txS, List.mem_cons, List.not_mem_nil, or_false]
    rintro w (rfl | rfl | rfl)
    · decide +kernel
    · exact nameS_ok hx
    · refine okS_join ok_comma fun y hy => ?_
      obtain ⟨e, he, rfl⟩ := List.mem_map.mp hy
      exact arg_ok (List.all_eq_true.mp h3 e he)
theorem names_ok {ds : List PyData} (h : ds.all isName = true) : ∀ w ∈ ds.map txS, okS w = true := fun y hy => by
  obtain ⟨e, he, rfl⟩ := List.mem_map.mp hy
  obtain ⟨x, rfl, hx⟩ := isName_eq (List.all_eq_true.mp h e he)
  exact nameS_ok hx
theorem words_ok {k : Str} {d : PyData} (hk : k ∈ [("name" : Str), "superclasses", "count", "point", "body"]) (hp : isPart k d = true) : ∀ w ∈ wWords k d, okS w = true := by
  simp only [List.mem_cons, List.not_mem_nil, or_false] at hk
  rcases hk with rfl | rfl | rfl | rfl | rfl
  · simp only [isPart, if_true] at hp
    obtain ⟨x, rfl, hx⟩ := isName_eq hp
    simp [wWords, n_name_superclasses, n_name_count, n_name_point, n_name_body, n_superclasses_name, n_superclasses_count, n_superclasses_point, n_superclasses_body, n_count_name, n_count_superclasses, n_count_point, n_count_body, n_point_name, n_point_superclasses, n_point_count, n_point_body, n_body_name, n_body_superclasses, n_body_count, n_body_point, txS, nameS_ok hx]
  · simp only [isPart, if_true, n_name_superclasses, n_name_count, n_name_point, n_name_body, n_superclasses_name, n_superclasses_count, n_superclasses_point, n_superclasses_body, n_count_name, n_count_superclasses, n_count_point, n_count_body, n_point_name, n_point_superclasses, n_point_count, n_point_body, n_body_name, n_body_superclasses, n_body_count, n_body_point, if_false] at hp
    cases d with
    | tuple ds => simpa [wWords] using names_ok hp
    | _ => cases hp
  · simp only [isPart, if_true, n_name_superclasses, n_name_count, n_name_point, n_name_body, n_superclasses_name, n_superclasses_count, n_superclasses_point, n_superclasses_body, n_count_name, n_count_superclasses, n_count_point, n_count_body, n_point_name, n_point_superclasses, n_point_count, n_point_body, n_body_name, n_body_superclasses, n_body_count, n_body_point, if_false] at hp
    cases d with
    | int i =>
      simp only [isCount, Bool.and_eq_true, decide_eq_true_eq] at hp
      have e : okS (txS (.int i)) = true := by
        have : i = 1 ∨ i = 2 ∨ i = 3 := by omega
        rcases this with rfl | rfl | rfl <;> decide +kernel
      simp [wWords, n_name_superclasses, n_name_count, n_name_point, n_name_body, n_superclasses_name, n_superclasses_count, n_superclasses_point, n_superclasses_body, n_count_name, n_count_superclasses, n_count_point, n_count_body, n_point_name, n_point_superclasses, n_point_count, n_point_body, n_body_name, n_body_superclasses, n_body_count, n_body_point, e]
    | _ => cases hp
  · simp only [isPart, if_true, n_name_superclasses, n_name_count, n_name_point, n_name_body, n_superclasses_name, n_superclasses_count, n_superclasses_point, n_superclasses_body, n_count_name, n_count_superclasses, n_count_point, n_count_body, n_point_name, n_point_superclasses, n_point_count, n_point_body, n_body_name, n_body_superclasses, n_body_count, n_body_point, if_false] at hp
    cases d with
    | tuple ds =>
      simp only [isPoint, Bool.and_eq_true] at hp
      simp [wWords, n_name_superclasses, n_name_count, n_name_point, n_name_body, n_superclasses_name, n_superclasses_count, n_superclasses_point, n_superclasses_body, n_count_name, n_count_superclasses, n_count_point, n_count_body, n_point_name, n_point_superclasses, n_point_count, n_point_body, n_body_name, n_body_superclasses, n_body_count, n_body_point, wPoint, okS_join ok_comma (names_ok hp.1.1)]
    | _ => cases hp
  · simp only [isPart, if_true, n_name_superclasses, n_name_count, n_name_point, n_name_body, n_superclasses_name, n_superclasses_count, n_superclasses_point, n_superclasses_body, n_count_name, n_count_superclasses, n_count_point, n_count_body, n_point_name, n_point_superclasses, n_point_count, n_point_body, n_body_name, n_body_superclasses, n_body_count, n_body_point, if_false] at hp
    cases d with
    | tuple ds =>
      simp only [isBody, Bool.and_eq_true] at hp
      have : okS (wBody (.tuple ds)) = true := by
        simp only [wBody]
        split
        · decide +kernel
        · refine okS_join ok_semi fun y hy => ?_
          obtain ⟨e, he, rfl⟩ := List.mem_map.mp hy
          exact wStep_ok (List.all_eq_true.mp hp.1 e he)
      simp [wWords, n_name_superclasses, n_name_count, n_name_point, n_name_body, n_superclasses_name, n_superclasses_count, n_superclasses_point, n_superclasses_body, n_count_name, n_count_superclasses, n_count_point, n_count_body, n_point_name, n_point_superclasses, n_point_count, n_point_body, n_body_name, n_body_superclasses, n_body_count, n_body_point, this]
    | _ => cases hp
theorem kinds_ok {w : Str} {ks : List Str} (h : partsOf w = some ks) : okS w = true := by
  have hm := lookup_memA h
  simp only [partsTab, List.mem_cons, Prod.mk.injEq, List.not_mem_nil, or_false] at hm
  rcases hm with ⟨rfl, _⟩ | ⟨rfl, _⟩ | ⟨rfl, _⟩ | ⟨rfl, _⟩ | ⟨rfl, _⟩ | ⟨rfl, _⟩ | ⟨rfl, _⟩ | ⟨rfl, _⟩ <;> decide +kernel
theorem wOp_ok {d : PyData} (h : isOp d = true) : okS (wOp d) = true := by
  obtain ⟨w, ps, ks, rfl, hp, hl, hz⟩ := isOp_shape h
  refine okS_join ok_space fun y hy => ?_
  rcases List.mem_cons.mp hy with rfl | hy
  · exact kinds_ok hp
  · rw [hp, Option.getD_some] at hy
    obtain ⟨q, hq, hy⟩ := List.mem_flatMap.mp hy
    exact words_ok (parts_kinds hp _ (List.of_mem_zip hq).1) (hz q hq) y hy
theorem Tp.found {w : Str} {ds : List PyData} (hl : ds.length ≤ 3900) (h : ∀ d ∈ ds, Tm d) (hw : Mx 4000 w) : Tp (.tuple (.str w :: ds)) := by
  intro es e
  cases e
  refine ⟨by simp only [List.length_cons]; omega, fun d hd => ?_⟩
  rcases List.mem_cons.mp hd with rfl | hd
  · exact .inl (hw.tm (Nat.le_refl _))
  · exact .inl (h d hd)
section
variable {P : Str → Option Df} {B : Fe} (X : Has P B)
include X
set_option maxHeartbeats 4000000 in
theorem read_part_eq (n : Nat) (k : Str) (ws : List Str) (m : Sto) (hk : k ∈ [("name" : Str), "superclasses", "count", "point", "body"]) (h : Ws 3980 ws) : callN P B (n + 4) "read_part" [wS k, .dat (.list (ws.map .str))] m = .ok (.dat (rPart k ws)) m := by
  rw [callN_at X.read_part]
  have hle := h.le
  simp only [List.mem_cons, List.not_mem_nil, or_false] at hk
  by_cases hs : k = "superclasses"
  · subst hs
    have e : rPart "superclasses" ws = .tuple (ws.map .str) := by cases ws <;> simp [rPart]
    simp [dread_part, bdread_part, bodyN, evSs, evS, evE, evC, evO, getV, isiW, tyOf, isiT, fin, cutR, biW_len, lenW_str, lenW_tuple, lenW_list, cmp_le, cmp_lt, cmp_gt, cmp_ge, cmp_in, cmp_nin, cmp_eq, cmp_ne, in_str, intOf, asT, asTs, lcGo, gOk_nil, sl_tuple, sl_list, X.SUPERCLASSES, eqX_ss, o_name, o_superclasses, o_count, o_point, o_body, biW_tuple_l, e]
  · have hnil : ∀ (ds : List PyData) (m : Sto), SeqAt.shaped (.list ds) = true → eqX m (.dat (.list ds)) (mkL []) = some ds.isEmpty := fun ds m hd => by
      show eqX m (.dat (.list ds)) (.dat (.list [])) = _
      unfold eqX
      rw [tupOf_list]
      simp only [eqW, datOf_dat, hd, show SeqAt.shaped (.list []) = true by decide +kernel, Bool.and_self, if_true, PyData.eqv]
      cases ds <;> simp [PyData.eqvAll]
    have hsh : SeqAt.shaped (.list (ws.map .str)) = true := by
      have := (strs_tm h (by decide)).shaped
      simpa [SeqAt.shaped, PyData.canLay0, PyData.depth] using this
    have hko : k.cps.all (· < 0x110000) = true := by rcases hk with rfl | rfl | rfl | rfl | rfl <;> decide +kernel
    cases ws with
    | nil =>
      simp [dread_part, bdread_part, bodyN, evSs, evS, evE, evC, evO, getV, isiW, tyOf, isiT, fin, cutR, biW_len, lenW_str, lenW_tuple, lenW_list, cmp_le, cmp_lt, cmp_gt, cmp_ge, cmp_in, cmp_nin, cmp_eq, cmp_ne, in_str, intOf, asT, asTs, lcGo, gOk_nil, sl_tuple, sl_list, X.SUPERCLASSES, eqX_ss hko o_superclasses, hs, hnil _ _ hsh, rPart]
      simp [hnil [] m (by decide +kernel)]
    | cons w r =>
      have hw : Mx 3980 w := h.mem (by simp)
      have hwl : w.length ≤ lim := by
        have := hw.le
        show _ ≤ 1000000
        omega
      have j := join_ok (s := " ") (xs := w :: r) (m := m) (seqOf_strs m (w :: r)) (by rw [l_space]; omega)
      have hix := ixl_0 m (.str w) (r.map .str)
      have hn := hnil _ m hsh
      simp only [List.map_cons] at j hn
      rcases hk with rfl | rfl | rfl | rfl | rfl
      · simp [dread_part, bdread_part, bodyN, evSs, evS, evE, evC, evO, getV, isiW, tyOf, isiT, fin, cutR, biW_len, lenW_str, lenW_tuple, lenW_list, cmp_le, cmp_lt, cmp_gt, cmp_ge, cmp_in, cmp_nin, cmp_eq, cmp_ne, in_str, intOf, asT, asTs, lcGo, gOk_nil, sl_tuple, sl_list, X.SUPERCLASSES, X.BODY, X.POINT, X.COUNT, eqX_ss, o_name, o_superclasses, o_count, o_point, o_body, n_name_superclasses, n_name_count, n_name_point, n_name_body, n_superclasses_name, n_superclasses_count, n_superclasses_point, n_superclasses_body, n_count_name, n_count_superclasses, n_count_point, n_count_body, n_point_name, n_point_superclasses, n_point_count, n_point_body, n_body_name, n_body_superclasses, n_body_count, n_body_point, hn, hix, rPart]
      · exact absurd rfl hs
      · simp [dread_part, bdread_part, bodyN, evSs, evS, evE, evC, evO, getV, isiW, tyOf, isiT, fin, cutR, biW_len, lenW_str, lenW_tuple, lenW_list, cmp_le, cmp_lt, cmp_gt, cmp_ge, cmp_in, cmp_nin, cmp_eq, cmp_ne, in_str, intOf, asT, asTs, lcGo, gOk_nil, sl_tuple, sl_list, X.SUPERCLASSES, X.BODY, X.POINT, X.COUNT, eqX_ss, o_name, o_superclasses, o_count, o_point, o_body, n_name_superclasses, n_name_count, n_name_point, n_name_body, n_superclasses_name, n_superclasses_count, n_superclasses_point, n_superclasses_body, n_count_name, n_count_superclasses, n_count_point, n_count_body, n_point_name, n_point_superclasses, n_point_count, n_point_body, n_body_name, n_body_superclasses, n_body_count, n_body_point, hn, hix, rPart, read_item_eq X (n + 2) w _ (hw.mono (by decide))]
      · simp [dread_part, bdread_part, bodyN, evSs, evS, evE, evC, evO, getV, isiW, tyOf, isiT, fin, cutR, biW_len, lenW_str, lenW_tuple, lenW_list, cmp_le, cmp_lt, cmp_gt, cmp_ge, cmp_in, cmp_nin, cmp_eq, cmp_ne, in_str, intOf, asT, asTs, lcGo, gOk_nil, sl_tuple, sl_list, X.SUPERCLASSES, X.BODY, X.POINT, X.COUNT, eqX_ss, o_name, o_superclasses, o_count, o_point, o_body, n_name_superclasses, n_name_count, n_name_point, n_name_body, n_superclasses_name, n_superclasses_count, n_superclasses_point, n_superclasses_body, n_count_name, n_count_superclasses, n_count_point, n_count_body, n_point_name, n_point_superclasses, n_point_count, n_point_body, n_body_name, n_body_superclasses, n_body_count, n_body_point, hn, hix, rPart, rcv_split, isMut_f, met_split ln_comma hwl, biW_tuple_l]
      · have hj : Mx 3980 (Txt.join " " (w :: r)) := join_mx h ok_space l_space
        simp [dread_part, bdread_part, bodyN, evSs, evS, evE, evC, evO, getV, isiW, tyOf, isiT, fin, cutR, biW_len, lenW_str, lenW_tuple, lenW_list, cmp_le, cmp_lt, cmp_gt, cmp_ge, cmp_in, cmp_nin, cmp_eq, cmp_ne, in_str, intOf, asT, asTs, lcGo, gOk_nil, sl_tuple, sl_list, X.SUPERCLASSES, X.BODY, X.POINT, X.COUNT, eqX_ss, o_name, o_superclasses, o_count, o_point, o_body, n_name_superclasses, n_name_count, n_name_point, n_name_body, n_superclasses_name, n_superclasses_count, n_superclasses_point, n_superclasses_body, n_count_name, n_count_superclasses, n_count_point, n_count_body, n_point_name, n_point_superclasses, n_point_count, n_point_body, n_body_name, n_body_superclasses, n_body_count, n_body_point, hn, hix, rPart, rcv_join, isMut_f, j, read_body_eq X n _ _ (hj.mono (by decide))]
set_option maxHeartbeats 4000000 in
theorem parsed_eq (n : Nat) (x : Str) (m : Sto) (h : Mx 3900 x) : callN P B (n + 8) "parsed" [wS x] m = .ok (match rOp x with
    | some d => .dat d
    | none => wN) m := by
  rw [callN_at X.parsed]
  have hx : x.length ≤ lim := by
    have := h.le
    show _ ≤ 1000000
    omega
  have hw := split_space h
  obtain ⟨w, ws, e⟩ := split_cons x
  have hs := met_split (m := m) ln_space hx
  unfold rOp
  rw [e] at hs hw ⊢
  have hm : mkL (ws.map wS) = .dat (.list (ws.map .str)) := mkL_dat _ _
  simp only [dparsed, bdparsed, bodyN, List.length_cons, List.length_nil, decide_true]
  simp only [evSs, evS, evE, evEs_con, evEs_nil, getV, List.map_cons, List.map_nil, List.cons_append, List.getElem?_cons_zero, List.getElem?_cons_succ, lift_some, bind_ok, rcv_split, isMut_f, hs, st_ok, seqOf_list]
  have hm2 : mkL ((ws.map PyData.str).map W.dat) = .dat (.list (ws.map .str)) := mkL_map _
  have hm3 : mkL (List.map (W.dat ∘ PyData.str) ws) = .dat (.list (ws.map .str)) := hm
  cases hp : partsOf w with
  | none => simp [bodyN, evSs, evS, evE, evC, evO, getV, isiW, tyOf, isiT, fin, cutR, biW_len, lenW_str, lenW_tuple, lenW_list, cmp_le, cmp_lt, cmp_gt, cmp_ge, cmp_in, cmp_nin, cmp_eq, cmp_ne, in_str, intOf, asT, asTs, lcGo, gOk_nil, sl_tuple, sl_list, X.PARTS, in_tab, parts_look, hp, rFind]
  | some ks =>
    have hk := parts_kinds hp
    have hkl : ks.length ≤ 3 := parts_short hp
    have e4 : ks.length ≤ lim := by
      show _ ≤ 1000000
      omega
    have hwo := hw.tail
    have hit : iterOf m (.itr 0 [.dat (strD ks)]) = some (ks.zipIdx.map fun q => .tup [wI q.2, wS q.1]) := by
      show (seqOf m (.dat (strD ks))).map (enumW 0) = _
      rw [strD, seqOf_strT, Option.map_some, enumW_map]
    have hfd : rFind (w :: ws) = some (.tuple (.str w :: ks.zipIdx.map fun q => rPart q.1 (ws.drop q.2))) := by simp [rFind, hp]
    have htp : Tp (.tuple (.str w :: ks.zipIdx.map fun q => rPart q.1 (ws.drop q.2))) := by
      refine Tp.found (by simp; omega) (fun d hd => ?_) ((hw.mem (by simp)).mono (by decide))
      obtain ⟨q, hq, rfl⟩ := List.mem_map.mp hd
      exact rPart_tm ⟨(hwo.drop q.2).ok, Nat.le_trans (hwo.drop q.2).le (by decide)⟩
    rw [hfd]
    generalize hfg : (PyData.tuple (.str w :: ks.zipIdx.map fun q => rPart q.1 (ws.drop q.2))) = fd at htp
    simp [bodyN, evSs, evS, evE, evC, evO, getV, isiW, tyOf, isiT, fin, cutR, biW_len, lenW_str, lenW_tuple, lenW_list, cmp_le, cmp_lt, cmp_gt, cmp_ge, cmp_in, cmp_nin, cmp_eq, cmp_ne, in_str, intOf, asT, asTs, lcGo, gOk_nil, sl_tuple, sl_list, X.PARTS, in_tab, ix_tab, parts_look, hp, hm2, hit, e4]
    rw [lcGo_mapF (v := fun q => .dat (rPart q.1 (ws.drop q.2))) (gOk_nil _) fun q hq => ?_]
    · have e5 : ks.length + 1 ≤ lim := by
        show _ ≤ 1000000
        omega
      have e6 : mkT (wS w :: (ks.zipIdx.map fun q => W.dat (rPart q.1 (ws.drop q.2)))) = .dat fd := by
        rw [← hfg]
        have := mkT_map (.str w :: ks.zipIdx.map fun q => rPart q.1 (ws.drop q.2))
        rw [List.map_cons, List.map_map] at this
        exact this
      have e7 : mkT (W.dat (PyData.str w) :: List.map (W.dat ∘ fun a => rPart a.fst (List.drop a.snd ws)) ks.zipIdx) = .dat fd := e6
      simp [mkL_dat, e5, e7, getV, is_operation_eq X (n + 1) fd _ htp]
      cases ho : isOp fd with
      | false => simp
      | true =>
        have hwx : eqX m (wS (wOp fd)) (wS x) = some (decide (wOp fd = x)) := eqX_ss (wOp_ok ho) h.ok
        simp [write_op_eq X n fd _ htp ho, hwx]
        by_cases q : wOp fd = x <;> simp [q]
    · have hq2 : q.1 ∈ ks := by
        obtain ⟨k, i⟩ := q
        have := List.mem_zipIdx_iff_getElem?.mp hq
        exact List.mem_of_getElem? (i := i) (by simpa using this)
      have hrp := read_part_eq X (n + 3) q.1 (ws.drop q.2) m (hk _ hq2) ⟨(hwo.drop q.2).ok, Nat.le_trans (hwo.drop q.2).le (by decide)⟩
      rw [List.map_drop] at hrp
      simp [hm3, sl_list, cutD_drop, hrp, -List.map_drop]
set_option maxHeartbeats 4000000 in
theorem read_op_eq (n : Nat) (x : Str) (m : Sto) (h : Mx 3900 x) : callN P B (n + 9) "read_operation" [wS x] m = (match rOp x with
    | some d => .ok (.dat d) m
    | none => .exc "InvalidText" [("line", wI 1)] m) := by
  rw [callN_at X.read_operation]
  cases e : rOp x with
  | none => simp [dread_operation, bdread_operation, bodyN, evSs, evS, evE, evC, evO, getV, isiW, tyOf, isiT, fin, cutR, biW_len, lenW_str, lenW_tuple, lenW_list, cmp_le, cmp_lt, cmp_gt, cmp_ge, cmp_in, cmp_nin, cmp_eq, cmp_ne, in_str, intOf, asT, asTs, lcGo, gOk_nil, sl_tuple, sl_list, parsed_eq X n x _ h, e, X.fIT, cmpW, isNon]
  | some d =>
    have hd : isNon (.dat d) = false := by
      unfold rOp at e
      split at e
      · split at e
        · rename_i d' _ h1
          cases e
          obtain ⟨w, ps, ks, rfl, _⟩ := isOp_shape h1.1
          rfl
        · cases e
      · cases e
    simp [dread_operation, bdread_operation, bodyN, evSs, evS, evE, evC, evO, getV, isiW, tyOf, isiT, fin, cutR, biW_len, lenW_str, lenW_tuple, lenW_list, cmp_le, cmp_lt, cmp_gt, cmp_ge, cmp_in, cmp_nin, cmp_eq, cmp_ne, in_str, intOf, asT, asTs, lcGo, gOk_nil, sl_tuple, sl_list, parsed_eq X n x _ h, e, X.fIT, cmpW, hd]
end
end Op
/-! Op, part 8: what was written is read back. -/
namespace Op
open PySem Mi
/-- no space, no comma, no semicolon -/
def fr (x : Str) : Prop := ∀ c ∈ Sp.cs x, c ≠ 32 ∧ c ≠ 44 ∧ c ≠ 59
theorem fr_b {x : Str} (h : (Sp.cs x).all (fun c => decide (c ≠ 32) && decide (c ≠ 44) && decide (c ≠ 59)) = true) : fr x := fun c hc => by
  have := List.all_eq_true.mp h c hc
  simp only [Bool.and_eq_true, decide_eq_true_eq] at this
  exact ⟨this.1.1, this.1.2, this.2⟩
theorem fr_name {x : Str} (h : nameS x = true) : fr x := fun c hc => by
  simp only [nameS, Bool.and_eq_true, List.all_eq_true] at h
  have := h.2 c hc
  simp only [letter, Bool.and_eq_true, decide_eq_true_eq] at this
  omega
theorem fr_say : fr "say" := fr_b (by decide +kernel)
theorem fr_call : fr "call" := fr_b (by decide +kernel)
theorem fr_next : fr "next" := fr_b (by decide +kernel)
theorem fr_arg {d : PyData} (h : isArg d = true) : fr (txS d) := by
  simp only [isArg, Bool.or_eq_true] at h
  rcases h with h | h
  · obtain ⟨x, rfl, hx⟩ := isName_eq h
    exact fr_name hx
  · obtain ⟨i, rfl, h0, h1⟩ := isIdx_eq h
    rcases idx_text h0 h1 with rfl | rfl | rfl <;> exact fr_b (by decide +kernel)
theorem c_space : Sp.cs (" " : Str) = [32] := by decide +kernel
theorem c_comma : Sp.cs ("," : Str) = [44] := by decide +kernel
theorem c_semi : Sp.cs ("; " : Str) = [59, 32] := by decide +kernel
theorem sj_space {xs : List Str} (hx : xs ≠ []) (hf : ∀ x ∈ xs, 32 ∉ Sp.cs x) : Txt.split (Txt.join " " xs) " " = xs := Sp.split_join c_space k_space hx hf
theorem sj_comma {xs : List Str} (hx : xs ≠ []) (hf : ∀ x ∈ xs, 44 ∉ Sp.cs x) : Txt.split (Txt.join "," xs) "," = xs := Sp.split_join c_comma k_comma hx hf
theorem sj_semi {xs : List Str} (hx : xs ≠ []) (hf : ∀ x ∈ xs, 59 ∉ Sp.cs x) : Txt.split (Txt.join "; " xs) "; " = xs := Sp.split_join c_semi k_semi hx hf
theorem join_free {k : Nat} {s : Str} {xs : List Str} (hs : k ∉ Sp.cs s) (h : ∀ x ∈ xs, k ∉ Sp.cs x) : k ∉ Sp.cs (Txt.join s xs) := by
  intro hc
  rw [Sp.cs_join] at hc
  rcases jn_in hc with hc | ⟨p, hp, hc⟩
  · exact hs hc
  · obtain ⟨w, hw, rfl⟩ := List.mem_map.mp hp
    exact h w hw hc
theorem rItem_name {x : Str} (h : nameS x = true) : rItem x = .str x := by
  have : isNum x = false := by
    simp only [nameS, Bool.and_eq_true, decide_eq_true_eq, List.all_eq_true] at h
    obtain ⟨⟨h1, h2⟩, h3⟩ := h
    cases q : isNum x with
    | false => rfl
    | true =>
      simp only [isNum, Bool.and_eq_true, List.all_eq_true] at q
      rw [Sp.len_cs] at h1
      obtain ⟨c, hc⟩ := List.exists_mem_of_length_pos h1
      have a := h3 c hc
      have b := q.2 c hc
      simp only [letter, digit, Bool.and_eq_true, decide_eq_true_eq] at a b
      omega
  simp [rItem, this]
theorem rItem_small : ∀ i : Fin 4, isNum (toString (i.val : Int)) = true ∧ numV (toString (i.val : Int)) = (i.val : Int) := by decide +kernel
theorem rItem_int {i : Int} (h0 : 0 ≤ i) (h1 : i ≤ 3) : rItem (txS (.int i)) = .int i := by
  have e := rItem_small ⟨i.toNat, by omega⟩
  simp only [Int.toNat_of_nonneg h0] at e
  have e2 : txS (.int i) = ((toString i : String) : Str) := rfl
  rw [e2, rItem, e.1, e.2]
  rfl
theorem rItem_arg {d : PyData} (h : isArg d = true) : rItem (txS d) = d := by
  simp only [isArg, Bool.or_eq_true] at h
  rcases h with h | h
  · obtain ⟨x, rfl, hx⟩ := isName_eq h
    exact rItem_name hx
  · obtain ⟨i, rfl, h0, h1⟩ := isIdx_eq h
    exact rItem_int h0 (by omega)
theorem map_id_of {α : Type} {f : α → α} {l : List α} (h : ∀ a ∈ l, f a = a) : l.map f = l := by
  induction l with
  | nil => rfl
  | cons a l ih => rw [List.map_cons, h a (by simp), ih fun b hb => h b (by simp [hb])]
theorem args_free {k : Nat} (hk : k = 32 ∨ k = 59) {es : List PyData} (h : es.all isArg = true) : k ∉ Sp.cs (Txt.join "," (es.map txS)) := by
  refine join_free (by rw [c_comma]; rcases hk with rfl | rfl <;> decide) fun x hx hc => ?_
  obtain ⟨e, he, rfl⟩ := List.mem_map.mp hx
  have := fr_arg (List.all_eq_true.mp h e he) k hc
  omega
theorem step_read {d : PyData} (h : isStep 3 d = true) : rStep (wStep d) = d ∧ 59 ∉ Sp.cs (wStep d) ∧ 2 ≤ (wStep d).length := by
  rcases step_cases h with rfl | ⟨x, rfl, hx⟩ | ⟨x, es, rfl, hx, h1, h2, h3⟩
  · have e : wStep (.tuple [.str "next"]) = Txt.join " " ["next"] := rfl
    have hs : Txt.split (Txt.join " " ["next"]) " " = (["next"] : List Str) := sj_space (by simp) (by decide +kernel)
    refine ⟨?_, ?_, ?_⟩
    · rw [e, rStep, hs]
      simp [rStepL]
    · rw [e]
      decide +kernel
    · rw [e]
      decide +kernel
  · have e : wStep (.tuple [.str "say", .str x]) = Txt.join " " ["say", x] := rfl
    have hs : Txt.split (Txt.join " " ["say", x]) " " = (["say", x] : List Str) := sj_space (by simp) (by
      simp only [List.mem_cons, List.not_mem_nil, or_false]
      rintro y (rfl | rfl) hc
      · exact absurd (fr_say 32 hc).1 (by simp)
      · exact absurd (fr_name hx 32 hc).1 (by simp))
    refine ⟨?_, ?_, ?_⟩
    · rw [e, rStep, hs]
      simp [rStepL]
    · rw [e]
      refine join_free (by rw [c_space]; decide) ?_
      simp only [List.mem_cons, List.not_mem_nil, or_false]
      rintro y (rfl | rfl) hc
      · exact absurd (fr_say 59 hc).2.2 (by simp)
      · exact absurd (fr_name hx 59 hc).2.2 (by simp)
    · rw [e, Sp.len_cs, Sp.cs_join]
      simp only [List.map_cons, List.map_nil, Sp.jn, List.length_append, ← Sp.len_cs, l_say]
      omega
  · have e : wStep (.tuple [.str "call", .str x, .tuple es]) = Txt.join " " ["call", x, Txt.join "," (es.map txS)] := rfl
    have hs : Txt.split (Txt.join " " ["call", x, Txt.join "," (es.map txS)]) " " = (["call", x, Txt.join "," (es.map txS)] : List Str) := sj_space (by simp) (by
      simp only [List.mem_cons, List.not_mem_nil, or_false]
      rintro y (rfl | rfl | rfl) hc
      · exact absurd (fr_call 32 hc).1 (by simp)
      · exact absurd (fr_name hx 32 hc).1 (by simp)
      · exact args_free (.inl rfl) h3 hc)
    have hc : Txt.split (Txt.join "," (es.map txS)) "," = es.map txS := sj_comma (by
      intro q
      rw [List.map_eq_nil_iff] at q
      subst q
      simp at h1) (by
      intro y hy hc
      obtain ⟨e, he, rfl⟩ := List.mem_map.mp hy
      exact absurd (fr_arg (List.all_eq_true.mp h3 e he) 44 hc).2.1 (by simp))
    refine ⟨?_, ?_, ?_⟩
    · rw [e, rStep, hs]
      simp only [rStepL, if_true, hc, List.map_map]
      rw [map_id_of (f := rItem ∘ txS) fun a ha => rItem_arg (List.all_eq_true.mp h3 a ha)]
    · rw [e]
      refine join_free (by rw [c_space]; decide) ?_
      simp only [List.mem_cons, List.not_mem_nil, or_false]
      rintro y (rfl | rfl | rfl) hc
      · exact absurd (fr_call 59 hc).2.2 (by simp)
      · exact absurd (fr_name hx 59 hc).2.2 (by simp)
      · exact args_free (.inr rfl) h3 hc
    · rw [e, Sp.len_cs, Sp.cs_join]
      simp only [List.map_cons, List.map_nil, Sp.jn, List.length_append, ← Sp.len_cs, l_call]
      omega
theorem body_read {d : PyData} (h : isBody 3 d = true) : rBody (wBody d) = d := by
  cases d with
  | tuple ds =>
    simp only [isBody, Bool.and_eq_true] at h
    have h := h.1
    simp only [wBody]
    by_cases hn : ds = []
    · simp [hn, rBody]
    · rw [if_neg hn]
      have hs : Txt.split (Txt.join "; " (ds.map wStep)) "; " = ds.map wStep := sj_semi (by simpa using hn) (by
        intro x hx
        obtain ⟨e, he, rfl⟩ := List.mem_map.mp hx
        exact (step_read (List.all_eq_true.mp h e he)).2.1)
      have hne : ¬ Txt.join "; " (ds.map wStep) = "-" := by
        intro q
        have h1 := congrArg Str.length q
        rw [l_minus] at h1
        rw [q] at hs
        have h2 : Txt.split ("-" : Str) "; " = (["-"] : List Str) := by decide +kernel
        rw [h2] at hs
        cases ds with
        | nil => exact hn rfl
        | cons d ds =>
          rw [List.map_cons, List.cons.injEq] at hs
          have := (step_read (List.all_eq_true.mp h d (by simp))).2.2
          rw [← hs.1, l_minus] at this
          omega
      rw [rBody, if_neg hne, hs, List.map_map]
      rw [map_id_of (f := rStep ∘ wStep) fun a ha => (step_read (List.all_eq_true.mp h a ha)).1]
  | _ => cases h
theorem names_str2 {ds : List PyData} (h : ds.all isName = true) : (ds.map txS).map PyData.str = ds := (names_str h).symm
theorem names_fr {ds : List PyData} (h : ds.all isName = true) : ∀ x ∈ ds.map txS, fr x := fun x hx => by
  obtain ⟨e, he, rfl⟩ := List.mem_map.mp hx
  exact fr_arg (by simp [isArg, List.all_eq_true.mp h e he])
theorem fr_sp {x : Str} (h : fr x) : 32 ∉ Sp.cs x := fun hc => absurd (h 32 hc).1 (by simp)
theorem fr_cm {x : Str} (h : fr x) : 44 ∉ Sp.cs x := fun hc => absurd (h 44 hc).2.1 (by simp)
theorem point_read {d : PyData} (h : isPoint d = true) : rPart "point" [wPoint d] = d ∧ 32 ∉ Sp.cs (wPoint d) := by
  cases d with
  | tuple ds =>
    simp only [isPoint, Bool.and_eq_true, decide_eq_true_eq] at h
    have hs : Txt.split (Txt.join "," (ds.map txS)) "," = ds.map txS := sj_comma (by
      intro q
      rw [List.map_eq_nil_iff] at q
      subst q
      simp at h) fun x hx => fr_cm (names_fr h.1.1 x hx)
    refine ⟨?_, ?_⟩
    · simp only [rPart, wPoint, n_name_superclasses, n_name_count, n_name_point, n_name_body, n_superclasses_name, n_superclasses_count, n_superclasses_point, n_superclasses_body, n_count_name, n_count_superclasses, n_count_point, n_count_body, n_point_name, n_point_superclasses, n_point_count, n_point_body, n_body_name, n_body_superclasses, n_body_count, n_body_point, if_false, if_true, hs]
      rw [names_str2 h.1.1]
    · exact join_free (by rw [c_comma]; decide) fun x hx => fr_sp (names_fr h.1.1 x hx)
  | _ => cases h
theorem count_read {d : PyData} (h : isCount d = true) : rPart "count" [txS d] = d ∧ fr (txS d) := by
  cases d with
  | int i =>
    simp only [isCount, Bool.and_eq_true, decide_eq_true_eq] at h
    refine ⟨?_, ?_⟩
    · simp only [rPart, n_name_superclasses, n_name_count, n_name_point, n_name_body, n_superclasses_name, n_superclasses_count, n_superclasses_point, n_superclasses_body, n_count_name, n_count_superclasses, n_count_point, n_count_body, n_point_name, n_point_superclasses, n_point_count, n_point_body, n_body_name, n_body_superclasses, n_body_count, n_body_point, if_false, if_true]
      exact rItem_int (by omega) (by omega)
    · have : i = 1 ∨ i = 2 ∨ i = 3 := by omega
      rcases this with rfl | rfl | rfl <;> exact fr_b (by decide +kernel)
  | _ => cases h
theorem name_read {d : PyData} (h : isName d = true) (ws : List Str) : rPart "name" (txS d :: ws) = d ∧ fr (txS d) := by
  obtain ⟨x, rfl, hx⟩ := isName_eq h
  exact ⟨by simp only [rPart, n_name_superclasses, n_name_count, n_name_point, n_name_body, n_superclasses_name, n_superclasses_count, n_superclasses_point, n_superclasses_body, n_count_name, n_count_superclasses, n_count_point, n_count_body, n_point_name, n_point_superclasses, n_point_count, n_point_body, n_body_name, n_body_superclasses, n_body_count, n_body_point, if_false, txS], fr_name hx⟩
theorem supers_read {d : PyData} (h : isNames d = true) : rPart "superclasses" (wWords "superclasses" d) = d ∧ ∀ x ∈ wWords "superclasses" d, fr x := by
  cases d with
  | tuple ds =>
    have h : ds.all isName = true := h
    have e : wWords "superclasses" (.tuple ds) = ds.map txS := by simp only [wWords, if_true]
    rw [e]
    refine ⟨?_, names_fr h⟩
    conv => rhs; rw [← names_str2 h]
    cases ds.map txS <;> simp only [rPart, if_true, List.map_nil]
  | _ => cases h
theorem space_free (x : Str) : ∀ p ∈ Txt.split x " ", 32 ∉ Sp.cs p := by
  have e : (" " : Str) = ⟨#[32]⟩ := by decide +kernel
  rw [e]
  exact PySem.StrLaws.split_free x 32
theorem fr_kind {w : Str} {ks : List Str} (h : partsOf w = some ks) : fr w := by
  have hm := lookup_memA h
  simp only [partsTab, List.mem_cons, Prod.mk.injEq, List.not_mem_nil, or_false] at hm
  rcases hm with ⟨rfl, _⟩ | ⟨rfl, _⟩ | ⟨rfl, _⟩ | ⟨rfl, _⟩ | ⟨rfl, _⟩ | ⟨rfl, _⟩ | ⟨rfl, _⟩ | ⟨rfl, _⟩ <;> exact fr_b (by decide +kernel)
theorem parts_shape {w : Str} {ks : List Str} (h : partsOf w = some ks) : ks = (["name"] : List Str) ∨ ks = (["name", "superclasses"] : List Str) ∨ ks = (["name", "count"] : List Str) ∨ ks = (["name", "point"] : List Str) ∨ ks = (["name", "point", "body"] : List Str) := by
  have hm := lookup_memA h
  simp only [partsTab, List.mem_cons, Prod.mk.injEq, List.not_mem_nil, or_false] at hm
  rcases hm with ⟨_, rfl⟩ | ⟨_, rfl⟩ | ⟨_, rfl⟩ | ⟨_, rfl⟩ | ⟨_, rfl⟩ | ⟨_, rfl⟩ | ⟨_, rfl⟩ | ⟨_, rfl⟩ <;> simp
theorem isPart_name {d : PyData} (h : isPart "name" d = true) : isName d = true := by simpa [isPart] using h
theorem isPart_supers {d : PyData} (h : isPart "superclasses" d = true) : isNames d = true := by simpa [isPart, n_name_superclasses, n_name_count, n_name_point, n_name_body, n_superclasses_name, n_superclasses_count, n_superclasses_point, n_superclasses_body, n_count_name, n_count_superclasses, n_count_point, n_count_body, n_point_name, n_point_superclasses, n_point_count, n_point_body, n_body_name, n_body_superclasses, n_body_count, n_body_point] using h
theorem isPart_count {d : PyData} (h : isPart "count" d = true) : isCount d = true := by simpa [isPart, n_name_superclasses, n_name_count, n_name_point, n_name_body, n_superclasses_name, n_superclasses_count, n_superclasses_point, n_superclasses_body, n_count_name, n_count_superclasses, n_count_point, n_count_body, n_point_name, n_point_superclasses, n_point_count, n_point_body, n_body_name, n_body_superclasses, n_body_count, n_body_point] using h
theorem isPart_point {d : PyData} (h : isPart "point" d = true) : isPoint d = true := by simpa [isPart, n_name_superclasses, n_name_count, n_name_point, n_name_body, n_superclasses_name, n_superclasses_count, n_superclasses_point, n_superclasses_body, n_count_name, n_count_superclasses, n_count_point, n_count_body, n_point_name, n_point_superclasses, n_point_count, n_point_body, n_body_name, n_body_superclasses, n_body_count, n_body_point] using h
theorem isPart_body {d : PyData} (h : isPart "body" d = true) : isBody 3 d = true := by simpa [isPart, n_name_superclasses, n_name_count, n_name_point, n_name_body, n_superclasses_name, n_superclasses_count, n_superclasses_point, n_superclasses_body, n_count_name, n_count_superclasses, n_count_point, n_count_body, n_point_name, n_point_superclasses, n_point_count, n_point_body, n_body_name, n_body_superclasses, n_body_count, n_body_point] using h
theorem join_tail {a b c : Str} (xs : List Str) (h : xs ≠ []) : Txt.join " " [a, b, c, Txt.join " " xs] = Txt.join " " (a :: b :: c :: xs) := by
  apply Sp.cs_inj
  rw [Sp.cs_join, Sp.cs_join]
  cases xs with
  | nil => exact absurd rfl h
  | cons x xs => simp only [List.map_cons, List.map_nil, Sp.jn, Sp.cs_join]
theorem find_of {w : Str} {ks : List Str} {ps : List PyData} {ws : List Str} (h : partsOf w = some ks) (e : (ks.zipIdx.map fun q => rPart q.1 (ws.drop q.2)) = ps) : rFind (w :: ws) = some (.tuple (.str w :: ps)) := by
  simp only [rFind, h, Option.map_some, e]
/-- what is written is read back -/
theorem op_read {d : PyData} (h : isOp d = true) : rOp (wOp d) = some d := by
  have ho := h
  obtain ⟨w, ps, ks, rfl, hp, hl, hz⟩ := isOp_shape h
  have hw := fr_kind hp
  have hfin : rFind (Txt.split (wOp (.tuple (.str w :: ps))) " ") = some (.tuple (.str w :: ps)) := by
    rcases parts_shape hp with rfl | rfl | rfl | rfl | rfl
    · match ps, hl with
      | [a], _ =>
        have ha := isPart_name (hz ("name", a) (by simp))
        have e : wOp (.tuple [.str w, a]) = Txt.join " " [w, txS a] := by simp only [wOp, hp, Option.getD_some, List.zip_cons_cons, List.zip_nil_right, List.flatMap_cons, List.flatMap_nil, wWords, n_name_superclasses, n_name_count, n_name_point, n_name_body, n_superclasses_name, n_superclasses_count, n_superclasses_point, n_superclasses_body, n_count_name, n_count_superclasses, n_count_point, n_count_body, n_point_name, n_point_superclasses, n_point_count, n_point_body, n_body_name, n_body_superclasses, n_body_count, n_body_point, if_false, List.append_nil]
        rw [e, sj_space (by simp) (by
          simp only [List.mem_cons, List.not_mem_nil, or_false]
          rintro y (rfl | rfl)
          · exact fr_sp hw
          · exact fr_sp (name_read ha []).2)]
        exact find_of hp (by simp only [List.zipIdx_cons, List.zipIdx_nil, List.map_cons, List.map_nil, List.drop_zero, (name_read ha []).1])
    · match ps, hl with
      | [a, b], _ =>
        have ha := isPart_name (hz ("name", a) (by simp))
        have hb := isPart_supers (hz ("superclasses", b) (by simp))
        have e : wOp (.tuple [.str w, a, b]) = Txt.join " " (w :: txS a :: wWords "superclasses" b) := by
          simp only [wOp, hp, Option.getD_some, List.zip_cons_cons, List.zip_nil_right, List.flatMap_cons, List.flatMap_nil, List.append_nil]
          rw [show wWords "name" a = [txS a] by simp only [wWords, n_name_superclasses, n_name_count, n_name_point, n_name_body, n_superclasses_name, n_superclasses_count, n_superclasses_point, n_superclasses_body, n_count_name, n_count_superclasses, n_count_point, n_count_body, n_point_name, n_point_superclasses, n_point_count, n_point_body, n_body_name, n_body_superclasses, n_body_count, n_body_point, if_false]]
          rfl
        rw [e, sj_space (by simp) (by
          simp only [List.mem_cons]
          rintro y (rfl | rfl | hy)
          · exact fr_sp hw
          · exact fr_sp (name_read ha []).2
          · exact fr_sp ((supers_read hb).2 y hy))]
        exact find_of hp (by simp only [List.zipIdx_cons, List.zipIdx_nil, List.map_cons, List.map_nil, List.drop_zero, List.drop_succ_cons, (name_read ha _).1, (supers_read hb).1])
    · match ps, hl with
      | [a, b], _ =>
        have ha := isPart_name (hz ("name", a) (by simp))
        have hb := isPart_count (hz ("count", b) (by simp))
        have e : wOp (.tuple [.str w, a, b]) = Txt.join " " [w, txS a, txS b] := by simp only [wOp, hp, Option.getD_some, List.zip_cons_cons, List.zip_nil_right, List.flatMap_cons, List.flatMap_nil, wWords, n_name_superclasses, n_name_count, n_name_point, n_name_body, n_superclasses_name, n_superclasses_count, n_superclasses_point, n_superclasses_body, n_count_name, n_count_superclasses, n_count_point, n_count_body, n_point_name, n_point_superclasses, n_point_count, n_point_body, n_body_name, n_body_superclasses, n_body_count, n_body_point, if_false, List.append_nil, List.cons_append, List.nil_append]
        rw [e, sj_space (by simp) (by
          simp only [List.mem_cons, List.not_mem_nil, or_false]
          rintro y (rfl | rfl | rfl)
          · exact fr_sp hw
          · exact fr_sp (name_read ha []).2
          · exact fr_sp (count_read hb).2)]
        exact find_of hp (by simp only [List.zipIdx_cons, List.zipIdx_nil, List.map_cons, List.map_nil, List.drop_zero, List.drop_succ_cons, (name_read ha _).1, (count_read hb).1])
    · match ps, hl with
      | [a, b], _ =>
        have ha := isPart_name (hz ("name", a) (by simp))
        have hb := isPart_point (hz ("point", b) (by simp))
        have e : wOp (.tuple [.str w, a, b]) = Txt.join " " [w, txS a, wPoint b] := by simp only [wOp, hp, Option.getD_some, List.zip_cons_cons, List.zip_nil_right, List.flatMap_cons, List.flatMap_nil, wWords, n_name_superclasses, n_name_count, n_name_point, n_name_body, n_superclasses_name, n_superclasses_count, n_superclasses_point, n_superclasses_body, n_count_name, n_count_superclasses, n_count_point, n_count_body, n_point_name, n_point_superclasses, n_point_count, n_point_body, n_body_name, n_body_superclasses, n_body_count, n_body_point, if_false, if_true, List.append_nil, List.cons_append, List.nil_append]
        rw [e, sj_space (by simp) (by
          simp only [List.mem_cons, List.not_mem_nil, or_false]
          rintro y (rfl | rfl | rfl)
          · exact fr_sp hw
          · exact fr_sp (name_read ha []).2
          · exact (point_read hb).2)]
        exact find_of hp (by simp only [List.zipIdx_cons, List.zipIdx_nil, List.map_cons, List.map_nil, List.drop_zero, List.drop_succ_cons, (name_read ha _).1, (point_read hb).1])
    · match ps, hl with
      | [a, b, c], _ =>
        have ha := isPart_name (hz ("name", a) (by simp))
        have hb := isPart_point (hz ("point", b) (by simp))
        have hc := isPart_body (hz ("body", c) (by simp))
        have e : wOp (.tuple [.str w, a, b, c]) = Txt.join " " [w, txS a, wPoint b, wBody c] := by simp only [wOp, hp, Option.getD_some, List.zip_cons_cons, List.zip_nil_right, List.flatMap_cons, List.flatMap_nil, wWords, n_name_superclasses, n_name_count, n_name_point, n_name_body, n_superclasses_name, n_superclasses_count, n_superclasses_point, n_superclasses_body, n_count_name, n_count_superclasses, n_count_point, n_count_body, n_point_name, n_point_superclasses, n_point_count, n_point_body, n_body_name, n_body_superclasses, n_body_count, n_body_point, if_false, if_true, List.append_nil, List.cons_append, List.nil_append]
        have e2 : Txt.join " " [w, txS a, wPoint b, wBody c] = Txt.join " " (w :: txS a :: wPoint b :: Txt.split (wBody c) " ") := by
          conv => lhs; rw [← Sp.join_split (wBody c) " "]
          exact join_tail _ (split_ne _ _ l_space1 k_space)
        rw [e, e2, sj_space (by simp) (by
          simp only [List.mem_cons]
          rintro y (rfl | rfl | rfl | hy)
          · exact fr_sp hw
          · exact fr_sp (name_read ha []).2
          · exact (point_read hb).2
          · exact space_free _ y hy)]
        have e3 : rPart "body" (Txt.split (wBody c) " ") = c := by
          obtain ⟨q, qs, e4⟩ := split_cons (wBody c)
          have e5 : rPart "body" (q :: qs) = rBody (Txt.join " " (q :: qs)) := by simp only [rPart, n_name_superclasses, n_name_count, n_name_point, n_name_body, n_superclasses_name, n_superclasses_count, n_superclasses_point, n_superclasses_body, n_count_name, n_count_superclasses, n_count_point, n_count_body, n_point_name, n_point_superclasses, n_point_count, n_point_body, n_body_name, n_body_superclasses, n_body_count, n_body_point, if_false, if_true]
          rw [e4, e5, ← e4, Sp.join_split, body_read hc]
        have e6 : ∀ ws, rPart "point" (wPoint b :: ws) = rPart "point" [wPoint b] := fun ws => by simp only [rPart, n_name_superclasses, n_name_count, n_name_point, n_name_body, n_superclasses_name, n_superclasses_count, n_superclasses_point, n_superclasses_body, n_count_name, n_count_superclasses, n_count_point, n_count_body, n_point_name, n_point_superclasses, n_point_count, n_point_body, n_body_name, n_body_superclasses, n_body_count, n_body_point, if_false, if_true]
        exact find_of hp (by simp only [List.zipIdx_cons, List.zipIdx_nil, List.map_cons, List.map_nil, List.drop_zero, List.drop_succ_cons, (name_read ha _).1, e6, (point_read hb).1, e3])
  unfold rOp
  rw [hfin]
  exact if_pos ⟨ho, rfl⟩
/-- what is read is what was written -/
theorem op_of {x : Str} {d : PyData} (h : rOp x = some d) : isOp d = true ∧ wOp d = x := by
  unfold rOp at h
  split at h
  · split at h
    · rename_i _ d' _ hh
      cases h
      exact hh
    · cases h
  · cases h
end Op
/-! Op, part 9: what repr writes. -/
namespace Op
open PySem Mi
theorem okS_of (s : String) : okS (Str.ofString s) = true := by
  rw [okS_iff, Str.ofString_eq_toList]
  intro c hc
  simp only [Sp.cs, List.mem_map] at hc
  obtain ⟨ch, _, rfl⟩ := hc
  have := ch.valid
  unfold Char.toNat
  rcases this with h | ⟨_, h⟩
  · have : ch.val.toNat < 0xd800 := h
    omega
  · exact h
theorem len_of (s : String) : (Str.ofString s).length = s.length := PySem.ofString_length s
theorem len_app (x y : Str) : (x ++ y).length = x.length + y.length := by rw [Sp.len_cs, Sp.cs_app, List.length_append, ← Sp.len_cs, ← Sp.len_cs]
theorem reprChar_ok {q c : Nat} (hq : q < 0x110000) (hc : c < 0x110000) : ∀ d ∈ Builtin.Str.reprChar q c, d < 0x110000 := by
  have hx : ∀ w, ∀ d ∈ List.replicate (w - ((Nat.toDigits 16 c).map Char.toNat).length) 48 ++ (Nat.toDigits 16 c).map Char.toNat, d < 0x110000 := by
    intro w d hd
    rcases List.mem_append.mp hd with hd | hd
    · have := List.eq_of_mem_replicate hd
      omega
    · obtain ⟨ch, _, rfl⟩ := List.mem_map.mp hd
      have := ch.valid
      unfold Char.toNat
      rcases this with h | ⟨_, h⟩
      · have : ch.val.toNat < 0xd800 := h
        omega
      · exact h
  unfold Builtin.Str.reprChar
  dsimp only
  intro d hd
  repeat' split at hd
  all_goals simp only [List.mem_append, List.mem_cons, List.not_mem_nil, or_false] at hd hx
  · omega
  · omega
  · omega
  · omega
  · omega
  · rcases hd with (rfl | rfl) | hd
    · omega
    · omega
    · exact hx _ d hd
  · rcases hd with (rfl | rfl) | hd
    · omega
    · omega
    · exact hx _ d hd
  · rcases hd with (rfl | rfl) | hd
    · omega
    · omega
    · exact hx _ d hd
theorem foldl_ok {q : Nat} (hq : q < 0x110000) : ∀ (l : List Nat) (acc : Array Nat), (∀ c ∈ l, c < 0x110000) → (∀ c ∈ acc.toList, c < 0x110000) → ∀ c ∈ (l.foldl (fun out c => out ++ (Builtin.Str.reprChar q c).toArray) acc).toList, c < 0x110000
  | [], acc, _, h => h
  | d :: l, acc, h1, h2 => by
    rw [List.foldl_cons]
    refine foldl_ok hq l _ (fun c hc => h1 c (List.mem_cons_of_mem _ hc)) fun c hc => ?_
    rw [Array.toList_append, List.mem_append] at hc
    rcases hc with hc | hc
    · exact h2 c hc
    · exact reprChar_ok hq (h1 d (List.mem_cons_self ..)) c (by simpa using hc)
theorem quote_ok (x : Str) : reprQuote x < 0x110000 := by
  unfold reprQuote
  split <;> omega
theorem reprText_ok {x : Str} (h : okS x = true) : okS (reprText x) = true := by
  rw [okS_iff]
  intro c hc
  unfold reprText at hc
  simp only [Sp.cs, Array.toList_push, List.mem_append, List.mem_cons, List.not_mem_nil, or_false] at hc
  rcases hc with hc | rfl
  · rw [← Array.foldl_toList] at hc
    exact foldl_ok (quote_ok x) _ _ (okS_iff.mp h) (by
      intro d hd
      simp only [List.mem_cons, List.not_mem_nil, or_false] at hd
      rw [hd]
      exact quote_ok x) c hc
  · exact quote_ok x
theorem textFrom_ok : ∀ (ts : List Str) (k : Nat) (acc : Str), okS acc = true → (∀ t ∈ ts, okS t = true) → okS (textFrom k acc ts) = true
  | [], k, acc, h, _ => h
  | t :: ts, k, acc, h1, h2 => by
    unfold textFrom
    refine textFrom_ok ts _ _ ?_ fun u hu => h2 u (List.mem_cons_of_mem _ hu)
    rw [okS_app, okS_app, h1, okS_of, h2 t (List.mem_cons_self ..)]
    rfl
theorem textFrom_lenB : ∀ (ts : List Str) (k : Nat) (acc : Str), (textFrom k acc ts).length ≤ acc.length + sumLen ts + 2 * ts.length
  | [], k, acc => by simp [textFrom, sumLen]
  | t :: ts, k, acc => by
    unfold textFrom
    have := textFrom_lenB ts (k + 1) (acc ++ (if k > 0 then ", " else "" : String) ++ t)
    have e : (acc ++ (if k > 0 then ", " else "" : String) ++ t).length ≤ acc.length + 2 + t.length := by
      rw [len_app, len_app]
      split
      · rw [show (Str.ofString ", ").length = 2 from rfl]
        omega
      · rw [show (Str.ofString "").length = 0 from rfl]
        omega
    simp only [sumLen, List.length_cons]
    omega
theorem sjoin_ok : ∀ (ts : List Str) (s : Str), okS s = true → (∀ t ∈ ts, okS t = true) → okS (Str.join s ts) = true
  | [], s, _, _ => (by decide +kernel : okS Str.empty = true)
  | [t], s, _, h => h t (by simp)
  | t :: u :: ts, s, hs, h => by
    unfold Str.join
    rw [okS_app, okS_app, h t (by simp), hs, sjoin_ok (u :: ts) s hs fun v hv => h v (by simp only [List.mem_cons] at hv ⊢; exact .inr hv)]
    rfl
theorem sjoin_len (s : Str) : ∀ ts : List Str, (Str.join s ts).length ≤ sumLen ts + s.length * ts.length
  | [] => by simp [Str.join, Str.empty, Str.length]
  | [t] => by
    unfold Str.join
    simp [sumLen]
  | t :: u :: ts => by
    unfold Str.join
    have := sjoin_len s (u :: ts)
    rw [len_app, len_app]
    simp only [sumLen, List.length_cons] at this ⊢
    rw [Nat.mul_succ]
    omega
theorem tupleText_ok {ts : List Str} (h : ∀ t ∈ ts, okS t = true) : okS (tupleText ts) = true := by
  unfold tupleText
  rw [okS_app, okS_app, okS_of, okS_of, sjoin_ok ts _ (okS_of _) h]
  rfl
theorem tupleText_len (ts : List Str) : (tupleText ts).length ≤ sumLen ts + 2 * ts.length + 3 := by
  unfold tupleText
  rw [len_app, len_app]
  have h1 := sjoin_len ", " ts
  rw [show (Str.ofString ", ").length = 2 from rfl] at h1
  have h2 : (Str.ofString "(").length = 1 := rfl
  have h3 : (Str.ofString (if (ts.length == 1) = true then ",)" else ")")).length ≤ 2 := by
    split
    · exact Nat.le_of_eq rfl
    · rw [show (Str.ofString ")").length = 1 from rfl]
      omega
  omega
theorem listText_ok {ts : List Str} (h : ∀ t ∈ ts, okS t = true) : okS (listText ts) = true := by
  unfold listText
  rw [okS_app, okS_of, textFrom_ok ts 0 _ (okS_of _) h]
  rfl
theorem listText_len (ts : List Str) : (listText ts).length ≤ sumLen ts + 2 * ts.length + 2 := by
  unfold listText
  rw [len_app]
  have h1 := textFrom_lenB ts 0 "["
  rw [show (Str.ofString "[").length = 1 from rfl] at h1
  rw [show (Str.ofString "]").length = 1 from rfl]
  omega
mutual
/-- what can be shown; a dict is empty -/
def vis : PyData → Bool
  | .none => true
  | .bool _ => true
  | .int i => decide (i.natAbs.log2 < 1920)
  | .str x => okS x
  | .list xs => viss xs
  | .tuple xs => viss xs
  | .dict k => k.isEmpty
def viss : List PyData → Bool
  | [] => true
  | x :: xs => vis x && viss xs
end
mutual
theorem vis_ok : ∀ {d : PyData}, vis d = true → d.showable = true ∧ okS d.shown = true ∧ d.shown.length ≤ wt d
  | .none, _ => ⟨by simp [PyData.showable], by decide +kernel, by simp only [PyData.shown, wt]; exact Nat.le_of_eq rfl⟩
  | .bool b, _ => by
    refine ⟨by simp [PyData.showable], ?_, ?_⟩
    · simp only [PyData.shown]
      split <;> exact okS_of _
    · cases b
      · simp only [PyData.shown, wt]
        exact Nat.le_of_eq rfl
      · simp only [PyData.shown, wt, if_true]
        rw [show (Str.ofString "True").length = 4 from rfl]
        omega
  | .int i, h => by
    have h : i.natAbs.log2 < 1920 := by simpa [vis] using h
    refine ⟨by simpa [PyData.showable] using h, ?_, ?_⟩
    · simp only [PyData.shown]
      exact okS_of _
    · simp only [PyData.shown, wt, len_of]
      exact int_text_length_le (Nat.succ_pos _) (Nat.lt_succ_self _)
  | .str x, h => by
    have h : okS x = true := by simpa [vis] using h
    refine ⟨by simp [PyData.showable], ?_, ?_⟩
    · simp only [PyData.shown]
      exact reprText_ok h
    · simp only [PyData.shown, wt]
      exact PySem.StrLaws.reprText_len x fun c hc => Nat.lt_of_lt_of_le (okS_iff.mp h c hc) (by decide)
  | .list xs, h => by
    obtain ⟨h1, h2, h3, h4⟩ := viss_ok (by simpa [vis] using h)
    refine ⟨by simpa [PyData.showable] using h1, ?_, ?_⟩
    · simp only [PyData.shown]
      exact listText_ok h2
    · simp only [PyData.shown, wt]
      have := listText_len (PyData.shownAll xs)
      omega
  | .tuple xs, h => by
    obtain ⟨h1, h2, h3, h4⟩ := viss_ok (by simpa [vis] using h)
    refine ⟨by simpa [PyData.showable] using h1, ?_, ?_⟩
    · simp only [PyData.shown]
      exact tupleText_ok h2
    · simp only [PyData.shown, wt]
      have := tupleText_len (PyData.shownAll xs)
      omega
  | .dict k, h => by
    cases k with
    | nil => exact ⟨by simp [PyData.showable, PyData.showableKv], by decide +kernel, by simp only [PyData.shown, wt]; exact Nat.le_of_eq rfl⟩
    | cons a k => simp [vis] at h
theorem viss_ok : ∀ {xs : List PyData}, viss xs = true → PyData.showableAll xs = true ∧ (∀ t ∈ PyData.shownAll xs, okS t = true) ∧ sumLen (PyData.shownAll xs) + 2 * (PyData.shownAll xs).length ≤ wts xs ∧ True
  | [], _ => ⟨by simp [PyData.showableAll], by simp [PyData.shownAll], by simp [PyData.shownAll, sumLen], trivial⟩
  | x :: xs, h => by
    simp only [viss, Bool.and_eq_true] at h
    obtain ⟨a1, a2, a3⟩ := vis_ok h.1
    obtain ⟨b1, b2, b3, _⟩ := viss_ok h.2
    refine ⟨by simp only [PyData.showableAll, a1, b1, Bool.and_self], ?_, ?_, trivial⟩
    · simp only [PyData.shownAll, List.mem_cons]
      rintro t (rfl | ht)
      · exact a2
      · exact b2 t ht
    · simp only [PyData.shownAll, sumLen, wts, List.length_cons]
      omega
end
theorem show_ok {d : PyData} (h1 : vis d = true) (h2 : wt d ≤ 1000000) (h3 : d.depth ≤ 40) : showOk d = true := by
  obtain ⟨a, b, c⟩ := vis_ok h1
  simp only [showOk, a, Bool.true_and, Bool.and_eq_true, decide_eq_true_eq]
  exact ⟨h3, Nat.le_trans c h2⟩
end Op
/-! Gw: what the laws draw. -/
namespace Gw
open PySem Mi Op
def bd_law_pot : List Mi.St := [.asg (.nm 2) (.ite (.cmp .lt (.var 1) (.bi .len [.var 0])) (.ix (.var 0) (.var 1)) (.con (.int 0))),
    .ret (.lst true [.bi .max [.con (.int 0), .bin .sub (.bi .abs [.var 2]) (.bin .pow (.con (.int 10)) (.con (.int 18)))], .bin .mod (.bin .add (.bin .add (.bin .mul (.bin .mod (.bi .abs [.var 2]) (.con (.int 2147483587))) (.con (.int 48271))) (.bin .mul (.con (.int 60013)) (.var 1))) (.con (.int 29))) (.con (.int 2147483647))])]
def d_law_pot : Df := ⟨2, 3, false, bd_law_pot⟩
def bd_law_draw : List Mi.St := [.ifs (.cmp .gt (.ix (.var 0) (.con (.int 0))) (.con (.int 0))) [.unp [.ix (.var 0) (.con (.int 0)), .nm 2] (.bi .divmod [.ix (.var 0) (.con (.int 0)), .var 1]),
    .ret (.var 2)] [],
    .asg (.ix (.var 0) (.con (.int 1))) (.bin .mod (.bin .add (.bin .mul (.ix (.var 0) (.con (.int 1))) (.con (.int 39373))) (.con (.int 12227))) (.con (.int 2147483629))),
    .ret (.bin .mod (.bin .fdiv (.bin .mod (.bin .mul (.ix (.var 0) (.con (.int 1))) (.ix (.var 0) (.con (.int 1)))) (.con (.int 2147483563))) (.con (.int 13))) (.var 1))]
def d_law_draw : Df := ⟨2, 3, false, bd_law_draw⟩
def bd_law_name : List Mi.St := [.asg (.nm 1) (.con (.str "abcdefghijklmnopqrstuvwxyz")),
    .ret (.met .join (.con (.str "")) [.lc false [2] [2] (.itRng (.ix (.lst false [.con (.int 1), .con (.int 2), .con (.int 8)]) (.call "_law_draw" [.var 0, .con (.int 3)]))) [] (.ix (.var 1) (.call "_law_draw" [.var 0, .con (.int 26)]))])]
def d_law_name : Df := ⟨1, 3, false, bd_law_name⟩
def bd_law_names : List Mi.St := [.asg (.nm 2) (.lst true []),
    .fors [3] (.itRng (.var 1)) [.asg (.nm 4) (.call "_law_name" [.var 0]),
    .asg (.nm 5) (.lc false [6] [6] (.con (.str "abcdefghijklmnopqrstuvwxyz")) [.cmp .notin (.var 6) (.var 2)] (.var 6)),
    .ex (.met .append (.var 2) [.ite (.cmp .isin (.var 4) (.var 2)) (.ix (.var 5) (.con (.int 0))) (.var 4)])],
    .ret (.var 2)]
def d_law_names : Df := ⟨2, 7, true, bd_law_names⟩
def bd_law_step : List Mi.St := [.asg (.nm 3) (.call "_law_draw" [.var 0, .con (.int 3)]),
    .ifs (.or (.cmp .lt (.var 3) (.con (.int 2))) (.not (.var 2))) [.ret (.tup [.con (.str "say"), .ix (.var 1) (.call "_law_draw" [.var 0, .bi .len [.var 1]])])] [],
    .asg (.nm 4) (.lc false [5] [5] (.itRng (.bin .add (.con (.int 1)) (.call "_law_draw" [.var 0, .con (.int 3)]))) [] (.ix (.lst false [.con (.int 0), .con (.int 1), .con (.int 2), .call "_law_name" [.var 0]]) (.call "_law_draw" [.var 0, .con (.int 4)]))),
    .ret (.tup [.con (.str "call"), .call "_law_name" [.var 0], .bi .tuple [.var 4]])]
def d_law_step : Df := ⟨3, 6, false, bd_law_step⟩
def bd_law_any_body : List Mi.St := [.asg (.nm 3) (.lc true [4] [4] (.itRng (.ix (.lst false [.con (.int 0), .con (.int 1), .con (.int 1), .con (.int 2), .con (.int 4)]) (.call "_law_draw" [.var 0, .con (.int 5)]))) [] (.call "_law_step" [.var 0, .var 1, .var 2])),
    .ifs (.cmp .eq (.call "_law_draw" [.var 0, .con (.int 3)]) (.con (.int 0))) [.ex (.met .insert (.var 3) [.call "_law_draw" [.var 0, .bin .add (.bi .len [.var 3]) (.con (.int 1))], .tup [.con (.str "next")]])] [],
    .ret (.bi .tuple [.var 3])]
def d_law_any_body : Df := ⟨3, 5, true, bd_law_any_body⟩
def bd_law_step_written : List Mi.St := [.ifs (.cmp .eq (.ix (.var 0) (.con (.int 0))) (.con (.str "call"))) [.ret (.bin .add (.bin .add (.bin .add (.con (.str "call ")) (.ix (.var 0) (.con (.int 1)))) (.con (.str " "))) (.met .join (.con (.str ",")) [.lc false [1] [1] (.ix (.var 0) (.con (.int 2))) [] (.bi .str [.var 1])]))] [],
    .ret (.met .join (.con (.str " ")) [.var 0])]
def d_law_step_written : Df := ⟨1, 2, false, bd_law_step_written⟩
def bd_law_body_written : List Mi.St := [.ret (.ite (.cmp .eq (.var 0) (.tup [])) (.con (.str "-")) (.met .join (.con (.str "; ")) [.lc false [1] [1] (.var 0) [] (.call "_law_step_written" [.var 1])]))]
def d_law_body_written : Df := ⟨1, 2, false, bd_law_body_written⟩
def bd_law_written : List Mi.St := [.ifs (.cmp .eq (.ix (.var 0) (.con (.int 0))) (.con (.str "class"))) [.ret (.met .join (.con (.str " ")) [.bin .add (.sl (.var 0) none (some (.con (.int 2)))) (.ix (.var 0) (.con (.int 2)))])] [],
    .asg (.nm 1) (.lst true [.ix (.var 0) (.con (.int 0)), .ix (.var 0) (.con (.int 1))]),
    .ifs (.cmp .eq (.ix (.var 0) (.con (.int 0))) (.con (.str "function"))) [.ex (.met .append (.var 1) [.bi .str [.ix (.var 0) (.con (.int 2))]])] [.ifs (.cmp .gt (.bi .len [.var 0]) (.con (.int 2))) [.ex (.met .append (.var 1) [.met .join (.con (.str ",")) [.ix (.var 0) (.con (.int 2))]])] []],
    .ifs (.cmp .gt (.bi .len [.var 0]) (.con (.int 3))) [.ex (.met .append (.var 1) [.call "_law_body_written" [.ix (.var 0) (.con (.int 3))]])] [],
    .ret (.met .join (.con (.str " ")) [.var 1])]
def d_law_written : Df := ⟨1, 2, true, bd_law_written⟩
def bd_law_free_act : List Mi.St := [.par [1, 2] [.call "_law_name" [.var 0], .lst false [.call "_law_name" [.var 0], .con (.str "a")]],
    .asg (.nm 3) (.bi .tuple [.lc false [6] [6] (.itRng (.bin .add (.con (.int 1)) (.call "_law_draw" [.var 0, .con (.int 3)]))) [] (.call "_law_name" [.var 0])]),
    .par [4, 5] [.call "_law_draw" [.var 0, .con (.int 8)], .call "_law_any_body" [.var 0, .var 2, .con (.bool true)]],
    .ifs (.cmp .eq (.var 4) (.con (.int 0))) [.ret (.tup [.con (.str "class"), .var 1, .bi .tuple [.call "_law_names" [.var 0, .call "_law_draw" [.var 0, .con (.int 4)]]]])] [],
    .ifs (.cmp .lt (.var 4) (.con (.int 3))) [.ret (.tup [.ix (.lst false [.con (.str "remove"), .con (.str "reduce")]) (.bin .sub (.var 4) (.con (.int 1))), .var 1])] [],
    .ifs (.cmp .eq (.var 4) (.con (.int 3))) [.ret (.tup [.con (.str "function"), .var 1, .bin .add (.con (.int 1)) (.call "_law_draw" [.var 0, .con (.int 3)])])] [],
    .ret (.ite (.cmp .lt (.var 4) (.con (.int 6))) (.tup [.ix (.lst false [.con (.str "drop"), .con (.str "watch")]) (.bin .sub (.var 4) (.con (.int 4))), .var 1, .var 3]) (.tup [.ix (.lst false [.con (.str "define"), .con (.str "decide")]) (.bin .sub (.var 4) (.con (.int 6))), .var 1, .var 3, .var 5]))]
def d_law_free_act : Df := ⟨1, 7, false, bd_law_free_act⟩
def bd_law_is_good : List Mi.St := [.ifs (.or (.not (.isi (.var 0) [.str])) (.not (.chn .lt .lt (.con (.int 0)) (.bi .len [.var 0]) (.con (.int 9))))) [.ret (.con (.bool false))] [],
    .ret (.cmp .eq (.lc false [1] [1] (.var 0) [.cmp .notin (.var 1) (.con (.str "abcdefghijklmnopqrstuvwxyz"))] (.var 1)) (.lst false []))]
def d_law_is_good : Df := ⟨1, 2, false, bd_law_is_good⟩
structure HasG (P : Str → Option Df) : Prop where
  l_law_pot : P "_law_pot" = some d_law_pot
  l_law_draw : P "_law_draw" = some d_law_draw
  l_law_name : P "_law_name" = some d_law_name
  l_law_names : P "_law_names" = some d_law_names
  l_law_step : P "_law_step" = some d_law_step
  l_law_any_body : P "_law_any_body" = some d_law_any_body
  l_law_step_written : P "_law_step_written" = some d_law_step_written
  l_law_body_written : P "_law_body_written" = some d_law_body_written
  l_law_written : P "_law_written" = some d_law_written
  l_law_free_act : P "_law_free_act" = some d_law_free_act
  l_law_is_good : P "_law_is_good" = some d_law_is_good
end Gw
/-! Gw: what is good -/
namespace Gw
open PySem Mi Op
theorem ofS_inj {a b : String} : (Str.ofString a = Str.ofString b) ↔ a = b := by
  constructor
  · intro h
    rw [Str.ofString_eq_toList, Str.ofString_eq_toList] at h
    have h1 : a.toList.map Char.toNat = b.toList.map Char.toNat := by
      have := congrArg (fun x : Str => x.cps.toList) h
      simpa using this
    have inj : ∀ {u v : List Char}, u.map Char.toNat = v.map Char.toNat → u = v := by
      intro u
      induction u with
      | nil => intro v h; cases v <;> simp_all
      | cons c u ih =>
        intro v h
        cases v with
        | nil => simp at h
        | cons e v =>
          simp only [List.map_cons, List.cons.injEq] at h
          rw [ih h.2]
          congr 1
          exact Char.ext (UInt32.toNat_inj.mp h.1)
    exact String.toList_inj.mp (inj h1)
  · rintro rfl
    rfl
theorem eqv_sL (d : PyData) (s : Str) : PyData.eqv (.str s) d = isS s d := by
  cases d with
  | str x =>
    simp only [PyData.eqv, isS]
    rw [Bool.eq_iff_iff, beq_iff_eq, decide_eq_true_eq]
    exact eq_comm
  | _ => simp [PyData.eqv, isS]
theorem inW_lst (m : Sto) (d : PyData) (es : List PyData) : inW m (.dat d) (.dat (.list es)) = if (SeqAt.shaped d && SeqAt.shaped (.list es)) = true then some (es.any fun z => PyData.eqv z d) else none := by
  cases d <;> rfl
theorem index_lst (m : Sto) (d : PyData) (es : List PyData) : metW .index (.dat (.list es)) [.dat d] m = if (SeqAt.shaped d && SeqAt.shaped (.list es)) = true then (es.findIdx? fun z => PyData.eqv z d).map fun (i : Nat) => wI (i : Int) else none := by
  show ((lstOf m (.dat (.list es))).bind fun ws => (datFs ws).bind fun ds => (datOf m (.dat d)).bind fun d => if SeqAt.shaped d && SeqAt.shaped (.list ds) then (ds.findIdx? fun z => PyData.eqv z d).map fun (i : Nat) => wI (i : Int) else none) = _
  rw [lstOf_list, Option.bind_some, datFs_map, Option.bind_some, datOf_dat, Option.bind_some]
theorem rcv_index (m : Sto) (es : List PyData) : rcv .index (.dat (.list es)) m = true := rfl
theorem eqX_lnil {m : Sto} {ds : List PyData} (hd : SeqAt.shaped (.list ds) = true) : eqX m (.dat (.list ds)) (mkL []) = some ds.isEmpty := by
  show eqX m (.dat (.list ds)) (.dat (.list [])) = _
  unfold eqX
  rw [tupOf_list]
  simp only [eqW, datOf_dat, hd, show SeqAt.shaped (.list []) = true by decide +kernel, Bool.and_self, if_true, PyData.eqv]
  cases ds <;> simp [PyData.eqvAll]
def isTup (lo hi : Int) : PyData → Bool
  | .tuple ds => decide (lo ≤ ds.length) && decide ((ds.length : Int) ≤ hi)
  | _ => false
def isInt : PyData → Bool
  | .int _ => true
  | _ => false
theorem _root_.Mi.Tq.okStr {d : PyData} (h : Tq d) : ∀ x, d = .str x → x.length ≤ lim ∧ okS x = true := fun x e => by
  subst e
  have h := h.resolve_right fun ⟨k, e⟩ => by cases e
  refine ⟨h.str, ?_⟩
  have := h.lay
  simp only [PyData.canLay0, PyData.strOk] at this
  exact this
theorem _root_.Mi.Tm.q {d : PyData} (h : Tm d) : Tq d := .inl h
theorem sh_steps : SeqAt.shaped (.list [.str "say", .str "call", .str "next"]) = true := by decide +kernel
theorem sh_order : SeqAt.shaped (.list [.str "next", .str "say", .str "call"]) = true := by decide +kernel
theorem in_steps (m : Sto) (a : PyData) (h : SeqAt.shaped a = true) : inW m (.dat a) (.dat (.list [.str "say", .str "call", .str "next"])) = some (isS "say" a || (isS "call" a || isS "next" a)) := by
  rw [inW_lst, h, sh_steps]
  simp [eqv_sL]
theorem ix_steps (m : Sto) (a : PyData) (h : SeqAt.shaped a = true) : metW .index (.dat (.list [.str "next", .str "say", .str "call"])) [.dat a] m = if isS "next" a then some (wI 0) else if isS "say" a then some (wI 1) else if isS "call" a then some (wI 2) else none := by
  rw [index_lst, h, sh_order]
  simp only [Bool.and_self, if_true, List.findIdx?_cons, eqv_sL, List.findIdx?_nil]
  cases isS "next" a <;> cases isS "say" a <;> cases isS "call" a <;> rfl
theorem isS_ne {s t : Str} {a : PyData} (h : isS s a = true) (hn : s ≠ t) : isS t a = false := by
  have := isS_eq h
  subst this
  simpa [isS] using hn
def kindsL : List PyData := [.str "remove", .str "reduce", .str "class", .str "function", .str "drop", .str "watch", .str "define", .str "decide"]
theorem sh_kinds : SeqAt.shaped (.list kindsL) = true := by decide +kernel
def arL : List PyData := [.int 2, .int 2, .int 3, .int 3, .int 3, .int 3, .int 4, .int 4]
theorem in_remove (m : Sto) : inW m (wS "remove") (.dat (.list kindsL)) = some true := by kernel_rfl
theorem ix_remove (m : Sto) : metW .index (.dat (.list kindsL)) [wS "remove"] m = some (wI 0) := by kernel_rfl
theorem ar_remove (m : Sto) : ixW m (.dat (.list arL)) (wI 0) = some (wI 2) := by kernel_rfl
theorem p_remove : partsOf "remove" = some (["name"] : List Str) := by kernel_rfl
theorem in_reduce (m : Sto) : inW m (wS "reduce") (.dat (.list kindsL)) = some true := by kernel_rfl
theorem ix_reduce (m : Sto) : metW .index (.dat (.list kindsL)) [wS "reduce"] m = some (wI 1) := by kernel_rfl
theorem ar_reduce (m : Sto) : ixW m (.dat (.list arL)) (wI 1) = some (wI 2) := by kernel_rfl
theorem p_reduce : partsOf "reduce" = some (["name"] : List Str) := by kernel_rfl
theorem in_class (m : Sto) : inW m (wS "class") (.dat (.list kindsL)) = some true := by kernel_rfl
theorem ix_class (m : Sto) : metW .index (.dat (.list kindsL)) [wS "class"] m = some (wI 2) := by kernel_rfl
theorem ar_class (m : Sto) : ixW m (.dat (.list arL)) (wI 2) = some (wI 3) := by kernel_rfl
theorem p_class : partsOf "class" = some (["name", "superclasses"] : List Str) := by kernel_rfl
theorem in_function (m : Sto) : inW m (wS "function") (.dat (.list kindsL)) = some true := by kernel_rfl
theorem ix_function (m : Sto) : metW .index (.dat (.list kindsL)) [wS "function"] m = some (wI 3) := by kernel_rfl
theorem ar_function (m : Sto) : ixW m (.dat (.list arL)) (wI 3) = some (wI 3) := by kernel_rfl
theorem p_function : partsOf "function" = some (["name", "count"] : List Str) := by kernel_rfl
theorem in_drop (m : Sto) : inW m (wS "drop") (.dat (.list kindsL)) = some true := by kernel_rfl
theorem ix_drop (m : Sto) : metW .index (.dat (.list kindsL)) [wS "drop"] m = some (wI 4) := by kernel_rfl
theorem ar_drop (m : Sto) : ixW m (.dat (.list arL)) (wI 4) = some (wI 3) := by kernel_rfl
theorem p_drop : partsOf "drop" = some (["name", "point"] : List Str) := by kernel_rfl
theorem in_watch (m : Sto) : inW m (wS "watch") (.dat (.list kindsL)) = some true := by kernel_rfl
theorem ix_watch (m : Sto) : metW .index (.dat (.list kindsL)) [wS "watch"] m = some (wI 5) := by kernel_rfl
theorem ar_watch (m : Sto) : ixW m (.dat (.list arL)) (wI 5) = some (wI 3) := by kernel_rfl
theorem p_watch : partsOf "watch" = some (["name", "point"] : List Str) := by kernel_rfl
theorem in_define (m : Sto) : inW m (wS "define") (.dat (.list kindsL)) = some true := by kernel_rfl
theorem ix_define (m : Sto) : metW .index (.dat (.list kindsL)) [wS "define"] m = some (wI 6) := by kernel_rfl
theorem ar_define (m : Sto) : ixW m (.dat (.list arL)) (wI 6) = some (wI 4) := by kernel_rfl
theorem p_define : partsOf "define" = some (["name", "point", "body"] : List Str) := by kernel_rfl
theorem in_decide (m : Sto) : inW m (wS "decide") (.dat (.list kindsL)) = some true := by kernel_rfl
theorem ix_decide (m : Sto) : metW .index (.dat (.list kindsL)) [wS "decide"] m = some (wI 7) := by kernel_rfl
theorem ar_decide (m : Sto) : ixW m (.dat (.list arL)) (wI 7) = some (wI 4) := by kernel_rfl
theorem p_decide : partsOf "decide" = some (["name", "point", "body"] : List Str) := by kernel_rfl
theorem in_none (m : Sto) {x : Str} (h : okS x = true) (hp : partsOf x = none) : inW m (wS x) (.dat (.list kindsL)) = some false := by
  have hx : SeqAt.shaped (.str x) = true := shaped_s x h
  rw [inW_lst, hx, sh_kinds]
  simp only [Bool.and_self, if_true, Option.some.injEq]
  cases q : (kindsL.any fun z => PyData.eqv z (.str x)) with
  | false => rfl
  | true =>
    exfalso
    simp only [kindsL, List.any_cons, List.any_nil, eqv_sL, isS, Bool.or_eq_true, decide_eq_true_eq, Bool.or_false] at q
    rcases q with rfl | rfl | rfl | rfl | rfl | rfl | rfl | rfl
    · rw [p_remove] at hp
      cases hp
    · rw [p_reduce] at hp
      cases hp
    · rw [p_class] at hp
      cases hp
    · rw [p_function] at hp
      cases hp
    · rw [p_drop] at hp
      cases hp
    · rw [p_watch] at hp
      cases hp
    · rw [p_define] at hp
      cases hp
    · rw [p_decide] at hp
      cases hp
section
variable {P : Str → Option Df} {B : Fe} (Y : HasG P)
include Y
set_option maxHeartbeats 4000000 in
theorem is_goodL (n : Nat) (d : PyData) (m : Sto) (h : Tq d) : callN P B (n + 1) "_law_is_good" [.dat d] m = .ok (wB (isName d)) m := by
  rw [callN_at Y.l_law_is_good]
  cases d with
  | str x =>
    obtain ⟨hx, hok⟩ := Tq.okStr h x rfl
    have hx2 : x.cps.size ≤ lim := hx
    by_cases h1 : 0 < x.length
    · by_cases h2 : x.length < 9
      · have e1 : (0 : Int) < x.length := by omega
        have e2 : (x.length : Int) < 9 := by omega
        have e3 : x.length ≤ 8 := by omega
        have e4 : 1 ≤ x.length := by omega
        have hsh : SeqAt.shaped (.list (((Sp.cs x).filter fun c => !letter c).map fun c => .str ⟨#[c]⟩)) = true := by
          have h1 : (PyData.list (((Sp.cs x).filter fun c => !letter c).map fun c => .str ⟨#[c]⟩)).depth ≤ 1 := by
            simp only [PyData.depth]
            have := depthAll_le (n := 0) (xs := ((Sp.cs x).filter fun c => !letter c).map fun c => .str ⟨#[c]⟩) |>.mpr fun d hd => by
              obtain ⟨c, _, rfl⟩ := List.mem_map.mp hd
              simp [PyData.depth]
            omega
          have h2 : (PyData.list (((Sp.cs x).filter fun c => !letter c).map fun c => .str ⟨#[c]⟩)).canLay0 = true := by
            simp only [PyData.canLay0]
            refine canLayAll_mem.mpr fun d hd => ?_
            obtain ⟨c, hc, rfl⟩ := List.mem_map.mp hd
            have := okS_iff.mp hok c (List.mem_filter.mp hc).1
            simpa [PyData.canLay0, PyData.strOk] using this
          simp only [SeqAt.shaped, h2, Bool.true_and, decide_eq_true_eq]
          omega
        have hz : ∀ c, (!hasS ⟨#[c]⟩ "abcdefghijklmnopqrstuvwxyz") = !letter c := fun c => by rw [letters_has]
        simp [d_law_is_good, bd_law_is_good, bodyN, evSs, evS, evE, evC, evO, getV, isiW, tyOf, isiT, fin, cutR, biW_len, lenW_str, lenW_tuple, lenW_list, cmp_le, cmp_lt, cmp_gt, cmp_ge, cmp_in, cmp_nin, cmp_eq, cmp_ne, in_str, intOf, asT, asTs, lcGo, gOk_nil, sl_tuple, sl_list, isName, nameS, hx, hx2, h1, h2, e1, e2, e3, e4]
        rw [lcGo_filF (v := fun c => wS ⟨#[c]⟩) (p := fun c => !letter c) (gOk_nil _) fun c _ => by cases q : letter c <;> simp [in_str, letters_has, q]]
        simp only [calm_ok, bind_ok, mkL_dat, eqX_lnil hsh, Option.map_some, lift_some, st_ok, then_rt]
        have hfin : (((Sp.cs x).filter fun c => !letter c).map fun c => PyData.str ⟨#[c]⟩).isEmpty = (Sp.cs x).all letter := by
          generalize Sp.cs x = l
          induction l with
          | nil => rfl
          | cons c l ih => cases q : letter c <;> simp [List.filter_cons, q, List.all_cons] ; simpa using ih
        rw [hfin, ← Array.all_toList]
      · have e1 : (0 : Int) < x.length := by omega
        have e2 : ¬ (x.length : Int) < 9 := by omega
        have e3 : ¬ x.length ≤ 8 := by omega
        simp [d_law_is_good, bd_law_is_good, bodyN, evSs, evS, evE, evC, evO, getV, isiW, tyOf, isiT, fin, cutR, biW_len, lenW_str, lenW_tuple, lenW_list, cmp_le, cmp_lt, cmp_gt, cmp_ge, cmp_in, cmp_nin, cmp_eq, cmp_ne, in_str, intOf, asT, asTs, lcGo, gOk_nil, sl_tuple, sl_list, isName, nameS, hx, h1, h2, e1, e2, e3]
    · have e1 : ¬ (0 : Int) < x.length := by omega
      have e3 : ¬ 1 ≤ x.length := by omega
      simp [d_law_is_good, bd_law_is_good, bodyN, evSs, evS, evE, evC, evO, getV, isiW, tyOf, isiT, fin, cutR, biW_len, lenW_str, lenW_tuple, lenW_list, cmp_le, cmp_lt, cmp_gt, cmp_ge, cmp_in, cmp_nin, cmp_eq, cmp_ne, in_str, intOf, asT, asTs, lcGo, gOk_nil, sl_tuple, sl_list, isName, nameS, hx, h1, e1, e3]
  | _ => simp [d_law_is_good, bd_law_is_good, bodyN, evSs, evS, evE, evC, evO, getV, isiW, tyOf, isiT, fin, cutR, biW_len, lenW_str, lenW_tuple, lenW_list, cmp_le, cmp_lt, cmp_gt, cmp_ge, cmp_in, cmp_nin, cmp_eq, cmp_ne, in_str, intOf, asT, asTs, lcGo, gOk_nil, sl_tuple, sl_list, isName]
end
end Gw
/-! Gw: writing -/
namespace Gw
open PySem Mi Op
theorem cs_call : Sp.cs ("call " : Str) = Sp.cs ("call" : Str) ++ [32] := by decide +kernel
theorem join3 (x y : Str) : ("call " : Str) ++ x ++ " " ++ y = Txt.join " " ["call", x, y] := by
  apply Sp.cs_inj
  rw [Sp.cs_app, Sp.cs_app, Sp.cs_app, Sp.cs_join, cs_call, c_space]
  simp [Sp.jn, c_space]
theorem l_call5 : ("call " : Str).length = 5 := by decide +kernel
theorem add_str {m : Sto} {a b : Str} (h : a.length + b.length ≤ 1000000) : binW .add (wS a) (wS b) m = some (wS (a ++ b)) := if_pos h
theorem add_tup {m : Sto} {as bs : List PyData} (h : as.length + bs.length ≤ 1000000) : binW .add (.dat (.tuple as)) (.dat (.tuple bs)) m = some (.dat (.tuple (as ++ bs))) := by
  show (if (as.map W.dat).length + (bs.map W.dat).length ≤ lim then some (if (as.map W.dat).isEmpty then W.dat (.tuple bs) else if (bs.map W.dat).isEmpty then W.dat (.tuple as) else mkT (as.map W.dat ++ bs.map W.dat)) else none) = _
  rw [List.length_map, List.length_map, if_pos (show as.length + bs.length ≤ lim from h)]
  congr 1
  cases as with
  | nil => simp
  | cons a as => cases bs with
    | nil => simp
    | cons b bs =>
      rw [← List.map_append, mkT_map]
      simp
theorem args_len {es : List PyData} (h2 : es.length ≤ 3) (h3 : es.all isArg = true) : sumLen (es.map txS) + (es.map txS).length * ("," : Str).length ≤ 27 := by
  have := sum_le (k := 8) (xs := es.map txS) fun y hy => by
    obtain ⟨e, he, rfl⟩ := List.mem_map.mp hy
    exact arg_len (List.all_eq_true.mp h3 e he)
  simp only [List.length_map, l_comma] at this ⊢
  omega
section
variable {P : Str → Option Df} {B : Fe} (Y : HasG P)
include Y
set_option maxHeartbeats 4000000 in
theorem step_writtenL (n : Nat) (d : PyData) (m : Sto) (hp : isStep 3 d = true) : callN P B (n + 1) "_law_step_written" [.dat d] m = .ok (wS (wStep d)) m := by
  rw [callN_at Y.l_law_step_written]
  rcases step_cases hp with rfl | ⟨x, rfl, hx⟩ | ⟨x, es, rfl, hx, h1, h2, h3⟩
  · have j := join_ok (s := " ") (xs := ["next"]) (m := m) (seqOf_strT m ["next"]) (by simp [sumLen, l_next, l_space])
    simp only [List.map_cons, List.map_nil] at j
    simp [d_law_step_written, bd_law_step_written, bodyN, evSs, evS, evE, evC, evO, getV, isiW, tyOf, isiT, fin, cutR, biW_len, lenW_str, lenW_tuple, lenW_list, cmp_le, cmp_lt, cmp_gt, cmp_ge, cmp_in, cmp_nin, cmp_eq, cmp_ne, in_str, intOf, asT, asTs, lcGo, gOk_nil, sl_tuple, sl_list, ix_0, eqX_ss, o_call, o_next, n_call_next, rcv_join, isMut_f, j, wStep, txS]
  · have hn := nameS_len hx
    have j := join_ok (s := " ") (xs := ["say", x]) (m := m) (seqOf_strT m ["say", x]) (by simp [sumLen, l_say, l_space]; omega)
    simp only [List.map_cons, List.map_nil] at j
    simp [d_law_step_written, bd_law_step_written, bodyN, evSs, evS, evE, evC, evO, getV, isiW, tyOf, isiT, fin, cutR, biW_len, lenW_str, lenW_tuple, lenW_list, cmp_le, cmp_lt, cmp_gt, cmp_ge, cmp_in, cmp_nin, cmp_eq, cmp_ne, in_str, intOf, asT, asTs, lcGo, gOk_nil, sl_tuple, sl_list, ix_0, eqX_ss, o_call, o_say, n_call_say, rcv_join, isMut_f, j, wStep, txS]
  · have hn := nameS_len hx
    have hl := args_len h2 h3
    have j1 := join_ok (s := ",") (xs := es.map txS) (m := m) (seqOf_strs _ _) (Nat.le_trans hl (by decide))
    have ha : (Txt.join "," (es.map txS)).length ≤ 27 := Nat.le_trans (join_len _ _) hl
    have hz : es.length ≤ lim := by
      show _ ≤ 1000000
      omega
    have a1 : binW .add (wS "call ") (wS x) m = some (wS ("call " ++ x)) := add_str (by rw [l_call5]; omega)
    have a2 : binW .add (wS ("call " ++ x)) (wS " ") m = some (wS ("call " ++ x ++ " ")) := add_str (by rw [len_app, l_call5, l_space]; omega)
    have a3 : binW .add (wS ("call " ++ x ++ " ")) (wS (Txt.join "," (es.map txS))) m = some (wS ("call " ++ x ++ " " ++ Txt.join "," (es.map txS))) := add_str (by rw [len_app, len_app, l_call5, l_space]; omega)
    simp [d_law_step_written, bd_law_step_written, bodyN, evSs, evS, evE, evC, evO, getV, isiW, tyOf, isiT, fin, cutR, biW_len, lenW_str, lenW_tuple, lenW_list, cmp_le, cmp_lt, cmp_gt, cmp_ge, cmp_in, cmp_nin, cmp_eq, cmp_ne, in_str, intOf, asT, asTs, lcGo, gOk_nil, sl_tuple, sl_list, ix_0, ix_1, ix_2, eqX_ss, o_call, rcv_join, isMut_f, hz, a1, a2]
    rw [lcGo_mapF (v := fun d => wS (txS d)) (gOk_nil _) fun d hd => by simp [arg_str _ (List.all_eq_true.mp h3 d hd)]]
    have e1 : mkL (es.map fun d => wS (txS d)) = .dat (.list ((es.map txS).map PyData.str)) := by
      rw [mkL_dat, List.map_map]
      rfl
    simp only [calm_ok, bind_ok, e1, j1, lift_some, a3, st_ok, then_rt, wStep, txS_s, join3]
set_option maxHeartbeats 4000000 in
theorem body_writtenL (n : Nat) (d : PyData) (m : Sto) (h : Tm d) (hb : isBody 3 d = true) : callN P B (n + 2) "_law_body_written" [.dat d] m = .ok (wS (wBody d)) m := by
  rw [callN_at Y.l_law_body_written]
  cases d with
  | tuple ds =>
    have hl := h.len
    simp only [isBody, Bool.and_eq_true] at hb
    have j := join_ok (s := "; ") (xs := ds.map wStep) (m := m) (seqOf_strs _ _) (Nat.le_trans (body_bound hb.1 h.len_le) (by omega))
    by_cases hn : ds = []
    · subst hn
      simp [d_law_body_written, bd_law_body_written, bodyN, evSs, evS, evE, evC, evO, getV, isiW, tyOf, isiT, fin, cutR, biW_len, lenW_str, lenW_tuple, lenW_list, cmp_le, cmp_lt, cmp_gt, cmp_ge, cmp_in, cmp_nin, cmp_eq, cmp_ne, in_str, intOf, asT, asTs, lcGo, gOk_nil, sl_tuple, sl_list, mkT, datAll, eqX_nil, wBody]
    · have he : ds.isEmpty = false := by cases ds <;> first | exact absurd rfl hn | rfl
      simp [d_law_body_written, bd_law_body_written, bodyN, evSs, evS, evE, evC, evO, getV, isiW, tyOf, isiT, fin, cutR, biW_len, lenW_str, lenW_tuple, lenW_list, cmp_le, cmp_lt, cmp_gt, cmp_ge, cmp_in, cmp_nin, cmp_eq, cmp_ne, in_str, intOf, asT, asTs, lcGo, gOk_nil, sl_tuple, sl_list, mkT, datAll, eqX_nil, he, hl, rcv_join, isMut_f]
      rw [lcGo_mapF (v := fun d => wS (wStep d)) (gOk_nil _) fun d hd => by simp [step_writtenL Y n d _ (List.all_eq_true.mp hb.1 d hd)]]
      have e1 : mkL (ds.map fun d => wS (wStep d)) = .dat (.list ((ds.map wStep).map PyData.str)) := by
        rw [mkL_dat, List.map_map]
        rfl
      simp only [calm_ok, bind_ok, e1, j, lift_some, st_ok, then_rt, wBody, hn, if_false]
  | _ => simp [isBody] at hb
end
end Gw
/-! Gw: writing an act -/
namespace Gw
open PySem Mi Op
theorem names_tup {d : PyData} (h : isNames d = true) : ∃ ds, d = .tuple ds ∧ ds.all isName = true := by
  cases d <;> first | exact ⟨_, rfl, h⟩ | cases h
theorem point_tup {d : PyData} (h : isPoint d = true) : ∃ ds, d = .tuple ds ∧ ds.all isName = true ∧ ds.length ≤ 3 := by
  cases d with
  | tuple ds =>
    simp only [isPoint, Bool.and_eq_true, decide_eq_true_eq] at h
    exact ⟨ds, rfl, h.1.1, h.2⟩
  | _ => cases h
theorem count_int {d : PyData} (h : isCount d = true) : ∃ i, d = .int i ∧ 1 ≤ i ∧ i ≤ 3 := by
  cases d with
  | int i =>
    simp only [isCount, Bool.and_eq_true, decide_eq_true_eq] at h
    exact ⟨i, rfl, h⟩
  | _ => cases h
theorem dkinds {w : Str} {ks : List Str} (h : partsOf w = some ks) : (w = "class" ∧ ks = (["name", "superclasses"] : List Str)) ∨ (w = "function" ∧ ks = (["name", "count"] : List Str)) ∨ (w ≠ "class" ∧ w ≠ "function" ∧ (ks = (["name"] : List Str) ∨ ks = (["name", "point"] : List Str) ∨ ks = (["name", "point", "body"] : List Str))) := by
  have hm := lookup_memA h
  simp only [partsTab, List.mem_cons, Prod.mk.injEq, List.not_mem_nil, or_false] at hm
  rcases hm with ⟨rfl, rfl⟩ | ⟨rfl, rfl⟩ | ⟨rfl, rfl⟩ | ⟨rfl, rfl⟩ | ⟨rfl, rfl⟩ | ⟨rfl, rfl⟩ | ⟨rfl, rfl⟩ | ⟨rfl, rfl⟩ <;> simp [ofS_inj]
theorem o_class : ("class" : Str).cps.all (· < 0x110000) = true := by decide +kernel
theorem o_function : ("function" : Str).cps.all (· < 0x110000) = true := by decide +kernel
theorem len_txS {d : PyData} (h : isName d = true) : (txS d).length ≤ 8 := by
  obtain ⟨x, rfl, hx⟩ := isName_eq h
  exact (nameS_len hx).2
theorem n_cf : ¬ ("function" : Str) = "class" := by decide +kernel
theorem str_small {i : Int} (h0 : 1 ≤ i) (h1 : i ≤ 3) (m : Sto) : biW .str [wI i] m = some (wS (txS (.int i))) := bi_str_i i m (by
  have : i = 1 ∨ i = 2 ∨ i = 3 := by omega
  rcases this with rfl | rfl | rfl <;> decide)
section
variable {P : Str → Option Df} {B : Fe} (Y : HasG P)
include Y
set_option maxHeartbeats 4000000 in
theorem writtenL (n : Nat) (d : PyData) (m : Sto) (h : Tp d) (ho : isOp d = true) : callN P B (n + 3) "_law_written" [.dat d] m = .ok (wS (wOp d)) m := by
  rw [callN_at Y.l_law_written]
  obtain ⟨w, ps, ks, rfl, hp, hl, hz⟩ := isOp_shape ho
  obtain ⟨hl2, hq⟩ := h.tup
  have hwo := kinds_ok hp
  have hwl := kinds_len hp
  rcases dkinds hp with ⟨rfl, rfl⟩ | ⟨rfl, rfl⟩ | ⟨hc, hf, hk⟩
  · match ps, hl with
    | [a, b], _ =>
      have ha := isPart_name (hz ("name", a) (by simp))
      have hb := isPart_supers (hz ("superclasses", b) (by simp))
      obtain ⟨x, rfl, hx⟩ := isName_eq ha
      obtain ⟨es, rfl, he⟩ := names_tup hb
      have hn := nameS_len hx
      have hel : es.length ≤ 4000 := (hq (.tuple es) (by simp)).tup.len_le
      have hsum := names_sum he
      have a1 := add_tup (m := m) (as := [.str "class", .str x]) (bs := es) (by simp; omega)
      have hs : seqOf m (.dat (.tuple ([.str "class", .str x] ++ es))) = some ((("class" :: x :: es.map txS : List Str)).map wS) := by
        have := seqOf_strT m ("class" :: x :: es.map txS)
        simp only [List.map_cons, names_str2 he] at this
        exact this
      have j := join_ok (s := " ") (xs := "class" :: x :: es.map txS) hs (by
        simp only [sumLen, List.length_cons, List.length_map, l_space]
        omega)
      have e : wOp (.tuple [.str "class", .str x, .tuple es]) = Txt.join " " ("class" :: x :: es.map txS) := by
        simp only [wOp, hp, Option.getD_some, List.zip_cons_cons, List.zip_nil_right, List.flatMap_cons, List.flatMap_nil, List.append_nil]
        simp [wWords, n_name_superclasses, n_name_count, n_name_point, n_name_body, n_superclasses_name, n_superclasses_count, n_superclasses_point, n_superclasses_body, n_count_name, n_count_superclasses, n_count_point, n_count_body, n_point_name, n_point_superclasses, n_point_count, n_point_body, n_body_name, n_body_superclasses, n_body_count, n_body_point, txS]
      simp [d_law_written, bd_law_written, bodyN, evSs, evS, evE, evC, evO, getV, isiW, tyOf, isiT, fin, cutR, biW_len, lenW_str, lenW_tuple, lenW_list, cmp_le, cmp_lt, cmp_gt, cmp_ge, cmp_in, cmp_nin, cmp_eq, cmp_ne, in_str, intOf, asT, asTs, lcGo, gOk_nil, sl_tuple, sl_list, ix_0, ix_2, eqX_ss, o_class, cutD, HT.sIx, rcv_join, isMut_f]
      simp only [List.cons_append, List.nil_append] at a1 j
      simp [a1, j, e, frz_dat]
  · match ps, hl with
    | [a, b], _ =>
      have ha := isPart_name (hz ("name", a) (by simp))
      have hb := isPart_count (hz ("count", b) (by simp))
      obtain ⟨x, rfl, hx⟩ := isName_eq ha
      obtain ⟨i, rfl, h0, h1⟩ := count_int hb
      have hn := nameS_len hx
      have hil : (txS (.int i)).length ≤ 1 := by
        have : i = 1 ∨ i = 2 ∨ i = 3 := by omega
        rcases this with rfl | rfl | rfl <;> decide +kernel
      have j := join_ok (s := " ") (xs := ["function", x, txS (.int i)]) (seqOf_app m [wS "function", wS x, wS (txS (.int i))]) (by
        simp only [sumLen, List.length_cons, List.length_nil, l_space]
        omega)
      have e : wOp (.tuple [.str "function", .str x, .int i]) = Txt.join " " ["function", x, txS (.int i)] := by
        simp only [wOp, hp, Option.getD_some, List.zip_cons_cons, List.zip_nil_right, List.flatMap_cons, List.flatMap_nil, List.append_nil]
        simp [wWords, n_name_superclasses, n_name_count, n_name_point, n_name_body, n_superclasses_name, n_superclasses_count, n_superclasses_point, n_superclasses_body, n_count_name, n_count_superclasses, n_count_point, n_count_body, n_point_name, n_point_superclasses, n_point_count, n_point_body, n_body_name, n_body_superclasses, n_body_count, n_body_point, txS]
      have l2 : 2 ≤ lim := by decide
      have l3 : 2 + 1 ≤ lim := by decide
      simp [d_law_written, bd_law_written, bodyN, evSs, evS, evE, evC, evO, getV, isiW, tyOf, isiT, fin, cutR, biW_len, lenW_str, lenW_tuple, lenW_list, cmp_le, cmp_lt, cmp_gt, cmp_ge, cmp_in, cmp_nin, cmp_eq, cmp_ne, in_str, intOf, asT, asTs, lcGo, gOk_nil, sl_tuple, sl_list, ix_0, ix_1, ix_2, eqX_ss, o_function, o_class, n_cf, l2, str_small h0 h1, rcv_app, isMut_t, mut_app m [wS "function", wS x] _ l3, rcv_join, isMut_f, j, frz_dat, e]
  · have hcw : eqX m (wS w) (wS "class") = some false := by rw [eqX_ss hwo o_class]; simp [hc]
    have hfw : ∀ m, eqX m (wS w) (wS "function") = some false := fun m => by rw [eqX_ss hwo o_function]; simp [hf]
    have l2 : 2 ≤ lim := by decide
    have l3 : 2 + 1 ≤ lim := by decide
    have l4 : 3 + 1 ≤ lim := by decide
    rcases hk with rfl | rfl | rfl
    · match ps, hl with
      | [a], _ =>
        have ha := isPart_name (hz ("name", a) (by simp))
        obtain ⟨x, rfl, hx⟩ := isName_eq ha
        have hn := nameS_len hx
        have j := join_ok (s := " ") (xs := [w, x]) (seqOf_app m [wS w, wS x]) (by
          simp only [sumLen, List.length_cons, List.length_nil, l_space]
          omega)
        have e : wOp (.tuple [.str w, .str x]) = Txt.join " " [w, x] := by
          simp only [wOp, hp, Option.getD_some, List.zip_cons_cons, List.zip_nil_right, List.flatMap_cons, List.flatMap_nil, List.append_nil]
          simp [wWords, n_name_superclasses, n_name_count, n_name_point, n_name_body, n_superclasses_name, n_superclasses_count, n_superclasses_point, n_superclasses_body, n_count_name, n_count_superclasses, n_count_point, n_count_body, n_point_name, n_point_superclasses, n_point_count, n_point_body, n_body_name, n_body_superclasses, n_body_count, n_body_point, txS]
        simp [d_law_written, bd_law_written, bodyN, evSs, evS, evE, evC, evO, getV, isiW, tyOf, isiT, fin, cutR, biW_len, lenW_str, lenW_tuple, lenW_list, cmp_le, cmp_lt, cmp_gt, cmp_ge, cmp_in, cmp_nin, cmp_eq, cmp_ne, in_str, intOf, asT, asTs, lcGo, gOk_nil, sl_tuple, sl_list, ix_0, ix_1, hcw, hfw, l2, rcv_join, isMut_f, j, frz_dat, e]
    · match ps, hl with
      | [a, b], _ =>
        have ha := isPart_name (hz ("name", a) (by simp))
        have hb := isPart_point (hz ("point", b) (by simp))
        obtain ⟨x, rfl, hx⟩ := isName_eq ha
        obtain ⟨es, rfl, he, hel⟩ := point_tup hb
        have hn := nameS_len hx
        have hsum := names_sum he
        have hs : seqOf (m ++ [.lst [wS w, wS x]]) (.dat (.tuple es)) = some ((es.map txS).map wS) := by
          have := seqOf_strT (m ++ [.lst [wS w, wS x]]) (es.map txS)
          rwa [names_str2 he] at this
        have j1 := join_ok (s := ",") (xs := es.map txS) hs (by rw [l_comma, List.length_map]; omega)
        have hpl : (Txt.join "," (es.map txS)).length ≤ 27 := by
          refine Nat.le_trans (join_len _ _) ?_
          rw [l_comma, List.length_map]
          omega
        have j := join_ok (s := " ") (xs := [w, x, Txt.join "," (es.map txS)]) (seqOf_app m [wS w, wS x, wS (Txt.join "," (es.map txS))]) (by
          simp only [sumLen, List.length_cons, List.length_nil, l_space]
          omega)
        have e : wOp (.tuple [.str w, .str x, .tuple es]) = Txt.join " " [w, x, Txt.join "," (es.map txS)] := by
          simp only [wOp, hp, Option.getD_some, List.zip_cons_cons, List.zip_nil_right, List.flatMap_cons, List.flatMap_nil, List.append_nil]
          simp [wWords, n_name_superclasses, n_name_count, n_name_point, n_name_body, n_superclasses_name, n_superclasses_count, n_superclasses_point, n_superclasses_body, n_count_name, n_count_superclasses, n_count_point, n_count_body, n_point_name, n_point_superclasses, n_point_count, n_point_body, n_body_name, n_body_superclasses, n_body_count, n_body_point, txS, wPoint]
        simp [d_law_written, bd_law_written, bodyN, evSs, evS, evE, evC, evO, getV, isiW, tyOf, isiT, fin, cutR, biW_len, lenW_str, lenW_tuple, lenW_list, cmp_le, cmp_lt, cmp_gt, cmp_ge, cmp_in, cmp_nin, cmp_eq, cmp_ne, in_str, intOf, asT, asTs, lcGo, gOk_nil, sl_tuple, sl_list, ix_0, ix_1, ix_2, hcw, hfw, l2, rcv_join, isMut_f, rcv_app, isMut_t, j1, mut_app m [wS w, wS x] _ l3, j, frz_dat, e]
    · match ps, hl with
      | [a, b, c], _ =>
        have ha := isPart_name (hz ("name", a) (by simp))
        have hb := isPart_point (hz ("point", b) (by simp))
        have hcb := isPart_body (hz ("body", c) (by simp))
        obtain ⟨x, rfl, hx⟩ := isName_eq ha
        obtain ⟨es, rfl, he, hel⟩ := point_tup hb
        have hct : Tm c := part_tm (by simp) (hz ("body", c) (by simp)) (hq c (by simp))
        have hbl := wBody_len hct hcb
        have hn := nameS_len hx
        have hsum := names_sum he
        have hs : seqOf (m ++ [.lst [wS w, wS x]]) (.dat (.tuple es)) = some ((es.map txS).map wS) := by
          have := seqOf_strT (m ++ [.lst [wS w, wS x]]) (es.map txS)
          rwa [names_str2 he] at this
        have j1 := join_ok (s := ",") (xs := es.map txS) hs (by rw [l_comma, List.length_map]; omega)
        have hpl : (Txt.join "," (es.map txS)).length ≤ 27 := by
          refine Nat.le_trans (join_len _ _) ?_
          rw [l_comma, List.length_map]
          omega
        have j := join_ok (s := " ") (xs := [w, x, Txt.join "," (es.map txS), wBody c]) (seqOf_app m [wS w, wS x, wS (Txt.join "," (es.map txS)), wS (wBody c)]) (by
          simp only [sumLen, List.length_cons, List.length_nil, l_space]
          omega)
        have e : wOp (.tuple [.str w, .str x, .tuple es, c]) = Txt.join " " [w, x, Txt.join "," (es.map txS), wBody c] := by
          simp only [wOp, hp, Option.getD_some, List.zip_cons_cons, List.zip_nil_right, List.flatMap_cons, List.flatMap_nil, List.append_nil]
          simp [wWords, n_name_superclasses, n_name_count, n_name_point, n_name_body, n_superclasses_name, n_superclasses_count, n_superclasses_point, n_superclasses_body, n_count_name, n_count_superclasses, n_count_point, n_count_body, n_point_name, n_point_superclasses, n_point_count, n_point_body, n_body_name, n_body_superclasses, n_body_count, n_body_point, txS, wPoint]
        simp [d_law_written, bd_law_written, bodyN, evSs, evS, evE, evC, evO, getV, isiW, tyOf, isiT, fin, cutR, biW_len, lenW_str, lenW_tuple, lenW_list, cmp_le, cmp_lt, cmp_gt, cmp_ge, cmp_in, cmp_nin, cmp_eq, cmp_ne, in_str, intOf, asT, asTs, lcGo, gOk_nil, sl_tuple, sl_list, ix_0, ix_1, ix_2, ix_3, hcw, hfw, l2, rcv_join, isMut_f, rcv_app, isMut_t, j1, mut_app m [wS w, wS x] _ l3, mut_app m [wS w, wS x, wS (Txt.join "," (es.map txS))] _ l4, body_writtenL Y n c _ hct hcb, j, frz_dat, e]
end
end Gw
/-! Gw: pots -/
namespace Gw
open PySem Mi Op
/-- a pot's cell -/
def pc (a b : Int) : Cell := .lst [wI a, wI b]
theorem cell_pc {m : Sto} {i : Nat} {a b : Int} (hi : i < m.length) : cellL (m.set i (pc a b)) i = some [wI a, wI b] := by
  simp [cellL, pc, hi]
theorem ix_pot {m : Sto} {i : Nat} {a b : Int} (hi : i < m.length) : ixW (m.set i (pc a b)) (.ref i) (wI 0) = some (wI a) ∧ ixW (m.set i (pc a b)) (.ref i) (wI 1) = some (wI b) := by
  constructor
  · show (seqOf (m.set i (pc a b)) (.ref i)).bind (fun ws => L2.atI ws 0) = _
    rw [show seqOf (m.set i (pc a b)) (.ref i) = cellL (m.set i (pc a b)) i from rfl, cell_pc hi]
    rfl
  · show (seqOf (m.set i (pc a b)) (.ref i)).bind (fun ws => L2.atI ws 1) = _
    rw [show seqOf (m.set i (pc a b)) (.ref i) = cellL (m.set i (pc a b)) i from rfl, cell_pc hi]
    rfl
theorem sto_pot {m : Sto} {i L : Nat} {a b c : Int} (hi : i < m.length) : stoIx L (.ref i) (wI 0) (wI c) (m.set i (pc a b)) = some (m.set i (pc c b)) ∧ stoIx L (.ref i) (wI 1) (wI c) (m.set i (pc a b)) = some (m.set i (pc a c)) := by
  have e0 : L2.ixN 2 0 = some 0 := rfl
  have e1 : L2.ixN 2 1 = some 1 := rfl
  have l2 : 2 ≤ lim := by decide
  have hc := cell_pc (a := a) (b := b) hi
  simp only [pc] at hc ⊢
  constructor
  · simp [stoIx, hc, e0, setCell, refsLeAll, refsLe, l2]
  · simp [stoIx, hc, e1, setCell, refsLeAll, refsLe, l2]
theorem mul_r {m : Sto} {i j : Int} (h : small j = true) : binW .mul (wI i) (wI j) m = some (wI (i * j)) := by
  show (if (small i || small j) = true then some (wI (i * j)) else none) = _
  rw [h, Bool.or_true, if_pos rfl]
theorem mul_l {m : Sto} {i j : Int} (h : small i = true) : binW .mul (wI i) (wI j) m = some (wI (i * j)) := by
  show (if (small i || small j) = true then some (wI (i * j)) else none) = _
  rw [h, Bool.true_or, if_pos rfl]
theorem mod_p {m : Sto} {i j : Int} (h : 0 < j) : binW .mod (wI i) (wI j) m = some (wI (i % j)) := if_pos h
theorem fdiv_p {m : Sto} {i j : Int} (h : 0 < j) (h2 : j < 1073741824) : binW .fdiv (wI i) (wI j) m = some (wI (i / j)) := if_pos ⟨h, h2⟩
theorem add_i {m : Sto} {i j : Int} : binW .add (wI i) (wI j) m = some (wI (i + j)) := rfl
theorem sub_i {m : Sto} {i j : Int} : binW .sub (wI i) (wI j) m = some (wI (i - j)) := rfl
theorem dm_i {m : Sto} {i j : Int} (h : 0 < j) (h2 : j < 1073741824) : biW .divmod [wI i, wI j] m = some (.tup [wI (i / j), wI (i % j)]) := if_pos ⟨h, h2⟩
theorem small_of {i : Int} (h0 : 0 ≤ i) (h1 : i < 2147483647) : small i = true := by
  simp only [small, Bool.and_eq_true, decide_eq_true_eq]
  omega
section
variable {P : Str → Option Df} {B : Fe} (Y : HasG P)
include Y
set_option maxHeartbeats 4000000 in
theorem drawL (n : Nat) (k : Int) (m : Sto) (i : Nat) (a b : Int) (hi : i < m.length) (h0 : 0 < k) (h1 : k < 1073741824) : ∃ r a' b', callN P B (n + 1) "_law_draw" [.ref i, wI k] (m.set i (pc a b)) = .ok (wI r) (m.set i (pc a' b')) ∧ 0 ≤ r ∧ r < k := by
  rw [callN_at Y.l_law_draw]
  by_cases ha : 0 < a
  · refine ⟨a % k, a / k, b, ?_, Int.emod_nonneg _ (by omega), Int.emod_lt_of_pos _ h0⟩
    simp [d_law_draw, bd_law_draw, bodyN, evSs, evS, evE, evC, evO, getV, isiW, tyOf, isiT, fin, cutR, biW_len, lenW_str, lenW_tuple, lenW_list, cmp_le, cmp_lt, cmp_gt, cmp_ge, cmp_in, cmp_nin, cmp_eq, cmp_ne, in_str, intOf, asT, asTs, lcGo, gOk_nil, sl_tuple, sl_list, (ix_pot hi).1, ha, dm_i h0 h1, tupOf, (sto_pot hi).1]
  · refine ⟨(b * 39373 + 12227) % 2147483629 * ((b * 39373 + 12227) % 2147483629) % 2147483563 / 13 % k, a, (b * 39373 + 12227) % 2147483629, ?_, Int.emod_nonneg _ (by omega), Int.emod_lt_of_pos _ h0⟩
    have s1 : small 39373 = true := by decide
    have s2 : small ((b * 39373 + 12227) % 2147483629) = true := small_of (Int.emod_nonneg _ (by omega)) (by have := Int.emod_lt_of_pos (b * 39373 + 12227) (show (0 : Int) < 2147483629 by omega); omega)
    simp [d_law_draw, bd_law_draw, bodyN, evSs, evS, evE, evC, evO, getV, isiW, tyOf, isiT, fin, cutR, biW_len, lenW_str, lenW_tuple, lenW_list, cmp_le, cmp_lt, cmp_gt, cmp_ge, cmp_in, cmp_nin, cmp_eq, cmp_ne, in_str, intOf, asT, asTs, lcGo, gOk_nil, sl_tuple, sl_list, (ix_pot hi).1, (ix_pot hi).2, ha, mul_r s1, mul_r s2, add_i, mod_p, fdiv_p, (sto_pot hi).2, h0]
end
end Gw
/-! Gw: names drawn -/
namespace Gw
open PySem Mi Op
/-- the store m, the pot at i as it may be -/
def Po (m : Sto) (i : Nat) (Q : W → Prop) : W → Sto → Prop := fun w m' => Q w ∧ ∃ a b, m' = m.set i (pc a b)
theorem lcGo_pot {α : Type} {f : W → M (Option W)} {u : α → W} {l : List α} {i : Nat} {m : Sto} {Q : PyData → Prop} (h : ∀ x ∈ l, ∀ a b, (f (u x) (m.set i (pc a b))).to fun o m' => ∃ d a' b', o = some (.dat d) ∧ m' = m.set i (pc a' b') ∧ Q d) : ∀ a b, (lcGo [] f (l.map u) (m.set i (pc a b))).to fun ys m' => ∃ (ds : List PyData) (a' b' : Int), ys = ds.map W.dat ∧ m' = m.set i (pc a' b') ∧ ds.length = l.length ∧ ∀ d ∈ ds, Q d := by
  induction l with
  | nil =>
    intro a b
    rw [List.map_nil, lcGo, if_pos (gOk_nil _)]
    exact ⟨[], a, b, rfl, rfl, rfl, fun d h => (by cases h)⟩
  | cons x l ih =>
    intro a b
    obtain ⟨o, m1, e1, d, a1, b1, rfl, rfl, q1⟩ := Res.to_eq (h x (List.mem_cons_self ..) a b)
    obtain ⟨ys, m2, e2, ds, a2, b2, rfl, rfl, hl, q2⟩ := Res.to_eq (ih (fun y hy => h y (List.mem_cons_of_mem _ hy)) a1 b1)
    rw [List.map_cons, lcGo, if_pos (gOk_nil _), e1, bind_ok, e2]
    refine ⟨d :: ds, a2, b2, rfl, rfl, by simp [hl], fun z hz => ?_⟩
    rcases List.mem_cons.mp hz with rfl | hz
    · exact q1
    · exact q2 z hz
theorem ixl_any (m : Sto) {ds : List PyData} {r : Int} (h0 : 0 ≤ r) (h1 : r < ds.length) : ∃ d ∈ ds, ixW m (.dat (.list ds)) (wI r) = some (.dat d) := by
  obtain ⟨k, rfl⟩ := Int.eq_ofNat_of_zero_le h0
  have hk : k < ds.length := by omega
  exact ⟨ds[k], List.getElem_mem hk, ixl_nat (by simp [hk])⟩
theorem ixs_any (m : Sto) {x : Str} {r : Int} (hx : x.length ≤ lim) (h0 : 0 ≤ r) (h1 : r < x.length) : ∃ c ∈ Sp.cs x, ixW m (wS x) (wI r) = some (wS ⟨#[c]⟩) := by
  obtain ⟨k, rfl⟩ := Int.eq_ofNat_of_zero_le h0
  have hk : k < (Sp.cs x).length := by rw [← Sp.len_cs]; omega
  refine ⟨(Sp.cs x)[k], List.getElem_mem hk, ?_⟩
  show (if x.length ≤ lim then (L2.atI (Sp.cs x) k).map fun c => wS ⟨#[c]⟩ else none) = _
  rw [if_pos hx, atI_k (x := (Sp.cs x)[k]) (by simp [hk])]
  rfl
theorem alpha_len : ("abcdefghijklmnopqrstuvwxyz" : Str).length = 26 := by decide +kernel
theorem alpha_letter : ∀ c ∈ Sp.cs ("abcdefghijklmnopqrstuvwxyz" : Str), letter c = true := by
  have : (Sp.cs ("abcdefghijklmnopqrstuvwxyz" : Str)).all letter = true := by decide +kernel
  exact fun c hc => List.all_eq_true.mp this c hc
theorem iter_rng (m : Sto) {k : Int} (h0 : 0 ≤ k) (h1 : k ≤ 100000) : iterOf m (.itr 2 [wI k]) = some ((List.range k.toNat).map fun (n : Nat) => wI n) := by
  show (if -100000 ≤ k ∧ k ≤ 100000 then some ((List.range k.toNat).map fun (n : Nat) => wI n) else none) = _
  rw [if_pos ⟨by omega, h1⟩]
theorem jn_nil : ∀ l : List (List Nat), Sp.jn [] l = l.flatten
  | [] => rfl
  | [x] => by simp [Sp.jn]
  | x :: y :: r => by
    have := jn_nil (y :: r)
    simp only [Sp.jn, this, List.append_nil, List.flatten_cons]
theorem name_join {xs : List Str} (h1 : 1 ≤ xs.length) (h2 : xs.length ≤ 8) (h : ∀ x ∈ xs, ∃ c, x = ⟨#[c]⟩ ∧ letter c = true) : nameS (Txt.join "" xs) = true ∧ sumLen xs ≤ 8 := by
  have e0 : Sp.cs ("" : Str) = [] := by decide +kernel
  have e : Sp.cs (Txt.join "" xs) = (xs.map Sp.cs).flatten := by rw [Sp.cs_join, e0, jn_nil]
  have hl : ∀ ys : List Str, (∀ x ∈ ys, ∃ c, x = ⟨#[c]⟩ ∧ letter c = true) → ((ys.map Sp.cs).flatten).length = ys.length ∧ (∀ c ∈ (ys.map Sp.cs).flatten, letter c = true) ∧ sumLen ys = ys.length := by
    intro ys
    induction ys with
    | nil => intro _; simp [sumLen]
    | cons y ys ih =>
      intro hy
      obtain ⟨c, rfl, hc⟩ := hy y (List.mem_cons_self ..)
      obtain ⟨i1, i2, i3⟩ := ih fun x hx => hy x (List.mem_cons_of_mem _ hx)
      refine ⟨by simp only [List.map_cons, List.flatten_cons, List.length_append, i1, List.length_cons]; simp [Sp.cs]; omega, ?_, ?_⟩
      · intro d hd
        simp only [List.map_cons, List.flatten_cons, List.mem_append] at hd
        rcases hd with hd | hd
        · simp [Sp.cs] at hd
          rw [hd]
          exact hc
        · exact i2 d hd
      · simp only [sumLen, i3, List.length_cons]
        rw [show (⟨#[c]⟩ : Str).length = 1 from rfl]
        omega
  obtain ⟨a1, a2, a3⟩ := hl xs h
  refine ⟨?_, by omega⟩
  simp only [nameS, Bool.and_eq_true, decide_eq_true_eq, List.all_eq_true]
  rw [Sp.len_cs, e, a1]
  exact ⟨⟨h1, h2⟩, a2⟩
theorem rcv_join' (x : Str) (m : Sto) : rcv .join (wS x) m = true := rfl
section
variable {P : Str → Option Df} {B : Fe} (Y : HasG P)
include Y
set_option maxHeartbeats 4000000 in
theorem nameL (n : Nat) (m : Sto) (i : Nat) (a b : Int) (hi : i < m.length) : ∃ x a' b', callN P B (n + 2) "_law_name" [.ref i] (m.set i (pc a b)) = .ok (wS x) (m.set i (pc a' b')) ∧ nameS x = true := by
  suffices h : (callN P B (n + 2) "_law_name" [.ref i] (m.set i (pc a b))).to fun w m' => ∃ x a' b', w = wS x ∧ m' = m.set i (pc a' b') ∧ nameS x = true by
    obtain ⟨w, m', e, x, a', b', rfl, rfl, h⟩ := Res.to_eq h
    exact ⟨x, a', b', e, h⟩
  rw [callN_at Y.l_law_name]
  obtain ⟨r, a1, b1, e1, r0, r1⟩ := drawL (B := B) Y n 3 m i a b hi (by decide) (by decide)
  obtain ⟨d, hd, e2⟩ := ixl_any (m.set i (pc a1 b1)) (ds := [.int 1, .int 2, .int 8]) r0 (by simpa using r1)
  have hk : ∃ k : Int, d = .int k ∧ 1 ≤ k ∧ k ≤ 8 := by
    simp only [List.mem_cons, List.not_mem_nil, or_false] at hd
    rcases hd with rfl | rfl | rfl
    · exact ⟨1, rfl, by decide, by decide⟩
    · exact ⟨2, rfl, by decide, by decide⟩
    · exact ⟨8, rfl, by decide, by decide⟩
  obtain ⟨k, rfl, k0, k1⟩ := hk
  have l3 : 3 ≤ lim := by decide
  have hkl : k.toNat ≤ lim := by
    show _ ≤ 1000000
    omega
  have hit := iter_rng (m.set i (pc a1 b1)) (k := k) (by omega) (by omega)
  simp only [d_law_name, bodyN, List.length_cons, List.length_nil, decide_true]
  refine fin_to ?_
  simp [bd_law_name, bodyN, evSs, evS, evE, evC, evO, getV, isiW, tyOf, isiT, biW_len, lenW_str, lenW_tuple, lenW_list, cmp_le, cmp_lt, cmp_gt, cmp_ge, cmp_in, cmp_nin, cmp_eq, cmp_ne, in_str, intOf, asT, asTs, lcGo, gOk_nil, sl_tuple, sl_list, e1, e2, hit, mkL, datAll, l3, hkl, rcv_join, isMut_f]
  refine SR.to_then (Res.to_st (Res.to_bind (Res.to_bind (Res.to_bind (Res.to_calm (Res.to_mono (lcGo_pot (Q := fun d => ∃ c, d = .str ⟨#[c]⟩ ∧ letter c = true) (fun x _ a b => ?_) _ _) ?_))))))
  · obtain ⟨r, a2, b2, e3, r0, r1⟩ := drawL (B := B) Y n 26 m i a b hi (by decide) (by decide)
    obtain ⟨c, hc, e4⟩ := ixs_any (m.set i (pc a2 b2)) (x := "abcdefghijklmnopqrstuvwxyz") (r := r) (by rw [alpha_len]; decide) r0 (by rw [alpha_len]; exact r1)
    simp [getV, e3, e4]
    exact ⟨⟨_, _, rfl⟩, alpha_letter c hc⟩
  · rintro ys m' ⟨ds, a3, b3, rfl, rfl, hl, hq⟩
    have hxs : ∃ xs : List Str, ds = xs.map .str ∧ ∀ x ∈ xs, ∃ c, x = ⟨#[c]⟩ ∧ letter c = true := by
      clear hl
      induction ds with
      | nil => exact ⟨[], rfl, fun x h => by cases h⟩
      | cons d ds ih =>
        obtain ⟨c, rfl, hc⟩ := hq d (List.mem_cons_self ..)
        obtain ⟨xs, rfl, hx⟩ := ih fun x hx => hq x (List.mem_cons_of_mem _ hx)
        refine ⟨⟨#[c]⟩ :: xs, rfl, fun x hx' => ?_⟩
        rcases List.mem_cons.mp hx' with rfl | hx'
        · exact ⟨c, rfl, hc⟩
        · exact hx x hx'
    obtain ⟨xs, rfl, hx⟩ := hxs
    have hxl : xs.length = k.toNat := by simpa using hl
    obtain ⟨hn, hs⟩ := name_join (xs := xs) (by omega) (by omega) hx
    have j := join_ok (s := "") (xs := xs) (m := m.set i (pc a3 b3)) (seqOf_strs _ _) (by rw [show ("" : Str).length = 0 from rfl]; omega)
    rw [datAll_map]
    simp [j, hn]
    exact ⟨_, _, rfl⟩
end
end Gw
/-! Gw: several names drawn -/
namespace Gw
open PySem Mi Op
theorem fin_pure {n : Nat} {r : SR} {Q : W → Sto → Prop} (h : r.to (fun _ _ => False) fun w m' => ∃ w', frz n m' 40 w = some w' ∧ Q w' (m'.take n)) : (fin true n r).to Q := by
  cases r with
  | rt w m' =>
    obtain ⟨w', h1, h2⟩ := h
    show (match frz n m' 40 w with
      | some w' => Res.ok w' (m'.take n)
      | none => .no).to Q
    rw [h1]
    exact h2
  | _ => exact h.elim
theorem trav_dat (n : Nat) (m : Sto) (k : Nat) (ds : List PyData) : trav (frz n m (k + 1)) (ds.map W.dat) = some (ds.map W.dat) := by
  induction ds with
  | nil => rfl
  | cons d ds ih =>
    show ((frz n m (k + 1) (.dat d)).bind fun b => (trav (frz n m (k + 1)) (ds.map W.dat)).map fun bs => b :: bs) = _
    rw [ih]
    rfl
theorem frz_box (m : Sto) (ds : List PyData) : frz m.length (m ++ [.lst (ds.map W.dat)]) 40 (.ref m.length) = some (.dat (.list ds)) := by
  show (if m.length < m.length then some (W.ref m.length) else (cellL (m ++ [.lst (ds.map W.dat)]) m.length).bind fun ws => (trav (frz m.length (m ++ [.lst (ds.map W.dat)]) 39) ws).map mkL) = _
  rw [if_neg (Nat.lt_irrefl _), cellL_app, Option.bind_some, trav_dat, Option.map_some, mkL_map]
theorem set_box {m : Sto} {i : Nat} {c d : Cell} (hi : i < m.length) : (m ++ [d]).set i c = m.set i c ++ [d] := by
  rw [List.set_append_left _ _ hi]
theorem in_box {m : Sto} {xs : List Str} {x : Str} (hx : okS x = true) (h : ∀ y ∈ xs, okS y = true) : inW (m ++ [.lst (xs.map wS)]) (wS x) (.ref m.length) = some (decide (x ∈ xs)) := by
  have hs : SeqAt.shaped (.list (xs.map .str)) = true := by
    have h1 : (PyData.list (xs.map .str)).depth ≤ 1 := by
      simp only [PyData.depth]
      have := depthAll_le (n := 0) (xs := xs.map PyData.str) |>.mpr fun d hd => by
        obtain ⟨c, _, rfl⟩ := List.mem_map.mp hd
        simp [PyData.depth]
      omega
    have h2 : (PyData.list (xs.map .str)).canLay0 = true := by
      simp only [PyData.canLay0]
      refine canLayAll_mem.mpr fun d hd => ?_
      obtain ⟨c, hc, rfl⟩ := List.mem_map.mp hd
      simp only [PyData.canLay0, PyData.strOk]
      exact h c hc
    simp only [SeqAt.shaped, h2, Bool.true_and, decide_eq_true_eq]
    omega
  have e1 : datOf (m ++ [.lst (xs.map wS)]) (.ref m.length) = some (.list (xs.map .str)) := by
    show ((cellL (m ++ [.lst (xs.map wS)]) m.length).bind fun ws => (datFs ws).map PyData.list) = _
    rw [cellL_app, Option.bind_some]
    have := datFs_map (xs.map .str)
    rw [List.map_map] at this
    rw [show (xs.map wS) = xs.map (W.dat ∘ PyData.str) from rfl, this]
    rfl
  show (match datOf (m ++ [.lst (xs.map wS)]) (wS x), datOf (m ++ [.lst (xs.map wS)]) (.ref m.length) with
    | some d, some (.list es) => if SeqAt.shaped d && SeqAt.shaped (.list es) then some (es.any fun z => PyData.eqv z d) else none
    | some d, some (.tuple es) => if SeqAt.shaped d && SeqAt.shaped (.tuple es) then some (es.any fun z => PyData.eqv z d) else none
    | _, _ => none) = _
  rw [e1]
  show (if (SeqAt.shaped (.str x) && SeqAt.shaped (.list (xs.map .str))) = true then some ((xs.map PyData.str).any fun z => PyData.eqv z (.str x)) else none) = _
  rw [shaped_s x hx, hs]
  simp only [Bool.and_self, if_true, Option.some.injEq]
  rw [Bool.eq_iff_iff, decide_eq_true_eq, List.any_map, List.any_eq_true]
  constructor
  · rintro ⟨y, hy, e⟩
    have e : PyData.eqv (.str y) (.str x) = true := e
    rw [eqv_s] at e
    have := of_decide_eq_true (show decide (y = x) = true from e)
    subst this
    exact hy
  · intro hx'
    refine ⟨x, hx', ?_⟩
    show PyData.eqv (.str x) (.str x) = true
    rw [eqv_s]
    exact decide_eq_true rfl
theorem free_ne {xs : List Str} (h : xs.length ≤ 3) : ∃ c r, ((Sp.cs ("abcdefghijklmnopqrstuvwxyz" : Str)).filter fun c => !decide ((⟨#[c]⟩ : Str) ∈ xs)) = c :: r ∧ letter c = true := by
  cases e : (Sp.cs ("abcdefghijklmnopqrstuvwxyz" : Str)).filter fun c => !decide ((⟨#[c]⟩ : Str) ∈ xs) with
  | cons c r => 
    refine ⟨c, r, rfl, alpha_letter c ?_⟩
    have : c ∈ (Sp.cs ("abcdefghijklmnopqrstuvwxyz" : Str)).filter fun c => !decide ((⟨#[c]⟩ : Str) ∈ xs) := by rw [e]; simp
    exact (List.mem_filter.mp this).1
  | nil =>
    exfalso
    have hall : ∀ c : Nat, 97 ≤ c → c ≤ 100 → (⟨#[c]⟩ : Str) ∈ xs := by
      intro c h0 h1
      rw [List.filter_eq_nil_iff] at e
      have hc : c ∈ Sp.cs ("abcdefghijklmnopqrstuvwxyz" : Str) := by
        have : c = 97 ∨ c = 98 ∨ c = 99 ∨ c = 100 := by omega
        rcases this with rfl | rfl | rfl | rfl <;> decide +kernel
      have := e c hc
      simpa using this
    have ha := hall 97 (by omega) (by omega)
    have hb := hall 98 (by omega) (by omega)
    have hc := hall 99 (by omega) (by omega)
    have hd := hall 100 (by omega) (by omega)
    match xs, h with
    | [], _ => cases ha
    | [x], _ =>
      simp only [List.mem_cons, List.not_mem_nil, or_false] at ha hb
      rw [← ha] at hb
      simp at hb
    | [x, y], _ =>
      simp only [List.mem_cons, List.not_mem_nil, or_false] at ha hb hc
      rcases ha with rfl | rfl <;> rcases hb with hb | hb <;> rcases hc with hc | hc <;> (try subst hb) <;> (try subst hc) <;> simp_all
    | [x, y, z], _ =>
      simp only [List.mem_cons, List.not_mem_nil, or_false] at ha hb hc hd
      rcases ha with rfl | rfl | rfl <;> rcases hb with hb | hb | hb <;> rcases hc with hc | hc | hc <;> rcases hd with hd | hd | hd <;> (try subst hb) <;> (try subst hc) <;> (try subst hd) <;> simp_all
theorem nameS_one {c : Nat} (h : letter c = true) : nameS ⟨#[c]⟩ = true := by
  simp [nameS, Sp.cs, h, Str.length]
section
variable {P : Str → Option Df} {B : Fe} (Y : HasG P)
include Y
set_option maxHeartbeats 4000000 in
theorem namesL (n : Nat) (m : Sto) (i : Nat) (a b k : Int) (hi : i < m.length) (h0 : 0 ≤ k) (h1 : k ≤ 3) : ∃ (xs : List Str) (a' b' : Int), callN P B (n + 3) "_law_names" [.ref i, wI k] (m.set i (pc a b)) = .ok (.dat (.list (xs.map .str))) (m.set i (pc a' b')) ∧ xs.length = k.toNat ∧ ∀ x ∈ xs, nameS x = true := by
  suffices h : (callN P B (n + 3) "_law_names" [.ref i, wI k] (m.set i (pc a b))).to fun w m' => ∃ (xs : List Str) (a' b' : Int), w = .dat (.list (xs.map .str)) ∧ m' = m.set i (pc a' b') ∧ xs.length = k.toNat ∧ ∀ x ∈ xs, nameS x = true by
    obtain ⟨w, m', e, x, a', b', rfl, rfl, h⟩ := Res.to_eq h
    exact ⟨x, a', b', e, h⟩
  rw [callN_at Y.l_law_names]
  have l0 : 0 ≤ lim := by decide
  simp only [d_law_names, bodyN, List.length_cons, List.length_nil, decide_true, List.length_set]
  refine fin_pure ?_
  simp only [bd_law_names]
  refine to_cons ?_
  simp [evS, evE, evEs_nil, l0, asT]
  refine to_cons (SR.to_mono (fors_to (ws := (List.range k.toNat).map fun (n : Nat) => wI n) (w := .itr 2 [wI k]) (fun j σ m' => ∃ (x3 x4 x5 x6 : Option W) (xs : List Str) (a b : Int), σ = [some (.ref i), some (wI k), some (.ref m.length), x3, x4, x5, x6] ∧ m' = m.set i (pc a b) ++ [.lst (xs.map wS)] ∧ xs.length = j ∧ ∀ x ∈ xs, nameS x = true) ?_ ?_ rfl ⟨_, _, _, _, [], a, b, rfl, rfl, rfl, fun x h => (by cases h)⟩ ?_) ?_ fun _ _ h => h)
  · simp [evE, getV]
  · exact iter_rng _ h0 (by omega)
  · rintro j x σ m' hx ⟨x3, x4, x5, x6, xs, a, b, rfl, rfl, rfl, hxs⟩
    have hj : xs.length < k.toNat := by
      have := (List.getElem?_eq_some_iff.mp hx).1
      simpa using this
    rw [← set_box hi]
    obtain ⟨y, a1, b1, e1, hy⟩ := nameL (B := B) Y n (m ++ [.lst (xs.map wS)]) i a b (by simp; omega)
    obtain ⟨c, r, hf, hc⟩ := free_ne (xs := xs) (by omega)
    have hxk : ∀ y ∈ xs, okS y = true := fun y hy => nameS_ok (hxs y hy)
    have hin := fun {y : Str} (hy : okS y = true) => in_box (m := m.set i (pc a1 b1)) hy hxk
    rw [List.length_set] at hin
    have hal : ∀ c ∈ Sp.cs ("abcdefghijklmnopqrstuvwxyz" : Str), okS ⟨#[c]⟩ = true := fun c hc => nameS_ok (nameS_one (alpha_letter c hc))
    simp only [set_box hi] at e1 ⊢
    have hA : (("abcdefghijklmnopqrstuvwxyz" : Str)).cps.size ≤ lim := by
      show (("abcdefghijklmnopqrstuvwxyz" : Str)).length ≤ lim
      rw [alpha_len]
      decide
    simp [bodyN, evSs, evS, evE, evC, evO, getV, isiW, tyOf, isiT, biW_len, lenW_str, lenW_tuple, lenW_list, cmp_le, cmp_lt, cmp_gt, cmp_ge, cmp_in, cmp_nin, cmp_eq, cmp_ne, in_str, intOf, asT, asTs, lcGo, gOk_nil, sl_tuple, sl_list, e1, hA]
    rw [lcGo_filF (v := fun c => wS ⟨#[c]⟩) (p := fun c => !decide ((⟨#[c]⟩ : Str) ∈ xs)) (gOk_nil _) fun c hc => by
      simp only [List.set_cons_succ, List.set_cons_zero, List.getElem?_cons_succ, List.getElem?_cons_zero, lift_some, bind_ok, hin (hal c hc), Option.map_some, Function.comp]
      by_cases q : (⟨#[c]⟩ : Str) ∈ xs <;> simp [q]]
    have hf' : (List.filter (fun c => !decide ((⟨#[c]⟩ : Str) ∈ xs)) ("abcdefghijklmnopqrstuvwxyz" : Str).cps.toList) = c :: r := hf
    rw [hf']
    have hmk : mkL ((c :: r).map fun c => wS ⟨#[c]⟩) = .dat (.list (.str ⟨#[c]⟩ :: r.map fun c => .str ⟨#[c]⟩)) := mkL_dat _ (c :: r)
    have hrc := rcv_app (m.set i (pc a1 b1)) (xs.map wS)
    have hmu := fun v => mut_app (m.set i (pc a1 b1)) (xs.map wS) v (by rw [List.length_map]; show _ ≤ 1000000; omega)
    rw [List.length_set] at hrc hmu
    by_cases q : y ∈ xs
    · simp only [calm_ok, bind_ok, hmk, st_ok, then_nx, List.getElem?_cons_succ, List.getElem?_cons_zero, lift_some, hrc, hin (nameS_ok hy), q, decide_true, Option.map_some, tru_b, ixl_0, isMut_t, hmu, to_nx]
      refine ⟨⟨_, _, _, _, rfl⟩, xs ++ [⟨#[c]⟩], ⟨a1, b1, by simp⟩, by simp, fun z hz => ?_⟩
      rcases List.mem_append.mp hz with hz | hz
      · exact hxs z hz
      · rw [List.mem_singleton.mp hz]
        exact nameS_one hc
    · simp only [calm_ok, bind_ok, hmk, st_ok, then_nx, List.getElem?_cons_succ, List.getElem?_cons_zero, lift_some, hrc, hin (nameS_ok hy), q, decide_false, Option.map_some, tru_b, ixl_0, isMut_t, hmu, to_nx]
      refine ⟨⟨_, _, _, _, rfl⟩, xs ++ [y], ⟨a1, b1, by simp⟩, by simp, fun z hz => ?_⟩
      rcases List.mem_append.mp hz with hz | hz
      · exact hxs z hz
      · rw [List.mem_singleton.mp hz]
        exact hy
  · rintro σ m' ⟨x3, x4, x5, x6, xs, a, b, rfl, rfl, hxl, hxs⟩
    have hfz := frz_box (m.set i (pc a b)) (xs.map .str)
    rw [List.length_set, List.map_map] at hfz
    have hfz : frz m.length (m.set i (pc a b) ++ [.lst (xs.map wS)]) 40 (.ref m.length) = some (.dat (.list (xs.map .str))) := hfz
    simp only [evSs, evS, evE, getV, List.getElem?_cons_succ, List.getElem?_cons_zero, lift_some, st_ok, then_rt, to_rt]
    refine ⟨_, hfz, xs, rfl, ⟨a, b, ?_⟩, by simpa using hxl, hxs⟩
    have := List.take_left (l₁ := m.set i (pc a b)) (l₂ := [Cell.lst (xs.map wS)])
    rwa [List.length_set] at this
end
end Gw
/-! Gw: steps and bodies drawn -/
namespace Gw
open PySem Mi Op
theorem nameS_a : nameS "a" = true := by decide +kernel
theorem isName_s {x : Str} (h : nameS x = true) : isName (.str x) = true := h
theorem insert_ok {m : Sto} {ds : List PyData} {k : Int} {v : PyData} (h0 : 0 ≤ k) (h1 : k ≤ 1000) (hl : ds.length ≤ 1000) : mutW m.length .insert (.ref m.length) [wI k, .dat v] (m ++ [.lst (ds.map W.dat)]) = some (wN, m ++ [.lst ((ds.take k.toNat ++ [v] ++ ds.drop k.toNat).map W.dat)]) := by
  have hz : (ds.map W.dat).take k.toNat ++ [W.dat v] ++ (ds.map W.dat).drop k.toNat = (ds.take k.toNat ++ [v] ++ ds.drop k.toNat).map W.dat := by
    rw [List.map_append, List.map_append, List.map_take, List.map_drop]
    rfl
  have hb : ((ds.take k.toNat ++ [v] ++ ds.drop k.toNat).map W.dat).length ≤ lim := by
    show _ ≤ 1000000
    simp only [List.length_map, List.length_append, List.length_take, List.length_drop, List.length_cons, List.length_nil]
    omega
  show ((cellL (m ++ [.lst (ds.map W.dat)]) m.length).bind fun ws => if 0 ≤ k ∧ k ≤ 1000000 then (setCell m.length m.length (ws.take k.toNat ++ [W.dat v] ++ ws.drop k.toNat) [W.dat v] (m ++ [.lst (ds.map W.dat)])).map fun m => (wN, m) else none) = _
  rw [cellL_app, Option.bind_some, if_pos ⟨h0, by omega⟩, hz, setCell_app _ _ _ _ hb]
  rfl
theorem tuple_box {m : Sto} {ds : List PyData} : biW .tuple [.ref m.length] (m ++ [.lst (ds.map W.dat)]) = some (.dat (.tuple ds)) := by
  show (lstOf (m ++ [.lst (ds.map W.dat)]) (.ref m.length)).map mkT = _
  rw [show lstOf (m ++ [.lst (ds.map W.dat)]) (.ref m.length) = cellL (m ++ [.lst (ds.map W.dat)]) m.length from rfl, cellL_app, Option.map_some, mkT_map]
theorem len_box {m : Sto} {ds : List PyData} : lenW (m ++ [.lst (ds.map W.dat)]) (.ref m.length) = some ds.length := by
  show (cellL (m ++ [.lst (ds.map W.dat)]) m.length).map List.length = _
  rw [cellL_app, Option.map_some, List.length_map]
theorem rcv_ins (m : Sto) (ws : List W) : rcv .insert (.ref m.length) (m ++ [.lst ws]) = true := by simp [rcv, isBox, cellL_app]
theorem take_box {m : Sto} {c : Cell} : (m ++ [c]).take m.length = m := List.take_left
theorem body_ok {ds : List PyData} (h : ∀ d ∈ ds, isStep 3 d = true ∧ isNext d = false) : isBody 3 (.tuple ds) = true ∧ ds.countP isNext = 0 := by
  have h2 : ds.countP isNext = 0 := by
    rw [List.countP_eq_zero]
    exact fun d hd => by rw [(h d hd).2]; simp
  refine ⟨?_, h2⟩
  simp only [isBody, Bool.and_eq_true, decide_eq_true_eq, List.all_eq_true, h2]
  exact ⟨fun d hd => (h d hd).1, by omega⟩
theorem body_ins {ds : List PyData} (k : Nat) (h : ∀ d ∈ ds, isStep 3 d = true ∧ isNext d = false) : isBody 3 (.tuple (ds.take k ++ [.tuple [.str "next"]] ++ ds.drop k)) = true := by
  obtain ⟨_, h2⟩ := body_ok h
  have hs : (ds.take k).countP isNext + (ds.drop k).countP isNext = 0 := by
    rw [← List.countP_append, List.take_append_drop, h2]
  simp only [isBody, Bool.and_eq_true, decide_eq_true_eq, List.all_eq_true, List.mem_append, List.mem_singleton, List.countP_append]
  refine ⟨fun d hd => ?_, ?_⟩
  · rcases hd with (hd | rfl) | hd
    · exact (h d (List.mem_of_mem_take hd)).1
    · simp [isStep, isS]
    · exact (h d (List.mem_of_mem_drop hd)).1
  · have : List.countP isNext [PyData.tuple [.str "next"]] ≤ 1 := Nat.le_trans List.countP_le_length (Nat.le_refl 1)
    omega
section
variable {P : Str → Option Df} {B : Fe} (Y : HasG P)
include Y
set_option maxHeartbeats 4000000 in
theorem stepL (n : Nat) (m : Sto) (i : Nat) (a b : Int) (hi : i < m.length) (y : Str) (hy : nameS y = true) : ∃ (d : PyData) (a' b' : Int), callN P B (n + 3) "_law_step" [.ref i, .dat (.list [.str y, .str "a"]), wB true] (m.set i (pc a b)) = .ok (.dat d) (m.set i (pc a' b')) ∧ isStep 3 d = true ∧ isNext d = false := by
  suffices h : (callN P B (n + 3) "_law_step" [.ref i, .dat (.list [.str y, .str "a"]), wB true] (m.set i (pc a b))).to fun w m' => ∃ (d : PyData) (a' b' : Int), w = .dat d ∧ m' = m.set i (pc a' b') ∧ isStep 3 d = true ∧ isNext d = false by
    obtain ⟨w, m', e, x, a', b', rfl, rfl, h⟩ := Res.to_eq h
    exact ⟨x, a', b', e, h⟩
  rw [callN_at Y.l_law_step]
  obtain ⟨r, a1, b1, e1, r0, r1⟩ := drawL (B := B) Y (n + 1) 3 m i a b hi (by decide) (by decide)
  have l2 : 2 ≤ lim := by decide
  have l3 : 3 ≤ lim := by decide
  have l4 : 4 ≤ lim := by decide
  have hlw : lenW (m.set i (pc a1 b1)) (.dat (.list [.str y, .str "a"])) = some 2 := by rw [lenW_list]; rfl
  simp only [d_law_step, bodyN, List.length_cons, List.length_nil, decide_true]
  refine fin_to ?_
  by_cases q : r < 2
  · obtain ⟨s, a2, b2, e2, s0, s1⟩ := drawL (B := B) Y (n + 1) 2 m i a1 b1 hi (by decide) (by decide)
    obtain ⟨d, hd, e3⟩ := ixl_any (m.set i (pc a2 b2)) (ds := [.str y, .str "a"]) s0 (by simpa using s1)
    have hdn : isName d = true := by
      simp only [List.mem_cons, List.not_mem_nil, or_false] at hd
      rcases hd with rfl | rfl
      · exact hy
      · exact nameS_a
    have hst : isStep 3 (.tuple [.str "say", d]) = true ∧ isNext (.tuple [.str "say", d]) = false := ⟨by simp [isStep, isS, hdn], rfl⟩
    simp [bd_law_step, bodyN, evSs, evS, evE, evC, evO, getV, isiW, tyOf, isiT, biW_len, lenW_str, lenW_tuple, lenW_list, cmp_le, cmp_lt, cmp_gt, cmp_ge, cmp_in, cmp_nin, cmp_eq, cmp_ne, in_str, intOf, asT, asTs, lcGo, gOk_nil, sl_tuple, sl_list, e1, q, e2, e3, mkT, datAll, l2, hlw]
    exact ⟨⟨_, _, rfl⟩, hst⟩
  · obtain ⟨s, a2, b2, e2, s0, s1⟩ := drawL (B := B) Y (n + 1) 3 m i a1 b1 hi (by decide) (by decide)
    have hit := iter_rng (m.set i (pc a2 b2)) (k := 1 + s) (by omega) (by omega)
    have hkl : (1 + s).toNat ≤ lim := by
      show _ ≤ 1000000
      omega
    simp [bd_law_step, bodyN, evSs, evS, evE, evC, evO, getV, isiW, tyOf, isiT, biW_len, lenW_str, lenW_tuple, lenW_list, cmp_le, cmp_lt, cmp_gt, cmp_ge, cmp_in, cmp_nin, cmp_eq, cmp_ne, in_str, intOf, asT, asTs, lcGo, gOk_nil, sl_tuple, sl_list, e1, q, e2, add_i, hit, hkl]
    refine SR.to_then (Res.to_st (Res.to_bind (Res.to_calm (Res.to_mono (lcGo_pot (Q := fun d => isArg d = true) (fun x _ a b => ?_) _ _) ?_))))
    · obtain ⟨z, a3, b3, e3, hz⟩ := nameL (B := B) Y n m i a b hi
      obtain ⟨t, a4, b4, e4, t0, t1⟩ := drawL (B := B) Y (n + 1) 4 m i a3 b3 hi (by decide) (by decide)
      obtain ⟨d, hd, e5⟩ := ixl_any (m.set i (pc a4 b4)) (ds := [.int 0, .int 1, .int 2, .str z]) t0 (by simpa using t1)
      have hda : isArg d = true := by
        simp only [List.mem_cons, List.not_mem_nil, or_false] at hd
        rcases hd with rfl | rfl | rfl | rfl
        · decide
        · decide
        · decide
        · simp [isArg, isName_s hz]
      simp [getV, e3, e4, e5, mkL, datAll, l4]
      exact ⟨⟨_, _, rfl⟩, hda⟩
    · rintro ys m' ⟨ds, a3, b3, rfl, rfl, hl, hq⟩
      have hl : ds.length = (1 + s).toNat := by simpa using hl
      obtain ⟨z, a4, b4, e3, hz⟩ := nameL (B := B) Y n m i a3 b3 hi
      have hst : isStep 3 (.tuple [.str "call", .str z, .tuple ds]) = true := by
        have h1 : 1 ≤ ds.length := by omega
        have h2 : ds.length ≤ 3 := by omega
        have h3 : ds.all (fun d => isName d || isIdx 3 d) = true := List.all_eq_true.mpr hq
        simp only [isStep, isArgs, Bool.and_eq_true, decide_eq_true_eq]
        exact ⟨⟨by simp [isS], isName_s hz⟩, ⟨h1, h2⟩, h3⟩
      simp [e3, mkL_map, biW_tuple_l, mkT, datAll, l3, hst, isNext]
      exact ⟨_, _, rfl⟩
set_option maxHeartbeats 4000000 in
theorem any_bodyL (n : Nat) (m : Sto) (i : Nat) (a b : Int) (hi : i < m.length) (y : Str) (hy : nameS y = true) : ∃ (ds : List PyData) (a' b' : Int), callN P B (n + 4) "_law_any_body" [.ref i, .dat (.list [.str y, .str "a"]), wB true] (m.set i (pc a b)) = .ok (.dat (.tuple ds)) (m.set i (pc a' b')) ∧ isBody 3 (.tuple ds) = true ∧ ds.length ≤ 5 := by
  suffices h : (callN P B (n + 4) "_law_any_body" [.ref i, .dat (.list [.str y, .str "a"]), wB true] (m.set i (pc a b))).to fun w m' => ∃ (d : List PyData) (a' b' : Int), w = .dat (.tuple d) ∧ m' = m.set i (pc a' b') ∧ isBody 3 (.tuple d) = true ∧ d.length ≤ 5 by
    obtain ⟨w, m', e, x, a', b', rfl, rfl, h⟩ := Res.to_eq h
    exact ⟨x, a', b', e, h⟩
  rw [callN_at Y.l_law_any_body]
  obtain ⟨r, a1, b1, e1, r0, r1⟩ := drawL (B := B) Y (n + 2) 5 m i a b hi (by decide) (by decide)
  obtain ⟨d, hd, e2⟩ := ixl_any (m.set i (pc a1 b1)) (ds := [.int 0, .int 1, .int 1, .int 2, .int 4]) r0 (by simpa using r1)
  have hk : ∃ k : Int, d = .int k ∧ 0 ≤ k ∧ k ≤ 4 := by
    simp only [List.mem_cons, List.not_mem_nil, or_false] at hd
    rcases hd with rfl | rfl | rfl | rfl | rfl
    · exact ⟨0, rfl, by decide, by decide⟩
    · exact ⟨1, rfl, by decide, by decide⟩
    · exact ⟨1, rfl, by decide, by decide⟩
    · exact ⟨2, rfl, by decide, by decide⟩
    · exact ⟨4, rfl, by decide, by decide⟩
  obtain ⟨k, rfl, k0, k1⟩ := hk
  have l5 : 5 ≤ lim := by decide
  have l1 : 1 ≤ lim := by decide
  have hkl : k.toNat ≤ lim := by
    show _ ≤ 1000000
    omega
  have hit := iter_rng (m.set i (pc a1 b1)) (k := k) k0 (by omega)
  simp only [d_law_any_body, bodyN, List.length_cons, List.length_nil, decide_true, List.length_set]
  refine fin_pure ?_
  simp [bd_law_any_body, bodyN, evSs, evS, evE, evC, evO, getV, isiW, tyOf, isiT, biW_len, lenW_str, lenW_tuple, lenW_list, cmp_le, cmp_lt, cmp_gt, cmp_ge, cmp_in, cmp_nin, cmp_eq, cmp_ne, in_str, intOf, asT, asTs, lcGo, gOk_nil, sl_tuple, sl_list, e1, e2, hit, mkL, datAll, l5, hkl]
  refine SR.to_then (Res.to_st (Res.to_bind (Res.to_calm (Res.to_mono (lcGo_pot (Q := fun d => isStep 3 d = true ∧ isNext d = false) (fun x _ a b => ?_) _ _) ?_))))
  · obtain ⟨d, a2, b2, e3, h1, h2⟩ := stepL (B := B) Y n m i a b hi y hy
    simp [getV, e3]
    exact ⟨⟨_, _, rfl⟩, h1, h2⟩
  · rintro ys m' ⟨ds, a3, b3, rfl, rfl, hl, hq⟩
    have hl : ds.length = k.toNat := by simpa using hl
    simp only [to_ok, newL_t]
    have M : (m.set i (pc a3 b3)).length = m.length := List.length_set
    obtain ⟨s, a4, b4, e4, s0, s1⟩ := drawL (B := B) Y (n + 2) 3 (m ++ [.lst (ds.map W.dat)]) i a3 b3 (by simp; omega) (by decide) (by decide)
    simp only [set_box hi] at e4
    by_cases q : s = 0
    · subst q
      obtain ⟨t, a5, b5, e5, t0, t1⟩ := drawL (B := B) Y (n + 2) (ds.length + 1) (m ++ [.lst (ds.map W.dat)]) i a4 b4 (by simp; omega) (by omega) (by omega)
      simp only [set_box hi] at e5
      have hlb := len_box (m := m.set i (pc a4 b4)) (ds := ds)
      have hin := insert_ok (m := m.set i (pc a5 b5)) (ds := ds) (k := t) (v := .tuple [.str "next"]) t0 (by omega) (by omega)
      have hrc := rcv_ins (m.set i (pc a4 b4)) (ds.map W.dat)
      have htb := tuple_box (m := m.set i (pc a5 b5)) (ds := ds.take t.toNat ++ [PyData.tuple [.str "next"]] ++ ds.drop t.toNat)
      have htk := take_box (m := m.set i (pc a5 b5)) (c := .lst ((ds.take t.toNat ++ [PyData.tuple [.str "next"]] ++ ds.drop t.toNat).map W.dat))
      rw [List.length_set] at hlb hin hrc htb htk
      have hbo := body_ins t.toNat hq
      have hlen : (ds.take t.toNat ++ [PyData.tuple [.str "next"]] ++ ds.drop t.toNat).length ≤ 5 := by
        simp only [List.length_append, List.length_take, List.length_drop, List.length_cons, List.length_nil]
        omega
      generalize ds.take t.toNat ++ [PyData.tuple [.str "next"]] ++ ds.drop t.toNat = es at *
      simp [M, e4, bodyN, evSs, evS, evE, evC, evO, getV, isiW, tyOf, isiT, biW_len, lenW_str, lenW_tuple, lenW_list, cmp_le, cmp_lt, cmp_gt, cmp_ge, cmp_in, cmp_nin, cmp_eq, cmp_ne, in_str, intOf, asT, asTs, lcGo, gOk_nil, sl_tuple, sl_list, eqX_int, hrc, hlb, add_i, e5, isMut_t, mkT, datAll, l1, hin, htb, frz_dat, htk, hbo]
      exact ⟨⟨_, _, rfl⟩, hlen⟩
    · have htb := tuple_box (m := m.set i (pc a4 b4)) (ds := ds)
      have htk := take_box (m := m.set i (pc a4 b4)) (c := .lst (ds.map W.dat))
      rw [List.length_set] at htb htk
      have hbo := (body_ok hq).1
      simp [M, e4, bodyN, evSs, evS, evE, evC, evO, getV, isiW, tyOf, isiT, biW_len, lenW_str, lenW_tuple, lenW_list, cmp_le, cmp_lt, cmp_gt, cmp_ge, cmp_in, cmp_nin, cmp_eq, cmp_ne, in_str, intOf, asT, asTs, lcGo, gOk_nil, sl_tuple, sl_list, eqX_int, q, htb, frz_dat, htk, hbo]
      exact ⟨⟨_, _, rfl⟩, by omega⟩
end
end Gw
/-! Gw: things -/
namespace Gw
open PySem Mi Op
/-- a thing that the law hands out -/
structure Th (d : PyData) : Prop where
  tp : Tp d
  sho : showOk d = true
  sok : okS d.shown = true
  siz : isOp d = true → (wOp d).length ≤ 3900
theorem repr_ok {d : PyData} (m : Sto) (h : showOk d = true) : biW .repr [.dat d] m = some (wS d.shown) := by
  show ((datOf m (.dat d)).bind fun d => if showOk d then some (wS d.shown) else none) = _
  rw [datOf_dat, Option.bind_some, if_pos h]
theorem told_eq {m : Sto} {x : Str} (h : okS x = true) : eqX m (.dat (.list [.str x, .bool true, .bool false])) (.dat (.list [.str x, .bool true, .bool false])) = some true := by
  have hs : SeqAt.shaped (.list [.str x, .bool true, .bool false]) = true := by
    have : PyData.strOk x = true := h
    simp [SeqAt.shaped, PyData.canLay0, PyData.canLayAll0, this, PyData.depth, PyData.depthAll]
  unfold eqX
  rw [tupOf_list]
  simp only [eqW, datOf_dat, hs, Bool.and_self, if_true]
  simp [PyData.eqv, PyData.eqvAll]
theorem ne_str {m : Sto} {x : Str} (h : okS x = true) : eqW m (wS x) (wS x) = some true := by
  rw [eqW_dat m _ _ (shaped_s x h) (shaped_s x h)]
  simp [PyData.eqv]
theorem two_show (b : Bool) : showOk (.list [.bool b, .bool b]) = true ∧ okS (PyData.list [.bool b, .bool b]).shown = true := by
  cases b <;> decide +kernel
theorem viss_mem : ∀ {xs : List PyData}, viss xs = true ↔ ∀ x ∈ xs, vis x = true
  | [] => by simp [viss]
  | y :: xs => by simp [viss, viss_mem (xs := xs)]
theorem wts_le {k : Nat} : ∀ {xs : List PyData}, (∀ x ∈ xs, wt x ≤ k) → wts xs ≤ xs.length * (k + 2)
  | [], _ => by simp [wts]
  | x :: xs, h => by
    have h1 := h x (List.mem_cons_self ..)
    have h2 := wts_le fun y hy => h y (List.mem_cons_of_mem x hy)
    simp only [wts, List.length_cons, Nat.succ_mul]
    omega
structure It (d : PyData) : Prop where
  tm : Tq d
  vi : vis d = true
  wt : wt d ≤ 4000
  dp : d.depth ≤ 6
  nw : ∀ es, d = .tuple es → es.length ≤ 8
theorem tm_name {x : Str} (h : nameS x = true) : Tm (.str x) := Tm.of_str (nameS_ok h) (by have := nameS_len h; omega)
theorem wt_name {x : Str} (h : nameS x = true) : wt (.str x) ≤ 82 := by
  have := nameS_len h
  simp only [wt]
  omega
theorem it_name {x : Str} (h : nameS x = true) : It (.str x) := ⟨.inl (tm_name h), by simpa [vis] using nameS_ok h, by have := wt_name h; omega, by simp [PyData.depth], fun es e => by cases e⟩
theorem it_tup {ds : List PyData} {k : Nat} (hl : ds.length ≤ 8) (h1 : ∀ d ∈ ds, Tm d) (h2 : ∀ d ∈ ds, vis d = true) (h3 : ∀ d ∈ ds, wt d ≤ 400) (h4 : ∀ d ∈ ds, d.depth ≤ 5) : It (.tuple ds) := by
  refine ⟨.inl (Tm.of_tuple (by omega) h1 fun d hd => Nat.le_trans (h4 d hd) (by decide)), ?_, ?_, ?_, fun es e => by cases e; exact hl⟩
  · simp only [vis]
    exact viss_mem.mpr h2
  · have := wts_le h3
    simp only [Mi.wt]
    omega
  · simp only [PyData.depth]
    have := depthAll_le.mpr h4
    omega
theorem it_names {xs : List Str} (hl : xs.length ≤ 8) (h : ∀ x ∈ xs, nameS x = true) : It (.tuple (xs.map .str)) := by
  refine it_tup (k := 0) (by simpa using hl) ?_ ?_ ?_ ?_ <;> intro d hd <;> obtain ⟨x, hx, rfl⟩ := List.mem_map.mp hd
  · exact tm_name (h x hx)
  · exact (it_name (h x hx)).vi
  · have := wt_name (h x hx)
    omega
  · simp [PyData.depth]
theorem arg_facts {d : PyData} (h : isArg d = true) : Tm d ∧ vis d = true ∧ wt d ≤ 82 ∧ d.depth = 0 := by
  simp only [isArg, Bool.or_eq_true] at h
  rcases h with h | h
  · obtain ⟨x, rfl, hx⟩ := isName_eq h
    exact ⟨tm_name hx, (it_name hx).vi, wt_name hx, by simp [PyData.depth]⟩
  · obtain ⟨i, rfl, h0, h1⟩ := isIdx_eq h
    rcases idx_text h0 h1 with rfl | rfl | rfl <;> exact ⟨Tm.of_int _, by decide +kernel, by decide +kernel, by simp [PyData.depth]⟩
theorem lit_facts (s : String) (h : s.length ≤ 10) : Tm (.str s) ∧ vis (.str s) = true ∧ wt (.str s) ≤ 102 ∧ (PyData.str s).depth = 0 := by
  refine ⟨Tm.of_str (okS_of s) (by rw [len_of]; omega), ?_, ?_, by simp [PyData.depth]⟩
  · simp only [vis]
    exact okS_of s
  · simp only [wt, len_of]
    omega
theorem step_facts {d : PyData} (h : isStep 3 d = true) : Tm d ∧ vis d = true ∧ wt d ≤ 500 ∧ d.depth ≤ 2 := by
  rcases step_cases h with rfl | ⟨x, rfl, hx⟩ | ⟨x, es, rfl, hx, h1, h2, h3⟩
  · exact ⟨⟨by decide +kernel, by decide +kernel, by decide +kernel⟩, by decide +kernel, by decide +kernel, by decide +kernel⟩
  · obtain ⟨a1, a2, a3, a4⟩ := lit_facts "say" (by decide)
    obtain ⟨b1, b2, b3, b4⟩ := arg_facts (d := .str x) (by simp [isArg, isName_s hx])
    refine ⟨Tm.of_tuple (by simp) (by simp [a1, b1]) (by simp [a4, b4]), by simp only [vis, viss] at *; simp [a2, b2], by simp only [wts, Mi.wt] at *; omega, ?_⟩
    simp only [PyData.depth, PyData.depthAll, a4, b4]
    omega
  · obtain ⟨a1, a2, a3, a4⟩ := lit_facts "call" (by decide)
    obtain ⟨b1, b2, b3, b4⟩ := arg_facts (d := .str x) (by simp [isArg, isName_s hx])
    have he : ∀ e ∈ es, Tm e ∧ vis e = true ∧ wt e ≤ 82 ∧ e.depth = 0 := fun e he => arg_facts (List.all_eq_true.mp h3 e he)
    have hd : PyData.depthAll es ≤ 0 := depthAll_le.mpr fun e h => by rw [(he e h).2.2.2]; omega
    have ht : Tm (.tuple es) := Tm.of_tuple (by omega) (fun e h => (he e h).1) fun e h => by rw [(he e h).2.2.2]; omega
    have hw := wts_le fun e h => (he e h).2.2.1
    have hv : viss es = true := viss_mem.mpr fun e h => (he e h).2.1
    refine ⟨Tm.of_tuple (by simp) (by simp [a1, b1, ht]) ?_, ?_, ?_, ?_⟩
    · simp only [List.mem_cons, List.not_mem_nil, or_false]
      rintro d (rfl | rfl | rfl)
      · rw [a4]; omega
      · rw [b4]; omega
      · simp only [PyData.depth]; omega
    · simp only [vis, viss] at *
      simp [a2, b2, hv]
    · simp only [wts, Mi.wt] at *
      omega
    · simp only [PyData.depth, PyData.depthAll] at *
      omega
theorem it_body {ds : List PyData} (hl : ds.length ≤ 7) (h : isBody 3 (.tuple ds) = true) : It (.tuple ds) := by
  simp only [isBody, Bool.and_eq_true, List.all_eq_true] at h
  have hs : ∀ d ∈ ds, Tm d ∧ vis d = true ∧ wt d ≤ 500 ∧ d.depth ≤ 2 := fun d hd => step_facts (h.1 d hd)
  refine ⟨.inl (Tm.of_tuple (by omega) (fun d hd => (hs d hd).1) fun d hd => Nat.le_trans (hs d hd).2.2.2 (by decide)), ?_, ?_, ?_, fun es e => by cases e; omega⟩
  · simp only [vis]
    exact viss_mem.mpr fun d hd => (hs d hd).2.1
  · have := wts_le fun d hd => (hs d hd).2.2.1
    simp only [Mi.wt]
    omega
  · simp only [PyData.depth]
    have := depthAll_le.mpr fun d hd => (hs d hd).2.2.2
    omega
theorem it_int {i : Int} (h0 : 0 ≤ i) (h1 : i ≤ 3) : It (.int i) := by
  have : i = 0 ∨ i = 1 ∨ i = 2 ∨ i = 3 := by omega
  rcases this with rfl | rfl | rfl | rfl <;> exact ⟨.inl (Tm.of_int _), by decide +kernel, by decide +kernel, by decide +kernel, fun es e => by cases e⟩
theorem it_lit (s : String) (h : s.length ≤ 10) : It (.str s) := by
  obtain ⟨a1, a2, a3, a4⟩ := lit_facts s h
  exact ⟨.inl a1, a2, by omega, by omega, fun es e => by cases e⟩
/-! how long an act's text is -/
theorem sum_len {xs : List Str} {k : Nat} (h : ∀ x ∈ xs, x.length ≤ k) {n : Nat} (hl : xs.length ≤ n) : sumLen xs + xs.length ≤ n * (k + 1) := by
  have h1 := sum_le h
  have h2 : xs.length * (k + 1) ≤ n * (k + 1) := Nat.mul_le_mul_right _ hl
  rw [Nat.mul_succ] at h2
  omega
theorem body_text {ds : List PyData} {k : Nat} (hl : ds.length ≤ k) (h : isBody 3 (.tuple ds) = true) : (wBody (.tuple ds)).length ≤ 62 * k + 1 := by
  simp only [isBody, Bool.and_eq_true, List.all_eq_true] at h
  simp only [wBody]
  split
  · rw [l_minus]; omega
  · refine Nat.le_trans (join_len _ _) ?_
    have h2 := sum_le (k := 60) (xs := ds.map wStep) fun y hy => by
      obtain ⟨e, he, rfl⟩ := List.mem_map.mp hy
      exact wStep_len (h.1 e he)
    rw [List.length_map] at h2 ⊢
    rw [l_semi]
    omega
theorem isOp_parts {w : Str} {ps : List PyData} (h : isOp (.tuple (.str w :: ps)) = true) : ∃ ks, partsOf w = some ks ∧ ps.length = ks.length ∧ ∀ q ∈ ks.zip ps, isPart q.1 q.2 = true := by
  obtain ⟨w', ps', ks, e, h1, h2, h3⟩ := isOp_shape h
  cases e
  exact ⟨ks, h1, h2, h3⟩
theorem op_text {d : PyData} (k : Nat) (h : isOp d = true) (hn : ∀ ds, d = .tuple ds → ∀ e ∈ ds, ∀ es, e = .tuple es → es.length ≤ k) : (wOp d).length ≤ 80 * k + 67 := by
  obtain ⟨w, ps, ks, rfl, hp, hl, hz⟩ := isOp_shape h
  have hn := hn _ rfl
  have hw := kinds_len hp
  have hpart : ∀ q ∈ ks.zip ps, sumLen (wWords q.1 q.2) + (wWords q.1 q.2).length ≤ (if q.1 = "body" then 62 * k + 2 else 9 * k + 28) := by
    rintro ⟨kd, p⟩ hq
    obtain ⟨h1, h2⟩ := List.of_mem_zip hq
    have hk := parts_kinds hp kd h1
    have hpp := hz _ hq
    have hnn := hn p (List.mem_cons_of_mem _ h2)
    simp only [List.mem_cons, List.not_mem_nil, or_false] at hk
    rcases hk with rfl | rfl | rfl | rfl | rfl
    · have : (txS p).length ≤ 8 := len_txS (isPart_name hpp)
      simp [wWords, n_name_superclasses, n_name_count, n_name_point, n_name_body, n_superclasses_name, n_superclasses_count, n_superclasses_point, n_superclasses_body, n_count_name, n_count_superclasses, n_count_point, n_count_body, n_point_name, n_point_superclasses, n_point_count, n_point_body, n_body_name, n_body_superclasses, n_body_count, n_body_point, sumLen]
      omega
    · obtain ⟨es, rfl, he⟩ := names_tup (isPart_supers hpp)
      have := hnn es rfl
      have := names_sum he
      simp only [wWords, if_true, List.length_map, n_name_superclasses, n_name_count, n_name_point, n_name_body, n_superclasses_name, n_superclasses_count, n_superclasses_point, n_superclasses_body, n_count_name, n_count_superclasses, n_count_point, n_count_body, n_point_name, n_point_superclasses, n_point_count, n_point_body, n_body_name, n_body_superclasses, n_body_count, n_body_point, if_false]
      omega
    · obtain ⟨i, rfl, h0, h1⟩ := count_int (isPart_count hpp)
      have hil : (txS (.int i)).length ≤ 1 := by
        have : i = 1 ∨ i = 2 ∨ i = 3 := by omega
        rcases this with rfl | rfl | rfl <;> decide +kernel
      simp [wWords, n_name_superclasses, n_name_count, n_name_point, n_name_body, n_superclasses_name, n_superclasses_count, n_superclasses_point, n_superclasses_body, n_count_name, n_count_superclasses, n_count_point, n_count_body, n_point_name, n_point_superclasses, n_point_count, n_point_body, n_body_name, n_body_superclasses, n_body_count, n_body_point, sumLen]
      omega
    · obtain ⟨es, rfl, he, hel⟩ := point_tup (isPart_point hpp)
      have := names_sum he
      have hpl : (wPoint (.tuple es)).length ≤ 27 := by
        refine Nat.le_trans (join_len _ _) ?_
        rw [l_comma, List.length_map]
        omega
      simp [wWords, n_name_superclasses, n_name_count, n_name_point, n_name_body, n_superclasses_name, n_superclasses_count, n_superclasses_point, n_superclasses_body, n_count_name, n_count_superclasses, n_count_point, n_count_body, n_point_name, n_point_superclasses, n_point_count, n_point_body, n_body_name, n_body_superclasses, n_body_count, n_body_point, sumLen]
      omega
    · have hb := isPart_body hpp
      cases p with
      | tuple ds =>
        have := body_text (hnn ds rfl) hb
        simp [wWords, n_name_superclasses, n_name_count, n_name_point, n_name_body, n_superclasses_name, n_superclasses_count, n_superclasses_point, n_superclasses_body, n_count_name, n_count_superclasses, n_count_point, n_count_body, n_point_name, n_point_superclasses, n_point_count, n_point_body, n_body_name, n_body_superclasses, n_body_count, n_body_point, sumLen]
        omega
      | _ => cases hb
  have htot : sumLen ((ks.zip ps).flatMap fun q => wWords q.1 q.2) + ((ks.zip ps).flatMap fun q => wWords q.1 q.2).length ≤ 80 * k + 58 := by
    rcases parts_shape hp with rfl | rfl | rfl | rfl | rfl
    · match ps, hl with
      | [a], _ =>
        have h1 := hpart ("name", a) (by simp)
        simp only [n_name_superclasses, n_name_count, n_name_point, n_name_body, n_superclasses_name, n_superclasses_count, n_superclasses_point, n_superclasses_body, n_count_name, n_count_superclasses, n_count_point, n_count_body, n_point_name, n_point_superclasses, n_point_count, n_point_body, n_body_name, n_body_superclasses, n_body_count, n_body_point, if_false] at h1
        simp only [List.zip_cons_cons, List.zip_nil_right, List.flatMap_cons, List.flatMap_nil, List.append_nil]
        omega
    · match ps, hl with
      | [a, b], _ =>
        have h1 := hpart ("name", a) (by simp)
        have h2 := hpart ("superclasses", b) (by simp)
        simp only [n_name_superclasses, n_name_count, n_name_point, n_name_body, n_superclasses_name, n_superclasses_count, n_superclasses_point, n_superclasses_body, n_count_name, n_count_superclasses, n_count_point, n_count_body, n_point_name, n_point_superclasses, n_point_count, n_point_body, n_body_name, n_body_superclasses, n_body_count, n_body_point, if_false] at h1 h2
        simp only [List.zip_cons_cons, List.zip_nil_right, List.flatMap_cons, List.flatMap_nil, List.append_nil, sumLen_app, List.length_append]
        omega
    · match ps, hl with
      | [a, b], _ =>
        have h1 := hpart ("name", a) (by simp)
        have h2 := hpart ("count", b) (by simp)
        simp only [n_name_superclasses, n_name_count, n_name_point, n_name_body, n_superclasses_name, n_superclasses_count, n_superclasses_point, n_superclasses_body, n_count_name, n_count_superclasses, n_count_point, n_count_body, n_point_name, n_point_superclasses, n_point_count, n_point_body, n_body_name, n_body_superclasses, n_body_count, n_body_point, if_false] at h1 h2
        simp only [List.zip_cons_cons, List.zip_nil_right, List.flatMap_cons, List.flatMap_nil, List.append_nil, sumLen_app, List.length_append]
        omega
    · match ps, hl with
      | [a, b], _ =>
        have h1 := hpart ("name", a) (by simp)
        have h2 := hpart ("point", b) (by simp)
        simp only [n_name_superclasses, n_name_count, n_name_point, n_name_body, n_superclasses_name, n_superclasses_count, n_superclasses_point, n_superclasses_body, n_count_name, n_count_superclasses, n_count_point, n_count_body, n_point_name, n_point_superclasses, n_point_count, n_point_body, n_body_name, n_body_superclasses, n_body_count, n_body_point, if_false] at h1 h2
        simp only [List.zip_cons_cons, List.zip_nil_right, List.flatMap_cons, List.flatMap_nil, List.append_nil, sumLen_app, List.length_append]
        omega
    · match ps, hl with
      | [a, b, c], _ =>
        have h1 := hpart ("name", a) (by simp)
        have h2 := hpart ("point", b) (by simp)
        have h3 := hpart ("body", c) (by simp)
        simp only [n_name_superclasses, n_name_count, n_name_point, n_name_body, n_superclasses_name, n_superclasses_count, n_superclasses_point, n_superclasses_body, n_count_name, n_count_superclasses, n_count_point, n_count_body, n_point_name, n_point_superclasses, n_point_count, n_point_body, n_body_name, n_body_superclasses, n_body_count, n_body_point, if_false, if_true] at h1 h2 h3
        simp only [List.zip_cons_cons, List.zip_nil_right, List.flatMap_cons, List.flatMap_nil, List.append_nil, sumLen_app, List.length_append]
        omega
  simp only [wOp, hp, Option.getD_some]
  refine Nat.le_trans (join_len _ _) ?_
  simp only [sumLen, List.length_cons, l_space]
  omega
theorem th_tuple {ds : List PyData} (hl : ds.length ≤ 6) (h : ∀ d ∈ ds, It d) : Th (.tuple ds) := by
  have hv : vis (.tuple ds) = true := by
    simp only [vis]
    exact viss_mem.mpr fun d hd => (h d hd).vi
  have hw := wts_le fun d hd => (h d hd).wt
  have hd := depthAll_le.mpr fun d hd => (h d hd).dp
  refine ⟨fun es e => ?_, show_ok hv (by simp only [Mi.wt]; omega) (by simp only [PyData.depth]; omega), (vis_ok hv).2.1, fun ho => Nat.le_trans (op_text 8 ho fun es e => ?_) (by decide)⟩
  · cases e
    exact ⟨by omega, fun d hd => (h d hd).tm⟩
  · cases e
    exact fun d hd => (h d hd).nw
theorem th_list {ds : List PyData} (hl : ds.length ≤ 6) (h : ∀ d ∈ ds, It d) : Th (.list ds) := by
  have hv : vis (.list ds) = true := by
    simp only [vis]
    exact viss_mem.mpr fun d hd => (h d hd).vi
  have hw := wts_le fun d hd => (h d hd).wt
  have hd := depthAll_le.mpr fun d hd => (h d hd).dp
  exact ⟨fun es e => (by cases e), show_ok hv (by simp only [Mi.wt]; omega) (by simp only [PyData.depth]; omega), (vis_ok hv).2.1, fun ho => (by cases ho)⟩
/-! closed things -/
def itB (d : PyData) : Bool := ((d.canLay0 && smD d) || (match d with
  | .dict _ => true
  | _ => false)) && vis d && decide (wt d ≤ 4000) && decide (d.depth ≤ 6) && (match d with
  | .tuple es => decide (es.length ≤ 8)
  | _ => true)
theorem itB_ok {d : PyData} (h : itB d = true) : It d := by
  simp only [itB, Bool.and_eq_true, Bool.or_eq_true, decide_eq_true_eq] at h
  obtain ⟨⟨⟨⟨h1, h2⟩, h3⟩, h4⟩, h5⟩ := h
  refine ⟨?_, h2, h3, h4, fun es e => ?_⟩
  · rcases h1 with h1 | h1
    · exact .inl ⟨h1.1, h1.2, by omega⟩
    · cases d with
      | dict k => exact .inr ⟨k, rfl⟩
      | _ => simp at h1
  · subst e
    simpa using h5
def thB : PyData → Bool
  | .tuple ds => decide (ds.length ≤ 6) && ds.all itB
  | d => itB d
theorem thB_ok {d : PyData} (h : thB d = true) : Th d := by
  cases d with
  | tuple ds =>
    simp only [thB, Bool.and_eq_true, decide_eq_true_eq, List.all_eq_true] at h
    exact th_tuple h.1 fun d hd => itB_ok (h.2 d hd)
  | _ =>
    have hi := itB_ok (show itB _ = true from h)
    exact ⟨fun es e => (by cases e), show_ok hi.vi (by have := hi.wt; omega) (by have := hi.dp; omega), (vis_ok hi.vi).2.1, fun ho => (by cases ho)⟩
end Gw
/-! Gw: acts drawn -/
namespace Gw
open PySem Mi Op
/-- an act that is drawn -/
structure Ac (ds : List PyData) : Prop where
  op : isOp (.tuple ds) = true
  lo : 2 ≤ ds.length
  hi : ds.length ≤ 4
  it : ∀ d ∈ ds, It d
  n5 : ∀ d ∈ ds, ∀ es, d = .tuple es → es.length ≤ 5
theorem tup_it {ds : List PyData} (h : ds.all isName = true) (hl : ds.length ≤ 8) : It (.tuple ds) := by
  have := it_names (xs := ds.map txS) (by simpa using hl) fun x hx => by
    obtain ⟨e, he, rfl⟩ := List.mem_map.mp hx
    obtain ⟨y, rfl, hy⟩ := isName_eq (List.all_eq_true.mp h e he)
    exact hy
  rwa [names_str2 h] at this
theorem ixl_1 (m : Sto) (a d : PyData) (ds : List PyData) : ixW m (.dat (.list (a :: d :: ds))) (wI 1) = some (.dat d) := ixl_nat (k := 1) rfl
section
variable {P : Str → Option Df} {B : Fe} (Y : HasG P)
include Y
set_option maxHeartbeats 8000000 in
theorem free_actL (n : Nat) (m : Sto) (i : Nat) (a b : Int) (hi : i < m.length) : ∃ (ds : List PyData) (a' b' : Int), callN P B (n + 5) "_law_free_act" [.ref i] (m.set i (pc a b)) = .ok (.dat (.tuple ds)) (m.set i (pc a' b')) ∧ Ac ds := by
  suffices h : (callN P B (n + 5) "_law_free_act" [.ref i] (m.set i (pc a b))).to fun w m' => ∃ (d : List PyData) (a' b' : Int), w = .dat (.tuple d) ∧ m' = m.set i (pc a' b') ∧ Ac d by
    obtain ⟨w, m', e, x, a', b', rfl, rfl, h⟩ := Res.to_eq h
    exact ⟨x, a', b', e, h⟩
  rw [callN_at Y.l_law_free_act]
  obtain ⟨x, a1, b1, e1, hx⟩ := nameL (B := B) Y (n + 2) m i a b hi
  obtain ⟨y, a2, b2, e2, hy⟩ := nameL (B := B) Y (n + 2) m i a1 b1 hi
  obtain ⟨r, a3, b3, e3, r0, r1⟩ := drawL (B := B) Y (n + 3) 3 m i a2 b2 hi (by decide) (by decide)
  have hit := iter_rng (m.set i (pc a3 b3)) (k := 1 + r) (by omega) (by omega)
  have hkl : (1 + r).toNat ≤ lim := by
    show _ ≤ 1000000
    omega
  have l2 : 2 ≤ lim := by decide
  have l3 : 3 ≤ lim := by decide
  have l4 : 4 ≤ lim := by decide
  have lw : mkL [wS y, wS "a"] = .dat (.list [.str y, .str "a"]) := mkL_map [.str y, .str "a"]
  simp only [d_law_free_act, bodyN, List.length_cons, List.length_nil, decide_true]
  refine fin_to ?_
  simp [bd_law_free_act, bodyN, evSs, evS, evE, evC, evO, getV, isiW, tyOf, isiT, biW_len, lenW_str, lenW_tuple, lenW_list, cmp_le, cmp_lt, cmp_gt, cmp_ge, cmp_in, cmp_nin, cmp_eq, cmp_ne, in_str, intOf, asT, asTs, lcGo, gOk_nil, sl_tuple, sl_list, setAll, e1, e2, e3, lw, l2, add_i, hit, hkl]
  refine SR.to_then (Res.to_st (Res.to_bind (Res.to_bind (Res.to_bind (Res.to_calm (Res.to_mono (lcGo_pot (Q := fun d => isName d = true) (fun x _ a b => ?_) _ _) ?_))))))
  · obtain ⟨z, a4, b4, e4, hz⟩ := nameL (B := B) Y (n + 2) m i a b hi
    simp [getV, e4, isName_s hz]
    exact ⟨_, _, rfl⟩
  · rintro ys m' ⟨ps, a4, b4, rfl, rfl, hl, hq⟩
    have hl : ps.length = (1 + r).toNat := by simpa using hl
    have hpn : ps.all isName = true := List.all_eq_true.mpr hq
    have hpp : isPoint (.tuple ps) = true := by
      simp only [isPoint, Bool.and_eq_true, decide_eq_true_eq]
      exact ⟨⟨hpn, by omega⟩, by omega⟩
    have hpi : It (.tuple ps) := tup_it hpn (by omega)
    obtain ⟨k, a5, b5, e5, k0, k1⟩ := drawL (B := B) Y (n + 3) 8 m i a4 b4 hi (by decide) (by decide)
    obtain ⟨ds, a6, b6, e6, hb, hbl⟩ := any_bodyL (B := B) Y n m i a5 b5 hi y hy
    have hbi : It (.tuple ds) := it_body (by omega) hb
    have hxi : It (.str x) := it_name hx
    have hxn : isName (.str x) = true := hx
    have hk : k = 0 ∨ k = 1 ∨ k = 2 ∨ k = 3 ∨ k = 4 ∨ k = 5 ∨ k = 6 ∨ k = 7 := by omega
    rcases hk with rfl | rfl | rfl | rfl | rfl | rfl | rfl | rfl
    · obtain ⟨t, a7, b7, e7, t0, t1⟩ := drawL (B := B) Y (n + 3) 4 m i a6 b6 hi (by decide) (by decide)
      obtain ⟨xs, a8, b8, e8, hxl, hxs⟩ := namesL (B := B) Y (n + 1) m i a7 b7 t hi t0 (by omega)
      have hac : Ac [.str "class", .str x, .tuple (xs.map .str)] := by
        have hi2 := it_names (xs := xs) (by omega) hxs
        refine ⟨?_, by simp, by simp, ?_, ?_⟩
        · simp [isOp, p_class, isPart, n_name_superclasses, n_name_count, n_name_point, n_name_body, n_superclasses_name, n_superclasses_count, n_superclasses_point, n_superclasses_body, n_count_name, n_count_superclasses, n_count_point, n_count_body, n_point_name, n_point_superclasses, n_point_count, n_point_body, n_body_name, n_body_superclasses, n_body_count, n_body_point, hxn, isNames]
          exact fun z hz => hxs z hz
        · simp only [List.mem_cons, List.not_mem_nil, or_false]
          rintro d (rfl | rfl | rfl)
          · exact it_lit "class" (by decide)
          · exact hxi
          · exact hi2
        · simp only [List.mem_cons, List.not_mem_nil, or_false]
          rintro d (rfl | rfl | rfl) es e <;> cases e
          all_goals first | (simp only [List.length_map]; omega) | omega
      simp [mkL_map, biW_tuple_l, getV, setAll, e5, e6, e7, e8, bodyN, evSs, evS, evE, evC, evO, getV, isiW, tyOf, isiT, biW_len, lenW_str, lenW_tuple, lenW_list, cmp_le, cmp_lt, cmp_gt, cmp_ge, cmp_in, cmp_nin, cmp_eq, cmp_ne, in_str, intOf, asT, asTs, lcGo, gOk_nil, sl_tuple, sl_list, eqX_int, mkT, datAll, l3]
      exact ⟨⟨_, _, rfl⟩, hac⟩
    · have hac : Ac [.str "remove", .str x] := by
        refine ⟨?_, by simp, by simp, ?_, ?_⟩
        · simp [isOp, p_remove, isPart, n_name_superclasses, n_name_count, n_name_point, n_name_body, n_superclasses_name, n_superclasses_count, n_superclasses_point, n_superclasses_body, n_count_name, n_count_superclasses, n_count_point, n_count_body, n_point_name, n_point_superclasses, n_point_count, n_point_body, n_body_name, n_body_superclasses, n_body_count, n_body_point, hxn]
        · simp only [List.mem_cons, List.not_mem_nil, or_false]
          rintro d (rfl | rfl)
          · exact it_lit "remove" (by decide)
          · exact hxi
        · simp only [List.mem_cons, List.not_mem_nil, or_false]
          rintro d (rfl | rfl) es e <;> cases e
          all_goals first | (simp only [List.length_map]; omega) | omega
      have hix := ixl_0 (m.set i (pc a6 b6)) (.str "remove") [.str "reduce"]
      have hml : mkL [wS "remove", wS "reduce"] = .dat (.list [.str "remove", .str "reduce"]) := mkL_map [.str "remove", .str "reduce"]
      simp [mkL_map, biW_tuple_l, getV, setAll, e5, e6, bodyN, evSs, evS, evE, evC, evO, getV, isiW, tyOf, isiT, biW_len, lenW_str, lenW_tuple, lenW_list, cmp_le, cmp_lt, cmp_gt, cmp_ge, cmp_in, cmp_nin, cmp_eq, cmp_ne, in_str, intOf, asT, asTs, lcGo, gOk_nil, sl_tuple, sl_list, eqX_int, mkT, datAll, hml, l2, sub_i, hix]
      exact ⟨⟨_, _, rfl⟩, hac⟩
    · have hac : Ac [.str "reduce", .str x] := by
        refine ⟨?_, by simp, by simp, ?_, ?_⟩
        · simp [isOp, p_reduce, isPart, n_name_superclasses, n_name_count, n_name_point, n_name_body, n_superclasses_name, n_superclasses_count, n_superclasses_point, n_superclasses_body, n_count_name, n_count_superclasses, n_count_point, n_count_body, n_point_name, n_point_superclasses, n_point_count, n_point_body, n_body_name, n_body_superclasses, n_body_count, n_body_point, hxn]
        · simp only [List.mem_cons, List.not_mem_nil, or_false]
          rintro d (rfl | rfl)
          · exact it_lit "reduce" (by decide)
          · exact hxi
        · simp only [List.mem_cons, List.not_mem_nil, or_false]
          rintro d (rfl | rfl) es e <;> cases e
          all_goals first | (simp only [List.length_map]; omega) | omega
      have hix := ixl_1 (m.set i (pc a6 b6)) (.str "remove") (.str "reduce") []
      have hml : mkL [wS "remove", wS "reduce"] = .dat (.list [.str "remove", .str "reduce"]) := mkL_map [.str "remove", .str "reduce"]
      simp [mkL_map, biW_tuple_l, getV, setAll, e5, e6, bodyN, evSs, evS, evE, evC, evO, getV, isiW, tyOf, isiT, biW_len, lenW_str, lenW_tuple, lenW_list, cmp_le, cmp_lt, cmp_gt, cmp_ge, cmp_in, cmp_nin, cmp_eq, cmp_ne, in_str, intOf, asT, asTs, lcGo, gOk_nil, sl_tuple, sl_list, eqX_int, mkT, datAll, hml, l2, sub_i, hix]
      exact ⟨⟨_, _, rfl⟩, hac⟩
    · obtain ⟨t, a7, b7, e7, t0, t1⟩ := drawL (B := B) Y (n + 3) 3 m i a6 b6 hi (by decide) (by decide)
      have hac : Ac [.str "function", .str x, .int (1 + t)] := by
        refine ⟨?_, by simp, by simp, ?_, ?_⟩
        · have c1 : isCount (.int (1 + t)) = true := by
            simp only [isCount, Bool.and_eq_true, decide_eq_true_eq]
            omega
          simp [isOp, p_function, isPart, n_name_superclasses, n_name_count, n_name_point, n_name_body, n_superclasses_name, n_superclasses_count, n_superclasses_point, n_superclasses_body, n_count_name, n_count_superclasses, n_count_point, n_count_body, n_point_name, n_point_superclasses, n_point_count, n_point_body, n_body_name, n_body_superclasses, n_body_count, n_body_point, hxn, c1]
        · simp only [List.mem_cons, List.not_mem_nil, or_false]
          rintro d (rfl | rfl | rfl)
          · exact it_lit "function" (by decide)
          · exact hxi
          · exact it_int (by omega) (by omega)
        · simp only [List.mem_cons, List.not_mem_nil, or_false]
          rintro d (rfl | rfl | rfl) es e <;> cases e
          all_goals first | (simp only [List.length_map]; omega) | omega
      simp [mkL_map, biW_tuple_l, getV, setAll, e5, e6, e7, bodyN, evSs, evS, evE, evC, evO, getV, isiW, tyOf, isiT, biW_len, lenW_str, lenW_tuple, lenW_list, cmp_le, cmp_lt, cmp_gt, cmp_ge, cmp_in, cmp_nin, cmp_eq, cmp_ne, in_str, intOf, asT, asTs, lcGo, gOk_nil, sl_tuple, sl_list, eqX_int, mkT, datAll, l3, add_i]
      exact ⟨⟨_, _, rfl⟩, hac⟩
    · have hac : Ac [.str "drop", .str x, .tuple ps] := by
        refine ⟨?_, by simp, by simp, ?_, ?_⟩
        · simp [isOp, p_drop, isPart, n_name_superclasses, n_name_count, n_name_point, n_name_body, n_superclasses_name, n_superclasses_count, n_superclasses_point, n_superclasses_body, n_count_name, n_count_superclasses, n_count_point, n_count_body, n_point_name, n_point_superclasses, n_point_count, n_point_body, n_body_name, n_body_superclasses, n_body_count, n_body_point, hxn, hpp, -List.all_eq_true]
        · simp only [List.mem_cons, List.not_mem_nil, or_false]
          rintro d (rfl | rfl | rfl)
          · exact it_lit "drop" (by decide)
          · exact hxi
          · exact hpi
        · simp only [List.mem_cons, List.not_mem_nil, or_false]
          rintro d (rfl | rfl | rfl) es e <;> cases e
          all_goals first | (simp only [List.length_map]; omega) | omega
      have hix := ixl_0 (m.set i (pc a6 b6)) (.str "drop") [.str "watch"]
      have hml : mkL [wS "drop", wS "watch"] = .dat (.list [.str "drop", .str "watch"]) := mkL_map [.str "drop", .str "watch"]
      simp [mkL_map, biW_tuple_l, getV, setAll, e5, e6, bodyN, evSs, evS, evE, evC, evO, getV, isiW, tyOf, isiT, biW_len, lenW_str, lenW_tuple, lenW_list, cmp_le, cmp_lt, cmp_gt, cmp_ge, cmp_in, cmp_nin, cmp_eq, cmp_ne, in_str, intOf, asT, asTs, lcGo, gOk_nil, sl_tuple, sl_list, eqX_int, mkT, datAll, hml, l2, l3, sub_i, hix]
      exact ⟨⟨_, _, rfl⟩, hac⟩
    · have hac : Ac [.str "watch", .str x, .tuple ps] := by
        refine ⟨?_, by simp, by simp, ?_, ?_⟩
        · simp [isOp, p_watch, isPart, n_name_superclasses, n_name_count, n_name_point, n_name_body, n_superclasses_name, n_superclasses_count, n_superclasses_point, n_superclasses_body, n_count_name, n_count_superclasses, n_count_point, n_count_body, n_point_name, n_point_superclasses, n_point_count, n_point_body, n_body_name, n_body_superclasses, n_body_count, n_body_point, hxn, hpp, -List.all_eq_true]
        · simp only [List.mem_cons, List.not_mem_nil, or_false]
          rintro d (rfl | rfl | rfl)
          · exact it_lit "watch" (by decide)
          · exact hxi
          · exact hpi
        · simp only [List.mem_cons, List.not_mem_nil, or_false]
          rintro d (rfl | rfl | rfl) es e <;> cases e
          all_goals first | (simp only [List.length_map]; omega) | omega
      have hix := ixl_1 (m.set i (pc a6 b6)) (.str "drop") (.str "watch") []
      have hml : mkL [wS "drop", wS "watch"] = .dat (.list [.str "drop", .str "watch"]) := mkL_map [.str "drop", .str "watch"]
      simp [mkL_map, biW_tuple_l, getV, setAll, e5, e6, bodyN, evSs, evS, evE, evC, evO, getV, isiW, tyOf, isiT, biW_len, lenW_str, lenW_tuple, lenW_list, cmp_le, cmp_lt, cmp_gt, cmp_ge, cmp_in, cmp_nin, cmp_eq, cmp_ne, in_str, intOf, asT, asTs, lcGo, gOk_nil, sl_tuple, sl_list, eqX_int, mkT, datAll, hml, l2, l3, sub_i, hix]
      exact ⟨⟨_, _, rfl⟩, hac⟩
    · have hac : Ac [.str "define", .str x, .tuple ps, .tuple ds] := by
        refine ⟨?_, by simp, by simp, ?_, ?_⟩
        · simp [isOp, p_define, isPart, n_name_superclasses, n_name_count, n_name_point, n_name_body, n_superclasses_name, n_superclasses_count, n_superclasses_point, n_superclasses_body, n_count_name, n_count_superclasses, n_count_point, n_count_body, n_point_name, n_point_superclasses, n_point_count, n_point_body, n_body_name, n_body_superclasses, n_body_count, n_body_point, hxn, hpp, hb]
        · simp only [List.mem_cons, List.not_mem_nil, or_false]
          rintro d (rfl | rfl | rfl | rfl)
          · exact it_lit "define" (by decide)
          · exact hxi
          · exact hpi
          · exact hbi
        · simp only [List.mem_cons, List.not_mem_nil, or_false]
          rintro d (rfl | rfl | rfl | rfl) es e <;> cases e
          all_goals first | (simp only [List.length_map]; omega) | omega
      have hix := ixl_0 (m.set i (pc a6 b6)) (.str "define") [.str "decide"]
      have hml : mkL [wS "define", wS "decide"] = .dat (.list [.str "define", .str "decide"]) := mkL_map [.str "define", .str "decide"]
      simp [mkL_map, biW_tuple_l, getV, setAll, e5, e6, bodyN, evSs, evS, evE, evC, evO, getV, isiW, tyOf, isiT, biW_len, lenW_str, lenW_tuple, lenW_list, cmp_le, cmp_lt, cmp_gt, cmp_ge, cmp_in, cmp_nin, cmp_eq, cmp_ne, in_str, intOf, asT, asTs, lcGo, gOk_nil, sl_tuple, sl_list, eqX_int, mkT, datAll, hml, l2, l4, sub_i, hix]
      exact ⟨⟨_, _, rfl⟩, hac⟩
    · have hac : Ac [.str "decide", .str x, .tuple ps, .tuple ds] := by
        refine ⟨?_, by simp, by simp, ?_, ?_⟩
        · simp [isOp, p_decide, isPart, n_name_superclasses, n_name_count, n_name_point, n_name_body, n_superclasses_name, n_superclasses_count, n_superclasses_point, n_superclasses_body, n_count_name, n_count_superclasses, n_count_point, n_count_body, n_point_name, n_point_superclasses, n_point_count, n_point_body, n_body_name, n_body_superclasses, n_body_count, n_body_point, hxn, hpp, hb]
        · simp only [List.mem_cons, List.not_mem_nil, or_false]
          rintro d (rfl | rfl | rfl | rfl)
          · exact it_lit "decide" (by decide)
          · exact hxi
          · exact hpi
          · exact hbi
        · simp only [List.mem_cons, List.not_mem_nil, or_false]
          rintro d (rfl | rfl | rfl | rfl) es e <;> cases e
          all_goals first | (simp only [List.length_map]; omega) | omega
      have hix := ixl_1 (m.set i (pc a6 b6)) (.str "define") (.str "decide") []
      have hml : mkL [wS "define", wS "decide"] = .dat (.list [.str "define", .str "decide"]) := mkL_map [.str "define", .str "decide"]
      simp [mkL_map, biW_tuple_l, getV, setAll, e5, e6, bodyN, evSs, evS, evE, evC, evO, getV, isiW, tyOf, isiT, biW_len, lenW_str, lenW_tuple, lenW_list, cmp_le, cmp_lt, cmp_gt, cmp_ge, cmp_in, cmp_nin, cmp_eq, cmp_ne, in_str, intOf, asT, asTs, lcGo, gOk_nil, sl_tuple, sl_list, eqX_int, mkT, datAll, hml, l2, l4, sub_i, hix]
      exact ⟨⟨_, _, rfl⟩, hac⟩
end
end Gw
/-! Gw: scripts -/
namespace Gw
open PySem Mi Op
theorem add_list {m : Sto} {as bs : List PyData} (h : as.length + bs.length ≤ 1000000) : binW .add (.dat (.list as)) (.dat (.list bs)) m = some (.dat (.list (as ++ bs))) := by
  show (if (as.map W.dat).length + (bs.map W.dat).length ≤ lim then some (mkL (as.map W.dat ++ bs.map W.dat)) else none) = _
  rw [List.length_map, List.length_map, if_pos (show as.length + bs.length ≤ lim from h), ← List.map_append, mkL_map]
theorem asg0 {F : Fe} {σ : En} {m : Sto} {i : Nat} {e : Ex} {w : W} (h : evE F e σ m = .ok w m) : evS F (.asg (.nm i) e) σ m = .nx (σ.set i (some w)) m := by
  show ((evE F e σ m).st σ fun w m => asT F (.nm i) w σ m) = _
  rw [h]
  rfl
theorem asg1 {F : Fe} {σ : En} {m : Sto} {i : Nat} {e : Ex} {as bs : List PyData} (h : evE F e σ m = .ok (.dat (.list bs)) m) (hv : getV σ i = some (.dat (.list as))) (hl : as.length + bs.length ≤ 1000000) : evS F (.asg (.nm i) (.bin .add (.var i) e)) σ m = .nx (σ.set i (some (.dat (.list (as ++ bs))))) m := by
  refine asg0 ?_
  show ((lift (getV σ i) m).bind fun x m => (evE F e σ m).bind fun y m => lift (binW .add x y m) m) = _
  rw [hv, lift_some, bind_ok, h, bind_ok, add_list hl, lift_some]
theorem cutD_take (ds : List PyData) (i : Nat) : cutD ds none (some (i : Int)) = ds.take i := by
  unfold cutD
  rw [HT.sIx_nat, HT.sIx_none, List.drop_zero]
  by_cases h : i ≤ ds.length
  · rw [Nat.min_eq_left h]
    simp
  · rw [Nat.min_eq_right (by omega)]
    simp
    rw [List.take_of_length_le (by omega)]
theorem mkT_one (d : PyData) : mkT [.dat d] = .dat (.tuple [d]) := mkT_map [d]
theorem lc_data {F : Fe} {σ : En} {m : Sto} {i : Nat} {it e : Ex} {ds : List PyData} {g : PyData → PyData} (h1 : evE F it σ m = .ok (.dat (.list ds)) m) (hl : ds.length ≤ 1000000) (h2 : ∀ d ∈ ds, evE F e ((σ.set i none).set i (some (.dat d))) m = .ok (.dat (g d)) m) : evE F (.lc false [i] [i] it [] e) σ m = .ok (.dat (.list (ds.map g))) m := by
  have hl : ds.length ≤ lim := hl
  rw [evE, h1]
  simp only [bind_ok, iterOf_list, lift_some, List.length_map, decide_eq_true hl, grds_dat]
  rw [lcGo_mapF (v := fun d => .dat (g d)) (gOk_nil _) fun d hd => by
    simp only [wipe_one, bindT_one, lift_some, bind_ok, evC, h2 d hd]]
  rw [calm_ok, bind_ok, newL_f, mkL_dat]
theorem ix_scr {m : Sto} {ns : List Int} {k : Int} (h0 : 0 ≤ k) (h1 : k < ns.length) : ∃ c, ixW m (.scr ns) (wI k) = some (wI c) := by
  obtain ⟨j, rfl⟩ := Int.eq_ofNat_of_zero_le h0
  have hj : j < ns.length := by omega
  refine ⟨ns[j], ?_⟩
  show (L2.atI ns j).map wI = _
  rw [atI_k (x := ns[j]) (by simp [hj])]
  rfl
theorem len_scr (m : Sto) (ns : List Int) : lenW m (.scr ns) = some ns.length := rfl
theorem abs_i (m : Sto) (i : Int) : biW .abs [wI i] m = some (wI (if i < 0 then -i else i)) := rfl
theorem max_i (m : Sto) (i j : Int) : biW .max [wI i, wI j] m = some (wI (if j > i then j else i)) := rfl
theorem min_i (m : Sto) (i j : Int) : biW .min [wI i, wI j] m = some (wI (if j < i then j else i)) := rfl
theorem pow_18 (m : Sto) : binW .pow (wI 10) (wI 18) m = some (wI 1000000000000000000) := by kernel_rfl
section
variable {P : Str → Option Df} {B : Fe} (Y : HasG P)
include Y
set_option maxHeartbeats 8000000 in
theorem potL (n : Nat) (m : Sto) (ns : List Int) (k : Int) (h0 : 0 ≤ k) : ∃ a b, callN P B (n + 1) "_law_pot" [.scr ns, wI k] m = .ok (.ref m.length) (m ++ [pc a b]) := by
  rw [callN_at Y.l_law_pot]
  have s1 : small 48271 = true := by decide
  have s2 : small 60013 = true := by decide
  have l2 : 2 ≤ lim := by decide
  by_cases h : k < ns.length
  · obtain ⟨c, e1⟩ := ix_scr (m := m) h0 h
    simp [d_law_pot, bd_law_pot, bodyN, evSs, evS, evE, evC, evO, getV, isiW, tyOf, isiT, fin, cutR, biW_len, lenW_str, lenW_tuple, lenW_list, cmp_le, cmp_lt, cmp_gt, cmp_ge, cmp_in, cmp_nin, cmp_eq, cmp_ne, in_str, intOf, asT, asTs, lcGo, gOk_nil, sl_tuple, sl_list, len_scr, h, e1, abs_i, pow_18, sub_i, max_i, mod_p, mul_r s1, mul_l s2, add_i, l2, pc]
  · simp [d_law_pot, bd_law_pot, bodyN, evSs, evS, evE, evC, evO, getV, isiW, tyOf, isiT, fin, cutR, biW_len, lenW_str, lenW_tuple, lenW_list, cmp_le, cmp_lt, cmp_gt, cmp_ge, cmp_in, cmp_nin, cmp_eq, cmp_ne, in_str, intOf, asT, asTs, lcGo, gOk_nil, sl_tuple, sl_list, len_scr, h, abs_i, pow_18, sub_i, max_i, mod_p, mul_r s1, mul_l s2, add_i, l2, pc]
end
end Gw
/-! Lw: the law's own defs. -/
namespace Lw
open PySem Mi Op Gw
def bd_law_step_read : List Mi.St := [.asg (.nm 1) (.met .split (.var 0) [.con (.str " ")]),
    .ifs (.cmp .eq (.var 1) (.lst false [.con (.str "next")])) [.ret (.tup [.con (.str "next")])] [],
    .ifs (.and (.cmp .eq (.bi .len [.var 1]) (.con (.int 2))) (.and (.cmp .eq (.ix (.var 1) (.con (.int 0))) (.con (.str "say"))) (.call "_law_is_good" [.ix (.var 1) (.con (.int 1))]))) [.ret (.tup [.con (.str "say"), .ix (.var 1) (.con (.int 1))])] [],
    .ifs (.or (.cmp .ne (.bi .len [.var 1]) (.con (.int 3))) (.or (.cmp .ne (.ix (.var 1) (.con (.int 0))) (.con (.str "call"))) (.not (.call "_law_is_good" [.ix (.var 1) (.con (.int 1))])))) [.ret (.con .none)] [],
    .asg (.nm 2) (.lst true []),
    .fors [3] (.met .split (.ix (.var 1) (.con (.int 2))) [.con (.str ",")]) [.ifs (.and (.cmp .notin (.var 3) (.lst false [.con (.str "0"), .con (.str "1"), .con (.str "2")])) (.not (.call "_law_is_good" [.var 3]))) [.ret (.con .none)] [],
    .ex (.met .append (.var 2) [.ite (.call "_law_is_good" [.var 3]) (.var 3) (.bi .int [.var 3])])],
    .ret (.ite (.cmp .lt (.bi .len [.var 2]) (.con (.int 4))) (.tup [.con (.str "call"), .ix (.var 1) (.con (.int 1)), .bi .tuple [.var 2]]) (.con .none))]
def d_law_step_read : Df := ⟨1, 4, true, bd_law_step_read⟩
def bd_law_body_read : List Mi.St := [.ifs (.cmp .eq (.var 0) (.con (.str "-"))) [.ret (.tup [])] [],
    .asg (.nm 1) (.lc false [2] [2] (.met .split (.var 0) [.con (.str "; ")]) [] (.call "_law_step_read" [.var 2])),
    .ifs (.or (.cmp .isin (.con .none) (.var 1)) (.cmp .gt (.bi .len [.lc false [3] [3] (.var 1) [.cmp .eq (.var 3) (.tup [.con (.str "next")])] (.var 3)]) (.con (.int 1)))) [.ret (.con .none)] [],
    .ret (.bi .tuple [.var 1])]
def d_law_body_read : Df := ⟨1, 4, false, bd_law_body_read⟩
def bd_law_spot_read : List Mi.St := [.asg (.nm 1) (.bi .tuple [.met .split (.var 0) [.con (.str ",")]]),
    .ret (.ite (.and (.cmp .lt (.bi .len [.var 1]) (.con (.int 4))) (.bi .all [.lc false [2] [2] (.var 1) [] (.call "_law_is_good" [.var 2])])) (.var 1) (.con .none))]
def d_law_spot_read : Df := ⟨1, 3, false, bd_law_spot_read⟩
def bd_law_act_read : List Mi.St := [.asg (.nm 1) (.met .split (.var 0) [.con (.str " ")]),
    .ifs (.or (.cmp .lt (.bi .len [.var 1]) (.con (.int 2))) (.not (.call "_law_is_good" [.ix (.var 1) (.con (.int 1))]))) [.ret (.con .none)] [],
    .ifs (.cmp .eq (.ix (.var 1) (.con (.int 0))) (.con (.str "class"))) [.ret (.ite (.bi .all [.lc false [4] [4] (.sl (.var 1) (some (.con (.int 2))) none) [] (.call "_law_is_good" [.var 4])]) (.tup [.con (.str "class"), .ix (.var 1) (.con (.int 1)), .bi .tuple [.sl (.var 1) (some (.con (.int 2))) none]]) (.con .none))] [],
    .ifs (.cmp .isin (.ix (.var 1) (.con (.int 0))) (.lst false [.con (.str "remove"), .con (.str "reduce")])) [.ret (.ite (.cmp .eq (.bi .len [.var 1]) (.con (.int 2))) (.tup [.ix (.var 1) (.con (.int 0)), .ix (.var 1) (.con (.int 1))]) (.con .none))] [],
    .ifs (.or (.cmp .lt (.bi .len [.var 1]) (.con (.int 3))) (.and (.cmp .gt (.bi .len [.var 1]) (.con (.int 3))) (.cmp .notin (.ix (.var 1) (.con (.int 0))) (.lst false [.con (.str "define"), .con (.str "decide")])))) [.ret (.con .none)] [],
    .ifs (.cmp .eq (.ix (.var 1) (.con (.int 0))) (.con (.str "function"))) [.ret (.ite (.cmp .isin (.ix (.var 1) (.con (.int 2))) (.lst false [.con (.str "1"), .con (.str "2"), .con (.str "3")])) (.tup [.con (.str "function"), .ix (.var 1) (.con (.int 1)), .bi .int [.ix (.var 1) (.con (.int 2))]]) (.con .none))] [],
    .asg (.nm 2) (.call "_law_spot_read" [.ix (.var 1) (.con (.int 2))]),
    .ifs (.or (.cmp .isn (.var 2) (.con .none)) (.cmp .notin (.ix (.var 1) (.con (.int 0))) (.lst false [.con (.str "drop"), .con (.str "watch"), .con (.str "define"), .con (.str "decide")]))) [.ret (.con .none)] [],
    .ifs (.cmp .isin (.ix (.var 1) (.con (.int 0))) (.lst false [.con (.str "drop"), .con (.str "watch")])) [.ret (.tup [.ix (.var 1) (.con (.int 0)), .ix (.var 1) (.con (.int 1)), .var 2])] [],
    .asg (.nm 3) (.ite (.cmp .gt (.bi .len [.var 1]) (.con (.int 3))) (.call "_law_body_read" [.met .join (.con (.str " ")) [.sl (.var 1) (some (.con (.int 3))) none]]) (.con .none)),
    .ret (.ite (.cmp .isn (.var 3) (.con .none)) (.con .none) (.tup [.ix (.var 1) (.con (.int 0)), .ix (.var 1) (.con (.int 1)), .var 2, .var 3]))]
def d_law_act_read : Df := ⟨1, 5, false, bd_law_act_read⟩
def bd_law_told : List Mi.St := [.asg (.nm 1) (.con (.str "other")),
    .tryx [.asg (.nm 1) (.call "read_operation" [.var 0])] "InvalidText" 2 [(1, .ite (.and (.isx "MethodsError") (.not (.isx "InvalidOperation"))) (.fld "line") (.con (.str "other")))],
    .ret (.var 1)]
def d_law_told : Df := ⟨1, 3, false, bd_law_told⟩
def bd_law_right : List Mi.St := [.asg (.nm 1) (.con (.int 0)),
    .ifs (.isi (.var 0) [.str]) [.asg (.nm 2) (.call "_law_act_read" [.var 0]),
    .asg (.nm 1) (.ite (.cmp .isn (.var 2) (.con .none)) (.con (.int 1)) (.var 2))] [],
    .asg (.nm 3) (.call "_law_told" [.var 0]),
    .ifs (.cmp .ne (.bi .repr [.var 3]) (.bi .repr [.var 1])) [.ret (.con (.bool false))] [],
    .ret (.or (.not (.isi (.var 1) [.tuple])) (.and (.call "is_operation" [.var 3]) (.cmp .eq (.call "write_operation" [.var 3]) (.var 0))))]
def d_law_right : Df := ⟨1, 4, false, bd_law_right⟩
def bd_law_spoilt_words : List Mi.St := [.asg (.nm 2) (.met .splitB (.var 1) [.con (.str " ")]),
    .par [3, 4, 5] [.call "_law_draw" [.var 0, .bi .len [.var 2]], .call "_law_draw" [.var 0, .bi .len [.var 2]], .call "_law_draw" [.var 0, .con (.int 5)]],
    .asg (.nm 6) (.lst false [.con (.str ""), .con (.str "-"), .con (.str "a"), .con (.str "next"), .con (.str "say"), .con (.str "0"), .con (.str "01"), .con (.str "4"), .con (.str "a,b"), .con (.str "a,"), .con (.str "next;"), .con (.str "class"), .con (.str "call"), .con (.str "undo")]),
    .asg (.nm 7) (.ix (.var 6) (.call "_law_draw" [.var 0, .con (.int 14)])),
    .ifs (.cmp .eq (.var 5) (.con (.int 0))) [.unp [.ix (.var 2) (.var 3), .ix (.var 2) (.var 4)] (.tup [.ix (.var 2) (.var 4), .ix (.var 2) (.var 3)])] [.ifs (.cmp .eq (.var 5) (.con (.int 1))) [.ex (.met .insert (.var 2) [.var 3, .ix (.var 2) (.var 4)])] [.ifs (.cmp .eq (.var 5) (.con (.int 2))) [.ex (.met .pop (.var 2) [.var 3])] [.asg (.ix (.var 2) (.var 3)) (.ite (.cmp .eq (.var 5) (.con (.int 3))) (.var 7) (.bin .add (.ix (.var 2) (.var 3)) (.var 7)))]]],
    .ret (.met .join (.con (.str " ")) [.var 2])]
def d_law_spoilt_words : Df := ⟨2, 8, true, bd_law_spoilt_words⟩
def bd_law_spoilt : List Mi.St := [.par [2, 3, 4] [.call "_law_draw" [.var 0, .con (.int 7)], .call "_law_draw" [.var 0, .bin .add (.bi .len [.var 1]) (.con (.int 1))], .ix (.con (.str "abnx ;,-0129A.+")) (.call "_law_draw" [.var 0, .con (.int 15)])],
    .ifs (.cmp .eq (.var 2) (.con (.int 0))) [.ret (.bin .add (.bin .add (.sl (.var 1) none (some (.var 3))) (.var 4)) (.sl (.var 1) (some (.var 3)) none))] [],
    .ifs (.cmp .eq (.var 2) (.con (.int 1))) [.ret (.bin .add (.bin .add (.sl (.var 1) none (some (.var 3))) (.var 4)) (.sl (.var 1) (some (.bin .add (.var 3) (.con (.int 1)))) none))] [],
    .ifs (.cmp .eq (.var 2) (.con (.int 2))) [.ret (.bin .add (.sl (.var 1) none (some (.var 3))) (.sl (.var 1) (some (.bin .add (.var 3) (.con (.int 1)))) none))] [],
    .ifs (.cmp .eq (.var 2) (.con (.int 3))) [.ret (.ix (.lst false [.bin .add (.var 1) (.con (.str "\n")), .bin .add (.var 1) (.con (.str " ")), .bin .add (.con (.str " ")) (.var 1), .bin .add (.var 1) (.con (.str "; ")), .bin .add (.var 1) (.con (.str "; next")), .bin .add (.var 1) (.con (.str " a"))]) (.bin .mod (.var 3) (.con (.int 6))))] [],
    .ret (.call "_law_spoilt_words" [.var 0, .var 1])]
def d_law_spoilt : Df := ⟨2, 5, false, bd_law_spoilt⟩
def bdlaw : List Mi.St := [.fors [1] (.itRng (.bi .max [.con (.int 1), .bi .min [.bi .len [.var 0], .con (.int 4)]])) [.asg (.nm 2) (.call "_law_pot" [.var 0, .var 1]),
    .fors [3] (.itRng (.con (.int 5))) [.asg (.nm 4) (.call "_law_written" [.call "_law_free_act" [.var 2]]),
    .fors [5] (.itRng (.con (.int 4))) [.ifs (.not (.call "_law_right" [.var 4])) [.ret (.con (.bool false))] [],
    .asg (.nm 4) (.call "_law_spoilt" [.var 2, .var 4])]]],
    .asg (.nm 6) (.lst false [.con .none, .con (.int 0), .con (.int 1), .con (.bool true), .lst false [], .tup [], .dic0, .tup [.con (.str "class"), .con (.str "a"), .tup []], .lst false [.con (.str "class a")], .con (.str ""), .con (.str " "), .con (.str "class"), .con (.str "class a"), .con (.str "define a a")]),
    .ret (.bi .all [.lc false [7] [7] (.var 6) [] (.call "_law_right" [.var 7])])]
def dlaw : Df := ⟨1, 8, true, bdlaw⟩
structure HasL (P : Str → Option Df) extends HasG P where
  l_law_step_read : P "_law_step_read" = some d_law_step_read
  l_law_body_read : P "_law_body_read" = some d_law_body_read
  l_law_spot_read : P "_law_spot_read" = some d_law_spot_read
  l_law_act_read : P "_law_act_read" = some d_law_act_read
  l_law_told : P "_law_told" = some d_law_told
  l_law_right : P "_law_right" = some d_law_right
  l_law_spoilt_words : P "_law_spoilt_words" = some d_law_spoilt_words
  l_law_spoilt : P "_law_spoilt" = some d_law_spoilt
  llaw : P "law" = some dlaw
end Lw
/-! Lw: the law's own reading, in plain Lean. -/
namespace Lw
open PySem Mi Op Gw
def g012 (w : Str) : Bool := decide (w = "0") || decide (w = "1") || decide (w = "2")
def gOk (w : Str) : Bool := g012 w || nameS w
def gItem (w : Str) : PyData := if nameS w then .str w else .int (numV w)
def gStepL : List Str → PyData
  | [a] => if a = "next" then .tuple [.str "next"] else .none
  | [a, b] => if a = "say" ∧ nameS b = true then .tuple [.str "say", .str b] else .none
  | [a, b, c] => if a = "call" ∧ nameS b = true ∧ (Txt.split c ",").all gOk = true ∧ (Txt.split c ",").length < 4 then .tuple [.str "call", .str b, .tuple ((Txt.split c ",").map gItem)] else .none
  | _ => .none
def gStep (x : Str) : PyData := gStepL (Txt.split x " ")
def isNo : PyData → Bool
  | .none => true
  | _ => false
def gBodyL (ds : List PyData) : PyData := if ds.any isNo = true ∨ 1 < ds.countP isNext then .none else .tuple ds
def gBody (x : Str) : PyData := if x = "-" then .tuple [] else gBodyL ((Txt.split x "; ").map gStep)
def gSpot (x : Str) : PyData := if (Txt.split x ",").length < 4 ∧ (Txt.split x ",").all nameS = true then .tuple ((Txt.split x ",").map .str) else .none
def k123 (w : Str) : Bool := decide (w = "1") || decide (w = "2") || decide (w = "3")
def gTail (a b c : Str) (s : List Str) : PyData :=
  if a = "function" then (if k123 c = true then .tuple [.str "function", .str b, .int (numV c)] else .none)
  else if isNo (gSpot c) = true ∨ ¬ (a = "drop" ∨ a = "watch" ∨ a = "define" ∨ a = "decide") then .none
  else if a = "drop" ∨ a = "watch" then .tuple [.str a, .str b, gSpot c]
  else if s = [] then .none else if isNo (gBody (Txt.join " " s)) = true then .none else .tuple [.str a, .str b, gSpot c, gBody (Txt.join " " s)]
def gAct3 (a b : Str) : List Str → PyData
  | [] => .none
  | c :: s => if s ≠ [] ∧ ¬ (a = "define" ∨ a = "decide") then .none else gTail a b c s
def gActL : List Str → PyData
  | a :: b :: r => if nameS b = true then (if a = "class" then (if r.all nameS = true then .tuple [.str "class", .str b, .tuple (r.map .str)] else .none)
    else if a = "remove" ∨ a = "reduce" then (if r = [] then .tuple [.str a, .str b] else .none)
    else gAct3 a b r) else .none
  | _ => .none
def gAct (x : Str) : PyData := gActL (Txt.split x " ")
/-! ### items, steps -/
theorem g012_cases {w : Str} (h : g012 w = true) : w = "0" ∨ w = "1" ∨ w = "2" := by
  simpa [g012, or_assoc] using h
theorem d_not_name : ∀ i : Fin 4, nameS (toString (i.val : Int)) = false := by decide +kernel
theorem item_ok {w : Str} (h : gOk w = true) : isArg (gItem w) = true ∧ txS (gItem w) = w := by
  cases q : nameS w with
  | true => simp [gItem, q, isArg, isName, txS]
  | false =>
    simp only [gOk, q, Bool.or_false] at h
    rcases g012_cases h with rfl | rfl | rfl <;> refine ⟨?_, ?_⟩ <;> (simp only [gItem, q, if_false, Bool.false_eq_true]; decide +kernel)
theorem item_of {d : PyData} (h : isArg d = true) : gOk (txS d) = true ∧ gItem (txS d) = d := by
  simp only [isArg, Bool.or_eq_true] at h
  rcases h with h | h
  · obtain ⟨x, rfl, hx⟩ := isName_eq h
    simp [gOk, gItem, txS, hx]
  · obtain ⟨i, rfl, h0, h1⟩ := isIdx_eq h
    rcases idx_text h0 h1 with rfl | rfl | rfl <;> refine ⟨by decide +kernel, ?_⟩ <;> rw [gItem, if_neg (by decide +kernel)] <;> congr 1 <;> decide +kernel
theorem step_sound {x : Str} (h : isNo (gStep x) = false) : isStep 3 (gStep x) = true ∧ wStep (gStep x) = x := by
  have hj := Sp.join_split x " "
  unfold gStep at h ⊢
  generalize Txt.split x " " = l at h hj
  subst hj
  unfold gStepL at h ⊢
  split at h
  · rename_i a
    split at h
    · rename_i q
      subst q
      rw [if_pos rfl]
      exact ⟨by simp [isStep, isS], rfl⟩
    · cases h
  · rename_i a b
    split at h
    · rename_i q
      obtain ⟨rfl, hb⟩ := q
      rw [if_pos ⟨rfl, hb⟩]
      exact ⟨by simp [isStep, isS, isName, hb], rfl⟩
    · cases h
  · rename_i a b c
    split at h
    · rename_i q
      rw [if_pos q]
      obtain ⟨rfl, hb, h1, h2⟩ := q
      have hc := Sp.join_split c ","
      have hne := split_ne c "," l_comma1 k_comma
      generalize Txt.split c "," = ws at h1 h2 hc hne
      subst hc
      have hl : 1 ≤ ws.length := List.length_pos_iff.mpr hne
      have hi : ∀ w ∈ ws, isArg (gItem w) = true ∧ txS (gItem w) = w := fun w hw => item_ok (List.all_eq_true.mp h1 w hw)
      refine ⟨?_, ?_⟩
      · have hall : ((ws.map gItem).all fun d => isName d || isIdx 3 d) = true := by
          rw [List.all_eq_true]
          intro d hd
          obtain ⟨w, hw, rfl⟩ := List.mem_map.mp hd
          exact (hi w hw).1
        simp only [isStep, isArgs, List.length_map, Bool.and_eq_true, decide_eq_true_eq]
        exact ⟨⟨by simp [isS], hb⟩, ⟨hl, by omega⟩, hall⟩
      · simp only [wStep, txS, List.map_map]
        rw [map_id_of (f := txS ∘ gItem) fun w hw => (hi w hw).2]
    · cases h
  · cases h
theorem step_compl {d : PyData} (h : isStep 3 d = true) : gStep (wStep d) = d := by
  rcases step_cases h with rfl | ⟨x, rfl, hx⟩ | ⟨x, es, rfl, hx, h1, h2, h3⟩
  · have e : wStep (.tuple [.str "next"]) = Txt.join " " ["next"] := rfl
    have hs : Txt.split (Txt.join " " ["next"]) " " = (["next"] : List Str) := sj_space (by simp) (by decide +kernel)
    rw [e, gStep, hs]
    simp [gStepL]
  · have e : wStep (.tuple [.str "say", .str x]) = Txt.join " " ["say", x] := rfl
    have hs : Txt.split (Txt.join " " ["say", x]) " " = (["say", x] : List Str) := sj_space (by simp) (by
      simp only [List.mem_cons, List.not_mem_nil, or_false]
      rintro y (rfl | rfl)
      · exact fr_sp fr_say
      · exact fr_sp (fr_name hx))
    rw [e, gStep, hs]
    simp [gStepL, hx]
  · have e : wStep (.tuple [.str "call", .str x, .tuple es]) = Txt.join " " ["call", x, Txt.join "," (es.map txS)] := rfl
    have hs : Txt.split (Txt.join " " ["call", x, Txt.join "," (es.map txS)]) " " = (["call", x, Txt.join "," (es.map txS)] : List Str) := sj_space (by simp) (by
      simp only [List.mem_cons, List.not_mem_nil, or_false]
      rintro y (rfl | rfl | rfl)
      · exact fr_sp fr_call
      · exact fr_sp (fr_name hx)
      · exact args_free (.inl rfl) h3)
    have hc : Txt.split (Txt.join "," (es.map txS)) "," = es.map txS := sj_comma (by
      intro q
      rw [List.map_eq_nil_iff] at q
      subst q
      simp at h1) (by
      intro y hy
      obtain ⟨e, he, rfl⟩ := List.mem_map.mp hy
      exact fr_cm (fr_arg (List.all_eq_true.mp h3 e he)))
    have hall : (es.map txS).all gOk = true := by
      rw [List.all_eq_true]
      intro d hd
      obtain ⟨w, hw, rfl⟩ := List.mem_map.mp hd
      exact (item_of (List.all_eq_true.mp h3 w hw)).1
    rw [e, gStep, hs]
    simp only [gStepL, hc]
    rw [if_pos ⟨trivial, hx, hall, by rw [List.length_map]; omega⟩, List.map_map, map_id_of (f := gItem ∘ txS) fun a ha => (item_of (List.all_eq_true.mp h3 a ha)).2]
/-! ### bodies -/
theorem body_sound {x : Str} (h : isNo (gBody x) = false) : isBody 3 (gBody x) = true ∧ wBody (gBody x) = x := by
  unfold gBody at h ⊢
  split at h
  · rename_i q
    rw [if_pos q]
    exact ⟨by simp [isBody], by simp [wBody, q]⟩
  · rename_i q
    rw [if_neg q]
    unfold gBodyL at h ⊢
    split at h
    · cases h
    · rename_i q2
      rw [if_neg q2]
      rw [not_or, Bool.not_eq_true, Nat.not_lt] at q2
      have hj := Sp.join_split x "; "
      have hne := split_ne x "; " l_semi1 k_semi
      generalize Txt.split x "; " = ws at q2 hj hne
      subst hj
      have hi : ∀ w ∈ ws, isStep 3 (gStep w) = true ∧ wStep (gStep w) = w := fun w hw => step_sound (by
        have := List.any_eq_false.mp q2.1 (gStep w) (List.mem_map_of_mem hw)
        simpa using this)
      refine ⟨?_, ?_⟩
      · simp only [isBody, Bool.and_eq_true, decide_eq_true_eq]
        refine ⟨?_, q2.2⟩
        rw [List.all_eq_true]
        intro d hd
        obtain ⟨w, hw, rfl⟩ := List.mem_map.mp hd
        exact (hi w hw).1
      · simp only [wBody, List.map_eq_nil_iff, hne, if_false, List.map_map]
        rw [map_id_of (f := wStep ∘ gStep) fun w hw => (hi w hw).2]
theorem step_no {d : PyData} (h : isStep 3 d = true) : isNo d = false := by
  cases d <;> first | rfl | cases h
theorem body_compl {d : PyData} (h : isBody 3 d = true) : gBody (wBody d) = d := by
  cases d with
  | tuple ds =>
    simp only [isBody, Bool.and_eq_true, decide_eq_true_eq] at h
    obtain ⟨h, hn2⟩ := h
    simp only [wBody]
    by_cases hn : ds = []
    · simp [hn, gBody]
    · rw [if_neg hn]
      have hs : Txt.split (Txt.join "; " (ds.map wStep)) "; " = ds.map wStep := sj_semi (by simpa using hn) (by
        intro x hx
        obtain ⟨e, he, rfl⟩ := List.mem_map.mp hx
        exact (step_read (List.all_eq_true.mp h e he)).2.1)
      have hne : ¬ Txt.join "; " (ds.map wStep) = "-" := by
        intro q
        rw [q] at hs
        have h2 : Txt.split ("-" : Str) "; " = (["-"] : List Str) := by decide +kernel
        rw [h2] at hs
        cases ds with
        | nil => exact hn rfl
        | cons d ds =>
          rw [List.map_cons, List.cons.injEq] at hs
          have := (step_read (List.all_eq_true.mp h d (by simp))).2.2
          rw [← hs.1, l_minus] at this
          omega
      rw [gBody, if_neg hne, hs, List.map_map, map_id_of (f := gStep ∘ wStep) fun a ha => step_compl (List.all_eq_true.mp h a ha)]
      unfold gBodyL
      rw [if_neg]
      rw [not_or, Bool.not_eq_true, Nat.not_lt]
      refine ⟨?_, hn2⟩
      rw [List.any_eq_false]
      intro d hd
      rw [step_no (List.all_eq_true.mp h d hd)]
      simp
  | _ => cases h
theorem spot_sound {x : Str} (h : isNo (gSpot x) = false) : isPoint (gSpot x) = true ∧ wPoint (gSpot x) = x := by
  unfold gSpot at h ⊢
  split at h
  · rename_i q
    rw [if_pos q]
    have hj := Sp.join_split x ","
    have hne := split_ne x "," l_comma1 k_comma
    generalize Txt.split x "," = ws at q hj hne
    subst hj
    have hl : 1 ≤ ws.length := List.length_pos_iff.mpr hne
    refine ⟨?_, ?_⟩
    · simp only [isPoint, Bool.and_eq_true, decide_eq_true_eq, List.length_map]
      refine ⟨⟨?_, hl⟩, by omega⟩
      rw [List.all_map]
      exact q.2
    · simp only [wPoint, List.map_map]
      rw [map_id_of (f := txS ∘ PyData.str) fun w _ => rfl]
  · cases h
theorem spot_compl {d : PyData} (h : isPoint d = true) : gSpot (wPoint d) = d := by
  obtain ⟨ds, rfl, h1, h2⟩ := point_tup h
  simp only [isPoint, Bool.and_eq_true, decide_eq_true_eq] at h
  have hs : Txt.split (Txt.join "," (ds.map txS)) "," = ds.map txS := sj_comma (by
    intro q
    rw [List.map_eq_nil_iff] at q
    subst q
    simp at h) fun x hx => fr_cm (names_fr h1 x hx)
  have hall : (ds.map txS).all nameS = true := by
    rw [List.all_eq_true]
    intro w hw
    obtain ⟨e, he, rfl⟩ := List.mem_map.mp hw
    obtain ⟨x, rfl, hx⟩ := isName_eq (List.all_eq_true.mp h1 e he)
    exact hx
  simp only [gSpot, wPoint, hs]
  rw [if_pos ⟨by rw [List.length_map]; omega, hall⟩, names_str2 h1]
end Lw
/-! Lw: the law's own reading of an act, in plain Lean. -/
namespace Lw
open PySem Mi Op Gw
theorem k123_cases {w : Str} (h : k123 w = true) : w = "1" ∨ w = "2" ∨ w = "3" := by
  simpa [k123, or_assoc] using h
theorem count_ok {w : Str} (h : k123 w = true) : isCount (.int (numV w)) = true ∧ txS (.int (numV w)) = w := by
  rcases k123_cases h with rfl | rfl | rfl <;> constructor <;> decide +kernel
theorem count_of {d : PyData} (h : isCount d = true) : k123 (txS d) = true ∧ .int (numV (txS d)) = d := by
  obtain ⟨i, rfl, h0, h1⟩ := count_int h
  have : i = 1 ∨ i = 2 ∨ i = 3 := by omega
  rcases this with rfl | rfl | rfl <;> refine ⟨by decide +kernel, ?_⟩ <;> congr 1 <;> decide +kernel
theorem wOp1 {w : Str} {a : PyData} (hp : partsOf w = some (["name"] : List Str)) : wOp (.tuple [.str w, a]) = Txt.join " " [w, txS a] := by
  simp only [wOp, hp, Option.getD_some, List.zip_cons_cons, List.zip_nil_right, List.flatMap_cons, List.flatMap_nil, wWords, n_name_superclasses, n_name_count, n_name_point, n_name_body, n_superclasses_name, n_superclasses_count, n_superclasses_point, n_superclasses_body, n_count_name, n_count_superclasses, n_count_point, n_count_body, n_point_name, n_point_superclasses, n_point_count, n_point_body, n_body_name, n_body_superclasses, n_body_count, n_body_point, if_false, List.append_nil]
theorem wOpS {w : Str} {a b : PyData} (hp : partsOf w = some (["name", "superclasses"] : List Str)) : wOp (.tuple [.str w, a, b]) = Txt.join " " (w :: txS a :: wWords "superclasses" b) := by
  simp only [wOp, hp, Option.getD_some, List.zip_cons_cons, List.zip_nil_right, List.flatMap_cons, List.flatMap_nil, List.append_nil]
  rw [show wWords "name" a = [txS a] by simp only [wWords, n_name_superclasses, n_name_count, n_name_point, n_name_body, n_superclasses_name, n_superclasses_count, n_superclasses_point, n_superclasses_body, n_count_name, n_count_superclasses, n_count_point, n_count_body, n_point_name, n_point_superclasses, n_point_count, n_point_body, n_body_name, n_body_superclasses, n_body_count, n_body_point, if_false]]
  rfl
theorem wOpC {w : Str} {a b : PyData} (hp : partsOf w = some (["name", "count"] : List Str)) : wOp (.tuple [.str w, a, b]) = Txt.join " " [w, txS a, txS b] := by
  simp only [wOp, hp, Option.getD_some, List.zip_cons_cons, List.zip_nil_right, List.flatMap_cons, List.flatMap_nil, wWords, n_name_superclasses, n_name_count, n_name_point, n_name_body, n_superclasses_name, n_superclasses_count, n_superclasses_point, n_superclasses_body, n_count_name, n_count_superclasses, n_count_point, n_count_body, n_point_name, n_point_superclasses, n_point_count, n_point_body, n_body_name, n_body_superclasses, n_body_count, n_body_point, if_false, List.append_nil, List.cons_append, List.nil_append]
theorem wOpP {w : Str} {a b : PyData} (hp : partsOf w = some (["name", "point"] : List Str)) : wOp (.tuple [.str w, a, b]) = Txt.join " " [w, txS a, wPoint b] := by
  simp only [wOp, hp, Option.getD_some, List.zip_cons_cons, List.zip_nil_right, List.flatMap_cons, List.flatMap_nil, wWords, n_name_superclasses, n_name_count, n_name_point, n_name_body, n_superclasses_name, n_superclasses_count, n_superclasses_point, n_superclasses_body, n_count_name, n_count_superclasses, n_count_point, n_count_body, n_point_name, n_point_superclasses, n_point_count, n_point_body, n_body_name, n_body_superclasses, n_body_count, n_body_point, if_false, if_true, List.append_nil, List.cons_append, List.nil_append]
theorem wOpB {w : Str} {a b c : PyData} (hp : partsOf w = some (["name", "point", "body"] : List Str)) : wOp (.tuple [.str w, a, b, c]) = Txt.join " " [w, txS a, wPoint b, wBody c] := by
  simp only [wOp, hp, Option.getD_some, List.zip_cons_cons, List.zip_nil_right, List.flatMap_cons, List.flatMap_nil, wWords, n_name_superclasses, n_name_count, n_name_point, n_name_body, n_superclasses_name, n_superclasses_count, n_superclasses_point, n_superclasses_body, n_count_name, n_count_superclasses, n_count_point, n_count_body, n_point_name, n_point_superclasses, n_point_count, n_point_body, n_body_name, n_body_superclasses, n_body_count, n_body_point, if_false, if_true, List.append_nil, List.cons_append, List.nil_append]
theorem op1 {w : Str} {a : PyData} (hp : partsOf w = some (["name"] : List Str)) (ha : isName a = true) : isOp (.tuple [.str w, a]) = true := by
  simp [isOp, hp, isPart, ha]
theorem opS {w : Str} {a b : PyData} (hp : partsOf w = some (["name", "superclasses"] : List Str)) (ha : isName a = true) (hb : isNames b = true) : isOp (.tuple [.str w, a, b]) = true := by
  simp [isOp, hp, isPart, n_name_superclasses, n_name_count, n_name_point, n_name_body, n_superclasses_name, n_superclasses_count, n_superclasses_point, n_superclasses_body, n_count_name, n_count_superclasses, n_count_point, n_count_body, n_point_name, n_point_superclasses, n_point_count, n_point_body, n_body_name, n_body_superclasses, n_body_count, n_body_point, ha, hb]
theorem opC {w : Str} {a b : PyData} (hp : partsOf w = some (["name", "count"] : List Str)) (ha : isName a = true) (hb : isCount b = true) : isOp (.tuple [.str w, a, b]) = true := by
  simp [isOp, hp, isPart, n_name_superclasses, n_name_count, n_name_point, n_name_body, n_superclasses_name, n_superclasses_count, n_superclasses_point, n_superclasses_body, n_count_name, n_count_superclasses, n_count_point, n_count_body, n_point_name, n_point_superclasses, n_point_count, n_point_body, n_body_name, n_body_superclasses, n_body_count, n_body_point, ha, hb]
theorem opP {w : Str} {a b : PyData} (hp : partsOf w = some (["name", "point"] : List Str)) (ha : isName a = true) (hb : isPoint b = true) : isOp (.tuple [.str w, a, b]) = true := by
  simp [isOp, hp, isPart, n_name_superclasses, n_name_count, n_name_point, n_name_body, n_superclasses_name, n_superclasses_count, n_superclasses_point, n_superclasses_body, n_count_name, n_count_superclasses, n_count_point, n_count_body, n_point_name, n_point_superclasses, n_point_count, n_point_body, n_body_name, n_body_superclasses, n_body_count, n_body_point, ha, hb]
theorem opB {w : Str} {a b c : PyData} (hp : partsOf w = some (["name", "point", "body"] : List Str)) (ha : isName a = true) (hb : isPoint b = true) (hc : isBody 3 c = true) : isOp (.tuple [.str w, a, b, c]) = true := by
  simp [isOp, hp, isPart, n_name_superclasses, n_name_count, n_name_point, n_name_body, n_superclasses_name, n_superclasses_count, n_superclasses_point, n_superclasses_body, n_count_name, n_count_superclasses, n_count_point, n_count_body, n_point_name, n_point_superclasses, n_point_count, n_point_body, n_body_name, n_body_superclasses, n_body_count, n_body_point, ha, hb, hc]
theorem act_sound {x : Str} (h : isNo (gAct x) = false) : isOp (gAct x) = true ∧ wOp (gAct x) = x := by
  have hj := Sp.join_split x " "
  unfold gAct at h ⊢
  generalize Txt.split x " " = l at h hj
  subst hj
  unfold gActL at h ⊢
  split at h
  · rename_i a b r
    split at h
    · rename_i hb
      rw [if_pos hb]
      split at h
      · rename_i q
        subst q
        rw [if_pos rfl]
        split at h
        · rename_i hr
          rw [if_pos hr]
          have hn : isNames (.tuple (r.map .str)) = true := by
            show ((r.map PyData.str).all isName) = true
            rw [List.all_map]
            exact hr
          refine ⟨opS p_class hb hn, ?_⟩
          rw [wOpS p_class]
          simp only [txS, wWords, if_true, List.map_map]
          rw [map_id_of (f := txS ∘ PyData.str) fun w _ => rfl]
        · cases h
      · rename_i q
        rw [if_neg q]
        split at h
        · rename_i q2
          rw [if_pos q2]
          split at h
          · rename_i hr
            subst hr
            rw [if_pos rfl]
            have hp : partsOf a = some (["name"] : List Str) := by
              rcases q2 with rfl | rfl
              · exact p_remove
              · exact p_reduce
            exact ⟨op1 hp hb, wOp1 hp⟩
          · cases h
        · rename_i q2
          rw [if_neg q2]
          unfold gAct3 at h ⊢
          split at h
          · cases h
          · rename_i c s
            split at h
            · cases h
            · rename_i q3
              simp only [if_neg q3]
              unfold gTail at h ⊢
              split at h
              · rename_i q4
                subst q4
                rw [if_pos rfl]
                split at h
                · rename_i hc
                  rw [if_pos hc]
                  obtain ⟨c1, c2⟩ := count_ok hc
                  have hs : s = [] := by
                    cases s with
                    | nil => rfl
                    | cons u v => exact absurd ⟨by simp, by simp [ofS_inj]⟩ q3
                  subst hs
                  refine ⟨opC p_function hb c1, ?_⟩
                  rw [wOpC p_function, c2]
                  rfl
                · cases h
              · rename_i q4
                rw [if_neg q4]
                split at h
                · cases h
                · rename_i q5
                  rw [if_neg q5]
                  rw [not_or, Bool.not_eq_true, Classical.not_not] at q5
                  obtain ⟨s1, s2⟩ := spot_sound q5.1
                  split at h
                  · rename_i q6
                    rw [if_pos q6]
                    have hs : s = [] := by
                      cases s with
                      | nil => rfl
                      | cons u v =>
                        refine absurd ⟨by simp, ?_⟩ q3
                        rcases q6 with rfl | rfl <;> simp [ofS_inj]
                    subst hs
                    have hp : partsOf a = some (["name", "point"] : List Str) := by
                      rcases q6 with rfl | rfl
                      · exact p_drop
                      · exact p_watch
                    refine ⟨opP hp hb s1, ?_⟩
                    rw [wOpP hp, s2]
                    rfl
                  · rename_i q6
                    rw [if_neg q6]
                    split at h
                    · cases h
                    · rename_i q7
                      rw [if_neg q7]
                      split at h
                      · cases h
                      · rename_i q8
                        rw [if_neg q8]
                        rw [Bool.not_eq_true] at q8
                        obtain ⟨b1, b2⟩ := body_sound q8
                        have hp : partsOf a = some (["name", "point", "body"] : List Str) := by
                          rcases q5.2 with rfl | rfl | rfl | rfl
                          · exact absurd (.inl rfl) q6
                          · exact absurd (.inr rfl) q6
                          · exact p_define
                          · exact p_decide
                        refine ⟨opB hp hb s1 b1, ?_⟩
                        rw [wOpB hp, s2, b2]
                        simp only [txS]
                        exact join_tail s q7
    · cases h
  · cases h
theorem point_no {d : PyData} (h : isPoint d = true) : isNo d = false := by
  cases d <;> first | rfl | cases h
theorem body_no {d : PyData} (h : isBody 3 d = true) : isNo d = false := by
  cases d <;> first | rfl | cases h
theorem act_compl {d : PyData} (h : isOp d = true) : gAct (wOp d) = d := by
  obtain ⟨w, ps, ks, rfl, hp, hl, hz⟩ := isOp_shape h
  have hw := fr_kind hp
  have hm := lookup_memA hp
  simp only [partsTab, List.mem_cons, Prod.mk.injEq, List.not_mem_nil, or_false] at hm
  have one : ∀ {a : PyData}, isName a = true → ∃ x, a = .str x ∧ nameS x = true ∧ fr x := fun ha => by
    obtain ⟨x, rfl, hx⟩ := isName_eq ha
    exact ⟨x, rfl, hx, fr_name hx⟩
  rcases hm with ⟨rfl, rfl⟩ | ⟨rfl, rfl⟩ | ⟨rfl, rfl⟩ | ⟨rfl, rfl⟩ | ⟨rfl, rfl⟩ | ⟨rfl, rfl⟩ | ⟨rfl, rfl⟩ | ⟨rfl, rfl⟩
  · match ps, hl with
    | [a, b], _ =>
      obtain ⟨x, rfl, hx, hf⟩ := one (isPart_name (hz ("name", a) (by simp)))
      have hb := isPart_supers (hz ("superclasses", b) (by simp))
      obtain ⟨es, rfl, he⟩ := names_tup hb
      have hall : (es.map txS).all nameS = true := by
        rw [List.all_eq_true]
        intro w hw
        obtain ⟨e, he2, rfl⟩ := List.mem_map.mp hw
        obtain ⟨x, rfl, hx⟩ := isName_eq (List.all_eq_true.mp he e he2)
        exact hx
      have ew : wWords "superclasses" (.tuple es) = es.map txS := by simp only [wWords, if_true]
      rw [wOpS p_class, gAct, ew, sj_space (by simp) (by
        simp only [List.mem_cons]
        rintro y (rfl | rfl | hy)
        · exact fr_sp hw
        · exact fr_sp hf
        · exact fr_sp (names_fr he y hy))]
      simp only [gActL, txS, hx, hall, if_true]
      rw [names_str2 he]
  · match ps, hl with
    | [a], _ =>
      obtain ⟨x, rfl, hx, hf⟩ := one (isPart_name (hz ("name", a) (by simp)))
      rw [wOp1 p_remove, gAct, sj_space (by simp) (by
        simp only [List.mem_cons, List.not_mem_nil, or_false]
        rintro y (rfl | rfl)
        · exact fr_sp hw
        · exact fr_sp hf)]
      simp [gActL, txS, hx, ofS_inj]
  · match ps, hl with
    | [a, b], _ =>
      obtain ⟨x, rfl, hx, hf⟩ := one (isPart_name (hz ("name", a) (by simp)))
      have hb := isPart_count (hz ("count", b) (by simp))
      obtain ⟨c1, c2⟩ := count_of hb
      rw [wOpC p_function, gAct, sj_space (by simp) (by
        simp only [List.mem_cons, List.not_mem_nil, or_false]
        rintro y (rfl | rfl | rfl)
        · exact fr_sp hw
        · exact fr_sp hf
        · exact fr_sp (count_read hb).2)]
      have e : txS (.str x) = x := rfl
      rw [e]
      simp [gActL, gAct3, gTail, hx, ofS_inj, c1, c2]
  · match ps, hl with
    | [a, b, c], _ =>
      obtain ⟨x, rfl, hx, hf⟩ := one (isPart_name (hz ("name", a) (by simp)))
      have hb := isPart_point (hz ("point", b) (by simp))
      have hc := isPart_body (hz ("body", c) (by simp))
      have hne := split_ne (wBody c) " " l_space1 k_space
      have e2 : Txt.join " " ["define", txS (.str x), wPoint b, wBody c] = Txt.join " " ("define" :: txS (.str x) :: wPoint b :: Txt.split (wBody c) " ") := by
        conv => lhs; rw [← Sp.join_split (wBody c) " "]
        exact join_tail _ hne
      have e3 : Txt.join " " (Txt.split (wBody c) " ") = wBody c := Sp.join_split _ _
      have hsf := space_free (wBody c)
      rw [wOpB p_define, gAct, e2]
      generalize Txt.split (wBody c) " " = ws at hne e3 hsf
      rw [sj_space (by simp) (by
        simp only [List.mem_cons]
        rintro y (rfl | rfl | rfl | hy)
        · exact fr_sp hw
        · exact fr_sp hf
        · exact (point_read hb).2
        · exact hsf y hy)]
      simp [gActL, gAct3, gTail, txS, hx, ofS_inj, spot_compl hb, point_no hb, hne, e3, body_compl hc, body_no hc]
  · match ps, hl with
    | [a, b], _ =>
      obtain ⟨x, rfl, hx, hf⟩ := one (isPart_name (hz ("name", a) (by simp)))
      have hb := isPart_point (hz ("point", b) (by simp))
      rw [wOpP p_drop, gAct, sj_space (by simp) (by
        simp only [List.mem_cons, List.not_mem_nil, or_false]
        rintro y (rfl | rfl | rfl)
        · exact fr_sp hw
        · exact fr_sp hf
        · exact (point_read hb).2)]
      simp [gActL, gAct3, gTail, txS, hx, ofS_inj, spot_compl hb, point_no hb]
  · match ps, hl with
    | [a, b, c], _ =>
      obtain ⟨x, rfl, hx, hf⟩ := one (isPart_name (hz ("name", a) (by simp)))
      have hb := isPart_point (hz ("point", b) (by simp))
      have hc := isPart_body (hz ("body", c) (by simp))
      have hne := split_ne (wBody c) " " l_space1 k_space
      have e2 : Txt.join " " ["decide", txS (.str x), wPoint b, wBody c] = Txt.join " " ("decide" :: txS (.str x) :: wPoint b :: Txt.split (wBody c) " ") := by
        conv => lhs; rw [← Sp.join_split (wBody c) " "]
        exact join_tail _ hne
      have e3 : Txt.join " " (Txt.split (wBody c) " ") = wBody c := Sp.join_split _ _
      have hsf := space_free (wBody c)
      rw [wOpB p_decide, gAct, e2]
      generalize Txt.split (wBody c) " " = ws at hne e3 hsf
      rw [sj_space (by simp) (by
        simp only [List.mem_cons]
        rintro y (rfl | rfl | rfl | hy)
        · exact fr_sp hw
        · exact fr_sp hf
        · exact (point_read hb).2
        · exact hsf y hy)]
      simp [gActL, gAct3, gTail, txS, hx, ofS_inj, spot_compl hb, point_no hb, hne, e3, body_compl hc, body_no hc]
  · match ps, hl with
    | [a], _ =>
      obtain ⟨x, rfl, hx, hf⟩ := one (isPart_name (hz ("name", a) (by simp)))
      rw [wOp1 p_reduce, gAct, sj_space (by simp) (by
        simp only [List.mem_cons, List.not_mem_nil, or_false]
        rintro y (rfl | rfl)
        · exact fr_sp hw
        · exact fr_sp hf)]
      simp [gActL, txS, hx, ofS_inj]
  · match ps, hl with
    | [a, b], _ =>
      obtain ⟨x, rfl, hx, hf⟩ := one (isPart_name (hz ("name", a) (by simp)))
      have hb := isPart_point (hz ("point", b) (by simp))
      rw [wOpP p_watch, gAct, sj_space (by simp) (by
        simp only [List.mem_cons, List.not_mem_nil, or_false]
        rintro y (rfl | rfl | rfl)
        · exact fr_sp hw
        · exact fr_sp hf
        · exact (point_read hb).2)]
      simp [gActL, gAct3, gTail, txS, hx, ofS_inj, spot_compl hb, point_no hb]
/-- the law's own reading is the program's -/
theorem act_read (x : Str) : gAct x = (match rOp x with
    | some d => d
    | none => .none) := by
  cases e : rOp x with
  | some d =>
    obtain ⟨h1, h2⟩ := op_of e
    rw [← h2]
    exact act_compl h1
  | none =>
    cases q : isNo (gAct x) with
    | true => cases e2 : gAct x <;> first | rfl | (rw [e2] at q; cases q)
    | false =>
      obtain ⟨h1, h2⟩ := act_sound q
      have := op_read h1
      rw [h2, e] at this
      cases this
end Lw
/-! Lw: the law's own reading, walked. -/
namespace Lw
open PySem Mi Op Gw
theorem eqW_ss {m : Sto} {a b : Str} (h1 : okS a = true) (h2 : okS b = true) : eqW m (wS a) (wS b) = some (decide (a = b)) := by
  rw [eqW_dat m _ _ (shaped_s a h1) (shaped_s b h2)]
  simp only [PyData.eqv]
  rfl
theorem sh_list {ds : List PyData} {k : Nat} (h1 : ∀ d ∈ ds, d.canLay0 = true) (h2 : ∀ d ∈ ds, d.depth ≤ k) (hk : k ≤ 10) : SeqAt.shaped (.list ds) = true := by
  have e1 : (PyData.list ds).canLay0 = true := by
    simp only [PyData.canLay0]
    exact canLayAll_mem.mpr h1
  have e2 := depthAll_le.mpr h2
  simp only [SeqAt.shaped, e1, Bool.true_and, decide_eq_true_eq, PyData.depth]
  exact decide_eq_true (by omega)
theorem sh_strs {ws : List Str} (h : ∀ w ∈ ws, okS w = true) : SeqAt.shaped (.list (ws.map .str)) = true := by
  refine sh_list (k := 0) ?_ ?_ (by decide) <;> intro d hd <;> obtain ⟨w, hw, rfl⟩ := List.mem_map.mp hd
  · simp only [PyData.canLay0, PyData.strOk]
    exact h w hw
  · simp [PyData.depth]
theorem eqX_one {m : Sto} {ws : List Str} (h : ∀ w ∈ ws, okS w = true) : eqX m (.dat (.list (ws.map .str))) (.dat (.list [.str "next"])) = some (decide (ws = (["next"] : List Str))) := by
  unfold eqX
  rw [tupOf_list]
  simp only [eqW, datOf_dat, sh_strs h, show SeqAt.shaped (.list [.str "next"]) = true by decide +kernel, Bool.and_self, if_true, Option.some.injEq]
  match ws with
  | [] => simp [PyData.eqv, PyData.eqvAll]
  | [a] => 
    simp only [List.map_cons, List.map_nil, PyData.eqv, PyData.eqvAll, Bool.and_true]
    rw [Bool.eq_iff_iff]
    simp
  | a :: b :: r => simp [PyData.eqv, PyData.eqvAll]
theorem sh_012 : SeqAt.shaped (.list [.str "0", .str "1", .str "2"]) = true := by decide +kernel
theorem in_012 {m : Sto} {w : Str} (h : okS w = true) : inW m (wS w) (.dat (.list [.str "0", .str "1", .str "2"])) = some (g012 w) := by
  rw [inW_lst, shaped_s w h, sh_012]
  simp [eqv_sL, isS, g012, Bool.or_assoc]
theorem tq_str {n : Nat} {x : Str} (h : Mx n x) (hn : n ≤ 4000) : Tq (.str x) := .inl (h.tm hn)
theorem ixl_2 (m : Sto) (a b d : PyData) (ds : List PyData) : ixW m (.dat (.list (a :: b :: d :: ds))) (wI 2) = some (.dat d) := ixl_nat (k := 2) rfl
theorem int_item {w : Str} {m : Sto} (h : gOk w = true) (hn : nameS w = false) : biW .int [wS w] m = some (wI (numV w)) := by
  simp only [gOk, hn, Bool.or_false] at h
  rcases g012_cases h with rfl | rfl | rfl <;> exact biW_int m (by decide +kernel)
theorem item_dat (w : Str) : (if nameS w = true then wS w else wI (numV w)) = .dat (gItem w) := by
  unfold gItem
  split <;> rfl
section
variable {P : Str → Option Df} {B : Fe} (Y : HasL P)
include Y
set_option maxHeartbeats 8000000 in
theorem step_readL (n : Nat) (x : Str) (m : Sto) (h : Mx 3990 x) : callN P B (n + 2) "_law_step_read" [wS x] m = .ok (.dat (gStep x)) m := by
  rw [callN_at Y.l_law_step_read]
  have hx : x.length ≤ lim := by
    have := h.le
    show _ ≤ 1000000
    omega
  have hw := split_space h
  unfold gStep
  have hs := met_split (m := m) ln_space hx
  have hne := split_ne x " " l_space1 k_space
  have l0 : 0 ≤ lim := by decide
  have l1 : 1 ≤ lim := by decide
  have l2 : 2 ≤ lim := by decide
  have l3 : 3 ≤ lim := by decide
  have hnx : mkL [wS "next"] = .dat (.list [.str "next"]) := mkL_map [.str "next"]
  generalize Txt.split x " " = l at hs hw hne
  have hok : ∀ w ∈ l, okS w = true := hw.ok
  have heq := fun m => eqX_one (m := m) hok
  match l, hw, hne, hs, heq, hok with
  | [a], hw, hne, hs, heq, hok =>
    by_cases q : a = "next"
    · subst q
      simp at heq hs
      simp [d_law_step_read, bd_law_step_read, bodyN, evSs, evS, evE, evC, evO, getV, isiW, tyOf, isiT, fin, cutR, biW_len, lenW_str, lenW_tuple, lenW_list, cmp_le, cmp_lt, cmp_gt, cmp_ge, cmp_in, cmp_nin, cmp_eq, cmp_ne, in_str, intOf, asT, asTs, lcGo, gOk_nil, sl_tuple, sl_list, rcv_split, isMut_f, hs, heq, hnx, l1, gStepL, mkT, datAll, frz_dat]
    · simp [q] at heq hs
      simp [d_law_step_read, bd_law_step_read, bodyN, evSs, evS, evE, evC, evO, getV, isiW, tyOf, isiT, fin, cutR, biW_len, lenW_str, lenW_tuple, lenW_list, cmp_le, cmp_lt, cmp_gt, cmp_ge, cmp_in, cmp_nin, cmp_eq, cmp_ne, in_str, intOf, asT, asTs, lcGo, gOk_nil, sl_tuple, sl_list, rcv_split, isMut_f, hs, heq, hnx, l1, gStepL, q, eqX_int, eqW_int, frz_dat]
  | [a, b], hw, hne, hs, heq, hok =>
    have ha := hok a (by simp)
    have hb := is_goodL (B := B) Y.toHasG n (.str b) m (tq_str (hw.mem (by simp)) (by decide))
    simp at heq hs
    by_cases q : a = "say"
    · subst q
      cases q2 : nameS b with
      | true =>
        have q3 : isName (.str b) = true := q2
        simp [d_law_step_read, bd_law_step_read, bodyN, evSs, evS, evE, evC, evO, getV, isiW, tyOf, isiT, fin, cutR, biW_len, lenW_str, lenW_tuple, lenW_list, cmp_le, cmp_lt, cmp_gt, cmp_ge, cmp_in, cmp_nin, cmp_eq, cmp_ne, in_str, intOf, asT, asTs, lcGo, gOk_nil, sl_tuple, sl_list, rcv_split, isMut_f, hs, heq, hnx, l1, l2, gStepL, q2, q3, eqX_int, eqW_int, ixl_0, ixl_1, eqX_ss o_say o_say, hb, mkT, datAll, frz_dat]
      | false =>
        have q3 : isName (.str b) = false := q2
        simp [d_law_step_read, bd_law_step_read, bodyN, evSs, evS, evE, evC, evO, getV, isiW, tyOf, isiT, fin, cutR, biW_len, lenW_str, lenW_tuple, lenW_list, cmp_le, cmp_lt, cmp_gt, cmp_ge, cmp_in, cmp_nin, cmp_eq, cmp_ne, in_str, intOf, asT, asTs, lcGo, gOk_nil, sl_tuple, sl_list, rcv_split, isMut_f, hs, heq, hnx, l1, l2, gStepL, q2, q3, eqX_int, eqW_int, ixl_0, ixl_1, eqX_ss o_say o_say, hb, mkT, datAll, frz_dat]
    · simp [d_law_step_read, bd_law_step_read, bodyN, evSs, evS, evE, evC, evO, getV, isiW, tyOf, isiT, fin, cutR, biW_len, lenW_str, lenW_tuple, lenW_list, cmp_le, cmp_lt, cmp_gt, cmp_ge, cmp_in, cmp_nin, cmp_eq, cmp_ne, in_str, intOf, asT, asTs, lcGo, gOk_nil, sl_tuple, sl_list, rcv_split, isMut_f, hs, heq, hnx, l1, l2, gStepL, q, eqX_int, eqW_int, ixl_0, ixl_1, eqX_ss ha o_say, mkT, datAll, frz_dat]
  | [a, b, c], hw, hne, hs, heq, hok =>
    have ha := hok a (by simp)
    have hcall : ∀ m, eqW m (wS a) (wS "call") = some (decide (a = "call")) := fun m => eqW_ss ha o_call
    have hb := is_goodL (B := B) Y.toHasG n (.str b) m (tq_str (hw.mem (by simp)) (by decide))
    have hc : Mx 3991 c := hw.mem (by simp)
    simp at heq hs
    by_cases q : a = "call"
    · subst q
      cases q2 : nameS b with
      | true =>
        have q3 : isName (.str b) = true := q2
        rw [q3] at hb
        have hcl : c.length ≤ lim := by
          have := hc.le
          show _ ≤ 1000000
          omega
        have hcw := split_comma hc
        have hsc := met_split (m := m ++ [.lst []]) ln_comma hcl
        simp only [d_law_step_read, bodyN, List.length_cons, List.length_nil, decide_true]
        refine fin_dat ?_
        simp only [bd_law_step_read]
        refine to_cons ?_
        simp [bodyN, evSs_nil, evS, evE, evC, evO, getV, isiW, tyOf, isiT, biW_len, lenW_str, lenW_tuple, lenW_list, cmp_le, cmp_lt, cmp_gt, cmp_ge, cmp_in, cmp_nin, cmp_eq, cmp_ne, in_str, intOf, asT, asTs, lcGo, gOk_nil, sl_tuple, sl_list, rcv_split, isMut_f, hs]
        refine to_cons ?_
        simp [bodyN, evSs_nil, evS, evE, evC, evO, getV, isiW, tyOf, isiT, biW_len, lenW_str, lenW_tuple, lenW_list, cmp_le, cmp_lt, cmp_gt, cmp_ge, cmp_in, cmp_nin, cmp_eq, cmp_ne, in_str, intOf, asT, asTs, lcGo, gOk_nil, sl_tuple, sl_list, heq, hnx, l1]
        refine to_cons ?_
        simp [bodyN, evSs_nil, evS, evE, evC, evO, getV, isiW, tyOf, isiT, biW_len, lenW_str, lenW_tuple, lenW_list, cmp_le, cmp_lt, cmp_gt, cmp_ge, cmp_in, cmp_nin, cmp_eq, cmp_ne, in_str, intOf, asT, asTs, lcGo, gOk_nil, sl_tuple, sl_list, eqX_int, eqW_int]
        refine to_cons ?_
        simp [bodyN, evSs_nil, evS, evE, evC, evO, getV, isiW, tyOf, isiT, biW_len, lenW_str, lenW_tuple, lenW_list, cmp_le, cmp_lt, cmp_gt, cmp_ge, cmp_in, cmp_nin, cmp_eq, cmp_ne, in_str, intOf, asT, asTs, lcGo, gOk_nil, sl_tuple, sl_list, eqX_int, eqW_int, ixl_0, ixl_1, hcall, hb]
        refine to_cons ?_
        simp [bodyN, evSs_nil, evS, evE, evC, evO, getV, isiW, tyOf, isiT, biW_len, lenW_str, lenW_tuple, lenW_list, cmp_le, cmp_lt, cmp_gt, cmp_ge, cmp_in, cmp_nin, cmp_eq, cmp_ne, in_str, intOf, asT, asTs, lcGo, gOk_nil, sl_tuple, sl_list, l0]
        obtain ⟨ws, hws⟩ : ∃ ws, Txt.split c "," = ws := ⟨_, rfl⟩
        rw [hws] at hcw hsc
        have hgs : gStepL ["call", b, c] = if ws.all gOk = true ∧ ws.length < 4 then .tuple [.str "call", .str b, .tuple (ws.map gItem)] else .none := by
          rw [← hws]
          simp only [gStepL, q2, true_and]
        have hwl := hcw.le
        refine to_cons (SR.to_mono (fors_to (m1 := m ++ [.lst []]) (ws := ws.map wS) (w := .dat (.list (ws.map .str))) (fun j σ m' => ∃ x3, σ = [some (wS x), some (.dat (.list [.str "call", .str b, .str c])), some (.ref m.length), x3] ∧ m' = m ++ [.lst (((ws.take j).map gItem).map W.dat)] ∧ (ws.take j).all gOk = true) ?_ ?_ rfl ⟨_, rfl, by simp, by simp⟩ ?_) ?_ fun _ _ h => h)
        · simp [bodyN, evSs_nil, evS, evE, evC, evO, getV, isiW, tyOf, isiT, biW_len, lenW_str, lenW_tuple, lenW_list, cmp_le, cmp_lt, cmp_gt, cmp_ge, cmp_in, cmp_nin, cmp_eq, cmp_ne, in_str, intOf, asT, asTs, lcGo, gOk_nil, sl_tuple, sl_list, ixl_2, rcv_split, isMut_f, hsc]
        · rw [iterOf_list, List.map_map]
          rfl
        · rintro j y σ m' hy ⟨x3, rfl, rfl, hall⟩
          rw [List.getElem?_map] at hy
          obtain ⟨w, hw1, rfl⟩ := Option.map_eq_some_iff.mp hy
          have hwm := List.mem_of_getElem? hw1
          have hjl := (List.getElem?_eq_some_iff.mp hw1).1
          have hgd := is_goodL (B := B) Y.toHasG n (.str w) (m ++ [.lst (((ws.take j).map gItem).map W.dat)]) (tq_str (hcw.mem hwm) (by decide))
          have hok1 := hcw.ok w hwm
          have h012 : mkL [wS "0", wS "1", wS "2"] = .dat (.list [.str "0", .str "1", .str "2"]) := mkL_map [.str "0", .str "1", .str "2"]
          have hin := in_012 (m := m ++ [.lst (((ws.take j).map gItem).map W.dat)]) hok1
          have hrc := rcv_app m (((ws.take j).map gItem).map W.dat)
          have hmu := fun v => mut_app m (((ws.take j).map gItem).map W.dat) v (by
            simp only [List.length_map, List.length_take]
            show _ ≤ 1000000
            omega)
          have htk : ws.take (j + 1) = ws.take j ++ [w] := by rw [List.take_add_one, hw1]; rfl
          have hgi : isName (.str w) = nameS w := rfl
          rw [hgi] at hgd
          generalize hM : m ++ [.lst (((ws.take j).map gItem).map W.dat)] = M at hgd hin hrc hmu
          simp only [bindT_one, lift_some, st_ok, List.set_cons_succ, List.set_cons_zero]
          refine to_cons ?_
          cases q4 : gOk w with
          | false =>
            have q5 : nameS w = false ∧ g012 w = false := by
              simp only [gOk, Bool.or_eq_false_iff] at q4
              exact ⟨q4.2, q4.1⟩
            rw [q5.1] at hgd
            rw [q5.2] at hin
            simp [bodyN, evSs_nil, evS, evE, evC, evO, getV, isiW, tyOf, isiT, biW_len, lenW_str, lenW_tuple, lenW_list, cmp_le, cmp_lt, cmp_gt, cmp_ge, cmp_in, cmp_nin, cmp_eq, cmp_ne, in_str, intOf, asT, asTs, lcGo, gOk_nil, sl_tuple, sl_list, h012, l3, hin, hgd, -List.all_eq_true]
            simp only [evSs, evS, evE, st_ok, then_rt, to_rt]
            refine ⟨?_, by rw [← hM]; exact take_box⟩
            rw [hgs, if_neg]
            rintro ⟨h1, _⟩
            have := List.all_eq_true.mp h1 w hwm
            rw [q4] at this
            cases this
          | true =>
            have hskip : (evS { B with call := callN P B (n + 1), L := m.length } (.ifs (.and (.cmp .notin (.var 3) (.lst false [.con (.str "0"), .con (.str "1"), .con (.str "2")])) (.not (.call "_law_is_good" [.var 3]))) [.ret (.con .none)] []) [some (wS x), some (.dat (.list [.str "call", .str b, .str c])), some (.ref m.length), some (wS w)] M) = .nx [some (wS x), some (.dat (.list [.str "call", .str b, .str c])), some (.ref m.length), some (wS w)] M := by
              cases q5 : nameS w with
              | true =>
                rw [q5] at hgd
                cases q6 : g012 w <;> (rw [q6] at hin; simp [bodyN, evSs_nil, evS, evE, evC, evO, getV, isiW, tyOf, isiT, biW_len, lenW_str, lenW_tuple, lenW_list, cmp_le, cmp_lt, cmp_gt, cmp_ge, cmp_in, cmp_nin, cmp_eq, cmp_ne, in_str, intOf, asT, asTs, lcGo, gOk_nil, sl_tuple, sl_list, h012, l3, hin, hgd])
              | false =>
                have q6 : g012 w = true := by simpa [gOk, q5] using q4
                rw [q6] at hin
                simp [bodyN, evSs_nil, evS, evE, evC, evO, getV, isiW, tyOf, isiT, biW_len, lenW_str, lenW_tuple, lenW_list, cmp_le, cmp_lt, cmp_gt, cmp_ge, cmp_in, cmp_nin, cmp_eq, cmp_ne, in_str, intOf, asT, asTs, lcGo, gOk_nil, sl_tuple, sl_list, h012, l3, hin]
            rw [hskip, to_nx]
            refine to_cons ?_
            have hv : (evE { B with call := callN P B (n + 1), L := m.length } (.ite (.call "_law_is_good" [.var 3]) (.var 3) (.bi .int [.var 3])) [some (wS x), some (.dat (.list [.str "call", .str b, .str c])), some (.ref m.length), some (wS w)] M) = .ok (.dat (gItem w)) M := by
              cases q5 : nameS w with
              | true =>
                rw [q5] at hgd
                simp [bodyN, evSs_nil, evS, evE, evC, evO, getV, isiW, tyOf, isiT, biW_len, lenW_str, lenW_tuple, lenW_list, cmp_le, cmp_lt, cmp_gt, cmp_ge, cmp_in, cmp_nin, cmp_eq, cmp_ne, in_str, intOf, asT, asTs, lcGo, gOk_nil, sl_tuple, sl_list, hgd, gItem, q5]
              | false =>
                rw [q5] at hgd
                simp [bodyN, evSs_nil, evS, evE, evC, evO, getV, isiW, tyOf, isiT, biW_len, lenW_str, lenW_tuple, lenW_list, cmp_le, cmp_lt, cmp_gt, cmp_ge, cmp_in, cmp_nin, cmp_eq, cmp_ne, in_str, intOf, asT, asTs, lcGo, gOk_nil, sl_tuple, sl_list, hgd, gItem, q5, int_item q4 q5]
            have happ : (evE { B with call := callN P B (n + 1), L := m.length } (.met .append (.var 2) [.ite (.call "_law_is_good" [.var 3]) (.var 3) (.bi .int [.var 3])]) [some (wS x), some (.dat (.list [.str "call", .str b, .str c])), some (.ref m.length), some (wS w)] M) = .ok wN (m ++ [.lst (((ws.take j).map gItem).map W.dat ++ [.dat (gItem w)])]) := by
              show ((lift (getV [some (wS x), some (.dat (.list [.str "call", .str b, .str c])), some (.ref m.length), some (wS w)] 2) M).bind fun x m2 => match rcv .append x m2 with
                | false => .no
                | true => (evEs _ [_] _ m2).bind fun ws m3 => match isMut .append with
                  | true => (lift (mutW m.length .append x ws m3) m3).bind fun q _ => .ok q.1 q.2
                  | false => lift (metW .append x ws m3) m3) = _
              simp only [getV, List.getElem?_cons_succ, List.getElem?_cons_zero, lift_some, bind_ok, hrc, evEs_ite, hv, evEs_nil, isMut_t, hmu]
            rw [evS, happ, st_ok, to_nx, evSs_nil, to_nx]
            refine ⟨some (wS w), rfl, ?_, ?_⟩
            · rw [htk, List.map_append, List.map_append]
              rfl
            · rw [htk, List.all_append, hall]
              simp [q4]
        · rintro σ m' ⟨x3, rfl, rfl, hall⟩
          rw [List.length_map, List.take_length] at hall ⊢
          have hlb := len_box (m := m) (ds := ws.map gItem)
          have htb := tuple_box (m := m) (ds := ws.map gItem)
          have htk := take_box (m := m) (c := .lst ((ws.map gItem).map W.dat))
          generalize hM : m ++ [.lst ((ws.map gItem).map W.dat)] = M at hlb htb htk
          rw [hgs]
          by_cases q : ws.length < 4
          · have e1 : (ws.length : Int) < 4 := by omega
            rw [if_pos ⟨hall, q⟩]
            simp [bodyN, evSs, evS, evE, evC, evO, getV, isiW, tyOf, isiT, biW_len, lenW_str, lenW_tuple, lenW_list, cmp_le, cmp_lt, cmp_gt, cmp_ge, cmp_in, cmp_nin, cmp_eq, cmp_ne, in_str, intOf, asT, asTs, lcGo, gOk_nil, sl_tuple, sl_list, hlb, e1, htb, ixl_1, mkT, datAll, l3, htk]
          · have e1 : ¬ (ws.length : Int) < 4 := by omega
            rw [if_neg (fun h => q h.2)]
            simp [bodyN, evSs, evS, evE, evC, evO, getV, isiW, tyOf, isiT, biW_len, lenW_str, lenW_tuple, lenW_list, cmp_le, cmp_lt, cmp_gt, cmp_ge, cmp_in, cmp_nin, cmp_eq, cmp_ne, in_str, intOf, asT, asTs, lcGo, gOk_nil, sl_tuple, sl_list, hlb, e1, htk]
      | false =>
        have q3 : isName (.str b) = false := q2
        simp [d_law_step_read, bd_law_step_read, bodyN, evSs, evS, evE, evC, evO, getV, isiW, tyOf, isiT, fin, cutR, biW_len, lenW_str, lenW_tuple, lenW_list, cmp_le, cmp_lt, cmp_gt, cmp_ge, cmp_in, cmp_nin, cmp_eq, cmp_ne, in_str, intOf, asT, asTs, lcGo, gOk_nil, sl_tuple, sl_list, rcv_split, isMut_f, hs, heq, hnx, l1, l2, gStepL, q2, q3, eqX_int, eqW_int, ixl_0, ixl_1, hcall, hb, mkT, datAll, frz_dat]
    · simp [d_law_step_read, bd_law_step_read, bodyN, evSs, evS, evE, evC, evO, getV, isiW, tyOf, isiT, fin, cutR, biW_len, lenW_str, lenW_tuple, lenW_list, cmp_le, cmp_lt, cmp_gt, cmp_ge, cmp_in, cmp_nin, cmp_eq, cmp_ne, in_str, intOf, asT, asTs, lcGo, gOk_nil, sl_tuple, sl_list, rcv_split, isMut_f, hs, heq, hnx, l1, l2, gStepL, q, eqX_int, eqW_int, ixl_0, ixl_1, hcall, mkT, datAll, frz_dat]
  | a :: b :: c :: d :: r, hw, hne, hs, heq, hok =>
    have e2 : ¬ ((r.length : Int) + 1 + 1 + 1 + 1 = 2) := by omega
    have e3 : ¬ ((r.length : Int) + 1 + 1 + 1 + 1 = 3) := by omega
    simp at heq hs
    simp [d_law_step_read, bd_law_step_read, bodyN, evSs, evS, evE, evC, evO, getV, isiW, tyOf, isiT, fin, cutR, biW_len, lenW_str, lenW_tuple, lenW_list, cmp_le, cmp_lt, cmp_gt, cmp_ge, cmp_in, cmp_nin, cmp_eq, cmp_ne, in_str, intOf, asT, asTs, lcGo, gOk_nil, sl_tuple, sl_list, rcv_split, isMut_f, hs, heq, hnx, l1, gStepL, eqX_int, eqW_int, e2, e3, frz_dat]
end
end Lw
/-! Lw: the law's own reading of a body, a spot, an act, walked. -/
namespace Lw
open PySem Mi Op Gw
theorem gStep_facts (x : Str) : (gStep x).canLay0 = true ∧ (gStep x).depth ≤ 2 := by
  cases q : isNo (gStep x) with
  | true =>
    have : gStep x = .none := by cases e : gStep x <;> first | rfl | (rw [e] at q; cases q)
    rw [this]
    exact ⟨by simp [PyData.canLay0], by simp [PyData.depth]⟩
  | false =>
    obtain ⟨h1, _, _, h4⟩ := step_facts (step_sound q).1
    exact ⟨h1.lay, h4⟩
theorem in_no {m : Sto} {ds : List PyData} (h : SeqAt.shaped (.list ds) = true) : inW m (.dat .none) (.dat (.list ds)) = some (ds.any isNo) := by
  rw [inW_lst, h]
  simp only [show SeqAt.shaped .none = true by decide +kernel, Bool.and_self, if_true, Option.some.injEq]
  congr 1
  funext z
  cases z <;> simp [PyData.eqv, isNo]
theorem in_two {m : Sto} {a u v : Str} (h : okS a = true) (hs : SeqAt.shaped (.list [.str u, .str v]) = true) : inW m (wS a) (.dat (.list [.str u, .str v])) = some (decide (a = u) || decide (a = v)) := by
  rw [inW_lst, shaped_s a h, hs]
  simp [eqv_sL, isS]
theorem in_three {m : Sto} {a u v w : Str} (h : okS a = true) (hs : SeqAt.shaped (.list [.str u, .str v, .str w]) = true) : inW m (wS a) (.dat (.list [.str u, .str v, .str w])) = some (decide (a = u) || decide (a = v) || decide (a = w)) := by
  rw [inW_lst, shaped_s a h, hs]
  simp [eqv_sL, isS, Bool.or_assoc]
theorem in_four {m : Sto} {a u v w z : Str} (h : okS a = true) (hs : SeqAt.shaped (.list [.str u, .str v, .str w, .str z]) = true) : inW m (wS a) (.dat (.list [.str u, .str v, .str w, .str z])) = some (decide (a = u) || decide (a = v) || decide (a = w) || decide (a = z)) := by
  rw [inW_lst, shaped_s a h, hs]
  simp [eqv_sL, isS, Bool.or_assoc]
theorem tuple_tup (m : Sto) (ds : List PyData) : biW .tuple [.dat (.tuple ds)] m = some (.dat (.tuple ds)) := rfl
section
variable {P : Str → Option Df} {B : Fe} (Y : HasL P)
include Y
set_option maxHeartbeats 8000000 in
theorem body_readL (n : Nat) (x : Str) (m : Sto) (h : Mx 3988 x) : callN P B (n + 3) "_law_body_read" [wS x] m = .ok (.dat (gBody x)) m := by
  rw [callN_at Y.l_law_body_read]
  have hx : x.length ≤ lim := by
    have := h.le
    show _ ≤ 1000000
    omega
  by_cases q : x = "-"
  · subst q
    simp [d_law_body_read, bd_law_body_read, bodyN, evSs, evS, evE, evC, evO, getV, isiW, tyOf, isiT, fin, cutR, biW_len, lenW_str, lenW_tuple, lenW_list, cmp_le, cmp_lt, cmp_gt, cmp_ge, cmp_in, cmp_nin, cmp_eq, cmp_ne, in_str, intOf, asT, asTs, lcGo, gOk_nil, sl_tuple, sl_list, eqX_ss o_minus o_minus, gBody, mkT, datAll]
  · have hw := split_semi h
    have hs := met_split (m := m) ln_semi hx
    rw [gBody, if_neg q]
    generalize Txt.split x "; " = ws at hw hs
    have hz : ws.length ≤ lim := by
      have := hw.le
      show _ ≤ 1000000
      omega
    have hsh : SeqAt.shaped (.list (ws.map gStep)) = true := by
      refine sh_list (k := 2) ?_ ?_ (by decide) <;> intro d hd <;> obtain ⟨w, hw, rfl⟩ := List.mem_map.mp hd
      · exact (gStep_facts w).1
      · exact (gStep_facts w).2
    have hmk : mkL (ws.map fun w => W.dat (gStep w)) = .dat (.list (ws.map gStep)) := mkL_dat _ _
    simp [d_law_body_read, bd_law_body_read, bodyN, evSs, evS, evE, evC, evO, getV, isiW, tyOf, isiT, fin, cutR, biW_len, lenW_str, lenW_tuple, lenW_list, cmp_le, cmp_lt, cmp_gt, cmp_ge, cmp_in, cmp_nin, cmp_eq, cmp_ne, in_str, intOf, asT, asTs, lcGo, gOk_nil, sl_tuple, sl_list, eqX_ss (okS_say h.ok) o_minus, q, rcv_split, isMut_f, hs, hz]
    rw [lcGo_mapF (u := W.dat ∘ PyData.str) (v := fun w => .dat (gStep w)) (gOk_nil _) fun w hw2 => by simp [step_readL (B := B) Y n w _ (hw.mem hw2)]]
    simp only [calm_ok, bind_ok, hmk]
    have hfact : ∀ d ∈ ws.map gStep, isNo d = false → isStep 3 d = true := fun d hd hn => by
      obtain ⟨w, _, rfl⟩ := List.mem_map.mp hd
      exact (step_sound hn).1
    have hlen : (ws.map gStep).length ≤ lim := by rw [List.length_map]; exact hz
    generalize ws.map gStep = ds at hsh hfact hlen ⊢
    unfold gBodyL
    cases q2 : ds.any isNo with
    | true =>
      rw [if_pos (.inl rfl)]
      simp [in_no hsh, q2]
    | false =>
      simp [in_no hsh, q2, hlen, -List.any_eq_true, -List.any_eq_false]
      rw [lcGo_filF (v := W.dat) (p := isNext) (gOk_nil _) fun d hd => ?_]
      · have e := mkL_map (ds.filter isNext)
        by_cases q3 : 1 < ds.countP isNext
        · have e1 : (1 : Int) < (ds.filter isNext).length := by
            rw [List.countP_eq_length_filter] at q3
            omega
          simp [e, bodyN, evSs, evS, evE, evC, evO, getV, isiW, tyOf, isiT, fin, cutR, biW_len, lenW_str, lenW_tuple, lenW_list, cmp_le, cmp_lt, cmp_gt, cmp_ge, cmp_in, cmp_nin, cmp_eq, cmp_ne, in_str, intOf, asT, asTs, lcGo, gOk_nil, sl_tuple, sl_list, e1, q3]
        · have e1 : ¬ (1 : Int) < (ds.filter isNext).length := by
            rw [List.countP_eq_length_filter] at q3
            omega
          simp [e, bodyN, evSs, evS, evE, evC, evO, getV, isiW, tyOf, isiT, fin, cutR, biW_len, lenW_str, lenW_tuple, lenW_list, cmp_le, cmp_lt, cmp_gt, cmp_ge, cmp_in, cmp_nin, cmp_eq, cmp_ne, in_str, intOf, asT, asTs, lcGo, gOk_nil, sl_tuple, sl_list, e1, q3, biW_tuple_l]
      · have hno := List.any_eq_false.mp q2 _ hd
        rw [Bool.not_eq_true] at hno
        have hst := hfact d hd hno
        obtain ⟨htm, _, _, _⟩ := step_facts hst
        have ht2 : ∃ es, d = .tuple es := by
          cases d <;> first | exact ⟨_, rfl⟩ | cases hst
        obtain ⟨es, rfl⟩ := ht2
        have l1 : 1 ≤ lim := by decide
        have e3 := eqX_next (m := m) htm
        simp [mkT, datAll, e3, l1]
        cases isNext (.tuple es) <;> simp
set_option maxHeartbeats 8000000 in
theorem spot_readL (n : Nat) (x : Str) (m : Sto) (h : Mx 3990 x) : callN P B (n + 2) "_law_spot_read" [wS x] m = .ok (.dat (gSpot x)) m := by
  rw [callN_at Y.l_law_spot_read]
  have hx : x.length ≤ lim := by
    have := h.le
    show _ ≤ 1000000
    omega
  have hw := split_comma h
  have hs := met_split (m := m) ln_comma hx
  rw [gSpot]
  generalize Txt.split x "," = ws at hw hs
  have hz : ws.length ≤ lim := by
    have := hw.le
    show _ ≤ 1000000
    omega
  by_cases q : ws.length < 4
  · have e1 : (ws.length : Int) < 4 := by omega
    simp [d_law_spot_read, bd_law_spot_read, bodyN, evSs, evS, evE, evC, evO, getV, isiW, tyOf, isiT, fin, cutR, biW_len, lenW_str, lenW_tuple, lenW_list, cmp_le, cmp_lt, cmp_gt, cmp_ge, cmp_in, cmp_nin, cmp_eq, cmp_ne, in_str, intOf, asT, asTs, lcGo, gOk_nil, sl_tuple, sl_list, rcv_split, isMut_f, hs, biW_tuple_l, e1, hz, -List.all_eq_true]
    rw [lcGo_mapF (u := W.dat ∘ PyData.str) (v := fun w => wB (nameS w)) (gOk_nil _) fun w hw2 => by
      have := is_goodL (B := B) Y.toHasG n (.str w) m (tq_str (hw.mem hw2) (by decide))
      rw [show isName (.str w) = nameS w from rfl] at this
      simp [this]]
    cases q2 : ws.all nameS with
    | true => simp [mkL_dat, biW_all, q, q2, -List.all_eq_true]
    | false => simp [mkL_dat, biW_all, q, q2, -List.all_eq_true, -List.all_eq_false]
  · have e1 : ¬ (ws.length : Int) < 4 := by omega
    simp [d_law_spot_read, bd_law_spot_read, bodyN, evSs, evS, evE, evC, evO, getV, isiW, tyOf, isiT, fin, cutR, biW_len, lenW_str, lenW_tuple, lenW_list, cmp_le, cmp_lt, cmp_gt, cmp_ge, cmp_in, cmp_nin, cmp_eq, cmp_ne, in_str, intOf, asT, asTs, lcGo, gOk_nil, sl_tuple, sl_list, rcv_split, isMut_f, hs, biW_tuple_l, e1, q]
end
end Lw
/-! Lw: the law's own reading of an act, walked. -/
namespace Lw
open PySem Mi Op Gw
theorem cutD_2 (a b : PyData) (r : List PyData) : cutD (a :: b :: r) (some 2) none = r := cutD_drop (a :: b :: r) 2
theorem cutD_3 (a b c : PyData) (r : List PyData) : cutD (a :: b :: c :: r) (some 3) none = r := cutD_drop (a :: b :: c :: r) 3
theorem count_int2 {c : Str} {m : Sto} (h : k123 c = true) : biW .int [wS c] m = some (wI (numV c)) := by
  rcases k123_cases h with rfl | rfl | rfl <;> exact biW_int m (by decide +kernel)
theorem isn_no (d : PyData) (m : Sto) : cmpW .isn (.dat d) wN m = some (isNo d) := by
  show some (isNon (.dat d)) = _
  cases d <;> rfl
theorem s_rr : SeqAt.shaped (.list [.str "remove", .str "reduce"]) = true := by decide +kernel
theorem s_dd : SeqAt.shaped (.list [.str "define", .str "decide"]) = true := by decide +kernel
theorem s_123 : SeqAt.shaped (.list [.str "1", .str "2", .str "3"]) = true := by decide +kernel
theorem s_dw : SeqAt.shaped (.list [.str "drop", .str "watch"]) = true := by decide +kernel
theorem s_dwdd : SeqAt.shaped (.list [.str "drop", .str "watch", .str "define", .str "decide"]) = true := by decide +kernel
section
variable {P : Str → Option Df} {B : Fe} (Y : HasL P)
include Y
set_option maxHeartbeats 16000000 in
theorem act_readL (n : Nat) (x : Str) (m : Sto) (h : Mx 3900 x) : callN P B (n + 4) "_law_act_read" [wS x] m = .ok (.dat (gAct x)) m := by
  rw [callN_at Y.l_law_act_read]
  have hx : x.length ≤ lim := by
    have := h.le
    show _ ≤ 1000000
    omega
  have hw := split_space h
  have hs := met_split (m := m) ln_space hx
  have hne := split_ne x " " l_space1 k_space
  unfold gAct
  generalize Txt.split x " " = l at hw hs hne
  have hok : ∀ w ∈ l, okS w = true := hw.ok
  have l1 : 1 ≤ lim := by decide
  have l2 : 2 ≤ lim := by decide
  have l3 : 3 ≤ lim := by decide
  have l4 : 4 ≤ lim := by decide
  have k1 : mkL [wS "remove", wS "reduce"] = .dat (.list [.str "remove", .str "reduce"]) := mkL_map [.str "remove", .str "reduce"]
  have k2 : mkL [wS "define", wS "decide"] = .dat (.list [.str "define", .str "decide"]) := mkL_map [.str "define", .str "decide"]
  have k3 : mkL [wS "1", wS "2", wS "3"] = .dat (.list [.str "1", .str "2", .str "3"]) := mkL_map [.str "1", .str "2", .str "3"]
  have k4 : mkL [wS "drop", wS "watch", wS "define", wS "decide"] = .dat (.list [.str "drop", .str "watch", .str "define", .str "decide"]) := mkL_map [.str "drop", .str "watch", .str "define", .str "decide"]
  have k5 : mkL [wS "drop", wS "watch"] = .dat (.list [.str "drop", .str "watch"]) := mkL_map [.str "drop", .str "watch"]
  match l, hw, hs, hne, hok with
  | [a], hw, hs, hne, hok =>
    simp at hs
    simp [d_law_act_read, bd_law_act_read, bodyN, evSs, evS, evE, evC, evO, getV, isiW, tyOf, isiT, fin, cutR, biW_len, lenW_str, lenW_tuple, lenW_list, cmp_le, cmp_lt, cmp_gt, cmp_ge, cmp_in, cmp_nin, cmp_eq, cmp_ne, in_str, intOf, asT, asTs, lcGo, gOk_nil, sl_tuple, sl_list, rcv_split, isMut_f, hs, gActL]
  | a :: b :: r, hw, hs, hne, hok =>
    have ha := hok a (by simp)
    have hb := is_goodL (B := B) Y.toHasG (n + 2) (.str b) m (tq_str (hw.mem (by simp)) (by decide))
    rw [show isName (.str b) = nameS b from rfl] at hb
    have hle := hw.le
    simp only [sumLen, List.length_cons] at hle
    have hr : (r.map PyData.str).length ≤ lim := by
      show _ ≤ 1000000
      rw [List.length_map]
      omega
    have hr2 : r.length ≤ lim := by simpa using hr
    have e0 : ¬ ((r.length : Int) + 1 + 1 < 2) := by omega
    have i1 := fun m => in_two (m := m) ha s_rr
    have i2 := fun m => in_two (m := m) ha s_dd
    have i4 := fun m => in_four (m := m) ha s_dwdd
    have i5 := fun m => in_two (m := m) ha s_dw
    have c1 := fun m => eqX_ss (m := m) (okS_say ha) o_class
    have c2 := fun m => eqX_ss (m := m) (okS_say ha) o_function
    simp only [List.map_cons] at hs
    cases q1 : nameS b with
    | false =>
      rw [q1] at hb
      simp [d_law_act_read, bd_law_act_read, bodyN, evSs, evS, evE, evC, evO, getV, isiW, tyOf, isiT, fin, cutR, biW_len, lenW_str, lenW_tuple, lenW_list, cmp_le, cmp_lt, cmp_gt, cmp_ge, cmp_in, cmp_nin, cmp_eq, cmp_ne, in_str, intOf, asT, asTs, lcGo, gOk_nil, sl_tuple, sl_list, rcv_split, isMut_f, hs, gActL, e0, ixl_0, ixl_1, hb, q1]
    | true =>
      rw [q1] at hb
      simp only [gActL, q1, if_true]
      by_cases q2 : a = "class"
      · subst q2
        simp [d_law_act_read, bd_law_act_read, bodyN, evSs, evS, evE, evC, evO, getV, isiW, tyOf, isiT, fin, cutR, biW_len, lenW_str, lenW_tuple, lenW_list, cmp_le, cmp_lt, cmp_gt, cmp_ge, cmp_in, cmp_nin, cmp_eq, cmp_ne, in_str, intOf, asT, asTs, lcGo, gOk_nil, sl_tuple, sl_list, rcv_split, isMut_f, hs, e0, ixl_0, ixl_1, hb, c1, cutD_2, hr2, -List.all_eq_true]
        rw [lcGo_mapF (u := W.dat ∘ PyData.str) (v := fun w => wB (nameS w)) (gOk_nil _) fun w hw2 => by
          have := is_goodL (B := B) Y.toHasG (n + 2) (.str w) m (tq_str (hw.mem (by simp [hw2])) (by decide))
          rw [show isName (.str w) = nameS w from rfl] at this
          simp [this]]
        cases q3 : r.all nameS with
        | true => simp [mkL_dat, biW_all, q3, biW_tuple_l, mkT, datAll, l3, -List.all_eq_true]
        | false => simp [mkL_dat, biW_all, q3, -List.all_eq_true, -List.all_eq_false]
      · rw [if_neg q2]
        by_cases q3 : a = "remove" ∨ a = "reduce"
        · rw [if_pos q3]
          have j1 : ∀ m, inW m (wS a) (.dat (.list [.str "remove", .str "reduce"])) = some true := fun m => by rw [i1]; rcases q3 with rfl | rfl <;> simp [ofS_inj]
          cases r with
          | nil =>
            simp at hs
            simp [d_law_act_read, bd_law_act_read, bodyN, evSs, evS, evE, evC, evO, getV, isiW, tyOf, isiT, fin, cutR, biW_len, lenW_str, lenW_tuple, lenW_list, cmp_le, cmp_lt, cmp_gt, cmp_ge, cmp_in, cmp_nin, cmp_eq, cmp_ne, in_str, intOf, asT, asTs, lcGo, gOk_nil, sl_tuple, sl_list, rcv_split, isMut_f, hs, ixl_0, ixl_1, hb, c1, q2, k1, l2, j1, eqX_int, mkT, datAll]
          | cons c s =>
            have e2 : ¬ ((s.length : Int) + 1 + 1 + 1 = 2) := by omega
            have e0' : ¬ ((s.length : Int) + 1 + 1 + 1 < 2) := by omega
            simp at hs
            simp [d_law_act_read, bd_law_act_read, bodyN, evSs, evS, evE, evC, evO, getV, isiW, tyOf, isiT, fin, cutR, biW_len, lenW_str, lenW_tuple, lenW_list, cmp_le, cmp_lt, cmp_gt, cmp_ge, cmp_in, cmp_nin, cmp_eq, cmp_ne, in_str, intOf, asT, asTs, lcGo, gOk_nil, sl_tuple, sl_list, rcv_split, isMut_f, hs, e0', e2, ixl_0, ixl_1, hb, c1, q2, k1, l2, j1, eqX_int, mkT, datAll]
        · rw [if_neg q3]
          have j1 : ∀ m, inW m (wS a) (.dat (.list [.str "remove", .str "reduce"])) = some false := fun m => by
            rw [i1]
            rw [not_or] at q3
            simp [q3.1, q3.2]
          cases r with
          | nil =>
            simp at hs
            simp [d_law_act_read, bd_law_act_read, bodyN, evSs, evS, evE, evC, evO, getV, isiW, tyOf, isiT, fin, cutR, biW_len, lenW_str, lenW_tuple, lenW_list, cmp_le, cmp_lt, cmp_gt, cmp_ge, cmp_in, cmp_nin, cmp_eq, cmp_ne, in_str, intOf, asT, asTs, lcGo, gOk_nil, sl_tuple, sl_list, rcv_split, isMut_f, hs, ixl_0, ixl_1, hb, c1, q2, k1, l2, j1, eqX_int, gAct3]
          | cons c s =>
            have hc : Mx 3901 c := hw.mem (by simp)
            have hsp := spot_readL (B := B) Y (n + 1) c m (hc.mono (by decide))
            have e1 : ¬ ((s.length : Int) + 1 + 1 + 1 < 3) := by omega
            have e0' : ¬ ((s.length : Int) + 1 + 1 + 1 < 2) := by omega
            simp only [gAct3]
            by_cases q4 : s ≠ [] ∧ ¬ (a = "define" ∨ a = "decide")
            · rw [if_pos q4]
              have hs1 : 0 < s.length := List.length_pos_iff.mpr q4.1
              have e2 : (3 : Int) < (s.length : Int) + 1 + 1 + 1 := by omega
              have j2 : ∀ m, inW m (wS a) (.dat (.list [.str "define", .str "decide"])) = some false := fun m => by
                rw [i2]
                rw [not_or] at q4
                simp [q4.2.1, q4.2.2]
              simp at hs
              simp [d_law_act_read, bd_law_act_read, bodyN, evSs, evS, evE, evC, evO, getV, isiW, tyOf, isiT, fin, cutR, biW_len, lenW_str, lenW_tuple, lenW_list, cmp_le, cmp_lt, cmp_gt, cmp_ge, cmp_in, cmp_nin, cmp_eq, cmp_ne, in_str, intOf, asT, asTs, lcGo, gOk_nil, sl_tuple, sl_list, rcv_split, isMut_f, hs, e0', e1, e2, ixl_0, ixl_1, hb, c1, q2, k1, k2, l2, j1, j2, eqX_int]
            · rw [if_neg q4]
              have hbase : ∀ (M : Sto), (s = [] ∨ (a = "define" ∨ a = "decide")) := fun _ => by
                by_cases e : s = []
                · exact .inl e
                · exact .inr (Classical.not_not.mp fun h => q4 ⟨e, h⟩)
              replace hbase := hbase m
              simp only [List.map_cons] at hs
              by_cases q5 : a = "function"
              · subst q5
                have hs0 : s = [] := hbase.elim id fun h => by simp [ofS_inj] at h
                subst hs0
                have hok3 : ∀ m, inW m (wS c) (.dat (.list [.str "1", .str "2", .str "3"])) = some (k123 c) := fun m => in_three (m := m) (hok c (by simp)) s_123
                cases q6 : k123 c with
                | true =>
                  have hi := count_int2 (m := m) (c := c) q6
                  simp only [q6] at hok3
                  simp [d_law_act_read, bd_law_act_read, bodyN, evSs, evS, evE, evC, evO, getV, isiW, tyOf, isiT, fin, cutR, biW_len, lenW_str, lenW_tuple, lenW_list, cmp_le, cmp_lt, cmp_gt, cmp_ge, cmp_in, cmp_nin, cmp_eq, cmp_ne, in_str, intOf, asT, asTs, lcGo, gOk_nil, sl_tuple, sl_list, rcv_split, isMut_f, hs, ixl_0, ixl_1, ixl_2, hb, c1, c2, ofS_inj, k1, k2, k3, l2, l3, j1, eqX_int, gTail, q6, hok3, hi, mkT, datAll]
                | false =>
                  simp only [q6] at hok3
                  simp [d_law_act_read, bd_law_act_read, bodyN, evSs, evS, evE, evC, evO, getV, isiW, tyOf, isiT, fin, cutR, biW_len, lenW_str, lenW_tuple, lenW_list, cmp_le, cmp_lt, cmp_gt, cmp_ge, cmp_in, cmp_nin, cmp_eq, cmp_ne, in_str, intOf, asT, asTs, lcGo, gOk_nil, sl_tuple, sl_list, rcv_split, isMut_f, hs, ixl_0, ixl_1, ixl_2, hb, c1, c2, ofS_inj, k1, k2, k3, l2, l3, j1, eqX_int, gTail, q6, hok3, mkT, datAll]
              · have hj2 : s ≠ [] → ∀ m, inW m (wS a) (.dat (.list [.str "define", .str "decide"])) = some true := fun h m => by
                  rw [i2]
                  rcases hbase.resolve_left h with rfl | rfl <;> simp
                have hgt : gTail a b c s = if isNo (gSpot c) = true ∨ ¬ (a = "drop" ∨ a = "watch" ∨ a = "define" ∨ a = "decide") then .none
                  else if a = "drop" ∨ a = "watch" then .tuple [.str a, .str b, gSpot c]
                  else if s = [] then .none else if isNo (gBody (Txt.join " " s)) = true then .none else .tuple [.str a, .str b, gSpot c, gBody (Txt.join " " s)] := by
                  rw [gTail, if_neg q5]
                rw [hgt]
                have e3 : s ≠ [] → (3 : Int) < (s.length : Int) + 1 + 1 + 1 := fun h => by
                  have := List.length_pos_iff.mpr h
                  omega
                by_cases q6 : isNo (gSpot c) = true ∨ ¬ (a = "drop" ∨ a = "watch" ∨ a = "define" ∨ a = "decide")
                · rw [if_pos q6]
                  cases q7 : isNo (gSpot c) with
                  | true =>
                    have hsn : gSpot c = .none := by cases e : gSpot c <;> first | rfl | (rw [e] at q7; cases q7)
                    rw [hsn] at hsp
                    by_cases hs0 : s = []
                    · subst hs0
                      simp [d_law_act_read, bd_law_act_read, bodyN, evSs, evS, evE, evC, evO, getV, isiW, tyOf, isiT, fin, cutR, biW_len, lenW_str, lenW_tuple, lenW_list, cmp_le, cmp_lt, cmp_gt, cmp_ge, cmp_in, cmp_nin, cmp_eq, cmp_ne, in_str, intOf, asT, asTs, lcGo, gOk_nil, sl_tuple, sl_list, rcv_split, isMut_f, hs, ixl_0, ixl_1, ixl_2, hb, c1, c2, q2, q5, k1, k2, l2, j1, eqX_int, hsp, isn_no, isNo]
                    · simp [d_law_act_read, bd_law_act_read, bodyN, evSs, evS, evE, evC, evO, getV, isiW, tyOf, isiT, fin, cutR, biW_len, lenW_str, lenW_tuple, lenW_list, cmp_le, cmp_lt, cmp_gt, cmp_ge, cmp_in, cmp_nin, cmp_eq, cmp_ne, in_str, intOf, asT, asTs, lcGo, gOk_nil, sl_tuple, sl_list, rcv_split, isMut_f, hs, e0', e1, e3 hs0, hj2 hs0, ixl_0, ixl_1, ixl_2, hb, c1, c2, q2, q5, k1, k2, l2, j1, eqX_int, hsp, isn_no, isNo]
                  | false =>
                    have q8 : ¬ (a = "drop" ∨ a = "watch" ∨ a = "define" ∨ a = "decide") := q6.resolve_left (by rw [q7]; simp)
                    have hs0 : s = [] := hbase.elim id fun h => absurd (h.elim (fun h => .inr (.inr (.inl h))) fun h => .inr (.inr (.inr h))) q8
                    have j4 : ∀ m, inW m (wS a) (.dat (.list [.str "drop", .str "watch", .str "define", .str "decide"])) = some false := fun m => by
                      rw [i4]
                      simp only [not_or] at q8
                      simp [q8]
                    subst hs0
                    simp [d_law_act_read, bd_law_act_read, bodyN, evSs, evS, evE, evC, evO, getV, isiW, tyOf, isiT, fin, cutR, biW_len, lenW_str, lenW_tuple, lenW_list, cmp_le, cmp_lt, cmp_gt, cmp_ge, cmp_in, cmp_nin, cmp_eq, cmp_ne, in_str, intOf, asT, asTs, lcGo, gOk_nil, sl_tuple, sl_list, rcv_split, isMut_f, hs, ixl_0, ixl_1, ixl_2, hb, c1, c2, q2, q5, k1, k2, k4, l2, l4, j1, j4, eqX_int, hsp, isn_no, q7]
                · rw [if_neg q6]
                  rw [not_or, Bool.not_eq_true, Classical.not_not] at q6
                  have j4 : ∀ m, inW m (wS a) (.dat (.list [.str "drop", .str "watch", .str "define", .str "decide"])) = some true := fun m => by
                    rw [i4]
                    rcases q6.2 with rfl | rfl | rfl | rfl <;> simp
                  by_cases q7 : a = "drop" ∨ a = "watch"
                  · rw [if_pos q7]
                    have j5 : ∀ m, inW m (wS a) (.dat (.list [.str "drop", .str "watch"])) = some true := fun m => by
                      rw [i5]
                      rcases q7 with rfl | rfl <;> simp
                    have hs0 : s = [] := hbase.elim id fun h => by
                      rcases q7 with rfl | rfl <;> simp [ofS_inj] at h
                    subst hs0
                    simp [d_law_act_read, bd_law_act_read, bodyN, evSs, evS, evE, evC, evO, getV, isiW, tyOf, isiT, fin, cutR, biW_len, lenW_str, lenW_tuple, lenW_list, cmp_le, cmp_lt, cmp_gt, cmp_ge, cmp_in, cmp_nin, cmp_eq, cmp_ne, in_str, intOf, asT, asTs, lcGo, gOk_nil, sl_tuple, sl_list, rcv_split, isMut_f, hs, ixl_0, ixl_1, ixl_2, hb, c1, c2, q2, q5, k1, k2, k4, k5, l2, l3, l4, j1, j4, j5, eqX_int, hsp, isn_no, q6.1, mkT, datAll]
                  · rw [if_neg q7]
                    have j5 : ∀ m, inW m (wS a) (.dat (.list [.str "drop", .str "watch"])) = some false := fun m => by
                      rw [i5]
                      rw [not_or] at q7
                      simp [q7.1, q7.2]
                    by_cases hs0 : s = []
                    · rw [if_pos hs0]
                      subst hs0
                      simp [d_law_act_read, bd_law_act_read, bodyN, evSs, evS, evE, evC, evO, getV, isiW, tyOf, isiT, fin, cutR, biW_len, lenW_str, lenW_tuple, lenW_list, cmp_le, cmp_lt, cmp_gt, cmp_ge, cmp_in, cmp_nin, cmp_eq, cmp_ne, in_str, intOf, asT, asTs, lcGo, gOk_nil, sl_tuple, sl_list, rcv_split, isMut_f, hs, ixl_0, ixl_1, ixl_2, hb, c1, c2, q2, q5, k1, k2, k4, k5, l2, l3, l4, j1, j4, j5, eqX_int, hsp, isn_no, q6.1, show isNo .none = true from rfl]
                    · rw [if_neg hs0]
                      have hws : Ws 3901 s := ⟨fun w hw2 => hok w (by simp [hw2]), by
                        simp only [sumLen, List.length_cons] at hle
                        omega⟩
                      have hjm : Mx 3901 (Txt.join " " s) := join_mx hws ok_space l_space
                      have hbd := body_readL (B := B) Y n (Txt.join " " s) m (hjm.mono (by decide))
                      have j := join_ok (s := " ") (xs := s) (m := m) (seqOf_strs m s) (by
                        have := hws.le
                        rw [l_space]
                        omega)
                      cases q8 : isNo (gBody (Txt.join " " s)) with
                      | true =>
                        have hsn : gBody (Txt.join " " s) = .none := by cases e : gBody (Txt.join " " s) <;> first | rfl | (rw [e] at q8; cases q8)
                        rw [hsn] at hbd
                        simp [d_law_act_read, bd_law_act_read, bodyN, evSs, evS, evE, evC, evO, getV, isiW, tyOf, isiT, fin, cutR, biW_len, lenW_str, lenW_tuple, lenW_list, cmp_le, cmp_lt, cmp_gt, cmp_ge, cmp_in, cmp_nin, cmp_eq, cmp_ne, in_str, intOf, asT, asTs, lcGo, gOk_nil, sl_tuple, sl_list, rcv_split, rcv_join, isMut_f, hs, e0', e1, e3 hs0, hj2 hs0, ixl_0, ixl_1, ixl_2, hb, c1, c2, q2, q5, k1, k2, k4, k5, l2, l3, l4, j1, j4, j5, eqX_int, hsp, isn_no, q6.1, cutD_3, j, hbd, show isNo .none = true from rfl]
                      | false =>
                        simp [d_law_act_read, bd_law_act_read, bodyN, evSs, evS, evE, evC, evO, getV, isiW, tyOf, isiT, fin, cutR, biW_len, lenW_str, lenW_tuple, lenW_list, cmp_le, cmp_lt, cmp_gt, cmp_ge, cmp_in, cmp_nin, cmp_eq, cmp_ne, in_str, intOf, asT, asTs, lcGo, gOk_nil, sl_tuple, sl_list, rcv_split, rcv_join, isMut_f, hs, e0', e1, e3 hs0, hj2 hs0, ixl_0, ixl_1, ixl_2, hb, c1, c2, q2, q5, k1, k2, k4, k5, l2, l3, l4, j1, j4, j5, eqX_int, hsp, isn_no, q6.1, cutD_3, j, hbd, q8, mkT, datAll]
end
end Lw
/-! Lw: what is told of a text. -/
namespace Lw
open PySem Mi Op Gw
theorem rop_tp {x : Str} {d : PyData} (h : Mx 3900 x) (e : rOp x = some d) : Tp d := by
  have hw := split_space h
  unfold rOp at e
  split at e
  · rename_i d' hf
    split at e
    · cases e
      generalize Txt.split x " " = l at hw hf
      unfold rFind at hf
      split at hf
      · cases hf
      · rename_i w ws
        obtain ⟨ks, hp, rfl⟩ := Option.map_eq_some_iff.mp hf
        have hkl := parts_short hp
        have hwo := hw.tail
        refine Tp.found (by simp; omega) (fun d hd => ?_) ((hw.mem (by simp)).mono (by decide))
        obtain ⟨q, hq, rfl⟩ := List.mem_map.mp hd
        exact rPart_tm ⟨(hwo.drop q.2).ok, Nat.le_trans (hwo.drop q.2).le (by decide)⟩
    · cases e
  · cases e
theorem join_ge (s : Str) (xs : List Str) : sumLen xs + xs.length * s.length ≤ (Txt.join s xs).length + s.length := by
  have h1 := jn_len (s := Sp.cs s) (ps := xs.map Sp.cs)
  rw [sum_cs, List.length_map, ← Sp.len_cs] at h1
  rw [Sp.len_cs (Txt.join s xs), Sp.cs_join]
  exact h1
theorem body_count {ds : List PyData} (h : isBody 3 (.tuple ds) = true) (hl : (wBody (.tuple ds)).length ≤ 3900) : ds.length ≤ 976 := by
  simp only [isBody, Bool.and_eq_true, List.all_eq_true] at h
  by_cases hn : ds = []
  · subst hn
    simp
  · simp only [wBody, hn, if_false] at hl
    have h1 := join_ge "; " (ds.map wStep)
    rw [l_semi, List.length_map] at h1
    have h2 : ∀ es : List PyData, (∀ e ∈ es, isStep 3 e = true) → es.length * 2 ≤ sumLen (es.map wStep) := by
      intro es
      induction es with
      | nil => intro _; simp
      | cons e es ih =>
        intro he
        have a1 := (step_read (he e (by simp))).2.2
        have a2 := ih fun f hf => he f (by simp [hf])
        simp only [List.map_cons, sumLen, List.length_cons]
        omega
    have := h2 ds h.1
    omega
theorem names_vis {ds : List PyData} (h : ds.all isName = true) (hl : ds.length ≤ 4000) : vis (.tuple ds) = true ∧ wt (.tuple ds) ≤ 340000 ∧ (PyData.tuple ds).depth ≤ 4 := by
  have hs : ∀ d ∈ ds, Tm d ∧ vis d = true ∧ wt d ≤ 82 ∧ d.depth = 0 := fun d hd => arg_facts (by simp [isArg, List.all_eq_true.mp h d hd])
  refine ⟨?_, ?_, ?_⟩
  · simp only [vis]
    exact viss_mem.mpr fun d hd => (hs d hd).2.1
  · have := wts_le fun d hd => (hs d hd).2.2.1
    simp only [Mi.wt]
    omega
  · simp only [PyData.depth]
    have := depthAll_le (n := 0).mpr fun d hd => Nat.le_of_eq (hs d hd).2.2.2
    omega
theorem point_vis {p : PyData} (h : isPoint p = true) : vis p = true ∧ wt p ≤ 300 ∧ p.depth ≤ 4 := by
  obtain ⟨ds, rfl, h1, h2⟩ := point_tup h
  obtain ⟨a, _, c⟩ := names_vis h1 (by omega)
  refine ⟨a, ?_, c⟩
  have := wts_le (k := 82) (xs := ds) fun d hd => (arg_facts (d := d) (by simp [isArg, List.all_eq_true.mp h1 d hd])).2.2.1
  simp only [Mi.wt]
  omega
theorem body_vis {ds : List PyData} (h : isBody 3 (.tuple ds) = true) (hl : ds.length ≤ 976) : vis (.tuple ds) = true ∧ wt (.tuple ds) ≤ 490000 ∧ (PyData.tuple ds).depth ≤ 4 := by
  simp only [isBody, Bool.and_eq_true, List.all_eq_true] at h
  have hs : ∀ d ∈ ds, Tm d ∧ vis d = true ∧ wt d ≤ 500 ∧ d.depth ≤ 2 := fun d hd => step_facts (h.1 d hd)
  refine ⟨?_, ?_, ?_⟩
  · simp only [vis]
    exact viss_mem.mpr fun d hd => (hs d hd).2.1
  · have := wts_le fun d hd => (hs d hd).2.2.1
    simp only [Mi.wt]
    omega
  · simp only [PyData.depth]
    have := depthAll_le.mpr fun d hd => (hs d hd).2.2.2
    omega
theorem op_show {d : PyData} (ho : isOp d = true) (hl : (wOp d).length ≤ 3900) (ht : Tp d) : showOk d = true ∧ okS d.shown = true := by
  suffices h : vis d = true ∧ wt d ≤ 1000000 ∧ d.depth ≤ 40 by exact ⟨show_ok h.1 h.2.1 h.2.2, (vis_ok h.1).2.1⟩
  obtain ⟨w, ps, ks, rfl, hp, hlen, hz⟩ := isOp_shape ho
  obtain ⟨_, hq⟩ := ht.tup
  have hw1 := kinds_ok hp
  have hw2 := kinds_len hp
  have v0 : vis (.str w) = true := by simpa [vis] using hw1
  have w0 : wt (.str w) ≤ 82 := by simp only [Mi.wt]; omega
  have d0 : (PyData.str w).depth = 0 := by simp [PyData.depth]
  have one : ∀ {a : PyData}, isName a = true → vis a = true ∧ wt a ≤ 82 ∧ a.depth = 0 := fun {a} ha => by
    obtain ⟨_, b, c, e⟩ := arg_facts (d := a) (by simp [isArg, ha])
    exact ⟨b, c, e⟩
  rcases parts_shape hp with rfl | rfl | rfl | rfl | rfl
  · match ps, hlen with
    | [a], _ =>
      obtain ⟨a1, a2, a3⟩ := one (isPart_name (hz ("name", a) (by simp)))
      refine ⟨?_, ?_, ?_⟩
      · simp only [vis, viss] at *; simp [v0, a1]
      · simp only [Mi.wt, wts] at *; omega
      · simp only [PyData.depth, PyData.depthAll] at *; omega
  · match ps, hlen with
    | [a, b], _ =>
      obtain ⟨a1, a2, a3⟩ := one (isPart_name (hz ("name", a) (by simp)))
      obtain ⟨es, rfl, he⟩ := names_tup (isPart_supers (hz ("superclasses", b) (by simp)))
      obtain ⟨b1, b2, b3⟩ := names_vis he (hq (.tuple es) (by simp)).tup.len_le
      generalize PyData.tuple es = b at *
      refine ⟨?_, ?_, ?_⟩
      · simp only [vis, viss] at *; simp [v0, a1, b1]
      · simp only [Mi.wt, wts] at *; omega
      · simp only [PyData.depth, PyData.depthAll] at *; omega
  · match ps, hlen with
    | [a, b], _ =>
      obtain ⟨a1, a2, a3⟩ := one (isPart_name (hz ("name", a) (by simp)))
      obtain ⟨i, rfl, h0, h1⟩ := count_int (isPart_count (hz ("count", b) (by simp)))
      have hi := it_int (i := i) (by omega) h1
      have b1 := hi.vi
      have b2 := hi.wt
      have b3 := hi.dp
      refine ⟨?_, ?_, ?_⟩
      · simp only [vis, viss] at *; simp [v0, a1, b1]
      · simp only [Mi.wt, wts] at *; omega
      · simp only [PyData.depth, PyData.depthAll] at *; omega
  · match ps, hlen with
    | [a, b], _ =>
      obtain ⟨a1, a2, a3⟩ := one (isPart_name (hz ("name", a) (by simp)))
      obtain ⟨b1, b2, b3⟩ := point_vis (isPart_point (hz ("point", b) (by simp)))
      refine ⟨?_, ?_, ?_⟩
      · simp only [vis, viss] at *; simp [v0, a1, b1]
      · simp only [Mi.wt, wts] at *; omega
      · simp only [PyData.depth, PyData.depthAll] at *; omega
  · match ps, hlen with
    | [a, b, c], _ =>
      obtain ⟨a1, a2, a3⟩ := one (isPart_name (hz ("name", a) (by simp)))
      obtain ⟨b1, b2, b3⟩ := point_vis (isPart_point (hz ("point", b) (by simp)))
      have hc := isPart_body (hz ("body", c) (by simp))
      rw [wOpB hp] at hl
      have hj := join_ge " " [w, txS a, wPoint b, wBody c]
      simp only [sumLen, List.length_cons, List.length_nil, l_space] at hj
      cases c with
      | tuple ds =>
        obtain ⟨c1, c2, c3⟩ := body_vis hc (body_count hc (by omega))
        generalize PyData.tuple ds = c at *
        refine ⟨?_, ?_, ?_⟩
        · simp only [vis, viss] at *; simp [v0, a1, b1, c1]
        · simp only [Mi.wt, wts] at *; omega
        · simp only [PyData.depth, PyData.depthAll] at *; omega
      | _ => cases hc
structure HasE (B : Fe) : Prop where
  sub : B.sub "InvalidText" "InvalidText" = some true
  isx1 : B.isx "InvalidText" "MethodsError" = some true
  isx2 : B.isx "InvalidText" "InvalidOperation" = some false
theorem one_show (i : Int) (h : i = 0 ∨ i = 1) : showOk (.int i) = true ∧ okS (PyData.int i).shown = true := by
  rcases h with rfl | rfl <;> decide +kernel
def isStrD : PyData → Bool
  | .str _ => true
  | _ => false
section
variable {P : Str → Option Df} {B : Fe} (X : Has P B) (Y : HasL P) (E : HasE B)
include X Y E
set_option maxHeartbeats 8000000 in
theorem told_str (n : Nat) (x : Str) (m : Sto) (h : Mx 3900 x) : callN P B (n + 10) "_law_told" [wS x] m = .ok (match rOp x with
    | some d => .dat d
    | none => wI 1) m := by
  rw [callN_at Y.l_law_told]
  have hr := read_op_eq X n x m h
  cases e : rOp x with
  | some d =>
    rw [e] at hr
    simp [d_law_told, bd_law_told, bodyN, evSs, evS, evE, evC, evO, getV, isiW, tyOf, isiT, fin, cutR, biW_len, lenW_str, lenW_tuple, lenW_list, cmp_le, cmp_lt, cmp_gt, cmp_ge, cmp_in, cmp_nin, cmp_eq, cmp_ne, in_str, intOf, asT, asTs, lcGo, gOk_nil, sl_tuple, sl_list, hr]
  | none =>
    rw [e] at hr
    simp [d_law_told, bd_law_told, bodyN, evSs, evS, evE, evC, evO, getV, isiW, tyOf, isiT, fin, cutR, biW_len, lenW_str, lenW_tuple, lenW_list, cmp_le, cmp_lt, cmp_gt, cmp_ge, cmp_in, cmp_nin, cmp_eq, cmp_ne, in_str, intOf, asT, asTs, lcGo, gOk_nil, sl_tuple, sl_list, hr, E.sub, evH, evX, E.isx1, E.isx2, X.fIT]
set_option maxHeartbeats 8000000 in
theorem told_no (n : Nat) (d : PyData) (m : Sto) (h : isStrD d = false) : callN P B (n + 2) "_law_told" [.dat d] m = .ok (wI 0) m := by
  rw [callN_at Y.l_law_told]
  have hr : callN P B (n + 1) "read_operation" [.dat d] m = .exc "InvalidText" [("line", wI 0)] m := by
    rw [callN_at X.read_operation]
    cases d <;> first | (cases h; done) | simp [dread_operation, bdread_operation, bodyN, evSs, evS, evE, evC, evO, getV, isiW, tyOf, isiT, fin, cutR, biW_len, lenW_str, lenW_tuple, lenW_list, cmp_le, cmp_lt, cmp_gt, cmp_ge, cmp_in, cmp_nin, cmp_eq, cmp_ne, in_str, intOf, asT, asTs, lcGo, gOk_nil, sl_tuple, sl_list, X.fIT]
  simp [d_law_told, bd_law_told, bodyN, evSs, evS, evE, evC, evO, getV, isiW, tyOf, isiT, fin, cutR, biW_len, lenW_str, lenW_tuple, lenW_list, cmp_le, cmp_lt, cmp_gt, cmp_ge, cmp_in, cmp_nin, cmp_eq, cmp_ne, in_str, intOf, asT, asTs, lcGo, gOk_nil, sl_tuple, sl_list, hr, E.sub, evH, evX, E.isx1, E.isx2, X.fIT]
set_option maxHeartbeats 8000000 in
theorem right_no (n : Nat) (d : PyData) (m : Sto) (h : isStrD d = false) : callN P B (n + 3) "_law_right" [.dat d] m = .ok (wB true) m := by
  rw [callN_at Y.l_law_right]
  have ht := told_no X Y E n d m h
  obtain ⟨s1, s2⟩ := one_show 0 (.inl rfl)
  have hr := fun m => repr_ok m s1
  have hne := fun m => ne_str (m := m) s2
  cases d <;> first | (cases h; done) | simp [d_law_right, bd_law_right, bodyN, evSs, evS, evE, evC, evO, getV, isiW, tyOf, isiT, fin, cutR, biW_len, lenW_str, lenW_tuple, lenW_list, cmp_le, cmp_lt, cmp_gt, cmp_ge, cmp_in, cmp_nin, cmp_eq, cmp_ne, in_str, intOf, asT, asTs, lcGo, gOk_nil, sl_tuple, sl_list, ht, hr, hne]
set_option maxHeartbeats 8000000 in
theorem right_str (n : Nat) (x : Str) (m : Sto) (h : Mx 3900 x) : callN P B (n + 11) "_law_right" [wS x] m = .ok (wB true) m := by
  rw [callN_at Y.l_law_right]
  have ht := told_str X Y E n x m h
  have ha := act_readL (B := B) Y (n + 6) x m h
  rw [act_read] at ha
  cases e : rOp x with
  | none =>
    rw [e] at ht ha
    obtain ⟨s1, s2⟩ := one_show 1 (.inr rfl)
    have hr := fun m => repr_ok m s1
    have hne := fun m => ne_str (m := m) s2
    simp [d_law_right, bd_law_right, bodyN, evSs, evS, evE, evC, evO, getV, isiW, tyOf, isiT, fin, cutR, biW_len, lenW_str, lenW_tuple, lenW_list, cmp_le, cmp_lt, cmp_gt, cmp_ge, cmp_in, cmp_nin, cmp_eq, cmp_ne, in_str, intOf, asT, asTs, lcGo, gOk_nil, sl_tuple, sl_list, ht, ha, isn_no, isNo, hr, hne]
  | some d =>
    rw [e] at ht ha
    obtain ⟨h1, h2⟩ := op_of e
    have htp := rop_tp h e
    obtain ⟨s1, s2⟩ := op_show h1 (by rw [h2]; exact h.le) htp
    have hr := fun m => repr_ok m s1
    have hne := fun m => ne_str (m := m) s2
    have hno : isNo d = false := by cases d <;> first | rfl | cases h1
    have his := is_operation_eq X (n + 4) d m htp
    have hwr := write_op_eq X (n + 3) d m htp h1
    rw [h1] at his
    rw [h2] at hwr
    have hty : ∃ ds, d = .tuple ds := by
      obtain ⟨w, ps, ks, rfl, _⟩ := isOp_shape h1
      exact ⟨_, rfl⟩
    obtain ⟨ds, rfl⟩ := hty
    have hq : eqX m (wS x) (wS x) = some true := by rw [eqX_ss h.ok h.ok]; simp
    simp [d_law_right, bd_law_right, bodyN, evSs, evS, evE, evC, evO, getV, isiW, tyOf, isiT, fin, cutR, biW_len, lenW_str, lenW_tuple, lenW_list, cmp_le, cmp_lt, cmp_gt, cmp_ge, cmp_in, cmp_nin, cmp_eq, cmp_ne, in_str, intOf, asT, asTs, lcGo, gOk_nil, sl_tuple, sl_list, ht, ha, isn_no, hno, hr, hne, his, hwr, hq]
end
end Lw
/-! Lw: texts that are spoilt. -/
namespace Lw
open PySem Mi Op Gw
theorem slice_mx {n : Nat} {x : Str} (h : Mx n x) (l u : Option Int) : Mx n (Txt.slice x l u) := by
  refine ⟨?_, Nat.le_trans (Txt.slice_le x l u) h.le⟩
  rw [okS_iff]
  intro c hc
  refine okS_iff.mp h.ok c ?_
  unfold Txt.slice at hc
  split at hc
  · exact hc
  · simp only [Sp.cs, List.mem_filterMap] at hc
    obtain ⟨k, _, hk⟩ := hc
    exact Array.mem_toList_iff.mpr (Array.mem_of_getElem? hk)
theorem sl_str {m : Sto} {x : Str} {l u : Option Int} (h : x.length ≤ lim) : slW m (wS x) l u = some (wS (Txt.slice x l u)) := if_pos h
theorem app_mx {n k : Nat} {x y : Str} (h1 : Mx n x) (h2 : Mx k y) : Mx (n + k) (x ++ y) := ⟨by rw [okS_app, h1.ok, h2.ok]; rfl, by have := h1.le; have := h2.le; rw [len_app]; omega⟩
theorem add_mx {m : Sto} {n k : Nat} {x y : Str} (h1 : Mx n x) (h2 : Mx k y) (h : n + k ≤ 1000000) : binW .add (wS x) (wS y) m = some (wS (x ++ y)) := add_str (by have := h1.le; have := h2.le; omega)
theorem sum_set : ∀ {ws : List Str} {p : Nat} {v w : Str}, ws[p]? = some v → sumLen (ws.set p w) + v.length = sumLen ws + w.length
  | [], p, v, w, h => by simp at h
  | x :: ws, 0, v, w, h => by
    simp at h
    subst h
    simp only [List.set_cons_zero, sumLen]
    omega
  | x :: ws, p + 1, v, w, h => by
    have := sum_set (ws := ws) (p := p) (v := v) (w := w) (by simpa using h)
    simp only [List.set_cons_succ, sumLen]
    omega
theorem sum_take_drop (ws : List Str) (p : Nat) : sumLen (ws.take p) + sumLen (ws.drop p) = sumLen ws := by
  rw [← sumLen_app, List.take_append_drop]
theorem sum_erase : ∀ (ws : List Str) (p : Nat), sumLen (ws.eraseIdx p) ≤ sumLen ws
  | [], p => by simp
  | x :: ws, 0 => by simp [sumLen]
  | x :: ws, p + 1 => by
    have := sum_erase ws p
    simp only [List.eraseIdx_cons_succ, sumLen]
    omega
theorem set_ok {ws : List Str} {p : Nat} {w : Str} (h : ∀ v ∈ ws, okS v = true) (hw : okS w = true) : ∀ v ∈ ws.set p w, okS v = true := fun v hv => by
  rcases List.mem_or_eq_of_mem_set hv with hv | rfl
  · exact h v hv
  · exact hw
/-! ### a list of the store -/
theorem dats (ws : List Str) : ws.map wS = (ws.map PyData.str).map W.dat := by rw [List.map_map]; rfl
theorem spl_ok {L : Nat} {m : Sto} {x : Str} (h : x.length ≤ lim) : mutW L .splitB (wS x) [wS " "] m = some (.ref m.length, m ++ [.lst ((Txt.split x " ").map wS)]) := if_pos ⟨ln_space, h⟩
theorem ix_box {m : Sto} {ws : List Str} {p : Nat} {v : Str} (h : ws[p]? = some v) : ixW (m ++ [.lst (ws.map wS)]) (.ref m.length) (wI p) = some (wS v) := by
  show (seqOf (m ++ [.lst (ws.map wS)]) (.ref m.length)).bind (fun us => L2.atI us (p : Int)) = _
  rw [seqOf_app, Option.bind_some, atI_k (x := wS v) (by rw [List.getElem?_map, h]; rfl)]
theorem sto_box {m : Sto} {ws : List Str} {p : Nat} {v : Str} (h : p < ws.length) (hl : ws.length ≤ 1000000) : stoIx m.length (.ref m.length) (wI p) (wS v) (m ++ [.lst (ws.map wS)]) = some (m ++ [.lst ((ws.set p v).map wS)]) := by
  have hn : L2.ixN (ws.map wS).length (p : Int) = some p := by
    rw [List.length_map]
    unfold L2.ixN
    rw [if_pos (Int.natCast_nonneg p), if_pos (by omega), Int.toNat_natCast]
  show ((cellL (m ++ [.lst (ws.map wS)]) m.length).bind fun us => (L2.ixN us.length (p : Int)).bind fun j => setCell m.length m.length (us.set j (wS v)) [wS v] (m ++ [.lst (ws.map wS)])) = _
  rw [cellL_app, Option.bind_some, hn, Option.bind_some, setCell_app _ _ _ _ (by
    simp only [List.length_set, List.length_map]
    exact hl), List.map_set]
theorem ins_box {m : Sto} {ws : List Str} {p : Nat} {v : Str} (h : p ≤ 1000000) (hl : ws.length + 1 ≤ 1000000) : mutW m.length .insert (.ref m.length) [wI p, wS v] (m ++ [.lst (ws.map wS)]) = some (wN, m ++ [.lst ((ws.take p ++ [v] ++ ws.drop p).map wS)]) := by
  have hz : (ws.map wS).take p ++ [wS v] ++ (ws.map wS).drop p = (ws.take p ++ [v] ++ ws.drop p).map wS := by
    rw [List.map_append, List.map_append, List.map_take, List.map_drop]
    rfl
  have hb : ((ws.take p ++ [v] ++ ws.drop p).map wS).length ≤ lim := by
    show _ ≤ 1000000
    simp only [List.length_map, List.length_append, List.length_take, List.length_drop, List.length_cons, List.length_nil]
    omega
  show ((cellL (m ++ [.lst (ws.map wS)]) m.length).bind fun us => if (0 : Int) ≤ p ∧ (p : Int) ≤ 1000000 then (setCell m.length m.length (us.take (p : Int).toNat ++ [wS v] ++ us.drop (p : Int).toNat) [wS v] (m ++ [.lst (ws.map wS)])).map fun m => (wN, m) else none) = _
  rw [cellL_app, Option.bind_some, if_pos ⟨by omega, by omega⟩, Int.toNat_natCast, hz, setCell_app _ _ _ _ hb]
  rfl
theorem map_erase {α β : Type} (f : α → β) : ∀ (l : List α) (p : Nat), (l.map f).eraseIdx p = (l.eraseIdx p).map f
  | [], p => by simp
  | x :: l, 0 => by simp
  | x :: l, p + 1 => by simp [map_erase f l p]
theorem pop_box {m : Sto} {ws : List Str} {p : Nat} {v : Str} (h : ws[p]? = some v) (hl : ws.length ≤ 1000000) : mutW m.length .pop (.ref m.length) [wI p] (m ++ [.lst (ws.map wS)]) = some (wS v, m ++ [.lst ((ws.eraseIdx p).map wS)]) := by
  have hp := (List.getElem?_eq_some_iff.mp h).1
  have hb : ((ws.eraseIdx p).map wS).length ≤ lim := by
    show _ ≤ 1000000
    rw [List.length_map]
    exact Nat.le_trans (List.length_eraseIdx_le ws p) hl
  have he : (ws.map wS).eraseIdx p = (ws.eraseIdx p).map wS := map_erase wS ws p
  show ((cellL (m ++ [.lst (ws.map wS)]) m.length).bind fun us => if (0 : Int) ≤ p ∧ (p : Int) ≤ 1000000 then match us[(p : Int).toNat]? with
        | some v => (setCell m.length m.length (us.eraseIdx (p : Int).toNat) [] (m ++ [.lst (ws.map wS)])).map fun m => (v, m)
        | none => none
      else none) = _
  rw [cellL_app, Option.bind_some, if_pos ⟨by omega, by omega⟩, Int.toNat_natCast, List.getElem?_map, h]
  simp only [Option.map_some]
  rw [he, setCell_app _ _ _ _ hb]
  rfl
theorem len_boxS {m : Sto} {ws : List Str} : lenW (m ++ [.lst (ws.map wS)]) (.ref m.length) = some ws.length := by
  rw [dats, len_box, List.length_map]
theorem join_box {m : Sto} {ws : List Str} (h : sumLen ws + ws.length ≤ 1000000) : metW .join (wS " ") [.ref m.length] (m ++ [.lst (ws.map wS)]) = some (wS (Txt.join " " ws)) := join_ok (seqOf_app m _) (by rw [l_space]; omega)
theorem rcv_b (m : Sto) (ws : List W) : rcv .insert (.ref m.length) (m ++ [.lst ws]) = true ∧ rcv .pop (.ref m.length) (m ++ [.lst ws]) = true := by
  constructor <;> simp [rcv, isBox, cellL_app]
def oddW : List Str := ["", "-", "a", "next", "say", "0", "01", "4", "a,b", "a,", "next;", "class", "call", "undo"]
theorem oddW_ok : ∀ w ∈ oddW, Mx 5 w := by
  have h : oddW.all (fun w => okS w && decide (w.length ≤ 5)) = true := by decide +kernel
  intro w hw
  have := List.all_eq_true.mp h w hw
  simp only [Bool.and_eq_true, decide_eq_true_eq] at this
  exact ⟨this.1, this.2⟩
end Lw
/-! Lw: spoiling, walked. -/
namespace Lw
open PySem Mi Op Gw
theorem evS_to {F : Fe} {s : Mi.St} {σ σ' : En} {m m' : Sto} {K : En → Sto → Prop} {R : W → Sto → Prop} (h : evS F s σ m = .nx σ' m') (k : K σ' m') : (evS F s σ m).to K R := by
  rw [h]
  exact k
section
variable {P : Str → Option Df} {B : Fe} (Y : HasL P)
include Y
set_option maxHeartbeats 16000000 in
theorem spoilt_wordsL (n : Nat) (m : Sto) (i : Nat) (a b : Int) (x : Str) (k : Nat) (hi : i < m.length) (h : Mx k x) (hk : k ≤ 3900) : ∃ (y : Str) (a' b' : Int), callN P B (n + 2) "_law_spoilt_words" [.ref i, wS x] (m.set i (pc a b)) = .ok (wS y) (m.set i (pc a' b')) ∧ Mx (2 * k + 20) y := by
  rw [callN_at Y.l_law_spoilt_words]
  have hx : x.length ≤ lim := by
    have := h.le
    show _ ≤ 1000000
    omega
  have hw := split_space h
  have hne := split_ne x " " l_space1 k_space
  have hsp := fun (L : Nat) (m : Sto) => spl_ok (L := L) (m := m) hx
  generalize Txt.split x " " = ws at hw hne hsp
  have hl1 : 1 ≤ ws.length := List.length_pos_iff.mpr hne
  have hle := hw.le
  have hi2 : i < (m ++ [Cell.lst (ws.map wS)]).length := by simp; omega
  obtain ⟨r1, a1, b1, e1, p0, p1⟩ := drawL (B := B) Y.toHasG n ws.length (m ++ [.lst (ws.map wS)]) i a b hi2 (by omega) (by omega)
  obtain ⟨r2, a2, b2, e2, q0, q1⟩ := drawL (B := B) Y.toHasG n ws.length (m ++ [.lst (ws.map wS)]) i a1 b1 hi2 (by omega) (by omega)
  obtain ⟨r3, a3, b3, e3, w0, w1⟩ := drawL (B := B) Y.toHasG n 5 (m ++ [.lst (ws.map wS)]) i a2 b2 hi2 (by decide) (by decide)
  obtain ⟨r4, a4, b4, e4, o0, o1⟩ := drawL (B := B) Y.toHasG n 14 (m ++ [.lst (ws.map wS)]) i a3 b3 hi2 (by decide) (by decide)
  obtain ⟨p, rfl⟩ := Int.eq_ofNat_of_zero_le p0
  obtain ⟨q, rfl⟩ := Int.eq_ofNat_of_zero_le q0
  have hp : p < ws.length := by omega
  have hq : q < ws.length := by omega
  have gp : ws[p]? = some ws[p] := by simp [hp]
  have gq : ws[q]? = some ws[q] := by simp [hq]
  have mp : Mx (k + 1) ws[p] := hw.mem (List.getElem_mem hp)
  have mq : Mx (k + 1) ws[q] := hw.mem (List.getElem_mem hq)
  have sp := sum_mem (List.getElem_mem hp)
  have sq := sum_mem (List.getElem_mem hq)
  simp only [set_box hi] at e1 e2 e3 e4
  obtain ⟨d, hd, e5⟩ := ixl_any (m.set i (pc a4 b4) ++ [.lst (ws.map wS)]) (ds := oddW.map .str) o0 (by simpa [oddW] using o1)
  obtain ⟨u, hu, rfl⟩ := List.mem_map.mp hd
  have hu5 := oddW_ok u hu
  have hodd : mkL [wS "", wS "-", wS "a", wS "next", wS "say", wS "0", wS "01", wS "4", wS "a,b", wS "a,", wS "next;", wS "class", wS "call", wS "undo"] = .dat (.list (oddW.map .str)) := mkL_map (oddW.map .str)
  have lb := fun c => len_boxS (m := m.set i c) (ws := ws)
  have l14 : 14 ≤ lim := by decide
  have l2 : 2 ≤ lim := by decide
  have xp := fun c => ix_box (m := m.set i c) gp
  have xq := fun c => ix_box (m := m.set i c) gq
  simp only [List.length_set] at lb xp xq
  have hS : ∀ (S : Sto), (m.set i (pc a b)).length = m.length := fun _ => List.length_set
  have hsp1 := hsp m.length (m.set i (pc a b))
  rw [List.length_set] at hsp1
  have done : ∀ (a' b' : Int) (vs : List Str), (∀ v ∈ vs, okS v = true) → sumLen vs + vs.length ≤ 2 * k + 20 → ∀ σ : En, getV σ 2 = some (.ref m.length) → (evSs { B with call := callN P B (n + 1), L := m.length } [.ret (.met .join (.con (.str " ")) [.var 2])] σ (m.set i (pc a' b') ++ [.lst (vs.map wS)])).to (fun _ _ => False) fun w m' => ∃ w', frz m.length m' 40 w = some w' ∧ ∃ (y : Str), w' = wS y ∧ (∃ a' b', m'.take m.length = m.set i (pc a' b')) ∧ Mx (2 * k + 20) y := by
    intro a' b' vs hok hsum σ hσ
    have j := join_box (m := m.set i (pc a' b')) (ws := vs) (by omega)
    have htk := take_box (m := m.set i (pc a' b')) (c := .lst (vs.map wS))
    rw [List.length_set] at j htk
    simp only [evSs, evS, evE, evEs_var, evEs_nil, hσ, lift_some, bind_ok, rcv_join, isMut_f, j, st_ok, then_rt, to_rt]
    exact ⟨_, frz_dat _ _ _, _, rfl, ⟨a', b', htk⟩, join_mx ⟨hok, hsum⟩ ok_space l_space⟩
  suffices hto : (bodyN { B with call := callN P B (n + 1), L := (m.set i (pc a b)).length } d_law_spoilt_words [.ref i, wS x] (m.set i (pc a b))).to fun w m' => ∃ (y : Str) (a' b' : Int), w = wS y ∧ m' = m.set i (pc a' b') ∧ Mx (2 * k + 20) y by
    obtain ⟨w, m', e, y, a', b', rfl, rfl, h⟩ := Res.to_eq hto
    exact ⟨y, a', b', e, h⟩
  simp only [d_law_spoilt_words, bodyN, List.length_cons, List.length_nil, decide_true, List.length_set]
  refine fin_pure ?_
  simp only [bd_law_spoilt_words]
  refine to_cons ?_
  simp [bodyN, evSs_nil, evS, evE, evC, evO, getV, isiW, tyOf, isiT, biW_len, lenW_str, lenW_tuple, lenW_list, cmp_le, cmp_lt, cmp_gt, cmp_ge, cmp_in, cmp_nin, cmp_eq, cmp_ne, in_str, intOf, asT, asTs, lcGo, gOk_nil, sl_tuple, sl_list, rcv, strOf, isMut, hsp1]
  refine to_cons ?_
  simp [bodyN, evSs_nil, evS, evE, evC, evO, getV, isiW, tyOf, isiT, biW_len, lenW_str, lenW_tuple, lenW_list, cmp_le, cmp_lt, cmp_gt, cmp_ge, cmp_in, cmp_nin, cmp_eq, cmp_ne, in_str, intOf, asT, asTs, lcGo, gOk_nil, sl_tuple, sl_list, setAll, lb, e1, e2, e3]
  refine to_cons ?_
  simp [bodyN, evSs_nil, evS, evE, evC, evO, getV, isiW, tyOf, isiT, biW_len, lenW_str, lenW_tuple, lenW_list, cmp_le, cmp_lt, cmp_gt, cmp_ge, cmp_in, cmp_nin, cmp_eq, cmp_ne, in_str, intOf, asT, asTs, lcGo, gOk_nil, sl_tuple, sl_list, hodd, l14]
  refine to_cons ?_
  simp [bodyN, evSs_nil, evS, evE, evC, evO, getV, isiW, tyOf, isiT, biW_len, lenW_str, lenW_tuple, lenW_list, cmp_le, cmp_lt, cmp_gt, cmp_ge, cmp_in, cmp_nin, cmp_eq, cmp_ne, in_str, intOf, asT, asTs, lcGo, gOk_nil, sl_tuple, sl_list, e4, e5]
  refine to_cons ?_
  have w3 : r3 = 0 ∨ r3 = 1 ∨ r3 = 2 ∨ r3 = 3 ∨ r3 = 4 := by omega
  rcases w3 with rfl | rfl | rfl | rfl | rfl
  · have s1 := sto_box (m := m.set i (pc a4 b4)) (v := ws[q]) hp (by omega)
    have s2 := sto_box (m := m.set i (pc a4 b4)) (ws := ws.set p ws[q]) (p := q) (v := ws[p]) (by simpa using hq) (by simp; omega)
    rw [List.length_set] at s1 s2
    have g2 : (ws.set p ws[q])[q]? = some ws[q] := by
      rw [List.getElem?_set]
      by_cases e : p = q
      · subst e
        simp [hp]
      · simp [e, hq]
    have t1 := sum_set (w := ws[q]) gp
    have t2 := sum_set (w := ws[p]) g2
    have hlen : ((ws.set p ws[q]).set q ws[p]).length = ws.length := by simp
    have dn := done a4 b4 ((ws.set p ws[q]).set q ws[p]) (set_ok (set_ok hw.ok mq.ok) mp.ok) (by omega) [some (.ref i), some (wS x), some (.ref m.length), some (wI p), some (wI q), some (wI 0), some (.dat (.list (oddW.map .str))), some (wS u)] rfl
    refine evS_to ?_ dn
    simp [bodyN, evSs, evS, evE, evC, evO, getV, isiW, tyOf, isiT, biW_len, lenW_str, lenW_tuple, lenW_list, cmp_le, cmp_lt, cmp_gt, cmp_ge, cmp_in, cmp_nin, cmp_eq, cmp_ne, in_str, intOf, asT, asTs, lcGo, gOk_nil, sl_tuple, sl_list, eqX_int, xp, xq, mkT, datAll, l2, s1, s2, -List.map_set]
  · have s1 := ins_box (m := m.set i (pc a4 b4)) (ws := ws) (p := p) (v := ws[q]) (by omega) (by omega)
    have r1 := (rcv_b (m.set i (pc a4 b4)) (ws.map wS)).1
    rw [List.length_set] at s1 r1
    have t1 := sum_take_drop ws p
    have hsum : sumLen (ws.take p ++ [ws[q]] ++ ws.drop p) = sumLen ws + ws[q].length := by
      rw [sumLen_app, sumLen_app]
      simp only [sumLen]
      omega
    have hlen : (ws.take p ++ [ws[q]] ++ ws.drop p).length = ws.length + 1 := by
      simp only [List.length_append, List.length_take, List.length_drop, List.length_cons, List.length_nil]
      omega
    have dn := done a4 b4 (ws.take p ++ [ws[q]] ++ ws.drop p) (fun v hv => by
      simp only [List.mem_append, List.mem_singleton] at hv
      rcases hv with (hv | rfl) | hv
      · exact hw.ok v (List.mem_of_mem_take hv)
      · exact mq.ok
      · exact hw.ok v (List.mem_of_mem_drop hv)) (by omega) [some (.ref i), some (wS x), some (.ref m.length), some (wI p), some (wI q), some (wI 1), some (.dat (.list (oddW.map .str))), some (wS u)] rfl
    generalize ws.take p ++ [ws[q]] ++ ws.drop p = vs at s1 dn
    refine evS_to ?_ dn
    simp [bodyN, evSs, evS, evE, evC, evO, getV, isiW, tyOf, isiT, biW_len, lenW_str, lenW_tuple, lenW_list, cmp_le, cmp_lt, cmp_gt, cmp_ge, cmp_in, cmp_nin, cmp_eq, cmp_ne, in_str, intOf, asT, asTs, lcGo, gOk_nil, sl_tuple, sl_list, eqX_int, xq, r1, isMut_t, s1]
  · have s1 := pop_box (m := m.set i (pc a4 b4)) gp (by omega)
    have r1 := (rcv_b (m.set i (pc a4 b4)) (ws.map wS)).2
    rw [List.length_set] at s1 r1
    have t1 := sum_erase ws p
    have hlen := List.length_eraseIdx_le ws p
    have dn := done a4 b4 (ws.eraseIdx p) (fun v hv => hw.ok v (List.mem_of_mem_eraseIdx hv)) (by omega) [some (.ref i), some (wS x), some (.ref m.length), some (wI p), some (wI q), some (wI 2), some (.dat (.list (oddW.map .str))), some (wS u)] rfl
    generalize ws.eraseIdx p = vs at s1 dn
    refine evS_to ?_ dn
    simp [bodyN, evSs, evS, evE, evC, evO, getV, isiW, tyOf, isiT, biW_len, lenW_str, lenW_tuple, lenW_list, cmp_le, cmp_lt, cmp_gt, cmp_ge, cmp_in, cmp_nin, cmp_eq, cmp_ne, in_str, intOf, asT, asTs, lcGo, gOk_nil, sl_tuple, sl_list, eqX_int, r1, isMut_t, s1]
  · have s1 := sto_box (m := m.set i (pc a4 b4)) (v := u) hp (by omega)
    rw [List.length_set] at s1
    have t1 := sum_set (w := u) gp
    have hu2 := hu5.le
    have hlen : (ws.set p u).length = ws.length := by simp
    have dn := done a4 b4 (ws.set p u) (set_ok hw.ok hu5.ok) (by omega) [some (.ref i), some (wS x), some (.ref m.length), some (wI p), some (wI q), some (wI 3), some (.dat (.list (oddW.map .str))), some (wS u)] rfl
    refine evS_to ?_ dn
    simp [bodyN, evSs, evS, evE, evC, evO, getV, isiW, tyOf, isiT, biW_len, lenW_str, lenW_tuple, lenW_list, cmp_le, cmp_lt, cmp_gt, cmp_ge, cmp_in, cmp_nin, cmp_eq, cmp_ne, in_str, intOf, asT, asTs, lcGo, gOk_nil, sl_tuple, sl_list, eqX_int, s1]
  · have s1 := sto_box (m := m.set i (pc a4 b4)) (v := ws[p] ++ u) hp (by omega)
    rw [List.length_set] at s1
    have t1 := sum_set (w := ws[p] ++ u) gp
    rw [len_app] at t1
    have hu2 := hu5.le
    have ad := add_mx (m := m.set i (pc a4 b4) ++ [.lst (ws.map wS)]) mp hu5 (by omega)
    have hlen : (ws.set p (ws[p] ++ u)).length = ws.length := by simp
    have dn := done a4 b4 (ws.set p (ws[p] ++ u)) (set_ok hw.ok (by rw [okS_app, mp.ok, hu5.ok]; rfl)) (by omega) [some (.ref i), some (wS x), some (.ref m.length), some (wI p), some (wI q), some (wI 4), some (.dat (.list (oddW.map .str))), some (wS u)] rfl
    refine evS_to ?_ dn
    simp [bodyN, evSs, evS, evE, evC, evO, getV, isiW, tyOf, isiT, biW_len, lenW_str, lenW_tuple, lenW_list, cmp_le, cmp_lt, cmp_gt, cmp_ge, cmp_in, cmp_nin, cmp_eq, cmp_ne, in_str, intOf, asT, asTs, lcGo, gOk_nil, sl_tuple, sl_list, eqX_int, xp, ad, s1]
end
end Lw
/-! Lw: spoiling; the law. -/
namespace Lw
open PySem Mi Op Gw
theorem sign_len : ("abnx ;,-0129A.+" : Str).length = 15 := by decide +kernel
theorem sign_ok : ∀ c ∈ Sp.cs ("abnx ;,-0129A.+" : Str), Mx 1 (⟨#[c]⟩ : Str) := by
  have h : (Sp.cs ("abnx ;,-0129A.+" : Str)).all (fun c => decide (c < 0x110000)) = true := by decide +kernel
  intro c hc
  have := of_decide_eq_true (List.all_eq_true.mp h c hc)
  refine ⟨?_, Nat.le_refl 1⟩
  rw [okS_iff]
  intro d hd
  simp only [Sp.cs, List.mem_cons, List.not_mem_nil, or_false] at hd
  rw [hd]
  exact this
theorem lit_mx (s : String) (h : s.length ≤ 6) : Mx 6 (Str.ofString s) := ⟨okS_of s, by rw [len_of]; exact h⟩
section
variable {P : Str → Option Df} {B : Fe} (Y : HasL P)
include Y
set_option maxHeartbeats 16000000 in
theorem spoiltL (n : Nat) (m : Sto) (i : Nat) (a b : Int) (x : Str) (k : Nat) (hi : i < m.length) (h : Mx k x) (hk : k ≤ 3900) : ∃ (y : Str) (a' b' : Int), callN P B (n + 3) "_law_spoilt" [.ref i, wS x] (m.set i (pc a b)) = .ok (wS y) (m.set i (pc a' b')) ∧ Mx (2 * k + 20) y := by
  rw [callN_at Y.l_law_spoilt]
  have hle := h.le
  have hx : x.length ≤ lim := by
    show _ ≤ 1000000
    omega
  obtain ⟨w, a1, b1, e1, w0, w1⟩ := drawL (B := B) Y.toHasG (n + 1) 7 m i a b hi (by decide) (by decide)
  obtain ⟨t, a2, b2, e2, t0, t1⟩ := drawL (B := B) Y.toHasG (n + 1) (x.length + 1) m i a1 b1 hi (by omega) (by omega)
  obtain ⟨g, a3, b3, e3, g0, g1⟩ := drawL (B := B) Y.toHasG (n + 1) 15 m i a2 b2 hi (by decide) (by decide)
  obtain ⟨c, hc, e4⟩ := ixs_any (m.set i (pc a3 b3)) (x := "abnx ;,-0129A.+") (r := g) (by rw [sign_len]; decide) g0 (by rw [sign_len]; exact g1)
  have hs := sign_ok c hc
  have lx := lenW_str x (m.set i (pc a1 b1)) hx
  have cl : callN P B (n + 2) "_law_draw" [.ref i, wI (x.length + 1)] (m.set i (pc a1 b1)) = .ok (wI t) (m.set i (pc a2 b2)) := e2
  have m1 := slice_mx h none (some t)
  have m2 := slice_mx h (some t) none
  have m3 := slice_mx h (some (t + 1)) none
  have sl := fun (l u : Option Int) => sl_str (m := m.set i (pc a3 b3)) (l := l) (u := u) hx
  have hw : w = 0 ∨ w = 1 ∨ w = 2 ∨ w = 3 ∨ 4 ≤ w := by omega
  rcases hw with rfl | rfl | rfl | rfl | hw
  · have s1 := add_mx (m := m.set i (pc a3 b3)) m1 hs (by omega)
    have s2 := add_mx (m := m.set i (pc a3 b3)) (app_mx m1 hs) m2 (by omega)
    refine ⟨_, a3, b3, ?_, (app_mx (app_mx m1 hs) m2).mono (by omega)⟩
    simp [d_law_spoilt, bd_law_spoilt, bodyN, evSs, evS, evE, evC, evO, getV, isiW, tyOf, isiT, fin, cutR, biW_len, lenW_str, lenW_tuple, lenW_list, cmp_le, cmp_lt, cmp_gt, cmp_ge, cmp_in, cmp_nin, cmp_eq, cmp_ne, in_str, intOf, asT, asTs, lcGo, gOk_nil, sl_tuple, sl_list, setAll, hx, add_i, e1, cl, e3, e4, eqX_int, sl, s1, s2]
  · have s1 := add_mx (m := m.set i (pc a3 b3)) m1 hs (by omega)
    have s2 := add_mx (m := m.set i (pc a3 b3)) (app_mx m1 hs) m3 (by omega)
    refine ⟨_, a3, b3, ?_, (app_mx (app_mx m1 hs) m3).mono (by omega)⟩
    simp [d_law_spoilt, bd_law_spoilt, bodyN, evSs, evS, evE, evC, evO, getV, isiW, tyOf, isiT, fin, cutR, biW_len, lenW_str, lenW_tuple, lenW_list, cmp_le, cmp_lt, cmp_gt, cmp_ge, cmp_in, cmp_nin, cmp_eq, cmp_ne, in_str, intOf, asT, asTs, lcGo, gOk_nil, sl_tuple, sl_list, setAll, hx, add_i, e1, cl, e3, e4, eqX_int, sl, s1, s2]
  · have s2 := add_mx (m := m.set i (pc a3 b3)) m1 m3 (by omega)
    refine ⟨_, a3, b3, ?_, (app_mx m1 m3).mono (by omega)⟩
    simp [d_law_spoilt, bd_law_spoilt, bodyN, evSs, evS, evE, evC, evO, getV, isiW, tyOf, isiT, fin, cutR, biW_len, lenW_str, lenW_tuple, lenW_list, cmp_le, cmp_lt, cmp_gt, cmp_ge, cmp_in, cmp_nin, cmp_eq, cmp_ne, in_str, intOf, asT, asTs, lcGo, gOk_nil, sl_tuple, sl_list, setAll, hx, add_i, e1, cl, e3, e4, eqX_int, sl, s2]
  · have q1 := lit_mx "\n" (by decide)
    have q2 := lit_mx " " (by decide)
    have q3 := lit_mx "; " (by decide)
    have q4 := lit_mx "; next" (by decide)
    have q5 := lit_mx " a" (by decide)
    have s1 := add_mx (m := m.set i (pc a3 b3)) h q1 (by omega)
    have s2 := add_mx (m := m.set i (pc a3 b3)) h q2 (by omega)
    have s3 := add_mx (m := m.set i (pc a3 b3)) q2 h (by omega)
    have s4 := add_mx (m := m.set i (pc a3 b3)) h q3 (by omega)
    have s5 := add_mx (m := m.set i (pc a3 b3)) h q4 (by omega)
    have s6 := add_mx (m := m.set i (pc a3 b3)) h q5 (by omega)
    have hml : mkL [wS (x ++ "\n"), wS (x ++ " "), wS (" " ++ x), wS (x ++ "; "), wS (x ++ "; next"), wS (x ++ " a")] = .dat (.list [.str (x ++ "\n"), .str (x ++ " "), .str (" " ++ x), .str (x ++ "; "), .str (x ++ "; next"), .str (x ++ " a")]) := mkL_map [.str (x ++ "\n"), .str (x ++ " "), .str (" " ++ x), .str (x ++ "; "), .str (x ++ "; next"), .str (x ++ " a")]
    obtain ⟨d, hd, e5⟩ := ixl_any (m.set i (pc a3 b3)) (ds := [.str (x ++ "\n"), .str (x ++ " "), .str (" " ++ x), .str (x ++ "; "), .str (x ++ "; next"), .str (x ++ " a")]) (r := t % 6) (Int.emod_nonneg _ (by omega)) (by show _ < ((6 : Nat) : Int); exact Int.emod_lt_of_pos _ (by omega))
    have hy : ∃ y, d = .str y ∧ Mx (2 * k + 20) y := by
      simp only [List.mem_cons, List.not_mem_nil, or_false] at hd
      rcases hd with rfl | rfl | rfl | rfl | rfl | rfl
      · exact ⟨_, rfl, (app_mx h q1).mono (by omega)⟩
      · exact ⟨_, rfl, (app_mx h q2).mono (by omega)⟩
      · exact ⟨_, rfl, (app_mx q2 h).mono (by omega)⟩
      · exact ⟨_, rfl, (app_mx h q3).mono (by omega)⟩
      · exact ⟨_, rfl, (app_mx h q4).mono (by omega)⟩
      · exact ⟨_, rfl, (app_mx h q5).mono (by omega)⟩
    obtain ⟨y, rfl, hy⟩ := hy
    have l6 : 6 ≤ lim := by decide
    refine ⟨y, a3, b3, ?_, hy⟩
    simp [d_law_spoilt, bd_law_spoilt, bodyN, evSs, evS, evE, evC, evO, getV, isiW, tyOf, isiT, fin, cutR, biW_len, lenW_str, lenW_tuple, lenW_list, cmp_le, cmp_lt, cmp_gt, cmp_ge, cmp_in, cmp_nin, cmp_eq, cmp_ne, in_str, intOf, asT, asTs, lcGo, gOk_nil, sl_tuple, sl_list, setAll, hx, add_i, e1, cl, e3, e4, eqX_int, s1, s2, s3, s4, s5, s6, l6, hml, mod_p, e5]
  · obtain ⟨y, a4, b4, e5, hy⟩ := spoilt_wordsL (B := B) Y n m i a3 b3 x k hi h hk
    have n0 : ¬ w = 0 := by omega
    have n1 : ¬ w = 1 := by omega
    have n2 : ¬ w = 2 := by omega
    have n3 : ¬ w = 3 := by omega
    refine ⟨y, a4, b4, ?_, hy⟩
    simp [d_law_spoilt, bd_law_spoilt, bodyN, evSs, evS, evE, evC, evO, getV, isiW, tyOf, isiT, fin, cutR, biW_len, lenW_str, lenW_tuple, lenW_list, cmp_le, cmp_lt, cmp_gt, cmp_ge, cmp_in, cmp_nin, cmp_eq, cmp_ne, in_str, intOf, asT, asTs, lcGo, gOk_nil, sl_tuple, sl_list, setAll, hx, add_i, e1, cl, e3, e4, eqX_int, n0, n1, n2, n3, e5]
end
def endL : List PyData := [.none, .int 0, .int 1, .bool true, .list [], .tuple [], .dict [], .tuple [.str "class", .str "a", .tuple []], .list [.str "class a"], .str "", .str " ", .str "class", .str "class a", .str "define a a"]
theorem ev_end (F : Fe) (σ : En) (m : Sto) : evE F (.lst false [.con .none, .con (.int 0), .con (.int 1), .con (.bool true), .lst false [], .tup [], .dic0, .tup [.con (.str "class"), .con (.str "a"), .tup []], .lst false [.con (.str "class a")], .con (.str ""), .con (.str " "), .con (.str "class"), .con (.str "class a"), .con (.str "define a a")]) σ m = .ok (.dat (.list endL)) m := by kernel_rfl
def okEnd : PyData → Bool
  | .str x => okS x && decide (x.length ≤ 3900)
  | _ => true
theorem end_ok : ∀ d ∈ endL, okEnd d = true := by
  have h : endL.all okEnd = true := by decide +kernel
  exact fun d hd => List.all_eq_true.mp h d hd
theorem act_text {ds : List PyData} (hA : Ac ds) : Mx 470 (wOp (.tuple ds)) := by
  refine ⟨wOp_ok hA.op, Nat.le_trans (op_text 5 hA.op fun es e => ?_) (by decide)⟩
  cases e
  exact hA.n5
section
variable {P : Str → Option Df} {B : Fe} (X : Has P B) (Y : HasL P) (E : HasE B)
include X Y E
set_option maxHeartbeats 8000000 in
theorem right_end (n : Nat) (d : PyData) (m : Sto) (h : okEnd d = true) : callN P B (n + 11) "_law_right" [.dat d] m = .ok (wB true) m := by
  cases q : isStrD d with
  | false => exact right_no X Y E (n + 8) d m q
  | true =>
    cases d with
    | str x =>
      simp only [okEnd, Bool.and_eq_true, decide_eq_true_eq] at h
      exact right_str X Y E n x m ⟨h.1, h.2⟩
    | _ => cases q
set_option maxHeartbeats 16000000 in
theorem lawL (n : Nat) (ns : List Int) (m : Sto) : (callN P B (n + 12) "law" [.scr ns] m).to fun w _ => w = wB true := by
  rw [callN_at Y.llaw]
  simp only [dlaw, bodyN, List.length_cons, List.length_nil, decide_true]
  refine fin_pure ?_
  simp only [bdlaw]
  obtain ⟨K, hK, K0, K1⟩ : ∃ K : Int, (∀ (F : Fe) (x1 x2 x3 x4 x5 x6 x7 : Option W), evE F (.itRng (.bi .max [.con (.int 1), .bi .min [.bi .len [.var 0], .con (.int 4)]])) [some (.scr ns), x1, x2, x3, x4, x5, x6, x7] m = .ok (.itr 2 [wI K]) m) ∧ 0 ≤ K ∧ K ≤ 4 := by
    refine ⟨if (if (4 : Int) < ns.length then 4 else (ns.length : Int)) > 1 then (if (4 : Int) < ns.length then 4 else (ns.length : Int)) else 1, ?_, ?_, ?_⟩
    · intro F x1 x2 x3 x4 x5 x6 x7
      simp [evE, getV, biW_len, len_scr, min_i, max_i]
    · split <;> omega
    · split
      · split <;> omega
      · omega
  refine to_cons (SR.to_mono (fors_to (ws := (List.range K.toNat).map fun (n : Nat) => wI n) (w := .itr 2 [wI K]) (fun j σ m' => ∃ (x1 x2 x3 x4 x5 x6 x7 : Option W), σ = [some (.scr ns), x1, x2, x3, x4, x5, x6, x7]) (hK _ _ _ _ _ _ _ _) (iter_rng _ K0 (by omega)) rfl ⟨_, _, _, _, _, _, _, rfl⟩ ?_) ?_ fun _ _ h => h)
  · rintro j x σ m' hx ⟨x1, x2, x3, x4, x5, x6, x7, rfl⟩
    have hxk : ∃ k : Int, x = wI k ∧ 0 ≤ k := by
      rw [List.getElem?_map] at hx
      obtain ⟨q, _, rfl⟩ := Option.map_eq_some_iff.mp hx
      exact ⟨q, rfl, by omega⟩
    obtain ⟨k, rfl, k0⟩ := hxk
    obtain ⟨a, b, e1⟩ := potL (B := B) Y.toHasG (n + 10) m' ns k k0
    simp only [bindT_one, lift_some, st_ok, List.set_cons_succ, List.set_cons_zero]
    refine to_cons ?_
    simp [evS, evE, getV, e1, asT]
    have hM : m' ++ [pc a b] = (m' ++ [pc a b]).set m'.length (pc a b) := by simp
    have hi : m'.length < (m' ++ [pc a b]).length := by simp
    generalize hi2 : m'.length = i at hM hi
    generalize hM2 : m' ++ [pc a b] = M at hM hi
    rw [hM]
    refine to_cons (SR.to_mono (fors_to (ws := (List.range (5 : Int).toNat).map fun (n : Nat) => wI n) (w := .itr 2 [wI 5]) (fun j σ s => ∃ (x3 x4 x5 x6 x7 : Option W) (a b : Int), σ = [some (.scr ns), some (wI k), some (.ref i), x3, x4, x5, x6, x7] ∧ s = M.set i (pc a b)) ?_ (iter_rng _ (by decide) (by decide)) rfl ⟨_, _, _, _, _, a, b, rfl, rfl⟩ ?_) (fun σ m h => ?_) fun _ _ h => h)
    · simp [evE]
    · rintro j2 x σ s hx2 ⟨y3, y4, y5, y6, y7, a, b, rfl, rfl⟩
      obtain ⟨ds, a1, b1, e2, hA⟩ := free_actL (B := B) Y.toHasG (n + 6) M i a b hi
      have hT : Th (.tuple ds) := th_tuple (by have := hA.hi; omega) hA.it
      have e3 := writtenL (B := B) Y.toHasG (n + 8) (.tuple ds) (M.set i (pc a1 b1)) hT.tp hA.op
      simp only [bindT_one, lift_some, st_ok, List.set_cons_succ, List.set_cons_zero]
      refine to_cons ?_
      simp [evS, evE, getV, e2, e3, asT]
      refine to_cons (SR.to_mono (fors_to (ws := (List.range (4 : Int).toNat).map fun (n : Nat) => wI n) (w := .itr 2 [wI 4]) (fun j σ s => ∃ (x5 : Option W) (z : Str) (a b : Int), σ = [some (.scr ns), some (wI k), some (.ref i), some x, some (wS z), x5, y6, y7] ∧ s = M.set i (pc a b) ∧ Mx ((470 + 20) * 2 ^ j - 20) z) ?_ (iter_rng _ (by decide) (by decide)) rfl ⟨_, _, a1, b1, rfl, rfl, act_text hA⟩ ?_) (fun σ m h => ?_) fun _ _ h => h)
      · simp [evE]
      · rintro j3 x' σ s hx3 ⟨z5, z, a2, b2, rfl, rfl, hz⟩
        have hj : j3 < 4 := by
          have := (List.getElem?_eq_some_iff.mp hx3).1
          simpa using this
        have hb : (470 + 20) * 2 ^ j3 - 20 ≤ 3900 ∧ 2 * ((470 + 20) * 2 ^ j3 - 20) + 20 = (470 + 20) * 2 ^ (j3 + 1) - 20 := by
          have : j3 = 0 ∨ j3 = 1 ∨ j3 = 2 ∨ j3 = 3 := by omega
          rcases this with rfl | rfl | rfl | rfl <;> decide
        have e4 := right_str X Y E n z (M.set i (pc a2 b2)) (hz.mono hb.1)
        obtain ⟨z', a3, b3, e5, hz'⟩ := spoiltL (B := B) Y (n + 8) M i a2 b2 z _ hi hz hb.1
        rw [hb.2] at hz'
        simp only [bindT_one, lift_some, st_ok, List.set_cons_succ, List.set_cons_zero]
        refine to_cons ?_
        simp [evS, evE, getV, e4, evSs_nil]
        refine to_cons ?_
        simp [evS, evE, getV, e5, asT, evSs_nil]
        exact ⟨_, _, ⟨rfl, rfl⟩, ⟨_, _, rfl⟩, hz'⟩
      · obtain ⟨x5, z, a2, b2, rfl, rfl, _⟩ := h
        rw [evSs_nil, to_nx]
        exact ⟨⟨_, _, _, _, _, rfl⟩, _, _, rfl⟩
    · obtain ⟨y3, y4, y5, y6, y7, a, b, rfl, rfl⟩ := h
      exact ⟨_, _, _, _, _, _, _, rfl⟩
  · rintro σ m' ⟨x1, x2, x3, x4, x5, x6, x7, rfl⟩
    refine to_cons ?_
    rw [asg0 (ev_end _ _ _), to_nx]
    refine to_cons ?_
    have hr : ∀ (F : Fe) (m : Sto), (F.call = callN P B (n + 11)) → evE F (.bi .all [.lc false [7] [7] (.var 6) [] (.call "_law_right" [.var 7])]) [some (.scr ns), x1, x2, x3, x4, x5, some (.dat (.list endL)), x7] m = .ok (wB true) m := by
      intro F m hF
      have h1 := lc_data (F := F) (σ := [some (.scr ns), x1, x2, x3, x4, x5, some (.dat (.list endL)), x7]) (m := m) (i := 7) (it := .var 6) (e := .call "_law_right" [.var 7]) (g := fun _ => .bool true) rfl (by decide) fun d hd => by
        simp [evE, getV, hF, right_end X Y E n d m (end_ok d hd)]
      show ((evEs F [.lc false [7] [7] _ [] _] _ m).bind fun ws m => lift (biW .all ws m) m) = _
      rw [evEs_lc, h1]
      rfl
    show (evS _ _ [some (.scr ns), x1, x2, x3, x4, x5, some (.dat (.list endL)), x7] m').to _ _
    rw [evS, hr _ _ rfl]
    exact ⟨_, frz_dat _ _ _, rfl⟩
end
end Lw
namespace K95
open PySem PySem.Spec PyProof.Rows L2 Mi
abbrev pw : Program := PySem.Challenge.pw_fewestmethods_k95_spoilt_written_forms
def top (i : Nat) : Stmt := pw.main.body.getD i (.Pass ⟨0, 0, 0, 0⟩)
def cls (i j : Nat) : Stmt := match top i with
  | .ClassDef _ _ _ b _ _ _ _ _ _ _ => b.getD j (.Pass ⟨0, 0, 0, 0⟩)
  | s => s
def bdis_name : List Mi.St := [.ifs (.or (.not (.isi (.var 0) [.str])) (.not (.chn .le .le (.con (.int 1)) (.bi .len [.var 0]) (.glo "MAX_NAME_LENGTH")))) [.ret (.con (.bool false))] [],
    .ret (.bi .all [.lc false [1] [1] (.var 0) [] (.cmp .isin (.var 1) (.glo "LETTERS"))])]
def dis_name : Df := ⟨1, 2, false, bdis_name⟩
def qdis_name : Dd := ⟨"is_name", dis_name, ["value", "character"], top 3⟩
def bdis_integer_from : List Mi.St := [.ret (.and (.isi (.var 0) [.int]) (.and (.not (.isi (.var 0) [.bool])) (.chn .le .le (.var 1) (.var 0) (.var 2))))]
def dis_integer_from : Df := ⟨3, 3, false, bdis_integer_from⟩
def qdis_integer_from : Dd := ⟨"is_integer_from", dis_integer_from, ["value", "low", "high"], top 4⟩
def bdis_index : List Mi.St := [.ret (.and (.isi (.var 0) [.int]) (.and (.not (.isi (.var 0) [.bool])) (.chn .le .lt (.con (.int 0)) (.var 0) (.var 1))))]
def dis_index : Df := ⟨2, 2, false, bdis_index⟩
def qdis_index : Dd := ⟨"is_index", dis_index, ["value", "count"], top 10⟩
def bdare_arguments : List Mi.St := [.ifs (.or (.not (.isi (.var 0) [.tuple])) (.not (.chn .le .le (.con (.int 1)) (.bi .len [.var 0]) (.glo "MAX_ARGUMENTS")))) [.ret (.con (.bool false))] [],
    .ret (.bi .all [.lc false [2] [2] (.var 0) [] (.or (.call "is_name" [.var 2]) (.call "is_index" [.var 2, .var 1]))])]
def dare_arguments : Df := ⟨2, 3, false, bdare_arguments⟩
def qdare_arguments : Dd := ⟨"are_arguments", dare_arguments, ["value", "count", "item"], top 11⟩
def bdis_step : List Mi.St := [.ifs (.not (.isi (.var 0) [.tuple])) [.ret (.con (.bool false))] [],
    .ifs (.cmp .eq (.bi .len [.var 0]) (.con (.int 2))) [.ret (.and (.cmp .eq (.ix (.var 0) (.con (.int 0))) (.glo "SAY")) (.call "is_name" [.ix (.var 0) (.con (.int 1))]))] [],
    .ifs (.cmp .eq (.bi .len [.var 0]) (.con (.int 3))) [.ret (.and (.cmp .eq (.ix (.var 0) (.con (.int 0))) (.glo "CALL")) (.and (.call "is_name" [.ix (.var 0) (.con (.int 1))]) (.call "are_arguments" [.ix (.var 0) (.con (.int 2)), .var 1])))] [],
    .ret (.cmp .eq (.var 0) (.glo "NEXT_STEP"))]
def dis_step : Df := ⟨2, 2, false, bdis_step⟩
def qdis_step : Dd := ⟨"is_step", dis_step, ["value", "count"], top 12⟩
def bdis_body : List Mi.St := [.ifs (.or (.not (.isi (.var 0) [.tuple])) (.not (.bi .all [.lc false [2] [2] (.var 0) [] (.call "is_step" [.var 2, .var 1])]))) [.ret (.con (.bool false))] [],
    .ret (.cmp .le (.met .count (.var 0) [.glo "NEXT_STEP"]) (.con (.int 1)))]
def dis_body : Df := ⟨2, 3, false, bdis_body⟩
def qdis_body : Dd := ⟨"is_body", dis_body, ["value", "count", "step"], top 13⟩
def bdare_names : List Mi.St := [.ret (.and (.isi (.var 0) [.tuple]) (.bi .all [.lc false [1] [1] (.var 0) [] (.call "is_name" [.var 1])]))]
def dare_names : Df := ⟨1, 2, false, bdare_names⟩
def qdare_names : Dd := ⟨"are_names", dare_names, ["value", "item"], top 28⟩
def bdis_part : List Mi.St := [.ifs (.cmp .eq (.var 0) (.glo "NAME")) [.ret (.call "is_name" [.var 1])] [],
    .ifs (.cmp .eq (.var 0) (.glo "SUPERCLASSES")) [.ret (.call "are_names" [.var 1])] [],
    .ifs (.cmp .eq (.var 0) (.glo "COUNT")) [.ret (.call "is_integer_from" [.var 1, .con (.int 1), .glo "MAX_PARAMETERS"])] [],
    .ifs (.cmp .eq (.var 0) (.glo "POINT")) [.ret (.and (.call "are_names" [.var 1]) (.chn .le .le (.con (.int 1)) (.bi .len [.var 1]) (.glo "MAX_PARAMETERS")))] [],
    .ret (.call "is_body" [.var 1, .glo "MAX_PARAMETERS"])]
def dis_part : Df := ⟨2, 2, false, bdis_part⟩
def qdis_part : Dd := ⟨"is_part", dis_part, ["kind", "value"], top 29⟩
def bdis_operation : List Mi.St := [.ifs (.or (.not (.isi (.var 0) [.tuple])) (.or (.cmp .eq (.var 0) (.tup [])) (.or (.not (.isi (.ix (.var 0) (.con (.int 0))) [.str])) (.cmp .notin (.ix (.var 0) (.con (.int 0))) (.glo "PARTS"))))) [.ret (.con (.bool false))] [],
    .star 1 2 (.var 0),
    .ifs (.cmp .ne (.bi .len [.var 2]) (.bi .len [.ix (.glo "PARTS") (.var 1)])) [.ret (.con (.bool false))] [],
    .ret (.bi .all [.lc false [3, 4] [3, 4] (.itZip (.ix (.glo "PARTS") (.var 1)) (.var 2)) [] (.call "is_part" [.var 3, .var 4])])]
def dis_operation : Df := ⟨1, 5, false, bdis_operation⟩
def qdis_operation : Dd := ⟨"is_operation", dis_operation, ["value", "word", "parts", "kind", "part"], top 30⟩
def bdwrite_point : List Mi.St := [.ret (.met .join (.con (.str ",")) [.var 0])]
def dwrite_point : Df := ⟨1, 1, false, bdwrite_point⟩
def qdwrite_point : Dd := ⟨"write_point", dwrite_point, ["point"], top 31⟩
def bdwrite_step : List Mi.St := [.asg (.nm 1) (.lc true [2] [2] (.sl (.var 0) none (some (.con (.int 2)))) [] (.bi .str [.var 2])),
    .ifs (.cmp .eq (.ix (.var 0) (.con (.int 0))) (.glo "CALL")) [.ex (.met .append (.var 1) [.met .join (.con (.str ",")) [.lc false [3] [3] (.ix (.var 0) (.con (.int 2))) [] (.bi .str [.var 3])]])] [],
    .ret (.met .join (.con (.str " ")) [.var 1])]
def dwrite_step : Df := ⟨1, 4, true, bdwrite_step⟩
def qdwrite_step : Dd := ⟨"write_step", dwrite_step, ["step", "words", "word", "item"], top 32⟩
def bdwrite_body : List Mi.St := [.ret (.ite (.cmp .eq (.var 0) (.tup [])) (.glo "EMPTY") (.met .join (.con (.str "; ")) [.lc false [1] [1] (.var 0) [] (.call "write_step" [.var 1])]))]
def dwrite_body : Df := ⟨1, 2, false, bdwrite_body⟩
def qdwrite_body : Dd := ⟨"write_body", dwrite_body, ["body", "step"], top 33⟩
def bdwrite_words : List Mi.St := [.ifs (.cmp .eq (.var 0) (.glo "SUPERCLASSES")) [.ret (.cpy false (.var 1))] [],
    .ifs (.cmp .eq (.var 0) (.glo "POINT")) [.ret (.lst false [.call "write_point" [.var 1]])] [],
    .ret (.ite (.cmp .eq (.var 0) (.glo "BODY")) (.lst false [.call "write_body" [.var 1]]) (.lst false [.bi .str [.var 1]]))]
def dwrite_words : Df := ⟨2, 2, false, bdwrite_words⟩
def qdwrite_words : Dd := ⟨"write_words", dwrite_words, ["kind", "part"], top 34⟩
def bdwrite_operation : List Mi.St := [.ifs (.not (.call "is_operation" [.var 0])) [.raise "InvalidOperation" [.var 0]] [],
    .star 1 2 (.var 0),
    .asg (.nm 3) (.lst true [.var 1]),
    .fors [4, 5] (.itZip (.ix (.glo "PARTS") (.var 1)) (.var 2)) [.ex (.met .extend (.var 3) [.call "write_words" [.var 4, .var 5]])],
    .ret (.met .join (.con (.str " ")) [.var 3])]
def dwrite_operation : Df := ⟨1, 6, true, bdwrite_operation⟩
def qdwrite_operation : Dd := ⟨"write_operation", dwrite_operation, ["operation", "word", "parts", "words", "kind", "part"], top 35⟩
def bdread_item : List Mi.St := [.ifs (.and (.chn .le .le (.con (.int 1)) (.bi .len [.var 0]) (.con (.int 2))) (.bi .all [.lc false [1] [1] (.var 0) [] (.cmp .isin (.var 1) (.glo "DIGITS"))])) [.ret (.bi .int [.var 0])] [],
    .ret (.var 0)]
def dread_item : Df := ⟨1, 2, false, bdread_item⟩
def qdread_item : Dd := ⟨"read_item", dread_item, ["word", "character"], top 36⟩
def bdread_step : List Mi.St := [.mat (.met .split (.var 0) [.con (.str " ")]) [.cas (some [1, 2]) (some (.cmp .eq (.var 1) (.glo "SAY"))) [.ret (.tup [.glo "SAY", .var 2])], .cas (some [1, 3, 4]) (some (.cmp .eq (.var 1) (.glo "CALL"))) [.ret (.tup [.glo "CALL", .var 3, .bi .tuple [.lc false [5] [5] (.met .split (.var 4) [.con (.str ",")]) [] (.call "read_item" [.var 5])]])], .cas (some [1]) (some (.cmp .eq (.var 1) (.ix (.glo "NEXT_STEP") (.con (.int 0))))) [.ret (.glo "NEXT_STEP")], .cas none none [.ret (.con .none)]]]
def dread_step : Df := ⟨1, 6, false, bdread_step⟩
def qdread_step : Dd := ⟨"read_step", dread_step, ["text", "keyword", "word", "function", "arguments", "item"], top 37⟩
def bdread_body : List Mi.St := [.ret (.ite (.cmp .eq (.var 0) (.glo "EMPTY")) (.tup []) (.bi .tuple [.lc false [1] [1] (.met .split (.var 0) [.con (.str "; ")]) [] (.call "read_step" [.var 1])]))]
def dread_body : Df := ⟨1, 2, false, bdread_body⟩
def qdread_body : Dd := ⟨"read_body", dread_body, ["text", "part"], top 38⟩
def bdread_part : List Mi.St := [.ifs (.cmp .eq (.var 0) (.glo "SUPERCLASSES")) [.ret (.bi .tuple [.var 1])] [],
    .ifs (.cmp .eq (.var 1) (.lst false [])) [.ret (.con .none)] [],
    .ifs (.cmp .eq (.var 0) (.glo "BODY")) [.ret (.call "read_body" [.met .join (.con (.str " ")) [.var 1]])] [],
    .ifs (.cmp .eq (.var 0) (.glo "POINT")) [.ret (.bi .tuple [.met .split (.ix (.var 1) (.con (.int 0))) [.con (.str ",")]])] [],
    .ret (.ite (.cmp .eq (.var 0) (.glo "COUNT")) (.call "read_item" [.ix (.var 1) (.con (.int 0))]) (.ix (.var 1) (.con (.int 0))))]
def dread_part : Df := ⟨2, 2, false, bdread_part⟩
def qdread_part : Dd := ⟨"read_part", dread_part, ["kind", "words"], top 39⟩
def bdparsed : List Mi.St := [.star 1 2 (.met .split (.var 0) [.con (.str " ")]),
    .ifs (.cmp .notin (.var 1) (.glo "PARTS")) [.ret (.con .none)] [],
    .asg (.nm 3) (.tup [.var 1, .star (.lc false [4, 5] [4, 5] (.itEnum (.ix (.glo "PARTS") (.var 1))) [] (.call "read_part" [.var 5, .sl (.var 2) (some (.var 4)) none]))]),
    .ret (.ite (.and (.call "is_operation" [.var 3]) (.cmp .eq (.call "write_operation" [.var 3]) (.var 0))) (.var 3) (.con .none))]
def dparsed : Df := ⟨1, 6, false, bdparsed⟩
def qdparsed : Dd := ⟨"parsed", dparsed, ["text", "word", "words", "found", "position", "kind"], top 40⟩
def bdread_operation : List Mi.St := [.ifs (.not (.isi (.var 0) [.str])) [.raise "InvalidText" [.con (.int 0)]] [],
    .asg (.nm 1) (.call "parsed" [.var 0]),
    .ifs (.cmp .isn (.var 1) (.con .none)) [.raise "InvalidText" [.con (.int 1)]] [],
    .ret (.var 1)]
def dread_operation : Df := ⟨1, 2, false, bdread_operation⟩
def qdread_operation : Dd := ⟨"read_operation", dread_operation, ["text", "found"], top 41⟩
def bd_law_pot : List Mi.St := [.asg (.nm 2) (.ite (.cmp .lt (.var 1) (.bi .len [.var 0])) (.ix (.var 0) (.var 1)) (.con (.int 0))),
    .ret (.lst true [.bi .max [.con (.int 0), .bin .sub (.bi .abs [.var 2]) (.bin .pow (.con (.int 10)) (.con (.int 18)))], .bin .mod (.bin .add (.bin .add (.bin .mul (.bin .mod (.bi .abs [.var 2]) (.con (.int 2147483587))) (.con (.int 48271))) (.bin .mul (.con (.int 60013)) (.var 1))) (.con (.int 29))) (.con (.int 2147483647))])]
def d_law_pot : Df := ⟨2, 3, false, bd_law_pot⟩
def qd_law_pot : Dd := ⟨"_law_pot", d_law_pot, ["_law_script", "_law_k", "_law_cell"], top 43⟩
def bd_law_draw : List Mi.St := [.ifs (.cmp .gt (.ix (.var 0) (.con (.int 0))) (.con (.int 0))) [.unp [.ix (.var 0) (.con (.int 0)), .nm 2] (.bi .divmod [.ix (.var 0) (.con (.int 0)), .var 1]),
    .ret (.var 2)] [],
    .asg (.ix (.var 0) (.con (.int 1))) (.bin .mod (.bin .add (.bin .mul (.ix (.var 0) (.con (.int 1))) (.con (.int 39373))) (.con (.int 12227))) (.con (.int 2147483629))),
    .ret (.bin .mod (.bin .fdiv (.bin .mod (.bin .mul (.ix (.var 0) (.con (.int 1))) (.ix (.var 0) (.con (.int 1)))) (.con (.int 2147483563))) (.con (.int 13))) (.var 1))]
def d_law_draw : Df := ⟨2, 3, false, bd_law_draw⟩
def qd_law_draw : Dd := ⟨"_law_draw", d_law_draw, ["_law_pot_here", "_law_many", "_law_digit"], top 44⟩
def bd_law_name : List Mi.St := [.asg (.nm 1) (.con (.str "abcdefghijklmnopqrstuvwxyz")),
    .ret (.met .join (.con (.str "")) [.lc false [2] [2] (.itRng (.ix (.lst false [.con (.int 1), .con (.int 2), .con (.int 8)]) (.call "_law_draw" [.var 0, .con (.int 3)]))) [] (.ix (.var 1) (.call "_law_draw" [.var 0, .con (.int 26)]))])]
def d_law_name : Df := ⟨1, 3, false, bd_law_name⟩
def qd_law_name : Dd := ⟨"_law_name", d_law_name, ["_law_pot_here", "_law_letters", "_law_turn"], top 45⟩
def bd_law_names : List Mi.St := [.asg (.nm 2) (.lst true []),
    .fors [3] (.itRng (.var 1)) [.asg (.nm 4) (.call "_law_name" [.var 0]),
    .asg (.nm 5) (.lc false [6] [6] (.con (.str "abcdefghijklmnopqrstuvwxyz")) [.cmp .notin (.var 6) (.var 2)] (.var 6)),
    .ex (.met .append (.var 2) [.ite (.cmp .isin (.var 4) (.var 2)) (.ix (.var 5) (.con (.int 0))) (.var 4)])],
    .ret (.var 2)]
def d_law_names : Df := ⟨2, 7, true, bd_law_names⟩
def qd_law_names : Dd := ⟨"_law_names", d_law_names, ["_law_pot_here", "_law_many", "_law_found", "_law_turn", "_law_drawn", "_law_free", "_law_letter"], top 46⟩
def bd_law_step : List Mi.St := [.asg (.nm 3) (.call "_law_draw" [.var 0, .con (.int 3)]),
    .ifs (.or (.cmp .lt (.var 3) (.con (.int 2))) (.not (.var 2))) [.ret (.tup [.con (.str "say"), .ix (.var 1) (.call "_law_draw" [.var 0, .bi .len [.var 1]])])] [],
    .asg (.nm 4) (.lc false [5] [5] (.itRng (.bin .add (.con (.int 1)) (.call "_law_draw" [.var 0, .con (.int 3)]))) [] (.ix (.lst false [.con (.int 0), .con (.int 1), .con (.int 2), .call "_law_name" [.var 0]]) (.call "_law_draw" [.var 0, .con (.int 4)]))),
    .ret (.tup [.con (.str "call"), .call "_law_name" [.var 0], .bi .tuple [.var 4]])]
def d_law_step : Df := ⟨3, 6, false, bd_law_step⟩
def qd_law_step : Dd := ⟨"_law_step", d_law_step, ["_law_pot_here", "_law_words", "_law_is_free", "_law_way", "_law_items", "_law_turn"], top 47⟩
def bd_law_any_body : List Mi.St := [.asg (.nm 3) (.lc true [4] [4] (.itRng (.ix (.lst false [.con (.int 0), .con (.int 1), .con (.int 1), .con (.int 2), .con (.int 4)]) (.call "_law_draw" [.var 0, .con (.int 5)]))) [] (.call "_law_step" [.var 0, .var 1, .var 2])),
    .ifs (.cmp .eq (.call "_law_draw" [.var 0, .con (.int 3)]) (.con (.int 0))) [.ex (.met .insert (.var 3) [.call "_law_draw" [.var 0, .bin .add (.bi .len [.var 3]) (.con (.int 1))], .tup [.con (.str "next")]])] [],
    .ret (.bi .tuple [.var 3])]
def d_law_any_body : Df := ⟨3, 5, true, bd_law_any_body⟩
def qd_law_any_body : Dd := ⟨"_law_any_body", d_law_any_body, ["_law_pot_here", "_law_words", "_law_is_free", "_law_steps", "_law_turn"], top 48⟩
def bd_law_step_written : List Mi.St := [.ifs (.cmp .eq (.ix (.var 0) (.con (.int 0))) (.con (.str "call"))) [.ret (.bin .add (.bin .add (.bin .add (.con (.str "call ")) (.ix (.var 0) (.con (.int 1)))) (.con (.str " "))) (.met .join (.con (.str ",")) [.lc false [1] [1] (.ix (.var 0) (.con (.int 2))) [] (.bi .str [.var 1])]))] [],
    .ret (.met .join (.con (.str " ")) [.var 0])]
def d_law_step_written : Df := ⟨1, 2, false, bd_law_step_written⟩
def qd_law_step_written : Dd := ⟨"_law_step_written", d_law_step_written, ["_law_step_here", "_law_item"], top 49⟩
def bd_law_body_written : List Mi.St := [.ret (.ite (.cmp .eq (.var 0) (.tup [])) (.con (.str "-")) (.met .join (.con (.str "; ")) [.lc false [1] [1] (.var 0) [] (.call "_law_step_written" [.var 1])]))]
def d_law_body_written : Df := ⟨1, 2, false, bd_law_body_written⟩
def qd_law_body_written : Dd := ⟨"_law_body_written", d_law_body_written, ["_law_body", "_law_step_here"], top 50⟩
def bd_law_written : List Mi.St := [.ifs (.cmp .eq (.ix (.var 0) (.con (.int 0))) (.con (.str "class"))) [.ret (.met .join (.con (.str " ")) [.bin .add (.sl (.var 0) none (some (.con (.int 2)))) (.ix (.var 0) (.con (.int 2)))])] [],
    .asg (.nm 1) (.lst true [.ix (.var 0) (.con (.int 0)), .ix (.var 0) (.con (.int 1))]),
    .ifs (.cmp .eq (.ix (.var 0) (.con (.int 0))) (.con (.str "function"))) [.ex (.met .append (.var 1) [.bi .str [.ix (.var 0) (.con (.int 2))]])] [.ifs (.cmp .gt (.bi .len [.var 0]) (.con (.int 2))) [.ex (.met .append (.var 1) [.met .join (.con (.str ",")) [.ix (.var 0) (.con (.int 2))]])] []],
    .ifs (.cmp .gt (.bi .len [.var 0]) (.con (.int 3))) [.ex (.met .append (.var 1) [.call "_law_body_written" [.ix (.var 0) (.con (.int 3))]])] [],
    .ret (.met .join (.con (.str " ")) [.var 1])]
def d_law_written : Df := ⟨1, 2, true, bd_law_written⟩
def qd_law_written : Dd := ⟨"_law_written", d_law_written, ["_law_act", "_law_words"], top 51⟩
def bd_law_free_act : List Mi.St := [.par [1, 2] [.call "_law_name" [.var 0], .lst false [.call "_law_name" [.var 0], .con (.str "a")]],
    .asg (.nm 3) (.bi .tuple [.lc false [6] [6] (.itRng (.bin .add (.con (.int 1)) (.call "_law_draw" [.var 0, .con (.int 3)]))) [] (.call "_law_name" [.var 0])]),
    .par [4, 5] [.call "_law_draw" [.var 0, .con (.int 8)], .call "_law_any_body" [.var 0, .var 2, .con (.bool true)]],
    .ifs (.cmp .eq (.var 4) (.con (.int 0))) [.ret (.tup [.con (.str "class"), .var 1, .bi .tuple [.call "_law_names" [.var 0, .call "_law_draw" [.var 0, .con (.int 4)]]]])] [],
    .ifs (.cmp .lt (.var 4) (.con (.int 3))) [.ret (.tup [.ix (.lst false [.con (.str "remove"), .con (.str "reduce")]) (.bin .sub (.var 4) (.con (.int 1))), .var 1])] [],
    .ifs (.cmp .eq (.var 4) (.con (.int 3))) [.ret (.tup [.con (.str "function"), .var 1, .bin .add (.con (.int 1)) (.call "_law_draw" [.var 0, .con (.int 3)])])] [],
    .ret (.ite (.cmp .lt (.var 4) (.con (.int 6))) (.tup [.ix (.lst false [.con (.str "drop"), .con (.str "watch")]) (.bin .sub (.var 4) (.con (.int 4))), .var 1, .var 3]) (.tup [.ix (.lst false [.con (.str "define"), .con (.str "decide")]) (.bin .sub (.var 4) (.con (.int 6))), .var 1, .var 3, .var 5]))]
def d_law_free_act : Df := ⟨1, 7, false, bd_law_free_act⟩
def qd_law_free_act : Dd := ⟨"_law_free_act", d_law_free_act, ["_law_pot_here", "_law_label", "_law_words", "_law_spot", "_law_way", "_law_body", "_law_turn"], top 52⟩
def bd_law_is_good : List Mi.St := [.ifs (.or (.not (.isi (.var 0) [.str])) (.not (.chn .lt .lt (.con (.int 0)) (.bi .len [.var 0]) (.con (.int 9))))) [.ret (.con (.bool false))] [],
    .ret (.cmp .eq (.lc false [1] [1] (.var 0) [.cmp .notin (.var 1) (.con (.str "abcdefghijklmnopqrstuvwxyz"))] (.var 1)) (.lst false []))]
def d_law_is_good : Df := ⟨1, 2, false, bd_law_is_good⟩
def qd_law_is_good : Dd := ⟨"_law_is_good", d_law_is_good, ["_law_thing", "_law_sign"], top 53⟩
def bd_law_step_read : List Mi.St := [.asg (.nm 1) (.met .split (.var 0) [.con (.str " ")]),
    .ifs (.cmp .eq (.var 1) (.lst false [.con (.str "next")])) [.ret (.tup [.con (.str "next")])] [],
    .ifs (.and (.cmp .eq (.bi .len [.var 1]) (.con (.int 2))) (.and (.cmp .eq (.ix (.var 1) (.con (.int 0))) (.con (.str "say"))) (.call "_law_is_good" [.ix (.var 1) (.con (.int 1))]))) [.ret (.tup [.con (.str "say"), .ix (.var 1) (.con (.int 1))])] [],
    .ifs (.or (.cmp .ne (.bi .len [.var 1]) (.con (.int 3))) (.or (.cmp .ne (.ix (.var 1) (.con (.int 0))) (.con (.str "call"))) (.not (.call "_law_is_good" [.ix (.var 1) (.con (.int 1))])))) [.ret (.con .none)] [],
    .asg (.nm 2) (.lst true []),
    .fors [3] (.met .split (.ix (.var 1) (.con (.int 2))) [.con (.str ",")]) [.ifs (.and (.cmp .notin (.var 3) (.lst false [.con (.str "0"), .con (.str "1"), .con (.str "2")])) (.not (.call "_law_is_good" [.var 3]))) [.ret (.con .none)] [],
    .ex (.met .append (.var 2) [.ite (.call "_law_is_good" [.var 3]) (.var 3) (.bi .int [.var 3])])],
    .ret (.ite (.cmp .lt (.bi .len [.var 2]) (.con (.int 4))) (.tup [.con (.str "call"), .ix (.var 1) (.con (.int 1)), .bi .tuple [.var 2]]) (.con .none))]
def d_law_step_read : Df := ⟨1, 4, true, bd_law_step_read⟩
def qd_law_step_read : Dd := ⟨"_law_step_read", d_law_step_read, ["_law_part", "_law_words", "_law_items", "_law_word"], top 54⟩
def bd_law_body_read : List Mi.St := [.ifs (.cmp .eq (.var 0) (.con (.str "-"))) [.ret (.tup [])] [],
    .asg (.nm 1) (.lc false [2] [2] (.met .split (.var 0) [.con (.str "; ")]) [] (.call "_law_step_read" [.var 2])),
    .ifs (.or (.cmp .isin (.con .none) (.var 1)) (.cmp .gt (.bi .len [.lc false [3] [3] (.var 1) [.cmp .eq (.var 3) (.tup [.con (.str "next")])] (.var 3)]) (.con (.int 1)))) [.ret (.con .none)] [],
    .ret (.bi .tuple [.var 1])]
def d_law_body_read : Df := ⟨1, 4, false, bd_law_body_read⟩
def qd_law_body_read : Dd := ⟨"_law_body_read", d_law_body_read, ["_law_shown", "_law_steps", "_law_part", "_law_step_here"], top 55⟩
def bd_law_spot_read : List Mi.St := [.asg (.nm 1) (.bi .tuple [.met .split (.var 0) [.con (.str ",")]]),
    .ret (.ite (.and (.cmp .lt (.bi .len [.var 1]) (.con (.int 4))) (.bi .all [.lc false [2] [2] (.var 1) [] (.call "_law_is_good" [.var 2])])) (.var 1) (.con .none))]
def d_law_spot_read : Df := ⟨1, 3, false, bd_law_spot_read⟩
def qd_law_spot_read : Dd := ⟨"_law_spot_read", d_law_spot_read, ["_law_word", "_law_spot", "_law_one"], top 56⟩
def bd_law_act_read : List Mi.St := [.asg (.nm 1) (.met .split (.var 0) [.con (.str " ")]),
    .ifs (.or (.cmp .lt (.bi .len [.var 1]) (.con (.int 2))) (.not (.call "_law_is_good" [.ix (.var 1) (.con (.int 1))]))) [.ret (.con .none)] [],
    .ifs (.cmp .eq (.ix (.var 1) (.con (.int 0))) (.con (.str "class"))) [.ret (.ite (.bi .all [.lc false [4] [4] (.sl (.var 1) (some (.con (.int 2))) none) [] (.call "_law_is_good" [.var 4])]) (.tup [.con (.str "class"), .ix (.var 1) (.con (.int 1)), .bi .tuple [.sl (.var 1) (some (.con (.int 2))) none]]) (.con .none))] [],
    .ifs (.cmp .isin (.ix (.var 1) (.con (.int 0))) (.lst false [.con (.str "remove"), .con (.str "reduce")])) [.ret (.ite (.cmp .eq (.bi .len [.var 1]) (.con (.int 2))) (.tup [.ix (.var 1) (.con (.int 0)), .ix (.var 1) (.con (.int 1))]) (.con .none))] [],
    .ifs (.or (.cmp .lt (.bi .len [.var 1]) (.con (.int 3))) (.and (.cmp .gt (.bi .len [.var 1]) (.con (.int 3))) (.cmp .notin (.ix (.var 1) (.con (.int 0))) (.lst false [.con (.str "define"), .con (.str "decide")])))) [.ret (.con .none)] [],
    .ifs (.cmp .eq (.ix (.var 1) (.con (.int 0))) (.con (.str "function"))) [.ret (.ite (.cmp .isin (.ix (.var 1) (.con (.int 2))) (.lst false [.con (.str "1"), .con (.str "2"), .con (.str "3")])) (.tup [.con (.str "function"), .ix (.var 1) (.con (.int 1)), .bi .int [.ix (.var 1) (.con (.int 2))]]) (.con .none))] [],
    .asg (.nm 2) (.call "_law_spot_read" [.ix (.var 1) (.con (.int 2))]),
    .ifs (.or (.cmp .isn (.var 2) (.con .none)) (.cmp .notin (.ix (.var 1) (.con (.int 0))) (.lst false [.con (.str "drop"), .con (.str "watch"), .con (.str "define"), .con (.str "decide")]))) [.ret (.con .none)] [],
    .ifs (.cmp .isin (.ix (.var 1) (.con (.int 0))) (.lst false [.con (.str "drop"), .con (.str "watch")])) [.ret (.tup [.ix (.var 1) (.con (.int 0)), .ix (.var 1) (.con (.int 1)), .var 2])] [],
    .asg (.nm 3) (.ite (.cmp .gt (.bi .len [.var 1]) (.con (.int 3))) (.call "_law_body_read" [.met .join (.con (.str " ")) [.sl (.var 1) (some (.con (.int 3))) none]]) (.con .none)),
    .ret (.ite (.cmp .isn (.var 3) (.con .none)) (.con .none) (.tup [.ix (.var 1) (.con (.int 0)), .ix (.var 1) (.con (.int 1)), .var 2, .var 3]))]
def d_law_act_read : Df := ⟨1, 5, false, bd_law_act_read⟩
def qd_law_act_read : Dd := ⟨"_law_act_read", d_law_act_read, ["_law_shown", "_law_words", "_law_spot", "_law_body", "_law_one"], top 57⟩
def bd_law_told : List Mi.St := [.asg (.nm 1) (.con (.str "other")),
    .tryx [.asg (.nm 1) (.call "read_operation" [.var 0])] "InvalidText" 2 [(1, .ite (.and (.isx "MethodsError") (.not (.isx "InvalidOperation"))) (.fld "line") (.con (.str "other")))],
    .ret (.var 1)]
def d_law_told : Df := ⟨1, 3, false, bd_law_told⟩
def qd_law_told : Dd := ⟨"_law_told", d_law_told, ["_law_thing", "_law_told_here", "e"], top 58⟩
def bd_law_right : List Mi.St := [.asg (.nm 1) (.con (.int 0)),
    .ifs (.isi (.var 0) [.str]) [.asg (.nm 2) (.call "_law_act_read" [.var 0]),
    .asg (.nm 1) (.ite (.cmp .isn (.var 2) (.con .none)) (.con (.int 1)) (.var 2))] [],
    .asg (.nm 3) (.call "_law_told" [.var 0]),
    .ifs (.cmp .ne (.bi .repr [.var 3]) (.bi .repr [.var 1])) [.ret (.con (.bool false))] [],
    .ret (.or (.not (.isi (.var 1) [.tuple])) (.and (.call "is_operation" [.var 3]) (.cmp .eq (.call "write_operation" [.var 3]) (.var 0))))]
def d_law_right : Df := ⟨1, 4, false, bd_law_right⟩
def qd_law_right : Dd := ⟨"_law_right", d_law_right, ["_law_thing", "_law_due", "_law_found", "_law_told_here"], top 59⟩
def bd_law_spoilt_words : List Mi.St := [.asg (.nm 2) (.met .splitB (.var 1) [.con (.str " ")]),
    .par [3, 4, 5] [.call "_law_draw" [.var 0, .bi .len [.var 2]], .call "_law_draw" [.var 0, .bi .len [.var 2]], .call "_law_draw" [.var 0, .con (.int 5)]],
    .asg (.nm 6) (.lst false [.con (.str ""), .con (.str "-"), .con (.str "a"), .con (.str "next"), .con (.str "say"), .con (.str "0"), .con (.str "01"), .con (.str "4"), .con (.str "a,b"), .con (.str "a,"), .con (.str "next;"), .con (.str "class"), .con (.str "call"), .con (.str "undo")]),
    .asg (.nm 7) (.ix (.var 6) (.call "_law_draw" [.var 0, .con (.int 14)])),
    .ifs (.cmp .eq (.var 5) (.con (.int 0))) [.unp [.ix (.var 2) (.var 3), .ix (.var 2) (.var 4)] (.tup [.ix (.var 2) (.var 4), .ix (.var 2) (.var 3)])] [.ifs (.cmp .eq (.var 5) (.con (.int 1))) [.ex (.met .insert (.var 2) [.var 3, .ix (.var 2) (.var 4)])] [.ifs (.cmp .eq (.var 5) (.con (.int 2))) [.ex (.met .pop (.var 2) [.var 3])] [.asg (.ix (.var 2) (.var 3)) (.ite (.cmp .eq (.var 5) (.con (.int 3))) (.var 7) (.bin .add (.ix (.var 2) (.var 3)) (.var 7)))]]],
    .ret (.met .join (.con (.str " ")) [.var 2])]
def d_law_spoilt_words : Df := ⟨2, 8, true, bd_law_spoilt_words⟩
def qd_law_spoilt_words : Dd := ⟨"_law_spoilt_words", d_law_spoilt_words, ["_law_pot_here", "_law_shown", "_law_words", "_law_at", "_law_other", "_law_way", "_law_odd", "_law_word"], top 60⟩
def bd_law_spoilt : List Mi.St := [.par [2, 3, 4] [.call "_law_draw" [.var 0, .con (.int 7)], .call "_law_draw" [.var 0, .bin .add (.bi .len [.var 1]) (.con (.int 1))], .ix (.con (.str "abnx ;,-0129A.+")) (.call "_law_draw" [.var 0, .con (.int 15)])],
    .ifs (.cmp .eq (.var 2) (.con (.int 0))) [.ret (.bin .add (.bin .add (.sl (.var 1) none (some (.var 3))) (.var 4)) (.sl (.var 1) (some (.var 3)) none))] [],
    .ifs (.cmp .eq (.var 2) (.con (.int 1))) [.ret (.bin .add (.bin .add (.sl (.var 1) none (some (.var 3))) (.var 4)) (.sl (.var 1) (some (.bin .add (.var 3) (.con (.int 1)))) none))] [],
    .ifs (.cmp .eq (.var 2) (.con (.int 2))) [.ret (.bin .add (.sl (.var 1) none (some (.var 3))) (.sl (.var 1) (some (.bin .add (.var 3) (.con (.int 1)))) none))] [],
    .ifs (.cmp .eq (.var 2) (.con (.int 3))) [.ret (.ix (.lst false [.bin .add (.var 1) (.con (.str "\n")), .bin .add (.var 1) (.con (.str " ")), .bin .add (.con (.str " ")) (.var 1), .bin .add (.var 1) (.con (.str "; ")), .bin .add (.var 1) (.con (.str "; next")), .bin .add (.var 1) (.con (.str " a"))]) (.bin .mod (.var 3) (.con (.int 6))))] [],
    .ret (.call "_law_spoilt_words" [.var 0, .var 1])]
def d_law_spoilt : Df := ⟨2, 5, false, bd_law_spoilt⟩
def qd_law_spoilt : Dd := ⟨"_law_spoilt", d_law_spoilt, ["_law_pot_here", "_law_shown", "_law_way", "_law_at", "_law_sign"], top 61⟩
def bdlaw : List Mi.St := [.fors [1] (.itRng (.bi .max [.con (.int 1), .bi .min [.bi .len [.var 0], .con (.int 4)]])) [.asg (.nm 2) (.call "_law_pot" [.var 0, .var 1]),
    .fors [3] (.itRng (.con (.int 5))) [.asg (.nm 4) (.call "_law_written" [.call "_law_free_act" [.var 2]]),
    .fors [5] (.itRng (.con (.int 4))) [.ifs (.not (.call "_law_right" [.var 4])) [.ret (.con (.bool false))] [],
    .asg (.nm 4) (.call "_law_spoilt" [.var 2, .var 4])]]],
    .asg (.nm 6) (.lst false [.con .none, .con (.int 0), .con (.int 1), .con (.bool true), .lst false [], .tup [], .dic0, .tup [.con (.str "class"), .con (.str "a"), .tup []], .lst false [.con (.str "class a")], .con (.str ""), .con (.str " "), .con (.str "class"), .con (.str "class a"), .con (.str "define a a")]),
    .ret (.bi .all [.lc false [7] [7] (.var 6) [] (.call "_law_right" [.var 7])])]
def dlaw : Df := ⟨1, 8, true, bdlaw⟩
def qdlaw : Dd := ⟨"law", dlaw, ["_law_script", "_law_k", "_law_pot_here", "_law_turn", "_law_shown", "_law_step_here", "_law_some", "_law_thing"], top 62⟩
def mo : Mo where
  ds := [qdis_name, qdis_integer_from, qdis_index, qdare_arguments, qdis_step, qdis_body, qdare_names, qdis_part, qdis_operation, qdwrite_point, qdwrite_step, qdwrite_body, qdwrite_words, qdwrite_operation, qdread_item, qdread_step, qdread_body, qdread_part, qdparsed, qdread_operation, qd_law_pot, qd_law_draw, qd_law_name, qd_law_names, qd_law_step, qd_law_any_body, qd_law_step_written, qd_law_body_written, qd_law_written, qd_law_free_act, qd_law_is_good, qd_law_step_read, qd_law_body_read, qd_law_spot_read, qd_law_act_read, qd_law_told, qd_law_right, qd_law_spoilt_words, qd_law_spoilt, qdlaw]
  cs := [("LETTERS", (.str "abcdefghijklmnopqrstuvwxyz")), ("MAX_NAME_LENGTH", (.int 8)), ("SAY", (.str "say")), ("CALL", (.str "call")), ("NEXT_STEP", (.tuple [(.str "next")])), ("MAX_ARGUMENTS", (.int 3)), ("MAX_PARAMETERS", (.int 3)), ("NAME", (.str "name")), ("SUPERCLASSES", (.str "superclasses")), ("COUNT", (.str "count")), ("POINT", (.str "point")), ("BODY", (.str "body")), ("EMPTY", (.str "-")), ("DIGITS", (.str "0123456789"))]
  tb := [("PARTS", [("class", (.tuple [(.str "name"), (.str "superclasses")])), ("remove", (.tuple [(.str "name")])), ("function", (.tuple [(.str "name"), (.str "count")])), ("define", (.tuple [(.str "name"), (.str "point"), (.str "body")])), ("drop", (.tuple [(.str "name"), (.str "point")])), ("decide", (.tuple [(.str "name"), (.str "point"), (.str "body")])), ("reduce", (.tuple [(.str "name")])), ("watch", (.tuple [(.str "name"), (.str "point")]))])]
  bl := ["abs", "all", "bool", "divmod", "enumerate", "int", "isinstance", "len", "list", "max", "min", "range", "repr", "str", "tuple", "zip"]
  xs := [⟨"InvalidText", ["line"], "MethodsError", "self", "InvalidText.__init__", cls 16 0⟩, ⟨"InvalidOperation", ["value"], "MethodsError", "self", "InvalidOperation.__init__", cls 17 0⟩]
  ec := ["InvalidOperation", "InvalidText"]
  sb := [(("InvalidText", "InvalidText"), true), (("InvalidOperation", "InvalidText"), false)]
  ix := [(("InvalidText", "InvalidOperation"), false), (("InvalidOperation", "InvalidOperation"), true), (("InvalidText", "MethodsError"), true), (("InvalidOperation", "MethodsError"), true)]
def loose : List PySem.Str := (["LETTERS", "MAX_NAME_LENGTH", "is_name", "is_integer_from", "SAY", "CALL", "NEXT_STEP", "MAX_ARGUMENTS", "is_index", "are_arguments", "is_step", "is_body", "MethodsError", "InvalidText", "InvalidOperation", "MAX_PARAMETERS", "NAME", "SUPERCLASSES", "COUNT", "POINT", "BODY", "PARTS", "EMPTY", "DIGITS", "are_names", "is_part", "is_operation", "write_point", "write_step", "write_body"] : List PySem.Str) ++ (["write_words", "write_operation", "read_item", "read_step", "read_body", "read_part", "parsed", "read_operation", "_law_pot", "_law_draw", "_law_name", "_law_names", "_law_step", "_law_any_body", "_law_step_written", "_law_body_written", "_law_written", "_law_free_act", "_law_is_good", "_law_step_read", "_law_body_read", "_law_spot_read", "_law_act_read", "_law_told", "_law_right", "_law_spoilt_words", "_law_spoilt"] : List PySem.Str)

/-! ### the text, the head -/
abbrev rw0 : PySem.W.OpenLaw := PySem.Challenge.rw_fewestmethods_k95_spoilt_written_forms
abbrev R : PySem.W.OpenRow := PySem.W.OpenLaw.row rw0
abbrev hk : PySem.W.Hook := hookM 6 mo
def ob (s : PySem.W.SharedT) : AlM := obsMG 6 mo (HandSHeadRun.getT s)
theorem ob_eq (s : PySem.W.SharedT) : ob s = hk.obs s.abs := obsMG_eq (HandSHeadRun.getT_eq s)
abbrev row1 : String := "special-get-raises"
theorem run0 (w : World) : HandSHeadRun.RunEq R (PySem.W.view R.prog [62]) hk ob 4000 loose (w.withFollow row1 false) := by
  intro os
  kernel_rfl
theorem run1 (w : World) : HandSHeadRun.RunEq R (PySem.W.view R.prog [62]) hk ob 4000 loose (w.withFollow row1 true) := by
  intro os
  kernel_rfl
theorem run (w : World) : HandSHeadRun.RunEq R (PySem.W.view R.prog [62]) hk ob 4000 loose w := PySem.W.byRow2 row1 run0 run1 w
theorem text : moT mo = true := by decide +kernel
end K95
namespace K95
open PySem PySem.Spec PyProof.Rows L2 Mi
theorem has : Op.Has (pOf mo.ds) mo.B := by constructor <;> kernel_rfl
theorem hasG : Gw.HasG (pOf mo.ds) := by constructor <;> kernel_rfl
theorem hasL : Lw.HasL (pOf mo.ds) := by
  constructor
  · exact hasG
  all_goals kernel_rfl
theorem hasE : Lw.HasE mo.B := by constructor <;> kernel_rfl
theorem plain (ns : List Int) (h : ns.length ≤ 63) : ∃ m, callN (pOf mo.ds) mo.B 14 "law" [.scr ns] [] = .ok (wB true) m := by
  obtain ⟨w, m, e, rfl⟩ := Res.to_eq (Lw.lawL has hasL hasE 2 ns [])
  exact ⟨m, e⟩
end K95
open PySem PySem.W PySem.Calls PyProof.Rows
set_option maxHeartbeats 0 in
theorem PySem.Challenge.cw_fewestmethods_k95_spoilt_written_forms_holds : PySem.Challenge.rw_fewestmethods_k95_spoilt_written_forms.Holds := by
  w_on; o_law
  refine HandSHeadRun.head_any (r := K95.R) (q := view K95.R.prog [62]) (H := K95.hk) (ob := K95.ob) (M := 4000) (loose := K95.loose) (d := HandSHeadRun.topDef K95.R.prog 62) (kwd := []) K95.ob_eq
    (by kernel_rfl) (fun s => by kernel_rfl) K95.run (by kernel_rfl) (by kernel_rfl) (by kernel_rfl) (by rfl) (by first | assumption | decide +kernel) (by decide +kernel) ⟨rfl, rfl, rfl, rfl, rfl, by decide +kernel⟩ ?hw ?hc
  case hw => w_witness2
  case hc => exact Mi.law_end (l := K95.rw0) (q := K95.qdlaw) rfl (by kernel_rfl) K95.text (by simp [K95.mo]) (by kernel_rfl) rfl ⟨rfl, by decide, by decide⟩ K95.plain
