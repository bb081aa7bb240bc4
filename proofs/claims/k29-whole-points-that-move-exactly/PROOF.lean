import PyProof.Rows.All
import HandS.ForMost
import HandS.ForExc
import HandS.Lambda
import KE.SortData
import HandS.Flow
import HandS.TupAny
import HandS.TupMul
import HandS.Style
import HandS.TupLe
import HandS.Deep
import KE.DataMinMax
import HandS.Small
import HandS.More
import HandS.Comp
import HandS.Iter
import HandS.Walk
import HandS.Zip
import PyProof.EnumMake
import KE.GoesMore
import HandS.WordsExc
import HandS.Nested
import HandS.ExcInit
import KE.KExcSuper
import KE.KSuper
import HandS.ClsMeth
import HandS.ExcField
import HandS.EndTab
import HandS.Head0
import HandS.Head1
import HandS.Head2
import HandS.HeadEnd
import HandS.HeadHook1
import HandS.HeadHook2
import HandS.HeadHook3
import HandS.HeadHook4
import HandS.HeadWalk
import PySem.Challenge.RW_machinehall_k29_whole_points_that_move_e
set_option Elab.async false
set_option linter.all false
/-! Ev: an evaluator over data trees and a store of changeable objects; every definition is a function, so that a law's run is reckoned in plain Lean. -/
namespace Ev
open PySem

/-- a value: trees for what never changes, a place of the store for what may -/
inductive D where
  | und | non | bl (b : Bool) | int (i : Int) | str (x : Str) | tup (ds : List D) | frl (ds : List D) | ref (n : Nat)
/-- an object of the store -/
inductive O where
  | lst (ds : List D) | dct (kvs : List (D × D)) | dfz (kvs : List (D × D)) | ins (c : Nat) (fs : List (Str × D))
abbrev S := List O
abbrev Env := List D
inductive Res where
  | ok (d : D) (s : S) | exc (c : D) (s : S) | fail
inductive Out where
  | nx (ρ : Env) (s : S) | rt (d : D) (s : S) | bk (ρ : Env) (s : S) | ct (ρ : Env) (s : S) | exc (c : D) (s : S) | fail
/-- several values -/
inductive Rss where
  | ok (ds : List D) (s : S) | exc (c : D) (s : S) | fail
/-- what a loop walks: the items, the object they come from, the store -/
inductive Itm where
  | ok (ds : List D) (g : Option (Nat × List D)) (s : S) | exc (c : D) (s : S) | fail
/-- the calls that may be made, and the sizes of the store at which inner blocks began -/
structure C where
  call : Nat → List Nat → List D → S → Res
  B : List Nat
abbrev ES := C → Env → S → Res
abbrev AS := C → Env → S → Rss
abbrev SS := C → Env → S → Out
abbrev IS := C → Env → S → Itm

mutual
/-- a place from b on is spoken of -/
def D.yg (b : Nat) : D → Bool
  | .ref n => decide (b ≤ n)
  | .tup ds => D.ygs b ds
  | .frl ds => D.ygs b ds
  | .und => false
  | .non => false
  | .bl _ => false
  | .int _ => false
  | .str _ => false
def D.ygs (b : Nat) : List D → Bool
  | [] => false
  | d :: r => d.yg b || D.ygs b r
end
mutual
/-- neither places nor unset names within -/
def D.pur : D → Bool
  | .ref _ => false
  | .tup ds => D.purs ds
  | .frl ds => D.purs ds
  | .und => false
  | .non => true
  | .bl _ => true
  | .int _ => true
  | .str _ => true
def D.purs : List D → Bool
  | [] => true
  | d :: r => d.pur && D.purs r
end
mutual
def D.pd : D → PyData
  | .ref _ => .none
  | .tup ds => .tuple (D.pds ds)
  | .frl ds => .list (D.pds ds)
  | .und => .none
  | .non => .none
  | .bl b => .bool b
  | .int i => .int i
  | .str x => .str x
def D.pds : List D → List PyData
  | [] => []
  | d :: r => d.pd :: D.pds r
end
mutual
/-- alike by value (True is 1) -/
def D.eqv : D → D → Bool
  | .non, .non => true
  | .bl a, .bl b => a == b
  | .bl a, .int j => (if a then 1 else 0) == j
  | .int i, .bl b => i == (if b then 1 else 0)
  | .int i, .int j => i == j
  | .str x, .str y => x == y
  | .tup xs, .tup ys => D.eqvs xs ys
  | .frl xs, .frl ys => D.eqvs xs ys
  | _, _ => false
def D.eqvs : List D → List D → Bool
  | [], [] => true
  | x :: xs, y :: ys => D.eqv x y && D.eqvs xs ys
  | _, _ => false
end

mutual
/-- the same tree -/
def D.beq : D → D → Bool
  | .und, .und => true
  | .non, .non => true
  | .bl a, .bl b => a == b
  | .int i, .int j => i == j
  | .str x, .str y => x == y
  | .tup xs, .tup ys => D.beqs xs ys
  | .frl xs, .frl ys => D.beqs xs ys
  | .ref n, .ref m => n == m
  | _, _ => false
def D.beqs : List D → List D → Bool
  | [], [] => true
  | x :: xs, y :: ys => D.beq x y && D.beqs xs ys
  | _, _ => false
end
mutual
theorem D.beq_self : ∀ (x : D), D.beq x x = true
  | .und => rfl
  | .non => rfl
  | .bl a => by simp [D.beq]
  | .int i => by simp [D.beq]
  | .str x => by simp [D.beq]
  | .tup xs => by rw [D.beq]; exact D.beqs_self xs
  | .frl xs => by rw [D.beq]; exact D.beqs_self xs
  | .ref n => by simp [D.beq]
theorem D.beqs_self : ∀ (x : List D), D.beqs x x = true
  | [] => rfl
  | x :: xs => by rw [D.beqs, D.beq_self x, D.beqs_self xs]; rfl
end
mutual
theorem D.beq_eq : ∀ (x y : D), D.beq x y = true → x = y
  | .und, y, h => by cases y <;> first | rfl | (simp [D.beq] at h)
  | .non, y, h => by cases y <;> first | rfl | (simp [D.beq] at h)
  | .bl a, y, h => by cases y <;> simp [D.beq] at h; subst h; rfl
  | .int a, y, h => by cases y <;> simp [D.beq] at h; subst h; rfl
  | .str a, y, h => by cases y <;> simp [D.beq] at h; subst h; rfl
  | .ref a, y, h => by cases y <;> simp [D.beq] at h; subst h; rfl
  | .tup xs, y, h => by
    cases y <;> simp [D.beq] at h
    rw [D.beqs_eq _ _ h]
  | .frl xs, y, h => by
    cases y <;> simp [D.beq] at h
    rw [D.beqs_eq _ _ h]
theorem D.beqs_eq : ∀ (x y : List D), D.beqs x y = true → x = y
  | [], [], _ => rfl
  | [], _ :: _, h => by simp [D.beqs] at h
  | _ :: _, [], h => by simp [D.beqs] at h
  | x :: xs, y :: ys, h => by
    simp [D.beqs] at h
    rw [D.beq_eq x y h.1, D.beqs_eq xs ys h.2]
end

def Res.bnd (r : Res) (f : D → S → Res) : Res := match r with | .ok d s => f d s | .exc c s => .exc c s | .fail => .fail
def Res.bndS (r : Res) (f : D → S → Out) : Out := match r with | .ok d s => f d s | .exc c s => .exc c s | .fail => .fail
def Res.bndA (r : Res) (f : D → S → Rss) : Rss := match r with | .ok d s => f d s | .exc c s => .exc c s | .fail => .fail
def Res.bndI (r : Res) (f : D → S → Itm) : Itm := match r with | .ok d s => f d s | .exc c s => .exc c s | .fail => .fail
def Rss.bnd (r : Rss) (f : List D → S → Res) : Res := match r with | .ok d s => f d s | .exc c s => .exc c s | .fail => .fail
def Rss.bndA (r : Rss) (f : List D → S → Rss) : Rss := match r with | .ok d s => f d s | .exc c s => .exc c s | .fail => .fail
def Rss.bndS (r : Rss) (f : List D → S → Out) : Out := match r with | .ok d s => f d s | .exc c s => .exc c s | .fail => .fail
def Rss.bndI (r : Rss) (f : List D → S → Itm) : Itm := match r with | .ok d s => f d s | .exc c s => .exc c s | .fail => .fail
def Itm.bndS (r : Itm) (f : List D → Option (Nat × List D) → S → Out) : Out := match r with | .ok d g s => f d g s | .exc c s => .exc c s | .fail => .fail
def Itm.bnd (r : Itm) (f : List D → Option (Nat × List D) → S → Res) : Res := match r with | .ok d g s => f d g s | .exc c s => .exc c s | .fail => .fail
def Out.bnd (r : Out) (f : Env → S → Out) : Out := match r with | .nx ρ s => f ρ s | .rt d s => .rt d s | .bk ρ s => .bk ρ s | .ct ρ s => .ct ρ s | .exc c s => .exc c s | .fail => .fail

/-! ### slots -/
def gv : Env → Nat → D
  | [], _ => .und
  | d :: _, 0 => d
  | _ :: r, n + 1 => gv r n
def sv : Env → Nat → D → Env
  | [], _, _ => []
  | _ :: r, 0, d => d :: r
  | x :: r, n + 1, d => x :: sv r n d

/-! ### the store -/
def lim : Nat := 16777216
def lstOf (s : S) (n : Nat) : Option (List D) := match s[n]? with | some (.lst ds) => some ds | _ => none
def dctOf (s : S) (n : Nat) : Option (List (D × D)) := match s[n]? with | some (.dct ds) => some ds | some (.dfz ds) => some ds | _ => none
def seqOf (s : S) : D → Option (List D)
  | .tup ds => some ds
  | .frl ds => some ds
  | .ref n => lstOf s n
  | _ => none
def al (o : O) (s : S) : Res := .ok (.ref s.length) (s ++ [o])
/-- a value may be put into the object at i: none that is younger than a block around which i is elder -/
def wok (B : List Nat) (i : Nat) (d : D) : Bool := B.all fun b => !(decide (i < b) && d.yg b)
def woks (B : List Nat) (i : Nat) (ds : List D) : Bool := B.all fun b => !(decide (i < b) && D.ygs b ds)
/-- what a block that began at b leaves: a value that speaks of nothing new lets go what is new -/
def fin (b : Nat) : Res → Res
  | .ok d s => if s.length = b then .ok d s else if d.yg b then .ok d s else .ok d (s.take b)
  | .exc c s => if s.length = b then .exc c s else if c.yg b then .fail else .exc c (s.take b)
  | .fail => .fail
/-- .. a def's: a new list of elder values is moved down -/
def finF (b : Nat) : Res → Res
  | .ok (.ref n) s => if s.length = b then .ok (.ref n) s else if n < b then .ok (.ref n) (s.take b) else
      match s[n]? with
      | some (.lst ds) => if D.ygs b ds then .ok (.ref n) s else .ok (.ref b) (s.take b ++ [.lst ds])
      | _ => .ok (.ref n) s
  | r => fin b r
def erase (b : Nat) : Env → Env
  | [] => []
  | d :: r => (if d.yg b then .und else d) :: erase b r
def gcE (e : ES) : ES := fun c ρ s => fin s.length (e { c with B := s.length :: c.B } ρ s)
def gcF (e : ES) : ES := fun c ρ s => finF s.length (e { c with B := s.length :: c.B } ρ s)

/-! ### expressions -/
def eVar (i : Nat) : ES := fun _ ρ s => match gv ρ i with | .und => .fail | d => .ok d s
def eC (d : D) : ES := fun _ _ s => .ok d s
def eOp (f : D → D → S → Res) (a b : ES) : ES := fun c ρ s => (a c ρ s).bnd fun x s => (b c ρ s).bnd fun y s => f x y s
def eUn (f : D → S → Res) (a : ES) : ES := fun c ρ s => (a c ρ s).bnd fun x s => f x s
def aNil : AS := fun _ _ s => .ok [] s
def aCons (a : ES) (r : AS) : AS := fun c ρ s => (a c ρ s).bndA fun x s => (r c ρ s).bndA fun xs s => .ok (x :: xs) s
def eTup (a : AS) : ES := fun c ρ s => (a c ρ s).bnd fun xs s => if xs.length ≤ lim then .ok (.tup xs) s else .fail
def eLst (a : AS) : ES := fun c ρ s => (a c ρ s).bnd fun xs s => if xs.length ≤ lim then al (.lst xs) s else .fail
/-- a def of the table -/
def eCall (f : Nat) (a : AS) : ES := fun c ρ s => (a c ρ s).bnd fun xs s => c.call f c.B xs s
/-- a built-in of values -/
def eBlt (f : List D → S → Res) (a : AS) : ES := gcF fun c ρ s => (a c ρ s).bnd fun xs s => f xs s
/-- a test: what is true and what not -/
def tru (s : S) : D → Option Bool
  | .non => some false
  | .bl b => some b
  | .int i => some (i != 0)
  | .str x => if x.length ≤ lim then some (x.length != 0) else none
  | .tup ds => some (!ds.isEmpty)
  | .frl ds => some (!ds.isEmpty)
  | .ref n => match s[n]? with
    | some (.lst ds) => some (!ds.isEmpty)
    | some (.dct ds) => some (!ds.isEmpty)
    | _ => none
  | .und => none
def Res.tst (r : Res) (f : Bool → S → Res) : Res := match r with | .ok d s => (match tru s d with | some b => f b s | none => .fail) | .exc c s => .exc c s | .fail => .fail
def Res.tstS (r : Res) (f : Bool → S → Out) : Out := match r with | .ok d s => (match tru s d with | some b => f b s | none => .fail) | .exc c s => .exc c s | .fail => .fail
def eNot (a : ES) : ES := fun c ρ s => (a c ρ s).tst fun b s => .ok (.bl (!b)) s
/-- a and b, as a value -/
def eAnd (a b : ES) : ES := fun c ρ s => (a c ρ s).bnd fun x s => match tru s x with | some true => b c ρ s | some false => .ok x s | none => .fail
def eOr (a b : ES) : ES := fun c ρ s => (a c ρ s).bnd fun x s => match tru s x with | some false => b c ρ s | some true => .ok x s | none => .fail
def eIf (t a b : ES) : ES := fun c ρ s => (t c ρ s).tst fun k s => if k = true then a c ρ s else b c ρ s
/-- a < b < c -/
def eChain (f g : D → D → S → Res) (x y z : ES) : ES := fun c ρ s => (x c ρ s).bnd fun a s => (y c ρ s).bnd fun b s => (f a b s).bnd fun k s => match k with
  | .bl true => (z c ρ s).bnd fun d s => g b d s
  | .bl false => .ok (.bl false) s
  | _ => .fail
/-- the told code of an own error, or the value -/
def eTold (a : ES) : ES := gcE fun c ρ s => match a c ρ s with | .ok d s => .ok d s | .exc k s => .ok k s | .fail => .fail

/-! ### statements -/
def sNil : SS := fun _ ρ s => .nx ρ s
def sSeq (a b : SS) : SS := fun c ρ s => (a c ρ s).bnd fun ρ s => b c ρ s
def sSet (i : Nat) (e : ES) : SS := fun c ρ s => (e c ρ s).bndS fun d s => .nx (sv ρ i d) s
def sExpr (e : ES) : SS := fun c ρ s => (e c ρ s).bndS fun _ s => .nx ρ s
def sRet (e : ES) : SS := fun c ρ s => (e c ρ s).bndS fun d s => .rt d s
def sRetN : SS := fun _ _ s => .rt .non s
def sIf (t : ES) (a b : SS) : SS := fun c ρ s => (t c ρ s).tstS fun k s => if k = true then a c ρ s else b c ρ s
def sBrk : SS := fun _ ρ s => .bk ρ s
def sCnt : SS := fun _ ρ s => .ct ρ s
/-- raise MachineError(e) -/
def sRaise (e : ES) : SS := fun c ρ s => (e c ρ s).bndS fun d s => .exc d s

/-! ### targets -/
abbrev TS := C → D → Env → S → Out
def tName (i : Nat) : TS := fun _ d ρ s => .nx (sv ρ i d) s
abbrev TSs := C → List D → Env → S → Out
def tsNil : TSs := fun _ ds ρ s => match ds with | [] => .nx ρ s | _ => .fail
def tsCons (t : TS) (r : TSs) : TSs := fun c ds ρ s => match ds with | d :: x => (t c d ρ s).bnd fun ρ s => r c x ρ s | [] => .fail
def tTup (n : Nat) (r : TSs) : TS := fun c d ρ s => match seqOf s d with | some ds => if ds.length = n then r c ds ρ s else .fail | none => .fail
def sAsg (e : ES) (t : TS) : SS := fun c ρ s => (e c ρ s).bndS fun d s => t c d ρ s

/-! ### loops -/
/-- the end of a turn: what is new is let go, and the names that speak of it -/
def turnEnd (gc : Bool) (b : Nat) (ρ : Env) (s : S) (k : Env → S → Out) : Out := if gc = true ∧ s.length ≠ b then k (erase b ρ) (s.take b) else k ρ s
/-- the object that is walked stands as it did -/
def gOk (g : Option (Nat × List D)) (s : S) : Bool := match g with
  | none => true
  | some (n, ds) => match s[n]? with | some (.lst es) => D.beqs es ds | _ => false
def C.psh (gc : Bool) (b : Nat) (c : C) : C := if gc then { c with B := b :: c.B } else c
def forL (gc : Bool) (g : Option (Nat × List D)) (t : TS) (body : SS) (c : C) : List D → Env → S → Out
  | [], ρ, s => .nx ρ s
  | d :: r, ρ, s =>
    match (t (c.psh gc s.length) d ρ s).bnd fun ρ' s' => body (c.psh gc s.length) ρ' s' with
    | .nx ρ' s' => turnEnd gc s.length ρ' s' fun ρ' s' => if gOk g s' then forL gc g t body c r ρ' s' else .fail
    | .ct ρ' s' => turnEnd gc s.length ρ' s' fun ρ' s' => if gOk g s' then forL gc g t body c r ρ' s' else .fail
    | .bk ρ' s' => turnEnd gc s.length ρ' s' .nx
    | .rt d s' => .rt d s'
    | .exc k s' => .exc k s'
    | .fail => .fail
def endG (gc : Bool) (b : Nat) (o : Out) : Out := match o with | .nx ρ s => turnEnd gc b ρ s .nx | o => o
def sFor (gc : Bool) (it : IS) (t : TS) (body : SS) : SS := fun c ρ s =>
  endG gc s.length ((it (c.psh gc s.length) ρ s).bndS fun ds g s1 => forL gc g t body (c.psh gc s.length) ds ρ s1)
/-- how many turns a while may make -/
def turns : Nat := 1048576
def whileL (gc : Bool) (t : ES) (body : SS) (c : C) : Nat → Env → S → Out
  | 0, _, _ => .fail
  | n + 1, ρ, s => (t (c.psh gc s.length) ρ s).tstS fun k s1 => if k = true then
      (match body (c.psh gc s.length) ρ s1 with
      | .nx ρ' s' => turnEnd gc s.length ρ' s' (whileL gc t body c n)
      | .ct ρ' s' => turnEnd gc s.length ρ' s' (whileL gc t body c n)
      | .bk ρ' s' => turnEnd gc s.length ρ' s' .nx
      | .rt d s' => .rt d s'
      | .exc k s' => .exc k s'
      | .fail => .fail)
    else turnEnd gc s.length ρ s1 .nx
def sWhile (gc : Bool) (t : ES) (body : SS) : SS := fun c ρ s => whileL gc t body c turns ρ s

/-! ### comprehensions -/
def wipeD (ρ : Env) : List Nat → Env
  | [] => ρ
  | v :: vs => sv (wipeD ρ vs) v .und
def Res.tstA (r : Res) (f : Bool → S → Rss) : Rss := match r with | .ok d s => (match tru s d with | some b => f b s | none => .fail) | .exc c s => .exc c s | .fail => .fail
def finA (b : Nat) : Rss → Rss
  | .ok ds s => if s.length = b then .ok ds s else if D.ygs b ds then .ok ds s else .ok ds (s.take b)
  | .exc c s => .exc c s
  | .fail => .fail
/-- an item, or none -/
def compE (ts : Option ES) (e : ES) (c : C) (ρ : Env) (s : S) : Rss := match ts with
  | none => (e c ρ s).bndA fun x s => .ok [x] s
  | some q => (q c ρ s).tstA fun k s => if k = true then (e c ρ s).bndA fun x s => .ok [x] s else .ok [] s
def compL (g : Option (Nat × List D)) (t : TS) (ts : Option ES) (e : ES) (c : C) (ρ : Env) : List D → S → Rss
  | [], s => .ok [] s
  | d :: r, s => match t { c with B := s.length :: c.B } d ρ s with
    | .nx ρ' s1 => (match finA s.length (compE ts e { c with B := s.length :: c.B } ρ' s1) with
      | .ok xs s4 => if gOk g s4 then (compL g t ts e c ρ r s4).bndA fun ys s => .ok (xs ++ ys) s else .fail
      | _ => .fail)
    | _ => .fail
def eComp (it : IS) (own : List Nat) (t : TS) (ts : Option ES) (e : ES) : ES := fun c ρ s => finF s.length (
  (it { c with B := s.length :: c.B } ρ s).bnd fun ds g s1 => if ds.length ≤ lim then (compL g t ts e { c with B := s.length :: c.B } (wipeD ρ own) ds s1).bnd fun xs s2 => al (.lst xs) s2 else .fail)
end Ev

namespace Ev
open PySem

/-! ### what operators make of values -/
def D.shp : Nat → D → Bool
  | _, .non => true
  | _, .bl _ => true
  | _, .int _ => true
  | _, .str x => PyData.strOk x
  | k + 1, .tup ds => ds.all (D.shp k)
  | _, _ => false
/-- a value or a list of the store as data -/
def toP : Nat → S → D → Option PyData
  | _, _, .non => some .none
  | _, _, .bl b => some (.bool b)
  | _, _, .int i => some (.int i)
  | _, _, .str x => some (.str x)
  | k + 1, s, .tup ds => (ds.mapM (toP k s)).map .tuple
  | k + 1, s, .frl ds => (ds.mapM (toP k s)).map .list
  | k + 1, s, .ref n => match lstOf s n with | some ds => (ds.mapM (toP k s)).map .list | none => none
  | _, _, _ => none
def eqD (x y : D) (s : S) : Option Bool :=
  if x.shp 40 && y.shp 40 then some (x.eqv y) else
    match toP 40 s x, toP 40 s y with
    | some p, some q => if SeqAt.shaped p && SeqAt.shaped q then some (PyData.eqv p q) else none
    | _, _ => none
def mulOk (i j : Int) : Bool := decide (-(2 ^ 64) < i ∧ i < 2 ^ 64) || decide (-(2 ^ 64) < j ∧ j < 2 ^ 64)
def bAdd : D → D → S → Res
  | .int i, .int j, s => .ok (.int (i + j)) s
  | .str a, .str b, s => if a.length + b.length ≤ lim then .ok (.str (a ++ b)) s else .fail
  | .tup a, .tup b, s => if a.length + b.length ≤ lim then .ok (.tup (a ++ b)) s else .fail
  | .ref n, .ref m, s => match lstOf s n, lstOf s m with
    | some a, some b => if a.length + b.length ≤ lim then al (.lst (a ++ b)) s else .fail
    | _, _ => .fail
  | _, _, _ => .fail
def bSub : D → D → S → Res
  | .int i, .int j, s => .ok (.int (i - j)) s
  | _, _, _ => .fail
def bMul : D → D → S → Res
  | .int i, .int j, s => if mulOk i j then .ok (.int (i * j)) s else .fail
  | .tup a, .int k, s => if a ≠ [] ∧ 2 ≤ k ∧ k ≤ 1000 ∧ a.length ≤ 1000 then .ok (.tup (List.replicate k.toNat a).flatten) s else .fail
  | .ref n, .int k, s => match lstOf s n with
    | some a => if -(2 ^ 63) ≤ k ∧ k < 2 ^ 63 ∧ a.length * k.toNat ≤ lim then al (.lst (List.replicate k.toNat a).flatten) s else .fail
    | none => .fail
  | _, _, _ => .fail
def big : Int := 2 ^ 1000
def bDiv : D → D → S → Res
  | .int i, .int j, s => if 0 < j ∧ j < big then .ok (.int (i / j)) s else .fail
  | _, _, _ => .fail
def bMod : D → D → S → Res
  | .int i, .int j, s => if 0 < j then .ok (.int (i % j)) s else .fail
  | _, _, _ => .fail
def powOk (i j : Int) : Bool := decide (0 ≤ j ∧ j ≤ 1000000 ∧ i.natAbs < 2 ^ 64)
def bPow : D → D → S → Res
  | .int i, .int j, s => if powOk i j then .ok (.int (i ^ j.toNat)) s else .fail
  | _, _, _ => .fail
def bShl : D → D → S → Res
  | .int i, .int j, s => if powOk i j then .ok (.int (i * 2 ^ j.toNat)) s else .fail
  | _, _, _ => .fail
def bShr : D → D → S → Res
  | .int i, .int j, s => if 0 ≤ j then .ok (.int (i / 2 ^ j.toNat)) s else .fail
  | _, _, _ => .fail
def bAnd : D → D → S → Res
  | .int i, .int j, s => .ok (.int (Builtin.bitAnd i j)) s
  | _, _, _ => .fail
def bOr : D → D → S → Res
  | .int i, .int j, s => .ok (.int (Builtin.bitOr i j)) s
  | _, _, _ => .fail
def bXor : D → D → S → Res
  | .int i, .int j, s => .ok (.int (Builtin.bitXor i j)) s
  | _, _, _ => .fail
def uNeg : D → S → Res
  | .int i, s => .ok (.int (-i)) s
  | _, _ => .fail
def ofB (o : Option Bool) (s : S) : Res := match o with | some b => .ok (.bl b) s | none => .fail
def cEq (x y : D) (s : S) : Res := ofB (eqD x y s) s
def cNe (x y : D) (s : S) : Res := ofB ((eqD x y s).map (!·)) s
def cLt : D → D → S → Res
  | .int i, .int j, s => .ok (.bl (decide (i < j))) s
  | _, _, _ => .fail
def cLe : D → D → S → Res
  | .int i, .int j, s => .ok (.bl (decide (i ≤ j))) s
  | _, _, _ => .fail
def cGt : D → D → S → Res
  | .int i, .int j, s => .ok (.bl (decide (j < i))) s
  | _, _, _ => .fail
def cGe : D → D → S → Res
  | .int i, .int j, s => .ok (.bl (decide (j ≤ i))) s
  | _, _, _ => .fail
def D.isNon : D → Bool
  | .non => true
  | _ => false
def cIs : D → D → S → Res
  | x, .non, s => match x with | .und => .fail | _ => .ok (.bl x.isNon) s
  | .bl a, .bl b, s => .ok (.bl (decide (a = b))) s
  | _, _, _ => .fail
def cIsNot : D → D → S → Res
  | x, .non, s => match x with | .und => .fail | _ => .ok (.bl (!x.isNon)) s
  | .bl a, .bl b, s => .ok (.bl (!decide (a = b))) s
  | _, _, _ => .fail
/-- x in a tuple or a list, by what both hold -/
def inP (x y : D) (s : S) : Option Bool := match toP 40 s x, toP 40 s y with
  | some p, some (.tuple ps) => if SeqAt.shaped p && SeqAt.shaped (.tuple ps) then some (ps.any fun q => PyData.eqv q p) else none
  | some p, some (.list ps) => if SeqAt.shaped p && SeqAt.shaped (.list ps) then some (ps.any fun q => PyData.eqv q p) else none
  | _, _ => none
/-- x in a tuple or a list -/
def inD (x y : D) (s : S) : Option Bool :=
  match y with
  | .tup ds => if x.shp 40 && ds.all (D.shp 39) then some (ds.any fun z => z.eqv x) else inP x y s
  | .frl ds => if x.shp 40 && ds.all (D.shp 39) then some (ds.any fun z => z.eqv x) else inP x y s
  | .ref n => match lstOf s n with
    | some ds => if x.shp 40 && ds.all (D.shp 39) then some (ds.any fun z => z.eqv x) else inP x y s
    | none => none
  | _ => none
def cIn (x y : D) (s : S) : Res := ofB (inD x y s) s
def cNotIn (x y : D) (s : S) : Res := ofB ((inD x y s).map (!·)) s

/-! ### subscripts -/
def ixL (ds : List D) (i : Int) (s : S) : Res := match L2.atI ds i with | some .und => .fail | some d => .ok d s | none => .fail
/-! dicts by keys that are ints or texts -/
def keq : D → D → Bool
  | .int i, .int j => decide (i = j)
  | .str x, .str y => decide (x = y)
  | _, _ => false
def dget (kvs : List (D × D)) (k : D) : Option D := (kvs.find? fun kv => keq kv.1 k).map (·.2)
def dput (kvs : List (D × D)) (k v : D) : List (D × D) := if (kvs.any fun kv => keq kv.1 k) = true then kvs.map (fun kv => if keq kv.1 k = true then (kv.1, v) else kv) else kvs ++ [(k, v)]
def dixK (s : S) (n : Nat) (k : D) : Res := match dctOf s n with
  | some kvs => (match dget kvs k with | some .und => .fail | some d => .ok d s | none => .fail)
  | none => .fail
def bIxD : D → D → S → Res
  | .ref n, .int i, s => dixK s n (.int i)
  | .ref n, .str z, s => dixK s n (.str z)
  | _, _, _ => .fail
/-- .. of what is no dict -/
def bIxL : D → D → S → Res
  | .tup ds, .int i, s => ixL ds i s
  | .frl ds, .int i, s => ixL ds i s
  | .ref n, .int i, s => match lstOf s n with | some ds => ixL ds i s | none => .fail
  | .str z, .int i, s => if z.length ≤ lim then (match L2.atI z.cps.toList i with | some c => .ok (.str ⟨#[c]⟩) s | none => .fail) else .fail
  | _, _, _ => .fail
def bIx : D → D → S → Res
  | .tup ds, .int i, s => ixL ds i s
  | .frl ds, .int i, s => ixL ds i s
  | .ref n, .int i, s => match lstOf s n with | some ds => ixL ds i s | none => dixK s n (.int i)
  | .ref n, .str z, s => dixK s n (.str z)
  | .str z, .int i, s => if z.length ≤ lim then (match L2.atI z.cps.toList i with | some c => .ok (.str ⟨#[c]⟩) s | none => .fail) else .fail
  | _, _, _ => .fail
theorem bIx_or (x y : D) (s : S) : bIx x y s = bIxL x y s ∨ bIx x y s = bIxD x y s := by
  cases x <;> cases y <;> try exact .inl rfl
  case ref.str n z => exact .inr rfl
  case ref.int n i =>
    show (match lstOf s n with | some ds => ixL ds i s | none => dixK s n (.int i)) = (match lstOf s n with | some ds => ixL ds i s | none => .fail) ∨ (match lstOf s n with | some ds => ixL ds i s | none => dixK s n (.int i)) = dixK s n (.int i)
    cases lstOf s n with
    | some ds => exact .inl rfl
    | none => exact .inr rfl
def cutD (ds : List D) (lo hi : Option Int) : List D := (ds.drop (HT.sIx ds.length 0 lo)).take (HT.sIx ds.length ds.length hi - HT.sIx ds.length 0 lo)
def slD (x : D) (lo hi : Option Int) (s : S) : Res := match x with
  | .tup ds => .ok (.tup (cutD ds lo hi)) s
  | .ref n => match lstOf s n with | some ds => al (.lst (cutD ds lo hi)) s | none => .fail
  | _ => .fail
/-- a part of a slice, left out or written -/
def withPart (o : Option ES) (c : C) (ρ : Env) (s : S) (f : Option Int → S → Res) : Res := match o with
  | none => f none s
  | some e => (e c ρ s).bnd fun d s => match d with | .int i => f (some i) s | _ => .fail
/-- x[lo:hi] -/
def eSl (x : ES) (lo hi : Option ES) : ES := fun c ρ s => (x c ρ s).bnd fun a s => withPart lo c ρ s fun l s => withPart hi c ρ s fun h s => slD a l h s
/-- x[::-1] -/
def rvD : D → S → Res
  | .tup ds, s => .ok (.tup ds.reverse) s
  | .ref n, s => match lstOf s n with | some ds => al (.lst ds.reverse) s | none => .fail
  | _, _ => .fail
/-- o[i] = v -/
def setK (B : List Nat) (n : Nat) (k v : D) (kvs : List (D × D)) (s : S) : Option S := if wok B n v = true ∧ kvs.length < lim then some (s.set n (.dct (dput kvs k v))) else none
def setIx (B : List Nat) : D → D → D → S → Option S
  | .ref n, .int i, v, s => match s[n]? with
    | some (.lst ds) => match L2.ixN ds.length i with
      | some j => if wok B n v then some (s.set n (.lst (ds.set j v))) else none
      | none => none
    | some (.dct kvs) => setK B n (.int i) v kvs s
    | _ => none
  | .ref n, .str z, v, s => match s[n]? with
    | some (.dct kvs) => setK B n (.str z) v kvs s
    | _ => none
  | _, _, _, _ => none
def tSub (o i : ES) : TS := fun c v ρ s => (o c ρ s).bndS fun a s => (i c ρ s).bndS fun k s => match setIx c.B a k v s with | some s => .nx ρ s | none => .fail

/-! ### built-ins by values -/
def lenD : List D → S → Res
  | [.tup ds], s => .ok (.int ds.length) s
  | [.frl ds], s => .ok (.int ds.length) s
  | [.str z], s => if z.length ≤ lim then .ok (.int z.length) s else .fail
  | [.ref n], s => match lstOf s n with
    | some ds => .ok (.int ds.length) s
    | none => match s[n]? with
      | some (.dct kvs) => .ok (.int kvs.length) s
      | _ => .fail
  | _, _ => .fail
def absD : List D → S → Res
  | [.int i], s => .ok (.int (if i < 0 then -i else i)) s
  | _, _ => .fail
def intD : List D → S → Res
  | [.int i], s => .ok (.int i) s
  | [.bl b], s => .ok (.int (if b then 1 else 0)) s
  | _, _ => .fail
def listD : List D → S → Res
  | [x], s => match seqOf s x with | some ds => al (.lst ds) s | none => .fail
  | _, _ => .fail
def tupD : List D → S → Res
  | [.tup ds], s => .ok (.tup ds) s
  | [.ref n], s => match lstOf s n with | some ds => .ok (.tup ds) s | none => .fail
  | _, _ => .fail
def D.toI : D → Option Int
  | .int i => some i
  | _ => none
def D.toB : D → Option Bool
  | .bl b => some b
  | _ => none
def sumD : List D → S → Res
  | [x], s => match seqOf s x with | some ds => (match ds.mapM D.toI with | some ns => .ok (.int ns.sum) s | none => .fail) | none => .fail
  | _, _ => .fail
def allD : List D → S → Res
  | [x], s => match seqOf s x with | some ds => (match ds.mapM D.toB with | some bs => .ok (.bl (bs.all id)) s | none => .fail) | none => .fail
  | _, _ => .fail
def anyD : List D → S → Res
  | [x], s => match seqOf s x with | some ds => (match ds.mapM D.toB with | some bs => .ok (.bl (bs.any id)) s | none => .fail) | none => .fail
  | _, _ => .fail
def lmax : List Int → Option Int
  | [] => none
  | x :: r => some (r.foldl max x)
def lmin : List Int → Option Int
  | [] => none
  | x :: r => some (r.foldl min x)
def maxD : List D → S → Res
  | [.int i, .int j], s => .ok (.int (if j > i then j else i)) s
  | [x], s => match seqOf s x with | some ds => (match (ds.mapM D.toI).bind lmax with | some m => .ok (.int m) s | none => .fail) | none => .fail
  | _, _ => .fail
def minD : List D → S → Res
  | [.int i, .int j], s => .ok (.int (if j < i then j else i)) s
  | [x], s => match seqOf s x with | some ds => (match (ds.mapM D.toI).bind lmin with | some m => .ok (.int m) s | none => .fail) | none => .fail
  | _, _ => .fail

/-! ### methods of lists -/
def mAppend (B : List Nat) : D → List D → S → Res
  | .ref n, [v], s => match s[n]? with
    | some (.lst ds) => if ds.length < lim ∧ wok B n v = true then .ok .non (s.set n (.lst (ds ++ [v]))) else .fail
    | _ => .fail
  | _, _, _ => .fail
def extL (B : List Nat) (n : Nat) (es : List D) (s : S) : Res := match s[n]? with
  | some (.lst ds) => if ds.length + es.length ≤ lim ∧ woks B n es = true then .ok .non (s.set n (.lst (ds ++ es))) else .fail
  | _ => .fail
def mExtend (B : List Nat) : D → List D → S → Res
  | .ref n, [.tup es], s => extL B n es s
  | .ref n, [.ref m], s => match lstOf s m with | some es => extL B n es s | none => .fail
  | _, _, _ => .fail
def mPop (B : List Nat) : D → List D → S → Res
  | .ref n, [], s => match s[n]? with
    | some (.lst ds) => (match ds[ds.length - 1]? with | some .und => .fail | some d => .ok d (s.set n (.lst ds.dropLast)) | none => .fail)
    | _ => .fail
  | _, _, _ => .fail
/-- a method of a built-in thing -/
def eMt (pre : D → S → Bool) (f : List Nat → D → List D → S → Res) (o : ES) (a : AS) : ES := fun c ρ s => (o c ρ s).bnd fun x s => if pre x s then (a c ρ s).bnd fun xs s => f c.B x xs s else .fail
def isL : D → S → Bool
  | .ref n, s => (lstOf s n).isSome
  | _, _ => false

/-! ### walks -/
def iSeq (e : ES) : IS := fun c ρ s => (e c ρ s).bndI fun x s => match x with
  | .tup ds => .ok ds none s
  | .frl ds => .ok ds none s
  | .ref n => match lstOf s n with | some ds => .ok ds (some (n, ds)) s | none => .fail
  | _ => .fail
def rngI (lo : Int) (n : Nat) : List D := (List.range n).map fun i => .int (lo + (i : Nat))
def rngC (lo c : Int) (n : Nat) : List D := (List.range n).map fun i => .int (lo + (i : Nat) * c)
def small62 (i : Int) : Bool := decide (-(2 ^ 62) ≤ i ∧ i < 2 ^ 62)
def iR1 : AS → IS := fun a c ρ s => (a c ρ s).bndI fun xs s => match xs with
  | [.int j] => if small62 j then .ok (rngI 0 j.toNat) none s else .fail
  | _ => .fail
def iR2 : AS → IS := fun a c ρ s => (a c ρ s).bndI fun xs s => match xs with
  | [.int i, .int j] => if small62 i && small62 j then .ok (rngI i (j - i).toNat) none s else .fail
  | _ => .fail
/-- downwards by ones -/
def iR3 : AS → IS := fun a c ρ s => (a c ρ s).bndI fun xs s => match xs with
  | [.int i, .int j, .int c] => if c = -1 ∧ small62 i = true ∧ small62 j = true then .ok (rngC i (-1) (i - j).toNat) none s else .fail
  | _ => .fail
def enumD (ds : List D) : List D := (List.range ds.length).zipWith (fun i d => .tup [.int (i : Nat), d]) ds
def iEnum (e : ES) : IS := fun c ρ s => (e c ρ s).bndI fun x s => match x with
  | .frl ds => .ok (enumD ds) none s
  | .tup ds => .ok (enumD ds) none s
  | .ref n => match lstOf s n with | some ds => .ok (enumD ds) (some (n, ds)) s | none => .fail
  | _ => .fail

/-! ### dicts -/
/-- what is written {k: v, ..} -/
def pairUp : List D → Option (List (D × D))
  | [] => some []
  | k :: v :: r => (pairUp r).map ((k, v) :: ·)
  | _ => none
def isKey : D → Bool
  | .int _ => true
  | .str _ => true
  | _ => false
def mergeD (kvs more : List (D × D)) : List (D × D) := more.foldl (fun acc kv => dput acc kv.1 kv.2) kvs
def eDct (a : AS) : ES := fun c ρ s => (a c ρ s).bnd fun xs s => match pairUp xs with
  | some kvs => if kvs.length ≤ 15 ∧ kvs.all (fun kv => isKey kv.1) = true then al (.dct (mergeD [] kvs)) s else .fail
  | none => .fail
/-- dict(d) -/
def dictD : List D → S → Res
  | [.ref n], s => match dctOf s n with | some kvs => al (.dct kvs) s | none => .fail
  | _, _ => .fail
/-- d.get(k, x) -/
def eGet2 (o i x : ES) : ES := fun c ρ s => (o c ρ s).bnd fun d s => (match d with
  | .ref n => (match dctOf s n with | some _ => (i c ρ s).bnd fun k s => (x c ρ s).bnd fun z s => (match dctOf s n with | some kvs => (match isKey k, dget kvs k with | true, some .und => .fail | true, some v => .ok v s | true, none => .ok z s | false, _ => .fail) | none => .fail) | none => .fail)
  | _ => .fail)
/-- a dict stands locked while it is walked -/
def unlk (n : Nat) : Out → Out
  | .nx ρ s => (match s[n]? with | some (.dfz kvs) => .nx ρ (s.set n (.dct kvs)) | _ => .fail)
  | .rt d s => (match s[n]? with | some (.dfz kvs) => .rt d (s.set n (.dct kvs)) | _ => .fail)
  | .exc k s => .exc k s
  | _ => .fail
def iKeyD (i : Nat) : IS := fun _ ρ s => match gv ρ i with
  | .ref n => (match s[n]? with | some (.dfz kvs) => .ok (kvs.map (·.1)) none s | _ => .fail)
  | _ => .fail
def sForD (gc : Bool) (i : Nat) (t : TS) (body : SS) : SS := fun c ρ s => match gv ρ i with
  | .ref n => (match s[n]? with | some (.dct kvs) => unlk n (sFor gc (iKeyD i) t body c ρ (s.set n (.dfz kvs))) | _ => .fail)
  | _ => .fail
end Ev

namespace Ev
open PySem L2

/-- what stays the same through the whole law: the written part, the tables of code objects, the classes by number -/
structure G where
  ex : Addr
  K : PySem.W.Frag
  T : List (Addr × Str)
  cl : List Addr

/-- a list that is known and never written -/
def FzL (K : PySem.W.Frag) (H : Hp) (a : Addr) (xs : List V) : Prop :=
  (∃ o, H a = some (.frz o (.lst xs))) ∨
    ∃ (o : Obj) (its : Array Value) (n : Nat), K.lookup a = some o ∧ o.cls = .type "list" ∧ o.dict = none ∧ o.data = .seq its n ∧ its.size ≤ sizeLine ∧ Vals xs its.toList
theorem FzL.sq {K : PySem.W.Frag} {H : Hp} {a : Addr} {xs : List V} (h : FzL K H a xs) : SqL K H a xs := h.elim (fun z => .inl (.inr z)) .inr

mutual
inductive RV (K : PySem.W.Frag) (α : List Addr) (H : Hp) : V → D → Prop where
  | non : RV K α H .non .non
  | bl (b : Bool) : RV K α H (.bl b) (.bl b)
  | int (i : Int) : RV K α H (.int i) (.int i)
  | str (x : Str) : RV K α H (.str x) (.str x)
  | tup {a : Addr} {xs : List V} {ds : List D} : SqT K H a xs → RVs K α H xs ds → RV K α H (.ref a) (.tup ds)
  | frl {a : Addr} {xs : List V} {ds : List D} : FzL K H a xs → RVs K α H xs ds → RV K α H (.ref a) (.frl ds)
  | ref {a : Addr} {n : Nat} : α[n]? = some a → RV K α H (.ref a) (.ref n)
inductive RVs (K : PySem.W.Frag) (α : List Addr) (H : Hp) : List V → List D → Prop where
  | nil : RVs K α H [] []
  | cons {v : V} {d : D} {vs : List V} {ds : List D} : RV K α H v d → RVs K α H vs ds → RVs K α H (v :: vs) (d :: ds)
end

/-- more may be known -/
structure Ext0 (K : PySem.W.Frag) (α α' : List Addr) (H H' : Hp) : Prop where
  pre : ∀ (n : Nat) (a : Addr), α[n]? = some a → α'[n]? = some a
  tup : ∀ (a : Addr) (xs : List V), SqT K H a xs → SqT K H' a xs
  frl : ∀ (a : Addr) (xs : List V), FzL K H a xs → FzL K H' a xs
/-- .. and what is not spoken of stays as it is -/
structure Ext (K : PySem.W.Frag) (α α' : List Addr) (H H' : Hp) : Prop where
  e0 : Ext0 K α α' H H'
  off : ∀ (a : Addr) (o : HO), H a = some o → (∀ ps, o ≠ .tbl ps) → a ∉ α → H' a = some o ∧ a ∉ α'
  frz : ∀ (a : Addr) (o : Obj) (kvs : List (Key × V)), H a = some (.frz o (.dK kvs)) → H' a = some (.frz o (.dK kvs))
theorem Ext.pre {K : PySem.W.Frag} {α α' : List Addr} {H H' : Hp} (e : Ext K α α' H H') : ∀ (n : Nat) (a : Addr), α[n]? = some a → α'[n]? = some a := e.e0.pre
theorem Ext.tup {K : PySem.W.Frag} {α α' : List Addr} {H H' : Hp} (e : Ext K α α' H H') : ∀ (a : Addr) (xs : List V), SqT K H a xs → SqT K H' a xs := e.e0.tup
theorem Ext.frl {K : PySem.W.Frag} {α α' : List Addr} {H H' : Hp} (e : Ext K α α' H H') : ∀ (a : Addr) (xs : List V), FzL K H a xs → FzL K H' a xs := e.e0.frl
theorem Ext.refl {K : PySem.W.Frag} {α : List Addr} {H : Hp} : Ext K α α H H := ⟨⟨fun _ _ h => h, fun _ _ h => h, fun _ _ h => h⟩, fun _ _ h _ n => ⟨h, n⟩, fun _ _ _ h => h⟩
theorem Ext.trans {K : PySem.W.Frag} {α α1 α2 : List Addr} {H H1 H2 : Hp} (a : Ext K α α1 H H1) (b : Ext K α1 α2 H1 H2) : Ext K α α2 H H2 :=
  ⟨⟨fun n x h => b.pre n x (a.pre n x h), fun x xs h => b.tup x xs (a.tup x xs h), fun x xs h => b.frl x xs (a.frl x xs h)⟩, fun x o h t n => let q := a.off x o h t n; b.off x o q.1 t q.2, fun x o k h => b.frz x o k (a.frz x o k h)⟩

theorem ygs_cons {b : Nat} {d : D} {r : List D} : D.ygs b (d :: r) = false ↔ d.yg b = false ∧ D.ygs b r = false := by
  rw [D.ygs, Bool.or_eq_false_iff]
section
variable {K : PySem.W.Frag} {α α' : List Addr} {H H' : Hp}
mutual
theorem RV.ext0 (e : Ext0 K α α' H H') : ∀ {v : V} {d : D}, RV K α H v d → RV K α' H' v d
  | _, _, .non => .non
  | _, _, .bl b => .bl b
  | _, _, .int i => .int i
  | _, _, .str x => .str x
  | _, _, .tup h r => .tup (e.tup _ _ h) (RVs.ext0 e r)
  | _, _, .frl h r => .frl (e.frl _ _ h) (RVs.ext0 e r)
  | _, _, .ref h => .ref (e.pre _ _ h)
theorem RVs.ext0 (e : Ext0 K α α' H H') : ∀ {vs : List V} {ds : List D}, RVs K α H vs ds → RVs K α' H' vs ds
  | _, _, .nil => .nil
  | _, _, .cons r t => .cons (RV.ext0 e r) (RVs.ext0 e t)
end
mutual
/-- a value that speaks of no place from b on -/
theorem RV.cut {b : Nat} : ∀ {v : V} {d : D}, RV K α H v d → d.yg b = false → RV K (α.take b) H v d
  | _, _, .non, _ => .non
  | _, _, .bl b, _ => .bl b
  | _, _, .int i, _ => .int i
  | _, _, .str x, _ => .str x
  | _, _, .tup h r, y => .tup h (RVs.cut r (by simpa [D.yg] using y))
  | _, _, .frl h r, y => .frl h (RVs.cut r (by simpa [D.yg] using y))
  | _, _, @RV.ref _ _ _ _ n h, y => .ref (by
      have y' : n < b := by simpa [D.yg] using y
      rw [List.getElem?_take_of_lt y']; exact h)
theorem RVs.cut {b : Nat} : ∀ {vs : List V} {ds : List D}, RVs K α H vs ds → D.ygs b ds = false → RVs K (α.take b) H vs ds
  | _, _, .nil, _ => .nil
  | _, _, .cons r t, y => by
      have y' := ygs_cons.mp y
      exact .cons (RV.cut r y'.1) (RVs.cut t y'.2)
end
theorem RVs.length : ∀ {vs : List V} {ds : List D}, RVs K α H vs ds → vs.length = ds.length
  | _, _, .nil => rfl
  | _, _, .cons _ t => by rw [List.length_cons, List.length_cons, RVs.length t]
theorem RVs.get : ∀ {vs : List V} {ds : List D} {i : Nat} {d : D}, RVs K α H vs ds → ds[i]? = some d → ∃ v, vs[i]? = some v ∧ RV K α H v d
  | _, _, _, _, .nil, e => by simp at e
  | _, _, 0, _, .cons r _, e => by simp at e; subst e; exact ⟨_, rfl, r⟩
  | _, _, i + 1, d, .cons _ t, e => by
    obtain ⟨v, h1, h2⟩ := RVs.get (i := i) (d := d) t (by simpa using e)
    exact ⟨v, by simpa using h1, h2⟩
theorem RVs.getV : ∀ {vs : List V} {ds : List D} {i : Nat} {v : V}, RVs K α H vs ds → vs[i]? = some v → ∃ d, ds[i]? = some d ∧ RV K α H v d
  | _, _, _, _, .nil, e => by simp at e
  | _, _, 0, _, .cons r _, e => by simp at e; subst e; exact ⟨_, rfl, r⟩
  | _, _, i + 1, d, .cons _ t, e => by
    obtain ⟨v, h1, h2⟩ := RVs.getV (i := i) (v := d) t (by simpa using e)
    exact ⟨v, by simpa using h1, h2⟩
theorem RVs.set {v : V} {d : D} (r : RV K α H v d) : ∀ {vs : List V} {ds : List D} (i : Nat), RVs K α H vs ds → RVs K α H (vs.set i v) (ds.set i d)
  | _, _, _, .nil => .nil
  | _, _, 0, .cons _ t => .cons r t
  | _, _, i + 1, .cons q t => .cons q (RVs.set r i t)
theorem RVs.append : ∀ {vs ws : List V} {ds es : List D}, RVs K α H vs ds → RVs K α H ws es → RVs K α H (vs ++ ws) (ds ++ es)
  | _, _, _, _, .nil, s => s
  | _, _, _, _, .cons r t, s => .cons r (RVs.append t s)
theorem RVs.take : ∀ {vs : List V} {ds : List D} (n : Nat), RVs K α H vs ds → RVs K α H (vs.take n) (ds.take n)
  | _, _, 0, _ => .nil
  | _, _, _ + 1, .nil => .nil
  | _, _, n + 1, .cons r t => .cons r (RVs.take n t)
theorem RVs.drop : ∀ {vs : List V} {ds : List D} (n : Nat), RVs K α H vs ds → RVs K α H (vs.drop n) (ds.drop n)
  | _, _, 0, r => r
  | _, _, _ + 1, .nil => .nil
  | _, _, n + 1, .cons _ t => RVs.drop n t
theorem RVs.reverse : ∀ {vs : List V} {ds : List D}, RVs K α H vs ds → RVs K α H vs.reverse ds.reverse
  | _, _, .nil => .nil
  | _, _, .cons r t => by rw [List.reverse_cons, List.reverse_cons]; exact RVs.append (RVs.reverse t) (.cons r .nil)
end

/-- keys of dicts (ints, texts) -/
def kD : Key → D
  | .inl i => .int i
  | .inr x => .str x
inductive RKs (K : PySem.W.Frag) (α : List Addr) (H : Hp) : List (Key × V) → List (D × D) → Prop where
  | nil : RKs K α H [] []
  | cons {k : Key} {v : V} {d : D} {vs : List (Key × V)} {ds : List (D × D)} : RV K α H v d → RKs K α H vs ds → RKs K α H ((k, v) :: vs) ((kD k, d) :: ds)

def O.yg (b : Nat) : O → Bool
  | .lst ds => D.ygs b ds
  | .dct kvs => D.ygs b (kvs.map (·.2))
  | .dfz kvs => D.ygs b (kvs.map (·.2))
  | .ins _ fs => D.ygs b (fs.map (·.2))

/-- an instance's attributes -/
inductive RFs (K : PySem.W.Frag) (α : List Addr) (H : Hp) : List (Str × V) → List (Str × D) → Prop where
  | nil : RFs K α H [] []
  | cons {n : Str} {v : V} {d : D} {vs : List (Str × V)} {ds : List (Str × D)} : RV K α H v d → RFs K α H vs ds → RFs K α H ((n, v) :: vs) ((n, d) :: ds)

/-- the object at a -/
inductive RO (g : G) (α : List Addr) (H : Hp) (a : Addr) : O → Prop where
  | lst {xs : List V} {ds : List D} : H a = some (.lst xs) → RVs g.K α H xs ds → RO g α H a (.lst ds)
  | dct {xs : List (Key × V)} {ds : List (D × D)} : H a = some (.dK xs) → RKs g.K α H xs ds → RO g α H a (.dct ds)
  | dfz {o : Obj} {xs : List (Key × V)} {ds : List (D × D)} : H a = some (.frz o (.dK xs)) → RKs g.K α H xs ds → RO g α H a (.dfz ds)
  | ins {c : Nat} {C' dx : Addr} {xs : List (Str × V)} {fs : List (Str × D)} : g.cl[c]? = some C' → H a = some (.ins C' dx xs) → RFs g.K α H xs fs → RO g α H a (.ins c fs)

/-- the store s stands in the heap H, its places at α -/
structure R (g : G) (B : List Nat) (α : List Addr) (H : Hp) (s : S) : Prop where
  len : α.length = s.length
  nd : α.Nodup
  obj : ∀ (n : Nat) (a : Addr) (o : O), α[n]? = some a → s[n]? = some o → RO g α H a o
  blk : ∀ b ∈ B, b ≤ s.length ∧ ∀ (n : Nat) (o : O), n < b → s[n]? = some o → o.yg b = false
  tabs : LamX.Tabs g.T H
  ord : B.Pairwise (fun b c => c ≤ b)

section
variable {g : G} {B : List Nat} {α α' : List Addr} {H H' : Hp} {s : S}
theorem RKs.ext0 {K : PySem.W.Frag} (e : Ext0 K α α' H H') : ∀ {vs : List (Key × V)} {ds : List (D × D)}, RKs K α H vs ds → RKs K α' H' vs ds
  | _, _, .nil => .nil
  | _, _, .cons r t => .cons (r.ext0 e) (RKs.ext0 e t)
theorem RKs.cut {K : PySem.W.Frag} {b : Nat} : ∀ {vs : List (Key × V)} {ds : List (D × D)}, RKs K α H vs ds → D.ygs b (ds.map (·.2)) = false → RKs K (α.take b) H vs ds
  | _, _, .nil, _ => .nil
  | _, _, .cons r t, y => by
      have y' := ygs_cons.mp y
      exact .cons (r.cut y'.1) (RKs.cut t y'.2)
theorem RFs.ext0 {K : PySem.W.Frag} (e : Ext0 K α α' H H') : ∀ {vs : List (Str × V)} {ds : List (Str × D)}, RFs K α H vs ds → RFs K α' H' vs ds
  | _, _, .nil => .nil
  | _, _, .cons r t => .cons (r.ext0 e) (RFs.ext0 e t)
theorem RFs.cut {K : PySem.W.Frag} {b : Nat} : ∀ {vs : List (Str × V)} {ds : List (Str × D)}, RFs K α H vs ds → D.ygs b (ds.map (·.2)) = false → RFs K (α.take b) H vs ds
  | _, _, .nil, _ => .nil
  | _, _, .cons r t, y => by
      have y' := ygs_cons.mp y
      exact .cons (r.cut y'.1) (RFs.cut t y'.2)
theorem RO.cut {b : Nat} {a : Addr} : ∀ {o : O}, RO g α H a o → o.yg b = false → RO g (α.take b) H a o
  | _, .lst h r, y => .lst h (r.cut y)
  | _, .dct h r, y => .dct h (r.cut y)
  | _, .dfz h r, y => .dfz h (r.cut y)
  | _, .ins c h r, y => .ins c h (r.cut y)
/-- an object stays where its own address is as it was -/
theorem RO.ext0 {a : Addr} (e : Ext0 g.K α α' H H') (ha : H' a = H a) : ∀ {o : O}, RO g α H a o → RO g α' H' a o
  | _, .lst h r => .lst (ha.trans h) (r.ext0 e)
  | _, .dct h r => .dct (ha.trans h) (r.ext0 e)
  | _, .dfz h r => .dfz (ha.trans h) (r.ext0 e)
  | _, .ins c h r => .ins c (ha.trans h) (r.ext0 e)
theorem RO.ext {a : Addr} (e : Ext g.K α α' H H') (ha : H' a = H a) {o : O} (r : RO g α H a o) : RO g α' H' a o := r.ext0 e.e0 ha
theorem RKs.ext {K : PySem.W.Frag} (e : Ext K α α' H H') {vs : List (Key × V)} {ds : List (D × D)} (r : RKs K α H vs ds) : RKs K α' H' vs ds := r.ext0 e.e0
theorem RFs.ext {K : PySem.W.Frag} (e : Ext K α α' H H') {vs : List (Str × V)} {ds : List (Str × D)} (r : RFs K α H vs ds) : RFs K α' H' vs ds := r.ext0 e.e0
theorem RV.ext {K : PySem.W.Frag} (e : Ext K α α' H H') {v : V} {d : D} (r : RV K α H v d) : RV K α' H' v d := r.ext0 e.e0
theorem RVs.ext {K : PySem.W.Frag} (e : Ext K α α' H H') {v : List V} {d : List D} (r : RVs K α H v d) : RVs K α' H' v d := r.ext0 e.e0
theorem RO.some {a : Addr} {o : O} (r : RO g α H a o) : ∃ u, H a = some u := by
  cases r <;> exact ⟨_, by assumption⟩
/-- an inner block begins -/
theorem R.push (r : R g B α H s) : R g (s.length :: B) α H s := by
  refine ⟨r.len, r.nd, r.obj, fun b hb => ?_, r.tabs, List.pairwise_cons.mpr ⟨fun c hc => (r.blk c hc).1, r.ord⟩⟩
  rcases List.mem_cons.mp hb with rfl | hb
  · refine ⟨Nat.le_refl _, fun n o hn ho => ?_⟩
    have hn' : n < α.length := by rw [r.len]; exact hn
    have q := r.obj n α[n] o (by simp [hn']) ho
    have lt : ∀ {m : Nat} {a : Addr}, α[m]? = some a → m < s.length := fun {m a} h => by
      rw [← r.len]
      exact (List.getElem?_eq_some_iff.mp h).1
    have yv : ∀ {v : V} {d : D}, RV g.K α H v d → d.yg s.length = false := by
      intro v d h
      exact yv1 lt h
    cases q with
    | lst _ h => exact yvs1 lt h
    | dct _ h => exact yks1 lt h
    | dfz _ h => exact yks1 lt h
    | ins _ _ h => exact yfs1 lt h
  · exact r.blk b hb
where
  yv1 {K : PySem.W.Frag} {α : List Addr} {H : Hp} {N : Nat} (lt : ∀ {m : Nat} {a : Addr}, α[m]? = some a → m < N) : ∀ {v : V} {d : D}, RV K α H v d → d.yg N = false
    | _, _, .non => rfl
    | _, _, .bl b => rfl
    | _, _, .int i => rfl
    | _, _, .str x => rfl
    | _, _, .tup h r => yvs1 lt r
    | _, _, .frl h r => yvs1 lt r
    | _, _, .ref h => by have := lt h; simp [D.yg]; omega
  yvs1 {K : PySem.W.Frag} {α : List Addr} {H : Hp} {N : Nat} (lt : ∀ {m : Nat} {a : Addr}, α[m]? = some a → m < N) : ∀ {v : List V} {d : List D}, RVs K α H v d → D.ygs N d = false
    | _, _, .nil => rfl
    | _, _, .cons r t => by rw [D.ygs, yv1 lt r, yvs1 lt t]; rfl
  yks1 {K : PySem.W.Frag} {α : List Addr} {H : Hp} {N : Nat} (lt : ∀ {m : Nat} {a : Addr}, α[m]? = some a → m < N) : ∀ {v : List (Key × V)} {d : List (D × D)}, RKs K α H v d → D.ygs N (d.map (·.2)) = false
    | _, _, .nil => rfl
    | _, _, .cons r t => by rw [List.map_cons, D.ygs, yv1 lt r, yks1 lt t]; rfl
  yfs1 {K : PySem.W.Frag} {α : List Addr} {H : Hp} {N : Nat} (lt : ∀ {m : Nat} {a : Addr}, α[m]? = some a → m < N) : ∀ {v : List (Str × V)} {d : List (Str × D)}, RFs K α H v d → D.ygs N (d.map (·.2)) = false
    | _, _, .nil => rfl
    | _, _, .cons r t => by rw [List.map_cons, D.ygs, yv1 lt r, yfs1 lt t]; rfl
end
end Ev

namespace Ev
open PySem L2

section
variable {g : G} {B : List Nat} {α α' : List Addr} {H H' : Hp} {s s' : S} {b : Nat}

theorem R.drop (r : R g (b :: B) α H s) : R g B α H s := ⟨r.len, r.nd, r.obj, fun c hc => r.blk c (List.mem_cons_of_mem _ hc), r.tabs, (List.pairwise_cons.mp r.ord).2⟩
/-- what is new is let go -/
theorem R.fin (r : R g (b :: B) α H s) : R g B (α.take b) H (s.take b) := by
  obtain ⟨hb, hy⟩ := r.blk b List.mem_cons_self
  refine ⟨by rw [List.length_take, List.length_take, r.len], r.nd.sublist (List.take_sublist _ _), fun n a o ha ho => ?_, fun c hc => ?_, r.tabs, (List.pairwise_cons.mp r.ord).2⟩
  · have hn : n < b := by
      have q := (List.getElem?_eq_some_iff.mp ho).1
      rw [List.length_take] at q
      omega
    rw [List.getElem?_take_of_lt hn] at ha ho
    exact (r.obj n a o ha ho).cut (hy n o hn ho)
  · obtain ⟨h1, h2⟩ := r.blk c (List.mem_cons_of_mem _ hc)
    have hcb := (List.pairwise_cons.mp r.ord).1 c hc
    refine ⟨by rw [List.length_take]; omega, fun n o hn ho => ?_⟩
    rw [List.getElem?_take_of_lt (by omega)] at ho
    exact h2 n o hn ho
/-- the places that stood before -/
theorem Ext.cut {K : PySem.W.Frag} (e : Ext K α α' H H') (hb : α.length = b) : Ext K α (α'.take b) H H' := by
  refine ⟨⟨fun n a h => ?_, e.tup, e.frl⟩, fun a o h t n => ⟨(e.off a o h t n).1, fun q => (e.off a o h t n).2 (List.mem_of_mem_take q)⟩, e.frz⟩
  have hn : n < b := by rw [← hb]; exact (List.getElem?_eq_some_iff.mp h).1
  rw [List.getElem?_take_of_lt hn]
  exact e.pre n a h
/-- a new thing is laid at p -/
theorem Ext.new {K : PySem.W.Frag} {p : Addr} {u : HO} (hp : H p = none) : Ext K α (α ++ [p]) H (upd H p u) := by
  refine ⟨⟨fun n a h => ?_, fun a xs h => ?_, fun a xs h => ?_⟩, fun a o h _ n => ⟨by rw [upd_ne (ne_of_none h hp)]; exact h, fun q => ?_⟩, fun a o k h => by rw [upd_ne (ne_of_none h hp)]; exact h⟩
  · rw [List.getElem?_append_left (List.getElem?_eq_some_iff.mp h).1]; exact h
  · rcases h with (h | ⟨o, h⟩) | h
    · exact .inl (.inl (by rw [upd_ne (ne_of_none h hp)]; exact h))
    · exact .inl (.inr ⟨o, by rw [upd_ne (ne_of_none h hp)]; exact h⟩)
    · exact .inr h
  · rcases h with ⟨o, h⟩ | h
    · exact .inl ⟨o, by rw [upd_ne (ne_of_none h hp)]; exact h⟩
    · exact .inr h
  · rcases List.mem_append.mp q with q | q
    · exact n q
    · exact ne_of_none h hp (List.mem_singleton.mp q)
/-- .. and not spoken of (a tuple) -/
theorem Ext.newT {K : PySem.W.Frag} {p : Addr} {u : HO} (hp : H p = none) : Ext K α α H (upd H p u) := by
  have e := Ext.new (K := K) (α := α) (u := u) hp
  exact ⟨⟨fun n a h => h, e.tup, e.frl⟩, fun a o h _ n => ⟨by rw [upd_ne (ne_of_none h hp)]; exact h, n⟩, e.frz⟩
/-- what may be changed -/
def Chg : HO → Prop
  | .lst _ => True
  | .dK _ => True
  | .ins _ _ _ => True
  | _ => False
/-- a changeable thing is changed -/
theorem Ext.chg {K : PySem.W.Frag} {p : Addr} {u o : HO} (hm : p ∈ α) (hp : H p = some o) (ho : Chg o) : Ext K α α H (upd H p u) := by
  have ne : ∀ {a : Addr} {v : HO}, H a = some v → ¬ Chg v → a ≠ p := fun {a v} h c z => by
    rw [z, hp] at h
    cases h
    exact c ho
  refine ⟨⟨fun n a h => h, fun a xs h => ?_, fun a xs h => ?_⟩, fun a o h _ n => ⟨by rw [upd_ne fun (z : a = p) => n (z ▸ hm)]; exact h, n⟩, fun a o k h => by rw [upd_ne (ne h id)]; exact h⟩
  · rcases h with (h | ⟨o, h⟩) | h
    · exact .inl (.inl (by rw [upd_ne (ne h id)]; exact h))
    · exact .inl (.inr ⟨o, by rw [upd_ne (ne h id)]; exact h⟩)
    · exact .inr h
  · rcases h with ⟨o, h⟩ | h
    · exact .inl ⟨o, by rw [upd_ne (ne h id)]; exact h⟩
    · exact .inr h
theorem R.newT {p : Addr} {u : HO} (r : R g B α H s) (hp : H p = none) : R g B α (upd H p u) s := by
  refine ⟨r.len, r.nd, fun n a o ha ho => ?_, r.blk, r.tabs.ext fun b o h => by rw [upd_ne (ne_of_none h hp)]; exact h, r.ord⟩
  have q := r.obj n a o ha ho
  obtain ⟨v, hv⟩ := q.some
  exact q.ext (.newT hp) (upd_ne (ne_of_none hv hp))
theorem R.notin {p : Addr} (r : R g B α H s) (hp : H p = none) : p ∉ α := fun h => by
  obtain ⟨n, hn, e⟩ := List.mem_iff_getElem.mp h
  have hs : n < s.length := by rw [← r.len]; exact hn
  obtain ⟨v, hv⟩ := (r.obj n p s[n] (by rw [List.getElem?_eq_getElem hn, e]) (by simp [hs])).some
  rw [hp] at hv
  cases hv
/-- a new object -/
theorem R.new {p : Addr} {u : HO} {o : O} (r : R g B α H s) (hp : H p = none) (ro : RO g (α ++ [p]) (upd H p u) p o) : R g B (α ++ [p]) (upd H p u) (s ++ [o]) := by
  have r2 := r.newT (u := u) hp
  have l : α.length = s.length := r.len
  refine ⟨by simp [l], ?_, fun n a o' ha ho => ?_, fun c hc => ?_, r2.tabs, r.ord⟩
  · refine List.nodup_append.mpr ⟨r.nd, by simp, fun a ha b hb => ?_⟩
    have e : b = p := by simpa using hb
    subst e
    exact fun z => r.notin hp (z ▸ ha)
  · by_cases hn : n < s.length
    · rw [List.getElem?_append_left (by omega)] at ha ho
      have q := r.obj n a o' ha ho
      obtain ⟨v, hv⟩ := q.some
      exact q.ext (.new hp) (upd_ne (ne_of_none hv hp))
    · have hn' : n = s.length := by
        have := (List.getElem?_eq_some_iff.mp ho).1
        simp at this
        omega
      subst hn'
      rw [List.getElem?_append_right (by omega)] at ha ho
      simp [l] at ha ho
      subst ha ho
      exact ro
  · obtain ⟨h1, h2⟩ := r.blk c hc
    refine ⟨by simp; omega, fun n o' hn ho => ?_⟩
    rw [List.getElem?_append_left (by omega)] at ho
    exact h2 n o' hn ho
/-- an object is changed -/
theorem R.chg {p : Addr} {n : Nat} {u v : HO} {o : O} (r : R g B α H s) (hn : α[n]? = some p) (hp : H p = some v) (hv : Chg v) (ro : RO g α (upd H p u) p o) (hB : ∀ b ∈ B, n < b → o.yg b = false) : R g B α (upd H p u) (s.set n o) := by
  have l : α.length = s.length := r.len
  have hlt : n < α.length := (List.getElem?_eq_some_iff.mp hn).1
  refine ⟨by simp [l], r.nd, fun m a o' ha ho => ?_, fun c hc => ?_, fun q hq => ?_, r.ord⟩
  · by_cases hm : m = n
    · subst hm
      rw [hn] at ha
      cases ha
      rw [List.getElem?_set_self (by omega)] at ho
      cases ho
      exact ro
    · rw [List.getElem?_set_ne (Ne.symm hm)] at ho
      have q := r.obj m a o' ha ho
      refine q.ext (.chg (List.mem_of_getElem? hn) hp hv) (upd_ne fun z => hm ?_)
      subst z
      have ha' := List.getElem?_eq_some_iff.mp ha
      have hn' := List.getElem?_eq_some_iff.mp hn
      obtain ⟨i1, e1⟩ := ha'
      obtain ⟨i2, e2⟩ := hn'
      exact (List.getElem_inj r.nd).mp (e1.trans e2.symm)
  · obtain ⟨h1, h2⟩ := r.blk c hc
    refine ⟨by simpa using h1, fun m o' hm ho => ?_⟩
    by_cases hmn : m = n
    · subst hmn
      rw [List.getElem?_set_self (by omega)] at ho
      cases ho
      exact hB c hc hm
    · rw [List.getElem?_set_ne (Ne.symm hmn)] at ho
      exact h2 m o' hm ho
  · obtain ⟨ps, h1, h2, h3⟩ := r.tabs q hq
    have nt : ∀ {b : Addr} {w : HO}, H b = some w → ¬ Chg w → b ≠ p := fun {b w} h c z => by
      rw [z, hp] at h
      cases h
      exact c hv
    refine ⟨ps, by rw [upd_ne (nt h1 id)]; exact h1, h2, fun pos cv hcv => ?_⟩
    obtain ⟨c, e1, e2⟩ := h3 pos cv hcv
    exact ⟨c, e1, by rw [upd_ne (nt e2 id)]; exact e2⟩
theorem R.get (r : R g B α H s) {v : V} {n : Nat} {o : O} (h : RV g.K α H v (.ref n)) (ho : s[n]? = some o) : ∃ a, v = .ref a ∧ α[n]? = some a ∧ RO g α H a o := by
  cases h with
  | ref h => exact ⟨_, rfl, h, r.obj _ _ _ h ho⟩
end

/-! ### the slots -/
def RE (K : PySem.W.Frag) (α : List Addr) (H : Hp) (σ : L2.St) (ρ : Env) : Prop :=
  σ.length = ρ.length ∧ ∀ i, gv ρ i ≠ .und → ∃ v, σ[i]? = some (some v) ∧ RV K α H v (gv ρ i)
theorem gv_sv_same : ∀ {ρ : Env} {i : Nat} {d : D}, i < ρ.length → gv (sv ρ i d) i = d
  | [], _, _, h => absurd h (by simp)
  | _ :: _, 0, _, _ => rfl
  | _ :: r, i + 1, d, h => gv_sv_same (ρ := r) (by simpa using h)
theorem gv_sv_ne : ∀ {ρ : Env} {i j : Nat} {d : D}, i ≠ j → gv (sv ρ i d) j = gv ρ j
  | [], _, _, _, _ => rfl
  | _ :: _, 0, 0, _, h => absurd rfl h
  | _ :: _, 0, _ + 1, _, _ => rfl
  | _ :: _, _ + 1, 0, _, _ => rfl
  | _ :: r, i + 1, j + 1, d, h => gv_sv_ne (ρ := r) fun z => h (by rw [z])
theorem sv_length : ∀ {ρ : Env} {i : Nat} {d : D}, (sv ρ i d).length = ρ.length
  | [], _, _ => rfl
  | _ :: _, 0, _ => rfl
  | _ :: r, i + 1, d => by simp [sv, sv_length (ρ := r)]
theorem gv_lt : ∀ {ρ : Env} {i : Nat}, gv ρ i ≠ .und → i < ρ.length
  | [], _, h => absurd rfl h
  | _ :: _, 0, _ => by simp
  | _ :: r, i + 1, h => by
    have := gv_lt (ρ := r) (i := i) h
    simpa using this
section
variable {K : PySem.W.Frag} {α α' : List Addr} {H H' : Hp} {σ : L2.St} {ρ : Env} {b : Nat}
theorem RE.ext (r : RE K α H σ ρ) (e : Ext K α α' H H') : RE K α' H' σ ρ := ⟨r.1, fun i h => let ⟨v, h1, h2⟩ := r.2 i h; ⟨v, h1, h2.ext e⟩⟩
theorem RE.set {v : V} {d : D} {i : Nat} (r : RE K α H σ ρ) (rv : RV K α H v d) (hi : i < σ.length) : RE K α H (σ.set i (some v)) (sv ρ i d) := by
  refine ⟨by rw [List.length_set, sv_length, r.1], fun j h => ?_⟩
  by_cases e : i = j
  · subst e
    exact ⟨v, by rw [List.getElem?_set_self hi], by rw [gv_sv_same (by rw [← r.1]; exact hi)]; exact rv⟩
  · rw [gv_sv_ne e] at h ⊢
    obtain ⟨w, h1, h2⟩ := r.2 j h
    exact ⟨w, by rw [List.getElem?_set_ne e]; exact h1, h2⟩
theorem gv_erase : ∀ {ρ : Env} {i : Nat}, gv (erase b ρ) i = if (gv ρ i).yg b then .und else gv ρ i
  | [], _ => by simp [erase, gv, D.yg]
  | d :: _, 0 => rfl
  | _ :: r, i + 1 => gv_erase (ρ := r) (i := i)
theorem erase_length : ∀ {ρ : Env}, (erase b ρ).length = ρ.length
  | [] => rfl
  | _ :: r => by simp [erase, erase_length (ρ := r)]
theorem RE.cut (r : RE K α H σ ρ) : RE K (α.take b) H σ (erase b ρ) := by
  refine ⟨by rw [erase_length, r.1], fun i h => ?_⟩
  rw [gv_erase] at h ⊢
  split at h
  · exact absurd rfl h
  · rename_i hy
    rw [if_neg hy]
    obtain ⟨v, h1, h2⟩ := r.2 i h
    exact ⟨v, h1, h2.cut (by simpa using hy)⟩
end

/-! ### what is wanted behind a piece -/
section
variable (g : G) (E : XK) (B : List Nat) (α : List Addr) (H : Hp)
/-- an own error lies at the class g.ex with the code c -/
def PExc (c : D) (s : S) : Prop := ∀ (α' : List Addr) (H' : Hp) (v : V) (dx : Addr), Ext g.K α α' H H' → R g B α' H' s → RV g.K α' H' v c → H' dx = some (.xd [("code", v)]) → E (.ref g.ex) (some dx) H'
def PRes (r : Res) (Q : VK) : Prop := match r with
  | .ok d s => ∀ (α' : List Addr) (H' : Hp) (v : V), Ext g.K α α' H H' → R g B α' H' s → RV g.K α' H' v d → Q v H'
  | .exc c s => PExc g E B α H c s
  | .fail => False
def PRss (r : Rss) (Q : List V → Hp → Prop) : Prop := match r with
  | .ok d s => ∀ (α' : List Addr) (H' : Hp) (v : List V), Ext g.K α α' H H' → R g B α' H' s → RVs g.K α' H' v d → Q v H'
  | .exc c s => PExc g E B α H c s
  | .fail => False
def POut (r : Out) (D : Ends) : Prop := match r with
  | .nx ρ s => ∀ (α' : List Addr) (H' : Hp) (σ : L2.St), Ext g.K α α' H H' → R g B α' H' s → RE g.K α' H' σ ρ → D.nx σ H'
  | .bk ρ s => ∀ (α' : List Addr) (H' : Hp) (σ : L2.St), Ext g.K α α' H H' → R g B α' H' s → RE g.K α' H' σ ρ → D.bk σ H'
  | .ct ρ s => ∀ (α' : List Addr) (H' : Hp) (σ : L2.St), Ext g.K α α' H H' → R g B α' H' s → RE g.K α' H' σ ρ → D.ct σ H'
  | .rt d s => ∀ (α' : List Addr) (H' : Hp) (v : V), Ext g.K α α' H H' → R g B α' H' s → RV g.K α' H' v d → D.rt v H'
  | .exc c s => PExc g E B α H c s
  | .fail => False
end
section
variable {g : G} {E : XK} {B : List Nat} {α α' : List Addr} {H H' : Hp}
theorem PExc.ext {c : D} {s : S} (h : PExc g E B α H c s) (e : Ext g.K α α' H H') : PExc g E B α' H' c s := fun a h' v dx e' r rv hd => h a h' v dx (e.trans e') r rv hd
theorem PRes.ext : ∀ {r : Res} {Q : VK}, PRes g E B α H r Q → Ext g.K α α' H H' → PRes g E B α' H' r Q
  | .ok _ _, _, h, e => fun a h' v e' r rv => h a h' v (e.trans e') r rv
  | .exc _ _, _, h, e => PExc.ext h e
  | .fail, _, h, _ => h
theorem PRss.ext : ∀ {r : Rss} {Q : List V → Hp → Prop}, PRss g E B α H r Q → Ext g.K α α' H H' → PRss g E B α' H' r Q
  | .ok _ _, _, h, e => fun a h' v e' r rv => h a h' v (e.trans e') r rv
  | .exc _ _, _, h, e => PExc.ext h e
  | .fail, _, h, _ => h
theorem POut.ext : ∀ {r : Out} {D : Ends}, POut g E B α H r D → Ext g.K α α' H H' → POut g E B α' H' r D
  | .nx _ _, _, h, e => fun a h' v e' r rv => h a h' v (e.trans e') r rv
  | .bk _ _, _, h, e => fun a h' v e' r rv => h a h' v (e.trans e') r rv
  | .ct _ _, _, h, e => fun a h' v e' r rv => h a h' v (e.trans e') r rv
  | .rt _ _, _, h, e => fun a h' v e' r rv => h a h' v (e.trans e') r rv
  | .exc _ _, _, h, e => PExc.ext h e
  | .fail, _, h, _ => h
theorem PRes.imp : ∀ {r : Res} {Q Q' : VK}, PRes g E B α H r Q → (∀ v H', Q v H' → Q' v H') → PRes g E B α H r Q'
  | .ok _ _, _, _, h, i => fun a h' v e r rv => i v h' (h a h' v e r rv)
  | .exc _ _, _, _, h, _ => h
  | .fail, _, _, h, _ => h
/-- one piece, then the next -/
theorem PRes.bnd {f : D → S → Res} : ∀ {r : Res} {Q : VK}, PRes g E B α H (r.bnd f) Q → PRes g E B α H r fun v H1 => ∃ α1 d s, Ext g.K α α1 H H1 ∧ R g B α1 H1 s ∧ RV g.K α1 H1 v d ∧ PRes g E B α1 H1 (f d s) Q
  | .ok _ _, _, h => fun _ _ _ e r rv => ⟨_, _, _, e, r, rv, PRes.ext h e⟩
  | .exc _ _, _, h => h
  | .fail, _, h => h
theorem PRes.bndA {f : D → S → Rss} : ∀ {r : Res} {Q : List V → Hp → Prop}, PRss g E B α H (r.bndA f) Q → PRes g E B α H r fun v H1 => ∃ α1 d s, Ext g.K α α1 H H1 ∧ R g B α1 H1 s ∧ RV g.K α1 H1 v d ∧ PRss g E B α1 H1 (f d s) Q
  | .ok _ _, _, h => fun _ _ _ e r rv => ⟨_, _, _, e, r, rv, PRss.ext h e⟩
  | .exc _ _, _, h => h
  | .fail, _, h => h
theorem PRes.bndS {f : D → S → Out} : ∀ {r : Res} {Q : Ends}, POut g E B α H (r.bndS f) Q → PRes g E B α H r fun v H1 => ∃ α1 d s, Ext g.K α α1 H H1 ∧ R g B α1 H1 s ∧ RV g.K α1 H1 v d ∧ POut g E B α1 H1 (f d s) Q
  | .ok _ _, _, h => fun _ _ _ e r rv => ⟨_, _, _, e, r, rv, POut.ext h e⟩
  | .exc _ _, _, h => h
  | .fail, _, h => h
theorem PRss.bnd {f : List D → S → Res} : ∀ {r : Rss} {Q : VK}, PRes g E B α H (r.bnd f) Q → PRss g E B α H r fun v H1 => ∃ α1 d s, Ext g.K α α1 H H1 ∧ R g B α1 H1 s ∧ RVs g.K α1 H1 v d ∧ PRes g E B α1 H1 (f d s) Q
  | .ok _ _, _, h => fun _ _ _ e r rv => ⟨_, _, _, e, r, rv, PRes.ext h e⟩
  | .exc _ _, _, h => h
  | .fail, _, h => h
theorem PRss.bndA {f : List D → S → Rss} : ∀ {r : Rss} {Q : List V → Hp → Prop}, PRss g E B α H (r.bndA f) Q → PRss g E B α H r fun v H1 => ∃ α1 d s, Ext g.K α α1 H H1 ∧ R g B α1 H1 s ∧ RVs g.K α1 H1 v d ∧ PRss g E B α1 H1 (f d s) Q
  | .ok _ _, _, h => fun _ _ _ e r rv => ⟨_, _, _, e, r, rv, PRss.ext h e⟩
  | .exc _ _, _, h => h
  | .fail, _, h => h
theorem Out.bnd_P {f : Env → S → Out} : ∀ {r : Out} {Dd : Ends}, POut g E B α H (r.bnd f) Dd → POut g E B α H r { Dd with nx := fun σ H1 => ∃ α1 ρ s, Ext g.K α α1 H H1 ∧ R g B α1 H1 s ∧ RE g.K α1 H1 σ ρ ∧ POut g E B α1 H1 (f ρ s) Dd }
  | .nx _ _, _, h => fun _ _ _ e r rv => ⟨_, _, _, e, r, rv, POut.ext h e⟩
  | .bk _ _, _, h => h
  | .ct _ _, _, h => h
  | .rt _ _, _, h => h
  | .exc _ _, _, h => h
  | .fail, _, h => h
/-- what a block leaves -/
theorem PRes.fin {s : S} {Q : VK} (r : R g B α H s) : ∀ {z : Res}, PRes g E B α H (fin s.length z) Q → PRes g E (s.length :: B) α H z Q := by
  have l := r.len
  intro z h
  cases z with
  | ok d t =>
    intro α' H' v e r' rv
    simp only [Ev.fin] at h
    split at h
    · exact h α' H' v e r'.drop rv
    · split at h
      · exact h α' H' v e r'.drop rv
      · rename_i hy
        exact h (α'.take s.length) H' v (e.cut l) r'.fin (rv.cut (by simpa using hy))
  | exc c t =>
    intro α' H' v dx e r' rv hd
    simp only [Ev.fin] at h
    split at h
    · exact h α' H' v dx e r'.drop rv hd
    · split at h
      · exact h.elim
      · rename_i hy
        exact h (α'.take s.length) H' v dx (e.cut l) r'.fin (rv.cut (by simpa using hy)) hd
  | fail => exact h.elim
end
end Ev

set_option maxRecDepth 10000
namespace Ev
open PySem L2 PyProof.Rows

/-! ### readings -/
def tE (g : G) (E : XK) (k : Nat → List Nat → List D → S → Res) (r : ES) : TE := fun σ H Q => ∃ B α ρ s, R g B α H s ∧ RE g.K α H σ ρ ∧ PRes g E B α H (r ⟨k, B⟩ ρ s) Q
def tA (g : G) (E : XK) (k : Nat → List Nat → List D → S → Res) (r : AS) : TA := fun σ H Q => ∃ B α ρ s, R g B α H s ∧ RE g.K α H σ ρ ∧ PRss g E B α H (r ⟨k, B⟩ ρ s) Q
def tSS (g : G) (E : XK) (k : Nat → List Nat → List D → S → Res) (r : SS) : L2.TS := fun Dd σ H => ∃ B α ρ s, R g B α H s ∧ RE g.K α H σ ρ ∧ POut g E B α H (r ⟨k, B⟩ ρ s) Dd
/-- what a test asks -/
def PTst (g : G) (E : XK) (B : List Nat) (α : List Addr) (H : Hp) (r : Res) (Q : Bool → Hp → Prop) : Prop := match r with
  | .ok d s => ∃ b, tru s d = some b ∧ ∀ (α' : List Addr) (H' : Hp), Ext g.K α α' H H' → R g B α' H' s → Q b H'
  | .exc c s => PExc g E B α H c s
  | .fail => False
def tT (g : G) (E : XK) (k : Nat → List Nat → List D → S → Res) (r : ES) : TT := fun σ H Q => ∃ B α ρ s, R g B α H s ∧ RE g.K α H σ ρ ∧ PTst g E B α H (r ⟨k, B⟩ ρ s) Q

theorem PE.imp {X : Cx} {e : Expr} {t t' : TE} (h : PE X e t) (i : ∀ σ H Q, t' σ H Q → t σ H Q) : PE X e t' := ⟨fun pins s σ H Q I q => h.run pins s σ H Q I (i σ H Q q)⟩
theorem PT.imp {X : Cx} {e : Expr} {t t' : TT} (h : PT X e t) (i : ∀ σ H Q, t' σ H Q → t σ H Q) : PT X e t' := ⟨fun pins s σ H Q I q => h.run pins s σ H Q I (i σ H Q q)⟩
theorem PA.imp {X : Cx} {e : List Expr} {t t' : TA} (h : PA X e t) (i : ∀ σ H Q, t' σ H Q → t σ H Q) : PA X e t' := ⟨fun pos pins s σ H Q I q => h.run pos pins s σ H Q I (i σ H Q q)⟩
theorem PS.imp {X : Cx} {e : Stmt} {t t' : L2.TS} (h : PS X e t) (i : ∀ σ H Q, t' Q σ H → t Q σ H) : PS X e t' := ⟨fun pins s σ H Q I q => h.run pins s σ H Q I (i σ H Q q)⟩
theorem PSs.imp {X : Cx} {e : List Stmt} {t t' : L2.TS} (h : PSs X e t) (i : ∀ σ H Q, t' Q σ H → t Q σ H) : PSs X e t' := ⟨fun pins s σ H Q I q => h.run pins s σ H Q I (i σ H Q q)⟩

section
variable {X : Cx} {g : G} {E : XK} {k : Nat → List Nat → List D → S → Res} {e a b : Expr} {ra rb : ES}

/-- by values -/
def OpD (X : Cx) (g : G) (E : XK) (f : Value → Value → Sem Value) (op : List Nat → D → D → S → Res) : Prop :=
  OpR X f fun x y H Q => ∃ B α s d1 d2, R g B α H s ∧ RV g.K α H x d1 ∧ RV g.K α H y d2 ∧ PRes g E B α H (op B d1 d2 s) Q
def tOpD (op : List Nat → D → D → S → Res) (a b : ES) : ES := fun c ρ s => (a c ρ s).bnd fun x s => (b c ρ s).bnd fun y s => op c.B x y s

theorem two {σ : L2.St} {H : Hp} {Q : VK} {op : List Nat → D → D → S → Res} (h : tE g E k (tOpD op ra rb) σ H Q) :
    tE g E k ra σ H fun x H1 => tE g E k rb σ H1 fun y H2 => ∃ B α s d1 d2, R g B α H2 s ∧ RV g.K α H2 x d1 ∧ RV g.K α H2 y d2 ∧ PRes g E B α H2 (op B d1 d2 s) Q := by
  obtain ⟨B, α, ρ, s, hR, hE, h⟩ := h
  refine ⟨B, α, ρ, s, hR, hE, (PRes.bnd h).imp fun v H1 ⟨α1, d1, s1, e1, R1, r1, h1⟩ => ?_⟩
  refine ⟨B, α1, ρ, s1, R1, hE.ext e1, (PRes.bnd h1).imp fun w H2 ⟨α2, d2, s2, e2, R2, r2, h2⟩ => ?_⟩
  exact ⟨B, α2, s2, d1, d2, R2, r1.ext e2, r2, h2⟩
theorem one {σ : L2.St} {H : Hp} {Q : VK} {op : List Nat → D → S → Res} (h : tE g E k (fun c ρ s => (ra c ρ s).bnd fun x s => op c.B x s) σ H Q) :
    tE g E k ra σ H fun x H2 => ∃ B α s d1, R g B α H2 s ∧ RV g.K α H2 x d1 ∧ PRes g E B α H2 (op B d1 s) Q := by
  obtain ⟨B, α, ρ, s, hR, hE, h⟩ := h
  exact ⟨B, α, ρ, s, hR, hE, (PRes.bnd h).imp fun v H1 ⟨α1, d1, s1, e1, R1, r1, h1⟩ => ⟨B, α1, s1, d1, R1, r1, h1⟩⟩
theorem se_op {o : Operator} {op : D → D → S → Res} {pos : Pos} (ho : OpD X g E (binaryOp o) fun _ => op) (ha : PE X a (tE g E k ra)) (hb : PE X b (tE g E k rb)) : PE X (.BinOp a o b pos) (tE g E k (eOp op ra rb)) :=
  PE.imp (pe_op ho ha hb) fun _ _ _ h => two (op := fun _ => op) h
theorem se_cmp {o : CmpOp} {op : D → D → S → Res} {pos : Pos} (ho : OpD X g E (compareOp o) fun _ => op) (ha : PE X a (tE g E k ra)) (hb : PE X b (tE g E k rb)) (hm : behindInMarks o b = false) : PE X (.Compare a [o] [b] pos) (tE g E k (eOp op ra rb)) :=
  PE.imp (pe_cmpR ho ha hb hm) fun _ _ _ h => two (op := fun _ => op) h

/-! ### ints -/
theorem opd_int {f : Value → Value → Sem Value} {c : Int → Int → Prop} {h : Int → Int → V} {op : D → D → S → Res} (ho : OpR X f (rI c h))
    (hi : ∀ B α H s d1 d2 Q, PRes g E B α H (op d1 d2 s) Q → ∃ i j d, d1 = .int i ∧ d2 = .int j ∧ op d1 d2 s = .ok d s ∧ c i j ∧ RV g.K α H (h i j) d) : OpD X g E f fun _ => op := by
  intro pins s σ H x y v u Q I rx ry ⟨B, α, t, d1, d2, hR, r1, r2, q⟩
  obtain ⟨i, j, d, e1, e2, e3, hc, rd⟩ := hi B α H t d1 d2 Q q
  subst e1 e2
  cases r1
  cases r2
  dsimp only at q
  rw [e3] at q
  exact ho pins s σ H _ _ v u Q I rx ry ⟨i, j, rfl, rfl, hc, q α H _ .refl hR rd⟩
theorem opd_int0 {f : Value → Value → Sem Value} {h : Int → Int → V} {op : D → D → S → Res} (ho : OpR X f (rI0 h))
    (hi : ∀ B α H s d1 d2 Q, PRes g E B α H (op d1 d2 s) Q → ∃ i j d, d1 = .int i ∧ d2 = .int j ∧ op d1 d2 s = .ok d s ∧ RV g.K α H (h i j) d) : OpD X g E f fun _ => op := by
  intro pins s σ H x y v u Q I rx ry ⟨B, α, t, d1, d2, hR, r1, r2, q⟩
  obtain ⟨i, j, d, e1, e2, e3, rd⟩ := hi B α H t d1 d2 Q q
  subst e1 e2
  cases r1
  cases r2
  dsimp only at q
  rw [e3] at q
  exact ho pins s σ H _ _ v u Q I rx ry ⟨i, j, rfl, rfl, q α H _ .refl hR rd⟩
theorem opd_sub : OpD X g E (binaryOp .Sub) fun _ => bSub := opd_int0 op_sub fun B α H s d1 d2 Q h => by
  cases d1 <;> cases d2 <;> first | exact (show False from h).elim | exact ⟨_, _, _, rfl, rfl, rfl, .int _⟩
theorem big_log {j : Int} (h0 : 0 < j) (h : j < big) : j.natAbs.log2 < 9000 := by
  have h1 : j.natAbs < 2 ^ 1000 := by
    have : (j.natAbs : Int) < ((2 ^ 1000 : Nat) : Int) := by
      rw [Int.natAbs_of_nonneg (by omega)]
      exact h
    exact Int.ofNat_lt.mp this
  have h2 := (Nat.log2_lt (by omega : j.natAbs ≠ 0)).mpr h1
  omega
theorem op_fdivW {X : Cx} : OpR X (binaryOp .FloorDiv) (rI (fun _ j => 0 < j ∧ j < big) fun i j => .int (i / j)) := opI fun i j _ _ _ _ _ hc q =>
  floordiv_int (by omega) (by rw [Int.fdiv_eq_ediv_of_nonneg i (by omega)]; exact q) (.inl (PyProof.noPylong_of_log2 (big_log hc.1 hc.2)))
theorem iop_fdivW {X : Cx} : OpR X (inplaceOp .FloorDiv) (rI (fun _ j => 0 < j ∧ j < big) fun i j => .int (i / j)) := opI fun i j _ _ _ _ _ hc q =>
  ifloordiv_int (by omega) (by rw [Int.fdiv_eq_ediv_of_nonneg i (by omega)]; exact q) (.inl (PyProof.noPylong_of_log2 (big_log hc.1 hc.2)))
theorem opd_div : OpD X g E (binaryOp .FloorDiv) fun _ => bDiv := opd_int op_fdivW fun B α H s d1 d2 Q h => by
  cases d1 <;> cases d2 <;> try exact (show False from h).elim
  simp only [bDiv] at h ⊢
  split at h
  · rename_i hc
    exact ⟨_, _, _, rfl, rfl, if_pos hc, hc, .int _⟩
  · exact h.elim
theorem opd_mod : OpD X g E (binaryOp .Mod) fun _ => bMod := opd_int op_mod fun B α H s d1 d2 Q h => by
  cases d1 <;> cases d2 <;> try exact (show False from h).elim
  simp only [bMod] at h ⊢
  split at h
  · rename_i hc
    exact ⟨_, _, _, rfl, rfl, if_pos hc, hc, .int _⟩
  · exact h.elim
theorem opd_pow : OpD X g E (binaryOp .Pow) fun _ => bPow := opd_int op_pow fun B α H s d1 d2 Q h => by
  cases d1 <;> cases d2 <;> try exact (show False from h).elim
  simp only [bPow] at h ⊢
  split at h
  · rename_i hc
    exact ⟨_, _, _, rfl, rfl, if_pos hc, (by simpa [powOk, CPow] using hc), .int _⟩
  · exact h.elim
theorem opd_shl : OpD X g E (binaryOp .LShift) fun _ => bShl := opd_int op_shl fun B α H s d1 d2 Q h => by
  cases d1 <;> cases d2 <;> try exact (show False from h).elim
  simp only [bShl] at h ⊢
  split at h
  · rename_i hc
    exact ⟨_, _, _, rfl, rfl, if_pos hc, (by simpa [powOk, CPow] using hc), .int _⟩
  · exact h.elim
theorem opd_shr : OpD X g E (binaryOp .RShift) fun _ => bShr := opd_int op_shr fun B α H s d1 d2 Q h => by
  cases d1 <;> cases d2 <;> try exact (show False from h).elim
  simp only [bShr] at h ⊢
  split at h
  · rename_i hc
    exact ⟨_, _, _, rfl, rfl, if_pos hc, hc, .int _⟩
  · exact h.elim
theorem opd_and : OpD X g E (binaryOp .BitAnd) fun _ => bAnd := opd_int0 op_and fun B α H s d1 d2 Q h => by
  cases d1 <;> cases d2 <;> first | exact (show False from h).elim | exact ⟨_, _, _, rfl, rfl, rfl, .int _⟩
theorem opd_or : OpD X g E (binaryOp .BitOr) fun _ => bOr := opd_int0 op_or fun B α H s d1 d2 Q h => by
  cases d1 <;> cases d2 <;> first | exact (show False from h).elim | exact ⟨_, _, _, rfl, rfl, rfl, .int _⟩
theorem opd_xor : OpD X g E (binaryOp .BitXor) fun _ => bXor := opd_int0 op_xor fun B α H s d1 d2 Q h => by
  cases d1 <;> cases d2 <;> first | exact (show False from h).elim | exact ⟨_, _, _, rfl, rfl, rfl, .int _⟩
theorem opd_lt : OpD X g E (compareOp .Lt) fun _ => cLt := opd_int0 op_lt fun B α H s d1 d2 Q h => by
  cases d1 <;> cases d2 <;> first | exact (show False from h).elim | exact ⟨_, _, _, rfl, rfl, rfl, .bl _⟩
theorem opd_le : OpD X g E (compareOp .LtE) fun _ => cLe := opd_int0 op_le fun B α H s d1 d2 Q h => by
  cases d1 <;> cases d2 <;> first | exact (show False from h).elim | exact ⟨_, _, _, rfl, rfl, rfl, .bl _⟩
theorem opd_gt : OpD X g E (compareOp .Gt) fun _ => cGt := opd_int0 op_gt fun B α H s d1 d2 Q h => by
  cases d1 <;> cases d2 <;> first | exact (show False from h).elim | exact ⟨_, _, _, rfl, rfl, rfl, .bl _⟩
theorem opd_ge : OpD X g E (compareOp .GtE) fun _ => cGe := opd_int0 op_ge fun B α H s d1 d2 Q h => by
  cases d1 <;> cases d2 <;> first | exact (show False from h).elim | exact ⟨_, _, _, rfl, rfl, rfl, .bl _⟩

/-! ### sequences -/
theorem lst_of {B : List Nat} {α : List Addr} {H : Hp} {s : S} {v : V} {n : Nat} {ds : List D} (hR : R g B α H s) (h : RV g.K α H v (.ref n)) (hl : lstOf s n = some ds) : ∃ a xs, v = .ref a ∧ α[n]? = some a ∧ s[n]? = some (.lst ds) ∧ H a = some (.lst xs) ∧ RVs g.K α H xs ds := by
  have ho : s[n]? = some (.lst ds) := by
    unfold lstOf at hl
    cases e : s[n]? with
    | none => rw [e] at hl; cases hl
    | some o =>
      rw [e] at hl
      cases o <;> simp at hl
      subst hl
      rfl
  obtain ⟨a, e, ha, ro⟩ := hR.get h ho
  cases ro with
  | lst h1 h2 => exact ⟨a, _, e, ha, ho, h1, h2⟩
/-- a new list -/
theorem al_ok {B : List Nat} {α : List Addr} {H : Hp} {s : S} {Q : VK} {xs : List V} {ds : List D} (hR : R g B α H s) (h : PRes g E B α H (al (.lst ds) s) Q) (hv : RVs g.K α H xs ds) : ∀ p, H p = none → Q (.ref p) (upd H p (.lst xs)) := by
  intro p hp
  have e : Ext g.K α (α ++ [p]) H (upd H p (.lst xs)) := .new hp
  refine h (α ++ [p]) _ (.ref p) e (hR.new hp (.lst upd_same (hv.ext e))) (.ref ?_)
  rw [List.getElem?_append_right (by rw [hR.len]; exact Nat.le_refl _), hR.len]
  simp
/-- a new tuple -/
theorem tup_ok {B : List Nat} {α : List Addr} {H : Hp} {s : S} {Q : VK} {xs : List V} {ds : List D} (hR : R g B α H s) (h : PRes g E B α H (.ok (.tup ds) s) Q) (hv : RVs g.K α H xs ds) : ∀ p, H p = none → Q (.ref p) (upd H p (.tup xs)) := by
  intro p hp
  have e : Ext g.K α α H (upd H p (.tup xs)) := .newT hp
  exact h α _ (.ref p) e (hR.newT hp) (.tup (.of upd_same) (hv.ext e))
theorem opd_add (hK : X.K = g.K) : OpD X g E (binaryOp .Add) fun _ => bAdd := by
  intro pins s σ H x y v u Q I rx ry ⟨B, α, t, d1, d2, hR, r1, r2, q⟩
  cases d1 <;> cases d2 <;> try exact (show False from q).elim
  · cases r1
    cases r2
    exact op_add pins s σ H _ _ v u Q I rx ry ⟨_, _, rfl, rfl, q α H _ .refl hR (.int _)⟩
  · cases r1
    cases r2
    simp only [bAdd] at q
    split at q
    · rename_i hl
      exact op_add_str pins s σ H _ _ v u Q I rx ry ⟨_, _, rfl, rfl, by rw [sizeLine_eq]; exact hl, q α H _ .refl hR (.str _)⟩
    · exact q.elim
  · cases r1 with
    | @tup a1 xs1 ds1 h1 h2 =>
      cases r2 with
      | @tup a2 xs2 ds2 h3 h4 =>
        simp only [bAdd] at q
        split at q
        · rename_i hl
          have l1 := h2.length
          have l2 := h4.length
          refine op_catA pins s σ H _ _ v u Q I rx ry ⟨_, _, _, _, rfl, rfl, by rw [hK]; exact h1, by rw [hK]; exact h3, by rw [sizeLine_eq, l1, l2]; exact hl, fun e => ?_, fun _ e => ?_, fun _ _ => tup_ok hR q (h2.append h4)⟩
          · subst e
            cases h2
            exact q α H _ .refl hR (.tup h3 h4)
          · subst e
            cases h4
            rw [List.append_nil] at q
            exact q α H _ .refl hR (.tup h1 h2)
        · exact q.elim
  · simp only [bAdd] at q
    split at q
    · rename_i n m a b e1 e2
      split at q
      · rename_i hl
        obtain ⟨p1, xs1, rfl, _, _, h1, h2⟩ := lst_of hR r1 e1
        obtain ⟨p2, xs2, rfl, _, _, h3, h4⟩ := lst_of hR r2 e2
        exact op_cat pins s σ H _ _ v u Q I rx ry ⟨_, _, _, _, rfl, rfl, h1, h3, by rw [sizeLine_eq, h2.length, h4.length]; exact hl, al_ok hR q (h2.append h4)⟩
      · exact q.elim
    · exact q.elim
theorem RVs.rep {K : PySem.W.Frag} {α : List Addr} {H : Hp} {xs : List V} {ds : List D} (r : RVs K α H xs ds) : ∀ n : Nat, RVs K α H (List.replicate n xs).flatten (List.replicate n ds).flatten
  | 0 => .nil
  | n + 1 => by
    rw [List.replicate_succ, List.replicate_succ, List.flatten_cons, List.flatten_cons]
    exact r.append (RVs.rep r n)
theorem opd_mul (hK : X.K = g.K) : OpD X g E (binaryOp .Mult) fun _ => bMul := by
  intro pins s σ H x y v u Q I rx ry ⟨B, α, t, d1, d2, hR, r1, r2, q⟩
  cases d1 <;> cases d2 <;> try exact (show False from q).elim
  · cases r1
    cases r2
    simp only [bMul] at q
    split at q
    · rename_i hc
      refine op_mul pins s σ H _ _ v u Q I rx ry ⟨_, _, rfl, rfl, ?_, q α H _ .refl hR (.int _)⟩
      unfold mulOk at hc
      rw [Bool.or_eq_true] at hc
      exact hc.imp of_decide_eq_true of_decide_eq_true
    · exact q.elim
  · cases r2
    cases r1 with
    | @tup a1 xs1 ds1 h1 h2 =>
      simp only [bMul] at q
      split at q
      · rename_i hl
        obtain ⟨hn, hk1, hk2, hz⟩ := hl
        have l1 := h2.length
        refine op_repT pins s σ H _ _ v u Q I rx ry ⟨_, _, _, rfl, rfl, by rw [hK]; exact h1, fun e => hn ?_, hk1, hk2, by omega, tup_ok hR q (RVs.rep h2 _)⟩
        subst e
        cases h2
        rfl
      · exact q.elim
  · cases r2
    simp only [bMul] at q
    split at q
    · rename_i n a e1
      split at q
      · rename_i hl
        obtain ⟨p1, xs1, rfl, _, _, h1, h2⟩ := lst_of hR r1 e1
        exact op_rep pins s σ H _ _ v u Q I rx ry ⟨_, _, _, rfl, rfl, h1, hl.1, hl.2.1, by rw [sizeLine_eq, h2.length]; exact hl.2.2, al_ok hR q (RVs.rep h2 _)⟩
      · exact q.elim
    · exact q.elim
end
end Ev

set_option maxRecDepth 10000
namespace Ev
open PySem L2

/-! ### data -/
theorem pds_map : ∀ ds : List D, D.pds ds = ds.map D.pd
  | [] => rfl
  | d :: r => by rw [D.pds, pds_map r]; rfl
theorem canAll : ∀ {ds : List PyData}, (∀ d ∈ ds, d.canLay0 = true) → PyData.canLayAll0 ds = true
  | [], _ => rfl
  | d :: r, h => by
    rw [PyData.canLayAll0, h d List.mem_cons_self, canAll fun x hx => h x (List.mem_cons_of_mem _ hx)]
    rfl
theorem depAll {n : Nat} : ∀ {ds : List PyData}, (∀ d ∈ ds, d.depth ≤ n) → PyData.depthAll ds ≤ n
  | [], _ => by rw [PyData.depthAll]; omega
  | d :: r, h => by
    rw [PyData.depthAll]
    have h1 := h d List.mem_cons_self
    have h2 := depAll (n := n) (ds := r) fun x hx => h x (List.mem_cons_of_mem _ hx)
    omega
theorem shp_data : ∀ (n : Nat) (d : D), d.shp n = true → d.pd.canLay0 = true ∧ d.pd.depth ≤ n
  | n, .non, _ => ⟨rfl, by simp [D.pd, PyData.depth]⟩
  | n, .bl b, _ => ⟨rfl, by simp [D.pd, PyData.depth]⟩
  | n, .int i, _ => ⟨rfl, by simp [D.pd, PyData.depth]⟩
  | n, .str x, h => ⟨by simpa [D.pd, PyData.canLay0, D.shp] using h, by simp [D.pd, PyData.depth]⟩
  | 0, .tup ds, h => absurd h (by simp [D.shp])
  | n + 1, .tup ds, h => by
    have h' : ∀ d ∈ ds, d.shp n = true := by simpa [D.shp] using h
    have k : ∀ p ∈ D.pds ds, p.canLay0 = true ∧ p.depth ≤ n := fun p hp => by
      rw [pds_map] at hp
      obtain ⟨d, hd, rfl⟩ := List.mem_map.mp hp
      exact shp_data n d (h' d hd)
    refine ⟨?_, ?_⟩
    · rw [D.pd, PyData.canLay0]
      exact canAll fun p hp => (k p hp).1
    · rw [D.pd, PyData.depth]
      have := depAll fun p hp => (k p hp).2
      omega
  | n, .und, h => absurd h (by cases n <;> simp [D.shp])
  | n, .ref _, h => absurd h (by cases n <;> simp [D.shp])
  | n, .frl _, h => absurd h (by cases n <;> simp [D.shp])
theorem shp_shaped {n : Nat} (hn : n ≤ 64) {d : D} (h : d.shp n = true) : SeqAt.shaped d.pd = true := by
  obtain ⟨h1, h2⟩ := shp_data n d h
  unfold SeqAt.shaped
  rw [h1, decide_eq_true (by omega)]
  rfl
theorem eqv_pd : ∀ (n : Nat) (x y : D), x.shp n = true → y.shp n = true → PyData.eqv x.pd y.pd = D.eqv x y := by
  intro n
  induction n with
  | zero =>
    intro x y hx hy
    cases x <;> first | (simp [D.shp] at hx; done) | skip
    all_goals cases y <;> first | (simp [D.shp] at hy; done) | simp [D.pd, PyData.eqv, D.eqv]
  | succ n ih =>
    intro x y hx hy
    have all : ∀ (xs ys : List D), (∀ d ∈ xs, d.shp n = true) → (∀ d ∈ ys, d.shp n = true) → PyData.eqvAll (D.pds xs) (D.pds ys) = D.eqvs xs ys := by
      intro xs
      induction xs with
      | nil => intro ys _ _; cases ys <;> simp [D.pds, PyData.eqvAll, D.eqvs]
      | cons a r ihr =>
        intro ys h1 h2
        cases ys with
        | nil => simp [D.pds, PyData.eqvAll, D.eqvs]
        | cons b t =>
          rw [D.pds, D.pds, PyData.eqvAll, D.eqvs, ih a b (h1 a List.mem_cons_self) (h2 b List.mem_cons_self), ihr t (fun d hd => h1 d (List.mem_cons_of_mem _ hd)) fun d hd => h2 d (List.mem_cons_of_mem _ hd)]
    cases x <;> first | (simp [D.shp] at hx; done) | skip
    all_goals cases y <;> first | (simp [D.shp] at hy; done) | skip
    all_goals first | (simp [D.pd, PyData.eqv, D.eqv]; done) | skip
    rw [D.pd, D.pd, PyData.eqv, D.eqv]
    exact all _ _ (by simpa [D.shp] using hx) (by simpa [D.shp] using hy)

section
variable {K : PySem.W.Frag} {α : List Addr} {H : Hp}
mutual
theorem RV.dp : ∀ {v : V} {d : D} {n : Nat}, RV K α H v d → d.shp n = true → Dp K H v d.pd
  | _, _, _, .non, _ => .non
  | _, _, _, .bl b, _ => .bl b
  | _, _, _, .int i, _ => .int i
  | _, _, _, .str x, _ => .str x
  | _, _, 0, .tup h r, q => absurd q (by simp [D.shp])
  | _, _, n + 1, .tup h r, q => .tup h (RVs.dp (n := n) r (by simpa [D.shp] using q))
  | _, _, n, .frl h r, q => absurd q (by cases n <;> simp [D.shp])
  | _, _, n, .ref h, q => absurd q (by cases n <;> simp [D.shp])
theorem RVs.dp : ∀ {v : List V} {d : List D} {n : Nat}, RVs K α H v d → (∀ x ∈ d, x.shp n = true) → DpAll K H v (D.pds d)
  | _, _, _, .nil, _ => .nil
  | _, _, _, .cons r t, q => .cons (RV.dp r (q _ List.mem_cons_self)) (RVs.dp t fun x hx => q x (List.mem_cons_of_mem _ hx))
end
end

section
variable {X : Cx} {g : G} {E : XK} {k : Nat → List Nat → List D → S → Res} {e a b : Expr} {ra rb : ES}
theorem mapM_all {α β : Type} {f : α → Option β} : ∀ {l : List α} {r : List β}, l.mapM f = some r → r.length = l.length ∧ ∀ (i : Nat) (x : α), l[i]? = some x → ∃ y, r[i]? = some y ∧ f x = some y
  | [], r, h => by
    have e : r = [] := by simpa using h.symm
    subst e
    exact ⟨rfl, fun i x hx => by simp at hx⟩
  | a :: l, r, h => by
    rw [List.mapM_cons] at h
    cases ha : f a with
    | none => rw [ha] at h; simp at h
    | some y =>
      rw [ha] at h
      cases hl : l.mapM f with
      | none => rw [hl] at h; simp at h
      | some t =>
        rw [hl] at h
        have e : r = y :: t := by simpa using h.symm
        subst e
        obtain ⟨h1, h2⟩ := mapM_all hl
        refine ⟨by simp [h1], fun i x hx => ?_⟩
        cases i with
        | zero =>
          have : a = x := by simpa using hx
          subst this
          exact ⟨y, rfl, ha⟩
        | succ i => exact h2 i x (by simpa using hx)
theorem toP_all {K : PySem.W.Frag} {α : List Addr} {H : Hp} {f : D → Option PyData} : ∀ {xs : List V} {ds : List D} {ps : List PyData}, RVs K α H xs ds → ds.mapM f = some ps → (∀ (v : V) (d : D) (p : PyData), RV K α H v d → f d = some p → Dp K H v p) → DpAll K H xs ps
  | _, _, ps, .nil, h, _ => by
    have e : ps = [] := by simpa using h.symm
    subst e
    exact .nil
  | _, _, ps, @RVs.cons _ _ _ v d vs ds r t, h, q => by
    rw [List.mapM_cons] at h
    cases ha : f d with
    | none => rw [ha] at h; simp at h
    | some y =>
      rw [ha] at h
      cases hl : ds.mapM f with
      | none => rw [hl] at h; simp at h
      | some z =>
        rw [hl] at h
        have e : ps = y :: z := by simpa using h.symm
        subst e
        exact .cons (q v d y r ha) (toP_all t hl q)
theorem toP_ok {B : List Nat} {α : List Addr} {H : Hp} {s : S} (hR : R g B α H s) : ∀ (n : Nat) (v : V) (d : D) (p : PyData), RV g.K α H v d → toP n s d = some p → Dp g.K H v p := by
  intro n
  induction n with
  | zero =>
    intro v d p r h
    cases r <;> simp [toP] at h <;> subst h
    · exact .non
    · exact .bl _
    · exact .int _
    · exact .str _
  | succ n ih =>
    intro v d p r h
    cases r with
    | non => simp [toP] at h; subst h; exact .non
    | bl => simp [toP] at h; subst h; exact .bl _
    | int => simp [toP] at h; subst h; exact .int _
    | str => simp [toP] at h; subst h; exact .str _
    | tup h1 h2 =>
      simp only [toP] at h
      obtain ⟨ps, e1, e2⟩ := Option.map_eq_some_iff.mp h
      subst e2
      exact .tup h1 (toP_all h2 e1 ih)
    | frl h1 h2 =>
      simp only [toP] at h
      obtain ⟨ps, e1, e2⟩ := Option.map_eq_some_iff.mp h
      subst e2
      exact .lst h1.sq (toP_all h2 e1 ih)
    | @ref a m h1 =>
      simp only [toP] at h
      split at h
      · rename_i ds hl
        obtain ⟨ps, e1, e2⟩ := Option.map_eq_some_iff.mp h
        subst e2
        obtain ⟨a', xs, ea, _, _, h3, h4⟩ := lst_of hR (.ref h1) hl
        cases ea
        exact .lst (.of h3) (toP_all h4 e1 ih)
      · cases h
theorem eqD_ok {B : List Nat} {α : List Addr} {H : Hp} {s : S} {x y : V} {d1 d2 : D} {z : Bool} (hR : R g B α H s) (r1 : RV g.K α H x d1) (r2 : RV g.K α H y d2) (h : eqD d1 d2 s = some z) :
    ∃ p q, Dp g.K H x p ∧ Dp g.K H y q ∧ SeqAt.shaped p = true ∧ SeqAt.shaped q = true ∧ z = PyData.eqv p q := by
  unfold eqD at h
  split at h
  · rename_i hs
    rw [Bool.and_eq_true] at hs
    refine ⟨_, _, r1.dp hs.1, r2.dp hs.2, shp_shaped (by decide) hs.1, shp_shaped (by decide) hs.2, ?_⟩
    rw [eqv_pd 40 _ _ hs.1 hs.2]
    exact (Option.some.inj h).symm
  · split at h
    · rename_i p q e1 e2
      split at h
      · rename_i hs
        rw [Bool.and_eq_true] at hs
        exact ⟨p, q, toP_ok hR _ _ _ _ r1 e1, toP_ok hR _ _ _ _ r2 e2, hs.1, hs.2, (Option.some.inj h).symm⟩
      · cases h
    · cases h
theorem opd_eq (hK : X.K = g.K) (hu : X.A.units + 64 < cLine) : OpD X g E (compareOp .Eq) fun _ => cEq := by
  intro pins s σ H x y v u Q I rx ry ⟨B, α, t, d1, d2, hR, r1, r2, q⟩
  simp only [cEq] at q
  cases h : eqD d1 d2 t with
  | none => rw [h] at q; exact q.elim
  | some z =>
    rw [h] at q
    obtain ⟨p1, p2, h1, h2, h3, h4, h5⟩ := eqD_ok hR r1 r2 h
    subst h5
    exact op_eqD hu pins s σ H _ _ v u Q I rx ry ⟨p1, p2, by rw [hK]; exact h1, by rw [hK]; exact h2, h3, h4, q α H _ .refl hR (.bl _)⟩
theorem opd_ne (hK : X.K = g.K) (hu : X.A.units + 64 < cLine) : OpD X g E (compareOp .NotEq) fun _ => cNe := by
  intro pins s σ H x y v u Q I rx ry ⟨B, α, t, d1, d2, hR, r1, r2, q⟩
  simp only [cNe] at q
  cases h : eqD d1 d2 t with
  | none => rw [h] at q; exact q.elim
  | some z =>
    rw [h] at q
    obtain ⟨p1, p2, h1, h2, h3, h4, h5⟩ := eqD_ok hR r1 r2 h
    subst h5
    exact op_neD hu pins s σ H _ _ v u Q I rx ry ⟨p1, p2, by rw [hK]; exact h1, by rw [hK]; exact h2, h3, h4, q α H _ .refl hR (.bl _)⟩
theorem opd_is : OpD X g E (compareOp .Is) fun _ => cIs := by
  intro pins s σ H x y v u Q I rx ry ⟨B, α, t, d1, d2, hR, r1, r2, q⟩
  cases d2 <;> try (cases d1 <;> exact (show False from q).elim)
  · cases r2
    refine op_isN pins s σ H _ _ v u Q I rx ry ⟨rfl, ?_⟩
    have e : decide (x = .non) = d1.isNon := by cases r1 <;> simp [D.isNon]
    rw [e]
    cases d1 <;> first | exact (show False from q).elim | exact q α H _ .refl hR (.bl _)
  · cases d1 <;> try exact (show False from q).elim
    cases r1
    cases r2
    exact op_isBl pins s σ H _ _ v u Q I rx ry ⟨_, _, rfl, rfl, q α H _ .refl hR (.bl _)⟩
theorem opd_isnot : OpD X g E (compareOp .IsNot) fun _ => cIsNot := by
  intro pins s σ H x y v u Q I rx ry ⟨B, α, t, d1, d2, hR, r1, r2, q⟩
  cases d2 <;> try (cases d1 <;> exact (show False from q).elim)
  · cases r2
    refine op_notN pins s σ H _ _ v u Q I rx ry ⟨rfl, ?_⟩
    have e : decide (x = .non) = d1.isNon := by cases r1 <;> simp [D.isNon]
    rw [e]
    cases d1 <;> first | exact (show False from q).elim | exact q α H _ .refl hR (.bl _)
  · cases d1 <;> try exact (show False from q).elim
    cases r1
    cases r2
    exact op_notBl pins s σ H _ _ v u Q I rx ry ⟨_, _, rfl, rfl, q α H _ .refl hR (.bl _)⟩
end
end Ev

set_option maxRecDepth 10000
namespace Ev
open PySem L2

section
variable {X : Cx} {g : G} {E : XK} {k : Nat → List Nat → List D → S → Res} {e a b c : Expr} {ra rb rc : ES} {es : List Expr} {as : AS} {pos : Pos}

/-! ### names, constants, displays -/
theorem se_var {i : Nat} {x : Str} (hN : X.N[i]? = some x) (hv : Vis X.env.scope x) (hd : (x == ("__debug__" : Str)) = false) (hcd : (x == ("__classdict__" : Str)) = false) : PE X (.Name x pos) (tE g E k (eVar i)) :=
  PE.imp (pe_var hN hv hd hcd) fun σ H Q ⟨B, α, ρ, s, hR, hE, h⟩ => by
    have hn : gv ρ i ≠ .und := fun z => by
      simp only [eVar, z] at h
      exact h.elim
    obtain ⟨v, h1, h2⟩ := hE.2 i hn
    refine ⟨v, h1, ?_⟩
    have h' : PRes g E B α H (.ok (gv ρ i) s) Q := by
      simp only [eVar] at h
      first
        | exact h
        | (split at h
           · exact h.elim
           · exact h)
    exact h' α H v .refl hR h2
theorem se_const {d : D} {v : V} {t : TE} (hp : PE X e t) (ht : ∀ σ H Q, Q v H → t σ H Q) (hv : ∀ α H, RV g.K α H v d) : PE X e (tE g E k (eC d)) :=
  PE.imp hp fun σ H Q ⟨B, α, ρ, s, hR, hE, h⟩ => ht σ H Q (h α H v .refl hR (hv α H))
theorem se_int {i j} : PE X (.Constant (.int i) j pos) (tE g E k (eC (.int i))) := se_const pe_int (fun _ _ _ h => h) fun _ _ => .int _
theorem se_bool {i j} : PE X (.Constant (.bool i) j pos) (tE g E k (eC (.bl i))) := se_const pe_bl (fun _ _ _ h => h) fun _ _ => .bl _
theorem se_none {j} : PE X (.Constant .none j pos) (tE g E k (eC .non)) := se_const pe_non (fun _ _ _ h => h) fun _ _ => .non
theorem se_str {x j} : PE X (.Constant (.str x) j pos) (tE g E k (eC (.str x))) := se_const pe_str (fun _ _ _ h => h) fun _ _ => .str _
theorem sa_nil : PA X [] (tA g E k aNil) := PA.imp pa_nil fun σ H Q ⟨B, α, ρ, s, hR, hE, h⟩ => h α H [] .refl hR .nil
theorem sa_cons (ha : PE X a (tE g E k ra)) (hr : PA X es (tA g E k as)) (hs : starEach (a :: es) X.env = (false, eval a X.env) :: starEach es X.env) : PA X (a :: es) (tA g E k (aCons ra as)) :=
  PA.imp (pa_cons ha hr hs) fun σ H Q ⟨B, α, ρ, s, hR, hE, h⟩ => by
    refine ⟨B, α, ρ, s, hR, hE, (PRes.bndA h).imp fun v H1 ⟨α1, d1, s1, e1, R1, r1, h1⟩ => ?_⟩
    refine ⟨B, α1, ρ, s1, R1, hE.ext e1, ?_⟩
    have h2 := PRss.bndA h1
    cases hz : as ⟨k, B⟩ ρ s1 with
    | ok ds s2 =>
      rw [hz] at h2
      intro α2 H2 vs e2 R2 r2
      obtain ⟨α3, d3, s3, e3, R3, r3, h3⟩ := h2 α2 H2 vs e2 R2 r2
      exact h3 α3 H2 _ .refl R3 (.cons (r1.ext e3) r3)
    | exc c t => rw [hz] at h2; exact h2
    | fail => rw [hz] at h2; exact h2
theorem PRss.imp {B : List Nat} {α : List Addr} {H : Hp} : ∀ {r : Rss} {Q Q' : List V → Hp → Prop}, PRss g E B α H r Q → (∀ v H', Q v H' → Q' v H') → PRss g E B α H r Q'
  | .ok _ _, _, _, h, i => fun a h' v e r rv => i v h' (h a h' v e r rv)
  | .exc _ _, _, _, h, _ => h
  | .fail, _, _, h, _ => h
/-- arguments, then f -/
theorem args {σ : L2.St} {H : Hp} {Q : VK} {f : List Nat → List D → S → Res} (h : tE g E k (fun c ρ s => (as c ρ s).bnd fun xs s => f c.B xs s) σ H Q) :
    tA g E k as σ H fun vs H1 => ∃ B α s ds, R g B α H1 s ∧ RVs g.K α H1 vs ds ∧ PRes g E B α H1 (f B ds s) Q := by
  obtain ⟨B, α, ρ, s, hR, hE, h⟩ := h
  exact ⟨B, α, ρ, s, hR, hE, (PRss.bnd h).imp fun vs H1 ⟨α1, ds, s1, e1, R1, r1, h1⟩ => ⟨B, α1, s1, ds, R1, r1, h1⟩⟩
theorem se_tup {j} (h : PA X es (tA g E k as)) : PE X (.Tuple es j pos) (tE g E k (eTup as)) :=
  PE.imp (pe_tup h) fun σ H Q q => by
    obtain ⟨B, α, ρ, s, hR, hE, h⟩ := args (f := fun _ xs s => if xs.length ≤ lim then .ok (.tup xs) s else .fail) q
    refine ⟨B, α, ρ, s, hR, hE, h.imp fun vs H1 ⟨B', α1, s1, ds, R1, r1, h1⟩ => ?_⟩
    split at h1
    · rename_i hl
      exact ⟨by rw [sizeLine_eq, r1.length]; exact hl, tup_ok R1 h1 r1⟩
    · exact h1.elim
theorem se_lst (h : PA X es (tA g E k as)) : PE X (.List es pos) (tE g E k (eLst as)) :=
  PE.imp (pe_lst h) fun σ H Q q => by
    obtain ⟨B, α, ρ, s, hR, hE, h⟩ := args (f := fun _ xs s => if xs.length ≤ lim then al (.lst xs) s else .fail) q
    refine ⟨B, α, ρ, s, hR, hE, h.imp fun vs H1 ⟨B', α1, s1, ds, R1, r1, h1⟩ => ?_⟩
    split at h1
    · rename_i hl
      exact ⟨by rw [sizeLine_eq, r1.length]; exact hl, al_ok R1 h1 r1⟩
    · exact h1.elim

/-! ### blocks -/
theorem se_gc (h : PE X e (tE g E k ra)) : PE X e (tE g E k (gcE ra)) :=
  PE.imp h fun σ H Q ⟨B, α, ρ, s, hR, hE, q⟩ => ⟨s.length :: B, α, ρ, s, hR.push, hE, PRes.fin hR q⟩
theorem PRes.finF {B : List Nat} {α : List Addr} {H : Hp} {s : S} {Q : VK} (r : R g B α H s) : ∀ {z : Res}, PRes g E B α H (finF s.length z) Q → PRes g E (s.length :: B) α H z Q := by
  have l := r.len
  intro z h
  cases z with
  | ok d t =>
    cases d
    case ref n =>
      intro α' H' v e r' rv
      simp only [Ev.finF] at h
      split at h
      · exact h α' H' v e r'.drop rv
      · split at h
        · rename_i hn
          exact h (α'.take s.length) H' v (e.cut l) r'.fin (rv.cut (by simp [D.yg]; omega))
        · split at h
          · rename_i ds ho
            split at h
            · exact h α' H' v e r'.drop rv
            · rename_i hge hy
              obtain ⟨a, rfl, ha, ro⟩ := r'.get rv ho
              have hb := (r'.blk s.length List.mem_cons_self).1
              have hn : n < α'.length := (List.getElem?_eq_some_iff.mp ha).1
              have ht : (α'.take s.length).length = s.length := by rw [List.length_take, r'.len]; omega
              have hE : Ext0 g.K (α'.take s.length) (α'.take s.length ++ [a]) H' H' := ⟨fun m b hm => by rw [List.getElem?_append_left (List.getElem?_eq_some_iff.mp hm).1]; exact hm, fun _ _ h => h, fun _ _ h => h⟩
              have hF : Ext g.K α (α'.take s.length ++ [a]) H H' := ⟨⟨fun m b hm => hE.pre m b ((e.cut l).pre m b hm), e.tup, e.frl⟩, fun b o hb ht hn => ⟨(e.off b o hb ht hn).1, fun q => (e.off b o hb ht hn).2 (by
                rcases List.mem_append.mp q with q | q
                · exact List.mem_of_mem_take q
                · rw [List.mem_singleton.mp q]; exact List.mem_of_getElem? ha)⟩, e.frz⟩
              have nin : a ∉ α'.take s.length := fun hm => by
                obtain ⟨m, hm1, hm2⟩ := List.mem_iff_getElem.mp hm
                rw [List.getElem_take] at hm2
                rw [ht] at hm1
                have e2 := List.getElem?_eq_some_iff.mp ha
                obtain ⟨i2, e2⟩ := e2
                have := (List.getElem_inj r'.nd).mp (hm2.trans e2.symm)
                omega
              have rf := r'.fin
              have lt : (t.take s.length).length = s.length := by rw [List.length_take]; omega
              refine h (α'.take s.length ++ [a]) H' (.ref a) hF ⟨by simp [ht, lt], ?_, fun m b o hm ho' => ?_, fun c hc => ?_, rf.tabs, rf.ord⟩ (.ref ?_)
              · refine List.nodup_append.mpr ⟨rf.nd, by simp, fun x hx y hy z => ?_⟩
                have e1 : y = a := by simpa using hy
                subst e1
                subst z
                exact nin hx
              · by_cases hms : m < s.length
                · rw [List.getElem?_append_left (by omega)] at hm ho'
                  exact (rf.obj m b o hm ho').ext0 hE rfl
                · have hme : m = s.length := by
                    have := (List.getElem?_eq_some_iff.mp ho').1
                    simp [lt] at this
                    omega
                  subst hme
                  rw [List.getElem?_append_right (by omega)] at hm ho'
                  simp [ht] at hm
                  simp [lt] at ho'
                  subst hm ho'
                  have hy' : (O.lst ds).yg s.length = false := by simpa [O.yg] using hy
                  exact (ro.cut hy').ext0 hE rfl
              · obtain ⟨h1, h2⟩ := rf.blk c hc
                refine ⟨by simp; omega, fun m o hm ho' => ?_⟩
                rw [List.getElem?_append_left (by omega)] at ho'
                exact h2 m o hm ho'
              · rw [List.getElem?_append_right (by omega), ht]
                simp
          · exact h α' H' v e r'.drop rv
    all_goals exact PRes.fin r h
  | exc c t => exact PRes.fin r h
  | fail => exact h.elim
theorem se_gcF (h : PE X e (tE g E k ra)) : PE X e (tE g E k (gcF ra)) :=
  PE.imp h fun σ H Q ⟨B, α, ρ, s, hR, hE, q⟩ => ⟨s.length :: B, α, ρ, s, hR.push, hE, PRes.finF hR q⟩

/-! ### truth -/
theorem tru_ok' {B : List Nat} {α : List Addr} {H : Hp} {s : S} {v : V} {d : D} {z : Bool} (hR : R g B α H s) (r : RV g.K α H v d) (h : tru s d = some z) : TruV g.K v H z := by
  cases r with
  | non => exact (Option.some.inj h).symm
  | bl b => exact (Option.some.inj h).symm
  | int i => exact (Option.some.inj h).symm
  | str x =>
    simp only [tru] at h
    split at h
    · rename_i hl
      cases h
      exact ⟨by rw [sizeLine_eq]; exact hl, by rw [Bool.eq_iff_iff]; simp⟩
    · cases h
  | @tup a xs ds h1 h2 =>
    obtain rfl := Option.some.inj h
    exact .inr (.inl ⟨xs, h1, by cases h2 <;> rfl⟩)
  | @frl a xs ds h1 h2 =>
    obtain rfl := Option.some.inj h
    exact .inl ⟨xs, h1.sq, by cases h2 <;> rfl⟩
  | @ref a n h1 =>
    simp only [tru] at h
    split at h
    · rename_i ds ho
      cases h
      obtain ⟨a', e, ha, ro⟩ := hR.get (.ref h1) ho
      cases e
      cases ro with
      | lst h3 h4 => exact .inl ⟨_, .of h3, by cases h4 <;> rfl⟩
    · rename_i ds ho
      cases h
      obtain ⟨a', e, ha, ro⟩ := hR.get (.ref h1) ho
      cases e
      cases ro with
      | dct h3 h4 => exact .inr (.inr ⟨_, h3, by cases h4 <;> rfl⟩)
    · cases h
theorem tst {B : List Nat} {α : List Addr} {H : Hp} {r : Res} {Q : Bool → Hp → Prop} (h : PTst g E B α H r Q) : PRes g E B α H r fun v H1 => ∃ z, TruV g.K v H1 z ∧ Q z H1 := by
  cases r with
  | ok d s =>
    obtain ⟨b, h1, h2⟩ := h
    exact fun α' H' v e r rv => ⟨b, tru_ok' r rv h1, h2 α' H' e r⟩
  | exc c s => exact h
  | fail => exact h
/-- any expression as a test, by its value -/
theorem st_plain (hK : X.K = g.K) (ha : PE X a (tE g E k ra)) (he : ∀ whole, isTrue a X.env whole = (do let v ← whole; standAt a.pos; holding [v] (truthy v))) : PT X a (tT g E k ra) :=
  PT.imp (pt_truth ha he) fun σ H Q ⟨B, α, ρ, s, hR, hE, h⟩ => ⟨B, α, ρ, s, hR, hE, (tst h).imp fun v H1 ⟨z, h1, h2⟩ => ⟨z, by rw [hK]; exact h1, h2⟩⟩
theorem PTst.ext {B : List Nat} {α α' : List Addr} {H H' : Hp} : ∀ {r : Res} {Q : Bool → Hp → Prop}, PTst g E B α H r Q → Ext g.K α α' H H' → PTst g E B α' H' r Q
  | .ok _ _, _, ⟨b, h1, h2⟩, e => ⟨b, h1, fun a h' e' r => h2 a h' (e.trans e') r⟩
  | .exc _ _, _, h, e => PExc.ext h e
  | .fail, _, h, _ => h
/-- what a test is followed by -/
theorem tst_bnd {B : List Nat} {α : List Addr} {H : Hp} {f : Bool → S → Res} : ∀ {r : Res} {Q : VK}, PRes g E B α H (r.tst f) Q → PTst g E B α H r fun z H1 => ∃ α1 s, Ext g.K α α1 H H1 ∧ R g B α1 H1 s ∧ PRes g E B α1 H1 (f z s) Q
  | .ok d s, Q, h => by
    simp only [Res.tst] at h
    split at h
    · rename_i b hb
      exact ⟨b, hb, fun α' H' e r => ⟨α', s, e, r, h.ext e⟩⟩
    · exact h.elim
  | .exc _ _, _, h => h
  | .fail, _, h => h
theorem tst_bndS {B : List Nat} {α : List Addr} {H : Hp} {f : Bool → S → Out} : ∀ {r : Res} {Q : Ends}, POut g E B α H (r.tstS f) Q → PTst g E B α H r fun z H1 => ∃ α1 s, Ext g.K α α1 H H1 ∧ R g B α1 H1 s ∧ POut g E B α1 H1 (f z s) Q
  | .ok d s, Q, h => by
    simp only [Res.tstS] at h
    split at h
    · rename_i b hb
      exact ⟨b, hb, fun α' H' e r => ⟨α', s, e, r, h.ext e⟩⟩
    · exact h.elim
  | .exc _ _, _, h => h
  | .fail, _, h => h
/-- a comparison as a test -/
theorem st_bl {t : TE} (hp : PT X e (tTest t)) (ht : ∀ σ H Q, tE g E k ra σ H Q → t σ H Q) (hb : ∀ c ρ s d s', ra c ρ s = .ok d s' → ∃ z, d = .bl z) : PT X e (tT g E k ra) :=
  PT.imp hp fun σ H Q ⟨B, α, ρ, s, hR, hE, h⟩ => ht σ H _ ⟨B, α, ρ, s, hR, hE, by
    cases hz : ra ⟨k, B⟩ ρ s with
    | ok d s' =>
      rw [hz] at h
      obtain ⟨z, e⟩ := hb _ _ _ _ _ hz
      subst e
      obtain ⟨b, h1, h2⟩ := h
      have e1 : z = b := by simpa [tru] using h1
      subst e1
      intro α' H' v e r rv
      cases rv
      exact ⟨z, rfl, h2 α' H' e r⟩
    | exc c s' => rw [hz] at h; exact h
    | fail => rw [hz] at h; exact h⟩
end
end Ev

set_option maxRecDepth 10000
namespace Ev
open PySem L2

section
variable {X : Cx} {g : G} {E : XK} {k : Nat → List Nat → List D → S → Res} {e a b c : Expr} {ra rb rc : ES} {es : List Expr} {as : AS} {pos : Pos} {rest : List Expr}

/-! ### not, and, or, if-else -/
theorem se_neg (ha : PE X a (tE g E k ra)) : PE X (.UnaryOp .USub a pos) (tE g E k (eUn uNeg ra)) :=
  PE.imp (pe_un un_neg ha) fun σ H Q h => by
    obtain ⟨B, α, ρ, s, hR, hE, h⟩ := one (op := fun _ => uNeg) h
    refine ⟨B, α, ρ, s, hR, hE, h.imp fun v H1 ⟨B', α1, s1, d, R1, r1, h1⟩ => ?_⟩
    cases d <;> try exact (show False from h1).elim
    cases r1
    exact ⟨_, rfl, h1 α1 H1 _ .refl R1 (.int _)⟩
theorem tstB {B : List Nat} {α : List Addr} {H : Hp} {r : Res} {Q : VK} {f : D → S → Bool → Res} (h : PRes g E B α H (r.bnd fun x s => match tru s x with | some z => f x s z | none => .fail) Q) :
    PRes g E B α H r fun v H1 => ∃ z α1 d s, TruV g.K v H1 z ∧ Ext g.K α α1 H H1 ∧ R g B α1 H1 s ∧ RV g.K α1 H1 v d ∧ PRes g E B α1 H1 (f d s z) Q :=
  (PRes.bnd h).imp fun v H1 ⟨α1, d, s1, e1, R1, r1, h1⟩ => by
    split at h1
    · rename_i z hz
      exact ⟨z, α1, d, s1, tru_ok' R1 r1 hz, e1, R1, r1, h1⟩
    · exact h1.elim
theorem se_not (hK : X.K = g.K) (ha : PE X a (tE g E k ra)) : PE X (.UnaryOp .Not a pos) (tE g E k (eNot ra)) :=
  PE.imp (pe_notT ha) fun σ H Q ⟨B, α, ρ, s, hR, hE, h⟩ => by
    refine ⟨B, α, ρ, s, hR, hE, (tst (tst_bnd h)).imp fun v H1 ⟨z, h1, α1, s1, e1, R1, h2⟩ => ⟨z, by rw [hK]; exact h1, h2 α1 H1 _ .refl R1 (.bl _)⟩⟩
theorem st_not (ha : PT X a (tT g E k ra)) : PT X (.UnaryOp .Not a pos) (tT g E k (eNot ra)) :=
  PT.imp (pt_not ha) fun σ H Q ⟨B, α, ρ, s, hR, hE, h⟩ => by
    refine ⟨B, α, ρ, s, hR, hE, ?_⟩
    simp only [eNot] at h
    cases hz : ra ⟨k, B⟩ ρ s with
    | ok d s' =>
      rw [hz] at h
      simp only [Res.tst] at h
      split at h
      · rename_i z hz2
        obtain ⟨b, h1, h2⟩ := h
        have e1 : (!z) = b := by simpa [tru] using h1
        subst e1
        exact ⟨z, hz2, h2⟩
      · exact h.elim
    | exc c t => rw [hz] at h; exact h
    | fail => rw [hz] at h; exact h
theorem se_and (hK : X.K = g.K) (ha : PE X a (tE g E k ra)) (hb : PE X (.BoolOp .And (b :: rest) pos) (tE g E k rb)) : PE X (.BoolOp .And (a :: b :: rest) pos) (tE g E k (eAnd ra rb)) :=
  PE.imp (pe_andT ha hb) fun σ H Q ⟨B, α, ρ, s, hR, hE, h⟩ => by
    have h' : PRes g E B α H ((ra ⟨k, B⟩ ρ s).bnd fun x s => match tru s x with | some z => (if z = true then rb ⟨k, B⟩ ρ s else .ok x s) | none => .fail) Q := by
      have e : (fun x s => match tru s x with | some true => rb ⟨k, B⟩ ρ s | some false => Res.ok x s | none => .fail) = fun x s => match tru s x with | some z => (if z = true then rb ⟨k, B⟩ ρ s else .ok x s) | none => .fail := by
        funext x t
        cases tru t x with
        | none => rfl
        | some z => cases z <;> rfl
      rw [← e]
      exact h
    refine ⟨B, α, ρ, s, hR, hE, (tstB (f := fun x s z => if z = true then rb ⟨k, B⟩ ρ s else .ok x s) h').imp fun v H1 ⟨z, α1, d, s1, hz, e1, R1, r1, h1⟩ => ⟨z, by rw [hK]; exact hz, ?_⟩⟩
    cases z with
    | true => exact ⟨B, α1, ρ, s1, R1, hE.ext e1, h1⟩
    | false => exact h1 α1 H1 v .refl R1 r1
theorem se_or (hK : X.K = g.K) (ha : PE X a (tE g E k ra)) (hb : PE X (.BoolOp .Or (b :: rest) pos) (tE g E k rb)) : PE X (.BoolOp .Or (a :: b :: rest) pos) (tE g E k (eOr ra rb)) :=
  PE.imp (pe_orT ha hb) fun σ H Q ⟨B, α, ρ, s, hR, hE, h⟩ => by
    have h' : PRes g E B α H ((ra ⟨k, B⟩ ρ s).bnd fun x s => match tru s x with | some z => (if z = true then .ok x s else rb ⟨k, B⟩ ρ s) | none => .fail) Q := by
      have e : (fun x s => match tru s x with | some false => rb ⟨k, B⟩ ρ s | some true => Res.ok x s | none => .fail) = fun x s => match tru s x with | some z => (if z = true then .ok x s else rb ⟨k, B⟩ ρ s) | none => .fail := by
        funext x t
        cases tru t x with
        | none => rfl
        | some z => cases z <;> rfl
      rw [← e]
      exact h
    refine ⟨B, α, ρ, s, hR, hE, (tstB (f := fun x s z => if z = true then .ok x s else rb ⟨k, B⟩ ρ s) h').imp fun v H1 ⟨z, α1, d, s1, hz, e1, R1, r1, h1⟩ => ⟨z, by rw [hK]; exact hz, ?_⟩⟩
    cases z with
    | false => exact ⟨B, α1, ρ, s1, R1, hE.ext e1, h1⟩
    | true => exact h1 α1 H1 v .refl R1 r1
/-- .. as tests -/
theorem PTst.imp {B : List Nat} {α : List Addr} {H : Hp} : ∀ {r : Res} {Q Q' : Bool → Hp → Prop}, PTst g E B α H r Q → (∀ v H', Q v H' → Q' v H') → PTst g E B α H r Q'
  | .ok _ _, _, _, ⟨b, h1, h2⟩, i => ⟨b, h1, fun a h' e r => i b h' (h2 a h' e r)⟩
  | .exc _ _, _, _, h, _ => h
  | .fail, _, _, h, _ => h
theorem and_tst {B : List Nat} {α : List Addr} {H : Hp} {ρ : Env} {s : S} {Q : Bool → Hp → Prop} (hE : RE g.K α H σ ρ) (h : PTst g E B α H (eAnd ra rb ⟨k, B⟩ ρ s) Q) :
    PTst g E B α H (ra ⟨k, B⟩ ρ s) fun z H1 => if z = true then tT g E k rb σ H1 Q else Q false H1 := by
  simp only [eAnd] at h
  cases hz : ra ⟨k, B⟩ ρ s with
  | ok d t =>
    rw [hz] at h
    simp only [Res.bnd] at h
    split at h
    · rename_i q
      exact ⟨true, q, fun α' H' e r => ⟨B, α', ρ, t, r, hE.ext e, h.ext e⟩⟩
    · rename_i q
      obtain ⟨b, h1, h2⟩ := h
      rw [q] at h1
      cases h1
      exact ⟨false, q, h2⟩
    · exact h.elim
  | exc c t => rw [hz] at h; exact h
  | fail => rw [hz] at h; exact h
theorem or_tst {B : List Nat} {α : List Addr} {H : Hp} {ρ : Env} {s : S} {Q : Bool → Hp → Prop} (hE : RE g.K α H σ ρ) (h : PTst g E B α H (eOr ra rb ⟨k, B⟩ ρ s) Q) :
    PTst g E B α H (ra ⟨k, B⟩ ρ s) fun z H1 => if z = true then Q true H1 else tT g E k rb σ H1 Q := by
  simp only [eOr] at h
  cases hz : ra ⟨k, B⟩ ρ s with
  | ok d t =>
    rw [hz] at h
    simp only [Res.bnd] at h
    split at h
    · rename_i q
      exact ⟨false, q, fun α' H' e r => ⟨B, α', ρ, t, r, hE.ext e, h.ext e⟩⟩
    · rename_i q
      obtain ⟨b, h1, h2⟩ := h
      rw [q] at h1
      cases h1
      exact ⟨true, q, h2⟩
    · exact h.elim
  | exc c t => rw [hz] at h; exact h
  | fail => rw [hz] at h; exact h
theorem PW.imp {t t' : TT} (h : PW X e t) (i : ∀ σ H Q, t' σ H Q → t σ H Q) : PW X e t' := ⟨fun w pins s σ H Q I q => h.run w pins s σ H Q I (i σ H Q q)⟩
theorem sw_and (ha : PT X a (tT g E k ra)) (hb : PW X (.BoolOp .And (b :: rest) pos) (tT g E k rb)) : PW X (.BoolOp .And (a :: b :: rest) pos) (tT g E k (eAnd ra rb)) :=
  PW.imp (pw_and ha hb) fun σ H Q ⟨B, α, ρ, s, hR, hE, h⟩ => ⟨B, α, ρ, s, hR, hE, and_tst hE h⟩
theorem sw_or (ha : PT X a (tT g E k ra)) (hb : PW X (.BoolOp .Or (b :: rest) pos) (tT g E k rb)) : PW X (.BoolOp .Or (a :: b :: rest) pos) (tT g E k (eOr ra rb)) :=
  PW.imp (pw_or ha hb) fun σ H Q ⟨B, α, ρ, s, hR, hE, h⟩ => ⟨B, α, ρ, s, hR, hE, or_tst hE h⟩
theorem sw_and1 (ha : PT X a (tT g E k ra)) : PW X (.BoolOp .And [a] pos) (tT g E k ra) := pw_and1 ha
theorem sw_or1 (ha : PT X a (tT g E k ra)) : PW X (.BoolOp .Or [a] pos) (tT g E k ra) := pw_or1 ha
theorem se_if (hc : PT X c (tT g E k rc)) (ha : PE X a (tE g E k ra)) (hb : PE X b (tE g E k rb)) : PE X (.IfExp c a b pos) (tE g E k (eIf rc ra rb)) :=
  PE.imp (pe_ifExp hc ha hb) fun σ H Q ⟨B, α, ρ, s, hR, hE, h⟩ => by
    refine ⟨B, α, ρ, s, hR, hE, (tst_bnd h).imp fun z H1 ⟨α1, s1, e1, R1, h1⟩ => ?_⟩
    cases z with
    | true => exact ⟨B, α1, ρ, s1, R1, hE.ext e1, h1⟩
    | false => exact ⟨B, α1, ρ, s1, R1, hE.ext e1, h1⟩
def tIfT (t a b : TT) : TT := fun σ H Q => t σ H fun z H1 => if z = true then a σ H1 Q else b σ H1 Q
theorem pt_ifExp {tc ta tb : TT} (hc : PT X c tc) (ha : PT X a ta) (hb : PT X b tb) : PT X (.IfExp c a b pos) (tIfT tc ta tb) := by
  refine ⟨fun pins s σ H Q I h => ?_⟩
  show wpAny _ _ (do if ← isTrue c X.env (eval c X.env) then isTrue a X.env (eval a X.env) else isTrue b X.env (eval b X.env)) _ _ _
  refine wpAny_bind (thn (hc.run pins s σ H _ I h) fun z s1 ⟨H1, I1, q1⟩ => ?_)
  cases z with
  | true => exact ha.run pins s1 σ H1 Q I1 q1
  | false => exact hb.run pins s1 σ H1 Q I1 q1
theorem st_if (hc : PT X c (tT g E k rc)) (ha : PT X a (tT g E k ra)) (hb : PT X b (tT g E k rb)) : PT X (.IfExp c a b pos) (tT g E k (eIf rc ra rb)) :=
  PT.imp (pt_ifExp hc ha hb) fun σ H Q ⟨B, α, ρ, s, hR, hE, h⟩ => by
    refine ⟨B, α, ρ, s, hR, hE, ?_⟩
    simp only [eIf] at h
    cases hz : rc ⟨k, B⟩ ρ s with
    | ok d t =>
      rw [hz] at h
      simp only [Res.tst] at h
      split at h
      · rename_i z q
        refine ⟨z, q, fun α' H' e r => ?_⟩
        cases z with
        | true => exact ⟨B, α', ρ, t, r, hE.ext e, h.ext e⟩
        | false => exact ⟨B, α', ρ, t, r, hE.ext e, h.ext e⟩
      · exact h.elim
    | exc c t => rw [hz] at h; exact h
    | fail => rw [hz] at h; exact h

/-! ### comparisons as tests; chains -/
theorem st_cmp {o : CmpOp} {op : D → D → S → Res} (ho : OpD X g E (compareOp o) fun _ => op) (ha : PE X a (tE g E k ra)) (hb : PE X b (tE g E k rb)) (hm : behindInMarks o b = false) (hop : ∀ x y s d s', op x y s = .ok d s' → ∃ z, d = .bl z) :
    PT X (.Compare a [o] [b] pos) (tT g E k (eOp op ra rb)) :=
  st_bl (pt_cmpR ho ha hb hm) (fun σ H Q h => two (op := fun _ => op) h) fun c ρ s d s' h => by
    simp only [eOp] at h
    cases h1 : ra c ρ s with
    | ok x s1 =>
      rw [h1] at h
      simp only [Res.bnd] at h
      cases h2 : rb c ρ s1 with
      | ok y s2 => rw [h2] at h; exact hop _ _ _ _ _ h
      | exc _ _ => rw [h2] at h; cases h
      | fail => rw [h2] at h; cases h
    | exc _ _ => rw [h1] at h; cases h
    | fail => rw [h1] at h; cases h
theorem chain {σ : L2.St} {H : Hp} {Q : VK} {f f' : D → D → S → Res} (hop : ∀ x y s d s', f x y s = .ok d s' → ∃ z, d = .bl z) (h : tE g E k (eChain f f' ra rb rc) σ H Q) :
    tE g E k ra σ H fun x H1 => tE g E k rb σ H1 fun y H2 => ∃ B α s d1 d2, R g B α H2 s ∧ RV g.K α H2 x d1 ∧ RV g.K α H2 y d2 ∧ PRes g E B α H2 (f d1 d2 s) fun kv H3 => ∃ z, kv = .bl z ∧
      if z = true then tE g E k rc σ H3 (fun w H4 => ∃ B α s d1 d2, R g B α H4 s ∧ RV g.K α H4 y d1 ∧ RV g.K α H4 w d2 ∧ PRes g E B α H4 (f' d1 d2 s) Q) else Q (.bl false) H3 := by
  obtain ⟨B, α, ρ, s, hR, hE, h⟩ := h
  refine ⟨B, α, ρ, s, hR, hE, (PRes.bnd h).imp fun v H1 ⟨α1, d1, s1, e1, R1, r1, h1⟩ => ?_⟩
  refine ⟨B, α1, ρ, s1, R1, hE.ext e1, (PRes.bnd h1).imp fun w H2 ⟨α2, d2, s2, e2, R2, r2, h2⟩ => ?_⟩
  refine ⟨B, α2, s2, d1, d2, R2, r1.ext e2, r2, ?_⟩
  cases hz : f d1 d2 s2 with
  | ok d t =>
    rw [hz] at h2
    obtain ⟨z, ez⟩ := hop _ _ _ _ _ hz
    subst ez
    intro α3 H3 kv e3 R3 r3
    cases r3
    refine ⟨z, rfl, ?_⟩
    cases z with
    | true =>
      have h3 : PRes g E B α2 H2 ((rc ⟨k, B⟩ ρ t).bnd fun d s => f' d2 d s) Q := h2
      exact ⟨B, α3, ρ, t, R3, hE.ext (e1.trans (e2.trans e3)), (PRes.bnd (h3.ext e3)).imp fun w H4 ⟨α4, d4, s4, e4, R4, r4, h4⟩ => ⟨B, α4, s4, d2, d4, R4, r2.ext (e3.trans e4), r4, h4⟩⟩
    | false => exact h2 α3 H3 _ e3 R3 (.bl _)
  | exc c t => rw [hz] at h2; exact h2
  | fail => rw [hz] at h2; exact h2
theorem se_chain {o o' : CmpOp} {f f' : D → D → S → Res} (ho : OpD X g E (compareOp o) fun _ => f) (ho' : OpD X g E (compareOp o') fun _ => f') (ha : PE X a (tE g E k ra)) (hb : PE X b (tE g E k rb)) (hc : PE X c (tE g E k rc))
    (hm : lastMarks [o, o'] [b, c] = false) (hop : ∀ x y s d s', f x y s = .ok d s' → ∃ z, d = .bl z) : PE X (.Compare a [o, o'] [b, c] pos) (tE g E k (eChain f f' ra rb rc)) :=
  PE.imp (pe_chain ho ho' ha hb hc hm) fun σ H Q h => by
    obtain ⟨B, α, ρ, s, hR, hE, q⟩ := chain hop h
    exact ⟨B, α, ρ, s, hR, hE, q.imp fun x H1 ⟨B, α, ρ, s, hR, hE, q⟩ => ⟨B, α, ρ, s, hR, hE, q.imp fun y H2 ⟨B, α, s, d1, d2, R, r1, r2, q⟩ => ⟨B, α, s, d1, d2, R, r1, r2, q⟩⟩⟩
theorem st_chain {o o' : CmpOp} {f f' : D → D → S → Res} (ho : OpD X g E (compareOp o) fun _ => f) (ho' : OpD X g E (compareOp o') fun _ => f') (ha : PE X a (tE g E k ra)) (hb : PE X b (tE g E k rb)) (hc : PE X c (tE g E k rc))
    (hm : lastMarks [o, o'] [b, c] = false) (hop : ∀ x y s d s', f x y s = .ok d s' → ∃ z, d = .bl z) (hop' : ∀ x y s d s', f' x y s = .ok d s' → ∃ z, d = .bl z) : PT X (.Compare a [o, o'] [b, c] pos) (tT g E k (eChain f f' ra rb rc)) :=
  st_bl (pt_chain ho ho' ha hb hc hm) (fun σ H Q h => by
    obtain ⟨B, α, ρ, s, hR, hE, q⟩ := chain hop h
    exact ⟨B, α, ρ, s, hR, hE, q.imp fun x H1 ⟨B, α, ρ, s, hR, hE, q⟩ => ⟨B, α, ρ, s, hR, hE, q.imp fun y H2 ⟨B, α, s, d1, d2, R, r1, r2, q⟩ => ⟨B, α, s, d1, d2, R, r1, r2, q⟩⟩⟩) fun c ρ s d s' h => by
    simp only [eChain] at h
    cases h1 : ra c ρ s with
    | ok x s1 =>
      rw [h1] at h
      simp only [Res.bnd] at h
      cases h2 : rb c ρ s1 with
      | ok y s2 =>
        rw [h2] at h
        simp only [] at h
        cases h3 : f x y s2 with
        | ok z s3 =>
          rw [h3] at h
          obtain ⟨z', ez⟩ := hop _ _ _ _ _ h3
          subst ez
          cases z' with
          | true =>
            simp only [] at h
            cases h4 : rc c ρ s3 with
            | ok w s4 => rw [h4] at h; exact hop' _ _ _ _ _ h
            | exc _ _ => rw [h4] at h; cases h
            | fail => rw [h4] at h; cases h
          | false =>
            cases h
            exact ⟨_, rfl⟩
        | exc _ _ => rw [h3] at h; cases h
        | fail => rw [h3] at h; cases h
      | exc _ _ => rw [h2] at h; cases h
      | fail => rw [h2] at h; cases h
    | exc _ _ => rw [h1] at h; cases h
    | fail => rw [h1] at h; cases h
/-- what the comparisons give -/
theorem bl_int {f : Int → Int → Bool} {op : D → D → S → Res} (h : ∀ x y s, (∃ i j, x = .int i ∧ y = .int j ∧ op x y s = .ok (.bl (f i j)) s) ∨ op x y s = .fail) : ∀ x y s d s', op x y s = .ok d s' → ∃ z, d = .bl z := fun x y s d s' e => by
  rcases h x y s with ⟨i, j, _, _, h⟩ | h
  · rw [h] at e
    cases e
    exact ⟨_, rfl⟩
  · rw [h] at e; cases e
theorem bl_lt : ∀ x y s d s', cLt x y s = .ok d s' → ∃ z, d = .bl z := fun x y s d s' e => by cases x <;> cases y <;> first | (cases e; done) | (cases e; exact ⟨_, rfl⟩)
theorem bl_le : ∀ x y s d s', cLe x y s = .ok d s' → ∃ z, d = .bl z := fun x y s d s' e => by cases x <;> cases y <;> first | (cases e; done) | (cases e; exact ⟨_, rfl⟩)
theorem bl_gt : ∀ x y s d s', cGt x y s = .ok d s' → ∃ z, d = .bl z := fun x y s d s' e => by cases x <;> cases y <;> first | (cases e; done) | (cases e; exact ⟨_, rfl⟩)
theorem bl_ge : ∀ x y s d s', cGe x y s = .ok d s' → ∃ z, d = .bl z := fun x y s d s' e => by cases x <;> cases y <;> first | (cases e; done) | (cases e; exact ⟨_, rfl⟩)
theorem bl_of {o : Option Bool} : ∀ {s : S} {d s'}, ofB o s = .ok d s' → ∃ z, d = .bl z := fun {s d s'} e => by
  cases o with
  | none => cases e
  | some z => cases e; exact ⟨_, rfl⟩
theorem bl_is : ∀ x y s d s', cIs x y s = .ok d s' → ∃ z, d = .bl z := fun x y s d s' e => by cases x <;> cases y <;> first | (cases e; done) | (cases e; exact ⟨_, rfl⟩)
theorem bl_isnot : ∀ x y s d s', cIsNot x y s = .ok d s' → ∃ z, d = .bl z := fun x y s d s' e => by cases x <;> cases y <;> first | (cases e; done) | (cases e; exact ⟨_, rfl⟩)
end
end Ev

set_option maxRecDepth 10000
namespace Ev
open PySem L2

section
variable {X : Cx} {g : G} {E : XK} {k : Nat → List Nat → List D → S → Res} {e a b c : Expr} {ra rb rc : ES} {es : List Expr} {as : AS} {pos : Pos} {rest : List Expr}

/-! ### in -/
theorem all_shp {n : Nat} {ds : List D} (h : ds.all (D.shp n) = true) : ∀ d ∈ ds, d.shp n = true := List.all_eq_true.mp h
theorem any_pd {x : D} (hx : x.shp 40 = true) : ∀ (ds : List D), (∀ d ∈ ds, d.shp 39 = true) → (D.pds ds).any (fun z => PyData.eqv z x.pd) = ds.any fun z => z.eqv x := by
  have up : ∀ d : D, d.shp 39 = true → d.shp 40 = true := fun d h => shp_up 39 d h
  intro ds
  induction ds with
  | nil => intro _; rfl
  | cons d r ih =>
    intro h
    rw [D.pds, List.any_cons, List.any_cons, ih fun z hz => h z (List.mem_cons_of_mem _ hz), eqv_pd 40 d x (up d (h d List.mem_cons_self)) hx]
where
  shp_up : ∀ (n : Nat) (d : D), d.shp n = true → d.shp (n + 1) = true := by
    intro n
    induction n with
    | zero => intro d h; cases d <;> first | (simp [D.shp] at h; done) | simp [D.shp] at h ⊢ <;> assumption
    | succ n ih =>
      intro d h
      cases d <;> first | (simp [D.shp] at h; done) | skip
      case tup ds =>
        have h' : ∀ z ∈ ds, z.shp n = true := by simpa [D.shp] using h
        have : ∀ z ∈ ds, z.shp (n + 1) = true := fun z hz => ih z (h' z hz)
        simpa [D.shp] using this
      all_goals simpa [D.shp] using h
/-- both membership operators, by what the container is -/
theorem in_core {Q : Bool → Prop} {B : List Nat} {α : List Addr} {H : Hp} {s : S} {x y : V} {d1 d2 : D} {z : Bool} (hR : R g B α H s) (r1 : RV g.K α H x d1) (r2 : RV g.K α H y d2) (h : inD d1 d2 s = some z)
    (hl : ∀ p ds, Dp g.K H x p → Dp g.K H y (.list ds) → SeqAt.shaped p = true → SeqAt.shaped (.list ds) = true → z = (ds.any fun q => PyData.eqv q p) → Q z)
    (ht : ∀ p ds, Dp g.K H x p → Dp g.K H y (.tuple ds) → SeqAt.shaped p = true → SeqAt.shaped (.tuple ds) = true → z = (ds.any fun q => PyData.eqv q p) → Q z) : Q z := by
  have sh : ∀ {ds : List D}, ds.all (D.shp 39) = true → SeqAt.shaped (.tuple (D.pds ds)) = true ∧ SeqAt.shaped (.list (D.pds ds)) = true := fun {ds} h => by
    have h1 : (D.tup ds).shp 40 = true := by simpa [D.shp] using h
    have h2 := shp_shaped (n := 40) (by decide) h1
    rw [D.pd] at h2
    refine ⟨h2, ?_⟩
    unfold SeqAt.shaped at h2 ⊢
    simpa [PyData.canLay0, PyData.depth] using h2
  have byP : inP d1 d2 s = some z → Q z := fun h => by
    unfold inP at h
    split at h
    · rename_i p ps e1 e2
      split at h
      · rename_i hs
        rw [Bool.and_eq_true] at hs
        cases h
        exact ht p ps (toP_ok hR 40 x d1 p r1 e1) (toP_ok hR 40 y d2 _ r2 e2) hs.1 hs.2 rfl
      · cases h
    · rename_i p ps e1 e2
      split at h
      · rename_i hs
        rw [Bool.and_eq_true] at hs
        cases h
        exact hl p ps (toP_ok hR 40 x d1 p r1 e1) (toP_ok hR 40 y d2 _ r2 e2) hs.1 hs.2 rfl
      · cases h
    · cases h
  cases r2 with
  | tup h1 h2 =>
    simp only [inD] at h
    split at h
    · rename_i hs
      rw [Bool.and_eq_true] at hs
      cases h
      exact ht _ _ (r1.dp hs.1) (.tup h1 (h2.dp (all_shp hs.2))) (shp_shaped (by decide) hs.1) (sh hs.2).1 (any_pd hs.1 _ (all_shp hs.2)).symm
    · exact byP h
  | frl h1 h2 =>
    simp only [inD] at h
    split at h
    · rename_i hs
      rw [Bool.and_eq_true] at hs
      cases h
      exact hl _ _ (r1.dp hs.1) (.lst h1.sq (h2.dp (all_shp hs.2))) (shp_shaped (by decide) hs.1) (sh hs.2).2 (any_pd hs.1 _ (all_shp hs.2)).symm
    · exact byP h
  | @ref a n h1 =>
    simp only [inD] at h
    split at h
    · rename_i ds hd
      split at h
      · rename_i hs
        rw [Bool.and_eq_true] at hs
        cases h
        obtain ⟨a', xs, ea, _, _, h3, h4⟩ := lst_of hR (.ref h1) hd
        cases ea
        exact hl _ _ (r1.dp hs.1) (.lst (.of h3) (h4.dp (all_shp hs.2))) (shp_shaped (by decide) hs.1) (sh hs.2).2 (any_pd hs.1 _ (all_shp hs.2)).symm
      · exact byP h
    · cases h
  | _ => simp [inD] at h
theorem room_tup {A : Around} {xs : List PyData} {d : PyData} (hd : SeqAt.shaped d = true) (hu : A.units + 65 < cLine) : A.units + 1 + min (PyData.depthAll xs) d.depth < cLine := by
  have := SeqAt.depth_of_shaped hd
  omega
theorem op_inT {K : PySem.W.Frag} (hK : X.K = K) (hu : X.A.units + 65 < cLine) : OpR X (compareOp .In) fun x y H Q => ∃ d ds, Dp K H x d ∧ Dp K H y (.tuple ds) ∧ SeqAt.shaped d = true ∧ SeqAt.shaped (.tuple ds) = true ∧ Q (.bl (ds.any fun z => PyData.eqv z d)) H := by
  intro pins s σ H x y v u Q I rx ry h
  obtain ⟨d, ds, hd, he, sd, se, q⟩ := h
  rw [← hK] at hd he
  obtain ⟨as, r1⟩ := Dp.reads I d x v hd rx
  obtain ⟨bs, r2⟩ := Dp.reads I (.tuple ds) y u he ry
  exact SeqAt.in_tuple_reads r2 r1 (SeqAt.canLay_of_shaped se) (SeqAt.canLay_of_shaped sd) (room_tup sd hu) ⟨.bl _, H, I, rfl, q⟩
theorem op_notInT {K : PySem.W.Frag} (hK : X.K = K) (hu : X.A.units + 65 < cLine) : OpR X (compareOp .NotIn) fun x y H Q => ∃ d ds, Dp K H x d ∧ Dp K H y (.tuple ds) ∧ SeqAt.shaped d = true ∧ SeqAt.shaped (.tuple ds) = true ∧ Q (.bl (!ds.any fun z => PyData.eqv z d)) H := by
  intro pins s σ H x y v u Q I rx ry h
  obtain ⟨d, ds, hd, he, sd, se, q⟩ := h
  rw [← hK] at hd he
  obtain ⟨as, r1⟩ := Dp.reads I d x v hd rx
  obtain ⟨bs, r2⟩ := Dp.reads I (.tuple ds) y u he ry
  exact SeqAt.notIn_tuple_reads r2 r1 (SeqAt.canLay_of_shaped se) (SeqAt.canLay_of_shaped sd) (room_tup sd hu) ⟨.bl _, H, I, rfl, q⟩
theorem opd_in (hK : X.K = g.K) (hu : X.A.units + 65 < cLine) : OpD X g E (compareOp .In) fun _ => cIn := by
  intro pins s σ H x y v u Q I rx ry ⟨B, α, t, d1, d2, hR, r1, r2, q⟩
  simp only [cIn] at q
  cases h : inD d1 d2 t with
  | none => rw [h] at q; exact q.elim
  | some z =>
    rw [h] at q
    have q' : Q (.bl z) H := q α H _ .refl hR (.bl _)
    refine in_core (Q := fun z => Q (.bl z) H → wpAny (model X.prog X.w) X.A (compareOp .In v u) (EP X pins σ Q) X.xe s) hR r1 r2 h (fun p ds h1 h2 h3 h4 e q => ?_) (fun p ds h1 h2 h3 h4 e q => ?_) q'
    · subst e
      exact op_inD hu pins s σ H _ _ v u Q I rx ry ⟨p, ds, by rw [hK]; exact h1, by rw [hK]; exact h2, h3, h4, q⟩
    · subst e
      exact op_inT hK hu pins s σ H _ _ v u Q I rx ry ⟨p, ds, h1, h2, h3, h4, q⟩
theorem opd_notin (hK : X.K = g.K) (hu : X.A.units + 65 < cLine) : OpD X g E (compareOp .NotIn) fun _ => cNotIn := by
  intro pins s σ H x y v u Q I rx ry ⟨B, α, t, d1, d2, hR, r1, r2, q⟩
  simp only [cNotIn] at q
  cases h : inD d1 d2 t with
  | none => rw [h] at q; exact q.elim
  | some z =>
    rw [h] at q
    have q' : Q (.bl (!z)) H := q α H _ .refl hR (.bl _)
    refine in_core (Q := fun z => Q (.bl (!z)) H → wpAny (model X.prog X.w) X.A (compareOp .NotIn v u) (EP X pins σ Q) X.xe s) hR r1 r2 h (fun p ds h1 h2 h3 h4 e q => ?_) (fun p ds h1 h2 h3 h4 e q => ?_) q'
    · subst e
      exact op_notInD hu pins s σ H _ _ v u Q I rx ry ⟨p, ds, by rw [hK]; exact h1, by rw [hK]; exact h2, h3, h4, q⟩
    · subst e
      exact op_notInT hK hu pins s σ H _ _ v u Q I rx ry ⟨p, ds, h1, h2, h3, h4, q⟩

/-! ### subscripts -/
theorem atI_rv {K : PySem.W.Frag} {α : List Addr} {H : Hp} {xs : List V} {ds : List D} {i : Int} {d : D} (r : RVs K α H xs ds) (h : atI ds i = some d) : ∃ v, atI xs i = some v ∧ RV K α H v d := by
  unfold atI at h ⊢
  rw [r.length]
  cases hj : ixN ds.length i with
  | none => rw [hj] at h; cases h
  | some j =>
    rw [hj] at h
    exact r.get h
theorem ixL_ok {B : List Nat} {α : List Addr} {H : Hp} {s : S} {Q : VK} {xs : List V} {ds : List D} {i : Int} (hR : R g B α H s) (r : RVs g.K α H xs ds) (h : PRes g E B α H (ixL ds i s) Q) : ∃ v, atI xs i = some v ∧ Q v H := by
  simp only [ixL] at h
  cases hd : atI ds i with
  | none => rw [hd] at h; exact h.elim
  | some d =>
    obtain ⟨v, h1, h2⟩ := atI_rv r hd
    rw [hd] at h
    refine ⟨v, h1, ?_⟩
    cases d <;> first | exact (show False from h).elim | exact h α H v .refl hR h2
theorem se_ixL (hK : X.K = g.K) (ha : PE X a (tE g E k ra)) (hb : PE X b (tE g E k rb)) (hs : PlainIx b) : PE X (.Subscript a b pos) (tE g E k (eOp bIxL ra rb)) :=
  PE.imp (pe_ix ix_seq ha hb hs) fun σ H Q h => by
    obtain ⟨B, α, ρ, s, hR, hE, q⟩ := two (op := fun _ => bIxL) h
    refine ⟨B, α, ρ, s, hR, hE, q.imp fun x H1 ⟨B', α', ρ', s', hR', hE', q'⟩ => ⟨B', α', ρ', s', hR', hE', q'.imp fun y H2 ⟨B2, α2, s2, d1, d2, R1, r1, r2, q2⟩ => ?_⟩⟩
    clear q' q h
    cases d2 <;> try (cases d1 <;> exact (show False from q2).elim)
    cases r2
    cases d1 <;> try exact (show False from q2).elim
    case int.str z =>
      cases r1
      simp only [bIxL] at q2
      split at q2
      · rename_i hl
        split at q2
        · rename_i c hc
          exact .inr (.inr ⟨_, _, c, rfl, rfl, by rw [sizeLine_eq]; exact hl, hc, q2 α2 H2 _ .refl R1 (.str _)⟩)
        · exact q2.elim
      · exact q2.elim
    case int.tup ds =>
      cases r1 with
      | tup h1 h2 =>
        obtain ⟨v, e1, e2⟩ := ixL_ok R1 h2 q2
        exact .inr (.inl ⟨_, _, _, v, rfl, rfl, by rw [hK]; exact h1, e1, e2⟩)
    case int.frl ds =>
      cases r1 with
      | frl h1 h2 =>
        obtain ⟨v, e1, e2⟩ := ixL_ok R1 h2 q2
        exact .inl ⟨_, _, _, v, rfl, rfl, by rw [hK]; exact h1.sq, e1, e2⟩
    case int.ref n =>
      simp only [bIxL] at q2
      split at q2
      · rename_i ds hd
        obtain ⟨p, xs, rfl, _, _, h3, h4⟩ := lst_of R1 r1 hd
        obtain ⟨v, e1, e2⟩ := ixL_ok R1 h4 q2
        exact .inl ⟨_, _, _, v, rfl, rfl, .of h3, e1, e2⟩
      · exact q2.elim
/-! .. of dicts -/
theorem keq_kD (a b : Key) : keq (kD a) (kD b) = decide (a = b) := by
  cases a <;> cases b <;> simp [kD, keq]
theorem key_of {K : PySem.W.Frag} {α : List Addr} {H : Hp} {y : V} {d : D} (r : RV K α H y d) (h : isKey d = true) : ∃ k, y = kV k ∧ d = kD k := by
  cases r <;> first | exact ⟨.inl _, rfl, rfl⟩ | exact ⟨.inr _, rfl, rfl⟩ | cases h
theorem RKs.find {K : PySem.W.Frag} {α : List Addr} {H : Hp} (k : Key) : ∀ {xs : List (Key × V)} {kvs : List (D × D)}, RKs K α H xs kvs → (∀ d, dget kvs (kD k) = some d → ∃ v, valV xs k = some v ∧ RV K α H v d) ∧ (dget kvs (kD k) = none → valV xs k = none)
  | _, _, .nil => ⟨fun d h => (by cases h), fun _ => rfl⟩
  | _, _, .cons (k := j) (v := v) (d := d) r t => by
    have ih := RKs.find k t
    unfold dget at ih ⊢
    rw [List.find?_cons]
    dsimp only
    rw [keq_kD]
    by_cases e : j = k
    · rw [decide_eq_true e, valV_pos e]
      exact ⟨fun d h => by cases h; exact ⟨v, rfl, r⟩, fun h => by cases h⟩
    · rw [decide_eq_false e, valV_neg e]
      exact ih
theorem dct_of {B : List Nat} {α : List Addr} {H : Hp} {s : S} {v : V} {n : Nat} {kvs : List (D × D)} (hR : R g B α H s) (r : RV g.K α H v (.ref n)) (h : dctOf s n = some kvs) : ∃ a xs, v = .ref a ∧ α[n]? = some a ∧ Rd H a (.dK xs) ∧ RKs g.K α H xs kvs := by
  unfold dctOf at h
  split at h
  · rename_i ds ho
    cases h
    obtain ⟨a, e, ha, ro⟩ := hR.get r ho
    cases ro with
    | dct h3 h4 => exact ⟨a, _, e, ha, .inl h3, h4⟩
  · rename_i ds ho
    cases h
    obtain ⟨a, e, ha, ro⟩ := hR.get r ho
    cases ro with
    | dfz h3 h4 => exact ⟨a, _, e, ha, .inr ⟨_, h3⟩, h4⟩
  · cases h
theorem se_ixD (hu : X.A.units + 65 < cLine) (ha : PE X a (tE g E k ra)) (hb : PE X b (tE g E k rb)) (hs : PlainIx b) : PE X (.Subscript a b pos) (tE g E k (eOp bIxD ra rb)) :=
  PE.imp (pe_dget (by omega) ha hb hs) fun σ H Q h => by
    obtain ⟨B, α, ρ, s, hR, hE, q⟩ := two (op := fun _ => bIxD) h
    refine ⟨B, α, ρ, s, hR, hE, q.imp fun x H1 ⟨B', α', ρ', s', hR', hE', q'⟩ => ⟨B', α', ρ', s', hR', hE', q'.imp fun y H2 ⟨B2, α2, s2, d1, d2, R1, r1, r2, q2⟩ => ?_⟩⟩
    clear q' q h
    have key : ∀ n, d1 = .ref n → isKey d2 = true → PRes g E B2 α2 H2 (dixK s2 n d2) Q → ∃ a v, x = .ref a ∧ DGet H2 a y (some v) ∧ Q v H2 := by
      intro n e hk q
      subst e
      obtain ⟨ky, e1, e2⟩ := key_of r2 hk
      subst e1 e2
      unfold dixK at q
      split at q
      · rename_i kvs hd
        obtain ⟨p, xs, rfl, _, h3, h4⟩ := dct_of R1 r1 hd
        split at q
        · exact q.elim
        · rename_i d hu hg
          obtain ⟨v, e1, e2⟩ := (h4.find ky).1 _ hg
          exact ⟨p, v, rfl, .inl ⟨xs, ky, h3, rfl, e1.symm⟩, q α2 H2 v .refl R1 e2⟩
        · exact q.elim
      · exact q.elim
    cases d1 <;> try exact (show False from q2).elim
    case ref n =>
      cases d2 <;> try exact (show False from q2).elim
      case int i => exact key n rfl rfl q2
      case str z => exact key n rfl rfl q2
theorem PE.or {t1 t2 : TE} (h1 : PE X e t1) (h2 : PE X e t2) : PE X e fun σ H Q => t1 σ H Q ∨ t2 σ H Q := ⟨fun pins s σ H Q I h => h.elim (h1.run pins s σ H Q I) (h2.run pins s σ H Q I)⟩
theorem se_ix (hK : X.K = g.K) (hu : X.A.units + 65 < cLine) (ha : PE X a (tE g E k ra)) (hb : PE X b (tE g E k rb)) (hs : PlainIx b) : PE X (.Subscript a b pos) (tE g E k (eOp bIx ra rb)) :=
  PE.imp (PE.or (se_ixL hK ha hb hs) (se_ixD hu ha hb hs)) fun σ H Q ⟨B, α, ρ, s, hR, hE, q⟩ => by
    have e : eOp bIx ra rb ⟨k, B⟩ ρ s = eOp bIxL ra rb ⟨k, B⟩ ρ s ∨ eOp bIx ra rb ⟨k, B⟩ ρ s = eOp bIxD ra rb ⟨k, B⟩ ρ s := by
      unfold eOp
      cases ra ⟨k, B⟩ ρ s with
      | ok x s1 =>
        show (rb ⟨k, B⟩ ρ s1).bnd _ = (rb ⟨k, B⟩ ρ s1).bnd _ ∨ (rb ⟨k, B⟩ ρ s1).bnd _ = (rb ⟨k, B⟩ ρ s1).bnd _
        cases rb ⟨k, B⟩ ρ s1 with
        | ok y s2 => exact bIx_or x y s2
        | exc c t => exact .inl rfl
        | fail => exact .inl rfl
      | exc c t => exact .inl rfl
      | fail => exact .inl rfl
    rcases e with e | e
    · exact .inl ⟨B, α, ρ, s, hR, hE, by rw [← e]; exact q⟩
    · exact .inr ⟨B, α, ρ, s, hR, hE, by rw [← e]; exact q⟩

/-! ### slices -/
theorem cut_rv {K : PySem.W.Frag} {α : List Addr} {H : Hp} {xs : List V} {ds : List D} (r : RVs K α H xs ds) (lo hi : Option Int) : RVs K α H (cutV xs lo hi) (cutD ds lo hi) := by
  unfold cutV cutD
  rw [r.length]
  exact (r.drop _).take _
/-- a written part goes with its expression -/
def PartOk (X : Cx) (g : G) (E : XK) (k : Nat → List Nat → List D → S → Res) : Option Expr → Option ES → Prop
  | none, none => True
  | some e, some r => PE X e (tE g E k r)
  | _, _ => False
def PPart (g : G) (E : XK) (k : Nat → List Nat → List D → S → Res) (ro : Option ES) (B : List Nat) (α : List Addr) (H : Hp) (ρ : Env) (s : S) (Q : Option Int → Hp → Prop) : Prop := match ro with
  | none => Q none H
  | some r => PRes g E B α H (r ⟨k, B⟩ ρ s) fun v H1 => ∃ i, v = .int i ∧ Q (some i) H1
theorem po_part {o : Option Expr} {ro : Option ES} (h : PartOk X g E k o ro) : PO X o fun σ H Q => ∃ B α ρ s, R g B α H s ∧ RE g.K α H σ ρ ∧ PPart g E k ro B α H ρ s Q := by
  cases o with
  | none =>
    cases ro with
    | none => exact ⟨fun pins s σ H Q I ⟨B, α, ρ, t, hR, hE, q⟩ => po_none.run pins s σ H Q I q⟩
    | some r => exact h.elim
  | some e =>
    cases ro with
    | none => exact h.elim
    | some r => exact ⟨fun pins s σ H Q I ⟨B, α, ρ, t, hR, hE, q⟩ => (po_some h).run pins s σ H Q I ⟨B, α, ρ, t, hR, hE, q⟩⟩
theorem part_bnd {ro : Option ES} {B : List Nat} {α : List Addr} {H : Hp} {ρ : Env} {s : S} {f : Option Int → S → Res} {Q : VK} (hR : R g B α H s) (h : PRes g E B α H (withPart ro ⟨k, B⟩ ρ s f) Q) :
    PPart g E k ro B α H ρ s fun o H1 => ∃ α1 s1, Ext g.K α α1 H H1 ∧ R g B α1 H1 s1 ∧ PRes g E B α1 H1 (f o s1) Q := by
  cases ro with
  | none => exact ⟨α, s, .refl, hR, h⟩
  | some r =>
    refine (PRes.bnd h).imp fun v H1 ⟨α1, d, s1, e1, R1, r1, h1⟩ => ?_
    cases d <;> try exact (show False from h1).elim
    cases r1
    exact ⟨_, rfl, α1, s1, e1, R1, h1⟩
theorem slD_ok {B : List Nat} {α : List Addr} {H : Hp} {s : S} {Q : VK} {x : V} {d : D} {lo hi : Option Int} (hK : X.K = g.K) (hR : R g B α H s) (r : RV g.K α H x d) (h : PRes g E B α H (slD d lo hi s) Q) : rSlA X.K x lo hi H Q ∨ rSlL X.K x lo hi H Q := by
  cases d <;> try exact (show False from h).elim
  case tup ds =>
    cases r with
    | @tup a xs _ h1 h2 =>
      refine .inl ⟨a, xs, rfl, by rw [hK]; exact h1, fun hw => ?_, fun _ => tup_ok hR h (cut_rv h2 lo hi)⟩
      have e : cutD ds lo hi = ds := by
        unfold cutD
        rw [← h2.length, hw.1, hw.2, h2.length]
        simp
      have h' : PRes g E B α H (.ok (.tup (cutD ds lo hi)) s) Q := h
      rw [e] at h'
      exact h' α H _ .refl hR (.tup h1 h2)
  case ref n =>
    simp only [slD] at h
    split at h
    · rename_i ds hd
      obtain ⟨p, xs, rfl, _, _, h3, h4⟩ := lst_of hR r hd
      exact .inr ⟨p, xs, rfl, .of h3, al_ok hR h (cut_rv h4 lo hi)⟩
    · exact h.elim
end
end Ev

set_option maxRecDepth 10000
namespace Ev
open PySem L2

section
variable {X : Cx} {g : G} {E : XK} {k : Nat → List Nat → List D → S → Res} {e a b c : Expr} {ra rb rc : ES} {es : List Expr} {as : AS} {pos : Pos} {rest : List Expr}

theorem se_sl (hK : X.K = g.K) {lo hi : Option Expr} {rl rh : Option ES} {p2 : Pos} (ha : PE X a (tE g E k ra)) (hl : PartOk X g E k lo rl) (hh : PartOk X g E k hi rh) : PE X (.Subscript a (.Slice lo hi none p2) pos) (tE g E k (eSl ra rl rh)) :=
  PE.imp (pe_slice (sl_tupA.or sl_list) ha (po_part hl) (po_part hh)) fun σ H Q ⟨B, α, ρ, s, hR, hE, h⟩ => by
    refine ⟨B, α, ρ, s, hR, hE, (PRes.bnd h).imp fun v H1 ⟨α1, d1, s1, e1, R1, r1, h1⟩ => ?_⟩
    have im : ∀ {ro : Option ES} {B : List Nat} {α : List Addr} {H : Hp} {ρ : Env} {s : S} {Q Q' : Option Int → Hp → Prop}, PPart g E k ro B α H ρ s Q → (∀ o H', Q o H' → Q' o H') → PPart g E k ro B α H ρ s Q' := fun {ro B α H ρ s Q Q'} h i => by
      cases ro with
      | none => exact i _ _ h
      | some r => exact PRes.imp h fun v H1 ⟨j, e, q⟩ => ⟨j, e, i _ _ q⟩
    refine ⟨B, α1, ρ, s1, R1, hE.ext e1, im (part_bnd R1 h1) fun l H2 ⟨α2, s2, e2, R2, h2⟩ => ?_⟩
    refine ⟨B, α2, ρ, s2, R2, (hE.ext e1).ext e2, im (part_bnd R2 h2) fun u H3 ⟨α3, s3, e3, R3, h3⟩ => ?_⟩
    exact slD_ok hK R3 (r1.ext (e2.trans e3)) h3

/-! ### built-ins by values -/
def CallD (X : Cx) (g : G) (E : XK) (f : Value) (op : List D → S → Res) : Prop := CallR X f fun vs H Q => ∃ B α s ds, R g B α H s ∧ RVs g.K α H vs ds ∧ PRes g E B α H (op ds s) Q
theorem se_blt {x : Str} {id : String} {op : List D → S → Res} {p : Pos} (hc : CallD X g E (.builtin id) op) (hg : Gl X x) (hm : X.mg x = none) (hv : bootBuiltins x = some (.builtin id)) (ha : PA X (e :: es) (tA g E k as)) (hn : x ≠ "__name__") (hdb : (x == ("__debug__" : Str)) = false)
    (he : starEach (e :: es) X.env = (false, eval e X.env) :: starEach es X.env) (hpl : (backTo pos (starEach es X.env)).any (·.1) = false) : PE X (.Call (.Name x p) (e :: es) [] pos) (tE g E k (eBlt op as)) :=
  se_gcF (PE.imp (pe_callB hc hg hm hv ha hn hdb he hpl) fun _ _ _ h => args (f := fun _ => op) h)
theorem se_bltT {x : Str} {T : String} {op : List D → S → Res} {p : Pos} (hc : CallD X g E (.type T) op) (hg : Gl X x) (hm : X.mg x = none) (hv : bootBuiltins x = some (.type T)) (ha : PA X (e :: es) (tA g E k as)) (hn : x ≠ "__name__") (hdb : (x == ("__debug__" : Str)) = false)
    (he : starEach (e :: es) X.env = (false, eval e X.env) :: starEach es X.env) (hpl : (backTo pos (starEach es X.env)).any (·.1) = false) : PE X (.Call (.Name x p) (e :: es) [] pos) (tE g E k (eBlt op as)) :=
  se_gcF (PE.imp (pe_callTy hc hg hm hv ha hn hdb he hpl) fun _ _ _ h => args (f := fun _ => op) h)
/-- one argument -/
theorem RVs.one {K : PySem.W.Frag} {α : List Addr} {H : Hp} {vs : List V} {d : D} (r : RVs K α H vs [d]) : ∃ v, vs = [v] ∧ RV K α H v d := by
  cases r with
  | cons r t => cases t; exact ⟨_, rfl, r⟩
theorem RVs.two {K : PySem.W.Frag} {α : List Addr} {H : Hp} {vs : List V} {d d' : D} (r : RVs K α H vs [d, d']) : ∃ v w, vs = [v, w] ∧ RV K α H v d ∧ RV K α H w d' := by
  cases r with
  | cons r t => cases t with
    | cons r' t => cases t; exact ⟨_, _, rfl, r, r'⟩
theorem RKs.length {K : PySem.W.Frag} {α : List Addr} {H : Hp} : ∀ {xs : List (Key × V)} {kvs : List (D × D)}, RKs K α H xs kvs → xs.length = kvs.length
  | _, _, .nil => rfl
  | _, _, .cons _ t => by rw [List.length_cons, List.length_cons, RKs.length t]
theorem cd_len (hK : X.K = g.K) : CallD X g E (.builtin "len") lenD := by
  intro pins s σ H vs us Q I rv ⟨B, α, t, ds, hR, r, q⟩
  match ds, r, q with
  | [d], r, q =>
    obtain ⟨v, rfl, r1⟩ := r.one
    cases r1 with
    | str z =>
      refine call_len pins s σ H _ us Q I rv ?_
      simp only [lenD] at q
      split at q
      · rename_i hl
        exact ⟨_, z.length, rfl, ⟨by rw [sizeLine_eq]; exact hl, rfl⟩, q α H _ .refl hR (.int _)⟩
      · exact q.elim
    | @tup a xs es h1 h2 => exact call_len pins s σ H _ us Q I rv ⟨_, es.length, rfl, .inr ⟨_, by rw [hK]; exact h1, h2.length.symm⟩, q α H _ .refl hR (.int _)⟩
    | @frl a xs es h1 h2 => exact call_len pins s σ H _ us Q I rv ⟨_, es.length, rfl, .inl ⟨_, by rw [hK]; exact h1.sq, h2.length.symm⟩, q α H _ .refl hR (.int _)⟩
    | @ref a n h1 =>
      simp only [lenD] at q
      split at q
      · rename_i es hd
        obtain ⟨p, xs, e, _, _, h3, h4⟩ := lst_of hR (.ref h1) hd
        cases e
        exact call_len pins s σ H _ us Q I rv ⟨_, es.length, rfl, .inl ⟨_, .of h3, h4.length.symm⟩, q α H _ .refl hR (.int _)⟩
      · split at q
        · rename_i kvs ho
          obtain ⟨p, e, _, ro⟩ := hR.get (.ref h1) ho
          cases e
          cases ro with
          | dct h3 h4 => exact call_lenD pins s σ H _ us Q I rv ⟨a, _, rfl, h3, by rw [h4.length]; exact q α H _ .refl hR (.int _)⟩
        · exact q.elim
    | _ => exact (show False from q).elim
  | [], _, q => exact (show False from q).elim
  | a :: b :: r', _, q => exact (show False from by cases a <;> exact q).elim
theorem cd_abs : CallD X g E (.builtin "abs") absD := by
  intro pins s σ H vs us Q I rv ⟨B, α, t, ds, hR, r, q⟩
  match ds, r, q with
  | [d], r, q =>
    obtain ⟨v, rfl, r1⟩ := r.one
    cases r1 with
    | int i => exact call_abs pins s σ H _ us Q I rv ⟨_, rfl, q α H _ .refl hR (.int _)⟩
    | _ => exact (show False from q).elim
  | [], _, q => exact (show False from q).elim
  | a :: b :: r', _, q => exact (show False from by cases a <;> exact q).elim
theorem cd_int : CallD X g E (.type "int") intD := by
  intro pins s σ H vs us Q I rv ⟨B, α, t, ds, hR, r, q⟩
  match ds, r, q with
  | [d], r, q =>
    obtain ⟨v, rfl, r1⟩ := r.one
    cases r1 with
    | int i => exact call_int1 pins s σ H _ us Q I rv (.inl ⟨_, rfl, q α H _ .refl hR (.int _)⟩)
    | bl i => exact call_int1 pins s σ H _ us Q I rv (.inr ⟨_, rfl, q α H _ .refl hR (.int _)⟩)
    | _ => exact (show False from q).elim
  | [], _, q => exact (show False from q).elim
  | a :: b :: r', _, q => exact (show False from by cases a <;> exact q).elim
/-- a sequence by its D -/
theorem seq_of {B : List Nat} {α : List Addr} {H : Hp} {s : S} {v : V} {d : D} {ds : List D} (hR : R g B α H s) (r : RV g.K α H v d) (h : seqOf s d = some ds) : ∃ a xs, v = .ref a ∧ (SqL g.K H a xs ∨ SqT g.K H a xs) ∧ RVs g.K α H xs ds := by
  cases r with
  | tup h1 h2 => cases h; exact ⟨_, _, rfl, .inr h1, h2⟩
  | frl h1 h2 => cases h; exact ⟨_, _, rfl, .inl h1.sq, h2⟩
  | @ref a n h1 =>
    obtain ⟨p, xs, e, _, _, h3, h4⟩ := lst_of hR (.ref h1) h
    exact ⟨p, xs, e, .inl (.of h3), h4⟩
  | _ => cases h
theorem cd_list (hK : X.K = g.K) : CallD X g E (.type "list") listD := by
  intro pins s σ H vs us Q I rv ⟨B, α, t, ds, hR, r, q⟩
  match ds, r, q with
  | [d], r, q =>
    obtain ⟨v, rfl, r1⟩ := r.one
    simp only [listD] at q
    split at q
    · rename_i es hd
      obtain ⟨a, xs, rfl, h1, h2⟩ := seq_of hR r1 hd
      exact call_list_of pins s σ H _ us Q I rv ⟨a, xs, rfl, by rw [hK]; exact h1, al_ok hR q h2⟩
    · exact q.elim
  | [], _, q => exact (show False from q).elim
  | a :: b :: r', _, q => exact (show False from by cases a <;> exact q).elim
theorem cd_tup (hK : X.K = g.K) : CallD X g E (.type "tuple") tupD := by
  intro pins s σ H vs us Q I rv ⟨B, α, t, ds, hR, r, q⟩
  match ds, r, q with
  | [d], r, q =>
    obtain ⟨v, rfl, r1⟩ := r.one
    cases r1 with
    | tup h1 h2 => exact call_tuple_of pins s σ H _ us Q I rv ⟨_, _, rfl, .inr ⟨by rw [hK]; exact h1, q α H _ .refl hR (.tup h1 h2)⟩⟩
    | @ref a n h1 =>
      simp only [tupD] at q
      split at q
      · rename_i es hd
        obtain ⟨p, xs, e, _, _, h3, h4⟩ := lst_of hR (.ref h1) hd
        cases e
        exact call_tuple_of pins s σ H _ us Q I rv ⟨_, _, rfl, .inl ⟨.of h3, tup_ok hR q h4⟩⟩
      · exact q.elim
    | _ => exact (show False from q).elim
  | [], _, q => exact (show False from q).elim
  | a :: b :: r', _, q => exact (show False from by cases a <;> exact q).elim
end
end Ev

set_option maxRecDepth 10000
namespace Ev
open PySem L2 PyProof.Rows

section
variable {X : Cx} {g : G} {E : XK} {k : Nat → List Nat → List D → S → Res} {e a b c : Expr} {ra rb rc : ES} {es : List Expr} {as : AS} {pos : Pos} {rest : List Expr}

/-! ### sums and the like over a list or a tuple -/
theorem toI_map : ∀ {ds : List D} {ns : List Int}, ds.mapM D.toI = some ns → ds = ns.map D.int
  | [], ns, h => by
    have e : ns = [] := by simpa using h.symm
    subst e
    rfl
  | d :: r, ns, h => by
    rw [List.mapM_cons] at h
    cases hd : D.toI d with
    | none => rw [hd] at h; simp at h
    | some i =>
      rw [hd] at h
      cases hr : r.mapM D.toI with
      | none => rw [hr] at h; simp at h
      | some t =>
        rw [hr] at h
        have e : ns = i :: t := by simpa using h.symm
        subst e
        cases d <;> simp [D.toI] at hd
        subst hd
        rw [toI_map hr]
        rfl
theorem toB_map : ∀ {ds : List D} {ns : List Bool}, ds.mapM D.toB = some ns → ds = ns.map D.bl
  | [], ns, h => by
    have e : ns = [] := by simpa using h.symm
    subst e
    rfl
  | d :: r, ns, h => by
    rw [List.mapM_cons] at h
    cases hd : D.toB d with
    | none => rw [hd] at h; simp at h
    | some i =>
      rw [hd] at h
      cases hr : r.mapM D.toB with
      | none => rw [hr] at h; simp at h
      | some t =>
        rw [hr] at h
        have e : ns = i :: t := by simpa using h.symm
        subst e
        cases d <;> simp [D.toB] at hd
        subst hd
        rw [toB_map hr]
        rfl
theorem RVs.ints {K : PySem.W.Frag} {α : List Addr} {H : Hp} : ∀ {vs : List V} {ns : List Int}, RVs K α H vs (ns.map D.int) → vs = ns.map V.int
  | _, [], r => by cases r; rfl
  | _, n :: ns, r => by
    cases r with
    | cons r t =>
      cases r
      rw [RVs.ints t]
      rfl
theorem RVs.bools {K : PySem.W.Frag} {α : List Addr} {H : Hp} : ∀ {vs : List V} {ns : List Bool}, RVs K α H vs (ns.map D.bl) → vs = ns.map V.bl
  | _, [], r => by cases r; rfl
  | _, n :: ns, r => by
    cases r with
    | cons r t =>
      cases r
      rw [RVs.bools t]
      rfl
theorem iter_intTup {prog : Program} {w : World} {A : Around} {E : Value → Shared → Prop} {s : Shared} {l : Addr} {its : Array Value} {Q : Value → Shared → Prop} (hl : s.heap.IsTuple l its)
    (h : ∀ s₂ : Shared, s₂ = { s with heap := s.heap.push { cls := .type "tuple_iterator", data := .fields #[.ref l, .int 0 0] } } →
      (s₂.heap.IsTupleIter s.heap.objs.size l 0 ∧ s₂.heap.IsTuple l its) → l ≠ s.heap.objs.size → l < s.heap.objs.size → Q (.ref s.heap.objs.size) s₂) : wpAny (model prog w) A (pyIter (.ref l)) Q E s := by
  have hlt : l < s.heap.objs.size := by obtain ⟨_, e, _⟩ := hl; exact Heap.lt_size e
  refine wpAny_pyIter_tuple hl (h _ rfl ⟨⟨_, Heap.get?_push_size _ rfl, rfl, rfl⟩, ?_⟩ (Nat.ne_of_lt hlt) hlt)
  obtain ⟨o, e, r⟩ := hl
  exact ⟨o, Heap.get?_push_of_some _ e, r⟩
theorem kept_of {s : Shared} {h' : Heap} {o : Obj} {l : List Addr} (hl : ∀ b ∈ l, b = s.heap.objs.size) (hk : ∀ b o', b ∉ l → (s.heap.push o).get? b = some o' → h'.get? b = some o') : ∀ b u, s.heap.get? b = some u → h'.get? b = some u := fun b u e =>
  hk b u (fun hm => by
    have := Heap.lt_size e
    rw [hl b hm] at this
    exact Nat.lt_irrefl _ this) (Heap.get?_push_of_some _ e)
theorem sum_tup {prog : Program} {w : World} {A : Around} {E : Value → Shared → Prop} {s : Shared} {l : Addr} {its : Array Value} {ns : List Int} {Q : Value → Shared → Prop} (hh : A.handled = none) (hl : s.heap.IsTuple l its) (hi : IntsAre its.toList ns)
    (h : ∀ h' tk t', (∀ b o, s.heap.get? b = some o → h'.get? b = some o) → Q (.int ns.sum t') { s with heap := h', toks := tk }) : wpAny (model prog w) A (call (.builtin "sum") [.ref l]) Q E s := by
  obtain ⟨xs, e⟩ := hi.allInts.items
  have hn : numsOf (intItems xs).toList = ns := by rw [← hi.numsOf]; congr 1; rw [← e]
  rw [nums_intItems] at hn
  have e' : its = intItems xs := by rw [← e]
  subst e'
  refine call_sum_walkG (iter_intTup hl fun s₂ e2 st hne hlt => ?_)
  subst e2
  refine ⟨_, _, _, _, _, _, numAt xs, rfl, Walks.tuple (A := A.in1) hh _ l hne (intItems xs), st, fun b hb => ?_, (fun _ _ => intItems_at), fun h' tk t' hk => ?_⟩
  · rw [Heap.size_push]
    rcases List.mem_cons.mp hb with rfl | hb
    · exact Nat.lt_succ_self _
    · have : b = l := by simpa using hb
      subst this
      exact Nat.lt_succ_of_lt hlt
  · have := h h' tk t' (kept_of (by simp) hk)
    rw [preSum_eq, List.take_of_length_le (by simp [intItems]), hn]
    exact this
theorem seqs_ints {pins : List (Addr × Obj)} {σ : L2.St} {H : Hp} {s : Shared} {a : Addr} {ns : List Int} (I : L2.Inv X pins σ H s) (h : SqT X.K H a (ns.map V.int)) : ∃ its : Array Value, s.heap.IsTuple a its ∧ IntsAre its.toList ns := by
  obtain ⟨its, rv, pl, _⟩ := I.tuple h
  exact ⟨its.toArray, pl, by simpa using rv.ints⟩
theorem cd_sum (hK : X.K = g.K) (hc : X.calm = true) : CallD X g E (.builtin "sum") sumD := by
  intro pins s σ H vs us Q I rv ⟨B, α, t, ds, hR, r, q⟩
  match ds, r, q with
  | [d], r, q =>
    obtain ⟨v, rfl, r1⟩ := r.one
    simp only [sumD] at q
    split at q
    · rename_i es hd
      split at q
      · rename_i ns hn
        obtain ⟨a, xs, rfl, h1, h2⟩ := seq_of hR r1 hd
        rw [toI_map hn] at h2
        rw [h2.ints] at h1
        have q' := q α H _ .refl hR (.int _)
        rcases h1 with h1 | h1
        · exact cr_sum hc pins s σ H _ us Q I rv ⟨a, ns, rfl, by rw [hK]; exact h1, q'⟩
        · rw [← hK] at h1
          obtain ⟨its, hl, hi⟩ := seqs_ints I h1
          rw [Vals.ref1 rv]
          exact sum_tup (I.ok.hd hc) hl hi fun h' tk t' hk => ⟨.int _, H, I.kept hk, ⟨_, rfl⟩, q'⟩
      · exact q.elim
    · exact q.elim
  | [], _, q => exact (show False from q).elim
  | a :: b :: r', _, q => exact (show False from by cases a <;> exact q).elim

theorem all_tup {prog : Program} {w : World} {A : Around} {E : Value → Shared → Prop} {s : Shared} {l : Addr} {its : List Value} {bs : List Bool} {Q : Value → Shared → Prop} (hh : A.handled = none) (hl : s.heap.IsTuple l its.toArray) (hb : its = bs.map Value.bool)
    (h : ∀ h' tk, (∀ b o, s.heap.get? b = some o → h'.get? b = some o) → Q (.bool (bs.all id)) { s with heap := h', toks := tk }) : wpAny (model prog w) A (call (.builtin "all") [.ref l]) Q E s := by
  refine call_all_walk (iter_intTup hl fun s₂ e2 st hne hlt => ?_)
  subst e2
  refine ⟨_, _, _, _, _, _, _, rfl, Walks.tuple (A := A.in1) hh _ l hne its.toArray, st, truth_bools hb, fun h' tk hk => ?_⟩
  have e : its.toArray.size = bs.length := by simp [hb]
  rw [e, L2.all_range]
  exact h h' tk (kept_of (by simp) hk)
theorem any_tup {prog : Program} {w : World} {A : Around} {E : Value → Shared → Prop} {s : Shared} {l : Addr} {its : List Value} {bs : List Bool} {Q : Value → Shared → Prop} (hh : A.handled = none) (hl : s.heap.IsTuple l its.toArray) (hb : its = bs.map Value.bool)
    (h : ∀ h' tk, (∀ b o, s.heap.get? b = some o → h'.get? b = some o) → Q (.bool (bs.any id)) { s with heap := h', toks := tk }) : wpAny (model prog w) A (call (.builtin "any") [.ref l]) Q E s := by
  refine call_any_walk (iter_intTup hl fun s₂ e2 st hne hlt => ?_)
  subst e2
  refine ⟨_, _, _, _, _, _, _, rfl, Walks.tuple (A := A.in1) hh _ l hne its.toArray, st, truth_bools hb, fun h' tk hk => ?_⟩
  have e : its.toArray.size = bs.length := by simp [hb]
  rw [e, L2.any_range]
  exact h h' tk (kept_of (by simp) hk)
theorem cd_all (hK : X.K = g.K) (hc : X.calm = true) : CallD X g E (.builtin "all") allD := by
  intro pins s σ H vs us Q I rv ⟨B, α, t, ds, hR, r, q⟩
  match ds, r, q with
  | [d], r, q =>
    obtain ⟨v, rfl, r1⟩ := r.one
    simp only [allD] at q
    split at q
    · rename_i es hd
      split at q
      · rename_i ns hn
        obtain ⟨a, xs, rfl, h1, h2⟩ := seq_of hR r1 hd
        rw [toB_map hn] at h2
        rw [h2.bools] at h1
        have q' := q α H _ .refl hR (.bl _)
        rcases h1 with h1 | h1
        · exact cr_all hc pins s σ H _ us Q I rv ⟨a, ns, rfl, by rw [hK]; exact h1, q'⟩
        · rw [← hK] at h1
          obtain ⟨its, rvs, pl, _⟩ := I.tuple h1
          rw [Vals.ref1 rv]
          exact all_tup (I.ok.hd hc) pl rvs.bls fun h' tk hk => ⟨.bl _, H, I.kept hk, rfl, q'⟩
      · exact q.elim
    · exact q.elim
  | [], _, q => exact (show False from q).elim
  | a :: b :: r', _, q => exact (show False from by cases a <;> exact q).elim
theorem cd_any (hK : X.K = g.K) (hc : X.calm = true) : CallD X g E (.builtin "any") anyD := by
  intro pins s σ H vs us Q I rv ⟨B, α, t, ds, hR, r, q⟩
  match ds, r, q with
  | [d], r, q =>
    obtain ⟨v, rfl, r1⟩ := r.one
    simp only [anyD] at q
    split at q
    · rename_i es hd
      split at q
      · rename_i ns hn
        obtain ⟨a, xs, rfl, h1, h2⟩ := seq_of hR r1 hd
        rw [toB_map hn] at h2
        rw [h2.bools] at h1
        have q' := q α H _ .refl hR (.bl _)
        rcases h1 with h1 | h1
        · exact cr_any hc pins s σ H _ us Q I rv ⟨a, ns, rfl, by rw [hK]; exact h1, q'⟩
        · rw [← hK] at h1
          obtain ⟨its, rvs, pl, _⟩ := I.tuple h1
          rw [Vals.ref1 rv]
          exact any_tup (I.ok.hd hc) pl rvs.bls fun h' tk hk => ⟨.bl _, H, I.kept hk, rfl, q'⟩
      · exact q.elim
    · exact q.elim
  | [], _, q => exact (show False from q).elim
  | a :: b :: r', _, q => exact (show False from by cases a <;> exact q).elim
/-- the least and the greatest of a list -/
theorem lmin_of {ns : List Int} {m m' : Int} (h : lmin ns = some m) (h1 : m' ∈ ns) (h2 : ∀ y ∈ ns, m' ≤ y) : m' = m := by
  cases ns with
  | nil => cases h
  | cons x r =>
    obtain rfl := Option.some.inj h
    have fm : ∀ (r : List Int) (x : Int), r.foldl min x ≤ x ∧ (∀ y ∈ r, r.foldl min x ≤ y) ∧ (r.foldl min x = x ∨ r.foldl min x ∈ r) := by
      intro r
      induction r with
      | nil => intro x; simp
      | cons y t ih =>
        intro x
        obtain ⟨i1, i2, i3⟩ := ih (min x y)
        rw [List.foldl_cons]
        refine ⟨by omega, fun z hz => ?_, ?_⟩
        · rcases List.mem_cons.mp hz with rfl | hz
          · omega
          · exact i2 z hz
        · rcases i3 with i3 | i3
          · by_cases q : x ≤ y
            · left; omega
            · right; rw [i3]; have : min x y = y := by omega
              rw [this]; exact List.mem_cons_self
          · right; exact List.mem_cons_of_mem _ i3
    obtain ⟨f1, f2, f3⟩ := fm r x
    have g1 : m' ≤ r.foldl min x := by
      rcases f3 with f3 | f3
      · rw [f3]; exact h2 x List.mem_cons_self
      · exact h2 _ (List.mem_cons_of_mem _ f3)
    have g2 : r.foldl min x ≤ m' := by
      rcases List.mem_cons.mp h1 with rfl | h1
      · exact f1
      · exact f2 _ h1
    omega
theorem lmax_of {ns : List Int} {m m' : Int} (h : lmax ns = some m) (h1 : m' ∈ ns) (h2 : ∀ y ∈ ns, y ≤ m') : m' = m := by
  cases ns with
  | nil => cases h
  | cons x r =>
    obtain rfl := Option.some.inj h
    have fm : ∀ (r : List Int) (x : Int), x ≤ r.foldl max x ∧ (∀ y ∈ r, y ≤ r.foldl max x) ∧ (r.foldl max x = x ∨ r.foldl max x ∈ r) := by
      intro r
      induction r with
      | nil => intro x; simp
      | cons y t ih =>
        intro x
        obtain ⟨i1, i2, i3⟩ := ih (max x y)
        rw [List.foldl_cons]
        refine ⟨by omega, fun z hz => ?_, ?_⟩
        · rcases List.mem_cons.mp hz with rfl | hz
          · omega
          · exact i2 z hz
        · rcases i3 with i3 | i3
          · by_cases q : y ≤ x
            · left; omega
            · right; rw [i3]; have : max x y = y := by omega
              rw [this]; exact List.mem_cons_self
          · right; exact List.mem_cons_of_mem _ i3
    obtain ⟨f1, f2, f3⟩ := fm r x
    have g1 : r.foldl max x ≤ m' := by
      rcases f3 with f3 | f3
      · rw [f3]; exact h2 x List.mem_cons_self
      · exact h2 _ (List.mem_cons_of_mem _ f3)
    have g2 : m' ≤ r.foldl max x := by
      rcases List.mem_cons.mp h1 with rfl | h1
      · exact f1
      · exact f2 _ h1
    omega
theorem min_tup {prog : Program} {w : World} {A : Around} {E : Value → Shared → Prop} {s : Shared} {l : Addr} {its : Array Value} {n : Int} {ns : List Int} {Q : Value → Shared → Prop} (hh : A.handled = none) (hu : A.units + 2 < cLine) (hl : s.heap.IsTuple l its) {as : List Addr} (hr : ReadsAll s.heap its.toList ((n :: ns).map PyData.int) as)
    (h : ∀ h' tk t', (∀ b o, s.heap.get? b = some o → h'.get? b = some o) → Q (.int (ns.foldl min n) t') { s with heap := h', toks := tk }) : wpAny (model prog w) A (call (.builtin "min") [.ref l]) Q E s := by
  have dz : ∀ l : List Int, PyData.depthAll (l.map PyData.int) = 0 := fun l => by
    induction l with
    | nil => simp [PyData.depthAll]
    | cons a r ih => rw [List.map_cons, PyData.depthAll, ih]; simp [PyData.depth]
  refine PySem.W.min_tuple_data hh hl hr ⟨fun x hx y hy => ?_, fun x hx e => ?_⟩ (by rw [show PyData.int n :: ns.map PyData.int = (n :: ns).map PyData.int from rfl, dz]; omega) fun i v h' tk bs hv rd hk => ?_
  · obtain ⟨a, _, rfl⟩ := List.mem_map.mp (show x ∈ (n :: ns).map PyData.int from hx)
    obtain ⟨b, _, rfl⟩ := List.mem_map.mp (show y ∈ (n :: ns).map PyData.int from hy)
    simp [PySem.W.alike]
  · subst e
    obtain ⟨a, _, e⟩ := List.mem_map.mp (show PyData.none ∈ (n :: ns).map PyData.int from hx)
    cases e
  · rw [PySem.W.minD_ints] at rd
    cases rd
    exact h h' tk _ hk
theorem max_tup {prog : Program} {w : World} {A : Around} {E : Value → Shared → Prop} {s : Shared} {l : Addr} {its : Array Value} {n : Int} {ns : List Int} {Q : Value → Shared → Prop} (hh : A.handled = none) (hu : A.units + 2 < cLine) (hl : s.heap.IsTuple l its) {as : List Addr} (hr : ReadsAll s.heap its.toList ((n :: ns).map PyData.int) as)
    (h : ∀ h' tk t', (∀ b o, s.heap.get? b = some o → h'.get? b = some o) → Q (.int (ns.foldl max n) t') { s with heap := h', toks := tk }) : wpAny (model prog w) A (call (.builtin "max") [.ref l]) Q E s := by
  have dz : ∀ l : List Int, PyData.depthAll (l.map PyData.int) = 0 := fun l => by
    induction l with
    | nil => simp [PyData.depthAll]
    | cons a r ih => rw [List.map_cons, PyData.depthAll, ih]; simp [PyData.depth]
  refine PySem.W.max_tuple_data hh hl hr ⟨fun x hx y hy => ?_, fun x hx e => ?_⟩ (by rw [show PyData.int n :: ns.map PyData.int = (n :: ns).map PyData.int from rfl, dz]; omega) fun i v h' tk bs hv rd hk => ?_
  · obtain ⟨a, _, rfl⟩ := List.mem_map.mp (show x ∈ (n :: ns).map PyData.int from hx)
    obtain ⟨b, _, rfl⟩ := List.mem_map.mp (show y ∈ (n :: ns).map PyData.int from hy)
    simp [PySem.W.alike]
  · subst e
    obtain ⟨a, _, e⟩ := List.mem_map.mp (show PyData.none ∈ (n :: ns).map PyData.int from hx)
    cases e
  · rw [PySem.W.maxD_ints] at rd
    cases rd
    exact h h' tk _ hk
theorem dpI {K : PySem.W.Frag} {H : Hp} : ∀ ns : List Int, DpAll K H (ns.map V.int) (ns.map PyData.int)
  | [] => .nil
  | n :: ns => .cons (.int n) (dpI ns)
theorem cd_min (hK : X.K = g.K) (hc : X.calm = true) (hu : X.A.units + 65 < cLine) : CallD X g E (.builtin "min") minD := by
  intro pins s σ H vs us Q I rv ⟨B, α, t, ds, hR, r, q⟩
  have one : ∀ d, RVs g.K α H vs [d] → PRes g E B α H (match seqOf t d with | some ds => (match (ds.mapM D.toI).bind lmin with | some m => .ok (.int m) t | none => .fail) | none => .fail) Q → wpAny (model X.prog X.w) X.A (call (.builtin "min") us) (EP X pins σ Q) X.xe s := fun d r q => by
    obtain ⟨v, rfl, r1⟩ := r.one
    split at q
    · rename_i es hd
      split at q
      · rename_i m hm
        obtain ⟨ns, hn, hm⟩ := Option.bind_eq_some_iff.mp hm
        obtain ⟨a, xs, rfl, h1, h2⟩ := seq_of hR r1 hd
        rw [toI_map hn] at h2
        rw [h2.ints] at h1
        have q' := q α H _ .refl hR (.int _)
        cases ns with
        | nil => cases hm
        | cons n ns =>
          rcases h1 with h1 | h1
          · exact cr_min hc pins s σ H _ us Q I rv ⟨a, n :: ns, rfl, by rw [hK]; exact h1, by simp, fun m' h3 h4 => by rw [lmin_of hm h3 h4]; exact q'⟩
          · rw [← hK] at h1
            obtain ⟨its, rvs, pl, _⟩ := I.tuple h1
            obtain ⟨as, rd⟩ := Dp.readsAll I _ _ _ (dpI (n :: ns)) rvs
            rw [Vals.ref1 rv]
            exact min_tup (I.ok.hd hc) (by omega) pl (by simpa using rd) fun h' tk t' hk => ⟨.int _, H, I.kept hk, ⟨_, rfl⟩, by obtain rfl := Option.some.inj hm; exact q'⟩
      · exact q.elim
    · exact q.elim
  match ds, r, q with
  | [d], r, q => exact one d r (by cases d <;> exact q)
  | [.int i, .int j], r, q =>
    obtain ⟨v, w, rfl, r1, r2⟩ := r.two
    cases r1
    cases r2
    exact call_min2 hc pins s σ H _ us Q I rv ⟨_, _, rfl, q α H _ .refl hR (.int _)⟩
  | [], _, q => exact (show False from q).elim
  | [.und, _], _, q | [.non, _], _, q | [.bl _, _], _, q | [.str _, _], _, q | [.tup _, _], _, q | [.frl _, _], _, q | [.ref _, _], _, q => exact (show False from q).elim
  | [.int _, .und], _, q | [.int _, .non], _, q | [.int _, .bl _], _, q | [.int _, .str _], _, q | [.int _, .tup _], _, q | [.int _, .frl _], _, q | [.int _, .ref _], _, q => exact (show False from q).elim
  | a :: b :: c :: r', _, q => exact (show False from by cases a <;> first | exact q | (cases b <;> exact q)).elim
theorem cd_max (hK : X.K = g.K) (hc : X.calm = true) (hu : X.A.units + 65 < cLine) : CallD X g E (.builtin "max") maxD := by
  intro pins s σ H vs us Q I rv ⟨B, α, t, ds, hR, r, q⟩
  have one : ∀ d, RVs g.K α H vs [d] → PRes g E B α H (match seqOf t d with | some ds => (match (ds.mapM D.toI).bind lmax with | some m => .ok (.int m) t | none => .fail) | none => .fail) Q → wpAny (model X.prog X.w) X.A (call (.builtin "max") us) (EP X pins σ Q) X.xe s := fun d r q => by
    obtain ⟨v, rfl, r1⟩ := r.one
    split at q
    · rename_i es hd
      split at q
      · rename_i m hm
        obtain ⟨ns, hn, hm⟩ := Option.bind_eq_some_iff.mp hm
        obtain ⟨a, xs, rfl, h1, h2⟩ := seq_of hR r1 hd
        rw [toI_map hn] at h2
        rw [h2.ints] at h1
        have q' := q α H _ .refl hR (.int _)
        cases ns with
        | nil => cases hm
        | cons n ns =>
          rcases h1 with h1 | h1
          · exact cr_max hc pins s σ H _ us Q I rv ⟨a, n :: ns, rfl, by rw [hK]; exact h1, by simp, fun m' h3 h4 => by rw [lmax_of hm h3 h4]; exact q'⟩
          · rw [← hK] at h1
            obtain ⟨its, rvs, pl, _⟩ := I.tuple h1
            obtain ⟨as, rd⟩ := Dp.readsAll I _ _ _ (dpI (n :: ns)) rvs
            rw [Vals.ref1 rv]
            exact max_tup (I.ok.hd hc) (by omega) pl (by simpa using rd) fun h' tk t' hk => ⟨.int _, H, I.kept hk, ⟨_, rfl⟩, by obtain rfl := Option.some.inj hm; exact q'⟩
      · exact q.elim
    · exact q.elim
  match ds, r, q with
  | [d], r, q => exact one d r (by cases d <;> exact q)
  | [.int i, .int j], r, q =>
    obtain ⟨v, w, rfl, r1, r2⟩ := r.two
    cases r1
    cases r2
    exact call_max2 hc pins s σ H _ us Q I rv ⟨_, _, rfl, q α H _ .refl hR (.int _)⟩
  | [], _, q => exact (show False from q).elim
  | [.und, _], _, q | [.non, _], _, q | [.bl _, _], _, q | [.str _, _], _, q | [.tup _, _], _, q | [.frl _, _], _, q | [.ref _, _], _, q => exact (show False from q).elim
  | [.int _, .und], _, q | [.int _, .non], _, q | [.int _, .bl _], _, q | [.int _, .str _], _, q | [.int _, .tup _], _, q | [.int _, .frl _], _, q | [.int _, .ref _], _, q => exact (show False from q).elim
  | a :: b :: c :: r', _, q => exact (show False from by cases a <;> first | exact q | (cases b <;> exact q)).elim
end
end Ev

set_option maxRecDepth 10000
namespace Ev
open PySem L2 PyProof.Rows

section
variable {X : Cx} {g : G} {E : XK} {k : Nat → List Nat → List D → S → Res} {e a b c : Expr} {ra rb rc : ES} {es : List Expr} {as : AS} {pos : Pos} {rest : List Expr}

/-! ### lists changed -/
theorem wok_yg {B : List Nat} {n : Nat} {v : D} (h : wok B n v = true) : ∀ b ∈ B, n < b → v.yg b = false := fun b hb hn => by
  have q := List.all_eq_true.mp h b hb
  rw [Bool.not_eq_true', Bool.and_eq_false_iff] at q
  rcases q with q | q
  · exact absurd hn (of_decide_eq_false q)
  · exact q
theorem woks_yg {B : List Nat} {n : Nat} {v : List D} (h : woks B n v = true) : ∀ b ∈ B, n < b → D.ygs b v = false := fun b hb hn => by
  have q := List.all_eq_true.mp h b hb
  rw [Bool.not_eq_true', Bool.and_eq_false_iff] at q
  rcases q with q | q
  · exact absurd hn (of_decide_eq_false q)
  · exact q
theorem ygs_iff {b : Nat} : ∀ {l : List D}, D.ygs b l = false ↔ ∀ d ∈ l, d.yg b = false
  | [] => by simp [D.ygs]
  | d :: r => by rw [ygs_cons, ygs_iff]; simp
/-- a list that stands at n is changed -/
theorem lst_chg {B : List Nat} {α : List Addr} {H : Hp} {s : S} {p : Addr} {n : Nat} {xs ys : List V} {ds es : List D} (hR : R g B α H s) (hn : α[n]? = some p) (ho : s[n]? = some (.lst ds)) (hp : H p = some (.lst xs)) (r : RVs g.K α H ys es)
    (hy : ∀ b ∈ B, n < b → D.ygs b ds = false → D.ygs b es = false) : Ext g.K α α H (upd H p (.lst ys)) ∧ R g B α (upd H p (.lst ys)) (s.set n (.lst es)) := by
  have e : Ext g.K α α H (upd H p (.lst ys)) := .chg (List.mem_of_getElem? hn) hp trivial
  exact ⟨e, hR.chg hn hp trivial (.lst upd_same (r.ext e)) fun b hb hlt => hy b hb hlt ((hR.blk b hb).2 n _ hlt ho)⟩
def MtD (X : Cx) (g : G) (E : XK) (id : String) (f : List Nat → D → List D → S → Res) : Prop := MtR X id fun x vs H Q => ∃ B α s d ds, R g B α H s ∧ RV g.K α H x d ∧ RVs g.K α H vs ds ∧ PRes g E B α H (f B d ds s) Q
theorem md_append : MtD X g E "list.append" mAppend := by
  intro pins s σ H x vs v us Q I rx rv ⟨B, α, t, d, ds, hR, r, rs, q⟩
  cases r with
  | @ref a n h1 =>
    match ds, rs, q with
    | [y], rs, q =>
      obtain ⟨w, rfl, r1⟩ := rs.one
      simp only [mAppend] at q
      split at q
      · rename_i es ho
        split at q
        · rename_i hl
          obtain ⟨a', e, ha, ro⟩ := hR.get (.ref h1) ho
          cases e
          cases ro with
          | lst h3 h4 =>
            obtain ⟨e1, R1⟩ := lst_chg hR h1 ho h3 (h4.append (.cons r1 .nil)) fun b hb hlt hy => ygs_iff.mpr fun z hz => by
              rcases List.mem_append.mp hz with hz | hz
              · exact ygs_iff.mp hy z hz
              · have : z = y := by simpa using hz
                subst this
                exact wok_yg hl.2 b hb hlt
            exact mt_append pins s σ H _ _ v us Q I rx rv ⟨a, _, w, rfl, rfl, h3, by rw [sizeLine_eq, h4.length]; exact hl.1, q α _ _ e1 R1 .non⟩
        · exact q.elim
      · exact q.elim
    | [], _, q => exact (show False from q).elim
    | _ :: _ :: _, _, q => exact (show False from q).elim
  | _ => exact (show False from by cases ds <;> exact q).elim
theorem extend_seq {X : Cx} {K : PySem.W.Frag} (hK : X.K = K) (hc : X.calm = true) : MtR X "list.extend" fun x vs H Q => ∃ l b xs zs, x = .ref l ∧ vs = [.ref b] ∧ H l = some (.lst xs) ∧ H b = some (.lst zs) ∧ xs.length + zs.length ≤ sizeLine ∧ Q .non (upd H l (.lst (xs ++ zs))) := mt_extend
theorem md_pop : MtD X g E "list.pop" mPop := by
  intro pins s σ H x vs v us Q I rx rv ⟨B, α, t, d, ds, hR, r, rs, q⟩
  cases r with
  | @ref a n h1 =>
    match ds, rs, q with
    | [], rs, q =>
      cases rs
      simp only [mPop] at q
      split at q
      · rename_i es ho
        obtain ⟨a', e, ha, ro⟩ := hR.get (.ref h1) ho
        cases e
        cases ro with
        | @lst xs _ h3 h4 =>
          split at q
          · exact q.elim
          · rename_i d _ hd
            obtain ⟨w, hw, rw'⟩ := h4.get hd
            have tk : RVs g.K α H xs.dropLast es.dropLast := by
              rw [List.dropLast_eq_take, List.dropLast_eq_take, h4.length]
              exact h4.take _
            obtain ⟨e1, R1⟩ := lst_chg hR h1 ho h3 tk fun b hb hlt hy => ygs_iff.mpr fun z hz => ygs_iff.mp hy z (List.dropLast_subset _ hz)
            exact mt_pop pins s σ H _ _ v us Q I rx rv ⟨a, _, w, rfl, rfl, h3, by rw [h4.length]; exact hw, q α _ _ e1 R1 (rw'.ext e1)⟩
          · exact q.elim
      · exact q.elim
    | _ :: _, _, q => exact (show False from q).elim
  | _ => exact (show False from by cases ds <;> exact q).elim
theorem isL_ty {B : List Nat} {α : List Addr} {H : Hp} {s : S} {x : V} {d : D} (hK : X.K = g.K) (hR : R g B α H s) (r : RV g.K α H x d) (h : isL d s = true) : tyV X.K "list" x H := by
  cases r with
  | @ref a n h1 =>
    simp only [isL] at h
    cases hd : lstOf s n with
    | none => rw [hd] at h; cases h
    | some ds =>
      obtain ⟨p, xs, e, _, _, h3, h4⟩ := lst_of hR (.ref h1) hd
      cases e
      exact .inl ⟨rfl, xs, .of h3⟩
  | _ => cases h
theorem se_mt {T id : String} {name : Str} {pre : D → S → Bool} {f : List Nat → D → List D → S → Res} {apos cpos : Pos} {o : Expr} (pa : PlainAttrs T) (slot : Slot T name id) (hty : typeOf (.builtin id) = pure (.type "method_descriptor")) (hm : MtD X g E id f)
    (hpre : ∀ B α H s x d, R g B α H s → RV g.K α H x d → pre d s = true → tyV X.K T x H) (ho : PE X o (tE g E k ra)) (ha : PA X (e :: es) (tA g E k as))
    (hbase : attributeBase o name X.env (eval o X.env) = eval o X.env)
    (hfew : ((backTo cpos (starEach (e :: es) X.env)).all (fun x => !x.1) && (backToKw cpos (keywordEach [] X.env)).all (fun x => x.1.isSome)
      && decide ((e :: es).length + ([] : List Keyword).length + (if ([] : List Keyword).isEmpty then 0 else 1) < 30)) = true)
    (hline : (apos.endLine == cpos.line) = true) (hs : starEach (e :: es) X.env = (false, eval e X.env) :: starEach es X.env) (hplain : (backTo cpos (starEach es X.env)).any (·.1) = false) :
    PE X (.Call (.Attribute o name apos) (e :: es) [] cpos) (tE g E k (eMt pre f ra as)) :=
  PE.imp (pe_bm pa slot hty hm ho ha hbase hfew hline hs hplain) fun σ H Q ⟨B, α, ρ, s, hR, hE, h⟩ => by
    refine ⟨B, α, ρ, s, hR, hE, (PRes.bnd h).imp fun v H1 ⟨α1, d, s1, e1, R1, r1, h1⟩ => ?_⟩
    split at h1
    · rename_i hp
      refine ⟨hpre B α1 H1 s1 v d R1 r1 hp, B, α1, ρ, s1, R1, hE.ext e1, (PRss.bnd h1).imp fun vs H2 ⟨α2, ds, s2, e2, R2, r2, h2⟩ => ⟨B, α2, s2, d, ds, R2, r1.ext e2, r2, h2⟩⟩
    · exact h1.elim
theorem se_mt0 {T id : String} {name : Str} {pre : D → S → Bool} {f : List Nat → D → List D → S → Res} {apos cpos : Pos} {o : Expr} (pa : PlainAttrs T) (slot : Slot T name id) (hty : typeOf (.builtin id) = pure (.type "method_descriptor")) (hm : MtD X g E id f)
    (hpre : ∀ B α H s x d, R g B α H s → RV g.K α H x d → pre d s = true → tyV X.K T x H) (ho : PE X o (tE g E k ra)) (hbase : attributeBase o name X.env (eval o X.env) = eval o X.env) (hline : (apos.endLine == cpos.line) = true) :
    PE X (.Call (.Attribute o name apos) [] [] cpos) (tE g E k (eMt pre f ra aNil)) :=
  PE.imp (pe_bm0 pa slot hty hm ho hbase hline) fun σ H Q ⟨B, α, ρ, s, hR, hE, h⟩ => by
    refine ⟨B, α, ρ, s, hR, hE, (PRes.bnd h).imp fun v H1 ⟨α1, d, s1, e1, R1, r1, h1⟩ => ?_⟩
    split at h1
    · rename_i hp
      exact ⟨hpre B α1 H1 s1 v d R1 r1 hp, B, α1, s1, d, [], R1, r1, .nil, h1⟩
    · exact h1.elim

/-! ### targets -/
def TgD (X : Cx) (g : G) (E : XK) (k : Nat → List Nat → List D → S → Res) (t : TS) : TG := fun v σ H Q => ∃ B α ρ s d, R g B α H s ∧ RE g.K α H σ ρ ∧ RV g.K α H v d ∧ POut g E B α H (t ⟨k, B⟩ d ρ s) { nx := Q, rt := fun _ _ => False }
def TgsD (X : Cx) (g : G) (E : XK) (k : Nat → List Nat → List D → S → Res) (t : TSs) : TGs := fun vs σ H Q => ∃ B α ρ s ds, R g B α H s ∧ RE g.K α H σ ρ ∧ RVs g.K α H vs ds ∧ POut g E B α H (t ⟨k, B⟩ ds ρ s) { nx := Q, rt := fun _ _ => False }
theorem PG.imp {tg : Expr} {t t' : TG} (h : PG X tg t) (i : ∀ v σ H Q, t' v σ H Q → t v σ H Q) : PG X tg t' := ⟨fun pins s σ H v u Q I r q => h.run pins s σ H v u Q I r (i v σ H Q q)⟩
theorem PGs.imp {tg : List Expr} {t t' : TGs} (h : PGs X tg t) (i : ∀ v σ H Q, t' v σ H Q → t v σ H Q) : PGs X tg t' := ⟨fun pins s σ H v u Q I r q => h.run pins s σ H v u Q I r (i v σ H Q q)⟩
theorem sg_name {i : Nat} {x : Str} (hN : X.N.Nodup) (hi : X.N[i]? = some x) (hx : Loc X.env.scope x) (hf : X.fn x = true ∨ X.env.scope.names.lookup x = some .local) (hl : ∀ pins σ H s, L2.Inv X pins σ H s → σ.length = X.N.length := fun _ _ _ _ I => I.len) : PG X (.Name x pos) (TgD X g E k (tName i)) := by
  refine ⟨fun pins s σ H v u Q I r ⟨B, α, ρ, t, d, hR, hE, rv, q⟩ => ?_⟩
  refine (pg_name hN hi hx hf).run pins s σ H v u Q I r ?_
  exact q α H _ .refl hR (hE.set rv (by rw [I.len]; exact (List.getElem?_eq_some_iff.mp hi).1))
theorem sgs_nil : PGs X [] (TgsD X g E k tsNil) := PGs.imp pgs_nil fun vs σ H Q ⟨B, α, ρ, s, ds, hR, hE, rv, q⟩ => by
  cases rv with
  | nil => exact ⟨rfl, q α H σ .refl hR hE⟩
  | cons _ _ => exact (show False from q).elim
theorem sgs_cons {es : List Expr} {t : TS} {u : TSs} (h1 : PG X e (TgD X g E k t)) (h2 : PGs X es (TgsD X g E k u)) (hs : (assignEach (e :: es) X.env).map (·.2) = assign e X.env :: (assignEach es X.env).map (·.2)) : PGs X (e :: es) (TgsD X g E k (tsCons t u)) :=
  PGs.imp (pgs_cons h1 h2 hs) fun vs σ H Q ⟨B, α, ρ, s, ds, hR, hE, rv, q⟩ => by
    cases rv with
    | nil => exact (show False from q).elim
    | @cons v d vr dr r rr =>
      refine ⟨v, vr, rfl, B, α, ρ, s, d, hR, hE, r, ?_⟩
      have q' : POut g E B α H ((t ⟨k, B⟩ d ρ s).bnd fun ρ s => u ⟨k, B⟩ dr ρ s) { nx := Q, rt := fun _ _ => False } := q
      have q2 := Out.bnd_P q'
      cases hz : t ⟨k, B⟩ d ρ s with
      | nx ρ' s' =>
        rw [hz] at q2
        intro α1 H1 σ1 e1 R1 E1
        obtain ⟨α2, ρ2, s2, e2, R2, E2, h3⟩ := q2 α1 H1 σ1 e1 R1 E1
        exact ⟨B, α2, ρ2, s2, dr, R2, E2, rr.ext e2, h3⟩
      | rt d s => rw [hz] at q2; exact q2
      | bk ρ s => rw [hz] at q2; exact q2
      | ct ρ s => rw [hz] at q2; exact q2
      | exc c s => rw [hz] at q2; exact q2
      | fail => rw [hz] at q2; exact q2
theorem sg_tup (hK : X.K = g.K) {j : Nat} {n : Nat} {u : TSs} (hc : X.calm = true) (h : PGs X es (TgsD X g E k u)) (hn : (assignEach es X.env).length = n) (hst : (assignEach es X.env).findIdx? (·.1) = none) : PG X (.Tuple es j pos) (TgD X g E k (tTup n u)) := by
  refine ⟨fun pins s σ H v w Q I r ⟨B, α, ρ, t, d, hR, hE, rv, q⟩ => ?_⟩
  simp only [tTup] at q
  split at q
  · rename_i ds hd
    split at q
    · rename_i hl
      obtain ⟨a, xs, rfl, h1, h2⟩ := seq_of hR rv hd
      rcases h1 with h1 | h1
      · exact (pg_lst hc h hn hst).run pins s σ H _ w Q I r ⟨a, xs, rfl, by rw [hK]; exact h1, by rw [h2.length]; exact hl, B, α, ρ, t, ds, hR, hE, h2, q⟩
      · exact (pg_tup hc h hn hst).run pins s σ H _ w Q I r ⟨a, xs, rfl, by rw [hK]; exact h1, by rw [h2.length]; exact hl, B, α, ρ, t, ds, hR, hE, h2, q⟩
    · exact q.elim
  · exact q.elim
theorem ixN_lt {n : Nat} {i : Int} {j : Nat} (h : ixN n i = some j) : j < n := (ixN_seq h).2.1
theorem RKs.put {K : PySem.W.Frag} {α : List Addr} {H : Hp} (k : Key) {v : V} {d : D} (r : RV K α H v d) {xs : List (Key × V)} {kvs : List (D × D)} (h : RKs K α H xs kvs) : RKs K α H (putK xs k v) (dput kvs (kD k) d) := by
  have any : ∀ {xs : List (Key × V)} {kvs : List (D × D)}, RKs K α H xs kvs → (kvs.any fun kv => keq kv.1 (kD k)) = (xs.any fun kv => decide (kv.1 = k)) := by
    intro xs kvs h
    induction h with
    | nil => rfl
    | cons _ _ ih => rw [List.any_cons, List.any_cons, ih]; show (keq (kD _) _ || _) = _; rw [keq_kD]
  have map : ∀ {xs : List (Key × V)} {kvs : List (D × D)}, RKs K α H xs kvs → RKs K α H (xs.map fun kv => if kv.1 = k then (kv.1, v) else kv) (kvs.map fun kv => if keq kv.1 (kD k) = true then (kv.1, d) else kv) := by
    intro xs kvs h
    induction h with
    | nil => exact .nil
    | @cons j w e xs kvs r1 _ ih =>
      rw [List.map_cons, List.map_cons]
      by_cases hj : j = k
      · have e1 : keq (kD j) (kD k) = true := by rw [keq_kD, decide_eq_true hj]
        dsimp only
        rw [if_pos hj, if_pos e1]
        exact .cons r ih
      · have e1 : ¬ keq (kD j) (kD k) = true := by rw [keq_kD, decide_eq_false hj]; exact Bool.false_ne_true
        dsimp only
        rw [if_neg hj, if_neg e1]
        exact .cons r1 ih
  have app : ∀ {xs : List (Key × V)} {kvs : List (D × D)}, RKs K α H xs kvs → RKs K α H (xs ++ [(k, v)]) (kvs ++ [(kD k, d)]) := by
    intro xs kvs h
    induction h with
    | nil => exact .cons r .nil
    | cons r1 _ ih => exact .cons r1 ih
  unfold putK dput
  rw [any h]
  split
  · exact map h
  · exact app h
theorem ygs_dput {b : Nat} {k v : D} {kvs : List (D × D)} (h : D.ygs b (kvs.map (·.2)) = false) (hv : v.yg b = false) : D.ygs b ((dput kvs k v).map (·.2)) = false := by
  rw [ygs_iff] at h ⊢
  intro z hz
  obtain ⟨⟨p, q⟩, hp, rfl⟩ := List.mem_map.mp hz
  unfold dput at hp
  split at hp
  · obtain ⟨⟨p', q'⟩, hp', e⟩ := List.mem_map.mp hp
    split at e
    · cases e; exact hv
    · cases e; exact h _ (List.mem_map.mpr ⟨_, hp', rfl⟩)
  · rcases List.mem_append.mp hp with hp | hp
    · exact h _ (List.mem_map.mpr ⟨_, hp, rfl⟩)
    · cases List.mem_singleton.mp hp; exact hv
theorem dct_chg {B : List Nat} {α : List Addr} {H : Hp} {s : S} {p : Addr} {n : Nat} {xs ys : List (Key × V)} {kvs es : List (D × D)} (hR : R g B α H s) (hn : α[n]? = some p) (ho : s[n]? = some (.dct kvs)) (hp : H p = some (.dK xs)) (r : RKs g.K α H ys es)
    (hy : ∀ b ∈ B, n < b → D.ygs b (kvs.map (·.2)) = false → D.ygs b (es.map (·.2)) = false) : Ext g.K α α H (upd H p (.dK ys)) ∧ R g B α (upd H p (.dK ys)) (s.set n (.dct es)) := by
  have e : Ext g.K α α H (upd H p (.dK ys)) := .chg (List.mem_of_getElem? hn) hp trivial
  exact ⟨e, hR.chg hn hp trivial (.dct upd_same (r.ext e)) fun b hb hlt => hy b hb hlt ((hR.blk b hb).2 n _ hlt ho)⟩
theorem set_lst (hu : X.A.units + 65 < cLine) : PSet X fun o i v H Q => ∃ B α s d1 d2 d3, R g B α H s ∧ RV g.K α H o d1 ∧ RV g.K α H i d2 ∧ RV g.K α H v d3 ∧ ∃ s', setIx B d1 d2 d3 s = some s' ∧ ∀ (H' : Hp), Ext g.K α α H H' → R g B α H' s' → Q H' := by
  intro pins s σ H o i v ov iv u Q I ro ri rv ⟨B, α, t, d1, d2, d3, hR, r1, r2, r3, s', hs, q⟩
  have key : ∀ (k : Key) (n : Nat) (a : Addr), o = .ref a → i = kV k → α[n]? = some a → ∀ kvs, t[n]? = some (.dct kvs) → setK B n (kD k) d3 kvs t = some s' → L2.RelV v u → wpAny (model X.prog X.w) X.A (setItem ov iv u) (fun x s' => ∃ H', L2.Inv X pins σ H' s' ∧ Q H') X.xe s := by
    intro k n a eo ei h1 kvs ho hs rv
    subst eo ei
    unfold setK at hs
    split at hs
    · rename_i hw
      cases hs
      obtain ⟨a', e, ha, ro'⟩ := hR.get (.ref h1) ho
      cases e
      cases ro' with
      | dct h3 h4 =>
        obtain ⟨e1, R1⟩ := dct_chg hR h1 ho h3 (h4.put k r3) fun b hb hlt hy => ygs_dput hy (wok_yg hw.1 b hb hlt)
        exact set_dict (X := X) (by omega) pins s σ H _ _ _ ov iv u Q I ro ri rv ⟨a, _, rfl, .inl ⟨_, k, h3, rfl, by rw [h4.length, sizeLine_eq]; exact hw.2, rfl⟩, q _ e1 R1⟩
    · cases hs
  cases r1 <;> try (simp [setIx] at hs; done)
  case ref a n h1 =>
    cases r2 <;> try (simp [setIx] at hs; done)
    case int j =>
      simp only [setIx] at hs
      split at hs
      · rename_i ds ho
        split at hs
        · rename_i m hm
          split at hs
          · rename_i hw
            cases hs
            obtain ⟨a', e, ha, ro'⟩ := hR.get (.ref h1) ho
            cases e
            cases ro' with
            | lst h3 h4 =>
              obtain ⟨e1, R1⟩ := lst_chg hR h1 ho h3 (h4.set r3 m) fun b hb hlt hy => ygs_iff.mpr fun z hz => by
                rcases List.mem_or_eq_of_mem_set hz with hz | hz
                · exact ygs_iff.mp hy z hz
                · subst hz
                  exact wok_yg hw b hb hlt
              exact set_list pins s σ H _ _ _ ov iv u Q I ro ri rv ⟨a, _, _, m, rfl, rfl, h3, by rw [h4.length]; exact hm, q _ e1 R1⟩
          · cases hs
        · cases hs
      · rename_i kvs ho
        exact key (.inl j) n a rfl rfl h1 kvs ho hs rv
      · cases hs
    case str z =>
      simp only [setIx] at hs
      split at hs
      · rename_i kvs ho
        exact key (.inr z) n a rfl rfl h1 kvs ho hs rv
      · cases hs
end
end Ev

set_option maxRecDepth 10000
namespace Ev
open PySem L2 PyProof.Rows

/-! ### extend by a tuple -/
open AutoSeq1 in
theorem ext_tup (l : Addr) (items : Array Value) (n : Nat) (b : Addr) (items2 : Array Value) (n2 : Nat) (dd2 : Option Addr) (sl2 : Array (Option Value)) (hs0 : ¬(!items.isEmpty && Builtin.List.listTooLong (items.size + items2.size)) = true) (hs1 : items.size ≤ sizeLine) (hs2 : items.size + items2.size ≤ sizeLine + 1) :
    Meets (Builtin.«list.extend» ⟨[.ref l, .ref b], []⟩) (fun _ R s => s.heap.get? l = some { cls := .type "list", dict := none, data := .seq items n, slots := #[] } ∧
      s.heap.get? b = some { cls := .type "tuple", dict := dd2, data := .seq items2 n2, slots := sl2 } ∧ R (.ok (.ret Value.none)) { s with heap := s.heap.update l (Obj.mapSeq fun x => x ++ items2), toks := s.toks }) :=
  .of_wp fun prog w A R s h => by
    obtain ⟨hp, g, d, tk, os⟩ := s
    obtain ⟨hl, hb, h⟩ := h
    have f2 := AutoSeq1.sub_tuple_tuple
    have f3 := AutoSeq1.sub_list_list
    have f4 := AutoSeq1.sub_tuple_list
    have f5 := AutoSeq1.sub_list_tuple
    have hz' : (items ++ items2).size ≤ sizeLine + 1 := by rw [Array.size_append]; exact hs2
    wp_walk using (wpAny_updateSeq hl rfl (hz := hs1) (_hz' := hz')), wpAny_loadPart' hl, wpAny_loadPart' hb
    exact ⟨_, rfl, h⟩

section
variable {X : Cx} {g : G} {E : XK} {k : Nat → List Nat → List D → S → Res} {e a b c : Expr} {ra rb rc : ES} {es : List Expr} {as : AS} {pos : Pos} {rest : List Expr}

theorem mt_extendT : MtR X "list.extend" fun x vs H Q => ∃ l b xs zs, x = .ref l ∧ vs = [.ref b] ∧ H l = some (.lst xs) ∧ SqT X.K H b zs ∧ xs.length + zs.length ≤ sizeLine ∧ Q .non (upd H l (.lst (xs ++ zs))) := by
  intro pins s σ H x xs v us Q I rx rv h
  obtain ⟨l, b, xs, zs, rfl, rfl, hH, hB, hz, q⟩ := h
  cases rx
  cases rv with
  | cons ru rt =>
    cases rt
    cases ru
    obtain ⟨z, its, n, r, hl, e⟩ := I.lstM hH
    obtain ⟨its2, r2, ⟨⟨cls, dd, data, sl⟩, ho, hcls, n2, hd⟩, hl2⟩ := I.tuple hB
    simp only at hcls hd
    subst hcls hd
    have l1 := r.length
    have l2 := r2.length
    have hsz : its.toArray.size + its2.toArray.size ≤ sizeLine := by rw [List.size_toArray, List.size_toArray]; omega
    have hlong : ¬ (!its.toArray.isEmpty && Builtin.List.listTooLong (its.toArray.size + its2.toArray.size)) = true := by
      rw [notLongL hsz, Bool.and_false]
      exact Bool.false_ne_true
    refine call_meets F.slot_list_extend ⟨_, e, rfl⟩ F.entry_list_extend (F.args_list_extend_2 _ _)
      (ext_tup l its.toArray n b its2.toArray n2 dd sl hlong (by rw [List.size_toArray]; omega) (by omega)) ⟨e, ho, ?_⟩
    refine ⟨.non, _, I.lset (its' := its ++ its2) hH e (by simp) (r.append r2) ?_, rfl, q⟩
    rw [List.length_append]
    omega
theorem extL_ok {B : List Nat} {α : List Addr} {H : Hp} {s : S} {n : Nat} {a : Addr} {zs : List V} {fs : List D} {Q : VK} (hR : R g B α H s) (h1 : α[n]? = some a) (h5 : RVs g.K α H zs fs) (q : PRes g E B α H (extL B n fs s) Q) :
    ∃ xs, H a = some (.lst xs) ∧ xs.length + zs.length ≤ sizeLine ∧ Q .non (upd H a (.lst (xs ++ zs))) := by
  simp only [extL] at q
  split at q
  · rename_i ds ho
    split at q
    · rename_i hl
      obtain ⟨a', e, ha, ro⟩ := hR.get (.ref h1) ho
      cases e
      cases ro with
      | @lst xs _ h3 h4 =>
        obtain ⟨e1, R1⟩ := lst_chg hR h1 ho h3 (h4.append h5) fun b hb hlt hy => ygs_iff.mpr fun z hz => by
          rcases List.mem_append.mp hz with hz | hz
          · exact ygs_iff.mp hy z hz
          · exact ygs_iff.mp (woks_yg hl.2 b hb hlt) z hz
        exact ⟨xs, h3, by rw [sizeLine_eq, h4.length, h5.length]; exact hl.1, q α _ _ e1 R1 .non⟩
    · exact q.elim
  · exact q.elim
theorem md_extend (hK : X.K = g.K) : MtD X g E "list.extend" mExtend := by
  intro pins s σ H x vs v us Q I rx rv ⟨B, α, t, d, ds, hR, r, rs, q⟩
  cases r with
  | @ref a n h1 =>
    match ds, rs, q with
    | [y], rs, q =>
      obtain ⟨w, rfl, r1⟩ := rs.one
      cases r1 with
      | tup h6 h7 =>
        obtain ⟨xs, h3, hl, q⟩ := extL_ok hR h1 h7 q
        exact mt_extendT pins s σ H _ _ v us Q I rx rv ⟨a, _, _, _, rfl, rfl, h3, by rw [hK]; exact h6, hl, q⟩
      | @ref b m h6 =>
        simp only [mExtend] at q
        split at q
        · rename_i es he
          obtain ⟨p, zs, ep, _, _, h7, h8⟩ := lst_of hR (.ref h6) he
          cases ep
          obtain ⟨xs, h3, hl, q⟩ := extL_ok hR h1 h8 q
          exact mt_extend pins s σ H _ _ v us Q I rx rv ⟨a, _, _, _, rfl, rfl, h3, h7, hl, q⟩
        · exact q.elim
      | _ => exact (show False from q).elim
    | [], _, q => exact (show False from q).elim
    | y :: _ :: _, _, q => exact (show False from by cases y <;> exact q).elim
  | _ => exact (show False from by cases ds <;> exact q).elim

/-! ### statements -/
theorem ss_nil : PSs X [] (tSS g E k sNil) := PSs.imp pss_nil fun σ H Dd ⟨B, α, ρ, s, hR, hE, h⟩ => h α H σ .refl hR hE
theorem ss_cons {st : Stmt} {sts : List Stmt} {r1 r2 : SS} (h1 : PS X st (tSS g E k r1)) (h2 : PSs X sts (tSS g E k r2)) : PSs X (st :: sts) (tSS g E k (sSeq r1 r2)) :=
  PSs.imp (pss_cons h1 h2) fun σ H Dd ⟨B, α, ρ, s, hR, hE, h⟩ => by
    refine ⟨B, α, ρ, s, hR, hE, ?_⟩
    have q := Out.bnd_P h
    cases hz : r1 ⟨k, B⟩ ρ s with
    | nx ρ' s' =>
      rw [hz] at q
      intro α1 H1 σ1 e1 R1 E1
      obtain ⟨α2, ρ2, s2, e2, R2, E2, h3⟩ := q α1 H1 σ1 e1 R1 E1
      exact ⟨B, α2, ρ2, s2, R2, E2, h3⟩
    | rt d s => rw [hz] at q; exact q
    | bk ρ s => rw [hz] at q; exact q
    | ct ρ s => rw [hz] at q; exact q
    | exc c s => rw [hz] at q; exact q
    | fail => rw [hz] at q; exact q
theorem ss_expr (he : PE X e (tE g E k ra)) (hs : swapsWith e none pos.line X.env = pure false) : PS X (.Expr e pos) (tSS g E k (sExpr ra)) :=
  PS.imp (ps_expr he hs) fun σ H Dd ⟨B, α, ρ, s, hR, hE, h⟩ => ⟨B, α, ρ, s, hR, hE, (PRes.bndS h).imp fun v H1 ⟨α1, d, s1, e1, R1, r1, h1⟩ => h1 α1 H1 σ .refl R1 (hE.ext e1)⟩
theorem ss_ret (he : PE X e (tE g E k ra)) : PS X (.Return (some e) pos) (tSS g E k (sRet ra)) :=
  PS.imp (ps_ret he) fun σ H Dd ⟨B, α, ρ, s, hR, hE, h⟩ => ⟨B, α, ρ, s, hR, hE, (PRes.bndS h).imp fun v H1 ⟨α1, d, s1, e1, R1, r1, h1⟩ => h1 α1 H1 v .refl R1 r1⟩
theorem ss_retN : PS X (.Return none pos) (tSS g E k sRetN) := PS.imp ps_retN fun σ H Dd ⟨B, α, ρ, s, hR, hE, h⟩ => h α H .non .refl hR .non
theorem ss_if {sa sb : List Stmt} {r1 r2 : SS} (hc : PT X c (tT g E k rc)) (ha : PSs X sa (tSS g E k r1)) (hb : PSs X sb (tSS g E k r2)) : PS X (.If c sa sb pos) (tSS g E k (sIf rc r1 r2)) :=
  PS.imp (ps_if hc ha hb) fun σ H Dd ⟨B, α, ρ, s, hR, hE, h⟩ => by
    refine ⟨B, α, ρ, s, hR, hE, (tst_bndS h).imp fun z H1 ⟨α1, s1, e1, R1, h1⟩ => ?_⟩
    cases z with
    | true => exact ⟨B, α1, ρ, s1, R1, hE.ext e1, h1⟩
    | false => exact ⟨B, α1, ρ, s1, R1, hE.ext e1, h1⟩
theorem ss_pass : PS X (.Pass pos) (tSS g E k sNil) := PS.imp ps_pass fun σ H Dd ⟨B, α, ρ, s, hR, hE, h⟩ => h α H σ .refl hR hE
theorem ss_break : PS X (.Break pos) (tSS g E k sBrk) := PS.imp ps_break fun σ H Dd ⟨B, α, ρ, s, hR, hE, h⟩ => h α H σ .refl hR hE
theorem ss_continue : PS X (.Continue pos) (tSS g E k sCnt) := PS.imp ps_continue fun σ H Dd ⟨B, α, ρ, s, hR, hE, h⟩ => h α H σ .refl hR hE
theorem ss_set {i : Nat} {x : Str} {pos' : Pos} (hN : X.N.Nodup) (hi : X.N[i]? = some x) (hx : Loc X.env.scope x) (he : PE X e (tE g E k ra)) (hs : swapsWith e (some (.Name x pos')) pos.line X.env = pure false) (hf : X.fn x = true ∨ X.env.scope.names.lookup x = some .local) :
    PS X (.Assign [.Name x pos'] e pos) (tSS g E k (sSet i ra)) := by
  refine ⟨fun pins s σ H Dd I ⟨B, α, ρ, t, hR, hE, h⟩ => ?_⟩
  refine (ps_set hN hi hx he hs hf).run pins s σ H Dd I ⟨B, α, ρ, t, hR, hE, (PRes.bndS h).imp fun v H1 ⟨α1, d, s1, e1, R1, r1, h1⟩ => ?_⟩
  exact h1 α1 H1 _ .refl R1 ((hE.ext e1).set r1 (by rw [I.len]; exact (List.getElem?_eq_some_iff.mp hi).1))
theorem ss_asg {tg : Expr} {t : TS} (he : PE X e (tE g E k ra)) (hg : PG X tg (TgD X g E k t)) (ht : ∀ c d ρ s, (∃ ρ' s', t c d ρ s = .nx ρ' s') ∨ t c d ρ s = .fail ∨ ∃ z s', t c d ρ s = .exc z s') (hs : swapsWithSole [tg] e pos.line X.env = pure false) (hw : swappedStores [tg] e X.env = pure none)
    (h1 : (assignEach [tg] X.env).map (·.2) = [assign tg X.env]) : PS X (.Assign [tg] e pos) (tSS g E k (sAsg ra t)) :=
  PS.imp (ps_asg he hg hs hw h1) fun σ H Dd ⟨B, α, ρ, s, hR, hE, h⟩ => ⟨B, α, ρ, s, hR, hE, (PRes.bndS h).imp fun v H1 ⟨α1, d, s1, e1, R1, r1, h1⟩ => by
    refine ⟨B, α1, ρ, s1, d, R1, hE.ext e1, r1, ?_⟩
    rcases ht ⟨k, B⟩ d ρ s1 with ⟨ρ', s', e2⟩ | e2 | ⟨z, s', e2⟩
    · rw [e2] at h1 ⊢; exact h1
    · rw [e2] at h1; exact h1.elim
    · rw [e2] at h1 ⊢; exact h1⟩
end
end Ev

set_option maxRecDepth 100000
namespace Ev
open PySem L2 PyProof.Rows
open Sem (wp)
open AutoSeq1 (wpAny_loadPart')

/-! ### enumerate of a tuple -/
theorem en_new (l : Addr) (items : Array Value) (n : Nat) (dct : Option Addr) (sl : Array (Option Value)) :
    Meets (Builtin.«enumerate.__new__» ⟨[.type "enumerate", .ref l], []⟩) (fun _ R s => s.heap.get? l = some { cls := .type "tuple", dict := dct, data := .seq items n, slots := sl } ∧
      R (.ok (.ret (.ref (s.heap.push { cls := .type "tuple_iterator", data := .fields #[.ref l, .int 0 0] }).objs.size)))
        { s with heap := (s.heap.push { cls := .type "tuple_iterator", data := .fields #[.ref l, .int 0 0] }).push { cls := .type "enumerate", data := .fields #[.none, .bool false, .ref s.heap.objs.size, rawInt 0, .none, .none] } }) :=
  .of_wp fun prog w A R s h => by
    obtain ⟨hp, g, d, tk, os⟩ := s; obtain ⟨hl, h⟩ := h
    have hsub := sub_enumerate
    have hL : Heap.IsTuple (Shared.heap ⟨hp, g, d, tk, os⟩) l items := ⟨_, hl, rfl, n, rfl⟩
    wp_walk using wpAny_loadPart' hl
    refine wpAny_stack_any fun st => wpAny_pure ?_
    split
    · rename_i c _ _ _ _ _
      cases (c == Value.type "enumerate")
      · wp_walk using wpAny_loadPart' hl, wpAny_pyIter_tuple hL
        exact ⟨_, rfl, h⟩
      · wp_walk using wpAny_loadPart' hl, wpAny_pyIter_tuple hL
        exact ⟨_, rfl, h⟩
    · wp_walk using wpAny_loadPart' hl, wpAny_pyIter_tuple hL
      exact ⟨_, rfl, h⟩
theorem en_call {prog : Program} {w : World} {A : Around} {E : Value → Shared → Prop} {s : Shared} {l : Addr} {items : Array Value} {Q : Value → Shared → Prop} (hL : s.heap.IsTuple l items)
    (h : ∀ h', IsEnum h' (s.heap.objs.size + 1) s.heap.objs.size 0 .none → h'.IsTupleIter s.heap.objs.size l 0 → h'.objs.size = s.heap.objs.size + 2 →
      (∀ b o, s.heap.get? b = some o → h'.get? b = some o) → Q (.ref (s.heap.objs.size + 1)) { s with heap := h' }) :
    wpAny (model prog w) A (call (.type "enumerate") [.ref l]) Q E s := by
  obtain ⟨⟨c, dct, dt, sl⟩, hl, hc, n, hd⟩ := hL
  replace hc : c = .type "tuple" := hc
  replace hd : dt = .seq items n := hd
  subst hc hd
  refine callType_new F.called_enumerate (by decide) (F.typeCall_enumerate_1 _) (F.newCall_enumerate_1 _) (fun obj => F.args_object_init_2 obj _) F.entry_enumerate_new
    (en_new l items n dct sl) ⟨hl, ?_⟩
  have hz : (s.heap.push { cls := .type "tuple_iterator", data := .fields #[.ref l, .int 0 0] }).objs.size = s.heap.objs.size + 1 := Heap.size_push ..
  show _ ∧ _
  rw [hz]
  have he : IsEnum ((s.heap.push { cls := .type "tuple_iterator", data := .fields #[.ref l, .int 0 0] }).push
      { cls := .type "enumerate", data := .fields #[.none, .bool false, .ref s.heap.objs.size, rawInt 0, .none, .none] }) (s.heap.objs.size + 1) s.heap.objs.size 0 .none := by
    have := Heap.get?_push_size (s.heap.push { cls := .type "tuple_iterator", data := .fields #[.ref l, .int 0 0] })
      (o := { cls := .type "enumerate", data := .fields #[.none, .bool false, .ref s.heap.objs.size, rawInt 0, .none, .none] }) rfl
    rw [hz] at this; exact this
  refine ⟨⟨_, he, rfl⟩, h _ he ⟨_, Heap.get?_push_of_some _ (Heap.get?_push_size _ rfl), rfl, rfl⟩ (by rw [Heap.size_push, hz]) fun b o x => Heap.get?_push_of_some _ (Heap.get?_push_of_some _ x)⟩
/-- the tuple at a, each item in a new pair -/
def EnT (K : PySem.W.Frag) (a : Addr) : It :=
  ⟨fun i H => ∃ (xs : List V) (x : V), SqT K H a xs ∧ xs[i]? = some x, fun i H v H' => ∃ T x, v = .ref T ∧ H T = none ∧ H' = upd H T (.tup [.int (i : Nat), x]) ∧ ∀ xs, SqT K H a xs → xs[i]? = some x, fun i H => ∃ xs : List V, SqT K H a xs ∧ xs.length = i⟩
theorem turn_enT {P : Program} {w : World} {K : PySem.W.Frag} {elts : List Expr} {kk : Nat} {tpos : Pos} (a e it : Addr) :
    Turn P w K (.Tuple elts kk tpos) (EnT K a) [e, it] e (fun i h => (∃ old, IsEnum h e it ((i : Nat) : Int) old) ∧ h.IsTupleIter it a i ∧ e ≠ it) where
  mem := by simp
  obj := fun i h st b hb => by
    obtain ⟨⟨old, he⟩, ⟨o, ho, hc, hd⟩, _⟩ := st
    have e' : b = e ∨ b = it := by simpa using hb
    rcases e' with z | z
    · rw [z]; exact ⟨_, he, fun v q => nomatch q⟩
    · rw [z]; exact ⟨o, ho, fun v q => by rw [hd] at q; cases q⟩
  keep := fun i h h' st k => let ⟨⟨old, he⟩, hi, hne⟩ := st; ⟨⟨old, k e (by simp) _ he⟩, hi.at fun o q => k it (by simp) o q, hne⟩
  item := by
    intro X hP hw hK hc i pins s σ H E I hf st hg
    subst hP hw hK
    obtain ⟨⟨old, he⟩, hit, hne⟩ := st
    obtain ⟨xs, x, hq, hx⟩ := hg
    obtain ⟨its, rv, p, hz⟩ := I.tuple hq
    obtain ⟨u, hu, ru⟩ := rv.get hx
    have hT : s.heap.IsTuple a its.toArray := p
    have hat : a ≠ it := fun z => by
      obtain ⟨o, ho, hc, _⟩ := hT
      obtain ⟨o', ho', hc', _⟩ := hit
      rw [z] at ho; rw [ho] at ho'; cases ho'; rw [hc] at hc'; exact absurd (Value.type.inj hc') (by decide)
    have hae : e ≠ a := fun z => by
      obtain ⟨o, ho, hc, _⟩ := hT
      have he2 := he
      unfold IsEnum at he2
      rw [z, ho] at he2
      have h3 := congrArg Obj.cls (Option.some.inj he2)
      rw [hc] at h3
      exact absurd (Value.type.inj h3) (by decide)
    have hel : e < s.heap.objs.size := Heap.lt_size he
    have hil : it < s.heap.objs.size := by obtain ⟨_, q, _⟩ := hit; exact Heap.lt_size q
    have hil2 : i < its.toArray.size := by
      have := (List.getElem?_eq_some_iff.mp hu).1
      simpa using this
    refine wpAny_pyNext_enum_itemD (Draws.tuple (A := X.A.in1) (I.ok.hd hc) it a hat its.toArray) he ⟨hit, hT⟩ hil2 hne (by simp [hne, hae]) fun x' h' tk hP ho hit' hT hsz hk => ?_
    obtain rfl : u = x' := by
      have : its[i]? = some x' := by simpa using hP
      rw [hu] at this; cases this; rfl
    refine ⟨_, rfl, wpAny_letOwnedTupleGo_enum (s := { s with heap := h', toks := tk + 1 }) ho fun h'' he' sb => ?_⟩
    have hT2 : h''.get? s.heap.objs.size = some { cls := .type "tuple", data := .seq #[.int i tk, u] } := (sb.2 _ (Nat.ne_of_gt hel)).trans hT
    have new : ObjOk X.prog X.w (upd H s.heap.objs.size (.tup [.int (i : Nat), x])) h'' s.heap.objs.size (.tup [.int (i : Nat), x]) :=
      ⟨by show 2 ≤ sizeLine; decide, [.int i tk, u], .cons ⟨_, rfl⟩ (.cons ru .nil), ⟨_, hT2, rfl, _, rfl⟩⟩
    have I1 : Inv X pins σ (upd H s.heap.objs.size (.tup [.int (i : Nat), x])) { s with heap := h'', toks := tk + 1 } :=
      I.turnedNew (ch := [e, it]) (fun b ob hb q => (sb.2 b (fun z => hb (by simp [z]))).trans (hk b ob (fun z => hb (by simp [z])) (fun z => hb (by simp [z])) q)) hf (Nat.le_refl _) new
    refine ⟨.ref s.heap.objs.size, _, I1, rfl, ⟨_, x, rfl, I.hok.fresh (Nat.le_refl _), rfl, fun ys hy => by rw [I.tuple_inj hy hq]; exact hx⟩, ⟨⟨u, ?_⟩, hit'.1.at fun o q => (sb.2 it (Ne.symm hne)).trans q, hne⟩, fun b hb => ?_⟩
    · have e1 : ((i + 1 : Nat) : Int) = (i : Int) + 1 := by omega
      rw [e1]; exact he'
    · have hb' : b < s.heap.objs.size := by
        have e' : b = e ∨ b = it := by simpa using hb
        rcases e' with z | z
        · rw [z]; exact hel
        · rw [z]; exact hil
      rw [upd_ne (Nat.ne_of_lt hb')]
      exact (hf b hb).1
  done := by
    intro X hP hw hK hc i pins s σ H E I hf st hg
    subst hP hw hK
    obtain ⟨⟨old, he⟩, hit, hne⟩ := st
    obtain ⟨xs, hq, hx⟩ := hg
    obtain ⟨its, rv, p, hz⟩ := I.tuple hq
    have hT : s.heap.IsTuple a its.toArray := p
    have hat : a ≠ it := fun z => by
      obtain ⟨o, ho, hc, _⟩ := hT
      obtain ⟨o', ho', hc', _⟩ := hit
      rw [z] at ho; rw [ho] at ho'; cases ho'; rw [hc] at hc'; exact absurd (Value.type.inj hc') (by decide)
    obtain ⟨f0, f1, f2, f3, f4, f5⟩ := hf it (by simp)
    have hl : its.toArray.size = i := by have := rv.length; simp; omega
    exact wpAny_pyNext_enum_endD (Draws.tuple (A := X.A.in1) (I.ok.hd hc) it a hat its.toArray) he ⟨by rw [hl]; exact hit, hT⟩ fun h' eb => ⟨rfl, I.turned (t' := s.toks) (fun b o hb q => eb b o hb q) f0 f1 f3 f4 f5⟩
  self := fun A i s Q E st h => let ⟨⟨_, he⟩, _⟩ := st; wpAny_pyIter_enum he h
def iEnX (K : PySem.W.Frag) (ta : TA) : TI := fun σ H R => ta σ H fun vs H1 => ∃ a xs, vs = [.ref a] ∧ ((SqL K H1 a xs ∧ R (Ite K a) H1) ∨ (SqT K H1 a xs ∧ R (EnT K a) H1))
theorem pi_enX {X : Cx} {e : Expr} {ta : TA} {p pos tpos : Pos} {elts : List Expr} {kk : Nat} (hg : Gl X "enumerate") (hm : X.mg "enumerate" = none) (ha : PA X [e] ta) (hs : starEach [e] X.env = [(false, eval e X.env)] := by rfl) :
    PI X (.Tuple elts kk tpos) (.Call (.Name "enumerate" p) [e] [] pos) (iEnX X.K ta) := by
  refine ⟨fun pins s σ H R I h => ?_⟩
  refine Call_ (ld_blt I hg hm boot_enumerate (PyProof.Rows.callWith_type1 (thn (ha.run pos pins s σ H _ I h) fun us s1 ⟨vs, H1, I1, r1, q1⟩ => ?_) hs rfl))
  obtain ⟨a, xs, ex, hq⟩ := q1
  subst ex
  cases r1 with
  | cons r rr =>
    cases rr
    cases r
    have fr : ∀ h' : Heap, ∀ b ∈ [s1.heap.objs.size + 1, s1.heap.objs.size], s1.heap.objs.size ≤ b := fun h' b hb => by
      have e' : b = s1.heap.objs.size + 1 ∨ b = s1.heap.objs.size := by simpa using hb
      rcases e' with z | z
      · rw [z]; exact Nat.le_add_right _ _
      · rw [z]; exact Nat.le_refl _
    rcases hq with ⟨hq, q⟩ | ⟨hq, q⟩
    · obtain ⟨its, rv, p', hz⟩ := I1.list hq
      refine call_enumerate_list p'.isList fun h' he hit hsz hk => wpAny_pyIter_enum he ?_
      have I2 : Inv X pins σ H1 { s1 with heap := h' } := I1.kept (t' := s1.toks) hk
      exact ⟨s1.heap.objs.size + 1, [s1.heap.objs.size + 1, s1.heap.objs.size], _, _, H1, rfl, I2, turn_enum a (s1.heap.objs.size + 1) s1.heap.objs.size, ⟨⟨.none, he⟩, hit, Nat.succ_ne_self _⟩, fun b hb => I1.fpOk (fr h' b hb) (I1.hok.fresh (fr h' b hb)), q⟩
    · obtain ⟨its, rv, p', hz⟩ := I1.tuple hq
      refine en_call (items := its.toArray) p' fun h' he hit hsz hk => wpAny_pyIter_enum he ?_
      have I2 : Inv X pins σ H1 { s1 with heap := h' } := I1.kept (t' := s1.toks) hk
      exact ⟨s1.heap.objs.size + 1, [s1.heap.objs.size + 1, s1.heap.objs.size], _, _, H1, rfl, I2, turn_enT a (s1.heap.objs.size + 1) s1.heap.objs.size, ⟨⟨.none, he⟩, hit, Nat.succ_ne_self _⟩, fun b hb => I1.fpOk (fr h' b hb) (I1.hok.fresh (fr h' b hb)), q⟩
end Ev

set_option maxRecDepth 10000
namespace Ev
open PySem L2 PyProof.Rows

/-! ### a target comes to its end or not, and leaves no loop -/
def TOk (t : TS) : Prop := ∀ c d ρ s, (∃ ρ' s', t c d ρ s = .nx ρ' s') ∨ t c d ρ s = .fail ∨ ∃ z s', t c d ρ s = .exc z s'
def TsOk (t : TSs) : Prop := ∀ c d ρ s, (∃ ρ' s', t c d ρ s = .nx ρ' s') ∨ t c d ρ s = .fail ∨ ∃ z s', t c d ρ s = .exc z s'
theorem tok_name {i : Nat} : TOk (tName i) := fun _ _ _ _ => .inl ⟨_, _, rfl⟩
theorem tsok_nil : TsOk tsNil := fun c d ρ s => by
  cases d
  · exact .inl ⟨_, _, rfl⟩
  · exact .inr (.inl rfl)
theorem tsok_cons {t : TS} {u : TSs} (h : TOk t) (h2 : TsOk u) : TsOk (tsCons t u) := fun c d ρ s => by
  cases d with
  | nil => exact .inr (.inl rfl)
  | cons x r =>
    show (∃ ρ' s', (t c x ρ s).bnd _ = _) ∨ (t c x ρ s).bnd _ = _ ∨ ∃ z s', (t c x ρ s).bnd _ = _
    rcases h c x ρ s with ⟨ρ', s', e⟩ | e | ⟨z, s', e⟩
    · rw [e]; exact h2 c r ρ' s'
    · rw [e]; exact .inr (.inl rfl)
    · rw [e]; exact .inr (.inr ⟨z, s', rfl⟩)
theorem tok_tup {n : Nat} {u : TSs} (h : TsOk u) : TOk (tTup n u) := fun c d ρ s => by
  unfold tTup
  split
  · split
    · exact h c _ ρ s
    · exact .inr (.inl rfl)
  · exact .inr (.inl rfl)
theorem tok_sub {o i : ES} : TOk (tSub o i) := fun c d ρ s => by
  unfold tSub
  cases o c ρ s with
  | fail => exact .inr (.inl rfl)
  | exc z t => exact .inr (.inr ⟨z, t, rfl⟩)
  | ok a s1 =>
    show (∃ ρ' s', (i c ρ s1).bndS _ = _) ∨ (i c ρ s1).bndS _ = _ ∨ ∃ z s', (i c ρ s1).bndS _ = _
    cases i c ρ s1 with
    | fail => exact .inr (.inl rfl)
    | exc z t => exact .inr (.inr ⟨z, t, rfl⟩)
    | ok b s2 =>
      show (∃ ρ' s', (match setIx c.B a b d s2 with | some s => Out.nx ρ s | none => .fail) = _) ∨ (match setIx c.B a b d s2 with | some s => Out.nx ρ s | none => .fail) = _ ∨ ∃ z s', (match setIx c.B a b d s2 with | some s => Out.nx ρ s | none => .fail) = _
      cases setIx c.B a b d s2 with
      | none => exact .inr (.inl rfl)
      | some s3 => exact .inl ⟨_, _, rfl⟩

/-! ### walks -/
theorem gOk_some {n : Nat} {ds : List D} {s : S} (h : gOk (some (n, ds)) s = true) : s[n]? = some (.lst ds) := by
  simp only [gOk] at h
  split at h
  · rename_i es he
    rw [he, D.beqs_eq _ _ h]
  · cases h
structure WalkD (g : G) (J : It) (ds : List D) (gd : Option (Nat × List D)) (α0 : List Addr) (H0 : Hp) : Prop where
  goes : ∀ (i : Nat) (B : List Nat) (α : List Addr) (H : Hp) (s : S), i < ds.length → Ext g.K α0 α H0 H → R g B α H s → gOk gd s = true → J.go i H
  stops : ∀ (B : List Nat) (α : List Addr) (H : Hp) (s : S), Ext g.K α0 α H0 H → R g B α H s → gOk gd s = true → J.stop ds.length H
  yields : ∀ (i : Nat) (B : List Nat) (α : List Addr) (H : Hp) (s : S) (x : V) (H' : Hp), i < ds.length → Ext g.K α0 α H0 H → R g B α H s → gOk gd s = true → J.yld i H x H' →
    R g B α H' s ∧ Ext g.K α α H H' ∧ ∃ d, ds[i]? = some d ∧ RV g.K α H' x d
def PItm (g : G) (E : XK) (B : List Nat) (α : List Addr) (H : Hp) (r : Itm) (Q : It → Hp → Prop) : Prop := match r with
  | .ok ds gd s => ∀ (α' : List Addr) (H' : Hp) (J : It), Ext g.K α α' H H' → R g B α' H' s → WalkD g J ds gd α' H' → gOk gd s = true → Q J H'
  | .exc c s => PExc g E B α H c s
  | .fail => False
def tI (g : G) (E : XK) (k : Nat → List Nat → List D → S → Res) (w : IS) : TI := fun σ H Q => ∃ B α ρ s, R g B α H s ∧ RE g.K α H σ ρ ∧ PItm g E B α H (w ⟨k, B⟩ ρ s) Q
theorem PI.imp {X : Cx} {tg iter : Expr} {t t' : TI} (h : PI X tg iter t) (i : ∀ σ H Q, t' σ H Q → t σ H Q) : PI X tg iter t' := ⟨fun pins s σ H Q I q => h.run pins s σ H Q I (i σ H Q q)⟩

section
variable {g : G} {E : XK} {B : List Nat} {α α' : List Addr} {H H' : Hp}
theorem PItm.ext : ∀ {r : Itm} {Q : It → Hp → Prop}, PItm g E B α H r Q → Ext g.K α α' H H' → PItm g E B α' H' r Q
  | .ok _ _ _, _, h, e => fun a h' J e' r rv hg => h a h' J (e.trans e') r rv hg
  | .exc _ _, _, h, e => PExc.ext h e
  | .fail, _, h, _ => h
theorem PItm.imp : ∀ {r : Itm} {Q Q' : It → Hp → Prop}, PItm g E B α H r Q → (∀ v H', Q v H' → Q' v H') → PItm g E B α H r Q'
  | .ok _ _ _, _, _, h, i => fun a h' J e r rv hg => i J h' (h a h' J e r rv hg)
  | .exc _ _, _, _, h, _ => h
  | .fail, _, _, h, _ => h
theorem PRes.bndI {f : D → S → Itm} : ∀ {r : Res} {Q : It → Hp → Prop}, PItm g E B α H (r.bndI f) Q → PRes g E B α H r fun v H1 => ∃ α1 d s, Ext g.K α α1 H H1 ∧ R g B α1 H1 s ∧ RV g.K α1 H1 v d ∧ PItm g E B α1 H1 (f d s) Q
  | .ok _ _, _, h => fun _ _ _ e r rv => ⟨_, _, _, e, r, rv, PItm.ext h e⟩
  | .exc _ _, _, h => h
  | .fail, _, h => h
theorem PRss.bndI {f : List D → S → Itm} : ∀ {r : Rss} {Q : It → Hp → Prop}, PItm g E B α H (r.bndI f) Q → PRss g E B α H r fun v H1 => ∃ α1 d s, Ext g.K α α1 H H1 ∧ R g B α1 H1 s ∧ RVs g.K α1 H1 v d ∧ PItm g E B α1 H1 (f d s) Q
  | .ok _ _, _, h => fun _ _ _ e r rv => ⟨_, _, _, e, r, rv, PItm.ext h e⟩
  | .exc _ _, _, h => h
  | .fail, _, h => h
theorem walkD_lst {a : Addr} {n : Nat} {ds : List D} (h1 : α[n]? = some a) : WalkD g (Itl g.K a) ds (some (n, ds)) α H := by
  have key : ∀ (B : List Nat) (α1 : List Addr) (H1 : Hp) (s : S), Ext g.K α α1 H H1 → R g B α1 H1 s → gOk (some (n, ds)) s = true → ∃ xs, SqL g.K H1 a xs ∧ RVs g.K α1 H1 xs ds := fun B α1 H1 s e r hg => by
    have ro := r.obj n a _ (e.pre n a h1) (gOk_some hg)
    cases ro with
    | lst h3 h4 => exact ⟨_, .of h3, h4⟩
  refine ⟨fun i B α1 H1 s hi e r hg => ?_, fun B α1 H1 s e r hg => ?_, fun i B α1 H1 s x H' hi e r hg y => ?_⟩
  · obtain ⟨xs, q, rv⟩ := key B α1 H1 s e r hg
    exact walk_list.goes i H1 (by rw [rv.length]; exact hi) q
  · obtain ⟨xs, q, rv⟩ := key B α1 H1 s e r hg
    have z := (walk_list (K := g.K) (a := a) (xs := xs)).stops H1 q
    rw [rv.length] at z
    exact z
  · obtain ⟨xs, q, rv⟩ := key B α1 H1 s e r hg
    obtain ⟨e1, y1⟩ := walk_list.yields i H1 x H' (by rw [rv.length]; exact hi) q y
    subst e1
    exact ⟨r, .refl, rv.getV y1⟩
theorem walkD_frl {a : Addr} {xs : List V} {ds : List D} (h1 : FzL g.K H a xs) (h2 : RVs g.K α H xs ds) : WalkD g (Itl g.K a) ds none α H := by
  refine ⟨fun i B α1 H1 s hi e r hg => ?_, fun B α1 H1 s e r hg => ?_, fun i B α1 H1 s x H' hi e r hg y => ?_⟩
  · exact walk_list.goes i H1 (by rw [h2.length]; exact hi) (e.frl _ _ h1).sq
  · have z := (walk_list (K := g.K) (a := a) (xs := xs)).stops H1 (e.frl _ _ h1).sq
    rw [h2.length] at z
    exact z
  · obtain ⟨e1, y1⟩ := walk_list.yields i H1 x H' (by rw [h2.length]; exact hi) (e.frl _ _ h1).sq y
    subst e1
    exact ⟨r, .refl, (h2.ext e).getV y1⟩
theorem walkD_tup {a : Addr} {xs : List V} {ds : List D} (h1 : SqT g.K H a xs) (h2 : RVs g.K α H xs ds) : WalkD g (Itt g.K a) ds none α H := by
  refine ⟨fun i B α1 H1 s hi e r hg => ?_, fun B α1 H1 s e r hg => ?_, fun i B α1 H1 s x H' hi e r hg y => ?_⟩
  · exact walk_tup.goes i H1 (by rw [h2.length]; exact hi) (e.tup _ _ h1)
  · have z := (walk_tup (K := g.K) (a := a) (xs := xs)).stops H1 (e.tup _ _ h1)
    rw [h2.length] at z
    exact z
  · obtain ⟨e1, y1⟩ := walk_tup.yields i H1 x H' (by rw [h2.length]; exact hi) (e.tup _ _ h1) y
    subst e1
    exact ⟨r, .refl, (h2.ext e).getV y1⟩
theorem walkD_fn {J : It} {n : Nat} {f : Nat → Int} (w : Walk J n (fun _ => True) (YFn fun i => .int (f i))) : WalkD g J ((List.range n).map fun i => .int (f i)) none α H := by
  have hl : ((List.range n).map fun i => D.int (f i)).length = n := by simp
  refine ⟨fun i B α1 H1 s hi e r hg => w.goes i H1 (by omega) trivial, fun B α1 H1 s e r hg => by rw [hl]; exact w.stops H1 trivial, fun i B α1 H1 s x H' hi e r hg y => ?_⟩
  obtain ⟨e1, e2⟩ := w.yields i H1 x H' (by omega) trivial y
  subst e1 e2
  rw [hl] at hi
  exact ⟨r, .refl, .int (f i), by simp [hi], .int _⟩
end

section
variable {X : Cx} {g : G} {E : XK} {k : Nat → List Nat → List D → S → Res} {e a b c : Expr} {ra rb rc : ES} {es : List Expr} {as : AS} {pos p : Pos} {tg : Expr}
/-- a list or a tuple is walked -/
theorem pi_sq {l : Expr} {tl : TE} (hl : PE X l tl) : PI X tg l (fun σ H Q => tl σ H fun x H1 => ∃ a, x = .ref a ∧ ((∃ xs, SqL X.K H1 a xs ∧ Q (Itl X.K a) H1) ∨ ∃ xs, SqT X.K H1 a xs ∧ Q (Itt X.K a) H1)) := by
  refine ⟨fun pins s σ H Q I h => thn (hl.run pins s σ H _ I h) fun v s1 ⟨x, H1, I1, r1, a, ea, q1⟩ => ?_⟩
  subst ea
  cases r1
  have fr : ∀ b ∈ [s1.heap.objs.size], FpOk X pins H1 b := fun b hb => by
    rw [List.mem_singleton.mp hb]
    exact I1.fpOk (Nat.le_refl _) (I1.hok.fresh (Nat.le_refl _))
  rcases q1 with ⟨xs, hq, q⟩ | ⟨xs, hq, q⟩
  · obtain ⟨its, _, p, _⟩ := I1.list hq
    exact wpAny_pyIter_list p.isList ⟨_, [s1.heap.objs.size], _, _, H1, rfl, I1.kept (t' := s1.toks) fun _ _ z => Heap.get?_push_of_some _ z, turn_list a _, ⟨_, Heap.get?_push_size _ rfl, rfl, rfl⟩, fr, q⟩
  · obtain ⟨its, _, p, _⟩ := I1.tuple hq
    exact wpAny_pyIter_tuple (show s1.heap.IsTuple a its.toArray from p) ⟨_, [s1.heap.objs.size], _, _, H1, rfl, I1.kept (t' := s1.toks) fun _ _ z => Heap.get?_push_of_some _ z, turn_tuple a _, ⟨_, Heap.get?_push_size _ rfl, rfl, rfl⟩, fr, q⟩
theorem si_seq (hK : X.K = g.K) (ha : PE X a (tE g E k ra)) : PI X tg a (tI g E k (iSeq ra)) :=
  PI.imp (pi_sq ha) fun σ H Q ⟨B, α, ρ, s, hR, hE, h⟩ => by
    refine ⟨B, α, ρ, s, hR, hE, (PRes.bndI h).imp fun v H1 ⟨α1, d, s1, e1, R1, r1, h1⟩ => ?_⟩
    rw [hK]
    cases r1 with
    | @tup a xs ds h2 h3 => exact ⟨a, rfl, .inr ⟨xs, h2, h1 α1 H1 _ .refl R1 (walkD_tup h2 h3) rfl⟩⟩
    | @frl a xs ds h2 h3 => exact ⟨a, rfl, .inl ⟨xs, h2.sq, h1 α1 H1 _ .refl R1 (walkD_frl h2 h3) rfl⟩⟩
    | @ref a n h2 =>
      dsimp only at h1
      split at h1
      · rename_i ds hl
        obtain ⟨p, xs, ep, hn, ho, hp, _⟩ := lst_of R1 (.ref h2) hl
        cases ep
        refine ⟨a, rfl, .inl ⟨xs, .of hp, h1 α1 H1 _ .refl R1 (walkD_lst h2) ?_⟩⟩
        simp only [gOk]
        rw [ho]
        exact D.beqs_self ds
      · exact h1.elim
    | _ => exact (show False from h1).elim
theorem RVs.ints1 {K : PySem.W.Frag} {α : List Addr} {H : Hp} {vs : List V} {i : Int} (r : RVs K α H vs [.int i]) : vs = [.int i] := by
  cases r with
  | cons r t =>
    cases t
    cases r
    rfl
theorem RVs.ints2 {K : PySem.W.Frag} {α : List Addr} {H : Hp} {vs : List V} {i j : Int} (r : RVs K α H vs [.int i, .int j]) : vs = [.int i, .int j] := by
  cases r with
  | cons r t =>
    cases r
    rw [t.ints1]
theorem RVs.ints3 {K : PySem.W.Frag} {α : List Addr} {H : Hp} {vs : List V} {i j l : Int} (r : RVs K α H vs [.int i, .int j, .int l]) : vs = [.int i, .int j, .int l] := by
  cases r with
  | cons r t =>
    cases r
    rw [t.ints2]
theorem small62_iff {i : Int} (h : small62 i = true) : -(2 ^ 62) ≤ i ∧ i < 2 ^ 62 := of_decide_eq_true h
theorem rng_of {σ : L2.St} {H : Hp} {Q : It → Hp → Prop} {f : List D → S → Itm} (h : tI g E k (fun c ρ s => (as c ρ s).bndI f) σ H Q) :
    tA g E k as σ H fun vs H1 => ∃ B α s ds, R g B α H1 s ∧ RVs g.K α H1 vs ds ∧ PItm g E B α H1 (f ds s) Q := by
  obtain ⟨B, α, ρ, s, hR, hE, h⟩ := h
  exact ⟨B, α, ρ, s, hR, hE, (PRss.bndI h).imp fun vs H1 ⟨α1, ds, s1, e1, R1, r1, h1⟩ => ⟨B, α1, s1, ds, R1, r1, h1⟩⟩
theorem tA.imp {σ : L2.St} {H : Hp} {Q Q' : List V → Hp → Prop} (h : tA g E k as σ H Q) (i : ∀ v H', Q v H' → Q' v H') : tA g E k as σ H Q' := by
  obtain ⟨B, α, ρ, s, hR, hE, h⟩ := h
  exact ⟨B, α, ρ, s, hR, hE, h.imp i⟩
theorem si_r1 (hg : Gl X "range") (hm : X.mg "range" = none) (ha : PA X [a] (tA g E k as)) (hs : starEach [a] X.env = [(false, eval a X.env)]) :
    PI X tg (.Call (.Name "range" p) [a] [] pos) (tI g E k (iR1 as)) :=
  PI.imp (pi_range1 hg hm ha hs) fun σ H Q h => tA.imp (rng_of h) fun vs H1 ⟨B, α, s, ds, R1, r1, h1⟩ => by
    split at h1
    · split at h1
      · rename_i j hj
        obtain ⟨h2, h3⟩ := small62_iff hj
        exact ⟨j, r1.ints1, h2, h3, h1 α H1 _ .refl R1 (walkD_fn walk_range) rfl⟩
      · exact h1.elim
    · exact h1.elim
theorem si_r2 (hg : Gl X "range") (hm : X.mg "range" = none) (ha : PA X [a, b] (tA g E k as)) (hs : starEach [a, b] X.env = [(false, eval a X.env), (false, eval b X.env)]) (hs2 : starEach [b] X.env = [(false, eval b X.env)]) :
    PI X tg (.Call (.Name "range" p) [a, b] [] pos) (tI g E k (iR2 as)) :=
  PI.imp (pi_range2 hg hm ha hs hs2) fun σ H Q h => tA.imp (rng_of h) fun vs H1 ⟨B, α, s, ds, R1, r1, h1⟩ => by
    split at h1
    · split at h1
      · rename_i i j hj
        rw [Bool.and_eq_true] at hj
        obtain ⟨h2, h3⟩ := small62_iff hj.1
        obtain ⟨h4, h5⟩ := small62_iff hj.2
        exact ⟨i, j, r1.ints2, ⟨h2, h3, h4, h5⟩, h1 α H1 _ .refl R1 (walkD_fn walk_range) rfl⟩
      · exact h1.elim
    · exact h1.elim
theorem si_r3 (hg : Gl X "range") (hm : X.mg "range" = none) (ha : PA X [a, b, c] (tA g E k as)) (hs : starEach [a, b, c] X.env = (false, eval a X.env) :: starEach [b, c] X.env) (hpl : (backTo pos (starEach [b, c] X.env)).any (·.1) = false) :
    PI X tg (.Call (.Name "range" p) [a, b, c] [] pos) (tI g E k (iR3 as)) :=
  PI.imp (pi_range3 hg hm ha hs hpl) fun σ H Q h => tA.imp (rng_of h) fun vs H1 ⟨B, α, s, ds, R1, r1, h1⟩ => by
    split at h1
    · split at h1
      · rename_i i j l hj
        obtain ⟨h6, hi, hj⟩ := hj
        subst h6
        obtain ⟨h2, h3⟩ := small62_iff hi
        obtain ⟨h4, h5⟩ := small62_iff hj
        exact ⟨i, j, -1, (i - j).toNat, r1.ints3, .neg h2 h3 h4 h5, h1 α H1 _ .refl R1 (walkD_fn walk_rangeC) rfl⟩
      · exact h1.elim
    · exact h1.elim

/-! ### enumerate -/
theorem enumD_len (ds : List D) : (enumD ds).length = ds.length := by simp [enumD]
theorem enumD_get {ds : List D} {i : Nat} {d : D} (h : ds[i]? = some d) : (enumD ds)[i]? = some (.tup [.int (i : Nat), d]) := by
  have hi : i < ds.length := (List.getElem?_eq_some_iff.mp h).1
  have hd : ds[i] = d := (List.getElem?_eq_some_iff.mp h).2
  simp [enumD, List.getElem?_zipWith, hi, hd]
theorem yld_enum {B : List Nat} {α : List Addr} {H H' : Hp} {s : S} {x : V} {i : Nat} {xs : List V} {ds : List D} (r : R g B α H s) (rv : RVs g.K α H xs ds) (y : YPair (fun i => some (.int (i : Nat))) (fun i => xs[i]?) i H x H') :
    R g B α H' s ∧ Ext g.K α α H H' ∧ ∃ d, (enumD ds)[i]? = some d ∧ RV g.K α H' x d := by
  obtain ⟨T, z, w, rfl, hT, rfl, h3, h4⟩ := y
  cases h3
  obtain ⟨d, hd, rd⟩ := rv.getV h4
  have e : Ext g.K α α H (upd H T (.tup [.int (i : Nat), w])) := .newT hT
  exact ⟨r.newT hT, e, _, enumD_get hd, .tup (.of upd_same) (.cons (.int _) (.cons (rd.ext e) .nil))⟩
theorem walkD_enum {α : List Addr} {H : Hp} {a : Addr} {n : Nat} {ds : List D} (h1 : α[n]? = some a) : WalkD g (Ite g.K a) (enumD ds) (some (n, ds)) α H := by
  have key : ∀ (B : List Nat) (α1 : List Addr) (H1 : Hp) (s : S), Ext g.K α α1 H H1 → R g B α1 H1 s → gOk (some (n, ds)) s = true → ∃ xs, SqL g.K H1 a xs ∧ RVs g.K α1 H1 xs ds := fun B α1 H1 s e r hg => by
    have ro := r.obj n a _ (e.pre n a h1) (gOk_some hg)
    cases ro with
    | lst h3 h4 => exact ⟨_, .of h3, h4⟩
  refine ⟨fun i B α1 H1 s hi e r hg => ?_, fun B α1 H1 s e r hg => ?_, fun i B α1 H1 s x H' hi e r hg y => ?_⟩
  · obtain ⟨xs, q, rv⟩ := key B α1 H1 s e r hg
    exact walk_enum.goes i H1 (by rw [rv.length, ← enumD_len]; exact hi) q
  · obtain ⟨xs, q, rv⟩ := key B α1 H1 s e r hg
    have z := (walk_enum (K := g.K) (a := a) (xs := xs)).stops H1 q
    rw [rv.length, ← enumD_len] at z
    exact z
  · obtain ⟨xs, q, rv⟩ := key B α1 H1 s e r hg
    exact yld_enum r rv (walk_enum.yields i H1 x H' (by rw [rv.length, ← enumD_len]; exact hi) q y)
theorem walkD_enumF {α : List Addr} {H : Hp} {a : Addr} {xs : List V} {ds : List D} (h1 : FzL g.K H a xs) (h2 : RVs g.K α H xs ds) : WalkD g (Ite g.K a) (enumD ds) none α H := by
  refine ⟨fun i B α1 H1 s hi e r hg => ?_, fun B α1 H1 s e r hg => ?_, fun i B α1 H1 s x H' hi e r hg y => ?_⟩
  · exact walk_enum.goes i H1 (by rw [h2.length, ← enumD_len]; exact hi) (e.frl _ _ h1).sq
  · have z := (walk_enum (K := g.K) (a := a) (xs := xs)).stops H1 (e.frl _ _ h1).sq
    rw [h2.length, ← enumD_len] at z
    exact z
  · exact yld_enum r (h2.ext e) (walk_enum.yields i H1 x H' (by rw [h2.length, ← enumD_len]; exact hi) (e.frl _ _ h1).sq y)
theorem walkD_enumT {α : List Addr} {H : Hp} {a : Addr} {xs : List V} {ds : List D} (h1 : SqT g.K H a xs) (h2 : RVs g.K α H xs ds) : WalkD g (EnT g.K a) (enumD ds) none α H := by
  refine ⟨fun i B α1 H1 s hi e r hg => ?_, fun B α1 H1 s e r hg => ?_, fun i B α1 H1 s x H' hi e r hg y => ?_⟩
  · have hi' : i < xs.length := by rw [h2.length, ← enumD_len]; exact hi
    exact ⟨xs, xs[i], e.tup _ _ h1, by simp [hi']⟩
  · exact ⟨xs, e.tup _ _ h1, by rw [h2.length, ← enumD_len]⟩
  · obtain ⟨T, z, w1, w2, w3, w4⟩ := y
    exact yld_enum r (h2.ext e) ⟨T, .int (i : Nat), z, w1, w2, w3, rfl, w4 xs (e.tup _ _ h1)⟩
theorem si_enum {tpos : Pos} {elts : List Expr} {kk : Nat} (hK : X.K = g.K) (hg : Gl X "enumerate") (hm : X.mg "enumerate" = none) (ha : PE X a (tE g E k ra)) (hs : starEach [a] X.env = (false, eval a X.env) :: starEach [] X.env) :
    PI X (.Tuple elts kk tpos) (.Call (.Name "enumerate" p) [a] [] pos) (tI g E k (Ev.iEnum ra)) :=
  PI.imp (pi_enX hg hm (sa_cons ha sa_nil hs) hs) fun σ H Q ⟨B, α, ρ, s, hR, hE, h⟩ => by
    refine ⟨B, α, ρ, s, hR, hE, ?_⟩
    have h' := PRes.bndI h
    show PRss g E B α H ((ra ⟨k, B⟩ ρ s).bndA fun x s => .ok [x] s) _
    cases hz : ra ⟨k, B⟩ ρ s with
    | exc c s1 => rw [hz] at h'; exact h'
    | fail => rw [hz] at h'; exact h'
    | ok d s1 =>
      rw [hz] at h'
      intro α1 H1 vs e1 R1 r1
      obtain ⟨v, rfl, rv1⟩ := r1.one
      obtain ⟨α2, d2, s2, e2, R2, r2, h2⟩ := h' α1 H1 v e1 R1 rv1
      rw [hK]
      cases r2 with
      | @tup a xs ds h3 h4 => exact ⟨a, xs, rfl, .inr ⟨h3, h2 α2 H1 _ .refl R2 (walkD_enumT h3 h4) rfl⟩⟩
      | @frl a xs ds h3 h4 => exact ⟨a, xs, rfl, .inl ⟨h3.sq, h2 α2 H1 _ .refl R2 (walkD_enumF h3 h4) rfl⟩⟩
      | @ref a n h3 =>
        dsimp only at h2
        split at h2
        · rename_i ds hl
          obtain ⟨p, xs, ep, hn, ho, hp, _⟩ := lst_of R2 (.ref h3) hl
          cases ep
          refine ⟨a, xs, rfl, .inl ⟨.of hp, h2 α2 H1 _ .refl R2 (walkD_enum h3) ?_⟩⟩
          simp only [gOk]
          rw [ho]
          exact D.beqs_self ds
        · exact h2.elim
      | _ => exact (show False from h2).elim
end
end Ev

set_option maxRecDepth 10000
namespace Ev
open PySem L2 PyProof.Rows

section
variable {X : Cx} {g : G} {E : XK} {k : Nat → List Nat → List D → S → Res} {e a b c : Expr} {ra rb rc : ES} {es : List Expr} {as : AS} {pos p : Pos} {tg iter : Expr}
variable {B : List Nat} {α α' : List Addr} {H H' : Hp} {s : S} {ρ : Env}

theorem gOk_none {s : S} : gOk none s = true := rfl
/-- the ends of a turn -/
def turnEnds (g : G) (E : XK) (B : List Nat) (α : List Addr) (H : Hp) (Dd : Ends) (f : Env → S → Out) : Ends :=
  { Dd with nx := fun σ H1 => ∃ α1 ρ1 s1, Ext g.K α α1 H H1 ∧ R g B α1 H1 s1 ∧ RE g.K α1 H1 σ ρ1 ∧ POut g E B α1 H1 (f ρ1 s1) Dd,
            ct := fun σ H1 => ∃ α1 ρ1 s1, Ext g.K α α1 H H1 ∧ R g B α1 H1 s1 ∧ RE g.K α1 H1 σ ρ1 ∧ POut g E B α1 H1 (f ρ1 s1) Dd, bk := Dd.nx }
theorem psh_B {gc : Bool} {b : Nat} : C.psh gc b ⟨k, B⟩ = ⟨k, if gc then b :: B else B⟩ := by cases gc <;> rfl
theorem R.psh {gc : Bool} (r : R g B α H s) : R g (if gc then s.length :: B else B) α H s := by
  cases gc
  · exact r
  · exact r.push
theorem R.unpsh {gc : Bool} {b : Nat} (r : R g (if gc then b :: B else B) α H s) : R g B α H s := by
  cases gc
  · exact r
  · exact R.drop r
/-- what is new is let go, or nothing is -/
theorem turn_of {gc : Bool} {b : Nat} {Dd : Ends} {f : Env → S → Out} {α0 : List Addr} {H0 : Hp} {σ : L2.St} (hb : α0.length = b) (h : POut g E B α0 H0 (turnEnd gc b ρ s f) Dd) (e : Ext g.K α0 α H0 H) (r : R g (if gc then b :: B else B) α H s) (re : RE g.K α H σ ρ) :
    ∃ α1 ρ1 s1, Ext g.K α0 α1 H0 H ∧ R g B α1 H s1 ∧ RE g.K α1 H σ ρ1 ∧ POut g E B α1 H (f ρ1 s1) Dd := by
  unfold turnEnd at h
  split at h
  · rename_i hc
    obtain ⟨rfl, hne⟩ := hc
    have e1 := e.cut hb
    exact ⟨α.take b, _, _, e1, R.fin r, re.cut, h.ext e1⟩
  · exact ⟨α, _, _, e, r.unpsh, re, h.ext e⟩
theorem turn_nx {gc : Bool} {b : Nat} {Dd : Ends} {α0 : List Addr} {H0 : Hp} {σ : L2.St} (hb : α0.length = b) (h : POut g E B α0 H0 (turnEnd gc b ρ s .nx) Dd) (e : Ext g.K α0 α H0 H) (r : R g (if gc then b :: B else B) α H s) (re : RE g.K α H σ ρ) : Dd.nx σ H := by
  obtain ⟨α1, ρ1, s1, e1, R1, E1, h1⟩ := turn_of hb h e r re
  exact h1 α1 H σ .refl R1 E1
/-- a turn of a loop, from what is asked of the whole -/
theorem loop_turn {gc : Bool} {Dd : Ends} {f : Env → S → Out} {o : Out} (hR : R g B α H s)
    (h : POut g E B α H (match o with
      | .nx ρ' s' => turnEnd gc s.length ρ' s' f
      | .ct ρ' s' => turnEnd gc s.length ρ' s' f
      | .bk ρ' s' => turnEnd gc s.length ρ' s' .nx
      | .rt d s' => .rt d s'
      | .exc k s' => .exc k s'
      | .fail => .fail) Dd) : POut g E (if gc then s.length :: B else B) α H o (turnEnds g E B α H Dd f) := by
  cases o with
  | nx ρ' s' => exact fun α1 H1 σ e r re => turn_of hR.len h e r re
  | ct ρ' s' => exact fun α1 H1 σ e r re => turn_of hR.len h e r re
  | bk ρ' s' => exact fun α1 H1 σ e r re => turn_nx hR.len h e r re
  | rt d s' => exact fun α1 H1 v e r rv => h α1 H1 v e r.unpsh rv
  | exc c s' => exact fun α1 H1 v dx e r rv hd => h α1 H1 v dx e r.unpsh rv hd
  | fail => exact h.elim
theorem POut.imp : ∀ {o : Out} {Dd De : Ends}, POut g E B α H o Dd → (∀ σ H, Dd.nx σ H → De.nx σ H) → (∀ σ H, Dd.ct σ H → De.ct σ H) → (∀ σ H, Dd.bk σ H → De.bk σ H) → (∀ v H, Dd.rt v H → De.rt v H) → POut g E B α H o De
  | .nx _ _, _, _, h, i1, _, _, _ => fun a h' σ e r rv => i1 σ h' (h a h' σ e r rv)
  | .ct _ _, _, _, h, _, i2, _, _ => fun a h' σ e r rv => i2 σ h' (h a h' σ e r rv)
  | .bk _ _, _, _, h, _, _, i3, _ => fun a h' σ e r rv => i3 σ h' (h a h' σ e r rv)
  | .rt _ _, _, _, h, _, _, _, i4 => fun a h' v e r rv => i4 v h' (h a h' v e r rv)
  | .exc _ _, _, _, h, _, _, _, _ => h
  | .fail, _, _, h, _, _, _, _ => h.elim
/-- a target, then the body -/
theorem tgt_body {t : TS} {tb : SS} {Dd : Ends} {σ : L2.St} {v : V} {d : D} (ht : TOk t) (hR : R g B α H s) (hE : RE g.K α H σ ρ) (rv : RV g.K α H v d) (h : POut g E B α H ((t ⟨k, B⟩ d ρ s).bnd fun ρ' s' => tb ⟨k, B⟩ ρ' s') Dd) :
    TgD X g E k t v σ H fun σ2 H2 => tSS g E k tb Dd σ2 H2 := by
  refine ⟨B, α, ρ, s, d, hR, hE, rv, ?_⟩
  have q := Out.bnd_P h
  rcases ht ⟨k, B⟩ d ρ s with ⟨ρ', s', e2⟩ | e2 | ⟨z, s', e2⟩
  · rw [e2] at q ⊢
    intro α1 H1 σ1 e1 R1 E1
    obtain ⟨α2, ρ2, s2, e3, R2, E2, h3⟩ := q α1 H1 σ1 e1 R1 E1
    exact ⟨B, α2, ρ2, s2, R2, E2, h3⟩
  · rw [e2] at q; exact q.elim
  · rw [e2] at q ⊢; exact q
/-- the loop, turn by turn -/
theorem for_go {J : It} {gc : Bool} {ds : List D} {gd : Option (Nat × List D)} {t : TS} {tb : SS} {Dd : Ends} {α0 : List Addr} {H0 : Hp} {σ : L2.St} (ht : TOk t) (w : WalkD g J ds gd α0 H0) (e0 : Ext g.K α0 α H0 H) (hR : R g B α H s) (hE : RE g.K α H σ ρ) (hg : gOk gd s = true)
    (h : POut g E B α H (forL gc gd t tb ⟨k, B⟩ ds ρ s) Dd) :
    ∃ W : Nat → Nat → L2.St → Hp → Prop, (∃ m, W 0 m σ H) ∧ ∀ i m σ H, W i m σ H →
      (J.stop i H ∧ Dd.nx σ H) ∨ (J.go i H ∧ ∃ N : L2.St → Hp → Prop, (∀ σ' H', N σ' H' → ∃ m', m' < m ∧ W (i + 1) m' σ' H') ∧ ∀ x H', J.yld i H x H' → TgD X g E k t x σ H' fun σ2 H2 => tSS g E k tb { Dd with nx := N, ct := N, bk := Dd.nx } σ2 H2) := by
  refine ⟨fun i m σ H => m = ds.length - i ∧ i ≤ ds.length ∧ ∃ α ρ s, Ext g.K α0 α H0 H ∧ R g B α H s ∧ RE g.K α H σ ρ ∧ gOk gd s = true ∧ POut g E B α H (forL gc gd t tb ⟨k, B⟩ (ds.drop i) ρ s) Dd,
    ⟨ds.length, by simp, Nat.zero_le _, α, ρ, s, e0, hR, hE, hg, by simpa using h⟩, ?_⟩
  rintro i m σ H ⟨rfl, hi, α, ρ, s, e0, hR, hE, hg, h⟩
  by_cases hlt : i < ds.length
  · refine .inr ⟨w.goes i B α H s hlt e0 hR hg, fun σ' H' => ∃ α1 ρ1 s1, Ext g.K α0 α1 H0 H' ∧ R g B α1 H' s1 ∧ RE g.K α1 H' σ' ρ1 ∧ gOk gd s1 = true ∧ POut g E B α1 H' (forL gc gd t tb ⟨k, B⟩ (ds.drop (i + 1)) ρ1 s1) Dd,
      fun σ' H' q => ⟨ds.length - (i + 1), by omega, rfl, hlt, q⟩, fun x H' y => ?_⟩
    obtain ⟨R1, e1, d, hd, rd⟩ := w.yields i B α H s x H' hlt e0 hR hg y
    have hds : ds.drop i = d :: ds.drop (i + 1) := by
      have e := List.drop_eq_getElem_cons hlt
      rw [(List.getElem?_eq_some_iff.mp hd).2] at e
      exact e
    rw [hds, forL] at h
    have h1 := loop_turn R1 (h.ext e1)
    rw [psh_B] at h1
    refine tgt_body ht R1.psh (hE.ext e1) rd (POut.imp h1 ?_ ?_ (fun _ _ q => q) fun _ _ q => q)
    all_goals
      rintro σ2 H2 ⟨α1, ρ1, s1, e2, R2, E2, h2⟩
      dsimp only at h2
      split at h2
      · rename_i hg2
        exact ⟨α1, ρ1, s1, (e0.trans e1).trans e2, R2, E2, hg2, h2⟩
      · exact h2.elim
  · have e : i = ds.length := by omega
    subst e
    refine .inl ⟨w.stops B α H s e0 hR hg, ?_⟩
    rw [List.drop_length, forL] at h
    exact h α H σ .refl hR hE
theorem ss_for {gc : Bool} {w : IS} {t : TS} {tb : SS} {body : List Stmt} (hp : PassesOwn (model X.prog X.w) X.A X.env X.xe) (hc : X.calm = true) (hi : PI X tg iter (tI g E k w)) (hg : PG X tg (TgD X g E k t)) (ht : TOk t) (hb : PSs X body (tSS g E k tb))
    (hs : ∀ x, foldedSetIterable iter X.env x = pure x) : PS X (.For tg iter body [] pos) (tSS g E k (sFor gc w t tb)) :=
  PS.imp (ps_for hp hc hi hg hb hs) fun σ H Dd ⟨B, α, ρ, s, hR, hE, h⟩ => by
    refine ⟨_, α, ρ, s, hR.psh (gc := gc), hE, ?_⟩
    unfold sFor at h
    rw [psh_B] at h
    cases hz : w ⟨k, if gc then s.length :: B else B⟩ ρ s with
    | fail => rw [hz] at h; exact h.elim
    | exc c s1 =>
      rw [hz] at h
      exact fun α1 H1 v dx e r rv hd => h α1 H1 v dx e r.unpsh rv hd
    | ok ds gd s1 =>
      rw [hz] at h
      intro α1 H1 J e1 R1 wd hg1
      have h' : POut g E (if gc then s.length :: B else B) α H (forL gc gd t tb ⟨k, if gc then s.length :: B else B⟩ ds ρ s1) Dd := by
        have h0 : POut g E B α H (endG gc s.length (forL gc gd t tb ⟨k, if gc then s.length :: B else B⟩ ds ρ s1)) Dd := h
        revert h0
        generalize forL gc gd t tb ⟨k, if gc then s.length :: B else B⟩ ds ρ s1 = o
        intro h0
        cases o with
        | nx ρ' s' => exact fun α1 H1 σ e r re => turn_nx hR.len h0 e r re
        | rt d s' => exact fun α1 H1 v e r rv => h0 α1 H1 v e r.unpsh rv
        | bk ρ' s' => exact fun α1 H1 v e r rv => h0 α1 H1 v e r.unpsh rv
        | ct ρ' s' => exact fun α1 H1 v e r rv => h0 α1 H1 v e r.unpsh rv
        | exc c s' => exact fun α1 H1 v dx e r rv hd => h0 α1 H1 v dx e r.unpsh rv hd
        | fail => exact h0.elim
      exact for_go ht wd .refl R1 (hE.ext e1) hg1 (h'.ext e1)

/-! ### while -/
theorem ss_while {gc : Bool} {tb : SS} {body : List Stmt} (hp : PassesOwn (model X.prog X.w) X.A X.env X.xe) (hc : PT X c (tT g E k rc)) (hb : PSs X body (tSS g E k tb)) : PS X (.While c body [] pos) (tSS g E k (sWhile gc rc tb)) :=
  PS.imp (ps_while hp hc hb) fun σ H Dd ⟨B, α, ρ, s, hR, hE, h⟩ => by
    refine ⟨fun m σ H => ∃ α ρ s, R g B α H s ∧ RE g.K α H σ ρ ∧ POut g E B α H (whileL gc rc tb ⟨k, B⟩ m ρ s) Dd, ⟨turns, α, ρ, s, hR, hE, h⟩, ?_⟩
    rintro m σ H ⟨α, ρ, s, hR, hE, h⟩
    cases m with
    | zero => exact h.elim
    | succ m =>
      rw [whileL, psh_B] at h
      refine ⟨if gc then s.length :: B else B, α, ρ, s, hR.psh, hE, ?_⟩
      have key : ∀ {r : Res}, POut g E B α H (r.tstS fun z s1 => if z = true then
          (match tb ⟨k, if gc then s.length :: B else B⟩ ρ s1 with
          | .nx ρ' s' => turnEnd gc s.length ρ' s' (whileL gc rc tb ⟨k, B⟩ m)
          | .ct ρ' s' => turnEnd gc s.length ρ' s' (whileL gc rc tb ⟨k, B⟩ m)
          | .bk ρ' s' => turnEnd gc s.length ρ' s' .nx
          | .rt d s' => .rt d s'
          | .exc k s' => .exc k s'
          | .fail => .fail)
          else turnEnd gc s.length ρ s1 .nx) Dd → PTst g E (if gc then s.length :: B else B) α H r fun z H1 => if z = true then ∃ N : L2.St → Hp → Prop, (∀ σ' H', N σ' H' → ∃ m', m' < m + 1 ∧ ∃ α ρ s, R g B α H' s ∧ RE g.K α H' σ' ρ ∧ POut g E B α H' (whileL gc rc tb ⟨k, B⟩ m' ρ s) Dd) ∧ tSS g E k tb { Dd with nx := N, ct := N, bk := Dd.nx } σ H1 else Dd.nx σ H1 := by
        intro r h
        cases r with
        | fail => exact h.elim
        | exc c s1 => exact fun α1 H1 v dx e r rv hd => h α1 H1 v dx e r.unpsh rv hd
        | ok d s1 =>
          simp only [Res.tstS] at h
          split at h
          · rename_i z hz
            refine ⟨z, hz, fun α1 H1 e1 R1 => ?_⟩
            cases z with
            | false =>
              rw [if_neg Bool.false_ne_true] at h ⊢
              exact turn_nx hR.len h e1 R1 (hE.ext e1)
            | true =>
              rw [if_pos rfl] at h ⊢
              refine ⟨fun σ' H' => ∃ α1 ρ1 s1, R g B α1 H' s1 ∧ RE g.K α1 H' σ' ρ1 ∧ POut g E B α1 H' (whileL gc rc tb ⟨k, B⟩ m ρ1 s1) Dd, fun σ' H' q => ⟨m, Nat.lt_succ_self m, q⟩, _, α1, ρ, s1, R1, hE.ext e1, ?_⟩
              refine POut.imp ((loop_turn hR h).ext e1) ?_ ?_ (fun _ _ q => q) fun _ _ q => q
              all_goals
                rintro σ2 H2 ⟨α2, ρ2, s2, e2, R2, E2, h2⟩
                exact ⟨α2, ρ2, s2, R2, E2, h2⟩
          · exact h.elim
      exact key h
end
end Ev

set_option maxRecDepth 10000
namespace Ev
open PySem L2 PyProof.Rows

section
variable {X : Cx} {g : G} {E : XK} {k : Nat → List Nat → List D → S → Res} {e a b c : Expr} {ra rb rc : ES} {es : List Expr} {as : AS} {pos p : Pos} {tg iter : Expr}
variable {B : List Nat} {α α' : List Addr} {H H' : Hp} {s : S} {ρ : Env}

/-! ### the targets of a comprehension: its own names -/
/-- t stores into the slots vs alone -/
structure TgW (g : G) (vs : List Nat) (t : TS) (gt : TG) : Prop where
  st : ∀ (c : C) (d : D) (ρ : Env) (s : S) (ρ' : Env) (s' : S), t c d ρ s = .nx ρ' s' → s' = s
  go : ∀ (c : C) (v : V) (d : D) (σ : L2.St) (ρ : Env) (α : List Addr) (B : List Nat) (s : S) (H : Hp) (Q : L2.St → Hp → Prop), R g B α H s → RE g.K α H σ ρ → RV g.K α H v d →
    ∀ (ρ' : Env) (s' : S), t c d ρ s = .nx ρ' s' → (∀ σ', wipe σ' vs = wipe σ vs → RE g.K α H σ' ρ' → Q σ' H) → gt v σ H Q
structure TgsW (g : G) (vs : List Nat) (t : TSs) (gt : TGs) : Prop where
  st : ∀ (c : C) (d : List D) (ρ : Env) (s : S) (ρ' : Env) (s' : S), t c d ρ s = .nx ρ' s' → s' = s
  go : ∀ (c : C) (v : List V) (d : List D) (σ : L2.St) (ρ : Env) (α : List Addr) (B : List Nat) (s : S) (H : Hp) (Q : L2.St → Hp → Prop), R g B α H s → RE g.K α H σ ρ → RVs g.K α H v d →
    ∀ (ρ' : Env) (s' : S), t c d ρ s = .nx ρ' s' → (∀ σ', wipe σ' vs = wipe σ vs → RE g.K α H σ' ρ' → Q σ' H) → gt v σ H Q
theorem wipe_out' {σ : L2.St} {i : Nat} : ∀ {vs : List Nat}, i ∉ vs → (wipe σ vs)[i]? = σ[i]? := wipe_out
theorem wipe_none {σ : L2.St} {i : Nat} : ∀ {vs : List Nat}, i ∈ vs → (wipe σ vs)[i]? = if i < σ.length then some none else none
  | v :: vs, h => by
    show ((wipe σ vs).set v none)[i]? = _
    by_cases e : v = i
    · subst e
      by_cases hl : v < σ.length
      · rw [List.getElem?_set_self (by rw [wipe_length]; exact hl), if_pos hl]
      · rw [if_neg hl, List.getElem?_eq_none (by rw [List.length_set, wipe_length]; omega)]
    · rw [List.getElem?_set_ne e]
      exact wipe_none ((List.mem_cons.mp h).resolve_left (Ne.symm e))
theorem wipe_set {σ : L2.St} {i : Nat} {v : Option V} {vs : List Nat} (h : i ∈ vs) : wipe (σ.set i v) vs = wipe σ vs := by
  apply List.ext_getElem?
  intro j
  by_cases hj : j ∈ vs
  · rw [wipe_none hj, wipe_none hj, List.length_set]
  · rw [wipe_out hj, wipe_out hj, List.getElem?_set_ne (fun (e : i = j) => hj (e ▸ h))]
theorem RE.setw {K : PySem.W.Frag} {σ : L2.St} {v : V} {d : D} {i : Nat} (r : RE K α H σ ρ) (rv : RV K α H v d) : RE K α H (σ.set i (some v)) (sv ρ i d) := by
  by_cases hi : i < σ.length
  · exact r.set rv hi
  · have e1 : σ.set i (some v) = σ := List.set_eq_of_length_le (by omega)
    have e2 : ∀ (ρ : Env) (i : Nat), ρ.length ≤ i → sv ρ i d = ρ := by
      intro ρ
      induction ρ with
      | nil => intro i _; rfl
      | cons x r ih =>
        intro i hi
        cases i with
        | zero => simp at hi
        | succ i => rw [sv, ih i (by simpa using hi)]
    rw [e1, e2 ρ i (by rw [← r.1]; omega)]
    exact r
theorem cg_name {i : Nat} {vs : List Nat} (hi : i ∈ vs) : TgW g vs (tName i) (gName i) := by
  refine ⟨fun c d ρ s ρ' s' h => by cases h; rfl, fun c v d σ ρ α B s H Q hR hE rv ρ' s' h q => ?_⟩
  cases h
  exact q _ (wipe_set hi) (hE.setw rv)
theorem cgs_nil {vs : List Nat} : TgsW g vs tsNil gNil := by
  refine ⟨fun c d ρ s ρ' s' h => ?_, fun c v d σ ρ α B s H Q hR hE rv ρ' s' h q => ?_⟩
  · cases d <;> cases h; rfl
  · cases rv with
    | nil =>
      cases h
      exact ⟨rfl, q _ rfl hE⟩
    | cons _ _ => cases h
theorem cgs_cons {t : TS} {u : TSs} {gt : TG} {gu : TGs} {vs : List Nat} (h1 : TgW g vs t gt) (h2 : TgsW g vs u gu) : TgsW g vs (tsCons t u) (gCons gt gu) := by
  refine ⟨fun c d ρ s ρ' s' h => ?_, fun c v d σ ρ α B s H Q hR hE rv ρ' s' h q => ?_⟩
  · cases d with
    | nil => cases h
    | cons d dr =>
      have h' : (t c d ρ s).bnd (fun ρ s => u c dr ρ s) = .nx ρ' s' := h
      cases hz : t c d ρ s with
      | nx ρ1 s1 =>
        rw [hz] at h'
        rw [h2.st c dr ρ1 s1 ρ' s' h', h1.st c d ρ s ρ1 s1 hz]
      | _ => rw [hz] at h'; cases h'
  · cases rv with
    | nil => cases h
    | @cons v d vr dr r rr =>
      have h' : (t c d ρ s).bnd (fun ρ s => u c dr ρ s) = .nx ρ' s' := h
      cases hz : t c d ρ s with
      | nx ρ1 s1 =>
        rw [hz] at h'
        have e1 := h1.st c d ρ s ρ1 s1 hz
        subst e1
        refine ⟨v, vr, rfl, h1.go c v d σ ρ α B s1 H _ hR hE r ρ1 s1 hz fun σ1 hw hE1 => ?_⟩
        exact h2.go c vr dr σ1 ρ1 α B s1 H Q hR hE1 rr ρ' s' h' fun σ2 hw2 hE2 => q σ2 (hw2.trans hw) hE2
      | _ => rw [hz] at h'; cases h'
/-- a tuple or a list, taken apart -/
def gSq (K : PySem.W.Frag) (n : Nat) (u : TGs) : TG := fun v σ H Q => gTup K n u v σ H Q ∨ gLst K n u v σ H Q
theorem pg_sq {j n : Nat} {u : TGs} (hc : X.calm = true) (h : PGs X es u) (hn : (assignEach es X.env).length = n) (hst : (assignEach es X.env).findIdx? (·.1) = none) : PG X (.Tuple es j pos) (gSq X.K n u) :=
  ⟨fun pins s σ H v w Q I r q => q.elim (fun q => (pg_tup hc h hn hst).run pins s σ H v w Q I r q) fun q => (pg_lst hc h hn hst).run pins s σ H v w Q I r q⟩
theorem cg_tup {n : Nat} {u : TSs} {gu : TGs} {vs : List Nat} (h2 : TgsW g vs u gu) : TgW g vs (tTup n u) (gSq g.K n gu) := by
  refine ⟨fun c d ρ s ρ' s' h => ?_, fun c v d σ ρ α B s H Q hR hE rv ρ' s' h q => ?_⟩
  · unfold tTup at h
    split at h
    · split at h
      · exact h2.st _ _ _ _ _ _ h
      · cases h
    · cases h
  · unfold tTup at h
    split at h
    · rename_i ds hd
      split at h
      · rename_i hl
        obtain ⟨a, xs, rfl, h1, hr⟩ := seq_of hR rv hd
        have q' := h2.go c xs ds σ ρ α B s H Q hR hE hr ρ' s' h q
        rcases h1 with h1 | h1
        · exact .inr ⟨a, xs, rfl, h1, hr.length.trans hl, q'⟩
        · exact .inl ⟨a, xs, rfl, h1, hr.length.trans hl, q'⟩
      · cases h
    · cases h

/-! ### the list that is made, not spoken of yet -/
theorem Ext0.chg {K : PySem.W.Frag} {p : Addr} {u o : HO} (hp : H p = some o) (ho : Chg o) : Ext0 K α α H (upd H p u) := (Ext.chg (α := [p]) (List.mem_singleton.mpr rfl) hp ho : Ext K [p] [p] H (upd H p u)).e0 |> fun e => ⟨fun _ _ h => h, e.tup, e.frl⟩
theorem Ext0.lift {K : PySem.W.Frag} {β : List Addr} (e : Ext0 K β β H H') : Ext0 K α α H H' := ⟨fun _ _ h => h, e.tup, e.frl⟩
theorem R.offc {p : Addr} {u o : HO} (r : R g B α H s) (hn : p ∉ α) (hp : H p = some o) (ho : Chg o) : R g B α (upd H p u) s := by
  refine ⟨r.len, r.nd, fun n a o' ha ho' => (r.obj n a o' ha ho').ext0 (.chg hp ho) (upd_ne fun (z : a = p) => hn (z ▸ List.mem_of_getElem? ha)), r.blk, fun q hq => ?_, r.ord⟩
  obtain ⟨ps, h1, h2, h3⟩ := r.tabs q hq
  have nt : ∀ {b : Addr} {w : HO}, H b = some w → ¬ Chg w → b ≠ p := fun {b w} h c z => by
    rw [z, hp] at h
    cases h
    exact c ho
  refine ⟨ps, by rw [upd_ne (nt h1 id)]; exact h1, h2, fun pos cv hcv => ?_⟩
  obtain ⟨c, e1, e2⟩ := h3 pos cv hcv
  exact ⟨c, e1, by rw [upd_ne (nt e2 id)]; exact e2⟩
/-- an object comes to be spoken of -/
theorem R.adopt {p : Addr} {o : O} (r : R g B α H s) (hp : p ∉ α) (ro : RO g α H p o) : R g B (α ++ [p]) H (s ++ [o]) := by
  have l : α.length = s.length := r.len
  have e : Ext0 g.K α (α ++ [p]) H H := ⟨fun m b hm => by rw [List.getElem?_append_left (List.getElem?_eq_some_iff.mp hm).1]; exact hm, fun _ _ h => h, fun _ _ h => h⟩
  refine ⟨by simp [l], List.nodup_append.mpr ⟨r.nd, by simp, fun x hx y hy z => hp ?_⟩, fun m b o' hm ho => ?_, fun c hc => ?_, r.tabs, r.ord⟩
  · have e1 : y = p := by simpa using hy
    subst e1
    subst z
    exact hx
  · by_cases hms : m < s.length
    · rw [List.getElem?_append_left (by omega)] at hm ho
      exact (r.obj m b o' hm ho).ext0 e rfl
    · have hme : m = s.length := by
        have := (List.getElem?_eq_some_iff.mp ho).1
        simp at this
        omega
      subst hme
      rw [List.getElem?_append_right (by omega)] at hm ho
      simp [l] at hm ho
      subst hm ho
      exact ro.ext0 e rfl
  · obtain ⟨h1, h2⟩ := r.blk c hc
    refine ⟨by simp; omega, fun m o' hm ho => ?_⟩
    rw [List.getElem?_append_left (by omega)] at ho
    exact h2 m o' hm ho

/-! ### comprehensions -/
abbrev noE : XK := fun _ _ _ => False
theorem Itm.bnd_P {f : List D → Option (Nat × List D) → S → Res} : ∀ {r : Itm} {Q : VK}, PRes g E B α H (r.bnd f) Q → PItm g E B α H r fun J H1 => ∃ α1 ds gd s, Ext g.K α α1 H H1 ∧ R g B α1 H1 s ∧ WalkD g J ds gd α1 H1 ∧ gOk gd s = true ∧ PRes g E B α1 H1 (f ds gd s) Q
  | .ok _ _ _, _, h => fun _ _ _ e r w hg => ⟨_, _, _, _, e, r, w, hg, PRes.ext h e⟩
  | .exc _ _, _, h => h
  | .fail, _, h => h
theorem PRss.finA (r : R g B α H s) {Q : List V → Hp → Prop} : ∀ {z : Rss}, PRss g E B α H (Ev.finA s.length z) Q → PRss g E (s.length :: B) α H z Q := by
  intro z h
  cases z with
  | ok d t =>
    intro α' H' v e r' rv
    simp only [Ev.finA] at h
    split at h
    · exact h α' H' v e r'.drop rv
    · split at h
      · exact h α' H' v e r'.drop rv
      · rename_i hy
        exact h (α'.take s.length) H' v (e.cut r.len) r'.fin (rv.cut (by simpa using hy))
  | exc c t => exact fun α' H' v dx e r' rv hd => h α' H' v dx e r'.drop rv hd
  | fail => exact h.elim
theorem RE.wipe {K : PySem.W.Frag} {σ : L2.St} (r : RE K α H σ ρ) : ∀ vs : List Nat, RE K α H (L2.wipe σ vs) (wipeD ρ vs)
  | [] => r
  | v :: vs => by
    have q := RE.wipe r vs
    refine ⟨by show ((L2.wipe σ vs).set v none).length = (sv (wipeD ρ vs) v .und).length; rw [List.length_set, sv_length, q.1], fun i h => ?_⟩
    have h' : gv (sv (wipeD ρ vs) v .und) i ≠ .und := h
    by_cases e : v = i
    · subst e
      by_cases hl : v < (wipeD ρ vs).length
      · rw [gv_sv_same hl] at h'
        exact absurd rfl h'
      · have := gv_lt h'
        rw [sv_length] at this
        exact absurd this hl
    · have e2 : gv (wipeD ρ (v :: vs)) i = gv (wipeD ρ vs) i := gv_sv_ne e
      rw [e2] at h ⊢
      obtain ⟨w, h1, h2⟩ := q.2 i h
      exact ⟨w, by show ((L2.wipe σ vs).set v none)[i]? = _; rw [List.getElem?_set_ne e]; exact h1, h2⟩
/-- what the test asks -/
def PTs1 (g : G) (k : Nat → List Nat → List D → S → Res) (B : List Nat) (α : List Addr) (H : Hp) (ts : Option ES) (ρ : Env) (s : S) (Q : Bool → Hp → Prop) : Prop := match ts with
  | none => Q true H
  | some q => PTst g noE B α H (q ⟨k, B⟩ ρ s) Q
theorem wipe_wipe {σ : L2.St} {vs : List Nat} : L2.wipe (L2.wipe σ vs) vs = L2.wipe σ vs := by
  apply List.ext_getElem?
  intro j
  by_cases hj : j ∈ vs
  · rw [wipe_none hj, wipe_none hj, wipe_length]
  · rw [wipe_out hj]
/-- one item: asked, then reckoned -/
theorem comp_one {ts : Option ES} {te : ES} {tt : TT} {σ : L2.St} {Q : List V → Hp → Prop} (ht : ∀ Q', PTs1 g k B α H ts ρ s Q' → tt σ H Q') (hR : R g B α H s) (hE : RE g.K α H σ ρ) (h : PRss g noE B α H (compE ts te ⟨k, B⟩ ρ s) Q)
    {Gg : Bool → Hp → Prop} (hG : ∀ z H3, (if z = true then tE g noE k te σ H3 fun y H4 => Q [y] H4 else Q [] H3) → Gg z H3) : tt σ H Gg := by
  have one : ∀ {α : List Addr} {H : Hp} {s : S}, R g B α H s → RE g.K α H σ ρ → PRss g noE B α H ((te ⟨k, B⟩ ρ s).bndA fun x s => .ok [x] s) Q → tE g noE k te σ H fun y H4 => Q [y] H4 := fun {α H s} hR hE h => by
    refine ⟨B, α, ρ, s, hR, hE, (PRes.bndA h).imp fun y H4 ⟨α4, d, s4, e4, R4, r4, h4⟩ => ?_⟩
    exact h4 α4 H4 [y] .refl R4 (.cons r4 .nil)
  apply ht
  cases ts with
  | none =>
    refine hG true H ?_
    rw [if_pos rfl]
    exact one hR hE h
  | some q =>
    have h' : PRss g noE B α H ((q ⟨k, B⟩ ρ s).tstA fun k' s => if k' = true then (te ⟨k, B⟩ ρ s).bndA fun x s => .ok [x] s else .ok [] s) Q := h
    show PTst g noE B α H (q ⟨k, B⟩ ρ s) _
    cases hz : q ⟨k, B⟩ ρ s with
    | fail => rw [hz] at h'; exact h'
    | exc c s' => rw [hz] at h'; exact h'
    | ok d s' =>
      rw [hz] at h'
      simp only [Res.tstA] at h'
      split at h'
      · rename_i z hz2
        refine ⟨z, hz2, fun α1 H1 e1 R1 => hG z H1 ?_⟩
        cases z with
        | true =>
          rw [if_pos rfl] at h' ⊢
          exact one R1 (hE.ext e1) (h'.ext e1)
        | false =>
          rw [if_neg Bool.false_ne_true] at h' ⊢
          exact h' α1 H1 [] e1 R1 .nil
      · exact h'.elim
end
end Ev

set_option maxRecDepth 10000
namespace Ev
open PySem L2 PyProof.Rows

section
variable {X : Cx} {g : G} {E : XK} {k : Nat → List Nat → List D → S → Res} {e a b c : Expr} {ra rb rc : ES} {es : List Expr} {as : AS} {pos p : Pos} {tg iter elt : Expr}
variable {B : List Nat} {α α' : List Addr} {H H' : Hp} {s : S} {ρ : Env}

theorem PRes.bndR {f : List D → S → Res} : ∀ {r : Rss} {Q : VK}, PRes g E B α H (r.bnd f) Q → PRss g E B α H r fun v H1 => ∃ α1 d s, Ext g.K α α1 H H1 ∧ R g B α1 H1 s ∧ RVs g.K α1 H1 v d ∧ PRes g E B α1 H1 (f d s) Q := PRss.bnd
/-- the whole comprehension -/
theorem comp_go {w : IS} {t : TS} {gt : TG} {ts : Option ES} {te : ES} {tt : TT} {own : List Nat} {σ : L2.St} {Q : VK}
    (ht : ∀ (B : List Nat) (α : List Addr) (ρ : Env) (s : S) (σ : L2.St) (H : Hp) (Q' : Bool → Hp → Prop), R g B α H s → RE g.K α H σ ρ → PTs1 g k B α H ts ρ s Q' → tt σ H Q')
    (hw : TgW g own t gt) (h : tE g E k (eComp w own t ts te) σ H Q) : tLc (tI g E k w) gt tt (tE g noE k te) own σ H Q := by
  obtain ⟨B, α, ρ, s, hR, hE, h⟩ := h
  refine ⟨s.length :: B, α, ρ, s, hR.push, hE, (Itm.bnd_P (PRes.finF hR h)).imp fun J H1 ⟨α1, ds, gd, s1, e1, R1, wd, hg1, h1⟩ Dn hD => ?_⟩
  split at h1
  · rename_i hlim
    refine ⟨fun i m H2 => m = ds.length - i ∧ i ≤ ds.length ∧ ∃ α2 s2 accV acc, Ext g.K α1 α2 H1 H2 ∧ R g (s.length :: B) α2 H2 s2 ∧ gOk gd s2 = true ∧ H2 Dn = some (.lst accV) ∧ Dn ∉ α2 ∧ RVs g.K α2 H2 accV acc ∧ accV.length ≤ i ∧
      PRes g E (s.length :: B) α1 H1 ((compL gd t ts te ⟨k, s.length :: B⟩ (wipeD ρ own) (ds.drop i) s2).bnd fun xs s2 => al (.lst (acc ++ xs)) s2) Q, ⟨ds.length, by simp, Nat.zero_le _, α1, s1, [], [], .newT hD, R1.newT hD, hg1, upd_same, R1.notin hD, .nil, Nat.zero_le _, ?_⟩, ?_⟩
    · simpa using h1
    rintro i m H2 ⟨rfl, hi, α2, s2, accV, acc, e2, R2, hg2, hD2, hn2, racc, hlen, h2⟩
    by_cases hlt : i < ds.length
    · refine .inr ⟨wd.goes i _ α2 H2 s2 hlt e2 R2 hg2, fun H3 => ∃ α2 s2 accV acc, Ext g.K α1 α2 H1 H3 ∧ R g (s.length :: B) α2 H3 s2 ∧ gOk gd s2 = true ∧ H3 Dn = some (.lst accV) ∧ Dn ∉ α2 ∧ RVs g.K α2 H3 accV acc ∧ accV.length ≤ i + 1 ∧
        PRes g E (s.length :: B) α1 H1 ((compL gd t ts te ⟨k, s.length :: B⟩ (wipeD ρ own) (ds.drop (i + 1)) s2).bnd fun xs s2 => al (.lst (acc ++ xs)) s2) Q, fun H3 q => ⟨ds.length - (i + 1), by omega, rfl, hlt, q⟩, fun x H3 y => ?_⟩
      obtain ⟨R3, e3, d, hd, rd⟩ := wd.yields i _ α2 H2 s2 x H3 hlt e2 R2 hg2 y
      have hds : ds.drop i = d :: ds.drop (i + 1) := by
        have z := List.drop_eq_getElem_cons hlt
        rw [(List.getElem?_eq_some_iff.mp hd).2] at z
        exact z
      rw [hds, compL] at h2
      have hE3 : RE g.K α2 H3 (L2.wipe σ own) (wipeD ρ own) := (((hE.ext e1).ext e2).ext e3).wipe own
      split at h2
      · rename_i ρ' s1' hz
        have est := hw.st _ _ _ _ _ _ hz
        subst est
        refine hw.go _ x d _ _ α2 _ _ H3 _ R3 hE3 rd ρ' s1' hz fun σ' hσ hE' => ⟨hσ.trans wipe_wipe, ?_⟩
        have R4 := R3.push
        have hD3 := e3.off Dn _ hD2 (fun _ z => by cases z) hn2
        refine comp_one (tt := tt) (te := te) (ts := ts) (ρ := ρ') (s := s1') (B := s1'.length :: s.length :: B) (α := α2) (H := H3) (σ := σ') (k := k)
          (Q := fun ys H5 => ∃ α5 s5 xs, Ext g.K α2 α5 H3 H5 ∧ R g (s.length :: B) α5 H5 s5 ∧ RVs g.K α5 H5 ys xs ∧ gOk gd s5 = true ∧
            PRes g E (s.length :: B) α1 H1 ((compL gd t ts te ⟨k, s.length :: B⟩ (wipeD ρ own) (ds.drop (i + 1)) s5).bnd fun ys s2 => al (.lst (acc ++ (xs ++ ys))) s2) Q)
          (fun Q' q => ht _ α2 ρ' s1' σ' H3 Q' R4 hE' q) R4 hE' (PRss.finA R3 (by
            revert h2
            show PRes g E _ α1 H1 ((match finA s1'.length (compE ts te ⟨k, s1'.length :: s.length :: B⟩ ρ' s1') with | .ok xs s4 => _ | _ => Rss.fail).bnd _) Q → _
            cases finA s1'.length (compE ts te ⟨k, s1'.length :: s.length :: B⟩ ρ' s1') with
            | fail => exact fun h2 => h2.elim
            | exc c t => exact fun h2 => h2.elim
            | ok xs s4 =>
              intro h2 α5 H5 ys e5 R5 r5
              dsimp only at h2
              split at h2
              · rename_i hg5
                refine ⟨α5, s4, xs, e5, R5, r5, hg5, ?_⟩
                revert h2
                cases compL gd t ts te ⟨k, s.length :: B⟩ (wipeD ρ own) (ds.drop (i + 1)) s4 with
                | ok a s6 => exact fun h2 => h2
                | exc c t => exact fun h2 => h2
                | fail => exact fun h2 => h2
              · exact h2.elim)) ?_
        rintro z H4
        cases z with
        | false =>
          rw [if_neg Bool.false_ne_true, if_neg Bool.false_ne_true]
          rintro ⟨α5, s5, xs, e5, R5, r5, hg5, h5⟩
          cases r5
          have hD5 := e5.off Dn _ hD3.1 (fun _ z => by cases z) hD3.2
          refine ⟨α5, s5, accV, acc, (e2.trans e3).trans e5, R5, hg5, hD5.1, hD5.2, (racc.ext e3).ext e5, by omega, by simpa using h5⟩
        | true =>
          rw [if_pos rfl, if_pos rfl]
          rintro ⟨B6, α6, ρ6, s6, R6, E6, h6⟩
          refine ⟨B6, α6, ρ6, s6, R6, E6, h6.imp fun y H5 ⟨α5, s5, xs, e5, R5, r5, hg5, h5⟩ => ?_⟩
          have hD5 := e5.off Dn _ hD3.1 (fun _ z => by cases z) hD3.2
          have eo : Ext0 g.K α5 α5 H5 (upd H5 Dn (.lst (accV ++ [y]))) := .chg hD5.1 trivial
          have eT := (e2.trans e3).trans e5
          refine ⟨accV, hD5.1, by rw [sizeLine_eq]; unfold lim at hlim; omega, α5, s5, accV ++ [y], acc ++ xs, ⟨⟨eT.pre, fun a xs h => eo.tup a xs (eT.tup a xs h), fun a xs h => eo.frl a xs (eT.frl a xs h)⟩, fun a o ha ht hn => ⟨?_, (eT.off a o ha ht hn).2⟩, fun a o k h => by have q := eT.frz a o k h; rw [upd_ne fun z => by rw [z, hD5.1] at q; cases q]; exact q⟩, R5.offc hD5.2 hD5.1 trivial, hg5, upd_same, hD5.2, ?_, by simp; omega, ?_⟩
          · rw [upd_ne (ne_of_none ha hD)]
            exact (eT.off a o ha ht hn).1
          · exact ((((racc.ext e3).ext e5).append r5).ext0 eo)
          · simpa using h5
      · exact h2.elim
    · have ei : i = ds.length := by omega
      subst ei
      refine .inl ⟨wd.stops _ α2 H2 s2 e2 R2 hg2, ?_⟩
      rw [List.drop_length, compL] at h2
      have h3 : PRes g E (s.length :: B) α1 H1 (al (.lst acc) s2) Q := by simpa [Rss.bnd] using h2
      refine h3 (α2 ++ [Dn]) H2 (.ref Dn) ⟨⟨fun m b hm => by rw [List.getElem?_append_left (List.getElem?_eq_some_iff.mp (e2.pre m b hm)).1]; exact e2.pre m b hm, e2.tup, e2.frl⟩, fun a o ha ht hn => ⟨(e2.off a o ha ht hn).1, fun q => ?_⟩, e2.frz⟩
        (R2.adopt hn2 (.lst hD2 racc)) (.ref ?_)
      · rcases List.mem_append.mp q with q | q
        · exact (e2.off a o ha ht hn).2 q
        · exact ne_of_none ha hD (List.mem_singleton.mp q)
      · rw [List.getElem?_append_right (by rw [R2.len]; exact Nat.le_refl _), R2.len]
        simp
  · exact h1.elim
end
end Ev

set_option maxRecDepth 10000
namespace Ev
open PySem L2 PyProof.Rows

section
variable {X : Cx} {g : G} {E : XK} {k : Nat → List Nat → List D → S → Res} {e a b c : Expr} {ra rb rc : ES} {es : List Expr} {as : AS} {pos p : Pos} {tg iter elt : Expr}
variable {w : IS} {t : TS} {gt : TG} {te : ES} {tq : ES} {scope : Scope} {own : List (Str × Nat)} {cond : Expr} {i : Nat} {y : Str} {py spos : Pos}
/-- the block of a comprehension -/
abbrev BlkAll (X : Cx) (scope : Scope) (Pp : Cx → Prop) : Prop := ∀ (s : Shared) (H : Hp) (C : Addr) (cl : List (Str × Addr)) (fp : List Addr), Pp (X.blk s H scope (compEnvC scope cl C X.env) fp)
theorem se_comp (hc : X.calm = true) (hN : X.N.Nodup) (hi : PI X tg iter (tI g E k w)) (ok : BlkOk X.N X.env.scope scope own) (hw : TgW g (own.map (·.2)) t gt) (hg : BlkAll X scope fun Y => PG Y tg gt) (he : BlkAll X scope fun Y => PE Y elt (tE g noE k te)) (hs : ∀ x, foldedSetIterable iter X.env x = pure x) :
    PE X (.ListComp elt [⟨tg, iter, [], 0⟩] scope pos) (tE g E k (eComp w (own.map (·.2)) t none te)) :=
  PE.imp (pe_lc hc hN hi ok hg (fun _ _ _ _ _ => pts_nil) he hs) fun σ H Q h => comp_go (ts := none) (tt := tYes) (fun _ _ _ _ _ _ _ _ _ q => q) hw h
theorem se_compQ (hc : X.calm = true) (hN : X.N.Nodup) (hi : PI X tg iter (tI g E k w)) (ok : BlkOk X.N X.env.scope scope own) (hw : TgW g (own.map (·.2)) t gt) (hg : BlkAll X scope fun Y => PG Y tg gt) (hq : BlkAll X scope fun Y => PT Y cond (tT g noE k tq)) (he : BlkAll X scope fun Y => PE Y elt (tE g noE k te)) (hs : ∀ x, foldedSetIterable iter X.env x = pure x) :
    PE X (.ListComp elt [⟨tg, iter, [cond], 0⟩] scope pos) (tE g E k (eComp w (own.map (·.2)) t (some tq) te)) :=
  PE.imp (pe_lc hc hN hi ok hg (fun s H C cl fp => pts_one (hq s H C cl fp)) he hs) fun σ H Q h => comp_go (ts := some tq) (fun B α ρ s σ H Q' r re q => ⟨B, α, ρ, s, r, re, q⟩) hw h
theorem ss_setLc (hc : X.calm = true) (hN : X.N.Nodup) (hy : X.N[i]? = some y) (hyl : X.env.scope.names.lookup y = some .local) (hsw : swapsWith (.ListComp elt [⟨tg, iter, [], 0⟩] scope pos) (some (.Name y py)) spos.line X.env = pure true)
    (hi : PI X tg iter (tI g E k w)) (ok : BlkOk X.N X.env.scope scope own) (hw : TgW g (own.map (·.2)) t gt) (hg : BlkAll X scope fun Y => PG Y tg gt) (he : BlkAll X scope fun Y => PE Y elt (tE g noE k te)) (hs : ∀ x, foldedSetIterable iter X.env x = pure x) :
    PS X (.Assign [.Name y py] (.ListComp elt [⟨tg, iter, [], 0⟩] scope pos) spos) (tSS g E k (sSet i (eComp w (own.map (·.2)) t none te))) :=
  PS.imp (ps_setLc hc hN hy hyl hsw hi ok hg (fun _ _ _ _ _ => pts_nil) he hs) fun σ H Dd h => comp_go (ts := none) (tt := tYes) (fun _ _ _ _ _ _ _ _ _ q => q) hw (by
    obtain ⟨B, α, ρ, s, hR, hE, h⟩ := h
    exact ⟨B, α, ρ, s, hR, hE, (PRes.bndS h).imp fun v H1 ⟨α1, d, s1, e1, R1, r1, h1⟩ => h1 α1 H1 _ .refl R1 ((hE.ext e1).setw r1)⟩)
theorem ss_setLcQ (hc : X.calm = true) (hN : X.N.Nodup) (hy : X.N[i]? = some y) (hyl : X.env.scope.names.lookup y = some .local) (hsw : swapsWith (.ListComp elt [⟨tg, iter, [cond], 0⟩] scope pos) (some (.Name y py)) spos.line X.env = pure true)
    (hi : PI X tg iter (tI g E k w)) (ok : BlkOk X.N X.env.scope scope own) (hw : TgW g (own.map (·.2)) t gt) (hg : BlkAll X scope fun Y => PG Y tg gt) (hq : BlkAll X scope fun Y => PT Y cond (tT g noE k tq)) (he : BlkAll X scope fun Y => PE Y elt (tE g noE k te)) (hs : ∀ x, foldedSetIterable iter X.env x = pure x) :
    PS X (.Assign [.Name y py] (.ListComp elt [⟨tg, iter, [cond], 0⟩] scope pos) spos) (tSS g E k (sSet i (eComp w (own.map (·.2)) t (some tq) te))) :=
  PS.imp (ps_setLc hc hN hy hyl hsw hi ok hg (fun s H C cl fp => pts_one (hq s H C cl fp)) he hs) fun σ H Dd h => comp_go (ts := some tq) (fun B α ρ s σ H Q' r re q => ⟨B, α, ρ, s, r, re, q⟩) hw (by
    obtain ⟨B, α, ρ, s, hR, hE, h⟩ := h
    exact ⟨B, α, ρ, s, hR, hE, (PRes.bndS h).imp fun v H1 ⟨α1, d, s1, e1, R1, r1, h1⟩ => h1 α1 H1 _ .refl R1 ((hE.ext e1).setw r1)⟩)
end
end Ev

set_option maxRecDepth 10000
namespace Ev
open PySem L2 PyProof.Rows

/-! ### the context of a piece of code, in short -/
/-- what is the same through the whole law -/
structure W0 where
  P : Program
  w : World
  mg : Str → Option Value
  base : Heap
  g : G
/-- slots N, names of the scope sc, room for lv calls, exceptions as E wants them -/
structure CxW (Γ : W0) (lv : Nat) (E : XK) (X : Cx) (N : List Str) (sc : Scope) (fz : Str → Bool) : Prop where
  pP : X.prog = Γ.P
  pw : X.w = Γ.w
  pK : X.K = Γ.g.K
  pmg : X.mg = Γ.mg
  pb : X.base = Γ.base
  pN : X.N = N
  psc : X.env.scope = sc
  calm : X.calm = true
  nd : N.Nodup
  room : Room lv X.A
  two : 2 ≤ lv
  pfn : X.fn = fz
  pas : PassesOwn (model X.prog X.w) X.A X.env X.xe
  pc : Passes (L2.CX X.prog X.w) X E
  tk : Takes X (fun cls d _ H => E cls d H)
variable {Γ : W0} {lv : Nat} {E : XK} {X : Cx} {N : List Str} {sc : Scope} {fz : Str → Bool} {k : Nat → List Nat → List D → S → Res}
/-- the scope of a comprehension as it stands in a def -/
def relab (sc scope : Scope) : Scope := { scope with names := scope.names.map fun (n, k) => if (k == NameKind.free && sc.kind == .function && sc.names.lookup n == some .cell) then (n, NameKind.cell) else (n, k) }
theorem CxW.blk (h : CxW Γ lv E X N sc fz) (s : Shared) (H : Hp) (scope : Scope) (cl : List (Str × Addr)) (C : Addr) (fp : List Addr) :
    CxW Γ lv noE (X.blk s H scope (compEnvC scope cl C X.env) fp) N (relab sc scope) (fun x => scope.names.lookup x == some .cell) :=
  ⟨h.pP, h.pw, h.pK, h.pmg, h.pb, h.pN, by rw [← h.psc]; rfl, h.calm, h.nd, h.room, h.two, rfl, PassesOwn.never, passL, L2.takes0⟩
/-! ### names -/
def visB (sc : Scope) (x : Str) : Bool := match sc.names.lookup x with
  | some .local => true
  | some .cell => true
  | some .free => true
  | _ => false
def locB (sc : Scope) (x : Str) : Bool := match sc.names.lookup x with
  | some .local => true
  | some .cell => true
  | _ => false
def nmB (sc : Scope) (N : List Str) (i : Nat) (x : Str) : Bool := decide (N[i]? = some x) && visB sc x && !(x == ("__debug__" : Str)) && !(x == ("__classdict__" : Str))
def stB (sc : Scope) (fz : Str → Bool) (N : List Str) (i : Nat) (x : Str) : Bool := decide (N[i]? = some x) && locB sc x && (fz x || decide (sc.names.lookup x = some .local))
theorem visB_ok {x : Str} (h : visB sc x = true) : Vis sc x := by
  unfold visB at h
  split at h
  · rename_i e; exact .inl e
  · rename_i e; exact .inr (.inl e)
  · rename_i e; exact .inr (.inr e)
  · cases h
theorem locB_ok {x : Str} (h : locB sc x = true) : Loc sc x := by
  unfold locB at h
  split at h
  · rename_i e; exact .inl e
  · rename_i e; exact .inr e
  · cases h
theorem w_var {i : Nat} {x : Str} {pos : Pos} (h : CxW Γ lv E X N sc fz) (hn : nmB sc N i x = true) : PE X (.Name x pos) (tE Γ.g E k (eVar i)) := by
  simp only [nmB, Bool.and_eq_true, decide_eq_true_eq, Bool.not_eq_true'] at hn
  obtain ⟨⟨⟨h1, h2⟩, h3⟩, h4⟩ := hn
  exact se_var (by rw [h.pN]; exact h1) (by rw [h.psc]; exact visB_ok h2) h3 h4
theorem stB_ok {i : Nat} {x : Str} (h : CxW Γ lv E X N sc fz) (hn : stB sc fz N i x = true) : X.N[i]? = some x ∧ Loc X.env.scope x ∧ (X.fn x = true ∨ X.env.scope.names.lookup x = some .local) := by
  simp only [stB, Bool.and_eq_true, Bool.or_eq_true, decide_eq_true_eq] at hn
  obtain ⟨⟨h1, h2⟩, h3⟩ := hn
  rw [h.pN, h.psc, h.pfn]
  exact ⟨h1, locB_ok h2, h3⟩
theorem w_name {i : Nat} {x : Str} {pos : Pos} (h : CxW Γ lv E X N sc fz) (hn : stB sc fz N i x = true) : PG X (.Name x pos) (TgD X Γ.g E k (tName i)) :=
  let ⟨h1, h2, h3⟩ := stB_ok h hn
  sg_name (by rw [h.pN]; exact h.nd) h1 h2 h3
theorem w_nameC {i : Nat} {x : Str} {pos : Pos} (h : CxW Γ lv E X N sc fz) (hn : stB sc fz N i x = true) : PG X (.Name x pos) (gName i) :=
  let ⟨h1, h2, h3⟩ := stB_ok h hn
  pg_name (by rw [h.pN]; exact h.nd) h1 h2 h3
def glB (sc : Scope) (x : Str) : Bool := decide (sc.names.lookup x = some .globalImplicit) && !(x == ("__debug__" : Str))
theorem CxW.gl (h : CxW Γ lv E X N sc fz) {x : Str} (hg : glB sc x = true) : Gl X x := by
  simp only [glB, Bool.and_eq_true, decide_eq_true_eq] at hg
  show X.env.scope.names.lookup x = _
  rw [h.psc]
  exact hg.1
theorem glB_db {x : Str} (hg : glB sc x = true) : (x == ("__debug__" : Str)) = false := by
  simp only [glB, Bool.and_eq_true, Bool.not_eq_true'] at hg
  exact hg.2
/-- a global that is a number or a text -/
theorem w_gint {x : Str} {i : Int} {pos : Pos} (h : CxW Γ lv E X N sc fz) (hg : glB sc x = true) (hm : ∃ t, Γ.mg x = some (.int i t)) : PE X (.Name x pos) (tE Γ.g E k (eC (.int i))) :=
  let ⟨t, hm⟩ := hm
  se_const (pe_glob (h.gl hg) (by rw [h.pmg]; exact hm) (v := .int i) ⟨t, rfl⟩ (glB_db hg)) (fun _ _ _ q => q) fun _ _ => .int _

/-! ### defs of the text -/
def toRes : Out → Res
  | .nx _ s => .ok .non s
  | .rt d s => .ok d s
  | .exc c s => .exc c s
  | _ => .fail
def start0 (n : Nat) (xs : List D) : Env := xs ++ List.replicate (n - xs.length) .und
/-- a def of np parameters, n slots and its body -/
def run1 (np n : Nat) (body : SS) (k : Nat → List Nat → List D → S → Res) (B : List Nat) (xs : List D) (s : S) : Res :=
  if xs.length = np then finF s.length (toRes (body ⟨k, s.length :: B⟩ (start0 n xs) s)) else .fail
structure DefE where
  np : Nat
  n : Nat
  body : SS
def callN (tab : Nat → Option DefE) : Nat → Nat → List Nat → List D → S → Res
  | 0, _, _, _, _ => .fail
  | m + 1, i, B, xs, s => match tab i with
    | none => .fail
    | some d => run1 d.np d.n d.body (callN tab m) B xs s
/-- its promise -/
def spE (g : G) (k : Nat → List Nat → List D → S → Res) (i : Nat) : Sp := fun vs H Q E => ∃ B α s ds, R g B α H s ∧ RVs g.K α H vs ds ∧ PRes g E B α H (k i B ds s) Q
structure FnA (Γ : W0) (lv : Nat) (k : Nat → List Nat → List D → S → Res) (i : Nat) (x : Str) : Prop where
  ex : ∃ (f : Addr) (fd : FuncData) (ps : List Str), FnOk Γ.P Γ.w Γ.g.K Γ.mg Γ.base (L2.CX Γ.P Γ.w) lv f fd ps (spE Γ.g k i) ∧ Γ.mg x = some (.ref f) ∧ PySem.W.keepIn Γ.g.K (.ref f) = true ∧ Binds Γ.g.K fd ps []
theorem args2 {as : AS} {f : Nat} {σ : L2.St} {H : Hp} {Q : VK} (h : tE Γ.g E k (eCall f as) σ H Q) : tCall (spE Γ.g k f) [] E (tA Γ.g E k as) σ H Q := by
  obtain ⟨B, α, ρ, s, hR, hE, h⟩ := args (f := fun B xs s => k f B xs s) h
  exact ⟨B, α, ρ, s, hR, hE, h.imp fun vs H1 q => by rw [List.append_nil]; exact q⟩
theorem w_call {as : AS} {i : Nat} {x : Str} {p pos : Pos} {e : Expr} {es : List Expr} (h : CxW Γ lv E X N sc fz) (F : FnA Γ lv k i x) (hg : glB sc x = true) (ha : PA X (e :: es) (tA Γ.g E k as)) (he : starEach (e :: es) X.env = (false, eval e X.env) :: starEach es X.env) (hpl : (backTo pos (starEach es X.env)).any (·.1) = false) :
    PE X (.Call (.Name x p) (e :: es) [] pos) (tE Γ.g E k (eCall i as)) := by
  obtain ⟨f, fd, ps, F, hm, hk, hb⟩ := F.ex
  rw [← h.pP, ← h.pw, ← h.pK, ← h.pmg, ← h.pb] at F
  exact PE.imp (pe_call F h.room (h.gl hg) (by rw [h.pmg]; exact hm) (by rw [h.pK]; exact hk) (by rw [h.pK]; exact hb) .nil h.pc ha (glB_db hg) he hpl) fun σ H Q q => args2 q
theorem w_call0 {i : Nat} {x : Str} {p pos : Pos} (h : CxW Γ lv E X N sc fz) (F : FnA Γ lv k i x) (hg : glB sc x = true) : PE X (.Call (.Name x p) [] [] pos) (tE Γ.g E k (eCall i aNil)) := by
  obtain ⟨f, fd, ps, F, hm, hk, hb⟩ := F.ex
  rw [← h.pP, ← h.pw, ← h.pK, ← h.pmg, ← h.pb] at F
  exact PE.imp (pe_call0 F h.room (h.gl hg) (by rw [h.pmg]; exact hm) (by rw [h.pK]; exact hk) (by rw [h.pK]; exact hb) .nil h.pc (glB_db hg)) fun σ H Q q => by
    obtain ⟨B, α, ρ, s, hR, hE, q⟩ := q
    exact ⟨B, α, s, [], hR, .nil, q⟩

/-- THE RULE for a def of the text -/
theorem RE.start {K : PySem.W.Frag} {α : List Addr} {H : Hp} {N : List Str} {n : Nat} {vs : List V} {ds : List D} (hn : N.length = n) (r : RVs K α H vs ds) : RE K α H (L2.start N vs) (start0 n ds) := by
  refine ⟨by unfold L2.start start0; simp [r.length, hn], fun i h => ?_⟩
  have key : ∀ {ds : List D} {m : Nat} {i : Nat}, gv (ds ++ List.replicate m .und) i ≠ .und → ds[i]? = some (gv (ds ++ List.replicate m .und) i) := by
    intro ds m
    induction ds with
    | nil =>
      intro i h
      exfalso
      apply h
      clear h
      induction m generalizing i with
      | zero => rfl
      | succ m ih => cases i with
        | zero => rfl
        | succ i => exact ih (i := i)
    | cons d r ih =>
      intro i h
      cases i with
      | zero => rfl
      | succ i => exact ih (i := i) h
  obtain ⟨v, h1, h2⟩ := r.get (key h)
  refine ⟨v, ?_, h2⟩
  unfold L2.start
  rw [List.getElem?_append_left (by rw [List.length_map]; exact (List.getElem?_eq_some_iff.mp h1).1), List.getElem?_map, h1]
  rfl
theorem toRes_P {g : G} {B : List Nat} {α : List Addr} {H : Hp} {Q : VK} : ∀ {o : Out}, PRes g E B α H (toRes o) Q → POut g E B α H o { nx := fun _ H' => Q .non H', rt := Q }
  | .nx _ _, h => fun a h' σ e r _ => h a h' .non e r .non
  | .rt _ _, h => h
  | .exc _ _, h => h
  | .bk _ _, h => h.elim
  | .ct _ _, h => h.elim
  | .fail, h => h
theorem fn_ok (h2 : 2 ≤ lv) {x qual : Str} {st : Stmt} {f : Addr} {fd : FuncData} {ps : List Str} {np n i : Nat} {body : SS} {tab : Nat → Option DefE} {m : Nat} (hN : N.length = n) (hp : ps.length = np) (ht : tab i = some ⟨np, n, body⟩) (F : Fun Γ.g.K x qual st f fd) (S : FnScope N ps (defScope st))
    (hb : ∀ (X : Cx) (E : XK), CxW Γ lv E X N (defScope st) (fun _ => true) → PSs X (defBody st) (tSS Γ.g E (callN tab m) body)) : FnOk Γ.P Γ.w Γ.g.K Γ.mg Γ.base (L2.CX Γ.P Γ.w) (lv + 1) f fd ps (spE Γ.g (callN tab (m + 1)) i) := by
  have e1 : ∀ B xs s, callN tab (m + 1) i B xs s = run1 np n body (callN tab m) B xs s := fun B xs s => by
    rw [callN, ht]
  have key : ∀ {vs H Q E}, spE Γ.g (callN tab (m + 1)) i vs H Q E → vs.length = ps.length ∧ ∃ B α s ds, R Γ.g B α H s ∧ RVs Γ.g.K α H vs ds ∧ POut Γ.g E (s.length :: B) α H (body ⟨callN tab m, s.length :: B⟩ (start0 n ds) s) { nx := fun _ H' => Q .non H', rt := Q } := fun {vs H Q E} ⟨B, α, s, ds, r, rv, h⟩ => by
    rw [e1, run1] at h
    split at h
    · rename_i hl
      exact ⟨by rw [rv.length, hl, hp], B, α, s, ds, r, rv, toRes_P (PRes.finF r h)⟩
    · exact h.elim
  refine F.okX S (fun vs H Q E h => (key h).1) fun cdv A outer s H vs Q E hr h => ?_
  obtain ⟨_, B, α, t, ds, r, rv, h⟩ := key h
  have hw : CxW Γ lv E (cxOf (L2.CX Γ.P Γ.w) Γ.P Γ.w Γ.g.K Γ.mg Γ.base N qual (defScope st) f cdv A outer s H E) N (defScope st) (fun _ => true) :=
    ⟨rfl, rfl, rfl, rfl, rfl, rfl, rfl, rfl, S.nd, hr, h2, rfl, passes_of rfl, passes_call (takes_of rfl rfl rfl rfl) fun _ _ _ _ q => q, takes_of rfl rfl rfl rfl⟩
  exact ⟨_, hb _ E hw, _, α, start0 n ds, t, r.push, RE.start hN rv, h⟩
end Ev

set_option maxRecDepth 10000
namespace Ev
open PySem L2 PyProof.Rows

/-! ### MachineError's own __init__ -/
def body0 : List Stmt :=
  [.Expr (.Call (.Attribute (.Call (.Name "super" ⟨5, 8, 5, 13⟩) [] [] ⟨5, 8, 5, 15⟩) "__init__" ⟨5, 8, 5, 24⟩) [.Name "code" ⟨5, 25, 5, 29⟩] [] ⟨5, 8, 5, 30⟩) ⟨5, 8, 5, 30⟩, .Assign [.Attribute (.Name "self" ⟨6, 8, 6, 12⟩) "code" ⟨6, 8, 6, 17⟩] (.Name "code" ⟨6, 20, 6, 24⟩) ⟨6, 8, 6, 24⟩]
def nf0 (qual : Str) (params : Arguments) (body : List Stmt) (sc : Scope) (cc cda : Addr) : NdefX.NF := ⟨"__init__", qual, params, body, sc, [("__class__", cc)], cda⟩
/-- what the written part tells of the class and of its __init__ -/
structure ErrC (P : Program) (K : PySem.W.Frag) (mg : Str → Option Value) (C f : Addr) (fd : FuncData) : Prop where
  T : OexC K C
  ex : ∃ (oc kV doc pm ct : Value) (od an : Option Addr) (osl ccs csl : Array (Option Value)) (ccl cl : Value) (cdd cld : Option Addr) (vs : Array Value) (file : Str) (tf : Tok) (cda cc : Addr) (cdD : ClassData) (params : Arguments) (sc : Scope) (ar : Arg) (qual : Str),
    fd = PySem.W.ksFn "__init__" qual params body0 sc .none kV doc pm an (.ref cda) ct cc ∧
    K.lookup f = some ⟨oc, od, .func fd, osl⟩ ∧ PySem.W.codeIn K (.ref cda) qual = true ∧ K.lookup cda = some ⟨ccl, cdd, .fields vs, ccs⟩ ∧ vs[2]? = some (.str file tf) ∧ ((P.main.file : Str) == file) = true ∧
    K.lookup cc = some ⟨cl, cld, .cell (some (.ref C)), csl⟩ ∧ PySem.W.clsIn K C = some cdD ∧ (params.posonlyargs ++ params.args).head? = some ar ∧ ar.arg = "self" ∧
    NdefX.NScope ["self", "code", "__class__"] ["self", "code"] ["__class__"] sc ∧ sc.names.lookup ("super" : Str) = some .globalImplicit ∧
    (∀ us : List Value, us.length = 2 → bindArgs fd ⟨us, []⟩ = pure ((["self", "code"] : List Str).zip us))
  mro : PySem.W.mroIn K C (.ref C) = some true
  sup : PySem.W.ks_superIn K C C "__init__" = some (some (.builtin "ValueError.__init__"))
  subV : PySem.W.subIn K (.ref C) (.type "ValueError") = some true
  opq : PySem.W.nsIn K PySem.cStatics "thirdparty.any" = some none
  noC : PySem.W.findIn K (.ref C) "code" = some none
  mgS : mg "super" = none
  topS : (P.main.scope.names.lookup ("super" : Str)).isSome = false

section
variable {prog : Program} {w : World} {A : Around} {E : Value → Shared → Prop}
/-- the bound built-in __init__, called -/
theorem mw_call {K : PySem.W.Frag} {C x u t0 : Addr} {h : Heap} {g : Array GenState} {d : Drawn} {t : Nat} {os : OsState} {rest : List Value} {Q : Value → Shared → Prop} (T : OexC K C) (X : K.In h) (hx : h.get? x = some (PySem.HandSPX.excO C t0)) (hu : h.get? u = some (PySem.W.kxs_mw "ValueError.__init__" x)) (hz : rest.length ≤ sizeLine)
    (hq : ∀ h' t1, (∀ b o, b ≠ x → h.get? b = some o → h'.get? b = some o) → h'.get? x = some (PySem.HandSPX.excO C t1) → Q .none ⟨h', g, d, t, os⟩) : wpAny (model prog w) A (call (.ref u) rest) Q E ⟨h, g, d, t, os⟩ := by
  obtain ⟨nm, q, N, bs, bm, sn, sub, ab, col, dd, k0, k1, k2, k3, k5, hC, hbm⟩ := T.cls
  have hm1 : (Value.type "method-wrapper" == Value.type "method" || Value.type "method-wrapper" == Value.type "builtin_function_or_method" || Value.type "method-wrapper" == Value.type "method-wrapper") = true := by decide
  refine wpAny_call (codeAny_of_tree (show wpAny _ A.in1 (callAny (.ref u) ⟨rest, []⟩) _ _ _ from ?_)); simp only [callAny]
  refine wpAny_bind (wpAny_load hu ?_); simp only [PySem.W.kxs_mw, hm1, if_true]
  refine PySem.W.KFB.if_so hm1 (wpAny_bind (PySem.W.check_bound_init F.excBase_ValueError.toExcCallFacts (X _ _ hC) hx rfl (wpAny_bind (wpAny_pure (wpAny_pure ⟨plainId_quiet F.excBase_ValueError.init.plain _, codeAny_builtin F.excBase_ValueError.initEntry ?_⟩)))))
  exact PySem.W.exc_init_tree (cls := .ref C) (t0 := t0) (dv := none) (c2 := .none) (c3 := .none) (b4 := .bool false) hx hz fun h' k e' _ => hq h' _ k e'
end
section
variable {P : Program} {w : World} {K : PySem.W.Frag} {mg : Str → Option Value} {base : Heap} {C f : Addr} {fd : FuncData}
/-- what it does: the code is kept -/
def spI (C : Addr) : Sp := fun vs H Q _ => ∃ (a : Addr) (v : V), vs = [.ref a, v] ∧ H a = some (exo a C none) ∧ ∀ dx, H dx = none → dx ≠ a → Q .non (upd (upd H dx (exd dx [("code", v)])) a (exo a C (some dx)))
theorem ok_init (F : ErrC P K mg C f fd) : FnOk P w K mg base (L2.CX P w) 1 f fd ["self", "code"] (spI C) := by
  refine ⟨fun vs H Q E ⟨a, v, h, _⟩ => by rw [h]; rfl, fun A outer s H args us vs Q E hr e0 hb r ⟨a, v, hvs, ha, hq⟩ => ?_⟩
  obtain ⟨oc, kV, doc, pm, ct, od, an, osl, ccs, csl, ccl, cl, cdd, cld, vc, file, tf, cda, cc, cdD, params, sc, ar, qual, rfl, lk, hcd, lc, hv2, hfile, lcc, hcls, har, hself, S, hsup, hbind⟩ := F.ex
  subst hvs
  have KX : K.In s.heap := e0.mod.kin.keeps fun b o e => (e0.bs b o e).1
  have lim : s.heap.NoLimit := e0.mod.nolimit.keeps fun b o e => (e0.bs b o e).1
  have hcell : ∀ y ∈ sc.names, y.2 ≠ .cell := S.nocell
  have hus : us.length = 2 := by rw [← r.length]; rfl
  have hloc : ∀ y ∈ (["self", "code"] : List Str).zip us, sc.names.lookup y.1 = some .local := fun ⟨n, z⟩ hy => S.par n (List.of_mem_zip hy).1
  refine PySem.ks_codeAny_call_defAt (body := body0) (binds := (["self", "code"] : List Str).zip us) hr.depth (KX _ _ lk) rfl lim (PySem.W.codeRec_of KX hcd) rfl hb hcell hloc (fun h₁ hns kp => ?_) S.co S.gen S.kind
  have cl1 : ∀ {y c}, ([("__class__", cc)] : List (Str × Addr)).lookup y = some c → c = cc ∧ y = "__class__" := fun {y c} e => by
    by_cases h : y = "__class__"
    · subst h
      simp [List.lookup] at e
      exact ⟨e.symm, rfl⟩
    · have : (y == ("__class__" : Str)) = false := by simpa using h
      simp [List.lookup, this] at e
  have hbc : H cc = none ∧ ∃ v, s.heap.IsCell cc v := ⟨(e0.bs cc _ (e0.mod.kin _ _ lcc)).2, some (.ref C), _, KX _ _ lcc, rfl⟩
  have I := NdefX.inv_startN (CX := L2.CX P w) (P := P) (w := w) (K := K) (mg := mg) (base := base) (F := nf0 qual params body0 sc cc cda) (f := f) (E := E) (ws := [none]) (tk := s.toks + ((["self", "code"] : List Str).zip us).length) S hr.hd e0 rfl r
    ⟨rfl, fun y c e => by rw [(cl1 e).1]; exact hbc, fun x y c e1 e2 => by rw [(cl1 e1).2, (cl1 e2).2], fun i y e => by
      cases i with
      | zero =>
        have e' : ("__class__" : Str) = y := Option.some.inj e
        subst e'
        exact ⟨cc, rfl, fun v h => by cases h⟩
      | succ i => simp at e⟩ hns kp
  have T := F.T
  let X0 : Cx := NdefX.ncx (L2.CX P w) P w K mg base ["self", "code", "__class__"] (nf0 qual params body0 sc cc cda) f A outer s H E
  have I : Inv X0 [] [some (V.ref a), some v, none] H { s with heap := h₁, toks := s.toks + ((["self", "code"] : List Str).zip us).length } := I
  have hks : X0.env.kindOf "super" = some .globalImplicit := hsup
  have hkc : X0.env.kindOf "__class__" = some .free := S.frk "__class__" (by simp)
  have hkself : X0.env.kindOf "self" = some .local := S.par "self" (by simp)
  have hkcode : X0.env.kindOf "code" = some .local := S.par "code" (by simp)
  have hk : X0.env.scope.kind = .function := S.kind
  have K1 := I.kIn
  obtain ⟨t1, ho⟩ := exo_at I.hok ha
  have ia : PySem.W.InstAt h₁ a (PySem.HandSPX.excO C t1) C none := ⟨ho, rfl, rfl, trivial⟩
  obtain ⟨oD, hD1, hD2⟩ : ∃ oD, h₁.get? C = some oD ∧ oD.data = .cls cdD := by
    have hc := hcls
    unfold PySem.W.clsIn at hc
    split at hc
    · rename_i c d cd' sl hl
      cases hc
      exact ⟨_, K1 _ _ hl, rfl⟩
    · cases hc
  refine PySem.ks_wpAt_execs_cons (PySem.ks_wpAt_Expr_any (PySem.ks_wpAt_MethodCall (PySem.ks_wpAt_mono (Q := fun so s1 => ∃ q, so = Value.ref q ∧ s1.heap.get? q = some { cls := .type "super", dict := none, data := .fields #[.ref C, .ref a, .ref C], slots := #[] } ∧ Inv X0 [] [some (V.ref a), some v, none] H s1) ?_ ?_ fun _ _ x => x)) (by unfold interactive; show (sc.kind == .module && _) = false; rw [S.kind]; rfl))
  · refine PySem.ks_wpAt_super_base (env := X0.env) hks hkc rfl rfl (kp _ _ (KX _ _ lk)) rfl har rfl (kp _ _ (KX _ _ lc)) rfl hv2 hfile F.topS ?_
    obtain ⟨mb, b1, b2⟩ := I.mod.blt
    refine PySem.W.ks_loadName_global hk hks (Calls.loadGlobal_builtin (mg := mg) (by rw [I.ok.glob]; exact I.mod.glob.keeps I.bk) F.mgS (mb := mb) (by rw [I.ok.blt]; exact b1.keeps I.bk) ((b2 "super" (by decide)).trans (by kernel_rfl)) ⟨rfl, ?_⟩)
    refine wpAny_loadName_free hk hkc (c := cc) rfl ⟨_, K1 _ _ lcc, rfl⟩ ?_
    obtain ⟨m, hn, hl⟩ := I.loc
    obtain ⟨u, ru, lu⟩ := hl 0 "self" (.ref a) rfl rfl (.inl hkself)
    obtain rfl : u = Value.ref a := ru
    have hms : m "self" = some (Value.ref a) := by
      rcases lu with ⟨_, z⟩ | ⟨z, _⟩
      · exact z
      · rw [hkself] at z
        rcases z with z | z <;> cases z
    rw [hself]
    refine wpAny_loadName_local hk hkself hn hms ?_
    refine PySem.ks_wpAny_isType_cls hD1 hD2 ⟨rfl, ?_⟩
    refine PySem.ks_wpAny_call_super hD1 hD2 ho rfl (fun c z => by cases z) (PySem.W.looks_mroIn K1 F.mro) fun h' e kk => ?_
    exact ⟨_, rfl, e, I.kept (t' := s.toks + ((["self", "code"] : List Str).zip us).length) kk⟩
  · rintro so s1 ⟨q, rfl, hso, I1⟩
    obtain ⟨h2, g2, d2, k2, o2⟩ := s1
    have K2 := I1.kIn
    obtain ⟨t2, ho2⟩ := exo_at I1.hok ha
    have ia2 : PySem.W.InstAt h2 a (PySem.HandSPX.excO C t2) C none := ⟨ho2, rfl, rfl, trivial⟩
    have hsp : PySem.W.alongIn K "__init__" ((cdD.mro.dropWhile (· != .ref C)).drop 1) = some (some (.builtin "ValueError.__init__")) := by
      have z := F.sup
      unfold PySem.W.ks_superIn at z
      rw [hcls] at z
      exact z
    refine PySem.W.kxs_getMethod PySem.W.kxs_ValueError hso (PySem.W.looks_opaque K2 F.opq) (l₀ := cdD.mro) (fun A Q E s k q => wpAny_bind ((PySem.W.looks_clsIn K2 hcls) A _ E s k (wpAny_pure q))) rfl K2 hsp (ia2.type.andThen (PySem.W.looks_subIn K2 F.subV)) (PySem.W.ks_ne K2 ia2 hcls) rfl ?_
    have hu : (h2.push (PySem.W.kxs_mw "ValueError.__init__" a)).get? h2.objs.size = some (PySem.W.kxs_mw "ValueError.__init__" a) := Heap.get?_push_size _ rfl
    have I2 : Inv X0 [(h2.objs.size, PySem.W.kxs_mw "ValueError.__init__" a)] [some (V.ref a), some v, none] H ⟨h2.push (PySem.W.kxs_mw "ValueError.__init__" a), g2, d2, k2 + 1, o2⟩ :=
      ClX.pin_new (t' := k2 + 1) I1 (fun b o z => Heap.get?_push_of_some _ z) (Nat.le_refl _) hu (fun v z => by cases z)
    refine PySem.W.kxs_callWith1 (i := "ValueError.__init__") (x := a) (u := h2.objs.size) (h₀ := { objs := #[] }) (L := h2.objs.size + 1) (news := [(h2.objs.size, PySem.W.kxs_mw "ValueError.__init__" a)]) (fun p hp => ?_) (by simp) (thn ((pa_cons (pe_var (X := X0) (pos := ⟨5, 25, 5, 29⟩) (i := 1) (x := "code") rfl (.inl hkcode)) pa_nil).run _ _ _ _ _ (fun vs H1 => vs = [v] ∧ H1 = H) I2 ⟨v, rfl, rfl, rfl⟩) fun us3 s3 ⟨vs, H3, I3, r3, e3, eH⟩ => ?_)
    · obtain rfl := List.mem_singleton.mp hp
      exact ⟨hu, Nat.ne_of_lt (Nat.lt_succ_self _), rfl⟩
    · subst e3 eH
      have hu3 : s3.heap.get? h2.objs.size = some (PySem.W.kxs_mw "ValueError.__init__" a) := ClX.pin_at I3
      refine ⟨hu3, ?_⟩
      obtain ⟨h3, g3, d3, k3, o3⟩ := s3
      obtain ⟨t3, ho3⟩ := exo_at I3.hok ha
      refine mw_call T I3.kIn ho3 hu3 (by rw [← r3.length, sizeLine_eq]; show 1 ≤ 16777216; decide) fun h4 t4 kk4 ho4 => ?_
      have I4 := I3.write (t' := k3) (x := a) (e := a) (o := exo a C none) (by rw [ha]; exact True.intro) (.inl rfl) kk4 ⟨_, ho4⟩ (exo_ok ho4)
      have eu : upd H3 a (exo a C none) = H3 := by
        funext b
        by_cases hba : b = a
        · rw [hba, upd_same, ha]
        · rw [upd_ne hba]
      rw [eu] at I4
      have I5 : Inv X0 [] [some (V.ref a), some v, none] H3 ⟨h4, g3, d3, k3, o3⟩ := ClX.unpin I4
      have ho5 : PE X0 (.Name "self" ⟨6, 8, 6, 12⟩) (tVar 0) := pe_var (x := "self") rfl (.inl hkself)
      have hc5 : PE X0 (.Name "code" ⟨6, 20, 6, 24⟩) (tVar 1) := pe_var (x := "code") rfl (.inl hkcode)
      refine wpAt_of_wpAny (wpAny_mono ((pss_one (ps_ost (f := "code") (p' := ⟨6, 8, 6, 17⟩) (pos := ⟨6, 8, 6, 24⟩) ho5 hc5 rfl)).run [] _ _ _ { nx := fun _ H' => Q .non H', rt := fun _ _ => False } I5 ⟨v, rfl, .ref a, rfl, a, C, rfl, T, F.noC, .inl ⟨ha, fun dx n1 n2 => hq dx n1 n2⟩⟩) (fun fl s' hs => ?_) fun e s' he => he)
      cases fl with
      | next =>
        obtain ⟨σ', H', J, q'⟩ := hs
        exact ⟨.non, H', J.os, J.bare, J.base, J.hok, rfl, q'⟩
      | ret u => obtain ⟨_, _, _, _, _, q'⟩ := hs; exact q'.elim
      | brk => obtain ⟨_, _, _, q'⟩ := hs; exact False.elim q'
      | cont => obtain ⟨_, _, _, q'⟩ := hs; exact False.elim q'
end
end Ev

set_option maxRecDepth 10000
namespace Ev
open PySem L2 PyProof.Rows
variable {Γ : W0} {lv : Nat} {E : XK} {X : Cx} {N : List Str} {sc : Scope} {fz : Str → Bool} {k : Nat → List Nat → List D → S → Res}

/-! ### raise MachineError(e) -/
structure ErrW (Γ : W0) : Prop where
  ex : ∃ (f : Addr) (fd : FuncData), ErrC Γ.P Γ.g.K Γ.mg Γ.g.ex f fd ∧ PySem.W.findIn Γ.g.K (.ref Γ.g.ex) "__init__" = some (some (.ref f)) ∧ PySem.W.typeIn Γ.g.K (.ref f) = some (.type "function") ∧ Γ.mg "MachineError" = some (.ref Γ.g.ex)
theorem ErrC.binds {P : Program} {K : PySem.W.Frag} {mg : Str → Option Value} {C f : Addr} {fd : FuncData} (F : ErrC P K mg C f fd) : Binds K fd ["self", "code"] [] := by
  obtain ⟨oc, kV, doc, pm, ct, od, an, osl, ccs, csl, ccl, cl, cdd, cld, vc, file, tf, cda, cc, cdD, params, sc, ar, qual, e, lk, hcd, lc, hv2, hfile, lcc, hcls, har, hself, S, hsup, hbind⟩ := F.ex
  exact .all hbind
theorem raise_heap {H1 : Hp} {a C dx : Addr} {v : V} (ha : H1 a = none) (hd : dx ≠ a) : upd (del (upd (upd (upd H1 a (exo a C none)) dx (exd dx [("code", v)])) a (exo a C (some dx))) a) dx (.xd [("code", v)]) = upd H1 dx (.xd [("code", v)]) := by
  funext b
  by_cases h1 : b = dx
  · subst h1
    rw [upd_same, upd_same]
  · rw [upd_ne h1, upd_ne h1]
    by_cases h2 : b = a
    · subst h2
      rw [del_same, ha]
    · rw [del_ne h2, upd_ne h2, upd_ne h1, upd_ne h2]
theorem w_raise {e : Expr} {ra : ES} {p pos pos' : Pos} (h : CxW Γ lv E X N sc fz) (F : ErrW Γ) (hg : glB sc "MachineError" = true) (he : PE X e (tE Γ.g E k ra)) (hs : starEach [e] X.env = (false, eval e X.env) :: starEach [] X.env) :
    PS X (.Raise (some (.Call (.Name "MachineError" p) [e] [] pos)) none pos') (tSS Γ.g E k (sRaise ra)) := by
  obtain ⟨f, fd, F, iC, tI, hm⟩ := F.ex
  have bi := F.binds
  have nC := F.noC
  have T := F.T
  have F1 := ok_init (w := Γ.w) (base := Γ.base) F
  rw [← h.pP, ← h.pw, ← h.pK, ← h.pmg, ← h.pb] at F1
  rw [← h.pK] at T iC tI bi
  refine PS.imp (ps_raise h.calm h.tk (pmk_oex T iC tI F1 (h.room.mono h.two) bi .nil passL (h.gl hg) (by rw [h.pmg]; exact hm) (sa_cons he sa_nil hs) (glB_db hg) hs rfl)) fun σ H Dd ⟨B, α, ρ, s, hR, hE, q⟩ => ?_
  refine ⟨B, α, ρ, s, hR, hE, ?_⟩
  have q' := PRes.bndS q
  show PRss Γ.g E B α H ((ra ⟨k, B⟩ ρ s).bndA fun x s => .ok [x] s) _
  cases hz : ra ⟨k, B⟩ ρ s with
  | exc c s1 => rw [hz] at q'; exact q'
  | fail => rw [hz] at q'; exact q'
  | ok d s1 =>
    rw [hz] at q'
    intro α1 H1 vs e1 R1 r1
    obtain ⟨v, rfl, rv1⟩ := r1.one
    obtain ⟨α2, d2, s2, e2, R2, r2, h2⟩ := q' α1 H1 v e1 R1 rv1
    refine ⟨by show 1 ≤ 1000; decide, fun a ha => ⟨a, v, rfl, upd_same, fun dx n1 n2 => ?_⟩⟩
    have hd1 : H1 dx = none := by rw [upd_ne n2] at n1; exact n1
    refine ⟨rfl, dx, _, upd_same, by rw [upd_ne n2, upd_same], hd1, ?_⟩
    rw [raise_heap ha n2]
    have eT : Ext Γ.g.K α2 α2 H1 (upd H1 dx (.xd [("code", v)])) := .newT hd1
    exact h2 α2 _ v dx eT (R2.newT hd1) (r2.ext eT) upd_same
end Ev

set_option maxRecDepth 10000
namespace Ev
open PySem L2 PyProof.Rows
variable {Γ : W0} {lo : Nat} {E : XK} {X : Cx} {N : List Str} {sc : Scope} {fz : Str → Bool} {k : Nat → List Nat → List D → S → Res}

/-! ### _law_told(lambda: ..) -/
/-- the error's code is given back -/
def TTc (K : PySem.W.Frag) (CS : Addr) : (XK → Hp → VK → Prop) → Hp → VK → Prop := fun tl H Q =>
  tl (fun cls d H' => ∃ b, PySem.W.exmOne K cls (.ref CS) = some b ∧ (b = true → cls = .ref CS ∧ ∃ dx v, d = some dx ∧ H' dx = some (.xd [("code", v)]) ∧ Q v H') ∧ (b = false → False)) H Q
/-- a name, in a frame of its length -/
theorem pe_varL {X : Cx} {i : Nat} {x : Str} {pos : Pos} (m : Nat) (hm : X.N.length = m) (hN : X.N[i]? = some x) (hv : Vis X.env.scope x) (hd : (x == ("__debug__" : Str)) = false) (hcd : (x == ("__classdict__" : Str)) = false) : PE X (.Name x pos) (fun σ H Q => σ.length = m → tVar i σ H Q) :=
  ⟨fun pins s σ H Q I q => (pe_var hN hv hd hcd).run pins s σ H Q I (q (I.len.trans hm))⟩
theorem told_code {x a e n q : Str} {sg : Scope} {g CS : Addr} {cdg : Value} {p1 p2 p3 p4 p5 p6 p7 p8 p9 : Pos} (T : XfC X.K CS) (hno : PySem.W.findIn X.K (.ref CS) "code" = some none) (hnd : ([a, n] : List Str).Nodup) (hge : sg.names.lookup e = some .globalImplicit) (hme : X.mg e = some (.ref CS)) (hde : (e == ("__debug__" : Str)) = false)
    (hn : sg.names.lookup n = some .local) (hn1 : (n == ("__debug__" : Str)) = false) (hn2 : (n == ("__classdict__" : Str)) = false) :
    LamX.GivesTo X [a, n] x sg g cdg [.Try [.Return (some (.Call (.Name a p1) [] [] p2)) p3] [.ExceptHandler (some (.Name e p4)) (some n) [.Return (some (.Attribute (.Name n p5) "code" p6)) p7] p8] [] [] p9] a q (TTc X.K CS) := by
  intro f c' s H Q tl act hc h
  have hgl : Gl (cxOf C8.CX0 X.prog X.w X.K X.mg X.base [a, n] x sg g cdg X.A X.stack s H C8.E0).nox e := hge
  refine ⟨_, pss_one (ps_try_as (X := (cxOf C8.CX0 X.prog X.w X.K X.mg X.base [a, n] x sg g cdg X.A X.stack s H C8.E0).nox) (i := 1) (c := .ref CS)
      (tb := fun W D σ H => ∃ Ech : XK, (∀ cls d σ' H', Ech cls d H' → W cls d σ' H') ∧ σ[0]? = some (some (.ref f)) ∧ H c' = some (LamX.CodeO c' q) ∧ tl Ech H D.rt)
      rfl rfl hnd rfl hn ⟨hgl, hde, .inl hme⟩ L2.takes0 (fun W pn xe tk _ => ?_) (fun ae oe cls d pn hz hf => pss_one (ps_ret (pe_xf T hno hz hf (pe_varL (i := 1) 2 rfl rfl (.inl hn) hn1 hn2) rfl)))), ?_⟩
  · refine ⟨fun pins s' σ H' D I h' => ?_⟩
    obtain ⟨Ech, hW, h1, h2, h3⟩ := h'
    exact (pss_one (ps_ret (pos := p3) (act W pn xe Ech p1 p2 tk hW))).run pins s' σ H' D I ⟨h1, h2, h3⟩
  · refine ⟨fun cls d H' => ∃ b, PySem.W.exmOne X.K cls (.ref CS) = some b ∧ (b = true → cls = .ref CS ∧ ∃ dx v, d = some dx ∧ H' dx = some (.xd [("code", v)]) ∧ Q v H') ∧ (b = false → False), fun cls d σ' H' hh => ?_, rfl, hc, h⟩
    obtain ⟨b, e1, e2, e3⟩ := hh
    refine ⟨b, e1, fun hb ae hae => ?_, fun hb => (e3 hb).elim⟩
    obtain ⟨ec, dx, v, ed, hx, q⟩ := e2 hb
    refine fun hlen => ⟨.ref ae, ?_, rfl, ec, dx, _, v, ed, hx, by simp [List.lookup], q⟩
    have hl : (σ'.set 1 (some (V.ref ae))).length = 2 := hlen
    rw [List.length_set] at hl
    rw [List.getElem?_set_self (by omega)]
/-- what is known of the def that tells -/
structure ToldC (Γ : W0) : Prop where
  ex : ∃ (g : Addr) (oc kV doc pm cdv ct : Value) (od an : Option Addr) (osl : Array (Option Value)) (pg : Arguments) (sg : Scope) (p1 p2 p3 p4 p5 p6 p7 p8 p9 : Pos),
    Γ.mg "_law_told" = some (.ref g) ∧ PySem.W.keepIn Γ.g.K (.ref g) = true ∧
    Γ.g.K.lookup g = some ⟨oc, od, .func (PySem.W.fnOf "_law_told" "_law_told" pg [.Try [.Return (some (.Call (.Name "call" p1) [] [] p2)) p3] [.ExceptHandler (some (.Name "MachineError" p4)) (some "e") [.Return (some (.Attribute (.Name "e" p5) "code" p6)) p7] p8] [] [] p9] sg .none kV doc pm an cdv ct), osl⟩ ∧
    PySem.W.codeIn Γ.g.K cdv "_law_told" = true ∧ L2.Binds Γ.g.K (PySem.W.fnOf "_law_told" "_law_told" pg [.Try [.Return (some (.Call (.Name "call" p1) [] [] p2)) p3] [.ExceptHandler (some (.Name "MachineError" p4)) (some "e") [.Return (some (.Attribute (.Name "e" p5) "code" p6)) p7] p8] [] [] p9] sg .none kV doc pm an cdv ct) ["call"] [] ∧
    FnScope ["call", "e"] ["call"] sg ∧ Vis sg "call" ∧ sg.names.lookup ("MachineError" : Str) = some .globalImplicit ∧ sg.names.lookup ("e" : Str) = some .local
  xf : XfC Γ.g.K Γ.g.ex
  noC : PySem.W.findIn Γ.g.K (.ref Γ.g.ex) "code" = some none
  hm : Γ.mg "MachineError" = some (.ref Γ.g.ex)
  exm : PySem.W.exmOne Γ.g.K (.ref Γ.g.ex) (.ref Γ.g.ex) = some true
/-- lambdas may be made here: the code object and its table -/
structure LamAt (Γ : W0) (lo : Nat) (X : Cx) : Prop where
  room : Room (lo + 2) X.A
  ex : ∃ (c P : Addr), LamX.TabB X.base X.mg c P ∧ X.env.code = .ref c ∧ (P, X.env.qual ++ "<lambda>") ∈ Γ.g.T ∧ ∀ p ∈ Γ.g.T, p.1 = P → p.2 = X.env.qual ++ "<lambda>"
theorem ExtN.ext {K : PySem.W.Frag} {α : List Addr} {H H1 : Hp} (e : LamX.ExtN H H1) : Ext K α α H H1 := by
  refine ⟨⟨fun _ _ h => h, fun a xs h => ?_, fun a xs h => ?_⟩, fun a o h t n => ⟨e a o h t, n⟩, fun a o k h => e _ _ h (fun _ z => by cases z)⟩
  · rcases h with (h | ⟨o, h⟩) | h
    · exact .inl (.inl (e _ _ h (fun _ z => by cases z)))
    · exact .inl (.inr ⟨o, e _ _ h (fun _ z => by cases z)⟩)
    · exact .inr h
  · rcases h with ⟨o, h⟩ | h
    · exact .inl ⟨o, e _ _ h (fun _ z => by cases z)⟩
    · exact .inr h
theorem R.extN {g : G} {B : List Nat} {α : List Addr} {H H1 : Hp} {s : S} (r : R g B α H s) (e : LamX.ExtN H H1) (t : LamX.Tabs g.T H1) : R g B α H1 s := by
  refine ⟨r.len, r.nd, fun n a o ha ho => ?_, r.blk, t, r.ord⟩
  have q := r.obj n a o ha ho
  have x := (ExtN.ext (K := g.K) (α := α) e).e0
  cases q with
  | lst h1 h2 => exact .lst (e _ _ h1 fun _ z => by cases z) (h2.ext0 x)
  | dct h1 h2 => exact .dct (e _ _ h1 fun _ z => by cases z) (h2.ext0 x)
  | dfz h1 h2 => exact .dfz (e _ _ h1 fun _ z => by cases z) (h2.ext0 x)
  | ins c h1 h2 => exact .ins c (e _ _ h1 fun _ z => by cases z) (h2.ext0 x)
theorem w_told {ra : ES} {params : Arguments} {body : Expr} {scope : Scope} {p lpos pos : Pos} (h : CxW Γ lo E X N sc fz) (hL : LamAt Γ lo X) (F : ToldC Γ) (hg : glB sc "_law_told" = true) (L : LamX.lamSB sc scope = true) (hdef : defaultsOf params X.env = ([], []))
    (hbind : ∀ (q : Str) (cl : List (Str × Addr)) (pm cv ctv : Value), bindArgs (PySem.W.kla_fn "<lambda>" q params body scope cl pm cv ctv) ⟨[], []⟩ = pure [])
    (hb : ∀ (Y : Cx) (E : XK), CxW Γ lo E Y N scope (fun _ => false) → PE Y body (tE Γ.g E k ra)) : PE X (.Call (.Name "_law_told" p) [.Lambda params body scope lpos] [] pos) (tE Γ.g E k (eTold ra)) := by
  obtain ⟨gd, oc, kV, doc, pm, cdv, ct, od, an, osl, pg, sg, p1, p2, p3, p4, p5, p6, p7, p8, p9, hm, hk, lk, hcg, hbi, Sg, hva, hge, hn⟩ := F.ex
  obtain ⟨c, Pt, TB, hcode, hmT, hu⟩ := hL.ex
  have T := F.xf
  have nC := F.noC
  rw [← h.pK] at lk hk hcg hbi T nC
  have hme : X.mg "MachineError" = some (.ref Γ.g.ex) := by rw [h.pmg]; exact F.hm
  refine PE.imp (LamX.pe_lamcall (T := Γ.g.T) (TT := TTc X.K Γ.g.ex) (t := fun E => tE Γ.g E k ra) (h.gl hg) (by rw [h.pmg]; exact hm) hk lk hcg hbi Sg rfl hva (told_code T nC (by decide +kernel) hge hme (by decide) hn (by decide) (by decide)) TB hcode hmT hu hL.room (LamX.lamS_by (by rw [h.psc]; exact L)) hdef hbind
    (fun A outer s H E f c' hr => ?_) (glB_db hg) (by decide) (by decide)) fun σ H Q q => ?_
  · exact hb _ E ⟨h.pP, h.pw, h.pK, h.pmg, h.pb, h.pN, rfl, rfl, h.nd, hr, h.two, rfl, passes_of rfl, passes_call (takes_of rfl rfl rfl rfl) fun _ _ _ _ q => q, takes_of rfl rfl rfl rfl⟩
  · obtain ⟨B, α, ρ, s, hR, hE, q⟩ := q
    refine ⟨hR.tabs, fun H1 eN T1 => ?_⟩
    have e1 : Ext Γ.g.K α α H H1 := ExtN.ext eN
    have R1 := hR.extN eN T1
    refine ⟨s.length :: B, α, ρ, s, R1.push, hE.ext e1, ?_⟩
    have q2 := (PRes.fin hR q).ext e1
    show PRes Γ.g _ (s.length :: B) α H1 (ra ⟨k, s.length :: B⟩ ρ s) Q
    revert q2
    show PRes Γ.g E (s.length :: B) α H1 (match ra ⟨k, s.length :: B⟩ ρ s with | .ok d s => .ok d s | .exc k s => .ok k s | .fail => .fail) Q → _
    cases ra ⟨k, s.length :: B⟩ ρ s with
    | ok d s' => exact fun q2 => q2
    | fail => exact fun q2 => q2
    | exc c s' => exact fun q2 α' H' v dx e r rv hd => ⟨true, by rw [h.pK]; exact F.exm, fun _ => ⟨rfl, dx, v, rfl, hd, q2 α' H' v e r rv⟩, fun z => by cases z⟩
end Ev

set_option maxRecDepth 10000
namespace Ev
open PySem L2 PyProof.Rows HT

/-! ### t[::-1] of a tuple -/
section
variable {prog : Program} {w : World} {A : Around} {E : Value → Shared → Prop} {s : Shared}
theorem rev_adjust (n : Nat) : Builtin.Slice.sliceAdjust none none (-1) (n : Int) = ((n : Int) - 1, -1) := by
  unfold Builtin.Slice.sliceAdjust
  simp
theorem rev_places (n : Nat) : Builtin.Slice.slicePlaces ((n : Int) - 1) (-1) (-1) = n := by
  unfold Builtin.Slice.slicePlaces
  simp
  try omega
theorem rev_pick (xs : Array Value) : ((List.range xs.size).filterMap fun (m : Nat) => xs[((xs.size : Int) - 1 + (m : Int) * (-1)).toNat]?).toArray = xs.toList.reverse.toArray := by
  have e : ((List.range xs.size).filterMap fun (m : Nat) => xs[((xs.size : Int) - 1 + (m : Int) * (-1)).toNat]?) = ((List.range xs.size).map fun m => xs.size - 1 - m).filterMap (xs[·]?) := by
    rw [List.filterMap_map]
    congr 1
    funext m
    show xs[((xs.size : Int) - 1 + (m : Int) * (-1)).toNat]? = xs[xs.size - 1 - m]?
    have : ((xs.size : Int) - 1 + (m : Int) * (-1)).toNat = xs.size - 1 - m := by omega
    rw [this]
  rw [e, PySem.W.krv_range, List.filterMap_reverse, PySem.W.krv_all]
theorem applied_rev {sl : Addr} {vs : Value} {n : Nat} {Q : Int × Int × Nat → Shared → Prop} (hs : s.heap.IsSliceOf sl .none .none vs) (ps : IsPart vs (some (-1))) (h : Q ((n : Int) - 1, -1, n) s) :
    wpAny (model prog w) A (Builtin.Slice.sliceApplied (.ref sl) (pure (n : Int))) Q E s := by
  obtain ⟨os, hos, hcs, hds⟩ := id hs
  unfold Builtin.Slice.sliceApplied Builtin.Slice.sliceFields
  refine wpAny_bind (wpAny_bind (wpAny_field hos hds (x := .none) rfl (wpAny_bind (wpAny_field hos hds (x := .none) rfl (wpAny_bind (wpAny_field hos hds (x := vs) rfl (wpAny_pure ?_)))))))
  refine wpAny_bind (slicePart_ ps ?_)
  show wpAny _ _ (if ((-1 : Int) == 0) = true then _ else _) _ _ s
  rw [if_neg (by decide)]
  refine wpAny_bind (slicePart_ .none (wpAny_bind (slicePart_ .none (wpAny_bind (wpAny_pure ?_)))))
  show wpAny _ _ (match Builtin.Slice.sliceAdjust none none (-1) (n : Int) with | (lo, hi) => pure (lo, (-1 : Int), Builtin.Slice.slicePlaces lo hi (-1))) _ _ s
  rw [rev_adjust n]
  show wpAny _ _ (pure ((n : Int) - 1, (-1 : Int), Builtin.Slice.slicePlaces ((n : Int) - 1) (-1) (-1))) _ _ s
  rw [rev_places]
  exact wpAny_pure h
theorem item_rev {t sl : Addr} {items : Array Value} {vs : Value} {Q : Value → Shared → Prop} (ht : IsTup s.heap t items) (hs : s.heap.IsSliceOf sl .none .none vs) (ps : IsPart vs (some (-1)))
    (h : Q (.ref s.heap.objs.size) { s with heap := s.heap.push { cls := .type "tuple", data := .seq items.toList.reverse.toArray } }) (hsz : items.size ≤ sizeLine) : wpAny (model prog w) A (getItem (.ref t) (.ref sl)) Q E s := by
  have htake : sizeOk (.seq items.toList.reverse.toArray) := by
    show items.toList.reverse.toArray.size ≤ sizeLine
    rw [List.size_toArray, List.length_reverse, Array.length_toList]
    exact hsz
  obtain ⟨os, hos, hcs, hds⟩ := id hs
  have hTs : s.TypeIs (.ref sl) "slice" := ⟨os, hos, hcs⟩
  unfold getItem
  try with_reducible refine wpAny_holding ?_
  first | refine wpAny_bind (wpAny_pure ?_) | skip
  refine wpAny_bind (wpAny_sequenceKey ht.typeIs (by decide) ?_)
  refine wpAny_bind (wpAny_callSpecial?_slot (name := Str.ofString "__getitem__") ht.typeIs PyProof.Rows.slot_tuple_getitem (wpAny_call_entry PyProof.Rows.slot_tuple_getitem ht.typeIs entry_tuple_getitem ?_ (args_tuple_getitem _ _)))
  refine wpAny_bind (m := Builtin.Tuple.tupleItemsOf (.ref t)) (tupleItemsOf_ ht (wpAny_bind (wpAny_typeOf hTs ?_)))
  rw [if_pos (by decide)]
  refine wpAny_bind (applied_rev hs ps ?_)
  have hno : ¬ (((items.size : Int) - 1 == 0 && (-1 : Int) == 1 && items.size == items.size) = true) := by
    intro q
    rw [Bool.and_eq_true, Bool.and_eq_true] at q
    exact absurd q.1.2 (by decide)
  show wpAny _ _ (if ((items.size : Int) - 1 == 0 && (-1 : Int) == 1 && items.size == items.size) = true then _ else _) _ _ s
  rw [if_neg hno, rev_pick]
  first
    | exact wpAny_bind (m := Builtin.Tuple.tupleExact _) (wpAny_newObj_type (wpAny_pure ⟨_, rfl, wpAny_pure h⟩) htake)
    | exact wpAny_bind (m := Builtin.Tuple.tupleExact _) (wpAny_newObj_type (wpAny_bind (wpAny_pure (wpAny_pure ⟨_, rfl, wpAny_pure h⟩))) htake)
    | exact wpAny_bind (wpAny_bind (m := Builtin.Tuple.tupleExact _) (wpAny_newObj_type (wpAny_pure ⟨_, rfl, wpAny_pure h⟩) htake))
end
section
variable {X : Cx} {g : G} {E : XK} {k : Nat → List Nat → List D → S → Res} {e : Expr} {ra : ES} {te : TE}
def tRevA (K : PySem.W.Frag) (te : TE) : TE := fun σ H Q => te σ H fun x H1 => ∃ a xs, x = .ref a ∧ ((SqL K H1 a xs ∧ ∀ p, H1 p = none → Q (.ref p) (upd H1 p (.lst xs.reverse))) ∨ (SqT K H1 a xs ∧ ∀ p, H1 p = none → Q (.ref p) (upd H1 p (.tup xs.reverse))))
theorem pe_revA {j : Nat} {p1 p2 p3 pos : Pos} (he : PE X e te) : PE X (.Subscript e (.Slice none none (some (.UnaryOp .USub (.Constant (.int 1) j p1) p2)) p3) pos) (tRevA X.K te) := by
  refine ⟨fun pins s σ H Q I h => Subscript_ (thn (he.run pins s σ H _ I h) fun v s1 ⟨x, H1, I1, r1, a, xs, ex, q⟩ => ?_)⟩
  subst ex
  cases r1
  have hst : PO X (some (.UnaryOp .USub (.Constant (.int 1) j p1) p2)) (tPart (tUn (rU fun i => .int (-i)) (tC (.int 1)))) := po_some (pe_un un_neg pe_int)
  refine wpAny_Slice (thn (po_none.run pins s1 σ H1 (fun o H2 => o = none ∧ H2 = H1) I1 ⟨rfl, rfl⟩) fun vl s2 ⟨l, H2, I2, pl, el, e2⟩ => thn (po_none.run pins s2 σ H2 (fun o H3 => o = none ∧ H3 = H2) I2 ⟨rfl, rfl⟩) fun vu s3 ⟨u, H3, I3, pu, eu, e3⟩ => ?_)
  subst el e2 eu e3
  refine thn (hst.run pins s3 σ H3 (fun o H4 => o = some (-1) ∧ H4 = H3) I3 ⟨1, rfl, -1, rfl, rfl, rfl⟩) fun vs s4 ⟨o, H4, I4, ps, eo, e4⟩ => ?_
  subst eo e4
  have I5 : Inv X pins σ H4 { s4 with heap := s4.heap.push { cls := .type "slice", data := .fields #[vl, vu, vs] } } := I4.kept (t' := s4.toks) fun b ob q => Heap.get?_push_of_some _ q
  show wpAny (model X.prog X.w) X.A (subscriptTail e (.Slice none none (some (.UnaryOp .USub (.Constant (.int 1) j p1) p2)) p3) (.ref a) (.ref s4.heap.objs.size)) (EP X pins σ Q) X.xe { s4 with heap := s4.heap.push { cls := .type "slice", data := .fields #[vl, vu, vs] } }
  rcases q with ⟨hx, q⟩ | ⟨hx, q⟩
  · obtain ⟨its, r, ht, hz⟩ := I5.list hx
    have hlen := r.length
    refine tail_any (ops := [.ref a, .ref s4.heap.objs.size]) ht.isList.typeIs (PySem.slot_list_getitem.lookup) ?_ (by with_unfolding_all rfl)
    refine wpAny_getItem_list_slice ht.isList (Heap.IsSliceOf.new _ vl vu vs) pl pu ps (by decide) ?_ (by rw [List.size_toArray]; omega)
    rw [PySem.W.krv_pick]
    exact ⟨.ref _, _, I5.laid (t' := s4.toks) (o := .lst xs.reverse) (fun b ob q => Heap.get?_push_of_some _ q) (Nat.le_refl _) ⟨by rw [List.length_reverse]; exact hz, _, 0, r.reverse, Heap.get?_push_size _ rfl⟩, rfl, q _ (I5.hok.fresh (Nat.le_refl _))⟩
  · obtain ⟨its, r, ht, hz⟩ := I5.tuple hx
    have hlen := r.length
    cases pl
    cases pu
    refine tail_any (ops := [.ref a, .ref s4.heap.objs.size]) ht.typeIs (PyProof.Rows.slot_tuple_getitem.lookup) ?_ (by with_unfolding_all rfl)
    refine item_rev ht (Heap.IsSliceOf.new _ .none .none vs) ps ?_ (by rw [List.size_toArray]; omega)
    exact ⟨.ref _, _, I5.laid (t' := s4.toks) (o := .tup xs.reverse) (fun b ob q => Heap.get?_push_of_some _ q) (Nat.le_refl _) ⟨by rw [List.length_reverse]; exact hz, _, r.reverse, IsTup.new _ _⟩, rfl, q _ (I5.hok.fresh (Nat.le_refl _))⟩
theorem se_rev {j : Nat} {p1 p2 p3 pos : Pos} (hK : X.K = g.K) (ha : PE X e (tE g E k ra)) : PE X (.Subscript e (.Slice none none (some (.UnaryOp .USub (.Constant (.int 1) j p1) p2)) p3) pos) (tE g E k (eUn rvD ra)) :=
  PE.imp (pe_revA ha) fun σ H Q h => by
    obtain ⟨B, α, ρ, s, hR, hE, h⟩ := one (op := fun _ => rvD) h
    refine ⟨B, α, ρ, s, hR, hE, h.imp fun v H1 ⟨B', α1, s1, d, R1, r1, h1⟩ => ?_⟩
    rw [hK]
    cases r1 with
    | @tup a xs ds h2 h3 => exact ⟨a, xs, rfl, .inr ⟨h2, tup_ok R1 h1 h3.reverse⟩⟩
    | @ref a n h2 =>
      simp only [rvD] at h1
      split at h1
      · rename_i ds hl
        obtain ⟨p, xs, ep, hn, ho, hp, h4⟩ := lst_of R1 (.ref h2) hl
        cases ep
        exact ⟨a, xs, rfl, .inl ⟨.of hp, al_ok R1 h1 h4.reverse⟩⟩
      · exact h1.elim
    | _ => exact (show False from h1).elim

/-! ### x op= e -/
def sAug (i : Nat) (f : D → D → S → Res) (e : ES) : SS := fun c ρ s => match gv ρ i with | .und => .fail | x => (e c ρ s).bndS fun y s => (f x y s).bndS fun z s => .nx (sv ρ i z) s
theorem ip_int {o : Operator} {c : Int → Int → Prop} {h : Int → Int → V} {op : D → D → S → Res} (ho : OpR X (inplaceOp o) (rI c h))
    (hi : ∀ B α H s d1 d2 Q, PRes g E B α H (op d1 d2 s) Q → ∃ i j d, d1 = .int i ∧ d2 = .int j ∧ op d1 d2 s = .ok d s ∧ c i j ∧ RV g.K α H (h i j) d) : OpD X g E (inplaceOp o) fun _ => op := opd_int ho hi
def iAdd : D → D → S → Res
  | .int i, .int j, s => .ok (.int (i + j)) s
  | _, _, _ => .fail
def iMul : D → D → S → Res
  | .int i, .int j, s => if mulOk i j then .ok (.int (i * j)) s else .fail
  | _, _, _ => .fail
theorem ipd_add : OpD X g E (inplaceOp .Add) fun _ => iAdd := opd_int0 iop_add fun B α H s d1 d2 Q h => by
  cases d1 <;> cases d2 <;> first | exact (show False from h).elim | exact ⟨_, _, _, rfl, rfl, rfl, .int _⟩
theorem ipd_sub : OpD X g E (inplaceOp .Sub) fun _ => bSub := opd_int0 iop_sub fun B α H s d1 d2 Q h => by
  cases d1 <;> cases d2 <;> first | exact (show False from h).elim | exact ⟨_, _, _, rfl, rfl, rfl, .int _⟩
theorem ipd_xor : OpD X g E (inplaceOp .BitXor) fun _ => bXor := opd_int0 iop_xor fun B α H s d1 d2 Q h => by
  cases d1 <;> cases d2 <;> first | exact (show False from h).elim | exact ⟨_, _, _, rfl, rfl, rfl, .int _⟩
theorem ipd_div : OpD X g E (inplaceOp .FloorDiv) fun _ => bDiv := opd_int iop_fdivW fun B α H s d1 d2 Q h => by
  cases d1 <;> cases d2 <;> try exact (show False from h).elim
  simp only [bDiv] at h ⊢
  split at h
  · rename_i hc
    exact ⟨_, _, _, rfl, rfl, if_pos hc, hc, .int _⟩
  · exact h.elim
theorem ipd_mul : OpD X g E (inplaceOp .Mult) fun _ => iMul := opd_int iop_mul fun B α H s d1 d2 Q h => by
  cases d1 <;> cases d2 <;> try exact (show False from h).elim
  simp only [iMul] at h ⊢
  split at h
  · rename_i hc
    refine ⟨_, _, _, rfl, rfl, if_pos hc, ?_, .int _⟩
    unfold mulOk at hc
    rw [Bool.or_eq_true] at hc
    exact hc.imp of_decide_eq_true of_decide_eq_true
  · exact h.elim
theorem ss_aug {i : Nat} {x : Str} {o : Operator} {f : D → D → S → Res} {p' pos : Pos} (hN : X.N.Nodup) (hi : X.N[i]? = some x) (hx : Loc X.env.scope x) (hf : X.fn x = true ∨ X.env.scope.names.lookup x = some .local) (ho : OpD X g E (inplaceOp o) fun _ => f) (ha : PE X e (tE g E k ra)) :
    PS X (.AugAssign (.Name x p') o e pos) (tSS g E k (sAug i f ra)) := by
  refine PS.imp (ps_aug (ti := fun x y H Q => ∃ B α s d1 d2, R g B α H s ∧ RV g.K α H x d1 ∧ RV g.K α H y d2 ∧ PRes g E B α H (f d1 d2 s) Q) hN hi hx ha (fun pins s σ H x y v u Q I rx ry q => ho pins s σ H x y v u Q I rx ry q) hf) fun σ H Dd ⟨B, α, ρ, s, hR, hE, h⟩ => ?_
  have hn : gv ρ i ≠ .und := fun z => by
    simp only [sAug, z] at h
    exact h.elim
  obtain ⟨v, hv, rv⟩ := hE.2 i hn
  have h' : POut g E B α H ((ra ⟨k, B⟩ ρ s).bndS fun y s => (f (gv ρ i) y s).bndS fun z s => .nx (sv ρ i z) s) Dd := by
    unfold sAug at h
    split at h
    · rename_i z
      exact (hn z).elim
    · exact h
  refine ⟨v, hv, B, α, ρ, s, hR, hE, (PRes.bndS h').imp fun w H1 ⟨α1, d, s1, e1, R1, r1, h1⟩ => ?_⟩
  refine ⟨B, α1, s1, gv ρ i, d, R1, rv.ext e1, r1, (PRes.bndS h1).imp fun z H2 ⟨α2, d2, s2, e2, R2, r2, h2⟩ => ?_⟩
  exact h2 α2 H2 _ .refl R2 (((hE.ext e1).ext e2).setw r2)

/-! ### a, b = x, y without a tuple -/
def sPar2 (i j : Nat) (a : AS) : SS := fun c ρ s => (a c ρ s).bndS fun ds s => match ds with | [v, w] => .nx (sv (sv ρ i v) j w) s | _ => .fail
def sPar3 (i j l : Nat) (a : AS) : SS := fun c ρ s => (a c ρ s).bndS fun ds s => match ds with | [u, v, w] => .nx (sv (sv (sv ρ i u) j v) l w) s | _ => .fail
theorem PRss.bndS_P {B : List Nat} {α : List Addr} {H : Hp} {f : List D → S → Out} : ∀ {r : Rss} {Q : Ends}, POut g E B α H (r.bndS f) Q → PRss g E B α H r fun v H1 => ∃ α1 d s, Ext g.K α α1 H H1 ∧ R g B α1 H1 s ∧ RVs g.K α1 H1 v d ∧ POut g E B α1 H1 (f d s) Q
  | .ok _ _, _, h => fun _ _ _ e r rv => ⟨_, _, _, e, r, rv, POut.ext h e⟩
  | .exc _ _, _, h => h
  | .fail, _, h => h
theorem ss_par {i j : Nat} {x y : Str} {a b : Expr} {as : AS} {px py pt pos : Pos} {kt k2 pt2} (hc : X.calm = true) (hN : X.N.Nodup) (hi : X.N[i]? = some x) (hj : X.N[j]? = some y) (hij : i ≠ j) (hx : X.env.scope.names.lookup x = some .local) (hy : X.env.scope.names.lookup y = some .local) (ha : PA X [a, b] (tA g E k as))
    (hw : swappedStores [.Tuple [.Name x px, .Name y py] kt pt] (.Tuple [a, b] k2 pt2) X.env = pure (some [x, y])) (hs : swapsWithSole [.Tuple [.Name x px, .Name y py] kt pt] (.Tuple [a, b] k2 pt2) pos.line X.env = pure false) :
    PS X (.Assign [.Tuple [.Name x px, .Name y py] kt pt] (.Tuple [a, b] k2 pt2) pos) (tSS g E k (sPar2 i j as)) :=
  PS.imp (ps_par hc hN hi hj hij hx hy ha hw hs) fun σ H Dd ⟨B, α, ρ, s, hR, hE, h⟩ => ⟨B, α, ρ, s, hR, hE, (PRss.bndS_P h).imp fun vs H1 ⟨α1, ds, s1, e1, R1, r1, h1⟩ => by
    split at h1
    · cases r1 with
      | cons rv t =>
        cases t with
        | cons rw t =>
          cases t
          exact ⟨_, _, rfl, h1 α1 H1 _ .refl R1 (((hE.ext e1).setw rv).setw rw)⟩
    · exact h1.elim⟩
theorem ss_par3 {i j l : Nat} {x y z : Str} {a b c : Expr} {as : AS} {px py pz pt pos : Pos} {kt k2 pt2} (hc : X.calm = true) (hN : X.N.Nodup) (hi : X.N[i]? = some x) (hj : X.N[j]? = some y) (hl : X.N[l]? = some z) (hij : i ≠ j) (hil : i ≠ l) (hjl : j ≠ l) (hx : X.env.scope.names.lookup x = some .local) (hy : X.env.scope.names.lookup y = some .local)
    (hz : X.env.scope.names.lookup z = some .local) (ha : PA X [a, b, c] (tA g E k as)) (hw : swappedStores [.Tuple [.Name x px, .Name y py, .Name z pz] kt pt] (.Tuple [a, b, c] k2 pt2) X.env = pure (some [x, y, z])) (hs : swapsWithSole [.Tuple [.Name x px, .Name y py, .Name z pz] kt pt] (.Tuple [a, b, c] k2 pt2) pos.line X.env = pure false) :
    PS X (.Assign [.Tuple [.Name x px, .Name y py, .Name z pz] kt pt] (.Tuple [a, b, c] k2 pt2) pos) (tSS g E k (sPar3 i j l as)) :=
  PS.imp (ps_par3 hc hN hi hj hl hij hil hjl hx hy hz ha hw hs) fun σ H Dd ⟨B, α, ρ, s, hR, hE, h⟩ => ⟨B, α, ρ, s, hR, hE, (PRss.bndS_P h).imp fun vs H1 ⟨α1, ds, s1, e1, R1, r1, h1⟩ => by
    split at h1
    · cases r1 with
      | cons ru t =>
        cases t with
        | cons rv t =>
          cases t with
          | cons rw t =>
            cases t
            exact ⟨_, _, _, rfl, h1 α1 H1 _ .refl R1 ((((hE.ext e1).setw ru).setw rv).setw rw)⟩
    · exact h1.elim⟩
/-- o[i] as a target -/
theorem sg_sub (hu : X.A.units + 65 < cLine) {o i : Expr} {ro ri : ES} {pos : Pos} (ho : PE X o (tE g E k ro)) (hi : PE X i (tE g E k ri))
    (ha : ∀ v, assign (.Subscript o i pos) X.env v = (do
      let ov ← holding [v] (eval o X.env)
      let iv ← holding [v, ov] (eval i X.env)
      standAt pos
      holding [v, ov, iv] (setItem ov iv v)
      release [v, ov, iv] [])) : PG X (.Subscript o i pos) (TgD X g E k (tSub ro ri)) :=
  PG.imp (pg_sub ho hi (set_lst hu) ha) fun v σ H Q ⟨B, α, ρ, s, d, hR, hE, rv, q⟩ => by
    refine ⟨B, α, ρ, s, hR, hE, (PRes.bndS q).imp fun o H1 ⟨α1, d1, s1, e1, R1, r1, q1⟩ => ?_⟩
    refine ⟨B, α1, ρ, s1, R1, hE.ext e1, (PRes.bndS q1).imp fun i H2 ⟨α2, d2, s2, e2, R2, r2, q2⟩ => ?_⟩
    dsimp only at q2
    split at q2
    · rename_i s3 hs
      refine ⟨B, α2, s2, d1, d2, d, R2, r1.ext e2, r2, (rv.ext e1).ext e2, s3, hs, fun H' e' R' => ?_⟩
      exact q2 α2 H' σ e' R' (((hE.ext e1).ext e2).ext e')
    · exact q2.elim
end
end Ev

set_option maxRecDepth 10000
namespace Ev
open PySem L2 PyProof.Rows
variable {Γ : W0} {lo : Nat} {E : XK} {X : Cx} {N : List Str} {sc : Scope} {fz : Str → Bool} {k : Nat → List Nat → List D → S → Res}
variable {e a b c o : Expr} {es : List Expr} {ra rb rc ro : ES} {as : AS} {pos p apos cpos : Pos} {tg iter elt cond : Expr}

theorem CxW.u64 (h : CxW Γ lo E X N sc fz) : X.A.units + 64 < cLine := h.room.units
theorem CxW.u65 (h : CxW Γ lo E X N sc fz) : X.A.units + 65 < cLine := by have := h.room.un; omega

/-! ### the rules, with the context in short -/
/-- a built-in name that the text leaves as it is -/
def bltB (sc : Scope) (x : Str) : Bool := glB sc x && !(x == ("__name__" : Str))
theorem bltB_gl {x : Str} (h : bltB sc x = true) : glB sc x = true := by
  simp only [bltB, Bool.and_eq_true] at h
  exact h.1
theorem bltB_nm {x : Str} (h : bltB sc x = true) : x ≠ "__name__" := by
  simp only [bltB, Bool.and_eq_true, Bool.not_eq_true'] at h
  intro e
  subst e
  exact absurd h.2 (by decide)
theorem w_blt {x : Str} {id : String} {op : List D → S → Res} (h : CxW Γ lo E X N sc fz) (hc : CallD X Γ.g E (.builtin id) op) (hg : bltB sc x = true) (hm : Γ.mg x = none) (hv : bootBuiltins x = some (.builtin id)) (ha : PA X (e :: es) (tA Γ.g E k as))
    (he : starEach (e :: es) X.env = (false, eval e X.env) :: starEach es X.env) (hpl : (backTo pos (starEach es X.env)).any (·.1) = false) : PE X (.Call (.Name x p) (e :: es) [] pos) (tE Γ.g E k (eBlt op as)) :=
  se_blt hc (h.gl (bltB_gl hg)) (by rw [h.pmg]; exact hm) hv ha (bltB_nm hg) (glB_db (bltB_gl hg)) he hpl
theorem w_bltT {x : Str} {T : String} {op : List D → S → Res} (h : CxW Γ lo E X N sc fz) (hc : CallD X Γ.g E (.type T) op) (hg : bltB sc x = true) (hm : Γ.mg x = none) (hv : bootBuiltins x = some (.type T)) (ha : PA X (e :: es) (tA Γ.g E k as))
    (he : starEach (e :: es) X.env = (false, eval e X.env) :: starEach es X.env) (hpl : (backTo pos (starEach es X.env)).any (·.1) = false) : PE X (.Call (.Name x p) (e :: es) [] pos) (tE Γ.g E k (eBlt op as)) :=
  se_bltT hc (h.gl (bltB_gl hg)) (by rw [h.pmg]; exact hm) hv ha (bltB_nm hg) (glB_db (bltB_gl hg)) he hpl
theorem bb_len : bootBuiltins "len" = some (.builtin "len") := by kernel_rfl
theorem bb_abs : bootBuiltins "abs" = some (.builtin "abs") := by kernel_rfl
theorem bb_sum : bootBuiltins "sum" = some (.builtin "sum") := by kernel_rfl
theorem bb_all : bootBuiltins "all" = some (.builtin "all") := by kernel_rfl
theorem bb_any : bootBuiltins "any" = some (.builtin "any") := by kernel_rfl
theorem bb_min : bootBuiltins "min" = some (.builtin "min") := by kernel_rfl
theorem bb_max : bootBuiltins "max" = some (.builtin "max") := by kernel_rfl
theorem bb_int : bootBuiltins "int" = some (.type "int") := by kernel_rfl
theorem bb_list : bootBuiltins "list" = some (.type "list") := by kernel_rfl
theorem bb_tuple : bootBuiltins "tuple" = some (.type "tuple") := by kernel_rfl
section
variable (h : CxW Γ lo E X N sc fz) (ha : PA X (e :: es) (tA Γ.g E k as)) (he : starEach (e :: es) X.env = (false, eval e X.env) :: starEach es X.env) (hpl : (backTo pos (starEach es X.env)).any (·.1) = false)
include h ha he hpl
theorem w_len (hg : bltB sc "len" = true) (hm : Γ.mg "len" = none) : PE X (.Call (.Name "len" p) (e :: es) [] pos) (tE Γ.g E k (eBlt lenD as)) := w_blt h (cd_len h.pK) hg hm bb_len ha he hpl
theorem w_abs (hg : bltB sc "abs" = true) (hm : Γ.mg "abs" = none) : PE X (.Call (.Name "abs" p) (e :: es) [] pos) (tE Γ.g E k (eBlt absD as)) := w_blt h cd_abs hg hm bb_abs ha he hpl
theorem w_sum (hg : bltB sc "sum" = true) (hm : Γ.mg "sum" = none) : PE X (.Call (.Name "sum" p) (e :: es) [] pos) (tE Γ.g E k (eBlt sumD as)) := w_blt h (cd_sum h.pK h.calm) hg hm bb_sum ha he hpl
theorem w_all (hg : bltB sc "all" = true) (hm : Γ.mg "all" = none) : PE X (.Call (.Name "all" p) (e :: es) [] pos) (tE Γ.g E k (eBlt allD as)) := w_blt h (cd_all h.pK h.calm) hg hm bb_all ha he hpl
theorem w_any (hg : bltB sc "any" = true) (hm : Γ.mg "any" = none) : PE X (.Call (.Name "any" p) (e :: es) [] pos) (tE Γ.g E k (eBlt anyD as)) := w_blt h (cd_any h.pK h.calm) hg hm bb_any ha he hpl
theorem w_min (hg : bltB sc "min" = true) (hm : Γ.mg "min" = none) : PE X (.Call (.Name "min" p) (e :: es) [] pos) (tE Γ.g E k (eBlt minD as)) := w_blt h (cd_min h.pK h.calm h.u65) hg hm bb_min ha he hpl
theorem w_max (hg : bltB sc "max" = true) (hm : Γ.mg "max" = none) : PE X (.Call (.Name "max" p) (e :: es) [] pos) (tE Γ.g E k (eBlt maxD as)) := w_blt h (cd_max h.pK h.calm h.u65) hg hm bb_max ha he hpl
theorem w_int (hg : bltB sc "int" = true) (hm : Γ.mg "int" = none) : PE X (.Call (.Name "int" p) (e :: es) [] pos) (tE Γ.g E k (eBlt intD as)) := w_bltT h cd_int hg hm bb_int ha he hpl
theorem w_list (hg : bltB sc "list" = true) (hm : Γ.mg "list" = none) : PE X (.Call (.Name "list" p) (e :: es) [] pos) (tE Γ.g E k (eBlt listD as)) := w_bltT h (cd_list h.pK) hg hm bb_list ha he hpl
theorem w_tuple (hg : bltB sc "tuple" = true) (hm : Γ.mg "tuple" = none) : PE X (.Call (.Name "tuple" p) (e :: es) [] pos) (tE Γ.g E k (eBlt tupD as)) := w_bltT h (cd_tup h.pK) hg hm bb_tuple ha he hpl
end
section
variable (h : CxW Γ lo E X N sc fz) (ho : PE X o (tE Γ.g E k ro)) (ha : PA X (e :: es) (tA Γ.g E k as))
  (hfew : ((backTo cpos (starEach (e :: es) X.env)).all (fun x => !x.1) && (backToKw cpos (keywordEach [] X.env)).all (fun x => x.1.isSome)
      && decide ((e :: es).length + ([] : List Keyword).length + (if ([] : List Keyword).isEmpty then 0 else 1) < 30)) = true)
  (hline : (apos.endLine == cpos.line) = true) (hs : starEach (e :: es) X.env = (false, eval e X.env) :: starEach es X.env) (hplain : (backTo cpos (starEach es X.env)).any (·.1) = false)
include h ho ha hfew hline hs hplain
theorem w_append (hbase : attributeBase o "append" X.env (eval o X.env) = eval o X.env) : PE X (.Call (.Attribute o "append" apos) (e :: es) [] cpos) (tE Γ.g E k (eMt isL mAppend ro as)) :=
  se_mt PySem.F.plainAttrs_list PySem.F.slot_list_append PySem.F.type_list_append md_append (fun _ _ _ _ _ _ r rv q => isL_ty h.pK r rv q) ho ha hbase hfew hline hs hplain
theorem w_extend (hbase : attributeBase o "extend" X.env (eval o X.env) = eval o X.env) : PE X (.Call (.Attribute o "extend" apos) (e :: es) [] cpos) (tE Γ.g E k (eMt isL mExtend ro as)) :=
  se_mt PySem.F.plainAttrs_list PySem.F.slot_list_extend PySem.F.type_list_extend (md_extend h.pK) (fun _ _ _ _ _ _ r rv q => isL_ty h.pK r rv q) ho ha hbase hfew hline hs hplain
end
theorem w_pop0 (h : CxW Γ lo E X N sc fz) (ho : PE X o (tE Γ.g E k ro)) (hbase : attributeBase o "pop" X.env (eval o X.env) = eval o X.env) (hline : (apos.endLine == cpos.line) = true) : PE X (.Call (.Attribute o "pop" apos) [] [] cpos) (tE Γ.g E k (eMt isL mPop ro aNil)) :=
  se_mt0 PySem.F.plainAttrs_list PySem.F.slot_list_pop PySem.F.type_list_pop md_pop (fun _ _ _ _ _ _ r rv q => isL_ty h.pK r rv q) ho hbase hline

theorem bl_eq : ∀ x y s d s', cEq x y s = .ok d s' → ∃ z, d = .bl z := fun _ _ _ _ _ e => bl_of e
theorem bl_ne : ∀ x y s d s', cNe x y s = .ok d s' → ∃ z, d = .bl z := fun _ _ _ _ _ e => bl_of e
theorem bl_in : ∀ x y s d s', cIn x y s = .ok d s' → ∃ z, d = .bl z := fun _ _ _ _ _ e => bl_of e
theorem bl_notin : ∀ x y s d s', cNotIn x y s = .ok d s' → ∃ z, d = .bl z := fun _ _ _ _ _ e => bl_of e
theorem w_set {i : Nat} {x : Str} {pos' : Pos} (h : CxW Γ lo E X N sc fz) (hn : stB sc fz N i x = true) (he : PE X e (tE Γ.g E k ra)) (hs : swapsWith e (some (.Name x pos')) pos.line X.env = pure false) : PS X (.Assign [.Name x pos'] e pos) (tSS Γ.g E k (sSet i ra)) :=
  let ⟨h1, h2, h3⟩ := stB_ok h hn
  ss_set (by rw [h.pN]; exact h.nd) h1 h2 he hs h3
theorem w_aug {i : Nat} {x : Str} {oo : Operator} {f : D → D → S → Res} {p' : Pos} (h : CxW Γ lo E X N sc fz) (hn : stB sc fz N i x = true) (ho : OpD X Γ.g E (inplaceOp oo) fun _ => f) (ha : PE X e (tE Γ.g E k ra)) : PS X (.AugAssign (.Name x p') oo e pos) (tSS Γ.g E k (sAug i f ra)) :=
  let ⟨h1, h2, h3⟩ := stB_ok h hn
  ss_aug (by rw [h.pN]; exact h.nd) h1 h2 h3 ho ha
/-- the environment as far as the stores ask for it -/
def env0 (sc : Scope) : PySem.Env := { scope := sc, locals := 0, globals := 0, cells := [], qual := "", func := none, code := .none, frame := none, builtins := 0 }
theorem swap_sc (h : CxW Γ lo E X N sc fz) {ts : List Expr} {v : Expr} : swappedStores ts v X.env = swappedStores ts v (env0 sc) := by
  unfold swappedStores PySem.Env.blockKind PySem.Env.kindOf
  rw [h.psc]
  rfl
def parB (sc : Scope) (N : List Str) (i j : Nat) (x y : Str) : Bool := decide (N[i]? = some x) && decide (N[j]? = some y) && decide (i ≠ j) && decide (sc.names.lookup x = some .local) && decide (sc.names.lookup y = some .local)
theorem w_par {i j : Nat} {x y : Str} {px py pt : Pos} {kt k2 pt2} (h : CxW Γ lo E X N sc fz) (hn : parB sc N i j x y = true) (ha : PA X [a, b] (tA Γ.g E k as)) (hw : swappedStores [.Tuple [.Name x px, .Name y py] kt pt] (.Tuple [a, b] k2 pt2) (env0 sc) = pure (some [x, y]))
    (hs : swapsWithSole [.Tuple [.Name x px, .Name y py] kt pt] (.Tuple [a, b] k2 pt2) pos.line X.env = pure false) : PS X (.Assign [.Tuple [.Name x px, .Name y py] kt pt] (.Tuple [a, b] k2 pt2) pos) (tSS Γ.g E k (sPar2 i j as)) := by
  simp only [parB, Bool.and_eq_true, decide_eq_true_eq] at hn
  obtain ⟨⟨⟨⟨h1, h2⟩, h3⟩, h4⟩, h5⟩ := hn
  exact ss_par h.calm (by rw [h.pN]; exact h.nd) (by rw [h.pN]; exact h1) (by rw [h.pN]; exact h2) h3 (by rw [h.psc]; exact h4) (by rw [h.psc]; exact h5) ha (by rw [swap_sc h]; exact hw) hs
theorem w_for {gc : Bool} {w : IS} {t : TS} {tb : SS} {body : List Stmt} (h : CxW Γ lo E X N sc fz) (hi : PI X tg iter (tI Γ.g E k w)) (hg : PG X tg (TgD X Γ.g E k t)) (ht : TOk t) (hb : PSs X body (tSS Γ.g E k tb)) (hs : ∀ x, foldedSetIterable iter X.env x = pure x) :
    PS X (.For tg iter body [] pos) (tSS Γ.g E k (sFor gc w t tb)) := ss_for h.pas h.calm hi hg ht hb hs
theorem w_while {gc : Bool} {tb : SS} {body : List Stmt} (h : CxW Γ lo E X N sc fz) (hc : PT X c (tT Γ.g E k rc)) (hb : PSs X body (tSS Γ.g E k tb)) : PS X (.While c body [] pos) (tSS Γ.g E k (sWhile gc rc tb)) := ss_while h.pas hc hb
section
variable (h : CxW Γ lo E X N sc fz) (hm : Γ.mg "range" = none)
include h hm
theorem w_r1 (hg : bltB sc "range" = true) (ha : PA X [a] (tA Γ.g E k as)) (hs : starEach [a] X.env = [(false, eval a X.env)]) : PI X tg (.Call (.Name "range" p) [a] [] pos) (tI Γ.g E k (iR1 as)) := si_r1 (h.gl (bltB_gl hg)) (by rw [h.pmg]; exact hm) ha hs
theorem w_r2 (hg : bltB sc "range" = true) (ha : PA X [a, b] (tA Γ.g E k as)) (hs : starEach [a, b] X.env = [(false, eval a X.env), (false, eval b X.env)]) (hs2 : starEach [b] X.env = [(false, eval b X.env)]) : PI X tg (.Call (.Name "range" p) [a, b] [] pos) (tI Γ.g E k (iR2 as)) :=
  si_r2 (h.gl (bltB_gl hg)) (by rw [h.pmg]; exact hm) ha hs hs2
theorem w_r3 (hg : bltB sc "range" = true) (ha : PA X [a, b, c] (tA Γ.g E k as)) (hs : starEach [a, b, c] X.env = (false, eval a X.env) :: starEach [b, c] X.env) (hpl : (backTo pos (starEach [b, c] X.env)).any (·.1) = false) : PI X tg (.Call (.Name "range" p) [a, b, c] [] pos) (tI Γ.g E k (iR3 as)) :=
  si_r3 (h.gl (bltB_gl hg)) (by rw [h.pmg]; exact hm) ha hs hpl
end
theorem w_enum {tpos : Pos} {elts : List Expr} {kk : Nat} (h : CxW Γ lo E X N sc fz) (hm : Γ.mg "enumerate" = none) (hg : bltB sc "enumerate" = true) (ha : PE X a (tE Γ.g E k ra)) (hs : starEach [a] X.env = (false, eval a X.env) :: starEach [] X.env) :
    PI X (.Tuple elts kk tpos) (.Call (.Name "enumerate" p) [a] [] pos) (tI Γ.g E k (Ev.iEnum ra)) := si_enum h.pK (h.gl (bltB_gl hg)) (by rw [h.pmg]; exact hm) ha hs

/-! ### comprehensions -/
def blkB (N : List Str) (sc scope : Scope) (own : List (Str × Nat)) : Bool :=
  decide (scope.kind = .function) && scope.names.all (fun y => decide (scope.names.lookup y.1 = some y.2)) && own.all (fun p => decide (N[p.2]? = some p.1)) &&
    scope.names.all (fun y => !decide (y.2 = .free) || decide (sc.names.lookup y.1 = some .cell) || decide (sc.names.lookup y.1 = some .free)) &&
    scope.names.all fun y => !(decide (y.2 = .local) || decide (y.2 = .cell)) || decide (y.1 ∈ own.map (·.1)) || !decide (y.1 ∈ N)
theorem blkB_ok {scope : Scope} {own : List (Str × Nat)} (h : blkB N sc scope own = true) : BlkOk N sc scope own := by
  simp only [blkB, Bool.and_eq_true, decide_eq_true_eq, List.all_eq_true, Bool.or_eq_true, Bool.not_eq_true', decide_eq_false_iff_not] at h
  obtain ⟨⟨⟨⟨h1, h2⟩, h3⟩, h4⟩, h5⟩ := h
  refine ⟨h1, h2, h3, fun y hy e => ?_, fun y hy e => ?_⟩
  · rcases h4 y hy with (z | z) | z
    · exact absurd e z
    · exact .inl z
    · exact .inr z
  · rcases h5 y hy with (z | z) | z
    · exact absurd e (by simpa using z)
    · exact .inl z
    · exact .inr z
section
variable {w : IS} {t : TS} {gt : TG} {te tq : ES} {scope : Scope} {own : List (Str × Nat)} {i : Nat} {y : Str} {py spos : Pos}
/-- for every block of this scope in this context -/
abbrev InBlk (Γ : W0) (lo : Nat) (N : List Str) (sc scope : Scope) (Pp : Cx → Prop) : Prop := ∀ Y : Cx, CxW Γ lo noE Y N (relab sc scope) (fun x => scope.names.lookup x == some .cell) → Pp Y
theorem InBlk.all {Pp : Cx → Prop} (h : CxW Γ lo E X N sc fz) (q : InBlk Γ lo N sc scope Pp) : BlkAll X scope Pp := fun s H C cl fp => q _ (h.blk s H scope cl C fp)
theorem w_comp (h : CxW Γ lo E X N sc fz) (own : List (Str × Nat)) (ok : blkB N sc scope own = true) (hi : PI X tg iter (tI Γ.g E k w)) (hw : TgW Γ.g (own.map (·.2)) t gt) (hg : InBlk Γ lo N sc scope fun Y => PG Y tg gt) (he : InBlk Γ lo N sc scope fun Y => PE Y elt (tE Γ.g noE k te)) (hs : ∀ x, foldedSetIterable iter X.env x = pure x) :
    PE X (.ListComp elt [⟨tg, iter, [], 0⟩] scope pos) (tE Γ.g E k (eComp w (own.map (·.2)) t none te)) :=
  se_comp h.calm (by rw [h.pN]; exact h.nd) hi (by rw [h.pN, h.psc]; exact blkB_ok ok) hw (hg.all h) (he.all h) hs
theorem w_compQ (h : CxW Γ lo E X N sc fz) (own : List (Str × Nat)) (ok : blkB N sc scope own = true) (hi : PI X tg iter (tI Γ.g E k w)) (hw : TgW Γ.g (own.map (·.2)) t gt) (hg : InBlk Γ lo N sc scope fun Y => PG Y tg gt) (hq : InBlk Γ lo N sc scope fun Y => PT Y cond (tT Γ.g noE k tq)) (he : InBlk Γ lo N sc scope fun Y => PE Y elt (tE Γ.g noE k te)) (hs : ∀ x, foldedSetIterable iter X.env x = pure x) :
    PE X (.ListComp elt [⟨tg, iter, [cond], 0⟩] scope pos) (tE Γ.g E k (eComp w (own.map (·.2)) t (some tq) te)) :=
  se_compQ h.calm (by rw [h.pN]; exact h.nd) hi (by rw [h.pN, h.psc]; exact blkB_ok ok) hw (hg.all h) (hq.all h) (he.all h) hs
theorem swapsC_sc (h : CxW Γ lo E X N sc fz) {gs : List Comprehension} {tgt : Expr} {l : Nat} : swapsWith (.ListComp elt gs scope pos) (some tgt) l X.env = swapsWith (.ListComp elt gs scope pos) (some tgt) l (env0 sc) := by
  unfold swapsWith PySem.Env.blockKind PySem.Env.kindOf
  rw [h.psc]
  rfl
theorem w_setCl {x : Str} {pos' : Pos} {gs : List Comprehension} (h : CxW Γ lo E X N sc fz) (hn : stB sc fz N i x = true) (he : PE X (.ListComp elt gs scope pos) (tE Γ.g E k ra)) (hs : swapsWith (.ListComp elt gs scope pos) (some (.Name x pos')) spos.line (env0 sc) = pure false) : PS X (.Assign [.Name x pos'] (.ListComp elt gs scope pos) spos) (tSS Γ.g E k (sSet i ra)) :=
  w_set h hn he (by rw [swapsC_sc h]; exact hs)
theorem w_setLc (h : CxW Γ lo E X N sc fz) (own : List (Str × Nat)) (hy : stB sc (fun _ => false) N i y = true) (hsw : swapsWith (.ListComp elt [⟨tg, iter, [], 0⟩] scope pos) (some (.Name y py)) spos.line (env0 sc) = pure true) (ok : blkB N sc scope own = true) (hi : PI X tg iter (tI Γ.g E k w)) (hw : TgW Γ.g (own.map (·.2)) t gt) (hg : InBlk Γ lo N sc scope fun Y => PG Y tg gt) (he : InBlk Γ lo N sc scope fun Y => PE Y elt (tE Γ.g noE k te)) (hs : ∀ x, foldedSetIterable iter X.env x = pure x) :
    PS X (.Assign [.Name y py] (.ListComp elt [⟨tg, iter, [], 0⟩] scope pos) spos) (tSS Γ.g E k (sSet i (eComp w (own.map (·.2)) t none te))) := by
  simp only [stB, Bool.and_eq_true, Bool.or_eq_true, decide_eq_true_eq] at hy
  obtain ⟨⟨h1, h2⟩, h3⟩ := hy
  exact ss_setLc h.calm (by rw [h.pN]; exact h.nd) (by rw [h.pN]; exact h1) (by rw [h.psc]; simpa using h3) (by rw [swapsC_sc h]; exact hsw) hi (by rw [h.pN, h.psc]; exact blkB_ok ok) hw (hg.all h) (he.all h) hs
theorem w_setLcQ (h : CxW Γ lo E X N sc fz) (own : List (Str × Nat)) (hy : stB sc (fun _ => false) N i y = true) (hsw : swapsWith (.ListComp elt [⟨tg, iter, [cond], 0⟩] scope pos) (some (.Name y py)) spos.line (env0 sc) = pure true) (ok : blkB N sc scope own = true) (hi : PI X tg iter (tI Γ.g E k w)) (hw : TgW Γ.g (own.map (·.2)) t gt) (hg : InBlk Γ lo N sc scope fun Y => PG Y tg gt) (hq : InBlk Γ lo N sc scope fun Y => PT Y cond (tT Γ.g noE k tq)) (he : InBlk Γ lo N sc scope fun Y => PE Y elt (tE Γ.g noE k te)) (hs : ∀ x, foldedSetIterable iter X.env x = pure x) :
    PS X (.Assign [.Name y py] (.ListComp elt [⟨tg, iter, [cond], 0⟩] scope pos) spos) (tSS Γ.g E k (sSet i (eComp w (own.map (·.2)) t (some tq) te))) := by
  simp only [stB, Bool.and_eq_true, Bool.or_eq_true, decide_eq_true_eq] at hy
  obtain ⟨⟨h1, h2⟩, h3⟩ := hy
  exact ss_setLcQ h.calm (by rw [h.pN]; exact h.nd) (by rw [h.pN]; exact h1) (by rw [h.psc]; simpa using h3) (by rw [swapsC_sc h]; exact hsw) hi (by rw [h.pN, h.psc]; exact blkB_ok ok) hw (hg.all h) (hq.all h) (he.all h) hs
end
/-- a tuple target in a block -/
theorem w_tupC {j n : Nat} {u : TGs} (h : CxW Γ lo E X N sc fz) (q : PGs X es u) (hn : (assignEach es X.env).length = n) (hst : (assignEach es X.env).findIdx? (·.1) = none) : PG X (.Tuple es j pos) (gSq Γ.g.K n u) := by
  have z := pg_sq (j := j) (pos := pos) h.calm q hn hst
  rw [h.pK] at z
  exact z

/-! ### a def that makes lambdas -/
theorem fn_okL (h2 : 2 ≤ lo) {x qual : Str} {st : Stmt} {f ca P : Addr} {ps : List Str} {np n i : Nat} {body : SS} {tab : Nat → Option DefE} {m : Nat} {oc : Value} {od an : Option Addr} {osl : Array (Option Value)} {kV doc pm ct : Value} (hN : N.length = n) (hp : ps.length = np) (ht : tab i = some ⟨np, n, body⟩)
    (lk : Γ.g.K.lookup f = some ⟨oc, od, .func (PySem.W.fnOf x qual (defArgs st) (defBody st) (defScope st) .none kV doc pm an (.ref ca) ct), osl⟩) (hcd : PySem.W.codeIn Γ.g.K (.ref ca) qual = true) (hT : LamX.TabB Γ.base Γ.mg ca P)
    (hm1 : ∀ sc L, (P, (envOfC qual sc L f (.ref ca)).qual ++ "<lambda>") ∈ Γ.g.T) (hm2 : ∀ sc L, ∀ p ∈ Γ.g.T, p.1 = P → p.2 = (envOfC qual sc L f (.ref ca)).qual ++ "<lambda>") (S : FnScope N ps (defScope st))
    (hb : ∀ (X : Cx) (E : XK), CxW Γ lo E X N (defScope st) (fun _ => true) → LamAt Γ lo X → PSs X (defBody st) (tSS Γ.g E (callN tab m) body)) :
    FnOk Γ.P Γ.w Γ.g.K Γ.mg Γ.base (L2.CX Γ.P Γ.w) (lo + 3) f (PySem.W.fnOf x qual (defArgs st) (defBody st) (defScope st) .none kV doc pm an (.ref ca) ct) ps (spE Γ.g (callN tab (m + 1)) i) := by
  have e1 : ∀ B xs s, callN tab (m + 1) i B xs s = run1 np n body (callN tab m) B xs s := fun B xs s => by
    rw [callN, ht]
  have key : ∀ {vs H Q E}, spE Γ.g (callN tab (m + 1)) i vs H Q E → vs.length = ps.length ∧ ∃ B α s ds, R Γ.g B α H s ∧ RVs Γ.g.K α H vs ds ∧ POut Γ.g E (s.length :: B) α H (body ⟨callN tab m, s.length :: B⟩ (start0 n ds) s) { nx := fun _ H' => Q .non H', rt := Q } := fun {vs H Q E} ⟨B, α, s, ds, r, rv, q⟩ => by
    rw [e1, run1] at q
    split at q
    · rename_i hl
      exact ⟨by rw [rv.length, hl, hp], B, α, s, ds, r, rv, toRes_P (PRes.finF r q)⟩
    · exact q.elim
  refine fn_of lk hcd S (fun vs H Q E q => (key q).1) fun A outer s H vs Q E hr q => ?_
  obtain ⟨_, B, α, t, ds, r, rv, q⟩ := key q
  have hw : CxW Γ lo E (cxOf (L2.CX Γ.P Γ.w) Γ.P Γ.w Γ.g.K Γ.mg Γ.base N qual (defScope st) f (.ref ca) A outer s H E) N (defScope st) (fun _ => true) :=
    ⟨rfl, rfl, rfl, rfl, rfl, rfl, rfl, rfl, S.nd, hr.mono (by omega), h2, rfl, passes_of rfl, passes_call (takes_of rfl rfl rfl rfl) fun _ _ _ _ q => q, takes_of rfl rfl rfl rfl⟩
  exact ⟨_, hb _ E hw ⟨hr, ca, P, hT, rfl, hm1 _ _, hm2 _ _⟩, _, α, start0 n ds, t, r.push, RE.start hN rv, q⟩
end Ev

set_option maxRecDepth 10000
namespace Ev
open PySem L2 PyProof.Rows He

/-! ### the head's facts, read by one Hook -/
def asY (g : Addr → Option Obj) (n : Nat) : List Addr := asD g n ++ [cStatics]
abbrev InW : Type := Option (Str × Str × Arguments × FuncBody × Scope × Addr × Addr)
/-- a class's own __init__ that closes over __class__ -/
def inW (K : PySem.W.Frag) (f : Addr) : InW := match K.lookup f with
  | some ⟨_, _, .func d, _⟩ => some (d.name, d.qualname, d.params, d.body, d.scope, d.globals, d.builtins)
  | _ => none
abbrev AlY : Type := AlD × (Bool × InW)
def exA (K : PySem.W.Frag) : Addr := ga K "MachineError"
def exI (K : PySem.W.Frag) : Addr := ma K (exA K) "__init__"
def frY (n : Nat) (g : Addr → Option Obj) : PySem.W.Frag := frT g (asY g n)
def obsY (n : Nat) (fa : List Fa) (fn : List DefD) (tf : List Defn) (ex : PySem.W.Frag → Bool) (g : Addr → Option Obj) : AlY := (obsD fa fn (frY n g), (ex (frY n g) && tabsB g tf (frY n g), inW (frY n g) (exI (frY n g))))
def initV (st : Stmt) : InW := some ("__init__", "MachineError.__init__", defArgs st, .stmts (defBody st), defScope st, mainGlobals, builtinsNs)
def valY (fn : List DefD) (st : Stmt) : AlY := (valD fn, (true, initV st))
structure SaysY (fa : List Fa) (fn : List DefD) (tf : List Defn) (st : Stmt) (ex : PySem.W.Frag → Bool) (h : Heap) (K : PySem.W.Frag) : Prop where
  d : SaysD fa fn K
  more : ex K = true
  init : inW K (exI K) = initV st
  hd : ∀ p ∈ tf, PySem.W.codeHdIn K (cT K p).1 (cT K p).2 = true
  out : ∀ p ∈ tf, K.lookup (cT K p).2 = none
  empty : ∀ p ∈ tf, h.get? (cT K p).2 = some { cls := .none, data := .fields #[] }
theorem saysY_of {n : Nat} {fa : List Fa} {fn : List DefD} {tf : List Defn} {st : Stmt} {ex : PySem.W.Frag → Bool} {h : Heap} (e : obsY n fa fn tf ex h.get? = valY fn st) : SaysY fa fn tf st ex h (frY n h.get?) := by
  have e1 : obsD fa fn (frY n h.get?) = valD fn := congrArg (fun z : AlY => z.1) e
  have e2 : (ex (frY n h.get?) && tabsB h.get? tf (frY n h.get?)) = true := congrArg (fun z : AlY => z.2.1) e
  have e3 : inW (frY n h.get?) (exI (frY n h.get?)) = initV st := congrArg (fun z : AlY => z.2.2) e
  obtain ⟨h1, h2⟩ := ba e2
  have key : ∀ p ∈ tf, PySem.W.codeHdIn (frY n h.get?) (cT (frY n h.get?) p).1 (cT (frY n h.get?) p).2 = true ∧ ∃ o, h.get? (cT (frY n h.get?) p).2 = some o ∧ emptyTab o = true := fun p hp => by
    obtain ⟨h3, h4⟩ := ba (List.all_eq_true.mp h2 p hp)
    refine ⟨h3, ?_⟩
    cases z : h.get? (cT (frY n h.get?) p).2 with
    | none => rw [z] at h4; cases h4
    | some o => rw [z] at h4; exact ⟨o, rfl, h4⟩
  exact ⟨e1, h1, e3, fun p hp => (key p hp).1, fun p hp => let ⟨_, o, z1, z2⟩ := key p hp; frT_none z1 z2, fun p hp => by
    obtain ⟨_, o, z1, z2⟩ := key p hp
    rw [z1, emptyTab_eq z2]⟩
def hookY (n : Nat) (fa : List Fa) (fn : List DefD) (tf : List Defn) (st : Stmt) (ex : PySem.W.Frag → Bool) : PySem.W.Hook where
  α := AlY
  obs := fun s => obsY n fa fn tf ex s.heap.get?
  val := fun _ => valY fn st
  says := fun _ h => ∃ K : PySem.W.Frag, K.In h ∧ SaysY fa fn tf st ex h K
  of := fun _ _ e => ⟨_, frT_in, saysY_of e⟩
  keeps := fun _ _ _ ⟨K, hK, c⟩ q => ⟨K, PySem.W.Frag.In.keeps hK q, ⟨c.d, c.more, c.init, c.hd, c.out, fun p hp => q _ _ (c.empty p hp)⟩⟩
theorem obsY_eq {n : Nat} {fa : List Fa} {fn : List DefD} {tf : List Defn} {st : Stmt} {ex : PySem.W.Frag → Bool} {g : Addr → Option Obj} {s : Shared} (h : ∀ a, g a = s.heap.get? a) : obsY n fa fn tf ex g = (hookY n fa fn tf st ex).obs s := by
  have e : g = s.heap.get? := funext h
  rw [e] <;> rfl

/-! ### what is asked of the class of errors -/
def oexB (K : PySem.W.Frag) (C : Addr) : Bool := (match K.lookup C with
  | some ⟨.type t0, _, .cls c0, slz⟩ => t0 == "type" && (match c0.mro, slz.toList with
    | .ref C1 :: bm1, [_, _, _, _, some (.builtin n1), _] => C1 == C && n1 == "ValueError.__new__" && !c0.hasDel && c0.hasDict && PySem.HandSPX.refsVE bm1
    | _, _ => false)
  | _ => false)
/-- the code object, the closure, the defaults of its __init__ -/
def iB (file : Str) (K : PySem.W.Frag) (qual : Str) : Value → List (Str × Addr) → Value → Bool
  | .ref cda, [(nm1, cc)], .none => decide (nm1 = "__class__") && (PySem.W.codeIn K (.ref cda) qual && ((match K.lookup cda with
      | some ⟨_, _, .fields vs, _⟩ => (match (vs[2]? : Option Value) with
        | some (.str fl _) => file == fl
        | _ => false)
      | _ => false) && (match K.lookup cc with
      | some ⟨_, _, .cell (some (.ref D1)), _⟩ => decide (D1 = exA K)
      | _ => false)))
  | _, _, _ => false
def errB (file : Str) (K : PySem.W.Frag) : Bool :=
  oexB K (exA K) && (decide (PySem.W.findIn K (.ref (exA K)) "__setattr__" = some (some (.builtin "object.__setattr__"))) && (decide (PySem.W.subIn K (.ref (exA K)) (.type "BaseException") = some true) && (decide (PySem.W.typeIn K (.ref (exA K)) = some (.type "type")) && (PySem.W.keepIn K (.ref (exA K)) &&
  (decide (PySem.W.mroIn K (exA K) (.ref (exA K)) = some true) && (decide (PySem.W.ks_superIn K (exA K) (exA K) "__init__" = some (some (.builtin "ValueError.__init__"))) && (decide (PySem.W.subIn K (.ref (exA K)) (.type "ValueError") = some true) && (decide (PySem.W.nsIn K cStatics "thirdparty.any" = some none) &&
  (decide (PySem.W.findIn K (.ref (exA K)) "code" = some none) && (xfB K (exA K) && (decide (PySem.W.exmOne K (.ref (exA K)) (.ref (exA K)) = some true) && (decide (PySem.W.findIn K (.ref (exA K)) "__init__" = some (some (.ref (exI K)))) && (decide (PySem.W.typeIn K (.ref (exI K)) = some (.type "function")) &&
  (match K.lookup (exI K) with
  | some ⟨_, _, .func d, _⟩ => iB file K d.qualname d.code d.closure d.defaults
  | _ => false))))))))))))))
theorem iB_ok {file : Str} {K : PySem.W.Frag} {qual : Str} {c : Value} {clo : List (Str × Addr)} {dfl : Value} (h : iB file K qual c clo dfl = true) : ∃ cda cc ccl cdd vs ccs fl tf cl cld csl, c = .ref cda ∧ clo = [(("__class__" : Str), cc)] ∧ dfl = .none ∧ PySem.W.codeIn K (.ref cda) qual = true ∧
    K.lookup cda = some ⟨ccl, cdd, .fields vs, ccs⟩ ∧ vs[2]? = some (.str fl tf) ∧ (file == fl) = true ∧ K.lookup cc = some ⟨cl, cld, .cell (some (.ref (exA K))), csl⟩ := by
  unfold iB at h
  split at h
  · rename_i cda nm1 cc
    obtain ⟨hnm, h⟩ := ba h
    obtain ⟨c1, h⟩ := ba h
    obtain ⟨c2, c3⟩ := ba h
    have hnm := of_decide_eq_true hnm
    subst hnm
    split at c2
    · rename_i ccl cdd vs ccs hlc
      split at c2
      · rename_i fl tf hv
        split at c3
        · rename_i cl cld D1 csl hcc
          have hD := of_decide_eq_true c3
          rw [hD] at hcc
          exact ⟨cda, cc, ccl, cdd, vs, ccs, fl, tf, cl, cld, csl, rfl, rfl, rfl, c1, hlc, hv, c2, hcc⟩
        · cases c3
      · cases c2
    · cases c2
  · cases h
theorem oexB_ok {K : PySem.W.Frag} {C : Addr} (h : oexB K C = true) : ∃ nm q N bs bm sn sub ab col dd k0 k1 k2 k3 k5, K.lookup C = some (excClassObj nm q C N bs bm true sn sub ab col dd k0 k1 k2 k3 k5 "ValueError.__new__") ∧ PySem.HandSPX.refsVE bm = true := by
  unfold oexB at h
  split at h
  · rename_i t0 d0 c0 slz ho
    obtain ⟨ht, h⟩ := ba h
    split at h
    · rename_i C1 bm1 k0 k1 k2 k3 n1 k5 hm hs
      simp only [Bool.and_eq_true, beq_iff_eq, Bool.not_eq_true'] at h ht
      obtain ⟨⟨⟨⟨rfl, rfl⟩, hdel⟩, hdi⟩, hr⟩ := h
      subst ht
      obtain ⟨nm, bs, mro, ns, qn, hd, sn, sub, ab, col, del⟩ := c0
      dsimp only at hm hdel hdi
      subst hm hdel hdi
      have hsl : slz = #[k0, k1, k2, k3, some (.builtin "ValueError.__new__"), k5] := by
        rw [← Array.toArray_toList (xs := slz), hs]
      subst hsl
      exact ⟨nm, qn, ns, bs, bm1, sn, sub, ab, col, d0, k0, k1, k2, k3, k5, ho, hr⟩
    · cases h
  · cases h
theorem funD_fun {K : PySem.W.Frag} {x qual : Str} {st : Stmt} {f : Addr} {fd : FuncData} (F : FunD K x qual (defArgs st) (defBody st) (defScope st) [] [] f fd) : Fun K x qual st f fd := by
  obtain ⟨oc, od, dV, kV, doc, pm, an, cdv, ct, osl, rfl, lk, hcd, hD, _⟩ := F.ex
  rcases hD with ⟨_, rfl⟩ | ⟨e, _⟩
  · exact ⟨⟨oc, od, kV, doc, pm, an, cdv, ct, osl, rfl, lk, hcd⟩, F.kp⟩
  · exact absurd rfl e
theorem decB {p : Prop} [Decidable p] {b : Bool} (h : (decide p && b) = true) : p ∧ b = true := by
  rw [Bool.and_eq_true] at h
  exact ⟨of_decide_eq_true h.1, h.2⟩
section
variable {P : Program} {K : PySem.W.Frag} {mg : Str → Option Value} {h : Heap} {st : Stmt}
/-- what is told of the class of errors, as the layer asks it -/
theorem err_of (X : K.In h) (G : h.Ns mainGlobals mg) (hb : defBody st = body0) (hS : NdefX.NScope ["self", "code", "__class__"] ["self", "code"] ["__class__"] (defScope st)) (hs : (defScope st).names.lookup ("super" : Str) = some .globalImplicit)
    (har : ∃ ar, ((defArgs st).posonlyargs ++ (defArgs st).args).head? = some ar ∧ ar.arg = "self")
    (hbd : ∀ (qual : Str) (cl : List (Str × Addr)) (kV doc pm cdv ct : Value) (an : Option Addr) (us : List Value), us.length = 2 → bindArgs (PySem.W.fnX "__init__" qual (defArgs st) (defBody st) (defScope st) cl .none kV doc pm an cdv ct) ⟨us, []⟩ = pure ((["self", "code"] : List Str).zip us))
    (htop : (P.main.scope.names.lookup ("super" : Str)).isSome = false) (e : errB P.main.file K = true) (ei : inW K (exI K) = initV st) (hg : mg "MachineError" = some (.ref (exA K))) (hsu : mg "super" = none) :
    ∃ f fd, ErrC P K mg (exA K) f fd ∧ PySem.W.findIn K (.ref (exA K)) "__init__" = some (some (.ref f)) ∧ PySem.W.typeIn K (.ref f) = some (.type "function") ∧ mg "MachineError" = some (.ref (exA K)) := by
  obtain ⟨b1, e⟩ := ba e
  obtain ⟨b2, e⟩ := decB e
  obtain ⟨b3, e⟩ := decB e
  obtain ⟨b4, e⟩ := decB e
  obtain ⟨b5, e⟩ := ba e
  obtain ⟨b6, e⟩ := decB e
  obtain ⟨b7, e⟩ := decB e
  obtain ⟨b8, e⟩ := decB e
  obtain ⟨b9, e⟩ := decB e
  obtain ⟨b10, e⟩ := decB e
  obtain ⟨b11, e⟩ := ba e
  obtain ⟨b12, e⟩ := decB e
  obtain ⟨b13, e⟩ := decB e
  obtain ⟨b14, e⟩ := decB e
  obtain ⟨nm, q, N, bs, bm, sn, sub, ab, col, dd, k0, k1, k2, k3, k5, hC, hbm⟩ := oexB_ok b1
  cases hl : K.lookup (exI K) with
  | none => rw [hl] at e; cases e
  | some o =>
    obtain ⟨oc, od, dt, osl⟩ := o
    rw [hl] at e
    cases dt with
    | func d =>
      obtain ⟨n1, n2, n3, n4, n5, n6, n7, n8, n9, n10, n11, n12, n13, n14, n15⟩ := d
      unfold inW at ei
      rw [hl] at ei
      have e2 : (some (n1, n2, n3, n4, n5, n6, n15) : InW) = some (("__init__" : Str), ("MachineError.__init__" : Str), defArgs st, FuncBody.stmts (defBody st), defScope st, mainGlobals, builtinsNs) := ei
      simp only [Option.some.injEq, Prod.mk.injEq] at e2
      obtain ⟨h1, h2, h3, h4, h5, h6, h7⟩ := e2
      subst h1 h2 h3 h4 h5 h6 h7
      have e3 : iB P.main.file K "MachineError.__init__" n13 n7 n8 = true := e
      obtain ⟨cda, cc, ccl, cdd, vs, ccs, fl, tf, cl, cld, csl, rfl, rfl, rfl, c1, hlc, hv, c2, hcc⟩ := iB_ok e3
      obtain ⟨ar, har, hself⟩ := har
      obtain ⟨cdD, hcd⟩ : ∃ cdD, PySem.W.clsIn K (exA K) = some cdD := by
        unfold PySem.W.clsIn
        rw [hC]
        exact ⟨_, rfl⟩
      refine ⟨exI K, _, ⟨⟨⟨nm, q, N, bs, bm, sn, sub, ab, col, dd, k0, k1, k2, k3, k5, hC, hbm⟩, b2, b3, b4, b5⟩, ⟨oc, n9, n10, n11, n14, od, n12, osl, ccs, csl, ccl, cl, cdd, cld, vs, fl, tf, cda, cc, cdD, defArgs st, defScope st, ar, "MachineError.__init__", ?_, hl, c1, hlc, hv, c2, hcc, hcd, har, hself, hS, hs, ?_⟩, b6, b7, b8, b9, b10, hsu, htop⟩, b13, b14, hg⟩
      · rw [hb] <;> rfl
      · exact fun us hl => hbd _ _ _ _ _ _ _ _ us hl
    | _ => cases e
end
end Ev

set_option maxRecDepth 10000
namespace Ev
open PySem L2 PyProof.Rows He

/-! ### the defs, one call deeper at a time -/
structure DF (Γ : W0) (x : Str) (st : Stmt) (N ps : List Str) : Prop where
  ex : ∃ (f : Addr) (fd : FuncData), Fun Γ.g.K x x st f fd ∧ Γ.mg x = some (.ref f) ∧ Binds Γ.g.K fd ps []
  S : FnScope N ps (defScope st)
theorem fnOk_zero {Γ : W0} {tab : Nat → Option DefE} {i : Nat} {f : Addr} {fd : FuncData} {ps : List Str} : FnOk Γ.P Γ.w Γ.g.K Γ.mg Γ.base (L2.CX Γ.P Γ.w) 2 f fd ps (spE Γ.g (callN tab 0) i) :=
  ⟨fun vs H Q E h => let ⟨_, _, _, _, _, _, z⟩ := h; (show False from z).elim, fun A outer s H args us vs Q E _ _ _ _ h => let ⟨_, _, _, _, _, _, z⟩ := h; (show False from z).elim⟩
section
variable {Γ : W0} {x : Str} {st : Stmt} {N ps : List Str} {tab : Nat → Option DefE} {i m np n lo : Nat} {body : SS}
theorem DF.zero (F : DF Γ x st N ps) : FnA Γ 2 (callN tab 0) i x :=
  let ⟨f, fd, F1, hm, hb⟩ := F.ex
  ⟨f, fd, ps, fnOk_zero, hm, F1.kp, hb⟩
theorem DF.succ (F : DF Γ x st N ps) (hN : N.length = n) (hp : ps.length = np) (ht : tab i = some ⟨np, n, body⟩) (hlo : 2 ≤ lo) (hb : ∀ (X : Cx) (E : XK), CxW Γ lo E X N (defScope st) (fun _ => true) → PSs X (defBody st) (tSS Γ.g E (callN tab m) body)) : FnA Γ (lo + 3) (callN tab (m + 1)) i x :=
  let ⟨f, fd, F1, hm, hbi⟩ := F.ex
  ⟨f, fd, ps, (fn_ok hlo hN hp ht F1 F.S hb).mono (Nat.add_le_add_left (by decide) lo), hm, F1.kp, hbi⟩
end
/-- a def that makes lambdas -/
structure DFL (Γ : W0) (x : Str) (st : Stmt) (N ps : List Str) : Prop where
  ex : ∃ (f ca Pt : Addr) (oc : Value) (od an : Option Addr) (osl : Array (Option Value)) (kV doc pm ct : Value), Γ.g.K.lookup f = some ⟨oc, od, .func (PySem.W.fnOf x x (defArgs st) (defBody st) (defScope st) .none kV doc pm an (.ref ca) ct), osl⟩ ∧ PySem.W.codeIn Γ.g.K (.ref ca) x = true ∧ PySem.W.keepIn Γ.g.K (.ref f) = true ∧ Γ.mg x = some (.ref f) ∧
    Binds Γ.g.K (PySem.W.fnOf x x (defArgs st) (defBody st) (defScope st) .none kV doc pm an (.ref ca) ct) ps [] ∧ LamX.TabB Γ.base Γ.mg ca Pt ∧ (Pt, x ++ ".<locals>." ++ "<lambda>") ∈ Γ.g.T ∧ ∀ p ∈ Γ.g.T, p.1 = Pt → p.2 = x ++ ".<locals>." ++ "<lambda>"
  S : FnScope N ps (defScope st)
section
variable {Γ : W0} {x : Str} {st : Stmt} {N ps : List Str} {tab : Nat → Option DefE} {i m np n lo : Nat} {body : SS}
theorem DFL.zero (F : DFL Γ x st N ps) : FnA Γ 2 (callN tab 0) i x :=
  let ⟨f, ca, Pt, oc, od, an, osl, kV, doc, pm, ct, lk, hcd, hk, hm, hb, _⟩ := F.ex
  ⟨f, _, ps, fnOk_zero, hm, hk, hb⟩
theorem DFL.succ (F : DFL Γ x st N ps) (hN : N.length = n) (hp : ps.length = np) (ht : tab i = some ⟨np, n, body⟩) (hlo : 2 ≤ lo) (hb : ∀ (X : Cx) (E : XK), CxW Γ lo E X N (defScope st) (fun _ => true) → LamAt Γ lo X → PSs X (defBody st) (tSS Γ.g E (callN tab m) body)) : FnA Γ (lo + 3) (callN tab (m + 1)) i x :=
  let ⟨f, ca, Pt, oc, od, an, osl, kV, doc, pm, ct, lk, hcd, hk, hm, hbi, hT, h1, h2⟩ := F.ex
  ⟨f, _, ps, fn_okL hlo hN hp ht lk hcd hT (fun _ _ => h1) (fun _ _ => h2) F.S hb, hm, hk, hbi⟩
end
theorem df_of {Γ : W0} {x : Str} {st : Stmt} {N ps : List Str} {f : Addr} {fd : FuncData} (F : FunD Γ.g.K x x (defArgs st) (defBody st) (defScope st) [] [] f fd) (hm : Γ.mg x = some (.ref f)) (S : FnScope N ps (defScope st))
    (h : ∀ (kV doc pm : Value) (an : Option Addr) (cdv ct : Value) (us : List Value), us.length = ps.length → bindArgs (PySem.W.fnOf x x (defArgs st) (defBody st) (defScope st) .none kV doc pm an cdv ct) ⟨us, []⟩ = pure (ps.zip us)) : DF Γ x st N ps :=
  ⟨⟨f, fd, funD_fun F, hm, F.bindsN h⟩, S⟩
theorem dfl_of {Γ : W0} {x : Str} {st : Stmt} {N ps : List Str} {p : Defn} {fd : FuncData} (F : FunD Γ.g.K x x (defArgs st) (defBody st) (defScope st) [] [] (fAd Γ.g.K p) fd) (hm : Γ.mg x = some (.ref (fAd Γ.g.K p))) (S : FnScope N ps (defScope st))
    (h : ∀ (kV doc pm : Value) (an : Option Addr) (cdv ct : Value) (us : List Value), us.length = ps.length → bindArgs (PySem.W.fnOf x x (defArgs st) (defBody st) (defScope st) .none kV doc pm an cdv ct) ⟨us, []⟩ = pure (ps.zip us))
    (hT : LamX.TabB Γ.base Γ.mg (cT Γ.g.K p).1 (cT Γ.g.K p).2) (h1 : ((cT Γ.g.K p).2, x ++ ".<locals>." ++ "<lambda>") ∈ Γ.g.T) (h2 : ∀ q ∈ Γ.g.T, q.1 = (cT Γ.g.K p).2 → q.2 = x ++ ".<locals>." ++ "<lambda>") : DFL Γ x st N ps := by
  have hb := F.bindsN h
  obtain ⟨oc, od, dV, kV, doc, pm, an, cdv, ct, osl, rfl, lk, hcd, hD, _⟩ := F.ex
  rcases hD with ⟨_, rfl⟩ | ⟨e, _⟩
  · obtain ⟨c, rfl⟩ := codeIn_ref hcd
    have ec : (cT Γ.g.K p).1 = c := codeOf_eq lk rfl
    rw [ec] at hT
    exact ⟨⟨_, c, _, oc, od, an, osl, kV, doc, pm, ct, lk, hcd, F.kp, hm, hb, hT, h1, h2⟩, S⟩
  · exact absurd rfl e

/-! ### the law at a script -/
theorem sp_law {Γ : W0} {k : Nat → List Nat → List D → S → Res} {i : Nat} {H : Hp} {a : Addr} {ns : List Int} (hS : SqL Γ.g.K H a (ns.map V.int)) (hT : LamX.Tabs Γ.g.T H) (h : ∀ (s : S) (d : D), seqOf s d = some (ns.map D.int) → ∃ s', k i [] [d] s = .ok (.bl true) s') :
    spE Γ.g k i [.ref a] H (fun v _ => v = .bl true) fun _ _ _ => False := by
  have rv : ∀ {α : List Addr}, RVs Γ.g.K α H (ns.map V.int) (ns.map D.int) := fun {α} => by
    induction ns with
    | nil => exact .nil
    | cons n r ih =>
      have e : ∀ {l : List Int}, RVs Γ.g.K α H (l.map V.int) (l.map D.int) := fun {l} => by
        induction l with
        | nil => exact .nil
        | cons n r ih => exact .cons (.int _) ih
      exact e
  have fin : ∀ {α : List Addr} {s' : S}, PRes Γ.g (fun _ _ _ => False) [] α H (.ok (.bl true) s') (fun v _ => v = .bl true) := fun α' H' v e r rv => by
    cases rv
    rfl
  have go : ∀ (α : List Addr) (s : S) (d : D), R Γ.g [] α H s → RV Γ.g.K α H (.ref a) d → seqOf s d = some (ns.map D.int) → spE Γ.g k i [.ref a] H (fun v _ => v = .bl true) fun _ _ _ => False := fun α s d r rd hs => by
    obtain ⟨s', e⟩ := h s d hs
    exact ⟨[], α, s, [d], r, .cons rd .nil, by rw [e]; exact fin⟩
  have frl : FzL Γ.g.K H a (ns.map V.int) → spE Γ.g k i [.ref a] H (fun v _ => v = .bl true) fun _ _ _ => False := fun z =>
    go [] [] (.frl (ns.map D.int)) ⟨rfl, List.nodup_nil, fun n a o h => by simp at h, fun b hb => (by cases hb), hT, .nil⟩ (.frl z rv) rfl
  rcases hS with (hS | hS) | hS
  · refine go [a] [.lst (ns.map D.int)] (.ref 0) ⟨rfl, by simp, fun n b o hb ho => ?_, fun b hb => (by cases hb), hT, .nil⟩ (.ref rfl) rfl
    cases n with
    | zero =>
      cases hb
      cases ho
      exact .lst hS rv
    | succ n => simp at hb
  · exact frl (.inl hS)
  · exact frl (.inr hS)
theorem tabs_of {tf : List Defn} {K : PySem.W.Frag} {H : Hp} {f : Defn → Str} (h : ∀ p ∈ tf.map (cT K), H p.2 = some (.tbl #[])) : LamX.Tabs (tf.map fun p => ((cT K p).2, f p)) H := fun q hq => by
  obtain ⟨p, hp, rfl⟩ := List.mem_map.mp hq
  exact LamX.TabS.nil (h _ (List.mem_map.mpr ⟨p, hp, rfl⟩))
/-- tables that are apart have one name each -/
theorem tab_name {tf : List Defn} {K : PySem.W.Frag} {f : Defn → Str} (hn : (tf.map fun p => (cT K p).2).Nodup) {p : Defn} (hp : p ∈ tf) : ∀ q ∈ tf.map (fun p => ((cT K p).2, f p)), q.1 = (cT K p).2 → q.2 = f p := fun q hq e => by
  obtain ⟨r, hr, rfl⟩ := List.mem_map.mp hq
  obtain ⟨i, hi, ei⟩ := List.mem_iff_getElem.mp hr
  obtain ⟨j, hj, ej⟩ := List.mem_iff_getElem.mp hp
  have e2 : (tf.map fun p => (cT K p).2)[i]'(by simpa using hi) = (tf.map fun p => (cT K p).2)[j]'(by simpa using hj) := by
    rw [List.getElem_map, List.getElem_map, ei, ej]
    exact e
  have ij := (List.getElem_inj hn).mp e2
  subst ij
  rw [ei] at ej
  rw [ej]
/-- the def that tells, as the head has it -/
theorem told_of {Γ : W0} {st : Stmt} {f : Addr} {fd : FuncData} {p1 p2 p3 p4 p5 p6 p7 p8 p9 : Pos} (F : FunD Γ.g.K "_law_told" "_law_told" (defArgs st) (defBody st) (defScope st) [] [] f fd) (hm : Γ.mg "_law_told" = some (.ref f))
    (hb : defBody st = [.Try [.Return (some (.Call (.Name "call" p1) [] [] p2)) p3] [.ExceptHandler (some (.Name "MachineError" p4)) (some "e") [.Return (some (.Attribute (.Name "e" p5) "code" p6)) p7] p8] [] [] p9])
    (S : FnScope ["call", "e"] ["call"] (defScope st)) (hv : Vis (defScope st) "call") (h1 : (defScope st).names.lookup ("MachineError" : Str) = some .globalImplicit) (h2 : (defScope st).names.lookup ("e" : Str) = some .local)
    (h : ∀ (kV doc pm : Value) (an : Option Addr) (cdv ct : Value) (us : List Value), us.length = (["call"] : List Str).length → bindArgs (PySem.W.fnOf "_law_told" "_law_told" (defArgs st) (defBody st) (defScope st) .none kV doc pm an cdv ct) ⟨us, []⟩ = pure ((["call"] : List Str).zip us))
    (xf : XfC Γ.g.K Γ.g.ex) (noC : PySem.W.findIn Γ.g.K (.ref Γ.g.ex) "code" = some none) (hE : Γ.mg "MachineError" = some (.ref Γ.g.ex)) (exm : PySem.W.exmOne Γ.g.K (.ref Γ.g.ex) (.ref Γ.g.ex) = some true) : ToldC Γ := by
  have hbi := F.bindsN h
  obtain ⟨oc, od, dV, kV, doc, pm, an, cdv, ct, osl, rfl, lk, hcd, hD, _⟩ := F.ex
  rcases hD with ⟨_, rfl⟩ | ⟨e, _⟩
  · rw [hb] at lk hbi
    exact ⟨⟨f, oc, kV, doc, pm, cdv, ct, od, an, osl, _, _, p1, p2, p3, p4, p5, p6, p7, p8, p9, hm, F.kp, lk, hcd, hbi, S, hv, h1, h2⟩, xf, noC, hE, exm⟩
  · exact absurd rfl e
/-- what errB tells besides -/
theorem errB_xf {file : Str} {K : PySem.W.Frag} (e : errB file K = true) : XfC K (exA K) ∧ PySem.W.findIn K (.ref (exA K)) "code" = some none ∧ PySem.W.exmOne K (.ref (exA K)) (.ref (exA K)) = some true := by
  obtain ⟨_, e⟩ := ba e
  obtain ⟨_, e⟩ := decB e
  obtain ⟨_, e⟩ := decB e
  obtain ⟨_, e⟩ := decB e
  obtain ⟨_, e⟩ := ba e
  obtain ⟨_, e⟩ := decB e
  obtain ⟨_, e⟩ := decB e
  obtain ⟨_, e⟩ := decB e
  obtain ⟨_, e⟩ := decB e
  obtain ⟨b10, e⟩ := decB e
  obtain ⟨b11, e⟩ := ba e
  obtain ⟨b12, e⟩ := decB e
  exact ⟨xfB_ok b11, b10, b12⟩
end Ev

set_option maxRecDepth 10000
namespace Ev
open PySem L2 PyProof.Rows

section
variable {X : Cx} {g : G} {E : XK} {k : Nat → List Nat → List D → S → Res} {e a b c o f : Expr} {ra rb rc : ES} {es : List Expr} {as : AS} {pos p apos cpos : Pos} {tg iter : Expr}
variable {B : List Nat} {α α' α2 : List Addr} {H H' H2 : Hp} {s : S} {ρ : Env}

/-! ### dict(d) -/
theorem cd_dict : CallD X g E (.type "dict") dictD := by
  intro pins s σ H vs us Q I rv ⟨B, α, t, ds, hR, r, q⟩
  match ds, r, q with
  | [d], r, q =>
    obtain ⟨v, rfl, r1⟩ := r.one
    cases r1 with
    | @ref a n h1 =>
      simp only [dictD] at q
      split at q
      · rename_i kvs hd
        obtain ⟨p, xs, e, _, h3, h4⟩ := dct_of hR (.ref h1) hd
        cases e
        refine call_dictD pins s σ H _ us Q I rv ⟨a, xs, rfl, h3, fun p hp => ?_⟩
        have e1 : Ext g.K α (α ++ [p]) H (upd H p (.dK xs)) := .new hp
        refine q _ _ _ e1 (hR.new hp (.dct upd_same (h4.ext e1))) (.ref ?_)
        rw [List.getElem?_append_right (by rw [hR.len]; exact Nat.le_refl _), hR.len]
        simp
      · exact q.elim
    | _ => exact (show False from q).elim
  | [], _, q => exact (show False from q).elim
  | a :: b :: r', _, q => exact (show False from by cases a <;> exact q).elim

/-! ### what is written -/
theorem Ext.fill {K : PySem.W.Frag} {q : Addr} {u w : HO} (hp : H q = none) (e : Ext K α α2 H H2) (h2 : H2 q = some w) (ho : Chg w) : Ext K α (α2 ++ [q]) H (upd H2 q u) := by
  have eo : Ext0 K α2 α2 H2 (upd H2 q u) := .chg h2 ho
  refine ⟨⟨fun m b hm => ?_, fun a xs h => eo.tup a xs (e.tup a xs h), fun a xs h => eo.frl a xs (e.frl a xs h)⟩, fun a o h t n => ?_, fun a o k h => ?_⟩
  · have q := e.pre m b hm
    rw [List.getElem?_append_left (List.getElem?_eq_some_iff.mp q).1]
    exact q
  · have ne := ne_of_none h hp
    obtain ⟨q1, q2⟩ := e.off a o h t n
    refine ⟨by rw [upd_ne ne]; exact q1, fun z => ?_⟩
    rcases List.mem_append.mp z with z | z
    · exact q2 z
    · exact ne (List.mem_singleton.mp z)
  · rw [upd_ne (ne_of_none h hp)]
    exact e.frz a o k h
theorem RKs.merge {K : PySem.W.Frag} : ∀ {ys : List (Key × V)} {es : List (D × D)} {xs : List (Key × V)} {kvs : List (D × D)}, RKs K α H ys es → RKs K α H xs kvs → RKs K α H (mergeK xs ys) (mergeD kvs es)
  | _, _, _, _, .nil, h => h
  | _, _, _, _, .cons (k := kk) r t, h => by have q := RKs.merge t (RKs.put kk r h); exact q
/-- pairs of what is told -/
def flatP : List (V × V) → List V
  | [] => []
  | (x, y) :: r => x :: y :: flatP r
def aPairs : List (ES × ES) → AS
  | [] => aNil
  | (x, y) :: r => aCons x (aCons y (aPairs r))
theorem pairs_of {σ : L2.St} : ∀ (prs : List (ES × ES)) {α : List Addr} {H : Hp} {s : S} {Q : List V → Hp → Prop}, R g B α H s → RE g.K α H σ ρ → PRss g E B α H (aPairs prs ⟨k, B⟩ ρ s) Q → tPairs (prs.map fun p => (tE g E k p.1, tE g E k p.2)) σ H fun ps H3 => Q (flatP ps) H3
  | [], α, H, s, Q, hR, hE, h => h α H [] .refl hR .nil
  | (x, y) :: r, α, H, s, Q, hR, hE, h => by
    refine ⟨B, α, ρ, s, hR, hE, (PRes.bndA h).imp fun v H1 ⟨α1, d1, s1, e1, R1, r1, h1⟩ => ?_⟩
    refine ⟨B, α1, ρ, s1, R1, hE.ext e1, ?_⟩
    have h1' := PRss.bndA h1
    have h2 : PRes g E B α1 H1 (y ⟨k, B⟩ ρ s1) fun w H2 => ∃ α2 d2 s2, Ext g.K α1 α2 H1 H2 ∧ R g B α2 H2 s2 ∧ RV g.K α2 H2 w d2 ∧ PRss g E B α2 H2 (aPairs r ⟨k, B⟩ ρ s2) fun ws H3 => Q (v :: w :: ws) H3 := by
      show PRes g E B α1 H1 (y ⟨k, B⟩ ρ s1) _
      have h3 : PRss g E B α1 H1 ((y ⟨k, B⟩ ρ s1).bndA fun x s => (aPairs r ⟨k, B⟩ ρ s).bndA fun xs s => .ok (x :: xs) s) _ := h1'
      refine (PRes.bndA h3).imp fun w H2 ⟨α2, d2, s2, e2, R2, r2, h4⟩ => ⟨α2, d2, s2, e2, R2, r2, ?_⟩
      have h5 := PRss.bndA h4
      refine h5.imp fun ws H3 ⟨α3, d3, s3, e3, R3, r3, h6⟩ => ?_
      obtain ⟨α4, d4, s4, e4, R4, r4, h7⟩ := h6 α3 H3 (w :: ws) .refl R3 (.cons (r2.ext e3) r3)
      exact h7 α4 H3 (v :: w :: ws) .refl R4 (.cons (r1.ext e4) r4)
    exact h2.imp fun w H2 ⟨α2, d2, s2, e2, R2, r2, h4⟩ => pairs_of r R2 ((hE.ext e1).ext e2) h4
theorem pair_up : ∀ {ds : List D} {kvs : List (D × D)} {vs : List V}, pairUp ds = some kvs → RVs g.K α H vs ds → kvs.all (fun kv => isKey kv.1) = true → ∃ xs : List (Key × V), vs = flatP (xs.map fun kv => (kV kv.1, kv.2)) ∧ RKs g.K α H xs kvs
  | [], kvs, vs, h, r, _ => by
    cases h
    cases r
    exact ⟨[], rfl, .nil⟩
  | [d], kvs, vs, h, r, _ => by cases h
  | d :: d' :: ds, kvs, vs, h, r, hk => by
    rw [pairUp] at h
    cases hq : pairUp ds with
    | none => rw [hq] at h; cases h
    | some kr =>
      rw [hq] at h
      cases h
      rw [List.all_cons, Bool.and_eq_true] at hk
      cases r with
      | cons r1 t =>
        cases t with
        | cons r2 t =>
          obtain ⟨xs, e, rx⟩ := pair_up hq t hk.2
          obtain ⟨ky, e1, e2⟩ := key_of r1 hk.1
          subst e1 e2 e
          exact ⟨(ky, _) :: xs, rfl, .cons r2 rx⟩
theorem flatP_inj : ∀ {a b : List (V × V)}, flatP a = flatP b → a = b
  | [], [], _ => rfl
  | [], (_, _) :: _, h => by cases h
  | (_, _) :: _, [], h => by cases h
  | (x, y) :: a, (z, w) :: b, h => by
    simp only [flatP, List.cons.injEq] at h
    obtain ⟨rfl, rfl, h⟩ := h
    rw [flatP_inj h]
theorem tPairs.imp {σ : L2.St} : ∀ (prs : List (ES × ES)) {H : Hp} {Q Q' : List (V × V) → Hp → Prop}, tPairs (prs.map fun p => (tE g E k p.1, tE g E k p.2)) σ H Q → (∀ v H', Q v H' → Q' v H') → tPairs (prs.map fun p => (tE g E k p.1, tE g E k p.2)) σ H Q'
  | [], H, Q, Q', h, i => i _ _ h
  | (x, y) :: r, H, Q, Q', ⟨B, α, ρ, s, hR, hE, h⟩, i => ⟨B, α, ρ, s, hR, hE, h.imp fun v H1 ⟨B1, α1, ρ1, s1, R1, E1, h1⟩ => ⟨B1, α1, ρ1, s1, R1, E1, h1.imp fun w H2 h2 => tPairs.imp r h2 fun ps H3 h3 => i _ _ h3⟩⟩
theorem se_dct {keys : List (Option Expr)} {values : List Expr} {prs : List (ES × ES)} (h : PPs X pos keys values (prs.map fun p => (tE g E k p.1, tE g E k p.2))) (hall : keys.all (·.isSome) = true) (hl : keys.length = values.length) (h0 : keys ≠ []) (h15 : keys.length ≤ 15) : PE X (.Dict keys values pos) (tE g E k (eDct (aPairs prs))) :=
  PE.imp (pe_disp h hall hl h0 h15) fun σ H Q ⟨B, α, ρ, s, hR, hE, q⟩ => by
    intro p hp
    have eA : Ext g.K α α H (upd H p (.dK [])) := .newT hp
    have hn : p ∉ α := hR.notin hp
    have q3 : PRss g E B α (upd H p (.dK [])) (aPairs prs ⟨k, B⟩ ρ s) fun vs H2 => ∃ α2 ds s2, Ext g.K α α2 (upd H p (.dK [])) H2 ∧ R g B α2 H2 s2 ∧ RVs g.K α2 H2 vs ds ∧ PRes g E B α H (match pairUp ds with
        | some kvs => if kvs.length ≤ 15 ∧ kvs.all (fun kv => isKey kv.1) = true then al (.dct (mergeD [] kvs)) s2 else .fail
        | none => .fail) Q := by
      unfold eDct at q
      cases hz : aPairs prs ⟨k, B⟩ ρ s with
      | ok ds s2 =>
        rw [hz] at q
        exact fun α2 H2 vs e2 R2 r2 => ⟨α2, ds, s2, e2, R2, r2, q⟩
      | exc c t =>
        rw [hz] at q
        exact PExc.ext q eA
      | fail =>
        rw [hz] at q
        exact q.elim
    refine tPairs.imp prs (pairs_of prs (hR.newT hp) (hE.ext eA) q3) fun ps H2 ⟨α2, ds, s2, e2, R2, r2, h2⟩ => ?_
    obtain ⟨o1, o2⟩ := e2.off p _ upd_same (fun _ z => by cases z) hn
    split at h2
    · rename_i kvs hk
      split at h2
      · rename_i hl
        obtain ⟨xs, ex, rx⟩ := pair_up hk r2 hl.2
        refine ⟨o1, xs, flatP_inj ex, by rw [rx.length]; exact hl.1, ?_⟩
        have eF := Ext.fill (u := .dK (mergeK [] xs)) hp (eA.trans e2) o1 trivial
        have ro : RKs g.K α2 (upd H2 p (.dK (mergeK [] xs))) (mergeK [] xs) (mergeD [] kvs) := (RKs.merge rx .nil).ext0 (.chg o1 trivial)
        have ad := (R2.offc (u := .dK (mergeK [] xs)) o2 o1 trivial).adopt o2 (.dct upd_same ro)
        refine h2 _ _ _ eF ad (.ref ?_)
        rw [List.getElem?_append_right (by rw [R2.len]; exact Nat.le_refl _), R2.len]
        simp
      · exact h2.elim
    · exact h2.elim

/-- {} -/
def eDct0 : ES := fun _ _ s => al (.dct []) s
theorem se_dct0 : PE X (.Dict [] [] pos) (tE g E k eDct0) :=
  PE.imp pe_dnewK fun σ H Q ⟨B, α, ρ, s, hR, hE, q⟩ => by
    intro p hp
    have e1 : Ext g.K α (α ++ [p]) H (upd H p (.dK [])) := .new hp
    refine q _ _ _ e1 (hR.new hp (.dct upd_same .nil)) (.ref ?_)
    rw [List.getElem?_append_right (by rw [hR.len]; exact Nat.le_refl _), hR.len]
    simp

/-! ### d.get(k, x) -/
theorem se_get2 (hu : X.A.units + 65 < cLine) (ho : PE X o (tE g E k ra)) (ha : PE X e (tE g E k rb)) (hf : PE X f (tE g E k rc)) (m : M2 X o "get" apos e f cpos) : PE X (.Call (.Attribute o "get" apos) [e, f] [] cpos) (tE g E k (eGet2 ra rb rc)) :=
  PE.imp (pe_dget2 (by omega) ho ha hf m) fun σ H Q ⟨B, α, ρ, s, hR, hE, q⟩ => by
    refine ⟨B, α, ρ, s, hR, hE, (PRes.bnd q).imp fun x H1 ⟨α1, d1, s1, e1, R1, r1, h1⟩ => ?_⟩
    cases d1 <;> try exact (show False from h1).elim
    case ref n =>
      dsimp only at h1
      split at h1
      · rename_i kvs0 hd0
        obtain ⟨a, xs0, rfl, ha1, h3, _⟩ := dct_of R1 r1 hd0
        refine ⟨a, rfl, .inl ⟨xs0, h3⟩, B, α1, ρ, s1, R1, hE.ext e1, (PRes.bnd h1).imp fun y H2 ⟨α2, d2, s2, e2, R2, r2, h2⟩ => ?_⟩
        refine ⟨B, α2, ρ, s2, R2, (hE.ext e1).ext e2, (PRes.bnd h2).imp fun z H3 ⟨α3, d3, s3, e3, R3, r3, h3'⟩ => ?_⟩
        split at h3'
        · rename_i kvs hd
          obtain ⟨a', xs, ea, _, h5, h6⟩ := dct_of R3 ((r1.ext e2).ext e3) hd
          cases ea
          split at h3'
          · exact h3'.elim
          · rename_i v hu hk hg
            obtain ⟨ky, k1, k2⟩ := key_of (r2.ext e3) hk
            subst k1 k2
            obtain ⟨w, w1, w2⟩ := (h6.find ky).1 _ hg
            exact ⟨some w, .inl ⟨xs, ky, h5, rfl, w1.symm⟩, h3' α3 H3 w .refl R3 w2⟩
          · rename_i hk hg
            obtain ⟨ky, k1, k2⟩ := key_of (r2.ext e3) hk
            subst k1 k2
            exact ⟨none, .inl ⟨xs, ky, h5, rfl, ((h6.find ky).2 hg).symm⟩, h3' α3 H3 z .refl R3 r3⟩
          · exact h3'.elim
        · exact h3'.elim
      · exact h1.elim

/-! ### walks over a dict, which stands locked meanwhile -/
theorem RE.ext0 {K : PySem.W.Frag} {σ : L2.St} (r : RE K α H σ ρ) (e : Ext0 K α α' H H') : RE K α' H' σ ρ := ⟨r.1, fun i h => let ⟨v, h1, h2⟩ := r.2 i h; ⟨v, h1, h2.ext0 e⟩⟩
theorem Ext0.unl {K : PySem.W.Frag} {d : Addr} {od : Obj} {xs : List (Key × V)} (h : H d = some (.frz od (.dK xs))) : Ext0 K α α H (upd H d (.dK xs)) := by
  have ne : ∀ {a : Addr} {v : HO}, H a = some v → (∀ o, v ≠ .frz o (.dK xs)) → a ≠ d := fun {a v} h1 c z => by
    rw [z, h] at h1
    cases h1
    exact c _ rfl
  refine ⟨fun n a h => h, fun a xs h => ?_, fun a xs h => ?_⟩
  · rcases h with (h | ⟨o, h⟩) | h
    · exact .inl (.inl (by rw [upd_ne (ne h fun _ z => by cases z)]; exact h))
    · exact .inl (.inr ⟨o, by rw [upd_ne (ne h fun _ z => by cases z)]; exact h⟩)
    · exact .inr h
  · rcases h with ⟨o, h⟩ | h
    · exact .inl ⟨o, by rw [upd_ne (ne h fun _ z => by cases z)]; exact h⟩
    · exact .inr h
/-- the whole of a locked part -/
theorem Ext.unlock {K : PySem.W.Frag} {d : Addr} {od : Obj} {xs : List (Key × V)} (hm : d ∈ α) (hd : H d = some (.dK xs)) (e : Ext K α α' (upd H d (.frz od (.dK xs))) H') : Ext K α α' H (upd H' d (.dK xs)) := by
  have hL : Ext K α α H (upd H d (.frz od (.dK xs))) := .chg hm hd trivial
  have hf : H' d = some (.frz od (.dK xs)) := e.frz d od xs upd_same
  have e2 := hL.trans e
  have eo : Ext0 K α' α' H' (upd H' d (.dK xs)) := .unl hf
  refine ⟨⟨e2.pre, fun a xs h => eo.tup a xs (e2.tup a xs h), fun a xs h => eo.frl a xs (e2.frl a xs h)⟩, fun a o h t n => ?_, fun a o k h => ?_⟩
  · have ne : a ≠ d := fun z => n (z ▸ hm)
    rw [upd_ne ne]
    exact e2.off a o h t n
  · have ne : a ≠ d := fun z => by rw [z, hd] at h; cases h
    rw [upd_ne ne]
    exact e2.frz a o k h
theorem R.unlock {n : Nat} {d : Addr} {od : Obj} {xs : List (Key × V)} {kvs : List (D × D)} (r : R g B α H s) (hn : α[n]? = some d) (ho : s[n]? = some (.dfz kvs)) (hd : H d = some (.frz od (.dK xs))) : R g B α (upd H d (.dK xs)) (s.set n (.dct kvs)) := by
  have eo : Ext0 g.K α α H (upd H d (.dK xs)) := .unl hd
  have l : α.length = s.length := r.len
  have hlt : n < α.length := (List.getElem?_eq_some_iff.mp hn).1
  have rd : RKs g.K α H xs kvs := by
    have q := r.obj n d _ hn ho
    cases q with
    | dfz h3 h4 =>
      rw [hd] at h3
      cases h3
      exact h4
  refine ⟨by simp [l], r.nd, fun m a o' ha ho' => ?_, fun c hc => ?_, fun q hq => ?_, r.ord⟩
  · by_cases hm : m = n
    · subst hm
      rw [hn] at ha
      cases ha
      rw [List.getElem?_set_self (by omega)] at ho'
      cases ho'
      exact .dct upd_same (rd.ext0 eo)
    · rw [List.getElem?_set_ne (Ne.symm hm)] at ho'
      refine (r.obj m a o' ha ho').ext0 eo (upd_ne fun z => hm ?_)
      subst z
      obtain ⟨i1, e1⟩ := List.getElem?_eq_some_iff.mp ha
      obtain ⟨i2, e2⟩ := List.getElem?_eq_some_iff.mp hn
      exact (List.getElem_inj r.nd).mp (e1.trans e2.symm)
  · obtain ⟨h1, h2⟩ := r.blk c hc
    refine ⟨by simpa using h1, fun m o' hm ho' => ?_⟩
    by_cases hmn : m = n
    · subst hmn
      rw [List.getElem?_set_self (by omega)] at ho'
      cases ho'
      have q := h2 m _ hm ho
      exact q
    · rw [List.getElem?_set_ne (Ne.symm hmn)] at ho'
      exact h2 m o' hm ho'
  · obtain ⟨ps, h1, h2, h3⟩ := r.tabs q hq
    have nt : ∀ {b : Addr} {w : HO}, H b = some w → (∀ o, w ≠ .frz o (.dK xs)) → b ≠ d := fun {b w} h c z => by
      rw [z, hd] at h
      cases h
      exact c _ rfl
    refine ⟨ps, by rw [upd_ne (nt h1 fun _ z => by cases z)]; exact h1, h2, fun pos cv hcv => ?_⟩
    obtain ⟨c, e1, e2⟩ := h3 pos cv hcv
    exact ⟨c, e1, by rw [upd_ne (nt e2 fun _ z => by cases z)]; exact e2⟩
theorem si_keyD {i : Nat} {x : Str} (hv : PE X (.Name x p) (tE g E k (eVar i))) : PI X tg (.Name x p) (tI g E k (iKeyD i)) :=
  PI.imp (pi_keys hv) fun σ H Q ⟨B, α, ρ, s, hR, hE, h⟩ => by
    refine ⟨B, α, ρ, s, hR, hE, ?_⟩
    unfold iKeyD at h
    unfold eVar
    cases hg : gv ρ i <;> rw [hg] at h <;> try exact (show False from h).elim
    case ref n =>
      dsimp only at h ⊢
      intro α1 H1 v e1 R1 r1
      split at h
      · rename_i kvs ho
        obtain ⟨a, rfl, ha, ro⟩ := R1.get r1 ho
        cases ro with
        | @dfz od xs _ h3 h4 =>
          refine ⟨a, od, rfl, .inl ⟨xs, h3, h α1 H1 _ e1 R1 ?_ rfl⟩⟩
          have hl : (kvs.map (·.1)).length = xs.length := by rw [List.length_map, h4.length]
          refine ⟨fun i B α2 H2 s2 hi e r _ => walk_keys.goes i H2 (by omega) (e.frz _ _ _ h3), fun B α2 H2 s2 e r _ => by rw [hl]; exact walk_keys.stops H2 (e.frz _ _ _ h3), fun i B α2 H2 s2 y H3 hi e r _ yl => ?_⟩
          obtain ⟨q1, ky, v, q2, q3⟩ := walk_keys.yields i H2 y H3 (by omega) (e.frz _ _ _ h3) yl
          subst q1 q3
          refine ⟨r, .refl, kD ky, ?_, ?_⟩
          · rw [List.getElem?_map]
            have : ∀ {xs : List (Key × V)} {kvs : List (D × D)}, RKs g.K α1 H1 xs kvs → ∀ (i : Nat) ky v, xs[i]? = some (ky, v) → (kvs[i]?).map (·.1) = some (kD ky) := by
              intro xs kvs h
              induction h with
              | nil => intro i ky v h; cases h
              | cons _ _ ih =>
                intro i ky v h
                cases i with
                | zero => cases h; rfl
                | succ i => exact ih i ky v h
            exact this h4 i ky v q2
          · cases ky
            · exact .int _
            · exact .str _
      · exact h.elim
theorem ss_forD {gc : Bool} {i : Nat} {x : Str} {t : TS} {tb : SS} {body : List Stmt} (hv : PE X (.Name x p) (tE g E k (eVar i))) (hp : PassesOwn (model X.prog X.w) X.A X.env X.xe) (hc : X.calm = true) (hg : PG X tg (TgD X g E k t)) (ht : TOk t) (hb : PSs X body (tSS g E k tb))
    (hs : ∀ y, foldedSetIterable (.Name x p) X.env y = pure y) : PS X (.For tg (.Name x p) body [] pos) (tSS g E k (sForD gc i t tb)) :=
  PS.imp (ps_lock (ss_for (gc := gc) hp hc (si_keyD hv) hg ht hb hs)) fun σ H Dd ⟨B, α, ρ, s, hR, hE, h⟩ => by
    unfold sForD at h
    cases hgv : gv ρ i <;> rw [hgv] at h <;> try exact (show False from h).elim
    case ref n =>
      dsimp only at h
      split at h
      · rename_i kvs ho
        have hlt : n < s.length := (List.getElem?_eq_some_iff.mp ho).1
        have hn : α[n]? = some (α[n]'(by rw [hR.len]; exact hlt)) := List.getElem?_eq_getElem _
        generalize α[n]'(by rw [hR.len]; exact hlt) = d at hn
        have ro := hR.obj n d _ hn ho
        have hm := List.mem_of_getElem? hn
        cases ro with
        | @dct xs _ h3 h4 =>
          refine ⟨d, _, h3, trivial, fun od => ?_⟩
          have eL : Ext g.K α α H (upd H d (.frz od (.dK xs))) := .chg hm h3 trivial
          have RL : R g B α (upd H d (.frz od (.dK xs))) (s.set n (.dfz kvs)) := hR.chg hn h3 trivial (.dfz upd_same (h4.ext eL)) fun b hb hlt => by have q := (hR.blk b hb).2 n _ hlt ho; exact q
          refine ⟨B, α, ρ, _, RL, hE.ext eL, ?_⟩
          revert h
          generalize sFor gc (iKeyD i) t tb ⟨k, B⟩ ρ (s.set n (.dfz kvs)) = out
          intro h
          have fz : ∀ {α1 H1}, Ext g.K α α1 (upd H d (.frz od (.dK xs))) H1 → H1 d = some (.frz od (.dK xs)) := fun e => e.frz d od xs upd_same
          cases out with
          | nx ρ' s' =>
            intro α1 H1 σ1 e r re
            simp only [unlk] at h
            split at h
            · rename_i kvs' ho'
              exact ⟨fz e, h α1 _ σ1 (e.unlock hm h3) (r.unlock (e.pre n d hn) ho' (fz e)) (re.ext0 (.unl (fz e)))⟩
            · exact h.elim
          | rt v s' =>
            intro α1 H1 v1 e r rv
            simp only [unlk] at h
            split at h
            · rename_i kvs' ho'
              exact ⟨fz e, h α1 _ v1 (e.unlock hm h3) (r.unlock (e.pre n d hn) ho' (fz e)) (rv.ext0 (.unl (fz e)))⟩
            · exact h.elim
          | exc c s' => exact PExc.ext h eL
          | bk ρ' s' => exact (show False from h).elim
          | ct ρ' s' => exact (show False from h).elim
          | fail => exact (show False from h).elim
      · exact h.elim
end
/-! ### .. in short -/
variable {Γ : W0} {lo : Nat} {E : XK} {X : Cx} {N : List Str} {sc : Scope} {fz : Str → Bool} {k : Nat → List Nat → List D → S → Res}
variable {e a b c o f : Expr} {es : List Expr} {ra rb rc ro : ES} {as : AS} {pos p apos cpos : Pos} {tg iter elt cond : Expr}
theorem bb_dict : bootBuiltins "dict" = some (.type "dict") := by kernel_rfl
theorem w_dict (h : CxW Γ lo E X N sc fz) (ha : PA X (e :: es) (tA Γ.g E k as)) (he : starEach (e :: es) X.env = (false, eval e X.env) :: starEach es X.env) (hpl : (backTo pos (starEach es X.env)).any (·.1) = false) (hg : bltB sc "dict" = true) (hm : Γ.mg "dict" = none) : PE X (.Call (.Name "dict" p) (e :: es) [] pos) (tE Γ.g E k (eBlt dictD as)) := w_bltT h cd_dict hg hm bb_dict ha he hpl
theorem w_forD {gc : Bool} {i : Nat} {x : Str} {t : TS} {tb : SS} {body : List Stmt} (h : CxW Γ lo E X N sc fz) (hv : PE X (.Name x p) (tE Γ.g E k (eVar i))) (hg : PG X tg (TgD X Γ.g E k t)) (ht : TOk t) (hb : PSs X body (tSS Γ.g E k tb)) (hs : ∀ y, foldedSetIterable (.Name x p) X.env y = pure y) :
    PS X (.For tg (.Name x p) body [] pos) (tSS Γ.g E k (sForD gc i t tb)) := ss_forD hv h.pas h.calm hg ht hb hs
end Ev

set_option maxRecDepth 10000
namespace Ev
open PySem L2 PyProof.Rows
variable {Γ : W0} {lo : Nat} {E : XK} {X : Cx} {N : List Str} {sc : Scope} {fz : Str → Bool} {k : Nat → List Nat → List D → S → Res}
variable {e a b c o f : Expr} {es : List Expr} {ra rb rc ro : ES} {as : AS} {pos p apos cpos : Pos} {tg iter elt cond : Expr}

/-! ### global tuples of the text: numbers, words, tuples of such -/
def datB (K : PySem.W.Frag) : Nat → Value → D → Bool
  | _, .none, .non => true
  | _, .bool b, .bl c => b == c
  | _, .int i _, .int j => decide (i = j)
  | _, .str x _, .str y => decide (x = y)
  | n + 1, .ref a, .tup ds => match List.lookup a K with
    | some ⟨.type t, _, .seq its _, _⟩ => (t == "tuple" && decide (its.size ≤ sizeLine)) && (decide (its.toList.length = ds.length) && (its.toList.zip ds).all fun p => datB K n p.1 p.2)
    | _ => false
  | _, _, _ => false
theorem datB_ok {K : PySem.W.Frag} : ∀ (n : Nat) (u : Value) (d : D), datB K n u d = true → ∃ v, RelV v u ∧ ∀ α H, RV K α H v d := by
  intro n
  induction n with
  | zero =>
    intro u d h
    cases u <;> cases d <;> first | (cases h; done) | skip
    case none.non => exact ⟨.non, rfl, fun _ _ => .non⟩
    case bool.bl b c =>
      have e : b = c := by simpa [datB] using h
      subst e
      exact ⟨.bl b, rfl, fun _ _ => .bl b⟩
    case int.int i t j =>
      have e : i = j := by simpa [datB] using h
      subst e
      exact ⟨.int i, ⟨t, rfl⟩, fun _ _ => .int i⟩
    case str.str x t y =>
      have e : x = y := by simpa [datB] using h
      subst e
      exact ⟨.str x, ⟨t, rfl⟩, fun _ _ => .str x⟩
  | succ n ih =>
    intro u d h
    cases u <;> cases d <;> first | (cases h; done) | skip
    case none.non => exact ⟨.non, rfl, fun _ _ => .non⟩
    case bool.bl b c =>
      have e : b = c := by simpa [datB] using h
      subst e
      exact ⟨.bl b, rfl, fun _ _ => .bl b⟩
    case int.int i t j =>
      have e : i = j := by simpa [datB] using h
      subst e
      exact ⟨.int i, ⟨t, rfl⟩, fun _ _ => .int i⟩
    case str.str x t y =>
      have e : x = y := by simpa [datB] using h
      subst e
      exact ⟨.str x, ⟨t, rfl⟩, fun _ _ => .str x⟩
    case ref.tup a ds =>
      rw [datB] at h
      split at h
      · rename_i t dd its m sl hl
        rw [Bool.and_eq_true, Bool.and_eq_true, Bool.and_eq_true] at h
        obtain ⟨⟨h1, h2⟩, h3, h4⟩ := h
        have h2 := of_decide_eq_true h2
        have h3 := of_decide_eq_true h3
        have ht : t = "tuple" := by simpa using h1
        subst ht
        have key : ∀ (us : List Value) (ds : List D), us.length = ds.length → ((us.zip ds).all fun p => datB K n p.1 p.2) = true → ∃ vs, Vals vs us ∧ ∀ α H, RVs K α H vs ds := by
          intro us
          induction us with
          | nil =>
            intro ds hl _
            cases ds with
            | nil => exact ⟨[], .nil, fun _ _ => .nil⟩
            | cons _ _ => cases hl
          | cons u us ihu =>
            intro ds hl ha
            cases ds with
            | nil => cases hl
            | cons d ds =>
              rw [List.zip_cons_cons, List.all_cons, Bool.and_eq_true] at ha
              obtain ⟨v, r1, r2⟩ := ih u d ha.1
              obtain ⟨vs, q1, q2⟩ := ihu ds (by simpa using hl) ha.2
              exact ⟨v :: vs, .cons r1 q1, fun α H => .cons (r2 α H) (q2 α H)⟩
        obtain ⟨vs, q1, q2⟩ := key its.toList ds h3 h4
        exact ⟨.ref a, rfl, fun α H => .tup (.inr ⟨_, its, m, hl, rfl, rfl, h2, q1⟩) (q2 α H)⟩
      · cases h
theorem w_gdat {x : Str} {d : D} (h : CxW Γ lo E X N sc fz) (hg : glB sc x = true) (hm : ∃ a, Γ.mg x = some (.ref a) ∧ datB Γ.g.K 4 (.ref a) d = true) : PE X (.Name x pos) (tE Γ.g E k (eC d)) :=
  let ⟨a, hm, hd⟩ := hm
  let ⟨v, r, rv⟩ := datB_ok 4 _ d hd
  se_const (pe_glob (h.gl hg) (by rw [h.pmg]; exact hm) (v := v) r (glB_db hg)) (fun _ _ _ q => q) rv
def parB3 (sc : Scope) (N : List Str) (i j l : Nat) (x y z : Str) : Bool := decide (N[i]? = some x ∧ N[j]? = some y ∧ N[l]? = some z ∧ i ≠ j ∧ i ≠ l ∧ j ≠ l ∧ sc.names.lookup x = some .local ∧ sc.names.lookup y = some .local ∧ sc.names.lookup z = some .local)
theorem w_par3 {i j l : Nat} {x y z : Str} {px py pz pt : Pos} {kt k2 pt2} (h : CxW Γ lo E X N sc fz) (hn : parB3 sc N i j l x y z = true) (ha : PA X [a, b, c] (tA Γ.g E k as)) (hw : swappedStores [.Tuple [.Name x px, .Name y py, .Name z pz] kt pt] (.Tuple [a, b, c] k2 pt2) (env0 sc) = pure (some [x, y, z]))
    (hs : swapsWithSole [.Tuple [.Name x px, .Name y py, .Name z pz] kt pt] (.Tuple [a, b, c] k2 pt2) pos.line X.env = pure false) : PS X (.Assign [.Tuple [.Name x px, .Name y py, .Name z pz] kt pt] (.Tuple [a, b, c] k2 pt2) pos) (tSS Γ.g E k (sPar3 i j l as)) := by
  obtain ⟨h1, h2, h3, h4, h5, h6, h7, h8, h9⟩ := of_decide_eq_true hn
  exact ss_par3 h.calm (by rw [h.pN]; exact h.nd) (by rw [h.pN]; exact h1) (by rw [h.pN]; exact h2) (by rw [h.pN]; exact h3) h4 h5 h6 (by rw [h.psc]; exact h7) (by rw [h.psc]; exact h8) (by rw [h.psc]; exact h9) ha (by rw [swap_sc h]; exact hw) hs
end Ev

namespace Ev
open PySem

/-! ### loops as folds -/
/-- one turn of a for -/
def turn1 (gc : Bool) (t : TS) (body : SS) (c : C) (d : D) (ρ : Env) (s : S) : Out :=
  match (t (c.psh gc s.length) d ρ s).bnd fun ρ' s' => body (c.psh gc s.length) ρ' s' with
  | .nx ρ' s' => turnEnd gc s.length ρ' s' .nx
  | .ct ρ' s' => turnEnd gc s.length ρ' s' .nx
  | .bk ρ' s' => turnEnd gc s.length ρ' s' .bk
  | o => o
theorem turnEnd_map {gc : Bool} {b : Nat} {ρ ρ2 : Env} {s s2 : S} {k : Env → S → Out} (h : turnEnd gc b ρ s .nx = .nx ρ2 s2) : turnEnd gc b ρ s k = k ρ2 s2 := by
  unfold turnEnd at h ⊢
  split at h
  · cases h; rw [if_pos (by assumption)]
  · cases h; rw [if_neg (by assumption)]
theorem forL_cons {gc : Bool} {g : Option (Nat × List D)} {t : TS} {body : SS} {c : C} {d : D} {r : List D} {ρ ρ2 : Env} {s s2 : S} (h : turn1 gc t body c d ρ s = .nx ρ2 s2) (hg : gOk g s2 = true) : forL gc g t body c (d :: r) ρ s = forL gc g t body c r ρ2 s2 := by
  rw [forL]
  unfold turn1 at h
  cases hz : (t (c.psh gc s.length) d ρ s).bnd fun ρ' s' => body (c.psh gc s.length) ρ' s' with
  | nx ρ' s' => rw [hz] at h; dsimp only at h ⊢; rw [turnEnd_map h, if_pos hg]
  | ct ρ' s' => rw [hz] at h; dsimp only at h ⊢; rw [turnEnd_map h, if_pos hg]
  | bk ρ' s' =>
    rw [hz] at h
    dsimp only at h
    unfold turnEnd at h
    split at h <;> cases h
  | rt d s' => rw [hz] at h; cases h
  | exc k s' => rw [hz] at h; cases h
  | fail => rw [hz] at h; cases h
/-- a for whose turns all come to their ends -/
theorem forL_fold {A : Type} {gc : Bool} {g : Option (Nat × List D)} {t : TS} {body : SS} {c : C} (f : A → D → A) (env : A → Env) (st : A → S) (I : List D → A → Prop)
    (h : ∀ d r a, I (d :: r) a → turn1 gc t body c d (env a) (st a) = .nx (env (f a d)) (st (f a d)) ∧ gOk g (st (f a d)) = true ∧ I r (f a d)) :
    ∀ l a, I l a → forL gc g t body c l (env a) (st a) = .nx (env (l.foldl f a)) (st (l.foldl f a)) ∧ I [] (l.foldl f a)
  | [], a, hi => ⟨rfl, hi⟩
  | d :: r, a, hi => by
    obtain ⟨h1, h2, h3⟩ := h d r a hi
    rw [forL_cons h1 h2]
    exact forL_fold f env st I h r (f a d) h3
/-! ### statements, step by step -/
section
variable {a b body : SS} {t : ES} {e : ES} {c : C} {ρ ρ1 ρ2 ρ3 : Env} {s s1 s2 s3 : S} {d : D} {i : Nat}
theorem seq_nx (h : a c ρ s = .nx ρ1 s1) : sSeq a b c ρ s = b c ρ1 s1 := by unfold sSeq; rw [h]; rfl
theorem seq_rt (h : a c ρ s = .rt d s1) : sSeq a b c ρ s = .rt d s1 := by unfold sSeq; rw [h]; rfl
theorem seq_exc (h : a c ρ s = .exc d s1) : sSeq a b c ρ s = .exc d s1 := by unfold sSeq; rw [h]; rfl
theorem seq_bk (h : a c ρ s = .bk ρ1 s1) : sSeq a b c ρ s = .bk ρ1 s1 := by unfold sSeq; rw [h]; rfl
theorem seq_ct (h : a c ρ s = .ct ρ1 s1) : sSeq a b c ρ s = .ct ρ1 s1 := by unfold sSeq; rw [h]; rfl
theorem seq_go {o : Out} (h : a c ρ s = .nx ρ1 s1) (k : b c ρ1 s1 = o) : sSeq a b c ρ s = o := (seq_nx h).trans k
theorem if_go {p : Bool} {o : Out} (h : t c ρ s = .ok d s1) (ht : tru s1 d = some p) (h1 : p = true → a c ρ s1 = o) (h2 : p = false → b c ρ s1 = o) : sIf t a b c ρ s = o := by
  unfold sIf
  rw [h]
  simp only [Res.tstS, ht]
  cases p with
  | true => exact h1 rfl
  | false => exact h2 rfl
theorem run_go {np n : Nat} {k : Nat → List Nat → List D → S → Res} {B : List Nat} {xs : List D} {r : Res} (h1 : xs.length = np) (h : body ⟨k, s.length :: B⟩ (start0 n xs) s = .rt d s1) (hr : finF s.length (.ok d s1) = r) : run1 np n body k B xs s = r := by
  unfold run1
  rw [if_pos h1, h]
  exact hr
theorem if_t (h : t c ρ s = .ok d s1) (ht : tru s1 d = some true) : sIf t a b c ρ s = a c ρ s1 := by unfold sIf; rw [h]; simp only [Res.tstS, ht]; rfl
theorem if_f (h : t c ρ s = .ok d s1) (ht : tru s1 d = some false) : sIf t a b c ρ s = b c ρ s1 := by unfold sIf; rw [h]; simp only [Res.tstS, ht]; rfl
/-- a test by a truth value that is asked of plain facts -/
theorem if_b {p : Bool} (h : t c ρ s = .ok (.bl p) s1) : sIf t a b c ρ s = if p = true then a c ρ s1 else b c ρ s1 := by unfold sIf; rw [h]; rfl
theorem guard_nx (h : t c ρ s = .ok (.bl false) s1) : sIf t a sNil c ρ s = .nx ρ s1 := (if_f h rfl).trans rfl
theorem set_ok (h : e c ρ s = .ok d s1) : sSet i e c ρ s = .nx (sv ρ i d) s1 := by unfold sSet; rw [h]; rfl
theorem ret_ok (h : e c ρ s = .ok d s1) : sRet e c ρ s = .rt d s1 := by unfold sRet; rw [h]; rfl
theorem expr_ok (h : e c ρ s = .ok d s1) : sExpr e c ρ s = .nx ρ s1 := by unfold sExpr; rw [h]; rfl
theorem raise_ok (h : e c ρ s = .ok d s1) : sRaise e c ρ s = .exc d s1 := by unfold sRaise; rw [h]; rfl
theorem asg_ok {t : TS} (h : e c ρ s = .ok d s1) : sAsg e t c ρ s = t c d ρ s1 := by unfold sAsg; rw [h]; rfl
theorem for_nx {gc : Bool} {it : IS} {t : TS} {ds : List D} {g : Option (Nat × List D)} (hi : it (c.psh gc s.length) ρ s = .ok ds g s1) (hl : forL gc g t body (c.psh gc s.length) ds ρ s1 = .nx ρ2 s2) (he : turnEnd gc s.length ρ2 s2 .nx = .nx ρ3 s3) : sFor gc it t body c ρ s = .nx ρ3 s3 := by
  unfold sFor
  rw [hi]
  show endG gc s.length (forL gc g t body (c.psh gc s.length) ds ρ s1) = _
  rw [hl]
  exact he
theorem for_rt {gc : Bool} {it : IS} {t : TS} {ds : List D} {g : Option (Nat × List D)} (hi : it (c.psh gc s.length) ρ s = .ok ds g s1) (hl : forL gc g t body (c.psh gc s.length) ds ρ s1 = .rt d s2) : sFor gc it t body c ρ s = .rt d s2 := by
  unfold sFor
  rw [hi]
  show endG gc s.length (forL gc g t body (c.psh gc s.length) ds ρ s1) = _
  rw [hl]
  rfl
theorem te_same {gc : Bool} {s : S} {ρ : Env} {k : Env → S → Out} : turnEnd gc s.length ρ s k = k ρ s := by
  unfold turnEnd
  rw [if_neg (by simp)]
theorem te_len {gc : Bool} {s : S} {n : Nat} {ρ : Env} {k : Env → S → Out} (h : s.length = n) : turnEnd gc n ρ s k = k ρ s := by
  subst h; exact te_same
theorem turn_nx1 {gc : Bool} {t : TS} (h : (t (c.psh gc s.length) d ρ s).bnd (fun ρ' s' => body (c.psh gc s.length) ρ' s') = .nx ρ1 s1) (he : turnEnd gc s.length ρ1 s1 .nx = .nx ρ2 s2) : turn1 gc t body c d ρ s = .nx ρ2 s2 := by
  unfold turn1
  rw [h]
  exact he
theorem turn_ct1 {gc : Bool} {t : TS} (h : (t (c.psh gc s.length) d ρ s).bnd (fun ρ' s' => body (c.psh gc s.length) ρ' s') = .ct ρ1 s1) (he : turnEnd gc s.length ρ1 s1 .nx = .nx ρ2 s2) : turn1 gc t body c d ρ s = .nx ρ2 s2 := by
  unfold turn1
  rw [h]
  exact he
/-- a turn that leaves the store's length, the target a name -/
theorem turn_name {gc : Bool} (h : body (c.psh gc s.length) (sv ρ i d) s = .nx ρ1 s1) (hl : s1.length = s.length) : turn1 gc (tName i) body c d ρ s = .nx ρ1 s1 := turn_nx1 h (te_len hl)
/-! while: turns counted downwards -/
theorem while_f {gc : Bool} {n : Nat} (h : t (c.psh gc s.length) ρ s = .ok d s1) (ht : tru s1 d = some false) : whileL gc t body c (n + 1) ρ s = turnEnd gc s.length ρ s1 .nx := by
  rw [whileL, h]
  simp only [Res.tstS, ht]
  rfl
theorem while_t {gc : Bool} {n : Nat} (h : t (c.psh gc s.length) ρ s = .ok d s1) (ht : tru s1 d = some true) (hb : body (c.psh gc s.length) ρ s1 = .nx ρ1 s2) (he : turnEnd gc s.length ρ1 s2 .nx = .nx ρ2 s3) : whileL gc t body c (n + 1) ρ s = whileL gc t body c n ρ2 s3 := by
  rw [whileL, h]
  simp only [Res.tstS, ht]
  simp only [if_true]
  rw [hb]
  exact turnEnd_map he
theorem while_go {gc : Bool} {o : Out} (h : whileL gc t body c turns ρ s = o) : sWhile gc t body c ρ s = o := h
/-! calls -/
theorem run_rt {np n : Nat} {k : Nat → List Nat → List D → S → Res} {B : List Nat} {xs : List D} (h1 : xs.length = np) (h : body ⟨k, s.length :: B⟩ (start0 n xs) s = .rt d s1) : run1 np n body k B xs s = finF s.length (.ok d s1) := by
  unfold run1
  rw [if_pos h1, h]
  rfl
theorem run_nx {np n : Nat} {k : Nat → List Nat → List D → S → Res} {B : List Nat} {xs : List D} (h1 : xs.length = np) (h : body ⟨k, s.length :: B⟩ (start0 n xs) s = .nx ρ1 s1) : run1 np n body k B xs s = finF s.length (.ok .non s1) := by
  unfold run1
  rw [if_pos h1, h]
  rfl
theorem run_exc {np n : Nat} {k : Nat → List Nat → List D → S → Res} {B : List Nat} {xs : List D} (h1 : xs.length = np) (h : body ⟨k, s.length :: B⟩ (start0 n xs) s = .exc d s1) : run1 np n body k B xs s = finF s.length (.exc d s1) := by
  unfold run1
  rw [if_pos h1, h]
  rfl
end
theorem fin_len {d : D} {s : S} {n : Nat} (h : s.length = n) : fin n (.ok d s) = .ok d s := by simp [fin, h]
theorem finF_len {d : D} {s : S} {n : Nat} (h : s.length = n) : finF n (.ok d s) = .ok d s := by
  cases d <;> simp [finF, fin, h]
theorem fin_same' {d : D} {s : S} : fin s.length (.ok d s) = .ok d s := fin_len rfl
theorem finF_same {d : D} {s : S} : finF s.length (.ok d s) = .ok d s := finF_len rfl
theorem finE_same {d : D} {s : S} : finF s.length (.exc d s) = .exc d s := by simp [finF, fin]
/-- what is plain lets go whatever is new -/
theorem fin_pln {d : D} {s t : S} (h : d.yg s.length = false) : fin s.length (.ok d (s ++ t)) = .ok d s := by
  show (if (s ++ t).length = s.length then Res.ok d (s ++ t) else if d.yg s.length = true then .ok d (s ++ t) else .ok d ((s ++ t).take s.length)) = _
  by_cases hl : (s ++ t).length = s.length
  · have e : t = [] := by
      rw [List.length_append] at hl
      exact List.length_eq_zero_iff.mp (by omega)
    rw [e, List.append_nil, if_pos rfl]
  · rw [if_neg hl, if_neg (by rw [h]; exact Bool.false_ne_true), List.take_left']
    rfl
theorem finF_pln {d : D} {s t : S} (h : d.yg s.length = false) (hr : ∀ n, d ≠ .ref n) : finF s.length (.ok d (s ++ t)) = .ok d s := by
  cases d <;> first | exact fin_pln h | exact absurd rfl (hr _)
theorem tru_bl {s : S} {p : Bool} : tru s (.bl p) = some p := rfl
theorem mulOk_r {i j : Int} (h1 : -(2 ^ 64) < j) (h2 : j < 2 ^ 64) : mulOk i j = true := by
  unfold mulOk
  rw [Bool.or_eq_true]
  exact .inr (decide_eq_true ⟨h1, h2⟩)
theorem mulOk_l {i j : Int} (h1 : -(2 ^ 64) < i) (h2 : i < 2 ^ 64) : mulOk i j = true := by
  unfold mulOk
  rw [Bool.or_eq_true]
  exact .inl (decide_eq_true ⟨h1, h2⟩)
theorem mul_ok {i j : Int} {s : S} (h : mulOk i j = true) : bMul (.int i) (.int j) s = .ok (.int (i * j)) s := if_pos h
theorem iMul_ok {i j : Int} {s : S} (h : mulOk i j = true) : iMul (.int i) (.int j) s = .ok (.int (i * j)) s := if_pos h
theorem big_of {j : Int} (h : j < 2 ^ 62) : j < big := Int.lt_trans h (by decide +kernel)
theorem div_ok {i j : Int} {s : S} (h : 0 < j) (h2 : j < big) : bDiv (.int i) (.int j) s = .ok (.int (i / j)) s := if_pos ⟨h, h2⟩
theorem mod_ok {i j : Int} {s : S} (h : 0 < j) : bMod (.int i) (.int j) s = .ok (.int (i % j)) s := if_pos h
theorem cEq_int {a b : Int} {s : S} : cEq (.int a) (.int b) s = .ok (.bl (decide (a = b))) s := by
  simp [cEq, eqD, D.shp, D.eqv, ofB, BEq.beq]
theorem cNe_int {a b : Int} {s : S} : cNe (.int a) (.int b) s = .ok (.bl (!decide (a = b))) s := by
  simp [cNe, eqD, D.shp, D.eqv, ofB, BEq.beq]
mutual
theorem eqv_self : ∀ {k : Nat} {x : D}, x.shp k = true → D.eqv x x = true
  | _, .non, _ => rfl
  | _, .bl a, _ => by simp [D.eqv]
  | _, .int i, _ => by simp [D.eqv]
  | _, .str x, _ => by simp [D.eqv]
  | 0, .tup ds, h => by simp [D.shp] at h
  | k + 1, .tup ds, h => by rw [D.eqv]; exact eqvs_self (k := k) (by simpa [D.shp] using h)
  | _, .und, h => by simp [D.shp] at h
  | _, .frl _, h => by simp [D.shp] at h
  | _, .ref _, h => by simp [D.shp] at h
theorem eqvs_self : ∀ {k : Nat} {x : List D}, (∀ d ∈ x, D.shp k d = true) → D.eqvs x x = true
  | _, [], _ => rfl
  | k, d :: r, h => by
    rw [D.eqvs, eqv_self (h d List.mem_cons_self), eqvs_self fun z hz => h z (List.mem_cons_of_mem _ hz)]
    rfl
end
theorem cEq_shp {x y : D} {s : S} (h1 : x.shp 40 = true) (h2 : y.shp 40 = true) : cEq x y s = .ok (.bl (x.eqv y)) s := by
  simp [cEq, eqD, h1, h2, ofB]
theorem cNe_shp {x y : D} {s : S} (h1 : x.shp 40 = true) (h2 : y.shp 40 = true) : cNe x y s = .ok (.bl (!x.eqv y)) s := by
  simp [cNe, eqD, h1, h2, ofB]
theorem cEq_self {x : D} {s : S} (h : x.shp 40 = true) : cEq x x s = .ok (.bl true) s := by rw [cEq_shp h h, eqv_self h]
theorem cNe_self {x : D} {s : S} (h : x.shp 40 = true) : cNe x x s = .ok (.bl false) s := by rw [cNe_shp h h, eqv_self h]; rfl
theorem small_of {n : Int} (h0 : -(2 ^ 62) ≤ n) (h1 : n < 2 ^ 62) : small62 n = true := decide_eq_true ⟨h0, h1⟩
/-! ### the newest list -/
theorem top_get {s : S} {o : O} : (s ++ [o])[s.length]? = some o := by simp
theorem top_set {s : S} {o u : O} : (s ++ [o]).set s.length u = s ++ [u] := by simp
theorem top_lst {s : S} {ds : List D} : lstOf (s ++ [.lst ds]) s.length = some ds := by simp [lstOf]
theorem top_isL {s : S} {ds : List D} : isL (.ref s.length) (s ++ [.lst ds]) = true := by simp [isL, top_lst]
theorem wok_pln {B : List Nat} {i : Nat} {d : D} (h : ∀ b, d.yg b = false) : wok B i d = true := by simp [wok, h]
theorem yg_int {b : Nat} {i : Int} : D.yg b (.int i) = false := rfl
theorem ygs_map_int {b : Nat} : ∀ {l : List Int}, D.ygs b (l.map D.int) = false
  | [] => rfl
  | _ :: r => by rw [List.map_cons, D.ygs, ygs_map_int (l := r)]; rfl
theorem woks_ints {B : List Nat} {i : Nat} {l : List Int} : woks B i (l.map D.int) = true := by simp [woks, ygs_map_int]
theorem app_top {B : List Nat} {s : S} {ds : List D} {v : D} (hl : ds.length < lim) (hw : wok B s.length v = true) : mAppend B (.ref s.length) [v] (s ++ [.lst ds]) = .ok .non (s ++ [.lst (ds ++ [v])]) := by
  simp only [mAppend, top_get, top_set]
  rw [if_pos ⟨hl, hw⟩]
theorem tupD_lst {s : S} {n : Nat} {ds : List D} (h : lstOf s n = some ds) : tupD [.ref n] s = .ok (.tup ds) s := by simp [tupD, h]
theorem lenD_lst {s : S} {n : Nat} {ds : List D} (h : lstOf s n = some ds) : lenD [.ref n] s = .ok (.int ds.length) s := by simp [lenD, h]
theorem yg_tupI {b : Nat} {l : List Int} : D.yg b (.tup (l.map D.int)) = false := by rw [D.yg]; exact ygs_map_int
theorem lim_of {n : Nat} (h : n ≤ 1000000) : n < lim := Nat.lt_of_le_of_lt h (by decide)
/-! ### comprehensions -/
theorem finA_same {ds : List D} {s : S} : finA s.length (.ok ds s) = .ok ds s := by simp [finA]
theorem compL_map {g : Option (Nat × List D)} {i : Nat} {te : ES} {c : C} {ρ : Env} {s : S} {f : D → D} (hg : gOk g s = true) : ∀ (l : List D), (∀ d ∈ l, te { c with B := s.length :: c.B } (sv ρ i d) s = .ok (f d) s) → compL g (tName i) none te c ρ l s = .ok (l.map f) s
  | [], _ => rfl
  | d :: r, h => by
    have h1 := h d List.mem_cons_self
    have h2 := compL_map hg r fun z hz => h z (List.mem_cons_of_mem _ hz)
    simp only [compL, tName, compE, h1, Res.bndA, finA_same, hg, if_true, h2, Rss.bndA]
    rfl
theorem compL_filter {g : Option (Nat × List D)} {i : Nat} {tq te : ES} {c : C} {ρ : Env} {s : S} {f : D → D} {p : D → Bool} (hg : gOk g s = true) : ∀ (l : List D), (∀ d ∈ l, tq { c with B := s.length :: c.B } (sv ρ i d) s = .ok (.bl (p d)) s) → (∀ d ∈ l, p d = true → te { c with B := s.length :: c.B } (sv ρ i d) s = .ok (f d) s) → compL g (tName i) (some tq) te c ρ l s = .ok ((l.filter p).map f) s
  | [], _, _ => rfl
  | d :: r, h, h' => by
    have h1 := h d List.mem_cons_self
    have h2 := compL_filter hg r (fun z hz => h z (List.mem_cons_of_mem _ hz)) fun z hz => h' z (List.mem_cons_of_mem _ hz)
    cases hp : p d with
    | true =>
      have h3 := h' d List.mem_cons_self hp
      rw [hp] at h1
      simp only [compL, tName, compE, h1, h3, Res.tstA, tru, Res.bndA, finA_same, hg, if_true, h2, Rss.bndA, List.filter_cons, hp]
      rfl
    | false =>
      rw [hp] at h1
      simp only [compL, tName, compE, h1, Res.tstA, tru, Res.bndA, finA_same, hg, if_true, h2, Rss.bndA, List.filter_cons, hp, Bool.false_eq_true, if_false]
      rfl
theorem comp_ok {it : IS} {own : List Nat} {t : TS} {ts : Option ES} {te : ES} {c : C} {ρ : Env} {s : S} {ds L : List D} {g : Option (Nat × List D)} (hi : it { c with B := s.length :: c.B } ρ s = .ok ds g s) (hl : ds.length ≤ lim) (hc : compL g t ts te { c with B := s.length :: c.B } (wipeD ρ own) ds s = .ok L s) (hy : D.ygs s.length L = false) :
    eComp it own t ts te c ρ s = .ok (.ref s.length) (s ++ [.lst L]) := by
  unfold eComp
  rw [hi]
  simp only [Itm.bnd, if_pos hl, hc, Rss.bnd, al]
  have e1 : ¬ (s ++ [O.lst L]).length = s.length := by simp
  show (if (s ++ [O.lst L]).length = s.length then _ else if s.length < s.length then _ else _) = _
  rw [if_neg e1, if_neg (Nat.lt_irrefl _), top_get]
  show (if D.ygs s.length L = true then _ else _) = _
  rw [hy, if_neg Bool.false_ne_true, List.take_left']
  rfl
/-- a built-in that reads a new list and lets it go -/
theorem blt_top {f : List D → S → Res} {e : ES} {c : C} {ρ : Env} {s t : S} {x d : D} (he : e { c with B := s.length :: c.B } ρ s = .ok x (s ++ t)) (hf : f [x] (s ++ t) = .ok d (s ++ t)) (hy : d.yg s.length = false) (hr : ∀ n, d ≠ .ref n) : eBlt f (aCons e aNil) c ρ s = .ok d s := by
  unfold eBlt gcF aCons aNil
  simp only [he, Res.bndA, Rss.bndA, Rss.bnd, hf]
  exact finF_pln hy hr
theorem mapM_ints : ∀ l : List Int, (l.map D.int).mapM D.toI = some l
  | [] => rfl
  | i :: r => by
    rw [List.map_cons, List.mapM_cons, mapM_ints r]
    rfl
theorem mapM_bls : ∀ l : List Bool, (l.map D.bl).mapM D.toB = some l
  | [] => rfl
  | i :: r => by
    rw [List.map_cons, List.mapM_cons, mapM_bls r]
    rfl
theorem seqOf_top {s : S} {ds : List D} : seqOf (s ++ [.lst ds]) (.ref s.length) = some ds := top_lst
theorem allD_bls {s : S} {x : D} {l : List Bool} (h : seqOf s x = some (l.map D.bl)) : allD [x] s = .ok (.bl (l.all id)) s := by simp only [allD, h, mapM_bls]
theorem sumD_ints {s : S} {x : D} {l : List Int} (h : seqOf s x = some (l.map D.int)) : sumD [x] s = .ok (.int l.sum) s := by simp only [sumD, h, mapM_ints]
theorem ygs_map_bl {b : Nat} : ∀ {l : List Bool}, D.ygs b (l.map D.bl) = false
  | [] => rfl
  | _ :: r => by rw [List.map_cons, D.ygs, ygs_map_bl (l := r)]; rfl
end Ev

set_option maxRecDepth 100000
set_option maxHeartbeats 4000000
namespace KL
open PySem L2 Ev PyProof.Rows
def top (i : Nat) : Stmt := PySem.Challenge.pw_machinehall_k29_whole_points_that_move_e.main.body.getD i (.Pass ⟨0, 0, 0, 0⟩)
abbrev s_check_form : Stmt := top 4
def n_check_form : List Str := ["form", "exponent", "places"]
abbrev s_power_of : Stmt := top 5
def n_power_of : List Str := ["number", "found", "_"]
abbrev s_bias : Stmt := top 6
def n_bias : List Str := ["form"]
abbrev s_least_power : Stmt := top 7
def n_least_power : List Str := ["form"]
abbrev s_size : Stmt := top 8
def n_size : List Str := ["form"]
abbrev s_check_code : Stmt := top 9
def n_check_code : List Str := ["form", "code"]
abbrev s_parts : Stmt := top 10
def n_parts : List Str := ["form", "code"]
abbrev s_kind : Stmt := top 11
def n_kind : List Str := ["form", "code", "_", "exponent", "places"]
abbrev s_reduced : Stmt := top 12
def n_reduced : List Str := ["top", "bottom", "one", "other"]
abbrev s_value : Stmt := top 13
def n_value : List Str := ["form", "code", "whole", "power", "sign", "exponent", "places"]
abbrev s_greatest : Stmt := top 14
def n_greatest : List Str := ["form"]
abbrev s_endless : Stmt := top 15
def n_endless : List Str := ["form", "sign"]
abbrev s_nothing : Stmt := top 16
def n_nothing : List Str := ["form"]
abbrev s_floor_code : Stmt := top 17
def n_floor_code : List Str := ["form", "top", "bottom", "told", "low", "high", "middle"]
abbrev s_rounded : Stmt := top 18
def n_rounded : List Str := ["form", "fraction", "way", "sign", "top", "head", "goes_up", "bottom", "low", "is_just"]
abbrev s_is_nearer_above : Stmt := top 19
def n_is_nearer_above : List Str := ["form", "low", "top", "bottom", "below", "step", "double", "whole"]
abbrev s_below_step : Stmt := top 20
def n_below_step : List Str := ["form", "low", "power", "_", "exponent"]
abbrev s_signed_nought : Stmt := top 21
def n_signed_nought : List Str := ["form", "sign"]
abbrev s_add : Stmt := top 22
def n_add : List Str := ["form", "one", "other", "way", "top", "left", "right", "signs", "sign"]
abbrev s_turned : Stmt := top 23
def n_turned : List Str := ["form", "one", "half"]
abbrev s_multiply : Stmt := top 24
def n_multiply : List Str := ["form", "one", "other", "way", "kinds", "sign", "left", "right"]
abbrev s_divide : Stmt := top 25
def n_divide : List Str := ["form", "one", "other", "way", "kinds", "sign", "left", "right", "top", "bottom"]
abbrev s_less : Stmt := top 26
def n_less : List Str := ["form", "one", "other"]
abbrev s_place_of : Stmt := top 27
def n_place_of : List Str := ["form", "code", "half"]
abbrev s_next_up : Stmt := top 28
def n_next_up : List Str := ["form", "code", "half"]
abbrev s_pair_sum : Stmt := top 29
def n_pair_sum : List Str := ["form", "one", "other", "whole", "top", "gap", "left", "right", "told"]
abbrev s_law_begin : Stmt := top 31
def n_law_begin : List Str := ["script", "seed", "cell"]
abbrev s_law_take : Stmt := top 32
def n_law_take : List Str := ["d", "many", "digit", "small"]
abbrev s_law_less : Stmt := top 33
def n_law_less : List Str := ["one", "other"]
abbrev s_law_part1 : Stmt := top 34
def n_law_part1 : List Str := ["form", "half", "one", "other", "third", "a", "b", "c", "rows", "k", "low", "high", "way"]
abbrev s_law : Stmt := top 35
def n_law : List Str := ["script", "d", "form", "half", "one", "other", "third", "a", "b", "c", "near", "gap", "told", "rows", "way", "back"]
def c_check_form : SS :=
  (sSeq (sAsg (eVar 0) (tTup 2 (tsCons (tName 1) (tsCons (tName 2) tsNil)))) (sSeq (sIf (eOr (eNot (eChain cLe cLe (eC (.int 2)) (eVar 1) (eC (.int 5)))) (eNot (eChain cLe cLe (eC (.int 1)) (eVar 2) (eC (.int 8))))) (sSeq (sRaise (eC (.str "form"))) sNil) sNil) sNil))
def c_power_of : SS :=
  (sSeq (sSet 1 (eC (.int 1))) (sSeq (sFor true (iR1 (aCons (eVar 0) aNil)) (tName 2) (sSeq (sAug 1 iMul (eC (.int 2))) sNil)) (sSeq (sRet (eVar 1)) sNil)))
def c_bias : SS :=
  (sSeq (sRet (eOp bSub (eCall 1 (aCons (eOp bSub (eOp bIx (eVar 0) (eC (.int 0))) (eC (.int 1))) aNil)) (eC (.int 1)))) sNil)
def c_least_power : SS :=
  (sSeq (sRet (eOp bSub (eOp bSub (eC (.int 1)) (eCall 2 (aCons (eVar 0) aNil))) (eOp bIx (eVar 0) (eC (.int 1))))) sNil)
def c_size : SS :=
  (sSeq (sExpr (eCall 0 (aCons (eVar 0) aNil))) (sSeq (sRet (eCall 1 (aCons (eOp bAdd (eOp bAdd (eC (.int 1)) (eOp bIx (eVar 0) (eC (.int 0)))) (eOp bIx (eVar 0) (eC (.int 1)))) aNil))) sNil))
def c_check_code : SS :=
  (sSeq (sExpr (eCall 0 (aCons (eVar 0) aNil))) (sSeq (sIf (eNot (eChain cLe cLt (eC (.int 0)) (eVar 1) (eCall 4 (aCons (eVar 0) aNil)))) (sSeq (sRaise (eC (.str "code"))) sNil) sNil) sNil))
def c_parts : SS :=
  (sSeq (sExpr (eCall 5 (aCons (eVar 0) (aCons (eVar 1) aNil)))) (sSeq (sRet (eTup (aCons (eOp bDiv (eVar 1) (eCall 1 (aCons (eOp bAdd (eOp bIx (eVar 0) (eC (.int 0))) (eOp bIx (eVar 0) (eC (.int 1)))) aNil))) (aCons (eOp bMod (eOp bDiv (eVar 1) (eCall 1 (aCons (eOp bIx (eVar 0) (eC (.int 1))) aNil))) (eCall 1 (aCons (eOp bIx (eVar 0) (eC (.int 0))) aNil))) (aCons (eOp bMod (eVar 1) (eCall 1 (aCons (eOp bIx (eVar 0) (eC (.int 1))) aNil))) aNil))))) sNil))
def c_kind : SS :=
  (sSeq (sAsg (eCall 6 (aCons (eVar 0) (aCons (eVar 1) aNil))) (tTup 3 (tsCons (tName 2) (tsCons (tName 3) (tsCons (tName 4) tsNil))))) (sSeq (sIf (eOp cEq (eVar 3) (eOp bSub (eCall 1 (aCons (eOp bIx (eVar 0) (eC (.int 0))) aNil)) (eC (.int 1)))) (sSeq (sRet (eIf (eOp cEq (eVar 4) (eC (.int 0))) (eC (.str "endless")) (eC (.str "none")))) sNil) sNil) (sSeq (sIf (eOp cEq (eVar 3) (eC (.int 0))) (sSeq (sRet (eIf (eOp cEq (eVar 4) (eC (.int 0))) (eC (.str "nought")) (eC (.str "small")))) sNil) sNil) (sSeq (sRet (eC (.str "full"))) sNil))))
def c_reduced : SS :=
  (sSeq (sPar2 2 3 (aCons (eBlt absD (aCons (eVar 0) aNil)) (aCons (eBlt absD (aCons (eVar 1) aNil)) aNil))) (sSeq (sWhile true (eVar 3) (sSeq (sPar2 2 3 (aCons (eVar 3) (aCons (eOp bMod (eVar 2) (eVar 3)) aNil))) sNil)) (sSeq (sRet (eIf (eOp cGt (eVar 2) (eC (.int 0))) (eTup (aCons (eOp bDiv (eVar 0) (eVar 2)) (aCons (eOp bDiv (eVar 1) (eVar 2)) aNil))) (eTup (aCons (eC (.int 0)) (aCons (eC (.int 1)) aNil))))) sNil)))
def c_value : SS :=
  (sSeq (sIf (eOp cIn (eCall 7 (aCons (eVar 0) (aCons (eVar 1) aNil))) (eTup (aCons (eC (.str "none")) (aCons (eC (.str "endless")) aNil)))) (sSeq (sRet (eC .non)) sNil) sNil) (sSeq (sAsg (eCall 6 (aCons (eVar 0) (aCons (eVar 1) aNil))) (tTup 3 (tsCons (tName 4) (tsCons (tName 5) (tsCons (tName 6) tsNil))))) (sSeq (sSet 2 (eIf (eOp cEq (eVar 5) (eC (.int 0))) (eVar 6) (eOp bAdd (eVar 6) (eCall 1 (aCons (eOp bIx (eVar 0) (eC (.int 1))) aNil))))) (sSeq (sSet 3 (eOp bAdd (eCall 3 (aCons (eVar 0) aNil)) (eBlt maxD (aCons (eOp bSub (eVar 5) (eC (.int 1))) (aCons (eC (.int 0)) aNil))))) (sSeq (sSet 2 (eIf (eOp cEq (eVar 4) (eC (.int 1))) (eOp bSub (eC (.int 0)) (eVar 2)) (eVar 2))) (sSeq (sIf (eOp cGe (eVar 3) (eC (.int 0))) (sSeq (sRet (eTup (aCons (eOp bMul (eVar 2) (eCall 1 (aCons (eVar 3) aNil))) (aCons (eC (.int 1)) aNil)))) sNil) sNil) (sSeq (sRet (eCall 8 (aCons (eVar 2) (aCons (eCall 1 (aCons (eOp bSub (eC (.int 0)) (eVar 3)) aNil)) aNil)))) sNil)))))))
def c_greatest : SS :=
  (sSeq (sExpr (eCall 0 (aCons (eVar 0) aNil))) (sSeq (sRet (eOp bSub (eOp bSub (eCall 1 (aCons (eOp bAdd (eOp bIx (eVar 0) (eC (.int 0))) (eOp bIx (eVar 0) (eC (.int 1)))) aNil)) (eCall 1 (aCons (eOp bIx (eVar 0) (eC (.int 1))) aNil))) (eC (.int 1)))) sNil))
def c_endless : SS :=
  (sSeq (sRet (eOp bSub (eOp bAdd (eOp bMul (eVar 1) (eCall 1 (aCons (eOp bAdd (eOp bIx (eVar 0) (eC (.int 0))) (eOp bIx (eVar 0) (eC (.int 1)))) aNil))) (eCall 1 (aCons (eOp bAdd (eOp bIx (eVar 0) (eC (.int 0))) (eOp bIx (eVar 0) (eC (.int 1)))) aNil))) (eCall 1 (aCons (eOp bIx (eVar 0) (eC (.int 1))) aNil)))) sNil)
def c_nothing : SS :=
  (sSeq (sRet (eOp bAdd (eOp bSub (eCall 1 (aCons (eOp bAdd (eOp bIx (eVar 0) (eC (.int 0))) (eOp bIx (eVar 0) (eC (.int 1)))) aNil)) (eCall 1 (aCons (eOp bIx (eVar 0) (eC (.int 1))) aNil))) (eCall 1 (aCons (eOp bSub (eOp bIx (eVar 0) (eC (.int 1))) (eC (.int 1))) aNil)))) sNil)
def c_floor_code : SS :=
  (sSeq (sPar2 4 5 (aCons (eC (.int 0)) (aCons (eOp bAdd (eCall 10 (aCons (eVar 0) aNil)) (eC (.int 1))) aNil))) (sSeq (sWhile true (eOp cGt (eOp bSub (eVar 5) (eVar 4)) (eC (.int 1))) (sSeq (sSet 6 (eOp bDiv (eOp bAdd (eVar 4) (eVar 5)) (eC (.int 2)))) (sSeq (sSet 3 (eCall 9 (aCons (eVar 0) (aCons (eVar 6) aNil)))) (sSeq (sIf (eOp cLe (eOp bMul (eOp bIx (eVar 3) (eC (.int 0))) (eVar 2)) (eOp bMul (eVar 1) (eOp bIx (eVar 3) (eC (.int 1))))) (sSeq (sSet 4 (eVar 6)) sNil) (sSeq (sSet 5 (eVar 6)) sNil)) sNil)))) (sSeq (sSet 3 (eCall 9 (aCons (eVar 0) (aCons (eVar 4) aNil)))) (sSeq (sRet (eTup (aCons (eVar 4) (aCons (eOp cEq (eOp bMul (eOp bIx (eVar 3) (eC (.int 0))) (eVar 2)) (eOp bMul (eVar 1) (eOp bIx (eVar 3) (eC (.int 1))))) aNil)))) sNil))))
def c_rounded : SS :=
  (sSeq (sExpr (eCall 0 (aCons (eVar 0) aNil))) (sSeq (sIf (eOp cNotIn (eVar 2) (eC (.tup [(.str "even"), (.str "zero"), (.str "up"), (.str "down")]))) (sSeq (sRaise (eC (.str "way"))) sNil) sNil) (sSeq (sAsg (eVar 1) (tTup 2 (tsCons (tName 4) (tsCons (tName 7) tsNil)))) (sSeq (sSet 3 (eBlt intD (aCons (eOp cLt (eVar 4) (eC (.int 0))) aNil))) (sSeq (sSet 4 (eBlt absD (aCons (eVar 4) aNil))) (sSeq (sAsg (eCall 13 (aCons (eVar 0) (aCons (eVar 4) (aCons (eVar 7) aNil)))) (tTup 2 (tsCons (tName 8) (tsCons (tName 9) tsNil)))) (sSeq (sSet 5 (eOp bMul (eVar 3) (eCall 1 (aCons (eOp bAdd (eOp bIx (eVar 0) (eC (.int 0))) (eOp bIx (eVar 0) (eC (.int 1)))) aNil)))) (sSeq (sIf (eVar 9) (sSeq (sRet (eOp bAdd (eVar 5) (eVar 8))) sNil) sNil) (sSeq (sSet 6 (eOr (eAnd (eOp cEq (eVar 2) (eC (.str "up"))) (eOp cEq (eVar 3) (eC (.int 0)))) (eAnd (eOp cEq (eVar 2) (eC (.str "down"))) (eOp cEq (eVar 3) (eC (.int 1)))))) (sSeq (sIf (eOp cEq (eVar 2) (eC (.str "even"))) (sSeq (sSet 6 (eCall 15 (aCons (eVar 0) (aCons (eVar 8) (aCons (eVar 4) (aCons (eVar 7) aNil)))))) sNil) sNil) (sSeq (sIf (eNot (eVar 6)) (sSeq (sRet (eOp bAdd (eVar 5) (eVar 8))) sNil) sNil) (sSeq (sRet (eIf (eOp cEq (eVar 8) (eCall 10 (aCons (eVar 0) aNil))) (eCall 11 (aCons (eVar 0) (aCons (eVar 3) aNil))) (eOp bAdd (eOp bAdd (eVar 5) (eVar 8)) (eC (.int 1))))) sNil))))))))))))
def c_is_nearer_above : SS :=
  (sSeq (sSet 4 (eCall 9 (aCons (eVar 0) (aCons (eVar 1) aNil)))) (sSeq (sSet 5 (eCall 16 (aCons (eVar 0) (aCons (eVar 1) aNil)))) (sSeq (sSet 6 (eOp bMul (eOp bMul (eC (.int 2)) (eOp bSub (eOp bMul (eVar 2) (eOp bIx (eVar 4) (eC (.int 1)))) (eOp bMul (eOp bIx (eVar 4) (eC (.int 0))) (eVar 3)))) (eOp bIx (eVar 5) (eC (.int 1))))) (sSeq (sSet 7 (eOp bMul (eOp bMul (eOp bIx (eVar 5) (eC (.int 0))) (eVar 3)) (eOp bIx (eVar 4) (eC (.int 1))))) (sSeq (sRet (eOr (eOp cGt (eVar 6) (eVar 7)) (eAnd (eOp cEq (eVar 6) (eVar 7)) (eOp cEq (eOp bMod (eVar 1) (eC (.int 2))) (eC (.int 1)))))) sNil)))))
def c_below_step : SS :=
  (sSeq (sAsg (eCall 6 (aCons (eVar 0) (aCons (eVar 1) aNil))) (tTup 3 (tsCons (tName 3) (tsCons (tName 4) (tsCons (tName 3) tsNil))))) (sSeq (sSet 2 (eOp bAdd (eCall 3 (aCons (eVar 0) aNil)) (eBlt maxD (aCons (eOp bSub (eVar 4) (eC (.int 1))) (aCons (eC (.int 0)) aNil))))) (sSeq (sRet (eIf (eOp cGe (eVar 2) (eC (.int 0))) (eTup (aCons (eCall 1 (aCons (eVar 2) aNil)) (aCons (eC (.int 1)) aNil))) (eTup (aCons (eC (.int 1)) (aCons (eCall 1 (aCons (eOp bSub (eC (.int 0)) (eVar 2)) aNil)) aNil))))) sNil)))
def c_signed_nought : SS :=
  (sSeq (sRet (eOp bMul (eVar 1) (eCall 1 (aCons (eOp bAdd (eOp bIx (eVar 0) (eC (.int 0))) (eOp bIx (eVar 0) (eC (.int 1)))) aNil)))) sNil)
def c_add : SS :=
  (sSeq (sExpr (eCall 5 (aCons (eVar 0) (aCons (eVar 1) aNil)))) (sSeq (sExpr (eCall 5 (aCons (eVar 0) (aCons (eVar 2) aNil)))) (sSeq (sIf (eOp cNotIn (eVar 3) (eC (.tup [(.str "even"), (.str "zero"), (.str "up"), (.str "down")]))) (sSeq (sRaise (eC (.str "way"))) sNil) sNil) (sSeq (sIf (eOp cIn (eC (.str "none")) (eTup (aCons (eCall 7 (aCons (eVar 0) (aCons (eVar 1) aNil))) (aCons (eCall 7 (aCons (eVar 0) (aCons (eVar 2) aNil))) aNil)))) (sSeq (sRet (eCall 12 (aCons (eVar 0) aNil))) sNil) sNil) (sSeq (sIf (eOr (eOp cEq (eCall 7 (aCons (eVar 0) (aCons (eVar 1) aNil))) (eC (.str "endless"))) (eOp cEq (eCall 7 (aCons (eVar 0) (aCons (eVar 2) aNil))) (eC (.str "endless")))) (sSeq (sIf (eAnd (eOp cEq (eCall 7 (aCons (eVar 0) (aCons (eVar 1) aNil))) (eCall 7 (aCons (eVar 0) (aCons (eVar 2) aNil)))) (eOp cNe (eVar 1) (eVar 2))) (sSeq (sRet (eCall 12 (aCons (eVar 0) aNil))) sNil) sNil) (sSeq (sRet (eIf (eOp cEq (eCall 7 (aCons (eVar 0) (aCons (eVar 1) aNil))) (eC (.str "endless"))) (eVar 1) (eVar 2))) sNil)) sNil) (sSeq (sPar2 5 6 (aCons (eCall 9 (aCons (eVar 0) (aCons (eVar 1) aNil))) (aCons (eCall 9 (aCons (eVar 0) (aCons (eVar 2) aNil))) aNil))) (sSeq (sSet 4 (eOp bAdd (eOp bMul (eOp bIx (eVar 5) (eC (.int 0))) (eOp bIx (eVar 6) (eC (.int 1)))) (eOp bMul (eOp bIx (eVar 6) (eC (.int 0))) (eOp bIx (eVar 5) (eC (.int 1)))))) (sSeq (sIf (eOp cEq (eVar 4) (eC (.int 0))) (sSeq (sSet 7 (eTup (aCons (eOp bIx (eCall 6 (aCons (eVar 0) (aCons (eVar 1) aNil))) (eC (.int 0))) (aCons (eOp bIx (eCall 6 (aCons (eVar 0) (aCons (eVar 2) aNil))) (eC (.int 0))) aNil)))) (sSeq (sSet 8 (eIf (eOp cEq (eOp bIx (eVar 7) (eC (.int 0))) (eOp bIx (eVar 7) (eC (.int 1)))) (eOp bIx (eVar 7) (eC (.int 0))) (eBlt intD (aCons (eOp cEq (eVar 3) (eC (.str "down"))) aNil)))) (sSeq (sRet (eCall 17 (aCons (eVar 0) (aCons (eVar 8) aNil)))) sNil))) sNil) (sSeq (sRet (eCall 14 (aCons (eVar 0) (aCons (eCall 8 (aCons (eVar 4) (aCons (eOp bMul (eOp bIx (eVar 5) (eC (.int 1))) (eOp bIx (eVar 6) (eC (.int 1)))) aNil))) (aCons (eVar 3) aNil))))) sNil)))))))))
def c_turned : SS :=
  (sSeq (sExpr (eCall 5 (aCons (eVar 0) (aCons (eVar 1) aNil)))) (sSeq (sSet 2 (eCall 1 (aCons (eOp bAdd (eOp bIx (eVar 0) (eC (.int 0))) (eOp bIx (eVar 0) (eC (.int 1)))) aNil))) (sSeq (sRet (eIf (eOp cGe (eVar 1) (eVar 2)) (eOp bSub (eVar 1) (eVar 2)) (eOp bAdd (eVar 1) (eVar 2)))) sNil)))
def c_multiply : SS :=
  (sSeq (sExpr (eCall 5 (aCons (eVar 0) (aCons (eVar 1) aNil)))) (sSeq (sExpr (eCall 5 (aCons (eVar 0) (aCons (eVar 2) aNil)))) (sSeq (sIf (eOp cNotIn (eVar 3) (eC (.tup [(.str "even"), (.str "zero"), (.str "up"), (.str "down")]))) (sSeq (sRaise (eC (.str "way"))) sNil) sNil) (sSeq (sSet 4 (eTup (aCons (eCall 7 (aCons (eVar 0) (aCons (eVar 1) aNil))) (aCons (eCall 7 (aCons (eVar 0) (aCons (eVar 2) aNil))) aNil)))) (sSeq (sSet 5 (eOp bXor (eOp bIx (eCall 6 (aCons (eVar 0) (aCons (eVar 1) aNil))) (eC (.int 0))) (eOp bIx (eCall 6 (aCons (eVar 0) (aCons (eVar 2) aNil))) (eC (.int 0))))) (sSeq (sIf (eOr (eOp cIn (eC (.str "none")) (eVar 4)) (eAnd (eOp cIn (eC (.str "endless")) (eVar 4)) (eOp cIn (eC (.str "nought")) (eVar 4)))) (sSeq (sRet (eCall 12 (aCons (eVar 0) aNil))) sNil) sNil) (sSeq (sIf (eOp cIn (eC (.str "endless")) (eVar 4)) (sSeq (sRet (eCall 11 (aCons (eVar 0) (aCons (eVar 5) aNil)))) sNil) sNil) (sSeq (sIf (eOp cIn (eC (.str "nought")) (eVar 4)) (sSeq (sRet (eCall 17 (aCons (eVar 0) (aCons (eVar 5) aNil)))) sNil) sNil) (sSeq (sPar2 6 7 (aCons (eCall 9 (aCons (eVar 0) (aCons (eVar 1) aNil))) (aCons (eCall 9 (aCons (eVar 0) (aCons (eVar 2) aNil))) aNil))) (sSeq (sRet (eCall 14 (aCons (eVar 0) (aCons (eCall 8 (aCons (eOp bMul (eOp bIx (eVar 6) (eC (.int 0))) (eOp bIx (eVar 7) (eC (.int 0)))) (aCons (eOp bMul (eOp bIx (eVar 6) (eC (.int 1))) (eOp bIx (eVar 7) (eC (.int 1)))) aNil))) (aCons (eVar 3) aNil))))) sNil))))))))))
def c_divide : SS :=
  (sSeq (sExpr (eCall 5 (aCons (eVar 0) (aCons (eVar 1) aNil)))) (sSeq (sExpr (eCall 5 (aCons (eVar 0) (aCons (eVar 2) aNil)))) (sSeq (sIf (eOp cNotIn (eVar 3) (eC (.tup [(.str "even"), (.str "zero"), (.str "up"), (.str "down")]))) (sSeq (sRaise (eC (.str "way"))) sNil) sNil) (sSeq (sSet 4 (eTup (aCons (eCall 7 (aCons (eVar 0) (aCons (eVar 1) aNil))) (aCons (eCall 7 (aCons (eVar 0) (aCons (eVar 2) aNil))) aNil)))) (sSeq (sSet 5 (eOp bXor (eOp bIx (eCall 6 (aCons (eVar 0) (aCons (eVar 1) aNil))) (eC (.int 0))) (eOp bIx (eCall 6 (aCons (eVar 0) (aCons (eVar 2) aNil))) (eC (.int 0))))) (sSeq (sIf (eOr (eOp cIn (eC (.str "none")) (eVar 4)) (eOp cIn (eVar 4) (eTup (aCons (eTup (aCons (eC (.str "endless")) (aCons (eC (.str "endless")) aNil))) (aCons (eTup (aCons (eC (.str "nought")) (aCons (eC (.str "nought")) aNil))) aNil))))) (sSeq (sRet (eCall 12 (aCons (eVar 0) aNil))) sNil) sNil) (sSeq (sIf (eOr (eOp cEq (eOp bIx (eVar 4) (eC (.int 0))) (eC (.str "endless"))) (eOp cEq (eOp bIx (eVar 4) (eC (.int 1))) (eC (.str "nought")))) (sSeq (sRet (eCall 11 (aCons (eVar 0) (aCons (eVar 5) aNil)))) sNil) sNil) (sSeq (sIf (eOr (eOp cEq (eOp bIx (eVar 4) (eC (.int 1))) (eC (.str "endless"))) (eOp cEq (eOp bIx (eVar 4) (eC (.int 0))) (eC (.str "nought")))) (sSeq (sRet (eCall 17 (aCons (eVar 0) (aCons (eVar 5) aNil)))) sNil) sNil) (sSeq (sPar2 6 7 (aCons (eCall 9 (aCons (eVar 0) (aCons (eVar 1) aNil))) (aCons (eCall 9 (aCons (eVar 0) (aCons (eVar 2) aNil))) aNil))) (sSeq (sPar2 8 9 (aCons (eOp bMul (eOp bIx (eVar 6) (eC (.int 0))) (eOp bIx (eVar 7) (eC (.int 1)))) (aCons (eOp bMul (eOp bIx (eVar 6) (eC (.int 1))) (eOp bIx (eVar 7) (eC (.int 0)))) aNil))) (sSeq (sRet (eCall 14 (aCons (eVar 0) (aCons (eIf (eOp cLt (eVar 9) (eC (.int 0))) (eCall 8 (aCons (eOp bSub (eC (.int 0)) (eVar 8)) (aCons (eOp bSub (eC (.int 0)) (eVar 9)) aNil))) (eCall 8 (aCons (eVar 8) (aCons (eVar 9) aNil)))) (aCons (eVar 3) aNil))))) sNil)))))))))))
def c_less : SS :=
  (sSeq (sExpr (eCall 5 (aCons (eVar 0) (aCons (eVar 1) aNil)))) (sSeq (sExpr (eCall 5 (aCons (eVar 0) (aCons (eVar 2) aNil)))) (sSeq (sIf (eOp cIn (eC (.str "none")) (eTup (aCons (eCall 7 (aCons (eVar 0) (aCons (eVar 1) aNil))) (aCons (eCall 7 (aCons (eVar 0) (aCons (eVar 2) aNil))) aNil)))) (sSeq (sRet (eC (.bl false))) sNil) sNil) (sSeq (sRet (eOp cLt (eCall 23 (aCons (eVar 0) (aCons (eVar 1) aNil))) (eCall 23 (aCons (eVar 0) (aCons (eVar 2) aNil))))) sNil))))
def c_place_of : SS :=
  (sSeq (sSet 2 (eCall 1 (aCons (eOp bAdd (eOp bIx (eVar 0) (eC (.int 0))) (eOp bIx (eVar 0) (eC (.int 1)))) aNil))) (sSeq (sRet (eIf (eOp cGe (eVar 1) (eVar 2)) (eOp bSub (eVar 2) (eVar 1)) (eVar 1))) sNil))
def c_next_up : SS :=
  (sSeq (sIf (eOr (eOp cEq (eCall 7 (aCons (eVar 0) (aCons (eVar 1) aNil))) (eC (.str "none"))) (eOp cEq (eVar 1) (eCall 11 (aCons (eVar 0) (aCons (eC (.int 0)) aNil))))) (sSeq (sRet (eC .non)) sNil) sNil) (sSeq (sSet 2 (eCall 1 (aCons (eOp bAdd (eOp bIx (eVar 0) (eC (.int 0))) (eOp bIx (eVar 0) (eC (.int 1)))) aNil))) (sSeq (sIf (eOp cIn (eVar 1) (eTup (aCons (eC (.int 0)) (aCons (eVar 2) aNil)))) (sSeq (sRet (eC (.int 1))) sNil) sNil) (sSeq (sRet (eIf (eOp cGt (eVar 1) (eVar 2)) (eOp bSub (eVar 1) (eC (.int 1))) (eOp bAdd (eVar 1) (eC (.int 1))))) sNil))))
def c_pair_sum : SS :=
  (sSeq (sSet 3 (eCall 18 (aCons (eVar 0) (aCons (eVar 1) (aCons (eVar 2) (aCons (eC (.str "even")) aNil)))))) (sSeq (sIf (eOp cIs (eCall 9 (aCons (eVar 0) (aCons (eVar 3) aNil))) (eC .non)) (sSeq (sRet (eC .non)) sNil) sNil) (sSeq (sPar3 6 7 8 (aCons (eCall 9 (aCons (eVar 0) (aCons (eVar 1) aNil))) (aCons (eCall 9 (aCons (eVar 0) (aCons (eVar 2) aNil))) (aCons (eCall 9 (aCons (eVar 0) (aCons (eVar 3) aNil))) aNil)))) (sSeq (sSet 4 (eOp bAdd (eOp bMul (eOp bIx (eVar 6) (eC (.int 0))) (eOp bIx (eVar 7) (eC (.int 1)))) (eOp bMul (eOp bIx (eVar 7) (eC (.int 0))) (eOp bIx (eVar 6) (eC (.int 1)))))) (sSeq (sSet 5 (eCall 8 (aCons (eOp bSub (eOp bMul (eVar 4) (eOp bIx (eVar 8) (eC (.int 1)))) (eOp bMul (eOp bMul (eOp bIx (eVar 8) (eC (.int 0))) (eOp bIx (eVar 6) (eC (.int 1)))) (eOp bIx (eVar 7) (eC (.int 1))))) (aCons (eOp bMul (eOp bMul (eOp bIx (eVar 6) (eC (.int 1))) (eOp bIx (eVar 7) (eC (.int 1)))) (eOp bIx (eVar 8) (eC (.int 1)))) aNil)))) (sSeq (sRet (eTup (aCons (eVar 3) (aCons (eVar 5) aNil)))) sNil))))))
def c_law_begin : SS :=
  (sSeq (sSet 1 (eC (.int 1))) (sSeq (sFor true (iSeq (eVar 0)) (tName 2) (sSeq (sSet 1 (eOp bMod (eOp bAdd (eOp bAdd (eOp bMul (eVar 1) (eC (.int 69621))) (eOp bMod (eBlt intD (aCons (eVar 2) aNil)) (eC (.int 2147483629)))) (eC (.int 7))) (eC (.int 2147483647)))) sNil)) (sSeq (sRet (eLst (aCons (eBlt listD (aCons (eVar 0) aNil)) (aCons (eC (.int 0)) (aCons (eC (.int 0)) (aCons (eVar 1) aNil)))))) sNil)))
def c_law_take : SS :=
  (sSeq (sIf (eAnd (eOp cEq (eOp bIx (eVar 0) (eC (.int 2))) (eC (.int 0))) (eOp cLt (eOp bIx (eVar 0) (eC (.int 1))) (eBlt lenD (aCons (eOp bIx (eVar 0) (eC (.int 0))) aNil)))) (sSeq (sAsg (eBlt absD (aCons (eBlt intD (aCons (eOp bIx (eOp bIx (eVar 0) (eC (.int 0))) (eOp bIx (eVar 0) (eC (.int 1)))) aNil)) aNil)) (tSub (eVar 0) (eC (.int 2)))) (sSeq (sAsg (eOp bAdd (eOp bIx (eVar 0) (eC (.int 1))) (eC (.int 1))) (tSub (eVar 0) (eC (.int 1)))) (sSeq (sIf (eOp cLt (eOp bIx (eVar 0) (eC (.int 2))) (eOp bPow (eC (.int 10)) (eC (.int 18)))) (sSeq (sSet 3 (eBlt intD (aCons (eOp bIx (eVar 0) (eC (.int 2))) aNil))) (sSeq (sAsg (eC (.int 0)) (tSub (eVar 0) (eC (.int 2)))) (sSeq (sRet (eOp bMod (eVar 3) (eVar 1))) sNil))) sNil) sNil))) sNil) (sSeq (sIf (eOp cGt (eOp bIx (eVar 0) (eC (.int 2))) (eC (.int 0))) (sSeq (sSet 2 (eOp bMod (eBlt intD (aCons (eOp bIx (eVar 0) (eC (.int 2))) aNil)) (eVar 1))) (sSeq (sAsg (eOp bDiv (eBlt intD (aCons (eOp bIx (eVar 0) (eC (.int 2))) aNil)) (eVar 1)) (tSub (eVar 0) (eC (.int 2)))) (sSeq (sRet (eVar 2)) sNil))) sNil) (sSeq (sAsg (eOp bMod (eBlt intD (aCons (eOp bAdd (eOp bMul (eOp bIx (eVar 0) (eC (.int 3))) (eC (.int 48271))) (eC (.int 11))) aNil)) (eC (.int 2147483647))) (tSub (eVar 0) (eC (.int 3)))) (sSeq (sRet (eOp bMod (eBlt intD (aCons (eOp bDiv (eOp bIx (eVar 0) (eC (.int 3))) (eC (.int 3))) aNil)) (eVar 1))) sNil))))
def c_law_less : SS :=
  (sSeq (sRet (eOp cLt (eOp bMul (eOp bIx (eVar 0) (eC (.int 0))) (eOp bIx (eVar 1) (eC (.int 1)))) (eOp bMul (eOp bIx (eVar 1) (eC (.int 0))) (eOp bIx (eVar 0) (eC (.int 1)))))) sNil)
def c_law_part1 : SS :=
  (sSeq (sFor true (iR1 (aCons (eC (.int 3)) aNil)) (tName 9) (sSeq (sSet 10 (eOp bIx (eOp bIx (eVar 8) (eC (.str "down"))) (eVar 9))) (sSeq (sSet 11 (eOp bIx (eOp bIx (eVar 8) (eC (.str "up"))) (eVar 9))) (sSeq (sIf (eOp cEq (eCall 7 (aCons (eVar 0) (aCons (eVar 10) aNil))) (eC (.str "none"))) (sSeq (sIf (eOp cNe (eCall 7 (aCons (eVar 0) (aCons (eVar 11) aNil))) (eC (.str "none"))) (sSeq (sRet (eC (.bl false))) sNil) sNil) (sSeq sCnt sNil)) sNil) (sSeq (sIf (eOr (eCall 22 (aCons (eVar 0) (aCons (eVar 11) (aCons (eVar 10) aNil)))) (eOr (eOp cNotIn (eOp bIx (eOp bIx (eVar 8) (eC (.str "even"))) (eVar 9)) (eTup (aCons (eVar 10) (aCons (eVar 11) aNil)))) (eOp cNotIn (eOp bIx (eOp bIx (eVar 8) (eC (.str "zero"))) (eVar 9)) (eTup (aCons (eVar 10) (aCons (eVar 11) aNil)))))) (sSeq (sIf (eOp cNe (eCall 9 (aCons (eVar 0) (aCons (eOp bIx (eOp bIx (eVar 8) (eC (.str "even"))) (eVar 9)) aNil))) (eTup (aCons (eC (.int 0)) (aCons (eC (.int 1)) aNil)))) (sSeq (sRet (eC (.bl false))) sNil) sNil) sNil) sNil) (sSeq (sIf (eAnd (eOp cIsNot (eCall 9 (aCons (eVar 0) (aCons (eVar 10) aNil))) (eC .non)) (eAnd (eOp cNe (eCall 9 (aCons (eVar 0) (aCons (eVar 10) aNil))) (eCall 9 (aCons (eVar 0) (aCons (eVar 11) aNil)))) (eOp cNe (eCall 9 (aCons (eVar 0) (aCons (eCall 24 (aCons (eVar 0) (aCons (eVar 10) aNil))) aNil))) (eCall 9 (aCons (eVar 0) (aCons (eVar 11) aNil)))))) (sSeq (sRet (eC (.bl false))) sNil) sNil) sNil)))))) (sSeq (sIf (eAnd (eOp cNe (eCall 18 (aCons (eVar 0) (aCons (eVar 2) (aCons (eVar 3) (aCons (eC (.str "down")) aNil))))) (eCall 19 (aCons (eVar 0) (aCons (eCall 18 (aCons (eVar 0) (aCons (eCall 19 (aCons (eVar 0) (aCons (eVar 2) aNil))) (aCons (eCall 19 (aCons (eVar 0) (aCons (eVar 3) aNil))) (aCons (eC (.str "up")) aNil))))) aNil)))) (eOp cNe (eCall 9 (aCons (eVar 0) (aCons (eCall 18 (aCons (eVar 0) (aCons (eVar 2) (aCons (eVar 3) (aCons (eC (.str "down")) aNil))))) aNil))) (eTup (aCons (eC (.int 0)) (aCons (eC (.int 1)) aNil))))) (sSeq (sRet (eC (.bl false))) sNil) sNil) (sSeq (sIf (eOr (eOp cNe (eCall 20 (aCons (eVar 0) (aCons (eVar 2) (aCons (eVar 3) (aCons (eC (.str "even")) aNil))))) (eCall 20 (aCons (eVar 0) (aCons (eCall 19 (aCons (eVar 0) (aCons (eVar 2) aNil))) (aCons (eCall 19 (aCons (eVar 0) (aCons (eVar 3) aNil))) (aCons (eC (.str "even")) aNil)))))) (eOp cNe (eCall 18 (aCons (eVar 0) (aCons (eVar 2) (aCons (eVar 3) (aCons (eC (.str "zero")) aNil))))) (eCall 18 (aCons (eVar 0) (aCons (eVar 3) (aCons (eVar 2) (aCons (eC (.str "zero")) aNil))))))) (sSeq (sRet (eC (.bl false))) sNil) sNil) (sSeq (sIf (eAnd (eOp cIsNot (eVar 7) (eC .non)) (eNot (eCall 28 (aCons (eVar 6) (aCons (eVar 5) aNil))))) (sSeq (sFor true (iSeq (eTup (aCons (eC (.str "even")) (aCons (eC (.str "zero")) (aCons (eC (.str "up")) (aCons (eC (.str "down")) aNil)))))) (tName 12) (sSeq (sSet 10 (eCall 18 (aCons (eVar 0) (aCons (eVar 2) (aCons (eVar 4) (aCons (eVar 12) aNil)))))) (sSeq (sSet 11 (eCall 18 (aCons (eVar 0) (aCons (eVar 3) (aCons (eVar 4) (aCons (eVar 12) aNil)))))) (sSeq (sIf (eCall 22 (aCons (eVar 0) (aCons (eVar 11) (aCons (eVar 10) aNil)))) (sSeq (sRet (eC (.bl false))) sNil) sNil) (sSeq (sIf (eAnd (eOp cGt (eOp bIx (eVar 7) (eC (.int 0))) (eC (.int 0))) (eCall 22 (aCons (eVar 0) (aCons (eCall 20 (aCons (eVar 0) (aCons (eVar 3) (aCons (eVar 4) (aCons (eVar 12) aNil))))) (aCons (eCall 20 (aCons (eVar 0) (aCons (eVar 2) (aCons (eVar 4) (aCons (eVar 12) aNil))))) aNil))))) (sSeq (sRet (eC (.bl false))) sNil) sNil) (sSeq (sIf (eAnd (eOp cGt (eOp bIx (eVar 7) (eC (.int 0))) (eC (.int 0))) (eCall 22 (aCons (eVar 0) (aCons (eCall 21 (aCons (eVar 0) (aCons (eVar 3) (aCons (eVar 4) (aCons (eVar 12) aNil))))) (aCons (eCall 21 (aCons (eVar 0) (aCons (eVar 2) (aCons (eVar 4) (aCons (eVar 12) aNil))))) aNil))))) (sSeq (sRet (eC (.bl false))) sNil) sNil) sNil)))))) sNil) sNil) (sSeq (sIf (eOp cNe (eCall 21 (aCons (eVar 0) (aCons (eVar 2) (aCons (eVar 2) (aCons (eC (.str "even")) aNil))))) (eIf (eOp cNe (eOp bIx (eVar 5) (eC (.int 0))) (eC (.int 0))) (eCall 14 (aCons (eVar 0) (aCons (eTup (aCons (eC (.int 1)) (aCons (eC (.int 1)) aNil))) (aCons (eC (.str "even")) aNil)))) (eCall 21 (aCons (eVar 0) (aCons (eC (.int 0)) (aCons (eC (.int 0)) (aCons (eC (.str "up")) aNil))))))) (sSeq (sRet (eC (.bl false))) sNil) sNil) (sSeq (sIf (eAnd (eOp cGt (eOp bMod (eBlt intD (aCons (eVar 2) aNil)) (eVar 1)) (eC (.int 0))) (eOp cNe (eCall 20 (aCons (eVar 0) (aCons (eVar 2) (aCons (eCall 14 (aCons (eVar 0) (aCons (eTup (aCons (eC (.int 1)) (aCons (eC (.int 1)) aNil))) (aCons (eC (.str "zero")) aNil)))) (aCons (eC (.str "even")) aNil))))) (eVar 2))) (sSeq (sRet (eC (.bl false))) sNil) sNil) (sSeq (sIf (eAnd (eOp cNe (eCall 18 (aCons (eVar 0) (aCons (eVar 2) (aCons (eC (.int 0)) (aCons (eC (.str "even")) aNil))))) (eVar 2)) (eOp cNe (eOp bIx (eVar 5) (eC (.int 0))) (eC (.int 0)))) (sSeq (sRet (eC (.bl false))) sNil) sNil) (sSeq (sRet (eAnd (eOp cEq (eCall 22 (aCons (eVar 0) (aCons (eVar 2) (aCons (eVar 3) aNil)))) (eCall 28 (aCons (eVar 5) (aCons (eVar 6) aNil)))) (eNot (eCall 22 (aCons (eVar 0) (aCons (eCall 10 (aCons (eVar 0) aNil)) (aCons (eVar 2) aNil))))))) sNil))))))))
def c_law : SS :=
  (sSeq (sSet 1 (eCall 26 (aCons (eVar 0) aNil))) (sSeq (sSet 2 (eTup (aCons (eOp bAdd (eC (.int 2)) (eCall 27 (aCons (eVar 1) (aCons (eC (.int 3)) aNil)))) (aCons (eOp bAdd (eC (.int 1)) (eCall 27 (aCons (eVar 1) (aCons (eC (.int 4)) aNil)))) aNil)))) (sSeq (sSet 3 (eOp bDiv (eCall 4 (aCons (eVar 2) aNil)) (eC (.int 2)))) (sSeq (sSet 4 (eCall 27 (aCons (eVar 1) (aCons (eCall 4 (aCons (eVar 2) aNil)) aNil)))) (sSeq (sSet 5 (eCall 27 (aCons (eVar 1) (aCons (eCall 4 (aCons (eVar 2) aNil)) aNil)))) (sSeq (sSet 6 (eCall 27 (aCons (eVar 1) (aCons (eCall 4 (aCons (eVar 2) aNil)) aNil)))) (sSeq (sSet 7 (eCall 9 (aCons (eVar 2) (aCons (eVar 4) aNil)))) (sSeq (sSet 8 (eCall 9 (aCons (eVar 2) (aCons (eVar 5) aNil)))) (sSeq (sSet 9 (eCall 9 (aCons (eVar 2) (aCons (eVar 6) aNil)))) (sSeq (sIf (eOr (eOp cIs (eVar 7) (eC .non)) (eOp cIs (eVar 8) (eC .non))) (sSeq (sRet (eOp cIn (eCall 7 (aCons (eVar 2) (aCons (eCall 18 (aCons (eVar 2) (aCons (eVar 4) (aCons (eVar 5) (aCons (eC (.str "even")) aNil))))) aNil))) (eTup (aCons (eC (.str "none")) (aCons (eC (.str "endless")) aNil))))) sNil) sNil) (sSeq (sSet 10 (eAnd (eOp cGt (eOp bMul (eOp bIx (eVar 7) (eC (.int 0))) (eOp bIx (eVar 8) (eC (.int 0)))) (eC (.int 0))) (eAnd (eNot (eCall 28 (aCons (eTup (aCons (eOp bMul (eC (.int 2)) (eBlt absD (aCons (eOp bIx (eVar 7) (eC (.int 0))) aNil))) (aCons (eOp bIx (eVar 7) (eC (.int 1))) aNil))) (aCons (eTup (aCons (eBlt absD (aCons (eOp bIx (eVar 8) (eC (.int 0))) aNil)) (aCons (eOp bIx (eVar 8) (eC (.int 1))) aNil))) aNil)))) (eNot (eCall 28 (aCons (eTup (aCons (eOp bMul (eC (.int 2)) (eBlt absD (aCons (eOp bIx (eVar 8) (eC (.int 0))) aNil))) (aCons (eOp bIx (eVar 8) (eC (.int 1))) aNil))) (aCons (eTup (aCons (eBlt absD (aCons (eOp bIx (eVar 7) (eC (.int 0))) aNil)) (aCons (eOp bIx (eVar 7) (eC (.int 1))) aNil))) aNil))))))) (sSeq (sSet 11 (eCall 9 (aCons (eVar 2) (aCons (eCall 18 (aCons (eVar 2) (aCons (eVar 4) (aCons (eCall 19 (aCons (eVar 2) (aCons (eVar 5) aNil))) (aCons (eC (.str "even")) aNil))))) aNil)))) (sSeq (sIf (eAnd (eVar 10) (eOr (eOp cIs (eVar 11) (eC .non)) (eOp cNe (eOp bMul (eOp bMul (eOp bIx (eVar 11) (eC (.int 0))) (eOp bIx (eVar 7) (eC (.int 1)))) (eOp bIx (eVar 8) (eC (.int 1)))) (eOp bMul (eOp bSub (eOp bMul (eOp bIx (eVar 7) (eC (.int 0))) (eOp bIx (eVar 8) (eC (.int 1)))) (eOp bMul (eOp bIx (eVar 8) (eC (.int 0))) (eOp bIx (eVar 7) (eC (.int 1))))) (eOp bIx (eVar 11) (eC (.int 1))))))) (sSeq (sRet (eC (.bl false))) sNil) sNil) (sSeq (sSet 12 (eCall 25 (aCons (eVar 2) (aCons (eVar 4) (aCons (eVar 5) aNil))))) (sSeq (sIf (eOp cIsNot (eVar 12) (eC .non)) (sSeq (sSet 15 (eCall 14 (aCons (eVar 2) (aCons (eOp bIx (eVar 12) (eC (.int 1))) (aCons (eC (.str "zero")) aNil))))) (sSeq (sIf (eOp cNe (eCall 9 (aCons (eVar 2) (aCons (eVar 15) aNil))) (eOp bIx (eVar 12) (eC (.int 1)))) (sSeq (sRet (eC (.bl false))) sNil) sNil) (sSeq (sIf (eAnd (eOp cGt (eOp bMul (eOp bMul (eC (.int 2)) (eBlt absD (aCons (eOp bIx (eOp bIx (eVar 12) (eC (.int 1))) (eC (.int 0))) aNil))) (eOp bIx (eCall 9 (aCons (eVar 2) (aCons (eOp bIx (eVar 12) (eC (.int 0))) aNil))) (eC (.int 1)))) (eC (.int 0))) (eOp cNe (eCall 9 (aCons (eVar 2) (aCons (eCall 18 (aCons (eVar 2) (aCons (eOp bIx (eVar 12) (eC (.int 0))) (aCons (eVar 15) (aCons (eC (.str "even")) aNil))))) aNil))) (eCall 9 (aCons (eVar 2) (aCons (eOp bIx (eVar 12) (eC (.int 0))) aNil))))) (sSeq (sRet (eC (.bl false))) sNil) sNil) sNil))) sNil) (sSeq (sSet 13 eDct0) (sSeq (sFor true (iSeq (eTup (aCons (eC (.str "even")) (aCons (eC (.str "zero")) (aCons (eC (.str "up")) (aCons (eC (.str "down")) aNil)))))) (tName 14) (sSeq (sAsg (eTup (aCons (eCall 18 (aCons (eVar 2) (aCons (eVar 4) (aCons (eVar 5) (aCons (eVar 14) aNil))))) (aCons (eCall 20 (aCons (eVar 2) (aCons (eVar 4) (aCons (eVar 5) (aCons (eVar 14) aNil))))) (aCons (eCall 21 (aCons (eVar 2) (aCons (eVar 4) (aCons (eVar 5) (aCons (eVar 14) aNil))))) aNil)))) (tSub (eVar 13) (eVar 14))) sNil)) (sSeq (sRet (eCall 29 (aCons (eVar 2) (aCons (eVar 3) (aCons (eVar 4) (aCons (eVar 5) (aCons (eVar 6) (aCons (eVar 7) (aCons (eVar 8) (aCons (eVar 9) (aCons (eVar 13) aNil))))))))))) sNil))))))))))))))))))
def tab : Nat → Option DefE
  | 0 => some ⟨1, 3, c_check_form⟩
  | 1 => some ⟨1, 3, c_power_of⟩
  | 2 => some ⟨1, 1, c_bias⟩
  | 3 => some ⟨1, 1, c_least_power⟩
  | 4 => some ⟨1, 1, c_size⟩
  | 5 => some ⟨2, 2, c_check_code⟩
  | 6 => some ⟨2, 2, c_parts⟩
  | 7 => some ⟨2, 5, c_kind⟩
  | 8 => some ⟨2, 4, c_reduced⟩
  | 9 => some ⟨2, 7, c_value⟩
  | 10 => some ⟨1, 1, c_greatest⟩
  | 11 => some ⟨2, 2, c_endless⟩
  | 12 => some ⟨1, 1, c_nothing⟩
  | 13 => some ⟨3, 7, c_floor_code⟩
  | 14 => some ⟨3, 10, c_rounded⟩
  | 15 => some ⟨4, 8, c_is_nearer_above⟩
  | 16 => some ⟨2, 5, c_below_step⟩
  | 17 => some ⟨2, 2, c_signed_nought⟩
  | 18 => some ⟨4, 9, c_add⟩
  | 19 => some ⟨2, 3, c_turned⟩
  | 20 => some ⟨4, 8, c_multiply⟩
  | 21 => some ⟨4, 10, c_divide⟩
  | 22 => some ⟨3, 3, c_less⟩
  | 23 => some ⟨2, 3, c_place_of⟩
  | 24 => some ⟨2, 3, c_next_up⟩
  | 25 => some ⟨3, 9, c_pair_sum⟩
  | 26 => some ⟨1, 3, c_law_begin⟩
  | 27 => some ⟨2, 4, c_law_take⟩
  | 28 => some ⟨2, 2, c_law_less⟩
  | 29 => some ⟨9, 13, c_law_part1⟩
  | 30 => some ⟨1, 16, c_law⟩
  | _ => none
section
variable {Γ : W0} {lo : Nat} {E : XK} {X : Cx} {k : Nat → List Nat → List D → S → Res}
structure Tx (Γ : W0) (lo : Nat) (k : Nat → List Nat → List D → S → Res) : Prop where
  f_check_form : FnA Γ lo k 0 "check_form"
  f_power_of : FnA Γ lo k 1 "power_of"
  f_bias : FnA Γ lo k 2 "bias"
  f_least_power : FnA Γ lo k 3 "least_power"
  f_size : FnA Γ lo k 4 "size"
  f_check_code : FnA Γ lo k 5 "check_code"
  f_parts : FnA Γ lo k 6 "parts"
  f_kind : FnA Γ lo k 7 "kind"
  f_reduced : FnA Γ lo k 8 "reduced"
  f_value : FnA Γ lo k 9 "value"
  f_greatest : FnA Γ lo k 10 "greatest"
  f_endless : FnA Γ lo k 11 "endless"
  f_nothing : FnA Γ lo k 12 "nothing"
  f_floor_code : FnA Γ lo k 13 "floor_code"
  f_rounded : FnA Γ lo k 14 "rounded"
  f_is_nearer_above : FnA Γ lo k 15 "is_nearer_above"
  f_below_step : FnA Γ lo k 16 "below_step"
  f_signed_nought : FnA Γ lo k 17 "signed_nought"
  f_add : FnA Γ lo k 18 "add"
  f_turned : FnA Γ lo k 19 "turned"
  f_multiply : FnA Γ lo k 20 "multiply"
  f_divide : FnA Γ lo k 21 "divide"
  f_less : FnA Γ lo k 22 "less"
  f_place_of : FnA Γ lo k 23 "place_of"
  f_next_up : FnA Γ lo k 24 "next_up"
  f_pair_sum : FnA Γ lo k 25 "pair_sum"
  f_law_begin : FnA Γ lo k 26 "_law_begin"
  f_law_take : FnA Γ lo k 27 "_law_take"
  f_law_less : FnA Γ lo k 28 "_law_less"
  f_law_part1 : FnA Γ lo k 29 "_law_part1"
  f_law : FnA Γ lo k 30 "law"
  b_abs : Γ.mg "abs" = none
  b_int : Γ.mg "int" = none
  b_len : Γ.mg "len" = none
  b_list : Γ.mg "list" = none
  b_max : Γ.mg "max" = none
  b_range : Γ.mg "range" = none
  c_WAYS : ∃ a, Γ.mg "WAYS" = some (.ref a) ∧ datB Γ.g.K 4 (.ref a) (.tup [(.str "even"), (.str "zero"), (.str "up"), (.str "down")]) = true
  err : ErrW Γ
theorem v_check_form_0 {fz : Str → Bool} (h : CxW Γ lo E X n_check_form (defScope s_check_form) fz) {pos : Pos} : PE X (.Name "form" pos) (tE Γ.g E k (eVar 0)) := w_var h (by kernel_rfl)
theorem v_check_form_1 {fz : Str → Bool} (h : CxW Γ lo E X n_check_form (defScope s_check_form) fz) {pos : Pos} : PE X (.Name "exponent" pos) (tE Γ.g E k (eVar 1)) := w_var h (by kernel_rfl)
theorem v_check_form_2 {fz : Str → Bool} (h : CxW Γ lo E X n_check_form (defScope s_check_form) fz) {pos : Pos} : PE X (.Name "places" pos) (tE Γ.g E k (eVar 2)) := w_var h (by kernel_rfl)
theorem s_check_form_1 : stB (defScope s_check_form) (fun _ => true) n_check_form 1 "exponent" = true := by kernel_rfl
theorem s_check_form_2 : stB (defScope s_check_form) (fun _ => true) n_check_form 2 "places" = true := by kernel_rfl
theorem g_check_form_MachineError : glB (defScope s_check_form) "MachineError" = true := by kernel_rfl
theorem r_check_form (h : CxW Γ lo E X n_check_form (defScope s_check_form) (fun _ => true)) (T : Tx Γ lo k) : PSs X (defBody s_check_form) (tSS Γ.g E k c_check_form) := by
  unfold c_check_form
  exact (ss_cons (ss_asg (v_check_form_0 h) (sg_tup h.pK h.calm (sgs_cons (w_name (i := 1) h s_check_form_1) (sgs_cons (w_name (i := 2) h s_check_form_2) sgs_nil rfl) rfl) rfl rfl) (tok_tup (tsok_cons tok_name (tsok_cons tok_name tsok_nil))) rfl rfl rfl) (ss_cons (ss_if (sw_or (st_not (st_chain (opd_le) (opd_le) se_int (v_check_form_1 h) se_int rfl bl_le bl_le)) (sw_or1 (st_not (st_chain (opd_le) (opd_le) se_int (v_check_form_2 h) se_int rfl bl_le bl_le)))).pt (ss_cons (w_raise h T.err g_check_form_MachineError se_str rfl) ss_nil) ss_nil) ss_nil))
theorem v_power_of_0 {fz : Str → Bool} (h : CxW Γ lo E X n_power_of (defScope s_power_of) fz) {pos : Pos} : PE X (.Name "number" pos) (tE Γ.g E k (eVar 0)) := w_var h (by kernel_rfl)
theorem v_power_of_1 {fz : Str → Bool} (h : CxW Γ lo E X n_power_of (defScope s_power_of) fz) {pos : Pos} : PE X (.Name "found" pos) (tE Γ.g E k (eVar 1)) := w_var h (by kernel_rfl)
theorem s_power_of_2 : stB (defScope s_power_of) (fun _ => true) n_power_of 2 "_" = true := by kernel_rfl
theorem s_power_of_1 : stB (defScope s_power_of) (fun _ => true) n_power_of 1 "found" = true := by kernel_rfl
theorem gb_power_of_range : bltB (defScope s_power_of) "range" = true := by kernel_rfl
theorem r_power_of (h : CxW Γ lo E X n_power_of (defScope s_power_of) (fun _ => true)) (T : Tx Γ lo k) : PSs X (defBody s_power_of) (tSS Γ.g E k c_power_of) := by
  unfold c_power_of
  exact (ss_cons (w_set (i := 1) h s_power_of_1 se_int rfl) (ss_cons (w_for h (w_r1 h T.b_range gb_power_of_range (sa_cons (v_power_of_0 h) sa_nil rfl) rfl) (w_name (i := 2) h s_power_of_2) tok_name (ss_cons (w_aug (i := 1) h s_power_of_1 ipd_mul se_int) ss_nil) (fun _ => rfl)) (ss_cons (ss_ret (v_power_of_1 h)) ss_nil)))
theorem v_bias_0 {fz : Str → Bool} (h : CxW Γ lo E X n_bias (defScope s_bias) fz) {pos : Pos} : PE X (.Name "form" pos) (tE Γ.g E k (eVar 0)) := w_var h (by kernel_rfl)
theorem g_bias_power_of : glB (defScope s_bias) "power_of" = true := by kernel_rfl
theorem r_bias (h : CxW Γ lo E X n_bias (defScope s_bias) (fun _ => true)) (T : Tx Γ lo k) : PSs X (defBody s_bias) (tSS Γ.g E k c_bias) := by
  unfold c_bias
  exact (ss_cons (ss_ret (se_op (opd_sub) (w_call h T.f_power_of g_bias_power_of (sa_cons (se_op (opd_sub) (se_ix h.pK h.u65 (v_bias_0 h) se_int (fun _ _ => rfl)) se_int) sa_nil rfl) rfl rfl) se_int)) ss_nil)
theorem v_least_power_0 {fz : Str → Bool} (h : CxW Γ lo E X n_least_power (defScope s_least_power) fz) {pos : Pos} : PE X (.Name "form" pos) (tE Γ.g E k (eVar 0)) := w_var h (by kernel_rfl)
theorem g_least_power_bias : glB (defScope s_least_power) "bias" = true := by kernel_rfl
theorem r_least_power (h : CxW Γ lo E X n_least_power (defScope s_least_power) (fun _ => true)) (T : Tx Γ lo k) : PSs X (defBody s_least_power) (tSS Γ.g E k c_least_power) := by
  unfold c_least_power
  exact (ss_cons (ss_ret (se_op (opd_sub) (se_op (opd_sub) se_int (w_call h T.f_bias g_least_power_bias (sa_cons (v_least_power_0 h) sa_nil rfl) rfl rfl)) (se_ix h.pK h.u65 (v_least_power_0 h) se_int (fun _ _ => rfl)))) ss_nil)
theorem v_size_0 {fz : Str → Bool} (h : CxW Γ lo E X n_size (defScope s_size) fz) {pos : Pos} : PE X (.Name "form" pos) (tE Γ.g E k (eVar 0)) := w_var h (by kernel_rfl)
theorem g_size_check_form : glB (defScope s_size) "check_form" = true := by kernel_rfl
theorem g_size_power_of : glB (defScope s_size) "power_of" = true := by kernel_rfl
theorem r_size (h : CxW Γ lo E X n_size (defScope s_size) (fun _ => true)) (T : Tx Γ lo k) : PSs X (defBody s_size) (tSS Γ.g E k c_size) := by
  unfold c_size
  exact (ss_cons (ss_expr (w_call h T.f_check_form g_size_check_form (sa_cons (v_size_0 h) sa_nil rfl) rfl rfl) rfl) (ss_cons (ss_ret (w_call h T.f_power_of g_size_power_of (sa_cons (se_op (opd_add h.pK) (se_op (opd_add h.pK) se_int (se_ix h.pK h.u65 (v_size_0 h) se_int (fun _ _ => rfl))) (se_ix h.pK h.u65 (v_size_0 h) se_int (fun _ _ => rfl))) sa_nil rfl) rfl rfl)) ss_nil))
theorem v_check_code_0 {fz : Str → Bool} (h : CxW Γ lo E X n_check_code (defScope s_check_code) fz) {pos : Pos} : PE X (.Name "form" pos) (tE Γ.g E k (eVar 0)) := w_var h (by kernel_rfl)
theorem v_check_code_1 {fz : Str → Bool} (h : CxW Γ lo E X n_check_code (defScope s_check_code) fz) {pos : Pos} : PE X (.Name "code" pos) (tE Γ.g E k (eVar 1)) := w_var h (by kernel_rfl)
theorem g_check_code_MachineError : glB (defScope s_check_code) "MachineError" = true := by kernel_rfl
theorem g_check_code_check_form : glB (defScope s_check_code) "check_form" = true := by kernel_rfl
theorem g_check_code_size : glB (defScope s_check_code) "size" = true := by kernel_rfl
theorem r_check_code (h : CxW Γ lo E X n_check_code (defScope s_check_code) (fun _ => true)) (T : Tx Γ lo k) : PSs X (defBody s_check_code) (tSS Γ.g E k c_check_code) := by
  unfold c_check_code
  exact (ss_cons (ss_expr (w_call h T.f_check_form g_check_code_check_form (sa_cons (v_check_code_0 h) sa_nil rfl) rfl rfl) rfl) (ss_cons (ss_if (st_not (st_chain (opd_le) (opd_lt) se_int (v_check_code_1 h) (w_call h T.f_size g_check_code_size (sa_cons (v_check_code_0 h) sa_nil rfl) rfl rfl) rfl bl_le bl_lt)) (ss_cons (w_raise h T.err g_check_code_MachineError se_str rfl) ss_nil) ss_nil) ss_nil))
theorem v_parts_0 {fz : Str → Bool} (h : CxW Γ lo E X n_parts (defScope s_parts) fz) {pos : Pos} : PE X (.Name "form" pos) (tE Γ.g E k (eVar 0)) := w_var h (by kernel_rfl)
theorem v_parts_1 {fz : Str → Bool} (h : CxW Γ lo E X n_parts (defScope s_parts) fz) {pos : Pos} : PE X (.Name "code" pos) (tE Γ.g E k (eVar 1)) := w_var h (by kernel_rfl)
theorem g_parts_check_code : glB (defScope s_parts) "check_code" = true := by kernel_rfl
theorem g_parts_power_of : glB (defScope s_parts) "power_of" = true := by kernel_rfl
theorem r_parts (h : CxW Γ lo E X n_parts (defScope s_parts) (fun _ => true)) (T : Tx Γ lo k) : PSs X (defBody s_parts) (tSS Γ.g E k c_parts) := by
  unfold c_parts
  exact (ss_cons (ss_expr (w_call h T.f_check_code g_parts_check_code (sa_cons (v_parts_0 h) (sa_cons (v_parts_1 h) sa_nil rfl) rfl) rfl rfl) rfl) (ss_cons (ss_ret (se_tup (sa_cons (se_op (opd_div) (v_parts_1 h) (w_call h T.f_power_of g_parts_power_of (sa_cons (se_op (opd_add h.pK) (se_ix h.pK h.u65 (v_parts_0 h) se_int (fun _ _ => rfl)) (se_ix h.pK h.u65 (v_parts_0 h) se_int (fun _ _ => rfl))) sa_nil rfl) rfl rfl)) (sa_cons (se_op (opd_mod) (se_op (opd_div) (v_parts_1 h) (w_call h T.f_power_of g_parts_power_of (sa_cons (se_ix h.pK h.u65 (v_parts_0 h) se_int (fun _ _ => rfl)) sa_nil rfl) rfl rfl)) (w_call h T.f_power_of g_parts_power_of (sa_cons (se_ix h.pK h.u65 (v_parts_0 h) se_int (fun _ _ => rfl)) sa_nil rfl) rfl rfl)) (sa_cons (se_op (opd_mod) (v_parts_1 h) (w_call h T.f_power_of g_parts_power_of (sa_cons (se_ix h.pK h.u65 (v_parts_0 h) se_int (fun _ _ => rfl)) sa_nil rfl) rfl rfl)) sa_nil rfl) rfl) rfl))) ss_nil))
theorem v_kind_0 {fz : Str → Bool} (h : CxW Γ lo E X n_kind (defScope s_kind) fz) {pos : Pos} : PE X (.Name "form" pos) (tE Γ.g E k (eVar 0)) := w_var h (by kernel_rfl)
theorem v_kind_1 {fz : Str → Bool} (h : CxW Γ lo E X n_kind (defScope s_kind) fz) {pos : Pos} : PE X (.Name "code" pos) (tE Γ.g E k (eVar 1)) := w_var h (by kernel_rfl)
theorem v_kind_3 {fz : Str → Bool} (h : CxW Γ lo E X n_kind (defScope s_kind) fz) {pos : Pos} : PE X (.Name "exponent" pos) (tE Γ.g E k (eVar 3)) := w_var h (by kernel_rfl)
theorem v_kind_4 {fz : Str → Bool} (h : CxW Γ lo E X n_kind (defScope s_kind) fz) {pos : Pos} : PE X (.Name "places" pos) (tE Γ.g E k (eVar 4)) := w_var h (by kernel_rfl)
theorem s_kind_2 : stB (defScope s_kind) (fun _ => true) n_kind 2 "_" = true := by kernel_rfl
theorem s_kind_3 : stB (defScope s_kind) (fun _ => true) n_kind 3 "exponent" = true := by kernel_rfl
theorem s_kind_4 : stB (defScope s_kind) (fun _ => true) n_kind 4 "places" = true := by kernel_rfl
theorem g_kind_parts : glB (defScope s_kind) "parts" = true := by kernel_rfl
theorem g_kind_power_of : glB (defScope s_kind) "power_of" = true := by kernel_rfl
theorem r_kind (h : CxW Γ lo E X n_kind (defScope s_kind) (fun _ => true)) (T : Tx Γ lo k) : PSs X (defBody s_kind) (tSS Γ.g E k c_kind) := by
  unfold c_kind
  exact (ss_cons (ss_asg (w_call h T.f_parts g_kind_parts (sa_cons (v_kind_0 h) (sa_cons (v_kind_1 h) sa_nil rfl) rfl) rfl rfl) (sg_tup h.pK h.calm (sgs_cons (w_name (i := 2) h s_kind_2) (sgs_cons (w_name (i := 3) h s_kind_3) (sgs_cons (w_name (i := 4) h s_kind_4) sgs_nil rfl) rfl) rfl) rfl rfl) (tok_tup (tsok_cons tok_name (tsok_cons tok_name (tsok_cons tok_name tsok_nil)))) rfl rfl rfl) (ss_cons (ss_if (st_cmp (opd_eq h.pK h.u64) (v_kind_3 h) (se_op (opd_sub) (w_call h T.f_power_of g_kind_power_of (sa_cons (se_ix h.pK h.u65 (v_kind_0 h) se_int (fun _ _ => rfl)) sa_nil rfl) rfl rfl) se_int) rfl bl_eq) (ss_cons (ss_ret (se_if (st_cmp (opd_eq h.pK h.u64) (v_kind_4 h) se_int rfl bl_eq) se_str se_str)) ss_nil) ss_nil) (ss_cons (ss_if (st_cmp (opd_eq h.pK h.u64) (v_kind_3 h) se_int rfl bl_eq) (ss_cons (ss_ret (se_if (st_cmp (opd_eq h.pK h.u64) (v_kind_4 h) se_int rfl bl_eq) se_str se_str)) ss_nil) ss_nil) (ss_cons (ss_ret se_str) ss_nil))))
theorem v_reduced_0 {fz : Str → Bool} (h : CxW Γ lo E X n_reduced (defScope s_reduced) fz) {pos : Pos} : PE X (.Name "top" pos) (tE Γ.g E k (eVar 0)) := w_var h (by kernel_rfl)
theorem v_reduced_1 {fz : Str → Bool} (h : CxW Γ lo E X n_reduced (defScope s_reduced) fz) {pos : Pos} : PE X (.Name "bottom" pos) (tE Γ.g E k (eVar 1)) := w_var h (by kernel_rfl)
theorem v_reduced_2 {fz : Str → Bool} (h : CxW Γ lo E X n_reduced (defScope s_reduced) fz) {pos : Pos} : PE X (.Name "one" pos) (tE Γ.g E k (eVar 2)) := w_var h (by kernel_rfl)
theorem v_reduced_3 {fz : Str → Bool} (h : CxW Γ lo E X n_reduced (defScope s_reduced) fz) {pos : Pos} : PE X (.Name "other" pos) (tE Γ.g E k (eVar 3)) := w_var h (by kernel_rfl)
theorem gb_reduced_abs : bltB (defScope s_reduced) "abs" = true := by kernel_rfl
theorem r_reduced (h : CxW Γ lo E X n_reduced (defScope s_reduced) (fun _ => true)) (T : Tx Γ lo k) : PSs X (defBody s_reduced) (tSS Γ.g E k c_reduced) := by
  unfold c_reduced
  exact (ss_cons (w_par (i := 2) (j := 3) h (by kernel_rfl) (sa_cons (w_abs h (sa_cons (v_reduced_0 h) sa_nil rfl) rfl rfl gb_reduced_abs T.b_abs) (sa_cons (w_abs h (sa_cons (v_reduced_1 h) sa_nil rfl) rfl rfl gb_reduced_abs T.b_abs) sa_nil rfl) rfl) (by kernel_rfl) rfl) (ss_cons (w_while h (st_plain h.pK (v_reduced_3 h) (fun _ => rfl)) (ss_cons (w_par (i := 2) (j := 3) h (by kernel_rfl) (sa_cons (v_reduced_3 h) (sa_cons (se_op (opd_mod) (v_reduced_2 h) (v_reduced_3 h)) sa_nil rfl) rfl) (by kernel_rfl) rfl) ss_nil)) (ss_cons (ss_ret (se_if (st_cmp (opd_gt) (v_reduced_2 h) se_int rfl bl_gt) (se_tup (sa_cons (se_op (opd_div) (v_reduced_0 h) (v_reduced_2 h)) (sa_cons (se_op (opd_div) (v_reduced_1 h) (v_reduced_2 h)) sa_nil rfl) rfl)) (se_tup (sa_cons se_int (sa_cons se_int sa_nil rfl) rfl)))) ss_nil)))
theorem v_value_0 {fz : Str → Bool} (h : CxW Γ lo E X n_value (defScope s_value) fz) {pos : Pos} : PE X (.Name "form" pos) (tE Γ.g E k (eVar 0)) := w_var h (by kernel_rfl)
theorem v_value_1 {fz : Str → Bool} (h : CxW Γ lo E X n_value (defScope s_value) fz) {pos : Pos} : PE X (.Name "code" pos) (tE Γ.g E k (eVar 1)) := w_var h (by kernel_rfl)
theorem v_value_2 {fz : Str → Bool} (h : CxW Γ lo E X n_value (defScope s_value) fz) {pos : Pos} : PE X (.Name "whole" pos) (tE Γ.g E k (eVar 2)) := w_var h (by kernel_rfl)
theorem v_value_3 {fz : Str → Bool} (h : CxW Γ lo E X n_value (defScope s_value) fz) {pos : Pos} : PE X (.Name "power" pos) (tE Γ.g E k (eVar 3)) := w_var h (by kernel_rfl)
theorem v_value_4 {fz : Str → Bool} (h : CxW Γ lo E X n_value (defScope s_value) fz) {pos : Pos} : PE X (.Name "sign" pos) (tE Γ.g E k (eVar 4)) := w_var h (by kernel_rfl)
theorem v_value_5 {fz : Str → Bool} (h : CxW Γ lo E X n_value (defScope s_value) fz) {pos : Pos} : PE X (.Name "exponent" pos) (tE Γ.g E k (eVar 5)) := w_var h (by kernel_rfl)
theorem v_value_6 {fz : Str → Bool} (h : CxW Γ lo E X n_value (defScope s_value) fz) {pos : Pos} : PE X (.Name "places" pos) (tE Γ.g E k (eVar 6)) := w_var h (by kernel_rfl)
theorem s_value_5 : stB (defScope s_value) (fun _ => true) n_value 5 "exponent" = true := by kernel_rfl
theorem s_value_6 : stB (defScope s_value) (fun _ => true) n_value 6 "places" = true := by kernel_rfl
theorem s_value_3 : stB (defScope s_value) (fun _ => true) n_value 3 "power" = true := by kernel_rfl
theorem s_value_4 : stB (defScope s_value) (fun _ => true) n_value 4 "sign" = true := by kernel_rfl
theorem s_value_2 : stB (defScope s_value) (fun _ => true) n_value 2 "whole" = true := by kernel_rfl
theorem g_value_kind : glB (defScope s_value) "kind" = true := by kernel_rfl
theorem g_value_least_power : glB (defScope s_value) "least_power" = true := by kernel_rfl
theorem gb_value_max : bltB (defScope s_value) "max" = true := by kernel_rfl
theorem g_value_parts : glB (defScope s_value) "parts" = true := by kernel_rfl
theorem g_value_power_of : glB (defScope s_value) "power_of" = true := by kernel_rfl
theorem g_value_reduced : glB (defScope s_value) "reduced" = true := by kernel_rfl
theorem r_value (h : CxW Γ lo E X n_value (defScope s_value) (fun _ => true)) (T : Tx Γ lo k) : PSs X (defBody s_value) (tSS Γ.g E k c_value) := by
  unfold c_value
  exact (ss_cons (ss_if (st_cmp (opd_in h.pK h.u65) (w_call h T.f_kind g_value_kind (sa_cons (v_value_0 h) (sa_cons (v_value_1 h) sa_nil rfl) rfl) rfl rfl) (se_tup (sa_cons se_str (sa_cons se_str sa_nil rfl) rfl)) rfl bl_in) (ss_cons (ss_ret se_none) ss_nil) ss_nil) (ss_cons (ss_asg (w_call h T.f_parts g_value_parts (sa_cons (v_value_0 h) (sa_cons (v_value_1 h) sa_nil rfl) rfl) rfl rfl) (sg_tup h.pK h.calm (sgs_cons (w_name (i := 4) h s_value_4) (sgs_cons (w_name (i := 5) h s_value_5) (sgs_cons (w_name (i := 6) h s_value_6) sgs_nil rfl) rfl) rfl) rfl rfl) (tok_tup (tsok_cons tok_name (tsok_cons tok_name (tsok_cons tok_name tsok_nil)))) rfl rfl rfl) (ss_cons (w_set (i := 2) h s_value_2 (se_if (st_cmp (opd_eq h.pK h.u64) (v_value_5 h) se_int rfl bl_eq) (v_value_6 h) (se_op (opd_add h.pK) (v_value_6 h) (w_call h T.f_power_of g_value_power_of (sa_cons (se_ix h.pK h.u65 (v_value_0 h) se_int (fun _ _ => rfl)) sa_nil rfl) rfl rfl))) rfl) (ss_cons (w_set (i := 3) h s_value_3 (se_op (opd_add h.pK) (w_call h T.f_least_power g_value_least_power (sa_cons (v_value_0 h) sa_nil rfl) rfl rfl) (w_max h (sa_cons (se_op (opd_sub) (v_value_5 h) se_int) (sa_cons se_int sa_nil rfl) rfl) rfl rfl gb_value_max T.b_max)) rfl) (ss_cons (w_set (i := 2) h s_value_2 (se_if (st_cmp (opd_eq h.pK h.u64) (v_value_4 h) se_int rfl bl_eq) (se_op (opd_sub) se_int (v_value_2 h)) (v_value_2 h)) rfl) (ss_cons (ss_if (st_cmp (opd_ge) (v_value_3 h) se_int rfl bl_ge) (ss_cons (ss_ret (se_tup (sa_cons (se_op (opd_mul h.pK) (v_value_2 h) (w_call h T.f_power_of g_value_power_of (sa_cons (v_value_3 h) sa_nil rfl) rfl rfl)) (sa_cons se_int sa_nil rfl) rfl))) ss_nil) ss_nil) (ss_cons (ss_ret (w_call h T.f_reduced g_value_reduced (sa_cons (v_value_2 h) (sa_cons (w_call h T.f_power_of g_value_power_of (sa_cons (se_op (opd_sub) se_int (v_value_3 h)) sa_nil rfl) rfl rfl) sa_nil rfl) rfl) rfl rfl)) ss_nil)))))))
theorem v_greatest_0 {fz : Str → Bool} (h : CxW Γ lo E X n_greatest (defScope s_greatest) fz) {pos : Pos} : PE X (.Name "form" pos) (tE Γ.g E k (eVar 0)) := w_var h (by kernel_rfl)
theorem g_greatest_check_form : glB (defScope s_greatest) "check_form" = true := by kernel_rfl
theorem g_greatest_power_of : glB (defScope s_greatest) "power_of" = true := by kernel_rfl
theorem r_greatest (h : CxW Γ lo E X n_greatest (defScope s_greatest) (fun _ => true)) (T : Tx Γ lo k) : PSs X (defBody s_greatest) (tSS Γ.g E k c_greatest) := by
  unfold c_greatest
  exact (ss_cons (ss_expr (w_call h T.f_check_form g_greatest_check_form (sa_cons (v_greatest_0 h) sa_nil rfl) rfl rfl) rfl) (ss_cons (ss_ret (se_op (opd_sub) (se_op (opd_sub) (w_call h T.f_power_of g_greatest_power_of (sa_cons (se_op (opd_add h.pK) (se_ix h.pK h.u65 (v_greatest_0 h) se_int (fun _ _ => rfl)) (se_ix h.pK h.u65 (v_greatest_0 h) se_int (fun _ _ => rfl))) sa_nil rfl) rfl rfl) (w_call h T.f_power_of g_greatest_power_of (sa_cons (se_ix h.pK h.u65 (v_greatest_0 h) se_int (fun _ _ => rfl)) sa_nil rfl) rfl rfl)) se_int)) ss_nil))
theorem v_endless_0 {fz : Str → Bool} (h : CxW Γ lo E X n_endless (defScope s_endless) fz) {pos : Pos} : PE X (.Name "form" pos) (tE Γ.g E k (eVar 0)) := w_var h (by kernel_rfl)
theorem v_endless_1 {fz : Str → Bool} (h : CxW Γ lo E X n_endless (defScope s_endless) fz) {pos : Pos} : PE X (.Name "sign" pos) (tE Γ.g E k (eVar 1)) := w_var h (by kernel_rfl)
theorem g_endless_power_of : glB (defScope s_endless) "power_of" = true := by kernel_rfl
theorem r_endless (h : CxW Γ lo E X n_endless (defScope s_endless) (fun _ => true)) (T : Tx Γ lo k) : PSs X (defBody s_endless) (tSS Γ.g E k c_endless) := by
  unfold c_endless
  exact (ss_cons (ss_ret (se_op (opd_sub) (se_op (opd_add h.pK) (se_op (opd_mul h.pK) (v_endless_1 h) (w_call h T.f_power_of g_endless_power_of (sa_cons (se_op (opd_add h.pK) (se_ix h.pK h.u65 (v_endless_0 h) se_int (fun _ _ => rfl)) (se_ix h.pK h.u65 (v_endless_0 h) se_int (fun _ _ => rfl))) sa_nil rfl) rfl rfl)) (w_call h T.f_power_of g_endless_power_of (sa_cons (se_op (opd_add h.pK) (se_ix h.pK h.u65 (v_endless_0 h) se_int (fun _ _ => rfl)) (se_ix h.pK h.u65 (v_endless_0 h) se_int (fun _ _ => rfl))) sa_nil rfl) rfl rfl)) (w_call h T.f_power_of g_endless_power_of (sa_cons (se_ix h.pK h.u65 (v_endless_0 h) se_int (fun _ _ => rfl)) sa_nil rfl) rfl rfl))) ss_nil)
theorem v_nothing_0 {fz : Str → Bool} (h : CxW Γ lo E X n_nothing (defScope s_nothing) fz) {pos : Pos} : PE X (.Name "form" pos) (tE Γ.g E k (eVar 0)) := w_var h (by kernel_rfl)
theorem g_nothing_power_of : glB (defScope s_nothing) "power_of" = true := by kernel_rfl
theorem r_nothing (h : CxW Γ lo E X n_nothing (defScope s_nothing) (fun _ => true)) (T : Tx Γ lo k) : PSs X (defBody s_nothing) (tSS Γ.g E k c_nothing) := by
  unfold c_nothing
  exact (ss_cons (ss_ret (se_op (opd_add h.pK) (se_op (opd_sub) (w_call h T.f_power_of g_nothing_power_of (sa_cons (se_op (opd_add h.pK) (se_ix h.pK h.u65 (v_nothing_0 h) se_int (fun _ _ => rfl)) (se_ix h.pK h.u65 (v_nothing_0 h) se_int (fun _ _ => rfl))) sa_nil rfl) rfl rfl) (w_call h T.f_power_of g_nothing_power_of (sa_cons (se_ix h.pK h.u65 (v_nothing_0 h) se_int (fun _ _ => rfl)) sa_nil rfl) rfl rfl)) (w_call h T.f_power_of g_nothing_power_of (sa_cons (se_op (opd_sub) (se_ix h.pK h.u65 (v_nothing_0 h) se_int (fun _ _ => rfl)) se_int) sa_nil rfl) rfl rfl))) ss_nil)
theorem v_floor_code_0 {fz : Str → Bool} (h : CxW Γ lo E X n_floor_code (defScope s_floor_code) fz) {pos : Pos} : PE X (.Name "form" pos) (tE Γ.g E k (eVar 0)) := w_var h (by kernel_rfl)
theorem v_floor_code_1 {fz : Str → Bool} (h : CxW Γ lo E X n_floor_code (defScope s_floor_code) fz) {pos : Pos} : PE X (.Name "top" pos) (tE Γ.g E k (eVar 1)) := w_var h (by kernel_rfl)
theorem v_floor_code_2 {fz : Str → Bool} (h : CxW Γ lo E X n_floor_code (defScope s_floor_code) fz) {pos : Pos} : PE X (.Name "bottom" pos) (tE Γ.g E k (eVar 2)) := w_var h (by kernel_rfl)
theorem v_floor_code_3 {fz : Str → Bool} (h : CxW Γ lo E X n_floor_code (defScope s_floor_code) fz) {pos : Pos} : PE X (.Name "told" pos) (tE Γ.g E k (eVar 3)) := w_var h (by kernel_rfl)
theorem v_floor_code_4 {fz : Str → Bool} (h : CxW Γ lo E X n_floor_code (defScope s_floor_code) fz) {pos : Pos} : PE X (.Name "low" pos) (tE Γ.g E k (eVar 4)) := w_var h (by kernel_rfl)
theorem v_floor_code_5 {fz : Str → Bool} (h : CxW Γ lo E X n_floor_code (defScope s_floor_code) fz) {pos : Pos} : PE X (.Name "high" pos) (tE Γ.g E k (eVar 5)) := w_var h (by kernel_rfl)
theorem v_floor_code_6 {fz : Str → Bool} (h : CxW Γ lo E X n_floor_code (defScope s_floor_code) fz) {pos : Pos} : PE X (.Name "middle" pos) (tE Γ.g E k (eVar 6)) := w_var h (by kernel_rfl)
theorem s_floor_code_5 : stB (defScope s_floor_code) (fun _ => true) n_floor_code 5 "high" = true := by kernel_rfl
theorem s_floor_code_4 : stB (defScope s_floor_code) (fun _ => true) n_floor_code 4 "low" = true := by kernel_rfl
theorem s_floor_code_6 : stB (defScope s_floor_code) (fun _ => true) n_floor_code 6 "middle" = true := by kernel_rfl
theorem s_floor_code_3 : stB (defScope s_floor_code) (fun _ => true) n_floor_code 3 "told" = true := by kernel_rfl
theorem g_floor_code_greatest : glB (defScope s_floor_code) "greatest" = true := by kernel_rfl
theorem g_floor_code_value : glB (defScope s_floor_code) "value" = true := by kernel_rfl
theorem r_floor_code (h : CxW Γ lo E X n_floor_code (defScope s_floor_code) (fun _ => true)) (T : Tx Γ lo k) : PSs X (defBody s_floor_code) (tSS Γ.g E k c_floor_code) := by
  unfold c_floor_code
  exact (ss_cons (w_par (i := 4) (j := 5) h (by kernel_rfl) (sa_cons se_int (sa_cons (se_op (opd_add h.pK) (w_call h T.f_greatest g_floor_code_greatest (sa_cons (v_floor_code_0 h) sa_nil rfl) rfl rfl) se_int) sa_nil rfl) rfl) (by kernel_rfl) rfl) (ss_cons (w_while h (st_cmp (opd_gt) (se_op (opd_sub) (v_floor_code_5 h) (v_floor_code_4 h)) se_int rfl bl_gt) (ss_cons (w_set (i := 6) h s_floor_code_6 (se_op (opd_div) (se_op (opd_add h.pK) (v_floor_code_4 h) (v_floor_code_5 h)) se_int) rfl) (ss_cons (w_set (i := 3) h s_floor_code_3 (w_call h T.f_value g_floor_code_value (sa_cons (v_floor_code_0 h) (sa_cons (v_floor_code_6 h) sa_nil rfl) rfl) rfl rfl) rfl) (ss_cons (ss_if (st_cmp (opd_le) (se_op (opd_mul h.pK) (se_ix h.pK h.u65 (v_floor_code_3 h) se_int (fun _ _ => rfl)) (v_floor_code_2 h)) (se_op (opd_mul h.pK) (v_floor_code_1 h) (se_ix h.pK h.u65 (v_floor_code_3 h) se_int (fun _ _ => rfl))) rfl bl_le) (ss_cons (w_set (i := 4) h s_floor_code_4 (v_floor_code_6 h) rfl) ss_nil) (ss_cons (w_set (i := 5) h s_floor_code_5 (v_floor_code_6 h) rfl) ss_nil)) ss_nil)))) (ss_cons (w_set (i := 3) h s_floor_code_3 (w_call h T.f_value g_floor_code_value (sa_cons (v_floor_code_0 h) (sa_cons (v_floor_code_4 h) sa_nil rfl) rfl) rfl rfl) rfl) (ss_cons (ss_ret (se_tup (sa_cons (v_floor_code_4 h) (sa_cons (se_cmp (opd_eq h.pK h.u64) (se_op (opd_mul h.pK) (se_ix h.pK h.u65 (v_floor_code_3 h) se_int (fun _ _ => rfl)) (v_floor_code_2 h)) (se_op (opd_mul h.pK) (v_floor_code_1 h) (se_ix h.pK h.u65 (v_floor_code_3 h) se_int (fun _ _ => rfl))) rfl) sa_nil rfl) rfl))) ss_nil))))
theorem v_rounded_0 {fz : Str → Bool} (h : CxW Γ lo E X n_rounded (defScope s_rounded) fz) {pos : Pos} : PE X (.Name "form" pos) (tE Γ.g E k (eVar 0)) := w_var h (by kernel_rfl)
theorem v_rounded_1 {fz : Str → Bool} (h : CxW Γ lo E X n_rounded (defScope s_rounded) fz) {pos : Pos} : PE X (.Name "fraction" pos) (tE Γ.g E k (eVar 1)) := w_var h (by kernel_rfl)
theorem v_rounded_2 {fz : Str → Bool} (h : CxW Γ lo E X n_rounded (defScope s_rounded) fz) {pos : Pos} : PE X (.Name "way" pos) (tE Γ.g E k (eVar 2)) := w_var h (by kernel_rfl)
theorem v_rounded_3 {fz : Str → Bool} (h : CxW Γ lo E X n_rounded (defScope s_rounded) fz) {pos : Pos} : PE X (.Name "sign" pos) (tE Γ.g E k (eVar 3)) := w_var h (by kernel_rfl)
theorem v_rounded_4 {fz : Str → Bool} (h : CxW Γ lo E X n_rounded (defScope s_rounded) fz) {pos : Pos} : PE X (.Name "top" pos) (tE Γ.g E k (eVar 4)) := w_var h (by kernel_rfl)
theorem v_rounded_5 {fz : Str → Bool} (h : CxW Γ lo E X n_rounded (defScope s_rounded) fz) {pos : Pos} : PE X (.Name "head" pos) (tE Γ.g E k (eVar 5)) := w_var h (by kernel_rfl)
theorem v_rounded_6 {fz : Str → Bool} (h : CxW Γ lo E X n_rounded (defScope s_rounded) fz) {pos : Pos} : PE X (.Name "goes_up" pos) (tE Γ.g E k (eVar 6)) := w_var h (by kernel_rfl)
theorem v_rounded_7 {fz : Str → Bool} (h : CxW Γ lo E X n_rounded (defScope s_rounded) fz) {pos : Pos} : PE X (.Name "bottom" pos) (tE Γ.g E k (eVar 7)) := w_var h (by kernel_rfl)
theorem v_rounded_8 {fz : Str → Bool} (h : CxW Γ lo E X n_rounded (defScope s_rounded) fz) {pos : Pos} : PE X (.Name "low" pos) (tE Γ.g E k (eVar 8)) := w_var h (by kernel_rfl)
theorem v_rounded_9 {fz : Str → Bool} (h : CxW Γ lo E X n_rounded (defScope s_rounded) fz) {pos : Pos} : PE X (.Name "is_just" pos) (tE Γ.g E k (eVar 9)) := w_var h (by kernel_rfl)
theorem s_rounded_7 : stB (defScope s_rounded) (fun _ => true) n_rounded 7 "bottom" = true := by kernel_rfl
theorem s_rounded_6 : stB (defScope s_rounded) (fun _ => true) n_rounded 6 "goes_up" = true := by kernel_rfl
theorem s_rounded_5 : stB (defScope s_rounded) (fun _ => true) n_rounded 5 "head" = true := by kernel_rfl
theorem s_rounded_9 : stB (defScope s_rounded) (fun _ => true) n_rounded 9 "is_just" = true := by kernel_rfl
theorem s_rounded_8 : stB (defScope s_rounded) (fun _ => true) n_rounded 8 "low" = true := by kernel_rfl
theorem s_rounded_3 : stB (defScope s_rounded) (fun _ => true) n_rounded 3 "sign" = true := by kernel_rfl
theorem s_rounded_4 : stB (defScope s_rounded) (fun _ => true) n_rounded 4 "top" = true := by kernel_rfl
theorem g_rounded_MachineError : glB (defScope s_rounded) "MachineError" = true := by kernel_rfl
theorem g_rounded_WAYS : glB (defScope s_rounded) "WAYS" = true := by kernel_rfl
theorem gb_rounded_abs : bltB (defScope s_rounded) "abs" = true := by kernel_rfl
theorem g_rounded_check_form : glB (defScope s_rounded) "check_form" = true := by kernel_rfl
theorem g_rounded_endless : glB (defScope s_rounded) "endless" = true := by kernel_rfl
theorem g_rounded_floor_code : glB (defScope s_rounded) "floor_code" = true := by kernel_rfl
theorem g_rounded_greatest : glB (defScope s_rounded) "greatest" = true := by kernel_rfl
theorem gb_rounded_int : bltB (defScope s_rounded) "int" = true := by kernel_rfl
theorem g_rounded_is_nearer_above : glB (defScope s_rounded) "is_nearer_above" = true := by kernel_rfl
theorem g_rounded_power_of : glB (defScope s_rounded) "power_of" = true := by kernel_rfl
theorem r_rounded (h : CxW Γ lo E X n_rounded (defScope s_rounded) (fun _ => true)) (T : Tx Γ lo k) : PSs X (defBody s_rounded) (tSS Γ.g E k c_rounded) := by
  unfold c_rounded
  exact (ss_cons (ss_expr (w_call h T.f_check_form g_rounded_check_form (sa_cons (v_rounded_0 h) sa_nil rfl) rfl rfl) rfl) (ss_cons (ss_if (st_cmp (opd_notin h.pK h.u65) (v_rounded_2 h) (w_gdat h g_rounded_WAYS T.c_WAYS) rfl bl_notin) (ss_cons (w_raise h T.err g_rounded_MachineError se_str rfl) ss_nil) ss_nil) (ss_cons (ss_asg (v_rounded_1 h) (sg_tup h.pK h.calm (sgs_cons (w_name (i := 4) h s_rounded_4) (sgs_cons (w_name (i := 7) h s_rounded_7) sgs_nil rfl) rfl) rfl rfl) (tok_tup (tsok_cons tok_name (tsok_cons tok_name tsok_nil))) rfl rfl rfl) (ss_cons (w_set (i := 3) h s_rounded_3 (w_int h (sa_cons (se_cmp (opd_lt) (v_rounded_4 h) se_int rfl) sa_nil rfl) rfl rfl gb_rounded_int T.b_int) rfl) (ss_cons (w_set (i := 4) h s_rounded_4 (w_abs h (sa_cons (v_rounded_4 h) sa_nil rfl) rfl rfl gb_rounded_abs T.b_abs) rfl) (ss_cons (ss_asg (w_call h T.f_floor_code g_rounded_floor_code (sa_cons (v_rounded_0 h) (sa_cons (v_rounded_4 h) (sa_cons (v_rounded_7 h) sa_nil rfl) rfl) rfl) rfl rfl) (sg_tup h.pK h.calm (sgs_cons (w_name (i := 8) h s_rounded_8) (sgs_cons (w_name (i := 9) h s_rounded_9) sgs_nil rfl) rfl) rfl rfl) (tok_tup (tsok_cons tok_name (tsok_cons tok_name tsok_nil))) rfl rfl rfl) (ss_cons (w_set (i := 5) h s_rounded_5 (se_op (opd_mul h.pK) (v_rounded_3 h) (w_call h T.f_power_of g_rounded_power_of (sa_cons (se_op (opd_add h.pK) (se_ix h.pK h.u65 (v_rounded_0 h) se_int (fun _ _ => rfl)) (se_ix h.pK h.u65 (v_rounded_0 h) se_int (fun _ _ => rfl))) sa_nil rfl) rfl rfl)) rfl) (ss_cons (ss_if (st_plain h.pK (v_rounded_9 h) (fun _ => rfl)) (ss_cons (ss_ret (se_op (opd_add h.pK) (v_rounded_5 h) (v_rounded_8 h))) ss_nil) ss_nil) (ss_cons (w_set (i := 6) h s_rounded_6 (se_or h.pK (se_and h.pK (se_cmp (opd_eq h.pK h.u64) (v_rounded_2 h) se_str rfl) (pe_one (se_cmp (opd_eq h.pK h.u64) (v_rounded_3 h) se_int rfl))) (pe_one (se_and h.pK (se_cmp (opd_eq h.pK h.u64) (v_rounded_2 h) se_str rfl) (pe_one (se_cmp (opd_eq h.pK h.u64) (v_rounded_3 h) se_int rfl))))) rfl) (ss_cons (ss_if (st_cmp (opd_eq h.pK h.u64) (v_rounded_2 h) se_str rfl bl_eq) (ss_cons (w_set (i := 6) h s_rounded_6 (w_call h T.f_is_nearer_above g_rounded_is_nearer_above (sa_cons (v_rounded_0 h) (sa_cons (v_rounded_8 h) (sa_cons (v_rounded_4 h) (sa_cons (v_rounded_7 h) sa_nil rfl) rfl) rfl) rfl) rfl rfl) rfl) ss_nil) ss_nil) (ss_cons (ss_if (st_not (st_plain h.pK (v_rounded_6 h) (fun _ => rfl))) (ss_cons (ss_ret (se_op (opd_add h.pK) (v_rounded_5 h) (v_rounded_8 h))) ss_nil) ss_nil) (ss_cons (ss_ret (se_if (st_cmp (opd_eq h.pK h.u64) (v_rounded_8 h) (w_call h T.f_greatest g_rounded_greatest (sa_cons (v_rounded_0 h) sa_nil rfl) rfl rfl) rfl bl_eq) (w_call h T.f_endless g_rounded_endless (sa_cons (v_rounded_0 h) (sa_cons (v_rounded_3 h) sa_nil rfl) rfl) rfl rfl) (se_op (opd_add h.pK) (se_op (opd_add h.pK) (v_rounded_5 h) (v_rounded_8 h)) se_int))) ss_nil))))))))))))
theorem v_is_nearer_above_0 {fz : Str → Bool} (h : CxW Γ lo E X n_is_nearer_above (defScope s_is_nearer_above) fz) {pos : Pos} : PE X (.Name "form" pos) (tE Γ.g E k (eVar 0)) := w_var h (by kernel_rfl)
theorem v_is_nearer_above_1 {fz : Str → Bool} (h : CxW Γ lo E X n_is_nearer_above (defScope s_is_nearer_above) fz) {pos : Pos} : PE X (.Name "low" pos) (tE Γ.g E k (eVar 1)) := w_var h (by kernel_rfl)
theorem v_is_nearer_above_2 {fz : Str → Bool} (h : CxW Γ lo E X n_is_nearer_above (defScope s_is_nearer_above) fz) {pos : Pos} : PE X (.Name "top" pos) (tE Γ.g E k (eVar 2)) := w_var h (by kernel_rfl)
theorem v_is_nearer_above_3 {fz : Str → Bool} (h : CxW Γ lo E X n_is_nearer_above (defScope s_is_nearer_above) fz) {pos : Pos} : PE X (.Name "bottom" pos) (tE Γ.g E k (eVar 3)) := w_var h (by kernel_rfl)
theorem v_is_nearer_above_4 {fz : Str → Bool} (h : CxW Γ lo E X n_is_nearer_above (defScope s_is_nearer_above) fz) {pos : Pos} : PE X (.Name "below" pos) (tE Γ.g E k (eVar 4)) := w_var h (by kernel_rfl)
theorem v_is_nearer_above_5 {fz : Str → Bool} (h : CxW Γ lo E X n_is_nearer_above (defScope s_is_nearer_above) fz) {pos : Pos} : PE X (.Name "step" pos) (tE Γ.g E k (eVar 5)) := w_var h (by kernel_rfl)
theorem v_is_nearer_above_6 {fz : Str → Bool} (h : CxW Γ lo E X n_is_nearer_above (defScope s_is_nearer_above) fz) {pos : Pos} : PE X (.Name "double" pos) (tE Γ.g E k (eVar 6)) := w_var h (by kernel_rfl)
theorem v_is_nearer_above_7 {fz : Str → Bool} (h : CxW Γ lo E X n_is_nearer_above (defScope s_is_nearer_above) fz) {pos : Pos} : PE X (.Name "whole" pos) (tE Γ.g E k (eVar 7)) := w_var h (by kernel_rfl)
theorem s_is_nearer_above_4 : stB (defScope s_is_nearer_above) (fun _ => true) n_is_nearer_above 4 "below" = true := by kernel_rfl
theorem s_is_nearer_above_6 : stB (defScope s_is_nearer_above) (fun _ => true) n_is_nearer_above 6 "double" = true := by kernel_rfl
theorem s_is_nearer_above_5 : stB (defScope s_is_nearer_above) (fun _ => true) n_is_nearer_above 5 "step" = true := by kernel_rfl
theorem s_is_nearer_above_7 : stB (defScope s_is_nearer_above) (fun _ => true) n_is_nearer_above 7 "whole" = true := by kernel_rfl
theorem g_is_nearer_above_below_step : glB (defScope s_is_nearer_above) "below_step" = true := by kernel_rfl
theorem g_is_nearer_above_value : glB (defScope s_is_nearer_above) "value" = true := by kernel_rfl
theorem r_is_nearer_above (h : CxW Γ lo E X n_is_nearer_above (defScope s_is_nearer_above) (fun _ => true)) (T : Tx Γ lo k) : PSs X (defBody s_is_nearer_above) (tSS Γ.g E k c_is_nearer_above) := by
  unfold c_is_nearer_above
  exact (ss_cons (w_set (i := 4) h s_is_nearer_above_4 (w_call h T.f_value g_is_nearer_above_value (sa_cons (v_is_nearer_above_0 h) (sa_cons (v_is_nearer_above_1 h) sa_nil rfl) rfl) rfl rfl) rfl) (ss_cons (w_set (i := 5) h s_is_nearer_above_5 (w_call h T.f_below_step g_is_nearer_above_below_step (sa_cons (v_is_nearer_above_0 h) (sa_cons (v_is_nearer_above_1 h) sa_nil rfl) rfl) rfl rfl) rfl) (ss_cons (w_set (i := 6) h s_is_nearer_above_6 (se_op (opd_mul h.pK) (se_op (opd_mul h.pK) se_int (se_op (opd_sub) (se_op (opd_mul h.pK) (v_is_nearer_above_2 h) (se_ix h.pK h.u65 (v_is_nearer_above_4 h) se_int (fun _ _ => rfl))) (se_op (opd_mul h.pK) (se_ix h.pK h.u65 (v_is_nearer_above_4 h) se_int (fun _ _ => rfl)) (v_is_nearer_above_3 h)))) (se_ix h.pK h.u65 (v_is_nearer_above_5 h) se_int (fun _ _ => rfl))) rfl) (ss_cons (w_set (i := 7) h s_is_nearer_above_7 (se_op (opd_mul h.pK) (se_op (opd_mul h.pK) (se_ix h.pK h.u65 (v_is_nearer_above_5 h) se_int (fun _ _ => rfl)) (v_is_nearer_above_3 h)) (se_ix h.pK h.u65 (v_is_nearer_above_4 h) se_int (fun _ _ => rfl))) rfl) (ss_cons (ss_ret (se_or h.pK (se_cmp (opd_gt) (v_is_nearer_above_6 h) (v_is_nearer_above_7 h) rfl) (pe_one (se_and h.pK (se_cmp (opd_eq h.pK h.u64) (v_is_nearer_above_6 h) (v_is_nearer_above_7 h) rfl) (pe_one (se_cmp (opd_eq h.pK h.u64) (se_op (opd_mod) (v_is_nearer_above_1 h) se_int) se_int rfl)))))) ss_nil)))))
theorem v_below_step_0 {fz : Str → Bool} (h : CxW Γ lo E X n_below_step (defScope s_below_step) fz) {pos : Pos} : PE X (.Name "form" pos) (tE Γ.g E k (eVar 0)) := w_var h (by kernel_rfl)
theorem v_below_step_1 {fz : Str → Bool} (h : CxW Γ lo E X n_below_step (defScope s_below_step) fz) {pos : Pos} : PE X (.Name "low" pos) (tE Γ.g E k (eVar 1)) := w_var h (by kernel_rfl)
theorem v_below_step_2 {fz : Str → Bool} (h : CxW Γ lo E X n_below_step (defScope s_below_step) fz) {pos : Pos} : PE X (.Name "power" pos) (tE Γ.g E k (eVar 2)) := w_var h (by kernel_rfl)
theorem v_below_step_4 {fz : Str → Bool} (h : CxW Γ lo E X n_below_step (defScope s_below_step) fz) {pos : Pos} : PE X (.Name "exponent" pos) (tE Γ.g E k (eVar 4)) := w_var h (by kernel_rfl)
theorem s_below_step_3 : stB (defScope s_below_step) (fun _ => true) n_below_step 3 "_" = true := by kernel_rfl
theorem s_below_step_4 : stB (defScope s_below_step) (fun _ => true) n_below_step 4 "exponent" = true := by kernel_rfl
theorem s_below_step_2 : stB (defScope s_below_step) (fun _ => true) n_below_step 2 "power" = true := by kernel_rfl
theorem g_below_step_least_power : glB (defScope s_below_step) "least_power" = true := by kernel_rfl
theorem gb_below_step_max : bltB (defScope s_below_step) "max" = true := by kernel_rfl
theorem g_below_step_parts : glB (defScope s_below_step) "parts" = true := by kernel_rfl
theorem g_below_step_power_of : glB (defScope s_below_step) "power_of" = true := by kernel_rfl
theorem r_below_step (h : CxW Γ lo E X n_below_step (defScope s_below_step) (fun _ => true)) (T : Tx Γ lo k) : PSs X (defBody s_below_step) (tSS Γ.g E k c_below_step) := by
  unfold c_below_step
  exact (ss_cons (ss_asg (w_call h T.f_parts g_below_step_parts (sa_cons (v_below_step_0 h) (sa_cons (v_below_step_1 h) sa_nil rfl) rfl) rfl rfl) (sg_tup h.pK h.calm (sgs_cons (w_name (i := 3) h s_below_step_3) (sgs_cons (w_name (i := 4) h s_below_step_4) (sgs_cons (w_name (i := 3) h s_below_step_3) sgs_nil rfl) rfl) rfl) rfl rfl) (tok_tup (tsok_cons tok_name (tsok_cons tok_name (tsok_cons tok_name tsok_nil)))) rfl rfl rfl) (ss_cons (w_set (i := 2) h s_below_step_2 (se_op (opd_add h.pK) (w_call h T.f_least_power g_below_step_least_power (sa_cons (v_below_step_0 h) sa_nil rfl) rfl rfl) (w_max h (sa_cons (se_op (opd_sub) (v_below_step_4 h) se_int) (sa_cons se_int sa_nil rfl) rfl) rfl rfl gb_below_step_max T.b_max)) rfl) (ss_cons (ss_ret (se_if (st_cmp (opd_ge) (v_below_step_2 h) se_int rfl bl_ge) (se_tup (sa_cons (w_call h T.f_power_of g_below_step_power_of (sa_cons (v_below_step_2 h) sa_nil rfl) rfl rfl) (sa_cons se_int sa_nil rfl) rfl)) (se_tup (sa_cons se_int (sa_cons (w_call h T.f_power_of g_below_step_power_of (sa_cons (se_op (opd_sub) se_int (v_below_step_2 h)) sa_nil rfl) rfl rfl) sa_nil rfl) rfl)))) ss_nil)))
theorem v_signed_nought_0 {fz : Str → Bool} (h : CxW Γ lo E X n_signed_nought (defScope s_signed_nought) fz) {pos : Pos} : PE X (.Name "form" pos) (tE Γ.g E k (eVar 0)) := w_var h (by kernel_rfl)
theorem v_signed_nought_1 {fz : Str → Bool} (h : CxW Γ lo E X n_signed_nought (defScope s_signed_nought) fz) {pos : Pos} : PE X (.Name "sign" pos) (tE Γ.g E k (eVar 1)) := w_var h (by kernel_rfl)
theorem g_signed_nought_power_of : glB (defScope s_signed_nought) "power_of" = true := by kernel_rfl
theorem r_signed_nought (h : CxW Γ lo E X n_signed_nought (defScope s_signed_nought) (fun _ => true)) (T : Tx Γ lo k) : PSs X (defBody s_signed_nought) (tSS Γ.g E k c_signed_nought) := by
  unfold c_signed_nought
  exact (ss_cons (ss_ret (se_op (opd_mul h.pK) (v_signed_nought_1 h) (w_call h T.f_power_of g_signed_nought_power_of (sa_cons (se_op (opd_add h.pK) (se_ix h.pK h.u65 (v_signed_nought_0 h) se_int (fun _ _ => rfl)) (se_ix h.pK h.u65 (v_signed_nought_0 h) se_int (fun _ _ => rfl))) sa_nil rfl) rfl rfl))) ss_nil)
theorem v_add_0 {fz : Str → Bool} (h : CxW Γ lo E X n_add (defScope s_add) fz) {pos : Pos} : PE X (.Name "form" pos) (tE Γ.g E k (eVar 0)) := w_var h (by kernel_rfl)
theorem v_add_1 {fz : Str → Bool} (h : CxW Γ lo E X n_add (defScope s_add) fz) {pos : Pos} : PE X (.Name "one" pos) (tE Γ.g E k (eVar 1)) := w_var h (by kernel_rfl)
theorem v_add_2 {fz : Str → Bool} (h : CxW Γ lo E X n_add (defScope s_add) fz) {pos : Pos} : PE X (.Name "other" pos) (tE Γ.g E k (eVar 2)) := w_var h (by kernel_rfl)
theorem v_add_3 {fz : Str → Bool} (h : CxW Γ lo E X n_add (defScope s_add) fz) {pos : Pos} : PE X (.Name "way" pos) (tE Γ.g E k (eVar 3)) := w_var h (by kernel_rfl)
theorem v_add_4 {fz : Str → Bool} (h : CxW Γ lo E X n_add (defScope s_add) fz) {pos : Pos} : PE X (.Name "top" pos) (tE Γ.g E k (eVar 4)) := w_var h (by kernel_rfl)
theorem v_add_5 {fz : Str → Bool} (h : CxW Γ lo E X n_add (defScope s_add) fz) {pos : Pos} : PE X (.Name "left" pos) (tE Γ.g E k (eVar 5)) := w_var h (by kernel_rfl)
theorem v_add_6 {fz : Str → Bool} (h : CxW Γ lo E X n_add (defScope s_add) fz) {pos : Pos} : PE X (.Name "right" pos) (tE Γ.g E k (eVar 6)) := w_var h (by kernel_rfl)
theorem v_add_7 {fz : Str → Bool} (h : CxW Γ lo E X n_add (defScope s_add) fz) {pos : Pos} : PE X (.Name "signs" pos) (tE Γ.g E k (eVar 7)) := w_var h (by kernel_rfl)
theorem v_add_8 {fz : Str → Bool} (h : CxW Γ lo E X n_add (defScope s_add) fz) {pos : Pos} : PE X (.Name "sign" pos) (tE Γ.g E k (eVar 8)) := w_var h (by kernel_rfl)
theorem s_add_8 : stB (defScope s_add) (fun _ => true) n_add 8 "sign" = true := by kernel_rfl
theorem s_add_7 : stB (defScope s_add) (fun _ => true) n_add 7 "signs" = true := by kernel_rfl
theorem s_add_4 : stB (defScope s_add) (fun _ => true) n_add 4 "top" = true := by kernel_rfl
theorem g_add_MachineError : glB (defScope s_add) "MachineError" = true := by kernel_rfl
theorem g_add_WAYS : glB (defScope s_add) "WAYS" = true := by kernel_rfl
theorem g_add_check_code : glB (defScope s_add) "check_code" = true := by kernel_rfl
theorem gb_add_int : bltB (defScope s_add) "int" = true := by kernel_rfl
theorem g_add_kind : glB (defScope s_add) "kind" = true := by kernel_rfl
theorem g_add_nothing : glB (defScope s_add) "nothing" = true := by kernel_rfl
theorem g_add_parts : glB (defScope s_add) "parts" = true := by kernel_rfl
theorem g_add_reduced : glB (defScope s_add) "reduced" = true := by kernel_rfl
theorem g_add_rounded : glB (defScope s_add) "rounded" = true := by kernel_rfl
theorem g_add_signed_nought : glB (defScope s_add) "signed_nought" = true := by kernel_rfl
theorem g_add_value : glB (defScope s_add) "value" = true := by kernel_rfl
theorem r_add (h : CxW Γ lo E X n_add (defScope s_add) (fun _ => true)) (T : Tx Γ lo k) : PSs X (defBody s_add) (tSS Γ.g E k c_add) := by
  unfold c_add
  exact (ss_cons (ss_expr (w_call h T.f_check_code g_add_check_code (sa_cons (v_add_0 h) (sa_cons (v_add_1 h) sa_nil rfl) rfl) rfl rfl) rfl) (ss_cons (ss_expr (w_call h T.f_check_code g_add_check_code (sa_cons (v_add_0 h) (sa_cons (v_add_2 h) sa_nil rfl) rfl) rfl rfl) rfl) (ss_cons (ss_if (st_cmp (opd_notin h.pK h.u65) (v_add_3 h) (w_gdat h g_add_WAYS T.c_WAYS) rfl bl_notin) (ss_cons (w_raise h T.err g_add_MachineError se_str rfl) ss_nil) ss_nil) (ss_cons (ss_if (st_cmp (opd_in h.pK h.u65) se_str (se_tup (sa_cons (w_call h T.f_kind g_add_kind (sa_cons (v_add_0 h) (sa_cons (v_add_1 h) sa_nil rfl) rfl) rfl rfl) (sa_cons (w_call h T.f_kind g_add_kind (sa_cons (v_add_0 h) (sa_cons (v_add_2 h) sa_nil rfl) rfl) rfl rfl) sa_nil rfl) rfl)) rfl bl_in) (ss_cons (ss_ret (w_call h T.f_nothing g_add_nothing (sa_cons (v_add_0 h) sa_nil rfl) rfl rfl)) ss_nil) ss_nil) (ss_cons (ss_if (sw_or (st_cmp (opd_eq h.pK h.u64) (w_call h T.f_kind g_add_kind (sa_cons (v_add_0 h) (sa_cons (v_add_1 h) sa_nil rfl) rfl) rfl rfl) se_str rfl bl_eq) (sw_or1 (st_cmp (opd_eq h.pK h.u64) (w_call h T.f_kind g_add_kind (sa_cons (v_add_0 h) (sa_cons (v_add_2 h) sa_nil rfl) rfl) rfl rfl) se_str rfl bl_eq))).pt (ss_cons (ss_if (sw_and (st_cmp (opd_eq h.pK h.u64) (w_call h T.f_kind g_add_kind (sa_cons (v_add_0 h) (sa_cons (v_add_1 h) sa_nil rfl) rfl) rfl rfl) (w_call h T.f_kind g_add_kind (sa_cons (v_add_0 h) (sa_cons (v_add_2 h) sa_nil rfl) rfl) rfl rfl) rfl bl_eq) (sw_and1 (st_cmp (opd_ne h.pK h.u64) (v_add_1 h) (v_add_2 h) rfl bl_ne))).pt (ss_cons (ss_ret (w_call h T.f_nothing g_add_nothing (sa_cons (v_add_0 h) sa_nil rfl) rfl rfl)) ss_nil) ss_nil) (ss_cons (ss_ret (se_if (st_cmp (opd_eq h.pK h.u64) (w_call h T.f_kind g_add_kind (sa_cons (v_add_0 h) (sa_cons (v_add_1 h) sa_nil rfl) rfl) rfl rfl) se_str rfl bl_eq) (v_add_1 h) (v_add_2 h))) ss_nil)) ss_nil) (ss_cons (w_par (i := 5) (j := 6) h (by kernel_rfl) (sa_cons (w_call h T.f_value g_add_value (sa_cons (v_add_0 h) (sa_cons (v_add_1 h) sa_nil rfl) rfl) rfl rfl) (sa_cons (w_call h T.f_value g_add_value (sa_cons (v_add_0 h) (sa_cons (v_add_2 h) sa_nil rfl) rfl) rfl rfl) sa_nil rfl) rfl) (by kernel_rfl) rfl) (ss_cons (w_set (i := 4) h s_add_4 (se_op (opd_add h.pK) (se_op (opd_mul h.pK) (se_ix h.pK h.u65 (v_add_5 h) se_int (fun _ _ => rfl)) (se_ix h.pK h.u65 (v_add_6 h) se_int (fun _ _ => rfl))) (se_op (opd_mul h.pK) (se_ix h.pK h.u65 (v_add_6 h) se_int (fun _ _ => rfl)) (se_ix h.pK h.u65 (v_add_5 h) se_int (fun _ _ => rfl)))) rfl) (ss_cons (ss_if (st_cmp (opd_eq h.pK h.u64) (v_add_4 h) se_int rfl bl_eq) (ss_cons (w_set (i := 7) h s_add_7 (se_tup (sa_cons (se_ix h.pK h.u65 (w_call h T.f_parts g_add_parts (sa_cons (v_add_0 h) (sa_cons (v_add_1 h) sa_nil rfl) rfl) rfl rfl) se_int (fun _ _ => rfl)) (sa_cons (se_ix h.pK h.u65 (w_call h T.f_parts g_add_parts (sa_cons (v_add_0 h) (sa_cons (v_add_2 h) sa_nil rfl) rfl) rfl rfl) se_int (fun _ _ => rfl)) sa_nil rfl) rfl)) rfl) (ss_cons (w_set (i := 8) h s_add_8 (se_if (st_cmp (opd_eq h.pK h.u64) (se_ix h.pK h.u65 (v_add_7 h) se_int (fun _ _ => rfl)) (se_ix h.pK h.u65 (v_add_7 h) se_int (fun _ _ => rfl)) rfl bl_eq) (se_ix h.pK h.u65 (v_add_7 h) se_int (fun _ _ => rfl)) (w_int h (sa_cons (se_cmp (opd_eq h.pK h.u64) (v_add_3 h) se_str rfl) sa_nil rfl) rfl rfl gb_add_int T.b_int)) rfl) (ss_cons (ss_ret (w_call h T.f_signed_nought g_add_signed_nought (sa_cons (v_add_0 h) (sa_cons (v_add_8 h) sa_nil rfl) rfl) rfl rfl)) ss_nil))) ss_nil) (ss_cons (ss_ret (w_call h T.f_rounded g_add_rounded (sa_cons (v_add_0 h) (sa_cons (w_call h T.f_reduced g_add_reduced (sa_cons (v_add_4 h) (sa_cons (se_op (opd_mul h.pK) (se_ix h.pK h.u65 (v_add_5 h) se_int (fun _ _ => rfl)) (se_ix h.pK h.u65 (v_add_6 h) se_int (fun _ _ => rfl))) sa_nil rfl) rfl) rfl rfl) (sa_cons (v_add_3 h) sa_nil rfl) rfl) rfl) rfl rfl)) ss_nil)))))))))
theorem v_turned_0 {fz : Str → Bool} (h : CxW Γ lo E X n_turned (defScope s_turned) fz) {pos : Pos} : PE X (.Name "form" pos) (tE Γ.g E k (eVar 0)) := w_var h (by kernel_rfl)
theorem v_turned_1 {fz : Str → Bool} (h : CxW Γ lo E X n_turned (defScope s_turned) fz) {pos : Pos} : PE X (.Name "one" pos) (tE Γ.g E k (eVar 1)) := w_var h (by kernel_rfl)
theorem v_turned_2 {fz : Str → Bool} (h : CxW Γ lo E X n_turned (defScope s_turned) fz) {pos : Pos} : PE X (.Name "half" pos) (tE Γ.g E k (eVar 2)) := w_var h (by kernel_rfl)
theorem s_turned_2 : stB (defScope s_turned) (fun _ => true) n_turned 2 "half" = true := by kernel_rfl
theorem g_turned_check_code : glB (defScope s_turned) "check_code" = true := by kernel_rfl
theorem g_turned_power_of : glB (defScope s_turned) "power_of" = true := by kernel_rfl
theorem r_turned (h : CxW Γ lo E X n_turned (defScope s_turned) (fun _ => true)) (T : Tx Γ lo k) : PSs X (defBody s_turned) (tSS Γ.g E k c_turned) := by
  unfold c_turned
  exact (ss_cons (ss_expr (w_call h T.f_check_code g_turned_check_code (sa_cons (v_turned_0 h) (sa_cons (v_turned_1 h) sa_nil rfl) rfl) rfl rfl) rfl) (ss_cons (w_set (i := 2) h s_turned_2 (w_call h T.f_power_of g_turned_power_of (sa_cons (se_op (opd_add h.pK) (se_ix h.pK h.u65 (v_turned_0 h) se_int (fun _ _ => rfl)) (se_ix h.pK h.u65 (v_turned_0 h) se_int (fun _ _ => rfl))) sa_nil rfl) rfl rfl) rfl) (ss_cons (ss_ret (se_if (st_cmp (opd_ge) (v_turned_1 h) (v_turned_2 h) rfl bl_ge) (se_op (opd_sub) (v_turned_1 h) (v_turned_2 h)) (se_op (opd_add h.pK) (v_turned_1 h) (v_turned_2 h)))) ss_nil)))
theorem v_multiply_0 {fz : Str → Bool} (h : CxW Γ lo E X n_multiply (defScope s_multiply) fz) {pos : Pos} : PE X (.Name "form" pos) (tE Γ.g E k (eVar 0)) := w_var h (by kernel_rfl)
theorem v_multiply_1 {fz : Str → Bool} (h : CxW Γ lo E X n_multiply (defScope s_multiply) fz) {pos : Pos} : PE X (.Name "one" pos) (tE Γ.g E k (eVar 1)) := w_var h (by kernel_rfl)
theorem v_multiply_2 {fz : Str → Bool} (h : CxW Γ lo E X n_multiply (defScope s_multiply) fz) {pos : Pos} : PE X (.Name "other" pos) (tE Γ.g E k (eVar 2)) := w_var h (by kernel_rfl)
theorem v_multiply_3 {fz : Str → Bool} (h : CxW Γ lo E X n_multiply (defScope s_multiply) fz) {pos : Pos} : PE X (.Name "way" pos) (tE Γ.g E k (eVar 3)) := w_var h (by kernel_rfl)
theorem v_multiply_4 {fz : Str → Bool} (h : CxW Γ lo E X n_multiply (defScope s_multiply) fz) {pos : Pos} : PE X (.Name "kinds" pos) (tE Γ.g E k (eVar 4)) := w_var h (by kernel_rfl)
theorem v_multiply_5 {fz : Str → Bool} (h : CxW Γ lo E X n_multiply (defScope s_multiply) fz) {pos : Pos} : PE X (.Name "sign" pos) (tE Γ.g E k (eVar 5)) := w_var h (by kernel_rfl)
theorem v_multiply_6 {fz : Str → Bool} (h : CxW Γ lo E X n_multiply (defScope s_multiply) fz) {pos : Pos} : PE X (.Name "left" pos) (tE Γ.g E k (eVar 6)) := w_var h (by kernel_rfl)
theorem v_multiply_7 {fz : Str → Bool} (h : CxW Γ lo E X n_multiply (defScope s_multiply) fz) {pos : Pos} : PE X (.Name "right" pos) (tE Γ.g E k (eVar 7)) := w_var h (by kernel_rfl)
theorem s_multiply_4 : stB (defScope s_multiply) (fun _ => true) n_multiply 4 "kinds" = true := by kernel_rfl
theorem s_multiply_5 : stB (defScope s_multiply) (fun _ => true) n_multiply 5 "sign" = true := by kernel_rfl
theorem g_multiply_MachineError : glB (defScope s_multiply) "MachineError" = true := by kernel_rfl
theorem g_multiply_WAYS : glB (defScope s_multiply) "WAYS" = true := by kernel_rfl
theorem g_multiply_check_code : glB (defScope s_multiply) "check_code" = true := by kernel_rfl
theorem g_multiply_endless : glB (defScope s_multiply) "endless" = true := by kernel_rfl
theorem g_multiply_kind : glB (defScope s_multiply) "kind" = true := by kernel_rfl
theorem g_multiply_nothing : glB (defScope s_multiply) "nothing" = true := by kernel_rfl
theorem g_multiply_parts : glB (defScope s_multiply) "parts" = true := by kernel_rfl
theorem g_multiply_reduced : glB (defScope s_multiply) "reduced" = true := by kernel_rfl
theorem g_multiply_rounded : glB (defScope s_multiply) "rounded" = true := by kernel_rfl
theorem g_multiply_signed_nought : glB (defScope s_multiply) "signed_nought" = true := by kernel_rfl
theorem g_multiply_value : glB (defScope s_multiply) "value" = true := by kernel_rfl
theorem r_multiply (h : CxW Γ lo E X n_multiply (defScope s_multiply) (fun _ => true)) (T : Tx Γ lo k) : PSs X (defBody s_multiply) (tSS Γ.g E k c_multiply) := by
  unfold c_multiply
  exact (ss_cons (ss_expr (w_call h T.f_check_code g_multiply_check_code (sa_cons (v_multiply_0 h) (sa_cons (v_multiply_1 h) sa_nil rfl) rfl) rfl rfl) rfl) (ss_cons (ss_expr (w_call h T.f_check_code g_multiply_check_code (sa_cons (v_multiply_0 h) (sa_cons (v_multiply_2 h) sa_nil rfl) rfl) rfl rfl) rfl) (ss_cons (ss_if (st_cmp (opd_notin h.pK h.u65) (v_multiply_3 h) (w_gdat h g_multiply_WAYS T.c_WAYS) rfl bl_notin) (ss_cons (w_raise h T.err g_multiply_MachineError se_str rfl) ss_nil) ss_nil) (ss_cons (w_set (i := 4) h s_multiply_4 (se_tup (sa_cons (w_call h T.f_kind g_multiply_kind (sa_cons (v_multiply_0 h) (sa_cons (v_multiply_1 h) sa_nil rfl) rfl) rfl rfl) (sa_cons (w_call h T.f_kind g_multiply_kind (sa_cons (v_multiply_0 h) (sa_cons (v_multiply_2 h) sa_nil rfl) rfl) rfl rfl) sa_nil rfl) rfl)) rfl) (ss_cons (w_set (i := 5) h s_multiply_5 (se_op (opd_xor) (se_ix h.pK h.u65 (w_call h T.f_parts g_multiply_parts (sa_cons (v_multiply_0 h) (sa_cons (v_multiply_1 h) sa_nil rfl) rfl) rfl rfl) se_int (fun _ _ => rfl)) (se_ix h.pK h.u65 (w_call h T.f_parts g_multiply_parts (sa_cons (v_multiply_0 h) (sa_cons (v_multiply_2 h) sa_nil rfl) rfl) rfl rfl) se_int (fun _ _ => rfl))) rfl) (ss_cons (ss_if (sw_or (st_cmp (opd_in h.pK h.u65) se_str (v_multiply_4 h) rfl bl_in) (sw_or1 (sw_and (st_cmp (opd_in h.pK h.u65) se_str (v_multiply_4 h) rfl bl_in) (sw_and1 (st_cmp (opd_in h.pK h.u65) se_str (v_multiply_4 h) rfl bl_in))).pt)).pt (ss_cons (ss_ret (w_call h T.f_nothing g_multiply_nothing (sa_cons (v_multiply_0 h) sa_nil rfl) rfl rfl)) ss_nil) ss_nil) (ss_cons (ss_if (st_cmp (opd_in h.pK h.u65) se_str (v_multiply_4 h) rfl bl_in) (ss_cons (ss_ret (w_call h T.f_endless g_multiply_endless (sa_cons (v_multiply_0 h) (sa_cons (v_multiply_5 h) sa_nil rfl) rfl) rfl rfl)) ss_nil) ss_nil) (ss_cons (ss_if (st_cmp (opd_in h.pK h.u65) se_str (v_multiply_4 h) rfl bl_in) (ss_cons (ss_ret (w_call h T.f_signed_nought g_multiply_signed_nought (sa_cons (v_multiply_0 h) (sa_cons (v_multiply_5 h) sa_nil rfl) rfl) rfl rfl)) ss_nil) ss_nil) (ss_cons (w_par (i := 6) (j := 7) h (by kernel_rfl) (sa_cons (w_call h T.f_value g_multiply_value (sa_cons (v_multiply_0 h) (sa_cons (v_multiply_1 h) sa_nil rfl) rfl) rfl rfl) (sa_cons (w_call h T.f_value g_multiply_value (sa_cons (v_multiply_0 h) (sa_cons (v_multiply_2 h) sa_nil rfl) rfl) rfl rfl) sa_nil rfl) rfl) (by kernel_rfl) rfl) (ss_cons (ss_ret (w_call h T.f_rounded g_multiply_rounded (sa_cons (v_multiply_0 h) (sa_cons (w_call h T.f_reduced g_multiply_reduced (sa_cons (se_op (opd_mul h.pK) (se_ix h.pK h.u65 (v_multiply_6 h) se_int (fun _ _ => rfl)) (se_ix h.pK h.u65 (v_multiply_7 h) se_int (fun _ _ => rfl))) (sa_cons (se_op (opd_mul h.pK) (se_ix h.pK h.u65 (v_multiply_6 h) se_int (fun _ _ => rfl)) (se_ix h.pK h.u65 (v_multiply_7 h) se_int (fun _ _ => rfl))) sa_nil rfl) rfl) rfl rfl) (sa_cons (v_multiply_3 h) sa_nil rfl) rfl) rfl) rfl rfl)) ss_nil))))))))))
theorem v_divide_0 {fz : Str → Bool} (h : CxW Γ lo E X n_divide (defScope s_divide) fz) {pos : Pos} : PE X (.Name "form" pos) (tE Γ.g E k (eVar 0)) := w_var h (by kernel_rfl)
theorem v_divide_1 {fz : Str → Bool} (h : CxW Γ lo E X n_divide (defScope s_divide) fz) {pos : Pos} : PE X (.Name "one" pos) (tE Γ.g E k (eVar 1)) := w_var h (by kernel_rfl)
theorem v_divide_2 {fz : Str → Bool} (h : CxW Γ lo E X n_divide (defScope s_divide) fz) {pos : Pos} : PE X (.Name "other" pos) (tE Γ.g E k (eVar 2)) := w_var h (by kernel_rfl)
theorem v_divide_3 {fz : Str → Bool} (h : CxW Γ lo E X n_divide (defScope s_divide) fz) {pos : Pos} : PE X (.Name "way" pos) (tE Γ.g E k (eVar 3)) := w_var h (by kernel_rfl)
theorem v_divide_4 {fz : Str → Bool} (h : CxW Γ lo E X n_divide (defScope s_divide) fz) {pos : Pos} : PE X (.Name "kinds" pos) (tE Γ.g E k (eVar 4)) := w_var h (by kernel_rfl)
theorem v_divide_5 {fz : Str → Bool} (h : CxW Γ lo E X n_divide (defScope s_divide) fz) {pos : Pos} : PE X (.Name "sign" pos) (tE Γ.g E k (eVar 5)) := w_var h (by kernel_rfl)
theorem v_divide_6 {fz : Str → Bool} (h : CxW Γ lo E X n_divide (defScope s_divide) fz) {pos : Pos} : PE X (.Name "left" pos) (tE Γ.g E k (eVar 6)) := w_var h (by kernel_rfl)
theorem v_divide_7 {fz : Str → Bool} (h : CxW Γ lo E X n_divide (defScope s_divide) fz) {pos : Pos} : PE X (.Name "right" pos) (tE Γ.g E k (eVar 7)) := w_var h (by kernel_rfl)
theorem v_divide_8 {fz : Str → Bool} (h : CxW Γ lo E X n_divide (defScope s_divide) fz) {pos : Pos} : PE X (.Name "top" pos) (tE Γ.g E k (eVar 8)) := w_var h (by kernel_rfl)
theorem v_divide_9 {fz : Str → Bool} (h : CxW Γ lo E X n_divide (defScope s_divide) fz) {pos : Pos} : PE X (.Name "bottom" pos) (tE Γ.g E k (eVar 9)) := w_var h (by kernel_rfl)
theorem s_divide_4 : stB (defScope s_divide) (fun _ => true) n_divide 4 "kinds" = true := by kernel_rfl
theorem s_divide_5 : stB (defScope s_divide) (fun _ => true) n_divide 5 "sign" = true := by kernel_rfl
theorem g_divide_MachineError : glB (defScope s_divide) "MachineError" = true := by kernel_rfl
theorem g_divide_WAYS : glB (defScope s_divide) "WAYS" = true := by kernel_rfl
theorem g_divide_check_code : glB (defScope s_divide) "check_code" = true := by kernel_rfl
theorem g_divide_endless : glB (defScope s_divide) "endless" = true := by kernel_rfl
theorem g_divide_kind : glB (defScope s_divide) "kind" = true := by kernel_rfl
theorem g_divide_nothing : glB (defScope s_divide) "nothing" = true := by kernel_rfl
theorem g_divide_parts : glB (defScope s_divide) "parts" = true := by kernel_rfl
theorem g_divide_reduced : glB (defScope s_divide) "reduced" = true := by kernel_rfl
theorem g_divide_rounded : glB (defScope s_divide) "rounded" = true := by kernel_rfl
theorem g_divide_signed_nought : glB (defScope s_divide) "signed_nought" = true := by kernel_rfl
theorem g_divide_value : glB (defScope s_divide) "value" = true := by kernel_rfl
theorem r_divide (h : CxW Γ lo E X n_divide (defScope s_divide) (fun _ => true)) (T : Tx Γ lo k) : PSs X (defBody s_divide) (tSS Γ.g E k c_divide) := by
  unfold c_divide
  exact (ss_cons (ss_expr (w_call h T.f_check_code g_divide_check_code (sa_cons (v_divide_0 h) (sa_cons (v_divide_1 h) sa_nil rfl) rfl) rfl rfl) rfl) (ss_cons (ss_expr (w_call h T.f_check_code g_divide_check_code (sa_cons (v_divide_0 h) (sa_cons (v_divide_2 h) sa_nil rfl) rfl) rfl rfl) rfl) (ss_cons (ss_if (st_cmp (opd_notin h.pK h.u65) (v_divide_3 h) (w_gdat h g_divide_WAYS T.c_WAYS) rfl bl_notin) (ss_cons (w_raise h T.err g_divide_MachineError se_str rfl) ss_nil) ss_nil) (ss_cons (w_set (i := 4) h s_divide_4 (se_tup (sa_cons (w_call h T.f_kind g_divide_kind (sa_cons (v_divide_0 h) (sa_cons (v_divide_1 h) sa_nil rfl) rfl) rfl rfl) (sa_cons (w_call h T.f_kind g_divide_kind (sa_cons (v_divide_0 h) (sa_cons (v_divide_2 h) sa_nil rfl) rfl) rfl rfl) sa_nil rfl) rfl)) rfl) (ss_cons (w_set (i := 5) h s_divide_5 (se_op (opd_xor) (se_ix h.pK h.u65 (w_call h T.f_parts g_divide_parts (sa_cons (v_divide_0 h) (sa_cons (v_divide_1 h) sa_nil rfl) rfl) rfl rfl) se_int (fun _ _ => rfl)) (se_ix h.pK h.u65 (w_call h T.f_parts g_divide_parts (sa_cons (v_divide_0 h) (sa_cons (v_divide_2 h) sa_nil rfl) rfl) rfl rfl) se_int (fun _ _ => rfl))) rfl) (ss_cons (ss_if (sw_or (st_cmp (opd_in h.pK h.u65) se_str (v_divide_4 h) rfl bl_in) (sw_or1 (st_cmp (opd_in h.pK h.u65) (v_divide_4 h) (se_tup (sa_cons (se_tup (sa_cons se_str (sa_cons se_str sa_nil rfl) rfl)) (sa_cons (se_tup (sa_cons se_str (sa_cons se_str sa_nil rfl) rfl)) sa_nil rfl) rfl)) rfl bl_in))).pt (ss_cons (ss_ret (w_call h T.f_nothing g_divide_nothing (sa_cons (v_divide_0 h) sa_nil rfl) rfl rfl)) ss_nil) ss_nil) (ss_cons (ss_if (sw_or (st_cmp (opd_eq h.pK h.u64) (se_ix h.pK h.u65 (v_divide_4 h) se_int (fun _ _ => rfl)) se_str rfl bl_eq) (sw_or1 (st_cmp (opd_eq h.pK h.u64) (se_ix h.pK h.u65 (v_divide_4 h) se_int (fun _ _ => rfl)) se_str rfl bl_eq))).pt (ss_cons (ss_ret (w_call h T.f_endless g_divide_endless (sa_cons (v_divide_0 h) (sa_cons (v_divide_5 h) sa_nil rfl) rfl) rfl rfl)) ss_nil) ss_nil) (ss_cons (ss_if (sw_or (st_cmp (opd_eq h.pK h.u64) (se_ix h.pK h.u65 (v_divide_4 h) se_int (fun _ _ => rfl)) se_str rfl bl_eq) (sw_or1 (st_cmp (opd_eq h.pK h.u64) (se_ix h.pK h.u65 (v_divide_4 h) se_int (fun _ _ => rfl)) se_str rfl bl_eq))).pt (ss_cons (ss_ret (w_call h T.f_signed_nought g_divide_signed_nought (sa_cons (v_divide_0 h) (sa_cons (v_divide_5 h) sa_nil rfl) rfl) rfl rfl)) ss_nil) ss_nil) (ss_cons (w_par (i := 6) (j := 7) h (by kernel_rfl) (sa_cons (w_call h T.f_value g_divide_value (sa_cons (v_divide_0 h) (sa_cons (v_divide_1 h) sa_nil rfl) rfl) rfl rfl) (sa_cons (w_call h T.f_value g_divide_value (sa_cons (v_divide_0 h) (sa_cons (v_divide_2 h) sa_nil rfl) rfl) rfl rfl) sa_nil rfl) rfl) (by kernel_rfl) rfl) (ss_cons (w_par (i := 8) (j := 9) h (by kernel_rfl) (sa_cons (se_op (opd_mul h.pK) (se_ix h.pK h.u65 (v_divide_6 h) se_int (fun _ _ => rfl)) (se_ix h.pK h.u65 (v_divide_7 h) se_int (fun _ _ => rfl))) (sa_cons (se_op (opd_mul h.pK) (se_ix h.pK h.u65 (v_divide_6 h) se_int (fun _ _ => rfl)) (se_ix h.pK h.u65 (v_divide_7 h) se_int (fun _ _ => rfl))) sa_nil rfl) rfl) (by kernel_rfl) rfl) (ss_cons (ss_ret (w_call h T.f_rounded g_divide_rounded (sa_cons (v_divide_0 h) (sa_cons (se_if (st_cmp (opd_lt) (v_divide_9 h) se_int rfl bl_lt) (w_call h T.f_reduced g_divide_reduced (sa_cons (se_op (opd_sub) se_int (v_divide_8 h)) (sa_cons (se_op (opd_sub) se_int (v_divide_9 h)) sa_nil rfl) rfl) rfl rfl) (w_call h T.f_reduced g_divide_reduced (sa_cons (v_divide_8 h) (sa_cons (v_divide_9 h) sa_nil rfl) rfl) rfl rfl)) (sa_cons (v_divide_3 h) sa_nil rfl) rfl) rfl) rfl rfl)) ss_nil)))))))))))
theorem v_less_0 {fz : Str → Bool} (h : CxW Γ lo E X n_less (defScope s_less) fz) {pos : Pos} : PE X (.Name "form" pos) (tE Γ.g E k (eVar 0)) := w_var h (by kernel_rfl)
theorem v_less_1 {fz : Str → Bool} (h : CxW Γ lo E X n_less (defScope s_less) fz) {pos : Pos} : PE X (.Name "one" pos) (tE Γ.g E k (eVar 1)) := w_var h (by kernel_rfl)
theorem v_less_2 {fz : Str → Bool} (h : CxW Γ lo E X n_less (defScope s_less) fz) {pos : Pos} : PE X (.Name "other" pos) (tE Γ.g E k (eVar 2)) := w_var h (by kernel_rfl)
theorem g_less_check_code : glB (defScope s_less) "check_code" = true := by kernel_rfl
theorem g_less_kind : glB (defScope s_less) "kind" = true := by kernel_rfl
theorem g_less_place_of : glB (defScope s_less) "place_of" = true := by kernel_rfl
theorem r_less (h : CxW Γ lo E X n_less (defScope s_less) (fun _ => true)) (T : Tx Γ lo k) : PSs X (defBody s_less) (tSS Γ.g E k c_less) := by
  unfold c_less
  exact (ss_cons (ss_expr (w_call h T.f_check_code g_less_check_code (sa_cons (v_less_0 h) (sa_cons (v_less_1 h) sa_nil rfl) rfl) rfl rfl) rfl) (ss_cons (ss_expr (w_call h T.f_check_code g_less_check_code (sa_cons (v_less_0 h) (sa_cons (v_less_2 h) sa_nil rfl) rfl) rfl rfl) rfl) (ss_cons (ss_if (st_cmp (opd_in h.pK h.u65) se_str (se_tup (sa_cons (w_call h T.f_kind g_less_kind (sa_cons (v_less_0 h) (sa_cons (v_less_1 h) sa_nil rfl) rfl) rfl rfl) (sa_cons (w_call h T.f_kind g_less_kind (sa_cons (v_less_0 h) (sa_cons (v_less_2 h) sa_nil rfl) rfl) rfl rfl) sa_nil rfl) rfl)) rfl bl_in) (ss_cons (ss_ret se_bool) ss_nil) ss_nil) (ss_cons (ss_ret (se_cmp (opd_lt) (w_call h T.f_place_of g_less_place_of (sa_cons (v_less_0 h) (sa_cons (v_less_1 h) sa_nil rfl) rfl) rfl rfl) (w_call h T.f_place_of g_less_place_of (sa_cons (v_less_0 h) (sa_cons (v_less_2 h) sa_nil rfl) rfl) rfl rfl) rfl)) ss_nil))))
theorem v_place_of_0 {fz : Str → Bool} (h : CxW Γ lo E X n_place_of (defScope s_place_of) fz) {pos : Pos} : PE X (.Name "form" pos) (tE Γ.g E k (eVar 0)) := w_var h (by kernel_rfl)
theorem v_place_of_1 {fz : Str → Bool} (h : CxW Γ lo E X n_place_of (defScope s_place_of) fz) {pos : Pos} : PE X (.Name "code" pos) (tE Γ.g E k (eVar 1)) := w_var h (by kernel_rfl)
theorem v_place_of_2 {fz : Str → Bool} (h : CxW Γ lo E X n_place_of (defScope s_place_of) fz) {pos : Pos} : PE X (.Name "half" pos) (tE Γ.g E k (eVar 2)) := w_var h (by kernel_rfl)
theorem s_place_of_2 : stB (defScope s_place_of) (fun _ => true) n_place_of 2 "half" = true := by kernel_rfl
theorem g_place_of_power_of : glB (defScope s_place_of) "power_of" = true := by kernel_rfl
theorem r_place_of (h : CxW Γ lo E X n_place_of (defScope s_place_of) (fun _ => true)) (T : Tx Γ lo k) : PSs X (defBody s_place_of) (tSS Γ.g E k c_place_of) := by
  unfold c_place_of
  exact (ss_cons (w_set (i := 2) h s_place_of_2 (w_call h T.f_power_of g_place_of_power_of (sa_cons (se_op (opd_add h.pK) (se_ix h.pK h.u65 (v_place_of_0 h) se_int (fun _ _ => rfl)) (se_ix h.pK h.u65 (v_place_of_0 h) se_int (fun _ _ => rfl))) sa_nil rfl) rfl rfl) rfl) (ss_cons (ss_ret (se_if (st_cmp (opd_ge) (v_place_of_1 h) (v_place_of_2 h) rfl bl_ge) (se_op (opd_sub) (v_place_of_2 h) (v_place_of_1 h)) (v_place_of_1 h))) ss_nil))
theorem v_next_up_0 {fz : Str → Bool} (h : CxW Γ lo E X n_next_up (defScope s_next_up) fz) {pos : Pos} : PE X (.Name "form" pos) (tE Γ.g E k (eVar 0)) := w_var h (by kernel_rfl)
theorem v_next_up_1 {fz : Str → Bool} (h : CxW Γ lo E X n_next_up (defScope s_next_up) fz) {pos : Pos} : PE X (.Name "code" pos) (tE Γ.g E k (eVar 1)) := w_var h (by kernel_rfl)
theorem v_next_up_2 {fz : Str → Bool} (h : CxW Γ lo E X n_next_up (defScope s_next_up) fz) {pos : Pos} : PE X (.Name "half" pos) (tE Γ.g E k (eVar 2)) := w_var h (by kernel_rfl)
theorem s_next_up_2 : stB (defScope s_next_up) (fun _ => true) n_next_up 2 "half" = true := by kernel_rfl
theorem g_next_up_endless : glB (defScope s_next_up) "endless" = true := by kernel_rfl
theorem g_next_up_kind : glB (defScope s_next_up) "kind" = true := by kernel_rfl
theorem g_next_up_power_of : glB (defScope s_next_up) "power_of" = true := by kernel_rfl
theorem r_next_up (h : CxW Γ lo E X n_next_up (defScope s_next_up) (fun _ => true)) (T : Tx Γ lo k) : PSs X (defBody s_next_up) (tSS Γ.g E k c_next_up) := by
  unfold c_next_up
  exact (ss_cons (ss_if (sw_or (st_cmp (opd_eq h.pK h.u64) (w_call h T.f_kind g_next_up_kind (sa_cons (v_next_up_0 h) (sa_cons (v_next_up_1 h) sa_nil rfl) rfl) rfl rfl) se_str rfl bl_eq) (sw_or1 (st_cmp (opd_eq h.pK h.u64) (v_next_up_1 h) (w_call h T.f_endless g_next_up_endless (sa_cons (v_next_up_0 h) (sa_cons se_int sa_nil rfl) rfl) rfl rfl) rfl bl_eq))).pt (ss_cons (ss_ret se_none) ss_nil) ss_nil) (ss_cons (w_set (i := 2) h s_next_up_2 (w_call h T.f_power_of g_next_up_power_of (sa_cons (se_op (opd_add h.pK) (se_ix h.pK h.u65 (v_next_up_0 h) se_int (fun _ _ => rfl)) (se_ix h.pK h.u65 (v_next_up_0 h) se_int (fun _ _ => rfl))) sa_nil rfl) rfl rfl) rfl) (ss_cons (ss_if (st_cmp (opd_in h.pK h.u65) (v_next_up_1 h) (se_tup (sa_cons se_int (sa_cons (v_next_up_2 h) sa_nil rfl) rfl)) rfl bl_in) (ss_cons (ss_ret se_int) ss_nil) ss_nil) (ss_cons (ss_ret (se_if (st_cmp (opd_gt) (v_next_up_1 h) (v_next_up_2 h) rfl bl_gt) (se_op (opd_sub) (v_next_up_1 h) se_int) (se_op (opd_add h.pK) (v_next_up_1 h) se_int))) ss_nil))))
theorem v_pair_sum_0 {fz : Str → Bool} (h : CxW Γ lo E X n_pair_sum (defScope s_pair_sum) fz) {pos : Pos} : PE X (.Name "form" pos) (tE Γ.g E k (eVar 0)) := w_var h (by kernel_rfl)
theorem v_pair_sum_1 {fz : Str → Bool} (h : CxW Γ lo E X n_pair_sum (defScope s_pair_sum) fz) {pos : Pos} : PE X (.Name "one" pos) (tE Γ.g E k (eVar 1)) := w_var h (by kernel_rfl)
theorem v_pair_sum_2 {fz : Str → Bool} (h : CxW Γ lo E X n_pair_sum (defScope s_pair_sum) fz) {pos : Pos} : PE X (.Name "other" pos) (tE Γ.g E k (eVar 2)) := w_var h (by kernel_rfl)
theorem v_pair_sum_3 {fz : Str → Bool} (h : CxW Γ lo E X n_pair_sum (defScope s_pair_sum) fz) {pos : Pos} : PE X (.Name "whole" pos) (tE Γ.g E k (eVar 3)) := w_var h (by kernel_rfl)
theorem v_pair_sum_4 {fz : Str → Bool} (h : CxW Γ lo E X n_pair_sum (defScope s_pair_sum) fz) {pos : Pos} : PE X (.Name "top" pos) (tE Γ.g E k (eVar 4)) := w_var h (by kernel_rfl)
theorem v_pair_sum_5 {fz : Str → Bool} (h : CxW Γ lo E X n_pair_sum (defScope s_pair_sum) fz) {pos : Pos} : PE X (.Name "gap" pos) (tE Γ.g E k (eVar 5)) := w_var h (by kernel_rfl)
theorem v_pair_sum_6 {fz : Str → Bool} (h : CxW Γ lo E X n_pair_sum (defScope s_pair_sum) fz) {pos : Pos} : PE X (.Name "left" pos) (tE Γ.g E k (eVar 6)) := w_var h (by kernel_rfl)
theorem v_pair_sum_7 {fz : Str → Bool} (h : CxW Γ lo E X n_pair_sum (defScope s_pair_sum) fz) {pos : Pos} : PE X (.Name "right" pos) (tE Γ.g E k (eVar 7)) := w_var h (by kernel_rfl)
theorem v_pair_sum_8 {fz : Str → Bool} (h : CxW Γ lo E X n_pair_sum (defScope s_pair_sum) fz) {pos : Pos} : PE X (.Name "told" pos) (tE Γ.g E k (eVar 8)) := w_var h (by kernel_rfl)
theorem s_pair_sum_5 : stB (defScope s_pair_sum) (fun _ => true) n_pair_sum 5 "gap" = true := by kernel_rfl
theorem s_pair_sum_4 : stB (defScope s_pair_sum) (fun _ => true) n_pair_sum 4 "top" = true := by kernel_rfl
theorem s_pair_sum_3 : stB (defScope s_pair_sum) (fun _ => true) n_pair_sum 3 "whole" = true := by kernel_rfl
theorem g_pair_sum_add : glB (defScope s_pair_sum) "add" = true := by kernel_rfl
theorem g_pair_sum_reduced : glB (defScope s_pair_sum) "reduced" = true := by kernel_rfl
theorem g_pair_sum_value : glB (defScope s_pair_sum) "value" = true := by kernel_rfl
theorem r_pair_sum (h : CxW Γ lo E X n_pair_sum (defScope s_pair_sum) (fun _ => true)) (T : Tx Γ lo k) : PSs X (defBody s_pair_sum) (tSS Γ.g E k c_pair_sum) := by
  unfold c_pair_sum
  exact (ss_cons (w_set (i := 3) h s_pair_sum_3 (w_call h T.f_add g_pair_sum_add (sa_cons (v_pair_sum_0 h) (sa_cons (v_pair_sum_1 h) (sa_cons (v_pair_sum_2 h) (sa_cons se_str sa_nil rfl) rfl) rfl) rfl) rfl rfl) rfl) (ss_cons (ss_if (st_cmp (opd_is) (w_call h T.f_value g_pair_sum_value (sa_cons (v_pair_sum_0 h) (sa_cons (v_pair_sum_3 h) sa_nil rfl) rfl) rfl rfl) se_none rfl bl_is) (ss_cons (ss_ret se_none) ss_nil) ss_nil) (ss_cons (w_par3 (i := 6) (j := 7) (l := 8) h (by kernel_rfl) (sa_cons (w_call h T.f_value g_pair_sum_value (sa_cons (v_pair_sum_0 h) (sa_cons (v_pair_sum_1 h) sa_nil rfl) rfl) rfl rfl) (sa_cons (w_call h T.f_value g_pair_sum_value (sa_cons (v_pair_sum_0 h) (sa_cons (v_pair_sum_2 h) sa_nil rfl) rfl) rfl rfl) (sa_cons (w_call h T.f_value g_pair_sum_value (sa_cons (v_pair_sum_0 h) (sa_cons (v_pair_sum_3 h) sa_nil rfl) rfl) rfl rfl) sa_nil rfl) rfl) rfl) (by kernel_rfl) rfl) (ss_cons (w_set (i := 4) h s_pair_sum_4 (se_op (opd_add h.pK) (se_op (opd_mul h.pK) (se_ix h.pK h.u65 (v_pair_sum_6 h) se_int (fun _ _ => rfl)) (se_ix h.pK h.u65 (v_pair_sum_7 h) se_int (fun _ _ => rfl))) (se_op (opd_mul h.pK) (se_ix h.pK h.u65 (v_pair_sum_7 h) se_int (fun _ _ => rfl)) (se_ix h.pK h.u65 (v_pair_sum_6 h) se_int (fun _ _ => rfl)))) rfl) (ss_cons (w_set (i := 5) h s_pair_sum_5 (w_call h T.f_reduced g_pair_sum_reduced (sa_cons (se_op (opd_sub) (se_op (opd_mul h.pK) (v_pair_sum_4 h) (se_ix h.pK h.u65 (v_pair_sum_8 h) se_int (fun _ _ => rfl))) (se_op (opd_mul h.pK) (se_op (opd_mul h.pK) (se_ix h.pK h.u65 (v_pair_sum_8 h) se_int (fun _ _ => rfl)) (se_ix h.pK h.u65 (v_pair_sum_6 h) se_int (fun _ _ => rfl))) (se_ix h.pK h.u65 (v_pair_sum_7 h) se_int (fun _ _ => rfl)))) (sa_cons (se_op (opd_mul h.pK) (se_op (opd_mul h.pK) (se_ix h.pK h.u65 (v_pair_sum_6 h) se_int (fun _ _ => rfl)) (se_ix h.pK h.u65 (v_pair_sum_7 h) se_int (fun _ _ => rfl))) (se_ix h.pK h.u65 (v_pair_sum_8 h) se_int (fun _ _ => rfl))) sa_nil rfl) rfl) rfl rfl) rfl) (ss_cons (ss_ret (se_tup (sa_cons (v_pair_sum_3 h) (sa_cons (v_pair_sum_5 h) sa_nil rfl) rfl))) ss_nil))))))
theorem v_law_begin_0 {fz : Str → Bool} (h : CxW Γ lo E X n_law_begin (defScope s_law_begin) fz) {pos : Pos} : PE X (.Name "script" pos) (tE Γ.g E k (eVar 0)) := w_var h (by kernel_rfl)
theorem v_law_begin_1 {fz : Str → Bool} (h : CxW Γ lo E X n_law_begin (defScope s_law_begin) fz) {pos : Pos} : PE X (.Name "seed" pos) (tE Γ.g E k (eVar 1)) := w_var h (by kernel_rfl)
theorem v_law_begin_2 {fz : Str → Bool} (h : CxW Γ lo E X n_law_begin (defScope s_law_begin) fz) {pos : Pos} : PE X (.Name "cell" pos) (tE Γ.g E k (eVar 2)) := w_var h (by kernel_rfl)
theorem s_law_begin_2 : stB (defScope s_law_begin) (fun _ => true) n_law_begin 2 "cell" = true := by kernel_rfl
theorem s_law_begin_1 : stB (defScope s_law_begin) (fun _ => true) n_law_begin 1 "seed" = true := by kernel_rfl
theorem gb_law_begin_int : bltB (defScope s_law_begin) "int" = true := by kernel_rfl
theorem gb_law_begin_list : bltB (defScope s_law_begin) "list" = true := by kernel_rfl
theorem r_law_begin (h : CxW Γ lo E X n_law_begin (defScope s_law_begin) (fun _ => true)) (T : Tx Γ lo k) : PSs X (defBody s_law_begin) (tSS Γ.g E k c_law_begin) := by
  unfold c_law_begin
  exact (ss_cons (w_set (i := 1) h s_law_begin_1 se_int rfl) (ss_cons (w_for h (si_seq h.pK (v_law_begin_0 h)) (w_name (i := 2) h s_law_begin_2) tok_name (ss_cons (w_set (i := 1) h s_law_begin_1 (se_op (opd_mod) (se_op (opd_add h.pK) (se_op (opd_add h.pK) (se_op (opd_mul h.pK) (v_law_begin_1 h) se_int) (se_op (opd_mod) (w_int h (sa_cons (v_law_begin_2 h) sa_nil rfl) rfl rfl gb_law_begin_int T.b_int) se_int)) se_int) se_int) rfl) ss_nil) (fun _ => rfl)) (ss_cons (ss_ret (se_lst (sa_cons (w_list h (sa_cons (v_law_begin_0 h) sa_nil rfl) rfl rfl gb_law_begin_list T.b_list) (sa_cons se_int (sa_cons se_int (sa_cons (v_law_begin_1 h) sa_nil rfl) rfl) rfl) rfl))) ss_nil)))
theorem v_law_take_0 {fz : Str → Bool} (h : CxW Γ lo E X n_law_take (defScope s_law_take) fz) {pos : Pos} : PE X (.Name "d" pos) (tE Γ.g E k (eVar 0)) := w_var h (by kernel_rfl)
theorem v_law_take_1 {fz : Str → Bool} (h : CxW Γ lo E X n_law_take (defScope s_law_take) fz) {pos : Pos} : PE X (.Name "many" pos) (tE Γ.g E k (eVar 1)) := w_var h (by kernel_rfl)
theorem v_law_take_2 {fz : Str → Bool} (h : CxW Γ lo E X n_law_take (defScope s_law_take) fz) {pos : Pos} : PE X (.Name "digit" pos) (tE Γ.g E k (eVar 2)) := w_var h (by kernel_rfl)
theorem v_law_take_3 {fz : Str → Bool} (h : CxW Γ lo E X n_law_take (defScope s_law_take) fz) {pos : Pos} : PE X (.Name "small" pos) (tE Γ.g E k (eVar 3)) := w_var h (by kernel_rfl)
theorem s_law_take_2 : stB (defScope s_law_take) (fun _ => true) n_law_take 2 "digit" = true := by kernel_rfl
theorem s_law_take_3 : stB (defScope s_law_take) (fun _ => true) n_law_take 3 "small" = true := by kernel_rfl
theorem gb_law_take_abs : bltB (defScope s_law_take) "abs" = true := by kernel_rfl
theorem gb_law_take_int : bltB (defScope s_law_take) "int" = true := by kernel_rfl
theorem gb_law_take_len : bltB (defScope s_law_take) "len" = true := by kernel_rfl
theorem r_law_take (h : CxW Γ lo E X n_law_take (defScope s_law_take) (fun _ => true)) (T : Tx Γ lo k) : PSs X (defBody s_law_take) (tSS Γ.g E k c_law_take) := by
  unfold c_law_take
  exact (ss_cons (ss_if (sw_and (st_cmp (opd_eq h.pK h.u64) (se_ix h.pK h.u65 (v_law_take_0 h) se_int (fun _ _ => rfl)) se_int rfl bl_eq) (sw_and1 (st_cmp (opd_lt) (se_ix h.pK h.u65 (v_law_take_0 h) se_int (fun _ _ => rfl)) (w_len h (sa_cons (se_ix h.pK h.u65 (v_law_take_0 h) se_int (fun _ _ => rfl)) sa_nil rfl) rfl rfl gb_law_take_len T.b_len) rfl bl_lt))).pt (ss_cons (ss_asg (w_abs h (sa_cons (w_int h (sa_cons (se_ix h.pK h.u65 (se_ix h.pK h.u65 (v_law_take_0 h) se_int (fun _ _ => rfl)) (se_ix h.pK h.u65 (v_law_take_0 h) se_int (fun _ _ => rfl)) (fun _ _ => rfl)) sa_nil rfl) rfl rfl gb_law_take_int T.b_int) sa_nil rfl) rfl rfl gb_law_take_abs T.b_abs) (sg_sub h.u65 (v_law_take_0 h) se_int (fun _ => rfl)) tok_sub rfl rfl rfl) (ss_cons (ss_asg (se_op (opd_add h.pK) (se_ix h.pK h.u65 (v_law_take_0 h) se_int (fun _ _ => rfl)) se_int) (sg_sub h.u65 (v_law_take_0 h) se_int (fun _ => rfl)) tok_sub rfl rfl rfl) (ss_cons (ss_if (st_cmp (opd_lt) (se_ix h.pK h.u65 (v_law_take_0 h) se_int (fun _ _ => rfl)) (se_op (opd_pow) se_int se_int) rfl bl_lt) (ss_cons (w_set (i := 3) h s_law_take_3 (w_int h (sa_cons (se_ix h.pK h.u65 (v_law_take_0 h) se_int (fun _ _ => rfl)) sa_nil rfl) rfl rfl gb_law_take_int T.b_int) rfl) (ss_cons (ss_asg se_int (sg_sub h.u65 (v_law_take_0 h) se_int (fun _ => rfl)) tok_sub rfl rfl rfl) (ss_cons (ss_ret (se_op (opd_mod) (v_law_take_3 h) (v_law_take_1 h))) ss_nil))) ss_nil) ss_nil))) ss_nil) (ss_cons (ss_if (st_cmp (opd_gt) (se_ix h.pK h.u65 (v_law_take_0 h) se_int (fun _ _ => rfl)) se_int rfl bl_gt) (ss_cons (w_set (i := 2) h s_law_take_2 (se_op (opd_mod) (w_int h (sa_cons (se_ix h.pK h.u65 (v_law_take_0 h) se_int (fun _ _ => rfl)) sa_nil rfl) rfl rfl gb_law_take_int T.b_int) (v_law_take_1 h)) rfl) (ss_cons (ss_asg (se_op (opd_div) (w_int h (sa_cons (se_ix h.pK h.u65 (v_law_take_0 h) se_int (fun _ _ => rfl)) sa_nil rfl) rfl rfl gb_law_take_int T.b_int) (v_law_take_1 h)) (sg_sub h.u65 (v_law_take_0 h) se_int (fun _ => rfl)) tok_sub rfl rfl rfl) (ss_cons (ss_ret (v_law_take_2 h)) ss_nil))) ss_nil) (ss_cons (ss_asg (se_op (opd_mod) (w_int h (sa_cons (se_op (opd_add h.pK) (se_op (opd_mul h.pK) (se_ix h.pK h.u65 (v_law_take_0 h) se_int (fun _ _ => rfl)) se_int) se_int) sa_nil rfl) rfl rfl gb_law_take_int T.b_int) se_int) (sg_sub h.u65 (v_law_take_0 h) se_int (fun _ => rfl)) tok_sub rfl rfl rfl) (ss_cons (ss_ret (se_op (opd_mod) (w_int h (sa_cons (se_op (opd_div) (se_ix h.pK h.u65 (v_law_take_0 h) se_int (fun _ _ => rfl)) se_int) sa_nil rfl) rfl rfl gb_law_take_int T.b_int) (v_law_take_1 h))) ss_nil))))
theorem v_law_less_0 {fz : Str → Bool} (h : CxW Γ lo E X n_law_less (defScope s_law_less) fz) {pos : Pos} : PE X (.Name "one" pos) (tE Γ.g E k (eVar 0)) := w_var h (by kernel_rfl)
theorem v_law_less_1 {fz : Str → Bool} (h : CxW Γ lo E X n_law_less (defScope s_law_less) fz) {pos : Pos} : PE X (.Name "other" pos) (tE Γ.g E k (eVar 1)) := w_var h (by kernel_rfl)
theorem r_law_less (h : CxW Γ lo E X n_law_less (defScope s_law_less) (fun _ => true)) (T : Tx Γ lo k) : PSs X (defBody s_law_less) (tSS Γ.g E k c_law_less) := by
  unfold c_law_less
  exact (ss_cons (ss_ret (se_cmp (opd_lt) (se_op (opd_mul h.pK) (se_ix h.pK h.u65 (v_law_less_0 h) se_int (fun _ _ => rfl)) (se_ix h.pK h.u65 (v_law_less_1 h) se_int (fun _ _ => rfl))) (se_op (opd_mul h.pK) (se_ix h.pK h.u65 (v_law_less_1 h) se_int (fun _ _ => rfl)) (se_ix h.pK h.u65 (v_law_less_0 h) se_int (fun _ _ => rfl))) rfl)) ss_nil)
theorem v_law_part1_0 {fz : Str → Bool} (h : CxW Γ lo E X n_law_part1 (defScope s_law_part1) fz) {pos : Pos} : PE X (.Name "form" pos) (tE Γ.g E k (eVar 0)) := w_var h (by kernel_rfl)
theorem v_law_part1_1 {fz : Str → Bool} (h : CxW Γ lo E X n_law_part1 (defScope s_law_part1) fz) {pos : Pos} : PE X (.Name "half" pos) (tE Γ.g E k (eVar 1)) := w_var h (by kernel_rfl)
theorem v_law_part1_2 {fz : Str → Bool} (h : CxW Γ lo E X n_law_part1 (defScope s_law_part1) fz) {pos : Pos} : PE X (.Name "one" pos) (tE Γ.g E k (eVar 2)) := w_var h (by kernel_rfl)
theorem v_law_part1_3 {fz : Str → Bool} (h : CxW Γ lo E X n_law_part1 (defScope s_law_part1) fz) {pos : Pos} : PE X (.Name "other" pos) (tE Γ.g E k (eVar 3)) := w_var h (by kernel_rfl)
theorem v_law_part1_4 {fz : Str → Bool} (h : CxW Γ lo E X n_law_part1 (defScope s_law_part1) fz) {pos : Pos} : PE X (.Name "third" pos) (tE Γ.g E k (eVar 4)) := w_var h (by kernel_rfl)
theorem v_law_part1_5 {fz : Str → Bool} (h : CxW Γ lo E X n_law_part1 (defScope s_law_part1) fz) {pos : Pos} : PE X (.Name "a" pos) (tE Γ.g E k (eVar 5)) := w_var h (by kernel_rfl)
theorem v_law_part1_6 {fz : Str → Bool} (h : CxW Γ lo E X n_law_part1 (defScope s_law_part1) fz) {pos : Pos} : PE X (.Name "b" pos) (tE Γ.g E k (eVar 6)) := w_var h (by kernel_rfl)
theorem v_law_part1_7 {fz : Str → Bool} (h : CxW Γ lo E X n_law_part1 (defScope s_law_part1) fz) {pos : Pos} : PE X (.Name "c" pos) (tE Γ.g E k (eVar 7)) := w_var h (by kernel_rfl)
theorem v_law_part1_8 {fz : Str → Bool} (h : CxW Γ lo E X n_law_part1 (defScope s_law_part1) fz) {pos : Pos} : PE X (.Name "rows" pos) (tE Γ.g E k (eVar 8)) := w_var h (by kernel_rfl)
theorem v_law_part1_9 {fz : Str → Bool} (h : CxW Γ lo E X n_law_part1 (defScope s_law_part1) fz) {pos : Pos} : PE X (.Name "k" pos) (tE Γ.g E k (eVar 9)) := w_var h (by kernel_rfl)
theorem v_law_part1_10 {fz : Str → Bool} (h : CxW Γ lo E X n_law_part1 (defScope s_law_part1) fz) {pos : Pos} : PE X (.Name "low" pos) (tE Γ.g E k (eVar 10)) := w_var h (by kernel_rfl)
theorem v_law_part1_11 {fz : Str → Bool} (h : CxW Γ lo E X n_law_part1 (defScope s_law_part1) fz) {pos : Pos} : PE X (.Name "high" pos) (tE Γ.g E k (eVar 11)) := w_var h (by kernel_rfl)
theorem v_law_part1_12 {fz : Str → Bool} (h : CxW Γ lo E X n_law_part1 (defScope s_law_part1) fz) {pos : Pos} : PE X (.Name "way" pos) (tE Γ.g E k (eVar 12)) := w_var h (by kernel_rfl)
theorem s_law_part1_11 : stB (defScope s_law_part1) (fun _ => true) n_law_part1 11 "high" = true := by kernel_rfl
theorem s_law_part1_9 : stB (defScope s_law_part1) (fun _ => true) n_law_part1 9 "k" = true := by kernel_rfl
theorem s_law_part1_10 : stB (defScope s_law_part1) (fun _ => true) n_law_part1 10 "low" = true := by kernel_rfl
theorem s_law_part1_12 : stB (defScope s_law_part1) (fun _ => true) n_law_part1 12 "way" = true := by kernel_rfl
theorem g_law_part1_law_less : glB (defScope s_law_part1) "_law_less" = true := by kernel_rfl
theorem g_law_part1_add : glB (defScope s_law_part1) "add" = true := by kernel_rfl
theorem g_law_part1_divide : glB (defScope s_law_part1) "divide" = true := by kernel_rfl
theorem g_law_part1_greatest : glB (defScope s_law_part1) "greatest" = true := by kernel_rfl
theorem gb_law_part1_int : bltB (defScope s_law_part1) "int" = true := by kernel_rfl
theorem g_law_part1_kind : glB (defScope s_law_part1) "kind" = true := by kernel_rfl
theorem g_law_part1_less : glB (defScope s_law_part1) "less" = true := by kernel_rfl
theorem g_law_part1_multiply : glB (defScope s_law_part1) "multiply" = true := by kernel_rfl
theorem g_law_part1_next_up : glB (defScope s_law_part1) "next_up" = true := by kernel_rfl
theorem gb_law_part1_range : bltB (defScope s_law_part1) "range" = true := by kernel_rfl
theorem g_law_part1_rounded : glB (defScope s_law_part1) "rounded" = true := by kernel_rfl
theorem g_law_part1_turned : glB (defScope s_law_part1) "turned" = true := by kernel_rfl
theorem g_law_part1_value : glB (defScope s_law_part1) "value" = true := by kernel_rfl
theorem r_law_part1 (h : CxW Γ lo E X n_law_part1 (defScope s_law_part1) (fun _ => true)) (T : Tx Γ lo k) : PSs X (defBody s_law_part1) (tSS Γ.g E k c_law_part1) := by
  unfold c_law_part1
  exact (ss_cons (w_for h (w_r1 h T.b_range gb_law_part1_range (sa_cons se_int sa_nil rfl) rfl) (w_name (i := 9) h s_law_part1_9) tok_name (ss_cons (w_set (i := 10) h s_law_part1_10 (se_ix h.pK h.u65 (se_ix h.pK h.u65 (v_law_part1_8 h) se_str (fun _ _ => rfl)) (v_law_part1_9 h) (fun _ _ => rfl)) rfl) (ss_cons (w_set (i := 11) h s_law_part1_11 (se_ix h.pK h.u65 (se_ix h.pK h.u65 (v_law_part1_8 h) se_str (fun _ _ => rfl)) (v_law_part1_9 h) (fun _ _ => rfl)) rfl) (ss_cons (ss_if (st_cmp (opd_eq h.pK h.u64) (w_call h T.f_kind g_law_part1_kind (sa_cons (v_law_part1_0 h) (sa_cons (v_law_part1_10 h) sa_nil rfl) rfl) rfl rfl) se_str rfl bl_eq) (ss_cons (ss_if (st_cmp (opd_ne h.pK h.u64) (w_call h T.f_kind g_law_part1_kind (sa_cons (v_law_part1_0 h) (sa_cons (v_law_part1_11 h) sa_nil rfl) rfl) rfl rfl) se_str rfl bl_ne) (ss_cons (ss_ret se_bool) ss_nil) ss_nil) (ss_cons ss_continue ss_nil)) ss_nil) (ss_cons (ss_if (sw_or (st_plain h.pK (w_call h T.f_less g_law_part1_less (sa_cons (v_law_part1_0 h) (sa_cons (v_law_part1_11 h) (sa_cons (v_law_part1_10 h) sa_nil rfl) rfl) rfl) rfl rfl) (fun _ => rfl)) (sw_or (st_cmp (opd_notin h.pK h.u65) (se_ix h.pK h.u65 (se_ix h.pK h.u65 (v_law_part1_8 h) se_str (fun _ _ => rfl)) (v_law_part1_9 h) (fun _ _ => rfl)) (se_tup (sa_cons (v_law_part1_10 h) (sa_cons (v_law_part1_11 h) sa_nil rfl) rfl)) rfl bl_notin) (sw_or1 (st_cmp (opd_notin h.pK h.u65) (se_ix h.pK h.u65 (se_ix h.pK h.u65 (v_law_part1_8 h) se_str (fun _ _ => rfl)) (v_law_part1_9 h) (fun _ _ => rfl)) (se_tup (sa_cons (v_law_part1_10 h) (sa_cons (v_law_part1_11 h) sa_nil rfl) rfl)) rfl bl_notin)))).pt (ss_cons (ss_if (st_cmp (opd_ne h.pK h.u64) (w_call h T.f_value g_law_part1_value (sa_cons (v_law_part1_0 h) (sa_cons (se_ix h.pK h.u65 (se_ix h.pK h.u65 (v_law_part1_8 h) se_str (fun _ _ => rfl)) (v_law_part1_9 h) (fun _ _ => rfl)) sa_nil rfl) rfl) rfl rfl) (se_tup (sa_cons se_int (sa_cons se_int sa_nil rfl) rfl)) rfl bl_ne) (ss_cons (ss_ret se_bool) ss_nil) ss_nil) ss_nil) ss_nil) (ss_cons (ss_if (sw_and (st_cmp (opd_isnot) (w_call h T.f_value g_law_part1_value (sa_cons (v_law_part1_0 h) (sa_cons (v_law_part1_10 h) sa_nil rfl) rfl) rfl rfl) se_none rfl bl_isnot) (sw_and (st_cmp (opd_ne h.pK h.u64) (w_call h T.f_value g_law_part1_value (sa_cons (v_law_part1_0 h) (sa_cons (v_law_part1_10 h) sa_nil rfl) rfl) rfl rfl) (w_call h T.f_value g_law_part1_value (sa_cons (v_law_part1_0 h) (sa_cons (v_law_part1_11 h) sa_nil rfl) rfl) rfl rfl) rfl bl_ne) (sw_and1 (st_cmp (opd_ne h.pK h.u64) (w_call h T.f_value g_law_part1_value (sa_cons (v_law_part1_0 h) (sa_cons (w_call h T.f_next_up g_law_part1_next_up (sa_cons (v_law_part1_0 h) (sa_cons (v_law_part1_10 h) sa_nil rfl) rfl) rfl rfl) sa_nil rfl) rfl) rfl rfl) (w_call h T.f_value g_law_part1_value (sa_cons (v_law_part1_0 h) (sa_cons (v_law_part1_11 h) sa_nil rfl) rfl) rfl rfl) rfl bl_ne)))).pt (ss_cons (ss_ret se_bool) ss_nil) ss_nil) ss_nil))))) (fun _ => rfl)) (ss_cons (ss_if (sw_and (st_cmp (opd_ne h.pK h.u64) (w_call h T.f_add g_law_part1_add (sa_cons (v_law_part1_0 h) (sa_cons (v_law_part1_2 h) (sa_cons (v_law_part1_3 h) (sa_cons se_str sa_nil rfl) rfl) rfl) rfl) rfl rfl) (w_call h T.f_turned g_law_part1_turned (sa_cons (v_law_part1_0 h) (sa_cons (w_call h T.f_add g_law_part1_add (sa_cons (v_law_part1_0 h) (sa_cons (w_call h T.f_turned g_law_part1_turned (sa_cons (v_law_part1_0 h) (sa_cons (v_law_part1_2 h) sa_nil rfl) rfl) rfl rfl) (sa_cons (w_call h T.f_turned g_law_part1_turned (sa_cons (v_law_part1_0 h) (sa_cons (v_law_part1_3 h) sa_nil rfl) rfl) rfl rfl) (sa_cons se_str sa_nil rfl) rfl) rfl) rfl) rfl rfl) sa_nil rfl) rfl) rfl rfl) rfl bl_ne) (sw_and1 (st_cmp (opd_ne h.pK h.u64) (w_call h T.f_value g_law_part1_value (sa_cons (v_law_part1_0 h) (sa_cons (w_call h T.f_add g_law_part1_add (sa_cons (v_law_part1_0 h) (sa_cons (v_law_part1_2 h) (sa_cons (v_law_part1_3 h) (sa_cons se_str sa_nil rfl) rfl) rfl) rfl) rfl rfl) sa_nil rfl) rfl) rfl rfl) (se_tup (sa_cons se_int (sa_cons se_int sa_nil rfl) rfl)) rfl bl_ne))).pt (ss_cons (ss_ret se_bool) ss_nil) ss_nil) (ss_cons (ss_if (sw_or (st_cmp (opd_ne h.pK h.u64) (w_call h T.f_multiply g_law_part1_multiply (sa_cons (v_law_part1_0 h) (sa_cons (v_law_part1_2 h) (sa_cons (v_law_part1_3 h) (sa_cons se_str sa_nil rfl) rfl) rfl) rfl) rfl rfl) (w_call h T.f_multiply g_law_part1_multiply (sa_cons (v_law_part1_0 h) (sa_cons (w_call h T.f_turned g_law_part1_turned (sa_cons (v_law_part1_0 h) (sa_cons (v_law_part1_2 h) sa_nil rfl) rfl) rfl rfl) (sa_cons (w_call h T.f_turned g_law_part1_turned (sa_cons (v_law_part1_0 h) (sa_cons (v_law_part1_3 h) sa_nil rfl) rfl) rfl rfl) (sa_cons se_str sa_nil rfl) rfl) rfl) rfl) rfl rfl) rfl bl_ne) (sw_or1 (st_cmp (opd_ne h.pK h.u64) (w_call h T.f_add g_law_part1_add (sa_cons (v_law_part1_0 h) (sa_cons (v_law_part1_2 h) (sa_cons (v_law_part1_3 h) (sa_cons se_str sa_nil rfl) rfl) rfl) rfl) rfl rfl) (w_call h T.f_add g_law_part1_add (sa_cons (v_law_part1_0 h) (sa_cons (v_law_part1_3 h) (sa_cons (v_law_part1_2 h) (sa_cons se_str sa_nil rfl) rfl) rfl) rfl) rfl rfl) rfl bl_ne))).pt (ss_cons (ss_ret se_bool) ss_nil) ss_nil) (ss_cons (ss_if (sw_and (st_cmp (opd_isnot) (v_law_part1_7 h) se_none rfl bl_isnot) (sw_and1 (st_not (st_plain h.pK (w_call h T.f_law_less g_law_part1_law_less (sa_cons (v_law_part1_6 h) (sa_cons (v_law_part1_5 h) sa_nil rfl) rfl) rfl rfl) (fun _ => rfl))))).pt (ss_cons (w_for h (si_seq h.pK (se_tup (sa_cons se_str (sa_cons se_str (sa_cons se_str (sa_cons se_str sa_nil rfl) rfl) rfl) rfl))) (w_name (i := 12) h s_law_part1_12) tok_name (ss_cons (w_set (i := 10) h s_law_part1_10 (w_call h T.f_add g_law_part1_add (sa_cons (v_law_part1_0 h) (sa_cons (v_law_part1_2 h) (sa_cons (v_law_part1_4 h) (sa_cons (v_law_part1_12 h) sa_nil rfl) rfl) rfl) rfl) rfl rfl) rfl) (ss_cons (w_set (i := 11) h s_law_part1_11 (w_call h T.f_add g_law_part1_add (sa_cons (v_law_part1_0 h) (sa_cons (v_law_part1_3 h) (sa_cons (v_law_part1_4 h) (sa_cons (v_law_part1_12 h) sa_nil rfl) rfl) rfl) rfl) rfl rfl) rfl) (ss_cons (ss_if (st_plain h.pK (w_call h T.f_less g_law_part1_less (sa_cons (v_law_part1_0 h) (sa_cons (v_law_part1_11 h) (sa_cons (v_law_part1_10 h) sa_nil rfl) rfl) rfl) rfl rfl) (fun _ => rfl)) (ss_cons (ss_ret se_bool) ss_nil) ss_nil) (ss_cons (ss_if (sw_and (st_cmp (opd_gt) (se_ix h.pK h.u65 (v_law_part1_7 h) se_int (fun _ _ => rfl)) se_int rfl bl_gt) (sw_and1 (st_plain h.pK (w_call h T.f_less g_law_part1_less (sa_cons (v_law_part1_0 h) (sa_cons (w_call h T.f_multiply g_law_part1_multiply (sa_cons (v_law_part1_0 h) (sa_cons (v_law_part1_3 h) (sa_cons (v_law_part1_4 h) (sa_cons (v_law_part1_12 h) sa_nil rfl) rfl) rfl) rfl) rfl rfl) (sa_cons (w_call h T.f_multiply g_law_part1_multiply (sa_cons (v_law_part1_0 h) (sa_cons (v_law_part1_2 h) (sa_cons (v_law_part1_4 h) (sa_cons (v_law_part1_12 h) sa_nil rfl) rfl) rfl) rfl) rfl rfl) sa_nil rfl) rfl) rfl) rfl rfl) (fun _ => rfl)))).pt (ss_cons (ss_ret se_bool) ss_nil) ss_nil) (ss_cons (ss_if (sw_and (st_cmp (opd_gt) (se_ix h.pK h.u65 (v_law_part1_7 h) se_int (fun _ _ => rfl)) se_int rfl bl_gt) (sw_and1 (st_plain h.pK (w_call h T.f_less g_law_part1_less (sa_cons (v_law_part1_0 h) (sa_cons (w_call h T.f_divide g_law_part1_divide (sa_cons (v_law_part1_0 h) (sa_cons (v_law_part1_3 h) (sa_cons (v_law_part1_4 h) (sa_cons (v_law_part1_12 h) sa_nil rfl) rfl) rfl) rfl) rfl rfl) (sa_cons (w_call h T.f_divide g_law_part1_divide (sa_cons (v_law_part1_0 h) (sa_cons (v_law_part1_2 h) (sa_cons (v_law_part1_4 h) (sa_cons (v_law_part1_12 h) sa_nil rfl) rfl) rfl) rfl) rfl rfl) sa_nil rfl) rfl) rfl) rfl rfl) (fun _ => rfl)))).pt (ss_cons (ss_ret se_bool) ss_nil) ss_nil) ss_nil))))) (fun _ => rfl)) ss_nil) ss_nil) (ss_cons (ss_if (st_cmp (opd_ne h.pK h.u64) (w_call h T.f_divide g_law_part1_divide (sa_cons (v_law_part1_0 h) (sa_cons (v_law_part1_2 h) (sa_cons (v_law_part1_2 h) (sa_cons se_str sa_nil rfl) rfl) rfl) rfl) rfl rfl) (se_if (st_cmp (opd_ne h.pK h.u64) (se_ix h.pK h.u65 (v_law_part1_5 h) se_int (fun _ _ => rfl)) se_int rfl bl_ne) (w_call h T.f_rounded g_law_part1_rounded (sa_cons (v_law_part1_0 h) (sa_cons (se_tup (sa_cons se_int (sa_cons se_int sa_nil rfl) rfl)) (sa_cons se_str sa_nil rfl) rfl) rfl) rfl rfl) (w_call h T.f_divide g_law_part1_divide (sa_cons (v_law_part1_0 h) (sa_cons se_int (sa_cons se_int (sa_cons se_str sa_nil rfl) rfl) rfl) rfl) rfl rfl)) rfl bl_ne) (ss_cons (ss_ret se_bool) ss_nil) ss_nil) (ss_cons (ss_if (sw_and (st_cmp (opd_gt) (se_op (opd_mod) (w_int h (sa_cons (v_law_part1_2 h) sa_nil rfl) rfl rfl gb_law_part1_int T.b_int) (v_law_part1_1 h)) se_int rfl bl_gt) (sw_and1 (st_cmp (opd_ne h.pK h.u64) (w_call h T.f_multiply g_law_part1_multiply (sa_cons (v_law_part1_0 h) (sa_cons (v_law_part1_2 h) (sa_cons (w_call h T.f_rounded g_law_part1_rounded (sa_cons (v_law_part1_0 h) (sa_cons (se_tup (sa_cons se_int (sa_cons se_int sa_nil rfl) rfl)) (sa_cons se_str sa_nil rfl) rfl) rfl) rfl rfl) (sa_cons se_str sa_nil rfl) rfl) rfl) rfl) rfl rfl) (v_law_part1_2 h) rfl bl_ne))).pt (ss_cons (ss_ret se_bool) ss_nil) ss_nil) (ss_cons (ss_if (sw_and (st_cmp (opd_ne h.pK h.u64) (w_call h T.f_add g_law_part1_add (sa_cons (v_law_part1_0 h) (sa_cons (v_law_part1_2 h) (sa_cons se_int (sa_cons se_str sa_nil rfl) rfl) rfl) rfl) rfl rfl) (v_law_part1_2 h) rfl bl_ne) (sw_and1 (st_cmp (opd_ne h.pK h.u64) (se_ix h.pK h.u65 (v_law_part1_5 h) se_int (fun _ _ => rfl)) se_int rfl bl_ne))).pt (ss_cons (ss_ret se_bool) ss_nil) ss_nil) (ss_cons (ss_ret (se_and h.pK (se_cmp (opd_eq h.pK h.u64) (w_call h T.f_less g_law_part1_less (sa_cons (v_law_part1_0 h) (sa_cons (v_law_part1_2 h) (sa_cons (v_law_part1_3 h) sa_nil rfl) rfl) rfl) rfl rfl) (w_call h T.f_law_less g_law_part1_law_less (sa_cons (v_law_part1_5 h) (sa_cons (v_law_part1_6 h) sa_nil rfl) rfl) rfl rfl) rfl) (pe_one (se_not h.pK (w_call h T.f_less g_law_part1_less (sa_cons (v_law_part1_0 h) (sa_cons (w_call h T.f_greatest g_law_part1_greatest (sa_cons (v_law_part1_0 h) sa_nil rfl) rfl rfl) (sa_cons (v_law_part1_2 h) sa_nil rfl) rfl) rfl) rfl rfl))))) ss_nil))))))))
theorem v_law_0 {fz : Str → Bool} (h : CxW Γ lo E X n_law (defScope s_law) fz) {pos : Pos} : PE X (.Name "script" pos) (tE Γ.g E k (eVar 0)) := w_var h (by kernel_rfl)
theorem v_law_1 {fz : Str → Bool} (h : CxW Γ lo E X n_law (defScope s_law) fz) {pos : Pos} : PE X (.Name "d" pos) (tE Γ.g E k (eVar 1)) := w_var h (by kernel_rfl)
theorem v_law_2 {fz : Str → Bool} (h : CxW Γ lo E X n_law (defScope s_law) fz) {pos : Pos} : PE X (.Name "form" pos) (tE Γ.g E k (eVar 2)) := w_var h (by kernel_rfl)
theorem v_law_3 {fz : Str → Bool} (h : CxW Γ lo E X n_law (defScope s_law) fz) {pos : Pos} : PE X (.Name "half" pos) (tE Γ.g E k (eVar 3)) := w_var h (by kernel_rfl)
theorem v_law_4 {fz : Str → Bool} (h : CxW Γ lo E X n_law (defScope s_law) fz) {pos : Pos} : PE X (.Name "one" pos) (tE Γ.g E k (eVar 4)) := w_var h (by kernel_rfl)
theorem v_law_5 {fz : Str → Bool} (h : CxW Γ lo E X n_law (defScope s_law) fz) {pos : Pos} : PE X (.Name "other" pos) (tE Γ.g E k (eVar 5)) := w_var h (by kernel_rfl)
theorem v_law_6 {fz : Str → Bool} (h : CxW Γ lo E X n_law (defScope s_law) fz) {pos : Pos} : PE X (.Name "third" pos) (tE Γ.g E k (eVar 6)) := w_var h (by kernel_rfl)
theorem v_law_7 {fz : Str → Bool} (h : CxW Γ lo E X n_law (defScope s_law) fz) {pos : Pos} : PE X (.Name "a" pos) (tE Γ.g E k (eVar 7)) := w_var h (by kernel_rfl)
theorem v_law_8 {fz : Str → Bool} (h : CxW Γ lo E X n_law (defScope s_law) fz) {pos : Pos} : PE X (.Name "b" pos) (tE Γ.g E k (eVar 8)) := w_var h (by kernel_rfl)
theorem v_law_9 {fz : Str → Bool} (h : CxW Γ lo E X n_law (defScope s_law) fz) {pos : Pos} : PE X (.Name "c" pos) (tE Γ.g E k (eVar 9)) := w_var h (by kernel_rfl)
theorem v_law_10 {fz : Str → Bool} (h : CxW Γ lo E X n_law (defScope s_law) fz) {pos : Pos} : PE X (.Name "near" pos) (tE Γ.g E k (eVar 10)) := w_var h (by kernel_rfl)
theorem v_law_11 {fz : Str → Bool} (h : CxW Γ lo E X n_law (defScope s_law) fz) {pos : Pos} : PE X (.Name "gap" pos) (tE Γ.g E k (eVar 11)) := w_var h (by kernel_rfl)
theorem v_law_12 {fz : Str → Bool} (h : CxW Γ lo E X n_law (defScope s_law) fz) {pos : Pos} : PE X (.Name "told" pos) (tE Γ.g E k (eVar 12)) := w_var h (by kernel_rfl)
theorem v_law_13 {fz : Str → Bool} (h : CxW Γ lo E X n_law (defScope s_law) fz) {pos : Pos} : PE X (.Name "rows" pos) (tE Γ.g E k (eVar 13)) := w_var h (by kernel_rfl)
theorem v_law_14 {fz : Str → Bool} (h : CxW Γ lo E X n_law (defScope s_law) fz) {pos : Pos} : PE X (.Name "way" pos) (tE Γ.g E k (eVar 14)) := w_var h (by kernel_rfl)
theorem v_law_15 {fz : Str → Bool} (h : CxW Γ lo E X n_law (defScope s_law) fz) {pos : Pos} : PE X (.Name "back" pos) (tE Γ.g E k (eVar 15)) := w_var h (by kernel_rfl)
theorem s_law_7 : stB (defScope s_law) (fun _ => true) n_law 7 "a" = true := by kernel_rfl
theorem s_law_8 : stB (defScope s_law) (fun _ => true) n_law 8 "b" = true := by kernel_rfl
theorem s_law_15 : stB (defScope s_law) (fun _ => true) n_law 15 "back" = true := by kernel_rfl
theorem s_law_9 : stB (defScope s_law) (fun _ => true) n_law 9 "c" = true := by kernel_rfl
theorem s_law_1 : stB (defScope s_law) (fun _ => true) n_law 1 "d" = true := by kernel_rfl
theorem s_law_2 : stB (defScope s_law) (fun _ => true) n_law 2 "form" = true := by kernel_rfl
theorem s_law_11 : stB (defScope s_law) (fun _ => true) n_law 11 "gap" = true := by kernel_rfl
theorem s_law_3 : stB (defScope s_law) (fun _ => true) n_law 3 "half" = true := by kernel_rfl
theorem s_law_10 : stB (defScope s_law) (fun _ => true) n_law 10 "near" = true := by kernel_rfl
theorem s_law_4 : stB (defScope s_law) (fun _ => true) n_law 4 "one" = true := by kernel_rfl
theorem s_law_5 : stB (defScope s_law) (fun _ => true) n_law 5 "other" = true := by kernel_rfl
theorem s_law_13 : stB (defScope s_law) (fun _ => true) n_law 13 "rows" = true := by kernel_rfl
theorem s_law_6 : stB (defScope s_law) (fun _ => true) n_law 6 "third" = true := by kernel_rfl
theorem s_law_12 : stB (defScope s_law) (fun _ => true) n_law 12 "told" = true := by kernel_rfl
theorem s_law_14 : stB (defScope s_law) (fun _ => true) n_law 14 "way" = true := by kernel_rfl
theorem g_law_law_begin : glB (defScope s_law) "_law_begin" = true := by kernel_rfl
theorem g_law_law_less : glB (defScope s_law) "_law_less" = true := by kernel_rfl
theorem g_law_law_part1 : glB (defScope s_law) "_law_part1" = true := by kernel_rfl
theorem g_law_law_take : glB (defScope s_law) "_law_take" = true := by kernel_rfl
theorem gb_law_abs : bltB (defScope s_law) "abs" = true := by kernel_rfl
theorem g_law_add : glB (defScope s_law) "add" = true := by kernel_rfl
theorem g_law_divide : glB (defScope s_law) "divide" = true := by kernel_rfl
theorem g_law_kind : glB (defScope s_law) "kind" = true := by kernel_rfl
theorem g_law_multiply : glB (defScope s_law) "multiply" = true := by kernel_rfl
theorem g_law_pair_sum : glB (defScope s_law) "pair_sum" = true := by kernel_rfl
theorem g_law_rounded : glB (defScope s_law) "rounded" = true := by kernel_rfl
theorem g_law_size : glB (defScope s_law) "size" = true := by kernel_rfl
theorem g_law_turned : glB (defScope s_law) "turned" = true := by kernel_rfl
theorem g_law_value : glB (defScope s_law) "value" = true := by kernel_rfl
theorem r_law (h : CxW Γ lo E X n_law (defScope s_law) (fun _ => true)) (T : Tx Γ lo k) : PSs X (defBody s_law) (tSS Γ.g E k c_law) := by
  unfold c_law
  exact (ss_cons (w_set (i := 1) h s_law_1 (w_call h T.f_law_begin g_law_law_begin (sa_cons (v_law_0 h) sa_nil rfl) rfl rfl) rfl) (ss_cons (w_set (i := 2) h s_law_2 (se_tup (sa_cons (se_op (opd_add h.pK) se_int (w_call h T.f_law_take g_law_law_take (sa_cons (v_law_1 h) (sa_cons se_int sa_nil rfl) rfl) rfl rfl)) (sa_cons (se_op (opd_add h.pK) se_int (w_call h T.f_law_take g_law_law_take (sa_cons (v_law_1 h) (sa_cons se_int sa_nil rfl) rfl) rfl rfl)) sa_nil rfl) rfl)) rfl) (ss_cons (w_set (i := 3) h s_law_3 (se_op (opd_div) (w_call h T.f_size g_law_size (sa_cons (v_law_2 h) sa_nil rfl) rfl rfl) se_int) rfl) (ss_cons (w_set (i := 4) h s_law_4 (w_call h T.f_law_take g_law_law_take (sa_cons (v_law_1 h) (sa_cons (w_call h T.f_size g_law_size (sa_cons (v_law_2 h) sa_nil rfl) rfl rfl) sa_nil rfl) rfl) rfl rfl) rfl) (ss_cons (w_set (i := 5) h s_law_5 (w_call h T.f_law_take g_law_law_take (sa_cons (v_law_1 h) (sa_cons (w_call h T.f_size g_law_size (sa_cons (v_law_2 h) sa_nil rfl) rfl rfl) sa_nil rfl) rfl) rfl rfl) rfl) (ss_cons (w_set (i := 6) h s_law_6 (w_call h T.f_law_take g_law_law_take (sa_cons (v_law_1 h) (sa_cons (w_call h T.f_size g_law_size (sa_cons (v_law_2 h) sa_nil rfl) rfl rfl) sa_nil rfl) rfl) rfl rfl) rfl) (ss_cons (w_set (i := 7) h s_law_7 (w_call h T.f_value g_law_value (sa_cons (v_law_2 h) (sa_cons (v_law_4 h) sa_nil rfl) rfl) rfl rfl) rfl) (ss_cons (w_set (i := 8) h s_law_8 (w_call h T.f_value g_law_value (sa_cons (v_law_2 h) (sa_cons (v_law_5 h) sa_nil rfl) rfl) rfl rfl) rfl) (ss_cons (w_set (i := 9) h s_law_9 (w_call h T.f_value g_law_value (sa_cons (v_law_2 h) (sa_cons (v_law_6 h) sa_nil rfl) rfl) rfl rfl) rfl) (ss_cons (ss_if (sw_or (st_cmp (opd_is) (v_law_7 h) se_none rfl bl_is) (sw_or1 (st_cmp (opd_is) (v_law_8 h) se_none rfl bl_is))).pt (ss_cons (ss_ret (se_cmp (opd_in h.pK h.u65) (w_call h T.f_kind g_law_kind (sa_cons (v_law_2 h) (sa_cons (w_call h T.f_add g_law_add (sa_cons (v_law_2 h) (sa_cons (v_law_4 h) (sa_cons (v_law_5 h) (sa_cons se_str sa_nil rfl) rfl) rfl) rfl) rfl rfl) sa_nil rfl) rfl) rfl rfl) (se_tup (sa_cons se_str (sa_cons se_str sa_nil rfl) rfl)) rfl)) ss_nil) ss_nil) (ss_cons (w_set (i := 10) h s_law_10 (se_and h.pK (se_cmp (opd_gt) (se_op (opd_mul h.pK) (se_ix h.pK h.u65 (v_law_7 h) se_int (fun _ _ => rfl)) (se_ix h.pK h.u65 (v_law_8 h) se_int (fun _ _ => rfl))) se_int rfl) (se_and h.pK (se_not h.pK (w_call h T.f_law_less g_law_law_less (sa_cons (se_tup (sa_cons (se_op (opd_mul h.pK) se_int (w_abs h (sa_cons (se_ix h.pK h.u65 (v_law_7 h) se_int (fun _ _ => rfl)) sa_nil rfl) rfl rfl gb_law_abs T.b_abs)) (sa_cons (se_ix h.pK h.u65 (v_law_7 h) se_int (fun _ _ => rfl)) sa_nil rfl) rfl)) (sa_cons (se_tup (sa_cons (w_abs h (sa_cons (se_ix h.pK h.u65 (v_law_8 h) se_int (fun _ _ => rfl)) sa_nil rfl) rfl rfl gb_law_abs T.b_abs) (sa_cons (se_ix h.pK h.u65 (v_law_8 h) se_int (fun _ _ => rfl)) sa_nil rfl) rfl)) sa_nil rfl) rfl) rfl rfl)) (pe_one (se_not h.pK (w_call h T.f_law_less g_law_law_less (sa_cons (se_tup (sa_cons (se_op (opd_mul h.pK) se_int (w_abs h (sa_cons (se_ix h.pK h.u65 (v_law_8 h) se_int (fun _ _ => rfl)) sa_nil rfl) rfl rfl gb_law_abs T.b_abs)) (sa_cons (se_ix h.pK h.u65 (v_law_8 h) se_int (fun _ _ => rfl)) sa_nil rfl) rfl)) (sa_cons (se_tup (sa_cons (w_abs h (sa_cons (se_ix h.pK h.u65 (v_law_7 h) se_int (fun _ _ => rfl)) sa_nil rfl) rfl rfl gb_law_abs T.b_abs) (sa_cons (se_ix h.pK h.u65 (v_law_7 h) se_int (fun _ _ => rfl)) sa_nil rfl) rfl)) sa_nil rfl) rfl) rfl rfl))))) rfl) (ss_cons (w_set (i := 11) h s_law_11 (w_call h T.f_value g_law_value (sa_cons (v_law_2 h) (sa_cons (w_call h T.f_add g_law_add (sa_cons (v_law_2 h) (sa_cons (v_law_4 h) (sa_cons (w_call h T.f_turned g_law_turned (sa_cons (v_law_2 h) (sa_cons (v_law_5 h) sa_nil rfl) rfl) rfl rfl) (sa_cons se_str sa_nil rfl) rfl) rfl) rfl) rfl rfl) sa_nil rfl) rfl) rfl rfl) rfl) (ss_cons (ss_if (sw_and (st_plain h.pK (v_law_10 h) (fun _ => rfl)) (sw_and1 (sw_or (st_cmp (opd_is) (v_law_11 h) se_none rfl bl_is) (sw_or1 (st_cmp (opd_ne h.pK h.u64) (se_op (opd_mul h.pK) (se_op (opd_mul h.pK) (se_ix h.pK h.u65 (v_law_11 h) se_int (fun _ _ => rfl)) (se_ix h.pK h.u65 (v_law_7 h) se_int (fun _ _ => rfl))) (se_ix h.pK h.u65 (v_law_8 h) se_int (fun _ _ => rfl))) (se_op (opd_mul h.pK) (se_op (opd_sub) (se_op (opd_mul h.pK) (se_ix h.pK h.u65 (v_law_7 h) se_int (fun _ _ => rfl)) (se_ix h.pK h.u65 (v_law_8 h) se_int (fun _ _ => rfl))) (se_op (opd_mul h.pK) (se_ix h.pK h.u65 (v_law_8 h) se_int (fun _ _ => rfl)) (se_ix h.pK h.u65 (v_law_7 h) se_int (fun _ _ => rfl)))) (se_ix h.pK h.u65 (v_law_11 h) se_int (fun _ _ => rfl))) rfl bl_ne))).pt)).pt (ss_cons (ss_ret se_bool) ss_nil) ss_nil) (ss_cons (w_set (i := 12) h s_law_12 (w_call h T.f_pair_sum g_law_pair_sum (sa_cons (v_law_2 h) (sa_cons (v_law_4 h) (sa_cons (v_law_5 h) sa_nil rfl) rfl) rfl) rfl rfl) rfl) (ss_cons (ss_if (st_cmp (opd_isnot) (v_law_12 h) se_none rfl bl_isnot) (ss_cons (w_set (i := 15) h s_law_15 (w_call h T.f_rounded g_law_rounded (sa_cons (v_law_2 h) (sa_cons (se_ix h.pK h.u65 (v_law_12 h) se_int (fun _ _ => rfl)) (sa_cons se_str sa_nil rfl) rfl) rfl) rfl rfl) rfl) (ss_cons (ss_if (st_cmp (opd_ne h.pK h.u64) (w_call h T.f_value g_law_value (sa_cons (v_law_2 h) (sa_cons (v_law_15 h) sa_nil rfl) rfl) rfl rfl) (se_ix h.pK h.u65 (v_law_12 h) se_int (fun _ _ => rfl)) rfl bl_ne) (ss_cons (ss_ret se_bool) ss_nil) ss_nil) (ss_cons (ss_if (sw_and (st_cmp (opd_gt) (se_op (opd_mul h.pK) (se_op (opd_mul h.pK) se_int (w_abs h (sa_cons (se_ix h.pK h.u65 (se_ix h.pK h.u65 (v_law_12 h) se_int (fun _ _ => rfl)) se_int (fun _ _ => rfl)) sa_nil rfl) rfl rfl gb_law_abs T.b_abs)) (se_ix h.pK h.u65 (w_call h T.f_value g_law_value (sa_cons (v_law_2 h) (sa_cons (se_ix h.pK h.u65 (v_law_12 h) se_int (fun _ _ => rfl)) sa_nil rfl) rfl) rfl rfl) se_int (fun _ _ => rfl))) se_int rfl bl_gt) (sw_and1 (st_cmp (opd_ne h.pK h.u64) (w_call h T.f_value g_law_value (sa_cons (v_law_2 h) (sa_cons (w_call h T.f_add g_law_add (sa_cons (v_law_2 h) (sa_cons (se_ix h.pK h.u65 (v_law_12 h) se_int (fun _ _ => rfl)) (sa_cons (v_law_15 h) (sa_cons se_str sa_nil rfl) rfl) rfl) rfl) rfl rfl) sa_nil rfl) rfl) rfl rfl) (w_call h T.f_value g_law_value (sa_cons (v_law_2 h) (sa_cons (se_ix h.pK h.u65 (v_law_12 h) se_int (fun _ _ => rfl)) sa_nil rfl) rfl) rfl rfl) rfl bl_ne))).pt (ss_cons (ss_ret se_bool) ss_nil) ss_nil) ss_nil))) ss_nil) (ss_cons (w_set (i := 13) h s_law_13 se_dct0 rfl) (ss_cons (w_for h (si_seq h.pK (se_tup (sa_cons se_str (sa_cons se_str (sa_cons se_str (sa_cons se_str sa_nil rfl) rfl) rfl) rfl))) (w_name (i := 14) h s_law_14) tok_name (ss_cons (ss_asg (se_tup (sa_cons (w_call h T.f_add g_law_add (sa_cons (v_law_2 h) (sa_cons (v_law_4 h) (sa_cons (v_law_5 h) (sa_cons (v_law_14 h) sa_nil rfl) rfl) rfl) rfl) rfl rfl) (sa_cons (w_call h T.f_multiply g_law_multiply (sa_cons (v_law_2 h) (sa_cons (v_law_4 h) (sa_cons (v_law_5 h) (sa_cons (v_law_14 h) sa_nil rfl) rfl) rfl) rfl) rfl rfl) (sa_cons (w_call h T.f_divide g_law_divide (sa_cons (v_law_2 h) (sa_cons (v_law_4 h) (sa_cons (v_law_5 h) (sa_cons (v_law_14 h) sa_nil rfl) rfl) rfl) rfl) rfl rfl) sa_nil rfl) rfl) rfl)) (sg_sub h.u65 (v_law_13 h) (v_law_14 h) (fun _ => rfl)) tok_sub rfl rfl rfl) ss_nil) (fun _ => rfl)) (ss_cons (ss_ret (w_call h T.f_law_part1 g_law_law_part1 (sa_cons (v_law_2 h) (sa_cons (v_law_3 h) (sa_cons (v_law_4 h) (sa_cons (v_law_5 h) (sa_cons (v_law_6 h) (sa_cons (v_law_7 h) (sa_cons (v_law_8 h) (sa_cons (v_law_9 h) (sa_cons (v_law_13 h) sa_nil rfl) rfl) rfl) rfl) rfl) rfl) rfl) rfl) rfl) rfl rfl)) ss_nil))))))))))))))))))
end
/-! ### the head -/
abbrev s_init : Stmt := inClass (top 1) 0
def d_check_form : He.DefD := ⟨("check_form", none), "check_form", "check_form", defArgs s_check_form, defBody s_check_form, defScope s_check_form, [], []⟩
def d_power_of : He.DefD := ⟨("power_of", none), "power_of", "power_of", defArgs s_power_of, defBody s_power_of, defScope s_power_of, [], []⟩
def d_bias : He.DefD := ⟨("bias", none), "bias", "bias", defArgs s_bias, defBody s_bias, defScope s_bias, [], []⟩
def d_least_power : He.DefD := ⟨("least_power", none), "least_power", "least_power", defArgs s_least_power, defBody s_least_power, defScope s_least_power, [], []⟩
def d_size : He.DefD := ⟨("size", none), "size", "size", defArgs s_size, defBody s_size, defScope s_size, [], []⟩
def d_check_code : He.DefD := ⟨("check_code", none), "check_code", "check_code", defArgs s_check_code, defBody s_check_code, defScope s_check_code, [], []⟩
def d_parts : He.DefD := ⟨("parts", none), "parts", "parts", defArgs s_parts, defBody s_parts, defScope s_parts, [], []⟩
def d_kind : He.DefD := ⟨("kind", none), "kind", "kind", defArgs s_kind, defBody s_kind, defScope s_kind, [], []⟩
def d_reduced : He.DefD := ⟨("reduced", none), "reduced", "reduced", defArgs s_reduced, defBody s_reduced, defScope s_reduced, [], []⟩
def d_value : He.DefD := ⟨("value", none), "value", "value", defArgs s_value, defBody s_value, defScope s_value, [], []⟩
def d_greatest : He.DefD := ⟨("greatest", none), "greatest", "greatest", defArgs s_greatest, defBody s_greatest, defScope s_greatest, [], []⟩
def d_endless : He.DefD := ⟨("endless", none), "endless", "endless", defArgs s_endless, defBody s_endless, defScope s_endless, [], []⟩
def d_nothing : He.DefD := ⟨("nothing", none), "nothing", "nothing", defArgs s_nothing, defBody s_nothing, defScope s_nothing, [], []⟩
def d_floor_code : He.DefD := ⟨("floor_code", none), "floor_code", "floor_code", defArgs s_floor_code, defBody s_floor_code, defScope s_floor_code, [], []⟩
def d_rounded : He.DefD := ⟨("rounded", none), "rounded", "rounded", defArgs s_rounded, defBody s_rounded, defScope s_rounded, [], []⟩
def d_is_nearer_above : He.DefD := ⟨("is_nearer_above", none), "is_nearer_above", "is_nearer_above", defArgs s_is_nearer_above, defBody s_is_nearer_above, defScope s_is_nearer_above, [], []⟩
def d_below_step : He.DefD := ⟨("below_step", none), "below_step", "below_step", defArgs s_below_step, defBody s_below_step, defScope s_below_step, [], []⟩
def d_signed_nought : He.DefD := ⟨("signed_nought", none), "signed_nought", "signed_nought", defArgs s_signed_nought, defBody s_signed_nought, defScope s_signed_nought, [], []⟩
def d_add : He.DefD := ⟨("add", none), "add", "add", defArgs s_add, defBody s_add, defScope s_add, [], []⟩
def d_turned : He.DefD := ⟨("turned", none), "turned", "turned", defArgs s_turned, defBody s_turned, defScope s_turned, [], []⟩
def d_multiply : He.DefD := ⟨("multiply", none), "multiply", "multiply", defArgs s_multiply, defBody s_multiply, defScope s_multiply, [], []⟩
def d_divide : He.DefD := ⟨("divide", none), "divide", "divide", defArgs s_divide, defBody s_divide, defScope s_divide, [], []⟩
def d_less : He.DefD := ⟨("less", none), "less", "less", defArgs s_less, defBody s_less, defScope s_less, [], []⟩
def d_place_of : He.DefD := ⟨("place_of", none), "place_of", "place_of", defArgs s_place_of, defBody s_place_of, defScope s_place_of, [], []⟩
def d_next_up : He.DefD := ⟨("next_up", none), "next_up", "next_up", defArgs s_next_up, defBody s_next_up, defScope s_next_up, [], []⟩
def d_pair_sum : He.DefD := ⟨("pair_sum", none), "pair_sum", "pair_sum", defArgs s_pair_sum, defBody s_pair_sum, defScope s_pair_sum, [], []⟩
def d_law_begin : He.DefD := ⟨("_law_begin", none), "_law_begin", "_law_begin", defArgs s_law_begin, defBody s_law_begin, defScope s_law_begin, [], []⟩
def d_law_take : He.DefD := ⟨("_law_take", none), "_law_take", "_law_take", defArgs s_law_take, defBody s_law_take, defScope s_law_take, [], []⟩
def d_law_less : He.DefD := ⟨("_law_less", none), "_law_less", "_law_less", defArgs s_law_less, defBody s_law_less, defScope s_law_less, [], []⟩
def d_law_part1 : He.DefD := ⟨("_law_part1", none), "_law_part1", "_law_part1", defArgs s_law_part1, defBody s_law_part1, defScope s_law_part1, [], []⟩
def d_law : He.DefD := ⟨("law", none), "law", "law", defArgs s_law, defBody s_law, defScope s_law, [], []⟩
def fnl : List He.DefD := [d_check_form, d_power_of, d_bias, d_least_power, d_size, d_check_code, d_parts, d_kind, d_reduced, d_value, d_greatest, d_endless, d_nothing, d_floor_code, d_rounded, d_is_nearer_above, d_below_step, d_signed_nought, d_add, d_turned, d_multiply, d_divide, d_less, d_place_of, d_next_up, d_pair_sum, d_law_begin, d_law_take, d_law_less, d_law_part1, d_law]
def fal : List He.Fa := [.glo "check_form", .glo "power_of", .glo "bias", .glo "least_power", .glo "size", .glo "check_code", .glo "parts", .glo "kind", .glo "reduced", .glo "value", .glo "greatest", .glo "endless", .glo "nothing", .glo "floor_code", .glo "rounded", .glo "is_nearer_above", .glo "below_step", .glo "signed_nought", .glo "add", .glo "turned", .glo "multiply", .glo "divide", .glo "less", .glo "place_of", .glo "next_up", .glo "pair_sum", .glo "_law_begin", .glo "_law_take", .glo "_law_less", .glo "_law_part1", .glo "law", .glo "WAYS", .glo "MachineError", .free "super", .free "abs", .free "int", .free "len", .free "list", .free "max", .free "range"]
def tfl : List He.Defn := []
abbrev RR : PySem.W.OpenRow := PySem.W.OpenLaw.row PySem.Challenge.rw_machinehall_k29_whole_points_that_move_e
def exD (K : PySem.W.Frag) : Bool := datB K 4 (.ref (He.ga K "WAYS")) (.tup [(.str "even"), (.str "zero"), (.str "up"), (.str "down")]) && true
def exF (K : PySem.W.Frag) : Bool := errB PySem.Challenge.pw_machinehall_k29_whole_points_that_move_e.main.file K && (decide ((tfl.map fun p => (He.cT K p).2).Nodup) && exD K)
theorem ex1 {K : PySem.W.Frag} (h : exF K = true) : errB PySem.Challenge.pw_machinehall_k29_whole_points_that_move_e.main.file K = true := (Bool.and_eq_true_iff.mp h).1
theorem ex2 {K : PySem.W.Frag} (h : exF K = true) : decide ((tfl.map fun p => (He.cT K p).2).Nodup) = true := (Bool.and_eq_true_iff.mp (Bool.and_eq_true_iff.mp h).2).1
theorem ex3 {K : PySem.W.Frag} (h : exF K = true) : exD K = true := (Bool.and_eq_true_iff.mp (Bool.and_eq_true_iff.mp h).2).2
theorem gdat_ok {h : Heap} {K : PySem.W.Frag} {mg : Str → Option Value} (X : K.In h) (G : h.Ns mainGlobals mg) {x : Str} {d : D} (f : He.Fa.ok K (He.Fa.glo x) = true) (e : datB K 4 (.ref (He.ga K x)) d = true) : ∃ a, mg x = some (.ref a) ∧ datB K 4 (.ref a) d = true := ⟨_, He.glo_ok X G f, e⟩
abbrev hkK : PySem.W.Hook := hookY 5 fal fnl tfl s_init exF
def obK (s : PySem.W.SharedT) : AlY := obsY 5 fal fnl tfl exF (HandSHeadRun.getT s)
theorem ob_eq (s : PySem.W.SharedT) : obK s = hkK.obs s.abs := obsY_eq (HandSHeadRun.getT_eq s)
def others : List Str := ("__name__" : Str) :: ("MachineError" : Str) :: ("WAYS" : Str) :: ("check_form" : Str) :: ("power_of" : Str) :: ("bias" : Str) :: ("least_power" : Str) :: ("size" : Str) :: ("check_code" : Str) :: ("parts" : Str) :: ("kind" : Str) :: ("reduced" : Str) :: ("value" : Str) :: ("greatest" : Str) :: ("endless" : Str) :: ("nothing" : Str) :: ("floor_code" : Str) :: ("rounded" : Str) :: ("is_nearer_above" : Str) :: ("below_step" : Str) :: ("signed_nought" : Str) :: ("add" : Str) :: ("turned" : Str) :: ("multiply" : Str) :: ("divide" : Str) :: ("less" : Str) :: ("place_of" : Str) :: ("next_up" : Str) :: ("pair_sum" : Str) :: ("_law_begin" : Str) :: ("_law_take" : Str) :: ("_law_less" : Str) :: ("_law_part1" : Str) :: []
theorem run (w : World) : HandSHeadRun.RunEq RR (PySem.W.view RR.prog [35]) hkK obK 4000 others w := by
  intro os
  kernel_rfl
theorem sc_check_form : FnScope n_check_form ["form"] (defScope s_check_form) := ⟨rfl, rfl, rfl, by decide +kernel, rfl, by decide +kernel, by decide +kernel⟩
theorem sc_power_of : FnScope n_power_of ["number"] (defScope s_power_of) := ⟨rfl, rfl, rfl, by decide +kernel, rfl, by decide +kernel, by decide +kernel⟩
theorem sc_bias : FnScope n_bias ["form"] (defScope s_bias) := ⟨rfl, rfl, rfl, by decide +kernel, rfl, by decide +kernel, by decide +kernel⟩
theorem sc_least_power : FnScope n_least_power ["form"] (defScope s_least_power) := ⟨rfl, rfl, rfl, by decide +kernel, rfl, by decide +kernel, by decide +kernel⟩
theorem sc_size : FnScope n_size ["form"] (defScope s_size) := ⟨rfl, rfl, rfl, by decide +kernel, rfl, by decide +kernel, by decide +kernel⟩
theorem sc_check_code : FnScope n_check_code ["form", "code"] (defScope s_check_code) := ⟨rfl, rfl, rfl, by decide +kernel, rfl, by decide +kernel, by decide +kernel⟩
theorem sc_parts : FnScope n_parts ["form", "code"] (defScope s_parts) := ⟨rfl, rfl, rfl, by decide +kernel, rfl, by decide +kernel, by decide +kernel⟩
theorem sc_kind : FnScope n_kind ["form", "code"] (defScope s_kind) := ⟨rfl, rfl, rfl, by decide +kernel, rfl, by decide +kernel, by decide +kernel⟩
theorem sc_reduced : FnScope n_reduced ["top", "bottom"] (defScope s_reduced) := ⟨rfl, rfl, rfl, by decide +kernel, rfl, by decide +kernel, by decide +kernel⟩
theorem sc_value : FnScope n_value ["form", "code"] (defScope s_value) := ⟨rfl, rfl, rfl, by decide +kernel, rfl, by decide +kernel, by decide +kernel⟩
theorem sc_greatest : FnScope n_greatest ["form"] (defScope s_greatest) := ⟨rfl, rfl, rfl, by decide +kernel, rfl, by decide +kernel, by decide +kernel⟩
theorem sc_endless : FnScope n_endless ["form", "sign"] (defScope s_endless) := ⟨rfl, rfl, rfl, by decide +kernel, rfl, by decide +kernel, by decide +kernel⟩
theorem sc_nothing : FnScope n_nothing ["form"] (defScope s_nothing) := ⟨rfl, rfl, rfl, by decide +kernel, rfl, by decide +kernel, by decide +kernel⟩
theorem sc_floor_code : FnScope n_floor_code ["form", "top", "bottom"] (defScope s_floor_code) := ⟨rfl, rfl, rfl, by decide +kernel, rfl, by decide +kernel, by decide +kernel⟩
theorem sc_rounded : FnScope n_rounded ["form", "fraction", "way"] (defScope s_rounded) := ⟨rfl, rfl, rfl, by decide +kernel, rfl, by decide +kernel, by decide +kernel⟩
theorem sc_is_nearer_above : FnScope n_is_nearer_above ["form", "low", "top", "bottom"] (defScope s_is_nearer_above) := ⟨rfl, rfl, rfl, by decide +kernel, rfl, by decide +kernel, by decide +kernel⟩
theorem sc_below_step : FnScope n_below_step ["form", "low"] (defScope s_below_step) := ⟨rfl, rfl, rfl, by decide +kernel, rfl, by decide +kernel, by decide +kernel⟩
theorem sc_signed_nought : FnScope n_signed_nought ["form", "sign"] (defScope s_signed_nought) := ⟨rfl, rfl, rfl, by decide +kernel, rfl, by decide +kernel, by decide +kernel⟩
theorem sc_add : FnScope n_add ["form", "one", "other", "way"] (defScope s_add) := ⟨rfl, rfl, rfl, by decide +kernel, rfl, by decide +kernel, by decide +kernel⟩
theorem sc_turned : FnScope n_turned ["form", "one"] (defScope s_turned) := ⟨rfl, rfl, rfl, by decide +kernel, rfl, by decide +kernel, by decide +kernel⟩
theorem sc_multiply : FnScope n_multiply ["form", "one", "other", "way"] (defScope s_multiply) := ⟨rfl, rfl, rfl, by decide +kernel, rfl, by decide +kernel, by decide +kernel⟩
theorem sc_divide : FnScope n_divide ["form", "one", "other", "way"] (defScope s_divide) := ⟨rfl, rfl, rfl, by decide +kernel, rfl, by decide +kernel, by decide +kernel⟩
theorem sc_less : FnScope n_less ["form", "one", "other"] (defScope s_less) := ⟨rfl, rfl, rfl, by decide +kernel, rfl, by decide +kernel, by decide +kernel⟩
theorem sc_place_of : FnScope n_place_of ["form", "code"] (defScope s_place_of) := ⟨rfl, rfl, rfl, by decide +kernel, rfl, by decide +kernel, by decide +kernel⟩
theorem sc_next_up : FnScope n_next_up ["form", "code"] (defScope s_next_up) := ⟨rfl, rfl, rfl, by decide +kernel, rfl, by decide +kernel, by decide +kernel⟩
theorem sc_pair_sum : FnScope n_pair_sum ["form", "one", "other"] (defScope s_pair_sum) := ⟨rfl, rfl, rfl, by decide +kernel, rfl, by decide +kernel, by decide +kernel⟩
theorem sc_law_begin : FnScope n_law_begin ["script"] (defScope s_law_begin) := ⟨rfl, rfl, rfl, by decide +kernel, rfl, by decide +kernel, by decide +kernel⟩
theorem sc_law_take : FnScope n_law_take ["d", "many"] (defScope s_law_take) := ⟨rfl, rfl, rfl, by decide +kernel, rfl, by decide +kernel, by decide +kernel⟩
theorem sc_law_less : FnScope n_law_less ["one", "other"] (defScope s_law_less) := ⟨rfl, rfl, rfl, by decide +kernel, rfl, by decide +kernel, by decide +kernel⟩
theorem sc_law_part1 : FnScope n_law_part1 ["form", "half", "one", "other", "third", "a", "b", "c", "rows"] (defScope s_law_part1) := ⟨rfl, rfl, rfl, by decide +kernel, rfl, by decide +kernel, by decide +kernel⟩
theorem sc_law : FnScope n_law ["script"] (defScope s_law) := ⟨rfl, rfl, rfl, by decide +kernel, rfl, by decide +kernel, by decide +kernel⟩
section
variable {w : World} {mg : Str → Option Value} {base h : Heap} {K : PySem.W.Frag}
def TTb (K : PySem.W.Frag) : List (Addr × Str) := tfl.map fun p => ((He.cT K p).2, p.1 ++ ".<locals>." ++ "<lambda>")
abbrev G0 (w : World) (mg : Str → Option Value) (base : Heap) (K : PySem.W.Frag) : W0 := ⟨PySem.Challenge.pw_machinehall_k29_whole_points_that_move_e, w, mg, base, ⟨exA K, K, TTb K, []⟩⟩
variable (X : K.In h) (G : h.Ns mainGlobals mg) (c : SaysY fal fnl tfl s_init exF h K) (hT : ∀ p ∈ tfl.map (He.cT K), LamX.TabB base mg p.1 p.2)
include X G c
theorem df_check_form : DF (G0 w mg base K) "check_form" s_check_form n_check_form ["form"] := by
  obtain ⟨fd, F⟩ := c.d.def_ 0 (d := d_check_form) rfl
  exact df_of F (He.glo_ok X G (c.d.fact 0 (f := .glo "check_form") rfl)) sc_check_form (fun _ _ _ _ _ _ us hl => match us, hl with | [_], _ => rfl)
theorem df_power_of : DF (G0 w mg base K) "power_of" s_power_of n_power_of ["number"] := by
  obtain ⟨fd, F⟩ := c.d.def_ 1 (d := d_power_of) rfl
  exact df_of F (He.glo_ok X G (c.d.fact 1 (f := .glo "power_of") rfl)) sc_power_of (fun _ _ _ _ _ _ us hl => match us, hl with | [_], _ => rfl)
theorem df_bias : DF (G0 w mg base K) "bias" s_bias n_bias ["form"] := by
  obtain ⟨fd, F⟩ := c.d.def_ 2 (d := d_bias) rfl
  exact df_of F (He.glo_ok X G (c.d.fact 2 (f := .glo "bias") rfl)) sc_bias (fun _ _ _ _ _ _ us hl => match us, hl with | [_], _ => rfl)
theorem df_least_power : DF (G0 w mg base K) "least_power" s_least_power n_least_power ["form"] := by
  obtain ⟨fd, F⟩ := c.d.def_ 3 (d := d_least_power) rfl
  exact df_of F (He.glo_ok X G (c.d.fact 3 (f := .glo "least_power") rfl)) sc_least_power (fun _ _ _ _ _ _ us hl => match us, hl with | [_], _ => rfl)
theorem df_size : DF (G0 w mg base K) "size" s_size n_size ["form"] := by
  obtain ⟨fd, F⟩ := c.d.def_ 4 (d := d_size) rfl
  exact df_of F (He.glo_ok X G (c.d.fact 4 (f := .glo "size") rfl)) sc_size (fun _ _ _ _ _ _ us hl => match us, hl with | [_], _ => rfl)
theorem df_check_code : DF (G0 w mg base K) "check_code" s_check_code n_check_code ["form", "code"] := by
  obtain ⟨fd, F⟩ := c.d.def_ 5 (d := d_check_code) rfl
  exact df_of F (He.glo_ok X G (c.d.fact 5 (f := .glo "check_code") rfl)) sc_check_code (fun _ _ _ _ _ _ us hl => match us, hl with | [_, _], _ => rfl)
theorem df_parts : DF (G0 w mg base K) "parts" s_parts n_parts ["form", "code"] := by
  obtain ⟨fd, F⟩ := c.d.def_ 6 (d := d_parts) rfl
  exact df_of F (He.glo_ok X G (c.d.fact 6 (f := .glo "parts") rfl)) sc_parts (fun _ _ _ _ _ _ us hl => match us, hl with | [_, _], _ => rfl)
theorem df_kind : DF (G0 w mg base K) "kind" s_kind n_kind ["form", "code"] := by
  obtain ⟨fd, F⟩ := c.d.def_ 7 (d := d_kind) rfl
  exact df_of F (He.glo_ok X G (c.d.fact 7 (f := .glo "kind") rfl)) sc_kind (fun _ _ _ _ _ _ us hl => match us, hl with | [_, _], _ => rfl)
theorem df_reduced : DF (G0 w mg base K) "reduced" s_reduced n_reduced ["top", "bottom"] := by
  obtain ⟨fd, F⟩ := c.d.def_ 8 (d := d_reduced) rfl
  exact df_of F (He.glo_ok X G (c.d.fact 8 (f := .glo "reduced") rfl)) sc_reduced (fun _ _ _ _ _ _ us hl => match us, hl with | [_, _], _ => rfl)
theorem df_value : DF (G0 w mg base K) "value" s_value n_value ["form", "code"] := by
  obtain ⟨fd, F⟩ := c.d.def_ 9 (d := d_value) rfl
  exact df_of F (He.glo_ok X G (c.d.fact 9 (f := .glo "value") rfl)) sc_value (fun _ _ _ _ _ _ us hl => match us, hl with | [_, _], _ => rfl)
theorem df_greatest : DF (G0 w mg base K) "greatest" s_greatest n_greatest ["form"] := by
  obtain ⟨fd, F⟩ := c.d.def_ 10 (d := d_greatest) rfl
  exact df_of F (He.glo_ok X G (c.d.fact 10 (f := .glo "greatest") rfl)) sc_greatest (fun _ _ _ _ _ _ us hl => match us, hl with | [_], _ => rfl)
theorem df_endless : DF (G0 w mg base K) "endless" s_endless n_endless ["form", "sign"] := by
  obtain ⟨fd, F⟩ := c.d.def_ 11 (d := d_endless) rfl
  exact df_of F (He.glo_ok X G (c.d.fact 11 (f := .glo "endless") rfl)) sc_endless (fun _ _ _ _ _ _ us hl => match us, hl with | [_, _], _ => rfl)
theorem df_nothing : DF (G0 w mg base K) "nothing" s_nothing n_nothing ["form"] := by
  obtain ⟨fd, F⟩ := c.d.def_ 12 (d := d_nothing) rfl
  exact df_of F (He.glo_ok X G (c.d.fact 12 (f := .glo "nothing") rfl)) sc_nothing (fun _ _ _ _ _ _ us hl => match us, hl with | [_], _ => rfl)
theorem df_floor_code : DF (G0 w mg base K) "floor_code" s_floor_code n_floor_code ["form", "top", "bottom"] := by
  obtain ⟨fd, F⟩ := c.d.def_ 13 (d := d_floor_code) rfl
  exact df_of F (He.glo_ok X G (c.d.fact 13 (f := .glo "floor_code") rfl)) sc_floor_code (fun _ _ _ _ _ _ us hl => match us, hl with | [_, _, _], _ => rfl)
theorem df_rounded : DF (G0 w mg base K) "rounded" s_rounded n_rounded ["form", "fraction", "way"] := by
  obtain ⟨fd, F⟩ := c.d.def_ 14 (d := d_rounded) rfl
  exact df_of F (He.glo_ok X G (c.d.fact 14 (f := .glo "rounded") rfl)) sc_rounded (fun _ _ _ _ _ _ us hl => match us, hl with | [_, _, _], _ => rfl)
theorem df_is_nearer_above : DF (G0 w mg base K) "is_nearer_above" s_is_nearer_above n_is_nearer_above ["form", "low", "top", "bottom"] := by
  obtain ⟨fd, F⟩ := c.d.def_ 15 (d := d_is_nearer_above) rfl
  exact df_of F (He.glo_ok X G (c.d.fact 15 (f := .glo "is_nearer_above") rfl)) sc_is_nearer_above (fun _ _ _ _ _ _ us hl => match us, hl with | [_, _, _, _], _ => rfl)
theorem df_below_step : DF (G0 w mg base K) "below_step" s_below_step n_below_step ["form", "low"] := by
  obtain ⟨fd, F⟩ := c.d.def_ 16 (d := d_below_step) rfl
  exact df_of F (He.glo_ok X G (c.d.fact 16 (f := .glo "below_step") rfl)) sc_below_step (fun _ _ _ _ _ _ us hl => match us, hl with | [_, _], _ => rfl)
theorem df_signed_nought : DF (G0 w mg base K) "signed_nought" s_signed_nought n_signed_nought ["form", "sign"] := by
  obtain ⟨fd, F⟩ := c.d.def_ 17 (d := d_signed_nought) rfl
  exact df_of F (He.glo_ok X G (c.d.fact 17 (f := .glo "signed_nought") rfl)) sc_signed_nought (fun _ _ _ _ _ _ us hl => match us, hl with | [_, _], _ => rfl)
theorem df_add : DF (G0 w mg base K) "add" s_add n_add ["form", "one", "other", "way"] := by
  obtain ⟨fd, F⟩ := c.d.def_ 18 (d := d_add) rfl
  exact df_of F (He.glo_ok X G (c.d.fact 18 (f := .glo "add") rfl)) sc_add (fun _ _ _ _ _ _ us hl => match us, hl with | [_, _, _, _], _ => rfl)
theorem df_turned : DF (G0 w mg base K) "turned" s_turned n_turned ["form", "one"] := by
  obtain ⟨fd, F⟩ := c.d.def_ 19 (d := d_turned) rfl
  exact df_of F (He.glo_ok X G (c.d.fact 19 (f := .glo "turned") rfl)) sc_turned (fun _ _ _ _ _ _ us hl => match us, hl with | [_, _], _ => rfl)
theorem df_multiply : DF (G0 w mg base K) "multiply" s_multiply n_multiply ["form", "one", "other", "way"] := by
  obtain ⟨fd, F⟩ := c.d.def_ 20 (d := d_multiply) rfl
  exact df_of F (He.glo_ok X G (c.d.fact 20 (f := .glo "multiply") rfl)) sc_multiply (fun _ _ _ _ _ _ us hl => match us, hl with | [_, _, _, _], _ => rfl)
theorem df_divide : DF (G0 w mg base K) "divide" s_divide n_divide ["form", "one", "other", "way"] := by
  obtain ⟨fd, F⟩ := c.d.def_ 21 (d := d_divide) rfl
  exact df_of F (He.glo_ok X G (c.d.fact 21 (f := .glo "divide") rfl)) sc_divide (fun _ _ _ _ _ _ us hl => match us, hl with | [_, _, _, _], _ => rfl)
theorem df_less : DF (G0 w mg base K) "less" s_less n_less ["form", "one", "other"] := by
  obtain ⟨fd, F⟩ := c.d.def_ 22 (d := d_less) rfl
  exact df_of F (He.glo_ok X G (c.d.fact 22 (f := .glo "less") rfl)) sc_less (fun _ _ _ _ _ _ us hl => match us, hl with | [_, _, _], _ => rfl)
theorem df_place_of : DF (G0 w mg base K) "place_of" s_place_of n_place_of ["form", "code"] := by
  obtain ⟨fd, F⟩ := c.d.def_ 23 (d := d_place_of) rfl
  exact df_of F (He.glo_ok X G (c.d.fact 23 (f := .glo "place_of") rfl)) sc_place_of (fun _ _ _ _ _ _ us hl => match us, hl with | [_, _], _ => rfl)
theorem df_next_up : DF (G0 w mg base K) "next_up" s_next_up n_next_up ["form", "code"] := by
  obtain ⟨fd, F⟩ := c.d.def_ 24 (d := d_next_up) rfl
  exact df_of F (He.glo_ok X G (c.d.fact 24 (f := .glo "next_up") rfl)) sc_next_up (fun _ _ _ _ _ _ us hl => match us, hl with | [_, _], _ => rfl)
theorem df_pair_sum : DF (G0 w mg base K) "pair_sum" s_pair_sum n_pair_sum ["form", "one", "other"] := by
  obtain ⟨fd, F⟩ := c.d.def_ 25 (d := d_pair_sum) rfl
  exact df_of F (He.glo_ok X G (c.d.fact 25 (f := .glo "pair_sum") rfl)) sc_pair_sum (fun _ _ _ _ _ _ us hl => match us, hl with | [_, _, _], _ => rfl)
theorem df_law_begin : DF (G0 w mg base K) "_law_begin" s_law_begin n_law_begin ["script"] := by
  obtain ⟨fd, F⟩ := c.d.def_ 26 (d := d_law_begin) rfl
  exact df_of F (He.glo_ok X G (c.d.fact 26 (f := .glo "_law_begin") rfl)) sc_law_begin (fun _ _ _ _ _ _ us hl => match us, hl with | [_], _ => rfl)
theorem df_law_take : DF (G0 w mg base K) "_law_take" s_law_take n_law_take ["d", "many"] := by
  obtain ⟨fd, F⟩ := c.d.def_ 27 (d := d_law_take) rfl
  exact df_of F (He.glo_ok X G (c.d.fact 27 (f := .glo "_law_take") rfl)) sc_law_take (fun _ _ _ _ _ _ us hl => match us, hl with | [_, _], _ => rfl)
theorem df_law_less : DF (G0 w mg base K) "_law_less" s_law_less n_law_less ["one", "other"] := by
  obtain ⟨fd, F⟩ := c.d.def_ 28 (d := d_law_less) rfl
  exact df_of F (He.glo_ok X G (c.d.fact 28 (f := .glo "_law_less") rfl)) sc_law_less (fun _ _ _ _ _ _ us hl => match us, hl with | [_, _], _ => rfl)
theorem df_law_part1 : DF (G0 w mg base K) "_law_part1" s_law_part1 n_law_part1 ["form", "half", "one", "other", "third", "a", "b", "c", "rows"] := by
  obtain ⟨fd, F⟩ := c.d.def_ 29 (d := d_law_part1) rfl
  exact df_of F (He.glo_ok X G (c.d.fact 29 (f := .glo "_law_part1") rfl)) sc_law_part1 (fun _ _ _ _ _ _ us hl => match us, hl with | [_, _, _, _, _, _, _, _, _], _ => rfl)
theorem df_law : DF (G0 w mg base K) "law" s_law n_law ["script"] := by
  obtain ⟨fd, F⟩ := c.d.def_ 30 (d := d_law) rfl
  exact df_of F (He.glo_ok X G (c.d.fact 30 (f := .glo "law") rfl)) sc_law (fun _ _ _ _ _ _ us hl => match us, hl with | [_], _ => rfl)
theorem f_err : ErrW (G0 w mg base K) := ⟨err_of (P := PySem.Challenge.pw_machinehall_k29_whole_points_that_move_e) (st := s_init) X G rfl (NdefX.nscope_by (by decide +kernel)) rfl ⟨_, rfl, rfl⟩ (fun _ _ _ _ _ _ _ _ us hl => match us, hl with | [_, _], _ => rfl) (by decide +kernel) (ex1 c.more) c.init (He.glo_ok X G (c.d.fact 32 (f := .glo "MachineError") rfl)) (He.free_ok X G (c.d.fact 33 (f := .free "super") rfl))⟩
include hT in
theorem tx : ∀ m : Nat, Tx (G0 w mg base K) (3 * m + 2) (callN tab m)
  | 0 => {
      f_check_form := (df_check_form X G c).zero
      f_power_of := (df_power_of X G c).zero
      f_bias := (df_bias X G c).zero
      f_least_power := (df_least_power X G c).zero
      f_size := (df_size X G c).zero
      f_check_code := (df_check_code X G c).zero
      f_parts := (df_parts X G c).zero
      f_kind := (df_kind X G c).zero
      f_reduced := (df_reduced X G c).zero
      f_value := (df_value X G c).zero
      f_greatest := (df_greatest X G c).zero
      f_endless := (df_endless X G c).zero
      f_nothing := (df_nothing X G c).zero
      f_floor_code := (df_floor_code X G c).zero
      f_rounded := (df_rounded X G c).zero
      f_is_nearer_above := (df_is_nearer_above X G c).zero
      f_below_step := (df_below_step X G c).zero
      f_signed_nought := (df_signed_nought X G c).zero
      f_add := (df_add X G c).zero
      f_turned := (df_turned X G c).zero
      f_multiply := (df_multiply X G c).zero
      f_divide := (df_divide X G c).zero
      f_less := (df_less X G c).zero
      f_place_of := (df_place_of X G c).zero
      f_next_up := (df_next_up X G c).zero
      f_pair_sum := (df_pair_sum X G c).zero
      f_law_begin := (df_law_begin X G c).zero
      f_law_take := (df_law_take X G c).zero
      f_law_less := (df_law_less X G c).zero
      f_law_part1 := (df_law_part1 X G c).zero
      f_law := (df_law X G c).zero
      b_abs := He.free_ok X G (c.d.fact 34 (f := .free "abs") rfl)
      b_int := He.free_ok X G (c.d.fact 35 (f := .free "int") rfl)
      b_len := He.free_ok X G (c.d.fact 36 (f := .free "len") rfl)
      b_list := He.free_ok X G (c.d.fact 37 (f := .free "list") rfl)
      b_max := He.free_ok X G (c.d.fact 38 (f := .free "max") rfl)
      b_range := He.free_ok X G (c.d.fact 39 (f := .free "range") rfl)
      c_WAYS := gdat_ok X G (c.d.fact 31 (f := .glo "WAYS") rfl) (Bool.and_eq_true_iff.mp (ex3 c.more)).1
      err := f_err X G c }
  | m + 1 =>
    have T := tx m
    have q : Tx (G0 w mg base K) (3 * m + 2 + 3) (callN tab (m + 1)) := {
      f_check_form := (df_check_form X G c).succ rfl rfl rfl (by omega) fun X E h => r_check_form h T
      f_power_of := (df_power_of X G c).succ rfl rfl rfl (by omega) fun X E h => r_power_of h T
      f_bias := (df_bias X G c).succ rfl rfl rfl (by omega) fun X E h => r_bias h T
      f_least_power := (df_least_power X G c).succ rfl rfl rfl (by omega) fun X E h => r_least_power h T
      f_size := (df_size X G c).succ rfl rfl rfl (by omega) fun X E h => r_size h T
      f_check_code := (df_check_code X G c).succ rfl rfl rfl (by omega) fun X E h => r_check_code h T
      f_parts := (df_parts X G c).succ rfl rfl rfl (by omega) fun X E h => r_parts h T
      f_kind := (df_kind X G c).succ rfl rfl rfl (by omega) fun X E h => r_kind h T
      f_reduced := (df_reduced X G c).succ rfl rfl rfl (by omega) fun X E h => r_reduced h T
      f_value := (df_value X G c).succ rfl rfl rfl (by omega) fun X E h => r_value h T
      f_greatest := (df_greatest X G c).succ rfl rfl rfl (by omega) fun X E h => r_greatest h T
      f_endless := (df_endless X G c).succ rfl rfl rfl (by omega) fun X E h => r_endless h T
      f_nothing := (df_nothing X G c).succ rfl rfl rfl (by omega) fun X E h => r_nothing h T
      f_floor_code := (df_floor_code X G c).succ rfl rfl rfl (by omega) fun X E h => r_floor_code h T
      f_rounded := (df_rounded X G c).succ rfl rfl rfl (by omega) fun X E h => r_rounded h T
      f_is_nearer_above := (df_is_nearer_above X G c).succ rfl rfl rfl (by omega) fun X E h => r_is_nearer_above h T
      f_below_step := (df_below_step X G c).succ rfl rfl rfl (by omega) fun X E h => r_below_step h T
      f_signed_nought := (df_signed_nought X G c).succ rfl rfl rfl (by omega) fun X E h => r_signed_nought h T
      f_add := (df_add X G c).succ rfl rfl rfl (by omega) fun X E h => r_add h T
      f_turned := (df_turned X G c).succ rfl rfl rfl (by omega) fun X E h => r_turned h T
      f_multiply := (df_multiply X G c).succ rfl rfl rfl (by omega) fun X E h => r_multiply h T
      f_divide := (df_divide X G c).succ rfl rfl rfl (by omega) fun X E h => r_divide h T
      f_less := (df_less X G c).succ rfl rfl rfl (by omega) fun X E h => r_less h T
      f_place_of := (df_place_of X G c).succ rfl rfl rfl (by omega) fun X E h => r_place_of h T
      f_next_up := (df_next_up X G c).succ rfl rfl rfl (by omega) fun X E h => r_next_up h T
      f_pair_sum := (df_pair_sum X G c).succ rfl rfl rfl (by omega) fun X E h => r_pair_sum h T
      f_law_begin := (df_law_begin X G c).succ rfl rfl rfl (by omega) fun X E h => r_law_begin h T
      f_law_take := (df_law_take X G c).succ rfl rfl rfl (by omega) fun X E h => r_law_take h T
      f_law_less := (df_law_less X G c).succ rfl rfl rfl (by omega) fun X E h => r_law_less h T
      f_law_part1 := (df_law_part1 X G c).succ rfl rfl rfl (by omega) fun X E h => r_law_part1 h T
      f_law := (df_law X G c).succ rfl rfl rfl (by omega) fun X E h => r_law h T
      b_abs := He.free_ok X G (c.d.fact 34 (f := .free "abs") rfl)
      b_int := He.free_ok X G (c.d.fact 35 (f := .free "int") rfl)
      b_len := He.free_ok X G (c.d.fact 36 (f := .free "len") rfl)
      b_list := He.free_ok X G (c.d.fact 37 (f := .free "list") rfl)
      b_max := He.free_ok X G (c.d.fact 38 (f := .free "max") rfl)
      b_range := He.free_ok X G (c.d.fact 39 (f := .free "range") rfl)
      c_WAYS := gdat_ok X G (c.d.fact 31 (f := .glo "WAYS") rfl) (Bool.and_eq_true_iff.mp (ex3 c.more)).1
      err := f_err X G c }
    (show 3 * m + 2 + 3 = 3 * (m + 1) + 2 by omega) ▸ q
end
def fuel : Nat := 60
theorem law_at {l : PySem.W.OpenLaw} (hl : l.prog = PySem.Challenge.pw_machinehall_k29_whole_points_that_move_e) (main : ∀ (ns : List Int) (s : S) (d : D), ns.length ≤ 63 → (∀ z ∈ ns, Builtin.Int.intBits z ≤ 1048576) → seqOf s d = some (ns.map D.int) → ∃ s2, callN tab (fuel + 1) 30 [] [d] s = .ok (.bl true) s2) {w : World} {mg : Str → Option Value} {fa : Addr} {h : Heap} {K : PySem.W.Frag} (X : K.In h) (G : h.Ns mainGlobals mg) (c : SaysY fal fnl tfl s_init exF h K) (hfa : mg "law" = some (.ref fa)) : LamX.LawAtS l w K (L2.CX PySem.Challenge.pw_machinehall_k29_whole_points_that_move_e w) (3 * fuel + 2 + 1) 63 "script" mg fa h := by
  obtain ⟨fd, F⟩ := c.d.def_ 30 (d := d_law) rfl
  have e := hfa.symm.trans (He.glo_ok X G (c.d.fact 30 (f := .glo "law") rfl))
  cases e
  refine ⟨fd, tfl.map (He.cT K), spE ⟨exA K, K, TTb K, []⟩ (callN tab (fuel + 1)) 30, fun p hp => ?_, fun p hp => ?_, fun p hp => ?_, fun s v => FunD.bindsA (ps := ["script"]) F (fun _ _ _ _ _ _ us hl => match us, hl with | [_], _ => rfl) s [v] rfl, fun H a ns hn hb hH hS => ?_, fun base Kb Gb TB => ?_⟩
  · obtain ⟨q, hq, rfl⟩ := List.mem_map.mp hp; exact c.empty q hq
  · obtain ⟨q, hq, rfl⟩ := List.mem_map.mp hp; exact c.out q hq
  · obtain ⟨q, hq, rfl⟩ := List.mem_map.mp hp; exact PySem.W.codeHd_of_K X (c.hd q hq)
  · exact sp_law (Γ := G0 w mg h K) hS (tabs_of hH) fun s d hd => main ns s d hn hb hd
  · rw [hl]
    exact fn_ok (Γ := G0 w mg base K) (by omega) rfl rfl rfl (funD_fun F) sc_law fun X1 E h1 => r_law h1 (tx X G c TB fuel)
end KL

set_option maxRecDepth 100000
namespace KL
open PySem Ev
theorem pow_pos' (n : Nat) : (0 : Int) < 2 ^ n := by
  have : 0 < (2 : Nat) ^ n := Nat.pow_pos (by decide)
  exact_mod_cast this
theorem int_ite {p : Prop} [Decidable p] {s : S} : intD [.bl (!decide p)] s = .ok (.int (if p then 0 else 1)) s := by
  by_cases h : p <;> simp [intD, h]
theorem int_ite' {p : Prop} [Decidable p] {s : S} : intD [.bl (decide p)] s = .ok (.int (if p then 1 else 0)) s := by
  by_cases h : p <;> simp [intD, h]
theorem mod2 {x : Int} {s : S} : bMod (.int x) (.int 2) s = .ok (.int (x % 2)) s := mod_ok (by decide)
theorem rngI0 (n : Nat) : rngI 0 n = (List.range' 0 n).map fun i => D.int (0 + (i : Nat)) := by rw [rngI, List.range_eq_range']
theorem lt62 {j : Nat} (h : j ≤ 1000) : (j : Int) < 2 ^ 62 := Int.lt_of_le_of_lt (Int.ofNat_le.mpr h) (by decide)
theorem mod4 {x : Int} {s : S} : bMod (.int x) (.int 4) s = .ok (.int (x % 4)) s := mod_ok (by decide)
theorem div2 {x : Int} {s : S} : bDiv (.int x) (.int 2) s = .ok (.int (x / 2)) s := div_ok (by decide) (big_of (by decide))
theorem op_ok {f : D → D → S → Res} {a b : ES} {c : C} {ρ : Ev.Env} {s s1 s2 : S} {x y : D} (ha : a c ρ s = .ok x s1) (hb : b c ρ s1 = .ok y s2) : eOp f a b c ρ s = f x y s2 := by
  unfold eOp
  rw [ha]
  show (b c ρ s1).bnd _ = _
  rw [hb]
  rfl
theorem call_ok {f : Nat} {a : AS} {c : C} {ρ : Ev.Env} {s s1 : S} {xs : List D} (h : a c ρ s = .ok xs s1) : eCall f a c ρ s = c.call f c.B xs s1 := by unfold eCall; rw [h]; rfl
theorem cons_ok {a : ES} {r : AS} {c : C} {ρ : Ev.Env} {s s1 s2 : S} {x : D} {xs : List D} (h : a c ρ s = .ok x s1) (h2 : r c ρ s1 = .ok xs s2) : aCons a r c ρ s = .ok (x :: xs) s2 := by
  unfold aCons; rw [h]; simp only [Rss.bndA, Res.bndA, h2]
theorem tup_ok {a : AS} {c : C} {ρ : Ev.Env} {s s1 : S} {xs : List D} (h : a c ρ s = .ok xs s1) (hl : xs.length ≤ 1000) : eTup a c ρ s = .ok (.tup xs) s1 := by
  unfold eTup; rw [h]; exact if_pos (Nat.le_of_lt (lim_of (by omega)))
theorem nil_ok {c : C} {ρ : Ev.Env} {s : S} : aNil c ρ s = .ok [] s := rfl
theorem var_ok {i : Nat} {c : C} {ρ : Ev.Env} {s : S} {d : D} (h : gv ρ i = d) (hd : d ≠ .und) : eVar i c ρ s = .ok d s := by
  unfold eVar; rw [h]; cases d <;> first | rfl | exact absurd rfl hd
theorem cLe_ok {i j : Int} {s : S} : cLe (.int i) (.int j) s = .ok (.bl (decide (i ≤ j))) s := rfl
theorem cGe_ok {i j : Int} {s : S} : cGe (.int i) (.int j) s = .ok (.bl (decide (i ≥ j))) s := rfl
theorem cGt_ok {i j : Int} {s : S} : cGt (.int i) (.int j) s = .ok (.bl (decide (i > j))) s := rfl
theorem cLt_ok {i j : Int} {s : S} : cLt (.int i) (.int j) s = .ok (.bl (decide (i < j))) s := rfl
theorem add_ok {i j : Int} {s : S} : bAdd (.int i) (.int j) s = .ok (.int (i + j)) s := rfl
theorem sub_ok {i j : Int} {s : S} : bSub (.int i) (.int j) s = .ok (.int (i - j)) s := rfl
theorem aug_ok {i : Nat} {f : D → D → S → Res} {e : ES} {c : C} {ρ : Ev.Env} {s s1 s2 : S} {x y z : D} (hx : gv ρ i = x) (hx2 : x ≠ .und) (he : e c ρ s = .ok y s1) (hf : f x y s1 = .ok z s2) : sAug i f e c ρ s = .nx (sv ρ i z) s2 := by
  unfold sAug
  subst hx
  cases hg : gv ρ i <;> rw [hg] at hf hx2 <;> first | exact absurd rfl hx2 | (simp only [he, Res.bndS, hf])
theorem r1_rng {i : Nat} {b : Int} {C0 : C} {ρ : Ev.Env} {s : S} (h0 : 1 ≤ b) (h1 : b ≤ 1000) (hb : gv ρ i = .int b) : iR1 (aCons (eVar i) aNil) C0 ρ s = .ok (rngI 0 b.toNat) none s := by
  simp only [iR1, eVar, hb, aCons, aNil, Res.bndA, Rss.bndA, Rss.bndI]
  rw [if_pos (small_of (by omega) (by omega))]
  try simp
def natD : D → Nat
  | .int i => i.toNat
  | _ => 0
theorem rngI_mem {n : Nat} {d : D} (h : d ∈ rngI 0 n) : ∃ i : Nat, i < n ∧ d = .int (0 + (i : Int)) := by
  rw [rngI0] at h
  obtain ⟨i, hi, rfl⟩ := List.mem_map.mp h
  exact ⟨i, by have := List.mem_range'_1.mp hi; omega, rfl⟩
theorem natD_int (i : Nat) : natD (.int (0 + (i : Int))) = i := by rw [natD, Int.zero_add, Int.toNat_natCast]
theorem rngI_len (n : Nat) : (rngI 0 n).length = n := by rw [rngI0]; simp
/-- range, filtered and mapped -/
theorem rngI_fm {n : Nat} {A : Type} (p : Nat → Bool) (f : Nat → A) : ((rngI 0 n).filter fun d => p (natD d)).map (fun d => f (natD d)) = ((List.range n).filter p).map f := by
  rw [rngI0, List.filter_map, List.map_map, List.range_eq_range']
  have e : ((fun d => p (natD d)) ∘ fun (i : Nat) => D.int (0 + (i : Int))) = p := by funext i; show p (natD _) = _; rw [natD_int]
  rw [e]
  exact List.map_congr_left fun i _ => by show f (natD _) = _; rw [natD_int]
theorem ixL_nat {ds : List D} {i : Nat} {z : Int} {s : S} (h : ds[i]? = some (.int z)) : ixL ds ((i : Nat) : Int) s = .ok (.int z) s := by
  have hi : i < ds.length := (List.getElem?_eq_some_iff.mp h).1
  have e : L2.atI ds ((i : Nat) : Int) = some (.int z) := by
    unfold L2.atI L2.ixN
    rw [if_pos (by omega), if_pos (by omega)]
    simpa using h
  unfold ixL
  rw [e]
theorem ixL_last {ds : List D} {z : Int} {s : S} (h : ds.getLast? = some (.int z)) : ixL ds (-1) s = .ok (.int z) s := by
  have hn : ds.length ≠ 0 := fun e => by rw [List.length_eq_zero_iff] at e; subst e; cases h
  have e : L2.atI ds (-1) = some (.int z) := by
    unfold L2.atI L2.ixN
    rw [if_neg (by decide), if_pos (by omega)]
    have e2 : (-1 + (ds.length : Int)).toNat = ds.length - 1 := by omega
    rw [e2, ← h, List.getLast?_eq_getElem?]
    rfl
  unfold ixL
  rw [e]
theorem te_off {n : Nat} {ρ : Ev.Env} {s : S} : turnEnd false n ρ s .nx = .nx ρ s := by unfold turnEnd; simp
theorem lstOf_lt {s : S} {p : Nat} {l : List D} (h : lstOf s p = some l) : p < s.length := by
  unfold lstOf at h
  by_cases hp : p < s.length
  · exact hp
  · rw [List.getElem?_eq_none (by omega)] at h
    cases h
theorem eif_t {t a b : ES} {c : C} {ρ : Ev.Env} {s s1 : S} (h : t c ρ s = .ok (.bl true) s1) : eIf t a b c ρ s = a c ρ s1 := by unfold eIf; rw [h]; rfl
theorem eif_f {t a b : ES} {c : C} {ρ : Ev.Env} {s s1 : S} (h : t c ρ s = .ok (.bl false) s1) : eIf t a b c ρ s = b c ρ s1 := by unfold eIf; rw [h]; rfl
abbrev bTk : SS := (sSeq (sIf (eOp cGt (eOp bIx (eVar 0) (eC (.int 2))) (eC (.int 0))) (sSeq (sSet 2 (eOp bMod (eBlt intD (aCons (eOp bIx (eVar 0) (eC (.int 2))) aNil)) (eVar 1))) (sSeq (sAsg (eOp bDiv (eBlt intD (aCons (eOp bIx (eVar 0) (eC (.int 2))) aNil)) (eVar 1)) (tSub (eVar 0) (eC (.int 2)))) (sSeq (sRet (eVar 2)) sNil))) sNil) (sSeq (sAsg (eOp bMod (eBlt intD (aCons (eOp bAdd (eOp bMul (eOp bIx (eVar 0) (eC (.int 3))) (eC (.int 48271))) (eC (.int 11))) aNil)) (eC (.int 2147483647))) (tSub (eVar 0) (eC (.int 3)))) (sSeq (sRet (eOp bMod (eBlt intD (aCons (eOp bDiv (eOp bIx (eVar 0) (eC (.int 3))) (eC (.int 3))) aNil)) (eVar 1))) sNil)))
/-- the hand: the script's numbers, how many are read, what is left of the last, the seed -/
def hnd (m : Nat) (i c z : Int) : List D := [.ref m, .int i, .int c, .int z]
structure HdAt (ns : List Int) (s : S) (n m : Nat) (i c z : Int) : Prop where
  at_ : lstOf s n = some (hnd m i c z)
  ns_ : lstOf s m = some (ns.map D.int)
  ne : m ≠ n
  i0 : 0 ≤ i
  c0 : 0 ≤ c
  z0 : 0 ≤ z
def Hd (ns : List Int) (s : S) (n : Nat) : Prop := ∃ m i c z, HdAt ns s n m i c z
theorem lst_get {s : S} {n : Nat} {ds : List D} (h : lstOf s n = some ds) : s[n]? = some (.lst ds) := by
  unfold lstOf at h
  split at h
  · rename_i es he; cases h; exact he
  · cases h
theorem lst_set {s : S} {n : Nat} {ds es : List D} (h : lstOf s n = some ds) : lstOf (s.set n (.lst es)) n = some es := by
  have hl := lstOf_lt h
  simp [lstOf, hl]
theorem lst_ne {s : S} {n m : Nat} {o : O} (h : m ≠ n) : lstOf (s.set n o) m = lstOf s m := by
  unfold lstOf
  rw [List.getElem?_set_ne (Ne.symm h)]
theorem HdAt.upd {ns : List Int} {s : S} {n m : Nat} {i c z i' c' z' : Int} (h : HdAt ns s n m i c z) (h1 : 0 ≤ i') (h2 : 0 ≤ c') (h3 : 0 ≤ z') : HdAt ns (s.set n (.lst (hnd m i' c' z'))) n m i' c' z' :=
  ⟨lst_set h.at_, by rw [lst_ne h.ne]; exact h.ns_, h.ne, h1, h2, h3⟩
theorem set_set' {s : S} {n : Nat} {a b : O} : (s.set n a).set n b = s.set n b := List.set_set ..
theorem bIx_lst {s : S} {n : Nat} {ds : List D} {i : Nat} {z : Int} (h : lstOf s n = some ds) (hi : ds[i]? = some (.int z)) : bIx (.ref n) (.int ((i : Nat) : Int)) s = .ok (.int z) s := by
  simp only [bIx, h]
  exact ixL_nat hi
section
variable {ns : List Int} {s : S} {n m : Nat} {i c z : Int} {C0 : C} {ρ : Ev.Env}
theorem h_get1 (h : HdAt ns s n m i c z) (hv : gv ρ 0 = .ref n) : eOp bIx (eVar 0) (eC (.int 1)) C0 ρ s = .ok (.int i) s := by
  rw [op_ok (x := .ref n) (y := .int 1) (s1 := s) (s2 := s) (var_ok hv (by simp)) rfl]
  exact bIx_lst (i := 1) h.at_ rfl
theorem h_get2 (h : HdAt ns s n m i c z) (hv : gv ρ 0 = .ref n) : eOp bIx (eVar 0) (eC (.int 2)) C0 ρ s = .ok (.int c) s := by
  rw [op_ok (x := .ref n) (y := .int 2) (s1 := s) (s2 := s) (var_ok hv (by simp)) rfl]
  exact bIx_lst (i := 2) h.at_ rfl
theorem h_get3 (h : HdAt ns s n m i c z) (hv : gv ρ 0 = .ref n) : eOp bIx (eVar 0) (eC (.int 3)) C0 ρ s = .ok (.int z) s := by
  rw [op_ok (x := .ref n) (y := .int 3) (s1 := s) (s2 := s) (var_ok hv (by simp)) rfl]
  exact bIx_lst (i := 3) h.at_ rfl
theorem h_get0 (h : HdAt ns s n m i c z) (hv : gv ρ 0 = .ref n) : eOp bIx (eVar 0) (eC (.int 0)) C0 ρ s = .ok (.ref m) s := by
  rw [op_ok (x := .ref n) (y := .int 0) (s1 := s) (s2 := s) (var_ok hv (by simp)) rfl]
  simp only [bIx, h.at_]
  rfl
theorem setIx_lst {B : List Nat} {ds : List D} {j : Nat} {v : Int} (h : lstOf s n = some ds) (hj : j < ds.length) : setIx B (.ref n) (.int ((j : Nat) : Int)) (.int v) s = some (s.set n (.lst (ds.set j (.int v)))) := by
  have e : L2.ixN ds.length ((j : Nat) : Int) = some j := by
    unfold L2.ixN
    rw [if_pos (by omega), if_pos (by omega)]
    simp
  simp only [setIx, lst_get h, e]
  rw [if_pos (wok_pln fun _ => rfl)]
theorem h_set {e : ES} {j : Nat} {v : Int} (h : HdAt ns s n m i c z) (hv : gv ρ 0 = .ref n) (hj : j < 4) (he : e C0 ρ s = .ok (.int v) s) : sAsg e (tSub (eVar 0) (eC (.int ((j : Nat) : Int)))) C0 ρ s = .nx ρ (s.set n (.lst ((hnd m i c z).set j (.int v)))) := by
  rw [asg_ok he]
  unfold tSub
  rw [var_ok (c := C0) (ρ := ρ) (s := s) hv (by simp)]
  simp only [Res.bndS, eC]
  rw [setIx_lst h.at_ hj]
theorem int_blt {e : ES} {v : Int} (he : ∀ B, e ⟨C0.call, B⟩ ρ s = .ok (.int v) s) : eBlt intD (aCons e aNil) C0 ρ s = .ok (.int v) s := by
  unfold eBlt gcF aCons aNil
  have := he (s.length :: C0.B)
  simp only [this, Res.bndA, Rss.bndA, Rss.bnd, intD]
  exact finF_same
theorem abs_blt {e : ES} {v : Int} (he : ∀ B, e ⟨C0.call, B⟩ ρ s = .ok (.int v) s) : eBlt absD (aCons e aNil) C0 ρ s = .ok (.int (if v < 0 then -v else v)) s := by
  unfold eBlt gcF aCons aNil
  have := he (s.length :: C0.B)
  simp only [this, Res.bndA, Rss.bndA, Rss.bnd, absD]
  exact finF_same
theorem and_f {a b : ES} (h : a C0 ρ s = .ok (.bl false) s) : eAnd a b C0 ρ s = .ok (.bl false) s := by
  unfold eAnd
  rw [h]
  rfl
theorem and_t {a b : ES} (h : a C0 ρ s = .ok (.bl true) s) : eAnd a b C0 ρ s = b C0 ρ s := by
  unfold eAnd
  rw [h]
  rfl
theorem or_t {a b : ES} (h : a C0 ρ s = .ok (.bl true) s) : eOr a b C0 ρ s = .ok (.bl true) s := by
  unfold eOr
  rw [h]
  rfl
theorem or_f {a b : ES} (h : a C0 ρ s = .ok (.bl false) s) : eOr a b C0 ρ s = b C0 ρ s := by
  unfold eOr
  rw [h]
  rfl
/-- the later part of a taking -/
theorem take_rest {many : Int} {x2 x3 : D} {k : Nat → List Nat → List D → S → Res} {B : List Nat} (h : HdAt ns s n m i c z) (h0 : 0 < many) (h1 : many < 2 ^ 62) : ∃ v c' z', bTk ⟨k, B⟩ [.ref n, .int many, x2, x3] s = .rt (.int v) (s.set n (.lst (hnd m i c' z'))) ∧ 0 ≤ v ∧ v < many ∧ 0 ≤ c' ∧ 0 ≤ z' := by
  have hgt : eOp cGt (eOp bIx (eVar 0) (eC (.int 2))) (eC (.int 0)) ⟨k, B⟩ [.ref n, .int many, x2, x3] s = .ok (.bl (decide (c > 0))) s := by
    rw [op_ok (x := .int c) (y := .int 0) (s1 := s) (s2 := s) (h_get2 h rfl) rfl, cGt_ok]
  by_cases hc : c > 0
  · refine ⟨c % many, c / many, z, ?_, Int.emod_nonneg _ (by omega), Int.emod_lt_of_pos _ h0, Int.ediv_nonneg h.c0 (by omega), h.z0⟩
    refine seq_rt ?_
    rw [if_t (hgt.trans (by rw [decide_eq_true hc])) rfl]
    refine seq_go (ρ1 := [.ref n, .int many, .int (c % many), x3]) (s1 := s) (set_ok (d := .int (c % many)) ?_) (seq_go (ρ1 := [.ref n, .int many, .int (c % many), x3]) (s1 := s.set n (.lst (hnd m i (c / many) z))) ?_ (seq_rt rfl))
    · rw [op_ok (x := .int c) (y := .int many) (s1 := s) (s2 := s) (int_blt fun _ => h_get2 h rfl) rfl, mod_ok h0]
    · refine h_set (j := 2) h rfl (by omega) ?_
      rw [op_ok (x := .int c) (y := .int many) (s1 := s) (s2 := s) (int_blt fun _ => h_get2 h rfl) rfl, div_ok h0 (big_of h1)]
  · obtain ⟨z', hz'⟩ : ∃ z', z' = (z * 48271 + 11) % 2147483647 := ⟨_, rfl⟩
    have hz0 : 0 ≤ z' := by omega
    refine ⟨z' / 3 % many, c, z', ?_, Int.emod_nonneg _ (by omega), Int.emod_lt_of_pos _ h0, h.c0, hz0⟩
    have h2 := h.upd (i' := i) (c' := c) (z' := z') h.i0 h.c0 hz0
    refine seq_go (ρ1 := [.ref n, .int many, x2, x3]) (s1 := s) (guard_nx (hgt.trans (by rw [decide_eq_false hc]))) (seq_go (ρ1 := [.ref n, .int many, x2, x3]) (s1 := s.set n (.lst (hnd m i c z'))) ?_ (seq_rt (ret_ok ?_)))
    · refine h_set (j := 3) h rfl (by omega) ?_
      rw [op_ok (x := .int (z * 48271 + 11)) (y := .int 2147483647) (s1 := s) (s2 := s) (int_blt fun B => ?_) rfl, mod_ok (by decide), hz']
      rw [op_ok (x := .int (z * 48271)) (y := .int 11) (s1 := s) (s2 := s) ?_ rfl, add_ok]
      rw [op_ok (x := .int z) (y := .int 48271) (s1 := s) (s2 := s) (h_get3 h rfl) rfl]
      exact mul_ok (mulOk_r (by decide) (by decide))
    · rw [op_ok (x := .int (z' / 3)) (y := .int many) (s1 := s.set n (.lst (hnd m i c z'))) (s2 := s.set n (.lst (hnd m i c z'))) (int_blt fun B => ?_) rfl, mod_ok h0]
      rw [op_ok (x := .int z') (y := .int 3) (s1 := s.set n (.lst (hnd m i c z'))) (s2 := s.set n (.lst (hnd m i c z'))) (h_get3 h2 rfl) rfl, div_ok (by decide) (big_of (by decide))]
end
theorem iSeq_of {C0 : C} {ρ : Ev.Env} {s : S} {d : D} {ds : List D} {i : Nat} (h : seqOf s d = some ds) (hv : gv ρ i = d) : ∃ g, iSeq (eVar i) C0 ρ s = .ok ds g s ∧ gOk g s = true := by
  cases d <;> first | (cases h; done) | skip
  case tup es =>
    cases h
    refine ⟨none, ?_, rfl⟩
    unfold iSeq
    rw [var_ok hv (by simp)]
    rfl
  case frl es =>
    cases h
    refine ⟨none, ?_, rfl⟩
    unfold iSeq
    rw [var_ok hv (by simp)]
    rfl
  case ref n =>
    have h' : lstOf s n = some ds := h
    refine ⟨some (n, ds), ?_, ?_⟩
    · unfold iSeq
      rw [var_ok hv (by simp)]
      simp only [Res.bndI, h']
    · simp only [gOk, lst_get h', D.beqs_self]
theorem loop_begin {C0 : C} {s : S} {g : Option (Nat × List D)} (hg : gOk g s = true) (d : D) : ∀ (ns : List Int) (z : Int) (x : D), 0 ≤ z → ∃ z' x', forL true g (tName 2) (sSeq (sSet 1 (eOp bMod (eOp bAdd (eOp bAdd (eOp bMul (eVar 1) (eC (.int 69621))) (eOp bMod (eBlt intD (aCons (eVar 2) aNil)) (eC (.int 2147483629)))) (eC (.int 7))) (eC (.int 2147483647)))) sNil) C0 (ns.map D.int) [d, .int z, x] s = .nx [d, .int z', x'] s ∧ 0 ≤ z' := by
  intro ns
  induction ns with
  | nil => intro z x hz; exact ⟨z, x, rfl, hz⟩
  | cons w r ih =>
    intro z x hz
    obtain ⟨y, hy⟩ : ∃ y, y = (z * 69621 + w % 2147483629 + 7) % 2147483647 := ⟨_, rfl⟩
    obtain ⟨z', x', e, h⟩ := ih y (.int w) (by omega)
    refine ⟨z', x', ?_, h⟩
    rw [List.map_cons, forL_cons (ρ2 := [d, .int y, .int w]) (s2 := s) (turn_name ?_ rfl) hg, e]
    refine seq_go (ρ1 := [d, .int y, .int w]) (s1 := s) (set_ok (d := .int y) ?_) rfl
    rw [op_ok (x := .int (z * 69621 + w % 2147483629 + 7)) (y := .int 2147483647) (s1 := s) (s2 := s) ?_ rfl, mod_ok (by decide), hy]
    rw [op_ok (x := .int (z * 69621 + w % 2147483629)) (y := .int 7) (s1 := s) (s2 := s) ?_ rfl, add_ok]
    rw [op_ok (x := .int (z * 69621)) (y := .int (w % 2147483629)) (s1 := s) (s2 := s) ?_ ?_, add_ok]
    · rw [op_ok (x := .int z) (y := .int 69621) (s1 := s) (s2 := s) rfl rfl]
      exact mul_ok (mulOk_r (by decide) (by decide))
    · rw [op_ok (x := .int w) (y := .int 2147483629) (s1 := s) (s2 := s) (int_blt fun _ => rfl) rfl, mod_ok (by decide)]
theorem hd_begin {s : S} {ns : List Int} {z : Int} (hz : 0 ≤ z) : Hd ns (s ++ [.lst (ns.map D.int), .lst (hnd s.length 0 0 z)]) (s.length + 1) :=
  ⟨s.length, 0, 0, z, by simp [lstOf], by simp [lstOf], by omega, by omega, by omega, hz⟩
theorem blt_args {f : List D → S → Res} {as : AS} {c : C} {ρ : Ev.Env} {s : S} {xs : List D} {d : D} (ha : as ⟨c.call, s.length :: c.B⟩ ρ s = .ok xs s) (hf : f xs s = .ok d s) : eBlt f as c ρ s = .ok d s := by
  show finF s.length ((as ⟨c.call, s.length :: c.B⟩ ρ s).bnd fun xs s => f xs s) = _
  rw [ha]
  show finF s.length (f xs s) = _
  rw [hf, finF_same]
section
variable {a b : ES} {c : C} {ρ ρ1 : Ev.Env} {s s1 : S} {d : D}
theorem expr_exc {e : ES} (h : e c ρ s = .exc d s1) : sExpr e c ρ s = .exc d s1 := by unfold sExpr; rw [h]; rfl
theorem not_ok {p : Bool} (h : a c ρ s = .ok (.bl p) s1) : eNot a c ρ s = .ok (.bl (!p)) s1 := by unfold eNot; rw [h]; rfl
theorem told_exc (h : ∀ B, a ⟨c.call, B⟩ ρ s = .exc d s) : eTold a c ρ s = .ok d s := by
  show fin s.length (match a ⟨c.call, s.length :: c.B⟩ ρ s with | .ok d s => .ok d s | .exc k s => .ok k s | .fail => .fail) = _
  rw [h]
  exact fin_same'
theorem told_ne {x : Str} (h : ∀ B, a ⟨c.call, B⟩ ρ s = .exc (.str x) s) (hx : D.shp 40 (.str x) = true) : eOp cNe (eTold a) (eC (.str x)) c ρ s = .ok (.bl false) s := by
  rw [op_ok (x := .str x) (y := .str x) (s1 := s) (s2 := s) (told_exc h) rfl, cNe_self hx]
theorem told_eq {x : Str} (h : ∀ B, a ⟨c.call, B⟩ ρ s = .exc (.str x) s) (hx : D.shp 40 (.str x) = true) : eOp cEq (eTold a) (eC (.str x)) c ρ s = .ok (.bl true) s := by
  rw [op_ok (x := .str x) (y := .str x) (s1 := s) (s2 := s) (told_exc h) rfl, cEq_self hx]
end
section
variable {s : S}
theorem len_blt {e : ES} {C0 : C} {ρ : Ev.Env} {ds : List D} (he : ∀ B, e ⟨C0.call, B⟩ ρ s = .ok (.tup ds) s) : eBlt lenD (aCons e aNil) C0 ρ s = .ok (.int ds.length) s := blt_args (cons_ok (he _) nil_ok) rfl
theorem all_false {it : IS} {own : List Nat} {te : ES} {C0 : C} {ρ : Ev.Env} {i : Nat} {d : D} (hi : ∀ B, it ⟨C0.call, B⟩ ρ s = .ok [d] none s) (hc : ∀ B, te ⟨C0.call, B⟩ (sv (wipeD ρ own) i d) s = .ok (.bl false) s) : eBlt allD (aCons (eComp it own (tName i) none te) aNil) C0 ρ s = .ok (.bl false) s := by
  refine blt_top (x := .ref s.length) (t := [.lst ([false].map D.bl)]) (comp_ok (g := none) (ds := [d]) (hi _) (Nat.le_of_lt (lim_of (by simp))) ?_ ygs_map_bl) ?_ rfl (fun _ => by simp)
  · exact compL_map (f := fun _ => .bl false) rfl [d] (by intro e he; cases List.mem_singleton.mp he; exact hc _)
  · exact allD_bls seqOf_top
end
theorem tupGet {s : S} {l : List Int} {i : Nat} {z : Int} (hi : l[i]? = some z) : bIx (.tup (l.map D.int)) (.int ((i : Nat) : Int)) s = .ok (.int z) s := by
  show ixL _ _ s = _
  exact ixL_nat (by rw [List.getElem?_map, hi]; rfl)
section
variable {C0 : C} {ρ : Ev.Env} {s : S}
theorem lt_f {i j : Int} {a b : ES} (ha : a C0 ρ s = .ok (.int i) s) (hb : b C0 ρ s = .ok (.int j) s) (h : ¬ i < j) : eOp cLt a b C0 ρ s = .ok (.bl false) s := by rw [op_ok ha hb, cLt_ok, decide_eq_false h]
theorem ge_f {i j : Int} {a b : ES} (ha : a C0 ρ s = .ok (.int i) s) (hb : b C0 ρ s = .ok (.int j) s) (h : ¬ i ≥ j) : eOp cGe a b C0 ρ s = .ok (.bl false) s := by rw [op_ok ha hb, cGe_ok, decide_eq_false h]
theorem gt_f {i j : Int} {a b : ES} (ha : a C0 ρ s = .ok (.int i) s) (hb : b C0 ρ s = .ok (.int j) s) (h : ¬ i > j) : eOp cGt a b C0 ρ s = .ok (.bl false) s := by rw [op_ok ha hb, cGt_ok, decide_eq_false h]
theorem ne_f {i j : Int} {a b : ES} (ha : a C0 ρ s = .ok (.int i) s) (hb : b C0 ρ s = .ok (.int j) s) (h : i = j) : eOp cNe a b C0 ρ s = .ok (.bl false) s := by rw [op_ok ha hb, cNe_int, decide_eq_true h]; rfl
theorem neD_f {d : D} {a b : ES} (ha : a C0 ρ s = .ok d s) (hb : b C0 ρ s = .ok d s) (h : d.shp 40 = true) : eOp cNe a b C0 ρ s = .ok (.bl false) s := by rw [op_ok ha hb, cNe_self h]
end
theorem hd_same {ns : List Int} {s : S} {n : Nat} (h : Hd ns s n) : ∃ es, s.set n (.lst es) = s := by
  obtain ⟨m, i, c, z, h⟩ := h
  refine ⟨hnd m i c z, List.ext_getElem? fun j => ?_⟩
  have hl := lstOf_lt h.at_
  by_cases hj : j = n
  · subst hj
    rw [lst_get h.at_]
    simp [hl]
  · rw [List.getElem?_set_ne (Ne.symm hj)]
theorem comp_hd {ns : List Int} {n i : Nat} {te : ES} {k : Nat → List Nat → List D → S → Res} {B : List Nat} {ρ : Ev.Env} (P : Int → Prop) (hte : ∀ d B s', Hd ns s' n → ∃ v es, te ⟨k, B⟩ (sv ρ i d) s' = .ok (.int v) (s'.set n (.lst es)) ∧ P v ∧ Hd ns (s'.set n (.lst es)) n) :
    ∀ (l : List D) (s' : S), Hd ns s' n → ∃ (vs : List Int) (es : List D), compL none (tName i) none te ⟨k, B⟩ ρ l s' = .ok (vs.map D.int) (s'.set n (.lst es)) ∧ vs.length = l.length ∧ (∀ v ∈ vs, P v) ∧ Hd ns (s'.set n (.lst es)) n
  | [], s', h => by
    obtain ⟨es, e⟩ := hd_same h
    exact ⟨[], es, by rw [e]; rfl, rfl, (fun _ h => by cases h), by rw [e]; exact h⟩
  | d :: r, s', h => by
    obtain ⟨v, es, e, hP, h1⟩ := hte d (s'.length :: B) s' h
    obtain ⟨vs, es2, e2, hl, hPs, h2⟩ := comp_hd P hte r (s'.set n (.lst es)) h1
    rw [set_set'] at e2 h2
    refine ⟨v :: vs, es2, ?_, by simp [hl], fun z hz => ?_, h2⟩
    · have hf : finA s'.length (.ok [.int v] (s'.set n (.lst es))) = .ok [.int v] (s'.set n (.lst es)) := by simp [finA]
      rw [compL]
      show (match finA s'.length ((te ⟨k, s'.length :: B⟩ (sv ρ i d) s').bndA fun x s => .ok [x] s) with
        | .ok xs s4 => if gOk none s4 then (compL none (tName i) none te ⟨k, B⟩ ρ r s4).bndA fun ys s => .ok (xs ++ ys) s else .fail
        | _ => .fail) = _
      rw [e]
      show (match finA s'.length (.ok [.int v] (s'.set n (.lst es))) with
        | .ok xs s4 => if gOk none s4 then (compL none (tName i) none te ⟨k, B⟩ ρ r s4).bndA fun ys s => .ok (xs ++ ys) s else .fail
        | _ => .fail) = _
      rw [hf]
      show (compL none (tName i) none te ⟨k, B⟩ ρ r (s'.set n (.lst es))).bndA (fun ys s => .ok ([.int v] ++ ys) s) = _
      rw [e2]
      rfl
    · rcases List.mem_cons.mp hz with hz | hz
      · rw [hz]; exact hP
      · exact hPs z hz
theorem comp_ok2 {it : IS} {own : List Nat} {t : TS} {ts : Option ES} {te : ES} {c : C} {ρ : Ev.Env} {s s1 s2 : S} {ds L : List D} {g : Option (Nat × List D)} (hi : it ⟨c.call, s.length :: c.B⟩ ρ s = .ok ds g s1) (hl : ds.length ≤ lim) (hc : compL g t ts te ⟨c.call, s.length :: c.B⟩ (wipeD ρ own) ds s1 = .ok L s2) (hs : s2.length = s.length) (hy : D.ygs s.length L = false) :
    eComp it own t ts te c ρ s = .ok (.ref s.length) (s2 ++ [.lst L]) := by
  show finF s.length ((it ⟨c.call, s.length :: c.B⟩ ρ s).bnd fun ds g s1 => if ds.length ≤ lim then (compL g t ts te ⟨c.call, s.length :: c.B⟩ (wipeD ρ own) ds s1).bnd fun xs s2 => al (.lst xs) s2 else .fail) = _
  rw [hi]
  show finF s.length (if ds.length ≤ lim then (compL g t ts te ⟨c.call, s.length :: c.B⟩ (wipeD ρ own) ds s1).bnd fun xs s2 => al (.lst xs) s2 else .fail) = _
  rw [if_pos hl, hc]
  show finF s.length (.ok (.ref s2.length) (s2 ++ [.lst L])) = _
  rw [← hs] at hy ⊢
  have e1 : ¬ (s2 ++ [O.lst L]).length = s2.length := by simp
  show (if (s2 ++ [O.lst L]).length = s2.length then _ else if s2.length < s2.length then _ else _) = _
  rw [if_neg e1, if_neg (Nat.lt_irrefl _), top_get]
  show (if D.ygs s2.length L = true then _ else _) = _
  rw [hy, if_neg Bool.false_ne_true, List.take_left']
  rfl
theorem tup_comp {e : ES} {c : C} {ρ : Ev.Env} {s s2 : S} {l : List Int} (he : e ⟨c.call, s.length :: c.B⟩ ρ s = .ok (.ref s.length) (s2 ++ [.lst (l.map D.int)])) (hs : s2.length = s.length) : eBlt tupD (aCons e aNil) c ρ s = .ok (.tup (l.map D.int)) s2 := by
  show finF s.length ((aCons e aNil ⟨c.call, s.length :: c.B⟩ ρ s).bnd fun xs s => tupD xs s) = _
  rw [cons_ok he nil_ok]
  show finF s.length (tupD [.ref s.length] (s2 ++ [.lst (l.map D.int)])) = _
  rw [← hs, tupD_lst top_lst]
  exact finF_pln yg_tupI (fun _ => by simp)
theorem sum_blt {e : ES} {c : C} {ρ : Ev.Env} {s : S} {l : List Int} (he : ∀ B, e ⟨c.call, B⟩ ρ s = .ok (.tup (l.map D.int)) s) : eBlt sumD (aCons e aNil) c ρ s = .ok (.int l.sum) s := blt_args (cons_ok (he _) nil_ok) (sumD_ints rfl)
theorem blen {e : ES} {c : C} {ρ : Ev.Env} {s : S} {l : List Int} (he : ∀ B, e ⟨c.call, B⟩ ρ s = .ok (.tup (l.map D.int)) s) : eBlt lenD (aCons e aNil) c ρ s = .ok (.int l.length) s := by
  rw [len_blt he, List.length_map]
theorem fin_bl {b : Nat} {s : S} {p : Bool} : ∃ s2, finF b (.ok (.bl p) s) = .ok (.bl p) s2 := by
  show ∃ s2, (if s.length = b then Res.ok (.bl p) s else if D.yg b (.bl p) = true then .ok (.bl p) s else .ok (.bl p) (s.take b)) = .ok (.bl p) s2
  split
  · exact ⟨s, rfl⟩
  · exact ⟨s.take b, rfl⟩
theorem blt_args2 {f : List D → S → Res} {as : AS} {c : C} {ρ : Ev.Env} {s s1 : S} {xs : List D} {d : D} (ha : as ⟨c.call, s.length :: c.B⟩ ρ s = .ok xs s1) (hf : f xs s1 = .ok d s1) (hl : s1.length = s.length) : eBlt f as c ρ s = .ok d s1 := by
  show finF s.length ((as ⟨c.call, s.length :: c.B⟩ ρ s).bnd fun xs s => f xs s) = _
  rw [ha]
  show finF s.length (f xs s1) = _
  rw [hf, finF_len hl]
section
variable {s : S}
theorem call2 {f : Nat} {i j : Int} {e1 e2 : ES} {C0 : C} {ρ : Ev.Env} (q1 : e1 C0 ρ s = .ok (.int i) s) (q2 : e2 C0 ρ s = .ok (.int j) s) : eCall f (aCons e1 (aCons e2 aNil)) C0 ρ s = C0.call f C0.B [.int i, .int j] s := call_ok (cons_ok q1 (cons_ok q2 nil_ok))
theorem call3 {f : Nat} {i j k : Int} {e1 e2 e3 : ES} {C0 : C} {ρ : Ev.Env} (q1 : e1 C0 ρ s = .ok (.int i) s) (q2 : e2 C0 ρ s = .ok (.int j) s) (q3 : e3 C0 ρ s = .ok (.int k) s) : eCall f (aCons e1 (aCons e2 (aCons e3 aNil))) C0 ρ s = C0.call f C0.B [.int i, .int j, .int k] s := call_ok (cons_ok q1 (cons_ok q2 (cons_ok q3 nil_ok)))
end
theorem te_drop {s : S} {ρ : Ev.Env} {o : O} (h : erase s.length ρ = ρ) : turnEnd true s.length ρ (s ++ [o]) .nx = .nx ρ s := by
  unfold turnEnd
  rw [if_pos ⟨rfl, by simp⟩, h, List.take_left']
  rfl
section
variable {s : S}
theorem and_ff {a c : ES} {C0 : C} {ρ : Ev.Env} {p q : Bool} (ha : a C0 ρ s = .ok (.bl p) s) (hc : c C0 ρ s = .ok (.bl q) s) (h : p = false ∨ q = false) : eAnd a c C0 ρ s = .ok (.bl false) s := by
  cases p with
  | false => exact and_f ha
  | true =>
    rw [and_t ha, hc]
    rcases h with h | h
    · cases h
    · rw [h]
end
theorem yg_seq {s : S} {d : D} {ns : List Int} {N : Nat} (h : seqOf s d = some (ns.map D.int)) (hl : s.length ≤ N) : D.yg N d = false := by
  cases d <;> first | (cases h; done) | skip
  case tup es => cases h; exact yg_tupI
  case frl es => cases h; rw [D.yg]; exact ygs_map_int
  case ref n =>
    have := lstOf_lt (p := n) h
    simp only [D.yg]
    exact decide_eq_false (by omega)
theorem lst_app {s t : S} {n : Nat} {ds : List D} (h : lstOf s n = some ds) : lstOf (s ++ t) n = some ds := by
  have := lstOf_lt h
  unfold lstOf at h ⊢
  rw [List.getElem?_append_left this]
  exact h
theorem hd_app {ns : List Int} {s t : S} {n : Nat} (h : Hd ns s n) : Hd ns (s ++ t) n := by
  obtain ⟨m, i, c, z, h⟩ := h
  exact ⟨m, i, c, z, lst_app h.at_, lst_app h.ns_, h.ne, h.i0, h.c0, h.z0⟩
theorem hd_lt {ns : List Int} {s : S} {n : Nat} (h : Hd ns s n) : n < s.length := by
  obtain ⟨m, i, c, z, h⟩ := h
  exact lstOf_lt h.at_
theorem set_len {s : S} {n : Nat} {o : O} : (s.set n o).length = s.length := by simp
end KL

set_option maxRecDepth 100000
namespace KL
open PySem Ev
local macro_rules | `(tactic| walk_at "st") => `(tactic| dsimp only [start0, List.length_cons, List.length_nil, List.replicate, List.cons_append, List.nil_append, Nat.reduceSub, Nat.reduceAdd])
local macro_rules | `(tactic| walk_at "ev") => `(tactic| simp (disch := omega) only [sSeq, sSet, sExpr, sRet, sRetN, sIf, sBrk, sCnt, sRaise, sNil, sAsg, sAug, sPar2, sFor, tName, tTup, tsCons, tsNil, tSub, eVar, eC, eOp, eUn, aNil, aCons, eTup, eLst, eCall, eBlt, gcF, gcE, eNot, eAnd, eOr, eIf, eChain, eTold, eMt, eSl, withPart, iR1, iR2, iR3, iSeq, Ev.iEnum, Res.bnd, Res.bndS, Res.bndA, Res.bndI, Rss.bnd, Rss.bndA, Rss.bndS, Rss.bndI, Itm.bnd, Itm.bndS, Out.bnd, Res.tst, Res.tstS, Res.tstA, gv, sv, tru, al, toRes, C.psh, endG, gOk, bAdd, bSub, uNeg, cLt, cLe, cGt, cGe, iAdd, lenD, intD, absD, if_true, if_false, Bool.false_eq_true, ite_true, ite_false, decide_true, decide_false, Bool.not_true, Bool.not_false, Bool.and_true, Bool.and_false, Bool.true_and, Bool.false_and, Int.zero_sub, and_true, true_and, and_false, false_and, not_true_eq_false, not_false_eq_true, finF_same, fin_same', cEq_int, cNe_int, decide_eq_true_eq, Bool.not_eq_true', decide_eq_false_iff_not, ite_not])
local macro_rules | `(tactic| walk_at "ew") => `(tactic| repeat (first | walk_at "ev" | (simp (disch := omega) only [ev_power_of, ev_check, ev_check_code, ev_meaning, ev_code_of, ev_widened, div_pow, mod_pow])))
theorem ev_power_of {m : Nat} {B : List Nat} {s : S} (n : Int) (h0 : 0 ≤ n) (h1 : n < 2 ^ 62) : callN tab (m + 1) 1 B [.int n] s = .ok (.int (2 ^ n.toNat)) s := by
  have loop : ∀ (l : List D) (c : C) (a : Int) (x : D), ∃ y, forL true none (tName 2) (sSeq (sAug 1 iMul (eC (.int 2))) sNil) c l [.int n, .int a, x] s = .nx [.int n, .int (a * 2 ^ l.length), y] s := by
    intro l c
    induction l with
    | nil => intro a x; exact ⟨x, by simp [forL]⟩
    | cons i r ih =>
      intro a x
      obtain ⟨y, hy⟩ := ih (a * 2) i
      refine ⟨y, ?_⟩
      rw [forL_cons (ρ2 := [.int n, .int (a * 2), i]) (s2 := s) (turn_name ?_ rfl) rfl, hy, List.length_cons, Int.pow_succ, Int.mul_assoc, Int.mul_comm 2]
      refine seq_go ?_ rfl
      walk_at "ev"
      rw [iMul_ok (mulOk_r (by decide) (by decide))]
  obtain ⟨y, hy⟩ := loop (rngI 0 n.toNat) ⟨callN tab m, s.length :: s.length :: B⟩ 1 .und
  refine run_go (d := .int (2 ^ n.toNat)) (s1 := s) rfl ?_ finF_same
  dsimp only [c_power_of, start0, List.length_cons, List.length_nil, List.replicate, List.cons_append, List.nil_append]
  refine seq_go (set_ok rfl) (seq_go (for_nx (g := none) (s1 := s) (ds := rngI 0 n.toNat) ?_ hy te_same) (seq_rt (ret_ok ?_)))
  · walk_at "ev"
    rw [if_pos (small_of (by omega) h1)]
  · rw [rngI, List.length_map, List.length_range, Int.one_mul]
    rfl

local macro_rules | `(tactic| walk_at "st") => `(tactic| dsimp only [start0, List.length_cons, List.length_nil, List.replicate, List.cons_append, List.nil_append, Nat.reduceSub, Nat.reduceAdd])
theorem loop_raise {C0 : C} {s : S} (a0 : D) : ∀ (c j : Nat) (d2 : D), j + c ≤ 60 → ∃ e2, forL true none (tName 2) (sSeq (sSet 1 (eOp bMul (eC (.int 2)) (eVar 1))) sNil) C0 ((List.range' j c).map fun i => D.int (0 + (i : Nat))) [a0, .int (2 ^ j), d2] s = .nx [a0, .int (2 ^ (j + c)), e2] s := by
  intro c
  induction c with
  | zero => intro j d2 h; exact ⟨d2, rfl⟩
  | succ c ih =>
    intro j d2 h
    obtain ⟨e2, hy⟩ := ih (j + 1) (.int (0 + (j : Nat))) (by omega)
    refine ⟨e2, ?_⟩
    rw [List.range'_succ, List.map_cons, forL_cons (ρ2 := [a0, .int (2 ^ (j + 1)), .int (0 + (j : Nat))]) (s2 := s) (turn_name ?_ rfl) rfl, hy]
    · rw [Nat.add_right_comm, Nat.add_assoc]
    · refine seq_go (ρ1 := [a0, .int (2 ^ (j + 1)), .int (0 + (j : Nat))]) (s1 := s) (set_ok (d := .int (2 ^ (j + 1))) ?_) rfl
      rw [op_ok (x := .int 2) (y := .int (2 ^ j)) (s1 := s) (s2 := s) rfl rfl, mul_ok (mulOk_l (by decide) (by decide)), Int.pow_succ, Int.mul_comm]
theorem ev_law_take {ns : List Int} {k : Nat} {B : List Nat} {s : S} {n : Nat} (many : Int) (hh : Hd ns s n) (h0 : 0 < many) (h1 : many < 2 ^ 62) : ∃ v es, callN tab (k + 1) 27 B [.ref n, .int many] s = .ok (.int v) (s.set n (.lst es)) ∧ 0 ≤ v ∧ v < many ∧ Hd ns (s.set n (.lst es)) n := by
  obtain ⟨m, i, c, z, h⟩ := hh
  have go : ∀ {v : Int} {es : List D}, (c_law_take ⟨callN tab k, s.length :: B⟩ [.ref n, .int many, .und, .und] s = .rt (.int v) (s.set n (.lst es))) → callN tab (k + 1) 27 B [.ref n, .int many] s = .ok (.int v) (s.set n (.lst es)) := fun e =>
    run_go (np := 2) (n := 4) rfl e (finF_len (by simp))
  have hlen : eOp cLt (eOp bIx (eVar 0) (eC (.int 1))) (eBlt lenD (aCons (eOp bIx (eVar 0) (eC (.int 0))) aNil)) ⟨callN tab k, s.length :: B⟩ [.ref n, .int many, .und, .und] s = .ok (.bl (decide (i < ns.length))) s := by
    rw [op_ok (x := .int i) (y := .int ns.length) (s1 := s) (s2 := s) (h_get1 h rfl) ?_, cLt_ok]
    unfold eBlt gcF aCons aNil
    simp only [h_get0 h (C0 := ⟨callN tab k, s.length :: s.length :: B⟩) (ρ := [.ref n, .int many, .und, .und]) rfl, Res.bndA, Rss.bndA, Rss.bnd]
    rw [lenD_lst h.ns_, finF_same, List.length_map]
  have heq : eOp cEq (eOp bIx (eVar 0) (eC (.int 2))) (eC (.int 0)) ⟨callN tab k, s.length :: B⟩ [.ref n, .int many, .und, .und] s = .ok (.bl (decide (c = 0))) s := by
    rw [op_ok (x := .int c) (y := .int 0) (s1 := s) (s2 := s) (h_get2 h rfl) rfl, cEq_int]
  by_cases hb : c = 0 ∧ i < ns.length
  · obtain ⟨hc, hi⟩ := hb
    obtain ⟨j, rfl⟩ : ∃ j : Nat, i = j := ⟨i.toNat, by have := h.i0; omega⟩
    have hj : j < ns.length := by omega
    obtain ⟨w, hw⟩ : ∃ w, w = ns[j] := ⟨_, rfl⟩
    obtain ⟨a, ha⟩ : ∃ a : Int, a = if w < 0 then -w else w := ⟨_, rfl⟩
    have ha0 : 0 ≤ a := by split at ha <;> omega
    have hA := h.upd (i' := j) (c' := a) (z' := z) h.i0 ha0 h.z0
    have hB := hA.upd (i' := (j : Int) + 1) (c' := a) (z' := z) (by omega) ha0 h.z0
    rw [set_set'] at hB
    obtain ⟨sA, hsA⟩ : ∃ sA, sA = s.set n (.lst (hnd m j a z)) := ⟨_, rfl⟩
    obtain ⟨sB, hsB⟩ : ∃ sB, sB = s.set n (.lst (hnd m ((j : Int) + 1) a z)) := ⟨_, rfl⟩
    rw [← hsA] at hA
    rw [← hsB] at hB
    have hAB : sA.set n (.lst (hnd m ((j : Int) + 1) a z)) = sB := by rw [hsA, set_set', hsB]
    have hsets : ∀ es, sB.set n (.lst es) = s.set n (.lst es) := fun es => by rw [hsB, set_set']
    have ht : eAnd (eOp cEq (eOp bIx (eVar 0) (eC (.int 2))) (eC (.int 0))) (eOp cLt (eOp bIx (eVar 0) (eC (.int 1))) (eBlt lenD (aCons (eOp bIx (eVar 0) (eC (.int 0))) aNil))) ⟨callN tab k, s.length :: B⟩ [.ref n, .int many, .und, .und] s = .ok (.bl true) s := by
      rw [and_t (heq.trans (by rw [decide_eq_true hc])), hlen, decide_eq_true hi]
    have e1 : sAsg (eBlt absD (aCons (eBlt intD (aCons (eOp bIx (eOp bIx (eVar 0) (eC (.int 0))) (eOp bIx (eVar 0) (eC (.int 1)))) aNil)) aNil)) (tSub (eVar 0) (eC (.int 2))) ⟨callN tab k, s.length :: B⟩ [.ref n, .int many, .und, .und] s = .nx [.ref n, .int many, .und, .und] sA := by
      rw [hsA]
      refine h_set (j := 2) h rfl (by omega) ?_
      rw [ha]
      refine abs_blt fun B => int_blt fun B => ?_
      rw [op_ok (x := .ref m) (y := .int j) (s1 := s) (s2 := s) (h_get0 h rfl) (h_get1 h rfl)]
      refine bIx_lst h.ns_ ?_
      rw [hw]
      simp [hj]
    have e2 : sAsg (eOp bAdd (eOp bIx (eVar 0) (eC (.int 1))) (eC (.int 1))) (tSub (eVar 0) (eC (.int 1))) ⟨callN tab k, s.length :: B⟩ [.ref n, .int many, .und, .und] sA = .nx [.ref n, .int many, .und, .und] sB := by
      rw [← hAB]
      refine h_set (j := 1) hA rfl (by omega) ?_
      rw [op_ok (x := .int j) (y := .int 1) (s1 := sA) (s2 := sA) (h_get1 hA rfl) rfl, add_ok]
    have e3 : eOp cLt (eOp bIx (eVar 0) (eC (.int 2))) (eOp bPow (eC (.int 10)) (eC (.int 18))) ⟨callN tab k, s.length :: B⟩ [.ref n, .int many, .und, .und] sB = .ok (.bl (decide (a < 10 ^ 18))) sB := by
      rw [op_ok (x := .int a) (y := .int (10 ^ 18)) (s1 := sB) (s2 := sB) (h_get2 hB rfl) ?_, cLt_ok]
      rw [op_ok (x := .int 10) (y := .int 18) (s1 := sB) (s2 := sB) rfl rfl]
      show (if powOk 10 18 = true then Res.ok (.int (10 ^ (18 : Int).toNat)) sB else .fail) = _
      rw [if_pos (by decide)]
      rfl
    by_cases hs : a < 10 ^ 18
    · refine ⟨a % many, hnd m ((j : Int) + 1) 0 z, go ?_, Int.emod_nonneg _ (by omega), Int.emod_lt_of_pos _ h0, m, (j : Int) + 1, 0, z, h.upd (by omega) (by omega) h.z0⟩
      refine seq_rt ((if_t ht rfl).trans (seq_go e1 (seq_go e2 (seq_rt ((if_t (e3.trans (by rw [decide_eq_true hs])) rfl).trans ?_)))))
      refine seq_go (ρ1 := [.ref n, .int many, .und, .int a]) (s1 := sB) (set_ok (d := .int a) (int_blt fun _ => h_get2 hB rfl)) (seq_go (ρ1 := [.ref n, .int many, .und, .int a]) (s1 := s.set n (.lst (hnd m ((j : Int) + 1) 0 z))) ?_ (seq_rt (ret_ok ?_)))
      · rw [← hsets]
        exact h_set (j := 2) (v := 0) hB rfl (by omega) rfl
      · rw [op_ok (x := .int a) (y := .int many) (s1 := s.set n (.lst (hnd m ((j : Int) + 1) 0 z))) (s2 := s.set n (.lst (hnd m ((j : Int) + 1) 0 z))) rfl rfl, mod_ok h0]
    · obtain ⟨v, c', z', e, q1, q2, q3, q4⟩ := take_rest (many := many) (x2 := .und) (x3 := .und) (k := callN tab k) (B := s.length :: B) hB h0 h1
      rw [hsets] at e
      refine ⟨v, hnd m ((j : Int) + 1) c' z', go ?_, q1, q2, m, (j : Int) + 1, c', z', h.upd (by omega) q3 q4⟩
      exact seq_go (s1 := sB) ((if_t ht rfl).trans (seq_go e1 (seq_go e2 (seq_go (guard_nx (e3.trans (by rw [decide_eq_false hs]))) rfl)))) e
  · have ht : eAnd (eOp cEq (eOp bIx (eVar 0) (eC (.int 2))) (eC (.int 0))) (eOp cLt (eOp bIx (eVar 0) (eC (.int 1))) (eBlt lenD (aCons (eOp bIx (eVar 0) (eC (.int 0))) aNil))) ⟨callN tab k, s.length :: B⟩ [.ref n, .int many, .und, .und] s = .ok (.bl false) s := by
      unfold eAnd
      rw [heq]
      simp only [Res.bnd, tru]
      by_cases hc : c = 0
      · rw [decide_eq_true hc]
        dsimp only
        rw [hlen, decide_eq_false (fun q => hb ⟨hc, q⟩)]
      · rw [decide_eq_false hc]
    obtain ⟨v, c', z', e, e1, e2, e3, e4⟩ := take_rest (many := many) (x2 := .und) (x3 := .und) (k := callN tab k) (B := s.length :: B) h h0 h1
    exact ⟨v, _, go (seq_go (guard_nx ht) e), e1, e2, m, i, c', z', h.upd h.i0 e3 e4⟩
theorem ev_law_begin {k : Nat} {B : List Nat} {s : S} {d : D} {ns : List Int} (h : seqOf s d = some (ns.map D.int)) : ∃ z, callN tab (k + 1) 26 B [d] s = .ok (.ref (s.length + 1)) (s ++ [.lst (ns.map D.int), .lst (hnd s.length 0 0 z)]) ∧ 0 ≤ z := by
  obtain ⟨g, hi, hg⟩ := iSeq_of (C0 := ⟨callN tab k, s.length :: s.length :: B⟩) (ρ := [d, .int 1, .und]) (i := 0) h rfl
  obtain ⟨z, x, e, hz⟩ := loop_begin (C0 := ⟨callN tab k, s.length :: s.length :: B⟩) hg d ns 1 .und (by decide)
  have hd : d ≠ .und := by intro e; subst e; cases h
  refine ⟨z, ?_, hz⟩
  refine run_go (d := .ref (s.length + 1)) (s1 := s ++ [.lst (ns.map D.int), .lst (hnd s.length 0 0 z)]) rfl ?_ ?_
  · dsimp only [c_law_begin]
    walk_at "st"
    refine seq_go (ρ1 := [d, .int 1, .und]) (s1 := s) (set_ok rfl) (seq_go (ρ1 := [d, .int z, x]) (s1 := s) (for_nx hi e te_same) (seq_rt (ret_ok ?_)))
    have hb : eBlt listD (aCons (eVar 0) aNil) ⟨callN tab k, s.length :: B⟩ [d, .int z, x] s = .ok (.ref s.length) (s ++ [.lst (ns.map D.int)]) := by
      unfold eBlt gcF aCons aNil
      simp only [var_ok (i := 0) (ρ := [d, .int z, x]) rfl hd, gv, Res.bndA, Rss.bndA, Rss.bnd, listD, h, al]
      have e1 : ¬ (s ++ [O.lst (ns.map D.int)]).length = s.length := by simp
      show (if (s ++ [O.lst (ns.map D.int)]).length = s.length then _ else if s.length < s.length then _ else _) = _
      rw [if_neg e1, if_neg (Nat.lt_irrefl _), top_get]
      show (if D.ygs s.length (ns.map D.int) = true then _ else _) = _
      rw [ygs_map_int, if_neg Bool.false_ne_true, List.take_left']
      rfl
    unfold eLst
    rw [cons_ok hb (cons_ok (x := .int 0) rfl (cons_ok (x := .int 0) rfl (cons_ok (x := .int z) rfl nil_ok)))]
    simp only [Rss.bnd, List.length_cons, List.length_nil]
    rw [if_pos (by unfold lim; decide)]
    unfold al
    simp [hnd]
  · have e1 : ¬ (s ++ [O.lst (ns.map D.int), O.lst (hnd s.length 0 0 z)]).length = s.length := by simp
    have e2 : (s ++ [O.lst (ns.map D.int), O.lst (hnd s.length 0 0 z)])[s.length + 1]? = some (.lst (hnd s.length 0 0 z)) := by simp
    show (if (s ++ [O.lst (ns.map D.int), O.lst (hnd s.length 0 0 z)]).length = s.length then _ else if s.length + 1 < s.length then _ else _) = _
    rw [if_neg e1, if_neg (by omega), e2]
    show (if D.ygs s.length (hnd s.length 0 0 z) = true then _ else _) = _
    rw [if_pos (by simp [hnd, D.ygs, D.yg])]
theorem take_callI {ns : List Int} {k : Nat} {B : List Nat} {ρ : Ev.Env} {s : S} {n i : Nat} {e : ES} {many : Int} (hh : Hd ns s n) (hv : gv ρ i = .ref n) (he : e ⟨callN tab (k + 1), B⟩ ρ s = .ok (.int many) s) (h0 : 0 < many) (h1 : many < 2 ^ 62) :
    ∃ v es, eCall 27 (aCons (eVar i) (aCons e aNil)) ⟨callN tab (k + 1), B⟩ ρ s = .ok (.int v) (s.set n (.lst es)) ∧ 0 ≤ v ∧ v < many ∧ Hd ns (s.set n (.lst es)) n := by
  obtain ⟨v, es, e1, e2, e3, e4⟩ := ev_law_take (k := k) (B := B) many hh h0 h1
  refine ⟨v, es, ?_, e2, e3, e4⟩
  rw [call_ok (cons_ok (x := .ref n) (var_ok hv (by simp)) (cons_ok he nil_ok))]
  exact e1
end KL

set_option maxRecDepth 100000
namespace KL
open PySem Ev
local macro_rules | `(tactic| walk_at "st") => `(tactic| dsimp only [start0, List.length_cons, List.length_nil, List.replicate, List.cons_append, List.nil_append, Nat.reduceSub, Nat.reduceAdd])
local macro_rules | `(tactic| walk_at "ev") => `(tactic| simp (disch := omega) only [sSeq, sSet, sExpr, sRet, sRetN, sIf, sBrk, sCnt, sRaise, sNil, sAsg, sAug, sPar2, sFor, tName, tTup, tsCons, tsNil, tSub, eVar, eC, eOp, eUn, aNil, aCons, eTup, eLst, eCall, eBlt, gcF, gcE, eNot, eAnd, eOr, eIf, eChain, eTold, eMt, eSl, withPart, iR1, iR2, iR3, iSeq, Ev.iEnum, Res.bnd, Res.bndS, Res.bndA, Res.bndI, Rss.bnd, Rss.bndA, Rss.bndS, Rss.bndI, Itm.bnd, Itm.bndS, Out.bnd, Res.tst, Res.tstS, Res.tstA, gv, sv, tru, al, toRes, C.psh, endG, gOk, bAdd, bSub, uNeg, cLt, cLe, cGt, cGe, iAdd, lenD, intD, absD, if_true, if_false, Bool.false_eq_true, ite_true, ite_false, decide_true, decide_false, Bool.not_true, Bool.not_false, Bool.and_true, Bool.and_false, Bool.true_and, Bool.false_and, Int.zero_sub, and_true, true_and, and_false, false_and, not_true_eq_false, not_false_eq_true, finF_same, fin_same', cEq_int, cNe_int, decide_eq_true_eq, Bool.not_eq_true', decide_eq_false_iff_not, ite_not])
local macro_rules | `(tactic| walk_at "ew") => `(tactic| repeat (first | walk_at "ev" | (simp (disch := omega) only [ev_power_of, ev_check, ev_check_code, ev_meaning, ev_code_of, ev_widened, div_pow, mod_pow])))
/-- the forms of the law -/
structure Fm (e p : Nat) : Prop where
  e2 : 2 ≤ e
  e4 : e ≤ 4
  p1 : 1 ≤ p
  p4 : p ≤ 4
def fD (e p : Nat) : D := .tup [.int (e : Int), .int (p : Int)]
def PwF (k : Nat → List Nat → List D → S → Res) (f : Nat) : Prop := ∀ (n : Nat) (B : List Nat) (s : S), n ≤ 60 → k f B [.int ((n : Nat) : Int)] s = .ok (.int (2 ^ n)) s
theorem pwf1 {m : Nat} : PwF (callN tab (m + 1)) 1 := fun n B s h => by
  rw [ev_power_of (n : Int) (by omega) (Int.lt_of_le_of_lt (Int.ofNat_le.mpr h) (by decide)), Int.toNat_natCast]
section
variable {k : Nat → List Nat → List D → S → Res} {B : List Nat} {ρ : Ev.Env} {s : S} {i f e p : Nat}
theorem X_e {C0 : C} (hv : gv ρ i = fD e p) : eOp bIx (eVar i) (eC (.int 0)) C0 ρ s = .ok (.int (e : Int)) s := by
  rw [op_ok (x := fD e p) (y := .int 0) (s1 := s) (s2 := s) (var_ok hv (by simp [fD])) rfl]; rfl
theorem X_p {C0 : C} (hv : gv ρ i = fD e p) : eOp bIx (eVar i) (eC (.int 1)) C0 ρ s = .ok (.int (p : Int)) s := by
  rw [op_ok (x := fD e p) (y := .int 1) (s1 := s) (s2 := s) (var_ok hv (by simp [fD])) rfl]; rfl
theorem P_n {e1 : ES} {n : Nat} (hf : PwF k f) (hn : n ≤ 60) (he : e1 ⟨k, B⟩ ρ s = .ok (.int ((n : Nat) : Int)) s) : eCall f (aCons e1 aNil) ⟨k, B⟩ ρ s = .ok (.int (2 ^ n)) s := by
  rw [call_ok (cons_ok he nil_ok)]
  exact hf n B s hn
theorem P_p (hf : PwF k f) (h : Fm e p) (hv : gv ρ i = fD e p) : eCall f (aCons (eOp bIx (eVar i) (eC (.int 1))) aNil) ⟨k, B⟩ ρ s = .ok (.int (2 ^ p)) s := P_n hf (by have := h.p4; omega) (X_p hv)
theorem P_e (hf : PwF k f) (h : Fm e p) (hv : gv ρ i = fD e p) : eCall f (aCons (eOp bIx (eVar i) (eC (.int 0))) aNil) ⟨k, B⟩ ρ s = .ok (.int (2 ^ e)) s := P_n hf (by have := h.e4; omega) (X_e hv)
theorem P_ep (hf : PwF k f) (h : Fm e p) (hv : gv ρ i = fD e p) : eCall f (aCons (eOp bAdd (eOp bIx (eVar i) (eC (.int 0))) (eOp bIx (eVar i) (eC (.int 1)))) aNil) ⟨k, B⟩ ρ s = .ok (.int (2 ^ (e + p))) s := P_n hf (by have := h.p4; have := h.e4; omega) (by
  rw [op_ok (X_e hv) (X_p hv), add_ok, Int.natCast_add])
theorem P_1ep (hf : PwF k f) (h : Fm e p) (hv : gv ρ i = fD e p) : eCall f (aCons (eOp bAdd (eOp bAdd (eC (.int 1)) (eOp bIx (eVar i) (eC (.int 0)))) (eOp bIx (eVar i) (eC (.int 1)))) aNil) ⟨k, B⟩ ρ s = .ok (.int (2 ^ (1 + e + p))) s := P_n hf (by have := h.p4; have := h.e4; omega) (by
  rw [op_ok (op_ok (x := .int 1) rfl (X_e hv)) (X_p hv), Int.natCast_add, Int.natCast_add]; rfl)
theorem P_e1 (hf : PwF k f) (h : Fm e p) (hv : gv ρ i = fD e p) : eCall f (aCons (eOp bSub (eOp bIx (eVar i) (eC (.int 0))) (eC (.int 1))) aNil) ⟨k, B⟩ ρ s = .ok (.int (2 ^ (e - 1))) s := P_n hf (by have := h.e4; omega) (by
  rw [op_ok (y := .int 1) (X_e hv) rfl, sub_ok]
  have := h.e2
  congr 2
  omega)
theorem P_p1 (hf : PwF k f) (h : Fm e p) (hv : gv ρ i = fD e p) : eCall f (aCons (eOp bSub (eOp bIx (eVar i) (eC (.int 1))) (eC (.int 1))) aNil) ⟨k, B⟩ ρ s = .ok (.int (2 ^ (p - 1))) s := P_n hf (by have := h.p4; omega) (by
  rw [op_ok (y := .int 1) (X_p hv) rfl, sub_ok]
  have := h.p1
  congr 2
  omega)
theorem pw_small {n : Nat} (h : n ≤ 60) : (2 : Int) ^ n < 2 ^ 62 := by
  have : (2 : Int) ^ n ≤ 2 ^ 60 := by exact_mod_cast Nat.pow_le_pow_right (by decide : 0 < 2) h
  exact Int.lt_of_le_of_lt this (by decide)
theorem pw_m {n : Nat} (h : n ≤ 60) : -(2 ^ 64) < (2 : Int) ^ n ∧ (2 : Int) ^ n < 2 ^ 64 := ⟨Int.lt_trans (by decide) (pow_pos' n), Int.lt_trans (pw_small h) (by decide)⟩
theorem div_n {C0 : C} {a b : ES} {x : Int} {n : Nat} (ha : a C0 ρ s = .ok (.int x) s) (hb : b C0 ρ s = .ok (.int (2 ^ n)) s) (h : n ≤ 60) : eOp bDiv a b C0 ρ s = .ok (.int (x / 2 ^ n)) s := by
  rw [op_ok ha hb, div_ok (pow_pos' n) (big_of (pw_small h))]
theorem mod_n {C0 : C} {a b : ES} {x : Int} {n : Nat} (ha : a C0 ρ s = .ok (.int x) s) (hb : b C0 ρ s = .ok (.int (2 ^ n)) s) : eOp bMod a b C0 ρ s = .ok (.int (x % 2 ^ n)) s := by
  rw [op_ok ha hb, mod_ok (pow_pos' n)]
theorem add_e {C0 : C} {a b : ES} {x y : Int} (ha : a C0 ρ s = .ok (.int x) s) (hb : b C0 ρ s = .ok (.int y) s) : eOp bAdd a b C0 ρ s = .ok (.int (x + y)) s := by rw [op_ok ha hb, add_ok]
theorem sub_e {C0 : C} {a b : ES} {x y : Int} (ha : a C0 ρ s = .ok (.int x) s) (hb : b C0 ρ s = .ok (.int y) s) : eOp bSub a b C0 ρ s = .ok (.int (x - y)) s := by rw [op_ok ha hb, sub_ok]
theorem mul_r {C0 : C} {a b : ES} {x y : Int} (ha : a C0 ρ s = .ok (.int x) s) (hb : b C0 ρ s = .ok (.int y) s) (h : -(2 ^ 64) < y ∧ y < 2 ^ 64) : eOp bMul a b C0 ρ s = .ok (.int (x * y)) s := by rw [op_ok ha hb, mul_ok (mulOk_r h.1 h.2)]
theorem mul_l {C0 : C} {a b : ES} {x y : Int} (ha : a C0 ρ s = .ok (.int x) s) (hb : b C0 ρ s = .ok (.int y) s) (h : -(2 ^ 64) < x ∧ x < 2 ^ 64) : eOp bMul a b C0 ρ s = .ok (.int (x * y)) s := by rw [op_ok ha hb, mul_ok (mulOk_l h.1 h.2)]
theorem eq_e {C0 : C} {a b : ES} {x y : Int} (ha : a C0 ρ s = .ok (.int x) s) (hb : b C0 ρ s = .ok (.int y) s) : eOp cEq a b C0 ρ s = .ok (.bl (decide (x = y))) s := by rw [op_ok ha hb, cEq_int]
theorem lt_e {C0 : C} {a b : ES} {x y : Int} (ha : a C0 ρ s = .ok (.int x) s) (hb : b C0 ρ s = .ok (.int y) s) : eOp cLt a b C0 ρ s = .ok (.bl (decide (x < y))) s := by rw [op_ok ha hb, cLt_ok]
theorem le_e {C0 : C} {a b : ES} {x y : Int} (ha : a C0 ρ s = .ok (.int x) s) (hb : b C0 ρ s = .ok (.int y) s) : eOp cLe a b C0 ρ s = .ok (.bl (decide (x ≤ y))) s := by rw [op_ok ha hb, cLe_ok]
theorem gt_e {C0 : C} {a b : ES} {x y : Int} (ha : a C0 ρ s = .ok (.int x) s) (hb : b C0 ρ s = .ok (.int y) s) : eOp cGt a b C0 ρ s = .ok (.bl (decide (x > y))) s := by rw [op_ok ha hb, cGt_ok]
theorem ge_e {C0 : C} {a b : ES} {x y : Int} (ha : a C0 ρ s = .ok (.int x) s) (hb : b C0 ρ s = .ok (.int y) s) : eOp cGe a b C0 ρ s = .ok (.bl (decide (x ≥ y))) s := by rw [op_ok ha hb, cGe_ok]
/-- a choice between two values by a plain fact -/
theorem if_e {C0 : C} {t a b : ES} {q : Prop} [Decidable q] {x y : D} (ht : t C0 ρ s = .ok (.bl (decide q)) s) (ha : q → a C0 ρ s = .ok x s) (hb : ¬ q → b C0 ρ s = .ok y s) : eIf t a b C0 ρ s = .ok (if q then x else y) s := by
  by_cases h : q
  · rw [if_pos h, eif_t (ht.trans (by rw [decide_eq_true h])), ha h]
  · rw [if_neg h, eif_f (ht.trans (by rw [decide_eq_false h])), hb h]
/-- an if whose one branch goes back -/
theorem if_rt {C0 : C} {t : ES} {a b rest : SS} {q : Prop} [Decidable q] {x y : D} (ht : t C0 ρ s = .ok (.bl (decide q)) s) (ha : q → a C0 ρ s = .rt x s) (hb : ¬ q → sSeq (sIf t a sNil) rest C0 ρ s = .rt y s) : sSeq (sIf t a sNil) rest C0 ρ s = .rt (if q then x else y) s := by
  by_cases h : q
  · rw [if_pos h]
    exact seq_rt ((if_t (ht.trans (by rw [decide_eq_true h])) rfl).trans (ha h))
  · rw [if_neg h]
    exact hb h
theorem ife_rt {C0 : C} {t : ES} {a rest : SS} {q : Prop} [Decidable q] {x y : D} (ht : t C0 ρ s = .ok (.bl (decide q)) s) (ha : q → a C0 ρ s = .rt x s) (hb : ¬ q → rest C0 ρ s = .rt y s) : sSeq (sIf t a sNil) rest C0 ρ s = .rt (if q then x else y) s :=
  if_rt (b := sNil) ht ha fun h => (seq_nx (guard_nx (ht.trans (by rw [decide_eq_false h])))).trans (hb h)
end
section
variable {m : Nat} {B : List Nat} {s : S} {e p : Nat}
theorem ev_check_form (h : Fm e p) : callN tab (m + 1) 0 B [fD e p] s = .ok .non s := by
  refine (run_nx (np := 1) (n := 3) rfl (ρ1 := [fD e p, .int e, .int p]) (s1 := s) ?_).trans finF_same
  dsimp only [c_check_form]
  walk_at "st"
  refine seq_go (ρ1 := [fD e p, .int e, .int p]) (s1 := s) rfl (seq_go (guard_nx ?_) rfl)
  have e1 : eNot (eChain cLe cLe (eC (.int 2)) (eVar 1) (eC (.int 5))) ⟨callN tab m, s.length :: B⟩ [fD e p, .int e, .int p] s = .ok (.bl false) s := by
    rw [not_ok (p := true) (s1 := s)]
    · rfl
    · unfold eChain
      simp only [eC, eVar, gv, Res.bnd, cLe]
      rw [decide_eq_true (by have := h.e2; omega : (2 : Int) ≤ e)]
      dsimp only
      rw [decide_eq_true (by have := h.e4; omega : (e : Int) ≤ 5)]
  rw [or_f e1, not_ok (p := true) (s1 := s)]
  · rfl
  · unfold eChain
    simp only [eC, eVar, gv, Res.bnd, cLe]
    rw [decide_eq_true (by have := h.p1; omega : (1 : Int) ≤ p)]
    dsimp only
    rw [decide_eq_true (by have := h.p4; omega : (p : Int) ≤ 8)]
theorem ev_bias (h : Fm e p) : callN tab (m + 2) 2 B [fD e p] s = .ok (.int (2 ^ (e - 1) - 1)) s := by
  refine run_go (np := 1) (n := 1) (d := .int (2 ^ (e - 1) - 1)) (s1 := s) rfl ?_ finF_same
  dsimp only [c_bias]
  walk_at "st"
  exact seq_rt (ret_ok (sub_e (P_e1 pwf1 h rfl) rfl))
def lp (e p : Nat) : Int := 1 - (2 ^ (e - 1) - 1) - p
theorem ev_least (h : Fm e p) : callN tab (m + 3) 3 B [fD e p] s = .ok (.int (lp e p)) s := by
  refine run_go (np := 1) (n := 1) (d := .int (lp e p)) (s1 := s) rfl ?_ finF_same
  dsimp only [c_least_power]
  walk_at "st"
  refine seq_rt (ret_ok (sub_e (sub_e (x := 1) rfl ?_) (X_p rfl)))
  rw [call_ok (cons_ok (x := fD e p) rfl nil_ok)]
  dsimp only
  rw [ev_bias h]
theorem ev_size (h : Fm e p) : callN tab (m + 2) 4 B [fD e p] s = .ok (.int (2 ^ (1 + e + p))) s := by
  refine run_go (np := 1) (n := 1) (d := .int (2 ^ (1 + e + p))) (s1 := s) rfl ?_ finF_same
  dsimp only [c_size]
  walk_at "st"
  refine seq_go (expr_ok (d := .non) (s1 := s) ?_) (seq_rt (ret_ok (P_1ep pwf1 h rfl)))
  rw [call_ok (cons_ok (x := fD e p) rfl nil_ok)]
  dsimp only
  rw [ev_check_form h]
theorem ev_check_code (h : Fm e p) (c : Int) (h0 : 0 ≤ c) (h1 : c < 2 ^ (1 + e + p)) : callN tab (m + 3) 5 B [fD e p, .int c] s = .ok .non s := by
  refine (run_nx (np := 2) (n := 2) rfl (ρ1 := [fD e p, .int c]) (s1 := s) ?_).trans finF_same
  dsimp only [c_check_code]
  walk_at "st"
  refine seq_go (expr_ok (d := .non) (s1 := s) ?_) (seq_go (guard_nx ?_) rfl)
  · rw [call_ok (cons_ok (x := fD e p) rfl nil_ok)]
    dsimp only
    rw [ev_check_form h]
  · rw [not_ok (p := true) (s1 := s)]
    · rfl
    · unfold eChain
      simp only [eC, eVar, gv, Res.bnd, cLe]
      rw [decide_eq_true h0]
      dsimp only
      rw [call_ok (cons_ok (x := fD e p) (s2 := s) (s1 := s) rfl nil_ok)]
      dsimp only
      rw [ev_size h]
      dsimp only [cLt]
      rw [decide_eq_true h1]
theorem ev_parts (h : Fm e p) (c : Int) (h0 : 0 ≤ c) (h1 : c < 2 ^ (1 + e + p)) : callN tab (m + 4) 6 B [fD e p, .int c] s = .ok (.tup [.int (c / 2 ^ (e + p)), .int (c / 2 ^ p % 2 ^ e), .int (c % 2 ^ p)]) s := by
  have := h.e4
  have := h.p4
  refine run_go (np := 2) (n := 2) (d := .tup [.int (c / 2 ^ (e + p)), .int (c / 2 ^ p % 2 ^ e), .int (c % 2 ^ p)]) (s1 := s) rfl ?_ finF_same
  dsimp only [c_parts]
  walk_at "st"
  refine seq_go (expr_ok (d := .non) (s1 := s) ?_) (seq_rt (ret_ok (tup_ok (cons_ok (div_n rfl (P_ep pwf1 h rfl) (by omega)) (cons_ok (mod_n (div_n rfl (P_p pwf1 h rfl) (by omega)) (P_e pwf1 h rfl)) (cons_ok (mod_n rfl (P_p pwf1 h rfl)) nil_ok))) (by simp))))
  rw [call_ok (cons_ok (x := fD e p) rfl (cons_ok (x := .int c) rfl nil_ok))]
  dsimp only
  rw [ev_check_code h c h0 h1]
theorem ev_greatest (h : Fm e p) : callN tab (m + 2) 10 B [fD e p] s = .ok (.int (2 ^ (e + p) - 2 ^ p - 1)) s := by
  refine run_go (np := 1) (n := 1) (d := .int (2 ^ (e + p) - 2 ^ p - 1)) (s1 := s) rfl ?_ finF_same
  dsimp only [c_greatest]
  walk_at "st"
  refine seq_go (expr_ok (d := .non) (s1 := s) ?_) (seq_rt (ret_ok (sub_e (sub_e (P_ep pwf1 h rfl) (P_p pwf1 h rfl)) rfl)))
  rw [call_ok (cons_ok (x := fD e p) rfl nil_ok)]
  dsimp only
  rw [ev_check_form h]
theorem ev_endless (h : Fm e p) (z : Int) : callN tab (m + 2) 11 B [fD e p, .int z] s = .ok (.int (z * 2 ^ (e + p) + 2 ^ (e + p) - 2 ^ p)) s := by
  have := h.e4
  have := h.p4
  refine run_go (np := 2) (n := 2) (d := .int (z * 2 ^ (e + p) + 2 ^ (e + p) - 2 ^ p)) (s1 := s) rfl ?_ finF_same
  dsimp only [c_endless]
  walk_at "st"
  exact seq_rt (ret_ok (sub_e (add_e (mul_r (x := z) rfl (P_ep pwf1 h rfl) (pw_m (by omega))) (P_ep pwf1 h rfl)) (P_p pwf1 h rfl)))
def nthC (e p : Nat) : Int := 2 ^ (e + p) - 2 ^ p + 2 ^ (p - 1)
theorem ev_nothing (h : Fm e p) : callN tab (m + 2) 12 B [fD e p] s = .ok (.int (nthC e p)) s := by
  refine run_go (np := 1) (n := 1) (d := .int (nthC e p)) (s1 := s) rfl ?_ finF_same
  dsimp only [c_nothing]
  walk_at "st"
  exact seq_rt (ret_ok (add_e (sub_e (P_ep pwf1 h rfl) (P_p pwf1 h rfl)) (P_p1 pwf1 h rfl)))
theorem ev_signed (h : Fm e p) (z : Int) : callN tab (m + 2) 17 B [fD e p, .int z] s = .ok (.int (z * 2 ^ (e + p))) s := by
  have := h.e4
  have := h.p4
  refine run_go (np := 2) (n := 2) (d := .int (z * 2 ^ (e + p))) (s1 := s) rfl ?_ finF_same
  dsimp only [c_signed_nought]
  walk_at "st"
  exact seq_rt (ret_ok (mul_r (x := z) rfl (P_ep pwf1 h rfl) (pw_m (by omega))))
theorem ev_turned (h : Fm e p) (c : Int) (h0 : 0 ≤ c) (h1 : c < 2 ^ (1 + e + p)) : callN tab (m + 4) 19 B [fD e p, .int c] s = .ok (.int (if c ≥ 2 ^ (e + p) then c - 2 ^ (e + p) else c + 2 ^ (e + p))) s := by
  refine run_go (np := 2) (n := 3) (d := .int (if c ≥ 2 ^ (e + p) then c - 2 ^ (e + p) else c + 2 ^ (e + p))) (s1 := s) rfl ?_ finF_same
  dsimp only [c_turned]
  walk_at "st"
  refine seq_go (expr_ok (d := .non) (s1 := s) ?_) (seq_go (set_ok (P_ep pwf1 h rfl)) (seq_rt (ret_ok ?_)))
  · rw [call_ok (cons_ok (x := fD e p) rfl (cons_ok (x := .int c) rfl nil_ok))]
    dsimp only
    rw [ev_check_code h c h0 h1]
  · refine (if_e (q := c ≥ 2 ^ (e + p)) (x := .int (c - 2 ^ (e + p))) (y := .int (c + 2 ^ (e + p))) rfl (fun _ => rfl) (fun _ => rfl)).trans ?_
    by_cases hq : c ≥ 2 ^ (e + p)
    · rw [if_pos hq, if_pos hq]
    · rw [if_neg hq, if_neg hq]
theorem ev_place_of (h : Fm e p) (c : Int) : callN tab (m + 2) 23 B [fD e p, .int c] s = .ok (.int (if c ≥ 2 ^ (e + p) then 2 ^ (e + p) - c else c)) s := by
  refine run_go (np := 2) (n := 3) (d := .int (if c ≥ 2 ^ (e + p) then 2 ^ (e + p) - c else c)) (s1 := s) rfl ?_ finF_same
  dsimp only [c_place_of]
  walk_at "st"
  refine seq_go (set_ok (P_ep pwf1 h rfl)) (seq_rt (ret_ok ?_))
  refine (if_e (q := c ≥ 2 ^ (e + p)) (x := .int (2 ^ (e + p) - c)) (y := .int c) rfl (fun _ => rfl) (fun _ => rfl)).trans ?_
  by_cases hq : c ≥ 2 ^ (e + p)
  · rw [if_pos hq, if_pos hq]
  · rw [if_neg hq, if_neg hq]
/-- what kind of number a code is -/
def kd (e p : Nat) (c : Int) : Str := if c / 2 ^ p % 2 ^ e = 2 ^ e - 1 then (if c % 2 ^ p = 0 then "endless" else "none") else if c / 2 ^ p % 2 ^ e = 0 then (if c % 2 ^ p = 0 then "nought" else "small") else "full"
theorem ev_kind (h : Fm e p) (c : Int) (h0 : 0 ≤ c) (h1 : c < 2 ^ (1 + e + p)) : callN tab (m + 5) 7 B [fD e p, .int c] s = .ok (.str (kd e p c)) s := by
  obtain ⟨E, hE⟩ : ∃ E, E = c / 2 ^ p % 2 ^ e := ⟨_, rfl⟩
  obtain ⟨P, hP⟩ : ∃ P, P = c % 2 ^ p := ⟨_, rfl⟩
  have hk : D.str (kd e p c) = if E = 2 ^ e - 1 then (if P = 0 then .str "endless" else .str "none") else if E = 0 then (if P = 0 then .str "nought" else .str "small") else .str "full" := by
    unfold kd
    rw [← hE, ← hP]
    split
    · split <;> rfl
    · split
      · split <;> rfl
      · rfl
  refine run_go (np := 2) (n := 5) (d := .str (kd e p c)) (s1 := s) rfl ?_ finF_same
  rw [hk]
  dsimp only [c_kind]
  walk_at "st"
  refine seq_go (ρ1 := [fD e p, .int c, .int (c / 2 ^ (e + p)), .int E, .int P]) (s1 := s) ?_ ?_
  · rw [hE, hP]
    refine (asg_ok (d := .tup [.int (c / 2 ^ (e + p)), .int (c / 2 ^ p % 2 ^ e), .int (c % 2 ^ p)]) (s1 := s) ?_).trans rfl
    rw [call_ok (cons_ok (x := fD e p) rfl (cons_ok (x := .int c) rfl nil_ok))]
    dsimp only
    rw [ev_parts h c h0 h1]
  · refine ife_rt (eq_e rfl (sub_e (P_e pwf1 h rfl) rfl)) (fun _ => seq_rt (ret_ok ?_)) (fun _ => ?_)
    · exact if_e (q := P = 0) (eq_e rfl rfl) (fun _ => rfl) (fun _ => rfl)
    · refine ife_rt (q := E = 0) (eq_e rfl rfl) (fun _ => seq_rt (ret_ok ?_)) (fun _ => seq_rt (ret_ok rfl))
      exact if_e (q := P = 0) (eq_e rfl rfl) (fun _ => rfl) (fun _ => rfl)
end
end KL

set_option maxRecDepth 100000
namespace KL
open PySem Ev
local macro_rules | `(tactic| walk_at "st") => `(tactic| dsimp only [start0, List.length_cons, List.length_nil, List.replicate, List.cons_append, List.nil_append, Nat.reduceSub, Nat.reduceAdd])
local macro_rules | `(tactic| walk_at "ev") => `(tactic| simp (disch := omega) only [sSeq, sSet, sExpr, sRet, sRetN, sIf, sBrk, sCnt, sRaise, sNil, sAsg, sAug, sPar2, sFor, tName, tTup, tsCons, tsNil, tSub, eVar, eC, eOp, eUn, aNil, aCons, eTup, eLst, eCall, eBlt, gcF, gcE, eNot, eAnd, eOr, eIf, eChain, eTold, eMt, eSl, withPart, iR1, iR2, iR3, iSeq, Ev.iEnum, Res.bnd, Res.bndS, Res.bndA, Res.bndI, Rss.bnd, Rss.bndA, Rss.bndS, Rss.bndI, Itm.bnd, Itm.bndS, Out.bnd, Res.tst, Res.tstS, Res.tstA, gv, sv, tru, al, toRes, C.psh, endG, gOk, bAdd, bSub, uNeg, cLt, cLe, cGt, cGe, iAdd, lenD, intD, absD, if_true, if_false, Bool.false_eq_true, ite_true, ite_false, decide_true, decide_false, Bool.not_true, Bool.not_false, Bool.and_true, Bool.and_false, Bool.true_and, Bool.false_and, Int.zero_sub, and_true, true_and, and_false, false_and, not_true_eq_false, not_false_eq_true, finF_same, fin_same', cEq_int, cNe_int, decide_eq_true_eq, Bool.not_eq_true', decide_eq_false_iff_not, ite_not])
local macro_rules | `(tactic| walk_at "ew") => `(tactic| repeat (first | walk_at "ev" | (simp (disch := omega) only [ev_power_of, ev_check, ev_check_code, ev_meaning, ev_code_of, ev_widened, div_pow, mod_pow])))
theorem gcd_loop {t : ES} {bd : SS} {C0 : C} {s : S} (env : Nat → Nat → Ev.Env) (hf : ∀ x C1, ∃ d, t C1 (env x 0) s = .ok d s ∧ tru s d = some false) (ht : ∀ x y C1, 0 < y → ∃ d, t C1 (env x y) s = .ok d s ∧ tru s d = some true) (hb : ∀ x y C1, 0 < y → bd C1 (env x y) s = .nx (env y (x % y)) s) : ∀ (k x y T : Nat), y < 2 ^ k → 2 * k + 2 ≤ T → whileL true t bd C0 T (env x y) s = .nx (env (Nat.gcd y x) 0) s := by
  have stop : ∀ x T, 1 ≤ T → whileL true t bd C0 T (env x 0) s = .nx (env x 0) s := by
    intro x T hT
    obtain ⟨T, rfl⟩ : ∃ u, T = u + 1 := ⟨T - 1, by omega⟩
    obtain ⟨d, h1, h2⟩ := hf x (C0.psh true s.length)
    rw [while_f h1 h2, te_same]
  have step : ∀ x y T, 0 < y → whileL true t bd C0 (T + 1) (env x y) s = whileL true t bd C0 T (env y (x % y)) s := by
    intro x y T hy
    obtain ⟨d, h1, h2⟩ := ht x y (C0.psh true s.length) hy
    exact while_t h1 h2 (hb x y _ hy) te_same
  intro k
  induction k with
  | zero =>
    intro x y T hy hT
    have : y = 0 := by simpa using hy
    subst this
    rw [stop x T (by omega), Nat.gcd_zero_left]
  | succ k ih =>
    intro x y T hy hT
    by_cases h0 : y = 0
    · subst h0
      rw [stop x T (by omega), Nat.gcd_zero_left]
    · obtain ⟨T, rfl⟩ : ∃ u, T = u + 2 := ⟨T - 2, by omega⟩
      have hy0 : 0 < y := by omega
      rw [step x y (T + 1) hy0, Nat.gcd_rec y x]
      by_cases h1 : x % y = 0
      · rw [h1, stop y (T + 1) (by omega), Nat.gcd_zero_left]
      · have h10 : 0 < x % y := by omega
        rw [step y (x % y) T h10, Nat.gcd_rec (x % y) y]
        have hlt : x % y < y := Nat.mod_lt _ hy0
        have hlt2 : y % (x % y) < x % y := Nat.mod_lt _ h10
        have half : y % (x % y) < 2 ^ k := by
          have e1 := Nat.div_add_mod y (x % y)
          have e2 : 1 ≤ y / (x % y) := (Nat.le_div_iff_mul_le h10).mpr (by omega)
          have e3 : x % y ≤ (x % y) * (y / (x % y)) := Nat.le_mul_of_pos_right _ e2
          rw [Nat.pow_succ] at hy
          omega
        exact ih _ _ T half (by omega)
def gI (a b : Int) : Nat := Nat.gcd b.natAbs a.natAbs
/-- the fraction of two numbers -/
def fr (a b : Int) : Int × Int := (a / (gI a b : Nat), b / (gI a b : Nat))
def fD2 (q : Int × Int) : D := .tup [.int q.1, .int q.2]
theorem abs_nat (z : Int) : (if z < 0 then -z else z) = ((z.natAbs : Nat) : Int) := by split <;> omega
theorem gI_pos {a b : Int} (h : b ≠ 0) : 0 < gI a b := Nat.gcd_pos_of_pos_left _ (by omega)
theorem gI_le {a b : Int} (h : b ≠ 0) : gI a b ≤ b.natAbs := Nat.le_of_dvd (by omega) (Nat.gcd_dvd_left _ _)
theorem gI_big {a b : Int} (h : b ≠ 0) (hb : b.natAbs < 2 ^ 200) : ((gI a b : Nat) : Int) < big := by
  have h1 : gI a b < 2 ^ 200 := Nat.lt_of_le_of_lt (gI_le h) hb
  have h2 : ((gI a b : Nat) : Int) < ((2 ^ 200 : Nat) : Int) := Int.ofNat_lt.mpr h1
  exact Int.lt_trans h2 (by decide +kernel)
section
variable {m : Nat} {B : List Nat} {s : S}
theorem ev_reduced (a b : Int) (hb : 0 < b) (hb2 : b.natAbs < 2 ^ 200) : callN tab (m + 1) 8 B [.int a, .int b] s = .ok (fD2 (fr a b)) s := by
  have hl := gcd_loop (t := eVar 3) (bd := sSeq (sPar2 2 3 (aCons (eVar 3) (aCons (eOp bMod (eVar 2) (eVar 3)) aNil))) sNil) (C0 := ⟨callN tab m, s.length :: B⟩) (s := s) (fun x y => [.int a, .int b, .int ((x : Nat) : Int), .int ((y : Nat) : Int)]) (fun x C1 => ⟨.int 0, rfl, rfl⟩) (fun x y C1 hy => ⟨.int y, rfl, by simp [tru]; omega⟩) (fun x y C1 hy => by
    refine seq_go (ρ1 := [.int a, .int b, .int ((y : Nat) : Int), .int ((x % y : Nat) : Int)]) (s1 := s) ?_ rfl
    unfold sPar2
    rw [cons_ok (x := .int ((y : Nat) : Int)) (s1 := s) rfl (cons_ok (x := .int ((x % y : Nat) : Int)) (s1 := s) ?_ nil_ok)]
    · rfl
    · rw [op_ok (x := .int ((x : Nat) : Int)) (y := .int ((y : Nat) : Int)) (s1 := s) (s2 := s) rfl rfl, mod_ok (by omega), Int.natCast_emod]) 200 a.natAbs b.natAbs turns hb2 (by decide)
  have hg0 : ((gI a b : Nat) : Int) > 0 := by have := gI_pos (a := a) (b := b) (by omega); omega
  have hgb := gI_big (a := a) (b := b) (by omega) hb2
  refine run_go (np := 2) (n := 4) (d := fD2 (fr a b)) (s1 := s) rfl ?_ finF_same
  dsimp only [c_reduced]
  walk_at "st"
  refine seq_go (ρ1 := [.int a, .int b, .int ((a.natAbs : Nat) : Int), .int ((b.natAbs : Nat) : Int)]) (s1 := s) ?_ (seq_go (while_go hl) (seq_rt (ret_ok ?_)))
  · unfold sPar2
    rw [cons_ok (x := .int ((a.natAbs : Nat) : Int)) (s1 := s) ((abs_blt fun _ => rfl).trans (by rw [abs_nat])) (cons_ok (x := .int ((b.natAbs : Nat) : Int)) (s1 := s) ((abs_blt fun _ => rfl).trans (by rw [abs_nat])) nil_ok)]
    rfl
  · refine (eif_t ((gt_e rfl rfl).trans (by rw [decide_eq_true (show ((Nat.gcd b.natAbs a.natAbs : Nat) : Int) > 0 from hg0)]))).trans (tup_ok (cons_ok (s1 := s) ?_ (cons_ok (s1 := s) ?_ nil_ok)) (by simp))
    · rw [op_ok (x := .int a) (y := .int ((gI a b : Nat) : Int)) (s1 := s) (s2 := s) rfl rfl, div_ok hg0 hgb]; rfl
    · rw [op_ok (x := .int b) (y := .int ((gI a b : Nat) : Int)) (s1 := s) (s2 := s) rfl rfl, div_ok hg0 hgb]; rfl
/-- .. with the sign above -/
def frs (a b : Int) : Int × Int := if 0 < b then fr a b else fr (-a) (-b)
end
theorem fr_one (a : Int) : fr a 1 = (a, 1) := by
  unfold fr gI
  rw [show (1 : Int).natAbs = 1 from rfl, Nat.gcd_one_left]
  simp
/-- the power and the whole number of a code, its value -/
def xE (e p : Nat) (c : Int) : Int := c / 2 ^ p % 2 ^ e
def vq (e p : Nat) (c : Int) : Int := lp e p + (if 0 > xE e p c - 1 then 0 else xE e p c - 1)
def vm0 (e p : Nat) (c : Int) : Int := if xE e p c = 0 then c % 2 ^ p else c % 2 ^ p + 2 ^ p
def vm (e p : Nat) (c : Int) : Int := if c / 2 ^ (e + p) = 1 then 0 - vm0 e p c else vm0 e p c
def vf (e p : Nat) (c : Int) : Int × Int := if 0 ≤ vq e p c then (vm e p c * 2 ^ (vq e p c).toNat, 1) else fr (vm e p c) (2 ^ (0 - vq e p c).toNat)
def vl (e p : Nat) (c : Int) : Option (Int × Int) := if xE e p c = 2 ^ e - 1 then none else some (vf e p c)
def vD : Option (Int × Int) → D
  | none => .non
  | some q => fD2 q
theorem pe16 {e p : Nat} (h : Fm e p) : (4 : Int) ≤ 2 ^ e ∧ (2 : Int) ^ e ≤ 16 ∧ (2 : Int) ^ (e - 1) * 2 = 2 ^ e ∧ (2 : Int) ≤ 2 ^ p ∧ (2 : Int) ^ p ≤ 16 := by
  obtain ⟨h1, h2, h3, h4⟩ := h
  have he : e = 2 ∨ e = 3 ∨ e = 4 := by omega
  have hp : p = 1 ∨ p = 2 ∨ p = 3 ∨ p = 4 := by omega
  rcases he with rfl | rfl | rfl <;> rcases hp with rfl | rfl | rfl | rfl <;> decide
theorem xE_rng (e p : Nat) (c : Int) : 0 ≤ xE e p c ∧ xE e p c < 2 ^ e := ⟨Int.emod_nonneg _ (Int.ne_of_gt (pow_pos' e)), Int.emod_lt_of_pos _ (pow_pos' e)⟩
theorem vq_rng {e p : Nat} (h : Fm e p) (c : Int) : -20 ≤ vq e p c ∧ vq e p c ≤ 20 := by
  have h1 := pe16 h
  have h2 := xE_rng e p c
  have := h.p1
  have := h.p4
  unfold vq lp
  split <;> omega
end KL

set_option maxRecDepth 100000
namespace KL
open PySem Ev
local macro_rules | `(tactic| walk_at "st") => `(tactic| dsimp only [start0, List.length_cons, List.length_nil, List.replicate, List.cons_append, List.nil_append, Nat.reduceSub, Nat.reduceAdd])
local macro_rules | `(tactic| walk_at "ev") => `(tactic| simp (disch := omega) only [sSeq, sSet, sExpr, sRet, sRetN, sIf, sBrk, sCnt, sRaise, sNil, sAsg, sAug, sPar2, sFor, tName, tTup, tsCons, tsNil, tSub, eVar, eC, eOp, eUn, aNil, aCons, eTup, eLst, eCall, eBlt, gcF, gcE, eNot, eAnd, eOr, eIf, eChain, eTold, eMt, eSl, withPart, iR1, iR2, iR3, iSeq, Ev.iEnum, Res.bnd, Res.bndS, Res.bndA, Res.bndI, Rss.bnd, Rss.bndA, Rss.bndS, Rss.bndI, Itm.bnd, Itm.bndS, Out.bnd, Res.tst, Res.tstS, Res.tstA, gv, sv, tru, al, toRes, C.psh, endG, gOk, bAdd, bSub, uNeg, cLt, cLe, cGt, cGe, iAdd, lenD, intD, absD, if_true, if_false, Bool.false_eq_true, ite_true, ite_false, decide_true, decide_false, Bool.not_true, Bool.not_false, Bool.and_true, Bool.and_false, Bool.true_and, Bool.false_and, Int.zero_sub, and_true, true_and, and_false, false_and, not_true_eq_false, not_false_eq_true, finF_same, fin_same', cEq_int, cNe_int, decide_eq_true_eq, Bool.not_eq_true', decide_eq_false_iff_not, ite_not])
local macro_rules | `(tactic| walk_at "ew") => `(tactic| repeat (first | walk_at "ev" | (simp (disch := omega) only [ev_power_of, ev_check, ev_check_code, ev_meaning, ev_code_of, ev_widened, div_pow, mod_pow])))
theorem kd_in (e p : Nat) (c : Int) (s : S) : cIn (.str (kd e p c)) (.tup [.str "none", .str "endless"]) s = .ok (.bl (decide (xE e p c = 2 ^ e - 1))) s := by
  unfold kd
  show cIn (.str (if xE e p c = 2 ^ e - 1 then _ else if xE e p c = 0 then _ else _)) _ s = _
  by_cases h : xE e p c = 2 ^ e - 1
  · rw [if_pos h, decide_eq_true h]
    by_cases h2 : c % 2 ^ p = 0
    · rw [if_pos h2]; kernel_rfl
    · rw [if_neg h2]; kernel_rfl
  · rw [if_neg h, decide_eq_false h]
    by_cases h1 : xE e p c = 0
    · rw [if_pos h1]
      by_cases h2 : c % 2 ^ p = 0
      · rw [if_pos h2]; kernel_rfl
      · rw [if_neg h2]; kernel_rfl
    · rw [if_neg h1]; kernel_rfl
section
variable {m : Nat} {B : List Nat} {s : S} {e p : Nat}
theorem kind_call {k : Nat} {C0 : C} {ρ : Ev.Env} {i j : Nat} {c : Int} (hc : C0.call = callN tab (m + 5)) (h : Fm e p) (h0 : 0 ≤ c) (h1 : c < 2 ^ (1 + e + p)) (hi : gv ρ i = fD e p) (hj : gv ρ j = .int c) : eCall 7 (aCons (eVar i) (aCons (eVar j) aNil)) C0 ρ s = .ok (.str (kd e p c)) s := by
  rw [call_ok (cons_ok (var_ok hi (by simp [fD])) (cons_ok (var_ok hj (by simp)) nil_ok)), hc, ev_kind h c h0 h1]
theorem parts_call {C0 : C} {ρ : Ev.Env} {i j : Nat} {c : Int} (hc : C0.call = callN tab (m + 4)) (h : Fm e p) (h0 : 0 ≤ c) (h1 : c < 2 ^ (1 + e + p)) (hi : gv ρ i = fD e p) (hj : gv ρ j = .int c) : eCall 6 (aCons (eVar i) (aCons (eVar j) aNil)) C0 ρ s = .ok (.tup [.int (c / 2 ^ (e + p)), .int (c / 2 ^ p % 2 ^ e), .int (c % 2 ^ p)]) s := by
  rw [call_ok (cons_ok (var_ok hi (by simp [fD])) (cons_ok (var_ok hj (by simp)) nil_ok)), hc, ev_parts h c h0 h1]
theorem max_blt {C0 : C} {ρ : Ev.Env} {a b : ES} {x y : Int} (ha : ∀ B, a ⟨C0.call, B⟩ ρ s = .ok (.int x) s) (hb : ∀ B, b ⟨C0.call, B⟩ ρ s = .ok (.int y) s) : eBlt maxD (aCons a (aCons b aNil)) C0 ρ s = .ok (.int (if y > x then y else x)) s :=
  blt_args (cons_ok (ha _) (cons_ok (hb _) nil_ok)) rfl
theorem ite_int {q : Prop} [Decidable q] {x y : Int} : (if q then D.int x else D.int y) = .int (if q then x else y) := by split <;> rfl
theorem ev_value (h : Fm e p) (c : Int) (h0 : 0 ≤ c) (h1 : c < 2 ^ (1 + e + p)) : callN tab (m + 6) 9 B [fD e p, .int c] s = .ok (vD (vl e p c)) s := by
  have hq := vq_rng h c
  obtain ⟨q, hq0⟩ : ∃ q, q = vq e p c := ⟨_, rfl⟩
  rw [← hq0] at hq
  have hv : vD (vl e p c) = if xE e p c = 2 ^ e - 1 then .non else if q ≥ 0 then fD2 (vm e p c * 2 ^ q.toNat, 1) else fD2 (fr (vm e p c) (2 ^ (0 - q).toNat)) := by
    unfold vl vf
    rw [← hq0]
    split
    · rfl
    · show fD2 _ = _
      split <;> rfl
  refine run_go (np := 2) (n := 7) (d := vD (vl e p c)) (s1 := s) rfl ?_ finF_same
  rw [hv]
  dsimp only [c_value]
  walk_at "st"
  refine ife_rt (q := xE e p c = 2 ^ e - 1) ?_ (fun _ => rfl) (fun _ => ?_)
  · rw [op_ok (x := .str (kd e p c)) (y := .tup [.str "none", .str "endless"]) (s1 := s) (s2 := s) (kind_call (k := 0) rfl h h0 h1 rfl rfl) rfl, kd_in]
  refine seq_go (ρ1 := [fD e p, .int c, .und, .und, .int (c / 2 ^ (e + p)), .int (xE e p c), .int (c % 2 ^ p)]) (s1 := s) ((asg_ok (d := .tup [.int (c / 2 ^ (e + p)), .int (xE e p c), .int (c % 2 ^ p)]) (s1 := s) (parts_call (m := m + 1) rfl h h0 h1 rfl rfl)).trans rfl) ?_
  refine seq_go (ρ1 := [fD e p, .int c, .int (vm0 e p c), .und, .int (c / 2 ^ (e + p)), .int (xE e p c), .int (c % 2 ^ p)]) (s1 := s) (set_ok (d := .int (vm0 e p c)) ?_) ?_
  · refine (if_e (q := xE e p c = 0) (x := .int (c % 2 ^ p)) (y := .int (c % 2 ^ p + 2 ^ p)) (eq_e rfl rfl) (fun _ => rfl) (fun _ => add_e rfl (P_p pwf1 h rfl))).trans ?_
    rw [ite_int]; rfl
  refine seq_go (ρ1 := [fD e p, .int c, .int (vm0 e p c), .int q, .int (c / 2 ^ (e + p)), .int (xE e p c), .int (c % 2 ^ p)]) (s1 := s) (set_ok (d := .int q) ?_) ?_
  · rw [hq0]
    refine add_e ?_ (max_blt (x := xE e p c - 1) (y := 0) (fun _ => rfl) (fun _ => rfl))
    rw [call_ok (cons_ok (x := fD e p) rfl nil_ok)]
    dsimp only
    rw [ev_least h]
  refine seq_go (ρ1 := [fD e p, .int c, .int (vm e p c), .int q, .int (c / 2 ^ (e + p)), .int (xE e p c), .int (c % 2 ^ p)]) (s1 := s) (set_ok (d := .int (vm e p c)) ?_) ?_
  · refine (if_e (q := c / 2 ^ (e + p) = 1) (x := .int (0 - vm0 e p c)) (y := .int (vm0 e p c)) (eq_e rfl rfl) (fun _ => rfl) (fun _ => rfl)).trans ?_
    rw [ite_int]; rfl
  refine ife_rt (q := q ≥ 0) (ge_e rfl rfl) (fun hp => seq_rt (ret_ok (tup_ok (cons_ok (mul_r (x := vm e p c) rfl (P_n pwf1 (n := q.toNat) (by omega) ?_) (pw_m (by omega))) (cons_ok rfl nil_ok)) (by simp)))) (fun hp => seq_rt (ret_ok ?_))
  · show Res.ok (.int q) s = _
    congr 2
    omega
  · have hb : eCall 1 (aCons (eOp bSub (eC (.int 0)) (eVar 3)) aNil) ⟨callN tab (m + 5), s.length :: B⟩ [fD e p, .int c, .int (vm e p c), .int q, .int (c / 2 ^ (e + p)), .int (xE e p c), .int (c % 2 ^ p)] s = .ok (.int (2 ^ (0 - q).toNat)) s := by
      refine P_n pwf1 (by omega) ?_
      show Res.ok (.int (0 - q)) s = _
      congr 2
      omega
    rw [call_ok (cons_ok (x := .int (vm e p c)) rfl (cons_ok hb nil_ok))]
    dsimp only
    rw [ev_reduced _ _ (pow_pos' _) ?_]
    have h2 : (2 : Int) ^ (0 - q).toNat ≤ 2 ^ 60 := by exact_mod_cast Nat.pow_le_pow_right (by decide : 0 < 2) (by omega)
    have h3 := pow_pos' (0 - q).toNat
    have h4 : ((2 : Int) ^ 60) < ((2 ^ 200 : Nat) : Int) := by decide
    omega
end
end KL

set_option maxRecDepth 100000
namespace KL
open PySem Ev
local macro_rules | `(tactic| walk_at "st") => `(tactic| dsimp only [start0, List.length_cons, List.length_nil, List.replicate, List.cons_append, List.nil_append, Nat.reduceSub, Nat.reduceAdd])
local macro_rules | `(tactic| walk_at "ev") => `(tactic| simp (disch := omega) only [sSeq, sSet, sExpr, sRet, sRetN, sIf, sBrk, sCnt, sRaise, sNil, sAsg, sAug, sPar2, sFor, tName, tTup, tsCons, tsNil, tSub, eVar, eC, eOp, eUn, aNil, aCons, eTup, eLst, eCall, eBlt, gcF, gcE, eNot, eAnd, eOr, eIf, eChain, eTold, eMt, eSl, withPart, iR1, iR2, iR3, iSeq, Ev.iEnum, Res.bnd, Res.bndS, Res.bndA, Res.bndI, Rss.bnd, Rss.bndA, Rss.bndS, Rss.bndI, Itm.bnd, Itm.bndS, Out.bnd, Res.tst, Res.tstS, Res.tstA, gv, sv, tru, al, toRes, C.psh, endG, gOk, bAdd, bSub, uNeg, cLt, cLe, cGt, cGe, iAdd, lenD, intD, absD, if_true, if_false, Bool.false_eq_true, ite_true, ite_false, decide_true, decide_false, Bool.not_true, Bool.not_false, Bool.and_true, Bool.and_false, Bool.true_and, Bool.false_and, Int.zero_sub, and_true, true_and, and_false, false_and, not_true_eq_false, not_false_eq_true, finF_same, fin_same', cEq_int, cNe_int, decide_eq_true_eq, Bool.not_eq_true', decide_eq_false_iff_not, ite_not])
local macro_rules | `(tactic| walk_at "ew") => `(tactic| repeat (first | walk_at "ev" | (simp (disch := omega) only [ev_power_of, ev_check, ev_check_code, ev_meaning, ev_code_of, ev_widened, div_pow, mod_pow])))
/-! bounds -/
theorem fr_den {a b : Int} (h : 0 < b) : 0 < (fr a b).2 ∧ (fr a b).2 ≤ b := by
  have hg := gI_pos (a := a) (b := b) (by omega)
  have hd : ((gI a b : Nat) : Int) ∣ b := by
    have := Nat.gcd_dvd_left b.natAbs a.natAbs
    exact Int.ofNat_dvd_left.mpr this
  have hg' : (0 : Int) < (gI a b : Nat) := by omega
  obtain ⟨t, ht⟩ := hd
  have e : (fr a b).2 = t := by
    show b / ((gI a b : Nat) : Int) = t
    generalize ((gI a b : Nat) : Int) = G at ht hg' ⊢
    rw [ht, Int.mul_ediv_cancel_left _ (by omega)]
  rw [e]
  have ht0 : 0 < t := by
    rcases Int.lt_or_le 0 t with h1 | h1
    · exact h1
    · have := Int.mul_nonpos_of_nonneg_of_nonpos (Int.le_of_lt hg') h1
      omega
  refine ⟨ht0, ?_⟩
  have := Int.mul_le_mul_of_nonneg_right (show (1 : Int) ≤ (gI a b : Nat) by omega) (Int.le_of_lt ht0)
  omega
theorem fr_num {a b : Int} (h : b ≠ 0) : (fr a b).1.natAbs ≤ a.natAbs := by
  have hg := gI_pos (a := a) (b := b) h
  show (a / ((gI a b : Nat) : Int)).natAbs ≤ _
  exact Int.natAbs_ediv_le_natAbs _ _
theorem pw20 {q : Int} (h : q ≤ 20) : (2 : Int) ^ q.toNat ≤ 1048576 := by
  have : (2 : Int) ^ q.toNat ≤ 2 ^ 20 := by exact_mod_cast Nat.pow_le_pow_right (by decide : 0 < 2) (by omega)
  exact Int.le_trans this (by decide)
theorem vm_rng {e p : Nat} (h : Fm e p) (c : Int) : -32 ≤ vm e p c ∧ vm e p c ≤ 32 := by
  have h1 := pe16 h
  have h2 : 0 ≤ c % 2 ^ p := Int.emod_nonneg _ (Int.ne_of_gt (pow_pos' p))
  have h3 : c % 2 ^ p < 2 ^ p := Int.emod_lt_of_pos _ (pow_pos' p)
  unfold vm vm0
  split <;> split <;> omega
theorem vf_rng {e p : Nat} (h : Fm e p) (c : Int) : (0 < (vf e p c).2 ∧ (vf e p c).2 ≤ 1048576) ∧ (-33554432 ≤ (vf e p c).1 ∧ (vf e p c).1 ≤ 33554432) := by
  have hq := vq_rng h c
  have hm := vm_rng h c
  unfold vf
  split
  · rename_i h0
    have h1 := pw20 hq.2
    have h2 := pow_pos' (vq e p c).toNat
    refine ⟨⟨by show (0 : Int) < 1; decide, by show (1 : Int) ≤ 1048576; decide⟩, ?_⟩
    generalize (2 : Int) ^ (vq e p c).toNat = t at *
    generalize vm e p c = z at *
    constructor
    · have := Int.mul_le_mul_of_nonneg_right hm.1 (Int.le_of_lt h2)
      show _ ≤ z * t
      omega
    · have := Int.mul_le_mul_of_nonneg_right hm.2 (Int.le_of_lt h2)
      show z * t ≤ _
      omega
  · have h1 := pw20 (q := 0 - vq e p c) (by omega)
    have h2 := pow_pos' (0 - vq e p c).toNat
    have h3 := fr_den (a := vm e p c) h2
    have h4 := fr_num (a := vm e p c) (Int.ne_of_gt h2)
    refine ⟨⟨h3.1, by omega⟩, by omega⟩
theorem sm {x : Int} (h0 : -33554432 ≤ x) (h1 : x ≤ 33554432) : -(2 ^ 64) < x ∧ x < 2 ^ 64 := ⟨Int.lt_of_lt_of_le (by decide) h0, Int.lt_of_le_of_lt h1 (by decide)⟩
theorem sm2 {x : Int} (h0 : 0 < x) (h1 : x ≤ 1048576) : -(2 ^ 64) < x ∧ x < 2 ^ 64 := ⟨Int.lt_trans (by decide) h0, Int.lt_of_le_of_lt h1 (by decide)⟩
section
variable {m : Nat} {B : List Nat} {s : S} {e p : Nat}
theorem X_0 {C0 : C} {ρ : Ev.Env} {i : Nat} {q : Int × Int} (hv : gv ρ i = fD2 q) : eOp bIx (eVar i) (eC (.int 0)) C0 ρ s = .ok (.int q.1) s := by
  rw [op_ok (x := fD2 q) (y := .int 0) (s1 := s) (s2 := s) (var_ok hv (by simp [fD2])) rfl]; rfl
theorem X_1 {C0 : C} {ρ : Ev.Env} {i : Nat} {q : Int × Int} (hv : gv ρ i = fD2 q) : eOp bIx (eVar i) (eC (.int 1)) C0 ρ s = .ok (.int q.2) s := by
  rw [op_ok (x := fD2 q) (y := .int 1) (s1 := s) (s2 := s) (var_ok hv (by simp [fD2])) rfl]; rfl
theorem value_call {C0 : C} {ρ : Ev.Env} {i j : Nat} {c : Int} (hc : C0.call = callN tab (m + 6)) (h : Fm e p) (h0 : 0 ≤ c) (h1 : c < 2 ^ (1 + e + p)) (hi : gv ρ i = fD e p) (hj : gv ρ j = .int c) : eCall 9 (aCons (eVar i) (aCons (eVar j) aNil)) C0 ρ s = .ok (vD (vl e p c)) s := by
  rw [call_ok (cons_ok (var_ok hi (by simp [fD])) (cons_ok (var_ok hj (by simp)) nil_ok)), hc, ev_value h c h0 h1]
/-- how far it is to the next -/
def st (e p : Nat) (c : Int) : Int × Int := if 0 ≤ vq e p c then (2 ^ (vq e p c).toNat, 1) else (1, 2 ^ (0 - vq e p c).toNat)
theorem st_rng (h : Fm e p) (c : Int) : (0 < (st e p c).1 ∧ (st e p c).1 ≤ 1048576) ∧ 0 < (st e p c).2 ∧ (st e p c).2 ≤ 1048576 := by
  have hq := vq_rng h c
  unfold st
  split
  · exact ⟨⟨pow_pos' _, pw20 hq.2⟩, by show 0 < (1 : Int); decide, by show (1 : Int) ≤ _; decide⟩
  · exact ⟨⟨by show 0 < (1 : Int); decide, by show (1 : Int) ≤ _; decide⟩, pow_pos' _, pw20 (by omega)⟩
theorem ev_below_step (h : Fm e p) (c : Int) (h0 : 0 ≤ c) (h1 : c < 2 ^ (1 + e + p)) : callN tab (m + 5) 16 B [fD e p, .int c] s = .ok (fD2 (st e p c)) s := by
  have hq := vq_rng h c
  obtain ⟨q, hq0⟩ : ∃ q, q = vq e p c := ⟨_, rfl⟩
  have hs : fD2 (st e p c) = if q ≥ 0 then fD2 (2 ^ q.toNat, 1) else fD2 (1, 2 ^ (0 - q).toNat) := by
    unfold st
    rw [← hq0]
    split <;> rfl
  rw [← hq0] at hq
  refine run_go (np := 2) (n := 5) (d := fD2 (st e p c)) (s1 := s) rfl ?_ finF_same
  rw [hs]
  dsimp only [c_below_step]
  walk_at "st"
  refine seq_go (ρ1 := [fD e p, .int c, .und, .int (c % 2 ^ p), .int (xE e p c)]) (s1 := s) ((asg_ok (d := .tup [.int (c / 2 ^ (e + p)), .int (xE e p c), .int (c % 2 ^ p)]) (s1 := s) (parts_call (m := m) rfl h h0 h1 rfl rfl)).trans rfl) ?_
  refine seq_go (ρ1 := [fD e p, .int c, .int q, .int (c % 2 ^ p), .int (xE e p c)]) (s1 := s) (set_ok (d := .int q) ?_) (seq_rt (ret_ok ?_))
  · rw [hq0]
    refine add_e ?_ (max_blt (x := xE e p c - 1) (y := 0) (fun _ => rfl) (fun _ => rfl))
    rw [call_ok (cons_ok (x := fD e p) rfl nil_ok)]
    dsimp only
    rw [ev_least h]
  · refine if_e (q := q ≥ 0) (ge_e rfl rfl) (fun hp => tup_ok (cons_ok (P_n pwf1 (n := q.toNat) (by omega) ?_) (cons_ok rfl nil_ok)) (by simp)) (fun hp => tup_ok (cons_ok rfl (cons_ok (P_n pwf1 (n := (0 - q).toNat) (by omega) ?_) nil_ok)) (by simp))
    · show Res.ok (.int q) s = _
      congr 2
      omega
    · show Res.ok (.int (0 - q)) s = _
      congr 2
      omega
def lsP (a b : Int × Int) : Prop := a.1 * b.2 < b.1 * a.2
instance (a b : Int × Int) : Decidable (lsP a b) := by unfold lsP; infer_instance
theorem ev_law_less {a b : Int × Int} (ha : -(2 ^ 64) < a.2 ∧ a.2 < 2 ^ 64) (hb : -(2 ^ 64) < b.2 ∧ b.2 < 2 ^ 64) : callN tab (m + 1) 28 B [fD2 a, fD2 b] s = .ok (.bl (decide (lsP a b))) s := by
  refine run_go (np := 2) (n := 2) (d := .bl (decide (lsP a b))) (s1 := s) rfl ?_ finF_same
  dsimp only [c_law_less]
  walk_at "st"
  exact seq_rt (ret_ok (lt_e (mul_r (X_0 rfl) (X_1 rfl) hb) (mul_r (X_0 rfl) (X_1 rfl) ha)))
/-- nearer to the next above, or as near and that is even -/
def nrD (e p : Nat) (c x y : Int) : Int := 2 * (x * (vf e p c).2 - (vf e p c).1 * y) * (st e p c).2
def nrW (e p : Nat) (c x y : Int) : Int := (st e p c).1 * y * (vf e p c).2
def nr (e p : Nat) (c x y : Int) : Prop := nrD e p c x y > nrW e p c x y ∨ (nrD e p c x y = nrW e p c x y ∧ c % 2 = 1)
instance (e p : Nat) (c x y : Int) : Decidable (nr e p c x y) := by unfold nr; infer_instance
theorem or_b {C0 : C} {ρ : Ev.Env} {a b : ES} {P Q : Prop} [Decidable P] [Decidable Q] (ha : a C0 ρ s = .ok (.bl (decide P)) s) (hb : b C0 ρ s = .ok (.bl (decide Q)) s) : eOr a b C0 ρ s = .ok (.bl (decide (P ∨ Q))) s := by
  by_cases h : P
  · rw [or_t (ha.trans (by rw [decide_eq_true h])), decide_eq_true (Or.inl h)]
  · rw [or_f (ha.trans (by rw [decide_eq_false h])), hb]
    congr 2
    exact decide_eq_decide.mpr ⟨fun q => .inr q, fun q => q.resolve_left h⟩
theorem and_b {C0 : C} {ρ : Ev.Env} {a b : ES} {P Q : Prop} [Decidable P] [Decidable Q] (ha : a C0 ρ s = .ok (.bl (decide P)) s) (hb : b C0 ρ s = .ok (.bl (decide Q)) s) : eAnd a b C0 ρ s = .ok (.bl (decide (P ∧ Q))) s := by
  by_cases h : P
  · rw [and_t (ha.trans (by rw [decide_eq_true h])), hb]
    congr 2
    exact decide_eq_decide.mpr ⟨fun q => ⟨h, q⟩, fun q => q.2⟩
  · rw [and_f (ha.trans (by rw [decide_eq_false h])), decide_eq_false fun q => h q.1]
theorem vl_some {c : Int} (h : xE e p c ≠ 2 ^ e - 1) : vD (vl e p c) = fD2 (vf e p c) := by
  unfold vl
  rw [if_neg h]
  rfl
theorem ev_nearer (h : Fm e p) (c x y : Int) (h0 : 0 ≤ c) (h1 : c < 2 ^ (1 + e + p)) (hE : xE e p c ≠ 2 ^ e - 1) : callN tab (m + 7) 15 B [fD e p, .int c, .int x, .int y] s = .ok (.bl (decide (nr e p c x y))) s := by
  have hv := vf_rng h c
  have ht := st_rng h c
  refine run_go (np := 4) (n := 8) (d := .bl (decide (nr e p c x y))) (s1 := s) rfl ?_ finF_same
  dsimp only [c_is_nearer_above]
  walk_at "st"
  refine seq_go (ρ1 := [fD e p, .int c, .int x, .int y, fD2 (vf e p c), .und, .und, .und]) (s1 := s) (set_ok ((value_call (m := m) rfl h h0 h1 rfl rfl).trans (by rw [vl_some hE]))) ?_
  refine seq_go (ρ1 := [fD e p, .int c, .int x, .int y, fD2 (vf e p c), fD2 (st e p c), .und, .und]) (s1 := s) (set_ok (d := fD2 (st e p c)) ?_) ?_
  · rw [call_ok (cons_ok (x := fD e p) rfl (cons_ok (x := .int c) rfl nil_ok))]
    dsimp only
    rw [ev_below_step h c h0 h1]
  refine seq_go (set_ok (mul_r (mul_l (x := 2) rfl (sub_e (mul_r (x := x) rfl (X_1 rfl) (sm2 hv.1.1 hv.1.2)) (mul_l (y := y) (X_0 rfl) rfl (sm hv.2.1 hv.2.2))) (by decide)) (X_1 rfl) (sm2 ht.2.1 ht.2.2))) ?_
  refine seq_go (set_ok (mul_r (mul_l (y := y) (X_0 rfl) rfl (sm2 ht.1.1 ht.1.2)) (X_1 rfl) (sm2 hv.1.1 hv.1.2))) (seq_rt (ret_ok ?_))
  exact or_b (P := nrD e p c x y > nrW e p c x y) rfl (and_b (P := nrD e p c x y = nrW e p c x y) (eq_e rfl rfl) (eq_e (mod_n (n := 1) rfl rfl) rfl))
/-! the floor -/
def leP (e p : Nat) (x y c : Int) : Prop := (vf e p c).1 * y ≤ x * (vf e p c).2
instance (e p : Nat) (x y c : Int) : Decidable (leP e p x y c) := by unfold leP; infer_instance
def edge (e p : Nat) : Int := 2 ^ (e + p) - 2 ^ p
theorem xE_small (h : Fm e p) {c : Int} (h0 : 0 ≤ c) (h1 : c < edge e p) : xE e p c ≠ 2 ^ e - 1 ∧ c < 2 ^ (1 + e + p) ∧ c < 2 ^ (e + p) := by
  obtain ⟨a1, a2, a3, a4⟩ := h
  have he : e = 2 ∨ e = 3 ∨ e = 4 := by omega
  have hp : p = 1 ∨ p = 2 ∨ p = 3 ∨ p = 4 := by omega
  unfold edge at h1
  unfold xE
  rcases he with rfl | rfl | rfl <;> rcases hp with rfl | rfl | rfl | rfl <;> (try simp only [Nat.reduceAdd, Nat.reduceSub, Int.reducePow, Int.reduceSub] at h1 ⊢) <;> omega
end
end KL

set_option maxRecDepth 100000
namespace KL
open PySem Ev
local macro_rules | `(tactic| walk_at "st") => `(tactic| dsimp only [start0, List.length_cons, List.length_nil, List.replicate, List.cons_append, List.nil_append, Nat.reduceSub, Nat.reduceAdd])
local macro_rules | `(tactic| walk_at "ev") => `(tactic| simp (disch := omega) only [sSeq, sSet, sExpr, sRet, sRetN, sIf, sBrk, sCnt, sRaise, sNil, sAsg, sAug, sPar2, sFor, tName, tTup, tsCons, tsNil, tSub, eVar, eC, eOp, eUn, aNil, aCons, eTup, eLst, eCall, eBlt, gcF, gcE, eNot, eAnd, eOr, eIf, eChain, eTold, eMt, eSl, withPart, iR1, iR2, iR3, iSeq, Ev.iEnum, Res.bnd, Res.bndS, Res.bndA, Res.bndI, Rss.bnd, Rss.bndA, Rss.bndS, Rss.bndI, Itm.bnd, Itm.bndS, Out.bnd, Res.tst, Res.tstS, Res.tstA, gv, sv, tru, al, toRes, C.psh, endG, gOk, bAdd, bSub, uNeg, cLt, cLe, cGt, cGe, iAdd, lenD, intD, absD, if_true, if_false, Bool.false_eq_true, ite_true, ite_false, decide_true, decide_false, Bool.not_true, Bool.not_false, Bool.and_true, Bool.and_false, Bool.true_and, Bool.false_and, Int.zero_sub, and_true, true_and, and_false, false_and, not_true_eq_false, not_false_eq_true, finF_same, fin_same', cEq_int, cNe_int, decide_eq_true_eq, Bool.not_eq_true', decide_eq_false_iff_not, ite_not])
local macro_rules | `(tactic| walk_at "ew") => `(tactic| repeat (first | walk_at "ev" | (simp (disch := omega) only [ev_power_of, ev_check, ev_check_code, ev_meaning, ev_code_of, ev_widened, div_pow, mod_pow])))
/-! values rise with codes -/
def chkM (e p : Nat) : Bool := decide ((vf e p 0).1 = 0) && (List.range ((edge e p).toNat - 1)).all fun n => decide (lsP (vf e p (n : Int)) (vf e p ((n : Int) + 1)))
theorem chk_all {e p : Nat} (h : Fm e p) : chkM e p = true := by
  obtain ⟨h1, h2, h3, h4⟩ := h
  have he : e = 2 ∨ e = 3 ∨ e = 4 := by omega
  have hp : p = 1 ∨ p = 2 ∨ p = 3 ∨ p = 4 := by omega
  rcases he with rfl | rfl | rfl <;> rcases hp with rfl | rfl | rfl | rfl <;> decide +kernel
theorem vf_zero {e p : Nat} (h : Fm e p) : (vf e p 0).1 = 0 := by
  have := chk_all h
  unfold chkM at this
  rw [Bool.and_eq_true] at this
  exact of_decide_eq_true this.1
theorem vf_mono {e p : Nat} (h : Fm e p) {c : Int} (h0 : 0 ≤ c) (h1 : c + 1 < edge e p) : lsP (vf e p c) (vf e p (c + 1)) := by
  have := chk_all h
  unfold chkM at this
  rw [Bool.and_eq_true, List.all_eq_true] at this
  have q := this.2 c.toNat (List.mem_range.mpr (by omega))
  have q := of_decide_eq_true q
  rw [Int.toNat_of_nonneg h0] at q
  exact q
section
variable {e p : Nat} {x y : Int}
theorem le_down (h : Fm e p) (hy : 0 < y) {c : Int} (h0 : 0 ≤ c) (h1 : c + 1 < edge e p) (hl : leP e p x y (c + 1)) : leP e p x y c := by
  have hm := vf_mono h h0 h1
  have b1 := (vf_rng h c).1.1
  have b2 := (vf_rng h (c + 1)).1.1
  unfold leP at hl ⊢
  unfold lsP at hm
  generalize (vf e p c).1 = v0 at *
  generalize (vf e p c).2 = v1 at *
  generalize (vf e p (c + 1)).1 = w0 at *
  generalize (vf e p (c + 1)).2 = w1 at *
  have m1 : v0 * w1 * y ≤ w0 * v1 * y := Int.mul_le_mul_of_nonneg_right (Int.le_of_lt hm) (Int.le_of_lt hy)
  have m2 : w0 * y * v1 ≤ x * w1 * v1 := Int.mul_le_mul_of_nonneg_right hl (Int.le_of_lt b1)
  refine Int.le_of_mul_le_mul_left (a := w1) ?_ b2
  have e1 : w1 * (v0 * y) = v0 * w1 * y := by grind
  have e2 : w0 * v1 * y = w0 * y * v1 := by grind
  have e3 : w1 * (x * v1) = x * w1 * v1 := by grind
  omega
theorem le_chain (h : Fm e p) (hy : 0 < y) : ∀ (k : Nat) (c : Int), 0 ≤ c → c + k < edge e p → leP e p x y (c + k) → leP e p x y c
  | 0, c, _, _, hl => by simpa using hl
  | k + 1, c, h0, h1, hl => by
    have e1 : c + ((k + 1 : Nat) : Int) = c + k + 1 := by omega
    rw [e1] at h1 hl
    exact le_chain h hy k c h0 (by omega) (le_down h hy (by omega) h1 hl)
theorem le_zero (h : Fm e p) (hx : 0 ≤ x) : leP e p x y 0 := by
  unfold leP
  rw [vf_zero h, Int.zero_mul]
  exact Int.mul_nonneg hx (Int.le_of_lt (vf_rng h 0).1.1)
/-- the greatest code not above -/
def lw (e p : Nat) (x y : Int) : Nat → Int
  | 0 => 0
  | n + 1 => if leP e p x y ((n : Int) + 1) then (n : Int) + 1 else lw e p x y n
theorem lw_spec (h : Fm e p) (hx : 0 ≤ x) : ∀ n : Nat, (0 ≤ lw e p x y n ∧ lw e p x y n ≤ n) ∧ leP e p x y (lw e p x y n) ∧ ∀ c : Int, lw e p x y n < c → c ≤ n → ¬ leP e p x y c
  | 0 => ⟨⟨Int.le_refl _, Int.le_refl _⟩, le_zero h hx, fun c h1 h2 => by have : lw e p x y 0 = 0 := rfl; omega⟩
  | n + 1 => by
    obtain ⟨⟨i1, i2⟩, i3, i4⟩ := lw_spec h hx n
    rw [lw]
    by_cases hl : leP e p x y ((n : Int) + 1)
    · rw [if_pos hl]
      exact ⟨⟨by omega, by omega⟩, hl, fun c h1 h2 => by omega⟩
    · rw [if_neg hl]
      refine ⟨⟨i1, by omega⟩, i3, fun c h1 h2 => ?_⟩
      by_cases hc : c ≤ n
      · exact i4 c h1 hc
      · have : c = (n : Int) + 1 := by omega
        rw [this]; exact hl
def Low (e p : Nat) (x y : Int) : Int := lw e p x y (edge e p - 1).toNat
theorem edge_pos (h : Fm e p) : 2 ≤ edge e p ∧ edge e p ≤ 256 := by
  obtain ⟨h1, h2, h3, h4⟩ := h
  have he : e = 2 ∨ e = 3 ∨ e = 4 := by omega
  have hp : p = 1 ∨ p = 2 ∨ p = 3 ∨ p = 4 := by omega
  unfold edge
  rcases he with rfl | rfl | rfl <;> rcases hp with rfl | rfl | rfl | rfl <;> decide
theorem Low_spec (h : Fm e p) (hx : 0 ≤ x) : (0 ≤ Low e p x y ∧ Low e p x y < edge e p) ∧ leP e p x y (Low e p x y) ∧ ∀ c : Int, Low e p x y < c → c < edge e p → ¬ leP e p x y c := by
  have he := edge_pos h
  obtain ⟨⟨i1, i2⟩, i3, i4⟩ := lw_spec (y := y) h hx (edge e p - 1).toNat
  exact ⟨⟨i1, by unfold Low; omega⟩, i3, fun c h1 h2 => i4 c h1 (by omega)⟩
theorem Low_uniq (h : Fm e p) (hx : 0 ≤ x) (hy : 0 < y) {c : Int} (h0 : 0 ≤ c) (h1 : c < edge e p) (hl : leP e p x y c) (hn : c + 1 = edge e p ∨ ¬ leP e p x y (c + 1)) : c = Low e p x y := by
  obtain ⟨⟨i1, i2⟩, i3, i4⟩ := Low_spec (y := y) h hx
  rcases Int.lt_trichotomy c (Low e p x y) with h2 | h2 | h2
  · rcases hn with hn | hn
    · omega
    · refine absurd ?_ hn
      have e1 : Low e p x y = c + 1 + ((Low e p x y - (c + 1)).toNat : Nat) := by omega
      rw [e1] at i3
      exact le_chain h hy _ _ (by omega) (by omega) i3
  · exact h2
  · exact absurd hl (i4 c h2 h1)
end
section
variable {m : Nat} {B : List Nat} {s : S} {e p : Nat}
abbrev bFl : SS := (sSeq (sSet 6 (eOp bDiv (eOp bAdd (eVar 4) (eVar 5)) (eC (.int 2)))) (sSeq (sSet 3 (eCall 9 (aCons (eVar 0) (aCons (eVar 6) aNil)))) (sSeq (sIf (eOp cLe (eOp bMul (eOp bIx (eVar 3) (eC (.int 0))) (eVar 2)) (eOp bMul (eVar 1) (eOp bIx (eVar 3) (eC (.int 1))))) (sSeq (sSet 4 (eVar 6)) sNil) (sSeq (sSet 5 (eVar 6)) sNil)) sNil)))
theorem loop_floor {C0 : List Nat} (h : Fm e p) (x y : Int) : ∀ (n T : Nat) (lo hi : Int) (a3 a6 : D), (hi - lo).toNat ≤ n → n < T → 0 ≤ lo → lo < hi → hi ≤ edge e p → leP e p x y lo → (hi = edge e p ∨ ¬ leP e p x y hi) →
    ∃ lo' z3 z6, whileL true (eOp cGt (eOp bSub (eVar 5) (eVar 4)) (eC (.int 1))) bFl ⟨callN tab (m + 6), C0⟩ T [fD e p, .int x, .int y, a3, .int lo, .int hi, a6] s = .nx [fD e p, .int x, .int y, z3, .int lo', .int (lo' + 1), z6] s ∧ 0 ≤ lo' ∧ lo' < edge e p ∧ leP e p x y lo' ∧ (lo' + 1 = edge e p ∨ ¬ leP e p x y (lo' + 1)) := by
  intro n
  induction n with
  | zero => intro T lo hi a3 a6 h1 h2 h3 h4; omega
  | succ n ih =>
    intro T lo hi a3 a6 h1 h2 h3 h4 h5 h6 h7
    obtain ⟨T, rfl⟩ : ∃ u, T = u + 1 := ⟨T - 1, by omega⟩
    have ht : ∀ {C1 : C}, eOp cGt (eOp bSub (eVar 5) (eVar 4)) (eC (.int 1)) C1 [fD e p, .int x, .int y, a3, .int lo, .int hi, a6] s = .ok (.bl (decide (hi - lo > 1))) s := fun {C1} => rfl
    by_cases hc : hi - lo > 1
    · obtain ⟨mi, hmi⟩ : ∃ mi, mi = (lo + hi) / 2 := ⟨_, rfl⟩
      have m1 : lo < mi := by omega
      have m2 : mi < hi := by omega
      have hx := xE_small h (c := mi) (by omega) (by omega)
      have hv := vf_rng h mi
      have hb : ∀ {C1 : List Nat}, bFl ⟨callN tab (m + 6), C1⟩ [fD e p, .int x, .int y, a3, .int lo, .int hi, a6] s = .nx [fD e p, .int x, .int y, fD2 (vf e p mi), .int (if leP e p x y mi then mi else lo), .int (if leP e p x y mi then hi else mi), .int mi] s := fun {C1} => by
        refine seq_go (ρ1 := [fD e p, .int x, .int y, a3, .int lo, .int hi, .int mi]) (s1 := s) (set_ok (d := .int mi) ?_) ?_
        · rw [hmi]
          exact div_n (n := 1) (add_e rfl rfl) rfl (by omega)
        refine seq_go (ρ1 := [fD e p, .int x, .int y, fD2 (vf e p mi), .int lo, .int hi, .int mi]) (s1 := s) (set_ok ((value_call (m := m) rfl h (by omega) hx.2.1 rfl rfl).trans (by rw [vl_some hx.1]))) ?_
        have hle : ∀ {C1 : C}, eOp cLe (eOp bMul (eOp bIx (eVar 3) (eC (.int 0))) (eVar 2)) (eOp bMul (eVar 1) (eOp bIx (eVar 3) (eC (.int 1)))) C1 [fD e p, .int x, .int y, fD2 (vf e p mi), .int lo, .int hi, .int mi] s = .ok (.bl (decide (leP e p x y mi))) s := fun {C1} => le_e (mul_l (y := y) (X_0 rfl) rfl (sm hv.2.1 hv.2.2)) (mul_r (x := x) rfl (X_1 rfl) (sm2 hv.1.1 hv.1.2))
        refine seq_go (s1 := s) ?_ rfl
        by_cases hl : leP e p x y mi
        · rw [if_pos hl, if_pos hl]
          exact (if_t (hle.trans (by rw [decide_eq_true hl])) rfl).trans rfl
        · rw [if_neg hl, if_neg hl]
          exact (if_f (hle.trans (by rw [decide_eq_false hl])) rfl).trans rfl
      by_cases hl : leP e p x y mi
      · obtain ⟨lo', z3, z6, q1, q2⟩ := ih T mi hi (fD2 (vf e p mi)) (.int mi) (by omega) (by omega) (by omega) m2 h5 hl h7
        refine ⟨lo', z3, z6, ?_, q2⟩
        rw [while_t (d := .bl true) (s1 := s) (ρ1 := [fD e p, .int x, .int y, fD2 (vf e p mi), .int mi, .int hi, .int mi]) (s2 := s) (ht.trans (by rw [decide_eq_true hc])) rfl ?_ te_same, q1]
        refine hb.trans ?_
        rw [if_pos hl, if_pos hl]
      · obtain ⟨lo', z3, z6, q1, q2⟩ := ih T lo mi (fD2 (vf e p mi)) (.int mi) (by omega) (by omega) h3 m1 (by omega) h6 (.inr hl)
        refine ⟨lo', z3, z6, ?_, q2⟩
        rw [while_t (d := .bl true) (s1 := s) (ρ1 := [fD e p, .int x, .int y, fD2 (vf e p mi), .int lo, .int mi, .int mi]) (s2 := s) (ht.trans (by rw [decide_eq_true hc])) rfl ?_ te_same, q1]
        refine hb.trans ?_
        rw [if_neg hl, if_neg hl]
    · have e1 : hi = lo + 1 := by omega
      refine ⟨lo, a3, a6, ?_, h3, by omega, h6, by rw [← e1]; exact h7⟩
      rw [while_f (d := .bl false) (s1 := s) (ht.trans (by rw [decide_eq_false hc])) rfl, te_same, e1]
/-- whether a fraction is just a code's value -/
def jst (e p : Nat) (x y : Int) : Prop := (vf e p (Low e p x y)).1 * y = x * (vf e p (Low e p x y)).2
instance (e p : Nat) (x y : Int) : Decidable (jst e p x y) := by unfold jst; infer_instance
theorem ev_floor (h : Fm e p) (x y : Int) (hx : 0 ≤ x) (hy : 0 < y) : callN tab (m + 7) 13 B [fD e p, .int x, .int y] s = .ok (.tup [.int (Low e p x y), .bl (decide (jst e p x y))]) s := by
  have he := edge_pos h
  obtain ⟨lo', z3, z6, hl, q1, q2, q3, q4⟩ := loop_floor (m := m) (s := s) (C0 := s.length :: B) h x y 300 turns 0 (edge e p) .und .und (by omega) (by decide) (by omega) (by omega) (by omega) (le_zero h hx) (.inl rfl)
  have e1 := Low_uniq h hx hy q1 q2 q3 q4
  have hE := xE_small h q1 q2
  have hv := vf_rng h lo'
  rw [← e1]
  have hj : decide (jst e p x y) = decide ((vf e p lo').1 * y = x * (vf e p lo').2) := decide_eq_decide.mpr (by unfold jst; rw [← e1])
  rw [hj]
  refine run_go (np := 3) (n := 7) (d := .tup [.int lo', .bl (decide ((vf e p lo').1 * y = x * (vf e p lo').2))]) (s1 := s) rfl ?_ finF_same
  dsimp only [c_floor_code]
  walk_at "st"
  refine seq_go (ρ1 := [fD e p, .int x, .int y, .und, .int 0, .int (edge e p), .und]) (s1 := s) ?_ (seq_go (while_go hl) (seq_go (ρ1 := [fD e p, .int x, .int y, fD2 (vf e p lo'), .int lo', .int (lo' + 1), z6]) (s1 := s) (set_ok ((value_call (m := m) rfl h q1 hE.2.1 rfl rfl).trans (by rw [vl_some hE.1]))) (seq_rt (ret_ok ?_))))
  · unfold sPar2
    have hg : eCall 10 (aCons (eVar 0) aNil) ⟨callN tab (m + 6), s.length :: B⟩ [fD e p, .int x, .int y, .und, .und, .und, .und] s = .ok (.int (2 ^ (e + p) - 2 ^ p - 1)) s := by
      rw [call_ok (cons_ok (x := fD e p) rfl nil_ok)]
      dsimp only
      rw [ev_greatest h]
    rw [cons_ok (x := .int 0) (s1 := s) rfl (cons_ok (x := .int (edge e p)) (s1 := s) ((add_e hg rfl).trans (by unfold edge; congr 2; omega)) nil_ok)]
    rfl
  · refine tup_ok (cons_ok (x := .int lo') rfl (cons_ok (s1 := s) ?_ nil_ok)) (by simp)
    exact eq_e (mul_l (y := y) (X_0 rfl) rfl (sm hv.2.1 hv.2.2)) (mul_r (x := x) rfl (X_1 rfl) (sm2 hv.1.1 hv.1.2))
end
end KL

set_option maxRecDepth 100000
namespace KL
open PySem Ev
local macro_rules | `(tactic| walk_at "st") => `(tactic| dsimp only [start0, List.length_cons, List.length_nil, List.replicate, List.cons_append, List.nil_append, Nat.reduceSub, Nat.reduceAdd])
local macro_rules | `(tactic| walk_at "ev") => `(tactic| simp (disch := omega) only [sSeq, sSet, sExpr, sRet, sRetN, sIf, sBrk, sCnt, sRaise, sNil, sAsg, sAug, sPar2, sFor, tName, tTup, tsCons, tsNil, tSub, eVar, eC, eOp, eUn, aNil, aCons, eTup, eLst, eCall, eBlt, gcF, gcE, eNot, eAnd, eOr, eIf, eChain, eTold, eMt, eSl, withPart, iR1, iR2, iR3, iSeq, Ev.iEnum, Res.bnd, Res.bndS, Res.bndA, Res.bndI, Rss.bnd, Rss.bndA, Rss.bndS, Rss.bndI, Itm.bnd, Itm.bndS, Out.bnd, Res.tst, Res.tstS, Res.tstA, gv, sv, tru, al, toRes, C.psh, endG, gOk, bAdd, bSub, uNeg, cLt, cLe, cGt, cGe, iAdd, lenD, intD, absD, if_true, if_false, Bool.false_eq_true, ite_true, ite_false, decide_true, decide_false, Bool.not_true, Bool.not_false, Bool.and_true, Bool.and_false, Bool.true_and, Bool.false_and, Int.zero_sub, and_true, true_and, and_false, false_and, not_true_eq_false, not_false_eq_true, finF_same, fin_same', cEq_int, cNe_int, decide_eq_true_eq, Bool.not_eq_true', decide_eq_false_iff_not, ite_not])
local macro_rules | `(tactic| walk_at "ew") => `(tactic| repeat (first | walk_at "ev" | (simp (disch := omega) only [ev_power_of, ev_check, ev_check_code, ev_meaning, ev_code_of, ev_widened, div_pow, mod_pow])))
/-- the ways of rounding -/
inductive Wy where
  | ev | ze | up | dn
def wS : Wy → Str
  | .ev => "even"
  | .ze => "zero"
  | .up => "up"
  | .dn => "down"
instance : DecidableEq Wy := fun a b => by cases a <;> cases b <;> first | exact isTrue rfl | exact isFalse (by intro h; cases h)
section
variable {C0 : C} {ρ : Ev.Env} {s : S} {i : Nat}
theorem w_in (w : Wy) : cNotIn (.str (wS w)) (.tup [(.str "even"), (.str "zero"), (.str "up"), (.str "down")]) s = .ok (.bl false) s := by cases w <;> kernel_rfl
theorem w_even (w : Wy) : cEq (.str (wS w)) (.str "even") s = .ok (.bl (decide (w = .ev))) s := by cases w <;> kernel_rfl
theorem w_up (w : Wy) : cEq (.str (wS w)) (.str "up") s = .ok (.bl (decide (w = .up))) s := by cases w <;> kernel_rfl
theorem w_down (w : Wy) : cEq (.str (wS w)) (.str "down") s = .ok (.bl (decide (w = .dn))) s := by cases w <;> kernel_rfl
theorem wE (w : Wy) (hv : gv ρ i = .str (wS w)) : eOp cEq (eVar i) (eC (.str "even")) C0 ρ s = .ok (.bl (decide (w = .ev))) s := by
  rw [op_ok (x := .str (wS w)) (y := .str "even") (s1 := s) (s2 := s) (var_ok hv (by simp)) rfl, w_even]
theorem wU (w : Wy) (hv : gv ρ i = .str (wS w)) : eOp cEq (eVar i) (eC (.str "up")) C0 ρ s = .ok (.bl (decide (w = .up))) s := by
  rw [op_ok (x := .str (wS w)) (y := .str "up") (s1 := s) (s2 := s) (var_ok hv (by simp)) rfl, w_up]
theorem wDn (w : Wy) (hv : gv ρ i = .str (wS w)) : eOp cEq (eVar i) (eC (.str "down")) C0 ρ s = .ok (.bl (decide (w = .dn))) s := by
  rw [op_ok (x := .str (wS w)) (y := .str "down") (s1 := s) (s2 := s) (var_ok hv (by simp)) rfl, w_down]
theorem wIn (w : Wy) (hv : gv ρ i = .str (wS w)) : eOp cNotIn (eVar i) (eC (.tup [(.str "even"), (.str "zero"), (.str "up"), (.str "down")])) C0 ρ s = .ok (.bl false) s := by
  rw [op_ok (x := .str (wS w)) (s1 := s) (s2 := s) (var_ok hv (by simp)) rfl, w_in]
end
def sgI (a : Int) : Int := if a < 0 then 1 else 0
/-- whether it goes up, beside its sign -/
def upW (e p : Nat) (L x y sg : Int) (w : Wy) : Prop := if w = .ev then nr e p L x y else ((w = .up ∧ sg = 0) ∨ (w = .dn ∧ sg = 1))
instance (e p : Nat) (L x y sg : Int) (w : Wy) : Decidable (upW e p L x y sg w) := by unfold upW; infer_instance
/-- the code of a fraction -/
def rd (e p : Nat) (a y : Int) (w : Wy) : Int :=
  if jst e p (a.natAbs : Int) y then sgI a * 2 ^ (e + p) + Low e p (a.natAbs : Int) y
  else if upW e p (Low e p (a.natAbs : Int) y) (a.natAbs : Int) y (sgI a) w then sgI a * 2 ^ (e + p) + Low e p (a.natAbs : Int) y + 1
  else sgI a * 2 ^ (e + p) + Low e p (a.natAbs : Int) y
section
variable {m : Nat} {B : List Nat} {s : S} {e p : Nat}
theorem ev_rounded (h : Fm e p) (a y : Int) (hy : 0 < y) (w : Wy) : callN tab (m + 8) 14 B [fD e p, fD2 (a, y), .str (wS w)] s = .ok (.int (rd e p a y w)) s := by
  have he4 := h.e4
  have hp4 := h.p4
  obtain ⟨x, hx⟩ : ∃ x : Int, x = (a.natAbs : Int) := ⟨_, rfl⟩
  have hx0 : 0 ≤ x := by omega
  obtain ⟨L, hL⟩ : ∃ L, L = Low e p x y := ⟨_, rfl⟩
  obtain ⟨⟨l0, l1⟩, _, _⟩ := Low_spec (y := y) h hx0
  rw [← hL] at l0 l1
  have hE := xE_small h l0 l1
  obtain ⟨hd, hhd⟩ : ∃ hd, hd = sgI a * 2 ^ (e + p) := ⟨_, rfl⟩
  have hr : D.int (rd e p a y w) = if jst e p x y then .int (hd + L) else if ¬ upW e p L x y (sgI a) w then .int (hd + L) else .int (hd + L + 1) := by
    unfold rd
    rw [← hx, ← hL, ← hhd]
    by_cases h1 : jst e p x y
    · rw [if_pos h1, if_pos h1]
    · rw [if_neg h1, if_neg h1]
      by_cases h2 : upW e p L x y (sgI a) w
      · rw [if_pos h2, if_neg (fun z => z h2)]
      · rw [if_neg h2, if_pos h2]
  refine run_go (np := 3) (n := 10) (d := .int (rd e p a y w)) (s1 := s) rfl ?_ finF_same
  rw [hr]
  dsimp only [c_rounded]
  walk_at "st"
  refine seq_go (expr_ok (d := .non) (s1 := s) ?_) (seq_go (guard_nx (wIn w rfl)) ?_)
  · rw [call_ok (cons_ok (x := fD e p) rfl nil_ok)]
    dsimp only
    rw [ev_check_form h]
  refine seq_go (ρ1 := [fD e p, fD2 (a, y), .str (wS w), .und, .int a, .und, .und, .int y, .und, .und]) (s1 := s) rfl ?_
  refine seq_go (ρ1 := [fD e p, fD2 (a, y), .str (wS w), .int (sgI a), .int a, .und, .und, .int y, .und, .und]) (s1 := s) (set_ok (d := .int (sgI a)) ?_) ?_
  · exact blt_args (cons_ok (x := .bl (decide (a < 0))) rfl nil_ok) int_ite'
  refine seq_go (ρ1 := [fD e p, fD2 (a, y), .str (wS w), .int (sgI a), .int x, .und, .und, .int y, .und, .und]) (s1 := s) (set_ok (d := .int x) ((abs_blt fun _ => rfl).trans (by rw [abs_nat, hx]))) ?_
  refine seq_go (ρ1 := [fD e p, fD2 (a, y), .str (wS w), .int (sgI a), .int x, .und, .und, .int y, .int L, .bl (decide (jst e p x y))]) (s1 := s) ?_ ?_
  · refine (asg_ok (d := .tup [.int L, .bl (decide (jst e p x y))]) (s1 := s) ?_).trans rfl
    rw [call_ok (cons_ok (x := fD e p) rfl (cons_ok (x := .int x) rfl (cons_ok (x := .int y) rfl nil_ok)))]
    dsimp only
    rw [ev_floor h x y hx0 hy, hL]
  refine seq_go (ρ1 := [fD e p, fD2 (a, y), .str (wS w), .int (sgI a), .int x, .int hd, .und, .int y, .int L, .bl (decide (jst e p x y))]) (s1 := s) (set_ok (d := .int hd) ?_) ?_
  · rw [hhd]
    exact mul_r (x := sgI a) rfl (P_ep pwf1 h rfl) (pw_m (by omega))
  refine ife_rt (q := jst e p x y) rfl (fun _ => rfl) (fun _ => ?_)
  refine seq_go (ρ1 := [fD e p, fD2 (a, y), .str (wS w), .int (sgI a), .int x, .int hd, .bl (decide ((w = .up ∧ sgI a = 0) ∨ (w = .dn ∧ sgI a = 1))), .int y, .int L, .bl (decide (jst e p x y))]) (s1 := s) (set_ok (d := .bl (decide ((w = .up ∧ sgI a = 0) ∨ (w = .dn ∧ sgI a = 1)))) ?_) ?_
  · exact or_b (and_b (wU w rfl) (eq_e rfl rfl)) (and_b (wDn w rfl) (eq_e rfl rfl))
  refine seq_go (ρ1 := [fD e p, fD2 (a, y), .str (wS w), .int (sgI a), .int x, .int hd, .bl (decide (upW e p L x y (sgI a) w)), .int y, .int L, .bl (decide (jst e p x y))]) (s1 := s) ?_ ?_
  · by_cases hw : w = .ev
    · refine (if_t ((wE w rfl).trans (by rw [decide_eq_true hw])) rfl).trans (seq_go (s1 := s) (set_ok (d := .bl (decide (upW e p L x y (sgI a) w))) ?_) rfl)
      have hu : decide (upW e p L x y (sgI a) w) = decide (nr e p L x y) := decide_eq_decide.mpr (by unfold upW; rw [if_pos hw])
      rw [hu]
      rw [call_ok (cons_ok (x := fD e p) rfl (cons_ok (x := .int L) rfl (cons_ok (x := .int x) rfl (cons_ok (x := .int y) rfl nil_ok))))]
      dsimp only
      rw [ev_nearer h L x y l0 hE.2.1 hE.1]
    · have hu : decide (upW e p L x y (sgI a) w) = decide ((w = .up ∧ sgI a = 0) ∨ (w = .dn ∧ sgI a = 1)) := decide_eq_decide.mpr (by unfold upW; rw [if_neg hw])
      rw [hu]
      exact guard_nx ((wE w rfl).trans (by rw [decide_eq_false hw]))
  refine ife_rt (q := ¬ upW e p L x y (sgI a) w) ?_ (fun _ => rfl) (fun hu => seq_rt (ret_ok ?_))
  · rw [not_ok (p := decide (upW e p L x y (sgI a) w)) (s1 := s) rfl]
    congr 2
    simp
  · have hg : eCall 10 (aCons (eVar 0) aNil) ⟨callN tab (m + 7), s.length :: B⟩ [fD e p, fD2 (a, y), .str (wS w), .int (sgI a), .int x, .int hd, .bl (decide (upW e p L x y (sgI a) w)), .int y, .int L, .bl (decide (jst e p x y))] s = .ok (.int (edge e p - 1)) s := by
      rw [call_ok (cons_ok (x := fD e p) rfl nil_ok)]
      dsimp only
      rw [ev_greatest h]
      rfl
    refine (if_e (q := L = edge e p - 1) (x := .int (sgI a * 2 ^ (e + p) + 2 ^ (e + p) - 2 ^ p)) (y := .int (hd + L + 1)) (eq_e rfl hg) (fun _ => ?_) (fun _ => rfl)).trans ?_
    · rw [call_ok (cons_ok (x := fD e p) rfl (cons_ok (x := .int (sgI a)) rfl nil_ok))]
      dsimp only
      rw [ev_endless h]
    · by_cases hq : L = edge e p - 1
      · rw [if_pos hq, hhd, hq]
        congr 2
        unfold edge
        omega
      · rw [if_neg hq]
end
end KL

set_option maxRecDepth 100000
namespace KL
open PySem Ev
local macro_rules | `(tactic| walk_at "st") => `(tactic| dsimp only [start0, List.length_cons, List.length_nil, List.replicate, List.cons_append, List.nil_append, Nat.reduceSub, Nat.reduceAdd])
local macro_rules | `(tactic| walk_at "ev") => `(tactic| simp (disch := omega) only [sSeq, sSet, sExpr, sRet, sRetN, sIf, sBrk, sCnt, sRaise, sNil, sAsg, sAug, sPar2, sFor, tName, tTup, tsCons, tsNil, tSub, eVar, eC, eOp, eUn, aNil, aCons, eTup, eLst, eCall, eBlt, gcF, gcE, eNot, eAnd, eOr, eIf, eChain, eTold, eMt, eSl, withPart, iR1, iR2, iR3, iSeq, Ev.iEnum, Res.bnd, Res.bndS, Res.bndA, Res.bndI, Rss.bnd, Rss.bndA, Rss.bndS, Rss.bndI, Itm.bnd, Itm.bndS, Out.bnd, Res.tst, Res.tstS, Res.tstA, gv, sv, tru, al, toRes, C.psh, endG, gOk, bAdd, bSub, uNeg, cLt, cLe, cGt, cGe, iAdd, lenD, intD, absD, if_true, if_false, Bool.false_eq_true, ite_true, ite_false, decide_true, decide_false, Bool.not_true, Bool.not_false, Bool.and_true, Bool.and_false, Bool.true_and, Bool.false_and, Int.zero_sub, and_true, true_and, and_false, false_and, not_true_eq_false, not_false_eq_true, finF_same, fin_same', cEq_int, cNe_int, decide_eq_true_eq, Bool.not_eq_true', decide_eq_false_iff_not, ite_not])
local macro_rules | `(tactic| walk_at "ew") => `(tactic| repeat (first | walk_at "ev" | (simp (disch := omega) only [ev_power_of, ev_check, ev_check_code, ev_meaning, ev_code_of, ev_widened, div_pow, mod_pow])))
/-! reduced fractions -/
structure Rdc (q : Int × Int) : Prop where
  pos : 0 < q.2
  cop : Nat.gcd q.1.natAbs q.2.natAbs = 1
theorem fr_rdc {a b : Int} (h : 0 < b) : Rdc (fr a b) := by
  have hg := gI_pos (a := a) (b := b) (by omega)
  refine ⟨(fr_den h).1, ?_⟩
  show Nat.gcd (a / ((gI a b : Nat) : Int)).natAbs (b / ((gI a b : Nat) : Int)).natAbs = 1
  have d1 : ((gI a b : Nat) : Int) ∣ a := Int.ofNat_dvd_left.mpr (Nat.gcd_dvd_right _ _)
  have d2 : ((gI a b : Nat) : Int) ∣ b := Int.ofNat_dvd_left.mpr (Nat.gcd_dvd_left _ _)
  rw [Int.natAbs_ediv_of_dvd d1, Int.natAbs_ediv_of_dvd d2, Int.natAbs_natCast]
  have hgc : gI a b = Nat.gcd a.natAbs b.natAbs := Nat.gcd_comm _ _
  rw [hgc] at hg ⊢
  exact Nat.coprime_div_gcd_div_gcd hg
theorem vf_rdc (e p : Nat) (c : Int) : Rdc (vf e p c) := by
  unfold vf
  split
  · exact ⟨by show (0 : Int) < 1; decide, by show Nat.gcd _ 1 = 1; exact Nat.gcd_one_right _⟩
  · exact fr_rdc (pow_pos' _)
theorem rdc_eq {q r : Int × Int} (hq : Rdc q) (hr : Rdc r) (h : q.1 * r.2 = r.1 * q.2) : q = r := by
  have h1 : q.1.natAbs * r.2.natAbs = r.1.natAbs * q.2.natAbs := by
    have := congrArg Int.natAbs h
    rwa [Int.natAbs_mul, Int.natAbs_mul] at this
  have c1 : Nat.Coprime q.2.natAbs q.1.natAbs := by
    have := hq.cop
    rw [Nat.gcd_comm] at this
    exact this
  have c2 : Nat.Coprime r.2.natAbs r.1.natAbs := by
    have := hr.cop
    rw [Nat.gcd_comm] at this
    exact this
  have a1 : q.2.natAbs ∣ r.2.natAbs := c1.dvd_of_dvd_mul_left ⟨r.1.natAbs, by rw [h1, Nat.mul_comm]⟩
  have a2 : r.2.natAbs ∣ q.2.natAbs := c2.dvd_of_dvd_mul_left ⟨q.1.natAbs, by rw [← h1, Nat.mul_comm]⟩
  have e2 : q.2.natAbs = r.2.natAbs := Nat.dvd_antisymm a1 a2
  have p1 := hq.pos
  have p2 := hr.pos
  have e3 : q.2 = r.2 := by omega
  have e1 : q.1 = r.1 := by
    rw [e3] at h
    exact Int.eq_of_mul_eq_mul_right (by omega) h
  exact Prod.ext e1 e3
/-! the next value above, as if the exponent had no end -/
def abv (e p : Nat) (c : Int) : Int × Int := if c < edge e p - 1 then vf e p (c + 1) else frs (2 * (vf e p c).1 * (vf e p (c - 1)).2 - (vf e p (c - 1)).1 * (vf e p c).2) ((vf e p c).2 * (vf e p (c - 1)).2)
def chkS (e p : Nat) : Bool := (List.range (edge e p).toNat).all fun n => decide ((abv e p (n : Int)).1 * (vf e p (n : Int)).2 * (st e p (n : Int)).2 = ((vf e p (n : Int)).1 * (st e p (n : Int)).2 + (st e p (n : Int)).1 * (vf e p (n : Int)).2) * (abv e p (n : Int)).2)
theorem chkS_all {e p : Nat} (h : Fm e p) : chkS e p = true := by
  obtain ⟨h1, h2, h3, h4⟩ := h
  have he : e = 2 ∨ e = 3 ∨ e = 4 := by omega
  have hp : p = 1 ∨ p = 2 ∨ p = 3 ∨ p = 4 := by omega
  rcases he with rfl | rfl | rfl <;> rcases hp with rfl | rfl | rfl | rfl <;> decide +kernel
theorem abv_eq {e p : Nat} (h : Fm e p) {c : Int} (h0 : 0 ≤ c) (h1 : c < edge e p) : (abv e p c).1 * (vf e p c).2 * (st e p c).2 = ((vf e p c).1 * (st e p c).2 + (st e p c).1 * (vf e p c).2) * (abv e p c).2 := by
  have := chkS_all h
  unfold chkS at this
  rw [List.all_eq_true] at this
  have q := of_decide_eq_true (this c.toNat (List.mem_range.mpr (by omega)))
  rw [Int.toNat_of_nonneg h0] at q
  exact q
theorem abv_rng {e p : Nat} (h : Fm e p) (c : Int) : (0 < (abv e p c).2 ∧ (abv e p c).2 ≤ 1099511627776) ∧ (-211106232532992 ≤ (abv e p c).1 ∧ (abv e p c).1 ≤ 211106232532992) := by
  unfold abv
  split
  · have := vf_rng h (c + 1)
    omega
  · have hv := vf_rng h c
    have hw := vf_rng h (c - 1)
    generalize (vf e p c).1 = b0 at *
    generalize (vf e p c).2 = b1 at *
    generalize (vf e p (c - 1)).1 = t0 at *
    generalize (vf e p (c - 1)).2 = t1 at *
    have hp : 0 < b1 * t1 := Int.mul_pos hv.1.1 hw.1.1
    have hp2 : b1 * t1 ≤ 1048576 * 1048576 := Int.mul_le_mul hv.1.2 hw.1.2 (Int.le_of_lt hw.1.1) (by decide)
    unfold frs
    rw [if_pos hp]
    have hd := fr_den (a := 2 * b0 * t1 - t0 * b1) hp
    have hn := fr_num (a := 2 * b0 * t1 - t0 * b1) (Int.ne_of_gt hp)
    have m1 : (b0 * t1).natAbs ≤ 33554432 * 1048576 := by
      rw [Int.natAbs_mul]
      exact Nat.mul_le_mul (by omega) (by omega)
    have m2 : (t0 * b1).natAbs ≤ 33554432 * 1048576 := by
      rw [Int.natAbs_mul]
      exact Nat.mul_le_mul (by omega) (by omega)
    have e1 : 2 * b0 * t1 = 2 * (b0 * t1) := by rw [Int.mul_assoc]
    rw [e1] at hn hd ⊢
    refine ⟨⟨hd.1, by omega⟩, by omega, by omega⟩
/-- the law's way to ask which is nearer -/
theorem nr_law {e p : Nat} (h : Fm e p) {c x y : Int} (h0 : 0 ≤ c) (h1 : c < edge e p) :
    nr e p c x y ↔ ((x * (vf e p c).2 - (vf e p c).1 * y) * (abv e p c).2 > ((abv e p c).1 * y - x * (abv e p c).2) * (vf e p c).2 ∨ ((x * (vf e p c).2 - (vf e p c).1 * y) * (abv e p c).2 = ((abv e p c).1 * y - x * (abv e p c).2) * (vf e p c).2 ∧ c % 2 = 1)) := by
  have ha := abv_eq h h0 h1
  have hs := (st_rng h c).2.1
  have hA := (abv_rng h c).1.1
  unfold nr nrD nrW
  generalize (vf e p c).1 = b0 at *
  generalize (vf e p c).2 = b1 at *
  generalize (st e p c).1 = s0 at *
  generalize (st e p c).2 = s1 at *
  generalize (abv e p c).1 = A0 at *
  generalize (abv e p c).2 = A1 at *
  obtain ⟨U, hU⟩ : ∃ U, U = (x * b1 - b0 * y) * A1 := ⟨_, rfl⟩
  obtain ⟨V, hV⟩ : ∃ V, V = (A0 * y - x * A1) * b1 := ⟨_, rfl⟩
  obtain ⟨P, hP⟩ : ∃ P, P = 2 * (x * b1 - b0 * y) * s1 := ⟨_, rfl⟩
  obtain ⟨W, hW⟩ : ∃ W, W = s0 * y * b1 := ⟨_, rfl⟩
  rw [← hU, ← hV, ← hP, ← hW]
  have key : s1 * (U - V) = A1 * (P - W) := by
    rw [hU, hV, hP, hW]
    have q1 : s1 * ((x * b1 - b0 * y) * A1 - (A0 * y - x * A1) * b1) = 2 * x * b1 * A1 * s1 - y * b0 * A1 * s1 - y * (A0 * b1 * s1) := by grind
    rw [q1, ha]
    grind
  have g1 : U > V ↔ P > W := by
    constructor
    · intro q
      rcases Int.lt_or_le W P with r | r
      · exact r
      · have t1 : 0 < s1 * (U - V) := Int.mul_pos hs (by omega)
        have t2 : A1 * (P - W) ≤ 0 := Int.mul_nonpos_of_nonneg_of_nonpos (Int.le_of_lt hA) (by omega)
        omega
    · intro q
      rcases Int.lt_or_le V U with r | r
      · exact r
      · have t1 : 0 < A1 * (P - W) := Int.mul_pos hA (by omega)
        have t2 : s1 * (U - V) ≤ 0 := Int.mul_nonpos_of_nonneg_of_nonpos (Int.le_of_lt hs) (by omega)
        omega
  have g2 : U = V ↔ P = W := by
    constructor
    · intro q
      rw [q, Int.sub_self, Int.mul_zero] at key
      rcases Int.mul_eq_zero.mp key.symm with r | r <;> omega
    · intro q
      rw [q, Int.sub_self, Int.mul_zero] at key
      rcases Int.mul_eq_zero.mp key with r | r <;> omega
  rw [g1, g2]
theorem cEq_f2 {q r : Int × Int} {s : S} : cEq (fD2 q) (fD2 r) s = .ok (.bl (decide (q = r))) s := by
  rw [show cEq (fD2 q) (fD2 r) s = .ok (.bl (D.eqv (fD2 q) (fD2 r))) s from cEq_shp rfl rfl]
  congr 2
  show (q.1 == r.1 && (q.2 == r.2 && true)) = _
  rw [Bool.and_true]
  have : (q = r) = (q.1 = r.1 ∧ q.2 = r.2) := propext ⟨fun h => by rw [h]; exact ⟨rfl, rfl⟩, fun h => Prod.ext h.1 h.2⟩
  rw [decide_eq_decide.mpr (Iff.of_eq this), Bool.decide_and]
  rfl
theorem lmax_is {l : List Int} {z : Int} (h1 : z ∈ l) (h2 : ∀ y ∈ l, y ≤ z) : Ev.lmax l = some z := by
  cases hq : Ev.lmax l with
  | none =>
    cases l with
    | nil => cases h1
    | cons a r => cases hq
  | some m => rw [lmax_of hq h1 h2]
end KL

set_option maxRecDepth 100000
namespace KL
open PySem Ev
local macro_rules | `(tactic| walk_at "st") => `(tactic| dsimp only [start0, List.length_cons, List.length_nil, List.replicate, List.cons_append, List.nil_append, Nat.reduceSub, Nat.reduceAdd])
local macro_rules | `(tactic| walk_at "ev") => `(tactic| simp (disch := omega) only [sSeq, sSet, sExpr, sRet, sRetN, sIf, sBrk, sCnt, sRaise, sNil, sAsg, sAug, sPar2, sFor, tName, tTup, tsCons, tsNil, tSub, eVar, eC, eOp, eUn, aNil, aCons, eTup, eLst, eCall, eBlt, gcF, gcE, eNot, eAnd, eOr, eIf, eChain, eTold, eMt, eSl, withPart, iR1, iR2, iR3, iSeq, Ev.iEnum, Res.bnd, Res.bndS, Res.bndA, Res.bndI, Rss.bnd, Rss.bndA, Rss.bndS, Rss.bndI, Itm.bnd, Itm.bndS, Out.bnd, Res.tst, Res.tstS, Res.tstA, gv, sv, tru, al, toRes, C.psh, endG, gOk, bAdd, bSub, uNeg, cLt, cLe, cGt, cGe, iAdd, lenD, intD, absD, if_true, if_false, Bool.false_eq_true, ite_true, ite_false, decide_true, decide_false, Bool.not_true, Bool.not_false, Bool.and_true, Bool.and_false, Bool.true_and, Bool.false_and, Int.zero_sub, and_true, true_and, and_false, false_and, not_true_eq_false, not_false_eq_true, finF_same, fin_same', cEq_int, cNe_int, decide_eq_true_eq, Bool.not_eq_true', decide_eq_false_iff_not, ite_not])
local macro_rules | `(tactic| walk_at "ew") => `(tactic| repeat (first | walk_at "ev" | (simp (disch := omega) only [ev_power_of, ev_check, ev_check_code, ev_meaning, ev_code_of, ev_widened, div_pow, mod_pow])))
section
variable {m : Nat} {B : List Nat} {s : S} {e p : Nat}
theorem ev_less2 {a b : Int × Int} (h1 : -(2 ^ 64) < b.1 ∧ b.1 < 2 ^ 64) (h2 : -(2 ^ 64) < b.2 ∧ b.2 < 2 ^ 64) : callN tab (m + 1) 28 B [fD2 a, fD2 b] s = .ok (.bl (decide (lsP a b))) s := by
  refine run_go (np := 2) (n := 2) (d := .bl (decide (lsP a b))) (s1 := s) rfl ?_ finF_same
  dsimp only [c_law_less]
  walk_at "st"
  exact seq_rt (ret_ok (lt_e (mul_r (X_0 rfl) (X_1 rfl) h2) (mul_l (X_0 rfl) (X_1 rfl) h1)))
/-- the codes not above a fraction -/
def lowL (e p : Nat) (x y : Int) : List Int := (((List.range (edge e p).toNat).filter fun (n : Nat) => decide (leP e p x y ((n : Nat) : Int))).map fun (n : Nat) => (n : Int))
theorem lowL_max (h : Fm e p) {x y : Int} (hx : 0 ≤ x) : Ev.lmax (lowL e p x y) = some (Low e p x y) := by
  obtain ⟨⟨l0, l1⟩, l2, l3⟩ := Low_spec (y := y) h hx
  refine lmax_is ?_ ?_
  · unfold lowL
    have hr : (Low e p x y).toNat < (edge e p).toNat := by omega
    refine List.mem_map.mpr ⟨(Low e p x y).toNat, List.mem_filter.mpr ⟨List.mem_range.mpr hr, ?_⟩, Int.toNat_of_nonneg l0⟩
    rw [Int.toNat_of_nonneg l0]
    exact decide_eq_true l2
  · intro z hz
    unfold lowL at hz
    obtain ⟨n, hn, rfl⟩ := List.mem_map.mp hz
    obtain ⟨n1, n2⟩ := List.mem_filter.mp hn
    have n1 := List.mem_range.mp n1
    have n2 := of_decide_eq_true n2
    rcases Int.lt_or_le (Low e p x y) (n : Int) with q | q
    · exact absurd n2 (l3 _ q (by omega))
    · exact q
end
end KL

set_option maxRecDepth 100000
namespace KL
open PySem Ev
local macro_rules | `(tactic| walk_at "st") => `(tactic| dsimp only [start0, List.length_cons, List.length_nil, List.replicate, List.cons_append, List.nil_append, Nat.reduceSub, Nat.reduceAdd])
local macro_rules | `(tactic| walk_at "ev") => `(tactic| simp (disch := omega) only [sSeq, sSet, sExpr, sRet, sRetN, sIf, sBrk, sCnt, sRaise, sNil, sAsg, sAug, sPar2, sFor, tName, tTup, tsCons, tsNil, tSub, eVar, eC, eOp, eUn, aNil, aCons, eTup, eLst, eCall, eBlt, gcF, gcE, eNot, eAnd, eOr, eIf, eChain, eTold, eMt, eSl, withPart, iR1, iR2, iR3, iSeq, Ev.iEnum, Res.bnd, Res.bndS, Res.bndA, Res.bndI, Rss.bnd, Rss.bndA, Rss.bndS, Rss.bndI, Itm.bnd, Itm.bndS, Out.bnd, Res.tst, Res.tstS, Res.tstA, gv, sv, tru, al, toRes, C.psh, endG, gOk, bAdd, bSub, uNeg, cLt, cLe, cGt, cGe, iAdd, lenD, intD, absD, if_true, if_false, Bool.false_eq_true, ite_true, ite_false, decide_true, decide_false, Bool.not_true, Bool.not_false, Bool.and_true, Bool.and_false, Bool.true_and, Bool.false_and, Int.zero_sub, and_true, true_and, and_false, false_and, not_true_eq_false, not_false_eq_true, finF_same, fin_same', cEq_int, cNe_int, decide_eq_true_eq, Bool.not_eq_true', decide_eq_false_iff_not, ite_not])
local macro_rules | `(tactic| walk_at "ew") => `(tactic| repeat (first | walk_at "ev" | (simp (disch := omega) only [ev_power_of, ev_check, ev_check_code, ev_meaning, ev_code_of, ev_widened, div_pow, mod_pow])))
/-! kinds by what is left without the sign -/
inductive Kd where
  | none | endless | nought | small | full
instance : DecidableEq Kd := fun a b => by cases a <;> cases b <;> first | exact isTrue rfl | exact isFalse (by intro h; cases h)
def kS : Kd → Str
  | .none => "none"
  | .endless => "endless"
  | .nought => "nought"
  | .small => "small"
  | .full => "full"
def bare (e p : Nat) (c : Int) : Int := c % 2 ^ (e + p)
def kB (e p : Nat) (c : Int) : Kd := if bare e p c > edge e p then .none else if bare e p c = edge e p then .endless else if bare e p c = 0 then .nought else if bare e p c < 2 ^ p then .small else .full
theorem kd_facts {e p : Nat} (h : Fm e p) (c : Int) : ((xE e p c = 2 ^ e - 1 ∧ c % 2 ^ p ≠ 0) ↔ bare e p c > edge e p) ∧ ((xE e p c = 2 ^ e - 1 ∧ c % 2 ^ p = 0) ↔ bare e p c = edge e p) ∧ ((xE e p c = 0 ∧ c % 2 ^ p = 0) ↔ bare e p c = 0) ∧ ((xE e p c = 0) ↔ bare e p c < 2 ^ p) ∧ (0 : Int) < 2 ^ e - 1 ∧ (0 < edge e p ∧ 2 ^ p ≤ edge e p) ∧ 0 ≤ bare e p c := by
  obtain ⟨h1, h2, h3, h4⟩ := h
  have he : e = 2 ∨ e = 3 ∨ e = 4 := by omega
  have hp : p = 1 ∨ p = 2 ∨ p = 3 ∨ p = 4 := by omega
  unfold xE bare edge
  rcases he with rfl | rfl | rfl <;> rcases hp with rfl | rfl | rfl | rfl <;> simp only [Nat.reduceAdd, Int.reducePow, Int.reduceSub, Int.reduceMul] <;> (try simp only [ne_eq]) <;> omega
theorem kd_eq {e p : Nat} (h : Fm e p) (c : Int) : kd e p c = kS (kB e p c) := by
  obtain ⟨f1, f2, f3, f4, f5, f6, f7⟩ := kd_facts h c
  unfold kd kB
  show (if xE e p c = 2 ^ e - 1 then _ else if xE e p c = 0 then _ else _) = _
  by_cases hE : xE e p c = 2 ^ e - 1
  · rw [if_pos hE]
    by_cases hP : c % 2 ^ p = 0
    · have g2 := f2.mp ⟨hE, hP⟩
      rw [if_pos hP, if_neg (by omega), if_pos g2]
      rfl
    · have g1 := f1.mp ⟨hE, hP⟩
      rw [if_neg hP, if_pos g1]
      rfl
  · rw [if_neg hE]
    have n1 : ¬ bare e p c > edge e p := fun q => hE (f1.mpr q).1
    have n2 : ¬ bare e p c = edge e p := fun q => hE (f2.mpr q).1
    rw [if_neg n1, if_neg n2]
    by_cases hE0 : xE e p c = 0
    · rw [if_pos hE0]
      by_cases hP : c % 2 ^ p = 0
      · rw [if_pos hP, if_pos (f3.mp ⟨hE0, hP⟩)]; rfl
      · rw [if_neg hP, if_neg (fun q => hP (f3.mpr q).2), if_pos (f4.mp hE0)]; rfl
    · rw [if_neg hE0, if_neg (fun q => hE0 (f3.mpr q).1), if_neg (fun q => hE0 (f4.mpr q))]; rfl
theorem kB_none {e p : Nat} {c : Int} : kB e p c = .none ↔ bare e p c > edge e p := by
  unfold kB
  by_cases h1 : bare e p c > edge e p
  · simp [h1]
  · simp [h1]
    split
    · simp
    · split
      · simp
      · split <;> simp
theorem kB_endless {e p : Nat} {c : Int} : kB e p c = .endless ↔ bare e p c = edge e p := by
  unfold kB
  by_cases h1 : bare e p c > edge e p
  · simp [h1]; omega
  · simp [h1]
    by_cases h2 : bare e p c = edge e p
    · simp [h2]
    · simp [h2]
      split
      · simp
      · split <;> simp
theorem kB_nought {e p : Nat} (h : Fm e p) {c : Int} : kB e p c = .nought ↔ bare e p c = 0 := by
  have he := edge_pos h
  unfold kB
  by_cases h1 : bare e p c > edge e p
  · simp [h1]; omega
  · simp [h1]
    by_cases h2 : bare e p c = edge e p
    · simp [h2]; omega
    · simp [h2]
      by_cases h3 : bare e p c = 0
      · simp [h3]
      · simp [h3]
        split <;> simp
theorem xE_of {e p : Nat} (h : Fm e p) {c : Int} (h1 : kB e p c ≠ .none) (h2 : kB e p c ≠ .endless) : xE e p c ≠ 2 ^ e - 1 := by
  obtain ⟨f1, f2, _⟩ := kd_facts h c
  intro hE
  by_cases hP : c % 2 ^ p = 0
  · exact h2 (kB_endless.mpr (f2.mp ⟨hE, hP⟩))
  · exact h1 (kB_none.mpr (f1.mp ⟨hE, hP⟩))
section
variable {C0 : C} {ρ : Ev.Env} {s : S} {i : Nat}
theorem k_eqE (k : Kd) : cEq (.str (kS k)) (.str "endless") s = .ok (.bl (decide (k = .endless))) s := by cases k <;> kernel_rfl
theorem k_eqN (k : Kd) : cEq (.str (kS k)) (.str "nought") s = .ok (.bl (decide (k = .nought))) s := by cases k <;> kernel_rfl
theorem k_eq0 (k : Kd) : cEq (.str (kS k)) (.str "none") s = .ok (.bl (decide (k = .none))) s := by cases k <;> kernel_rfl
theorem k_eq2 (k l : Kd) : cEq (.str (kS k)) (.str (kS l)) s = .ok (.bl (decide (k = l))) s := by cases k <;> cases l <;> kernel_rfl
theorem k_in0 (k l : Kd) : cIn (.str "none") (.tup [.str (kS k), .str (kS l)]) s = .ok (.bl (decide (k = .none ∨ l = .none))) s := by cases k <;> cases l <;> kernel_rfl
theorem k_inE (k l : Kd) : cIn (.str "endless") (.tup [.str (kS k), .str (kS l)]) s = .ok (.bl (decide (k = .endless ∨ l = .endless))) s := by cases k <;> cases l <;> kernel_rfl
theorem k_inN (k l : Kd) : cIn (.str "nought") (.tup [.str (kS k), .str (kS l)]) s = .ok (.bl (decide (k = .nought ∨ l = .nought))) s := by cases k <;> cases l <;> kernel_rfl
theorem k_in2 (k l : Kd) : cIn (.tup [.str (kS k), .str (kS l)]) (.tup [.tup [.str "endless", .str "endless"], .tup [.str "nought", .str "nought"]]) s = .ok (.bl (decide ((k = .endless ∧ l = .endless) ∨ (k = .nought ∧ l = .nought)))) s := by cases k <;> cases l <;> kernel_rfl
end
def sgC (e p : Nat) (c : Int) : Int := c / 2 ^ (e + p)
theorem sgC_rng {e p : Nat} {c : Int} (h0 : 0 ≤ c) (h1 : c < 2 ^ (1 + e + p)) : (sgC e p c = 0 ∨ sgC e p c = 1) ∧ c = sgC e p c * 2 ^ (e + p) + bare e p c := by
  have hp := pow_pos' (e + p)
  have e1 : (2 : Int) ^ (1 + e + p) = 2 * 2 ^ (e + p) := by
    rw [show 1 + e + p = (e + p) + 1 by omega, Int.pow_succ, Int.mul_comm]
  rw [e1] at h1
  have a1 : 0 ≤ sgC e p c := Int.ediv_nonneg h0 (Int.le_of_lt hp)
  have a2 : sgC e p c < 2 := Int.ediv_lt_of_lt_mul hp h1
  have a3 := Int.mul_ediv_add_emod c (2 ^ (e + p))
  refine ⟨by omega, ?_⟩
  unfold sgC bare
  rw [Int.mul_comm]
  exact a3.symm
/-- the top of a sum -/
def tpA (e p : Nat) (c d : Int) : Int := (vf e p c).1 * (vf e p d).2 + (vf e p d).1 * (vf e p c).2
def rdF (e p : Nat) (q : Int × Int) (w : Wy) : Int := rd e p q.1 q.2 w
def adS (e p : Nat) (c d : Int) (w : Wy) : Int :=
  if kB e p c = .none ∨ kB e p d = .none then nthC e p
  else if kB e p c = .endless ∨ kB e p d = .endless then (if kB e p c = kB e p d ∧ c ≠ d then nthC e p else if kB e p c = .endless then c else d)
  else if tpA e p c d = 0 then (if sgC e p c = sgC e p d then sgC e p c else if w = .dn then 1 else 0) * 2 ^ (e + p)
  else rdF e p (fr (tpA e p c d) ((vf e p c).2 * (vf e p d).2)) w
section
variable {m : Nat} {B : List Nat} {s : S} {e p : Nat}
theorem kcall {C0 : C} {ρ : Ev.Env} {i j : Nat} {c : Int} (hc : C0.call = callN tab (m + 5)) (h : Fm e p) (h0 : 0 ≤ c) (h1 : c < 2 ^ (1 + e + p)) (hi : gv ρ i = fD e p) (hj : gv ρ j = .int c) : eCall 7 (aCons (eVar i) (aCons (eVar j) aNil)) C0 ρ s = .ok (.str (kS (kB e p c))) s := by
  rw [kind_call (k := 0) hc h h0 h1 hi hj, kd_eq h]
theorem cc_call {C0 : C} {ρ : Ev.Env} {i j : Nat} {c : Int} (hc : C0.call = callN tab (m + 3)) (h : Fm e p) (h0 : 0 ≤ c) (h1 : c < 2 ^ (1 + e + p)) (hi : gv ρ i = fD e p) (hj : gv ρ j = .int c) : eCall 5 (aCons (eVar i) (aCons (eVar j) aNil)) C0 ρ s = .ok .non s := by
  rw [call_ok (cons_ok (var_ok hi (by simp [fD])) (cons_ok (var_ok hj (by simp)) nil_ok)), hc, ev_check_code h c h0 h1]
theorem sg_call {C0 : C} {ρ : Ev.Env} {i j : Nat} {c : Int} (hc : C0.call = callN tab (m + 4)) (h : Fm e p) (h0 : 0 ≤ c) (h1 : c < 2 ^ (1 + e + p)) (hi : gv ρ i = fD e p) (hj : gv ρ j = .int c) : eOp bIx (eCall 6 (aCons (eVar i) (aCons (eVar j) aNil))) (eC (.int 0)) C0 ρ s = .ok (.int (sgC e p c)) s := by
  rw [op_ok (x := .tup [.int (c / 2 ^ (e + p)), .int (c / 2 ^ p % 2 ^ e), .int (c % 2 ^ p)]) (y := .int 0) (s1 := s) (s2 := s) (parts_call hc h h0 h1 hi hj) rfl]
  rfl
theorem den2 (h : Fm e p) (c d : Int) : 0 < (vf e p c).2 * (vf e p d).2 ∧ ((vf e p c).2 * (vf e p d).2).natAbs < 2 ^ 200 := by
  have h1 := vf_rng h c
  have h2 := vf_rng h d
  have hp : 0 < (vf e p c).2 * (vf e p d).2 := Int.mul_pos h1.1.1 h2.1.1
  have hp2 : (vf e p c).2 * (vf e p d).2 ≤ 1048576 * 1048576 := Int.mul_le_mul h1.1.2 h2.1.2 (Int.le_of_lt h2.1.1) (by decide)
  have : ((1048576 * 1048576 : Int)) < ((2 ^ 200 : Nat) : Int) := by decide
  exact ⟨hp, by omega⟩
theorem par2_ok {C0 : C} {ρ : Ev.Env} {i j : Nat} {a b : ES} {x y : D} (ha : a C0 ρ s = .ok x s) (hb : b C0 ρ s = .ok y s) : sPar2 i j (aCons a (aCons b aNil)) C0 ρ s = .nx (sv (sv ρ i x) j y) s := by
  unfold sPar2
  rw [cons_ok ha (cons_ok hb nil_ok)]
  rfl
/-- rounding of a fraction that is made in place -/
theorem rd_call {C0 : C} {ρ : Ev.Env} {i j : Nat} {e1 : ES} {q : Int × Int} {w : Wy} (hc : C0.call = callN tab (m + 8)) (h : Fm e p) (hq : 0 < q.2) (hi : gv ρ i = fD e p) (h1 : e1 C0 ρ s = .ok (fD2 q) s) (hj : gv ρ j = .str (wS w)) : eCall 14 (aCons (eVar i) (aCons e1 (aCons (eVar j) aNil))) C0 ρ s = .ok (.int (rdF e p q w)) s := by
  rw [call_ok (cons_ok (var_ok hi (by simp [fD])) (cons_ok h1 (cons_ok (var_ok hj (by simp)) nil_ok))), hc]
  exact ev_rounded h q.1 q.2 hq w
theorem nth_call {C0 : C} {ρ : Ev.Env} {i : Nat} (hc : C0.call = callN tab (m + 2)) (h : Fm e p) (hi : gv ρ i = fD e p) : eCall 12 (aCons (eVar i) aNil) C0 ρ s = .ok (.int (nthC e p)) s := by
  rw [call_ok (cons_ok (var_ok hi (by simp [fD])) nil_ok), hc, ev_nothing h]
theorem vsome_call {C0 : C} {ρ : Ev.Env} {i j : Nat} {c : Int} (hc : C0.call = callN tab (m + 6)) (h : Fm e p) (h0 : 0 ≤ c) (h1 : c < 2 ^ (1 + e + p)) (hE : xE e p c ≠ 2 ^ e - 1) (hi : gv ρ i = fD e p) (hj : gv ρ j = .int c) : eCall 9 (aCons (eVar i) (aCons (eVar j) aNil)) C0 ρ s = .ok (fD2 (vf e p c)) s := by
  rw [value_call (m := m) hc h h0 h1 hi hj, vl_some hE]
theorem ite_of {q : Prop} [Decidable q] {a b : Int} {x y : D} (h1 : x = .int a) (h2 : y = .int b) : (if q then x else y) = D.int (if q then a else b) := by split <;> simp [*]
theorem ev_add (h : Fm e p) (c d : Int) (c0 : 0 ≤ c) (c1 : c < 2 ^ (1 + e + p)) (d0 : 0 ≤ d) (d1 : d < 2 ^ (1 + e + p)) (w : Wy) : callN tab (m + 9) 18 B [fD e p, .int c, .int d, .str (wS w)] s = .ok (.int (adS e p c d w)) s := by
  refine run_go (np := 4) (n := 9) (d := .int (adS e p c d w)) (s1 := s) rfl ?_ finF_same
  have hr : D.int (adS e p c d w) = if kB e p c = .none ∨ kB e p d = .none then .int (nthC e p) else if kB e p c = .endless ∨ kB e p d = .endless then (if kB e p c = kB e p d ∧ c ≠ d then .int (nthC e p) else if kB e p c = .endless then .int c else .int d) else if tpA e p c d = 0 then .int ((if sgC e p c = sgC e p d then sgC e p c else if w = .dn then 1 else 0) * 2 ^ (e + p)) else .int (rdF e p (fr (tpA e p c d) ((vf e p c).2 * (vf e p d).2)) w) := by
    unfold adS
    split
    · rfl
    · split
      · split
        · rfl
        · split <;> rfl
      · split <;> rfl
  rw [hr]
  dsimp only [c_add]
  walk_at "st"
  have K1 : ∀ {a4 a5 a6 a7 a8 : D} {B}, eCall 7 (aCons (eVar 0) (aCons (eVar 1) aNil)) ⟨callN tab (m + 8), B⟩ [fD e p, .int c, .int d, .str (wS w), a4, a5, a6, a7, a8] s = .ok (.str (kS (kB e p c))) s := fun {a4 a5 a6 a7 a8 B} => kcall (m := m + 3) rfl h c0 c1 rfl rfl
  have K2 : ∀ {a4 a5 a6 a7 a8 : D} {B}, eCall 7 (aCons (eVar 0) (aCons (eVar 2) aNil)) ⟨callN tab (m + 8), B⟩ [fD e p, .int c, .int d, .str (wS w), a4, a5, a6, a7, a8] s = .ok (.str (kS (kB e p d))) s := fun {a4 a5 a6 a7 a8 B} => kcall (m := m + 3) rfl h d0 d1 rfl rfl
  refine seq_go (expr_ok (cc_call (m := m + 5) rfl h c0 c1 rfl rfl)) (seq_go (expr_ok (cc_call (m := m + 5) rfl h d0 d1 rfl rfl)) (seq_go (guard_nx (wIn w rfl)) ?_))
  refine ife_rt ?_ (fun _ => seq_rt (ret_ok (nth_call (m := m + 6) rfl h rfl))) (fun hn => ?_)
  · exact (op_ok (x := .str "none") (y := .tup [.str (kS (kB e p c)), .str (kS (kB e p d))]) rfl (tup_ok (cons_ok K1 (cons_ok K2 nil_ok)) (by simp))).trans (k_in0 _ _)
  refine ife_rt (or_b ((op_ok K1 rfl).trans (k_eqE _)) ((op_ok K2 rfl).trans (k_eqE _))) (fun he => ?_) (fun he => ?_)
  · refine ife_rt (q := kB e p c = kB e p d ∧ c ≠ d) (and_b ((op_ok K1 K2).trans (k_eq2 _ _)) ?_) (fun _ => seq_rt (ret_ok (nth_call (m := m + 6) rfl h rfl))) (fun _ => seq_rt (ret_ok ?_))
    · refine ((op_ok (x := .int c) (y := .int d) rfl rfl).trans cNe_int).trans ?_
      congr 2
      rw [← decide_not]
    · exact if_e (q := kB e p c = .endless) ((op_ok K1 rfl).trans (k_eqE _)) (fun _ => rfl) (fun _ => rfl)
  have hE1 := xE_of h (fun q => hn (.inl q)) (fun q => he (.inl q))
  have hE2 := xE_of h (fun q => hn (.inr q)) (fun q => he (.inr q))
  have hv1 := vf_rng h c
  have hv2 := vf_rng h d
  have hd2 := den2 h c d
  refine seq_go (ρ1 := [fD e p, .int c, .int d, .str (wS w), .und, fD2 (vf e p c), fD2 (vf e p d), .und, .und]) (s1 := s) (par2_ok (vsome_call (m := m + 2) rfl h c0 c1 hE1 rfl rfl) (vsome_call (m := m + 2) rfl h d0 d1 hE2 rfl rfl)) ?_
  refine seq_go (ρ1 := [fD e p, .int c, .int d, .str (wS w), .int (tpA e p c d), fD2 (vf e p c), fD2 (vf e p d), .und, .und]) (s1 := s) (set_ok (add_e (mul_r (X_0 rfl) (X_1 rfl) (sm2 hv2.1.1 hv2.1.2)) (mul_r (X_0 rfl) (X_1 rfl) (sm2 hv1.1.1 hv1.1.2)))) ?_
  refine ife_rt (q := tpA e p c d = 0) (eq_e rfl rfl) (fun _ => ?_) (fun _ => seq_rt (ret_ok (rd_call (m := m) rfl h (fr_den hd2.1).1 rfl ?_ rfl)))
  · have hs : (if sgC e p c = sgC e p d then D.int (sgC e p c) else .int (if w = .dn then 1 else 0)) = .int (if sgC e p c = sgC e p d then sgC e p c else if w = .dn then 1 else 0) := by split <;> rfl
    refine seq_go (ρ1 := [fD e p, .int c, .int d, .str (wS w), .int (tpA e p c d), fD2 (vf e p c), fD2 (vf e p d), fD2 (sgC e p c, sgC e p d), .und]) (s1 := s) (set_ok (tup_ok (cons_ok (sg_call (m := m + 4) rfl h c0 c1 rfl rfl) (cons_ok (sg_call (m := m + 4) rfl h d0 d1 rfl rfl) nil_ok)) (by simp))) ?_
    refine seq_go (ρ1 := [fD e p, .int c, .int d, .str (wS w), .int (tpA e p c d), fD2 (vf e p c), fD2 (vf e p d), fD2 (sgC e p c, sgC e p d), .int (if sgC e p c = sgC e p d then sgC e p c else if w = .dn then 1 else 0)]) (s1 := s) (set_ok (d := .int (if sgC e p c = sgC e p d then sgC e p c else if w = .dn then 1 else 0)) ?_) (seq_rt (ret_ok ?_))
    · rw [← hs]
      exact if_e (q := sgC e p c = sgC e p d) (eq_e (X_0 (q := (sgC e p c, sgC e p d)) rfl) (X_1 (q := (sgC e p c, sgC e p d)) rfl)) (fun _ => X_0 (q := (sgC e p c, sgC e p d)) rfl) (fun _ => blt_args (cons_ok (wDn w rfl) nil_ok) int_ite')
    · rw [call_ok (cons_ok (x := fD e p) rfl (cons_ok (x := .int (if sgC e p c = sgC e p d then sgC e p c else if w = .dn then 1 else 0)) rfl nil_ok))]
      dsimp only
      rw [ev_signed h]
  · rw [call_ok (cons_ok (x := .int (tpA e p c d)) rfl (cons_ok (mul_r (X_1 rfl) (X_1 rfl) (sm2 hv2.1.1 hv2.1.2)) nil_ok))]
    dsimp only
    rw [ev_reduced _ _ hd2.1 hd2.2]
end
end KL

set_option maxRecDepth 100000
namespace KL
open PySem Ev
local macro_rules | `(tactic| walk_at "st") => `(tactic| dsimp only [start0, List.length_cons, List.length_nil, List.replicate, List.cons_append, List.nil_append, Nat.reduceSub, Nat.reduceAdd])
local macro_rules | `(tactic| walk_at "ev") => `(tactic| simp (disch := omega) only [sSeq, sSet, sExpr, sRet, sRetN, sIf, sBrk, sCnt, sRaise, sNil, sAsg, sAug, sPar2, sFor, tName, tTup, tsCons, tsNil, tSub, eVar, eC, eOp, eUn, aNil, aCons, eTup, eLst, eCall, eBlt, gcF, gcE, eNot, eAnd, eOr, eIf, eChain, eTold, eMt, eSl, withPart, iR1, iR2, iR3, iSeq, Ev.iEnum, Res.bnd, Res.bndS, Res.bndA, Res.bndI, Rss.bnd, Rss.bndA, Rss.bndS, Rss.bndI, Itm.bnd, Itm.bndS, Out.bnd, Res.tst, Res.tstS, Res.tstA, gv, sv, tru, al, toRes, C.psh, endG, gOk, bAdd, bSub, uNeg, cLt, cLe, cGt, cGe, iAdd, lenD, intD, absD, if_true, if_false, Bool.false_eq_true, ite_true, ite_false, decide_true, decide_false, Bool.not_true, Bool.not_false, Bool.and_true, Bool.and_false, Bool.true_and, Bool.false_and, Int.zero_sub, and_true, true_and, and_false, false_and, not_true_eq_false, not_false_eq_true, finF_same, fin_same', cEq_int, cNe_int, decide_eq_true_eq, Bool.not_eq_true', decide_eq_false_iff_not, ite_not])
local macro_rules | `(tactic| walk_at "ew") => `(tactic| repeat (first | walk_at "ev" | (simp (disch := omega) only [ev_power_of, ev_check, ev_check_code, ev_meaning, ev_code_of, ev_widened, div_pow, mod_pow])))
theorem xor01 {a b : Int} (ha : a = 0 ∨ a = 1) (hb : b = 0 ∨ b = 1) : Builtin.bitXor a b = if a = b then 0 else 1 := by
  rcases ha with rfl | rfl <;> rcases hb with rfl | rfl <;> rfl
def sg2 (e p : Nat) (c d : Int) : Int := if sgC e p c = sgC e p d then 0 else 1
def muS (e p : Nat) (c d : Int) (w : Wy) : Int :=
  if (kB e p c = .none ∨ kB e p d = .none) ∨ ((kB e p c = .endless ∨ kB e p d = .endless) ∧ (kB e p c = .nought ∨ kB e p d = .nought)) then nthC e p
  else if kB e p c = .endless ∨ kB e p d = .endless then sg2 e p c d * 2 ^ (e + p) + edge e p
  else if kB e p c = .nought ∨ kB e p d = .nought then sg2 e p c d * 2 ^ (e + p)
  else rdF e p (fr ((vf e p c).1 * (vf e p d).1) ((vf e p c).2 * (vf e p d).2)) w
def diS (e p : Nat) (c d : Int) (w : Wy) : Int :=
  if (kB e p c = .none ∨ kB e p d = .none) ∨ ((kB e p c = .endless ∧ kB e p d = .endless) ∨ (kB e p c = .nought ∧ kB e p d = .nought)) then nthC e p
  else if kB e p c = .endless ∨ kB e p d = .nought then sg2 e p c d * 2 ^ (e + p) + edge e p
  else if kB e p d = .endless ∨ kB e p c = .nought then sg2 e p c d * 2 ^ (e + p)
  else rdF e p (frs ((vf e p c).1 * (vf e p d).2) ((vf e p c).2 * (vf e p d).1)) w
theorem frs_pos {a b : Int} (h : b ≠ 0) : 0 < (frs a b).2 := by
  unfold frs
  split
  · rename_i h1; exact (fr_den h1).1
  · exact (fr_den (by omega)).1
theorem frs_rdc {a b : Int} (h : b ≠ 0) : Rdc (frs a b) := by
  unfold frs
  split
  · rename_i h1; exact fr_rdc h1
  · exact fr_rdc (by omega)
theorem fr_num0 {a b : Int} (hb : b ≠ 0) (h : (fr a b).1 = 0) : a = 0 := by
  have hg := gI_pos (a := a) (b := b) hb
  have hd : ((gI a b : Nat) : Int) ∣ a := Int.ofNat_dvd_left.mpr (Nat.gcd_dvd_right _ _)
  obtain ⟨t, ht⟩ := hd
  have e1 : (fr a b).1 = t := by
    show a / ((gI a b : Nat) : Int) = t
    have hg' : (0 : Int) < (gI a b : Nat) := by omega
    generalize ((gI a b : Nat) : Int) = G at ht hg' ⊢
    rw [ht, Int.mul_ediv_cancel_left _ (by omega)]
  rw [e1] at h
  rw [ht, h, Int.mul_zero]
theorem vf_ne0 {e p : Nat} (h : Fm e p) {c : Int} (hk : kB e p c ≠ .nought) : (vf e p c).1 ≠ 0 := by
  obtain ⟨f1, f2, f3, f4, f5, f6, f7⟩ := kd_facts h c
  have hp := pow_pos' p
  have hm0 : 0 ≤ c % 2 ^ p := Int.emod_nonneg _ (Int.ne_of_gt hp)
  have hb : ¬ bare e p c = 0 := fun q => hk ((kB_nought h).mpr q)
  have hm : vm e p c ≠ 0 := by
    have h0 : vm0 e p c ≠ 0 := by
      unfold vm0
      split
      · rename_i q
        intro z
        exact hb (f3.mp ⟨q, z⟩)
      · omega
    unfold vm
    split <;> omega
  unfold vf
  split
  · intro z
    rcases Int.mul_eq_zero.mp z with q | q
    · exact hm q
    · have := pow_pos' (vq e p c).toNat
      omega
  · intro z
    exact hm (fr_num0 (Int.ne_of_gt (pow_pos' _)) z)
section
variable {m : Nat} {B : List Nat} {s : S} {e p : Nat}
theorem sg_xor {C0 : C} {ρ : Ev.Env} {c d : Int} (hc : C0.call = callN tab (m + 4)) (h : Fm e p) (c0 : 0 ≤ c) (c1 : c < 2 ^ (1 + e + p)) (d0 : 0 ≤ d) (d1 : d < 2 ^ (1 + e + p)) (h0 : gv ρ 0 = fD e p) (h1 : gv ρ 1 = .int c) (h2 : gv ρ 2 = .int d) : eOp bXor (eOp bIx (eCall 6 (aCons (eVar 0) (aCons (eVar 1) aNil))) (eC (.int 0))) (eOp bIx (eCall 6 (aCons (eVar 0) (aCons (eVar 2) aNil))) (eC (.int 0))) C0 ρ s = .ok (.int (sg2 e p c d)) s := by
  rw [op_ok (sg_call (m := m) hc h c0 c1 h0 h1) (sg_call (m := m) hc h d0 d1 h0 h2)]
  show Res.ok (.int (Builtin.bitXor (sgC e p c) (sgC e p d))) s = _
  rw [xor01 (sgC_rng c0 c1).1 (sgC_rng d0 d1).1]
  rfl
theorem end_call {C0 : C} {ρ : Ev.Env} {i j : Nat} {z : Int} (hc : C0.call = callN tab (m + 2)) (h : Fm e p) (hi : gv ρ i = fD e p) (hj : gv ρ j = .int z) : eCall 11 (aCons (eVar i) (aCons (eVar j) aNil)) C0 ρ s = .ok (.int (z * 2 ^ (e + p) + edge e p)) s := by
  rw [call_ok (cons_ok (var_ok hi (by simp [fD])) (cons_ok (var_ok hj (by simp)) nil_ok)), hc, ev_endless h]
  unfold edge
  rw [← Int.add_sub_assoc]
theorem sgn_call {C0 : C} {ρ : Ev.Env} {i j : Nat} {z : Int} (hc : C0.call = callN tab (m + 2)) (h : Fm e p) (hi : gv ρ i = fD e p) (hj : gv ρ j = .int z) : eCall 17 (aCons (eVar i) (aCons (eVar j) aNil)) C0 ρ s = .ok (.int (z * 2 ^ (e + p))) s := by
  rw [call_ok (cons_ok (var_ok hi (by simp [fD])) (cons_ok (var_ok hj (by simp)) nil_ok)), hc, ev_signed h]
def kk (e p : Nat) (c d : Int) : D := .tup [.str (kS (kB e p c)), .str (kS (kB e p d))]
theorem ev_multiply (h : Fm e p) (c d : Int) (c0 : 0 ≤ c) (c1 : c < 2 ^ (1 + e + p)) (d0 : 0 ≤ d) (d1 : d < 2 ^ (1 + e + p)) (w : Wy) : callN tab (m + 9) 20 B [fD e p, .int c, .int d, .str (wS w)] s = .ok (.int (muS e p c d w)) s := by
  refine run_go (np := 4) (n := 8) (d := .int (muS e p c d w)) (s1 := s) rfl ?_ finF_same
  have hr : D.int (muS e p c d w) = if (kB e p c = .none ∨ kB e p d = .none) ∨ ((kB e p c = .endless ∨ kB e p d = .endless) ∧ (kB e p c = .nought ∨ kB e p d = .nought)) then .int (nthC e p) else if kB e p c = .endless ∨ kB e p d = .endless then .int (sg2 e p c d * 2 ^ (e + p) + edge e p) else if kB e p c = .nought ∨ kB e p d = .nought then .int (sg2 e p c d * 2 ^ (e + p)) else .int (rdF e p (fr ((vf e p c).1 * (vf e p d).1) ((vf e p c).2 * (vf e p d).2)) w) := by
    unfold muS
    split
    · rfl
    · split
      · rfl
      · split <;> rfl
  rw [hr]
  dsimp only [c_multiply]
  walk_at "st"
  have K1 : ∀ {a4 a5 a6 a7 : D} {B}, eCall 7 (aCons (eVar 0) (aCons (eVar 1) aNil)) ⟨callN tab (m + 8), B⟩ [fD e p, .int c, .int d, .str (wS w), a4, a5, a6, a7] s = .ok (.str (kS (kB e p c))) s := fun {a4 a5 a6 a7 B} => kcall (m := m + 3) rfl h c0 c1 rfl rfl
  have K2 : ∀ {a4 a5 a6 a7 : D} {B}, eCall 7 (aCons (eVar 0) (aCons (eVar 2) aNil)) ⟨callN tab (m + 8), B⟩ [fD e p, .int c, .int d, .str (wS w), a4, a5, a6, a7] s = .ok (.str (kS (kB e p d))) s := fun {a4 a5 a6 a7 B} => kcall (m := m + 3) rfl h d0 d1 rfl rfl
  refine seq_go (expr_ok (cc_call (m := m + 5) rfl h c0 c1 rfl rfl)) (seq_go (expr_ok (cc_call (m := m + 5) rfl h d0 d1 rfl rfl)) (seq_go (guard_nx (wIn w rfl)) ?_))
  refine seq_go (ρ1 := [fD e p, .int c, .int d, .str (wS w), kk e p c d, .und, .und, .und]) (s1 := s) (set_ok (tup_ok (cons_ok K1 (cons_ok K2 nil_ok)) (by simp))) ?_
  refine seq_go (ρ1 := [fD e p, .int c, .int d, .str (wS w), kk e p c d, .int (sg2 e p c d), .und, .und]) (s1 := s) (set_ok (sg_xor (m := m + 4) rfl h c0 c1 d0 d1 rfl rfl rfl)) ?_
  have N0 : ∀ {B}, eOp cIn (eC (.str "none")) (eVar 4) ⟨callN tab (m + 8), B⟩ [fD e p, .int c, .int d, .str (wS w), kk e p c d, .int (sg2 e p c d), .und, .und] s = .ok (.bl (decide (kB e p c = .none ∨ kB e p d = .none))) s := fun {B} => (op_ok (x := .str "none") (y := kk e p c d) (s1 := s) (s2 := s) rfl rfl).trans (k_in0 _ _)
  have NE : ∀ {B}, eOp cIn (eC (.str "endless")) (eVar 4) ⟨callN tab (m + 8), B⟩ [fD e p, .int c, .int d, .str (wS w), kk e p c d, .int (sg2 e p c d), .und, .und] s = .ok (.bl (decide (kB e p c = .endless ∨ kB e p d = .endless))) s := fun {B} => (op_ok (x := .str "endless") (y := kk e p c d) (s1 := s) (s2 := s) rfl rfl).trans (k_inE _ _)
  have NN : ∀ {B}, eOp cIn (eC (.str "nought")) (eVar 4) ⟨callN tab (m + 8), B⟩ [fD e p, .int c, .int d, .str (wS w), kk e p c d, .int (sg2 e p c d), .und, .und] s = .ok (.bl (decide (kB e p c = .nought ∨ kB e p d = .nought))) s := fun {B} => (op_ok (x := .str "nought") (y := kk e p c d) (s1 := s) (s2 := s) rfl rfl).trans (k_inN _ _)
  refine ife_rt (or_b N0 (and_b NE NN)) (fun _ => seq_rt (ret_ok (nth_call (m := m + 6) rfl h rfl))) (fun hn => ?_)
  refine ife_rt NE (fun _ => seq_rt (ret_ok (end_call (m := m + 6) rfl h rfl rfl))) (fun he => ?_)
  refine ife_rt NN (fun _ => seq_rt (ret_ok (sgn_call (m := m + 6) rfl h rfl rfl))) (fun hz => ?_)
  have hE1 := xE_of h (fun q => hn (.inl (.inl q))) (fun q => he (.inl q))
  have hE2 := xE_of h (fun q => hn (.inl (.inr q))) (fun q => he (.inr q))
  have hv1 := vf_rng h c
  have hv2 := vf_rng h d
  have hd2 := den2 h c d
  refine seq_go (ρ1 := [fD e p, .int c, .int d, .str (wS w), kk e p c d, .int (sg2 e p c d), fD2 (vf e p c), fD2 (vf e p d)]) (s1 := s) (par2_ok (vsome_call (m := m + 2) rfl h c0 c1 hE1 rfl rfl) (vsome_call (m := m + 2) rfl h d0 d1 hE2 rfl rfl)) (seq_rt (ret_ok (rd_call (m := m) rfl h (fr_den hd2.1).1 rfl ?_ rfl)))
  rw [call_ok (cons_ok (mul_r (X_0 rfl) (X_0 rfl) (sm hv2.2.1 hv2.2.2)) (cons_ok (mul_r (X_1 rfl) (X_1 rfl) (sm2 hv2.1.1 hv2.1.2)) nil_ok))]
  dsimp only
  rw [ev_reduced _ _ hd2.1 hd2.2]
theorem den3 (h : Fm e p) (c d : Int) (hk : kB e p d ≠ .nought) : (vf e p c).2 * (vf e p d).1 ≠ 0 ∧ ((vf e p c).2 * (vf e p d).1).natAbs < 2 ^ 200 := by
  have h1 := vf_rng h c
  have h2 := vf_rng h d
  have h3 := vf_ne0 h hk
  refine ⟨fun z => ?_, ?_⟩
  · rcases Int.mul_eq_zero.mp z with q | q
    · omega
    · exact h3 q
  · rw [Int.natAbs_mul]
    have : (vf e p c).2.natAbs * (vf e p d).1.natAbs ≤ 1048576 * 33554432 := Nat.mul_le_mul (by omega) (by omega)
    exact Nat.lt_of_le_of_lt this (by decide)
theorem ev_divide (h : Fm e p) (c d : Int) (c0 : 0 ≤ c) (c1 : c < 2 ^ (1 + e + p)) (d0 : 0 ≤ d) (d1 : d < 2 ^ (1 + e + p)) (w : Wy) : callN tab (m + 9) 21 B [fD e p, .int c, .int d, .str (wS w)] s = .ok (.int (diS e p c d w)) s := by
  refine run_go (np := 4) (n := 10) (d := .int (diS e p c d w)) (s1 := s) rfl ?_ finF_same
  have hr : D.int (diS e p c d w) = if (kB e p c = .none ∨ kB e p d = .none) ∨ ((kB e p c = .endless ∧ kB e p d = .endless) ∨ (kB e p c = .nought ∧ kB e p d = .nought)) then .int (nthC e p) else if kB e p c = .endless ∨ kB e p d = .nought then .int (sg2 e p c d * 2 ^ (e + p) + edge e p) else if kB e p d = .endless ∨ kB e p c = .nought then .int (sg2 e p c d * 2 ^ (e + p)) else .int (rdF e p (frs ((vf e p c).1 * (vf e p d).2) ((vf e p c).2 * (vf e p d).1)) w) := by
    unfold diS
    split
    · rfl
    · split
      · rfl
      · split <;> rfl
  rw [hr]
  dsimp only [c_divide]
  walk_at "st"
  have K1 : ∀ {a4 a5 a6 a7 a8 a9 : D} {B}, eCall 7 (aCons (eVar 0) (aCons (eVar 1) aNil)) ⟨callN tab (m + 8), B⟩ [fD e p, .int c, .int d, .str (wS w), a4, a5, a6, a7, a8, a9] s = .ok (.str (kS (kB e p c))) s := fun {a4 a5 a6 a7 a8 a9 B} => kcall (m := m + 3) rfl h c0 c1 rfl rfl
  have K2 : ∀ {a4 a5 a6 a7 a8 a9 : D} {B}, eCall 7 (aCons (eVar 0) (aCons (eVar 2) aNil)) ⟨callN tab (m + 8), B⟩ [fD e p, .int c, .int d, .str (wS w), a4, a5, a6, a7, a8, a9] s = .ok (.str (kS (kB e p d))) s := fun {a4 a5 a6 a7 a8 a9 B} => kcall (m := m + 3) rfl h d0 d1 rfl rfl
  refine seq_go (expr_ok (cc_call (m := m + 5) rfl h c0 c1 rfl rfl)) (seq_go (expr_ok (cc_call (m := m + 5) rfl h d0 d1 rfl rfl)) (seq_go (guard_nx (wIn w rfl)) ?_))
  refine seq_go (ρ1 := [fD e p, .int c, .int d, .str (wS w), kk e p c d, .und, .und, .und, .und, .und]) (s1 := s) (set_ok (tup_ok (cons_ok K1 (cons_ok K2 nil_ok)) (by simp))) ?_
  refine seq_go (ρ1 := [fD e p, .int c, .int d, .str (wS w), kk e p c d, .int (sg2 e p c d), .und, .und, .und, .und]) (s1 := s) (set_ok (sg_xor (m := m + 4) rfl h c0 c1 d0 d1 rfl rfl rfl)) ?_
  have N0 : ∀ {B}, eOp cIn (eC (.str "none")) (eVar 4) ⟨callN tab (m + 8), B⟩ [fD e p, .int c, .int d, .str (wS w), kk e p c d, .int (sg2 e p c d), .und, .und, .und, .und] s = .ok (.bl (decide (kB e p c = .none ∨ kB e p d = .none))) s := fun {B} => (op_ok (x := .str "none") (y := kk e p c d) (s1 := s) (s2 := s) rfl rfl).trans (k_in0 _ _)
  have N2 : ∀ {B}, eOp cIn (eVar 4) (eTup (aCons (eTup (aCons (eC (.str "endless")) (aCons (eC (.str "endless")) aNil))) (aCons (eTup (aCons (eC (.str "nought")) (aCons (eC (.str "nought")) aNil))) aNil))) ⟨callN tab (m + 8), B⟩ [fD e p, .int c, .int d, .str (wS w), kk e p c d, .int (sg2 e p c d), .und, .und, .und, .und] s = .ok (.bl (decide ((kB e p c = .endless ∧ kB e p d = .endless) ∨ (kB e p c = .nought ∧ kB e p d = .nought)))) s := fun {B} => (op_ok (x := kk e p c d) (y := .tup [.tup [.str "endless", .str "endless"], .tup [.str "nought", .str "nought"]]) (s1 := s) (s2 := s) rfl (tup_ok (cons_ok (tup_ok (cons_ok rfl (cons_ok rfl nil_ok)) (by simp)) (cons_ok (tup_ok (cons_ok rfl (cons_ok rfl nil_ok)) (by simp)) nil_ok)) (by simp))).trans (k_in2 _ _)
  have k0 : ∀ {B}, eOp bIx (eVar 4) (eC (.int 0)) ⟨callN tab (m + 8), B⟩ [fD e p, .int c, .int d, .str (wS w), kk e p c d, .int (sg2 e p c d), .und, .und, .und, .und] s = .ok (.str (kS (kB e p c))) s := fun {B} => (op_ok (x := kk e p c d) (y := .int 0) (s1 := s) (s2 := s) rfl rfl).trans rfl
  have k1 : ∀ {B}, eOp bIx (eVar 4) (eC (.int 1)) ⟨callN tab (m + 8), B⟩ [fD e p, .int c, .int d, .str (wS w), kk e p c d, .int (sg2 e p c d), .und, .und, .und, .und] s = .ok (.str (kS (kB e p d))) s := fun {B} => (op_ok (x := kk e p c d) (y := .int 1) (s1 := s) (s2 := s) rfl rfl).trans rfl
  refine ife_rt (or_b N0 N2) (fun _ => seq_rt (ret_ok (nth_call (m := m + 6) rfl h rfl))) (fun hn => ?_)
  refine ife_rt (or_b ((op_ok k0 rfl).trans (k_eqE _)) ((op_ok k1 rfl).trans (k_eqN _))) (fun _ => seq_rt (ret_ok (end_call (m := m + 6) rfl h rfl rfl))) (fun he => ?_)
  refine ife_rt (or_b ((op_ok k1 rfl).trans (k_eqE _)) ((op_ok k0 rfl).trans (k_eqN _))) (fun _ => seq_rt (ret_ok (sgn_call (m := m + 6) rfl h rfl rfl))) (fun hz => ?_)
  have hE1 := xE_of h (fun q => hn (.inl (.inl q))) (fun q => he (.inl q))
  have hE2 := xE_of h (fun q => hn (.inl (.inr q))) (fun q => hz (.inl q))
  have hv1 := vf_rng h c
  have hv2 := vf_rng h d
  have hd3 := den3 h c d (fun q => he (.inr q))
  obtain ⟨T, hT⟩ : ∃ T, T = (vf e p c).1 * (vf e p d).2 := ⟨_, rfl⟩
  obtain ⟨W, hW⟩ : ∃ W, W = (vf e p c).2 * (vf e p d).1 := ⟨_, rfl⟩
  rw [← hW] at hd3
  rw [← hT, ← hW]
  refine seq_go (ρ1 := [fD e p, .int c, .int d, .str (wS w), kk e p c d, .int (sg2 e p c d), fD2 (vf e p c), fD2 (vf e p d), .und, .und]) (s1 := s) (par2_ok (vsome_call (m := m + 2) rfl h c0 c1 hE1 rfl rfl) (vsome_call (m := m + 2) rfl h d0 d1 hE2 rfl rfl)) ?_
  refine seq_go (ρ1 := [fD e p, .int c, .int d, .str (wS w), kk e p c d, .int (sg2 e p c d), fD2 (vf e p c), fD2 (vf e p d), .int T, .int W]) (s1 := s) (by rw [hT, hW]; exact par2_ok (mul_r (X_0 rfl) (X_1 rfl) (sm2 hv2.1.1 hv2.1.2)) (mul_l (X_1 rfl) (X_0 rfl) (sm2 hv1.1.1 hv1.1.2))) (seq_rt (ret_ok (rd_call (m := m) rfl h (frs_pos hd3.1) rfl ?_ rfl)))
  have hlt : eOp cLt (eVar 9) (eC (.int 0)) ⟨callN tab (m + 8), s.length :: B⟩ [fD e p, .int c, .int d, .str (wS w), kk e p c d, .int (sg2 e p c d), fD2 (vf e p c), fD2 (vf e p d), .int T, .int W] s = .ok (.bl (decide (W < 0))) s := rfl
  by_cases hw : W < 0
  · refine (eif_t (hlt.trans (by rw [decide_eq_true hw]))).trans ?_
    rw [call_ok (cons_ok (x := .int (0 - T)) rfl (cons_ok (x := .int (0 - W)) rfl nil_ok))]
    dsimp only
    rw [ev_reduced _ _ (by omega) (by omega)]
    unfold frs
    rw [if_neg (by omega), Int.zero_sub, Int.zero_sub]
  · refine (eif_f (hlt.trans (by rw [decide_eq_false hw]))).trans ?_
    rw [call_ok (cons_ok (x := .int T) rfl (cons_ok (x := .int W) rfl nil_ok))]
    dsimp only
    rw [ev_reduced _ _ (by omega) hd3.2]
    unfold frs
    rw [if_pos (by omega)]
end
end KL

set_option maxRecDepth 100000
namespace KL
open PySem Ev
local macro_rules | `(tactic| walk_at "st") => `(tactic| dsimp only [start0, List.length_cons, List.length_nil, List.replicate, List.cons_append, List.nil_append, Nat.reduceSub, Nat.reduceAdd])
local macro_rules | `(tactic| walk_at "ev") => `(tactic| simp (disch := omega) only [sSeq, sSet, sExpr, sRet, sRetN, sIf, sBrk, sCnt, sRaise, sNil, sAsg, sAug, sPar2, sFor, tName, tTup, tsCons, tsNil, tSub, eVar, eC, eOp, eUn, aNil, aCons, eTup, eLst, eCall, eBlt, gcF, gcE, eNot, eAnd, eOr, eIf, eChain, eTold, eMt, eSl, withPart, iR1, iR2, iR3, iSeq, Ev.iEnum, Res.bnd, Res.bndS, Res.bndA, Res.bndI, Rss.bnd, Rss.bndA, Rss.bndS, Rss.bndI, Itm.bnd, Itm.bndS, Out.bnd, Res.tst, Res.tstS, Res.tstA, gv, sv, tru, al, toRes, C.psh, endG, gOk, bAdd, bSub, uNeg, cLt, cLe, cGt, cGe, iAdd, lenD, intD, absD, if_true, if_false, Bool.false_eq_true, ite_true, ite_false, decide_true, decide_false, Bool.not_true, Bool.not_false, Bool.and_true, Bool.and_false, Bool.true_and, Bool.false_and, Int.zero_sub, and_true, true_and, and_false, false_and, not_true_eq_false, not_false_eq_true, finF_same, fin_same', cEq_int, cNe_int, decide_eq_true_eq, Bool.not_eq_true', decide_eq_false_iff_not, ite_not])
local macro_rules | `(tactic| walk_at "ew") => `(tactic| repeat (first | walk_at "ev" | (simp (disch := omega) only [ev_power_of, ev_check, ev_check_code, ev_meaning, ev_code_of, ev_widened, div_pow, mod_pow])))
theorem cEq_l2 {s : S} {a b : Nat} {x1 x2 y1 y2 : Int} (h1 : lstOf s a = some [.int x1, .int x2]) (h2 : lstOf s b = some [.int y1, .int y2]) : cEq (.ref a) (.ref b) s = .ok (.bl (decide (x1 = y1 ∧ x2 = y2))) s := by
  have t1 : toP 40 s (.ref a) = some (.list [.int x1, .int x2]) := by
    simp only [toP, h1]
    rfl
  have t2 : toP 40 s (.ref b) = some (.list [.int y1, .int y2]) := by
    simp only [toP, h2]
    rfl
  have hs : ∀ p q : Int, SeqAt.shaped (.list [.int p, .int q]) = true := fun p q => rfl
  unfold cEq eqD
  rw [if_neg (by simp [D.shp]), t1, t2]
  simp only [hs, Bool.and_self, if_true, ofB]
  congr 2
  simp [PyData.eqv, PyData.eqvAll, BEq.beq]
theorem cIn_l2 {s : S} {a : Nat} {x1 x2 y : Int} (h1 : lstOf s a = some [.int x1, .int x2]) : cIn (.int y) (.ref a) s = .ok (.bl (decide (x1 = y ∨ x2 = y))) s := by
  unfold cIn inD
  simp only [h1]
  show ofB (some ((x1 == y) || ((x2 == y) || false))) s = _
  unfold ofB
  dsimp only
  congr 2
  rw [Bool.or_false, Bool.decide_or]
  rfl
theorem cIn_ll {s : S} {a b c : Nat} {x1 x2 y1 y2 z1 z2 : Int} (h1 : lstOf s a = some [.int x1, .int x2]) (h2 : lstOf s b = some [.int y1, .int y2]) (h3 : lstOf s c = some [.int z1, .int z2]) : cIn (.ref a) (.tup [.ref b, .ref c]) s = .ok (.bl (decide ((y1 = x1 ∧ y2 = x2) ∨ (z1 = x1 ∧ z2 = x2)))) s := by
  have t1 : toP 40 s (.ref a) = some (.list [.int x1, .int x2]) := by
    simp only [toP, h1]
    rfl
  have t2 : toP 40 s (.tup [.ref b, .ref c]) = some (.tuple [.list [.int y1, .int y2], .list [.int z1, .int z2]]) := by
    simp only [toP, List.mapM_cons, List.mapM_nil, h2, h3]
    rfl
  have hs : ∀ p q : Int, SeqAt.shaped (.list [.int p, .int q]) = true := fun p q => rfl
  have hs2 : SeqAt.shaped (.tuple [.list [.int y1, .int y2], .list [.int z1, .int z2]]) = true := rfl
  unfold cIn inD
  dsimp only
  rw [if_neg (by simp [D.shp])]
  unfold inP
  rw [t1, t2]
  simp only [hs, hs2, Bool.and_self, if_true, ofB]
  congr 2
  simp [PyData.eqv, PyData.eqvAll, BEq.beq]
abbrev mS0 : SS := (sSet 5 (eCall 29 (aCons (eOp bAdd (eOp bIx (eVar 0) (eC (.int 0))) (eOp bIx (eVar 0) (eC (.int 1)))) aNil)))
abbrev mS1 : SS := (sSet 6 (eOp bSub (eVar 5) (eCall 29 (aCons (eOp bIx (eVar 0) (eC (.int 1))) aNil))))
abbrev mS2 : SS := (sSet 7 (eComp (iSeq (eTup (aCons (eVar 2) (aCons (eVar 3) aNil)))) [13] (tName 13) none (eOp bMod (eBlt intD (aCons (eVar 13) aNil)) (eVar 5))))
abbrev mS3 : SS := (sSet 8 (eComp (iSeq (eTup (aCons (eVar 2) (aCons (eVar 3) aNil)))) [13] (tName 13) none (eOp bDiv (eVar 13) (eVar 5))))
abbrev mS4 : SS := (sIf (eOp cGt (eBlt maxD (aCons (eVar 7) aNil)) (eVar 6)) (sSeq (sRet (eCall 34 (aCons (eVar 0) aNil))) sNil) sNil)
abbrev mS5 : SS := (sSet 9 (eBlt intD (aCons (eOp cNe (eOp bIx (eVar 8) (eC (.int 0))) (eOp bIx (eVar 8) (eC (.int 1)))) aNil)))
abbrev mS6 : SS := (sIf (eOp cEq (eVar 1) (eC (.str "add"))) (sSeq (sIf (eOp cEq (eVar 7) (eLst (aCons (eVar 6) (aCons (eVar 6) aNil)))) (sSeq (sRet (eIf (eOp cEq (eVar 9) (eC (.int 1))) (eCall 34 (aCons (eVar 0) aNil)) (eVar 2))) sNil) sNil) (sSeq (sIf (eOp cIn (eVar 6) (eVar 7)) (sSeq (sRet (eIf (eOp cEq (eOp bIx (eVar 7) (eC (.int 0))) (eVar 6)) (eVar 2) (eVar 3))) sNil) sNil) (sSeq (sSet 10 (eCall 31 (aCons (eVar 0) (aCons (eVar 2) aNil)))) (sSeq (sSet 11 (eCall 31 (aCons (eVar 0) (aCons (eVar 3) aNil)))) (sSeq (sSet 12 (eOp bAdd (eOp bMul (eOp bIx (eVar 10) (eC (.int 0))) (eOp bIx (eVar 11) (eC (.int 1)))) (eOp bMul (eOp bIx (eVar 11) (eC (.int 0))) (eOp bIx (eVar 10) (eC (.int 1)))))) (sSeq (sIf (eOp cEq (eVar 12) (eC (.int 0))) (sSeq (sRet (eOp bMul (eVar 5) (eIf (eOp cEq (eVar 9) (eC (.int 0))) (eOp bIx (eVar 8) (eC (.int 0))) (eBlt intD (aCons (eOp cEq (eVar 4) (eC (.str "down"))) aNil))))) sNil) sNil) (sSeq (sRet (eCall 33 (aCons (eVar 0) (aCons (eCall 30 (aCons (eVar 12) (aCons (eOp bMul (eOp bIx (eVar 10) (eC (.int 1))) (eOp bIx (eVar 11) (eC (.int 1)))) aNil))) (aCons (eVar 4) aNil))))) sNil))))))) sNil)
abbrev mS7 : SS := (sIf (eOp cEq (eVar 1) (eC (.str "multiply"))) (sSeq (sIf (eOp cIn (eVar 6) (eVar 7)) (sSeq (sRet (eIf (eOp cIn (eC (.int 0)) (eVar 7)) (eCall 34 (aCons (eVar 0) aNil)) (eOp bAdd (eOp bMul (eVar 5) (eVar 9)) (eVar 6)))) sNil) sNil) (sSeq (sIf (eOp cIn (eC (.int 0)) (eVar 7)) (sSeq (sRet (eOp bMul (eVar 5) (eVar 9))) sNil) sNil) (sSeq (sSet 10 (eCall 31 (aCons (eVar 0) (aCons (eVar 2) aNil)))) (sSeq (sSet 11 (eCall 31 (aCons (eVar 0) (aCons (eVar 3) aNil)))) (sSeq (sRet (eCall 33 (aCons (eVar 0) (aCons (eCall 30 (aCons (eOp bMul (eOp bIx (eVar 10) (eC (.int 0))) (eOp bIx (eVar 11) (eC (.int 0)))) (aCons (eOp bMul (eOp bIx (eVar 10) (eC (.int 1))) (eOp bIx (eVar 11) (eC (.int 1)))) aNil))) (aCons (eVar 4) aNil))))) sNil))))) sNil)
abbrev mS8 : SS := (sIf (eOp cIn (eVar 7) (eTup (aCons (eLst (aCons (eVar 6) (aCons (eVar 6) aNil))) (aCons (eLst (aCons (eC (.int 0)) (aCons (eC (.int 0)) aNil))) aNil)))) (sSeq (sRet (eCall 34 (aCons (eVar 0) aNil))) sNil) sNil)
abbrev mS9 : SS := (sIf (eOr (eOp cEq (eOp bIx (eVar 7) (eC (.int 0))) (eVar 6)) (eOp cEq (eOp bIx (eVar 7) (eC (.int 1))) (eC (.int 0)))) (sSeq (sRet (eOp bAdd (eOp bMul (eVar 5) (eVar 9)) (eVar 6))) sNil) sNil)
abbrev mS10 : SS := (sIf (eOr (eOp cEq (eOp bIx (eVar 7) (eC (.int 1))) (eVar 6)) (eOp cEq (eOp bIx (eVar 7) (eC (.int 0))) (eC (.int 0)))) (sSeq (sRet (eOp bMul (eVar 5) (eVar 9))) sNil) sNil)
abbrev mS11 : SS := (sSet 10 (eCall 31 (aCons (eVar 0) (aCons (eVar 2) aNil))))
abbrev mS12 : SS := (sSet 11 (eCall 31 (aCons (eVar 0) (aCons (eVar 3) aNil))))
abbrev mS13 : SS := (sRet (eCall 33 (aCons (eVar 0) (aCons (eCall 30 (aCons (eOp bMul (eOp bIx (eVar 10) (eC (.int 0))) (eOp bIx (eVar 11) (eC (.int 1)))) (aCons (eOp bMul (eOp bIx (eVar 10) (eC (.int 1))) (eOp bIx (eVar 11) (eC (.int 0)))) aNil))) (aCons (eVar 4) aNil)))))
theorem ife_rt2 {C0 : C} {ρ : Ev.Env} {s s1 s2 : S} {t : ES} {a rest : SS} {q : Prop} [Decidable q] {x y : D} (ht : t C0 ρ s = .ok (.bl (decide q)) s1) (ha : q → a C0 ρ s1 = .rt x s2) (hb : ¬ q → rest C0 ρ s1 = .rt y s2) : sSeq (sIf t a sNil) rest C0 ρ s = .rt (if q then x else y) s2 := by
  by_cases h : q
  · rw [if_pos h]
    exact seq_rt ((if_t (ht.trans (by rw [decide_eq_true h])) rfl).trans (ha h))
  · rw [if_neg h]
    exact (seq_nx ((if_f (ht.trans (by rw [decide_eq_false h])) rfl).trans rfl)).trans (hb h)
/-- the ways of making -/
inductive Op3 where
  | add | mul | div
instance : DecidableEq Op3 := fun a b => by cases a <;> cases b <;> first | exact isTrue rfl | exact isFalse (by intro h; cases h)
def oS : Op3 → Str
  | .add => "add"
  | .mul => "multiply"
  | .div => "divide"
theorem o_add (o : Op3) {s : S} : cEq (.str (oS o)) (.str "add") s = .ok (.bl (decide (o = .add))) s := by cases o <;> kernel_rfl
theorem o_mul (o : Op3) {s : S} : cEq (.str (oS o)) (.str "multiply") s = .ok (.bl (decide (o = .mul))) s := by cases o <;> kernel_rfl
def mdS (o : Op3) (e p : Nat) (c d : Int) (w : Wy) : Int := match o with
  | .add => adS e p c d w
  | .mul => muS e p c d w
  | .div => diS e p c d w
section
variable {m : Nat} {B : List Nat} {s : S} {e p : Nat}
theorem al2 {C0 : C} {ρ : Ev.Env} {a b : ES} {x y : Int} (ha : a C0 ρ s = .ok (.int x) s) (hb : b C0 ρ s = .ok (.int y) s) : eLst (aCons a (aCons b aNil)) C0 ρ s = .ok (.ref s.length) (s ++ [.lst [.int x, .int y]]) := by
  unfold eLst
  rw [cons_ok ha (cons_ok hb nil_ok)]
  simp only [Rss.bnd, List.length_cons, List.length_nil]
  rw [if_pos (by unfold lim; decide)]
  rfl
def modD (z : Int) : D → D
  | .int x => .int (x % z)
  | d => d
def divD (z : Int) : D → D
  | .int x => .int (x / z)
  | d => d
theorem sg2_eq (e p : Nat) (c d : Int) : sg2 e p c d = 1 ↔ sgC e p c ≠ sgC e p d := by
  unfold sg2
  split <;> simp [*]
end
end KL

set_option maxRecDepth 100000
namespace KL
open PySem Ev
local macro_rules | `(tactic| walk_at "st") => `(tactic| dsimp only [start0, List.length_cons, List.length_nil, List.replicate, List.cons_append, List.nil_append, Nat.reduceSub, Nat.reduceAdd])
local macro_rules | `(tactic| walk_at "ev") => `(tactic| simp (disch := omega) only [sSeq, sSet, sExpr, sRet, sRetN, sIf, sBrk, sCnt, sRaise, sNil, sAsg, sAug, sPar2, sFor, tName, tTup, tsCons, tsNil, tSub, eVar, eC, eOp, eUn, aNil, aCons, eTup, eLst, eCall, eBlt, gcF, gcE, eNot, eAnd, eOr, eIf, eChain, eTold, eMt, eSl, withPart, iR1, iR2, iR3, iSeq, Ev.iEnum, Res.bnd, Res.bndS, Res.bndA, Res.bndI, Rss.bnd, Rss.bndA, Rss.bndS, Rss.bndI, Itm.bnd, Itm.bndS, Out.bnd, Res.tst, Res.tstS, Res.tstA, gv, sv, tru, al, toRes, C.psh, endG, gOk, bAdd, bSub, uNeg, cLt, cLe, cGt, cGe, iAdd, lenD, intD, absD, if_true, if_false, Bool.false_eq_true, ite_true, ite_false, decide_true, decide_false, Bool.not_true, Bool.not_false, Bool.and_true, Bool.and_false, Bool.true_and, Bool.false_and, Int.zero_sub, and_true, true_and, and_false, false_and, not_true_eq_false, not_false_eq_true, finF_same, fin_same', cEq_int, cNe_int, decide_eq_true_eq, Bool.not_eq_true', decide_eq_false_iff_not, ite_not])
local macro_rules | `(tactic| walk_at "ew") => `(tactic| repeat (first | walk_at "ev" | (simp (disch := omega) only [ev_power_of, ev_check, ev_check_code, ev_meaning, ev_code_of, ev_widened, div_pow, mod_pow])))
def plc (e p : Nat) (c : Int) : Int := if c ≥ 2 ^ (e + p) then 2 ^ (e + p) - c else c
def lsS (e p : Nat) (c d : Int) : Prop := ¬ (kB e p c = .none ∨ kB e p d = .none) ∧ plc e p c < plc e p d
instance (e p : Nat) (c d : Int) : Decidable (lsS e p c d) := by unfold lsS; infer_instance
def nuS (e p : Nat) (c : Int) : Option Int := if kB e p c = .none ∨ c = edge e p then none else if c = 0 ∨ c = 2 ^ (e + p) then some 1 else if c > 2 ^ (e + p) then some (c - 1) else some (c + 1)
def oD : Option Int → D
  | none => .non
  | some z => .int z
theorem H2 (e p : Nat) : (2 : Int) ^ (1 + e + p) = 2 * 2 ^ (e + p) := by rw [show 1 + e + p = (e + p) + 1 by omega, Int.pow_succ, Int.mul_comm]
theorem edge_lt {e p : Nat} (h : Fm e p) : edge e p < 2 ^ (e + p) := by
  have := pow_pos' p
  unfold edge
  omega
theorem rd_rng {e p : Nat} (h : Fm e p) {a y : Int} (w : Wy) : 0 ≤ rd e p a y w ∧ rd e p a y w < 2 ^ (1 + e + p) := by
  obtain ⟨⟨l0, l1⟩, _⟩ := Low_spec (x := (a.natAbs : Int)) (y := y) h (by omega)
  have hl := edge_lt h
  have hp := pow_pos' (e + p)
  have hs : sgI a = 0 ∨ sgI a = 1 := by unfold sgI; split <;> simp
  rw [H2]
  unfold rd
  rcases hs with hs | hs <;> rw [hs] <;> split <;> (try split) <;> omega
theorem nth_rng {e p : Nat} (h : Fm e p) : 0 ≤ nthC e p ∧ nthC e p < 2 ^ (1 + e + p) := by
  have hl := edge_pos h
  have hp := pow_pos' (p - 1)
  have h2 : (2 : Int) ^ (p - 1) * 2 = 2 ^ p := by
    have := h.p1
    have e1 : p = (p - 1) + 1 := by omega
    conv => rhs; rw [e1, Int.pow_succ]
  have hq := pow_pos' (e + p)
  have e1 : nthC e p = edge e p + 2 ^ (p - 1) := rfl
  rw [H2, e1]
  unfold edge at *
  omega
theorem adS_rng {e p : Nat} (h : Fm e p) {c d : Int} (c0 : 0 ≤ c) (c1 : c < 2 ^ (1 + e + p)) (d0 : 0 ≤ d) (d1 : d < 2 ^ (1 + e + p)) (w : Wy) : 0 ≤ adS e p c d w ∧ adS e p c d w < 2 ^ (1 + e + p) := by
  have hn := nth_rng h
  have hp := pow_pos' (e + p)
  have hs := (sgC_rng c0 c1).1
  have hr : ∀ q : Int × Int, 0 ≤ rdF e p q w ∧ rdF e p q w < 2 ^ (1 + e + p) := fun q => rd_rng h w
  unfold adS
  split
  · exact hn
  · split
    · split
      · exact hn
      · split
        · exact ⟨c0, c1⟩
        · exact ⟨d0, d1⟩
    · split
      · rw [H2]
        split
        · rcases hs with hs | hs <;> rw [hs] <;> omega
        · split <;> omega
      · exact hr _
theorem vD_non {e p : Nat} {c : Int} : vl e p c = none ↔ xE e p c = 2 ^ e - 1 := by
  unfold vl
  split <;> simp [*]
section
variable {m : Nat} {B : List Nat} {s : S} {e p : Nat}
theorem ev_less (h : Fm e p) (c d : Int) (c0 : 0 ≤ c) (c1 : c < 2 ^ (1 + e + p)) (d0 : 0 ≤ d) (d1 : d < 2 ^ (1 + e + p)) : callN tab (m + 6) 22 B [fD e p, .int c, .int d] s = .ok (.bl (decide (lsS e p c d))) s := by
  have hr : D.bl (decide (lsS e p c d)) = if kB e p c = .none ∨ kB e p d = .none then .bl false else .bl (decide (plc e p c < plc e p d)) := by
    by_cases q : kB e p c = .none ∨ kB e p d = .none
    · rw [if_pos q, decide_eq_false (fun z : lsS e p c d => z.1 q)]
    · rw [if_neg q]
      congr 1
      exact decide_eq_decide.mpr ⟨fun z => z.2, fun z => ⟨q, z⟩⟩
  refine run_go (np := 3) (n := 3) (d := .bl (decide (lsS e p c d))) (s1 := s) rfl ?_ finF_same
  rw [hr]
  dsimp only [c_less]
  walk_at "st"
  refine seq_go (expr_ok (cc_call (m := m + 2) rfl h c0 c1 rfl rfl)) (seq_go (expr_ok (cc_call (m := m + 2) rfl h d0 d1 rfl rfl)) ?_)
  refine ife_rt ?_ (fun _ => rfl) (fun _ => seq_rt (ret_ok (lt_e ?_ ?_)))
  · exact (op_ok (x := .str "none") (y := .tup [.str (kS (kB e p c)), .str (kS (kB e p d))]) rfl (tup_ok (cons_ok (kcall (m := m) rfl h c0 c1 rfl rfl) (cons_ok (kcall (m := m) rfl h d0 d1 rfl rfl) nil_ok)) (by simp))).trans (k_in0 _ _)
  · rw [call_ok (cons_ok (x := fD e p) rfl (cons_ok (x := .int c) rfl nil_ok))]
    dsimp only
    rw [ev_place_of h]
    rfl
  · rw [call_ok (cons_ok (x := fD e p) rfl (cons_ok (x := .int d) rfl nil_ok))]
    dsimp only
    rw [ev_place_of h]
    rfl
theorem ev_next_up (h : Fm e p) (c : Int) (c0 : 0 ≤ c) (c1 : c < 2 ^ (1 + e + p)) : callN tab (m + 6) 24 B [fD e p, .int c] s = .ok (oD (nuS e p c)) s := by
  have he4 := h.e4
  have hp4 := h.p4
  have hr : oD (nuS e p c) = if kB e p c = .none ∨ c = edge e p then .non else if c = 0 ∨ c = 2 ^ (e + p) then .int 1 else if c > 2 ^ (e + p) then .int (c - 1) else .int (c + 1) := by
    unfold nuS
    split
    · rfl
    · split
      · rfl
      · split <;> rfl
  refine run_go (np := 2) (n := 3) (d := oD (nuS e p c)) (s1 := s) rfl ?_ finF_same
  rw [hr]
  dsimp only [c_next_up]
  walk_at "st"
  refine ife_rt (or_b ((op_ok (kcall (m := m) rfl h c0 c1 rfl rfl) rfl).trans (k_eq0 _)) (eq_e rfl ?_)) (fun _ => rfl) (fun _ => ?_)
  · rw [call_ok (cons_ok (x := fD e p) rfl (cons_ok (x := .int 0) rfl nil_ok))]
    dsimp only
    rw [ev_endless h]
    unfold edge
    congr 2
    omega
  refine seq_go (ρ1 := [fD e p, .int c, .int (2 ^ (e + p))]) (s1 := s) (set_ok (P_ep pwf1 h rfl)) ?_
  refine ife_rt (q := c = 0 ∨ c = 2 ^ (e + p)) ?_ (fun _ => rfl) (fun _ => seq_rt (ret_ok (if_e (q := c > 2 ^ (e + p)) rfl (fun _ => rfl) (fun _ => rfl))))
  refine (op_ok (x := .int c) (y := .tup [.int 0, .int (2 ^ (e + p))]) (s1 := s) (s2 := s) rfl rfl).trans ?_
  show ofB (some (((0 : Int) == c) || (((2 : Int) ^ (e + p) == c) || false))) s = _
  unfold ofB
  dsimp only
  congr 2
  rw [Bool.or_false, Bool.decide_or]
  show (decide ((0 : Int) = c) || decide ((2 : Int) ^ (e + p) = c)) = _
  rw [decide_eq_decide.mpr (eq_comm (a := (0 : Int)) (b := c)), decide_eq_decide.mpr (eq_comm (a := (2 : Int) ^ (e + p)) (b := c))]
theorem add_call {C0 : C} {ρ : Ev.Env} {e1 e2 e3 e4 : ES} {c d : Int} {w : Wy} (hc : C0.call = callN tab (m + 9)) (h : Fm e p) (c0 : 0 ≤ c) (c1 : c < 2 ^ (1 + e + p)) (d0 : 0 ≤ d) (d1 : d < 2 ^ (1 + e + p)) (h1 : e1 C0 ρ s = .ok (fD e p) s) (h2 : e2 C0 ρ s = .ok (.int c) s) (h3 : e3 C0 ρ s = .ok (.int d) s) (h4 : e4 C0 ρ s = .ok (.str (wS w)) s) : eCall 18 (aCons e1 (aCons e2 (aCons e3 (aCons e4 aNil)))) C0 ρ s = .ok (.int (adS e p c d w)) s := by
  rw [call_ok (cons_ok h1 (cons_ok h2 (cons_ok h3 (cons_ok h4 nil_ok)))), hc, ev_add h c d c0 c1 d0 d1]
/-- what a sum lacks -/
def gapF (e p : Nat) (c d z : Int) : Int × Int := fr (tpA e p c d * (vf e p z).2 - (vf e p z).1 * (vf e p c).2 * (vf e p d).2) ((vf e p c).2 * (vf e p d).2 * (vf e p z).2)
theorem den4 (h : Fm e p) (c d z : Int) : 0 < (vf e p c).2 * (vf e p d).2 * (vf e p z).2 ∧ ((vf e p c).2 * (vf e p d).2 * (vf e p z).2).natAbs < 2 ^ 200 := by
  have h1 := vf_rng h c
  have h2 := vf_rng h d
  have h3 := vf_rng h z
  have hp : 0 < (vf e p c).2 * (vf e p d).2 := Int.mul_pos h1.1.1 h2.1.1
  have hp2 : (vf e p c).2 * (vf e p d).2 ≤ 1048576 * 1048576 := Int.mul_le_mul h1.1.2 h2.1.2 (Int.le_of_lt h2.1.1) (by decide)
  have hq : 0 < (vf e p c).2 * (vf e p d).2 * (vf e p z).2 := Int.mul_pos hp h3.1.1
  have hq2 : (vf e p c).2 * (vf e p d).2 * (vf e p z).2 ≤ 1048576 * 1048576 * 1048576 := Int.mul_le_mul hp2 h3.1.2 (Int.le_of_lt h3.1.1) (by decide)
  have : ((1048576 * 1048576 * 1048576 : Int)) < ((2 ^ 200 : Nat) : Int) := by decide
  exact ⟨hq, by omega⟩
theorem is_non {C0 : C} {ρ : Ev.Env} {a : ES} {o : Option (Int × Int)} (ha : a C0 ρ s = .ok (vD o) s) : eOp cIs a (eC .non) C0 ρ s = .ok (.bl (decide (o = none))) s := by
  rw [op_ok ha rfl]
  cases o with
  | none => rfl
  | some q => rfl
/-- a sum of a pair -/
def psS (e p : Nat) (c d : Int) : D := if vl e p (adS e p c d .ev) = none then .non else .tup [.int (adS e p c d .ev), fD2 (gapF e p c d (adS e p c d .ev))]
theorem ev_pair (h : Fm e p) (c d : Int) (c0 : 0 ≤ c) (c1 : c < 2 ^ (1 + e + p)) (d0 : 0 ≤ d) (d1 : d < 2 ^ (1 + e + p)) (hcd : vl e p (adS e p c d .ev) = none ∨ (xE e p c ≠ 2 ^ e - 1 ∧ xE e p d ≠ 2 ^ e - 1)) : callN tab (m + 10) 25 B [fD e p, .int c, .int d] s = .ok (psS e p c d) s := by
  obtain ⟨z, hz⟩ : ∃ z, z = adS e p c d .ev := ⟨_, rfl⟩
  have zr := adS_rng h c0 c1 d0 d1 .ev
  have hps : psS e p c d = if vl e p z = none then .non else .tup [.int z, fD2 (gapF e p c d z)] := by unfold psS; rw [← hz]
  rw [← hz] at zr hcd
  refine run_go (np := 3) (n := 9) (d := psS e p c d) (s1 := s) rfl ?_ (finF_same)
  rw [hps]
  dsimp only [c_pair_sum]
  walk_at "st"
  refine seq_go (ρ1 := [fD e p, .int c, .int d, .int z, .und, .und, .und, .und, .und]) (s1 := s) (set_ok (d := .int z) ?_) ?_
  · rw [hz]
    exact add_call (m := m) (w := .ev) rfl h c0 c1 d0 d1 rfl rfl rfl rfl
  refine ife_rt (q := vl e p z = none) (is_non (value_call (m := m + 3) rfl h zr.1 zr.2 rfl rfl)) (fun _ => rfl) (fun hn => ?_)
  obtain ⟨hE1, hE2⟩ := hcd.resolve_left hn
  have hE3 : xE e p z ≠ 2 ^ e - 1 := fun q => hn (vD_non.mpr q)
  have hv1 := vf_rng h c
  have hv2 := vf_rng h d
  have hv3 := vf_rng h z
  have hd4 := den4 h c d z
  refine seq_go (ρ1 := [fD e p, .int c, .int d, .int z, .und, .und, fD2 (vf e p c), fD2 (vf e p d), fD2 (vf e p z)]) (s1 := s) ?_ ?_
  · unfold sPar3
    rw [cons_ok (vsome_call (m := m + 3) rfl h c0 c1 hE1 rfl rfl) (cons_ok (vsome_call (m := m + 3) rfl h d0 d1 hE2 rfl rfl) (cons_ok (vsome_call (m := m + 3) rfl h zr.1 zr.2 hE3 rfl rfl) nil_ok))]
    rfl
  refine seq_go (ρ1 := [fD e p, .int c, .int d, .int z, .int (tpA e p c d), .und, fD2 (vf e p c), fD2 (vf e p d), fD2 (vf e p z)]) (s1 := s) (set_ok (add_e (mul_r (X_0 rfl) (X_1 rfl) (sm2 hv2.1.1 hv2.1.2)) (mul_r (X_0 rfl) (X_1 rfl) (sm2 hv1.1.1 hv1.1.2)))) ?_
  refine seq_go (ρ1 := [fD e p, .int c, .int d, .int z, .int (tpA e p c d), fD2 (gapF e p c d z), fD2 (vf e p c), fD2 (vf e p d), fD2 (vf e p z)]) (s1 := s) (set_ok (d := fD2 (gapF e p c d z)) ?_) (seq_rt (ret_ok (tup_ok (cons_ok rfl (cons_ok (x := fD2 (gapF e p c d z)) rfl nil_ok)) (by simp))))
  rw [call_ok (cons_ok (sub_e (mul_r (x := tpA e p c d) rfl (X_1 rfl) (sm2 hv3.1.1 hv3.1.2)) (mul_r (mul_r (X_0 rfl) (X_1 rfl) (sm2 hv1.1.1 hv1.1.2)) (X_1 rfl) (sm2 hv2.1.1 hv2.1.2))) (cons_ok (mul_r (mul_r (X_1 rfl) (X_1 rfl) (sm2 hv2.1.1 hv2.1.2)) (X_1 rfl) (sm2 hv3.1.1 hv3.1.2)) nil_ok))]
  dsimp only
  rw [ev_reduced _ _ hd4.1 hd4.2]
  rfl
/-- one code more -/
def exS (e p : Nat) (x : Option (Int × Int)) (c : Int) : Option (Int × Int) := match x, vl e p c with
  | some x, some v => some (fr (x.1 * v.2 + v.1 * x.2) (x.2 * v.2))
  | _, _ => none
def smS (e p : Nat) : Int × Option (Int × Int) → List Int → Int × Option (Int × Int)
  | q, [] => q
  | q, c :: r => smS e p (adS e p q.1 c .ev, exS e p q.2 c) r
/-- how great the exact sum's bottom may be -/
def bdO (j : Nat) : Option (Int × Int) → Prop
  | none => True
  | some x => 0 < x.2 ∧ x.2 ≤ 1048576 ^ j
theorem ex_bd (h : Fm e p) {j : Nat} {x : Option (Int × Int)} {c : Int} (hx : bdO j x) : bdO (j + 1) (exS e p x c) := by
  have hv := vf_rng h c
  unfold exS vl
  cases x with
  | none => trivial
  | some x =>
    by_cases q : xE e p c = 2 ^ e - 1
    · rw [if_pos q]; trivial
    · rw [if_neg q]
      have hp : 0 < x.2 * (vf e p c).2 := Int.mul_pos hx.1 hv.1.1
      have hd := fr_den (a := x.1 * (vf e p c).2 + (vf e p c).1 * x.2) hp
      refine ⟨hd.1, Int.le_trans hd.2 ?_⟩
      rw [Int.pow_succ]
      exact Int.mul_le_mul hx.2 hv.1.2 (Int.le_of_lt hv.1.1) (Int.pow_nonneg (by decide))
theorem pmono {b : Int} (hb : 1 ≤ b) (j : Nat) : ∀ d : Nat, b ^ j ≤ b ^ (j + d)
  | 0 => Int.le_refl _
  | d + 1 => by
    have ih := pmono hb j d
    have h0 : 0 ≤ b ^ (j + d) := Int.pow_nonneg (by omega)
    have h1 : b ^ (j + d) * 1 ≤ b ^ (j + d) * b := Int.mul_le_mul_of_nonneg_left hb h0
    rw [show j + (d + 1) = (j + d) + 1 by omega, Int.pow_succ]
    rw [Int.mul_one] at h1
    exact Int.le_trans ih h1
theorem ex_small {j : Nat} (hj : j ≤ 8) {x v : Int} (hx : 0 < x ∧ x ≤ 1048576 ^ j) (hv : 0 < v ∧ v ≤ 1048576) : 0 < x * v ∧ (x * v).natAbs < 2 ^ 200 := by
  have hp : 0 < x * v := Int.mul_pos hx.1 hv.1
  have h1 : x * v ≤ 1048576 ^ j * 1048576 := Int.mul_le_mul hx.2 hv.2 (Int.le_of_lt hv.1) (Int.pow_nonneg (by decide))
  have h2 : (1048576 : Int) ^ j ≤ 1048576 ^ 8 := by
    have := pmono (b := 1048576) (by decide) j (8 - j)
    rwa [show j + (8 - j) = 8 by omega] at this
  have h3 : (1048576 : Int) ^ 8 * 1048576 < ((2 ^ 200 : Nat) : Int) := by decide
  refine ⟨hp, ?_⟩
  omega
end
end KL

set_option maxRecDepth 100000
namespace KL
open PySem Ev
local macro_rules | `(tactic| walk_at "st") => `(tactic| dsimp only [start0, List.length_cons, List.length_nil, List.replicate, List.cons_append, List.nil_append, Nat.reduceSub, Nat.reduceAdd])
local macro_rules | `(tactic| walk_at "ev") => `(tactic| simp (disch := omega) only [sSeq, sSet, sExpr, sRet, sRetN, sIf, sBrk, sCnt, sRaise, sNil, sAsg, sAug, sPar2, sFor, tName, tTup, tsCons, tsNil, tSub, eVar, eC, eOp, eUn, aNil, aCons, eTup, eLst, eCall, eBlt, gcF, gcE, eNot, eAnd, eOr, eIf, eChain, eTold, eMt, eSl, withPart, iR1, iR2, iR3, iSeq, Ev.iEnum, Res.bnd, Res.bndS, Res.bndA, Res.bndI, Rss.bnd, Rss.bndA, Rss.bndS, Rss.bndI, Itm.bnd, Itm.bndS, Out.bnd, Res.tst, Res.tstS, Res.tstA, gv, sv, tru, al, toRes, C.psh, endG, gOk, bAdd, bSub, uNeg, cLt, cLe, cGt, cGe, iAdd, lenD, intD, absD, if_true, if_false, Bool.false_eq_true, ite_true, ite_false, decide_true, decide_false, Bool.not_true, Bool.not_false, Bool.and_true, Bool.and_false, Bool.true_and, Bool.false_and, Int.zero_sub, and_true, true_and, and_false, false_and, not_true_eq_false, not_false_eq_true, finF_same, fin_same', cEq_int, cNe_int, decide_eq_true_eq, Bool.not_eq_true', decide_eq_false_iff_not, ite_not])
local macro_rules | `(tactic| walk_at "ew") => `(tactic| repeat (first | walk_at "ev" | (simp (disch := omega) only [ev_power_of, ev_check, ev_check_code, ev_meaning, ev_code_of, ev_widened, div_pow, mod_pow])))
/-! codes by their places -/
def cdt (e p : Nat) (t : Int) : Int := if 0 ≤ t then t else 2 ^ (e + p) - t
def chkP (e p : Nat) : Bool := decide (vf e p (2 ^ (e + p)) = vf e p 0) && (List.range (2 * (edge e p).toNat - 2)).all fun n => decide (lsP (vf e p (cdt e p ((n : Int) + 1 - edge e p))) (vf e p (cdt e p ((n : Int) + 2 - edge e p))))
theorem chkP_all {e p : Nat} (h : Fm e p) : chkP e p = true := by
  obtain ⟨h1, h2, h3, h4⟩ := h
  have he : e = 2 ∨ e = 3 ∨ e = 4 := by omega
  have hp : p = 1 ∨ p = 2 ∨ p = 3 ∨ p = 4 := by omega
  rcases he with rfl | rfl | rfl <;> rcases hp with rfl | rfl | rfl | rfl <;> decide +kernel
theorem lsP_trans {a b c : Int × Int} (hb : 0 < b.2) (ha : 0 < a.2) (hc : 0 < c.2) (h1 : lsP a b) (h2 : lsP b c) : lsP a c := by
  unfold lsP at *
  have m1 : a.1 * b.2 * c.2 < b.1 * a.2 * c.2 := Int.mul_lt_mul_of_pos_right h1 hc
  have m2 : b.1 * c.2 * a.2 < c.1 * b.2 * a.2 := Int.mul_lt_mul_of_pos_right h2 ha
  refine Int.lt_of_mul_lt_mul_left (a := b.2) ?_ (Int.le_of_lt hb)
  have e1 : b.2 * (a.1 * c.2) = a.1 * b.2 * c.2 := by grind
  have e2 : b.1 * a.2 * c.2 = b.1 * c.2 * a.2 := by grind
  have e3 : b.2 * (c.1 * a.2) = c.1 * b.2 * a.2 := by grind
  omega
section
variable {e p : Nat}
theorem cdt_step (h : Fm e p) {t : Int} (h0 : -edge e p < t) (h1 : t + 1 < edge e p) : lsP (vf e p (cdt e p t)) (vf e p (cdt e p (t + 1))) := by
  have := chkP_all h
  unfold chkP at this
  rw [Bool.and_eq_true, List.all_eq_true] at this
  have q := of_decide_eq_true (this.2 (t + edge e p - 1).toNat (List.mem_range.mpr (by omega)))
  have e1 : (((t + edge e p - 1).toNat : Nat) : Int) + 1 - edge e p = t := by omega
  have e2 : (((t + edge e p - 1).toNat : Nat) : Int) + 2 - edge e p = t + 1 := by omega
  rw [e1, e2] at q
  exact q
theorem cdt_mono (h : Fm e p) : ∀ (k : Nat) (t : Int), -edge e p < t → t + k + 1 < edge e p → lsP (vf e p (cdt e p t)) (vf e p (cdt e p (t + k + 1)))
  | 0, t, h0, h1 => by
    have : t + ((0 : Nat) : Int) + 1 = t + 1 := by omega
    rw [this] at h1 ⊢
    exact cdt_step h h0 h1
  | k + 1, t, h0, h1 => by
    have e1 : t + ((k + 1 : Nat) : Int) + 1 = (t + k + 1) + 1 := by omega
    rw [e1] at h1 ⊢
    exact lsP_trans (vf_rng h _).1.1 (vf_rng h _).1.1 (vf_rng h _).1.1 (cdt_mono h k t h0 (by omega)) (cdt_step h (by omega) h1)
/-- a finite code's place -/
theorem plc_fin (h : Fm e p) {c : Int} (c0 : 0 ≤ c) (c1 : c < 2 ^ (1 + e + p)) (hb : bare e p c < edge e p) : (-edge e p < plc e p c ∧ plc e p c < edge e p) ∧ vf e p c = vf e p (cdt e p (plc e p c)) ∧ (c < 2 ^ (e + p) → bare e p c = c) ∧ (c ≥ 2 ^ (e + p) → bare e p c = c - 2 ^ (e + p)) := by
  have hs := sgC_rng c0 c1
  have hp := pow_pos' (e + p)
  have he := edge_pos h
  have hbn : 0 ≤ bare e p c := Int.emod_nonneg _ (Int.ne_of_gt hp)
  have hbl : bare e p c < 2 ^ (e + p) := Int.emod_lt_of_pos _ hp
  by_cases hc : c ≥ 2 ^ (e + p)
  · have hs1 : sgC e p c = 1 := by
      rcases hs.1 with q | q
      · rw [q] at hs; omega
      · exact q
    have hcb : c = 2 ^ (e + p) + bare e p c := by have := hs.2; rw [hs1] at this; omega
    have hpl : plc e p c = - bare e p c := by unfold plc; rw [if_pos hc]; omega
    refine ⟨by omega, ?_, fun q => by omega, fun _ => by omega⟩
    by_cases hz : bare e p c = 0
    · have := chkP_all h
      unfold chkP at this
      rw [Bool.and_eq_true] at this
      have q := of_decide_eq_true this.1
      rw [hpl, hz]
      have e1 : c = 2 ^ (e + p) := by omega
      rw [e1, q]
      rfl
    · have e1 : cdt e p (plc e p c) = c := by unfold cdt; rw [hpl, if_neg (by omega)]; omega
      rw [e1]
  · have hs0 : sgC e p c = 0 := by
      rcases hs.1 with q | q
      · exact q
      · rw [q] at hs; omega
    have hcb : c = bare e p c := by have := hs.2; rw [hs0] at this; omega
    have hpl : plc e p c = c := by unfold plc; rw [if_neg hc]
    refine ⟨by omega, ?_, fun _ => by omega, fun q => absurd q hc⟩
    have e1 : cdt e p (plc e p c) = c := by unfold cdt; rw [hpl, if_pos c0]
    rw [e1]
theorem ls_plc (h : Fm e p) {c d : Int} (c0 : 0 ≤ c) (c1 : c < 2 ^ (1 + e + p)) (hc : bare e p c < edge e p) (d0 : 0 ≤ d) (d1 : d < 2 ^ (1 + e + p)) (hd : bare e p d < edge e p) : lsP (vf e p c) (vf e p d) ↔ plc e p c < plc e p d := by
  obtain ⟨⟨a1, a2⟩, a3, _⟩ := plc_fin h c0 c1 hc
  obtain ⟨⟨b1, b2⟩, b3, _⟩ := plc_fin h d0 d1 hd
  rw [a3, b3]
  have up : ∀ {x y : Int}, -edge e p < x → y < edge e p → x < y → lsP (vf e p (cdt e p x)) (vf e p (cdt e p y)) := fun {x y} q1 q2 q3 => by
    have := cdt_mono h (y - x - 1).toNat x q1 (by omega)
    have e1 : x + ((y - x - 1).toNat : Nat) + 1 = y := by omega
    rw [e1] at this
    exact this
  rcases Int.lt_trichotomy (plc e p c) (plc e p d) with q | q | q
  · exact ⟨fun _ => q, fun _ => up a1 b2 q⟩
  · rw [q]
    refine ⟨fun z => ?_, fun z => absurd z (Int.lt_irrefl _)⟩
    exact absurd z (by unfold lsP; exact Int.lt_irrefl _)
  · refine ⟨fun z => ?_, fun z => by omega⟩
    have := up b1 a2 q
    unfold lsP at this z
    omega
theorem fin_iff (h : Fm e p) {c : Int} : xE e p c ≠ 2 ^ e - 1 ↔ bare e p c < edge e p := by
  obtain ⟨f1, f2, _⟩ := kd_facts h c
  constructor
  · intro q
    rcases Int.lt_trichotomy (bare e p c) (edge e p) with r | r | r
    · exact r
    · exact absurd (f2.mpr r).1 q
    · exact absurd (f1.mpr r).1 q
  · intro q z
    by_cases hP : c % 2 ^ p = 0
    · have := f2.mp ⟨z, hP⟩; omega
    · have := f1.mp ⟨z, hP⟩; omega
theorem kB_fin (h : Fm e p) {c : Int} : bare e p c < edge e p ↔ kB e p c ≠ .none ∧ kB e p c ≠ .endless := by
  constructor
  · intro q
    exact ⟨fun z => by have := kB_none.mp z; omega, fun z => by have := kB_endless.mp z; omega⟩
  · intro ⟨q1, q2⟩
    exact (fin_iff h).mp (xE_of h q1 q2)
/-- the next one up has the next place -/
theorem nu_plc (h : Fm e p) {c : Int} (c0 : 0 ≤ c) (c1 : c < 2 ^ (1 + e + p)) (hc : bare e p c < edge e p) : ∃ u, nuS e p c = some u ∧ (u = edge e p ↔ c = edge e p - 1) ∧ (u ≠ edge e p → (0 ≤ u ∧ u < 2 ^ (1 + e + p)) ∧ bare e p u < edge e p ∧ plc e p u = plc e p c + 1) := by
  have he := edge_pos h
  have hl := edge_lt h
  have hp := pow_pos' (e + p)
  obtain ⟨⟨a1, a2⟩, a3, a4, a5⟩ := plc_fin h c0 c1 hc
  have hk := (kB_fin h).mp hc
  have hce : c ≠ edge e p := fun z => by
    have : bare e p c = c := a4 (by omega)
    omega
  have hbare : ∀ x : Int, 0 ≤ x → x < 2 ^ (e + p) → bare e p x = x := fun x q1 q2 => Int.emod_eq_of_lt q1 q2
  have hbare2 : ∀ x : Int, 2 ^ (e + p) ≤ x → x < 2 * 2 ^ (e + p) → bare e p x = x - 2 ^ (e + p) := fun x q1 q2 => by
    unfold bare
    have : x = (x - 2 ^ (e + p)) + 2 ^ (e + p) := by omega
    conv => lhs; rw [this]
    rw [Int.add_emod_right]
    exact Int.emod_eq_of_lt (by omega) (by omega)
  have hn : nuS e p c = if c = 0 ∨ c = 2 ^ (e + p) then some 1 else if c > 2 ^ (e + p) then some (c - 1) else some (c + 1) := by
    unfold nuS
    rw [if_neg (fun z => z.elim hk.1 hce)]
  rw [H2] at c1 ⊢
  rw [hn]
  by_cases q1 : c = 0 ∨ c = 2 ^ (e + p)
  · rw [if_pos q1]
    refine ⟨1, rfl, ⟨fun z => by omega, fun z => by omega⟩, fun z => ⟨by omega, by rw [hbare 1 (by omega) (by omega)]; omega, ?_⟩⟩
    unfold plc
    rw [if_neg (by omega : ¬ (1 : Int) ≥ 2 ^ (e + p))]
    rcases q1 with q1 | q1
    · rw [if_neg (by omega)]; omega
    · rw [if_pos (by omega)]; omega
  · rw [if_neg q1]
    by_cases q2 : c > 2 ^ (e + p)
    · rw [if_pos q2]
      have hb := a5 (by omega)
      refine ⟨c - 1, rfl, ⟨fun z => by omega, fun z => by omega⟩, fun z => ⟨by omega, by rw [hbare2 (c - 1) (by omega) (by omega)]; omega, ?_⟩⟩
      unfold plc
      rw [if_pos (by omega), if_pos (by omega)]
      omega
    · rw [if_neg q2]
      have hb := a4 (by omega)
      refine ⟨c + 1, rfl, ⟨fun z => by omega, fun z => by omega⟩, fun z => ⟨by omega, by rw [hbare (c + 1) (by omega) (by omega)]; omega, ?_⟩⟩
      unfold plc
      rw [if_neg (by omega), if_neg (by omega)]
theorem parts_eq (h : Fm e p) (c : Int) : bare e p c / 2 ^ p = xE e p c ∧ bare e p c % 2 ^ p = c % 2 ^ p := by
  obtain ⟨h1, h2, h3, h4⟩ := h
  have he : e = 2 ∨ e = 3 ∨ e = 4 := by omega
  have hp : p = 1 ∨ p = 2 ∨ p = 3 ∨ p = 4 := by omega
  unfold xE bare
  rcases he with rfl | rfl | rfl <;> rcases hp with rfl | rfl | rfl | rfl <;> simp only [Nat.reduceAdd, Int.reducePow] <;> omega
theorem ite_same2 {P Q : Prop} [Decidable P] [Decidable Q] {a b c d : Int} (hpq : P ↔ Q) (h1 : P → a = c) (h2 : ¬ P → b = d) : (if P then a else b) = (if Q then c else d) := by
  by_cases q : P
  · rw [if_pos q, if_pos (hpq.mp q), h1 q]
  · rw [if_neg q, if_neg (fun z => q (hpq.mpr z)), h2 q]
theorem ad_comm (c d : Int) (w : Wy) : adS e p c d w = adS e p d c w := by
  unfold adS
  refine ite_same2 Or.comm (fun _ => rfl) (fun _ => ite_same2 Or.comm (fun q2 => ?_) (fun q2 => ?_))
  · refine ite_same2 ⟨fun z => ⟨z.1.symm, fun y => z.2 y.symm⟩, fun z => ⟨z.1.symm, fun y => z.2 y.symm⟩⟩ (fun _ => rfl) (fun q3 => ?_)
    by_cases q5 : kB e p c = kB e p d
    · have q4 : c = d := Classical.byContradiction fun y => q3 ⟨q5, y⟩
      subst q4; rfl
    · rcases q2 with q2 | q2
      · exact (if_pos q2).trans (if_neg (fun z => q5 (q2.trans z.symm))).symm
      · exact (if_neg (fun z => q5 (z.trans q2.symm))).trans (if_pos q2).symm
  · have ht : tpA e p c d = tpA e p d c := by unfold tpA; rw [Int.add_comm]
    have hm : (vf e p c).2 * (vf e p d).2 = (vf e p d).2 * (vf e p c).2 := Int.mul_comm _ _
    rw [ht, hm]
    refine ite_same2 Iff.rfl (fun _ => ?_) (fun _ => rfl)
    congr 1
    exact ite_same2 eq_comm (fun z => z) (fun _ => rfl)
/-- down is up, turned -/
theorem rd_turn (h : Fm e p) {a y : Int} (ha : a ≠ 0) : rd e p a y .dn = (if rd e p (0 - a) y .up ≥ 2 ^ (e + p) then rd e p (0 - a) y .up - 2 ^ (e + p) else rd e p (0 - a) y .up + 2 ^ (e + p)) := by
  have hx : (0 - a).natAbs = a.natAbs := by omega
  obtain ⟨⟨l0, l1⟩, _⟩ := Low_spec (x := (a.natAbs : Int)) (y := y) h (by omega)
  have hl := edge_lt h
  have hp := pow_pos' (e + p)
  have hu1 : ∀ L : Int, upW e p L (a.natAbs : Int) y (sgI a) .dn ↔ sgI a = 1 := fun L => by unfold upW; simp
  have hu2 : ∀ L : Int, upW e p L (a.natAbs : Int) y (sgI (0 - a)) .up ↔ sgI (0 - a) = 0 := fun L => by unfold upW; simp
  have hs : (sgI a = 1 ∧ sgI (0 - a) = 0) ∨ (sgI a = 0 ∧ sgI (0 - a) = 1) := by
    unfold sgI
    by_cases q : a < 0
    · left; rw [if_pos q, if_neg (by omega)]; exact ⟨rfl, rfl⟩
    · right; rw [if_neg q, if_pos (by omega)]; exact ⟨rfl, rfl⟩
  have key : ∃ k : Int, 0 ≤ k ∧ k ≤ 1 ∧ rd e p a y .dn = sgI a * 2 ^ (e + p) + Low e p (a.natAbs : Int) y + k ∧ rd e p (0 - a) y .up = sgI (0 - a) * 2 ^ (e + p) + Low e p (a.natAbs : Int) y + k := by
    unfold rd
    rw [hx]
    by_cases j : jst e p (a.natAbs : Int) y
    · exact ⟨0, by decide, by decide, by rw [if_pos j, Int.add_zero], by rw [if_pos j, Int.add_zero]⟩
    · rcases hs with ⟨q1, q2⟩ | ⟨q1, q2⟩
      · exact ⟨1, by decide, by decide, by rw [if_neg j, if_pos ((hu1 _).mpr q1)], by rw [if_neg j, if_pos ((hu2 _).mpr q2)]⟩
      · exact ⟨0, by decide, by decide, by rw [if_neg j, if_neg (fun z => by have := (hu1 _).mp z; omega), Int.add_zero], by rw [if_neg j, if_neg (fun z => by have := (hu2 _).mp z; omega), Int.add_zero]⟩
  obtain ⟨k, k0, k1, r1, r2⟩ := key
  rw [r1, r2]
  generalize Low e p (a.natAbs : Int) y = L at *
  rcases hs with ⟨q1, q2⟩ | ⟨q1, q2⟩
  · rw [q1, q2, if_neg (by omega)]; omega
  · rw [q1, q2, if_pos (by omega)]; omega
end
end KL

set_option maxRecDepth 100000
namespace KL
open PySem Ev
local macro_rules | `(tactic| walk_at "st") => `(tactic| dsimp only [start0, List.length_cons, List.length_nil, List.replicate, List.cons_append, List.nil_append, Nat.reduceSub, Nat.reduceAdd])
local macro_rules | `(tactic| walk_at "ev") => `(tactic| simp (disch := omega) only [sSeq, sSet, sExpr, sRet, sRetN, sIf, sBrk, sCnt, sRaise, sNil, sAsg, sAug, sPar2, sFor, tName, tTup, tsCons, tsNil, tSub, eVar, eC, eOp, eUn, aNil, aCons, eTup, eLst, eCall, eBlt, gcF, gcE, eNot, eAnd, eOr, eIf, eChain, eTold, eMt, eSl, withPart, iR1, iR2, iR3, iSeq, Ev.iEnum, Res.bnd, Res.bndS, Res.bndA, Res.bndI, Rss.bnd, Rss.bndA, Rss.bndS, Rss.bndI, Itm.bnd, Itm.bndS, Out.bnd, Res.tst, Res.tstS, Res.tstA, gv, sv, tru, al, toRes, C.psh, endG, gOk, bAdd, bSub, uNeg, cLt, cLe, cGt, cGe, iAdd, lenD, intD, absD, if_true, if_false, Bool.false_eq_true, ite_true, ite_false, decide_true, decide_false, Bool.not_true, Bool.not_false, Bool.and_true, Bool.and_false, Bool.true_and, Bool.false_and, Int.zero_sub, and_true, true_and, and_false, false_and, not_true_eq_false, not_false_eq_true, finF_same, fin_same', cEq_int, cNe_int, decide_eq_true_eq, Bool.not_eq_true', decide_eq_false_iff_not, ite_not])
local macro_rules | `(tactic| walk_at "ew") => `(tactic| repeat (first | walk_at "ev" | (simp (disch := omega) only [ev_power_of, ev_check, ev_check_code, ev_meaning, ev_code_of, ev_widened, div_pow, mod_pow])))
/-! values as whole numbers of the least step -/
def sS (e p : Nat) : Int := 2 ^ (2 ^ (e - 1) - 2 + p)
def mx (p : Nat) (c : Int) : Int := if c < 2 ^ p then c else c % 2 ^ p + 2 ^ p
def kx (p : Nat) (c : Int) : Nat := (c / 2 ^ p).toNat - 1
def V (p : Nat) (c : Int) : Int := mx p c * 2 ^ kx p c
def chkV (e p : Nat) : Bool := (List.range (edge e p).toNat).all fun n => decide ((vf e p (n : Int)).1 * sS e p = V p (n : Int) * (vf e p (n : Int)).2) && decide (kx p (n : Int) + 3 ≤ 2 ^ e) && decide (0 ≤ mx p (n : Int) ∧ mx p (n : Int) < 2 ^ (p + 1)) && decide (vf e p ((n : Int) + 2 ^ (e + p)) = (0 - (vf e p (n : Int)).1, (vf e p (n : Int)).2)) && (decide ((n : Int) + 1 = edge e p) || decide ((st e p (n : Int)).1 * sS e p = (V p ((n : Int) + 1) - V p (n : Int)) * (st e p (n : Int)).2 ∧ V p (n : Int) < V p ((n : Int) + 1)))
theorem chkV_all {e p : Nat} (h : Fm e p) : chkV e p = true := by
  obtain ⟨h1, h2, h3, h4⟩ := h
  have he : e = 2 ∨ e = 3 ∨ e = 4 := by omega
  have hp : p = 1 ∨ p = 2 ∨ p = 3 ∨ p = 4 := by omega
  rcases he with rfl | rfl | rfl <;> rcases hp with rfl | rfl | rfl | rfl <;> decide +kernel
def chkR (e p : Nat) : Bool := (List.range (2 ^ e - 2)).all fun k => (List.range (2 ^ p)).all fun m => decide (V p ((k : Int) * 2 ^ p + 2 ^ p + (m : Int)) = (2 ^ p + (m : Int)) * 2 ^ k ∧ (k : Int) * 2 ^ p + 2 ^ p + (m : Int) < edge e p)
theorem chkR_all {e p : Nat} (h : Fm e p) : chkR e p = true := by
  obtain ⟨h1, h2, h3, h4⟩ := h
  have he : e = 2 ∨ e = 3 ∨ e = 4 := by omega
  have hp : p = 1 ∨ p = 2 ∨ p = 3 ∨ p = 4 := by omega
  rcases he with rfl | rfl | rfl <;> rcases hp with rfl | rfl | rfl | rfl <;> decide +kernel
theorem sS_pos (e p : Nat) : 0 < sS e p := pow_pos' _
section
variable {e p : Nat}
theorem V_facts (h : Fm e p) {c : Int} (h0 : 0 ≤ c) (h1 : c < edge e p) : (vf e p c).1 * sS e p = V p c * (vf e p c).2 ∧ kx p c + 3 ≤ 2 ^ e ∧ (0 ≤ mx p c ∧ mx p c < 2 ^ (p + 1)) ∧ vf e p (c + 2 ^ (e + p)) = (0 - (vf e p c).1, (vf e p c).2) ∧ (c + 1 = edge e p ∨ ((st e p c).1 * sS e p = (V p (c + 1) - V p c) * (st e p c).2 ∧ V p c < V p (c + 1))) := by
  have q := chkV_all h
  unfold chkV at q
  rw [List.all_eq_true] at q
  have z := q c.toNat (List.mem_range.mpr (by omega))
  rw [Int.toNat_of_nonneg h0] at z
  simp only [Bool.and_eq_true, Bool.or_eq_true, decide_eq_true_eq] at z
  exact ⟨z.1.1.1.1, z.1.1.1.2, z.1.1.2, z.1.2, z.2⟩
theorem V_lt (h : Fm e p) {c : Int} (h0 : 0 ≤ c) : ∀ k : Nat, c + k + 1 < edge e p → V p c < V p (c + k + 1)
  | 0, hk => by
    have hk : c + 1 < edge e p := by omega
    have := (V_facts h h0 (by omega)).2.2.2.2.resolve_left (by omega)
    have e1 : c + ((0 : Nat) : Int) + 1 = c + 1 := by omega
    rw [e1]; exact this.2
  | k + 1, hk => by
    have ih := V_lt h h0 k (by omega)
    have := (V_facts h (c := c + k + 1) (by omega) (by omega)).2.2.2.2.resolve_left (by omega)
    have e1 : c + ((k + 1 : Nat) : Int) + 1 = c + k + 1 + 1 := by omega
    rw [e1]; exact Int.lt_trans ih this.2
theorem V_mono (h : Fm e p) {c d : Int} (h0 : 0 ≤ c) (h1 : c < d) (h2 : d < edge e p) : V p c < V p d := by
  have := V_lt h h0 (d - c - 1).toNat (by omega)
  have e1 : c + ((d - c - 1).toNat : Nat) + 1 = d := by omega
  rwa [e1] at this
theorem V_le (h : Fm e p) {c d : Int} (h0 : 0 ≤ c) (h1 : c ≤ d) (h2 : d < edge e p) : V p c ≤ V p d := by
  rcases Int.lt_or_eq_of_le h1 with q | q
  · exact Int.le_of_lt (V_mono h h0 q h2)
  · rw [q]; exact Int.le_refl _
/-- a whole number of least steps that has a code -/
def Rep (e p : Nat) (n : Int) : Prop := ∃ c, 0 ≤ c ∧ c < edge e p ∧ V p c = n
theorem rep_of (h : Fm e p) : ∀ (k : Nat) (m : Int), 0 ≤ m → m < 2 ^ (p + 1) → k + 3 ≤ 2 ^ e → Rep e p (m * 2 ^ k) := by
  have hp := pow_pos' p
  have e1 : (2 : Int) ^ (p + 1) = 2 * 2 ^ p := by rw [Int.pow_succ, Int.mul_comm]
  have big : ∀ (k : Nat) (m : Int), 2 ^ p ≤ m → m < 2 ^ (p + 1) → k + 3 ≤ 2 ^ e → Rep e p (m * 2 ^ k) := fun k m m0 m1 hk => by
    have q := chkR_all h
    unfold chkR at q
    rw [List.all_eq_true] at q
    have z := q k (List.mem_range.mpr (by omega))
    rw [List.all_eq_true] at z
    have z2 := of_decide_eq_true (z (m - 2 ^ p).toNat (List.mem_range.mpr (by
      have : ((2 ^ p : Nat) : Int) = 2 ^ p := by simp
      omega)))
    have e2 : (((m - 2 ^ p).toNat : Nat) : Int) = m - 2 ^ p := by omega
    rw [e2] at z2
    have e3 : (2 : Int) ^ p + (m - 2 ^ p) = m := by omega
    rw [e3] at z2
    have k0 : (0 : Int) ≤ (k : Int) * 2 ^ p := Int.mul_nonneg (by omega) (Int.le_of_lt hp)
    exact ⟨_, by omega, z2.2, z2.1⟩
  intro k
  induction k with
  | zero =>
    intro m m0 m1 hk
    by_cases q : 2 ^ p ≤ m
    · exact big 0 m q m1 hk
    · have he := kd_facts h 0
      refine ⟨m, m0, by have := he.2.2.2.2.2.1.2; omega, ?_⟩
      unfold V mx kx
      rw [if_pos (by omega), Int.ediv_eq_zero_of_lt m0 (by omega)]
      simp
  | succ k ih =>
    intro m m0 m1 hk
    by_cases q : 2 ^ p ≤ m
    · exact big (k + 1) m q m1 hk
    · have := ih (2 * m) (by omega) (by omega) (by omega)
      rw [show m * 2 ^ (k + 1) = 2 * m * 2 ^ k by rw [Int.pow_succ]; grind]
      exact this
theorem of_rep (h : Fm e p) {n : Int} (hn : Rep e p n) : ∃ (k : Nat) (m : Int), 0 ≤ m ∧ m < 2 ^ (p + 1) ∧ k + 3 ≤ 2 ^ e ∧ n = m * 2 ^ k := by
  obtain ⟨c, c0, c1, rfl⟩ := hn
  obtain ⟨_, f2, f3, _⟩ := V_facts h c0 c1
  exact ⟨kx p c, mx p c, f3.1, f3.2, f2, rfl⟩
theorem pow_split (m : Int) {j k : Nat} (h : j ≤ k) : m * 2 ^ k = m * 2 ^ (k - j) * 2 ^ j := by
  rw [Int.mul_assoc, ← Int.pow_add, Nat.sub_add_cancel h]
/-- differences of near numbers are numbers -/
theorem rep_near (h : Fm e p) {x y : Int} (hx : Rep e p x) (hy : Rep e p y) (h1 : y ≤ x) (h2 : x ≤ 2 * y) : Rep e p (x - y) := by
  obtain ⟨k1, m1, a1, b1, c1, rfl⟩ := of_rep h hx
  obtain ⟨k2, m2, a2, b2, c2, rfl⟩ := of_rep h hy
  rcases Nat.le_total k1 k2 with q | q
  · have hp := pow_pos' k1
    rw [pow_split m2 q] at h1 h2 ⊢
    rw [← Int.sub_mul]
    have g1 : 0 ≤ m1 - m2 * 2 ^ (k2 - k1) := by
      have := Int.le_of_mul_le_mul_right h1 hp
      omega
    have g2 : 0 ≤ m2 * 2 ^ (k2 - k1) := Int.mul_nonneg a2 (Int.le_of_lt (pow_pos' _))
    exact rep_of h k1 _ g1 (by omega) c1
  · have hp := pow_pos' k2
    rw [pow_split m1 q] at h1 h2 ⊢
    rw [← Int.sub_mul]
    rw [← Int.mul_assoc] at h2
    have g1 := Int.le_of_mul_le_mul_right h1 hp
    have g2 := Int.le_of_mul_le_mul_right h2 hp
    exact rep_of h k2 _ (by omega) (by omega) c2
/-- what rounding to the nearest leaves is a number -/
theorem rep_left (h : Fm e p) {x y X N : Int} (hx : Rep e p x) (hy : Rep e p y) (hN : Rep e p N) (hX : 0 ≤ X) (hXY : X = x + y ∨ X = x - y ∨ X = y - x) (near : ∀ r, Rep e p r → (X - N).natAbs ≤ (X - r).natAbs) : Rep e p ((X - N).natAbs : Int) := by
  have hxs := near x hx
  have hys := near y hy
  have hNk := of_rep h hN
  obtain ⟨k1, m1, a1, b1, c1, e1⟩ := of_rep h hx
  obtain ⟨k2, m2, a2, b2, c2, e2⟩ := of_rep h hy
  have hx0 : 0 ≤ x := by rw [e1]; exact Int.mul_nonneg a1 (Int.le_of_lt (pow_pos' _))
  have hy0 : 0 ≤ y := by rw [e2]; exact Int.mul_nonneg a2 (Int.le_of_lt (pow_pos' _))
  have hx2 : ((X - N).natAbs : Int) ≤ x := by omega
  have hy2 : ((X - N).natAbs : Int) ≤ y := by omega
  -- the less exponent
  obtain ⟨k, m, u, hk, m1', eu, hu, hq⟩ : ∃ (k : Nat) (m u : Int), k + 3 ≤ 2 ^ e ∧ m < 2 ^ (p + 1) ∧ u = m * 2 ^ k ∧ ((X - N).natAbs : Int) ≤ u ∧ ∃ q, X = q * 2 ^ k := by
    rcases Nat.le_total k1 k2 with q | q
    · refine ⟨k1, m1, x, c1, b1, e1, hx2, ?_⟩
      rw [pow_split m2 q] at e2
      rcases hXY with z | z | z
      · exact ⟨m1 + m2 * 2 ^ (k2 - k1), by rw [z, Int.add_mul, e1, e2]⟩
      · exact ⟨m1 - m2 * 2 ^ (k2 - k1), by rw [z, Int.sub_mul, e1, e2]⟩
      · exact ⟨m2 * 2 ^ (k2 - k1) - m1, by rw [z, Int.sub_mul, e1, e2]⟩
    · refine ⟨k2, m2, y, c2, b2, e2, hy2, ?_⟩
      rw [pow_split m1 q] at e1
      rcases hXY with z | z | z
      · exact ⟨m1 * 2 ^ (k1 - k2) + m2, by rw [z, Int.add_mul, e1, e2]⟩
      · exact ⟨m1 * 2 ^ (k1 - k2) - m2, by rw [z, Int.sub_mul, e1, e2]⟩
      · exact ⟨m2 - m1 * 2 ^ (k1 - k2), by rw [z, Int.sub_mul, e1, e2]⟩
  obtain ⟨q, hq⟩ := hq
  have hp := pow_pos' k
  have hpp := pow_pos' (p + 1)
  have q0 : 0 ≤ q := by
    rw [hq] at hX
    rcases Int.lt_or_le q 0 with z | z
    · have := Int.mul_neg_of_neg_of_pos z hp; omega
    · exact z
  by_cases hb : q < 2 ^ (p + 1)
  · have := near X (by rw [hq]; exact rep_of h k q q0 hb hk)
    have e0 : ((X - N).natAbs : Int) = 0 * 2 ^ 0 := by simp; omega
    rw [e0]
    exact rep_of h 0 0 (Int.le_refl _) hpp (by have := (pe16 h).1; have : 2 ^ 2 ≤ 2 ^ e := Nat.pow_le_pow_right (by decide) h.e2; omega)
  · have r0 := near ((2 ^ (p + 1) - 1) * 2 ^ k) (rep_of h k _ (by omega) (by omega) hk)
    have hX1 : (2 ^ (p + 1) - 1) * 2 ^ k ≤ X := by
      rw [hq]; exact Int.mul_le_mul_of_nonneg_right (by omega) (Int.le_of_lt hp)
    have hN1 : (2 ^ (p + 1) - 1) * 2 ^ k ≤ N := by omega
    obtain ⟨kz, mz, az, bz, cz, ez⟩ := hNk
    have hkz : k ≤ kz := by
      rcases Nat.lt_or_ge kz k with z | z
      · exfalso
        have hz := pow_pos' kz
        have g1 : mz * 2 ^ kz ≤ (2 ^ (p + 1) - 1) * 2 ^ kz := Int.mul_le_mul_of_nonneg_right (by omega) (Int.le_of_lt hz)
        have g2 : (2 : Int) ^ kz < 2 ^ k := by
          have w1 : (2 : Int) ^ (kz + 1) ≤ 2 ^ k := by
            have w2 := pmono (b := 2) (by decide) (kz + 1) (k - (kz + 1))
            rwa [show kz + 1 + (k - (kz + 1)) = k by omega] at w2
          rw [Int.pow_succ] at w1
          omega
        have g3 : ((2 : Int) ^ (p + 1) - 1) * 2 ^ kz < (2 ^ (p + 1) - 1) * 2 ^ k := Int.mul_lt_mul_of_pos_left g2 (by
          have : (2 : Int) ^ (p + 1) = 2 * 2 ^ p := by rw [Int.pow_succ, Int.mul_comm]
          have := pow_pos' p
          omega)
        omega
      · exact z
    rw [pow_split mz hkz] at ez
    obtain ⟨w, hw⟩ : ∃ w, w = mz * 2 ^ (kz - k) := ⟨_, rfl⟩
    rw [← hw] at ez
    have eD : ((X - N).natAbs : Int) = ((q - w).natAbs : Int) * 2 ^ k := by
      rw [hq, ez, ← Int.sub_mul, Int.natAbs_mul]
      have : ((2 : Int) ^ k).natAbs = ((2 : Int) ^ k).toNat := by omega
      push_cast
      congr 1
    rw [eD, eu] at hu
    have g := Int.le_of_mul_le_mul_right hu hp
    rw [eD]
    exact rep_of h k _ (by omega) (by omega) hk
end
end KL

set_option maxRecDepth 100000
namespace KL
open PySem Ev
local macro_rules | `(tactic| walk_at "st") => `(tactic| dsimp only [start0, List.length_cons, List.length_nil, List.replicate, List.cons_append, List.nil_append, Nat.reduceSub, Nat.reduceAdd])
local macro_rules | `(tactic| walk_at "ev") => `(tactic| simp (disch := omega) only [sSeq, sSet, sExpr, sRet, sRetN, sIf, sBrk, sCnt, sRaise, sNil, sAsg, sAug, sPar2, sFor, tName, tTup, tsCons, tsNil, tSub, eVar, eC, eOp, eUn, aNil, aCons, eTup, eLst, eCall, eBlt, gcF, gcE, eNot, eAnd, eOr, eIf, eChain, eTold, eMt, eSl, withPart, iR1, iR2, iR3, iSeq, Ev.iEnum, Res.bnd, Res.bndS, Res.bndA, Res.bndI, Rss.bnd, Rss.bndA, Rss.bndS, Rss.bndI, Itm.bnd, Itm.bndS, Out.bnd, Res.tst, Res.tstS, Res.tstA, gv, sv, tru, al, toRes, C.psh, endG, gOk, bAdd, bSub, uNeg, cLt, cLe, cGt, cGe, iAdd, lenD, intD, absD, if_true, if_false, Bool.false_eq_true, ite_true, ite_false, decide_true, decide_false, Bool.not_true, Bool.not_false, Bool.and_true, Bool.and_false, Bool.true_and, Bool.false_and, Int.zero_sub, and_true, true_and, and_false, false_and, not_true_eq_false, not_false_eq_true, finF_same, fin_same', cEq_int, cNe_int, decide_eq_true_eq, Bool.not_eq_true', decide_eq_false_iff_not, ite_not])
local macro_rules | `(tactic| walk_at "ew") => `(tactic| repeat (first | walk_at "ev" | (simp (disch := omega) only [ev_power_of, ev_check, ev_check_code, ev_meaning, ev_code_of, ev_widened, div_pow, mod_pow])))
/-! rounding of what has no sign -/
def flp : Wy → Wy
  | .up => .dn
  | .dn => .up
  | w => w
def rdU (e p : Nat) (L x y : Int) (w : Wy) : Prop := if w = .ev then nr e p L x y else w = .up
instance (e p : Nat) (L x y : Int) (w : Wy) : Decidable (rdU e p L x y w) := by unfold rdU; infer_instance
def rdM (e p : Nat) (x y : Int) (w : Wy) : Int := if jst e p x y then Low e p x y else if rdU e p (Low e p x y) x y w then Low e p x y + 1 else Low e p x y
section
variable {e p : Nat}
theorem rd_mag (a y : Int) (w : Wy) : rd e p a y w = sgI a * 2 ^ (e + p) + rdM e p (a.natAbs : Int) y (if a < 0 then flp w else w) := by
  have hu : ∀ L, upW e p L (a.natAbs : Int) y (sgI a) w ↔ rdU e p L (a.natAbs : Int) y (if a < 0 then flp w else w) := fun L => by
    unfold upW rdU sgI
    by_cases q : a < 0
    · rw [if_pos q, if_pos q]
      cases w <;> simp [flp]
    · rw [if_neg q, if_neg q]
      cases w <;> simp
  unfold rd rdM
  by_cases j : jst e p (a.natAbs : Int) y
  · rw [if_pos j, if_pos j]
  · rw [if_neg j, if_neg j]
    by_cases q : rdU e p (Low e p (a.natAbs : Int) y) (a.natAbs : Int) y (if a < 0 then flp w else w)
    · rw [if_pos q, if_pos ((hu _).mpr q)]; omega
    · rw [if_neg q, if_neg (fun z => q ((hu _).mp z))]
theorem rdM_two (x y : Int) (w : Wy) : rdM e p x y w = Low e p x y ∨ rdM e p x y w = Low e p x y + 1 := by
  unfold rdM
  split
  · exact .inl rfl
  · split
    · exact .inr rfl
    · exact .inl rfl
theorem rdM_rng (h : Fm e p) {x y : Int} (hx : 0 ≤ x) (w : Wy) : 0 ≤ rdM e p x y w ∧ rdM e p x y w ≤ edge e p := by
  obtain ⟨⟨l0, l1⟩, _⟩ := Low_spec (y := y) h hx
  rcases rdM_two (e := e) (p := p) x y w with q | q <;> omega
theorem plc_rd (h : Fm e p) (a y : Int) (w : Wy) : plc e p (rd e p a y w) = if a < 0 then - rdM e p (a.natAbs : Int) y (flp w) else rdM e p (a.natAbs : Int) y w := by
  have hl := edge_lt h
  rw [rd_mag]
  unfold sgI plc
  by_cases q : a < 0
  · have r := rdM_rng h (x := (a.natAbs : Int)) (y := y) (by omega) (flp w)
    rw [if_pos q, if_pos q, if_pos q, if_pos (by omega)]
    omega
  · have r := rdM_rng h (x := (a.natAbs : Int)) (y := y) (by omega) w
    rw [if_neg q, if_neg q, if_neg q, if_neg (by omega)]
    omega
theorem Low_mono (h : Fm e p) {x y x' y' : Int} (hx : 0 ≤ x) (hy : 0 < y) (hx' : 0 ≤ x') (hy' : 0 < y') (hle : x * y' ≤ x' * y) : Low e p x y ≤ Low e p x' y' := by
  obtain ⟨⟨l0, l1⟩, l2, l3⟩ := Low_spec (y := y) h hx
  obtain ⟨⟨l0', l1'⟩, l2', l3'⟩ := Low_spec (y := y') h hx'
  rcases Int.lt_or_le (Low e p x' y') (Low e p x y) with q | q
  · exfalso
    refine l3' _ q l1 ?_
    unfold leP at l2 ⊢
    have hv := (vf_rng h (Low e p x y)).1.1
    generalize (vf e p (Low e p x y)).1 = v1 at *
    generalize (vf e p (Low e p x y)).2 = v2 at *
    have e1 : v1 * y * y' ≤ x * v2 * y' := Int.mul_le_mul_of_nonneg_right l2 (Int.le_of_lt hy')
    have e2 : x * y' * v2 ≤ x' * y * v2 := Int.mul_le_mul_of_nonneg_right hle (Int.le_of_lt hv)
    have e3 : v1 * y' * y ≤ x' * v2 * y := by
      have g1 : v1 * y' * y = v1 * y * y' := by grind
      have g2 : x * v2 * y' = x * y' * v2 := by grind
      have g3 : x' * v2 * y = x' * y * v2 := by grind
      omega
    exact Int.le_of_mul_le_mul_right e3 hy
  · exact q
theorem rdM_mono (h : Fm e p) {x y x' y' : Int} (hx : 0 ≤ x) (hy : 0 < y) (hx' : 0 ≤ x') (hy' : 0 < y') (hle : x * y' ≤ x' * y) (w : Wy) : rdM e p x y w ≤ rdM e p x' y' w := by
  have hL := Low_mono h hx hy hx' hy' hle
  rcases Int.lt_or_eq_of_le hL with q | q
  · have r1 := rdM_two (e := e) (p := p) x y w
    have r2 := rdM_two (e := e) (p := p) x' y' w
    omega
  · obtain ⟨_, l2, _⟩ := Low_spec (y := y) h hx
    have hv := (vf_rng h (Low e p x y)).1.1
    have hst := st_rng h (Low e p x y)
    have hj : jst e p x' y' → jst e p x y := fun j => by
      unfold jst at j ⊢
      unfold leP at l2
      rw [← q] at j
      generalize (vf e p (Low e p x y)).1 = v1 at *
      generalize (vf e p (Low e p x y)).2 = v2 at *
      have e2 : x * y' * v2 ≤ x' * y * v2 := Int.mul_le_mul_of_nonneg_right hle (Int.le_of_lt hv)
      have e3 : x * v2 * y' ≤ v1 * y * y' := by
        have g1 : x * v2 * y' = x * y' * v2 := by grind
        have g2 : x' * y * v2 = v1 * y * y' := by
          have : x' * y * v2 = (x' * v2) * y := by grind
          rw [this, ← j]; grind
        omega
      have := Int.le_of_mul_le_mul_right e3 hy'
      omega
    by_cases j' : jst e p x' y'
    · unfold rdM
      rw [if_pos j', if_pos (hj j')]
      omega
    · by_cases j : jst e p x y
      · have r2 := rdM_two (e := e) (p := p) x' y' w
        have : rdM e p x y w = Low e p x y := by unfold rdM; rw [if_pos j]
        omega
      · unfold rdM
        rw [if_neg j, if_neg j', ← q]
        by_cases u : rdU e p (Low e p x y) x y w
        · have u' : rdU e p (Low e p x y) x' y' w := by
            unfold rdU at u ⊢
            by_cases we : w = .ev
            · rw [if_pos we] at u ⊢
              unfold nr nrD nrW at u ⊢
              generalize (vf e p (Low e p x y)).1 = v1 at *
              generalize (vf e p (Low e p x y)).2 = v2 at *
              generalize (st e p (Low e p x y)).1 = s1 at *
              generalize (st e p (Low e p x y)).2 = s2 at *
              obtain ⟨A, hA⟩ : ∃ A, A = 2 * (x * v2 - v1 * y) * s2 := ⟨_, rfl⟩
              obtain ⟨A', hA'⟩ : ∃ A', A' = 2 * (x' * v2 - v1 * y') * s2 := ⟨_, rfl⟩
              obtain ⟨W, hW⟩ : ∃ W, W = s1 * y * v2 := ⟨_, rfl⟩
              obtain ⟨W', hW'⟩ : ∃ W', W' = s1 * y' * v2 := ⟨_, rfl⟩
              rw [← hA, ← hW] at u
              rw [← hA', ← hW']
              have e2 : x * y' * (v2 * s2) ≤ x' * y * (v2 * s2) := Int.mul_le_mul_of_nonneg_right hle (Int.le_of_lt (Int.mul_pos hv hst.2.1))
              have k1 : A * y' ≤ A' * y := by
                have g1 : A * y' = 2 * (x * y' * (v2 * s2)) - 2 * (v1 * y * y' * s2) := by rw [hA]; grind
                have g2 : A' * y = 2 * (x' * y * (v2 * s2)) - 2 * (v1 * y * y' * s2) := by rw [hA']; grind
                omega
              have k2 : W * y' = W' * y := by rw [hW, hW']; grind
              rcases u with u | ⟨u, o⟩
              · left
                have k3 : W * y' < A * y' := Int.mul_lt_mul_of_pos_right u hy'
                exact Int.lt_of_mul_lt_mul_right (by omega : W' * y < A' * y) (Int.le_of_lt hy)
              · have k4 : W' ≤ A' := Int.le_of_mul_le_mul_right (by rw [u] at k1; omega : W' * y ≤ A' * y) hy
                rcases Int.lt_or_eq_of_le k4 with k5 | k5
                · exact .inl k5
                · exact .inr ⟨k5.symm, o⟩
            · rw [if_neg we] at u ⊢
              exact u
          rw [if_pos u, if_pos u']
          exact Int.le_refl _
        · rw [if_neg u]
          split <;> omega
theorem rd_mono (h : Fm e p) {a y a' y' : Int} (hy : 0 < y) (hy' : 0 < y') (hle : a * y' ≤ a' * y) (w : Wy) : plc e p (rd e p a y w) ≤ plc e p (rd e p a' y' w) := by
  rw [plc_rd h, plc_rd h]
  by_cases q : a < 0
  · rw [if_pos q]
    have r1 := rdM_rng h (x := (a.natAbs : Int)) (y := y) (by omega) (flp w)
    by_cases q' : a' < 0
    · rw [if_pos q']
      refine Int.neg_le_neg (rdM_mono h (by omega) hy' (by omega) hy ?_ _)
      have e1 : (a.natAbs : Int) = -a := by omega
      have e2 : (a'.natAbs : Int) = -a' := by omega
      rw [e1, e2, Int.neg_mul, Int.neg_mul]
      omega
    · rw [if_neg q']
      have r2 := rdM_rng h (x := (a'.natAbs : Int)) (y := y') (by omega) w
      omega
  · rw [if_neg q]
    have q' : ¬ a' < 0 := fun z => by
      have g1 : 0 ≤ a * y' := Int.mul_nonneg (by omega) (Int.le_of_lt hy')
      have g2 : a' * y < 0 := Int.mul_neg_of_neg_of_pos z hy
      omega
    rw [if_neg q']
    refine rdM_mono h (by omega) hy (by omega) hy' ?_ _
    have e1 : (a.natAbs : Int) = a := by omega
    have e2 : (a'.natAbs : Int) = a' := by omega
    rw [e1, e2]
    exact hle
/-! codes with signs -/
def sV (e p : Nat) (c : Int) : Int := if c ≥ 2 ^ (e + p) then 0 - V p (bare e p c) else V p (bare e p c)
theorem V0 (p : Nat) : V p 0 = 0 := by
  unfold V mx
  rw [if_pos (pow_pos' p), Int.zero_mul]
theorem fin_cases (h : Fm e p) {c : Int} (c0 : 0 ≤ c) (c1 : c < 2 ^ (1 + e + p)) : (sgC e p c = 0 ∧ c = bare e p c ∧ ¬ c ≥ 2 ^ (e + p)) ∨ (sgC e p c = 1 ∧ c = bare e p c + 2 ^ (e + p) ∧ c ≥ 2 ^ (e + p)) := by
  have hp := pow_pos' (e + p)
  have hbl : bare e p c < 2 ^ (e + p) := Int.emod_lt_of_pos _ hp
  have hbn : 0 ≤ bare e p c := Int.emod_nonneg _ (Int.ne_of_gt hp)
  have hs := sgC_rng c0 c1
  rcases hs.1 with q | q
  · have := hs.2
    rw [q] at this
    left
    exact ⟨q, by omega, by omega⟩
  · have := hs.2
    rw [q] at this
    right
    exact ⟨q, by omega, by omega⟩
theorem bare_nn (c : Int) : 0 ≤ bare e p c := Int.emod_nonneg _ (Int.ne_of_gt (pow_pos' _))
theorem vf_sV (h : Fm e p) {c : Int} (c0 : 0 ≤ c) (c1 : c < 2 ^ (1 + e + p)) (hb : bare e p c < edge e p) : (vf e p c).1 * sS e p = sV e p c * (vf e p c).2 := by
  obtain ⟨f1, _, _, f4, _⟩ := V_facts h (bare_nn c) hb
  unfold sV
  rcases fin_cases h c0 c1 with ⟨q1, q2, q3⟩ | ⟨q1, q2, q3⟩
  · rw [if_neg q3, ← q2]
    rw [← q2] at f1
    exact f1
  · rw [if_pos q3]
    rw [← q2] at f4
    rw [f4]
    show (0 - (vf e p (bare e p c)).1) * sS e p = (0 - V p (bare e p c)) * (vf e p (bare e p c)).2
    rw [Int.sub_mul, Int.sub_mul, f1]
    omega
theorem vf_pos (h : Fm e p) {c : Int} (h0 : 0 < c) (h1 : c < edge e p) : 0 < (vf e p c).1 := by
  obtain ⟨f1, _⟩ := V_facts h (Int.le_of_lt h0) h1
  have hv := (vf_rng h c).1.1
  have := V_mono h (Int.le_refl 0) h0 h1
  rw [V0] at this
  have g : 0 < (vf e p c).1 * sS e p := by rw [f1]; exact Int.mul_pos this hv
  exact Int.pos_of_mul_pos_left g (sS_pos e p)
end
end KL

set_option maxRecDepth 100000
namespace KL
open PySem Ev
local macro_rules | `(tactic| walk_at "st") => `(tactic| dsimp only [start0, List.length_cons, List.length_nil, List.replicate, List.cons_append, List.nil_append, Nat.reduceSub, Nat.reduceAdd])
local macro_rules | `(tactic| walk_at "ev") => `(tactic| simp (disch := omega) only [sSeq, sSet, sExpr, sRet, sRetN, sIf, sBrk, sCnt, sRaise, sNil, sAsg, sAug, sPar2, sFor, tName, tTup, tsCons, tsNil, tSub, eVar, eC, eOp, eUn, aNil, aCons, eTup, eLst, eCall, eBlt, gcF, gcE, eNot, eAnd, eOr, eIf, eChain, eTold, eMt, eSl, withPart, iR1, iR2, iR3, iSeq, Ev.iEnum, Res.bnd, Res.bndS, Res.bndA, Res.bndI, Rss.bnd, Rss.bndA, Rss.bndS, Rss.bndI, Itm.bnd, Itm.bndS, Out.bnd, Res.tst, Res.tstS, Res.tstA, gv, sv, tru, al, toRes, C.psh, endG, gOk, bAdd, bSub, uNeg, cLt, cLe, cGt, cGe, iAdd, lenD, intD, absD, if_true, if_false, Bool.false_eq_true, ite_true, ite_false, decide_true, decide_false, Bool.not_true, Bool.not_false, Bool.and_true, Bool.and_false, Bool.true_and, Bool.false_and, Int.zero_sub, and_true, true_and, and_false, false_and, not_true_eq_false, not_false_eq_true, finF_same, fin_same', cEq_int, cNe_int, decide_eq_true_eq, Bool.not_eq_true', decide_eq_false_iff_not, ite_not])
local macro_rules | `(tactic| walk_at "ew") => `(tactic| repeat (first | walk_at "ev" | (simp (disch := omega) only [ev_power_of, ev_check, ev_check_code, ev_meaning, ev_code_of, ev_widened, div_pow, mod_pow])))
section
variable {e p : Nat}
/-- a code's own value comes back -/
theorem rd_self (h : Fm e p) {c : Int} (c0 : 0 ≤ c) (c1 : c < 2 ^ (1 + e + p)) (hb : bare e p c < edge e p) (hz : bare e p c ≠ 0) {a y : Int} (hy : 0 < y) (heq : a * (vf e p c).2 = (vf e p c).1 * y) (w : Wy) : rd e p a y w = c := by
  have hn := bare_nn (e := e) (p := p) c
  have hpos := vf_pos h (by omega : 0 < bare e p c) hb
  have hvb := (vf_rng h (bare e p c)).1.1
  have hvc := (vf_rng h c).1.1
  obtain ⟨_, _, _, f4, f5⟩ := V_facts h hn hb
  -- the sign and the size
  have key : sgI a = sgC e p c ∧ (a.natAbs : Int) * (vf e p (bare e p c)).2 = (vf e p (bare e p c)).1 * y := by
    rcases fin_cases h c0 c1 with ⟨q1, q2, q3⟩ | ⟨q1, q2, q3⟩
    · rw [← q2] at hpos ⊢
      have ha : 0 < a := by
        have : 0 < a * (vf e p c).2 := by rw [heq]; exact Int.mul_pos hpos hy
        exact Int.pos_of_mul_pos_left this hvc
      refine ⟨?_, ?_⟩
      · rw [q1]; unfold sgI; rw [if_neg (by omega)]
      · rw [show (a.natAbs : Int) = a by omega]; exact heq
    · have f4' : vf e p c = (0 - (vf e p (bare e p c)).1, (vf e p (bare e p c)).2) := by
        have : c = bare e p c + 2 ^ (e + p) := q2
        conv => lhs; rw [this]
        exact f4
      rw [f4'] at heq
      have heq' : a * (vf e p (bare e p c)).2 = (0 - (vf e p (bare e p c)).1) * y := heq
      rw [Int.sub_mul, Int.zero_mul] at heq'
      have ha : a < 0 := by
        rcases Int.lt_or_le a 0 with z | z
        · exact z
        · have g1 := Int.mul_nonneg z (Int.le_of_lt hvb)
          have g2 := Int.mul_pos hpos hy
          omega
      refine ⟨?_, ?_⟩
      · rw [q1]; unfold sgI; rw [if_pos ha]
      · rw [show (a.natAbs : Int) = 0 - a by omega, Int.sub_mul, Int.zero_mul]; omega
  obtain ⟨k1, k2⟩ := key
  have hL : bare e p c = Low e p (a.natAbs : Int) y := by
    refine Low_uniq h (by omega) hy hn hb (by unfold leP; omega) ?_
    rcases f5 with f5 | f5
    · exact .inl f5
    · rcases Int.lt_or_eq_of_le (by omega : bare e p c + 1 ≤ edge e p) with z | z
      · right
        unfold leP
        intro hle
        obtain ⟨g1, _⟩ := V_facts h hn hb
        obtain ⟨g2, _⟩ := V_facts h (c := bare e p c + 1) (by omega) z
        have hv' := (vf_rng h (bare e p c + 1)).1.1
        have hS := sS_pos e p
        generalize (vf e p (bare e p c)).1 = v1 at *
        generalize (vf e p (bare e p c)).2 = v2 at *
        generalize (vf e p (bare e p c + 1)).1 = u1 at *
        generalize (vf e p (bare e p c + 1)).2 = u2 at *
        generalize V p (bare e p c) = X1 at *
        generalize V p (bare e p c + 1) = X2 at *
        generalize sS e p = S0 at *
        generalize (a.natAbs : Int) = x at *
        -- u1 y ≤ x u2, x v2 = v1 y, v1 S = X1 v2, u1 S = X2 u2, X1 < X2
        have m1 : u1 * y * (v2 * S0) ≤ x * u2 * (v2 * S0) := Int.mul_le_mul_of_nonneg_right hle (Int.le_of_lt (Int.mul_pos hvb hS))
        have m2 : u1 * y * (v2 * S0) = X2 * (u2 * y * v2) := by
          have : u1 * y * (v2 * S0) = (u1 * S0) * (y * v2) := by grind
          rw [this, g2]; grind
        have m3 : x * u2 * (v2 * S0) = X1 * (u2 * y * v2) := by
          have : x * u2 * (v2 * S0) = (x * v2) * (u2 * S0) := by grind
          rw [this, k2]
          have : v1 * y * (u2 * S0) = (v1 * S0) * (y * u2) := by grind
          rw [this, g1]; grind
        rw [m2, m3] at m1
        have := Int.le_of_mul_le_mul_right m1 (Int.mul_pos (Int.mul_pos hv' hy) hvb)
        omega
      · exact .inl z
  have hj : jst e p (a.natAbs : Int) y := by
    unfold jst
    rw [← hL]
    omega
  rw [rd_mag]
  unfold rdM
  rw [if_pos hj, ← hL, k1]
  exact (sgC_rng c0 c1).2.symm
/-- none is nearer -/
theorem rdM_near (h : Fm e p) {x y X : Int} (hx : 0 ≤ x) (hy : 0 < y) (hX : x * sS e p = X * y) (hlt : rdM e p x y .ev < edge e p) {r : Int} (hr : Rep e p r) : (X - V p (rdM e p x y .ev)).natAbs ≤ (X - r).natAbs := by
  obtain ⟨⟨l0, l1⟩, l2, l3⟩ := Low_spec (y := y) h hx
  obtain ⟨L, hL⟩ : ∃ L, L = Low e p x y := ⟨_, rfl⟩
  rw [← hL] at l0 l1 l2 l3
  obtain ⟨g1, _, _, _, g5⟩ := V_facts h l0 l1
  have hv := (vf_rng h L).1.1
  have hS := sS_pos e p
  have hst := st_rng h L
  -- V L ≤ X
  have b1 : V p L ≤ X := by
    unfold leP at l2
    have m1 : (vf e p L).1 * y * sS e p ≤ x * (vf e p L).2 * sS e p := Int.mul_le_mul_of_nonneg_right l2 (Int.le_of_lt hS)
    have m2 : (vf e p L).1 * y * sS e p = V p L * (y * (vf e p L).2) := by
      have : (vf e p L).1 * y * sS e p = ((vf e p L).1 * sS e p) * y := by grind
      rw [this, g1]; grind
    have m3 : x * (vf e p L).2 * sS e p = X * (y * (vf e p L).2) := by
      have : x * (vf e p L).2 * sS e p = (x * sS e p) * (vf e p L).2 := by grind
      rw [this, hX]; grind
    rw [m2, m3] at m1
    exact Int.le_of_mul_le_mul_right m1 (Int.mul_pos hy hv)
  -- X < V (L + 1)
  have b2 : L + 1 < edge e p → X < V p (L + 1) := fun z => by
    have q := l3 (L + 1) (by omega) z
    unfold leP at q
    obtain ⟨u1, _⟩ := V_facts h (c := L + 1) (by omega) z
    have hv' := (vf_rng h (L + 1)).1.1
    have m1 : x * (vf e p (L + 1)).2 * sS e p < (vf e p (L + 1)).1 * y * sS e p := Int.mul_lt_mul_of_pos_right (by omega) hS
    have m2 : (vf e p (L + 1)).1 * y * sS e p = V p (L + 1) * (y * (vf e p (L + 1)).2) := by
      have : (vf e p (L + 1)).1 * y * sS e p = ((vf e p (L + 1)).1 * sS e p) * y := by grind
      rw [this, u1]; grind
    have m3 : x * (vf e p (L + 1)).2 * sS e p = X * (y * (vf e p (L + 1)).2) := by
      have : x * (vf e p (L + 1)).2 * sS e p = (x * sS e p) * (vf e p (L + 1)).2 := by grind
      rw [this, hX]; grind
    rw [m2, m3] at m1
    exact Int.lt_of_mul_lt_mul_right m1 (Int.le_of_lt (Int.mul_pos hy hv'))
  -- nearer to the next
  have b3 : L + 1 < edge e p → (nr e p L x y → V p (L + 1) - X ≤ X - V p L) ∧ (¬ nr e p L x y → X - V p L ≤ V p (L + 1) - X) := fun z => by
    have g6 := (g5.resolve_left (by omega)).1
    have hP : 0 < y * (vf e p L).2 * (st e p L).2 := Int.mul_pos (Int.mul_pos hy hv) hst.2.1
    have m1 : nrD e p L x y * sS e p = 2 * (X - V p L) * (y * (vf e p L).2 * (st e p L).2) := by
      unfold nrD
      have : 2 * (x * (vf e p L).2 - (vf e p L).1 * y) * (st e p L).2 * sS e p = 2 * ((x * sS e p) * (vf e p L).2 - ((vf e p L).1 * sS e p) * y) * (st e p L).2 := by grind
      rw [this, hX, g1]; grind
    have m2 : nrW e p L x y * sS e p = (V p (L + 1) - V p L) * (y * (vf e p L).2 * (st e p L).2) := by
      unfold nrW
      have : (st e p L).1 * y * (vf e p L).2 * sS e p = ((st e p L).1 * sS e p) * (y * (vf e p L).2) := by grind
      rw [this, g6]; grind
    constructor
    · intro q
      have q2 : nrW e p L x y ≤ nrD e p L x y := by
        rcases q with q | q
        · omega
        · omega
      have q3 : nrW e p L x y * sS e p ≤ nrD e p L x y * sS e p := Int.mul_le_mul_of_nonneg_right q2 (Int.le_of_lt hS)
      rw [m1, m2] at q3
      have := Int.le_of_mul_le_mul_right q3 hP
      omega
    · intro q
      have q2 : nrD e p L x y ≤ nrW e p L x y := by
        rcases Int.lt_or_le (nrW e p L x y) (nrD e p L x y) with z | z
        · exact absurd (.inl z) q
        · exact z
      have q3 : nrD e p L x y * sS e p ≤ nrW e p L x y * sS e p := Int.mul_le_mul_of_nonneg_right q2 (Int.le_of_lt hS)
      rw [m1, m2] at q3
      have := Int.le_of_mul_le_mul_right q3 hP
      omega
  have hj : jst e p x y → X = V p L := fun j => by
    unfold jst at j
    rw [← hL] at j
    have m2 : (vf e p L).1 * y * sS e p = V p L * (y * (vf e p L).2) := by
      have : (vf e p L).1 * y * sS e p = ((vf e p L).1 * sS e p) * y := by grind
      rw [this, g1]; grind
    have m3 : x * (vf e p L).2 * sS e p = X * (y * (vf e p L).2) := by
      have : x * (vf e p L).2 * sS e p = (x * sS e p) * (vf e p L).2 := by grind
      rw [this, hX]; grind
    rw [j, m3] at m2
    exact Int.eq_of_mul_eq_mul_right (Int.ne_of_gt (Int.mul_pos hy hv)) m2
  obtain ⟨c, c0, c1, rfl⟩ := hr
  have hlo : c ≤ L → V p c ≤ V p L := fun z => V_le h c0 z l1
  have hhi : L < c → L + 1 < edge e p ∧ V p (L + 1) ≤ V p c := fun z => ⟨by omega, V_le h (by omega) (by omega) c1⟩
  by_cases j : jst e p x y
  · have e1 : rdM e p x y .ev = L := by unfold rdM; rw [if_pos j, hL]
    rw [e1]
    have := hj j
    omega
  · by_cases u : rdU e p (Low e p x y) x y .ev
    · have e1 : rdM e p x y .ev = L + 1 := by unfold rdM; rw [if_neg j, if_pos u, hL]
      rw [e1] at hlt ⊢
      have n1 : nr e p L x y := by unfold rdU at u; rw [if_pos rfl, ← hL] at u; exact u
      have b2' := b2 hlt
      have b3' := (b3 hlt).1 n1
      rcases Int.lt_or_le L c with z | z
      · have := (hhi z).2; omega
      · have := hlo z; omega
    · have e1 : rdM e p x y .ev = L := by unfold rdM; rw [if_neg j, if_neg u, hL]
      rw [e1]
      have n1 : ¬ nr e p L x y := fun z => u (by unfold rdU; rw [if_pos rfl, ← hL]; exact z)
      rcases Int.lt_or_le L c with z | z
      · obtain ⟨z1, z2⟩ := hhi z
        have b3' := (b3 z1).2 n1
        omega
      · have := hlo z; omega
end
end KL

set_option maxRecDepth 100000
namespace KL
open PySem Ev
local macro_rules | `(tactic| walk_at "st") => `(tactic| dsimp only [start0, List.length_cons, List.length_nil, List.replicate, List.cons_append, List.nil_append, Nat.reduceSub, Nat.reduceAdd])
local macro_rules | `(tactic| walk_at "ev") => `(tactic| simp (disch := omega) only [sSeq, sSet, sExpr, sRet, sRetN, sIf, sBrk, sCnt, sRaise, sNil, sAsg, sAug, sPar2, sFor, tName, tTup, tsCons, tsNil, tSub, eVar, eC, eOp, eUn, aNil, aCons, eTup, eLst, eCall, eBlt, gcF, gcE, eNot, eAnd, eOr, eIf, eChain, eTold, eMt, eSl, withPart, iR1, iR2, iR3, iSeq, Ev.iEnum, Res.bnd, Res.bndS, Res.bndA, Res.bndI, Rss.bnd, Rss.bndA, Rss.bndS, Rss.bndI, Itm.bnd, Itm.bndS, Out.bnd, Res.tst, Res.tstS, Res.tstA, gv, sv, tru, al, toRes, C.psh, endG, gOk, bAdd, bSub, uNeg, cLt, cLe, cGt, cGe, iAdd, lenD, intD, absD, if_true, if_false, Bool.false_eq_true, ite_true, ite_false, decide_true, decide_false, Bool.not_true, Bool.not_false, Bool.and_true, Bool.and_false, Bool.true_and, Bool.false_and, Int.zero_sub, and_true, true_and, and_false, false_and, not_true_eq_false, not_false_eq_true, finF_same, fin_same', cEq_int, cNe_int, decide_eq_true_eq, Bool.not_eq_true', decide_eq_false_iff_not, ite_not])
local macro_rules | `(tactic| walk_at "ew") => `(tactic| repeat (first | walk_at "ev" | (simp (disch := omega) only [ev_power_of, ev_check, ev_check_code, ev_meaning, ev_code_of, ev_widened, div_pow, mod_pow])))
/-- a code that has a value -/
structure Fin (e p : Nat) (c : Int) : Prop where
  lo : 0 ≤ c
  hi : c < 2 ^ (1 + e + p)
  fin : bare e p c < edge e p
/-- a fraction that is n least steps -/
structure Is (e p : Nat) (q : Int × Int) (n : Int) : Prop where
  pos : 0 < q.2
  eq : q.1 * sS e p = n * q.2
section
variable {e p : Nat}
theorem fr_eq {a b : Int} (h : 0 < b) : (fr a b).1 * b = a * (fr a b).2 := by
  have hg := gI_pos (a := a) (b := b) (by omega)
  have d1 : ((gI a b : Nat) : Int) ∣ a := Int.ofNat_dvd_left.mpr (Nat.gcd_dvd_right _ _)
  have d2 : ((gI a b : Nat) : Int) ∣ b := Int.ofNat_dvd_left.mpr (Nat.gcd_dvd_left _ _)
  obtain ⟨x, hx⟩ := d1
  obtain ⟨y, hy⟩ := d2
  have hg0 : ((gI a b : Nat) : Int) ≠ 0 := by omega
  have e1 : (fr a b).1 = x := by
    show a / ((gI a b : Nat) : Int) = x
    conv => lhs; lhs; rw [hx]
    exact Int.mul_ediv_cancel_left x hg0
  have e2 : (fr a b).2 = y := by
    show b / ((gI a b : Nat) : Int) = y
    conv => lhs; lhs; rw [hy]
    exact Int.mul_ediv_cancel_left y hg0
  rw [e1, e2]
  have g1 : x * b = x * (((gI a b : Nat) : Int) * y) := by rw [← hy]
  have g2 : a * y = ((gI a b : Nat) : Int) * x * y := by rw [← hx]
  rw [g1, g2]
  grind
theorem is_fr {t d n : Int} (h : Is e p (t, d) n) : Is e p (fr t d) n := by
  have hd : 0 < d := h.pos
  have he : t * sS e p = n * d := h.eq
  refine ⟨(fr_den hd).1, ?_⟩
  have q := fr_eq (a := t) hd
  refine Int.eq_of_mul_eq_mul_right (Int.ne_of_gt hd) ?_
  have g1 : (fr t d).1 * sS e p * d = (fr t d).1 * d * sS e p := by grind
  rw [g1, q]
  have g2 : t * (fr t d).2 * sS e p = t * sS e p * (fr t d).2 := by grind
  rw [g2, he]
  grind
theorem is_add {q r : Int × Int} {n m : Int} (h1 : Is e p q n) (h2 : Is e p r m) : Is e p (q.1 * r.2 + r.1 * q.2, q.2 * r.2) (n + m) := by
  refine ⟨Int.mul_pos h1.pos h2.pos, ?_⟩
  show (q.1 * r.2 + r.1 * q.2) * sS e p = (n + m) * (q.2 * r.2)
  have g : (q.1 * r.2 + r.1 * q.2) * sS e p = (q.1 * sS e p) * r.2 + (r.1 * sS e p) * q.2 := by grind
  rw [g, h1.eq, h2.eq]
  grind
theorem is_neg {q : Int × Int} {n : Int} (h : Is e p q n) : Is e p (0 - q.1, q.2) (0 - n) := by
  refine ⟨h.pos, ?_⟩
  show (0 - q.1) * sS e p = (0 - n) * q.2
  rw [Int.sub_mul, Int.sub_mul, h.eq]
  omega
theorem is_cross {q r : Int × Int} {n : Int} (h1 : Is e p q n) (h2 : Is e p r n) : q.1 * r.2 = r.1 * q.2 := by
  have hS := sS_pos e p
  refine Int.eq_of_mul_eq_mul_right (Int.ne_of_gt hS) ?_
  have g1 : q.1 * r.2 * sS e p = (q.1 * sS e p) * r.2 := by grind
  have g2 : r.1 * q.2 * sS e p = (r.1 * sS e p) * q.2 := by grind
  rw [g1, g2, h1.eq, h2.eq]
  grind
theorem is_inj {q r : Int × Int} {n : Int} (h1 : Is e p q n) (h2 : Is e p r n) (r1 : Rdc q) (r2 : Rdc r) : q = r := rdc_eq r1 r2 (is_cross h1 h2)
theorem is_zero {q : Int × Int} {n : Int} (h : Is e p q n) : q.1 = 0 ↔ n = 0 := by
  have hS := sS_pos e p
  have he := h.eq
  constructor
  · intro z
    rw [z, Int.zero_mul] at he
    rcases Int.mul_eq_zero.mp he.symm with w | w
    · exact w
    · have := h.pos; omega
  · intro z
    rw [z, Int.zero_mul] at he
    rcases Int.mul_eq_zero.mp he with w | w
    · exact w
    · omega
theorem is_sgn {q : Int × Int} {n : Int} (h : Is e p q n) : q.1 < 0 ↔ n < 0 := by
  have hS := sS_pos e p
  have he := h.eq
  have hq := h.pos
  constructor
  · intro z
    have := Int.mul_neg_of_neg_of_pos z hS
    rcases Int.lt_or_le n 0 with w | w
    · exact w
    · have := Int.mul_nonneg w (Int.le_of_lt hq); omega
  · intro z
    have := Int.mul_neg_of_neg_of_pos z hq
    rcases Int.lt_or_le q.1 0 with w | w
    · exact w
    · have := Int.mul_nonneg w (Int.le_of_lt hS); omega
theorem is_le {q r : Int × Int} {n m : Int} (h1 : Is e p q n) (h2 : Is e p r m) : q.1 * r.2 ≤ r.1 * q.2 ↔ n ≤ m := by
  have hS := sS_pos e p
  have hP := Int.mul_pos h1.pos h2.pos
  have g1 : q.1 * r.2 * sS e p = n * (q.2 * r.2) := by
    have : q.1 * r.2 * sS e p = (q.1 * sS e p) * r.2 := by grind
    rw [this, h1.eq]; grind
  have g2 : r.1 * q.2 * sS e p = m * (q.2 * r.2) := by
    have : r.1 * q.2 * sS e p = (r.1 * sS e p) * q.2 := by grind
    rw [this, h2.eq]; grind
  constructor
  · intro z
    have w := Int.mul_le_mul_of_nonneg_right z (Int.le_of_lt hS)
    rw [g1, g2] at w
    exact Int.le_of_mul_le_mul_right w hP
  · intro z
    have w := Int.mul_le_mul_of_nonneg_right z (Int.le_of_lt hP)
    rw [← g1, ← g2] at w
    exact Int.le_of_mul_le_mul_right w hS
theorem is_vf (h : Fm e p) {c : Int} (f : Fin e p c) : Is e p (vf e p c) (sV e p c) := ⟨(vf_rng h c).1.1, vf_sV h f.lo f.hi f.fin⟩
theorem rep_V {c : Int} (f : Fin e p c) : Rep e p ((sV e p c).natAbs : Int) := by
  refine ⟨bare e p c, bare_nn c, f.fin, ?_⟩
  have hm : 0 ≤ V p (bare e p c) := by
    unfold V mx
    have h0 := bare_nn (e := e) (p := p) c
    have hp := pow_pos' p
    refine Int.mul_nonneg ?_ (Int.le_of_lt (pow_pos' _))
    split
    · exact h0
    · have := Int.emod_nonneg (bare e p c) (Int.ne_of_gt hp); omega
  unfold sV
  split <;> omega
theorem pow1 (e p : Nat) : (2 : Int) ^ (1 + e + p) = 2 * 2 ^ (e + p) := by rw [show 1 + e + p = (e + p) + 1 by omega, Int.pow_succ, Int.mul_comm]
/-- a code of what is less than the edge, with its sign -/
theorem fin_of (h : Fm e p) {k sg : Int} (k0 : 0 ≤ k) (k1 : k < edge e p) (hs : sg = 0 ∨ sg = 1) : Fin e p (sg * 2 ^ (e + p) + k) ∧ bare e p (sg * 2 ^ (e + p) + k) = k ∧ sV e p (sg * 2 ^ (e + p) + k) = if sg = 1 then 0 - V p k else V p k := by
  have hl := edge_lt h
  have hp := pow_pos' (e + p)
  have h2 := pow1 e p
  have hb : bare e p (sg * 2 ^ (e + p) + k) = k := by
    unfold bare
    rw [Int.add_comm, Int.add_mul_emod_self_right]
    exact Int.emod_eq_of_lt k0 (by omega)
  refine ⟨⟨?_, ?_, by rw [hb]; exact k1⟩, hb, ?_⟩
  · rcases hs with q | q <;> rw [q] <;> omega
  · rcases hs with q | q <;> rw [q] <;> omega
  · unfold sV
    rw [hb]
    rcases hs with q | q
    · rw [q, if_neg (by omega), if_neg (by omega)]
    · rw [q, if_pos (by omega), if_pos rfl]
theorem code_of (h : Fm e p) {n : Int} (hr : Rep e p (n.natAbs : Int)) : ∃ g, Fin e p g ∧ sV e p g = n ∧ (n ≠ 0 → bare e p g ≠ 0) := by
  obtain ⟨k, k0, k1, k2⟩ := hr
  by_cases q : n < 0
  · obtain ⟨f, b, v⟩ := fin_of h k0 k1 (.inr rfl)
    refine ⟨_, f, by rw [v, if_pos rfl]; omega, fun z w => ?_⟩
    rw [b] at w
    rw [w, V0] at k2
    omega
  · obtain ⟨f, b, v⟩ := fin_of h k0 k1 (.inl rfl)
    refine ⟨_, f, by rw [v, if_neg (by decide)]; omega, fun z w => ?_⟩
    rw [b] at w
    rw [w, V0] at k2
    omega
/-- rounding of what is less than the edge -/
theorem rd_fin (h : Fm e p) (a : Int) {y : Int} (w : Wy) : (bare e p (rd e p a y w) = rdM e p (a.natAbs : Int) y (if a < 0 then flp w else w)) ∧ (rdM e p (a.natAbs : Int) y (if a < 0 then flp w else w) < edge e p → Fin e p (rd e p a y w) ∧ sV e p (rd e p a y w) = if a < 0 then 0 - V p (rdM e p (a.natAbs : Int) y (if a < 0 then flp w else w)) else V p (rdM e p (a.natAbs : Int) y (if a < 0 then flp w else w))) := by
  have hr := rdM_rng h (x := (a.natAbs : Int)) (y := y) (by omega) (if a < 0 then flp w else w)
  have hl := edge_lt h
  rw [rd_mag]
  constructor
  · unfold bare
    rw [Int.add_comm, Int.add_mul_emod_self_right]
    exact Int.emod_eq_of_lt hr.1 (by omega)
  · intro hk
    have hsg : sgI a = 0 ∨ sgI a = 1 := by unfold sgI; split <;> simp
    obtain ⟨f, b, v⟩ := fin_of h hr.1 hk hsg
    refine ⟨f, v.trans ?_⟩
    have hi : sgI a = 1 ↔ a < 0 := by
      unfold sgI
      split <;> simp [*]
    by_cases q : a < 0
    · rw [if_pos (hi.mpr q)]; exact (if_pos q).symm
    · rw [if_neg (fun z => q (hi.mp z))]; exact (if_neg q).symm
/-- what has a code rounds to it -/
theorem rd_exact (h : Fm e p) {q : Int × Int} {n : Int} (hq : Is e p q n) (hn : n ≠ 0) (hr : Rep e p (n.natAbs : Int)) (w : Wy) : Fin e p (rd e p q.1 q.2 w) ∧ sV e p (rd e p q.1 q.2 w) = n := by
  obtain ⟨g, f, v, z⟩ := code_of h hr
  have hg := is_vf h f
  rw [v] at hg
  have := rd_self h f.lo f.hi f.fin (z hn) hq.pos (is_cross hq hg) w
  rw [this]
  exact ⟨f, v⟩
/-- the sum of two codes, as a fraction -/
def smQ (e p : Nat) (c d : Int) : Int × Int := fr (tpA e p c d) ((vf e p c).2 * (vf e p d).2)
theorem is_sm (h : Fm e p) {c d : Int} (f1 : Fin e p c) (f2 : Fin e p d) : Is e p (smQ e p c d) (sV e p c + sV e p d) := is_fr (is_add (is_vf h f1) (is_vf h f2))
theorem tpA_zero (h : Fm e p) {c d : Int} (f1 : Fin e p c) (f2 : Fin e p d) : tpA e p c d = 0 ↔ sV e p c + sV e p d = 0 := is_zero (is_add (is_vf h f1) (is_vf h f2))
theorem fin_kB (h : Fm e p) {c : Int} (f : Fin e p c) : kB e p c ≠ .none ∧ kB e p c ≠ .endless := (kB_fin h).mp f.fin
theorem ad_fin (h : Fm e p) {c d : Int} (f1 : Fin e p c) (f2 : Fin e p d) (w : Wy) : adS e p c d w = if sV e p c + sV e p d = 0 then (if sgC e p c = sgC e p d then sgC e p c else if w = .dn then 1 else 0) * 2 ^ (e + p) else rd e p (smQ e p c d).1 (smQ e p c d).2 w := by
  have k1 := fin_kB h f1
  have k2 := fin_kB h f2
  unfold adS
  rw [if_neg (fun z => z.elim k1.1 k2.1), if_neg (fun z => z.elim k1.2 k2.2)]
  exact ite_same2 (tpA_zero h f1 f2) (fun _ => rfl) (fun _ => rfl)
/-- a sum that has a code is it -/
theorem ad_exact (h : Fm e p) {c d : Int} (f1 : Fin e p c) (f2 : Fin e p d) (hr : Rep e p ((sV e p c + sV e p d).natAbs : Int)) (w : Wy) : Fin e p (adS e p c d w) ∧ sV e p (adS e p c d w) = sV e p c + sV e p d := by
  rw [ad_fin h f1 f2]
  by_cases q : sV e p c + sV e p d = 0
  · rw [if_pos q]
    have hs1 := sgC_rng f1.lo f1.hi
    obtain ⟨sg, hsg⟩ : ∃ sg, sg = (if sgC e p c = sgC e p d then sgC e p c else if w = .dn then 1 else 0) := ⟨_, rfl⟩
    rw [← hsg]
    have hs : sg = 0 ∨ sg = 1 := by
      rw [hsg]
      split
      · exact hs1.1
      · split <;> simp
    obtain ⟨f, _, v⟩ := fin_of h (Int.le_refl 0) (by have := edge_pos h; omega) hs
    rw [Int.add_zero] at f v
    refine ⟨f, ?_⟩
    rw [v, V0, q]
    split <;> rfl
  · rw [if_neg q]
    exact rd_exact h (is_sm h f1 f2) q hr w
/-- what a sum lacks has a code -/
theorem ad_left (h : Fm e p) {c d : Int} (f1 : Fin e p c) (f2 : Fin e p d) (hz : bare e p (adS e p c d .ev) < edge e p) : Fin e p (adS e p c d .ev) ∧ Rep e p ((sV e p c + sV e p d - sV e p (adS e p c d .ev)).natAbs : Int) := by
  by_cases q : sV e p c + sV e p d = 0
  · have hr : Rep e p ((sV e p c + sV e p d).natAbs : Int) := by
      rw [q]
      exact ⟨0, Int.le_refl _, by have := edge_pos h; omega, V0 p⟩
    obtain ⟨f, v⟩ := ad_exact h f1 f2 hr .ev
    refine ⟨f, ?_⟩
    rw [v, Int.sub_self]
    exact ⟨0, Int.le_refl _, by have := edge_pos h; omega, V0 p⟩
  · have hq := is_sm h f1 f2
    obtain ⟨n, hn⟩ : ∃ n, n = sV e p c + sV e p d := ⟨_, rfl⟩
    rw [ad_fin h f1 f2, if_neg q] at hz ⊢
    rw [← hn] at hq q ⊢
    obtain ⟨g1, g2⟩ := rd_fin h (smQ e p c d).1 (y := (smQ e p c d).2) .ev
    have hfl : (if (smQ e p c d).1 < 0 then flp .ev else .ev) = Wy.ev := by split <;> rfl
    rw [hfl] at g1 g2
    rw [g1] at hz
    obtain ⟨f, v⟩ := g2 hz
    refine ⟨f, ?_⟩
    have hsg := is_sgn hq
    have hX : (((smQ e p c d).1.natAbs : Nat) : Int) * sS e p = (n.natAbs : Int) * (smQ e p c d).2 := by
      have := hq.eq
      by_cases z : n < 0
      · have z1 := hsg.mpr z
        rw [show (((smQ e p c d).1.natAbs : Nat) : Int) = 0 - (smQ e p c d).1 by omega, show (n.natAbs : Int) = 0 - n by omega, Int.sub_mul, Int.sub_mul, this]
        omega
      · have z1 : ¬ (smQ e p c d).1 < 0 := fun y => z (hsg.mp y)
        rw [show (((smQ e p c d).1.natAbs : Nat) : Int) = (smQ e p c d).1 by omega, show (n.natAbs : Int) = n by omega, this]
    have hN : Rep e p (V p (rdM e p (((smQ e p c d).1.natAbs : Nat) : Int) (smQ e p c d).2 .ev)) := ⟨_, (rdM_rng h (by omega) _).1, hz, rfl⟩
    have key := rep_left h (rep_V f1) (rep_V f2) hN (X := (n.natAbs : Int)) (by omega) (by omega) (fun r hr => rdM_near h (by omega) hq.pos hX hz hr)
    have e1 : (n - sV e p (rd e p (smQ e p c d).1 (smQ e p c d).2 .ev)).natAbs = ((n.natAbs : Int) - V p (rdM e p (((smQ e p c d).1.natAbs : Nat) : Int) (smQ e p c d).2 .ev)).natAbs := by
      rw [v]
      by_cases z : n < 0
      · rw [if_pos (hsg.mpr z)]; omega
      · rw [if_neg (fun y => z (hsg.mp y))]; omega
    rw [e1]
    exact key
end
end KL

set_option maxRecDepth 100000
namespace KL
open PySem Ev
local macro_rules | `(tactic| walk_at "st") => `(tactic| dsimp only [start0, List.length_cons, List.length_nil, List.replicate, List.cons_append, List.nil_append, Nat.reduceSub, Nat.reduceAdd])
local macro_rules | `(tactic| walk_at "ev") => `(tactic| simp (disch := omega) only [sSeq, sSet, sExpr, sRet, sRetN, sIf, sBrk, sCnt, sRaise, sNil, sAsg, sAug, sPar2, sFor, tName, tTup, tsCons, tsNil, tSub, eVar, eC, eOp, eUn, aNil, aCons, eTup, eLst, eCall, eBlt, gcF, gcE, eNot, eAnd, eOr, eIf, eChain, eTold, eMt, eSl, withPart, iR1, iR2, iR3, iSeq, Ev.iEnum, Res.bnd, Res.bndS, Res.bndA, Res.bndI, Rss.bnd, Rss.bndA, Rss.bndS, Rss.bndI, Itm.bnd, Itm.bndS, Out.bnd, Res.tst, Res.tstS, Res.tstA, gv, sv, tru, al, toRes, C.psh, endG, gOk, bAdd, bSub, uNeg, cLt, cLe, cGt, cGe, iAdd, lenD, intD, absD, if_true, if_false, Bool.false_eq_true, ite_true, ite_false, decide_true, decide_false, Bool.not_true, Bool.not_false, Bool.and_true, Bool.and_false, Bool.true_and, Bool.false_and, Int.zero_sub, and_true, true_and, and_false, false_and, not_true_eq_false, not_false_eq_true, finF_same, fin_same', cEq_int, cNe_int, decide_eq_true_eq, Bool.not_eq_true', decide_eq_false_iff_not, ite_not])
local macro_rules | `(tactic| walk_at "ew") => `(tactic| repeat (first | walk_at "ev" | (simp (disch := omega) only [ev_power_of, ev_check, ev_check_code, ev_meaning, ev_code_of, ev_widened, div_pow, mod_pow])))
section
variable {e p : Nat}
theorem vf_nil (h : Fm e p) : (vf e p 0).1 = 0 := by
  have he := edge_pos h
  obtain ⟨f1, _⟩ := V_facts h (c := 0) (Int.le_refl 0) (by omega)
  rw [V0, Int.zero_mul] at f1
  rcases Int.mul_eq_zero.mp f1 with w | w
  · exact w
  · have := sS_pos e p; omega
theorem rd_zero (h : Fm e p) {y : Int} (hy : 0 < y) (w : Wy) : rd e p 0 y w = 0 := by
  have he := edge_pos h
  have h0 := vf_nil h
  have hL : (0 : Int) = Low e p ((0 : Int).natAbs : Int) y := by
    refine Low_uniq h (by decide) hy (Int.le_refl _) (by omega) ?_ ?_
    · unfold leP; rw [h0]; simp
    · right
      unfold leP
      have hv := vf_pos h (c := 1) (by decide) (by omega)
      intro z
      have : 0 < (vf e p (0 + 1)).1 * y := Int.mul_pos hv hy
      have e0 : (((0 : Int).natAbs : Nat) : Int) = 0 := rfl
      rw [e0, Int.zero_mul] at z
      omega
  have hj : jst e p ((0 : Int).natAbs : Int) y := by
    unfold jst
    rw [← hL, h0]
    simp
  rw [rd_mag]
  unfold rdM
  rw [if_pos hj, ← hL]
  simp [sgI]
/-- what has a code rounds to it, nought too -/
theorem rd_exact0 (h : Fm e p) {q : Int × Int} {n : Int} (hq : Is e p q n) (hr : Rep e p (n.natAbs : Int)) (w : Wy) : Fin e p (rd e p q.1 q.2 w) ∧ sV e p (rd e p q.1 q.2 w) = n := by
  by_cases z : n = 0
  · have q0 := (is_zero hq).mpr z
    rw [q0, rd_zero h hq.pos, z]
    have he := edge_pos h
    obtain ⟨f, _, v⟩ := fin_of h (Int.le_refl 0) (by omega) (.inl rfl : (0 : Int) = 0 ∨ (0 : Int) = 1)
    rw [Int.zero_mul, Int.add_zero] at f v
    exact ⟨f, by rw [v, V0]; rfl⟩
  · exact rd_exact h hq z hr w
theorem vl_fin (h : Fm e p) {c : Int} (f : Fin e p c) : vl e p c = some (vf e p c) := by
  have := (fin_iff h).mpr f.fin
  unfold vl
  rw [if_neg this]
theorem vl_cases (h : Fm e p) {c : Int} (c0 : 0 ≤ c) (c1 : c < 2 ^ (1 + e + p)) : (vl e p c = none ∧ ¬ bare e p c < edge e p) ∨ (vl e p c = some (vf e p c) ∧ Fin e p c) := by
  by_cases q : bare e p c < edge e p
  · exact .inr ⟨vl_fin h ⟨c0, c1, q⟩, ⟨c0, c1, q⟩⟩
  · left
    refine ⟨?_, q⟩
    have := mt (fin_iff h).mp q
    exact vD_non.mpr (Classical.not_not.mp this)
/-- turned -/
def tn (e p : Nat) (c : Int) : Int := if c ≥ 2 ^ (e + p) then c - 2 ^ (e + p) else c + 2 ^ (e + p)
theorem tn_facts (h : Fm e p) {c : Int} (c0 : 0 ≤ c) (c1 : c < 2 ^ (1 + e + p)) : (0 ≤ tn e p c ∧ tn e p c < 2 ^ (1 + e + p)) ∧ bare e p (tn e p c) = bare e p c ∧ sgC e p (tn e p c) = 1 - sgC e p c ∧ kB e p (tn e p c) = kB e p c := by
  have hp := pow_pos' (e + p)
  have h2 := pow1 e p
  have hb : bare e p (tn e p c) = bare e p c := by
    unfold bare tn
    split
    · rw [Int.sub_emod, Int.emod_self, Int.sub_zero, Int.emod_emod_of_dvd _ (Int.dvd_refl _)]
    · exact Int.add_emod_right _ _
  refine ⟨?_, hb, ?_, by unfold kB; rw [hb]⟩
  · unfold tn; split <;> omega
  · rcases fin_cases h c0 c1 with ⟨q1, q2, q3⟩ | ⟨q1, q2, q3⟩
    · rw [q1]
      unfold tn sgC
      rw [if_neg q3, Int.add_ediv_of_dvd_right (Int.dvd_refl _), Int.ediv_self (Int.ne_of_gt hp)]
      unfold sgC at q1
      omega
    · rw [q1]
      unfold tn sgC
      rw [if_pos q3]
      have := bare_nn (e := e) (p := p) c
      have hbl : bare e p c < 2 ^ (e + p) := Int.emod_lt_of_pos _ hp
      rw [show c - 2 ^ (e + p) = bare e p c by omega]
      exact Int.ediv_eq_zero_of_lt this hbl
theorem tn_fin (h : Fm e p) {c : Int} (f : Fin e p c) : Fin e p (tn e p c) ∧ sV e p (tn e p c) = 0 - sV e p c ∧ vf e p (tn e p c) = (0 - (vf e p c).1, (vf e p c).2) := by
  obtain ⟨⟨t0, t1⟩, tb, ts, _⟩ := tn_facts h f.lo f.hi
  have ft : Fin e p (tn e p c) := ⟨t0, t1, by rw [tb]; exact f.fin⟩
  have hs : sV e p (tn e p c) = 0 - sV e p c := by
    unfold sV
    rw [tb]
    rcases fin_cases h f.lo f.hi with ⟨q1, q2, q3⟩ | ⟨q1, q2, q3⟩
    · rcases fin_cases h t0 t1 with ⟨r1, r2, r3⟩ | ⟨r1, r2, r3⟩
      · rw [ts, q1] at r1; cases r1
      · rw [if_pos r3, if_neg q3]
    · rcases fin_cases h t0 t1 with ⟨r1, r2, r3⟩ | ⟨r1, r2, r3⟩
      · rw [if_neg r3, if_pos q3]; omega
      · rw [ts, q1] at r1; cases r1
  refine ⟨ft, hs, ?_⟩
  have i1 := is_vf h ft
  rw [hs] at i1
  have i2 := is_neg (is_vf h f)
  have r := vf_rdc e p c
  exact is_inj i1 i2 (vf_rdc _ _ _) ⟨r.pos, by
    have : (0 - (vf e p c).1).natAbs = (vf e p c).1.natAbs := by omega
    show Nat.gcd (0 - (vf e p c).1).natAbs _ = 1
    rw [this]
    exact r.cop⟩
theorem nth_none (h : Fm e p) : kB e p (nthC e p) = .none := by
  obtain ⟨h1, h2, h3, h4⟩ := h
  have he : e = 2 ∨ e = 3 ∨ e = 4 := by omega
  have hp : p = 1 ∨ p = 2 ∨ p = 3 ∨ p = 4 := by omega
  rcases he with rfl | rfl | rfl <;> rcases hp with rfl | rfl | rfl | rfl <;> decide +kernel
/-- (a) no value goes into no value -/
theorem m_none (h : Fm e p) {c d : Int} (hcd : ¬ bare e p c < edge e p ∨ ¬ bare e p d < edge e p) (w : Wy) : kB e p (adS e p c d w) = .none ∨ kB e p (adS e p c d w) = .endless := by
  have hb : ∀ x, ¬ bare e p x < edge e p → kB e p x = .none ∨ kB e p x = .endless := fun x z => by
    rcases Int.lt_trichotomy (bare e p x) (edge e p) with q | q | q
    · exact absurd q z
    · exact .inr (kB_endless.mpr q)
    · exact .inl (kB_none.mpr q)
  unfold adS
  by_cases q1 : kB e p c = .none ∨ kB e p d = .none
  · rw [if_pos q1]; exact .inl (nth_none h)
  · rw [if_neg q1]
    have q2 : kB e p c = .endless ∨ kB e p d = .endless := hcd.imp (fun z => (hb c z).resolve_left fun y => q1 (.inl y)) (fun z => (hb d z).resolve_left fun y => q1 (.inr y))
    rw [if_pos q2]
    split
    · exact .inl (nth_none h)
    · split
      · rename_i z; exact .inr z
      · rename_i z; exact .inr (q2.resolve_left z)
/-- (b) near ones -/
theorem m_near (h : Fm e p) {c d : Int} (f1 : Fin e p c) (f2 : Fin e p d) (n1 : (vf e p c).1 * (vf e p d).1 > 0) (n2 : ¬ lsP (2 * ((vf e p c).1.natAbs : Int), (vf e p c).2) (((vf e p d).1.natAbs : Int), (vf e p d).2)) (n3 : ¬ lsP (2 * ((vf e p d).1.natAbs : Int), (vf e p d).2) (((vf e p c).1.natAbs : Int), (vf e p c).2)) :
    Fin e p (adS e p c (tn e p d) .ev) ∧ (vf e p (adS e p c (tn e p d) .ev)).1 * (vf e p c).2 * (vf e p d).2 = ((vf e p c).1 * (vf e p d).2 - (vf e p d).1 * (vf e p c).2) * (vf e p (adS e p c (tn e p d) .ev)).2 := by
  have i1 := is_vf h f1
  have i2 := is_vf h f2
  obtain ⟨ft, hs, hv⟩ := tn_fin h f2
  have g1 := is_sgn i1
  have g2 := is_sgn i2
  have z1 := is_zero i1
  have z2 := is_zero i2
  -- sizes
  have ab : ∀ {q : Int × Int} {n : Int}, Is e p q n → Is e p ((q.1.natAbs : Int), q.2) (n.natAbs : Int) := fun {q n} i => by
    refine ⟨i.pos, ?_⟩
    show (q.1.natAbs : Int) * sS e p = (n.natAbs : Int) * q.2
    have hsg := is_sgn i
    have := i.eq
    by_cases z : n < 0
    · have z1 := hsg.mpr z
      rw [show (q.1.natAbs : Int) = 0 - q.1 by omega, show (n.natAbs : Int) = 0 - n by omega, Int.sub_mul, Int.sub_mul, this]
      omega
    · have z1 : ¬ q.1 < 0 := fun y => z (hsg.mp y)
      rw [show (q.1.natAbs : Int) = q.1 by omega, show (n.natAbs : Int) = n by omega, this]
  have tw : ∀ {q : Int × Int} {n : Int}, Is e p q n → Is e p (2 * q.1, q.2) (2 * n) := fun {q n} i => ⟨i.pos, by
    show 2 * q.1 * sS e p = 2 * n * q.2
    rw [Int.mul_assoc, i.eq, Int.mul_assoc]⟩
  have l2 := (is_le (ab i2) (tw (ab i1))).mp (by unfold lsP at n2; exact Int.not_lt.mp n2)
  have l3 := (is_le (ab i1) (tw (ab i2))).mp (by unfold lsP at n3; exact Int.not_lt.mp n3)
  have sg : (sV e p c < 0 ∧ sV e p d < 0) ∨ (0 < sV e p c ∧ 0 < sV e p d) := by
    rcases Int.lt_trichotomy (vf e p c).1 0 with q | q | q
    · left
      refine ⟨g1.mp q, g2.mp ?_⟩
      rcases Int.lt_or_le (vf e p d).1 0 with r | r
      · exact r
      · have := Int.mul_nonneg_of_nonpos_of_nonpos (a := (vf e p c).1) (b := 0 - (vf e p d).1) (by omega) (by omega)
        rw [Int.mul_sub, Int.mul_zero] at this
        omega
    · rw [q, Int.zero_mul] at n1; omega
    · right
      have r : 0 < (vf e p d).1 := by
        rcases Int.lt_or_le 0 (vf e p d).1 with r | r
        · exact r
        · have := Int.mul_nonneg (a := (vf e p c).1) (b := 0 - (vf e p d).1) (by omega) (by omega)
          rw [Int.mul_sub, Int.mul_zero] at this
          omega
      have w1 : ¬ sV e p c < 0 := fun z => by have := g1.mpr z; omega
      have w2 : ¬ sV e p d < 0 := fun z => by have := g2.mpr z; omega
      have w3 : sV e p c ≠ 0 := fun z => by have := z1.mpr z; omega
      have w4 : sV e p d ≠ 0 := fun z => by have := z2.mpr z; omega
      omega
  have hr : Rep e p ((sV e p c + sV e p (tn e p d)).natAbs : Int) := by
    rw [hs]
    rcases Int.le_total ((sV e p d).natAbs : Int) ((sV e p c).natAbs : Int) with q | q
    · have := rep_near h (rep_V f1) (rep_V f2) q (by omega)
      rw [show (((sV e p c + (0 - sV e p d)).natAbs : Nat) : Int) = ((sV e p c).natAbs : Int) - ((sV e p d).natAbs : Int) by omega]
      exact this
    · have := rep_near h (rep_V f2) (rep_V f1) q (by omega)
      rw [show (((sV e p c + (0 - sV e p d)).natAbs : Nat) : Int) = ((sV e p d).natAbs : Int) - ((sV e p c).natAbs : Int) by omega]
      exact this
  obtain ⟨f, v⟩ := ad_exact h f1 ft hr .ev
  refine ⟨f, ?_⟩
  have j1 := is_vf h f
  rw [v, hs] at j1
  have j2 := is_add i1 (is_neg i2)
  have := is_cross j1 j2
  rw [Int.mul_assoc, this]
  show ((vf e p c).1 * (vf e p d).2 + (0 - (vf e p d).1) * (vf e p c).2) * _ = _
  rw [Int.sub_mul 0, Int.zero_mul]
  congr 1
  omega
/-- (c) what is lacking comes back -/
theorem m_gap (h : Fm e p) {c d : Int} (f1 : Fin e p c) (f2 : Fin e p d) (hz : vl e p (adS e p c d .ev) ≠ none) :
    Fin e p (adS e p c d .ev) ∧ Fin e p (rd e p (gapF e p c d (adS e p c d .ev)).1 (gapF e p c d (adS e p c d .ev)).2 .ze) ∧ vf e p (rd e p (gapF e p c d (adS e p c d .ev)).1 (gapF e p c d (adS e p c d .ev)).2 .ze) = gapF e p c d (adS e p c d .ev) ∧ ((gapF e p c d (adS e p c d .ev)).1 ≠ 0 → adS e p (adS e p c d .ev) (rd e p (gapF e p c d (adS e p c d .ev)).1 (gapF e p c d (adS e p c d .ev)).2 .ze) .ev = adS e p c d .ev) := by
  have zb : bare e p (adS e p c d .ev) < edge e p := (fin_iff h).mp (fun z => hz (vD_non.mpr z))
  obtain ⟨fz, hr⟩ := ad_left h f1 f2 zb
  obtain ⟨z, hzz⟩ : ∃ z, z = adS e p c d .ev := ⟨_, rfl⟩
  rw [← hzz] at fz hr ⊢
  have i1 := is_vf h f1
  have i2 := is_vf h f2
  have i3 := is_vf h fz
  have ig : Is e p (gapF e p c d z) (sV e p c + sV e p d - sV e p z) := by
    have j := is_add (is_add i1 i2) (is_neg i3)
    have e1 : gapF e p c d z = fr (((vf e p c).1 * (vf e p d).2 + (vf e p d).1 * (vf e p c).2) * (vf e p z).2 + (0 - (vf e p z).1) * ((vf e p c).2 * (vf e p d).2)) ((vf e p c).2 * (vf e p d).2 * (vf e p z).2) := by
      unfold gapF tpA
      congr 1
      rw [Int.sub_mul 0, Int.zero_mul, Int.mul_assoc (vf e p z).1]
      omega
    rw [e1]
    have := is_fr j
    rw [show sV e p c + sV e p d - sV e p z = sV e p c + sV e p d + (0 - sV e p z) by omega]
    exact this
  have gr : Rdc (gapF e p c d z) := fr_rdc (den4 h c d z).1
  obtain ⟨fb, vb⟩ := rd_exact0 h ig hr .ze
  obtain ⟨b, hb⟩ : ∃ b, b = rd e p (gapF e p c d z).1 (gapF e p c d z).2 .ze := ⟨_, rfl⟩
  rw [← hb] at fb vb ⊢
  have ib := is_vf h fb
  rw [vb] at ib
  refine ⟨fz, fb, is_inj ib ig (vf_rdc _ _ _) gr, fun g0 => ?_⟩
  have hn : sV e p c + sV e p d - sV e p z ≠ 0 := fun y => g0 ((is_zero ig).mpr y)
  have hn2 : sV e p c + sV e p d ≠ 0 := fun y => by
    have r0 : Rep e p ((sV e p c + sV e p d).natAbs : Int) := by
      rw [y]; exact ⟨0, Int.le_refl _, by have := edge_pos h; omega, V0 p⟩
    have := (ad_exact h f1 f2 r0 .ev).2
    rw [← hzz] at this
    omega
  have s1 := is_sm h f1 f2
  have s2 := is_sm h fz fb
  rw [vb, show sV e p z + (sV e p c + sV e p d - sV e p z) = sV e p c + sV e p d by omega] at s2
  have se : smQ e p z b = smQ e p c d := is_inj s2 s1 (fr_rdc (Int.mul_pos i3.pos (is_vf h fb).pos)) (fr_rdc (Int.mul_pos i1.pos i2.pos))
  rw [ad_fin h fz fb, vb, show sV e p z + (sV e p c + sV e p d - sV e p z) = sV e p c + sV e p d by omega, if_neg hn2, se, hzz, ad_fin h f1 f2, if_neg hn2]
end
end KL

set_option maxRecDepth 100000
namespace KL
open PySem Ev
local macro_rules | `(tactic| walk_at "st") => `(tactic| dsimp only [start0, List.length_cons, List.length_nil, List.replicate, List.cons_append, List.nil_append, Nat.reduceSub, Nat.reduceAdd])
local macro_rules | `(tactic| walk_at "ev") => `(tactic| simp (disch := omega) only [sSeq, sSet, sExpr, sRet, sRetN, sIf, sBrk, sCnt, sRaise, sNil, sAsg, sAug, sPar2, sFor, tName, tTup, tsCons, tsNil, tSub, eVar, eC, eOp, eUn, aNil, aCons, eTup, eLst, eCall, eBlt, gcF, gcE, eNot, eAnd, eOr, eIf, eChain, eTold, eMt, eSl, withPart, iR1, iR2, iR3, iSeq, Ev.iEnum, Res.bnd, Res.bndS, Res.bndA, Res.bndI, Rss.bnd, Rss.bndA, Rss.bndS, Rss.bndI, Itm.bnd, Itm.bndS, Out.bnd, Res.tst, Res.tstS, Res.tstA, gv, sv, tru, al, toRes, C.psh, endG, gOk, bAdd, bSub, uNeg, cLt, cLe, cGt, cGe, iAdd, lenD, intD, absD, if_true, if_false, Bool.false_eq_true, ite_true, ite_false, decide_true, decide_false, Bool.not_true, Bool.not_false, Bool.and_true, Bool.and_false, Bool.true_and, Bool.false_and, Int.zero_sub, and_true, true_and, and_false, false_and, not_true_eq_false, not_false_eq_true, finF_same, fin_same', cEq_int, cNe_int, decide_eq_true_eq, Bool.not_eq_true', decide_eq_false_iff_not, ite_not])
local macro_rules | `(tactic| walk_at "ew") => `(tactic| repeat (first | walk_at "ev" | (simp (disch := omega) only [ev_power_of, ev_check, ev_check_code, ev_meaning, ev_code_of, ev_widened, div_pow, mod_pow])))
section
variable {e p : Nat}
theorem plc_sg {sg : Int} (hs : sg = 0 ∨ sg = 1) : plc e p (sg * 2 ^ (e + p)) = 0 := by
  have hp := pow_pos' (e + p)
  unfold plc
  rcases hs with q | q
  · rw [q, if_neg (by omega)]; omega
  · rw [q, if_pos (by omega)]; omega
theorem nought_iff (h : Fm e p) {c : Int} (f : Fin e p c) : kB e p c = .nought ↔ (vf e p c).1 = 0 := by
  rw [kB_nought h, is_zero (is_vf h f)]
  have hn := bare_nn (e := e) (p := p) c
  constructor
  · intro q
    unfold sV
    rw [q, V0]
    split <;> rfl
  · intro q
    rcases Int.lt_or_eq_of_le hn with z | z
    · have := V_mono h (Int.le_refl 0) z f.fin
      rw [V0] at this
      unfold sV at q
      split at q <;> omega
    · exact z.symm
theorem sg2_rng (c d : Int) : sg2 e p c d = 0 ∨ sg2 e p c d = 1 := by unfold sg2; split <;> simp
def muQ (e p : Nat) (c d : Int) : Int × Int := fr ((vf e p c).1 * (vf e p d).1) ((vf e p c).2 * (vf e p d).2)
def diQ (e p : Nat) (c d : Int) : Int × Int := frs ((vf e p c).1 * (vf e p d).2) ((vf e p c).2 * (vf e p d).1)
theorem mu_fin (h : Fm e p) {c d : Int} (f1 : Fin e p c) (f2 : Fin e p d) (w : Wy) : muS e p c d w = if (vf e p c).1 = 0 ∨ (vf e p d).1 = 0 then sg2 e p c d * 2 ^ (e + p) else rd e p (muQ e p c d).1 (muQ e p c d).2 w := by
  have k1 := fin_kB h f1
  have k2 := fin_kB h f2
  unfold muS
  rw [if_neg (fun z => z.elim (fun y => y.elim k1.1 k2.1) (fun y => y.1.elim k1.2 k2.2)), if_neg (fun z => z.elim k1.2 k2.2)]
  exact ite_same2 (by rw [nought_iff h f1, nought_iff h f2]) (fun _ => rfl) (fun _ => rfl)
theorem di_fin (h : Fm e p) {c d : Int} (f1 : Fin e p c) (f2 : Fin e p d) (w : Wy) : diS e p c d w = if (vf e p c).1 = 0 ∧ (vf e p d).1 = 0 then nthC e p else if (vf e p d).1 = 0 then sg2 e p c d * 2 ^ (e + p) + edge e p else if (vf e p c).1 = 0 then sg2 e p c d * 2 ^ (e + p) else rd e p (diQ e p c d).1 (diQ e p c d).2 w := by
  have k1 := fin_kB h f1
  have k2 := fin_kB h f2
  have i1 := nought_iff h f1
  have i2 := nought_iff h f2
  unfold diS
  refine ite_same2 ⟨fun z => ?_, fun z => .inr (.inr ⟨i1.mpr z.1, i2.mpr z.2⟩)⟩ (fun _ => rfl) (fun _ => ite_same2 ⟨fun z => i2.mp (z.resolve_left k1.2), fun z => .inr (i2.mpr z)⟩ (fun _ => rfl) (fun _ => ite_same2 ⟨fun z => i1.mp (z.resolve_left k2.2), fun z => .inr (i1.mpr z)⟩ (fun _ => rfl) (fun _ => rfl)))
  rcases z with z | z | z
  · exact absurd z (fun y => y.elim k1.1 k2.1)
  · exact absurd z.1 k1.2
  · exact ⟨i1.mp z.1, i2.mp z.2⟩
theorem fr_zero {d : Int} (hd : 0 < d) : (fr 0 d).1 = 0 := by
  have := fr_eq (a := 0) hd
  rw [Int.zero_mul] at this
  rcases Int.mul_eq_zero.mp this with w | w
  · exact w
  · omega
theorem plc_ad (h : Fm e p) {c d : Int} (f1 : Fin e p c) (f2 : Fin e p d) (w : Wy) : plc e p (adS e p c d w) = plc e p (rd e p (smQ e p c d).1 (smQ e p c d).2 w) := by
  rw [ad_fin h f1 f2]
  by_cases q : sV e p c + sV e p d = 0
  · rw [if_pos q, (is_zero (is_sm h f1 f2)).mpr q, rd_zero h (is_sm h f1 f2).pos]
    have hs1 := (sgC_rng f1.lo f1.hi).1
    have := plc_sg (e := e) (p := p) (sg := 0) (.inl rfl)
    rw [Int.zero_mul] at this
    rw [this]
    refine plc_sg ?_
    split
    · exact hs1
    · split <;> simp
  · rw [if_neg q]
theorem plc_mu (h : Fm e p) {c d : Int} (f1 : Fin e p c) (f2 : Fin e p d) (w : Wy) : plc e p (muS e p c d w) = plc e p (rd e p (muQ e p c d).1 (muQ e p c d).2 w) := by
  have hd := Int.mul_pos (is_vf h f1).pos (is_vf h f2).pos
  rw [mu_fin h f1 f2]
  by_cases q : (vf e p c).1 = 0 ∨ (vf e p d).1 = 0
  · have e0 : (muQ e p c d).1 = 0 := by
      unfold muQ
      rw [Int.mul_eq_zero.mpr q]
      exact fr_zero hd
    have := plc_sg (e := e) (p := p) (sg := 0) (.inl rfl)
    rw [Int.zero_mul] at this
    rw [if_pos q, e0, rd_zero h (y := (muQ e p c d).2) (fr_den hd).1, this]
    exact plc_sg (sg2_rng c d)
  · rw [if_neg q]
theorem plc_di (h : Fm e p) {c d : Int} (f1 : Fin e p c) (f2 : Fin e p d) (hd : 0 < (vf e p d).1) (w : Wy) : plc e p (diS e p c d w) = plc e p (rd e p (fr ((vf e p c).1 * (vf e p d).2) ((vf e p c).2 * (vf e p d).1)).1 (fr ((vf e p c).1 * (vf e p d).2) ((vf e p c).2 * (vf e p d).1)).2 w) := by
  have hp := Int.mul_pos (is_vf h f1).pos hd
  have e1 : diQ e p c d = fr ((vf e p c).1 * (vf e p d).2) ((vf e p c).2 * (vf e p d).1) := by unfold diQ frs; rw [if_pos hp]
  rw [di_fin h f1 f2, if_neg (fun z => by omega), if_neg (by omega), e1]
  by_cases q : (vf e p c).1 = 0
  · have := plc_sg (e := e) (p := p) (sg := 0) (.inl rfl)
    rw [Int.zero_mul] at this
    rw [if_pos q, q, Int.zero_mul, fr_zero hp, rd_zero h (fr_den hp).1, this]
    exact plc_sg (sg2_rng c d)
  · rw [if_neg q]
theorem fr_le {t d t' d' : Int} (hd : 0 < d) (hd' : 0 < d') (hle : t * d' ≤ t' * d) : (fr t d).1 * (fr t' d').2 ≤ (fr t' d').1 * (fr t d).2 := by
  have g1 := fr_eq (a := t) hd
  have g2 := fr_eq (a := t') hd'
  have p1 := (fr_den (a := t) hd).1
  have p2 := (fr_den (a := t') hd').1
  generalize (fr t d).1 = x at *
  generalize (fr t d).2 = y at *
  generalize (fr t' d').1 = x' at *
  generalize (fr t' d').2 = y' at *
  have m := Int.mul_le_mul_of_nonneg_right hle (Int.le_of_lt (Int.mul_pos p1 p2))
  have k1 : t * d' * (y * y') = x * y' * (d * d') := by
    have : t * d' * (y * y') = (t * y) * (d' * y') := by grind
    rw [this, ← g1]; grind
  have k2 : t' * d * (y * y') = x' * y * (d * d') := by
    have : t' * d * (y * y') = (t' * y') * (d * y) := by grind
    rw [this, ← g2]; grind
  rw [k1, k2] at m
  exact Int.le_of_mul_le_mul_right m (Int.mul_pos hd hd')
/-- (g) what goes up -/
theorem m_ad_mono (h : Fm e p) {c d t : Int} (f1 : Fin e p c) (f2 : Fin e p d) (f3 : Fin e p t) (hcd : ¬ lsP (vf e p d) (vf e p c)) (w : Wy) : ¬ lsS e p (adS e p d t w) (adS e p c t w) := by
  have i1 := is_vf h f1
  have i2 := is_vf h f2
  have hle := (is_le i1 i2).mp (by unfold lsP at hcd; exact Int.not_lt.mp hcd)
  have s1 := is_sm h f1 f3
  have s2 := is_sm h f2 f3
  have m := rd_mono h s1.pos s2.pos ((is_le s1 s2).mpr (by omega)) w
  rw [← plc_ad h f1 f3, ← plc_ad h f2 f3] at m
  intro z
  have := z.2
  omega
theorem m_mu_mono (h : Fm e p) {c d t : Int} (f1 : Fin e p c) (f2 : Fin e p d) (f3 : Fin e p t) (hcd : ¬ lsP (vf e p d) (vf e p c)) (ht : 0 < (vf e p t).1) (w : Wy) : ¬ lsS e p (muS e p d t w) (muS e p c t w) := by
  have i1 := (is_vf h f1).pos
  have i2 := (is_vf h f2).pos
  have i3 := (is_vf h f3).pos
  have hle : (vf e p c).1 * (vf e p d).2 ≤ (vf e p d).1 * (vf e p c).2 := by unfold lsP at hcd; exact Int.not_lt.mp hcd
  have m0 : (vf e p c).1 * (vf e p t).1 * ((vf e p d).2 * (vf e p t).2) ≤ (vf e p d).1 * (vf e p t).1 * ((vf e p c).2 * (vf e p t).2) := by
    have := Int.mul_le_mul_of_nonneg_right hle (Int.le_of_lt (Int.mul_pos ht i3))
    have k1 : (vf e p c).1 * (vf e p t).1 * ((vf e p d).2 * (vf e p t).2) = (vf e p c).1 * (vf e p d).2 * ((vf e p t).1 * (vf e p t).2) := by grind
    have k2 : (vf e p d).1 * (vf e p t).1 * ((vf e p c).2 * (vf e p t).2) = (vf e p d).1 * (vf e p c).2 * ((vf e p t).1 * (vf e p t).2) := by grind
    rw [k1, k2]; exact this
  have hd1 := Int.mul_pos i1 i3
  have hd2 := Int.mul_pos i2 i3
  have m := rd_mono h (fr_den hd1).1 (fr_den hd2).1 (fr_le hd1 hd2 m0) w
  have e1 := plc_mu h f1 f3 w
  have e2 := plc_mu h f2 f3 w
  unfold muQ at e1 e2
  rw [← e1, ← e2] at m
  intro z
  have := z.2
  omega
theorem m_di_mono (h : Fm e p) {c d t : Int} (f1 : Fin e p c) (f2 : Fin e p d) (f3 : Fin e p t) (hcd : ¬ lsP (vf e p d) (vf e p c)) (ht : 0 < (vf e p t).1) (w : Wy) : ¬ lsS e p (diS e p d t w) (diS e p c t w) := by
  have i1 := (is_vf h f1).pos
  have i2 := (is_vf h f2).pos
  have i3 := (is_vf h f3).pos
  have hle : (vf e p c).1 * (vf e p d).2 ≤ (vf e p d).1 * (vf e p c).2 := by unfold lsP at hcd; exact Int.not_lt.mp hcd
  have m0 : (vf e p c).1 * (vf e p t).2 * ((vf e p d).2 * (vf e p t).1) ≤ (vf e p d).1 * (vf e p t).2 * ((vf e p c).2 * (vf e p t).1) := by
    have := Int.mul_le_mul_of_nonneg_right hle (Int.le_of_lt (Int.mul_pos ht i3))
    have k1 : (vf e p c).1 * (vf e p t).2 * ((vf e p d).2 * (vf e p t).1) = (vf e p c).1 * (vf e p d).2 * ((vf e p t).1 * (vf e p t).2) := by grind
    have k2 : (vf e p d).1 * (vf e p t).2 * ((vf e p c).2 * (vf e p t).1) = (vf e p d).1 * (vf e p c).2 * ((vf e p t).1 * (vf e p t).2) := by grind
    rw [k1, k2]; exact this
  have hd1 := Int.mul_pos i1 ht
  have hd2 := Int.mul_pos i2 ht
  have m := rd_mono h (fr_den hd1).1 (fr_den hd2).1 (fr_le hd1 hd2 m0) w
  rw [← plc_di h f1 f3 ht, ← plc_di h f2 f3 ht] at m
  intro z
  have := z.2
  omega
/-! (d) bounds of the ways -/
def Bd (e p : Nat) (lo hi ev ze : Int) : Prop := (hi = lo ∧ ev = lo ∧ ze = lo) ∨ (kB e p lo ≠ .none ∧ ¬ lsS e p hi lo ∧ (ev = lo ∨ ev = hi) ∧ (ze = lo ∨ ze = hi) ∧ (vl e p lo = vl e p hi ∨ nuS e p lo = some hi))
theorem bd_rd (h : Fm e p) (a : Int) {y : Int} : Bd e p (rd e p a y .dn) (rd e p a y .up) (rd e p a y .ev) (rd e p a y .ze) := by
  obtain ⟨⟨l0, l1⟩, _⟩ := Low_spec (x := (a.natAbs : Int)) (y := y) h (by omega)
  have hl := edge_lt h
  have hp := pow_pos' (e + p)
  obtain ⟨L, hL⟩ : ∃ L, L = Low e p (a.natAbs : Int) y := ⟨_, rfl⟩
  by_cases j : jst e p (a.natAbs : Int) y
  · left
    have : ∀ w, rd e p a y w = sgI a * 2 ^ (e + p) + L := fun w => by rw [rd_mag, hL]; unfold rdM; rw [if_pos j]
    rw [this, this, this, this]
    exact ⟨rfl, rfl, rfl⟩
  · right
    have up : rdM e p (a.natAbs : Int) y .up = L + 1 := by unfold rdM; rw [if_neg j, if_pos (by unfold rdU; rw [if_neg (by decide)]), hL]
    have dn : rdM e p (a.natAbs : Int) y .dn = L := by unfold rdM; rw [if_neg j, if_neg (by unfold rdU; rw [if_neg (by decide)]; decide), hL]
    have ze : rdM e p (a.natAbs : Int) y .ze = L := by unfold rdM; rw [if_neg j, if_neg (by unfold rdU; rw [if_neg (by decide)]; decide), hL]
    have ev := rdM_two (e := e) (p := p) (a.natAbs : Int) y .ev
    rw [← hL] at l0 l1 ev
    by_cases q : a < 0
    · have sg : sgI a = 1 := by unfold sgI; rw [if_pos q]
      have r1 : rd e p a y .dn = 2 ^ (e + p) + (L + 1) := by rw [rd_mag, if_pos q, sg]; show 1 * 2 ^ (e + p) + rdM e p _ y .up = _; rw [up]; omega
      have r2 : rd e p a y .up = 2 ^ (e + p) + L := by rw [rd_mag, if_pos q, sg]; show 1 * 2 ^ (e + p) + rdM e p _ y .dn = _; rw [dn]; omega
      have r3 : rd e p a y .ze = 2 ^ (e + p) + L := by rw [rd_mag, if_pos q, sg]; show 1 * 2 ^ (e + p) + rdM e p _ y .ze = _; rw [ze]; omega
      have r4 : rd e p a y .ev = 2 ^ (e + p) + L ∨ rd e p a y .ev = 2 ^ (e + p) + (L + 1) := by
        rw [rd_mag, if_pos q, sg]; show 1 * 2 ^ (e + p) + rdM e p _ y .ev = _ ∨ 1 * 2 ^ (e + p) + rdM e p _ y .ev = _
        omega
      have bb : bare e p (2 ^ (e + p) + (L + 1)) = L + 1 := by
        unfold bare
        rw [Int.add_comm, Int.add_emod_right]
        exact Int.emod_eq_of_lt (by omega) (by omega)
      have kn : kB e p (2 ^ (e + p) + (L + 1)) ≠ .none := fun z => by have := kB_none.mp z; omega
      rw [r1, r2, r3]
      refine ⟨kn, fun z => ?_, r4.symm, .inr rfl, .inr ?_⟩
      · have := z.2
        unfold plc at this
        rw [if_pos (by omega), if_pos (by omega)] at this
        omega
      · unfold nuS
        rw [if_neg (fun z => z.elim kn (by omega)), if_neg (by omega), if_pos (by omega)]
        congr 1
        omega
    · have sg : sgI a = 0 := by unfold sgI; rw [if_neg q]
      have r1 : rd e p a y .dn = L := by rw [rd_mag, if_neg q, sg, dn]; omega
      have r2 : rd e p a y .up = L + 1 := by rw [rd_mag, if_neg q, sg, up]; omega
      have r3 : rd e p a y .ze = L := by rw [rd_mag, if_neg q, sg, ze]; omega
      have r4 : rd e p a y .ev = L ∨ rd e p a y .ev = L + 1 := by rw [rd_mag, if_neg q, sg]; omega
      have bb : bare e p L = L := Int.emod_eq_of_lt l0 (by omega)
      have kn : kB e p L ≠ .none := fun z => by have := kB_none.mp z; omega
      rw [r1, r2, r3]
      refine ⟨kn, fun z => ?_, r4, .inl rfl, .inr ?_⟩
      · have := z.2
        unfold plc at this
        rw [if_neg (by omega), if_neg (by omega)] at this
        omega
      · unfold nuS
        rw [if_neg (fun z => z.elim kn (by omega))]
        by_cases z : L = 0
        · rw [if_pos (.inl z), z]; rfl
        · rw [if_neg (by omega), if_neg (by omega)]
theorem bd_ad (h : Fm e p) {c d : Int} (f1 : Fin e p c) (f2 : Fin e p d) : Bd e p (adS e p c d .dn) (adS e p c d .up) (adS e p c d .ev) (adS e p c d .ze) := by
  rw [ad_fin h f1 f2, ad_fin h f1 f2, ad_fin h f1 f2, ad_fin h f1 f2]
  by_cases q : sV e p c + sV e p d = 0
  · rw [if_pos q, if_pos q, if_pos q, if_pos q]
    by_cases r : sgC e p c = sgC e p d
    · rw [if_pos r, if_pos r, if_pos r, if_pos r]
      exact .inl ⟨rfl, rfl, rfl⟩
    · rw [if_neg r, if_neg r, if_neg r, if_neg r]
      right
      have he := edge_pos h
      have g1 := fin_of h (Int.le_refl 0) (by omega) (.inr rfl : (1 : Int) = 0 ∨ (1 : Int) = 1)
      have g0 := fin_of h (Int.le_refl 0) (by omega) (.inl rfl : (0 : Int) = 0 ∨ (0 : Int) = 1)
      simp only [Int.add_zero] at g1 g0
      show kB e p (1 * 2 ^ (e + p)) ≠ .none ∧ ¬ lsS e p (0 * 2 ^ (e + p)) (1 * 2 ^ (e + p)) ∧ ((0 * 2 ^ (e + p) : Int) = 1 * 2 ^ (e + p) ∨ (0 * 2 ^ (e + p) : Int) = 0 * 2 ^ (e + p)) ∧ ((0 * 2 ^ (e + p) : Int) = 1 * 2 ^ (e + p) ∨ (0 * 2 ^ (e + p) : Int) = 0 * 2 ^ (e + p)) ∧ (vl e p (1 * 2 ^ (e + p)) = vl e p (0 * 2 ^ (e + p)) ∨ _)
      refine ⟨(fin_kB h g1.1).1, fun z => ?_, .inr rfl, .inr rfl, .inl ?_⟩
      · have := z.2
        rw [plc_sg (.inl rfl), plc_sg (.inr rfl)] at this
        omega
      · rw [vl_fin h g1.1, vl_fin h g0.1]
        have i1 := is_vf h g1.1
        have i0 := is_vf h g0.1
        have v1 : sV e p (1 * 2 ^ (e + p)) = 0 := by rw [g1.2.2, V0]; simp
        have v0 : sV e p (0 * 2 ^ (e + p)) = 0 := by rw [g0.2.2, V0]; simp
        rw [v1] at i1
        rw [v0] at i0
        rw [is_inj i1 i0 (vf_rdc _ _ _) (vf_rdc _ _ _)]
  · rw [if_neg q, if_neg q, if_neg q, if_neg q]
    exact bd_rd h _
theorem bd_mu (h : Fm e p) {c d : Int} (f1 : Fin e p c) (f2 : Fin e p d) : Bd e p (muS e p c d .dn) (muS e p c d .up) (muS e p c d .ev) (muS e p c d .ze) := by
  rw [mu_fin h f1 f2, mu_fin h f1 f2, mu_fin h f1 f2, mu_fin h f1 f2]
  by_cases q : (vf e p c).1 = 0 ∨ (vf e p d).1 = 0
  · rw [if_pos q, if_pos q, if_pos q, if_pos q]
    exact .inl ⟨rfl, rfl, rfl⟩
  · rw [if_neg q, if_neg q, if_neg q, if_neg q]
    exact bd_rd h _
theorem bd_di (h : Fm e p) {c d : Int} (f1 : Fin e p c) (f2 : Fin e p d) : Bd e p (diS e p c d .dn) (diS e p c d .up) (diS e p c d .ev) (diS e p c d .ze) := by
  rw [di_fin h f1 f2, di_fin h f1 f2, di_fin h f1 f2, di_fin h f1 f2]
  by_cases q : (vf e p c).1 = 0 ∧ (vf e p d).1 = 0
  · rw [if_pos q, if_pos q, if_pos q, if_pos q]
    exact .inl ⟨rfl, rfl, rfl⟩
  · rw [if_neg q, if_neg q, if_neg q, if_neg q]
    by_cases q2 : (vf e p d).1 = 0
    · rw [if_pos q2, if_pos q2, if_pos q2, if_pos q2]
      exact .inl ⟨rfl, rfl, rfl⟩
    · rw [if_neg q2, if_neg q2, if_neg q2, if_neg q2]
      by_cases q3 : (vf e p c).1 = 0
      · rw [if_pos q3, if_pos q3, if_pos q3, if_pos q3]
        exact .inl ⟨rfl, rfl, rfl⟩
      · rw [if_neg q3, if_neg q3, if_neg q3, if_neg q3]
        exact bd_rd h _
end
end KL

set_option maxRecDepth 100000
namespace KL
open PySem Ev
local macro_rules | `(tactic| walk_at "st") => `(tactic| dsimp only [start0, List.length_cons, List.length_nil, List.replicate, List.cons_append, List.nil_append, Nat.reduceSub, Nat.reduceAdd])
local macro_rules | `(tactic| walk_at "ev") => `(tactic| simp (disch := omega) only [sSeq, sSet, sExpr, sRet, sRetN, sIf, sBrk, sCnt, sRaise, sNil, sAsg, sAug, sPar2, sFor, tName, tTup, tsCons, tsNil, tSub, eVar, eC, eOp, eUn, aNil, aCons, eTup, eLst, eCall, eBlt, gcF, gcE, eNot, eAnd, eOr, eIf, eChain, eTold, eMt, eSl, withPart, iR1, iR2, iR3, iSeq, Ev.iEnum, Res.bnd, Res.bndS, Res.bndA, Res.bndI, Rss.bnd, Rss.bndA, Rss.bndS, Rss.bndI, Itm.bnd, Itm.bndS, Out.bnd, Res.tst, Res.tstS, Res.tstA, gv, sv, tru, al, toRes, C.psh, endG, gOk, bAdd, bSub, uNeg, cLt, cLe, cGt, cGe, iAdd, lenD, intD, absD, if_true, if_false, Bool.false_eq_true, ite_true, ite_false, decide_true, decide_false, Bool.not_true, Bool.not_false, Bool.and_true, Bool.and_false, Bool.true_and, Bool.false_and, Int.zero_sub, and_true, true_and, and_false, false_and, not_true_eq_false, not_false_eq_true, finF_same, fin_same', cEq_int, cNe_int, decide_eq_true_eq, Bool.not_eq_true', decide_eq_false_iff_not, ite_not])
local macro_rules | `(tactic| walk_at "ew") => `(tactic| repeat (first | walk_at "ev" | (simp (disch := omega) only [ev_power_of, ev_check, ev_check_code, ev_meaning, ev_code_of, ev_widened, div_pow, mod_pow])))
section
variable {e p : Nat}
theorem nthC_rng (h : Fm e p) : 0 ≤ nthC e p ∧ nthC e p < 2 ^ (1 + e + p) := by
  obtain ⟨h1, h2, h3, h4⟩ := h
  have he : e = 2 ∨ e = 3 ∨ e = 4 := by omega
  have hp : p = 1 ∨ p = 2 ∨ p = 3 ∨ p = 4 := by omega
  rcases he with rfl | rfl | rfl <;> rcases hp with rfl | rfl | rfl | rfl <;> decide +kernel
theorem sg_rng (h : Fm e p) {sg k : Int} (hs : sg = 0 ∨ sg = 1) (k0 : 0 ≤ k) (k1 : k ≤ edge e p) : 0 ≤ sg * 2 ^ (e + p) + k ∧ sg * 2 ^ (e + p) + k < 2 ^ (1 + e + p) := by
  have hl := edge_lt h
  have hp := pow_pos' (e + p)
  have h2 := pow1 e p
  rcases hs with q | q <;> rw [q] <;> omega
theorem muS_rng (h : Fm e p) {c d : Int} (f1 : Fin e p c) (f2 : Fin e p d) (w : Wy) : 0 ≤ muS e p c d w ∧ muS e p c d w < 2 ^ (1 + e + p) := by
  have he := edge_pos h
  rw [mu_fin h f1 f2]
  split
  · have := sg_rng h (sg := sg2 e p c d) (k := 0) (sg2_rng c d) (Int.le_refl _) (by omega)
    rwa [Int.add_zero] at this
  · exact rd_rng h w
theorem diS_rng (h : Fm e p) {c d : Int} (f1 : Fin e p c) (f2 : Fin e p d) (w : Wy) : 0 ≤ diS e p c d w ∧ diS e p c d w < 2 ^ (1 + e + p) := by
  have he := edge_pos h
  rw [di_fin h f1 f2]
  split
  · exact nthC_rng h
  · split
    · exact sg_rng h (sg2_rng c d) (by omega) (Int.le_refl _)
    · split
      · have := sg_rng h (sg := sg2 e p c d) (k := 0) (sg2_rng c d) (Int.le_refl _) (by omega)
        rwa [Int.add_zero] at this
      · exact rd_rng h w
theorem zero_fin (h : Fm e p) : Fin e p 0 ∧ sV e p 0 = 0 := by
  have he := edge_pos h
  obtain ⟨f, _, v⟩ := fin_of h (Int.le_refl 0) (by omega) (.inl rfl : (0 : Int) = 0 ∨ (0 : Int) = 1)
  rw [Int.zero_mul, Int.add_zero] at f v
  exact ⟨f, by rw [v, V0]; rfl⟩
theorem rdc01 : Rdc (0, 1) := ⟨by decide, by decide⟩
theorem is01 : Is e p (0, 1) 0 := ⟨by decide, by simp⟩
theorem rdc11 : Rdc (1, 1) := ⟨by decide, by decide⟩
theorem is11 : Is e p (1, 1) (sS e p) := ⟨by decide, by simp⟩
/-- (e) turned -/
theorem m_turn (h : Fm e p) {c d : Int} (f1 : Fin e p c) (f2 : Fin e p d) : adS e p c d .dn = tn e p (adS e p (tn e p c) (tn e p d) .up) ∨ (Fin e p (adS e p c d .dn) ∧ vf e p (adS e p c d .dn) = (0, 1)) := by
  obtain ⟨t1, s1, v1⟩ := tn_fin h f1
  obtain ⟨t2, s2, v2⟩ := tn_fin h f2
  by_cases q : sV e p c + sV e p d = 0
  · right
    obtain ⟨f, v⟩ := ad_exact h f1 f2 (by rw [q]; exact ⟨0, Int.le_refl _, by have := edge_pos h; omega, V0 p⟩) .dn
    rw [q] at v
    refine ⟨f, ?_⟩
    have i := is_vf h f
    rw [v] at i
    exact is_inj i is01 (vf_rdc _ _ _) rdc01
  · left
    have i1 := is_sm h f1 f2
    have i2 := is_sm h t1 t2
    have r1 : Rdc (smQ e p c d) := fr_rdc (Int.mul_pos (is_vf h f1).pos (is_vf h f2).pos)
    have r2 : Rdc (smQ e p (tn e p c) (tn e p d)) := fr_rdc (Int.mul_pos (is_vf h t1).pos (is_vf h t2).pos)
    have i3 := is_neg i1
    rw [s1, s2, show (0 - sV e p c) + (0 - sV e p d) = 0 - (sV e p c + sV e p d) by omega] at i2
    have r3 : Rdc (0 - (smQ e p c d).1, (smQ e p c d).2) := ⟨r1.pos, by
      have : (0 - (smQ e p c d).1).natAbs = (smQ e p c d).1.natAbs := by omega
      show Nat.gcd (0 - (smQ e p c d).1).natAbs _ = 1
      rw [this]
      exact r1.cop⟩
    have eq := is_inj i2 i3 r2 r3
    rw [ad_fin h f1 f2, ad_fin h t1 t2, if_neg q, if_neg (by omega), eq]
    have q1 : (smQ e p c d).1 ≠ 0 := fun z => q ((is_zero i1).mp z)
    exact rd_turn h q1
/-- (f) products turned -/
theorem m_mu_turn (h : Fm e p) {c d : Int} (f1 : Fin e p c) (f2 : Fin e p d) (w : Wy) : muS e p (tn e p c) (tn e p d) w = muS e p c d w := by
  obtain ⟨t1, s1, v1⟩ := tn_fin h f1
  obtain ⟨t2, s2, v2⟩ := tn_fin h f2
  have g1 := (tn_facts h f1.lo f1.hi).2.2.1
  have g2 := (tn_facts h f2.lo f2.hi).2.2.1
  have es : sg2 e p (tn e p c) (tn e p d) = sg2 e p c d := by
    unfold sg2
    rw [g1, g2]
    refine ite_same2 ⟨fun z => by omega, fun z => by omega⟩ (fun _ => rfl) (fun _ => rfl)
  rw [mu_fin h t1 t2, mu_fin h f1 f2, es]
  have eq : muQ e p (tn e p c) (tn e p d) = muQ e p c d := by
    unfold muQ
    rw [v1, v2]
    show fr ((0 - (vf e p c).1) * (0 - (vf e p d).1)) _ = _
    congr 1
    grind
  rw [eq, v1, v2]
  refine ite_same2 ?_ (fun _ => rfl) (fun _ => rfl)
  show (0 - (vf e p c).1 = 0 ∨ 0 - (vf e p d).1 = 0) ↔ _
  omega
theorem fr_same {t : Int} (ht : 0 < t) : fr t t = (1, 1) := by
  refine rdc_eq (fr_rdc ht) rdc11 ?_
  have := fr_eq (a := t) ht
  have z : (fr t t).1 = (fr t t).2 := Int.eq_of_mul_eq_mul_right (Int.ne_of_gt ht) (by rw [this, Int.mul_comm])
  rw [z]
  show (fr t t).2 * 1 = 1 * (fr t t).2
  omega
/-- (h) by itself -/
theorem m_di_self (h : Fm e p) {c : Int} (f : Fin e p c) (w : Wy) : diS e p c c w = if (vf e p c).1 ≠ 0 then rd e p 1 1 w else nthC e p := by
  have hp := (is_vf h f).pos
  rw [di_fin h f f]
  by_cases q : (vf e p c).1 = 0
  · rw [if_pos ⟨q, q⟩, if_neg (fun z => z q)]
  · rw [if_neg (fun z => q z.1), if_neg q, if_neg q, if_pos q]
    have eq : diQ e p c c = (1, 1) := by
      unfold diQ frs
      split
      · rename_i z
        rw [Int.mul_comm (vf e p c).2]
        rw [Int.mul_comm] at z
        exact fr_same z
      · rename_i z
        rw [Int.mul_comm (vf e p c).2]
        rw [Int.mul_comm] at z
        have : (vf e p c).1 * (vf e p c).2 ≠ 0 := fun y => (Int.mul_eq_zero.mp y).elim q (Int.ne_of_gt hp)
        exact fr_same (by omega)
    rw [eq]
theorem m_di_00 (h : Fm e p) (w : Wy) : diS e p 0 0 w = nthC e p := by
  rw [m_di_self h (zero_fin h).1, if_neg (fun z => z (vf_nil h))]
theorem one_rep (h : Fm e p) : Rep e p (((sS e p).natAbs : Nat) : Int) := by
  have hp := pow_pos' p
  have hS := sS_pos e p
  have e1 : (((sS e p).natAbs : Nat) : Int) = 2 ^ p * 2 ^ (2 ^ (e - 1) - 2) := by
    rw [show (((sS e p).natAbs : Nat) : Int) = sS e p by omega]
    unfold sS
    rw [Int.pow_add, Int.mul_comm]
  rw [e1]
  refine rep_of h _ _ (Int.le_of_lt hp) (by rw [Int.pow_succ]; omega) ?_
  obtain ⟨h1, h2, h3, h4⟩ := h
  have he : e = 2 ∨ e = 3 ∨ e = 4 := by omega
  rcases he with rfl | rfl | rfl <;> decide
theorem one_code (h : Fm e p) (w : Wy) : Fin e p (rd e p 1 1 w) ∧ vf e p (rd e p 1 1 w) = (1, 1) := by
  obtain ⟨f, v⟩ := rd_exact h (q := (1, 1)) is11 (Int.ne_of_gt (sS_pos e p)) (one_rep h) w
  refine ⟨f, ?_⟩
  have i := is_vf h f
  rw [v] at i
  exact is_inj i is11 (vf_rdc _ _ _) rdc11
/-- (i) times one -/
theorem m_mu_one (h : Fm e p) {c : Int} (f : Fin e p c) (hb : bare e p c ≠ 0) (w w2 : Wy) : muS e p c (rd e p 1 1 w2) w = c := by
  obtain ⟨f1, v1⟩ := one_code h w2
  have hp := (is_vf h f).pos
  have hz : (vf e p c).1 ≠ 0 := fun z => hb ((kB_nought h).mp ((nought_iff h f).mpr z))
  rw [mu_fin h f f1, v1, if_neg (fun z => z.elim hz (by decide))]
  have eq : muQ e p c (rd e p 1 1 w2) = vf e p c := by
    unfold muQ
    rw [v1]
    show fr ((vf e p c).1 * 1) ((vf e p c).2 * 1) = _
    rw [Int.mul_one, Int.mul_one]
    exact rdc_eq (fr_rdc hp) (vf_rdc _ _ _) (fr_eq hp)
  rw [eq]
  exact rd_self h f.lo f.hi f.fin hb hp rfl w
/-- (j) and nought -/
theorem m_ad_zero (h : Fm e p) {c : Int} (f : Fin e p c) (hz : (vf e p c).1 ≠ 0) (w : Wy) : adS e p c 0 w = c := by
  obtain ⟨f0, v0⟩ := zero_fin h
  have i := is_sm h f f0
  rw [v0, Int.add_zero] at i
  have hn : sV e p c ≠ 0 := fun z => hz ((is_zero (is_vf h f)).mpr z)
  have hb : bare e p c ≠ 0 := fun z => hz ((nought_iff h f).mp ((kB_nought h).mpr z))
  rw [ad_fin h f f0, v0, Int.add_zero, if_neg hn]
  exact rd_self h f.lo f.hi f.fin hb i.pos (is_cross i (is_vf h f)) w
/-- (k) the greatest -/
theorem m_great (h : Fm e p) {c : Int} (f : Fin e p c) : ¬ lsS e p (edge e p - 1) c := by
  have he := edge_pos h
  have hl := edge_lt h
  obtain ⟨⟨_, q⟩, _⟩ := plc_fin h f.lo f.hi f.fin
  intro z
  have := z.2
  have e1 : plc e p (edge e p - 1) = edge e p - 1 := by unfold plc; rw [if_neg (by omega)]
  omega
theorem m_less (h : Fm e p) {c d : Int} (f1 : Fin e p c) (f2 : Fin e p d) : lsS e p c d ↔ lsP (vf e p c) (vf e p d) := by
  have k1 := fin_kB h f1
  have k2 := fin_kB h f2
  rw [ls_plc h f1.lo f1.hi f1.fin f2.lo f2.hi f2.fin]
  exact ⟨fun z => z.2, fun z => ⟨fun y => y.elim k1.1 k2.1, z⟩⟩
end
end KL

set_option maxRecDepth 100000
namespace KL
open PySem Ev
local macro_rules | `(tactic| walk_at "st") => `(tactic| dsimp only [start0, List.length_cons, List.length_nil, List.replicate, List.cons_append, List.nil_append, Nat.reduceSub, Nat.reduceAdd])
local macro_rules | `(tactic| walk_at "ev") => `(tactic| simp (disch := omega) only [sSeq, sSet, sExpr, sRet, sRetN, sIf, sBrk, sCnt, sRaise, sNil, sAsg, sAug, sPar2, sFor, tName, tTup, tsCons, tsNil, tSub, eVar, eC, eOp, eUn, aNil, aCons, eTup, eLst, eCall, eBlt, gcF, gcE, eNot, eAnd, eOr, eIf, eChain, eTold, eMt, eSl, withPart, iR1, iR2, iR3, iSeq, Ev.iEnum, Res.bnd, Res.bndS, Res.bndA, Res.bndI, Rss.bnd, Rss.bndA, Rss.bndS, Rss.bndI, Itm.bnd, Itm.bndS, Out.bnd, Res.tst, Res.tstS, Res.tstA, gv, sv, tru, al, toRes, C.psh, endG, gOk, bAdd, bSub, uNeg, cLt, cLe, cGt, cGe, iAdd, lenD, intD, absD, if_true, if_false, Bool.false_eq_true, ite_true, ite_false, decide_true, decide_false, Bool.not_true, Bool.not_false, Bool.and_true, Bool.and_false, Bool.true_and, Bool.false_and, Int.zero_sub, and_true, true_and, and_false, false_and, not_true_eq_false, not_false_eq_true, finF_same, fin_same', cEq_int, cNe_int, decide_eq_true_eq, Bool.not_eq_true', decide_eq_false_iff_not, ite_not])
local macro_rules | `(tactic| walk_at "ew") => `(tactic| repeat (first | walk_at "ev" | (simp (disch := omega) only [ev_power_of, ev_check, ev_check_code, ev_meaning, ev_code_of, ev_widened, div_pow, mod_pow])))
abbrev pS0 : SS := (sFor true (iR1 (aCons (eC (.int 3)) aNil)) (tName 9) (sSeq (sSet 10 (eOp bIx (eOp bIx (eVar 8) (eC (.str "down"))) (eVar 9))) (sSeq (sSet 11 (eOp bIx (eOp bIx (eVar 8) (eC (.str "up"))) (eVar 9))) (sSeq (sIf (eOp cEq (eCall 7 (aCons (eVar 0) (aCons (eVar 10) aNil))) (eC (.str "none"))) (sSeq (sIf (eOp cNe (eCall 7 (aCons (eVar 0) (aCons (eVar 11) aNil))) (eC (.str "none"))) (sSeq (sRet (eC (.bl false))) sNil) sNil) (sSeq sCnt sNil)) sNil) (sSeq (sIf (eOr (eCall 22 (aCons (eVar 0) (aCons (eVar 11) (aCons (eVar 10) aNil)))) (eOr (eOp cNotIn (eOp bIx (eOp bIx (eVar 8) (eC (.str "even"))) (eVar 9)) (eTup (aCons (eVar 10) (aCons (eVar 11) aNil)))) (eOp cNotIn (eOp bIx (eOp bIx (eVar 8) (eC (.str "zero"))) (eVar 9)) (eTup (aCons (eVar 10) (aCons (eVar 11) aNil)))))) (sSeq (sIf (eOp cNe (eCall 9 (aCons (eVar 0) (aCons (eOp bIx (eOp bIx (eVar 8) (eC (.str "even"))) (eVar 9)) aNil))) (eTup (aCons (eC (.int 0)) (aCons (eC (.int 1)) aNil)))) (sSeq (sRet (eC (.bl false))) sNil) sNil) sNil) sNil) (sSeq (sIf (eAnd (eOp cIsNot (eCall 9 (aCons (eVar 0) (aCons (eVar 10) aNil))) (eC .non)) (eAnd (eOp cNe (eCall 9 (aCons (eVar 0) (aCons (eVar 10) aNil))) (eCall 9 (aCons (eVar 0) (aCons (eVar 11) aNil)))) (eOp cNe (eCall 9 (aCons (eVar 0) (aCons (eCall 24 (aCons (eVar 0) (aCons (eVar 10) aNil))) aNil))) (eCall 9 (aCons (eVar 0) (aCons (eVar 11) aNil)))))) (sSeq (sRet (eC (.bl false))) sNil) sNil) sNil))))))
abbrev pS1 : SS := (sIf (eAnd (eOp cNe (eCall 18 (aCons (eVar 0) (aCons (eVar 2) (aCons (eVar 3) (aCons (eC (.str "down")) aNil))))) (eCall 19 (aCons (eVar 0) (aCons (eCall 18 (aCons (eVar 0) (aCons (eCall 19 (aCons (eVar 0) (aCons (eVar 2) aNil))) (aCons (eCall 19 (aCons (eVar 0) (aCons (eVar 3) aNil))) (aCons (eC (.str "up")) aNil))))) aNil)))) (eOp cNe (eCall 9 (aCons (eVar 0) (aCons (eCall 18 (aCons (eVar 0) (aCons (eVar 2) (aCons (eVar 3) (aCons (eC (.str "down")) aNil))))) aNil))) (eTup (aCons (eC (.int 0)) (aCons (eC (.int 1)) aNil))))) (sSeq (sRet (eC (.bl false))) sNil) sNil)
abbrev pS2 : SS := (sIf (eOr (eOp cNe (eCall 20 (aCons (eVar 0) (aCons (eVar 2) (aCons (eVar 3) (aCons (eC (.str "even")) aNil))))) (eCall 20 (aCons (eVar 0) (aCons (eCall 19 (aCons (eVar 0) (aCons (eVar 2) aNil))) (aCons (eCall 19 (aCons (eVar 0) (aCons (eVar 3) aNil))) (aCons (eC (.str "even")) aNil)))))) (eOp cNe (eCall 18 (aCons (eVar 0) (aCons (eVar 2) (aCons (eVar 3) (aCons (eC (.str "zero")) aNil))))) (eCall 18 (aCons (eVar 0) (aCons (eVar 3) (aCons (eVar 2) (aCons (eC (.str "zero")) aNil))))))) (sSeq (sRet (eC (.bl false))) sNil) sNil)
abbrev pS3 : SS := (sIf (eAnd (eOp cIsNot (eVar 7) (eC .non)) (eNot (eCall 28 (aCons (eVar 6) (aCons (eVar 5) aNil))))) (sSeq (sFor true (iSeq (eTup (aCons (eC (.str "even")) (aCons (eC (.str "zero")) (aCons (eC (.str "up")) (aCons (eC (.str "down")) aNil)))))) (tName 12) (sSeq (sSet 10 (eCall 18 (aCons (eVar 0) (aCons (eVar 2) (aCons (eVar 4) (aCons (eVar 12) aNil)))))) (sSeq (sSet 11 (eCall 18 (aCons (eVar 0) (aCons (eVar 3) (aCons (eVar 4) (aCons (eVar 12) aNil)))))) (sSeq (sIf (eCall 22 (aCons (eVar 0) (aCons (eVar 11) (aCons (eVar 10) aNil)))) (sSeq (sRet (eC (.bl false))) sNil) sNil) (sSeq (sIf (eAnd (eOp cGt (eOp bIx (eVar 7) (eC (.int 0))) (eC (.int 0))) (eCall 22 (aCons (eVar 0) (aCons (eCall 20 (aCons (eVar 0) (aCons (eVar 3) (aCons (eVar 4) (aCons (eVar 12) aNil))))) (aCons (eCall 20 (aCons (eVar 0) (aCons (eVar 2) (aCons (eVar 4) (aCons (eVar 12) aNil))))) aNil))))) (sSeq (sRet (eC (.bl false))) sNil) sNil) (sSeq (sIf (eAnd (eOp cGt (eOp bIx (eVar 7) (eC (.int 0))) (eC (.int 0))) (eCall 22 (aCons (eVar 0) (aCons (eCall 21 (aCons (eVar 0) (aCons (eVar 3) (aCons (eVar 4) (aCons (eVar 12) aNil))))) (aCons (eCall 21 (aCons (eVar 0) (aCons (eVar 2) (aCons (eVar 4) (aCons (eVar 12) aNil))))) aNil))))) (sSeq (sRet (eC (.bl false))) sNil) sNil) sNil)))))) sNil) sNil)
abbrev pS4 : SS := (sIf (eOp cNe (eCall 21 (aCons (eVar 0) (aCons (eVar 2) (aCons (eVar 2) (aCons (eC (.str "even")) aNil))))) (eIf (eOp cNe (eOp bIx (eVar 5) (eC (.int 0))) (eC (.int 0))) (eCall 14 (aCons (eVar 0) (aCons (eTup (aCons (eC (.int 1)) (aCons (eC (.int 1)) aNil))) (aCons (eC (.str "even")) aNil)))) (eCall 21 (aCons (eVar 0) (aCons (eC (.int 0)) (aCons (eC (.int 0)) (aCons (eC (.str "up")) aNil))))))) (sSeq (sRet (eC (.bl false))) sNil) sNil)
abbrev pS5 : SS := (sIf (eAnd (eOp cGt (eOp bMod (eBlt intD (aCons (eVar 2) aNil)) (eVar 1)) (eC (.int 0))) (eOp cNe (eCall 20 (aCons (eVar 0) (aCons (eVar 2) (aCons (eCall 14 (aCons (eVar 0) (aCons (eTup (aCons (eC (.int 1)) (aCons (eC (.int 1)) aNil))) (aCons (eC (.str "zero")) aNil)))) (aCons (eC (.str "even")) aNil))))) (eVar 2))) (sSeq (sRet (eC (.bl false))) sNil) sNil)
abbrev pS6 : SS := (sIf (eAnd (eOp cNe (eCall 18 (aCons (eVar 0) (aCons (eVar 2) (aCons (eC (.int 0)) (aCons (eC (.str "even")) aNil))))) (eVar 2)) (eOp cNe (eOp bIx (eVar 5) (eC (.int 0))) (eC (.int 0)))) (sSeq (sRet (eC (.bl false))) sNil) sNil)
abbrev pS7 : SS := (sRet (eAnd (eOp cEq (eCall 22 (aCons (eVar 0) (aCons (eVar 2) (aCons (eVar 3) aNil)))) (eCall 28 (aCons (eVar 5) (aCons (eVar 6) aNil)))) (eNot (eCall 22 (aCons (eVar 0) (aCons (eCall 10 (aCons (eVar 0) aNil)) (aCons (eVar 2) aNil)))))))
abbrev bBd : SS := (sSeq (sSet 10 (eOp bIx (eOp bIx (eVar 8) (eC (.str "down"))) (eVar 9))) (sSeq (sSet 11 (eOp bIx (eOp bIx (eVar 8) (eC (.str "up"))) (eVar 9))) (sSeq (sIf (eOp cEq (eCall 7 (aCons (eVar 0) (aCons (eVar 10) aNil))) (eC (.str "none"))) (sSeq (sIf (eOp cNe (eCall 7 (aCons (eVar 0) (aCons (eVar 11) aNil))) (eC (.str "none"))) (sSeq (sRet (eC (.bl false))) sNil) sNil) (sSeq sCnt sNil)) sNil) (sSeq (sIf (eOr (eCall 22 (aCons (eVar 0) (aCons (eVar 11) (aCons (eVar 10) aNil)))) (eOr (eOp cNotIn (eOp bIx (eOp bIx (eVar 8) (eC (.str "even"))) (eVar 9)) (eTup (aCons (eVar 10) (aCons (eVar 11) aNil)))) (eOp cNotIn (eOp bIx (eOp bIx (eVar 8) (eC (.str "zero"))) (eVar 9)) (eTup (aCons (eVar 10) (aCons (eVar 11) aNil)))))) (sSeq (sIf (eOp cNe (eCall 9 (aCons (eVar 0) (aCons (eOp bIx (eOp bIx (eVar 8) (eC (.str "even"))) (eVar 9)) aNil))) (eTup (aCons (eC (.int 0)) (aCons (eC (.int 1)) aNil)))) (sSeq (sRet (eC (.bl false))) sNil) sNil) sNil) sNil) (sSeq (sIf (eAnd (eOp cIsNot (eCall 9 (aCons (eVar 0) (aCons (eVar 10) aNil))) (eC .non)) (eAnd (eOp cNe (eCall 9 (aCons (eVar 0) (aCons (eVar 10) aNil))) (eCall 9 (aCons (eVar 0) (aCons (eVar 11) aNil)))) (eOp cNe (eCall 9 (aCons (eVar 0) (aCons (eCall 24 (aCons (eVar 0) (aCons (eVar 10) aNil))) aNil))) (eCall 9 (aCons (eVar 0) (aCons (eVar 11) aNil)))))) (sSeq (sRet (eC (.bl false))) sNil) sNil) sNil)))))
abbrev bWq : SS := (sSeq (sSet 10 (eCall 18 (aCons (eVar 0) (aCons (eVar 2) (aCons (eVar 4) (aCons (eVar 12) aNil)))))) (sSeq (sSet 11 (eCall 18 (aCons (eVar 0) (aCons (eVar 3) (aCons (eVar 4) (aCons (eVar 12) aNil)))))) (sSeq (sIf (eCall 22 (aCons (eVar 0) (aCons (eVar 11) (aCons (eVar 10) aNil)))) (sSeq (sRet (eC (.bl false))) sNil) sNil) (sSeq (sIf (eAnd (eOp cGt (eOp bIx (eVar 7) (eC (.int 0))) (eC (.int 0))) (eCall 22 (aCons (eVar 0) (aCons (eCall 20 (aCons (eVar 0) (aCons (eVar 3) (aCons (eVar 4) (aCons (eVar 12) aNil))))) (aCons (eCall 20 (aCons (eVar 0) (aCons (eVar 2) (aCons (eVar 4) (aCons (eVar 12) aNil))))) aNil))))) (sSeq (sRet (eC (.bl false))) sNil) sNil) (sSeq (sIf (eAnd (eOp cGt (eOp bIx (eVar 7) (eC (.int 0))) (eC (.int 0))) (eCall 22 (aCons (eVar 0) (aCons (eCall 21 (aCons (eVar 0) (aCons (eVar 3) (aCons (eVar 4) (aCons (eVar 12) aNil))))) (aCons (eCall 21 (aCons (eVar 0) (aCons (eVar 2) (aCons (eVar 4) (aCons (eVar 12) aNil))))) aNil))))) (sSeq (sRet (eC (.bl false))) sNil) sNil) sNil)))))
section
variable {m : Nat} {s : S} {e p : Nat} {C0 : C} {ρ : Ev.Env}
theorem kS_shp (k : Kd) : D.shp 40 (.str (kS k)) = true := by cases k <;> decide +kernel
theorem vD_shp (o : Option (Int × Int)) : D.shp 40 (vD o) = true := by cases o <;> rfl
theorem vD_und (o : Option (Int × Int)) : vD o ≠ .und := by cases o <;> simp [vD, fD2]
theorem isn_non {a : ES} {o : Option (Int × Int)} (ha : a C0 ρ s = .ok (vD o) s) : eOp cIsNot a (eC .non) C0 ρ s = .ok (.bl (decide (o ≠ none))) s := by
  rw [op_ok ha rfl]
  cases o with
  | none => rfl
  | some q => rfl
section
variable {e1 e2 e3 e4 : ES} {c d : Int}
theorem knd_c (hc : C0.call = callN tab (m + 5)) (h : Fm e p) (h0 : 0 ≤ c) (h1 : c < 2 ^ (1 + e + p)) (q1 : e1 C0 ρ s = .ok (fD e p) s) (q2 : e2 C0 ρ s = .ok (.int c) s) : eCall 7 (aCons e1 (aCons e2 aNil)) C0 ρ s = .ok (.str (kS (kB e p c))) s := by
  rw [call_ok (cons_ok q1 (cons_ok q2 nil_ok)), hc, ev_kind h c h0 h1, kd_eq h]
theorem val_c (hc : C0.call = callN tab (m + 6)) (h : Fm e p) (h0 : 0 ≤ c) (h1 : c < 2 ^ (1 + e + p)) (q1 : e1 C0 ρ s = .ok (fD e p) s) (q2 : e2 C0 ρ s = .ok (.int c) s) : eCall 9 (aCons e1 (aCons e2 aNil)) C0 ρ s = .ok (vD (vl e p c)) s := by
  rw [call_ok (cons_ok q1 (cons_ok q2 nil_ok)), hc, ev_value h c h0 h1]
theorem tur_c (hc : C0.call = callN tab (m + 4)) (h : Fm e p) (h0 : 0 ≤ c) (h1 : c < 2 ^ (1 + e + p)) (q1 : e1 C0 ρ s = .ok (fD e p) s) (q2 : e2 C0 ρ s = .ok (.int c) s) : eCall 19 (aCons e1 (aCons e2 aNil)) C0 ρ s = .ok (.int (tn e p c)) s := by
  rw [call_ok (cons_ok q1 (cons_ok q2 nil_ok)), hc, ev_turned h c h0 h1]
  rfl
theorem nxt_c (hc : C0.call = callN tab (m + 6)) (h : Fm e p) (h0 : 0 ≤ c) (h1 : c < 2 ^ (1 + e + p)) (q1 : e1 C0 ρ s = .ok (fD e p) s) (q2 : e2 C0 ρ s = .ok (.int c) s) : eCall 24 (aCons e1 (aCons e2 aNil)) C0 ρ s = .ok (oD (nuS e p c)) s := by
  rw [call_ok (cons_ok q1 (cons_ok q2 nil_ok)), hc, ev_next_up h c h0 h1]
theorem les_c (hc : C0.call = callN tab (m + 6)) (h : Fm e p) (c0 : 0 ≤ c) (c1 : c < 2 ^ (1 + e + p)) (d0 : 0 ≤ d) (d1 : d < 2 ^ (1 + e + p)) (q1 : e1 C0 ρ s = .ok (fD e p) s) (q2 : e2 C0 ρ s = .ok (.int c) s) (q3 : e3 C0 ρ s = .ok (.int d) s) : eCall 22 (aCons e1 (aCons e2 (aCons e3 aNil))) C0 ρ s = .ok (.bl (decide (lsS e p c d))) s := by
  rw [call_ok (cons_ok q1 (cons_ok q2 (cons_ok q3 nil_ok))), hc, ev_less h c d c0 c1 d0 d1]
theorem lls_c {a b : Int × Int} (hc : C0.call = callN tab (m + 1)) (ha : -(2 ^ 64) < a.2 ∧ a.2 < 2 ^ 64) (hb : -(2 ^ 64) < b.2 ∧ b.2 < 2 ^ 64) (q1 : e1 C0 ρ s = .ok (fD2 a) s) (q2 : e2 C0 ρ s = .ok (fD2 b) s) : eCall 28 (aCons e1 (aCons e2 aNil)) C0 ρ s = .ok (.bl (decide (lsP a b))) s := by
  rw [call_ok (cons_ok q1 (cons_ok q2 nil_ok)), hc, ev_law_less ha hb]
theorem rou_c {q : Int × Int} {w : Wy} (hc : C0.call = callN tab (m + 8)) (h : Fm e p) (hq : 0 < q.2) (q1 : e1 C0 ρ s = .ok (fD e p) s) (q2 : e2 C0 ρ s = .ok (fD2 q) s) (q3 : e3 C0 ρ s = .ok (.str (wS w)) s) : eCall 14 (aCons e1 (aCons e2 (aCons e3 aNil))) C0 ρ s = .ok (.int (rd e p q.1 q.2 w)) s := by
  rw [call_ok (cons_ok q1 (cons_ok q2 (cons_ok q3 nil_ok))), hc]
  exact ev_rounded h q.1 q.2 hq w
theorem mul_c {w : Wy} (hc : C0.call = callN tab (m + 9)) (h : Fm e p) (c0 : 0 ≤ c) (c1 : c < 2 ^ (1 + e + p)) (d0 : 0 ≤ d) (d1 : d < 2 ^ (1 + e + p)) (q1 : e1 C0 ρ s = .ok (fD e p) s) (q2 : e2 C0 ρ s = .ok (.int c) s) (q3 : e3 C0 ρ s = .ok (.int d) s) (q4 : e4 C0 ρ s = .ok (.str (wS w)) s) : eCall 20 (aCons e1 (aCons e2 (aCons e3 (aCons e4 aNil)))) C0 ρ s = .ok (.int (muS e p c d w)) s := by
  rw [call_ok (cons_ok q1 (cons_ok q2 (cons_ok q3 (cons_ok q4 nil_ok)))), hc, ev_multiply h c d c0 c1 d0 d1]
theorem div_c {w : Wy} (hc : C0.call = callN tab (m + 9)) (h : Fm e p) (c0 : 0 ≤ c) (c1 : c < 2 ^ (1 + e + p)) (d0 : 0 ≤ d) (d1 : d < 2 ^ (1 + e + p)) (q1 : e1 C0 ρ s = .ok (fD e p) s) (q2 : e2 C0 ρ s = .ok (.int c) s) (q3 : e3 C0 ρ s = .ok (.int d) s) (q4 : e4 C0 ρ s = .ok (.str (wS w)) s) : eCall 21 (aCons e1 (aCons e2 (aCons e3 (aCons e4 aNil)))) C0 ρ s = .ok (.int (diS e p c d w)) s := by
  rw [call_ok (cons_ok q1 (cons_ok q2 (cons_ok q3 (cons_ok q4 nil_ok)))), hc, ev_divide h c d c0 c1 d0 d1]
theorem gre_c (hc : C0.call = callN tab (m + 2)) (h : Fm e p) (q1 : e1 C0 ρ s = .ok (fD e p) s) : eCall 10 (aCons e1 aNil) C0 ρ s = .ok (.int (edge e p - 1)) s := by
  rw [call_ok (cons_ok q1 nil_ok), hc, ev_greatest h]
  rfl
end
/-- a row of the dict -/
def rowT (e p : Nat) (c d : Int) (w : Wy) : D := .tup [.int (adS e p c d w), .int (muS e p c d w), .int (diS e p c d w)]
def rowK (e p : Nat) (c d : Int) : List (D × D) := [(.str "even", rowT e p c d .ev), (.str "zero", rowT e p c d .ze), (.str "up", rowT e p c d .up), (.str "down", rowT e p c d .dn)]
theorem row_get {c d : Int} {r : Nat} (hr : dctOf s r = some (rowK e p c d)) (w : Wy) : bIx (.ref r) (.str (wS w)) s = .ok (rowT e p c d w) s := by
  show dixK s r (.str (wS w)) = _
  unfold dixK
  rw [hr]
  have : dget (rowK e p c d) (.str (wS w)) = some (rowT e p c d w) := by cases w <;> kernel_rfl
  show (match dget (rowK e p c d) (.str (wS w)) with | some .und => Res.fail | some d => .ok d s | none => .fail) = _
  rw [this]
  rfl
theorem row_ix {c d : Int} {r i : Nat} {z : Str} {k x : Int} (hr : dctOf s r = some (rowK e p c d)) (w : Wy) (hz : z = wS w) (hv : gv ρ 8 = .ref r) (hi : gv ρ i = .int k) (hx : bIx (rowT e p c d w) (.int k) s = .ok (.int x) s) : eOp bIx (eOp bIx (eVar 8) (eC (.str z))) (eVar i) C0 ρ s = .ok (.int x) s := by
  rw [hz, op_ok (x := rowT e p c d w) (y := .int k) (s1 := s) (s2 := s) ((op_ok (var_ok hv (by simp)) rfl).trans (row_get hr w)) (var_ok hi (by simp))]
  exact hx
theorem notin2 {x y z : Int} (h : x = y ∨ x = z) : cNotIn (.int x) (.tup [.int y, .int z]) s = .ok (.bl false) s := by
  show Res.ok (.bl (!(((y : Int) == x) || ((z == x) || false)))) s = _
  rcases h with h | h
  · subst h; simp
  · subst h; simp
theorem cNe_vD {o1 o2 : Option (Int × Int)} : ∃ b, cNe (vD o1) (vD o2) s = .ok (.bl b) s := ⟨_, cNe_shp (vD_shp _) (vD_shp _)⟩
end
section
variable {m : Nat} {B : List Nat} {s : S} {e p : Nat} {c d t : Int} {r : Nat} {a9 a10 a11 a12 : D}
theorem ev_bd (h : Fm e p) (hr : dctOf s r = some (rowK e p c d)) {lo hi ev ze k : Int} (g1 : bIx (rowT e p c d .dn) (.int k) s = .ok (.int lo) s) (g2 : bIx (rowT e p c d .up) (.int k) s = .ok (.int hi) s) (g3 : bIx (rowT e p c d .ev) (.int k) s = .ok (.int ev) s) (g4 : bIx (rowT e p c d .ze) (.int k) s = .ok (.int ze) s) (lr : 0 ≤ lo ∧ lo < 2 ^ (1 + e + p)) (hr2 : 0 ≤ hi ∧ hi < 2 ^ (1 + e + p)) (bd : Bd e p lo hi ev ze) :
    turn1 true (tName 9) bBd ⟨callN tab (m + 20), B⟩ (.int k) [fD e p, .int (2 ^ (e + p)), .int c, .int d, .int t, fD2 (vf e p c), fD2 (vf e p d), vD (vl e p t), .ref r, a9, a10, a11, a12] s = .nx [fD e p, .int (2 ^ (e + p)), .int c, .int d, .int t, fD2 (vf e p c), fD2 (vf e p d), vD (vl e p t), .ref r, .int k, .int lo, .int hi, a12] s := by
  have kk1 : ∀ {B}, eCall 7 (aCons (eVar 0) (aCons (eVar 10) aNil)) ⟨callN tab (m + 20), B⟩ [fD e p, .int (2 ^ (e + p)), .int c, .int d, .int t, fD2 (vf e p c), fD2 (vf e p d), vD (vl e p t), .ref r, .int k, .int lo, .int hi, a12] s = .ok (.str (kS (kB e p lo))) s := fun {B} => knd_c (m := m + 15) rfl h lr.1 lr.2 rfl rfl
  have kk2 : ∀ {B}, eCall 7 (aCons (eVar 0) (aCons (eVar 11) aNil)) ⟨callN tab (m + 20), B⟩ [fD e p, .int (2 ^ (e + p)), .int c, .int d, .int t, fD2 (vf e p c), fD2 (vf e p d), vD (vl e p t), .ref r, .int k, .int lo, .int hi, a12] s = .ok (.str (kS (kB e p hi))) s := fun {B} => knd_c (m := m + 15) rfl h hr2.1 hr2.2 rfl rfl
  by_cases hk : kB e p lo = .none
  · have hhi : hi = lo := by
      rcases bd with bd | bd
      · exact bd.1
      · exact absurd hk bd.1
    refine turn_ct1 (ρ1 := [fD e p, .int (2 ^ (e + p)), .int c, .int d, .int t, fD2 (vf e p c), fD2 (vf e p d), vD (vl e p t), .ref r, .int k, .int lo, .int hi, a12]) (s1 := s) ?_ te_same
    show bBd _ [fD e p, .int (2 ^ (e + p)), .int c, .int d, .int t, fD2 (vf e p c), fD2 (vf e p d), vD (vl e p t), .ref r, .int k, a10, a11, a12] s = _
    refine seq_go (ρ1 := [fD e p, .int (2 ^ (e + p)), .int c, .int d, .int t, fD2 (vf e p c), fD2 (vf e p d), vD (vl e p t), .ref r, .int k, .int lo, a11, a12]) (s1 := s) (set_ok (row_ix hr .dn rfl rfl rfl g1)) ?_
    refine seq_go (ρ1 := [fD e p, .int (2 ^ (e + p)), .int c, .int d, .int t, fD2 (vf e p c), fD2 (vf e p d), vD (vl e p t), .ref r, .int k, .int lo, .int hi, a12]) (s1 := s) (set_ok (row_ix hr .up rfl rfl rfl g2)) ?_
    refine seq_ct ((if_t (d := .bl true) (s1 := s) ?_ rfl).trans (seq_go (guard_nx (s1 := s) ?_) (seq_ct rfl)))
    · refine ((op_ok kk1 rfl).trans (k_eq0 _)).trans ?_
      rw [decide_eq_true hk]
    · refine neD_f (d := .str (kS .none)) (kk2.trans ?_) rfl (kS_shp .none)
      rw [hhi, hk]
  · refine turn_name (ρ1 := [fD e p, .int (2 ^ (e + p)), .int c, .int d, .int t, fD2 (vf e p c), fD2 (vf e p d), vD (vl e p t), .ref r, .int k, .int lo, .int hi, a12]) (s1 := s) ?_ rfl
    show bBd _ [fD e p, .int (2 ^ (e + p)), .int c, .int d, .int t, fD2 (vf e p c), fD2 (vf e p d), vD (vl e p t), .ref r, .int k, a10, a11, a12] s = _
    refine seq_go (ρ1 := [fD e p, .int (2 ^ (e + p)), .int c, .int d, .int t, fD2 (vf e p c), fD2 (vf e p d), vD (vl e p t), .ref r, .int k, .int lo, a11, a12]) (s1 := s) (set_ok (row_ix hr .dn rfl rfl rfl g1)) ?_
    refine seq_go (ρ1 := [fD e p, .int (2 ^ (e + p)), .int c, .int d, .int t, fD2 (vf e p c), fD2 (vf e p d), vD (vl e p t), .ref r, .int k, .int lo, .int hi, a12]) (s1 := s) (set_ok (row_ix hr .up rfl rfl rfl g2)) ?_
    have nl : ¬ lsS e p hi lo := by
      rcases bd with bd | bd
      · rw [bd.1]; exact fun z => Int.lt_irrefl _ z.2
      · exact bd.2.1
    have n3 : ev = lo ∨ ev = hi := by
      rcases bd with bd | bd
      · exact .inl bd.2.1
      · exact bd.2.2.1
    have n4 : ze = lo ∨ ze = hi := by
      rcases bd with bd | bd
      · exact .inl bd.2.2
      · exact bd.2.2.2.1
    have n5 : vl e p lo = vl e p hi ∨ nuS e p lo = some hi := by
      rcases bd with bd | bd
      · exact .inl (by rw [bd.1])
      · exact bd.2.2.2.2
    have v1 : ∀ {B}, eCall 9 (aCons (eVar 0) (aCons (eVar 10) aNil)) ⟨callN tab (m + 20), B⟩ [fD e p, .int (2 ^ (e + p)), .int c, .int d, .int t, fD2 (vf e p c), fD2 (vf e p d), vD (vl e p t), .ref r, .int k, .int lo, .int hi, a12] s = .ok (vD (vl e p lo)) s := fun {B} => val_c (m := m + 14) rfl h lr.1 lr.2 rfl rfl
    have v2 : ∀ {B}, eCall 9 (aCons (eVar 0) (aCons (eVar 11) aNil)) ⟨callN tab (m + 20), B⟩ [fD e p, .int (2 ^ (e + p)), .int c, .int d, .int t, fD2 (vf e p c), fD2 (vf e p d), vD (vl e p t), .ref r, .int k, .int lo, .int hi, a12] s = .ok (vD (vl e p hi)) s := fun {B} => val_c (m := m + 14) rfl h hr2.1 hr2.2 rfl rfl
    refine seq_go (guard_nx (s1 := s) ?_) (seq_go (guard_nx (s1 := s) ?_) (seq_go (guard_nx (s1 := s) ?_) rfl))
    · refine ((op_ok kk1 rfl).trans (k_eq0 _)).trans ?_
      rw [decide_eq_false hk]
    · rw [or_f, or_f]
      · exact (op_ok (x := .int ze) (y := .tup [.int lo, .int hi]) (row_ix hr .ze rfl rfl rfl g4) rfl).trans (notin2 n4)
      · exact (op_ok (x := .int ev) (y := .tup [.int lo, .int hi]) (row_ix hr .ev rfl rfl rfl g3) rfl).trans (notin2 n3)
      · refine (les_c (m := m + 14) rfl h hr2.1 hr2.2 lr.1 lr.2 rfl rfl rfl).trans ?_
        rw [decide_eq_false nl]
    · by_cases q1 : vl e p lo = none
      · exact and_f ((isn_non v1).trans (by rw [decide_eq_false (p := vl e p lo ≠ none) (fun z => z q1)]))
      · refine (and_t ((isn_non v1).trans (by rw [decide_eq_true (p := vl e p lo ≠ none) q1]))).trans ?_
        rcases n5 with n5 | n5
        · exact and_f (neD_f v1 (v2.trans (by rw [n5])) (vD_shp _))
        · obtain ⟨b, hb⟩ := cNe_vD (s := s) (o1 := vl e p lo) (o2 := vl e p hi)
          refine and_ff ((op_ok v1 v2).trans hb) (neD_f (d := vD (vl e p hi)) (val_c (m := m + 14) rfl h hr2.1 hr2.2 rfl ?_) v2 (vD_shp _)) (.inr rfl)
          refine (nxt_c (m := m + 14) rfl h lr.1 lr.2 rfl rfl).trans ?_
          rw [n5]
          rfl
theorem ev_p0 (h : Fm e p) (f1 : Fin e p c) (f2 : Fin e p d) (hr : dctOf s r = some (rowK e p c d)) : ∃ y9 y10 y11, pS0 ⟨callN tab (m + 20), B⟩ [fD e p, .int (2 ^ (e + p)), .int c, .int d, .int t, fD2 (vf e p c), fD2 (vf e p d), vD (vl e p t), .ref r, a9, a10, a11, a12] s = .nx [fD e p, .int (2 ^ (e + p)), .int c, .int d, .int t, fD2 (vf e p c), fD2 (vf e p d), vD (vl e p t), .ref r, y9, y10, y11, a12] s := by
  refine ⟨.int 2, .int (diS e p c d .dn), .int (diS e p c d .up), ?_⟩
  refine for_nx (ds := [.int 0, .int 1, .int 2]) (g := none) (s1 := s) (ρ2 := [fD e p, .int (2 ^ (e + p)), .int c, .int d, .int t, fD2 (vf e p c), fD2 (vf e p d), vD (vl e p t), .ref r, .int 2, .int (diS e p c d .dn), .int (diS e p c d .up), a12]) (s2 := s) (by kernel_rfl) ?_ te_same
  have F : ∀ {B}, forL true none (tName 9) bBd ⟨callN tab (m + 20), B⟩ [.int 0, .int 1, .int 2] [fD e p, .int (2 ^ (e + p)), .int c, .int d, .int t, fD2 (vf e p c), fD2 (vf e p d), vD (vl e p t), .ref r, a9, a10, a11, a12] s = .nx [fD e p, .int (2 ^ (e + p)), .int c, .int d, .int t, fD2 (vf e p c), fD2 (vf e p d), vD (vl e p t), .ref r, .int 2, .int (diS e p c d .dn), .int (diS e p c d .up), a12] s := fun {B} => by
    rw [forL_cons (ev_bd h hr (k := 0) rfl rfl rfl rfl (adS_rng h f1.lo f1.hi f2.lo f2.hi _) (adS_rng h f1.lo f1.hi f2.lo f2.hi _) (bd_ad h f1 f2)) rfl, forL_cons (ev_bd h hr (k := 1) rfl rfl rfl rfl (muS_rng h f1 f2 _) (muS_rng h f1 f2 _) (bd_mu h f1 f2)) rfl, forL_cons (ev_bd h hr (k := 2) rfl rfl rfl rfl (diS_rng h f1 f2 _) (diS_rng h f1 f2 _) (bd_di h f1 f2)) rfl]
    rfl
  exact F
end
end KL

set_option maxRecDepth 100000
namespace KL
open PySem Ev
local macro_rules | `(tactic| walk_at "st") => `(tactic| dsimp only [start0, List.length_cons, List.length_nil, List.replicate, List.cons_append, List.nil_append, Nat.reduceSub, Nat.reduceAdd])
local macro_rules | `(tactic| walk_at "ev") => `(tactic| simp (disch := omega) only [sSeq, sSet, sExpr, sRet, sRetN, sIf, sBrk, sCnt, sRaise, sNil, sAsg, sAug, sPar2, sFor, tName, tTup, tsCons, tsNil, tSub, eVar, eC, eOp, eUn, aNil, aCons, eTup, eLst, eCall, eBlt, gcF, gcE, eNot, eAnd, eOr, eIf, eChain, eTold, eMt, eSl, withPart, iR1, iR2, iR3, iSeq, Ev.iEnum, Res.bnd, Res.bndS, Res.bndA, Res.bndI, Rss.bnd, Rss.bndA, Rss.bndS, Rss.bndI, Itm.bnd, Itm.bndS, Out.bnd, Res.tst, Res.tstS, Res.tstA, gv, sv, tru, al, toRes, C.psh, endG, gOk, bAdd, bSub, uNeg, cLt, cLe, cGt, cGe, iAdd, lenD, intD, absD, if_true, if_false, Bool.false_eq_true, ite_true, ite_false, decide_true, decide_false, Bool.not_true, Bool.not_false, Bool.and_true, Bool.and_false, Bool.true_and, Bool.false_and, Int.zero_sub, and_true, true_and, and_false, false_and, not_true_eq_false, not_false_eq_true, finF_same, fin_same', cEq_int, cNe_int, decide_eq_true_eq, Bool.not_eq_true', decide_eq_false_iff_not, ite_not])
local macro_rules | `(tactic| walk_at "ew") => `(tactic| repeat (first | walk_at "ev" | (simp (disch := omega) only [ev_power_of, ev_check, ev_check_code, ev_meaning, ev_code_of, ev_widened, div_pow, mod_pow])))
section
variable {m : Nat} {B : List Nat} {s : S} {e p : Nat} {c d t : Int} {r : Nat} {a9 a10 a11 a12 : D}
theorem ev_p1 (h : Fm e p) (f1 : Fin e p c) (f2 : Fin e p d) : pS1 ⟨callN tab (m + 20), B⟩ [fD e p, .int (2 ^ (e + p)), .int c, .int d, .int t, fD2 (vf e p c), fD2 (vf e p d), vD (vl e p t), .ref r, a9, a10, a11, a12] s = .nx [fD e p, .int (2 ^ (e + p)), .int c, .int d, .int t, fD2 (vf e p c), fD2 (vf e p d), vD (vl e p t), .ref r, a9, a10, a11, a12] s := by
  obtain ⟨⟨c2, c3⟩, _⟩ := tn_facts h f1.lo f1.hi
  obtain ⟨⟨d2, d3⟩, _⟩ := tn_facts h f2.lo f2.hi
  have rr := adS_rng h c2 c3 d2 d3 .up
  have rd := adS_rng h f1.lo f1.hi f2.lo f2.hi .dn
  have t1 : eCall 18 (aCons (eVar 0) (aCons (eVar 2) (aCons (eVar 3) (aCons (eC (.str "down")) aNil)))) ⟨callN tab (m + 20), B⟩ [fD e p, .int (2 ^ (e + p)), .int c, .int d, .int t, fD2 (vf e p c), fD2 (vf e p d), vD (vl e p t), .ref r, a9, a10, a11, a12] s = .ok (.int (adS e p c d .dn)) s := add_call (m := m + 11) (w := .dn) rfl h f1.lo f1.hi f2.lo f2.hi rfl rfl rfl rfl
  have t2 : eCall 18 (aCons (eVar 0) (aCons (eCall 19 (aCons (eVar 0) (aCons (eVar 2) aNil))) (aCons (eCall 19 (aCons (eVar 0) (aCons (eVar 3) aNil))) (aCons (eC (.str "up")) aNil)))) ⟨callN tab (m + 20), B⟩ [fD e p, .int (2 ^ (e + p)), .int c, .int d, .int t, fD2 (vf e p c), fD2 (vf e p d), vD (vl e p t), .ref r, a9, a10, a11, a12] s = .ok (.int (adS e p (tn e p c) (tn e p d) .up)) s := add_call (m := m + 11) (w := .up) rfl h c2 c3 d2 d3 rfl (tur_c (m := m + 16) rfl h f1.lo f1.hi rfl rfl) (tur_c (m := m + 16) rfl h f2.lo f2.hi rfl rfl) rfl
  have t3 := tur_c (m := m + 16) (C0 := ⟨callN tab (m + 20), B⟩) (ρ := [fD e p, .int (2 ^ (e + p)), .int c, .int d, .int t, fD2 (vf e p c), fD2 (vf e p d), vD (vl e p t), .ref r, a9, a10, a11, a12]) (s := s) (e1 := eVar 0) rfl h rr.1 rr.2 rfl t2
  refine guard_nx ?_
  rcases m_turn h f1 f2 with z | ⟨z1, z2⟩
  · exact and_f (ne_f t1 t3 z)
  · refine and_ff ((op_ok t1 t3).trans cNe_int) (neD_f (d := fD2 (0, 1)) ((val_c (m := m + 14) rfl h rd.1 rd.2 rfl t1).trans ?_) rfl rfl) (.inr rfl)
    rw [vl_fin h z1, z2]
    rfl
theorem ev_p2 (h : Fm e p) (f1 : Fin e p c) (f2 : Fin e p d) : pS2 ⟨callN tab (m + 20), B⟩ [fD e p, .int (2 ^ (e + p)), .int c, .int d, .int t, fD2 (vf e p c), fD2 (vf e p d), vD (vl e p t), .ref r, a9, a10, a11, a12] s = .nx [fD e p, .int (2 ^ (e + p)), .int c, .int d, .int t, fD2 (vf e p c), fD2 (vf e p d), vD (vl e p t), .ref r, a9, a10, a11, a12] s := by
  obtain ⟨⟨c2, c3⟩, _⟩ := tn_facts h f1.lo f1.hi
  obtain ⟨⟨d2, d3⟩, _⟩ := tn_facts h f2.lo f2.hi
  refine guard_nx ?_
  rw [or_f]
  · refine ne_f (i := adS e p c d .ze) (j := adS e p d c .ze) ?_ ?_ (ad_comm _ _ _)
    · exact add_call (m := m + 11) (w := .ze) rfl h f1.lo f1.hi f2.lo f2.hi rfl rfl rfl rfl
    · exact add_call (m := m + 11) (w := .ze) rfl h f2.lo f2.hi f1.lo f1.hi rfl rfl rfl rfl
  · refine ne_f (i := muS e p c d .ev) (j := muS e p (tn e p c) (tn e p d) .ev) ?_ ?_ (m_mu_turn h f1 f2 _).symm
    · exact mul_c (m := m + 11) (w := .ev) rfl h f1.lo f1.hi f2.lo f2.hi rfl rfl rfl rfl
    · exact mul_c (m := m + 11) (w := .ev) rfl h c2 c3 d2 d3 rfl (tur_c (m := m + 16) rfl h f1.lo f1.hi rfl rfl) (tur_c (m := m + 16) rfl h f2.lo f2.hi rfl rfl) rfl
theorem ev_wq (h : Fm e p) (f1 : Fin e p c) (f2 : Fin e p d) (f3 : Fin e p t) (hcd : ¬ lsP (vf e p d) (vf e p c)) (w : Wy) : bWq ⟨callN tab (m + 20), B⟩ [fD e p, .int (2 ^ (e + p)), .int c, .int d, .int t, fD2 (vf e p c), fD2 (vf e p d), vD (vl e p t), .ref r, a9, a10, a11, .str (wS w)] s = .nx [fD e p, .int (2 ^ (e + p)), .int c, .int d, .int t, fD2 (vf e p c), fD2 (vf e p d), vD (vl e p t), .ref r, a9, .int (adS e p c t w), .int (adS e p d t w), .str (wS w)] s := by
  have r1 := adS_rng h f1.lo f1.hi f3.lo f3.hi w
  have r2 := adS_rng h f2.lo f2.hi f3.lo f3.hi w
  have m1 := muS_rng h f1 f3 w
  have m2 := muS_rng h f2 f3 w
  have q1 := diS_rng h f1 f3 w
  have q2 := diS_rng h f2 f3 w
  have hvt : vD (vl e p t) = fD2 (vf e p t) := by rw [vl_fin h f3]; rfl
  have hgt : ∀ {a10 a11 : D}, eOp cGt (eOp bIx (eVar 7) (eC (.int 0))) (eC (.int 0)) ⟨callN tab (m + 20), B⟩ [fD e p, .int (2 ^ (e + p)), .int c, .int d, .int t, fD2 (vf e p c), fD2 (vf e p d), vD (vl e p t), .ref r, a9, a10, a11, .str (wS w)] s = .ok (.bl (decide ((vf e p t).1 > 0))) s := fun {a10 a11} => gt_e (X_0 hvt) rfl
  refine seq_go (ρ1 := [fD e p, .int (2 ^ (e + p)), .int c, .int d, .int t, fD2 (vf e p c), fD2 (vf e p d), vD (vl e p t), .ref r, a9, .int (adS e p c t w), a11, .str (wS w)]) (s1 := s) (set_ok (add_call (m := m + 11) (w := w) rfl h f1.lo f1.hi f3.lo f3.hi rfl rfl rfl rfl)) ?_
  refine seq_go (ρ1 := [fD e p, .int (2 ^ (e + p)), .int c, .int d, .int t, fD2 (vf e p c), fD2 (vf e p d), vD (vl e p t), .ref r, a9, .int (adS e p c t w), .int (adS e p d t w), .str (wS w)]) (s1 := s) (set_ok (add_call (m := m + 11) (w := w) rfl h f2.lo f2.hi f3.lo f3.hi rfl rfl rfl rfl)) ?_
  refine seq_go (guard_nx (s1 := s) ?_) (seq_go (guard_nx (s1 := s) ?_) (seq_go (guard_nx (s1 := s) ?_) rfl))
  · refine (les_c (m := m + 14) rfl h r2.1 r2.2 r1.1 r1.2 rfl rfl rfl).trans ?_
    rw [decide_eq_false (m_ad_mono h f1 f2 f3 hcd w)]
  · by_cases z : (vf e p t).1 > 0
    · refine (and_t (hgt.trans (by rw [decide_eq_true z]))).trans ?_
      refine (les_c (m := m + 14) rfl h m2.1 m2.2 m1.1 m1.2 rfl (mul_c (m := m + 11) (w := w) rfl h f2.lo f2.hi f3.lo f3.hi rfl rfl rfl rfl) (mul_c (m := m + 11) (w := w) rfl h f1.lo f1.hi f3.lo f3.hi rfl rfl rfl rfl)).trans ?_
      rw [decide_eq_false (m_mu_mono h f1 f2 f3 hcd z w)]
    · exact and_f (hgt.trans (by rw [decide_eq_false z]))
  · by_cases z : (vf e p t).1 > 0
    · refine (and_t (hgt.trans (by rw [decide_eq_true z]))).trans ?_
      refine (les_c (m := m + 14) rfl h q2.1 q2.2 q1.1 q1.2 rfl (div_c (m := m + 11) (w := w) rfl h f2.lo f2.hi f3.lo f3.hi rfl rfl rfl rfl) (div_c (m := m + 11) (w := w) rfl h f1.lo f1.hi f3.lo f3.hi rfl rfl rfl rfl)).trans ?_
      rw [decide_eq_false (m_di_mono h f1 f2 f3 hcd z w)]
    · exact and_f (hgt.trans (by rw [decide_eq_false z]))
theorem ev_p3 (h : Fm e p) (f1 : Fin e p c) (f2 : Fin e p d) (t0 : 0 ≤ t) (t1 : t < 2 ^ (1 + e + p)) : ∃ y10 y11 y12, pS3 ⟨callN tab (m + 20), B⟩ [fD e p, .int (2 ^ (e + p)), .int c, .int d, .int t, fD2 (vf e p c), fD2 (vf e p d), vD (vl e p t), .ref r, a9, a10, a11, a12] s = .nx [fD e p, .int (2 ^ (e + p)), .int c, .int d, .int t, fD2 (vf e p c), fD2 (vf e p d), vD (vl e p t), .ref r, a9, y10, y11, y12] s := by
  have g7 : eVar 7 ⟨callN tab (m + 20), B⟩ [fD e p, .int (2 ^ (e + p)), .int c, .int d, .int t, fD2 (vf e p c), fD2 (vf e p d), vD (vl e p t), .ref r, a9, a10, a11, a12] s = .ok (vD (vl e p t)) s := var_ok rfl (vD_und _)
  have v1 := (vf_rng h c).1
  have v2 := (vf_rng h d).1
  have hl : eCall 28 (aCons (eVar 6) (aCons (eVar 5) aNil)) ⟨callN tab (m + 20), B⟩ [fD e p, .int (2 ^ (e + p)), .int c, .int d, .int t, fD2 (vf e p c), fD2 (vf e p d), vD (vl e p t), .ref r, a9, a10, a11, a12] s = .ok (.bl (decide (lsP (vf e p d) (vf e p c)))) s := lls_c (m := m + 19) rfl (sm2 v2.1 v2.2) (sm2 v1.1 v1.2) rfl rfl
  rcases vl_cases h t0 t1 with ⟨q, _⟩ | ⟨q, f3⟩
  · refine ⟨a10, a11, a12, (if_f (d := .bl false) (s1 := s) (and_f ((isn_non g7).trans ?_)) rfl).trans rfl⟩
    rw [q]
    rfl
  · have i1 : eOp cIsNot (eVar 7) (eC .non) ⟨callN tab (m + 20), B⟩ [fD e p, .int (2 ^ (e + p)), .int c, .int d, .int t, fD2 (vf e p c), fD2 (vf e p d), vD (vl e p t), .ref r, a9, a10, a11, a12] s = .ok (.bl true) s := (isn_non g7).trans (by rw [q]; rfl)
    by_cases z : lsP (vf e p d) (vf e p c)
    · refine ⟨a10, a11, a12, (if_f (d := .bl false) (s1 := s) ((and_t i1).trans (not_ok (p := true) (hl.trans (by rw [decide_eq_true z])))) rfl).trans rfl⟩
    · refine ⟨.int (adS e p c t .dn), .int (adS e p d t .dn), .str (wS .dn), (if_t (d := .bl true) (s1 := s) ((and_t i1).trans (not_ok (p := false) (hl.trans (by rw [decide_eq_false z])))) rfl).trans (seq_go ?_ rfl)⟩
      refine for_nx (ds := [.str (wS .ev), .str (wS .ze), .str (wS .up), .str (wS .dn)]) (g := none) (s1 := s) (ρ2 := [fD e p, .int (2 ^ (e + p)), .int c, .int d, .int t, fD2 (vf e p c), fD2 (vf e p d), vD (vl e p t), .ref r, a9, .int (adS e p c t .dn), .int (adS e p d t .dn), .str (wS .dn)]) (s2 := s) rfl ?_ te_same
      have F : ∀ {B}, forL true none (tName 12) bWq ⟨callN tab (m + 20), B⟩ [.str (wS .ev), .str (wS .ze), .str (wS .up), .str (wS .dn)] [fD e p, .int (2 ^ (e + p)), .int c, .int d, .int t, fD2 (vf e p c), fD2 (vf e p d), vD (vl e p t), .ref r, a9, a10, a11, a12] s = .nx [fD e p, .int (2 ^ (e + p)), .int c, .int d, .int t, fD2 (vf e p c), fD2 (vf e p d), vD (vl e p t), .ref r, a9, .int (adS e p c t .dn), .int (adS e p d t .dn), .str (wS .dn)] s := fun {B} => by
        rw [forL_cons (turn_name (ev_wq h f1 f2 f3 z .ev) rfl) rfl, forL_cons (turn_name (ev_wq h f1 f2 f3 z .ze) rfl) rfl, forL_cons (turn_name (ev_wq h f1 f2 f3 z .up) rfl) rfl, forL_cons (turn_name (ev_wq h f1 f2 f3 z .dn) rfl) rfl]
        rfl
      exact F
theorem ev_p4 (h : Fm e p) (f1 : Fin e p c) : pS4 ⟨callN tab (m + 20), B⟩ [fD e p, .int (2 ^ (e + p)), .int c, .int d, .int t, fD2 (vf e p c), fD2 (vf e p d), vD (vl e p t), .ref r, a9, a10, a11, a12] s = .nx [fD e p, .int (2 ^ (e + p)), .int c, .int d, .int t, fD2 (vf e p c), fD2 (vf e p d), vD (vl e p t), .ref r, a9, a10, a11, a12] s := by
  obtain ⟨f0, _⟩ := zero_fin h
  refine guard_nx (neD_f (d := .int (diS e p c c .ev)) (div_c (m := m + 11) (w := .ev) rfl h f1.lo f1.hi f1.lo f1.hi rfl rfl rfl rfl) ?_ rfl)
  have hne : eOp cNe (eOp bIx (eVar 5) (eC (.int 0))) (eC (.int 0)) ⟨callN tab (m + 20), B⟩ [fD e p, .int (2 ^ (e + p)), .int c, .int d, .int t, fD2 (vf e p c), fD2 (vf e p d), vD (vl e p t), .ref r, a9, a10, a11, a12] s = .ok (.bl (decide ((vf e p c).1 ≠ 0))) s := by
    refine ((op_ok (X_0 rfl) (y := .int 0) rfl).trans cNe_int).trans ?_
    congr 2
    rw [← decide_not]
  refine (if_e hne (fun _ => rou_c (m := m + 12) (q := (1, 1)) (w := .ev) rfl h (by decide) rfl (tup_ok (cons_ok rfl (cons_ok rfl nil_ok)) (by simp)) rfl) (fun _ => div_c (m := m + 11) (w := .up) rfl h f0.lo f0.hi f0.lo f0.hi rfl rfl rfl rfl)).trans ?_
  rw [m_di_self h f1, m_di_00 h]
  by_cases z : (vf e p c).1 ≠ 0
  · rw [if_pos z, if_pos z]
  · rw [if_neg z, if_neg z]
theorem ev_p5 (h : Fm e p) (f1 : Fin e p c) : pS5 ⟨callN tab (m + 20), B⟩ [fD e p, .int (2 ^ (e + p)), .int c, .int d, .int t, fD2 (vf e p c), fD2 (vf e p d), vD (vl e p t), .ref r, a9, a10, a11, a12] s = .nx [fD e p, .int (2 ^ (e + p)), .int c, .int d, .int t, fD2 (vf e p c), fD2 (vf e p d), vD (vl e p t), .ref r, a9, a10, a11, a12] s := by
  obtain ⟨fo, _⟩ := one_code h .ze
  have hg : eOp cGt (eOp bMod (eBlt intD (aCons (eVar 2) aNil)) (eVar 1)) (eC (.int 0)) ⟨callN tab (m + 20), B⟩ [fD e p, .int (2 ^ (e + p)), .int c, .int d, .int t, fD2 (vf e p c), fD2 (vf e p d), vD (vl e p t), .ref r, a9, a10, a11, a12] s = .ok (.bl (decide (bare e p c > 0))) s := gt_e (mod_n (int_blt fun _ => rfl) rfl) rfl
  refine guard_nx ?_
  by_cases z : bare e p c > 0
  · refine (and_t (hg.trans (by rw [decide_eq_true z]))).trans ?_
    exact ne_f (i := muS e p c (rd e p 1 1 .ze) .ev) (j := c) (mul_c (m := m + 11) (w := .ev) rfl h f1.lo f1.hi fo.lo fo.hi rfl rfl (rou_c (m := m + 12) (q := (1, 1)) (w := .ze) rfl h (by decide) rfl (tup_ok (cons_ok rfl (cons_ok rfl nil_ok)) (by simp)) rfl) rfl) rfl (m_mu_one h f1 (by omega) _ _)
  · exact and_f (hg.trans (by rw [decide_eq_false z]))
theorem ev_p6 (h : Fm e p) (f1 : Fin e p c) : pS6 ⟨callN tab (m + 20), B⟩ [fD e p, .int (2 ^ (e + p)), .int c, .int d, .int t, fD2 (vf e p c), fD2 (vf e p d), vD (vl e p t), .ref r, a9, a10, a11, a12] s = .nx [fD e p, .int (2 ^ (e + p)), .int c, .int d, .int t, fD2 (vf e p c), fD2 (vf e p d), vD (vl e p t), .ref r, a9, a10, a11, a12] s := by
  obtain ⟨f0, _⟩ := zero_fin h
  have t1 : eCall 18 (aCons (eVar 0) (aCons (eVar 2) (aCons (eC (.int 0)) (aCons (eC (.str "even")) aNil)))) ⟨callN tab (m + 20), B⟩ [fD e p, .int (2 ^ (e + p)), .int c, .int d, .int t, fD2 (vf e p c), fD2 (vf e p d), vD (vl e p t), .ref r, a9, a10, a11, a12] s = .ok (.int (adS e p c 0 .ev)) s := add_call (m := m + 11) (w := .ev) rfl h f1.lo f1.hi f0.lo f0.hi rfl rfl rfl rfl
  refine guard_nx ?_
  by_cases z : (vf e p c).1 = 0
  · refine and_ff ((op_ok t1 (y := .int c) rfl).trans cNe_int) ((op_ok (X_0 rfl) (y := .int 0) rfl).trans cNe_int) (.inr ?_)
    rw [decide_eq_true z]
    rfl
  · exact and_f (ne_f t1 rfl (m_ad_zero h f1 z _))
theorem ev_p7 (h : Fm e p) (f1 : Fin e p c) (f2 : Fin e p d) : pS7 ⟨callN tab (m + 20), B⟩ [fD e p, .int (2 ^ (e + p)), .int c, .int d, .int t, fD2 (vf e p c), fD2 (vf e p d), vD (vl e p t), .ref r, a9, a10, a11, a12] s = .rt (.bl true) s := by
  have v1 := (vf_rng h c).1
  have v2 := (vf_rng h d).1
  have he := edge_pos h
  have hl := edge_lt h
  have h2 := pow1 e p
  refine ret_ok ?_
  rw [and_t]
  · refine (not_ok (p := false) ((les_c (m := m + 14) (c := edge e p - 1) (d := c) rfl h (by omega) (by omega) f1.lo f1.hi rfl (gre_c (m := m + 18) rfl h rfl) rfl).trans ?_)).trans rfl
    rw [decide_eq_false (m_great h f1)]
  · refine (op_ok (les_c (m := m + 14) rfl h f1.lo f1.hi f2.lo f2.hi rfl rfl rfl) (lls_c (m := m + 19) rfl (sm2 v1.1 v1.2) (sm2 v2.1 v2.2) rfl rfl)).trans ?_
    rw [decide_eq_decide.mpr (m_less h f1 f2)]
    exact cEq_self rfl
theorem ev_part1 (h : Fm e p) (f1 : Fin e p c) (f2 : Fin e p d) (t0 : 0 ≤ t) (t1 : t < 2 ^ (1 + e + p)) (hr : dctOf s r = some (rowK e p c d)) : callN tab (m + 21) 29 B [fD e p, .int (2 ^ (e + p)), .int c, .int d, .int t, fD2 (vf e p c), fD2 (vf e p d), vD (vl e p t), .ref r] s = .ok (.bl true) s := by
  refine run_go (np := 9) (n := 13) (d := .bl true) (s1 := s) rfl ?_ finF_same
  dsimp only [c_law_part1]
  walk_at "st"
  obtain ⟨y9, y10, y11, e0⟩ := ev_p0 (m := m) (B := s.length :: B) (s := s) (t := t) (r := r) (a9 := .und) (a10 := .und) (a11 := .und) (a12 := .und) h f1 f2 hr
  obtain ⟨z10, z11, z12, e3⟩ := ev_p3 (m := m) (B := s.length :: B) (s := s) (c := c) (d := d) (t := t) (r := r) (a9 := y9) (a10 := y10) (a11 := y11) (a12 := .und) h f1 f2 t0 t1
  exact seq_go e0 (seq_go (ev_p1 h f1 f2) (seq_go (ev_p2 h f1 f2) (seq_go e3 (seq_go (ev_p4 h f1) (seq_go (ev_p5 h f1) (seq_go (ev_p6 h f1) (seq_rt (ev_p7 h f1 f2))))))))
end
end KL

set_option maxRecDepth 100000
namespace KL
open PySem Ev
local macro_rules | `(tactic| walk_at "st") => `(tactic| dsimp only [start0, List.length_cons, List.length_nil, List.replicate, List.cons_append, List.nil_append, Nat.reduceSub, Nat.reduceAdd])
local macro_rules | `(tactic| walk_at "ev") => `(tactic| simp (disch := omega) only [sSeq, sSet, sExpr, sRet, sRetN, sIf, sBrk, sCnt, sRaise, sNil, sAsg, sAug, sPar2, sFor, tName, tTup, tsCons, tsNil, tSub, eVar, eC, eOp, eUn, aNil, aCons, eTup, eLst, eCall, eBlt, gcF, gcE, eNot, eAnd, eOr, eIf, eChain, eTold, eMt, eSl, withPart, iR1, iR2, iR3, iSeq, Ev.iEnum, Res.bnd, Res.bndS, Res.bndA, Res.bndI, Rss.bnd, Rss.bndA, Rss.bndS, Rss.bndI, Itm.bnd, Itm.bndS, Out.bnd, Res.tst, Res.tstS, Res.tstA, gv, sv, tru, al, toRes, C.psh, endG, gOk, bAdd, bSub, uNeg, cLt, cLe, cGt, cGe, iAdd, lenD, intD, absD, if_true, if_false, Bool.false_eq_true, ite_true, ite_false, decide_true, decide_false, Bool.not_true, Bool.not_false, Bool.and_true, Bool.and_false, Bool.true_and, Bool.false_and, Int.zero_sub, and_true, true_and, and_false, false_and, not_true_eq_false, not_false_eq_true, finF_same, fin_same', cEq_int, cNe_int, decide_eq_true_eq, Bool.not_eq_true', decide_eq_false_iff_not, ite_not])
local macro_rules | `(tactic| walk_at "ew") => `(tactic| repeat (first | walk_at "ev" | (simp (disch := omega) only [ev_power_of, ev_check, ev_check_code, ev_meaning, ev_code_of, ev_widened, div_pow, mod_pow])))
abbrev qS0 : SS := (sSet 1 (eCall 26 (aCons (eVar 0) aNil)))
abbrev qS1 : SS := (sSet 2 (eTup (aCons (eOp bAdd (eC (.int 2)) (eCall 27 (aCons (eVar 1) (aCons (eC (.int 3)) aNil)))) (aCons (eOp bAdd (eC (.int 1)) (eCall 27 (aCons (eVar 1) (aCons (eC (.int 4)) aNil)))) aNil))))
abbrev qS2 : SS := (sSet 3 (eOp bDiv (eCall 4 (aCons (eVar 2) aNil)) (eC (.int 2))))
abbrev qS3 : SS := (sSet 4 (eCall 27 (aCons (eVar 1) (aCons (eCall 4 (aCons (eVar 2) aNil)) aNil))))
abbrev qS4 : SS := (sSet 5 (eCall 27 (aCons (eVar 1) (aCons (eCall 4 (aCons (eVar 2) aNil)) aNil))))
abbrev qS5 : SS := (sSet 6 (eCall 27 (aCons (eVar 1) (aCons (eCall 4 (aCons (eVar 2) aNil)) aNil))))
abbrev qS6 : SS := (sSet 7 (eCall 9 (aCons (eVar 2) (aCons (eVar 4) aNil))))
abbrev qS7 : SS := (sSet 8 (eCall 9 (aCons (eVar 2) (aCons (eVar 5) aNil))))
abbrev qS8 : SS := (sSet 9 (eCall 9 (aCons (eVar 2) (aCons (eVar 6) aNil))))
abbrev qS9 : SS := (sIf (eOr (eOp cIs (eVar 7) (eC .non)) (eOp cIs (eVar 8) (eC .non))) (sSeq (sRet (eOp cIn (eCall 7 (aCons (eVar 2) (aCons (eCall 18 (aCons (eVar 2) (aCons (eVar 4) (aCons (eVar 5) (aCons (eC (.str "even")) aNil))))) aNil))) (eTup (aCons (eC (.str "none")) (aCons (eC (.str "endless")) aNil))))) sNil) sNil)
abbrev qS10 : SS := (sSet 10 (eAnd (eOp cGt (eOp bMul (eOp bIx (eVar 7) (eC (.int 0))) (eOp bIx (eVar 8) (eC (.int 0)))) (eC (.int 0))) (eAnd (eNot (eCall 28 (aCons (eTup (aCons (eOp bMul (eC (.int 2)) (eBlt absD (aCons (eOp bIx (eVar 7) (eC (.int 0))) aNil))) (aCons (eOp bIx (eVar 7) (eC (.int 1))) aNil))) (aCons (eTup (aCons (eBlt absD (aCons (eOp bIx (eVar 8) (eC (.int 0))) aNil)) (aCons (eOp bIx (eVar 8) (eC (.int 1))) aNil))) aNil)))) (eNot (eCall 28 (aCons (eTup (aCons (eOp bMul (eC (.int 2)) (eBlt absD (aCons (eOp bIx (eVar 8) (eC (.int 0))) aNil))) (aCons (eOp bIx (eVar 8) (eC (.int 1))) aNil))) (aCons (eTup (aCons (eBlt absD (aCons (eOp bIx (eVar 7) (eC (.int 0))) aNil)) (aCons (eOp bIx (eVar 7) (eC (.int 1))) aNil))) aNil)))))))
abbrev qS11 : SS := (sSet 11 (eCall 9 (aCons (eVar 2) (aCons (eCall 18 (aCons (eVar 2) (aCons (eVar 4) (aCons (eCall 19 (aCons (eVar 2) (aCons (eVar 5) aNil))) (aCons (eC (.str "even")) aNil))))) aNil))))
abbrev qS12 : SS := (sIf (eAnd (eVar 10) (eOr (eOp cIs (eVar 11) (eC .non)) (eOp cNe (eOp bMul (eOp bMul (eOp bIx (eVar 11) (eC (.int 0))) (eOp bIx (eVar 7) (eC (.int 1)))) (eOp bIx (eVar 8) (eC (.int 1)))) (eOp bMul (eOp bSub (eOp bMul (eOp bIx (eVar 7) (eC (.int 0))) (eOp bIx (eVar 8) (eC (.int 1)))) (eOp bMul (eOp bIx (eVar 8) (eC (.int 0))) (eOp bIx (eVar 7) (eC (.int 1))))) (eOp bIx (eVar 11) (eC (.int 1))))))) (sSeq (sRet (eC (.bl false))) sNil) sNil)
abbrev qS13 : SS := (sSet 12 (eCall 25 (aCons (eVar 2) (aCons (eVar 4) (aCons (eVar 5) aNil)))))
abbrev qS14 : SS := (sIf (eOp cIsNot (eVar 12) (eC .non)) (sSeq (sSet 15 (eCall 14 (aCons (eVar 2) (aCons (eOp bIx (eVar 12) (eC (.int 1))) (aCons (eC (.str "zero")) aNil))))) (sSeq (sIf (eOp cNe (eCall 9 (aCons (eVar 2) (aCons (eVar 15) aNil))) (eOp bIx (eVar 12) (eC (.int 1)))) (sSeq (sRet (eC (.bl false))) sNil) sNil) (sSeq (sIf (eAnd (eOp cGt (eOp bMul (eOp bMul (eC (.int 2)) (eBlt absD (aCons (eOp bIx (eOp bIx (eVar 12) (eC (.int 1))) (eC (.int 0))) aNil))) (eOp bIx (eCall 9 (aCons (eVar 2) (aCons (eOp bIx (eVar 12) (eC (.int 0))) aNil))) (eC (.int 1)))) (eC (.int 0))) (eOp cNe (eCall 9 (aCons (eVar 2) (aCons (eCall 18 (aCons (eVar 2) (aCons (eOp bIx (eVar 12) (eC (.int 0))) (aCons (eVar 15) (aCons (eC (.str "even")) aNil))))) aNil))) (eCall 9 (aCons (eVar 2) (aCons (eOp bIx (eVar 12) (eC (.int 0))) aNil))))) (sSeq (sRet (eC (.bl false))) sNil) sNil) sNil))) sNil)
abbrev qS15 : SS := (sSet 13 eDct0)
abbrev qS16 : SS := (sFor true (iSeq (eTup (aCons (eC (.str "even")) (aCons (eC (.str "zero")) (aCons (eC (.str "up")) (aCons (eC (.str "down")) aNil)))))) (tName 14) (sSeq (sAsg (eTup (aCons (eCall 18 (aCons (eVar 2) (aCons (eVar 4) (aCons (eVar 5) (aCons (eVar 14) aNil))))) (aCons (eCall 20 (aCons (eVar 2) (aCons (eVar 4) (aCons (eVar 5) (aCons (eVar 14) aNil))))) (aCons (eCall 21 (aCons (eVar 2) (aCons (eVar 4) (aCons (eVar 5) (aCons (eVar 14) aNil))))) aNil)))) (tSub (eVar 13) (eVar 14))) sNil))
abbrev qS17 : SS := (sRet (eCall 29 (aCons (eVar 2) (aCons (eVar 3) (aCons (eVar 4) (aCons (eVar 5) (aCons (eVar 6) (aCons (eVar 7) (aCons (eVar 8) (aCons (eVar 9) (aCons (eVar 13) aNil)))))))))))
abbrev bRw : SS := (sSeq (sAsg (eTup (aCons (eCall 18 (aCons (eVar 2) (aCons (eVar 4) (aCons (eVar 5) (aCons (eVar 14) aNil))))) (aCons (eCall 20 (aCons (eVar 2) (aCons (eVar 4) (aCons (eVar 5) (aCons (eVar 14) aNil))))) (aCons (eCall 21 (aCons (eVar 2) (aCons (eVar 4) (aCons (eVar 5) (aCons (eVar 14) aNil))))) aNil)))) (tSub (eVar 13) (eVar 14))) sNil)
section
variable {s : S} {C0 : C} {ρ : Ev.Env}
theorem not_b {a : ES} {P : Prop} [Decidable P] (ha : a C0 ρ s = .ok (.bl (decide P)) s) : eNot a C0 ρ s = .ok (.bl (decide (¬ P))) s := (not_ok ha).trans (by rw [decide_not])
theorem abs_n {a : ES} {v : Int} (ha : ∀ B, a ⟨C0.call, B⟩ ρ s = .ok (.int v) s) : eBlt absD (aCons a aNil) C0 ρ s = .ok (.int (v.natAbs : Int)) s := (abs_blt ha).trans (by congr 2; split <;> omega)
end
section
variable {m : Nat} {B : List Nat} {s : S} {e p : Nat} {c d t : Int} {n : Nat} {d0 a7 a8 a9 a10 a11 a12 a13 a14 a15 : D}
theorem ev_q10 (h : Fm e p) : qS10 ⟨callN tab (m + 20), B⟩ [d0, .ref n, fD e p, .int (2 ^ (e + p)), .int c, .int d, .int t, fD2 (vf e p c), fD2 (vf e p d), vD (vl e p t), a10, a11, a12, a13, a14, a15] s = .nx [d0, .ref n, fD e p, .int (2 ^ (e + p)), .int c, .int d, .int t, fD2 (vf e p c), fD2 (vf e p d), vD (vl e p t), .bl (decide ((vf e p c).1 * (vf e p d).1 > 0 ∧ (¬ lsP (2 * ((vf e p c).1.natAbs : Int), (vf e p c).2) (((vf e p d).1.natAbs : Int), (vf e p d).2)) ∧ ¬ lsP (2 * ((vf e p d).1.natAbs : Int), (vf e p d).2) (((vf e p c).1.natAbs : Int), (vf e p c).2))), a11, a12, a13, a14, a15] s := by
  have v1 := vf_rng h c
  have v2 := vf_rng h d
  refine (set_ok (s1 := s) (and_b (gt_e (mul_r (X_0 rfl) (X_0 rfl) (sm v2.2.1 v2.2.2)) rfl) (and_b (not_b (lls_c (m := m + 19) rfl ?_ ?_ ?_ ?_)) (not_b (lls_c (m := m + 19) rfl ?_ ?_ ?_ ?_))))).trans rfl
  · exact sm2 v1.1.1 v1.1.2
  · exact sm2 v2.1.1 v2.1.2
  · exact tup_ok (cons_ok (mul_l (x := 2) rfl (abs_n fun _ => X_0 (q := vf e p c) rfl) ⟨by decide, by decide⟩) (cons_ok (X_1 (q := vf e p c) rfl) nil_ok)) (by simp)
  · exact tup_ok (cons_ok (abs_n fun _ => X_0 (q := vf e p d) rfl) (cons_ok (X_1 (q := vf e p d) rfl) nil_ok)) (by simp)
  · exact sm2 v2.1.1 v2.1.2
  · exact sm2 v1.1.1 v1.1.2
  · exact tup_ok (cons_ok (mul_l (x := 2) rfl (abs_n fun _ => X_0 (q := vf e p d) rfl) ⟨by decide, by decide⟩) (cons_ok (X_1 (q := vf e p d) rfl) nil_ok)) (by simp)
  · exact tup_ok (cons_ok (abs_n fun _ => X_0 (q := vf e p c) rfl) (cons_ok (X_1 (q := vf e p c) rfl) nil_ok)) (by simp)
theorem ev_q11 (h : Fm e p) (f1 : Fin e p c) (f2 : Fin e p d) : qS11 ⟨callN tab (m + 20), B⟩ [d0, .ref n, fD e p, .int (2 ^ (e + p)), .int c, .int d, .int t, fD2 (vf e p c), fD2 (vf e p d), vD (vl e p t), a10, a11, a12, a13, a14, a15] s = .nx [d0, .ref n, fD e p, .int (2 ^ (e + p)), .int c, .int d, .int t, fD2 (vf e p c), fD2 (vf e p d), vD (vl e p t), a10, vD (vl e p (adS e p c (tn e p d) .ev)), a12, a13, a14, a15] s := by
  obtain ⟨⟨d2, d3⟩, _⟩ := tn_facts h f2.lo f2.hi
  have rr := adS_rng h f1.lo f1.hi d2 d3 .ev
  exact (set_ok (s1 := s) (val_c (m := m + 14) rfl h rr.1 rr.2 rfl (add_call (m := m + 11) (w := .ev) rfl h f1.lo f1.hi d2 d3 rfl rfl (tur_c (m := m + 16) rfl h f2.lo f2.hi rfl rfl) rfl))).trans rfl
theorem ev_q12 (h : Fm e p) (f1 : Fin e p c) (f2 : Fin e p d) {P : Prop} [Decidable P] (hP : P → (vf e p c).1 * (vf e p d).1 > 0 ∧ (¬ lsP (2 * ((vf e p c).1.natAbs : Int), (vf e p c).2) (((vf e p d).1.natAbs : Int), (vf e p d).2)) ∧ ¬ lsP (2 * ((vf e p d).1.natAbs : Int), (vf e p d).2) (((vf e p c).1.natAbs : Int), (vf e p c).2)) : qS12 ⟨callN tab (m + 20), B⟩ [d0, .ref n, fD e p, .int (2 ^ (e + p)), .int c, .int d, .int t, fD2 (vf e p c), fD2 (vf e p d), vD (vl e p t), .bl (decide P), vD (vl e p (adS e p c (tn e p d) .ev)), a12, a13, a14, a15] s = .nx [d0, .ref n, fD e p, .int (2 ^ (e + p)), .int c, .int d, .int t, fD2 (vf e p c), fD2 (vf e p d), vD (vl e p t), .bl (decide P), vD (vl e p (adS e p c (tn e p d) .ev)), a12, a13, a14, a15] s := by
  have v1 := vf_rng h c
  have v2 := vf_rng h d
  refine guard_nx ?_
  have g10 : eVar 10 ⟨callN tab (m + 20), B⟩ [d0, .ref n, fD e p, .int (2 ^ (e + p)), .int c, .int d, .int t, fD2 (vf e p c), fD2 (vf e p d), vD (vl e p t), .bl (decide P), vD (vl e p (adS e p c (tn e p d) .ev)), a12, a13, a14, a15] s = .ok (.bl (decide P)) s := rfl
  by_cases z : P
  · obtain ⟨n1, n2, n3⟩ := hP z
    obtain ⟨f, eq⟩ := m_near h f1 f2 n1 n2 n3
    have v3 := vf_rng h (adS e p c (tn e p d) .ev)
    have hvl : vD (vl e p (adS e p c (tn e p d) .ev)) = fD2 (vf e p (adS e p c (tn e p d) .ev)) := by rw [vl_fin h f]; rfl
    refine (and_t (g10.trans (by rw [decide_eq_true z]))).trans ?_
    rw [or_f]
    · refine ne_f (mul_r (mul_r (X_0 hvl) (X_1 rfl) (sm2 v1.1.1 v1.1.2)) (X_1 rfl) (sm2 v2.1.1 v2.1.2)) (mul_r (sub_e (mul_r (X_0 rfl) (X_1 rfl) (sm2 v2.1.1 v2.1.2)) (mul_r (X_0 rfl) (X_1 rfl) (sm2 v1.1.1 v1.1.2))) (X_1 hvl) (sm2 v3.1.1 v3.1.2)) eq
    · refine (is_non (var_ok rfl (vD_und _))).trans ?_
      rw [vl_fin h f]
      rfl
  · exact and_f (g10.trans (by rw [decide_eq_false z]))
theorem ev_q13 (h : Fm e p) (f1 : Fin e p c) (f2 : Fin e p d) : qS13 ⟨callN tab (m + 20), B⟩ [d0, .ref n, fD e p, .int (2 ^ (e + p)), .int c, .int d, .int t, fD2 (vf e p c), fD2 (vf e p d), vD (vl e p t), a10, a11, a12, a13, a14, a15] s = .nx [d0, .ref n, fD e p, .int (2 ^ (e + p)), .int c, .int d, .int t, fD2 (vf e p c), fD2 (vf e p d), vD (vl e p t), a10, a11, psS e p c d, a13, a14, a15] s := by
  refine (set_ok (d := psS e p c d) (s1 := s) ?_).trans rfl
  rw [call_ok (cons_ok (x := fD e p) rfl (cons_ok (x := .int c) rfl (cons_ok (x := .int d) rfl nil_ok)))]
  exact ev_pair (m := m + 10) h c d f1.lo f1.hi f2.lo f2.hi (.inr ⟨(fin_iff h).mpr f1.fin, (fin_iff h).mpr f2.fin⟩)
theorem ev_q14 (h : Fm e p) (f1 : Fin e p c) (f2 : Fin e p d) : ∃ y15, qS14 ⟨callN tab (m + 20), B⟩ [d0, .ref n, fD e p, .int (2 ^ (e + p)), .int c, .int d, .int t, fD2 (vf e p c), fD2 (vf e p d), vD (vl e p t), a10, a11, psS e p c d, a13, a14, a15] s = .nx [d0, .ref n, fD e p, .int (2 ^ (e + p)), .int c, .int d, .int t, fD2 (vf e p c), fD2 (vf e p d), vD (vl e p t), a10, a11, psS e p c d, a13, a14, y15] s := by
  by_cases q : vl e p (adS e p c d .ev) = none
  · have ht : psS e p c d = .non := by unfold psS; rw [if_pos q]
    rw [ht]
    exact ⟨a15, (if_f (d := .bl false) (s1 := s) rfl rfl).trans rfl⟩
  · have ht : psS e p c d = .tup [.int (adS e p c d .ev), fD2 (gapF e p c d (adS e p c d .ev))] := by unfold psS; rw [if_neg q]
    obtain ⟨fz, fb, vb, ab⟩ := m_gap h f1 f2 q
    rw [ht]
    have gp := (fr_den (a := tpA e p c d * (vf e p (adS e p c d .ev)).2 - (vf e p (adS e p c d .ev)).1 * (vf e p c).2 * (vf e p d).2) (den4 h c d (adS e p c d .ev)).1).1
    obtain ⟨z, hz⟩ : ∃ z, z = adS e p c d .ev := ⟨_, rfl⟩
    rw [← hz] at fz fb vb ab gp ⊢
    obtain ⟨g, hg⟩ : ∃ g, g = gapF e p c d z := ⟨_, rfl⟩
    have gp2 : 0 < g.2 := by rw [hg]; exact gp
    rw [← hg] at fb vb ab ⊢
    obtain ⟨b, hb⟩ : ∃ b, b = rd e p g.1 g.2 .ze := ⟨_, rfl⟩
    rw [← hb] at fb vb ab
    have vz := vf_rng h z
    have ar := adS_rng h fz.lo fz.hi fb.lo fb.hi .ev
    refine ⟨.int b, (if_t (d := .bl true) (s1 := s) rfl rfl).trans ?_⟩
    refine seq_go (ρ1 := [d0, .ref n, fD e p, .int (2 ^ (e + p)), .int c, .int d, .int t, fD2 (vf e p c), fD2 (vf e p d), vD (vl e p t), a10, a11, .tup [.int z, fD2 g], a13, a14, .int b]) (s1 := s) (set_ok (d := .int b) ?_) (seq_go (guard_nx (s1 := s) ?_) (seq_go (guard_nx (s1 := s) ?_) rfl))
    · rw [hb]
      exact rou_c (m := m + 12) (q := g) (w := .ze) rfl h gp2 rfl rfl rfl
    · refine neD_f (d := fD2 g) ((val_c (m := m + 14) rfl h fb.lo fb.hi rfl rfl).trans ?_) rfl rfl
      rw [vl_fin h fb, vb]
      rfl
    · have w1 : ∀ {B}, eCall 9 (aCons (eVar 2) (aCons (eOp bIx (eVar 12) (eC (.int 0))) aNil)) ⟨callN tab (m + 20), B⟩ [d0, .ref n, fD e p, .int (2 ^ (e + p)), .int c, .int d, .int t, fD2 (vf e p c), fD2 (vf e p d), vD (vl e p t), a10, a11, .tup [.int z, fD2 g], a13, a14, .int b] s = .ok (fD2 (vf e p z)) s := fun {B} => (val_c (m := m + 14) rfl h fz.lo fz.hi rfl rfl).trans (by rw [vl_fin h fz]; rfl)
      have g1 : eOp cGt (eOp bMul (eOp bMul (eC (.int 2)) (eBlt absD (aCons (eOp bIx (eOp bIx (eVar 12) (eC (.int 1))) (eC (.int 0))) aNil))) (eOp bIx (eCall 9 (aCons (eVar 2) (aCons (eOp bIx (eVar 12) (eC (.int 0))) aNil))) (eC (.int 1)))) (eC (.int 0)) ⟨callN tab (m + 20), B⟩ [d0, .ref n, fD e p, .int (2 ^ (e + p)), .int c, .int d, .int t, fD2 (vf e p c), fD2 (vf e p d), vD (vl e p t), a10, a11, .tup [.int z, fD2 g], a13, a14, .int b] s = .ok (.bl (decide (2 * (g.1.natAbs : Int) * (vf e p z).2 > 0))) s := by
        refine gt_e (mul_r (mul_l (x := 2) rfl (abs_n (v := g.1) fun _ => rfl) ⟨by decide, by decide⟩) ?_ (sm2 vz.1.1 vz.1.2)) rfl
        exact (op_ok w1 rfl).trans rfl
      by_cases g0 : g.1 = 0
      · refine and_f (g1.trans ?_)
        rw [g0]
        simp
      · refine and_ff g1 (neD_f (d := fD2 (vf e p z)) ((val_c (m := m + 14) rfl h ar.1 ar.2 rfl (add_call (m := m + 11) (w := .ev) rfl h fz.lo fz.hi fb.lo fb.hi rfl rfl rfl rfl)).trans ?_) w1 rfl) (.inr rfl)
        rw [ab g0, vl_fin h fz]
        rfl
theorem ev_row (h : Fm e p) (f1 : Fin e p c) (f2 : Fin e p d) {T : S} {kvs kvs' : List (D × D)} (w : Wy) (hp : dput kvs (.str (wS w)) (rowT e p c d w) = kvs') (hl : kvs.length < 10) : turn1 true (tName 14) bRw ⟨callN tab (m + 20), B⟩ (.str (wS w)) [d0, .ref n, fD e p, .int (2 ^ (e + p)), .int c, .int d, .int t, fD2 (vf e p c), fD2 (vf e p d), vD (vl e p t), a10, a11, a12, .ref T.length, a14, a15] (T ++ [.dct kvs]) = .nx [d0, .ref n, fD e p, .int (2 ^ (e + p)), .int c, .int d, .int t, fD2 (vf e p c), fD2 (vf e p d), vD (vl e p t), a10, a11, a12, .ref T.length, .str (wS w), a15] (T ++ [.dct kvs']) := by
  obtain ⟨sT, hsT⟩ : ∃ sT, sT = T ++ [O.dct kvs] := ⟨_, rfl⟩
  have hg : sT[T.length]? = some (.dct kvs) := by rw [hsT]; simp
  have hset : sT.set T.length (.dct kvs') = T ++ [.dct kvs'] := by rw [hsT]; exact top_set
  rw [← hsT, ← hset]
  refine turn_name (ρ1 := [d0, .ref n, fD e p, .int (2 ^ (e + p)), .int c, .int d, .int t, fD2 (vf e p c), fD2 (vf e p d), vD (vl e p t), a10, a11, a12, .ref T.length, .str (wS w), a15]) (s1 := sT.set T.length (.dct kvs')) ?_ (by simp)
  show bRw _ [d0, .ref n, fD e p, .int (2 ^ (e + p)), .int c, .int d, .int t, fD2 (vf e p c), fD2 (vf e p d), vD (vl e p t), a10, a11, a12, .ref T.length, .str (wS w), a15] sT = _
  refine seq_go (ρ1 := [d0, .ref n, fD e p, .int (2 ^ (e + p)), .int c, .int d, .int t, fD2 (vf e p c), fD2 (vf e p d), vD (vl e p t), a10, a11, a12, .ref T.length, .str (wS w), a15]) (s1 := sT.set T.length (.dct kvs')) ((asg_ok (d := rowT e p c d w) (s1 := sT) (tup_ok (cons_ok (s1 := sT) ?_ (cons_ok (s1 := sT) ?_ (cons_ok (s1 := sT) ?_ nil_ok))) (by simp))).trans ?_) rfl
  · exact add_call (m := m + 11) (w := w) rfl h f1.lo f1.hi f2.lo f2.hi rfl rfl rfl rfl
  · exact mul_c (m := m + 11) (w := w) rfl h f1.lo f1.hi f2.lo f2.hi rfl rfl rfl rfl
  · exact div_c (m := m + 11) (w := w) rfl h f1.lo f1.hi f2.lo f2.hi rfl rfl rfl rfl
  · unfold tSub
    simp only [eVar, gv, Res.bndS]
    simp only [setIx, hg, setK]
    rw [if_pos ⟨wok_pln fun _ => rfl, Nat.lt_trans hl (by unfold lim; decide)⟩, hp]
theorem ev_q16 (h : Fm e p) (f1 : Fin e p c) (f2 : Fin e p d) {T : S} : qS16 ⟨callN tab (m + 20), B⟩ [d0, .ref n, fD e p, .int (2 ^ (e + p)), .int c, .int d, .int t, fD2 (vf e p c), fD2 (vf e p d), vD (vl e p t), a10, a11, a12, .ref T.length, a14, a15] (T ++ [.dct []]) = .nx [d0, .ref n, fD e p, .int (2 ^ (e + p)), .int c, .int d, .int t, fD2 (vf e p c), fD2 (vf e p d), vD (vl e p t), a10, a11, a12, .ref T.length, .str (wS .dn), a15] (T ++ [.dct (rowK e p c d)]) := by
  have F : ∀ {B}, forL true none (tName 14) bRw ⟨callN tab (m + 20), B⟩ [.str (wS .ev), .str (wS .ze), .str (wS .up), .str (wS .dn)] [d0, .ref n, fD e p, .int (2 ^ (e + p)), .int c, .int d, .int t, fD2 (vf e p c), fD2 (vf e p d), vD (vl e p t), a10, a11, a12, .ref T.length, a14, a15] (T ++ [.dct []]) = .nx [d0, .ref n, fD e p, .int (2 ^ (e + p)), .int c, .int d, .int t, fD2 (vf e p c), fD2 (vf e p d), vD (vl e p t), a10, a11, a12, .ref T.length, .str (wS .dn), a15] (T ++ [.dct (rowK e p c d)]) := fun {B} => by
    rw [forL_cons (ev_row h f1 f2 (kvs' := [(.str "even", rowT e p c d .ev)]) .ev (by kernel_rfl) (by simp)) rfl]
    rw [forL_cons (ev_row h f1 f2 (kvs' := [(.str "even", rowT e p c d .ev), (.str "zero", rowT e p c d .ze)]) .ze (by kernel_rfl) (by simp)) rfl]
    rw [forL_cons (ev_row h f1 f2 (kvs' := [(.str "even", rowT e p c d .ev), (.str "zero", rowT e p c d .ze), (.str "up", rowT e p c d .up)]) .up (by kernel_rfl) (by simp)) rfl]
    rw [forL_cons (ev_row h f1 f2 (kvs' := rowK e p c d) .dn (by kernel_rfl) (by simp)) rfl]
    rfl
  refine for_nx (ds := [.str (wS .ev), .str (wS .ze), .str (wS .up), .str (wS .dn)]) (g := none) (s1 := T ++ [.dct []]) (ρ2 := [d0, .ref n, fD e p, .int (2 ^ (e + p)), .int c, .int d, .int t, fD2 (vf e p c), fD2 (vf e p d), vD (vl e p t), a10, a11, a12, .ref T.length, .str (wS .dn), a15]) (s2 := T ++ [.dct (rowK e p c d)]) ?_ ?_ (te_len (by simp))
  · rfl
  · exact F
end
end KL

set_option maxRecDepth 100000
namespace KL
open PySem Ev
local macro_rules | `(tactic| walk_at "st") => `(tactic| dsimp only [start0, List.length_cons, List.length_nil, List.replicate, List.cons_append, List.nil_append, Nat.reduceSub, Nat.reduceAdd])
local macro_rules | `(tactic| walk_at "ev") => `(tactic| simp (disch := omega) only [sSeq, sSet, sExpr, sRet, sRetN, sIf, sBrk, sCnt, sRaise, sNil, sAsg, sAug, sPar2, sFor, tName, tTup, tsCons, tsNil, tSub, eVar, eC, eOp, eUn, aNil, aCons, eTup, eLst, eCall, eBlt, gcF, gcE, eNot, eAnd, eOr, eIf, eChain, eTold, eMt, eSl, withPart, iR1, iR2, iR3, iSeq, Ev.iEnum, Res.bnd, Res.bndS, Res.bndA, Res.bndI, Rss.bnd, Rss.bndA, Rss.bndS, Rss.bndI, Itm.bnd, Itm.bndS, Out.bnd, Res.tst, Res.tstS, Res.tstA, gv, sv, tru, al, toRes, C.psh, endG, gOk, bAdd, bSub, uNeg, cLt, cLe, cGt, cGe, iAdd, lenD, intD, absD, if_true, if_false, Bool.false_eq_true, ite_true, ite_false, decide_true, decide_false, Bool.not_true, Bool.not_false, Bool.and_true, Bool.and_false, Bool.true_and, Bool.false_and, Int.zero_sub, and_true, true_and, and_false, false_and, not_true_eq_false, not_false_eq_true, finF_same, fin_same', cEq_int, cNe_int, decide_eq_true_eq, Bool.not_eq_true', decide_eq_false_iff_not, ite_not])
local macro_rules | `(tactic| walk_at "ew") => `(tactic| repeat (first | walk_at "ev" | (simp (disch := omega) only [ev_power_of, ev_check, ev_check_code, ev_meaning, ev_code_of, ev_widened, div_pow, mod_pow])))
theorem in_kinds {s : S} {k : Kd} (hk : k = .none ∨ k = .endless) : cIn (.str (kS k)) (.tup [.str "none", .str "endless"]) s = .ok (.bl true) s := by
  rcases hk with rfl | rfl <;> kernel_rfl

theorem ev_law {ns : List Int} {m : Nat} {s : S} {d0 : D} (hd : seqOf s d0 = some (ns.map D.int)) : ∃ s2, callN tab (m + 22) 30 [] [d0] s = .ok (.bl true) s2 := by
  have fin : ∀ {se : S}, c_law ⟨callN tab (m + 21), s.length :: []⟩ [d0, .und, .und, .und, .und, .und, .und, .und, .und, .und, .und, .und, .und, .und, .und, .und] s = .rt (.bl true) se → ∃ s2, callN tab (m + 22) 30 [] [d0] s = .ok (.bl true) s2 := fun e => by
    obtain ⟨s2, e2⟩ := fin_bl (b := s.length) (s := _) (p := true)
    exact ⟨s2, run_go (np := 1) (n := 16) rfl e e2⟩
  have hund : d0 ≠ .und := by intro e; subst e; cases hd
  obtain ⟨z, eBg, hz⟩ := ev_law_begin (k := m + 20) (B := [s.length]) hd
  have h1 := hd_begin (s := s) (ns := ns) hz
  obtain ⟨s1, hs1⟩ : ∃ s1 : S, s1 = s ++ [.lst (ns.map D.int), .lst (hnd s.length 0 0 z)] := ⟨_, rfl⟩
  obtain ⟨n, hn⟩ : ∃ n, n = s.length + 1 := ⟨_, rfl⟩
  rw [← hs1, ← hn] at eBg h1
  obtain ⟨v1, es1, t1, p1, q1, h2⟩ := take_callI (k := m + 20) (B := [s.length]) (ρ := [d0, .ref n, .und, .und, .und, .und, .und, .und, .und, .und, .und, .und, .und, .und, .und, .und]) (i := 1) (e := eC (.int 3)) (many := 3) h1 rfl rfl (by decide) (by decide)
  obtain ⟨s2, hs2⟩ : ∃ s2, s2 = s1.set n (.lst es1) := ⟨_, rfl⟩
  rw [← hs2] at t1 h2
  obtain ⟨v2, es2, t2, p2, q2, h3⟩ := take_callI (k := m + 20) (B := [s.length]) (ρ := [d0, .ref n, .und, .und, .und, .und, .und, .und, .und, .und, .und, .und, .und, .und, .und, .und]) (i := 1) (e := eC (.int 4)) (many := 4) h2 rfl rfl (by decide) (by decide)
  obtain ⟨s3, hs3⟩ : ∃ s3, s3 = s2.set n (.lst es2) := ⟨_, rfl⟩
  rw [← hs3] at t2 h3
  obtain ⟨e, he⟩ : ∃ e : Nat, (e : Int) = 2 + v1 := ⟨(2 + v1).toNat, by omega⟩
  obtain ⟨p, hp⟩ : ∃ p : Nat, (p : Int) = 1 + v2 := ⟨(1 + v2).toNat, by omega⟩
  have h : Fm e p := ⟨by omega, by omega, by omega, by omega⟩
  have hH := pow_pos' (e + p)
  have hL : (2 : Int) ^ (e + p) ≤ 256 := by
    obtain ⟨h1, h2, h3, h4⟩ := h
    have he : e = 2 ∨ e = 3 ∨ e = 4 := by omega
    have hp : p = 1 ∨ p = 2 ∨ p = 3 ∨ p = 4 := by omega
    rcases he with rfl | rfl | rfl <;> rcases hp with rfl | rfl | rfl | rfl <;> decide
  have e2 := pow1 e p
  have hm1 : (0 : Int) < 2 ^ (1 + e + p) := by omega
  have hm2 : (2 ^ (1 + e + p) : Int) < 2 ^ 62 := Int.lt_of_le_of_lt (b := 512) (by omega) (by decide)
  have siz : ∀ {ρ : Ev.Env} {s : S} {B : List Nat}, gv ρ 2 = fD e p → eCall 4 (aCons (eVar 2) aNil) ⟨callN tab (m + 21), B⟩ ρ s = .ok (.int (2 ^ (1 + e + p))) s := fun {ρ s B} hv => by
    rw [call_ok (cons_ok (x := fD e p) (var_ok hv (by simp [fD])) nil_ok)]
    exact ev_size (m := m + 19) h
  obtain ⟨c, es3, t3, c0, c1, h4⟩ := take_callI (k := m + 20) (B := [s.length]) (ρ := [d0, .ref n, fD e p, .int (2 ^ (e + p)), .und, .und, .und, .und, .und, .und, .und, .und, .und, .und, .und, .und]) (i := 1) (e := eCall 4 (aCons (eVar 2) aNil)) (many := 2 ^ (1 + e + p)) h3 rfl (siz rfl) hm1 hm2
  obtain ⟨s4, hs4⟩ : ∃ s4, s4 = s3.set n (.lst es3) := ⟨_, rfl⟩
  rw [← hs4] at t3 h4
  obtain ⟨d, es4, t4, dd0, dd1, h5⟩ := take_callI (k := m + 20) (B := [s.length]) (ρ := [d0, .ref n, fD e p, .int (2 ^ (e + p)), .int c, .und, .und, .und, .und, .und, .und, .und, .und, .und, .und, .und]) (i := 1) (e := eCall 4 (aCons (eVar 2) aNil)) (many := 2 ^ (1 + e + p)) h4 rfl (siz rfl) hm1 hm2
  obtain ⟨s5, hs5⟩ : ∃ s5, s5 = s4.set n (.lst es4) := ⟨_, rfl⟩
  rw [← hs5] at t4 h5
  obtain ⟨t, es5, t5, tt0, tt1, h6⟩ := take_callI (k := m + 20) (B := [s.length]) (ρ := [d0, .ref n, fD e p, .int (2 ^ (e + p)), .int c, .int d, .und, .und, .und, .und, .und, .und, .und, .und, .und, .und]) (i := 1) (e := eCall 4 (aCons (eVar 2) aNil)) (many := 2 ^ (1 + e + p)) h5 rfl (siz rfl) hm1 hm2
  obtain ⟨s6, hs6⟩ : ∃ s6, s6 = s5.set n (.lst es5) := ⟨_, rfl⟩
  rw [← hs6] at t5 h6
  -- the beginning
  have beg : ∀ {o : Out} {rest : SS}, rest ⟨callN tab (m + 21), [s.length]⟩ [d0, .ref n, fD e p, .int (2 ^ (e + p)), .int c, .int d, .int t, vD (vl e p c), vD (vl e p d), vD (vl e p t), .und, .und, .und, .und, .und, .und] s6 = o → (sSeq qS0 (sSeq qS1 (sSeq qS2 (sSeq qS3 (sSeq qS4 (sSeq qS5 (sSeq qS6 (sSeq qS7 (sSeq qS8 rest))))))))) ⟨callN tab (m + 21), [s.length]⟩ [d0, .und, .und, .und, .und, .und, .und, .und, .und, .und, .und, .und, .und, .und, .und, .und] s = o := fun {o rest} hrest => by
    refine seq_go (set_ok (d := .ref n) (s1 := s1) ?_) ?_
    · rw [call_ok (cons_ok (x := d0) (var_ok rfl hund) nil_ok)]
      exact eBg
    refine seq_go (ρ1 := [d0, .ref n, fD e p, .und, .und, .und, .und, .und, .und, .und, .und, .und, .und, .und, .und, .und]) (s1 := s3) (set_ok (d := fD e p) ?_) ?_
    · refine (tup_ok (xs := [.int (2 + v1), .int (1 + v2)]) (cons_ok ((op_ok (x := .int 2) (y := .int v1) (s1 := s1) (s2 := s2) rfl t1).trans add_ok) (cons_ok ((op_ok (x := .int 1) (y := .int v2) (s1 := s2) (s2 := s3) rfl t2).trans add_ok) nil_ok)) (by simp)).trans ?_
      rw [← he, ← hp]
      rfl
    refine seq_go (ρ1 := [d0, .ref n, fD e p, .int (2 ^ (e + p)), .und, .und, .und, .und, .und, .und, .und, .und, .und, .und, .und, .und]) (s1 := s3) (set_ok (d := .int (2 ^ (e + p))) ?_) ?_
    · refine ((op_ok (y := .int 2) (s2 := s3) (siz rfl) rfl).trans (div_ok (by decide) (big_of (by decide)))).trans ?_
      rw [e2, Int.mul_ediv_cancel_left _ (by decide)]
    refine seq_go (ρ1 := [d0, .ref n, fD e p, .int (2 ^ (e + p)), .int c, .und, .und, .und, .und, .und, .und, .und, .und, .und, .und, .und]) (s1 := s4) (set_ok t3) ?_
    refine seq_go (ρ1 := [d0, .ref n, fD e p, .int (2 ^ (e + p)), .int c, .int d, .und, .und, .und, .und, .und, .und, .und, .und, .und, .und]) (s1 := s5) (set_ok t4) ?_
    refine seq_go (ρ1 := [d0, .ref n, fD e p, .int (2 ^ (e + p)), .int c, .int d, .int t, .und, .und, .und, .und, .und, .und, .und, .und, .und]) (s1 := s6) (set_ok t5) ?_
    refine seq_go (ρ1 := [d0, .ref n, fD e p, .int (2 ^ (e + p)), .int c, .int d, .int t, vD (vl e p c), .und, .und, .und, .und, .und, .und, .und, .und]) (s1 := s6) (set_ok (val_c (m := m + 15) rfl h c0 c1 rfl rfl)) ?_
    refine seq_go (ρ1 := [d0, .ref n, fD e p, .int (2 ^ (e + p)), .int c, .int d, .int t, vD (vl e p c), vD (vl e p d), .und, .und, .und, .und, .und, .und, .und]) (s1 := s6) (set_ok (val_c (m := m + 15) rfl h dd0 dd1 rfl rfl)) ?_
    exact seq_go (ρ1 := [d0, .ref n, fD e p, .int (2 ^ (e + p)), .int c, .int d, .int t, vD (vl e p c), vD (vl e p d), vD (vl e p t), .und, .und, .und, .und, .und, .und]) (s1 := s6) (set_ok (val_c (m := m + 15) rfl h tt0 tt1 rfl rfl)) hrest
  have g7 : eVar 7 ⟨callN tab (m + 21), [s.length]⟩ [d0, .ref n, fD e p, .int (2 ^ (e + p)), .int c, .int d, .int t, vD (vl e p c), vD (vl e p d), vD (vl e p t), .und, .und, .und, .und, .und, .und] s6 = .ok (vD (vl e p c)) s6 := var_ok rfl (vD_und _)
  have g8 : eVar 8 ⟨callN tab (m + 21), [s.length]⟩ [d0, .ref n, fD e p, .int (2 ^ (e + p)), .int c, .int d, .int t, vD (vl e p c), vD (vl e p d), vD (vl e p t), .und, .und, .und, .und, .und, .und] s6 = .ok (vD (vl e p d)) s6 := var_ok rfl (vD_und _)
  by_cases q : vl e p c = none ∨ vl e p d = none
  · refine fin (se := s6) ?_
    dsimp only [c_law]
    refine beg (seq_rt ((if_t (d := .bl true) (s1 := s6) ((or_b (is_non g7) (is_non g8)).trans (by rw [decide_eq_true q])) rfl).trans (seq_rt (ret_ok ?_))))
    have rr := adS_rng h c0 c1 dd0 dd1 .ev
    have hb : ¬ bare e p c < edge e p ∨ ¬ bare e p d < edge e p := q.imp (fun z y => (fin_iff h).mpr y (vD_non.mp z)) (fun z y => (fin_iff h).mpr y (vD_non.mp z))
    exact (op_ok (knd_c (m := m + 16) rfl h rr.1 rr.2 rfl (add_call (m := m + 12) (w := .ev) rfl h c0 c1 dd0 dd1 rfl rfl rfl rfl)) rfl).trans (in_kinds (m_none h hb .ev))
  have f1 : Fin e p c := ((vl_cases h c0 c1).resolve_left fun z => q (.inl z.1)).2
  have f2 : Fin e p d := ((vl_cases h dd0 dd1).resolve_left fun z => q (.inr z.1)).2
  have w1 : vD (vl e p c) = fD2 (vf e p c) := by rw [vl_fin h f1]; rfl
  have w2 : vD (vl e p d) = fD2 (vf e p d) := by rw [vl_fin h f2]; rfl
  obtain ⟨y15, e14⟩ := ev_q14 (m := m + 1) (B := [s.length]) (s := s6) (n := n) (d0 := d0) (t := t) (a10 := .bl (decide ((vf e p c).1 * (vf e p d).1 > 0 ∧ (¬ lsP (2 * ((vf e p c).1.natAbs : Int), (vf e p c).2) (((vf e p d).1.natAbs : Int), (vf e p d).2)) ∧ ¬ lsP (2 * ((vf e p d).1.natAbs : Int), (vf e p d).2) (((vf e p c).1.natAbs : Int), (vf e p c).2)))) (a11 := vD (vl e p (adS e p c (tn e p d) .ev))) (a13 := .und) (a14 := .und) (a15 := .und) h f1 f2
  refine fin (se := s6 ++ [.dct (rowK e p c d)]) ?_
  dsimp only [c_law]
  refine beg (seq_go (guard_nx (s1 := s6) ((or_b (is_non g7) (is_non g8)).trans (by rw [decide_eq_false q]))) ?_)
  rw [w1, w2]
  refine seq_go (ev_q10 (m := m + 1) h) (seq_go (ev_q11 (m := m + 1) h f1 f2) (seq_go (ev_q12 (m := m + 1) h f1 f2 (fun z => z)) (seq_go (ev_q13 (m := m + 1) h f1 f2) (seq_go e14 ?_))))
  have e16 := ev_q16 (m := m + 1) (B := [s.length]) (T := s6) (n := n) (d0 := d0) (t := t) (a10 := .bl (decide ((vf e p c).1 * (vf e p d).1 > 0 ∧ (¬ lsP (2 * ((vf e p c).1.natAbs : Int), (vf e p c).2) (((vf e p d).1.natAbs : Int), (vf e p d).2)) ∧ ¬ lsP (2 * ((vf e p d).1.natAbs : Int), (vf e p d).2) (((vf e p c).1.natAbs : Int), (vf e p c).2)))) (a11 := vD (vl e p (adS e p c (tn e p d) .ev))) (a12 := psS e p c d) (a14 := .und) (a15 := y15) h f1 f2
  refine seq_go (ρ1 := [d0, .ref n, fD e p, .int (2 ^ (e + p)), .int c, .int d, .int t, fD2 (vf e p c), fD2 (vf e p d), vD (vl e p t), .bl (decide ((vf e p c).1 * (vf e p d).1 > 0 ∧ (¬ lsP (2 * ((vf e p c).1.natAbs : Int), (vf e p c).2) (((vf e p d).1.natAbs : Int), (vf e p d).2)) ∧ ¬ lsP (2 * ((vf e p d).1.natAbs : Int), (vf e p d).2) (((vf e p c).1.natAbs : Int), (vf e p c).2))), vD (vl e p (adS e p c (tn e p d) .ev)), psS e p c d, .ref s6.length, .und, y15]) (s1 := s6 ++ [.dct []]) rfl ?_
  refine seq_go e16 (seq_rt (ret_ok ?_))
  rw [call_ok (cons_ok (x := fD e p) rfl (cons_ok (x := .int (2 ^ (e + p))) rfl (cons_ok (x := .int c) rfl (cons_ok (x := .int d) rfl (cons_ok (x := .int t) rfl (cons_ok (x := fD2 (vf e p c)) rfl (cons_ok (x := fD2 (vf e p d)) rfl (cons_ok (x := vD (vl e p t)) (var_ok rfl (vD_und _)) (cons_ok (x := .ref s6.length) rfl nil_ok)))))))))]
  exact ev_part1 (m := m) h f1 f2 tt0 tt1 (by simp [dctOf])
end KL

set_option maxRecDepth 100000
set_option maxHeartbeats 4000000
namespace KL
open PySem L2 Ev PyProof.Rows
theorem main (ns : List Int) (s : S) (d : D) (hn : ns.length ≤ 63) (hb : ∀ z ∈ ns, Builtin.Int.intBits z ≤ 1048576) (hd : seqOf s d = some (ns.map D.int)) : ∃ s2, callN tab (fuel + 1) 30 [] [d] s = .ok (.bl true) s2 :=
  ev_law (m := 39) hd
end KL
open PySem PySem.W PySem.Calls PyProof.Rows in
theorem PySem.Challenge.cw_machinehall_k29_whole_points_that_move_e_holds : PySem.Challenge.rw_machinehall_k29_whole_points_that_move_e.Holds := by
  w_on; o_law
  refine HandSHeadRun.head_any (r := OpenLaw.row PySem.Challenge.rw_machinehall_k29_whole_points_that_move_e) (q := view (OpenLaw.row PySem.Challenge.rw_machinehall_k29_whole_points_that_move_e).prog [35]) (H := KL.hkK) (ob := KL.obK) (M := 4000) (loose := KL.others) (d := HandSHeadRun.topDef (OpenLaw.row PySem.Challenge.rw_machinehall_k29_whole_points_that_move_e).prog 35) (kwd := []) KL.ob_eq
    (by kernel_rfl) (fun s => by kernel_rfl) KL.run (by kernel_rfl) (by kernel_rfl) (by kernel_rfl) (by rfl) (by first | assumption | decide +kernel) (by decide +kernel) ⟨rfl, rfl, rfl, rfl, rfl, by decide +kernel⟩ ?hw ?hc
  case hw => w_witness2
  case hc =>
    refine LamX.walk_ofTsE (l := PySem.Challenge.rw_machinehall_k29_whole_points_that_move_e) (n := 63) (k := 3 * KL.fuel + 2 + 1) (x := "script") (CX := fun w => L2.CX PySem.Challenge.pw_machinehall_k29_whole_points_that_move_e w) rfl (by decide) (by kernel_rfl) ⟨rfl, by decide, by decide⟩ ?F (fun _ _ _ _ _ z => ?z)
    case z =>
      obtain ⟨_, _, _, _, _, _, _, _, _, _, _, _, z⟩ := z
      exact z
    case F =>
      intro w mg fa h Y G hmg0
      obtain ⟨K, KX, c⟩ := Y
      have hmg : mg ("law" : PySem.Str) = some (.ref fa) := by
        have e : (HandSHeadRun.topDef (OpenLaw.row PySem.Challenge.rw_machinehall_k29_whole_points_that_move_e).prog 35).name = ("law" : PySem.Str) := by kernel_rfl
        rw [← e]
        exact hmg0
      exact ⟨K, KX, KL.law_at rfl KL.main KX G c hmg⟩

