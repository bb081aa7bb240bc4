import PyProof.Rows.All
import HandS.ForMost
import HandS.ForExc
import HandS.Lambda
import KE.SortData
import HandS.Flow
import HandS.TupAny
import HandS.TupMul
import HandS.Style
import HandS.TupLe
import HandS.Deep
import KE.DataMinMax
import HandS.Small
import HandS.More
import HandS.Comp
import HandS.Iter
import HandS.Walk
import HandS.Zip
import PyProof.EnumMake
import KE.GoesMore
import HandS.WordsExc
import HandS.Nested
import HandS.ExcInit
import KE.KExcSuper
import KE.KSuper
import HandS.ClsMeth
import HandS.ExcField
import HandS.EndTab
import HandS.Head0
import HandS.Head1
import HandS.Head2
import HandS.HeadEnd
import HandS.HeadHook1
import HandS.HeadHook2
import HandS.HeadHook3
import HandS.HeadHook4
import HandS.HeadWalk
import PySem.Challenge.RW_machinehall_k24_whole_figures
set_option Elab.async false
set_option linter.all false
/-! Ev: an evaluator over data trees and a store of changeable objects; every definition is a function, so that a law's run is reckoned in plain Lean. -/
namespace Ev
open PySem

/-- a value: trees for what never changes, a place of the store for what may -/
inductive D where
  | und | non | bl (b : Bool) | int (i : Int) | str (x : Str) | tup (ds : List D) | frl (ds : List D) | ref (n : Nat)
/-- an object of the store -/
inductive O where
  | lst (ds : List D) | dct (kvs : List (D × D)) | dfz (kvs : List (D × D)) | ins (c : Nat) (fs : List (Str × D))
abbrev S := List O
abbrev Env := List D
inductive Res where
  | ok (d : D) (s : S) | exc (c : D) (s : S) | fail
inductive Out where
  | nx (ρ : Env) (s : S) | rt (d : D) (s : S) | bk (ρ : Env) (s : S) | ct (ρ : Env) (s : S) | exc (c : D) (s : S) | fail
/-- several values -/
inductive Rss where
  | ok (ds : List D) (s : S) | exc (c : D) (s : S) | fail
/-- what a loop walks: the items, the object they come from, the store -/
inductive Itm where
  | ok (ds : List D) (g : Option (Nat × List D)) (s : S) | exc (c : D) (s : S) | fail
/-- the calls that may be made, and the sizes of the store at which inner blocks began -/
structure C where
  call : Nat → List Nat → List D → S → Res
  B : List Nat
abbrev ES := C → Env → S → Res
abbrev AS := C → Env → S → Rss
abbrev SS := C → Env → S → Out
abbrev IS := C → Env → S → Itm

mutual
/-- a place from b on is spoken of -/
def D.yg (b : Nat) : D → Bool
  | .ref n => decide (b ≤ n)
  | .tup ds => D.ygs b ds
  | .frl ds => D.ygs b ds
  | .und => false
  | .non => false
  | .bl _ => false
  | .int _ => false
  | .str _ => false
def D.ygs (b : Nat) : List D → Bool
  | [] => false
  | d :: r => d.yg b || D.ygs b r
end
mutual
/-- neither places nor unset names within -/
def D.pur : D → Bool
  | .ref _ => false
  | .tup ds => D.purs ds
  | .frl ds => D.purs ds
  | .und => false
  | .non => true
  | .bl _ => true
  | .int _ => true
  | .str _ => true
def D.purs : List D → Bool
  | [] => true
  | d :: r => d.pur && D.purs r
end
mutual
def D.pd : D → PyData
  | .ref _ => .none
  | .tup ds => .tuple (D.pds ds)
  | .frl ds => .list (D.pds ds)
  | .und => .none
  | .non => .none
  | .bl b => .bool b
  | .int i => .int i
  | .str x => .str x
def D.pds : List D → List PyData
  | [] => []
  | d :: r => d.pd :: D.pds r
end
mutual
/-- alike by value (True is 1) -/
def D.eqv : D → D → Bool
  | .non, .non => true
  | .bl a, .bl b => a == b
  | .bl a, .int j => (if a then 1 else 0) == j
  | .int i, .bl b => i == (if b then 1 else 0)
  | .int i, .int j => i == j
  | .str x, .str y => x == y
  | .tup xs, .tup ys => D.eqvs xs ys
  | .frl xs, .frl ys => D.eqvs xs ys
  | _, _ => false
def D.eqvs : List D → List D → Bool
  | [], [] => true
  | x :: xs, y :: ys => D.eqv x y && D.eqvs xs ys
  | _, _ => false
end

mutual
/-- the same tree -/
def D.beq : D → D → Bool
  | .und, .und => true
  | .non, .non => true
  | .bl a, .bl b => a == b
  | .int i, .int j => i == j
  | .str x, .str y => x == y
  | .tup xs, .tup ys => D.beqs xs ys
  | .frl xs, .frl ys => D.beqs xs ys
  | .ref n, .ref m => n == m
  | _, _ => false
def D.beqs : List D → List D → Bool
  | [], [] => true
  | x :: xs, y :: ys => D.beq x y && D.beqs xs ys
  | _, _ => false
end
mutual
theorem D.beq_self : ∀ (x : D), D.beq x x = true
  | .und => rfl
  | .non => rfl
  | .bl a => by simp [D.beq]
  | .int i => by simp [D.beq]
  | .str x => by simp [D.beq]
  | .tup xs => by rw [D.beq]; exact D.beqs_self xs
  | .frl xs => by rw [D.beq]; exact D.beqs_self xs
  | .ref n => by simp [D.beq]
theorem D.beqs_self : ∀ (x : List D), D.beqs x x = true
  | [] => rfl
  | x :: xs => by rw [D.beqs, D.beq_self x, D.beqs_self xs]; rfl
end
mutual
theorem D.beq_eq : ∀ (x y : D), D.beq x y = true → x = y
  | .und, y, h => by cases y <;> first | rfl | (simp [D.beq] at h)
  | .non, y, h => by cases y <;> first | rfl | (simp [D.beq] at h)
  | .bl a, y, h => by cases y <;> simp [D.beq] at h; subst h; rfl
  | .int a, y, h => by cases y <;> simp [D.beq] at h; subst h; rfl
  | .str a, y, h => by cases y <;> simp [D.beq] at h; subst h; rfl
  | .ref a, y, h => by cases y <;> simp [D.beq] at h; subst h; rfl
  | .tup xs, y, h => by
    cases y <;> simp [D.beq] at h
    rw [D.beqs_eq _ _ h]
  | .frl xs, y, h => by
    cases y <;> simp [D.beq] at h
    rw [D.beqs_eq _ _ h]
theorem D.beqs_eq : ∀ (x y : List D), D.beqs x y = true → x = y
  | [], [], _ => rfl
  | [], _ :: _, h => by simp [D.beqs] at h
  | _ :: _, [], h => by simp [D.beqs] at h
  | x :: xs, y :: ys, h => by
    simp [D.beqs] at h
    rw [D.beq_eq x y h.1, D.beqs_eq xs ys h.2]
end

def Res.bnd (r : Res) (f : D → S → Res) : Res := match r with | .ok d s => f d s | .exc c s => .exc c s | .fail => .fail
def Res.bndS (r : Res) (f : D → S → Out) : Out := match r with | .ok d s => f d s | .exc c s => .exc c s | .fail => .fail
def Res.bndA (r : Res) (f : D → S → Rss) : Rss := match r with | .ok d s => f d s | .exc c s => .exc c s | .fail => .fail
def Res.bndI (r : Res) (f : D → S → Itm) : Itm := match r with | .ok d s => f d s | .exc c s => .exc c s | .fail => .fail
def Rss.bnd (r : Rss) (f : List D → S → Res) : Res := match r with | .ok d s => f d s | .exc c s => .exc c s | .fail => .fail
def Rss.bndA (r : Rss) (f : List D → S → Rss) : Rss := match r with | .ok d s => f d s | .exc c s => .exc c s | .fail => .fail
def Rss.bndS (r : Rss) (f : List D → S → Out) : Out := match r with | .ok d s => f d s | .exc c s => .exc c s | .fail => .fail
def Rss.bndI (r : Rss) (f : List D → S → Itm) : Itm := match r with | .ok d s => f d s | .exc c s => .exc c s | .fail => .fail
def Itm.bndS (r : Itm) (f : List D → Option (Nat × List D) → S → Out) : Out := match r with | .ok d g s => f d g s | .exc c s => .exc c s | .fail => .fail
def Itm.bnd (r : Itm) (f : List D → Option (Nat × List D) → S → Res) : Res := match r with | .ok d g s => f d g s | .exc c s => .exc c s | .fail => .fail
def Out.bnd (r : Out) (f : Env → S → Out) : Out := match r with | .nx ρ s => f ρ s | .rt d s => .rt d s | .bk ρ s => .bk ρ s | .ct ρ s => .ct ρ s | .exc c s => .exc c s | .fail => .fail

/-! ### slots -/
def gv : Env → Nat → D
  | [], _ => .und
  | d :: _, 0 => d
  | _ :: r, n + 1 => gv r n
def sv : Env → Nat → D → Env
  | [], _, _ => []
  | _ :: r, 0, d => d :: r
  | x :: r, n + 1, d => x :: sv r n d

/-! ### the store -/
def lim : Nat := 16777216
def lstOf (s : S) (n : Nat) : Option (List D) := match s[n]? with | some (.lst ds) => some ds | _ => none
def dctOf (s : S) (n : Nat) : Option (List (D × D)) := match s[n]? with | some (.dct ds) => some ds | some (.dfz ds) => some ds | _ => none
def seqOf (s : S) : D → Option (List D)
  | .tup ds => some ds
  | .frl ds => some ds
  | .ref n => lstOf s n
  | _ => none
def al (o : O) (s : S) : Res := .ok (.ref s.length) (s ++ [o])
/-- a value may be put into the object at i: none that is younger than a block around which i is elder -/
def wok (B : List Nat) (i : Nat) (d : D) : Bool := B.all fun b => !(decide (i < b) && d.yg b)
def woks (B : List Nat) (i : Nat) (ds : List D) : Bool := B.all fun b => !(decide (i < b) && D.ygs b ds)
/-- what a block that began at b leaves: a value that speaks of nothing new lets go what is new -/
def fin (b : Nat) : Res → Res
  | .ok d s => if s.length = b then .ok d s else if d.yg b then .ok d s else .ok d (s.take b)
  | .exc c s => if s.length = b then .exc c s else if c.yg b then .fail else .exc c (s.take b)
  | .fail => .fail
/-- .. a def's: a new list of elder values is moved down -/
def finF (b : Nat) : Res → Res
  | .ok (.ref n) s => if s.length = b then .ok (.ref n) s else if n < b then .ok (.ref n) (s.take b) else
      match s[n]? with
      | some (.lst ds) => if D.ygs b ds then .ok (.ref n) s else .ok (.ref b) (s.take b ++ [.lst ds])
      | _ => .ok (.ref n) s
  | r => fin b r
def erase (b : Nat) : Env → Env
  | [] => []
  | d :: r => (if d.yg b then .und else d) :: erase b r
def gcE (e : ES) : ES := fun c ρ s => fin s.length (e { c with B := s.length :: c.B } ρ s)
def gcF (e : ES) : ES := fun c ρ s => finF s.length (e { c with B := s.length :: c.B } ρ s)

/-! ### expressions -/
def eVar (i : Nat) : ES := fun _ ρ s => match gv ρ i with | .und => .fail | d => .ok d s
def eC (d : D) : ES := fun _ _ s => .ok d s
def eOp (f : D → D → S → Res) (a b : ES) : ES := fun c ρ s => (a c ρ s).bnd fun x s => (b c ρ s).bnd fun y s => f x y s
def eUn (f : D → S → Res) (a : ES) : ES := fun c ρ s => (a c ρ s).bnd fun x s => f x s
def aNil : AS := fun _ _ s => .ok [] s
def aCons (a : ES) (r : AS) : AS := fun c ρ s => (a c ρ s).bndA fun x s => (r c ρ s).bndA fun xs s => .ok (x :: xs) s
def eTup (a : AS) : ES := fun c ρ s => (a c ρ s).bnd fun xs s => if xs.length ≤ lim then .ok (.tup xs) s else .fail
def eLst (a : AS) : ES := fun c ρ s => (a c ρ s).bnd fun xs s => if xs.length ≤ lim then al (.lst xs) s else .fail
/-- a def of the table -/
def eCall (f : Nat) (a : AS) : ES := fun c ρ s => (a c ρ s).bnd fun xs s => c.call f c.B xs s
/-- a built-in of values -/
def eBlt (f : List D → S → Res) (a : AS) : ES := gcF fun c ρ s => (a c ρ s).bnd fun xs s => f xs s
/-- a test: what is true and what not -/
def tru (s : S) : D → Option Bool
  | .non => some false
  | .bl b => some b
  | .int i => some (i != 0)
  | .str x => if x.length ≤ lim then some (x.length != 0) else none
  | .tup ds => some (!ds.isEmpty)
  | .frl ds => some (!ds.isEmpty)
  | .ref n => match s[n]? with
    | some (.lst ds) => some (!ds.isEmpty)
    | some (.dct ds) => some (!ds.isEmpty)
    | _ => none
  | .und => none
def Res.tst (r : Res) (f : Bool → S → Res) : Res := match r with | .ok d s => (match tru s d with | some b => f b s | none => .fail) | .exc c s => .exc c s | .fail => .fail
def Res.tstS (r : Res) (f : Bool → S → Out) : Out := match r with | .ok d s => (match tru s d with | some b => f b s | none => .fail) | .exc c s => .exc c s | .fail => .fail
def eNot (a : ES) : ES := fun c ρ s => (a c ρ s).tst fun b s => .ok (.bl (!b)) s
/-- a and b, as a value -/
def eAnd (a b : ES) : ES := fun c ρ s => (a c ρ s).bnd fun x s => match tru s x with | some true => b c ρ s | some false => .ok x s | none => .fail
def eOr (a b : ES) : ES := fun c ρ s => (a c ρ s).bnd fun x s => match tru s x with | some false => b c ρ s | some true => .ok x s | none => .fail
def eIf (t a b : ES) : ES := fun c ρ s => (t c ρ s).tst fun k s => if k = true then a c ρ s else b c ρ s
/-- a < b < c -/
def eChain (f g : D → D → S → Res) (x y z : ES) : ES := fun c ρ s => (x c ρ s).bnd fun a s => (y c ρ s).bnd fun b s => (f a b s).bnd fun k s => match k with
  | .bl true => (z c ρ s).bnd fun d s => g b d s
  | .bl false => .ok (.bl false) s
  | _ => .fail
/-- the told code of an own error, or the value -/
def eTold (a : ES) : ES := gcE fun c ρ s => match a c ρ s with | .ok d s => .ok d s | .exc k s => .ok k s | .fail => .fail

/-! ### statements -/
def sNil : SS := fun _ ρ s => .nx ρ s
def sSeq (a b : SS) : SS := fun c ρ s => (a c ρ s).bnd fun ρ s => b c ρ s
def sSet (i : Nat) (e : ES) : SS := fun c ρ s => (e c ρ s).bndS fun d s => .nx (sv ρ i d) s
def sExpr (e : ES) : SS := fun c ρ s => (e c ρ s).bndS fun _ s => .nx ρ s
def sRet (e : ES) : SS := fun c ρ s => (e c ρ s).bndS fun d s => .rt d s
def sRetN : SS := fun _ _ s => .rt .non s
def sIf (t : ES) (a b : SS) : SS := fun c ρ s => (t c ρ s).tstS fun k s => if k = true then a c ρ s else b c ρ s
def sBrk : SS := fun _ ρ s => .bk ρ s
def sCnt : SS := fun _ ρ s => .ct ρ s
/-- raise MachineError(e) -/
def sRaise (e : ES) : SS := fun c ρ s => (e c ρ s).bndS fun d s => .exc d s

/-! ### targets -/
abbrev TS := C → D → Env → S → Out
def tName (i : Nat) : TS := fun _ d ρ s => .nx (sv ρ i d) s
abbrev TSs := C → List D → Env → S → Out
def tsNil : TSs := fun _ ds ρ s => match ds with | [] => .nx ρ s | _ => .fail
def tsCons (t : TS) (r : TSs) : TSs := fun c ds ρ s => match ds with | d :: x => (t c d ρ s).bnd fun ρ s => r c x ρ s | [] => .fail
def tTup (n : Nat) (r : TSs) : TS := fun c d ρ s => match seqOf s d with | some ds => if ds.length = n then r c ds ρ s else .fail | none => .fail
def sAsg (e : ES) (t : TS) : SS := fun c ρ s => (e c ρ s).bndS fun d s => t c d ρ s

/-! ### loops -/
/-- the end of a turn: what is new is let go, and the names that speak of it -/
def turnEnd (gc : Bool) (b : Nat) (ρ : Env) (s : S) (k : Env → S → Out) : Out := if gc = true ∧ s.length ≠ b then k (erase b ρ) (s.take b) else k ρ s
/-- the object that is walked stands as it did -/
def gOk (g : Option (Nat × List D)) (s : S) : Bool := match g with
  | none => true
  | some (n, ds) => match s[n]? with | some (.lst es) => D.beqs es ds | _ => false
def C.psh (gc : Bool) (b : Nat) (c : C) : C := if gc then { c with B := b :: c.B } else c
def forL (gc : Bool) (g : Option (Nat × List D)) (t : TS) (body : SS) (c : C) : List D → Env → S → Out
  | [], ρ, s => .nx ρ s
  | d :: r, ρ, s =>
    match (t (c.psh gc s.length) d ρ s).bnd fun ρ' s' => body (c.psh gc s.length) ρ' s' with
    | .nx ρ' s' => turnEnd gc s.length ρ' s' fun ρ' s' => if gOk g s' then forL gc g t body c r ρ' s' else .fail
    | .ct ρ' s' => turnEnd gc s.length ρ' s' fun ρ' s' => if gOk g s' then forL gc g t body c r ρ' s' else .fail
    | .bk ρ' s' => turnEnd gc s.length ρ' s' .nx
    | .rt d s' => .rt d s'
    | .exc k s' => .exc k s'
    | .fail => .fail
def endG (gc : Bool) (b : Nat) (o : Out) : Out := match o with | .nx ρ s => turnEnd gc b ρ s .nx | o => o
def sFor (gc : Bool) (it : IS) (t : TS) (body : SS) : SS := fun c ρ s =>
  endG gc s.length ((it (c.psh gc s.length) ρ s).bndS fun ds g s1 => forL gc g t body (c.psh gc s.length) ds ρ s1)
/-- how many turns a while may make -/
def turns : Nat := 1048576
def whileL (gc : Bool) (t : ES) (body : SS) (c : C) : Nat → Env → S → Out
  | 0, _, _ => .fail
  | n + 1, ρ, s => (t (c.psh gc s.length) ρ s).tstS fun k s1 => if k = true then
      (match body (c.psh gc s.length) ρ s1 with
      | .nx ρ' s' => turnEnd gc s.length ρ' s' (whileL gc t body c n)
      | .ct ρ' s' => turnEnd gc s.length ρ' s' (whileL gc t body c n)
      | .bk ρ' s' => turnEnd gc s.length ρ' s' .nx
      | .rt d s' => .rt d s'
      | .exc k s' => .exc k s'
      | .fail => .fail)
    else turnEnd gc s.length ρ s1 .nx
def sWhile (gc : Bool) (t : ES) (body : SS) : SS := fun c ρ s => whileL gc t body c turns ρ s

/-! ### comprehensions -/
def wipeD (ρ : Env) : List Nat → Env
  | [] => ρ
  | v :: vs => sv (wipeD ρ vs) v .und
def Res.tstA (r : Res) (f : Bool → S → Rss) : Rss := match r with | .ok d s => (match tru s d with | some b => f b s | none => .fail) | .exc c s => .exc c s | .fail => .fail
def finA (b : Nat) : Rss → Rss
  | .ok ds s => if s.length = b then .ok ds s else if D.ygs b ds then .ok ds s else .ok ds (s.take b)
  | .exc c s => .exc c s
  | .fail => .fail
/-- an item, or none -/
def compE (ts : Option ES) (e : ES) (c : C) (ρ : Env) (s : S) : Rss := match ts with
  | none => (e c ρ s).bndA fun x s => .ok [x] s
  | some q => (q c ρ s).tstA fun k s => if k = true then (e c ρ s).bndA fun x s => .ok [x] s else .ok [] s
def compL (g : Option (Nat × List D)) (t : TS) (ts : Option ES) (e : ES) (c : C) (ρ : Env) : List D → S → Rss
  | [], s => .ok [] s
  | d :: r, s => match t { c with B := s.length :: c.B } d ρ s with
    | .nx ρ' s1 => (match finA s.length (compE ts e { c with B := s.length :: c.B } ρ' s1) with
      | .ok xs s4 => if gOk g s4 then (compL g t ts e c ρ r s4).bndA fun ys s => .ok (xs ++ ys) s else .fail
      | _ => .fail)
    | _ => .fail
def eComp (it : IS) (own : List Nat) (t : TS) (ts : Option ES) (e : ES) : ES := fun c ρ s => finF s.length (
  (it { c with B := s.length :: c.B } ρ s).bnd fun ds g s1 => if ds.length ≤ lim then (compL g t ts e { c with B := s.length :: c.B } (wipeD ρ own) ds s1).bnd fun xs s2 => al (.lst xs) s2 else .fail)
end Ev

namespace Ev
open PySem

/-! ### what operators make of values -/
def D.shp : Nat → D → Bool
  | _, .non => true
  | _, .bl _ => true
  | _, .int _ => true
  | _, .str x => PyData.strOk x
  | k + 1, .tup ds => ds.all (D.shp k)
  | _, _ => false
/-- a value or a list of the store as data -/
def toP : Nat → S → D → Option PyData
  | _, _, .non => some .none
  | _, _, .bl b => some (.bool b)
  | _, _, .int i => some (.int i)
  | _, _, .str x => some (.str x)
  | k + 1, s, .tup ds => (ds.mapM (toP k s)).map .tuple
  | k + 1, s, .frl ds => (ds.mapM (toP k s)).map .list
  | k + 1, s, .ref n => match lstOf s n with | some ds => (ds.mapM (toP k s)).map .list | none => none
  | _, _, _ => none
def eqD (x y : D) (s : S) : Option Bool :=
  if x.shp 40 && y.shp 40 then some (x.eqv y) else
    match toP 40 s x, toP 40 s y with
    | some p, some q => if SeqAt.shaped p && SeqAt.shaped q then some (PyData.eqv p q) else none
    | _, _ => none
def mulOk (i j : Int) : Bool := decide (-(2 ^ 64) < i ∧ i < 2 ^ 64) || decide (-(2 ^ 64) < j ∧ j < 2 ^ 64)
def bAdd : D → D → S → Res
  | .int i, .int j, s => .ok (.int (i + j)) s
  | .str a, .str b, s => if a.length + b.length ≤ lim then .ok (.str (a ++ b)) s else .fail
  | .tup a, .tup b, s => if a.length + b.length ≤ lim then .ok (.tup (a ++ b)) s else .fail
  | .ref n, .ref m, s => match lstOf s n, lstOf s m with
    | some a, some b => if a.length + b.length ≤ lim then al (.lst (a ++ b)) s else .fail
    | _, _ => .fail
  | _, _, _ => .fail
def bSub : D → D → S → Res
  | .int i, .int j, s => .ok (.int (i - j)) s
  | _, _, _ => .fail
def bMul : D → D → S → Res
  | .int i, .int j, s => if mulOk i j then .ok (.int (i * j)) s else .fail
  | .tup a, .int k, s => if a ≠ [] ∧ 2 ≤ k ∧ k ≤ 1000 ∧ a.length ≤ 1000 then .ok (.tup (List.replicate k.toNat a).flatten) s else .fail
  | .ref n, .int k, s => match lstOf s n with
    | some a => if -(2 ^ 63) ≤ k ∧ k < 2 ^ 63 ∧ a.length * k.toNat ≤ lim then al (.lst (List.replicate k.toNat a).flatten) s else .fail
    | none => .fail
  | _, _, _ => .fail
def big : Int := 2 ^ 1000
def bDiv : D → D → S → Res
  | .int i, .int j, s => if 0 < j ∧ j < big then .ok (.int (i / j)) s else .fail
  | _, _, _ => .fail
def bMod : D → D → S → Res
  | .int i, .int j, s => if 0 < j then .ok (.int (i % j)) s else .fail
  | _, _, _ => .fail
def powOk (i j : Int) : Bool := decide (0 ≤ j ∧ j ≤ 1000000 ∧ i.natAbs < 2 ^ 64)
def bPow : D → D → S → Res
  | .int i, .int j, s => if powOk i j then .ok (.int (i ^ j.toNat)) s else .fail
  | _, _, _ => .fail
def bShl : D → D → S → Res
  | .int i, .int j, s => if powOk i j then .ok (.int (i * 2 ^ j.toNat)) s else .fail
  | _, _, _ => .fail
def bShr : D → D → S → Res
  | .int i, .int j, s => if 0 ≤ j then .ok (.int (i / 2 ^ j.toNat)) s else .fail
  | _, _, _ => .fail
def bAnd : D → D → S → Res
  | .int i, .int j, s => .ok (.int (Builtin.bitAnd i j)) s
  | _, _, _ => .fail
def bOr : D → D → S → Res
  | .int i, .int j, s => .ok (.int (Builtin.bitOr i j)) s
  | _, _, _ => .fail
def bXor : D → D → S → Res
  | .int i, .int j, s => .ok (.int (Builtin.bitXor i j)) s
  | _, _, _ => .fail
def uNeg : D → S → Res
  | .int i, s => .ok (.int (-i)) s
  | _, _ => .fail
def ofB (o : Option Bool) (s : S) : Res := match o with | some b => .ok (.bl b) s | none => .fail
def cEq (x y : D) (s : S) : Res := ofB (eqD x y s) s
def cNe (x y : D) (s : S) : Res := ofB ((eqD x y s).map (!·)) s
def cLt : D → D → S → Res
  | .int i, .int j, s => .ok (.bl (decide (i < j))) s
  | _, _, _ => .fail
def cLe : D → D → S → Res
  | .int i, .int j, s => .ok (.bl (decide (i ≤ j))) s
  | _, _, _ => .fail
def cGt : D → D → S → Res
  | .int i, .int j, s => .ok (.bl (decide (j < i))) s
  | _, _, _ => .fail
def cGe : D → D → S → Res
  | .int i, .int j, s => .ok (.bl (decide (j ≤ i))) s
  | _, _, _ => .fail
def D.isNon : D → Bool
  | .non => true
  | _ => false
def cIs : D → D → S → Res
  | x, .non, s => match x with | .und => .fail | _ => .ok (.bl x.isNon) s
  | .bl a, .bl b, s => .ok (.bl (decide (a = b))) s
  | _, _, _ => .fail
def cIsNot : D → D → S → Res
  | x, .non, s => match x with | .und => .fail | _ => .ok (.bl (!x.isNon)) s
  | .bl a, .bl b, s => .ok (.bl (!decide (a = b))) s
  | _, _, _ => .fail
/-- x in a tuple or a list -/
def inD (x y : D) (s : S) : Option Bool :=
  match y with
  | .tup ds => if x.shp 40 && ds.all (D.shp 39) then some (ds.any fun z => z.eqv x) else none
  | .frl ds => if x.shp 40 && ds.all (D.shp 39) then some (ds.any fun z => z.eqv x) else none
  | .ref n => match lstOf s n with
    | some ds => if x.shp 40 && ds.all (D.shp 39) then some (ds.any fun z => z.eqv x) else none
    | none => none
  | _ => none
def cIn (x y : D) (s : S) : Res := ofB (inD x y s) s
def cNotIn (x y : D) (s : S) : Res := ofB ((inD x y s).map (!·)) s

/-! ### subscripts -/
def ixL (ds : List D) (i : Int) (s : S) : Res := match L2.atI ds i with | some .und => .fail | some d => .ok d s | none => .fail
/-! dicts by keys that are ints or texts -/
def keq : D → D → Bool
  | .int i, .int j => decide (i = j)
  | .str x, .str y => decide (x = y)
  | _, _ => false
def dget (kvs : List (D × D)) (k : D) : Option D := (kvs.find? fun kv => keq kv.1 k).map (·.2)
def dput (kvs : List (D × D)) (k v : D) : List (D × D) := if (kvs.any fun kv => keq kv.1 k) = true then kvs.map (fun kv => if keq kv.1 k = true then (kv.1, v) else kv) else kvs ++ [(k, v)]
def dixK (s : S) (n : Nat) (k : D) : Res := match dctOf s n with
  | some kvs => (match dget kvs k with | some .und => .fail | some d => .ok d s | none => .fail)
  | none => .fail
def bIxD : D → D → S → Res
  | .ref n, .int i, s => dixK s n (.int i)
  | .ref n, .str z, s => dixK s n (.str z)
  | _, _, _ => .fail
/-- .. of what is no dict -/
def bIxL : D → D → S → Res
  | .tup ds, .int i, s => ixL ds i s
  | .frl ds, .int i, s => ixL ds i s
  | .ref n, .int i, s => match lstOf s n with | some ds => ixL ds i s | none => .fail
  | .str z, .int i, s => if z.length ≤ lim then (match L2.atI z.cps.toList i with | some c => .ok (.str ⟨#[c]⟩) s | none => .fail) else .fail
  | _, _, _ => .fail
def bIx : D → D → S → Res
  | .tup ds, .int i, s => ixL ds i s
  | .frl ds, .int i, s => ixL ds i s
  | .ref n, .int i, s => match lstOf s n with | some ds => ixL ds i s | none => dixK s n (.int i)
  | .ref n, .str z, s => dixK s n (.str z)
  | .str z, .int i, s => if z.length ≤ lim then (match L2.atI z.cps.toList i with | some c => .ok (.str ⟨#[c]⟩) s | none => .fail) else .fail
  | _, _, _ => .fail
theorem bIx_or (x y : D) (s : S) : bIx x y s = bIxL x y s ∨ bIx x y s = bIxD x y s := by
  cases x <;> cases y <;> try exact .inl rfl
  case ref.str n z => exact .inr rfl
  case ref.int n i =>
    show (match lstOf s n with | some ds => ixL ds i s | none => dixK s n (.int i)) = (match lstOf s n with | some ds => ixL ds i s | none => .fail) ∨ (match lstOf s n with | some ds => ixL ds i s | none => dixK s n (.int i)) = dixK s n (.int i)
    cases lstOf s n with
    | some ds => exact .inl rfl
    | none => exact .inr rfl
def cutD (ds : List D) (lo hi : Option Int) : List D := (ds.drop (HT.sIx ds.length 0 lo)).take (HT.sIx ds.length ds.length hi - HT.sIx ds.length 0 lo)
def slD (x : D) (lo hi : Option Int) (s : S) : Res := match x with
  | .tup ds => .ok (.tup (cutD ds lo hi)) s
  | .ref n => match lstOf s n with | some ds => al (.lst (cutD ds lo hi)) s | none => .fail
  | _ => .fail
/-- a part of a slice, left out or written -/
def withPart (o : Option ES) (c : C) (ρ : Env) (s : S) (f : Option Int → S → Res) : Res := match o with
  | none => f none s
  | some e => (e c ρ s).bnd fun d s => match d with | .int i => f (some i) s | _ => .fail
/-- x[lo:hi] -/
def eSl (x : ES) (lo hi : Option ES) : ES := fun c ρ s => (x c ρ s).bnd fun a s => withPart lo c ρ s fun l s => withPart hi c ρ s fun h s => slD a l h s
/-- x[::-1] -/
def rvD : D → S → Res
  | .tup ds, s => .ok (.tup ds.reverse) s
  | .ref n, s => match lstOf s n with | some ds => al (.lst ds.reverse) s | none => .fail
  | _, _ => .fail
/-- o[i] = v -/
def setK (B : List Nat) (n : Nat) (k v : D) (kvs : List (D × D)) (s : S) : Option S := if wok B n v = true ∧ kvs.length < lim then some (s.set n (.dct (dput kvs k v))) else none
def setIx (B : List Nat) : D → D → D → S → Option S
  | .ref n, .int i, v, s => match s[n]? with
    | some (.lst ds) => match L2.ixN ds.length i with
      | some j => if wok B n v then some (s.set n (.lst (ds.set j v))) else none
      | none => none
    | some (.dct kvs) => setK B n (.int i) v kvs s
    | _ => none
  | .ref n, .str z, v, s => match s[n]? with
    | some (.dct kvs) => setK B n (.str z) v kvs s
    | _ => none
  | _, _, _, _ => none
def tSub (o i : ES) : TS := fun c v ρ s => (o c ρ s).bndS fun a s => (i c ρ s).bndS fun k s => match setIx c.B a k v s with | some s => .nx ρ s | none => .fail

/-! ### built-ins by values -/
def lenD : List D → S → Res
  | [.tup ds], s => .ok (.int ds.length) s
  | [.frl ds], s => .ok (.int ds.length) s
  | [.str z], s => if z.length ≤ lim then .ok (.int z.length) s else .fail
  | [.ref n], s => match lstOf s n with
    | some ds => .ok (.int ds.length) s
    | none => match s[n]? with
      | some (.dct kvs) => .ok (.int kvs.length) s
      | _ => .fail
  | _, _ => .fail
def absD : List D → S → Res
  | [.int i], s => .ok (.int (if i < 0 then -i else i)) s
  | _, _ => .fail
def intD : List D → S → Res
  | [.int i], s => .ok (.int i) s
  | [.bl b], s => .ok (.int (if b then 1 else 0)) s
  | _, _ => .fail
def listD : List D → S → Res
  | [x], s => match seqOf s x with | some ds => al (.lst ds) s | none => .fail
  | _, _ => .fail
def tupD : List D → S → Res
  | [.tup ds], s => .ok (.tup ds) s
  | [.ref n], s => match lstOf s n with | some ds => .ok (.tup ds) s | none => .fail
  | _, _ => .fail
def D.toI : D → Option Int
  | .int i => some i
  | _ => none
def D.toB : D → Option Bool
  | .bl b => some b
  | _ => none
def sumD : List D → S → Res
  | [x], s => match seqOf s x with | some ds => (match ds.mapM D.toI with | some ns => .ok (.int ns.sum) s | none => .fail) | none => .fail
  | _, _ => .fail
def allD : List D → S → Res
  | [x], s => match seqOf s x with | some ds => (match ds.mapM D.toB with | some bs => .ok (.bl (bs.all id)) s | none => .fail) | none => .fail
  | _, _ => .fail
def anyD : List D → S → Res
  | [x], s => match seqOf s x with | some ds => (match ds.mapM D.toB with | some bs => .ok (.bl (bs.any id)) s | none => .fail) | none => .fail
  | _, _ => .fail
def lmax : List Int → Option Int
  | [] => none
  | x :: r => some (r.foldl max x)
def lmin : List Int → Option Int
  | [] => none
  | x :: r => some (r.foldl min x)
def maxD : List D → S → Res
  | [.int i, .int j], s => .ok (.int (if j > i then j else i)) s
  | [x], s => match seqOf s x with | some ds => (match (ds.mapM D.toI).bind lmax with | some m => .ok (.int m) s | none => .fail) | none => .fail
  | _, _ => .fail
def minD : List D → S → Res
  | [.int i, .int j], s => .ok (.int (if j < i then j else i)) s
  | [x], s => match seqOf s x with | some ds => (match (ds.mapM D.toI).bind lmin with | some m => .ok (.int m) s | none => .fail) | none => .fail
  | _, _ => .fail

/-! ### methods of lists -/
def mAppend (B : List Nat) : D → List D → S → Res
  | .ref n, [v], s => match s[n]? with
    | some (.lst ds) => if ds.length < lim ∧ wok B n v = true then .ok .non (s.set n (.lst (ds ++ [v]))) else .fail
    | _ => .fail
  | _, _, _ => .fail
def extL (B : List Nat) (n : Nat) (es : List D) (s : S) : Res := match s[n]? with
  | some (.lst ds) => if ds.length + es.length ≤ lim ∧ woks B n es = true then .ok .non (s.set n (.lst (ds ++ es))) else .fail
  | _ => .fail
def mExtend (B : List Nat) : D → List D → S → Res
  | .ref n, [.tup es], s => extL B n es s
  | .ref n, [.ref m], s => match lstOf s m with | some es => extL B n es s | none => .fail
  | _, _, _ => .fail
def mPop (B : List Nat) : D → List D → S → Res
  | .ref n, [], s => match s[n]? with
    | some (.lst ds) => (match ds[ds.length - 1]? with | some .und => .fail | some d => .ok d (s.set n (.lst ds.dropLast)) | none => .fail)
    | _ => .fail
  | _, _, _ => .fail
/-- a method of a built-in thing -/
def eMt (pre : D → S → Bool) (f : List Nat → D → List D → S → Res) (o : ES) (a : AS) : ES := fun c ρ s => (o c ρ s).bnd fun x s => if pre x s then (a c ρ s).bnd fun xs s => f c.B x xs s else .fail
def isL : D → S → Bool
  | .ref n, s => (lstOf s n).isSome
  | _, _ => false

/-! ### walks -/
def iSeq (e : ES) : IS := fun c ρ s => (e c ρ s).bndI fun x s => match x with
  | .tup ds => .ok ds none s
  | .frl ds => .ok ds none s
  | .ref n => match lstOf s n with | some ds => .ok ds (some (n, ds)) s | none => .fail
  | _ => .fail
def rngI (lo : Int) (n : Nat) : List D := (List.range n).map fun i => .int (lo + (i : Nat))
def rngC (lo c : Int) (n : Nat) : List D := (List.range n).map fun i => .int (lo + (i : Nat) * c)
def small62 (i : Int) : Bool := decide (-(2 ^ 62) ≤ i ∧ i < 2 ^ 62)
def iR1 : AS → IS := fun a c ρ s => (a c ρ s).bndI fun xs s => match xs with
  | [.int j] => if small62 j then .ok (rngI 0 j.toNat) none s else .fail
  | _ => .fail
def iR2 : AS → IS := fun a c ρ s => (a c ρ s).bndI fun xs s => match xs with
  | [.int i, .int j] => if small62 i && small62 j then .ok (rngI i (j - i).toNat) none s else .fail
  | _ => .fail
/-- downwards by ones -/
def iR3 : AS → IS := fun a c ρ s => (a c ρ s).bndI fun xs s => match xs with
  | [.int i, .int j, .int c] => if c = -1 ∧ small62 i = true ∧ small62 j = true then .ok (rngC i (-1) (i - j).toNat) none s else .fail
  | _ => .fail
def enumD (ds : List D) : List D := (List.range ds.length).zipWith (fun i d => .tup [.int (i : Nat), d]) ds
def iEnum (e : ES) : IS := fun c ρ s => (e c ρ s).bndI fun x s => match x with
  | .frl ds => .ok (enumD ds) none s
  | .tup ds => .ok (enumD ds) none s
  | .ref n => match lstOf s n with | some ds => .ok (enumD ds) (some (n, ds)) s | none => .fail
  | _ => .fail

/-! ### dicts -/
/-- what is written {k: v, ..} -/
def pairUp : List D → Option (List (D × D))
  | [] => some []
  | k :: v :: r => (pairUp r).map ((k, v) :: ·)
  | _ => none
def isKey : D → Bool
  | .int _ => true
  | .str _ => true
  | _ => false
def mergeD (kvs more : List (D × D)) : List (D × D) := more.foldl (fun acc kv => dput acc kv.1 kv.2) kvs
def eDct (a : AS) : ES := fun c ρ s => (a c ρ s).bnd fun xs s => match pairUp xs with
  | some kvs => if kvs.length ≤ 15 ∧ kvs.all (fun kv => isKey kv.1) = true then al (.dct (mergeD [] kvs)) s else .fail
  | none => .fail
/-- dict(d) -/
def dictD : List D → S → Res
  | [.ref n], s => match dctOf s n with | some kvs => al (.dct kvs) s | none => .fail
  | _, _ => .fail
/-- d.get(k, x) -/
def eGet2 (o i x : ES) : ES := fun c ρ s => (o c ρ s).bnd fun d s => (match d with
  | .ref n => (match dctOf s n with | some _ => (i c ρ s).bnd fun k s => (x c ρ s).bnd fun z s => (match dctOf s n with | some kvs => (match isKey k, dget kvs k with | true, some .und => .fail | true, some v => .ok v s | true, none => .ok z s | false, _ => .fail) | none => .fail) | none => .fail)
  | _ => .fail)
/-- a dict stands locked while it is walked -/
def unlk (n : Nat) : Out → Out
  | .nx ρ s => (match s[n]? with | some (.dfz kvs) => .nx ρ (s.set n (.dct kvs)) | _ => .fail)
  | .rt d s => (match s[n]? with | some (.dfz kvs) => .rt d (s.set n (.dct kvs)) | _ => .fail)
  | .exc k s => .exc k s
  | _ => .fail
def iKeyD (i : Nat) : IS := fun _ ρ s => match gv ρ i with
  | .ref n => (match s[n]? with | some (.dfz kvs) => .ok (kvs.map (·.1)) none s | _ => .fail)
  | _ => .fail
def sForD (gc : Bool) (i : Nat) (t : TS) (body : SS) : SS := fun c ρ s => match gv ρ i with
  | .ref n => (match s[n]? with | some (.dct kvs) => unlk n (sFor gc (iKeyD i) t body c ρ (s.set n (.dfz kvs))) | _ => .fail)
  | _ => .fail
end Ev

namespace Ev
open PySem L2

/-- what stays the same through the whole law: the written part, the tables of code objects, the classes by number -/
structure G where
  ex : Addr
  K : PySem.W.Frag
  T : List (Addr × Str)
  cl : List Addr

/-- a list that is known and never written -/
def FzL (K : PySem.W.Frag) (H : Hp) (a : Addr) (xs : List V) : Prop :=
  (∃ o, H a = some (.frz o (.lst xs))) ∨
    ∃ (o : Obj) (its : Array Value) (n : Nat), K.lookup a = some o ∧ o.cls = .type "list" ∧ o.dict = none ∧ o.data = .seq its n ∧ its.size ≤ sizeLine ∧ Vals xs its.toList
theorem FzL.sq {K : PySem.W.Frag} {H : Hp} {a : Addr} {xs : List V} (h : FzL K H a xs) : SqL K H a xs := h.elim (fun z => .inl (.inr z)) .inr

mutual
inductive RV (K : PySem.W.Frag) (α : List Addr) (H : Hp) : V → D → Prop where
  | non : RV K α H .non .non
  | bl (b : Bool) : RV K α H (.bl b) (.bl b)
  | int (i : Int) : RV K α H (.int i) (.int i)
  | str (x : Str) : RV K α H (.str x) (.str x)
  | tup {a : Addr} {xs : List V} {ds : List D} : SqT K H a xs → RVs K α H xs ds → RV K α H (.ref a) (.tup ds)
  | frl {a : Addr} {xs : List V} {ds : List D} : FzL K H a xs → RVs K α H xs ds → RV K α H (.ref a) (.frl ds)
  | ref {a : Addr} {n : Nat} : α[n]? = some a → RV K α H (.ref a) (.ref n)
inductive RVs (K : PySem.W.Frag) (α : List Addr) (H : Hp) : List V → List D → Prop where
  | nil : RVs K α H [] []
  | cons {v : V} {d : D} {vs : List V} {ds : List D} : RV K α H v d → RVs K α H vs ds → RVs K α H (v :: vs) (d :: ds)
end

/-- more may be known -/
structure Ext0 (K : PySem.W.Frag) (α α' : List Addr) (H H' : Hp) : Prop where
  pre : ∀ (n : Nat) (a : Addr), α[n]? = some a → α'[n]? = some a
  tup : ∀ (a : Addr) (xs : List V), SqT K H a xs → SqT K H' a xs
  frl : ∀ (a : Addr) (xs : List V), FzL K H a xs → FzL K H' a xs
/-- .. and what is not spoken of stays as it is -/
structure Ext (K : PySem.W.Frag) (α α' : List Addr) (H H' : Hp) : Prop where
  e0 : Ext0 K α α' H H'
  off : ∀ (a : Addr) (o : HO), H a = some o → (∀ ps, o ≠ .tbl ps) → a ∉ α → H' a = some o ∧ a ∉ α'
  frz : ∀ (a : Addr) (o : Obj) (kvs : List (Key × V)), H a = some (.frz o (.dK kvs)) → H' a = some (.frz o (.dK kvs))
theorem Ext.pre {K : PySem.W.Frag} {α α' : List Addr} {H H' : Hp} (e : Ext K α α' H H') : ∀ (n : Nat) (a : Addr), α[n]? = some a → α'[n]? = some a := e.e0.pre
theorem Ext.tup {K : PySem.W.Frag} {α α' : List Addr} {H H' : Hp} (e : Ext K α α' H H') : ∀ (a : Addr) (xs : List V), SqT K H a xs → SqT K H' a xs := e.e0.tup
theorem Ext.frl {K : PySem.W.Frag} {α α' : List Addr} {H H' : Hp} (e : Ext K α α' H H') : ∀ (a : Addr) (xs : List V), FzL K H a xs → FzL K H' a xs := e.e0.frl
theorem Ext.refl {K : PySem.W.Frag} {α : List Addr} {H : Hp} : Ext K α α H H := ⟨⟨fun _ _ h => h, fun _ _ h => h, fun _ _ h => h⟩, fun _ _ h _ n => ⟨h, n⟩, fun _ _ _ h => h⟩
theorem Ext.trans {K : PySem.W.Frag} {α α1 α2 : List Addr} {H H1 H2 : Hp} (a : Ext K α α1 H H1) (b : Ext K α1 α2 H1 H2) : Ext K α α2 H H2 :=
  ⟨⟨fun n x h => b.pre n x (a.pre n x h), fun x xs h => b.tup x xs (a.tup x xs h), fun x xs h => b.frl x xs (a.frl x xs h)⟩, fun x o h t n => let q := a.off x o h t n; b.off x o q.1 t q.2, fun x o k h => b.frz x o k (a.frz x o k h)⟩

theorem ygs_cons {b : Nat} {d : D} {r : List D} : D.ygs b (d :: r) = false ↔ d.yg b = false ∧ D.ygs b r = false := by
  rw [D.ygs, Bool.or_eq_false_iff]
section
variable {K : PySem.W.Frag} {α α' : List Addr} {H H' : Hp}
mutual
theorem RV.ext0 (e : Ext0 K α α' H H') : ∀ {v : V} {d : D}, RV K α H v d → RV K α' H' v d
  | _, _, .non => .non
  | _, _, .bl b => .bl b
  | _, _, .int i => .int i
  | _, _, .str x => .str x
  | _, _, .tup h r => .tup (e.tup _ _ h) (RVs.ext0 e r)
  | _, _, .frl h r => .frl (e.frl _ _ h) (RVs.ext0 e r)
  | _, _, .ref h => .ref (e.pre _ _ h)
theorem RVs.ext0 (e : Ext0 K α α' H H') : ∀ {vs : List V} {ds : List D}, RVs K α H vs ds → RVs K α' H' vs ds
  | _, _, .nil => .nil
  | _, _, .cons r t => .cons (RV.ext0 e r) (RVs.ext0 e t)
end
mutual
/-- a value that speaks of no place from b on -/
theorem RV.cut {b : Nat} : ∀ {v : V} {d : D}, RV K α H v d → d.yg b = false → RV K (α.take b) H v d
  | _, _, .non, _ => .non
  | _, _, .bl b, _ => .bl b
  | _, _, .int i, _ => .int i
  | _, _, .str x, _ => .str x
  | _, _, .tup h r, y => .tup h (RVs.cut r (by simpa [D.yg] using y))
  | _, _, .frl h r, y => .frl h (RVs.cut r (by simpa [D.yg] using y))
  | _, _, @RV.ref _ _ _ _ n h, y => .ref (by
      have y' : n < b := by simpa [D.yg] using y
      rw [List.getElem?_take_of_lt y']; exact h)
theorem RVs.cut {b : Nat} : ∀ {vs : List V} {ds : List D}, RVs K α H vs ds → D.ygs b ds = false → RVs K (α.take b) H vs ds
  | _, _, .nil, _ => .nil
  | _, _, .cons r t, y => by
      have y' := ygs_cons.mp y
      exact .cons (RV.cut r y'.1) (RVs.cut t y'.2)
end
theorem RVs.length : ∀ {vs : List V} {ds : List D}, RVs K α H vs ds → vs.length = ds.length
  | _, _, .nil => rfl
  | _, _, .cons _ t => by rw [List.length_cons, List.length_cons, RVs.length t]
theorem RVs.get : ∀ {vs : List V} {ds : List D} {i : Nat} {d : D}, RVs K α H vs ds → ds[i]? = some d → ∃ v, vs[i]? = some v ∧ RV K α H v d
  | _, _, _, _, .nil, e => by simp at e
  | _, _, 0, _, .cons r _, e => by simp at e; subst e; exact ⟨_, rfl, r⟩
  | _, _, i + 1, d, .cons _ t, e => by
    obtain ⟨v, h1, h2⟩ := RVs.get (i := i) (d := d) t (by simpa using e)
    exact ⟨v, by simpa using h1, h2⟩
theorem RVs.getV : ∀ {vs : List V} {ds : List D} {i : Nat} {v : V}, RVs K α H vs ds → vs[i]? = some v → ∃ d, ds[i]? = some d ∧ RV K α H v d
  | _, _, _, _, .nil, e => by simp at e
  | _, _, 0, _, .cons r _, e => by simp at e; subst e; exact ⟨_, rfl, r⟩
  | _, _, i + 1, d, .cons _ t, e => by
    obtain ⟨v, h1, h2⟩ := RVs.getV (i := i) (v := d) t (by simpa using e)
    exact ⟨v, by simpa using h1, h2⟩
theorem RVs.set {v : V} {d : D} (r : RV K α H v d) : ∀ {vs : List V} {ds : List D} (i : Nat), RVs K α H vs ds → RVs K α H (vs.set i v) (ds.set i d)
  | _, _, _, .nil => .nil
  | _, _, 0, .cons _ t => .cons r t
  | _, _, i + 1, .cons q t => .cons q (RVs.set r i t)
theorem RVs.append : ∀ {vs ws : List V} {ds es : List D}, RVs K α H vs ds → RVs K α H ws es → RVs K α H (vs ++ ws) (ds ++ es)
  | _, _, _, _, .nil, s => s
  | _, _, _, _, .cons r t, s => .cons r (RVs.append t s)
theorem RVs.take : ∀ {vs : List V} {ds : List D} (n : Nat), RVs K α H vs ds → RVs K α H (vs.take n) (ds.take n)
  | _, _, 0, _ => .nil
  | _, _, _ + 1, .nil => .nil
  | _, _, n + 1, .cons r t => .cons r (RVs.take n t)
theorem RVs.drop : ∀ {vs : List V} {ds : List D} (n : Nat), RVs K α H vs ds → RVs K α H (vs.drop n) (ds.drop n)
  | _, _, 0, r => r
  | _, _, _ + 1, .nil => .nil
  | _, _, n + 1, .cons _ t => RVs.drop n t
theorem RVs.reverse : ∀ {vs : List V} {ds : List D}, RVs K α H vs ds → RVs K α H vs.reverse ds.reverse
  | _, _, .nil => .nil
  | _, _, .cons r t => by rw [List.reverse_cons, List.reverse_cons]; exact RVs.append (RVs.reverse t) (.cons r .nil)
end

/-- keys of dicts (ints, texts) -/
def kD : Key → D
  | .inl i => .int i
  | .inr x => .str x
inductive RKs (K : PySem.W.Frag) (α : List Addr) (H : Hp) : List (Key × V) → List (D × D) → Prop where
  | nil : RKs K α H [] []
  | cons {k : Key} {v : V} {d : D} {vs : List (Key × V)} {ds : List (D × D)} : RV K α H v d → RKs K α H vs ds → RKs K α H ((k, v) :: vs) ((kD k, d) :: ds)

def O.yg (b : Nat) : O → Bool
  | .lst ds => D.ygs b ds
  | .dct kvs => D.ygs b (kvs.map (·.2))
  | .dfz kvs => D.ygs b (kvs.map (·.2))
  | .ins _ fs => D.ygs b (fs.map (·.2))

/-- an instance's attributes -/
inductive RFs (K : PySem.W.Frag) (α : List Addr) (H : Hp) : List (Str × V) → List (Str × D) → Prop where
  | nil : RFs K α H [] []
  | cons {n : Str} {v : V} {d : D} {vs : List (Str × V)} {ds : List (Str × D)} : RV K α H v d → RFs K α H vs ds → RFs K α H ((n, v) :: vs) ((n, d) :: ds)

/-- the object at a -/
inductive RO (g : G) (α : List Addr) (H : Hp) (a : Addr) : O → Prop where
  | lst {xs : List V} {ds : List D} : H a = some (.lst xs) → RVs g.K α H xs ds → RO g α H a (.lst ds)
  | dct {xs : List (Key × V)} {ds : List (D × D)} : H a = some (.dK xs) → RKs g.K α H xs ds → RO g α H a (.dct ds)
  | dfz {o : Obj} {xs : List (Key × V)} {ds : List (D × D)} : H a = some (.frz o (.dK xs)) → RKs g.K α H xs ds → RO g α H a (.dfz ds)
  | ins {c : Nat} {C' dx : Addr} {xs : List (Str × V)} {fs : List (Str × D)} : g.cl[c]? = some C' → H a = some (.ins C' dx xs) → RFs g.K α H xs fs → RO g α H a (.ins c fs)

/-- the store s stands in the heap H, its places at α -/
structure R (g : G) (B : List Nat) (α : List Addr) (H : Hp) (s : S) : Prop where
  len : α.length = s.length
  nd : α.Nodup
  obj : ∀ (n : Nat) (a : Addr) (o : O), α[n]? = some a → s[n]? = some o → RO g α H a o
  blk : ∀ b ∈ B, b ≤ s.length ∧ ∀ (n : Nat) (o : O), n < b → s[n]? = some o → o.yg b = false
  tabs : LamX.Tabs g.T H
  ord : B.Pairwise (fun b c => c ≤ b)

section
variable {g : G} {B : List Nat} {α α' : List Addr} {H H' : Hp} {s : S}
theorem RKs.ext0 {K : PySem.W.Frag} (e : Ext0 K α α' H H') : ∀ {vs : List (Key × V)} {ds : List (D × D)}, RKs K α H vs ds → RKs K α' H' vs ds
  | _, _, .nil => .nil
  | _, _, .cons r t => .cons (r.ext0 e) (RKs.ext0 e t)
theorem RKs.cut {K : PySem.W.Frag} {b : Nat} : ∀ {vs : List (Key × V)} {ds : List (D × D)}, RKs K α H vs ds → D.ygs b (ds.map (·.2)) = false → RKs K (α.take b) H vs ds
  | _, _, .nil, _ => .nil
  | _, _, .cons r t, y => by
      have y' := ygs_cons.mp y
      exact .cons (r.cut y'.1) (RKs.cut t y'.2)
theorem RFs.ext0 {K : PySem.W.Frag} (e : Ext0 K α α' H H') : ∀ {vs : List (Str × V)} {ds : List (Str × D)}, RFs K α H vs ds → RFs K α' H' vs ds
  | _, _, .nil => .nil
  | _, _, .cons r t => .cons (r.ext0 e) (RFs.ext0 e t)
theorem RFs.cut {K : PySem.W.Frag} {b : Nat} : ∀ {vs : List (Str × V)} {ds : List (Str × D)}, RFs K α H vs ds → D.ygs b (ds.map (·.2)) = false → RFs K (α.take b) H vs ds
  | _, _, .nil, _ => .nil
  | _, _, .cons r t, y => by
      have y' := ygs_cons.mp y
      exact .cons (r.cut y'.1) (RFs.cut t y'.2)
theorem RO.cut {b : Nat} {a : Addr} : ∀ {o : O}, RO g α H a o → o.yg b = false → RO g (α.take b) H a o
  | _, .lst h r, y => .lst h (r.cut y)
  | _, .dct h r, y => .dct h (r.cut y)
  | _, .dfz h r, y => .dfz h (r.cut y)
  | _, .ins c h r, y => .ins c h (r.cut y)
/-- an object stays where its own address is as it was -/
theorem RO.ext0 {a : Addr} (e : Ext0 g.K α α' H H') (ha : H' a = H a) : ∀ {o : O}, RO g α H a o → RO g α' H' a o
  | _, .lst h r => .lst (ha.trans h) (r.ext0 e)
  | _, .dct h r => .dct (ha.trans h) (r.ext0 e)
  | _, .dfz h r => .dfz (ha.trans h) (r.ext0 e)
  | _, .ins c h r => .ins c (ha.trans h) (r.ext0 e)
theorem RO.ext {a : Addr} (e : Ext g.K α α' H H') (ha : H' a = H a) {o : O} (r : RO g α H a o) : RO g α' H' a o := r.ext0 e.e0 ha
theorem RKs.ext {K : PySem.W.Frag} (e : Ext K α α' H H') {vs : List (Key × V)} {ds : List (D × D)} (r : RKs K α H vs ds) : RKs K α' H' vs ds := r.ext0 e.e0
theorem RFs.ext {K : PySem.W.Frag} (e : Ext K α α' H H') {vs : List (Str × V)} {ds : List (Str × D)} (r : RFs K α H vs ds) : RFs K α' H' vs ds := r.ext0 e.e0
theorem RV.ext {K : PySem.W.Frag} (e : Ext K α α' H H') {v : V} {d : D} (r : RV K α H v d) : RV K α' H' v d := r.ext0 e.e0
theorem RVs.ext {K : PySem.W.Frag} (e : Ext K α α' H H') {v : List V} {d : List D} (r : RVs K α H v d) : RVs K α' H' v d := r.ext0 e.e0
theorem RO.some {a : Addr} {o : O} (r : RO g α H a o) : ∃ u, H a = some u := by
  cases r <;> exact ⟨_, by assumption⟩
/-- an inner block begins -/
theorem R.push (r : R g B α H s) : R g (s.length :: B) α H s := by
  refine ⟨r.len, r.nd, r.obj, fun b hb => ?_, r.tabs, List.pairwise_cons.mpr ⟨fun c hc => (r.blk c hc).1, r.ord⟩⟩
  rcases List.mem_cons.mp hb with rfl | hb
  · refine ⟨Nat.le_refl _, fun n o hn ho => ?_⟩
    have hn' : n < α.length := by rw [r.len]; exact hn
    have q := r.obj n α[n] o (by simp [hn']) ho
    have lt : ∀ {m : Nat} {a : Addr}, α[m]? = some a → m < s.length := fun {m a} h => by
      rw [← r.len]
      exact (List.getElem?_eq_some_iff.mp h).1
    have yv : ∀ {v : V} {d : D}, RV g.K α H v d → d.yg s.length = false := by
      intro v d h
      exact yv1 lt h
    cases q with
    | lst _ h => exact yvs1 lt h
    | dct _ h => exact yks1 lt h
    | dfz _ h => exact yks1 lt h
    | ins _ _ h => exact yfs1 lt h
  · exact r.blk b hb
where
  yv1 {K : PySem.W.Frag} {α : List Addr} {H : Hp} {N : Nat} (lt : ∀ {m : Nat} {a : Addr}, α[m]? = some a → m < N) : ∀ {v : V} {d : D}, RV K α H v d → d.yg N = false
    | _, _, .non => rfl
    | _, _, .bl b => rfl
    | _, _, .int i => rfl
    | _, _, .str x => rfl
    | _, _, .tup h r => yvs1 lt r
    | _, _, .frl h r => yvs1 lt r
    | _, _, .ref h => by have := lt h; simp [D.yg]; omega
  yvs1 {K : PySem.W.Frag} {α : List Addr} {H : Hp} {N : Nat} (lt : ∀ {m : Nat} {a : Addr}, α[m]? = some a → m < N) : ∀ {v : List V} {d : List D}, RVs K α H v d → D.ygs N d = false
    | _, _, .nil => rfl
    | _, _, .cons r t => by rw [D.ygs, yv1 lt r, yvs1 lt t]; rfl
  yks1 {K : PySem.W.Frag} {α : List Addr} {H : Hp} {N : Nat} (lt : ∀ {m : Nat} {a : Addr}, α[m]? = some a → m < N) : ∀ {v : List (Key × V)} {d : List (D × D)}, RKs K α H v d → D.ygs N (d.map (·.2)) = false
    | _, _, .nil => rfl
    | _, _, .cons r t => by rw [List.map_cons, D.ygs, yv1 lt r, yks1 lt t]; rfl
  yfs1 {K : PySem.W.Frag} {α : List Addr} {H : Hp} {N : Nat} (lt : ∀ {m : Nat} {a : Addr}, α[m]? = some a → m < N) : ∀ {v : List (Str × V)} {d : List (Str × D)}, RFs K α H v d → D.ygs N (d.map (·.2)) = false
    | _, _, .nil => rfl
    | _, _, .cons r t => by rw [List.map_cons, D.ygs, yv1 lt r, yfs1 lt t]; rfl
end
end Ev

namespace Ev
open PySem L2

section
variable {g : G} {B : List Nat} {α α' : List Addr} {H H' : Hp} {s s' : S} {b : Nat}

theorem R.drop (r : R g (b :: B) α H s) : R g B α H s := ⟨r.len, r.nd, r.obj, fun c hc => r.blk c (List.mem_cons_of_mem _ hc), r.tabs, (List.pairwise_cons.mp r.ord).2⟩
/-- what is new is let go -/
theorem R.fin (r : R g (b :: B) α H s) : R g B (α.take b) H (s.take b) := by
  obtain ⟨hb, hy⟩ := r.blk b List.mem_cons_self
  refine ⟨by rw [List.length_take, List.length_take, r.len], r.nd.sublist (List.take_sublist _ _), fun n a o ha ho => ?_, fun c hc => ?_, r.tabs, (List.pairwise_cons.mp r.ord).2⟩
  · have hn : n < b := by
      have q := (List.getElem?_eq_some_iff.mp ho).1
      rw [List.length_take] at q
      omega
    rw [List.getElem?_take_of_lt hn] at ha ho
    exact (r.obj n a o ha ho).cut (hy n o hn ho)
  · obtain ⟨h1, h2⟩ := r.blk c (List.mem_cons_of_mem _ hc)
    have hcb := (List.pairwise_cons.mp r.ord).1 c hc
    refine ⟨by rw [List.length_take]; omega, fun n o hn ho => ?_⟩
    rw [List.getElem?_take_of_lt (by omega)] at ho
    exact h2 n o hn ho
/-- the places that stood before -/
theorem Ext.cut {K : PySem.W.Frag} (e : Ext K α α' H H') (hb : α.length = b) : Ext K α (α'.take b) H H' := by
  refine ⟨⟨fun n a h => ?_, e.tup, e.frl⟩, fun a o h t n => ⟨(e.off a o h t n).1, fun q => (e.off a o h t n).2 (List.mem_of_mem_take q)⟩, e.frz⟩
  have hn : n < b := by rw [← hb]; exact (List.getElem?_eq_some_iff.mp h).1
  rw [List.getElem?_take_of_lt hn]
  exact e.pre n a h
/-- a new thing is laid at p -/
theorem Ext.new {K : PySem.W.Frag} {p : Addr} {u : HO} (hp : H p = none) : Ext K α (α ++ [p]) H (upd H p u) := by
  refine ⟨⟨fun n a h => ?_, fun a xs h => ?_, fun a xs h => ?_⟩, fun a o h _ n => ⟨by rw [upd_ne (ne_of_none h hp)]; exact h, fun q => ?_⟩, fun a o k h => by rw [upd_ne (ne_of_none h hp)]; exact h⟩
  · rw [List.getElem?_append_left (List.getElem?_eq_some_iff.mp h).1]; exact h
  · rcases h with (h | ⟨o, h⟩) | h
    · exact .inl (.inl (by rw [upd_ne (ne_of_none h hp)]; exact h))
    · exact .inl (.inr ⟨o, by rw [upd_ne (ne_of_none h hp)]; exact h⟩)
    · exact .inr h
  · rcases h with ⟨o, h⟩ | h
    · exact .inl ⟨o, by rw [upd_ne (ne_of_none h hp)]; exact h⟩
    · exact .inr h
  · rcases List.mem_append.mp q with q | q
    · exact n q
    · exact ne_of_none h hp (List.mem_singleton.mp q)
/-- .. and not spoken of (a tuple) -/
theorem Ext.newT {K : PySem.W.Frag} {p : Addr} {u : HO} (hp : H p = none) : Ext K α α H (upd H p u) := by
  have e := Ext.new (K := K) (α := α) (u := u) hp
  exact ⟨⟨fun n a h => h, e.tup, e.frl⟩, fun a o h _ n => ⟨by rw [upd_ne (ne_of_none h hp)]; exact h, n⟩, e.frz⟩
/-- what may be changed -/
def Chg : HO → Prop
  | .lst _ => True
  | .dK _ => True
  | .ins _ _ _ => True
  | _ => False
/-- a changeable thing is changed -/
theorem Ext.chg {K : PySem.W.Frag} {p : Addr} {u o : HO} (hm : p ∈ α) (hp : H p = some o) (ho : Chg o) : Ext K α α H (upd H p u) := by
  have ne : ∀ {a : Addr} {v : HO}, H a = some v → ¬ Chg v → a ≠ p := fun {a v} h c z => by
    rw [z, hp] at h
    cases h
    exact c ho
  refine ⟨⟨fun n a h => h, fun a xs h => ?_, fun a xs h => ?_⟩, fun a o h _ n => ⟨by rw [upd_ne fun (z : a = p) => n (z ▸ hm)]; exact h, n⟩, fun a o k h => by rw [upd_ne (ne h id)]; exact h⟩
  · rcases h with (h | ⟨o, h⟩) | h
    · exact .inl (.inl (by rw [upd_ne (ne h id)]; exact h))
    · exact .inl (.inr ⟨o, by rw [upd_ne (ne h id)]; exact h⟩)
    · exact .inr h
  · rcases h with ⟨o, h⟩ | h
    · exact .inl ⟨o, by rw [upd_ne (ne h id)]; exact h⟩
    · exact .inr h
theorem R.newT {p : Addr} {u : HO} (r : R g B α H s) (hp : H p = none) : R g B α (upd H p u) s := by
  refine ⟨r.len, r.nd, fun n a o ha ho => ?_, r.blk, r.tabs.ext fun b o h => by rw [upd_ne (ne_of_none h hp)]; exact h, r.ord⟩
  have q := r.obj n a o ha ho
  obtain ⟨v, hv⟩ := q.some
  exact q.ext (.newT hp) (upd_ne (ne_of_none hv hp))
theorem R.notin {p : Addr} (r : R g B α H s) (hp : H p = none) : p ∉ α := fun h => by
  obtain ⟨n, hn, e⟩ := List.mem_iff_getElem.mp h
  have hs : n < s.length := by rw [← r.len]; exact hn
  obtain ⟨v, hv⟩ := (r.obj n p s[n] (by rw [List.getElem?_eq_getElem hn, e]) (by simp [hs])).some
  rw [hp] at hv
  cases hv
/-- a new object -/
theorem R.new {p : Addr} {u : HO} {o : O} (r : R g B α H s) (hp : H p = none) (ro : RO g (α ++ [p]) (upd H p u) p o) : R g B (α ++ [p]) (upd H p u) (s ++ [o]) := by
  have r2 := r.newT (u := u) hp
  have l : α.length = s.length := r.len
  refine ⟨by simp [l], ?_, fun n a o' ha ho => ?_, fun c hc => ?_, r2.tabs, r.ord⟩
  · refine List.nodup_append.mpr ⟨r.nd, by simp, fun a ha b hb => ?_⟩
    have e : b = p := by simpa using hb
    subst e
    exact fun z => r.notin hp (z ▸ ha)
  · by_cases hn : n < s.length
    · rw [List.getElem?_append_left (by omega)] at ha ho
      have q := r.obj n a o' ha ho
      obtain ⟨v, hv⟩ := q.some
      exact q.ext (.new hp) (upd_ne (ne_of_none hv hp))
    · have hn' : n = s.length := by
        have := (List.getElem?_eq_some_iff.mp ho).1
        simp at this
        omega
      subst hn'
      rw [List.getElem?_append_right (by omega)] at ha ho
      simp [l] at ha ho
      subst ha ho
      exact ro
  · obtain ⟨h1, h2⟩ := r.blk c hc
    refine ⟨by simp; omega, fun n o' hn ho => ?_⟩
    rw [List.getElem?_append_left (by omega)] at ho
    exact h2 n o' hn ho
/-- an object is changed -/
theorem R.chg {p : Addr} {n : Nat} {u v : HO} {o : O} (r : R g B α H s) (hn : α[n]? = some p) (hp : H p = some v) (hv : Chg v) (ro : RO g α (upd H p u) p o) (hB : ∀ b ∈ B, n < b → o.yg b = false) : R g B α (upd H p u) (s.set n o) := by
  have l : α.length = s.length := r.len
  have hlt : n < α.length := (List.getElem?_eq_some_iff.mp hn).1
  refine ⟨by simp [l], r.nd, fun m a o' ha ho => ?_, fun c hc => ?_, fun q hq => ?_, r.ord⟩
  · by_cases hm : m = n
    · subst hm
      rw [hn] at ha
      cases ha
      rw [List.getElem?_set_self (by omega)] at ho
      cases ho
      exact ro
    · rw [List.getElem?_set_ne (Ne.symm hm)] at ho
      have q := r.obj m a o' ha ho
      refine q.ext (.chg (List.mem_of_getElem? hn) hp hv) (upd_ne fun z => hm ?_)
      subst z
      have ha' := List.getElem?_eq_some_iff.mp ha
      have hn' := List.getElem?_eq_some_iff.mp hn
      obtain ⟨i1, e1⟩ := ha'
      obtain ⟨i2, e2⟩ := hn'
      exact (List.getElem_inj r.nd).mp (e1.trans e2.symm)
  · obtain ⟨h1, h2⟩ := r.blk c hc
    refine ⟨by simpa using h1, fun m o' hm ho => ?_⟩
    by_cases hmn : m = n
    · subst hmn
      rw [List.getElem?_set_self (by omega)] at ho
      cases ho
      exact hB c hc hm
    · rw [List.getElem?_set_ne (Ne.symm hmn)] at ho
      exact h2 m o' hm ho
  · obtain ⟨ps, h1, h2, h3⟩ := r.tabs q hq
    have nt : ∀ {b : Addr} {w : HO}, H b = some w → ¬ Chg w → b ≠ p := fun {b w} h c z => by
      rw [z, hp] at h
      cases h
      exact c hv
    refine ⟨ps, by rw [upd_ne (nt h1 id)]; exact h1, h2, fun pos cv hcv => ?_⟩
    obtain ⟨c, e1, e2⟩ := h3 pos cv hcv
    exact ⟨c, e1, by rw [upd_ne (nt e2 id)]; exact e2⟩
theorem R.get (r : R g B α H s) {v : V} {n : Nat} {o : O} (h : RV g.K α H v (.ref n)) (ho : s[n]? = some o) : ∃ a, v = .ref a ∧ α[n]? = some a ∧ RO g α H a o := by
  cases h with
  | ref h => exact ⟨_, rfl, h, r.obj _ _ _ h ho⟩
end

/-! ### the slots -/
def RE (K : PySem.W.Frag) (α : List Addr) (H : Hp) (σ : L2.St) (ρ : Env) : Prop :=
  σ.length = ρ.length ∧ ∀ i, gv ρ i ≠ .und → ∃ v, σ[i]? = some (some v) ∧ RV K α H v (gv ρ i)
theorem gv_sv_same : ∀ {ρ : Env} {i : Nat} {d : D}, i < ρ.length → gv (sv ρ i d) i = d
  | [], _, _, h => absurd h (by simp)
  | _ :: _, 0, _, _ => rfl
  | _ :: r, i + 1, d, h => gv_sv_same (ρ := r) (by simpa using h)
theorem gv_sv_ne : ∀ {ρ : Env} {i j : Nat} {d : D}, i ≠ j → gv (sv ρ i d) j = gv ρ j
  | [], _, _, _, _ => rfl
  | _ :: _, 0, 0, _, h => absurd rfl h
  | _ :: _, 0, _ + 1, _, _ => rfl
  | _ :: _, _ + 1, 0, _, _ => rfl
  | _ :: r, i + 1, j + 1, d, h => gv_sv_ne (ρ := r) fun z => h (by rw [z])
theorem sv_length : ∀ {ρ : Env} {i : Nat} {d : D}, (sv ρ i d).length = ρ.length
  | [], _, _ => rfl
  | _ :: _, 0, _ => rfl
  | _ :: r, i + 1, d => by simp [sv, sv_length (ρ := r)]
theorem gv_lt : ∀ {ρ : Env} {i : Nat}, gv ρ i ≠ .und → i < ρ.length
  | [], _, h => absurd rfl h
  | _ :: _, 0, _ => by simp
  | _ :: r, i + 1, h => by
    have := gv_lt (ρ := r) (i := i) h
    simpa using this
section
variable {K : PySem.W.Frag} {α α' : List Addr} {H H' : Hp} {σ : L2.St} {ρ : Env} {b : Nat}
theorem RE.ext (r : RE K α H σ ρ) (e : Ext K α α' H H') : RE K α' H' σ ρ := ⟨r.1, fun i h => let ⟨v, h1, h2⟩ := r.2 i h; ⟨v, h1, h2.ext e⟩⟩
theorem RE.set {v : V} {d : D} {i : Nat} (r : RE K α H σ ρ) (rv : RV K α H v d) (hi : i < σ.length) : RE K α H (σ.set i (some v)) (sv ρ i d) := by
  refine ⟨by rw [List.length_set, sv_length, r.1], fun j h => ?_⟩
  by_cases e : i = j
  · subst e
    exact ⟨v, by rw [List.getElem?_set_self hi], by rw [gv_sv_same (by rw [← r.1]; exact hi)]; exact rv⟩
  · rw [gv_sv_ne e] at h ⊢
    obtain ⟨w, h1, h2⟩ := r.2 j h
    exact ⟨w, by rw [List.getElem?_set_ne e]; exact h1, h2⟩
theorem gv_erase : ∀ {ρ : Env} {i : Nat}, gv (erase b ρ) i = if (gv ρ i).yg b then .und else gv ρ i
  | [], _ => by simp [erase, gv, D.yg]
  | d :: _, 0 => rfl
  | _ :: r, i + 1 => gv_erase (ρ := r) (i := i)
theorem erase_length : ∀ {ρ : Env}, (erase b ρ).length = ρ.length
  | [] => rfl
  | _ :: r => by simp [erase, erase_length (ρ := r)]
theorem RE.cut (r : RE K α H σ ρ) : RE K (α.take b) H σ (erase b ρ) := by
  refine ⟨by rw [erase_length, r.1], fun i h => ?_⟩
  rw [gv_erase] at h ⊢
  split at h
  · exact absurd rfl h
  · rename_i hy
    rw [if_neg hy]
    obtain ⟨v, h1, h2⟩ := r.2 i h
    exact ⟨v, h1, h2.cut (by simpa using hy)⟩
end

/-! ### what is wanted behind a piece -/
section
variable (g : G) (E : XK) (B : List Nat) (α : List Addr) (H : Hp)
/-- an own error lies at the class g.ex with the code c -/
def PExc (c : D) (s : S) : Prop := ∀ (α' : List Addr) (H' : Hp) (v : V) (dx : Addr), Ext g.K α α' H H' → R g B α' H' s → RV g.K α' H' v c → H' dx = some (.xd [("code", v)]) → E (.ref g.ex) (some dx) H'
def PRes (r : Res) (Q : VK) : Prop := match r with
  | .ok d s => ∀ (α' : List Addr) (H' : Hp) (v : V), Ext g.K α α' H H' → R g B α' H' s → RV g.K α' H' v d → Q v H'
  | .exc c s => PExc g E B α H c s
  | .fail => False
def PRss (r : Rss) (Q : List V → Hp → Prop) : Prop := match r with
  | .ok d s => ∀ (α' : List Addr) (H' : Hp) (v : List V), Ext g.K α α' H H' → R g B α' H' s → RVs g.K α' H' v d → Q v H'
  | .exc c s => PExc g E B α H c s
  | .fail => False
def POut (r : Out) (D : Ends) : Prop := match r with
  | .nx ρ s => ∀ (α' : List Addr) (H' : Hp) (σ : L2.St), Ext g.K α α' H H' → R g B α' H' s → RE g.K α' H' σ ρ → D.nx σ H'
  | .bk ρ s => ∀ (α' : List Addr) (H' : Hp) (σ : L2.St), Ext g.K α α' H H' → R g B α' H' s → RE g.K α' H' σ ρ → D.bk σ H'
  | .ct ρ s => ∀ (α' : List Addr) (H' : Hp) (σ : L2.St), Ext g.K α α' H H' → R g B α' H' s → RE g.K α' H' σ ρ → D.ct σ H'
  | .rt d s => ∀ (α' : List Addr) (H' : Hp) (v : V), Ext g.K α α' H H' → R g B α' H' s → RV g.K α' H' v d → D.rt v H'
  | .exc c s => PExc g E B α H c s
  | .fail => False
end
section
variable {g : G} {E : XK} {B : List Nat} {α α' : List Addr} {H H' : Hp}
theorem PExc.ext {c : D} {s : S} (h : PExc g E B α H c s) (e : Ext g.K α α' H H') : PExc g E B α' H' c s := fun a h' v dx e' r rv hd => h a h' v dx (e.trans e') r rv hd
theorem PRes.ext : ∀ {r : Res} {Q : VK}, PRes g E B α H r Q → Ext g.K α α' H H' → PRes g E B α' H' r Q
  | .ok _ _, _, h, e => fun a h' v e' r rv => h a h' v (e.trans e') r rv
  | .exc _ _, _, h, e => PExc.ext h e
  | .fail, _, h, _ => h
theorem PRss.ext : ∀ {r : Rss} {Q : List V → Hp → Prop}, PRss g E B α H r Q → Ext g.K α α' H H' → PRss g E B α' H' r Q
  | .ok _ _, _, h, e => fun a h' v e' r rv => h a h' v (e.trans e') r rv
  | .exc _ _, _, h, e => PExc.ext h e
  | .fail, _, h, _ => h
theorem POut.ext : ∀ {r : Out} {D : Ends}, POut g E B α H r D → Ext g.K α α' H H' → POut g E B α' H' r D
  | .nx _ _, _, h, e => fun a h' v e' r rv => h a h' v (e.trans e') r rv
  | .bk _ _, _, h, e => fun a h' v e' r rv => h a h' v (e.trans e') r rv
  | .ct _ _, _, h, e => fun a h' v e' r rv => h a h' v (e.trans e') r rv
  | .rt _ _, _, h, e => fun a h' v e' r rv => h a h' v (e.trans e') r rv
  | .exc _ _, _, h, e => PExc.ext h e
  | .fail, _, h, _ => h
theorem PRes.imp : ∀ {r : Res} {Q Q' : VK}, PRes g E B α H r Q → (∀ v H', Q v H' → Q' v H') → PRes g E B α H r Q'
  | .ok _ _, _, _, h, i => fun a h' v e r rv => i v h' (h a h' v e r rv)
  | .exc _ _, _, _, h, _ => h
  | .fail, _, _, h, _ => h
/-- one piece, then the next -/
theorem PRes.bnd {f : D → S → Res} : ∀ {r : Res} {Q : VK}, PRes g E B α H (r.bnd f) Q → PRes g E B α H r fun v H1 => ∃ α1 d s, Ext g.K α α1 H H1 ∧ R g B α1 H1 s ∧ RV g.K α1 H1 v d ∧ PRes g E B α1 H1 (f d s) Q
  | .ok _ _, _, h => fun _ _ _ e r rv => ⟨_, _, _, e, r, rv, PRes.ext h e⟩
  | .exc _ _, _, h => h
  | .fail, _, h => h
theorem PRes.bndA {f : D → S → Rss} : ∀ {r : Res} {Q : List V → Hp → Prop}, PRss g E B α H (r.bndA f) Q → PRes g E B α H r fun v H1 => ∃ α1 d s, Ext g.K α α1 H H1 ∧ R g B α1 H1 s ∧ RV g.K α1 H1 v d ∧ PRss g E B α1 H1 (f d s) Q
  | .ok _ _, _, h => fun _ _ _ e r rv => ⟨_, _, _, e, r, rv, PRss.ext h e⟩
  | .exc _ _, _, h => h
  | .fail, _, h => h
theorem PRes.bndS {f : D → S → Out} : ∀ {r : Res} {Q : Ends}, POut g E B α H (r.bndS f) Q → PRes g E B α H r fun v H1 => ∃ α1 d s, Ext g.K α α1 H H1 ∧ R g B α1 H1 s ∧ RV g.K α1 H1 v d ∧ POut g E B α1 H1 (f d s) Q
  | .ok _ _, _, h => fun _ _ _ e r rv => ⟨_, _, _, e, r, rv, POut.ext h e⟩
  | .exc _ _, _, h => h
  | .fail, _, h => h
theorem PRss.bnd {f : List D → S → Res} : ∀ {r : Rss} {Q : VK}, PRes g E B α H (r.bnd f) Q → PRss g E B α H r fun v H1 => ∃ α1 d s, Ext g.K α α1 H H1 ∧ R g B α1 H1 s ∧ RVs g.K α1 H1 v d ∧ PRes g E B α1 H1 (f d s) Q
  | .ok _ _, _, h => fun _ _ _ e r rv => ⟨_, _, _, e, r, rv, PRes.ext h e⟩
  | .exc _ _, _, h => h
  | .fail, _, h => h
theorem PRss.bndA {f : List D → S → Rss} : ∀ {r : Rss} {Q : List V → Hp → Prop}, PRss g E B α H (r.bndA f) Q → PRss g E B α H r fun v H1 => ∃ α1 d s, Ext g.K α α1 H H1 ∧ R g B α1 H1 s ∧ RVs g.K α1 H1 v d ∧ PRss g E B α1 H1 (f d s) Q
  | .ok _ _, _, h => fun _ _ _ e r rv => ⟨_, _, _, e, r, rv, PRss.ext h e⟩
  | .exc _ _, _, h => h
  | .fail, _, h => h
theorem Out.bnd_P {f : Env → S → Out} : ∀ {r : Out} {Dd : Ends}, POut g E B α H (r.bnd f) Dd → POut g E B α H r { Dd with nx := fun σ H1 => ∃ α1 ρ s, Ext g.K α α1 H H1 ∧ R g B α1 H1 s ∧ RE g.K α1 H1 σ ρ ∧ POut g E B α1 H1 (f ρ s) Dd }
  | .nx _ _, _, h => fun _ _ _ e r rv => ⟨_, _, _, e, r, rv, POut.ext h e⟩
  | .bk _ _, _, h => h
  | .ct _ _, _, h => h
  | .rt _ _, _, h => h
  | .exc _ _, _, h => h
  | .fail, _, h => h
/-- what a block leaves -/
theorem PRes.fin {s : S} {Q : VK} (r : R g B α H s) : ∀ {z : Res}, PRes g E B α H (fin s.length z) Q → PRes g E (s.length :: B) α H z Q := by
  have l := r.len
  intro z h
  cases z with
  | ok d t =>
    intro α' H' v e r' rv
    simp only [Ev.fin] at h
    split at h
    · exact h α' H' v e r'.drop rv
    · split at h
      · exact h α' H' v e r'.drop rv
      · rename_i hy
        exact h (α'.take s.length) H' v (e.cut l) r'.fin (rv.cut (by simpa using hy))
  | exc c t =>
    intro α' H' v dx e r' rv hd
    simp only [Ev.fin] at h
    split at h
    · exact h α' H' v dx e r'.drop rv hd
    · split at h
      · exact h.elim
      · rename_i hy
        exact h (α'.take s.length) H' v dx (e.cut l) r'.fin (rv.cut (by simpa using hy)) hd
  | fail => exact h.elim
end
end Ev

set_option maxRecDepth 10000
namespace Ev
open PySem L2 PyProof.Rows

/-! ### readings -/
def tE (g : G) (E : XK) (k : Nat → List Nat → List D → S → Res) (r : ES) : TE := fun σ H Q => ∃ B α ρ s, R g B α H s ∧ RE g.K α H σ ρ ∧ PRes g E B α H (r ⟨k, B⟩ ρ s) Q
def tA (g : G) (E : XK) (k : Nat → List Nat → List D → S → Res) (r : AS) : TA := fun σ H Q => ∃ B α ρ s, R g B α H s ∧ RE g.K α H σ ρ ∧ PRss g E B α H (r ⟨k, B⟩ ρ s) Q
def tSS (g : G) (E : XK) (k : Nat → List Nat → List D → S → Res) (r : SS) : L2.TS := fun Dd σ H => ∃ B α ρ s, R g B α H s ∧ RE g.K α H σ ρ ∧ POut g E B α H (r ⟨k, B⟩ ρ s) Dd
/-- what a test asks -/
def PTst (g : G) (E : XK) (B : List Nat) (α : List Addr) (H : Hp) (r : Res) (Q : Bool → Hp → Prop) : Prop := match r with
  | .ok d s => ∃ b, tru s d = some b ∧ ∀ (α' : List Addr) (H' : Hp), Ext g.K α α' H H' → R g B α' H' s → Q b H'
  | .exc c s => PExc g E B α H c s
  | .fail => False
def tT (g : G) (E : XK) (k : Nat → List Nat → List D → S → Res) (r : ES) : TT := fun σ H Q => ∃ B α ρ s, R g B α H s ∧ RE g.K α H σ ρ ∧ PTst g E B α H (r ⟨k, B⟩ ρ s) Q

theorem PE.imp {X : Cx} {e : Expr} {t t' : TE} (h : PE X e t) (i : ∀ σ H Q, t' σ H Q → t σ H Q) : PE X e t' := ⟨fun pins s σ H Q I q => h.run pins s σ H Q I (i σ H Q q)⟩
theorem PT.imp {X : Cx} {e : Expr} {t t' : TT} (h : PT X e t) (i : ∀ σ H Q, t' σ H Q → t σ H Q) : PT X e t' := ⟨fun pins s σ H Q I q => h.run pins s σ H Q I (i σ H Q q)⟩
theorem PA.imp {X : Cx} {e : List Expr} {t t' : TA} (h : PA X e t) (i : ∀ σ H Q, t' σ H Q → t σ H Q) : PA X e t' := ⟨fun pos pins s σ H Q I q => h.run pos pins s σ H Q I (i σ H Q q)⟩
theorem PS.imp {X : Cx} {e : Stmt} {t t' : L2.TS} (h : PS X e t) (i : ∀ σ H Q, t' Q σ H → t Q σ H) : PS X e t' := ⟨fun pins s σ H Q I q => h.run pins s σ H Q I (i σ H Q q)⟩
theorem PSs.imp {X : Cx} {e : List Stmt} {t t' : L2.TS} (h : PSs X e t) (i : ∀ σ H Q, t' Q σ H → t Q σ H) : PSs X e t' := ⟨fun pins s σ H Q I q => h.run pins s σ H Q I (i σ H Q q)⟩

section
variable {X : Cx} {g : G} {E : XK} {k : Nat → List Nat → List D → S → Res} {e a b : Expr} {ra rb : ES}

/-- by values -/
def OpD (X : Cx) (g : G) (E : XK) (f : Value → Value → Sem Value) (op : List Nat → D → D → S → Res) : Prop :=
  OpR X f fun x y H Q => ∃ B α s d1 d2, R g B α H s ∧ RV g.K α H x d1 ∧ RV g.K α H y d2 ∧ PRes g E B α H (op B d1 d2 s) Q
def tOpD (op : List Nat → D → D → S → Res) (a b : ES) : ES := fun c ρ s => (a c ρ s).bnd fun x s => (b c ρ s).bnd fun y s => op c.B x y s

theorem two {σ : L2.St} {H : Hp} {Q : VK} {op : List Nat → D → D → S → Res} (h : tE g E k (tOpD op ra rb) σ H Q) :
    tE g E k ra σ H fun x H1 => tE g E k rb σ H1 fun y H2 => ∃ B α s d1 d2, R g B α H2 s ∧ RV g.K α H2 x d1 ∧ RV g.K α H2 y d2 ∧ PRes g E B α H2 (op B d1 d2 s) Q := by
  obtain ⟨B, α, ρ, s, hR, hE, h⟩ := h
  refine ⟨B, α, ρ, s, hR, hE, (PRes.bnd h).imp fun v H1 ⟨α1, d1, s1, e1, R1, r1, h1⟩ => ?_⟩
  refine ⟨B, α1, ρ, s1, R1, hE.ext e1, (PRes.bnd h1).imp fun w H2 ⟨α2, d2, s2, e2, R2, r2, h2⟩ => ?_⟩
  exact ⟨B, α2, s2, d1, d2, R2, r1.ext e2, r2, h2⟩
theorem one {σ : L2.St} {H : Hp} {Q : VK} {op : List Nat → D → S → Res} (h : tE g E k (fun c ρ s => (ra c ρ s).bnd fun x s => op c.B x s) σ H Q) :
    tE g E k ra σ H fun x H2 => ∃ B α s d1, R g B α H2 s ∧ RV g.K α H2 x d1 ∧ PRes g E B α H2 (op B d1 s) Q := by
  obtain ⟨B, α, ρ, s, hR, hE, h⟩ := h
  exact ⟨B, α, ρ, s, hR, hE, (PRes.bnd h).imp fun v H1 ⟨α1, d1, s1, e1, R1, r1, h1⟩ => ⟨B, α1, s1, d1, R1, r1, h1⟩⟩
theorem se_op {o : Operator} {op : D → D → S → Res} {pos : Pos} (ho : OpD X g E (binaryOp o) fun _ => op) (ha : PE X a (tE g E k ra)) (hb : PE X b (tE g E k rb)) : PE X (.BinOp a o b pos) (tE g E k (eOp op ra rb)) :=
  PE.imp (pe_op ho ha hb) fun _ _ _ h => two (op := fun _ => op) h
theorem se_cmp {o : CmpOp} {op : D → D → S → Res} {pos : Pos} (ho : OpD X g E (compareOp o) fun _ => op) (ha : PE X a (tE g E k ra)) (hb : PE X b (tE g E k rb)) (hm : behindInMarks o b = false) : PE X (.Compare a [o] [b] pos) (tE g E k (eOp op ra rb)) :=
  PE.imp (pe_cmpR ho ha hb hm) fun _ _ _ h => two (op := fun _ => op) h

/-! ### ints -/
theorem opd_int {f : Value → Value → Sem Value} {c : Int → Int → Prop} {h : Int → Int → V} {op : D → D → S → Res} (ho : OpR X f (rI c h))
    (hi : ∀ B α H s d1 d2 Q, PRes g E B α H (op d1 d2 s) Q → ∃ i j d, d1 = .int i ∧ d2 = .int j ∧ op d1 d2 s = .ok d s ∧ c i j ∧ RV g.K α H (h i j) d) : OpD X g E f fun _ => op := by
  intro pins s σ H x y v u Q I rx ry ⟨B, α, t, d1, d2, hR, r1, r2, q⟩
  obtain ⟨i, j, d, e1, e2, e3, hc, rd⟩ := hi B α H t d1 d2 Q q
  subst e1 e2
  cases r1
  cases r2
  dsimp only at q
  rw [e3] at q
  exact ho pins s σ H _ _ v u Q I rx ry ⟨i, j, rfl, rfl, hc, q α H _ .refl hR rd⟩
theorem opd_int0 {f : Value → Value → Sem Value} {h : Int → Int → V} {op : D → D → S → Res} (ho : OpR X f (rI0 h))
    (hi : ∀ B α H s d1 d2 Q, PRes g E B α H (op d1 d2 s) Q → ∃ i j d, d1 = .int i ∧ d2 = .int j ∧ op d1 d2 s = .ok d s ∧ RV g.K α H (h i j) d) : OpD X g E f fun _ => op := by
  intro pins s σ H x y v u Q I rx ry ⟨B, α, t, d1, d2, hR, r1, r2, q⟩
  obtain ⟨i, j, d, e1, e2, e3, rd⟩ := hi B α H t d1 d2 Q q
  subst e1 e2
  cases r1
  cases r2
  dsimp only at q
  rw [e3] at q
  exact ho pins s σ H _ _ v u Q I rx ry ⟨i, j, rfl, rfl, q α H _ .refl hR rd⟩
theorem opd_sub : OpD X g E (binaryOp .Sub) fun _ => bSub := opd_int0 op_sub fun B α H s d1 d2 Q h => by
  cases d1 <;> cases d2 <;> first | exact (show False from h).elim | exact ⟨_, _, _, rfl, rfl, rfl, .int _⟩
theorem big_log {j : Int} (h0 : 0 < j) (h : j < big) : j.natAbs.log2 < 9000 := by
  have h1 : j.natAbs < 2 ^ 1000 := by
    have : (j.natAbs : Int) < ((2 ^ 1000 : Nat) : Int) := by
      rw [Int.natAbs_of_nonneg (by omega)]
      exact h
    exact Int.ofNat_lt.mp this
  have h2 := (Nat.log2_lt (by omega : j.natAbs ≠ 0)).mpr h1
  omega
theorem op_fdivW {X : Cx} : OpR X (binaryOp .FloorDiv) (rI (fun _ j => 0 < j ∧ j < big) fun i j => .int (i / j)) := opI fun i j _ _ _ _ _ hc q =>
  floordiv_int (by omega) (by rw [Int.fdiv_eq_ediv_of_nonneg i (by omega)]; exact q) (.inl (PyProof.noPylong_of_log2 (big_log hc.1 hc.2)))
theorem iop_fdivW {X : Cx} : OpR X (inplaceOp .FloorDiv) (rI (fun _ j => 0 < j ∧ j < big) fun i j => .int (i / j)) := opI fun i j _ _ _ _ _ hc q =>
  ifloordiv_int (by omega) (by rw [Int.fdiv_eq_ediv_of_nonneg i (by omega)]; exact q) (.inl (PyProof.noPylong_of_log2 (big_log hc.1 hc.2)))
theorem opd_div : OpD X g E (binaryOp .FloorDiv) fun _ => bDiv := opd_int op_fdivW fun B α H s d1 d2 Q h => by
  cases d1 <;> cases d2 <;> try exact (show False from h).elim
  simp only [bDiv] at h ⊢
  split at h
  · rename_i hc
    exact ⟨_, _, _, rfl, rfl, if_pos hc, hc, .int _⟩
  · exact h.elim
theorem opd_mod : OpD X g E (binaryOp .Mod) fun _ => bMod := opd_int op_mod fun B α H s d1 d2 Q h => by
  cases d1 <;> cases d2 <;> try exact (show False from h).elim
  simp only [bMod] at h ⊢
  split at h
  · rename_i hc
    exact ⟨_, _, _, rfl, rfl, if_pos hc, hc, .int _⟩
  · exact h.elim
theorem opd_pow : OpD X g E (binaryOp .Pow) fun _ => bPow := opd_int op_pow fun B α H s d1 d2 Q h => by
  cases d1 <;> cases d2 <;> try exact (show False from h).elim
  simp only [bPow] at h ⊢
  split at h
  · rename_i hc
    exact ⟨_, _, _, rfl, rfl, if_pos hc, (by simpa [powOk, CPow] using hc), .int _⟩
  · exact h.elim
theorem opd_shl : OpD X g E (binaryOp .LShift) fun _ => bShl := opd_int op_shl fun B α H s d1 d2 Q h => by
  cases d1 <;> cases d2 <;> try exact (show False from h).elim
  simp only [bShl] at h ⊢
  split at h
  · rename_i hc
    exact ⟨_, _, _, rfl, rfl, if_pos hc, (by simpa [powOk, CPow] using hc), .int _⟩
  · exact h.elim
theorem opd_shr : OpD X g E (binaryOp .RShift) fun _ => bShr := opd_int op_shr fun B α H s d1 d2 Q h => by
  cases d1 <;> cases d2 <;> try exact (show False from h).elim
  simp only [bShr] at h ⊢
  split at h
  · rename_i hc
    exact ⟨_, _, _, rfl, rfl, if_pos hc, hc, .int _⟩
  · exact h.elim
theorem opd_and : OpD X g E (binaryOp .BitAnd) fun _ => bAnd := opd_int0 op_and fun B α H s d1 d2 Q h => by
  cases d1 <;> cases d2 <;> first | exact (show False from h).elim | exact ⟨_, _, _, rfl, rfl, rfl, .int _⟩
theorem opd_or : OpD X g E (binaryOp .BitOr) fun _ => bOr := opd_int0 op_or fun B α H s d1 d2 Q h => by
  cases d1 <;> cases d2 <;> first | exact (show False from h).elim | exact ⟨_, _, _, rfl, rfl, rfl, .int _⟩
theorem opd_xor : OpD X g E (binaryOp .BitXor) fun _ => bXor := opd_int0 op_xor fun B α H s d1 d2 Q h => by
  cases d1 <;> cases d2 <;> first | exact (show False from h).elim | exact ⟨_, _, _, rfl, rfl, rfl, .int _⟩
theorem opd_lt : OpD X g E (compareOp .Lt) fun _ => cLt := opd_int0 op_lt fun B α H s d1 d2 Q h => by
  cases d1 <;> cases d2 <;> first | exact (show False from h).elim | exact ⟨_, _, _, rfl, rfl, rfl, .bl _⟩
theorem opd_le : OpD X g E (compareOp .LtE) fun _ => cLe := opd_int0 op_le fun B α H s d1 d2 Q h => by
  cases d1 <;> cases d2 <;> first | exact (show False from h).elim | exact ⟨_, _, _, rfl, rfl, rfl, .bl _⟩
theorem opd_gt : OpD X g E (compareOp .Gt) fun _ => cGt := opd_int0 op_gt fun B α H s d1 d2 Q h => by
  cases d1 <;> cases d2 <;> first | exact (show False from h).elim | exact ⟨_, _, _, rfl, rfl, rfl, .bl _⟩
theorem opd_ge : OpD X g E (compareOp .GtE) fun _ => cGe := opd_int0 op_ge fun B α H s d1 d2 Q h => by
  cases d1 <;> cases d2 <;> first | exact (show False from h).elim | exact ⟨_, _, _, rfl, rfl, rfl, .bl _⟩

/-! ### sequences -/
theorem lst_of {B : List Nat} {α : List Addr} {H : Hp} {s : S} {v : V} {n : Nat} {ds : List D} (hR : R g B α H s) (h : RV g.K α H v (.ref n)) (hl : lstOf s n = some ds) : ∃ a xs, v = .ref a ∧ α[n]? = some a ∧ s[n]? = some (.lst ds) ∧ H a = some (.lst xs) ∧ RVs g.K α H xs ds := by
  have ho : s[n]? = some (.lst ds) := by
    unfold lstOf at hl
    cases e : s[n]? with
    | none => rw [e] at hl; cases hl
    | some o =>
      rw [e] at hl
      cases o <;> simp at hl
      subst hl
      rfl
  obtain ⟨a, e, ha, ro⟩ := hR.get h ho
  cases ro with
  | lst h1 h2 => exact ⟨a, _, e, ha, ho, h1, h2⟩
/-- a new list -/
theorem al_ok {B : List Nat} {α : List Addr} {H : Hp} {s : S} {Q : VK} {xs : List V} {ds : List D} (hR : R g B α H s) (h : PRes g E B α H (al (.lst ds) s) Q) (hv : RVs g.K α H xs ds) : ∀ p, H p = none → Q (.ref p) (upd H p (.lst xs)) := by
  intro p hp
  have e : Ext g.K α (α ++ [p]) H (upd H p (.lst xs)) := .new hp
  refine h (α ++ [p]) _ (.ref p) e (hR.new hp (.lst upd_same (hv.ext e))) (.ref ?_)
  rw [List.getElem?_append_right (by rw [hR.len]; exact Nat.le_refl _), hR.len]
  simp
/-- a new tuple -/
theorem tup_ok {B : List Nat} {α : List Addr} {H : Hp} {s : S} {Q : VK} {xs : List V} {ds : List D} (hR : R g B α H s) (h : PRes g E B α H (.ok (.tup ds) s) Q) (hv : RVs g.K α H xs ds) : ∀ p, H p = none → Q (.ref p) (upd H p (.tup xs)) := by
  intro p hp
  have e : Ext g.K α α H (upd H p (.tup xs)) := .newT hp
  exact h α _ (.ref p) e (hR.newT hp) (.tup (.of upd_same) (hv.ext e))
theorem opd_add (hK : X.K = g.K) : OpD X g E (binaryOp .Add) fun _ => bAdd := by
  intro pins s σ H x y v u Q I rx ry ⟨B, α, t, d1, d2, hR, r1, r2, q⟩
  cases d1 <;> cases d2 <;> try exact (show False from q).elim
  · cases r1
    cases r2
    exact op_add pins s σ H _ _ v u Q I rx ry ⟨_, _, rfl, rfl, q α H _ .refl hR (.int _)⟩
  · cases r1
    cases r2
    simp only [bAdd] at q
    split at q
    · rename_i hl
      exact op_add_str pins s σ H _ _ v u Q I rx ry ⟨_, _, rfl, rfl, by rw [sizeLine_eq]; exact hl, q α H _ .refl hR (.str _)⟩
    · exact q.elim
  · cases r1 with
    | @tup a1 xs1 ds1 h1 h2 =>
      cases r2 with
      | @tup a2 xs2 ds2 h3 h4 =>
        simp only [bAdd] at q
        split at q
        · rename_i hl
          have l1 := h2.length
          have l2 := h4.length
          refine op_catA pins s σ H _ _ v u Q I rx ry ⟨_, _, _, _, rfl, rfl, by rw [hK]; exact h1, by rw [hK]; exact h3, by rw [sizeLine_eq, l1, l2]; exact hl, fun e => ?_, fun _ e => ?_, fun _ _ => tup_ok hR q (h2.append h4)⟩
          · subst e
            cases h2
            exact q α H _ .refl hR (.tup h3 h4)
          · subst e
            cases h4
            rw [List.append_nil] at q
            exact q α H _ .refl hR (.tup h1 h2)
        · exact q.elim
  · simp only [bAdd] at q
    split at q
    · rename_i n m a b e1 e2
      split at q
      · rename_i hl
        obtain ⟨p1, xs1, rfl, _, _, h1, h2⟩ := lst_of hR r1 e1
        obtain ⟨p2, xs2, rfl, _, _, h3, h4⟩ := lst_of hR r2 e2
        exact op_cat pins s σ H _ _ v u Q I rx ry ⟨_, _, _, _, rfl, rfl, h1, h3, by rw [sizeLine_eq, h2.length, h4.length]; exact hl, al_ok hR q (h2.append h4)⟩
      · exact q.elim
    · exact q.elim
theorem RVs.rep {K : PySem.W.Frag} {α : List Addr} {H : Hp} {xs : List V} {ds : List D} (r : RVs K α H xs ds) : ∀ n : Nat, RVs K α H (List.replicate n xs).flatten (List.replicate n ds).flatten
  | 0 => .nil
  | n + 1 => by
    rw [List.replicate_succ, List.replicate_succ, List.flatten_cons, List.flatten_cons]
    exact r.append (RVs.rep r n)
theorem opd_mul (hK : X.K = g.K) : OpD X g E (binaryOp .Mult) fun _ => bMul := by
  intro pins s σ H x y v u Q I rx ry ⟨B, α, t, d1, d2, hR, r1, r2, q⟩
  cases d1 <;> cases d2 <;> try exact (show False from q).elim
  · cases r1
    cases r2
    simp only [bMul] at q
    split at q
    · rename_i hc
      refine op_mul pins s σ H _ _ v u Q I rx ry ⟨_, _, rfl, rfl, ?_, q α H _ .refl hR (.int _)⟩
      unfold mulOk at hc
      rw [Bool.or_eq_true] at hc
      exact hc.imp of_decide_eq_true of_decide_eq_true
    · exact q.elim
  · cases r2
    cases r1 with
    | @tup a1 xs1 ds1 h1 h2 =>
      simp only [bMul] at q
      split at q
      · rename_i hl
        obtain ⟨hn, hk1, hk2, hz⟩ := hl
        have l1 := h2.length
        refine op_repT pins s σ H _ _ v u Q I rx ry ⟨_, _, _, rfl, rfl, by rw [hK]; exact h1, fun e => hn ?_, hk1, hk2, by omega, tup_ok hR q (RVs.rep h2 _)⟩
        subst e
        cases h2
        rfl
      · exact q.elim
  · cases r2
    simp only [bMul] at q
    split at q
    · rename_i n a e1
      split at q
      · rename_i hl
        obtain ⟨p1, xs1, rfl, _, _, h1, h2⟩ := lst_of hR r1 e1
        exact op_rep pins s σ H _ _ v u Q I rx ry ⟨_, _, _, rfl, rfl, h1, hl.1, hl.2.1, by rw [sizeLine_eq, h2.length]; exact hl.2.2, al_ok hR q (RVs.rep h2 _)⟩
      · exact q.elim
    · exact q.elim
end
end Ev

set_option maxRecDepth 10000
namespace Ev
open PySem L2

/-! ### data -/
theorem pds_map : ∀ ds : List D, D.pds ds = ds.map D.pd
  | [] => rfl
  | d :: r => by rw [D.pds, pds_map r]; rfl
theorem canAll : ∀ {ds : List PyData}, (∀ d ∈ ds, d.canLay0 = true) → PyData.canLayAll0 ds = true
  | [], _ => rfl
  | d :: r, h => by
    rw [PyData.canLayAll0, h d List.mem_cons_self, canAll fun x hx => h x (List.mem_cons_of_mem _ hx)]
    rfl
theorem depAll {n : Nat} : ∀ {ds : List PyData}, (∀ d ∈ ds, d.depth ≤ n) → PyData.depthAll ds ≤ n
  | [], _ => by rw [PyData.depthAll]; omega
  | d :: r, h => by
    rw [PyData.depthAll]
    have h1 := h d List.mem_cons_self
    have h2 := depAll (n := n) (ds := r) fun x hx => h x (List.mem_cons_of_mem _ hx)
    omega
theorem shp_data : ∀ (n : Nat) (d : D), d.shp n = true → d.pd.canLay0 = true ∧ d.pd.depth ≤ n
  | n, .non, _ => ⟨rfl, by simp [D.pd, PyData.depth]⟩
  | n, .bl b, _ => ⟨rfl, by simp [D.pd, PyData.depth]⟩
  | n, .int i, _ => ⟨rfl, by simp [D.pd, PyData.depth]⟩
  | n, .str x, h => ⟨by simpa [D.pd, PyData.canLay0, D.shp] using h, by simp [D.pd, PyData.depth]⟩
  | 0, .tup ds, h => absurd h (by simp [D.shp])
  | n + 1, .tup ds, h => by
    have h' : ∀ d ∈ ds, d.shp n = true := by simpa [D.shp] using h
    have k : ∀ p ∈ D.pds ds, p.canLay0 = true ∧ p.depth ≤ n := fun p hp => by
      rw [pds_map] at hp
      obtain ⟨d, hd, rfl⟩ := List.mem_map.mp hp
      exact shp_data n d (h' d hd)
    refine ⟨?_, ?_⟩
    · rw [D.pd, PyData.canLay0]
      exact canAll fun p hp => (k p hp).1
    · rw [D.pd, PyData.depth]
      have := depAll fun p hp => (k p hp).2
      omega
  | n, .und, h => absurd h (by cases n <;> simp [D.shp])
  | n, .ref _, h => absurd h (by cases n <;> simp [D.shp])
  | n, .frl _, h => absurd h (by cases n <;> simp [D.shp])
theorem shp_shaped {n : Nat} (hn : n ≤ 64) {d : D} (h : d.shp n = true) : SeqAt.shaped d.pd = true := by
  obtain ⟨h1, h2⟩ := shp_data n d h
  unfold SeqAt.shaped
  rw [h1, decide_eq_true (by omega)]
  rfl
theorem eqv_pd : ∀ (n : Nat) (x y : D), x.shp n = true → y.shp n = true → PyData.eqv x.pd y.pd = D.eqv x y := by
  intro n
  induction n with
  | zero =>
    intro x y hx hy
    cases x <;> first | (simp [D.shp] at hx; done) | skip
    all_goals cases y <;> first | (simp [D.shp] at hy; done) | simp [D.pd, PyData.eqv, D.eqv]
  | succ n ih =>
    intro x y hx hy
    have all : ∀ (xs ys : List D), (∀ d ∈ xs, d.shp n = true) → (∀ d ∈ ys, d.shp n = true) → PyData.eqvAll (D.pds xs) (D.pds ys) = D.eqvs xs ys := by
      intro xs
      induction xs with
      | nil => intro ys _ _; cases ys <;> simp [D.pds, PyData.eqvAll, D.eqvs]
      | cons a r ihr =>
        intro ys h1 h2
        cases ys with
        | nil => simp [D.pds, PyData.eqvAll, D.eqvs]
        | cons b t =>
          rw [D.pds, D.pds, PyData.eqvAll, D.eqvs, ih a b (h1 a List.mem_cons_self) (h2 b List.mem_cons_self), ihr t (fun d hd => h1 d (List.mem_cons_of_mem _ hd)) fun d hd => h2 d (List.mem_cons_of_mem _ hd)]
    cases x <;> first | (simp [D.shp] at hx; done) | skip
    all_goals cases y <;> first | (simp [D.shp] at hy; done) | skip
    all_goals first | (simp [D.pd, PyData.eqv, D.eqv]; done) | skip
    rw [D.pd, D.pd, PyData.eqv, D.eqv]
    exact all _ _ (by simpa [D.shp] using hx) (by simpa [D.shp] using hy)

section
variable {K : PySem.W.Frag} {α : List Addr} {H : Hp}
mutual
theorem RV.dp : ∀ {v : V} {d : D} {n : Nat}, RV K α H v d → d.shp n = true → Dp K H v d.pd
  | _, _, _, .non, _ => .non
  | _, _, _, .bl b, _ => .bl b
  | _, _, _, .int i, _ => .int i
  | _, _, _, .str x, _ => .str x
  | _, _, 0, .tup h r, q => absurd q (by simp [D.shp])
  | _, _, n + 1, .tup h r, q => .tup h (RVs.dp (n := n) r (by simpa [D.shp] using q))
  | _, _, n, .frl h r, q => absurd q (by cases n <;> simp [D.shp])
  | _, _, n, .ref h, q => absurd q (by cases n <;> simp [D.shp])
theorem RVs.dp : ∀ {v : List V} {d : List D} {n : Nat}, RVs K α H v d → (∀ x ∈ d, x.shp n = true) → DpAll K H v (D.pds d)
  | _, _, _, .nil, _ => .nil
  | _, _, _, .cons r t, q => .cons (RV.dp r (q _ List.mem_cons_self)) (RVs.dp t fun x hx => q x (List.mem_cons_of_mem _ hx))
end
end

section
variable {X : Cx} {g : G} {E : XK} {k : Nat → List Nat → List D → S → Res} {e a b : Expr} {ra rb : ES}
theorem mapM_all {α β : Type} {f : α → Option β} : ∀ {l : List α} {r : List β}, l.mapM f = some r → r.length = l.length ∧ ∀ (i : Nat) (x : α), l[i]? = some x → ∃ y, r[i]? = some y ∧ f x = some y
  | [], r, h => by
    have e : r = [] := by simpa using h.symm
    subst e
    exact ⟨rfl, fun i x hx => by simp at hx⟩
  | a :: l, r, h => by
    rw [List.mapM_cons] at h
    cases ha : f a with
    | none => rw [ha] at h; simp at h
    | some y =>
      rw [ha] at h
      cases hl : l.mapM f with
      | none => rw [hl] at h; simp at h
      | some t =>
        rw [hl] at h
        have e : r = y :: t := by simpa using h.symm
        subst e
        obtain ⟨h1, h2⟩ := mapM_all hl
        refine ⟨by simp [h1], fun i x hx => ?_⟩
        cases i with
        | zero =>
          have : a = x := by simpa using hx
          subst this
          exact ⟨y, rfl, ha⟩
        | succ i => exact h2 i x (by simpa using hx)
theorem toP_all {K : PySem.W.Frag} {α : List Addr} {H : Hp} {f : D → Option PyData} : ∀ {xs : List V} {ds : List D} {ps : List PyData}, RVs K α H xs ds → ds.mapM f = some ps → (∀ (v : V) (d : D) (p : PyData), RV K α H v d → f d = some p → Dp K H v p) → DpAll K H xs ps
  | _, _, ps, .nil, h, _ => by
    have e : ps = [] := by simpa using h.symm
    subst e
    exact .nil
  | _, _, ps, @RVs.cons _ _ _ v d vs ds r t, h, q => by
    rw [List.mapM_cons] at h
    cases ha : f d with
    | none => rw [ha] at h; simp at h
    | some y =>
      rw [ha] at h
      cases hl : ds.mapM f with
      | none => rw [hl] at h; simp at h
      | some z =>
        rw [hl] at h
        have e : ps = y :: z := by simpa using h.symm
        subst e
        exact .cons (q v d y r ha) (toP_all t hl q)
theorem toP_ok {B : List Nat} {α : List Addr} {H : Hp} {s : S} (hR : R g B α H s) : ∀ (n : Nat) (v : V) (d : D) (p : PyData), RV g.K α H v d → toP n s d = some p → Dp g.K H v p := by
  intro n
  induction n with
  | zero =>
    intro v d p r h
    cases r <;> simp [toP] at h <;> subst h
    · exact .non
    · exact .bl _
    · exact .int _
    · exact .str _
  | succ n ih =>
    intro v d p r h
    cases r with
    | non => simp [toP] at h; subst h; exact .non
    | bl => simp [toP] at h; subst h; exact .bl _
    | int => simp [toP] at h; subst h; exact .int _
    | str => simp [toP] at h; subst h; exact .str _
    | tup h1 h2 =>
      simp only [toP] at h
      obtain ⟨ps, e1, e2⟩ := Option.map_eq_some_iff.mp h
      subst e2
      exact .tup h1 (toP_all h2 e1 ih)
    | frl h1 h2 =>
      simp only [toP] at h
      obtain ⟨ps, e1, e2⟩ := Option.map_eq_some_iff.mp h
      subst e2
      exact .lst h1.sq (toP_all h2 e1 ih)
    | @ref a m h1 =>
      simp only [toP] at h
      split at h
      · rename_i ds hl
        obtain ⟨ps, e1, e2⟩ := Option.map_eq_some_iff.mp h
        subst e2
        obtain ⟨a', xs, ea, _, _, h3, h4⟩ := lst_of hR (.ref h1) hl
        cases ea
        exact .lst (.of h3) (toP_all h4 e1 ih)
      · cases h
theorem eqD_ok {B : List Nat} {α : List Addr} {H : Hp} {s : S} {x y : V} {d1 d2 : D} {z : Bool} (hR : R g B α H s) (r1 : RV g.K α H x d1) (r2 : RV g.K α H y d2) (h : eqD d1 d2 s = some z) :
    ∃ p q, Dp g.K H x p ∧ Dp g.K H y q ∧ SeqAt.shaped p = true ∧ SeqAt.shaped q = true ∧ z = PyData.eqv p q := by
  unfold eqD at h
  split at h
  · rename_i hs
    rw [Bool.and_eq_true] at hs
    refine ⟨_, _, r1.dp hs.1, r2.dp hs.2, shp_shaped (by decide) hs.1, shp_shaped (by decide) hs.2, ?_⟩
    rw [eqv_pd 40 _ _ hs.1 hs.2]
    exact (Option.some.inj h).symm
  · split at h
    · rename_i p q e1 e2
      split at h
      · rename_i hs
        rw [Bool.and_eq_true] at hs
        exact ⟨p, q, toP_ok hR _ _ _ _ r1 e1, toP_ok hR _ _ _ _ r2 e2, hs.1, hs.2, (Option.some.inj h).symm⟩
      · cases h
    · cases h
theorem opd_eq (hK : X.K = g.K) (hu : X.A.units + 64 < cLine) : OpD X g E (compareOp .Eq) fun _ => cEq := by
  intro pins s σ H x y v u Q I rx ry ⟨B, α, t, d1, d2, hR, r1, r2, q⟩
  simp only [cEq] at q
  cases h : eqD d1 d2 t with
  | none => rw [h] at q; exact q.elim
  | some z =>
    rw [h] at q
    obtain ⟨p1, p2, h1, h2, h3, h4, h5⟩ := eqD_ok hR r1 r2 h
    subst h5
    exact op_eqD hu pins s σ H _ _ v u Q I rx ry ⟨p1, p2, by rw [hK]; exact h1, by rw [hK]; exact h2, h3, h4, q α H _ .refl hR (.bl _)⟩
theorem opd_ne (hK : X.K = g.K) (hu : X.A.units + 64 < cLine) : OpD X g E (compareOp .NotEq) fun _ => cNe := by
  intro pins s σ H x y v u Q I rx ry ⟨B, α, t, d1, d2, hR, r1, r2, q⟩
  simp only [cNe] at q
  cases h : eqD d1 d2 t with
  | none => rw [h] at q; exact q.elim
  | some z =>
    rw [h] at q
    obtain ⟨p1, p2, h1, h2, h3, h4, h5⟩ := eqD_ok hR r1 r2 h
    subst h5
    exact op_neD hu pins s σ H _ _ v u Q I rx ry ⟨p1, p2, by rw [hK]; exact h1, by rw [hK]; exact h2, h3, h4, q α H _ .refl hR (.bl _)⟩
theorem opd_is : OpD X g E (compareOp .Is) fun _ => cIs := by
  intro pins s σ H x y v u Q I rx ry ⟨B, α, t, d1, d2, hR, r1, r2, q⟩
  cases d2 <;> try (cases d1 <;> exact (show False from q).elim)
  · cases r2
    refine op_isN pins s σ H _ _ v u Q I rx ry ⟨rfl, ?_⟩
    have e : decide (x = .non) = d1.isNon := by cases r1 <;> simp [D.isNon]
    rw [e]
    cases d1 <;> first | exact (show False from q).elim | exact q α H _ .refl hR (.bl _)
  · cases d1 <;> try exact (show False from q).elim
    cases r1
    cases r2
    exact op_isBl pins s σ H _ _ v u Q I rx ry ⟨_, _, rfl, rfl, q α H _ .refl hR (.bl _)⟩
theorem opd_isnot : OpD X g E (compareOp .IsNot) fun _ => cIsNot := by
  intro pins s σ H x y v u Q I rx ry ⟨B, α, t, d1, d2, hR, r1, r2, q⟩
  cases d2 <;> try (cases d1 <;> exact (show False from q).elim)
  · cases r2
    refine op_notN pins s σ H _ _ v u Q I rx ry ⟨rfl, ?_⟩
    have e : decide (x = .non) = d1.isNon := by cases r1 <;> simp [D.isNon]
    rw [e]
    cases d1 <;> first | exact (show False from q).elim | exact q α H _ .refl hR (.bl _)
  · cases d1 <;> try exact (show False from q).elim
    cases r1
    cases r2
    exact op_notBl pins s σ H _ _ v u Q I rx ry ⟨_, _, rfl, rfl, q α H _ .refl hR (.bl _)⟩
end
end Ev

set_option maxRecDepth 10000
namespace Ev
open PySem L2

section
variable {X : Cx} {g : G} {E : XK} {k : Nat → List Nat → List D → S → Res} {e a b c : Expr} {ra rb rc : ES} {es : List Expr} {as : AS} {pos : Pos}

/-! ### names, constants, displays -/
theorem se_var {i : Nat} {x : Str} (hN : X.N[i]? = some x) (hv : Vis X.env.scope x) (hd : (x == ("__debug__" : Str)) = false) (hcd : (x == ("__classdict__" : Str)) = false) : PE X (.Name x pos) (tE g E k (eVar i)) :=
  PE.imp (pe_var hN hv hd hcd) fun σ H Q ⟨B, α, ρ, s, hR, hE, h⟩ => by
    have hn : gv ρ i ≠ .und := fun z => by
      simp only [eVar, z] at h
      exact h.elim
    obtain ⟨v, h1, h2⟩ := hE.2 i hn
    refine ⟨v, h1, ?_⟩
    have h' : PRes g E B α H (.ok (gv ρ i) s) Q := by
      simp only [eVar] at h
      first
        | exact h
        | (split at h
           · exact h.elim
           · exact h)
    exact h' α H v .refl hR h2
theorem se_const {d : D} {v : V} {t : TE} (hp : PE X e t) (ht : ∀ σ H Q, Q v H → t σ H Q) (hv : ∀ α H, RV g.K α H v d) : PE X e (tE g E k (eC d)) :=
  PE.imp hp fun σ H Q ⟨B, α, ρ, s, hR, hE, h⟩ => ht σ H Q (h α H v .refl hR (hv α H))
theorem se_int {i j} : PE X (.Constant (.int i) j pos) (tE g E k (eC (.int i))) := se_const pe_int (fun _ _ _ h => h) fun _ _ => .int _
theorem se_bool {i j} : PE X (.Constant (.bool i) j pos) (tE g E k (eC (.bl i))) := se_const pe_bl (fun _ _ _ h => h) fun _ _ => .bl _
theorem se_none {j} : PE X (.Constant .none j pos) (tE g E k (eC .non)) := se_const pe_non (fun _ _ _ h => h) fun _ _ => .non
theorem se_str {x j} : PE X (.Constant (.str x) j pos) (tE g E k (eC (.str x))) := se_const pe_str (fun _ _ _ h => h) fun _ _ => .str _
theorem sa_nil : PA X [] (tA g E k aNil) := PA.imp pa_nil fun σ H Q ⟨B, α, ρ, s, hR, hE, h⟩ => h α H [] .refl hR .nil
theorem sa_cons (ha : PE X a (tE g E k ra)) (hr : PA X es (tA g E k as)) (hs : starEach (a :: es) X.env = (false, eval a X.env) :: starEach es X.env) : PA X (a :: es) (tA g E k (aCons ra as)) :=
  PA.imp (pa_cons ha hr hs) fun σ H Q ⟨B, α, ρ, s, hR, hE, h⟩ => by
    refine ⟨B, α, ρ, s, hR, hE, (PRes.bndA h).imp fun v H1 ⟨α1, d1, s1, e1, R1, r1, h1⟩ => ?_⟩
    refine ⟨B, α1, ρ, s1, R1, hE.ext e1, ?_⟩
    have h2 := PRss.bndA h1
    cases hz : as ⟨k, B⟩ ρ s1 with
    | ok ds s2 =>
      rw [hz] at h2
      intro α2 H2 vs e2 R2 r2
      obtain ⟨α3, d3, s3, e3, R3, r3, h3⟩ := h2 α2 H2 vs e2 R2 r2
      exact h3 α3 H2 _ .refl R3 (.cons (r1.ext e3) r3)
    | exc c t => rw [hz] at h2; exact h2
    | fail => rw [hz] at h2; exact h2
theorem PRss.imp {B : List Nat} {α : List Addr} {H : Hp} : ∀ {r : Rss} {Q Q' : List V → Hp → Prop}, PRss g E B α H r Q → (∀ v H', Q v H' → Q' v H') → PRss g E B α H r Q'
  | .ok _ _, _, _, h, i => fun a h' v e r rv => i v h' (h a h' v e r rv)
  | .exc _ _, _, _, h, _ => h
  | .fail, _, _, h, _ => h
/-- arguments, then f -/
theorem args {σ : L2.St} {H : Hp} {Q : VK} {f : List Nat → List D → S → Res} (h : tE g E k (fun c ρ s => (as c ρ s).bnd fun xs s => f c.B xs s) σ H Q) :
    tA g E k as σ H fun vs H1 => ∃ B α s ds, R g B α H1 s ∧ RVs g.K α H1 vs ds ∧ PRes g E B α H1 (f B ds s) Q := by
  obtain ⟨B, α, ρ, s, hR, hE, h⟩ := h
  exact ⟨B, α, ρ, s, hR, hE, (PRss.bnd h).imp fun vs H1 ⟨α1, ds, s1, e1, R1, r1, h1⟩ => ⟨B, α1, s1, ds, R1, r1, h1⟩⟩
theorem se_tup {j} (h : PA X es (tA g E k as)) : PE X (.Tuple es j pos) (tE g E k (eTup as)) :=
  PE.imp (pe_tup h) fun σ H Q q => by
    obtain ⟨B, α, ρ, s, hR, hE, h⟩ := args (f := fun _ xs s => if xs.length ≤ lim then .ok (.tup xs) s else .fail) q
    refine ⟨B, α, ρ, s, hR, hE, h.imp fun vs H1 ⟨B', α1, s1, ds, R1, r1, h1⟩ => ?_⟩
    split at h1
    · rename_i hl
      exact ⟨by rw [sizeLine_eq, r1.length]; exact hl, tup_ok R1 h1 r1⟩
    · exact h1.elim
theorem se_lst (h : PA X es (tA g E k as)) : PE X (.List es pos) (tE g E k (eLst as)) :=
  PE.imp (pe_lst h) fun σ H Q q => by
    obtain ⟨B, α, ρ, s, hR, hE, h⟩ := args (f := fun _ xs s => if xs.length ≤ lim then al (.lst xs) s else .fail) q
    refine ⟨B, α, ρ, s, hR, hE, h.imp fun vs H1 ⟨B', α1, s1, ds, R1, r1, h1⟩ => ?_⟩
    split at h1
    · rename_i hl
      exact ⟨by rw [sizeLine_eq, r1.length]; exact hl, al_ok R1 h1 r1⟩
    · exact h1.elim

/-! ### blocks -/
theorem se_gc (h : PE X e (tE g E k ra)) : PE X e (tE g E k (gcE ra)) :=
  PE.imp h fun σ H Q ⟨B, α, ρ, s, hR, hE, q⟩ => ⟨s.length :: B, α, ρ, s, hR.push, hE, PRes.fin hR q⟩
theorem PRes.finF {B : List Nat} {α : List Addr} {H : Hp} {s : S} {Q : VK} (r : R g B α H s) : ∀ {z : Res}, PRes g E B α H (finF s.length z) Q → PRes g E (s.length :: B) α H z Q := by
  have l := r.len
  intro z h
  cases z with
  | ok d t =>
    cases d
    case ref n =>
      intro α' H' v e r' rv
      simp only [Ev.finF] at h
      split at h
      · exact h α' H' v e r'.drop rv
      · split at h
        · rename_i hn
          exact h (α'.take s.length) H' v (e.cut l) r'.fin (rv.cut (by simp [D.yg]; omega))
        · split at h
          · rename_i ds ho
            split at h
            · exact h α' H' v e r'.drop rv
            · rename_i hge hy
              obtain ⟨a, rfl, ha, ro⟩ := r'.get rv ho
              have hb := (r'.blk s.length List.mem_cons_self).1
              have hn : n < α'.length := (List.getElem?_eq_some_iff.mp ha).1
              have ht : (α'.take s.length).length = s.length := by rw [List.length_take, r'.len]; omega
              have hE : Ext0 g.K (α'.take s.length) (α'.take s.length ++ [a]) H' H' := ⟨fun m b hm => by rw [List.getElem?_append_left (List.getElem?_eq_some_iff.mp hm).1]; exact hm, fun _ _ h => h, fun _ _ h => h⟩
              have hF : Ext g.K α (α'.take s.length ++ [a]) H H' := ⟨⟨fun m b hm => hE.pre m b ((e.cut l).pre m b hm), e.tup, e.frl⟩, fun b o hb ht hn => ⟨(e.off b o hb ht hn).1, fun q => (e.off b o hb ht hn).2 (by
                rcases List.mem_append.mp q with q | q
                · exact List.mem_of_mem_take q
                · rw [List.mem_singleton.mp q]; exact List.mem_of_getElem? ha)⟩, e.frz⟩
              have nin : a ∉ α'.take s.length := fun hm => by
                obtain ⟨m, hm1, hm2⟩ := List.mem_iff_getElem.mp hm
                rw [List.getElem_take] at hm2
                rw [ht] at hm1
                have e2 := List.getElem?_eq_some_iff.mp ha
                obtain ⟨i2, e2⟩ := e2
                have := (List.getElem_inj r'.nd).mp (hm2.trans e2.symm)
                omega
              have rf := r'.fin
              have lt : (t.take s.length).length = s.length := by rw [List.length_take]; omega
              refine h (α'.take s.length ++ [a]) H' (.ref a) hF ⟨by simp [ht, lt], ?_, fun m b o hm ho' => ?_, fun c hc => ?_, rf.tabs, rf.ord⟩ (.ref ?_)
              · refine List.nodup_append.mpr ⟨rf.nd, by simp, fun x hx y hy z => ?_⟩
                have e1 : y = a := by simpa using hy
                subst e1
                subst z
                exact nin hx
              · by_cases hms : m < s.length
                · rw [List.getElem?_append_left (by omega)] at hm ho'
                  exact (rf.obj m b o hm ho').ext0 hE rfl
                · have hme : m = s.length := by
                    have := (List.getElem?_eq_some_iff.mp ho').1
                    simp [lt] at this
                    omega
                  subst hme
                  rw [List.getElem?_append_right (by omega)] at hm ho'
                  simp [ht] at hm
                  simp [lt] at ho'
                  subst hm ho'
                  have hy' : (O.lst ds).yg s.length = false := by simpa [O.yg] using hy
                  exact (ro.cut hy').ext0 hE rfl
              · obtain ⟨h1, h2⟩ := rf.blk c hc
                refine ⟨by simp; omega, fun m o hm ho' => ?_⟩
                rw [List.getElem?_append_left (by omega)] at ho'
                exact h2 m o hm ho'
              · rw [List.getElem?_append_right (by omega), ht]
                simp
          · exact h α' H' v e r'.drop rv
    all_goals exact PRes.fin r h
  | exc c t => exact PRes.fin r h
  | fail => exact h.elim
theorem se_gcF (h : PE X e (tE g E k ra)) : PE X e (tE g E k (gcF ra)) :=
  PE.imp h fun σ H Q ⟨B, α, ρ, s, hR, hE, q⟩ => ⟨s.length :: B, α, ρ, s, hR.push, hE, PRes.finF hR q⟩

/-! ### truth -/
theorem tru_ok' {B : List Nat} {α : List Addr} {H : Hp} {s : S} {v : V} {d : D} {z : Bool} (hR : R g B α H s) (r : RV g.K α H v d) (h : tru s d = some z) : TruV g.K v H z := by
  cases r with
  | non => exact (Option.some.inj h).symm
  | bl b => exact (Option.some.inj h).symm
  | int i => exact (Option.some.inj h).symm
  | str x =>
    simp only [tru] at h
    split at h
    · rename_i hl
      cases h
      exact ⟨by rw [sizeLine_eq]; exact hl, by rw [Bool.eq_iff_iff]; simp⟩
    · cases h
  | @tup a xs ds h1 h2 =>
    obtain rfl := Option.some.inj h
    exact .inr (.inl ⟨xs, h1, by cases h2 <;> rfl⟩)
  | @frl a xs ds h1 h2 =>
    obtain rfl := Option.some.inj h
    exact .inl ⟨xs, h1.sq, by cases h2 <;> rfl⟩
  | @ref a n h1 =>
    simp only [tru] at h
    split at h
    · rename_i ds ho
      cases h
      obtain ⟨a', e, ha, ro⟩ := hR.get (.ref h1) ho
      cases e
      cases ro with
      | lst h3 h4 => exact .inl ⟨_, .of h3, by cases h4 <;> rfl⟩
    · rename_i ds ho
      cases h
      obtain ⟨a', e, ha, ro⟩ := hR.get (.ref h1) ho
      cases e
      cases ro with
      | dct h3 h4 => exact .inr (.inr ⟨_, h3, by cases h4 <;> rfl⟩)
    · cases h
theorem tst {B : List Nat} {α : List Addr} {H : Hp} {r : Res} {Q : Bool → Hp → Prop} (h : PTst g E B α H r Q) : PRes g E B α H r fun v H1 => ∃ z, TruV g.K v H1 z ∧ Q z H1 := by
  cases r with
  | ok d s =>
    obtain ⟨b, h1, h2⟩ := h
    exact fun α' H' v e r rv => ⟨b, tru_ok' r rv h1, h2 α' H' e r⟩
  | exc c s => exact h
  | fail => exact h
/-- any expression as a test, by its value -/
theorem st_plain (hK : X.K = g.K) (ha : PE X a (tE g E k ra)) (he : ∀ whole, isTrue a X.env whole = (do let v ← whole; standAt a.pos; holding [v] (truthy v))) : PT X a (tT g E k ra) :=
  PT.imp (pt_truth ha he) fun σ H Q ⟨B, α, ρ, s, hR, hE, h⟩ => ⟨B, α, ρ, s, hR, hE, (tst h).imp fun v H1 ⟨z, h1, h2⟩ => ⟨z, by rw [hK]; exact h1, h2⟩⟩
theorem PTst.ext {B : List Nat} {α α' : List Addr} {H H' : Hp} : ∀ {r : Res} {Q : Bool → Hp → Prop}, PTst g E B α H r Q → Ext g.K α α' H H' → PTst g E B α' H' r Q
  | .ok _ _, _, ⟨b, h1, h2⟩, e => ⟨b, h1, fun a h' e' r => h2 a h' (e.trans e') r⟩
  | .exc _ _, _, h, e => PExc.ext h e
  | .fail, _, h, _ => h
/-- what a test is followed by -/
theorem tst_bnd {B : List Nat} {α : List Addr} {H : Hp} {f : Bool → S → Res} : ∀ {r : Res} {Q : VK}, PRes g E B α H (r.tst f) Q → PTst g E B α H r fun z H1 => ∃ α1 s, Ext g.K α α1 H H1 ∧ R g B α1 H1 s ∧ PRes g E B α1 H1 (f z s) Q
  | .ok d s, Q, h => by
    simp only [Res.tst] at h
    split at h
    · rename_i b hb
      exact ⟨b, hb, fun α' H' e r => ⟨α', s, e, r, h.ext e⟩⟩
    · exact h.elim
  | .exc _ _, _, h => h
  | .fail, _, h => h
theorem tst_bndS {B : List Nat} {α : List Addr} {H : Hp} {f : Bool → S → Out} : ∀ {r : Res} {Q : Ends}, POut g E B α H (r.tstS f) Q → PTst g E B α H r fun z H1 => ∃ α1 s, Ext g.K α α1 H H1 ∧ R g B α1 H1 s ∧ POut g E B α1 H1 (f z s) Q
  | .ok d s, Q, h => by
    simp only [Res.tstS] at h
    split at h
    · rename_i b hb
      exact ⟨b, hb, fun α' H' e r => ⟨α', s, e, r, h.ext e⟩⟩
    · exact h.elim
  | .exc _ _, _, h => h
  | .fail, _, h => h
/-- a comparison as a test -/
theorem st_bl {t : TE} (hp : PT X e (tTest t)) (ht : ∀ σ H Q, tE g E k ra σ H Q → t σ H Q) (hb : ∀ c ρ s d s', ra c ρ s = .ok d s' → ∃ z, d = .bl z) : PT X e (tT g E k ra) :=
  PT.imp hp fun σ H Q ⟨B, α, ρ, s, hR, hE, h⟩ => ht σ H _ ⟨B, α, ρ, s, hR, hE, by
    cases hz : ra ⟨k, B⟩ ρ s with
    | ok d s' =>
      rw [hz] at h
      obtain ⟨z, e⟩ := hb _ _ _ _ _ hz
      subst e
      obtain ⟨b, h1, h2⟩ := h
      have e1 : z = b := by simpa [tru] using h1
      subst e1
      intro α' H' v e r rv
      cases rv
      exact ⟨z, rfl, h2 α' H' e r⟩
    | exc c s' => rw [hz] at h; exact h
    | fail => rw [hz] at h; exact h⟩
end
end Ev

set_option maxRecDepth 10000
namespace Ev
open PySem L2

section
variable {X : Cx} {g : G} {E : XK} {k : Nat → List Nat → List D → S → Res} {e a b c : Expr} {ra rb rc : ES} {es : List Expr} {as : AS} {pos : Pos} {rest : List Expr}

/-! ### not, and, or, if-else -/
theorem se_neg (ha : PE X a (tE g E k ra)) : PE X (.UnaryOp .USub a pos) (tE g E k (eUn uNeg ra)) :=
  PE.imp (pe_un un_neg ha) fun σ H Q h => by
    obtain ⟨B, α, ρ, s, hR, hE, h⟩ := one (op := fun _ => uNeg) h
    refine ⟨B, α, ρ, s, hR, hE, h.imp fun v H1 ⟨B', α1, s1, d, R1, r1, h1⟩ => ?_⟩
    cases d <;> try exact (show False from h1).elim
    cases r1
    exact ⟨_, rfl, h1 α1 H1 _ .refl R1 (.int _)⟩
theorem tstB {B : List Nat} {α : List Addr} {H : Hp} {r : Res} {Q : VK} {f : D → S → Bool → Res} (h : PRes g E B α H (r.bnd fun x s => match tru s x with | some z => f x s z | none => .fail) Q) :
    PRes g E B α H r fun v H1 => ∃ z α1 d s, TruV g.K v H1 z ∧ Ext g.K α α1 H H1 ∧ R g B α1 H1 s ∧ RV g.K α1 H1 v d ∧ PRes g E B α1 H1 (f d s z) Q :=
  (PRes.bnd h).imp fun v H1 ⟨α1, d, s1, e1, R1, r1, h1⟩ => by
    split at h1
    · rename_i z hz
      exact ⟨z, α1, d, s1, tru_ok' R1 r1 hz, e1, R1, r1, h1⟩
    · exact h1.elim
theorem se_not (hK : X.K = g.K) (ha : PE X a (tE g E k ra)) : PE X (.UnaryOp .Not a pos) (tE g E k (eNot ra)) :=
  PE.imp (pe_notT ha) fun σ H Q ⟨B, α, ρ, s, hR, hE, h⟩ => by
    refine ⟨B, α, ρ, s, hR, hE, (tst (tst_bnd h)).imp fun v H1 ⟨z, h1, α1, s1, e1, R1, h2⟩ => ⟨z, by rw [hK]; exact h1, h2 α1 H1 _ .refl R1 (.bl _)⟩⟩
theorem st_not (ha : PT X a (tT g E k ra)) : PT X (.UnaryOp .Not a pos) (tT g E k (eNot ra)) :=
  PT.imp (pt_not ha) fun σ H Q ⟨B, α, ρ, s, hR, hE, h⟩ => by
    refine ⟨B, α, ρ, s, hR, hE, ?_⟩
    simp only [eNot] at h
    cases hz : ra ⟨k, B⟩ ρ s with
    | ok d s' =>
      rw [hz] at h
      simp only [Res.tst] at h
      split at h
      · rename_i z hz2
        obtain ⟨b, h1, h2⟩ := h
        have e1 : (!z) = b := by simpa [tru] using h1
        subst e1
        exact ⟨z, hz2, h2⟩
      · exact h.elim
    | exc c t => rw [hz] at h; exact h
    | fail => rw [hz] at h; exact h
theorem se_and (hK : X.K = g.K) (ha : PE X a (tE g E k ra)) (hb : PE X (.BoolOp .And (b :: rest) pos) (tE g E k rb)) : PE X (.BoolOp .And (a :: b :: rest) pos) (tE g E k (eAnd ra rb)) :=
  PE.imp (pe_andT ha hb) fun σ H Q ⟨B, α, ρ, s, hR, hE, h⟩ => by
    have h' : PRes g E B α H ((ra ⟨k, B⟩ ρ s).bnd fun x s => match tru s x with | some z => (if z = true then rb ⟨k, B⟩ ρ s else .ok x s) | none => .fail) Q := by
      have e : (fun x s => match tru s x with | some true => rb ⟨k, B⟩ ρ s | some false => Res.ok x s | none => .fail) = fun x s => match tru s x with | some z => (if z = true then rb ⟨k, B⟩ ρ s else .ok x s) | none => .fail := by
        funext x t
        cases tru t x with
        | none => rfl
        | some z => cases z <;> rfl
      rw [← e]
      exact h
    refine ⟨B, α, ρ, s, hR, hE, (tstB (f := fun x s z => if z = true then rb ⟨k, B⟩ ρ s else .ok x s) h').imp fun v H1 ⟨z, α1, d, s1, hz, e1, R1, r1, h1⟩ => ⟨z, by rw [hK]; exact hz, ?_⟩⟩
    cases z with
    | true => exact ⟨B, α1, ρ, s1, R1, hE.ext e1, h1⟩
    | false => exact h1 α1 H1 v .refl R1 r1
theorem se_or (hK : X.K = g.K) (ha : PE X a (tE g E k ra)) (hb : PE X (.BoolOp .Or (b :: rest) pos) (tE g E k rb)) : PE X (.BoolOp .Or (a :: b :: rest) pos) (tE g E k (eOr ra rb)) :=
  PE.imp (pe_orT ha hb) fun σ H Q ⟨B, α, ρ, s, hR, hE, h⟩ => by
    have h' : PRes g E B α H ((ra ⟨k, B⟩ ρ s).bnd fun x s => match tru s x with | some z => (if z = true then .ok x s else rb ⟨k, B⟩ ρ s) | none => .fail) Q := by
      have e : (fun x s => match tru s x with | some false => rb ⟨k, B⟩ ρ s | some true => Res.ok x s | none => .fail) = fun x s => match tru s x with | some z => (if z = true then .ok x s else rb ⟨k, B⟩ ρ s) | none => .fail := by
        funext x t
        cases tru t x with
        | none => rfl
        | some z => cases z <;> rfl
      rw [← e]
      exact h
    refine ⟨B, α, ρ, s, hR, hE, (tstB (f := fun x s z => if z = true then .ok x s else rb ⟨k, B⟩ ρ s) h').imp fun v H1 ⟨z, α1, d, s1, hz, e1, R1, r1, h1⟩ => ⟨z, by rw [hK]; exact hz, ?_⟩⟩
    cases z with
    | false => exact ⟨B, α1, ρ, s1, R1, hE.ext e1, h1⟩
    | true => exact h1 α1 H1 v .refl R1 r1
/-- .. as tests -/
theorem PTst.imp {B : List Nat} {α : List Addr} {H : Hp} : ∀ {r : Res} {Q Q' : Bool → Hp → Prop}, PTst g E B α H r Q → (∀ v H', Q v H' → Q' v H') → PTst g E B α H r Q'
  | .ok _ _, _, _, ⟨b, h1, h2⟩, i => ⟨b, h1, fun a h' e r => i b h' (h2 a h' e r)⟩
  | .exc _ _, _, _, h, _ => h
  | .fail, _, _, h, _ => h
theorem and_tst {B : List Nat} {α : List Addr} {H : Hp} {ρ : Env} {s : S} {Q : Bool → Hp → Prop} (hE : RE g.K α H σ ρ) (h : PTst g E B α H (eAnd ra rb ⟨k, B⟩ ρ s) Q) :
    PTst g E B α H (ra ⟨k, B⟩ ρ s) fun z H1 => if z = true then tT g E k rb σ H1 Q else Q false H1 := by
  simp only [eAnd] at h
  cases hz : ra ⟨k, B⟩ ρ s with
  | ok d t =>
    rw [hz] at h
    simp only [Res.bnd] at h
    split at h
    · rename_i q
      exact ⟨true, q, fun α' H' e r => ⟨B, α', ρ, t, r, hE.ext e, h.ext e⟩⟩
    · rename_i q
      obtain ⟨b, h1, h2⟩ := h
      rw [q] at h1
      cases h1
      exact ⟨false, q, h2⟩
    · exact h.elim
  | exc c t => rw [hz] at h; exact h
  | fail => rw [hz] at h; exact h
theorem or_tst {B : List Nat} {α : List Addr} {H : Hp} {ρ : Env} {s : S} {Q : Bool → Hp → Prop} (hE : RE g.K α H σ ρ) (h : PTst g E B α H (eOr ra rb ⟨k, B⟩ ρ s) Q) :
    PTst g E B α H (ra ⟨k, B⟩ ρ s) fun z H1 => if z = true then Q true H1 else tT g E k rb σ H1 Q := by
  simp only [eOr] at h
  cases hz : ra ⟨k, B⟩ ρ s with
  | ok d t =>
    rw [hz] at h
    simp only [Res.bnd] at h
    split at h
    · rename_i q
      exact ⟨false, q, fun α' H' e r => ⟨B, α', ρ, t, r, hE.ext e, h.ext e⟩⟩
    · rename_i q
      obtain ⟨b, h1, h2⟩ := h
      rw [q] at h1
      cases h1
      exact ⟨true, q, h2⟩
    · exact h.elim
  | exc c t => rw [hz] at h; exact h
  | fail => rw [hz] at h; exact h
theorem PW.imp {t t' : TT} (h : PW X e t) (i : ∀ σ H Q, t' σ H Q → t σ H Q) : PW X e t' := ⟨fun w pins s σ H Q I q => h.run w pins s σ H Q I (i σ H Q q)⟩
theorem sw_and (ha : PT X a (tT g E k ra)) (hb : PW X (.BoolOp .And (b :: rest) pos) (tT g E k rb)) : PW X (.BoolOp .And (a :: b :: rest) pos) (tT g E k (eAnd ra rb)) :=
  PW.imp (pw_and ha hb) fun σ H Q ⟨B, α, ρ, s, hR, hE, h⟩ => ⟨B, α, ρ, s, hR, hE, and_tst hE h⟩
theorem sw_or (ha : PT X a (tT g E k ra)) (hb : PW X (.BoolOp .Or (b :: rest) pos) (tT g E k rb)) : PW X (.BoolOp .Or (a :: b :: rest) pos) (tT g E k (eOr ra rb)) :=
  PW.imp (pw_or ha hb) fun σ H Q ⟨B, α, ρ, s, hR, hE, h⟩ => ⟨B, α, ρ, s, hR, hE, or_tst hE h⟩
theorem sw_and1 (ha : PT X a (tT g E k ra)) : PW X (.BoolOp .And [a] pos) (tT g E k ra) := pw_and1 ha
theorem sw_or1 (ha : PT X a (tT g E k ra)) : PW X (.BoolOp .Or [a] pos) (tT g E k ra) := pw_or1 ha
theorem se_if (hc : PT X c (tT g E k rc)) (ha : PE X a (tE g E k ra)) (hb : PE X b (tE g E k rb)) : PE X (.IfExp c a b pos) (tE g E k (eIf rc ra rb)) :=
  PE.imp (pe_ifExp hc ha hb) fun σ H Q ⟨B, α, ρ, s, hR, hE, h⟩ => by
    refine ⟨B, α, ρ, s, hR, hE, (tst_bnd h).imp fun z H1 ⟨α1, s1, e1, R1, h1⟩ => ?_⟩
    cases z with
    | true => exact ⟨B, α1, ρ, s1, R1, hE.ext e1, h1⟩
    | false => exact ⟨B, α1, ρ, s1, R1, hE.ext e1, h1⟩
def tIfT (t a b : TT) : TT := fun σ H Q => t σ H fun z H1 => if z = true then a σ H1 Q else b σ H1 Q
theorem pt_ifExp {tc ta tb : TT} (hc : PT X c tc) (ha : PT X a ta) (hb : PT X b tb) : PT X (.IfExp c a b pos) (tIfT tc ta tb) := by
  refine ⟨fun pins s σ H Q I h => ?_⟩
  show wpAny _ _ (do if ← isTrue c X.env (eval c X.env) then isTrue a X.env (eval a X.env) else isTrue b X.env (eval b X.env)) _ _ _
  refine wpAny_bind (thn (hc.run pins s σ H _ I h) fun z s1 ⟨H1, I1, q1⟩ => ?_)
  cases z with
  | true => exact ha.run pins s1 σ H1 Q I1 q1
  | false => exact hb.run pins s1 σ H1 Q I1 q1
theorem st_if (hc : PT X c (tT g E k rc)) (ha : PT X a (tT g E k ra)) (hb : PT X b (tT g E k rb)) : PT X (.IfExp c a b pos) (tT g E k (eIf rc ra rb)) :=
  PT.imp (pt_ifExp hc ha hb) fun σ H Q ⟨B, α, ρ, s, hR, hE, h⟩ => by
    refine ⟨B, α, ρ, s, hR, hE, ?_⟩
    simp only [eIf] at h
    cases hz : rc ⟨k, B⟩ ρ s with
    | ok d t =>
      rw [hz] at h
      simp only [Res.tst] at h
      split at h
      · rename_i z q
        refine ⟨z, q, fun α' H' e r => ?_⟩
        cases z with
        | true => exact ⟨B, α', ρ, t, r, hE.ext e, h.ext e⟩
        | false => exact ⟨B, α', ρ, t, r, hE.ext e, h.ext e⟩
      · exact h.elim
    | exc c t => rw [hz] at h; exact h
    | fail => rw [hz] at h; exact h

/-! ### comparisons as tests; chains -/
theorem st_cmp {o : CmpOp} {op : D → D → S → Res} (ho : OpD X g E (compareOp o) fun _ => op) (ha : PE X a (tE g E k ra)) (hb : PE X b (tE g E k rb)) (hm : behindInMarks o b = false) (hop : ∀ x y s d s', op x y s = .ok d s' → ∃ z, d = .bl z) :
    PT X (.Compare a [o] [b] pos) (tT g E k (eOp op ra rb)) :=
  st_bl (pt_cmpR ho ha hb hm) (fun σ H Q h => two (op := fun _ => op) h) fun c ρ s d s' h => by
    simp only [eOp] at h
    cases h1 : ra c ρ s with
    | ok x s1 =>
      rw [h1] at h
      simp only [Res.bnd] at h
      cases h2 : rb c ρ s1 with
      | ok y s2 => rw [h2] at h; exact hop _ _ _ _ _ h
      | exc _ _ => rw [h2] at h; cases h
      | fail => rw [h2] at h; cases h
    | exc _ _ => rw [h1] at h; cases h
    | fail => rw [h1] at h; cases h
theorem chain {σ : L2.St} {H : Hp} {Q : VK} {f f' : D → D → S → Res} (hop : ∀ x y s d s', f x y s = .ok d s' → ∃ z, d = .bl z) (h : tE g E k (eChain f f' ra rb rc) σ H Q) :
    tE g E k ra σ H fun x H1 => tE g E k rb σ H1 fun y H2 => ∃ B α s d1 d2, R g B α H2 s ∧ RV g.K α H2 x d1 ∧ RV g.K α H2 y d2 ∧ PRes g E B α H2 (f d1 d2 s) fun kv H3 => ∃ z, kv = .bl z ∧
      if z = true then tE g E k rc σ H3 (fun w H4 => ∃ B α s d1 d2, R g B α H4 s ∧ RV g.K α H4 y d1 ∧ RV g.K α H4 w d2 ∧ PRes g E B α H4 (f' d1 d2 s) Q) else Q (.bl false) H3 := by
  obtain ⟨B, α, ρ, s, hR, hE, h⟩ := h
  refine ⟨B, α, ρ, s, hR, hE, (PRes.bnd h).imp fun v H1 ⟨α1, d1, s1, e1, R1, r1, h1⟩ => ?_⟩
  refine ⟨B, α1, ρ, s1, R1, hE.ext e1, (PRes.bnd h1).imp fun w H2 ⟨α2, d2, s2, e2, R2, r2, h2⟩ => ?_⟩
  refine ⟨B, α2, s2, d1, d2, R2, r1.ext e2, r2, ?_⟩
  cases hz : f d1 d2 s2 with
  | ok d t =>
    rw [hz] at h2
    obtain ⟨z, ez⟩ := hop _ _ _ _ _ hz
    subst ez
    intro α3 H3 kv e3 R3 r3
    cases r3
    refine ⟨z, rfl, ?_⟩
    cases z with
    | true =>
      have h3 : PRes g E B α2 H2 ((rc ⟨k, B⟩ ρ t).bnd fun d s => f' d2 d s) Q := h2
      exact ⟨B, α3, ρ, t, R3, hE.ext (e1.trans (e2.trans e3)), (PRes.bnd (h3.ext e3)).imp fun w H4 ⟨α4, d4, s4, e4, R4, r4, h4⟩ => ⟨B, α4, s4, d2, d4, R4, r2.ext (e3.trans e4), r4, h4⟩⟩
    | false => exact h2 α3 H3 _ e3 R3 (.bl _)
  | exc c t => rw [hz] at h2; exact h2
  | fail => rw [hz] at h2; exact h2
theorem se_chain {o o' : CmpOp} {f f' : D → D → S → Res} (ho : OpD X g E (compareOp o) fun _ => f) (ho' : OpD X g E (compareOp o') fun _ => f') (ha : PE X a (tE g E k ra)) (hb : PE X b (tE g E k rb)) (hc : PE X c (tE g E k rc))
    (hm : lastMarks [o, o'] [b, c] = false) (hop : ∀ x y s d s', f x y s = .ok d s' → ∃ z, d = .bl z) : PE X (.Compare a [o, o'] [b, c] pos) (tE g E k (eChain f f' ra rb rc)) :=
  PE.imp (pe_chain ho ho' ha hb hc hm) fun σ H Q h => by
    obtain ⟨B, α, ρ, s, hR, hE, q⟩ := chain hop h
    exact ⟨B, α, ρ, s, hR, hE, q.imp fun x H1 ⟨B, α, ρ, s, hR, hE, q⟩ => ⟨B, α, ρ, s, hR, hE, q.imp fun y H2 ⟨B, α, s, d1, d2, R, r1, r2, q⟩ => ⟨B, α, s, d1, d2, R, r1, r2, q⟩⟩⟩
theorem st_chain {o o' : CmpOp} {f f' : D → D → S → Res} (ho : OpD X g E (compareOp o) fun _ => f) (ho' : OpD X g E (compareOp o') fun _ => f') (ha : PE X a (tE g E k ra)) (hb : PE X b (tE g E k rb)) (hc : PE X c (tE g E k rc))
    (hm : lastMarks [o, o'] [b, c] = false) (hop : ∀ x y s d s', f x y s = .ok d s' → ∃ z, d = .bl z) (hop' : ∀ x y s d s', f' x y s = .ok d s' → ∃ z, d = .bl z) : PT X (.Compare a [o, o'] [b, c] pos) (tT g E k (eChain f f' ra rb rc)) :=
  st_bl (pt_chain ho ho' ha hb hc hm) (fun σ H Q h => by
    obtain ⟨B, α, ρ, s, hR, hE, q⟩ := chain hop h
    exact ⟨B, α, ρ, s, hR, hE, q.imp fun x H1 ⟨B, α, ρ, s, hR, hE, q⟩ => ⟨B, α, ρ, s, hR, hE, q.imp fun y H2 ⟨B, α, s, d1, d2, R, r1, r2, q⟩ => ⟨B, α, s, d1, d2, R, r1, r2, q⟩⟩⟩) fun c ρ s d s' h => by
    simp only [eChain] at h
    cases h1 : ra c ρ s with
    | ok x s1 =>
      rw [h1] at h
      simp only [Res.bnd] at h
      cases h2 : rb c ρ s1 with
      | ok y s2 =>
        rw [h2] at h
        simp only [] at h
        cases h3 : f x y s2 with
        | ok z s3 =>
          rw [h3] at h
          obtain ⟨z', ez⟩ := hop _ _ _ _ _ h3
          subst ez
          cases z' with
          | true =>
            simp only [] at h
            cases h4 : rc c ρ s3 with
            | ok w s4 => rw [h4] at h; exact hop' _ _ _ _ _ h
            | exc _ _ => rw [h4] at h; cases h
            | fail => rw [h4] at h; cases h
          | false =>
            cases h
            exact ⟨_, rfl⟩
        | exc _ _ => rw [h3] at h; cases h
        | fail => rw [h3] at h; cases h
      | exc _ _ => rw [h2] at h; cases h
      | fail => rw [h2] at h; cases h
    | exc _ _ => rw [h1] at h; cases h
    | fail => rw [h1] at h; cases h
/-- what the comparisons give -/
theorem bl_int {f : Int → Int → Bool} {op : D → D → S → Res} (h : ∀ x y s, (∃ i j, x = .int i ∧ y = .int j ∧ op x y s = .ok (.bl (f i j)) s) ∨ op x y s = .fail) : ∀ x y s d s', op x y s = .ok d s' → ∃ z, d = .bl z := fun x y s d s' e => by
  rcases h x y s with ⟨i, j, _, _, h⟩ | h
  · rw [h] at e
    cases e
    exact ⟨_, rfl⟩
  · rw [h] at e; cases e
theorem bl_lt : ∀ x y s d s', cLt x y s = .ok d s' → ∃ z, d = .bl z := fun x y s d s' e => by cases x <;> cases y <;> first | (cases e; done) | (cases e; exact ⟨_, rfl⟩)
theorem bl_le : ∀ x y s d s', cLe x y s = .ok d s' → ∃ z, d = .bl z := fun x y s d s' e => by cases x <;> cases y <;> first | (cases e; done) | (cases e; exact ⟨_, rfl⟩)
theorem bl_gt : ∀ x y s d s', cGt x y s = .ok d s' → ∃ z, d = .bl z := fun x y s d s' e => by cases x <;> cases y <;> first | (cases e; done) | (cases e; exact ⟨_, rfl⟩)
theorem bl_ge : ∀ x y s d s', cGe x y s = .ok d s' → ∃ z, d = .bl z := fun x y s d s' e => by cases x <;> cases y <;> first | (cases e; done) | (cases e; exact ⟨_, rfl⟩)
theorem bl_of {o : Option Bool} : ∀ {s : S} {d s'}, ofB o s = .ok d s' → ∃ z, d = .bl z := fun {s d s'} e => by
  cases o with
  | none => cases e
  | some z => cases e; exact ⟨_, rfl⟩
theorem bl_is : ∀ x y s d s', cIs x y s = .ok d s' → ∃ z, d = .bl z := fun x y s d s' e => by cases x <;> cases y <;> first | (cases e; done) | (cases e; exact ⟨_, rfl⟩)
theorem bl_isnot : ∀ x y s d s', cIsNot x y s = .ok d s' → ∃ z, d = .bl z := fun x y s d s' e => by cases x <;> cases y <;> first | (cases e; done) | (cases e; exact ⟨_, rfl⟩)
end
end Ev

set_option maxRecDepth 10000
namespace Ev
open PySem L2

section
variable {X : Cx} {g : G} {E : XK} {k : Nat → List Nat → List D → S → Res} {e a b c : Expr} {ra rb rc : ES} {es : List Expr} {as : AS} {pos : Pos} {rest : List Expr}

/-! ### in -/
theorem all_shp {n : Nat} {ds : List D} (h : ds.all (D.shp n) = true) : ∀ d ∈ ds, d.shp n = true := List.all_eq_true.mp h
theorem any_pd {x : D} (hx : x.shp 40 = true) : ∀ (ds : List D), (∀ d ∈ ds, d.shp 39 = true) → (D.pds ds).any (fun z => PyData.eqv z x.pd) = ds.any fun z => z.eqv x := by
  have up : ∀ d : D, d.shp 39 = true → d.shp 40 = true := fun d h => shp_up 39 d h
  intro ds
  induction ds with
  | nil => intro _; rfl
  | cons d r ih =>
    intro h
    rw [D.pds, List.any_cons, List.any_cons, ih fun z hz => h z (List.mem_cons_of_mem _ hz), eqv_pd 40 d x (up d (h d List.mem_cons_self)) hx]
where
  shp_up : ∀ (n : Nat) (d : D), d.shp n = true → d.shp (n + 1) = true := by
    intro n
    induction n with
    | zero => intro d h; cases d <;> first | (simp [D.shp] at h; done) | simp [D.shp] at h ⊢ <;> assumption
    | succ n ih =>
      intro d h
      cases d <;> first | (simp [D.shp] at h; done) | skip
      case tup ds =>
        have h' : ∀ z ∈ ds, z.shp n = true := by simpa [D.shp] using h
        have : ∀ z ∈ ds, z.shp (n + 1) = true := fun z hz => ih z (h' z hz)
        simpa [D.shp] using this
      all_goals simpa [D.shp] using h
/-- both membership operators, by what the container is -/
theorem in_core {Q : Bool → Prop} {B : List Nat} {α : List Addr} {H : Hp} {s : S} {x y : V} {d1 d2 : D} {z : Bool} (hR : R g B α H s) (r1 : RV g.K α H x d1) (r2 : RV g.K α H y d2) (h : inD d1 d2 s = some z)
    (hl : ∀ p ds, Dp g.K H x p → Dp g.K H y (.list ds) → SeqAt.shaped p = true → SeqAt.shaped (.list ds) = true → z = (ds.any fun q => PyData.eqv q p) → Q z)
    (ht : ∀ p ds, Dp g.K H x p → Dp g.K H y (.tuple ds) → SeqAt.shaped p = true → SeqAt.shaped (.tuple ds) = true → z = (ds.any fun q => PyData.eqv q p) → Q z) : Q z := by
  have sh : ∀ {ds : List D}, ds.all (D.shp 39) = true → SeqAt.shaped (.tuple (D.pds ds)) = true ∧ SeqAt.shaped (.list (D.pds ds)) = true := fun {ds} h => by
    have h1 : (D.tup ds).shp 40 = true := by simpa [D.shp] using h
    have h2 := shp_shaped (n := 40) (by decide) h1
    rw [D.pd] at h2
    refine ⟨h2, ?_⟩
    unfold SeqAt.shaped at h2 ⊢
    simpa [PyData.canLay0, PyData.depth] using h2
  cases r2 with
  | tup h1 h2 =>
    simp only [inD] at h
    split at h
    · rename_i hs
      rw [Bool.and_eq_true] at hs
      cases h
      exact ht _ _ (r1.dp hs.1) (.tup h1 (h2.dp (all_shp hs.2))) (shp_shaped (by decide) hs.1) (sh hs.2).1 (any_pd hs.1 _ (all_shp hs.2)).symm
    · cases h
  | frl h1 h2 =>
    simp only [inD] at h
    split at h
    · rename_i hs
      rw [Bool.and_eq_true] at hs
      cases h
      exact hl _ _ (r1.dp hs.1) (.lst h1.sq (h2.dp (all_shp hs.2))) (shp_shaped (by decide) hs.1) (sh hs.2).2 (any_pd hs.1 _ (all_shp hs.2)).symm
    · cases h
  | @ref a n h1 =>
    simp only [inD] at h
    split at h
    · rename_i ds hd
      split at h
      · rename_i hs
        rw [Bool.and_eq_true] at hs
        cases h
        obtain ⟨a', xs, ea, _, _, h3, h4⟩ := lst_of hR (.ref h1) hd
        cases ea
        exact hl _ _ (r1.dp hs.1) (.lst (.of h3) (h4.dp (all_shp hs.2))) (shp_shaped (by decide) hs.1) (sh hs.2).2 (any_pd hs.1 _ (all_shp hs.2)).symm
      · cases h
    · cases h
  | _ => simp [inD] at h
theorem room_tup {A : Around} {xs : List PyData} {d : PyData} (hd : SeqAt.shaped d = true) (hu : A.units + 65 < cLine) : A.units + 1 + min (PyData.depthAll xs) d.depth < cLine := by
  have := SeqAt.depth_of_shaped hd
  omega
theorem op_inT {K : PySem.W.Frag} (hK : X.K = K) (hu : X.A.units + 65 < cLine) : OpR X (compareOp .In) fun x y H Q => ∃ d ds, Dp K H x d ∧ Dp K H y (.tuple ds) ∧ SeqAt.shaped d = true ∧ SeqAt.shaped (.tuple ds) = true ∧ Q (.bl (ds.any fun z => PyData.eqv z d)) H := by
  intro pins s σ H x y v u Q I rx ry h
  obtain ⟨d, ds, hd, he, sd, se, q⟩ := h
  rw [← hK] at hd he
  obtain ⟨as, r1⟩ := Dp.reads I d x v hd rx
  obtain ⟨bs, r2⟩ := Dp.reads I (.tuple ds) y u he ry
  exact SeqAt.in_tuple_reads r2 r1 (SeqAt.canLay_of_shaped se) (SeqAt.canLay_of_shaped sd) (room_tup sd hu) ⟨.bl _, H, I, rfl, q⟩
theorem op_notInT {K : PySem.W.Frag} (hK : X.K = K) (hu : X.A.units + 65 < cLine) : OpR X (compareOp .NotIn) fun x y H Q => ∃ d ds, Dp K H x d ∧ Dp K H y (.tuple ds) ∧ SeqAt.shaped d = true ∧ SeqAt.shaped (.tuple ds) = true ∧ Q (.bl (!ds.any fun z => PyData.eqv z d)) H := by
  intro pins s σ H x y v u Q I rx ry h
  obtain ⟨d, ds, hd, he, sd, se, q⟩ := h
  rw [← hK] at hd he
  obtain ⟨as, r1⟩ := Dp.reads I d x v hd rx
  obtain ⟨bs, r2⟩ := Dp.reads I (.tuple ds) y u he ry
  exact SeqAt.notIn_tuple_reads r2 r1 (SeqAt.canLay_of_shaped se) (SeqAt.canLay_of_shaped sd) (room_tup sd hu) ⟨.bl _, H, I, rfl, q⟩
theorem opd_in (hK : X.K = g.K) (hu : X.A.units + 65 < cLine) : OpD X g E (compareOp .In) fun _ => cIn := by
  intro pins s σ H x y v u Q I rx ry ⟨B, α, t, d1, d2, hR, r1, r2, q⟩
  simp only [cIn] at q
  cases h : inD d1 d2 t with
  | none => rw [h] at q; exact q.elim
  | some z =>
    rw [h] at q
    have q' : Q (.bl z) H := q α H _ .refl hR (.bl _)
    refine in_core (Q := fun z => Q (.bl z) H → wpAny (model X.prog X.w) X.A (compareOp .In v u) (EP X pins σ Q) X.xe s) hR r1 r2 h (fun p ds h1 h2 h3 h4 e q => ?_) (fun p ds h1 h2 h3 h4 e q => ?_) q'
    · subst e
      exact op_inD hu pins s σ H _ _ v u Q I rx ry ⟨p, ds, by rw [hK]; exact h1, by rw [hK]; exact h2, h3, h4, q⟩
    · subst e
      exact op_inT hK hu pins s σ H _ _ v u Q I rx ry ⟨p, ds, h1, h2, h3, h4, q⟩
theorem opd_notin (hK : X.K = g.K) (hu : X.A.units + 65 < cLine) : OpD X g E (compareOp .NotIn) fun _ => cNotIn := by
  intro pins s σ H x y v u Q I rx ry ⟨B, α, t, d1, d2, hR, r1, r2, q⟩
  simp only [cNotIn] at q
  cases h : inD d1 d2 t with
  | none => rw [h] at q; exact q.elim
  | some z =>
    rw [h] at q
    have q' : Q (.bl (!z)) H := q α H _ .refl hR (.bl _)
    refine in_core (Q := fun z => Q (.bl (!z)) H → wpAny (model X.prog X.w) X.A (compareOp .NotIn v u) (EP X pins σ Q) X.xe s) hR r1 r2 h (fun p ds h1 h2 h3 h4 e q => ?_) (fun p ds h1 h2 h3 h4 e q => ?_) q'
    · subst e
      exact op_notInD hu pins s σ H _ _ v u Q I rx ry ⟨p, ds, by rw [hK]; exact h1, by rw [hK]; exact h2, h3, h4, q⟩
    · subst e
      exact op_notInT hK hu pins s σ H _ _ v u Q I rx ry ⟨p, ds, h1, h2, h3, h4, q⟩

/-! ### subscripts -/
theorem atI_rv {K : PySem.W.Frag} {α : List Addr} {H : Hp} {xs : List V} {ds : List D} {i : Int} {d : D} (r : RVs K α H xs ds) (h : atI ds i = some d) : ∃ v, atI xs i = some v ∧ RV K α H v d := by
  unfold atI at h ⊢
  rw [r.length]
  cases hj : ixN ds.length i with
  | none => rw [hj] at h; cases h
  | some j =>
    rw [hj] at h
    exact r.get h
theorem ixL_ok {B : List Nat} {α : List Addr} {H : Hp} {s : S} {Q : VK} {xs : List V} {ds : List D} {i : Int} (hR : R g B α H s) (r : RVs g.K α H xs ds) (h : PRes g E B α H (ixL ds i s) Q) : ∃ v, atI xs i = some v ∧ Q v H := by
  simp only [ixL] at h
  cases hd : atI ds i with
  | none => rw [hd] at h; exact h.elim
  | some d =>
    obtain ⟨v, h1, h2⟩ := atI_rv r hd
    rw [hd] at h
    refine ⟨v, h1, ?_⟩
    cases d <;> first | exact (show False from h).elim | exact h α H v .refl hR h2
theorem se_ixL (hK : X.K = g.K) (ha : PE X a (tE g E k ra)) (hb : PE X b (tE g E k rb)) (hs : PlainIx b) : PE X (.Subscript a b pos) (tE g E k (eOp bIxL ra rb)) :=
  PE.imp (pe_ix ix_seq ha hb hs) fun σ H Q h => by
    obtain ⟨B, α, ρ, s, hR, hE, q⟩ := two (op := fun _ => bIxL) h
    refine ⟨B, α, ρ, s, hR, hE, q.imp fun x H1 ⟨B', α', ρ', s', hR', hE', q'⟩ => ⟨B', α', ρ', s', hR', hE', q'.imp fun y H2 ⟨B2, α2, s2, d1, d2, R1, r1, r2, q2⟩ => ?_⟩⟩
    clear q' q h
    cases d2 <;> try (cases d1 <;> exact (show False from q2).elim)
    cases r2
    cases d1 <;> try exact (show False from q2).elim
    case int.str z =>
      cases r1
      simp only [bIxL] at q2
      split at q2
      · rename_i hl
        split at q2
        · rename_i c hc
          exact .inr (.inr ⟨_, _, c, rfl, rfl, by rw [sizeLine_eq]; exact hl, hc, q2 α2 H2 _ .refl R1 (.str _)⟩)
        · exact q2.elim
      · exact q2.elim
    case int.tup ds =>
      cases r1 with
      | tup h1 h2 =>
        obtain ⟨v, e1, e2⟩ := ixL_ok R1 h2 q2
        exact .inr (.inl ⟨_, _, _, v, rfl, rfl, by rw [hK]; exact h1, e1, e2⟩)
    case int.frl ds =>
      cases r1 with
      | frl h1 h2 =>
        obtain ⟨v, e1, e2⟩ := ixL_ok R1 h2 q2
        exact .inl ⟨_, _, _, v, rfl, rfl, by rw [hK]; exact h1.sq, e1, e2⟩
    case int.ref n =>
      simp only [bIxL] at q2
      split at q2
      · rename_i ds hd
        obtain ⟨p, xs, rfl, _, _, h3, h4⟩ := lst_of R1 r1 hd
        obtain ⟨v, e1, e2⟩ := ixL_ok R1 h4 q2
        exact .inl ⟨_, _, _, v, rfl, rfl, .of h3, e1, e2⟩
      · exact q2.elim
/-! .. of dicts -/
theorem keq_kD (a b : Key) : keq (kD a) (kD b) = decide (a = b) := by
  cases a <;> cases b <;> simp [kD, keq]
theorem key_of {K : PySem.W.Frag} {α : List Addr} {H : Hp} {y : V} {d : D} (r : RV K α H y d) (h : isKey d = true) : ∃ k, y = kV k ∧ d = kD k := by
  cases r <;> first | exact ⟨.inl _, rfl, rfl⟩ | exact ⟨.inr _, rfl, rfl⟩ | cases h
theorem RKs.find {K : PySem.W.Frag} {α : List Addr} {H : Hp} (k : Key) : ∀ {xs : List (Key × V)} {kvs : List (D × D)}, RKs K α H xs kvs → (∀ d, dget kvs (kD k) = some d → ∃ v, valV xs k = some v ∧ RV K α H v d) ∧ (dget kvs (kD k) = none → valV xs k = none)
  | _, _, .nil => ⟨fun d h => (by cases h), fun _ => rfl⟩
  | _, _, .cons (k := j) (v := v) (d := d) r t => by
    have ih := RKs.find k t
    unfold dget at ih ⊢
    rw [List.find?_cons]
    dsimp only
    rw [keq_kD]
    by_cases e : j = k
    · rw [decide_eq_true e, valV_pos e]
      exact ⟨fun d h => by cases h; exact ⟨v, rfl, r⟩, fun h => by cases h⟩
    · rw [decide_eq_false e, valV_neg e]
      exact ih
theorem dct_of {B : List Nat} {α : List Addr} {H : Hp} {s : S} {v : V} {n : Nat} {kvs : List (D × D)} (hR : R g B α H s) (r : RV g.K α H v (.ref n)) (h : dctOf s n = some kvs) : ∃ a xs, v = .ref a ∧ α[n]? = some a ∧ Rd H a (.dK xs) ∧ RKs g.K α H xs kvs := by
  unfold dctOf at h
  split at h
  · rename_i ds ho
    cases h
    obtain ⟨a, e, ha, ro⟩ := hR.get r ho
    cases ro with
    | dct h3 h4 => exact ⟨a, _, e, ha, .inl h3, h4⟩
  · rename_i ds ho
    cases h
    obtain ⟨a, e, ha, ro⟩ := hR.get r ho
    cases ro with
    | dfz h3 h4 => exact ⟨a, _, e, ha, .inr ⟨_, h3⟩, h4⟩
  · cases h
theorem se_ixD (hu : X.A.units + 65 < cLine) (ha : PE X a (tE g E k ra)) (hb : PE X b (tE g E k rb)) (hs : PlainIx b) : PE X (.Subscript a b pos) (tE g E k (eOp bIxD ra rb)) :=
  PE.imp (pe_dget (by omega) ha hb hs) fun σ H Q h => by
    obtain ⟨B, α, ρ, s, hR, hE, q⟩ := two (op := fun _ => bIxD) h
    refine ⟨B, α, ρ, s, hR, hE, q.imp fun x H1 ⟨B', α', ρ', s', hR', hE', q'⟩ => ⟨B', α', ρ', s', hR', hE', q'.imp fun y H2 ⟨B2, α2, s2, d1, d2, R1, r1, r2, q2⟩ => ?_⟩⟩
    clear q' q h
    have key : ∀ n, d1 = .ref n → isKey d2 = true → PRes g E B2 α2 H2 (dixK s2 n d2) Q → ∃ a v, x = .ref a ∧ DGet H2 a y (some v) ∧ Q v H2 := by
      intro n e hk q
      subst e
      obtain ⟨ky, e1, e2⟩ := key_of r2 hk
      subst e1 e2
      unfold dixK at q
      split at q
      · rename_i kvs hd
        obtain ⟨p, xs, rfl, _, h3, h4⟩ := dct_of R1 r1 hd
        split at q
        · exact q.elim
        · rename_i d hu hg
          obtain ⟨v, e1, e2⟩ := (h4.find ky).1 _ hg
          exact ⟨p, v, rfl, .inl ⟨xs, ky, h3, rfl, e1.symm⟩, q α2 H2 v .refl R1 e2⟩
        · exact q.elim
      · exact q.elim
    cases d1 <;> try exact (show False from q2).elim
    case ref n =>
      cases d2 <;> try exact (show False from q2).elim
      case int i => exact key n rfl rfl q2
      case str z => exact key n rfl rfl q2
theorem PE.or {t1 t2 : TE} (h1 : PE X e t1) (h2 : PE X e t2) : PE X e fun σ H Q => t1 σ H Q ∨ t2 σ H Q := ⟨fun pins s σ H Q I h => h.elim (h1.run pins s σ H Q I) (h2.run pins s σ H Q I)⟩
theorem se_ix (hK : X.K = g.K) (hu : X.A.units + 65 < cLine) (ha : PE X a (tE g E k ra)) (hb : PE X b (tE g E k rb)) (hs : PlainIx b) : PE X (.Subscript a b pos) (tE g E k (eOp bIx ra rb)) :=
  PE.imp (PE.or (se_ixL hK ha hb hs) (se_ixD hu ha hb hs)) fun σ H Q ⟨B, α, ρ, s, hR, hE, q⟩ => by
    have e : eOp bIx ra rb ⟨k, B⟩ ρ s = eOp bIxL ra rb ⟨k, B⟩ ρ s ∨ eOp bIx ra rb ⟨k, B⟩ ρ s = eOp bIxD ra rb ⟨k, B⟩ ρ s := by
      unfold eOp
      cases ra ⟨k, B⟩ ρ s with
      | ok x s1 =>
        show (rb ⟨k, B⟩ ρ s1).bnd _ = (rb ⟨k, B⟩ ρ s1).bnd _ ∨ (rb ⟨k, B⟩ ρ s1).bnd _ = (rb ⟨k, B⟩ ρ s1).bnd _
        cases rb ⟨k, B⟩ ρ s1 with
        | ok y s2 => exact bIx_or x y s2
        | exc c t => exact .inl rfl
        | fail => exact .inl rfl
      | exc c t => exact .inl rfl
      | fail => exact .inl rfl
    rcases e with e | e
    · exact .inl ⟨B, α, ρ, s, hR, hE, by rw [← e]; exact q⟩
    · exact .inr ⟨B, α, ρ, s, hR, hE, by rw [← e]; exact q⟩

/-! ### slices -/
theorem cut_rv {K : PySem.W.Frag} {α : List Addr} {H : Hp} {xs : List V} {ds : List D} (r : RVs K α H xs ds) (lo hi : Option Int) : RVs K α H (cutV xs lo hi) (cutD ds lo hi) := by
  unfold cutV cutD
  rw [r.length]
  exact (r.drop _).take _
/-- a written part goes with its expression -/
def PartOk (X : Cx) (g : G) (E : XK) (k : Nat → List Nat → List D → S → Res) : Option Expr → Option ES → Prop
  | none, none => True
  | some e, some r => PE X e (tE g E k r)
  | _, _ => False
def PPart (g : G) (E : XK) (k : Nat → List Nat → List D → S → Res) (ro : Option ES) (B : List Nat) (α : List Addr) (H : Hp) (ρ : Env) (s : S) (Q : Option Int → Hp → Prop) : Prop := match ro with
  | none => Q none H
  | some r => PRes g E B α H (r ⟨k, B⟩ ρ s) fun v H1 => ∃ i, v = .int i ∧ Q (some i) H1
theorem po_part {o : Option Expr} {ro : Option ES} (h : PartOk X g E k o ro) : PO X o fun σ H Q => ∃ B α ρ s, R g B α H s ∧ RE g.K α H σ ρ ∧ PPart g E k ro B α H ρ s Q := by
  cases o with
  | none =>
    cases ro with
    | none => exact ⟨fun pins s σ H Q I ⟨B, α, ρ, t, hR, hE, q⟩ => po_none.run pins s σ H Q I q⟩
    | some r => exact h.elim
  | some e =>
    cases ro with
    | none => exact h.elim
    | some r => exact ⟨fun pins s σ H Q I ⟨B, α, ρ, t, hR, hE, q⟩ => (po_some h).run pins s σ H Q I ⟨B, α, ρ, t, hR, hE, q⟩⟩
theorem part_bnd {ro : Option ES} {B : List Nat} {α : List Addr} {H : Hp} {ρ : Env} {s : S} {f : Option Int → S → Res} {Q : VK} (hR : R g B α H s) (h : PRes g E B α H (withPart ro ⟨k, B⟩ ρ s f) Q) :
    PPart g E k ro B α H ρ s fun o H1 => ∃ α1 s1, Ext g.K α α1 H H1 ∧ R g B α1 H1 s1 ∧ PRes g E B α1 H1 (f o s1) Q := by
  cases ro with
  | none => exact ⟨α, s, .refl, hR, h⟩
  | some r =>
    refine (PRes.bnd h).imp fun v H1 ⟨α1, d, s1, e1, R1, r1, h1⟩ => ?_
    cases d <;> try exact (show False from h1).elim
    cases r1
    exact ⟨_, rfl, α1, s1, e1, R1, h1⟩
theorem slD_ok {B : List Nat} {α : List Addr} {H : Hp} {s : S} {Q : VK} {x : V} {d : D} {lo hi : Option Int} (hK : X.K = g.K) (hR : R g B α H s) (r : RV g.K α H x d) (h : PRes g E B α H (slD d lo hi s) Q) : rSlA X.K x lo hi H Q ∨ rSlL X.K x lo hi H Q := by
  cases d <;> try exact (show False from h).elim
  case tup ds =>
    cases r with
    | @tup a xs _ h1 h2 =>
      refine .inl ⟨a, xs, rfl, by rw [hK]; exact h1, fun hw => ?_, fun _ => tup_ok hR h (cut_rv h2 lo hi)⟩
      have e : cutD ds lo hi = ds := by
        unfold cutD
        rw [← h2.length, hw.1, hw.2, h2.length]
        simp
      have h' : PRes g E B α H (.ok (.tup (cutD ds lo hi)) s) Q := h
      rw [e] at h'
      exact h' α H _ .refl hR (.tup h1 h2)
  case ref n =>
    simp only [slD] at h
    split at h
    · rename_i ds hd
      obtain ⟨p, xs, rfl, _, _, h3, h4⟩ := lst_of hR r hd
      exact .inr ⟨p, xs, rfl, .of h3, al_ok hR h (cut_rv h4 lo hi)⟩
    · exact h.elim
end
end Ev

set_option maxRecDepth 10000
namespace Ev
open PySem L2

section
variable {X : Cx} {g : G} {E : XK} {k : Nat → List Nat → List D → S → Res} {e a b c : Expr} {ra rb rc : ES} {es : List Expr} {as : AS} {pos : Pos} {rest : List Expr}

theorem se_sl (hK : X.K = g.K) {lo hi : Option Expr} {rl rh : Option ES} {p2 : Pos} (ha : PE X a (tE g E k ra)) (hl : PartOk X g E k lo rl) (hh : PartOk X g E k hi rh) : PE X (.Subscript a (.Slice lo hi none p2) pos) (tE g E k (eSl ra rl rh)) :=
  PE.imp (pe_slice (sl_tupA.or sl_list) ha (po_part hl) (po_part hh)) fun σ H Q ⟨B, α, ρ, s, hR, hE, h⟩ => by
    refine ⟨B, α, ρ, s, hR, hE, (PRes.bnd h).imp fun v H1 ⟨α1, d1, s1, e1, R1, r1, h1⟩ => ?_⟩
    have im : ∀ {ro : Option ES} {B : List Nat} {α : List Addr} {H : Hp} {ρ : Env} {s : S} {Q Q' : Option Int → Hp → Prop}, PPart g E k ro B α H ρ s Q → (∀ o H', Q o H' → Q' o H') → PPart g E k ro B α H ρ s Q' := fun {ro B α H ρ s Q Q'} h i => by
      cases ro with
      | none => exact i _ _ h
      | some r => exact PRes.imp h fun v H1 ⟨j, e, q⟩ => ⟨j, e, i _ _ q⟩
    refine ⟨B, α1, ρ, s1, R1, hE.ext e1, im (part_bnd R1 h1) fun l H2 ⟨α2, s2, e2, R2, h2⟩ => ?_⟩
    refine ⟨B, α2, ρ, s2, R2, (hE.ext e1).ext e2, im (part_bnd R2 h2) fun u H3 ⟨α3, s3, e3, R3, h3⟩ => ?_⟩
    exact slD_ok hK R3 (r1.ext (e2.trans e3)) h3

/-! ### built-ins by values -/
def CallD (X : Cx) (g : G) (E : XK) (f : Value) (op : List D → S → Res) : Prop := CallR X f fun vs H Q => ∃ B α s ds, R g B α H s ∧ RVs g.K α H vs ds ∧ PRes g E B α H (op ds s) Q
theorem se_blt {x : Str} {id : String} {op : List D → S → Res} {p : Pos} (hc : CallD X g E (.builtin id) op) (hg : Gl X x) (hm : X.mg x = none) (hv : bootBuiltins x = some (.builtin id)) (ha : PA X (e :: es) (tA g E k as)) (hn : x ≠ "__name__") (hdb : (x == ("__debug__" : Str)) = false)
    (he : starEach (e :: es) X.env = (false, eval e X.env) :: starEach es X.env) (hpl : (backTo pos (starEach es X.env)).any (·.1) = false) : PE X (.Call (.Name x p) (e :: es) [] pos) (tE g E k (eBlt op as)) :=
  se_gcF (PE.imp (pe_callB hc hg hm hv ha hn hdb he hpl) fun _ _ _ h => args (f := fun _ => op) h)
theorem se_bltT {x : Str} {T : String} {op : List D → S → Res} {p : Pos} (hc : CallD X g E (.type T) op) (hg : Gl X x) (hm : X.mg x = none) (hv : bootBuiltins x = some (.type T)) (ha : PA X (e :: es) (tA g E k as)) (hn : x ≠ "__name__") (hdb : (x == ("__debug__" : Str)) = false)
    (he : starEach (e :: es) X.env = (false, eval e X.env) :: starEach es X.env) (hpl : (backTo pos (starEach es X.env)).any (·.1) = false) : PE X (.Call (.Name x p) (e :: es) [] pos) (tE g E k (eBlt op as)) :=
  se_gcF (PE.imp (pe_callTy hc hg hm hv ha hn hdb he hpl) fun _ _ _ h => args (f := fun _ => op) h)
/-- one argument -/
theorem RVs.one {K : PySem.W.Frag} {α : List Addr} {H : Hp} {vs : List V} {d : D} (r : RVs K α H vs [d]) : ∃ v, vs = [v] ∧ RV K α H v d := by
  cases r with
  | cons r t => cases t; exact ⟨_, rfl, r⟩
theorem RVs.two {K : PySem.W.Frag} {α : List Addr} {H : Hp} {vs : List V} {d d' : D} (r : RVs K α H vs [d, d']) : ∃ v w, vs = [v, w] ∧ RV K α H v d ∧ RV K α H w d' := by
  cases r with
  | cons r t => cases t with
    | cons r' t => cases t; exact ⟨_, _, rfl, r, r'⟩
theorem RKs.length {K : PySem.W.Frag} {α : List Addr} {H : Hp} : ∀ {xs : List (Key × V)} {kvs : List (D × D)}, RKs K α H xs kvs → xs.length = kvs.length
  | _, _, .nil => rfl
  | _, _, .cons _ t => by rw [List.length_cons, List.length_cons, RKs.length t]
theorem cd_len (hK : X.K = g.K) : CallD X g E (.builtin "len") lenD := by
  intro pins s σ H vs us Q I rv ⟨B, α, t, ds, hR, r, q⟩
  match ds, r, q with
  | [d], r, q =>
    obtain ⟨v, rfl, r1⟩ := r.one
    cases r1 with
    | str z =>
      refine call_len pins s σ H _ us Q I rv ?_
      simp only [lenD] at q
      split at q
      · rename_i hl
        exact ⟨_, z.length, rfl, ⟨by rw [sizeLine_eq]; exact hl, rfl⟩, q α H _ .refl hR (.int _)⟩
      · exact q.elim
    | @tup a xs es h1 h2 => exact call_len pins s σ H _ us Q I rv ⟨_, es.length, rfl, .inr ⟨_, by rw [hK]; exact h1, h2.length.symm⟩, q α H _ .refl hR (.int _)⟩
    | @frl a xs es h1 h2 => exact call_len pins s σ H _ us Q I rv ⟨_, es.length, rfl, .inl ⟨_, by rw [hK]; exact h1.sq, h2.length.symm⟩, q α H _ .refl hR (.int _)⟩
    | @ref a n h1 =>
      simp only [lenD] at q
      split at q
      · rename_i es hd
        obtain ⟨p, xs, e, _, _, h3, h4⟩ := lst_of hR (.ref h1) hd
        cases e
        exact call_len pins s σ H _ us Q I rv ⟨_, es.length, rfl, .inl ⟨_, .of h3, h4.length.symm⟩, q α H _ .refl hR (.int _)⟩
      · split at q
        · rename_i kvs ho
          obtain ⟨p, e, _, ro⟩ := hR.get (.ref h1) ho
          cases e
          cases ro with
          | dct h3 h4 => exact call_lenD pins s σ H _ us Q I rv ⟨a, _, rfl, h3, by rw [h4.length]; exact q α H _ .refl hR (.int _)⟩
        · exact q.elim
    | _ => exact (show False from q).elim
  | [], _, q => exact (show False from q).elim
  | a :: b :: r', _, q => exact (show False from by cases a <;> exact q).elim
theorem cd_abs : CallD X g E (.builtin "abs") absD := by
  intro pins s σ H vs us Q I rv ⟨B, α, t, ds, hR, r, q⟩
  match ds, r, q with
  | [d], r, q =>
    obtain ⟨v, rfl, r1⟩ := r.one
    cases r1 with
    | int i => exact call_abs pins s σ H _ us Q I rv ⟨_, rfl, q α H _ .refl hR (.int _)⟩
    | _ => exact (show False from q).elim
  | [], _, q => exact (show False from q).elim
  | a :: b :: r', _, q => exact (show False from by cases a <;> exact q).elim
theorem cd_int : CallD X g E (.type "int") intD := by
  intro pins s σ H vs us Q I rv ⟨B, α, t, ds, hR, r, q⟩
  match ds, r, q with
  | [d], r, q =>
    obtain ⟨v, rfl, r1⟩ := r.one
    cases r1 with
    | int i => exact call_int1 pins s σ H _ us Q I rv (.inl ⟨_, rfl, q α H _ .refl hR (.int _)⟩)
    | bl i => exact call_int1 pins s σ H _ us Q I rv (.inr ⟨_, rfl, q α H _ .refl hR (.int _)⟩)
    | _ => exact (show False from q).elim
  | [], _, q => exact (show False from q).elim
  | a :: b :: r', _, q => exact (show False from by cases a <;> exact q).elim
/-- a sequence by its D -/
theorem seq_of {B : List Nat} {α : List Addr} {H : Hp} {s : S} {v : V} {d : D} {ds : List D} (hR : R g B α H s) (r : RV g.K α H v d) (h : seqOf s d = some ds) : ∃ a xs, v = .ref a ∧ (SqL g.K H a xs ∨ SqT g.K H a xs) ∧ RVs g.K α H xs ds := by
  cases r with
  | tup h1 h2 => cases h; exact ⟨_, _, rfl, .inr h1, h2⟩
  | frl h1 h2 => cases h; exact ⟨_, _, rfl, .inl h1.sq, h2⟩
  | @ref a n h1 =>
    obtain ⟨p, xs, e, _, _, h3, h4⟩ := lst_of hR (.ref h1) h
    exact ⟨p, xs, e, .inl (.of h3), h4⟩
  | _ => cases h
theorem cd_list (hK : X.K = g.K) : CallD X g E (.type "list") listD := by
  intro pins s σ H vs us Q I rv ⟨B, α, t, ds, hR, r, q⟩
  match ds, r, q with
  | [d], r, q =>
    obtain ⟨v, rfl, r1⟩ := r.one
    simp only [listD] at q
    split at q
    · rename_i es hd
      obtain ⟨a, xs, rfl, h1, h2⟩ := seq_of hR r1 hd
      exact call_list_of pins s σ H _ us Q I rv ⟨a, xs, rfl, by rw [hK]; exact h1, al_ok hR q h2⟩
    · exact q.elim
  | [], _, q => exact (show False from q).elim
  | a :: b :: r', _, q => exact (show False from by cases a <;> exact q).elim
theorem cd_tup (hK : X.K = g.K) : CallD X g E (.type "tuple") tupD := by
  intro pins s σ H vs us Q I rv ⟨B, α, t, ds, hR, r, q⟩
  match ds, r, q with
  | [d], r, q =>
    obtain ⟨v, rfl, r1⟩ := r.one
    cases r1 with
    | tup h1 h2 => exact call_tuple_of pins s σ H _ us Q I rv ⟨_, _, rfl, .inr ⟨by rw [hK]; exact h1, q α H _ .refl hR (.tup h1 h2)⟩⟩
    | @ref a n h1 =>
      simp only [tupD] at q
      split at q
      · rename_i es hd
        obtain ⟨p, xs, e, _, _, h3, h4⟩ := lst_of hR (.ref h1) hd
        cases e
        exact call_tuple_of pins s σ H _ us Q I rv ⟨_, _, rfl, .inl ⟨.of h3, tup_ok hR q h4⟩⟩
      · exact q.elim
    | _ => exact (show False from q).elim
  | [], _, q => exact (show False from q).elim
  | a :: b :: r', _, q => exact (show False from by cases a <;> exact q).elim
end
end Ev

set_option maxRecDepth 10000
namespace Ev
open PySem L2 PyProof.Rows

section
variable {X : Cx} {g : G} {E : XK} {k : Nat → List Nat → List D → S → Res} {e a b c : Expr} {ra rb rc : ES} {es : List Expr} {as : AS} {pos : Pos} {rest : List Expr}

/-! ### sums and the like over a list or a tuple -/
theorem toI_map : ∀ {ds : List D} {ns : List Int}, ds.mapM D.toI = some ns → ds = ns.map D.int
  | [], ns, h => by
    have e : ns = [] := by simpa using h.symm
    subst e
    rfl
  | d :: r, ns, h => by
    rw [List.mapM_cons] at h
    cases hd : D.toI d with
    | none => rw [hd] at h; simp at h
    | some i =>
      rw [hd] at h
      cases hr : r.mapM D.toI with
      | none => rw [hr] at h; simp at h
      | some t =>
        rw [hr] at h
        have e : ns = i :: t := by simpa using h.symm
        subst e
        cases d <;> simp [D.toI] at hd
        subst hd
        rw [toI_map hr]
        rfl
theorem toB_map : ∀ {ds : List D} {ns : List Bool}, ds.mapM D.toB = some ns → ds = ns.map D.bl
  | [], ns, h => by
    have e : ns = [] := by simpa using h.symm
    subst e
    rfl
  | d :: r, ns, h => by
    rw [List.mapM_cons] at h
    cases hd : D.toB d with
    | none => rw [hd] at h; simp at h
    | some i =>
      rw [hd] at h
      cases hr : r.mapM D.toB with
      | none => rw [hr] at h; simp at h
      | some t =>
        rw [hr] at h
        have e : ns = i :: t := by simpa using h.symm
        subst e
        cases d <;> simp [D.toB] at hd
        subst hd
        rw [toB_map hr]
        rfl
theorem RVs.ints {K : PySem.W.Frag} {α : List Addr} {H : Hp} : ∀ {vs : List V} {ns : List Int}, RVs K α H vs (ns.map D.int) → vs = ns.map V.int
  | _, [], r => by cases r; rfl
  | _, n :: ns, r => by
    cases r with
    | cons r t =>
      cases r
      rw [RVs.ints t]
      rfl
theorem RVs.bools {K : PySem.W.Frag} {α : List Addr} {H : Hp} : ∀ {vs : List V} {ns : List Bool}, RVs K α H vs (ns.map D.bl) → vs = ns.map V.bl
  | _, [], r => by cases r; rfl
  | _, n :: ns, r => by
    cases r with
    | cons r t =>
      cases r
      rw [RVs.bools t]
      rfl
theorem iter_intTup {prog : Program} {w : World} {A : Around} {E : Value → Shared → Prop} {s : Shared} {l : Addr} {its : Array Value} {Q : Value → Shared → Prop} (hl : s.heap.IsTuple l its)
    (h : ∀ s₂ : Shared, s₂ = { s with heap := s.heap.push { cls := .type "tuple_iterator", data := .fields #[.ref l, .int 0 0] } } →
      (s₂.heap.IsTupleIter s.heap.objs.size l 0 ∧ s₂.heap.IsTuple l its) → l ≠ s.heap.objs.size → l < s.heap.objs.size → Q (.ref s.heap.objs.size) s₂) : wpAny (model prog w) A (pyIter (.ref l)) Q E s := by
  have hlt : l < s.heap.objs.size := by obtain ⟨_, e, _⟩ := hl; exact Heap.lt_size e
  refine wpAny_pyIter_tuple hl (h _ rfl ⟨⟨_, Heap.get?_push_size _ rfl, rfl, rfl⟩, ?_⟩ (Nat.ne_of_lt hlt) hlt)
  obtain ⟨o, e, r⟩ := hl
  exact ⟨o, Heap.get?_push_of_some _ e, r⟩
theorem kept_of {s : Shared} {h' : Heap} {o : Obj} {l : List Addr} (hl : ∀ b ∈ l, b = s.heap.objs.size) (hk : ∀ b o', b ∉ l → (s.heap.push o).get? b = some o' → h'.get? b = some o') : ∀ b u, s.heap.get? b = some u → h'.get? b = some u := fun b u e =>
  hk b u (fun hm => by
    have := Heap.lt_size e
    rw [hl b hm] at this
    exact Nat.lt_irrefl _ this) (Heap.get?_push_of_some _ e)
theorem sum_tup {prog : Program} {w : World} {A : Around} {E : Value → Shared → Prop} {s : Shared} {l : Addr} {its : Array Value} {ns : List Int} {Q : Value → Shared → Prop} (hh : A.handled = none) (hl : s.heap.IsTuple l its) (hi : IntsAre its.toList ns)
    (h : ∀ h' tk t', (∀ b o, s.heap.get? b = some o → h'.get? b = some o) → Q (.int ns.sum t') { s with heap := h', toks := tk }) : wpAny (model prog w) A (call (.builtin "sum") [.ref l]) Q E s := by
  obtain ⟨xs, e⟩ := hi.allInts.items
  have hn : numsOf (intItems xs).toList = ns := by rw [← hi.numsOf]; congr 1; rw [← e]
  rw [nums_intItems] at hn
  have e' : its = intItems xs := by rw [← e]
  subst e'
  refine call_sum_walkG (iter_intTup hl fun s₂ e2 st hne hlt => ?_)
  subst e2
  refine ⟨_, _, _, _, _, _, numAt xs, rfl, Walks.tuple (A := A.in1) hh _ l hne (intItems xs), st, fun b hb => ?_, (fun _ _ => intItems_at), fun h' tk t' hk => ?_⟩
  · rw [Heap.size_push]
    rcases List.mem_cons.mp hb with rfl | hb
    · exact Nat.lt_succ_self _
    · have : b = l := by simpa using hb
      subst this
      exact Nat.lt_succ_of_lt hlt
  · have := h h' tk t' (kept_of (by simp) hk)
    rw [preSum_eq, List.take_of_length_le (by simp [intItems]), hn]
    exact this
theorem seqs_ints {pins : List (Addr × Obj)} {σ : L2.St} {H : Hp} {s : Shared} {a : Addr} {ns : List Int} (I : L2.Inv X pins σ H s) (h : SqT X.K H a (ns.map V.int)) : ∃ its : Array Value, s.heap.IsTuple a its ∧ IntsAre its.toList ns := by
  obtain ⟨its, rv, pl, _⟩ := I.tuple h
  exact ⟨its.toArray, pl, by simpa using rv.ints⟩
theorem cd_sum (hK : X.K = g.K) (hc : X.calm = true) : CallD X g E (.builtin "sum") sumD := by
  intro pins s σ H vs us Q I rv ⟨B, α, t, ds, hR, r, q⟩
  match ds, r, q with
  | [d], r, q =>
    obtain ⟨v, rfl, r1⟩ := r.one
    simp only [sumD] at q
    split at q
    · rename_i es hd
      split at q
      · rename_i ns hn
        obtain ⟨a, xs, rfl, h1, h2⟩ := seq_of hR r1 hd
        rw [toI_map hn] at h2
        rw [h2.ints] at h1
        have q' := q α H _ .refl hR (.int _)
        rcases h1 with h1 | h1
        · exact cr_sum hc pins s σ H _ us Q I rv ⟨a, ns, rfl, by rw [hK]; exact h1, q'⟩
        · rw [← hK] at h1
          obtain ⟨its, hl, hi⟩ := seqs_ints I h1
          rw [Vals.ref1 rv]
          exact sum_tup (I.ok.hd hc) hl hi fun h' tk t' hk => ⟨.int _, H, I.kept hk, ⟨_, rfl⟩, q'⟩
      · exact q.elim
    · exact q.elim
  | [], _, q => exact (show False from q).elim
  | a :: b :: r', _, q => exact (show False from by cases a <;> exact q).elim

theorem all_tup {prog : Program} {w : World} {A : Around} {E : Value → Shared → Prop} {s : Shared} {l : Addr} {its : List Value} {bs : List Bool} {Q : Value → Shared → Prop} (hh : A.handled = none) (hl : s.heap.IsTuple l its.toArray) (hb : its = bs.map Value.bool)
    (h : ∀ h' tk, (∀ b o, s.heap.get? b = some o → h'.get? b = some o) → Q (.bool (bs.all id)) { s with heap := h', toks := tk }) : wpAny (model prog w) A (call (.builtin "all") [.ref l]) Q E s := by
  refine call_all_walk (iter_intTup hl fun s₂ e2 st hne hlt => ?_)
  subst e2
  refine ⟨_, _, _, _, _, _, _, rfl, Walks.tuple (A := A.in1) hh _ l hne its.toArray, st, truth_bools hb, fun h' tk hk => ?_⟩
  have e : its.toArray.size = bs.length := by simp [hb]
  rw [e, L2.all_range]
  exact h h' tk (kept_of (by simp) hk)
theorem any_tup {prog : Program} {w : World} {A : Around} {E : Value → Shared → Prop} {s : Shared} {l : Addr} {its : List Value} {bs : List Bool} {Q : Value → Shared → Prop} (hh : A.handled = none) (hl : s.heap.IsTuple l its.toArray) (hb : its = bs.map Value.bool)
    (h : ∀ h' tk, (∀ b o, s.heap.get? b = some o → h'.get? b = some o) → Q (.bool (bs.any id)) { s with heap := h', toks := tk }) : wpAny (model prog w) A (call (.builtin "any") [.ref l]) Q E s := by
  refine call_any_walk (iter_intTup hl fun s₂ e2 st hne hlt => ?_)
  subst e2
  refine ⟨_, _, _, _, _, _, _, rfl, Walks.tuple (A := A.in1) hh _ l hne its.toArray, st, truth_bools hb, fun h' tk hk => ?_⟩
  have e : its.toArray.size = bs.length := by simp [hb]
  rw [e, L2.any_range]
  exact h h' tk (kept_of (by simp) hk)
theorem cd_all (hK : X.K = g.K) (hc : X.calm = true) : CallD X g E (.builtin "all") allD := by
  intro pins s σ H vs us Q I rv ⟨B, α, t, ds, hR, r, q⟩
  match ds, r, q with
  | [d], r, q =>
    obtain ⟨v, rfl, r1⟩ := r.one
    simp only [allD] at q
    split at q
    · rename_i es hd
      split at q
      · rename_i ns hn
        obtain ⟨a, xs, rfl, h1, h2⟩ := seq_of hR r1 hd
        rw [toB_map hn] at h2
        rw [h2.bools] at h1
        have q' := q α H _ .refl hR (.bl _)
        rcases h1 with h1 | h1
        · exact cr_all hc pins s σ H _ us Q I rv ⟨a, ns, rfl, by rw [hK]; exact h1, q'⟩
        · rw [← hK] at h1
          obtain ⟨its, rvs, pl, _⟩ := I.tuple h1
          rw [Vals.ref1 rv]
          exact all_tup (I.ok.hd hc) pl rvs.bls fun h' tk hk => ⟨.bl _, H, I.kept hk, rfl, q'⟩
      · exact q.elim
    · exact q.elim
  | [], _, q => exact (show False from q).elim
  | a :: b :: r', _, q => exact (show False from by cases a <;> exact q).elim
theorem cd_any (hK : X.K = g.K) (hc : X.calm = true) : CallD X g E (.builtin "any") anyD := by
  intro pins s σ H vs us Q I rv ⟨B, α, t, ds, hR, r, q⟩
  match ds, r, q with
  | [d], r, q =>
    obtain ⟨v, rfl, r1⟩ := r.one
    simp only [anyD] at q
    split at q
    · rename_i es hd
      split at q
      · rename_i ns hn
        obtain ⟨a, xs, rfl, h1, h2⟩ := seq_of hR r1 hd
        rw [toB_map hn] at h2
        rw [h2.bools] at h1
        have q' := q α H _ .refl hR (.bl _)
        rcases h1 with h1 | h1
        · exact cr_any hc pins s σ H _ us Q I rv ⟨a, ns, rfl, by rw [hK]; exact h1, q'⟩
        · rw [← hK] at h1
          obtain ⟨its, rvs, pl, _⟩ := I.tuple h1
          rw [Vals.ref1 rv]
          exact any_tup (I.ok.hd hc) pl rvs.bls fun h' tk hk => ⟨.bl _, H, I.kept hk, rfl, q'⟩
      · exact q.elim
    · exact q.elim
  | [], _, q => exact (show False from q).elim
  | a :: b :: r', _, q => exact (show False from by cases a <;> exact q).elim
/-- the least and the greatest of a list -/
theorem lmin_of {ns : List Int} {m m' : Int} (h : lmin ns = some m) (h1 : m' ∈ ns) (h2 : ∀ y ∈ ns, m' ≤ y) : m' = m := by
  cases ns with
  | nil => cases h
  | cons x r =>
    obtain rfl := Option.some.inj h
    have fm : ∀ (r : List Int) (x : Int), r.foldl min x ≤ x ∧ (∀ y ∈ r, r.foldl min x ≤ y) ∧ (r.foldl min x = x ∨ r.foldl min x ∈ r) := by
      intro r
      induction r with
      | nil => intro x; simp
      | cons y t ih =>
        intro x
        obtain ⟨i1, i2, i3⟩ := ih (min x y)
        rw [List.foldl_cons]
        refine ⟨by omega, fun z hz => ?_, ?_⟩
        · rcases List.mem_cons.mp hz with rfl | hz
          · omega
          · exact i2 z hz
        · rcases i3 with i3 | i3
          · by_cases q : x ≤ y
            · left; omega
            · right; rw [i3]; have : min x y = y := by omega
              rw [this]; exact List.mem_cons_self
          · right; exact List.mem_cons_of_mem _ i3
    obtain ⟨f1, f2, f3⟩ := fm r x
    have g1 : m' ≤ r.foldl min x := by
      rcases f3 with f3 | f3
      · rw [f3]; exact h2 x List.mem_cons_self
      · exact h2 _ (List.mem_cons_of_mem _ f3)
    have g2 : r.foldl min x ≤ m' := by
      rcases List.mem_cons.mp h1 with rfl | h1
      · exact f1
      · exact f2 _ h1
    omega
theorem lmax_of {ns : List Int} {m m' : Int} (h : lmax ns = some m) (h1 : m' ∈ ns) (h2 : ∀ y ∈ ns, y ≤ m') : m' = m := by
  cases ns with
  | nil => cases h
  | cons x r =>
    obtain rfl := Option.some.inj h
    have fm : ∀ (r : List Int) (x : Int), x ≤ r.foldl max x ∧ (∀ y ∈ r, y ≤ r.foldl max x) ∧ (r.foldl max x = x ∨ r.foldl max x ∈ r) := by
      intro r
      induction r with
      | nil => intro x; simp
      | cons y t ih =>
        intro x
        obtain ⟨i1, i2, i3⟩ := ih (max x y)
        rw [List.foldl_cons]
        refine ⟨by omega, fun z hz => ?_, ?_⟩
        · rcases List.mem_cons.mp hz with rfl | hz
          · omega
          · exact i2 z hz
        · rcases i3 with i3 | i3
          · by_cases q : y ≤ x
            · left; omega
            · right; rw [i3]; have : max x y = y := by omega
              rw [this]; exact List.mem_cons_self
          · right; exact List.mem_cons_of_mem _ i3
    obtain ⟨f1, f2, f3⟩ := fm r x
    have g1 : r.foldl max x ≤ m' := by
      rcases f3 with f3 | f3
      · rw [f3]; exact h2 x List.mem_cons_self
      · exact h2 _ (List.mem_cons_of_mem _ f3)
    have g2 : m' ≤ r.foldl max x := by
      rcases List.mem_cons.mp h1 with rfl | h1
      · exact f1
      · exact f2 _ h1
    omega
theorem min_tup {prog : Program} {w : World} {A : Around} {E : Value → Shared → Prop} {s : Shared} {l : Addr} {its : Array Value} {n : Int} {ns : List Int} {Q : Value → Shared → Prop} (hh : A.handled = none) (hu : A.units + 2 < cLine) (hl : s.heap.IsTuple l its) {as : List Addr} (hr : ReadsAll s.heap its.toList ((n :: ns).map PyData.int) as)
    (h : ∀ h' tk t', (∀ b o, s.heap.get? b = some o → h'.get? b = some o) → Q (.int (ns.foldl min n) t') { s with heap := h', toks := tk }) : wpAny (model prog w) A (call (.builtin "min") [.ref l]) Q E s := by
  have dz : ∀ l : List Int, PyData.depthAll (l.map PyData.int) = 0 := fun l => by
    induction l with
    | nil => simp [PyData.depthAll]
    | cons a r ih => rw [List.map_cons, PyData.depthAll, ih]; simp [PyData.depth]
  refine PySem.W.min_tuple_data hh hl hr ⟨fun x hx y hy => ?_, fun x hx e => ?_⟩ (by rw [show PyData.int n :: ns.map PyData.int = (n :: ns).map PyData.int from rfl, dz]; omega) fun i v h' tk bs hv rd hk => ?_
  · obtain ⟨a, _, rfl⟩ := List.mem_map.mp (show x ∈ (n :: ns).map PyData.int from hx)
    obtain ⟨b, _, rfl⟩ := List.mem_map.mp (show y ∈ (n :: ns).map PyData.int from hy)
    simp [PySem.W.alike]
  · subst e
    obtain ⟨a, _, e⟩ := List.mem_map.mp (show PyData.none ∈ (n :: ns).map PyData.int from hx)
    cases e
  · rw [PySem.W.minD_ints] at rd
    cases rd
    exact h h' tk _ hk
theorem max_tup {prog : Program} {w : World} {A : Around} {E : Value → Shared → Prop} {s : Shared} {l : Addr} {its : Array Value} {n : Int} {ns : List Int} {Q : Value → Shared → Prop} (hh : A.handled = none) (hu : A.units + 2 < cLine) (hl : s.heap.IsTuple l its) {as : List Addr} (hr : ReadsAll s.heap its.toList ((n :: ns).map PyData.int) as)
    (h : ∀ h' tk t', (∀ b o, s.heap.get? b = some o → h'.get? b = some o) → Q (.int (ns.foldl max n) t') { s with heap := h', toks := tk }) : wpAny (model prog w) A (call (.builtin "max") [.ref l]) Q E s := by
  have dz : ∀ l : List Int, PyData.depthAll (l.map PyData.int) = 0 := fun l => by
    induction l with
    | nil => simp [PyData.depthAll]
    | cons a r ih => rw [List.map_cons, PyData.depthAll, ih]; simp [PyData.depth]
  refine PySem.W.max_tuple_data hh hl hr ⟨fun x hx y hy => ?_, fun x hx e => ?_⟩ (by rw [show PyData.int n :: ns.map PyData.int = (n :: ns).map PyData.int from rfl, dz]; omega) fun i v h' tk bs hv rd hk => ?_
  · obtain ⟨a, _, rfl⟩ := List.mem_map.mp (show x ∈ (n :: ns).map PyData.int from hx)
    obtain ⟨b, _, rfl⟩ := List.mem_map.mp (show y ∈ (n :: ns).map PyData.int from hy)
    simp [PySem.W.alike]
  · subst e
    obtain ⟨a, _, e⟩ := List.mem_map.mp (show PyData.none ∈ (n :: ns).map PyData.int from hx)
    cases e
  · rw [PySem.W.maxD_ints] at rd
    cases rd
    exact h h' tk _ hk
theorem dpI {K : PySem.W.Frag} {H : Hp} : ∀ ns : List Int, DpAll K H (ns.map V.int) (ns.map PyData.int)
  | [] => .nil
  | n :: ns => .cons (.int n) (dpI ns)
theorem cd_min (hK : X.K = g.K) (hc : X.calm = true) (hu : X.A.units + 65 < cLine) : CallD X g E (.builtin "min") minD := by
  intro pins s σ H vs us Q I rv ⟨B, α, t, ds, hR, r, q⟩
  have one : ∀ d, RVs g.K α H vs [d] → PRes g E B α H (match seqOf t d with | some ds => (match (ds.mapM D.toI).bind lmin with | some m => .ok (.int m) t | none => .fail) | none => .fail) Q → wpAny (model X.prog X.w) X.A (call (.builtin "min") us) (EP X pins σ Q) X.xe s := fun d r q => by
    obtain ⟨v, rfl, r1⟩ := r.one
    split at q
    · rename_i es hd
      split at q
      · rename_i m hm
        obtain ⟨ns, hn, hm⟩ := Option.bind_eq_some_iff.mp hm
        obtain ⟨a, xs, rfl, h1, h2⟩ := seq_of hR r1 hd
        rw [toI_map hn] at h2
        rw [h2.ints] at h1
        have q' := q α H _ .refl hR (.int _)
        cases ns with
        | nil => cases hm
        | cons n ns =>
          rcases h1 with h1 | h1
          · exact cr_min hc pins s σ H _ us Q I rv ⟨a, n :: ns, rfl, by rw [hK]; exact h1, by simp, fun m' h3 h4 => by rw [lmin_of hm h3 h4]; exact q'⟩
          · rw [← hK] at h1
            obtain ⟨its, rvs, pl, _⟩ := I.tuple h1
            obtain ⟨as, rd⟩ := Dp.readsAll I _ _ _ (dpI (n :: ns)) rvs
            rw [Vals.ref1 rv]
            exact min_tup (I.ok.hd hc) (by omega) pl (by simpa using rd) fun h' tk t' hk => ⟨.int _, H, I.kept hk, ⟨_, rfl⟩, by obtain rfl := Option.some.inj hm; exact q'⟩
      · exact q.elim
    · exact q.elim
  match ds, r, q with
  | [d], r, q => exact one d r (by cases d <;> exact q)
  | [.int i, .int j], r, q =>
    obtain ⟨v, w, rfl, r1, r2⟩ := r.two
    cases r1
    cases r2
    exact call_min2 hc pins s σ H _ us Q I rv ⟨_, _, rfl, q α H _ .refl hR (.int _)⟩
  | [], _, q => exact (show False from q).elim
  | [.und, _], _, q | [.non, _], _, q | [.bl _, _], _, q | [.str _, _], _, q | [.tup _, _], _, q | [.frl _, _], _, q | [.ref _, _], _, q => exact (show False from q).elim
  | [.int _, .und], _, q | [.int _, .non], _, q | [.int _, .bl _], _, q | [.int _, .str _], _, q | [.int _, .tup _], _, q | [.int _, .frl _], _, q | [.int _, .ref _], _, q => exact (show False from q).elim
  | a :: b :: c :: r', _, q => exact (show False from by cases a <;> first | exact q | (cases b <;> exact q)).elim
theorem cd_max (hK : X.K = g.K) (hc : X.calm = true) (hu : X.A.units + 65 < cLine) : CallD X g E (.builtin "max") maxD := by
  intro pins s σ H vs us Q I rv ⟨B, α, t, ds, hR, r, q⟩
  have one : ∀ d, RVs g.K α H vs [d] → PRes g E B α H (match seqOf t d with | some ds => (match (ds.mapM D.toI).bind lmax with | some m => .ok (.int m) t | none => .fail) | none => .fail) Q → wpAny (model X.prog X.w) X.A (call (.builtin "max") us) (EP X pins σ Q) X.xe s := fun d r q => by
    obtain ⟨v, rfl, r1⟩ := r.one
    split at q
    · rename_i es hd
      split at q
      · rename_i m hm
        obtain ⟨ns, hn, hm⟩ := Option.bind_eq_some_iff.mp hm
        obtain ⟨a, xs, rfl, h1, h2⟩ := seq_of hR r1 hd
        rw [toI_map hn] at h2
        rw [h2.ints] at h1
        have q' := q α H _ .refl hR (.int _)
        cases ns with
        | nil => cases hm
        | cons n ns =>
          rcases h1 with h1 | h1
          · exact cr_max hc pins s σ H _ us Q I rv ⟨a, n :: ns, rfl, by rw [hK]; exact h1, by simp, fun m' h3 h4 => by rw [lmax_of hm h3 h4]; exact q'⟩
          · rw [← hK] at h1
            obtain ⟨its, rvs, pl, _⟩ := I.tuple h1
            obtain ⟨as, rd⟩ := Dp.readsAll I _ _ _ (dpI (n :: ns)) rvs
            rw [Vals.ref1 rv]
            exact max_tup (I.ok.hd hc) (by omega) pl (by simpa using rd) fun h' tk t' hk => ⟨.int _, H, I.kept hk, ⟨_, rfl⟩, by obtain rfl := Option.some.inj hm; exact q'⟩
      · exact q.elim
    · exact q.elim
  match ds, r, q with
  | [d], r, q => exact one d r (by cases d <;> exact q)
  | [.int i, .int j], r, q =>
    obtain ⟨v, w, rfl, r1, r2⟩ := r.two
    cases r1
    cases r2
    exact call_max2 hc pins s σ H _ us Q I rv ⟨_, _, rfl, q α H _ .refl hR (.int _)⟩
  | [], _, q => exact (show False from q).elim
  | [.und, _], _, q | [.non, _], _, q | [.bl _, _], _, q | [.str _, _], _, q | [.tup _, _], _, q | [.frl _, _], _, q | [.ref _, _], _, q => exact (show False from q).elim
  | [.int _, .und], _, q | [.int _, .non], _, q | [.int _, .bl _], _, q | [.int _, .str _], _, q | [.int _, .tup _], _, q | [.int _, .frl _], _, q | [.int _, .ref _], _, q => exact (show False from q).elim
  | a :: b :: c :: r', _, q => exact (show False from by cases a <;> first | exact q | (cases b <;> exact q)).elim
end
end Ev

set_option maxRecDepth 10000
namespace Ev
open PySem L2 PyProof.Rows

section
variable {X : Cx} {g : G} {E : XK} {k : Nat → List Nat → List D → S → Res} {e a b c : Expr} {ra rb rc : ES} {es : List Expr} {as : AS} {pos : Pos} {rest : List Expr}

/-! ### lists changed -/
theorem wok_yg {B : List Nat} {n : Nat} {v : D} (h : wok B n v = true) : ∀ b ∈ B, n < b → v.yg b = false := fun b hb hn => by
  have q := List.all_eq_true.mp h b hb
  rw [Bool.not_eq_true', Bool.and_eq_false_iff] at q
  rcases q with q | q
  · exact absurd hn (of_decide_eq_false q)
  · exact q
theorem woks_yg {B : List Nat} {n : Nat} {v : List D} (h : woks B n v = true) : ∀ b ∈ B, n < b → D.ygs b v = false := fun b hb hn => by
  have q := List.all_eq_true.mp h b hb
  rw [Bool.not_eq_true', Bool.and_eq_false_iff] at q
  rcases q with q | q
  · exact absurd hn (of_decide_eq_false q)
  · exact q
theorem ygs_iff {b : Nat} : ∀ {l : List D}, D.ygs b l = false ↔ ∀ d ∈ l, d.yg b = false
  | [] => by simp [D.ygs]
  | d :: r => by rw [ygs_cons, ygs_iff]; simp
/-- a list that stands at n is changed -/
theorem lst_chg {B : List Nat} {α : List Addr} {H : Hp} {s : S} {p : Addr} {n : Nat} {xs ys : List V} {ds es : List D} (hR : R g B α H s) (hn : α[n]? = some p) (ho : s[n]? = some (.lst ds)) (hp : H p = some (.lst xs)) (r : RVs g.K α H ys es)
    (hy : ∀ b ∈ B, n < b → D.ygs b ds = false → D.ygs b es = false) : Ext g.K α α H (upd H p (.lst ys)) ∧ R g B α (upd H p (.lst ys)) (s.set n (.lst es)) := by
  have e : Ext g.K α α H (upd H p (.lst ys)) := .chg (List.mem_of_getElem? hn) hp trivial
  exact ⟨e, hR.chg hn hp trivial (.lst upd_same (r.ext e)) fun b hb hlt => hy b hb hlt ((hR.blk b hb).2 n _ hlt ho)⟩
def MtD (X : Cx) (g : G) (E : XK) (id : String) (f : List Nat → D → List D → S → Res) : Prop := MtR X id fun x vs H Q => ∃ B α s d ds, R g B α H s ∧ RV g.K α H x d ∧ RVs g.K α H vs ds ∧ PRes g E B α H (f B d ds s) Q
theorem md_append : MtD X g E "list.append" mAppend := by
  intro pins s σ H x vs v us Q I rx rv ⟨B, α, t, d, ds, hR, r, rs, q⟩
  cases r with
  | @ref a n h1 =>
    match ds, rs, q with
    | [y], rs, q =>
      obtain ⟨w, rfl, r1⟩ := rs.one
      simp only [mAppend] at q
      split at q
      · rename_i es ho
        split at q
        · rename_i hl
          obtain ⟨a', e, ha, ro⟩ := hR.get (.ref h1) ho
          cases e
          cases ro with
          | lst h3 h4 =>
            obtain ⟨e1, R1⟩ := lst_chg hR h1 ho h3 (h4.append (.cons r1 .nil)) fun b hb hlt hy => ygs_iff.mpr fun z hz => by
              rcases List.mem_append.mp hz with hz | hz
              · exact ygs_iff.mp hy z hz
              · have : z = y := by simpa using hz
                subst this
                exact wok_yg hl.2 b hb hlt
            exact mt_append pins s σ H _ _ v us Q I rx rv ⟨a, _, w, rfl, rfl, h3, by rw [sizeLine_eq, h4.length]; exact hl.1, q α _ _ e1 R1 .non⟩
        · exact q.elim
      · exact q.elim
    | [], _, q => exact (show False from q).elim
    | _ :: _ :: _, _, q => exact (show False from q).elim
  | _ => exact (show False from by cases ds <;> exact q).elim
theorem extend_seq {X : Cx} {K : PySem.W.Frag} (hK : X.K = K) (hc : X.calm = true) : MtR X "list.extend" fun x vs H Q => ∃ l b xs zs, x = .ref l ∧ vs = [.ref b] ∧ H l = some (.lst xs) ∧ H b = some (.lst zs) ∧ xs.length + zs.length ≤ sizeLine ∧ Q .non (upd H l (.lst (xs ++ zs))) := mt_extend
theorem md_pop : MtD X g E "list.pop" mPop := by
  intro pins s σ H x vs v us Q I rx rv ⟨B, α, t, d, ds, hR, r, rs, q⟩
  cases r with
  | @ref a n h1 =>
    match ds, rs, q with
    | [], rs, q =>
      cases rs
      simp only [mPop] at q
      split at q
      · rename_i es ho
        obtain ⟨a', e, ha, ro⟩ := hR.get (.ref h1) ho
        cases e
        cases ro with
        | @lst xs _ h3 h4 =>
          split at q
          · exact q.elim
          · rename_i d _ hd
            obtain ⟨w, hw, rw'⟩ := h4.get hd
            have tk : RVs g.K α H xs.dropLast es.dropLast := by
              rw [List.dropLast_eq_take, List.dropLast_eq_take, h4.length]
              exact h4.take _
            obtain ⟨e1, R1⟩ := lst_chg hR h1 ho h3 tk fun b hb hlt hy => ygs_iff.mpr fun z hz => ygs_iff.mp hy z (List.dropLast_subset _ hz)
            exact mt_pop pins s σ H _ _ v us Q I rx rv ⟨a, _, w, rfl, rfl, h3, by rw [h4.length]; exact hw, q α _ _ e1 R1 (rw'.ext e1)⟩
          · exact q.elim
      · exact q.elim
    | _ :: _, _, q => exact (show False from q).elim
  | _ => exact (show False from by cases ds <;> exact q).elim
theorem isL_ty {B : List Nat} {α : List Addr} {H : Hp} {s : S} {x : V} {d : D} (hK : X.K = g.K) (hR : R g B α H s) (r : RV g.K α H x d) (h : isL d s = true) : tyV X.K "list" x H := by
  cases r with
  | @ref a n h1 =>
    simp only [isL] at h
    cases hd : lstOf s n with
    | none => rw [hd] at h; cases h
    | some ds =>
      obtain ⟨p, xs, e, _, _, h3, h4⟩ := lst_of hR (.ref h1) hd
      cases e
      exact .inl ⟨rfl, xs, .of h3⟩
  | _ => cases h
theorem se_mt {T id : String} {name : Str} {pre : D → S → Bool} {f : List Nat → D → List D → S → Res} {apos cpos : Pos} {o : Expr} (pa : PlainAttrs T) (slot : Slot T name id) (hty : typeOf (.builtin id) = pure (.type "method_descriptor")) (hm : MtD X g E id f)
    (hpre : ∀ B α H s x d, R g B α H s → RV g.K α H x d → pre d s = true → tyV X.K T x H) (ho : PE X o (tE g E k ra)) (ha : PA X (e :: es) (tA g E k as))
    (hbase : attributeBase o name X.env (eval o X.env) = eval o X.env)
    (hfew : ((backTo cpos (starEach (e :: es) X.env)).all (fun x => !x.1) && (backToKw cpos (keywordEach [] X.env)).all (fun x => x.1.isSome)
      && decide ((e :: es).length + ([] : List Keyword).length + (if ([] : List Keyword).isEmpty then 0 else 1) < 30)) = true)
    (hline : (apos.endLine == cpos.line) = true) (hs : starEach (e :: es) X.env = (false, eval e X.env) :: starEach es X.env) (hplain : (backTo cpos (starEach es X.env)).any (·.1) = false) :
    PE X (.Call (.Attribute o name apos) (e :: es) [] cpos) (tE g E k (eMt pre f ra as)) :=
  PE.imp (pe_bm pa slot hty hm ho ha hbase hfew hline hs hplain) fun σ H Q ⟨B, α, ρ, s, hR, hE, h⟩ => by
    refine ⟨B, α, ρ, s, hR, hE, (PRes.bnd h).imp fun v H1 ⟨α1, d, s1, e1, R1, r1, h1⟩ => ?_⟩
    split at h1
    · rename_i hp
      refine ⟨hpre B α1 H1 s1 v d R1 r1 hp, B, α1, ρ, s1, R1, hE.ext e1, (PRss.bnd h1).imp fun vs H2 ⟨α2, ds, s2, e2, R2, r2, h2⟩ => ⟨B, α2, s2, d, ds, R2, r1.ext e2, r2, h2⟩⟩
    · exact h1.elim
theorem se_mt0 {T id : String} {name : Str} {pre : D → S → Bool} {f : List Nat → D → List D → S → Res} {apos cpos : Pos} {o : Expr} (pa : PlainAttrs T) (slot : Slot T name id) (hty : typeOf (.builtin id) = pure (.type "method_descriptor")) (hm : MtD X g E id f)
    (hpre : ∀ B α H s x d, R g B α H s → RV g.K α H x d → pre d s = true → tyV X.K T x H) (ho : PE X o (tE g E k ra)) (hbase : attributeBase o name X.env (eval o X.env) = eval o X.env) (hline : (apos.endLine == cpos.line) = true) :
    PE X (.Call (.Attribute o name apos) [] [] cpos) (tE g E k (eMt pre f ra aNil)) :=
  PE.imp (pe_bm0 pa slot hty hm ho hbase hline) fun σ H Q ⟨B, α, ρ, s, hR, hE, h⟩ => by
    refine ⟨B, α, ρ, s, hR, hE, (PRes.bnd h).imp fun v H1 ⟨α1, d, s1, e1, R1, r1, h1⟩ => ?_⟩
    split at h1
    · rename_i hp
      exact ⟨hpre B α1 H1 s1 v d R1 r1 hp, B, α1, s1, d, [], R1, r1, .nil, h1⟩
    · exact h1.elim

/-! ### targets -/
def TgD (X : Cx) (g : G) (E : XK) (k : Nat → List Nat → List D → S → Res) (t : TS) : TG := fun v σ H Q => ∃ B α ρ s d, R g B α H s ∧ RE g.K α H σ ρ ∧ RV g.K α H v d ∧ POut g E B α H (t ⟨k, B⟩ d ρ s) { nx := Q, rt := fun _ _ => False }
def TgsD (X : Cx) (g : G) (E : XK) (k : Nat → List Nat → List D → S → Res) (t : TSs) : TGs := fun vs σ H Q => ∃ B α ρ s ds, R g B α H s ∧ RE g.K α H σ ρ ∧ RVs g.K α H vs ds ∧ POut g E B α H (t ⟨k, B⟩ ds ρ s) { nx := Q, rt := fun _ _ => False }
theorem PG.imp {tg : Expr} {t t' : TG} (h : PG X tg t) (i : ∀ v σ H Q, t' v σ H Q → t v σ H Q) : PG X tg t' := ⟨fun pins s σ H v u Q I r q => h.run pins s σ H v u Q I r (i v σ H Q q)⟩
theorem PGs.imp {tg : List Expr} {t t' : TGs} (h : PGs X tg t) (i : ∀ v σ H Q, t' v σ H Q → t v σ H Q) : PGs X tg t' := ⟨fun pins s σ H v u Q I r q => h.run pins s σ H v u Q I r (i v σ H Q q)⟩
theorem sg_name {i : Nat} {x : Str} (hN : X.N.Nodup) (hi : X.N[i]? = some x) (hx : Loc X.env.scope x) (hf : X.fn x = true ∨ X.env.scope.names.lookup x = some .local) (hl : ∀ pins σ H s, L2.Inv X pins σ H s → σ.length = X.N.length := fun _ _ _ _ I => I.len) : PG X (.Name x pos) (TgD X g E k (tName i)) := by
  refine ⟨fun pins s σ H v u Q I r ⟨B, α, ρ, t, d, hR, hE, rv, q⟩ => ?_⟩
  refine (pg_name hN hi hx hf).run pins s σ H v u Q I r ?_
  exact q α H _ .refl hR (hE.set rv (by rw [I.len]; exact (List.getElem?_eq_some_iff.mp hi).1))
theorem sgs_nil : PGs X [] (TgsD X g E k tsNil) := PGs.imp pgs_nil fun vs σ H Q ⟨B, α, ρ, s, ds, hR, hE, rv, q⟩ => by
  cases rv with
  | nil => exact ⟨rfl, q α H σ .refl hR hE⟩
  | cons _ _ => exact (show False from q).elim
theorem sgs_cons {es : List Expr} {t : TS} {u : TSs} (h1 : PG X e (TgD X g E k t)) (h2 : PGs X es (TgsD X g E k u)) (hs : (assignEach (e :: es) X.env).map (·.2) = assign e X.env :: (assignEach es X.env).map (·.2)) : PGs X (e :: es) (TgsD X g E k (tsCons t u)) :=
  PGs.imp (pgs_cons h1 h2 hs) fun vs σ H Q ⟨B, α, ρ, s, ds, hR, hE, rv, q⟩ => by
    cases rv with
    | nil => exact (show False from q).elim
    | @cons v d vr dr r rr =>
      refine ⟨v, vr, rfl, B, α, ρ, s, d, hR, hE, r, ?_⟩
      have q' : POut g E B α H ((t ⟨k, B⟩ d ρ s).bnd fun ρ s => u ⟨k, B⟩ dr ρ s) { nx := Q, rt := fun _ _ => False } := q
      have q2 := Out.bnd_P q'
      cases hz : t ⟨k, B⟩ d ρ s with
      | nx ρ' s' =>
        rw [hz] at q2
        intro α1 H1 σ1 e1 R1 E1
        obtain ⟨α2, ρ2, s2, e2, R2, E2, h3⟩ := q2 α1 H1 σ1 e1 R1 E1
        exact ⟨B, α2, ρ2, s2, dr, R2, E2, rr.ext e2, h3⟩
      | rt d s => rw [hz] at q2; exact q2
      | bk ρ s => rw [hz] at q2; exact q2
      | ct ρ s => rw [hz] at q2; exact q2
      | exc c s => rw [hz] at q2; exact q2
      | fail => rw [hz] at q2; exact q2
theorem sg_tup (hK : X.K = g.K) {j : Nat} {n : Nat} {u : TSs} (hc : X.calm = true) (h : PGs X es (TgsD X g E k u)) (hn : (assignEach es X.env).length = n) (hst : (assignEach es X.env).findIdx? (·.1) = none) : PG X (.Tuple es j pos) (TgD X g E k (tTup n u)) := by
  refine ⟨fun pins s σ H v w Q I r ⟨B, α, ρ, t, d, hR, hE, rv, q⟩ => ?_⟩
  simp only [tTup] at q
  split at q
  · rename_i ds hd
    split at q
    · rename_i hl
      obtain ⟨a, xs, rfl, h1, h2⟩ := seq_of hR rv hd
      rcases h1 with h1 | h1
      · exact (pg_lst hc h hn hst).run pins s σ H _ w Q I r ⟨a, xs, rfl, by rw [hK]; exact h1, by rw [h2.length]; exact hl, B, α, ρ, t, ds, hR, hE, h2, q⟩
      · exact (pg_tup hc h hn hst).run pins s σ H _ w Q I r ⟨a, xs, rfl, by rw [hK]; exact h1, by rw [h2.length]; exact hl, B, α, ρ, t, ds, hR, hE, h2, q⟩
    · exact q.elim
  · exact q.elim
theorem ixN_lt {n : Nat} {i : Int} {j : Nat} (h : ixN n i = some j) : j < n := (ixN_seq h).2.1
theorem RKs.put {K : PySem.W.Frag} {α : List Addr} {H : Hp} (k : Key) {v : V} {d : D} (r : RV K α H v d) {xs : List (Key × V)} {kvs : List (D × D)} (h : RKs K α H xs kvs) : RKs K α H (putK xs k v) (dput kvs (kD k) d) := by
  have any : ∀ {xs : List (Key × V)} {kvs : List (D × D)}, RKs K α H xs kvs → (kvs.any fun kv => keq kv.1 (kD k)) = (xs.any fun kv => decide (kv.1 = k)) := by
    intro xs kvs h
    induction h with
    | nil => rfl
    | cons _ _ ih => rw [List.any_cons, List.any_cons, ih]; show (keq (kD _) _ || _) = _; rw [keq_kD]
  have map : ∀ {xs : List (Key × V)} {kvs : List (D × D)}, RKs K α H xs kvs → RKs K α H (xs.map fun kv => if kv.1 = k then (kv.1, v) else kv) (kvs.map fun kv => if keq kv.1 (kD k) = true then (kv.1, d) else kv) := by
    intro xs kvs h
    induction h with
    | nil => exact .nil
    | @cons j w e xs kvs r1 _ ih =>
      rw [List.map_cons, List.map_cons]
      by_cases hj : j = k
      · have e1 : keq (kD j) (kD k) = true := by rw [keq_kD, decide_eq_true hj]
        dsimp only
        rw [if_pos hj, if_pos e1]
        exact .cons r ih
      · have e1 : ¬ keq (kD j) (kD k) = true := by rw [keq_kD, decide_eq_false hj]; exact Bool.false_ne_true
        dsimp only
        rw [if_neg hj, if_neg e1]
        exact .cons r1 ih
  have app : ∀ {xs : List (Key × V)} {kvs : List (D × D)}, RKs K α H xs kvs → RKs K α H (xs ++ [(k, v)]) (kvs ++ [(kD k, d)]) := by
    intro xs kvs h
    induction h with
    | nil => exact .cons r .nil
    | cons r1 _ ih => exact .cons r1 ih
  unfold putK dput
  rw [any h]
  split
  · exact map h
  · exact app h
theorem ygs_dput {b : Nat} {k v : D} {kvs : List (D × D)} (h : D.ygs b (kvs.map (·.2)) = false) (hv : v.yg b = false) : D.ygs b ((dput kvs k v).map (·.2)) = false := by
  rw [ygs_iff] at h ⊢
  intro z hz
  obtain ⟨⟨p, q⟩, hp, rfl⟩ := List.mem_map.mp hz
  unfold dput at hp
  split at hp
  · obtain ⟨⟨p', q'⟩, hp', e⟩ := List.mem_map.mp hp
    split at e
    · cases e; exact hv
    · cases e; exact h _ (List.mem_map.mpr ⟨_, hp', rfl⟩)
  · rcases List.mem_append.mp hp with hp | hp
    · exact h _ (List.mem_map.mpr ⟨_, hp, rfl⟩)
    · cases List.mem_singleton.mp hp; exact hv
theorem dct_chg {B : List Nat} {α : List Addr} {H : Hp} {s : S} {p : Addr} {n : Nat} {xs ys : List (Key × V)} {kvs es : List (D × D)} (hR : R g B α H s) (hn : α[n]? = some p) (ho : s[n]? = some (.dct kvs)) (hp : H p = some (.dK xs)) (r : RKs g.K α H ys es)
    (hy : ∀ b ∈ B, n < b → D.ygs b (kvs.map (·.2)) = false → D.ygs b (es.map (·.2)) = false) : Ext g.K α α H (upd H p (.dK ys)) ∧ R g B α (upd H p (.dK ys)) (s.set n (.dct es)) := by
  have e : Ext g.K α α H (upd H p (.dK ys)) := .chg (List.mem_of_getElem? hn) hp trivial
  exact ⟨e, hR.chg hn hp trivial (.dct upd_same (r.ext e)) fun b hb hlt => hy b hb hlt ((hR.blk b hb).2 n _ hlt ho)⟩
theorem set_lst (hu : X.A.units + 65 < cLine) : PSet X fun o i v H Q => ∃ B α s d1 d2 d3, R g B α H s ∧ RV g.K α H o d1 ∧ RV g.K α H i d2 ∧ RV g.K α H v d3 ∧ ∃ s', setIx B d1 d2 d3 s = some s' ∧ ∀ (H' : Hp), Ext g.K α α H H' → R g B α H' s' → Q H' := by
  intro pins s σ H o i v ov iv u Q I ro ri rv ⟨B, α, t, d1, d2, d3, hR, r1, r2, r3, s', hs, q⟩
  have key : ∀ (k : Key) (n : Nat) (a : Addr), o = .ref a → i = kV k → α[n]? = some a → ∀ kvs, t[n]? = some (.dct kvs) → setK B n (kD k) d3 kvs t = some s' → L2.RelV v u → wpAny (model X.prog X.w) X.A (setItem ov iv u) (fun x s' => ∃ H', L2.Inv X pins σ H' s' ∧ Q H') X.xe s := by
    intro k n a eo ei h1 kvs ho hs rv
    subst eo ei
    unfold setK at hs
    split at hs
    · rename_i hw
      cases hs
      obtain ⟨a', e, ha, ro'⟩ := hR.get (.ref h1) ho
      cases e
      cases ro' with
      | dct h3 h4 =>
        obtain ⟨e1, R1⟩ := dct_chg hR h1 ho h3 (h4.put k r3) fun b hb hlt hy => ygs_dput hy (wok_yg hw.1 b hb hlt)
        exact set_dict (X := X) (by omega) pins s σ H _ _ _ ov iv u Q I ro ri rv ⟨a, _, rfl, .inl ⟨_, k, h3, rfl, by rw [h4.length, sizeLine_eq]; exact hw.2, rfl⟩, q _ e1 R1⟩
    · cases hs
  cases r1 <;> try (simp [setIx] at hs; done)
  case ref a n h1 =>
    cases r2 <;> try (simp [setIx] at hs; done)
    case int j =>
      simp only [setIx] at hs
      split at hs
      · rename_i ds ho
        split at hs
        · rename_i m hm
          split at hs
          · rename_i hw
            cases hs
            obtain ⟨a', e, ha, ro'⟩ := hR.get (.ref h1) ho
            cases e
            cases ro' with
            | lst h3 h4 =>
              obtain ⟨e1, R1⟩ := lst_chg hR h1 ho h3 (h4.set r3 m) fun b hb hlt hy => ygs_iff.mpr fun z hz => by
                rcases List.mem_or_eq_of_mem_set hz with hz | hz
                · exact ygs_iff.mp hy z hz
                · subst hz
                  exact wok_yg hw b hb hlt
              exact set_list pins s σ H _ _ _ ov iv u Q I ro ri rv ⟨a, _, _, m, rfl, rfl, h3, by rw [h4.length]; exact hm, q _ e1 R1⟩
          · cases hs
        · cases hs
      · rename_i kvs ho
        exact key (.inl j) n a rfl rfl h1 kvs ho hs rv
      · cases hs
    case str z =>
      simp only [setIx] at hs
      split at hs
      · rename_i kvs ho
        exact key (.inr z) n a rfl rfl h1 kvs ho hs rv
      · cases hs
end
end Ev

set_option maxRecDepth 10000
namespace Ev
open PySem L2 PyProof.Rows

/-! ### extend by a tuple -/
open AutoSeq1 in
theorem ext_tup (l : Addr) (items : Array Value) (n : Nat) (b : Addr) (items2 : Array Value) (n2 : Nat) (dd2 : Option Addr) (sl2 : Array (Option Value)) (hs0 : ¬(!items.isEmpty && Builtin.List.listTooLong (items.size + items2.size)) = true) (hs1 : items.size ≤ sizeLine) (hs2 : items.size + items2.size ≤ sizeLine + 1) :
    Meets (Builtin.«list.extend» ⟨[.ref l, .ref b], []⟩) (fun _ R s => s.heap.get? l = some { cls := .type "list", dict := none, data := .seq items n, slots := #[] } ∧
      s.heap.get? b = some { cls := .type "tuple", dict := dd2, data := .seq items2 n2, slots := sl2 } ∧ R (.ok (.ret Value.none)) { s with heap := s.heap.update l (Obj.mapSeq fun x => x ++ items2), toks := s.toks }) :=
  .of_wp fun prog w A R s h => by
    obtain ⟨hp, g, d, tk, os⟩ := s
    obtain ⟨hl, hb, h⟩ := h
    have f2 := AutoSeq1.sub_tuple_tuple
    have f3 := AutoSeq1.sub_list_list
    have f4 := AutoSeq1.sub_tuple_list
    have f5 := AutoSeq1.sub_list_tuple
    have hz' : (items ++ items2).size ≤ sizeLine + 1 := by rw [Array.size_append]; exact hs2
    wp_walk using (wpAny_updateSeq hl rfl (hz := hs1) (_hz' := hz')), wpAny_loadPart' hl, wpAny_loadPart' hb
    exact ⟨_, rfl, h⟩

section
variable {X : Cx} {g : G} {E : XK} {k : Nat → List Nat → List D → S → Res} {e a b c : Expr} {ra rb rc : ES} {es : List Expr} {as : AS} {pos : Pos} {rest : List Expr}

theorem mt_extendT : MtR X "list.extend" fun x vs H Q => ∃ l b xs zs, x = .ref l ∧ vs = [.ref b] ∧ H l = some (.lst xs) ∧ SqT X.K H b zs ∧ xs.length + zs.length ≤ sizeLine ∧ Q .non (upd H l (.lst (xs ++ zs))) := by
  intro pins s σ H x xs v us Q I rx rv h
  obtain ⟨l, b, xs, zs, rfl, rfl, hH, hB, hz, q⟩ := h
  cases rx
  cases rv with
  | cons ru rt =>
    cases rt
    cases ru
    obtain ⟨z, its, n, r, hl, e⟩ := I.lstM hH
    obtain ⟨its2, r2, ⟨⟨cls, dd, data, sl⟩, ho, hcls, n2, hd⟩, hl2⟩ := I.tuple hB
    simp only at hcls hd
    subst hcls hd
    have l1 := r.length
    have l2 := r2.length
    have hsz : its.toArray.size + its2.toArray.size ≤ sizeLine := by rw [List.size_toArray, List.size_toArray]; omega
    have hlong : ¬ (!its.toArray.isEmpty && Builtin.List.listTooLong (its.toArray.size + its2.toArray.size)) = true := by
      rw [notLongL hsz, Bool.and_false]
      exact Bool.false_ne_true
    refine call_meets F.slot_list_extend ⟨_, e, rfl⟩ F.entry_list_extend (F.args_list_extend_2 _ _)
      (ext_tup l its.toArray n b its2.toArray n2 dd sl hlong (by rw [List.size_toArray]; omega) (by omega)) ⟨e, ho, ?_⟩
    refine ⟨.non, _, I.lset (its' := its ++ its2) hH e (by simp) (r.append r2) ?_, rfl, q⟩
    rw [List.length_append]
    omega
theorem extL_ok {B : List Nat} {α : List Addr} {H : Hp} {s : S} {n : Nat} {a : Addr} {zs : List V} {fs : List D} {Q : VK} (hR : R g B α H s) (h1 : α[n]? = some a) (h5 : RVs g.K α H zs fs) (q : PRes g E B α H (extL B n fs s) Q) :
    ∃ xs, H a = some (.lst xs) ∧ xs.length + zs.length ≤ sizeLine ∧ Q .non (upd H a (.lst (xs ++ zs))) := by
  simp only [extL] at q
  split at q
  · rename_i ds ho
    split at q
    · rename_i hl
      obtain ⟨a', e, ha, ro⟩ := hR.get (.ref h1) ho
      cases e
      cases ro with
      | @lst xs _ h3 h4 =>
        obtain ⟨e1, R1⟩ := lst_chg hR h1 ho h3 (h4.append h5) fun b hb hlt hy => ygs_iff.mpr fun z hz => by
          rcases List.mem_append.mp hz with hz | hz
          · exact ygs_iff.mp hy z hz
          · exact ygs_iff.mp (woks_yg hl.2 b hb hlt) z hz
        exact ⟨xs, h3, by rw [sizeLine_eq, h4.length, h5.length]; exact hl.1, q α _ _ e1 R1 .non⟩
    · exact q.elim
  · exact q.elim
theorem md_extend (hK : X.K = g.K) : MtD X g E "list.extend" mExtend := by
  intro pins s σ H x vs v us Q I rx rv ⟨B, α, t, d, ds, hR, r, rs, q⟩
  cases r with
  | @ref a n h1 =>
    match ds, rs, q with
    | [y], rs, q =>
      obtain ⟨w, rfl, r1⟩ := rs.one
      cases r1 with
      | tup h6 h7 =>
        obtain ⟨xs, h3, hl, q⟩ := extL_ok hR h1 h7 q
        exact mt_extendT pins s σ H _ _ v us Q I rx rv ⟨a, _, _, _, rfl, rfl, h3, by rw [hK]; exact h6, hl, q⟩
      | @ref b m h6 =>
        simp only [mExtend] at q
        split at q
        · rename_i es he
          obtain ⟨p, zs, ep, _, _, h7, h8⟩ := lst_of hR (.ref h6) he
          cases ep
          obtain ⟨xs, h3, hl, q⟩ := extL_ok hR h1 h8 q
          exact mt_extend pins s σ H _ _ v us Q I rx rv ⟨a, _, _, _, rfl, rfl, h3, h7, hl, q⟩
        · exact q.elim
      | _ => exact (show False from q).elim
    | [], _, q => exact (show False from q).elim
    | y :: _ :: _, _, q => exact (show False from by cases y <;> exact q).elim
  | _ => exact (show False from by cases ds <;> exact q).elim

/-! ### statements -/
theorem ss_nil : PSs X [] (tSS g E k sNil) := PSs.imp pss_nil fun σ H Dd ⟨B, α, ρ, s, hR, hE, h⟩ => h α H σ .refl hR hE
theorem ss_cons {st : Stmt} {sts : List Stmt} {r1 r2 : SS} (h1 : PS X st (tSS g E k r1)) (h2 : PSs X sts (tSS g E k r2)) : PSs X (st :: sts) (tSS g E k (sSeq r1 r2)) :=
  PSs.imp (pss_cons h1 h2) fun σ H Dd ⟨B, α, ρ, s, hR, hE, h⟩ => by
    refine ⟨B, α, ρ, s, hR, hE, ?_⟩
    have q := Out.bnd_P h
    cases hz : r1 ⟨k, B⟩ ρ s with
    | nx ρ' s' =>
      rw [hz] at q
      intro α1 H1 σ1 e1 R1 E1
      obtain ⟨α2, ρ2, s2, e2, R2, E2, h3⟩ := q α1 H1 σ1 e1 R1 E1
      exact ⟨B, α2, ρ2, s2, R2, E2, h3⟩
    | rt d s => rw [hz] at q; exact q
    | bk ρ s => rw [hz] at q; exact q
    | ct ρ s => rw [hz] at q; exact q
    | exc c s => rw [hz] at q; exact q
    | fail => rw [hz] at q; exact q
theorem ss_expr (he : PE X e (tE g E k ra)) (hs : swapsWith e none pos.line X.env = pure false) : PS X (.Expr e pos) (tSS g E k (sExpr ra)) :=
  PS.imp (ps_expr he hs) fun σ H Dd ⟨B, α, ρ, s, hR, hE, h⟩ => ⟨B, α, ρ, s, hR, hE, (PRes.bndS h).imp fun v H1 ⟨α1, d, s1, e1, R1, r1, h1⟩ => h1 α1 H1 σ .refl R1 (hE.ext e1)⟩
theorem ss_ret (he : PE X e (tE g E k ra)) : PS X (.Return (some e) pos) (tSS g E k (sRet ra)) :=
  PS.imp (ps_ret he) fun σ H Dd ⟨B, α, ρ, s, hR, hE, h⟩ => ⟨B, α, ρ, s, hR, hE, (PRes.bndS h).imp fun v H1 ⟨α1, d, s1, e1, R1, r1, h1⟩ => h1 α1 H1 v .refl R1 r1⟩
theorem ss_retN : PS X (.Return none pos) (tSS g E k sRetN) := PS.imp ps_retN fun σ H Dd ⟨B, α, ρ, s, hR, hE, h⟩ => h α H .non .refl hR .non
theorem ss_if {sa sb : List Stmt} {r1 r2 : SS} (hc : PT X c (tT g E k rc)) (ha : PSs X sa (tSS g E k r1)) (hb : PSs X sb (tSS g E k r2)) : PS X (.If c sa sb pos) (tSS g E k (sIf rc r1 r2)) :=
  PS.imp (ps_if hc ha hb) fun σ H Dd ⟨B, α, ρ, s, hR, hE, h⟩ => by
    refine ⟨B, α, ρ, s, hR, hE, (tst_bndS h).imp fun z H1 ⟨α1, s1, e1, R1, h1⟩ => ?_⟩
    cases z with
    | true => exact ⟨B, α1, ρ, s1, R1, hE.ext e1, h1⟩
    | false => exact ⟨B, α1, ρ, s1, R1, hE.ext e1, h1⟩
theorem ss_pass : PS X (.Pass pos) (tSS g E k sNil) := PS.imp ps_pass fun σ H Dd ⟨B, α, ρ, s, hR, hE, h⟩ => h α H σ .refl hR hE
theorem ss_break : PS X (.Break pos) (tSS g E k sBrk) := PS.imp ps_break fun σ H Dd ⟨B, α, ρ, s, hR, hE, h⟩ => h α H σ .refl hR hE
theorem ss_continue : PS X (.Continue pos) (tSS g E k sCnt) := PS.imp ps_continue fun σ H Dd ⟨B, α, ρ, s, hR, hE, h⟩ => h α H σ .refl hR hE
theorem ss_set {i : Nat} {x : Str} {pos' : Pos} (hN : X.N.Nodup) (hi : X.N[i]? = some x) (hx : Loc X.env.scope x) (he : PE X e (tE g E k ra)) (hs : swapsWith e (some (.Name x pos')) pos.line X.env = pure false) (hf : X.fn x = true ∨ X.env.scope.names.lookup x = some .local) :
    PS X (.Assign [.Name x pos'] e pos) (tSS g E k (sSet i ra)) := by
  refine ⟨fun pins s σ H Dd I ⟨B, α, ρ, t, hR, hE, h⟩ => ?_⟩
  refine (ps_set hN hi hx he hs hf).run pins s σ H Dd I ⟨B, α, ρ, t, hR, hE, (PRes.bndS h).imp fun v H1 ⟨α1, d, s1, e1, R1, r1, h1⟩ => ?_⟩
  exact h1 α1 H1 _ .refl R1 ((hE.ext e1).set r1 (by rw [I.len]; exact (List.getElem?_eq_some_iff.mp hi).1))
theorem ss_asg {tg : Expr} {t : TS} (he : PE X e (tE g E k ra)) (hg : PG X tg (TgD X g E k t)) (ht : ∀ c d ρ s, (∃ ρ' s', t c d ρ s = .nx ρ' s') ∨ t c d ρ s = .fail ∨ ∃ z s', t c d ρ s = .exc z s') (hs : swapsWithSole [tg] e pos.line X.env = pure false) (hw : swappedStores [tg] e X.env = pure none)
    (h1 : (assignEach [tg] X.env).map (·.2) = [assign tg X.env]) : PS X (.Assign [tg] e pos) (tSS g E k (sAsg ra t)) :=
  PS.imp (ps_asg he hg hs hw h1) fun σ H Dd ⟨B, α, ρ, s, hR, hE, h⟩ => ⟨B, α, ρ, s, hR, hE, (PRes.bndS h).imp fun v H1 ⟨α1, d, s1, e1, R1, r1, h1⟩ => by
    refine ⟨B, α1, ρ, s1, d, R1, hE.ext e1, r1, ?_⟩
    rcases ht ⟨k, B⟩ d ρ s1 with ⟨ρ', s', e2⟩ | e2 | ⟨z, s', e2⟩
    · rw [e2] at h1 ⊢; exact h1
    · rw [e2] at h1; exact h1.elim
    · rw [e2] at h1 ⊢; exact h1⟩
end
end Ev

set_option maxRecDepth 100000
namespace Ev
open PySem L2 PyProof.Rows
open Sem (wp)
open AutoSeq1 (wpAny_loadPart')

/-! ### enumerate of a tuple -/
theorem en_new (l : Addr) (items : Array Value) (n : Nat) (dct : Option Addr) (sl : Array (Option Value)) :
    Meets (Builtin.«enumerate.__new__» ⟨[.type "enumerate", .ref l], []⟩) (fun _ R s => s.heap.get? l = some { cls := .type "tuple", dict := dct, data := .seq items n, slots := sl } ∧
      R (.ok (.ret (.ref (s.heap.push { cls := .type "tuple_iterator", data := .fields #[.ref l, .int 0 0] }).objs.size)))
        { s with heap := (s.heap.push { cls := .type "tuple_iterator", data := .fields #[.ref l, .int 0 0] }).push { cls := .type "enumerate", data := .fields #[.none, .bool false, .ref s.heap.objs.size, rawInt 0, .none, .none] } }) :=
  .of_wp fun prog w A R s h => by
    obtain ⟨hp, g, d, tk, os⟩ := s; obtain ⟨hl, h⟩ := h
    have hsub := sub_enumerate
    have hL : Heap.IsTuple (Shared.heap ⟨hp, g, d, tk, os⟩) l items := ⟨_, hl, rfl, n, rfl⟩
    wp_walk using wpAny_loadPart' hl
    refine wpAny_stack_any fun st => wpAny_pure ?_
    split
    · rename_i c _ _ _ _ _
      cases (c == Value.type "enumerate")
      · wp_walk using wpAny_loadPart' hl, wpAny_pyIter_tuple hL
        exact ⟨_, rfl, h⟩
      · wp_walk using wpAny_loadPart' hl, wpAny_pyIter_tuple hL
        exact ⟨_, rfl, h⟩
    · wp_walk using wpAny_loadPart' hl, wpAny_pyIter_tuple hL
      exact ⟨_, rfl, h⟩
theorem en_call {prog : Program} {w : World} {A : Around} {E : Value → Shared → Prop} {s : Shared} {l : Addr} {items : Array Value} {Q : Value → Shared → Prop} (hL : s.heap.IsTuple l items)
    (h : ∀ h', IsEnum h' (s.heap.objs.size + 1) s.heap.objs.size 0 .none → h'.IsTupleIter s.heap.objs.size l 0 → h'.objs.size = s.heap.objs.size + 2 →
      (∀ b o, s.heap.get? b = some o → h'.get? b = some o) → Q (.ref (s.heap.objs.size + 1)) { s with heap := h' }) :
    wpAny (model prog w) A (call (.type "enumerate") [.ref l]) Q E s := by
  obtain ⟨⟨c, dct, dt, sl⟩, hl, hc, n, hd⟩ := hL
  replace hc : c = .type "tuple" := hc
  replace hd : dt = .seq items n := hd
  subst hc hd
  refine callType_new F.called_enumerate (by decide) (F.typeCall_enumerate_1 _) (F.newCall_enumerate_1 _) (fun obj => F.args_object_init_2 obj _) F.entry_enumerate_new
    (en_new l items n dct sl) ⟨hl, ?_⟩
  have hz : (s.heap.push { cls := .type "tuple_iterator", data := .fields #[.ref l, .int 0 0] }).objs.size = s.heap.objs.size + 1 := Heap.size_push ..
  show _ ∧ _
  rw [hz]
  have he : IsEnum ((s.heap.push { cls := .type "tuple_iterator", data := .fields #[.ref l, .int 0 0] }).push
      { cls := .type "enumerate", data := .fields #[.none, .bool false, .ref s.heap.objs.size, rawInt 0, .none, .none] }) (s.heap.objs.size + 1) s.heap.objs.size 0 .none := by
    have := Heap.get?_push_size (s.heap.push { cls := .type "tuple_iterator", data := .fields #[.ref l, .int 0 0] })
      (o := { cls := .type "enumerate", data := .fields #[.none, .bool false, .ref s.heap.objs.size, rawInt 0, .none, .none] }) rfl
    rw [hz] at this; exact this
  refine ⟨⟨_, he, rfl⟩, h _ he ⟨_, Heap.get?_push_of_some _ (Heap.get?_push_size _ rfl), rfl, rfl⟩ (by rw [Heap.size_push, hz]) fun b o x => Heap.get?_push_of_some _ (Heap.get?_push_of_some _ x)⟩
/-- the tuple at a, each item in a new pair -/
def EnT (K : PySem.W.Frag) (a : Addr) : It :=
  ⟨fun i H => ∃ (xs : List V) (x : V), SqT K H a xs ∧ xs[i]? = some x, fun i H v H' => ∃ T x, v = .ref T ∧ H T = none ∧ H' = upd H T (.tup [.int (i : Nat), x]) ∧ ∀ xs, SqT K H a xs → xs[i]? = some x, fun i H => ∃ xs : List V, SqT K H a xs ∧ xs.length = i⟩
theorem turn_enT {P : Program} {w : World} {K : PySem.W.Frag} {elts : List Expr} {kk : Nat} {tpos : Pos} (a e it : Addr) :
    Turn P w K (.Tuple elts kk tpos) (EnT K a) [e, it] e (fun i h => (∃ old, IsEnum h e it ((i : Nat) : Int) old) ∧ h.IsTupleIter it a i ∧ e ≠ it) where
  mem := by simp
  obj := fun i h st b hb => by
    obtain ⟨⟨old, he⟩, ⟨o, ho, hc, hd⟩, _⟩ := st
    have e' : b = e ∨ b = it := by simpa using hb
    rcases e' with z | z
    · rw [z]; exact ⟨_, he, fun v q => nomatch q⟩
    · rw [z]; exact ⟨o, ho, fun v q => by rw [hd] at q; cases q⟩
  keep := fun i h h' st k => let ⟨⟨old, he⟩, hi, hne⟩ := st; ⟨⟨old, k e (by simp) _ he⟩, hi.at fun o q => k it (by simp) o q, hne⟩
  item := by
    intro X hP hw hK hc i pins s σ H E I hf st hg
    subst hP hw hK
    obtain ⟨⟨old, he⟩, hit, hne⟩ := st
    obtain ⟨xs, x, hq, hx⟩ := hg
    obtain ⟨its, rv, p, hz⟩ := I.tuple hq
    obtain ⟨u, hu, ru⟩ := rv.get hx
    have hT : s.heap.IsTuple a its.toArray := p
    have hat : a ≠ it := fun z => by
      obtain ⟨o, ho, hc, _⟩ := hT
      obtain ⟨o', ho', hc', _⟩ := hit
      rw [z] at ho; rw [ho] at ho'; cases ho'; rw [hc] at hc'; exact absurd (Value.type.inj hc') (by decide)
    have hae : e ≠ a := fun z => by
      obtain ⟨o, ho, hc, _⟩ := hT
      have he2 := he
      unfold IsEnum at he2
      rw [z, ho] at he2
      have h3 := congrArg Obj.cls (Option.some.inj he2)
      rw [hc] at h3
      exact absurd (Value.type.inj h3) (by decide)
    have hel : e < s.heap.objs.size := Heap.lt_size he
    have hil : it < s.heap.objs.size := by obtain ⟨_, q, _⟩ := hit; exact Heap.lt_size q
    have hil2 : i < its.toArray.size := by
      have := (List.getElem?_eq_some_iff.mp hu).1
      simpa using this
    refine wpAny_pyNext_enum_itemD (Draws.tuple (A := X.A.in1) (I.ok.hd hc) it a hat its.toArray) he ⟨hit, hT⟩ hil2 hne (by simp [hne, hae]) fun x' h' tk hP ho hit' hT hsz hk => ?_
    obtain rfl : u = x' := by
      have : its[i]? = some x' := by simpa using hP
      rw [hu] at this; cases this; rfl
    refine ⟨_, rfl, wpAny_letOwnedTupleGo_enum (s := { s with heap := h', toks := tk + 1 }) ho fun h'' he' sb => ?_⟩
    have hT2 : h''.get? s.heap.objs.size = some { cls := .type "tuple", data := .seq #[.int i tk, u] } := (sb.2 _ (Nat.ne_of_gt hel)).trans hT
    have new : ObjOk X.prog X.w (upd H s.heap.objs.size (.tup [.int (i : Nat), x])) h'' s.heap.objs.size (.tup [.int (i : Nat), x]) :=
      ⟨by show 2 ≤ sizeLine; decide, [.int i tk, u], .cons ⟨_, rfl⟩ (.cons ru .nil), ⟨_, hT2, rfl, _, rfl⟩⟩
    have I1 : Inv X pins σ (upd H s.heap.objs.size (.tup [.int (i : Nat), x])) { s with heap := h'', toks := tk + 1 } :=
      I.turnedNew (ch := [e, it]) (fun b ob hb q => (sb.2 b (fun z => hb (by simp [z]))).trans (hk b ob (fun z => hb (by simp [z])) (fun z => hb (by simp [z])) q)) hf (Nat.le_refl _) new
    refine ⟨.ref s.heap.objs.size, _, I1, rfl, ⟨_, x, rfl, I.hok.fresh (Nat.le_refl _), rfl, fun ys hy => by rw [I.tuple_inj hy hq]; exact hx⟩, ⟨⟨u, ?_⟩, hit'.1.at fun o q => (sb.2 it (Ne.symm hne)).trans q, hne⟩, fun b hb => ?_⟩
    · have e1 : ((i + 1 : Nat) : Int) = (i : Int) + 1 := by omega
      rw [e1]; exact he'
    · have hb' : b < s.heap.objs.size := by
        have e' : b = e ∨ b = it := by simpa using hb
        rcases e' with z | z
        · rw [z]; exact hel
        · rw [z]; exact hil
      rw [upd_ne (Nat.ne_of_lt hb')]
      exact (hf b hb).1
  done := by
    intro X hP hw hK hc i pins s σ H E I hf st hg
    subst hP hw hK
    obtain ⟨⟨old, he⟩, hit, hne⟩ := st
    obtain ⟨xs, hq, hx⟩ := hg
    obtain ⟨its, rv, p, hz⟩ := I.tuple hq
    have hT : s.heap.IsTuple a its.toArray := p
    have hat : a ≠ it := fun z => by
      obtain ⟨o, ho, hc, _⟩ := hT
      obtain ⟨o', ho', hc', _⟩ := hit
      rw [z] at ho; rw [ho] at ho'; cases ho'; rw [hc] at hc'; exact absurd (Value.type.inj hc') (by decide)
    obtain ⟨f0, f1, f2, f3, f4, f5⟩ := hf it (by simp)
    have hl : its.toArray.size = i := by have := rv.length; simp; omega
    exact wpAny_pyNext_enum_endD (Draws.tuple (A := X.A.in1) (I.ok.hd hc) it a hat its.toArray) he ⟨by rw [hl]; exact hit, hT⟩ fun h' eb => ⟨rfl, I.turned (t' := s.toks) (fun b o hb q => eb b o hb q) f0 f1 f3 f4 f5⟩
  self := fun A i s Q E st h => let ⟨⟨_, he⟩, _⟩ := st; wpAny_pyIter_enum he h
def iEnX (K : PySem.W.Frag) (ta : TA) : TI := fun σ H R => ta σ H fun vs H1 => ∃ a xs, vs = [.ref a] ∧ ((SqL K H1 a xs ∧ R (Ite K a) H1) ∨ (SqT K H1 a xs ∧ R (EnT K a) H1))
theorem pi_enX {X : Cx} {e : Expr} {ta : TA} {p pos tpos : Pos} {elts : List Expr} {kk : Nat} (hg : Gl X "enumerate") (hm : X.mg "enumerate" = none) (ha : PA X [e] ta) (hs : starEach [e] X.env = [(false, eval e X.env)] := by rfl) :
    PI X (.Tuple elts kk tpos) (.Call (.Name "enumerate" p) [e] [] pos) (iEnX X.K ta) := by
  refine ⟨fun pins s σ H R I h => ?_⟩
  refine Call_ (ld_blt I hg hm boot_enumerate (PyProof.Rows.callWith_type1 (thn (ha.run pos pins s σ H _ I h) fun us s1 ⟨vs, H1, I1, r1, q1⟩ => ?_) hs rfl))
  obtain ⟨a, xs, ex, hq⟩ := q1
  subst ex
  cases r1 with
  | cons r rr =>
    cases rr
    cases r
    have fr : ∀ h' : Heap, ∀ b ∈ [s1.heap.objs.size + 1, s1.heap.objs.size], s1.heap.objs.size ≤ b := fun h' b hb => by
      have e' : b = s1.heap.objs.size + 1 ∨ b = s1.heap.objs.size := by simpa using hb
      rcases e' with z | z
      · rw [z]; exact Nat.le_add_right _ _
      · rw [z]; exact Nat.le_refl _
    rcases hq with ⟨hq, q⟩ | ⟨hq, q⟩
    · obtain ⟨its, rv, p', hz⟩ := I1.list hq
      refine call_enumerate_list p'.isList fun h' he hit hsz hk => wpAny_pyIter_enum he ?_
      have I2 : Inv X pins σ H1 { s1 with heap := h' } := I1.kept (t' := s1.toks) hk
      exact ⟨s1.heap.objs.size + 1, [s1.heap.objs.size + 1, s1.heap.objs.size], _, _, H1, rfl, I2, turn_enum a (s1.heap.objs.size + 1) s1.heap.objs.size, ⟨⟨.none, he⟩, hit, Nat.succ_ne_self _⟩, fun b hb => I1.fpOk (fr h' b hb) (I1.hok.fresh (fr h' b hb)), q⟩
    · obtain ⟨its, rv, p', hz⟩ := I1.tuple hq
      refine en_call (items := its.toArray) p' fun h' he hit hsz hk => wpAny_pyIter_enum he ?_
      have I2 : Inv X pins σ H1 { s1 with heap := h' } := I1.kept (t' := s1.toks) hk
      exact ⟨s1.heap.objs.size + 1, [s1.heap.objs.size + 1, s1.heap.objs.size], _, _, H1, rfl, I2, turn_enT a (s1.heap.objs.size + 1) s1.heap.objs.size, ⟨⟨.none, he⟩, hit, Nat.succ_ne_self _⟩, fun b hb => I1.fpOk (fr h' b hb) (I1.hok.fresh (fr h' b hb)), q⟩
end Ev

set_option maxRecDepth 10000
namespace Ev
open PySem L2 PyProof.Rows

/-! ### a target comes to its end or not, and leaves no loop -/
def TOk (t : TS) : Prop := ∀ c d ρ s, (∃ ρ' s', t c d ρ s = .nx ρ' s') ∨ t c d ρ s = .fail ∨ ∃ z s', t c d ρ s = .exc z s'
def TsOk (t : TSs) : Prop := ∀ c d ρ s, (∃ ρ' s', t c d ρ s = .nx ρ' s') ∨ t c d ρ s = .fail ∨ ∃ z s', t c d ρ s = .exc z s'
theorem tok_name {i : Nat} : TOk (tName i) := fun _ _ _ _ => .inl ⟨_, _, rfl⟩
theorem tsok_nil : TsOk tsNil := fun c d ρ s => by
  cases d
  · exact .inl ⟨_, _, rfl⟩
  · exact .inr (.inl rfl)
theorem tsok_cons {t : TS} {u : TSs} (h : TOk t) (h2 : TsOk u) : TsOk (tsCons t u) := fun c d ρ s => by
  cases d with
  | nil => exact .inr (.inl rfl)
  | cons x r =>
    show (∃ ρ' s', (t c x ρ s).bnd _ = _) ∨ (t c x ρ s).bnd _ = _ ∨ ∃ z s', (t c x ρ s).bnd _ = _
    rcases h c x ρ s with ⟨ρ', s', e⟩ | e | ⟨z, s', e⟩
    · rw [e]; exact h2 c r ρ' s'
    · rw [e]; exact .inr (.inl rfl)
    · rw [e]; exact .inr (.inr ⟨z, s', rfl⟩)
theorem tok_tup {n : Nat} {u : TSs} (h : TsOk u) : TOk (tTup n u) := fun c d ρ s => by
  unfold tTup
  split
  · split
    · exact h c _ ρ s
    · exact .inr (.inl rfl)
  · exact .inr (.inl rfl)
theorem tok_sub {o i : ES} : TOk (tSub o i) := fun c d ρ s => by
  unfold tSub
  cases o c ρ s with
  | fail => exact .inr (.inl rfl)
  | exc z t => exact .inr (.inr ⟨z, t, rfl⟩)
  | ok a s1 =>
    show (∃ ρ' s', (i c ρ s1).bndS _ = _) ∨ (i c ρ s1).bndS _ = _ ∨ ∃ z s', (i c ρ s1).bndS _ = _
    cases i c ρ s1 with
    | fail => exact .inr (.inl rfl)
    | exc z t => exact .inr (.inr ⟨z, t, rfl⟩)
    | ok b s2 =>
      show (∃ ρ' s', (match setIx c.B a b d s2 with | some s => Out.nx ρ s | none => .fail) = _) ∨ (match setIx c.B a b d s2 with | some s => Out.nx ρ s | none => .fail) = _ ∨ ∃ z s', (match setIx c.B a b d s2 with | some s => Out.nx ρ s | none => .fail) = _
      cases setIx c.B a b d s2 with
      | none => exact .inr (.inl rfl)
      | some s3 => exact .inl ⟨_, _, rfl⟩

/-! ### walks -/
theorem gOk_some {n : Nat} {ds : List D} {s : S} (h : gOk (some (n, ds)) s = true) : s[n]? = some (.lst ds) := by
  simp only [gOk] at h
  split at h
  · rename_i es he
    rw [he, D.beqs_eq _ _ h]
  · cases h
structure WalkD (g : G) (J : It) (ds : List D) (gd : Option (Nat × List D)) (α0 : List Addr) (H0 : Hp) : Prop where
  goes : ∀ (i : Nat) (B : List Nat) (α : List Addr) (H : Hp) (s : S), i < ds.length → Ext g.K α0 α H0 H → R g B α H s → gOk gd s = true → J.go i H
  stops : ∀ (B : List Nat) (α : List Addr) (H : Hp) (s : S), Ext g.K α0 α H0 H → R g B α H s → gOk gd s = true → J.stop ds.length H
  yields : ∀ (i : Nat) (B : List Nat) (α : List Addr) (H : Hp) (s : S) (x : V) (H' : Hp), i < ds.length → Ext g.K α0 α H0 H → R g B α H s → gOk gd s = true → J.yld i H x H' →
    R g B α H' s ∧ Ext g.K α α H H' ∧ ∃ d, ds[i]? = some d ∧ RV g.K α H' x d
def PItm (g : G) (E : XK) (B : List Nat) (α : List Addr) (H : Hp) (r : Itm) (Q : It → Hp → Prop) : Prop := match r with
  | .ok ds gd s => ∀ (α' : List Addr) (H' : Hp) (J : It), Ext g.K α α' H H' → R g B α' H' s → WalkD g J ds gd α' H' → gOk gd s = true → Q J H'
  | .exc c s => PExc g E B α H c s
  | .fail => False
def tI (g : G) (E : XK) (k : Nat → List Nat → List D → S → Res) (w : IS) : TI := fun σ H Q => ∃ B α ρ s, R g B α H s ∧ RE g.K α H σ ρ ∧ PItm g E B α H (w ⟨k, B⟩ ρ s) Q
theorem PI.imp {X : Cx} {tg iter : Expr} {t t' : TI} (h : PI X tg iter t) (i : ∀ σ H Q, t' σ H Q → t σ H Q) : PI X tg iter t' := ⟨fun pins s σ H Q I q => h.run pins s σ H Q I (i σ H Q q)⟩

section
variable {g : G} {E : XK} {B : List Nat} {α α' : List Addr} {H H' : Hp}
theorem PItm.ext : ∀ {r : Itm} {Q : It → Hp → Prop}, PItm g E B α H r Q → Ext g.K α α' H H' → PItm g E B α' H' r Q
  | .ok _ _ _, _, h, e => fun a h' J e' r rv hg => h a h' J (e.trans e') r rv hg
  | .exc _ _, _, h, e => PExc.ext h e
  | .fail, _, h, _ => h
theorem PItm.imp : ∀ {r : Itm} {Q Q' : It → Hp → Prop}, PItm g E B α H r Q → (∀ v H', Q v H' → Q' v H') → PItm g E B α H r Q'
  | .ok _ _ _, _, _, h, i => fun a h' J e r rv hg => i J h' (h a h' J e r rv hg)
  | .exc _ _, _, _, h, _ => h
  | .fail, _, _, h, _ => h
theorem PRes.bndI {f : D → S → Itm} : ∀ {r : Res} {Q : It → Hp → Prop}, PItm g E B α H (r.bndI f) Q → PRes g E B α H r fun v H1 => ∃ α1 d s, Ext g.K α α1 H H1 ∧ R g B α1 H1 s ∧ RV g.K α1 H1 v d ∧ PItm g E B α1 H1 (f d s) Q
  | .ok _ _, _, h => fun _ _ _ e r rv => ⟨_, _, _, e, r, rv, PItm.ext h e⟩
  | .exc _ _, _, h => h
  | .fail, _, h => h
theorem PRss.bndI {f : List D → S → Itm} : ∀ {r : Rss} {Q : It → Hp → Prop}, PItm g E B α H (r.bndI f) Q → PRss g E B α H r fun v H1 => ∃ α1 d s, Ext g.K α α1 H H1 ∧ R g B α1 H1 s ∧ RVs g.K α1 H1 v d ∧ PItm g E B α1 H1 (f d s) Q
  | .ok _ _, _, h => fun _ _ _ e r rv => ⟨_, _, _, e, r, rv, PItm.ext h e⟩
  | .exc _ _, _, h => h
  | .fail, _, h => h
theorem walkD_lst {a : Addr} {n : Nat} {ds : List D} (h1 : α[n]? = some a) : WalkD g (Itl g.K a) ds (some (n, ds)) α H := by
  have key : ∀ (B : List Nat) (α1 : List Addr) (H1 : Hp) (s : S), Ext g.K α α1 H H1 → R g B α1 H1 s → gOk (some (n, ds)) s = true → ∃ xs, SqL g.K H1 a xs ∧ RVs g.K α1 H1 xs ds := fun B α1 H1 s e r hg => by
    have ro := r.obj n a _ (e.pre n a h1) (gOk_some hg)
    cases ro with
    | lst h3 h4 => exact ⟨_, .of h3, h4⟩
  refine ⟨fun i B α1 H1 s hi e r hg => ?_, fun B α1 H1 s e r hg => ?_, fun i B α1 H1 s x H' hi e r hg y => ?_⟩
  · obtain ⟨xs, q, rv⟩ := key B α1 H1 s e r hg
    exact walk_list.goes i H1 (by rw [rv.length]; exact hi) q
  · obtain ⟨xs, q, rv⟩ := key B α1 H1 s e r hg
    have z := (walk_list (K := g.K) (a := a) (xs := xs)).stops H1 q
    rw [rv.length] at z
    exact z
  · obtain ⟨xs, q, rv⟩ := key B α1 H1 s e r hg
    obtain ⟨e1, y1⟩ := walk_list.yields i H1 x H' (by rw [rv.length]; exact hi) q y
    subst e1
    exact ⟨r, .refl, rv.getV y1⟩
theorem walkD_frl {a : Addr} {xs : List V} {ds : List D} (h1 : FzL g.K H a xs) (h2 : RVs g.K α H xs ds) : WalkD g (Itl g.K a) ds none α H := by
  refine ⟨fun i B α1 H1 s hi e r hg => ?_, fun B α1 H1 s e r hg => ?_, fun i B α1 H1 s x H' hi e r hg y => ?_⟩
  · exact walk_list.goes i H1 (by rw [h2.length]; exact hi) (e.frl _ _ h1).sq
  · have z := (walk_list (K := g.K) (a := a) (xs := xs)).stops H1 (e.frl _ _ h1).sq
    rw [h2.length] at z
    exact z
  · obtain ⟨e1, y1⟩ := walk_list.yields i H1 x H' (by rw [h2.length]; exact hi) (e.frl _ _ h1).sq y
    subst e1
    exact ⟨r, .refl, (h2.ext e).getV y1⟩
theorem walkD_tup {a : Addr} {xs : List V} {ds : List D} (h1 : SqT g.K H a xs) (h2 : RVs g.K α H xs ds) : WalkD g (Itt g.K a) ds none α H := by
  refine ⟨fun i B α1 H1 s hi e r hg => ?_, fun B α1 H1 s e r hg => ?_, fun i B α1 H1 s x H' hi e r hg y => ?_⟩
  · exact walk_tup.goes i H1 (by rw [h2.length]; exact hi) (e.tup _ _ h1)
  · have z := (walk_tup (K := g.K) (a := a) (xs := xs)).stops H1 (e.tup _ _ h1)
    rw [h2.length] at z
    exact z
  · obtain ⟨e1, y1⟩ := walk_tup.yields i H1 x H' (by rw [h2.length]; exact hi) (e.tup _ _ h1) y
    subst e1
    exact ⟨r, .refl, (h2.ext e).getV y1⟩
theorem walkD_fn {J : It} {n : Nat} {f : Nat → Int} (w : Walk J n (fun _ => True) (YFn fun i => .int (f i))) : WalkD g J ((List.range n).map fun i => .int (f i)) none α H := by
  have hl : ((List.range n).map fun i => D.int (f i)).length = n := by simp
  refine ⟨fun i B α1 H1 s hi e r hg => w.goes i H1 (by omega) trivial, fun B α1 H1 s e r hg => by rw [hl]; exact w.stops H1 trivial, fun i B α1 H1 s x H' hi e r hg y => ?_⟩
  obtain ⟨e1, e2⟩ := w.yields i H1 x H' (by omega) trivial y
  subst e1 e2
  rw [hl] at hi
  exact ⟨r, .refl, .int (f i), by simp [hi], .int _⟩
end

section
variable {X : Cx} {g : G} {E : XK} {k : Nat → List Nat → List D → S → Res} {e a b c : Expr} {ra rb rc : ES} {es : List Expr} {as : AS} {pos p : Pos} {tg : Expr}
/-- a list or a tuple is walked -/
theorem pi_sq {l : Expr} {tl : TE} (hl : PE X l tl) : PI X tg l (fun σ H Q => tl σ H fun x H1 => ∃ a, x = .ref a ∧ ((∃ xs, SqL X.K H1 a xs ∧ Q (Itl X.K a) H1) ∨ ∃ xs, SqT X.K H1 a xs ∧ Q (Itt X.K a) H1)) := by
  refine ⟨fun pins s σ H Q I h => thn (hl.run pins s σ H _ I h) fun v s1 ⟨x, H1, I1, r1, a, ea, q1⟩ => ?_⟩
  subst ea
  cases r1
  have fr : ∀ b ∈ [s1.heap.objs.size], FpOk X pins H1 b := fun b hb => by
    rw [List.mem_singleton.mp hb]
    exact I1.fpOk (Nat.le_refl _) (I1.hok.fresh (Nat.le_refl _))
  rcases q1 with ⟨xs, hq, q⟩ | ⟨xs, hq, q⟩
  · obtain ⟨its, _, p, _⟩ := I1.list hq
    exact wpAny_pyIter_list p.isList ⟨_, [s1.heap.objs.size], _, _, H1, rfl, I1.kept (t' := s1.toks) fun _ _ z => Heap.get?_push_of_some _ z, turn_list a _, ⟨_, Heap.get?_push_size _ rfl, rfl, rfl⟩, fr, q⟩
  · obtain ⟨its, _, p, _⟩ := I1.tuple hq
    exact wpAny_pyIter_tuple (show s1.heap.IsTuple a its.toArray from p) ⟨_, [s1.heap.objs.size], _, _, H1, rfl, I1.kept (t' := s1.toks) fun _ _ z => Heap.get?_push_of_some _ z, turn_tuple a _, ⟨_, Heap.get?_push_size _ rfl, rfl, rfl⟩, fr, q⟩
theorem si_seq (hK : X.K = g.K) (ha : PE X a (tE g E k ra)) : PI X tg a (tI g E k (iSeq ra)) :=
  PI.imp (pi_sq ha) fun σ H Q ⟨B, α, ρ, s, hR, hE, h⟩ => by
    refine ⟨B, α, ρ, s, hR, hE, (PRes.bndI h).imp fun v H1 ⟨α1, d, s1, e1, R1, r1, h1⟩ => ?_⟩
    rw [hK]
    cases r1 with
    | @tup a xs ds h2 h3 => exact ⟨a, rfl, .inr ⟨xs, h2, h1 α1 H1 _ .refl R1 (walkD_tup h2 h3) rfl⟩⟩
    | @frl a xs ds h2 h3 => exact ⟨a, rfl, .inl ⟨xs, h2.sq, h1 α1 H1 _ .refl R1 (walkD_frl h2 h3) rfl⟩⟩
    | @ref a n h2 =>
      dsimp only at h1
      split at h1
      · rename_i ds hl
        obtain ⟨p, xs, ep, hn, ho, hp, _⟩ := lst_of R1 (.ref h2) hl
        cases ep
        refine ⟨a, rfl, .inl ⟨xs, .of hp, h1 α1 H1 _ .refl R1 (walkD_lst h2) ?_⟩⟩
        simp only [gOk]
        rw [ho]
        exact D.beqs_self ds
      · exact h1.elim
    | _ => exact (show False from h1).elim
theorem RVs.ints1 {K : PySem.W.Frag} {α : List Addr} {H : Hp} {vs : List V} {i : Int} (r : RVs K α H vs [.int i]) : vs = [.int i] := by
  cases r with
  | cons r t =>
    cases t
    cases r
    rfl
theorem RVs.ints2 {K : PySem.W.Frag} {α : List Addr} {H : Hp} {vs : List V} {i j : Int} (r : RVs K α H vs [.int i, .int j]) : vs = [.int i, .int j] := by
  cases r with
  | cons r t =>
    cases r
    rw [t.ints1]
theorem RVs.ints3 {K : PySem.W.Frag} {α : List Addr} {H : Hp} {vs : List V} {i j l : Int} (r : RVs K α H vs [.int i, .int j, .int l]) : vs = [.int i, .int j, .int l] := by
  cases r with
  | cons r t =>
    cases r
    rw [t.ints2]
theorem small62_iff {i : Int} (h : small62 i = true) : -(2 ^ 62) ≤ i ∧ i < 2 ^ 62 := of_decide_eq_true h
theorem rng_of {σ : L2.St} {H : Hp} {Q : It → Hp → Prop} {f : List D → S → Itm} (h : tI g E k (fun c ρ s => (as c ρ s).bndI f) σ H Q) :
    tA g E k as σ H fun vs H1 => ∃ B α s ds, R g B α H1 s ∧ RVs g.K α H1 vs ds ∧ PItm g E B α H1 (f ds s) Q := by
  obtain ⟨B, α, ρ, s, hR, hE, h⟩ := h
  exact ⟨B, α, ρ, s, hR, hE, (PRss.bndI h).imp fun vs H1 ⟨α1, ds, s1, e1, R1, r1, h1⟩ => ⟨B, α1, s1, ds, R1, r1, h1⟩⟩
theorem tA.imp {σ : L2.St} {H : Hp} {Q Q' : List V → Hp → Prop} (h : tA g E k as σ H Q) (i : ∀ v H', Q v H' → Q' v H') : tA g E k as σ H Q' := by
  obtain ⟨B, α, ρ, s, hR, hE, h⟩ := h
  exact ⟨B, α, ρ, s, hR, hE, h.imp i⟩
theorem si_r1 (hg : Gl X "range") (hm : X.mg "range" = none) (ha : PA X [a] (tA g E k as)) (hs : starEach [a] X.env = [(false, eval a X.env)]) :
    PI X tg (.Call (.Name "range" p) [a] [] pos) (tI g E k (iR1 as)) :=
  PI.imp (pi_range1 hg hm ha hs) fun σ H Q h => tA.imp (rng_of h) fun vs H1 ⟨B, α, s, ds, R1, r1, h1⟩ => by
    split at h1
    · split at h1
      · rename_i j hj
        obtain ⟨h2, h3⟩ := small62_iff hj
        exact ⟨j, r1.ints1, h2, h3, h1 α H1 _ .refl R1 (walkD_fn walk_range) rfl⟩
      · exact h1.elim
    · exact h1.elim
theorem si_r2 (hg : Gl X "range") (hm : X.mg "range" = none) (ha : PA X [a, b] (tA g E k as)) (hs : starEach [a, b] X.env = [(false, eval a X.env), (false, eval b X.env)]) (hs2 : starEach [b] X.env = [(false, eval b X.env)]) :
    PI X tg (.Call (.Name "range" p) [a, b] [] pos) (tI g E k (iR2 as)) :=
  PI.imp (pi_range2 hg hm ha hs hs2) fun σ H Q h => tA.imp (rng_of h) fun vs H1 ⟨B, α, s, ds, R1, r1, h1⟩ => by
    split at h1
    · split at h1
      · rename_i i j hj
        rw [Bool.and_eq_true] at hj
        obtain ⟨h2, h3⟩ := small62_iff hj.1
        obtain ⟨h4, h5⟩ := small62_iff hj.2
        exact ⟨i, j, r1.ints2, ⟨h2, h3, h4, h5⟩, h1 α H1 _ .refl R1 (walkD_fn walk_range) rfl⟩
      · exact h1.elim
    · exact h1.elim
theorem si_r3 (hg : Gl X "range") (hm : X.mg "range" = none) (ha : PA X [a, b, c] (tA g E k as)) (hs : starEach [a, b, c] X.env = (false, eval a X.env) :: starEach [b, c] X.env) (hpl : (backTo pos (starEach [b, c] X.env)).any (·.1) = false) :
    PI X tg (.Call (.Name "range" p) [a, b, c] [] pos) (tI g E k (iR3 as)) :=
  PI.imp (pi_range3 hg hm ha hs hpl) fun σ H Q h => tA.imp (rng_of h) fun vs H1 ⟨B, α, s, ds, R1, r1, h1⟩ => by
    split at h1
    · split at h1
      · rename_i i j l hj
        obtain ⟨h6, hi, hj⟩ := hj
        subst h6
        obtain ⟨h2, h3⟩ := small62_iff hi
        obtain ⟨h4, h5⟩ := small62_iff hj
        exact ⟨i, j, -1, (i - j).toNat, r1.ints3, .neg h2 h3 h4 h5, h1 α H1 _ .refl R1 (walkD_fn walk_rangeC) rfl⟩
      · exact h1.elim
    · exact h1.elim

/-! ### enumerate -/
theorem enumD_len (ds : List D) : (enumD ds).length = ds.length := by simp [enumD]
theorem enumD_get {ds : List D} {i : Nat} {d : D} (h : ds[i]? = some d) : (enumD ds)[i]? = some (.tup [.int (i : Nat), d]) := by
  have hi : i < ds.length := (List.getElem?_eq_some_iff.mp h).1
  have hd : ds[i] = d := (List.getElem?_eq_some_iff.mp h).2
  simp [enumD, List.getElem?_zipWith, hi, hd]
theorem yld_enum {B : List Nat} {α : List Addr} {H H' : Hp} {s : S} {x : V} {i : Nat} {xs : List V} {ds : List D} (r : R g B α H s) (rv : RVs g.K α H xs ds) (y : YPair (fun i => some (.int (i : Nat))) (fun i => xs[i]?) i H x H') :
    R g B α H' s ∧ Ext g.K α α H H' ∧ ∃ d, (enumD ds)[i]? = some d ∧ RV g.K α H' x d := by
  obtain ⟨T, z, w, rfl, hT, rfl, h3, h4⟩ := y
  cases h3
  obtain ⟨d, hd, rd⟩ := rv.getV h4
  have e : Ext g.K α α H (upd H T (.tup [.int (i : Nat), w])) := .newT hT
  exact ⟨r.newT hT, e, _, enumD_get hd, .tup (.of upd_same) (.cons (.int _) (.cons (rd.ext e) .nil))⟩
theorem walkD_enum {α : List Addr} {H : Hp} {a : Addr} {n : Nat} {ds : List D} (h1 : α[n]? = some a) : WalkD g (Ite g.K a) (enumD ds) (some (n, ds)) α H := by
  have key : ∀ (B : List Nat) (α1 : List Addr) (H1 : Hp) (s : S), Ext g.K α α1 H H1 → R g B α1 H1 s → gOk (some (n, ds)) s = true → ∃ xs, SqL g.K H1 a xs ∧ RVs g.K α1 H1 xs ds := fun B α1 H1 s e r hg => by
    have ro := r.obj n a _ (e.pre n a h1) (gOk_some hg)
    cases ro with
    | lst h3 h4 => exact ⟨_, .of h3, h4⟩
  refine ⟨fun i B α1 H1 s hi e r hg => ?_, fun B α1 H1 s e r hg => ?_, fun i B α1 H1 s x H' hi e r hg y => ?_⟩
  · obtain ⟨xs, q, rv⟩ := key B α1 H1 s e r hg
    exact walk_enum.goes i H1 (by rw [rv.length, ← enumD_len]; exact hi) q
  · obtain ⟨xs, q, rv⟩ := key B α1 H1 s e r hg
    have z := (walk_enum (K := g.K) (a := a) (xs := xs)).stops H1 q
    rw [rv.length, ← enumD_len] at z
    exact z
  · obtain ⟨xs, q, rv⟩ := key B α1 H1 s e r hg
    exact yld_enum r rv (walk_enum.yields i H1 x H' (by rw [rv.length, ← enumD_len]; exact hi) q y)
theorem walkD_enumF {α : List Addr} {H : Hp} {a : Addr} {xs : List V} {ds : List D} (h1 : FzL g.K H a xs) (h2 : RVs g.K α H xs ds) : WalkD g (Ite g.K a) (enumD ds) none α H := by
  refine ⟨fun i B α1 H1 s hi e r hg => ?_, fun B α1 H1 s e r hg => ?_, fun i B α1 H1 s x H' hi e r hg y => ?_⟩
  · exact walk_enum.goes i H1 (by rw [h2.length, ← enumD_len]; exact hi) (e.frl _ _ h1).sq
  · have z := (walk_enum (K := g.K) (a := a) (xs := xs)).stops H1 (e.frl _ _ h1).sq
    rw [h2.length, ← enumD_len] at z
    exact z
  · exact yld_enum r (h2.ext e) (walk_enum.yields i H1 x H' (by rw [h2.length, ← enumD_len]; exact hi) (e.frl _ _ h1).sq y)
theorem walkD_enumT {α : List Addr} {H : Hp} {a : Addr} {xs : List V} {ds : List D} (h1 : SqT g.K H a xs) (h2 : RVs g.K α H xs ds) : WalkD g (EnT g.K a) (enumD ds) none α H := by
  refine ⟨fun i B α1 H1 s hi e r hg => ?_, fun B α1 H1 s e r hg => ?_, fun i B α1 H1 s x H' hi e r hg y => ?_⟩
  · have hi' : i < xs.length := by rw [h2.length, ← enumD_len]; exact hi
    exact ⟨xs, xs[i], e.tup _ _ h1, by simp [hi']⟩
  · exact ⟨xs, e.tup _ _ h1, by rw [h2.length, ← enumD_len]⟩
  · obtain ⟨T, z, w1, w2, w3, w4⟩ := y
    exact yld_enum r (h2.ext e) ⟨T, .int (i : Nat), z, w1, w2, w3, rfl, w4 xs (e.tup _ _ h1)⟩
theorem si_enum {tpos : Pos} {elts : List Expr} {kk : Nat} (hK : X.K = g.K) (hg : Gl X "enumerate") (hm : X.mg "enumerate" = none) (ha : PE X a (tE g E k ra)) (hs : starEach [a] X.env = (false, eval a X.env) :: starEach [] X.env) :
    PI X (.Tuple elts kk tpos) (.Call (.Name "enumerate" p) [a] [] pos) (tI g E k (Ev.iEnum ra)) :=
  PI.imp (pi_enX hg hm (sa_cons ha sa_nil hs) hs) fun σ H Q ⟨B, α, ρ, s, hR, hE, h⟩ => by
    refine ⟨B, α, ρ, s, hR, hE, ?_⟩
    have h' := PRes.bndI h
    show PRss g E B α H ((ra ⟨k, B⟩ ρ s).bndA fun x s => .ok [x] s) _
    cases hz : ra ⟨k, B⟩ ρ s with
    | exc c s1 => rw [hz] at h'; exact h'
    | fail => rw [hz] at h'; exact h'
    | ok d s1 =>
      rw [hz] at h'
      intro α1 H1 vs e1 R1 r1
      obtain ⟨v, rfl, rv1⟩ := r1.one
      obtain ⟨α2, d2, s2, e2, R2, r2, h2⟩ := h' α1 H1 v e1 R1 rv1
      rw [hK]
      cases r2 with
      | @tup a xs ds h3 h4 => exact ⟨a, xs, rfl, .inr ⟨h3, h2 α2 H1 _ .refl R2 (walkD_enumT h3 h4) rfl⟩⟩
      | @frl a xs ds h3 h4 => exact ⟨a, xs, rfl, .inl ⟨h3.sq, h2 α2 H1 _ .refl R2 (walkD_enumF h3 h4) rfl⟩⟩
      | @ref a n h3 =>
        dsimp only at h2
        split at h2
        · rename_i ds hl
          obtain ⟨p, xs, ep, hn, ho, hp, _⟩ := lst_of R2 (.ref h3) hl
          cases ep
          refine ⟨a, xs, rfl, .inl ⟨.of hp, h2 α2 H1 _ .refl R2 (walkD_enum h3) ?_⟩⟩
          simp only [gOk]
          rw [ho]
          exact D.beqs_self ds
        · exact h2.elim
      | _ => exact (show False from h2).elim
end
end Ev

set_option maxRecDepth 10000
namespace Ev
open PySem L2 PyProof.Rows

section
variable {X : Cx} {g : G} {E : XK} {k : Nat → List Nat → List D → S → Res} {e a b c : Expr} {ra rb rc : ES} {es : List Expr} {as : AS} {pos p : Pos} {tg iter : Expr}
variable {B : List Nat} {α α' : List Addr} {H H' : Hp} {s : S} {ρ : Env}

theorem gOk_none {s : S} : gOk none s = true := rfl
/-- the ends of a turn -/
def turnEnds (g : G) (E : XK) (B : List Nat) (α : List Addr) (H : Hp) (Dd : Ends) (f : Env → S → Out) : Ends :=
  { Dd with nx := fun σ H1 => ∃ α1 ρ1 s1, Ext g.K α α1 H H1 ∧ R g B α1 H1 s1 ∧ RE g.K α1 H1 σ ρ1 ∧ POut g E B α1 H1 (f ρ1 s1) Dd,
            ct := fun σ H1 => ∃ α1 ρ1 s1, Ext g.K α α1 H H1 ∧ R g B α1 H1 s1 ∧ RE g.K α1 H1 σ ρ1 ∧ POut g E B α1 H1 (f ρ1 s1) Dd, bk := Dd.nx }
theorem psh_B {gc : Bool} {b : Nat} : C.psh gc b ⟨k, B⟩ = ⟨k, if gc then b :: B else B⟩ := by cases gc <;> rfl
theorem R.psh {gc : Bool} (r : R g B α H s) : R g (if gc then s.length :: B else B) α H s := by
  cases gc
  · exact r
  · exact r.push
theorem R.unpsh {gc : Bool} {b : Nat} (r : R g (if gc then b :: B else B) α H s) : R g B α H s := by
  cases gc
  · exact r
  · exact R.drop r
/-- what is new is let go, or nothing is -/
theorem turn_of {gc : Bool} {b : Nat} {Dd : Ends} {f : Env → S → Out} {α0 : List Addr} {H0 : Hp} {σ : L2.St} (hb : α0.length = b) (h : POut g E B α0 H0 (turnEnd gc b ρ s f) Dd) (e : Ext g.K α0 α H0 H) (r : R g (if gc then b :: B else B) α H s) (re : RE g.K α H σ ρ) :
    ∃ α1 ρ1 s1, Ext g.K α0 α1 H0 H ∧ R g B α1 H s1 ∧ RE g.K α1 H σ ρ1 ∧ POut g E B α1 H (f ρ1 s1) Dd := by
  unfold turnEnd at h
  split at h
  · rename_i hc
    obtain ⟨rfl, hne⟩ := hc
    have e1 := e.cut hb
    exact ⟨α.take b, _, _, e1, R.fin r, re.cut, h.ext e1⟩
  · exact ⟨α, _, _, e, r.unpsh, re, h.ext e⟩
theorem turn_nx {gc : Bool} {b : Nat} {Dd : Ends} {α0 : List Addr} {H0 : Hp} {σ : L2.St} (hb : α0.length = b) (h : POut g E B α0 H0 (turnEnd gc b ρ s .nx) Dd) (e : Ext g.K α0 α H0 H) (r : R g (if gc then b :: B else B) α H s) (re : RE g.K α H σ ρ) : Dd.nx σ H := by
  obtain ⟨α1, ρ1, s1, e1, R1, E1, h1⟩ := turn_of hb h e r re
  exact h1 α1 H σ .refl R1 E1
/-- a turn of a loop, from what is asked of the whole -/
theorem loop_turn {gc : Bool} {Dd : Ends} {f : Env → S → Out} {o : Out} (hR : R g B α H s)
    (h : POut g E B α H (match o with
      | .nx ρ' s' => turnEnd gc s.length ρ' s' f
      | .ct ρ' s' => turnEnd gc s.length ρ' s' f
      | .bk ρ' s' => turnEnd gc s.length ρ' s' .nx
      | .rt d s' => .rt d s'
      | .exc k s' => .exc k s'
      | .fail => .fail) Dd) : POut g E (if gc then s.length :: B else B) α H o (turnEnds g E B α H Dd f) := by
  cases o with
  | nx ρ' s' => exact fun α1 H1 σ e r re => turn_of hR.len h e r re
  | ct ρ' s' => exact fun α1 H1 σ e r re => turn_of hR.len h e r re
  | bk ρ' s' => exact fun α1 H1 σ e r re => turn_nx hR.len h e r re
  | rt d s' => exact fun α1 H1 v e r rv => h α1 H1 v e r.unpsh rv
  | exc c s' => exact fun α1 H1 v dx e r rv hd => h α1 H1 v dx e r.unpsh rv hd
  | fail => exact h.elim
theorem POut.imp : ∀ {o : Out} {Dd De : Ends}, POut g E B α H o Dd → (∀ σ H, Dd.nx σ H → De.nx σ H) → (∀ σ H, Dd.ct σ H → De.ct σ H) → (∀ σ H, Dd.bk σ H → De.bk σ H) → (∀ v H, Dd.rt v H → De.rt v H) → POut g E B α H o De
  | .nx _ _, _, _, h, i1, _, _, _ => fun a h' σ e r rv => i1 σ h' (h a h' σ e r rv)
  | .ct _ _, _, _, h, _, i2, _, _ => fun a h' σ e r rv => i2 σ h' (h a h' σ e r rv)
  | .bk _ _, _, _, h, _, _, i3, _ => fun a h' σ e r rv => i3 σ h' (h a h' σ e r rv)
  | .rt _ _, _, _, h, _, _, _, i4 => fun a h' v e r rv => i4 v h' (h a h' v e r rv)
  | .exc _ _, _, _, h, _, _, _, _ => h
  | .fail, _, _, h, _, _, _, _ => h.elim
/-- a target, then the body -/
theorem tgt_body {t : TS} {tb : SS} {Dd : Ends} {σ : L2.St} {v : V} {d : D} (ht : TOk t) (hR : R g B α H s) (hE : RE g.K α H σ ρ) (rv : RV g.K α H v d) (h : POut g E B α H ((t ⟨k, B⟩ d ρ s).bnd fun ρ' s' => tb ⟨k, B⟩ ρ' s') Dd) :
    TgD X g E k t v σ H fun σ2 H2 => tSS g E k tb Dd σ2 H2 := by
  refine ⟨B, α, ρ, s, d, hR, hE, rv, ?_⟩
  have q := Out.bnd_P h
  rcases ht ⟨k, B⟩ d ρ s with ⟨ρ', s', e2⟩ | e2 | ⟨z, s', e2⟩
  · rw [e2] at q ⊢
    intro α1 H1 σ1 e1 R1 E1
    obtain ⟨α2, ρ2, s2, e3, R2, E2, h3⟩ := q α1 H1 σ1 e1 R1 E1
    exact ⟨B, α2, ρ2, s2, R2, E2, h3⟩
  · rw [e2] at q; exact q.elim
  · rw [e2] at q ⊢; exact q
/-- the loop, turn by turn -/
theorem for_go {J : It} {gc : Bool} {ds : List D} {gd : Option (Nat × List D)} {t : TS} {tb : SS} {Dd : Ends} {α0 : List Addr} {H0 : Hp} {σ : L2.St} (ht : TOk t) (w : WalkD g J ds gd α0 H0) (e0 : Ext g.K α0 α H0 H) (hR : R g B α H s) (hE : RE g.K α H σ ρ) (hg : gOk gd s = true)
    (h : POut g E B α H (forL gc gd t tb ⟨k, B⟩ ds ρ s) Dd) :
    ∃ W : Nat → Nat → L2.St → Hp → Prop, (∃ m, W 0 m σ H) ∧ ∀ i m σ H, W i m σ H →
      (J.stop i H ∧ Dd.nx σ H) ∨ (J.go i H ∧ ∃ N : L2.St → Hp → Prop, (∀ σ' H', N σ' H' → ∃ m', m' < m ∧ W (i + 1) m' σ' H') ∧ ∀ x H', J.yld i H x H' → TgD X g E k t x σ H' fun σ2 H2 => tSS g E k tb { Dd with nx := N, ct := N, bk := Dd.nx } σ2 H2) := by
  refine ⟨fun i m σ H => m = ds.length - i ∧ i ≤ ds.length ∧ ∃ α ρ s, Ext g.K α0 α H0 H ∧ R g B α H s ∧ RE g.K α H σ ρ ∧ gOk gd s = true ∧ POut g E B α H (forL gc gd t tb ⟨k, B⟩ (ds.drop i) ρ s) Dd,
    ⟨ds.length, by simp, Nat.zero_le _, α, ρ, s, e0, hR, hE, hg, by simpa using h⟩, ?_⟩
  rintro i m σ H ⟨rfl, hi, α, ρ, s, e0, hR, hE, hg, h⟩
  by_cases hlt : i < ds.length
  · refine .inr ⟨w.goes i B α H s hlt e0 hR hg, fun σ' H' => ∃ α1 ρ1 s1, Ext g.K α0 α1 H0 H' ∧ R g B α1 H' s1 ∧ RE g.K α1 H' σ' ρ1 ∧ gOk gd s1 = true ∧ POut g E B α1 H' (forL gc gd t tb ⟨k, B⟩ (ds.drop (i + 1)) ρ1 s1) Dd,
      fun σ' H' q => ⟨ds.length - (i + 1), by omega, rfl, hlt, q⟩, fun x H' y => ?_⟩
    obtain ⟨R1, e1, d, hd, rd⟩ := w.yields i B α H s x H' hlt e0 hR hg y
    have hds : ds.drop i = d :: ds.drop (i + 1) := by
      have e := List.drop_eq_getElem_cons hlt
      rw [(List.getElem?_eq_some_iff.mp hd).2] at e
      exact e
    rw [hds, forL] at h
    have h1 := loop_turn R1 (h.ext e1)
    rw [psh_B] at h1
    refine tgt_body ht R1.psh (hE.ext e1) rd (POut.imp h1 ?_ ?_ (fun _ _ q => q) fun _ _ q => q)
    all_goals
      rintro σ2 H2 ⟨α1, ρ1, s1, e2, R2, E2, h2⟩
      dsimp only at h2
      split at h2
      · rename_i hg2
        exact ⟨α1, ρ1, s1, (e0.trans e1).trans e2, R2, E2, hg2, h2⟩
      · exact h2.elim
  · have e : i = ds.length := by omega
    subst e
    refine .inl ⟨w.stops B α H s e0 hR hg, ?_⟩
    rw [List.drop_length, forL] at h
    exact h α H σ .refl hR hE
theorem ss_for {gc : Bool} {w : IS} {t : TS} {tb : SS} {body : List Stmt} (hp : PassesOwn (model X.prog X.w) X.A X.env X.xe) (hc : X.calm = true) (hi : PI X tg iter (tI g E k w)) (hg : PG X tg (TgD X g E k t)) (ht : TOk t) (hb : PSs X body (tSS g E k tb))
    (hs : ∀ x, foldedSetIterable iter X.env x = pure x) : PS X (.For tg iter body [] pos) (tSS g E k (sFor gc w t tb)) :=
  PS.imp (ps_for hp hc hi hg hb hs) fun σ H Dd ⟨B, α, ρ, s, hR, hE, h⟩ => by
    refine ⟨_, α, ρ, s, hR.psh (gc := gc), hE, ?_⟩
    unfold sFor at h
    rw [psh_B] at h
    cases hz : w ⟨k, if gc then s.length :: B else B⟩ ρ s with
    | fail => rw [hz] at h; exact h.elim
    | exc c s1 =>
      rw [hz] at h
      exact fun α1 H1 v dx e r rv hd => h α1 H1 v dx e r.unpsh rv hd
    | ok ds gd s1 =>
      rw [hz] at h
      intro α1 H1 J e1 R1 wd hg1
      have h' : POut g E (if gc then s.length :: B else B) α H (forL gc gd t tb ⟨k, if gc then s.length :: B else B⟩ ds ρ s1) Dd := by
        have h0 : POut g E B α H (endG gc s.length (forL gc gd t tb ⟨k, if gc then s.length :: B else B⟩ ds ρ s1)) Dd := h
        revert h0
        generalize forL gc gd t tb ⟨k, if gc then s.length :: B else B⟩ ds ρ s1 = o
        intro h0
        cases o with
        | nx ρ' s' => exact fun α1 H1 σ e r re => turn_nx hR.len h0 e r re
        | rt d s' => exact fun α1 H1 v e r rv => h0 α1 H1 v e r.unpsh rv
        | bk ρ' s' => exact fun α1 H1 v e r rv => h0 α1 H1 v e r.unpsh rv
        | ct ρ' s' => exact fun α1 H1 v e r rv => h0 α1 H1 v e r.unpsh rv
        | exc c s' => exact fun α1 H1 v dx e r rv hd => h0 α1 H1 v dx e r.unpsh rv hd
        | fail => exact h0.elim
      exact for_go ht wd .refl R1 (hE.ext e1) hg1 (h'.ext e1)

/-! ### while -/
theorem ss_while {gc : Bool} {tb : SS} {body : List Stmt} (hp : PassesOwn (model X.prog X.w) X.A X.env X.xe) (hc : PT X c (tT g E k rc)) (hb : PSs X body (tSS g E k tb)) : PS X (.While c body [] pos) (tSS g E k (sWhile gc rc tb)) :=
  PS.imp (ps_while hp hc hb) fun σ H Dd ⟨B, α, ρ, s, hR, hE, h⟩ => by
    refine ⟨fun m σ H => ∃ α ρ s, R g B α H s ∧ RE g.K α H σ ρ ∧ POut g E B α H (whileL gc rc tb ⟨k, B⟩ m ρ s) Dd, ⟨turns, α, ρ, s, hR, hE, h⟩, ?_⟩
    rintro m σ H ⟨α, ρ, s, hR, hE, h⟩
    cases m with
    | zero => exact h.elim
    | succ m =>
      rw [whileL, psh_B] at h
      refine ⟨if gc then s.length :: B else B, α, ρ, s, hR.psh, hE, ?_⟩
      have key : ∀ {r : Res}, POut g E B α H (r.tstS fun z s1 => if z = true then
          (match tb ⟨k, if gc then s.length :: B else B⟩ ρ s1 with
          | .nx ρ' s' => turnEnd gc s.length ρ' s' (whileL gc rc tb ⟨k, B⟩ m)
          | .ct ρ' s' => turnEnd gc s.length ρ' s' (whileL gc rc tb ⟨k, B⟩ m)
          | .bk ρ' s' => turnEnd gc s.length ρ' s' .nx
          | .rt d s' => .rt d s'
          | .exc k s' => .exc k s'
          | .fail => .fail)
          else turnEnd gc s.length ρ s1 .nx) Dd → PTst g E (if gc then s.length :: B else B) α H r fun z H1 => if z = true then ∃ N : L2.St → Hp → Prop, (∀ σ' H', N σ' H' → ∃ m', m' < m + 1 ∧ ∃ α ρ s, R g B α H' s ∧ RE g.K α H' σ' ρ ∧ POut g E B α H' (whileL gc rc tb ⟨k, B⟩ m' ρ s) Dd) ∧ tSS g E k tb { Dd with nx := N, ct := N, bk := Dd.nx } σ H1 else Dd.nx σ H1 := by
        intro r h
        cases r with
        | fail => exact h.elim
        | exc c s1 => exact fun α1 H1 v dx e r rv hd => h α1 H1 v dx e r.unpsh rv hd
        | ok d s1 =>
          simp only [Res.tstS] at h
          split at h
          · rename_i z hz
            refine ⟨z, hz, fun α1 H1 e1 R1 => ?_⟩
            cases z with
            | false =>
              rw [if_neg Bool.false_ne_true] at h ⊢
              exact turn_nx hR.len h e1 R1 (hE.ext e1)
            | true =>
              rw [if_pos rfl] at h ⊢
              refine ⟨fun σ' H' => ∃ α1 ρ1 s1, R g B α1 H' s1 ∧ RE g.K α1 H' σ' ρ1 ∧ POut g E B α1 H' (whileL gc rc tb ⟨k, B⟩ m ρ1 s1) Dd, fun σ' H' q => ⟨m, Nat.lt_succ_self m, q⟩, _, α1, ρ, s1, R1, hE.ext e1, ?_⟩
              refine POut.imp ((loop_turn hR h).ext e1) ?_ ?_ (fun _ _ q => q) fun _ _ q => q
              all_goals
                rintro σ2 H2 ⟨α2, ρ2, s2, e2, R2, E2, h2⟩
                exact ⟨α2, ρ2, s2, R2, E2, h2⟩
          · exact h.elim
      exact key h
end
end Ev

set_option maxRecDepth 10000
namespace Ev
open PySem L2 PyProof.Rows

section
variable {X : Cx} {g : G} {E : XK} {k : Nat → List Nat → List D → S → Res} {e a b c : Expr} {ra rb rc : ES} {es : List Expr} {as : AS} {pos p : Pos} {tg iter : Expr}
variable {B : List Nat} {α α' : List Addr} {H H' : Hp} {s : S} {ρ : Env}

/-! ### the targets of a comprehension: its own names -/
/-- t stores into the slots vs alone -/
structure TgW (g : G) (vs : List Nat) (t : TS) (gt : TG) : Prop where
  st : ∀ (c : C) (d : D) (ρ : Env) (s : S) (ρ' : Env) (s' : S), t c d ρ s = .nx ρ' s' → s' = s
  go : ∀ (c : C) (v : V) (d : D) (σ : L2.St) (ρ : Env) (α : List Addr) (B : List Nat) (s : S) (H : Hp) (Q : L2.St → Hp → Prop), R g B α H s → RE g.K α H σ ρ → RV g.K α H v d →
    ∀ (ρ' : Env) (s' : S), t c d ρ s = .nx ρ' s' → (∀ σ', wipe σ' vs = wipe σ vs → RE g.K α H σ' ρ' → Q σ' H) → gt v σ H Q
structure TgsW (g : G) (vs : List Nat) (t : TSs) (gt : TGs) : Prop where
  st : ∀ (c : C) (d : List D) (ρ : Env) (s : S) (ρ' : Env) (s' : S), t c d ρ s = .nx ρ' s' → s' = s
  go : ∀ (c : C) (v : List V) (d : List D) (σ : L2.St) (ρ : Env) (α : List Addr) (B : List Nat) (s : S) (H : Hp) (Q : L2.St → Hp → Prop), R g B α H s → RE g.K α H σ ρ → RVs g.K α H v d →
    ∀ (ρ' : Env) (s' : S), t c d ρ s = .nx ρ' s' → (∀ σ', wipe σ' vs = wipe σ vs → RE g.K α H σ' ρ' → Q σ' H) → gt v σ H Q
theorem wipe_out' {σ : L2.St} {i : Nat} : ∀ {vs : List Nat}, i ∉ vs → (wipe σ vs)[i]? = σ[i]? := wipe_out
theorem wipe_none {σ : L2.St} {i : Nat} : ∀ {vs : List Nat}, i ∈ vs → (wipe σ vs)[i]? = if i < σ.length then some none else none
  | v :: vs, h => by
    show ((wipe σ vs).set v none)[i]? = _
    by_cases e : v = i
    · subst e
      by_cases hl : v < σ.length
      · rw [List.getElem?_set_self (by rw [wipe_length]; exact hl), if_pos hl]
      · rw [if_neg hl, List.getElem?_eq_none (by rw [List.length_set, wipe_length]; omega)]
    · rw [List.getElem?_set_ne e]
      exact wipe_none ((List.mem_cons.mp h).resolve_left (Ne.symm e))
theorem wipe_set {σ : L2.St} {i : Nat} {v : Option V} {vs : List Nat} (h : i ∈ vs) : wipe (σ.set i v) vs = wipe σ vs := by
  apply List.ext_getElem?
  intro j
  by_cases hj : j ∈ vs
  · rw [wipe_none hj, wipe_none hj, List.length_set]
  · rw [wipe_out hj, wipe_out hj, List.getElem?_set_ne (fun (e : i = j) => hj (e ▸ h))]
theorem RE.setw {K : PySem.W.Frag} {σ : L2.St} {v : V} {d : D} {i : Nat} (r : RE K α H σ ρ) (rv : RV K α H v d) : RE K α H (σ.set i (some v)) (sv ρ i d) := by
  by_cases hi : i < σ.length
  · exact r.set rv hi
  · have e1 : σ.set i (some v) = σ := List.set_eq_of_length_le (by omega)
    have e2 : ∀ (ρ : Env) (i : Nat), ρ.length ≤ i → sv ρ i d = ρ := by
      intro ρ
      induction ρ with
      | nil => intro i _; rfl
      | cons x r ih =>
        intro i hi
        cases i with
        | zero => simp at hi
        | succ i => rw [sv, ih i (by simpa using hi)]
    rw [e1, e2 ρ i (by rw [← r.1]; omega)]
    exact r
theorem cg_name {i : Nat} {vs : List Nat} (hi : i ∈ vs) : TgW g vs (tName i) (gName i) := by
  refine ⟨fun c d ρ s ρ' s' h => by cases h; rfl, fun c v d σ ρ α B s H Q hR hE rv ρ' s' h q => ?_⟩
  cases h
  exact q _ (wipe_set hi) (hE.setw rv)
theorem cgs_nil {vs : List Nat} : TgsW g vs tsNil gNil := by
  refine ⟨fun c d ρ s ρ' s' h => ?_, fun c v d σ ρ α B s H Q hR hE rv ρ' s' h q => ?_⟩
  · cases d <;> cases h; rfl
  · cases rv with
    | nil =>
      cases h
      exact ⟨rfl, q _ rfl hE⟩
    | cons _ _ => cases h
theorem cgs_cons {t : TS} {u : TSs} {gt : TG} {gu : TGs} {vs : List Nat} (h1 : TgW g vs t gt) (h2 : TgsW g vs u gu) : TgsW g vs (tsCons t u) (gCons gt gu) := by
  refine ⟨fun c d ρ s ρ' s' h => ?_, fun c v d σ ρ α B s H Q hR hE rv ρ' s' h q => ?_⟩
  · cases d with
    | nil => cases h
    | cons d dr =>
      have h' : (t c d ρ s).bnd (fun ρ s => u c dr ρ s) = .nx ρ' s' := h
      cases hz : t c d ρ s with
      | nx ρ1 s1 =>
        rw [hz] at h'
        rw [h2.st c dr ρ1 s1 ρ' s' h', h1.st c d ρ s ρ1 s1 hz]
      | _ => rw [hz] at h'; cases h'
  · cases rv with
    | nil => cases h
    | @cons v d vr dr r rr =>
      have h' : (t c d ρ s).bnd (fun ρ s => u c dr ρ s) = .nx ρ' s' := h
      cases hz : t c d ρ s with
      | nx ρ1 s1 =>
        rw [hz] at h'
        have e1 := h1.st c d ρ s ρ1 s1 hz
        subst e1
        refine ⟨v, vr, rfl, h1.go c v d σ ρ α B s1 H _ hR hE r ρ1 s1 hz fun σ1 hw hE1 => ?_⟩
        exact h2.go c vr dr σ1 ρ1 α B s1 H Q hR hE1 rr ρ' s' h' fun σ2 hw2 hE2 => q σ2 (hw2.trans hw) hE2
      | _ => rw [hz] at h'; cases h'
/-- a tuple or a list, taken apart -/
def gSq (K : PySem.W.Frag) (n : Nat) (u : TGs) : TG := fun v σ H Q => gTup K n u v σ H Q ∨ gLst K n u v σ H Q
theorem pg_sq {j n : Nat} {u : TGs} (hc : X.calm = true) (h : PGs X es u) (hn : (assignEach es X.env).length = n) (hst : (assignEach es X.env).findIdx? (·.1) = none) : PG X (.Tuple es j pos) (gSq X.K n u) :=
  ⟨fun pins s σ H v w Q I r q => q.elim (fun q => (pg_tup hc h hn hst).run pins s σ H v w Q I r q) fun q => (pg_lst hc h hn hst).run pins s σ H v w Q I r q⟩
theorem cg_tup {n : Nat} {u : TSs} {gu : TGs} {vs : List Nat} (h2 : TgsW g vs u gu) : TgW g vs (tTup n u) (gSq g.K n gu) := by
  refine ⟨fun c d ρ s ρ' s' h => ?_, fun c v d σ ρ α B s H Q hR hE rv ρ' s' h q => ?_⟩
  · unfold tTup at h
    split at h
    · split at h
      · exact h2.st _ _ _ _ _ _ h
      · cases h
    · cases h
  · unfold tTup at h
    split at h
    · rename_i ds hd
      split at h
      · rename_i hl
        obtain ⟨a, xs, rfl, h1, hr⟩ := seq_of hR rv hd
        have q' := h2.go c xs ds σ ρ α B s H Q hR hE hr ρ' s' h q
        rcases h1 with h1 | h1
        · exact .inr ⟨a, xs, rfl, h1, hr.length.trans hl, q'⟩
        · exact .inl ⟨a, xs, rfl, h1, hr.length.trans hl, q'⟩
      · cases h
    · cases h

/-! ### the list that is made, not spoken of yet -/
theorem Ext0.chg {K : PySem.W.Frag} {p : Addr} {u o : HO} (hp : H p = some o) (ho : Chg o) : Ext0 K α α H (upd H p u) := (Ext.chg (α := [p]) (List.mem_singleton.mpr rfl) hp ho : Ext K [p] [p] H (upd H p u)).e0 |> fun e => ⟨fun _ _ h => h, e.tup, e.frl⟩
theorem Ext0.lift {K : PySem.W.Frag} {β : List Addr} (e : Ext0 K β β H H') : Ext0 K α α H H' := ⟨fun _ _ h => h, e.tup, e.frl⟩
theorem R.offc {p : Addr} {u o : HO} (r : R g B α H s) (hn : p ∉ α) (hp : H p = some o) (ho : Chg o) : R g B α (upd H p u) s := by
  refine ⟨r.len, r.nd, fun n a o' ha ho' => (r.obj n a o' ha ho').ext0 (.chg hp ho) (upd_ne fun (z : a = p) => hn (z ▸ List.mem_of_getElem? ha)), r.blk, fun q hq => ?_, r.ord⟩
  obtain ⟨ps, h1, h2, h3⟩ := r.tabs q hq
  have nt : ∀ {b : Addr} {w : HO}, H b = some w → ¬ Chg w → b ≠ p := fun {b w} h c z => by
    rw [z, hp] at h
    cases h
    exact c ho
  refine ⟨ps, by rw [upd_ne (nt h1 id)]; exact h1, h2, fun pos cv hcv => ?_⟩
  obtain ⟨c, e1, e2⟩ := h3 pos cv hcv
  exact ⟨c, e1, by rw [upd_ne (nt e2 id)]; exact e2⟩
/-- an object comes to be spoken of -/
theorem R.adopt {p : Addr} {o : O} (r : R g B α H s) (hp : p ∉ α) (ro : RO g α H p o) : R g B (α ++ [p]) H (s ++ [o]) := by
  have l : α.length = s.length := r.len
  have e : Ext0 g.K α (α ++ [p]) H H := ⟨fun m b hm => by rw [List.getElem?_append_left (List.getElem?_eq_some_iff.mp hm).1]; exact hm, fun _ _ h => h, fun _ _ h => h⟩
  refine ⟨by simp [l], List.nodup_append.mpr ⟨r.nd, by simp, fun x hx y hy z => hp ?_⟩, fun m b o' hm ho => ?_, fun c hc => ?_, r.tabs, r.ord⟩
  · have e1 : y = p := by simpa using hy
    subst e1
    subst z
    exact hx
  · by_cases hms : m < s.length
    · rw [List.getElem?_append_left (by omega)] at hm ho
      exact (r.obj m b o' hm ho).ext0 e rfl
    · have hme : m = s.length := by
        have := (List.getElem?_eq_some_iff.mp ho).1
        simp at this
        omega
      subst hme
      rw [List.getElem?_append_right (by omega)] at hm ho
      simp [l] at hm ho
      subst hm ho
      exact ro.ext0 e rfl
  · obtain ⟨h1, h2⟩ := r.blk c hc
    refine ⟨by simp; omega, fun m o' hm ho => ?_⟩
    rw [List.getElem?_append_left (by omega)] at ho
    exact h2 m o' hm ho

/-! ### comprehensions -/
abbrev noE : XK := fun _ _ _ => False
theorem Itm.bnd_P {f : List D → Option (Nat × List D) → S → Res} : ∀ {r : Itm} {Q : VK}, PRes g E B α H (r.bnd f) Q → PItm g E B α H r fun J H1 => ∃ α1 ds gd s, Ext g.K α α1 H H1 ∧ R g B α1 H1 s ∧ WalkD g J ds gd α1 H1 ∧ gOk gd s = true ∧ PRes g E B α1 H1 (f ds gd s) Q
  | .ok _ _ _, _, h => fun _ _ _ e r w hg => ⟨_, _, _, _, e, r, w, hg, PRes.ext h e⟩
  | .exc _ _, _, h => h
  | .fail, _, h => h
theorem PRss.finA (r : R g B α H s) {Q : List V → Hp → Prop} : ∀ {z : Rss}, PRss g E B α H (Ev.finA s.length z) Q → PRss g E (s.length :: B) α H z Q := by
  intro z h
  cases z with
  | ok d t =>
    intro α' H' v e r' rv
    simp only [Ev.finA] at h
    split at h
    · exact h α' H' v e r'.drop rv
    · split at h
      · exact h α' H' v e r'.drop rv
      · rename_i hy
        exact h (α'.take s.length) H' v (e.cut r.len) r'.fin (rv.cut (by simpa using hy))
  | exc c t => exact fun α' H' v dx e r' rv hd => h α' H' v dx e r'.drop rv hd
  | fail => exact h.elim
theorem RE.wipe {K : PySem.W.Frag} {σ : L2.St} (r : RE K α H σ ρ) : ∀ vs : List Nat, RE K α H (L2.wipe σ vs) (wipeD ρ vs)
  | [] => r
  | v :: vs => by
    have q := RE.wipe r vs
    refine ⟨by show ((L2.wipe σ vs).set v none).length = (sv (wipeD ρ vs) v .und).length; rw [List.length_set, sv_length, q.1], fun i h => ?_⟩
    have h' : gv (sv (wipeD ρ vs) v .und) i ≠ .und := h
    by_cases e : v = i
    · subst e
      by_cases hl : v < (wipeD ρ vs).length
      · rw [gv_sv_same hl] at h'
        exact absurd rfl h'
      · have := gv_lt h'
        rw [sv_length] at this
        exact absurd this hl
    · have e2 : gv (wipeD ρ (v :: vs)) i = gv (wipeD ρ vs) i := gv_sv_ne e
      rw [e2] at h ⊢
      obtain ⟨w, h1, h2⟩ := q.2 i h
      exact ⟨w, by show ((L2.wipe σ vs).set v none)[i]? = _; rw [List.getElem?_set_ne e]; exact h1, h2⟩
/-- what the test asks -/
def PTs1 (g : G) (k : Nat → List Nat → List D → S → Res) (B : List Nat) (α : List Addr) (H : Hp) (ts : Option ES) (ρ : Env) (s : S) (Q : Bool → Hp → Prop) : Prop := match ts with
  | none => Q true H
  | some q => PTst g noE B α H (q ⟨k, B⟩ ρ s) Q
theorem wipe_wipe {σ : L2.St} {vs : List Nat} : L2.wipe (L2.wipe σ vs) vs = L2.wipe σ vs := by
  apply List.ext_getElem?
  intro j
  by_cases hj : j ∈ vs
  · rw [wipe_none hj, wipe_none hj, wipe_length]
  · rw [wipe_out hj]
/-- one item: asked, then reckoned -/
theorem comp_one {ts : Option ES} {te : ES} {tt : TT} {σ : L2.St} {Q : List V → Hp → Prop} (ht : ∀ Q', PTs1 g k B α H ts ρ s Q' → tt σ H Q') (hR : R g B α H s) (hE : RE g.K α H σ ρ) (h : PRss g noE B α H (compE ts te ⟨k, B⟩ ρ s) Q)
    {Gg : Bool → Hp → Prop} (hG : ∀ z H3, (if z = true then tE g noE k te σ H3 fun y H4 => Q [y] H4 else Q [] H3) → Gg z H3) : tt σ H Gg := by
  have one : ∀ {α : List Addr} {H : Hp} {s : S}, R g B α H s → RE g.K α H σ ρ → PRss g noE B α H ((te ⟨k, B⟩ ρ s).bndA fun x s => .ok [x] s) Q → tE g noE k te σ H fun y H4 => Q [y] H4 := fun {α H s} hR hE h => by
    refine ⟨B, α, ρ, s, hR, hE, (PRes.bndA h).imp fun y H4 ⟨α4, d, s4, e4, R4, r4, h4⟩ => ?_⟩
    exact h4 α4 H4 [y] .refl R4 (.cons r4 .nil)
  apply ht
  cases ts with
  | none =>
    refine hG true H ?_
    rw [if_pos rfl]
    exact one hR hE h
  | some q =>
    have h' : PRss g noE B α H ((q ⟨k, B⟩ ρ s).tstA fun k' s => if k' = true then (te ⟨k, B⟩ ρ s).bndA fun x s => .ok [x] s else .ok [] s) Q := h
    show PTst g noE B α H (q ⟨k, B⟩ ρ s) _
    cases hz : q ⟨k, B⟩ ρ s with
    | fail => rw [hz] at h'; exact h'
    | exc c s' => rw [hz] at h'; exact h'
    | ok d s' =>
      rw [hz] at h'
      simp only [Res.tstA] at h'
      split at h'
      · rename_i z hz2
        refine ⟨z, hz2, fun α1 H1 e1 R1 => hG z H1 ?_⟩
        cases z with
        | true =>
          rw [if_pos rfl] at h' ⊢
          exact one R1 (hE.ext e1) (h'.ext e1)
        | false =>
          rw [if_neg Bool.false_ne_true] at h' ⊢
          exact h' α1 H1 [] e1 R1 .nil
      · exact h'.elim
end
end Ev

set_option maxRecDepth 10000
namespace Ev
open PySem L2 PyProof.Rows

section
variable {X : Cx} {g : G} {E : XK} {k : Nat → List Nat → List D → S → Res} {e a b c : Expr} {ra rb rc : ES} {es : List Expr} {as : AS} {pos p : Pos} {tg iter elt : Expr}
variable {B : List Nat} {α α' : List Addr} {H H' : Hp} {s : S} {ρ : Env}

theorem PRes.bndR {f : List D → S → Res} : ∀ {r : Rss} {Q : VK}, PRes g E B α H (r.bnd f) Q → PRss g E B α H r fun v H1 => ∃ α1 d s, Ext g.K α α1 H H1 ∧ R g B α1 H1 s ∧ RVs g.K α1 H1 v d ∧ PRes g E B α1 H1 (f d s) Q := PRss.bnd
/-- the whole comprehension -/
theorem comp_go {w : IS} {t : TS} {gt : TG} {ts : Option ES} {te : ES} {tt : TT} {own : List Nat} {σ : L2.St} {Q : VK}
    (ht : ∀ (B : List Nat) (α : List Addr) (ρ : Env) (s : S) (σ : L2.St) (H : Hp) (Q' : Bool → Hp → Prop), R g B α H s → RE g.K α H σ ρ → PTs1 g k B α H ts ρ s Q' → tt σ H Q')
    (hw : TgW g own t gt) (h : tE g E k (eComp w own t ts te) σ H Q) : tLc (tI g E k w) gt tt (tE g noE k te) own σ H Q := by
  obtain ⟨B, α, ρ, s, hR, hE, h⟩ := h
  refine ⟨s.length :: B, α, ρ, s, hR.push, hE, (Itm.bnd_P (PRes.finF hR h)).imp fun J H1 ⟨α1, ds, gd, s1, e1, R1, wd, hg1, h1⟩ Dn hD => ?_⟩
  split at h1
  · rename_i hlim
    refine ⟨fun i m H2 => m = ds.length - i ∧ i ≤ ds.length ∧ ∃ α2 s2 accV acc, Ext g.K α1 α2 H1 H2 ∧ R g (s.length :: B) α2 H2 s2 ∧ gOk gd s2 = true ∧ H2 Dn = some (.lst accV) ∧ Dn ∉ α2 ∧ RVs g.K α2 H2 accV acc ∧ accV.length ≤ i ∧
      PRes g E (s.length :: B) α1 H1 ((compL gd t ts te ⟨k, s.length :: B⟩ (wipeD ρ own) (ds.drop i) s2).bnd fun xs s2 => al (.lst (acc ++ xs)) s2) Q, ⟨ds.length, by simp, Nat.zero_le _, α1, s1, [], [], .newT hD, R1.newT hD, hg1, upd_same, R1.notin hD, .nil, Nat.zero_le _, ?_⟩, ?_⟩
    · simpa using h1
    rintro i m H2 ⟨rfl, hi, α2, s2, accV, acc, e2, R2, hg2, hD2, hn2, racc, hlen, h2⟩
    by_cases hlt : i < ds.length
    · refine .inr ⟨wd.goes i _ α2 H2 s2 hlt e2 R2 hg2, fun H3 => ∃ α2 s2 accV acc, Ext g.K α1 α2 H1 H3 ∧ R g (s.length :: B) α2 H3 s2 ∧ gOk gd s2 = true ∧ H3 Dn = some (.lst accV) ∧ Dn ∉ α2 ∧ RVs g.K α2 H3 accV acc ∧ accV.length ≤ i + 1 ∧
        PRes g E (s.length :: B) α1 H1 ((compL gd t ts te ⟨k, s.length :: B⟩ (wipeD ρ own) (ds.drop (i + 1)) s2).bnd fun xs s2 => al (.lst (acc ++ xs)) s2) Q, fun H3 q => ⟨ds.length - (i + 1), by omega, rfl, hlt, q⟩, fun x H3 y => ?_⟩
      obtain ⟨R3, e3, d, hd, rd⟩ := wd.yields i _ α2 H2 s2 x H3 hlt e2 R2 hg2 y
      have hds : ds.drop i = d :: ds.drop (i + 1) := by
        have z := List.drop_eq_getElem_cons hlt
        rw [(List.getElem?_eq_some_iff.mp hd).2] at z
        exact z
      rw [hds, compL] at h2
      have hE3 : RE g.K α2 H3 (L2.wipe σ own) (wipeD ρ own) := (((hE.ext e1).ext e2).ext e3).wipe own
      split at h2
      · rename_i ρ' s1' hz
        have est := hw.st _ _ _ _ _ _ hz
        subst est
        refine hw.go _ x d _ _ α2 _ _ H3 _ R3 hE3 rd ρ' s1' hz fun σ' hσ hE' => ⟨hσ.trans wipe_wipe, ?_⟩
        have R4 := R3.push
        have hD3 := e3.off Dn _ hD2 (fun _ z => by cases z) hn2
        refine comp_one (tt := tt) (te := te) (ts := ts) (ρ := ρ') (s := s1') (B := s1'.length :: s.length :: B) (α := α2) (H := H3) (σ := σ') (k := k)
          (Q := fun ys H5 => ∃ α5 s5 xs, Ext g.K α2 α5 H3 H5 ∧ R g (s.length :: B) α5 H5 s5 ∧ RVs g.K α5 H5 ys xs ∧ gOk gd s5 = true ∧
            PRes g E (s.length :: B) α1 H1 ((compL gd t ts te ⟨k, s.length :: B⟩ (wipeD ρ own) (ds.drop (i + 1)) s5).bnd fun ys s2 => al (.lst (acc ++ (xs ++ ys))) s2) Q)
          (fun Q' q => ht _ α2 ρ' s1' σ' H3 Q' R4 hE' q) R4 hE' (PRss.finA R3 (by
            revert h2
            show PRes g E _ α1 H1 ((match finA s1'.length (compE ts te ⟨k, s1'.length :: s.length :: B⟩ ρ' s1') with | .ok xs s4 => _ | _ => Rss.fail).bnd _) Q → _
            cases finA s1'.length (compE ts te ⟨k, s1'.length :: s.length :: B⟩ ρ' s1') with
            | fail => exact fun h2 => h2.elim
            | exc c t => exact fun h2 => h2.elim
            | ok xs s4 =>
              intro h2 α5 H5 ys e5 R5 r5
              dsimp only at h2
              split at h2
              · rename_i hg5
                refine ⟨α5, s4, xs, e5, R5, r5, hg5, ?_⟩
                revert h2
                cases compL gd t ts te ⟨k, s.length :: B⟩ (wipeD ρ own) (ds.drop (i + 1)) s4 with
                | ok a s6 => exact fun h2 => h2
                | exc c t => exact fun h2 => h2
                | fail => exact fun h2 => h2
              · exact h2.elim)) ?_
        rintro z H4
        cases z with
        | false =>
          rw [if_neg Bool.false_ne_true, if_neg Bool.false_ne_true]
          rintro ⟨α5, s5, xs, e5, R5, r5, hg5, h5⟩
          cases r5
          have hD5 := e5.off Dn _ hD3.1 (fun _ z => by cases z) hD3.2
          refine ⟨α5, s5, accV, acc, (e2.trans e3).trans e5, R5, hg5, hD5.1, hD5.2, (racc.ext e3).ext e5, by omega, by simpa using h5⟩
        | true =>
          rw [if_pos rfl, if_pos rfl]
          rintro ⟨B6, α6, ρ6, s6, R6, E6, h6⟩
          refine ⟨B6, α6, ρ6, s6, R6, E6, h6.imp fun y H5 ⟨α5, s5, xs, e5, R5, r5, hg5, h5⟩ => ?_⟩
          have hD5 := e5.off Dn _ hD3.1 (fun _ z => by cases z) hD3.2
          have eo : Ext0 g.K α5 α5 H5 (upd H5 Dn (.lst (accV ++ [y]))) := .chg hD5.1 trivial
          have eT := (e2.trans e3).trans e5
          refine ⟨accV, hD5.1, by rw [sizeLine_eq]; unfold lim at hlim; omega, α5, s5, accV ++ [y], acc ++ xs, ⟨⟨eT.pre, fun a xs h => eo.tup a xs (eT.tup a xs h), fun a xs h => eo.frl a xs (eT.frl a xs h)⟩, fun a o ha ht hn => ⟨?_, (eT.off a o ha ht hn).2⟩, fun a o k h => by have q := eT.frz a o k h; rw [upd_ne fun z => by rw [z, hD5.1] at q; cases q]; exact q⟩, R5.offc hD5.2 hD5.1 trivial, hg5, upd_same, hD5.2, ?_, by simp; omega, ?_⟩
          · rw [upd_ne (ne_of_none ha hD)]
            exact (eT.off a o ha ht hn).1
          · exact ((((racc.ext e3).ext e5).append r5).ext0 eo)
          · simpa using h5
      · exact h2.elim
    · have ei : i = ds.length := by omega
      subst ei
      refine .inl ⟨wd.stops _ α2 H2 s2 e2 R2 hg2, ?_⟩
      rw [List.drop_length, compL] at h2
      have h3 : PRes g E (s.length :: B) α1 H1 (al (.lst acc) s2) Q := by simpa [Rss.bnd] using h2
      refine h3 (α2 ++ [Dn]) H2 (.ref Dn) ⟨⟨fun m b hm => by rw [List.getElem?_append_left (List.getElem?_eq_some_iff.mp (e2.pre m b hm)).1]; exact e2.pre m b hm, e2.tup, e2.frl⟩, fun a o ha ht hn => ⟨(e2.off a o ha ht hn).1, fun q => ?_⟩, e2.frz⟩
        (R2.adopt hn2 (.lst hD2 racc)) (.ref ?_)
      · rcases List.mem_append.mp q with q | q
        · exact (e2.off a o ha ht hn).2 q
        · exact ne_of_none ha hD (List.mem_singleton.mp q)
      · rw [List.getElem?_append_right (by rw [R2.len]; exact Nat.le_refl _), R2.len]
        simp
  · exact h1.elim
end
end Ev

set_option maxRecDepth 10000
namespace Ev
open PySem L2 PyProof.Rows

section
variable {X : Cx} {g : G} {E : XK} {k : Nat → List Nat → List D → S → Res} {e a b c : Expr} {ra rb rc : ES} {es : List Expr} {as : AS} {pos p : Pos} {tg iter elt : Expr}
variable {w : IS} {t : TS} {gt : TG} {te : ES} {tq : ES} {scope : Scope} {own : List (Str × Nat)} {cond : Expr} {i : Nat} {y : Str} {py spos : Pos}
/-- the block of a comprehension -/
abbrev BlkAll (X : Cx) (scope : Scope) (Pp : Cx → Prop) : Prop := ∀ (s : Shared) (H : Hp) (C : Addr) (cl : List (Str × Addr)) (fp : List Addr), Pp (X.blk s H scope (compEnvC scope cl C X.env) fp)
theorem se_comp (hc : X.calm = true) (hN : X.N.Nodup) (hi : PI X tg iter (tI g E k w)) (ok : BlkOk X.N X.env.scope scope own) (hw : TgW g (own.map (·.2)) t gt) (hg : BlkAll X scope fun Y => PG Y tg gt) (he : BlkAll X scope fun Y => PE Y elt (tE g noE k te)) (hs : ∀ x, foldedSetIterable iter X.env x = pure x) :
    PE X (.ListComp elt [⟨tg, iter, [], 0⟩] scope pos) (tE g E k (eComp w (own.map (·.2)) t none te)) :=
  PE.imp (pe_lc hc hN hi ok hg (fun _ _ _ _ _ => pts_nil) he hs) fun σ H Q h => comp_go (ts := none) (tt := tYes) (fun _ _ _ _ _ _ _ _ _ q => q) hw h
theorem se_compQ (hc : X.calm = true) (hN : X.N.Nodup) (hi : PI X tg iter (tI g E k w)) (ok : BlkOk X.N X.env.scope scope own) (hw : TgW g (own.map (·.2)) t gt) (hg : BlkAll X scope fun Y => PG Y tg gt) (hq : BlkAll X scope fun Y => PT Y cond (tT g noE k tq)) (he : BlkAll X scope fun Y => PE Y elt (tE g noE k te)) (hs : ∀ x, foldedSetIterable iter X.env x = pure x) :
    PE X (.ListComp elt [⟨tg, iter, [cond], 0⟩] scope pos) (tE g E k (eComp w (own.map (·.2)) t (some tq) te)) :=
  PE.imp (pe_lc hc hN hi ok hg (fun s H C cl fp => pts_one (hq s H C cl fp)) he hs) fun σ H Q h => comp_go (ts := some tq) (fun B α ρ s σ H Q' r re q => ⟨B, α, ρ, s, r, re, q⟩) hw h
theorem ss_setLc (hc : X.calm = true) (hN : X.N.Nodup) (hy : X.N[i]? = some y) (hyl : X.env.scope.names.lookup y = some .local) (hsw : swapsWith (.ListComp elt [⟨tg, iter, [], 0⟩] scope pos) (some (.Name y py)) spos.line X.env = pure true)
    (hi : PI X tg iter (tI g E k w)) (ok : BlkOk X.N X.env.scope scope own) (hw : TgW g (own.map (·.2)) t gt) (hg : BlkAll X scope fun Y => PG Y tg gt) (he : BlkAll X scope fun Y => PE Y elt (tE g noE k te)) (hs : ∀ x, foldedSetIterable iter X.env x = pure x) :
    PS X (.Assign [.Name y py] (.ListComp elt [⟨tg, iter, [], 0⟩] scope pos) spos) (tSS g E k (sSet i (eComp w (own.map (·.2)) t none te))) :=
  PS.imp (ps_setLc hc hN hy hyl hsw hi ok hg (fun _ _ _ _ _ => pts_nil) he hs) fun σ H Dd h => comp_go (ts := none) (tt := tYes) (fun _ _ _ _ _ _ _ _ _ q => q) hw (by
    obtain ⟨B, α, ρ, s, hR, hE, h⟩ := h
    exact ⟨B, α, ρ, s, hR, hE, (PRes.bndS h).imp fun v H1 ⟨α1, d, s1, e1, R1, r1, h1⟩ => h1 α1 H1 _ .refl R1 ((hE.ext e1).setw r1)⟩)
theorem ss_setLcQ (hc : X.calm = true) (hN : X.N.Nodup) (hy : X.N[i]? = some y) (hyl : X.env.scope.names.lookup y = some .local) (hsw : swapsWith (.ListComp elt [⟨tg, iter, [cond], 0⟩] scope pos) (some (.Name y py)) spos.line X.env = pure true)
    (hi : PI X tg iter (tI g E k w)) (ok : BlkOk X.N X.env.scope scope own) (hw : TgW g (own.map (·.2)) t gt) (hg : BlkAll X scope fun Y => PG Y tg gt) (hq : BlkAll X scope fun Y => PT Y cond (tT g noE k tq)) (he : BlkAll X scope fun Y => PE Y elt (tE g noE k te)) (hs : ∀ x, foldedSetIterable iter X.env x = pure x) :
    PS X (.Assign [.Name y py] (.ListComp elt [⟨tg, iter, [cond], 0⟩] scope pos) spos) (tSS g E k (sSet i (eComp w (own.map (·.2)) t (some tq) te))) :=
  PS.imp (ps_setLc hc hN hy hyl hsw hi ok hg (fun s H C cl fp => pts_one (hq s H C cl fp)) he hs) fun σ H Dd h => comp_go (ts := some tq) (fun B α ρ s σ H Q' r re q => ⟨B, α, ρ, s, r, re, q⟩) hw (by
    obtain ⟨B, α, ρ, s, hR, hE, h⟩ := h
    exact ⟨B, α, ρ, s, hR, hE, (PRes.bndS h).imp fun v H1 ⟨α1, d, s1, e1, R1, r1, h1⟩ => h1 α1 H1 _ .refl R1 ((hE.ext e1).setw r1)⟩)
end
end Ev

set_option maxRecDepth 10000
namespace Ev
open PySem L2 PyProof.Rows

/-! ### the context of a piece of code, in short -/
/-- what is the same through the whole law -/
structure W0 where
  P : Program
  w : World
  mg : Str → Option Value
  base : Heap
  g : G
/-- slots N, names of the scope sc, room for lv calls, exceptions as E wants them -/
structure CxW (Γ : W0) (lv : Nat) (E : XK) (X : Cx) (N : List Str) (sc : Scope) (fz : Str → Bool) : Prop where
  pP : X.prog = Γ.P
  pw : X.w = Γ.w
  pK : X.K = Γ.g.K
  pmg : X.mg = Γ.mg
  pb : X.base = Γ.base
  pN : X.N = N
  psc : X.env.scope = sc
  calm : X.calm = true
  nd : N.Nodup
  room : Room lv X.A
  two : 2 ≤ lv
  pfn : X.fn = fz
  pas : PassesOwn (model X.prog X.w) X.A X.env X.xe
  pc : Passes (L2.CX X.prog X.w) X E
  tk : Takes X (fun cls d _ H => E cls d H)
variable {Γ : W0} {lv : Nat} {E : XK} {X : Cx} {N : List Str} {sc : Scope} {fz : Str → Bool} {k : Nat → List Nat → List D → S → Res}
/-- the scope of a comprehension as it stands in a def -/
def relab (sc scope : Scope) : Scope := { scope with names := scope.names.map fun (n, k) => if (k == NameKind.free && sc.kind == .function && sc.names.lookup n == some .cell) then (n, NameKind.cell) else (n, k) }
theorem CxW.blk (h : CxW Γ lv E X N sc fz) (s : Shared) (H : Hp) (scope : Scope) (cl : List (Str × Addr)) (C : Addr) (fp : List Addr) :
    CxW Γ lv noE (X.blk s H scope (compEnvC scope cl C X.env) fp) N (relab sc scope) (fun x => scope.names.lookup x == some .cell) :=
  ⟨h.pP, h.pw, h.pK, h.pmg, h.pb, h.pN, by rw [← h.psc]; rfl, h.calm, h.nd, h.room, h.two, rfl, PassesOwn.never, passL, L2.takes0⟩
/-! ### names -/
def visB (sc : Scope) (x : Str) : Bool := match sc.names.lookup x with
  | some .local => true
  | some .cell => true
  | some .free => true
  | _ => false
def locB (sc : Scope) (x : Str) : Bool := match sc.names.lookup x with
  | some .local => true
  | some .cell => true
  | _ => false
def nmB (sc : Scope) (N : List Str) (i : Nat) (x : Str) : Bool := decide (N[i]? = some x) && visB sc x && !(x == ("__debug__" : Str)) && !(x == ("__classdict__" : Str))
def stB (sc : Scope) (fz : Str → Bool) (N : List Str) (i : Nat) (x : Str) : Bool := decide (N[i]? = some x) && locB sc x && (fz x || decide (sc.names.lookup x = some .local))
theorem visB_ok {x : Str} (h : visB sc x = true) : Vis sc x := by
  unfold visB at h
  split at h
  · rename_i e; exact .inl e
  · rename_i e; exact .inr (.inl e)
  · rename_i e; exact .inr (.inr e)
  · cases h
theorem locB_ok {x : Str} (h : locB sc x = true) : Loc sc x := by
  unfold locB at h
  split at h
  · rename_i e; exact .inl e
  · rename_i e; exact .inr e
  · cases h
theorem w_var {i : Nat} {x : Str} {pos : Pos} (h : CxW Γ lv E X N sc fz) (hn : nmB sc N i x = true) : PE X (.Name x pos) (tE Γ.g E k (eVar i)) := by
  simp only [nmB, Bool.and_eq_true, decide_eq_true_eq, Bool.not_eq_true'] at hn
  obtain ⟨⟨⟨h1, h2⟩, h3⟩, h4⟩ := hn
  exact se_var (by rw [h.pN]; exact h1) (by rw [h.psc]; exact visB_ok h2) h3 h4
theorem stB_ok {i : Nat} {x : Str} (h : CxW Γ lv E X N sc fz) (hn : stB sc fz N i x = true) : X.N[i]? = some x ∧ Loc X.env.scope x ∧ (X.fn x = true ∨ X.env.scope.names.lookup x = some .local) := by
  simp only [stB, Bool.and_eq_true, Bool.or_eq_true, decide_eq_true_eq] at hn
  obtain ⟨⟨h1, h2⟩, h3⟩ := hn
  rw [h.pN, h.psc, h.pfn]
  exact ⟨h1, locB_ok h2, h3⟩
theorem w_name {i : Nat} {x : Str} {pos : Pos} (h : CxW Γ lv E X N sc fz) (hn : stB sc fz N i x = true) : PG X (.Name x pos) (TgD X Γ.g E k (tName i)) :=
  let ⟨h1, h2, h3⟩ := stB_ok h hn
  sg_name (by rw [h.pN]; exact h.nd) h1 h2 h3
theorem w_nameC {i : Nat} {x : Str} {pos : Pos} (h : CxW Γ lv E X N sc fz) (hn : stB sc fz N i x = true) : PG X (.Name x pos) (gName i) :=
  let ⟨h1, h2, h3⟩ := stB_ok h hn
  pg_name (by rw [h.pN]; exact h.nd) h1 h2 h3
def glB (sc : Scope) (x : Str) : Bool := decide (sc.names.lookup x = some .globalImplicit) && !(x == ("__debug__" : Str))
theorem CxW.gl (h : CxW Γ lv E X N sc fz) {x : Str} (hg : glB sc x = true) : Gl X x := by
  simp only [glB, Bool.and_eq_true, decide_eq_true_eq] at hg
  show X.env.scope.names.lookup x = _
  rw [h.psc]
  exact hg.1
theorem glB_db {x : Str} (hg : glB sc x = true) : (x == ("__debug__" : Str)) = false := by
  simp only [glB, Bool.and_eq_true, Bool.not_eq_true'] at hg
  exact hg.2
/-- a global that is a number or a text -/
theorem w_gint {x : Str} {i : Int} {pos : Pos} (h : CxW Γ lv E X N sc fz) (hg : glB sc x = true) (hm : ∃ t, Γ.mg x = some (.int i t)) : PE X (.Name x pos) (tE Γ.g E k (eC (.int i))) :=
  let ⟨t, hm⟩ := hm
  se_const (pe_glob (h.gl hg) (by rw [h.pmg]; exact hm) (v := .int i) ⟨t, rfl⟩ (glB_db hg)) (fun _ _ _ q => q) fun _ _ => .int _

/-! ### defs of the text -/
def toRes : Out → Res
  | .nx _ s => .ok .non s
  | .rt d s => .ok d s
  | .exc c s => .exc c s
  | _ => .fail
def start0 (n : Nat) (xs : List D) : Env := xs ++ List.replicate (n - xs.length) .und
/-- a def of np parameters, n slots and its body -/
def run1 (np n : Nat) (body : SS) (k : Nat → List Nat → List D → S → Res) (B : List Nat) (xs : List D) (s : S) : Res :=
  if xs.length = np then finF s.length (toRes (body ⟨k, s.length :: B⟩ (start0 n xs) s)) else .fail
structure DefE where
  np : Nat
  n : Nat
  body : SS
def callN (tab : Nat → Option DefE) : Nat → Nat → List Nat → List D → S → Res
  | 0, _, _, _, _ => .fail
  | m + 1, i, B, xs, s => match tab i with
    | none => .fail
    | some d => run1 d.np d.n d.body (callN tab m) B xs s
/-- its promise -/
def spE (g : G) (k : Nat → List Nat → List D → S → Res) (i : Nat) : Sp := fun vs H Q E => ∃ B α s ds, R g B α H s ∧ RVs g.K α H vs ds ∧ PRes g E B α H (k i B ds s) Q
structure FnA (Γ : W0) (lv : Nat) (k : Nat → List Nat → List D → S → Res) (i : Nat) (x : Str) : Prop where
  ex : ∃ (f : Addr) (fd : FuncData) (ps : List Str), FnOk Γ.P Γ.w Γ.g.K Γ.mg Γ.base (L2.CX Γ.P Γ.w) lv f fd ps (spE Γ.g k i) ∧ Γ.mg x = some (.ref f) ∧ PySem.W.keepIn Γ.g.K (.ref f) = true ∧ Binds Γ.g.K fd ps []
theorem args2 {as : AS} {f : Nat} {σ : L2.St} {H : Hp} {Q : VK} (h : tE Γ.g E k (eCall f as) σ H Q) : tCall (spE Γ.g k f) [] E (tA Γ.g E k as) σ H Q := by
  obtain ⟨B, α, ρ, s, hR, hE, h⟩ := args (f := fun B xs s => k f B xs s) h
  exact ⟨B, α, ρ, s, hR, hE, h.imp fun vs H1 q => by rw [List.append_nil]; exact q⟩
theorem w_call {as : AS} {i : Nat} {x : Str} {p pos : Pos} {e : Expr} {es : List Expr} (h : CxW Γ lv E X N sc fz) (F : FnA Γ lv k i x) (hg : glB sc x = true) (ha : PA X (e :: es) (tA Γ.g E k as)) (he : starEach (e :: es) X.env = (false, eval e X.env) :: starEach es X.env) (hpl : (backTo pos (starEach es X.env)).any (·.1) = false) :
    PE X (.Call (.Name x p) (e :: es) [] pos) (tE Γ.g E k (eCall i as)) := by
  obtain ⟨f, fd, ps, F, hm, hk, hb⟩ := F.ex
  rw [← h.pP, ← h.pw, ← h.pK, ← h.pmg, ← h.pb] at F
  exact PE.imp (pe_call F h.room (h.gl hg) (by rw [h.pmg]; exact hm) (by rw [h.pK]; exact hk) (by rw [h.pK]; exact hb) .nil h.pc ha (glB_db hg) he hpl) fun σ H Q q => args2 q
theorem w_call0 {i : Nat} {x : Str} {p pos : Pos} (h : CxW Γ lv E X N sc fz) (F : FnA Γ lv k i x) (hg : glB sc x = true) : PE X (.Call (.Name x p) [] [] pos) (tE Γ.g E k (eCall i aNil)) := by
  obtain ⟨f, fd, ps, F, hm, hk, hb⟩ := F.ex
  rw [← h.pP, ← h.pw, ← h.pK, ← h.pmg, ← h.pb] at F
  exact PE.imp (pe_call0 F h.room (h.gl hg) (by rw [h.pmg]; exact hm) (by rw [h.pK]; exact hk) (by rw [h.pK]; exact hb) .nil h.pc (glB_db hg)) fun σ H Q q => by
    obtain ⟨B, α, ρ, s, hR, hE, q⟩ := q
    exact ⟨B, α, s, [], hR, .nil, q⟩

/-- THE RULE for a def of the text -/
theorem RE.start {K : PySem.W.Frag} {α : List Addr} {H : Hp} {N : List Str} {n : Nat} {vs : List V} {ds : List D} (hn : N.length = n) (r : RVs K α H vs ds) : RE K α H (L2.start N vs) (start0 n ds) := by
  refine ⟨by unfold L2.start start0; simp [r.length, hn], fun i h => ?_⟩
  have key : ∀ {ds : List D} {m : Nat} {i : Nat}, gv (ds ++ List.replicate m .und) i ≠ .und → ds[i]? = some (gv (ds ++ List.replicate m .und) i) := by
    intro ds m
    induction ds with
    | nil =>
      intro i h
      exfalso
      apply h
      clear h
      induction m generalizing i with
      | zero => rfl
      | succ m ih => cases i with
        | zero => rfl
        | succ i => exact ih (i := i)
    | cons d r ih =>
      intro i h
      cases i with
      | zero => rfl
      | succ i => exact ih (i := i) h
  obtain ⟨v, h1, h2⟩ := r.get (key h)
  refine ⟨v, ?_, h2⟩
  unfold L2.start
  rw [List.getElem?_append_left (by rw [List.length_map]; exact (List.getElem?_eq_some_iff.mp h1).1), List.getElem?_map, h1]
  rfl
theorem toRes_P {g : G} {B : List Nat} {α : List Addr} {H : Hp} {Q : VK} : ∀ {o : Out}, PRes g E B α H (toRes o) Q → POut g E B α H o { nx := fun _ H' => Q .non H', rt := Q }
  | .nx _ _, h => fun a h' σ e r _ => h a h' .non e r .non
  | .rt _ _, h => h
  | .exc _ _, h => h
  | .bk _ _, h => h.elim
  | .ct _ _, h => h.elim
  | .fail, h => h
theorem fn_ok (h2 : 2 ≤ lv) {x qual : Str} {st : Stmt} {f : Addr} {fd : FuncData} {ps : List Str} {np n i : Nat} {body : SS} {tab : Nat → Option DefE} {m : Nat} (hN : N.length = n) (hp : ps.length = np) (ht : tab i = some ⟨np, n, body⟩) (F : Fun Γ.g.K x qual st f fd) (S : FnScope N ps (defScope st))
    (hb : ∀ (X : Cx) (E : XK), CxW Γ lv E X N (defScope st) (fun _ => true) → PSs X (defBody st) (tSS Γ.g E (callN tab m) body)) : FnOk Γ.P Γ.w Γ.g.K Γ.mg Γ.base (L2.CX Γ.P Γ.w) (lv + 1) f fd ps (spE Γ.g (callN tab (m + 1)) i) := by
  have e1 : ∀ B xs s, callN tab (m + 1) i B xs s = run1 np n body (callN tab m) B xs s := fun B xs s => by
    rw [callN, ht]
  have key : ∀ {vs H Q E}, spE Γ.g (callN tab (m + 1)) i vs H Q E → vs.length = ps.length ∧ ∃ B α s ds, R Γ.g B α H s ∧ RVs Γ.g.K α H vs ds ∧ POut Γ.g E (s.length :: B) α H (body ⟨callN tab m, s.length :: B⟩ (start0 n ds) s) { nx := fun _ H' => Q .non H', rt := Q } := fun {vs H Q E} ⟨B, α, s, ds, r, rv, h⟩ => by
    rw [e1, run1] at h
    split at h
    · rename_i hl
      exact ⟨by rw [rv.length, hl, hp], B, α, s, ds, r, rv, toRes_P (PRes.finF r h)⟩
    · exact h.elim
  refine F.okX S (fun vs H Q E h => (key h).1) fun cdv A outer s H vs Q E hr h => ?_
  obtain ⟨_, B, α, t, ds, r, rv, h⟩ := key h
  have hw : CxW Γ lv E (cxOf (L2.CX Γ.P Γ.w) Γ.P Γ.w Γ.g.K Γ.mg Γ.base N qual (defScope st) f cdv A outer s H E) N (defScope st) (fun _ => true) :=
    ⟨rfl, rfl, rfl, rfl, rfl, rfl, rfl, rfl, S.nd, hr, h2, rfl, passes_of rfl, passes_call (takes_of rfl rfl rfl rfl) fun _ _ _ _ q => q, takes_of rfl rfl rfl rfl⟩
  exact ⟨_, hb _ E hw, _, α, start0 n ds, t, r.push, RE.start hN rv, h⟩
end Ev

set_option maxRecDepth 10000
namespace Ev
open PySem L2 PyProof.Rows

/-! ### MachineError's own __init__ -/
def body0 : List Stmt :=
  [.Expr (.Call (.Attribute (.Call (.Name "super" ⟨5, 8, 5, 13⟩) [] [] ⟨5, 8, 5, 15⟩) "__init__" ⟨5, 8, 5, 24⟩) [.Name "code" ⟨5, 25, 5, 29⟩] [] ⟨5, 8, 5, 30⟩) ⟨5, 8, 5, 30⟩, .Assign [.Attribute (.Name "self" ⟨6, 8, 6, 12⟩) "code" ⟨6, 8, 6, 17⟩] (.Name "code" ⟨6, 20, 6, 24⟩) ⟨6, 8, 6, 24⟩]
def nf0 (qual : Str) (params : Arguments) (body : List Stmt) (sc : Scope) (cc cda : Addr) : NdefX.NF := ⟨"__init__", qual, params, body, sc, [("__class__", cc)], cda⟩
/-- what the written part tells of the class and of its __init__ -/
structure ErrC (P : Program) (K : PySem.W.Frag) (mg : Str → Option Value) (C f : Addr) (fd : FuncData) : Prop where
  T : OexC K C
  ex : ∃ (oc kV doc pm ct : Value) (od an : Option Addr) (osl ccs csl : Array (Option Value)) (ccl cl : Value) (cdd cld : Option Addr) (vs : Array Value) (file : Str) (tf : Tok) (cda cc : Addr) (cdD : ClassData) (params : Arguments) (sc : Scope) (ar : Arg) (qual : Str),
    fd = PySem.W.ksFn "__init__" qual params body0 sc .none kV doc pm an (.ref cda) ct cc ∧
    K.lookup f = some ⟨oc, od, .func fd, osl⟩ ∧ PySem.W.codeIn K (.ref cda) qual = true ∧ K.lookup cda = some ⟨ccl, cdd, .fields vs, ccs⟩ ∧ vs[2]? = some (.str file tf) ∧ ((P.main.file : Str) == file) = true ∧
    K.lookup cc = some ⟨cl, cld, .cell (some (.ref C)), csl⟩ ∧ PySem.W.clsIn K C = some cdD ∧ (params.posonlyargs ++ params.args).head? = some ar ∧ ar.arg = "self" ∧
    NdefX.NScope ["self", "code", "__class__"] ["self", "code"] ["__class__"] sc ∧ sc.names.lookup ("super" : Str) = some .globalImplicit ∧
    (∀ us : List Value, us.length = 2 → bindArgs fd ⟨us, []⟩ = pure ((["self", "code"] : List Str).zip us))
  mro : PySem.W.mroIn K C (.ref C) = some true
  sup : PySem.W.ks_superIn K C C "__init__" = some (some (.builtin "ValueError.__init__"))
  subV : PySem.W.subIn K (.ref C) (.type "ValueError") = some true
  opq : PySem.W.nsIn K PySem.cStatics "thirdparty.any" = some none
  noC : PySem.W.findIn K (.ref C) "code" = some none
  mgS : mg "super" = none
  topS : (P.main.scope.names.lookup ("super" : Str)).isSome = false

section
variable {prog : Program} {w : World} {A : Around} {E : Value → Shared → Prop}
/-- the bound built-in __init__, called -/
theorem mw_call {K : PySem.W.Frag} {C x u t0 : Addr} {h : Heap} {g : Array GenState} {d : Drawn} {t : Nat} {os : OsState} {rest : List Value} {Q : Value → Shared → Prop} (T : OexC K C) (X : K.In h) (hx : h.get? x = some (PySem.HandSPX.excO C t0)) (hu : h.get? u = some (PySem.W.kxs_mw "ValueError.__init__" x)) (hz : rest.length ≤ sizeLine)
    (hq : ∀ h' t1, (∀ b o, b ≠ x → h.get? b = some o → h'.get? b = some o) → h'.get? x = some (PySem.HandSPX.excO C t1) → Q .none ⟨h', g, d, t, os⟩) : wpAny (model prog w) A (call (.ref u) rest) Q E ⟨h, g, d, t, os⟩ := by
  obtain ⟨nm, q, N, bs, bm, sn, sub, ab, col, dd, k0, k1, k2, k3, k5, hC, hbm⟩ := T.cls
  have hm1 : (Value.type "method-wrapper" == Value.type "method" || Value.type "method-wrapper" == Value.type "builtin_function_or_method" || Value.type "method-wrapper" == Value.type "method-wrapper") = true := by decide
  refine wpAny_call (codeAny_of_tree (show wpAny _ A.in1 (callAny (.ref u) ⟨rest, []⟩) _ _ _ from ?_)); simp only [callAny]
  refine wpAny_bind (wpAny_load hu ?_); simp only [PySem.W.kxs_mw, hm1, if_true]
  refine PySem.W.KFB.if_so hm1 (wpAny_bind (PySem.W.check_bound_init F.excBase_ValueError.toExcCallFacts (X _ _ hC) hx rfl (wpAny_bind (wpAny_pure (wpAny_pure ⟨plainId_quiet F.excBase_ValueError.init.plain _, codeAny_builtin F.excBase_ValueError.initEntry ?_⟩)))))
  exact PySem.W.exc_init_tree (cls := .ref C) (t0 := t0) (dv := none) (c2 := .none) (c3 := .none) (b4 := .bool false) hx hz fun h' k e' _ => hq h' _ k e'
end
section
variable {P : Program} {w : World} {K : PySem.W.Frag} {mg : Str → Option Value} {base : Heap} {C f : Addr} {fd : FuncData}
/-- what it does: the code is kept -/
def spI (C : Addr) : Sp := fun vs H Q _ => ∃ (a : Addr) (v : V), vs = [.ref a, v] ∧ H a = some (exo a C none) ∧ ∀ dx, H dx = none → dx ≠ a → Q .non (upd (upd H dx (exd dx [("code", v)])) a (exo a C (some dx)))
theorem ok_init (F : ErrC P K mg C f fd) : FnOk P w K mg base (L2.CX P w) 1 f fd ["self", "code"] (spI C) := by
  refine ⟨fun vs H Q E ⟨a, v, h, _⟩ => by rw [h]; rfl, fun A outer s H args us vs Q E hr e0 hb r ⟨a, v, hvs, ha, hq⟩ => ?_⟩
  obtain ⟨oc, kV, doc, pm, ct, od, an, osl, ccs, csl, ccl, cl, cdd, cld, vc, file, tf, cda, cc, cdD, params, sc, ar, qual, rfl, lk, hcd, lc, hv2, hfile, lcc, hcls, har, hself, S, hsup, hbind⟩ := F.ex
  subst hvs
  have KX : K.In s.heap := e0.mod.kin.keeps fun b o e => (e0.bs b o e).1
  have lim : s.heap.NoLimit := e0.mod.nolimit.keeps fun b o e => (e0.bs b o e).1
  have hcell : ∀ y ∈ sc.names, y.2 ≠ .cell := S.nocell
  have hus : us.length = 2 := by rw [← r.length]; rfl
  have hloc : ∀ y ∈ (["self", "code"] : List Str).zip us, sc.names.lookup y.1 = some .local := fun ⟨n, z⟩ hy => S.par n (List.of_mem_zip hy).1
  refine PySem.ks_codeAny_call_defAt (body := body0) (binds := (["self", "code"] : List Str).zip us) hr.depth (KX _ _ lk) rfl lim (PySem.W.codeRec_of KX hcd) rfl hb hcell hloc (fun h₁ hns kp => ?_) S.co S.gen S.kind
  have cl1 : ∀ {y c}, ([("__class__", cc)] : List (Str × Addr)).lookup y = some c → c = cc ∧ y = "__class__" := fun {y c} e => by
    by_cases h : y = "__class__"
    · subst h
      simp [List.lookup] at e
      exact ⟨e.symm, rfl⟩
    · have : (y == ("__class__" : Str)) = false := by simpa using h
      simp [List.lookup, this] at e
  have hbc : H cc = none ∧ ∃ v, s.heap.IsCell cc v := ⟨(e0.bs cc _ (e0.mod.kin _ _ lcc)).2, some (.ref C), _, KX _ _ lcc, rfl⟩
  have I := NdefX.inv_startN (CX := L2.CX P w) (P := P) (w := w) (K := K) (mg := mg) (base := base) (F := nf0 qual params body0 sc cc cda) (f := f) (E := E) (ws := [none]) (tk := s.toks + ((["self", "code"] : List Str).zip us).length) S hr.hd e0 rfl r
    ⟨rfl, fun y c e => by rw [(cl1 e).1]; exact hbc, fun x y c e1 e2 => by rw [(cl1 e1).2, (cl1 e2).2], fun i y e => by
      cases i with
      | zero =>
        have e' : ("__class__" : Str) = y := Option.some.inj e
        subst e'
        exact ⟨cc, rfl, fun v h => by cases h⟩
      | succ i => simp at e⟩ hns kp
  have T := F.T
  let X0 : Cx := NdefX.ncx (L2.CX P w) P w K mg base ["self", "code", "__class__"] (nf0 qual params body0 sc cc cda) f A outer s H E
  have I : Inv X0 [] [some (V.ref a), some v, none] H { s with heap := h₁, toks := s.toks + ((["self", "code"] : List Str).zip us).length } := I
  have hks : X0.env.kindOf "super" = some .globalImplicit := hsup
  have hkc : X0.env.kindOf "__class__" = some .free := S.frk "__class__" (by simp)
  have hkself : X0.env.kindOf "self" = some .local := S.par "self" (by simp)
  have hkcode : X0.env.kindOf "code" = some .local := S.par "code" (by simp)
  have hk : X0.env.scope.kind = .function := S.kind
  have K1 := I.kIn
  obtain ⟨t1, ho⟩ := exo_at I.hok ha
  have ia : PySem.W.InstAt h₁ a (PySem.HandSPX.excO C t1) C none := ⟨ho, rfl, rfl, trivial⟩
  obtain ⟨oD, hD1, hD2⟩ : ∃ oD, h₁.get? C = some oD ∧ oD.data = .cls cdD := by
    have hc := hcls
    unfold PySem.W.clsIn at hc
    split at hc
    · rename_i c d cd' sl hl
      cases hc
      exact ⟨_, K1 _ _ hl, rfl⟩
    · cases hc
  refine PySem.ks_wpAt_execs_cons (PySem.ks_wpAt_Expr_any (PySem.ks_wpAt_MethodCall (PySem.ks_wpAt_mono (Q := fun so s1 => ∃ q, so = Value.ref q ∧ s1.heap.get? q = some { cls := .type "super", dict := none, data := .fields #[.ref C, .ref a, .ref C], slots := #[] } ∧ Inv X0 [] [some (V.ref a), some v, none] H s1) ?_ ?_ fun _ _ x => x)) (by unfold interactive; show (sc.kind == .module && _) = false; rw [S.kind]; rfl))
  · refine PySem.ks_wpAt_super_base (env := X0.env) hks hkc rfl rfl (kp _ _ (KX _ _ lk)) rfl har rfl (kp _ _ (KX _ _ lc)) rfl hv2 hfile F.topS ?_
    obtain ⟨mb, b1, b2⟩ := I.mod.blt
    refine PySem.W.ks_loadName_global hk hks (Calls.loadGlobal_builtin (mg := mg) (by rw [I.ok.glob]; exact I.mod.glob.keeps I.bk) F.mgS (mb := mb) (by rw [I.ok.blt]; exact b1.keeps I.bk) ((b2 "super" (by decide)).trans (by kernel_rfl)) ⟨rfl, ?_⟩)
    refine wpAny_loadName_free hk hkc (c := cc) rfl ⟨_, K1 _ _ lcc, rfl⟩ ?_
    obtain ⟨m, hn, hl⟩ := I.loc
    obtain ⟨u, ru, lu⟩ := hl 0 "self" (.ref a) rfl rfl (.inl hkself)
    obtain rfl : u = Value.ref a := ru
    have hms : m "self" = some (Value.ref a) := by
      rcases lu with ⟨_, z⟩ | ⟨z, _⟩
      · exact z
      · rw [hkself] at z
        rcases z with z | z <;> cases z
    rw [hself]
    refine wpAny_loadName_local hk hkself hn hms ?_
    refine PySem.ks_wpAny_isType_cls hD1 hD2 ⟨rfl, ?_⟩
    refine PySem.ks_wpAny_call_super hD1 hD2 ho rfl (fun c z => by cases z) (PySem.W.looks_mroIn K1 F.mro) fun h' e kk => ?_
    exact ⟨_, rfl, e, I.kept (t' := s.toks + ((["self", "code"] : List Str).zip us).length) kk⟩
  · rintro so s1 ⟨q, rfl, hso, I1⟩
    obtain ⟨h2, g2, d2, k2, o2⟩ := s1
    have K2 := I1.kIn
    obtain ⟨t2, ho2⟩ := exo_at I1.hok ha
    have ia2 : PySem.W.InstAt h2 a (PySem.HandSPX.excO C t2) C none := ⟨ho2, rfl, rfl, trivial⟩
    have hsp : PySem.W.alongIn K "__init__" ((cdD.mro.dropWhile (· != .ref C)).drop 1) = some (some (.builtin "ValueError.__init__")) := by
      have z := F.sup
      unfold PySem.W.ks_superIn at z
      rw [hcls] at z
      exact z
    refine PySem.W.kxs_getMethod PySem.W.kxs_ValueError hso (PySem.W.looks_opaque K2 F.opq) (l₀ := cdD.mro) (fun A Q E s k q => wpAny_bind ((PySem.W.looks_clsIn K2 hcls) A _ E s k (wpAny_pure q))) rfl K2 hsp (ia2.type.andThen (PySem.W.looks_subIn K2 F.subV)) (PySem.W.ks_ne K2 ia2 hcls) rfl ?_
    have hu : (h2.push (PySem.W.kxs_mw "ValueError.__init__" a)).get? h2.objs.size = some (PySem.W.kxs_mw "ValueError.__init__" a) := Heap.get?_push_size _ rfl
    have I2 : Inv X0 [(h2.objs.size, PySem.W.kxs_mw "ValueError.__init__" a)] [some (V.ref a), some v, none] H ⟨h2.push (PySem.W.kxs_mw "ValueError.__init__" a), g2, d2, k2 + 1, o2⟩ :=
      ClX.pin_new (t' := k2 + 1) I1 (fun b o z => Heap.get?_push_of_some _ z) (Nat.le_refl _) hu (fun v z => by cases z)
    refine PySem.W.kxs_callWith1 (i := "ValueError.__init__") (x := a) (u := h2.objs.size) (h₀ := { objs := #[] }) (L := h2.objs.size + 1) (news := [(h2.objs.size, PySem.W.kxs_mw "ValueError.__init__" a)]) (fun p hp => ?_) (by simp) (thn ((pa_cons (pe_var (X := X0) (pos := ⟨5, 25, 5, 29⟩) (i := 1) (x := "code") rfl (.inl hkcode)) pa_nil).run _ _ _ _ _ (fun vs H1 => vs = [v] ∧ H1 = H) I2 ⟨v, rfl, rfl, rfl⟩) fun us3 s3 ⟨vs, H3, I3, r3, e3, eH⟩ => ?_)
    · obtain rfl := List.mem_singleton.mp hp
      exact ⟨hu, Nat.ne_of_lt (Nat.lt_succ_self _), rfl⟩
    · subst e3 eH
      have hu3 : s3.heap.get? h2.objs.size = some (PySem.W.kxs_mw "ValueError.__init__" a) := ClX.pin_at I3
      refine ⟨hu3, ?_⟩
      obtain ⟨h3, g3, d3, k3, o3⟩ := s3
      obtain ⟨t3, ho3⟩ := exo_at I3.hok ha
      refine mw_call T I3.kIn ho3 hu3 (by rw [← r3.length, sizeLine_eq]; show 1 ≤ 16777216; decide) fun h4 t4 kk4 ho4 => ?_
      have I4 := I3.write (t' := k3) (x := a) (e := a) (o := exo a C none) (by rw [ha]; exact True.intro) (.inl rfl) kk4 ⟨_, ho4⟩ (exo_ok ho4)
      have eu : upd H3 a (exo a C none) = H3 := by
        funext b
        by_cases hba : b = a
        · rw [hba, upd_same, ha]
        · rw [upd_ne hba]
      rw [eu] at I4
      have I5 : Inv X0 [] [some (V.ref a), some v, none] H3 ⟨h4, g3, d3, k3, o3⟩ := ClX.unpin I4
      have ho5 : PE X0 (.Name "self" ⟨6, 8, 6, 12⟩) (tVar 0) := pe_var (x := "self") rfl (.inl hkself)
      have hc5 : PE X0 (.Name "code" ⟨6, 20, 6, 24⟩) (tVar 1) := pe_var (x := "code") rfl (.inl hkcode)
      refine wpAt_of_wpAny (wpAny_mono ((pss_one (ps_ost (f := "code") (p' := ⟨6, 8, 6, 17⟩) (pos := ⟨6, 8, 6, 24⟩) ho5 hc5 rfl)).run [] _ _ _ { nx := fun _ H' => Q .non H', rt := fun _ _ => False } I5 ⟨v, rfl, .ref a, rfl, a, C, rfl, T, F.noC, .inl ⟨ha, fun dx n1 n2 => hq dx n1 n2⟩⟩) (fun fl s' hs => ?_) fun e s' he => he)
      cases fl with
      | next =>
        obtain ⟨σ', H', J, q'⟩ := hs
        exact ⟨.non, H', J.os, J.bare, J.base, J.hok, rfl, q'⟩
      | ret u => obtain ⟨_, _, _, _, _, q'⟩ := hs; exact q'.elim
      | brk => obtain ⟨_, _, _, q'⟩ := hs; exact False.elim q'
      | cont => obtain ⟨_, _, _, q'⟩ := hs; exact False.elim q'
end
end Ev

set_option maxRecDepth 10000
namespace Ev
open PySem L2 PyProof.Rows
variable {Γ : W0} {lv : Nat} {E : XK} {X : Cx} {N : List Str} {sc : Scope} {fz : Str → Bool} {k : Nat → List Nat → List D → S → Res}

/-! ### raise MachineError(e) -/
structure ErrW (Γ : W0) : Prop where
  ex : ∃ (f : Addr) (fd : FuncData), ErrC Γ.P Γ.g.K Γ.mg Γ.g.ex f fd ∧ PySem.W.findIn Γ.g.K (.ref Γ.g.ex) "__init__" = some (some (.ref f)) ∧ PySem.W.typeIn Γ.g.K (.ref f) = some (.type "function") ∧ Γ.mg "MachineError" = some (.ref Γ.g.ex)
theorem ErrC.binds {P : Program} {K : PySem.W.Frag} {mg : Str → Option Value} {C f : Addr} {fd : FuncData} (F : ErrC P K mg C f fd) : Binds K fd ["self", "code"] [] := by
  obtain ⟨oc, kV, doc, pm, ct, od, an, osl, ccs, csl, ccl, cl, cdd, cld, vc, file, tf, cda, cc, cdD, params, sc, ar, qual, e, lk, hcd, lc, hv2, hfile, lcc, hcls, har, hself, S, hsup, hbind⟩ := F.ex
  exact .all hbind
theorem raise_heap {H1 : Hp} {a C dx : Addr} {v : V} (ha : H1 a = none) (hd : dx ≠ a) : upd (del (upd (upd (upd H1 a (exo a C none)) dx (exd dx [("code", v)])) a (exo a C (some dx))) a) dx (.xd [("code", v)]) = upd H1 dx (.xd [("code", v)]) := by
  funext b
  by_cases h1 : b = dx
  · subst h1
    rw [upd_same, upd_same]
  · rw [upd_ne h1, upd_ne h1]
    by_cases h2 : b = a
    · subst h2
      rw [del_same, ha]
    · rw [del_ne h2, upd_ne h2, upd_ne h1, upd_ne h2]
theorem w_raise {e : Expr} {ra : ES} {p pos pos' : Pos} (h : CxW Γ lv E X N sc fz) (F : ErrW Γ) (hg : glB sc "MachineError" = true) (he : PE X e (tE Γ.g E k ra)) (hs : starEach [e] X.env = (false, eval e X.env) :: starEach [] X.env) :
    PS X (.Raise (some (.Call (.Name "MachineError" p) [e] [] pos)) none pos') (tSS Γ.g E k (sRaise ra)) := by
  obtain ⟨f, fd, F, iC, tI, hm⟩ := F.ex
  have bi := F.binds
  have nC := F.noC
  have T := F.T
  have F1 := ok_init (w := Γ.w) (base := Γ.base) F
  rw [← h.pP, ← h.pw, ← h.pK, ← h.pmg, ← h.pb] at F1
  rw [← h.pK] at T iC tI bi
  refine PS.imp (ps_raise h.calm h.tk (pmk_oex T iC tI F1 (h.room.mono h.two) bi .nil passL (h.gl hg) (by rw [h.pmg]; exact hm) (sa_cons he sa_nil hs) (glB_db hg) hs rfl)) fun σ H Dd ⟨B, α, ρ, s, hR, hE, q⟩ => ?_
  refine ⟨B, α, ρ, s, hR, hE, ?_⟩
  have q' := PRes.bndS q
  show PRss Γ.g E B α H ((ra ⟨k, B⟩ ρ s).bndA fun x s => .ok [x] s) _
  cases hz : ra ⟨k, B⟩ ρ s with
  | exc c s1 => rw [hz] at q'; exact q'
  | fail => rw [hz] at q'; exact q'
  | ok d s1 =>
    rw [hz] at q'
    intro α1 H1 vs e1 R1 r1
    obtain ⟨v, rfl, rv1⟩ := r1.one
    obtain ⟨α2, d2, s2, e2, R2, r2, h2⟩ := q' α1 H1 v e1 R1 rv1
    refine ⟨by show 1 ≤ 1000; decide, fun a ha => ⟨a, v, rfl, upd_same, fun dx n1 n2 => ?_⟩⟩
    have hd1 : H1 dx = none := by rw [upd_ne n2] at n1; exact n1
    refine ⟨rfl, dx, _, upd_same, by rw [upd_ne n2, upd_same], hd1, ?_⟩
    rw [raise_heap ha n2]
    have eT : Ext Γ.g.K α2 α2 H1 (upd H1 dx (.xd [("code", v)])) := .newT hd1
    exact h2 α2 _ v dx eT (R2.newT hd1) (r2.ext eT) upd_same
end Ev

set_option maxRecDepth 10000
namespace Ev
open PySem L2 PyProof.Rows
variable {Γ : W0} {lo : Nat} {E : XK} {X : Cx} {N : List Str} {sc : Scope} {fz : Str → Bool} {k : Nat → List Nat → List D → S → Res}

/-! ### _law_told(lambda: ..) -/
/-- the error's code is given back -/
def TTc (K : PySem.W.Frag) (CS : Addr) : (XK → Hp → VK → Prop) → Hp → VK → Prop := fun tl H Q =>
  tl (fun cls d H' => ∃ b, PySem.W.exmOne K cls (.ref CS) = some b ∧ (b = true → cls = .ref CS ∧ ∃ dx v, d = some dx ∧ H' dx = some (.xd [("code", v)]) ∧ Q v H') ∧ (b = false → False)) H Q
/-- a name, in a frame of its length -/
theorem pe_varL {X : Cx} {i : Nat} {x : Str} {pos : Pos} (m : Nat) (hm : X.N.length = m) (hN : X.N[i]? = some x) (hv : Vis X.env.scope x) (hd : (x == ("__debug__" : Str)) = false) (hcd : (x == ("__classdict__" : Str)) = false) : PE X (.Name x pos) (fun σ H Q => σ.length = m → tVar i σ H Q) :=
  ⟨fun pins s σ H Q I q => (pe_var hN hv hd hcd).run pins s σ H Q I (q (I.len.trans hm))⟩
theorem told_code {x a e n q : Str} {sg : Scope} {g CS : Addr} {cdg : Value} {p1 p2 p3 p4 p5 p6 p7 p8 p9 : Pos} (T : XfC X.K CS) (hno : PySem.W.findIn X.K (.ref CS) "code" = some none) (hnd : ([a, n] : List Str).Nodup) (hge : sg.names.lookup e = some .globalImplicit) (hme : X.mg e = some (.ref CS)) (hde : (e == ("__debug__" : Str)) = false)
    (hn : sg.names.lookup n = some .local) (hn1 : (n == ("__debug__" : Str)) = false) (hn2 : (n == ("__classdict__" : Str)) = false) :
    LamX.GivesTo X [a, n] x sg g cdg [.Try [.Return (some (.Call (.Name a p1) [] [] p2)) p3] [.ExceptHandler (some (.Name e p4)) (some n) [.Return (some (.Attribute (.Name n p5) "code" p6)) p7] p8] [] [] p9] a q (TTc X.K CS) := by
  intro f c' s H Q tl act hc h
  have hgl : Gl (cxOf C8.CX0 X.prog X.w X.K X.mg X.base [a, n] x sg g cdg X.A X.stack s H C8.E0).nox e := hge
  refine ⟨_, pss_one (ps_try_as (X := (cxOf C8.CX0 X.prog X.w X.K X.mg X.base [a, n] x sg g cdg X.A X.stack s H C8.E0).nox) (i := 1) (c := .ref CS)
      (tb := fun W D σ H => ∃ Ech : XK, (∀ cls d σ' H', Ech cls d H' → W cls d σ' H') ∧ σ[0]? = some (some (.ref f)) ∧ H c' = some (LamX.CodeO c' q) ∧ tl Ech H D.rt)
      rfl rfl hnd rfl hn ⟨hgl, hde, .inl hme⟩ L2.takes0 (fun W pn xe tk _ => ?_) (fun ae oe cls d pn hz hf => pss_one (ps_ret (pe_xf T hno hz hf (pe_varL (i := 1) 2 rfl rfl (.inl hn) hn1 hn2) rfl)))), ?_⟩
  · refine ⟨fun pins s' σ H' D I h' => ?_⟩
    obtain ⟨Ech, hW, h1, h2, h3⟩ := h'
    exact (pss_one (ps_ret (pos := p3) (act W pn xe Ech p1 p2 tk hW))).run pins s' σ H' D I ⟨h1, h2, h3⟩
  · refine ⟨fun cls d H' => ∃ b, PySem.W.exmOne X.K cls (.ref CS) = some b ∧ (b = true → cls = .ref CS ∧ ∃ dx v, d = some dx ∧ H' dx = some (.xd [("code", v)]) ∧ Q v H') ∧ (b = false → False), fun cls d σ' H' hh => ?_, rfl, hc, h⟩
    obtain ⟨b, e1, e2, e3⟩ := hh
    refine ⟨b, e1, fun hb ae hae => ?_, fun hb => (e3 hb).elim⟩
    obtain ⟨ec, dx, v, ed, hx, q⟩ := e2 hb
    refine fun hlen => ⟨.ref ae, ?_, rfl, ec, dx, _, v, ed, hx, by simp [List.lookup], q⟩
    have hl : (σ'.set 1 (some (V.ref ae))).length = 2 := hlen
    rw [List.length_set] at hl
    rw [List.getElem?_set_self (by omega)]
/-- what is known of the def that tells -/
structure ToldC (Γ : W0) : Prop where
  ex : ∃ (g : Addr) (oc kV doc pm cdv ct : Value) (od an : Option Addr) (osl : Array (Option Value)) (pg : Arguments) (sg : Scope) (p1 p2 p3 p4 p5 p6 p7 p8 p9 : Pos),
    Γ.mg "_law_told" = some (.ref g) ∧ PySem.W.keepIn Γ.g.K (.ref g) = true ∧
    Γ.g.K.lookup g = some ⟨oc, od, .func (PySem.W.fnOf "_law_told" "_law_told" pg [.Try [.Return (some (.Call (.Name "call" p1) [] [] p2)) p3] [.ExceptHandler (some (.Name "MachineError" p4)) (some "e") [.Return (some (.Attribute (.Name "e" p5) "code" p6)) p7] p8] [] [] p9] sg .none kV doc pm an cdv ct), osl⟩ ∧
    PySem.W.codeIn Γ.g.K cdv "_law_told" = true ∧ L2.Binds Γ.g.K (PySem.W.fnOf "_law_told" "_law_told" pg [.Try [.Return (some (.Call (.Name "call" p1) [] [] p2)) p3] [.ExceptHandler (some (.Name "MachineError" p4)) (some "e") [.Return (some (.Attribute (.Name "e" p5) "code" p6)) p7] p8] [] [] p9] sg .none kV doc pm an cdv ct) ["call"] [] ∧
    FnScope ["call", "e"] ["call"] sg ∧ Vis sg "call" ∧ sg.names.lookup ("MachineError" : Str) = some .globalImplicit ∧ sg.names.lookup ("e" : Str) = some .local
  xf : XfC Γ.g.K Γ.g.ex
  noC : PySem.W.findIn Γ.g.K (.ref Γ.g.ex) "code" = some none
  hm : Γ.mg "MachineError" = some (.ref Γ.g.ex)
  exm : PySem.W.exmOne Γ.g.K (.ref Γ.g.ex) (.ref Γ.g.ex) = some true
/-- lambdas may be made here: the code object and its table -/
structure LamAt (Γ : W0) (lo : Nat) (X : Cx) : Prop where
  room : Room (lo + 2) X.A
  ex : ∃ (c P : Addr), LamX.TabB X.base X.mg c P ∧ X.env.code = .ref c ∧ (P, X.env.qual ++ "<lambda>") ∈ Γ.g.T ∧ ∀ p ∈ Γ.g.T, p.1 = P → p.2 = X.env.qual ++ "<lambda>"
theorem ExtN.ext {K : PySem.W.Frag} {α : List Addr} {H H1 : Hp} (e : LamX.ExtN H H1) : Ext K α α H H1 := by
  refine ⟨⟨fun _ _ h => h, fun a xs h => ?_, fun a xs h => ?_⟩, fun a o h t n => ⟨e a o h t, n⟩, fun a o k h => e _ _ h (fun _ z => by cases z)⟩
  · rcases h with (h | ⟨o, h⟩) | h
    · exact .inl (.inl (e _ _ h (fun _ z => by cases z)))
    · exact .inl (.inr ⟨o, e _ _ h (fun _ z => by cases z)⟩)
    · exact .inr h
  · rcases h with ⟨o, h⟩ | h
    · exact .inl ⟨o, e _ _ h (fun _ z => by cases z)⟩
    · exact .inr h
theorem R.extN {g : G} {B : List Nat} {α : List Addr} {H H1 : Hp} {s : S} (r : R g B α H s) (e : LamX.ExtN H H1) (t : LamX.Tabs g.T H1) : R g B α H1 s := by
  refine ⟨r.len, r.nd, fun n a o ha ho => ?_, r.blk, t, r.ord⟩
  have q := r.obj n a o ha ho
  have x := (ExtN.ext (K := g.K) (α := α) e).e0
  cases q with
  | lst h1 h2 => exact .lst (e _ _ h1 fun _ z => by cases z) (h2.ext0 x)
  | dct h1 h2 => exact .dct (e _ _ h1 fun _ z => by cases z) (h2.ext0 x)
  | dfz h1 h2 => exact .dfz (e _ _ h1 fun _ z => by cases z) (h2.ext0 x)
  | ins c h1 h2 => exact .ins c (e _ _ h1 fun _ z => by cases z) (h2.ext0 x)
theorem w_told {ra : ES} {params : Arguments} {body : Expr} {scope : Scope} {p lpos pos : Pos} (h : CxW Γ lo E X N sc fz) (hL : LamAt Γ lo X) (F : ToldC Γ) (hg : glB sc "_law_told" = true) (L : LamX.lamSB sc scope = true) (hdef : defaultsOf params X.env = ([], []))
    (hbind : ∀ (q : Str) (cl : List (Str × Addr)) (pm cv ctv : Value), bindArgs (PySem.W.kla_fn "<lambda>" q params body scope cl pm cv ctv) ⟨[], []⟩ = pure [])
    (hb : ∀ (Y : Cx) (E : XK), CxW Γ lo E Y N scope (fun _ => false) → PE Y body (tE Γ.g E k ra)) : PE X (.Call (.Name "_law_told" p) [.Lambda params body scope lpos] [] pos) (tE Γ.g E k (eTold ra)) := by
  obtain ⟨gd, oc, kV, doc, pm, cdv, ct, od, an, osl, pg, sg, p1, p2, p3, p4, p5, p6, p7, p8, p9, hm, hk, lk, hcg, hbi, Sg, hva, hge, hn⟩ := F.ex
  obtain ⟨c, Pt, TB, hcode, hmT, hu⟩ := hL.ex
  have T := F.xf
  have nC := F.noC
  rw [← h.pK] at lk hk hcg hbi T nC
  have hme : X.mg "MachineError" = some (.ref Γ.g.ex) := by rw [h.pmg]; exact F.hm
  refine PE.imp (LamX.pe_lamcall (T := Γ.g.T) (TT := TTc X.K Γ.g.ex) (t := fun E => tE Γ.g E k ra) (h.gl hg) (by rw [h.pmg]; exact hm) hk lk hcg hbi Sg rfl hva (told_code T nC (by decide +kernel) hge hme (by decide) hn (by decide) (by decide)) TB hcode hmT hu hL.room (LamX.lamS_by (by rw [h.psc]; exact L)) hdef hbind
    (fun A outer s H E f c' hr => ?_) (glB_db hg) (by decide) (by decide)) fun σ H Q q => ?_
  · exact hb _ E ⟨h.pP, h.pw, h.pK, h.pmg, h.pb, h.pN, rfl, rfl, h.nd, hr, h.two, rfl, passes_of rfl, passes_call (takes_of rfl rfl rfl rfl) fun _ _ _ _ q => q, takes_of rfl rfl rfl rfl⟩
  · obtain ⟨B, α, ρ, s, hR, hE, q⟩ := q
    refine ⟨hR.tabs, fun H1 eN T1 => ?_⟩
    have e1 : Ext Γ.g.K α α H H1 := ExtN.ext eN
    have R1 := hR.extN eN T1
    refine ⟨s.length :: B, α, ρ, s, R1.push, hE.ext e1, ?_⟩
    have q2 := (PRes.fin hR q).ext e1
    show PRes Γ.g _ (s.length :: B) α H1 (ra ⟨k, s.length :: B⟩ ρ s) Q
    revert q2
    show PRes Γ.g E (s.length :: B) α H1 (match ra ⟨k, s.length :: B⟩ ρ s with | .ok d s => .ok d s | .exc k s => .ok k s | .fail => .fail) Q → _
    cases ra ⟨k, s.length :: B⟩ ρ s with
    | ok d s' => exact fun q2 => q2
    | fail => exact fun q2 => q2
    | exc c s' => exact fun q2 α' H' v dx e r rv hd => ⟨true, by rw [h.pK]; exact F.exm, fun _ => ⟨rfl, dx, v, rfl, hd, q2 α' H' v e r rv⟩, fun z => by cases z⟩
end Ev

set_option maxRecDepth 10000
namespace Ev
open PySem L2 PyProof.Rows HT

/-! ### t[::-1] of a tuple -/
section
variable {prog : Program} {w : World} {A : Around} {E : Value → Shared → Prop} {s : Shared}
theorem rev_adjust (n : Nat) : Builtin.Slice.sliceAdjust none none (-1) (n : Int) = ((n : Int) - 1, -1) := by
  unfold Builtin.Slice.sliceAdjust
  simp
theorem rev_places (n : Nat) : Builtin.Slice.slicePlaces ((n : Int) - 1) (-1) (-1) = n := by
  unfold Builtin.Slice.slicePlaces
  simp
  try omega
theorem rev_pick (xs : Array Value) : ((List.range xs.size).filterMap fun (m : Nat) => xs[((xs.size : Int) - 1 + (m : Int) * (-1)).toNat]?).toArray = xs.toList.reverse.toArray := by
  have e : ((List.range xs.size).filterMap fun (m : Nat) => xs[((xs.size : Int) - 1 + (m : Int) * (-1)).toNat]?) = ((List.range xs.size).map fun m => xs.size - 1 - m).filterMap (xs[·]?) := by
    rw [List.filterMap_map]
    congr 1
    funext m
    show xs[((xs.size : Int) - 1 + (m : Int) * (-1)).toNat]? = xs[xs.size - 1 - m]?
    have : ((xs.size : Int) - 1 + (m : Int) * (-1)).toNat = xs.size - 1 - m := by omega
    rw [this]
  rw [e, PySem.W.krv_range, List.filterMap_reverse, PySem.W.krv_all]
theorem applied_rev {sl : Addr} {vs : Value} {n : Nat} {Q : Int × Int × Nat → Shared → Prop} (hs : s.heap.IsSliceOf sl .none .none vs) (ps : IsPart vs (some (-1))) (h : Q ((n : Int) - 1, -1, n) s) :
    wpAny (model prog w) A (Builtin.Slice.sliceApplied (.ref sl) (pure (n : Int))) Q E s := by
  obtain ⟨os, hos, hcs, hds⟩ := id hs
  unfold Builtin.Slice.sliceApplied Builtin.Slice.sliceFields
  refine wpAny_bind (wpAny_bind (wpAny_field hos hds (x := .none) rfl (wpAny_bind (wpAny_field hos hds (x := .none) rfl (wpAny_bind (wpAny_field hos hds (x := vs) rfl (wpAny_pure ?_)))))))
  refine wpAny_bind (slicePart_ ps ?_)
  show wpAny _ _ (if ((-1 : Int) == 0) = true then _ else _) _ _ s
  rw [if_neg (by decide)]
  refine wpAny_bind (slicePart_ .none (wpAny_bind (slicePart_ .none (wpAny_bind (wpAny_pure ?_)))))
  show wpAny _ _ (match Builtin.Slice.sliceAdjust none none (-1) (n : Int) with | (lo, hi) => pure (lo, (-1 : Int), Builtin.Slice.slicePlaces lo hi (-1))) _ _ s
  rw [rev_adjust n]
  show wpAny _ _ (pure ((n : Int) - 1, (-1 : Int), Builtin.Slice.slicePlaces ((n : Int) - 1) (-1) (-1))) _ _ s
  rw [rev_places]
  exact wpAny_pure h
theorem item_rev {t sl : Addr} {items : Array Value} {vs : Value} {Q : Value → Shared → Prop} (ht : IsTup s.heap t items) (hs : s.heap.IsSliceOf sl .none .none vs) (ps : IsPart vs (some (-1)))
    (h : Q (.ref s.heap.objs.size) { s with heap := s.heap.push { cls := .type "tuple", data := .seq items.toList.reverse.toArray } }) (hsz : items.size ≤ sizeLine) : wpAny (model prog w) A (getItem (.ref t) (.ref sl)) Q E s := by
  have htake : sizeOk (.seq items.toList.reverse.toArray) := by
    show items.toList.reverse.toArray.size ≤ sizeLine
    rw [List.size_toArray, List.length_reverse, Array.length_toList]
    exact hsz
  obtain ⟨os, hos, hcs, hds⟩ := id hs
  have hTs : s.TypeIs (.ref sl) "slice" := ⟨os, hos, hcs⟩
  unfold getItem
  try with_reducible refine wpAny_holding ?_
  first | refine wpAny_bind (wpAny_pure ?_) | skip
  refine wpAny_bind (wpAny_sequenceKey ht.typeIs (by decide) ?_)
  refine wpAny_bind (wpAny_callSpecial?_slot (name := Str.ofString "__getitem__") ht.typeIs PyProof.Rows.slot_tuple_getitem (wpAny_call_entry PyProof.Rows.slot_tuple_getitem ht.typeIs entry_tuple_getitem ?_ (args_tuple_getitem _ _)))
  refine wpAny_bind (m := Builtin.Tuple.tupleItemsOf (.ref t)) (tupleItemsOf_ ht (wpAny_bind (wpAny_typeOf hTs ?_)))
  rw [if_pos (by decide)]
  refine wpAny_bind (applied_rev hs ps ?_)
  have hno : ¬ (((items.size : Int) - 1 == 0 && (-1 : Int) == 1 && items.size == items.size) = true) := by
    intro q
    rw [Bool.and_eq_true, Bool.and_eq_true] at q
    exact absurd q.1.2 (by decide)
  show wpAny _ _ (if ((items.size : Int) - 1 == 0 && (-1 : Int) == 1 && items.size == items.size) = true then _ else _) _ _ s
  rw [if_neg hno, rev_pick]
  first
    | exact wpAny_bind (m := Builtin.Tuple.tupleExact _) (wpAny_newObj_type (wpAny_pure ⟨_, rfl, wpAny_pure h⟩) htake)
    | exact wpAny_bind (m := Builtin.Tuple.tupleExact _) (wpAny_newObj_type (wpAny_bind (wpAny_pure (wpAny_pure ⟨_, rfl, wpAny_pure h⟩))) htake)
    | exact wpAny_bind (wpAny_bind (m := Builtin.Tuple.tupleExact _) (wpAny_newObj_type (wpAny_pure ⟨_, rfl, wpAny_pure h⟩) htake))
end
section
variable {X : Cx} {g : G} {E : XK} {k : Nat → List Nat → List D → S → Res} {e : Expr} {ra : ES} {te : TE}
def tRevA (K : PySem.W.Frag) (te : TE) : TE := fun σ H Q => te σ H fun x H1 => ∃ a xs, x = .ref a ∧ ((SqL K H1 a xs ∧ ∀ p, H1 p = none → Q (.ref p) (upd H1 p (.lst xs.reverse))) ∨ (SqT K H1 a xs ∧ ∀ p, H1 p = none → Q (.ref p) (upd H1 p (.tup xs.reverse))))
theorem pe_revA {j : Nat} {p1 p2 p3 pos : Pos} (he : PE X e te) : PE X (.Subscript e (.Slice none none (some (.UnaryOp .USub (.Constant (.int 1) j p1) p2)) p3) pos) (tRevA X.K te) := by
  refine ⟨fun pins s σ H Q I h => Subscript_ (thn (he.run pins s σ H _ I h) fun v s1 ⟨x, H1, I1, r1, a, xs, ex, q⟩ => ?_)⟩
  subst ex
  cases r1
  have hst : PO X (some (.UnaryOp .USub (.Constant (.int 1) j p1) p2)) (tPart (tUn (rU fun i => .int (-i)) (tC (.int 1)))) := po_some (pe_un un_neg pe_int)
  refine wpAny_Slice (thn (po_none.run pins s1 σ H1 (fun o H2 => o = none ∧ H2 = H1) I1 ⟨rfl, rfl⟩) fun vl s2 ⟨l, H2, I2, pl, el, e2⟩ => thn (po_none.run pins s2 σ H2 (fun o H3 => o = none ∧ H3 = H2) I2 ⟨rfl, rfl⟩) fun vu s3 ⟨u, H3, I3, pu, eu, e3⟩ => ?_)
  subst el e2 eu e3
  refine thn (hst.run pins s3 σ H3 (fun o H4 => o = some (-1) ∧ H4 = H3) I3 ⟨1, rfl, -1, rfl, rfl, rfl⟩) fun vs s4 ⟨o, H4, I4, ps, eo, e4⟩ => ?_
  subst eo e4
  have I5 : Inv X pins σ H4 { s4 with heap := s4.heap.push { cls := .type "slice", data := .fields #[vl, vu, vs] } } := I4.kept (t' := s4.toks) fun b ob q => Heap.get?_push_of_some _ q
  show wpAny (model X.prog X.w) X.A (subscriptTail e (.Slice none none (some (.UnaryOp .USub (.Constant (.int 1) j p1) p2)) p3) (.ref a) (.ref s4.heap.objs.size)) (EP X pins σ Q) X.xe { s4 with heap := s4.heap.push { cls := .type "slice", data := .fields #[vl, vu, vs] } }
  rcases q with ⟨hx, q⟩ | ⟨hx, q⟩
  · obtain ⟨its, r, ht, hz⟩ := I5.list hx
    have hlen := r.length
    refine tail_any (ops := [.ref a, .ref s4.heap.objs.size]) ht.isList.typeIs (PySem.slot_list_getitem.lookup) ?_ (by with_unfolding_all rfl)
    refine wpAny_getItem_list_slice ht.isList (Heap.IsSliceOf.new _ vl vu vs) pl pu ps (by decide) ?_ (by rw [List.size_toArray]; omega)
    rw [PySem.W.krv_pick]
    exact ⟨.ref _, _, I5.laid (t' := s4.toks) (o := .lst xs.reverse) (fun b ob q => Heap.get?_push_of_some _ q) (Nat.le_refl _) ⟨by rw [List.length_reverse]; exact hz, _, 0, r.reverse, Heap.get?_push_size _ rfl⟩, rfl, q _ (I5.hok.fresh (Nat.le_refl _))⟩
  · obtain ⟨its, r, ht, hz⟩ := I5.tuple hx
    have hlen := r.length
    cases pl
    cases pu
    refine tail_any (ops := [.ref a, .ref s4.heap.objs.size]) ht.typeIs (PyProof.Rows.slot_tuple_getitem.lookup) ?_ (by with_unfolding_all rfl)
    refine item_rev ht (Heap.IsSliceOf.new _ .none .none vs) ps ?_ (by rw [List.size_toArray]; omega)
    exact ⟨.ref _, _, I5.laid (t' := s4.toks) (o := .tup xs.reverse) (fun b ob q => Heap.get?_push_of_some _ q) (Nat.le_refl _) ⟨by rw [List.length_reverse]; exact hz, _, r.reverse, IsTup.new _ _⟩, rfl, q _ (I5.hok.fresh (Nat.le_refl _))⟩
theorem se_rev {j : Nat} {p1 p2 p3 pos : Pos} (hK : X.K = g.K) (ha : PE X e (tE g E k ra)) : PE X (.Subscript e (.Slice none none (some (.UnaryOp .USub (.Constant (.int 1) j p1) p2)) p3) pos) (tE g E k (eUn rvD ra)) :=
  PE.imp (pe_revA ha) fun σ H Q h => by
    obtain ⟨B, α, ρ, s, hR, hE, h⟩ := one (op := fun _ => rvD) h
    refine ⟨B, α, ρ, s, hR, hE, h.imp fun v H1 ⟨B', α1, s1, d, R1, r1, h1⟩ => ?_⟩
    rw [hK]
    cases r1 with
    | @tup a xs ds h2 h3 => exact ⟨a, xs, rfl, .inr ⟨h2, tup_ok R1 h1 h3.reverse⟩⟩
    | @ref a n h2 =>
      simp only [rvD] at h1
      split at h1
      · rename_i ds hl
        obtain ⟨p, xs, ep, hn, ho, hp, h4⟩ := lst_of R1 (.ref h2) hl
        cases ep
        exact ⟨a, xs, rfl, .inl ⟨.of hp, al_ok R1 h1 h4.reverse⟩⟩
      · exact h1.elim
    | _ => exact (show False from h1).elim

/-! ### x op= e -/
def sAug (i : Nat) (f : D → D → S → Res) (e : ES) : SS := fun c ρ s => match gv ρ i with | .und => .fail | x => (e c ρ s).bndS fun y s => (f x y s).bndS fun z s => .nx (sv ρ i z) s
theorem ip_int {o : Operator} {c : Int → Int → Prop} {h : Int → Int → V} {op : D → D → S → Res} (ho : OpR X (inplaceOp o) (rI c h))
    (hi : ∀ B α H s d1 d2 Q, PRes g E B α H (op d1 d2 s) Q → ∃ i j d, d1 = .int i ∧ d2 = .int j ∧ op d1 d2 s = .ok d s ∧ c i j ∧ RV g.K α H (h i j) d) : OpD X g E (inplaceOp o) fun _ => op := opd_int ho hi
def iAdd : D → D → S → Res
  | .int i, .int j, s => .ok (.int (i + j)) s
  | _, _, _ => .fail
def iMul : D → D → S → Res
  | .int i, .int j, s => if mulOk i j then .ok (.int (i * j)) s else .fail
  | _, _, _ => .fail
theorem ipd_add : OpD X g E (inplaceOp .Add) fun _ => iAdd := opd_int0 iop_add fun B α H s d1 d2 Q h => by
  cases d1 <;> cases d2 <;> first | exact (show False from h).elim | exact ⟨_, _, _, rfl, rfl, rfl, .int _⟩
theorem ipd_sub : OpD X g E (inplaceOp .Sub) fun _ => bSub := opd_int0 iop_sub fun B α H s d1 d2 Q h => by
  cases d1 <;> cases d2 <;> first | exact (show False from h).elim | exact ⟨_, _, _, rfl, rfl, rfl, .int _⟩
theorem ipd_xor : OpD X g E (inplaceOp .BitXor) fun _ => bXor := opd_int0 iop_xor fun B α H s d1 d2 Q h => by
  cases d1 <;> cases d2 <;> first | exact (show False from h).elim | exact ⟨_, _, _, rfl, rfl, rfl, .int _⟩
theorem ipd_div : OpD X g E (inplaceOp .FloorDiv) fun _ => bDiv := opd_int iop_fdivW fun B α H s d1 d2 Q h => by
  cases d1 <;> cases d2 <;> try exact (show False from h).elim
  simp only [bDiv] at h ⊢
  split at h
  · rename_i hc
    exact ⟨_, _, _, rfl, rfl, if_pos hc, hc, .int _⟩
  · exact h.elim
theorem ipd_mul : OpD X g E (inplaceOp .Mult) fun _ => iMul := opd_int iop_mul fun B α H s d1 d2 Q h => by
  cases d1 <;> cases d2 <;> try exact (show False from h).elim
  simp only [iMul] at h ⊢
  split at h
  · rename_i hc
    refine ⟨_, _, _, rfl, rfl, if_pos hc, ?_, .int _⟩
    unfold mulOk at hc
    rw [Bool.or_eq_true] at hc
    exact hc.imp of_decide_eq_true of_decide_eq_true
  · exact h.elim
theorem ss_aug {i : Nat} {x : Str} {o : Operator} {f : D → D → S → Res} {p' pos : Pos} (hN : X.N.Nodup) (hi : X.N[i]? = some x) (hx : Loc X.env.scope x) (hf : X.fn x = true ∨ X.env.scope.names.lookup x = some .local) (ho : OpD X g E (inplaceOp o) fun _ => f) (ha : PE X e (tE g E k ra)) :
    PS X (.AugAssign (.Name x p') o e pos) (tSS g E k (sAug i f ra)) := by
  refine PS.imp (ps_aug (ti := fun x y H Q => ∃ B α s d1 d2, R g B α H s ∧ RV g.K α H x d1 ∧ RV g.K α H y d2 ∧ PRes g E B α H (f d1 d2 s) Q) hN hi hx ha (fun pins s σ H x y v u Q I rx ry q => ho pins s σ H x y v u Q I rx ry q) hf) fun σ H Dd ⟨B, α, ρ, s, hR, hE, h⟩ => ?_
  have hn : gv ρ i ≠ .und := fun z => by
    simp only [sAug, z] at h
    exact h.elim
  obtain ⟨v, hv, rv⟩ := hE.2 i hn
  have h' : POut g E B α H ((ra ⟨k, B⟩ ρ s).bndS fun y s => (f (gv ρ i) y s).bndS fun z s => .nx (sv ρ i z) s) Dd := by
    unfold sAug at h
    split at h
    · rename_i z
      exact (hn z).elim
    · exact h
  refine ⟨v, hv, B, α, ρ, s, hR, hE, (PRes.bndS h').imp fun w H1 ⟨α1, d, s1, e1, R1, r1, h1⟩ => ?_⟩
  refine ⟨B, α1, s1, gv ρ i, d, R1, rv.ext e1, r1, (PRes.bndS h1).imp fun z H2 ⟨α2, d2, s2, e2, R2, r2, h2⟩ => ?_⟩
  exact h2 α2 H2 _ .refl R2 (((hE.ext e1).ext e2).setw r2)

/-! ### a, b = x, y without a tuple -/
def sPar2 (i j : Nat) (a : AS) : SS := fun c ρ s => (a c ρ s).bndS fun ds s => match ds with | [v, w] => .nx (sv (sv ρ i v) j w) s | _ => .fail
def sPar3 (i j l : Nat) (a : AS) : SS := fun c ρ s => (a c ρ s).bndS fun ds s => match ds with | [u, v, w] => .nx (sv (sv (sv ρ i u) j v) l w) s | _ => .fail
theorem PRss.bndS_P {B : List Nat} {α : List Addr} {H : Hp} {f : List D → S → Out} : ∀ {r : Rss} {Q : Ends}, POut g E B α H (r.bndS f) Q → PRss g E B α H r fun v H1 => ∃ α1 d s, Ext g.K α α1 H H1 ∧ R g B α1 H1 s ∧ RVs g.K α1 H1 v d ∧ POut g E B α1 H1 (f d s) Q
  | .ok _ _, _, h => fun _ _ _ e r rv => ⟨_, _, _, e, r, rv, POut.ext h e⟩
  | .exc _ _, _, h => h
  | .fail, _, h => h
theorem ss_par {i j : Nat} {x y : Str} {a b : Expr} {as : AS} {px py pt pos : Pos} {kt k2 pt2} (hc : X.calm = true) (hN : X.N.Nodup) (hi : X.N[i]? = some x) (hj : X.N[j]? = some y) (hij : i ≠ j) (hx : X.env.scope.names.lookup x = some .local) (hy : X.env.scope.names.lookup y = some .local) (ha : PA X [a, b] (tA g E k as))
    (hw : swappedStores [.Tuple [.Name x px, .Name y py] kt pt] (.Tuple [a, b] k2 pt2) X.env = pure (some [x, y])) (hs : swapsWithSole [.Tuple [.Name x px, .Name y py] kt pt] (.Tuple [a, b] k2 pt2) pos.line X.env = pure false) :
    PS X (.Assign [.Tuple [.Name x px, .Name y py] kt pt] (.Tuple [a, b] k2 pt2) pos) (tSS g E k (sPar2 i j as)) :=
  PS.imp (ps_par hc hN hi hj hij hx hy ha hw hs) fun σ H Dd ⟨B, α, ρ, s, hR, hE, h⟩ => ⟨B, α, ρ, s, hR, hE, (PRss.bndS_P h).imp fun vs H1 ⟨α1, ds, s1, e1, R1, r1, h1⟩ => by
    split at h1
    · cases r1 with
      | cons rv t =>
        cases t with
        | cons rw t =>
          cases t
          exact ⟨_, _, rfl, h1 α1 H1 _ .refl R1 (((hE.ext e1).setw rv).setw rw)⟩
    · exact h1.elim⟩
theorem ss_par3 {i j l : Nat} {x y z : Str} {a b c : Expr} {as : AS} {px py pz pt pos : Pos} {kt k2 pt2} (hc : X.calm = true) (hN : X.N.Nodup) (hi : X.N[i]? = some x) (hj : X.N[j]? = some y) (hl : X.N[l]? = some z) (hij : i ≠ j) (hil : i ≠ l) (hjl : j ≠ l) (hx : X.env.scope.names.lookup x = some .local) (hy : X.env.scope.names.lookup y = some .local)
    (hz : X.env.scope.names.lookup z = some .local) (ha : PA X [a, b, c] (tA g E k as)) (hw : swappedStores [.Tuple [.Name x px, .Name y py, .Name z pz] kt pt] (.Tuple [a, b, c] k2 pt2) X.env = pure (some [x, y, z])) (hs : swapsWithSole [.Tuple [.Name x px, .Name y py, .Name z pz] kt pt] (.Tuple [a, b, c] k2 pt2) pos.line X.env = pure false) :
    PS X (.Assign [.Tuple [.Name x px, .Name y py, .Name z pz] kt pt] (.Tuple [a, b, c] k2 pt2) pos) (tSS g E k (sPar3 i j l as)) :=
  PS.imp (ps_par3 hc hN hi hj hl hij hil hjl hx hy hz ha hw hs) fun σ H Dd ⟨B, α, ρ, s, hR, hE, h⟩ => ⟨B, α, ρ, s, hR, hE, (PRss.bndS_P h).imp fun vs H1 ⟨α1, ds, s1, e1, R1, r1, h1⟩ => by
    split at h1
    · cases r1 with
      | cons ru t =>
        cases t with
        | cons rv t =>
          cases t with
          | cons rw t =>
            cases t
            exact ⟨_, _, _, rfl, h1 α1 H1 _ .refl R1 ((((hE.ext e1).setw ru).setw rv).setw rw)⟩
    · exact h1.elim⟩
/-- o[i] as a target -/
theorem sg_sub (hu : X.A.units + 65 < cLine) {o i : Expr} {ro ri : ES} {pos : Pos} (ho : PE X o (tE g E k ro)) (hi : PE X i (tE g E k ri))
    (ha : ∀ v, assign (.Subscript o i pos) X.env v = (do
      let ov ← holding [v] (eval o X.env)
      let iv ← holding [v, ov] (eval i X.env)
      standAt pos
      holding [v, ov, iv] (setItem ov iv v)
      release [v, ov, iv] [])) : PG X (.Subscript o i pos) (TgD X g E k (tSub ro ri)) :=
  PG.imp (pg_sub ho hi (set_lst hu) ha) fun v σ H Q ⟨B, α, ρ, s, d, hR, hE, rv, q⟩ => by
    refine ⟨B, α, ρ, s, hR, hE, (PRes.bndS q).imp fun o H1 ⟨α1, d1, s1, e1, R1, r1, q1⟩ => ?_⟩
    refine ⟨B, α1, ρ, s1, R1, hE.ext e1, (PRes.bndS q1).imp fun i H2 ⟨α2, d2, s2, e2, R2, r2, q2⟩ => ?_⟩
    dsimp only at q2
    split at q2
    · rename_i s3 hs
      refine ⟨B, α2, s2, d1, d2, d, R2, r1.ext e2, r2, (rv.ext e1).ext e2, s3, hs, fun H' e' R' => ?_⟩
      exact q2 α2 H' σ e' R' (((hE.ext e1).ext e2).ext e')
    · exact q2.elim
end
end Ev

set_option maxRecDepth 10000
namespace Ev
open PySem L2 PyProof.Rows
variable {Γ : W0} {lo : Nat} {E : XK} {X : Cx} {N : List Str} {sc : Scope} {fz : Str → Bool} {k : Nat → List Nat → List D → S → Res}
variable {e a b c o : Expr} {es : List Expr} {ra rb rc ro : ES} {as : AS} {pos p apos cpos : Pos} {tg iter elt cond : Expr}

theorem CxW.u64 (h : CxW Γ lo E X N sc fz) : X.A.units + 64 < cLine := h.room.units
theorem CxW.u65 (h : CxW Γ lo E X N sc fz) : X.A.units + 65 < cLine := by have := h.room.un; omega

/-! ### the rules, with the context in short -/
/-- a built-in name that the text leaves as it is -/
def bltB (sc : Scope) (x : Str) : Bool := glB sc x && !(x == ("__name__" : Str))
theorem bltB_gl {x : Str} (h : bltB sc x = true) : glB sc x = true := by
  simp only [bltB, Bool.and_eq_true] at h
  exact h.1
theorem bltB_nm {x : Str} (h : bltB sc x = true) : x ≠ "__name__" := by
  simp only [bltB, Bool.and_eq_true, Bool.not_eq_true'] at h
  intro e
  subst e
  exact absurd h.2 (by decide)
theorem w_blt {x : Str} {id : String} {op : List D → S → Res} (h : CxW Γ lo E X N sc fz) (hc : CallD X Γ.g E (.builtin id) op) (hg : bltB sc x = true) (hm : Γ.mg x = none) (hv : bootBuiltins x = some (.builtin id)) (ha : PA X (e :: es) (tA Γ.g E k as))
    (he : starEach (e :: es) X.env = (false, eval e X.env) :: starEach es X.env) (hpl : (backTo pos (starEach es X.env)).any (·.1) = false) : PE X (.Call (.Name x p) (e :: es) [] pos) (tE Γ.g E k (eBlt op as)) :=
  se_blt hc (h.gl (bltB_gl hg)) (by rw [h.pmg]; exact hm) hv ha (bltB_nm hg) (glB_db (bltB_gl hg)) he hpl
theorem w_bltT {x : Str} {T : String} {op : List D → S → Res} (h : CxW Γ lo E X N sc fz) (hc : CallD X Γ.g E (.type T) op) (hg : bltB sc x = true) (hm : Γ.mg x = none) (hv : bootBuiltins x = some (.type T)) (ha : PA X (e :: es) (tA Γ.g E k as))
    (he : starEach (e :: es) X.env = (false, eval e X.env) :: starEach es X.env) (hpl : (backTo pos (starEach es X.env)).any (·.1) = false) : PE X (.Call (.Name x p) (e :: es) [] pos) (tE Γ.g E k (eBlt op as)) :=
  se_bltT hc (h.gl (bltB_gl hg)) (by rw [h.pmg]; exact hm) hv ha (bltB_nm hg) (glB_db (bltB_gl hg)) he hpl
theorem bb_len : bootBuiltins "len" = some (.builtin "len") := by kernel_rfl
theorem bb_abs : bootBuiltins "abs" = some (.builtin "abs") := by kernel_rfl
theorem bb_sum : bootBuiltins "sum" = some (.builtin "sum") := by kernel_rfl
theorem bb_all : bootBuiltins "all" = some (.builtin "all") := by kernel_rfl
theorem bb_any : bootBuiltins "any" = some (.builtin "any") := by kernel_rfl
theorem bb_min : bootBuiltins "min" = some (.builtin "min") := by kernel_rfl
theorem bb_max : bootBuiltins "max" = some (.builtin "max") := by kernel_rfl
theorem bb_int : bootBuiltins "int" = some (.type "int") := by kernel_rfl
theorem bb_list : bootBuiltins "list" = some (.type "list") := by kernel_rfl
theorem bb_tuple : bootBuiltins "tuple" = some (.type "tuple") := by kernel_rfl
section
variable (h : CxW Γ lo E X N sc fz) (ha : PA X (e :: es) (tA Γ.g E k as)) (he : starEach (e :: es) X.env = (false, eval e X.env) :: starEach es X.env) (hpl : (backTo pos (starEach es X.env)).any (·.1) = false)
include h ha he hpl
theorem w_len (hg : bltB sc "len" = true) (hm : Γ.mg "len" = none) : PE X (.Call (.Name "len" p) (e :: es) [] pos) (tE Γ.g E k (eBlt lenD as)) := w_blt h (cd_len h.pK) hg hm bb_len ha he hpl
theorem w_abs (hg : bltB sc "abs" = true) (hm : Γ.mg "abs" = none) : PE X (.Call (.Name "abs" p) (e :: es) [] pos) (tE Γ.g E k (eBlt absD as)) := w_blt h cd_abs hg hm bb_abs ha he hpl
theorem w_sum (hg : bltB sc "sum" = true) (hm : Γ.mg "sum" = none) : PE X (.Call (.Name "sum" p) (e :: es) [] pos) (tE Γ.g E k (eBlt sumD as)) := w_blt h (cd_sum h.pK h.calm) hg hm bb_sum ha he hpl
theorem w_all (hg : bltB sc "all" = true) (hm : Γ.mg "all" = none) : PE X (.Call (.Name "all" p) (e :: es) [] pos) (tE Γ.g E k (eBlt allD as)) := w_blt h (cd_all h.pK h.calm) hg hm bb_all ha he hpl
theorem w_any (hg : bltB sc "any" = true) (hm : Γ.mg "any" = none) : PE X (.Call (.Name "any" p) (e :: es) [] pos) (tE Γ.g E k (eBlt anyD as)) := w_blt h (cd_any h.pK h.calm) hg hm bb_any ha he hpl
theorem w_min (hg : bltB sc "min" = true) (hm : Γ.mg "min" = none) : PE X (.Call (.Name "min" p) (e :: es) [] pos) (tE Γ.g E k (eBlt minD as)) := w_blt h (cd_min h.pK h.calm h.u65) hg hm bb_min ha he hpl
theorem w_max (hg : bltB sc "max" = true) (hm : Γ.mg "max" = none) : PE X (.Call (.Name "max" p) (e :: es) [] pos) (tE Γ.g E k (eBlt maxD as)) := w_blt h (cd_max h.pK h.calm h.u65) hg hm bb_max ha he hpl
theorem w_int (hg : bltB sc "int" = true) (hm : Γ.mg "int" = none) : PE X (.Call (.Name "int" p) (e :: es) [] pos) (tE Γ.g E k (eBlt intD as)) := w_bltT h cd_int hg hm bb_int ha he hpl
theorem w_list (hg : bltB sc "list" = true) (hm : Γ.mg "list" = none) : PE X (.Call (.Name "list" p) (e :: es) [] pos) (tE Γ.g E k (eBlt listD as)) := w_bltT h (cd_list h.pK) hg hm bb_list ha he hpl
theorem w_tuple (hg : bltB sc "tuple" = true) (hm : Γ.mg "tuple" = none) : PE X (.Call (.Name "tuple" p) (e :: es) [] pos) (tE Γ.g E k (eBlt tupD as)) := w_bltT h (cd_tup h.pK) hg hm bb_tuple ha he hpl
end
section
variable (h : CxW Γ lo E X N sc fz) (ho : PE X o (tE Γ.g E k ro)) (ha : PA X (e :: es) (tA Γ.g E k as))
  (hfew : ((backTo cpos (starEach (e :: es) X.env)).all (fun x => !x.1) && (backToKw cpos (keywordEach [] X.env)).all (fun x => x.1.isSome)
      && decide ((e :: es).length + ([] : List Keyword).length + (if ([] : List Keyword).isEmpty then 0 else 1) < 30)) = true)
  (hline : (apos.endLine == cpos.line) = true) (hs : starEach (e :: es) X.env = (false, eval e X.env) :: starEach es X.env) (hplain : (backTo cpos (starEach es X.env)).any (·.1) = false)
include h ho ha hfew hline hs hplain
theorem w_append (hbase : attributeBase o "append" X.env (eval o X.env) = eval o X.env) : PE X (.Call (.Attribute o "append" apos) (e :: es) [] cpos) (tE Γ.g E k (eMt isL mAppend ro as)) :=
  se_mt PySem.F.plainAttrs_list PySem.F.slot_list_append PySem.F.type_list_append md_append (fun _ _ _ _ _ _ r rv q => isL_ty h.pK r rv q) ho ha hbase hfew hline hs hplain
theorem w_extend (hbase : attributeBase o "extend" X.env (eval o X.env) = eval o X.env) : PE X (.Call (.Attribute o "extend" apos) (e :: es) [] cpos) (tE Γ.g E k (eMt isL mExtend ro as)) :=
  se_mt PySem.F.plainAttrs_list PySem.F.slot_list_extend PySem.F.type_list_extend (md_extend h.pK) (fun _ _ _ _ _ _ r rv q => isL_ty h.pK r rv q) ho ha hbase hfew hline hs hplain
end
theorem w_pop0 (h : CxW Γ lo E X N sc fz) (ho : PE X o (tE Γ.g E k ro)) (hbase : attributeBase o "pop" X.env (eval o X.env) = eval o X.env) (hline : (apos.endLine == cpos.line) = true) : PE X (.Call (.Attribute o "pop" apos) [] [] cpos) (tE Γ.g E k (eMt isL mPop ro aNil)) :=
  se_mt0 PySem.F.plainAttrs_list PySem.F.slot_list_pop PySem.F.type_list_pop md_pop (fun _ _ _ _ _ _ r rv q => isL_ty h.pK r rv q) ho hbase hline

theorem bl_eq : ∀ x y s d s', cEq x y s = .ok d s' → ∃ z, d = .bl z := fun _ _ _ _ _ e => bl_of e
theorem bl_ne : ∀ x y s d s', cNe x y s = .ok d s' → ∃ z, d = .bl z := fun _ _ _ _ _ e => bl_of e
theorem bl_in : ∀ x y s d s', cIn x y s = .ok d s' → ∃ z, d = .bl z := fun _ _ _ _ _ e => bl_of e
theorem bl_notin : ∀ x y s d s', cNotIn x y s = .ok d s' → ∃ z, d = .bl z := fun _ _ _ _ _ e => bl_of e
theorem w_set {i : Nat} {x : Str} {pos' : Pos} (h : CxW Γ lo E X N sc fz) (hn : stB sc fz N i x = true) (he : PE X e (tE Γ.g E k ra)) (hs : swapsWith e (some (.Name x pos')) pos.line X.env = pure false) : PS X (.Assign [.Name x pos'] e pos) (tSS Γ.g E k (sSet i ra)) :=
  let ⟨h1, h2, h3⟩ := stB_ok h hn
  ss_set (by rw [h.pN]; exact h.nd) h1 h2 he hs h3
theorem w_aug {i : Nat} {x : Str} {oo : Operator} {f : D → D → S → Res} {p' : Pos} (h : CxW Γ lo E X N sc fz) (hn : stB sc fz N i x = true) (ho : OpD X Γ.g E (inplaceOp oo) fun _ => f) (ha : PE X e (tE Γ.g E k ra)) : PS X (.AugAssign (.Name x p') oo e pos) (tSS Γ.g E k (sAug i f ra)) :=
  let ⟨h1, h2, h3⟩ := stB_ok h hn
  ss_aug (by rw [h.pN]; exact h.nd) h1 h2 h3 ho ha
/-- the environment as far as the stores ask for it -/
def env0 (sc : Scope) : PySem.Env := { scope := sc, locals := 0, globals := 0, cells := [], qual := "", func := none, code := .none, frame := none, builtins := 0 }
theorem swap_sc (h : CxW Γ lo E X N sc fz) {ts : List Expr} {v : Expr} : swappedStores ts v X.env = swappedStores ts v (env0 sc) := by
  unfold swappedStores PySem.Env.blockKind PySem.Env.kindOf
  rw [h.psc]
  rfl
def parB (sc : Scope) (N : List Str) (i j : Nat) (x y : Str) : Bool := decide (N[i]? = some x) && decide (N[j]? = some y) && decide (i ≠ j) && decide (sc.names.lookup x = some .local) && decide (sc.names.lookup y = some .local)
theorem w_par {i j : Nat} {x y : Str} {px py pt : Pos} {kt k2 pt2} (h : CxW Γ lo E X N sc fz) (hn : parB sc N i j x y = true) (ha : PA X [a, b] (tA Γ.g E k as)) (hw : swappedStores [.Tuple [.Name x px, .Name y py] kt pt] (.Tuple [a, b] k2 pt2) (env0 sc) = pure (some [x, y]))
    (hs : swapsWithSole [.Tuple [.Name x px, .Name y py] kt pt] (.Tuple [a, b] k2 pt2) pos.line X.env = pure false) : PS X (.Assign [.Tuple [.Name x px, .Name y py] kt pt] (.Tuple [a, b] k2 pt2) pos) (tSS Γ.g E k (sPar2 i j as)) := by
  simp only [parB, Bool.and_eq_true, decide_eq_true_eq] at hn
  obtain ⟨⟨⟨⟨h1, h2⟩, h3⟩, h4⟩, h5⟩ := hn
  exact ss_par h.calm (by rw [h.pN]; exact h.nd) (by rw [h.pN]; exact h1) (by rw [h.pN]; exact h2) h3 (by rw [h.psc]; exact h4) (by rw [h.psc]; exact h5) ha (by rw [swap_sc h]; exact hw) hs
theorem w_for {gc : Bool} {w : IS} {t : TS} {tb : SS} {body : List Stmt} (h : CxW Γ lo E X N sc fz) (hi : PI X tg iter (tI Γ.g E k w)) (hg : PG X tg (TgD X Γ.g E k t)) (ht : TOk t) (hb : PSs X body (tSS Γ.g E k tb)) (hs : ∀ x, foldedSetIterable iter X.env x = pure x) :
    PS X (.For tg iter body [] pos) (tSS Γ.g E k (sFor gc w t tb)) := ss_for h.pas h.calm hi hg ht hb hs
theorem w_while {gc : Bool} {tb : SS} {body : List Stmt} (h : CxW Γ lo E X N sc fz) (hc : PT X c (tT Γ.g E k rc)) (hb : PSs X body (tSS Γ.g E k tb)) : PS X (.While c body [] pos) (tSS Γ.g E k (sWhile gc rc tb)) := ss_while h.pas hc hb
section
variable (h : CxW Γ lo E X N sc fz) (hm : Γ.mg "range" = none)
include h hm
theorem w_r1 (hg : bltB sc "range" = true) (ha : PA X [a] (tA Γ.g E k as)) (hs : starEach [a] X.env = [(false, eval a X.env)]) : PI X tg (.Call (.Name "range" p) [a] [] pos) (tI Γ.g E k (iR1 as)) := si_r1 (h.gl (bltB_gl hg)) (by rw [h.pmg]; exact hm) ha hs
theorem w_r2 (hg : bltB sc "range" = true) (ha : PA X [a, b] (tA Γ.g E k as)) (hs : starEach [a, b] X.env = [(false, eval a X.env), (false, eval b X.env)]) (hs2 : starEach [b] X.env = [(false, eval b X.env)]) : PI X tg (.Call (.Name "range" p) [a, b] [] pos) (tI Γ.g E k (iR2 as)) :=
  si_r2 (h.gl (bltB_gl hg)) (by rw [h.pmg]; exact hm) ha hs hs2
theorem w_r3 (hg : bltB sc "range" = true) (ha : PA X [a, b, c] (tA Γ.g E k as)) (hs : starEach [a, b, c] X.env = (false, eval a X.env) :: starEach [b, c] X.env) (hpl : (backTo pos (starEach [b, c] X.env)).any (·.1) = false) : PI X tg (.Call (.Name "range" p) [a, b, c] [] pos) (tI Γ.g E k (iR3 as)) :=
  si_r3 (h.gl (bltB_gl hg)) (by rw [h.pmg]; exact hm) ha hs hpl
end
theorem w_enum {tpos : Pos} {elts : List Expr} {kk : Nat} (h : CxW Γ lo E X N sc fz) (hm : Γ.mg "enumerate" = none) (hg : bltB sc "enumerate" = true) (ha : PE X a (tE Γ.g E k ra)) (hs : starEach [a] X.env = (false, eval a X.env) :: starEach [] X.env) :
    PI X (.Tuple elts kk tpos) (.Call (.Name "enumerate" p) [a] [] pos) (tI Γ.g E k (Ev.iEnum ra)) := si_enum h.pK (h.gl (bltB_gl hg)) (by rw [h.pmg]; exact hm) ha hs

/-! ### comprehensions -/
def blkB (N : List Str) (sc scope : Scope) (own : List (Str × Nat)) : Bool :=
  decide (scope.kind = .function) && scope.names.all (fun y => decide (scope.names.lookup y.1 = some y.2)) && own.all (fun p => decide (N[p.2]? = some p.1)) &&
    scope.names.all (fun y => !decide (y.2 = .free) || decide (sc.names.lookup y.1 = some .cell) || decide (sc.names.lookup y.1 = some .free)) &&
    scope.names.all fun y => !(decide (y.2 = .local) || decide (y.2 = .cell)) || decide (y.1 ∈ own.map (·.1)) || !decide (y.1 ∈ N)
theorem blkB_ok {scope : Scope} {own : List (Str × Nat)} (h : blkB N sc scope own = true) : BlkOk N sc scope own := by
  simp only [blkB, Bool.and_eq_true, decide_eq_true_eq, List.all_eq_true, Bool.or_eq_true, Bool.not_eq_true', decide_eq_false_iff_not] at h
  obtain ⟨⟨⟨⟨h1, h2⟩, h3⟩, h4⟩, h5⟩ := h
  refine ⟨h1, h2, h3, fun y hy e => ?_, fun y hy e => ?_⟩
  · rcases h4 y hy with (z | z) | z
    · exact absurd e z
    · exact .inl z
    · exact .inr z
  · rcases h5 y hy with (z | z) | z
    · exact absurd e (by simpa using z)
    · exact .inl z
    · exact .inr z
section
variable {w : IS} {t : TS} {gt : TG} {te tq : ES} {scope : Scope} {own : List (Str × Nat)} {i : Nat} {y : Str} {py spos : Pos}
/-- for every block of this scope in this context -/
abbrev InBlk (Γ : W0) (lo : Nat) (N : List Str) (sc scope : Scope) (Pp : Cx → Prop) : Prop := ∀ Y : Cx, CxW Γ lo noE Y N (relab sc scope) (fun x => scope.names.lookup x == some .cell) → Pp Y
theorem InBlk.all {Pp : Cx → Prop} (h : CxW Γ lo E X N sc fz) (q : InBlk Γ lo N sc scope Pp) : BlkAll X scope Pp := fun s H C cl fp => q _ (h.blk s H scope cl C fp)
theorem w_comp (h : CxW Γ lo E X N sc fz) (own : List (Str × Nat)) (ok : blkB N sc scope own = true) (hi : PI X tg iter (tI Γ.g E k w)) (hw : TgW Γ.g (own.map (·.2)) t gt) (hg : InBlk Γ lo N sc scope fun Y => PG Y tg gt) (he : InBlk Γ lo N sc scope fun Y => PE Y elt (tE Γ.g noE k te)) (hs : ∀ x, foldedSetIterable iter X.env x = pure x) :
    PE X (.ListComp elt [⟨tg, iter, [], 0⟩] scope pos) (tE Γ.g E k (eComp w (own.map (·.2)) t none te)) :=
  se_comp h.calm (by rw [h.pN]; exact h.nd) hi (by rw [h.pN, h.psc]; exact blkB_ok ok) hw (hg.all h) (he.all h) hs
theorem w_compQ (h : CxW Γ lo E X N sc fz) (own : List (Str × Nat)) (ok : blkB N sc scope own = true) (hi : PI X tg iter (tI Γ.g E k w)) (hw : TgW Γ.g (own.map (·.2)) t gt) (hg : InBlk Γ lo N sc scope fun Y => PG Y tg gt) (hq : InBlk Γ lo N sc scope fun Y => PT Y cond (tT Γ.g noE k tq)) (he : InBlk Γ lo N sc scope fun Y => PE Y elt (tE Γ.g noE k te)) (hs : ∀ x, foldedSetIterable iter X.env x = pure x) :
    PE X (.ListComp elt [⟨tg, iter, [cond], 0⟩] scope pos) (tE Γ.g E k (eComp w (own.map (·.2)) t (some tq) te)) :=
  se_compQ h.calm (by rw [h.pN]; exact h.nd) hi (by rw [h.pN, h.psc]; exact blkB_ok ok) hw (hg.all h) (hq.all h) (he.all h) hs
theorem swapsC_sc (h : CxW Γ lo E X N sc fz) {gs : List Comprehension} {tgt : Expr} {l : Nat} : swapsWith (.ListComp elt gs scope pos) (some tgt) l X.env = swapsWith (.ListComp elt gs scope pos) (some tgt) l (env0 sc) := by
  unfold swapsWith PySem.Env.blockKind PySem.Env.kindOf
  rw [h.psc]
  rfl
theorem w_setCl {x : Str} {pos' : Pos} {gs : List Comprehension} (h : CxW Γ lo E X N sc fz) (hn : stB sc fz N i x = true) (he : PE X (.ListComp elt gs scope pos) (tE Γ.g E k ra)) (hs : swapsWith (.ListComp elt gs scope pos) (some (.Name x pos')) spos.line (env0 sc) = pure false) : PS X (.Assign [.Name x pos'] (.ListComp elt gs scope pos) spos) (tSS Γ.g E k (sSet i ra)) :=
  w_set h hn he (by rw [swapsC_sc h]; exact hs)
theorem w_setLc (h : CxW Γ lo E X N sc fz) (own : List (Str × Nat)) (hy : stB sc (fun _ => false) N i y = true) (hsw : swapsWith (.ListComp elt [⟨tg, iter, [], 0⟩] scope pos) (some (.Name y py)) spos.line (env0 sc) = pure true) (ok : blkB N sc scope own = true) (hi : PI X tg iter (tI Γ.g E k w)) (hw : TgW Γ.g (own.map (·.2)) t gt) (hg : InBlk Γ lo N sc scope fun Y => PG Y tg gt) (he : InBlk Γ lo N sc scope fun Y => PE Y elt (tE Γ.g noE k te)) (hs : ∀ x, foldedSetIterable iter X.env x = pure x) :
    PS X (.Assign [.Name y py] (.ListComp elt [⟨tg, iter, [], 0⟩] scope pos) spos) (tSS Γ.g E k (sSet i (eComp w (own.map (·.2)) t none te))) := by
  simp only [stB, Bool.and_eq_true, Bool.or_eq_true, decide_eq_true_eq] at hy
  obtain ⟨⟨h1, h2⟩, h3⟩ := hy
  exact ss_setLc h.calm (by rw [h.pN]; exact h.nd) (by rw [h.pN]; exact h1) (by rw [h.psc]; simpa using h3) (by rw [swapsC_sc h]; exact hsw) hi (by rw [h.pN, h.psc]; exact blkB_ok ok) hw (hg.all h) (he.all h) hs
theorem w_setLcQ (h : CxW Γ lo E X N sc fz) (own : List (Str × Nat)) (hy : stB sc (fun _ => false) N i y = true) (hsw : swapsWith (.ListComp elt [⟨tg, iter, [cond], 0⟩] scope pos) (some (.Name y py)) spos.line (env0 sc) = pure true) (ok : blkB N sc scope own = true) (hi : PI X tg iter (tI Γ.g E k w)) (hw : TgW Γ.g (own.map (·.2)) t gt) (hg : InBlk Γ lo N sc scope fun Y => PG Y tg gt) (hq : InBlk Γ lo N sc scope fun Y => PT Y cond (tT Γ.g noE k tq)) (he : InBlk Γ lo N sc scope fun Y => PE Y elt (tE Γ.g noE k te)) (hs : ∀ x, foldedSetIterable iter X.env x = pure x) :
    PS X (.Assign [.Name y py] (.ListComp elt [⟨tg, iter, [cond], 0⟩] scope pos) spos) (tSS Γ.g E k (sSet i (eComp w (own.map (·.2)) t (some tq) te))) := by
  simp only [stB, Bool.and_eq_true, Bool.or_eq_true, decide_eq_true_eq] at hy
  obtain ⟨⟨h1, h2⟩, h3⟩ := hy
  exact ss_setLcQ h.calm (by rw [h.pN]; exact h.nd) (by rw [h.pN]; exact h1) (by rw [h.psc]; simpa using h3) (by rw [swapsC_sc h]; exact hsw) hi (by rw [h.pN, h.psc]; exact blkB_ok ok) hw (hg.all h) (hq.all h) (he.all h) hs
end
/-- a tuple target in a block -/
theorem w_tupC {j n : Nat} {u : TGs} (h : CxW Γ lo E X N sc fz) (q : PGs X es u) (hn : (assignEach es X.env).length = n) (hst : (assignEach es X.env).findIdx? (·.1) = none) : PG X (.Tuple es j pos) (gSq Γ.g.K n u) := by
  have z := pg_sq (j := j) (pos := pos) h.calm q hn hst
  rw [h.pK] at z
  exact z

/-! ### a def that makes lambdas -/
theorem fn_okL (h2 : 2 ≤ lo) {x qual : Str} {st : Stmt} {f ca P : Addr} {ps : List Str} {np n i : Nat} {body : SS} {tab : Nat → Option DefE} {m : Nat} {oc : Value} {od an : Option Addr} {osl : Array (Option Value)} {kV doc pm ct : Value} (hN : N.length = n) (hp : ps.length = np) (ht : tab i = some ⟨np, n, body⟩)
    (lk : Γ.g.K.lookup f = some ⟨oc, od, .func (PySem.W.fnOf x qual (defArgs st) (defBody st) (defScope st) .none kV doc pm an (.ref ca) ct), osl⟩) (hcd : PySem.W.codeIn Γ.g.K (.ref ca) qual = true) (hT : LamX.TabB Γ.base Γ.mg ca P)
    (hm1 : ∀ sc L, (P, (envOfC qual sc L f (.ref ca)).qual ++ "<lambda>") ∈ Γ.g.T) (hm2 : ∀ sc L, ∀ p ∈ Γ.g.T, p.1 = P → p.2 = (envOfC qual sc L f (.ref ca)).qual ++ "<lambda>") (S : FnScope N ps (defScope st))
    (hb : ∀ (X : Cx) (E : XK), CxW Γ lo E X N (defScope st) (fun _ => true) → LamAt Γ lo X → PSs X (defBody st) (tSS Γ.g E (callN tab m) body)) :
    FnOk Γ.P Γ.w Γ.g.K Γ.mg Γ.base (L2.CX Γ.P Γ.w) (lo + 3) f (PySem.W.fnOf x qual (defArgs st) (defBody st) (defScope st) .none kV doc pm an (.ref ca) ct) ps (spE Γ.g (callN tab (m + 1)) i) := by
  have e1 : ∀ B xs s, callN tab (m + 1) i B xs s = run1 np n body (callN tab m) B xs s := fun B xs s => by
    rw [callN, ht]
  have key : ∀ {vs H Q E}, spE Γ.g (callN tab (m + 1)) i vs H Q E → vs.length = ps.length ∧ ∃ B α s ds, R Γ.g B α H s ∧ RVs Γ.g.K α H vs ds ∧ POut Γ.g E (s.length :: B) α H (body ⟨callN tab m, s.length :: B⟩ (start0 n ds) s) { nx := fun _ H' => Q .non H', rt := Q } := fun {vs H Q E} ⟨B, α, s, ds, r, rv, q⟩ => by
    rw [e1, run1] at q
    split at q
    · rename_i hl
      exact ⟨by rw [rv.length, hl, hp], B, α, s, ds, r, rv, toRes_P (PRes.finF r q)⟩
    · exact q.elim
  refine fn_of lk hcd S (fun vs H Q E q => (key q).1) fun A outer s H vs Q E hr q => ?_
  obtain ⟨_, B, α, t, ds, r, rv, q⟩ := key q
  have hw : CxW Γ lo E (cxOf (L2.CX Γ.P Γ.w) Γ.P Γ.w Γ.g.K Γ.mg Γ.base N qual (defScope st) f (.ref ca) A outer s H E) N (defScope st) (fun _ => true) :=
    ⟨rfl, rfl, rfl, rfl, rfl, rfl, rfl, rfl, S.nd, hr.mono (by omega), h2, rfl, passes_of rfl, passes_call (takes_of rfl rfl rfl rfl) fun _ _ _ _ q => q, takes_of rfl rfl rfl rfl⟩
  exact ⟨_, hb _ E hw ⟨hr, ca, P, hT, rfl, hm1 _ _, hm2 _ _⟩, _, α, start0 n ds, t, r.push, RE.start hN rv, q⟩
end Ev

set_option maxRecDepth 10000
namespace Ev
open PySem L2 PyProof.Rows He

/-! ### the head's facts, read by one Hook -/
def asY (g : Addr → Option Obj) (n : Nat) : List Addr := asD g n ++ [cStatics]
abbrev InW : Type := Option (Str × Str × Arguments × FuncBody × Scope × Addr × Addr)
/-- a class's own __init__ that closes over __class__ -/
def inW (K : PySem.W.Frag) (f : Addr) : InW := match K.lookup f with
  | some ⟨_, _, .func d, _⟩ => some (d.name, d.qualname, d.params, d.body, d.scope, d.globals, d.builtins)
  | _ => none
abbrev AlY : Type := AlD × (Bool × InW)
def exA (K : PySem.W.Frag) : Addr := ga K "MachineError"
def exI (K : PySem.W.Frag) : Addr := ma K (exA K) "__init__"
def frY (n : Nat) (g : Addr → Option Obj) : PySem.W.Frag := frT g (asY g n)
def obsY (n : Nat) (fa : List Fa) (fn : List DefD) (tf : List Defn) (ex : PySem.W.Frag → Bool) (g : Addr → Option Obj) : AlY := (obsD fa fn (frY n g), (ex (frY n g) && tabsB g tf (frY n g), inW (frY n g) (exI (frY n g))))
def initV (st : Stmt) : InW := some ("__init__", "MachineError.__init__", defArgs st, .stmts (defBody st), defScope st, mainGlobals, builtinsNs)
def valY (fn : List DefD) (st : Stmt) : AlY := (valD fn, (true, initV st))
structure SaysY (fa : List Fa) (fn : List DefD) (tf : List Defn) (st : Stmt) (ex : PySem.W.Frag → Bool) (h : Heap) (K : PySem.W.Frag) : Prop where
  d : SaysD fa fn K
  more : ex K = true
  init : inW K (exI K) = initV st
  hd : ∀ p ∈ tf, PySem.W.codeHdIn K (cT K p).1 (cT K p).2 = true
  out : ∀ p ∈ tf, K.lookup (cT K p).2 = none
  empty : ∀ p ∈ tf, h.get? (cT K p).2 = some { cls := .none, data := .fields #[] }
theorem saysY_of {n : Nat} {fa : List Fa} {fn : List DefD} {tf : List Defn} {st : Stmt} {ex : PySem.W.Frag → Bool} {h : Heap} (e : obsY n fa fn tf ex h.get? = valY fn st) : SaysY fa fn tf st ex h (frY n h.get?) := by
  have e1 : obsD fa fn (frY n h.get?) = valD fn := congrArg (fun z : AlY => z.1) e
  have e2 : (ex (frY n h.get?) && tabsB h.get? tf (frY n h.get?)) = true := congrArg (fun z : AlY => z.2.1) e
  have e3 : inW (frY n h.get?) (exI (frY n h.get?)) = initV st := congrArg (fun z : AlY => z.2.2) e
  obtain ⟨h1, h2⟩ := ba e2
  have key : ∀ p ∈ tf, PySem.W.codeHdIn (frY n h.get?) (cT (frY n h.get?) p).1 (cT (frY n h.get?) p).2 = true ∧ ∃ o, h.get? (cT (frY n h.get?) p).2 = some o ∧ emptyTab o = true := fun p hp => by
    obtain ⟨h3, h4⟩ := ba (List.all_eq_true.mp h2 p hp)
    refine ⟨h3, ?_⟩
    cases z : h.get? (cT (frY n h.get?) p).2 with
    | none => rw [z] at h4; cases h4
    | some o => rw [z] at h4; exact ⟨o, rfl, h4⟩
  exact ⟨e1, h1, e3, fun p hp => (key p hp).1, fun p hp => let ⟨_, o, z1, z2⟩ := key p hp; frT_none z1 z2, fun p hp => by
    obtain ⟨_, o, z1, z2⟩ := key p hp
    rw [z1, emptyTab_eq z2]⟩
def hookY (n : Nat) (fa : List Fa) (fn : List DefD) (tf : List Defn) (st : Stmt) (ex : PySem.W.Frag → Bool) : PySem.W.Hook where
  α := AlY
  obs := fun s => obsY n fa fn tf ex s.heap.get?
  val := fun _ => valY fn st
  says := fun _ h => ∃ K : PySem.W.Frag, K.In h ∧ SaysY fa fn tf st ex h K
  of := fun _ _ e => ⟨_, frT_in, saysY_of e⟩
  keeps := fun _ _ _ ⟨K, hK, c⟩ q => ⟨K, PySem.W.Frag.In.keeps hK q, ⟨c.d, c.more, c.init, c.hd, c.out, fun p hp => q _ _ (c.empty p hp)⟩⟩
theorem obsY_eq {n : Nat} {fa : List Fa} {fn : List DefD} {tf : List Defn} {st : Stmt} {ex : PySem.W.Frag → Bool} {g : Addr → Option Obj} {s : Shared} (h : ∀ a, g a = s.heap.get? a) : obsY n fa fn tf ex g = (hookY n fa fn tf st ex).obs s := by
  have e : g = s.heap.get? := funext h
  rw [e] <;> rfl

/-! ### what is asked of the class of errors -/
def oexB (K : PySem.W.Frag) (C : Addr) : Bool := (match K.lookup C with
  | some ⟨.type t0, _, .cls c0, slz⟩ => t0 == "type" && (match c0.mro, slz.toList with
    | .ref C1 :: bm1, [_, _, _, _, some (.builtin n1), _] => C1 == C && n1 == "ValueError.__new__" && !c0.hasDel && c0.hasDict && PySem.HandSPX.refsVE bm1
    | _, _ => false)
  | _ => false)
/-- the code object, the closure, the defaults of its __init__ -/
def iB (file : Str) (K : PySem.W.Frag) (qual : Str) : Value → List (Str × Addr) → Value → Bool
  | .ref cda, [(nm1, cc)], .none => decide (nm1 = "__class__") && (PySem.W.codeIn K (.ref cda) qual && ((match K.lookup cda with
      | some ⟨_, _, .fields vs, _⟩ => (match (vs[2]? : Option Value) with
        | some (.str fl _) => file == fl
        | _ => false)
      | _ => false) && (match K.lookup cc with
      | some ⟨_, _, .cell (some (.ref D1)), _⟩ => decide (D1 = exA K)
      | _ => false)))
  | _, _, _ => false
def errB (file : Str) (K : PySem.W.Frag) : Bool :=
  oexB K (exA K) && (decide (PySem.W.findIn K (.ref (exA K)) "__setattr__" = some (some (.builtin "object.__setattr__"))) && (decide (PySem.W.subIn K (.ref (exA K)) (.type "BaseException") = some true) && (decide (PySem.W.typeIn K (.ref (exA K)) = some (.type "type")) && (PySem.W.keepIn K (.ref (exA K)) &&
  (decide (PySem.W.mroIn K (exA K) (.ref (exA K)) = some true) && (decide (PySem.W.ks_superIn K (exA K) (exA K) "__init__" = some (some (.builtin "ValueError.__init__"))) && (decide (PySem.W.subIn K (.ref (exA K)) (.type "ValueError") = some true) && (decide (PySem.W.nsIn K cStatics "thirdparty.any" = some none) &&
  (decide (PySem.W.findIn K (.ref (exA K)) "code" = some none) && (xfB K (exA K) && (decide (PySem.W.exmOne K (.ref (exA K)) (.ref (exA K)) = some true) && (decide (PySem.W.findIn K (.ref (exA K)) "__init__" = some (some (.ref (exI K)))) && (decide (PySem.W.typeIn K (.ref (exI K)) = some (.type "function")) &&
  (match K.lookup (exI K) with
  | some ⟨_, _, .func d, _⟩ => iB file K d.qualname d.code d.closure d.defaults
  | _ => false))))))))))))))
theorem iB_ok {file : Str} {K : PySem.W.Frag} {qual : Str} {c : Value} {clo : List (Str × Addr)} {dfl : Value} (h : iB file K qual c clo dfl = true) : ∃ cda cc ccl cdd vs ccs fl tf cl cld csl, c = .ref cda ∧ clo = [(("__class__" : Str), cc)] ∧ dfl = .none ∧ PySem.W.codeIn K (.ref cda) qual = true ∧
    K.lookup cda = some ⟨ccl, cdd, .fields vs, ccs⟩ ∧ vs[2]? = some (.str fl tf) ∧ (file == fl) = true ∧ K.lookup cc = some ⟨cl, cld, .cell (some (.ref (exA K))), csl⟩ := by
  unfold iB at h
  split at h
  · rename_i cda nm1 cc
    obtain ⟨hnm, h⟩ := ba h
    obtain ⟨c1, h⟩ := ba h
    obtain ⟨c2, c3⟩ := ba h
    have hnm := of_decide_eq_true hnm
    subst hnm
    split at c2
    · rename_i ccl cdd vs ccs hlc
      split at c2
      · rename_i fl tf hv
        split at c3
        · rename_i cl cld D1 csl hcc
          have hD := of_decide_eq_true c3
          rw [hD] at hcc
          exact ⟨cda, cc, ccl, cdd, vs, ccs, fl, tf, cl, cld, csl, rfl, rfl, rfl, c1, hlc, hv, c2, hcc⟩
        · cases c3
      · cases c2
    · cases c2
  · cases h
theorem oexB_ok {K : PySem.W.Frag} {C : Addr} (h : oexB K C = true) : ∃ nm q N bs bm sn sub ab col dd k0 k1 k2 k3 k5, K.lookup C = some (excClassObj nm q C N bs bm true sn sub ab col dd k0 k1 k2 k3 k5 "ValueError.__new__") ∧ PySem.HandSPX.refsVE bm = true := by
  unfold oexB at h
  split at h
  · rename_i t0 d0 c0 slz ho
    obtain ⟨ht, h⟩ := ba h
    split at h
    · rename_i C1 bm1 k0 k1 k2 k3 n1 k5 hm hs
      simp only [Bool.and_eq_true, beq_iff_eq, Bool.not_eq_true'] at h ht
      obtain ⟨⟨⟨⟨rfl, rfl⟩, hdel⟩, hdi⟩, hr⟩ := h
      subst ht
      obtain ⟨nm, bs, mro, ns, qn, hd, sn, sub, ab, col, del⟩ := c0
      dsimp only at hm hdel hdi
      subst hm hdel hdi
      have hsl : slz = #[k0, k1, k2, k3, some (.builtin "ValueError.__new__"), k5] := by
        rw [← Array.toArray_toList (xs := slz), hs]
      subst hsl
      exact ⟨nm, qn, ns, bs, bm1, sn, sub, ab, col, d0, k0, k1, k2, k3, k5, ho, hr⟩
    · cases h
  · cases h
theorem funD_fun {K : PySem.W.Frag} {x qual : Str} {st : Stmt} {f : Addr} {fd : FuncData} (F : FunD K x qual (defArgs st) (defBody st) (defScope st) [] [] f fd) : Fun K x qual st f fd := by
  obtain ⟨oc, od, dV, kV, doc, pm, an, cdv, ct, osl, rfl, lk, hcd, hD, _⟩ := F.ex
  rcases hD with ⟨_, rfl⟩ | ⟨e, _⟩
  · exact ⟨⟨oc, od, kV, doc, pm, an, cdv, ct, osl, rfl, lk, hcd⟩, F.kp⟩
  · exact absurd rfl e
theorem decB {p : Prop} [Decidable p] {b : Bool} (h : (decide p && b) = true) : p ∧ b = true := by
  rw [Bool.and_eq_true] at h
  exact ⟨of_decide_eq_true h.1, h.2⟩
section
variable {P : Program} {K : PySem.W.Frag} {mg : Str → Option Value} {h : Heap} {st : Stmt}
/-- what is told of the class of errors, as the layer asks it -/
theorem err_of (X : K.In h) (G : h.Ns mainGlobals mg) (hb : defBody st = body0) (hS : NdefX.NScope ["self", "code", "__class__"] ["self", "code"] ["__class__"] (defScope st)) (hs : (defScope st).names.lookup ("super" : Str) = some .globalImplicit)
    (har : ∃ ar, ((defArgs st).posonlyargs ++ (defArgs st).args).head? = some ar ∧ ar.arg = "self")
    (hbd : ∀ (qual : Str) (cl : List (Str × Addr)) (kV doc pm cdv ct : Value) (an : Option Addr) (us : List Value), us.length = 2 → bindArgs (PySem.W.fnX "__init__" qual (defArgs st) (defBody st) (defScope st) cl .none kV doc pm an cdv ct) ⟨us, []⟩ = pure ((["self", "code"] : List Str).zip us))
    (htop : (P.main.scope.names.lookup ("super" : Str)).isSome = false) (e : errB P.main.file K = true) (ei : inW K (exI K) = initV st) (hg : mg "MachineError" = some (.ref (exA K))) (hsu : mg "super" = none) :
    ∃ f fd, ErrC P K mg (exA K) f fd ∧ PySem.W.findIn K (.ref (exA K)) "__init__" = some (some (.ref f)) ∧ PySem.W.typeIn K (.ref f) = some (.type "function") ∧ mg "MachineError" = some (.ref (exA K)) := by
  obtain ⟨b1, e⟩ := ba e
  obtain ⟨b2, e⟩ := decB e
  obtain ⟨b3, e⟩ := decB e
  obtain ⟨b4, e⟩ := decB e
  obtain ⟨b5, e⟩ := ba e
  obtain ⟨b6, e⟩ := decB e
  obtain ⟨b7, e⟩ := decB e
  obtain ⟨b8, e⟩ := decB e
  obtain ⟨b9, e⟩ := decB e
  obtain ⟨b10, e⟩ := decB e
  obtain ⟨b11, e⟩ := ba e
  obtain ⟨b12, e⟩ := decB e
  obtain ⟨b13, e⟩ := decB e
  obtain ⟨b14, e⟩ := decB e
  obtain ⟨nm, q, N, bs, bm, sn, sub, ab, col, dd, k0, k1, k2, k3, k5, hC, hbm⟩ := oexB_ok b1
  cases hl : K.lookup (exI K) with
  | none => rw [hl] at e; cases e
  | some o =>
    obtain ⟨oc, od, dt, osl⟩ := o
    rw [hl] at e
    cases dt with
    | func d =>
      obtain ⟨n1, n2, n3, n4, n5, n6, n7, n8, n9, n10, n11, n12, n13, n14, n15⟩ := d
      unfold inW at ei
      rw [hl] at ei
      have e2 : (some (n1, n2, n3, n4, n5, n6, n15) : InW) = some (("__init__" : Str), ("MachineError.__init__" : Str), defArgs st, FuncBody.stmts (defBody st), defScope st, mainGlobals, builtinsNs) := ei
      simp only [Option.some.injEq, Prod.mk.injEq] at e2
      obtain ⟨h1, h2, h3, h4, h5, h6, h7⟩ := e2
      subst h1 h2 h3 h4 h5 h6 h7
      have e3 : iB P.main.file K "MachineError.__init__" n13 n7 n8 = true := e
      obtain ⟨cda, cc, ccl, cdd, vs, ccs, fl, tf, cl, cld, csl, rfl, rfl, rfl, c1, hlc, hv, c2, hcc⟩ := iB_ok e3
      obtain ⟨ar, har, hself⟩ := har
      obtain ⟨cdD, hcd⟩ : ∃ cdD, PySem.W.clsIn K (exA K) = some cdD := by
        unfold PySem.W.clsIn
        rw [hC]
        exact ⟨_, rfl⟩
      refine ⟨exI K, _, ⟨⟨⟨nm, q, N, bs, bm, sn, sub, ab, col, dd, k0, k1, k2, k3, k5, hC, hbm⟩, b2, b3, b4, b5⟩, ⟨oc, n9, n10, n11, n14, od, n12, osl, ccs, csl, ccl, cl, cdd, cld, vs, fl, tf, cda, cc, cdD, defArgs st, defScope st, ar, "MachineError.__init__", ?_, hl, c1, hlc, hv, c2, hcc, hcd, har, hself, hS, hs, ?_⟩, b6, b7, b8, b9, b10, hsu, htop⟩, b13, b14, hg⟩
      · rw [hb] <;> rfl
      · exact fun us hl => hbd _ _ _ _ _ _ _ _ us hl
    | _ => cases e
end
end Ev

set_option maxRecDepth 10000
namespace Ev
open PySem L2 PyProof.Rows He

/-! ### the defs, one call deeper at a time -/
structure DF (Γ : W0) (x : Str) (st : Stmt) (N ps : List Str) : Prop where
  ex : ∃ (f : Addr) (fd : FuncData), Fun Γ.g.K x x st f fd ∧ Γ.mg x = some (.ref f) ∧ Binds Γ.g.K fd ps []
  S : FnScope N ps (defScope st)
theorem fnOk_zero {Γ : W0} {tab : Nat → Option DefE} {i : Nat} {f : Addr} {fd : FuncData} {ps : List Str} : FnOk Γ.P Γ.w Γ.g.K Γ.mg Γ.base (L2.CX Γ.P Γ.w) 2 f fd ps (spE Γ.g (callN tab 0) i) :=
  ⟨fun vs H Q E h => let ⟨_, _, _, _, _, _, z⟩ := h; (show False from z).elim, fun A outer s H args us vs Q E _ _ _ _ h => let ⟨_, _, _, _, _, _, z⟩ := h; (show False from z).elim⟩
section
variable {Γ : W0} {x : Str} {st : Stmt} {N ps : List Str} {tab : Nat → Option DefE} {i m np n lo : Nat} {body : SS}
theorem DF.zero (F : DF Γ x st N ps) : FnA Γ 2 (callN tab 0) i x :=
  let ⟨f, fd, F1, hm, hb⟩ := F.ex
  ⟨f, fd, ps, fnOk_zero, hm, F1.kp, hb⟩
theorem DF.succ (F : DF Γ x st N ps) (hN : N.length = n) (hp : ps.length = np) (ht : tab i = some ⟨np, n, body⟩) (hlo : 2 ≤ lo) (hb : ∀ (X : Cx) (E : XK), CxW Γ lo E X N (defScope st) (fun _ => true) → PSs X (defBody st) (tSS Γ.g E (callN tab m) body)) : FnA Γ (lo + 3) (callN tab (m + 1)) i x :=
  let ⟨f, fd, F1, hm, hbi⟩ := F.ex
  ⟨f, fd, ps, (fn_ok hlo hN hp ht F1 F.S hb).mono (Nat.add_le_add_left (by decide) lo), hm, F1.kp, hbi⟩
end
/-- a def that makes lambdas -/
structure DFL (Γ : W0) (x : Str) (st : Stmt) (N ps : List Str) : Prop where
  ex : ∃ (f ca Pt : Addr) (oc : Value) (od an : Option Addr) (osl : Array (Option Value)) (kV doc pm ct : Value), Γ.g.K.lookup f = some ⟨oc, od, .func (PySem.W.fnOf x x (defArgs st) (defBody st) (defScope st) .none kV doc pm an (.ref ca) ct), osl⟩ ∧ PySem.W.codeIn Γ.g.K (.ref ca) x = true ∧ PySem.W.keepIn Γ.g.K (.ref f) = true ∧ Γ.mg x = some (.ref f) ∧
    Binds Γ.g.K (PySem.W.fnOf x x (defArgs st) (defBody st) (defScope st) .none kV doc pm an (.ref ca) ct) ps [] ∧ LamX.TabB Γ.base Γ.mg ca Pt ∧ (Pt, x ++ ".<locals>." ++ "<lambda>") ∈ Γ.g.T ∧ ∀ p ∈ Γ.g.T, p.1 = Pt → p.2 = x ++ ".<locals>." ++ "<lambda>"
  S : FnScope N ps (defScope st)
section
variable {Γ : W0} {x : Str} {st : Stmt} {N ps : List Str} {tab : Nat → Option DefE} {i m np n lo : Nat} {body : SS}
theorem DFL.zero (F : DFL Γ x st N ps) : FnA Γ 2 (callN tab 0) i x :=
  let ⟨f, ca, Pt, oc, od, an, osl, kV, doc, pm, ct, lk, hcd, hk, hm, hb, _⟩ := F.ex
  ⟨f, _, ps, fnOk_zero, hm, hk, hb⟩
theorem DFL.succ (F : DFL Γ x st N ps) (hN : N.length = n) (hp : ps.length = np) (ht : tab i = some ⟨np, n, body⟩) (hlo : 2 ≤ lo) (hb : ∀ (X : Cx) (E : XK), CxW Γ lo E X N (defScope st) (fun _ => true) → LamAt Γ lo X → PSs X (defBody st) (tSS Γ.g E (callN tab m) body)) : FnA Γ (lo + 3) (callN tab (m + 1)) i x :=
  let ⟨f, ca, Pt, oc, od, an, osl, kV, doc, pm, ct, lk, hcd, hk, hm, hbi, hT, h1, h2⟩ := F.ex
  ⟨f, _, ps, fn_okL hlo hN hp ht lk hcd hT (fun _ _ => h1) (fun _ _ => h2) F.S hb, hm, hk, hbi⟩
end
theorem df_of {Γ : W0} {x : Str} {st : Stmt} {N ps : List Str} {f : Addr} {fd : FuncData} (F : FunD Γ.g.K x x (defArgs st) (defBody st) (defScope st) [] [] f fd) (hm : Γ.mg x = some (.ref f)) (S : FnScope N ps (defScope st))
    (h : ∀ (kV doc pm : Value) (an : Option Addr) (cdv ct : Value) (us : List Value), us.length = ps.length → bindArgs (PySem.W.fnOf x x (defArgs st) (defBody st) (defScope st) .none kV doc pm an cdv ct) ⟨us, []⟩ = pure (ps.zip us)) : DF Γ x st N ps :=
  ⟨⟨f, fd, funD_fun F, hm, F.bindsN h⟩, S⟩
theorem dfl_of {Γ : W0} {x : Str} {st : Stmt} {N ps : List Str} {p : Defn} {fd : FuncData} (F : FunD Γ.g.K x x (defArgs st) (defBody st) (defScope st) [] [] (fAd Γ.g.K p) fd) (hm : Γ.mg x = some (.ref (fAd Γ.g.K p))) (S : FnScope N ps (defScope st))
    (h : ∀ (kV doc pm : Value) (an : Option Addr) (cdv ct : Value) (us : List Value), us.length = ps.length → bindArgs (PySem.W.fnOf x x (defArgs st) (defBody st) (defScope st) .none kV doc pm an cdv ct) ⟨us, []⟩ = pure (ps.zip us))
    (hT : LamX.TabB Γ.base Γ.mg (cT Γ.g.K p).1 (cT Γ.g.K p).2) (h1 : ((cT Γ.g.K p).2, x ++ ".<locals>." ++ "<lambda>") ∈ Γ.g.T) (h2 : ∀ q ∈ Γ.g.T, q.1 = (cT Γ.g.K p).2 → q.2 = x ++ ".<locals>." ++ "<lambda>") : DFL Γ x st N ps := by
  have hb := F.bindsN h
  obtain ⟨oc, od, dV, kV, doc, pm, an, cdv, ct, osl, rfl, lk, hcd, hD, _⟩ := F.ex
  rcases hD with ⟨_, rfl⟩ | ⟨e, _⟩
  · obtain ⟨c, rfl⟩ := codeIn_ref hcd
    have ec : (cT Γ.g.K p).1 = c := codeOf_eq lk rfl
    rw [ec] at hT
    exact ⟨⟨_, c, _, oc, od, an, osl, kV, doc, pm, ct, lk, hcd, F.kp, hm, hb, hT, h1, h2⟩, S⟩
  · exact absurd rfl e

/-! ### the law at a script -/
theorem sp_law {Γ : W0} {k : Nat → List Nat → List D → S → Res} {i : Nat} {H : Hp} {a : Addr} {ns : List Int} (hS : SqL Γ.g.K H a (ns.map V.int)) (hT : LamX.Tabs Γ.g.T H) (h : ∀ (s : S) (d : D), seqOf s d = some (ns.map D.int) → ∃ s', k i [] [d] s = .ok (.bl true) s') :
    spE Γ.g k i [.ref a] H (fun v _ => v = .bl true) fun _ _ _ => False := by
  have rv : ∀ {α : List Addr}, RVs Γ.g.K α H (ns.map V.int) (ns.map D.int) := fun {α} => by
    induction ns with
    | nil => exact .nil
    | cons n r ih =>
      have e : ∀ {l : List Int}, RVs Γ.g.K α H (l.map V.int) (l.map D.int) := fun {l} => by
        induction l with
        | nil => exact .nil
        | cons n r ih => exact .cons (.int _) ih
      exact e
  have fin : ∀ {α : List Addr} {s' : S}, PRes Γ.g (fun _ _ _ => False) [] α H (.ok (.bl true) s') (fun v _ => v = .bl true) := fun α' H' v e r rv => by
    cases rv
    rfl
  have go : ∀ (α : List Addr) (s : S) (d : D), R Γ.g [] α H s → RV Γ.g.K α H (.ref a) d → seqOf s d = some (ns.map D.int) → spE Γ.g k i [.ref a] H (fun v _ => v = .bl true) fun _ _ _ => False := fun α s d r rd hs => by
    obtain ⟨s', e⟩ := h s d hs
    exact ⟨[], α, s, [d], r, .cons rd .nil, by rw [e]; exact fin⟩
  have frl : FzL Γ.g.K H a (ns.map V.int) → spE Γ.g k i [.ref a] H (fun v _ => v = .bl true) fun _ _ _ => False := fun z =>
    go [] [] (.frl (ns.map D.int)) ⟨rfl, List.nodup_nil, fun n a o h => by simp at h, fun b hb => (by cases hb), hT, .nil⟩ (.frl z rv) rfl
  rcases hS with (hS | hS) | hS
  · refine go [a] [.lst (ns.map D.int)] (.ref 0) ⟨rfl, by simp, fun n b o hb ho => ?_, fun b hb => (by cases hb), hT, .nil⟩ (.ref rfl) rfl
    cases n with
    | zero =>
      cases hb
      cases ho
      exact .lst hS rv
    | succ n => simp at hb
  · exact frl (.inl hS)
  · exact frl (.inr hS)
theorem tabs_of {tf : List Defn} {K : PySem.W.Frag} {H : Hp} {f : Defn → Str} (h : ∀ p ∈ tf.map (cT K), H p.2 = some (.tbl #[])) : LamX.Tabs (tf.map fun p => ((cT K p).2, f p)) H := fun q hq => by
  obtain ⟨p, hp, rfl⟩ := List.mem_map.mp hq
  exact LamX.TabS.nil (h _ (List.mem_map.mpr ⟨p, hp, rfl⟩))
/-- tables that are apart have one name each -/
theorem tab_name {tf : List Defn} {K : PySem.W.Frag} {f : Defn → Str} (hn : (tf.map fun p => (cT K p).2).Nodup) {p : Defn} (hp : p ∈ tf) : ∀ q ∈ tf.map (fun p => ((cT K p).2, f p)), q.1 = (cT K p).2 → q.2 = f p := fun q hq e => by
  obtain ⟨r, hr, rfl⟩ := List.mem_map.mp hq
  obtain ⟨i, hi, ei⟩ := List.mem_iff_getElem.mp hr
  obtain ⟨j, hj, ej⟩ := List.mem_iff_getElem.mp hp
  have e2 : (tf.map fun p => (cT K p).2)[i]'(by simpa using hi) = (tf.map fun p => (cT K p).2)[j]'(by simpa using hj) := by
    rw [List.getElem_map, List.getElem_map, ei, ej]
    exact e
  have ij := (List.getElem_inj hn).mp e2
  subst ij
  rw [ei] at ej
  rw [ej]
/-- the def that tells, as the head has it -/
theorem told_of {Γ : W0} {st : Stmt} {f : Addr} {fd : FuncData} {p1 p2 p3 p4 p5 p6 p7 p8 p9 : Pos} (F : FunD Γ.g.K "_law_told" "_law_told" (defArgs st) (defBody st) (defScope st) [] [] f fd) (hm : Γ.mg "_law_told" = some (.ref f))
    (hb : defBody st = [.Try [.Return (some (.Call (.Name "call" p1) [] [] p2)) p3] [.ExceptHandler (some (.Name "MachineError" p4)) (some "e") [.Return (some (.Attribute (.Name "e" p5) "code" p6)) p7] p8] [] [] p9])
    (S : FnScope ["call", "e"] ["call"] (defScope st)) (hv : Vis (defScope st) "call") (h1 : (defScope st).names.lookup ("MachineError" : Str) = some .globalImplicit) (h2 : (defScope st).names.lookup ("e" : Str) = some .local)
    (h : ∀ (kV doc pm : Value) (an : Option Addr) (cdv ct : Value) (us : List Value), us.length = (["call"] : List Str).length → bindArgs (PySem.W.fnOf "_law_told" "_law_told" (defArgs st) (defBody st) (defScope st) .none kV doc pm an cdv ct) ⟨us, []⟩ = pure ((["call"] : List Str).zip us))
    (xf : XfC Γ.g.K Γ.g.ex) (noC : PySem.W.findIn Γ.g.K (.ref Γ.g.ex) "code" = some none) (hE : Γ.mg "MachineError" = some (.ref Γ.g.ex)) (exm : PySem.W.exmOne Γ.g.K (.ref Γ.g.ex) (.ref Γ.g.ex) = some true) : ToldC Γ := by
  have hbi := F.bindsN h
  obtain ⟨oc, od, dV, kV, doc, pm, an, cdv, ct, osl, rfl, lk, hcd, hD, _⟩ := F.ex
  rcases hD with ⟨_, rfl⟩ | ⟨e, _⟩
  · rw [hb] at lk hbi
    exact ⟨⟨f, oc, kV, doc, pm, cdv, ct, od, an, osl, _, _, p1, p2, p3, p4, p5, p6, p7, p8, p9, hm, F.kp, lk, hcd, hbi, S, hv, h1, h2⟩, xf, noC, hE, exm⟩
  · exact absurd rfl e
/-- what errB tells besides -/
theorem errB_xf {file : Str} {K : PySem.W.Frag} (e : errB file K = true) : XfC K (exA K) ∧ PySem.W.findIn K (.ref (exA K)) "code" = some none ∧ PySem.W.exmOne K (.ref (exA K)) (.ref (exA K)) = some true := by
  obtain ⟨_, e⟩ := ba e
  obtain ⟨_, e⟩ := decB e
  obtain ⟨_, e⟩ := decB e
  obtain ⟨_, e⟩ := decB e
  obtain ⟨_, e⟩ := ba e
  obtain ⟨_, e⟩ := decB e
  obtain ⟨_, e⟩ := decB e
  obtain ⟨_, e⟩ := decB e
  obtain ⟨_, e⟩ := decB e
  obtain ⟨b10, e⟩ := decB e
  obtain ⟨b11, e⟩ := ba e
  obtain ⟨b12, e⟩ := decB e
  exact ⟨xfB_ok b11, b10, b12⟩
end Ev

set_option maxRecDepth 10000
namespace Ev
open PySem L2 PyProof.Rows

section
variable {X : Cx} {g : G} {E : XK} {k : Nat → List Nat → List D → S → Res} {e a b c o f : Expr} {ra rb rc : ES} {es : List Expr} {as : AS} {pos p apos cpos : Pos} {tg iter : Expr}
variable {B : List Nat} {α α' α2 : List Addr} {H H' H2 : Hp} {s : S} {ρ : Env}

/-! ### dict(d) -/
theorem cd_dict : CallD X g E (.type "dict") dictD := by
  intro pins s σ H vs us Q I rv ⟨B, α, t, ds, hR, r, q⟩
  match ds, r, q with
  | [d], r, q =>
    obtain ⟨v, rfl, r1⟩ := r.one
    cases r1 with
    | @ref a n h1 =>
      simp only [dictD] at q
      split at q
      · rename_i kvs hd
        obtain ⟨p, xs, e, _, h3, h4⟩ := dct_of hR (.ref h1) hd
        cases e
        refine call_dictD pins s σ H _ us Q I rv ⟨a, xs, rfl, h3, fun p hp => ?_⟩
        have e1 : Ext g.K α (α ++ [p]) H (upd H p (.dK xs)) := .new hp
        refine q _ _ _ e1 (hR.new hp (.dct upd_same (h4.ext e1))) (.ref ?_)
        rw [List.getElem?_append_right (by rw [hR.len]; exact Nat.le_refl _), hR.len]
        simp
      · exact q.elim
    | _ => exact (show False from q).elim
  | [], _, q => exact (show False from q).elim
  | a :: b :: r', _, q => exact (show False from by cases a <;> exact q).elim

/-! ### what is written -/
theorem Ext.fill {K : PySem.W.Frag} {q : Addr} {u w : HO} (hp : H q = none) (e : Ext K α α2 H H2) (h2 : H2 q = some w) (ho : Chg w) : Ext K α (α2 ++ [q]) H (upd H2 q u) := by
  have eo : Ext0 K α2 α2 H2 (upd H2 q u) := .chg h2 ho
  refine ⟨⟨fun m b hm => ?_, fun a xs h => eo.tup a xs (e.tup a xs h), fun a xs h => eo.frl a xs (e.frl a xs h)⟩, fun a o h t n => ?_, fun a o k h => ?_⟩
  · have q := e.pre m b hm
    rw [List.getElem?_append_left (List.getElem?_eq_some_iff.mp q).1]
    exact q
  · have ne := ne_of_none h hp
    obtain ⟨q1, q2⟩ := e.off a o h t n
    refine ⟨by rw [upd_ne ne]; exact q1, fun z => ?_⟩
    rcases List.mem_append.mp z with z | z
    · exact q2 z
    · exact ne (List.mem_singleton.mp z)
  · rw [upd_ne (ne_of_none h hp)]
    exact e.frz a o k h
theorem RKs.merge {K : PySem.W.Frag} : ∀ {ys : List (Key × V)} {es : List (D × D)} {xs : List (Key × V)} {kvs : List (D × D)}, RKs K α H ys es → RKs K α H xs kvs → RKs K α H (mergeK xs ys) (mergeD kvs es)
  | _, _, _, _, .nil, h => h
  | _, _, _, _, .cons (k := kk) r t, h => by have q := RKs.merge t (RKs.put kk r h); exact q
/-- pairs of what is told -/
def flatP : List (V × V) → List V
  | [] => []
  | (x, y) :: r => x :: y :: flatP r
def aPairs : List (ES × ES) → AS
  | [] => aNil
  | (x, y) :: r => aCons x (aCons y (aPairs r))
theorem pairs_of {σ : L2.St} : ∀ (prs : List (ES × ES)) {α : List Addr} {H : Hp} {s : S} {Q : List V → Hp → Prop}, R g B α H s → RE g.K α H σ ρ → PRss g E B α H (aPairs prs ⟨k, B⟩ ρ s) Q → tPairs (prs.map fun p => (tE g E k p.1, tE g E k p.2)) σ H fun ps H3 => Q (flatP ps) H3
  | [], α, H, s, Q, hR, hE, h => h α H [] .refl hR .nil
  | (x, y) :: r, α, H, s, Q, hR, hE, h => by
    refine ⟨B, α, ρ, s, hR, hE, (PRes.bndA h).imp fun v H1 ⟨α1, d1, s1, e1, R1, r1, h1⟩ => ?_⟩
    refine ⟨B, α1, ρ, s1, R1, hE.ext e1, ?_⟩
    have h1' := PRss.bndA h1
    have h2 : PRes g E B α1 H1 (y ⟨k, B⟩ ρ s1) fun w H2 => ∃ α2 d2 s2, Ext g.K α1 α2 H1 H2 ∧ R g B α2 H2 s2 ∧ RV g.K α2 H2 w d2 ∧ PRss g E B α2 H2 (aPairs r ⟨k, B⟩ ρ s2) fun ws H3 => Q (v :: w :: ws) H3 := by
      show PRes g E B α1 H1 (y ⟨k, B⟩ ρ s1) _
      have h3 : PRss g E B α1 H1 ((y ⟨k, B⟩ ρ s1).bndA fun x s => (aPairs r ⟨k, B⟩ ρ s).bndA fun xs s => .ok (x :: xs) s) _ := h1'
      refine (PRes.bndA h3).imp fun w H2 ⟨α2, d2, s2, e2, R2, r2, h4⟩ => ⟨α2, d2, s2, e2, R2, r2, ?_⟩
      have h5 := PRss.bndA h4
      refine h5.imp fun ws H3 ⟨α3, d3, s3, e3, R3, r3, h6⟩ => ?_
      obtain ⟨α4, d4, s4, e4, R4, r4, h7⟩ := h6 α3 H3 (w :: ws) .refl R3 (.cons (r2.ext e3) r3)
      exact h7 α4 H3 (v :: w :: ws) .refl R4 (.cons (r1.ext e4) r4)
    exact h2.imp fun w H2 ⟨α2, d2, s2, e2, R2, r2, h4⟩ => pairs_of r R2 ((hE.ext e1).ext e2) h4
theorem pair_up : ∀ {ds : List D} {kvs : List (D × D)} {vs : List V}, pairUp ds = some kvs → RVs g.K α H vs ds → kvs.all (fun kv => isKey kv.1) = true → ∃ xs : List (Key × V), vs = flatP (xs.map fun kv => (kV kv.1, kv.2)) ∧ RKs g.K α H xs kvs
  | [], kvs, vs, h, r, _ => by
    cases h
    cases r
    exact ⟨[], rfl, .nil⟩
  | [d], kvs, vs, h, r, _ => by cases h
  | d :: d' :: ds, kvs, vs, h, r, hk => by
    rw [pairUp] at h
    cases hq : pairUp ds with
    | none => rw [hq] at h; cases h
    | some kr =>
      rw [hq] at h
      cases h
      rw [List.all_cons, Bool.and_eq_true] at hk
      cases r with
      | cons r1 t =>
        cases t with
        | cons r2 t =>
          obtain ⟨xs, e, rx⟩ := pair_up hq t hk.2
          obtain ⟨ky, e1, e2⟩ := key_of r1 hk.1
          subst e1 e2 e
          exact ⟨(ky, _) :: xs, rfl, .cons r2 rx⟩
theorem flatP_inj : ∀ {a b : List (V × V)}, flatP a = flatP b → a = b
  | [], [], _ => rfl
  | [], (_, _) :: _, h => by cases h
  | (_, _) :: _, [], h => by cases h
  | (x, y) :: a, (z, w) :: b, h => by
    simp only [flatP, List.cons.injEq] at h
    obtain ⟨rfl, rfl, h⟩ := h
    rw [flatP_inj h]
theorem tPairs.imp {σ : L2.St} : ∀ (prs : List (ES × ES)) {H : Hp} {Q Q' : List (V × V) → Hp → Prop}, tPairs (prs.map fun p => (tE g E k p.1, tE g E k p.2)) σ H Q → (∀ v H', Q v H' → Q' v H') → tPairs (prs.map fun p => (tE g E k p.1, tE g E k p.2)) σ H Q'
  | [], H, Q, Q', h, i => i _ _ h
  | (x, y) :: r, H, Q, Q', ⟨B, α, ρ, s, hR, hE, h⟩, i => ⟨B, α, ρ, s, hR, hE, h.imp fun v H1 ⟨B1, α1, ρ1, s1, R1, E1, h1⟩ => ⟨B1, α1, ρ1, s1, R1, E1, h1.imp fun w H2 h2 => tPairs.imp r h2 fun ps H3 h3 => i _ _ h3⟩⟩
theorem se_dct {keys : List (Option Expr)} {values : List Expr} {prs : List (ES × ES)} (h : PPs X pos keys values (prs.map fun p => (tE g E k p.1, tE g E k p.2))) (hall : keys.all (·.isSome) = true) (hl : keys.length = values.length) (h0 : keys ≠ []) (h15 : keys.length ≤ 15) : PE X (.Dict keys values pos) (tE g E k (eDct (aPairs prs))) :=
  PE.imp (pe_disp h hall hl h0 h15) fun σ H Q ⟨B, α, ρ, s, hR, hE, q⟩ => by
    intro p hp
    have eA : Ext g.K α α H (upd H p (.dK [])) := .newT hp
    have hn : p ∉ α := hR.notin hp
    have q3 : PRss g E B α (upd H p (.dK [])) (aPairs prs ⟨k, B⟩ ρ s) fun vs H2 => ∃ α2 ds s2, Ext g.K α α2 (upd H p (.dK [])) H2 ∧ R g B α2 H2 s2 ∧ RVs g.K α2 H2 vs ds ∧ PRes g E B α H (match pairUp ds with
        | some kvs => if kvs.length ≤ 15 ∧ kvs.all (fun kv => isKey kv.1) = true then al (.dct (mergeD [] kvs)) s2 else .fail
        | none => .fail) Q := by
      unfold eDct at q
      cases hz : aPairs prs ⟨k, B⟩ ρ s with
      | ok ds s2 =>
        rw [hz] at q
        exact fun α2 H2 vs e2 R2 r2 => ⟨α2, ds, s2, e2, R2, r2, q⟩
      | exc c t =>
        rw [hz] at q
        exact PExc.ext q eA
      | fail =>
        rw [hz] at q
        exact q.elim
    refine tPairs.imp prs (pairs_of prs (hR.newT hp) (hE.ext eA) q3) fun ps H2 ⟨α2, ds, s2, e2, R2, r2, h2⟩ => ?_
    obtain ⟨o1, o2⟩ := e2.off p _ upd_same (fun _ z => by cases z) hn
    split at h2
    · rename_i kvs hk
      split at h2
      · rename_i hl
        obtain ⟨xs, ex, rx⟩ := pair_up hk r2 hl.2
        refine ⟨o1, xs, flatP_inj ex, by rw [rx.length]; exact hl.1, ?_⟩
        have eF := Ext.fill (u := .dK (mergeK [] xs)) hp (eA.trans e2) o1 trivial
        have ro : RKs g.K α2 (upd H2 p (.dK (mergeK [] xs))) (mergeK [] xs) (mergeD [] kvs) := (RKs.merge rx .nil).ext0 (.chg o1 trivial)
        have ad := (R2.offc (u := .dK (mergeK [] xs)) o2 o1 trivial).adopt o2 (.dct upd_same ro)
        refine h2 _ _ _ eF ad (.ref ?_)
        rw [List.getElem?_append_right (by rw [R2.len]; exact Nat.le_refl _), R2.len]
        simp
      · exact h2.elim
    · exact h2.elim

/-! ### d.get(k, x) -/
theorem se_get2 (hu : X.A.units + 65 < cLine) (ho : PE X o (tE g E k ra)) (ha : PE X e (tE g E k rb)) (hf : PE X f (tE g E k rc)) (m : M2 X o "get" apos e f cpos) : PE X (.Call (.Attribute o "get" apos) [e, f] [] cpos) (tE g E k (eGet2 ra rb rc)) :=
  PE.imp (pe_dget2 (by omega) ho ha hf m) fun σ H Q ⟨B, α, ρ, s, hR, hE, q⟩ => by
    refine ⟨B, α, ρ, s, hR, hE, (PRes.bnd q).imp fun x H1 ⟨α1, d1, s1, e1, R1, r1, h1⟩ => ?_⟩
    cases d1 <;> try exact (show False from h1).elim
    case ref n =>
      dsimp only at h1
      split at h1
      · rename_i kvs0 hd0
        obtain ⟨a, xs0, rfl, ha1, h3, _⟩ := dct_of R1 r1 hd0
        refine ⟨a, rfl, .inl ⟨xs0, h3⟩, B, α1, ρ, s1, R1, hE.ext e1, (PRes.bnd h1).imp fun y H2 ⟨α2, d2, s2, e2, R2, r2, h2⟩ => ?_⟩
        refine ⟨B, α2, ρ, s2, R2, (hE.ext e1).ext e2, (PRes.bnd h2).imp fun z H3 ⟨α3, d3, s3, e3, R3, r3, h3'⟩ => ?_⟩
        split at h3'
        · rename_i kvs hd
          obtain ⟨a', xs, ea, _, h5, h6⟩ := dct_of R3 ((r1.ext e2).ext e3) hd
          cases ea
          split at h3'
          · exact h3'.elim
          · rename_i v hu hk hg
            obtain ⟨ky, k1, k2⟩ := key_of (r2.ext e3) hk
            subst k1 k2
            obtain ⟨w, w1, w2⟩ := (h6.find ky).1 _ hg
            exact ⟨some w, .inl ⟨xs, ky, h5, rfl, w1.symm⟩, h3' α3 H3 w .refl R3 w2⟩
          · rename_i hk hg
            obtain ⟨ky, k1, k2⟩ := key_of (r2.ext e3) hk
            subst k1 k2
            exact ⟨none, .inl ⟨xs, ky, h5, rfl, ((h6.find ky).2 hg).symm⟩, h3' α3 H3 z .refl R3 r3⟩
          · exact h3'.elim
        · exact h3'.elim
      · exact h1.elim

/-! ### walks over a dict, which stands locked meanwhile -/
theorem RE.ext0 {K : PySem.W.Frag} {σ : L2.St} (r : RE K α H σ ρ) (e : Ext0 K α α' H H') : RE K α' H' σ ρ := ⟨r.1, fun i h => let ⟨v, h1, h2⟩ := r.2 i h; ⟨v, h1, h2.ext0 e⟩⟩
theorem Ext0.unl {K : PySem.W.Frag} {d : Addr} {od : Obj} {xs : List (Key × V)} (h : H d = some (.frz od (.dK xs))) : Ext0 K α α H (upd H d (.dK xs)) := by
  have ne : ∀ {a : Addr} {v : HO}, H a = some v → (∀ o, v ≠ .frz o (.dK xs)) → a ≠ d := fun {a v} h1 c z => by
    rw [z, h] at h1
    cases h1
    exact c _ rfl
  refine ⟨fun n a h => h, fun a xs h => ?_, fun a xs h => ?_⟩
  · rcases h with (h | ⟨o, h⟩) | h
    · exact .inl (.inl (by rw [upd_ne (ne h fun _ z => by cases z)]; exact h))
    · exact .inl (.inr ⟨o, by rw [upd_ne (ne h fun _ z => by cases z)]; exact h⟩)
    · exact .inr h
  · rcases h with ⟨o, h⟩ | h
    · exact .inl ⟨o, by rw [upd_ne (ne h fun _ z => by cases z)]; exact h⟩
    · exact .inr h
/-- the whole of a locked part -/
theorem Ext.unlock {K : PySem.W.Frag} {d : Addr} {od : Obj} {xs : List (Key × V)} (hm : d ∈ α) (hd : H d = some (.dK xs)) (e : Ext K α α' (upd H d (.frz od (.dK xs))) H') : Ext K α α' H (upd H' d (.dK xs)) := by
  have hL : Ext K α α H (upd H d (.frz od (.dK xs))) := .chg hm hd trivial
  have hf : H' d = some (.frz od (.dK xs)) := e.frz d od xs upd_same
  have e2 := hL.trans e
  have eo : Ext0 K α' α' H' (upd H' d (.dK xs)) := .unl hf
  refine ⟨⟨e2.pre, fun a xs h => eo.tup a xs (e2.tup a xs h), fun a xs h => eo.frl a xs (e2.frl a xs h)⟩, fun a o h t n => ?_, fun a o k h => ?_⟩
  · have ne : a ≠ d := fun z => n (z ▸ hm)
    rw [upd_ne ne]
    exact e2.off a o h t n
  · have ne : a ≠ d := fun z => by rw [z, hd] at h; cases h
    rw [upd_ne ne]
    exact e2.frz a o k h
theorem R.unlock {n : Nat} {d : Addr} {od : Obj} {xs : List (Key × V)} {kvs : List (D × D)} (r : R g B α H s) (hn : α[n]? = some d) (ho : s[n]? = some (.dfz kvs)) (hd : H d = some (.frz od (.dK xs))) : R g B α (upd H d (.dK xs)) (s.set n (.dct kvs)) := by
  have eo : Ext0 g.K α α H (upd H d (.dK xs)) := .unl hd
  have l : α.length = s.length := r.len
  have hlt : n < α.length := (List.getElem?_eq_some_iff.mp hn).1
  have rd : RKs g.K α H xs kvs := by
    have q := r.obj n d _ hn ho
    cases q with
    | dfz h3 h4 =>
      rw [hd] at h3
      cases h3
      exact h4
  refine ⟨by simp [l], r.nd, fun m a o' ha ho' => ?_, fun c hc => ?_, fun q hq => ?_, r.ord⟩
  · by_cases hm : m = n
    · subst hm
      rw [hn] at ha
      cases ha
      rw [List.getElem?_set_self (by omega)] at ho'
      cases ho'
      exact .dct upd_same (rd.ext0 eo)
    · rw [List.getElem?_set_ne (Ne.symm hm)] at ho'
      refine (r.obj m a o' ha ho').ext0 eo (upd_ne fun z => hm ?_)
      subst z
      obtain ⟨i1, e1⟩ := List.getElem?_eq_some_iff.mp ha
      obtain ⟨i2, e2⟩ := List.getElem?_eq_some_iff.mp hn
      exact (List.getElem_inj r.nd).mp (e1.trans e2.symm)
  · obtain ⟨h1, h2⟩ := r.blk c hc
    refine ⟨by simpa using h1, fun m o' hm ho' => ?_⟩
    by_cases hmn : m = n
    · subst hmn
      rw [List.getElem?_set_self (by omega)] at ho'
      cases ho'
      have q := h2 m _ hm ho
      exact q
    · rw [List.getElem?_set_ne (Ne.symm hmn)] at ho'
      exact h2 m o' hm ho'
  · obtain ⟨ps, h1, h2, h3⟩ := r.tabs q hq
    have nt : ∀ {b : Addr} {w : HO}, H b = some w → (∀ o, w ≠ .frz o (.dK xs)) → b ≠ d := fun {b w} h c z => by
      rw [z, hd] at h
      cases h
      exact c _ rfl
    refine ⟨ps, by rw [upd_ne (nt h1 fun _ z => by cases z)]; exact h1, h2, fun pos cv hcv => ?_⟩
    obtain ⟨c, e1, e2⟩ := h3 pos cv hcv
    exact ⟨c, e1, by rw [upd_ne (nt e2 fun _ z => by cases z)]; exact e2⟩
theorem si_keyD {i : Nat} {x : Str} (hv : PE X (.Name x p) (tE g E k (eVar i))) : PI X tg (.Name x p) (tI g E k (iKeyD i)) :=
  PI.imp (pi_keys hv) fun σ H Q ⟨B, α, ρ, s, hR, hE, h⟩ => by
    refine ⟨B, α, ρ, s, hR, hE, ?_⟩
    unfold iKeyD at h
    unfold eVar
    cases hg : gv ρ i <;> rw [hg] at h <;> try exact (show False from h).elim
    case ref n =>
      dsimp only at h ⊢
      intro α1 H1 v e1 R1 r1
      split at h
      · rename_i kvs ho
        obtain ⟨a, rfl, ha, ro⟩ := R1.get r1 ho
        cases ro with
        | @dfz od xs _ h3 h4 =>
          refine ⟨a, od, rfl, .inl ⟨xs, h3, h α1 H1 _ e1 R1 ?_ rfl⟩⟩
          have hl : (kvs.map (·.1)).length = xs.length := by rw [List.length_map, h4.length]
          refine ⟨fun i B α2 H2 s2 hi e r _ => walk_keys.goes i H2 (by omega) (e.frz _ _ _ h3), fun B α2 H2 s2 e r _ => by rw [hl]; exact walk_keys.stops H2 (e.frz _ _ _ h3), fun i B α2 H2 s2 y H3 hi e r _ yl => ?_⟩
          obtain ⟨q1, ky, v, q2, q3⟩ := walk_keys.yields i H2 y H3 (by omega) (e.frz _ _ _ h3) yl
          subst q1 q3
          refine ⟨r, .refl, kD ky, ?_, ?_⟩
          · rw [List.getElem?_map]
            have : ∀ {xs : List (Key × V)} {kvs : List (D × D)}, RKs g.K α1 H1 xs kvs → ∀ (i : Nat) ky v, xs[i]? = some (ky, v) → (kvs[i]?).map (·.1) = some (kD ky) := by
              intro xs kvs h
              induction h with
              | nil => intro i ky v h; cases h
              | cons _ _ ih =>
                intro i ky v h
                cases i with
                | zero => cases h; rfl
                | succ i => exact ih i ky v h
            exact this h4 i ky v q2
          · cases ky
            · exact .int _
            · exact .str _
      · exact h.elim
theorem ss_forD {gc : Bool} {i : Nat} {x : Str} {t : TS} {tb : SS} {body : List Stmt} (hv : PE X (.Name x p) (tE g E k (eVar i))) (hp : PassesOwn (model X.prog X.w) X.A X.env X.xe) (hc : X.calm = true) (hg : PG X tg (TgD X g E k t)) (ht : TOk t) (hb : PSs X body (tSS g E k tb))
    (hs : ∀ y, foldedSetIterable (.Name x p) X.env y = pure y) : PS X (.For tg (.Name x p) body [] pos) (tSS g E k (sForD gc i t tb)) :=
  PS.imp (ps_lock (ss_for (gc := gc) hp hc (si_keyD hv) hg ht hb hs)) fun σ H Dd ⟨B, α, ρ, s, hR, hE, h⟩ => by
    unfold sForD at h
    cases hgv : gv ρ i <;> rw [hgv] at h <;> try exact (show False from h).elim
    case ref n =>
      dsimp only at h
      split at h
      · rename_i kvs ho
        have hlt : n < s.length := (List.getElem?_eq_some_iff.mp ho).1
        have hn : α[n]? = some (α[n]'(by rw [hR.len]; exact hlt)) := List.getElem?_eq_getElem _
        generalize α[n]'(by rw [hR.len]; exact hlt) = d at hn
        have ro := hR.obj n d _ hn ho
        have hm := List.mem_of_getElem? hn
        cases ro with
        | @dct xs _ h3 h4 =>
          refine ⟨d, _, h3, trivial, fun od => ?_⟩
          have eL : Ext g.K α α H (upd H d (.frz od (.dK xs))) := .chg hm h3 trivial
          have RL : R g B α (upd H d (.frz od (.dK xs))) (s.set n (.dfz kvs)) := hR.chg hn h3 trivial (.dfz upd_same (h4.ext eL)) fun b hb hlt => by have q := (hR.blk b hb).2 n _ hlt ho; exact q
          refine ⟨B, α, ρ, _, RL, hE.ext eL, ?_⟩
          revert h
          generalize sFor gc (iKeyD i) t tb ⟨k, B⟩ ρ (s.set n (.dfz kvs)) = out
          intro h
          have fz : ∀ {α1 H1}, Ext g.K α α1 (upd H d (.frz od (.dK xs))) H1 → H1 d = some (.frz od (.dK xs)) := fun e => e.frz d od xs upd_same
          cases out with
          | nx ρ' s' =>
            intro α1 H1 σ1 e r re
            simp only [unlk] at h
            split at h
            · rename_i kvs' ho'
              exact ⟨fz e, h α1 _ σ1 (e.unlock hm h3) (r.unlock (e.pre n d hn) ho' (fz e)) (re.ext0 (.unl (fz e)))⟩
            · exact h.elim
          | rt v s' =>
            intro α1 H1 v1 e r rv
            simp only [unlk] at h
            split at h
            · rename_i kvs' ho'
              exact ⟨fz e, h α1 _ v1 (e.unlock hm h3) (r.unlock (e.pre n d hn) ho' (fz e)) (rv.ext0 (.unl (fz e)))⟩
            · exact h.elim
          | exc c s' => exact PExc.ext h eL
          | bk ρ' s' => exact (show False from h).elim
          | ct ρ' s' => exact (show False from h).elim
          | fail => exact (show False from h).elim
      · exact h.elim
end
/-! ### .. in short -/
variable {Γ : W0} {lo : Nat} {E : XK} {X : Cx} {N : List Str} {sc : Scope} {fz : Str → Bool} {k : Nat → List Nat → List D → S → Res}
variable {e a b c o f : Expr} {es : List Expr} {ra rb rc ro : ES} {as : AS} {pos p apos cpos : Pos} {tg iter elt cond : Expr}
theorem bb_dict : bootBuiltins "dict" = some (.type "dict") := by kernel_rfl
theorem w_dict (h : CxW Γ lo E X N sc fz) (ha : PA X (e :: es) (tA Γ.g E k as)) (he : starEach (e :: es) X.env = (false, eval e X.env) :: starEach es X.env) (hpl : (backTo pos (starEach es X.env)).any (·.1) = false) (hg : bltB sc "dict" = true) (hm : Γ.mg "dict" = none) : PE X (.Call (.Name "dict" p) (e :: es) [] pos) (tE Γ.g E k (eBlt dictD as)) := w_bltT h cd_dict hg hm bb_dict ha he hpl
theorem w_forD {gc : Bool} {i : Nat} {x : Str} {t : TS} {tb : SS} {body : List Stmt} (h : CxW Γ lo E X N sc fz) (hv : PE X (.Name x p) (tE Γ.g E k (eVar i))) (hg : PG X tg (TgD X Γ.g E k t)) (ht : TOk t) (hb : PSs X body (tSS Γ.g E k tb)) (hs : ∀ y, foldedSetIterable (.Name x p) X.env y = pure y) :
    PS X (.For tg (.Name x p) body [] pos) (tSS Γ.g E k (sForD gc i t tb)) := ss_forD hv h.pas h.calm hg ht hb hs
end Ev

namespace Ev
open PySem

/-! ### loops as folds -/
/-- one turn of a for -/
def turn1 (gc : Bool) (t : TS) (body : SS) (c : C) (d : D) (ρ : Env) (s : S) : Out :=
  match (t (c.psh gc s.length) d ρ s).bnd fun ρ' s' => body (c.psh gc s.length) ρ' s' with
  | .nx ρ' s' => turnEnd gc s.length ρ' s' .nx
  | .ct ρ' s' => turnEnd gc s.length ρ' s' .nx
  | .bk ρ' s' => turnEnd gc s.length ρ' s' .bk
  | o => o
theorem turnEnd_map {gc : Bool} {b : Nat} {ρ ρ2 : Env} {s s2 : S} {k : Env → S → Out} (h : turnEnd gc b ρ s .nx = .nx ρ2 s2) : turnEnd gc b ρ s k = k ρ2 s2 := by
  unfold turnEnd at h ⊢
  split at h
  · cases h; rw [if_pos (by assumption)]
  · cases h; rw [if_neg (by assumption)]
theorem forL_cons {gc : Bool} {g : Option (Nat × List D)} {t : TS} {body : SS} {c : C} {d : D} {r : List D} {ρ ρ2 : Env} {s s2 : S} (h : turn1 gc t body c d ρ s = .nx ρ2 s2) (hg : gOk g s2 = true) : forL gc g t body c (d :: r) ρ s = forL gc g t body c r ρ2 s2 := by
  rw [forL]
  unfold turn1 at h
  cases hz : (t (c.psh gc s.length) d ρ s).bnd fun ρ' s' => body (c.psh gc s.length) ρ' s' with
  | nx ρ' s' => rw [hz] at h; dsimp only at h ⊢; rw [turnEnd_map h, if_pos hg]
  | ct ρ' s' => rw [hz] at h; dsimp only at h ⊢; rw [turnEnd_map h, if_pos hg]
  | bk ρ' s' =>
    rw [hz] at h
    dsimp only at h
    unfold turnEnd at h
    split at h <;> cases h
  | rt d s' => rw [hz] at h; cases h
  | exc k s' => rw [hz] at h; cases h
  | fail => rw [hz] at h; cases h
/-- a for whose turns all come to their ends -/
theorem forL_fold {A : Type} {gc : Bool} {g : Option (Nat × List D)} {t : TS} {body : SS} {c : C} (f : A → D → A) (env : A → Env) (st : A → S) (I : List D → A → Prop)
    (h : ∀ d r a, I (d :: r) a → turn1 gc t body c d (env a) (st a) = .nx (env (f a d)) (st (f a d)) ∧ gOk g (st (f a d)) = true ∧ I r (f a d)) :
    ∀ l a, I l a → forL gc g t body c l (env a) (st a) = .nx (env (l.foldl f a)) (st (l.foldl f a)) ∧ I [] (l.foldl f a)
  | [], a, hi => ⟨rfl, hi⟩
  | d :: r, a, hi => by
    obtain ⟨h1, h2, h3⟩ := h d r a hi
    rw [forL_cons h1 h2]
    exact forL_fold f env st I h r (f a d) h3
/-! ### statements, step by step -/
section
variable {a b body : SS} {t : ES} {e : ES} {c : C} {ρ ρ1 ρ2 ρ3 : Env} {s s1 s2 s3 : S} {d : D} {i : Nat}
theorem seq_nx (h : a c ρ s = .nx ρ1 s1) : sSeq a b c ρ s = b c ρ1 s1 := by unfold sSeq; rw [h]; rfl
theorem seq_rt (h : a c ρ s = .rt d s1) : sSeq a b c ρ s = .rt d s1 := by unfold sSeq; rw [h]; rfl
theorem seq_exc (h : a c ρ s = .exc d s1) : sSeq a b c ρ s = .exc d s1 := by unfold sSeq; rw [h]; rfl
theorem seq_bk (h : a c ρ s = .bk ρ1 s1) : sSeq a b c ρ s = .bk ρ1 s1 := by unfold sSeq; rw [h]; rfl
theorem seq_ct (h : a c ρ s = .ct ρ1 s1) : sSeq a b c ρ s = .ct ρ1 s1 := by unfold sSeq; rw [h]; rfl
theorem seq_go {o : Out} (h : a c ρ s = .nx ρ1 s1) (k : b c ρ1 s1 = o) : sSeq a b c ρ s = o := (seq_nx h).trans k
theorem if_go {p : Bool} {o : Out} (h : t c ρ s = .ok d s1) (ht : tru s1 d = some p) (h1 : p = true → a c ρ s1 = o) (h2 : p = false → b c ρ s1 = o) : sIf t a b c ρ s = o := by
  unfold sIf
  rw [h]
  simp only [Res.tstS, ht]
  cases p with
  | true => exact h1 rfl
  | false => exact h2 rfl
theorem run_go {np n : Nat} {k : Nat → List Nat → List D → S → Res} {B : List Nat} {xs : List D} {r : Res} (h1 : xs.length = np) (h : body ⟨k, s.length :: B⟩ (start0 n xs) s = .rt d s1) (hr : finF s.length (.ok d s1) = r) : run1 np n body k B xs s = r := by
  unfold run1
  rw [if_pos h1, h]
  exact hr
theorem if_t (h : t c ρ s = .ok d s1) (ht : tru s1 d = some true) : sIf t a b c ρ s = a c ρ s1 := by unfold sIf; rw [h]; simp only [Res.tstS, ht]; rfl
theorem if_f (h : t c ρ s = .ok d s1) (ht : tru s1 d = some false) : sIf t a b c ρ s = b c ρ s1 := by unfold sIf; rw [h]; simp only [Res.tstS, ht]; rfl
/-- a test by a truth value that is asked of plain facts -/
theorem if_b {p : Bool} (h : t c ρ s = .ok (.bl p) s1) : sIf t a b c ρ s = if p = true then a c ρ s1 else b c ρ s1 := by unfold sIf; rw [h]; rfl
theorem guard_nx (h : t c ρ s = .ok (.bl false) s1) : sIf t a sNil c ρ s = .nx ρ s1 := (if_f h rfl).trans rfl
theorem set_ok (h : e c ρ s = .ok d s1) : sSet i e c ρ s = .nx (sv ρ i d) s1 := by unfold sSet; rw [h]; rfl
theorem ret_ok (h : e c ρ s = .ok d s1) : sRet e c ρ s = .rt d s1 := by unfold sRet; rw [h]; rfl
theorem expr_ok (h : e c ρ s = .ok d s1) : sExpr e c ρ s = .nx ρ s1 := by unfold sExpr; rw [h]; rfl
theorem raise_ok (h : e c ρ s = .ok d s1) : sRaise e c ρ s = .exc d s1 := by unfold sRaise; rw [h]; rfl
theorem asg_ok {t : TS} (h : e c ρ s = .ok d s1) : sAsg e t c ρ s = t c d ρ s1 := by unfold sAsg; rw [h]; rfl
theorem for_nx {gc : Bool} {it : IS} {t : TS} {ds : List D} {g : Option (Nat × List D)} (hi : it (c.psh gc s.length) ρ s = .ok ds g s1) (hl : forL gc g t body (c.psh gc s.length) ds ρ s1 = .nx ρ2 s2) (he : turnEnd gc s.length ρ2 s2 .nx = .nx ρ3 s3) : sFor gc it t body c ρ s = .nx ρ3 s3 := by
  unfold sFor
  rw [hi]
  show endG gc s.length (forL gc g t body (c.psh gc s.length) ds ρ s1) = _
  rw [hl]
  exact he
theorem for_rt {gc : Bool} {it : IS} {t : TS} {ds : List D} {g : Option (Nat × List D)} (hi : it (c.psh gc s.length) ρ s = .ok ds g s1) (hl : forL gc g t body (c.psh gc s.length) ds ρ s1 = .rt d s2) : sFor gc it t body c ρ s = .rt d s2 := by
  unfold sFor
  rw [hi]
  show endG gc s.length (forL gc g t body (c.psh gc s.length) ds ρ s1) = _
  rw [hl]
  rfl
theorem te_same {gc : Bool} {s : S} {ρ : Env} {k : Env → S → Out} : turnEnd gc s.length ρ s k = k ρ s := by
  unfold turnEnd
  rw [if_neg (by simp)]
theorem te_len {gc : Bool} {s : S} {n : Nat} {ρ : Env} {k : Env → S → Out} (h : s.length = n) : turnEnd gc n ρ s k = k ρ s := by
  subst h; exact te_same
theorem turn_nx1 {gc : Bool} {t : TS} (h : (t (c.psh gc s.length) d ρ s).bnd (fun ρ' s' => body (c.psh gc s.length) ρ' s') = .nx ρ1 s1) (he : turnEnd gc s.length ρ1 s1 .nx = .nx ρ2 s2) : turn1 gc t body c d ρ s = .nx ρ2 s2 := by
  unfold turn1
  rw [h]
  exact he
theorem turn_ct1 {gc : Bool} {t : TS} (h : (t (c.psh gc s.length) d ρ s).bnd (fun ρ' s' => body (c.psh gc s.length) ρ' s') = .ct ρ1 s1) (he : turnEnd gc s.length ρ1 s1 .nx = .nx ρ2 s2) : turn1 gc t body c d ρ s = .nx ρ2 s2 := by
  unfold turn1
  rw [h]
  exact he
/-- a turn that leaves the store's length, the target a name -/
theorem turn_name {gc : Bool} (h : body (c.psh gc s.length) (sv ρ i d) s = .nx ρ1 s1) (hl : s1.length = s.length) : turn1 gc (tName i) body c d ρ s = .nx ρ1 s1 := turn_nx1 h (te_len hl)
/-! while: turns counted downwards -/
theorem while_f {gc : Bool} {n : Nat} (h : t (c.psh gc s.length) ρ s = .ok d s1) (ht : tru s1 d = some false) : whileL gc t body c (n + 1) ρ s = turnEnd gc s.length ρ s1 .nx := by
  rw [whileL, h]
  simp only [Res.tstS, ht]
  rfl
theorem while_t {gc : Bool} {n : Nat} (h : t (c.psh gc s.length) ρ s = .ok d s1) (ht : tru s1 d = some true) (hb : body (c.psh gc s.length) ρ s1 = .nx ρ1 s2) (he : turnEnd gc s.length ρ1 s2 .nx = .nx ρ2 s3) : whileL gc t body c (n + 1) ρ s = whileL gc t body c n ρ2 s3 := by
  rw [whileL, h]
  simp only [Res.tstS, ht]
  simp only [if_true]
  rw [hb]
  exact turnEnd_map he
theorem while_go {gc : Bool} {o : Out} (h : whileL gc t body c turns ρ s = o) : sWhile gc t body c ρ s = o := h
/-! calls -/
theorem run_rt {np n : Nat} {k : Nat → List Nat → List D → S → Res} {B : List Nat} {xs : List D} (h1 : xs.length = np) (h : body ⟨k, s.length :: B⟩ (start0 n xs) s = .rt d s1) : run1 np n body k B xs s = finF s.length (.ok d s1) := by
  unfold run1
  rw [if_pos h1, h]
  rfl
theorem run_nx {np n : Nat} {k : Nat → List Nat → List D → S → Res} {B : List Nat} {xs : List D} (h1 : xs.length = np) (h : body ⟨k, s.length :: B⟩ (start0 n xs) s = .nx ρ1 s1) : run1 np n body k B xs s = finF s.length (.ok .non s1) := by
  unfold run1
  rw [if_pos h1, h]
  rfl
theorem run_exc {np n : Nat} {k : Nat → List Nat → List D → S → Res} {B : List Nat} {xs : List D} (h1 : xs.length = np) (h : body ⟨k, s.length :: B⟩ (start0 n xs) s = .exc d s1) : run1 np n body k B xs s = finF s.length (.exc d s1) := by
  unfold run1
  rw [if_pos h1, h]
  rfl
end
theorem fin_len {d : D} {s : S} {n : Nat} (h : s.length = n) : fin n (.ok d s) = .ok d s := by simp [fin, h]
theorem finF_len {d : D} {s : S} {n : Nat} (h : s.length = n) : finF n (.ok d s) = .ok d s := by
  cases d <;> simp [finF, fin, h]
theorem fin_same' {d : D} {s : S} : fin s.length (.ok d s) = .ok d s := fin_len rfl
theorem finF_same {d : D} {s : S} : finF s.length (.ok d s) = .ok d s := finF_len rfl
theorem finE_same {d : D} {s : S} : finF s.length (.exc d s) = .exc d s := by simp [finF, fin]
/-- what is plain lets go whatever is new -/
theorem fin_pln {d : D} {s t : S} (h : d.yg s.length = false) : fin s.length (.ok d (s ++ t)) = .ok d s := by
  show (if (s ++ t).length = s.length then Res.ok d (s ++ t) else if d.yg s.length = true then .ok d (s ++ t) else .ok d ((s ++ t).take s.length)) = _
  by_cases hl : (s ++ t).length = s.length
  · have e : t = [] := by
      rw [List.length_append] at hl
      exact List.length_eq_zero_iff.mp (by omega)
    rw [e, List.append_nil, if_pos rfl]
  · rw [if_neg hl, if_neg (by rw [h]; exact Bool.false_ne_true), List.take_left']
    rfl
theorem finF_pln {d : D} {s t : S} (h : d.yg s.length = false) (hr : ∀ n, d ≠ .ref n) : finF s.length (.ok d (s ++ t)) = .ok d s := by
  cases d <;> first | exact fin_pln h | exact absurd rfl (hr _)
theorem tru_bl {s : S} {p : Bool} : tru s (.bl p) = some p := rfl
theorem mulOk_r {i j : Int} (h1 : -(2 ^ 64) < j) (h2 : j < 2 ^ 64) : mulOk i j = true := by
  unfold mulOk
  rw [Bool.or_eq_true]
  exact .inr (decide_eq_true ⟨h1, h2⟩)
theorem mulOk_l {i j : Int} (h1 : -(2 ^ 64) < i) (h2 : i < 2 ^ 64) : mulOk i j = true := by
  unfold mulOk
  rw [Bool.or_eq_true]
  exact .inl (decide_eq_true ⟨h1, h2⟩)
theorem mul_ok {i j : Int} {s : S} (h : mulOk i j = true) : bMul (.int i) (.int j) s = .ok (.int (i * j)) s := if_pos h
theorem iMul_ok {i j : Int} {s : S} (h : mulOk i j = true) : iMul (.int i) (.int j) s = .ok (.int (i * j)) s := if_pos h
theorem big_of {j : Int} (h : j < 2 ^ 62) : j < big := Int.lt_trans h (by decide +kernel)
theorem div_ok {i j : Int} {s : S} (h : 0 < j) (h2 : j < big) : bDiv (.int i) (.int j) s = .ok (.int (i / j)) s := if_pos ⟨h, h2⟩
theorem mod_ok {i j : Int} {s : S} (h : 0 < j) : bMod (.int i) (.int j) s = .ok (.int (i % j)) s := if_pos h
theorem cEq_int {a b : Int} {s : S} : cEq (.int a) (.int b) s = .ok (.bl (decide (a = b))) s := by
  simp [cEq, eqD, D.shp, D.eqv, ofB, BEq.beq]
theorem cNe_int {a b : Int} {s : S} : cNe (.int a) (.int b) s = .ok (.bl (!decide (a = b))) s := by
  simp [cNe, eqD, D.shp, D.eqv, ofB, BEq.beq]
mutual
theorem eqv_self : ∀ {k : Nat} {x : D}, x.shp k = true → D.eqv x x = true
  | _, .non, _ => rfl
  | _, .bl a, _ => by simp [D.eqv]
  | _, .int i, _ => by simp [D.eqv]
  | _, .str x, _ => by simp [D.eqv]
  | 0, .tup ds, h => by simp [D.shp] at h
  | k + 1, .tup ds, h => by rw [D.eqv]; exact eqvs_self (k := k) (by simpa [D.shp] using h)
  | _, .und, h => by simp [D.shp] at h
  | _, .frl _, h => by simp [D.shp] at h
  | _, .ref _, h => by simp [D.shp] at h
theorem eqvs_self : ∀ {k : Nat} {x : List D}, (∀ d ∈ x, D.shp k d = true) → D.eqvs x x = true
  | _, [], _ => rfl
  | k, d :: r, h => by
    rw [D.eqvs, eqv_self (h d List.mem_cons_self), eqvs_self fun z hz => h z (List.mem_cons_of_mem _ hz)]
    rfl
end
theorem cEq_shp {x y : D} {s : S} (h1 : x.shp 40 = true) (h2 : y.shp 40 = true) : cEq x y s = .ok (.bl (x.eqv y)) s := by
  simp [cEq, eqD, h1, h2, ofB]
theorem cNe_shp {x y : D} {s : S} (h1 : x.shp 40 = true) (h2 : y.shp 40 = true) : cNe x y s = .ok (.bl (!x.eqv y)) s := by
  simp [cNe, eqD, h1, h2, ofB]
theorem cEq_self {x : D} {s : S} (h : x.shp 40 = true) : cEq x x s = .ok (.bl true) s := by rw [cEq_shp h h, eqv_self h]
theorem cNe_self {x : D} {s : S} (h : x.shp 40 = true) : cNe x x s = .ok (.bl false) s := by rw [cNe_shp h h, eqv_self h]; rfl
theorem small_of {n : Int} (h0 : -(2 ^ 62) ≤ n) (h1 : n < 2 ^ 62) : small62 n = true := decide_eq_true ⟨h0, h1⟩
/-! ### the newest list -/
theorem top_get {s : S} {o : O} : (s ++ [o])[s.length]? = some o := by simp
theorem top_set {s : S} {o u : O} : (s ++ [o]).set s.length u = s ++ [u] := by simp
theorem top_lst {s : S} {ds : List D} : lstOf (s ++ [.lst ds]) s.length = some ds := by simp [lstOf]
theorem top_isL {s : S} {ds : List D} : isL (.ref s.length) (s ++ [.lst ds]) = true := by simp [isL, top_lst]
theorem wok_pln {B : List Nat} {i : Nat} {d : D} (h : ∀ b, d.yg b = false) : wok B i d = true := by simp [wok, h]
theorem yg_int {b : Nat} {i : Int} : D.yg b (.int i) = false := rfl
theorem ygs_map_int {b : Nat} : ∀ {l : List Int}, D.ygs b (l.map D.int) = false
  | [] => rfl
  | _ :: r => by rw [List.map_cons, D.ygs, ygs_map_int (l := r)]; rfl
theorem woks_ints {B : List Nat} {i : Nat} {l : List Int} : woks B i (l.map D.int) = true := by simp [woks, ygs_map_int]
theorem app_top {B : List Nat} {s : S} {ds : List D} {v : D} (hl : ds.length < lim) (hw : wok B s.length v = true) : mAppend B (.ref s.length) [v] (s ++ [.lst ds]) = .ok .non (s ++ [.lst (ds ++ [v])]) := by
  simp only [mAppend, top_get, top_set]
  rw [if_pos ⟨hl, hw⟩]
theorem tupD_lst {s : S} {n : Nat} {ds : List D} (h : lstOf s n = some ds) : tupD [.ref n] s = .ok (.tup ds) s := by simp [tupD, h]
theorem lenD_lst {s : S} {n : Nat} {ds : List D} (h : lstOf s n = some ds) : lenD [.ref n] s = .ok (.int ds.length) s := by simp [lenD, h]
theorem yg_tupI {b : Nat} {l : List Int} : D.yg b (.tup (l.map D.int)) = false := by rw [D.yg]; exact ygs_map_int
theorem lim_of {n : Nat} (h : n ≤ 1000000) : n < lim := Nat.lt_of_le_of_lt h (by decide)
/-! ### comprehensions -/
theorem finA_same {ds : List D} {s : S} : finA s.length (.ok ds s) = .ok ds s := by simp [finA]
theorem compL_map {g : Option (Nat × List D)} {i : Nat} {te : ES} {c : C} {ρ : Env} {s : S} {f : D → D} (hg : gOk g s = true) : ∀ (l : List D), (∀ d ∈ l, te { c with B := s.length :: c.B } (sv ρ i d) s = .ok (f d) s) → compL g (tName i) none te c ρ l s = .ok (l.map f) s
  | [], _ => rfl
  | d :: r, h => by
    have h1 := h d List.mem_cons_self
    have h2 := compL_map hg r fun z hz => h z (List.mem_cons_of_mem _ hz)
    simp only [compL, tName, compE, h1, Res.bndA, finA_same, hg, if_true, h2, Rss.bndA]
    rfl
theorem compL_filter {g : Option (Nat × List D)} {i : Nat} {tq te : ES} {c : C} {ρ : Env} {s : S} {f : D → D} {p : D → Bool} (hg : gOk g s = true) : ∀ (l : List D), (∀ d ∈ l, tq { c with B := s.length :: c.B } (sv ρ i d) s = .ok (.bl (p d)) s) → (∀ d ∈ l, p d = true → te { c with B := s.length :: c.B } (sv ρ i d) s = .ok (f d) s) → compL g (tName i) (some tq) te c ρ l s = .ok ((l.filter p).map f) s
  | [], _, _ => rfl
  | d :: r, h, h' => by
    have h1 := h d List.mem_cons_self
    have h2 := compL_filter hg r (fun z hz => h z (List.mem_cons_of_mem _ hz)) fun z hz => h' z (List.mem_cons_of_mem _ hz)
    cases hp : p d with
    | true =>
      have h3 := h' d List.mem_cons_self hp
      rw [hp] at h1
      simp only [compL, tName, compE, h1, h3, Res.tstA, tru, Res.bndA, finA_same, hg, if_true, h2, Rss.bndA, List.filter_cons, hp]
      rfl
    | false =>
      rw [hp] at h1
      simp only [compL, tName, compE, h1, Res.tstA, tru, Res.bndA, finA_same, hg, if_true, h2, Rss.bndA, List.filter_cons, hp, Bool.false_eq_true, if_false]
      rfl
theorem comp_ok {it : IS} {own : List Nat} {t : TS} {ts : Option ES} {te : ES} {c : C} {ρ : Env} {s : S} {ds L : List D} {g : Option (Nat × List D)} (hi : it { c with B := s.length :: c.B } ρ s = .ok ds g s) (hl : ds.length ≤ lim) (hc : compL g t ts te { c with B := s.length :: c.B } (wipeD ρ own) ds s = .ok L s) (hy : D.ygs s.length L = false) :
    eComp it own t ts te c ρ s = .ok (.ref s.length) (s ++ [.lst L]) := by
  unfold eComp
  rw [hi]
  simp only [Itm.bnd, if_pos hl, hc, Rss.bnd, al]
  have e1 : ¬ (s ++ [O.lst L]).length = s.length := by simp
  show (if (s ++ [O.lst L]).length = s.length then _ else if s.length < s.length then _ else _) = _
  rw [if_neg e1, if_neg (Nat.lt_irrefl _), top_get]
  show (if D.ygs s.length L = true then _ else _) = _
  rw [hy, if_neg Bool.false_ne_true, List.take_left']
  rfl
/-- a built-in that reads a new list and lets it go -/
theorem blt_top {f : List D → S → Res} {e : ES} {c : C} {ρ : Env} {s t : S} {x d : D} (he : e { c with B := s.length :: c.B } ρ s = .ok x (s ++ t)) (hf : f [x] (s ++ t) = .ok d (s ++ t)) (hy : d.yg s.length = false) (hr : ∀ n, d ≠ .ref n) : eBlt f (aCons e aNil) c ρ s = .ok d s := by
  unfold eBlt gcF aCons aNil
  simp only [he, Res.bndA, Rss.bndA, Rss.bnd, hf]
  exact finF_pln hy hr
theorem mapM_ints : ∀ l : List Int, (l.map D.int).mapM D.toI = some l
  | [] => rfl
  | i :: r => by
    rw [List.map_cons, List.mapM_cons, mapM_ints r]
    rfl
theorem mapM_bls : ∀ l : List Bool, (l.map D.bl).mapM D.toB = some l
  | [] => rfl
  | i :: r => by
    rw [List.map_cons, List.mapM_cons, mapM_bls r]
    rfl
theorem seqOf_top {s : S} {ds : List D} : seqOf (s ++ [.lst ds]) (.ref s.length) = some ds := top_lst
theorem allD_bls {s : S} {x : D} {l : List Bool} (h : seqOf s x = some (l.map D.bl)) : allD [x] s = .ok (.bl (l.all id)) s := by simp only [allD, h, mapM_bls]
theorem sumD_ints {s : S} {x : D} {l : List Int} (h : seqOf s x = some (l.map D.int)) : sumD [x] s = .ok (.int l.sum) s := by simp only [sumD, h, mapM_ints]
theorem ygs_map_bl {b : Nat} : ∀ {l : List Bool}, D.ygs b (l.map D.bl) = false
  | [] => rfl
  | _ :: r => by rw [List.map_cons, D.ygs, ygs_map_bl (l := r)]; rfl
end Ev

set_option maxRecDepth 100000
set_option maxHeartbeats 4000000
namespace KL
open PySem L2 Ev PyProof.Rows
def top (i : Nat) : Stmt := PySem.Challenge.pw_machinehall_k24_whole_figures.main.body.getD i (.Pass ⟨0, 0, 0, 0⟩)
abbrev s_power_of : Stmt := top 4
def n_power_of : List Str := ["number", "found", "_"]
abbrev s_check : Stmt := top 5
def n_check : List Str := ["bits"]
abbrev s_check_code : Stmt := top 6
def n_check_code : List Str := ["bits", "code"]
abbrev s_meaning : Stmt := top 7
def n_meaning : List Str := ["bits", "code"]
abbrev s_code_of : Stmt := top 8
def n_code_of : List Str := ["bits", "number"]
abbrev s_widened : Stmt := top 9
def n_widened : List Str := ["bits", "code", "more"]
abbrev s_added : Stmt := top 10
def n_added : List Str := ["bits", "one", "other", "whole", "code", "exact", "beyond"]
abbrev s_taken_off : Stmt := top 11
def n_taken_off : List Str := ["bits", "one", "other", "whole", "code", "exact", "beyond"]
abbrev s_digits : Stmt := top 12
def n_digits : List Str := ["bits", "code", "found", "before", "k", "now"]
abbrev s_sparse : Stmt := top 13
def n_sparse : List Str := ["bits", "code", "number", "found", "digit"]
abbrev s_from_digits : Stmt := top 14
def n_from_digits : List Str := ["row", "found", "digit"]
abbrev s_by_digits : Stmt := top 15
def n_by_digits : List Str := ["bits", "one", "other", "told", "number", "found", "k", "digit"]
abbrev s_divided : Stmt := top 16
def n_divided : List Str := ["bits", "one", "other", "rest", "quotient", "rows", "k"]
abbrev s_divided_both : Stmt := top 17
def n_divided_both : List Str := ["bits", "one", "other", "rest", "row", "k", "quotient", "digit"]
abbrev s_saved : Stmt := top 18
def n_saved : List Str := ["rows", "carries", "one", "two", "three"]
abbrev s_summed : Stmt := top 19
def n_summed : List Str := ["rows", "left", "steps", "following", "row"]
abbrev s_root_of : Stmt := top 20
def n_root_of : List Str := ["number", "place", "found", "rest"]
abbrev s_turned_bits : Stmt := top 21
def n_turned_bits : List Str := ["bits", "code", "k"]
abbrev s_counts : Stmt := top 22
def n_counts : List Str := ["bits", "code", "row", "ones", "k"]
abbrev s_law_begin : Stmt := top 24
def n_law_begin : List Str := ["script", "seed", "cell"]
abbrev s_law_take : Stmt := top 25
def n_law_take : List Str := ["d", "many", "digit", "small"]
abbrev s_law_raise : Stmt := top 27
def n_law_raise : List Str := ["times", "found", "k"]
abbrev s_law_mean : Stmt := top 28
def n_law_mean : List Str := ["bits", "code"]
abbrev s_law_fewest : Stmt := top 29
def n_law_fewest : List Str := ["number", "most", "rows", "power", "k", "following", "have", "digit", "made"]
abbrev s_law_wrong : Stmt := top 30
def n_law_wrong : List Str := []
abbrev s_law_part1 : Stmt := top 31
def n_law_part1 : List Str := ["d", "bits", "one", "other", "due", "numbers", "k", "rows", "many", "due_steps", "back", "ones", "left", "first", "second", "steps", "last", "root", "rest", "quotient", "signs", "number", "sign"]
abbrev s_law : Stmt := top 32
def n_law : List Str := ["script", "d", "bits", "whole", "one", "other", "a", "b", "number", "inside", "more", "row", "due", "thin", "told", "exact", "carry", "code", "k", "digit"]
def c_power_of : SS :=
  (sSeq (sSet 1 (eC (.int 1))) (sSeq (sFor true (iR1 (aCons (eVar 0) aNil)) (tName 2) (sSeq (sAug 1 iMul (eC (.int 2))) sNil)) (sSeq (sRet (eVar 1)) sNil)))
def c_check : SS :=
  (sSeq (sIf (eNot (eChain cLe cLe (eC (.int 1)) (eVar 0) (eC (.int 32)))) (sSeq (sRaise (eC (.str "bits"))) sNil) sNil) sNil)
def c_check_code : SS :=
  (sSeq (sExpr (eCall 1 (aCons (eVar 0) aNil))) (sSeq (sIf (eNot (eChain cLe cLt (eC (.int 0)) (eVar 1) (eCall 0 (aCons (eVar 0) aNil)))) (sSeq (sRaise (eC (.str "code"))) sNil) sNil) sNil))
def c_meaning : SS :=
  (sSeq (sExpr (eCall 2 (aCons (eVar 0) (aCons (eVar 1) aNil)))) (sSeq (sRet (eIf (eOp cGe (eVar 1) (eCall 0 (aCons (eOp bSub (eVar 0) (eC (.int 1))) aNil))) (eOp bSub (eVar 1) (eCall 0 (aCons (eVar 0) aNil))) (eVar 1))) sNil))
def c_code_of : SS :=
  (sSeq (sExpr (eCall 1 (aCons (eVar 0) aNil))) (sSeq (sIf (eNot (eChain cLe cLt (eOp bSub (eC (.int 0)) (eCall 0 (aCons (eOp bSub (eVar 0) (eC (.int 1))) aNil))) (eVar 1) (eCall 0 (aCons (eOp bSub (eVar 0) (eC (.int 1))) aNil)))) (sSeq (sRet (eC .non)) sNil) sNil) (sSeq (sRet (eOp bMod (eVar 1) (eCall 0 (aCons (eVar 0) aNil)))) sNil)))
def c_widened : SS :=
  (sSeq (sExpr (eCall 2 (aCons (eVar 0) (aCons (eVar 1) aNil)))) (sSeq (sIf (eNot (eChain cLe cLe (eVar 0) (eVar 2) (eC (.int 32)))) (sSeq (sRaise (eC (.str "more"))) sNil) sNil) (sSeq (sRet (eOp bMod (eCall 3 (aCons (eVar 0) (aCons (eVar 1) aNil))) (eCall 0 (aCons (eVar 2) aNil)))) sNil)))
def c_added : SS :=
  (sSeq (sExpr (eCall 2 (aCons (eVar 0) (aCons (eVar 1) aNil)))) (sSeq (sExpr (eCall 2 (aCons (eVar 0) (aCons (eVar 2) aNil)))) (sSeq (sSet 3 (eOp bAdd (eVar 1) (eVar 2))) (sSeq (sSet 4 (eOp bMod (eVar 3) (eCall 0 (aCons (eVar 0) aNil)))) (sSeq (sSet 5 (eOp bAdd (eCall 3 (aCons (eVar 0) (aCons (eVar 1) aNil))) (eCall 3 (aCons (eVar 0) (aCons (eVar 2) aNil))))) (sSeq (sSet 6 (eBlt intD (aCons (eOp cNe (eVar 5) (eCall 3 (aCons (eVar 0) (aCons (eVar 4) aNil)))) aNil))) (sSeq (sRet (eTup (aCons (eVar 4) (aCons (eTup (aCons (eOp bDiv (eVar 3) (eCall 0 (aCons (eVar 0) aNil))) (aCons (eVar 6) (aCons (eOp bDiv (eVar 4) (eCall 0 (aCons (eOp bSub (eVar 0) (eC (.int 1))) aNil))) (aCons (eBlt intD (aCons (eOp cEq (eVar 4) (eC (.int 0))) aNil)) aNil))))) aNil)))) sNil)))))))
def c_taken_off : SS :=
  (sSeq (sExpr (eCall 2 (aCons (eVar 0) (aCons (eVar 1) aNil)))) (sSeq (sExpr (eCall 2 (aCons (eVar 0) (aCons (eVar 2) aNil)))) (sSeq (sSet 3 (eOp bAdd (eOp bAdd (eVar 1) (eOp bSub (eOp bSub (eCall 0 (aCons (eVar 0) aNil)) (eC (.int 1))) (eVar 2))) (eC (.int 1)))) (sSeq (sSet 4 (eOp bMod (eVar 3) (eCall 0 (aCons (eVar 0) aNil)))) (sSeq (sSet 5 (eOp bSub (eCall 3 (aCons (eVar 0) (aCons (eVar 1) aNil))) (eCall 3 (aCons (eVar 0) (aCons (eVar 2) aNil))))) (sSeq (sSet 6 (eBlt intD (aCons (eOp cNe (eVar 5) (eCall 3 (aCons (eVar 0) (aCons (eVar 4) aNil)))) aNil))) (sSeq (sRet (eTup (aCons (eVar 4) (aCons (eTup (aCons (eOp bDiv (eVar 3) (eCall 0 (aCons (eVar 0) aNil))) (aCons (eVar 6) (aCons (eOp bDiv (eVar 4) (eCall 0 (aCons (eOp bSub (eVar 0) (eC (.int 1))) aNil))) (aCons (eBlt intD (aCons (eOp cEq (eVar 4) (eC (.int 0))) aNil)) aNil))))) aNil)))) sNil)))))))
def c_digits : SS :=
  (sSeq (sExpr (eCall 2 (aCons (eVar 0) (aCons (eVar 1) aNil)))) (sSeq (sSet 2 (eLst aNil)) (sSeq (sSet 3 (eC (.int 0))) (sSeq (sFor true (iR1 (aCons (eVar 0) aNil)) (tName 4) (sSeq (sSet 5 (eOp bMod (eOp bDiv (eVar 1) (eCall 0 (aCons (eVar 4) aNil))) (eC (.int 2)))) (sSeq (sExpr (eMt isL mAppend (eVar 2) (aCons (eOp bSub (eVar 3) (eVar 5)) aNil))) (sSeq (sSet 3 (eVar 5)) sNil)))) (sSeq (sRet (eBlt tupD (aCons (eVar 2) aNil))) sNil)))))
def c_sparse : SS :=
  (sSeq (sSet 2 (eCall 3 (aCons (eVar 0) (aCons (eVar 1) aNil)))) (sSeq (sSet 3 (eLst aNil)) (sSeq (sWhile true (eOp cNe (eVar 2) (eC (.int 0))) (sSeq (sSet 4 (eC (.int 0))) (sSeq (sIf (eOp cEq (eOp bMod (eVar 2) (eC (.int 2))) (eC (.int 1))) (sSeq (sSet 4 (eIf (eOp cEq (eOp bMod (eVar 2) (eC (.int 4))) (eC (.int 1))) (eC (.int 1)) (eUn uNeg (eC (.int 1))))) sNil) sNil) (sSeq (sExpr (eMt isL mAppend (eVar 3) (aCons (eVar 4) aNil))) (sSeq (sSet 2 (eOp bDiv (eOp bSub (eVar 2) (eVar 4)) (eC (.int 2)))) sNil))))) (sSeq (sRet (eBlt tupD (aCons (eVar 3) aNil))) sNil))))
def c_from_digits : SS :=
  (sSeq (sIf (eNot (eBlt allD (aCons (eComp (iSeq (eVar 0)) [2] (tName 2) none (eOp cIn (eVar 2) (eTup (aCons (eUn uNeg (eC (.int 1))) (aCons (eC (.int 0)) (aCons (eC (.int 1)) aNil)))))) aNil))) (sSeq (sRaise (eC (.str "digit"))) sNil) sNil) (sSeq (sSet 1 (eC (.int 0))) (sSeq (sFor true (iSeq (eUn rvD (eVar 0))) (tName 2) (sSeq (sSet 1 (eOp bAdd (eOp bMul (eC (.int 2)) (eVar 1)) (eVar 2))) sNil)) (sSeq (sRet (eVar 1)) sNil))))
def c_by_digits : SS :=
  (sSeq (sExpr (eCall 2 (aCons (eVar 0) (aCons (eVar 1) aNil)))) (sSeq (sSet 3 (eCall 8 (aCons (eVar 0) (aCons (eVar 2) aNil)))) (sSeq (sSet 4 (eCall 3 (aCons (eVar 0) (aCons (eVar 1) aNil)))) (sSeq (sSet 5 (eC (.int 0))) (sSeq (sFor true (Ev.iEnum (eVar 3)) (tTup 2 (tsCons (tName 6) (tsCons (tName 7) tsNil))) (sSeq (sAug 5 iAdd (eOp bMul (eOp bMul (eVar 7) (eVar 4)) (eCall 0 (aCons (eVar 6) aNil)))) sNil)) (sSeq (sRet (eTup (aCons (eVar 5) (aCons (eBlt lenD (aCons (eComp (iSeq (eVar 3)) [7] (tName 7) (some (eOp cNe (eVar 7) (eC (.int 0)))) (eVar 7)) aNil)) aNil)))) sNil))))))
def c_divided : SS :=
  (sSeq (sExpr (eCall 2 (aCons (eVar 0) (aCons (eVar 1) aNil)))) (sSeq (sExpr (eCall 2 (aCons (eVar 0) (aCons (eVar 2) aNil)))) (sSeq (sIf (eOp cEq (eVar 2) (eC (.int 0))) (sSeq (sRaise (eC (.str "nought"))) sNil) sNil) (sSeq (sSet 3 (eC (.int 0))) (sSeq (sSet 4 (eC (.int 0))) (sSeq (sSet 5 (eLst aNil)) (sSeq (sFor true (iR3 (aCons (eOp bSub (eVar 0) (eC (.int 1))) (aCons (eUn uNeg (eC (.int 1))) (aCons (eUn uNeg (eC (.int 1))) aNil)))) (tName 6) (sSeq (sSet 3 (eOp bAdd (eOp bMul (eC (.int 2)) (eVar 3)) (eOp bMod (eOp bDiv (eVar 1) (eCall 0 (aCons (eVar 6) aNil))) (eC (.int 2))))) (sSeq (sAug 4 iMul (eC (.int 2))) (sSeq (sIf (eOp cGe (eVar 3) (eVar 2)) (sSeq (sAug 3 bSub (eVar 2)) (sSeq (sAug 4 iAdd (eC (.int 1))) sNil)) sNil) (sSeq (sExpr (eMt isL mAppend (eVar 5) (aCons (eVar 3) aNil))) sNil))))) (sSeq (sRet (eTup (aCons (eVar 4) (aCons (eVar 3) (aCons (eBlt tupD (aCons (eVar 5) aNil)) aNil))))) sNil))))))))
def c_divided_both : SS :=
  (sSeq (sExpr (eCall 2 (aCons (eVar 0) (aCons (eVar 1) aNil)))) (sSeq (sExpr (eCall 2 (aCons (eVar 0) (aCons (eVar 2) aNil)))) (sSeq (sIf (eOp cEq (eVar 2) (eC (.int 0))) (sSeq (sRaise (eC (.str "nought"))) sNil) sNil) (sSeq (sSet 3 (eC (.int 0))) (sSeq (sSet 4 (eLst aNil)) (sSeq (sFor true (iR3 (aCons (eOp bSub (eVar 0) (eC (.int 1))) (aCons (eUn uNeg (eC (.int 1))) (aCons (eUn uNeg (eC (.int 1))) aNil)))) (tName 5) (sSeq (sSet 7 (eIf (eOp cGe (eVar 3) (eC (.int 0))) (eC (.int 1)) (eUn uNeg (eC (.int 1))))) (sSeq (sSet 3 (eOp bSub (eOp bAdd (eOp bMul (eC (.int 2)) (eVar 3)) (eOp bMod (eOp bDiv (eVar 1) (eCall 0 (aCons (eVar 5) aNil))) (eC (.int 2)))) (eOp bMul (eVar 7) (eVar 2)))) (sSeq (sExpr (eMt isL mAppend (eVar 4) (aCons (eVar 7) aNil))) sNil)))) (sSeq (sSet 6 (eCall 10 (aCons (eBlt tupD (aCons (eUn rvD (eVar 4)) aNil)) aNil))) (sSeq (sIf (eOp cLt (eVar 3) (eC (.int 0))) (sSeq (sRet (eTup (aCons (eOp bSub (eVar 6) (eC (.int 1))) (aCons (eOp bAdd (eVar 3) (eVar 2)) (aCons (eBlt tupD (aCons (eVar 4) aNil)) aNil))))) sNil) sNil) (sSeq (sRet (eTup (aCons (eVar 6) (aCons (eVar 3) (aCons (eBlt tupD (aCons (eVar 4) aNil)) aNil))))) sNil)))))))))
def c_saved : SS :=
  (sSeq (sIf (eOr (eOp cNe (eBlt lenD (aCons (eVar 0) aNil)) (eC (.int 3))) (eOp cLt (eBlt minD (aCons (eVar 0) aNil)) (eC (.int 0)))) (sSeq (sRaise (eC (.str "three"))) sNil) sNil) (sSeq (sAsg (eVar 0) (tTup 3 (tsCons (tName 2) (tsCons (tName 3) (tsCons (tName 4) tsNil))))) (sSeq (sSet 1 (eOp bOr (eOp bOr (eOp bAnd (eVar 2) (eVar 3)) (eOp bAnd (eVar 2) (eVar 4))) (eOp bAnd (eVar 3) (eVar 4)))) (sSeq (sRet (eTup (aCons (eOp bXor (eOp bXor (eVar 2) (eVar 3)) (eVar 4)) (aCons (eOp bMul (eC (.int 2)) (eVar 1)) aNil)))) sNil))))
def c_summed : SS :=
  (sSeq (sIf (eNot (eBlt allD (aCons (eComp (iSeq (eVar 0)) [4] (tName 4) none (eOp cGe (eVar 4) (eC (.int 0)))) aNil))) (sSeq (sRaise (eC (.str "number"))) sNil) sNil) (sSeq (sSet 1 (eBlt listD (aCons (eVar 0) aNil))) (sSeq (sSet 2 (eC (.int 0))) (sSeq (sWhile false (eOp cGt (eBlt lenD (aCons (eVar 1) aNil)) (eC (.int 2))) (sSeq (sSet 3 (eLst aNil)) (sSeq (sWhile false (eOp cGt (eBlt lenD (aCons (eVar 1) aNil)) (eC (.int 2))) (sSeq (sExpr (eMt isL mExtend (eVar 3) (aCons (eCall 14 (aCons (eTup (aCons (eOp bIx (eVar 1) (eC (.int 0))) (aCons (eOp bIx (eVar 1) (eC (.int 1))) (aCons (eOp bIx (eVar 1) (eC (.int 2))) aNil)))) aNil)) aNil))) (sSeq (sSet 1 (eSl (eVar 1) (some (eC (.int 3))) none)) sNil))) (sSeq (sSet 1 (eOp bAdd (eVar 3) (eVar 1))) (sSeq (sAug 2 iAdd (eC (.int 1))) sNil))))) (sSeq (sRet (eTup (aCons (eVar 2) (aCons (eBlt tupD (aCons (eVar 1) aNil)) aNil)))) sNil)))))
def c_root_of : SS :=
  (sSeq (sIf (eOp cLt (eVar 0) (eC (.int 0))) (sSeq (sRaise (eC (.str "number"))) sNil) sNil) (sSeq (sSet 1 (eC (.int 1))) (sSeq (sWhile true (eOp cLe (eOp bMul (eVar 1) (eC (.int 4))) (eVar 0)) (sSeq (sAug 1 iMul (eC (.int 4))) sNil)) (sSeq (sPar2 2 3 (aCons (eC (.int 0)) (aCons (eVar 0) aNil))) (sSeq (sWhile true (eOp cGt (eVar 1) (eC (.int 0))) (sSeq (sIf (eOp cGe (eVar 3) (eOp bAdd (eVar 2) (eVar 1))) (sSeq (sAug 3 bSub (eOp bAdd (eVar 2) (eVar 1))) (sSeq (sSet 2 (eOp bAdd (eOp bDiv (eVar 2) (eC (.int 2))) (eVar 1))) sNil)) (sSeq (sAug 2 bDiv (eC (.int 2))) sNil)) (sSeq (sAug 1 bDiv (eC (.int 4))) sNil))) (sSeq (sRet (eTup (aCons (eVar 2) (aCons (eVar 3) aNil)))) sNil))))))
def c_turned_bits : SS :=
  (sSeq (sExpr (eCall 2 (aCons (eVar 0) (aCons (eVar 1) aNil)))) (sSeq (sRet (eBlt sumD (aCons (eComp (iR1 (aCons (eVar 0) aNil)) [2] (tName 2) (some (eOp cEq (eOp bMod (eOp bDiv (eVar 1) (eCall 0 (aCons (eVar 2) aNil))) (eC (.int 2))) (eC (.int 1)))) (eCall 0 (aCons (eOp bSub (eOp bSub (eVar 0) (eC (.int 1))) (eVar 2)) aNil))) aNil))) sNil))
def c_counts : SS :=
  (sSeq (sExpr (eCall 2 (aCons (eVar 0) (aCons (eVar 1) aNil)))) (sSeq (sSet 2 (eComp (iR1 (aCons (eVar 0) aNil)) [4] (tName 4) none (eOp bMod (eOp bDiv (eVar 1) (eCall 0 (aCons (eVar 4) aNil))) (eC (.int 2))))) (sSeq (sSet 3 (eComp (iR1 (aCons (eVar 0) aNil)) [4] (tName 4) (some (eOp cEq (eOp bIx (eVar 2) (eVar 4)) (eC (.int 1)))) (eVar 4))) (sSeq (sRet (eTup (aCons (eBlt lenD (aCons (eVar 3) aNil)) (aCons (eIf (eVar 3) (eOp bSub (eOp bSub (eVar 0) (eC (.int 1))) (eOp bIx (eVar 3) (eUn uNeg (eC (.int 1))))) (eVar 0)) (aCons (eIf (eVar 3) (eOp bIx (eVar 3) (eC (.int 0))) (eVar 0)) aNil))))) sNil))))
def c_law_begin : SS :=
  (sSeq (sSet 1 (eC (.int 1))) (sSeq (sFor true (iSeq (eVar 0)) (tName 2) (sSeq (sSet 1 (eOp bMod (eOp bAdd (eOp bAdd (eOp bMul (eVar 1) (eC (.int 69621))) (eOp bMod (eBlt intD (aCons (eVar 2) aNil)) (eC (.int 2147483629)))) (eC (.int 7))) (eC (.int 2147483647)))) sNil)) (sSeq (sRet (eLst (aCons (eBlt listD (aCons (eVar 0) aNil)) (aCons (eC (.int 0)) (aCons (eC (.int 0)) (aCons (eVar 1) aNil)))))) sNil)))
def c_law_take : SS :=
  (sSeq (sIf (eAnd (eOp cEq (eOp bIx (eVar 0) (eC (.int 2))) (eC (.int 0))) (eOp cLt (eOp bIx (eVar 0) (eC (.int 1))) (eBlt lenD (aCons (eOp bIx (eVar 0) (eC (.int 0))) aNil)))) (sSeq (sAsg (eBlt absD (aCons (eBlt intD (aCons (eOp bIx (eOp bIx (eVar 0) (eC (.int 0))) (eOp bIx (eVar 0) (eC (.int 1)))) aNil)) aNil)) (tSub (eVar 0) (eC (.int 2)))) (sSeq (sAsg (eOp bAdd (eOp bIx (eVar 0) (eC (.int 1))) (eC (.int 1))) (tSub (eVar 0) (eC (.int 1)))) (sSeq (sIf (eOp cLt (eOp bIx (eVar 0) (eC (.int 2))) (eOp bPow (eC (.int 10)) (eC (.int 18)))) (sSeq (sSet 3 (eBlt intD (aCons (eOp bIx (eVar 0) (eC (.int 2))) aNil))) (sSeq (sAsg (eC (.int 0)) (tSub (eVar 0) (eC (.int 2)))) (sSeq (sRet (eOp bMod (eVar 3) (eVar 1))) sNil))) sNil) sNil))) sNil) (sSeq (sIf (eOp cGt (eOp bIx (eVar 0) (eC (.int 2))) (eC (.int 0))) (sSeq (sSet 2 (eOp bMod (eBlt intD (aCons (eOp bIx (eVar 0) (eC (.int 2))) aNil)) (eVar 1))) (sSeq (sAsg (eOp bDiv (eBlt intD (aCons (eOp bIx (eVar 0) (eC (.int 2))) aNil)) (eVar 1)) (tSub (eVar 0) (eC (.int 2)))) (sSeq (sRet (eVar 2)) sNil))) sNil) (sSeq (sAsg (eOp bMod (eBlt intD (aCons (eOp bAdd (eOp bMul (eOp bIx (eVar 0) (eC (.int 3))) (eC (.int 48271))) (eC (.int 11))) aNil)) (eC (.int 2147483647))) (tSub (eVar 0) (eC (.int 3)))) (sSeq (sRet (eOp bMod (eBlt intD (aCons (eOp bDiv (eOp bIx (eVar 0) (eC (.int 3))) (eC (.int 3))) aNil)) (eVar 1))) sNil))))
def c_law_raise : SS :=
  (sSeq (sSet 1 (eC (.int 1))) (sSeq (sFor true (iR1 (aCons (eVar 0) aNil)) (tName 2) (sSeq (sSet 1 (eOp bMul (eC (.int 2)) (eVar 1))) sNil)) (sSeq (sRet (eVar 1)) sNil)))
def c_law_mean : SS :=
  (sSeq (sRet (eIf (eOp cGe (eOp bMul (eC (.int 2)) (eVar 1)) (eCall 21 (aCons (eVar 0) aNil))) (eOp bSub (eVar 1) (eCall 21 (aCons (eVar 0) aNil))) (eVar 1))) sNil)
def c_law_fewest : SS :=
  (sSeq (sSet 2 (eDct (aPairs [((eC (.int 0)), (eC (.int 0)))]))) (sSeq (sSet 3 (eC (.int 1))) (sSeq (sFor false (iR1 (aCons (eVar 1) aNil)) (tName 4) (sSeq (sSet 5 (eBlt dictD (aCons (eVar 2) aNil))) (sSeq (sForD true 2 (tName 6) (sSeq (sFor true (iSeq (eTup (aCons (eUn uNeg (eC (.int 1))) (aCons (eC (.int 1)) aNil)))) (tName 7) (sSeq (sSet 8 (eOp bAdd (eVar 6) (eOp bMul (eVar 7) (eVar 3)))) (sSeq (sAsg (eBlt minD (aCons (eGet2 (eVar 5) (eVar 8) (eC (.int 99))) (aCons (eOp bAdd (eOp bIx (eVar 2) (eVar 6)) (eC (.int 1))) aNil))) (tSub (eVar 5) (eVar 8))) sNil))) sNil)) (sSeq (sSet 2 (eVar 5)) (sSeq (sSet 3 (eOp bMul (eC (.int 2)) (eVar 3))) sNil))))) (sSeq (sRet (eOp bIx (eVar 2) (eVar 0))) sNil))))
def c_law_wrong : SS :=
  (sSeq (sIf (eOr (eOp cNe (eTold (eCall 3 (aCons (eC (.int 0)) (aCons (eC (.int 0)) aNil)))) (eC (.str "bits"))) (eOr (eOp cNe (eTold (eCall 3 (aCons (eC (.int 33)) (aCons (eC (.int 0)) aNil)))) (eC (.str "bits"))) (eOr (eOp cNe (eTold (eCall 3 (aCons (eC (.int 2)) (aCons (eC (.int 4)) aNil)))) (eC (.str "code"))) (eOr (eOp cNe (eTold (eCall 6 (aCons (eC (.int 2)) (aCons (eC (.int 0)) (aCons (eUn uNeg (eC (.int 1))) aNil))))) (eC (.str "code"))) (eOp cNe (eTold (eCall 5 (aCons (eC (.int 3)) (aCons (eC (.int 0)) (aCons (eC (.int 2)) aNil))))) (eC (.str "more"))))))) (sSeq (sRet (eC (.bl false))) sNil) sNil) (sSeq (sIf (eOr (eOp cNe (eTold (eCall 5 (aCons (eC (.int 3)) (aCons (eC (.int 0)) (aCons (eC (.int 33)) aNil))))) (eC (.str "more"))) (eOr (eOp cNe (eTold (eCall 10 (aCons (eTup (aCons (eC (.int 2)) aNil)) aNil))) (eC (.str "digit"))) (eOr (eOp cNe (eTold (eCall 12 (aCons (eC (.int 3)) (aCons (eC (.int 1)) (aCons (eC (.int 0)) aNil))))) (eC (.str "nought"))) (eOr (eOp cNe (eTold (eCall 13 (aCons (eC (.int 3)) (aCons (eC (.int 1)) (aCons (eC (.int 0)) aNil))))) (eC (.str "nought"))) (eOp cNe (eTold (eCall 14 (aCons (eTup (aCons (eC (.int 1)) (aCons (eC (.int 2)) aNil))) aNil))) (eC (.str "three"))))))) (sSeq (sRet (eC (.bl false))) sNil) sNil) (sSeq (sRet (eAnd (eOp cEq (eTold (eCall 14 (aCons (eTup (aCons (eC (.int 1)) (aCons (eC (.int 2)) (aCons (eUn uNeg (eC (.int 1))) aNil)))) aNil))) (eC (.str "three"))) (eAnd (eOp cEq (eTold (eCall 15 (aCons (eTup (aCons (eUn uNeg (eC (.int 1))) aNil)) aNil))) (eC (.str "number"))) (eAnd (eOp cEq (eTold (eCall 16 (aCons (eUn uNeg (eC (.int 1))) aNil))) (eC (.str "number"))) (eAnd (eOp cEq (eCall 15 (aCons (eTup aNil) aNil)) (eTup (aCons (eC (.int 0)) (aCons (eTup aNil) aNil)))) (eOp cEq (eCall 16 (aCons (eC (.int 0)) aNil)) (eTup (aCons (eC (.int 0)) (aCons (eC (.int 0)) aNil))))))))) sNil)))
def c_law_part1 : SS :=
  (sSeq (sIf (eOp cGt (eVar 3) (eC (.int 0))) (sSeq (sAsg (eCall 12 (aCons (eVar 1) (aCons (eVar 2) (aCons (eVar 3) aNil)))) (tTup 3 (tsCons (tName 19) (tsCons (tName 18) (tsCons (tName 7) tsNil))))) (sSeq (sSet 12 (eC (.int 0))) (sSeq (sFor true (iR1 (aCons (eVar 1) aNil)) (tName 6) (sSeq (sSet 12 (eOp bAdd (eOp bMul (eC (.int 2)) (eVar 12)) (eOp bIx (eVar 4) (eOp bSub (eOp bSub (eVar 1) (eC (.int 1))) (eVar 6))))) (sSeq (sSet 12 (eIf (eOp cGe (eVar 12) (eVar 3)) (eOp bSub (eVar 12) (eVar 3)) (eVar 12))) (sSeq (sIf (eOp cNe (eOp bIx (eVar 7) (eVar 6)) (eVar 12)) (sSeq (sRet (eC (.bl false))) sNil) sNil) sNil)))) (sSeq (sAsg (eCall 13 (aCons (eVar 1) (aCons (eVar 2) (aCons (eVar 3) aNil)))) (tTup 3 (tsCons (tName 14) (tsCons (tName 16) (tsCons (tName 20) tsNil))))) (sSeq (sIf (eOr (eOp cNe (eOp bAdd (eOp bMul (eVar 19) (eVar 3)) (eVar 18)) (eVar 2)) (eOr (eOp cLt (eVar 18) (eC (.int 0))) (eOr (eOp cGe (eVar 18) (eVar 3)) (eOr (eOp cNe (eTup (aCons (eVar 14) (aCons (eVar 16) aNil))) (eTup (aCons (eVar 19) (aCons (eVar 18) aNil)))) (eOr (eOp cNe (eBlt lenD (aCons (eVar 20) aNil)) (eVar 1)) (eOp cGt (eBlt lenD (aCons (eComp (iSeq (eVar 20)) [22] (tName 22) (some (eOp cNotIn (eVar 22) (eTup (aCons (eC (.int 1)) (aCons (eUn uNeg (eC (.int 1))) aNil))))) (eVar 22)) aNil)) (eC (.int 0)))))))) (sSeq (sRet (eC (.bl false))) sNil) sNil) (sSeq (sSet 12 (eC (.int 0))) (sSeq (sFor true (iR1 (aCons (eVar 1) aNil)) (tName 6) (sSeq (sIf (eOp cNe (eOp bIx (eVar 20) (eVar 6)) (eIf (eOp cGe (eVar 12) (eC (.int 0))) (eC (.int 1)) (eUn uNeg (eC (.int 1))))) (sSeq (sRet (eC (.bl false))) sNil) sNil) (sSeq (sSet 12 (eOp bSub (eOp bAdd (eOp bMul (eC (.int 2)) (eVar 12)) (eOp bIx (eVar 4) (eOp bSub (eOp bSub (eVar 1) (eC (.int 1))) (eVar 6)))) (eOp bMul (eOp bIx (eVar 20) (eVar 6)) (eVar 3)))) sNil))) sNil))))))) sNil) (sSeq (sSet 5 (eBlt tupD (aCons (eComp (iR1 (aCons (eC (.int 3)) aNil)) [6] (tName 6) none (eOp bAdd (eOp bMul (eCall 20 (aCons (eVar 0) (aCons (eC (.int 900)) aNil))) (eOp bPow (eC (.int 10)) (eC (.int 12)))) (eCall 20 (aCons (eVar 0) (aCons (eC (.int 900)) aNil))))) aNil))) (sSeq (sAsg (eCall 14 (aCons (eVar 5) aNil)) (tTup 2 (tsCons (tName 13) (tsCons (tName 14) tsNil)))) (sSeq (sIf (eOr (eOp cNe (eOp bAdd (eVar 13) (eVar 14)) (eBlt sumD (aCons (eVar 5) aNil))) (eOp cNe (eOp bMod (eBlt intD (aCons (eVar 14) aNil)) (eC (.int 2))) (eC (.int 0)))) (sSeq (sRet (eC (.bl false))) sNil) sNil) (sSeq (sFor true (iR1 (aCons (eC (.int 45)) aNil)) (tName 6) (sSeq (sSet 11 (eBlt sumD (aCons (eComp (iSeq (eVar 5)) [21] (tName 21) none (eOp bMod (eBlt intD (aCons (eOp bDiv (eVar 21) (eCall 21 (aCons (eVar 6) aNil))) aNil)) (eC (.int 2)))) aNil))) (sSeq (sIf (eOr (eOp cNe (eOp bMod (eBlt intD (aCons (eOp bDiv (eVar 13) (eCall 21 (aCons (eVar 6) aNil))) aNil)) (eC (.int 2))) (eOp bMod (eBlt intD (aCons (eVar 11) aNil)) (eC (.int 2)))) (eOp cNe (eOp bMod (eBlt intD (aCons (eOp bDiv (eVar 14) (eCall 21 (aCons (eOp bAdd (eVar 6) (eC (.int 1))) aNil))) aNil)) (eC (.int 2))) (eBlt intD (aCons (eOp cGt (eVar 11) (eC (.int 1))) aNil)))) (sSeq (sRet (eC (.bl false))) sNil) sNil) sNil))) (sSeq (sSet 7 (eBlt tupD (aCons (eComp (iR1 (aCons (eCall 20 (aCons (eVar 0) (aCons (eC (.int 9)) aNil))) aNil)) [6] (tName 6) none (eCall 20 (aCons (eVar 0) (aCons (eC (.int 900)) aNil)))) aNil))) (sSeq (sAsg (eCall 15 (aCons (eVar 7) aNil)) (tTup 2 (tsCons (tName 15) (tsCons (tName 16) tsNil)))) (sSeq (sSet 8 (eBlt lenD (aCons (eVar 7) aNil))) (sSeq (sSet 9 (eC (.int 0))) (sSeq (sWhile true (eOp cGt (eVar 8) (eC (.int 2))) (sSeq (sSet 8 (eOp bAdd (eOp bMul (eC (.int 2)) (eOp bDiv (eVar 8) (eC (.int 3)))) (eOp bMod (eBlt intD (aCons (eVar 8) aNil)) (eC (.int 3))))) (sSeq (sSet 9 (eOp bAdd (eVar 9) (eC (.int 1)))) sNil))) (sSeq (sIf (eOr (eOp cNe (eVar 15) (eVar 9)) (eOr (eOp cNe (eBlt lenD (aCons (eVar 16) aNil)) (eBlt minD (aCons (eC (.int 2)) (aCons (eBlt lenD (aCons (eVar 7) aNil)) aNil)))) (eOp cNe (eBlt sumD (aCons (eVar 16) aNil)) (eBlt sumD (aCons (eVar 7) aNil))))) (sSeq (sRet (eC (.bl false))) sNil) sNil) (sSeq (sAsg (eCall 16 (aCons (eOp bIx (eVar 5) (eC (.int 0))) aNil)) (tTup 2 (tsCons (tName 17) (tsCons (tName 18) tsNil)))) (sSeq (sIf (eOr (eOp cNe (eOp bAdd (eOp bMul (eVar 17) (eVar 17)) (eVar 18)) (eOp bIx (eVar 5) (eC (.int 0)))) (eOr (eOp cLt (eVar 18) (eC (.int 0))) (eOp cGt (eVar 18) (eOp bMul (eC (.int 2)) (eVar 17))))) (sSeq (sRet (eC (.bl false))) sNil) sNil) (sSeq (sSet 10 (eC (.int 0))) (sSeq (sFor true (iR1 (aCons (eVar 1) aNil)) (tName 6) (sSeq (sSet 10 (eOp bAdd (eOp bMul (eC (.int 2)) (eVar 10)) (eOp bIx (eVar 4) (eVar 6)))) sNil)) (sSeq (sSet 11 (eComp (iR1 (aCons (eVar 1) aNil)) [6] (tName 6) (some (eOp cEq (eOp bIx (eVar 4) (eVar 6)) (eC (.int 1)))) (eVar 6))) (sSeq (sIf (eOr (eOp cNe (eCall 17 (aCons (eVar 1) (aCons (eVar 2) aNil))) (eVar 10)) (eOp cNe (eCall 18 (aCons (eVar 1) (aCons (eVar 2) aNil))) (eTup (aCons (eBlt lenD (aCons (eVar 11) aNil)) (aCons (eIf (eOp cGt (eBlt lenD (aCons (eVar 11) aNil)) (eC (.int 0))) (eOp bSub (eOp bSub (eVar 1) (eC (.int 1))) (eBlt maxD (aCons (eVar 11) aNil))) (eVar 1)) (aCons (eIf (eOp cGt (eBlt lenD (aCons (eVar 11) aNil)) (eC (.int 0))) (eBlt minD (aCons (eVar 11) aNil)) (eVar 1)) aNil)))))) (sSeq (sRet (eC (.bl false))) sNil) sNil) (sSeq (sRet (eCall 24 aNil)) sNil))))))))))))))))))
def c_law : SS :=
  (sSeq (sSet 1 (eCall 19 (aCons (eVar 0) aNil))) (sSeq (sSet 2 (eOp bAdd (eC (.int 1)) (eCall 20 (aCons (eVar 1) (aCons (eC (.int 12)) aNil))))) (sSeq (sIf (eOp cEq (eCall 20 (aCons (eVar 1) (aCons (eC (.int 4)) aNil))) (eC (.int 0))) (sSeq (sSet 2 (eC (.int 32))) sNil) sNil) (sSeq (sSet 3 (eCall 21 (aCons (eVar 2) aNil))) (sSeq (sSet 4 (eOp bMod (eBlt intD (aCons (eOp bAdd (eOp bMul (eCall 20 (aCons (eVar 1) (aCons (eC (.int 900)) aNil))) (eC (.int 4771819))) (eCall 20 (aCons (eVar 1) (aCons (eC (.int 900)) aNil)))) aNil)) (eVar 3))) (sSeq (sSet 5 (eOp bMod (eBlt intD (aCons (eOp bAdd (eOp bMul (eCall 20 (aCons (eVar 1) (aCons (eC (.int 900)) aNil))) (eC (.int 4771819))) (eCall 20 (aCons (eVar 1) (aCons (eC (.int 900)) aNil)))) aNil)) (eVar 3))) (sSeq (sSet 6 (eCall 22 (aCons (eVar 2) (aCons (eVar 4) aNil)))) (sSeq (sSet 7 (eCall 22 (aCons (eVar 2) (aCons (eVar 5) aNil)))) (sSeq (sIf (eOr (eOp cNe (eCall 3 (aCons (eVar 2) (aCons (eVar 4) aNil))) (eVar 6)) (eOr (eOp cNe (eCall 4 (aCons (eVar 2) (aCons (eVar 6) aNil))) (eVar 4)) (eOp cIsNot (eCall 4 (aCons (eVar 2) (aCons (eOp bAdd (eVar 6) (eVar 3)) aNil))) (eC .non)))) (sSeq (sRet (eC (.bl false))) sNil) sNil) (sSeq (sSet 8 (eOp bSub (eCall 20 (aCons (eVar 1) (aCons (eC (.int 900)) aNil))) (eC (.int 450)))) (sSeq (sSet 9 (eAnd (eOp cLt (eOp bMul (eC (.int 2)) (eVar 8)) (eVar 3)) (eOp cGe (eOp bMul (eC (.int 2)) (eVar 8)) (eOp bSub (eC (.int 0)) (eVar 3))))) (sSeq (sIf (eOp cNe (eCall 4 (aCons (eVar 2) (aCons (eVar 8) aNil))) (eIf (eVar 9) (eOp bMod (eBlt intD (aCons (eVar 8) aNil)) (eVar 3)) (eC .non))) (sSeq (sRet (eC (.bl false))) sNil) sNil) (sSeq (sSet 10 (eOp bAdd (eVar 2) (eCall 20 (aCons (eVar 1) (aCons (eOp bSub (eC (.int 33)) (eVar 2)) aNil))))) (sSeq (sIf (eOp cNe (eCall 22 (aCons (eVar 10) (aCons (eCall 5 (aCons (eVar 2) (aCons (eVar 4) (aCons (eVar 10) aNil)))) aNil))) (eVar 6)) (sSeq (sRet (eC (.bl false))) sNil) sNil) (sSeq (sFor true (iSeq (eLst (aCons (eTup (aCons (eCall 6 (aCons (eVar 2) (aCons (eVar 4) (aCons (eVar 5) aNil)))) (aCons (eOp bAdd (eVar 6) (eVar 7)) (aCons (eBlt intD (aCons (eOp cGe (eOp bAdd (eVar 4) (eVar 5)) (eVar 3)) aNil)) aNil)))) (aCons (eTup (aCons (eCall 7 (aCons (eVar 2) (aCons (eVar 4) (aCons (eVar 5) aNil)))) (aCons (eOp bSub (eVar 6) (eVar 7)) (aCons (eBlt intD (aCons (eOp cGe (eVar 4) (eVar 5)) aNil)) aNil)))) aNil)))) (tTup 3 (tsCons (tName 14) (tsCons (tName 15) (tsCons (tName 16) tsNil)))) (sSeq (sSet 17 (eOp bMod (eBlt intD (aCons (eVar 15) aNil)) (eVar 3))) (sSeq (sIf (eOp cNe (eVar 14) (eTup (aCons (eVar 17) (aCons (eTup (aCons (eVar 16) (aCons (eBlt intD (aCons (eOp cNe (eCall 22 (aCons (eVar 2) (aCons (eVar 17) aNil))) (eVar 15)) aNil)) (aCons (eBlt intD (aCons (eOp cGe (eOp bMul (eC (.int 2)) (eVar 17)) (eVar 3)) aNil)) (aCons (eBlt intD (aCons (eOp cEq (eVar 17) (eC (.int 0))) aNil)) aNil))))) aNil)))) (sSeq (sRet (eC (.bl false))) sNil) sNil) sNil))) (sSeq (sSet 11 (eCall 8 (aCons (eVar 2) (aCons (eVar 4) aNil)))) (sSeq (sSet 12 (eComp (iR1 (aCons (eVar 2) aNil)) [18] (tName 18) none (eOp bMod (eBlt intD (aCons (eOp bDiv (eVar 4) (eCall 21 (aCons (eVar 18) aNil))) aNil)) (eC (.int 2))))) (sSeq (sIf (eOr (eOp cNe (eVar 11) (eBlt tupD (aCons (eComp (iR1 (aCons (eVar 2) aNil)) [18] (tName 18) none (eOp bSub (eIf (eOp cGt (eVar 18) (eC (.int 0))) (eOp bIx (eVar 12) (eOp bSub (eVar 18) (eC (.int 1)))) (eC (.int 0))) (eOp bIx (eVar 12) (eVar 18)))) aNil))) (eOp cNe (eCall 10 (aCons (eVar 11) aNil)) (eVar 6))) (sSeq (sRet (eC (.bl false))) sNil) sNil) (sSeq (sSet 13 (eCall 9 (aCons (eVar 2) (aCons (eVar 4) aNil)))) (sSeq (sIf (eOr (eOp cNe (eCall 10 (aCons (eVar 13) aNil)) (eVar 6)) (eOr (eAnd (eOp cGt (eBlt lenD (aCons (eVar 13) aNil)) (eC (.int 0))) (eOp cEq (eOp bIx (eVar 13) (eUn uNeg (eC (.int 1)))) (eC (.int 0)))) (eOp cGt (eBlt lenD (aCons (eComp (iR2 (aCons (eC (.int 1)) (aCons (eBlt lenD (aCons (eVar 13) aNil)) aNil))) [18] (tName 18) (some (eAnd (eOp cNe (eOp bIx (eVar 13) (eVar 18)) (eC (.int 0))) (eOp cNe (eOp bIx (eVar 13) (eOp bSub (eVar 18) (eC (.int 1)))) (eC (.int 0))))) (eVar 18)) aNil)) (eC (.int 0))))) (sSeq (sRet (eC (.bl false))) sNil) sNil) (sSeq (sIf (eAnd (eOp cLe (eVar 2) (eC (.int 7))) (eOp cNe (eBlt lenD (aCons (eComp (iSeq (eVar 13)) [19] (tName 19) (some (eOp cNe (eVar 19) (eC (.int 0)))) (eVar 19)) aNil)) (eCall 23 (aCons (eVar 6) (aCons (eOp bAdd (eVar 2) (eC (.int 1))) aNil))))) (sSeq (sRet (eC (.bl false))) sNil) sNil) (sSeq (sIf (eOp cNe (eCall 11 (aCons (eVar 2) (aCons (eVar 4) (aCons (eVar 5) aNil)))) (eTup (aCons (eOp bMul (eVar 6) (eVar 7)) (aCons (eBlt lenD (aCons (eComp (iSeq (eCall 8 (aCons (eVar 2) (aCons (eVar 5) aNil)))) [19] (tName 19) (some (eOp cNe (eVar 19) (eC (.int 0)))) (eVar 19)) aNil)) aNil)))) (sSeq (sRet (eC (.bl false))) sNil) sNil) (sSeq (sRet (eCall 25 (aCons (eVar 1) (aCons (eVar 2) (aCons (eVar 4) (aCons (eVar 5) (aCons (eVar 12) aNil))))))) sNil)))))))))))))))))))))))
def tab : Nat → Option DefE
  | 0 => some ⟨1, 3, c_power_of⟩
  | 1 => some ⟨1, 1, c_check⟩
  | 2 => some ⟨2, 2, c_check_code⟩
  | 3 => some ⟨2, 2, c_meaning⟩
  | 4 => some ⟨2, 2, c_code_of⟩
  | 5 => some ⟨3, 3, c_widened⟩
  | 6 => some ⟨3, 7, c_added⟩
  | 7 => some ⟨3, 7, c_taken_off⟩
  | 8 => some ⟨2, 6, c_digits⟩
  | 9 => some ⟨2, 5, c_sparse⟩
  | 10 => some ⟨1, 3, c_from_digits⟩
  | 11 => some ⟨3, 8, c_by_digits⟩
  | 12 => some ⟨3, 7, c_divided⟩
  | 13 => some ⟨3, 8, c_divided_both⟩
  | 14 => some ⟨1, 5, c_saved⟩
  | 15 => some ⟨1, 5, c_summed⟩
  | 16 => some ⟨1, 4, c_root_of⟩
  | 17 => some ⟨2, 3, c_turned_bits⟩
  | 18 => some ⟨2, 5, c_counts⟩
  | 19 => some ⟨1, 3, c_law_begin⟩
  | 20 => some ⟨2, 4, c_law_take⟩
  | 21 => some ⟨1, 3, c_law_raise⟩
  | 22 => some ⟨2, 2, c_law_mean⟩
  | 23 => some ⟨2, 9, c_law_fewest⟩
  | 24 => some ⟨0, 0, c_law_wrong⟩
  | 25 => some ⟨5, 23, c_law_part1⟩
  | 26 => some ⟨1, 20, c_law⟩
  | _ => none
section
variable {Γ : W0} {lo : Nat} {E : XK} {X : Cx} {k : Nat → List Nat → List D → S → Res}
structure Tx (Γ : W0) (lo : Nat) (k : Nat → List Nat → List D → S → Res) : Prop where
  f_power_of : FnA Γ lo k 0 "power_of"
  f_check : FnA Γ lo k 1 "check"
  f_check_code : FnA Γ lo k 2 "check_code"
  f_meaning : FnA Γ lo k 3 "meaning"
  f_code_of : FnA Γ lo k 4 "code_of"
  f_widened : FnA Γ lo k 5 "widened"
  f_added : FnA Γ lo k 6 "added"
  f_taken_off : FnA Γ lo k 7 "taken_off"
  f_digits : FnA Γ lo k 8 "digits"
  f_sparse : FnA Γ lo k 9 "sparse"
  f_from_digits : FnA Γ lo k 10 "from_digits"
  f_by_digits : FnA Γ lo k 11 "by_digits"
  f_divided : FnA Γ lo k 12 "divided"
  f_divided_both : FnA Γ lo k 13 "divided_both"
  f_saved : FnA Γ lo k 14 "saved"
  f_summed : FnA Γ lo k 15 "summed"
  f_root_of : FnA Γ lo k 16 "root_of"
  f_turned_bits : FnA Γ lo k 17 "turned_bits"
  f_counts : FnA Γ lo k 18 "counts"
  f_law_begin : FnA Γ lo k 19 "_law_begin"
  f_law_take : FnA Γ lo k 20 "_law_take"
  f_law_raise : FnA Γ lo k 21 "_law_raise"
  f_law_mean : FnA Γ lo k 22 "_law_mean"
  f_law_fewest : FnA Γ lo k 23 "_law_fewest"
  f_law_wrong : FnA Γ lo k 24 "_law_wrong"
  f_law_part1 : FnA Γ lo k 25 "_law_part1"
  f_law : FnA Γ lo k 26 "law"
  b_abs : Γ.mg "abs" = none
  b_all : Γ.mg "all" = none
  b_dict : Γ.mg "dict" = none
  b_enumerate : Γ.mg "enumerate" = none
  b_int : Γ.mg "int" = none
  b_len : Γ.mg "len" = none
  b_list : Γ.mg "list" = none
  b_max : Γ.mg "max" = none
  b_min : Γ.mg "min" = none
  b_range : Γ.mg "range" = none
  b_sum : Γ.mg "sum" = none
  b_tuple : Γ.mg "tuple" = none
  c_MOST_BITS : ∃ t, Γ.mg "MOST_BITS" = some (.int 32 t)
  err : ErrW Γ
  told : ToldC Γ
theorem v_power_of_0 {fz : Str → Bool} (h : CxW Γ lo E X n_power_of (defScope s_power_of) fz) {pos : Pos} : PE X (.Name "number" pos) (tE Γ.g E k (eVar 0)) := w_var h (by kernel_rfl)
theorem v_power_of_1 {fz : Str → Bool} (h : CxW Γ lo E X n_power_of (defScope s_power_of) fz) {pos : Pos} : PE X (.Name "found" pos) (tE Γ.g E k (eVar 1)) := w_var h (by kernel_rfl)
theorem s_power_of_2 : stB (defScope s_power_of) (fun _ => true) n_power_of 2 "_" = true := by kernel_rfl
theorem s_power_of_1 : stB (defScope s_power_of) (fun _ => true) n_power_of 1 "found" = true := by kernel_rfl
theorem gb_power_of_range : bltB (defScope s_power_of) "range" = true := by kernel_rfl
theorem r_power_of (h : CxW Γ lo E X n_power_of (defScope s_power_of) (fun _ => true)) (T : Tx Γ lo k) : PSs X (defBody s_power_of) (tSS Γ.g E k c_power_of) := by
  unfold c_power_of
  exact (ss_cons (w_set (i := 1) h s_power_of_1 se_int rfl) (ss_cons (w_for h (w_r1 h T.b_range gb_power_of_range (sa_cons (v_power_of_0 h) sa_nil rfl) rfl) (w_name (i := 2) h s_power_of_2) tok_name (ss_cons (w_aug (i := 1) h s_power_of_1 ipd_mul se_int) ss_nil) (fun _ => rfl)) (ss_cons (ss_ret (v_power_of_1 h)) ss_nil)))
theorem v_check_0 {fz : Str → Bool} (h : CxW Γ lo E X n_check (defScope s_check) fz) {pos : Pos} : PE X (.Name "bits" pos) (tE Γ.g E k (eVar 0)) := w_var h (by kernel_rfl)
theorem g_check_MOST_BITS : glB (defScope s_check) "MOST_BITS" = true := by kernel_rfl
theorem g_check_MachineError : glB (defScope s_check) "MachineError" = true := by kernel_rfl
theorem r_check (h : CxW Γ lo E X n_check (defScope s_check) (fun _ => true)) (T : Tx Γ lo k) : PSs X (defBody s_check) (tSS Γ.g E k c_check) := by
  unfold c_check
  exact (ss_cons (ss_if (st_not (st_chain (opd_le) (opd_le) se_int (v_check_0 h) (w_gint h g_check_MOST_BITS T.c_MOST_BITS) rfl bl_le bl_le)) (ss_cons (w_raise h T.err g_check_MachineError se_str rfl) ss_nil) ss_nil) ss_nil)
theorem v_check_code_0 {fz : Str → Bool} (h : CxW Γ lo E X n_check_code (defScope s_check_code) fz) {pos : Pos} : PE X (.Name "bits" pos) (tE Γ.g E k (eVar 0)) := w_var h (by kernel_rfl)
theorem v_check_code_1 {fz : Str → Bool} (h : CxW Γ lo E X n_check_code (defScope s_check_code) fz) {pos : Pos} : PE X (.Name "code" pos) (tE Γ.g E k (eVar 1)) := w_var h (by kernel_rfl)
theorem g_check_code_MachineError : glB (defScope s_check_code) "MachineError" = true := by kernel_rfl
theorem g_check_code_check : glB (defScope s_check_code) "check" = true := by kernel_rfl
theorem g_check_code_power_of : glB (defScope s_check_code) "power_of" = true := by kernel_rfl
theorem r_check_code (h : CxW Γ lo E X n_check_code (defScope s_check_code) (fun _ => true)) (T : Tx Γ lo k) : PSs X (defBody s_check_code) (tSS Γ.g E k c_check_code) := by
  unfold c_check_code
  exact (ss_cons (ss_expr (w_call h T.f_check g_check_code_check (sa_cons (v_check_code_0 h) sa_nil rfl) rfl rfl) rfl) (ss_cons (ss_if (st_not (st_chain (opd_le) (opd_lt) se_int (v_check_code_1 h) (w_call h T.f_power_of g_check_code_power_of (sa_cons (v_check_code_0 h) sa_nil rfl) rfl rfl) rfl bl_le bl_lt)) (ss_cons (w_raise h T.err g_check_code_MachineError se_str rfl) ss_nil) ss_nil) ss_nil))
theorem v_meaning_0 {fz : Str → Bool} (h : CxW Γ lo E X n_meaning (defScope s_meaning) fz) {pos : Pos} : PE X (.Name "bits" pos) (tE Γ.g E k (eVar 0)) := w_var h (by kernel_rfl)
theorem v_meaning_1 {fz : Str → Bool} (h : CxW Γ lo E X n_meaning (defScope s_meaning) fz) {pos : Pos} : PE X (.Name "code" pos) (tE Γ.g E k (eVar 1)) := w_var h (by kernel_rfl)
theorem g_meaning_check_code : glB (defScope s_meaning) "check_code" = true := by kernel_rfl
theorem g_meaning_power_of : glB (defScope s_meaning) "power_of" = true := by kernel_rfl
theorem r_meaning (h : CxW Γ lo E X n_meaning (defScope s_meaning) (fun _ => true)) (T : Tx Γ lo k) : PSs X (defBody s_meaning) (tSS Γ.g E k c_meaning) := by
  unfold c_meaning
  exact (ss_cons (ss_expr (w_call h T.f_check_code g_meaning_check_code (sa_cons (v_meaning_0 h) (sa_cons (v_meaning_1 h) sa_nil rfl) rfl) rfl rfl) rfl) (ss_cons (ss_ret (se_if (st_cmp (opd_ge) (v_meaning_1 h) (w_call h T.f_power_of g_meaning_power_of (sa_cons (se_op (opd_sub) (v_meaning_0 h) se_int) sa_nil rfl) rfl rfl) rfl bl_ge) (se_op (opd_sub) (v_meaning_1 h) (w_call h T.f_power_of g_meaning_power_of (sa_cons (v_meaning_0 h) sa_nil rfl) rfl rfl)) (v_meaning_1 h))) ss_nil))
theorem v_code_of_0 {fz : Str → Bool} (h : CxW Γ lo E X n_code_of (defScope s_code_of) fz) {pos : Pos} : PE X (.Name "bits" pos) (tE Γ.g E k (eVar 0)) := w_var h (by kernel_rfl)
theorem v_code_of_1 {fz : Str → Bool} (h : CxW Γ lo E X n_code_of (defScope s_code_of) fz) {pos : Pos} : PE X (.Name "number" pos) (tE Γ.g E k (eVar 1)) := w_var h (by kernel_rfl)
theorem g_code_of_check : glB (defScope s_code_of) "check" = true := by kernel_rfl
theorem g_code_of_power_of : glB (defScope s_code_of) "power_of" = true := by kernel_rfl
theorem r_code_of (h : CxW Γ lo E X n_code_of (defScope s_code_of) (fun _ => true)) (T : Tx Γ lo k) : PSs X (defBody s_code_of) (tSS Γ.g E k c_code_of) := by
  unfold c_code_of
  exact (ss_cons (ss_expr (w_call h T.f_check g_code_of_check (sa_cons (v_code_of_0 h) sa_nil rfl) rfl rfl) rfl) (ss_cons (ss_if (st_not (st_chain (opd_le) (opd_lt) (se_op (opd_sub) se_int (w_call h T.f_power_of g_code_of_power_of (sa_cons (se_op (opd_sub) (v_code_of_0 h) se_int) sa_nil rfl) rfl rfl)) (v_code_of_1 h) (w_call h T.f_power_of g_code_of_power_of (sa_cons (se_op (opd_sub) (v_code_of_0 h) se_int) sa_nil rfl) rfl rfl) rfl bl_le bl_lt)) (ss_cons (ss_ret se_none) ss_nil) ss_nil) (ss_cons (ss_ret (se_op (opd_mod) (v_code_of_1 h) (w_call h T.f_power_of g_code_of_power_of (sa_cons (v_code_of_0 h) sa_nil rfl) rfl rfl))) ss_nil)))
theorem v_widened_0 {fz : Str → Bool} (h : CxW Γ lo E X n_widened (defScope s_widened) fz) {pos : Pos} : PE X (.Name "bits" pos) (tE Γ.g E k (eVar 0)) := w_var h (by kernel_rfl)
theorem v_widened_1 {fz : Str → Bool} (h : CxW Γ lo E X n_widened (defScope s_widened) fz) {pos : Pos} : PE X (.Name "code" pos) (tE Γ.g E k (eVar 1)) := w_var h (by kernel_rfl)
theorem v_widened_2 {fz : Str → Bool} (h : CxW Γ lo E X n_widened (defScope s_widened) fz) {pos : Pos} : PE X (.Name "more" pos) (tE Γ.g E k (eVar 2)) := w_var h (by kernel_rfl)
theorem g_widened_MOST_BITS : glB (defScope s_widened) "MOST_BITS" = true := by kernel_rfl
theorem g_widened_MachineError : glB (defScope s_widened) "MachineError" = true := by kernel_rfl
theorem g_widened_check_code : glB (defScope s_widened) "check_code" = true := by kernel_rfl
theorem g_widened_meaning : glB (defScope s_widened) "meaning" = true := by kernel_rfl
theorem g_widened_power_of : glB (defScope s_widened) "power_of" = true := by kernel_rfl
theorem r_widened (h : CxW Γ lo E X n_widened (defScope s_widened) (fun _ => true)) (T : Tx Γ lo k) : PSs X (defBody s_widened) (tSS Γ.g E k c_widened) := by
  unfold c_widened
  exact (ss_cons (ss_expr (w_call h T.f_check_code g_widened_check_code (sa_cons (v_widened_0 h) (sa_cons (v_widened_1 h) sa_nil rfl) rfl) rfl rfl) rfl) (ss_cons (ss_if (st_not (st_chain (opd_le) (opd_le) (v_widened_0 h) (v_widened_2 h) (w_gint h g_widened_MOST_BITS T.c_MOST_BITS) rfl bl_le bl_le)) (ss_cons (w_raise h T.err g_widened_MachineError se_str rfl) ss_nil) ss_nil) (ss_cons (ss_ret (se_op (opd_mod) (w_call h T.f_meaning g_widened_meaning (sa_cons (v_widened_0 h) (sa_cons (v_widened_1 h) sa_nil rfl) rfl) rfl rfl) (w_call h T.f_power_of g_widened_power_of (sa_cons (v_widened_2 h) sa_nil rfl) rfl rfl))) ss_nil)))
theorem v_added_0 {fz : Str → Bool} (h : CxW Γ lo E X n_added (defScope s_added) fz) {pos : Pos} : PE X (.Name "bits" pos) (tE Γ.g E k (eVar 0)) := w_var h (by kernel_rfl)
theorem v_added_1 {fz : Str → Bool} (h : CxW Γ lo E X n_added (defScope s_added) fz) {pos : Pos} : PE X (.Name "one" pos) (tE Γ.g E k (eVar 1)) := w_var h (by kernel_rfl)
theorem v_added_2 {fz : Str → Bool} (h : CxW Γ lo E X n_added (defScope s_added) fz) {pos : Pos} : PE X (.Name "other" pos) (tE Γ.g E k (eVar 2)) := w_var h (by kernel_rfl)
theorem v_added_3 {fz : Str → Bool} (h : CxW Γ lo E X n_added (defScope s_added) fz) {pos : Pos} : PE X (.Name "whole" pos) (tE Γ.g E k (eVar 3)) := w_var h (by kernel_rfl)
theorem v_added_4 {fz : Str → Bool} (h : CxW Γ lo E X n_added (defScope s_added) fz) {pos : Pos} : PE X (.Name "code" pos) (tE Γ.g E k (eVar 4)) := w_var h (by kernel_rfl)
theorem v_added_5 {fz : Str → Bool} (h : CxW Γ lo E X n_added (defScope s_added) fz) {pos : Pos} : PE X (.Name "exact" pos) (tE Γ.g E k (eVar 5)) := w_var h (by kernel_rfl)
theorem v_added_6 {fz : Str → Bool} (h : CxW Γ lo E X n_added (defScope s_added) fz) {pos : Pos} : PE X (.Name "beyond" pos) (tE Γ.g E k (eVar 6)) := w_var h (by kernel_rfl)
theorem s_added_6 : stB (defScope s_added) (fun _ => true) n_added 6 "beyond" = true := by kernel_rfl
theorem s_added_4 : stB (defScope s_added) (fun _ => true) n_added 4 "code" = true := by kernel_rfl
theorem s_added_5 : stB (defScope s_added) (fun _ => true) n_added 5 "exact" = true := by kernel_rfl
theorem s_added_3 : stB (defScope s_added) (fun _ => true) n_added 3 "whole" = true := by kernel_rfl
theorem g_added_check_code : glB (defScope s_added) "check_code" = true := by kernel_rfl
theorem gb_added_int : bltB (defScope s_added) "int" = true := by kernel_rfl
theorem g_added_meaning : glB (defScope s_added) "meaning" = true := by kernel_rfl
theorem g_added_power_of : glB (defScope s_added) "power_of" = true := by kernel_rfl
theorem r_added (h : CxW Γ lo E X n_added (defScope s_added) (fun _ => true)) (T : Tx Γ lo k) : PSs X (defBody s_added) (tSS Γ.g E k c_added) := by
  unfold c_added
  exact (ss_cons (ss_expr (w_call h T.f_check_code g_added_check_code (sa_cons (v_added_0 h) (sa_cons (v_added_1 h) sa_nil rfl) rfl) rfl rfl) rfl) (ss_cons (ss_expr (w_call h T.f_check_code g_added_check_code (sa_cons (v_added_0 h) (sa_cons (v_added_2 h) sa_nil rfl) rfl) rfl rfl) rfl) (ss_cons (w_set (i := 3) h s_added_3 (se_op (opd_add h.pK) (v_added_1 h) (v_added_2 h)) rfl) (ss_cons (w_set (i := 4) h s_added_4 (se_op (opd_mod) (v_added_3 h) (w_call h T.f_power_of g_added_power_of (sa_cons (v_added_0 h) sa_nil rfl) rfl rfl)) rfl) (ss_cons (w_set (i := 5) h s_added_5 (se_op (opd_add h.pK) (w_call h T.f_meaning g_added_meaning (sa_cons (v_added_0 h) (sa_cons (v_added_1 h) sa_nil rfl) rfl) rfl rfl) (w_call h T.f_meaning g_added_meaning (sa_cons (v_added_0 h) (sa_cons (v_added_2 h) sa_nil rfl) rfl) rfl rfl)) rfl) (ss_cons (w_set (i := 6) h s_added_6 (w_int h (sa_cons (se_cmp (opd_ne h.pK h.u64) (v_added_5 h) (w_call h T.f_meaning g_added_meaning (sa_cons (v_added_0 h) (sa_cons (v_added_4 h) sa_nil rfl) rfl) rfl rfl) rfl) sa_nil rfl) rfl rfl gb_added_int T.b_int) rfl) (ss_cons (ss_ret (se_tup (sa_cons (v_added_4 h) (sa_cons (se_tup (sa_cons (se_op (opd_div) (v_added_3 h) (w_call h T.f_power_of g_added_power_of (sa_cons (v_added_0 h) sa_nil rfl) rfl rfl)) (sa_cons (v_added_6 h) (sa_cons (se_op (opd_div) (v_added_4 h) (w_call h T.f_power_of g_added_power_of (sa_cons (se_op (opd_sub) (v_added_0 h) se_int) sa_nil rfl) rfl rfl)) (sa_cons (w_int h (sa_cons (se_cmp (opd_eq h.pK h.u64) (v_added_4 h) se_int rfl) sa_nil rfl) rfl rfl gb_added_int T.b_int) sa_nil rfl) rfl) rfl) rfl)) sa_nil rfl) rfl))) ss_nil)))))))
theorem v_taken_off_0 {fz : Str → Bool} (h : CxW Γ lo E X n_taken_off (defScope s_taken_off) fz) {pos : Pos} : PE X (.Name "bits" pos) (tE Γ.g E k (eVar 0)) := w_var h (by kernel_rfl)
theorem v_taken_off_1 {fz : Str → Bool} (h : CxW Γ lo E X n_taken_off (defScope s_taken_off) fz) {pos : Pos} : PE X (.Name "one" pos) (tE Γ.g E k (eVar 1)) := w_var h (by kernel_rfl)
theorem v_taken_off_2 {fz : Str → Bool} (h : CxW Γ lo E X n_taken_off (defScope s_taken_off) fz) {pos : Pos} : PE X (.Name "other" pos) (tE Γ.g E k (eVar 2)) := w_var h (by kernel_rfl)
theorem v_taken_off_3 {fz : Str → Bool} (h : CxW Γ lo E X n_taken_off (defScope s_taken_off) fz) {pos : Pos} : PE X (.Name "whole" pos) (tE Γ.g E k (eVar 3)) := w_var h (by kernel_rfl)
theorem v_taken_off_4 {fz : Str → Bool} (h : CxW Γ lo E X n_taken_off (defScope s_taken_off) fz) {pos : Pos} : PE X (.Name "code" pos) (tE Γ.g E k (eVar 4)) := w_var h (by kernel_rfl)
theorem v_taken_off_5 {fz : Str → Bool} (h : CxW Γ lo E X n_taken_off (defScope s_taken_off) fz) {pos : Pos} : PE X (.Name "exact" pos) (tE Γ.g E k (eVar 5)) := w_var h (by kernel_rfl)
theorem v_taken_off_6 {fz : Str → Bool} (h : CxW Γ lo E X n_taken_off (defScope s_taken_off) fz) {pos : Pos} : PE X (.Name "beyond" pos) (tE Γ.g E k (eVar 6)) := w_var h (by kernel_rfl)
theorem s_taken_off_6 : stB (defScope s_taken_off) (fun _ => true) n_taken_off 6 "beyond" = true := by kernel_rfl
theorem s_taken_off_4 : stB (defScope s_taken_off) (fun _ => true) n_taken_off 4 "code" = true := by kernel_rfl
theorem s_taken_off_5 : stB (defScope s_taken_off) (fun _ => true) n_taken_off 5 "exact" = true := by kernel_rfl
theorem s_taken_off_3 : stB (defScope s_taken_off) (fun _ => true) n_taken_off 3 "whole" = true := by kernel_rfl
theorem g_taken_off_check_code : glB (defScope s_taken_off) "check_code" = true := by kernel_rfl
theorem gb_taken_off_int : bltB (defScope s_taken_off) "int" = true := by kernel_rfl
theorem g_taken_off_meaning : glB (defScope s_taken_off) "meaning" = true := by kernel_rfl
theorem g_taken_off_power_of : glB (defScope s_taken_off) "power_of" = true := by kernel_rfl
theorem r_taken_off (h : CxW Γ lo E X n_taken_off (defScope s_taken_off) (fun _ => true)) (T : Tx Γ lo k) : PSs X (defBody s_taken_off) (tSS Γ.g E k c_taken_off) := by
  unfold c_taken_off
  exact (ss_cons (ss_expr (w_call h T.f_check_code g_taken_off_check_code (sa_cons (v_taken_off_0 h) (sa_cons (v_taken_off_1 h) sa_nil rfl) rfl) rfl rfl) rfl) (ss_cons (ss_expr (w_call h T.f_check_code g_taken_off_check_code (sa_cons (v_taken_off_0 h) (sa_cons (v_taken_off_2 h) sa_nil rfl) rfl) rfl rfl) rfl) (ss_cons (w_set (i := 3) h s_taken_off_3 (se_op (opd_add h.pK) (se_op (opd_add h.pK) (v_taken_off_1 h) (se_op (opd_sub) (se_op (opd_sub) (w_call h T.f_power_of g_taken_off_power_of (sa_cons (v_taken_off_0 h) sa_nil rfl) rfl rfl) se_int) (v_taken_off_2 h))) se_int) rfl) (ss_cons (w_set (i := 4) h s_taken_off_4 (se_op (opd_mod) (v_taken_off_3 h) (w_call h T.f_power_of g_taken_off_power_of (sa_cons (v_taken_off_0 h) sa_nil rfl) rfl rfl)) rfl) (ss_cons (w_set (i := 5) h s_taken_off_5 (se_op (opd_sub) (w_call h T.f_meaning g_taken_off_meaning (sa_cons (v_taken_off_0 h) (sa_cons (v_taken_off_1 h) sa_nil rfl) rfl) rfl rfl) (w_call h T.f_meaning g_taken_off_meaning (sa_cons (v_taken_off_0 h) (sa_cons (v_taken_off_2 h) sa_nil rfl) rfl) rfl rfl)) rfl) (ss_cons (w_set (i := 6) h s_taken_off_6 (w_int h (sa_cons (se_cmp (opd_ne h.pK h.u64) (v_taken_off_5 h) (w_call h T.f_meaning g_taken_off_meaning (sa_cons (v_taken_off_0 h) (sa_cons (v_taken_off_4 h) sa_nil rfl) rfl) rfl rfl) rfl) sa_nil rfl) rfl rfl gb_taken_off_int T.b_int) rfl) (ss_cons (ss_ret (se_tup (sa_cons (v_taken_off_4 h) (sa_cons (se_tup (sa_cons (se_op (opd_div) (v_taken_off_3 h) (w_call h T.f_power_of g_taken_off_power_of (sa_cons (v_taken_off_0 h) sa_nil rfl) rfl rfl)) (sa_cons (v_taken_off_6 h) (sa_cons (se_op (opd_div) (v_taken_off_4 h) (w_call h T.f_power_of g_taken_off_power_of (sa_cons (se_op (opd_sub) (v_taken_off_0 h) se_int) sa_nil rfl) rfl rfl)) (sa_cons (w_int h (sa_cons (se_cmp (opd_eq h.pK h.u64) (v_taken_off_4 h) se_int rfl) sa_nil rfl) rfl rfl gb_taken_off_int T.b_int) sa_nil rfl) rfl) rfl) rfl)) sa_nil rfl) rfl))) ss_nil)))))))
theorem v_digits_0 {fz : Str → Bool} (h : CxW Γ lo E X n_digits (defScope s_digits) fz) {pos : Pos} : PE X (.Name "bits" pos) (tE Γ.g E k (eVar 0)) := w_var h (by kernel_rfl)
theorem v_digits_1 {fz : Str → Bool} (h : CxW Γ lo E X n_digits (defScope s_digits) fz) {pos : Pos} : PE X (.Name "code" pos) (tE Γ.g E k (eVar 1)) := w_var h (by kernel_rfl)
theorem v_digits_2 {fz : Str → Bool} (h : CxW Γ lo E X n_digits (defScope s_digits) fz) {pos : Pos} : PE X (.Name "found" pos) (tE Γ.g E k (eVar 2)) := w_var h (by kernel_rfl)
theorem v_digits_3 {fz : Str → Bool} (h : CxW Γ lo E X n_digits (defScope s_digits) fz) {pos : Pos} : PE X (.Name "before" pos) (tE Γ.g E k (eVar 3)) := w_var h (by kernel_rfl)
theorem v_digits_4 {fz : Str → Bool} (h : CxW Γ lo E X n_digits (defScope s_digits) fz) {pos : Pos} : PE X (.Name "k" pos) (tE Γ.g E k (eVar 4)) := w_var h (by kernel_rfl)
theorem v_digits_5 {fz : Str → Bool} (h : CxW Γ lo E X n_digits (defScope s_digits) fz) {pos : Pos} : PE X (.Name "now" pos) (tE Γ.g E k (eVar 5)) := w_var h (by kernel_rfl)
theorem s_digits_3 : stB (defScope s_digits) (fun _ => true) n_digits 3 "before" = true := by kernel_rfl
theorem s_digits_2 : stB (defScope s_digits) (fun _ => true) n_digits 2 "found" = true := by kernel_rfl
theorem s_digits_4 : stB (defScope s_digits) (fun _ => true) n_digits 4 "k" = true := by kernel_rfl
theorem s_digits_5 : stB (defScope s_digits) (fun _ => true) n_digits 5 "now" = true := by kernel_rfl
theorem g_digits_check_code : glB (defScope s_digits) "check_code" = true := by kernel_rfl
theorem g_digits_power_of : glB (defScope s_digits) "power_of" = true := by kernel_rfl
theorem gb_digits_range : bltB (defScope s_digits) "range" = true := by kernel_rfl
theorem gb_digits_tuple : bltB (defScope s_digits) "tuple" = true := by kernel_rfl
theorem r_digits (h : CxW Γ lo E X n_digits (defScope s_digits) (fun _ => true)) (T : Tx Γ lo k) : PSs X (defBody s_digits) (tSS Γ.g E k c_digits) := by
  unfold c_digits
  exact (ss_cons (ss_expr (w_call h T.f_check_code g_digits_check_code (sa_cons (v_digits_0 h) (sa_cons (v_digits_1 h) sa_nil rfl) rfl) rfl rfl) rfl) (ss_cons (w_set (i := 2) h s_digits_2 (se_lst sa_nil) rfl) (ss_cons (w_set (i := 3) h s_digits_3 se_int rfl) (ss_cons (w_for h (w_r1 h T.b_range gb_digits_range (sa_cons (v_digits_0 h) sa_nil rfl) rfl) (w_name (i := 4) h s_digits_4) tok_name (ss_cons (w_set (i := 5) h s_digits_5 (se_op (opd_mod) (se_op (opd_div) (v_digits_1 h) (w_call h T.f_power_of g_digits_power_of (sa_cons (v_digits_4 h) sa_nil rfl) rfl rfl)) se_int) rfl) (ss_cons (ss_expr (w_append h (v_digits_2 h) (sa_cons (se_op (opd_sub) (v_digits_3 h) (v_digits_5 h)) sa_nil rfl) rfl rfl rfl rfl rfl) rfl) (ss_cons (w_set (i := 3) h s_digits_3 (v_digits_5 h) rfl) ss_nil))) (fun _ => rfl)) (ss_cons (ss_ret (w_tuple h (sa_cons (v_digits_2 h) sa_nil rfl) rfl rfl gb_digits_tuple T.b_tuple)) ss_nil)))))
theorem v_sparse_0 {fz : Str → Bool} (h : CxW Γ lo E X n_sparse (defScope s_sparse) fz) {pos : Pos} : PE X (.Name "bits" pos) (tE Γ.g E k (eVar 0)) := w_var h (by kernel_rfl)
theorem v_sparse_1 {fz : Str → Bool} (h : CxW Γ lo E X n_sparse (defScope s_sparse) fz) {pos : Pos} : PE X (.Name "code" pos) (tE Γ.g E k (eVar 1)) := w_var h (by kernel_rfl)
theorem v_sparse_2 {fz : Str → Bool} (h : CxW Γ lo E X n_sparse (defScope s_sparse) fz) {pos : Pos} : PE X (.Name "number" pos) (tE Γ.g E k (eVar 2)) := w_var h (by kernel_rfl)
theorem v_sparse_3 {fz : Str → Bool} (h : CxW Γ lo E X n_sparse (defScope s_sparse) fz) {pos : Pos} : PE X (.Name "found" pos) (tE Γ.g E k (eVar 3)) := w_var h (by kernel_rfl)
theorem v_sparse_4 {fz : Str → Bool} (h : CxW Γ lo E X n_sparse (defScope s_sparse) fz) {pos : Pos} : PE X (.Name "digit" pos) (tE Γ.g E k (eVar 4)) := w_var h (by kernel_rfl)
theorem s_sparse_4 : stB (defScope s_sparse) (fun _ => true) n_sparse 4 "digit" = true := by kernel_rfl
theorem s_sparse_3 : stB (defScope s_sparse) (fun _ => true) n_sparse 3 "found" = true := by kernel_rfl
theorem s_sparse_2 : stB (defScope s_sparse) (fun _ => true) n_sparse 2 "number" = true := by kernel_rfl
theorem g_sparse_meaning : glB (defScope s_sparse) "meaning" = true := by kernel_rfl
theorem gb_sparse_tuple : bltB (defScope s_sparse) "tuple" = true := by kernel_rfl
theorem r_sparse (h : CxW Γ lo E X n_sparse (defScope s_sparse) (fun _ => true)) (T : Tx Γ lo k) : PSs X (defBody s_sparse) (tSS Γ.g E k c_sparse) := by
  unfold c_sparse
  exact (ss_cons (w_set (i := 2) h s_sparse_2 (w_call h T.f_meaning g_sparse_meaning (sa_cons (v_sparse_0 h) (sa_cons (v_sparse_1 h) sa_nil rfl) rfl) rfl rfl) rfl) (ss_cons (w_set (i := 3) h s_sparse_3 (se_lst sa_nil) rfl) (ss_cons (w_while h (st_cmp (opd_ne h.pK h.u64) (v_sparse_2 h) se_int rfl bl_ne) (ss_cons (w_set (i := 4) h s_sparse_4 se_int rfl) (ss_cons (ss_if (st_cmp (opd_eq h.pK h.u64) (se_op (opd_mod) (v_sparse_2 h) se_int) se_int rfl bl_eq) (ss_cons (w_set (i := 4) h s_sparse_4 (se_if (st_cmp (opd_eq h.pK h.u64) (se_op (opd_mod) (v_sparse_2 h) se_int) se_int rfl bl_eq) se_int (se_neg se_int)) rfl) ss_nil) ss_nil) (ss_cons (ss_expr (w_append h (v_sparse_3 h) (sa_cons (v_sparse_4 h) sa_nil rfl) rfl rfl rfl rfl rfl) rfl) (ss_cons (w_set (i := 2) h s_sparse_2 (se_op (opd_div) (se_op (opd_sub) (v_sparse_2 h) (v_sparse_4 h)) se_int) rfl) ss_nil))))) (ss_cons (ss_ret (w_tuple h (sa_cons (v_sparse_3 h) sa_nil rfl) rfl rfl gb_sparse_tuple T.b_tuple)) ss_nil))))
theorem v_from_digits_0 {fz : Str → Bool} (h : CxW Γ lo E X n_from_digits (defScope s_from_digits) fz) {pos : Pos} : PE X (.Name "row" pos) (tE Γ.g E k (eVar 0)) := w_var h (by kernel_rfl)
theorem v_from_digits_1 {fz : Str → Bool} (h : CxW Γ lo E X n_from_digits (defScope s_from_digits) fz) {pos : Pos} : PE X (.Name "found" pos) (tE Γ.g E k (eVar 1)) := w_var h (by kernel_rfl)
theorem v_from_digits_2 {fz : Str → Bool} (h : CxW Γ lo E X n_from_digits (defScope s_from_digits) fz) {pos : Pos} : PE X (.Name "digit" pos) (tE Γ.g E k (eVar 2)) := w_var h (by kernel_rfl)
theorem s_from_digits_2 : stB (defScope s_from_digits) (fun _ => true) n_from_digits 2 "digit" = true := by kernel_rfl
theorem s_from_digits_1 : stB (defScope s_from_digits) (fun _ => true) n_from_digits 1 "found" = true := by kernel_rfl
theorem g_from_digits_MachineError : glB (defScope s_from_digits) "MachineError" = true := by kernel_rfl
theorem gb_from_digits_all : bltB (defScope s_from_digits) "all" = true := by kernel_rfl
theorem r_from_digits (h : CxW Γ lo E X n_from_digits (defScope s_from_digits) (fun _ => true)) (T : Tx Γ lo k) : PSs X (defBody s_from_digits) (tSS Γ.g E k c_from_digits) := by
  unfold c_from_digits
  exact (ss_cons (ss_if (st_not (st_plain h.pK (w_all h (sa_cons (w_comp h [("digit", 2)] (by kernel_rfl) (si_seq h.pK (v_from_digits_0 h)) (cg_name (by decide)) (fun Y hb => (w_nameC (i := 2) hb (by kernel_rfl))) (fun Y hb => (se_cmp (opd_in hb.pK hb.u65) (w_var (i := 2) hb (by kernel_rfl)) (se_tup (sa_cons (se_neg se_int) (sa_cons se_int (sa_cons se_int sa_nil rfl) rfl) rfl)) rfl)) (fun _ => rfl)) sa_nil rfl) rfl rfl gb_from_digits_all T.b_all) (fun _ => rfl))) (ss_cons (w_raise h T.err g_from_digits_MachineError se_str rfl) ss_nil) ss_nil) (ss_cons (w_set (i := 1) h s_from_digits_1 se_int rfl) (ss_cons (w_for h (si_seq h.pK (se_rev h.pK (v_from_digits_0 h))) (w_name (i := 2) h s_from_digits_2) tok_name (ss_cons (w_set (i := 1) h s_from_digits_1 (se_op (opd_add h.pK) (se_op (opd_mul h.pK) se_int (v_from_digits_1 h)) (v_from_digits_2 h)) rfl) ss_nil) (fun _ => rfl)) (ss_cons (ss_ret (v_from_digits_1 h)) ss_nil))))
theorem v_by_digits_0 {fz : Str → Bool} (h : CxW Γ lo E X n_by_digits (defScope s_by_digits) fz) {pos : Pos} : PE X (.Name "bits" pos) (tE Γ.g E k (eVar 0)) := w_var h (by kernel_rfl)
theorem v_by_digits_1 {fz : Str → Bool} (h : CxW Γ lo E X n_by_digits (defScope s_by_digits) fz) {pos : Pos} : PE X (.Name "one" pos) (tE Γ.g E k (eVar 1)) := w_var h (by kernel_rfl)
theorem v_by_digits_2 {fz : Str → Bool} (h : CxW Γ lo E X n_by_digits (defScope s_by_digits) fz) {pos : Pos} : PE X (.Name "other" pos) (tE Γ.g E k (eVar 2)) := w_var h (by kernel_rfl)
theorem v_by_digits_3 {fz : Str → Bool} (h : CxW Γ lo E X n_by_digits (defScope s_by_digits) fz) {pos : Pos} : PE X (.Name "told" pos) (tE Γ.g E k (eVar 3)) := w_var h (by kernel_rfl)
theorem v_by_digits_4 {fz : Str → Bool} (h : CxW Γ lo E X n_by_digits (defScope s_by_digits) fz) {pos : Pos} : PE X (.Name "number" pos) (tE Γ.g E k (eVar 4)) := w_var h (by kernel_rfl)
theorem v_by_digits_5 {fz : Str → Bool} (h : CxW Γ lo E X n_by_digits (defScope s_by_digits) fz) {pos : Pos} : PE X (.Name "found" pos) (tE Γ.g E k (eVar 5)) := w_var h (by kernel_rfl)
theorem v_by_digits_6 {fz : Str → Bool} (h : CxW Γ lo E X n_by_digits (defScope s_by_digits) fz) {pos : Pos} : PE X (.Name "k" pos) (tE Γ.g E k (eVar 6)) := w_var h (by kernel_rfl)
theorem v_by_digits_7 {fz : Str → Bool} (h : CxW Γ lo E X n_by_digits (defScope s_by_digits) fz) {pos : Pos} : PE X (.Name "digit" pos) (tE Γ.g E k (eVar 7)) := w_var h (by kernel_rfl)
theorem s_by_digits_7 : stB (defScope s_by_digits) (fun _ => true) n_by_digits 7 "digit" = true := by kernel_rfl
theorem s_by_digits_5 : stB (defScope s_by_digits) (fun _ => true) n_by_digits 5 "found" = true := by kernel_rfl
theorem s_by_digits_6 : stB (defScope s_by_digits) (fun _ => true) n_by_digits 6 "k" = true := by kernel_rfl
theorem s_by_digits_4 : stB (defScope s_by_digits) (fun _ => true) n_by_digits 4 "number" = true := by kernel_rfl
theorem s_by_digits_3 : stB (defScope s_by_digits) (fun _ => true) n_by_digits 3 "told" = true := by kernel_rfl
theorem g_by_digits_check_code : glB (defScope s_by_digits) "check_code" = true := by kernel_rfl
theorem g_by_digits_digits : glB (defScope s_by_digits) "digits" = true := by kernel_rfl
theorem gb_by_digits_enumerate : bltB (defScope s_by_digits) "enumerate" = true := by kernel_rfl
theorem gb_by_digits_len : bltB (defScope s_by_digits) "len" = true := by kernel_rfl
theorem g_by_digits_meaning : glB (defScope s_by_digits) "meaning" = true := by kernel_rfl
theorem g_by_digits_power_of : glB (defScope s_by_digits) "power_of" = true := by kernel_rfl
theorem r_by_digits (h : CxW Γ lo E X n_by_digits (defScope s_by_digits) (fun _ => true)) (T : Tx Γ lo k) : PSs X (defBody s_by_digits) (tSS Γ.g E k c_by_digits) := by
  unfold c_by_digits
  exact (ss_cons (ss_expr (w_call h T.f_check_code g_by_digits_check_code (sa_cons (v_by_digits_0 h) (sa_cons (v_by_digits_1 h) sa_nil rfl) rfl) rfl rfl) rfl) (ss_cons (w_set (i := 3) h s_by_digits_3 (w_call h T.f_digits g_by_digits_digits (sa_cons (v_by_digits_0 h) (sa_cons (v_by_digits_2 h) sa_nil rfl) rfl) rfl rfl) rfl) (ss_cons (w_set (i := 4) h s_by_digits_4 (w_call h T.f_meaning g_by_digits_meaning (sa_cons (v_by_digits_0 h) (sa_cons (v_by_digits_1 h) sa_nil rfl) rfl) rfl rfl) rfl) (ss_cons (w_set (i := 5) h s_by_digits_5 se_int rfl) (ss_cons (w_for h (w_enum h T.b_enumerate gb_by_digits_enumerate (v_by_digits_3 h) rfl) (sg_tup h.pK h.calm (sgs_cons (w_name (i := 6) h s_by_digits_6) (sgs_cons (w_name (i := 7) h s_by_digits_7) sgs_nil rfl) rfl) rfl rfl) (tok_tup (tsok_cons tok_name (tsok_cons tok_name tsok_nil))) (ss_cons (w_aug (i := 5) h s_by_digits_5 ipd_add (se_op (opd_mul h.pK) (se_op (opd_mul h.pK) (v_by_digits_7 h) (v_by_digits_4 h)) (w_call h T.f_power_of g_by_digits_power_of (sa_cons (v_by_digits_6 h) sa_nil rfl) rfl rfl))) ss_nil) (fun _ => rfl)) (ss_cons (ss_ret (se_tup (sa_cons (v_by_digits_5 h) (sa_cons (w_len h (sa_cons (w_compQ h [("digit", 7)] (by kernel_rfl) (si_seq h.pK (v_by_digits_3 h)) (cg_name (by decide)) (fun Y hb => (w_nameC (i := 7) hb (by kernel_rfl))) (fun Y hb => (st_cmp (opd_ne hb.pK hb.u64) (w_var (i := 7) hb (by kernel_rfl)) se_int rfl bl_ne)) (fun Y hb => (w_var (i := 7) hb (by kernel_rfl))) (fun _ => rfl)) sa_nil rfl) rfl rfl gb_by_digits_len T.b_len) sa_nil rfl) rfl))) ss_nil))))))
theorem v_divided_0 {fz : Str → Bool} (h : CxW Γ lo E X n_divided (defScope s_divided) fz) {pos : Pos} : PE X (.Name "bits" pos) (tE Γ.g E k (eVar 0)) := w_var h (by kernel_rfl)
theorem v_divided_1 {fz : Str → Bool} (h : CxW Γ lo E X n_divided (defScope s_divided) fz) {pos : Pos} : PE X (.Name "one" pos) (tE Γ.g E k (eVar 1)) := w_var h (by kernel_rfl)
theorem v_divided_2 {fz : Str → Bool} (h : CxW Γ lo E X n_divided (defScope s_divided) fz) {pos : Pos} : PE X (.Name "other" pos) (tE Γ.g E k (eVar 2)) := w_var h (by kernel_rfl)
theorem v_divided_3 {fz : Str → Bool} (h : CxW Γ lo E X n_divided (defScope s_divided) fz) {pos : Pos} : PE X (.Name "rest" pos) (tE Γ.g E k (eVar 3)) := w_var h (by kernel_rfl)
theorem v_divided_4 {fz : Str → Bool} (h : CxW Γ lo E X n_divided (defScope s_divided) fz) {pos : Pos} : PE X (.Name "quotient" pos) (tE Γ.g E k (eVar 4)) := w_var h (by kernel_rfl)
theorem v_divided_5 {fz : Str → Bool} (h : CxW Γ lo E X n_divided (defScope s_divided) fz) {pos : Pos} : PE X (.Name "rows" pos) (tE Γ.g E k (eVar 5)) := w_var h (by kernel_rfl)
theorem v_divided_6 {fz : Str → Bool} (h : CxW Γ lo E X n_divided (defScope s_divided) fz) {pos : Pos} : PE X (.Name "k" pos) (tE Γ.g E k (eVar 6)) := w_var h (by kernel_rfl)
theorem s_divided_6 : stB (defScope s_divided) (fun _ => true) n_divided 6 "k" = true := by kernel_rfl
theorem s_divided_4 : stB (defScope s_divided) (fun _ => true) n_divided 4 "quotient" = true := by kernel_rfl
theorem s_divided_3 : stB (defScope s_divided) (fun _ => true) n_divided 3 "rest" = true := by kernel_rfl
theorem s_divided_5 : stB (defScope s_divided) (fun _ => true) n_divided 5 "rows" = true := by kernel_rfl
theorem g_divided_MachineError : glB (defScope s_divided) "MachineError" = true := by kernel_rfl
theorem g_divided_check_code : glB (defScope s_divided) "check_code" = true := by kernel_rfl
theorem g_divided_power_of : glB (defScope s_divided) "power_of" = true := by kernel_rfl
theorem gb_divided_range : bltB (defScope s_divided) "range" = true := by kernel_rfl
theorem gb_divided_tuple : bltB (defScope s_divided) "tuple" = true := by kernel_rfl
theorem r_divided (h : CxW Γ lo E X n_divided (defScope s_divided) (fun _ => true)) (T : Tx Γ lo k) : PSs X (defBody s_divided) (tSS Γ.g E k c_divided) := by
  unfold c_divided
  exact (ss_cons (ss_expr (w_call h T.f_check_code g_divided_check_code (sa_cons (v_divided_0 h) (sa_cons (v_divided_1 h) sa_nil rfl) rfl) rfl rfl) rfl) (ss_cons (ss_expr (w_call h T.f_check_code g_divided_check_code (sa_cons (v_divided_0 h) (sa_cons (v_divided_2 h) sa_nil rfl) rfl) rfl rfl) rfl) (ss_cons (ss_if (st_cmp (opd_eq h.pK h.u64) (v_divided_2 h) se_int rfl bl_eq) (ss_cons (w_raise h T.err g_divided_MachineError se_str rfl) ss_nil) ss_nil) (ss_cons (w_set (i := 3) h s_divided_3 se_int rfl) (ss_cons (w_set (i := 4) h s_divided_4 se_int rfl) (ss_cons (w_set (i := 5) h s_divided_5 (se_lst sa_nil) rfl) (ss_cons (w_for h (w_r3 h T.b_range gb_divided_range (sa_cons (se_op (opd_sub) (v_divided_0 h) se_int) (sa_cons (se_neg se_int) (sa_cons (se_neg se_int) sa_nil rfl) rfl) rfl) rfl rfl) (w_name (i := 6) h s_divided_6) tok_name (ss_cons (w_set (i := 3) h s_divided_3 (se_op (opd_add h.pK) (se_op (opd_mul h.pK) se_int (v_divided_3 h)) (se_op (opd_mod) (se_op (opd_div) (v_divided_1 h) (w_call h T.f_power_of g_divided_power_of (sa_cons (v_divided_6 h) sa_nil rfl) rfl rfl)) se_int)) rfl) (ss_cons (w_aug (i := 4) h s_divided_4 ipd_mul se_int) (ss_cons (ss_if (st_cmp (opd_ge) (v_divided_3 h) (v_divided_2 h) rfl bl_ge) (ss_cons (w_aug (i := 3) h s_divided_3 ipd_sub (v_divided_2 h)) (ss_cons (w_aug (i := 4) h s_divided_4 ipd_add se_int) ss_nil)) ss_nil) (ss_cons (ss_expr (w_append h (v_divided_5 h) (sa_cons (v_divided_3 h) sa_nil rfl) rfl rfl rfl rfl rfl) rfl) ss_nil)))) (fun _ => rfl)) (ss_cons (ss_ret (se_tup (sa_cons (v_divided_4 h) (sa_cons (v_divided_3 h) (sa_cons (w_tuple h (sa_cons (v_divided_5 h) sa_nil rfl) rfl rfl gb_divided_tuple T.b_tuple) sa_nil rfl) rfl) rfl))) ss_nil))))))))
theorem v_divided_both_0 {fz : Str → Bool} (h : CxW Γ lo E X n_divided_both (defScope s_divided_both) fz) {pos : Pos} : PE X (.Name "bits" pos) (tE Γ.g E k (eVar 0)) := w_var h (by kernel_rfl)
theorem v_divided_both_1 {fz : Str → Bool} (h : CxW Γ lo E X n_divided_both (defScope s_divided_both) fz) {pos : Pos} : PE X (.Name "one" pos) (tE Γ.g E k (eVar 1)) := w_var h (by kernel_rfl)
theorem v_divided_both_2 {fz : Str → Bool} (h : CxW Γ lo E X n_divided_both (defScope s_divided_both) fz) {pos : Pos} : PE X (.Name "other" pos) (tE Γ.g E k (eVar 2)) := w_var h (by kernel_rfl)
theorem v_divided_both_3 {fz : Str → Bool} (h : CxW Γ lo E X n_divided_both (defScope s_divided_both) fz) {pos : Pos} : PE X (.Name "rest" pos) (tE Γ.g E k (eVar 3)) := w_var h (by kernel_rfl)
theorem v_divided_both_4 {fz : Str → Bool} (h : CxW Γ lo E X n_divided_both (defScope s_divided_both) fz) {pos : Pos} : PE X (.Name "row" pos) (tE Γ.g E k (eVar 4)) := w_var h (by kernel_rfl)
theorem v_divided_both_5 {fz : Str → Bool} (h : CxW Γ lo E X n_divided_both (defScope s_divided_both) fz) {pos : Pos} : PE X (.Name "k" pos) (tE Γ.g E k (eVar 5)) := w_var h (by kernel_rfl)
theorem v_divided_both_6 {fz : Str → Bool} (h : CxW Γ lo E X n_divided_both (defScope s_divided_both) fz) {pos : Pos} : PE X (.Name "quotient" pos) (tE Γ.g E k (eVar 6)) := w_var h (by kernel_rfl)
theorem v_divided_both_7 {fz : Str → Bool} (h : CxW Γ lo E X n_divided_both (defScope s_divided_both) fz) {pos : Pos} : PE X (.Name "digit" pos) (tE Γ.g E k (eVar 7)) := w_var h (by kernel_rfl)
theorem s_divided_both_7 : stB (defScope s_divided_both) (fun _ => true) n_divided_both 7 "digit" = true := by kernel_rfl
theorem s_divided_both_5 : stB (defScope s_divided_both) (fun _ => true) n_divided_both 5 "k" = true := by kernel_rfl
theorem s_divided_both_6 : stB (defScope s_divided_both) (fun _ => true) n_divided_both 6 "quotient" = true := by kernel_rfl
theorem s_divided_both_3 : stB (defScope s_divided_both) (fun _ => true) n_divided_both 3 "rest" = true := by kernel_rfl
theorem s_divided_both_4 : stB (defScope s_divided_both) (fun _ => true) n_divided_both 4 "row" = true := by kernel_rfl
theorem g_divided_both_MachineError : glB (defScope s_divided_both) "MachineError" = true := by kernel_rfl
theorem g_divided_both_check_code : glB (defScope s_divided_both) "check_code" = true := by kernel_rfl
theorem g_divided_both_from_digits : glB (defScope s_divided_both) "from_digits" = true := by kernel_rfl
theorem g_divided_both_power_of : glB (defScope s_divided_both) "power_of" = true := by kernel_rfl
theorem gb_divided_both_range : bltB (defScope s_divided_both) "range" = true := by kernel_rfl
theorem gb_divided_both_tuple : bltB (defScope s_divided_both) "tuple" = true := by kernel_rfl
theorem r_divided_both (h : CxW Γ lo E X n_divided_both (defScope s_divided_both) (fun _ => true)) (T : Tx Γ lo k) : PSs X (defBody s_divided_both) (tSS Γ.g E k c_divided_both) := by
  unfold c_divided_both
  exact (ss_cons (ss_expr (w_call h T.f_check_code g_divided_both_check_code (sa_cons (v_divided_both_0 h) (sa_cons (v_divided_both_1 h) sa_nil rfl) rfl) rfl rfl) rfl) (ss_cons (ss_expr (w_call h T.f_check_code g_divided_both_check_code (sa_cons (v_divided_both_0 h) (sa_cons (v_divided_both_2 h) sa_nil rfl) rfl) rfl rfl) rfl) (ss_cons (ss_if (st_cmp (opd_eq h.pK h.u64) (v_divided_both_2 h) se_int rfl bl_eq) (ss_cons (w_raise h T.err g_divided_both_MachineError se_str rfl) ss_nil) ss_nil) (ss_cons (w_set (i := 3) h s_divided_both_3 se_int rfl) (ss_cons (w_set (i := 4) h s_divided_both_4 (se_lst sa_nil) rfl) (ss_cons (w_for h (w_r3 h T.b_range gb_divided_both_range (sa_cons (se_op (opd_sub) (v_divided_both_0 h) se_int) (sa_cons (se_neg se_int) (sa_cons (se_neg se_int) sa_nil rfl) rfl) rfl) rfl rfl) (w_name (i := 5) h s_divided_both_5) tok_name (ss_cons (w_set (i := 7) h s_divided_both_7 (se_if (st_cmp (opd_ge) (v_divided_both_3 h) se_int rfl bl_ge) se_int (se_neg se_int)) rfl) (ss_cons (w_set (i := 3) h s_divided_both_3 (se_op (opd_sub) (se_op (opd_add h.pK) (se_op (opd_mul h.pK) se_int (v_divided_both_3 h)) (se_op (opd_mod) (se_op (opd_div) (v_divided_both_1 h) (w_call h T.f_power_of g_divided_both_power_of (sa_cons (v_divided_both_5 h) sa_nil rfl) rfl rfl)) se_int)) (se_op (opd_mul h.pK) (v_divided_both_7 h) (v_divided_both_2 h))) rfl) (ss_cons (ss_expr (w_append h (v_divided_both_4 h) (sa_cons (v_divided_both_7 h) sa_nil rfl) rfl rfl rfl rfl rfl) rfl) ss_nil))) (fun _ => rfl)) (ss_cons (w_set (i := 6) h s_divided_both_6 (w_call h T.f_from_digits g_divided_both_from_digits (sa_cons (w_tuple h (sa_cons (se_rev h.pK (v_divided_both_4 h)) sa_nil rfl) rfl rfl gb_divided_both_tuple T.b_tuple) sa_nil rfl) rfl rfl) rfl) (ss_cons (ss_if (st_cmp (opd_lt) (v_divided_both_3 h) se_int rfl bl_lt) (ss_cons (ss_ret (se_tup (sa_cons (se_op (opd_sub) (v_divided_both_6 h) se_int) (sa_cons (se_op (opd_add h.pK) (v_divided_both_3 h) (v_divided_both_2 h)) (sa_cons (w_tuple h (sa_cons (v_divided_both_4 h) sa_nil rfl) rfl rfl gb_divided_both_tuple T.b_tuple) sa_nil rfl) rfl) rfl))) ss_nil) ss_nil) (ss_cons (ss_ret (se_tup (sa_cons (v_divided_both_6 h) (sa_cons (v_divided_both_3 h) (sa_cons (w_tuple h (sa_cons (v_divided_both_4 h) sa_nil rfl) rfl rfl gb_divided_both_tuple T.b_tuple) sa_nil rfl) rfl) rfl))) ss_nil)))))))))
theorem v_saved_0 {fz : Str → Bool} (h : CxW Γ lo E X n_saved (defScope s_saved) fz) {pos : Pos} : PE X (.Name "rows" pos) (tE Γ.g E k (eVar 0)) := w_var h (by kernel_rfl)
theorem v_saved_1 {fz : Str → Bool} (h : CxW Γ lo E X n_saved (defScope s_saved) fz) {pos : Pos} : PE X (.Name "carries" pos) (tE Γ.g E k (eVar 1)) := w_var h (by kernel_rfl)
theorem v_saved_2 {fz : Str → Bool} (h : CxW Γ lo E X n_saved (defScope s_saved) fz) {pos : Pos} : PE X (.Name "one" pos) (tE Γ.g E k (eVar 2)) := w_var h (by kernel_rfl)
theorem v_saved_3 {fz : Str → Bool} (h : CxW Γ lo E X n_saved (defScope s_saved) fz) {pos : Pos} : PE X (.Name "two" pos) (tE Γ.g E k (eVar 3)) := w_var h (by kernel_rfl)
theorem v_saved_4 {fz : Str → Bool} (h : CxW Γ lo E X n_saved (defScope s_saved) fz) {pos : Pos} : PE X (.Name "three" pos) (tE Γ.g E k (eVar 4)) := w_var h (by kernel_rfl)
theorem s_saved_1 : stB (defScope s_saved) (fun _ => true) n_saved 1 "carries" = true := by kernel_rfl
theorem s_saved_2 : stB (defScope s_saved) (fun _ => true) n_saved 2 "one" = true := by kernel_rfl
theorem s_saved_4 : stB (defScope s_saved) (fun _ => true) n_saved 4 "three" = true := by kernel_rfl
theorem s_saved_3 : stB (defScope s_saved) (fun _ => true) n_saved 3 "two" = true := by kernel_rfl
theorem g_saved_MachineError : glB (defScope s_saved) "MachineError" = true := by kernel_rfl
theorem gb_saved_len : bltB (defScope s_saved) "len" = true := by kernel_rfl
theorem gb_saved_min : bltB (defScope s_saved) "min" = true := by kernel_rfl
theorem r_saved (h : CxW Γ lo E X n_saved (defScope s_saved) (fun _ => true)) (T : Tx Γ lo k) : PSs X (defBody s_saved) (tSS Γ.g E k c_saved) := by
  unfold c_saved
  exact (ss_cons (ss_if (sw_or (st_cmp (opd_ne h.pK h.u64) (w_len h (sa_cons (v_saved_0 h) sa_nil rfl) rfl rfl gb_saved_len T.b_len) se_int rfl bl_ne) (sw_or1 (st_cmp (opd_lt) (w_min h (sa_cons (v_saved_0 h) sa_nil rfl) rfl rfl gb_saved_min T.b_min) se_int rfl bl_lt))).pt (ss_cons (w_raise h T.err g_saved_MachineError se_str rfl) ss_nil) ss_nil) (ss_cons (ss_asg (v_saved_0 h) (sg_tup h.pK h.calm (sgs_cons (w_name (i := 2) h s_saved_2) (sgs_cons (w_name (i := 3) h s_saved_3) (sgs_cons (w_name (i := 4) h s_saved_4) sgs_nil rfl) rfl) rfl) rfl rfl) (tok_tup (tsok_cons tok_name (tsok_cons tok_name (tsok_cons tok_name tsok_nil)))) rfl rfl rfl) (ss_cons (w_set (i := 1) h s_saved_1 (se_op (opd_or) (se_op (opd_or) (se_op (opd_and) (v_saved_2 h) (v_saved_3 h)) (se_op (opd_and) (v_saved_2 h) (v_saved_4 h))) (se_op (opd_and) (v_saved_3 h) (v_saved_4 h))) rfl) (ss_cons (ss_ret (se_tup (sa_cons (se_op (opd_xor) (se_op (opd_xor) (v_saved_2 h) (v_saved_3 h)) (v_saved_4 h)) (sa_cons (se_op (opd_mul h.pK) se_int (v_saved_1 h)) sa_nil rfl) rfl))) ss_nil))))
theorem v_summed_0 {fz : Str → Bool} (h : CxW Γ lo E X n_summed (defScope s_summed) fz) {pos : Pos} : PE X (.Name "rows" pos) (tE Γ.g E k (eVar 0)) := w_var h (by kernel_rfl)
theorem v_summed_1 {fz : Str → Bool} (h : CxW Γ lo E X n_summed (defScope s_summed) fz) {pos : Pos} : PE X (.Name "left" pos) (tE Γ.g E k (eVar 1)) := w_var h (by kernel_rfl)
theorem v_summed_2 {fz : Str → Bool} (h : CxW Γ lo E X n_summed (defScope s_summed) fz) {pos : Pos} : PE X (.Name "steps" pos) (tE Γ.g E k (eVar 2)) := w_var h (by kernel_rfl)
theorem v_summed_3 {fz : Str → Bool} (h : CxW Γ lo E X n_summed (defScope s_summed) fz) {pos : Pos} : PE X (.Name "following" pos) (tE Γ.g E k (eVar 3)) := w_var h (by kernel_rfl)
theorem s_summed_3 : stB (defScope s_summed) (fun _ => true) n_summed 3 "following" = true := by kernel_rfl
theorem s_summed_1 : stB (defScope s_summed) (fun _ => true) n_summed 1 "left" = true := by kernel_rfl
theorem s_summed_2 : stB (defScope s_summed) (fun _ => true) n_summed 2 "steps" = true := by kernel_rfl
theorem g_summed_MachineError : glB (defScope s_summed) "MachineError" = true := by kernel_rfl
theorem gb_summed_all : bltB (defScope s_summed) "all" = true := by kernel_rfl
theorem gb_summed_len : bltB (defScope s_summed) "len" = true := by kernel_rfl
theorem gb_summed_list : bltB (defScope s_summed) "list" = true := by kernel_rfl
theorem g_summed_saved : glB (defScope s_summed) "saved" = true := by kernel_rfl
theorem gb_summed_tuple : bltB (defScope s_summed) "tuple" = true := by kernel_rfl
theorem r_summed (h : CxW Γ lo E X n_summed (defScope s_summed) (fun _ => true)) (T : Tx Γ lo k) : PSs X (defBody s_summed) (tSS Γ.g E k c_summed) := by
  unfold c_summed
  exact (ss_cons (ss_if (st_not (st_plain h.pK (w_all h (sa_cons (w_comp h [("row", 4)] (by kernel_rfl) (si_seq h.pK (v_summed_0 h)) (cg_name (by decide)) (fun Y hb => (w_nameC (i := 4) hb (by kernel_rfl))) (fun Y hb => (se_cmp (opd_ge) (w_var (i := 4) hb (by kernel_rfl)) se_int rfl)) (fun _ => rfl)) sa_nil rfl) rfl rfl gb_summed_all T.b_all) (fun _ => rfl))) (ss_cons (w_raise h T.err g_summed_MachineError se_str rfl) ss_nil) ss_nil) (ss_cons (w_set (i := 1) h s_summed_1 (w_list h (sa_cons (v_summed_0 h) sa_nil rfl) rfl rfl gb_summed_list T.b_list) rfl) (ss_cons (w_set (i := 2) h s_summed_2 se_int rfl) (ss_cons (w_while h (st_cmp (opd_gt) (w_len h (sa_cons (v_summed_1 h) sa_nil rfl) rfl rfl gb_summed_len T.b_len) se_int rfl bl_gt) (ss_cons (w_set (i := 3) h s_summed_3 (se_lst sa_nil) rfl) (ss_cons (w_while h (st_cmp (opd_gt) (w_len h (sa_cons (v_summed_1 h) sa_nil rfl) rfl rfl gb_summed_len T.b_len) se_int rfl bl_gt) (ss_cons (ss_expr (w_extend h (v_summed_3 h) (sa_cons (w_call h T.f_saved g_summed_saved (sa_cons (se_tup (sa_cons (se_ix h.pK h.u65 (v_summed_1 h) se_int (fun _ _ => rfl)) (sa_cons (se_ix h.pK h.u65 (v_summed_1 h) se_int (fun _ _ => rfl)) (sa_cons (se_ix h.pK h.u65 (v_summed_1 h) se_int (fun _ _ => rfl)) sa_nil rfl) rfl) rfl)) sa_nil rfl) rfl rfl) sa_nil rfl) rfl rfl rfl rfl rfl) rfl) (ss_cons (w_set (i := 1) h s_summed_1 (se_sl h.pK (v_summed_1 h) se_int True.intro) rfl) ss_nil))) (ss_cons (w_set (i := 1) h s_summed_1 (se_op (opd_add h.pK) (v_summed_3 h) (v_summed_1 h)) rfl) (ss_cons (w_aug (i := 2) h s_summed_2 ipd_add se_int) ss_nil))))) (ss_cons (ss_ret (se_tup (sa_cons (v_summed_2 h) (sa_cons (w_tuple h (sa_cons (v_summed_1 h) sa_nil rfl) rfl rfl gb_summed_tuple T.b_tuple) sa_nil rfl) rfl))) ss_nil)))))
theorem v_root_of_0 {fz : Str → Bool} (h : CxW Γ lo E X n_root_of (defScope s_root_of) fz) {pos : Pos} : PE X (.Name "number" pos) (tE Γ.g E k (eVar 0)) := w_var h (by kernel_rfl)
theorem v_root_of_1 {fz : Str → Bool} (h : CxW Γ lo E X n_root_of (defScope s_root_of) fz) {pos : Pos} : PE X (.Name "place" pos) (tE Γ.g E k (eVar 1)) := w_var h (by kernel_rfl)
theorem v_root_of_2 {fz : Str → Bool} (h : CxW Γ lo E X n_root_of (defScope s_root_of) fz) {pos : Pos} : PE X (.Name "found" pos) (tE Γ.g E k (eVar 2)) := w_var h (by kernel_rfl)
theorem v_root_of_3 {fz : Str → Bool} (h : CxW Γ lo E X n_root_of (defScope s_root_of) fz) {pos : Pos} : PE X (.Name "rest" pos) (tE Γ.g E k (eVar 3)) := w_var h (by kernel_rfl)
theorem s_root_of_2 : stB (defScope s_root_of) (fun _ => true) n_root_of 2 "found" = true := by kernel_rfl
theorem s_root_of_1 : stB (defScope s_root_of) (fun _ => true) n_root_of 1 "place" = true := by kernel_rfl
theorem s_root_of_3 : stB (defScope s_root_of) (fun _ => true) n_root_of 3 "rest" = true := by kernel_rfl
theorem g_root_of_MachineError : glB (defScope s_root_of) "MachineError" = true := by kernel_rfl
theorem r_root_of (h : CxW Γ lo E X n_root_of (defScope s_root_of) (fun _ => true)) (T : Tx Γ lo k) : PSs X (defBody s_root_of) (tSS Γ.g E k c_root_of) := by
  unfold c_root_of
  exact (ss_cons (ss_if (st_cmp (opd_lt) (v_root_of_0 h) se_int rfl bl_lt) (ss_cons (w_raise h T.err g_root_of_MachineError se_str rfl) ss_nil) ss_nil) (ss_cons (w_set (i := 1) h s_root_of_1 se_int rfl) (ss_cons (w_while h (st_cmp (opd_le) (se_op (opd_mul h.pK) (v_root_of_1 h) se_int) (v_root_of_0 h) rfl bl_le) (ss_cons (w_aug (i := 1) h s_root_of_1 ipd_mul se_int) ss_nil)) (ss_cons (w_par (i := 2) (j := 3) h (by kernel_rfl) (sa_cons se_int (sa_cons (v_root_of_0 h) sa_nil rfl) rfl) (by kernel_rfl) rfl) (ss_cons (w_while h (st_cmp (opd_gt) (v_root_of_1 h) se_int rfl bl_gt) (ss_cons (ss_if (st_cmp (opd_ge) (v_root_of_3 h) (se_op (opd_add h.pK) (v_root_of_2 h) (v_root_of_1 h)) rfl bl_ge) (ss_cons (w_aug (i := 3) h s_root_of_3 ipd_sub (se_op (opd_add h.pK) (v_root_of_2 h) (v_root_of_1 h))) (ss_cons (w_set (i := 2) h s_root_of_2 (se_op (opd_add h.pK) (se_op (opd_div) (v_root_of_2 h) se_int) (v_root_of_1 h)) rfl) ss_nil)) (ss_cons (w_aug (i := 2) h s_root_of_2 ipd_div se_int) ss_nil)) (ss_cons (w_aug (i := 1) h s_root_of_1 ipd_div se_int) ss_nil))) (ss_cons (ss_ret (se_tup (sa_cons (v_root_of_2 h) (sa_cons (v_root_of_3 h) sa_nil rfl) rfl))) ss_nil))))))
theorem v_turned_bits_0 {fz : Str → Bool} (h : CxW Γ lo E X n_turned_bits (defScope s_turned_bits) fz) {pos : Pos} : PE X (.Name "bits" pos) (tE Γ.g E k (eVar 0)) := w_var h (by kernel_rfl)
theorem v_turned_bits_1 {fz : Str → Bool} (h : CxW Γ lo E X n_turned_bits (defScope s_turned_bits) fz) {pos : Pos} : PE X (.Name "code" pos) (tE Γ.g E k (eVar 1)) := w_var h (by kernel_rfl)
theorem g_turned_bits_check_code : glB (defScope s_turned_bits) "check_code" = true := by kernel_rfl
theorem gb_turned_bits_range : bltB (defScope s_turned_bits) "range" = true := by kernel_rfl
theorem gb_turned_bits_sum : bltB (defScope s_turned_bits) "sum" = true := by kernel_rfl
theorem r_turned_bits (h : CxW Γ lo E X n_turned_bits (defScope s_turned_bits) (fun _ => true)) (T : Tx Γ lo k) : PSs X (defBody s_turned_bits) (tSS Γ.g E k c_turned_bits) := by
  unfold c_turned_bits
  exact (ss_cons (ss_expr (w_call h T.f_check_code g_turned_bits_check_code (sa_cons (v_turned_bits_0 h) (sa_cons (v_turned_bits_1 h) sa_nil rfl) rfl) rfl rfl) rfl) (ss_cons (ss_ret (w_sum h (sa_cons (w_compQ h [("k", 2)] (by kernel_rfl) (w_r1 h T.b_range gb_turned_bits_range (sa_cons (v_turned_bits_0 h) sa_nil rfl) rfl) (cg_name (by decide)) (fun Y hb => (w_nameC (i := 2) hb (by kernel_rfl))) (fun Y hb => (st_cmp (opd_eq hb.pK hb.u64) (se_op (opd_mod) (se_op (opd_div) (w_var (i := 1) hb (by kernel_rfl)) (w_call hb T.f_power_of (by kernel_rfl) (sa_cons (w_var (i := 2) hb (by kernel_rfl)) sa_nil rfl) rfl rfl)) se_int) se_int rfl bl_eq)) (fun Y hb => (w_call hb T.f_power_of (by kernel_rfl) (sa_cons (se_op (opd_sub) (se_op (opd_sub) (w_var (i := 0) hb (by kernel_rfl)) se_int) (w_var (i := 2) hb (by kernel_rfl))) sa_nil rfl) rfl rfl)) (fun _ => rfl)) sa_nil rfl) rfl rfl gb_turned_bits_sum T.b_sum)) ss_nil))
theorem v_counts_0 {fz : Str → Bool} (h : CxW Γ lo E X n_counts (defScope s_counts) fz) {pos : Pos} : PE X (.Name "bits" pos) (tE Γ.g E k (eVar 0)) := w_var h (by kernel_rfl)
theorem v_counts_1 {fz : Str → Bool} (h : CxW Γ lo E X n_counts (defScope s_counts) fz) {pos : Pos} : PE X (.Name "code" pos) (tE Γ.g E k (eVar 1)) := w_var h (by kernel_rfl)
theorem v_counts_3 {fz : Str → Bool} (h : CxW Γ lo E X n_counts (defScope s_counts) fz) {pos : Pos} : PE X (.Name "ones" pos) (tE Γ.g E k (eVar 3)) := w_var h (by kernel_rfl)
theorem s_counts_2 : stB (defScope s_counts) (fun _ => true) n_counts 2 "row" = true := by kernel_rfl
theorem g_counts_check_code : glB (defScope s_counts) "check_code" = true := by kernel_rfl
theorem gb_counts_len : bltB (defScope s_counts) "len" = true := by kernel_rfl
theorem gb_counts_range : bltB (defScope s_counts) "range" = true := by kernel_rfl
theorem r_counts (h : CxW Γ lo E X n_counts (defScope s_counts) (fun _ => true)) (T : Tx Γ lo k) : PSs X (defBody s_counts) (tSS Γ.g E k c_counts) := by
  unfold c_counts
  exact (ss_cons (ss_expr (w_call h T.f_check_code g_counts_check_code (sa_cons (v_counts_0 h) (sa_cons (v_counts_1 h) sa_nil rfl) rfl) rfl rfl) rfl) (ss_cons (w_setCl (i := 2) h s_counts_2 (w_comp h [("k", 4)] (by kernel_rfl) (w_r1 h T.b_range gb_counts_range (sa_cons (v_counts_0 h) sa_nil rfl) rfl) (cg_name (by decide)) (fun Y hb => (w_nameC (i := 4) hb (by kernel_rfl))) (fun Y hb => (se_op (opd_mod) (se_op (opd_div) (w_var (i := 1) hb (by kernel_rfl)) (w_call hb T.f_power_of (by kernel_rfl) (sa_cons (w_var (i := 4) hb (by kernel_rfl)) sa_nil rfl) rfl rfl)) se_int)) (fun _ => rfl)) (by kernel_rfl)) (ss_cons (w_setLcQ (i := 3) h [("k", 4)] (by kernel_rfl) (by kernel_rfl) (by kernel_rfl) (w_r1 h T.b_range gb_counts_range (sa_cons (v_counts_0 h) sa_nil rfl) rfl) (cg_name (by decide)) (fun Y hb => (w_nameC (i := 4) hb (by kernel_rfl))) (fun Y hb => (st_cmp (opd_eq hb.pK hb.u64) (se_ix hb.pK hb.u65 (w_var (i := 2) hb (by kernel_rfl)) (w_var (i := 4) hb (by kernel_rfl)) (fun _ _ => rfl)) se_int rfl bl_eq)) (fun Y hb => (w_var (i := 4) hb (by kernel_rfl))) (fun _ => rfl)) (ss_cons (ss_ret (se_tup (sa_cons (w_len h (sa_cons (v_counts_3 h) sa_nil rfl) rfl rfl gb_counts_len T.b_len) (sa_cons (se_if (st_plain h.pK (v_counts_3 h) (fun _ => rfl)) (se_op (opd_sub) (se_op (opd_sub) (v_counts_0 h) se_int) (se_ix h.pK h.u65 (v_counts_3 h) (se_neg se_int) (fun _ _ => rfl))) (v_counts_0 h)) (sa_cons (se_if (st_plain h.pK (v_counts_3 h) (fun _ => rfl)) (se_ix h.pK h.u65 (v_counts_3 h) se_int (fun _ _ => rfl)) (v_counts_0 h)) sa_nil rfl) rfl) rfl))) ss_nil))))
theorem v_law_begin_0 {fz : Str → Bool} (h : CxW Γ lo E X n_law_begin (defScope s_law_begin) fz) {pos : Pos} : PE X (.Name "script" pos) (tE Γ.g E k (eVar 0)) := w_var h (by kernel_rfl)
theorem v_law_begin_1 {fz : Str → Bool} (h : CxW Γ lo E X n_law_begin (defScope s_law_begin) fz) {pos : Pos} : PE X (.Name "seed" pos) (tE Γ.g E k (eVar 1)) := w_var h (by kernel_rfl)
theorem v_law_begin_2 {fz : Str → Bool} (h : CxW Γ lo E X n_law_begin (defScope s_law_begin) fz) {pos : Pos} : PE X (.Name "cell" pos) (tE Γ.g E k (eVar 2)) := w_var h (by kernel_rfl)
theorem s_law_begin_2 : stB (defScope s_law_begin) (fun _ => true) n_law_begin 2 "cell" = true := by kernel_rfl
theorem s_law_begin_1 : stB (defScope s_law_begin) (fun _ => true) n_law_begin 1 "seed" = true := by kernel_rfl
theorem gb_law_begin_int : bltB (defScope s_law_begin) "int" = true := by kernel_rfl
theorem gb_law_begin_list : bltB (defScope s_law_begin) "list" = true := by kernel_rfl
theorem r_law_begin (h : CxW Γ lo E X n_law_begin (defScope s_law_begin) (fun _ => true)) (T : Tx Γ lo k) : PSs X (defBody s_law_begin) (tSS Γ.g E k c_law_begin) := by
  unfold c_law_begin
  exact (ss_cons (w_set (i := 1) h s_law_begin_1 se_int rfl) (ss_cons (w_for h (si_seq h.pK (v_law_begin_0 h)) (w_name (i := 2) h s_law_begin_2) tok_name (ss_cons (w_set (i := 1) h s_law_begin_1 (se_op (opd_mod) (se_op (opd_add h.pK) (se_op (opd_add h.pK) (se_op (opd_mul h.pK) (v_law_begin_1 h) se_int) (se_op (opd_mod) (w_int h (sa_cons (v_law_begin_2 h) sa_nil rfl) rfl rfl gb_law_begin_int T.b_int) se_int)) se_int) se_int) rfl) ss_nil) (fun _ => rfl)) (ss_cons (ss_ret (se_lst (sa_cons (w_list h (sa_cons (v_law_begin_0 h) sa_nil rfl) rfl rfl gb_law_begin_list T.b_list) (sa_cons se_int (sa_cons se_int (sa_cons (v_law_begin_1 h) sa_nil rfl) rfl) rfl) rfl))) ss_nil)))
theorem v_law_take_0 {fz : Str → Bool} (h : CxW Γ lo E X n_law_take (defScope s_law_take) fz) {pos : Pos} : PE X (.Name "d" pos) (tE Γ.g E k (eVar 0)) := w_var h (by kernel_rfl)
theorem v_law_take_1 {fz : Str → Bool} (h : CxW Γ lo E X n_law_take (defScope s_law_take) fz) {pos : Pos} : PE X (.Name "many" pos) (tE Γ.g E k (eVar 1)) := w_var h (by kernel_rfl)
theorem v_law_take_2 {fz : Str → Bool} (h : CxW Γ lo E X n_law_take (defScope s_law_take) fz) {pos : Pos} : PE X (.Name "digit" pos) (tE Γ.g E k (eVar 2)) := w_var h (by kernel_rfl)
theorem v_law_take_3 {fz : Str → Bool} (h : CxW Γ lo E X n_law_take (defScope s_law_take) fz) {pos : Pos} : PE X (.Name "small" pos) (tE Γ.g E k (eVar 3)) := w_var h (by kernel_rfl)
theorem s_law_take_2 : stB (defScope s_law_take) (fun _ => true) n_law_take 2 "digit" = true := by kernel_rfl
theorem s_law_take_3 : stB (defScope s_law_take) (fun _ => true) n_law_take 3 "small" = true := by kernel_rfl
theorem gb_law_take_abs : bltB (defScope s_law_take) "abs" = true := by kernel_rfl
theorem gb_law_take_int : bltB (defScope s_law_take) "int" = true := by kernel_rfl
theorem gb_law_take_len : bltB (defScope s_law_take) "len" = true := by kernel_rfl
theorem r_law_take (h : CxW Γ lo E X n_law_take (defScope s_law_take) (fun _ => true)) (T : Tx Γ lo k) : PSs X (defBody s_law_take) (tSS Γ.g E k c_law_take) := by
  unfold c_law_take
  exact (ss_cons (ss_if (sw_and (st_cmp (opd_eq h.pK h.u64) (se_ix h.pK h.u65 (v_law_take_0 h) se_int (fun _ _ => rfl)) se_int rfl bl_eq) (sw_and1 (st_cmp (opd_lt) (se_ix h.pK h.u65 (v_law_take_0 h) se_int (fun _ _ => rfl)) (w_len h (sa_cons (se_ix h.pK h.u65 (v_law_take_0 h) se_int (fun _ _ => rfl)) sa_nil rfl) rfl rfl gb_law_take_len T.b_len) rfl bl_lt))).pt (ss_cons (ss_asg (w_abs h (sa_cons (w_int h (sa_cons (se_ix h.pK h.u65 (se_ix h.pK h.u65 (v_law_take_0 h) se_int (fun _ _ => rfl)) (se_ix h.pK h.u65 (v_law_take_0 h) se_int (fun _ _ => rfl)) (fun _ _ => rfl)) sa_nil rfl) rfl rfl gb_law_take_int T.b_int) sa_nil rfl) rfl rfl gb_law_take_abs T.b_abs) (sg_sub h.u65 (v_law_take_0 h) se_int (fun _ => rfl)) tok_sub rfl rfl rfl) (ss_cons (ss_asg (se_op (opd_add h.pK) (se_ix h.pK h.u65 (v_law_take_0 h) se_int (fun _ _ => rfl)) se_int) (sg_sub h.u65 (v_law_take_0 h) se_int (fun _ => rfl)) tok_sub rfl rfl rfl) (ss_cons (ss_if (st_cmp (opd_lt) (se_ix h.pK h.u65 (v_law_take_0 h) se_int (fun _ _ => rfl)) (se_op (opd_pow) se_int se_int) rfl bl_lt) (ss_cons (w_set (i := 3) h s_law_take_3 (w_int h (sa_cons (se_ix h.pK h.u65 (v_law_take_0 h) se_int (fun _ _ => rfl)) sa_nil rfl) rfl rfl gb_law_take_int T.b_int) rfl) (ss_cons (ss_asg se_int (sg_sub h.u65 (v_law_take_0 h) se_int (fun _ => rfl)) tok_sub rfl rfl rfl) (ss_cons (ss_ret (se_op (opd_mod) (v_law_take_3 h) (v_law_take_1 h))) ss_nil))) ss_nil) ss_nil))) ss_nil) (ss_cons (ss_if (st_cmp (opd_gt) (se_ix h.pK h.u65 (v_law_take_0 h) se_int (fun _ _ => rfl)) se_int rfl bl_gt) (ss_cons (w_set (i := 2) h s_law_take_2 (se_op (opd_mod) (w_int h (sa_cons (se_ix h.pK h.u65 (v_law_take_0 h) se_int (fun _ _ => rfl)) sa_nil rfl) rfl rfl gb_law_take_int T.b_int) (v_law_take_1 h)) rfl) (ss_cons (ss_asg (se_op (opd_div) (w_int h (sa_cons (se_ix h.pK h.u65 (v_law_take_0 h) se_int (fun _ _ => rfl)) sa_nil rfl) rfl rfl gb_law_take_int T.b_int) (v_law_take_1 h)) (sg_sub h.u65 (v_law_take_0 h) se_int (fun _ => rfl)) tok_sub rfl rfl rfl) (ss_cons (ss_ret (v_law_take_2 h)) ss_nil))) ss_nil) (ss_cons (ss_asg (se_op (opd_mod) (w_int h (sa_cons (se_op (opd_add h.pK) (se_op (opd_mul h.pK) (se_ix h.pK h.u65 (v_law_take_0 h) se_int (fun _ _ => rfl)) se_int) se_int) sa_nil rfl) rfl rfl gb_law_take_int T.b_int) se_int) (sg_sub h.u65 (v_law_take_0 h) se_int (fun _ => rfl)) tok_sub rfl rfl rfl) (ss_cons (ss_ret (se_op (opd_mod) (w_int h (sa_cons (se_op (opd_div) (se_ix h.pK h.u65 (v_law_take_0 h) se_int (fun _ _ => rfl)) se_int) sa_nil rfl) rfl rfl gb_law_take_int T.b_int) (v_law_take_1 h))) ss_nil))))
theorem v_law_raise_0 {fz : Str → Bool} (h : CxW Γ lo E X n_law_raise (defScope s_law_raise) fz) {pos : Pos} : PE X (.Name "times" pos) (tE Γ.g E k (eVar 0)) := w_var h (by kernel_rfl)
theorem v_law_raise_1 {fz : Str → Bool} (h : CxW Γ lo E X n_law_raise (defScope s_law_raise) fz) {pos : Pos} : PE X (.Name "found" pos) (tE Γ.g E k (eVar 1)) := w_var h (by kernel_rfl)
theorem s_law_raise_1 : stB (defScope s_law_raise) (fun _ => true) n_law_raise 1 "found" = true := by kernel_rfl
theorem s_law_raise_2 : stB (defScope s_law_raise) (fun _ => true) n_law_raise 2 "k" = true := by kernel_rfl
theorem gb_law_raise_range : bltB (defScope s_law_raise) "range" = true := by kernel_rfl
theorem r_law_raise (h : CxW Γ lo E X n_law_raise (defScope s_law_raise) (fun _ => true)) (T : Tx Γ lo k) : PSs X (defBody s_law_raise) (tSS Γ.g E k c_law_raise) := by
  unfold c_law_raise
  exact (ss_cons (w_set (i := 1) h s_law_raise_1 se_int rfl) (ss_cons (w_for h (w_r1 h T.b_range gb_law_raise_range (sa_cons (v_law_raise_0 h) sa_nil rfl) rfl) (w_name (i := 2) h s_law_raise_2) tok_name (ss_cons (w_set (i := 1) h s_law_raise_1 (se_op (opd_mul h.pK) se_int (v_law_raise_1 h)) rfl) ss_nil) (fun _ => rfl)) (ss_cons (ss_ret (v_law_raise_1 h)) ss_nil)))
theorem v_law_mean_0 {fz : Str → Bool} (h : CxW Γ lo E X n_law_mean (defScope s_law_mean) fz) {pos : Pos} : PE X (.Name "bits" pos) (tE Γ.g E k (eVar 0)) := w_var h (by kernel_rfl)
theorem v_law_mean_1 {fz : Str → Bool} (h : CxW Γ lo E X n_law_mean (defScope s_law_mean) fz) {pos : Pos} : PE X (.Name "code" pos) (tE Γ.g E k (eVar 1)) := w_var h (by kernel_rfl)
theorem g_law_mean_law_raise : glB (defScope s_law_mean) "_law_raise" = true := by kernel_rfl
theorem r_law_mean (h : CxW Γ lo E X n_law_mean (defScope s_law_mean) (fun _ => true)) (T : Tx Γ lo k) : PSs X (defBody s_law_mean) (tSS Γ.g E k c_law_mean) := by
  unfold c_law_mean
  exact (ss_cons (ss_ret (se_if (st_cmp (opd_ge) (se_op (opd_mul h.pK) se_int (v_law_mean_1 h)) (w_call h T.f_law_raise g_law_mean_law_raise (sa_cons (v_law_mean_0 h) sa_nil rfl) rfl rfl) rfl bl_ge) (se_op (opd_sub) (v_law_mean_1 h) (w_call h T.f_law_raise g_law_mean_law_raise (sa_cons (v_law_mean_0 h) sa_nil rfl) rfl rfl)) (v_law_mean_1 h))) ss_nil)
theorem v_law_fewest_0 {fz : Str → Bool} (h : CxW Γ lo E X n_law_fewest (defScope s_law_fewest) fz) {pos : Pos} : PE X (.Name "number" pos) (tE Γ.g E k (eVar 0)) := w_var h (by kernel_rfl)
theorem v_law_fewest_1 {fz : Str → Bool} (h : CxW Γ lo E X n_law_fewest (defScope s_law_fewest) fz) {pos : Pos} : PE X (.Name "most" pos) (tE Γ.g E k (eVar 1)) := w_var h (by kernel_rfl)
theorem v_law_fewest_2 {fz : Str → Bool} (h : CxW Γ lo E X n_law_fewest (defScope s_law_fewest) fz) {pos : Pos} : PE X (.Name "rows" pos) (tE Γ.g E k (eVar 2)) := w_var h (by kernel_rfl)
theorem v_law_fewest_3 {fz : Str → Bool} (h : CxW Γ lo E X n_law_fewest (defScope s_law_fewest) fz) {pos : Pos} : PE X (.Name "power" pos) (tE Γ.g E k (eVar 3)) := w_var h (by kernel_rfl)
theorem v_law_fewest_5 {fz : Str → Bool} (h : CxW Γ lo E X n_law_fewest (defScope s_law_fewest) fz) {pos : Pos} : PE X (.Name "following" pos) (tE Γ.g E k (eVar 5)) := w_var h (by kernel_rfl)
theorem v_law_fewest_6 {fz : Str → Bool} (h : CxW Γ lo E X n_law_fewest (defScope s_law_fewest) fz) {pos : Pos} : PE X (.Name "have" pos) (tE Γ.g E k (eVar 6)) := w_var h (by kernel_rfl)
theorem v_law_fewest_7 {fz : Str → Bool} (h : CxW Γ lo E X n_law_fewest (defScope s_law_fewest) fz) {pos : Pos} : PE X (.Name "digit" pos) (tE Γ.g E k (eVar 7)) := w_var h (by kernel_rfl)
theorem v_law_fewest_8 {fz : Str → Bool} (h : CxW Γ lo E X n_law_fewest (defScope s_law_fewest) fz) {pos : Pos} : PE X (.Name "made" pos) (tE Γ.g E k (eVar 8)) := w_var h (by kernel_rfl)
theorem s_law_fewest_7 : stB (defScope s_law_fewest) (fun _ => true) n_law_fewest 7 "digit" = true := by kernel_rfl
theorem s_law_fewest_5 : stB (defScope s_law_fewest) (fun _ => true) n_law_fewest 5 "following" = true := by kernel_rfl
theorem s_law_fewest_6 : stB (defScope s_law_fewest) (fun _ => true) n_law_fewest 6 "have" = true := by kernel_rfl
theorem s_law_fewest_4 : stB (defScope s_law_fewest) (fun _ => true) n_law_fewest 4 "k" = true := by kernel_rfl
theorem s_law_fewest_8 : stB (defScope s_law_fewest) (fun _ => true) n_law_fewest 8 "made" = true := by kernel_rfl
theorem s_law_fewest_3 : stB (defScope s_law_fewest) (fun _ => true) n_law_fewest 3 "power" = true := by kernel_rfl
theorem s_law_fewest_2 : stB (defScope s_law_fewest) (fun _ => true) n_law_fewest 2 "rows" = true := by kernel_rfl
theorem gb_law_fewest_dict : bltB (defScope s_law_fewest) "dict" = true := by kernel_rfl
theorem gb_law_fewest_min : bltB (defScope s_law_fewest) "min" = true := by kernel_rfl
theorem gb_law_fewest_range : bltB (defScope s_law_fewest) "range" = true := by kernel_rfl
theorem r_law_fewest (h : CxW Γ lo E X n_law_fewest (defScope s_law_fewest) (fun _ => true)) (T : Tx Γ lo k) : PSs X (defBody s_law_fewest) (tSS Γ.g E k c_law_fewest) := by
  unfold c_law_fewest
  exact (ss_cons (w_set (i := 2) h s_law_fewest_2 (se_dct (prs := [((eC (.int 0)), (eC (.int 0)))]) (pps_cons se_int se_int pps_nil) rfl rfl (fun z => by cases z) (by decide)) rfl) (ss_cons (w_set (i := 3) h s_law_fewest_3 se_int rfl) (ss_cons (w_for h (w_r1 h T.b_range gb_law_fewest_range (sa_cons (v_law_fewest_1 h) sa_nil rfl) rfl) (w_name (i := 4) h s_law_fewest_4) tok_name (ss_cons (w_set (i := 5) h s_law_fewest_5 (w_dict h (sa_cons (v_law_fewest_2 h) sa_nil rfl) rfl rfl gb_law_fewest_dict T.b_dict) rfl) (ss_cons (w_forD h (v_law_fewest_2 h) (w_name (i := 6) h s_law_fewest_6) tok_name (ss_cons (w_for h (si_seq h.pK (se_tup (sa_cons (se_neg se_int) (sa_cons se_int sa_nil rfl) rfl))) (w_name (i := 7) h s_law_fewest_7) tok_name (ss_cons (w_set (i := 8) h s_law_fewest_8 (se_op (opd_add h.pK) (v_law_fewest_6 h) (se_op (opd_mul h.pK) (v_law_fewest_7 h) (v_law_fewest_3 h))) rfl) (ss_cons (ss_asg (w_min h (sa_cons (se_get2 h.u65 (v_law_fewest_5 h) (v_law_fewest_8 h) se_int ⟨rfl, rfl, rfl, rfl⟩) (sa_cons (se_op (opd_add h.pK) (se_ix h.pK h.u65 (v_law_fewest_2 h) (v_law_fewest_6 h) (fun _ _ => rfl)) se_int) sa_nil rfl) rfl) rfl rfl gb_law_fewest_min T.b_min) (sg_sub h.u65 (v_law_fewest_5 h) (v_law_fewest_8 h) (fun _ => rfl)) tok_sub rfl rfl rfl) ss_nil)) (fun _ => rfl)) ss_nil) (fun _ => rfl)) (ss_cons (w_set (i := 2) h s_law_fewest_2 (v_law_fewest_5 h) rfl) (ss_cons (w_set (i := 3) h s_law_fewest_3 (se_op (opd_mul h.pK) se_int (v_law_fewest_3 h)) rfl) ss_nil)))) (fun _ => rfl)) (ss_cons (ss_ret (se_ix h.pK h.u65 (v_law_fewest_2 h) (v_law_fewest_0 h) (fun _ _ => rfl))) ss_nil))))
theorem g_law_wrong_law_told : glB (defScope s_law_wrong) "_law_told" = true := by kernel_rfl
theorem g_law_wrong_root_of : glB (defScope s_law_wrong) "root_of" = true := by kernel_rfl
theorem g_law_wrong_summed : glB (defScope s_law_wrong) "summed" = true := by kernel_rfl
theorem r_law_wrong (h : CxW Γ lo E X n_law_wrong (defScope s_law_wrong) (fun _ => true)) (hL : LamAt Γ lo X) (T : Tx Γ lo k) : PSs X (defBody s_law_wrong) (tSS Γ.g E k c_law_wrong) := by
  unfold c_law_wrong
  exact (ss_cons (ss_if (sw_or (st_cmp (opd_ne h.pK h.u64) (w_told h hL T.told g_law_wrong_law_told (by kernel_rfl) rfl (fun _ _ _ _ _ => rfl) (fun Y E hl => (w_call hl T.f_meaning (by kernel_rfl) (sa_cons se_int (sa_cons se_int sa_nil rfl) rfl) rfl rfl))) se_str rfl bl_ne) (sw_or (st_cmp (opd_ne h.pK h.u64) (w_told h hL T.told g_law_wrong_law_told (by kernel_rfl) rfl (fun _ _ _ _ _ => rfl) (fun Y E hl => (w_call hl T.f_meaning (by kernel_rfl) (sa_cons se_int (sa_cons se_int sa_nil rfl) rfl) rfl rfl))) se_str rfl bl_ne) (sw_or (st_cmp (opd_ne h.pK h.u64) (w_told h hL T.told g_law_wrong_law_told (by kernel_rfl) rfl (fun _ _ _ _ _ => rfl) (fun Y E hl => (w_call hl T.f_meaning (by kernel_rfl) (sa_cons se_int (sa_cons se_int sa_nil rfl) rfl) rfl rfl))) se_str rfl bl_ne) (sw_or (st_cmp (opd_ne h.pK h.u64) (w_told h hL T.told g_law_wrong_law_told (by kernel_rfl) rfl (fun _ _ _ _ _ => rfl) (fun Y E hl => (w_call hl T.f_added (by kernel_rfl) (sa_cons se_int (sa_cons se_int (sa_cons (se_neg se_int) sa_nil rfl) rfl) rfl) rfl rfl))) se_str rfl bl_ne) (sw_or1 (st_cmp (opd_ne h.pK h.u64) (w_told h hL T.told g_law_wrong_law_told (by kernel_rfl) rfl (fun _ _ _ _ _ => rfl) (fun Y E hl => (w_call hl T.f_widened (by kernel_rfl) (sa_cons se_int (sa_cons se_int (sa_cons se_int sa_nil rfl) rfl) rfl) rfl rfl))) se_str rfl bl_ne)))))).pt (ss_cons (ss_ret se_bool) ss_nil) ss_nil) (ss_cons (ss_if (sw_or (st_cmp (opd_ne h.pK h.u64) (w_told h hL T.told g_law_wrong_law_told (by kernel_rfl) rfl (fun _ _ _ _ _ => rfl) (fun Y E hl => (w_call hl T.f_widened (by kernel_rfl) (sa_cons se_int (sa_cons se_int (sa_cons se_int sa_nil rfl) rfl) rfl) rfl rfl))) se_str rfl bl_ne) (sw_or (st_cmp (opd_ne h.pK h.u64) (w_told h hL T.told g_law_wrong_law_told (by kernel_rfl) rfl (fun _ _ _ _ _ => rfl) (fun Y E hl => (w_call hl T.f_from_digits (by kernel_rfl) (sa_cons (se_tup (sa_cons se_int sa_nil rfl)) sa_nil rfl) rfl rfl))) se_str rfl bl_ne) (sw_or (st_cmp (opd_ne h.pK h.u64) (w_told h hL T.told g_law_wrong_law_told (by kernel_rfl) rfl (fun _ _ _ _ _ => rfl) (fun Y E hl => (w_call hl T.f_divided (by kernel_rfl) (sa_cons se_int (sa_cons se_int (sa_cons se_int sa_nil rfl) rfl) rfl) rfl rfl))) se_str rfl bl_ne) (sw_or (st_cmp (opd_ne h.pK h.u64) (w_told h hL T.told g_law_wrong_law_told (by kernel_rfl) rfl (fun _ _ _ _ _ => rfl) (fun Y E hl => (w_call hl T.f_divided_both (by kernel_rfl) (sa_cons se_int (sa_cons se_int (sa_cons se_int sa_nil rfl) rfl) rfl) rfl rfl))) se_str rfl bl_ne) (sw_or1 (st_cmp (opd_ne h.pK h.u64) (w_told h hL T.told g_law_wrong_law_told (by kernel_rfl) rfl (fun _ _ _ _ _ => rfl) (fun Y E hl => (w_call hl T.f_saved (by kernel_rfl) (sa_cons (se_tup (sa_cons se_int (sa_cons se_int sa_nil rfl) rfl)) sa_nil rfl) rfl rfl))) se_str rfl bl_ne)))))).pt (ss_cons (ss_ret se_bool) ss_nil) ss_nil) (ss_cons (ss_ret (se_and h.pK (se_cmp (opd_eq h.pK h.u64) (w_told h hL T.told g_law_wrong_law_told (by kernel_rfl) rfl (fun _ _ _ _ _ => rfl) (fun Y E hl => (w_call hl T.f_saved (by kernel_rfl) (sa_cons (se_tup (sa_cons se_int (sa_cons se_int (sa_cons (se_neg se_int) sa_nil rfl) rfl) rfl)) sa_nil rfl) rfl rfl))) se_str rfl) (se_and h.pK (se_cmp (opd_eq h.pK h.u64) (w_told h hL T.told g_law_wrong_law_told (by kernel_rfl) rfl (fun _ _ _ _ _ => rfl) (fun Y E hl => (w_call hl T.f_summed (by kernel_rfl) (sa_cons (se_tup (sa_cons (se_neg se_int) sa_nil rfl)) sa_nil rfl) rfl rfl))) se_str rfl) (se_and h.pK (se_cmp (opd_eq h.pK h.u64) (w_told h hL T.told g_law_wrong_law_told (by kernel_rfl) rfl (fun _ _ _ _ _ => rfl) (fun Y E hl => (w_call hl T.f_root_of (by kernel_rfl) (sa_cons (se_neg se_int) sa_nil rfl) rfl rfl))) se_str rfl) (se_and h.pK (se_cmp (opd_eq h.pK h.u64) (w_call h T.f_summed g_law_wrong_summed (sa_cons (se_tup sa_nil) sa_nil rfl) rfl rfl) (se_tup (sa_cons se_int (sa_cons (se_tup sa_nil) sa_nil rfl) rfl)) rfl) (pe_one (se_cmp (opd_eq h.pK h.u64) (w_call h T.f_root_of g_law_wrong_root_of (sa_cons se_int sa_nil rfl) rfl rfl) (se_tup (sa_cons se_int (sa_cons se_int sa_nil rfl) rfl)) rfl))))))) ss_nil)))
theorem v_law_part1_0 {fz : Str → Bool} (h : CxW Γ lo E X n_law_part1 (defScope s_law_part1) fz) {pos : Pos} : PE X (.Name "d" pos) (tE Γ.g E k (eVar 0)) := w_var h (by kernel_rfl)
theorem v_law_part1_1 {fz : Str → Bool} (h : CxW Γ lo E X n_law_part1 (defScope s_law_part1) fz) {pos : Pos} : PE X (.Name "bits" pos) (tE Γ.g E k (eVar 1)) := w_var h (by kernel_rfl)
theorem v_law_part1_2 {fz : Str → Bool} (h : CxW Γ lo E X n_law_part1 (defScope s_law_part1) fz) {pos : Pos} : PE X (.Name "one" pos) (tE Γ.g E k (eVar 2)) := w_var h (by kernel_rfl)
theorem v_law_part1_3 {fz : Str → Bool} (h : CxW Γ lo E X n_law_part1 (defScope s_law_part1) fz) {pos : Pos} : PE X (.Name "other" pos) (tE Γ.g E k (eVar 3)) := w_var h (by kernel_rfl)
theorem v_law_part1_4 {fz : Str → Bool} (h : CxW Γ lo E X n_law_part1 (defScope s_law_part1) fz) {pos : Pos} : PE X (.Name "due" pos) (tE Γ.g E k (eVar 4)) := w_var h (by kernel_rfl)
theorem v_law_part1_5 {fz : Str → Bool} (h : CxW Γ lo E X n_law_part1 (defScope s_law_part1) fz) {pos : Pos} : PE X (.Name "numbers" pos) (tE Γ.g E k (eVar 5)) := w_var h (by kernel_rfl)
theorem v_law_part1_6 {fz : Str → Bool} (h : CxW Γ lo E X n_law_part1 (defScope s_law_part1) fz) {pos : Pos} : PE X (.Name "k" pos) (tE Γ.g E k (eVar 6)) := w_var h (by kernel_rfl)
theorem v_law_part1_7 {fz : Str → Bool} (h : CxW Γ lo E X n_law_part1 (defScope s_law_part1) fz) {pos : Pos} : PE X (.Name "rows" pos) (tE Γ.g E k (eVar 7)) := w_var h (by kernel_rfl)
theorem v_law_part1_8 {fz : Str → Bool} (h : CxW Γ lo E X n_law_part1 (defScope s_law_part1) fz) {pos : Pos} : PE X (.Name "many" pos) (tE Γ.g E k (eVar 8)) := w_var h (by kernel_rfl)
theorem v_law_part1_9 {fz : Str → Bool} (h : CxW Γ lo E X n_law_part1 (defScope s_law_part1) fz) {pos : Pos} : PE X (.Name "due_steps" pos) (tE Γ.g E k (eVar 9)) := w_var h (by kernel_rfl)
theorem v_law_part1_10 {fz : Str → Bool} (h : CxW Γ lo E X n_law_part1 (defScope s_law_part1) fz) {pos : Pos} : PE X (.Name "back" pos) (tE Γ.g E k (eVar 10)) := w_var h (by kernel_rfl)
theorem v_law_part1_11 {fz : Str → Bool} (h : CxW Γ lo E X n_law_part1 (defScope s_law_part1) fz) {pos : Pos} : PE X (.Name "ones" pos) (tE Γ.g E k (eVar 11)) := w_var h (by kernel_rfl)
theorem v_law_part1_12 {fz : Str → Bool} (h : CxW Γ lo E X n_law_part1 (defScope s_law_part1) fz) {pos : Pos} : PE X (.Name "left" pos) (tE Γ.g E k (eVar 12)) := w_var h (by kernel_rfl)
theorem v_law_part1_13 {fz : Str → Bool} (h : CxW Γ lo E X n_law_part1 (defScope s_law_part1) fz) {pos : Pos} : PE X (.Name "first" pos) (tE Γ.g E k (eVar 13)) := w_var h (by kernel_rfl)
theorem v_law_part1_14 {fz : Str → Bool} (h : CxW Γ lo E X n_law_part1 (defScope s_law_part1) fz) {pos : Pos} : PE X (.Name "second" pos) (tE Γ.g E k (eVar 14)) := w_var h (by kernel_rfl)
theorem v_law_part1_15 {fz : Str → Bool} (h : CxW Γ lo E X n_law_part1 (defScope s_law_part1) fz) {pos : Pos} : PE X (.Name "steps" pos) (tE Γ.g E k (eVar 15)) := w_var h (by kernel_rfl)
theorem v_law_part1_16 {fz : Str → Bool} (h : CxW Γ lo E X n_law_part1 (defScope s_law_part1) fz) {pos : Pos} : PE X (.Name "last" pos) (tE Γ.g E k (eVar 16)) := w_var h (by kernel_rfl)
theorem v_law_part1_17 {fz : Str → Bool} (h : CxW Γ lo E X n_law_part1 (defScope s_law_part1) fz) {pos : Pos} : PE X (.Name "root" pos) (tE Γ.g E k (eVar 17)) := w_var h (by kernel_rfl)
theorem v_law_part1_18 {fz : Str → Bool} (h : CxW Γ lo E X n_law_part1 (defScope s_law_part1) fz) {pos : Pos} : PE X (.Name "rest" pos) (tE Γ.g E k (eVar 18)) := w_var h (by kernel_rfl)
theorem v_law_part1_19 {fz : Str → Bool} (h : CxW Γ lo E X n_law_part1 (defScope s_law_part1) fz) {pos : Pos} : PE X (.Name "quotient" pos) (tE Γ.g E k (eVar 19)) := w_var h (by kernel_rfl)
theorem v_law_part1_20 {fz : Str → Bool} (h : CxW Γ lo E X n_law_part1 (defScope s_law_part1) fz) {pos : Pos} : PE X (.Name "signs" pos) (tE Γ.g E k (eVar 20)) := w_var h (by kernel_rfl)
theorem s_law_part1_10 : stB (defScope s_law_part1) (fun _ => true) n_law_part1 10 "back" = true := by kernel_rfl
theorem s_law_part1_9 : stB (defScope s_law_part1) (fun _ => true) n_law_part1 9 "due_steps" = true := by kernel_rfl
theorem s_law_part1_13 : stB (defScope s_law_part1) (fun _ => true) n_law_part1 13 "first" = true := by kernel_rfl
theorem s_law_part1_6 : stB (defScope s_law_part1) (fun _ => true) n_law_part1 6 "k" = true := by kernel_rfl
theorem s_law_part1_16 : stB (defScope s_law_part1) (fun _ => true) n_law_part1 16 "last" = true := by kernel_rfl
theorem s_law_part1_12 : stB (defScope s_law_part1) (fun _ => true) n_law_part1 12 "left" = true := by kernel_rfl
theorem s_law_part1_8 : stB (defScope s_law_part1) (fun _ => true) n_law_part1 8 "many" = true := by kernel_rfl
theorem s_law_part1_5 : stB (defScope s_law_part1) (fun _ => true) n_law_part1 5 "numbers" = true := by kernel_rfl
theorem s_law_part1_11 : stB (defScope s_law_part1) (fun _ => true) n_law_part1 11 "ones" = true := by kernel_rfl
theorem s_law_part1_19 : stB (defScope s_law_part1) (fun _ => true) n_law_part1 19 "quotient" = true := by kernel_rfl
theorem s_law_part1_18 : stB (defScope s_law_part1) (fun _ => true) n_law_part1 18 "rest" = true := by kernel_rfl
theorem s_law_part1_17 : stB (defScope s_law_part1) (fun _ => true) n_law_part1 17 "root" = true := by kernel_rfl
theorem s_law_part1_7 : stB (defScope s_law_part1) (fun _ => true) n_law_part1 7 "rows" = true := by kernel_rfl
theorem s_law_part1_14 : stB (defScope s_law_part1) (fun _ => true) n_law_part1 14 "second" = true := by kernel_rfl
theorem s_law_part1_20 : stB (defScope s_law_part1) (fun _ => true) n_law_part1 20 "signs" = true := by kernel_rfl
theorem s_law_part1_15 : stB (defScope s_law_part1) (fun _ => true) n_law_part1 15 "steps" = true := by kernel_rfl
theorem g_law_part1_law_raise : glB (defScope s_law_part1) "_law_raise" = true := by kernel_rfl
theorem g_law_part1_law_take : glB (defScope s_law_part1) "_law_take" = true := by kernel_rfl
theorem g_law_part1_law_wrong : glB (defScope s_law_part1) "_law_wrong" = true := by kernel_rfl
theorem g_law_part1_counts : glB (defScope s_law_part1) "counts" = true := by kernel_rfl
theorem g_law_part1_divided : glB (defScope s_law_part1) "divided" = true := by kernel_rfl
theorem g_law_part1_divided_both : glB (defScope s_law_part1) "divided_both" = true := by kernel_rfl
theorem gb_law_part1_int : bltB (defScope s_law_part1) "int" = true := by kernel_rfl
theorem gb_law_part1_len : bltB (defScope s_law_part1) "len" = true := by kernel_rfl
theorem gb_law_part1_max : bltB (defScope s_law_part1) "max" = true := by kernel_rfl
theorem gb_law_part1_min : bltB (defScope s_law_part1) "min" = true := by kernel_rfl
theorem gb_law_part1_range : bltB (defScope s_law_part1) "range" = true := by kernel_rfl
theorem g_law_part1_root_of : glB (defScope s_law_part1) "root_of" = true := by kernel_rfl
theorem g_law_part1_saved : glB (defScope s_law_part1) "saved" = true := by kernel_rfl
theorem gb_law_part1_sum : bltB (defScope s_law_part1) "sum" = true := by kernel_rfl
theorem g_law_part1_summed : glB (defScope s_law_part1) "summed" = true := by kernel_rfl
theorem gb_law_part1_tuple : bltB (defScope s_law_part1) "tuple" = true := by kernel_rfl
theorem g_law_part1_turned_bits : glB (defScope s_law_part1) "turned_bits" = true := by kernel_rfl
theorem r_law_part1 (h : CxW Γ lo E X n_law_part1 (defScope s_law_part1) (fun _ => true)) (T : Tx Γ lo k) : PSs X (defBody s_law_part1) (tSS Γ.g E k c_law_part1) := by
  unfold c_law_part1
  exact (ss_cons (ss_if (st_cmp (opd_gt) (v_law_part1_3 h) se_int rfl bl_gt) (ss_cons (ss_asg (w_call h T.f_divided g_law_part1_divided (sa_cons (v_law_part1_1 h) (sa_cons (v_law_part1_2 h) (sa_cons (v_law_part1_3 h) sa_nil rfl) rfl) rfl) rfl rfl) (sg_tup h.pK h.calm (sgs_cons (w_name (i := 19) h s_law_part1_19) (sgs_cons (w_name (i := 18) h s_law_part1_18) (sgs_cons (w_name (i := 7) h s_law_part1_7) sgs_nil rfl) rfl) rfl) rfl rfl) (tok_tup (tsok_cons tok_name (tsok_cons tok_name (tsok_cons tok_name tsok_nil)))) rfl rfl rfl) (ss_cons (w_set (i := 12) h s_law_part1_12 se_int rfl) (ss_cons (w_for h (w_r1 h T.b_range gb_law_part1_range (sa_cons (v_law_part1_1 h) sa_nil rfl) rfl) (w_name (i := 6) h s_law_part1_6) tok_name (ss_cons (w_set (i := 12) h s_law_part1_12 (se_op (opd_add h.pK) (se_op (opd_mul h.pK) se_int (v_law_part1_12 h)) (se_ix h.pK h.u65 (v_law_part1_4 h) (se_op (opd_sub) (se_op (opd_sub) (v_law_part1_1 h) se_int) (v_law_part1_6 h)) (fun _ _ => rfl))) rfl) (ss_cons (w_set (i := 12) h s_law_part1_12 (se_if (st_cmp (opd_ge) (v_law_part1_12 h) (v_law_part1_3 h) rfl bl_ge) (se_op (opd_sub) (v_law_part1_12 h) (v_law_part1_3 h)) (v_law_part1_12 h)) rfl) (ss_cons (ss_if (st_cmp (opd_ne h.pK h.u64) (se_ix h.pK h.u65 (v_law_part1_7 h) (v_law_part1_6 h) (fun _ _ => rfl)) (v_law_part1_12 h) rfl bl_ne) (ss_cons (ss_ret se_bool) ss_nil) ss_nil) ss_nil))) (fun _ => rfl)) (ss_cons (ss_asg (w_call h T.f_divided_both g_law_part1_divided_both (sa_cons (v_law_part1_1 h) (sa_cons (v_law_part1_2 h) (sa_cons (v_law_part1_3 h) sa_nil rfl) rfl) rfl) rfl rfl) (sg_tup h.pK h.calm (sgs_cons (w_name (i := 14) h s_law_part1_14) (sgs_cons (w_name (i := 16) h s_law_part1_16) (sgs_cons (w_name (i := 20) h s_law_part1_20) sgs_nil rfl) rfl) rfl) rfl rfl) (tok_tup (tsok_cons tok_name (tsok_cons tok_name (tsok_cons tok_name tsok_nil)))) rfl rfl rfl) (ss_cons (ss_if (sw_or (st_cmp (opd_ne h.pK h.u64) (se_op (opd_add h.pK) (se_op (opd_mul h.pK) (v_law_part1_19 h) (v_law_part1_3 h)) (v_law_part1_18 h)) (v_law_part1_2 h) rfl bl_ne) (sw_or (st_cmp (opd_lt) (v_law_part1_18 h) se_int rfl bl_lt) (sw_or (st_cmp (opd_ge) (v_law_part1_18 h) (v_law_part1_3 h) rfl bl_ge) (sw_or (st_cmp (opd_ne h.pK h.u64) (se_tup (sa_cons (v_law_part1_14 h) (sa_cons (v_law_part1_16 h) sa_nil rfl) rfl)) (se_tup (sa_cons (v_law_part1_19 h) (sa_cons (v_law_part1_18 h) sa_nil rfl) rfl)) rfl bl_ne) (sw_or (st_cmp (opd_ne h.pK h.u64) (w_len h (sa_cons (v_law_part1_20 h) sa_nil rfl) rfl rfl gb_law_part1_len T.b_len) (v_law_part1_1 h) rfl bl_ne) (sw_or1 (st_cmp (opd_gt) (w_len h (sa_cons (w_compQ h [("sign", 22)] (by kernel_rfl) (si_seq h.pK (v_law_part1_20 h)) (cg_name (by decide)) (fun Y hb => (w_nameC (i := 22) hb (by kernel_rfl))) (fun Y hb => (st_cmp (opd_notin hb.pK hb.u65) (w_var (i := 22) hb (by kernel_rfl)) (se_tup (sa_cons se_int (sa_cons (se_neg se_int) sa_nil rfl) rfl)) rfl bl_notin)) (fun Y hb => (w_var (i := 22) hb (by kernel_rfl))) (fun _ => rfl)) sa_nil rfl) rfl rfl gb_law_part1_len T.b_len) se_int rfl bl_gt))))))).pt (ss_cons (ss_ret se_bool) ss_nil) ss_nil) (ss_cons (w_set (i := 12) h s_law_part1_12 se_int rfl) (ss_cons (w_for h (w_r1 h T.b_range gb_law_part1_range (sa_cons (v_law_part1_1 h) sa_nil rfl) rfl) (w_name (i := 6) h s_law_part1_6) tok_name (ss_cons (ss_if (st_cmp (opd_ne h.pK h.u64) (se_ix h.pK h.u65 (v_law_part1_20 h) (v_law_part1_6 h) (fun _ _ => rfl)) (se_if (st_cmp (opd_ge) (v_law_part1_12 h) se_int rfl bl_ge) se_int (se_neg se_int)) rfl bl_ne) (ss_cons (ss_ret se_bool) ss_nil) ss_nil) (ss_cons (w_set (i := 12) h s_law_part1_12 (se_op (opd_sub) (se_op (opd_add h.pK) (se_op (opd_mul h.pK) se_int (v_law_part1_12 h)) (se_ix h.pK h.u65 (v_law_part1_4 h) (se_op (opd_sub) (se_op (opd_sub) (v_law_part1_1 h) se_int) (v_law_part1_6 h)) (fun _ _ => rfl))) (se_op (opd_mul h.pK) (se_ix h.pK h.u65 (v_law_part1_20 h) (v_law_part1_6 h) (fun _ _ => rfl)) (v_law_part1_3 h))) rfl) ss_nil)) (fun _ => rfl)) ss_nil))))))) ss_nil) (ss_cons (w_set (i := 5) h s_law_part1_5 (w_tuple h (sa_cons (w_comp h [("k", 6)] (by kernel_rfl) (w_r1 h T.b_range gb_law_part1_range (sa_cons se_int sa_nil rfl) rfl) (cg_name (by decide)) (fun Y hb => (w_nameC (i := 6) hb (by kernel_rfl))) (fun Y hb => (se_op (opd_add hb.pK) (se_op (opd_mul hb.pK) (w_call hb T.f_law_take (by kernel_rfl) (sa_cons (w_var (i := 0) hb (by kernel_rfl)) (sa_cons se_int sa_nil rfl) rfl) rfl rfl) (se_op (opd_pow) se_int se_int)) (w_call hb T.f_law_take (by kernel_rfl) (sa_cons (w_var (i := 0) hb (by kernel_rfl)) (sa_cons se_int sa_nil rfl) rfl) rfl rfl))) (fun _ => rfl)) sa_nil rfl) rfl rfl gb_law_part1_tuple T.b_tuple) rfl) (ss_cons (ss_asg (w_call h T.f_saved g_law_part1_saved (sa_cons (v_law_part1_5 h) sa_nil rfl) rfl rfl) (sg_tup h.pK h.calm (sgs_cons (w_name (i := 13) h s_law_part1_13) (sgs_cons (w_name (i := 14) h s_law_part1_14) sgs_nil rfl) rfl) rfl rfl) (tok_tup (tsok_cons tok_name (tsok_cons tok_name tsok_nil))) rfl rfl rfl) (ss_cons (ss_if (sw_or (st_cmp (opd_ne h.pK h.u64) (se_op (opd_add h.pK) (v_law_part1_13 h) (v_law_part1_14 h)) (w_sum h (sa_cons (v_law_part1_5 h) sa_nil rfl) rfl rfl gb_law_part1_sum T.b_sum) rfl bl_ne) (sw_or1 (st_cmp (opd_ne h.pK h.u64) (se_op (opd_mod) (w_int h (sa_cons (v_law_part1_14 h) sa_nil rfl) rfl rfl gb_law_part1_int T.b_int) se_int) se_int rfl bl_ne))).pt (ss_cons (ss_ret se_bool) ss_nil) ss_nil) (ss_cons (w_for h (w_r1 h T.b_range gb_law_part1_range (sa_cons se_int sa_nil rfl) rfl) (w_name (i := 6) h s_law_part1_6) tok_name (ss_cons (w_set (i := 11) h s_law_part1_11 (w_sum h (sa_cons (w_comp h [("number", 21)] (by kernel_rfl) (si_seq h.pK (v_law_part1_5 h)) (cg_name (by decide)) (fun Y hb => (w_nameC (i := 21) hb (by kernel_rfl))) (fun Y hb => (se_op (opd_mod) (w_int hb (sa_cons (se_op (opd_div) (w_var (i := 21) hb (by kernel_rfl)) (w_call hb T.f_law_raise (by kernel_rfl) (sa_cons (w_var (i := 6) hb (by kernel_rfl)) sa_nil rfl) rfl rfl)) sa_nil rfl) rfl rfl (by kernel_rfl) T.b_int) se_int)) (fun _ => rfl)) sa_nil rfl) rfl rfl gb_law_part1_sum T.b_sum) rfl) (ss_cons (ss_if (sw_or (st_cmp (opd_ne h.pK h.u64) (se_op (opd_mod) (w_int h (sa_cons (se_op (opd_div) (v_law_part1_13 h) (w_call h T.f_law_raise g_law_part1_law_raise (sa_cons (v_law_part1_6 h) sa_nil rfl) rfl rfl)) sa_nil rfl) rfl rfl gb_law_part1_int T.b_int) se_int) (se_op (opd_mod) (w_int h (sa_cons (v_law_part1_11 h) sa_nil rfl) rfl rfl gb_law_part1_int T.b_int) se_int) rfl bl_ne) (sw_or1 (st_cmp (opd_ne h.pK h.u64) (se_op (opd_mod) (w_int h (sa_cons (se_op (opd_div) (v_law_part1_14 h) (w_call h T.f_law_raise g_law_part1_law_raise (sa_cons (se_op (opd_add h.pK) (v_law_part1_6 h) se_int) sa_nil rfl) rfl rfl)) sa_nil rfl) rfl rfl gb_law_part1_int T.b_int) se_int) (w_int h (sa_cons (se_cmp (opd_gt) (v_law_part1_11 h) se_int rfl) sa_nil rfl) rfl rfl gb_law_part1_int T.b_int) rfl bl_ne))).pt (ss_cons (ss_ret se_bool) ss_nil) ss_nil) ss_nil)) (fun _ => rfl)) (ss_cons (w_set (i := 7) h s_law_part1_7 (w_tuple h (sa_cons (w_comp h [("k", 6)] (by kernel_rfl) (w_r1 h T.b_range gb_law_part1_range (sa_cons (w_call h T.f_law_take g_law_part1_law_take (sa_cons (v_law_part1_0 h) (sa_cons se_int sa_nil rfl) rfl) rfl rfl) sa_nil rfl) rfl) (cg_name (by decide)) (fun Y hb => (w_nameC (i := 6) hb (by kernel_rfl))) (fun Y hb => (w_call hb T.f_law_take (by kernel_rfl) (sa_cons (w_var (i := 0) hb (by kernel_rfl)) (sa_cons se_int sa_nil rfl) rfl) rfl rfl)) (fun _ => rfl)) sa_nil rfl) rfl rfl gb_law_part1_tuple T.b_tuple) rfl) (ss_cons (ss_asg (w_call h T.f_summed g_law_part1_summed (sa_cons (v_law_part1_7 h) sa_nil rfl) rfl rfl) (sg_tup h.pK h.calm (sgs_cons (w_name (i := 15) h s_law_part1_15) (sgs_cons (w_name (i := 16) h s_law_part1_16) sgs_nil rfl) rfl) rfl rfl) (tok_tup (tsok_cons tok_name (tsok_cons tok_name tsok_nil))) rfl rfl rfl) (ss_cons (w_set (i := 8) h s_law_part1_8 (w_len h (sa_cons (v_law_part1_7 h) sa_nil rfl) rfl rfl gb_law_part1_len T.b_len) rfl) (ss_cons (w_set (i := 9) h s_law_part1_9 se_int rfl) (ss_cons (w_while h (st_cmp (opd_gt) (v_law_part1_8 h) se_int rfl bl_gt) (ss_cons (w_set (i := 8) h s_law_part1_8 (se_op (opd_add h.pK) (se_op (opd_mul h.pK) se_int (se_op (opd_div) (v_law_part1_8 h) se_int)) (se_op (opd_mod) (w_int h (sa_cons (v_law_part1_8 h) sa_nil rfl) rfl rfl gb_law_part1_int T.b_int) se_int)) rfl) (ss_cons (w_set (i := 9) h s_law_part1_9 (se_op (opd_add h.pK) (v_law_part1_9 h) se_int) rfl) ss_nil))) (ss_cons (ss_if (sw_or (st_cmp (opd_ne h.pK h.u64) (v_law_part1_15 h) (v_law_part1_9 h) rfl bl_ne) (sw_or (st_cmp (opd_ne h.pK h.u64) (w_len h (sa_cons (v_law_part1_16 h) sa_nil rfl) rfl rfl gb_law_part1_len T.b_len) (w_min h (sa_cons se_int (sa_cons (w_len h (sa_cons (v_law_part1_7 h) sa_nil rfl) rfl rfl gb_law_part1_len T.b_len) sa_nil rfl) rfl) rfl rfl gb_law_part1_min T.b_min) rfl bl_ne) (sw_or1 (st_cmp (opd_ne h.pK h.u64) (w_sum h (sa_cons (v_law_part1_16 h) sa_nil rfl) rfl rfl gb_law_part1_sum T.b_sum) (w_sum h (sa_cons (v_law_part1_7 h) sa_nil rfl) rfl rfl gb_law_part1_sum T.b_sum) rfl bl_ne)))).pt (ss_cons (ss_ret se_bool) ss_nil) ss_nil) (ss_cons (ss_asg (w_call h T.f_root_of g_law_part1_root_of (sa_cons (se_ix h.pK h.u65 (v_law_part1_5 h) se_int (fun _ _ => rfl)) sa_nil rfl) rfl rfl) (sg_tup h.pK h.calm (sgs_cons (w_name (i := 17) h s_law_part1_17) (sgs_cons (w_name (i := 18) h s_law_part1_18) sgs_nil rfl) rfl) rfl rfl) (tok_tup (tsok_cons tok_name (tsok_cons tok_name tsok_nil))) rfl rfl rfl) (ss_cons (ss_if (sw_or (st_cmp (opd_ne h.pK h.u64) (se_op (opd_add h.pK) (se_op (opd_mul h.pK) (v_law_part1_17 h) (v_law_part1_17 h)) (v_law_part1_18 h)) (se_ix h.pK h.u65 (v_law_part1_5 h) se_int (fun _ _ => rfl)) rfl bl_ne) (sw_or (st_cmp (opd_lt) (v_law_part1_18 h) se_int rfl bl_lt) (sw_or1 (st_cmp (opd_gt) (v_law_part1_18 h) (se_op (opd_mul h.pK) se_int (v_law_part1_17 h)) rfl bl_gt)))).pt (ss_cons (ss_ret se_bool) ss_nil) ss_nil) (ss_cons (w_set (i := 10) h s_law_part1_10 se_int rfl) (ss_cons (w_for h (w_r1 h T.b_range gb_law_part1_range (sa_cons (v_law_part1_1 h) sa_nil rfl) rfl) (w_name (i := 6) h s_law_part1_6) tok_name (ss_cons (w_set (i := 10) h s_law_part1_10 (se_op (opd_add h.pK) (se_op (opd_mul h.pK) se_int (v_law_part1_10 h)) (se_ix h.pK h.u65 (v_law_part1_4 h) (v_law_part1_6 h) (fun _ _ => rfl))) rfl) ss_nil) (fun _ => rfl)) (ss_cons (w_setLcQ (i := 11) h [("k", 6)] (by kernel_rfl) (by kernel_rfl) (by kernel_rfl) (w_r1 h T.b_range gb_law_part1_range (sa_cons (v_law_part1_1 h) sa_nil rfl) rfl) (cg_name (by decide)) (fun Y hb => (w_nameC (i := 6) hb (by kernel_rfl))) (fun Y hb => (st_cmp (opd_eq hb.pK hb.u64) (se_ix hb.pK hb.u65 (w_var (i := 4) hb (by kernel_rfl)) (w_var (i := 6) hb (by kernel_rfl)) (fun _ _ => rfl)) se_int rfl bl_eq)) (fun Y hb => (w_var (i := 6) hb (by kernel_rfl))) (fun _ => rfl)) (ss_cons (ss_if (sw_or (st_cmp (opd_ne h.pK h.u64) (w_call h T.f_turned_bits g_law_part1_turned_bits (sa_cons (v_law_part1_1 h) (sa_cons (v_law_part1_2 h) sa_nil rfl) rfl) rfl rfl) (v_law_part1_10 h) rfl bl_ne) (sw_or1 (st_cmp (opd_ne h.pK h.u64) (w_call h T.f_counts g_law_part1_counts (sa_cons (v_law_part1_1 h) (sa_cons (v_law_part1_2 h) sa_nil rfl) rfl) rfl rfl) (se_tup (sa_cons (w_len h (sa_cons (v_law_part1_11 h) sa_nil rfl) rfl rfl gb_law_part1_len T.b_len) (sa_cons (se_if (st_cmp (opd_gt) (w_len h (sa_cons (v_law_part1_11 h) sa_nil rfl) rfl rfl gb_law_part1_len T.b_len) se_int rfl bl_gt) (se_op (opd_sub) (se_op (opd_sub) (v_law_part1_1 h) se_int) (w_max h (sa_cons (v_law_part1_11 h) sa_nil rfl) rfl rfl gb_law_part1_max T.b_max)) (v_law_part1_1 h)) (sa_cons (se_if (st_cmp (opd_gt) (w_len h (sa_cons (v_law_part1_11 h) sa_nil rfl) rfl rfl gb_law_part1_len T.b_len) se_int rfl bl_gt) (w_min h (sa_cons (v_law_part1_11 h) sa_nil rfl) rfl rfl gb_law_part1_min T.b_min) (v_law_part1_1 h)) sa_nil rfl) rfl) rfl)) rfl bl_ne))).pt (ss_cons (ss_ret se_bool) ss_nil) ss_nil) (ss_cons (ss_ret (w_call0 h T.f_law_wrong g_law_part1_law_wrong)) ss_nil))))))))))))))))))
theorem v_law_0 {fz : Str → Bool} (h : CxW Γ lo E X n_law (defScope s_law) fz) {pos : Pos} : PE X (.Name "script" pos) (tE Γ.g E k (eVar 0)) := w_var h (by kernel_rfl)
theorem v_law_1 {fz : Str → Bool} (h : CxW Γ lo E X n_law (defScope s_law) fz) {pos : Pos} : PE X (.Name "d" pos) (tE Γ.g E k (eVar 1)) := w_var h (by kernel_rfl)
theorem v_law_2 {fz : Str → Bool} (h : CxW Γ lo E X n_law (defScope s_law) fz) {pos : Pos} : PE X (.Name "bits" pos) (tE Γ.g E k (eVar 2)) := w_var h (by kernel_rfl)
theorem v_law_3 {fz : Str → Bool} (h : CxW Γ lo E X n_law (defScope s_law) fz) {pos : Pos} : PE X (.Name "whole" pos) (tE Γ.g E k (eVar 3)) := w_var h (by kernel_rfl)
theorem v_law_4 {fz : Str → Bool} (h : CxW Γ lo E X n_law (defScope s_law) fz) {pos : Pos} : PE X (.Name "one" pos) (tE Γ.g E k (eVar 4)) := w_var h (by kernel_rfl)
theorem v_law_5 {fz : Str → Bool} (h : CxW Γ lo E X n_law (defScope s_law) fz) {pos : Pos} : PE X (.Name "other" pos) (tE Γ.g E k (eVar 5)) := w_var h (by kernel_rfl)
theorem v_law_6 {fz : Str → Bool} (h : CxW Γ lo E X n_law (defScope s_law) fz) {pos : Pos} : PE X (.Name "a" pos) (tE Γ.g E k (eVar 6)) := w_var h (by kernel_rfl)
theorem v_law_7 {fz : Str → Bool} (h : CxW Γ lo E X n_law (defScope s_law) fz) {pos : Pos} : PE X (.Name "b" pos) (tE Γ.g E k (eVar 7)) := w_var h (by kernel_rfl)
theorem v_law_8 {fz : Str → Bool} (h : CxW Γ lo E X n_law (defScope s_law) fz) {pos : Pos} : PE X (.Name "number" pos) (tE Γ.g E k (eVar 8)) := w_var h (by kernel_rfl)
theorem v_law_9 {fz : Str → Bool} (h : CxW Γ lo E X n_law (defScope s_law) fz) {pos : Pos} : PE X (.Name "inside" pos) (tE Γ.g E k (eVar 9)) := w_var h (by kernel_rfl)
theorem v_law_10 {fz : Str → Bool} (h : CxW Γ lo E X n_law (defScope s_law) fz) {pos : Pos} : PE X (.Name "more" pos) (tE Γ.g E k (eVar 10)) := w_var h (by kernel_rfl)
theorem v_law_11 {fz : Str → Bool} (h : CxW Γ lo E X n_law (defScope s_law) fz) {pos : Pos} : PE X (.Name "row" pos) (tE Γ.g E k (eVar 11)) := w_var h (by kernel_rfl)
theorem v_law_12 {fz : Str → Bool} (h : CxW Γ lo E X n_law (defScope s_law) fz) {pos : Pos} : PE X (.Name "due" pos) (tE Γ.g E k (eVar 12)) := w_var h (by kernel_rfl)
theorem v_law_13 {fz : Str → Bool} (h : CxW Γ lo E X n_law (defScope s_law) fz) {pos : Pos} : PE X (.Name "thin" pos) (tE Γ.g E k (eVar 13)) := w_var h (by kernel_rfl)
theorem v_law_14 {fz : Str → Bool} (h : CxW Γ lo E X n_law (defScope s_law) fz) {pos : Pos} : PE X (.Name "told" pos) (tE Γ.g E k (eVar 14)) := w_var h (by kernel_rfl)
theorem v_law_15 {fz : Str → Bool} (h : CxW Γ lo E X n_law (defScope s_law) fz) {pos : Pos} : PE X (.Name "exact" pos) (tE Γ.g E k (eVar 15)) := w_var h (by kernel_rfl)
theorem v_law_16 {fz : Str → Bool} (h : CxW Γ lo E X n_law (defScope s_law) fz) {pos : Pos} : PE X (.Name "carry" pos) (tE Γ.g E k (eVar 16)) := w_var h (by kernel_rfl)
theorem v_law_17 {fz : Str → Bool} (h : CxW Γ lo E X n_law (defScope s_law) fz) {pos : Pos} : PE X (.Name "code" pos) (tE Γ.g E k (eVar 17)) := w_var h (by kernel_rfl)
theorem s_law_6 : stB (defScope s_law) (fun _ => true) n_law 6 "a" = true := by kernel_rfl
theorem s_law_7 : stB (defScope s_law) (fun _ => true) n_law 7 "b" = true := by kernel_rfl
theorem s_law_2 : stB (defScope s_law) (fun _ => true) n_law 2 "bits" = true := by kernel_rfl
theorem s_law_16 : stB (defScope s_law) (fun _ => true) n_law 16 "carry" = true := by kernel_rfl
theorem s_law_17 : stB (defScope s_law) (fun _ => true) n_law 17 "code" = true := by kernel_rfl
theorem s_law_1 : stB (defScope s_law) (fun _ => true) n_law 1 "d" = true := by kernel_rfl
theorem s_law_12 : stB (defScope s_law) (fun _ => true) n_law 12 "due" = true := by kernel_rfl
theorem s_law_15 : stB (defScope s_law) (fun _ => true) n_law 15 "exact" = true := by kernel_rfl
theorem s_law_9 : stB (defScope s_law) (fun _ => true) n_law 9 "inside" = true := by kernel_rfl
theorem s_law_10 : stB (defScope s_law) (fun _ => true) n_law 10 "more" = true := by kernel_rfl
theorem s_law_8 : stB (defScope s_law) (fun _ => true) n_law 8 "number" = true := by kernel_rfl
theorem s_law_4 : stB (defScope s_law) (fun _ => true) n_law 4 "one" = true := by kernel_rfl
theorem s_law_5 : stB (defScope s_law) (fun _ => true) n_law 5 "other" = true := by kernel_rfl
theorem s_law_11 : stB (defScope s_law) (fun _ => true) n_law 11 "row" = true := by kernel_rfl
theorem s_law_13 : stB (defScope s_law) (fun _ => true) n_law 13 "thin" = true := by kernel_rfl
theorem s_law_14 : stB (defScope s_law) (fun _ => true) n_law 14 "told" = true := by kernel_rfl
theorem s_law_3 : stB (defScope s_law) (fun _ => true) n_law 3 "whole" = true := by kernel_rfl
theorem g_law_law_begin : glB (defScope s_law) "_law_begin" = true := by kernel_rfl
theorem g_law_law_fewest : glB (defScope s_law) "_law_fewest" = true := by kernel_rfl
theorem g_law_law_mean : glB (defScope s_law) "_law_mean" = true := by kernel_rfl
theorem g_law_law_part1 : glB (defScope s_law) "_law_part1" = true := by kernel_rfl
theorem g_law_law_raise : glB (defScope s_law) "_law_raise" = true := by kernel_rfl
theorem g_law_law_take : glB (defScope s_law) "_law_take" = true := by kernel_rfl
theorem g_law_added : glB (defScope s_law) "added" = true := by kernel_rfl
theorem g_law_by_digits : glB (defScope s_law) "by_digits" = true := by kernel_rfl
theorem g_law_code_of : glB (defScope s_law) "code_of" = true := by kernel_rfl
theorem g_law_digits : glB (defScope s_law) "digits" = true := by kernel_rfl
theorem g_law_from_digits : glB (defScope s_law) "from_digits" = true := by kernel_rfl
theorem gb_law_int : bltB (defScope s_law) "int" = true := by kernel_rfl
theorem gb_law_len : bltB (defScope s_law) "len" = true := by kernel_rfl
theorem g_law_meaning : glB (defScope s_law) "meaning" = true := by kernel_rfl
theorem gb_law_range : bltB (defScope s_law) "range" = true := by kernel_rfl
theorem g_law_sparse : glB (defScope s_law) "sparse" = true := by kernel_rfl
theorem g_law_taken_off : glB (defScope s_law) "taken_off" = true := by kernel_rfl
theorem gb_law_tuple : bltB (defScope s_law) "tuple" = true := by kernel_rfl
theorem g_law_widened : glB (defScope s_law) "widened" = true := by kernel_rfl
theorem r_law (h : CxW Γ lo E X n_law (defScope s_law) (fun _ => true)) (T : Tx Γ lo k) : PSs X (defBody s_law) (tSS Γ.g E k c_law) := by
  unfold c_law
  exact (ss_cons (w_set (i := 1) h s_law_1 (w_call h T.f_law_begin g_law_law_begin (sa_cons (v_law_0 h) sa_nil rfl) rfl rfl) rfl) (ss_cons (w_set (i := 2) h s_law_2 (se_op (opd_add h.pK) se_int (w_call h T.f_law_take g_law_law_take (sa_cons (v_law_1 h) (sa_cons se_int sa_nil rfl) rfl) rfl rfl)) rfl) (ss_cons (ss_if (st_cmp (opd_eq h.pK h.u64) (w_call h T.f_law_take g_law_law_take (sa_cons (v_law_1 h) (sa_cons se_int sa_nil rfl) rfl) rfl rfl) se_int rfl bl_eq) (ss_cons (w_set (i := 2) h s_law_2 se_int rfl) ss_nil) ss_nil) (ss_cons (w_set (i := 3) h s_law_3 (w_call h T.f_law_raise g_law_law_raise (sa_cons (v_law_2 h) sa_nil rfl) rfl rfl) rfl) (ss_cons (w_set (i := 4) h s_law_4 (se_op (opd_mod) (w_int h (sa_cons (se_op (opd_add h.pK) (se_op (opd_mul h.pK) (w_call h T.f_law_take g_law_law_take (sa_cons (v_law_1 h) (sa_cons se_int sa_nil rfl) rfl) rfl rfl) se_int) (w_call h T.f_law_take g_law_law_take (sa_cons (v_law_1 h) (sa_cons se_int sa_nil rfl) rfl) rfl rfl)) sa_nil rfl) rfl rfl gb_law_int T.b_int) (v_law_3 h)) rfl) (ss_cons (w_set (i := 5) h s_law_5 (se_op (opd_mod) (w_int h (sa_cons (se_op (opd_add h.pK) (se_op (opd_mul h.pK) (w_call h T.f_law_take g_law_law_take (sa_cons (v_law_1 h) (sa_cons se_int sa_nil rfl) rfl) rfl rfl) se_int) (w_call h T.f_law_take g_law_law_take (sa_cons (v_law_1 h) (sa_cons se_int sa_nil rfl) rfl) rfl rfl)) sa_nil rfl) rfl rfl gb_law_int T.b_int) (v_law_3 h)) rfl) (ss_cons (w_set (i := 6) h s_law_6 (w_call h T.f_law_mean g_law_law_mean (sa_cons (v_law_2 h) (sa_cons (v_law_4 h) sa_nil rfl) rfl) rfl rfl) rfl) (ss_cons (w_set (i := 7) h s_law_7 (w_call h T.f_law_mean g_law_law_mean (sa_cons (v_law_2 h) (sa_cons (v_law_5 h) sa_nil rfl) rfl) rfl rfl) rfl) (ss_cons (ss_if (sw_or (st_cmp (opd_ne h.pK h.u64) (w_call h T.f_meaning g_law_meaning (sa_cons (v_law_2 h) (sa_cons (v_law_4 h) sa_nil rfl) rfl) rfl rfl) (v_law_6 h) rfl bl_ne) (sw_or (st_cmp (opd_ne h.pK h.u64) (w_call h T.f_code_of g_law_code_of (sa_cons (v_law_2 h) (sa_cons (v_law_6 h) sa_nil rfl) rfl) rfl rfl) (v_law_4 h) rfl bl_ne) (sw_or1 (st_cmp (opd_isnot) (w_call h T.f_code_of g_law_code_of (sa_cons (v_law_2 h) (sa_cons (se_op (opd_add h.pK) (v_law_6 h) (v_law_3 h)) sa_nil rfl) rfl) rfl rfl) se_none rfl bl_isnot)))).pt (ss_cons (ss_ret se_bool) ss_nil) ss_nil) (ss_cons (w_set (i := 8) h s_law_8 (se_op (opd_sub) (w_call h T.f_law_take g_law_law_take (sa_cons (v_law_1 h) (sa_cons se_int sa_nil rfl) rfl) rfl rfl) se_int) rfl) (ss_cons (w_set (i := 9) h s_law_9 (se_and h.pK (se_cmp (opd_lt) (se_op (opd_mul h.pK) se_int (v_law_8 h)) (v_law_3 h) rfl) (pe_one (se_cmp (opd_ge) (se_op (opd_mul h.pK) se_int (v_law_8 h)) (se_op (opd_sub) se_int (v_law_3 h)) rfl))) rfl) (ss_cons (ss_if (st_cmp (opd_ne h.pK h.u64) (w_call h T.f_code_of g_law_code_of (sa_cons (v_law_2 h) (sa_cons (v_law_8 h) sa_nil rfl) rfl) rfl rfl) (se_if (st_plain h.pK (v_law_9 h) (fun _ => rfl)) (se_op (opd_mod) (w_int h (sa_cons (v_law_8 h) sa_nil rfl) rfl rfl gb_law_int T.b_int) (v_law_3 h)) se_none) rfl bl_ne) (ss_cons (ss_ret se_bool) ss_nil) ss_nil) (ss_cons (w_set (i := 10) h s_law_10 (se_op (opd_add h.pK) (v_law_2 h) (w_call h T.f_law_take g_law_law_take (sa_cons (v_law_1 h) (sa_cons (se_op (opd_sub) se_int (v_law_2 h)) sa_nil rfl) rfl) rfl rfl)) rfl) (ss_cons (ss_if (st_cmp (opd_ne h.pK h.u64) (w_call h T.f_law_mean g_law_law_mean (sa_cons (v_law_10 h) (sa_cons (w_call h T.f_widened g_law_widened (sa_cons (v_law_2 h) (sa_cons (v_law_4 h) (sa_cons (v_law_10 h) sa_nil rfl) rfl) rfl) rfl rfl) sa_nil rfl) rfl) rfl rfl) (v_law_6 h) rfl bl_ne) (ss_cons (ss_ret se_bool) ss_nil) ss_nil) (ss_cons (w_for h (si_seq h.pK (se_lst (sa_cons (se_tup (sa_cons (w_call h T.f_added g_law_added (sa_cons (v_law_2 h) (sa_cons (v_law_4 h) (sa_cons (v_law_5 h) sa_nil rfl) rfl) rfl) rfl rfl) (sa_cons (se_op (opd_add h.pK) (v_law_6 h) (v_law_7 h)) (sa_cons (w_int h (sa_cons (se_cmp (opd_ge) (se_op (opd_add h.pK) (v_law_4 h) (v_law_5 h)) (v_law_3 h) rfl) sa_nil rfl) rfl rfl gb_law_int T.b_int) sa_nil rfl) rfl) rfl)) (sa_cons (se_tup (sa_cons (w_call h T.f_taken_off g_law_taken_off (sa_cons (v_law_2 h) (sa_cons (v_law_4 h) (sa_cons (v_law_5 h) sa_nil rfl) rfl) rfl) rfl rfl) (sa_cons (se_op (opd_sub) (v_law_6 h) (v_law_7 h)) (sa_cons (w_int h (sa_cons (se_cmp (opd_ge) (v_law_4 h) (v_law_5 h) rfl) sa_nil rfl) rfl rfl gb_law_int T.b_int) sa_nil rfl) rfl) rfl)) sa_nil rfl) rfl))) (sg_tup h.pK h.calm (sgs_cons (w_name (i := 14) h s_law_14) (sgs_cons (w_name (i := 15) h s_law_15) (sgs_cons (w_name (i := 16) h s_law_16) sgs_nil rfl) rfl) rfl) rfl rfl) (tok_tup (tsok_cons tok_name (tsok_cons tok_name (tsok_cons tok_name tsok_nil)))) (ss_cons (w_set (i := 17) h s_law_17 (se_op (opd_mod) (w_int h (sa_cons (v_law_15 h) sa_nil rfl) rfl rfl gb_law_int T.b_int) (v_law_3 h)) rfl) (ss_cons (ss_if (st_cmp (opd_ne h.pK h.u64) (v_law_14 h) (se_tup (sa_cons (v_law_17 h) (sa_cons (se_tup (sa_cons (v_law_16 h) (sa_cons (w_int h (sa_cons (se_cmp (opd_ne h.pK h.u64) (w_call h T.f_law_mean g_law_law_mean (sa_cons (v_law_2 h) (sa_cons (v_law_17 h) sa_nil rfl) rfl) rfl rfl) (v_law_15 h) rfl) sa_nil rfl) rfl rfl gb_law_int T.b_int) (sa_cons (w_int h (sa_cons (se_cmp (opd_ge) (se_op (opd_mul h.pK) se_int (v_law_17 h)) (v_law_3 h) rfl) sa_nil rfl) rfl rfl gb_law_int T.b_int) (sa_cons (w_int h (sa_cons (se_cmp (opd_eq h.pK h.u64) (v_law_17 h) se_int rfl) sa_nil rfl) rfl rfl gb_law_int T.b_int) sa_nil rfl) rfl) rfl) rfl)) sa_nil rfl) rfl)) rfl bl_ne) (ss_cons (ss_ret se_bool) ss_nil) ss_nil) ss_nil)) (fun _ => rfl)) (ss_cons (w_set (i := 11) h s_law_11 (w_call h T.f_digits g_law_digits (sa_cons (v_law_2 h) (sa_cons (v_law_4 h) sa_nil rfl) rfl) rfl rfl) rfl) (ss_cons (w_setCl (i := 12) h s_law_12 (w_comp h [("k", 18)] (by kernel_rfl) (w_r1 h T.b_range gb_law_range (sa_cons (v_law_2 h) sa_nil rfl) rfl) (cg_name (by decide)) (fun Y hb => (w_nameC (i := 18) hb (by kernel_rfl))) (fun Y hb => (se_op (opd_mod) (w_int hb (sa_cons (se_op (opd_div) (w_var (i := 4) hb (by kernel_rfl)) (w_call hb T.f_law_raise (by kernel_rfl) (sa_cons (w_var (i := 18) hb (by kernel_rfl)) sa_nil rfl) rfl rfl)) sa_nil rfl) rfl rfl (by kernel_rfl) T.b_int) se_int)) (fun _ => rfl)) (by kernel_rfl)) (ss_cons (ss_if (sw_or (st_cmp (opd_ne h.pK h.u64) (v_law_11 h) (w_tuple h (sa_cons (w_comp h [("k", 18)] (by kernel_rfl) (w_r1 h T.b_range gb_law_range (sa_cons (v_law_2 h) sa_nil rfl) rfl) (cg_name (by decide)) (fun Y hb => (w_nameC (i := 18) hb (by kernel_rfl))) (fun Y hb => (se_op (opd_sub) (se_if (st_cmp (opd_gt) (w_var (i := 18) hb (by kernel_rfl)) se_int rfl bl_gt) (se_ix hb.pK hb.u65 (w_var (i := 12) hb (by kernel_rfl)) (se_op (opd_sub) (w_var (i := 18) hb (by kernel_rfl)) se_int) (fun _ _ => rfl)) se_int) (se_ix hb.pK hb.u65 (w_var (i := 12) hb (by kernel_rfl)) (w_var (i := 18) hb (by kernel_rfl)) (fun _ _ => rfl)))) (fun _ => rfl)) sa_nil rfl) rfl rfl gb_law_tuple T.b_tuple) rfl bl_ne) (sw_or1 (st_cmp (opd_ne h.pK h.u64) (w_call h T.f_from_digits g_law_from_digits (sa_cons (v_law_11 h) sa_nil rfl) rfl rfl) (v_law_6 h) rfl bl_ne))).pt (ss_cons (ss_ret se_bool) ss_nil) ss_nil) (ss_cons (w_set (i := 13) h s_law_13 (w_call h T.f_sparse g_law_sparse (sa_cons (v_law_2 h) (sa_cons (v_law_4 h) sa_nil rfl) rfl) rfl rfl) rfl) (ss_cons (ss_if (sw_or (st_cmp (opd_ne h.pK h.u64) (w_call h T.f_from_digits g_law_from_digits (sa_cons (v_law_13 h) sa_nil rfl) rfl rfl) (v_law_6 h) rfl bl_ne) (sw_or (sw_and (st_cmp (opd_gt) (w_len h (sa_cons (v_law_13 h) sa_nil rfl) rfl rfl gb_law_len T.b_len) se_int rfl bl_gt) (sw_and1 (st_cmp (opd_eq h.pK h.u64) (se_ix h.pK h.u65 (v_law_13 h) (se_neg se_int) (fun _ _ => rfl)) se_int rfl bl_eq))).pt (sw_or1 (st_cmp (opd_gt) (w_len h (sa_cons (w_compQ h [("k", 18)] (by kernel_rfl) (w_r2 h T.b_range gb_law_range (sa_cons se_int (sa_cons (w_len h (sa_cons (v_law_13 h) sa_nil rfl) rfl rfl gb_law_len T.b_len) sa_nil rfl) rfl) rfl rfl) (cg_name (by decide)) (fun Y hb => (w_nameC (i := 18) hb (by kernel_rfl))) (fun Y hb => (sw_and (st_cmp (opd_ne hb.pK hb.u64) (se_ix hb.pK hb.u65 (w_var (i := 13) hb (by kernel_rfl)) (w_var (i := 18) hb (by kernel_rfl)) (fun _ _ => rfl)) se_int rfl bl_ne) (sw_and1 (st_cmp (opd_ne hb.pK hb.u64) (se_ix hb.pK hb.u65 (w_var (i := 13) hb (by kernel_rfl)) (se_op (opd_sub) (w_var (i := 18) hb (by kernel_rfl)) se_int) (fun _ _ => rfl)) se_int rfl bl_ne))).pt) (fun Y hb => (w_var (i := 18) hb (by kernel_rfl))) (fun _ => rfl)) sa_nil rfl) rfl rfl gb_law_len T.b_len) se_int rfl bl_gt)))).pt (ss_cons (ss_ret se_bool) ss_nil) ss_nil) (ss_cons (ss_if (sw_and (st_cmp (opd_le) (v_law_2 h) se_int rfl bl_le) (sw_and1 (st_cmp (opd_ne h.pK h.u64) (w_len h (sa_cons (w_compQ h [("digit", 19)] (by kernel_rfl) (si_seq h.pK (v_law_13 h)) (cg_name (by decide)) (fun Y hb => (w_nameC (i := 19) hb (by kernel_rfl))) (fun Y hb => (st_cmp (opd_ne hb.pK hb.u64) (w_var (i := 19) hb (by kernel_rfl)) se_int rfl bl_ne)) (fun Y hb => (w_var (i := 19) hb (by kernel_rfl))) (fun _ => rfl)) sa_nil rfl) rfl rfl gb_law_len T.b_len) (w_call h T.f_law_fewest g_law_law_fewest (sa_cons (v_law_6 h) (sa_cons (se_op (opd_add h.pK) (v_law_2 h) se_int) sa_nil rfl) rfl) rfl rfl) rfl bl_ne))).pt (ss_cons (ss_ret se_bool) ss_nil) ss_nil) (ss_cons (ss_if (st_cmp (opd_ne h.pK h.u64) (w_call h T.f_by_digits g_law_by_digits (sa_cons (v_law_2 h) (sa_cons (v_law_4 h) (sa_cons (v_law_5 h) sa_nil rfl) rfl) rfl) rfl rfl) (se_tup (sa_cons (se_op (opd_mul h.pK) (v_law_6 h) (v_law_7 h)) (sa_cons (w_len h (sa_cons (w_compQ h [("digit", 19)] (by kernel_rfl) (si_seq h.pK (w_call h T.f_digits g_law_digits (sa_cons (v_law_2 h) (sa_cons (v_law_5 h) sa_nil rfl) rfl) rfl rfl)) (cg_name (by decide)) (fun Y hb => (w_nameC (i := 19) hb (by kernel_rfl))) (fun Y hb => (st_cmp (opd_ne hb.pK hb.u64) (w_var (i := 19) hb (by kernel_rfl)) se_int rfl bl_ne)) (fun Y hb => (w_var (i := 19) hb (by kernel_rfl))) (fun _ => rfl)) sa_nil rfl) rfl rfl gb_law_len T.b_len) sa_nil rfl) rfl)) rfl bl_ne) (ss_cons (ss_ret se_bool) ss_nil) ss_nil) (ss_cons (ss_ret (w_call h T.f_law_part1 g_law_law_part1 (sa_cons (v_law_1 h) (sa_cons (v_law_2 h) (sa_cons (v_law_4 h) (sa_cons (v_law_5 h) (sa_cons (v_law_12 h) sa_nil rfl) rfl) rfl) rfl) rfl) rfl rfl)) ss_nil)))))))))))))))))))))))
end
/-! ### the head -/
abbrev s_init : Stmt := inClass (top 1) 0
abbrev s_told : Stmt := top 26
def d_power_of : He.DefD := ⟨("power_of", none), "power_of", "power_of", defArgs s_power_of, defBody s_power_of, defScope s_power_of, [], []⟩
def d_check : He.DefD := ⟨("check", none), "check", "check", defArgs s_check, defBody s_check, defScope s_check, [], []⟩
def d_check_code : He.DefD := ⟨("check_code", none), "check_code", "check_code", defArgs s_check_code, defBody s_check_code, defScope s_check_code, [], []⟩
def d_meaning : He.DefD := ⟨("meaning", none), "meaning", "meaning", defArgs s_meaning, defBody s_meaning, defScope s_meaning, [], []⟩
def d_code_of : He.DefD := ⟨("code_of", none), "code_of", "code_of", defArgs s_code_of, defBody s_code_of, defScope s_code_of, [], []⟩
def d_widened : He.DefD := ⟨("widened", none), "widened", "widened", defArgs s_widened, defBody s_widened, defScope s_widened, [], []⟩
def d_added : He.DefD := ⟨("added", none), "added", "added", defArgs s_added, defBody s_added, defScope s_added, [], []⟩
def d_taken_off : He.DefD := ⟨("taken_off", none), "taken_off", "taken_off", defArgs s_taken_off, defBody s_taken_off, defScope s_taken_off, [], []⟩
def d_digits : He.DefD := ⟨("digits", none), "digits", "digits", defArgs s_digits, defBody s_digits, defScope s_digits, [], []⟩
def d_sparse : He.DefD := ⟨("sparse", none), "sparse", "sparse", defArgs s_sparse, defBody s_sparse, defScope s_sparse, [], []⟩
def d_from_digits : He.DefD := ⟨("from_digits", none), "from_digits", "from_digits", defArgs s_from_digits, defBody s_from_digits, defScope s_from_digits, [], []⟩
def d_by_digits : He.DefD := ⟨("by_digits", none), "by_digits", "by_digits", defArgs s_by_digits, defBody s_by_digits, defScope s_by_digits, [], []⟩
def d_divided : He.DefD := ⟨("divided", none), "divided", "divided", defArgs s_divided, defBody s_divided, defScope s_divided, [], []⟩
def d_divided_both : He.DefD := ⟨("divided_both", none), "divided_both", "divided_both", defArgs s_divided_both, defBody s_divided_both, defScope s_divided_both, [], []⟩
def d_saved : He.DefD := ⟨("saved", none), "saved", "saved", defArgs s_saved, defBody s_saved, defScope s_saved, [], []⟩
def d_summed : He.DefD := ⟨("summed", none), "summed", "summed", defArgs s_summed, defBody s_summed, defScope s_summed, [], []⟩
def d_root_of : He.DefD := ⟨("root_of", none), "root_of", "root_of", defArgs s_root_of, defBody s_root_of, defScope s_root_of, [], []⟩
def d_turned_bits : He.DefD := ⟨("turned_bits", none), "turned_bits", "turned_bits", defArgs s_turned_bits, defBody s_turned_bits, defScope s_turned_bits, [], []⟩
def d_counts : He.DefD := ⟨("counts", none), "counts", "counts", defArgs s_counts, defBody s_counts, defScope s_counts, [], []⟩
def d_law_begin : He.DefD := ⟨("_law_begin", none), "_law_begin", "_law_begin", defArgs s_law_begin, defBody s_law_begin, defScope s_law_begin, [], []⟩
def d_law_take : He.DefD := ⟨("_law_take", none), "_law_take", "_law_take", defArgs s_law_take, defBody s_law_take, defScope s_law_take, [], []⟩
def d_law_raise : He.DefD := ⟨("_law_raise", none), "_law_raise", "_law_raise", defArgs s_law_raise, defBody s_law_raise, defScope s_law_raise, [], []⟩
def d_law_mean : He.DefD := ⟨("_law_mean", none), "_law_mean", "_law_mean", defArgs s_law_mean, defBody s_law_mean, defScope s_law_mean, [], []⟩
def d_law_fewest : He.DefD := ⟨("_law_fewest", none), "_law_fewest", "_law_fewest", defArgs s_law_fewest, defBody s_law_fewest, defScope s_law_fewest, [], []⟩
def d_law_wrong : He.DefD := ⟨("_law_wrong", none), "_law_wrong", "_law_wrong", defArgs s_law_wrong, defBody s_law_wrong, defScope s_law_wrong, [], []⟩
def d_law_part1 : He.DefD := ⟨("_law_part1", none), "_law_part1", "_law_part1", defArgs s_law_part1, defBody s_law_part1, defScope s_law_part1, [], []⟩
def d_law : He.DefD := ⟨("law", none), "law", "law", defArgs s_law, defBody s_law, defScope s_law, [], []⟩
def d_law_told : He.DefD := ⟨("_law_told", none), "_law_told", "_law_told", defArgs s_told, defBody s_told, defScope s_told, [], []⟩
def fnl : List He.DefD := [d_power_of, d_check, d_check_code, d_meaning, d_code_of, d_widened, d_added, d_taken_off, d_digits, d_sparse, d_from_digits, d_by_digits, d_divided, d_divided_both, d_saved, d_summed, d_root_of, d_turned_bits, d_counts, d_law_begin, d_law_take, d_law_raise, d_law_mean, d_law_fewest, d_law_wrong, d_law_part1, d_law, d_law_told]
def fal : List He.Fa := [.glo "power_of", .glo "check", .glo "check_code", .glo "meaning", .glo "code_of", .glo "widened", .glo "added", .glo "taken_off", .glo "digits", .glo "sparse", .glo "from_digits", .glo "by_digits", .glo "divided", .glo "divided_both", .glo "saved", .glo "summed", .glo "root_of", .glo "turned_bits", .glo "counts", .glo "_law_begin", .glo "_law_take", .glo "_law_raise", .glo "_law_mean", .glo "_law_fewest", .glo "_law_wrong", .glo "_law_part1", .glo "law", .glo "_law_told", .glo "MachineError", .free "super", .free "abs", .free "all", .free "dict", .free "enumerate", .free "int", .free "len", .free "list", .free "max", .free "min", .free "range", .free "sum", .free "tuple", .int "MOST_BITS" 32]
def tfl : List He.Defn := [("_law_wrong", none)]
abbrev RR : PySem.W.OpenRow := PySem.W.OpenLaw.row PySem.Challenge.rw_machinehall_k24_whole_figures
def exF (K : PySem.W.Frag) : Bool := errB PySem.Challenge.pw_machinehall_k24_whole_figures.main.file K && decide ((tfl.map fun p => (He.cT K p).2).Nodup)
abbrev hkK : PySem.W.Hook := hookY 5 fal fnl tfl s_init exF
def obK (s : PySem.W.SharedT) : AlY := obsY 5 fal fnl tfl exF (HandSHeadRun.getT s)
theorem ob_eq (s : PySem.W.SharedT) : obK s = hkK.obs s.abs := obsY_eq (HandSHeadRun.getT_eq s)
def others : List Str := ["__name__", "MachineError", "MOST_BITS", "power_of", "check", "check_code", "meaning", "code_of", "widened", "added", "taken_off", "digits", "sparse", "from_digits", "by_digits", "divided", "divided_both", "saved", "summed", "root_of", "turned_bits", "counts", "_law_begin", "_law_take", "_law_told", "_law_raise", "_law_mean", "_law_fewest", "_law_wrong", "_law_part1"]
theorem run (w : World) : HandSHeadRun.RunEq RR (PySem.W.view RR.prog [32]) hkK obK 4000 others w := by
  intro os
  kernel_rfl
theorem sc_power_of : FnScope n_power_of ["number"] (defScope s_power_of) := ⟨rfl, rfl, rfl, by decide +kernel, rfl, by decide +kernel, by decide +kernel⟩
theorem sc_check : FnScope n_check ["bits"] (defScope s_check) := ⟨rfl, rfl, rfl, by decide +kernel, rfl, by decide +kernel, by decide +kernel⟩
theorem sc_check_code : FnScope n_check_code ["bits", "code"] (defScope s_check_code) := ⟨rfl, rfl, rfl, by decide +kernel, rfl, by decide +kernel, by decide +kernel⟩
theorem sc_meaning : FnScope n_meaning ["bits", "code"] (defScope s_meaning) := ⟨rfl, rfl, rfl, by decide +kernel, rfl, by decide +kernel, by decide +kernel⟩
theorem sc_code_of : FnScope n_code_of ["bits", "number"] (defScope s_code_of) := ⟨rfl, rfl, rfl, by decide +kernel, rfl, by decide +kernel, by decide +kernel⟩
theorem sc_widened : FnScope n_widened ["bits", "code", "more"] (defScope s_widened) := ⟨rfl, rfl, rfl, by decide +kernel, rfl, by decide +kernel, by decide +kernel⟩
theorem sc_added : FnScope n_added ["bits", "one", "other"] (defScope s_added) := ⟨rfl, rfl, rfl, by decide +kernel, rfl, by decide +kernel, by decide +kernel⟩
theorem sc_taken_off : FnScope n_taken_off ["bits", "one", "other"] (defScope s_taken_off) := ⟨rfl, rfl, rfl, by decide +kernel, rfl, by decide +kernel, by decide +kernel⟩
theorem sc_digits : FnScope n_digits ["bits", "code"] (defScope s_digits) := ⟨rfl, rfl, rfl, by decide +kernel, rfl, by decide +kernel, by decide +kernel⟩
theorem sc_sparse : FnScope n_sparse ["bits", "code"] (defScope s_sparse) := ⟨rfl, rfl, rfl, by decide +kernel, rfl, by decide +kernel, by decide +kernel⟩
theorem sc_from_digits : FnScope n_from_digits ["row"] (defScope s_from_digits) := ⟨rfl, rfl, rfl, by decide +kernel, rfl, by decide +kernel, by decide +kernel⟩
theorem sc_by_digits : FnScope n_by_digits ["bits", "one", "other"] (defScope s_by_digits) := ⟨rfl, rfl, rfl, by decide +kernel, rfl, by decide +kernel, by decide +kernel⟩
theorem sc_divided : FnScope n_divided ["bits", "one", "other"] (defScope s_divided) := ⟨rfl, rfl, rfl, by decide +kernel, rfl, by decide +kernel, by decide +kernel⟩
theorem sc_divided_both : FnScope n_divided_both ["bits", "one", "other"] (defScope s_divided_both) := ⟨rfl, rfl, rfl, by decide +kernel, rfl, by decide +kernel, by decide +kernel⟩
theorem sc_saved : FnScope n_saved ["rows"] (defScope s_saved) := ⟨rfl, rfl, rfl, by decide +kernel, rfl, by decide +kernel, by decide +kernel⟩
theorem sc_summed : FnScope n_summed ["rows"] (defScope s_summed) := ⟨rfl, rfl, rfl, by decide +kernel, rfl, by decide +kernel, by decide +kernel⟩
theorem sc_root_of : FnScope n_root_of ["number"] (defScope s_root_of) := ⟨rfl, rfl, rfl, by decide +kernel, rfl, by decide +kernel, by decide +kernel⟩
theorem sc_turned_bits : FnScope n_turned_bits ["bits", "code"] (defScope s_turned_bits) := ⟨rfl, rfl, rfl, by decide +kernel, rfl, by decide +kernel, by decide +kernel⟩
theorem sc_counts : FnScope n_counts ["bits", "code"] (defScope s_counts) := ⟨rfl, rfl, rfl, by decide +kernel, rfl, by decide +kernel, by decide +kernel⟩
theorem sc_law_begin : FnScope n_law_begin ["script"] (defScope s_law_begin) := ⟨rfl, rfl, rfl, by decide +kernel, rfl, by decide +kernel, by decide +kernel⟩
theorem sc_law_take : FnScope n_law_take ["d", "many"] (defScope s_law_take) := ⟨rfl, rfl, rfl, by decide +kernel, rfl, by decide +kernel, by decide +kernel⟩
theorem sc_law_raise : FnScope n_law_raise ["times"] (defScope s_law_raise) := ⟨rfl, rfl, rfl, by decide +kernel, rfl, by decide +kernel, by decide +kernel⟩
theorem sc_law_mean : FnScope n_law_mean ["bits", "code"] (defScope s_law_mean) := ⟨rfl, rfl, rfl, by decide +kernel, rfl, by decide +kernel, by decide +kernel⟩
theorem sc_law_fewest : FnScope n_law_fewest ["number", "most"] (defScope s_law_fewest) := ⟨rfl, rfl, rfl, by decide +kernel, rfl, by decide +kernel, by decide +kernel⟩
theorem sc_law_wrong : FnScope n_law_wrong [] (defScope s_law_wrong) := ⟨rfl, rfl, rfl, by decide +kernel, rfl, by decide +kernel, by decide +kernel⟩
theorem sc_law_part1 : FnScope n_law_part1 ["d", "bits", "one", "other", "due"] (defScope s_law_part1) := ⟨rfl, rfl, rfl, by decide +kernel, rfl, by decide +kernel, by decide +kernel⟩
theorem sc_law : FnScope n_law ["script"] (defScope s_law) := ⟨rfl, rfl, rfl, by decide +kernel, rfl, by decide +kernel, by decide +kernel⟩
section
variable {w : World} {mg : Str → Option Value} {base h : Heap} {K : PySem.W.Frag}
def TTb (K : PySem.W.Frag) : List (Addr × Str) := tfl.map fun p => ((He.cT K p).2, p.1 ++ ".<locals>." ++ "<lambda>")
abbrev G0 (w : World) (mg : Str → Option Value) (base : Heap) (K : PySem.W.Frag) : W0 := ⟨PySem.Challenge.pw_machinehall_k24_whole_figures, w, mg, base, ⟨exA K, K, TTb K, []⟩⟩
variable (X : K.In h) (G : h.Ns mainGlobals mg) (c : SaysY fal fnl tfl s_init exF h K) (hT : ∀ p ∈ tfl.map (He.cT K), LamX.TabB base mg p.1 p.2)
include X G c
theorem df_power_of : DF (G0 w mg base K) "power_of" s_power_of n_power_of ["number"] := by
  obtain ⟨fd, F⟩ := c.d.def_ 0 (d := d_power_of) rfl
  exact df_of F (He.glo_ok X G (c.d.fact 0 (f := .glo "power_of") rfl)) sc_power_of (fun _ _ _ _ _ _ us hl => match us, hl with | [_], _ => rfl)
theorem df_check : DF (G0 w mg base K) "check" s_check n_check ["bits"] := by
  obtain ⟨fd, F⟩ := c.d.def_ 1 (d := d_check) rfl
  exact df_of F (He.glo_ok X G (c.d.fact 1 (f := .glo "check") rfl)) sc_check (fun _ _ _ _ _ _ us hl => match us, hl with | [_], _ => rfl)
theorem df_check_code : DF (G0 w mg base K) "check_code" s_check_code n_check_code ["bits", "code"] := by
  obtain ⟨fd, F⟩ := c.d.def_ 2 (d := d_check_code) rfl
  exact df_of F (He.glo_ok X G (c.d.fact 2 (f := .glo "check_code") rfl)) sc_check_code (fun _ _ _ _ _ _ us hl => match us, hl with | [_, _], _ => rfl)
theorem df_meaning : DF (G0 w mg base K) "meaning" s_meaning n_meaning ["bits", "code"] := by
  obtain ⟨fd, F⟩ := c.d.def_ 3 (d := d_meaning) rfl
  exact df_of F (He.glo_ok X G (c.d.fact 3 (f := .glo "meaning") rfl)) sc_meaning (fun _ _ _ _ _ _ us hl => match us, hl with | [_, _], _ => rfl)
theorem df_code_of : DF (G0 w mg base K) "code_of" s_code_of n_code_of ["bits", "number"] := by
  obtain ⟨fd, F⟩ := c.d.def_ 4 (d := d_code_of) rfl
  exact df_of F (He.glo_ok X G (c.d.fact 4 (f := .glo "code_of") rfl)) sc_code_of (fun _ _ _ _ _ _ us hl => match us, hl with | [_, _], _ => rfl)
theorem df_widened : DF (G0 w mg base K) "widened" s_widened n_widened ["bits", "code", "more"] := by
  obtain ⟨fd, F⟩ := c.d.def_ 5 (d := d_widened) rfl
  exact df_of F (He.glo_ok X G (c.d.fact 5 (f := .glo "widened") rfl)) sc_widened (fun _ _ _ _ _ _ us hl => match us, hl with | [_, _, _], _ => rfl)
theorem df_added : DF (G0 w mg base K) "added" s_added n_added ["bits", "one", "other"] := by
  obtain ⟨fd, F⟩ := c.d.def_ 6 (d := d_added) rfl
  exact df_of F (He.glo_ok X G (c.d.fact 6 (f := .glo "added") rfl)) sc_added (fun _ _ _ _ _ _ us hl => match us, hl with | [_, _, _], _ => rfl)
theorem df_taken_off : DF (G0 w mg base K) "taken_off" s_taken_off n_taken_off ["bits", "one", "other"] := by
  obtain ⟨fd, F⟩ := c.d.def_ 7 (d := d_taken_off) rfl
  exact df_of F (He.glo_ok X G (c.d.fact 7 (f := .glo "taken_off") rfl)) sc_taken_off (fun _ _ _ _ _ _ us hl => match us, hl with | [_, _, _], _ => rfl)
theorem df_digits : DF (G0 w mg base K) "digits" s_digits n_digits ["bits", "code"] := by
  obtain ⟨fd, F⟩ := c.d.def_ 8 (d := d_digits) rfl
  exact df_of F (He.glo_ok X G (c.d.fact 8 (f := .glo "digits") rfl)) sc_digits (fun _ _ _ _ _ _ us hl => match us, hl with | [_, _], _ => rfl)
theorem df_sparse : DF (G0 w mg base K) "sparse" s_sparse n_sparse ["bits", "code"] := by
  obtain ⟨fd, F⟩ := c.d.def_ 9 (d := d_sparse) rfl
  exact df_of F (He.glo_ok X G (c.d.fact 9 (f := .glo "sparse") rfl)) sc_sparse (fun _ _ _ _ _ _ us hl => match us, hl with | [_, _], _ => rfl)
theorem df_from_digits : DF (G0 w mg base K) "from_digits" s_from_digits n_from_digits ["row"] := by
  obtain ⟨fd, F⟩ := c.d.def_ 10 (d := d_from_digits) rfl
  exact df_of F (He.glo_ok X G (c.d.fact 10 (f := .glo "from_digits") rfl)) sc_from_digits (fun _ _ _ _ _ _ us hl => match us, hl with | [_], _ => rfl)
theorem df_by_digits : DF (G0 w mg base K) "by_digits" s_by_digits n_by_digits ["bits", "one", "other"] := by
  obtain ⟨fd, F⟩ := c.d.def_ 11 (d := d_by_digits) rfl
  exact df_of F (He.glo_ok X G (c.d.fact 11 (f := .glo "by_digits") rfl)) sc_by_digits (fun _ _ _ _ _ _ us hl => match us, hl with | [_, _, _], _ => rfl)
theorem df_divided : DF (G0 w mg base K) "divided" s_divided n_divided ["bits", "one", "other"] := by
  obtain ⟨fd, F⟩ := c.d.def_ 12 (d := d_divided) rfl
  exact df_of F (He.glo_ok X G (c.d.fact 12 (f := .glo "divided") rfl)) sc_divided (fun _ _ _ _ _ _ us hl => match us, hl with | [_, _, _], _ => rfl)
theorem df_divided_both : DF (G0 w mg base K) "divided_both" s_divided_both n_divided_both ["bits", "one", "other"] := by
  obtain ⟨fd, F⟩ := c.d.def_ 13 (d := d_divided_both) rfl
  exact df_of F (He.glo_ok X G (c.d.fact 13 (f := .glo "divided_both") rfl)) sc_divided_both (fun _ _ _ _ _ _ us hl => match us, hl with | [_, _, _], _ => rfl)
theorem df_saved : DF (G0 w mg base K) "saved" s_saved n_saved ["rows"] := by
  obtain ⟨fd, F⟩ := c.d.def_ 14 (d := d_saved) rfl
  exact df_of F (He.glo_ok X G (c.d.fact 14 (f := .glo "saved") rfl)) sc_saved (fun _ _ _ _ _ _ us hl => match us, hl with | [_], _ => rfl)
theorem df_summed : DF (G0 w mg base K) "summed" s_summed n_summed ["rows"] := by
  obtain ⟨fd, F⟩ := c.d.def_ 15 (d := d_summed) rfl
  exact df_of F (He.glo_ok X G (c.d.fact 15 (f := .glo "summed") rfl)) sc_summed (fun _ _ _ _ _ _ us hl => match us, hl with | [_], _ => rfl)
theorem df_root_of : DF (G0 w mg base K) "root_of" s_root_of n_root_of ["number"] := by
  obtain ⟨fd, F⟩ := c.d.def_ 16 (d := d_root_of) rfl
  exact df_of F (He.glo_ok X G (c.d.fact 16 (f := .glo "root_of") rfl)) sc_root_of (fun _ _ _ _ _ _ us hl => match us, hl with | [_], _ => rfl)
theorem df_turned_bits : DF (G0 w mg base K) "turned_bits" s_turned_bits n_turned_bits ["bits", "code"] := by
  obtain ⟨fd, F⟩ := c.d.def_ 17 (d := d_turned_bits) rfl
  exact df_of F (He.glo_ok X G (c.d.fact 17 (f := .glo "turned_bits") rfl)) sc_turned_bits (fun _ _ _ _ _ _ us hl => match us, hl with | [_, _], _ => rfl)
theorem df_counts : DF (G0 w mg base K) "counts" s_counts n_counts ["bits", "code"] := by
  obtain ⟨fd, F⟩ := c.d.def_ 18 (d := d_counts) rfl
  exact df_of F (He.glo_ok X G (c.d.fact 18 (f := .glo "counts") rfl)) sc_counts (fun _ _ _ _ _ _ us hl => match us, hl with | [_, _], _ => rfl)
theorem df_law_begin : DF (G0 w mg base K) "_law_begin" s_law_begin n_law_begin ["script"] := by
  obtain ⟨fd, F⟩ := c.d.def_ 19 (d := d_law_begin) rfl
  exact df_of F (He.glo_ok X G (c.d.fact 19 (f := .glo "_law_begin") rfl)) sc_law_begin (fun _ _ _ _ _ _ us hl => match us, hl with | [_], _ => rfl)
theorem df_law_take : DF (G0 w mg base K) "_law_take" s_law_take n_law_take ["d", "many"] := by
  obtain ⟨fd, F⟩ := c.d.def_ 20 (d := d_law_take) rfl
  exact df_of F (He.glo_ok X G (c.d.fact 20 (f := .glo "_law_take") rfl)) sc_law_take (fun _ _ _ _ _ _ us hl => match us, hl with | [_, _], _ => rfl)
theorem df_law_raise : DF (G0 w mg base K) "_law_raise" s_law_raise n_law_raise ["times"] := by
  obtain ⟨fd, F⟩ := c.d.def_ 21 (d := d_law_raise) rfl
  exact df_of F (He.glo_ok X G (c.d.fact 21 (f := .glo "_law_raise") rfl)) sc_law_raise (fun _ _ _ _ _ _ us hl => match us, hl with | [_], _ => rfl)
theorem df_law_mean : DF (G0 w mg base K) "_law_mean" s_law_mean n_law_mean ["bits", "code"] := by
  obtain ⟨fd, F⟩ := c.d.def_ 22 (d := d_law_mean) rfl
  exact df_of F (He.glo_ok X G (c.d.fact 22 (f := .glo "_law_mean") rfl)) sc_law_mean (fun _ _ _ _ _ _ us hl => match us, hl with | [_, _], _ => rfl)
theorem df_law_fewest : DF (G0 w mg base K) "_law_fewest" s_law_fewest n_law_fewest ["number", "most"] := by
  obtain ⟨fd, F⟩ := c.d.def_ 23 (d := d_law_fewest) rfl
  exact df_of F (He.glo_ok X G (c.d.fact 23 (f := .glo "_law_fewest") rfl)) sc_law_fewest (fun _ _ _ _ _ _ us hl => match us, hl with | [_, _], _ => rfl)
include hT in
theorem df_law_wrong : DFL (G0 w mg base K) "_law_wrong" s_law_wrong n_law_wrong [] := by
  obtain ⟨fd, F⟩ := c.d.def_ 24 (d := d_law_wrong) rfl
  exact dfl_of (p := ("_law_wrong", none)) F (He.glo_ok X G (c.d.fact 24 (f := .glo "_law_wrong") rfl)) sc_law_wrong (fun _ _ _ _ _ _ us hl => match us, hl with | [], _ => rfl) (hT _ (List.mem_map.mpr ⟨("_law_wrong", none), by decide, rfl⟩)) (List.mem_map.mpr ⟨("_law_wrong", none), by decide, rfl⟩) (tab_name (f := fun p => p.1 ++ ".<locals>." ++ "<lambda>") (of_decide_eq_true (Bool.and_eq_true_iff.mp c.more).2) (p := ("_law_wrong", none)) (by decide))
theorem df_law_part1 : DF (G0 w mg base K) "_law_part1" s_law_part1 n_law_part1 ["d", "bits", "one", "other", "due"] := by
  obtain ⟨fd, F⟩ := c.d.def_ 25 (d := d_law_part1) rfl
  exact df_of F (He.glo_ok X G (c.d.fact 25 (f := .glo "_law_part1") rfl)) sc_law_part1 (fun _ _ _ _ _ _ us hl => match us, hl with | [_, _, _, _, _], _ => rfl)
theorem df_law : DF (G0 w mg base K) "law" s_law n_law ["script"] := by
  obtain ⟨fd, F⟩ := c.d.def_ 26 (d := d_law) rfl
  exact df_of F (He.glo_ok X G (c.d.fact 26 (f := .glo "law") rfl)) sc_law (fun _ _ _ _ _ _ us hl => match us, hl with | [_], _ => rfl)
theorem f_err : ErrW (G0 w mg base K) := ⟨err_of (P := PySem.Challenge.pw_machinehall_k24_whole_figures) (st := s_init) X G rfl (NdefX.nscope_by (by decide +kernel)) rfl ⟨_, rfl, rfl⟩ (fun _ _ _ _ _ _ _ _ us hl => match us, hl with | [_, _], _ => rfl) (by decide +kernel) (Bool.and_eq_true_iff.mp c.more).1 c.init (He.glo_ok X G (c.d.fact 28 (f := .glo "MachineError") rfl)) (He.free_ok X G (c.d.fact 29 (f := .free "super") rfl))⟩
theorem f_told : ToldC (G0 w mg base K) := by
  obtain ⟨fd, F⟩ := c.d.def_ 27 (d := d_law_told) rfl
  obtain ⟨x1, x2, x3⟩ := errB_xf (Bool.and_eq_true_iff.mp c.more).1
  exact told_of (Γ := G0 w mg base K) (st := s_told) F (He.glo_ok X G (c.d.fact 27 (f := .glo "_law_told") rfl)) rfl ⟨rfl, rfl, rfl, by decide +kernel, rfl, by decide +kernel, by decide +kernel⟩ (.inl rfl) rfl rfl (fun _ _ _ _ _ _ us hl => match us, hl with | [_], _ => rfl) x1 x2 (He.glo_ok X G (c.d.fact 28 (f := .glo "MachineError") rfl)) x3
include hT in
theorem tx : ∀ m : Nat, Tx (G0 w mg base K) (3 * m + 2) (callN tab m)
  | 0 => {
      f_power_of := (df_power_of X G c).zero
      f_check := (df_check X G c).zero
      f_check_code := (df_check_code X G c).zero
      f_meaning := (df_meaning X G c).zero
      f_code_of := (df_code_of X G c).zero
      f_widened := (df_widened X G c).zero
      f_added := (df_added X G c).zero
      f_taken_off := (df_taken_off X G c).zero
      f_digits := (df_digits X G c).zero
      f_sparse := (df_sparse X G c).zero
      f_from_digits := (df_from_digits X G c).zero
      f_by_digits := (df_by_digits X G c).zero
      f_divided := (df_divided X G c).zero
      f_divided_both := (df_divided_both X G c).zero
      f_saved := (df_saved X G c).zero
      f_summed := (df_summed X G c).zero
      f_root_of := (df_root_of X G c).zero
      f_turned_bits := (df_turned_bits X G c).zero
      f_counts := (df_counts X G c).zero
      f_law_begin := (df_law_begin X G c).zero
      f_law_take := (df_law_take X G c).zero
      f_law_raise := (df_law_raise X G c).zero
      f_law_mean := (df_law_mean X G c).zero
      f_law_fewest := (df_law_fewest X G c).zero
      f_law_wrong := (df_law_wrong X G c hT).zero
      f_law_part1 := (df_law_part1 X G c).zero
      f_law := (df_law X G c).zero
      b_abs := He.free_ok X G (c.d.fact 30 (f := .free "abs") rfl)
      b_all := He.free_ok X G (c.d.fact 31 (f := .free "all") rfl)
      b_dict := He.free_ok X G (c.d.fact 32 (f := .free "dict") rfl)
      b_enumerate := He.free_ok X G (c.d.fact 33 (f := .free "enumerate") rfl)
      b_int := He.free_ok X G (c.d.fact 34 (f := .free "int") rfl)
      b_len := He.free_ok X G (c.d.fact 35 (f := .free "len") rfl)
      b_list := He.free_ok X G (c.d.fact 36 (f := .free "list") rfl)
      b_max := He.free_ok X G (c.d.fact 37 (f := .free "max") rfl)
      b_min := He.free_ok X G (c.d.fact 38 (f := .free "min") rfl)
      b_range := He.free_ok X G (c.d.fact 39 (f := .free "range") rfl)
      b_sum := He.free_ok X G (c.d.fact 40 (f := .free "sum") rfl)
      b_tuple := He.free_ok X G (c.d.fact 41 (f := .free "tuple") rfl)
      c_MOST_BITS := He.int_ok X G (c.d.fact 42 (f := .int "MOST_BITS" 32) rfl)
      err := f_err X G c
      told := f_told X G c }
  | m + 1 =>
    have T := tx m
    have q : Tx (G0 w mg base K) (3 * m + 2 + 3) (callN tab (m + 1)) := {
      f_power_of := (df_power_of X G c).succ rfl rfl rfl (by omega) fun X E h => r_power_of h T
      f_check := (df_check X G c).succ rfl rfl rfl (by omega) fun X E h => r_check h T
      f_check_code := (df_check_code X G c).succ rfl rfl rfl (by omega) fun X E h => r_check_code h T
      f_meaning := (df_meaning X G c).succ rfl rfl rfl (by omega) fun X E h => r_meaning h T
      f_code_of := (df_code_of X G c).succ rfl rfl rfl (by omega) fun X E h => r_code_of h T
      f_widened := (df_widened X G c).succ rfl rfl rfl (by omega) fun X E h => r_widened h T
      f_added := (df_added X G c).succ rfl rfl rfl (by omega) fun X E h => r_added h T
      f_taken_off := (df_taken_off X G c).succ rfl rfl rfl (by omega) fun X E h => r_taken_off h T
      f_digits := (df_digits X G c).succ rfl rfl rfl (by omega) fun X E h => r_digits h T
      f_sparse := (df_sparse X G c).succ rfl rfl rfl (by omega) fun X E h => r_sparse h T
      f_from_digits := (df_from_digits X G c).succ rfl rfl rfl (by omega) fun X E h => r_from_digits h T
      f_by_digits := (df_by_digits X G c).succ rfl rfl rfl (by omega) fun X E h => r_by_digits h T
      f_divided := (df_divided X G c).succ rfl rfl rfl (by omega) fun X E h => r_divided h T
      f_divided_both := (df_divided_both X G c).succ rfl rfl rfl (by omega) fun X E h => r_divided_both h T
      f_saved := (df_saved X G c).succ rfl rfl rfl (by omega) fun X E h => r_saved h T
      f_summed := (df_summed X G c).succ rfl rfl rfl (by omega) fun X E h => r_summed h T
      f_root_of := (df_root_of X G c).succ rfl rfl rfl (by omega) fun X E h => r_root_of h T
      f_turned_bits := (df_turned_bits X G c).succ rfl rfl rfl (by omega) fun X E h => r_turned_bits h T
      f_counts := (df_counts X G c).succ rfl rfl rfl (by omega) fun X E h => r_counts h T
      f_law_begin := (df_law_begin X G c).succ rfl rfl rfl (by omega) fun X E h => r_law_begin h T
      f_law_take := (df_law_take X G c).succ rfl rfl rfl (by omega) fun X E h => r_law_take h T
      f_law_raise := (df_law_raise X G c).succ rfl rfl rfl (by omega) fun X E h => r_law_raise h T
      f_law_mean := (df_law_mean X G c).succ rfl rfl rfl (by omega) fun X E h => r_law_mean h T
      f_law_fewest := (df_law_fewest X G c).succ rfl rfl rfl (by omega) fun X E h => r_law_fewest h T
      f_law_wrong := (df_law_wrong X G c hT).succ rfl rfl rfl (by omega) fun X E h hL => r_law_wrong h hL T
      f_law_part1 := (df_law_part1 X G c).succ rfl rfl rfl (by omega) fun X E h => r_law_part1 h T
      f_law := (df_law X G c).succ rfl rfl rfl (by omega) fun X E h => r_law h T
      b_abs := He.free_ok X G (c.d.fact 30 (f := .free "abs") rfl)
      b_all := He.free_ok X G (c.d.fact 31 (f := .free "all") rfl)
      b_dict := He.free_ok X G (c.d.fact 32 (f := .free "dict") rfl)
      b_enumerate := He.free_ok X G (c.d.fact 33 (f := .free "enumerate") rfl)
      b_int := He.free_ok X G (c.d.fact 34 (f := .free "int") rfl)
      b_len := He.free_ok X G (c.d.fact 35 (f := .free "len") rfl)
      b_list := He.free_ok X G (c.d.fact 36 (f := .free "list") rfl)
      b_max := He.free_ok X G (c.d.fact 37 (f := .free "max") rfl)
      b_min := He.free_ok X G (c.d.fact 38 (f := .free "min") rfl)
      b_range := He.free_ok X G (c.d.fact 39 (f := .free "range") rfl)
      b_sum := He.free_ok X G (c.d.fact 40 (f := .free "sum") rfl)
      b_tuple := He.free_ok X G (c.d.fact 41 (f := .free "tuple") rfl)
      c_MOST_BITS := He.int_ok X G (c.d.fact 42 (f := .int "MOST_BITS" 32) rfl)
      err := f_err X G c
      told := f_told X G c }
    (show 3 * m + 2 + 3 = 3 * (m + 1) + 2 by omega) ▸ q
end
def fuel : Nat := 60
theorem law_at {l : PySem.W.OpenLaw} (hl : l.prog = PySem.Challenge.pw_machinehall_k24_whole_figures) (main : ∀ (ns : List Int) (s : S) (d : D), ns.length ≤ 63 → (∀ z ∈ ns, Builtin.Int.intBits z ≤ 1048576) → seqOf s d = some (ns.map D.int) → ∃ s2, callN tab (fuel + 1) 26 [] [d] s = .ok (.bl true) s2) {w : World} {mg : Str → Option Value} {fa : Addr} {h : Heap} {K : PySem.W.Frag} (X : K.In h) (G : h.Ns mainGlobals mg) (c : SaysY fal fnl tfl s_init exF h K) (hfa : mg "law" = some (.ref fa)) : LamX.LawAtS l w K (L2.CX PySem.Challenge.pw_machinehall_k24_whole_figures w) (3 * fuel + 2 + 1) 63 "script" mg fa h := by
  obtain ⟨fd, F⟩ := c.d.def_ 26 (d := d_law) rfl
  have e := hfa.symm.trans (He.glo_ok X G (c.d.fact 26 (f := .glo "law") rfl))
  cases e
  refine ⟨fd, tfl.map (He.cT K), spE ⟨exA K, K, TTb K, []⟩ (callN tab (fuel + 1)) 26, fun p hp => ?_, fun p hp => ?_, fun p hp => ?_, fun s v => FunD.bindsA (ps := ["script"]) F (fun _ _ _ _ _ _ us hl => match us, hl with | [_], _ => rfl) s [v] rfl, fun H a ns hn hb hH hS => ?_, fun base Kb Gb TB => ?_⟩
  · obtain ⟨q, hq, rfl⟩ := List.mem_map.mp hp; exact c.empty q hq
  · obtain ⟨q, hq, rfl⟩ := List.mem_map.mp hp; exact c.out q hq
  · obtain ⟨q, hq, rfl⟩ := List.mem_map.mp hp; exact PySem.W.codeHd_of_K X (c.hd q hq)
  · exact sp_law (Γ := G0 w mg h K) hS (tabs_of hH) fun s d hd => main ns s d hn hb hd
  · rw [hl]
    exact fn_ok (Γ := G0 w mg base K) (by omega) rfl rfl rfl (funD_fun F) sc_law fun X1 E h1 => r_law h1 (tx X G c TB fuel)
end KL

set_option maxRecDepth 100000
namespace KL
open PySem Ev
local macro_rules | `(tactic| walk_at "ev") => `(tactic| simp (disch := omega) only [sSeq, sSet, sExpr, sRet, sRetN, sIf, sBrk, sCnt, sRaise, sNil, sAsg, sAug, sPar2, sFor, tName, tTup, tsCons, tsNil, tSub, eVar, eC, eOp, eUn, aNil, aCons, eTup, eLst, eCall, eBlt, gcF, gcE, eNot, eAnd, eOr, eIf, eChain, eTold, eMt, eSl, withPart, iR1, iR2, iR3, iSeq, Ev.iEnum, Res.bnd, Res.bndS, Res.bndA, Res.bndI, Rss.bnd, Rss.bndA, Rss.bndS, Rss.bndI, Itm.bnd, Itm.bndS, Out.bnd, Res.tst, Res.tstS, Res.tstA, gv, sv, tru, al, toRes, C.psh, endG, gOk, bAdd, bSub, uNeg, cLt, cLe, cGt, cGe, iAdd, lenD, intD, absD, if_true, if_false, Bool.false_eq_true, ite_true, ite_false, decide_true, decide_false, Bool.not_true, Bool.not_false, Bool.and_true, Bool.and_false, Bool.true_and, Bool.false_and, Int.zero_sub, and_true, true_and, and_false, false_and, not_true_eq_false, not_false_eq_true, finF_same, fin_same', cEq_int, cNe_int, decide_eq_true_eq, Bool.not_eq_true', decide_eq_false_iff_not, ite_not])

theorem ev_power_of {m : Nat} {B : List Nat} {s : S} (n : Int) (h0 : 0 ≤ n) (h1 : n < 2 ^ 62) : callN tab (m + 1) 0 B [.int n] s = .ok (.int (2 ^ n.toNat)) s := by
  have loop : ∀ (l : List D) (c : C) (a : Int) (x : D), ∃ y, forL true none (tName 2) (sSeq (sAug 1 iMul (eC (.int 2))) sNil) c l [.int n, .int a, x] s = .nx [.int n, .int (a * 2 ^ l.length), y] s := by
    intro l c
    induction l with
    | nil => intro a x; exact ⟨x, by simp [forL]⟩
    | cons i r ih =>
      intro a x
      obtain ⟨y, hy⟩ := ih (a * 2) i
      refine ⟨y, ?_⟩
      rw [forL_cons (ρ2 := [.int n, .int (a * 2), i]) (s2 := s) (turn_name ?_ rfl) rfl, hy, List.length_cons, Int.pow_succ, Int.mul_assoc, Int.mul_comm 2]
      refine seq_go ?_ rfl
      walk_at "ev"
      rw [iMul_ok (mulOk_r (by decide) (by decide))]
  obtain ⟨y, hy⟩ := loop (rngI 0 n.toNat) ⟨callN tab m, s.length :: s.length :: B⟩ 1 .und
  refine run_go (d := .int (2 ^ n.toNat)) (s1 := s) rfl ?_ finF_same
  dsimp only [c_power_of, start0, List.length_cons, List.length_nil, List.replicate, List.cons_append, List.nil_append]
  refine seq_go (set_ok rfl) (seq_go (for_nx (g := none) (s1 := s) (ds := rngI 0 n.toNat) ?_ hy te_same) (seq_rt (ret_ok ?_)))
  · walk_at "ev"
    rw [if_pos (small_of (by omega) h1)]
  · rw [rngI, List.length_map, List.length_range, Int.one_mul]
    rfl

local macro_rules | `(tactic| walk_at "st") => `(tactic| dsimp only [start0, List.length_cons, List.length_nil, List.replicate, List.cons_append, List.nil_append, Nat.reduceSub, Nat.reduceAdd])
theorem pow_le_32 {b : Int} (h0 : 0 ≤ b) (h1 : b ≤ 32) : (2 : Int) ^ b.toNat ≤ 2 ^ 32 := by
  have : (2 : Nat) ^ b.toNat ≤ 2 ^ 32 := Nat.pow_le_pow_right (by decide) (by omega)
  exact_mod_cast this
theorem pow_pos' (n : Nat) : (0 : Int) < 2 ^ n := by
  have : 0 < (2 : Nat) ^ n := Nat.pow_pos (by decide)
  exact_mod_cast this
theorem ev_check {m : Nat} {B : List Nat} {s : S} (b : Int) (h0 : 1 ≤ b) (h1 : b ≤ 32) : callN tab (m + 1) 1 B [.int b] s = .ok .non s := by
  refine (run_nx rfl (ρ1 := [.int b]) (s1 := s) ?_).trans finF_same
  dsimp only [c_check]
  walk_at "st"
  refine seq_go ((if_f (d := .bl false) ?_ rfl).trans rfl) rfl
  walk_at "ev"
  simp [h0, h1]
theorem ev_check_code {m : Nat} {B : List Nat} {s : S} (b x : Int) (h0 : 1 ≤ b) (h1 : b ≤ 32) (h2 : 0 ≤ x) (h3 : x < 2 ^ b.toNat) : callN tab (m + 2) 2 B [.int b, .int x] s = .ok .non s := by
  refine (run_nx rfl (ρ1 := [.int b, .int x]) (s1 := s) ?_).trans finF_same
  dsimp only [c_check_code]
  walk_at "st"
  refine seq_go (expr_ok (d := .non) (s1 := s) ?_) (seq_go ((if_f (d := .bl false) ?_ rfl).trans rfl) rfl)
  · walk_at "ev"
    rw [ev_check b h0 h1]
  · walk_at "ev"
    rw [ev_power_of b (by omega) (by omega)]
    simp [h2, h3]
/-- what a code means -/
def mean (b x : Int) : Int := if 2 ^ (b - 1).toNat ≤ x then x - 2 ^ b.toNat else x
theorem ev_meaning {m : Nat} {B : List Nat} {s : S} (b x : Int) (h0 : 1 ≤ b) (h1 : b ≤ 32) (h2 : 0 ≤ x) (h3 : x < 2 ^ b.toNat) : callN tab (m + 3) 3 B [.int b, .int x] s = .ok (.int (mean b x)) s := by
  refine run_go (d := .int (mean b x)) (s1 := s) rfl ?_ finF_same
  dsimp only [c_meaning]
  walk_at "st"
  refine seq_go (expr_ok (d := .non) (s1 := s) ?_) (seq_rt (ret_ok ?_))
  · walk_at "ev"
    rw [ev_check_code b x h0 h1 h2 h3]
  · walk_at "ev"
    rw [ev_power_of (b - 1) (by omega) (by omega)]
    walk_at "ev"
    unfold mean
    by_cases h : (2 : Int) ^ (b - 1).toNat ≤ x
    · simp only [h, decide_true, if_true]
      rw [ev_power_of b (by omega) (by omega)]
    · simp only [h, decide_false, if_false, Bool.false_eq_true]
theorem ev_code_of {m : Nat} {B : List Nat} {s : S} (b x : Int) (h0 : 1 ≤ b) (h1 : b ≤ 32) : callN tab (m + 2) 4 B [.int b, .int x] s = .ok (if -(2 ^ (b - 1).toNat) ≤ x ∧ x < 2 ^ (b - 1).toNat then .int (x % 2 ^ b.toNat) else .non) s := by
  refine run_go (s1 := s) rfl ?_ finF_same
  dsimp only [c_code_of]
  walk_at "st"
  refine seq_go (expr_ok (d := .non) (s1 := s) ?_) ?_
  · walk_at "ev"
    rw [ev_check b h0 h1]
  · have ht : (eNot (eChain cLe cLt (eOp bSub (eC (.int 0)) (eCall 0 (aCons (eOp bSub (eVar 0) (eC (.int 1))) aNil))) (eVar 1) (eCall 0 (aCons (eOp bSub (eVar 0) (eC (.int 1))) aNil)))) ⟨callN tab (m + 1), s.length :: B⟩ [.int b, .int x] s = .ok (.bl (!decide (-(2 ^ (b - 1).toNat) ≤ x ∧ x < 2 ^ (b - 1).toNat))) s := by
      walk_at "ev"
      rw [ev_power_of (b - 1) (by omega) (by omega)]
      by_cases h : -(2 ^ (b - 1).toNat) ≤ x
      · walk_at "ev"
        simp only [h, decide_true, true_and]
        rw [ev_power_of (b - 1) (by omega) (by omega)]
      · walk_at "ev"
        simp only [h, decide_false, false_and, Bool.not_false]
    by_cases h : -(2 ^ (b - 1).toNat) ≤ x ∧ x < 2 ^ (b - 1).toNat
    · rw [if_pos h]
      rw [decide_eq_true h] at ht
      refine seq_go ((if_f ht rfl).trans rfl) (seq_rt (ret_ok ?_))
      walk_at "ev"
      rw [ev_power_of b (by omega) (by omega)]
      exact mod_ok (pow_pos' _)
    · rw [if_neg h]
      rw [decide_eq_false h] at ht
      exact seq_rt ((if_t ht rfl).trans (seq_rt (ret_ok rfl)))
theorem ev_widened {m : Nat} {B : List Nat} {s : S} (b x t : Int) (h0 : 1 ≤ b) (h1 : b ≤ 32) (h2 : 0 ≤ x) (h3 : x < 2 ^ b.toNat) (h4 : b ≤ t) (h5 : t ≤ 32) : callN tab (m + 4) 5 B [.int b, .int x, .int t] s = .ok (.int (mean b x % 2 ^ t.toNat)) s := by
  refine run_go (d := .int (mean b x % 2 ^ t.toNat)) (s1 := s) rfl ?_ finF_same
  dsimp only [c_widened]
  walk_at "st"
  refine seq_go (expr_ok (d := .non) (s1 := s) ?_) (seq_go (guard_nx (s1 := s) ?_) (seq_rt (ret_ok ?_)))
  · walk_at "ev"
    rw [ev_check_code b x h0 h1 h2 h3]
  · walk_at "ev"
    simp only [h4, h5, decide_true, Bool.not_true]
  · walk_at "ev"
    rw [ev_meaning b x h0 h1 h2 h3]
    walk_at "ev"
    rw [ev_power_of t (by omega) (by omega)]
    exact mod_ok (pow_pos' _)
theorem mod_rng (x : Int) (n : Nat) : 0 ≤ x % 2 ^ n ∧ x % 2 ^ n < 2 ^ n := ⟨Int.emod_nonneg _ (Int.ne_of_gt (pow_pos' n)), Int.emod_lt_of_pos _ (pow_pos' n)⟩
/-- the flags of a sum -/
def flags (b w e c : Int) : D := .tup [.int c, .tup [.int (w / 2 ^ b.toNat), .int (if e = mean b c then 0 else 1), .int (c / 2 ^ (b - 1).toNat), .int (if c = 0 then 1 else 0)]]
theorem pow_big {b : Int} (h0 : 0 ≤ b) (h1 : b ≤ 32) : (2 : Int) ^ b.toNat < big := Int.lt_of_le_of_lt (pow_le_32 h0 h1) (by decide +kernel)
theorem int_ite {p : Prop} [Decidable p] {s : S} : intD [.bl (!decide p)] s = .ok (.int (if p then 0 else 1)) s := by
  by_cases h : p <;> simp [intD, h]
theorem int_ite' {p : Prop} [Decidable p] {s : S} : intD [.bl (decide p)] s = .ok (.int (if p then 1 else 0)) s := by
  by_cases h : p <;> simp [intD, h]
theorem pow_pos_t (n : Nat) : 0 < (2 : Int) ^ n := pow_pos' n
theorem div_pow {b x : Int} {s : S} (h0 : 0 ≤ b) (h1 : b ≤ 32) : bDiv (.int x) (.int (2 ^ b.toNat)) s = .ok (.int (x / 2 ^ b.toNat)) s := div_ok (pow_pos' _) (pow_big h0 h1)
theorem mod_pow {x : Int} {n : Nat} {s : S} : bMod (.int x) (.int (2 ^ n)) s = .ok (.int (x % 2 ^ n)) s := mod_ok (pow_pos' _)
local macro_rules | `(tactic| walk_at "ew") => `(tactic| repeat (first | walk_at "ev" | (simp (disch := omega) only [ev_power_of, ev_check, ev_check_code, ev_meaning, ev_code_of, ev_widened, div_pow, mod_pow])))
theorem ev_added {m : Nat} {B : List Nat} {s : S} (b x y : Int) (h0 : 1 ≤ b) (h1 : b ≤ 32) (h2 : 0 ≤ x) (h3 : x < 2 ^ b.toNat) (h4 : 0 ≤ y) (h5 : y < 2 ^ b.toNat) :
    callN tab (m + 4) 6 B [.int b, .int x, .int y] s = .ok (flags b (x + y) (mean b x + mean b y) ((x + y) % 2 ^ b.toNat)) s := by
  refine run_go (s1 := s) rfl ?_ finF_same
  dsimp only [c_added]
  walk_at "st"
  have hc := mod_rng (x + y) b.toNat
  refine seq_go (expr_ok (d := .non) (s1 := s) ?_) (seq_go (expr_ok (d := .non) (s1 := s) ?_) (seq_go (set_ok rfl) (seq_go (set_ok (d := .int ((x + y) % 2 ^ b.toNat)) (s1 := s) ?_) (seq_go (set_ok (d := .int (mean b x + mean b y)) (s1 := s) ?_) (seq_go (set_ok (d := .int (if mean b x + mean b y = mean b ((x + y) % 2 ^ b.toNat) then 0 else 1)) (s1 := s) ?_) (seq_rt (ret_ok ?_)))))))
  · walk_at "ew"
  · walk_at "ew"
  · walk_at "ew"
  · walk_at "ew"
  · walk_at "ev"
    rw [ev_meaning b _ h0 h1 hc.1 hc.2]
    walk_at "ev"
  · walk_at "ew"
    rfl
theorem ev_taken_off {m : Nat} {B : List Nat} {s : S} (b x y : Int) (h0 : 1 ≤ b) (h1 : b ≤ 32) (h2 : 0 ≤ x) (h3 : x < 2 ^ b.toNat) (h4 : 0 ≤ y) (h5 : y < 2 ^ b.toNat) :
    callN tab (m + 4) 7 B [.int b, .int x, .int y] s = .ok (flags b (x + (2 ^ b.toNat - 1 - y) + 1) (mean b x - mean b y) ((x + (2 ^ b.toNat - 1 - y) + 1) % 2 ^ b.toNat)) s := by
  refine run_go (s1 := s) rfl ?_ finF_same
  dsimp only [c_taken_off]
  walk_at "st"
  have hc := mod_rng (x + (2 ^ b.toNat - 1 - y) + 1) b.toNat
  refine seq_go (expr_ok (d := .non) (s1 := s) ?_) (seq_go (expr_ok (d := .non) (s1 := s) ?_) (seq_go (set_ok (d := .int (x + (2 ^ b.toNat - 1 - y) + 1)) (s1 := s) ?_) (seq_go (set_ok (d := .int ((x + (2 ^ b.toNat - 1 - y) + 1) % 2 ^ b.toNat)) (s1 := s) ?_) (seq_go (set_ok (d := .int (mean b x - mean b y)) (s1 := s) ?_) (seq_go (set_ok (d := .int (if mean b x - mean b y = mean b ((x + (2 ^ b.toNat - 1 - y) + 1) % 2 ^ b.toNat) then 0 else 1)) (s1 := s) ?_) (seq_rt (ret_ok ?_)))))))
  · walk_at "ew"
  · walk_at "ew"
  · walk_at "ew"
  · walk_at "ew"
  · walk_at "ew"
  · walk_at "ev"
    rw [ev_meaning b _ h0 h1 hc.1 hc.2]
    walk_at "ev"
  · walk_at "ew"
    rfl
end KL

set_option maxRecDepth 100000
namespace KL
open PySem Ev
local macro_rules | `(tactic| walk_at "st") => `(tactic| dsimp only [start0, List.length_cons, List.length_nil, List.replicate, List.cons_append, List.nil_append, Nat.reduceSub, Nat.reduceAdd])
local macro_rules | `(tactic| walk_at "ev") => `(tactic| simp (disch := omega) only [sSeq, sSet, sExpr, sRet, sRetN, sIf, sBrk, sCnt, sRaise, sNil, sAsg, sAug, sPar2, sFor, tName, tTup, tsCons, tsNil, tSub, eVar, eC, eOp, eUn, aNil, aCons, eTup, eLst, eCall, eBlt, gcF, gcE, eNot, eAnd, eOr, eIf, eChain, eTold, eMt, eSl, withPart, iR1, iR2, iR3, iSeq, Ev.iEnum, Res.bnd, Res.bndS, Res.bndA, Res.bndI, Rss.bnd, Rss.bndA, Rss.bndS, Rss.bndI, Itm.bnd, Itm.bndS, Out.bnd, Res.tst, Res.tstS, Res.tstA, gv, sv, tru, al, toRes, C.psh, endG, gOk, bAdd, bSub, uNeg, cLt, cLe, cGt, cGe, iAdd, lenD, intD, absD, if_true, if_false, Bool.false_eq_true, ite_true, ite_false, decide_true, decide_false, Bool.not_true, Bool.not_false, Bool.and_true, Bool.and_false, Bool.true_and, Bool.false_and, Int.zero_sub, and_true, true_and, and_false, false_and, not_true_eq_false, not_false_eq_true, finF_same, fin_same', cEq_int, cNe_int, decide_eq_true_eq, Bool.not_eq_true', decide_eq_false_iff_not, ite_not])
local macro_rules | `(tactic| walk_at "ew") => `(tactic| repeat (first | walk_at "ev" | (simp (disch := omega) only [ev_power_of, ev_check, ev_check_code, ev_meaning, ev_code_of, ev_widened, div_pow, mod_pow])))
/-- the k-th bit -/
def bitI (x : Int) (k : Nat) : Int := x / 2 ^ k % 2
/-- the digits from the j-th on, c of them -/
def digsI (x : Int) : Nat → Nat → Int → List Int
  | _, 0, _ => []
  | j, c + 1, before => (before - bitI x j) :: digsI x (j + 1) c (bitI x j)
theorem mod2 {x : Int} {s : S} : bMod (.int x) (.int 2) s = .ok (.int (x % 2)) s := mod_ok (by decide)
theorem rngI0 (n : Nat) : rngI 0 n = (List.range' 0 n).map fun i => D.int (0 + (i : Nat)) := by rw [rngI, List.range_eq_range']
theorem lt62 {j : Nat} (h : j ≤ 1000) : (j : Int) < 2 ^ 62 := Int.lt_of_le_of_lt (Int.ofNat_le.mpr h) (by decide)
theorem ev_pow_nat {m : Nat} {B : List Nat} {s : S} (j : Nat) (h : j ≤ 1000) : callN tab (m + 1) 0 B [.int (0 + (j : Int))] s = .ok (.int (2 ^ j)) s := by
  rw [Int.zero_add, ev_power_of (j : Int) (Int.natCast_nonneg j) (lt62 h), Int.toNat_natCast]
theorem div_nat {x : Int} {j : Nat} {s : S} (h : j ≤ 32) : bDiv (.int x) (.int (2 ^ j)) s = .ok (.int (x / 2 ^ j)) s := by
  have e := div_pow (b := (j : Int)) (x := x) (s := s) (Int.natCast_nonneg j) (Int.ofNat_le.mpr h)
  rw [Int.toNat_natCast] at e
  exact e
theorem bit_expr {m : Nat} {C0 : List Nat} {s : S} {ρ : Ev.Env} {x : Int} {i q : Nat} {j : Nat} (h : j ≤ 32) (hx : gv ρ i = .int x) (hj : gv ρ q = .int (0 + (j : Int))) : (eOp bMod (eOp bDiv (eVar i) (eCall 0 (aCons (eVar q) aNil))) (eC (.int 2))) ⟨callN tab (m + 1), C0⟩ ρ s = .ok (.int (bitI x j)) s := by
  simp only [eOp, eVar, hx, hj, eCall, aCons, aNil, Res.bnd, Res.bndA, Rss.bnd, Rss.bndA, eC, ev_pow_nat j (Nat.le_trans h (by decide)), div_nat h, mod2, bitI]
theorem loop_digits {m : Nat} {s : S} (b x : Int) (h0 : 1 ≤ b) (h1 : b ≤ 32) (h2 : 0 ≤ x) (h3 : x < 2 ^ b.toNat) : ∀ (c j : Nat) (C0 : List Nat) (acc : List Int) (bf : Int) (d4 d5 : D), j + c ≤ 32 → acc.length = j → ∃ e3 e4 e5, forL true none (tName 4) (sSeq (sSet 5 (eOp bMod (eOp bDiv (eVar 1) (eCall 0 (aCons (eVar 4) aNil))) (eC (.int 2)))) (sSeq (sExpr (eMt isL mAppend (eVar 2) (aCons (eOp bSub (eVar 3) (eVar 5)) aNil))) (sSeq (sSet 3 (eVar 5)) sNil)))
      ⟨callN tab (m + 2), C0⟩ ((List.range' j c).map fun i => D.int (0 + (i : Nat))) [.int b, .int x, .ref s.length, .int bf, d4, d5] (s ++ [.lst (acc.map D.int)]) = .nx [.int b, .int x, .ref s.length, e3, e4, e5] (s ++ [.lst ((acc ++ digsI x j c bf).map D.int)]) := by
  intro c
  induction c with
  | zero => intro j C0 acc bf d4 d5 hj ha; exact ⟨.int bf, d4, d5, by simp [forL, digsI]⟩
  | succ c ih =>
    intro j C0 acc bf d4 d5 hj ha
    obtain ⟨e3, e4, e5, hy⟩ := ih (j + 1) C0 (acc ++ [bf - bitI x j]) (bitI x j) (.int (0 + (j : Nat))) (.int (bitI x j)) (by omega) (by simp [ha])
    refine ⟨e3, e4, e5, ?_⟩
    rw [List.range'_succ, List.map_cons, forL_cons (ρ2 := [.int b, .int x, .ref s.length, .int (bitI x j), .int (0 + (j : Nat)), .int (bitI x j)]) (s2 := s ++ [.lst ((acc ++ [bf - bitI x j]).map D.int)]) (turn_name ?_ (by simp)) rfl, hy]
    · simp [digsI]
    · refine seq_go (set_ok (d := .int (bitI x j)) (s1 := s ++ [.lst (acc.map D.int)]) ?_) (seq_go (expr_ok (d := .non) (s1 := s ++ [.lst ((acc ++ [bf - bitI x j]).map D.int)]) ?_) (seq_go (set_ok rfl) rfl))
      · exact bit_expr (m := m + 1) (i := 1) (q := 4) (j := j) (x := x) (by omega) rfl rfl
      · walk_at "ev"
        rw [top_isL]
        walk_at "ev"
        rw [app_top (by rw [List.length_map, ha]; exact lim_of (by omega)) (wok_pln fun _ => rfl)]
        simp

theorem ev_digits {m : Nat} {B : List Nat} {s : S} (b x : Int) (h0 : 1 ≤ b) (h1 : b ≤ 32) (h2 : 0 ≤ x) (h3 : x < 2 ^ b.toNat) :
    callN tab (m + 3) 8 B [.int b, .int x] s = .ok (.tup ((digsI x 0 b.toNat 0).map D.int)) s := by
  obtain ⟨e3, e4, e5, hy⟩ := loop_digits (m := m) (s := s) b x h0 h1 h2 h3 b.toNat 0 ((s ++ [O.lst []]).length :: s.length :: B) [] 0 .und .und (by omega) rfl
  refine run_go (d := .tup ((digsI x 0 b.toNat 0).map D.int)) (s1 := s ++ [.lst ((digsI x 0 b.toNat 0).map D.int)]) rfl ?_ (finF_pln yg_tupI (fun _ => by simp))
  dsimp only [c_digits]
  walk_at "st"
  refine seq_go (expr_ok (d := .non) (s1 := s) ?_) (seq_go (set_ok (d := .ref s.length) (s1 := s ++ [.lst []]) ?_) (seq_go (set_ok rfl) (seq_go (for_nx (g := none) (s1 := s ++ [.lst []]) (ds := rngI 0 b.toNat) ?_ (by rw [rngI0]; exact hy) (te_len (by simp))) (seq_rt (ret_ok ?_)))))
  · walk_at "ew"
  · rfl
  · walk_at "ev"
    rw [if_pos (small_of (by omega) (by omega))]
  · walk_at "ev"
    rw [tupD_lst top_lst, finF_same]
    rfl
end KL

set_option maxRecDepth 100000
namespace KL
open PySem Ev
local macro_rules | `(tactic| walk_at "st") => `(tactic| dsimp only [start0, List.length_cons, List.length_nil, List.replicate, List.cons_append, List.nil_append, Nat.reduceSub, Nat.reduceAdd])
local macro_rules | `(tactic| walk_at "ev") => `(tactic| simp (disch := omega) only [sSeq, sSet, sExpr, sRet, sRetN, sIf, sBrk, sCnt, sRaise, sNil, sAsg, sAug, sPar2, sFor, tName, tTup, tsCons, tsNil, tSub, eVar, eC, eOp, eUn, aNil, aCons, eTup, eLst, eCall, eBlt, gcF, gcE, eNot, eAnd, eOr, eIf, eChain, eTold, eMt, eSl, withPart, iR1, iR2, iR3, iSeq, Ev.iEnum, Res.bnd, Res.bndS, Res.bndA, Res.bndI, Rss.bnd, Rss.bndA, Rss.bndS, Rss.bndI, Itm.bnd, Itm.bndS, Out.bnd, Res.tst, Res.tstS, Res.tstA, gv, sv, tru, al, toRes, C.psh, endG, gOk, bAdd, bSub, uNeg, cLt, cLe, cGt, cGe, iAdd, lenD, intD, absD, if_true, if_false, Bool.false_eq_true, ite_true, ite_false, decide_true, decide_false, Bool.not_true, Bool.not_false, Bool.and_true, Bool.and_false, Bool.true_and, Bool.false_and, Int.zero_sub, and_true, true_and, and_false, false_and, not_true_eq_false, not_false_eq_true, finF_same, fin_same', cEq_int, cNe_int, decide_eq_true_eq, Bool.not_eq_true', decide_eq_false_iff_not, ite_not])
local macro_rules | `(tactic| walk_at "ew") => `(tactic| repeat (first | walk_at "ev" | (simp (disch := omega) only [ev_power_of, ev_check, ev_check_code, ev_meaning, ev_code_of, ev_widened, div_pow, mod_pow])))
/-- the value of digits, the least first -/
def fromD (l : List Int) : Int := l.foldr (fun d a => d + 2 * a) 0
def Dig (d : Int) : Prop := d = -1 ∨ d = 0 ∨ d = 1
theorem ev_from_digits {m : Nat} {B : List Nat} {s : S} (l : List Int) (hl : l.length ≤ 1000) (hd : ∀ d ∈ l, Dig d) : callN tab (m + 1) 10 B [.tup (l.map D.int)] s = .ok (.int (fromD l)) s := by
  have loop : ∀ (r : List Int) (C0 : C) (a : Int) (x : D), ∃ y, forL true none (tName 2) (sSeq (sSet 1 (eOp bAdd (eOp bMul (eC (.int 2)) (eVar 1)) (eVar 2))) sNil) C0 (r.map D.int) [.tup (l.map D.int), .int a, x] s = .nx [.tup (l.map D.int), .int (r.foldl (fun a d => 2 * a + d) a), y] s := by
    intro r C0
    induction r with
    | nil => intro a x; exact ⟨x, rfl⟩
    | cons d r ih =>
      intro a x
      obtain ⟨y, hy⟩ := ih (2 * a + d) (.int d)
      refine ⟨y, ?_⟩
      rw [List.map_cons, forL_cons (ρ2 := [.tup (l.map D.int), .int (2 * a + d), .int d]) (s2 := s) (turn_name ?_ rfl) rfl, hy]
      · rfl
      · refine seq_go (set_ok (d := .int (2 * a + d)) (s1 := s) ?_) rfl
        walk_at "ev"
        rw [mul_ok (mulOk_l (by decide) (by decide))]
  obtain ⟨y, hy⟩ := loop l.reverse ⟨callN tab m, s.length :: s.length :: B⟩ 0 .und
  have hall : (eComp (iSeq (eVar 0)) [2] (tName 2) none (eOp cIn (eVar 2) (eTup (aCons (eUn uNeg (eC (.int 1))) (aCons (eC (.int 0)) (aCons (eC (.int 1)) aNil)))))) ⟨callN tab m, s.length :: s.length :: B⟩ [.tup (l.map D.int), .und, .und] s = .ok (.ref s.length) (s ++ [.lst ((l.map fun _ => true).map D.bl)]) := by
    refine comp_ok (g := none) rfl (by rw [List.length_map]; exact Nat.le_of_lt (lim_of (by omega))) ?_ ygs_map_bl
    have q := compL_map (g := none) (i := 2) (te := eOp cIn (eVar 2) (eTup (aCons (eUn uNeg (eC (.int 1))) (aCons (eC (.int 0)) (aCons (eC (.int 1)) aNil))))) (c := ⟨callN tab m, s.length :: s.length :: s.length :: B⟩) (ρ := wipeD [.tup (l.map D.int), .und, .und] [2]) (s := s) (f := fun _ => .bl true) rfl (l.map D.int) ?_
    · simpa [Function.comp_def] using q
    · intro d hm
      obtain ⟨i, hi, rfl⟩ := List.mem_map.mp hm
      rcases hd i hi with rfl | rfl | rfl <;> rfl
  refine run_go (d := .int (fromD l)) (s1 := s) rfl ?_ finF_same
  dsimp only [c_from_digits]
  walk_at "st"
  refine seq_go (guard_nx (s1 := s) ?_) (seq_go (set_ok rfl) (seq_go (for_nx (g := none) (s1 := s) (ds := l.reverse.map D.int) ?_ hy te_same) (seq_rt (ret_ok ?_))))
  · have e := blt_top (f := allD) (c := ⟨callN tab m, s.length :: B⟩) (d := .bl true) hall (by rw [allD_bls seqOf_top]; simp) rfl (fun _ => by simp)
    unfold eNot
    rw [e]
    rfl
  · rw [List.map_reverse]; rfl
  · rw [List.foldl_reverse]
    have e : (fun (x y : Int) => 2 * y + x) = fun d a => d + 2 * a := by funext d a; omega
    rw [e]
    rfl
end KL

set_option maxRecDepth 100000
namespace KL
open PySem Ev
local macro_rules | `(tactic| walk_at "st") => `(tactic| dsimp only [start0, List.length_cons, List.length_nil, List.replicate, List.cons_append, List.nil_append, Nat.reduceSub, Nat.reduceAdd])
local macro_rules | `(tactic| walk_at "ev") => `(tactic| simp (disch := omega) only [sSeq, sSet, sExpr, sRet, sRetN, sIf, sBrk, sCnt, sRaise, sNil, sAsg, sAug, sPar2, sFor, tName, tTup, tsCons, tsNil, tSub, eVar, eC, eOp, eUn, aNil, aCons, eTup, eLst, eCall, eBlt, gcF, gcE, eNot, eAnd, eOr, eIf, eChain, eTold, eMt, eSl, withPart, iR1, iR2, iR3, iSeq, Ev.iEnum, Res.bnd, Res.bndS, Res.bndA, Res.bndI, Rss.bnd, Rss.bndA, Rss.bndS, Rss.bndI, Itm.bnd, Itm.bndS, Out.bnd, Res.tst, Res.tstS, Res.tstA, gv, sv, tru, al, toRes, C.psh, endG, gOk, bAdd, bSub, uNeg, cLt, cLe, cGt, cGe, iAdd, lenD, intD, absD, if_true, if_false, Bool.false_eq_true, ite_true, ite_false, decide_true, decide_false, Bool.not_true, Bool.not_false, Bool.and_true, Bool.and_false, Bool.true_and, Bool.false_and, Int.zero_sub, and_true, true_and, and_false, false_and, not_true_eq_false, not_false_eq_true, finF_same, fin_same', cEq_int, cNe_int, decide_eq_true_eq, Bool.not_eq_true', decide_eq_false_iff_not, ite_not])
local macro_rules | `(tactic| walk_at "ew") => `(tactic| repeat (first | walk_at "ev" | (simp (disch := omega) only [ev_power_of, ev_check, ev_check_code, ev_meaning, ev_code_of, ev_widened, div_pow, mod_pow])))
/-- the sparse digit of n -/
def nd (n : Int) : Int := if n % 2 = 1 then (if n % 4 = 1 then 1 else -1) else 0
def nx1 (n : Int) : Int := (n - nd n) / 2
def naf : Nat → Int → List Int
  | 0, _ => []
  | F + 1, n => if n = 0 then [] else nd n :: naf F (nx1 n)
/-- within F steps all is told -/
def Rch : Nat → Int → Prop
  | 0, n => n = 0
  | F + 1, n => n = 0 ∨ Rch F (nx1 n)
theorem mod4 {x : Int} {s : S} : bMod (.int x) (.int 4) s = .ok (.int (x % 4)) s := mod_ok (by decide)
theorem div2 {x : Int} {s : S} : bDiv (.int x) (.int 2) s = .ok (.int (x / 2)) s := div_ok (by decide) (big_of (by decide))
theorem loop_sparse {m : Nat} {s : S} (b x : Int) : ∀ (F T : Nat) (C0 : List Nat) (acc : List Int) (n : Int) (d4 : D), Rch F n → F + 1 ≤ T → acc.length + F ≤ 1000 → ∃ e2 e4, whileL true (eOp cNe (eVar 2) (eC (.int 0))) (sSeq (sSet 4 (eC (.int 0))) (sSeq (sIf (eOp cEq (eOp bMod (eVar 2) (eC (.int 2))) (eC (.int 1))) (sSeq (sSet 4 (eIf (eOp cEq (eOp bMod (eVar 2) (eC (.int 4))) (eC (.int 1))) (eC (.int 1)) (eUn uNeg (eC (.int 1))))) sNil) sNil) (sSeq (sExpr (eMt isL mAppend (eVar 3) (aCons (eVar 4) aNil))) (sSeq (sSet 2 (eOp bDiv (eOp bSub (eVar 2) (eVar 4)) (eC (.int 2)))) sNil))))
    ⟨callN tab m, C0⟩ T [.int b, .int x, .int n, .ref s.length, d4] (s ++ [.lst (acc.map D.int)]) = .nx [.int b, .int x, e2, .ref s.length, e4] (s ++ [.lst ((acc ++ naf F n).map D.int)]) := by
  have stop : ∀ (F T : Nat) (C0 : List Nat) (acc : List Int) (d4 : D), 1 ≤ T → ∃ e2 e4, whileL true (eOp cNe (eVar 2) (eC (.int 0))) (sSeq (sSet 4 (eC (.int 0))) (sSeq (sIf (eOp cEq (eOp bMod (eVar 2) (eC (.int 2))) (eC (.int 1))) (sSeq (sSet 4 (eIf (eOp cEq (eOp bMod (eVar 2) (eC (.int 4))) (eC (.int 1))) (eC (.int 1)) (eUn uNeg (eC (.int 1))))) sNil) sNil) (sSeq (sExpr (eMt isL mAppend (eVar 3) (aCons (eVar 4) aNil))) (sSeq (sSet 2 (eOp bDiv (eOp bSub (eVar 2) (eVar 4)) (eC (.int 2)))) sNil))))
    ⟨callN tab m, C0⟩ T [.int b, .int x, .int 0, .ref s.length, d4] (s ++ [.lst (acc.map D.int)]) = .nx [.int b, .int x, e2, .ref s.length, e4] (s ++ [.lst ((acc ++ naf F 0).map D.int)]) := by
    intro F T C0 acc d4 hT
    obtain ⟨t, rfl⟩ : ∃ t, T = t + 1 := ⟨T - 1, by omega⟩
    have e : naf F 0 = [] := by cases F <;> rfl
    refine ⟨.int 0, d4, ?_⟩
    rw [while_f (d := .bl false) (s1 := s ++ [.lst (acc.map D.int)]) ?_ rfl, te_same, e, List.append_nil]
    walk_at "ev"
  intro F
  induction F with
  | zero =>
    intro T C0 acc n d4 hr hT hl
    obtain rfl : n = 0 := hr
    exact stop 0 T C0 acc d4 (by omega)
  | succ F ih =>
    intro T C0 acc n d4 hr hT hl
    by_cases hn : n = 0
    · subst hn
      exact stop (F + 1) T C0 acc d4 (by omega)
    · obtain ⟨t, rfl⟩ : ∃ t, T = t + 1 := ⟨T - 1, by omega⟩
      have hr' : Rch F (nx1 n) := hr.resolve_left hn
      obtain ⟨e2, e4, hy⟩ := ih t C0 (acc ++ [nd n]) (nx1 n) (.int (nd n)) hr' (by omega) (by simp; omega)
      refine ⟨e2, e4, ?_⟩
      rw [while_t (d := .bl true) (s1 := s ++ [.lst (acc.map D.int)]) (ρ1 := [.int b, .int x, .int (nx1 n), .ref s.length, .int (nd n)]) (ρ2 := [.int b, .int x, .int (nx1 n), .ref s.length, .int (nd n)]) (s2 := s ++ [.lst ((acc ++ [nd n]).map D.int)]) (s3 := s ++ [.lst ((acc ++ [nd n]).map D.int)]) ?_ rfl ?_ (te_len (by simp)), hy]
      · rw [naf, if_neg hn, List.append_assoc]
        rfl
      · walk_at "ev"
        rw [decide_eq_false hn]
        rfl
      · refine seq_go (set_ok rfl) (seq_go (ρ1 := [.int b, .int x, .int n, .ref s.length, .int (nd n)]) (s1 := s ++ [.lst (acc.map D.int)]) ?_ (seq_go (expr_ok (d := .non) (s1 := s ++ [.lst ((acc ++ [nd n]).map D.int)]) ?_) (seq_go (set_ok (d := .int (nx1 n)) (s1 := s ++ [.lst ((acc ++ [nd n]).map D.int)]) ?_) rfl)))
        · by_cases h2 : n % 2 = 1
          · rw [if_t (d := .bl true) (s1 := s ++ [.lst (acc.map D.int)]) ?_ rfl]
            · refine seq_go (set_ok (d := .int (nd n)) (s1 := s ++ [.lst (acc.map D.int)]) ?_) rfl
              walk_at "ev"
              rw [mod4]
              walk_at "ev"
              by_cases h4 : n % 4 = 1
              · rw [nd, if_pos h2, if_pos h4, if_pos h4]
              · rw [nd, if_pos h2, if_neg h4, if_neg h4]
            · walk_at "ev"
              rw [mod2]
              walk_at "ev"
              rw [decide_eq_true h2]
          · rw [guard_nx (s1 := s ++ [.lst (acc.map D.int)]) ?_]
            · rw [nd, if_neg h2]; rfl
            · walk_at "ev"
              rw [mod2]
              walk_at "ev"
              rw [decide_eq_false h2]
        · walk_at "ev"
          rw [top_isL]
          walk_at "ev"
          rw [app_top (by rw [List.length_map]; exact lim_of (by omega)) (wok_pln fun _ => rfl)]
          simp
        · walk_at "ev"
          rw [div2]
          rfl
theorem ev_sparse {m : Nat} {B : List Nat} {s : S} (b x : Int) (h0 : 1 ≤ b) (h1 : b ≤ 32) (h2 : 0 ≤ x) (h3 : x < 2 ^ b.toNat) (F : Nat) (hF : F ≤ 900) (hr : Rch F (mean b x)) :
    callN tab (m + 4) 9 B [.int b, .int x] s = .ok (.tup ((naf F (mean b x)).map D.int)) s := by
  obtain ⟨e2, e4, hy⟩ := loop_sparse (m := m + 3) (s := s) b x F turns (s.length :: B) [] (mean b x) .und hr (Nat.le_trans (Nat.add_le_add_right hF 1) (by decide)) (by simp; omega)
  rw [List.map_nil, List.nil_append] at hy
  refine run_go (d := .tup ((naf F (mean b x)).map D.int)) (s1 := s ++ [.lst ((naf F (mean b x)).map D.int)]) rfl ?_ (finF_pln yg_tupI (fun _ => by simp))
  dsimp only [c_sparse]
  walk_at "st"
  refine seq_go (ρ1 := [.int b, .int x, .int (mean b x), .und, .und]) (set_ok (d := .int (mean b x)) (s1 := s) ?_) (seq_go (ρ1 := [.int b, .int x, .int (mean b x), .ref s.length, .und]) (s1 := s ++ [.lst []]) (set_ok (d := .ref s.length) (s1 := s ++ [.lst []]) rfl) ?_)
  · walk_at "ev"
    rw [ev_meaning b x h0 h1 h2 h3]
  · rw [seq_nx (while_go hy)]
    refine seq_rt (ret_ok ?_)
    walk_at "ev"
    rw [tupD_lst top_lst, finF_same]
end KL

set_option maxRecDepth 100000
namespace KL
open PySem Ev
local macro_rules | `(tactic| walk_at "st") => `(tactic| dsimp only [start0, List.length_cons, List.length_nil, List.replicate, List.cons_append, List.nil_append, Nat.reduceSub, Nat.reduceAdd])
local macro_rules | `(tactic| walk_at "ev") => `(tactic| simp (disch := omega) only [sSeq, sSet, sExpr, sRet, sRetN, sIf, sBrk, sCnt, sRaise, sNil, sAsg, sAug, sPar2, sFor, tName, tTup, tsCons, tsNil, tSub, eVar, eC, eOp, eUn, aNil, aCons, eTup, eLst, eCall, eBlt, gcF, gcE, eNot, eAnd, eOr, eIf, eChain, eTold, eMt, eSl, withPart, iR1, iR2, iR3, iSeq, Ev.iEnum, Res.bnd, Res.bndS, Res.bndA, Res.bndI, Rss.bnd, Rss.bndA, Rss.bndS, Rss.bndI, Itm.bnd, Itm.bndS, Out.bnd, Res.tst, Res.tstS, Res.tstA, gv, sv, tru, al, toRes, C.psh, endG, gOk, bAdd, bSub, uNeg, cLt, cLe, cGt, cGe, iAdd, lenD, intD, absD, if_true, if_false, Bool.false_eq_true, ite_true, ite_false, decide_true, decide_false, Bool.not_true, Bool.not_false, Bool.and_true, Bool.and_false, Bool.true_and, Bool.false_and, Int.zero_sub, and_true, true_and, and_false, false_and, not_true_eq_false, not_false_eq_true, finF_same, fin_same', cEq_int, cNe_int, decide_eq_true_eq, Bool.not_eq_true', decide_eq_false_iff_not, ite_not])
local macro_rules | `(tactic| walk_at "ew") => `(tactic| repeat (first | walk_at "ev" | (simp (disch := omega) only [ev_power_of, ev_check, ev_check_code, ev_meaning, ev_code_of, ev_widened, div_pow, mod_pow])))
/-- n - 1, .., 0 -/
def downI : Nat → List D
  | 0 => []
  | c + 1 => .int (0 + (c : Int)) :: downI c
theorem rngC_down (n : Nat) : rngC ((n : Int) - 1) (-1) n = downI n := by
  induction n with
  | zero => rfl
  | succ n ih =>
    unfold rngC at ih ⊢
    rw [List.range_succ_eq_map, List.map_cons, List.map_map, downI, ← ih]
    refine congr (congrArg List.cons ?_) (List.map_congr_left fun i _ => ?_)
    · congr 1; simp
    · show D.int _ = D.int _
      congr 1
      simp
      omega
def dvR (x y : Int) : Nat → Int → Int → Int × Int × List Int
  | 0, r, q => (r, q, [])
  | c + 1, r, q => if y ≤ 2 * r + bitI x c then (let z := dvR x y c (2 * r + bitI x c - y) (q * 2 + 1); (z.1, z.2.1, (2 * r + bitI x c - y) :: z.2.2)) else (let z := dvR x y c (2 * r + bitI x c) (q * 2); (z.1, z.2.1, (2 * r + bitI x c) :: z.2.2))
abbrev bDivd : SS := (sSeq (sSet 3 (eOp bAdd (eOp bMul (eC (.int 2)) (eVar 3)) (eOp bMod (eOp bDiv (eVar 1) (eCall 0 (aCons (eVar 6) aNil))) (eC (.int 2))))) (sSeq (sAug 4 iMul (eC (.int 2))) (sSeq (sIf (eOp cGe (eVar 3) (eVar 2)) (sSeq (sAug 3 bSub (eVar 2)) (sSeq (sAug 4 iAdd (eC (.int 1))) sNil)) sNil) (sSeq (sExpr (eMt isL mAppend (eVar 5) (aCons (eVar 3) aNil))) sNil))))
theorem op_ok {f : D → D → S → Res} {a b : ES} {c : C} {ρ : Ev.Env} {s s1 s2 : S} {x y : D} (ha : a c ρ s = .ok x s1) (hb : b c ρ s1 = .ok y s2) : eOp f a b c ρ s = f x y s2 := by
  unfold eOp
  rw [ha]
  show (b c ρ s1).bnd _ = _
  rw [hb]
  rfl
theorem loop_divided {m : Nat} {s : S} (b x y : Int) : ∀ (c : Nat) (C0 : List Nat) (acc : List Int) (r q : Int) (d6 : D), c ≤ 32 → acc.length + c ≤ 1000 → ∃ e6, forL true none (tName 6) bDivd ⟨callN tab (m + 1), C0⟩ (downI c) [.int b, .int x, .int y, .int r, .int q, .ref s.length, d6] (s ++ [.lst (acc.map D.int)]) =
    .nx [.int b, .int x, .int y, .int (dvR x y c r q).1, .int (dvR x y c r q).2.1, .ref s.length, e6] (s ++ [.lst ((acc ++ (dvR x y c r q).2.2).map D.int)]) := by
  intro c
  induction c with
  | zero => intro C0 acc r q d6 hc hl; exact ⟨d6, by simp [forL, downI, dvR]⟩
  | succ c ih =>
    intro C0 acc r q d6 hc hl
    have step : ∀ (r2 q2 : Int), ((y ≤ 2 * r + bitI x c ∧ r2 = 2 * r + bitI x c - y ∧ q2 = q * 2 + 1) ∨ (¬ y ≤ 2 * r + bitI x c ∧ r2 = 2 * r + bitI x c ∧ q2 = q * 2)) →
        turn1 true (tName 6) bDivd ⟨callN tab (m + 1), C0⟩ (.int (0 + (c : Int))) [.int b, .int x, .int y, .int r, .int q, .ref s.length, d6] (s ++ [.lst (acc.map D.int)]) = .nx [.int b, .int x, .int y, .int r2, .int q2, .ref s.length, .int (0 + (c : Int))] (s ++ [.lst ((acc ++ [r2]).map D.int)]) := by
      intro r2 q2 hh
      refine turn_name ?_ (by simp)
      refine seq_go (ρ1 := [.int b, .int x, .int y, .int (2 * r + bitI x c), .int q, .ref s.length, .int (0 + (c : Int))]) (set_ok (d := .int (2 * r + bitI x c)) (s1 := s ++ [.lst (acc.map D.int)]) ?_) (seq_go (ρ1 := [.int b, .int x, .int y, .int (2 * r + bitI x c), .int (q * 2), .ref s.length, .int (0 + (c : Int))]) (s1 := s ++ [.lst (acc.map D.int)]) ?_ (seq_go (ρ1 := [.int b, .int x, .int y, .int r2, .int q2, .ref s.length, .int (0 + (c : Int))]) (s1 := s ++ [.lst (acc.map D.int)]) ?_ (seq_go (expr_ok (d := .non) (s1 := s ++ [.lst ((acc ++ [r2]).map D.int)]) ?_) rfl)))
      · rw [op_ok (x := .int (2 * r)) (y := .int (bitI x c)) (s1 := s ++ [.lst (acc.map D.int)]) (s2 := s ++ [.lst (acc.map D.int)]) ?_ (bit_expr (i := 1) (q := 6) (j := c) (x := x) (by omega) rfl rfl)]
        · rfl
        · rw [op_ok (x := .int 2) (y := .int r) (s1 := s ++ [.lst (acc.map D.int)]) (s2 := s ++ [.lst (acc.map D.int)]) rfl rfl]
          exact mul_ok (mulOk_l (by decide) (by decide))
      · walk_at "ev"
        rw [iMul_ok (mulOk_r (by decide) (by decide))]
      · rcases hh with ⟨h1, rfl, rfl⟩ | ⟨h1, rfl, rfl⟩
        · rw [if_t (d := .bl true) (s1 := s ++ [.lst (acc.map D.int)]) ?_ rfl]
          · rfl
          · walk_at "ev"
            rw [decide_eq_true h1]
        · rw [guard_nx (s1 := s ++ [.lst (acc.map D.int)])]
          walk_at "ev"
          rw [decide_eq_false h1]
      · walk_at "ev"
        rw [top_isL]
        walk_at "ev"
        rw [app_top (by rw [List.length_map]; exact lim_of (by omega)) (wok_pln fun _ => rfl)]
        simp
    by_cases h1 : y ≤ 2 * r + bitI x c
    · obtain ⟨e6, hy⟩ := ih C0 (acc ++ [2 * r + bitI x c - y]) (2 * r + bitI x c - y) (q * 2 + 1) (.int (0 + (c : Int))) (by omega) (by simp; omega)
      refine ⟨e6, ?_⟩
      rw [downI, forL_cons (step _ _ (.inl ⟨h1, rfl, rfl⟩)) rfl, hy, dvR, if_pos h1, List.append_assoc]
      rfl
    · obtain ⟨e6, hy⟩ := ih C0 (acc ++ [2 * r + bitI x c]) (2 * r + bitI x c) (q * 2) (.int (0 + (c : Int))) (by omega) (by simp; omega)
      refine ⟨e6, ?_⟩
      rw [downI, forL_cons (step _ _ (.inr ⟨h1, rfl, rfl⟩)) rfl, hy, dvR, if_neg h1, List.append_assoc]
      rfl
end KL

set_option maxRecDepth 100000
namespace KL
open PySem Ev
local macro_rules | `(tactic| walk_at "st") => `(tactic| dsimp only [start0, List.length_cons, List.length_nil, List.replicate, List.cons_append, List.nil_append, Nat.reduceSub, Nat.reduceAdd])
local macro_rules | `(tactic| walk_at "ev") => `(tactic| simp (disch := omega) only [sSeq, sSet, sExpr, sRet, sRetN, sIf, sBrk, sCnt, sRaise, sNil, sAsg, sAug, sPar2, sFor, tName, tTup, tsCons, tsNil, tSub, eVar, eC, eOp, eUn, aNil, aCons, eTup, eLst, eCall, eBlt, gcF, gcE, eNot, eAnd, eOr, eIf, eChain, eTold, eMt, eSl, withPart, iR1, iR2, iR3, iSeq, Ev.iEnum, Res.bnd, Res.bndS, Res.bndA, Res.bndI, Rss.bnd, Rss.bndA, Rss.bndS, Rss.bndI, Itm.bnd, Itm.bndS, Out.bnd, Res.tst, Res.tstS, Res.tstA, gv, sv, tru, al, toRes, C.psh, endG, gOk, bAdd, bSub, uNeg, cLt, cLe, cGt, cGe, iAdd, lenD, intD, absD, if_true, if_false, Bool.false_eq_true, ite_true, ite_false, decide_true, decide_false, Bool.not_true, Bool.not_false, Bool.and_true, Bool.and_false, Bool.true_and, Bool.false_and, Int.zero_sub, and_true, true_and, and_false, false_and, not_true_eq_false, not_false_eq_true, finF_same, fin_same', cEq_int, cNe_int, decide_eq_true_eq, Bool.not_eq_true', decide_eq_false_iff_not, ite_not])
local macro_rules | `(tactic| walk_at "ew") => `(tactic| repeat (first | walk_at "ev" | (simp (disch := omega) only [ev_power_of, ev_check, ev_check_code, ev_meaning, ev_code_of, ev_widened, div_pow, mod_pow])))
theorem downI_len (n : Nat) : (downI n).length = n := by
  induction n with
  | zero => rfl
  | succ n ih => rw [downI, List.length_cons, ih]
theorem r3_down {b : Int} {C0 : C} {ρ : Ev.Env} {s : S} (h0 : 1 ≤ b) (h1 : b ≤ 32) (hb : gv ρ 0 = .int b) : iR3 (aCons (eOp bSub (eVar 0) (eC (.int 1))) (aCons (eUn uNeg (eC (.int 1))) (aCons (eUn uNeg (eC (.int 1))) aNil))) C0 ρ s = .ok (downI b.toNat) none s := by
  have e : rngC (b - 1) (-1) (b - 1 - -1).toNat = downI b.toNat := by
    have e1 := rngC_down b.toNat
    have e2 : ((b.toNat : Nat) : Int) = b := Int.toNat_of_nonneg (by omega)
    rw [e2] at e1
    have e3 : (b - 1 - -1).toNat = b.toNat := by congr 1; omega
    rw [e3]
    exact e1
  simp only [iR3, eOp, eVar, hb, eC, eUn, uNeg, aCons, aNil, Res.bnd, Res.bndA, Rss.bndA, Rss.bndI, bSub]
  rw [if_pos ⟨trivial, small_of (by omega) (by omega), by decide⟩, e]
theorem ev_divided {m : Nat} {B : List Nat} {s : S} (b x y : Int) (h0 : 1 ≤ b) (h1 : b ≤ 32) (h2 : 0 ≤ x) (h3 : x < 2 ^ b.toNat) (h4 : 0 < y) (h5 : y < 2 ^ b.toNat) :
    callN tab (m + 3) 12 B [.int b, .int x, .int y] s = .ok (.tup [.int (dvR x y b.toNat 0 0).2.1, .int (dvR x y b.toNat 0 0).1, .tup ((dvR x y b.toNat 0 0).2.2.map D.int)]) s := by
  obtain ⟨e6, hy⟩ := loop_divided (m := m + 1) (s := s) b x y b.toNat ((s ++ [O.lst []]).length :: s.length :: B) [] 0 0 .und (by omega) (by simp; omega)
  rw [List.map_nil, List.nil_append] at hy
  refine run_go (s1 := s ++ [.lst ((dvR x y b.toNat 0 0).2.2.map D.int)]) rfl ?_ (finF_pln (by simp [D.yg, D.ygs, ygs_map_int]) (fun _ => by simp))
  dsimp only [c_divided]
  walk_at "st"
  refine seq_go (expr_ok (d := .non) (s1 := s) ?_) (seq_go (expr_ok (d := .non) (s1 := s) ?_) (seq_go (guard_nx (s1 := s) ?_) (seq_go (set_ok rfl) (seq_go (set_ok rfl) (seq_go (ρ1 := [.int b, .int x, .int y, .int 0, .int 0, .ref s.length, .und]) (s1 := s ++ [O.lst []]) (set_ok (d := D.ref s.length) (s1 := s ++ [O.lst []]) rfl) ?_)))))
  · walk_at "ew"
  · walk_at "ev"
    rw [ev_check_code b y h0 h1 (by omega) h5]
  · walk_at "ev"
    rw [decide_eq_false (by omega)]
  · refine seq_go (for_nx (g := none) (s1 := s ++ [O.lst []]) (ds := downI b.toNat) (r3_down h0 h1 rfl) hy (te_len (by simp))) (seq_rt (ret_ok ?_))
    walk_at "ev"
    rw [tupD_lst top_lst, finF_same]
    rfl
def dbR (x y : Int) : Nat → Int → Int × List Int
  | 0, r => (r, [])
  | c + 1, r => (let z := dbR x y c (2 * r + bitI x c - (if 0 ≤ r then 1 else -1) * y); (z.1, (if 0 ≤ r then 1 else -1) :: z.2))
abbrev bBoth : SS := (sSeq (sSet 7 (eIf (eOp cGe (eVar 3) (eC (.int 0))) (eC (.int 1)) (eUn uNeg (eC (.int 1))))) (sSeq (sSet 3 (eOp bSub (eOp bAdd (eOp bMul (eC (.int 2)) (eVar 3)) (eOp bMod (eOp bDiv (eVar 1) (eCall 0 (aCons (eVar 5) aNil))) (eC (.int 2)))) (eOp bMul (eVar 7) (eVar 2)))) (sSeq (sExpr (eMt isL mAppend (eVar 4) (aCons (eVar 7) aNil))) sNil)))
theorem loop_both {m : Nat} {s : S} (b x y : Int) (d6 : D) : ∀ (c : Nat) (C0 : List Nat) (acc : List Int) (r : Int) (d5 d7 : D), c ≤ 32 → acc.length + c ≤ 1000 → ∃ e5 e7, forL true none (tName 5) bBoth ⟨callN tab (m + 1), C0⟩ (downI c) [.int b, .int x, .int y, .int r, .ref s.length, d5, d6, d7] (s ++ [.lst (acc.map D.int)]) =
    .nx [.int b, .int x, .int y, .int (dbR x y c r).1, .ref s.length, e5, d6, e7] (s ++ [.lst ((acc ++ (dbR x y c r).2).map D.int)]) := by
  intro c
  induction c with
  | zero => intro C0 acc r d5 d7 hc hl; exact ⟨d5, d7, by simp [forL, downI, dbR]⟩
  | succ c ih =>
    intro C0 acc r d5 d7 hc hl
    obtain ⟨g, hg⟩ : ∃ g : Int, g = if 0 ≤ r then 1 else -1 := ⟨_, rfl⟩
    have hgs : -(2 ^ 64) < g ∧ g < 2 ^ 64 := by
      by_cases h : 0 ≤ r
      · rw [if_pos h] at hg; subst hg; decide
      · rw [if_neg h] at hg; subst hg; decide
    obtain ⟨e5, e7, hy⟩ := ih C0 (acc ++ [g]) (2 * r + bitI x c - g * y) (.int (0 + (c : Int))) (.int g) (by omega) (by simp; omega)
    refine ⟨e5, e7, ?_⟩
    rw [downI, forL_cons (ρ2 := [.int b, .int x, .int y, .int (2 * r + bitI x c - g * y), .ref s.length, .int (0 + (c : Int)), d6, .int g]) (s2 := s ++ [.lst ((acc ++ [g]).map D.int)]) (turn_name ?_ (by simp)) rfl, hy, dbR, ← hg, List.append_assoc]
    · rfl
    · refine seq_go (ρ1 := [.int b, .int x, .int y, .int r, .ref s.length, .int (0 + (c : Int)), d6, .int g]) (set_ok (d := .int g) (s1 := s ++ [.lst (acc.map D.int)]) ?_) (seq_go (ρ1 := [.int b, .int x, .int y, .int (2 * r + bitI x c - g * y), .ref s.length, .int (0 + (c : Int)), d6, .int g]) (set_ok (d := .int (2 * r + bitI x c - g * y)) (s1 := s ++ [.lst (acc.map D.int)]) ?_) (seq_go (expr_ok (d := .non) (s1 := s ++ [.lst ((acc ++ [g]).map D.int)]) ?_) rfl))
      · walk_at "ev"
        by_cases h : 0 ≤ r
        · rw [if_pos h] at hg
          rw [if_pos h, hg]
        · rw [if_neg h] at hg
          rw [if_neg h, hg]
      · rw [op_ok (x := .int (2 * r + bitI x c)) (y := .int (g * y)) (s1 := s ++ [.lst (acc.map D.int)]) (s2 := s ++ [.lst (acc.map D.int)])]
        · rfl
        · rw [op_ok (x := .int (2 * r)) (y := .int (bitI x c)) (s1 := s ++ [.lst (acc.map D.int)]) (s2 := s ++ [.lst (acc.map D.int)]) ?_ (bit_expr (i := 1) (q := 5) (j := c) (x := x) (by omega) rfl rfl)]
          · rfl
          · rw [op_ok (x := .int 2) (y := .int r) (s1 := s ++ [.lst (acc.map D.int)]) (s2 := s ++ [.lst (acc.map D.int)]) rfl rfl]
            exact mul_ok (mulOk_l (by decide) (by decide))
        · rw [op_ok (x := .int g) (y := .int y) (s1 := s ++ [.lst (acc.map D.int)]) (s2 := s ++ [.lst (acc.map D.int)]) rfl rfl]
          exact mul_ok (mulOk_l hgs.1 hgs.2)
      · walk_at "ev"
        rw [top_isL]
        walk_at "ev"
        rw [app_top (by rw [List.length_map]; exact lim_of (by omega)) (wok_pln fun _ => rfl)]
        simp
end KL

set_option maxRecDepth 100000
namespace KL
open PySem Ev
local macro_rules | `(tactic| walk_at "st") => `(tactic| dsimp only [start0, List.length_cons, List.length_nil, List.replicate, List.cons_append, List.nil_append, Nat.reduceSub, Nat.reduceAdd])
local macro_rules | `(tactic| walk_at "ev") => `(tactic| simp (disch := omega) only [sSeq, sSet, sExpr, sRet, sRetN, sIf, sBrk, sCnt, sRaise, sNil, sAsg, sAug, sPar2, sFor, tName, tTup, tsCons, tsNil, tSub, eVar, eC, eOp, eUn, aNil, aCons, eTup, eLst, eCall, eBlt, gcF, gcE, eNot, eAnd, eOr, eIf, eChain, eTold, eMt, eSl, withPart, iR1, iR2, iR3, iSeq, Ev.iEnum, Res.bnd, Res.bndS, Res.bndA, Res.bndI, Rss.bnd, Rss.bndA, Rss.bndS, Rss.bndI, Itm.bnd, Itm.bndS, Out.bnd, Res.tst, Res.tstS, Res.tstA, gv, sv, tru, al, toRes, C.psh, endG, gOk, bAdd, bSub, uNeg, cLt, cLe, cGt, cGe, iAdd, lenD, intD, absD, if_true, if_false, Bool.false_eq_true, ite_true, ite_false, decide_true, decide_false, Bool.not_true, Bool.not_false, Bool.and_true, Bool.and_false, Bool.true_and, Bool.false_and, Int.zero_sub, and_true, true_and, and_false, false_and, not_true_eq_false, not_false_eq_true, finF_same, fin_same', cEq_int, cNe_int, decide_eq_true_eq, Bool.not_eq_true', decide_eq_false_iff_not, ite_not])
local macro_rules | `(tactic| walk_at "ew") => `(tactic| repeat (first | walk_at "ev" | (simp (disch := omega) only [ev_power_of, ev_check, ev_check_code, ev_meaning, ev_code_of, ev_widened, div_pow, mod_pow])))
theorem call_ok {f : Nat} {a : AS} {c : C} {ρ : Ev.Env} {s s1 : S} {xs : List D} (h : a c ρ s = .ok xs s1) : eCall f a c ρ s = c.call f c.B xs s1 := by unfold eCall; rw [h]; rfl
theorem cons_ok {a : ES} {r : AS} {c : C} {ρ : Ev.Env} {s s1 s2 : S} {x : D} {xs : List D} (h : a c ρ s = .ok x s1) (h2 : r c ρ s1 = .ok xs s2) : aCons a r c ρ s = .ok (x :: xs) s2 := by
  unfold aCons; rw [h]; simp only [Rss.bndA, Res.bndA, h2]
theorem tup_ok {a : AS} {c : C} {ρ : Ev.Env} {s s1 : S} {xs : List D} (h : a c ρ s = .ok xs s1) (hl : xs.length ≤ 1000) : eTup a c ρ s = .ok (.tup xs) s1 := by
  unfold eTup; rw [h]; exact if_pos (Nat.le_of_lt (lim_of (by omega)))
theorem nil_ok {c : C} {ρ : Ev.Env} {s : S} : aNil c ρ s = .ok [] s := rfl
theorem var_ok {i : Nat} {c : C} {ρ : Ev.Env} {s : S} {d : D} (h : gv ρ i = d) (hd : d ≠ .und) : eVar i c ρ s = .ok d s := by
  unfold eVar; rw [h]; cases d <;> first | rfl | exact absurd rfl hd
theorem dbR_len (x y : Int) : ∀ (c : Nat) (r : Int), (dbR x y c r).2.length = c
  | 0, _ => rfl
  | c + 1, r => by rw [dbR]; simp [dbR_len x y c]
theorem dbR_dig (x y : Int) : ∀ (c : Nat) (r : Int), ∀ d ∈ (dbR x y c r).2, d = 1 ∨ d = -1
  | 0, _, d, h => absurd h (by simp [dbR])
  | c + 1, r, d, h => by
    rw [dbR] at h
    rcases List.mem_cons.mp h with h | h
    · subst h
      by_cases h2 : 0 ≤ r
      · rw [if_pos h2]; exact .inl rfl
      · rw [if_neg h2]; exact .inr rfl
    · exact dbR_dig x y c _ d h
def dbQ (b x y : Int) : Int := fromD (dbR x y b.toNat 0).2.reverse
def dbV (b x y : Int) : D := if (dbR x y b.toNat 0).1 < 0 then .tup [.int (dbQ b x y - 1), .int ((dbR x y b.toNat 0).1 + y), .tup ((dbR x y b.toNat 0).2.map D.int)] else .tup [.int (dbQ b x y), .int (dbR x y b.toNat 0).1, .tup ((dbR x y b.toNat 0).2.map D.int)]
theorem ev_divided_both {m : Nat} {B : List Nat} {s : S} (b x y : Int) (h0 : 1 ≤ b) (h1 : b ≤ 32) (h2 : 0 ≤ x) (h3 : x < 2 ^ b.toNat) (h4 : 0 < y) (h5 : y < 2 ^ b.toNat) :
    callN tab (m + 3) 13 B [.int b, .int x, .int y] s = .ok (dbV b x y) s := by
  obtain ⟨e5, e7, hy⟩ := loop_both (m := m + 1) (s := s) b x y .und b.toNat ((s ++ [O.lst []]).length :: s.length :: B) [] 0 .und .und (by omega) (by simp; omega)
  rw [List.map_nil, List.nil_append] at hy
  refine run_go (s1 := s ++ [.lst ((dbR x y b.toNat 0).2.map D.int)]) (d := dbV b x y) rfl ?_ (finF_pln (by unfold dbV; split <;> simp [D.yg, D.ygs, ygs_map_int]) (fun _ => by unfold dbV; split <;> simp))
  dsimp only [c_divided_both]
  walk_at "st"
  refine seq_go (expr_ok (d := .non) (s1 := s) ?_) (seq_go (expr_ok (d := .non) (s1 := s) ?_) (seq_go (guard_nx (s1 := s) ?_) (seq_go (set_ok rfl) (seq_go (ρ1 := [.int b, .int x, .int y, .int 0, .ref s.length, .und, .und, .und]) (s1 := s ++ [O.lst []]) (set_ok (d := D.ref s.length) (s1 := s ++ [O.lst []]) rfl) ?_))))
  · walk_at "ew"
  · walk_at "ev"
    rw [ev_check_code b y h0 h1 (by omega) h5]
  · walk_at "ev"
    rw [decide_eq_false (by omega)]
  · refine seq_go (for_nx (g := none) (s1 := s ++ [O.lst []]) (ds := downI b.toNat) (r3_down h0 h1 rfl) hy (te_len (by simp))) ?_
    refine seq_go (set_ok (d := .int (dbQ b x y)) (s1 := s ++ [.lst ((dbR x y b.toNat 0).2.map D.int)]) ?_) ?_
    · rw [call_ok (cons_ok (x := .tup (((dbR x y b.toNat 0).2.reverse).map D.int)) (xs := []) (blt_top (x := .ref (s.length + 1)) (t := [.lst (((dbR x y b.toNat 0).2.reverse).map D.int)]) ?_ ?_ yg_tupI (fun _ => by simp)) rfl)]
      · refine ev_from_digits (m := m + 1) _ (by rw [List.length_reverse, dbR_len]; omega) ?_
        intro d hd
        rcases dbR_dig x y _ _ d (List.mem_reverse.mp hd) with h | h
        · exact .inr (.inr h)
        · exact .inl h
      · unfold eUn
        rw [var_ok (d := .ref s.length) rfl (by simp)]
        simp [Res.bnd, rvD, top_lst, al]
      · simp [tupD, lstOf]
    · by_cases hr : (dbR x y b.toNat 0).1 < 0
      · refine seq_rt ((if_t (d := .bl true) (s1 := s ++ [.lst ((dbR x y b.toNat 0).2.map D.int)]) ?_ rfl).trans (seq_rt (ret_ok ?_)))
        · walk_at "ev"
          rw [decide_eq_true hr]
        · walk_at "ev"
          rw [tupD_lst top_lst, finF_same]
          unfold dbV
          rw [if_pos hr]
          rfl
      · refine seq_go (guard_nx (s1 := s ++ [.lst ((dbR x y b.toNat 0).2.map D.int)]) ?_) (seq_rt (ret_ok ?_))
        · walk_at "ev"
          rw [decide_eq_false hr]
        · walk_at "ev"
          rw [tupD_lst top_lst, finF_same]
          unfold dbV
          rw [if_neg hr]
          rfl
end KL

set_option maxRecDepth 100000
namespace KL
open PySem Ev
local macro_rules | `(tactic| walk_at "st") => `(tactic| dsimp only [start0, List.length_cons, List.length_nil, List.replicate, List.cons_append, List.nil_append, Nat.reduceSub, Nat.reduceAdd])
local macro_rules | `(tactic| walk_at "ev") => `(tactic| simp (disch := omega) only [sSeq, sSet, sExpr, sRet, sRetN, sIf, sBrk, sCnt, sRaise, sNil, sAsg, sAug, sPar2, sFor, tName, tTup, tsCons, tsNil, tSub, eVar, eC, eOp, eUn, aNil, aCons, eTup, eLst, eCall, eBlt, gcF, gcE, eNot, eAnd, eOr, eIf, eChain, eTold, eMt, eSl, withPart, iR1, iR2, iR3, iSeq, Ev.iEnum, Res.bnd, Res.bndS, Res.bndA, Res.bndI, Rss.bnd, Rss.bndA, Rss.bndS, Rss.bndI, Itm.bnd, Itm.bndS, Out.bnd, Res.tst, Res.tstS, Res.tstA, gv, sv, tru, al, toRes, C.psh, endG, gOk, bAdd, bSub, uNeg, cLt, cLe, cGt, cGe, iAdd, lenD, intD, absD, if_true, if_false, Bool.false_eq_true, ite_true, ite_false, decide_true, decide_false, Bool.not_true, Bool.not_false, Bool.and_true, Bool.and_false, Bool.true_and, Bool.false_and, Int.zero_sub, and_true, true_and, and_false, false_and, not_true_eq_false, not_false_eq_true, finF_same, fin_same', cEq_int, cNe_int, decide_eq_true_eq, Bool.not_eq_true', decide_eq_false_iff_not, ite_not])
local macro_rules | `(tactic| walk_at "ew") => `(tactic| repeat (first | walk_at "ev" | (simp (disch := omega) only [ev_power_of, ev_check, ev_check_code, ev_meaning, ev_code_of, ev_widened, div_pow, mod_pow])))
def enI : Nat → List Int → List D
  | _, [] => []
  | k, d :: r => .tup [.int ((k : Nat) : Int), .int d] :: enI (k + 1) r
theorem enI_len : ∀ (l : List Int) (k : Nat), (enI k l).length = l.length
  | [], _ => rfl
  | d :: r, k => by rw [enI, List.length_cons, enI_len r (k + 1), List.length_cons]
theorem enI_get : ∀ (l : List Int) (k i : Nat), (enI k l)[i]? = (l[i]?).map fun d => .tup [.int ((k + i : Nat) : Int), .int d]
  | [], k, i => by simp [enI]
  | d :: r, k, 0 => by simp [enI]
  | d :: r, k, i + 1 => by
    rw [enI, List.getElem?_cons_succ, enI_get r (k + 1) i, List.getElem?_cons_succ]
    have e : k + 1 + i = k + (i + 1) := by omega
    rw [e]
theorem enumD_ints (l : List Int) : enumD (l.map D.int) = enI 0 l := by
  apply List.ext_getElem?
  intro i
  rw [enI_get]
  simp only [enumD, List.getElem?_zipWith, List.getElem?_map, List.length_map, List.getElem?_range, Nat.zero_add]
  by_cases h : i < l.length
  · simp [h]
  · simp [h]
/-- the sum of the digits, each at its place, times v -/
def byS (v : Int) : Nat → List Int → Int → Int
  | _, [], a => a
  | k, d :: r, a => byS v (k + 1) r (a + d * v * 2 ^ k)
theorem pow31 {k : Nat} (h : k ≤ 32) : -(2 ^ 64) < (2 : Int) ^ k ∧ (2 : Int) ^ k < 2 ^ 64 := by
  have h1 : (0 : Int) < 2 ^ k := Int.pow_pos (by decide)
  have h2 : (2 : Int) ^ k ≤ 2 ^ 32 := by
    exact_mod_cast Nat.pow_le_pow_right (by decide : 0 < 2) h
  exact ⟨Int.lt_trans (by decide) h1, Int.lt_of_le_of_lt h2 (by decide)⟩
theorem pow_k {m : Nat} {B : List Nat} {s : S} {k : Nat} (h : k ≤ 1000) : callN tab (m + 1) 0 B [.int (k : Nat)] s = .ok (.int (2 ^ k)) s := by
  have e := ev_pow_nat (m := m) (B := B) (s := s) k h
  rw [Int.zero_add] at e
  exact e
theorem loop_by {m : Nat} {s : S} (a0 a1 a2 a3 : D) (v : Int) : ∀ (l : List Int) (k : Nat) (C0 : List Nat) (a : Int) (d6 d7 : D), k + l.length ≤ 32 → (∀ d ∈ l, -2 ≤ d ∧ d ≤ 2) → ∃ e6 e7,
    forL true none (tTup 2 (tsCons (tName 6) (tsCons (tName 7) tsNil))) (sSeq (sAug 5 iAdd (eOp bMul (eOp bMul (eVar 7) (eVar 4)) (eCall 0 (aCons (eVar 6) aNil)))) sNil) ⟨callN tab (m + 1), C0⟩ (enI k l) [a0, a1, a2, a3, .int v, .int a, d6, d7] s = .nx [a0, a1, a2, a3, .int v, .int (byS v k l a), e6, e7] s := by
  intro l
  induction l with
  | nil => intro k C0 a d6 d7 hk hd; exact ⟨d6, d7, rfl⟩
  | cons d r ih =>
    intro k C0 a d6 d7 hk hd
    simp only [List.length_cons] at hk
    obtain ⟨e6, e7, hy⟩ := ih (k + 1) C0 (a + d * v * 2 ^ k) (.int (k : Nat)) (.int d) (by omega) fun z hz => hd z (List.mem_cons_of_mem _ hz)
    refine ⟨e6, e7, ?_⟩
    have hdd := hd d List.mem_cons_self
    rw [enI, forL_cons (ρ2 := [a0, a1, a2, a3, .int v, .int (a + d * v * 2 ^ k), .int (k : Nat), .int d]) (s2 := s) (turn_nx1 (ρ1 := [a0, a1, a2, a3, .int v, .int (a + d * v * 2 ^ k), .int (k : Nat), .int d]) (s1 := s) ?_ te_same) rfl, hy, byS]
    show sSeq _ _ ⟨callN tab (m + 1), s.length :: C0⟩ [a0, a1, a2, a3, .int v, .int a, .int (k : Nat), .int d] s = _
    have key : eOp bMul (eOp bMul (eVar 7) (eVar 4)) (eCall 0 (aCons (eVar 6) aNil)) ⟨callN tab (m + 1), s.length :: C0⟩ [a0, a1, a2, a3, .int v, .int a, .int (k : Nat), .int d] s = .ok (.int (d * v * 2 ^ k)) s := by
      rw [op_ok (x := .int (d * v)) (y := .int (2 ^ k)) (s1 := s) (s2 := s)]
      · exact mul_ok (mulOk_r (pow31 (by omega)).1 (pow31 (by omega)).2)
      · rw [op_ok (x := .int d) (y := .int v) (s1 := s) (s2 := s) rfl rfl]
        exact mul_ok (mulOk_l (Int.lt_of_lt_of_le (by decide) hdd.1) (Int.lt_of_le_of_lt hdd.2 (by decide)))
      · rw [call_ok (cons_ok (x := .int (k : Nat)) (xs := []) (s1 := s) (s2 := s) rfl rfl)]
        have hk2 : k ≤ 1000 := by omega
        dsimp only
        rw [pow_k hk2]
    refine seq_go (ρ1 := [a0, a1, a2, a3, .int v, .int (a + d * v * 2 ^ k), .int (k : Nat), .int d]) (s1 := s) ?_ rfl
    unfold sAug
    rw [key]
    rfl
def nz (l : List Int) : List Int := l.filter fun d => !decide (d = 0)
def pnz : D → Bool
  | .int i => !decide (i = 0)
  | _ => false
theorem nz_map (l : List Int) : ((l.map D.int).filter pnz).map (fun d => d) = (nz l).map D.int := by
  rw [List.map_id', List.filter_map]
  rfl
theorem cnt_ne {e : ES} {c : C} {ρ : Ev.Env} {s : S} {j : Nat} {l : List Int} (hl : l.length ≤ 1000) (he : ∀ B, e ⟨c.call, B⟩ ρ s = .ok (.tup (l.map D.int)) s) (hv : ∀ i : Int, gv (sv (wipeD ρ [j]) j (.int i)) j = .int i) :
    eBlt lenD (aCons (eComp (iSeq e) [j] (tName j) (some (eOp cNe (eVar j) (eC (.int 0)))) (eVar j)) aNil) c ρ s = .ok (.int (nz l).length) s := by
  refine blt_top (x := .ref s.length) (t := [.lst ((nz l).map D.int)]) (d := .int (nz l).length) (comp_ok (g := none) (ds := l.map D.int) ?_ (by rw [List.length_map]; exact Nat.le_of_lt (lim_of (by omega))) ?_ ygs_map_int) ?_ rfl (fun _ => by simp)
  · unfold iSeq
    rw [he]
    rfl
  · rw [← nz_map]
    refine compL_filter (p := pnz) rfl _ ?_ ?_
    · intro d hd
      obtain ⟨i, hi, rfl⟩ := List.mem_map.mp hd
      rw [op_ok (x := .int i) (y := .int 0) (s1 := s) (s2 := s) (var_ok (hv i) (by simp)) rfl, cNe_int]
      rfl
    · intro d hd hp
      obtain ⟨i, hi, rfl⟩ := List.mem_map.mp hd
      exact var_ok (hv i) (by simp)
  · rw [lenD_lst top_lst, List.length_map]
def byV (b x y : Int) : D := .tup [.int (byS (mean b x) 0 (digsI y 0 b.toNat 0) 0), .int (nz (digsI y 0 b.toNat 0)).length]
theorem digsI_len (x : Int) : ∀ (c j : Nat) (bf : Int), (digsI x j c bf).length = c
  | 0, _, _ => rfl
  | c + 1, j, bf => by rw [digsI, List.length_cons, digsI_len x c]
theorem bitI_rng (x : Int) (k : Nat) : 0 ≤ bitI x k ∧ bitI x k ≤ 1 := by unfold bitI; omega
theorem digsI_rng (x : Int) : ∀ (c j : Nat) (bf : Int), 0 ≤ bf → bf ≤ 1 → ∀ d ∈ digsI x j c bf, -1 ≤ d ∧ d ≤ 1
  | 0, _, _, _, _, d, h => absurd h (by simp [digsI])
  | c + 1, j, bf, h1, h2, d, h => by
    have hb := bitI_rng x j
    rw [digsI] at h
    rcases List.mem_cons.mp h with h | h
    · omega
    · exact digsI_rng x c (j + 1) _ hb.1 hb.2 d h
theorem ev_by_digits {m : Nat} {B : List Nat} {s : S} (b x y : Int) (h0 : 1 ≤ b) (h1 : b ≤ 32) (h2 : 0 ≤ x) (h3 : x < 2 ^ b.toNat) (h4 : 0 ≤ y) (h5 : y < 2 ^ b.toNat) :
    callN tab (m + 4) 11 B [.int b, .int x, .int y] s = .ok (byV b x y) s := by
  have hlen := digsI_len y b.toNat 0 0
  obtain ⟨e6, e7, hy⟩ := loop_by (m := m + 2) (s := s) (.int b) (.int x) (.int y) (.tup ((digsI y 0 b.toNat 0).map D.int)) (mean b x) (digsI y 0 b.toNat 0) 0 (s.length :: s.length :: B) 0 .und .und (by omega) (fun d hd => by have := digsI_rng y _ _ _ (Int.le_refl 0) (by decide) d hd; omega)
  refine run_go (d := byV b x y) (s1 := s) rfl ?_ finF_same
  dsimp only [c_by_digits]
  walk_at "st"
  refine seq_go (expr_ok (d := .non) (s1 := s) ?_) (seq_go (set_ok (d := .tup ((digsI y 0 b.toNat 0).map D.int)) (s1 := s) ?_) (seq_go (set_ok (d := .int (mean b x)) (s1 := s) ?_) (seq_go (set_ok rfl) (seq_go (for_nx (g := none) (s1 := s) (ds := enI 0 (digsI y 0 b.toNat 0)) ?_ hy te_same) (seq_rt (ret_ok ?_))))))
  · walk_at "ew"
  · walk_at "ev"
    rw [ev_digits b y h0 h1 h4 h5]
  · walk_at "ev"
    rw [ev_meaning b x h0 h1 h2 h3]
  · unfold Ev.iEnum
    rw [var_ok (d := .tup ((digsI y 0 b.toNat 0).map D.int)) rfl (by simp)]
    show Itm.ok (enumD _) none s = _
    rw [enumD_ints]
  · rw [tup_ok (cons_ok (x := .int (byS (mean b x) 0 (digsI y 0 b.toNat 0) 0)) (var_ok rfl (by simp)) (cons_ok (cnt_ne (by omega) (fun B => var_ok rfl (by simp)) (fun _ => rfl)) nil_ok)) (by simp)]
    rfl
end KL

set_option maxRecDepth 100000
namespace KL
open PySem Ev
local macro_rules | `(tactic| walk_at "st") => `(tactic| dsimp only [start0, List.length_cons, List.length_nil, List.replicate, List.cons_append, List.nil_append, Nat.reduceSub, Nat.reduceAdd])
local macro_rules | `(tactic| walk_at "ev") => `(tactic| simp (disch := omega) only [sSeq, sSet, sExpr, sRet, sRetN, sIf, sBrk, sCnt, sRaise, sNil, sAsg, sAug, sPar2, sFor, tName, tTup, tsCons, tsNil, tSub, eVar, eC, eOp, eUn, aNil, aCons, eTup, eLst, eCall, eBlt, gcF, gcE, eNot, eAnd, eOr, eIf, eChain, eTold, eMt, eSl, withPart, iR1, iR2, iR3, iSeq, Ev.iEnum, Res.bnd, Res.bndS, Res.bndA, Res.bndI, Rss.bnd, Rss.bndA, Rss.bndS, Rss.bndI, Itm.bnd, Itm.bndS, Out.bnd, Res.tst, Res.tstS, Res.tstA, gv, sv, tru, al, toRes, C.psh, endG, gOk, bAdd, bSub, uNeg, cLt, cLe, cGt, cGe, iAdd, lenD, intD, absD, if_true, if_false, Bool.false_eq_true, ite_true, ite_false, decide_true, decide_false, Bool.not_true, Bool.not_false, Bool.and_true, Bool.and_false, Bool.true_and, Bool.false_and, Int.zero_sub, and_true, true_and, and_false, false_and, not_true_eq_false, not_false_eq_true, finF_same, fin_same', cEq_int, cNe_int, decide_eq_true_eq, Bool.not_eq_true', decide_eq_false_iff_not, ite_not])
local macro_rules | `(tactic| walk_at "ew") => `(tactic| repeat (first | walk_at "ev" | (simp (disch := omega) only [ev_power_of, ev_check, ev_check_code, ev_meaning, ev_code_of, ev_widened, div_pow, mod_pow])))
def maj (a b c : Int) : Int := Builtin.bitOr (Builtin.bitOr (Builtin.bitAnd a b) (Builtin.bitAnd a c)) (Builtin.bitAnd b c)
def xo3 (a b c : Int) : Int := Builtin.bitXor (Builtin.bitXor a b) c
theorem lmin3 {a b c : Int} (h0 : 0 ≤ a) (h1 : 0 ≤ b) (h2 : 0 ≤ c) : ∃ z, lmin [a, b, c] = some z ∧ 0 ≤ z := by
  refine ⟨_, rfl, ?_⟩
  simp only [List.foldl]
  omega
theorem ev_saved {m : Nat} {B : List Nat} {s : S} (a b c : Int) (h0 : 0 ≤ a) (h1 : 0 ≤ b) (h2 : 0 ≤ c) : callN tab (m + 1) 14 B [.tup [.int a, .int b, .int c]] s = .ok (.tup [.int (xo3 a b c), .int (2 * maj a b c)]) s := by
  obtain ⟨z, hz, hz0⟩ := lmin3 h0 h1 h2
  refine run_go (d := .tup [.int (xo3 a b c), .int (2 * maj a b c)]) (s1 := s) rfl ?_ finF_same
  dsimp only [c_saved]
  walk_at "st"
  refine seq_go (guard_nx (s1 := s) ?_) (seq_go (ρ1 := [.tup [.int a, .int b, .int c], .und, .int a, .int b, .int c]) (s1 := s) (asg_ok (d := .tup [.int a, .int b, .int c]) (s1 := s) rfl |>.trans rfl) (seq_go (set_ok (d := .int (maj a b c)) (s1 := s) rfl) (seq_rt (ret_ok ?_))))
  · have e : minD [.tup [.int a, .int b, .int c]] s = .ok (.int z) s := by
      show (match (some [a, b, c]).bind lmin with | some m => Res.ok (.int m) s | none => .fail) = _
      show (match lmin [a, b, c] with | some m => Res.ok (.int m) s | none => .fail) = _
      rw [hz]
    walk_at "ev"
    simp only [List.length_cons, List.length_nil, e, finF_same]
    show Res.ok (.bl (decide (z < 0))) s = _
    rw [decide_eq_false (by omega)]
  · refine (tup_ok (cons_ok (x := .int (xo3 a b c)) (s1 := s) rfl (cons_ok (x := .int (2 * maj a b c)) (s1 := s) ?_ nil_ok)) (by simp))
    rw [op_ok (x := .int 2) (y := .int (maj a b c)) (s1 := s) (s2 := s) rfl rfl]
    exact mul_ok (mulOk_l (by decide) (by decide))
/-- the integer root, bit by bit -/
def rtUp : Nat → Int → Int → Int
  | 0, n, p => p
  | F + 1, n, p => if p * 4 ≤ n then rtUp F n (p * 4) else p
end KL

set_option maxRecDepth 100000
namespace KL
open PySem Ev
local macro_rules | `(tactic| walk_at "st") => `(tactic| dsimp only [start0, List.length_cons, List.length_nil, List.replicate, List.cons_append, List.nil_append, Nat.reduceSub, Nat.reduceAdd])
local macro_rules | `(tactic| walk_at "ev") => `(tactic| simp (disch := omega) only [sSeq, sSet, sExpr, sRet, sRetN, sIf, sBrk, sCnt, sRaise, sNil, sAsg, sAug, sPar2, sFor, tName, tTup, tsCons, tsNil, tSub, eVar, eC, eOp, eUn, aNil, aCons, eTup, eLst, eCall, eBlt, gcF, gcE, eNot, eAnd, eOr, eIf, eChain, eTold, eMt, eSl, withPart, iR1, iR2, iR3, iSeq, Ev.iEnum, Res.bnd, Res.bndS, Res.bndA, Res.bndI, Rss.bnd, Rss.bndA, Rss.bndS, Rss.bndI, Itm.bnd, Itm.bndS, Out.bnd, Res.tst, Res.tstS, Res.tstA, gv, sv, tru, al, toRes, C.psh, endG, gOk, bAdd, bSub, uNeg, cLt, cLe, cGt, cGe, iAdd, lenD, intD, absD, if_true, if_false, Bool.false_eq_true, ite_true, ite_false, decide_true, decide_false, Bool.not_true, Bool.not_false, Bool.and_true, Bool.and_false, Bool.true_and, Bool.false_and, Int.zero_sub, and_true, true_and, and_false, false_and, not_true_eq_false, not_false_eq_true, finF_same, fin_same', cEq_int, cNe_int, decide_eq_true_eq, Bool.not_eq_true', decide_eq_false_iff_not, ite_not])
local macro_rules | `(tactic| walk_at "ew") => `(tactic| repeat (first | walk_at "ev" | (simp (disch := omega) only [ev_power_of, ev_check, ev_check_code, ev_meaning, ev_code_of, ev_widened, div_pow, mod_pow])))
theorem cLe_ok {i j : Int} {s : S} : cLe (.int i) (.int j) s = .ok (.bl (decide (i ≤ j))) s := rfl
theorem cGe_ok {i j : Int} {s : S} : cGe (.int i) (.int j) s = .ok (.bl (decide (i ≥ j))) s := rfl
theorem cGt_ok {i j : Int} {s : S} : cGt (.int i) (.int j) s = .ok (.bl (decide (i > j))) s := rfl
theorem cLt_ok {i j : Int} {s : S} : cLt (.int i) (.int j) s = .ok (.bl (decide (i < j))) s := rfl
theorem add_ok {i j : Int} {s : S} : bAdd (.int i) (.int j) s = .ok (.int (i + j)) s := rfl
theorem sub_ok {i j : Int} {s : S} : bSub (.int i) (.int j) s = .ok (.int (i - j)) s := rfl
abbrev tUp : ES := eOp cLe (eOp bMul (eVar 1) (eC (.int 4))) (eVar 0)
abbrev bUp : SS := sSeq (sAug 1 iMul (eC (.int 4))) sNil
theorem loop_up {C0 : C} {s : S} (n : Int) (d2 d3 : D) : ∀ (f T : Nat) (u : Int), f < T → 1 ≤ u → (u * u ≤ n ∨ u = 1) → n < 4 * (u * u) * 4 ^ f → ∃ w : Nat, ∃ v : Int, whileL true tUp bUp C0 T [.int n, .int (u * u), d2, d3] s = .nx [.int n, .int (v * v), d2, d3] s ∧ v = u * 2 ^ w ∧ n < 4 * (v * v) ∧ w ≤ f := by
  intro f
  induction f with
  | zero =>
    intro T u hT hu h1 h2
    obtain ⟨T, rfl⟩ : ∃ t, T = t + 1 := ⟨T - 1, by omega⟩
    refine ⟨0, u, ?_, by simp, by omega, Nat.le_refl _⟩
    rw [while_f (d := .bl false) (s1 := s) ?_ rfl, te_same]
    unfold tUp
    rw [op_ok (x := .int (u * u * 4)) (y := .int n) (s1 := s) (s2 := s) ?_ rfl]
    · rw [cLe_ok, decide_eq_false (by omega)]
    · rw [op_ok (x := .int (u * u)) (y := .int 4) (s1 := s) (s2 := s) rfl rfl]
      exact mul_ok (mulOk_r (by decide) (by decide))
  | succ f ih =>
    intro T u hT hu h1 h2
    obtain ⟨T, rfl⟩ : ∃ t, T = t + 1 := ⟨T - 1, by omega⟩
    have e : eOp bMul (eVar 1) (eC (.int 4)) (C0.psh true s.length) [.int n, .int (u * u), d2, d3] s = .ok (.int (u * u * 4)) s := by
      rw [op_ok (x := .int (u * u)) (y := .int 4) (s1 := s) (s2 := s) rfl rfl]
      exact mul_ok (mulOk_r (by decide) (by decide))
    by_cases hc : u * u * 4 ≤ n
    · have h3 : (2 * u) * (2 * u) = u * u * 4 := by grind
      obtain ⟨w, v, hy, h5, h6, h7⟩ := ih T (2 * u) (by omega) (by omega) (.inl (by omega)) (by rw [h3]; rw [Int.pow_succ] at h2; grind)
      refine ⟨w + 1, v, ?_, by rw [h5, Int.pow_succ]; grind, h6, by omega⟩
      rw [while_t (d := .bl true) (s1 := s) (ρ1 := [.int n, .int (2 * u * (2 * u)), d2, d3]) (s2 := s) ?_ rfl (seq_go (ρ1 := [.int n, .int (2 * u * (2 * u)), d2, d3]) (s1 := s) ?_ rfl) te_same, hy]
      · unfold tUp
        rw [op_ok (y := .int n) (s2 := s) e rfl]
        rw [cLe_ok, decide_eq_true hc]
      · show (iMul (.int (u * u)) (.int 4) s).bndS _ = _
        rw [iMul_ok (mulOk_r (by decide) (by decide)), h3]
        rfl
    · refine ⟨0, u, ?_, by simp, by omega, Nat.zero_le _⟩
      rw [while_f (d := .bl false) (s1 := s) ?_ rfl, te_same]
      unfold tUp
      rw [op_ok (y := .int n) (s2 := s) e rfl]
      rw [cLe_ok, decide_eq_false hc]
theorem r1 (a u n : Int) (h1 : n - a * a ≥ 2 * a * u + u * u) : n - a * a - (2 * a * u + u * u) = n - (a + u) * (a + u) := by grind
theorem r2 (a u n : Int) (h : n < (a + 2 * u) * (a + 2 * u)) : n < ((a + u) + u) * ((a + u) + u) := by grind
theorem r3 (a u n : Int) (h1 : ¬ n - a * a ≥ 2 * a * u + u * u) : n < (a + u) * (a + u) := by grind
theorem aug_ok {i : Nat} {f : D → D → S → Res} {e : ES} {c : C} {ρ : Ev.Env} {s s1 s2 : S} {x y z : D} (hx : gv ρ i = x) (hx2 : x ≠ .und) (he : e c ρ s = .ok y s1) (hf : f x y s1 = .ok z s2) : sAug i f e c ρ s = .nx (sv ρ i z) s2 := by
  unfold sAug
  subst hx
  cases hg : gv ρ i <;> rw [hg] at hf hx2 <;> first | exact absurd rfl hx2 | (simp only [he, Res.bndS, hf])
theorem div4 {x : Int} {s : S} : bDiv (.int x) (.int 4) s = .ok (.int (x / 4)) s := div_ok (by decide) (big_of (by decide))
abbrev bDn : SS := (sSeq (sIf (eOp cGe (eVar 3) (eOp bAdd (eVar 2) (eVar 1))) (sSeq (sAug 3 bSub (eOp bAdd (eVar 2) (eVar 1))) (sSeq (sSet 2 (eOp bAdd (eOp bDiv (eVar 2) (eC (.int 2))) (eVar 1))) sNil)) (sSeq (sAug 2 bDiv (eC (.int 2))) sNil)) (sSeq (sAug 1 bDiv (eC (.int 4))) sNil))
/-- one turn: p and r stand for the piece and twice the root at it -/
theorem dn_turn {C0 : C} {s : S} (n p r t : Int) : bDn C0 [.int n, .int p, .int r, .int t] s = .nx [.int n, .int (p / 4), .int (if t ≥ r + p then r / 2 + p else r / 2), .int (if t ≥ r + p then t - (r + p) else t)] s := by
  have e : (eOp bAdd (eVar 2) (eVar 1)) C0 [.int n, .int p, .int r, .int t] s = .ok (.int (r + p)) s := rfl
  by_cases h : t ≥ r + p
  · rw [if_pos h, if_pos h]
    refine seq_go (ρ1 := [.int n, .int p, .int (r / 2 + p), .int (t - (r + p))]) (s1 := s) ?_ (seq_go (ρ1 := [.int n, .int (p / 4), .int (r / 2 + p), .int (t - (r + p))]) (s1 := s) (aug_ok (x := .int p) (y := .int 4) (z := .int (p / 4)) rfl (by simp) rfl div4) rfl)
    rw [if_t (d := .bl true) (s1 := s) ?_ rfl]
    · refine seq_go (ρ1 := [.int n, .int p, .int r, .int (t - (r + p))]) (s1 := s) (aug_ok (x := .int t) (y := .int (r + p)) (z := .int (t - (r + p))) rfl (by simp) e sub_ok) (seq_go (ρ1 := [.int n, .int p, .int (r / 2 + p), .int (t - (r + p))]) (s1 := s) (set_ok (d := .int (r / 2 + p)) (s1 := s) ?_) rfl)
      rw [op_ok (x := .int (r / 2)) (y := .int p) (s1 := s) (s2 := s) ?_ rfl, add_ok]
      rw [op_ok (x := .int r) (y := .int 2) (s1 := s) (s2 := s) rfl rfl, div2]
    · rw [op_ok (x := .int t) (y := .int (r + p)) (s1 := s) (s2 := s) rfl e, cGe_ok, decide_eq_true h]
  · rw [if_neg h, if_neg h]
    refine seq_go (ρ1 := [.int n, .int p, .int (r / 2), .int t]) (s1 := s) ?_ (seq_go (ρ1 := [.int n, .int (p / 4), .int (r / 2), .int t]) (s1 := s) (aug_ok (x := .int p) (y := .int 4) (z := .int (p / 4)) rfl (by simp) rfl div4) rfl)
    rw [if_f (d := .bl false) (s1 := s) ?_ rfl]
    · exact seq_go (ρ1 := [.int n, .int p, .int (r / 2), .int t]) (s1 := s) (aug_ok (x := .int r) (y := .int 2) (z := .int (r / 2)) rfl (by simp) rfl div2) rfl
    · rw [op_ok (x := .int t) (y := .int (r + p)) (s1 := s) (s2 := s) rfl e, cGe_ok, decide_eq_false h]
end KL

set_option maxRecDepth 100000
namespace KL
open PySem Ev
local macro_rules | `(tactic| walk_at "st") => `(tactic| dsimp only [start0, List.length_cons, List.length_nil, List.replicate, List.cons_append, List.nil_append, Nat.reduceSub, Nat.reduceAdd])
local macro_rules | `(tactic| walk_at "ev") => `(tactic| simp (disch := omega) only [sSeq, sSet, sExpr, sRet, sRetN, sIf, sBrk, sCnt, sRaise, sNil, sAsg, sAug, sPar2, sFor, tName, tTup, tsCons, tsNil, tSub, eVar, eC, eOp, eUn, aNil, aCons, eTup, eLst, eCall, eBlt, gcF, gcE, eNot, eAnd, eOr, eIf, eChain, eTold, eMt, eSl, withPart, iR1, iR2, iR3, iSeq, Ev.iEnum, Res.bnd, Res.bndS, Res.bndA, Res.bndI, Rss.bnd, Rss.bndA, Rss.bndS, Rss.bndI, Itm.bnd, Itm.bndS, Out.bnd, Res.tst, Res.tstS, Res.tstA, gv, sv, tru, al, toRes, C.psh, endG, gOk, bAdd, bSub, uNeg, cLt, cLe, cGt, cGe, iAdd, lenD, intD, absD, if_true, if_false, Bool.false_eq_true, ite_true, ite_false, decide_true, decide_false, Bool.not_true, Bool.not_false, Bool.and_true, Bool.and_false, Bool.true_and, Bool.false_and, Int.zero_sub, and_true, true_and, and_false, false_and, not_true_eq_false, not_false_eq_true, finF_same, fin_same', cEq_int, cNe_int, decide_eq_true_eq, Bool.not_eq_true', decide_eq_false_iff_not, ite_not])
local macro_rules | `(tactic| walk_at "ew") => `(tactic| repeat (first | walk_at "ev" | (simp (disch := omega) only [ev_power_of, ev_check, ev_check_code, ev_meaning, ev_code_of, ev_widened, div_pow, mod_pow])))
abbrev tDn : ES := eOp cGt (eVar 1) (eC (.int 0))
theorem dn_t {C0 : C} {s : S} {n p r t : Int} (h : 0 < p) : tDn C0 [.int n, .int p, .int r, .int t] s = .ok (.bl true) s := by
  unfold tDn
  rw [op_ok (x := .int p) (y := .int 0) (s1 := s) (s2 := s) rfl rfl, cGt_ok, decide_eq_true (by omega)]
theorem dn_f {C0 : C} {s : S} {n r t : Int} : tDn C0 [.int n, .int 0, .int r, .int t] s = .ok (.bl false) s := by
  unfold tDn
  rw [op_ok (x := .int 0) (y := .int 0) (s1 := s) (s2 := s) rfl rfl, cGt_ok, decide_eq_false (by omega)]
/-- the turn in terms of the root a and the step u -/
theorem dn_mean (a u n : Int) (h1 : a * a ≤ n) (h2 : n < (a + 2 * u) * (a + 2 * u)) (h3 : 0 ≤ a) (h4 : 0 < u) :
    ∃ a' : Int, (if n - a * a ≥ 2 * a * u + u * u then 2 * a * u / 2 + u * u else 2 * a * u / 2) = a' * u ∧ (if n - a * a ≥ 2 * a * u + u * u then n - a * a - (2 * a * u + u * u) else n - a * a) = n - a' * a' ∧ a' * a' ≤ n ∧ n < (a' + u) * (a' + u) ∧ 0 ≤ a' := by
  have e : 2 * a * u / 2 = a * u := by rw [Int.mul_assoc, Int.mul_ediv_cancel_left _ (by decide)]
  by_cases h : n - a * a ≥ 2 * a * u + u * u
  · refine ⟨a + u, ?_, ?_, ?_, ?_, by omega⟩
    · rw [if_pos h, e]; grind
    · rw [if_pos h]; grind
    · grind
    · have := r2 a u n h2; grind
  · refine ⟨a, ?_, ?_, h1, r3 a u n h, h3⟩
    · rw [if_neg h, e]
    · rw [if_neg h]
theorem loop_dn {C0 : C} {s : S} (n : Int) : ∀ (k T : Nat) (a : Int), k + 1 < T → a * a ≤ n → n < (a + 2 * 2 ^ k) * (a + 2 * 2 ^ k) → 0 ≤ a → ∃ r : Int, whileL true tDn bDn C0 T [.int n, .int (2 ^ k * 2 ^ k), .int (2 * a * 2 ^ k), .int (n - a * a)] s = .nx [.int n, .int 0, .int r, .int (n - r * r)] s ∧ r * r ≤ n ∧ n < (r + 1) * (r + 1) ∧ 0 ≤ r := by
  intro k
  induction k with
  | zero =>
    intro T a hT h1 h2 h3
    obtain ⟨T, rfl⟩ : ∃ t, T = t + 1 + 1 := ⟨T - 2, by omega⟩
    obtain ⟨a', e1, e2, h5, h6, h7⟩ := dn_mean a 1 n h1 h2 h3 (by decide)
    refine ⟨a', ?_, h5, h6, h7⟩
    rw [Int.pow_zero, while_t (d := .bl true) (s1 := s) (s2 := s) (ρ1 := [.int n, .int 0, .int a', .int (n - a' * a')]) (dn_t (by decide)) rfl ?_ te_same, while_f (d := .bl false) (s1 := s) dn_f rfl, te_same]
    have e9 : (1 * 1 / 4 : Int) = 0 := by decide
    rw [dn_turn, e1, e2, e9, Int.mul_one a']
  | succ k ih =>
    intro T a hT h1 h2 h3
    obtain ⟨T, rfl⟩ : ∃ t, T = t + 1 := ⟨T - 1, by omega⟩
    have hp : (0 : Int) < 2 ^ k := Int.pow_pos (by decide)
    obtain ⟨u, hu⟩ : ∃ u : Int, u = 2 ^ k := ⟨_, rfl⟩
    rw [← hu] at hp
    have e0 : (2 : Int) ^ (k + 1) = 2 * u := by rw [Int.pow_succ, hu]; omega
    rw [e0] at h2 ⊢
    obtain ⟨a', e1, e2, h5, h6, h7⟩ := dn_mean a (2 * u) n h1 h2 h3 (by omega)
    obtain ⟨r, hy, h8⟩ := ih T a' (by omega) h5 (by rw [← hu]; exact h6) h7
    refine ⟨r, ?_, h8⟩
    rw [← hu] at hy
    have e3 : 2 * u * (2 * u) / 4 = u * u := by
      have : 2 * u * (2 * u) = 4 * (u * u) := by grind
      rw [this, Int.mul_ediv_cancel_left _ (by decide)]
    have e4 : a' * (2 * u) = 2 * a' * u := by grind
    rw [while_t (d := .bl true) (s1 := s) (s2 := s) (ρ1 := [.int n, .int (u * u), .int (2 * a' * u), .int (n - a' * a')]) (dn_t (Int.mul_pos (by omega) (by omega))) rfl ?_ te_same, hy]
    rw [dn_turn, e1, e2, e3, e4]
theorem ev_root_of {m : Nat} {B : List Nat} {s : S} (n : Int) (h0 : 0 ≤ n) (h1 : n < 4 ^ 40) : ∃ r : Int, callN tab (m + 1) 16 B [.int n] s = .ok (.tup [.int r, .int (n - r * r)]) s ∧ r * r ≤ n ∧ n < (r + 1) * (r + 1) ∧ 0 ≤ r := by
  obtain ⟨w, v, hy, e, h2, h3⟩ := loop_up (C0 := ⟨callN tab m, s.length :: B⟩) (s := s) n .und .und 40 turns 1 (by decide) (by decide) (.inr rfl) (by omega)
  have e' : v = 2 ^ w := by rw [e, Int.one_mul]
  subst e'
  obtain ⟨r, hz, h4, h5, h6⟩ := loop_dn (C0 := ⟨callN tab m, s.length :: B⟩) (s := s) n w turns 0 (Nat.lt_of_le_of_lt (Nat.add_le_add_right h3 1) (by decide)) (by omega) (by grind) (by decide)
  refine ⟨r, ?_, h4, h5, h6⟩
  refine run_go (d := .tup [.int r, .int (n - r * r)]) (s1 := s) rfl ?_ finF_same
  dsimp only [c_root_of]
  walk_at "st"
  refine seq_go (guard_nx (s1 := s) ?_) (seq_go (ρ1 := [.int n, .int 1, .und, .und]) (s1 := s) (set_ok (d := .int 1) (s1 := s) rfl) ?_)
  · walk_at "ev"
    rw [decide_eq_false (by omega)]
  · refine (seq_nx (while_go hy)).trans (seq_go (ρ1 := [.int n, .int (2 ^ w * 2 ^ w), .int 0, .int n]) (s1 := s) rfl ?_)
    have e1 : (2 * 0 * 2 ^ w : Int) = 0 := by rw [Int.mul_zero, Int.zero_mul]
    have e2 : n - 0 * 0 = n := by omega
    rw [e1, e2] at hz
    exact (seq_nx (while_go hz)).trans (seq_rt (ret_ok rfl))
end KL

set_option maxRecDepth 100000
namespace KL
open PySem Ev
local macro_rules | `(tactic| walk_at "st") => `(tactic| dsimp only [start0, List.length_cons, List.length_nil, List.replicate, List.cons_append, List.nil_append, Nat.reduceSub, Nat.reduceAdd])
local macro_rules | `(tactic| walk_at "ev") => `(tactic| simp (disch := omega) only [sSeq, sSet, sExpr, sRet, sRetN, sIf, sBrk, sCnt, sRaise, sNil, sAsg, sAug, sPar2, sFor, tName, tTup, tsCons, tsNil, tSub, eVar, eC, eOp, eUn, aNil, aCons, eTup, eLst, eCall, eBlt, gcF, gcE, eNot, eAnd, eOr, eIf, eChain, eTold, eMt, eSl, withPart, iR1, iR2, iR3, iSeq, Ev.iEnum, Res.bnd, Res.bndS, Res.bndA, Res.bndI, Rss.bnd, Rss.bndA, Rss.bndS, Rss.bndI, Itm.bnd, Itm.bndS, Out.bnd, Res.tst, Res.tstS, Res.tstA, gv, sv, tru, al, toRes, C.psh, endG, gOk, bAdd, bSub, uNeg, cLt, cLe, cGt, cGe, iAdd, lenD, intD, absD, if_true, if_false, Bool.false_eq_true, ite_true, ite_false, decide_true, decide_false, Bool.not_true, Bool.not_false, Bool.and_true, Bool.and_false, Bool.true_and, Bool.false_and, Int.zero_sub, and_true, true_and, and_false, false_and, not_true_eq_false, not_false_eq_true, finF_same, fin_same', cEq_int, cNe_int, decide_eq_true_eq, Bool.not_eq_true', decide_eq_false_iff_not, ite_not])
local macro_rules | `(tactic| walk_at "ew") => `(tactic| repeat (first | walk_at "ev" | (simp (disch := omega) only [ev_power_of, ev_check, ev_check_code, ev_meaning, ev_code_of, ev_widened, div_pow, mod_pow])))
theorem r1_rng {i : Nat} {b : Int} {C0 : C} {ρ : Ev.Env} {s : S} (h0 : 1 ≤ b) (h1 : b ≤ 1000) (hb : gv ρ i = .int b) : iR1 (aCons (eVar i) aNil) C0 ρ s = .ok (rngI 0 b.toNat) none s := by
  simp only [iR1, eVar, hb, aCons, aNil, Res.bndA, Rss.bndA, Rss.bndI]
  rw [if_pos (small_of (by omega) (by omega))]
  try simp
def natD : D → Nat
  | .int i => i.toNat
  | _ => 0
theorem rngI_mem {n : Nat} {d : D} (h : d ∈ rngI 0 n) : ∃ i : Nat, i < n ∧ d = .int (0 + (i : Int)) := by
  rw [rngI0] at h
  obtain ⟨i, hi, rfl⟩ := List.mem_map.mp h
  exact ⟨i, by have := List.mem_range'_1.mp hi; omega, rfl⟩
theorem natD_int (i : Nat) : natD (.int (0 + (i : Int))) = i := by rw [natD, Int.zero_add, Int.toNat_natCast]
theorem rngI_len (n : Nat) : (rngI 0 n).length = n := by rw [rngI0]; simp
/-- range, filtered and mapped -/
theorem rngI_fm {n : Nat} {A : Type} (p : Nat → Bool) (f : Nat → A) : ((rngI 0 n).filter fun d => p (natD d)).map (fun d => f (natD d)) = ((List.range n).filter p).map f := by
  rw [rngI0, List.filter_map, List.map_map, List.range_eq_range']
  have e : ((fun d => p (natD d)) ∘ fun (i : Nat) => D.int (0 + (i : Int))) = p := by funext i; show p (natD _) = _; rw [natD_int]
  rw [e]
  exact List.map_congr_left fun i _ => by show f (natD _) = _; rw [natD_int]
def tbL (b x : Int) : List Int := ((List.range b.toNat).filter fun i => decide (bitI x i = 1)).map fun i => 2 ^ (b.toNat - 1 - i)
theorem ev_turned_bits {m : Nat} {B : List Nat} {s : S} (b x : Int) (h0 : 1 ≤ b) (h1 : b ≤ 32) (h2 : 0 ≤ x) (h3 : x < 2 ^ b.toNat) :
    callN tab (m + 3) 17 B [.int b, .int x] s = .ok (.int (tbL b x).sum) s := by
  refine run_go (d := .int (tbL b x).sum) (s1 := s) rfl ?_ finF_same
  dsimp only [c_turned_bits]
  walk_at "st"
  refine seq_go (expr_ok (d := .non) (s1 := s) ?_) (seq_rt (ret_ok ?_))
  · walk_at "ew"
  · refine blt_top (x := .ref s.length) (t := [.lst ((tbL b x).map D.int)]) (comp_ok (g := none) (ds := rngI 0 b.toNat) (r1_rng h0 (by omega) rfl) (by rw [rngI_len]; exact Nat.le_of_lt (lim_of (by omega))) ?_ ygs_map_int) ?_ rfl (fun _ => by simp)
    · have e : (tbL b x).map D.int = ((rngI 0 b.toNat).filter fun d => decide (bitI x (natD d) = 1)).map (fun d => D.int (2 ^ (b.toNat - 1 - natD d))) := by
        rw [rngI_fm (fun i => decide (bitI x i = 1)) (fun i => D.int (2 ^ (b.toNat - 1 - i))), tbL, List.map_map]
        rfl
      rw [e]
      refine compL_filter (p := fun d => decide (bitI x (natD d) = 1)) rfl _ ?_ ?_
      · intro d hd
        obtain ⟨i, hi, rfl⟩ := rngI_mem hd
        rw [op_ok (x := .int (bitI x i)) (y := .int 1) (s1 := s) (s2 := s) (bit_expr (m := m + 1) (i := 1) (q := 2) (j := i) (x := x) (by omega) rfl rfl) rfl, cEq_int]
        rw [natD_int]
      · intro d hd hp
        obtain ⟨i, hi, rfl⟩ := rngI_mem hd
        rw [call_ok (cons_ok (x := .int ((b.toNat - 1 - i : Nat) : Int)) (xs := []) (s1 := s) (s2 := s) ?_ rfl)]
        · dsimp only
          rw [pow_k (by omega), natD_int]
        · rw [op_ok (x := .int (b - 1)) (y := .int (0 + (i : Int))) (s1 := s) (s2 := s) rfl rfl, sub_ok]
          have : b - 1 - (0 + (i : Int)) = ((b.toNat - 1 - i : Nat) : Int) := by omega
          rw [this]
    · exact sumD_ints (seqOf_top)
end KL

set_option maxRecDepth 100000
namespace KL
open PySem Ev
local macro_rules | `(tactic| walk_at "st") => `(tactic| dsimp only [start0, List.length_cons, List.length_nil, List.replicate, List.cons_append, List.nil_append, Nat.reduceSub, Nat.reduceAdd])
local macro_rules | `(tactic| walk_at "ev") => `(tactic| simp (disch := omega) only [sSeq, sSet, sExpr, sRet, sRetN, sIf, sBrk, sCnt, sRaise, sNil, sAsg, sAug, sPar2, sFor, tName, tTup, tsCons, tsNil, tSub, eVar, eC, eOp, eUn, aNil, aCons, eTup, eLst, eCall, eBlt, gcF, gcE, eNot, eAnd, eOr, eIf, eChain, eTold, eMt, eSl, withPart, iR1, iR2, iR3, iSeq, Ev.iEnum, Res.bnd, Res.bndS, Res.bndA, Res.bndI, Rss.bnd, Rss.bndA, Rss.bndS, Rss.bndI, Itm.bnd, Itm.bndS, Out.bnd, Res.tst, Res.tstS, Res.tstA, gv, sv, tru, al, toRes, C.psh, endG, gOk, bAdd, bSub, uNeg, cLt, cLe, cGt, cGe, iAdd, lenD, intD, absD, if_true, if_false, Bool.false_eq_true, ite_true, ite_false, decide_true, decide_false, Bool.not_true, Bool.not_false, Bool.and_true, Bool.and_false, Bool.true_and, Bool.false_and, Int.zero_sub, and_true, true_and, and_false, false_and, not_true_eq_false, not_false_eq_true, finF_same, fin_same', cEq_int, cNe_int, decide_eq_true_eq, Bool.not_eq_true', decide_eq_false_iff_not, ite_not])
local macro_rules | `(tactic| walk_at "ew") => `(tactic| repeat (first | walk_at "ev" | (simp (disch := omega) only [ev_power_of, ev_check, ev_check_code, ev_meaning, ev_code_of, ev_widened, div_pow, mod_pow])))
theorem ixL_nat {ds : List D} {i : Nat} {z : Int} {s : S} (h : ds[i]? = some (.int z)) : ixL ds ((i : Nat) : Int) s = .ok (.int z) s := by
  have hi : i < ds.length := (List.getElem?_eq_some_iff.mp h).1
  have e : L2.atI ds ((i : Nat) : Int) = some (.int z) := by
    unfold L2.atI L2.ixN
    rw [if_pos (by omega), if_pos (by omega)]
    simpa using h
  unfold ixL
  rw [e]
theorem ixL_last {ds : List D} {z : Int} {s : S} (h : ds.getLast? = some (.int z)) : ixL ds (-1) s = .ok (.int z) s := by
  have hn : ds.length ≠ 0 := fun e => by rw [List.length_eq_zero_iff] at e; subst e; cases h
  have e : L2.atI ds (-1) = some (.int z) := by
    unfold L2.atI L2.ixN
    rw [if_neg (by decide), if_pos (by omega)]
    have e2 : (-1 + (ds.length : Int)).toNat = ds.length - 1 := by omega
    rw [e2, ← h, List.getLast?_eq_getElem?]
    rfl
  unfold ixL
  rw [e]
/-- the places of ones, the least first -/
def onL (b x : Int) : List Nat := (List.range b.toNat).filter fun i => decide (bitI x i = 1)
def cntV (b x : Int) : D := .tup [.int (onL b x).length, .int (match (onL b x).getLast? with | some z => b - 1 - (z : Int) | none => b), .int (match (onL b x).head? with | some z => (z : Int) | none => b)]
abbrev natI (l : List Nat) : List D := (l.map fun (i : Nat) => ((i : Nat) : Int)).map D.int
theorem ev_counts {m : Nat} {B : List Nat} {s : S} (b x : Int) (h0 : 1 ≤ b) (h1 : b ≤ 32) (h2 : 0 ≤ x) (h3 : x < 2 ^ b.toNat) :
    callN tab (m + 3) 18 B [.int b, .int x] s = .ok (cntV b x) s := by
  obtain ⟨bits, hbits⟩ : ∃ l : List Int, l = (List.range b.toNat).map (bitI x) := ⟨_, rfl⟩
  obtain ⟨ones, hones⟩ : ∃ l : List D, l = natI (onL b x) := ⟨_, rfl⟩
  have hlen : ones.length = (onL b x).length := by rw [hones]; simp
  refine run_go (d := cntV b x) (s1 := s ++ ([.lst (bits.map D.int)] ++ [.lst ones])) rfl ?_ (finF_pln (by unfold cntV; simp [D.yg, D.ygs]) (fun _ => by unfold cntV; simp))
  rw [← List.append_assoc]
  obtain ⟨s1, hs1⟩ : ∃ s1 : S, s1 = s ++ [.lst (bits.map D.int)] := ⟨_, rfl⟩
  have hl1 : s1.length = s.length + 1 := by rw [hs1]; simp
  have hg1 : ∀ t : S, lstOf (s1 ++ t) s.length = some (bits.map D.int) := fun t => by rw [hs1]; simp [lstOf]
  have hg2 : lstOf (s1 ++ [.lst ones]) s1.length = some ones := top_lst
  rw [← hs1]
  dsimp only [c_counts]
  walk_at "st"
  refine seq_go (expr_ok (d := .non) (s1 := s) ?_) (seq_go (ρ1 := [.int b, .int x, .ref s.length, .und, .und]) (s1 := s1) (set_ok (d := .ref s.length) (s1 := s1) ?_) (seq_go (ρ1 := [.int b, .int x, .ref s.length, .ref s1.length, .und]) (s1 := s1 ++ [.lst ones]) (set_ok (d := .ref s1.length) (s1 := s1 ++ [.lst ones]) ?_) (seq_rt (ret_ok ?_))))
  · walk_at "ew"
  · rw [hs1]
    refine comp_ok (g := none) (ds := rngI 0 b.toNat) (r1_rng h0 (by omega) rfl) (by rw [rngI_len]; exact Nat.le_of_lt (lim_of (by omega))) ?_ ygs_map_int
    have e : bits.map D.int = (rngI 0 b.toNat).map fun d => D.int (bitI x (natD d)) := by
      rw [hbits, rngI0, List.map_map, List.map_map, List.range_eq_range']
      exact List.map_congr_left fun i _ => by show _ = D.int (bitI x (natD _)); rw [natD_int]; rfl
    rw [e]
    refine compL_map rfl _ ?_
    intro d hd
    obtain ⟨i, hi, rfl⟩ := rngI_mem hd
    rw [natD_int]
    exact bit_expr (m := m + 1) (i := 1) (q := 4) (j := i) (x := x) (by omega) rfl rfl
  · refine comp_ok (g := none) (ds := rngI 0 b.toNat) (r1_rng h0 (by omega) rfl) (by rw [rngI_len]; exact Nat.le_of_lt (lim_of (by omega))) ?_ (by rw [hones]; exact ygs_map_int)
    have e : ones = ((rngI 0 b.toNat).filter fun d => decide (bitI x (natD d) = 1)).map (fun d => D.int ((natD d : Nat) : Int)) := by
      rw [rngI_fm (fun i => decide (bitI x i = 1)) (fun i => D.int ((i : Nat) : Int)), hones, onL, natI, List.map_map]
      rfl
    rw [e]
    refine compL_filter (p := fun d => decide (bitI x (natD d) = 1)) rfl _ ?_ ?_
    · intro d hd
      obtain ⟨i, hi, rfl⟩ := rngI_mem hd
      rw [natD_int, op_ok (x := .int (bitI x i)) (y := .int 1) (s1 := s1) (s2 := s1) ?_ rfl, cEq_int]
      rw [op_ok (x := .ref s.length) (y := .int (0 + (i : Int))) (s1 := s1) (s2 := s1) rfl rfl]
      have := hg1 []
      rw [List.append_nil] at this
      simp only [bIx, this]
      rw [Int.zero_add]
      refine ixL_nat ?_
      rw [hbits]
      simp [hi]
    · intro d hd hp
      obtain ⟨i, hi, rfl⟩ := rngI_mem hd
      rw [natD_int]
      show Res.ok (.int (0 + (i : Int))) s1 = _
      rw [Int.zero_add]
  · have hlen2 : eBlt lenD (aCons (eVar 3) aNil) ⟨callN tab (m + 2), s.length :: B⟩ [.int b, .int x, .ref s.length, .ref s1.length, .und] (s1 ++ [.lst ones]) = .ok (.int (onL b x).length) (s1 ++ [.lst ones]) := by
      unfold eBlt gcF
      simp only [aCons, aNil, eVar, gv, Res.bndA, Rss.bndA, Rss.bnd]
      show finF _ (lenD [.ref s1.length] (s1 ++ [.lst ones])) = _
      rw [lenD_lst hg2, finF_same, hlen]
    have ht : tru (s1 ++ [.lst ones]) (.ref s1.length) = some (!ones.isEmpty) := by simp [tru]
    have hv : eVar 3 ⟨callN tab (m + 2), s.length :: B⟩ [.int b, .int x, .ref s.length, .ref s1.length, .und] (s1 ++ [.lst ones]) = .ok (.ref s1.length) (s1 ++ [.lst ones]) := rfl
    have hif : ∀ (a e : ES), eIf (eVar 3) a e ⟨callN tab (m + 2), s.length :: B⟩ [.int b, .int x, .ref s.length, .ref s1.length, .und] (s1 ++ [.lst ones]) = if ones.isEmpty = false then a ⟨callN tab (m + 2), s.length :: B⟩ [.int b, .int x, .ref s.length, .ref s1.length, .und] (s1 ++ [.lst ones]) else e ⟨callN tab (m + 2), s.length :: B⟩ [.int b, .int x, .ref s.length, .ref s1.length, .und] (s1 ++ [.lst ones]) := by
      intro a e
      unfold eIf
      rw [hv]
      simp only [Res.tst, ht]
      cases ones.isEmpty <;> rfl
    refine tup_ok (cons_ok hlen2 (cons_ok (s2 := s1 ++ [.lst ones]) (s1 := s1 ++ [.lst ones]) ?_ (cons_ok (s2 := s1 ++ [.lst ones]) (s1 := s1 ++ [.lst ones]) ?_ nil_ok))) (by simp)
    · rw [hif]
      cases hq : onL b x with
      | nil => rw [hones, hq]; rfl
      | cons z r =>
        have hne : ones.isEmpty = false := by rw [hones, hq]; rfl
        rw [if_pos hne]
        obtain ⟨w, hw⟩ : ∃ w, (z :: r).getLast? = some w := ⟨_, List.getLast?_eq_some_getLast (by simp)⟩
        rw [hw]
        rw [op_ok (x := .int (b - 1)) (y := .int (w : Int)) (s1 := s1 ++ [.lst ones]) (s2 := s1 ++ [.lst ones]) rfl ?_, sub_ok]
        rw [op_ok (x := .ref s1.length) (y := .int (-1)) (s1 := s1 ++ [.lst ones]) (s2 := s1 ++ [.lst ones]) rfl rfl]
        simp only [bIx, hg2]
        refine ixL_last ?_
        rw [hones, hq, natI, List.map_map, List.getLast?_map, hw]
        rfl
    · rw [hif]
      cases hq : onL b x with
      | nil => rw [hones, hq]; rfl
      | cons z r =>
        have hne : ones.isEmpty = false := by rw [hones, hq]; rfl
        rw [if_pos hne]
        rw [op_ok (x := .ref s1.length) (y := .int 0) (s1 := s1 ++ [.lst ones]) (s2 := s1 ++ [.lst ones]) rfl rfl]
        simp only [bIx, hg2]
        refine ixL_nat (i := 0) ?_
        rw [hones, hq]
        rfl
end KL

set_option maxRecDepth 100000
namespace KL
open PySem Ev
local macro_rules | `(tactic| walk_at "st") => `(tactic| dsimp only [start0, List.length_cons, List.length_nil, List.replicate, List.cons_append, List.nil_append, Nat.reduceSub, Nat.reduceAdd])
local macro_rules | `(tactic| walk_at "ev") => `(tactic| simp (disch := omega) only [sSeq, sSet, sExpr, sRet, sRetN, sIf, sBrk, sCnt, sRaise, sNil, sAsg, sAug, sPar2, sFor, tName, tTup, tsCons, tsNil, tSub, eVar, eC, eOp, eUn, aNil, aCons, eTup, eLst, eCall, eBlt, gcF, gcE, eNot, eAnd, eOr, eIf, eChain, eTold, eMt, eSl, withPart, iR1, iR2, iR3, iSeq, Ev.iEnum, Res.bnd, Res.bndS, Res.bndA, Res.bndI, Rss.bnd, Rss.bndA, Rss.bndS, Rss.bndI, Itm.bnd, Itm.bndS, Out.bnd, Res.tst, Res.tstS, Res.tstA, gv, sv, tru, al, toRes, C.psh, endG, gOk, bAdd, bSub, uNeg, cLt, cLe, cGt, cGe, iAdd, lenD, intD, absD, if_true, if_false, Bool.false_eq_true, ite_true, ite_false, decide_true, decide_false, Bool.not_true, Bool.not_false, Bool.and_true, Bool.and_false, Bool.true_and, Bool.false_and, Int.zero_sub, and_true, true_and, and_false, false_and, not_true_eq_false, not_false_eq_true, finF_same, fin_same', cEq_int, cNe_int, decide_eq_true_eq, Bool.not_eq_true', decide_eq_false_iff_not, ite_not])
local macro_rules | `(tactic| walk_at "ew") => `(tactic| repeat (first | walk_at "ev" | (simp (disch := omega) only [ev_power_of, ev_check, ev_check_code, ev_meaning, ev_code_of, ev_widened, div_pow, mod_pow])))
/-- what is given on in one round, and what is left -/
def sv3 : List Int → List Int
  | a :: b :: c :: r => xo3 a b c :: 2 * maj a b c :: sv3 r
  | _ => []
def lf3 : List Int → List Int
  | _ :: _ :: _ :: r => lf3 r
  | r => r
abbrev tS : ES := eOp cGt (eBlt lenD (aCons (eVar 1) aNil)) (eC (.int 2))
abbrev bSi : SS := (sSeq (sExpr (eMt isL mExtend (eVar 3) (aCons (eCall 14 (aCons (eTup (aCons (eOp bIx (eVar 1) (eC (.int 0))) (aCons (eOp bIx (eVar 1) (eC (.int 1))) (aCons (eOp bIx (eVar 1) (eC (.int 2))) aNil)))) aNil)) aNil))) (sSeq (sSet 1 (eSl (eVar 1) (some (eC (.int 3))) none)) sNil))
theorem tS_ok {C0 : C} {s : S} {a k w v : D} {p : Nat} {l : List Int} (h : lstOf s p = some (l.map D.int)) : tS C0 [a, .ref p, k, w, v] s = .ok (.bl (decide ((l.length : Int) > 2))) s := by
  unfold tS
  rw [op_ok (x := .int l.length) (y := .int 2) (s1 := s) (s2 := s) ?_ rfl, cGt_ok]
  unfold eBlt gcF
  simp only [aCons, aNil, eVar, gv, Res.bndA, Rss.bndA, Rss.bnd]
  show finF _ (lenD [.ref p] s) = _
  rw [lenD_lst h, finF_same, List.length_map]
theorem cut3 (a b c : D) (r : List D) : cutD (a :: b :: c :: r) (some 3) none = r := by
  simp [cutD, HT.sIx]
  try omega
theorem turn_in {m : Nat} {B : List Nat} {s : S} {x0 k v : D} {p q : Nat} {a b c : Int} {r acc : List Int} (ha : 0 ≤ a) (hb : 0 ≤ b) (hc : 0 ≤ c) (hp : lstOf s p = some ((a :: b :: c :: r).map D.int)) (hq : s[q]? = some (.lst (acc.map D.int))) (hpq : p ≠ q) (hl : acc.length ≤ 1000) :
    bSi ⟨callN tab (m + 1), B⟩ [x0, .ref p, k, .ref q, v] s = .nx [x0, .ref s.length, k, .ref q, v] (s.set q (.lst ((acc ++ [xo3 a b c, 2 * maj a b c]).map D.int)) ++ [.lst (r.map D.int)]) := by
  have i0 : eOp bIx (eVar 1) (eC (.int 0)) ⟨callN tab (m + 1), B⟩ [x0, .ref p, k, .ref q, v] s = .ok (.int a) s := by
    rw [op_ok (x := .ref p) (y := .int 0) (s1 := s) (s2 := s) rfl rfl]
    simp only [bIx, hp]
    exact ixL_nat (i := 0) rfl
  have i1 : eOp bIx (eVar 1) (eC (.int 1)) ⟨callN tab (m + 1), B⟩ [x0, .ref p, k, .ref q, v] s = .ok (.int b) s := by
    rw [op_ok (x := .ref p) (y := .int 1) (s1 := s) (s2 := s) rfl rfl]
    simp only [bIx, hp]
    exact ixL_nat (i := 1) rfl
  have i2 : eOp bIx (eVar 1) (eC (.int 2)) ⟨callN tab (m + 1), B⟩ [x0, .ref p, k, .ref q, v] s = .ok (.int c) s := by
    rw [op_ok (x := .ref p) (y := .int 2) (s1 := s) (s2 := s) rfl rfl]
    simp only [bIx, hp]
    exact ixL_nat (i := 2) rfl
  have hcall : eCall 14 (aCons (eTup (aCons (eOp bIx (eVar 1) (eC (.int 0))) (aCons (eOp bIx (eVar 1) (eC (.int 1))) (aCons (eOp bIx (eVar 1) (eC (.int 2))) aNil)))) aNil) ⟨callN tab (m + 1), B⟩ [x0, .ref p, k, .ref q, v] s = .ok (.tup [.int (xo3 a b c), .int (2 * maj a b c)]) s := by
    rw [call_ok (cons_ok (x := .tup [.int a, .int b, .int c]) (xs := []) (s1 := s) (s2 := s) (tup_ok (cons_ok i0 (cons_ok i1 (cons_ok i2 nil_ok))) (by simp)) nil_ok)]
    dsimp only
    rw [ev_saved a b c ha hb hc]
  have hL : isL (.ref q) s = true := by simp [isL, lstOf, hq]
  refine seq_go (ρ1 := [x0, .ref p, k, .ref q, v]) (s1 := s.set q (.lst ((acc ++ [xo3 a b c, 2 * maj a b c]).map D.int))) (expr_ok (d := .non) ?_) (seq_go (ρ1 := [x0, .ref s.length, k, .ref q, v]) (s1 := s.set q (.lst ((acc ++ [xo3 a b c, 2 * maj a b c]).map D.int)) ++ [.lst (r.map D.int)]) (set_ok (d := .ref s.length) ?_) rfl)
  · unfold eMt
    rw [var_ok (d := .ref q) rfl (by simp)]
    show (if isL (.ref q) s = true then _ else _) = _
    rw [if_pos hL, cons_ok hcall nil_ok]
    show extL B q [.int (xo3 a b c), .int (2 * maj a b c)] s = _
    unfold extL
    rw [hq]
    dsimp only
    rw [if_pos ⟨by rw [List.length_map]; exact Nat.le_of_lt (lim_of (by simp; omega)), woks_ints (l := [xo3 a b c, 2 * maj a b c])⟩, List.map_append]
    rfl
  · have hp2 : lstOf (s.set q (.lst ((acc ++ [xo3 a b c, 2 * maj a b c]).map D.int))) p = some ((a :: b :: c :: r).map D.int) := by
      rw [← hp]
      unfold lstOf
      rw [List.getElem?_set_ne (Ne.symm hpq)]
    unfold eSl
    rw [var_ok (d := .ref p) rfl (by simp)]
    show slD (.ref p) (some 3) none _ = _
    simp only [slD, hp2, List.map_cons, cut3, al, List.length_set]
end KL

set_option maxRecDepth 100000
namespace KL
open PySem Ev
local macro_rules | `(tactic| walk_at "st") => `(tactic| dsimp only [start0, List.length_cons, List.length_nil, List.replicate, List.cons_append, List.nil_append, Nat.reduceSub, Nat.reduceAdd])
local macro_rules | `(tactic| walk_at "ev") => `(tactic| simp (disch := omega) only [sSeq, sSet, sExpr, sRet, sRetN, sIf, sBrk, sCnt, sRaise, sNil, sAsg, sAug, sPar2, sFor, tName, tTup, tsCons, tsNil, tSub, eVar, eC, eOp, eUn, aNil, aCons, eTup, eLst, eCall, eBlt, gcF, gcE, eNot, eAnd, eOr, eIf, eChain, eTold, eMt, eSl, withPart, iR1, iR2, iR3, iSeq, Ev.iEnum, Res.bnd, Res.bndS, Res.bndA, Res.bndI, Rss.bnd, Rss.bndA, Rss.bndS, Rss.bndI, Itm.bnd, Itm.bndS, Out.bnd, Res.tst, Res.tstS, Res.tstA, gv, sv, tru, al, toRes, C.psh, endG, gOk, bAdd, bSub, uNeg, cLt, cLe, cGt, cGe, iAdd, lenD, intD, absD, if_true, if_false, Bool.false_eq_true, ite_true, ite_false, decide_true, decide_false, Bool.not_true, Bool.not_false, Bool.and_true, Bool.and_false, Bool.true_and, Bool.false_and, Int.zero_sub, and_true, true_and, and_false, false_and, not_true_eq_false, not_false_eq_true, finF_same, fin_same', cEq_int, cNe_int, decide_eq_true_eq, Bool.not_eq_true', decide_eq_false_iff_not, ite_not])
local macro_rules | `(tactic| walk_at "ew") => `(tactic| repeat (first | walk_at "ev" | (simp (disch := omega) only [ev_power_of, ev_check, ev_check_code, ev_meaning, ev_code_of, ev_widened, div_pow, mod_pow])))
theorem te_off {n : Nat} {ρ : Ev.Env} {s : S} : turnEnd false n ρ s .nx = .nx ρ s := by unfold turnEnd; simp
theorem loop_in {m : Nat} {B : List Nat} (s0 : S) (x0 k v : D) : ∀ (n : Nat) (l acc : List Int) (T p q : Nat) (s : S), l.length ≤ n → n < T → (∀ z ∈ l, 0 ≤ z) → lstOf s p = some (l.map D.int) → s[q]? = some (.lst (acc.map D.int)) → p ≠ q → s0.length ≤ q → (∃ t, s = s0 ++ t) → acc.length + l.length ≤ 900 →
    ∃ (s' : S) (p' : Nat), whileL false tS bSi ⟨callN tab (m + 1), B⟩ T [x0, .ref p, k, .ref q, v] s = .nx [x0, .ref p', k, .ref q, v] s' ∧ lstOf s' p' = some ((lf3 l).map D.int) ∧ s'[q]? = some (.lst ((acc ++ sv3 l).map D.int)) ∧ ∃ t, s' = s0 ++ t := by
  intro n
  induction n with
  | zero =>
    intro l acc T p q s hl hT hz hp hq hpq h0 ht ha
    obtain ⟨T, rfl⟩ : ∃ t, T = t + 1 := ⟨T - 1, by omega⟩
    have : l = [] := List.length_eq_zero_iff.mp (by omega)
    subst this
    exact ⟨s, p, by rw [while_f (d := .bl false) (s1 := s) (tS_ok hp) rfl, te_off], hp, by simpa [sv3] using hq, ht⟩
  | succ n ih =>
    intro l acc T p q s hl hT hz hp hq hpq h0 ht ha
    obtain ⟨T, rfl⟩ : ∃ t, T = t + 1 := ⟨T - 1, by omega⟩
    match l, hl, hz, hp, ha with
    | [], hl, hz, hp, ha => exact ⟨s, p, by rw [while_f (d := .bl false) (s1 := s) (tS_ok hp) rfl, te_off], hp, by simpa [sv3] using hq, ht⟩
    | [a], hl, hz, hp, ha => exact ⟨s, p, by rw [while_f (d := .bl false) (s1 := s) (tS_ok hp) rfl, te_off], hp, by simpa [sv3] using hq, ht⟩
    | [a, b], hl, hz, hp, ha => exact ⟨s, p, by rw [while_f (d := .bl false) (s1 := s) (tS_ok hp) rfl, te_off], hp, by simpa [sv3] using hq, ht⟩
    | a :: b :: c :: r, hl, hz, hp, ha =>
      simp only [List.length_cons] at hl ha
      have hqs : q < s.length := (List.getElem?_eq_some_iff.mp hq).1
      obtain ⟨s', p', hy, g1, g2, g3⟩ := ih r (acc ++ [xo3 a b c, 2 * maj a b c]) T s.length q (s.set q (.lst ((acc ++ [xo3 a b c, 2 * maj a b c]).map D.int)) ++ [.lst (r.map D.int)]) (by omega) (by omega) (fun z h => hz z (by simp [h]))
        (by unfold lstOf; rw [List.getElem?_append_right (by simp)]; simp)
        (by rw [List.getElem?_append_left (by simpa using hqs)]; simp [hqs])
        (by omega) h0
        (by obtain ⟨t, rfl⟩ := ht; exact ⟨t.set (q - s0.length) (.lst ((acc ++ [xo3 a b c, 2 * maj a b c]).map D.int)) ++ [.lst (r.map D.int)], by rw [List.set_append_right _ _ h0, List.append_assoc]⟩)
        (by simp; omega)
      refine ⟨s', p', ?_, g1, by rw [g2, sv3, List.append_assoc]; rfl, g3⟩
      rw [while_t (d := .bl true) (s1 := s) ((tS_ok hp).trans ?_) rfl (turn_in (hz a (by simp)) (hz b (by simp)) (hz c (by simp)) hp hq hpq (by omega)) te_off, hy]
      rw [decide_eq_true (by simp only [List.length_cons]; omega)]
end KL

set_option maxRecDepth 100000
namespace KL
open PySem Ev
local macro_rules | `(tactic| walk_at "st") => `(tactic| dsimp only [start0, List.length_cons, List.length_nil, List.replicate, List.cons_append, List.nil_append, Nat.reduceSub, Nat.reduceAdd])
local macro_rules | `(tactic| walk_at "ev") => `(tactic| simp (disch := omega) only [sSeq, sSet, sExpr, sRet, sRetN, sIf, sBrk, sCnt, sRaise, sNil, sAsg, sAug, sPar2, sFor, tName, tTup, tsCons, tsNil, tSub, eVar, eC, eOp, eUn, aNil, aCons, eTup, eLst, eCall, eBlt, gcF, gcE, eNot, eAnd, eOr, eIf, eChain, eTold, eMt, eSl, withPart, iR1, iR2, iR3, iSeq, Ev.iEnum, Res.bnd, Res.bndS, Res.bndA, Res.bndI, Rss.bnd, Rss.bndA, Rss.bndS, Rss.bndI, Itm.bnd, Itm.bndS, Out.bnd, Res.tst, Res.tstS, Res.tstA, gv, sv, tru, al, toRes, C.psh, endG, gOk, bAdd, bSub, uNeg, cLt, cLe, cGt, cGe, iAdd, lenD, intD, absD, if_true, if_false, Bool.false_eq_true, ite_true, ite_false, decide_true, decide_false, Bool.not_true, Bool.not_false, Bool.and_true, Bool.and_false, Bool.true_and, Bool.false_and, Int.zero_sub, and_true, true_and, and_false, false_and, not_true_eq_false, not_false_eq_true, finF_same, fin_same', cEq_int, cNe_int, decide_eq_true_eq, Bool.not_eq_true', decide_eq_false_iff_not, ite_not])
local macro_rules | `(tactic| walk_at "ew") => `(tactic| repeat (first | walk_at "ev" | (simp (disch := omega) only [ev_power_of, ev_check, ev_check_code, ev_meaning, ev_code_of, ev_widened, div_pow, mod_pow])))
theorem and_nat (x y : Nat) : Builtin.bitAnd (x : Int) (y : Int) = ((x &&& y : Nat) : Int) := by
  unfold Builtin.bitAnd
  simp
theorem or_nat (x y : Nat) : Builtin.bitOr (x : Int) (y : Int) = ((x ||| y : Nat) : Int) := by
  unfold Builtin.bitOr Builtin.bitAnd Builtin.bitNot
  have h1 : decide ((0 : Int) ≤ -(x : Int) - 1) = false := decide_eq_false (by omega)
  have h2 : decide ((0 : Int) ≤ -(y : Int) - 1) = false := decide_eq_false (by omega)
  simp only [h1, h2]
  have e1 : (-(-(x : Int) - 1) - 1).toNat = x := by omega
  have e2 : (-(-(y : Int) - 1) - 1).toNat = y := by omega
  simp only [e1, e2]
  omega
theorem nat_of {x : Int} (h : 0 ≤ x) : ∃ n : Nat, x = n := ⟨x.toNat, by omega⟩
theorem maj_nat (a b c : Nat) : maj a b c = (((a &&& b) ||| (a &&& c) ||| (b &&& c) : Nat) : Int) := by
  unfold maj
  rw [and_nat, and_nat, and_nat, or_nat, or_nat]
theorem xor_nn {x y : Int} (h1 : 0 ≤ x) (h2 : 0 ≤ y) : 0 ≤ Builtin.bitXor x y := by
  obtain ⟨a, rfl⟩ := nat_of h1
  obtain ⟨b, rfl⟩ := nat_of h2
  unfold Builtin.bitXor
  rw [and_nat, or_nat]
  have e1 : a &&& b ≤ a := Nat.and_le_left
  have e2 : a ≤ a ||| b := Nat.left_le_or
  omega
theorem maj_nn {a b c : Int} (h0 : 0 ≤ a) (h1 : 0 ≤ b) (h2 : 0 ≤ c) : 0 ≤ maj a b c := by
  obtain ⟨a, rfl⟩ := nat_of h0
  obtain ⟨b, rfl⟩ := nat_of h1
  obtain ⟨c, rfl⟩ := nat_of h2
  rw [maj_nat]
  omega
theorem xo3_nn {a b c : Int} (h0 : 0 ≤ a) (h1 : 0 ≤ b) (h2 : 0 ≤ c) : 0 ≤ xo3 a b c := xor_nn (xor_nn h0 h1) h2
def fold3 (l : List Int) : List Int := sv3 l ++ lf3 l
theorem fold3_cons (a b c : Int) (r : List Int) : fold3 (a :: b :: c :: r) = xo3 a b c :: 2 * maj a b c :: fold3 r := by
  unfold fold3
  rw [sv3, lf3]
  rfl
end KL

set_option maxRecDepth 100000
namespace KL
open PySem Ev
local macro_rules | `(tactic| walk_at "st") => `(tactic| dsimp only [start0, List.length_cons, List.length_nil, List.replicate, List.cons_append, List.nil_append, Nat.reduceSub, Nat.reduceAdd])
local macro_rules | `(tactic| walk_at "ev") => `(tactic| simp (disch := omega) only [sSeq, sSet, sExpr, sRet, sRetN, sIf, sBrk, sCnt, sRaise, sNil, sAsg, sAug, sPar2, sFor, tName, tTup, tsCons, tsNil, tSub, eVar, eC, eOp, eUn, aNil, aCons, eTup, eLst, eCall, eBlt, gcF, gcE, eNot, eAnd, eOr, eIf, eChain, eTold, eMt, eSl, withPart, iR1, iR2, iR3, iSeq, Ev.iEnum, Res.bnd, Res.bndS, Res.bndA, Res.bndI, Rss.bnd, Rss.bndA, Rss.bndS, Rss.bndI, Itm.bnd, Itm.bndS, Out.bnd, Res.tst, Res.tstS, Res.tstA, gv, sv, tru, al, toRes, C.psh, endG, gOk, bAdd, bSub, uNeg, cLt, cLe, cGt, cGe, iAdd, lenD, intD, absD, if_true, if_false, Bool.false_eq_true, ite_true, ite_false, decide_true, decide_false, Bool.not_true, Bool.not_false, Bool.and_true, Bool.and_false, Bool.true_and, Bool.false_and, Int.zero_sub, and_true, true_and, and_false, false_and, not_true_eq_false, not_false_eq_true, finF_same, fin_same', cEq_int, cNe_int, decide_eq_true_eq, Bool.not_eq_true', decide_eq_false_iff_not, ite_not])
local macro_rules | `(tactic| walk_at "ew") => `(tactic| repeat (first | walk_at "ev" | (simp (disch := omega) only [ev_power_of, ev_check, ev_check_code, ev_meaning, ev_code_of, ev_widened, div_pow, mod_pow])))
theorem fold3_nn : ∀ l : List Int, (∀ z ∈ l, 0 ≤ z) → ∀ z ∈ fold3 l, 0 ≤ z
  | [], _, z, h => absurd h (by simp [fold3, sv3, lf3])
  | [a], hz, z, h => hz z (by simpa [fold3, sv3, lf3] using h)
  | [a, b], hz, z, h => hz z (by simpa [fold3, sv3, lf3] using h)
  | a :: b :: c :: r, hz, z, h => by
    rw [fold3_cons] at h
    have ha := hz a (by simp)
    have hb := hz b (by simp)
    have hc := hz c (by simp)
    rcases List.mem_cons.mp h with h | h
    · rw [h]; exact xo3_nn ha hb hc
    · rcases List.mem_cons.mp h with h | h
      · have := maj_nn ha hb hc; omega
      · exact fold3_nn r (fun w hw => hz w (by simp [hw])) z h
theorem fold3_len : ∀ l : List Int, (fold3 l).length = 2 * (l.length / 3) + l.length % 3
  | [] => by simp [fold3, sv3, lf3]
  | [a] => by simp [fold3, sv3, lf3]
  | [a, b] => by simp [fold3, sv3, lf3]
  | a :: b :: c :: r => by
    rw [fold3_cons, List.length_cons, List.length_cons, fold3_len r]
    simp only [List.length_cons]
    omega
/-- rounds and what is left -/
def rnd : Nat → List Int → Nat × List Int
  | 0, l => (0, l)
  | F + 1, l => if 2 < l.length then ((rnd F (fold3 l)).1 + 1, (rnd F (fold3 l)).2) else (0, l)
end KL

set_option maxRecDepth 100000
namespace KL
open PySem Ev
local macro_rules | `(tactic| walk_at "st") => `(tactic| dsimp only [start0, List.length_cons, List.length_nil, List.replicate, List.cons_append, List.nil_append, Nat.reduceSub, Nat.reduceAdd])
local macro_rules | `(tactic| walk_at "ev") => `(tactic| simp (disch := omega) only [sSeq, sSet, sExpr, sRet, sRetN, sIf, sBrk, sCnt, sRaise, sNil, sAsg, sAug, sPar2, sFor, tName, tTup, tsCons, tsNil, tSub, eVar, eC, eOp, eUn, aNil, aCons, eTup, eLst, eCall, eBlt, gcF, gcE, eNot, eAnd, eOr, eIf, eChain, eTold, eMt, eSl, withPart, iR1, iR2, iR3, iSeq, Ev.iEnum, Res.bnd, Res.bndS, Res.bndA, Res.bndI, Rss.bnd, Rss.bndA, Rss.bndS, Rss.bndI, Itm.bnd, Itm.bndS, Out.bnd, Res.tst, Res.tstS, Res.tstA, gv, sv, tru, al, toRes, C.psh, endG, gOk, bAdd, bSub, uNeg, cLt, cLe, cGt, cGe, iAdd, lenD, intD, absD, if_true, if_false, Bool.false_eq_true, ite_true, ite_false, decide_true, decide_false, Bool.not_true, Bool.not_false, Bool.and_true, Bool.and_false, Bool.true_and, Bool.false_and, Int.zero_sub, and_true, true_and, and_false, false_and, not_true_eq_false, not_false_eq_true, finF_same, fin_same', cEq_int, cNe_int, decide_eq_true_eq, Bool.not_eq_true', decide_eq_false_iff_not, ite_not])
local macro_rules | `(tactic| walk_at "ew") => `(tactic| repeat (first | walk_at "ev" | (simp (disch := omega) only [ev_power_of, ev_check, ev_check_code, ev_meaning, ev_code_of, ev_widened, div_pow, mod_pow])))
abbrev bSo : SS := (sSeq (sSet 3 (eLst aNil)) (sSeq (sWhile false tS bSi) (sSeq (sSet 1 (eOp bAdd (eVar 3) (eVar 1))) (sSeq (sAug 2 iAdd (eC (.int 1))) sNil))))
theorem lstOf_lt {s : S} {p : Nat} {l : List D} (h : lstOf s p = some l) : p < s.length := by
  unfold lstOf at h
  by_cases hp : p < s.length
  · exact hp
  · rw [List.getElem?_eq_none (by omega)] at h
    cases h
theorem turn_out {m : Nat} {B : List Nat} {s0 s : S} {x0 y v : D} {p : Nat} {k : Int} {l : List Int} (hz : ∀ z ∈ l, 0 ≤ z) (hp : lstOf s p = some (l.map D.int)) (ht : ∃ t, s = s0 ++ t) (hl : l.length ≤ 400) :
    ∃ (s' : S) (p' q : Nat), bSo ⟨callN tab (m + 1), B⟩ [x0, .ref p, .int k, y, v] s = .nx [x0, .ref p', .int (k + 1), .ref q, v] s' ∧ lstOf s' p' = some ((fold3 l).map D.int) ∧ ∃ t, s' = s0 ++ t := by
  have hps := lstOf_lt hp
  have h0 : s0.length ≤ s.length := by obtain ⟨t, rfl⟩ := ht; simp
  obtain ⟨s2, p2, hy, g1, g2, g3⟩ := loop_in (m := m) (B := B) s0 x0 (.int k) v l.length l [] turns p s.length (s ++ [O.lst []]) (Nat.le_refl _) (Nat.lt_of_le_of_lt hl (by decide)) hz
    (by unfold lstOf at hp ⊢; rw [List.getElem?_append_left hps]; exact hp) (by simp) (by omega) h0 (by obtain ⟨t, rfl⟩ := ht; exact ⟨t ++ [O.lst []], by simp⟩) (by simp; omega)
  rw [List.nil_append] at g2
  have g4 : lstOf s2 s.length = some ((sv3 l).map D.int) := by unfold lstOf; rw [g2]
  have hlen : (fold3 l).length ≤ 1000 := by rw [fold3_len]; omega
  refine ⟨s2 ++ [.lst ((fold3 l).map D.int)], s2.length, s.length, ?_, top_lst, by obtain ⟨t, rfl⟩ := g3; exact ⟨t ++ [.lst ((fold3 l).map D.int)], by simp⟩⟩
  refine seq_go (ρ1 := [x0, .ref p, .int k, .ref s.length, v]) (s1 := s ++ [O.lst []]) (set_ok (d := .ref s.length) rfl) ((seq_nx (while_go hy)).trans (seq_go (ρ1 := [x0, .ref s2.length, .int k, .ref s.length, v]) (s1 := s2 ++ [.lst ((fold3 l).map D.int)]) (set_ok (d := .ref s2.length) ?_) rfl))
  rw [op_ok (x := .ref s.length) (y := .ref p2) (s1 := s2) (s2 := s2) rfl rfl]
  simp only [bAdd, g4, g1]
  rw [if_pos]
  · rw [fold3, List.map_append]; rfl
  · rw [List.length_map, List.length_map, ← List.length_append]
    exact Nat.le_of_lt (lim_of (by unfold fold3 at hlen; omega))
end KL

set_option maxRecDepth 100000
namespace KL
open PySem Ev
local macro_rules | `(tactic| walk_at "st") => `(tactic| dsimp only [start0, List.length_cons, List.length_nil, List.replicate, List.cons_append, List.nil_append, Nat.reduceSub, Nat.reduceAdd])
local macro_rules | `(tactic| walk_at "ev") => `(tactic| simp (disch := omega) only [sSeq, sSet, sExpr, sRet, sRetN, sIf, sBrk, sCnt, sRaise, sNil, sAsg, sAug, sPar2, sFor, tName, tTup, tsCons, tsNil, tSub, eVar, eC, eOp, eUn, aNil, aCons, eTup, eLst, eCall, eBlt, gcF, gcE, eNot, eAnd, eOr, eIf, eChain, eTold, eMt, eSl, withPart, iR1, iR2, iR3, iSeq, Ev.iEnum, Res.bnd, Res.bndS, Res.bndA, Res.bndI, Rss.bnd, Rss.bndA, Rss.bndS, Rss.bndI, Itm.bnd, Itm.bndS, Out.bnd, Res.tst, Res.tstS, Res.tstA, gv, sv, tru, al, toRes, C.psh, endG, gOk, bAdd, bSub, uNeg, cLt, cLe, cGt, cGe, iAdd, lenD, intD, absD, if_true, if_false, Bool.false_eq_true, ite_true, ite_false, decide_true, decide_false, Bool.not_true, Bool.not_false, Bool.and_true, Bool.and_false, Bool.true_and, Bool.false_and, Int.zero_sub, and_true, true_and, and_false, false_and, not_true_eq_false, not_false_eq_true, finF_same, fin_same', cEq_int, cNe_int, decide_eq_true_eq, Bool.not_eq_true', decide_eq_false_iff_not, ite_not])
local macro_rules | `(tactic| walk_at "ew") => `(tactic| repeat (first | walk_at "ev" | (simp (disch := omega) only [ev_power_of, ev_check, ev_check_code, ev_meaning, ev_code_of, ev_widened, div_pow, mod_pow])))
theorem loop_out {m : Nat} {B : List Nat} {s0 : S} {x0 v : D} : ∀ (F : Nat) (l : List Int) (T p : Nat) (k : Int) (y : D) (s : S), l.length ≤ F → F < T → F ≤ 400 → (∀ z ∈ l, 0 ≤ z) → lstOf s p = some (l.map D.int) → (∃ t, s = s0 ++ t) →
    ∃ (s' : S) (p' : Nat) (y' : D), whileL false tS bSo ⟨callN tab (m + 1), B⟩ T [x0, .ref p, .int k, y, v] s = .nx [x0, .ref p', .int (k + (rnd F l).1), y', v] s' ∧ lstOf s' p' = some ((rnd F l).2.map D.int) ∧ ∃ t, s' = s0 ++ t := by
  intro F
  induction F with
  | zero =>
    intro l T p k y s hl hT hF hz hp ht
    obtain ⟨T, rfl⟩ : ∃ t, T = t + 1 := ⟨T - 1, by omega⟩
    have : l = [] := List.length_eq_zero_iff.mp (by omega)
    subst this
    exact ⟨s, p, y, by rw [while_f (d := .bl false) (s1 := s) (tS_ok hp) rfl, te_off, rnd]; simp, hp, ht⟩
  | succ F ih =>
    intro l T p k y s hl hT hF hz hp ht
    obtain ⟨T, rfl⟩ : ∃ t, T = t + 1 := ⟨T - 1, by omega⟩
    by_cases h : 2 < l.length
    · obtain ⟨s1, p1, q1, e1, e2, e3⟩ := turn_out (m := m) (B := B) (s0 := s0) (s := s) (x0 := x0) (y := y) (v := v) (k := k) hz hp ht (by omega)
      obtain ⟨s2, p2, y2, hy, g1, g2⟩ := ih (fold3 l) T p1 (k + 1) (.ref q1) s1 (by rw [fold3_len]; omega) (by omega) (by omega) (fold3_nn l hz) e2 e3
      refine ⟨s2, p2, y2, ?_, by rw [rnd, if_pos h]; exact g1, g2⟩
      rw [while_t (d := .bl true) (s1 := s) ((tS_ok hp).trans (by rw [decide_eq_true (by omega)])) rfl e1 te_off, hy, rnd, if_pos h]
      simp only [Int.natCast_add]
      have : k + 1 + ((rnd F (fold3 l)).1 : Int) = k + (((rnd F (fold3 l)).1 : Int) + ((1 : Nat) : Int)) := by omega
      rw [this]
    · refine ⟨s, p, y, ?_, by rw [rnd, if_neg h]; exact hp, ht⟩
      rw [while_f (d := .bl false) (s1 := s) ((tS_ok hp).trans (by rw [decide_eq_false (by omega)])) rfl, te_off, rnd, if_neg h]
      simp
end KL

set_option maxRecDepth 100000
namespace KL
open PySem Ev
local macro_rules | `(tactic| walk_at "st") => `(tactic| dsimp only [start0, List.length_cons, List.length_nil, List.replicate, List.cons_append, List.nil_append, Nat.reduceSub, Nat.reduceAdd])
local macro_rules | `(tactic| walk_at "ev") => `(tactic| simp (disch := omega) only [sSeq, sSet, sExpr, sRet, sRetN, sIf, sBrk, sCnt, sRaise, sNil, sAsg, sAug, sPar2, sFor, tName, tTup, tsCons, tsNil, tSub, eVar, eC, eOp, eUn, aNil, aCons, eTup, eLst, eCall, eBlt, gcF, gcE, eNot, eAnd, eOr, eIf, eChain, eTold, eMt, eSl, withPart, iR1, iR2, iR3, iSeq, Ev.iEnum, Res.bnd, Res.bndS, Res.bndA, Res.bndI, Rss.bnd, Rss.bndA, Rss.bndS, Rss.bndI, Itm.bnd, Itm.bndS, Out.bnd, Res.tst, Res.tstS, Res.tstA, gv, sv, tru, al, toRes, C.psh, endG, gOk, bAdd, bSub, uNeg, cLt, cLe, cGt, cGe, iAdd, lenD, intD, absD, if_true, if_false, Bool.false_eq_true, ite_true, ite_false, decide_true, decide_false, Bool.not_true, Bool.not_false, Bool.and_true, Bool.and_false, Bool.true_and, Bool.false_and, Int.zero_sub, and_true, true_and, and_false, false_and, not_true_eq_false, not_false_eq_true, finF_same, fin_same', cEq_int, cNe_int, decide_eq_true_eq, Bool.not_eq_true', decide_eq_false_iff_not, ite_not])
local macro_rules | `(tactic| walk_at "ew") => `(tactic| repeat (first | walk_at "ev" | (simp (disch := omega) only [ev_power_of, ev_check, ev_check_code, ev_meaning, ev_code_of, ev_widened, div_pow, mod_pow])))
theorem ev_summed {m : Nat} {B : List Nat} {s : S} (l : List Int) (hl : l.length ≤ 400) (hz : ∀ z ∈ l, 0 ≤ z) :
    callN tab (m + 2) 15 B [.tup (l.map D.int)] s = .ok (.tup [.int (rnd l.length l).1, .tup ((rnd l.length l).2.map D.int)]) s := by
  obtain ⟨s2, p2, y2, hy, g1, t, rfl⟩ := loop_out (m := m) (B := s.length :: B) (s0 := s) (x0 := .tup (l.map D.int)) (v := .und) l.length l turns s.length 0 .und (s ++ [.lst (l.map D.int)]) (Nat.le_refl _) (Nat.lt_of_le_of_lt hl (by decide)) hl hz top_lst ⟨_, rfl⟩
  have hall : (eComp (iSeq (eVar 0)) [4] (tName 4) none (eOp cGe (eVar 4) (eC (.int 0)))) ⟨callN tab (m + 1), s.length :: s.length :: B⟩ [.tup (l.map D.int), .und, .und, .und, .und] s = .ok (.ref s.length) (s ++ [.lst ((l.map fun _ => true).map D.bl)]) := by
    refine comp_ok (g := none) rfl (by rw [List.length_map]; exact Nat.le_of_lt (lim_of (by omega))) ?_ ygs_map_bl
    have q := compL_map (g := none) (i := 4) (te := eOp cGe (eVar 4) (eC (.int 0))) (c := ⟨callN tab (m + 1), s.length :: s.length :: s.length :: B⟩) (ρ := wipeD [.tup (l.map D.int), .und, .und, .und, .und] [4]) (s := s) (f := fun _ => .bl true) rfl (l.map D.int) ?_
    · simpa [Function.comp_def] using q
    · intro d hm
      obtain ⟨i, hi, rfl⟩ := List.mem_map.mp hm
      rw [op_ok (x := .int i) (y := .int 0) (s1 := s) (s2 := s) rfl rfl, cGe_ok, decide_eq_true (hz i hi)]
  refine run_go (d := .tup [.int (rnd l.length l).1, .tup ((rnd l.length l).2.map D.int)]) (s1 := s ++ t) rfl ?_ (finF_pln (by simp [D.yg, D.ygs, ygs_map_int]) (fun _ => by simp))
  dsimp only [c_summed]
  walk_at "st"
  refine seq_go (guard_nx (s1 := s) ?_) (seq_go (ρ1 := [.tup (l.map D.int), .ref s.length, .und, .und, .und]) (s1 := s ++ [.lst (l.map D.int)]) (set_ok (d := .ref s.length) ?_) (seq_go (set_ok rfl) ((seq_nx (while_go hy)).trans (seq_rt (ret_ok ?_)))))
  · have e := blt_top (f := allD) (c := ⟨callN tab (m + 1), s.length :: B⟩) (d := .bl true) hall (by rw [allD_bls seqOf_top]; simp) rfl (fun _ => by simp)
    unfold eNot
    rw [e]
    rfl
  · unfold eBlt gcF
    show finF s.length (listD [.tup (l.map D.int)] s) = _
    show finF s.length (.ok (.ref s.length) (s ++ [.lst (l.map D.int)])) = _
    simp [finF, ygs_map_int]
  · rw [tup_ok (cons_ok (x := .int (0 + (rnd l.length l).1)) (s1 := s ++ t) rfl (cons_ok (x := .tup ((rnd l.length l).2.map D.int)) (s1 := s ++ t) (s2 := s ++ t) ?_ nil_ok)) (by simp), Int.zero_add]
    unfold eBlt gcF
    show finF (s ++ t).length (tupD [.ref p2] (s ++ t)) = _
    rw [tupD_lst g1, finF_same]
end KL

set_option maxRecDepth 100000
namespace KL
open PySem Ev
local macro_rules | `(tactic| walk_at "st") => `(tactic| dsimp only [start0, List.length_cons, List.length_nil, List.replicate, List.cons_append, List.nil_append, Nat.reduceSub, Nat.reduceAdd])
local macro_rules | `(tactic| walk_at "ev") => `(tactic| simp (disch := omega) only [sSeq, sSet, sExpr, sRet, sRetN, sIf, sBrk, sCnt, sRaise, sNil, sAsg, sAug, sPar2, sFor, tName, tTup, tsCons, tsNil, tSub, eVar, eC, eOp, eUn, aNil, aCons, eTup, eLst, eCall, eBlt, gcF, gcE, eNot, eAnd, eOr, eIf, eChain, eTold, eMt, eSl, withPart, iR1, iR2, iR3, iSeq, Ev.iEnum, Res.bnd, Res.bndS, Res.bndA, Res.bndI, Rss.bnd, Rss.bndA, Rss.bndS, Rss.bndI, Itm.bnd, Itm.bndS, Out.bnd, Res.tst, Res.tstS, Res.tstA, gv, sv, tru, al, toRes, C.psh, endG, gOk, bAdd, bSub, uNeg, cLt, cLe, cGt, cGe, iAdd, lenD, intD, absD, if_true, if_false, Bool.false_eq_true, ite_true, ite_false, decide_true, decide_false, Bool.not_true, Bool.not_false, Bool.and_true, Bool.and_false, Bool.true_and, Bool.false_and, Int.zero_sub, and_true, true_and, and_false, false_and, not_true_eq_false, not_false_eq_true, finF_same, fin_same', cEq_int, cNe_int, decide_eq_true_eq, Bool.not_eq_true', decide_eq_false_iff_not, ite_not])
local macro_rules | `(tactic| walk_at "ew") => `(tactic| repeat (first | walk_at "ev" | (simp (disch := omega) only [ev_power_of, ev_check, ev_check_code, ev_meaning, ev_code_of, ev_widened, div_pow, mod_pow])))
theorem loop_raise {C0 : C} {s : S} (a0 : D) : ∀ (c j : Nat) (d2 : D), j + c ≤ 60 → ∃ e2, forL true none (tName 2) (sSeq (sSet 1 (eOp bMul (eC (.int 2)) (eVar 1))) sNil) C0 ((List.range' j c).map fun i => D.int (0 + (i : Nat))) [a0, .int (2 ^ j), d2] s = .nx [a0, .int (2 ^ (j + c)), e2] s := by
  intro c
  induction c with
  | zero => intro j d2 h; exact ⟨d2, rfl⟩
  | succ c ih =>
    intro j d2 h
    obtain ⟨e2, hy⟩ := ih (j + 1) (.int (0 + (j : Nat))) (by omega)
    refine ⟨e2, ?_⟩
    rw [List.range'_succ, List.map_cons, forL_cons (ρ2 := [a0, .int (2 ^ (j + 1)), .int (0 + (j : Nat))]) (s2 := s) (turn_name ?_ rfl) rfl, hy]
    · rw [Nat.add_right_comm, Nat.add_assoc]
    · refine seq_go (ρ1 := [a0, .int (2 ^ (j + 1)), .int (0 + (j : Nat))]) (s1 := s) (set_ok (d := .int (2 ^ (j + 1))) ?_) rfl
      rw [op_ok (x := .int 2) (y := .int (2 ^ j)) (s1 := s) (s2 := s) rfl rfl, mul_ok (mulOk_l (by decide) (by decide)), Int.pow_succ, Int.mul_comm]
theorem ev_law_raise {m : Nat} {B : List Nat} {s : S} (n : Int) (h0 : 0 ≤ n) (h1 : n ≤ 60) : callN tab (m + 1) 21 B [.int n] s = .ok (.int (2 ^ n.toNat)) s := by
  obtain ⟨e2, hy⟩ := loop_raise (C0 := ⟨callN tab m, s.length :: s.length :: B⟩) (s := s) (.int n) n.toNat 0 .und (by omega)
  refine run_go (d := .int (2 ^ n.toNat)) (s1 := s) rfl ?_ finF_same
  dsimp only [c_law_raise]
  walk_at "st"
  refine seq_go (set_ok rfl) (seq_go (for_nx (g := none) (s1 := s) (ds := rngI 0 n.toNat) ?_ (by rw [rngI0]; exact hy) te_same) (seq_rt (ret_ok ?_)))
  · walk_at "ev"
    rw [if_pos (small_of (by omega) (by omega))]
  · rw [Nat.zero_add]; rfl
end KL

set_option maxRecDepth 100000
namespace KL
open PySem Ev
local macro_rules | `(tactic| walk_at "st") => `(tactic| dsimp only [start0, List.length_cons, List.length_nil, List.replicate, List.cons_append, List.nil_append, Nat.reduceSub, Nat.reduceAdd])
local macro_rules | `(tactic| walk_at "ev") => `(tactic| simp (disch := omega) only [sSeq, sSet, sExpr, sRet, sRetN, sIf, sBrk, sCnt, sRaise, sNil, sAsg, sAug, sPar2, sFor, tName, tTup, tsCons, tsNil, tSub, eVar, eC, eOp, eUn, aNil, aCons, eTup, eLst, eCall, eBlt, gcF, gcE, eNot, eAnd, eOr, eIf, eChain, eTold, eMt, eSl, withPart, iR1, iR2, iR3, iSeq, Ev.iEnum, Res.bnd, Res.bndS, Res.bndA, Res.bndI, Rss.bnd, Rss.bndA, Rss.bndS, Rss.bndI, Itm.bnd, Itm.bndS, Out.bnd, Res.tst, Res.tstS, Res.tstA, gv, sv, tru, al, toRes, C.psh, endG, gOk, bAdd, bSub, uNeg, cLt, cLe, cGt, cGe, iAdd, lenD, intD, absD, if_true, if_false, Bool.false_eq_true, ite_true, ite_false, decide_true, decide_false, Bool.not_true, Bool.not_false, Bool.and_true, Bool.and_false, Bool.true_and, Bool.false_and, Int.zero_sub, and_true, true_and, and_false, false_and, not_true_eq_false, not_false_eq_true, finF_same, fin_same', cEq_int, cNe_int, decide_eq_true_eq, Bool.not_eq_true', decide_eq_false_iff_not, ite_not])
local macro_rules | `(tactic| walk_at "ew") => `(tactic| repeat (first | walk_at "ev" | (simp (disch := omega) only [ev_power_of, ev_check, ev_check_code, ev_meaning, ev_code_of, ev_widened, div_pow, mod_pow])))
theorem eif_t {t a b : ES} {c : C} {ρ : Ev.Env} {s s1 : S} (h : t c ρ s = .ok (.bl true) s1) : eIf t a b c ρ s = a c ρ s1 := by unfold eIf; rw [h]; rfl
theorem eif_f {t a b : ES} {c : C} {ρ : Ev.Env} {s s1 : S} (h : t c ρ s = .ok (.bl false) s1) : eIf t a b c ρ s = b c ρ s1 := by unfold eIf; rw [h]; rfl
theorem mean_two (b x : Int) (h0 : 1 ≤ b) : mean b x = if 2 ^ b.toNat ≤ 2 * x then x - 2 ^ b.toNat else x := by
  have e : b.toNat = (b - 1).toNat + 1 := by omega
  unfold mean
  rw [e, Int.pow_succ]
  by_cases h : 2 ^ (b - 1).toNat ≤ x
  · rw [if_pos h, if_pos (by omega)]
  · rw [if_neg h, if_neg (by omega)]
theorem ev_law_mean {m : Nat} {B : List Nat} {s : S} (b x : Int) (h0 : 1 ≤ b) (h1 : b ≤ 60) : callN tab (m + 2) 22 B [.int b, .int x] s = .ok (.int (mean b x)) s := by
  refine run_go (d := .int (mean b x)) (s1 := s) rfl ?_ finF_same
  dsimp only [c_law_mean]
  walk_at "st"
  refine seq_rt (ret_ok ?_)
  have e : eCall 21 (aCons (eVar 0) aNil) ⟨callN tab (m + 1), s.length :: B⟩ [.int b, .int x] s = .ok (.int (2 ^ b.toNat)) s := by
    rw [call_ok (cons_ok (x := .int b) (xs := []) (s1 := s) (s2 := s) rfl rfl)]
    dsimp only
    rw [ev_law_raise b (by omega) h1]
  have e2 : eOp cGe (eOp bMul (eC (.int 2)) (eVar 1)) (eCall 21 (aCons (eVar 0) aNil)) ⟨callN tab (m + 1), s.length :: B⟩ [.int b, .int x] s = .ok (.bl (decide (2 * x ≥ 2 ^ b.toNat))) s := by
    rw [op_ok (x := .int (2 * x)) (y := .int (2 ^ b.toNat)) (s1 := s) (s2 := s) ?_ e, cGe_ok]
    rw [op_ok (x := .int 2) (y := .int x) (s1 := s) (s2 := s) rfl rfl]
    exact mul_ok (mulOk_l (by decide) (by decide))
  rw [mean_two b x h0]
  by_cases h : 2 * x ≥ 2 ^ b.toNat
  · rw [eif_t (e2.trans (by rw [decide_eq_true h])), if_pos h, op_ok (x := .int x) (y := .int (2 ^ b.toNat)) (s1 := s) (s2 := s) rfl e, sub_ok]
  · rw [eif_f (e2.trans (by rw [decide_eq_false h])), if_neg h]
    rfl
end KL

set_option maxRecDepth 100000
namespace KL
open PySem Ev
theorem b_succ {b : Int} (h0 : 1 ≤ b) : (2 : Int) ^ b.toNat = 2 * 2 ^ (b - 1).toNat := by
  have e : b.toNat = (b - 1).toNat + 1 := by omega
  rw [e, Int.pow_succ, Int.mul_comm]
theorem mean_rng (b x : Int) (h0 : 1 ≤ b) (h2 : 0 ≤ x) (h3 : x < 2 ^ b.toNat) : -(2 ^ (b - 1).toNat) ≤ mean b x ∧ mean b x < 2 ^ (b - 1).toNat := by
  unfold mean
  rw [b_succ h0] at h3 ⊢
  split <;> omega
theorem mean_mod (b x : Int) (h2 : 0 ≤ x) (h3 : x < 2 ^ b.toNat) : mean b x % 2 ^ b.toNat = x := by
  unfold mean
  split
  · rw [← Int.add_emod_right (x - 2 ^ b.toNat), Int.sub_add_cancel, Int.emod_eq_of_lt h2 h3]
  · exact Int.emod_eq_of_lt h2 h3
theorem mean_of (t a : Int) (h0 : 1 ≤ t) (h1 : -(2 ^ (t - 1).toNat) ≤ a) (h2 : a < 2 ^ (t - 1).toNat) : mean t (a % 2 ^ t.toNat) = a := by
  have hb := b_succ h0
  have hp := pow_pos' (t - 1).toNat
  by_cases h : 0 ≤ a
  · rw [Int.emod_eq_of_lt h (by omega)]
    unfold mean
    rw [if_neg (by omega)]
  · have e : a % 2 ^ t.toNat = a + 2 ^ t.toNat := by
      rw [← Int.add_emod_right a, Int.emod_eq_of_lt (by omega) (by omega)]
    rw [e]
    unfold mean
    rw [if_pos (by omega)]
    omega
theorem pow_mono' {a b : Nat} (h : a ≤ b) : (2 : Int) ^ a ≤ 2 ^ b := by
  exact_mod_cast Nat.pow_le_pow_right (by decide : 0 < 2) h
theorem mean_wide (b x t : Int) (h0 : 1 ≤ b) (h2 : 0 ≤ x) (h3 : x < 2 ^ b.toNat) (h4 : b ≤ t) : mean t (mean b x % 2 ^ t.toNat) = mean b x := by
  have hr := mean_rng b x h0 h2 h3
  have hm : (2 : Int) ^ (b - 1).toNat ≤ 2 ^ (t - 1).toNat := pow_mono' (by omega)
  exact mean_of t _ (by omega) (by omega) (by omega)
theorem div01 {w P : Int} (h0 : 0 ≤ w) (h1 : w < 2 * P) (hp : 0 < P) : w / P = if P ≤ w then 1 else 0 := by
  have a0 := Int.ediv_nonneg h0 (Int.le_of_lt hp)
  have a1 : w / P < 2 := Int.ediv_lt_of_lt_mul hp (by omega)
  have e := Int.mul_ediv_add_emod w P
  have e2 := Int.emod_nonneg w (Int.ne_of_gt hp)
  have e3 := Int.emod_lt_of_pos w hp
  by_cases h : w / P = 0
  · rw [h] at e ⊢
    rw [Int.mul_zero] at e
    rw [if_neg (by omega)]
  · have h' : w / P = 1 := by omega
    rw [h'] at e ⊢
    rw [Int.mul_one] at e
    rw [if_pos (by omega)]
theorem sum_mod (b x y : Int) (h2 : 0 ≤ x) (h3 : x < 2 ^ b.toNat) (h4 : 0 ≤ y) (h5 : y < 2 ^ b.toNat) : (mean b x + mean b y) % 2 ^ b.toNat = (x + y) % 2 ^ b.toNat := by
  rw [Int.add_emod, mean_mod b x h2 h3, mean_mod b y h4 h5]
theorem dif_mod (b x y : Int) (h2 : 0 ≤ x) (h3 : x < 2 ^ b.toNat) (h4 : 0 ≤ y) (h5 : y < 2 ^ b.toNat) : (mean b x - mean b y) % 2 ^ b.toNat = (x + (2 ^ b.toNat - 1 - y) + 1) % 2 ^ b.toNat := by
  rw [Int.sub_emod, mean_mod b x h2 h3, mean_mod b y h4 h5, ← Int.add_emod_right (x - y)]
  congr 1
  omega
theorem high (b c : Int) (h0 : 1 ≤ b) (h2 : 0 ≤ c) (h3 : c < 2 ^ b.toNat) : c / 2 ^ (b - 1).toNat = if 2 ^ b.toNat ≤ 2 * c then 1 else 0 := by
  have hb := b_succ h0
  rw [div01 h2 (by omega) (pow_pos' _)]
  by_cases h : (2 : Int) ^ (b - 1).toNat ≤ c
  · rw [if_pos h, if_pos (by omega)]
  · rw [if_neg h, if_neg (by omega)]
/-! digits -/
theorem fromD_cons (d : Int) (l : List Int) : fromD (d :: l) = d + 2 * fromD l := rfl
theorem div_succ (x : Int) (j : Nat) : x / 2 ^ (j + 1) = x / 2 ^ j / 2 := by
  rw [Int.pow_succ, Int.ediv_ediv_of_nonneg (Int.le_of_lt (pow_pos' j))]
theorem booth (x : Int) (h0 : 0 ≤ x) : ∀ (c j : Nat) (bf : Int), x / 2 ^ j < 2 ^ (c + 1) → fromD (digsI x j (c + 1) bf) = bf + mean ((c + 1 : Nat) : Int) (x / 2 ^ j) := by
  intro c
  induction c with
  | zero =>
    intro j bf h
    have hn : 0 ≤ x / 2 ^ j := Int.ediv_nonneg h0 (Int.le_of_lt (pow_pos' j))
    rw [digsI, digsI, fromD_cons]
    unfold mean bitI
    show _ + 2 * 0 = _
    have e1 : (((0 + 1 : Nat) : Int) - 1).toNat = 0 := by omega
    have e2 : (((0 + 1 : Nat) : Int)).toNat = 1 := by omega
    rw [e1, e2]
    have e3 : (2 : Int) ^ 0 = 1 := rfl
    have e4 : (2 : Int) ^ 1 = 2 := rfl
    have e5 : (2 : Int) ^ (0 + 1) = 2 := rfl
    rw [e5] at h
    rw [e3, e4]
    split <;> omega
  | succ c ih =>
    intro j bf h
    have hn : 0 ≤ x / 2 ^ j := Int.ediv_nonneg h0 (Int.le_of_lt (pow_pos' j))
    rw [digsI, fromD_cons]
    rw [ih (j + 1) _ (by rw [div_succ]; rw [Int.pow_succ] at h; omega), div_succ]
    unfold mean bitI
    have e1 : (((c + 1 + 1 : Nat) : Int) - 1).toNat = c + 1 := by omega
    have e2 : (((c + 1 + 1 : Nat) : Int)).toNat = c + 1 + 1 := by omega
    have e3 : (((c + 1 : Nat) : Int) - 1).toNat = c := by omega
    have e4 : (((c + 1 : Nat) : Int)).toNat = c + 1 := by omega
    rw [e1, e2, e3, e4]
    rw [Int.pow_succ 2 (c + 1), Int.pow_succ 2 c]
    generalize (2 : Int) ^ c = P
    generalize x / 2 ^ j = y
    split <;> split <;> omega
theorem booth0 (b x : Int) (h0 : 1 ≤ b) (h2 : 0 ≤ x) (h3 : x < 2 ^ b.toNat) : fromD (digsI x 0 b.toNat 0) = mean b x := by
  have e : b.toNat = (b.toNat - 1) + 1 := by omega
  have h := booth x h2 (b.toNat - 1) 0 0 (by rw [← e, show (2 : Int) ^ 0 = 1 from rfl, Int.ediv_one]; exact h3)
  rw [← e, show (2 : Int) ^ 0 = 1 from rfl, Int.ediv_one, Int.zero_add] at h
  rw [h]
  congr 1
  omega
theorem digsI_get (x : Int) : ∀ (c j : Nat) (bf : Int) (k : Nat), k < c → (digsI x j c bf)[k]? = some ((if k = 0 then bf else bitI x (j + k - 1)) - bitI x (j + k))
  | 0, _, _, _, h => absurd h (by omega)
  | c + 1, j, bf, 0, _ => by rw [digsI]; rfl
  | c + 1, j, bf, k + 1, h => by
    rw [digsI, List.getElem?_cons_succ, digsI_get x c (j + 1) _ k (by omega)]
    congr 1
    have e1 : j + (k + 1) = j + 1 + k := by omega
    rw [e1, if_neg (by omega : ¬ k + 1 = 0)]
    by_cases hk : k = 0
    · rw [if_pos hk]; subst hk; congr 2
    · rw [if_neg hk]
theorem digsI_eq (b x : Int) : digsI x 0 b.toNat 0 = (List.range b.toNat).map fun k => (if k = 0 then 0 else bitI x (k - 1)) - bitI x k := by
  refine List.ext_getElem? fun k => ?_
  by_cases h : k < b.toNat
  · rw [digsI_get x _ 0 0 k h]
    simp [h]
  · have : ∀ (c j : Nat) (bf : Int), (digsI x j c bf).length = c := by
      intro c
      induction c with
      | zero => intro j bf; rfl
      | succ c ih => intro j bf; rw [digsI, List.length_cons, ih]
    rw [List.getElem?_eq_none (by rw [this]; omega), List.getElem?_eq_none (by simp; omega)]
/-! sparse digits -/
theorem nd_rng (n : Int) : nd n = -1 ∨ nd n = 0 ∨ nd n = 1 := by unfold nd; split <;> (try split) <;> omega
theorem nd_split (n : Int) : n = nd n + 2 * nx1 n := by unfold nx1 nd; split <;> (try split) <;> omega
theorem nd_next (n : Int) : nd n = 0 ∨ nd (nx1 n) = 0 := by
  have : nd n ≠ 0 → nx1 n % 2 = 0 := by unfold nx1 nd; split <;> (try split) <;> omega
  by_cases h : nd n = 0
  · exact .inl h
  · right
    have := this h
    unfold nd
    rw [if_neg (by omega)]
theorem rch_of : ∀ (k : Nat) (n : Int), -(2 ^ k) ≤ n → n ≤ 2 ^ k → Rch (k + 1) n
  | 0, n, h1, h2 => by
    rw [show (2 : Int) ^ 0 = 1 from rfl] at h1 h2
    have : n = -1 ∨ n = 0 ∨ n = 1 := by omega
    rcases this with rfl | rfl | rfl
    · right; show nx1 (-1) = 0; decide
    · left; rfl
    · right; show nx1 1 = 0; decide
  | k + 1, n, h1, h2 => by
    right
    have e := nd_split n
    have e2 := nd_rng n
    rw [Int.pow_succ] at h1 h2
    exact rch_of k _ (by omega) (by omega)
theorem naf_val : ∀ (F : Nat) (n : Int), Rch F n → fromD (naf F n) = n
  | 0, n, h => by rw [show n = 0 from h]; rfl
  | F + 1, n, h => by
    rw [naf]
    split
    · rename_i h0; rw [h0]; rfl
    · rename_i h0
      rcases h with h | h
      · exact absurd h h0
      · rw [fromD_cons, naf_val F _ h, ← nd_split]
theorem naf_nil {F : Nat} {n : Int} (h : Rch F n) : naf F n = [] ↔ n = 0 := by
  cases F with
  | zero => exact ⟨fun _ => h, fun _ => rfl⟩
  | succ F =>
    rw [naf]
    split
    · rename_i h0; simp [h0]
    · rename_i h0; simp [h0]
theorem naf_last : ∀ (F : Nat) (n : Int) (z : Int), Rch F n → (naf F n).getLast? = some z → z ≠ 0
  | 0, n, z, h, hz => by cases hz
  | F + 1, n, z, h, hz => by
    rw [naf] at hz
    split at hz
    · cases hz
    · rename_i h0
      rcases h with h | h
      · exact absurd h h0
      · by_cases hx : nx1 n = 0
        · rw [(naf_nil h).mpr hx] at hz
          have e := nd_split n
          have hz2 : nd n = z := by simpa using hz
          omega
        · obtain ⟨a, r, hr⟩ : ∃ a r, naf F (nx1 n) = a :: r := by
            cases hq : naf F (nx1 n) with
            | nil => exact absurd ((naf_nil h).mp hq) hx
            | cons a r => exact ⟨a, r, rfl⟩
          rw [hr, List.getLast?_cons_cons, ← hr] at hz
          exact naf_last F _ z h hz
theorem naf_head {F : Nat} {n z : Int} (h : (naf F n)[0]? = some z) : z = nd n := by
  cases F with
  | zero => cases h
  | succ F =>
    rw [naf] at h
    split at h
    · cases h
    · cases h; rfl
theorem naf_gap : ∀ (F : Nat) (n u v : Int) (k : Nat), (naf F n)[k]? = some u → (naf F n)[k + 1]? = some v → u = 0 ∨ v = 0
  | 0, n, u, v, k, h, _ => by cases h
  | F + 1, n, u, v, k, h1, h2 => by
    rw [naf] at h1 h2
    split at h1
    · cases h1
    · rename_i h0
      rw [if_neg h0, List.getElem?_cons_succ] at h2
      cases k with
      | zero =>
        cases h1
        rw [naf_head h2]
        exact nd_next n
      | succ k =>
        rw [List.getElem?_cons_succ] at h1
        exact naf_gap F _ u v k h1 h2
theorem naf_dig : ∀ (F : Nat) (n : Int), ∀ d ∈ naf F n, Dig d
  | 0, _, d, h => absurd h (by simp [naf])
  | F + 1, n, d, h => by
    rw [naf] at h
    split at h
    · cases h
    · rcases List.mem_cons.mp h with h | h
      · subst h; exact nd_rng n
      · exact naf_dig F _ d h
theorem naf_len : ∀ (F : Nat) (n : Int), (naf F n).length ≤ F
  | 0, _ => Nat.le_refl _
  | F + 1, n => by
    rw [naf]
    split
    · exact Nat.zero_le _
    · rw [List.length_cons]; exact Nat.succ_le_succ (naf_len F _)
/-! products -/
theorem byS_val (v : Int) : ∀ (l : List Int) (k : Nat) (a : Int), byS v k l a = a + v * 2 ^ k * fromD l
  | [], k, a => by show a = a + _ * 0; rw [Int.mul_zero, Int.add_zero]
  | d :: r, k, a => by
    rw [byS, byS_val v r (k + 1), fromD_cons, Int.pow_succ]
    grind
/-! division -/
theorem div_bit (x : Int) (c : Nat) : x / 2 ^ c = 2 * (x / 2 ^ (c + 1)) + bitI x c := by
  rw [div_succ]; unfold bitI; omega
theorem dv_ok (x y : Int) (hy : 0 < y) : ∀ (c : Nat) (r q : Int), 0 ≤ r → r < y → q * y + r = x / 2 ^ c → (dvR x y c r q).2.1 * y + (dvR x y c r q).1 = x ∧ 0 ≤ (dvR x y c r q).1 ∧ (dvR x y c r q).1 < y
  | 0, r, q, h0, h1, h => by
    rw [show (2 : Int) ^ 0 = 1 from rfl, Int.ediv_one] at h
    exact ⟨h, h0, h1⟩
  | c + 1, r, q, h0, h1, h => by
    have hb := bitI_rng x c
    have e := div_bit x c
    rw [← h] at e
    rw [dvR]
    split
    · exact dv_ok x y hy c _ _ (by omega) (by omega) (by grind)
    · exact dv_ok x y hy c _ _ (by omega) (by omega) (by grind)
theorem dv_len (x y : Int) : ∀ (c : Nat) (r q : Int), (dvR x y c r q).2.2.length = c
  | 0, _, _ => rfl
  | c + 1, r, q => by
    rw [dvR]
    split <;> simp [dv_len x y c]
theorem db_ok (x y : Int) (hy : 0 < y) : ∀ (c : Nat) (r q : Int), -y ≤ r → r < y → q * y + r = x / 2 ^ c → ((dbR x y c r).2.foldl (fun a d => d + 2 * a) q) * y + (dbR x y c r).1 = x ∧ -y ≤ (dbR x y c r).1 ∧ (dbR x y c r).1 < y
  | 0, r, q, h0, h1, h => by
    rw [show (2 : Int) ^ 0 = 1 from rfl, Int.ediv_one] at h
    exact ⟨h, h0, h1⟩
  | c + 1, r, q, h0, h1, h => by
    have hb := bitI_rng x c
    have e := div_bit x c
    rw [← h] at e
    rw [dbR]
    dsimp only [List.foldl]
    by_cases hr : 0 ≤ r
    · rw [if_pos hr]
      exact db_ok x y hy c _ _ (by omega) (by omega) (by grind)
    · rw [if_neg hr]
      exact db_ok x y hy c _ _ (by omega) (by omega) (by grind)
theorem fromD_rev (l : List Int) : fromD l.reverse = l.foldl (fun a d => d + 2 * a) 0 := by
  unfold fromD
  rw [List.foldr_reverse]
theorem div_uniq {y q r q2 r2 : Int} (hy : 0 < y) (h : q * y + r = q2 * y + r2) (h0 : 0 ≤ r) (h1 : r < y) (h2 : 0 ≤ r2) (h3 : r2 < y) : q = q2 ∧ r = r2 := by
  have e1 : (q * y + r) / y = q := by
    rw [Int.add_comm, Int.add_mul_ediv_right _ _ (Int.ne_of_gt hy), Int.ediv_eq_zero_of_lt h0 h1, Int.zero_add]
  have e2 : (q2 * y + r2) / y = q2 := by
    rw [Int.add_comm, Int.add_mul_ediv_right _ _ (Int.ne_of_gt hy), Int.ediv_eq_zero_of_lt h2 h3, Int.zero_add]
  have e : q = q2 := by rw [← e1, ← e2, h]
  subst e
  exact ⟨rfl, by omega⟩
end KL

set_option maxRecDepth 100000
namespace KL
open PySem Ev
theorem xao : ∀ (n a b : Nat), a + b ≤ n → (a ^^^ b) + (a &&& b) = a ||| b
  | 0, a, b, h => by
    have ha : a = 0 := by omega
    have hb : b = 0 := by omega
    subst ha; subst hb
    rfl
  | n + 1, a, b, h => by
    by_cases hz : a + b = 0
    · have ha : a = 0 := by omega
      have hb : b = 0 := by omega
      subst ha; subst hb
      rfl
    · have ih := xao n (a / 2) (b / 2) (by omega)
      have e1 : (a ^^^ b) / 2 = a / 2 ^^^ b / 2 := Nat.xor_div_two
      have e2 : (a ||| b) / 2 = a / 2 ||| b / 2 := Nat.or_div_two
      have e3 : (a &&& b) / 2 = a / 2 &&& b / 2 := Nat.and_div_two
      have t : ∀ x : Nat, x % 2 = (x.testBit 0).toNat := fun x => by
        rw [Nat.testBit_zero]
        by_cases hx : x % 2 = 1
        · rw [hx]; rfl
        · have : x % 2 = 0 := by omega
          rw [this]; rfl
      have e4 : (a ^^^ b) % 2 + (a &&& b) % 2 = (a ||| b) % 2 := by
        rw [t, t, t]
        simp only [Nat.testBit_xor, Nat.testBit_or, Nat.testBit_and]
        cases a.testBit 0 <;> cases b.testBit 0 <;> rfl
      omega
theorem xor_nat (a b : Nat) : Builtin.bitXor (a : Int) (b : Int) = ((a ^^^ b : Nat) : Int) := by
  unfold Builtin.bitXor
  rw [and_nat, or_nat]
  have := xao _ a b (Nat.le_refl _)
  omega
theorem xo3_nat (a b c : Nat) : xo3 a b c = ((a ^^^ b ^^^ c : Nat) : Int) := by
  unfold xo3
  rw [xor_nat, xor_nat]
/-! bits -/
theorem csa : ∀ (n a b c : Nat), a + b + c ≤ n → (a ^^^ b ^^^ c) + 2 * ((a &&& b) ||| (a &&& c) ||| (b &&& c)) = a + b + c
  | 0, a, b, c, h => by
    have ha : a = 0 := by omega
    have hb : b = 0 := by omega
    have hc : c = 0 := by omega
    subst ha; subst hb; subst hc
    rfl
  | n + 1, a, b, c, h => by
    by_cases hz : a + b + c = 0
    · have ha : a = 0 := by omega
      have hb : b = 0 := by omega
      have hc : c = 0 := by omega
      subst ha; subst hb; subst hc
      rfl
    · have ih := csa n (a / 2) (b / 2) (c / 2) (by omega)
      have e1 : (a ^^^ b ^^^ c) / 2 = a / 2 ^^^ b / 2 ^^^ c / 2 := by rw [Nat.xor_div_two, Nat.xor_div_two]
      have e2 : ((a &&& b) ||| (a &&& c) ||| (b &&& c)) / 2 = (a / 2 &&& b / 2) ||| (a / 2 &&& c / 2) ||| (b / 2 &&& c / 2) := by
        rw [Nat.or_div_two, Nat.or_div_two, Nat.and_div_two, Nat.and_div_two, Nat.and_div_two]
      have t : ∀ x : Nat, x % 2 = (x.testBit 0).toNat := fun x => by
        rw [Nat.testBit_zero]
        by_cases hx : x % 2 = 1
        · rw [hx]; rfl
        · have : x % 2 = 0 := by omega
          rw [this]; rfl
      have e3 : (a ^^^ b ^^^ c) % 2 + 2 * (((a &&& b) ||| (a &&& c) ||| (b &&& c)) % 2) = a % 2 + b % 2 + c % 2 := by
        rw [t, t, t a, t b, t c]
        simp only [Nat.testBit_xor, Nat.testBit_or, Nat.testBit_and]
        cases a.testBit 0 <;> cases b.testBit 0 <;> cases c.testBit 0 <;> rfl
      omega
theorem tb (x k : Nat) : x / 2 ^ k % 2 = (x.testBit k).toNat := by
  rw [Nat.toNat_testBit]
theorem csa_x (a b c k : Nat) : (a ^^^ b ^^^ c) / 2 ^ k % 2 = (a / 2 ^ k % 2 + b / 2 ^ k % 2 + c / 2 ^ k % 2) % 2 := by
  rw [tb, tb, tb, tb]
  simp only [Nat.testBit_xor]
  cases a.testBit k <;> cases b.testBit k <;> cases c.testBit k <;> rfl
theorem csa_m (a b c k : Nat) : ((a &&& b) ||| (a &&& c) ||| (b &&& c)) / 2 ^ k % 2 = if a / 2 ^ k % 2 + b / 2 ^ k % 2 + c / 2 ^ k % 2 > 1 then 1 else 0 := by
  rw [tb, tb, tb, tb]
  simp only [Nat.testBit_or, Nat.testBit_and]
  cases a.testBit k <;> cases b.testBit k <;> cases c.testBit k <;> rfl
theorem bitI_nat (n k : Nat) : bitI (n : Int) k = ((n / 2 ^ k % 2 : Nat) : Int) := by
  unfold bitI
  norm_cast
theorem bitI_two (x : Int) (k : Nat) : bitI (2 * x) (k + 1) = bitI x k := by
  unfold bitI
  rw [Int.pow_succ, Int.mul_comm (2 ^ k), Int.mul_ediv_mul_of_pos _ _ (by decide)]
theorem saved_sum {a b c : Int} (h0 : 0 ≤ a) (h1 : 0 ≤ b) (h2 : 0 ≤ c) : xo3 a b c + 2 * maj a b c = a + b + c := by
  obtain ⟨a, rfl⟩ := nat_of h0
  obtain ⟨b, rfl⟩ := nat_of h1
  obtain ⟨c, rfl⟩ := nat_of h2
  rw [maj_nat, xo3_nat]
  have := csa _ a b c (Nat.le_refl _)
  omega
theorem saved_x {a b c : Int} (h0 : 0 ≤ a) (h1 : 0 ≤ b) (h2 : 0 ≤ c) (k : Nat) : bitI (xo3 a b c) k = (bitI a k + bitI b k + bitI c k) % 2 := by
  obtain ⟨a, rfl⟩ := nat_of h0
  obtain ⟨b, rfl⟩ := nat_of h1
  obtain ⟨c, rfl⟩ := nat_of h2
  rw [xo3_nat, bitI_nat, bitI_nat, bitI_nat, bitI_nat, csa_x]
  norm_cast
theorem saved_m {a b c : Int} (h0 : 0 ≤ a) (h1 : 0 ≤ b) (h2 : 0 ≤ c) (k : Nat) : bitI (2 * maj a b c) (k + 1) = if bitI a k + bitI b k + bitI c k > 1 then 1 else 0 := by
  obtain ⟨a, rfl⟩ := nat_of h0
  obtain ⟨b, rfl⟩ := nat_of h1
  obtain ⟨c, rfl⟩ := nat_of h2
  rw [bitI_two, maj_nat, bitI_nat, bitI_nat, bitI_nat, bitI_nat, csa_m]
  by_cases h : a / 2 ^ k % 2 + b / 2 ^ k % 2 + c / 2 ^ k % 2 > 1
  · rw [if_pos h, if_pos (by omega)]; rfl
  · rw [if_neg h, if_neg (by omega)]; rfl
/-! sums without carrying -/
theorem fold3_sum : ∀ l : List Int, (∀ z ∈ l, 0 ≤ z) → (fold3 l).sum = l.sum
  | [], _ => rfl
  | [a], _ => rfl
  | [a, b], _ => rfl
  | a :: b :: c :: r, h => by
    rw [fold3_cons, List.sum_cons, List.sum_cons, List.sum_cons, List.sum_cons, List.sum_cons, fold3_sum r fun z hz => h z (by simp [hz])]
    have := saved_sum (h a (by simp)) (h b (by simp)) (h c (by simp))
    omega
theorem rnd_sum : ∀ (F : Nat) (l : List Int), (∀ z ∈ l, 0 ≤ z) → (rnd F l).2.sum = l.sum
  | 0, _, _ => rfl
  | F + 1, l, h => by
    rw [rnd]
    split
    · show (rnd F (fold3 l)).2.sum = _
      rw [rnd_sum F _ (fold3_nn l h), fold3_sum l h]
    · rfl
theorem rnd_len : ∀ (F : Nat) (l : List Int), l.length ≤ F → (rnd F l).2.length = min 2 l.length
  | 0, l, h => by show l.length = _; omega
  | F + 1, l, h => by
    rw [rnd]
    have e := fold3_len l
    split
    · show (rnd F (fold3 l)).2.length = _
      rw [rnd_len F _ (by omega), e]
      omega
    · show l.length = _
      omega
def rndN : Nat → Nat → Nat
  | 0, _ => 0
  | F + 1, n => if 2 < n then rndN F (2 * (n / 3) + n % 3) + 1 else 0
theorem rnd_n : ∀ (F : Nat) (l : List Int), (rnd F l).1 = rndN F l.length
  | 0, _ => rfl
  | F + 1, l => by
    rw [rnd, rndN]
    split
    · show (rnd F (fold3 l)).1 + 1 = _
      rw [rnd_n F, fold3_len]
    · rfl
/-! bits in the other order -/
def bk (x : Int) : Nat → Int
  | 0 => 0
  | c + 1 => 2 * bk x c + bitI x c
theorem tb_sum (x : Int) (n : Nat) : ∀ c, c ≤ n → (((List.range c).filter fun i => decide (bitI x i = 1)).map fun i => (2 : Int) ^ (n - 1 - i)).sum = 2 ^ (n - c) * bk x c
  | 0, _ => by simp [bk]
  | c + 1, h => by
    rw [List.range_succ, List.filter_append, List.map_append, List.sum_append, tb_sum x n c (by omega), bk]
    have hb := bitI_rng x c
    have e : n - c = (n - (c + 1)) + 1 := by omega
    have e2 : n - 1 - c = n - (c + 1) := by omega
    rw [e, Int.pow_succ]
    have hb2 : bitI x c = 0 ∨ bitI x c = 1 := by omega
    rcases hb2 with hb2 | hb2
    · simp [hb2]; grind
    · simp [hb2, e2]; grind
theorem tbL_sum (b x : Int) : (tbL b x).sum = bk x b.toNat := by
  unfold tbL
  rw [tb_sum x b.toNat b.toNat (Nat.le_refl _), Nat.sub_self]
  show 1 * _ = _
  rw [Int.one_mul]
/-! least and greatest of a rising row -/
theorem rise_max : ∀ (r : List Nat) (x : Nat), (x :: r).Pairwise (· < ·) → ((r.map fun (i : Nat) => (i : Int)).foldl max (x : Int)) = (((x :: r).getLast (by simp) : Nat) : Int)
  | [], x, _ => rfl
  | y :: r, x, h => by
    rw [List.map_cons, List.foldl_cons]
    have h1 : x < y := (List.pairwise_cons.mp h).1 y (by simp)
    have e : max (x : Int) (y : Int) = (y : Int) := by omega
    rw [e]
    exact rise_max r y (List.pairwise_cons.mp h).2
theorem rise_min : ∀ (r : List Nat) (x : Nat), (∀ y ∈ r, x < y) → ((r.map fun (i : Nat) => (i : Int)).foldl min (x : Int)) = (x : Int)
  | [], x, _ => rfl
  | y :: r, x, h => by
    rw [List.map_cons, List.foldl_cons]
    have h1 := h y (by simp)
    have e : min (x : Int) (y : Int) = (x : Int) := by omega
    rw [e, rise_min r x fun z hz => h z (by simp [hz])]
theorem onL_rise (b x : Int) : (onL b x).Pairwise (· < ·) := List.Pairwise.filter _ List.pairwise_lt_range
theorem onL_max (b x : Int) : lmax ((onL b x).map fun (i : Nat) => (i : Int)) = (onL b x).getLast?.map fun (i : Nat) => (i : Int) := by
  have h := onL_rise b x
  cases hq : onL b x with
  | nil => rfl
  | cons z r =>
    rw [hq] at h
    rw [List.map_cons, lmax, rise_max r z h, List.getLast?_eq_some_getLast (by simp)]
    rfl
theorem onL_min (b x : Int) : lmin ((onL b x).map fun (i : Nat) => (i : Int)) = (onL b x).head?.map fun (i : Nat) => (i : Int) := by
  have h := onL_rise b x
  cases hq : onL b x with
  | nil => rfl
  | cons z r =>
    rw [hq] at h
    rw [List.map_cons, lmin, rise_min r z (List.pairwise_cons.mp h).1]
    rfl
end KL

set_option maxRecDepth 100000
namespace KL
open PySem Ev
/-! rows of pairs as dicts of ints -/
def lkp (l : List (Int × Int)) (x : Int) : Option Int := (l.find? fun kv => decide (kv.1 = x)).map (·.2)
def putI (l : List (Int × Int)) (x v : Int) : List (Int × Int) := if (l.any fun kv => decide (kv.1 = x)) then l.map (fun kv => if kv.1 = x then (kv.1, v) else kv) else l ++ [(x, v)]
theorem lkp_cons (p : Int × Int) (l : List (Int × Int)) (x : Int) : lkp (p :: l) x = if p.1 = x then some p.2 else lkp l x := by
  unfold lkp
  rw [List.find?_cons]
  by_cases h : p.1 = x
  · rw [decide_eq_true h, if_pos h]; rfl
  · rw [decide_eq_false h, if_neg h]
theorem lkp_map (x v y : Int) : ∀ l : List (Int × Int), lkp (l.map fun kv => if kv.1 = x then (kv.1, v) else kv) y = if y = x then (lkp l y).map (fun _ => v) else lkp l y
  | [] => by simp [lkp]
  | p :: l => by
    rw [List.map_cons, lkp_cons, lkp_map x v y l, lkp_cons]
    by_cases h : p.1 = x
    · rw [if_pos h]
      by_cases h2 : p.1 = y
      · have h3 : y = x := by omega
        simp [h2, h3]
      · simp [h2]
    · rw [if_neg h]
      by_cases h2 : p.1 = y
      · have h3 : ¬ y = x := by omega
        simp [h2, h3]
      · simp [h2]
theorem lkp_snoc (x v y : Int) : ∀ l : List (Int × Int), lkp (l ++ [(x, v)]) y = (lkp l y).orElse fun _ => if x = y then some v else none
  | [] => by rw [List.nil_append, lkp_cons]; rfl
  | p :: l => by
    rw [List.cons_append, lkp_cons, lkp_cons, lkp_snoc x v y l]
    by_cases h : p.1 = y
    · rw [if_pos h, if_pos h]; rfl
    · rw [if_neg h, if_neg h]
theorem any_lkp (x : Int) : ∀ l : List (Int × Int), (l.any fun kv => decide (kv.1 = x)) = (lkp l x).isSome
  | [] => rfl
  | p :: l => by
    rw [List.any_cons, lkp_cons, any_lkp x l]
    by_cases h : p.1 = x
    · rw [if_pos h, decide_eq_true h]; rfl
    · rw [if_neg h, decide_eq_false h]; rfl
theorem lkp_put (l : List (Int × Int)) (x v y : Int) : lkp (putI l x v) y = if y = x then some v else lkp l y := by
  unfold putI
  rw [any_lkp]
  by_cases h : (lkp l x).isSome = true
  · rw [if_pos h, lkp_map]
    by_cases h2 : y = x
    · subst h2
      obtain ⟨w, hw⟩ := Option.isSome_iff_exists.mp h
      rw [if_pos rfl, if_pos rfl, hw]; rfl
    · rw [if_neg h2, if_neg h2]
  · rw [if_neg h, lkp_snoc]
    by_cases h2 : y = x
    · subst h2
      have : lkp l y = none := by
        cases hq : lkp l y with
        | none => rfl
        | some w => rw [hq] at h; exact absurd rfl h
      simp [this]
    · rw [if_neg h2, if_neg (fun z => h2 z.symm)]
      cases lkp l y <;> rfl
theorem lkp_mem {l : List (Int × Int)} {x c : Int} (h : lkp l x = some c) : x ∈ l.map (·.1) := by
  induction l with
  | nil => cases h
  | cons p l ih =>
    rw [lkp_cons] at h
    by_cases h2 : p.1 = x
    · simp [h2]
    · rw [if_neg h2] at h
      exact List.mem_cons_of_mem _ (ih h)
theorem mem_lkp {l : List (Int × Int)} {x : Int} (h : x ∈ l.map (·.1)) : ∃ c, lkp l x = some c := by
  induction l with
  | nil => cases h
  | cons p l ih =>
    rw [lkp_cons]
    by_cases h2 : p.1 = x
    · exact ⟨p.2, if_pos h2⟩
    · rw [if_neg h2]
      rcases List.mem_cons.mp h with h | h
      · exact absurd h.symm h2
      · exact ih h
/-- one entry, both digits -/
def put1 (w h c d : Int) (f : List (Int × Int)) : List (Int × Int) := putI f (h + d * w) (min ((lkp f (h + d * w)).getD 99) (c + 1))
def put2 (rows : List (Int × Int)) (w : Int) (f : List (Int × Int)) (h : Int) : List (Int × Int) := put1 w h ((lkp rows h).getD 0) 1 (put1 w h ((lkp rows h).getD 0) (-1) f)
def rowsF : Nat → List (Int × Int)
  | 0 => [(0, 0)]
  | k + 1 => ((rowsF k).map (·.1)).foldl (put2 (rowsF k) (2 ^ k)) (rowsF k)
/-! what the rows tell -/
def Rep (k : Nat) (x c : Int) : Prop := ∃ ds : List Int, ds.length = k ∧ (∀ d ∈ ds, Dig d) ∧ fromD ds = x ∧ ((nz ds).length : Int) = c
def lkLe (f g : List (Int × Int)) : Prop := ∀ x c, lkp f x = some c → ∃ c', lkp g x = some c' ∧ c' ≤ c
theorem lkLe.refl (f) : lkLe f f := fun _ c h => ⟨c, h, Int.le_refl _⟩
theorem lkLe.trans {f g h} (a : lkLe f g) (b : lkLe g h) : lkLe f h := fun x c hx => by
  obtain ⟨c1, h1, l1⟩ := a x c hx
  obtain ⟨c2, h2, l2⟩ := b x c1 h1
  exact ⟨c2, h2, Int.le_trans l2 l1⟩
theorem put1_le (w h c d : Int) (f) : lkLe f (put1 w h c d f) := fun x e hx => by
  unfold put1
  rw [lkp_put]
  by_cases h2 : x = h + d * w
  · rw [if_pos h2, ← h2, hx]
    exact ⟨_, rfl, Int.min_le_left _ _⟩
  · rw [if_neg h2]; exact ⟨e, hx, Int.le_refl _⟩
theorem put1_at (w h c d : Int) (f) : ∃ c', lkp (put1 w h c d f) (h + d * w) = some c' ∧ c' ≤ c + 1 := by
  unfold put1
  rw [lkp_put, if_pos rfl]
  exact ⟨_, rfl, Int.min_le_right _ _⟩
theorem fromD_snoc (d : Int) : ∀ l : List Int, fromD (l ++ [d]) = fromD l + d * 2 ^ l.length
  | [] => by show d + 2 * 0 = 0 + d * 1; omega
  | x :: l => by
    rw [List.cons_append, fromD_cons, fromD_cons, fromD_snoc d l, List.length_cons, Int.pow_succ]
    grind
theorem nz_snoc (d : Int) (l : List Int) : ((nz (l ++ [d])).length : Int) = (nz l).length + if d = 0 then 0 else 1 := by
  unfold nz
  rw [List.filter_append]
  by_cases h : d = 0 <;> simp [h]
theorem rep_snoc {k : Nat} {x c d : Int} (h : Rep k x c) (hd : Dig d) : Rep (k + 1) (x + d * 2 ^ k) (c + if d = 0 then 0 else 1) := by
  obtain ⟨ds, h1, h2, h3, h4⟩ := h
  refine ⟨ds ++ [d], by simp [h1], fun e he => ?_, by rw [fromD_snoc, h3, h1], by rw [nz_snoc, h4]⟩
  rcases List.mem_append.mp he with he | he
  · exact h2 e he
  · rw [List.mem_singleton.mp he]; exact hd
theorem rep_unsnoc {k : Nat} {x c : Int} (h : Rep (k + 1) x c) : ∃ d y e, Dig d ∧ Rep k y e ∧ x = y + d * 2 ^ k ∧ c = e + if d = 0 then 0 else 1 := by
  obtain ⟨ds, h1, h2, h3, h4⟩ := h
  have hne : ds ≠ [] := by intro z; rw [z] at h1; cases h1
  obtain ⟨l, d, rfl⟩ : ∃ l d, ds = l ++ [d] := ⟨ds.dropLast, ds.getLast hne, (List.dropLast_concat_getLast hne).symm⟩
  have hl : l.length = k := by simpa using h1
  refine ⟨d, fromD l, _, h2 d (by simp), ⟨l, hl, fun e he => h2 e (by simp [he]), rfl, rfl⟩, ?_, ?_⟩
  · rw [← h3, fromD_snoc, hl]
  · rw [← h4, nz_snoc]
theorem rep_c {k : Nat} {x c : Int} (h : Rep k x c) : 0 ≤ c ∧ c ≤ k := by
  obtain ⟨ds, h1, h2, h3, h4⟩ := h
  have : (nz ds).length ≤ ds.length := List.length_filter_le _ _
  omega
def Inv (k : Nat) (f : List (Int × Int)) : Prop := (∀ x c, lkp f x = some c → Rep k x c) ∧ ∀ x c, Rep k x c → ∃ c', lkp f x = some c' ∧ c' ≤ c
theorem put1_rep {k : Nat} {h c d : Int} {f} (hk : k ≤ 90) (hr : Rep k h c) (hd : d = 1 ∨ d = -1) (ha : ∀ x c, lkp f x = some c → Rep (k + 1) x c) : ∀ x e, lkp (put1 (2 ^ k) h c d f) x = some e → Rep (k + 1) x e := fun x e hx => by
  unfold put1 at hx
  rw [lkp_put] at hx
  have hn : Rep (k + 1) (h + d * 2 ^ k) (c + 1) := by
    have := rep_snoc hr (d := d) (by unfold Dig; omega)
    rw [if_neg (by omega)] at this
    exact this
  by_cases h2 : x = h + d * 2 ^ k
  · rw [if_pos h2] at hx
    cases hx
    subst h2
    cases hq : lkp f (h + d * 2 ^ k) with
    | none =>
      have hc := rep_c hr
      have e1 : min ((none : Option Int).getD 99) (c + 1) = c + 1 := by
        show min 99 (c + 1) = c + 1
        omega
      rw [e1]
      exact hn
    | some o =>
      show Rep _ _ (min o (c + 1))
      by_cases ho : o ≤ c + 1
      · rw [Int.min_eq_left ho]; exact ha _ _ hq
      · rw [Int.min_eq_right (by omega)]; exact hn
  · rw [if_neg h2] at hx
    exact ha x e hx
theorem fold_inv {k : Nat} {rows : List (Int × Int)} (hk : k ≤ 90) (hI : Inv k rows) : ∀ (todo : List Int) (f : List (Int × Int)), (∀ h ∈ todo, ∃ c, lkp rows h = some c) → lkLe rows f → (∀ x c, lkp f x = some c → Rep (k + 1) x c) →
    lkLe rows (todo.foldl (put2 rows (2 ^ k)) f) ∧ (∀ x c, lkp (todo.foldl (put2 rows (2 ^ k)) f) x = some c → Rep (k + 1) x c) ∧ lkLe f (todo.foldl (put2 rows (2 ^ k)) f) ∧
    ∀ h ∈ todo, ∀ c, lkp rows h = some c → ∀ d, d = 1 ∨ d = -1 → ∃ c', lkp (todo.foldl (put2 rows (2 ^ k)) f) (h + d * 2 ^ k) = some c' ∧ c' ≤ c + 1
  | [], f, _, h2, h3 => ⟨h2, h3, .refl f, fun _ h => by cases h⟩
  | a :: todo, f, h1, h2, h3 => by
    obtain ⟨ca, hca⟩ := h1 a (by simp)
    have hr := hI.1 a ca hca
    have e0 : put2 rows (2 ^ k) f a = put1 (2 ^ k) a ca 1 (put1 (2 ^ k) a ca (-1) f) := by
      unfold put2; rw [hca]; rfl
    have l1 := put1_le (2 ^ k) a ca (-1) f
    have l2 := put1_le (2 ^ k) a ca 1 (put1 (2 ^ k) a ca (-1) f)
    have r1 := put1_rep hk hr (.inr rfl) h3
    have r2 := put1_rep hk hr (.inl rfl) r1
    rw [List.foldl_cons, e0]
    obtain ⟨i1, i2, i3, i4⟩ := fold_inv hk hI todo _ (fun h hh => h1 h (by simp [hh])) ((h2.trans l1).trans l2) r2
    refine ⟨i1, i2, (l1.trans l2).trans i3, fun h hh c hc d hd => ?_⟩
    rcases List.mem_cons.mp hh with hh | hh
    · subst hh
      rw [hca] at hc
      cases hc
      rcases hd with rfl | rfl
      · obtain ⟨c1, q1, q2⟩ := put1_at (2 ^ k) h ca 1 (put1 (2 ^ k) h ca (-1) f)
        obtain ⟨c2, q3, q4⟩ := i3 _ _ q1
        exact ⟨c2, q3, Int.le_trans q4 q2⟩
      · obtain ⟨c1, q1, q2⟩ := put1_at (2 ^ k) h ca (-1) f
        obtain ⟨c2, q3, q4⟩ := (l2.trans i3) _ _ q1
        exact ⟨c2, q3, Int.le_trans q4 q2⟩
    · exact i4 h hh c hc d hd
theorem rows_inv : ∀ k : Nat, k ≤ 90 → Inv k (rowsF k)
  | 0, _ => by
    refine ⟨fun x c h => ?_, fun x c h => ?_⟩
    · rw [rowsF, lkp_cons] at h
      by_cases h2 : (0 : Int) = x
      · rw [if_pos h2] at h
        cases h
        exact ⟨[], rfl, (fun _ h => by cases h), h2, rfl⟩
      · rw [if_neg h2] at h; cases h
    · obtain ⟨ds, h1, h2, h3, h4⟩ := h
      rw [List.length_eq_zero_iff] at h1
      subst h1
      have e1 : x = 0 := h3.symm
      have e2 : c = 0 := h4.symm
      subst e1 e2
      exact ⟨0, rfl, Int.le_refl _⟩
  | k + 1, h => by
    have ih := rows_inv k (by omega)
    have h3 : ∀ x c, lkp (rowsF k) x = some c → Rep (k + 1) x c := fun x c hx => by
      have := rep_snoc (ih.1 x c hx) (d := 0) (.inr (.inl rfl))
      rw [Int.zero_mul, Int.add_zero, if_pos rfl, Int.add_zero] at this
      exact this
    obtain ⟨i1, i2, _, i4⟩ := fold_inv (by omega) ih ((rowsF k).map (·.1)) (rowsF k) (fun h hh => mem_lkp hh) (.refl _) h3
    refine ⟨i2, fun x c hr => ?_⟩
    obtain ⟨d, y, e, hd, hy, rfl, rfl⟩ := rep_unsnoc hr
    obtain ⟨c', q1, q2⟩ := ih.2 y e hy
    by_cases hd0 : d = 0
    · subst hd0
      rw [Int.zero_mul, Int.add_zero, if_pos rfl, Int.add_zero]
      obtain ⟨c2, q3, q4⟩ := i1 y c' q1
      exact ⟨c2, q3, Int.le_trans q4 q2⟩
    · rw [if_neg hd0]
      obtain ⟨c2, q3, q4⟩ := i4 y (lkp_mem q1) c' q1 d (by unfold Dig at hd; omega)
      exact ⟨c2, q3, by omega⟩
/-! no digits that make a number are fewer than the sparse ones -/
/-- how many digits the sparse way has -/
def wN (F : Nat) (n : Int) : Int := ((nz (naf F n)).length : Int)
theorem wN_zero (F : Nat) : wN F 0 = 0 := by cases F <;> rfl
theorem wN_step (F : Nat) (n : Int) (h : n ≠ 0) : wN (F + 1) n = (if nd n = 0 then 0 else 1) + wN F (nx1 n) := by
  unfold wN
  rw [naf, if_neg h]
  unfold nz
  rw [List.filter_cons]
  by_cases hd : nd n = 0
  · simp [hd]
  · simp [hd]; omega
theorem nx1_zero : nx1 0 = 0 := by decide
theorem wN_step' (F : Nat) (n : Int) : wN (F + 1) n = (if nd n = 0 then 0 else 1) + wN F (nx1 n) := by
  by_cases h : n = 0
  · subst h
    rw [nx1_zero, wN_zero, wN_zero]
    rfl
  · exact wN_step F n h
/-- more fuel tells the same -/
theorem wN_more : ∀ (F : Nat) (n : Int), Rch F n → wN (F + 1) n = wN F n
  | 0, n, h => by rw [show n = 0 from h, wN_zero, wN_zero]
  | F + 1, n, h => by
    by_cases h0 : n = 0
    · subst h0; rw [wN_zero, wN_zero]
    · rcases h with h | h
      · exact absurd h h0
      · rw [wN_step' (F + 1) n, wN_step' F n, wN_more F _ h]
theorem nd_even {n m : Int} (h : n = 2 * m) : nd n = 0 ∧ nx1 n = m := by
  have h1 : nd n = 0 := by unfold nd; rw [if_neg (by omega)]
  refine ⟨h1, ?_⟩
  unfold nx1
  rw [h1]
  omega
theorem nd_1 {n m : Int} (h : n = 4 * m + 1) : nd n = 1 ∧ nx1 n = 2 * m := by
  have h1 : nd n = 1 := by unfold nd; rw [if_pos (by omega), if_pos (by omega)]
  refine ⟨h1, ?_⟩
  unfold nx1
  rw [h1]
  omega
theorem nd_3 {n m : Int} (h : n = 4 * m + 3) : nd n = -1 ∧ nx1 n = 2 * m + 2 := by
  have h1 : nd n = -1 := by unfold nd; rw [if_pos (by omega), if_neg (by omega)]
  refine ⟨h1, ?_⟩
  unfold nx1
  rw [h1]
  omega
/-- neighbours differ by at most one, and an odd number wants no less than the even ones beside it -/
theorem wN_near : ∀ (F : Nat) (n : Int), -(2 ^ F) ≤ n → n + 1 ≤ 2 ^ F → (wN (F + 2) n ≤ wN (F + 2) (n + 1) + 1 ∧ wN (F + 2) (n + 1) ≤ wN (F + 2) n + 1) ∧ (n % 2 = 1 → wN (F + 2) (n + 1) ≤ wN (F + 2) n) ∧ (n % 2 = 0 → wN (F + 2) n ≤ wN (F + 2) (n + 1))
  | 0, n, h1, h2 => by
    rw [show (2 : Int) ^ 0 = 1 from rfl] at h1 h2
    have hn : n = -1 ∨ n = 0 := by omega
    rcases hn with rfl | rfl <;> decide
  | F + 1, n, h1, h2 => by
    rw [Int.pow_succ] at h1 h2
    have hc : n % 4 = 0 ∨ n % 4 = 1 ∨ n % 4 = 2 ∨ n % 4 = 3 := by omega
    have hp : (0 : Int) < 2 ^ F := pow_pos' F
    obtain ⟨q, hq⟩ : ∃ q, q = n / 4 := ⟨_, rfl⟩
    rcases hc with hc | hc | hc | hc
    · have hn : n = 4 * q := by omega
      have a1 := nd_even (n := n) (m := 2 * q) (by omega)
      have a2 := nd_1 (n := n + 1) (m := q) (by omega)
      rw [wN_step' (F + 2) n, wN_step' (F + 2) (n + 1), a1.1, a1.2, a2.1, a2.2, if_pos rfl, if_neg (by omega)]
      omega
    · have hn : n = 4 * q + 1 := by omega
      have a1 := nd_1 (n := n) (m := q) (by omega)
      have a2 := nd_even (n := n + 1) (m := 2 * q + 1) (by omega)
      rw [wN_step' (F + 2) n, wN_step' (F + 2) (n + 1), a1.1, a1.2, a2.1, a2.2, if_pos rfl, if_neg (by omega)]
      have ih := wN_near F (2 * q) (by omega) (by omega)
      omega
    · have hn : n = 4 * q + 2 := by omega
      have a1 := nd_even (n := n) (m := 2 * q + 1) (by omega)
      have a2 := nd_3 (n := n + 1) (m := q) (by omega)
      rw [wN_step' (F + 2) n, wN_step' (F + 2) (n + 1), a1.1, a1.2, a2.1, a2.2, if_pos rfl, if_neg (by omega)]
      have ih := wN_near F (2 * q + 1) (by omega) (by omega)
      have e : 2 * q + 1 + 1 = 2 * q + 2 := by omega
      rw [e] at ih
      omega
    · have hn : n = 4 * q + 3 := by omega
      have a1 := nd_3 (n := n) (m := q) (by omega)
      have a2 := nd_even (n := n + 1) (m := 2 * q + 2) (by omega)
      rw [wN_step' (F + 2) n, wN_step' (F + 2) (n + 1), a1.1, a1.2, a2.1, a2.2, if_pos rfl, if_neg (by omega)]
      omega
theorem fromD_abs : ∀ (k : Nat) (ds : List Int), ds.length = k → (∀ d ∈ ds, Dig d) → -(2 ^ k) < fromD ds ∧ fromD ds < 2 ^ k
  | 0, ds, h, _ => by
    rw [List.length_eq_zero_iff] at h
    subst h
    decide
  | k + 1, [], h, _ => by cases h
  | k + 1, d :: r, h, hd => by
    have ih := fromD_abs k r (by simpa using h) fun e he => hd e (by simp [he])
    have h1 := hd d (by simp)
    rw [fromD_cons, Int.pow_succ]
    unfold Dig at h1
    omega
theorem wN_fuel (k F : Nat) (n : Int) (h1 : -(2 ^ k) ≤ n) (h2 : n ≤ 2 ^ k) (hF : k + 1 ≤ F) : wN F n = wN (k + 1) n := by
  induction F with
  | zero => omega
  | succ F ih =>
    by_cases h : F = k
    · rw [h]
    · rw [← ih (by omega)]
      have e : F = (F - 1) + 1 := by omega
      have hk : (2 : Int) ^ k ≤ 2 ^ (F - 1) := pow_mono' (by omega)
      refine wN_more F n ?_
      rw [e]
      exact rch_of (F - 1) n (by omega) (by omega)
/-- the sparse digits are the fewest -/
theorem wN_least : ∀ (k : Nat) (ds : List Int), ds.length = k → (∀ d ∈ ds, Dig d) → wN (k + 2) (fromD ds) ≤ ((nz ds).length : Int)
  | 0, ds, h, _ => by
    rw [List.length_eq_zero_iff] at h
    subst h
    decide
  | k + 1, [], h, _ => by cases h
  | k + 1, d :: r, h, hd => by
    have hr : r.length = k := by simpa using h
    have hdr : ∀ e ∈ r, Dig e := fun e he => hd e (by simp [he])
    have ih := wN_least k r hr hdr
    have hb := fromD_abs k r hr hdr
    have h1 := hd d (by simp)
    have hz : ((nz (d :: r)).length : Int) = (if d = 0 then 0 else 1) + (nz r).length := by
      unfold nz
      rw [List.filter_cons]
      by_cases h : d = 0 <;> simp [h]
      omega
    rw [fromD_cons, hz, wN_step']
    generalize fromD r = m at *
    have hm : m % 2 = 0 ∨ m % 2 = 1 := by omega
    obtain ⟨q, hq⟩ : ∃ q, q = m / 2 := ⟨_, rfl⟩
    rcases h1 with rfl | rfl | rfl
    · rcases hm with hm | hm
      · have a := nd_3 (n := -1 + 2 * m) (m := q - 1) (by omega)
        have e : 2 * (q - 1) + 2 = m := by omega
        rw [a.1, a.2, e, if_neg (by omega)]
        omega
      · have a := nd_1 (n := -1 + 2 * m) (m := q) (by omega)
        have e : 2 * q = m - 1 := by omega
        rw [a.1, a.2, e, if_neg (by omega)]
        have n1 := wN_near k (m - 1) (by omega) (by omega)
        have e2 : m - 1 + 1 = m := by omega
        rw [e2] at n1
        omega
    · have a := nd_even (n := 0 + 2 * m) (m := m) (by omega)
      rw [a.1, a.2]
      omega
    · rcases hm with hm | hm
      · have a := nd_1 (n := 1 + 2 * m) (m := q) (by omega)
        have e : 2 * q = m := by omega
        rw [a.1, a.2, e, if_neg (by omega)]
        omega
      · have a := nd_3 (n := 1 + 2 * m) (m := q) (by omega)
        have e : 2 * q + 2 = m + 1 := by omega
        rw [a.1, a.2, e, if_neg (by omega)]
        have n1 := wN_near k m (by omega) (by omega)
        omega
/-- digits can be lengthened by noughts -/
theorem rep_pad {k : Nat} {x c : Int} (h : Rep k x c) : ∀ j, Rep (k + j) x c
  | 0 => h
  | j + 1 => by
    have := rep_snoc (rep_pad h j) (d := 0) (.inr (.inl rfl))
    rw [Int.zero_mul, Int.add_zero, if_pos rfl, Int.add_zero] at this
    exact this
theorem nafLen : ∀ (k : Nat) (n : Int), -(2 ^ k) ≤ n → n ≤ 2 ^ k → Rch (k + 1) n ∧ (naf (k + 1) n).length ≤ k + 1 := fun k n h1 h2 => ⟨rch_of k n h1 h2, naf_len _ _⟩
/-- what the rows tell is the count of sparse digits -/
theorem rows_fewest {k F : Nat} {n : Int} (hk : k + 1 ≤ 90) (h1 : -(2 ^ k) ≤ n) (h2 : n ≤ 2 ^ k) (hF : k + 3 ≤ F) : lkp (rowsF (k + 1)) n = some (wN F n) := by
  have hr := rch_of k n h1 h2
  have I := rows_inv (k + 1) hk
  have e1 : wN F n = wN (k + 1) n := wN_fuel k F n h1 h2 (by omega)
  have r0 : Rep (naf (k + 1) n).length n (wN (k + 1) n) := ⟨naf (k + 1) n, rfl, naf_dig _ _, naf_val _ _ hr, rfl⟩
  have r1 := rep_pad r0 (k + 1 - (naf (k + 1) n).length)
  have e2 : (naf (k + 1) n).length + (k + 1 - (naf (k + 1) n).length) = k + 1 := by
    have := naf_len (k + 1) n
    omega
  rw [e2] at r1
  obtain ⟨c, q1, q2⟩ := I.2 n _ r1
  obtain ⟨ds, d1, d2, d3, d4⟩ := I.1 n c q1
  have l := wN_least (k + 1) ds d1 d2
  rw [d3, d4, wN_fuel k (k + 1 + 2) n h1 h2 (by omega)] at l
  rw [q1, e1]
  congr 1
  omega
end KL

set_option maxRecDepth 100000
namespace KL
open PySem Ev
local macro_rules | `(tactic| walk_at "st") => `(tactic| dsimp only [start0, List.length_cons, List.length_nil, List.replicate, List.cons_append, List.nil_append, Nat.reduceSub, Nat.reduceAdd])
local macro_rules | `(tactic| walk_at "ev") => `(tactic| simp (disch := omega) only [sSeq, sSet, sExpr, sRet, sRetN, sIf, sBrk, sCnt, sRaise, sNil, sAsg, sAug, sPar2, sFor, tName, tTup, tsCons, tsNil, tSub, eVar, eC, eOp, eUn, aNil, aCons, eTup, eLst, eCall, eBlt, gcF, gcE, eNot, eAnd, eOr, eIf, eChain, eTold, eMt, eSl, withPart, iR1, iR2, iR3, iSeq, Ev.iEnum, Res.bnd, Res.bndS, Res.bndA, Res.bndI, Rss.bnd, Rss.bndA, Rss.bndS, Rss.bndI, Itm.bnd, Itm.bndS, Out.bnd, Res.tst, Res.tstS, Res.tstA, gv, sv, tru, al, toRes, C.psh, endG, gOk, bAdd, bSub, uNeg, cLt, cLe, cGt, cGe, iAdd, lenD, intD, absD, if_true, if_false, Bool.false_eq_true, ite_true, ite_false, decide_true, decide_false, Bool.not_true, Bool.not_false, Bool.and_true, Bool.and_false, Bool.true_and, Bool.false_and, Int.zero_sub, and_true, true_and, and_false, false_and, not_true_eq_false, not_false_eq_true, finF_same, fin_same', cEq_int, cNe_int, decide_eq_true_eq, Bool.not_eq_true', decide_eq_false_iff_not, ite_not])
local macro_rules | `(tactic| walk_at "ew") => `(tactic| repeat (first | walk_at "ev" | (simp (disch := omega) only [ev_power_of, ev_check, ev_check_code, ev_meaning, ev_code_of, ev_widened, div_pow, mod_pow])))
abbrev bTk : SS := (sSeq (sIf (eOp cGt (eOp bIx (eVar 0) (eC (.int 2))) (eC (.int 0))) (sSeq (sSet 2 (eOp bMod (eBlt intD (aCons (eOp bIx (eVar 0) (eC (.int 2))) aNil)) (eVar 1))) (sSeq (sAsg (eOp bDiv (eBlt intD (aCons (eOp bIx (eVar 0) (eC (.int 2))) aNil)) (eVar 1)) (tSub (eVar 0) (eC (.int 2)))) (sSeq (sRet (eVar 2)) sNil))) sNil) (sSeq (sAsg (eOp bMod (eBlt intD (aCons (eOp bAdd (eOp bMul (eOp bIx (eVar 0) (eC (.int 3))) (eC (.int 48271))) (eC (.int 11))) aNil)) (eC (.int 2147483647))) (tSub (eVar 0) (eC (.int 3)))) (sSeq (sRet (eOp bMod (eBlt intD (aCons (eOp bDiv (eOp bIx (eVar 0) (eC (.int 3))) (eC (.int 3))) aNil)) (eVar 1))) sNil)))
/-- the hand: the script's numbers, how many are read, what is left of the last, the seed -/
def hnd (m : Nat) (i c z : Int) : List D := [.ref m, .int i, .int c, .int z]
structure HdAt (ns : List Int) (s : S) (n m : Nat) (i c z : Int) : Prop where
  at_ : lstOf s n = some (hnd m i c z)
  ns_ : lstOf s m = some (ns.map D.int)
  ne : m ≠ n
  i0 : 0 ≤ i
  c0 : 0 ≤ c
  z0 : 0 ≤ z
def Hd (ns : List Int) (s : S) (n : Nat) : Prop := ∃ m i c z, HdAt ns s n m i c z
theorem lst_get {s : S} {n : Nat} {ds : List D} (h : lstOf s n = some ds) : s[n]? = some (.lst ds) := by
  unfold lstOf at h
  split at h
  · rename_i es he; cases h; exact he
  · cases h
theorem lst_set {s : S} {n : Nat} {ds es : List D} (h : lstOf s n = some ds) : lstOf (s.set n (.lst es)) n = some es := by
  have hl := lstOf_lt h
  simp [lstOf, hl]
theorem lst_ne {s : S} {n m : Nat} {o : O} (h : m ≠ n) : lstOf (s.set n o) m = lstOf s m := by
  unfold lstOf
  rw [List.getElem?_set_ne (Ne.symm h)]
theorem HdAt.upd {ns : List Int} {s : S} {n m : Nat} {i c z i' c' z' : Int} (h : HdAt ns s n m i c z) (h1 : 0 ≤ i') (h2 : 0 ≤ c') (h3 : 0 ≤ z') : HdAt ns (s.set n (.lst (hnd m i' c' z'))) n m i' c' z' :=
  ⟨lst_set h.at_, by rw [lst_ne h.ne]; exact h.ns_, h.ne, h1, h2, h3⟩
theorem set_set' {s : S} {n : Nat} {a b : O} : (s.set n a).set n b = s.set n b := List.set_set ..
theorem bIx_lst {s : S} {n : Nat} {ds : List D} {i : Nat} {z : Int} (h : lstOf s n = some ds) (hi : ds[i]? = some (.int z)) : bIx (.ref n) (.int ((i : Nat) : Int)) s = .ok (.int z) s := by
  simp only [bIx, h]
  exact ixL_nat hi
section
variable {ns : List Int} {s : S} {n m : Nat} {i c z : Int} {C0 : C} {ρ : Ev.Env}
theorem h_get1 (h : HdAt ns s n m i c z) (hv : gv ρ 0 = .ref n) : eOp bIx (eVar 0) (eC (.int 1)) C0 ρ s = .ok (.int i) s := by
  rw [op_ok (x := .ref n) (y := .int 1) (s1 := s) (s2 := s) (var_ok hv (by simp)) rfl]
  exact bIx_lst (i := 1) h.at_ rfl
theorem h_get2 (h : HdAt ns s n m i c z) (hv : gv ρ 0 = .ref n) : eOp bIx (eVar 0) (eC (.int 2)) C0 ρ s = .ok (.int c) s := by
  rw [op_ok (x := .ref n) (y := .int 2) (s1 := s) (s2 := s) (var_ok hv (by simp)) rfl]
  exact bIx_lst (i := 2) h.at_ rfl
theorem h_get3 (h : HdAt ns s n m i c z) (hv : gv ρ 0 = .ref n) : eOp bIx (eVar 0) (eC (.int 3)) C0 ρ s = .ok (.int z) s := by
  rw [op_ok (x := .ref n) (y := .int 3) (s1 := s) (s2 := s) (var_ok hv (by simp)) rfl]
  exact bIx_lst (i := 3) h.at_ rfl
theorem h_get0 (h : HdAt ns s n m i c z) (hv : gv ρ 0 = .ref n) : eOp bIx (eVar 0) (eC (.int 0)) C0 ρ s = .ok (.ref m) s := by
  rw [op_ok (x := .ref n) (y := .int 0) (s1 := s) (s2 := s) (var_ok hv (by simp)) rfl]
  simp only [bIx, h.at_]
  rfl
theorem setIx_lst {B : List Nat} {ds : List D} {j : Nat} {v : Int} (h : lstOf s n = some ds) (hj : j < ds.length) : setIx B (.ref n) (.int ((j : Nat) : Int)) (.int v) s = some (s.set n (.lst (ds.set j (.int v)))) := by
  have e : L2.ixN ds.length ((j : Nat) : Int) = some j := by
    unfold L2.ixN
    rw [if_pos (by omega), if_pos (by omega)]
    simp
  simp only [setIx, lst_get h, e]
  rw [if_pos (wok_pln fun _ => rfl)]
theorem h_set {e : ES} {j : Nat} {v : Int} (h : HdAt ns s n m i c z) (hv : gv ρ 0 = .ref n) (hj : j < 4) (he : e C0 ρ s = .ok (.int v) s) : sAsg e (tSub (eVar 0) (eC (.int ((j : Nat) : Int)))) C0 ρ s = .nx ρ (s.set n (.lst ((hnd m i c z).set j (.int v)))) := by
  rw [asg_ok he]
  unfold tSub
  rw [var_ok (c := C0) (ρ := ρ) (s := s) hv (by simp)]
  simp only [Res.bndS, eC]
  rw [setIx_lst h.at_ hj]
theorem int_blt {e : ES} {v : Int} (he : ∀ B, e ⟨C0.call, B⟩ ρ s = .ok (.int v) s) : eBlt intD (aCons e aNil) C0 ρ s = .ok (.int v) s := by
  unfold eBlt gcF aCons aNil
  have := he (s.length :: C0.B)
  simp only [this, Res.bndA, Rss.bndA, Rss.bnd, intD]
  exact finF_same
theorem abs_blt {e : ES} {v : Int} (he : ∀ B, e ⟨C0.call, B⟩ ρ s = .ok (.int v) s) : eBlt absD (aCons e aNil) C0 ρ s = .ok (.int (if v < 0 then -v else v)) s := by
  unfold eBlt gcF aCons aNil
  have := he (s.length :: C0.B)
  simp only [this, Res.bndA, Rss.bndA, Rss.bnd, absD]
  exact finF_same
theorem and_f {a b : ES} (h : a C0 ρ s = .ok (.bl false) s) : eAnd a b C0 ρ s = .ok (.bl false) s := by
  unfold eAnd
  rw [h]
  rfl
theorem and_t {a b : ES} (h : a C0 ρ s = .ok (.bl true) s) : eAnd a b C0 ρ s = b C0 ρ s := by
  unfold eAnd
  rw [h]
  rfl
theorem or_t {a b : ES} (h : a C0 ρ s = .ok (.bl true) s) : eOr a b C0 ρ s = .ok (.bl true) s := by
  unfold eOr
  rw [h]
  rfl
theorem or_f {a b : ES} (h : a C0 ρ s = .ok (.bl false) s) : eOr a b C0 ρ s = b C0 ρ s := by
  unfold eOr
  rw [h]
  rfl
/-- the later part of a taking -/
theorem take_rest {many : Int} {x2 x3 : D} {k : Nat → List Nat → List D → S → Res} {B : List Nat} (h : HdAt ns s n m i c z) (h0 : 0 < many) (h1 : many < 2 ^ 62) : ∃ v c' z', bTk ⟨k, B⟩ [.ref n, .int many, x2, x3] s = .rt (.int v) (s.set n (.lst (hnd m i c' z'))) ∧ 0 ≤ v ∧ v < many ∧ 0 ≤ c' ∧ 0 ≤ z' := by
  have hgt : eOp cGt (eOp bIx (eVar 0) (eC (.int 2))) (eC (.int 0)) ⟨k, B⟩ [.ref n, .int many, x2, x3] s = .ok (.bl (decide (c > 0))) s := by
    rw [op_ok (x := .int c) (y := .int 0) (s1 := s) (s2 := s) (h_get2 h rfl) rfl, cGt_ok]
  by_cases hc : c > 0
  · refine ⟨c % many, c / many, z, ?_, Int.emod_nonneg _ (by omega), Int.emod_lt_of_pos _ h0, Int.ediv_nonneg h.c0 (by omega), h.z0⟩
    refine seq_rt ?_
    rw [if_t (hgt.trans (by rw [decide_eq_true hc])) rfl]
    refine seq_go (ρ1 := [.ref n, .int many, .int (c % many), x3]) (s1 := s) (set_ok (d := .int (c % many)) ?_) (seq_go (ρ1 := [.ref n, .int many, .int (c % many), x3]) (s1 := s.set n (.lst (hnd m i (c / many) z))) ?_ (seq_rt rfl))
    · rw [op_ok (x := .int c) (y := .int many) (s1 := s) (s2 := s) (int_blt fun _ => h_get2 h rfl) rfl, mod_ok h0]
    · refine h_set (j := 2) h rfl (by omega) ?_
      rw [op_ok (x := .int c) (y := .int many) (s1 := s) (s2 := s) (int_blt fun _ => h_get2 h rfl) rfl, div_ok h0 (big_of h1)]
  · obtain ⟨z', hz'⟩ : ∃ z', z' = (z * 48271 + 11) % 2147483647 := ⟨_, rfl⟩
    have hz0 : 0 ≤ z' := by omega
    refine ⟨z' / 3 % many, c, z', ?_, Int.emod_nonneg _ (by omega), Int.emod_lt_of_pos _ h0, h.c0, hz0⟩
    have h2 := h.upd (i' := i) (c' := c) (z' := z') h.i0 h.c0 hz0
    refine seq_go (ρ1 := [.ref n, .int many, x2, x3]) (s1 := s) (guard_nx (hgt.trans (by rw [decide_eq_false hc]))) (seq_go (ρ1 := [.ref n, .int many, x2, x3]) (s1 := s.set n (.lst (hnd m i c z'))) ?_ (seq_rt (ret_ok ?_)))
    · refine h_set (j := 3) h rfl (by omega) ?_
      rw [op_ok (x := .int (z * 48271 + 11)) (y := .int 2147483647) (s1 := s) (s2 := s) (int_blt fun B => ?_) rfl, mod_ok (by decide), hz']
      rw [op_ok (x := .int (z * 48271)) (y := .int 11) (s1 := s) (s2 := s) ?_ rfl, add_ok]
      rw [op_ok (x := .int z) (y := .int 48271) (s1 := s) (s2 := s) (h_get3 h rfl) rfl]
      exact mul_ok (mulOk_r (by decide) (by decide))
    · rw [op_ok (x := .int (z' / 3)) (y := .int many) (s1 := s.set n (.lst (hnd m i c z'))) (s2 := s.set n (.lst (hnd m i c z'))) (int_blt fun B => ?_) rfl, mod_ok h0]
      rw [op_ok (x := .int z') (y := .int 3) (s1 := s.set n (.lst (hnd m i c z'))) (s2 := s.set n (.lst (hnd m i c z'))) (h_get3 h2 rfl) rfl, div_ok (by decide) (big_of (by decide))]
end
theorem ev_law_take {ns : List Int} {k : Nat} {B : List Nat} {s : S} {n : Nat} (many : Int) (hh : Hd ns s n) (h0 : 0 < many) (h1 : many < 2 ^ 62) : ∃ v es, callN tab (k + 1) 20 B [.ref n, .int many] s = .ok (.int v) (s.set n (.lst es)) ∧ 0 ≤ v ∧ v < many ∧ Hd ns (s.set n (.lst es)) n := by
  obtain ⟨m, i, c, z, h⟩ := hh
  have go : ∀ {v : Int} {es : List D}, (c_law_take ⟨callN tab k, s.length :: B⟩ [.ref n, .int many, .und, .und] s = .rt (.int v) (s.set n (.lst es))) → callN tab (k + 1) 20 B [.ref n, .int many] s = .ok (.int v) (s.set n (.lst es)) := fun e =>
    run_go (np := 2) (n := 4) rfl e (finF_len (by simp))
  have hlen : eOp cLt (eOp bIx (eVar 0) (eC (.int 1))) (eBlt lenD (aCons (eOp bIx (eVar 0) (eC (.int 0))) aNil)) ⟨callN tab k, s.length :: B⟩ [.ref n, .int many, .und, .und] s = .ok (.bl (decide (i < ns.length))) s := by
    rw [op_ok (x := .int i) (y := .int ns.length) (s1 := s) (s2 := s) (h_get1 h rfl) ?_, cLt_ok]
    unfold eBlt gcF aCons aNil
    simp only [h_get0 h (C0 := ⟨callN tab k, s.length :: s.length :: B⟩) (ρ := [.ref n, .int many, .und, .und]) rfl, Res.bndA, Rss.bndA, Rss.bnd]
    rw [lenD_lst h.ns_, finF_same, List.length_map]
  have heq : eOp cEq (eOp bIx (eVar 0) (eC (.int 2))) (eC (.int 0)) ⟨callN tab k, s.length :: B⟩ [.ref n, .int many, .und, .und] s = .ok (.bl (decide (c = 0))) s := by
    rw [op_ok (x := .int c) (y := .int 0) (s1 := s) (s2 := s) (h_get2 h rfl) rfl, cEq_int]
  by_cases hb : c = 0 ∧ i < ns.length
  · obtain ⟨hc, hi⟩ := hb
    obtain ⟨j, rfl⟩ : ∃ j : Nat, i = j := ⟨i.toNat, by have := h.i0; omega⟩
    have hj : j < ns.length := by omega
    obtain ⟨w, hw⟩ : ∃ w, w = ns[j] := ⟨_, rfl⟩
    obtain ⟨a, ha⟩ : ∃ a : Int, a = if w < 0 then -w else w := ⟨_, rfl⟩
    have ha0 : 0 ≤ a := by split at ha <;> omega
    have hA := h.upd (i' := j) (c' := a) (z' := z) h.i0 ha0 h.z0
    have hB := hA.upd (i' := (j : Int) + 1) (c' := a) (z' := z) (by omega) ha0 h.z0
    rw [set_set'] at hB
    obtain ⟨sA, hsA⟩ : ∃ sA, sA = s.set n (.lst (hnd m j a z)) := ⟨_, rfl⟩
    obtain ⟨sB, hsB⟩ : ∃ sB, sB = s.set n (.lst (hnd m ((j : Int) + 1) a z)) := ⟨_, rfl⟩
    rw [← hsA] at hA
    rw [← hsB] at hB
    have hAB : sA.set n (.lst (hnd m ((j : Int) + 1) a z)) = sB := by rw [hsA, set_set', hsB]
    have hsets : ∀ es, sB.set n (.lst es) = s.set n (.lst es) := fun es => by rw [hsB, set_set']
    have ht : eAnd (eOp cEq (eOp bIx (eVar 0) (eC (.int 2))) (eC (.int 0))) (eOp cLt (eOp bIx (eVar 0) (eC (.int 1))) (eBlt lenD (aCons (eOp bIx (eVar 0) (eC (.int 0))) aNil))) ⟨callN tab k, s.length :: B⟩ [.ref n, .int many, .und, .und] s = .ok (.bl true) s := by
      rw [and_t (heq.trans (by rw [decide_eq_true hc])), hlen, decide_eq_true hi]
    have e1 : sAsg (eBlt absD (aCons (eBlt intD (aCons (eOp bIx (eOp bIx (eVar 0) (eC (.int 0))) (eOp bIx (eVar 0) (eC (.int 1)))) aNil)) aNil)) (tSub (eVar 0) (eC (.int 2))) ⟨callN tab k, s.length :: B⟩ [.ref n, .int many, .und, .und] s = .nx [.ref n, .int many, .und, .und] sA := by
      rw [hsA]
      refine h_set (j := 2) h rfl (by omega) ?_
      rw [ha]
      refine abs_blt fun B => int_blt fun B => ?_
      rw [op_ok (x := .ref m) (y := .int j) (s1 := s) (s2 := s) (h_get0 h rfl) (h_get1 h rfl)]
      refine bIx_lst h.ns_ ?_
      rw [hw]
      simp [hj]
    have e2 : sAsg (eOp bAdd (eOp bIx (eVar 0) (eC (.int 1))) (eC (.int 1))) (tSub (eVar 0) (eC (.int 1))) ⟨callN tab k, s.length :: B⟩ [.ref n, .int many, .und, .und] sA = .nx [.ref n, .int many, .und, .und] sB := by
      rw [← hAB]
      refine h_set (j := 1) hA rfl (by omega) ?_
      rw [op_ok (x := .int j) (y := .int 1) (s1 := sA) (s2 := sA) (h_get1 hA rfl) rfl, add_ok]
    have e3 : eOp cLt (eOp bIx (eVar 0) (eC (.int 2))) (eOp bPow (eC (.int 10)) (eC (.int 18))) ⟨callN tab k, s.length :: B⟩ [.ref n, .int many, .und, .und] sB = .ok (.bl (decide (a < 10 ^ 18))) sB := by
      rw [op_ok (x := .int a) (y := .int (10 ^ 18)) (s1 := sB) (s2 := sB) (h_get2 hB rfl) ?_, cLt_ok]
      rw [op_ok (x := .int 10) (y := .int 18) (s1 := sB) (s2 := sB) rfl rfl]
      show (if powOk 10 18 = true then Res.ok (.int (10 ^ (18 : Int).toNat)) sB else .fail) = _
      rw [if_pos (by decide)]
      rfl
    by_cases hs : a < 10 ^ 18
    · refine ⟨a % many, hnd m ((j : Int) + 1) 0 z, go ?_, Int.emod_nonneg _ (by omega), Int.emod_lt_of_pos _ h0, m, (j : Int) + 1, 0, z, h.upd (by omega) (by omega) h.z0⟩
      refine seq_rt ((if_t ht rfl).trans (seq_go e1 (seq_go e2 (seq_rt ((if_t (e3.trans (by rw [decide_eq_true hs])) rfl).trans ?_)))))
      refine seq_go (ρ1 := [.ref n, .int many, .und, .int a]) (s1 := sB) (set_ok (d := .int a) (int_blt fun _ => h_get2 hB rfl)) (seq_go (ρ1 := [.ref n, .int many, .und, .int a]) (s1 := s.set n (.lst (hnd m ((j : Int) + 1) 0 z))) ?_ (seq_rt (ret_ok ?_)))
      · rw [← hsets]
        exact h_set (j := 2) (v := 0) hB rfl (by omega) rfl
      · rw [op_ok (x := .int a) (y := .int many) (s1 := s.set n (.lst (hnd m ((j : Int) + 1) 0 z))) (s2 := s.set n (.lst (hnd m ((j : Int) + 1) 0 z))) rfl rfl, mod_ok h0]
    · obtain ⟨v, c', z', e, q1, q2, q3, q4⟩ := take_rest (many := many) (x2 := .und) (x3 := .und) (k := callN tab k) (B := s.length :: B) hB h0 h1
      rw [hsets] at e
      refine ⟨v, hnd m ((j : Int) + 1) c' z', go ?_, q1, q2, m, (j : Int) + 1, c', z', h.upd (by omega) q3 q4⟩
      exact seq_go (s1 := sB) ((if_t ht rfl).trans (seq_go e1 (seq_go e2 (seq_go (guard_nx (e3.trans (by rw [decide_eq_false hs]))) rfl)))) e
  · have ht : eAnd (eOp cEq (eOp bIx (eVar 0) (eC (.int 2))) (eC (.int 0))) (eOp cLt (eOp bIx (eVar 0) (eC (.int 1))) (eBlt lenD (aCons (eOp bIx (eVar 0) (eC (.int 0))) aNil))) ⟨callN tab k, s.length :: B⟩ [.ref n, .int many, .und, .und] s = .ok (.bl false) s := by
      unfold eAnd
      rw [heq]
      simp only [Res.bnd, tru]
      by_cases hc : c = 0
      · rw [decide_eq_true hc]
        dsimp only
        rw [hlen, decide_eq_false (fun q => hb ⟨hc, q⟩)]
      · rw [decide_eq_false hc]
    obtain ⟨v, c', z', e, e1, e2, e3, e4⟩ := take_rest (many := many) (x2 := .und) (x3 := .und) (k := callN tab k) (B := s.length :: B) h h0 h1
    exact ⟨v, _, go (seq_go (guard_nx ht) e), e1, e2, m, i, c', z', h.upd h.i0 e3 e4⟩
end KL

set_option maxRecDepth 100000
namespace KL
open PySem Ev
local macro_rules | `(tactic| walk_at "st") => `(tactic| dsimp only [start0, List.length_cons, List.length_nil, List.replicate, List.cons_append, List.nil_append, Nat.reduceSub, Nat.reduceAdd])
local macro_rules | `(tactic| walk_at "ev") => `(tactic| simp (disch := omega) only [sSeq, sSet, sExpr, sRet, sRetN, sIf, sBrk, sCnt, sRaise, sNil, sAsg, sAug, sPar2, sFor, tName, tTup, tsCons, tsNil, tSub, eVar, eC, eOp, eUn, aNil, aCons, eTup, eLst, eCall, eBlt, gcF, gcE, eNot, eAnd, eOr, eIf, eChain, eTold, eMt, eSl, withPart, iR1, iR2, iR3, iSeq, Ev.iEnum, Res.bnd, Res.bndS, Res.bndA, Res.bndI, Rss.bnd, Rss.bndA, Rss.bndS, Rss.bndI, Itm.bnd, Itm.bndS, Out.bnd, Res.tst, Res.tstS, Res.tstA, gv, sv, tru, al, toRes, C.psh, endG, gOk, bAdd, bSub, uNeg, cLt, cLe, cGt, cGe, iAdd, lenD, intD, absD, if_true, if_false, Bool.false_eq_true, ite_true, ite_false, decide_true, decide_false, Bool.not_true, Bool.not_false, Bool.and_true, Bool.and_false, Bool.true_and, Bool.false_and, Int.zero_sub, and_true, true_and, and_false, false_and, not_true_eq_false, not_false_eq_true, finF_same, fin_same', cEq_int, cNe_int, decide_eq_true_eq, Bool.not_eq_true', decide_eq_false_iff_not, ite_not])
local macro_rules | `(tactic| walk_at "ew") => `(tactic| repeat (first | walk_at "ev" | (simp (disch := omega) only [ev_power_of, ev_check, ev_check_code, ev_meaning, ev_code_of, ev_widened, div_pow, mod_pow])))
theorem iSeq_of {C0 : C} {ρ : Ev.Env} {s : S} {d : D} {ds : List D} {i : Nat} (h : seqOf s d = some ds) (hv : gv ρ i = d) : ∃ g, iSeq (eVar i) C0 ρ s = .ok ds g s ∧ gOk g s = true := by
  cases d <;> first | (cases h; done) | skip
  case tup es =>
    cases h
    refine ⟨none, ?_, rfl⟩
    unfold iSeq
    rw [var_ok hv (by simp)]
    rfl
  case frl es =>
    cases h
    refine ⟨none, ?_, rfl⟩
    unfold iSeq
    rw [var_ok hv (by simp)]
    rfl
  case ref n =>
    have h' : lstOf s n = some ds := h
    refine ⟨some (n, ds), ?_, ?_⟩
    · unfold iSeq
      rw [var_ok hv (by simp)]
      simp only [Res.bndI, h']
    · simp only [gOk, lst_get h', D.beqs_self]
theorem loop_begin {C0 : C} {s : S} {g : Option (Nat × List D)} (hg : gOk g s = true) (d : D) : ∀ (ns : List Int) (z : Int) (x : D), 0 ≤ z → ∃ z' x', forL true g (tName 2) (sSeq (sSet 1 (eOp bMod (eOp bAdd (eOp bAdd (eOp bMul (eVar 1) (eC (.int 69621))) (eOp bMod (eBlt intD (aCons (eVar 2) aNil)) (eC (.int 2147483629)))) (eC (.int 7))) (eC (.int 2147483647)))) sNil) C0 (ns.map D.int) [d, .int z, x] s = .nx [d, .int z', x'] s ∧ 0 ≤ z' := by
  intro ns
  induction ns with
  | nil => intro z x hz; exact ⟨z, x, rfl, hz⟩
  | cons w r ih =>
    intro z x hz
    obtain ⟨y, hy⟩ : ∃ y, y = (z * 69621 + w % 2147483629 + 7) % 2147483647 := ⟨_, rfl⟩
    obtain ⟨z', x', e, h⟩ := ih y (.int w) (by omega)
    refine ⟨z', x', ?_, h⟩
    rw [List.map_cons, forL_cons (ρ2 := [d, .int y, .int w]) (s2 := s) (turn_name ?_ rfl) hg, e]
    refine seq_go (ρ1 := [d, .int y, .int w]) (s1 := s) (set_ok (d := .int y) ?_) rfl
    rw [op_ok (x := .int (z * 69621 + w % 2147483629 + 7)) (y := .int 2147483647) (s1 := s) (s2 := s) ?_ rfl, mod_ok (by decide), hy]
    rw [op_ok (x := .int (z * 69621 + w % 2147483629)) (y := .int 7) (s1 := s) (s2 := s) ?_ rfl, add_ok]
    rw [op_ok (x := .int (z * 69621)) (y := .int (w % 2147483629)) (s1 := s) (s2 := s) ?_ ?_, add_ok]
    · rw [op_ok (x := .int z) (y := .int 69621) (s1 := s) (s2 := s) rfl rfl]
      exact mul_ok (mulOk_r (by decide) (by decide))
    · rw [op_ok (x := .int w) (y := .int 2147483629) (s1 := s) (s2 := s) (int_blt fun _ => rfl) rfl, mod_ok (by decide)]
theorem ev_law_begin {k : Nat} {B : List Nat} {s : S} {d : D} {ns : List Int} (h : seqOf s d = some (ns.map D.int)) : ∃ z, callN tab (k + 1) 19 B [d] s = .ok (.ref (s.length + 1)) (s ++ [.lst (ns.map D.int), .lst (hnd s.length 0 0 z)]) ∧ 0 ≤ z := by
  obtain ⟨g, hi, hg⟩ := iSeq_of (C0 := ⟨callN tab k, s.length :: s.length :: B⟩) (ρ := [d, .int 1, .und]) (i := 0) h rfl
  obtain ⟨z, x, e, hz⟩ := loop_begin (C0 := ⟨callN tab k, s.length :: s.length :: B⟩) hg d ns 1 .und (by decide)
  have hd : d ≠ .und := by intro e; subst e; cases h
  refine ⟨z, ?_, hz⟩
  refine run_go (d := .ref (s.length + 1)) (s1 := s ++ [.lst (ns.map D.int), .lst (hnd s.length 0 0 z)]) rfl ?_ ?_
  · dsimp only [c_law_begin]
    walk_at "st"
    refine seq_go (ρ1 := [d, .int 1, .und]) (s1 := s) (set_ok rfl) (seq_go (ρ1 := [d, .int z, x]) (s1 := s) (for_nx hi e te_same) (seq_rt (ret_ok ?_)))
    have hb : eBlt listD (aCons (eVar 0) aNil) ⟨callN tab k, s.length :: B⟩ [d, .int z, x] s = .ok (.ref s.length) (s ++ [.lst (ns.map D.int)]) := by
      unfold eBlt gcF aCons aNil
      simp only [var_ok (i := 0) (ρ := [d, .int z, x]) rfl hd, gv, Res.bndA, Rss.bndA, Rss.bnd, listD, h, al]
      have e1 : ¬ (s ++ [O.lst (ns.map D.int)]).length = s.length := by simp
      show (if (s ++ [O.lst (ns.map D.int)]).length = s.length then _ else if s.length < s.length then _ else _) = _
      rw [if_neg e1, if_neg (Nat.lt_irrefl _), top_get]
      show (if D.ygs s.length (ns.map D.int) = true then _ else _) = _
      rw [ygs_map_int, if_neg Bool.false_ne_true, List.take_left']
      rfl
    unfold eLst
    rw [cons_ok hb (cons_ok (x := .int 0) rfl (cons_ok (x := .int 0) rfl (cons_ok (x := .int z) rfl nil_ok)))]
    simp only [Rss.bnd, List.length_cons, List.length_nil]
    rw [if_pos (by unfold lim; decide)]
    unfold al
    simp [hnd]
  · have e1 : ¬ (s ++ [O.lst (ns.map D.int), O.lst (hnd s.length 0 0 z)]).length = s.length := by simp
    have e2 : (s ++ [O.lst (ns.map D.int), O.lst (hnd s.length 0 0 z)])[s.length + 1]? = some (.lst (hnd s.length 0 0 z)) := by simp
    show (if (s ++ [O.lst (ns.map D.int), O.lst (hnd s.length 0 0 z)]).length = s.length then _ else if s.length + 1 < s.length then _ else _) = _
    rw [if_neg e1, if_neg (by omega), e2]
    show (if D.ygs s.length (hnd s.length 0 0 z) = true then _ else _) = _
    rw [if_pos (by simp [hnd, D.ygs, D.yg])]
theorem hd_begin {s : S} {ns : List Int} {z : Int} (hz : 0 ≤ z) : Hd ns (s ++ [.lst (ns.map D.int), .lst (hnd s.length 0 0 z)]) (s.length + 1) :=
  ⟨s.length, 0, 0, z, by simp [lstOf], by simp [lstOf], by omega, by omega, by omega, hz⟩
end KL

set_option maxRecDepth 100000
namespace KL
open PySem Ev
local macro_rules | `(tactic| walk_at "st") => `(tactic| dsimp only [start0, List.length_cons, List.length_nil, List.replicate, List.cons_append, List.nil_append, Nat.reduceSub, Nat.reduceAdd])
local macro_rules | `(tactic| walk_at "ev") => `(tactic| simp (disch := omega) only [sSeq, sSet, sExpr, sRet, sRetN, sIf, sBrk, sCnt, sRaise, sNil, sAsg, sAug, sPar2, sFor, tName, tTup, tsCons, tsNil, tSub, eVar, eC, eOp, eUn, aNil, aCons, eTup, eLst, eCall, eBlt, gcF, gcE, eNot, eAnd, eOr, eIf, eChain, eTold, eMt, eSl, withPart, iR1, iR2, iR3, iSeq, Ev.iEnum, Res.bnd, Res.bndS, Res.bndA, Res.bndI, Rss.bnd, Rss.bndA, Rss.bndS, Rss.bndI, Itm.bnd, Itm.bndS, Out.bnd, Res.tst, Res.tstS, Res.tstA, gv, sv, tru, al, toRes, C.psh, endG, gOk, bAdd, bSub, uNeg, cLt, cLe, cGt, cGe, iAdd, lenD, intD, absD, if_true, if_false, Bool.false_eq_true, ite_true, ite_false, decide_true, decide_false, Bool.not_true, Bool.not_false, Bool.and_true, Bool.and_false, Bool.true_and, Bool.false_and, Int.zero_sub, and_true, true_and, and_false, false_and, not_true_eq_false, not_false_eq_true, finF_same, fin_same', cEq_int, cNe_int, decide_eq_true_eq, Bool.not_eq_true', decide_eq_false_iff_not, ite_not])
local macro_rules | `(tactic| walk_at "ew") => `(tactic| repeat (first | walk_at "ev" | (simp (disch := omega) only [ev_power_of, ev_check, ev_check_code, ev_meaning, ev_code_of, ev_widened, div_pow, mod_pow])))
def toK (l : List (Int × Int)) : List (D × D) := l.map fun p => (.int p.1, .int p.2)
theorem toK_get (x : Int) : ∀ l : List (Int × Int), dget (toK l) (.int x) = (lkp l x).map D.int
  | [] => rfl
  | p :: l => by
    have ih := toK_get x l
    unfold dget toK at ih ⊢
    rw [List.map_cons, List.find?_cons, lkp_cons]
    show Option.map _ (match decide (p.1 = x) with | true => _ | false => _) = _
    by_cases h : p.1 = x
    · rw [decide_eq_true h, if_pos h]; rfl
    · rw [decide_eq_false h, if_neg h]; exact ih
theorem toK_put (x v : Int) (l : List (Int × Int)) : dput (toK l) (.int x) (.int v) = toK (putI l x v) := by
  have e1 : ((toK l).any fun kv => keq kv.1 (.int x)) = (l.any fun kv => decide (kv.1 = x)) := by
    unfold toK
    rw [List.any_map]
    rfl
  unfold dput putI
  rw [e1]
  split
  · unfold toK
    rw [List.map_map, List.map_map]
    refine List.map_congr_left fun p _ => ?_
    show (if decide (p.1 = x) = true then _ else _) = _
    by_cases h : p.1 = x
    · rw [if_pos (decide_eq_true h)]
      simp [h]
    · rw [if_neg (by rw [decide_eq_false h]; exact Bool.false_ne_true)]
      simp [h]
  · unfold toK
    rw [List.map_append]
    rfl
theorem putI_len (l : List (Int × Int)) (x v : Int) : (putI l x v).length ≤ l.length + 1 := by
  unfold putI
  split <;> simp
theorem put1_len (w h c d : Int) (f) : (put1 w h c d f).length ≤ f.length + 1 := putI_len _ _ _
theorem put2_len (rows) (w : Int) (f) (h : Int) : (put2 rows w f h).length ≤ f.length + 2 := by
  unfold put2
  have h1 := put1_len w h ((lkp rows h).getD 0) (-1) f
  have h2 := put1_len w h ((lkp rows h).getD 0) 1 (put1 w h ((lkp rows h).getD 0) (-1) f)
  omega
theorem rowsF_len : ∀ k : Nat, (rowsF k).length ≤ 3 ^ k
  | 0 => Nat.le_refl _
  | k + 1 => by
    have ih := rowsF_len k
    have fold : ∀ (todo : List Int) (f : List (Int × Int)), (todo.foldl (put2 (rowsF k) (2 ^ k)) f).length ≤ f.length + 2 * todo.length := by
      intro todo
      induction todo with
      | nil => intro f; exact Nat.le_refl _
      | cons a r ihr =>
        intro f
        rw [List.foldl_cons, List.length_cons]
        have h1 := ihr (put2 (rowsF k) (2 ^ k) f a)
        have h2 := put2_len (rowsF k) (2 ^ k) f a
        omega
    rw [rowsF, Nat.pow_succ]
    have := fold ((rowsF k).map (·.1)) (rowsF k)
    rw [List.length_map] at this
    omega
theorem blt_args {f : List D → S → Res} {as : AS} {c : C} {ρ : Ev.Env} {s : S} {xs : List D} {d : D} (ha : as ⟨c.call, s.length :: c.B⟩ ρ s = .ok xs s) (hf : f xs s = .ok d s) : eBlt f as c ρ s = .ok d s := by
  show finF s.length ((as ⟨c.call, s.length :: c.B⟩ ρ s).bnd fun xs s => f xs s) = _
  rw [ha]
  show finF s.length (f xs s) = _
  rw [hf, finF_same]
abbrev bDg : SS := (sSeq (sSet 8 (eOp bAdd (eVar 6) (eOp bMul (eVar 7) (eVar 3)))) (sSeq (sAsg (eBlt minD (aCons (eGet2 (eVar 5) (eVar 8) (eC (.int 99))) (aCons (eOp bAdd (eOp bIx (eVar 2) (eVar 6)) (eC (.int 1))) aNil))) (tSub (eVar 5) (eVar 8))) sNil))
theorem top_dct {T : S} {kvs : List (D × D)} : dctOf (T ++ [.dct kvs]) T.length = some kvs := by simp [dctOf]
theorem turn_dg {C0 : C} {T : S} {rows f : List (Int × Int)} {p : Nat} {w h c d : Int} {a0 a1 a4 a8 : D} (hp : T[p]? = some (.dfz (toK rows))) (hc : lkp rows h = some c) (hd : d = -1 ∨ d = 1) (hf : f.length ≤ 100000) :
    bDg C0 [a0, a1, .ref p, .int w, a4, .ref T.length, .int h, .int d, a8] (T ++ [.dct (toK f)]) = .nx [a0, a1, .ref p, .int w, a4, .ref T.length, .int h, .int d, .int (h + d * w)] (T ++ [.dct (toK (put1 w h c d f))]) := by
  have hpl : p < T.length := (List.getElem?_eq_some_iff.mp hp).1
  obtain ⟨sT, hsT⟩ : ∃ sT, sT = T ++ [O.dct (toK f)] := ⟨_, rfl⟩
  have hq : dctOf sT T.length = some (toK f) := by rw [hsT]; exact top_dct
  have hp2 : dctOf sT p = some (toK rows) := by
    rw [hsT]
    unfold dctOf
    rw [List.getElem?_append_left hpl, hp]
  have hp3 : lstOf sT p = none := by
    rw [hsT]
    unfold lstOf
    rw [List.getElem?_append_left hpl, hp]
  rw [← hsT]
  have e1 : eOp bAdd (eVar 6) (eOp bMul (eVar 7) (eVar 3)) C0 [a0, a1, .ref p, .int w, a4, .ref T.length, .int h, .int d, a8] sT = .ok (.int (h + d * w)) sT := by
    rw [op_ok (x := .int h) (y := .int (d * w)) (s1 := sT) (s2 := sT) rfl ?_, add_ok]
    rw [op_ok (x := .int d) (y := .int w) (s1 := sT) (s2 := sT) rfl rfl]
    have hd1 : -(2 ^ 64) < d := by rcases hd with rfl | rfl <;> decide
    have hd2 : d < 2 ^ 64 := by rcases hd with rfl | rfl <;> decide
    exact mul_ok (mulOk_l hd1 hd2)
  have e2 : ∀ B, eGet2 (eVar 5) (eVar 8) (eC (.int 99)) ⟨C0.call, B⟩ [a0, a1, .ref p, .int w, a4, .ref T.length, .int h, .int d, .int (h + d * w)] sT = .ok (.int ((lkp f (h + d * w)).getD 99)) sT := fun B => by
    simp only [eGet2, eVar, gv, Res.bnd, eC, hq, isKey, toK_get]
    cases lkp f (h + d * w) <;> rfl
  have e3 : ∀ B, eOp bAdd (eOp bIx (eVar 2) (eVar 6)) (eC (.int 1)) ⟨C0.call, B⟩ [a0, a1, .ref p, .int w, a4, .ref T.length, .int h, .int d, .int (h + d * w)] sT = .ok (.int (c + 1)) sT := fun B => by
    rw [op_ok (x := .int c) (y := .int 1) (s1 := sT) (s2 := sT) ?_ rfl, add_ok]
    rw [op_ok (x := .ref p) (y := .int h) (s1 := sT) (s2 := sT) rfl rfl]
    simp only [bIx, hp3, dixK, hp2, toK_get, hc, Option.map]
  have e4 : eBlt minD (aCons (eGet2 (eVar 5) (eVar 8) (eC (.int 99))) (aCons (eOp bAdd (eOp bIx (eVar 2) (eVar 6)) (eC (.int 1))) aNil)) C0 [a0, a1, .ref p, .int w, a4, .ref T.length, .int h, .int d, .int (h + d * w)] sT = .ok (.int (min ((lkp f (h + d * w)).getD 99) (c + 1))) sT := by
    refine blt_args (cons_ok (e2 _) (cons_ok (e3 _) nil_ok)) ?_
    simp only [minD]
    congr 2
    generalize (lkp f (h + d * w)).getD 99 = z
    split <;> omega
  refine seq_go (set_ok e1) (seq_go (ρ1 := [a0, a1, .ref p, .int w, a4, .ref T.length, .int h, .int d, .int (h + d * w)]) (s1 := T ++ [.dct (toK (put1 w h c d f))]) ?_ rfl)
  dsimp only [sv]
  rw [asg_ok e4]
  unfold tSub
  simp only [eVar, gv, Res.bndS]
  have hg : sT[T.length]? = some (.dct (toK f)) := by rw [hsT]; simp
  simp only [setIx, hg, setK]
  rw [if_pos ⟨wok_pln fun _ => rfl, by unfold toK lim; rw [List.length_map]; omega⟩, toK_put, hsT, top_set]
  rfl
end KL

set_option maxRecDepth 100000
namespace KL
open PySem Ev
local macro_rules | `(tactic| walk_at "st") => `(tactic| dsimp only [start0, List.length_cons, List.length_nil, List.replicate, List.cons_append, List.nil_append, Nat.reduceSub, Nat.reduceAdd])
local macro_rules | `(tactic| walk_at "ev") => `(tactic| simp (disch := omega) only [sSeq, sSet, sExpr, sRet, sRetN, sIf, sBrk, sCnt, sRaise, sNil, sAsg, sAug, sPar2, sFor, tName, tTup, tsCons, tsNil, tSub, eVar, eC, eOp, eUn, aNil, aCons, eTup, eLst, eCall, eBlt, gcF, gcE, eNot, eAnd, eOr, eIf, eChain, eTold, eMt, eSl, withPart, iR1, iR2, iR3, iSeq, Ev.iEnum, Res.bnd, Res.bndS, Res.bndA, Res.bndI, Rss.bnd, Rss.bndA, Rss.bndS, Rss.bndI, Itm.bnd, Itm.bndS, Out.bnd, Res.tst, Res.tstS, Res.tstA, gv, sv, tru, al, toRes, C.psh, endG, gOk, bAdd, bSub, uNeg, cLt, cLe, cGt, cGe, iAdd, lenD, intD, absD, if_true, if_false, Bool.false_eq_true, ite_true, ite_false, decide_true, decide_false, Bool.not_true, Bool.not_false, Bool.and_true, Bool.and_false, Bool.true_and, Bool.false_and, Int.zero_sub, and_true, true_and, and_false, false_and, not_true_eq_false, not_false_eq_true, finF_same, fin_same', cEq_int, cNe_int, decide_eq_true_eq, Bool.not_eq_true', decide_eq_false_iff_not, ite_not])
local macro_rules | `(tactic| walk_at "ew") => `(tactic| repeat (first | walk_at "ev" | (simp (disch := omega) only [ev_power_of, ev_check, ev_check_code, ev_meaning, ev_code_of, ev_widened, div_pow, mod_pow])))
abbrev bKy : SS := (sSeq (sFor true (iSeq (eTup (aCons (eUn uNeg (eC (.int 1))) (aCons (eC (.int 1)) aNil)))) (tName 7) bDg) sNil)
theorem turn_ky {C0 : C} {T : S} {rows f : List (Int × Int)} {p : Nat} {w h c : Int} {a0 a1 a4 a7 a8 : D} (hp : T[p]? = some (.dfz (toK rows))) (hc : lkp rows h = some c) (hf : f.length ≤ 90000) :
    bKy C0 [a0, a1, .ref p, .int w, a4, .ref T.length, .int h, a7, a8] (T ++ [.dct (toK f)]) = .nx [a0, a1, .ref p, .int w, a4, .ref T.length, .int h, .int 1, .int (h + 1 * w)] (T ++ [.dct (toK (put2 rows w f h))]) := by
  have e : put2 rows w f h = put1 w h c 1 (put1 w h c (-1) f) := by unfold put2; rw [hc]; rfl
  have l1 := put1_len w h c (-1) f
  have hs : ∀ g : List (Int × Int), (T ++ [O.dct (toK g)]).length = T.length + 1 := fun g => by simp
  refine seq_go (ρ1 := [a0, a1, .ref p, .int w, a4, .ref T.length, .int h, .int 1, .int (h + 1 * w)]) (s1 := T ++ [.dct (toK (put2 rows w f h))]) ?_ rfl
  refine for_nx (ds := [.int (-1), .int 1]) (g := none) (s1 := T ++ [.dct (toK f)]) (ρ2 := [a0, a1, .ref p, .int w, a4, .ref T.length, .int h, .int 1, .int (h + 1 * w)]) (s2 := T ++ [.dct (toK (put2 rows w f h))]) rfl ?_ (te_len (by rw [hs, hs]))
  rw [forL_cons (ρ2 := [a0, a1, .ref p, .int w, a4, .ref T.length, .int h, .int (-1), .int (h + -1 * w)]) (s2 := T ++ [.dct (toK (put1 w h c (-1) f))]) (turn_name (turn_dg hp hc (.inl rfl) (by omega)) (by rw [hs, hs])) rfl]
  rw [forL_cons (ρ2 := [a0, a1, .ref p, .int w, a4, .ref T.length, .int h, .int 1, .int (h + 1 * w)]) (s2 := T ++ [.dct (toK (put1 w h c 1 (put1 w h c (-1) f)))]) (turn_name (turn_dg hp hc (.inr rfl) (by omega)) (by rw [hs, hs])) rfl, e]
  rfl
theorem loop_ky {C0 : C} {T : S} {rows : List (Int × Int)} {p : Nat} {w : Int} {a0 a1 a4 : D} (hp : T[p]? = some (.dfz (toK rows))) : ∀ (keys : List Int) (f : List (Int × Int)) (a6 a7 a8 : D), (∀ h ∈ keys, ∃ c, lkp rows h = some c) → f.length + 2 * keys.length ≤ 90000 →
    ∃ y6 y7 y8, forL true none (tName 6) bKy C0 (keys.map D.int) [a0, a1, .ref p, .int w, a4, .ref T.length, a6, a7, a8] (T ++ [.dct (toK f)]) = .nx [a0, a1, .ref p, .int w, a4, .ref T.length, y6, y7, y8] (T ++ [.dct (toK (keys.foldl (put2 rows w) f))])
  | [], f, a6, a7, a8, _, _ => ⟨a6, a7, a8, rfl⟩
  | h :: keys, f, a6, a7, a8, hk, hl => by
    obtain ⟨c, hc⟩ := hk h (by simp)
    have l2 := put2_len rows w f h
    rw [List.length_cons] at hl
    obtain ⟨y6, y7, y8, e⟩ := loop_ky (C0 := C0) (w := w) (a0 := a0) (a1 := a1) (a4 := a4) hp keys (put2 rows w f h) (.int h) (.int 1) (.int (h + 1 * w)) (fun z hz => hk z (by simp [hz])) (by omega)
    refine ⟨y6, y7, y8, ?_⟩
    rw [List.map_cons, forL_cons (ρ2 := [a0, a1, .ref p, .int w, a4, .ref T.length, .int h, .int 1, .int (h + 1 * w)]) (s2 := T ++ [.dct (toK (put2 rows w f h))]) (turn_name (turn_ky hp hc (by omega)) (by simp)) rfl, e]
    rfl
theorem for_ky {C0 : C} {S1 : S} {rows : List (Int × Int)} {p : Nat} {w : Int} {a0 a1 a4 a6 a7 a8 : D} (hp : S1[p]? = some (.dct (toK rows))) (hl : rows.length ≤ 20000) :
    ∃ y6 y7 y8, sForD true 2 (tName 6) bKy C0 [a0, a1, .ref p, .int w, a4, .ref S1.length, a6, a7, a8] (S1 ++ [.dct (toK rows)]) = .nx [a0, a1, .ref p, .int w, a4, .ref S1.length, y6, y7, y8] (S1 ++ [.dct (toK ((rows.map (·.1)).foldl (put2 rows w) rows))]) := by
  have hpl : p < S1.length := (List.getElem?_eq_some_iff.mp hp).1
  obtain ⟨T, hT⟩ : ∃ T, T = S1.set p (.dfz (toK rows)) := ⟨_, rfl⟩
  have hTl : T.length = S1.length := by rw [hT]; simp
  have hTp : T[p]? = some (.dfz (toK rows)) := by rw [hT]; simp [hpl]
  have hset : (S1 ++ [O.dct (toK rows)]).set p (.dfz (toK rows)) = T ++ [.dct (toK rows)] := by rw [List.set_append_left _ _ hpl, hT]
  have hback : ∀ g, (T ++ [O.dct g]).set p (.dct (toK rows)) = S1 ++ [.dct g] := fun g => by
    rw [List.set_append_left _ _ (by omega), hT, List.set_set]
    congr 1
    refine List.ext_getElem? fun i => ?_
    by_cases hi : i = p
    · subst hi; rw [hp]; simp [hpl]
    · rw [List.getElem?_set_ne (Ne.symm hi)]
  obtain ⟨y6, y7, y8, e⟩ := loop_ky (C0 := C0.psh true (T ++ [O.dct (toK rows)]).length) (w := w) (a0 := a0) (a1 := a1) (a4 := a4) hTp (rows.map (·.1)) rows a6 a7 a8 (fun h hh => mem_lkp hh) (by rw [List.length_map]; omega)
  refine ⟨y6, y7, y8, ?_⟩
  rw [← hTl]
  have h1 : (S1 ++ [O.dct (toK rows)])[p]? = some (.dct (toK rows)) := by rw [List.getElem?_append_left hpl, hp]
  have h2 : (T ++ [O.dct (toK rows)])[p]? = some (.dfz (toK rows)) := by rw [List.getElem?_append_left (by omega), hTp]
  have hf : sFor true (iKeyD 2) (tName 6) bKy C0 [a0, a1, .ref p, .int w, a4, .ref T.length, a6, a7, a8] (T ++ [.dct (toK rows)]) = .nx [a0, a1, .ref p, .int w, a4, .ref T.length, y6, y7, y8] (T ++ [.dct (toK ((rows.map (·.1)).foldl (put2 rows w) rows))]) := by
    refine for_nx (ds := (rows.map (·.1)).map D.int) (g := none) (s1 := T ++ [.dct (toK rows)]) ?_ e (te_len (by simp))
    simp only [iKeyD, gv, h2]
    unfold toK
    rw [List.map_map, List.map_map]
    rfl
  simp only [sForD, gv, h1, hset, hf, unlk]
  have h3 : ∀ g, (T ++ [O.dct g])[p]? = some (.dfz (toK rows)) := fun g => by rw [List.getElem?_append_left (by omega), hTp]
  rw [h3]
  dsimp only
  rw [hback]
abbrev bFw : SS := (sSeq (sSet 5 (eBlt dictD (aCons (eVar 2) aNil))) (sSeq (sForD true 2 (tName 6) bKy) (sSeq (sSet 2 (eVar 5)) (sSeq (sSet 3 (eOp bMul (eC (.int 2)) (eVar 3))) sNil))))
theorem dict_blt {C0 : C} {S1 : S} {ρ : Ev.Env} {p i : Nat} {kvs : List (D × D)} (hp : S1[p]? = some (.dct kvs)) (hv : gv ρ i = .ref p) : eBlt dictD (aCons (eVar i) aNil) C0 ρ S1 = .ok (.ref S1.length) (S1 ++ [.dct kvs]) := by
  have hd : dctOf S1 p = some kvs := by simp [dctOf, hp]
  unfold eBlt gcF aCons aNil
  simp only [var_ok (i := i) (ρ := ρ) (s := S1) hv (by simp), Res.bndA, Rss.bndA, Rss.bnd]
  show finF S1.length (dictD [.ref p] S1) = _
  simp only [dictD, hd, al]
  have e1 : ¬ (S1 ++ [O.dct kvs]).length = S1.length := by simp
  show (if (S1 ++ [O.dct kvs]).length = S1.length then _ else if S1.length < S1.length then _ else _) = _
  rw [if_neg e1, if_neg (Nat.lt_irrefl _), top_get]
theorem loop_fw {C0 : C} {s0 : S} {a0 a1 : D} : ∀ (c j p : Nat) (S1 : S) (a4 a5 a6 a7 a8 : D), j + c ≤ 8 → S1[p]? = some (.dct (toK (rowsF j))) → (∃ t, S1 = s0 ++ t) →
    ∃ p' S2 y4 y5 y6 y7 y8, forL false none (tName 4) bFw C0 ((List.range' j c).map fun i => D.int (0 + (i : Nat))) [a0, a1, .ref p, .int (2 ^ j), a4, a5, a6, a7, a8] S1 = .nx [a0, a1, .ref p', .int (2 ^ (j + c)), y4, y5, y6, y7, y8] S2 ∧ S2[p']? = some (.dct (toK (rowsF (j + c)))) ∧ ∃ t, S2 = s0 ++ t
  | 0, j, p, S1, a4, a5, a6, a7, a8, _, hp, ht => ⟨p, S1, a4, a5, a6, a7, a8, rfl, hp, ht⟩
  | c + 1, j, p, S1, a4, a5, a6, a7, a8, hj, hp, ⟨t, ht⟩ => by
    have hl : (rowsF j).length ≤ 20000 := by
      have h1 := rowsF_len j
      have h2 : 3 ^ j ≤ 3 ^ 8 := Nat.pow_le_pow_right (by decide) (by omega)
      omega
    obtain ⟨y6, y7, y8, e⟩ := for_ky (C0 := C0) (w := 2 ^ j) (a0 := a0) (a1 := a1) (a4 := .int (0 + (j : Nat))) (a6 := a6) (a7 := a7) (a8 := a8) hp hl
    obtain ⟨p', S2, z4, z5, z6, z7, z8, e2, q1, q2⟩ := loop_fw (C0 := C0) (s0 := s0) (a0 := a0) (a1 := a1) c (j + 1) S1.length (S1 ++ [.dct (toK (rowsF (j + 1)))]) (.int (0 + (j : Nat))) (.ref S1.length) y6 y7 y8 (by omega) (by simp) ⟨t ++ [.dct (toK (rowsF (j + 1)))], by rw [ht, List.append_assoc]⟩
    have ej : j + (c + 1) = j + 1 + c := by omega
    rw [ej]
    refine ⟨p', S2, z4, z5, z6, z7, z8, ?_, q1, q2⟩
    rw [List.range'_succ, List.map_cons]
    rw [forL_cons (ρ2 := [a0, a1, .ref S1.length, .int (2 ^ (j + 1)), .int (0 + (j : Nat)), .ref S1.length, y6, y7, y8]) (s2 := S1 ++ [.dct (toK (rowsF (j + 1)))]) (turn_nx1 (ρ1 := [a0, a1, .ref S1.length, .int (2 ^ (j + 1)), .int (0 + (j : Nat)), .ref S1.length, y6, y7, y8]) (s1 := S1 ++ [.dct (toK (rowsF (j + 1)))]) ?_ te_off) rfl, e2]
    have e' : sForD true 2 (tName 6) bKy (C0.psh false S1.length) [a0, a1, .ref p, .int (2 ^ j), .int (0 + (j : Nat)), .ref S1.length, a6, a7, a8] (S1 ++ [.dct (toK (rowsF j))]) = .nx [a0, a1, .ref p, .int (2 ^ j), .int (0 + (j : Nat)), .ref S1.length, y6, y7, y8] (S1 ++ [.dct (toK (rowsF (j + 1)))]) := e
    refine seq_go (ρ1 := [a0, a1, .ref p, .int (2 ^ j), .int (0 + (j : Nat)), .ref S1.length, a6, a7, a8]) (s1 := S1 ++ [.dct (toK (rowsF j))]) (set_ok (dict_blt hp rfl)) ?_
    refine seq_go e' ?_
    refine seq_go (ρ1 := [a0, a1, .ref S1.length, .int (2 ^ j), .int (0 + (j : Nat)), .ref S1.length, y6, y7, y8]) (s1 := S1 ++ [.dct (toK (rowsF (j + 1)))]) (set_ok rfl) ?_
    refine seq_go (ρ1 := [a0, a1, .ref S1.length, .int (2 ^ (j + 1)), .int (0 + (j : Nat)), .ref S1.length, y6, y7, y8]) (s1 := S1 ++ [.dct (toK (rowsF (j + 1)))]) (set_ok (d := .int (2 ^ (j + 1))) ?_) rfl
    rw [op_ok (x := .int 2) (y := .int (2 ^ j)) (s1 := S1 ++ [.dct (toK (rowsF (j + 1)))]) (s2 := S1 ++ [.dct (toK (rowsF (j + 1)))]) rfl rfl, mul_ok (mulOk_l (by decide) (by decide)), Int.pow_succ, Int.mul_comm]
theorem fw_dct {k : Nat} {B : List Nat} {s : S} {ρ : Ev.Env} : eDct (aPairs [((eC (.int 0)), (eC (.int 0)))]) ⟨callN tab k, B⟩ ρ s = .ok (.ref s.length) (s ++ [.dct (toK (rowsF 0))]) := rfl
theorem r1_rng0 {i : Nat} {b : Int} {C0 : C} {ρ : Ev.Env} {s : S} (h0 : 0 ≤ b) (h1 : b ≤ 1000) (hb : gv ρ i = .int b) : iR1 (aCons (eVar i) aNil) C0 ρ s = .ok (rngI 0 b.toNat) none s := by
  simp only [iR1, eVar, hb, aCons, aNil, Res.bndA, Rss.bndA, Rss.bndI]
  rw [if_pos (small_of (by omega) (by omega))]
  try simp
theorem fw_rng {i n : Nat} {C0 : C} {ρ : Ev.Env} {s : S} (hn : n ≤ 8) (hv : gv ρ i = .int ((n : Nat) : Int)) : iR1 (aCons (eVar i) aNil) C0 ρ s = .ok (rngI 0 n) none s := by
  have h := r1_rng0 (C0 := C0) (s := s) (by omega) (by omega) hv
  rw [Int.toNat_natCast] at h
  exact h
theorem ev_law_fewest {k : Nat} {B : List Nat} {s : S} (n : Nat) (x c : Int) (hn : n ≤ 8) (hc : lkp (rowsF n) x = some c) : callN tab (k + 1) 23 B [.int x, .int n] s = .ok (.int c) s := by
  obtain ⟨p, S2, y4, y5, y6, y7, y8, e, h1, t, ht⟩ := loop_fw (C0 := ⟨callN tab k, s.length :: B⟩) (s0 := s) (a0 := .int x) (a1 := .int n) n 0 s.length (s ++ [.dct (toK (rowsF 0))]) .und .und .und .und .und (by omega) (by simp) ⟨_, rfl⟩
  rw [Nat.zero_add] at e h1
  refine run_go (d := .int c) (s1 := S2) rfl ?_ (by rw [ht]; exact finF_pln rfl (fun _ => by simp))
  dsimp only [c_law_fewest]
  walk_at "st"
  refine seq_go (ρ1 := [.int x, .int n, .ref s.length, .und, .und, .und, .und, .und, .und]) (s1 := s ++ [.dct (toK (rowsF 0))]) (set_ok fw_dct) (seq_go (ρ1 := [.int x, .int n, .ref s.length, .int 1, .und, .und, .und, .und, .und]) (s1 := s ++ [.dct (toK (rowsF 0))]) (set_ok rfl) (seq_go (for_nx (g := none) (s1 := s ++ [.dct (toK (rowsF 0))]) (ds := rngI 0 n) ?_ (by rw [rngI0]; exact e) te_off) (seq_rt (ret_ok ?_))))
  · exact fw_rng hn rfl
  · rw [op_ok (x := .ref p) (y := .int x) (s1 := S2) (s2 := S2) rfl rfl]
    have h2 : lstOf S2 p = none := by simp [lstOf, h1]
    have h3 : dctOf S2 p = some (toK (rowsF n)) := by simp [dctOf, h1]
    simp only [bIx, h2, dixK, h3, toK_get, hc, Option.map]
end KL

set_option maxRecDepth 100000
namespace KL
open PySem Ev
local macro_rules | `(tactic| walk_at "st") => `(tactic| dsimp only [start0, List.length_cons, List.length_nil, List.replicate, List.cons_append, List.nil_append, Nat.reduceSub, Nat.reduceAdd])
local macro_rules | `(tactic| walk_at "ev") => `(tactic| simp (disch := omega) only [sSeq, sSet, sExpr, sRet, sRetN, sIf, sBrk, sCnt, sRaise, sNil, sAsg, sAug, sPar2, sFor, tName, tTup, tsCons, tsNil, tSub, eVar, eC, eOp, eUn, aNil, aCons, eTup, eLst, eCall, eBlt, gcF, gcE, eNot, eAnd, eOr, eIf, eChain, eTold, eMt, eSl, withPart, iR1, iR2, iR3, iSeq, Ev.iEnum, Res.bnd, Res.bndS, Res.bndA, Res.bndI, Rss.bnd, Rss.bndA, Rss.bndS, Rss.bndI, Itm.bnd, Itm.bndS, Out.bnd, Res.tst, Res.tstS, Res.tstA, gv, sv, tru, al, toRes, C.psh, endG, gOk, bAdd, bSub, uNeg, cLt, cLe, cGt, cGe, iAdd, lenD, intD, absD, if_true, if_false, Bool.false_eq_true, ite_true, ite_false, decide_true, decide_false, Bool.not_true, Bool.not_false, Bool.and_true, Bool.and_false, Bool.true_and, Bool.false_and, Int.zero_sub, and_true, true_and, and_false, false_and, not_true_eq_false, not_false_eq_true, finF_same, fin_same', cEq_int, cNe_int, decide_eq_true_eq, Bool.not_eq_true', decide_eq_false_iff_not, ite_not])
local macro_rules | `(tactic| walk_at "ew") => `(tactic| repeat (first | walk_at "ev" | (simp (disch := omega) only [ev_power_of, ev_check, ev_check_code, ev_meaning, ev_code_of, ev_widened, div_pow, mod_pow])))
section
variable {a b : ES} {c : C} {ρ ρ1 : Ev.Env} {s s1 : S} {d : D}
theorem expr_exc {e : ES} (h : e c ρ s = .exc d s1) : sExpr e c ρ s = .exc d s1 := by unfold sExpr; rw [h]; rfl
theorem not_ok {p : Bool} (h : a c ρ s = .ok (.bl p) s1) : eNot a c ρ s = .ok (.bl (!p)) s1 := by unfold eNot; rw [h]; rfl
theorem told_exc (h : ∀ B, a ⟨c.call, B⟩ ρ s = .exc d s) : eTold a c ρ s = .ok d s := by
  show fin s.length (match a ⟨c.call, s.length :: c.B⟩ ρ s with | .ok d s => .ok d s | .exc k s => .ok k s | .fail => .fail) = _
  rw [h]
  exact fin_same'
theorem told_ne {x : Str} (h : ∀ B, a ⟨c.call, B⟩ ρ s = .exc (.str x) s) (hx : D.shp 40 (.str x) = true) : eOp cNe (eTold a) (eC (.str x)) c ρ s = .ok (.bl false) s := by
  rw [op_ok (x := .str x) (y := .str x) (s1 := s) (s2 := s) (told_exc h) rfl, cNe_self hx]
theorem told_eq {x : Str} (h : ∀ B, a ⟨c.call, B⟩ ρ s = .exc (.str x) s) (hx : D.shp 40 (.str x) = true) : eOp cEq (eTold a) (eC (.str x)) c ρ s = .ok (.bl true) s := by
  rw [op_ok (x := .str x) (y := .str x) (s1 := s) (s2 := s) (told_exc h) rfl, cEq_self hx]
end
section
variable {m : Nat} {B : List Nat} {s : S}
theorem ex_check0 : callN tab (m + 1) 1 B [.int 0] s = .exc (.str "bits") s := by
  refine (run_exc (np := 1) (n := 1) (s1 := s) rfl ?_).trans finE_same
  rfl
theorem ex_check33 : callN tab (m + 1) 1 B [.int 33] s = .exc (.str "bits") s := by
  refine (run_exc (np := 1) (n := 1) (s1 := s) rfl ?_).trans finE_same
  rfl
theorem ex_cc {b x : Int} (h : callN tab (m + 1) 1 (s.length :: B) [.int b] s = .exc (.str "bits") s) : callN tab (m + 2) 2 B [.int b, .int x] s = .exc (.str "bits") s := by
  refine (run_exc (np := 2) (n := 2) (s1 := s) rfl ?_).trans finE_same
  dsimp only [c_check_code]
  walk_at "st"
  refine seq_exc (expr_exc ?_)
  rw [call_ok (cons_ok (x := .int b) rfl nil_ok)]
  exact h
theorem ex_mean {b x : Int} {z : D} (h : callN tab (m + 2) 2 (s.length :: B) [.int b, .int x] s = .exc z s) : callN tab (m + 3) 3 B [.int b, .int x] s = .exc z s := by
  refine (run_exc (np := 2) (n := 2) (s1 := s) rfl ?_).trans finE_same
  dsimp only [c_meaning]
  walk_at "st"
  refine seq_exc (expr_exc ?_)
  rw [call_ok (cons_ok (x := .int b) rfl (cons_ok (x := .int x) rfl nil_ok))]
  exact h
theorem ex_code (b x : Int) (h0 : 1 ≤ b) (h1 : b ≤ 32) (h : ¬ (0 ≤ x ∧ x < 2 ^ b.toNat)) : callN tab (m + 2) 2 B [.int b, .int x] s = .exc (.str "code") s := by
  refine (run_exc (np := 2) (n := 2) (s1 := s) rfl ?_).trans finE_same
  dsimp only [c_check_code]
  walk_at "st"
  refine seq_go (expr_ok (d := .non) (s1 := s) ?_) (seq_exc ((if_t (d := .bl true) (s1 := s) ?_ rfl).trans (seq_exc (raise_ok rfl))))
  · walk_at "ew"
  · rw [not_ok (p := false) (s1 := s) ?_]
    · rfl
    · unfold eChain
      simp only [eC, eVar, gv, Res.bnd, cLe]
      by_cases hx : 0 ≤ x
      · rw [decide_eq_true hx]
        dsimp only
        rw [call_ok (cons_ok (x := .int b) rfl nil_ok)]
        dsimp only
        rw [ev_power_of b (by omega) (Int.lt_of_le_of_lt h1 (by decide))]
        dsimp only [cLt]
        rw [decide_eq_false (fun q => h ⟨hx, q⟩)]
      · rw [decide_eq_false hx]
theorem ex_more {t : Int} (ht : t = 2 ∨ t = 33) : callN tab (m + 4) 5 B [.int 3, .int 0, .int t] s = .exc (.str "more") s := by
  refine (run_exc (np := 3) (n := 3) (s1 := s) rfl ?_).trans finE_same
  dsimp only [c_widened]
  walk_at "st"
  refine seq_go (expr_ok (d := .non) (s1 := s) ?_) (seq_exc ((if_t (d := .bl true) (s1 := s) ?_ rfl).trans (seq_exc (raise_ok rfl))))
  · rw [call_ok (cons_ok (x := .int 3) rfl (cons_ok (x := .int 0) rfl nil_ok))]
    dsimp only
    rw [ev_check_code 3 0 (by decide) (by decide) (by decide) (by decide)]
  · rcases ht with rfl | rfl <;> rfl
theorem ex_added : callN tab (m + 4) 6 B [.int 2, .int 0, .int (-1)] s = .exc (.str "code") s := by
  refine (run_exc (np := 3) (n := 7) (s1 := s) rfl ?_).trans finE_same
  dsimp only [c_added]
  walk_at "st"
  refine seq_go (expr_ok (d := .non) (s1 := s) ?_) (seq_exc (expr_exc ?_))
  · rw [call_ok (cons_ok (x := .int 2) rfl (cons_ok (x := .int 0) rfl nil_ok))]
    dsimp only
    rw [ev_check_code 2 0 (by decide) (by decide) (by decide) (by decide)]
  · rw [call_ok (cons_ok (x := .int 2) rfl (cons_ok (x := .int (-1)) rfl nil_ok))]
    dsimp only
    rw [ex_code 2 (-1) (by decide) (by decide) (by decide)]
theorem ex_div : callN tab (m + 3) 12 B [.int 3, .int 1, .int 0] s = .exc (.str "nought") s := by
  refine (run_exc (np := 3) (n := 7) (s1 := s) rfl ?_).trans finE_same
  dsimp only [c_divided]
  walk_at "st"
  refine seq_go (expr_ok (d := .non) (s1 := s) ?_) (seq_go (expr_ok (d := .non) (s1 := s) ?_) (seq_exc ((if_t (d := .bl true) (s1 := s) ?_ rfl).trans (seq_exc (raise_ok rfl)))))
  · rw [call_ok (cons_ok (x := .int 3) rfl (cons_ok (x := .int 1) rfl nil_ok))]
    dsimp only
    rw [ev_check_code 3 1 (by decide) (by decide) (by decide) (by decide)]
  · rw [call_ok (cons_ok (x := .int 3) rfl (cons_ok (x := .int 0) rfl nil_ok))]
    dsimp only
    rw [ev_check_code 3 0 (by decide) (by decide) (by decide) (by decide)]
  · rfl
theorem ex_both : callN tab (m + 3) 13 B [.int 3, .int 1, .int 0] s = .exc (.str "nought") s := by
  refine (run_exc (np := 3) (n := 8) (s1 := s) rfl ?_).trans finE_same
  dsimp only [c_divided_both]
  walk_at "st"
  refine seq_go (expr_ok (d := .non) (s1 := s) ?_) (seq_go (expr_ok (d := .non) (s1 := s) ?_) (seq_exc ((if_t (d := .bl true) (s1 := s) ?_ rfl).trans (seq_exc (raise_ok rfl)))))
  · rw [call_ok (cons_ok (x := .int 3) rfl (cons_ok (x := .int 1) rfl nil_ok))]
    dsimp only
    rw [ev_check_code 3 1 (by decide) (by decide) (by decide) (by decide)]
  · rw [call_ok (cons_ok (x := .int 3) rfl (cons_ok (x := .int 0) rfl nil_ok))]
    dsimp only
    rw [ev_check_code 3 0 (by decide) (by decide) (by decide) (by decide)]
  · rfl
theorem ex_root : callN tab (m + 1) 16 B [.int (-1)] s = .exc (.str "number") s := by
  refine (run_exc (np := 1) (n := 4) (s1 := s) rfl ?_).trans finE_same
  rfl
theorem len_blt {e : ES} {C0 : C} {ρ : Ev.Env} {ds : List D} (he : ∀ B, e ⟨C0.call, B⟩ ρ s = .ok (.tup ds) s) : eBlt lenD (aCons e aNil) C0 ρ s = .ok (.int ds.length) s := blt_args (cons_ok (he _) nil_ok) rfl
theorem ex_saved2 : callN tab (m + 1) 14 B [.tup [.int 1, .int 2]] s = .exc (.str "three") s := by
  refine (run_exc (np := 1) (n := 5) (s1 := s) rfl ?_).trans finE_same
  dsimp only [c_saved]
  walk_at "st"
  refine seq_exc ((if_t (d := .bl true) (s1 := s) ?_ rfl).trans (seq_exc (raise_ok rfl)))
  refine or_t ?_
  rw [op_ok (x := .int 2) (y := .int 3) (s1 := s) (s2 := s) (len_blt (ds := [.int 1, .int 2]) fun _ => rfl) rfl, cNe_int]
  rfl
theorem ex_saved3 : callN tab (m + 1) 14 B [.tup [.int 1, .int 2, .int (-1)]] s = .exc (.str "three") s := by
  refine (run_exc (np := 1) (n := 5) (s1 := s) rfl ?_).trans finE_same
  dsimp only [c_saved]
  walk_at "st"
  refine seq_exc ((if_t (d := .bl true) (s1 := s) ?_ rfl).trans (seq_exc (raise_ok rfl)))
  rw [or_f]
  · rw [op_ok (x := .int (-1)) (y := .int 0) (s1 := s) (s2 := s) (blt_args (cons_ok rfl nil_ok) rfl) rfl, cLt_ok]
    rfl
  · rw [op_ok (x := .int 3) (y := .int 3) (s1 := s) (s2 := s) (len_blt (ds := [.int 1, .int 2, .int (-1)]) fun _ => rfl) rfl, cNe_int]
    rfl
theorem all_false {it : IS} {own : List Nat} {te : ES} {C0 : C} {ρ : Ev.Env} {i : Nat} {d : D} (hi : ∀ B, it ⟨C0.call, B⟩ ρ s = .ok [d] none s) (hc : ∀ B, te ⟨C0.call, B⟩ (sv (wipeD ρ own) i d) s = .ok (.bl false) s) : eBlt allD (aCons (eComp it own (tName i) none te) aNil) C0 ρ s = .ok (.bl false) s := by
  refine blt_top (x := .ref s.length) (t := [.lst ([false].map D.bl)]) (comp_ok (g := none) (ds := [d]) (hi _) (Nat.le_of_lt (lim_of (by simp))) ?_ ygs_map_bl) ?_ rfl (fun _ => by simp)
  · exact compL_map (f := fun _ => .bl false) rfl [d] (by intro e he; cases List.mem_singleton.mp he; exact hc _)
  · exact allD_bls seqOf_top
theorem ex_from : callN tab (m + 1) 10 B [.tup [.int 2]] s = .exc (.str "digit") s := by
  refine (run_exc (np := 1) (n := 3) (s1 := s) rfl ?_).trans finE_same
  dsimp only [c_from_digits]
  walk_at "st"
  refine seq_exc ((if_t (d := .bl true) (s1 := s) ?_ rfl).trans (seq_exc (raise_ok rfl)))
  rw [not_ok (all_false (d := .int 2) (fun _ => rfl) (fun _ => ?_))]
  · rfl
  · rfl
theorem ex_summed : callN tab (m + 1) 15 B [.tup [.int (-1)]] s = .exc (.str "number") s := by
  refine (run_exc (np := 1) (n := 5) (s1 := s) rfl ?_).trans finE_same
  dsimp only [c_summed]
  walk_at "st"
  refine seq_exc ((if_t (d := .bl true) (s1 := s) ?_ rfl).trans (seq_exc (raise_ok rfl)))
  rw [not_ok (all_false (d := .int (-1)) (fun _ => rfl) (fun _ => ?_))]
  · rfl
  · rfl
theorem root_0 : callN tab (m + 1) 16 B [.int 0] s = .ok (.tup [.int 0, .int 0]) s := by
  obtain ⟨r, h, h1, h2, h3⟩ := ev_root_of (m := m) (B := B) (s := s) 0 (by decide) (by decide)
  have : r = 0 := by
    by_cases hr : r = 0
    · exact hr
    · have : 1 * 1 ≤ r * r := Int.mul_le_mul (by omega) (by omega) (by decide) (by omega)
      omega
  subst this
  exact h
theorem ev_law_wrong : callN tab (m + 7) 24 B [] s = .ok (.bl true) s := by
  refine run_go (np := 0) (n := 0) (d := .bl true) (s1 := s) rfl ?_ finF_same
  dsimp only [c_law_wrong]
  walk_at "st"
  have h2 : ∀ {f : Nat} {x y : Int} {e1 e2 : ES} {B : List Nat} {k} {ρ : Ev.Env}, e1 ⟨k, B⟩ ρ s = .ok (.int x) s → e2 ⟨k, B⟩ ρ s = .ok (.int y) s → eCall f (aCons e1 (aCons e2 aNil)) ⟨k, B⟩ ρ s = k f B [.int x, .int y] s := fun q1 q2 => call_ok (cons_ok q1 (cons_ok q2 nil_ok))
  have h3 : ∀ {f : Nat} {x y z : Int} {e1 e2 e3 : ES} {B : List Nat} {k} {ρ : Ev.Env}, e1 ⟨k, B⟩ ρ s = .ok (.int x) s → e2 ⟨k, B⟩ ρ s = .ok (.int y) s → e3 ⟨k, B⟩ ρ s = .ok (.int z) s → eCall f (aCons e1 (aCons e2 (aCons e3 aNil))) ⟨k, B⟩ ρ s = k f B [.int x, .int y, .int z] s := fun q1 q2 q3 => call_ok (cons_ok q1 (cons_ok q2 (cons_ok q3 nil_ok)))
  have h1 : ∀ {f : Nat} {d : D} {e1 : ES} {B : List Nat} {k} {ρ : Ev.Env}, e1 ⟨k, B⟩ ρ s = .ok d s → eCall f (aCons e1 aNil) ⟨k, B⟩ ρ s = k f B [d] s := fun q1 => call_ok (cons_ok q1 nil_ok)
  refine seq_go (guard_nx (s1 := s) ?_) (seq_go (guard_nx (s1 := s) ?_) (seq_rt (ret_ok ?_)))
  · rw [or_f (told_ne (fun _ => (h2 rfl rfl).trans (ex_mean (ex_cc ex_check0))) (by decide +kernel)), or_f (told_ne (fun _ => (h2 rfl rfl).trans (ex_mean (ex_cc ex_check33))) (by decide +kernel)), or_f (told_ne (fun _ => (h2 rfl rfl).trans (ex_mean (ex_code 2 4 (by decide) (by decide) (by decide)))) (by decide +kernel)), or_f (told_ne (fun _ => (h3 rfl rfl rfl).trans ex_added) (by decide +kernel))]
    exact told_ne (fun _ => (h3 rfl rfl rfl).trans (ex_more (.inl rfl))) (by decide +kernel)
  · rw [or_f (told_ne (fun _ => (h3 rfl rfl rfl).trans (ex_more (.inr rfl))) (by decide +kernel)), or_f (told_ne (fun _ => (h1 (d := .tup [.int 2]) rfl).trans ex_from) (by decide +kernel)), or_f (told_ne (fun _ => (h3 rfl rfl rfl).trans ex_div) (by decide +kernel)), or_f (told_ne (fun _ => (h3 rfl rfl rfl).trans ex_both) (by decide +kernel))]
    exact told_ne (fun _ => (h1 (d := .tup [.int 1, .int 2]) rfl).trans ex_saved2) (by decide +kernel)
  · rw [and_t (told_eq (fun _ => (h1 (d := .tup [.int 1, .int 2, .int (-1)]) rfl).trans ex_saved3) (by decide +kernel)), and_t (told_eq (fun _ => (h1 (d := .tup [.int (-1)]) rfl).trans ex_summed) (by decide +kernel)), and_t (told_eq (fun B' => (h1 (d := .int (-1)) rfl).trans (ex_root (m := m + 5) (B := B'))) (by decide +kernel))]
    rw [and_t]
    · rw [op_ok (x := .tup [.int 0, .int 0]) (y := .tup [.int 0, .int 0]) (s1 := s) (s2 := s) ((h1 (d := .int 0) rfl).trans root_0) rfl, cEq_self rfl]
    · rw [op_ok (x := .tup [.int 0, .tup []]) (y := .tup [.int 0, .tup []]) (s1 := s) (s2 := s) ((h1 (d := .tup []) rfl).trans ?_) rfl, cEq_self rfl]
      exact ev_summed [] (by decide) (by simp)
end
end KL

set_option maxRecDepth 100000
namespace KL
open PySem Ev
local macro_rules | `(tactic| walk_at "st") => `(tactic| dsimp only [start0, List.length_cons, List.length_nil, List.replicate, List.cons_append, List.nil_append, Nat.reduceSub, Nat.reduceAdd])
local macro_rules | `(tactic| walk_at "ev") => `(tactic| simp (disch := omega) only [sSeq, sSet, sExpr, sRet, sRetN, sIf, sBrk, sCnt, sRaise, sNil, sAsg, sAug, sPar2, sFor, tName, tTup, tsCons, tsNil, tSub, eVar, eC, eOp, eUn, aNil, aCons, eTup, eLst, eCall, eBlt, gcF, gcE, eNot, eAnd, eOr, eIf, eChain, eTold, eMt, eSl, withPart, iR1, iR2, iR3, iSeq, Ev.iEnum, Res.bnd, Res.bndS, Res.bndA, Res.bndI, Rss.bnd, Rss.bndA, Rss.bndS, Rss.bndI, Itm.bnd, Itm.bndS, Out.bnd, Res.tst, Res.tstS, Res.tstA, gv, sv, tru, al, toRes, C.psh, endG, gOk, bAdd, bSub, uNeg, cLt, cLe, cGt, cGe, iAdd, lenD, intD, absD, if_true, if_false, Bool.false_eq_true, ite_true, ite_false, decide_true, decide_false, Bool.not_true, Bool.not_false, Bool.and_true, Bool.and_false, Bool.true_and, Bool.false_and, Int.zero_sub, and_true, true_and, and_false, false_and, not_true_eq_false, not_false_eq_true, finF_same, fin_same', cEq_int, cNe_int, decide_eq_true_eq, Bool.not_eq_true', decide_eq_false_iff_not, ite_not])
local macro_rules | `(tactic| walk_at "ew") => `(tactic| repeat (first | walk_at "ev" | (simp (disch := omega) only [ev_power_of, ev_check, ev_check_code, ev_meaning, ev_code_of, ev_widened, div_pow, mod_pow])))
section
variable {C0 : C} {ρ : Ev.Env} {s : S}
theorem dueGet {u : Nat} {l : List Int} {i : Nat} {z : Int} (h : lstOf s u = some (l.map D.int)) (hi : l[i]? = some z) : bIx (.ref u) (.int ((i : Nat) : Int)) s = .ok (.int z) s := bIx_lst h (by rw [List.getElem?_map, hi]; rfl)
theorem tupGet {l : List Int} {i : Nat} {z : Int} (hi : l[i]? = some z) : bIx (.tup (l.map D.int)) (.int ((i : Nat) : Int)) s = .ok (.int z) s := by
  show ixL _ _ s = _
  exact ixL_nat (by rw [List.getElem?_map, hi]; rfl)
/-- the law's bits of a number -/
def dueL (b x : Int) : List Int := (List.range b.toNat).map (bitI x)
theorem dueL_get {b x : Int} {i : Nat} (h : i < b.toNat) : (dueL b x)[i]? = some (bitI x i) := by simp [dueL, h]
theorem dvR_get (x y : Int) (c : Nat) (r q : Int) : (dvR x y (c + 1) r q).2.2 = (if y ≤ 2 * r + bitI x c then 2 * r + bitI x c - y else 2 * r + bitI x c) :: (dvR x y c (if y ≤ 2 * r + bitI x c then 2 * r + bitI x c - y else 2 * r + bitI x c) (if y ≤ 2 * r + bitI x c then q * 2 + 1 else q * 2)).2.2 := by
  rw [dvR]
  split <;> rfl
abbrev bA1 : SS := (sSeq (sSet 12 (eOp bAdd (eOp bMul (eC (.int 2)) (eVar 12)) (eOp bIx (eVar 4) (eOp bSub (eOp bSub (eVar 1) (eC (.int 1))) (eVar 6))))) (sSeq (sSet 12 (eIf (eOp cGe (eVar 12) (eVar 3)) (eOp bSub (eVar 12) (eVar 3)) (eVar 12))) (sSeq (sIf (eOp cNe (eOp bIx (eVar 7) (eVar 6)) (eVar 12)) (sSeq (sRet (eC (.bl false))) sNil) sNil) sNil)))
theorem loop_A1 {b x y : Int} {u : Nat} {rows : List Int} {a0 a5 a8 a9 a10 a11 a13 a14 a15 a16 a17 a18 a19 a20 a21 a22 : D} (h0 : 0 ≤ b) (hu : lstOf s u = some ((dueL b x).map D.int)) : ∀ (c j : Nat) (L q : Int) (a6 : D), j + c = b.toNat → rows.drop j = (dvR x y c L q).2.2 →
    ∃ L' y6, forL true none (tName 6) bA1 C0 ((List.range' j c).map fun i => D.int (0 + (i : Nat))) [a0, .int b, .int x, .int y, .ref u, a5, a6, .tup (rows.map D.int), a8, a9, a10, a11, .int L, a13, a14, a15, a16, a17, a18, a19, a20, a21, a22] s = .nx [a0, .int b, .int x, .int y, .ref u, a5, y6, .tup (rows.map D.int), a8, a9, a10, a11, .int L', a13, a14, a15, a16, a17, a18, a19, a20, a21, a22] s
  | 0, j, L, q, a6, _, _ => ⟨L, a6, rfl⟩
  | c + 1, j, L, q, a6, hj, hr => by
    rw [dvR_get] at hr
    obtain ⟨L1, hL1⟩ : ∃ L1, L1 = 2 * L + bitI x c := ⟨_, rfl⟩
    obtain ⟨L2, hL2⟩ : ∃ L2, L2 = if y ≤ L1 then L1 - y else L1 := ⟨_, rfl⟩
    rw [← hL1, ← hL2] at hr
    have hrj : rows[j]? = some L2 := by
      have := congrArg List.head? hr
      rw [List.head?_drop] at this
      exact this
    have hrd : rows.drop (j + 1) = (dvR x y c L2 (if y ≤ L1 then q * 2 + 1 else q * 2)).2.2 := by
      have := congrArg List.tail hr
      rw [List.tail_drop] at this
      exact this
    obtain ⟨L', y6, e⟩ := loop_A1 (a0 := a0) (a5 := a5) (a8 := a8) (a9 := a9) (a10 := a10) (a11 := a11) (a13 := a13) (a14 := a14) (a15 := a15) (a16 := a16) (a17 := a17) (a18 := a18) (a19 := a19) (a20 := a20) (a21 := a21) (a22 := a22) h0 hu c (j + 1) L2 _ (.int (0 + (j : Nat))) (by omega) hrd
    refine ⟨L', y6, ?_⟩
    rw [List.range'_succ, List.map_cons, forL_cons (ρ2 := [a0, .int b, .int x, .int y, .ref u, a5, .int (0 + (j : Nat)), .tup (rows.map D.int), a8, a9, a10, a11, .int L2, a13, a14, a15, a16, a17, a18, a19, a20, a21, a22]) (s2 := s) (turn_name ?_ rfl) rfl, e]
    refine seq_go (ρ1 := [a0, .int b, .int x, .int y, .ref u, a5, .int (0 + (j : Nat)), .tup (rows.map D.int), a8, a9, a10, a11, .int L1, a13, a14, a15, a16, a17, a18, a19, a20, a21, a22]) (s1 := s) (set_ok (d := .int L1) ?_) (seq_go (ρ1 := [a0, .int b, .int x, .int y, .ref u, a5, .int (0 + (j : Nat)), .tup (rows.map D.int), a8, a9, a10, a11, .int L2, a13, a14, a15, a16, a17, a18, a19, a20, a21, a22]) (s1 := s) (set_ok (d := .int L2) ?_) (seq_go (guard_nx (s1 := s) ?_) rfl))
    · rw [op_ok (x := .int (2 * L)) (y := .int (bitI x c)) (s1 := s) (s2 := s) ?_ ?_, add_ok, hL1]
      · rw [op_ok (x := .int 2) (y := .int L) (s1 := s) (s2 := s) rfl rfl]
        exact mul_ok (mulOk_l (by decide) (by decide))
      · have e1 : b - 1 - (0 + (j : Int)) = ((c : Nat) : Int) := by omega
        rw [op_ok (x := .ref u) (y := .int (c : Nat)) (s1 := s) (s2 := s) rfl ?_]
        · exact dueGet hu (dueL_get (by omega))
        · rw [← e1]; rfl
    · have ht : eOp cGe (eVar 12) (eVar 3) (C0.psh true s.length) [a0, .int b, .int x, .int y, .ref u, a5, .int (0 + (j : Nat)), .tup (rows.map D.int), a8, a9, a10, a11, .int L1, a13, a14, a15, a16, a17, a18, a19, a20, a21, a22] s = .ok (.bl (decide (L1 ≥ y))) s := rfl
      rw [hL2]
      by_cases h : y ≤ L1
      · rw [eif_t (ht.trans (by rw [decide_eq_true h])), if_pos h]; rfl
      · rw [eif_f (ht.trans (by rw [decide_eq_false h])), if_neg h]; rfl
    · rw [op_ok (x := .int L2) (y := .int L2) (s1 := s) (s2 := s) ?_ rfl, cNe_int, decide_eq_true rfl]
      · rfl
      · rw [op_ok (x := .tup (rows.map D.int)) (y := .int (j : Nat)) (s1 := s) (s2 := s) rfl ?_]
        · exact tupGet hrj
        · show Res.ok (.int (0 + (j : Int))) s = _
          rw [Int.zero_add]
abbrev bA2 : SS := (sSeq (sIf (eOp cNe (eOp bIx (eVar 20) (eVar 6)) (eIf (eOp cGe (eVar 12) (eC (.int 0))) (eC (.int 1)) (eUn uNeg (eC (.int 1))))) (sSeq (sRet (eC (.bl false))) sNil) sNil) (sSeq (sSet 12 (eOp bSub (eOp bAdd (eOp bMul (eC (.int 2)) (eVar 12)) (eOp bIx (eVar 4) (eOp bSub (eOp bSub (eVar 1) (eC (.int 1))) (eVar 6)))) (eOp bMul (eOp bIx (eVar 20) (eVar 6)) (eVar 3)))) sNil))
theorem loop_A2 {b x y : Int} {u : Nat} {rows : List Int} {a0 a5 a7 a8 a9 a10 a11 a13 a14 a15 a16 a17 a18 a19 a21 a22 : D} (h0 : 0 ≤ b) (hu : lstOf s u = some ((dueL b x).map D.int)) : ∀ (c j : Nat) (L : Int) (a6 : D), j + c = b.toNat → rows.drop j = (dbR x y c L).2 →
    ∃ L' y6, forL true none (tName 6) bA2 C0 ((List.range' j c).map fun i => D.int (0 + (i : Nat))) [a0, .int b, .int x, .int y, .ref u, a5, a6, a7, a8, a9, a10, a11, .int L, a13, a14, a15, a16, a17, a18, a19, .tup (rows.map D.int), a21, a22] s = .nx [a0, .int b, .int x, .int y, .ref u, a5, y6, a7, a8, a9, a10, a11, .int L', a13, a14, a15, a16, a17, a18, a19, .tup (rows.map D.int), a21, a22] s
  | 0, j, L, a6, _, _ => ⟨L, a6, rfl⟩
  | c + 1, j, L, a6, hj, hr => by
    rw [dbR] at hr
    obtain ⟨g, hg⟩ : ∃ g : Int, g = if 0 ≤ L then 1 else -1 := ⟨_, rfl⟩
    obtain ⟨L2, hL2⟩ : ∃ L2, L2 = 2 * L + bitI x c - g * y := ⟨_, rfl⟩
    rw [← hg, ← hL2] at hr
    have hrj : rows[j]? = some g := by
      have := congrArg List.head? hr
      rw [List.head?_drop] at this
      exact this
    have hrd : rows.drop (j + 1) = (dbR x y c L2).2 := by
      have := congrArg List.tail hr
      rw [List.tail_drop] at this
      exact this
    have hg1 : -(2 ^ 64) < g := by rw [hg]; split <;> decide
    have hg2 : g < 2 ^ 64 := by rw [hg]; split <;> decide
    obtain ⟨L', y6, e⟩ := loop_A2 (a0 := a0) (a5 := a5) (a7 := a7) (a8 := a8) (a9 := a9) (a10 := a10) (a11 := a11) (a13 := a13) (a14 := a14) (a15 := a15) (a16 := a16) (a17 := a17) (a18 := a18) (a19 := a19) (a21 := a21) (a22 := a22) h0 hu c (j + 1) L2 (.int (0 + (j : Nat))) (by omega) hrd
    refine ⟨L', y6, ?_⟩
    have hsg : ∀ {C1 : C}, eOp bIx (eVar 20) (eVar 6) C1 [a0, .int b, .int x, .int y, .ref u, a5, .int (0 + (j : Nat)), a7, a8, a9, a10, a11, .int L, a13, a14, a15, a16, a17, a18, a19, .tup (rows.map D.int), a21, a22] s = .ok (.int g) s := by
      intro C1
      rw [op_ok (x := .tup (rows.map D.int)) (y := .int (j : Nat)) (s1 := s) (s2 := s) rfl ?_]
      · exact tupGet hrj
      · show Res.ok (.int (0 + (j : Int))) s = _
        rw [Int.zero_add]
    rw [List.range'_succ, List.map_cons, forL_cons (ρ2 := [a0, .int b, .int x, .int y, .ref u, a5, .int (0 + (j : Nat)), a7, a8, a9, a10, a11, .int L2, a13, a14, a15, a16, a17, a18, a19, .tup (rows.map D.int), a21, a22]) (s2 := s) (turn_name ?_ rfl) rfl, e]
    refine seq_go (ρ1 := [a0, .int b, .int x, .int y, .ref u, a5, .int (0 + (j : Nat)), a7, a8, a9, a10, a11, .int L, a13, a14, a15, a16, a17, a18, a19, .tup (rows.map D.int), a21, a22]) (s1 := s) (guard_nx (s1 := s) ?_) (seq_go (ρ1 := [a0, .int b, .int x, .int y, .ref u, a5, .int (0 + (j : Nat)), a7, a8, a9, a10, a11, .int L2, a13, a14, a15, a16, a17, a18, a19, .tup (rows.map D.int), a21, a22]) (s1 := s) (set_ok (d := .int L2) ?_) rfl)
    · dsimp only [sv]
      rw [op_ok (x := .int g) (y := .int g) (s1 := s) (s2 := s) hsg ?_, cNe_int, decide_eq_true rfl]
      · rfl
      · have ht : eOp cGe (eVar 12) (eC (.int 0)) (C0.psh true s.length) [a0, .int b, .int x, .int y, .ref u, a5, .int (0 + (j : Nat)), a7, a8, a9, a10, a11, .int L, a13, a14, a15, a16, a17, a18, a19, .tup (rows.map D.int), a21, a22] s = .ok (.bl (decide (L ≥ 0))) s := rfl
        rw [hg]
        by_cases h : 0 ≤ L
        · rw [if_pos h]
          exact (eif_t (ht.trans (by rw [decide_eq_true h])))
        · rw [if_neg h]
          exact (eif_f (ht.trans (by rw [decide_eq_false h])))
    · rw [op_ok (x := .int (2 * L + bitI x c)) (y := .int (g * y)) (s1 := s) (s2 := s) ?_ ?_, sub_ok, hL2]
      · rw [op_ok (x := .int (2 * L)) (y := .int (bitI x c)) (s1 := s) (s2 := s) ?_ ?_, add_ok]
        · rw [op_ok (x := .int 2) (y := .int L) (s1 := s) (s2 := s) rfl rfl]
          exact mul_ok (mulOk_l (by decide) (by decide))
        · have e1 : b - 1 - (0 + (j : Int)) = ((c : Nat) : Int) := by omega
          rw [op_ok (x := .ref u) (y := .int (c : Nat)) (s1 := s) (s2 := s) rfl ?_]
          · exact dueGet hu (dueL_get (by omega))
          · rw [← e1]; rfl
      · rw [op_ok (x := .int g) (y := .int y) (s1 := s) (s2 := s) hsg rfl]
        exact mul_ok (mulOk_l hg1 hg2)
end
end KL

set_option maxRecDepth 100000
namespace KL
open PySem Ev
local macro_rules | `(tactic| walk_at "st") => `(tactic| dsimp only [start0, List.length_cons, List.length_nil, List.replicate, List.cons_append, List.nil_append, Nat.reduceSub, Nat.reduceAdd])
local macro_rules | `(tactic| walk_at "ev") => `(tactic| simp (disch := omega) only [sSeq, sSet, sExpr, sRet, sRetN, sIf, sBrk, sCnt, sRaise, sNil, sAsg, sAug, sPar2, sFor, tName, tTup, tsCons, tsNil, tSub, eVar, eC, eOp, eUn, aNil, aCons, eTup, eLst, eCall, eBlt, gcF, gcE, eNot, eAnd, eOr, eIf, eChain, eTold, eMt, eSl, withPart, iR1, iR2, iR3, iSeq, Ev.iEnum, Res.bnd, Res.bndS, Res.bndA, Res.bndI, Rss.bnd, Rss.bndA, Rss.bndS, Rss.bndI, Itm.bnd, Itm.bndS, Out.bnd, Res.tst, Res.tstS, Res.tstA, gv, sv, tru, al, toRes, C.psh, endG, gOk, bAdd, bSub, uNeg, cLt, cLe, cGt, cGe, iAdd, lenD, intD, absD, if_true, if_false, Bool.false_eq_true, ite_true, ite_false, decide_true, decide_false, Bool.not_true, Bool.not_false, Bool.and_true, Bool.and_false, Bool.true_and, Bool.false_and, Int.zero_sub, and_true, true_and, and_false, false_and, not_true_eq_false, not_false_eq_true, finF_same, fin_same', cEq_int, cNe_int, decide_eq_true_eq, Bool.not_eq_true', decide_eq_false_iff_not, ite_not])
local macro_rules | `(tactic| walk_at "ew") => `(tactic| repeat (first | walk_at "ev" | (simp (disch := omega) only [ev_power_of, ev_check, ev_check_code, ev_meaning, ev_code_of, ev_widened, div_pow, mod_pow])))
abbrev pS0 : SS := (sIf (eOp cGt (eVar 3) (eC (.int 0))) (sSeq (sAsg (eCall 12 (aCons (eVar 1) (aCons (eVar 2) (aCons (eVar 3) aNil)))) (tTup 3 (tsCons (tName 19) (tsCons (tName 18) (tsCons (tName 7) tsNil))))) (sSeq (sSet 12 (eC (.int 0))) (sSeq (sFor true (iR1 (aCons (eVar 1) aNil)) (tName 6) (sSeq (sSet 12 (eOp bAdd (eOp bMul (eC (.int 2)) (eVar 12)) (eOp bIx (eVar 4) (eOp bSub (eOp bSub (eVar 1) (eC (.int 1))) (eVar 6))))) (sSeq (sSet 12 (eIf (eOp cGe (eVar 12) (eVar 3)) (eOp bSub (eVar 12) (eVar 3)) (eVar 12))) (sSeq (sIf (eOp cNe (eOp bIx (eVar 7) (eVar 6)) (eVar 12)) (sSeq (sRet (eC (.bl false))) sNil) sNil) sNil)))) (sSeq (sAsg (eCall 13 (aCons (eVar 1) (aCons (eVar 2) (aCons (eVar 3) aNil)))) (tTup 3 (tsCons (tName 14) (tsCons (tName 16) (tsCons (tName 20) tsNil))))) (sSeq (sIf (eOr (eOp cNe (eOp bAdd (eOp bMul (eVar 19) (eVar 3)) (eVar 18)) (eVar 2)) (eOr (eOp cLt (eVar 18) (eC (.int 0))) (eOr (eOp cGe (eVar 18) (eVar 3)) (eOr (eOp cNe (eTup (aCons (eVar 14) (aCons (eVar 16) aNil))) (eTup (aCons (eVar 19) (aCons (eVar 18) aNil)))) (eOr (eOp cNe (eBlt lenD (aCons (eVar 20) aNil)) (eVar 1)) (eOp cGt (eBlt lenD (aCons (eComp (iSeq (eVar 20)) [22] (tName 22) (some (eOp cNotIn (eVar 22) (eTup (aCons (eC (.int 1)) (aCons (eUn uNeg (eC (.int 1))) aNil))))) (eVar 22)) aNil)) (eC (.int 0)))))))) (sSeq (sRet (eC (.bl false))) sNil) sNil) (sSeq (sSet 12 (eC (.int 0))) (sSeq (sFor true (iR1 (aCons (eVar 1) aNil)) (tName 6) (sSeq (sIf (eOp cNe (eOp bIx (eVar 20) (eVar 6)) (eIf (eOp cGe (eVar 12) (eC (.int 0))) (eC (.int 1)) (eUn uNeg (eC (.int 1))))) (sSeq (sRet (eC (.bl false))) sNil) sNil) (sSeq (sSet 12 (eOp bSub (eOp bAdd (eOp bMul (eC (.int 2)) (eVar 12)) (eOp bIx (eVar 4) (eOp bSub (eOp bSub (eVar 1) (eC (.int 1))) (eVar 6)))) (eOp bMul (eOp bIx (eVar 20) (eVar 6)) (eVar 3)))) sNil))) sNil))))))) sNil)
abbrev pSA0 : SS := (sAsg (eCall 12 (aCons (eVar 1) (aCons (eVar 2) (aCons (eVar 3) aNil)))) (tTup 3 (tsCons (tName 19) (tsCons (tName 18) (tsCons (tName 7) tsNil)))))
abbrev pSA1 : SS := (sSet 12 (eC (.int 0)))
abbrev pSA2 : SS := (sFor true (iR1 (aCons (eVar 1) aNil)) (tName 6) (sSeq (sSet 12 (eOp bAdd (eOp bMul (eC (.int 2)) (eVar 12)) (eOp bIx (eVar 4) (eOp bSub (eOp bSub (eVar 1) (eC (.int 1))) (eVar 6))))) (sSeq (sSet 12 (eIf (eOp cGe (eVar 12) (eVar 3)) (eOp bSub (eVar 12) (eVar 3)) (eVar 12))) (sSeq (sIf (eOp cNe (eOp bIx (eVar 7) (eVar 6)) (eVar 12)) (sSeq (sRet (eC (.bl false))) sNil) sNil) sNil))))
abbrev pSA3 : SS := (sAsg (eCall 13 (aCons (eVar 1) (aCons (eVar 2) (aCons (eVar 3) aNil)))) (tTup 3 (tsCons (tName 14) (tsCons (tName 16) (tsCons (tName 20) tsNil)))))
abbrev pSA4 : SS := (sIf (eOr (eOp cNe (eOp bAdd (eOp bMul (eVar 19) (eVar 3)) (eVar 18)) (eVar 2)) (eOr (eOp cLt (eVar 18) (eC (.int 0))) (eOr (eOp cGe (eVar 18) (eVar 3)) (eOr (eOp cNe (eTup (aCons (eVar 14) (aCons (eVar 16) aNil))) (eTup (aCons (eVar 19) (aCons (eVar 18) aNil)))) (eOr (eOp cNe (eBlt lenD (aCons (eVar 20) aNil)) (eVar 1)) (eOp cGt (eBlt lenD (aCons (eComp (iSeq (eVar 20)) [22] (tName 22) (some (eOp cNotIn (eVar 22) (eTup (aCons (eC (.int 1)) (aCons (eUn uNeg (eC (.int 1))) aNil))))) (eVar 22)) aNil)) (eC (.int 0)))))))) (sSeq (sRet (eC (.bl false))) sNil) sNil)
abbrev pSA5 : SS := (sSet 12 (eC (.int 0)))
abbrev pSA6 : SS := (sFor true (iR1 (aCons (eVar 1) aNil)) (tName 6) (sSeq (sIf (eOp cNe (eOp bIx (eVar 20) (eVar 6)) (eIf (eOp cGe (eVar 12) (eC (.int 0))) (eC (.int 1)) (eUn uNeg (eC (.int 1))))) (sSeq (sRet (eC (.bl false))) sNil) sNil) (sSeq (sSet 12 (eOp bSub (eOp bAdd (eOp bMul (eC (.int 2)) (eVar 12)) (eOp bIx (eVar 4) (eOp bSub (eOp bSub (eVar 1) (eC (.int 1))) (eVar 6)))) (eOp bMul (eOp bIx (eVar 20) (eVar 6)) (eVar 3)))) sNil)))
abbrev pS1 : SS := (sSet 5 (eBlt tupD (aCons (eComp (iR1 (aCons (eC (.int 3)) aNil)) [6] (tName 6) none (eOp bAdd (eOp bMul (eCall 20 (aCons (eVar 0) (aCons (eC (.int 900)) aNil))) (eOp bPow (eC (.int 10)) (eC (.int 12)))) (eCall 20 (aCons (eVar 0) (aCons (eC (.int 900)) aNil))))) aNil)))
abbrev pS2 : SS := (sAsg (eCall 14 (aCons (eVar 5) aNil)) (tTup 2 (tsCons (tName 13) (tsCons (tName 14) tsNil))))
abbrev pS3 : SS := (sIf (eOr (eOp cNe (eOp bAdd (eVar 13) (eVar 14)) (eBlt sumD (aCons (eVar 5) aNil))) (eOp cNe (eOp bMod (eBlt intD (aCons (eVar 14) aNil)) (eC (.int 2))) (eC (.int 0)))) (sSeq (sRet (eC (.bl false))) sNil) sNil)
abbrev pS4 : SS := (sFor true (iR1 (aCons (eC (.int 45)) aNil)) (tName 6) (sSeq (sSet 11 (eBlt sumD (aCons (eComp (iSeq (eVar 5)) [21] (tName 21) none (eOp bMod (eBlt intD (aCons (eOp bDiv (eVar 21) (eCall 21 (aCons (eVar 6) aNil))) aNil)) (eC (.int 2)))) aNil))) (sSeq (sIf (eOr (eOp cNe (eOp bMod (eBlt intD (aCons (eOp bDiv (eVar 13) (eCall 21 (aCons (eVar 6) aNil))) aNil)) (eC (.int 2))) (eOp bMod (eBlt intD (aCons (eVar 11) aNil)) (eC (.int 2)))) (eOp cNe (eOp bMod (eBlt intD (aCons (eOp bDiv (eVar 14) (eCall 21 (aCons (eOp bAdd (eVar 6) (eC (.int 1))) aNil))) aNil)) (eC (.int 2))) (eBlt intD (aCons (eOp cGt (eVar 11) (eC (.int 1))) aNil)))) (sSeq (sRet (eC (.bl false))) sNil) sNil) sNil)))
abbrev pS5 : SS := (sSet 7 (eBlt tupD (aCons (eComp (iR1 (aCons (eCall 20 (aCons (eVar 0) (aCons (eC (.int 9)) aNil))) aNil)) [6] (tName 6) none (eCall 20 (aCons (eVar 0) (aCons (eC (.int 900)) aNil)))) aNil)))
abbrev pS6 : SS := (sAsg (eCall 15 (aCons (eVar 7) aNil)) (tTup 2 (tsCons (tName 15) (tsCons (tName 16) tsNil))))
abbrev pS7 : SS := (sSet 8 (eBlt lenD (aCons (eVar 7) aNil)))
abbrev pS8 : SS := (sSet 9 (eC (.int 0)))
abbrev pS9 : SS := (sWhile true (eOp cGt (eVar 8) (eC (.int 2))) (sSeq (sSet 8 (eOp bAdd (eOp bMul (eC (.int 2)) (eOp bDiv (eVar 8) (eC (.int 3)))) (eOp bMod (eBlt intD (aCons (eVar 8) aNil)) (eC (.int 3))))) (sSeq (sSet 9 (eOp bAdd (eVar 9) (eC (.int 1)))) sNil)))
abbrev pS10 : SS := (sIf (eOr (eOp cNe (eVar 15) (eVar 9)) (eOr (eOp cNe (eBlt lenD (aCons (eVar 16) aNil)) (eBlt minD (aCons (eC (.int 2)) (aCons (eBlt lenD (aCons (eVar 7) aNil)) aNil)))) (eOp cNe (eBlt sumD (aCons (eVar 16) aNil)) (eBlt sumD (aCons (eVar 7) aNil))))) (sSeq (sRet (eC (.bl false))) sNil) sNil)
abbrev pS11 : SS := (sAsg (eCall 16 (aCons (eOp bIx (eVar 5) (eC (.int 0))) aNil)) (tTup 2 (tsCons (tName 17) (tsCons (tName 18) tsNil))))
abbrev pS12 : SS := (sIf (eOr (eOp cNe (eOp bAdd (eOp bMul (eVar 17) (eVar 17)) (eVar 18)) (eOp bIx (eVar 5) (eC (.int 0)))) (eOr (eOp cLt (eVar 18) (eC (.int 0))) (eOp cGt (eVar 18) (eOp bMul (eC (.int 2)) (eVar 17))))) (sSeq (sRet (eC (.bl false))) sNil) sNil)
abbrev pS13 : SS := (sSet 10 (eC (.int 0)))
abbrev pS14 : SS := (sFor true (iR1 (aCons (eVar 1) aNil)) (tName 6) (sSeq (sSet 10 (eOp bAdd (eOp bMul (eC (.int 2)) (eVar 10)) (eOp bIx (eVar 4) (eVar 6)))) sNil))
abbrev pS15 : SS := (sSet 11 (eComp (iR1 (aCons (eVar 1) aNil)) [6] (tName 6) (some (eOp cEq (eOp bIx (eVar 4) (eVar 6)) (eC (.int 1)))) (eVar 6)))
abbrev pS16 : SS := (sIf (eOr (eOp cNe (eCall 17 (aCons (eVar 1) (aCons (eVar 2) aNil))) (eVar 10)) (eOp cNe (eCall 18 (aCons (eVar 1) (aCons (eVar 2) aNil))) (eTup (aCons (eBlt lenD (aCons (eVar 11) aNil)) (aCons (eIf (eOp cGt (eBlt lenD (aCons (eVar 11) aNil)) (eC (.int 0))) (eOp bSub (eOp bSub (eVar 1) (eC (.int 1))) (eBlt maxD (aCons (eVar 11) aNil))) (eVar 1)) (aCons (eIf (eOp cGt (eBlt lenD (aCons (eVar 11) aNil)) (eC (.int 0))) (eBlt minD (aCons (eVar 11) aNil)) (eVar 1)) aNil)))))) (sSeq (sRet (eC (.bl false))) sNil) sNil)
abbrev pS17 : SS := (sRet (eCall 24 aNil))
theorem db_same (b x y : Int) (h2 : 0 ≤ x) (h3 : x < 2 ^ b.toNat) (h4 : 0 < y) : dbV b x y = .tup [.int (dvR x y b.toNat 0 0).2.1, .int (dvR x y b.toNat 0 0).1, .tup ((dbR x y b.toNat 0).2.map D.int)] := by
  have hx : x / 2 ^ b.toNat = 0 := Int.ediv_eq_zero_of_lt h2 h3
  obtain ⟨d1, d2, d3⟩ := dv_ok x y h4 b.toNat 0 0 (by omega) h4 (by rw [hx]; omega)
  obtain ⟨e1, e2, e3⟩ := db_ok x y h4 b.toNat 0 0 (by omega) h4 (by rw [hx]; omega)
  rw [← fromD_rev] at e1
  unfold dbV dbQ
  split
  · rename_i h
    have e4 : (fromD (dbR x y b.toNat 0).2.reverse - 1) * y + ((dbR x y b.toNat 0).1 + y) = (dvR x y b.toNat 0 0).2.1 * y + (dvR x y b.toNat 0 0).1 := by
      rw [d1, Int.sub_mul]; omega
    obtain ⟨q1, q2⟩ := div_uniq h4 e4 (by omega) (by omega) d2 d3
    rw [q1, q2]
  · rename_i h
    obtain ⟨q1, q2⟩ := div_uniq h4 (e1.trans d1.symm) (by omega) e3 d2 d3
    rw [q1, q2]
section
variable {C0 : C} {ρ : Ev.Env} {s : S}
theorem lt_f {i j : Int} {a b : ES} (ha : a C0 ρ s = .ok (.int i) s) (hb : b C0 ρ s = .ok (.int j) s) (h : ¬ i < j) : eOp cLt a b C0 ρ s = .ok (.bl false) s := by rw [op_ok ha hb, cLt_ok, decide_eq_false h]
theorem ge_f {i j : Int} {a b : ES} (ha : a C0 ρ s = .ok (.int i) s) (hb : b C0 ρ s = .ok (.int j) s) (h : ¬ i ≥ j) : eOp cGe a b C0 ρ s = .ok (.bl false) s := by rw [op_ok ha hb, cGe_ok, decide_eq_false h]
theorem gt_f {i j : Int} {a b : ES} (ha : a C0 ρ s = .ok (.int i) s) (hb : b C0 ρ s = .ok (.int j) s) (h : ¬ i > j) : eOp cGt a b C0 ρ s = .ok (.bl false) s := by rw [op_ok ha hb, cGt_ok, decide_eq_false h]
theorem ne_f {i j : Int} {a b : ES} (ha : a C0 ρ s = .ok (.int i) s) (hb : b C0 ρ s = .ok (.int j) s) (h : i = j) : eOp cNe a b C0 ρ s = .ok (.bl false) s := by rw [op_ok ha hb, cNe_int, decide_eq_true h]; rfl
theorem neD_f {d : D} {a b : ES} (ha : a C0 ρ s = .ok d s) (hb : b C0 ρ s = .ok d s) (h : d.shp 40 = true) : eOp cNe a b C0 ρ s = .ok (.bl false) s := by rw [op_ok ha hb, cNe_self h]
theorem notin_pm {z : Int} (h : z = 1 ∨ z = -1) {a : ES} (ha : a C0 ρ s = .ok (.int z) s) : eOp cNotIn a (eTup (aCons (eC (.int 1)) (aCons (eUn uNeg (eC (.int 1))) aNil))) C0 ρ s = .ok (.bl false) s := by
  rw [op_ok (x := .int z) (y := .tup [.int 1, .int (-1)]) (s1 := s) (s2 := s) ha rfl]
  rcases h with rfl | rfl <;> rfl
theorem cnt_pm {j : Nat} {l : List Int} {i : Nat} (hl : l.length ≤ 1000) (h : ∀ z ∈ l, z = 1 ∨ z = -1) (hi : gv ρ i = .tup (l.map D.int)) (hv : ∀ d : D, gv (sv (wipeD ρ [j]) j d) j = d) :
    eBlt lenD (aCons (eComp (iSeq (eVar i)) [j] (tName j) (some (eOp cNotIn (eVar j) (eTup (aCons (eC (.int 1)) (aCons (eUn uNeg (eC (.int 1))) aNil))))) (eVar j)) aNil) C0 ρ s = .ok (.int 0) s := by
  refine blt_top (x := .ref s.length) (t := [.lst []]) (comp_ok (g := none) (ds := l.map D.int) ?_ (by rw [List.length_map]; exact Nat.le_of_lt (lim_of (by omega))) (L := []) ?_ rfl) ?_ rfl (fun _ => by simp)
  · unfold iSeq
    rw [var_ok hi (by simp)]
    rfl
  · have q := compL_filter (g := none) (i := j) (tq := eOp cNotIn (eVar j) (eTup (aCons (eC (.int 1)) (aCons (eUn uNeg (eC (.int 1))) aNil)))) (te := eVar j) (c := ⟨C0.call, s.length :: s.length :: C0.B⟩) (ρ := wipeD ρ [j]) (s := s) (f := fun d => d) (p := fun _ => false) rfl (l.map D.int) ?_ (fun _ _ h => by cases h)
    · rw [List.filter_eq_nil_iff.mpr (fun _ _ h => by cases h), List.map_nil] at q
      exact q
    · intro d hd
      obtain ⟨z, hz, rfl⟩ := List.mem_map.mp hd
      exact notin_pm (h z hz) (var_ok (hv _) (by simp))
  · rw [lenD_lst top_lst]; rfl
end
theorem ev_pA {m : Nat} {B : List Nat} {s : S} {n u : Nat} {b x y : Int} {a5 a6 a7 a8 a9 a10 a11 a12 a13 a14 a15 a16 a17 a18 a19 a20 a21 a22 : D} (h0 : 1 ≤ b) (h1 : b ≤ 32) (h2 : 0 ≤ x) (h3 : x < 2 ^ b.toNat) (h4 : 0 ≤ y) (h5 : y < 2 ^ b.toNat) (hu : lstOf s u = some ((dueL b x).map D.int)) :
    ∃ y6 y7 y12 y14 y16 y18 y19 y20, pS0 ⟨callN tab (m + 3), B⟩ [.ref n, .int b, .int x, .int y, .ref u, a5, a6, a7, a8, a9, a10, a11, a12, a13, a14, a15, a16, a17, a18, a19, a20, a21, a22] s = .nx [.ref n, .int b, .int x, .int y, .ref u, a5, y6, y7, a8, a9, a10, a11, y12, a13, y14, a15, y16, a17, y18, y19, y20, a21, a22] s := by
  have hgt : eOp cGt (eVar 3) (eC (.int 0)) ⟨callN tab (m + 3), B⟩ [.ref n, .int b, .int x, .int y, .ref u, a5, a6, a7, a8, a9, a10, a11, a12, a13, a14, a15, a16, a17, a18, a19, a20, a21, a22] s = .ok (.bl (decide (y > 0))) s := rfl
  by_cases hy : y > 0
  · obtain ⟨q, hq⟩ : ∃ q, q = (dvR x y b.toNat 0 0).2.1 := ⟨_, rfl⟩
    obtain ⟨r, hr⟩ : ∃ r, r = (dvR x y b.toNat 0 0).1 := ⟨_, rfl⟩
    obtain ⟨rows, hrows⟩ : ∃ rows, rows = (dvR x y b.toNat 0 0).2.2 := ⟨_, rfl⟩
    obtain ⟨ds, hds⟩ : ∃ ds, ds = (dbR x y b.toNat 0).2 := ⟨_, rfl⟩
    have hx : x / 2 ^ b.toNat = 0 := Int.ediv_eq_zero_of_lt h2 h3
    obtain ⟨d1, d2, d3⟩ := dv_ok x y hy b.toNat 0 0 (by omega) hy (by rw [hx]; omega)
    rw [← hq, ← hr] at d1
    rw [← hr] at d2 d3
    have hdl : ds.length = b.toNat := by rw [hds]; exact dbR_len x y _ _
    obtain ⟨L1, z6, eL1⟩ := loop_A1 (rows := rows) (C0 := C.psh true s.length ⟨callN tab (m + 3), B⟩) (a0 := .ref n) (a5 := a5) (a8 := a8) (a9 := a9) (a10 := a10) (a11 := a11) (a13 := a13) (a14 := a14) (a15 := a15) (a16 := a16) (a17 := a17) (a18 := .int r) (a19 := .int q) (a20 := a20) (a21 := a21) (a22 := a22) (y := y) (by omega) hu b.toNat 0 0 0 a6 (by omega) (by rw [List.drop_zero]; exact hrows)
    obtain ⟨L2, w6, eL2⟩ := loop_A2 (rows := ds) (C0 := C.psh true s.length ⟨callN tab (m + 3), B⟩) (a0 := .ref n) (a5 := a5) (a8 := a8) (a9 := a9) (a10 := a10) (a11 := a11) (a13 := a13) (a15 := a15) (a17 := a17) (a21 := a21) (a22 := a22) (a7 := .tup (rows.map D.int)) (a14 := .int q) (a16 := .int r) (a18 := .int r) (a19 := .int q) (y := y) (by omega) hu b.toNat 0 0 z6 (by omega) (by rw [List.drop_zero]; exact hds)
    refine ⟨w6, .tup (rows.map D.int), .int L2, .int q, .int r, .int r, .int q, .tup (ds.map D.int), ?_⟩
    refine (if_t (hgt.trans (by rw [decide_eq_true hy])) rfl).trans ?_
    refine seq_go (ρ1 := [.ref n, .int b, .int x, .int y, .ref u, a5, a6, .tup (rows.map D.int), a8, a9, a10, a11, a12, a13, a14, a15, a16, a17, .int r, .int q, a20, a21, a22]) (s1 := s) ?_ (seq_go (ρ1 := [.ref n, .int b, .int x, .int y, .ref u, a5, a6, .tup (rows.map D.int), a8, a9, a10, a11, .int 0, a13, a14, a15, a16, a17, .int r, .int q, a20, a21, a22]) (s1 := s) (set_ok rfl) (seq_go (ρ1 := [.ref n, .int b, .int x, .int y, .ref u, a5, z6, .tup (rows.map D.int), a8, a9, a10, a11, .int L1, a13, a14, a15, a16, a17, .int r, .int q, a20, a21, a22]) (s1 := s) (for_nx (g := none) (ds := rngI 0 b.toNat) (r1_rng h0 (by omega) rfl) (by rw [rngI0]; exact eL1) te_same) (seq_go (ρ1 := [.ref n, .int b, .int x, .int y, .ref u, a5, z6, .tup (rows.map D.int), a8, a9, a10, a11, .int L1, a13, .int q, a15, .int r, a17, .int r, .int q, .tup (ds.map D.int), a21, a22]) (s1 := s) ?_ (seq_go (ρ1 := [.ref n, .int b, .int x, .int y, .ref u, a5, z6, .tup (rows.map D.int), a8, a9, a10, a11, .int L1, a13, .int q, a15, .int r, a17, .int r, .int q, .tup (ds.map D.int), a21, a22]) (s1 := s) (guard_nx ?_) (seq_go (ρ1 := [.ref n, .int b, .int x, .int y, .ref u, a5, z6, .tup (rows.map D.int), a8, a9, a10, a11, .int 0, a13, .int q, a15, .int r, a17, .int r, .int q, .tup (ds.map D.int), a21, a22]) (s1 := s) (set_ok rfl) (seq_go (ρ1 := [.ref n, .int b, .int x, .int y, .ref u, a5, w6, .tup (rows.map D.int), a8, a9, a10, a11, .int L2, a13, .int q, a15, .int r, a17, .int r, .int q, .tup (ds.map D.int), a21, a22]) (s1 := s) (for_nx (g := none) (ds := rngI 0 b.toNat) (r1_rng h0 (by omega) rfl) (by rw [rngI0]; exact eL2) te_same) rfl))))))
    · rw [asg_ok (d := .tup [.int q, .int r, .tup (rows.map D.int)]) (s1 := s)]
      · rfl
      · rw [call_ok (cons_ok (x := .int b) rfl (cons_ok (x := .int x) rfl (cons_ok (x := .int y) rfl nil_ok)))]
        dsimp only
        rw [ev_divided b x y h0 h1 h2 h3 hy h5, hq, hr, hrows]
    · rw [asg_ok (d := .tup [.int q, .int r, .tup (ds.map D.int)]) (s1 := s)]
      · rfl
      · rw [call_ok (cons_ok (x := .int b) rfl (cons_ok (x := .int x) rfl (cons_ok (x := .int y) rfl nil_ok)))]
        dsimp only
        rw [ev_divided_both b x y h0 h1 h2 h3 hy h5, db_same b x y h2 h3 hy, hq, hr, hds]
    · have hyb : y < 2 ^ 64 := Int.lt_of_lt_of_le h5 (Int.le_trans (pow_le_32 (by omega) h1) (by decide))
      rw [or_f (ne_f (i := q * y + r) (j := x) ?_ rfl d1), or_f (lt_f (i := r) (j := 0) rfl rfl (by omega)), or_f (ge_f (i := r) (j := y) rfl rfl (by omega)), or_f (neD_f (d := .tup [.int q, .int r]) rfl rfl rfl), or_f (ne_f (i := ds.length) (j := b) (by rw [len_blt (ds := ds.map D.int) (fun _ => rfl), List.length_map]) rfl (by omega))]
      · refine gt_f (i := 0) (j := 0) (cnt_pm (l := ds) (by omega) ?_ rfl (fun _ => rfl)) rfl (by omega)
        rw [hds]
        exact dbR_dig x y _ _
      · rw [op_ok (x := .int (q * y)) (y := .int r) (s1 := s) (s2 := s) ?_ rfl, add_ok]
        rw [op_ok (x := .int q) (y := .int y) (s1 := s) (s2 := s) rfl rfl]
        exact mul_ok (mulOk_r (Int.lt_trans (by decide) hy) hyb)
  · exact ⟨a6, a7, a12, a14, a16, a18, a19, a20, guard_nx (hgt.trans (by rw [decide_eq_false hy]))⟩
end KL

set_option maxRecDepth 100000
namespace KL
open PySem Ev
local macro_rules | `(tactic| walk_at "st") => `(tactic| dsimp only [start0, List.length_cons, List.length_nil, List.replicate, List.cons_append, List.nil_append, Nat.reduceSub, Nat.reduceAdd])
local macro_rules | `(tactic| walk_at "ev") => `(tactic| simp (disch := omega) only [sSeq, sSet, sExpr, sRet, sRetN, sIf, sBrk, sCnt, sRaise, sNil, sAsg, sAug, sPar2, sFor, tName, tTup, tsCons, tsNil, tSub, eVar, eC, eOp, eUn, aNil, aCons, eTup, eLst, eCall, eBlt, gcF, gcE, eNot, eAnd, eOr, eIf, eChain, eTold, eMt, eSl, withPart, iR1, iR2, iR3, iSeq, Ev.iEnum, Res.bnd, Res.bndS, Res.bndA, Res.bndI, Rss.bnd, Rss.bndA, Rss.bndS, Rss.bndI, Itm.bnd, Itm.bndS, Out.bnd, Res.tst, Res.tstS, Res.tstA, gv, sv, tru, al, toRes, C.psh, endG, gOk, bAdd, bSub, uNeg, cLt, cLe, cGt, cGe, iAdd, lenD, intD, absD, if_true, if_false, Bool.false_eq_true, ite_true, ite_false, decide_true, decide_false, Bool.not_true, Bool.not_false, Bool.and_true, Bool.and_false, Bool.true_and, Bool.false_and, Int.zero_sub, and_true, true_and, and_false, false_and, not_true_eq_false, not_false_eq_true, finF_same, fin_same', cEq_int, cNe_int, decide_eq_true_eq, Bool.not_eq_true', decide_eq_false_iff_not, ite_not])
local macro_rules | `(tactic| walk_at "ew") => `(tactic| repeat (first | walk_at "ev" | (simp (disch := omega) only [ev_power_of, ev_check, ev_check_code, ev_meaning, ev_code_of, ev_widened, div_pow, mod_pow])))
/-! lists made from the hand -/
theorem hd_same {ns : List Int} {s : S} {n : Nat} (h : Hd ns s n) : ∃ es, s.set n (.lst es) = s := by
  obtain ⟨m, i, c, z, h⟩ := h
  refine ⟨hnd m i c z, List.ext_getElem? fun j => ?_⟩
  have hl := lstOf_lt h.at_
  by_cases hj : j = n
  · subst hj
    rw [lst_get h.at_]
    simp [hl]
  · rw [List.getElem?_set_ne (Ne.symm hj)]
theorem comp_hd {ns : List Int} {n i : Nat} {te : ES} {k : Nat → List Nat → List D → S → Res} {B : List Nat} {ρ : Ev.Env} (P : Int → Prop) (hte : ∀ d B s', Hd ns s' n → ∃ v es, te ⟨k, B⟩ (sv ρ i d) s' = .ok (.int v) (s'.set n (.lst es)) ∧ P v ∧ Hd ns (s'.set n (.lst es)) n) :
    ∀ (l : List D) (s' : S), Hd ns s' n → ∃ (vs : List Int) (es : List D), compL none (tName i) none te ⟨k, B⟩ ρ l s' = .ok (vs.map D.int) (s'.set n (.lst es)) ∧ vs.length = l.length ∧ (∀ v ∈ vs, P v) ∧ Hd ns (s'.set n (.lst es)) n
  | [], s', h => by
    obtain ⟨es, e⟩ := hd_same h
    exact ⟨[], es, by rw [e]; rfl, rfl, (fun _ h => by cases h), by rw [e]; exact h⟩
  | d :: r, s', h => by
    obtain ⟨v, es, e, hP, h1⟩ := hte d (s'.length :: B) s' h
    obtain ⟨vs, es2, e2, hl, hPs, h2⟩ := comp_hd P hte r (s'.set n (.lst es)) h1
    rw [set_set'] at e2 h2
    refine ⟨v :: vs, es2, ?_, by simp [hl], fun z hz => ?_, h2⟩
    · have hf : finA s'.length (.ok [.int v] (s'.set n (.lst es))) = .ok [.int v] (s'.set n (.lst es)) := by simp [finA]
      rw [compL]
      show (match finA s'.length ((te ⟨k, s'.length :: B⟩ (sv ρ i d) s').bndA fun x s => .ok [x] s) with
        | .ok xs s4 => if gOk none s4 then (compL none (tName i) none te ⟨k, B⟩ ρ r s4).bndA fun ys s => .ok (xs ++ ys) s else .fail
        | _ => .fail) = _
      rw [e]
      show (match finA s'.length (.ok [.int v] (s'.set n (.lst es))) with
        | .ok xs s4 => if gOk none s4 then (compL none (tName i) none te ⟨k, B⟩ ρ r s4).bndA fun ys s => .ok (xs ++ ys) s else .fail
        | _ => .fail) = _
      rw [hf]
      show (compL none (tName i) none te ⟨k, B⟩ ρ r (s'.set n (.lst es))).bndA (fun ys s => .ok ([.int v] ++ ys) s) = _
      rw [e2]
      rfl
    · rcases List.mem_cons.mp hz with hz | hz
      · rw [hz]; exact hP
      · exact hPs z hz
theorem comp_ok2 {it : IS} {own : List Nat} {t : TS} {ts : Option ES} {te : ES} {c : C} {ρ : Ev.Env} {s s1 s2 : S} {ds L : List D} {g : Option (Nat × List D)} (hi : it ⟨c.call, s.length :: c.B⟩ ρ s = .ok ds g s1) (hl : ds.length ≤ lim) (hc : compL g t ts te ⟨c.call, s.length :: c.B⟩ (wipeD ρ own) ds s1 = .ok L s2) (hs : s2.length = s.length) (hy : D.ygs s.length L = false) :
    eComp it own t ts te c ρ s = .ok (.ref s.length) (s2 ++ [.lst L]) := by
  show finF s.length ((it ⟨c.call, s.length :: c.B⟩ ρ s).bnd fun ds g s1 => if ds.length ≤ lim then (compL g t ts te ⟨c.call, s.length :: c.B⟩ (wipeD ρ own) ds s1).bnd fun xs s2 => al (.lst xs) s2 else .fail) = _
  rw [hi]
  show finF s.length (if ds.length ≤ lim then (compL g t ts te ⟨c.call, s.length :: c.B⟩ (wipeD ρ own) ds s1).bnd fun xs s2 => al (.lst xs) s2 else .fail) = _
  rw [if_pos hl, hc]
  show finF s.length (.ok (.ref s2.length) (s2 ++ [.lst L])) = _
  rw [← hs] at hy ⊢
  have e1 : ¬ (s2 ++ [O.lst L]).length = s2.length := by simp
  show (if (s2 ++ [O.lst L]).length = s2.length then _ else if s2.length < s2.length then _ else _) = _
  rw [if_neg e1, if_neg (Nat.lt_irrefl _), top_get]
  show (if D.ygs s2.length L = true then _ else _) = _
  rw [hy, if_neg Bool.false_ne_true, List.take_left']
  rfl
theorem tup_comp {e : ES} {c : C} {ρ : Ev.Env} {s s2 : S} {l : List Int} (he : e ⟨c.call, s.length :: c.B⟩ ρ s = .ok (.ref s.length) (s2 ++ [.lst (l.map D.int)])) (hs : s2.length = s.length) : eBlt tupD (aCons e aNil) c ρ s = .ok (.tup (l.map D.int)) s2 := by
  show finF s.length ((aCons e aNil ⟨c.call, s.length :: c.B⟩ ρ s).bnd fun xs s => tupD xs s) = _
  rw [cons_ok he nil_ok]
  show finF s.length (tupD [.ref s.length] (s2 ++ [.lst (l.map D.int)])) = _
  rw [← hs, tupD_lst top_lst]
  exact finF_pln yg_tupI (fun _ => by simp)
theorem take_call {ns : List Int} {k : Nat} {B : List Nat} {ρ : Ev.Env} {s : S} {n : Nat} {e : ES} {many : Int} (hh : Hd ns s n) (hv : gv ρ 0 = .ref n) (he : e ⟨callN tab (k + 1), B⟩ ρ s = .ok (.int many) s) (h0 : 0 < many) (h1 : many < 2 ^ 62) :
    ∃ v es, eCall 20 (aCons (eVar 0) (aCons e aNil)) ⟨callN tab (k + 1), B⟩ ρ s = .ok (.int v) (s.set n (.lst es)) ∧ 0 ≤ v ∧ v < many ∧ Hd ns (s.set n (.lst es)) n := by
  obtain ⟨v, es, e1, e2, e3, e4⟩ := ev_law_take (k := k) (B := B) many hh h0 h1
  refine ⟨v, es, ?_, e2, e3, e4⟩
  rw [call_ok (cons_ok (x := .ref n) (var_ok hv (by simp)) (cons_ok he nil_ok))]
  exact e1
theorem sum_blt {e : ES} {c : C} {ρ : Ev.Env} {s : S} {l : List Int} (he : ∀ B, e ⟨c.call, B⟩ ρ s = .ok (.tup (l.map D.int)) s) : eBlt sumD (aCons e aNil) c ρ s = .ok (.int l.sum) s := blt_args (cons_ok (he _) nil_ok) (sumD_ints rfl)
theorem blen {e : ES} {c : C} {ρ : Ev.Env} {s : S} {l : List Int} (he : ∀ B, e ⟨c.call, B⟩ ρ s = .ok (.tup (l.map D.int)) s) : eBlt lenD (aCons e aNil) c ρ s = .ok (.int l.length) s := by
  rw [len_blt he, List.length_map]
theorem ev_numbers {ns : List Int} {k : Nat} {B : List Nat} {s : S} {n : Nat} {ρ : Ev.Env} (hh : Hd ns s n) (hv : ∀ d, gv (sv (wipeD ρ [6]) 6 d) 0 = .ref n) :
    ∃ a b c es, (eBlt tupD (aCons (eComp (iR1 (aCons (eC (.int 3)) aNil)) [6] (tName 6) none (eOp bAdd (eOp bMul (eCall 20 (aCons (eVar 0) (aCons (eC (.int 900)) aNil))) (eOp bPow (eC (.int 10)) (eC (.int 12)))) (eCall 20 (aCons (eVar 0) (aCons (eC (.int 900)) aNil))))) aNil)) ⟨callN tab (k + 1), B⟩ ρ s = .ok (.tup [.int a, .int b, .int c]) (s.set n (.lst es)) ∧ (0 ≤ a ∧ a < 4 ^ 40) ∧ (0 ≤ b ∧ b < 4 ^ 40) ∧ (0 ≤ c ∧ c < 4 ^ 40) ∧ Hd ns (s.set n (.lst es)) n := by
  obtain ⟨vs, es, e, hl, hP, h2⟩ := comp_hd (ns := ns) (n := n) (i := 6) (te := eOp bAdd (eOp bMul (eCall 20 (aCons (eVar 0) (aCons (eC (.int 900)) aNil))) (eOp bPow (eC (.int 10)) (eC (.int 12)))) (eCall 20 (aCons (eVar 0) (aCons (eC (.int 900)) aNil)))) (k := callN tab (k + 1)) (B := s.length :: s.length :: B) (ρ := wipeD ρ [6]) (fun v => 0 ≤ v ∧ v < 4 ^ 40) (fun d B' s' h => by
    obtain ⟨v1, es1, t1, t2, t3, t4⟩ := take_call (k := k) (B := B') (ρ := sv (wipeD ρ [6]) 6 d) (e := eC (.int 900)) (many := 900) h (hv d) rfl (by decide) (by decide)
    obtain ⟨v2, es2, u1, u2, u3, u4⟩ := take_call (k := k) (B := B') (ρ := sv (wipeD ρ [6]) 6 d) (e := eC (.int 900)) (many := 900) t4 (hv d) rfl (by decide) (by decide)
    rw [set_set'] at u1 u4
    refine ⟨v1 * 10 ^ 12 + v2, es2, ?_, ⟨by omega, ?_⟩, u4⟩
    · rw [op_ok (x := .int (v1 * 10 ^ 12)) (y := .int v2) (s1 := s'.set n (.lst es1)) (s2 := s'.set n (.lst es2)) ?_ u1, add_ok]
      rw [op_ok (x := .int v1) (y := .int (10 ^ 12)) (s1 := s'.set n (.lst es1)) (s2 := s'.set n (.lst es1)) t1 ?_]
      · exact mul_ok (mulOk_r (by decide) (by decide))
      · rw [op_ok (x := .int 10) (y := .int 12) (s1 := s'.set n (.lst es1)) (s2 := s'.set n (.lst es1)) rfl rfl]
        show (if powOk 10 12 = true then Res.ok (.int (10 ^ (12 : Int).toNat)) (s'.set n (.lst es1)) else .fail) = _
        rw [if_pos (by decide)]
        rfl
    · exact Int.lt_of_lt_of_le (by omega : v1 * 10 ^ 12 + v2 < 900000000000000) (by decide)) [.int 0, .int 1, .int 2] s hh
  obtain ⟨a, b, c, rfl⟩ : ∃ a b c, vs = [a, b, c] := by
    match vs, hl with
    | [a, b, c], _ => exact ⟨a, b, c, rfl⟩
  refine ⟨a, b, c, es, ?_, hP a (by simp), hP b (by simp), hP c (by simp), h2⟩
  refine tup_comp (l := [a, b, c]) (comp_ok2 (g := none) (s1 := s) (ds := [.int 0, .int 1, .int 2]) rfl (Nat.le_of_lt (lim_of (by simp))) e (by simp) ygs_map_int) (by simp)
/-- a bit by the law's own words -/
theorem lbit {m : Nat} {B : List Nat} {ρ : Ev.Env} {s : S} {v : Int} {k : Nat} {e1 e2 : ES} (hk : k ≤ 60) (h1 : ∀ B, e1 ⟨callN tab (m + 1), B⟩ ρ s = .ok (.int v) s) (h2 : ∀ B, e2 ⟨callN tab (m + 1), B⟩ ρ s = .ok (.int ((k : Nat) : Int)) s) :
    eOp bMod (eBlt intD (aCons (eOp bDiv e1 (eCall 21 (aCons e2 aNil))) aNil)) (eC (.int 2)) ⟨callN tab (m + 1), B⟩ ρ s = .ok (.int (bitI v k)) s := by
  rw [op_ok (x := .int (v / 2 ^ k)) (y := .int 2) (s1 := s) (s2 := s) (int_blt fun B' => ?_) rfl, mod2]
  · rfl
  · have hp : (2 : Int) ^ k < big := by
      have h3 : (2 : Int) ^ k ≤ 2 ^ 60 := pow_mono' hk
      exact big_of (Int.lt_of_le_of_lt h3 (by decide))
    rw [op_ok (x := .int v) (y := .int (2 ^ k)) (s1 := s) (s2 := s) (h1 B') ?_, div_ok (pow_pos' k) hp]
    rw [call_ok (cons_ok (h2 B') nil_ok)]
    dsimp only
    rw [ev_law_raise (k : Int) (by omega) (by omega), Int.toNat_natCast]
def bitD (k : Nat) : D → D
  | .int z => .int (bitI z k)
  | d => d
theorem comp_bits {m : Nat} {B : List Nat} {ρ : Ev.Env} {s : S} {l : List Int} {k i : Nat} (hk : k ≤ 60) (hl : l.length ≤ 1000) (h5 : gv ρ 5 = .tup (l.map D.int)) (h6 : ∀ d, gv (sv (wipeD ρ [21]) 21 d) 6 = .int (0 + (k : Int))) (hv : ∀ d, gv (sv (wipeD ρ [21]) 21 d) 21 = d) :
    eBlt sumD (aCons (eComp (iSeq (eVar 5)) [21] (tName 21) none (eOp bMod (eBlt intD (aCons (eOp bDiv (eVar 21) (eCall 21 (aCons (eVar 6) aNil))) aNil)) (eC (.int 2)))) aNil) ⟨callN tab (m + 1), B⟩ ρ s = .ok (.int (l.map fun z => bitI z k).sum) s := by
  refine blt_top (x := .ref s.length) (t := [.lst ((l.map fun z => bitI z k).map D.int)]) (comp_ok (g := none) (ds := l.map D.int) ?_ (by rw [List.length_map]; exact Nat.le_of_lt (lim_of (by omega))) ?_ ygs_map_int) (sumD_ints seqOf_top) rfl (fun _ => by simp)
  · unfold iSeq
    rw [var_ok h5 (by simp)]
    rfl
  · have e : (l.map fun z => bitI z k).map D.int = (l.map D.int).map (bitD k) := by rw [List.map_map, List.map_map]; rfl
    rw [e]
    refine compL_map rfl _ ?_
    intro d hd
    obtain ⟨z, _, rfl⟩ := List.mem_map.mp hd
    refine lbit hk (fun _ => var_ok (hv _) (by simp)) (fun _ => ?_)
    have := h6 (.int z)
    rw [Int.zero_add] at this
    exact var_ok this (by simp)
theorem loop_45 {m : Nat} {B : List Nat} {s : S} {n u : Nat} {b x y p q r : Int} {a7 a8 a9 a10 a12 a15 a16 a17 a18 a19 a20 a21 a22 : D} (hp : 0 ≤ p) (hq : 0 ≤ q) (hr : 0 ≤ r) : ∀ (c j : Nat) (a6 a11 : D), j + c ≤ 45 →
    ∃ y6 y11, forL true none (tName 6) (sSeq (sSet 11 (eBlt sumD (aCons (eComp (iSeq (eVar 5)) [21] (tName 21) none (eOp bMod (eBlt intD (aCons (eOp bDiv (eVar 21) (eCall 21 (aCons (eVar 6) aNil))) aNil)) (eC (.int 2)))) aNil))) (sSeq (sIf (eOr (eOp cNe (eOp bMod (eBlt intD (aCons (eOp bDiv (eVar 13) (eCall 21 (aCons (eVar 6) aNil))) aNil)) (eC (.int 2))) (eOp bMod (eBlt intD (aCons (eVar 11) aNil)) (eC (.int 2)))) (eOp cNe (eOp bMod (eBlt intD (aCons (eOp bDiv (eVar 14) (eCall 21 (aCons (eOp bAdd (eVar 6) (eC (.int 1))) aNil))) aNil)) (eC (.int 2))) (eBlt intD (aCons (eOp cGt (eVar 11) (eC (.int 1))) aNil)))) (sSeq (sRet (eC (.bl false))) sNil) sNil) sNil)) ⟨callN tab (m + 1), B⟩ ((List.range' j c).map fun i => D.int (0 + (i : Nat)))
      [.ref n, .int b, .int x, .int y, .ref u, .tup ([p, q, r].map D.int), a6, a7, a8, a9, a10, a11, a12, .int (xo3 p q r), .int (2 * maj p q r), a15, a16, a17, a18, a19, a20, a21, a22] s = .nx [.ref n, .int b, .int x, .int y, .ref u, .tup ([p, q, r].map D.int), y6, a7, a8, a9, a10, y11, a12, .int (xo3 p q r), .int (2 * maj p q r), a15, a16, a17, a18, a19, a20, a21, a22] s
  | 0, j, a6, a11, _ => ⟨a6, a11, rfl⟩
  | c + 1, j, a6, a11, hj => by
    obtain ⟨w, hw⟩ : ∃ w, w = ([p, q, r].map fun z => bitI z j).sum := ⟨_, rfl⟩
    have hw2 : w = bitI p j + bitI q j + bitI r j := by rw [hw]; simp; omega
    obtain ⟨y6, y11, e⟩ := loop_45 (m := m) (B := B) (n := n) (u := u) (b := b) (x := x) (y := y) (a7 := a7) (a8 := a8) (a9 := a9) (a10 := a10) (a12 := a12) (a15 := a15) (a16 := a16) (a17 := a17) (a18 := a18) (a19 := a19) (a20 := a20) (a21 := a21) (a22 := a22) hp hq hr c (j + 1) (.int (0 + (j : Nat))) (.int w) (by omega)
    refine ⟨y6, y11, ?_⟩
    rw [List.range'_succ, List.map_cons, forL_cons (ρ2 := [.ref n, .int b, .int x, .int y, .ref u, .tup ([p, q, r].map D.int), .int (0 + (j : Nat)), a7, a8, a9, a10, .int w, a12, .int (xo3 p q r), .int (2 * maj p q r), a15, a16, a17, a18, a19, a20, a21, a22]) (s2 := s) (turn_name ?_ rfl) rfl, e]
    refine seq_go (ρ1 := [.ref n, .int b, .int x, .int y, .ref u, .tup ([p, q, r].map D.int), .int (0 + (j : Nat)), a7, a8, a9, a10, .int w, a12, .int (xo3 p q r), .int (2 * maj p q r), a15, a16, a17, a18, a19, a20, a21, a22]) (s1 := s) (set_ok (d := .int w) ?_) (seq_go (guard_nx (s1 := s) ?_) rfl)
    · rw [hw]
      exact comp_bits (l := [p, q, r]) (k := j) (i := 0) (by omega) (by simp) rfl (fun _ => rfl) (fun _ => rfl)
    · have hint : ∀ {C1 : C}, eOp bMod (eBlt intD (aCons (eVar 11) aNil)) (eC (.int 2)) C1 [.ref n, .int b, .int x, .int y, .ref u, .tup ([p, q, r].map D.int), .int (0 + (j : Nat)), a7, a8, a9, a10, .int w, a12, .int (xo3 p q r), .int (2 * maj p q r), a15, a16, a17, a18, a19, a20, a21, a22] s = .ok (.int (w % 2)) s := fun {C1} => by
        rw [op_ok (x := .int w) (y := .int 2) (s1 := s) (s2 := s) (int_blt fun _ => rfl) rfl, mod2]
      have hgt : ∀ {C1 : C}, eBlt intD (aCons (eOp cGt (eVar 11) (eC (.int 1))) aNil) C1 [.ref n, .int b, .int x, .int y, .ref u, .tup ([p, q, r].map D.int), .int (0 + (j : Nat)), a7, a8, a9, a10, .int w, a12, .int (xo3 p q r), .int (2 * maj p q r), a15, a16, a17, a18, a19, a20, a21, a22] s = .ok (.int (if w > 1 then 1 else 0)) s := fun {C1} => by
        refine blt_args (cons_ok (x := .bl (decide (w > 1))) rfl nil_ok) ?_
        exact int_ite'
      refine (or_f (ne_f (i := bitI (xo3 p q r) j) (j := w % 2) (lbit (by omega) (fun _ => rfl) (fun _ => by show Res.ok (.int (0 + (j : Int))) s = _; rw [Int.zero_add])) hint (by rw [saved_x hp hq hr, hw2]))).trans ?_
      refine ne_f (i := bitI (2 * maj p q r) (j + 1)) (lbit (by omega) (fun _ => rfl) (fun _ => ?_)) hgt (by rw [saved_m hp hq hr, hw2])
      show Res.ok (.int (0 + (j : Int) + 1)) s = _
      rw [Int.zero_add]
      rfl
end KL

set_option maxRecDepth 100000
namespace KL
open PySem Ev
local macro_rules | `(tactic| walk_at "st") => `(tactic| dsimp only [start0, List.length_cons, List.length_nil, List.replicate, List.cons_append, List.nil_append, Nat.reduceSub, Nat.reduceAdd])
local macro_rules | `(tactic| walk_at "ev") => `(tactic| simp (disch := omega) only [sSeq, sSet, sExpr, sRet, sRetN, sIf, sBrk, sCnt, sRaise, sNil, sAsg, sAug, sPar2, sFor, tName, tTup, tsCons, tsNil, tSub, eVar, eC, eOp, eUn, aNil, aCons, eTup, eLst, eCall, eBlt, gcF, gcE, eNot, eAnd, eOr, eIf, eChain, eTold, eMt, eSl, withPart, iR1, iR2, iR3, iSeq, Ev.iEnum, Res.bnd, Res.bndS, Res.bndA, Res.bndI, Rss.bnd, Rss.bndA, Rss.bndS, Rss.bndI, Itm.bnd, Itm.bndS, Out.bnd, Res.tst, Res.tstS, Res.tstA, gv, sv, tru, al, toRes, C.psh, endG, gOk, bAdd, bSub, uNeg, cLt, cLe, cGt, cGe, iAdd, lenD, intD, absD, if_true, if_false, Bool.false_eq_true, ite_true, ite_false, decide_true, decide_false, Bool.not_true, Bool.not_false, Bool.and_true, Bool.and_false, Bool.true_and, Bool.false_and, Int.zero_sub, and_true, true_and, and_false, false_and, not_true_eq_false, not_false_eq_true, finF_same, fin_same', cEq_int, cNe_int, decide_eq_true_eq, Bool.not_eq_true', decide_eq_false_iff_not, ite_not])
local macro_rules | `(tactic| walk_at "ew") => `(tactic| repeat (first | walk_at "ev" | (simp (disch := omega) only [ev_power_of, ev_check, ev_check_code, ev_meaning, ev_code_of, ev_widened, div_pow, mod_pow])))
theorem ev_rows {ns : List Int} {k : Nat} {B : List Nat} {s : S} {n : Nat} {ρ : Ev.Env} (hh : Hd ns s n) (hv0 : gv ρ 0 = .ref n) (hv : ∀ d, gv (sv (wipeD ρ [6]) 6 d) 0 = .ref n) :
    ∃ (l : List Int) (es : List D), (eBlt tupD (aCons (eComp (iR1 (aCons (eCall 20 (aCons (eVar 0) (aCons (eC (.int 9)) aNil))) aNil)) [6] (tName 6) none (eCall 20 (aCons (eVar 0) (aCons (eC (.int 900)) aNil)))) aNil)) ⟨callN tab (k + 1), B⟩ ρ s = .ok (.tup (l.map D.int)) (s.set n (.lst es)) ∧ l.length ≤ 9 ∧ (∀ z ∈ l, 0 ≤ z) ∧ Hd ns (s.set n (.lst es)) n := by
  obtain ⟨v, es1, t1, t2, t3, t4⟩ := take_call (k := k) (B := s.length :: s.length :: B) (ρ := ρ) (e := eC (.int 9)) (many := 9) hh hv0 rfl (by decide) (by decide)
  obtain ⟨vs, es, e, hl, hP, h2⟩ := comp_hd (ns := ns) (n := n) (i := 6) (te := eCall 20 (aCons (eVar 0) (aCons (eC (.int 900)) aNil))) (k := callN tab (k + 1)) (B := s.length :: s.length :: B) (ρ := wipeD ρ [6]) (fun v => 0 ≤ v) (fun d B' s' h => by
    obtain ⟨v1, es1, t1, t2, t3, t4⟩ := take_call (k := k) (B := B') (ρ := sv (wipeD ρ [6]) 6 d) (e := eC (.int 900)) (many := 900) h (hv d) rfl (by decide) (by decide)
    exact ⟨v1, es1, t1, t2, t4⟩) (rngI 0 v.toNat) (s.set n (.lst es1)) t4
  rw [set_set'] at e h2
  rw [rngI_len] at hl
  refine ⟨vs, es, ?_, by omega, hP, h2⟩
  refine tup_comp (comp_ok2 (g := none) (s1 := s.set n (.lst es1)) (ds := rngI 0 v.toNat) ?_ (by rw [rngI_len]; exact Nat.le_of_lt (lim_of (by omega))) e (by simp) ygs_map_int) (by simp)
  unfold iR1
  rw [cons_ok t1 nil_ok]
  simp only [Rss.bndI]
  rw [if_pos (small_of (by omega) (by omega))]
abbrev tC : ES := eOp cGt (eVar 8) (eC (.int 2))
abbrev bC : SS := (sSeq (sSet 8 (eOp bAdd (eOp bMul (eC (.int 2)) (eOp bDiv (eVar 8) (eC (.int 3)))) (eOp bMod (eBlt intD (aCons (eVar 8) aNil)) (eC (.int 3))))) (sSeq (sSet 9 (eOp bAdd (eVar 9) (eC (.int 1)))) sNil))
theorem loop_cnt {C0 : C} {s : S} {a0 a1 a2 a3 a4 a5 a6 a7 a10 a11 a12 a13 a14 a15 a16 a17 a18 a19 a20 a21 a22 : D} : ∀ (F T nn : Nat) (k : Int), nn ≤ F → F < T → ∃ y8, whileL true tC bC C0 T [a0, a1, a2, a3, a4, a5, a6, a7, .int nn, .int k, a10, a11, a12, a13, a14, a15, a16, a17, a18, a19, a20, a21, a22] s = .nx [a0, a1, a2, a3, a4, a5, a6, a7, y8, .int (k + rndN F nn), a10, a11, a12, a13, a14, a15, a16, a17, a18, a19, a20, a21, a22] s := by
  have stop : ∀ (T nn : Nat) (k : Int), nn ≤ 2 → 1 ≤ T → whileL true tC bC C0 T [a0, a1, a2, a3, a4, a5, a6, a7, .int nn, .int k, a10, a11, a12, a13, a14, a15, a16, a17, a18, a19, a20, a21, a22] s = .nx [a0, a1, a2, a3, a4, a5, a6, a7, .int nn, .int k, a10, a11, a12, a13, a14, a15, a16, a17, a18, a19, a20, a21, a22] s := by
    intro T nn k h hT
    obtain ⟨t, rfl⟩ : ∃ t, T = t + 1 := ⟨T - 1, by omega⟩
    rw [while_f (d := .bl false) (s1 := s) ?_ rfl, te_same]
    show Res.ok (.bl (decide ((2 : Int) < nn))) s = _
    rw [decide_eq_false (by omega)]
  intro F
  induction F with
  | zero =>
    intro T nn k h hT
    refine ⟨.int nn, (stop T nn k (by omega) (by omega)).trans ?_⟩
    rw [rndN]
    simp
  | succ F ih =>
    intro T nn k h hT
    rw [rndN]
    by_cases h2 : 2 < nn
    · rw [if_pos h2]
      obtain ⟨t, rfl⟩ : ∃ t, T = t + 1 := ⟨T - 1, by omega⟩
      obtain ⟨y8, e⟩ := ih t (2 * (nn / 3) + nn % 3) (k + 1) (by omega) (by omega)
      have ek : k + 1 + (rndN F (2 * (nn / 3) + nn % 3) : Nat) = k + ((rndN F (2 * (nn / 3) + nn % 3) + 1 : Nat) : Int) := by omega
      rw [ek] at e
      refine ⟨y8, ?_⟩
      rw [while_t (d := .bl true) (s1 := s) (ρ1 := [a0, a1, a2, a3, a4, a5, a6, a7, .int ((2 * (nn / 3) + nn % 3 : Nat) : Int), .int (k + 1), a10, a11, a12, a13, a14, a15, a16, a17, a18, a19, a20, a21, a22]) (s2 := s) ?_ rfl ?_ te_same, e]
      · show Res.ok (.bl (decide ((2 : Int) < nn))) s = _
        rw [decide_eq_true (by omega)]
      · refine seq_go (ρ1 := [a0, a1, a2, a3, a4, a5, a6, a7, .int ((2 * (nn / 3) + nn % 3 : Nat) : Int), .int k, a10, a11, a12, a13, a14, a15, a16, a17, a18, a19, a20, a21, a22]) (s1 := s) (set_ok (d := .int ((2 * (nn / 3) + nn % 3 : Nat) : Int)) ?_) (seq_go (set_ok rfl) rfl)
        rw [op_ok (x := .int (2 * ((nn : Int) / 3))) (y := .int ((nn : Int) % 3)) (s1 := s) (s2 := s) ?_ ?_, add_ok]
        · congr 2
        · rw [op_ok (x := .int 2) (y := .int ((nn : Int) / 3)) (s1 := s) (s2 := s) rfl ?_]
          · exact mul_ok (mulOk_l (by decide) (by decide))
          · rw [op_ok (x := .int nn) (y := .int 3) (s1 := s) (s2 := s) rfl rfl, div_ok (by decide) (big_of (by decide))]
        · rw [op_ok (x := .int nn) (y := .int 3) (s1 := s) (s2 := s) (int_blt fun _ => rfl) rfl, mod_ok (by decide)]
    · rw [if_neg h2]
      refine ⟨.int nn, (stop T nn k (by omega) (by omega)).trans ?_⟩
      simp
theorem loop_back {C0 : C} {s : S} {n u : Nat} {b x y : Int} {a5 a7 a8 a9 a11 a12 a13 a14 a15 a16 a17 a18 a19 a20 a21 a22 : D} (hu : lstOf s u = some ((dueL b x).map D.int)) : ∀ (c j : Nat) (a6 : D), j + c = b.toNat →
    ∃ y6, forL true none (tName 6) (sSeq (sSet 10 (eOp bAdd (eOp bMul (eC (.int 2)) (eVar 10)) (eOp bIx (eVar 4) (eVar 6)))) sNil) C0 ((List.range' j c).map fun i => D.int (0 + (i : Nat))) [.ref n, .int b, .int x, .int y, .ref u, a5, a6, a7, a8, a9, .int (bk x j), a11, a12, a13, a14, a15, a16, a17, a18, a19, a20, a21, a22] s = .nx [.ref n, .int b, .int x, .int y, .ref u, a5, y6, a7, a8, a9, .int (bk x (j + c)), a11, a12, a13, a14, a15, a16, a17, a18, a19, a20, a21, a22] s
  | 0, j, a6, _ => ⟨a6, rfl⟩
  | c + 1, j, a6, hj => by
    obtain ⟨y6, e⟩ := loop_back (C0 := C0) (n := n) (y := y) (a5 := a5) (a7 := a7) (a8 := a8) (a9 := a9) (a11 := a11) (a12 := a12) (a13 := a13) (a14 := a14) (a15 := a15) (a16 := a16) (a17 := a17) (a18 := a18) (a19 := a19) (a20 := a20) (a21 := a21) (a22 := a22) hu c (j + 1) (.int (0 + (j : Nat))) (by omega)
    have ej : j + (c + 1) = j + 1 + c := by omega
    refine ⟨y6, ?_⟩
    rw [ej, List.range'_succ, List.map_cons, forL_cons (ρ2 := [.ref n, .int b, .int x, .int y, .ref u, a5, .int (0 + (j : Nat)), a7, a8, a9, .int (bk x (j + 1)), a11, a12, a13, a14, a15, a16, a17, a18, a19, a20, a21, a22]) (s2 := s) (turn_name ?_ rfl) rfl, e]
    refine seq_go (ρ1 := [.ref n, .int b, .int x, .int y, .ref u, a5, .int (0 + (j : Nat)), a7, a8, a9, .int (bk x (j + 1)), a11, a12, a13, a14, a15, a16, a17, a18, a19, a20, a21, a22]) (s1 := s) (set_ok (d := .int (bk x (j + 1))) ?_) rfl
    rw [op_ok (x := .int (2 * bk x j)) (y := .int (bitI x j)) (s1 := s) (s2 := s) ?_ ?_, add_ok]
    · rfl
    · rw [op_ok (x := .int 2) (y := .int (bk x j)) (s1 := s) (s2 := s) rfl rfl]
      exact mul_ok (mulOk_l (by decide) (by decide))
    · rw [op_ok (x := .ref u) (y := .int (j : Nat)) (s1 := s) (s2 := s) rfl ?_]
      · exact dueGet hu (dueL_get (by omega))
      · show Res.ok (.int (0 + (j : Int))) s = _
        rw [Int.zero_add]
theorem ev_ones {C0 : C} {ρ : Ev.Env} {s : S} {u : Nat} {b x : Int} (h0 : 1 ≤ b) (h1 : b ≤ 32) (hb : gv ρ 1 = .int b) (hv4 : ∀ d, gv (sv (wipeD ρ [6]) 6 d) 4 = .ref u) (hv6 : ∀ d, gv (sv (wipeD ρ [6]) 6 d) 6 = d) (hu : lstOf s u = some ((dueL b x).map D.int)) :
    (eComp (iR1 (aCons (eVar 1) aNil)) [6] (tName 6) (some (eOp cEq (eOp bIx (eVar 4) (eVar 6)) (eC (.int 1)))) (eVar 6)) C0 ρ s = .ok (.ref s.length) (s ++ [.lst (natI (onL b x))]) := by
  refine comp_ok (g := none) (ds := rngI 0 b.toNat) (r1_rng h0 (by omega) hb) (by rw [rngI_len]; exact Nat.le_of_lt (lim_of (by omega))) ?_ ygs_map_int
  have e : natI (onL b x) = ((rngI 0 b.toNat).filter fun d => decide (bitI x (natD d) = 1)).map (fun d => D.int ((natD d : Nat) : Int)) := by
    rw [rngI_fm (fun i => decide (bitI x i = 1)) (fun i => D.int ((i : Nat) : Int)), onL, natI, List.map_map]
    rfl
  rw [e]
  refine compL_filter (p := fun d => decide (bitI x (natD d) = 1)) rfl _ ?_ ?_
  · intro d hd
    obtain ⟨i, hi, rfl⟩ := rngI_mem hd
    rw [natD_int, op_ok (x := .int (bitI x i)) (y := .int 1) (s1 := s) (s2 := s) ?_ rfl, cEq_int]
    rw [op_ok (x := .ref u) (y := .int (0 + (i : Int))) (s1 := s) (s2 := s) (var_ok (hv4 _) (by simp)) (var_ok (hv6 _) (by simp)), Int.zero_add]
    exact dueGet hu (dueL_get hi)
  · intro d hd hp
    obtain ⟨i, hi, rfl⟩ := rngI_mem hd
    rw [natD_int, var_ok (hv6 _) (by simp), Int.zero_add]
theorem ev_cnt {C0 : C} {ρ : Ev.Env} {s : S} {p : Nat} {b x : Int} (hp : lstOf s p = some (natI (onL b x))) (hb : gv ρ 1 = .int b) (hv : gv ρ 11 = .ref p) :
    (eTup (aCons (eBlt lenD (aCons (eVar 11) aNil)) (aCons (eIf (eOp cGt (eBlt lenD (aCons (eVar 11) aNil)) (eC (.int 0))) (eOp bSub (eOp bSub (eVar 1) (eC (.int 1))) (eBlt maxD (aCons (eVar 11) aNil))) (eVar 1)) (aCons (eIf (eOp cGt (eBlt lenD (aCons (eVar 11) aNil)) (eC (.int 0))) (eBlt minD (aCons (eVar 11) aNil)) (eVar 1)) aNil)))) C0 ρ s = .ok (cntV b x) s := by
  have hlen : eBlt lenD (aCons (eVar 11) aNil) C0 ρ s = .ok (.int (onL b x).length) s := by
    refine blt_args (cons_ok (var_ok hv (by simp)) nil_ok) ?_
    rw [lenD_lst hp]
    simp
  have hgt : eOp cGt (eBlt lenD (aCons (eVar 11) aNil)) (eC (.int 0)) C0 ρ s = .ok (.bl (decide (((onL b x).length : Int) > 0))) s := by
    rw [op_ok hlen rfl, cGt_ok]
  have hsq : seqOf s (.ref p) = some (((onL b x).map fun (i : Nat) => (i : Int)).map D.int) := hp
  have hb1 : eVar 1 C0 ρ s = .ok (.int b) s := var_ok hb (by simp)
  have hmax : maxD [.ref p] s = (match lmax ((onL b x).map fun (i : Nat) => (i : Int)) with | some m => .ok (.int m) s | none => .fail) := by
    simp only [maxD, hsq, mapM_ints]
    rfl
  have hmin : minD [.ref p] s = (match lmin ((onL b x).map fun (i : Nat) => (i : Int)) with | some m => .ok (.int m) s | none => .fail) := by
    simp only [minD, hsq, mapM_ints]
    rfl
  refine tup_ok (cons_ok hlen (cons_ok (s1 := s) ?_ (cons_ok (s1 := s) ?_ nil_ok))) (by simp)
  · rw [onL_max] at hmax
    cases hq : onL b x with
    | nil =>
      rw [hq] at hgt
      rw [eif_f (hgt.trans (by rw [decide_eq_false (by simp)])), hb1]
      rfl
    | cons z r =>
      have hne : (onL b x) ≠ [] := by rw [hq]; simp
      rw [List.getLast?_eq_some_getLast hne] at hmax
      rw [eif_t (hgt.trans (by rw [decide_eq_true (by rw [hq]; simp)])), ← hq, List.getLast?_eq_some_getLast hne]
      rw [op_ok (x := .int (b - 1)) (y := .int (((onL b x).getLast hne : Nat) : Int)) (s1 := s) (s2 := s) ?_ ?_, sub_ok]
      · rw [op_ok hb1 rfl, sub_ok]
      · exact blt_args (cons_ok (var_ok hv (by simp)) nil_ok) hmax
  · rw [onL_min] at hmin
    cases hq : onL b x with
    | nil =>
      rw [hq] at hgt
      rw [eif_f (hgt.trans (by rw [decide_eq_false (by simp)])), hb1]
      rfl
    | cons z r =>
      rw [hq] at hmin
      rw [eif_t (hgt.trans (by rw [decide_eq_true (by rw [hq]; simp)]))]
      exact blt_args (cons_ok (var_ok hv (by simp)) nil_ok) hmin
end KL

set_option maxRecDepth 100000
namespace KL
open PySem Ev
local macro_rules | `(tactic| walk_at "st") => `(tactic| dsimp only [start0, List.length_cons, List.length_nil, List.replicate, List.cons_append, List.nil_append, Nat.reduceSub, Nat.reduceAdd])
local macro_rules | `(tactic| walk_at "ev") => `(tactic| simp (disch := omega) only [sSeq, sSet, sExpr, sRet, sRetN, sIf, sBrk, sCnt, sRaise, sNil, sAsg, sAug, sPar2, sFor, tName, tTup, tsCons, tsNil, tSub, eVar, eC, eOp, eUn, aNil, aCons, eTup, eLst, eCall, eBlt, gcF, gcE, eNot, eAnd, eOr, eIf, eChain, eTold, eMt, eSl, withPart, iR1, iR2, iR3, iSeq, Ev.iEnum, Res.bnd, Res.bndS, Res.bndA, Res.bndI, Rss.bnd, Rss.bndA, Rss.bndS, Rss.bndI, Itm.bnd, Itm.bndS, Out.bnd, Res.tst, Res.tstS, Res.tstA, gv, sv, tru, al, toRes, C.psh, endG, gOk, bAdd, bSub, uNeg, cLt, cLe, cGt, cGe, iAdd, lenD, intD, absD, if_true, if_false, Bool.false_eq_true, ite_true, ite_false, decide_true, decide_false, Bool.not_true, Bool.not_false, Bool.and_true, Bool.and_false, Bool.true_and, Bool.false_and, Int.zero_sub, and_true, true_and, and_false, false_and, not_true_eq_false, not_false_eq_true, finF_same, fin_same', cEq_int, cNe_int, decide_eq_true_eq, Bool.not_eq_true', decide_eq_false_iff_not, ite_not])
local macro_rules | `(tactic| walk_at "ew") => `(tactic| repeat (first | walk_at "ev" | (simp (disch := omega) only [ev_power_of, ev_check, ev_check_code, ev_meaning, ev_code_of, ev_widened, div_pow, mod_pow])))
theorem fin_bl {b : Nat} {s : S} {p : Bool} : ∃ s2, finF b (.ok (.bl p) s) = .ok (.bl p) s2 := by
  show ∃ s2, (if s.length = b then Res.ok (.bl p) s else if D.yg b (.bl p) = true then .ok (.bl p) s else .ok (.bl p) (s.take b)) = .ok (.bl p) s2
  split
  · exact ⟨s, rfl⟩
  · exact ⟨s.take b, rfl⟩
theorem ev_law_part1 {ns : List Int} {m : Nat} {B : List Nat} {s : S} {n u : Nat} {b x y : Int} (hh : Hd ns s n) (hu : lstOf s u = some ((dueL b x).map D.int)) (hne : u ≠ n) (h0 : 1 ≤ b) (h1 : b ≤ 32) (h2 : 0 ≤ x) (h3 : x < 2 ^ b.toNat) (h4 : 0 ≤ y) (h5 : y < 2 ^ b.toNat) :
    ∃ s2, callN tab (m + 8) 25 B [.ref n, .int b, .int x, .int y, .ref u] s = .ok (.bl true) s2 := by
  have fin : ∀ {se : S}, c_law_part1 ⟨callN tab (m + 7), s.length :: B⟩ [.ref n, .int b, .int x, .int y, .ref u, .und, .und, .und, .und, .und, .und, .und, .und, .und, .und, .und, .und, .und, .und, .und, .und, .und, .und] s = .rt (.bl true) se → ∃ s2, callN tab (m + 8) 25 B [.ref n, .int b, .int x, .int y, .ref u] s = .ok (.bl true) s2 := fun e => by
    obtain ⟨s2, e2⟩ := fin_bl (b := s.length) (s := _) (p := true)
    exact ⟨s2, run_go (np := 5) (n := 23) rfl e e2⟩
  obtain ⟨y6, y7, y12, y14, y16, y18, y19, y20, eA⟩ := ev_pA (m := m + 4) (B := s.length :: B) (n := n) (a5 := .und) (a6 := .und) (a7 := .und) (a8 := .und) (a9 := .und) (a10 := .und) (a11 := .und) (a12 := .und) (a13 := .und) (a14 := .und) (a15 := .und) (a16 := .und) (a17 := .und) (a18 := .und) (a19 := .und) (a20 := .und) (a21 := .und) (a22 := .und) h0 h1 h2 h3 h4 h5 hu
  obtain ⟨p, q, r, es1, eN, ⟨p0, p1⟩, ⟨q0, q1⟩, ⟨r0, r1⟩, hh1⟩ := ev_numbers (k := m + 6) (B := s.length :: B) (ρ := [.ref n, .int b, .int x, .int y, .ref u, .und, y6, y7, .und, .und, .und, .und, y12, .und, y14, .und, y16, .und, y18, y19, y20, .und, .und]) hh (fun _ => rfl)
  obtain ⟨s1, hs1⟩ : ∃ s1, s1 = s.set n (.lst es1) := ⟨_, rfl⟩
  rw [← hs1] at eN hh1
  have hu1 : lstOf s1 u = some ((dueL b x).map D.int) := by rw [hs1, lst_ne hne]; exact hu
  obtain ⟨z6, z11, e45⟩ := loop_45 (m := m + 6) (B := s1.length :: s.length :: B) (s := s1) (n := n) (u := u) (b := b) (x := x) (y := y) (a7 := y7) (a8 := .und) (a9 := .und) (a10 := .und) (a12 := y12) (a15 := .und) (a16 := y16) (a17 := .und) (a18 := y18) (a19 := y19) (a20 := y20) (a21 := .und) (a22 := .und) p0 q0 r0 45 0 y6 .und (by omega)
  obtain ⟨l, es2, eR, hll, hl0, hh2⟩ := ev_rows (k := m + 6) (B := s.length :: B) (ρ := [.ref n, .int b, .int x, .int y, .ref u, .tup ([p, q, r].map D.int), z6, y7, .und, .und, .und, z11, y12, .int (xo3 p q r), .int (2 * maj p q r), .und, y16, .und, y18, y19, y20, .und, .und]) hh1 rfl (fun _ => rfl)
  obtain ⟨s3, hs3⟩ : ∃ s3, s3 = s1.set n (.lst es2) := ⟨_, rfl⟩
  rw [← hs3] at eR hh2
  have hu3 : lstOf s3 u = some ((dueL b x).map D.int) := by rw [hs3, lst_ne hne]; exact hu1
  obtain ⟨st, hst⟩ : ∃ st, st = (rnd l.length l).1 := ⟨_, rfl⟩
  obtain ⟨la, hla⟩ : ∃ la, la = (rnd l.length l).2 := ⟨_, rfl⟩
  have hsn : st = rndN l.length l.length := by rw [hst, rnd_n]
  have hlal : la.length = min 2 l.length := by rw [hla]; exact rnd_len _ _ (Nat.le_refl _)
  have hlas : la.sum = l.sum := by rw [hla]; exact rnd_sum _ _ hl0
  obtain ⟨z8, eCn⟩ := loop_cnt (C0 := ⟨callN tab (m + 7), s.length :: B⟩) (s := s3) (a0 := .ref n) (a1 := .int b) (a2 := .int x) (a3 := .int y) (a4 := .ref u) (a5 := .tup ([p, q, r].map D.int)) (a6 := z6) (a7 := .tup (l.map D.int)) (a10 := .und) (a11 := z11) (a12 := y12) (a13 := .int (xo3 p q r)) (a14 := .int (2 * maj p q r)) (a15 := .int st) (a16 := .tup (la.map D.int)) (a17 := .und) (a18 := y18) (a19 := y19) (a20 := y20) (a21 := .und) (a22 := .und) l.length turns l.length 0 (Nat.le_refl _) (Nat.lt_of_le_of_lt hll (by decide))
  obtain ⟨w, eW, w1, w2, w3⟩ := ev_root_of (m := m + 6) (B := s.length :: B) (s := s3) p p0 p1
  obtain ⟨v6, eB⟩ := loop_back (C0 := C.psh true s3.length ⟨callN tab (m + 7), s.length :: B⟩) (s := s3) (n := n) (y := y) (a5 := .tup ([p, q, r].map D.int)) (a7 := .tup (l.map D.int)) (a8 := z8) (a9 := .int (0 + (rndN l.length l.length : Nat))) (a11 := z11) (a12 := y12) (a13 := .int (xo3 p q r)) (a14 := .int (2 * maj p q r)) (a15 := .int st) (a16 := .tup (la.map D.int)) (a17 := .int w) (a18 := .int (p - w * w)) (a19 := y19) (a20 := y20) (a21 := .und) (a22 := .und) hu3 b.toNat 0 z6 (by omega)
  rw [Nat.zero_add] at eB
  obtain ⟨s4, hs4⟩ : ∃ s4 : S, s4 = s3 ++ [.lst (natI (onL b x))] := ⟨_, rfl⟩
  have hp4 : lstOf s4 s3.length = some (natI (onL b x)) := by rw [hs4]; exact top_lst
  have hmj := saved_sum p0 q0 r0
  refine fin (se := s4) ?_
  dsimp only [c_law_part1]
  refine seq_go eA ?_
  refine seq_go (set_ok eN) ?_
  refine seq_go (ρ1 := [.ref n, .int b, .int x, .int y, .ref u, .tup ([p, q, r].map D.int), y6, y7, .und, .und, .und, .und, y12, .int (xo3 p q r), .int (2 * maj p q r), .und, y16, .und, y18, y19, y20, .und, .und]) (s1 := s1) ?_ ?_
  · refine (asg_ok (d := .tup [.int (xo3 p q r), .int (2 * maj p q r)]) (s1 := s1) ?_).trans rfl
    rw [call_ok (cons_ok (x := .tup [.int p, .int q, .int r]) rfl nil_ok)]
    dsimp only
    rw [ev_saved p q r p0 q0 r0]
  refine seq_go (guard_nx (s1 := s1) ?_) ?_
  · rw [or_f (ne_f (i := xo3 p q r + 2 * maj p q r) (j := ([p, q, r] : List Int).sum) rfl (sum_blt fun _ => rfl) (by simp; omega))]
    refine ne_f (i := 2 * maj p q r % 2) (j := 0) ?_ rfl (by omega)
    rw [op_ok (x := .int (2 * maj p q r)) (y := .int 2) (s1 := s1) (s2 := s1) (int_blt fun _ => rfl) rfl, mod2]
  refine seq_go (for_nx (g := none) (s1 := s1) (ds := rngI 0 45) rfl (by rw [rngI0]; exact e45) te_same) ?_
  refine seq_go (set_ok eR) ?_
  refine seq_go (ρ1 := [.ref n, .int b, .int x, .int y, .ref u, .tup ([p, q, r].map D.int), z6, .tup (l.map D.int), .und, .und, .und, z11, y12, .int (xo3 p q r), .int (2 * maj p q r), .int st, .tup (la.map D.int), .und, y18, y19, y20, .und, .und]) (s1 := s3) ?_ ?_
  · refine (asg_ok (d := .tup [.int st, .tup (la.map D.int)]) (s1 := s3) ?_).trans rfl
    rw [call_ok (cons_ok (x := .tup (l.map D.int)) rfl nil_ok)]
    dsimp only
    rw [ev_summed l (by omega) hl0, hst, hla]
  refine seq_go (set_ok (blen fun _ => rfl)) ?_
  refine seq_go (set_ok rfl) ?_
  refine seq_go (while_go eCn) ?_
  refine seq_go (guard_nx (s1 := s3) ?_) ?_
  · rw [or_f (ne_f (i := st) (j := 0 + (rndN l.length l.length : Nat)) rfl rfl (by omega))]
    have hmn : eBlt minD (aCons (eC (.int 2)) (aCons (eBlt lenD (aCons (eVar 7) aNil)) aNil)) ⟨callN tab (m + 7), s.length :: B⟩ [.ref n, .int b, .int x, .int y, .ref u, .tup ([p, q, r].map D.int), z6, .tup (l.map D.int), z8, .int (0 + (rndN l.length l.length : Nat)), .und, z11, y12, .int (xo3 p q r), .int (2 * maj p q r), .int st, .tup (la.map D.int), .und, y18, y19, y20, .und, .und] s3 = .ok (.int (if (l.length : Int) < 2 then (l.length : Int) else 2)) s3 := by
      refine blt_args (cons_ok rfl (cons_ok (blen fun _ => rfl) nil_ok)) rfl
    rw [or_f (ne_f (i := la.length) (blen fun _ => rfl) hmn (by split <;> omega))]
    exact ne_f (i := la.sum) (j := l.sum) (sum_blt fun _ => rfl) (sum_blt fun _ => rfl) hlas
  refine seq_go (ρ1 := [.ref n, .int b, .int x, .int y, .ref u, .tup ([p, q, r].map D.int), z6, .tup (l.map D.int), z8, .int (0 + (rndN l.length l.length : Nat)), .und, z11, y12, .int (xo3 p q r), .int (2 * maj p q r), .int st, .tup (la.map D.int), .int w, .int (p - w * w), y19, y20, .und, .und]) (s1 := s3) ?_ ?_
  · refine (asg_ok (d := .tup [.int w, .int (p - w * w)]) (s1 := s3) ?_).trans rfl
    rw [call_ok (cons_ok (x := .int p) (op_ok (x := .tup ([p, q, r].map D.int)) (y := .int ((0 : Nat) : Int)) rfl rfl |>.trans (tupGet rfl)) nil_ok)]
    exact eW
  refine seq_go (guard_nx (s1 := s3) ?_) ?_
  · have hw : w < 2 ^ 64 := by
      rcases Int.lt_or_le w (2 ^ 64) with h | h
      · exact h
      · have h6 : (2 : Int) ^ 64 * 2 ^ 64 ≤ w * w := Int.mul_le_mul h h (by decide) w3
        exact absurd (Int.lt_of_le_of_lt (Int.le_trans h6 w1) p1) (by decide)
    rw [or_f (ne_f (i := w * w + (p - w * w)) (j := p) ?_ (op_ok (x := .tup ([p, q, r].map D.int)) (y := .int ((0 : Nat) : Int)) rfl rfl |>.trans (tupGet rfl)) (by omega)), or_f (lt_f (i := p - w * w) (j := 0) rfl rfl (by omega))]
    · refine gt_f (i := p - w * w) (j := 2 * w) rfl ?_ ?_
      · rw [op_ok (x := .int 2) (y := .int w) (s1 := s3) (s2 := s3) rfl rfl]
        exact mul_ok (mulOk_l (by decide) (by decide))
      · have e7 : (w + 1) * (w + 1) = w * w + 2 * w + 1 := by grind
        rw [e7] at w2
        omega
    · rw [op_ok (x := .int (w * w)) (y := .int (p - w * w)) (s1 := s3) (s2 := s3) ?_ rfl, add_ok]
      rw [op_ok (x := .int w) (y := .int w) (s1 := s3) (s2 := s3) rfl rfl]
      exact mul_ok (mulOk_r (Int.lt_of_lt_of_le (by decide) w3) hw)
  refine seq_go (set_ok rfl) ?_
  refine seq_go (for_nx (g := none) (s1 := s3) (ds := rngI 0 b.toNat) (r1_rng h0 (by omega) rfl) (by rw [rngI0]; exact eB) te_same) ?_
  refine seq_go (set_ok (s1 := s4) (d := .ref s3.length) (by rw [hs4]; exact ev_ones h0 h1 rfl (fun _ => rfl) (fun _ => rfl) hu3)) ?_
  refine seq_go (guard_nx (s1 := s4) ?_) (seq_rt (ret_ok ?_))
  · rw [or_f (ne_f (i := (tbL b x).sum) (j := bk x b.toNat) ?_ rfl (tbL_sum b x))]
    · refine neD_f (d := cntV b x) ?_ (ev_cnt hp4 rfl rfl) rfl
      rw [call_ok (cons_ok (x := .int b) rfl (cons_ok (x := .int x) rfl nil_ok))]
      dsimp only
      rw [ev_counts b x h0 h1 h2 h3]
    · rw [call_ok (cons_ok (x := .int b) rfl (cons_ok (x := .int x) rfl nil_ok))]
      dsimp only
      rw [ev_turned_bits b x h0 h1 h2 h3]
  · rw [call_ok nil_ok]
    dsimp only
    rw [ev_law_wrong]
end KL

set_option maxRecDepth 100000
namespace KL
open PySem Ev
local macro_rules | `(tactic| walk_at "st") => `(tactic| dsimp only [start0, List.length_cons, List.length_nil, List.replicate, List.cons_append, List.nil_append, Nat.reduceSub, Nat.reduceAdd])
local macro_rules | `(tactic| walk_at "ev") => `(tactic| simp (disch := omega) only [sSeq, sSet, sExpr, sRet, sRetN, sIf, sBrk, sCnt, sRaise, sNil, sAsg, sAug, sPar2, sFor, tName, tTup, tsCons, tsNil, tSub, eVar, eC, eOp, eUn, aNil, aCons, eTup, eLst, eCall, eBlt, gcF, gcE, eNot, eAnd, eOr, eIf, eChain, eTold, eMt, eSl, withPart, iR1, iR2, iR3, iSeq, Ev.iEnum, Res.bnd, Res.bndS, Res.bndA, Res.bndI, Rss.bnd, Rss.bndA, Rss.bndS, Rss.bndI, Itm.bnd, Itm.bndS, Out.bnd, Res.tst, Res.tstS, Res.tstA, gv, sv, tru, al, toRes, C.psh, endG, gOk, bAdd, bSub, uNeg, cLt, cLe, cGt, cGe, iAdd, lenD, intD, absD, if_true, if_false, Bool.false_eq_true, ite_true, ite_false, decide_true, decide_false, Bool.not_true, Bool.not_false, Bool.and_true, Bool.and_false, Bool.true_and, Bool.false_and, Int.zero_sub, and_true, true_and, and_false, false_and, not_true_eq_false, not_false_eq_true, finF_same, fin_same', cEq_int, cNe_int, decide_eq_true_eq, Bool.not_eq_true', decide_eq_false_iff_not, ite_not])
local macro_rules | `(tactic| walk_at "ew") => `(tactic| repeat (first | walk_at "ev" | (simp (disch := omega) only [ev_power_of, ev_check, ev_check_code, ev_meaning, ev_code_of, ev_widened, div_pow, mod_pow])))
abbrev lS0 : SS := (sSet 1 (eCall 19 (aCons (eVar 0) aNil)))
abbrev lS1 : SS := (sSet 2 (eOp bAdd (eC (.int 1)) (eCall 20 (aCons (eVar 1) (aCons (eC (.int 12)) aNil)))))
abbrev lS2 : SS := (sIf (eOp cEq (eCall 20 (aCons (eVar 1) (aCons (eC (.int 4)) aNil))) (eC (.int 0))) (sSeq (sSet 2 (eC (.int 32))) sNil) sNil)
abbrev lS3 : SS := (sSet 3 (eCall 21 (aCons (eVar 2) aNil)))
abbrev lS4 : SS := (sSet 4 (eOp bMod (eBlt intD (aCons (eOp bAdd (eOp bMul (eCall 20 (aCons (eVar 1) (aCons (eC (.int 900)) aNil))) (eC (.int 4771819))) (eCall 20 (aCons (eVar 1) (aCons (eC (.int 900)) aNil)))) aNil)) (eVar 3)))
abbrev lS5 : SS := (sSet 5 (eOp bMod (eBlt intD (aCons (eOp bAdd (eOp bMul (eCall 20 (aCons (eVar 1) (aCons (eC (.int 900)) aNil))) (eC (.int 4771819))) (eCall 20 (aCons (eVar 1) (aCons (eC (.int 900)) aNil)))) aNil)) (eVar 3)))
abbrev lS6 : SS := (sSet 6 (eCall 22 (aCons (eVar 2) (aCons (eVar 4) aNil))))
abbrev lS7 : SS := (sSet 7 (eCall 22 (aCons (eVar 2) (aCons (eVar 5) aNil))))
abbrev lS8 : SS := (sIf (eOr (eOp cNe (eCall 3 (aCons (eVar 2) (aCons (eVar 4) aNil))) (eVar 6)) (eOr (eOp cNe (eCall 4 (aCons (eVar 2) (aCons (eVar 6) aNil))) (eVar 4)) (eOp cIsNot (eCall 4 (aCons (eVar 2) (aCons (eOp bAdd (eVar 6) (eVar 3)) aNil))) (eC .non)))) (sSeq (sRet (eC (.bl false))) sNil) sNil)
abbrev lS9 : SS := (sSet 8 (eOp bSub (eCall 20 (aCons (eVar 1) (aCons (eC (.int 900)) aNil))) (eC (.int 450))))
abbrev lS10 : SS := (sSet 9 (eAnd (eOp cLt (eOp bMul (eC (.int 2)) (eVar 8)) (eVar 3)) (eOp cGe (eOp bMul (eC (.int 2)) (eVar 8)) (eOp bSub (eC (.int 0)) (eVar 3)))))
abbrev lS11 : SS := (sIf (eOp cNe (eCall 4 (aCons (eVar 2) (aCons (eVar 8) aNil))) (eIf (eVar 9) (eOp bMod (eBlt intD (aCons (eVar 8) aNil)) (eVar 3)) (eC .non))) (sSeq (sRet (eC (.bl false))) sNil) sNil)
abbrev lS12 : SS := (sSet 10 (eOp bAdd (eVar 2) (eCall 20 (aCons (eVar 1) (aCons (eOp bSub (eC (.int 33)) (eVar 2)) aNil)))))
abbrev lS13 : SS := (sIf (eOp cNe (eCall 22 (aCons (eVar 10) (aCons (eCall 5 (aCons (eVar 2) (aCons (eVar 4) (aCons (eVar 10) aNil)))) aNil))) (eVar 6)) (sSeq (sRet (eC (.bl false))) sNil) sNil)
abbrev lS14 : SS := (sFor true (iSeq (eLst (aCons (eTup (aCons (eCall 6 (aCons (eVar 2) (aCons (eVar 4) (aCons (eVar 5) aNil)))) (aCons (eOp bAdd (eVar 6) (eVar 7)) (aCons (eBlt intD (aCons (eOp cGe (eOp bAdd (eVar 4) (eVar 5)) (eVar 3)) aNil)) aNil)))) (aCons (eTup (aCons (eCall 7 (aCons (eVar 2) (aCons (eVar 4) (aCons (eVar 5) aNil)))) (aCons (eOp bSub (eVar 6) (eVar 7)) (aCons (eBlt intD (aCons (eOp cGe (eVar 4) (eVar 5)) aNil)) aNil)))) aNil)))) (tTup 3 (tsCons (tName 14) (tsCons (tName 15) (tsCons (tName 16) tsNil)))) (sSeq (sSet 17 (eOp bMod (eBlt intD (aCons (eVar 15) aNil)) (eVar 3))) (sSeq (sIf (eOp cNe (eVar 14) (eTup (aCons (eVar 17) (aCons (eTup (aCons (eVar 16) (aCons (eBlt intD (aCons (eOp cNe (eCall 22 (aCons (eVar 2) (aCons (eVar 17) aNil))) (eVar 15)) aNil)) (aCons (eBlt intD (aCons (eOp cGe (eOp bMul (eC (.int 2)) (eVar 17)) (eVar 3)) aNil)) (aCons (eBlt intD (aCons (eOp cEq (eVar 17) (eC (.int 0))) aNil)) aNil))))) aNil)))) (sSeq (sRet (eC (.bl false))) sNil) sNil) sNil)))
abbrev lS15 : SS := (sSet 11 (eCall 8 (aCons (eVar 2) (aCons (eVar 4) aNil))))
abbrev lS16 : SS := (sSet 12 (eComp (iR1 (aCons (eVar 2) aNil)) [18] (tName 18) none (eOp bMod (eBlt intD (aCons (eOp bDiv (eVar 4) (eCall 21 (aCons (eVar 18) aNil))) aNil)) (eC (.int 2)))))
abbrev lS17 : SS := (sIf (eOr (eOp cNe (eVar 11) (eBlt tupD (aCons (eComp (iR1 (aCons (eVar 2) aNil)) [18] (tName 18) none (eOp bSub (eIf (eOp cGt (eVar 18) (eC (.int 0))) (eOp bIx (eVar 12) (eOp bSub (eVar 18) (eC (.int 1)))) (eC (.int 0))) (eOp bIx (eVar 12) (eVar 18)))) aNil))) (eOp cNe (eCall 10 (aCons (eVar 11) aNil)) (eVar 6))) (sSeq (sRet (eC (.bl false))) sNil) sNil)
abbrev lS18 : SS := (sSet 13 (eCall 9 (aCons (eVar 2) (aCons (eVar 4) aNil))))
abbrev lS19 : SS := (sIf (eOr (eOp cNe (eCall 10 (aCons (eVar 13) aNil)) (eVar 6)) (eOr (eAnd (eOp cGt (eBlt lenD (aCons (eVar 13) aNil)) (eC (.int 0))) (eOp cEq (eOp bIx (eVar 13) (eUn uNeg (eC (.int 1)))) (eC (.int 0)))) (eOp cGt (eBlt lenD (aCons (eComp (iR2 (aCons (eC (.int 1)) (aCons (eBlt lenD (aCons (eVar 13) aNil)) aNil))) [18] (tName 18) (some (eAnd (eOp cNe (eOp bIx (eVar 13) (eVar 18)) (eC (.int 0))) (eOp cNe (eOp bIx (eVar 13) (eOp bSub (eVar 18) (eC (.int 1)))) (eC (.int 0))))) (eVar 18)) aNil)) (eC (.int 0))))) (sSeq (sRet (eC (.bl false))) sNil) sNil)
abbrev lS20 : SS := (sIf (eAnd (eOp cLe (eVar 2) (eC (.int 7))) (eOp cNe (eBlt lenD (aCons (eComp (iSeq (eVar 13)) [19] (tName 19) (some (eOp cNe (eVar 19) (eC (.int 0)))) (eVar 19)) aNil)) (eCall 23 (aCons (eVar 6) (aCons (eOp bAdd (eVar 2) (eC (.int 1))) aNil))))) (sSeq (sRet (eC (.bl false))) sNil) sNil)
abbrev lS21 : SS := (sIf (eOp cNe (eCall 11 (aCons (eVar 2) (aCons (eVar 4) (aCons (eVar 5) aNil)))) (eTup (aCons (eOp bMul (eVar 6) (eVar 7)) (aCons (eBlt lenD (aCons (eComp (iSeq (eCall 8 (aCons (eVar 2) (aCons (eVar 5) aNil)))) [19] (tName 19) (some (eOp cNe (eVar 19) (eC (.int 0)))) (eVar 19)) aNil)) aNil)))) (sSeq (sRet (eC (.bl false))) sNil) sNil)
abbrev lS22 : SS := (sRet (eCall 25 (aCons (eVar 1) (aCons (eVar 2) (aCons (eVar 4) (aCons (eVar 5) (aCons (eVar 12) aNil)))))))
theorem blt_args2 {f : List D → S → Res} {as : AS} {c : C} {ρ : Ev.Env} {s s1 : S} {xs : List D} {d : D} (ha : as ⟨c.call, s.length :: c.B⟩ ρ s = .ok xs s1) (hf : f xs s1 = .ok d s1) (hl : s1.length = s.length) : eBlt f as c ρ s = .ok d s1 := by
  show finF s.length ((as ⟨c.call, s.length :: c.B⟩ ρ s).bnd fun xs s => f xs s) = _
  rw [ha]
  show finF s.length (f xs s1) = _
  rw [hf, finF_len hl]
theorem take_callI {ns : List Int} {k : Nat} {B : List Nat} {ρ : Ev.Env} {s : S} {n i : Nat} {e : ES} {many : Int} (hh : Hd ns s n) (hv : gv ρ i = .ref n) (he : e ⟨callN tab (k + 1), B⟩ ρ s = .ok (.int many) s) (h0 : 0 < many) (h1 : many < 2 ^ 62) :
    ∃ v es, eCall 20 (aCons (eVar i) (aCons e aNil)) ⟨callN tab (k + 1), B⟩ ρ s = .ok (.int v) (s.set n (.lst es)) ∧ 0 ≤ v ∧ v < many ∧ Hd ns (s.set n (.lst es)) n := by
  obtain ⟨v, es, e1, e2, e3, e4⟩ := ev_law_take (k := k) (B := B) many hh h0 h1
  refine ⟨v, es, ?_, e2, e3, e4⟩
  rw [call_ok (cons_ok (x := .ref n) (var_ok hv (by simp)) (cons_ok he nil_ok))]
  exact e1
/-- a code of so many bits -/
theorem take_code {ns : List Int} {k : Nat} {B : List Nat} {ρ : Ev.Env} {s : S} {n : Nat} {w : Nat} (hh : Hd ns s n) (hv : gv ρ 1 = .ref n) (hw : gv ρ 3 = .int (2 ^ w)) :
    ∃ v es, eOp bMod (eBlt intD (aCons (eOp bAdd (eOp bMul (eCall 20 (aCons (eVar 1) (aCons (eC (.int 900)) aNil))) (eC (.int 4771819))) (eCall 20 (aCons (eVar 1) (aCons (eC (.int 900)) aNil)))) aNil)) (eVar 3) ⟨callN tab (k + 1), B⟩ ρ s = .ok (.int v) (s.set n (.lst es)) ∧ 0 ≤ v ∧ v < 2 ^ w ∧ Hd ns (s.set n (.lst es)) n := by
  obtain ⟨v1, es1, t1, t2, t3, t4⟩ := take_callI (k := k) (B := s.length :: B) (ρ := ρ) (e := eC (.int 900)) (many := 900) hh hv rfl (by decide) (by decide)
  obtain ⟨v2, es2, u1, u2, u3, u4⟩ := take_callI (k := k) (B := s.length :: B) (ρ := ρ) (e := eC (.int 900)) (many := 900) t4 hv rfl (by decide) (by decide)
  rw [set_set'] at u1 u4
  refine ⟨(v1 * 4771819 + v2) % 2 ^ w, es2, ?_, (mod_rng _ w).1, (mod_rng _ w).2, u4⟩
  rw [op_ok (x := .int (v1 * 4771819 + v2)) (y := .int (2 ^ w)) (s1 := s.set n (.lst es2)) (s2 := s.set n (.lst es2)) ?_ (var_ok hw (by simp)), mod_pow]
  refine blt_args2 (cons_ok (x := .int (v1 * 4771819 + v2)) ?_ nil_ok) rfl (by simp)
  rw [op_ok (x := .int (v1 * 4771819)) (y := .int v2) (s1 := s.set n (.lst es1)) (s2 := s.set n (.lst es2)) ?_ u1, add_ok]
  rw [op_ok (x := .int v1) (y := .int 4771819) (s1 := s.set n (.lst es1)) (s2 := s.set n (.lst es1)) t1 rfl]
  exact mul_ok (mulOk_r (by decide) (by decide))
section
variable {m : Nat} {B : List Nat} {s : S} {n : Nat} {b x y : Int} {a0 a8 a9 a10 a11 a12 a13 a14 a15 a16 a17 a18 a19 : D}
theorem call2 {f : Nat} {i j : Int} {e1 e2 : ES} {C0 : C} {ρ : Ev.Env} (q1 : e1 C0 ρ s = .ok (.int i) s) (q2 : e2 C0 ρ s = .ok (.int j) s) : eCall f (aCons e1 (aCons e2 aNil)) C0 ρ s = C0.call f C0.B [.int i, .int j] s := call_ok (cons_ok q1 (cons_ok q2 nil_ok))
theorem call3 {f : Nat} {i j k : Int} {e1 e2 e3 : ES} {C0 : C} {ρ : Ev.Env} (q1 : e1 C0 ρ s = .ok (.int i) s) (q2 : e2 C0 ρ s = .ok (.int j) s) (q3 : e3 C0 ρ s = .ok (.int k) s) : eCall f (aCons e1 (aCons e2 (aCons e3 aNil))) C0 ρ s = C0.call f C0.B [.int i, .int j, .int k] s := call_ok (cons_ok q1 (cons_ok q2 (cons_ok q3 nil_ok)))
theorem ev_l8 (h0 : 1 ≤ b) (h1 : b ≤ 32) (h2 : 0 ≤ x) (h3 : x < 2 ^ b.toNat) : lS8 ⟨callN tab (m + 8), B⟩ [a0, .ref n, .int b, .int (2 ^ b.toNat), .int x, .int y, .int (mean b x), .int (mean b y), a8, a9, a10, a11, a12, a13, a14, a15, a16, a17, a18, a19] s = .nx [a0, .ref n, .int b, .int (2 ^ b.toNat), .int x, .int y, .int (mean b x), .int (mean b y), a8, a9, a10, a11, a12, a13, a14, a15, a16, a17, a18, a19] s := by
  have hr := mean_rng b x h0 h2 h3
  have hb := b_succ h0
  have hp := pow_pos' (b - 1).toNat
  refine guard_nx ?_
  rw [or_f (ne_f (i := mean b x) (j := mean b x) ?_ rfl rfl), or_f (ne_f (i := x) (j := x) ?_ rfl rfl)]
  · rw [op_ok (x := .non) (y := .non) (s1 := s) (s2 := s) ?_ rfl]
    · rfl
    · refine (call2 (i := b) (j := mean b x + 2 ^ b.toNat) rfl rfl).trans ?_
      dsimp only
      rw [ev_code_of b _ h0 h1, if_neg (by omega)]
  · refine (call2 (i := b) (j := mean b x) rfl rfl).trans ?_
    dsimp only
    rw [ev_code_of b _ h0 h1, if_pos (by omega), mean_mod b x h2 h3]
  · refine (call2 (i := b) (j := x) rfl rfl).trans ?_
    dsimp only
    rw [ev_meaning b x h0 h1 h2 h3]
/-- whether a number lies within -/
def insB (b z : Int) : Bool := decide (2 * z < 2 ^ b.toNat) && decide (2 * z ≥ 0 - 2 ^ b.toNat)
theorem ev_l10 {z : Int} : lS10 ⟨callN tab (m + 8), B⟩ [a0, .ref n, .int b, .int (2 ^ b.toNat), .int x, .int y, .int (mean b x), .int (mean b y), .int z, a9, a10, a11, a12, a13, a14, a15, a16, a17, a18, a19] s = .nx [a0, .ref n, .int b, .int (2 ^ b.toNat), .int x, .int y, .int (mean b x), .int (mean b y), .int z, .bl (insB b z), a10, a11, a12, a13, a14, a15, a16, a17, a18, a19] s := by
  have e2 : ∀ {C0 : C}, eOp bMul (eC (.int 2)) (eVar 8) C0 [a0, .ref n, .int b, .int (2 ^ b.toNat), .int x, .int y, .int (mean b x), .int (mean b y), .int z, a9, a10, a11, a12, a13, a14, a15, a16, a17, a18, a19] s = .ok (.int (2 * z)) s := fun {C0} => by
    rw [op_ok (x := .int 2) (y := .int z) (s1 := s) (s2 := s) rfl rfl]
    exact mul_ok (mulOk_l (by decide) (by decide))
  have e1 : eOp cLt (eOp bMul (eC (.int 2)) (eVar 8)) (eVar 3) ⟨callN tab (m + 8), B⟩ [a0, .ref n, .int b, .int (2 ^ b.toNat), .int x, .int y, .int (mean b x), .int (mean b y), .int z, a9, a10, a11, a12, a13, a14, a15, a16, a17, a18, a19] s = .ok (.bl (decide (2 * z < 2 ^ b.toNat))) s := by
    rw [op_ok (y := .int (2 ^ b.toNat)) (s2 := s) e2 rfl, cLt_ok]
  have e3 : eOp cGe (eOp bMul (eC (.int 2)) (eVar 8)) (eOp bSub (eC (.int 0)) (eVar 3)) ⟨callN tab (m + 8), B⟩ [a0, .ref n, .int b, .int (2 ^ b.toNat), .int x, .int y, .int (mean b x), .int (mean b y), .int z, a9, a10, a11, a12, a13, a14, a15, a16, a17, a18, a19] s = .ok (.bl (decide (2 * z ≥ 0 - 2 ^ b.toNat))) s := by
    rw [op_ok (y := .int (0 - 2 ^ b.toNat)) (s2 := s) e2 rfl, cGe_ok]
  refine (set_ok (d := .bl (insB b z)) (s1 := s) ?_).trans rfl
  unfold insB
  by_cases h : 2 * z < 2 ^ b.toNat
  · rw [and_t (e1.trans (by rw [decide_eq_true h])), e3, decide_eq_true h, Bool.true_and]
  · rw [and_f (e1.trans (by rw [decide_eq_false h])), decide_eq_false h, Bool.false_and]
theorem ev_l11 {z : Int} (h0 : 1 ≤ b) (h1 : b ≤ 32) : lS11 ⟨callN tab (m + 8), B⟩ [a0, .ref n, .int b, .int (2 ^ b.toNat), .int x, .int y, .int (mean b x), .int (mean b y), .int z, .bl (insB b z), a10, a11, a12, a13, a14, a15, a16, a17, a18, a19] s = .nx [a0, .ref n, .int b, .int (2 ^ b.toNat), .int x, .int y, .int (mean b x), .int (mean b y), .int z, .bl (insB b z), a10, a11, a12, a13, a14, a15, a16, a17, a18, a19] s := by
  have hb := b_succ h0
  have hi : insB b z = decide (-(2 ^ (b - 1).toNat) ≤ z ∧ z < 2 ^ (b - 1).toNat) := by
    unfold insB
    rw [hb, ← Bool.decide_and]
    congr 1
    exact propext ⟨fun h => by omega, fun h => by omega⟩
  have hc : eCall 4 (aCons (eVar 2) (aCons (eVar 8) aNil)) ⟨callN tab (m + 8), B⟩ [a0, .ref n, .int b, .int (2 ^ b.toNat), .int x, .int y, .int (mean b x), .int (mean b y), .int z, .bl (insB b z), a10, a11, a12, a13, a14, a15, a16, a17, a18, a19] s = .ok (if -(2 ^ (b - 1).toNat) ≤ z ∧ z < 2 ^ (b - 1).toNat then .int (z % 2 ^ b.toNat) else .non) s := by
    refine (call2 (i := b) (j := z) rfl rfl).trans ?_
    dsimp only
    rw [ev_code_of b _ h0 h1]
  refine guard_nx ?_
  by_cases h : -(2 ^ (b - 1).toNat) ≤ z ∧ z < 2 ^ (b - 1).toNat
  · rw [if_pos h] at hc
    refine neD_f hc ?_ rfl
    rw [eif_t (s1 := s)]
    · rw [op_ok (x := .int z) (y := .int (2 ^ b.toNat)) (s1 := s) (s2 := s) (int_blt fun _ => rfl) rfl, mod_pow]
    · show Res.ok (.bl (insB b z)) s = _
      rw [hi, decide_eq_true h]
  · rw [if_neg h] at hc
    refine neD_f hc ?_ rfl
    rw [eif_f (s1 := s)]
    · rfl
    · show Res.ok (.bl (insB b z)) s = _
      rw [hi, decide_eq_false h]
theorem ev_l13 {t : Int} (h0 : 1 ≤ b) (h1 : b ≤ 32) (h2 : 0 ≤ x) (h3 : x < 2 ^ b.toNat) (h4 : b ≤ t) (h5 : t ≤ 32) : lS13 ⟨callN tab (m + 8), B⟩ [a0, .ref n, .int b, .int (2 ^ b.toNat), .int x, .int y, .int (mean b x), .int (mean b y), a8, a9, .int t, a11, a12, a13, a14, a15, a16, a17, a18, a19] s = .nx [a0, .ref n, .int b, .int (2 ^ b.toNat), .int x, .int y, .int (mean b x), .int (mean b y), a8, a9, .int t, a11, a12, a13, a14, a15, a16, a17, a18, a19] s := by
  refine guard_nx (ne_f (i := mean b x) (j := mean b x) ?_ rfl rfl)
  refine (call2 (i := t) (j := mean b x % 2 ^ t.toNat) rfl ?_).trans ?_
  · refine (call3 (i := b) (j := x) (k := t) rfl rfl rfl).trans ?_
    dsimp only
    rw [ev_widened b x t h0 h1 h2 h3 h4 h5]
  · dsimp only
    rw [ev_law_mean t _ (by omega) (by omega), mean_wide b x t h0 h2 h3 h4]
end
theorem shp_ints {k : Nat} : ∀ l : List Int, D.shp (k + 1) (.tup (l.map D.int)) = true := fun l => by
  unfold D.shp
  rw [List.all_map, List.all_eq_true]
  intro z _
  cases k <;> rfl
end KL

set_option maxRecDepth 100000
namespace KL
open PySem Ev
local macro_rules | `(tactic| walk_at "st") => `(tactic| dsimp only [start0, List.length_cons, List.length_nil, List.replicate, List.cons_append, List.nil_append, Nat.reduceSub, Nat.reduceAdd])
local macro_rules | `(tactic| walk_at "ev") => `(tactic| simp (disch := omega) only [sSeq, sSet, sExpr, sRet, sRetN, sIf, sBrk, sCnt, sRaise, sNil, sAsg, sAug, sPar2, sFor, tName, tTup, tsCons, tsNil, tSub, eVar, eC, eOp, eUn, aNil, aCons, eTup, eLst, eCall, eBlt, gcF, gcE, eNot, eAnd, eOr, eIf, eChain, eTold, eMt, eSl, withPart, iR1, iR2, iR3, iSeq, Ev.iEnum, Res.bnd, Res.bndS, Res.bndA, Res.bndI, Rss.bnd, Rss.bndA, Rss.bndS, Rss.bndI, Itm.bnd, Itm.bndS, Out.bnd, Res.tst, Res.tstS, Res.tstA, gv, sv, tru, al, toRes, C.psh, endG, gOk, bAdd, bSub, uNeg, cLt, cLe, cGt, cGe, iAdd, lenD, intD, absD, if_true, if_false, Bool.false_eq_true, ite_true, ite_false, decide_true, decide_false, Bool.not_true, Bool.not_false, Bool.and_true, Bool.and_false, Bool.true_and, Bool.false_and, Int.zero_sub, and_true, true_and, and_false, false_and, not_true_eq_false, not_false_eq_true, finF_same, fin_same', cEq_int, cNe_int, decide_eq_true_eq, Bool.not_eq_true', decide_eq_false_iff_not, ite_not])
local macro_rules | `(tactic| walk_at "ew") => `(tactic| repeat (first | walk_at "ev" | (simp (disch := omega) only [ev_power_of, ev_check, ev_check_code, ev_meaning, ev_code_of, ev_widened, div_pow, mod_pow])))
abbrev bFl : SS := (sSeq (sSet 17 (eOp bMod (eBlt intD (aCons (eVar 15) aNil)) (eVar 3))) (sSeq (sIf (eOp cNe (eVar 14) (eTup (aCons (eVar 17) (aCons (eTup (aCons (eVar 16) (aCons (eBlt intD (aCons (eOp cNe (eCall 22 (aCons (eVar 2) (aCons (eVar 17) aNil))) (eVar 15)) aNil)) (aCons (eBlt intD (aCons (eOp cGe (eOp bMul (eC (.int 2)) (eVar 17)) (eVar 3)) aNil)) (aCons (eBlt intD (aCons (eOp cEq (eVar 17) (eC (.int 0))) aNil)) aNil))))) aNil)))) (sSeq (sRet (eC (.bl false))) sNil) sNil) sNil))
theorem flags_eq {b w e c : Int} (h0 : 1 ≤ b) (h2 : 0 ≤ c) (h3 : c < 2 ^ b.toNat) : flags b w e c = .tup [.int c, .tup [.int (w / 2 ^ b.toNat), .int (if mean b c = e then 0 else 1), .int (if 2 * c ≥ 2 ^ b.toNat then 1 else 0), .int (if c = 0 then 1 else 0)]] := by
  unfold flags
  rw [high b c h0 h2 h3]
  have e1 : (if e = mean b c then (0 : Int) else 1) = if mean b c = e then 0 else 1 := by
    by_cases h : mean b c = e
    · rw [if_pos h, if_pos h.symm]
    · rw [if_neg h, if_neg fun z => h z.symm]
  rw [e1]
section
variable {m : Nat} {B : List Nat} {s : S} {n : Nat} {b x y : Int} {a0 a8 a9 a10 a11 a12 a13 a14 a15 a16 a17 a18 a19 : D}
theorem ev_fl {w e : Int} (h0 : 1 ≤ b) (h1 : b ≤ 32) (hw : e % 2 ^ b.toNat = w % 2 ^ b.toNat) : bFl ⟨callN tab (m + 8), B⟩ [a0, .ref n, .int b, .int (2 ^ b.toNat), .int x, .int y, .int (mean b x), .int (mean b y), a8, a9, a10, a11, a12, a13, flags b w e (w % 2 ^ b.toNat), .int e, .int (w / 2 ^ b.toNat), a17, a18, a19] s = .nx [a0, .ref n, .int b, .int (2 ^ b.toNat), .int x, .int y, .int (mean b x), .int (mean b y), a8, a9, a10, a11, a12, a13, flags b w e (w % 2 ^ b.toNat), .int e, .int (w / 2 ^ b.toNat), .int (w % 2 ^ b.toNat), a18, a19] s := by
  obtain ⟨c, hc⟩ : ∃ c, c = w % 2 ^ b.toNat := ⟨_, rfl⟩
  have hc2 : 0 ≤ c := by rw [hc]; exact (mod_rng _ _).1
  have hc3 : c < 2 ^ b.toNat := by rw [hc]; exact (mod_rng _ _).2
  rw [← hc, flags_eq h0 hc2 hc3]
  obtain ⟨t, ht⟩ : ∃ t, t = D.tup [.int c, .tup [.int (w / 2 ^ b.toNat), .int (if mean b c = e then 0 else 1), .int (if 2 * c ≥ 2 ^ b.toNat then 1 else 0), .int (if c = 0 then 1 else 0)]] := ⟨_, rfl⟩
  rw [← ht]
  refine seq_go (ρ1 := [a0, .ref n, .int b, .int (2 ^ b.toNat), .int x, .int y, .int (mean b x), .int (mean b y), a8, a9, a10, a11, a12, a13, t, .int e, .int (w / 2 ^ b.toNat), .int c, a18, a19]) (s1 := s) (set_ok (d := .int c) ?_) (seq_go (guard_nx (neD_f (d := t) (by rw [ht]; rfl) ?_ (by rw [ht]; rfl))) rfl)
  · rw [op_ok (x := .int e) (y := .int (2 ^ b.toNat)) (s1 := s) (s2 := s) (int_blt fun _ => rfl) rfl, mod_pow, hw, hc]
  · rw [ht]
    have e1 : ∀ {B}, eBlt intD (aCons (eOp cNe (eCall 22 (aCons (eVar 2) (aCons (eVar 17) aNil))) (eVar 15)) aNil) ⟨callN tab (m + 8), B⟩ [a0, .ref n, .int b, .int (2 ^ b.toNat), .int x, .int y, .int (mean b x), .int (mean b y), a8, a9, a10, a11, a12, a13, t, .int e, .int (w / 2 ^ b.toNat), .int c, a18, a19] s = .ok (.int (if mean b c = e then 0 else 1)) s := fun {B} => by
      refine blt_args (cons_ok (x := .bl (!decide (mean b c = e))) (s1 := s) ?_ nil_ok) int_ite
      rw [op_ok (x := .int (mean b c)) (y := .int e) (s1 := s) (s2 := s) ?_ rfl, cNe_int]
      refine (call2 (i := b) (j := c) rfl rfl).trans ?_
      dsimp only
      rw [ev_law_mean b c h0 (by omega)]
    have e2 : ∀ {B}, eBlt intD (aCons (eOp cGe (eOp bMul (eC (.int 2)) (eVar 17)) (eVar 3)) aNil) ⟨callN tab (m + 8), B⟩ [a0, .ref n, .int b, .int (2 ^ b.toNat), .int x, .int y, .int (mean b x), .int (mean b y), a8, a9, a10, a11, a12, a13, t, .int e, .int (w / 2 ^ b.toNat), .int c, a18, a19] s = .ok (.int (if 2 * c ≥ 2 ^ b.toNat then 1 else 0)) s := fun {B} => by
      refine blt_args (cons_ok (x := .bl (decide (2 * c ≥ 2 ^ b.toNat))) (s1 := s) ?_ nil_ok) int_ite'
      rw [op_ok (x := .int (2 * c)) (y := .int (2 ^ b.toNat)) (s1 := s) (s2 := s) ?_ rfl, cGe_ok]
      rw [op_ok (x := .int 2) (y := .int c) (s1 := s) (s2 := s) rfl rfl]
      exact mul_ok (mulOk_l (by decide) (by decide))
    have e3 : ∀ {B}, eBlt intD (aCons (eOp cEq (eVar 17) (eC (.int 0))) aNil) ⟨callN tab (m + 8), B⟩ [a0, .ref n, .int b, .int (2 ^ b.toNat), .int x, .int y, .int (mean b x), .int (mean b y), a8, a9, a10, a11, a12, a13, t, .int e, .int (w / 2 ^ b.toNat), .int c, a18, a19] s = .ok (.int (if c = 0 then 1 else 0)) s := fun {B} => by
      refine blt_args (cons_ok (x := .bl (decide (c = 0))) (s1 := s) ?_ nil_ok) int_ite'
      rw [op_ok (x := .int c) (y := .int 0) (s1 := s) (s2 := s) rfl rfl, cEq_int]
    refine tup_ok (cons_ok (x := .int c) rfl (cons_ok (s1 := s) ?_ nil_ok)) (by simp)
    exact tup_ok (cons_ok (x := .int (w / 2 ^ b.toNat)) rfl (cons_ok (e1 (B := B)) (cons_ok (e2 (B := B)) (cons_ok (e3 (B := B)) nil_ok)))) (by simp)
theorem te_drop {ρ : Ev.Env} {o : O} (h : erase s.length ρ = ρ) : turnEnd true s.length ρ (s ++ [o]) .nx = .nx ρ s := by
  unfold turnEnd
  rw [if_pos ⟨rfl, by simp⟩, h, List.take_left']
  rfl
theorem ev_l14 {z t : Int} {q : Bool} (h0 : 1 ≤ b) (h1 : b ≤ 32) (h2 : 0 ≤ x) (h3 : x < 2 ^ b.toNat) (h4 : 0 ≤ y) (h5 : y < 2 ^ b.toNat) (ha : D.yg s.length a0 = false) (hn : n < s.length) :
    ∃ y14 y15 y16 y17, lS14 ⟨callN tab (m + 8), B⟩ [a0, .ref n, .int b, .int (2 ^ b.toNat), .int x, .int y, .int (mean b x), .int (mean b y), .int z, .bl q, .int t, .und, .und, .und, .und, .und, .und, .und, .und, .und] s = .nx [a0, .ref n, .int b, .int (2 ^ b.toNat), .int x, .int y, .int (mean b x), .int (mean b y), .int z, .bl q, .int t, .und, .und, .und, y14, y15, y16, y17, .und, .und] s := by
  have hp := pow_pos' b.toNat
  obtain ⟨w1, hw1⟩ : ∃ w1, w1 = x + y := ⟨_, rfl⟩
  obtain ⟨w2, hw2⟩ : ∃ w2, w2 = x + (2 ^ b.toNat - 1 - y) + 1 := ⟨_, rfl⟩
  obtain ⟨e1, he1⟩ : ∃ e1, e1 = mean b x + mean b y := ⟨_, rfl⟩
  obtain ⟨e2, he2⟩ : ∃ e2, e2 = mean b x - mean b y := ⟨_, rfl⟩
  have hm1 : e1 % 2 ^ b.toNat = w1 % 2 ^ b.toNat := by rw [he1, hw1]; exact sum_mod b x y h2 h3 h4 h5
  have hm2 : e2 % 2 ^ b.toNat = w2 % 2 ^ b.toNat := by rw [he2, hw2]; exact dif_mod b x y h2 h3 h4 h5
  have hc1 : w1 / 2 ^ b.toNat = if x + y ≥ 2 ^ b.toNat then 1 else 0 := by rw [hw1]; exact div01 (by omega) (by omega) hp
  have hc2 : w2 / 2 ^ b.toNat = if x ≥ y then 1 else 0 := by
    rw [div01 (by omega) (by omega) hp]
    by_cases h : x ≥ y
    · rw [if_pos h, if_pos (by omega)]
    · rw [if_neg h, if_neg (by omega)]
  obtain ⟨t1, ht1⟩ : ∃ t1, t1 = D.tup [flags b w1 e1 (w1 % 2 ^ b.toNat), .int e1, .int (w1 / 2 ^ b.toNat)] := ⟨_, rfl⟩
  obtain ⟨t2, ht2⟩ : ∃ t2, t2 = D.tup [flags b w2 e2 (w2 % 2 ^ b.toNat), .int e2, .int (w2 / 2 ^ b.toNat)] := ⟨_, rfl⟩
  refine ⟨flags b w2 e2 (w2 % 2 ^ b.toNat), .int e2, .int (w2 / 2 ^ b.toNat), .int (w2 % 2 ^ b.toNat), ?_⟩
  refine for_nx (ds := [t1, t2]) (g := some (s.length, [t1, t2])) (s1 := s ++ [.lst [t1, t2]]) (ρ2 := [a0, .ref n, .int b, .int (2 ^ b.toNat), .int x, .int y, .int (mean b x), .int (mean b y), .int z, .bl q, .int t, .und, .und, .und, flags b w2 e2 (w2 % 2 ^ b.toNat), .int e2, .int (w2 / 2 ^ b.toNat), .int (w2 % 2 ^ b.toNat), .und, .und]) (s2 := s ++ [.lst [t1, t2]]) ?_ ?_ (te_drop ?_)
  · have f1 : ∀ {B}, eTup (aCons (eCall 6 (aCons (eVar 2) (aCons (eVar 4) (aCons (eVar 5) aNil)))) (aCons (eOp bAdd (eVar 6) (eVar 7)) (aCons (eBlt intD (aCons (eOp cGe (eOp bAdd (eVar 4) (eVar 5)) (eVar 3)) aNil)) aNil))) ⟨callN tab (m + 8), B⟩ [a0, .ref n, .int b, .int (2 ^ b.toNat), .int x, .int y, .int (mean b x), .int (mean b y), .int z, .bl q, .int t, .und, .und, .und, .und, .und, .und, .und, .und, .und] s = .ok t1 s := fun {B} => by
      rw [ht1, hc1]
      refine tup_ok (cons_ok (s1 := s) ?_ (cons_ok (s1 := s) ?_ (cons_ok (s1 := s) ?_ nil_ok))) (by simp)
      · refine (call3 (i := b) (j := x) (k := y) rfl rfl rfl).trans ?_
        dsimp only
        rw [ev_added b x y h0 h1 h2 h3 h4 h5, hw1, he1]
      · rw [he1]; rfl
      · exact blt_args (cons_ok (x := .bl (decide (x + y ≥ 2 ^ b.toNat))) rfl nil_ok) int_ite'
    have f2 : ∀ {B}, eTup (aCons (eCall 7 (aCons (eVar 2) (aCons (eVar 4) (aCons (eVar 5) aNil)))) (aCons (eOp bSub (eVar 6) (eVar 7)) (aCons (eBlt intD (aCons (eOp cGe (eVar 4) (eVar 5)) aNil)) aNil))) ⟨callN tab (m + 8), B⟩ [a0, .ref n, .int b, .int (2 ^ b.toNat), .int x, .int y, .int (mean b x), .int (mean b y), .int z, .bl q, .int t, .und, .und, .und, .und, .und, .und, .und, .und, .und] s = .ok t2 s := fun {B} => by
      rw [ht2, hc2]
      refine tup_ok (cons_ok (s1 := s) ?_ (cons_ok (s1 := s) ?_ (cons_ok (s1 := s) ?_ nil_ok))) (by simp)
      · refine (call3 (i := b) (j := x) (k := y) rfl rfl rfl).trans ?_
        dsimp only
        rw [ev_taken_off b x y h0 h1 h2 h3 h4 h5, hw2, he2]
      · rw [he2]; rfl
      · exact blt_args (cons_ok (x := .bl (decide (x ≥ y))) rfl nil_ok) int_ite'
    unfold iSeq eLst
    rw [show (C.psh true s.length ⟨callN tab (m + 8), B⟩) = ⟨callN tab (m + 8), s.length :: B⟩ from rfl, cons_ok f1 (cons_ok f2 nil_ok)]
    simp only [Rss.bnd, List.length_cons, List.length_nil]
    rw [if_pos (by unfold lim; decide)]
    simp only [al, Res.bndI, top_lst]
  · have hg : gOk (some (s.length, [t1, t2])) (s ++ [.lst [t1, t2]]) = true := by
      simp only [gOk, top_get, D.beqs_self]
    rw [forL_cons (ρ2 := [a0, .ref n, .int b, .int (2 ^ b.toNat), .int x, .int y, .int (mean b x), .int (mean b y), .int z, .bl q, .int t, .und, .und, .und, flags b w1 e1 (w1 % 2 ^ b.toNat), .int e1, .int (w1 / 2 ^ b.toNat), .int (w1 % 2 ^ b.toNat), .und, .und]) (s2 := s ++ [.lst [t1, t2]]) (turn_nx1 (ρ1 := [a0, .ref n, .int b, .int (2 ^ b.toNat), .int x, .int y, .int (mean b x), .int (mean b y), .int z, .bl q, .int t, .und, .und, .und, flags b w1 e1 (w1 % 2 ^ b.toNat), .int e1, .int (w1 / 2 ^ b.toNat), .int (w1 % 2 ^ b.toNat), .und, .und]) (s1 := s ++ [.lst [t1, t2]]) ?_ te_same) hg]
    · rw [forL_cons (ρ2 := [a0, .ref n, .int b, .int (2 ^ b.toNat), .int x, .int y, .int (mean b x), .int (mean b y), .int z, .bl q, .int t, .und, .und, .und, flags b w2 e2 (w2 % 2 ^ b.toNat), .int e2, .int (w2 / 2 ^ b.toNat), .int (w2 % 2 ^ b.toNat), .und, .und]) (s2 := s ++ [.lst [t1, t2]]) (turn_nx1 (ρ1 := [a0, .ref n, .int b, .int (2 ^ b.toNat), .int x, .int y, .int (mean b x), .int (mean b y), .int z, .bl q, .int t, .und, .und, .und, flags b w2 e2 (w2 % 2 ^ b.toNat), .int e2, .int (w2 / 2 ^ b.toNat), .int (w2 % 2 ^ b.toNat), .und, .und]) (s1 := s ++ [.lst [t1, t2]]) ?_ te_same) hg]
      · rfl
      · rw [ht2]
        exact ev_fl h0 h1 hm2
    · rw [ht1]
      exact ev_fl h0 h1 hm1
  · simp [erase, D.yg, D.ygs, flags, ha, Nat.not_le.mpr hn]
end
end KL

set_option maxRecDepth 100000
namespace KL
open PySem Ev
local macro_rules | `(tactic| walk_at "st") => `(tactic| dsimp only [start0, List.length_cons, List.length_nil, List.replicate, List.cons_append, List.nil_append, Nat.reduceSub, Nat.reduceAdd])
local macro_rules | `(tactic| walk_at "ev") => `(tactic| simp (disch := omega) only [sSeq, sSet, sExpr, sRet, sRetN, sIf, sBrk, sCnt, sRaise, sNil, sAsg, sAug, sPar2, sFor, tName, tTup, tsCons, tsNil, tSub, eVar, eC, eOp, eUn, aNil, aCons, eTup, eLst, eCall, eBlt, gcF, gcE, eNot, eAnd, eOr, eIf, eChain, eTold, eMt, eSl, withPart, iR1, iR2, iR3, iSeq, Ev.iEnum, Res.bnd, Res.bndS, Res.bndA, Res.bndI, Rss.bnd, Rss.bndA, Rss.bndS, Rss.bndI, Itm.bnd, Itm.bndS, Out.bnd, Res.tst, Res.tstS, Res.tstA, gv, sv, tru, al, toRes, C.psh, endG, gOk, bAdd, bSub, uNeg, cLt, cLe, cGt, cGe, iAdd, lenD, intD, absD, if_true, if_false, Bool.false_eq_true, ite_true, ite_false, decide_true, decide_false, Bool.not_true, Bool.not_false, Bool.and_true, Bool.and_false, Bool.true_and, Bool.false_and, Int.zero_sub, and_true, true_and, and_false, false_and, not_true_eq_false, not_false_eq_true, finF_same, fin_same', cEq_int, cNe_int, decide_eq_true_eq, Bool.not_eq_true', decide_eq_false_iff_not, ite_not])
local macro_rules | `(tactic| walk_at "ew") => `(tactic| repeat (first | walk_at "ev" | (simp (disch := omega) only [ev_power_of, ev_check, ev_check_code, ev_meaning, ev_code_of, ev_widened, div_pow, mod_pow])))
section
variable {m : Nat} {B : List Nat} {s : S} {n : Nat} {b x y : Int} {a0 a8 a9 a10 a11 a12 a13 a14 a15 a16 a17 a18 a19 : D}
theorem ev_l15 (h0 : 1 ≤ b) (h1 : b ≤ 32) (h2 : 0 ≤ x) (h3 : x < 2 ^ b.toNat) : lS15 ⟨callN tab (m + 8), B⟩ [a0, .ref n, .int b, .int (2 ^ b.toNat), .int x, .int y, .int (mean b x), .int (mean b y), a8, a9, a10, a11, a12, a13, a14, a15, a16, a17, a18, a19] s = .nx [a0, .ref n, .int b, .int (2 ^ b.toNat), .int x, .int y, .int (mean b x), .int (mean b y), a8, a9, a10, .tup ((digsI x 0 b.toNat 0).map D.int), a12, a13, a14, a15, a16, a17, a18, a19] s := by
  refine (set_ok (d := .tup ((digsI x 0 b.toNat 0).map D.int)) (s1 := s) ?_).trans rfl
  refine (call2 (i := b) (j := x) rfl rfl).trans ?_
  dsimp only
  rw [ev_digits b x h0 h1 h2 h3]
theorem ev_l16 (h0 : 1 ≤ b) (h1 : b ≤ 32) : lS16 ⟨callN tab (m + 8), B⟩ [a0, .ref n, .int b, .int (2 ^ b.toNat), .int x, .int y, .int (mean b x), .int (mean b y), a8, a9, a10, a11, a12, a13, a14, a15, a16, a17, a18, a19] s = .nx [a0, .ref n, .int b, .int (2 ^ b.toNat), .int x, .int y, .int (mean b x), .int (mean b y), a8, a9, a10, a11, .ref s.length, a13, a14, a15, a16, a17, a18, a19] (s ++ [.lst ((dueL b x).map D.int)]) := by
  refine (set_ok (d := .ref s.length) (s1 := s ++ [.lst ((dueL b x).map D.int)]) ?_).trans rfl
  refine comp_ok (g := none) (ds := rngI 0 b.toNat) (r1_rng h0 (by omega) rfl) (by rw [rngI_len]; exact Nat.le_of_lt (lim_of (by omega))) ?_ ygs_map_int
  have e : (dueL b x).map D.int = (rngI 0 b.toNat).map fun d => D.int (bitI x (natD d)) := by
    rw [dueL, rngI0, List.map_map, List.map_map, List.range_eq_range']
    exact List.map_congr_left fun i _ => by show _ = D.int (bitI x (natD _)); rw [natD_int]; rfl
  rw [e]
  refine compL_map rfl _ ?_
  intro d hd
  obtain ⟨i, hi, rfl⟩ := rngI_mem hd
  rw [natD_int]
  refine lbit (v := x) (k := i) (by omega) (fun _ => rfl) (fun _ => ?_)
  show Res.ok (.int (0 + (i : Int))) s = _
  rw [Int.zero_add]
theorem dig_of {z : Int} (h1 : -1 ≤ z) (h2 : z ≤ 1) : Dig z := by unfold Dig; omega
theorem from_call {C0 : C} {k : Nat} {ρ : Ev.Env} {i : Nat} {l : List Int} (hc : C0.call = callN tab (k + 1)) (hl : l.length ≤ 1000) (hd : ∀ d ∈ l, Dig d) (hv : gv ρ i = .tup (l.map D.int)) : eCall 10 (aCons (eVar i) aNil) C0 ρ s = .ok (.int (fromD l)) s := by
  rw [call_ok (cons_ok (var_ok hv (by simp)) nil_ok), hc, ev_from_digits l hl hd]
theorem ev_due17 {u : Nat} (h0 : 1 ≤ b) (h1 : b ≤ 32) (hu : lstOf s u = some ((dueL b x).map D.int)) : (eBlt tupD (aCons (eComp (iR1 (aCons (eVar 2) aNil)) [18] (tName 18) none (eOp bSub (eIf (eOp cGt (eVar 18) (eC (.int 0))) (eOp bIx (eVar 12) (eOp bSub (eVar 18) (eC (.int 1)))) (eC (.int 0))) (eOp bIx (eVar 12) (eVar 18)))) aNil)) ⟨callN tab (m + 8), B⟩ [a0, .ref n, .int b, .int (2 ^ b.toNat), .int x, .int y, .int (mean b x), .int (mean b y), a8, a9, a10, a11, .ref u, a13, a14, a15, a16, a17, a18, a19] s = .ok (.tup ((digsI x 0 b.toNat 0).map D.int)) s := by
  refine tup_comp (comp_ok2 (g := none) (s1 := s) (ds := rngI 0 b.toNat) (r1_rng h0 (by omega) rfl) (by rw [rngI_len]; exact Nat.le_of_lt (lim_of (by omega))) ?_ rfl ygs_map_int) rfl
  have e : (digsI x 0 b.toNat 0).map D.int = (rngI 0 b.toNat).map fun d => D.int ((if natD d = 0 then 0 else bitI x (natD d - 1)) - bitI x (natD d)) := by
    rw [digsI_eq, rngI0, List.map_map, List.map_map, List.range_eq_range']
    exact List.map_congr_left fun i _ => by show _ = D.int ((if natD _ = 0 then 0 else bitI x (natD _ - 1)) - bitI x (natD _)); rw [natD_int]; rfl
  rw [e]
  refine compL_map rfl _ ?_
  intro d hd
  obtain ⟨i, hi, rfl⟩ := rngI_mem hd
  rw [natD_int]
  rw [op_ok (x := .int (if i = 0 then 0 else bitI x (i - 1))) (y := .int (bitI x i)) (s1 := s) (s2 := s) ?_ ?_, sub_ok]
  · have ht : ∀ {B}, eOp cGt (eVar 18) (eC (.int 0)) ⟨callN tab (m + 8), B⟩ (sv (wipeD [a0, .ref n, .int b, .int (2 ^ b.toNat), .int x, .int y, .int (mean b x), .int (mean b y), a8, a9, a10, a11, .ref u, a13, a14, a15, a16, a17, a18, a19] [18]) 18 (.int (0 + (i : Int)))) s = .ok (.bl (decide (0 + (i : Int) > 0))) s := fun {B} => rfl
    by_cases hi0 : i = 0
    · rw [if_pos hi0]
      exact (eif_f (ht.trans (by rw [decide_eq_false (by omega)]))).trans rfl
    · rw [if_neg hi0]
      refine (eif_t (ht.trans (by rw [decide_eq_true (by omega)]))).trans ?_
      rw [op_ok (x := .ref u) (y := .int ((i - 1 : Nat) : Int)) (s1 := s) (s2 := s) rfl ?_]
      · exact dueGet hu (dueL_get (by omega))
      · have e1 : ((i - 1 : Nat) : Int) = 0 + (i : Int) - 1 := by omega
        rw [e1]
        rfl
  · rw [op_ok (x := .ref u) (y := .int (i : Nat)) (s1 := s) (s2 := s) rfl ?_]
    · exact dueGet hu (dueL_get hi)
    · show Res.ok (.int (0 + (i : Int))) s = _
      rw [Int.zero_add]
theorem ev_l17 {u : Nat} (h0 : 1 ≤ b) (h1 : b ≤ 32) (h2 : 0 ≤ x) (h3 : x < 2 ^ b.toNat) (hu : lstOf s u = some ((dueL b x).map D.int)) : lS17 ⟨callN tab (m + 8), B⟩ [a0, .ref n, .int b, .int (2 ^ b.toNat), .int x, .int y, .int (mean b x), .int (mean b y), a8, a9, a10, .tup ((digsI x 0 b.toNat 0).map D.int), .ref u, a13, a14, a15, a16, a17, a18, a19] s = .nx [a0, .ref n, .int b, .int (2 ^ b.toNat), .int x, .int y, .int (mean b x), .int (mean b y), a8, a9, a10, .tup ((digsI x 0 b.toNat 0).map D.int), .ref u, a13, a14, a15, a16, a17, a18, a19] s := by
  refine guard_nx ?_
  rw [or_f (neD_f (d := .tup ((digsI x 0 b.toNat 0).map D.int)) rfl ?_ (shp_ints _))]
  · refine ne_f (i := fromD (digsI x 0 b.toNat 0)) (j := mean b x) (from_call rfl (by rw [digsI_len]; omega) (fun d hd => ?_) rfl) rfl (booth0 b x h0 h2 h3)
    have := digsI_rng x _ _ _ (Int.le_refl 0) (by decide) d hd
    exact dig_of this.1 this.2
  · exact ev_due17 h0 h1 hu
theorem rch40 (h0 : 1 ≤ b) (h1 : b ≤ 32) (h2 : 0 ≤ x) (h3 : x < 2 ^ b.toNat) : Rch 40 (mean b x) := by
  have hr := mean_rng b x h0 h2 h3
  have hm : (2 : Int) ^ (b - 1).toNat ≤ 2 ^ 39 := pow_mono' (by omega)
  exact rch_of 39 _ (by omega) (by omega)
theorem ev_l18 (h0 : 1 ≤ b) (h1 : b ≤ 32) (h2 : 0 ≤ x) (h3 : x < 2 ^ b.toNat) : lS18 ⟨callN tab (m + 8), B⟩ [a0, .ref n, .int b, .int (2 ^ b.toNat), .int x, .int y, .int (mean b x), .int (mean b y), a8, a9, a10, a11, a12, a13, a14, a15, a16, a17, a18, a19] s = .nx [a0, .ref n, .int b, .int (2 ^ b.toNat), .int x, .int y, .int (mean b x), .int (mean b y), a8, a9, a10, a11, a12, .tup ((naf 40 (mean b x)).map D.int), a14, a15, a16, a17, a18, a19] s := by
  refine (set_ok (d := .tup ((naf 40 (mean b x)).map D.int)) (s1 := s) ?_).trans rfl
  refine (call2 (i := b) (j := x) rfl rfl).trans ?_
  dsimp only
  rw [ev_sparse b x h0 h1 h2 h3 40 (by decide) (rch40 h0 h1 h2 h3)]
theorem r2_rng {C0 : C} {ρ : Ev.Env} {i : Nat} {l : List Int} (hl : l.length ≤ 1000) (hv : gv ρ i = .tup (l.map D.int)) : iR2 (aCons (eC (.int 1)) (aCons (eBlt lenD (aCons (eVar i) aNil)) aNil)) C0 ρ s = .ok (rngI 1 (l.length - 1)) none s := by
  obtain ⟨z, hz⟩ : ∃ z : Int, z = l.length := ⟨_, rfl⟩
  have hb : eBlt lenD (aCons (eVar i) aNil) C0 ρ s = .ok (.int z) s := by rw [hz]; exact blen fun _ => var_ok hv (by simp)
  have e1 : (l.length - 1) = (z - 1).toNat := by omega
  unfold iR2
  rw [cons_ok (x := .int 1) rfl (cons_ok hb nil_ok), e1]
  simp only [Rss.bndI]
  have s1 : small62 1 = true := by decide
  have s2 : small62 z = true := small_of (by omega) (by omega)
  rw [s1, s2]
  rfl
theorem rngI_mem1 {k : Nat} {d : D} (h : d ∈ rngI 1 k) : ∃ i : Nat, i < k ∧ d = .int (1 + (i : Int)) := by
  unfold rngI at h
  obtain ⟨i, hi, rfl⟩ := List.mem_map.mp h
  exact ⟨i, List.mem_range.mp hi, rfl⟩
theorem and_ff {a c : ES} {C0 : C} {ρ : Ev.Env} {p q : Bool} (ha : a C0 ρ s = .ok (.bl p) s) (hc : c C0 ρ s = .ok (.bl q) s) (h : p = false ∨ q = false) : eAnd a c C0 ρ s = .ok (.bl false) s := by
  cases p with
  | false => exact and_f ha
  | true =>
    rw [and_t ha, hc]
    rcases h with h | h
    · cases h
    · rw [h]
theorem ev_l19 {l : List Int} (hl : l.length ≤ 1000) (hd : ∀ d ∈ l, Dig d) (hf : fromD l = mean b x) (hlast : ∀ z, l.getLast? = some z → z ≠ 0) (hgap : ∀ u v k, l[k]? = some u → l[k + 1]? = some v → u = 0 ∨ v = 0) : lS19 ⟨callN tab (m + 8), B⟩ [a0, .ref n, .int b, .int (2 ^ b.toNat), .int x, .int y, .int (mean b x), .int (mean b y), a8, a9, a10, a11, a12, .tup (l.map D.int), a14, a15, a16, a17, a18, a19] s = .nx [a0, .ref n, .int b, .int (2 ^ b.toNat), .int x, .int y, .int (mean b x), .int (mean b y), a8, a9, a10, a11, a12, .tup (l.map D.int), a14, a15, a16, a17, a18, a19] s := by
  refine guard_nx ?_
  rw [or_f (ne_f (i := fromD l) (j := mean b x) (from_call rfl hl hd rfl) rfl hf), or_f]
  · refine gt_f (i := 0) (j := 0) ?_ rfl (by omega)
    refine blt_top (x := .ref s.length) (t := [.lst []]) (comp_ok (g := none) (ds := rngI 1 (l.length - 1)) (r2_rng hl rfl) (by unfold rngI; rw [List.length_map, List.length_range]; exact Nat.le_of_lt (lim_of (by omega))) (L := []) ?_ rfl) ?_ rfl (fun _ => by simp)
    · have q := compL_filter (g := none) (i := 18) (tq := (eAnd (eOp cNe (eOp bIx (eVar 13) (eVar 18)) (eC (.int 0))) (eOp cNe (eOp bIx (eVar 13) (eOp bSub (eVar 18) (eC (.int 1)))) (eC (.int 0))))) (te := eVar 18) (c := ⟨callN tab (m + 8), s.length :: s.length :: B⟩) (ρ := wipeD [a0, .ref n, .int b, .int (2 ^ b.toNat), .int x, .int y, .int (mean b x), .int (mean b y), a8, a9, a10, a11, a12, .tup (l.map D.int), a14, a15, a16, a17, a18, a19] [18]) (s := s) (f := fun d => d) (p := fun _ => false) rfl (rngI 1 (l.length - 1)) ?_ (fun _ _ h => by cases h)
      · rw [List.filter_eq_nil_iff.mpr (fun _ _ h => by cases h), List.map_nil] at q
        exact q
      · intro d hd'
        obtain ⟨i, hi, rfl⟩ := rngI_mem1 hd'
        have hi1 : i < l.length := by omega
        have hi2 : i + 1 < l.length := by omega
        have g1 : l[i]? = some l[i] := by simp [hi1]
        have g2 : l[i + 1]? = some l[i + 1] := by simp [hi2]
        have e1 : (1 : Int) + (i : Int) = ((i + 1 : Nat) : Int) := by omega
        have e2 : ((i + 1 : Nat) : Int) - 1 = ((i : Nat) : Int) := by omega
        rw [e1]
        refine and_ff (p := !decide (l[i + 1] = 0)) (q := !decide (l[i] = 0)) ?_ ?_ ?_
        · rw [op_ok (x := .int l[i + 1]) (y := .int 0) (s1 := s) (s2 := s) ?_ rfl, cNe_int]
          rw [op_ok (x := .tup (l.map D.int)) (y := .int ((i + 1 : Nat) : Int)) (s1 := s) (s2 := s) rfl rfl]
          exact tupGet g2
        · rw [op_ok (x := .int l[i]) (y := .int 0) (s1 := s) (s2 := s) ?_ rfl, cNe_int]
          rw [op_ok (x := .tup (l.map D.int)) (y := .int ((i : Nat) : Int)) (s1 := s) (s2 := s) rfl ?_]
          · exact tupGet g1
          · rw [← e2]; rfl
        · rcases hgap _ _ i g1 g2 with h | h
          · right; rw [h]; rfl
          · left; rw [h]; rfl
    · rw [lenD_lst top_lst]; rfl
  · have hgt : eOp cGt (eBlt lenD (aCons (eVar 13) aNil)) (eC (.int 0)) ⟨callN tab (m + 8), B⟩ [a0, .ref n, .int b, .int (2 ^ b.toNat), .int x, .int y, .int (mean b x), .int (mean b y), a8, a9, a10, a11, a12, .tup (l.map D.int), a14, a15, a16, a17, a18, a19] s = .ok (.bl (decide ((l.length : Int) > 0))) s := by
      rw [op_ok (blen (l := l) fun _ => rfl) rfl, cGt_ok]
    by_cases h : l = []
    · refine and_f (hgt.trans ?_)
      rw [h, decide_eq_false (by simp)]
    · obtain ⟨z, hz⟩ : ∃ z, l.getLast? = some z := ⟨_, List.getLast?_eq_some_getLast h⟩
      refine and_ff (q := decide (z = 0)) hgt ?_ (.inr (decide_eq_false (hlast z hz)))
      rw [op_ok (x := .int z) (y := .int 0) (s1 := s) (s2 := s) ?_ rfl, cEq_int]
      rw [op_ok (x := .tup (l.map D.int)) (y := .int (-1)) (s1 := s) (s2 := s) rfl rfl]
      show ixL _ _ s = _
      refine ixL_last ?_
      rw [List.getLast?_map, hz]
      rfl
theorem ev_l20 (h0 : 1 ≤ b) (h1 : b ≤ 32) (h2 : 0 ≤ x) (h3 : x < 2 ^ b.toNat) : lS20 ⟨callN tab (m + 8), B⟩ [a0, .ref n, .int b, .int (2 ^ b.toNat), .int x, .int y, .int (mean b x), .int (mean b y), a8, a9, a10, a11, a12, .tup ((naf 40 (mean b x)).map D.int), a14, a15, a16, a17, a18, a19] s = .nx [a0, .ref n, .int b, .int (2 ^ b.toNat), .int x, .int y, .int (mean b x), .int (mean b y), a8, a9, a10, a11, a12, .tup ((naf 40 (mean b x)).map D.int), a14, a15, a16, a17, a18, a19] s := by
  refine guard_nx ?_
  have hle : eOp cLe (eVar 2) (eC (.int 7)) ⟨callN tab (m + 8), B⟩ [a0, .ref n, .int b, .int (2 ^ b.toNat), .int x, .int y, .int (mean b x), .int (mean b y), a8, a9, a10, a11, a12, .tup ((naf 40 (mean b x)).map D.int), a14, a15, a16, a17, a18, a19] s = .ok (.bl (decide (b ≤ 7))) s := rfl
  by_cases hb : b ≤ 7
  · rw [and_t (hle.trans (by rw [decide_eq_true hb]))]
    have hr := mean_rng b x h0 h2 h3
    have hm : (2 : Int) ^ (b - 1).toNat ≤ 2 ^ b.toNat := pow_mono' (by omega)
    have hlen : (naf 40 (mean b x)).length ≤ 1000 := Nat.le_trans (naf_len _ _) (by decide)
    refine ne_f (i := wN 40 (mean b x)) (j := wN 40 (mean b x)) ?_ ?_ rfl
    · exact cnt_ne (l := naf 40 (mean b x)) hlen (fun _ => rfl) (fun _ => rfl)
    · have hw := rows_fewest (k := b.toNat) (F := 40) (n := mean b x) (by omega) (by omega) (by omega) (by omega)
      have e1 : b + 1 = ((b.toNat + 1 : Nat) : Int) := by omega
      refine (call2 (i := mean b x) (j := b + 1) rfl rfl).trans ?_
      dsimp only
      rw [e1, ev_law_fewest (b.toNat + 1) (mean b x) _ (by omega) hw]
  · exact and_f (hle.trans (by rw [decide_eq_false hb]))
theorem byV_eq (h0 : 1 ≤ b) (h4 : 0 ≤ y) (h5 : y < 2 ^ b.toNat) : byV b x y = .tup [.int (mean b x * mean b y), .int (nz (digsI y 0 b.toNat 0)).length] := by
  unfold byV
  rw [byS_val, booth0 b y h0 h4 h5, show (2 : Int) ^ 0 = 1 from rfl, Int.mul_one, Int.zero_add]
theorem ev_l21 (h0 : 1 ≤ b) (h1 : b ≤ 32) (h2 : 0 ≤ x) (h3 : x < 2 ^ b.toNat) (h4 : 0 ≤ y) (h5 : y < 2 ^ b.toNat) : lS21 ⟨callN tab (m + 8), B⟩ [a0, .ref n, .int b, .int (2 ^ b.toNat), .int x, .int y, .int (mean b x), .int (mean b y), a8, a9, a10, a11, a12, a13, a14, a15, a16, a17, a18, a19] s = .nx [a0, .ref n, .int b, .int (2 ^ b.toNat), .int x, .int y, .int (mean b x), .int (mean b y), a8, a9, a10, a11, a12, a13, a14, a15, a16, a17, a18, a19] s := by
  have hr := mean_rng b y h0 h4 h5
  have hm : (2 : Int) ^ (b - 1).toNat ≤ 2 ^ 31 := pow_mono' (by omega)
  refine guard_nx (neD_f (d := .tup [.int (mean b x * mean b y), .int (nz (digsI y 0 b.toNat 0)).length]) ?_ ?_ rfl)
  · refine (call3 (i := b) (j := x) (k := y) rfl rfl rfl).trans ?_
    dsimp only
    rw [ev_by_digits b x y h0 h1 h2 h3 h4 h5, byV_eq h0 h4 h5]
  · refine tup_ok (cons_ok (s1 := s) ?_ (cons_ok (s1 := s) ?_ nil_ok)) (by simp)
    · rw [op_ok (x := .int (mean b x)) (y := .int (mean b y)) (s1 := s) (s2 := s) rfl rfl]
      exact mul_ok (mulOk_r (Int.lt_of_lt_of_le (by decide) (Int.le_trans (Int.neg_le_neg hm) hr.1)) (Int.lt_of_lt_of_le hr.2 (Int.le_trans hm (by decide))))
    · refine cnt_ne (l := digsI y 0 b.toNat 0) (by rw [digsI_len]; omega) (fun _ => ?_) (fun _ => rfl)
      refine (call2 (i := b) (j := y) rfl rfl).trans ?_
      dsimp only
      rw [ev_digits b y h0 h1 h4 h5]
end
end KL

set_option maxRecDepth 100000
namespace KL
open PySem Ev
local macro_rules | `(tactic| walk_at "st") => `(tactic| dsimp only [start0, List.length_cons, List.length_nil, List.replicate, List.cons_append, List.nil_append, Nat.reduceSub, Nat.reduceAdd])
local macro_rules | `(tactic| walk_at "ev") => `(tactic| simp (disch := omega) only [sSeq, sSet, sExpr, sRet, sRetN, sIf, sBrk, sCnt, sRaise, sNil, sAsg, sAug, sPar2, sFor, tName, tTup, tsCons, tsNil, tSub, eVar, eC, eOp, eUn, aNil, aCons, eTup, eLst, eCall, eBlt, gcF, gcE, eNot, eAnd, eOr, eIf, eChain, eTold, eMt, eSl, withPart, iR1, iR2, iR3, iSeq, Ev.iEnum, Res.bnd, Res.bndS, Res.bndA, Res.bndI, Rss.bnd, Rss.bndA, Rss.bndS, Rss.bndI, Itm.bnd, Itm.bndS, Out.bnd, Res.tst, Res.tstS, Res.tstA, gv, sv, tru, al, toRes, C.psh, endG, gOk, bAdd, bSub, uNeg, cLt, cLe, cGt, cGe, iAdd, lenD, intD, absD, if_true, if_false, Bool.false_eq_true, ite_true, ite_false, decide_true, decide_false, Bool.not_true, Bool.not_false, Bool.and_true, Bool.and_false, Bool.true_and, Bool.false_and, Int.zero_sub, and_true, true_and, and_false, false_and, not_true_eq_false, not_false_eq_true, finF_same, fin_same', cEq_int, cNe_int, decide_eq_true_eq, Bool.not_eq_true', decide_eq_false_iff_not, ite_not])
local macro_rules | `(tactic| walk_at "ew") => `(tactic| repeat (first | walk_at "ev" | (simp (disch := omega) only [ev_power_of, ev_check, ev_check_code, ev_meaning, ev_code_of, ev_widened, div_pow, mod_pow])))
theorem yg_seq {s : S} {d : D} {ns : List Int} {N : Nat} (h : seqOf s d = some (ns.map D.int)) (hl : s.length ≤ N) : D.yg N d = false := by
  cases d <;> first | (cases h; done) | skip
  case tup es => cases h; exact yg_tupI
  case frl es => cases h; rw [D.yg]; exact ygs_map_int
  case ref n =>
    have := lstOf_lt (p := n) h
    simp only [D.yg]
    exact decide_eq_false (by omega)
theorem lst_app {s t : S} {n : Nat} {ds : List D} (h : lstOf s n = some ds) : lstOf (s ++ t) n = some ds := by
  have := lstOf_lt h
  unfold lstOf at h ⊢
  rw [List.getElem?_append_left this]
  exact h
theorem hd_app {ns : List Int} {s t : S} {n : Nat} (h : Hd ns s n) : Hd ns (s ++ t) n := by
  obtain ⟨m, i, c, z, h⟩ := h
  exact ⟨m, i, c, z, lst_app h.at_, lst_app h.ns_, h.ne, h.i0, h.c0, h.z0⟩
theorem hd_lt {ns : List Int} {s : S} {n : Nat} (h : Hd ns s n) : n < s.length := by
  obtain ⟨m, i, c, z, h⟩ := h
  exact lstOf_lt h.at_
theorem set_len {s : S} {n : Nat} {o : O} : (s.set n o).length = s.length := by simp
theorem ev_law {ns : List Int} {m : Nat} {s : S} {d : D} (hd : seqOf s d = some (ns.map D.int)) : ∃ s2, callN tab (m + 9) 26 [] [d] s = .ok (.bl true) s2 := by
  have fin : ∀ {se : S}, c_law ⟨callN tab (m + 8), s.length :: []⟩ [d, .und, .und, .und, .und, .und, .und, .und, .und, .und, .und, .und, .und, .und, .und, .und, .und, .und, .und, .und] s = .rt (.bl true) se → ∃ s2, callN tab (m + 9) 26 [] [d] s = .ok (.bl true) s2 := fun e => by
    obtain ⟨s2, e2⟩ := fin_bl (b := s.length) (s := _) (p := true)
    exact ⟨s2, run_go (np := 1) (n := 20) rfl e e2⟩
  have hund : d ≠ .und := by intro e; subst e; cases hd
  obtain ⟨z, eBg, hz⟩ := ev_law_begin (k := m + 7) (B := [s.length]) hd
  have h1 := hd_begin (s := s) (ns := ns) hz
  obtain ⟨s1, hs1⟩ : ∃ s1 : S, s1 = s ++ [.lst (ns.map D.int), .lst (hnd s.length 0 0 z)] := ⟨_, rfl⟩
  obtain ⟨n, hn⟩ : ∃ n, n = s.length + 1 := ⟨_, rfl⟩
  rw [← hs1, ← hn] at eBg h1
  have hl1 : s.length ≤ s1.length := by rw [hs1]; simp
  obtain ⟨v1, es1, t1, p1, q1, h2⟩ := take_callI (k := m + 7) (B := [s.length]) (ρ := [d, .ref n, .und, .und, .und, .und, .und, .und, .und, .und, .und, .und, .und, .und, .und, .und, .und, .und, .und, .und]) (i := 1) (e := eC (.int 12)) (many := 12) h1 rfl rfl (by decide) (by decide)
  obtain ⟨s2, hs2⟩ : ∃ s2, s2 = s1.set n (.lst es1) := ⟨_, rfl⟩
  have hl2 : s2.length = s1.length := by rw [hs2, set_len]
  rw [← hs2] at t1 h2
  obtain ⟨v2, es2, t2, p2, q2, h3⟩ := take_callI (k := m + 7) (B := [s.length]) (ρ := [d, .ref n, .int (1 + v1), .und, .und, .und, .und, .und, .und, .und, .und, .und, .und, .und, .und, .und, .und, .und, .und, .und]) (i := 1) (e := eC (.int 4)) (many := 4) h2 rfl rfl (by decide) (by decide)
  obtain ⟨s3, hs3⟩ : ∃ s3, s3 = s2.set n (.lst es2) := ⟨_, rfl⟩
  have hl3 : s3.length = s1.length := by rw [hs3, set_len, hl2]
  rw [← hs3] at t2 h3
  obtain ⟨b, hb⟩ : ∃ b : Int, b = if v2 = 0 then 32 else 1 + v1 := ⟨_, rfl⟩
  have b0 : 1 ≤ b := by rw [hb]; split <;> omega
  have b1 : b ≤ 32 := by rw [hb]; split <;> omega
  have e2 : lS2 ⟨callN tab (m + 8), [s.length]⟩ [d, .ref n, .int (1 + v1), .und, .und, .und, .und, .und, .und, .und, .und, .und, .und, .und, .und, .und, .und, .und, .und, .und] s2 = .nx [d, .ref n, .int b, .und, .und, .und, .und, .und, .und, .und, .und, .und, .und, .und, .und, .und, .und, .und, .und, .und] s3 := by
    have ht : eOp cEq (eCall 20 (aCons (eVar 1) (aCons (eC (.int 4)) aNil))) (eC (.int 0)) ⟨callN tab (m + 8), [s.length]⟩ [d, .ref n, .int (1 + v1), .und, .und, .und, .und, .und, .und, .und, .und, .und, .und, .und, .und, .und, .und, .und, .und, .und] s2 = .ok (.bl (decide (v2 = 0))) s3 := by
      rw [op_ok (x := .int v2) (y := .int 0) (s1 := s3) (s2 := s3) t2 rfl, cEq_int]
    by_cases hv : v2 = 0
    · rw [if_pos hv] at hb
      rw [hb]
      exact (if_t (ht.trans (by rw [decide_eq_true hv])) rfl).trans rfl
    · rw [if_neg hv] at hb
      rw [hb]
      exact (if_f (ht.trans (by rw [decide_eq_false hv])) rfl).trans rfl
  obtain ⟨x, es3, t3, x0, x1, h4⟩ := take_code (k := m + 7) (B := [s.length]) (ρ := [d, .ref n, .int b, .int (2 ^ b.toNat), .und, .und, .und, .und, .und, .und, .und, .und, .und, .und, .und, .und, .und, .und, .und, .und]) (w := b.toNat) h3 rfl rfl
  obtain ⟨s4, hs4⟩ : ∃ s4, s4 = s3.set n (.lst es3) := ⟨_, rfl⟩
  have hl4 : s4.length = s1.length := by rw [hs4, set_len, hl3]
  rw [← hs4] at t3 h4
  obtain ⟨y, es4, t4, y0, y1, h5⟩ := take_code (k := m + 7) (B := [s.length]) (ρ := [d, .ref n, .int b, .int (2 ^ b.toNat), .int x, .und, .und, .und, .und, .und, .und, .und, .und, .und, .und, .und, .und, .und, .und, .und]) (w := b.toNat) h4 rfl rfl
  obtain ⟨s5, hs5⟩ : ∃ s5, s5 = s4.set n (.lst es4) := ⟨_, rfl⟩
  have hl5 : s5.length = s1.length := by rw [hs5, set_len, hl4]
  rw [← hs5] at t4 h5
  obtain ⟨v3, es5, t5, p5, q5, h6⟩ := take_callI (k := m + 7) (B := [s.length]) (ρ := [d, .ref n, .int b, .int (2 ^ b.toNat), .int x, .int y, .int (mean b x), .int (mean b y), .und, .und, .und, .und, .und, .und, .und, .und, .und, .und, .und, .und]) (i := 1) (e := eC (.int 900)) (many := 900) h5 rfl rfl (by decide) (by decide)
  obtain ⟨s6, hs6⟩ : ∃ s6, s6 = s5.set n (.lst es5) := ⟨_, rfl⟩
  have hl6 : s6.length = s1.length := by rw [hs6, set_len, hl5]
  rw [← hs6] at t5 h6
  obtain ⟨v4, es6, t6, p6, q6, h7⟩ := take_callI (k := m + 7) (B := [s.length]) (ρ := [d, .ref n, .int b, .int (2 ^ b.toNat), .int x, .int y, .int (mean b x), .int (mean b y), .int (v3 - 450), .bl (insB b (v3 - 450)), .und, .und, .und, .und, .und, .und, .und, .und, .und, .und]) (i := 1) (e := eOp bSub (eC (.int 33)) (eVar 2)) (many := 33 - b) h6 rfl rfl (by omega) (Int.lt_of_le_of_lt (by omega : 33 - b ≤ 32) (by decide))
  obtain ⟨s7, hs7⟩ : ∃ s7, s7 = s6.set n (.lst es6) := ⟨_, rfl⟩
  have hl7 : s7.length = s1.length := by rw [hs7, set_len, hl6]
  rw [← hs7] at t6 h7
  have hn7 := hd_lt h7
  obtain ⟨s8, hs8⟩ : ∃ s8 : S, s8 = s7 ++ [.lst ((dueL b x).map D.int)] := ⟨_, rfl⟩
  have h8 : Hd ns s8 n := by rw [hs8]; exact hd_app h7
  have hu8 : lstOf s8 s7.length = some ((dueL b x).map D.int) := by rw [hs8]; exact top_lst
  obtain ⟨y14, y15, y16, y17, e14⟩ := ev_l14 (m := m) (B := [s.length]) (s := s7) (n := n) (b := b) (x := x) (y := y) (a0 := d) (z := v3 - 450) (t := b + v4) (q := insB b (v3 - 450)) b0 b1 x0 x1 y0 y1 (yg_seq hd (by omega)) hn7
  obtain ⟨s9, e9⟩ := ev_law_part1 (m := m) (B := [s.length]) (y := y) h8 hu8 (by omega) b0 b1 x0 x1 y0 y1
  have hr40 := rch40 b0 b1 x0 x1
  refine fin (se := s9) ?_
  dsimp only [c_law]
  refine seq_go (set_ok (d := .ref n) (s1 := s1) ?_) ?_
  · rw [call_ok (cons_ok (x := d) (var_ok rfl hund) nil_ok)]
    exact eBg
  refine seq_go (ρ1 := [d, .ref n, .int (1 + v1), .und, .und, .und, .und, .und, .und, .und, .und, .und, .und, .und, .und, .und, .und, .und, .und, .und]) (s1 := s2) (set_ok (d := .int (1 + v1)) ?_) ?_
  · exact (op_ok (x := .int 1) (y := .int v1) (s1 := s1) (s2 := s2) rfl t1).trans add_ok
  refine seq_go e2 ?_
  refine seq_go (ρ1 := [d, .ref n, .int b, .int (2 ^ b.toNat), .und, .und, .und, .und, .und, .und, .und, .und, .und, .und, .und, .und, .und, .und, .und, .und]) (s1 := s3) (set_ok (d := .int (2 ^ b.toNat)) ?_) ?_
  · rw [call_ok (cons_ok (x := .int b) rfl nil_ok)]
    dsimp only
    rw [ev_law_raise b (by omega) (by omega)]
  refine seq_go (set_ok t3) ?_
  refine seq_go (set_ok t4) ?_
  refine seq_go (ρ1 := [d, .ref n, .int b, .int (2 ^ b.toNat), .int x, .int y, .int (mean b x), .und, .und, .und, .und, .und, .und, .und, .und, .und, .und, .und, .und, .und]) (s1 := s5) (set_ok (d := .int (mean b x)) ?_) ?_
  · refine (call2 (i := b) (j := x) rfl rfl).trans ?_
    dsimp only
    rw [ev_law_mean b x b0 (by omega)]
  refine seq_go (ρ1 := [d, .ref n, .int b, .int (2 ^ b.toNat), .int x, .int y, .int (mean b x), .int (mean b y), .und, .und, .und, .und, .und, .und, .und, .und, .und, .und, .und, .und]) (s1 := s5) (set_ok (d := .int (mean b y)) ?_) ?_
  · refine (call2 (i := b) (j := y) rfl rfl).trans ?_
    dsimp only
    rw [ev_law_mean b y b0 (by omega)]
  refine seq_go (ev_l8 b0 b1 x0 x1) ?_
  refine seq_go (ρ1 := [d, .ref n, .int b, .int (2 ^ b.toNat), .int x, .int y, .int (mean b x), .int (mean b y), .int (v3 - 450), .und, .und, .und, .und, .und, .und, .und, .und, .und, .und, .und]) (s1 := s6) (set_ok (d := .int (v3 - 450)) ?_) ?_
  · exact (op_ok (x := .int v3) (y := .int 450) (s1 := s6) (s2 := s6) t5 rfl).trans sub_ok
  refine seq_go ev_l10 ?_
  refine seq_go (ev_l11 b0 b1) ?_
  refine seq_go (ρ1 := [d, .ref n, .int b, .int (2 ^ b.toNat), .int x, .int y, .int (mean b x), .int (mean b y), .int (v3 - 450), .bl (insB b (v3 - 450)), .int (b + v4), .und, .und, .und, .und, .und, .und, .und, .und, .und]) (s1 := s7) (set_ok (d := .int (b + v4)) ?_) ?_
  · exact (op_ok (x := .int b) (y := .int v4) (s1 := s6) (s2 := s7) rfl t6).trans add_ok
  refine seq_go (ev_l13 b0 b1 x0 x1 (by omega) (by omega)) ?_
  refine seq_go e14 ?_
  refine seq_go (ev_l15 b0 b1 x0 x1) ?_
  refine seq_go (ρ1 := [d, .ref n, .int b, .int (2 ^ b.toNat), .int x, .int y, .int (mean b x), .int (mean b y), .int (v3 - 450), .bl (insB b (v3 - 450)), .int (b + v4), .tup ((digsI x 0 b.toNat 0).map D.int), .ref s7.length, .und, y14, y15, y16, y17, .und, .und]) (s1 := s8) (by rw [hs8]; exact ev_l16 b0 b1) ?_
  refine seq_go (ev_l17 b0 b1 x0 x1 hu8) ?_
  refine seq_go (ev_l18 b0 b1 x0 x1) ?_
  refine seq_go (ev_l19 (Nat.le_trans (naf_len _ _) (by decide)) (naf_dig _ _) (naf_val _ _ hr40) (fun z hz => naf_last _ _ z hr40 hz) (fun u v k => naf_gap _ _ u v k)) ?_
  refine seq_go (ev_l20 b0 b1 x0 x1) ?_
  refine seq_go (ev_l21 b0 b1 x0 x1 y0 y1) (seq_rt (ret_ok ?_))
  rw [call_ok (cons_ok (x := .ref n) rfl (cons_ok (x := .int b) rfl (cons_ok (x := .int x) rfl (cons_ok (x := .int y) rfl (cons_ok (x := .ref s7.length) rfl nil_ok)))))]
  exact e9
end KL

set_option maxRecDepth 100000
set_option maxHeartbeats 4000000
namespace KL
open PySem L2 Ev PyProof.Rows
theorem main (ns : List Int) (s : S) (d : D) (hn : ns.length ≤ 63) (hb : ∀ z ∈ ns, Builtin.Int.intBits z ≤ 1048576) (hd : seqOf s d = some (ns.map D.int)) : ∃ s2, callN tab (fuel + 1) 26 [] [d] s = .ok (.bl true) s2 :=
  ev_law (m := 52) hd
end KL
open PySem PySem.W PySem.Calls PyProof.Rows in
theorem PySem.Challenge.cw_machinehall_k24_whole_figures_holds : PySem.Challenge.rw_machinehall_k24_whole_figures.Holds := by
  w_on; o_law
  refine HandSHeadRun.head_any (r := OpenLaw.row PySem.Challenge.rw_machinehall_k24_whole_figures) (q := view (OpenLaw.row PySem.Challenge.rw_machinehall_k24_whole_figures).prog [32]) (H := KL.hkK) (ob := KL.obK) (M := 4000) (loose := KL.others) (d := HandSHeadRun.topDef (OpenLaw.row PySem.Challenge.rw_machinehall_k24_whole_figures).prog 32) (kwd := []) KL.ob_eq
    (by kernel_rfl) (fun s => by kernel_rfl) KL.run (by kernel_rfl) (by kernel_rfl) (by kernel_rfl) (by rfl) (by first | assumption | decide +kernel) (by decide +kernel) ⟨rfl, rfl, rfl, rfl, rfl, by decide +kernel⟩ ?hw ?hc
  case hw => w_witness2
  case hc =>
    refine LamX.walk_ofTsE (l := PySem.Challenge.rw_machinehall_k24_whole_figures) (n := 63) (k := 3 * KL.fuel + 2 + 1) (x := "script") (CX := fun w => L2.CX PySem.Challenge.pw_machinehall_k24_whole_figures w) rfl (by decide) (by kernel_rfl) ⟨rfl, by decide, by decide⟩ ?F (fun _ _ _ _ _ z => ?z)
    case z =>
      obtain ⟨_, _, _, _, _, _, _, _, _, _, _, _, z⟩ := z
      exact z
    case F =>
      intro w mg fa h Y G hmg0
      obtain ⟨K, KX, c⟩ := Y
      have hmg : mg ("law" : PySem.Str) = some (.ref fa) := by
        have e : (HandSHeadRun.topDef (OpenLaw.row PySem.Challenge.rw_machinehall_k24_whole_figures).prog 32).name = ("law" : PySem.Str) := by kernel_rfl
        rw [← e]
        exact hmg0
      exact ⟨K, KX, KL.law_at rfl KL.main KX G c hmg⟩

