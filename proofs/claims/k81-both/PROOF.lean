import PyProof.Rows.All
import Wide.All
import OpenK.AllK
import Wide.FinOn
import HandS.ForMost
import KE.DataCmp
import KE.DataEq
import KE.DataIsa
import KE.DataMinMax
import KE.DataAny
import KE.SortData
import KE.DataFind
import HandS.Exc
import HandS.ExcOwn
import HandS.CallSlots
import HandS.WordsExc
import HandS.Wide
import HandS.Flow
import HandS.IsInst
import HandS.Defaults
import HandS.TupAny
import HandS.Strs
import HandS.WordsDict
import HandS.SetFor
import HandS.Ends
import HandS.More
import HandS.Words
import HandS.Head0
import HandS.Head1
import HandS.Head2
import HandS.HeadEnd
import HandS.HeadHook1
import HandS.HeadHook2
import PyProof.P3In
import HandS.Text
import HandS.Conv
import KE.KSortTup
import KE.LtSeq
import HandS.Iter
import HandS.Zip
import HandS.Rev
import HandS.Style
import HandS.TupMul
import HandS.Deep
import HandS.Dict
import PyProof.ReprRoads
import PyProof.CallFns
import KE.KTupSum
import HandS.DictComp
import HandS.HotCalls
import HandS.ExcIs
import HandS.ExcField
import HandS.RaiseMore
import HandS.FStr
import KE.GoesMore
import KE.GoesZip
import PySem.Challenge.RW_everyweather_k81_whole_services_and_cabl
set_option Elab.async false
set_option linter.all false
set_option maxRecDepth 100000
set_option maxHeartbeats 4000000
set_option autoImplicit false
namespace Ew
open PySem (PyData Str)
/-! ## The pure side: data, the state of the draws, what code does with them -/
abbrev D := PyData
/-- the law's own store of draws: [list(script), i, c, n, salt] -/
structure Pool where
  script : List Int
  i : Nat
  c : Int
  n : Int
  salt : Int
/-- a local name's value: data; a list (a dict) that the def itself made and that nobody else holds; the store of draws -/
inductive Slot where
  | dat (d : D)
  | own (ds : List D)
  | odic (kvs : List (D × D))
  | pool
inductive Arg where
  | d (x : D)
  | pool
abbrev Rho := List (Option Slot)
/-- an exception of an own class: its name, its field -/
structure Exn where
  cls : Str
  arg : Option (Str × Int)
inductive R (α : Type) where
  | ok (a : α) (p : Pool)
  | err (x : Exn) (p : Pool)
  | stuck
abbrev M (α : Type) := Pool → R α
def M.ret {α : Type} (a : α) : M α := fun p => .ok a p
def M.stuck {α : Type} : M α := fun _ => .stuck
def M.err {α : Type} (x : Exn) : M α := fun p => .err x p
def M.bnd {α β : Type} (m : M α) (f : α → M β) : M β := fun p => match m p with
  | .ok a q => f a q
  | .err x q => .err x q
  | .stuck => .stuck
/-- an error becomes a stop (within comprehensions) -/
def M.noerr {α : Type} (m : M α) : M α := fun p => match m p with
  | .ok a q => .ok a q
  | .err _ _ => .stuck
  | .stuck => .stuck
theorem ret_app {α : Type} (a : α) (p : Pool) : (M.ret a) p = .ok a p := rfl
theorem stuck_app {α : Type} (p : Pool) : (M.stuck : M α) p = .stuck := rfl
theorem err_app {α : Type} (x : Exn) (p : Pool) : (M.err x : M α) p = .err x p := rfl
theorem bnd_app {α β : Type} (m : M α) (f : α → M β) (p : Pool) : (M.bnd m f) p = (match m p with
  | .ok a q => f a q
  | .err x q => .err x q
  | .stuck => .stuck) := rfl
theorem noerr_app {α : Type} (m : M α) (p : Pool) : (M.noerr m) p = (match m p with
  | .ok a q => .ok a q
  | .err _ _ => .stuck
  | .stuck => .stuck) := rfl

/-! ### expressions -/
abbrev DE := Rho → M D
abbrev DT := Rho → M Bool
abbrev DA := Rho → M Arg
/-- a source of a loop: its items -/
abbrev DI := Rho → M (List D)
def Slot.val? : Slot → Option D
  | .dat d => some d
  | .own ds => some (.list ds)
  | .odic kvs => some (.dict kvs)
  | .pool => none
def dVar (i : Nat) : DE := fun ρ => match ρ[i]? with
  | some (some s) => (match s.val? with
    | some d => M.ret d
    | none => M.stuck)
  | _ => M.stuck
def dC (d : D) : DE := fun _ => M.ret d
def dBin (f : D → D → M D) (a b : DE) : DE := fun ρ => M.bnd (a ρ) fun x => M.bnd (b ρ) fun y => f x y
def dUn (f : D → M D) (a : DE) : DE := fun ρ => M.bnd (a ρ) f
def dEach : List DE → Rho → M (List D)
  | [], _ => M.ret []
  | e :: es, ρ => M.bnd (e ρ) fun x => M.bnd (dEach es ρ) fun xs => M.ret (x :: xs)
def dTup (es : List DE) : DE := fun ρ => M.bnd (dEach es ρ) fun xs => M.ret (.tuple xs)
def dLst (es : List DE) : DE := fun ρ => M.bnd (dEach es ρ) fun xs => M.ret (.list xs)
def aD (e : DE) : DA := fun ρ => M.bnd (e ρ) fun x => M.ret (.d x)
def aPool (i : Nat) : DA := fun ρ => match ρ[i]? with
  | some (some .pool) => M.ret .pool
  | _ => M.stuck
def dArgs : List DA → Rho → M (List Arg)
  | [], _ => M.ret []
  | e :: es, ρ => M.bnd (e ρ) fun x => M.bnd (dArgs es ρ) fun xs => M.ret (x :: xs)
def dCall (f : List Arg → M D) (as : List DA) : DE := fun ρ => M.bnd (dArgs as ρ) f
/-- a value that must be a truth value, as a test -/
def tOf (a : DE) : DT := fun ρ => M.bnd (a ρ) fun x => match x with
  | .bool b => M.ret b
  | _ => M.stuck
def tAnd (a b : DT) : DT := fun ρ => M.bnd (a ρ) fun c => if c = true then b ρ else M.ret false
def tOr (a b : DT) : DT := fun ρ => M.bnd (a ρ) fun c => if c = true then M.ret true else b ρ
def tNot (a : DT) : DT := fun ρ => M.bnd (a ρ) fun c => M.ret (!c)
def dAnd (a b : DE) : DE := fun ρ => M.bnd (tOf a ρ) fun c => if c = true then b ρ else M.ret (.bool false)
def dOr (a b : DE) : DE := fun ρ => M.bnd (tOf a ρ) fun c => if c = true then M.ret (.bool true) else b ρ
def dNot (a : DE) : DE := fun ρ => M.bnd (tOf a ρ) fun c => M.ret (.bool (!c))
def dIf (t : DT) (a b : DE) : DE := fun ρ => M.bnd (t ρ) fun c => if c = true then a ρ else b ρ
/-- a < b < c: b once -/
def dChain (f g : D → D → M D) (a b c : DE) : DE := fun ρ => M.bnd (a ρ) fun x => M.bnd (b ρ) fun y => M.bnd (f x y) fun k => match k with
  | .bool true => M.bnd (c ρ) fun z => g y z
  | .bool false => M.ret (.bool false)
  | _ => M.stuck

/-! ### targets, comprehensions -/
abbrev Tgt := D → Rho → M Rho
def gN (i : Nat) : Tgt := fun d ρ => M.ret (ρ.set i (some (.dat d)))
def gEach : List Tgt → List D → Rho → M Rho
  | [], [], ρ => M.ret ρ
  | g :: gs, d :: ds, ρ => M.bnd (g d ρ) fun ρ' => gEach gs ds ρ'
  | _, _, _ => M.stuck
def gT (gs : List Tgt) : Tgt := fun d ρ => match d with
  | .tuple ds => if ds.length = gs.length then gEach gs ds ρ else M.stuck
  | _ => M.stuck
def wipeR (ρ : Rho) : List Nat → Rho
  | [] => ρ
  | v :: vs => (wipeR ρ vs).set v none
def compGo (f : D → M (Option D)) : List D → M (List D)
  | [] => M.ret []
  | x :: xs => M.bnd (f x) fun o => M.bnd (compGo f xs) fun r => M.ret (o.toList ++ r)
def compTurn (g : Tgt) (t : DT) (e : DE) (ρ : Rho) : D → M (Option D) := fun x => M.bnd (g x ρ) fun ρ' => M.bnd (t ρ') fun c => if c = true then M.bnd (e ρ') fun y => M.ret (some y) else M.ret none
def tTrue : DT := fun _ => M.ret true
def dComp (own : List Nat) (it : DI) (g : Tgt) (t : DT) (e : DE) : DE := fun ρ => M.bnd (it ρ) fun xs => if xs.length ≤ PySem.sizeLine then M.bnd (M.noerr (compGo (compTurn g t e (wipeR ρ own)) xs)) fun ys => M.ret (.list ys) else M.stuck

/-! ### sources -/
def iSeq (a : DE) : DI := fun ρ => M.bnd (a ρ) fun x => match x with
  | .list ds => M.ret ds
  | .tuple ds => M.ret ds
  | _ => M.stuck
def intsFrom (lo : Int) (n : Nat) : List D := (List.range n).map fun (k : Nat) => .int (lo + (k : Int))
def small62 (i : Int) : Bool := decide (-(2 ^ 62) ≤ i) && decide (i < 2 ^ 62)
def rng2 (x y : D) : M (List D) := match x, y with
  | .int i, .int j => if (small62 i && small62 j) = true then M.ret (intsFrom i (j - i).toNat) else M.stuck
  | _, _ => M.stuck
def rng1 (y : D) : M (List D) := match y with
  | .int j => if small62 j = true then M.ret (intsFrom 0 j.toNat) else M.stuck
  | _ => M.stuck
def iR1 (a : DE) : DI := fun ρ => M.bnd (a ρ) rng1
def iR2 (a b : DE) : DI := fun ρ => M.bnd (a ρ) fun x => M.bnd (b ρ) fun y => rng2 x y

/-! ### statements -/
inductive Out where
  | next (ρ : Rho)
  | ret (d : D)
  | brk (ρ : Rho)
  | cont (ρ : Rho)
abbrev DS := Rho → M Out
def sNil : DS := fun ρ => M.ret (.next ρ)
def sSeq (a b : DS) : DS := fun ρ => M.bnd (a ρ) fun o => match o with
  | .next ρ' => b ρ'
  | o => M.ret o
/-- what is the def's own alone is not seen -/
def Slot.mine : Slot → Bool
  | .own _ => true
  | .odic _ => true
  | _ => false
def hide1 : Option Slot → Option Slot
  | some s => if s.mine = true then none else some s
  | none => none
def hideR (ρ : Rho) : Rho := ρ.map hide1
mutual
/-- no list, no dict within -/
def flatD : D → Bool
  | .none | .bool _ | .int _ | .str _ => true
  | .tuple xs => flatAll xs
  | .list _ => false
  | .dict _ => false
def flatAll : List D → Bool
  | [] => true
  | x :: xs => flatD x && flatAll xs
end
/-- target = e; e does not look at the def's own lists -/
def sAsg (g : Tgt) (e : DE) : DS := fun ρ => M.bnd (e (hideR ρ)) fun d => M.bnd (g d ρ) fun ρ' => M.ret (.next ρ')
/-- .. it may, and comes to no list -/
def sAsgF (g : Tgt) (e : DE) : DS := fun ρ => M.bnd (e ρ) fun d => if flatD d = true then M.bnd (g d ρ) fun ρ' => M.ret (.next ρ') else M.stuck
/-- a new list of the def's own -/
def sOwn (i : Nat) (e : DE) : DS := fun ρ => M.bnd (e (hideR ρ)) fun d => match d with
  | .list ds => M.ret (.next (ρ.set i (some (.own ds))))
  | _ => M.stuck
/-- .. the code may look at the def's own lists, the items are none -/
def sOwnF (i : Nat) (e : DE) : DS := fun ρ => M.bnd (e ρ) fun d => match d with
  | .list ds => if flatAll ds = true then M.ret (.next (ρ.set i (some (.own ds)))) else M.stuck
  | _ => M.stuck
/-- the list at slot i is shared from here on -/
def freeze1 (ρ : Rho) (i : Nat) : Rho := match ρ[i]? with
  | some (some s) => (match s.val? with
    | some d => ρ.set i (some (.dat d))
    | none => ρ)
  | _ => ρ
def freezeR (ρ : Rho) (is : List Nat) : Rho := is.foldl freeze1 ρ
def sFreeze (is : List Nat) (s : DS) : DS := fun ρ => s (freezeR ρ is)
def sRet (e : DE) : DS := fun ρ => M.bnd (e ρ) fun d => M.ret (.ret d)
def sRetN : DS := fun _ => M.ret (.ret .none)
def sIf (t : DT) (a b : DS) : DS := fun ρ => M.bnd (t ρ) fun c => if c = true then a ρ else b ρ
def sDrop (e : DE) : DS := fun ρ => M.bnd (e ρ) fun _ => M.ret (.next ρ)
def sBrk : DS := fun ρ => M.ret (.brk ρ)
def sCont : DS := fun ρ => M.ret (.cont ρ)
/-- raise C(e) of a class without a field -/
def sRaise (c : Str) (e : DE) : DS := fun ρ => M.bnd (e ρ) fun _ => M.err ⟨c, none⟩
/-- .. with one, a whole number -/
def sRaiseI (c f : Str) (e : DE) : DS := fun ρ => M.bnd (e ρ) fun x => match x with
  | .int i => M.err ⟨c, some (f, i)⟩
  | _ => M.stuck
/-- what the handler makes of an error -/
def errD (x : Exn) : D := match x.arg with
  | none => .tuple [.str "refused", .str x.cls]
  | some (_, i) => .tuple [.str "refused", .str x.cls, .int i]
/-- try: .. except WeatherError as e: return _law_error(e), of the errors S -/
def M.tryE (S : List (Str × Option Str)) (m : M Out) : M Out := fun q => match m q with
  | .ok a q' => .ok a q'
  | .err x q' => if (x.cls, x.arg.map (fun y => y.1)) ∈ S then .ok (.ret (errD x)) q' else .stuck
  | .stuck => .stuck
def sTry (S : List (Str × Option Str)) (B : DS) : DS := fun ρ => M.tryE S (B ρ)
def forGo (g : Tgt) (body : DS) : List D → Rho → M Out
  | [], ρ => M.ret (.next ρ)
  | x :: xs, ρ => M.bnd (g x ρ) fun ρ1 => M.bnd (body ρ1) fun o => match o with
    | .next ρ2 => forGo g body xs ρ2
    | .cont ρ2 => forGo g body xs ρ2
    | .brk ρ2 => M.ret (.next ρ2)
    | .ret d => M.ret (.ret d)
def sFor (it : DI) (g : Tgt) (body : DS) : DS := fun ρ => M.bnd (it (hideR ρ)) fun xs => forGo g body xs ρ
def whileGo (t : DT) (body : DS) : Nat → Rho → M Out
  | 0, _ => M.stuck
  | n + 1, ρ => M.bnd (t ρ) fun c => if c = true then M.bnd (body ρ) fun o => (match o with
      | .next ρ2 => whileGo t body n ρ2
      | .cont ρ2 => whileGo t body n ρ2
      | .brk ρ2 => M.ret (.next ρ2)
      | .ret d => M.ret (.ret d)) else M.ret (.next ρ)
def sWhile (fuel : Nat) (t : DT) (body : DS) : DS := fun ρ => whileGo t body fuel ρ
/-- xs.append(e) of a list of one's own -/
abbrev lineMax : Nat := PySem.sizeLine
def sApp (i : Nat) (e : DE) : DS := fun ρ => match ρ[i]? with
  | some (some (.own ds)) => M.bnd (e (hideR ρ)) fun d => if ds.length < lineMax then M.ret (.next (ρ.set i (some (.own (ds ++ [d]))))) else M.stuck
  | _ => M.stuck
def sAppF (i : Nat) (e : DE) : DS := fun ρ => match ρ[i]? with
  | some (some (.own ds)) => M.bnd (e ρ) fun d => if ds.length < lineMax ∧ flatD d = true then M.ret (.next (ρ.set i (some (.own (ds ++ [d]))))) else M.stuck
  | _ => M.stuck
/-- a def -/
def argSlot : Arg → Option Slot
  | .d x => some (.dat x)
  | .pool => some .pool
def fnD (n N : Nat) (body : DS) : List Arg → M D := fun as => if as.length = n then M.bnd (body (as.map argSlot ++ List.replicate (N - n) none)) fun o => (match o with
    | .ret d => M.ret d
    | .next _ => M.ret .none
    | _ => M.stuck) else M.stuck

/-! ### operators and built-ins, by data -/
def oAdd (x y : D) : M D := match x, y with
  | .int i, .int j => M.ret (.int (i + j))
  | .tuple xs, .tuple ys => if xs.length + ys.length ≤ lineMax then M.ret (.tuple (xs ++ ys)) else M.stuck
  | .list xs, .list ys => if xs.length + ys.length ≤ lineMax then M.ret (.list (xs ++ ys)) else M.stuck
  | .str a, .str b => if a.cps.size + b.cps.size ≤ lineMax then M.ret (.str (a ++ b)) else M.stuck
  | _, _ => M.stuck
def oSub (x y : D) : M D := match x, y with
  | .int i, .int j => M.ret (.int (i - j))
  | _, _ => M.stuck
def bits (i : Int) : Nat := i.natAbs.log2
def mulOk (i j : Int) : Prop := ((-(2 ^ 64) < i ∧ i < 2 ^ 64) ∨ (-(2 ^ 64) < j ∧ j < 2 ^ 64)) ∨ bits i + bits j < 1000000
instance (i j : Int) : Decidable (mulOk i j) := by unfold mulOk; infer_instance
def oMul (x y : D) : M D := match x, y with
  | .int i, .int j => if mulOk i j then M.ret (.int (i * j)) else M.stuck
  | _, _ => M.stuck
def oFdiv (x y : D) : M D := match x, y with
  | .int i, .int j => if 0 < j ∧ j < 2 ^ 2000 then M.ret (.int (i / j)) else M.stuck
  | _, _ => M.stuck
def oMod (x y : D) : M D := match x, y with
  | .int i, .int j => if 0 < j then M.ret (.int (i % j)) else M.stuck
  | _, _ => M.stuck
def deep : Nat := 100
def eqD (x y : D) : Option Bool := match x, y with
  | .int i, .int j => some (decide (i = j))
  | .str a, .str b => some (decide (a = b))
  | _, _ => if (x.plain && y.plain) = true ∧ x.depth ≤ deep then some (PyData.eqv x y) else none
def oEq (x y : D) : M D := match eqD x y with
  | some b => M.ret (.bool b)
  | none => M.stuck
def oNe (x y : D) : M D := match eqD x y with
  | some b => M.ret (.bool (!b))
  | none => M.stuck
def cmpI (f : Int → Int → Bool) (x y : D) : M D := match x, y with
  | .int i, .int j => M.ret (.bool (f i j))
  | _, _ => M.stuck
def oLt := cmpI fun i j => decide (i < j)
def oLe := cmpI fun i j => decide (i ≤ j)
def oGt := cmpI fun i j => decide (j < i)
def oGe := cmpI fun i j => decide (j ≤ i)
def isN (x : D) : Bool := match x with
  | .none => true
  | _ => false
def oIsN (x : D) : M D := M.ret (.bool (isN x))
def oNotN (x : D) : M D := M.ret (.bool (!isN x))
def uNeg (x : D) : M D := match x with
  | .int i => M.ret (.int (-i))
  | _ => M.stuck
/-- an item by its place, from either end -/
abbrev atD (xs : List D) (i : Int) : Option D := L2.atI xs i
def oIx (x y : D) : M D := match x, y with
  | .list xs, .int i => (match atD xs i with
    | some d => M.ret d
    | none => M.stuck)
  | .tuple xs, .int i => (match atD xs i with
    | some d => M.ret d
    | none => M.stuck)
  | _, _ => M.stuck
def bLen (x : D) : M D := match x with
  | .list xs => M.ret (.int xs.length)
  | .tuple xs => M.ret (.int xs.length)
  | .str a => if a.cps.size ≤ lineMax then M.ret (.int a.cps.size) else M.stuck
  | .dict kvs => M.ret (.int kvs.length)
  | _ => M.stuck
def bIsTup (x : D) : M D := M.ret (.bool x.isTuple)
def bIsLst (x : D) : M D := M.ret (.bool x.isList)
def bIsInt (x : D) : M D := M.ret (.bool x.isInt)
def bIsBool (x : D) : M D := M.ret (.bool x.isBool)
def bIsStr (x : D) : M D := M.ret (.bool x.isStr)
def bTuple (x : D) : M D := match x with
  | .list xs => M.ret (.tuple xs)
  | .tuple xs => M.ret (.tuple xs)
  | _ => M.stuck
def bList (x : D) : M D := match x with
  | .list xs => M.ret (.list xs)
  | .tuple xs => M.ret (.list xs)
  | _ => M.stuck
def bAbs (x : D) : M D := match x with
  | .int i => M.ret (.int (if i < 0 then -i else i))
  | _ => M.stuck
/-- all items are whole numbers -/
def ints? : List D → Option (List Int)
  | [] => some []
  | .int i :: r => (ints? r).map (i :: ·)
  | _ :: _ => none
/-- a number put into an ascending list -/
def insU (x : Int) : List Int → List Int
  | [] => [x]
  | y :: r => if x < y then x :: y :: r else if x = y then y :: r else y :: insU x r
def sortU (xs : List Int) : List Int := xs.foldl (fun acc x => insU x acc) []
/-- sorted(set(xs)) of whole numbers -/
def bSortedSet (x : D) : M D := match x with
  | .list xs => (match ints? xs with
    | some ns => if xs.length < 64 then M.ret (.list ((sortU ns).map .int)) else M.stuck
    | none => M.stuck)
  | _ => M.stuck

/-! ### the draws -/
def spread1 (s : Int × Int) (k : Int) : Int × Int := ((s.1 * 48271 + 12345 + k) % 2147483647, s.2 * 2147483647 + (s.1 * 48271 + 12345 + k) % 2147483647)
def spreadF (cell : Int) : Int := (spread1 (spread1 (spread1 (spread1 (cell % 2147483647, 1) 0) 1) 2) 3).2
def takeCell (q : Pool) : Pool := if q.c ≤ 0 then (match q.script[q.i]? with
  | some cell => { q with i := q.i + 1, c := if cell < 1000000000000000000 then spreadF cell else cell }
  | none => q) else q
def tick (q : Pool) : Pool := { q with n := q.n + 1 }
def mixF (q : Pool) : Int := (((q.salt * 48271 + q.n * 69621 + 1) % 2147483647) * 16807 + q.n) % 2147483629
def drawF (many : Int) : M D := fun q => if 0 < many ∧ many < 2 ^ 2000 then (let q1 := tick (takeCell q)
  if q1.c ≤ 0 then .ok (.int (mixF q1 / 5 % many)) q1 else .ok (.int (q1.c % many)) { q1 with c := q1.c / many }) else .stuck
def F_draw : List Arg → M D
  | [.pool, .d (.int many)] => drawF many
  | _ => M.stuck
/-- what a draw gives lies below its bound -/
theorem draw_ok (many : Int) (h : 0 < many) (h2 : many < 2 ^ 2000) (q : Pool) : ∃ (v : Int) (q' : Pool), drawF many q = .ok (.int v) q' ∧ 0 ≤ v ∧ v < many := by
  unfold drawF
  rw [if_pos ⟨h, h2⟩]
  dsimp only
  by_cases hc : (tick (takeCell q)).c ≤ 0
  · rw [if_pos hc]
    exact ⟨_, _, rfl, Int.emod_nonneg _ (by omega), Int.emod_lt_of_pos _ h⟩
  · rw [if_neg hc]
    exact ⟨_, _, rfl, Int.emod_nonneg _ (by omega), Int.emod_lt_of_pos _ h⟩
end Ew
namespace Ew
open PySem PySem.Spec PyProof.Rows L2
/-! ## How data stand in the heap -/
abbrev Rg := Addr → Prop
def keyD : Key → D
  | .inl i => .int i
  | .inr x => .str x
mutual
/-- v stands for the datum; its lists and dicts lie in the region Z -/
inductive Rp (K : PySem.W.Frag) (Z : Rg) (H : Hp) : V → D → Prop
  | non : Rp K Z H .non .none
  | bl (b : Bool) : Rp K Z H (.bl b) (.bool b)
  | int (i : Int) : Rp K Z H (.int i) (.int i)
  | str (x : Str) : Rp K Z H (.str x) (.str x)
  | tup {a : Addr} {vs : List V} {ds : List D} : SqT K H a vs → RpL K Z H vs ds → Rp K Z H (.ref a) (.tuple ds)
  | lst {a : Addr} {vs : List V} {ds : List D} : H a = some (.lst vs) → Z a → RpL K Z H vs ds → Rp K Z H (.ref a) (.list ds)
  | dic {a : Addr} {kvs : List (Key × V)} {ds : List (D × D)} : Rd H a (.dK kvs) → Z a → ds.map (fun q => q.1) = kvs.map (fun q => keyD q.1) → RpL K Z H (kvs.map fun q => q.2) (ds.map fun q => q.2) → Rp K Z H (.ref a) (.dict ds)
inductive RpL (K : PySem.W.Frag) (Z : Rg) (H : Hp) : List V → List D → Prop
  | nil : RpL K Z H [] []
  | cons {v : V} {vs : List V} {d : D} {ds : List D} : Rp K Z H v d → RpL K Z H vs ds → RpL K Z H (v :: vs) (d :: ds)
end
/-- what region, tuples and known things stay as they are -/
structure Stand (Z : Rg) (H H' : Hp) : Prop where
  rg : ∀ b o, Z b → H b = some o → H' b = some o
  tup : ∀ b xs, H b = some (.tup xs) → H' b = some (.tup xs)
  frz : ∀ b o u, H b = some (.frz o u) → H' b = some (.frz o u)
theorem Stand.refl (Z : Rg) (H : Hp) : Stand Z H H := ⟨fun _ _ _ h => h, fun _ _ h => h, fun _ _ _ h => h⟩
theorem Stand.trans {Z : Rg} {H H1 H2 : Hp} (a : Stand Z H H1) (b : Stand Z H1 H2) : Stand Z H H2 := ⟨fun c o z h => b.rg c o z (a.rg c o z h), fun c xs h => b.tup c xs (a.tup c xs h), fun c o u h => b.frz c o u (a.frz c o u h)⟩
theorem Stand.sub {Z Z' : Rg} {H H' : Hp} (a : Stand Z H H') (h : ∀ b, Z' b → Z b) : Stand Z' H H' := ⟨fun b o z q => a.rg b o (h b z) q, a.tup, a.frz⟩
section
variable {K : PySem.W.Frag} {Z Z' : Rg} {H H' : Hp}
theorem Stand.sqT {a : Addr} {vs : List V} (s : Stand Z H H') (h : SqT K H a vs) : SqT K H' a vs := by
  rcases h with (h | ⟨o, h⟩) | h
  · exact .inl (.inl (s.tup _ _ h))
  · exact .inl (.inr ⟨o, s.frz _ _ _ h⟩)
  · exact .inr h
theorem Stand.rd {a : Addr} {u : HO} (s : Stand Z H H') (z : Z a) (h : Rd H a u) : Rd H' a u := by
  rcases h with h | ⟨o, h⟩
  · exact .inl (s.rg _ _ z h)
  · exact .inr ⟨o, s.rg _ _ z h⟩
theorem rd_some {a : Addr} {u : HO} (h : Rd H a u) : H a ≠ none := by
  rcases h with h | ⟨o, h⟩ <;> rw [h] <;> exact Option.some_ne_none _
mutual
theorem Rp.stand (s : Stand Z H H') : ∀ {v : V} {d : D}, Rp K Z H v d → Rp K Z H' v d
  | _, _, .non => .non
  | _, _, .bl b => .bl b
  | _, _, .int i => .int i
  | _, _, .str x => .str x
  | _, _, .tup h r => .tup (s.sqT h) (RpL.stand s r)
  | _, _, .lst h z r => .lst (s.rg _ _ z h) z (RpL.stand s r)
  | _, _, .dic h z e r => .dic (s.rd z h) z e (RpL.stand s r)
theorem RpL.stand (s : Stand Z H H') : ∀ {vs : List V} {ds : List D}, RpL K Z H vs ds → RpL K Z H' vs ds
  | _, _, .nil => .nil
  | _, _, .cons h r => .cons (Rp.stand s h) (RpL.stand s r)
end
mutual
theorem Rp.sub (s : ∀ b, Z b → H b ≠ none → Z' b) : ∀ {v : V} {d : D}, Rp K Z H v d → Rp K Z' H v d
  | _, _, .non => .non
  | _, _, .bl b => .bl b
  | _, _, .int i => .int i
  | _, _, .str x => .str x
  | _, _, .tup h r => .tup h (RpL.sub s r)
  | _, _, .lst h z r => .lst h (s _ z (by rw [h]; exact Option.some_ne_none _)) (RpL.sub s r)
  | _, _, .dic h z e r => .dic h (s _ z (rd_some h)) e (RpL.sub s r)
theorem RpL.sub (s : ∀ b, Z b → H b ≠ none → Z' b) : ∀ {vs : List V} {ds : List D}, RpL K Z H vs ds → RpL K Z' H vs ds
  | _, _, .nil => .nil
  | _, _, .cons h r => .cons (Rp.sub s h) (RpL.sub s r)
end
theorem Rp.grow (s : ∀ b, Z b → Z' b) {v : V} {d : D} (r : Rp K Z H v d) : Rp K Z' H v d := r.sub fun b z _ => s b z
theorem RpL.grow (s : ∀ b, Z b → Z' b) {v : List V} {d : List D} (r : RpL K Z H v d) : RpL K Z' H v d := r.sub fun b z _ => s b z
theorem RpL.length : ∀ {vs : List V} {ds : List D}, RpL K Z H vs ds → vs.length = ds.length
  | _, _, .nil => rfl
  | _, _, .cons _ r => by rw [List.length_cons, List.length_cons, RpL.length r]
theorem RpL.append : ∀ {vs ws : List V} {ds es : List D}, RpL K Z H vs ds → RpL K Z H ws es → RpL K Z H (vs ++ ws) (ds ++ es)
  | _, _, _, _, .nil, s => s
  | _, _, _, _, .cons h r, s => .cons h (RpL.append r s)
theorem RpL.one {v : V} {d : D} (h : Rp K Z H v d) : RpL K Z H [v] [d] := .cons h .nil
theorem RpL.at : ∀ {vs : List V} {ds : List D} {i : Nat} {d : D}, RpL K Z H vs ds → ds[i]? = some d → ∃ v, vs[i]? = some v ∧ Rp K Z H v d
  | _, _, _, _, .nil, e => by simp at e
  | _, _, 0, _, .cons h _, e => by simp at e; subst e; exact ⟨_, rfl, h⟩
  | _, _, i + 1, d, .cons _ r, e => by
    obtain ⟨v, h1, h2⟩ := RpL.at (i := i) (d := d) r (by simpa using e)
    exact ⟨v, by simpa using h1, h2⟩
theorem RpL.at' : ∀ {vs : List V} {ds : List D} {i : Nat} {v : V}, RpL K Z H vs ds → vs[i]? = some v → ∃ d, ds[i]? = some d ∧ Rp K Z H v d
  | _, _, _, _, .nil, e => by simp at e
  | _, _, 0, _, .cons h _, e => by simp at e; subst e; exact ⟨_, rfl, h⟩
  | _, _, i + 1, v, .cons _ r, e => by
    obtain ⟨d, h1, h2⟩ := RpL.at' (i := i) (v := v) r (by simpa using e)
    exact ⟨d, by simpa using h1, h2⟩
theorem RpL.ints : ∀ (ns : List Int), RpL K Z H (ns.map V.int) (ns.map PyData.int)
  | [] => .nil
  | n :: ns => .cons (.int n) (RpL.ints ns)
theorem RpL.set : ∀ {vs : List V} {ds : List D} {v : V} {d : D} (i : Nat), RpL K Z H vs ds → Rp K Z H v d → RpL K Z H (vs.set i v) (ds.set i d)
  | _, _, _, _, _, .nil, _ => .nil
  | _, _, _, _, 0, .cons _ r, h => .cons h r
  | _, _, _, _, i + 1, .cons q r, h => .cons q (RpL.set i r h)
theorem RpL.take : ∀ {vs : List V} {ds : List D} (n : Nat), RpL K Z H vs ds → RpL K Z H (vs.take n) (ds.take n)
  | _, _, 0, _ => .nil
  | _, _, _ + 1, .nil => .nil
  | _, _, n + 1, .cons h r => .cons h (RpL.take n r)
theorem RpL.drop : ∀ {vs : List V} {ds : List D} (n : Nat), RpL K Z H vs ds → RpL K Z H (vs.drop n) (ds.drop n)
  | _, _, 0, r => r
  | _, _, _ + 1, .nil => .nil
  | _, _, n + 1, .cons _ r => RpL.drop n r
theorem RpL.reverse : ∀ {vs : List V} {ds : List D}, RpL K Z H vs ds → RpL K Z H vs.reverse ds.reverse
  | _, _, .nil => .nil
  | _, _, .cons h r => by rw [List.reverse_cons, List.reverse_cons]; exact (RpL.reverse r).append (.one h)
/-- without lists and dicts within, the region does not matter -/
theorem Rp.atI {vs : List V} {ds : List D} {i : Int} {d : D} (r : RpL K Z H vs ds) (h : L2.atI ds i = some d) : ∃ v, L2.atI vs i = some v ∧ Rp K Z H v d := by
  unfold L2.atI at h ⊢
  rw [r.length]
  cases e : ixN ds.length i with
  | none => rw [e] at h; cases h
  | some j =>
    rw [e] at h
    exact r.at h
end
section
variable {K : PySem.W.Frag} {Z Z' : Rg} {H H' : Hp}
mutual
theorem Rp.flat : ∀ {v : V} {d : D}, flatD d = true → Rp K Z H v d → Rp K Z' H v d
  | _, _, _, .non => .non
  | _, _, _, .bl b => .bl b
  | _, _, _, .int i => .int i
  | _, _, _, .str x => .str x
  | _, _, e, .tup h r => .tup h (RpL.flat (by rw [flatD] at e; exact e) r)
  | _, _, e, .lst h z r => by rw [flatD] at e; cases e
  | _, _, e, .dic h z _ r => by rw [flatD] at e; cases e
theorem RpL.flat : ∀ {vs : List V} {ds : List D}, flatAll ds = true → RpL K Z H vs ds → RpL K Z' H vs ds
  | _, _, _, .nil => .nil
  | _, _, e, .cons h r => by
    rw [flatAll, Bool.and_eq_true] at e
    exact .cons (Rp.flat e.1 h) (RpL.flat e.2 r)
end
end
/-! ### what the library reads -/
section
variable {X : Cx} {pins : List (Addr × Obj)} {σ : L2.St} {H : Hp} {s : Shared} {Z : Rg}
theorem keys_reads {h : Heap} : ∀ {kvs : List (Key × V)} {vs : List (Key × Value)} {es : List DictEntry}, KV kvs vs → Pairs (mixKind X.prog X.w) es vs → (∃ as, ReadsAll h (es.map (·.key)) (kvs.map fun q => keyD q.1) as) ∧ Vals (kvs.map fun q => q.2) (es.map (·.val))
  | _, _, _, .nil, p => by
    cases p
    exact ⟨⟨_, .nil⟩, .nil⟩
  | _, _, _, .cons (a := q) (b := q') r rs, p => by
    cases p with
    | cons h1 h2 h3 =>
      obtain ⟨⟨as, q1⟩, q2⟩ := keys_reads (h := h) rs h3
      obtain ⟨e1, e2⟩ := r
      rw [mixKind_is] at h1
      refine ⟨?_, .cons (by dsimp only; rw [h2]; exact e2) q2⟩
      rcases keyIs_shape h1 with ⟨i, t, e3, e4⟩ | ⟨x, t, e3, e4⟩
      · exact ⟨_, ReadsAll.cons (as := []) (by dsimp only; rw [e4, e1, e3]; exact .int i t) q1⟩
      · exact ⟨_, ReadsAll.cons (as := []) (by dsimp only; rw [e4, e1, e3]; exact .str x t) q1⟩
mutual
theorem Rp.reads (I : Inv X pins σ H s) : ∀ {v : V} {d : D} (u : Value), Rp X.K Z H v d → RelV v u → ∃ as, Reads s.heap u d as
  | _, _, u, .non, ru => by cases ru; exact ⟨_, .none⟩
  | _, _, u, .bl b, ru => by cases ru; exact ⟨_, .bool b⟩
  | _, _, u, .int i, ru => by obtain ⟨t, rfl⟩ := ru; exact ⟨_, .int i t⟩
  | _, _, u, .str x, ru => by obtain ⟨t, rfl⟩ := ru; exact ⟨_, .str x t⟩
  | _, _, u, .tup h r, ru => by
    cases ru
    obtain ⟨its, rv, ⟨o, ho, hc, n, hd⟩, hz⟩ := I.tuple h
    obtain ⟨as, q⟩ := RpL.reads I its r rv
    exact ⟨_, .tuple ho hc hd (by simpa using q)⟩
  | _, _, u, .lst h z r, ru => by
    cases ru
    obtain ⟨its, rv, ⟨o, n, ho, hc, hd, hs⟩, hz⟩ := I.list (.inl (.inl h))
    obtain ⟨as, q⟩ := RpL.reads I its r rv
    exact ⟨_, .list ho hc hs (by simpa using q)⟩
  | _, _, u, .dic (a := a) (kvs := kvs) (ds := ds) h z e r, ru => by
    cases ru
    obtain ⟨hz, hm, vs, kv, o, es, ep, ho, hx, hd, hk, he, hn⟩ := h.ok I.hok
    obtain ⟨⟨as, q1⟩, q2⟩ := keys_reads (X := X) (h := s.heap) kv he
    obtain ⟨bs, q3⟩ := RpL.reads I _ r q2
    exact ⟨_, .dict ho hx.1 hd (by rw [show ds.map (·.1) = ds.map (fun q => q.1) from rfl, e]; exact q1) q3⟩
theorem RpL.reads (I : Inv X pins σ H s) : ∀ {vs : List V} {ds : List D} (us : List Value), RpL X.K Z H vs ds → Vals vs us → ∃ as, ReadsAll s.heap us ds as
  | _, _, us, .nil, ru => by cases ru; exact ⟨_, .nil⟩
  | _, _, us, .cons h r, ru => by
    cases ru with
    | cons r1 r2 =>
      obtain ⟨as, q1⟩ := Rp.reads I _ h r1
      obtain ⟨bs, q2⟩ := RpL.reads I _ r r2
      exact ⟨_, .cons q1 q2⟩
end
end

/-! ## Where code stands, what it promises -/
/-- all but the store of draws stands as it was -/
def Keep (p : Addr) (H H' : Hp) : Prop := ∀ b o, b ≠ p → H b = some o → H' b = some o
theorem Keep.refl (p : Addr) (H : Hp) : Keep p H H := fun _ _ _ h => h
theorem Keep.trans {p : Addr} {H H1 H2 : Hp} (a : Keep p H H1) (b : Keep p H1 H2) : Keep p H H2 := fun c o n h => b c o n (a c o n h)
/-- the store of draws at p, its script at sc -/
def PoolAt (p sc : Addr) (H : Hp) (q : Pool) : Prop := H p = some (.lst [.ref sc, .int (q.i : Int), .int q.c, .int q.n, .int q.salt]) ∧ H sc = some (.lst (q.script.map V.int)) ∧ sc ≠ p
/-- the region, and what is made from here on -/
def Zn (Z : Rg) (H : Hp) : Rg := fun b => Z b ∨ H b = none
section
variable {p sc : Addr} {H H1 H2 : Hp} {q q1 : Pool} {Z Z' : Rg}
theorem none_back (k : Keep p H H1) (b : PoolAt p sc H1 q1) {c : Addr} (h : H1 c = none) : H c = none := by
  cases e : H c with
  | none => rfl
  | some o =>
    by_cases hc : c = p
    · subst hc; rw [b.1] at h; cases h
    · rw [k c o hc e] at h; cases h
theorem Zn.step (k : Keep p H H1) (a : PoolAt p sc H q) (b : PoolAt p sc H1 q1) : ∀ c, Zn Z H1 c → Zn Z H c := fun c h => by
  rcases h with h | h
  · exact .inl h
  · refine .inr ?_
    cases e : H c with
    | none => rfl
    | some o =>
      by_cases hc : c = p
      · subst hc; rw [b.1] at h; cases h
      · rw [k c o hc e] at h; cases h
theorem Zn.twice (k : Keep p H H1) (a : PoolAt p sc H q) (b : PoolAt p sc H1 q1) : ∀ c, Zn (Zn Z H) H1 c → Zn Z H c := fun c h => by
  rcases h with h | h
  · exact h
  · exact Zn.step k a b c (.inr h)
theorem Zn.base : ∀ c, Z c → Zn Z H c := fun _ h => .inl h
theorem Zn.mono (h : ∀ c, Z c → Z' c) : ∀ c, Zn Z H c → Zn Z' H c := fun c z => z.elim (fun z => .inl (h c z)) .inr
theorem Zn.nop (a : PoolAt p sc H q) (nz : ¬ Z p) : ¬ Zn Z H p := fun h => h.elim nz fun e => by rw [a.1] at e; cases e
theorem Keep.stand (k : Keep p H H1) (a : PoolAt p sc H q) (nz : ¬ Z p) : Stand Z H H1 :=
  ⟨fun b o z h => k b o (fun e => nz (e ▸ z)) h, fun b xs h => k b _ (fun e => by rw [e, a.1] at h; cases h) h, fun b o u h => k b _ (fun e => by rw [e, a.1] at h; cases h) h⟩
end
/-- an exception of an own class that leaves -/
def ExR (mg : Str → Option Value) (H' : Hp) (x : Exn) (c : Value) (od : Option Addr) : Prop :=
  ∃ C, mg x.cls = some (.ref C) ∧ c = .ref C ∧ match x.arg with
    | none => od = none
    | some (f, i) => ∃ dd, od = some dd ∧ H' dd = some (.xd [(f, .int i)])
/-- where code is run: its facts, the store of draws -/
structure At (X : Cx) where
  p : Addr
  sc : Addr
def Post {α β : Type} (mg : Str → Option Value) (p sc : Addr) (H : Hp) (Rel : Hp → β → α → Prop) (W : Value → Option Addr → Hp → Prop) (Q : β → Hp → Prop) : R α → Prop
  | .ok a q => ∀ b H', Keep p H H' → PoolAt p sc H' q → Rel H' b a → Q b H'
  | .err x q => ∀ c od H', Keep p H H' → PoolAt p sc H' q → ExR mg H' x c od → W c od H'
  | .stuck => False
/-- the step from one piece of code to the next -/
theorem Post.bnd {α β α' β' : Type} {mg : Str → Option Value} {p sc : Addr} {H : Hp} {Rel : Hp → β → α → Prop} {Rel' : Hp → β' → α' → Prop} {W : Value → Option Addr → Hp → Prop} {Q : β' → Hp → Prop} {m : M α} {f : α → M α'} {q : Pool}
    (h : Post mg p sc H Rel' W Q (M.bnd m f q)) : Post mg p sc H Rel W (fun b H1 => ∃ a q1, m q = .ok a q1 ∧ Keep p H H1 ∧ PoolAt p sc H1 q1 ∧ Rel H1 b a ∧ Post mg p sc H Rel' W Q (f a q1)) (m q) := by
  unfold M.bnd at h
  cases e : m q with
  | ok a q1 =>
    rw [e] at h
    intro b H1 k pl r
    exact ⟨a, q1, rfl, k, pl, r, h⟩
  | err x q1 =>
    rw [e] at h
    exact h
  | stuck =>
    rw [e] at h
    exact h.elim
theorem Post.later {α β : Type} {mg : Str → Option Value} {p sc : Addr} {H H1 : Hp} {Rel : Hp → β → α → Prop} {W : Value → Option Addr → Hp → Prop} {Q : β → Hp → Prop} {r : R α} (k : Keep p H H1) (h : Post mg p sc H Rel W Q r) : Post mg p sc H1 Rel W Q r := by
  cases r with
  | ok a q => exact fun b H' k' pl rl => h b H' (k.trans k') pl rl
  | err x q => exact fun c od H' k' pl rl => h c od H' (k.trans k') pl rl
  | stuck => exact h
theorem Post.imp {α β : Type} {mg : Str → Option Value} {p sc : Addr} {H : Hp} {Rel Rel' : Hp → β → α → Prop} {W : Value → Option Addr → Hp → Prop} {Q : β → Hp → Prop} {r : R α} (h : Post mg p sc H Rel W Q r)
    (hr : ∀ H' b a, Rel' H' b a → Rel H' b a) : Post mg p sc H Rel' W Q r := by
  cases r with
  | ok a q => exact fun b H' k' pl rl => h b H' k' pl (hr _ _ _ rl)
  | err x q => exact h
  | stuck => exact h
theorem Post.to {α β : Type} {mg : Str → Option Value} {p sc : Addr} {H : Hp} {Rel : Hp → β → α → Prop} {W : Value → Option Addr → Hp → Prop} {Q Q' : β → Hp → Prop} {r : R α} (h : Post mg p sc H Rel W Q r)
    (hq : ∀ b H', Q b H' → Q' b H') : Post mg p sc H Rel W Q' r := by
  cases r with
  | ok a q => exact fun b H' k' pl rl => hq _ _ (h b H' k' pl rl)
  | err x q => exact h
  | stuck => exact h
/-- the names' values, all as data -/
def EnvR (K : PySem.W.Frag) (p : Addr) (Z : Rg) (σ : L2.St) (H : Hp) (ρ : Rho) : Prop := ∀ (i : Nat) (s : Slot), ρ[i]? = some (some s) → match s.val? with
  | some d => ∃ v, σ[i]? = some (some v) ∧ Rp K Z H v d
  | none => σ[i]? = some (some (.ref p))
theorem EnvR.stand {K : PySem.W.Frag} {p : Addr} {Z : Rg} {σ : L2.St} {H H' : Hp} {ρ : Rho} (e : EnvR K p Z σ H ρ) (s : Stand Z H H') : EnvR K p Z σ H' ρ := fun i sl h => by
  have q := e i sl h
  cases z : sl.val? with
  | some d =>
    rw [z] at q
    obtain ⟨v, h1, h2⟩ := q
    exact ⟨v, h1, h2.stand s⟩
  | none =>
    rw [z] at q
    exact q
theorem EnvR.grow {K : PySem.W.Frag} {p : Addr} {Z Z' : Rg} {σ : L2.St} {H : Hp} {ρ : Rho} (e : EnvR K p Z σ H ρ) (s : ∀ b, Z b → Z' b) : EnvR K p Z' σ H ρ := fun i sl h => by
  have q := e i sl h
  cases z : sl.val? with
  | some d =>
    rw [z] at q
    obtain ⟨v, h1, h2⟩ := q
    exact ⟨v, h1, h2.grow s⟩
  | none =>
    rw [z] at q
    exact q
/-- where code is run -/
structure Sit (K : PySem.W.Frag) (p sc : Addr) (Z : Rg) (σ : L2.St) (H : Hp) (ρ : Rho) (q : Pool) : Prop where
  env : EnvR K p Z σ H ρ
  pool : PoolAt p sc H q
  nz : ¬ Z p
  len : ρ.length = σ.length
theorem Sit.next {K : PySem.W.Frag} {p sc : Addr} {Z : Rg} {σ : L2.St} {H H1 : Hp} {ρ : Rho} {q q1 : Pool} (s : Sit K p sc Z σ H ρ q) (k : Keep p H H1) (a : PoolAt p sc H1 q1) : Sit K p sc Z σ H1 ρ q1 :=
  ⟨s.env.stand (k.stand s.pool s.nz), a, s.nz, s.len⟩
/-- a reading with a result, a relation of what it comes to -/
abbrev RT (β : Type) := L2.St → Hp → (β → Hp → Prop) → Prop
abbrev RelT (β α : Type) := Addr → Rg → Hp → Hp → β → α → Prop
/-- THE JUDGEMENT of a reading: what it comes to -/
def Rd1 {α β : Type} (X : Cx) (W : WX) (Rel : RelT β α) (t : RT β) (F : Rho → M α) : Prop := ∀ (p sc : Addr) (Z : Rg) (σ : L2.St) (H : Hp) (ρ : Rho) (q : Pool) (Q : β → Hp → Prop), Sit X.K p sc Z σ H ρ q →
  Post X.mg p sc H (Rel p Z H) (fun c od H' => W c od σ H') Q (F ρ q) → t σ H Q
abbrev RpF (K : PySem.W.Frag) : RelT V D := fun _ Z H H' v d => Rp K (Zn Z H) H' v d
abbrev RlF (K : PySem.W.Frag) (n : Nat) : RelT (List V) (List D) := fun _ Z H H' v d => RpL K (Zn Z H) H' v d ∧ v.length = n
abbrev BoF : RelT Bool Bool := fun _ _ _ _ c b => c = b
/-- arguments: data, or the store of draws -/
def ArgR (K : PySem.W.Frag) (p : Addr) (Z : Rg) (H : Hp) : List V → List Arg → Prop
  | [], [] => True
  | v :: vs, .d x :: as => Rp K Z H v x ∧ ArgR K p Z H vs as
  | v :: vs, .pool :: as => v = .ref p ∧ ArgR K p Z H vs as
  | _, _ => False
/-- a list made by this very piece of code -/
def NewF (K : PySem.W.Frag) : RelT V D := fun _ Z H H' v d => ∃ a vs ds, v = .ref a ∧ d = .list ds ∧ H a = none ∧ H' a = some (.lst vs) ∧ RpL K (fun b => Zn Z H b ∧ b ≠ a) H' vs ds
def Shf {α β : Type} (Rel : RelT β α) : Prop := ∀ (p sc : Addr) (Z : Rg) (H H2 H' : Hp) (q q2 : Pool) (b : β) (a : α), Keep p H H2 → PoolAt p sc H q → PoolAt p sc H2 q2 → Rel p (Zn Z H) H2 H' b a → Rel p Z H H' b a
abbrev ArF (K : PySem.W.Frag) : RelT (List V) (List Arg) := fun p Z H H' v d => ArgR K p (Zn Z H) H' v d
theorem ArgR.grow {K : PySem.W.Frag} {p : Addr} {Z Z' : Rg} {H : Hp} (s : ∀ b, Z b → Z' b) : ∀ {vs : List V} {as : List Arg}, ArgR K p Z H vs as → ArgR K p Z' H vs as
  | [], [], _ => trivial
  | _ :: _, .d _ :: _, h => ⟨h.1.grow s, ArgR.grow s h.2⟩
  | _ :: _, .pool :: _, h => ⟨h.1, ArgR.grow s h.2⟩
theorem ArgR.stand {K : PySem.W.Frag} {p : Addr} {Z : Rg} {H H' : Hp} (s : Stand Z H H') : ∀ {vs : List V} {as : List Arg}, ArgR K p Z H vs as → ArgR K p Z H' vs as
  | [], [], _ => trivial
  | _ :: _, .d _ :: _, h => ⟨h.1.stand s, ArgR.stand s h.2⟩
  | _ :: _, .pool :: _, h => ⟨h.1, ArgR.stand s h.2⟩
theorem ArgR.length {K : PySem.W.Frag} {p : Addr} {Z : Rg} {H : Hp} : ∀ {vs : List V} {as : List Arg}, ArgR K p Z H vs as → vs.length = as.length
  | [], [], _ => rfl
  | _ :: _, .d _ :: _, h => by rw [List.length_cons, List.length_cons, ArgR.length h.2]
  | _ :: _, .pool :: _, h => by rw [List.length_cons, List.length_cons, ArgR.length h.2]
theorem sh_ar {K : PySem.W.Frag} : Shf (ArF K) := fun p sc Z H H2 H' q q2 b a k pl pl2 r => ArgR.grow (Zn.twice k pl pl2) r
theorem sh_rp {K : PySem.W.Frag} : Shf (RpF K) := fun p sc Z H H2 H' q q2 b a k pl pl2 r => r.grow (Zn.twice k pl pl2)
theorem sh_rl {K : PySem.W.Frag} {n : Nat} : Shf (RlF K n) := fun p sc Z H H2 H' q q2 b a k pl pl2 r => ⟨r.1.grow (Zn.twice k pl pl2), r.2⟩
theorem sh_bo : Shf BoF := fun p sc Z H H2 H' q q2 b a k pl pl2 r => r
theorem sh_new {K : PySem.W.Frag} : Shf (NewF K) := by
  intro p sc Z H H2 H' q q2 b a k pl pl2 r
  obtain ⟨c, vs, ds, e1, e2, h1, h2, h3⟩ := r
  refine ⟨c, vs, ds, e1, e2, ?_, h2, h3.grow fun b z => ⟨Zn.twice k pl pl2 b z.1, z.2⟩⟩
  cases e : H c with
  | none => rfl
  | some o =>
    by_cases hc : c = p
    · subst hc; rw [pl2.1] at h1; cases h1
    · rw [k c o hc e] at h1; cases h1
theorem NewF.rp {K : PySem.W.Frag} {p : Addr} {Z : Rg} {H H' : Hp} {v : V} {d : D} (h : NewF K p Z H H' v d) : Rp K (Zn Z H) H' v d := by
  obtain ⟨a, vs, ds, rfl, rfl, h1, h2, h3⟩ := h
  exact .lst h2 (.inr h1) (h3.grow fun b z => z.1)
/-! ### a new object -/
section
variable {p sc a : Addr} {H : Hp} {q : Pool} {Z : Rg} {o : HO}
theorem new_keep (h : H a = none) : Keep p H (upd H a o) := fun b u _ e => by rw [upd_ne (ne_of_none e h)]; exact e
theorem new_pool (h : H a = none) (pl : PoolAt p sc H q) : PoolAt p sc (upd H a o) q := ⟨by rw [upd_ne (ne_of_none pl.1 h)]; exact pl.1, by rw [upd_ne (ne_of_none pl.2.1 h)]; exact pl.2.1, pl.2.2⟩
theorem new_stand (h : H a = none) : Stand Z H (upd H a o) := ⟨fun b u _ e => by rw [upd_ne (ne_of_none e h)]; exact e, fun b u e => by rw [upd_ne (ne_of_none e h)]; exact e, fun b u v e => by rw [upd_ne (ne_of_none e h)]; exact e⟩
end
section
variable {X : Cx} {W : WX} {α β α' β' : Type} {RelA : RelT β α} {RelF : RelT β' α'}
theorem rd_bnd {ValA : Addr → Rg → Hp → β → α → Prop} {ta : RT β} {A : Rho → M α} {f : Rho → α → M α'} {k : β → RT β'} (sh : Shf RelF) (va : ∀ p Z H H' b a, RelA p Z H H' b a → ValA p (Zn Z H) H' b a) (ha : Rd1 X W RelA ta A)
    (hk : ∀ (p sc : Addr) (Z : Rg) (σ : L2.St) (H : Hp) (ρ : Rho) (q : Pool) (b : β) (a : α) (Q : β' → Hp → Prop), Sit X.K p sc Z σ H ρ q → ValA p Z H b a → Post X.mg p sc H (RelF p Z H) (fun c od H' => W c od σ H') Q (f ρ a q) → k b σ H Q) :
    Rd1 X W RelF (fun σ H Q => ta σ H fun b H1 => k b σ H1 Q) (fun ρ => M.bnd (A ρ) (f ρ)) := by
  intro p sc Z σ H ρ q Q s hp
  refine ha p sc Z σ H ρ q _ s ((Post.bnd (Rel := RelA p Z H) (Rel' := RelF p Z H) hp).to (Q' := fun b H1 => k b σ H1 Q) fun x H1 ⟨dx, q1, e1, k1, pl1, r1, hp1⟩ => ?_)
  have s1 := s.next k1 pl1
  refine hk p sc (Zn Z H) σ H1 ρ q1 x dx Q ⟨s1.env.grow Zn.base, pl1, Zn.nop s.pool s.nz, s.len⟩ (va _ _ _ _ _ _ r1) ((hp1.later k1).imp fun H' b a r => sh p sc Z H H1 H' q q1 b a k1 s.pool pl1 r)
theorem rd_ret {t : RT β} {F : Rho → M α} {Rel : RelT β α} (h : ∀ (p sc : Addr) (Z : Rg) (σ : L2.St) (H : Hp) (ρ : Rho) (q : Pool) (Q : β → Hp → Prop), Sit X.K p sc Z σ H ρ q → ∃ a, F ρ q = .ok a q ∧ ∃ b, Rel p Z H H b a ∧ (Q b H → t σ H Q)) : Rd1 X W Rel t F := by
  intro p sc Z σ H ρ q Q s hp
  obtain ⟨a, e, b, r, hq⟩ := h p sc Z σ H ρ q Q s
  rw [e] at hp
  exact hq (hp b H (Keep.refl _ _) s.pool r)
end
/-- the widest reading that F gives -/
def tF {α β : Type} (K : PySem.W.Frag) (mg : Str → Option Value) (W : WX) (Rel : RelT β α) (F : Rho → M α) : RT β := fun σ H Q => ∃ (p sc : Addr) (Z : Rg) (ρ : Rho) (q : Pool), Sit K p sc Z σ H ρ q ∧ Post mg p sc H (Rel p Z H) (fun c od H' => W c od σ H') Q (F ρ q)
theorem Rd1.tF {α β : Type} {X : Cx} {W : WX} {Rel : RelT β α} {t : RT β} {F : Rho → M α} (h : Rd1 X W Rel t F) {σ : L2.St} {H : Hp} {Q : β → Hp → Prop} (x : tF X.K X.mg W Rel F σ H Q) : t σ H Q := by
  obtain ⟨p, sc, Z, ρ, q, s, hp⟩ := x
  exact h p sc Z σ H ρ q Q s hp
theorem rd_tF {α β : Type} {X : Cx} {W : WX} {Rel : RelT β α} {F : Rho → M α} : Rd1 X W Rel (Ew.tF X.K X.mg W Rel F) F := fun p sc Z σ H ρ q Q s hp => ⟨p, sc, Z, ρ, q, s, hp⟩
def PDe (X : Cx) (W : WX) (e : Expr) (F : DE) : Prop := ∃ t, PE X e t ∧ Rd1 X W (RpF X.K) t F
def PDf (X : Cx) (W : WX) (e : Expr) (F : DE) : Prop := ∃ t, PE X e t ∧ Rd1 X W (NewF X.K) t F
theorem pde_f {X : Cx} {W : WX} {e : Expr} {F : DE} (h : PDf X W e F) : PDe X W e F := by
  obtain ⟨t, h1, h2⟩ := h
  exact ⟨t, h1, fun p sc Z σ H ρ q Q s hp => h2 p sc Z σ H ρ q Q s (hp.imp fun _ _ _ r => r.rp)⟩
def PDt (X : Cx) (W : WX) (e : Expr) (F : DT) : Prop := ∃ t, PT X e t ∧ Rd1 X W BoF t F
/-- .. of a test whatever stands around it -/
def PDw (X : Cx) (W : WX) (e : Expr) (F : DT) : Prop := ∃ t, PW X e t ∧ Rd1 X W BoF t F
theorem pdt_w {X : Cx} {W : WX} {e : Expr} {F : DT} (h : PDw X W e F) : PDt X W e F := by
  obtain ⟨t, h1, h2⟩ := h
  exact ⟨t, h1.pt, h2⟩
theorem PDe.run {X : Cx} {W : WX} {e : Expr} {F : DE} (h : PDe X W e F) : PE X e (tF X.K X.mg W (RpF X.K) F) := by
  obtain ⟨t, h1, h2⟩ := h
  exact ⟨fun pins s σ H Q I x => h1.run pins s σ H Q I (h2.tF x)⟩
theorem PDt.run {X : Cx} {W : WX} {e : Expr} {F : DT} (h : PDt X W e F) : PT X e (tF X.K X.mg W BoF F) := by
  obtain ⟨t, h1, h2⟩ := h
  exact ⟨fun pins s σ H Q I x => h1.run pins s σ H Q I (h2.tF x)⟩
/-- a list of expressions -/
def PDa (X : Cx) (W : WX) (es : List Expr) (F : Rho → M (List Arg)) : Prop := ∃ t, PA X es t ∧ Rd1 X W (ArF X.K) t F
def PDl (X : Cx) (W : WX) (es : List Expr) (F : Rho → M (List D)) : Prop := ∃ t, PA X es t ∧ Rd1 X W (RlF X.K es.length) t F

/-! ### an object of one's own is changed -/
section
variable {K : PySem.W.Frag} {p sc a : Addr} {H H' : Hp} {q : Pool} {Z : Rg} {xs ys : List V}
theorem own_stand (h : H a = some (.lst xs)) (nz : ¬ Z a) : Stand Z H (upd H a (.lst ys)) := ⟨fun b o z e => by rw [upd_ne (fun x => nz (by rw [← x]; exact z))]; exact e, fun b xs e => by rw [upd_ne (fun x => by rw [x, h] at e; cases e)]; exact e, fun b o u e => by rw [upd_ne (fun x => by rw [x, h] at e; cases e)]; exact e⟩
/-- what may come to a target: places with what they get -/
def setsV (l : List (Nat × V × D)) (σ : L2.St) : L2.St := l.foldl (fun σ x => σ.set x.1 (some x.2.1)) σ
def setsR (l : List (Nat × V × D)) (ρ : Rho) : Rho := l.foldl (fun ρ x => ρ.set x.1 (some (.dat x.2.2))) ρ
theorem setsV_len : ∀ (l : List (Nat × V × D)) (σ : L2.St), (setsV l σ).length = σ.length
  | [], _ => rfl
  | x :: l, σ => (setsV_len l _).trans (by rw [List.length_set])
theorem setsR_len : ∀ (l : List (Nat × V × D)) (ρ : Rho), (setsR l ρ).length = ρ.length
  | [], _ => rfl
  | x :: l, ρ => (setsR_len l _).trans (by rw [List.length_set])
theorem setsV_app (l m : List (Nat × V × D)) (σ : L2.St) : setsV (l ++ m) σ = setsV m (setsV l σ) := by unfold setsV; rw [List.foldl_append]
theorem setsR_app (l m : List (Nat × V × D)) (ρ : Rho) : setsR (l ++ m) ρ = setsR m (setsR l ρ) := by unfold setsR; rw [List.foldl_append]
theorem EnvR.set {σ : L2.St} {ρ : Rho} {i : Nat} {v : V} {d : D} (e : EnvR K p Z σ H ρ) (hl : ρ.length = σ.length) (r : Rp K Z H v d) : EnvR K p Z (σ.set i (some v)) H (ρ.set i (some (.dat d))) := by
  intro j s hs
  by_cases hj : j = i
  · subst hj
    have hlt : j < ρ.length := by
      have z := (List.getElem?_eq_some_iff.mp hs).1
      rwa [List.length_set] at z
    rw [List.getElem?_set_self hlt] at hs
    cases hs
    exact ⟨v, by rw [List.getElem?_set_self (hl ▸ hlt)], r⟩
  · rw [List.getElem?_set_ne (Ne.symm hj)] at hs
    rw [List.getElem?_set_ne (Ne.symm hj)]
    exact e j s hs
theorem EnvR.sets : ∀ (l : List (Nat × V × D)) {σ : L2.St} {ρ : Rho}, EnvR K p Z σ H ρ → ρ.length = σ.length → (∀ x ∈ l, Rp K Z H x.2.1 x.2.2) → EnvR K p Z (setsV l σ) H (setsR l ρ)
  | [], _, _, e, _, _ => e
  | x :: l, σ, ρ, e, hl, h => EnvR.sets l (e.set hl (h x List.mem_cons_self)) (by rw [List.length_set, List.length_set]; exact hl) fun y hy => h y (List.mem_cons_of_mem _ hy)
theorem wipeR_len (ρ : Rho) : ∀ vs : List Nat, (wipeR ρ vs).length = ρ.length
  | [] => rfl
  | v :: vs => by unfold wipeR; rw [List.length_set, wipeR_len ρ vs]
theorem EnvR.wipe1 {σ : L2.St} {ρ : Rho} {i : Nat} (e : EnvR K p Z σ H ρ) : EnvR K p Z (σ.set i none) H (ρ.set i none) := by
  intro j s hs
  by_cases hj : j = i
  · subst hj
    have hlt : j < ρ.length := by
      have z := (List.getElem?_eq_some_iff.mp hs).1
      rwa [List.length_set] at z
    rw [List.getElem?_set_self hlt] at hs
    cases hs
  · rw [List.getElem?_set_ne (Ne.symm hj)] at hs
    rw [List.getElem?_set_ne (Ne.symm hj)]
    exact e j s hs
theorem EnvR.wipe {σ : L2.St} {ρ : Rho} (e : EnvR K p Z σ H ρ) : ∀ vs : List Nat, EnvR K p Z (wipe σ vs) H (wipeR ρ vs)
  | [] => e
  | v :: vs => (EnvR.wipe e vs).wipe1
theorem wipe_at (σ : L2.St) (j : Nat) : ∀ vs : List Nat, (wipe σ vs)[j]? = if j ∈ vs ∧ j < σ.length then some none else σ[j]?
  | [] => by simp [wipe]
  | v :: vs => by
    unfold wipe
    by_cases hj : v = j
    · subst hj
      by_cases hv : v < σ.length
      · rw [List.getElem?_set_self (by rw [wipe_length]; exact hv), if_pos ⟨List.mem_cons_self, hv⟩]
      · rw [List.getElem?_eq_none (by rw [List.length_set, wipe_length]; omega), if_neg (fun z => hv z.2), List.getElem?_eq_none (by omega)]
    · rw [List.getElem?_set_ne hj, wipe_at σ j vs]
      have e : (j ∈ v :: vs ∧ j < σ.length) = (j ∈ vs ∧ j < σ.length) := by simp [List.mem_cons, Ne.symm hj]
      simp only [e]
theorem wipe_ext {vs : List Nat} {τ σ : L2.St} (h : ∀ j, j ∉ vs → τ[j]? = σ[j]?) (hl : τ.length = σ.length) : wipe τ vs = wipe σ vs := by
  refine List.ext_getElem? fun j => ?_
  rw [wipe_at, wipe_at]
  by_cases hj : j ∈ vs
  · by_cases hl2 : j < σ.length
    · rw [if_pos ⟨hj, by omega⟩, if_pos ⟨hj, hl2⟩]
    · rw [if_neg (fun z => hl2 (by omega)), if_neg (fun z => hl2 z.2), List.getElem?_eq_none (by omega), List.getElem?_eq_none (by omega)]
  · rw [if_neg (fun z => hj z.1), if_neg (fun z => hj z.1)]
    exact h j hj
theorem setsV_off {j : Nat} : ∀ (l : List (Nat × V × D)) (σ : L2.St), (∀ x ∈ l, x.1 ≠ j) → (setsV l σ)[j]? = σ[j]?
  | [], _, _ => rfl
  | x :: l, σ, h => (setsV_off l _ fun y hy => h y (List.mem_cons_of_mem _ hy)).trans (List.getElem?_set_ne (h x List.mem_cons_self))
theorem wipe_sets {σ : L2.St} {vs : List Nat} (l : List (Nat × V × D)) (h : ∀ x ∈ l, x.1 ∈ vs) : wipe (setsV l (wipe σ vs)) vs = wipe σ vs := by
  refine wipe_ext (fun j hj => ?_) (by rw [setsV_len, wipe_length])
  rw [setsV_off l _ fun x hx e => hj (by rw [← e]; exact h x hx), wipe_at, if_neg fun z => hj z.1]
end
end Ew
namespace Ew
open PySem PySem.Spec PyProof.Rows L2
/-! ## The rules of expressions -/
section
variable {X : Cx} {W : WX} {e a b c : Expr} {A B C : DE} {pos : Pos}
/-- a name of the def's -/
theorem pd_var (i : Nat) {x : Str} (hN : X.N[i]? = some x := by rfl) (hv : Vis X.env.scope x := by first | exact Or.inl rfl | exact Or.inr (Or.inl rfl) | exact Or.inr (Or.inr rfl)) (hd : (x == ("__debug__" : Str)) = false := by decide)
    (hcd : (x == ("__classdict__" : Str)) = false := by decide) : PDe X W (.Name x pos) (dVar i) := by
  refine ⟨tVar i, pe_var hN hv hd hcd, fun p sc Z σ H ρ q Q s hp => ?_⟩
  unfold dVar at hp
  cases e : ρ[i]? with
  | none => rw [e] at hp; exact hp.elim
  | some o =>
    cases o with
    | none => rw [e] at hp; exact hp.elim
    | some sl =>
      rw [e] at hp
      have z := s.env i sl e
      cases ev : sl.val? with
      | none => simp only [ev] at hp; exact hp.elim
      | some d =>
        simp only [ev] at hp z
        obtain ⟨v, h1, h2⟩ := z
        exact ⟨v, h1, hp v H (Keep.refl _ _) s.pool (h2.grow Zn.base)⟩
/-- a constant -/
theorem rd_c {v : V} {d : D} (h : ∀ Z H, Rp X.K Z H v d) : Rd1 X W (RpF X.K) (tC v) (dC d) := fun p sc Z σ H ρ q Q s hp => hp v H (Keep.refl _ _) s.pool (h _ _)
theorem pd_int {i j} : PDe X W (.Constant (.int i) j pos) (dC (.int i)) := ⟨_, pe_int, rd_c fun _ _ => .int i⟩
theorem pd_bl {k j} : PDe X W (.Constant (.bool k) j pos) (dC (.bool k)) := ⟨_, pe_bl, rd_c fun _ _ => .bl k⟩
theorem pd_non {j} : PDe X W (.Constant .none j pos) (dC .none) := ⟨_, pe_non, rd_c fun _ _ => .non⟩
theorem pd_str {x j} : PDe X W (.Constant (.str x) j pos) (dC (.str x)) := ⟨_, pe_str, rd_c fun _ _ => .str x⟩
/-- a constant of a module -/
theorem pd_glob {x : Str} {v : V} {u : Value} {d : D} (hg : Gl X x) (hm : X.mg x = some u) (r : RelV v u) (hr : ∀ Z H, Rp X.K Z H v d) (hd : (x == ("__debug__" : Str)) = false := by decide) : PDe X W (.Name x pos) (dC d) :=
  ⟨_, pe_glob hg hm r hd, rd_c hr⟩

/-- an operation on one, on two values -/
def Op1 {α β : Type} (X : Cx) (W : WX) (Rel : RelT β α) (r : V → Hp → (β → Hp → Prop) → Prop) (f : D → M α) : Prop := ∀ (p sc : Addr) (Z : Rg) (σ : L2.St) (H : Hp) (q : Pool) (x : V) (dx : D) (Q : β → Hp → Prop), PoolAt p sc H q → ¬ Z p → Rp X.K Z H x dx →
  Post X.mg p sc H (Rel p Z H) (fun c od H' => W c od σ H') Q (f dx q) → r x H Q
def Op2 {α β : Type} (X : Cx) (W : WX) (Rel : RelT β α) (r : V → V → Hp → (β → Hp → Prop) → Prop) (f : D → D → M α) : Prop := ∀ (p sc : Addr) (Z : Rg) (σ : L2.St) (H : Hp) (q : Pool) (x y : V) (dx dy : D) (Q : β → Hp → Prop), PoolAt p sc H q → ¬ Z p → Rp X.K Z H x dx → Rp X.K Z H y dy →
  Post X.mg p sc H (Rel p Z H) (fun c od H' => W c od σ H') Q (f dx dy q) → r x y H Q
theorem rd_1 {α β : Type} {Rel : RelT β α} {r : V → Hp → (β → Hp → Prop) → Prop} {f : D → M α} {ta : TE} (sh : Shf Rel) (ho : Op1 X W Rel r f) (ha : Rd1 X W (RpF X.K) ta A) : Rd1 X W Rel (fun σ H Q => ta σ H fun x H1 => r x H1 Q) (fun ρ => M.bnd (A ρ) f) :=
  rd_bnd (ValA := fun _ Z H v d => Rp X.K Z H v d) (f := fun _ => f) (k := fun x _ H Q => r x H Q) sh (fun _ _ _ _ _ _ h => h) ha fun p sc Z σ H ρ q x dx Q s hv hp => ho p sc Z σ H q x dx Q s.pool s.nz hv hp
theorem rd_2 {α β : Type} {Rel : RelT β α} {r : V → V → Hp → (β → Hp → Prop) → Prop} {f : D → D → M α} {ta tb : TE} (sh : Shf Rel) (ho : Op2 X W Rel r f) (ha : Rd1 X W (RpF X.K) ta A) (hb : Rd1 X W (RpF X.K) tb B) :
    Rd1 X W Rel (fun σ H Q => ta σ H fun x H1 => tb σ H1 fun y H2 => r x y H2 Q) (fun ρ => M.bnd (A ρ) fun x => M.bnd (B ρ) fun y => f x y) :=
  rd_bnd (ValA := fun _ Z H v d => Rp X.K Z H v d) (f := fun ρ x => M.bnd (B ρ) fun y => f x y) (k := fun x σ H Q => tb σ H fun y H2 => r x y H2 Q) sh (fun _ _ _ _ _ _ h => h) ha fun p sc Z σ H ρ q x dx Q s hv hp => by
    refine hb p sc Z σ H ρ q _ s ((Post.bnd (Rel := RpF X.K p Z H) (Rel' := Rel p Z H) hp).to fun y H1 ⟨dy, q1, e1, k1, pl1, r1, hp1⟩ => ?_)
    exact ho p sc (Zn Z H) σ H1 q1 x y dx dy Q pl1 (Zn.nop s.pool s.nz) ((hv.stand (k1.stand s.pool s.nz)).grow Zn.base) r1 ((hp1.later k1).imp fun H' b a r => sh p sc Z H H1 H' q q1 b a k1 s.pool pl1 r)
/-- by an operator -/
def OpD (X : Cx) (W : WX) (f : Value → Value → Sem Value) (F : D → D → M D) : Prop := ∃ r : R2, OpR X f r ∧ Op2 X W (RpF X.K) r F
def OpDf (X : Cx) (W : WX) (f : Value → Value → Sem Value) (F : D → D → M D) : Prop := ∃ r : R2, OpR X f r ∧ Op2 X W (NewF X.K) r F
theorem pd_bin {op : Operator} {f : D → D → M D} (ho : OpD X W (binaryOp op) f) (ha : PDe X W a A) (hb : PDe X W b B) : PDe X W (.BinOp a op b pos) (dBin f A B) := by
  obtain ⟨r, h1, h2⟩ := ho
  obtain ⟨ta, a1, a2⟩ := ha
  obtain ⟨tb, b1, b2⟩ := hb
  exact ⟨_, pe_op h1 a1 b1, rd_2 sh_rp h2 a2 b2⟩
theorem pd_cmp {op : CmpOp} {f : D → D → M D} (ho : OpD X W (compareOp op) f) (ha : PDe X W a A) (hb : PDe X W b B) (hm : behindInMarks op b = false := by first | exact nomark _ | rfl) : PDe X W (.Compare a [op] [b] pos) (dBin f A B) := by
  obtain ⟨r, h1, h2⟩ := ho
  obtain ⟨ta, a1, a2⟩ := ha
  obtain ⟨tb, b1, b2⟩ := hb
  exact ⟨_, pe_cmpR h1 a1 b1 hm, rd_2 sh_rp h2 a2 b2⟩
def IxD (X : Cx) (W : WX) (F : D → D → M D) : Prop := ∃ r : R2, IxR X r ∧ Op2 X W (RpF X.K) r F
theorem pd_ix {f : D → D → M D} (ho : IxD X W f) (ha : PDe X W a A) (hb : PDe X W b B) (hs : PlainIx b := by exact fun _ _ => rfl) : PDe X W (.Subscript a b pos) (dBin f A B) := by
  obtain ⟨r, h1, h2⟩ := ho
  obtain ⟨ta, a1, a2⟩ := ha
  obtain ⟨tb, b1, b2⟩ := hb
  exact ⟨_, pe_ix h1 a1 b1 hs, rd_2 sh_rp h2 a2 b2⟩
theorem pd_un {op : UnaryOp} {r : V → Hp → VK → Prop} {f : D → M D} (h1 : UnR X (unaryOp op) r) (h2 : Op1 X W (RpF X.K) r f) (ha : PDe X W a A) : PDe X W (.UnaryOp op a pos) (dUn f A) := by
  obtain ⟨ta, a1, a2⟩ := ha
  exact ⟨_, pe_un h1 a1, rd_1 (r := r) sh_rp h2 a2⟩

/-! ### tests -/
variable {T U : DT}
theorem op_tof : Op1 X W BoF (fun x H Q => ∃ k, x = .bl k ∧ Q k H) (fun x => match x with
  | .bool b => M.ret b
  | _ => M.stuck) := by
  intro p sc Z σ H q x dx Q pl nz hv hp
  cases hv with
  | bl k => exact ⟨k, rfl, hp k H (Keep.refl _ _) pl rfl⟩
  | _ => exact hp.elim
theorem rd_tof {ta : TE} (ha : Rd1 X W (RpF X.K) ta A) : Rd1 X W BoF (tB ta) (tOf A) := rd_1 sh_bo op_tof ha
theorem pdt_val (ha : PDe X W e A) (he : ∀ whole, isTrue e X.env whole = (do let v ← whole; standAt e.pos; holding [v] (truthy v)) := by intro _; rfl) : PDt X W e (tOf A) := by
  obtain ⟨ta, a1, a2⟩ := ha
  exact ⟨_, pt_val a1 he, rd_tof a2⟩
theorem pdt_cmp {op : CmpOp} {f : D → D → M D} (ho : OpD X W (compareOp op) f) (ha : PDe X W a A) (hb : PDe X W b B) (hm : behindInMarks op b = false := by first | exact nomark _ | rfl) : PDt X W (.Compare a [op] [b] pos) (tOf (dBin f A B)) := by
  obtain ⟨r, h1, h2⟩ := ho
  obtain ⟨ta, a1, a2⟩ := ha
  obtain ⟨tb, b1, b2⟩ := hb
  exact ⟨_, pt_cmpR h1 a1 b1 hm, rd_tof (rd_2 sh_rp h2 a2 b2)⟩
theorem pdw_and1 (ha : PDt X W a T) : PDw X W (.BoolOp .And [a] pos) T := by
  obtain ⟨t, h1, h2⟩ := ha
  exact ⟨_, pw_and1 h1, h2⟩
theorem pdw_or1 (ha : PDt X W a T) : PDw X W (.BoolOp .Or [a] pos) T := by
  obtain ⟨t, h1, h2⟩ := ha
  exact ⟨_, pw_or1 h1, h2⟩
theorem rd_if {α β : Type} {Rel : RelT β α} {t : TT} {u v : RT β} {F G : Rho → M α} (sh : Shf Rel) (ht : Rd1 X W BoF t T) (hu : Rd1 X W Rel u F) (hv : Rd1 X W Rel v G) :
    Rd1 X W Rel (fun σ H Q => t σ H fun c H1 => if c = true then u σ H1 Q else v σ H1 Q) (fun ρ => M.bnd (T ρ) fun c => if c = true then F ρ else G ρ) :=
  rd_bnd (ValA := fun _ _ _ c b => c = b) (f := fun ρ c => if c = true then F ρ else G ρ) (k := fun c σ H Q => if c = true then u σ H Q else v σ H Q) sh (fun _ _ _ _ _ _ h => h) ht fun p sc Z σ H ρ q x dx Q s hv' hp => by
    subst hv'
    cases x with
    | true => exact hu p sc Z σ H ρ q Q s hp
    | false => exact hv p sc Z σ H ρ q Q s hp
theorem rd_b {k : Bool} : Rd1 X W BoF (fun _ H Q => Q k H) (fun _ => M.ret k) := fun p sc Z σ H ρ q Q s hp => hp k H (Keep.refl _ _) s.pool rfl
theorem pdw_and {rest : List Expr} (ha : PDt X W a T) (hb : PDw X W (.BoolOp .And (b :: rest) pos) U) : PDw X W (.BoolOp .And (a :: b :: rest) pos) (tAnd T U) := by
  obtain ⟨t, h1, h2⟩ := ha
  obtain ⟨u, g1, g2⟩ := hb
  exact ⟨_, pw_and h1 g1, rd_if sh_bo h2 g2 (rd_b (k := false))⟩
theorem pdw_or {rest : List Expr} (ha : PDt X W a T) (hb : PDw X W (.BoolOp .Or (b :: rest) pos) U) : PDw X W (.BoolOp .Or (a :: b :: rest) pos) (tOr T U) := by
  obtain ⟨t, h1, h2⟩ := ha
  obtain ⟨u, g1, g2⟩ := hb
  exact ⟨_, pw_or h1 g1, rd_if sh_bo h2 (rd_b (k := true)) g2⟩
theorem pdt_not (ha : PDt X W a T) : PDt X W (.UnaryOp .Not a pos) (tNot T) := by
  obtain ⟨t, h1, h2⟩ := ha
  refine ⟨_, pt_not h1, rd_bnd (ValA := fun _ _ _ c b => c = b) (f := fun _ c => M.ret (!c)) (k := fun c _ H Q => Q (!c) H) sh_bo (fun _ _ _ _ _ _ h => h) h2 fun p sc Z σ H ρ q x dx Q s hv' hp => ?_⟩
  subst hv'
  exact hp _ H (Keep.refl _ _) s.pool rfl
/-! ### and, or, not as values -/
theorem pd_one {op} (ha : PDe X W a A) : PDe X W (.BoolOp op [a] pos) A := by
  obtain ⟨t, h1, h2⟩ := ha
  exact ⟨_, pe_one h1, h2⟩
theorem rd_ifV {te : TE} {u v : TE} {F G : DE} (ht : Rd1 X W (RpF X.K) te A) (hu : Rd1 X W (RpF X.K) u F) (hv : Rd1 X W (RpF X.K) v G) :
    Rd1 X W (RpF X.K) (fun σ H Q => te σ H fun x H1 => ∃ c, x = .bl c ∧ if c = true then u σ H1 Q else v σ H1 Q) (fun ρ => M.bnd (tOf A ρ) fun c => if c = true then F ρ else G ρ) := rd_if sh_rp (rd_tof ht) hu hv
theorem pd_and {rest : List Expr} (ha : PDe X W a A) (hb : PDe X W (.BoolOp .And (b :: rest) pos) B) : PDe X W (.BoolOp .And (a :: b :: rest) pos) (dAnd A B) := by
  obtain ⟨t, h1, h2⟩ := ha
  obtain ⟨u, g1, g2⟩ := hb
  refine ⟨_, pe_and h1 g1, ?_⟩
  have z := rd_if (X := X) (W := W) sh_rp (rd_tof h2) g2 (rd_c (v := .bl false) fun _ _ => .bl false)
  intro p sc Z σ H ρ q Q s hp
  have y := z p sc Z σ H ρ q Q s hp
  refine cast (congrArg (t σ H) (funext fun x => funext fun H1 => propext ⟨?_, ?_⟩)) y
  · rintro ⟨c, rfl, h⟩; exact ⟨c, rfl, h⟩
  · rintro ⟨c, rfl, h⟩; exact ⟨c, rfl, h⟩
theorem pd_or {rest : List Expr} (ha : PDe X W a A) (hb : PDe X W (.BoolOp .Or (b :: rest) pos) B) : PDe X W (.BoolOp .Or (a :: b :: rest) pos) (dOr A B) := by
  obtain ⟨t, h1, h2⟩ := ha
  obtain ⟨u, g1, g2⟩ := hb
  refine ⟨_, pe_or h1 g1, ?_⟩
  have z := rd_if (X := X) (W := W) sh_rp (rd_tof h2) (rd_c (v := .bl true) fun _ _ => .bl true) g2
  intro p sc Z σ H ρ q Q s hp
  have y := z p sc Z σ H ρ q Q s hp
  refine cast (congrArg (t σ H) (funext fun x => funext fun H1 => propext ⟨?_, ?_⟩)) y
  · rintro ⟨c, rfl, h⟩; exact ⟨c, rfl, h⟩
  · rintro ⟨c, rfl, h⟩; exact ⟨c, rfl, h⟩
theorem pd_not (ha : PDe X W a A) : PDe X W (.UnaryOp .Not a pos) (dNot A) := by
  obtain ⟨t, h1, h2⟩ := ha
  refine ⟨_, pe_not h1, ?_⟩
  have z := rd_bnd (X := X) (W := W) (RelF := RpF X.K) (ValA := fun _ _ _ c b => c = b) (f := fun _ c => M.ret (PyData.bool (!c))) (k := fun c _ H Q => Q (.bl (!c)) H) sh_rp (fun _ _ _ _ _ _ h => h) (rd_tof h2) fun p sc Z σ H ρ q x dx Q s hv' hp => by
    subst hv'
    exact hp _ H (Keep.refl _ _) s.pool (.bl _)
  intro p sc Z σ H ρ q Q s hp
  have y := z p sc Z σ H ρ q Q s hp
  refine cast (congrArg (t σ H) (funext fun x => funext fun H1 => propext ⟨?_, ?_⟩)) y
  · rintro ⟨c, rfl, h⟩; exact ⟨c, rfl, h⟩
  · rintro ⟨c, rfl, h⟩; exact ⟨c, rfl, h⟩
theorem pd_if {t : Expr} (ht : PDt X W t T) (ha : PDe X W a A) (hb : PDe X W b B) : PDe X W (.IfExp t a b pos) (dIf T A B) := by
  obtain ⟨t, h1, h2⟩ := ht
  obtain ⟨u, g1, g2⟩ := ha
  obtain ⟨v, k1, k2⟩ := hb
  exact ⟨_, pe_ifExp h1 g1 k1, rd_if sh_rp h2 g2 k2⟩
/-! ### lists of expressions, displays -/
variable {es : List Expr} {As : List DE}
theorem pdl_nil : PDl X W [] (dEach []) := ⟨_, pa_nil, fun p sc Z σ H ρ q Q s hp => hp [] H (Keep.refl _ _) s.pool ⟨.nil, rfl⟩⟩
theorem pdl_cons (ha : PDe X W e A) (hr : PDl X W es (dEach As)) (hs : starEach (e :: es) X.env = (false, eval e X.env) :: starEach es X.env := by rfl) : PDl X W (e :: es) (dEach (A :: As)) := by
  obtain ⟨t, h1, h2⟩ := ha
  obtain ⟨u, g1, g2⟩ := hr
  refine ⟨_, pa_cons h1 g1 hs, rd_bnd (ValA := fun _ Z H v d => Rp X.K Z H v d) (f := fun ρ x => M.bnd (dEach As ρ) fun xs => M.ret (x :: xs)) (k := fun x σ H Q => u σ H fun xs H2 => Q (x :: xs) H2) sh_rl (fun _ _ _ _ _ _ h => h) h2 fun p sc Z σ H ρ q x dx Q s hv hp => ?_⟩
  refine g2 p sc Z σ H ρ q _ s ((Post.bnd (Rel := RlF X.K es.length p Z H) (Rel' := RlF X.K (e :: es).length p Z H) hp).to fun xs H1 ⟨ds, q1, e1, k1, pl1, r1, hp1⟩ => ?_)
  exact hp1 (x :: xs) H1 k1 pl1 ⟨.cons ((hv.stand (k1.stand s.pool s.nz)).grow Zn.base) r1.1, by rw [List.length_cons, r1.2]; rfl⟩
theorem pd_tup {k : Nat} (h : PDl X W es (dEach As)) (hl : es.length ≤ sizeLine := by show _ ≤ 2 ^ 24; decide) : PDe X W (.Tuple es k pos) (dTup As) := by
  obtain ⟨t, h1, h2⟩ := h
  refine ⟨_, pe_tup h1, rd_bnd (ValA := fun _ Z H v d => RpL X.K Z H v d ∧ v.length = es.length) (f := fun ρ xs => M.ret (PyData.tuple xs)) (k := fun xs σ H Q => xs.length ≤ sizeLine ∧ ∀ p, H p = none → Q (.ref p) (upd H p (.tup xs))) sh_rp (fun _ _ _ _ _ _ h => h) h2 fun p sc Z σ H ρ q x dx Q s hv hp => ?_⟩
  refine ⟨by rw [hv.2]; exact hl, fun a ha => hp (.ref a) _ (new_keep ha) (new_pool ha s.pool) ?_⟩
  exact .tup (.inl (.inl upd_same)) ((hv.1.stand (new_stand ha)).grow Zn.base)
theorem pdf_lst (h : PDl X W es (dEach As)) (hl : es.length ≤ sizeLine := by show _ ≤ 2 ^ 24; decide) : PDf X W (.List es pos) (dLst As) := by
  obtain ⟨t, h1, h2⟩ := h
  refine ⟨_, pe_lst h1, rd_bnd (ValA := fun _ Z H v d => RpL X.K Z H v d ∧ v.length = es.length) (f := fun ρ xs => M.ret (PyData.list xs)) (k := fun xs σ H Q => xs.length ≤ sizeLine ∧ ∀ p, H p = none → Q (.ref p) (upd H p (.lst xs))) sh_new (fun _ _ _ _ _ _ h => h) h2 fun p sc Z σ H ρ q x dx Q s hv hp => ?_⟩
  refine ⟨by rw [hv.2]; exact hl, fun a ha => hp (.ref a) _ (new_keep ha) (new_pool ha s.pool) ?_⟩
  exact ⟨a, x, dx, rfl, rfl, ha, upd_same, (hv.1.sub fun b z n => ⟨.inl z, fun e => n (e ▸ ha)⟩).stand (new_stand ha)⟩
/-! ### arguments, calls -/
variable {Ar : DA} {Ars : List DA}
theorem pda_nil : PDa X W [] (dArgs []) := ⟨_, pa_nil, fun p sc Z σ H ρ q Q s hp => hp [] H (Keep.refl _ _) s.pool trivial⟩
theorem pda_d (ha : PDe X W e A) (hr : PDa X W es (dArgs Ars)) (hs : starEach (e :: es) X.env = (false, eval e X.env) :: starEach es X.env := by rfl) : PDa X W (e :: es) (dArgs (aD A :: Ars)) := by
  obtain ⟨t, h1, h2⟩ := ha
  obtain ⟨u, g1, g2⟩ := hr
  refine ⟨_, pa_cons h1 g1 hs, fun p sc Z σ H ρ q Q s hp => ?_⟩
  have hp' : Post X.mg p sc H (ArF X.K p Z H) (fun c od H' => W c od σ H') Q (M.bnd (A ρ) (fun x => M.bnd (dArgs Ars ρ) fun xs => M.ret (Arg.d x :: xs)) q) := by
    have e : M.bnd (A ρ) (fun x => M.bnd (dArgs Ars ρ) fun xs => M.ret (Arg.d x :: xs)) q = dArgs (aD A :: Ars) ρ q := by
      show _ = M.bnd (M.bnd (A ρ) fun x => M.ret (.d x)) (fun x => M.bnd (dArgs Ars ρ) fun xs => M.ret (x :: xs)) q
      unfold M.bnd M.ret
      cases A ρ q <;> rfl
    rw [e]
    exact hp
  refine rd_bnd (X := X) (W := W) (RelF := ArF X.K) (ValA := fun _ Z H v d => Rp X.K Z H v d) (f := fun ρ x => M.bnd (dArgs Ars ρ) fun xs => M.ret (.d x :: xs)) (k := fun x σ H Q => u σ H fun xs H2 => Q (x :: xs) H2) sh_ar (fun _ _ _ _ _ _ h => h) h2 (fun p sc Z σ H ρ q x dx Q s hv hp => ?_) p sc Z σ H ρ q Q s hp'
  refine g2 p sc Z σ H ρ q _ s ((Post.bnd (Rel := ArF X.K p Z H) (Rel' := ArF X.K p Z H) hp).to fun xs H1 ⟨ds, q1, e1, k1, pl1, r1, hp1⟩ => ?_)
  exact hp1 (x :: xs) H1 k1 pl1 ⟨(hv.stand (k1.stand s.pool s.nz)).grow Zn.base, r1⟩
theorem pda_pool (i : Nat) {x : Str} {pos' : Pos} (hr : PDa X W es (dArgs Ars)) (hN : X.N[i]? = some x := by rfl) (hv : Vis X.env.scope x := by first | exact Or.inl rfl | exact Or.inr (Or.inl rfl) | exact Or.inr (Or.inr rfl)) (hd : (x == ("__debug__" : Str)) = false := by decide)
    (hcd : (x == ("__classdict__" : Str)) = false := by decide) (hs : starEach (.Name x pos' :: es) X.env = (false, eval (.Name x pos') X.env) :: starEach es X.env := by rfl) : PDa X W (.Name x pos' :: es) (dArgs (aPool i :: Ars)) := by
  obtain ⟨u, g1, g2⟩ := hr
  refine ⟨_, pa_cons (pe_var hN hv hd hcd) g1 hs, fun p sc Z σ H ρ q Q s hp => ?_⟩
  have hp' : Post X.mg p sc H (ArF X.K p Z H) (fun c od H' => W c od σ H') Q (M.bnd (aPool i ρ) (fun x => M.bnd (dArgs Ars ρ) fun xs => M.ret (x :: xs)) q) := hp
  unfold aPool at hp'
  cases e : ρ[i]? with
  | none => rw [e] at hp'; exact hp'.elim
  | some o =>
    cases o with
    | none => rw [e] at hp'; exact hp'.elim
    | some sl =>
      cases sl with
      | pool =>
        rw [e] at hp'
        have z : σ[i]? = some (some (.ref p)) := s.env i _ e
        refine ⟨.ref p, z, ?_⟩
        refine g2 p sc Z σ H ρ q _ s ((Post.bnd (Rel := ArF X.K p Z H) (Rel' := ArF X.K p Z H) (m := dArgs Ars ρ) (f := fun xs => M.ret (Arg.pool :: xs)) hp').to fun xs H1 ⟨ds, q1, e1, k1, pl1, r1, hp1⟩ => ?_)
        exact hp1 (.ref p :: xs) H1 k1 pl1 ⟨rfl, r1⟩
      | dat d => rw [e] at hp'; exact hp'.elim
      | own ds => rw [e] at hp'; exact hp'.elim
      | odic ds => rw [e] at hp'; exact hp'.elim
/-- THE PROMISE of a def that does F -/
def spD (K : PySem.W.Frag) (mg : Str → Option Value) (n : Nat) (F : List Arg → M D) : Sp := fun vs H Q E => vs.length = n ∧ ∃ (p sc : Addr) (Z : Rg) (q : Pool) (as : List Arg), PoolAt p sc H q ∧ ¬ Z p ∧ ArgR K p Z H vs as ∧
  Post mg p sc H (fun H' v d => Rp K (Zn Z H) H' v d) (fun c od H' => E c od H') Q (F as q)
/-- a def that does F, by what the caller needs -/
structure FnD (X : Cx) (x : Str) (F : List Arg → M D) : Prop where
  ex : ∃ (k n : Nat) (f : Addr) (fd : FuncData) (ps : List Str), (∀ as q, as.length ≠ n → F as q = .stuck) ∧ FnOk X.prog X.w X.K X.mg X.base (L2.CX X.prog X.w) k f fd ps (spD X.K X.mg n F) ∧ Room k X.A ∧ X.mg x = some (.ref f) ∧ PySem.W.keepIn X.K (.ref f) = true ∧ Binds X.K fd ps []
theorem rd_call {n : Nat} {F : List Arg → M D} {G : Rho → M (List Arg)} {t : TA} (hn : ∀ as q, as.length ≠ n → F as q = .stuck) (ht : Rd1 X W (ArF X.K) t G) : Rd1 X W (RpF X.K) (tCallS (spD X.K X.mg n F) (fun σ => WE W σ) t) (fun ρ => M.bnd (G ρ) F) := by
  intro p sc Z σ H ρ q Q s hp
  refine ht p sc Z σ H ρ q _ s ((Post.bnd (Rel := ArF X.K p Z H) (Rel' := RpF X.K p Z H) hp).to fun vs H1 ⟨as, q1, e1, k1, pl1, r1, hp1⟩ => ?_)
  refine ⟨?_, p, sc, Zn Z H, q1, as, pl1, Zn.nop s.pool s.nz, r1, ?_⟩
  · rw [ArgR.length r1]
    refine Decidable.byContradiction fun z => ?_
    rw [hn as q1 z] at hp1
    exact hp1
  · exact (hp1.later k1).imp fun H' b a r => sh_rp p sc Z H H1 H' q q1 b a k1 s.pool pl1 r
theorem pd_call {x : Str} {F : List Arg → M D} {pos' : Pos} (tk : Takes X W) (fn : FnD X x F) (hg : Gl X x) (ha : PDa X W (e :: es) (dArgs Ars)) (hdb : (x == ("__debug__" : Str)) = false := by decide)
    (he : starEach (e :: es) X.env = (false, eval e X.env) :: starEach es X.env := by rfl) (hpl : (backTo pos (starEach es X.env)).any (·.1) = false := by rfl) : PDe X W (.Call (.Name x pos') (e :: es) [] pos) (dCall F Ars) := by
  obtain ⟨t, h1, h2⟩ := ha
  obtain ⟨k, n, f, fd, ps, hn, hf, hr, hm, hk, hb⟩ := fn.ex
  exact ⟨_, pe_callS hf hr hg hm hk hb (fun σ => passAt tk σ) h1 hdb he hpl, rd_call hn h2⟩
end
end Ew
namespace Ew
open PySem PySem.Spec PyProof.Rows L2
/-! ## Targets, sources, comprehensions -/
/-- a target: the places that it stores to -/
def TgR (K : PySem.W.Frag) (is : List Nat) (t : TG) (g : Tgt) : Prop := ∀ (Z : Rg) (σ : L2.St) (H : Hp) (ρ ρ' : Rho) (q q' : Pool) (v : V) (d : D) (Q : L2.St → Hp → Prop), Rp K Z H v d → g d ρ q = .ok ρ' q' →
  (∀ l : List (Nat × V × D), (∀ x ∈ l, x.1 ∈ is ∧ Rp K Z H x.2.1 x.2.2) → ρ' = setsR l ρ → q' = q → Q (setsV l σ) H) → t v σ H Q
def TgsR (K : PySem.W.Frag) (is : List Nat) (t : TGs) (gs : List Tgt) : Prop := ∀ (Z : Rg) (σ : L2.St) (H : Hp) (ρ ρ' : Rho) (q q' : Pool) (vs : List V) (ds : List D) (Q : L2.St → Hp → Prop), RpL K Z H vs ds → gEach gs ds ρ q = .ok ρ' q' →
  (∀ l : List (Nat × V × D), (∀ x ∈ l, x.1 ∈ is ∧ Rp K Z H x.2.1 x.2.2) → ρ' = setsR l ρ → q' = q → Q (setsV l σ) H) → t vs σ H Q
/-- no target errs -/
def TgOk (g : Tgt) : Prop := ∀ d ρ q, (∃ ρ' , g d ρ q = .ok ρ' q) ∨ g d ρ q = .stuck
def PGd (X : Cx) (is : List Nat) (tg : Expr) (g : Tgt) : Prop := ∃ t, PG X tg t ∧ TgR X.K is t g ∧ TgOk g
def PGsd (X : Cx) (is : List Nat) (ts : List Expr) (gs : List Tgt) : Prop := ∃ t, PGs X ts t ∧ TgsR X.K is t gs ∧ (∀ g ∈ gs, TgOk g) ∧ gs.length = ts.length
/-- the widest reading of a target -/
def gF (K : PySem.W.Frag) (is : List Nat) (g : Tgt) : TG := fun v σ H Q => ∃ (Z : Rg) (ρ ρ' : Rho) (q q' : Pool) (d : D), Rp K Z H v d ∧ g d ρ q = .ok ρ' q' ∧
  ∀ l : List (Nat × V × D), (∀ x ∈ l, x.1 ∈ is ∧ Rp K Z H x.2.1 x.2.2) → ρ' = setsR l ρ → q' = q → Q (setsV l σ) H
theorem PGd.run {X : Cx} {is : List Nat} {tg : Expr} {g : Tgt} (h : PGd X is tg g) : PG X tg (gF X.K is g) := by
  obtain ⟨t, h1, h2, _⟩ := h
  refine ⟨fun pins s σ H v u Q I r x => h1.run pins s σ H v u Q I r ?_⟩
  obtain ⟨Z, ρ, ρ', q, q', d, rd, e, k⟩ := x
  exact h2 Z σ H ρ ρ' q q' v d Q rd e k
section
variable {X : Cx} {pos : Pos}
theorem gd_name (i : Nat) {x : Str} (hN : X.N.Nodup) (hi : X.N[i]? = some x := by rfl) (hx : Loc X.env.scope x := by first | exact Or.inl rfl | exact Or.inr rfl) (hf : X.fn x = true ∨ X.env.scope.names.lookup x = some .local := by first | exact .inl rfl | exact .inr rfl | assumption) : PGd X [i] (.Name x pos) (gN i) :=
  ⟨gName i, pg_name hN hi hx hf, fun Z σ H ρ ρ' q q' v d Q r e k => by
    cases e
    exact k [(i, v, d)] (by simpa using r) rfl rfl, fun d ρ q => .inl ⟨_, rfl⟩⟩
theorem gds_nil : PGsd X [] [] [] := by
  refine ⟨gNil, pgs_nil, fun Z σ H ρ ρ' q q' vs ds Q r e k => ?_, by simp, rfl⟩
  cases r with
  | nil =>
    cases e
    exact ⟨rfl, k [] (by simp) rfl rfl⟩
  | cons _ _ => cases e
theorem gds_cons {is js : List Nat} {e : Expr} {es : List Expr} {g : Tgt} {gs : List Tgt} (h1 : PGd X is e g) (h2 : PGsd X js es gs) (hs : (assignEach (e :: es) X.env).map (·.2) = assign e X.env :: (assignEach es X.env).map (·.2) := by rfl) : PGsd X (is ++ js) (e :: es) (g :: gs) := by
  obtain ⟨t, a1, a2, a3⟩ := h1
  obtain ⟨u, b1, b2, b3, b4⟩ := h2
  refine ⟨gCons t u, pgs_cons a1 b1 hs, fun Z σ H ρ ρ' q q' vs ds Q r e k => ?_, ?_, by rw [List.length_cons, List.length_cons, b4]⟩
  · cases r with
    | nil => cases e
    | cons r1 r2 =>
      rename_i v vs d ds
      refine ⟨v, vs, rfl, ?_⟩
      have e' : M.bnd (g d ρ) (fun ρ' => gEach gs ds ρ') q = .ok ρ' q' := e
      unfold M.bnd at e'
      cases eg : g d ρ q with
      | ok ρ1 q1 =>
        rw [eg] at e'
        refine a2 Z σ H ρ ρ1 q q1 v d _ r1 eg fun l hl e1 e2 => ?_
        refine b2 Z (setsV l σ) H ρ1 ρ' q1 q' vs ds Q r2 e' fun m hm e3 e4 => ?_
        have z := k (l ++ m) (fun x hx => (List.mem_append.mp hx).elim (fun h => ⟨List.mem_append_left _ (hl x h).1, (hl x h).2⟩) fun h => ⟨List.mem_append_right _ (hm x h).1, (hm x h).2⟩) (by rw [setsR_app, ← e1]; exact e3) (e4.trans e2)
        rw [setsV_app] at z
        exact z
      | err x q1 => rw [eg] at e'; cases e'
      | stuck => rw [eg] at e'; cases e'
  · intro g' hg
    rcases List.mem_cons.mp hg with rfl | hg
    · exact a3
    · exact b3 g' hg
theorem gEach_ok : ∀ (gs : List Tgt), (∀ g ∈ gs, TgOk g) → ∀ ds ρ q, (∃ ρ', gEach gs ds ρ q = .ok ρ' q) ∨ gEach gs ds ρ q = .stuck
  | [], _, [], ρ, q => .inl ⟨ρ, rfl⟩
  | [], _, _ :: _, ρ, q => .inr rfl
  | _ :: _, _, [], ρ, q => .inr rfl
  | g :: gs, h, d :: ds, ρ, q => by
    show (∃ ρ', M.bnd (g d ρ) (fun ρ' => gEach gs ds ρ') q = .ok ρ' q) ∨ M.bnd (g d ρ) (fun ρ' => gEach gs ds ρ') q = .stuck
    unfold M.bnd
    rcases h g List.mem_cons_self d ρ q with ⟨ρ1, e⟩ | e
    · rw [e]
      exact gEach_ok gs (fun g' hg => h g' (List.mem_cons_of_mem _ hg)) ds ρ1 q
    · rw [e]
      exact .inr rfl
theorem gd_tup {is : List Nat} {es : List Expr} {k : Nat} {gs : List Tgt} (hc : X.calm = true) (h : PGsd X is es gs) (hn : (assignEach es X.env).length = es.length := by rfl) (hst : (assignEach es X.env).findIdx? (·.1) = none := by rfl) : PGd X is (.Tuple es k pos) (gT gs) := by
  obtain ⟨t, h1, h2, h3, h4⟩ := h
  refine ⟨_, pg_tup hc h1 hn hst, fun Z σ H ρ ρ' q q' v d Q r e kk => ?_, fun d ρ q => ?_⟩
  · unfold gT at e
    cases r with
    | tup hq rs =>
      rename_i a vs ds
      dsimp only at e
      by_cases hl : ds.length = gs.length
      · rw [if_pos hl] at e
        exact ⟨a, vs, rfl, hq, by rw [rs.length, hl, h4], h2 Z σ H ρ ρ' q q' vs ds Q rs e kk⟩
      · rw [if_neg hl] at e; cases e
    | _ => cases e
  · unfold gT
    cases d with
    | tuple ds =>
      dsimp only
      by_cases hl : ds.length = gs.length
      · rw [if_pos hl]
        exact gEach_ok gs h3 ds ρ q
      · rw [if_neg hl]
        exact .inr rfl
    | _ => exact .inr rfl
end
/-! ### sources -/
def Zr (Z : Rg) (H : Hp) : Rg := fun b => Z b ∧ H b ≠ none
theorem Zr.sub {Z : Rg} {H : Hp} : ∀ b, Zr Z H b → Z b := fun _ h => h.1
theorem RpL.zr {K : PySem.W.Frag} {Z : Rg} {H : Hp} {vs : List V} {ds : List D} (r : RpL K Z H vs ds) : RpL K (Zr Z H) H vs ds := r.sub fun _ z n => ⟨z, n⟩
/-- a walk over the items -/
def Walk (K : PySem.W.Frag) (Z : Rg) (H1 : Hp) (J : It) (ds : List D) : Prop := ∀ H', Stand Z H1 H' → (∀ (i : Nat) d, ds[i]? = some d → J.go i H' ∧ ∀ x H'', J.yld i H' x H'' → Same H' H'' ∧ Rp K (Zr Z H1) H'' x d) ∧ ∀ i : Nat, ds.length ≤ i → J.stop i H'
abbrev WaF (K : PySem.W.Frag) : RelT It (List D) := fun _ Z H H' J ds => Walk K (Zn Z H) H' J ds
theorem Walk.grow {K : PySem.W.Frag} {Z Z' : Rg} {H1 : Hp} {J : It} {ds : List D} (w : Walk K Z H1 J ds) (s : ∀ b, Z b → Z' b) : Walk K Z' H1 J ds := fun H' st =>
  let ⟨w1, w2⟩ := w H' (st.sub s)
  ⟨fun i d e => ⟨(w1 i d e).1, fun x H'' y => ⟨((w1 i d e).2 x H'' y).1, ((w1 i d e).2 x H'' y).2.grow fun b z => ⟨s b z.1, z.2⟩⟩⟩, w2⟩
theorem sh_wa {K : PySem.W.Frag} : Shf (WaF K) := fun p sc Z H H2 H' q q2 b a k pl pl2 r => r.grow (Zn.twice k pl pl2)
def PId (X : Cx) (W : WX) (tg iter : Expr) (F : DI) : Prop := ∃ wi, PI X tg iter wi ∧ Rd1 X W (WaF X.K) wi F
section
variable {X : Cx} {W : WX} {tg e a b : Expr} {A B : DE} {pos pos' : Pos}
def iSeqT (K : PySem.W.Frag) (tl : TE) : TI := fun σ H R => tl σ H fun x H1 => (∃ a, x = .ref a ∧ (∃ xs, SqL K H1 a xs) ∧ R (Itl K a) H1) ∨ (∃ a, x = .ref a ∧ (∃ xs, SqT K H1 a xs) ∧ R (Itt K a) H1)
theorem pi_seq {l : Expr} {tl : TE} (hl : PE X l tl) : PI X tg l (iSeqT X.K tl) := by
  refine ⟨fun pins s σ H R I h => ?_⟩
  refine thn (hl.run pins s σ H _ I h) fun v s1 ⟨x, H1, I1, r1, q1⟩ => ?_
  rcases q1 with ⟨a, e, ⟨xs, hq⟩, q⟩ | ⟨a, e, ⟨xs, hq⟩, q⟩
  · subst e
    cases r1
    obtain ⟨its, rv, p, hz⟩ := I1.list hq
    refine wpAny_pyIter_list p.isList ?_
    refine ⟨s1.heap.objs.size, [s1.heap.objs.size], _, _, H1, rfl, I1.kept (t' := s1.toks) fun b o e => Heap.get?_push_of_some _ e, turn_list a _, ⟨_, Heap.get?_push_size _ rfl, rfl, rfl⟩, fun b hb => ?_, q⟩
    have e : b = s1.heap.objs.size := by simpa using hb
    subst e
    exact I1.fpOk (Nat.le_refl _) (I1.hok.fresh (Nat.le_refl _))
  · subst e
    cases r1
    obtain ⟨its, rv, p, hz⟩ := I1.tuple hq
    refine wpAny_pyIter_tuple (show s1.heap.IsTuple a its.toArray from p) ?_
    refine ⟨s1.heap.objs.size, [s1.heap.objs.size], _, _, H1, rfl, I1.kept (t' := s1.toks) fun b o e => Heap.get?_push_of_some _ e, turn_tuple a _, ⟨_, Heap.get?_push_size _ rfl, rfl, rfl⟩, fun b hb => ?_, q⟩
    have e : b = s1.heap.objs.size := by simpa using hb
    subst e
    exact I1.fpOk (Nat.le_refl _) (I1.hok.fresh (Nat.le_refl _))
theorem pid_seq (ha : PDe X W e A) : PId X W tg e (iSeq A) := by
  obtain ⟨t, h1, h2⟩ := ha
  refine ⟨_, pi_seq h1, rd_bnd (X := X) (W := W) (RelF := WaF X.K) (ValA := fun _ Z H v d => Rp X.K Z H v d) (f := fun _ x => match x with
  | .list ds => M.ret ds
  | .tuple ds => M.ret ds
  | _ => M.stuck) (k := fun x σ H R => (∃ a, x = .ref a ∧ (∃ xs, SqL X.K H a xs) ∧ R (Itl X.K a) H) ∨ (∃ a, x = .ref a ∧ (∃ xs, SqT X.K H a xs) ∧ R (Itt X.K a) H)) sh_wa (fun _ _ _ _ _ _ h => h) h2 fun p sc Z σ H ρ q x dx Q s hv hp => ?_⟩
  cases hv with
  | lst hr z rs =>
    rename_i a vs ds
    refine .inl ⟨a, rfl, ⟨vs, .inl (.inl hr)⟩, hp _ H (Keep.refl _ _) s.pool ?_⟩
    intro H' st
    have hr' : H' a = some (.lst vs) := st.rg _ _ (.inl z) hr
    have rs' := (rs.grow (Zn.base (H := H))).zr.stand (st.sub Zr.sub)
    refine ⟨fun i d e => ?_, fun i hi => ⟨vs, .inl (.inl hr'), by rw [rs.length]; exact hi⟩⟩
    obtain ⟨v, e1, e2⟩ := rs'.at e
    refine ⟨⟨vs, v, .inl (.inl hr'), e1⟩, fun x H'' y => ?_⟩
    obtain ⟨eH, y⟩ := y
    subst eH
    have := y vs (.inl (.inl hr'))
    rw [e1] at this
    cases this
    exact ⟨Same.refl _, e2⟩
  | tup hr rs =>
    rename_i a vs ds
    refine .inr ⟨a, rfl, ⟨vs, hr⟩, hp _ H (Keep.refl _ _) s.pool ?_⟩
    intro H' st
    have hr' : SqT X.K H' a vs := st.sqT hr
    have rs' := (rs.grow (Zn.base (H := H))).zr.stand (st.sub Zr.sub)
    refine ⟨fun i d e => ?_, fun i hi => ⟨vs, hr', by rw [rs.length]; exact hi⟩⟩
    obtain ⟨v, e1, e2⟩ := rs'.at e
    refine ⟨⟨vs, v, hr', e1⟩, fun x H'' y => ?_⟩
    obtain ⟨eH, y⟩ := y
    subst eH
    have := y vs hr'
    rw [e1] at this
    cases this
    exact ⟨Same.refl _, e2⟩
  | _ => exact hp.elim
theorem walk_rng {K : PySem.W.Frag} {Z : Rg} {H1 : Hp} (lo : Int) (n : Nat) : Walk K Z H1 (Itr lo n) (intsFrom lo n) := by
  intro H' st
  refine ⟨fun i d e => ?_, fun i hi => by simpa [intsFrom, Itr] using hi⟩
  have hi : i < n := by
    have z := (List.getElem?_eq_some_iff.mp e).1
    simpa [intsFrom] using z
  have ed : d = .int (lo + (i : Int)) := by
    simp [intsFrom, List.getElem?_map, hi] at e
    exact e.symm
  subst ed
  refine ⟨hi, fun x H'' y => ?_⟩
  obtain ⟨eH, ex⟩ := y
  subst eH ex
  exact ⟨Same.refl _, .int _⟩
theorem small62_ok {i : Int} (h : small62 i = true) : -(2 ^ 62) ≤ i ∧ i < 2 ^ 62 := by
  unfold small62 at h
  rw [Bool.and_eq_true] at h
  exact ⟨of_decide_eq_true h.1, of_decide_eq_true h.2⟩
theorem pid_r1 (hg : Gl X "range") (hm : X.mg "range" = none) (ha : PDe X W a A) (hs : starEach [a] X.env = [(false, eval a X.env)] := by rfl) : PId X W tg (.Call (.Name "range" pos') [a] [] pos) (iR1 A) := by
  obtain ⟨t, h1, h2⟩ := ha
  refine ⟨_, pi_range1 hg hm (pa_cons h1 pa_nil hs) hs, rd_bnd (X := X) (W := W) (RelF := WaF X.K) (ValA := fun _ Z H v d => Rp X.K Z H v d) (f := fun _ => rng1) (k := fun x σ H R => ∃ j : Int, [x] = [V.int j] ∧ -(2 ^ 62) ≤ j ∧ j < 2 ^ 62 ∧ R (Itr 0 j.toNat) H) sh_wa (fun _ _ _ _ _ _ h => h) h2 fun p sc Z σ H ρ q x dx Q s hv hp => ?_⟩
  cases hv with
  | int j =>
    unfold rng1 at hp
    dsimp only at hp
    by_cases hj : small62 j = true
    · rw [if_pos hj] at hp
      exact ⟨j, rfl, (small62_ok hj).1, (small62_ok hj).2, hp _ H (Keep.refl _ _) s.pool (walk_rng _ _)⟩
    · rw [if_neg hj] at hp
      exact hp.elim
  | _ => exact hp.elim
theorem pid_r2 (hg : Gl X "range") (hm : X.mg "range" = none) (ha : PDe X W a A) (hb : PDe X W b B) (hs : starEach [a, b] X.env = [(false, eval a X.env), (false, eval b X.env)] := by rfl) (hs2 : starEach [b] X.env = [(false, eval b X.env)] := by rfl) : PId X W tg (.Call (.Name "range" pos') [a, b] [] pos) (iR2 A B) := by
  obtain ⟨t, h1, h2⟩ := ha
  obtain ⟨u, g1, g2⟩ := hb
  refine ⟨_, pi_range2 hg hm (pa_cons h1 (pa_cons g1 pa_nil hs2) (by rw [hs, hs2])) hs hs2, ?_⟩
  refine rd_2 (X := X) (W := W) (Rel := WaF X.K) (r := fun x y H R => ∃ i j : Int, [x, y] = [V.int i, V.int j] ∧ (-(2 ^ 62) ≤ i ∧ i < 2 ^ 62 ∧ -(2 ^ 62) ≤ j ∧ j < 2 ^ 62) ∧ R (Itr i (j - i).toNat) H) sh_wa (fun p sc Z σ H q x y dx dy Q pl nz hx hy hp => ?_) h2 g2
  cases hx with
  | int i =>
    cases hy with
    | int j =>
      unfold rng2 at hp
      dsimp only at hp
      by_cases hj : (small62 i && small62 j) = true
      · rw [if_pos hj] at hp
        rw [Bool.and_eq_true] at hj
        exact ⟨i, j, rfl, ⟨(small62_ok hj.1).1, (small62_ok hj.1).2, (small62_ok hj.2).1, (small62_ok hj.2).2⟩, hp _ H (Keep.refl _ _) pl (walk_rng _ _)⟩
      · rw [if_neg hj] at hp
        exact hp.elim
    | _ => exact hp.elim
  | _ => exact hp.elim
end

/-! ### comprehensions -/
section
variable {X : Cx} {e elt tg iter : Expr} {pos : Pos}
abbrev W0 : WX := fun _ _ _ _ => False
theorem Post.nw {α β : Type} {mg : Str → Option Value} {p sc : Addr} {H : Hp} {Rel : Hp → β → α → Prop} {W W' : Value → Option Addr → Hp → Prop} {Q : β → Hp → Prop} {r : R α} (h : Post mg p sc H Rel W Q r) (hn : ∀ x q, r ≠ .err x q) : Post mg p sc H Rel W' Q r := by
  cases r with
  | ok a q => exact h
  | err x q => exact absurd rfl (hn x q)
  | stuck => exact h
theorem tagN {α : Type} {m : M α} {q : Pool} {a : α} {q' : Pool} (h : M.noerr m q = .ok a q') : m q = .ok a q' := by
  unfold M.noerr at h
  cases e : m q with
  | ok b q1 => rw [e] at h; cases h; rfl
  | err x q1 => rw [e] at h; cases h
  | stuck => rw [e] at h; cases h
/-- tests of a clause -/
def PTsd (X : Cx) (W : WX) (ifs : List Expr) (T : DT) : Prop := ∃ t, PTs X ifs t ∧ Rd1 X W BoF t T
theorem PTsd.run {X : Cx} {W : WX} {ifs : List Expr} {T : DT} (h : PTsd X W ifs T) : PTs X ifs (tF X.K X.mg W BoF T) := by
  obtain ⟨t, h1, h2⟩ := h
  exact ⟨fun pins s σ H Q I x => h1.run pins s σ H Q I (h2.tF x)⟩
theorem ptsd_nil {W : WX} : PTsd X W [] tTrue := ⟨tYes, pts_nil, fun p sc Z σ H ρ q Q s hp => hp true H (Keep.refl _ _) s.pool rfl⟩
theorem ptsd_one {W : WX} {c : Expr} {T : DT} (h : PDt X W c T) : PTsd X W [c] T := by
  obtain ⟨t, h1, h2⟩ := h
  exact ⟨_, pts_one h1, h2⟩
theorem compGo_cons {f : D → M (Option D)} {x : D} {xs : List D} {q : Pool} : M.noerr (compGo f (x :: xs)) q = (match M.noerr (f x) q with
    | .ok o q1 => (match M.noerr (compGo f xs) q1 with
      | .ok r q2 => .ok (o.toList ++ r) q2
      | .err _ _ => .stuck
      | .stuck => .stuck)
    | .err _ _ => .stuck
    | .stuck => .stuck) := by
  show M.noerr (M.bnd (f x) fun o => M.bnd (compGo f xs) fun r => M.ret (o.toList ++ r)) q = _
  unfold M.noerr M.bnd M.ret
  cases f x q with
  | ok o q1 =>
    dsimp only
    cases compGo f xs q1 <;> rfl
  | err _ _ => rfl
  | stuck => rfl
/-- the reading of a comprehension, at a point -/
theorem rd_comp_at {W : WX} {wi : TI} {it : DI} {own is : List Nat} {g : Tgt} {T : DT} {F : DE} {p sc : Addr} {Z : Rg} {σ : L2.St} {H : Hp} {ρ : Rho} {q : Pool} {Q : VK} (s : Sit X.K p sc Z σ H ρ q)
    (hi : ∀ R : It → Hp → Prop, Post X.mg p sc H (WaF X.K p Z H) (fun c od H' => W c od σ H') R (it ρ q) → wi σ H R) (his : ∀ i ∈ is, i ∈ own) (hg : TgOk g)
    (hp : Post X.mg p sc H (NewF X.K p Z H) (fun c od H' => W c od σ H') Q (dComp own it g T F ρ q)) :
    tLc wi (gF X.K is g) (tF X.K X.mg W0 BoF T) (tF X.K X.mg W0 (RpF X.K) F) own σ H Q := by
  refine hi _ ((Post.bnd (Rel := WaF X.K p Z H) (Rel' := NewF X.K p Z H) hp).to fun J H1 ⟨ds, q1, e1, k1, pl1, wk, hp1⟩ => ?_)
  intro D hD
  by_cases hlen : ds.length ≤ sizeLine
  case neg => rw [if_neg hlen] at hp1; exact hp1.elim
  rw [if_pos hlen] at hp1
  have hHD : H D = none := by
    cases e : H D with
    | none => rfl
    | some o =>
      by_cases hc : D = p
      · subst hc; rw [pl1.1] at hD; cases hD
      · rw [k1 D o hc e] at hD; cases hD
  have hpD : D ≠ p := fun e => by subst e; rw [pl1.1] at hD; cases hD
  have s1 := s.next k1 pl1
  -- the region within
  let Zd : Rg := fun b => Zn Z H b ∧ b ≠ D
  have nzd : ¬ Zd p := fun z => Zn.nop s.pool s.nz z.1
  have envD : EnvR X.K p Zd σ H1 ρ := fun i sl h => by
    have z := s1.env i sl h
    cases ev : sl.val? with
    | none => rw [ev] at z; exact z
    | some d =>
      rw [ev] at z
      obtain ⟨v, h1, h2⟩ := z
      exact ⟨v, h1, h2.sub fun b zb nb => ⟨.inl zb, fun e => nb (e ▸ hD)⟩⟩
  refine ⟨fun i m Hc => m = ds.length - i ∧ i ≤ ds.length ∧ ∃ q' acc vs, Keep p H1 Hc ∧ PoolAt p sc Hc q' ∧ Hc D = some (.lst vs) ∧ vs.length ≤ i ∧ RpL X.K Zd Hc vs acc ∧
    Post X.mg p sc H (NewF X.K p Z H) (fun c od H' => W c od σ H') Q (match M.noerr (compGo (compTurn g T F (wipeR ρ own)) (ds.drop i)) q' with
      | .ok ys q'' => R.ok (.list (acc ++ ys)) q''
      | .err x q'' => .stuck
      | .stuck => .stuck), ⟨ds.length, by simp, Nat.zero_le _, q1, [], [], new_keep hD, new_pool hD pl1, upd_same, Nat.le_refl _, .nil, ?_⟩, ?_⟩
  · rw [List.drop_zero]
    unfold M.bnd at hp1
    cases ec : M.noerr (compGo (compTurn g T F (wipeR ρ own)) ds) q1 with
    | ok ys q2 => rw [ec] at hp1; exact hp1
    | err x q2 =>
      unfold M.noerr at ec
      cases e2 : compGo (compTurn g T F (wipeR ρ own)) ds q1 <;> rw [e2] at ec <;> cases ec
    | stuck => rw [ec] at hp1; exact hp1.elim
  · rintro i m Hc ⟨rfl, hi, q', acc, vs, kc, plc, hDc, hvl, hrs, hpc⟩
    have std : Stand (Zn Z H) H1 Hc := kc.stand pl1 (Zn.nop s.pool s.nz)
    by_cases hlt : i < ds.length
    · refine .inr ?_
      obtain ⟨w1, _⟩ := wk Hc std
      have ed : ds[i]? = some ds[i] := List.getElem?_eq_getElem hlt
      obtain ⟨go, yl⟩ := w1 i _ ed
      refine ⟨go, fun Hn => ∃ q' acc vs, Keep p H1 Hn ∧ PoolAt p sc Hn q' ∧ Hn D = some (.lst vs) ∧ vs.length ≤ i + 1 ∧ RpL X.K Zd Hn vs acc ∧
        Post X.mg p sc H (NewF X.K p Z H) (fun c od H' => W c od σ H') Q (match M.noerr (compGo (compTurn g T F (wipeR ρ own)) (ds.drop (i + 1))) q' with
          | .ok ys q'' => R.ok (.list (acc ++ ys)) q''
          | .err x q'' => .stuck
          | .stuck => .stuck), fun H' nx => ⟨ds.length - (i + 1), by omega, rfl, hlt, nx⟩, fun x H' yy => ?_⟩
      obtain ⟨sm, rx⟩ := yl x H' yy
      have kS : Keep p Hc H' := fun b o _ h => sm b o h
      have plS : PoolAt p sc H' q' := ⟨sm _ _ plc.1, sm _ _ plc.2.1, plc.2.2⟩
      have hDS : H' D = some (.lst vs) := sm _ _ hDc
      have rx' : Rp X.K Zd H' x ds[i] := rx.grow fun b zb => ⟨zb.1, fun e => zb.2 (e ▸ hD)⟩
      rw [List.drop_eq_getElem_cons hlt] at hpc
      -- the target
      have hturn : ∃ ρ1, g ds[i] (wipeR ρ own) q' = .ok ρ1 q' := by
        rcases hg ds[i] (wipeR ρ own) q' with h | h
        · exact h
        · have z : M.noerr (compGo (compTurn g T F (wipeR ρ own)) (ds[i] :: ds.drop (i + 1))) q' = .stuck := by
            show M.noerr (M.bnd (M.bnd (g ds[i] (wipeR ρ own)) _) _) q' = .stuck
            unfold M.noerr M.bnd
            simp only [h]
          rw [z] at hpc
          exact hpc.elim
      obtain ⟨ρ1, eg⟩ := hturn
      refine ⟨Zd, wipeR ρ own, ρ1, q', q', ds[i], rx', eg, fun l hl e2 _ => ?_⟩
      subst e2
      refine ⟨wipe_sets l fun x hx => his _ (hl x hx).1, ?_⟩
      have sit1 : Sit X.K p sc Zd (setsV l (wipe σ own)) H' (setsR l (wipeR ρ own)) q' := by
        refine ⟨EnvR.sets l (((envD.stand ((kc.trans kS).stand pl1 nzd)).wipe own)) (by rw [wipeR_len, wipe_length]; exact s.len) fun x hx => (hl x hx).2, plS, nzd, ?_⟩
        rw [setsR_len, setsV_len, wipeR_len, wipe_length]
        exact s.len
      have ec := compGo_cons (f := compTurn g T F (wipeR ρ own)) (x := ds[i]) (xs := ds.drop (i + 1)) (q := q')
      rw [ec] at hpc
      have et : compTurn g T F (wipeR ρ own) ds[i] q' = M.bnd (T (setsR l (wipeR ρ own))) (fun c => if c = true then M.bnd (F (setsR l (wipeR ρ own))) fun y => M.ret (some y) else M.ret none) q' := by
        unfold compTurn M.bnd
        rw [eg]
      have plsub : ∀ b, Zn Zd H' b → Zd b ∨ H' b = none := fun b z => z
      refine ⟨p, sc, Zd, _, q', sit1, ?_⟩
      unfold M.bnd at et
      cases eT : T (setsR l (wipeR ρ own)) q' with
      | err x q2 =>
        simp only [eT] at et
        unfold M.noerr at hpc
        rw [et] at hpc
        exact hpc.elim
      | stuck =>
        simp only [eT] at et
        unfold M.noerr at hpc
        rw [et] at hpc
        exact hpc.elim
      | ok c q2 =>
        simp only [eT] at et
        intro b H3 k3 pl3 hb
        have hb' : b = c := hb
        subst hb'
        have hD3 : H3 D = some (.lst vs) := k3 D _ hpD hDS
        have sit3 := sit1.next k3 pl3
        have rs3 : RpL X.K Zd H3 vs acc := hrs.stand (((kS.trans k3).stand plc nzd))
        cases b with
        | false =>
          simp only [Bool.false_eq_true, if_false] at et ⊢
          refine ⟨q2, acc, vs, (kc.trans kS).trans k3, pl3, hD3, Nat.le_succ_of_le hvl, rs3, ?_⟩
          unfold M.noerr at hpc ⊢
          rw [et] at hpc
          dsimp only [M.ret] at hpc
          cases er : compGo (compTurn g T F (wipeR ρ own)) (ds.drop (i + 1)) q2 with
          | ok r q4 =>
            rw [er] at hpc
            exact hpc
          | err x q4 => rw [er] at hpc; exact hpc.elim
          | stuck => rw [er] at hpc; exact hpc.elim
        | true =>
          simp only [if_true] at et ⊢
          refine ⟨p, sc, Zd, _, q2, sit3, ?_⟩
          cases eF : F (setsR l (wipeR ρ own)) q2 with
          | err x q3 =>
            simp only [eF] at et
            unfold M.noerr at hpc
            rw [et] at hpc
            exact hpc.elim
          | stuck =>
            simp only [eF] at et
            unfold M.noerr at hpc
            rw [et] at hpc
            exact hpc.elim
          | ok y q3 =>
            simp only [eF] at et
            intro v H4 k4 pl4 rv
            have hD4 : H4 D = some (.lst vs) := k4 D _ hpD hD3
            have kAll : Keep p H1 H4 := ((kc.trans kS).trans k3).trans k4
            have nZd : ¬ Zd D := fun z => z.2 rfl
            have rv' : Rp X.K Zd H4 v y := rv.grow fun b z => by
              rcases z with z | n
              · exact z
              · exact ⟨.inr (none_back ((k1.trans kc).trans (kS.trans k3)) pl3 n), fun e => by rw [e, hD3] at n; cases n⟩
            have st4 : Stand Zd H4 (upd H4 D (.lst (vs ++ [v]))) := own_stand hD4 nZd
            refine ⟨vs, hD4, Nat.lt_of_lt_of_le (Nat.lt_of_le_of_lt hvl hlt) hlen, q3, acc ++ [y], vs ++ [v], fun b o hb e => ?_, ⟨?_, ?_, pl4.2.2⟩, upd_same, by simpa using hvl, ((rs3.stand (k4.stand pl3 nzd)).append (.one rv')).stand st4, ?_⟩
            · rw [upd_ne (ne_of_none e hD)]
              exact kAll b o hb e
            · rw [upd_ne (Ne.symm hpD)]
              exact pl4.1
            · rw [upd_ne (fun e => by have z := pl1.2.1; rw [e, hD] at z; cases z)]
              exact pl4.2.1
            · unfold M.noerr at hpc ⊢
              rw [et] at hpc
              dsimp only [M.ret] at hpc
              cases er : compGo (compTurn g T F (wipeR ρ own)) (ds.drop (i + 1)) q3 with
              | ok r q4 =>
                rw [er] at hpc
                simp only [Option.toList, List.cons_append, List.nil_append] at hpc
                simp only [List.append_assoc, List.cons_append, List.nil_append]
                exact hpc
              | err x q4 => rw [er] at hpc; exact hpc.elim
              | stuck => rw [er] at hpc; exact hpc.elim
    · have ei : i = ds.length := by omega
      subst ei
      refine .inl ⟨(wk Hc std).2 _ (Nat.le_refl _), ?_⟩
      rw [List.drop_length] at hpc
      have z := hpc (.ref D) Hc (k1.trans kc) plc ⟨D, vs, acc ++ [], rfl, rfl, hHD, hDc, by rw [List.append_nil]; exact hrs⟩
      exact z
theorem rd_comp {W : WX} {wi : TI} {it : DI} {own is : List Nat} {g : Tgt} {T : DT} {F : DE} (hi : Rd1 X W (WaF X.K) wi it) (his : ∀ i ∈ is, i ∈ own) (hg : TgOk g) :
    Rd1 X W (NewF X.K) (tLc wi (gF X.K is g) (tF X.K X.mg W0 BoF T) (tF X.K X.mg W0 (RpF X.K) F) own) (dComp own it g T F) :=
  fun p sc Z σ H ρ q Q s hp => rd_comp_at s (fun R h => hi p sc Z σ H ρ q R s h) his hg hp
theorem pdf_comp {W : WX} {own : List (Str × Nat)} {is : List Nat} {ifs : List Expr} {scope : Scope} {it : DI} {g : Tgt} {T : DT} {F : DE} (hc : X.calm = true) (hN : X.N.Nodup) (hi : PId X W tg iter it) (ok : BlkOk X.N X.env.scope scope own) (his : ∀ i ∈ is, i ∈ own.map (·.2))
    (hg : ∀ (s : Shared) (H : Hp) (C : Addr) (cl : List (Str × Addr)) (fp : List Addr), PGd (X.blk s H scope (compEnvC scope cl C X.env) fp) is tg g) (ht : ∀ (s : Shared) (H : Hp) (C : Addr) (cl : List (Str × Addr)) (fp : List Addr), PTsd (X.blk s H scope (compEnvC scope cl C X.env) fp) W0 ifs T)
    (he : ∀ (s : Shared) (H : Hp) (C : Addr) (cl : List (Str × Addr)) (fp : List Addr), PDe (X.blk s H scope (compEnvC scope cl C X.env) fp) W0 elt F) (hgo : TgOk g) (hs : ∀ x, foldedSetIterable iter X.env x = pure x := by intro _; rfl) :
    PDf X W (.ListComp elt [⟨tg, iter, ifs, 0⟩] scope pos) (dComp (own.map (·.2)) it g T F) := by
  obtain ⟨wi, h1, h2⟩ := hi
  exact ⟨_, pe_lc hc hN h1 ok (fun s H C cl fp => (hg s H C cl fp).run) (fun s H C cl fp => (ht s H C cl fp).run) (fun s H C cl fp => (he s H C cl fp).run) hs, rd_comp h2 his hgo⟩
theorem FnD.blk {x : Str} {F : List Arg → M D} (h : FnD X x F) {s : Shared} {H : Hp} {scope : Scope} {env : Env} {fp : List Addr} : FnD (X.blk s H scope env fp) x F := ⟨h.ex⟩
end
end Ew
namespace Ew
open PySem PySem.Spec PyProof.Rows L2
/-! ## Statements -/
def SlotR (K : PySem.W.Frag) (p : Addr) (Z : Rg) (σ : L2.St) (H H0 : Hp) (i : Nat) : Slot → Prop
  | .dat d => ∃ v, σ[i]? = some (some v) ∧ Rp K Z H v d
  | .own ds => ∃ a vs, σ[i]? = some (some (.ref a)) ∧ H a = some (.lst vs) ∧ ¬ Z a ∧ H0 a = none ∧ RpL K Z H vs ds
  | .odic kvs => ∃ a ks, σ[i]? = some (some (.ref a)) ∧ H a = some (.dK ks) ∧ ¬ Z a ∧ H0 a = none ∧ kvs.map (fun q => q.1) = ks.map (fun q => keyD q.1) ∧ RpL K Z H (ks.map fun q => q.2) (kvs.map fun q => q.2)
  | .pool => σ[i]? = some (some (.ref p))
/-- where a def's body stands -/
structure BR (K : PySem.W.Frag) (p sc : Addr) (Z0 : Rg) (H0 : Hp) (Z : Rg) (σ : L2.St) (H : Hp) (ρ : Rho) (q : Pool) : Prop where
  keep : Keep p H0 H
  pool0 : ∃ q0, PoolAt p sc H0 q0
  pool : PoolAt p sc H q
  nz0 : ¬ Z0 p
  nz : ¬ Z p
  zs : ∀ b, Z b → H b ≠ none
  zz : ∀ b, Z b → Zn Z0 H0 b
  len : ρ.length = σ.length
  slot : ∀ (i : Nat) s, ρ[i]? = some (some s) → SlotR K p Z σ H H0 i s
  dist : ∀ (i j : Nat) a s t, i ≠ j → ρ[i]? = some (some s) → s.mine = true → ρ[j]? = some (some t) → t.mine = true → σ[i]? = some (some (V.ref a)) → σ[j]? ≠ some (some (V.ref a))
/-- the region with what is the def's own -/
def Zo (Z : Rg) (σ : L2.St) (ρ : Rho) : Rg := fun b => Z b ∨ ∃ (i : Nat) (s : Slot), ρ[i]? = some (some s) ∧ s.mine = true ∧ σ[i]? = some (some (.ref b))
section
variable {K : PySem.W.Frag} {p sc : Addr} {Z0 Z Z' : Rg} {H0 H H1 : Hp} {σ : L2.St} {ρ : Rho} {q q1 : Pool}
theorem BR.mine (b : BR K p sc Z0 H0 Z σ H ρ q) {i : Nat} {s : Slot} (h : ρ[i]? = some (some s)) (m : s.mine = true) : ∃ a, σ[i]? = some (some (.ref a)) ∧ ¬ Z a ∧ H0 a = none ∧ H a ≠ none ∧ a ≠ p ∧ a ≠ sc := by
  obtain ⟨q0, h0⟩ := b.pool0
  have ne : ∀ a, H0 a = none → a ≠ p ∧ a ≠ sc := fun a e => ⟨fun z => (by rw [z, h0.1] at e; cases e), fun z => (by rw [z, h0.2.1] at e; cases e)⟩
  cases s with
  | own ds =>
    obtain ⟨a, vs, h1, h2, h3, h4, h5⟩ := b.slot i _ h
    exact ⟨a, h1, h3, h4, by rw [h2]; exact Option.some_ne_none _, ne a h4⟩
  | odic ds =>
    obtain ⟨a, vs, h1, h2, h3, h4, h5⟩ := b.slot i _ h
    exact ⟨a, h1, h3, h4, by rw [h2]; exact Option.some_ne_none _, ne a h4⟩
  | dat d => cases m
  | pool => cases m
theorem hide_some {i : Nat} {s : Slot} (h : (hideR ρ)[i]? = some (some s)) : ρ[i]? = some (some s) ∧ s.mine = false := by
  unfold hideR at h
  rw [List.getElem?_map] at h
  cases e : ρ[i]? with
  | none => rw [e] at h; cases h
  | some o =>
    cases o with
    | none => rw [e] at h; cases h
    | some t =>
      rw [e] at h
      have h' : hide1 (some t) = some s := Option.some.inj h
      unfold hide1 at h'
      dsimp only at h'
      cases m : t.mine with
      | true => rw [m] at h'; cases h'
      | false =>
        rw [m, if_neg Bool.false_ne_true] at h'
        cases h'
        exact ⟨rfl, m⟩
theorem BR.sitH (b : BR K p sc Z0 H0 Z σ H ρ q) : Sit K p sc Z σ H (hideR ρ) q := by
  refine ⟨fun i s h => ?_, b.pool, b.nz, by unfold hideR; rw [List.length_map]; exact b.len⟩
  obtain ⟨h1, h2⟩ := hide_some h
  have z := b.slot i s h1
  cases s with
  | dat d => exact z
  | pool => exact z
  | own ds => cases h2
  | odic ds => cases h2
theorem BR.nzo (b : BR K p sc Z0 H0 Z σ H ρ q) : ¬ Zo Z σ ρ p := by
  rintro (h | ⟨i, s, h, m, e⟩)
  · exact b.nz h
  · obtain ⟨a, h1, _, _, _, h2, _⟩ := b.mine h m
    rw [e] at h1; cases h1
    exact h2 rfl
theorem BR.sit (b : BR K p sc Z0 H0 Z σ H ρ q) : Sit K p sc (Zo Z σ ρ) σ H ρ q := by
  refine ⟨fun i s h => ?_, b.pool, b.nzo, b.len⟩
  have z := b.slot i s h
  cases s with
  | dat d =>
    obtain ⟨v, h1, h2⟩ := z
    exact ⟨v, h1, h2.grow fun _ x => .inl x⟩
  | pool => exact z
  | own ds =>
    obtain ⟨a, vs, h1, h2, h3, h4, h5⟩ := z
    exact ⟨.ref a, h1, .lst h2 (.inr ⟨i, _, h, rfl, h1⟩) (h5.grow fun _ x => .inl x)⟩
  | odic kvs =>
    obtain ⟨a, ks, h1, h2, h3, h4, h5, h6⟩ := z
    exact ⟨.ref a, h1, .dic (.inl h2) (.inr ⟨i, _, h, rfl, h1⟩) h5 (h6.grow fun _ x => .inl x)⟩
theorem BR.zo (b : BR K p sc Z0 H0 Z σ H ρ q) : ∀ a, Zn (Zo Z σ ρ) H a → Zn Z0 H0 a := fun a h => by
  rcases h with (h | ⟨i, s, h, m, e⟩) | h
  · exact b.zz a h
  · obtain ⟨a', h1, _, h2, _⟩ := b.mine h m
    rw [e] at h1; cases h1
    exact .inr h2
  · exact .inr (none_back b.keep b.pool h)
/-- the heap goes on -/
theorem BR.next (b : BR K p sc Z0 H0 Z σ H ρ q) (k : Keep p H H1) (pl : PoolAt p sc H1 q1) : BR K p sc Z0 H0 Z σ H1 ρ q1 := by
  have st := k.stand b.pool b.nz
  refine ⟨b.keep.trans k, b.pool0, pl, b.nz0, b.nz, fun c z n => ?_, b.zz, b.len, fun i s h => ?_, b.dist⟩
  · cases e : H c with
    | none => exact b.zs c z e
    | some o => rw [st.rg c o z e] at n; cases n
  · have z := b.slot i s h
    cases s with
    | dat d =>
      obtain ⟨v, h1, h2⟩ := z
      exact ⟨v, h1, h2.stand st⟩
    | pool => exact z
    | own ds =>
      obtain ⟨a, _, _, _, _, ap, _⟩ := b.mine h rfl
      obtain ⟨a, vs, h1, h2, h3, h4, h5⟩ := z
      obtain ⟨a', g1, _, _, _, ap, _⟩ := b.mine h rfl
      rw [h1] at g1; cases g1
      exact ⟨a, vs, h1, k a _ ap h2, h3, h4, h5.stand st⟩
    | odic kvs =>
      obtain ⟨a, ks, h1, h2, h3, h4, h5, h6⟩ := z
      obtain ⟨a', g1, _, _, _, ap, _⟩ := b.mine h rfl
      rw [h1] at g1; cases g1
      exact ⟨a, ks, h1, k a _ ap h2, h3, h4, h5, h6.stand st⟩
/-- the region grows -/
theorem BR.grow (b : BR K p sc Z0 H0 Z σ H ρ q) (zz' : ∀ c, Z c → Z' c) (zs' : ∀ c, Z' c → H c ≠ none) (zo' : ∀ c, Z' c → Zn Z0 H0 c) (nz' : ¬ Z' p) (no : ∀ (i : Nat) s a, ρ[i]? = some (some s) → s.mine = true → σ[i]? = some (some (V.ref a)) → ¬ Z' a) : BR K p sc Z0 H0 Z' σ H ρ q := by
  refine ⟨b.keep, b.pool0, b.pool, b.nz0, nz', zs', zo', b.len, fun i s h => ?_, b.dist⟩
  have z := b.slot i s h
  cases s with
  | dat d =>
    obtain ⟨v, h1, h2⟩ := z
    exact ⟨v, h1, h2.grow zz'⟩
  | pool => exact z
  | own ds =>
    obtain ⟨a, vs, h1, h2, h3, h4, h5⟩ := z
    exact ⟨a, vs, h1, h2, no i _ a h rfl h1, h4, h5.grow zz'⟩
  | odic kvs =>
    obtain ⟨a, ks, h1, h2, h3, h4, h5, h6⟩ := z
    exact ⟨a, ks, h1, h2, no i _ a h rfl h1, h4, h5, h6.grow zz'⟩
/-- behind an expression that does not look at the def's own -/
def Zh (Z : Rg) (H H1 : Hp) : Rg := fun b => Zn Z H b ∧ H1 b ≠ none
theorem BR.after (b : BR K p sc Z0 H0 Z σ H ρ q) (k : Keep p H H1) (pl : PoolAt p sc H1 q1) : BR K p sc Z0 H0 (Zh Z H H1) σ H1 ρ q1 := by
  have b1 := b.next k pl
  refine b1.grow (fun c z => ⟨.inl z, b1.zs c z⟩) (fun c z => z.2) (fun c z => ?_) (fun z => Zn.nop b.pool b.nz z.1) fun i s a h m e z => ?_
  · rcases z.1 with z | z
    · exact b.zz c z
    · exact .inr (none_back b.keep b.pool z)
  · obtain ⟨a', h1, h2, h3, h4, _⟩ := b.mine h m
    rw [e] at h1; cases h1
    rcases z.1 with z | z
    · exact h2 z
    · exact h4 z
theorem BR.set (b : BR K p sc Z0 H0 Z σ H ρ q) {i : Nat} {v : V} {d : D} (r : Rp K Z H v d) : BR K p sc Z0 H0 Z (σ.set i (some v)) H (ρ.set i (some (.dat d))) q := by
  refine ⟨b.keep, b.pool0, b.pool, b.nz0, b.nz, b.zs, b.zz, by rw [List.length_set, List.length_set]; exact b.len, fun j s h => ?_, fun j k a s t jk h1 m1 h2 m2 e1 e2 => ?_⟩
  · by_cases hj : j = i
    · subst hj
      have hlt : j < ρ.length := by
        have z := (List.getElem?_eq_some_iff.mp h).1
        rwa [List.length_set] at z
      rw [List.getElem?_set_self hlt] at h
      cases h
      exact ⟨v, by rw [List.getElem?_set_self (b.len ▸ hlt)], r⟩
    · rw [List.getElem?_set_ne (Ne.symm hj)] at h
      have z := b.slot j s h
      have e : (σ.set i (some v))[j]? = σ[j]? := List.getElem?_set_ne (Ne.symm hj)
      cases s with
      | dat d => obtain ⟨v, h1, h2⟩ := z; exact ⟨v, e.trans h1, h2⟩
      | pool => exact e.trans z
      | own ds => obtain ⟨a, vs, h1, h2⟩ := z; exact ⟨a, vs, e.trans h1, h2⟩
      | odic ds => obtain ⟨a, vs, h1, h2⟩ := z; exact ⟨a, vs, e.trans h1, h2⟩
  · have key : ∀ (j : Nat) (s : Slot), (ρ.set i (some (.dat d)))[j]? = some (some s) → s.mine = true → j ≠ i := fun j s h m hj => by
      subst hj
      have hlt : j < ρ.length := by
        have z := (List.getElem?_eq_some_iff.mp h).1
        rwa [List.length_set] at z
      rw [List.getElem?_set_self hlt] at h
      cases h
      cases m
    have n1 := key j s h1 m1
    have n2 := key k t h2 m2
    rw [List.getElem?_set_ne (Ne.symm n1)] at h1 e1
    rw [List.getElem?_set_ne (Ne.symm n2)] at h2 e2
    exact b.dist j k a s t jk h1 m1 h2 m2 e1 e2
theorem BR.sets : ∀ (l : List (Nat × V × D)) {σ : L2.St} {ρ : Rho}, BR K p sc Z0 H0 Z σ H ρ q → (∀ x ∈ l, Rp K Z H x.2.1 x.2.2) → BR K p sc Z0 H0 Z (setsV l σ) H (setsR l ρ) q
  | [], _, _, b, _ => b
  | x :: l, σ, ρ, b, h => BR.sets l (b.set (h x List.mem_cons_self)) fun y hy => h y (List.mem_cons_of_mem _ hy)
end
/-- what is wanted behind a statement -/
def PostS (K : PySem.W.Frag) (mg : Str → Option Value) (p sc : Addr) (Z0 : Rg) (H0 : Hp) (Z : Rg) (H : Hp) (W : WX) (E : Ends) : R Out → Prop
  | .ok (.next ρ') q' => ∀ Z' σ' H', BR K p sc Z0 H0 Z' σ' H' ρ' q' → (∀ b, Z b → Z' b) → Stand Z H H' → E.nx σ' H'
  | .ok (.ret d) q' => ∀ v H', Keep p H0 H' → PoolAt p sc H' q' → Rp K (Zn Z0 H0) H' v d → E.rt v H'
  | .ok (.brk ρ') q' => ∀ Z' σ' H', BR K p sc Z0 H0 Z' σ' H' ρ' q' → (∀ b, Z b → Z' b) → Stand Z H H' → E.bk σ' H'
  | .ok (.cont ρ') q' => ∀ Z' σ' H', BR K p sc Z0 H0 Z' σ' H' ρ' q' → (∀ b, Z b → Z' b) → Stand Z H H' → E.ct σ' H'
  | .err x q' => ∀ c od σ' H', Keep p H0 H' → PoolAt p sc H' q' → ExR mg H' x c od → W c od σ' H'
  | .stuck => False
def RdS (K : PySem.W.Frag) (mg : Str → Option Value) (W : WX) (t : TS) (F : DS) : Prop := ∀ (p sc : Addr) (Z0 : Rg) (H0 : Hp) (Z : Rg) (σ : L2.St) (H : Hp) (ρ : Rho) (q : Pool) (E : Ends), BR K p sc Z0 H0 Z σ H ρ q → PostS K mg p sc Z0 H0 Z H W E (F ρ q) → t E σ H
def PSd (X : Cx) (W : WX) (s : Stmt) (F : DS) : Prop := ∃ t, PS X s t ∧ RdS X.K X.mg W t F
def PSsd (X : Cx) (W : WX) (s : List Stmt) (F : DS) : Prop := ∃ t, PSs X s t ∧ RdS X.K X.mg W t F
section
variable {K : PySem.W.Frag} {mg : Str → Option Value} {p sc : Addr} {Z0 Z Z' : Rg} {H0 H H1 : Hp} {W : WX} {E : Ends} {r : R Out}
theorem PostS.later (h : PostS K mg p sc Z0 H0 Z H W E r) (zz : ∀ b, Z b → Z' b) (st : Stand Z H H1) : PostS K mg p sc Z0 H0 Z' H1 W E r := by
  cases r with
  | ok o q =>
    cases o with
    | next ρ => exact fun Z2 σ2 H2 b z s => h Z2 σ2 H2 b (fun c x => z c (zz c x)) (st.trans (s.sub zz))
    | ret d => exact h
    | brk ρ => exact fun Z2 σ2 H2 b z s => h Z2 σ2 H2 b (fun c x => z c (zz c x)) (st.trans (s.sub zz))
    | cont ρ => exact fun Z2 σ2 H2 b z s => h Z2 σ2 H2 b (fun c x => z c (zz c x)) (st.trans (s.sub zz))
  | err x q => exact h
  | stuck => exact h
/-- behind an expression: its errors, its end -/
theorem PostS.ex {α β : Type} {Rel : Hp → β → α → Prop} {m : M α} {f : α → M Out} {q : Pool} {σ : L2.St} {ρ : Rho} {Q : β → Hp → Prop} (b : BR K p sc Z0 H0 Z σ H ρ q) (h : PostS K mg p sc Z0 H0 Z H W E (M.bnd m f q))
    (hq : ∀ a q1 c H1, m q = .ok a q1 → Keep p H H1 → PoolAt p sc H1 q1 → Rel H1 c a → PostS K mg p sc Z0 H0 Z H1 W E (f a q1) → Q c H1) : Post mg p sc H Rel (fun c od H' => W c od σ H') Q (m q) := by
  unfold M.bnd at h
  cases e : m q with
  | ok a q1 =>
    rw [e] at h
    exact fun c H1 k pl r => hq a q1 c H1 e k pl r (PostS.later h (fun _ x => x) (k.stand b.pool b.nz))
  | err x q1 =>
    rw [e] at h
    exact fun c od H' k pl r => h c od σ H' (b.keep.trans k) pl r
  | stuck => rw [e] at h; exact h.elim
end
section
variable {X : Cx} {W : WX} {s : Stmt} {ss : List Stmt} {A B : DS} {e tg : Expr} {F : DE} {g : Tgt} {is : List Nat} {pos : Pos}
theorem sd_nil : PSsd X W [] sNil := ⟨_, pss_nil, fun p sc Z0 H0 Z σ H ρ q E b h => h Z σ H b (fun _ x => x) (Stand.refl _ _)⟩
theorem rds_seq {t u : TS} (ha : RdS X.K X.mg W t A) (hb : RdS X.K X.mg W u B) : RdS X.K X.mg W (tSeq t u) (sSeq A B) := by
  intro p sc Z0 H0 Z σ H ρ q E b h
  refine ha p sc Z0 H0 Z σ H ρ q { E with nx := u E } b ?_
  unfold sSeq M.bnd at h
  cases e : A ρ q with
  | ok o q1 =>
    rw [e] at h
    cases o with
    | next ρ1 => exact fun Z1 σ1 H1 b1 z1 s1 => hb p sc Z0 H0 Z1 σ1 H1 ρ1 q1 E b1 (PostS.later h z1 s1)
    | ret d => exact h
    | brk ρ1 => exact h
    | cont ρ1 => exact h
  | err x q1 => rw [e] at h; exact h
  | stuck => rw [e] at h; exact h
theorem sd_cons (ha : PSd X W s A) (hb : PSsd X W ss B) : PSsd X W (s :: ss) (sSeq A B) := by
  obtain ⟨t, h1, h2⟩ := ha
  obtain ⟨u, g1, g2⟩ := hb
  exact ⟨_, pss_cons h1 g1, rds_seq h2 g2⟩
theorem sd_one (ha : PSd X W s A) : PSsd X W [s] A := by
  obtain ⟨t, h1, h2⟩ := ha
  exact ⟨_, pss_one h1, h2⟩
theorem sd_ret (ha : PDe X W e F) : PSd X W (.Return (some e) pos) (sRet F) := by
  obtain ⟨t, h1, h2⟩ := ha
  refine ⟨_, ps_ret h1, fun p sc Z0 H0 Z σ H ρ q E b h => ?_⟩
  refine h2 p sc _ σ H ρ q _ b.sit (PostS.ex (Rel := fun H' v d => Rp X.K (Zn (Zo Z σ ρ) H) H' v d) b h fun d q1 v H1 e k pl r hp => ?_)
  exact hp v H1 (b.keep.trans k) pl (r.grow b.zo)
theorem sd_retN : PSd X W (.Return none pos) sRetN := ⟨_, ps_retN, fun p sc Z0 H0 Z σ H ρ q E b h => h .non H b.keep b.pool .non⟩
theorem sd_if {c : Expr} {ss1 ss2 : List Stmt} {T : DT} (hc : PDt X W c T) (ha : PSsd X W ss1 A) (hb : PSsd X W ss2 B) : PSd X W (.If c ss1 ss2 pos) (sIf T A B) := by
  obtain ⟨t, h1, h2⟩ := hc
  obtain ⟨u, g1, g2⟩ := ha
  obtain ⟨v, k1, k2⟩ := hb
  refine ⟨_, ps_if h1 g1 k1, fun p sc Z0 H0 Z σ H ρ q E b h => ?_⟩
  refine h2 p sc _ σ H ρ q _ b.sit (PostS.ex (Rel := fun _ c b => c = b) b h fun d q1 c H1 e k pl r hp => ?_)
  subst r
  have b1 := b.next k pl
  cases c with
  | true => exact g2 p sc Z0 H0 Z σ H1 ρ q1 E b1 hp
  | false => exact k2 p sc Z0 H0 Z σ H1 ρ q1 E b1 hp
theorem sd_drop (ha : PDe X W e F) (hs : swapsWith e none pos.line X.env = pure false := by rfl) : PSd X W (.Expr e pos) (sDrop F) := by
  obtain ⟨t, h1, h2⟩ := ha
  refine ⟨_, ps_expr h1 hs, fun p sc Z0 H0 Z σ H ρ q E b h => ?_⟩
  refine h2 p sc _ σ H ρ q _ b.sit (PostS.ex (Rel := fun H' v d => Rp X.K (Zn (Zo Z σ ρ) H) H' v d) b h fun d q1 v H1 e k pl r hp => ?_)
  exact hp Z σ H1 (b.next k pl) (fun _ x => x) (Stand.refl _ _)
theorem sd_break : PSd X W (.Break pos) sBrk := ⟨_, ps_break, fun p sc Z0 H0 Z σ H ρ q E b h => h Z σ H b (fun _ x => x) (Stand.refl _ _)⟩
theorem sd_cont : PSd X W (.Continue pos) sCont := ⟨_, ps_continue, fun p sc Z0 H0 Z σ H ρ q E b h => h Z σ H b (fun _ x => x) (Stand.refl _ _)⟩
theorem sd_pass : PSd X W (.Pass pos) sNil := ⟨_, ps_pass, fun p sc Z0 H0 Z σ H ρ q E b h => h Z σ H b (fun _ x => x) (Stand.refl _ _)⟩
/-- the store behind target = e -/
theorem tgt_go {p sc : Addr} {Z0 Z : Rg} {H0 H : Hp} {σ : L2.St} {ρ : Rho} {q : Pool} {E : Ends} {t : TG} {v : V} {d : D} (hg : TgR X.K is t g) (ok : TgOk g) (b : BR X.K p sc Z0 H0 Z σ H ρ q) (r : Rp X.K Z H v d)
    (h : PostS X.K X.mg p sc Z0 H0 Z H W E (M.bnd (g d ρ) (fun ρ' => M.ret (.next ρ')) q)) : t v σ H E.nx := by
  unfold M.bnd at h
  rcases ok d ρ q with ⟨ρ', e⟩ | e
  · rw [e] at h
    refine hg Z σ H ρ ρ' q q v d _ r e fun l hl e1 _ => ?_
    subst e1
    exact h Z (setsV l σ) H (BR.sets l b fun x hx => (hl x hx).2) (fun _ x => x) (Stand.refl _ _)
  · rw [e] at h; exact h.elim
theorem rds_asg {te : TE} {t : TG} (h2 : Rd1 X W (RpF X.K) te F) (hg : TgR X.K is t g) (ok : TgOk g) : RdS X.K X.mg W (tAsg te t) (sAsg g F) := by
  intro p sc Z0 H0 Z σ H ρ q E b h
  refine h2 p sc _ σ H (hideR ρ) q _ b.sitH (PostS.ex (Rel := fun H' v d => Rp X.K (Zn Z H) H' v d) b h fun d q1 v H1 e k pl r hp => ?_)
  have b1 := b.after k pl
  exact tgt_go hg ok b1 (r.sub fun c z n => ⟨z, n⟩) (PostS.later hp (fun c z => ⟨.inl z, (b.next k pl).zs c z⟩) (Stand.refl _ _))
theorem rds_asgF {te : TE} {t : TG} (h2 : Rd1 X W (RpF X.K) te F) (hg : TgR X.K is t g) (ok : TgOk g) : RdS X.K X.mg W (tAsg te t) (sAsgF g F) := by
  intro p sc Z0 H0 Z σ H ρ q E b h
  refine h2 p sc _ σ H ρ q _ b.sit (PostS.ex (Rel := fun H' v d => Rp X.K (Zn (Zo Z σ ρ) H) H' v d) b h fun d q1 v H1 e k pl r hp => ?_)
  by_cases hf : flatD d = true
  · rw [if_pos hf] at hp
    exact tgt_go hg ok (b.next k pl) (r.flat hf) hp
  · rw [if_neg hf] at hp
    exact hp.elim
/-- name = e -/
theorem sd_asg {i : Nat} {x : Str} {pos' : Pos} (hN : X.N.Nodup) (he : PDe X W e F) (hi : X.N[i]? = some x := by rfl) (hx : Loc X.env.scope x := by first | exact Or.inl rfl | exact Or.inr rfl) (hs : swapsWith e (some (.Name x pos')) pos.line X.env = pure false := by rfl)
    (hf : X.fn x = true ∨ X.env.scope.names.lookup x = some .local := by first | exact .inl rfl | exact .inr rfl | assumption) : PSd X W (.Assign [.Name x pos'] e pos) (sAsg (gN i) F) := by
  obtain ⟨t, h1, h2⟩ := he
  exact ⟨_, ps_set hN hi hx h1 hs hf, rds_asg (is := [i]) h2 (fun Z σ H ρ ρ' q q' v d Q r e k => by
    cases e
    exact k [(i, v, d)] (by simpa using r) rfl rfl) fun d ρ q => .inl ⟨_, rfl⟩⟩
theorem sd_asgF {i : Nat} {x : Str} {pos' : Pos} (hN : X.N.Nodup) (he : PDe X W e F) (hi : X.N[i]? = some x := by rfl) (hx : Loc X.env.scope x := by first | exact Or.inl rfl | exact Or.inr rfl) (hs : swapsWith e (some (.Name x pos')) pos.line X.env = pure false := by rfl)
    (hf : X.fn x = true ∨ X.env.scope.names.lookup x = some .local := by first | exact .inl rfl | exact .inr rfl | assumption) : PSd X W (.Assign [.Name x pos'] e pos) (sAsgF (gN i) F) := by
  obtain ⟨t, h1, h2⟩ := he
  exact ⟨_, ps_set hN hi hx h1 hs hf, rds_asgF (is := [i]) h2 (fun Z σ H ρ ρ' q q' v d Q r e k => by
    cases e
    exact k [(i, v, d)] (by simpa using r) rfl rfl) fun d ρ q => .inl ⟨_, rfl⟩⟩
/-- target = e -/
theorem sd_tgt (he : PDe X W e F) (hg : PGd X is tg g) (hs : swapsWithSole [tg] e pos.line X.env = pure false := by rfl) (hw : swappedStores [tg] e X.env = pure none := by rfl) (h3 : (assignEach [tg] X.env).map (·.2) = [assign tg X.env] := by rfl) : PSd X W (.Assign [tg] e pos) (sAsg g F) := by
  obtain ⟨t, h1, h2⟩ := he
  obtain ⟨u, g1, g2, g3⟩ := hg
  exact ⟨_, ps_asg h1 g1 hs hw h3, rds_asg h2 g2 g3⟩
theorem sd_tgtF (he : PDe X W e F) (hg : PGd X is tg g) (hs : swapsWithSole [tg] e pos.line X.env = pure false := by rfl) (hw : swappedStores [tg] e X.env = pure none := by rfl) (h3 : (assignEach [tg] X.env).map (·.2) = [assign tg X.env] := by rfl) : PSd X W (.Assign [tg] e pos) (sAsgF g F) := by
  obtain ⟨t, h1, h2⟩ := he
  obtain ⟨u, g1, g2, g3⟩ := hg
  exact ⟨_, ps_asg h1 g1 hs hw h3, rds_asgF h2 g2 g3⟩
end

/-! ### a list of one's own -/
section
variable {K : PySem.W.Frag} {p sc : Addr} {Z0 Z Z' : Rg} {H0 H H1 : Hp} {σ : L2.St} {ρ : Rho} {q q1 : Pool}
/-- a new list becomes the def's own -/
theorem BR.mkOwn (b : BR K p sc Z0 H0 Z σ H ρ q) {i : Nat} {a : Addr} {vs : List V} {ds : List D} (ha : H a = some (.lst vs)) (nz : ¬ Z a) (h0 : H0 a = none) (rs : RpL K Z H vs ds)
    (no : ∀ (j : Nat) s, ρ[j]? = some (some s) → s.mine = true → σ[j]? ≠ some (some (V.ref a))) : BR K p sc Z0 H0 Z (σ.set i (some (.ref a))) H (ρ.set i (some (.own ds))) q := by
  refine ⟨b.keep, b.pool0, b.pool, b.nz0, b.nz, b.zs, b.zz, by rw [List.length_set, List.length_set]; exact b.len, fun j s h => ?_, fun j k a' s t jk h1 m1 h2 m2 e1 e2 => ?_⟩
  · by_cases hj : j = i
    · subst hj
      have hlt : j < ρ.length := by
        have z := (List.getElem?_eq_some_iff.mp h).1
        rwa [List.length_set] at z
      rw [List.getElem?_set_self hlt] at h
      cases h
      exact ⟨a, vs, by rw [List.getElem?_set_self (b.len ▸ hlt)], ha, nz, h0, rs⟩
    · rw [List.getElem?_set_ne (Ne.symm hj)] at h
      have z := b.slot j s h
      have e : (σ.set i (some (.ref a)))[j]? = σ[j]? := List.getElem?_set_ne (Ne.symm hj)
      cases s with
      | dat d => obtain ⟨v, h1, h2⟩ := z; exact ⟨v, e.trans h1, h2⟩
      | pool => exact e.trans z
      | own ds => obtain ⟨a, vs, h1, h2⟩ := z; exact ⟨a, vs, e.trans h1, h2⟩
      | odic ds => obtain ⟨a, vs, h1, h2⟩ := z; exact ⟨a, vs, e.trans h1, h2⟩
  · have lt : ∀ (j : Nat) (s : Slot), (ρ.set i (some (.own ds)))[j]? = some (some s) → j < ρ.length := fun j s h => by
      have z := (List.getElem?_eq_some_iff.mp h).1
      rwa [List.length_set] at z
    by_cases n1 : j = i
    · by_cases n2 : k = i
      · exact jk (n1.trans n2.symm)
      · subst n1
        rw [List.getElem?_set_self (b.len ▸ lt j s h1)] at e1
        cases e1
        rw [List.getElem?_set_ne (Ne.symm n2)] at h2 e2
        exact no k t h2 m2 e2
    · by_cases n2 : k = i
      · subst n2
        rw [List.getElem?_set_self (b.len ▸ lt k t h2)] at e2
        cases e2
        rw [List.getElem?_set_ne (Ne.symm n1)] at h1 e1
        exact no j s h1 m1 e1
      · rw [List.getElem?_set_ne (Ne.symm n1)] at h1 e1
        rw [List.getElem?_set_ne (Ne.symm n2)] at h2 e2
        exact b.dist j k a' s t jk h1 m1 h2 m2 e1 e2
/-- it is changed -/
theorem BR.chOwn (b : BR K p sc Z0 H0 Z σ H ρ q) {i : Nat} {a : Addr} {vs ws : List V} {ds es : List D} (hi : ρ[i]? = some (some (.own ds))) (hs : σ[i]? = some (some (.ref a))) (ha : H a = some (.lst vs)) (rs : RpL K Z H ws es) :
    BR K p sc Z0 H0 Z σ (upd H a (.lst ws)) (ρ.set i (some (.own es))) q ∧ Stand Z H (upd H a (.lst ws)) := by
  obtain ⟨a', g1, g2, g3, g4, g5, g6⟩ := b.mine hi rfl
  rw [hs] at g1; cases g1
  have st : Stand Z H (upd H a (.lst ws)) := own_stand ha g2
  refine ⟨⟨fun c o hc e => ?_, b.pool0, ⟨by rw [upd_ne (Ne.symm g5)]; exact b.pool.1, by rw [upd_ne (Ne.symm g6)]; exact b.pool.2.1, b.pool.2.2⟩, b.nz0, b.nz, fun c z n => ?_, b.zz, by rw [List.length_set]; exact b.len, fun j s h => ?_, fun j k a' s t jk h1 m1 h2 m2 e1 e2 => ?_⟩, st⟩
  · rw [upd_ne (ne_of_none e g3)]
    exact b.keep c o hc e
  · rw [upd_ne (fun e => g2 (by rw [← e]; exact z))] at n
    exact b.zs c z n
  · by_cases hj : j = i
    · subst hj
      have hlt : j < ρ.length := (List.getElem?_eq_some_iff.mp hi).1
      rw [List.getElem?_set_self hlt] at h
      cases h
      exact ⟨a, ws, hs, upd_same, g2, g3, rs.stand st⟩
    · rw [List.getElem?_set_ne (Ne.symm hj)] at h
      have z := b.slot j s h
      cases s with
      | dat d => obtain ⟨v, h1, h2⟩ := z; exact ⟨v, h1, h2.stand st⟩
      | pool => exact z
      | own ds' =>
        obtain ⟨c, vs', h1, h2, h3, h4, h5⟩ := z
        have ne : c ≠ a := fun e => by subst e; exact b.dist j i c _ _ hj h rfl hi rfl h1 hs
        exact ⟨c, vs', h1, by rw [upd_ne ne]; exact h2, h3, h4, h5.stand st⟩
      | odic ds' =>
        obtain ⟨c, vs', h1, h2, h3, h4, h5, h6⟩ := z
        have ne : c ≠ a := fun e => by subst e; exact b.dist j i c _ _ hj h rfl hi rfl h1 hs
        exact ⟨c, vs', h1, by rw [upd_ne ne]; exact h2, h3, h4, h5, h6.stand st⟩
  · have back : ∀ (j : Nat) (s : Slot), (ρ.set i (some (.own es)))[j]? = some (some s) → s.mine = true → ∃ s', ρ[j]? = some (some s') ∧ s'.mine = true := fun j s h m => by
      by_cases hj : j = i
      · subst hj; exact ⟨_, hi, rfl⟩
      · rw [List.getElem?_set_ne (Ne.symm hj)] at h
        exact ⟨s, h, m⟩
    obtain ⟨s', k1, k2⟩ := back j s h1 m1
    obtain ⟨t', k3, k4⟩ := back k t h2 m2
    exact b.dist j k a' s' t' jk k1 k2 k3 k4 e1 e2
end
section
variable {X : Cx} {W : WX} {s : Stmt} {ss : List Stmt} {A B : DS} {e tg : Expr} {F : DE} {g : Tgt} {is : List Nat} {pos : Pos}
/-- name = a new list -/
theorem rds_own {te : TE} {i : Nat} (h2 : Rd1 X W (NewF X.K) te F) : RdS X.K X.mg W (tAsg te (gName i)) (sOwn i F) := by
  intro p sc Z0 H0 Z σ H ρ q E b h
  refine h2 p sc _ σ H (hideR ρ) q _ b.sitH (PostS.ex (Rel := fun H' v d => NewF X.K p Z H H' v d) b h fun d q1 v H1 e k pl r hp => ?_)
  obtain ⟨a, vs, ds, rfl, rfl, g1, g2, g3⟩ := r
  have b1 := b.next k pl
  -- the region without a
  have b2 : BR X.K p sc Z0 H0 (fun c => (Zn Z H c ∧ H1 c ≠ none) ∧ c ≠ a) σ H1 ρ q1 := by
    refine b1.grow (fun c z => ⟨⟨.inl z, b1.zs c z⟩, fun e => by rw [e] at z; exact b.zs a z g1⟩) (fun c z => z.1.2) (fun c z => ?_) (fun z => Zn.nop b.pool b.nz z.1.1) fun j s c hj m e z => ?_
    · rcases z.1.1 with z | z
      · exact b.zz c z
      · exact .inr (none_back b.keep b.pool z)
    · obtain ⟨a', k1, k2, k3, k4, _⟩ := b.mine hj m
      rw [e] at k1; cases k1
      rcases z.1.1 with z | z
      · exact k2 z
      · exact k4 z
  refine hp (fun c => (Zn Z H c ∧ H1 c ≠ none) ∧ c ≠ a) (σ.set i (some (.ref a))) H1 (b2.mkOwn g2 (fun z => z.2 rfl) (none_back b.keep b.pool g1) (g3.sub fun c z n => ⟨⟨z.1, n⟩, z.2⟩) fun j s hj m e => ?_) (fun c z => ⟨⟨.inl z, b1.zs c z⟩, fun e => by rw [e] at z; exact b.zs a z g1⟩) (Stand.refl _ _)
  obtain ⟨a', k1, k2, k3, k4, _⟩ := b.mine hj m
  rw [e] at k1; cases k1
  exact k4 g1
theorem rds_ownF {te : TE} {i : Nat} (h2 : Rd1 X W (NewF X.K) te F) : RdS X.K X.mg W (tAsg te (gName i)) (sOwnF i F) := by
  intro p sc Z0 H0 Z σ H ρ q E b h
  refine h2 p sc _ σ H ρ q _ b.sit (PostS.ex (Rel := fun H' v d => NewF X.K p (Zo Z σ ρ) H H' v d) b h fun d q1 v H1 e k pl r hp => ?_)
  obtain ⟨a, vs, ds, rfl, rfl, g1, g2, g3⟩ := r
  dsimp only at hp
  by_cases hf : flatAll ds = true
  case neg => rw [if_neg hf] at hp; exact hp.elim
  rw [if_pos hf] at hp
  have b1 := b.next k pl
  refine hp Z (σ.set i (some (.ref a))) H1 (b1.mkOwn g2 (fun z => b.zs a z g1) (none_back b.keep b.pool g1) (g3.flat hf) fun j s hj m e => ?_) (fun c z => z) (Stand.refl _ _)
  obtain ⟨a', k1, k2, k3, k4, _⟩ := b.mine hj m
  rw [e] at k1; cases k1
  exact k4 g1
theorem sd_own {i : Nat} {x : Str} {pos' : Pos} (hN : X.N.Nodup) (he : PDf X W e F) (hi : X.N[i]? = some x := by rfl) (hx : Loc X.env.scope x := by first | exact Or.inl rfl | exact Or.inr rfl) (hs : swapsWith e (some (.Name x pos')) pos.line X.env = pure false := by rfl)
    (hf : X.fn x = true ∨ X.env.scope.names.lookup x = some .local := by first | exact .inl rfl | exact .inr rfl | assumption) : PSd X W (.Assign [.Name x pos'] e pos) (sOwn i F) := by
  obtain ⟨t, h1, h2⟩ := he
  exact ⟨_, ps_set hN hi hx h1 hs hf, rds_own h2⟩
theorem sd_ownF {i : Nat} {x : Str} {pos' : Pos} (hN : X.N.Nodup) (he : PDf X W e F) (hi : X.N[i]? = some x := by rfl) (hx : Loc X.env.scope x := by first | exact Or.inl rfl | exact Or.inr rfl) (hs : swapsWith e (some (.Name x pos')) pos.line X.env = pure false := by rfl)
    (hf : X.fn x = true ∨ X.env.scope.names.lookup x = some .local := by first | exact .inl rfl | exact .inr rfl | assumption) : PSd X W (.Assign [.Name x pos'] e pos) (sOwnF i F) := by
  obtain ⟨t, h1, h2⟩ := he
  exact ⟨_, ps_set hN hi hx h1 hs hf, rds_ownF h2⟩
end

section
variable {X : Cx} {W : WX} {s : Stmt} {ss : List Stmt} {A B : DS} {e tg elt iter : Expr} {F : DE} {g : Tgt} {is : List Nat} {pos : Pos}
/-- name = [..] on one line -/
theorem ps_lc {i : Nat} {y : Str} {py spos : Pos} {own : List (Str × Nat)} {ifs : List Expr} {scope : Scope} {it : DI} {T : DT} (hc : X.calm = true) (hN : X.N.Nodup) (hsw : swapsWith (.ListComp elt [⟨tg, iter, ifs, 0⟩] scope pos) (some (.Name y py)) spos.line X.env = pure true) (hi : PId X W tg iter it) (ok : BlkOk X.N X.env.scope scope own) (his : ∀ i ∈ is, i ∈ own.map (·.2))
    (hg : ∀ (s : Shared) (H : Hp) (C : Addr) (cl : List (Str × Addr)) (fp : List Addr), PGd (X.blk s H scope (compEnvC scope cl C X.env) fp) is tg g) (ht : ∀ (s : Shared) (H : Hp) (C : Addr) (cl : List (Str × Addr)) (fp : List Addr), PTsd (X.blk s H scope (compEnvC scope cl C X.env) fp) W0 ifs T)
    (he : ∀ (s : Shared) (H : Hp) (C : Addr) (cl : List (Str × Addr)) (fp : List Addr), PDe (X.blk s H scope (compEnvC scope cl C X.env) fp) W0 elt F) (hgo : TgOk g) (hy : X.N[i]? = some y := by rfl) (hyl : X.env.scope.names.lookup y = some .local := by rfl) (hs : ∀ x, foldedSetIterable iter X.env x = pure x := by intro _; rfl) :
    ∃ t, PS X (.Assign [.Name y py] (.ListComp elt [⟨tg, iter, ifs, 0⟩] scope pos) spos) (tAsg t (gName i)) ∧ Rd1 X W (NewF X.K) t (dComp (own.map (·.2)) it g T F) := by
  obtain ⟨wi, h1, h2⟩ := hi
  exact ⟨_, ps_setLc hc hN hy hyl hsw h1 ok (fun s H C cl fp => (hg s H C cl fp).run) (fun s H C cl fp => (ht s H C cl fp).run) (fun s H C cl fp => (he s H C cl fp).run) hs, rd_comp h2 his hgo⟩
theorem sd_lc {i : Nat} {st : Stmt} {F : DE} (h : ∃ t, PS X st (tAsg t (gName i)) ∧ Rd1 X W (NewF X.K) t F) : PSd X W st (sOwn i F) := by
  obtain ⟨t, h1, h2⟩ := h
  exact ⟨_, h1, rds_own h2⟩
theorem sd_lcF {i : Nat} {st : Stmt} {F : DE} (h : ∃ t, PS X st (tAsg t (gName i)) ∧ Rd1 X W (NewF X.K) t F) : PSd X W st (sOwnF i F) := by
  obtain ⟨t, h1, h2⟩ := h
  exact ⟨_, h1, rds_ownF h2⟩
/-- name.append(e) -/
theorem sd_app {i : Nat} {x : Str} {a0 : Expr} {p1 p2 p3 p4 : Pos} (ha : PDe X W a0 F) (hN : X.N[i]? = some x := by rfl) (hv : Vis X.env.scope x := by first | exact Or.inl rfl | exact Or.inr (Or.inl rfl) | exact Or.inr (Or.inr rfl))
    (hd : (x == ("__debug__" : Str)) = false := by decide) (hcd : (x == ("__classdict__" : Str)) = false := by decide)
    (hbase : attributeBase (.Name x p1) "append" X.env (eval (.Name x p1) X.env) = eval (.Name x p1) X.env := by rfl)
    (hfew : ((backTo p3 (starEach (a0 :: []) X.env)).all (fun x => !x.1) && (backToKw p3 (keywordEach [] X.env)).all (fun x => x.1.isSome)
      && decide ((a0 :: []).length + ([] : List Keyword).length + (if ([] : List Keyword).isEmpty then 0 else 1) < 30)) = true := by rfl)
    (hline : (p2.endLine == p3.line) = true := by rfl) (hs : starEach (a0 :: []) X.env = (false, eval a0 X.env) :: starEach [] X.env := by rfl) (hplain : (backTo p3 (starEach [] X.env)).any (·.1) = false := by rfl)
    (hsw : swapsWith (.Call (.Attribute (.Name x p1) "append" p2) [a0] [] p3) none p4.line X.env = pure false := by rfl) :
    PSd X W (.Expr (.Call (.Attribute (.Name x p1) "append" p2) [a0] [] p3) p4) (sApp i F) ∧ PSd X W (.Expr (.Call (.Attribute (.Name x p1) "append" p2) [a0] [] p3) p4) (sAppF i F) := by
  obtain ⟨t, h1, h2⟩ := ha
  have hps := ps_expr (X := X) (pos := p4) (pe_bm PySem.F.plainAttrs_list PySem.F.slot_list_append PySem.F.type_list_append mt_append (pe_var (pos := p1) hN hv hd hcd) (pa_cons h1 pa_nil hs) hbase hfew hline hs hplain) hsw
  refine ⟨⟨_, hps, fun p sc Z0 H0 Z σ H ρ q E b h => ?_⟩, ⟨_, hps, fun p sc Z0 H0 Z σ H ρ q E b h => ?_⟩⟩
  · unfold sApp at h
    cases e : ρ[i]? with
    | none => rw [e] at h; exact h.elim
    | some o =>
      cases o with
      | none => rw [e] at h; exact h.elim
      | some sl =>
        cases sl with
        | own ds =>
          rw [e] at h
          dsimp only at h
          obtain ⟨a', vs', h1', h2', h3', h4', h5'⟩ := b.slot i _ e
          refine ⟨.ref a', h1', .inl ⟨rfl, _, .inl (.inl h2')⟩, ?_⟩
          refine h2 p sc _ σ H (hideR ρ) q _ b.sitH (PostS.ex (Rel := fun H' v d => Rp X.K (Zn Z H) H' v d) b h fun d q1 v H1 e1 k pl r hp => ?_)
          have b1 := b.after k pl
          by_cases hl : ds.length < lineMax
          · rw [if_pos hl] at hp
            obtain ⟨a'', vs, g1, g2, g3, g4, g5⟩ := b1.slot i _ e
            rw [h1'] at g1; cases g1
            have z := b1.chOwn e h1' g2 (g5.append (.one (r.sub fun c z n => ⟨z, n⟩)))
            exact ⟨a', vs, v, rfl, rfl, g2, by rw [g5.length]; exact hl, hp _ σ _ z.1 (fun c z => ⟨.inl z, (b.next k pl).zs c z⟩) (z.2.sub fun c z => ⟨.inl z, (b.next k pl).zs c z⟩)⟩
          · rw [if_neg hl] at hp; exact hp.elim
        | dat d => rw [e] at h; exact h.elim
        | pool => rw [e] at h; exact h.elim
        | odic d => rw [e] at h; exact h.elim
  · unfold sAppF at h
    cases e : ρ[i]? with
    | none => rw [e] at h; exact h.elim
    | some o =>
      cases o with
      | none => rw [e] at h; exact h.elim
      | some sl =>
        cases sl with
        | own ds =>
          rw [e] at h
          dsimp only at h
          obtain ⟨a', vs', h1', h2', h3', h4', h5'⟩ := b.slot i _ e
          refine ⟨.ref a', h1', .inl ⟨rfl, _, .inl (.inl h2')⟩, ?_⟩
          refine h2 p sc _ σ H ρ q _ b.sit (PostS.ex (Rel := fun H' v d => Rp X.K (Zn (Zo Z σ ρ) H) H' v d) b h fun d q1 v H1 e1 k pl r hp => ?_)
          have b1 := b.next k pl
          by_cases hl : ds.length < lineMax ∧ flatD d = true
          · rw [if_pos hl] at hp
            obtain ⟨a'', vs, g1, g2, g3, g4, g5⟩ := b1.slot i _ e
            rw [h1'] at g1; cases g1
            have z := b1.chOwn e h1' g2 (g5.append (.one (r.flat hl.2)))
            exact ⟨a', vs, v, rfl, rfl, g2, by rw [g5.length]; exact hl.1, hp _ σ _ z.1 (fun c z => z) z.2⟩
          · rw [if_neg hl] at hp; exact hp.elim
        | dat d => rw [e] at h; exact h.elim
        | pool => rw [e] at h; exact h.elim
        | odic d => rw [e] at h; exact h.elim
/-- a loop -/
theorem sd_for {it : DI} (hp : PassesOwn (model X.prog X.w) X.A X.env X.xe) (hc : X.calm = true) (hi : PId X W tg iter it) (hg : PGd X is tg g) (hb : PSsd X W ss B) (hs : ∀ x, foldedSetIterable iter X.env x = pure x := by intro _; rfl) :
    PSd X W (.For tg iter ss [] pos) (sFor it g B) := by
  obtain ⟨wi, h1, h2⟩ := hi
  obtain ⟨u, g1, g2, g3⟩ := hg
  obtain ⟨v, k1, k2⟩ := hb
  refine ⟨_, ps_for hp hc h1 g1 k1 hs, fun p sc Z0 H0 Z σ H ρ q E b h => ?_⟩
  refine h2 p sc _ σ H (hideR ρ) q _ b.sitH (PostS.ex (Rel := fun H' J ds => WaF X.K p Z H H' J ds) b h fun ds q1 J H1 e k pl wk hp1 => ?_)
  have b1 := b.after k pl
  have st1 : ∀ H', Stand (Zh Z H H1) H1 H' → Stand (Zn Z H) H1 H' := fun H' s => ⟨fun c o z hc => s.rg c o ⟨z, by rw [hc]; exact Option.some_ne_none _⟩ hc, s.tup, s.frz⟩
  refine ⟨fun i m σ' H' => m = ds.length - i ∧ i ≤ ds.length ∧ ∃ Z' ρ' q', BR X.K p sc Z0 H0 Z' σ' H' ρ' q' ∧ (∀ c, Zh Z H H1 c → Z' c) ∧ Stand (Zh Z H H1) H1 H' ∧ PostS X.K X.mg p sc Z0 H0 Z' H' W E (forGo g B (ds.drop i) ρ' q'),
    ⟨ds.length, by simp, Nat.zero_le _, _, ρ, q1, b1, fun _ z => z, Stand.refl _ _, by rw [List.drop_zero]; exact PostS.later hp1 (fun c z => ⟨.inl z, (b.next k pl).zs c z⟩) (Stand.refl _ _)⟩, ?_⟩
  rintro i m σ' H' ⟨rfl, hi, Z', ρ', q', b', zs', st', hp'⟩
  obtain ⟨w1, w2⟩ := wk H' (st1 H' st')
  by_cases hlt : i < ds.length
  · refine .inr ?_
    obtain ⟨go, yl⟩ := w1 i _ (List.getElem?_eq_getElem hlt)
    refine ⟨go, fun σ2 H2 => ∃ Z' ρ' q', BR X.K p sc Z0 H0 Z' σ2 H2 ρ' q' ∧ (∀ c, Zh Z H H1 c → Z' c) ∧ Stand (Zh Z H H1) H1 H2 ∧ PostS X.K X.mg p sc Z0 H0 Z' H2 W E (forGo g B (ds.drop (i + 1)) ρ' q'), fun σ2 H2 n => ⟨ds.length - (i + 1), by omega, rfl, hlt, n⟩, fun x H'' y => ?_⟩
    obtain ⟨sm, rx⟩ := yl x H'' y
    have kk : Keep p H' H'' := fun c o _ hc => sm c o hc
    have b2 := b'.next (q1 := q') kk ⟨sm _ _ b'.pool.1, sm _ _ b'.pool.2.1, b'.pool.2.2⟩
    rw [List.drop_eq_getElem_cons hlt] at hp'
    have hp2 : PostS X.K X.mg p sc Z0 H0 Z' H'' W E (forGo g B (ds[i] :: ds.drop (i + 1)) ρ' q') := PostS.later hp' (fun _ z => z) (kk.stand b'.pool b'.nz)
    unfold forGo M.bnd at hp2
    rcases g3 ds[i] ρ' q' with ⟨ρ1, eg⟩ | eg
    · rw [eg] at hp2
      refine g2 Z' σ' H'' ρ' ρ1 q' q' x ds[i] _ (rx.grow fun c z => zs' c z) eg fun l hl e1 _ => ?_
      subst e1
      have b3 := BR.sets l b2 fun x hx => (hl x hx).2
      refine k2 p sc Z0 H0 Z' _ H'' _ q' _ b3 ?_
      dsimp only at hp2
      have stN : ∀ {H2 : Hp}, Stand Z' H'' H2 → Stand (Zh Z H H1) H1 H2 := fun s => st'.trans (((kk.stand b'.pool b'.nz).sub zs').trans (s.sub zs'))
      cases eb : B (setsR l ρ') q' with
      | ok o q2 =>
        rw [eb] at hp2
        cases o with
        | next ρ2 => exact fun Z2 σ2 H2 b4 z2 s2 => ⟨Z2, ρ2, q2, b4, fun c z => z2 c (zs' c z), stN s2, PostS.later hp2 z2 s2⟩
        | cont ρ2 => exact fun Z2 σ2 H2 b4 z2 s2 => ⟨Z2, ρ2, q2, b4, fun c z => z2 c (zs' c z), stN s2, PostS.later hp2 z2 s2⟩
        | brk ρ2 => exact fun Z2 σ2 H2 b4 z2 s2 => hp2 Z2 σ2 H2 b4 z2 s2
        | ret d => exact hp2
      | err x q2 => rw [eb] at hp2; exact hp2
      | stuck => rw [eb] at hp2; exact hp2
    · rw [eg] at hp2
      exact hp2.elim
  · have ei : i = ds.length := by omega
    subst ei
    rw [List.drop_length] at hp'
    exact .inl ⟨w2 _ (Nat.le_refl _), hp' Z' σ' H' b' (fun _ z => z) (Stand.refl _ _)⟩
/-- while -/
theorem sd_while {n : Nat} {c : Expr} {T : DT} (hp : PassesOwn (model X.prog X.w) X.A X.env X.xe) (ht : PDt X W c T) (hb : PSsd X W ss B) : PSd X W (.While c ss [] pos) (sWhile n T B) := by
  obtain ⟨t, h1, h2⟩ := ht
  obtain ⟨v, k1, k2⟩ := hb
  refine ⟨_, ps_while hp h1 k1, fun p sc Z0 H0 Z σ H ρ q E b h => ?_⟩
  refine ⟨fun m σ' H' => ∃ Z' ρ' q', BR X.K p sc Z0 H0 Z' σ' H' ρ' q' ∧ PostS X.K X.mg p sc Z0 H0 Z' H' W E (whileGo T B m ρ' q'), ⟨n, Z, ρ, q, b, h⟩, ?_⟩
  rintro m σ' H' ⟨Z', ρ', q', b', hp'⟩
  cases m with
  | zero => exact hp'.elim
  | succ m =>
    unfold whileGo at hp'
    refine h2 p sc _ σ' H' ρ' q' _ b'.sit (PostS.ex (Rel := fun _ c b => c = b) b' hp' fun d q1 c H1 e k pl r hp1 => ?_)
    subst r
    have b1 := b'.next k pl
    cases c with
    | false => exact hp1 Z' σ' H1 b1 (fun _ z => z) (Stand.refl _ _)
    | true =>
      refine ⟨fun σ2 H2 => ∃ Z' ρ' q', BR X.K p sc Z0 H0 Z' σ2 H2 ρ' q' ∧ PostS X.K X.mg p sc Z0 H0 Z' H2 W E (whileGo T B m ρ' q'), fun σ2 H2 n => ⟨m, Nat.lt_succ_self _, n⟩, ?_⟩
      refine k2 p sc Z0 H0 Z' σ' H1 ρ' q1 _ b1 ?_
      simp only [if_true] at hp1
      unfold M.bnd at hp1
      cases eb : B ρ' q1 with
      | ok o q2 =>
        rw [eb] at hp1
        cases o with
        | next ρ2 => exact fun Z2 σ2 H2 b4 z2 s2 => ⟨Z2, ρ2, q2, b4, PostS.later hp1 z2 s2⟩
        | cont ρ2 => exact fun Z2 σ2 H2 b4 z2 s2 => ⟨Z2, ρ2, q2, b4, PostS.later hp1 z2 s2⟩
        | brk ρ2 => exact fun Z2 σ2 H2 b4 z2 s2 => hp1 Z2 σ2 H2 b4 z2 s2
        | ret d => exact hp1
      | err x q2 => rw [eb] at hp1; exact hp1
      | stuck => rw [eb] at hp1; exact hp1
end

/-! ### a def -/
section
variable {P : Program} {w : World} {K : PySem.W.Frag} {mg : Str → Option Value} {base : Heap} {x qual : Str} {st : Stmt} {f : Addr} {fd : FuncData} {N ps : List Str} {k : Nat} {B : DS}
theorem argR_at {p : Addr} {Z : Rg} {H : Hp} : ∀ {vs : List V} {as : List Arg} {i : Nat} {s : Slot}, ArgR K p Z H vs as → (as.map argSlot)[i]? = some (some s) → (∃ d v, s = .dat d ∧ vs[i]? = some v ∧ Rp K Z H v d) ∨ (s = .pool ∧ vs[i]? = some (.ref p))
  | [], [], i, s, _, e => by simp at e
  | v :: vs, .d x :: as, 0, s, h, e => by
    simp [argSlot] at e
    exact .inl ⟨x, v, e.symm, rfl, h.1⟩
  | v :: vs, .pool :: as, 0, s, h, e => by
    simp [argSlot] at e
    exact .inr ⟨e.symm, by simp [h.1]⟩
  | v :: vs, .d x :: as, i + 1, s, h, e => argR_at (i := i) h.2 (by simpa using e)
  | v :: vs, .pool :: as, i + 1, s, h, e => argR_at (i := i) h.2 (by simpa using e)
theorem fnD_len {n m : Nat} {B : DS} : ∀ as q, as.length ≠ n → fnD n m B as q = .stuck := fun as q h => by
  unfold fnD
  rw [if_neg h]
  rfl
theorem fn_okB (F : FunD K x qual (defArgs st) (defBody st) (defScope st) [] [] f fd) (S : FnScope N ps (defScope st))
    (hbody : ∀ (cdv : Value) (A : Around) (outer : List Env) (s : Shared) (H : Hp) (E : XK), Room k (A.deeper (envOfC qual (defScope st) s.heap.objs.size f cdv)) →
      PSsd (cxOf (L2.CX P w) P w K mg base N qual (defScope st) f cdv A outer s H E) (fun cls d _ H => E cls d H) (defBody st) B) : FnOk P w K mg base (L2.CX P w) (k + 1) f fd ps (spD K mg ps.length (fnD ps.length N.length B)) := by
  refine F.ok S (fun vs H Q E h => h.1) (fun cdv A outer s H vs Q E hr h => ?_)
  obtain ⟨t, h1, h2⟩ := hbody cdv A outer s H E hr
  refine ⟨t, h1, ?_⟩
  obtain ⟨hl, p, sc, Z, q, as, pl, nz, ar, hp⟩ := h
  have hla : as.length = ps.length := by rw [← ArgR.length ar]; exact hl
  unfold fnD at hp
  rw [if_pos hla] at hp
  have hst : L2.start N vs = vs.map some ++ List.replicate (N.length - ps.length) none := by unfold L2.start; rw [hl]
  refine h2 p sc Z H (fun b => Z b ∧ H b ≠ none) (L2.start N vs) H (as.map argSlot ++ List.replicate (N.length - ps.length) none) q _ ?_ ?_
  · refine ⟨Keep.refl _ _, ⟨q, pl⟩, pl, nz, fun z => nz z.1, fun b z => z.2, fun b z => .inl z.1, ?_, fun i s e => ?_, fun i j a s t ij h1 m1 h2 m2 e1 e2 => ?_⟩
    · rw [hst]
      simp [hl, hla]
    · rw [hst]
      by_cases hi : i < ps.length
      · rw [List.getElem?_append_left (by simpa [hla] using hi)] at e
        have el : (vs.map some ++ List.replicate (N.length - ps.length) none)[i]? = (vs.map some)[i]? := List.getElem?_append_left (by simpa [hl] using hi)
        rcases argR_at ar e with ⟨d, v, rfl, e1, r⟩ | ⟨rfl, e1⟩
        · exact ⟨v, el.trans (by simp [e1]), r.sub fun b z n => ⟨z, n⟩⟩
        · exact el.trans (by simp [e1])
      · rw [List.getElem?_append_right (by simpa [hla] using hi)] at e
        have z := List.mem_of_getElem? e
        have z2 := List.eq_of_mem_replicate z
        cases z2
    · have z := List.mem_of_getElem? h1
      rcases List.mem_append.mp z with z | z
      · obtain ⟨c, _, e⟩ := List.mem_map.mp z
        cases c <;> cases e <;> cases m1
      · have z2 := List.eq_of_mem_replicate z
        cases z2
  · unfold M.bnd at hp
    cases e : B (as.map argSlot ++ List.replicate (N.length - ps.length) none) q with
    | ok o q1 =>
      rw [e] at hp
      cases o with
      | next ρ1 => exact fun Z' σ' H' b _ _ => hp .non H' b.keep b.pool .non
      | ret d => exact fun v H' k' pl' r => hp v H' k' pl' r
      | brk ρ1 => exact hp.elim
      | cont ρ1 => exact hp.elim
    | err x q1 =>
      rw [e] at hp
      exact fun c od σ' H' k' pl' r => hp c od H' k' pl' r
    | stuck => rw [e] at hp; exact hp.elim
end
end Ew
namespace Ew
open PySem PySem.Spec PyProof.Rows L2
/-! ## Operators and built-ins -/
section
variable {X : Cx} {W : WX}
theorem OpR.or {f : Value → Value → Sem Value} {r r' : R2} (h : OpR X f r) (h' : OpR X f r') : OpR X f (fun x y H Q => r x y H Q ∨ r' x y H Q) := fun pins s σ H x y v u Q I rx ry q => q.elim (h pins s σ H x y v u Q I rx ry) (h' pins s σ H x y v u Q I rx ry)
theorem CallR.or {f : Value} {r r' : List V → Hp → VK → Prop} (h : CallR X f r) (h' : CallR X f r') : CallR X f (fun x H Q => r x H Q ∨ r' x H Q) := fun pins s σ H x v Q I rx q => q.elim (h pins s σ H x v Q I rx) (h' pins s σ H x v Q I rx)
/-- ints alone -/
theorem op2_ints {r : R2} {f : D → D → M D} (h : ∀ i j H Q, r (.int i) (.int j) H Q ∨ ∀ q, f (.int i) (.int j) q = .stuck ∨ ∃ d v, f (.int i) (.int j) q = .ok d q ∧ (∀ Z H, Rp X.K Z H v d) ∧ (Q v H → r (.int i) (.int j) H Q))
    (hn : ∀ dx dy q, (∀ i j, dx = .int i → dy ≠ .int j) → f dx dy q = .stuck) : Op2 X W (RpF X.K) r f := by
  intro p sc Z σ H q x y dx dy Q pl nz hx hy hp
  have no : (∀ i j, dx = .int i → dy ≠ .int j) → r x y H Q := fun z => by rw [hn dx dy q z] at hp; exact hp.elim
  cases hx with
  | int i =>
    cases hy with
    | int j =>
      rcases h i j H Q with h1 | h1
      · exact h1
      · rcases h1 q with e | ⟨d, v, e, hv, k⟩
        · rw [e] at hp; exact hp.elim
        · rw [e] at hp
          exact k (hp v H (Keep.refl _ _) pl (hv _ _))
    | _ => exact no fun i j _ e => by cases e
  | _ => exact no fun i j e => by cases e
theorem nosub (dx dy : D) (q : Pool) (h : ∀ i j, dx = .int i → dy ≠ .int j) : oSub dx dy q = .stuck := by
  cases dx <;> cases dy <;> first | rfl | exact absurd rfl (h _ _ rfl)
theorem opd_sub : OpD X W (binaryOp .Sub) oSub := ⟨_, op_sub, op2_ints (fun i j H Q => .inr fun q => .inr ⟨_, .int (i - j), rfl, fun _ _ => .int _, fun h => ⟨i, j, rfl, rfl, h⟩⟩) nosub⟩
theorem opd_mul : OpD X W (binaryOp .Mult) oMul := by
  refine ⟨_, OpR.or op_mul op_mulW, op2_ints (fun i j H Q => .inr fun q => ?_) fun dx dy q h => by cases dx <;> cases dy <;> first | rfl | exact absurd rfl (h _ _ rfl)⟩
  by_cases hb : mulOk i j
  · refine .inr ⟨.int (i * j), .int (i * j), by unfold oMul; dsimp only; rw [if_pos hb]; rfl, fun _ _ => .int _, fun h => ?_⟩
    rcases hb with hb | hb
    · exact .inl ⟨i, j, rfl, rfl, hb, h⟩
    · exact .inr ⟨i, j, rfl, rfl, hb, h⟩
  · exact .inl (by unfold oMul; dsimp only; rw [if_neg hb]; rfl)
theorem div_small {i j : Int} (h : 0 < j) (h2 : j < 2 ^ 2000) : CDivW i j := wide_div (b := 2000) h (by omega) (by decide) (by decide)
theorem opd_fdiv : OpD X W (binaryOp .FloorDiv) oFdiv := by
  refine ⟨_, op_fdivW, op2_ints (fun i j H Q => .inr fun q => ?_) fun dx dy q h => by cases dx <;> cases dy <;> first | rfl | exact absurd rfl (h _ _ rfl)⟩
  by_cases hb : 0 < j ∧ j < 2 ^ 2000
  · refine .inr ⟨.int (i / j), .int (i / j), by unfold oFdiv; dsimp only; rw [if_pos hb]; rfl, fun _ _ => .int _, fun h => ⟨i, j, rfl, rfl, div_small hb.1 hb.2, h⟩⟩
  · exact .inl (by unfold oFdiv; dsimp only; rw [if_neg hb]; rfl)
theorem opd_mod : OpD X W (binaryOp .Mod) oMod := by
  refine ⟨_, op_mod, op2_ints (fun i j H Q => .inr fun q => ?_) fun dx dy q h => by cases dx <;> cases dy <;> first | rfl | exact absurd rfl (h _ _ rfl)⟩
  by_cases hb : 0 < j
  · refine .inr ⟨.int (i % j), .int (i % j), by unfold oMod; dsimp only; rw [if_pos hb]; rfl, fun _ _ => .int _, fun h => ⟨i, j, rfl, rfl, hb, h⟩⟩
  · exact .inl (by unfold oMod; dsimp only; rw [if_neg hb]; rfl)
theorem opd_lt : OpD X W (compareOp .Lt) oLt := ⟨_, op_lt, op2_ints (fun i j H Q => .inr fun q => .inr ⟨_, .bl (decide (i < j)), rfl, fun _ _ => .bl _, fun h => ⟨i, j, rfl, rfl, h⟩⟩) fun dx dy q h => by cases dx <;> cases dy <;> first | rfl | exact absurd rfl (h _ _ rfl)⟩
theorem opd_le : OpD X W (compareOp .LtE) oLe := ⟨_, op_le, op2_ints (fun i j H Q => .inr fun q => .inr ⟨_, .bl (decide (i ≤ j)), rfl, fun _ _ => .bl _, fun h => ⟨i, j, rfl, rfl, h⟩⟩) fun dx dy q h => by cases dx <;> cases dy <;> first | rfl | exact absurd rfl (h _ _ rfl)⟩
theorem opd_gt : OpD X W (compareOp .Gt) oGt := ⟨_, op_gt, op2_ints (fun i j H Q => .inr fun q => .inr ⟨_, .bl (decide (j < i)), rfl, fun _ _ => .bl _, fun h => ⟨i, j, rfl, rfl, h⟩⟩) fun dx dy q h => by cases dx <;> cases dy <;> first | rfl | exact absurd rfl (h _ _ rfl)⟩
theorem opd_ge : OpD X W (compareOp .GtE) oGe := ⟨_, op_ge, op2_ints (fun i j H Q => .inr fun q => .inr ⟨_, .bl (decide (j ≤ i)), rfl, fun _ _ => .bl _, fun h => ⟨i, j, rfl, rfl, h⟩⟩) fun dx dy q h => by cases dx <;> cases dy <;> first | rfl | exact absurd rfl (h _ _ rfl)⟩
/-- a + b of numbers, texts, tuples, lists -/
theorem opd_add : OpD X W (binaryOp .Add) oAdd := by
  refine ⟨_, OpR.or (OpR.or op_add op_add_str) (OpR.or op_catA op_cat), fun p sc Z σ H q x y dx dy Q pl nz hx hy hp => ?_⟩
  cases hx with
  | int i =>
    cases hy with
    | int j => exact .inl (.inl ⟨i, j, rfl, rfl, hp _ H (Keep.refl _ _) pl (.int _)⟩)
    | _ => exact hp.elim
  | str a =>
    cases hy with
    | str b =>
      unfold oAdd at hp
      dsimp only at hp
      by_cases hl : a.cps.size + b.cps.size ≤ lineMax
      · rw [if_pos hl] at hp
        exact .inl (.inr ⟨a, b, rfl, rfl, hl, hp _ H (Keep.refl _ _) pl (.str _)⟩)
      · rw [if_neg hl] at hp; exact hp.elim
    | _ => exact hp.elim
  | tup ha ra =>
    rename_i a xs ds
    cases hy with
    | tup hb rb =>
      rename_i b ys es
      unfold oAdd at hp
      dsimp only at hp
      by_cases hl : ds.length + es.length ≤ lineMax
      · rw [if_pos hl] at hp
        refine .inr (.inl ⟨a, b, xs, ys, rfl, rfl, ha, hb, by rw [ra.length, rb.length]; exact hl, fun e => ?_, fun _ e => ?_, fun _ _ c hc => ?_⟩)
        · subst e
          cases ra
          exact hp _ H (Keep.refl _ _) pl (.tup hb (rb.grow Zn.base))
        · subst e
          cases rb
          exact hp _ H (Keep.refl _ _) pl (.tup ha (by rw [List.append_nil]; exact ra.grow Zn.base))
        · exact hp _ _ (new_keep hc) (new_pool hc pl) (.tup (.inl (.inl upd_same)) (((ra.append rb).stand (new_stand hc)).grow Zn.base))
      · rw [if_neg hl] at hp; exact hp.elim
    | _ => exact hp.elim
  | lst ha za ra =>
    rename_i a xs ds
    cases hy with
    | lst hb zb rb =>
      rename_i b ys es
      unfold oAdd at hp
      dsimp only at hp
      by_cases hl : ds.length + es.length ≤ lineMax
      · rw [if_pos hl] at hp
        refine .inr (.inr ⟨a, b, xs, ys, rfl, rfl, ha, hb, by rw [ra.length, rb.length]; exact hl, fun c hc => ?_⟩)
        exact hp _ _ (new_keep hc) (new_pool hc pl) (.lst upd_same (.inr hc) (((ra.append rb).stand (new_stand hc)).grow Zn.base))
      · rw [if_neg hl] at hp; exact hp.elim
    | _ => exact hp.elim
  | _ => exact hp.elim
/-- == -/
theorem eqD_eqv {x y : D} {b : Bool} (h : eqD x y = some b) : x.plain = true ∧ y.plain = true ∧ min x.depth y.depth ≤ deep ∧ b = PyData.eqv x y := by
  have gen : (if (x.plain && y.plain) = true ∧ x.depth ≤ deep then some (PyData.eqv x y) else none) = some b → x.plain = true ∧ y.plain = true ∧ min x.depth y.depth ≤ deep ∧ b = PyData.eqv x y := by
    intro h
    by_cases hc : (x.plain && y.plain) = true ∧ x.depth ≤ deep
    · rw [if_pos hc] at h
      obtain ⟨h1, h2⟩ := hc
      rw [Bool.and_eq_true] at h1
      exact ⟨h1.1, h1.2, Nat.le_trans (Nat.min_le_left _ _) h2, (Option.some.inj h).symm⟩
    · rw [if_neg hc] at h; cases h
  unfold eqD at h
  split at h
  · rename_i i j
    refine ⟨rfl, rfl, Nat.zero_le _, ?_⟩
    rw [← Option.some.inj h]
    simp only [PyData.eqv]
    exact (Bool.beq_eq_decide_eq _ _).symm
  · rename_i i j
    refine ⟨rfl, rfl, Nat.zero_le _, ?_⟩
    rw [← Option.some.inj h]
    simp only [PyData.eqv]
    exact (Bool.beq_eq_decide_eq _ _).symm
  · exact gen h
def rEqP (K : PySem.W.Frag) (g : Bool → Bool) : R2 := fun x y H Q => ∃ Z dx dy b, Rp K Z H x dx ∧ Rp K Z H y dy ∧ eqD dx dy = some b ∧ Q (.bl (g b)) H
theorem opd_eq (hu : X.A.units + deep < cLine) : OpD X W (compareOp .Eq) oEq := by
  refine ⟨rEqP X.K id, fun pins s σ H x y v u Q I rx ry h => ?_, fun p sc Z σ H q x y dx dy Q pl nz hx hy hp => ?_⟩
  · obtain ⟨Z, dx, dy, b, h1, h2, h3, q⟩ := h
    obtain ⟨as, r1⟩ := h1.reads I v rx
    obtain ⟨bs, r2⟩ := h2.reads I u ry
    obtain ⟨e1, e2, e3, e4⟩ := eqD_eqv h3
    subst e4
    exact SeqAt.eq_plain r1 r2 e1 e2 (by omega) ⟨.bl _, H, I, rfl, q⟩
  · unfold oEq at hp
    cases e : eqD dx dy with
    | none => rw [e] at hp; exact hp.elim
    | some b =>
      rw [e] at hp
      exact ⟨Z, dx, dy, b, hx, hy, e, hp _ H (Keep.refl _ _) pl (.bl _)⟩
theorem opd_ne (hu : X.A.units + deep < cLine) : OpD X W (compareOp .NotEq) oNe := by
  refine ⟨rEqP X.K not, fun pins s σ H x y v u Q I rx ry h => ?_, fun p sc Z σ H q x y dx dy Q pl nz hx hy hp => ?_⟩
  · obtain ⟨Z, dx, dy, b, h1, h2, h3, q⟩ := h
    obtain ⟨as, r1⟩ := h1.reads I v rx
    obtain ⟨bs, r2⟩ := h2.reads I u ry
    obtain ⟨e1, e2, e3, e4⟩ := eqD_eqv h3
    subst e4
    exact SeqAt.ne_plain r1 r2 e1 e2 (by omega) ⟨.bl _, H, I, rfl, q⟩
  · unfold oNe at hp
    cases e : eqD dx dy with
    | none => rw [e] at hp; exact hp.elim
    | some b =>
      rw [e] at hp
      exact ⟨Z, dx, dy, b, hx, hy, e, hp _ H (Keep.refl _ _) pl (.bl _)⟩
/-- is None, is not None -/
theorem isN_rel {Z : Rg} {H : Hp} {x : V} {d : D} (r : Rp X.K Z H x d) : decide (x = .non) = isN d := by
  cases r <;> rfl
end
section
variable {X : Cx} {W : WX} {a b : Expr} {A B : DE} {pos pos' p1 : Pos}
theorem pd_isN {j} (ha : PDe X W a A) : PDe X W (.Compare a [.Is] [.Constant .none j p1] pos) (dUn oIsN A) := by
  obtain ⟨t, h1, h2⟩ := ha
  refine ⟨_, pe_cmp (pc_isN h1) rfl, rd_1 (X := X) (W := W) (r := fun x H Q => Q (.bl (decide (x = .non))) H) sh_rp (fun p sc Z σ H q x dx Q pl nz hx hp => ?_) h2⟩
  have z := hp (.bl (isN dx)) H (Keep.refl _ _) pl (.bl _)
  rw [← isN_rel hx] at z
  exact z
theorem pd_notN {j} (ha : PDe X W a A) : PDe X W (.Compare a [.IsNot] [.Constant .none j p1] pos) (dUn oNotN A) := by
  obtain ⟨t, h1, h2⟩ := ha
  refine ⟨_, pe_cmp (pc_notN h1) rfl, rd_1 (X := X) (W := W) (r := fun x H Q => Q (.bl (!decide (x = .non))) H) sh_rp (fun p sc Z σ H q x dx Q pl nz hx hp => ?_) h2⟩
  have z := hp (.bl (!isN dx)) H (Keep.refl _ _) pl (.bl _)
  rw [← isN_rel hx] at z
  exact z
theorem pd_neg (ha : PDe X W a A) : PDe X W (.UnaryOp .USub a pos) (dUn uNeg A) := pd_un un_neg (fun p sc Z σ H q x dx Q pl nz hx hp => by
  cases hx with
  | int i => exact ⟨i, rfl, hp _ H (Keep.refl _ _) pl (.int _)⟩
  | _ => exact hp.elim) ha
theorem IxR.or {r r' : R2} (h : IxR X r) (h' : IxR X r') : IxR X (fun x y H Q => r x y H Q ∨ r' x y H Q) := L2.IxR.or h h'
theorem ixd : IxD X W oIx := by
  refine ⟨_, IxR.or ix_list ix_tup, fun p sc Z σ H q x y dx dy Q pl nz hx hy hp => ?_⟩
  cases hx with
  | lst ha za ra =>
    rename_i a xs ds
    cases hy with
    | int i =>
      unfold oIx at hp
      dsimp only at hp
      cases e : atD ds i with
      | none => rw [e] at hp; exact hp.elim
      | some d =>
        rw [e] at hp
        obtain ⟨v, e1, e2⟩ := Rp.atI ra e
        exact .inl ⟨a, xs, i, v, rfl, rfl, .inl (.inl ha), e1, hp v H (Keep.refl _ _) pl (e2.grow Zn.base)⟩
    | _ => exact hp.elim
  | tup ha ra =>
    rename_i a xs ds
    cases hy with
    | int i =>
      unfold oIx at hp
      dsimp only at hp
      cases e : atD ds i with
      | none => rw [e] at hp; exact hp.elim
      | some d =>
        rw [e] at hp
        obtain ⟨v, e1, e2⟩ := Rp.atI ra e
        exact .inr ⟨a, xs, i, v, rfl, rfl, ha, e1, hp v H (Keep.refl _ _) pl (e2.grow Zn.base)⟩
    | _ => exact hp.elim
  | _ => exact hp.elim
/-! ### built-ins with one argument -/
theorem rd_b1 {α : Type} {r : List V → Hp → VK → Prop} {Rel : RelT V D} {f : D → M D} {t : TE} (sh : Shf Rel) (ho : Op1 X W Rel (fun x => r [x]) f) (h2 : Rd1 X W (RpF X.K) t A) : Rd1 X W Rel (tCB r (tCons t tNil)) (dUn f A) := rd_1 (X := X) (W := W) (r := fun x => r [x]) sh ho h2
theorem pd_b1 {x : Str} {id : String} {r : List V → Hp → VK → Prop} {f : D → M D} (hc : CallR X (.builtin id) r) (ho : Op1 X W (RpF X.K) (fun x => r [x]) f) (hg : Gl X x) (hm : X.mg x = none) (hv : bootBuiltins x = some (.builtin id)) (ha : PDe X W a A) (hn : x ≠ "__name__" := by decide) (hdb : (x == ("__debug__" : Str)) = false := by decide)
    (he : starEach [a] X.env = (false, eval a X.env) :: starEach [] X.env := by rfl) (hpl : (backTo pos (starEach [] X.env)).any (·.1) = false := by rfl) : PDe X W (.Call (.Name x pos') [a] [] pos) (dUn f A) := by
  obtain ⟨t, h1, h2⟩ := ha
  exact ⟨_, pe_callB hc hg hm hv (pa_cons h1 pa_nil he) hn hdb he hpl, rd_b1 (α := Unit) sh_rp ho h2⟩
theorem pd_t1 {x : Str} {T : String} {r : List V → Hp → VK → Prop} {f : D → M D} (hc : CallR X (.type T) r) (ho : Op1 X W (RpF X.K) (fun x => r [x]) f) (hg : Gl X x) (hm : X.mg x = none) (hv : bootBuiltins x = some (.type T)) (ha : PDe X W a A) (hn : x ≠ "__name__" := by decide) (hdb : (x == ("__debug__" : Str)) = false := by decide)
    (he : starEach [a] X.env = (false, eval a X.env) :: starEach [] X.env := by rfl) (hpl : (backTo pos (starEach [] X.env)).any (·.1) = false := by rfl) : PDe X W (.Call (.Name x pos') [a] [] pos) (dUn f A) := by
  obtain ⟨t, h1, h2⟩ := ha
  exact ⟨_, pe_callTy hc hg hm hv (pa_cons h1 pa_nil he) hn hdb he hpl, rd_b1 (α := Unit) sh_rp ho h2⟩
theorem pdf_t1 {x : Str} {T : String} {r : List V → Hp → VK → Prop} {f : D → M D} (hc : CallR X (.type T) r) (ho : Op1 X W (NewF X.K) (fun x => r [x]) f) (hg : Gl X x) (hm : X.mg x = none) (hv : bootBuiltins x = some (.type T)) (ha : PDe X W a A) (hn : x ≠ "__name__" := by decide) (hdb : (x == ("__debug__" : Str)) = false := by decide)
    (he : starEach [a] X.env = (false, eval a X.env) :: starEach [] X.env := by rfl) (hpl : (backTo pos (starEach [] X.env)).any (·.1) = false := by rfl) : PDf X W (.Call (.Name x pos') [a] [] pos) (dUn f A) := by
  obtain ⟨t, h1, h2⟩ := ha
  exact ⟨_, pe_callTy hc hg hm hv (pa_cons h1 pa_nil he) hn hdb he hpl, rd_b1 (α := Unit) sh_new ho h2⟩
theorem pdf_b1 {x : Str} {id : String} {r : List V → Hp → VK → Prop} {f : D → M D} (hc : CallR X (.builtin id) r) (ho : Op1 X W (NewF X.K) (fun x => r [x]) f) (hg : Gl X x) (hm : X.mg x = none) (hv : bootBuiltins x = some (.builtin id)) (ha : PDe X W a A) (hn : x ≠ "__name__" := by decide) (hdb : (x == ("__debug__" : Str)) = false := by decide)
    (he : starEach [a] X.env = (false, eval a X.env) :: starEach [] X.env := by rfl) (hpl : (backTo pos (starEach [] X.env)).any (·.1) = false := by rfl) : PDf X W (.Call (.Name x pos') [a] [] pos) (dUn f A) := by
  obtain ⟨t, h1, h2⟩ := ha
  exact ⟨_, pe_callB hc hg hm hv (pa_cons h1 pa_nil he) hn hdb he hpl, rd_b1 (α := Unit) sh_new ho h2⟩
theorem call_lenR : CallR X (.builtin "len") (fun xs H Q => ∃ a kvs, xs = [V.ref a] ∧ Rd H a (.dK kvs) ∧ Q (.int kvs.length) H) := by
  intro pins s σ H xs us Q I r h
  obtain ⟨a, kvs, rfl, ha, q⟩ := h
  obtain ⟨u, rfl, ru⟩ := vals1 r
  cases ru
  exact d_len I ha fun t s' I' => ⟨.int kvs.length, H, I', ⟨t, rfl⟩, q⟩
/-- len -/
theorem pd_len (hg : Gl X "len") (hm : X.mg "len" = none) (ha : PDe X W a A) (he : starEach [a] X.env = (false, eval a X.env) :: starEach [] X.env := by rfl) (hpl : (backTo pos (starEach [] X.env)).any (·.1) = false := by rfl) : PDe X W (.Call (.Name "len" pos') [a] [] pos) (dUn bLen A) := by
  refine pd_b1 (CallR.or (CallR.or call_len_seq call_len_str) call_lenR) (fun p sc Z σ H q x dx Q pl nz hx hp => ?_) hg hm boot_len ha (by decide) (by decide) he hpl
  cases hx with
  | lst h1 z rs => exact .inl (.inl ⟨_, _, rfl, .inl (.inl (.inl h1)), hp _ H (Keep.refl _ _) pl (by rw [rs.length]; exact .int _)⟩)
  | tup h1 rs => exact .inl (.inl ⟨_, _, rfl, .inr h1, hp _ H (Keep.refl _ _) pl (by rw [rs.length]; exact .int _)⟩)
  | str x =>
    unfold bLen at hp
    dsimp only at hp
    by_cases hl : x.cps.size ≤ lineMax
    · rw [if_pos hl] at hp
      exact .inl (.inr ⟨x, rfl, hl, hp _ H (Keep.refl _ _) pl (.int _)⟩)
    · rw [if_neg hl] at hp; exact hp.elim
  | dic h1 z e rs =>
    have hl := congrArg List.length e
    rw [List.length_map, List.length_map] at hl
    exact .inr ⟨_, _, rfl, h1, hp _ H (Keep.refl _ _) pl (by rw [← hl]; exact .int _)⟩
  | _ => exact hp.elim
/-- tuple(x), list(x) -/
theorem pd_tuple (hg : Gl X "tuple") (hm : X.mg "tuple" = none) (ha : PDe X W a A) (he : starEach [a] X.env = (false, eval a X.env) :: starEach [] X.env := by rfl) (hpl : (backTo pos (starEach [] X.env)).any (·.1) = false := by rfl) : PDe X W (.Call (.Name "tuple" pos') [a] [] pos) (dUn bTuple A) := by
  refine pd_t1 call_tuple_of (fun p sc Z σ H q x dx Q pl nz hx hp => ?_) hg hm boot_tuple ha (by decide) (by decide) he hpl
  cases hx with
  | lst h1 z rs => exact ⟨_, _, rfl, .inl ⟨.inl (.inl h1), fun l hl => hp _ _ (new_keep hl) (new_pool hl pl) (.tup (.inl (.inl upd_same)) ((rs.stand (new_stand hl)).grow Zn.base))⟩⟩
  | tup h1 rs => exact ⟨_, _, rfl, .inr ⟨h1, hp _ H (Keep.refl _ _) pl (.tup h1 (rs.grow Zn.base))⟩⟩
  | _ => exact hp.elim
theorem pdf_list (hg : Gl X "list") (hm : X.mg "list" = none) (ha : PDe X W a A) (he : starEach [a] X.env = (false, eval a X.env) :: starEach [] X.env := by rfl) (hpl : (backTo pos (starEach [] X.env)).any (·.1) = false := by rfl) : PDf X W (.Call (.Name "list" pos') [a] [] pos) (dUn bList A) := by
  refine pdf_t1 call_list_of (fun p sc Z σ H q x dx Q pl nz hx hp => ?_) hg hm boot_list ha (by decide) (by decide) he hpl
  have key : ∀ {vs : List V} {ds : List D} {l : Addr}, RpL X.K Z H vs ds → H l = none → NewF X.K p Z H (upd H l (.lst vs)) (.ref l) (.list ds) := fun {vs ds l} rs hl => ⟨l, vs, ds, rfl, rfl, hl, upd_same, (rs.sub fun b z n => ⟨.inl z, fun e => n (e ▸ hl)⟩).stand (new_stand hl)⟩
  cases hx with
  | lst h1 z rs => exact ⟨_, _, rfl, .inl (.inl (.inl h1)), fun l hl => hp _ _ (new_keep hl) (new_pool hl pl) (key rs hl)⟩
  | tup h1 rs => exact ⟨_, _, rfl, .inr h1, fun l hl => hp _ _ (new_keep hl) (new_pool hl pl) (key rs hl)⟩
  | _ => exact hp.elim
theorem pd_abs (hg : Gl X "abs") (hm : X.mg "abs" = none) (ha : PDe X W a A) (he : starEach [a] X.env = (false, eval a X.env) :: starEach [] X.env := by rfl) (hpl : (backTo pos (starEach [] X.env)).any (·.1) = false := by rfl) : PDe X W (.Call (.Name "abs" pos') [a] [] pos) (dUn bAbs A) := by
  refine pd_b1 call_abs (fun p sc Z σ H q x dx Q pl nz hx hp => ?_) hg hm (by decide +kernel) ha (by decide) (by decide) he hpl
  cases hx with
  | int i => exact ⟨i, rfl, hp _ H (Keep.refl _ _) pl (.int _)⟩
  | _ => exact hp.elim
end
end Ew
namespace Ew
open PySem PySem.Spec PyProof.Rows L2
/-! ### sorted(set(xs)) of a list of whole numbers -/
section
variable {P : Program} {w : World} {A : Around} {E : Value → Shared → Prop} {s : Shared}
/-- an empty set, as it is made -/
abbrev noneYet (w : World) : Obj := { cls := .type "set", dict := none, data := .set #[] 0 (.fresh 0 0 (!w.params.followText "set-order")) }
abbrev withIt (w : World) (s : Shared) : Heap := s.heap.push (noneYet w)
theorem call_set_ints {l : Addr} {its : Array Value} (ns : List Int) {Q : Value → Shared → Prop} (h0 : A.handled = none) (isl : s.heap.IsList l its) (hint : IntsAre its.toList ns) (few : ns.length + 1 < scanBound)
    (go : ∀ (h' : Heap) (tk c : Nat), SetR w h' s.heap.objs.size (fun j => decide (j ∈ ns)) c → c ≤ ns.length → (∀ b o, s.heap.get? b = some o → h'.get? b = some o) → Q (.ref s.heap.objs.size) { s with heap := h', toks := tk }) :
    wpAny (model P w) A (call (.type "set") [.ref l]) Q E s := by
  have sz : its.size = ns.length := by rw [← Array.length_toList]; exact IntsAre.length hint
  obtain ⟨c0, tl0, hm0⟩ := F.called_set.mro
  have hm1 := F.called_set.made
  have hm2 := F.called_set.sub
  refine wpAny_call (codeAny_of_tree ?_)
  show wpAny _ _ (callAny (.type "set") _) _ _ _
  refine wpAny_pure ⟨Code.quiet_builtin _ (by decide +kernel), codeAny_builtin F.entry_type_call ?_⟩
  rw [Around.under_plain (weight_type_call_type "set" [.ref l] []) rfl]
  have hm3 := F.called_set.notType
  have hm4 := F.called_set.canCreate
  have hm5 := F.typeCall_set_1 (.ref l)
  repeat (any_goals (first | assumption | wp_step))
  refine codeAny_mono (code_set_led1 (.ref l) (E := E) (Q₁ := fun v s1 => v = .ref s.heap.objs.size ∧ s1 = { s with heap := withIt w s }) ⟨rfl, rfl⟩) fun r s1 hr => ?_
  cases r with
  | error e => exact hr
  | ok fl =>
    cases fl with
    | ret v =>
      obtain ⟨rfl, rfl⟩ := hr
      have got : (withIt w s).get? s.heap.objs.size = some (noneYet w) := Heap.get?_push_size _ rfl
      have ty : Shared.TypeIs { s with heap := withIt w s } (.ref s.heap.objs.size) "set" := ⟨_, got, rfl⟩
      have hi1 := F.called_set.init.lookup
      have hi2 := F.called_set.init.bind (.ref s.heap.objs.size)
      repeat (any_goals (first | assumption | wp_step))
      refine codeAny_mono (codeAny_call_builtin (R := wants (fun r s2 => r = .none ∧ ∃ h' tk c, s2 = { s with heap := h', toks := tk } ∧ SetR w h' s.heap.objs.size (fun j => decide (j ∈ ns)) c ∧ c ≤ ns.length ∧
          (∀ b o, s.heap.get? b = some o → h'.get? b = some o)) E) F.called_set.init.plain F.entry_set_init (check_set_init_1 ty ?_)) fun r2 s2 hr2 => ?_
      · obtain ⟨ol, hol, hcl, nl, hdl⟩ := isl
        obtain ⟨oc, od, oda, osl⟩ := ol
        simp only at hcl hdl
        subst hcl
        subst hdl
        have holw : (withIt w s).get? l = some { cls := .type "list", dict := od, data := .seq its nl, slots := osl } := Heap.get?_push_of_some _ hol
        have ns1 := F.sub_list_set
        have ns2 := F.sub_list_frozenset
        have ne1 : (Value.type "list" == Value.type "dict") = false := by decide
        have isw : (withIt w s).IsList l its := ⟨_, holw, rfl, nl, rfl⟩
        unfold Builtin.«set.__init__» noKeywords Builtin.Frozenset.updateFrom
        generalize hPI : pyIter = PI
        wp_walk
        subst hPI
        refine wpAny_pyIter_list isw ?_
        refine wpAny_bind (wpAny_runValue ?_)
        have ll : l < s.heap.objs.size := Heap.lt_size hol
        have h03 : A.in1.in1.in1.handled = none := by simp [h0]
        have szw : (withIt w s).objs.size = s.heap.objs.size + 1 := Heap.size_push ..
        have lne : l ≠ (withIt w s).objs.size := by rw [szw]; exact Nat.ne_of_lt (Nat.lt_succ_of_lt ll)
        have snot : s.heap.objs.size ∉ [(withIt w s).objs.size, l] := by
          rw [szw]
          simp only [List.mem_cons, List.mem_singleton, List.not_mem_nil, or_false, not_or]
          exact ⟨Nat.ne_of_lt (Nat.lt_succ_self _), Nat.ne_of_gt ll⟩
        have val : ∀ (i : Nat) (v : Value), its[i]? = some v → ∃ k t, ns[i]? = some k ∧ v = .int k t := fun i v hv => by
          have hi : i < ns.length := by rw [← sz]; exact (Array.getElem?_eq_some_iff.mp hv).1
          obtain ⟨t, e⟩ := PyProof.Rows.IntsAre.int_at hint i v (by rw [Array.getElem?_toList]; exact hv)
          exact ⟨ns[i], t, List.getElem?_eq_getElem hi, by rw [e, List.getD_eq_getElem?_getD, List.getElem?_eq_getElem hi] <;> rfl⟩
        refine set_update_ints ((Walks.list h03 _ l lne its).toS) s.heap.objs.size snot ns sz few val (its.size - 0) 0 _ (by omega) (Nat.zero_le _) ⟨⟨_, Heap.get?_push_size _ rfl, rfl, rfl⟩, (isw.push _)⟩ ?one ?two
        case one => exact ⟨0, Nat.le_refl 0, setR_new_at (Heap.get?_push_of_some _ got)⟩
        case two =>
          intro s3 c3 mv hc3 R3
          obtain ⟨h3, g3, d3, t3, o3⟩ := s3
          have eg : g3 = s.gens := mv.gens
          have ed : d3 = s.drawn := mv.drawn
          have eo : o3 = s.os := mv.os
          subst eg
          subst ed
          subst eo
          show wpAny _ _ _ _ _ _
          refine wpAny_pure ?_
          show wpAny _ _ (ret Value.none) _ _ _
          rw [sz] at hc3
          refine wpAny_pure ⟨rfl, h3, t3, c3, rfl, R3, hc3, fun b o e => ?_⟩
          have lt := Heap.lt_size e
          refine mv.heap b o ?_ (Heap.get?_push_of_some _ (Heap.get?_push_of_some _ e))
          simp only [List.mem_cons, List.mem_singleton, List.not_mem_nil, or_false, not_or]
          rw [szw]
          exact ⟨Nat.ne_of_lt lt, Nat.ne_of_lt (Nat.lt_succ_of_lt lt)⟩
      · cases r2 with
        | error e => exact hr2
        | ok fl2 =>
          cases fl2 with
          | ret r =>
            obtain ⟨rfl, h', tk, c', rfl, R', le', kp'⟩ := hr2
            repeat (any_goals (first | assumption | wp_step))
            exact go _ _ _ R' le' kp'
          | _ => exact hr2.elim
    | _ => exact hr.elim
end
end Ew
namespace Ew
open PySem PySem.Spec PyProof.Rows L2
/-! ## More rules: targets, isinstance, sorted(set(..)) -/
theorem tgok_n (i : Nat) : TgOk (gN i) := fun d ρ q => .inl ⟨_, rfl⟩
def TgsOk (gs : List Tgt) : Prop := ∀ g ∈ gs, TgOk g
theorem tgok_nil : TgsOk [] := fun g h => by cases h
theorem tgok_cons {g : Tgt} {gs : List Tgt} (h : TgOk g) (hs : TgsOk gs) : TgsOk (g :: gs) := fun x hx => by
  rcases List.mem_cons.mp hx with rfl | hx
  · exact h
  · exact hs x hx
theorem tgok_t {gs : List Tgt} (h : TgsOk gs) : TgOk (gT gs) := fun d ρ q => by
  cases d with
  | tuple ds =>
    unfold gT
    dsimp only
    by_cases hl : ds.length = gs.length
    · rw [if_pos hl]; exact gEach_ok gs h ds ρ q
    · rw [if_neg hl]; exact .inr rfl
  | _ => exact .inr rfl
section
variable {X : Cx} {W : WX} {a b c : Expr} {A B C : DE} {pos pos' pos2 p1 : Pos}
/-! ### isinstance -/
def rIsa (K : PySem.W.Frag) (T : String) (f : D → Bool) : List V → Hp → VK → Prop := fun xs H Q => ∃ (Z : Rg) (d : D) (x : V), xs = [x, .ty T] ∧ Rp K Z H x d ∧ Q (.bl (f d)) H
theorem cr_isa {T : String} {f : D → Bool} (rule : ∀ {s : Shared} {v : Value} {d : D} {as : List Addr} {Q : Value → Shared → Prop}, Reads s.heap v d as → (∀ tk, s.toks ≤ tk → Q (.bool (f d)) { s with toks := tk }) →
    wpAny (model X.prog X.w) X.A (call (.builtin "isinstance") [v, .type T]) Q X.xe s) : CallR X (.builtin "isinstance") (rIsa X.K T f) := by
  intro pins s σ H xs us Q I r h
  obtain ⟨Z, d, x, rfl, hr, q⟩ := h
  cases r with
  | cons r1 rr =>
    cases rr with
    | cons r2 r3 =>
      cases r3
      cases r2
      obtain ⟨as, rd⟩ := hr.reads I _ r1
      exact rule rd fun tk ht => ⟨.bl (f d), H, I.tok _, rfl, q⟩
theorem boot_isi : bootBuiltins ("isinstance" : Str) = some (.builtin "isinstance") := by decide +kernel
theorem pd_isa {x : Str} {T : String} {f : D → Bool} (hc : CallR X (.builtin "isinstance") (rIsa X.K T f)) (hT : bootBuiltins x = some (.type T)) (hgi : Gl X "isinstance") (hmi : X.mg "isinstance" = none) (hg : Gl X x) (hm : X.mg x = none) (ha : PDe X W a A)
    (hn : x ≠ "__name__" := by decide) (hdb : (x == ("__debug__" : Str)) = false := by decide)
    (he : starEach [a, .Name x pos'] X.env = (false, eval a X.env) :: starEach [.Name x pos'] X.env := by rfl) (he2 : starEach [.Name x pos'] X.env = (false, eval (.Name x pos') X.env) :: starEach [] X.env := by rfl)
    (hpl : (backTo pos (starEach [.Name x pos'] X.env)).any (·.1) = false := by rfl) :
    PDe X W (.Call (.Name "isinstance" pos2) [a, .Name x pos'] [] pos) (dUn (fun d => M.ret (.bool (f d))) A) := by
  obtain ⟨t, h1, h2⟩ := ha
  refine ⟨_, pe_callB hc hgi hmi boot_isi (pa_cons h1 (pa_cons (pe_bltn (v := .ty T) hg hm hT rfl hn hdb) pa_nil he2) he) (by decide) (by decide) he hpl, ?_⟩
  exact rd_1 (X := X) (W := W) (r := fun y H Q => rIsa X.K T f [y, .ty T] H Q) sh_rp (fun p sc Z σ H q y dx Q pl nz hx hp => ⟨Z, dx, y, rfl, hx, hp _ H (Keep.refl _ _) pl (.bl _)⟩) h2
theorem boot_tupT : bootBuiltins ("tuple" : Str) = some (.type "tuple") := by decide +kernel
theorem boot_lstT : bootBuiltins ("list" : Str) = some (.type "list") := by decide +kernel
theorem boot_intT : bootBuiltins ("int" : Str) = some (.type "int") := by decide +kernel
theorem boot_booT : bootBuiltins ("bool" : Str) = some (.type "bool") := by decide +kernel
theorem boot_strT : bootBuiltins ("str" : Str) = some (.type "str") := by decide +kernel
theorem boot_dicT : bootBuiltins ("dict" : Str) = some (.type "dict") := by decide +kernel
theorem pd_isi_tup (hgi : Gl X "isinstance") (hmi : X.mg "isinstance" = none) (hg : Gl X "tuple") (hm : X.mg "tuple" = none) (ha : PDe X W a A) (he : starEach [a, .Name "tuple" pos'] X.env = (false, eval a X.env) :: starEach [.Name "tuple" pos'] X.env := by rfl)
    (he2 : starEach [.Name "tuple" pos'] X.env = (false, eval (.Name "tuple" pos') X.env) :: starEach [] X.env := by rfl) (hpl : (backTo pos (starEach [.Name "tuple" pos'] X.env)).any (·.1) = false := by rfl) :
    PDe X W (.Call (.Name "isinstance" pos2) [a, .Name "tuple" pos'] [] pos) (dUn bIsTup A) := pd_isa (cr_isa fun r h => PySem.W.isinstance_tuple_data r h) boot_tupT hgi hmi hg hm ha (by decide) (by decide) he he2 hpl
theorem pd_isi_lst (hgi : Gl X "isinstance") (hmi : X.mg "isinstance" = none) (hg : Gl X "list") (hm : X.mg "list" = none) (ha : PDe X W a A) (he : starEach [a, .Name "list" pos'] X.env = (false, eval a X.env) :: starEach [.Name "list" pos'] X.env := by rfl)
    (he2 : starEach [.Name "list" pos'] X.env = (false, eval (.Name "list" pos') X.env) :: starEach [] X.env := by rfl) (hpl : (backTo pos (starEach [.Name "list" pos'] X.env)).any (·.1) = false := by rfl) :
    PDe X W (.Call (.Name "isinstance" pos2) [a, .Name "list" pos'] [] pos) (dUn bIsLst A) := pd_isa (cr_isa fun r h => PySem.W.isinstance_list_data r h) boot_lstT hgi hmi hg hm ha (by decide) (by decide) he he2 hpl
theorem pd_isi_int (hgi : Gl X "isinstance") (hmi : X.mg "isinstance" = none) (hg : Gl X "int") (hm : X.mg "int" = none) (ha : PDe X W a A) (he : starEach [a, .Name "int" pos'] X.env = (false, eval a X.env) :: starEach [.Name "int" pos'] X.env := by rfl)
    (he2 : starEach [.Name "int" pos'] X.env = (false, eval (.Name "int" pos') X.env) :: starEach [] X.env := by rfl) (hpl : (backTo pos (starEach [.Name "int" pos'] X.env)).any (·.1) = false := by rfl) :
    PDe X W (.Call (.Name "isinstance" pos2) [a, .Name "int" pos'] [] pos) (dUn bIsInt A) := pd_isa (cr_isa fun r h => PySem.W.isinstance_int_data r h) boot_intT hgi hmi hg hm ha (by decide) (by decide) he he2 hpl
theorem pd_isi_bool (hgi : Gl X "isinstance") (hmi : X.mg "isinstance" = none) (hg : Gl X "bool") (hm : X.mg "bool" = none) (ha : PDe X W a A) (he : starEach [a, .Name "bool" pos'] X.env = (false, eval a X.env) :: starEach [.Name "bool" pos'] X.env := by rfl)
    (he2 : starEach [.Name "bool" pos'] X.env = (false, eval (.Name "bool" pos') X.env) :: starEach [] X.env := by rfl) (hpl : (backTo pos (starEach [.Name "bool" pos'] X.env)).any (·.1) = false := by rfl) :
    PDe X W (.Call (.Name "isinstance" pos2) [a, .Name "bool" pos'] [] pos) (dUn bIsBool A) := pd_isa (cr_isa fun r h => PySem.W.isinstance_bool_data r h) boot_booT hgi hmi hg hm ha (by decide) (by decide) he he2 hpl
theorem pd_isi_str (hgi : Gl X "isinstance") (hmi : X.mg "isinstance" = none) (hg : Gl X "str") (hm : X.mg "str" = none) (ha : PDe X W a A) (he : starEach [a, .Name "str" pos'] X.env = (false, eval a X.env) :: starEach [.Name "str" pos'] X.env := by rfl)
    (he2 : starEach [.Name "str" pos'] X.env = (false, eval (.Name "str" pos') X.env) :: starEach [] X.env := by rfl) (hpl : (backTo pos (starEach [.Name "str" pos'] X.env)).any (·.1) = false := by rfl) :
    PDe X W (.Call (.Name "isinstance" pos2) [a, .Name "str" pos'] [] pos) (dUn bIsStr A) := pd_isa (cr_isa fun r h => PySem.W.isinstance_str_data r h) boot_strT hgi hmi hg hm ha (by decide) (by decide) he he2 hpl
/-! ### is None as a test, chains -/
theorem pdt_isN {j} (ha : PDe X W a A) : PDt X W (.Compare a [.Is] [.Constant .none j p1] pos) (tOf (dUn oIsN A)) := by
  obtain ⟨t, h1, h2⟩ := ha
  refine ⟨_, pt_cmp (pc_isN h1) rfl, rd_tof (rd_1 (X := X) (W := W) (r := fun x H Q => Q (.bl (decide (x = .non))) H) sh_rp (fun p sc Z σ H q x dx Q pl nz hx hp => ?_) h2)⟩
  have z := hp (.bl (isN dx)) H (Keep.refl _ _) pl (.bl _)
  rw [← isN_rel hx] at z
  exact z
theorem pdt_notN {j} (ha : PDe X W a A) : PDt X W (.Compare a [.IsNot] [.Constant .none j p1] pos) (tOf (dUn oNotN A)) := by
  obtain ⟨t, h1, h2⟩ := ha
  refine ⟨_, pt_cmp (pc_notN h1) rfl, rd_tof (rd_1 (X := X) (W := W) (r := fun x H Q => Q (.bl (!decide (x = .non))) H) sh_rp (fun p sc Z σ H q x dx Q pl nz hx hp => ?_) h2)⟩
  have z := hp (.bl (!isN dx)) H (Keep.refl _ _) pl (.bl _)
  rw [← isN_rel hx] at z
  exact z
theorem rd_chain {ta tb tc : TE} {r r' : R2} {f g : D → D → M D} (h2 : Op2 X W (RpF X.K) r f) (h2' : Op2 X W (RpF X.K) r' g) (ha : Rd1 X W (RpF X.K) ta A) (hb : Rd1 X W (RpF X.K) tb B) (hc : Rd1 X W (RpF X.K) tc C) : Rd1 X W (RpF X.K) (tChain r r' ta tb tc) (dChain f g A B C) := by
  refine rd_bnd (ValA := fun _ Z H v d => Rp X.K Z H v d) (f := fun ρ x => M.bnd (B ρ) fun y => M.bnd (f x y) fun k => match k with
    | .bool true => M.bnd (C ρ) fun z => g y z
    | .bool false => M.ret (.bool false)
    | _ => M.stuck) (k := fun x σ H Q => tb σ H fun y H2 => r x y H2 fun z H3 => ∃ k, z = .bl k ∧ (if k = true then tc σ H3 fun w' H4 => r' y w' H4 Q else Q (.bl false) H3)) sh_rp (fun _ _ _ _ _ _ h => h) ha fun p sc Z σ H ρ q x dx Q s hv hp => ?_
  refine hb p sc Z σ H ρ q _ s ((Post.bnd (Rel := RpF X.K p Z H) (Rel' := RpF X.K p Z H) hp).to fun y H1 ⟨dy, q1, e1, k1, pl1, r1, hp1⟩ => ?_)
  have s1 := s.next k1 pl1
  have hv1 := (hv.stand (k1.stand s.pool s.nz)).grow (Z' := Zn Z H) Zn.base
  have nz1 := Zn.nop s.pool s.nz
  refine h2 p sc (Zn Z H) σ H1 q1 x y dx dy _ pl1 nz1 hv1 r1 ((Post.bnd (Rel := RpF X.K p (Zn Z H) H1) (Rel' := RpF X.K p Z H) (hp1.later k1)).to fun z H2 ⟨dz, q2, e2, k2, pl2, r2, hp2⟩ => ?_)
  have kk := k1.trans k2
  have s2 := s.next kk pl2
  cases r2 with
  | bl k =>
    refine ⟨k, rfl, ?_⟩
    cases k with
    | false => exact hp2 _ H2 k2 pl2 (.bl _)
    | true =>
      simp only [if_true]
      refine hc p sc Z σ H2 ρ q2 _ s2 ((Post.bnd (Rel := RpF X.K p Z H2) (Rel' := RpF X.K p Z H) (hp2.later k2)).to fun w H3 ⟨dw, q3, e3, k3, pl3, r3, hp3⟩ => ?_)
      have r1' := (r1.stand ((k2.trans k3).stand pl1 nz1)).grow (Z' := Zn (Zn Z H) H3) Zn.base
      refine h2' p sc (Zn Z H) σ H3 q3 y w dy dw Q pl3 nz1 (r1.stand ((k2.trans k3).stand pl1 nz1)) (r3.grow (Zn.step kk s.pool pl2)) ((hp3.later k3).imp fun H' b a rr => ?_)
      exact rr.grow (Zn.twice (kk.trans k3) s.pool pl3)
  | _ => exact hp2.elim
theorem pd_chain {op op' : CmpOp} {f g : D → D → M D} (ho : OpD X W (compareOp op) f) (ho' : OpD X W (compareOp op') g) (ha : PDe X W a A) (hb : PDe X W b B) (hc : PDe X W c C)
    (hm : lastMarks [op, op'] [b, c] = false := by with_unfolding_all rfl) : PDe X W (.Compare a [op, op'] [b, c] pos) (dChain f g A B C) := by
  obtain ⟨r, h1, h2⟩ := ho
  obtain ⟨r', g1, g2⟩ := ho'
  obtain ⟨ta, a1, a2⟩ := ha
  obtain ⟨tb, b1, b2⟩ := hb
  obtain ⟨tc, c1, c2⟩ := hc
  exact ⟨_, pe_chain h1 g1 a1 b1 c1 hm, rd_chain h2 g2 a2 b2 c2⟩
theorem pdt_chain {op op' : CmpOp} {f g : D → D → M D} (ho : OpD X W (compareOp op) f) (ho' : OpD X W (compareOp op') g) (ha : PDe X W a A) (hb : PDe X W b B) (hc : PDe X W c C)
    (hm : lastMarks [op, op'] [b, c] = false := by with_unfolding_all rfl) : PDt X W (.Compare a [op, op'] [b, c] pos) (tOf (dChain f g A B C)) := by
  obtain ⟨r, h1, h2⟩ := ho
  obtain ⟨r', g1, g2⟩ := ho'
  obtain ⟨ta, a1, a2⟩ := ha
  obtain ⟨tb, b1, b2⟩ := hb
  obtain ⟨tc, c1, c2⟩ := hc
  exact ⟨_, pt_chain h1 g1 a1 b1 c1 hm, rd_tof (rd_chain h2 g2 a2 b2 c2)⟩
/-! ### comprehensions, their places as they stand -/
theorem pdf_lc {elt tg iter : Expr} {own : List (Str × Nat)} {vs is : List Nat} {ifs : List Expr} {scope : Scope} {it : DI} {g : Tgt} {T : DT} {F : DE} (hc : X.calm = true) (hN : X.N.Nodup) (hi : PId X W tg iter it) (ok : BlkOk X.N X.env.scope scope own) (his : ∀ i ∈ is, i ∈ vs)
    (hg : ∀ (s : Shared) (H : Hp) (C : Addr) (cl : List (Str × Addr)) (fp : List Addr), PGd (X.blk s H scope (compEnvC scope cl C X.env) fp) is tg g) (ht : ∀ (s : Shared) (H : Hp) (C : Addr) (cl : List (Str × Addr)) (fp : List Addr), PTsd (X.blk s H scope (compEnvC scope cl C X.env) fp) W0 ifs T)
    (he : ∀ (s : Shared) (H : Hp) (C : Addr) (cl : List (Str × Addr)) (fp : List Addr), PDe (X.blk s H scope (compEnvC scope cl C X.env) fp) W0 elt F) (hgo : TgOk g) (hm : own.map (·.2) = vs := by rfl) (hs : ∀ x, foldedSetIterable iter X.env x = pure x := by intro _; rfl) :
    PDf X W (.ListComp elt [⟨tg, iter, ifs, 0⟩] scope pos) (dComp vs it g T F) := by
  subst hm
  exact pdf_comp hc hN hi ok his hg ht he hgo hs
theorem ps_lcn {elt tg iter : Expr} {i : Nat} {y : Str} {py spos : Pos} {own : List (Str × Nat)} {vs is : List Nat} {ifs : List Expr} {scope : Scope} {it : DI} {g : Tgt} {T : DT} {F : DE} (hc : X.calm = true) (hN : X.N.Nodup) (hsw : swapsWith (.ListComp elt [⟨tg, iter, ifs, 0⟩] scope pos) (some (.Name y py)) spos.line X.env = pure true) (hi : PId X W tg iter it) (ok : BlkOk X.N X.env.scope scope own) (his : ∀ i ∈ is, i ∈ vs)
    (hg : ∀ (s : Shared) (H : Hp) (C : Addr) (cl : List (Str × Addr)) (fp : List Addr), PGd (X.blk s H scope (compEnvC scope cl C X.env) fp) is tg g) (ht : ∀ (s : Shared) (H : Hp) (C : Addr) (cl : List (Str × Addr)) (fp : List Addr), PTsd (X.blk s H scope (compEnvC scope cl C X.env) fp) W0 ifs T)
    (he : ∀ (s : Shared) (H : Hp) (C : Addr) (cl : List (Str × Addr)) (fp : List Addr), PDe (X.blk s H scope (compEnvC scope cl C X.env) fp) W0 elt F) (hgo : TgOk g) (hm : own.map (·.2) = vs := by rfl) (hy : X.N[i]? = some y := by rfl) (hyl : X.env.scope.names.lookup y = some .local := by rfl) (hs : ∀ x, foldedSetIterable iter X.env x = pure x := by intro _; rfl) :
    ∃ t, PS X (.Assign [.Name y py] (.ListComp elt [⟨tg, iter, ifs, 0⟩] scope pos) spos) (tAsg t (gName i)) ∧ Rd1 X W (NewF X.K) t (dComp vs it g T F) := by
  subst hm
  exact ps_lc hc hN hsw hi ok his hg ht he hgo hy hyl hs
/-! ### a comprehension given to a name -/
theorem rds_lc {i : Nat} {te : TE} {F : DE} (h2 : Rd1 X W (NewF X.K) te F) : RdS X.K X.mg W (tAsg te (gName i)) (sAsg (gN i) F) ∧ RdS X.K X.mg W (tAsg te (gName i)) (sAsgF (gN i) F) := by
  have h3 : Rd1 X W (RpF X.K) te F := fun p sc Z σ H ρ q Q s hp => h2 p sc Z σ H ρ q Q s (hp.imp fun _ _ _ r => r.rp)
  have hg : TgR X.K [i] (gName i) (gN i) := fun Z σ H ρ ρ' q q' v d Q r e k => by
    cases e
    exact k [(i, v, d)] (by simpa using r) rfl rfl
  exact ⟨rds_asg h3 hg (tgok_n i), rds_asgF h3 hg (tgok_n i)⟩
theorem sd_lcd {i : Nat} {st : Stmt} {F : DE} (h : ∃ t, PS X st (tAsg t (gName i)) ∧ Rd1 X W (NewF X.K) t F) : PSd X W st (sAsg (gN i) F) := by
  obtain ⟨t, h1, h2⟩ := h
  exact ⟨_, h1, (rds_lc h2).1⟩
theorem sd_lcdF {i : Nat} {st : Stmt} {F : DE} (h : ∃ t, PS X st (tAsg t (gName i)) ∧ Rd1 X W (NewF X.K) t F) : PSd X W st (sAsgF (gN i) F) := by
  obtain ⟨t, h1, h2⟩ := h
  exact ⟨_, h1, (rds_lc h2).2⟩
end
section
variable {X : Cx} {W : WX} {a b c : Expr} {A B C : DE} {pos pos' pos2 p1 : Pos}
def rSetL (X : Cx) : List V → Hp → VK → Prop := fun vs H Q => ∃ (p : Addr) (ns : List Int), vs = [.ref p] ∧ SqL X.K H p (ns.map V.int) ∧ ns.length ≤ 1000 ∧ ∀ a c, H a = none → c ≤ ns.length → Q (.ref a) (upd H a (SetO X.w a (fun j => decide (j ∈ ns)) c))
theorem cr_setL (hc : X.calm = true) : CallR X (.type "set") (rSetL X) := by
  intro pins s σ H vs us Q I r h
  obtain ⟨p, ns, rfl, hq, hl, q⟩ := h
  rw [Vals.ref1 r]
  obtain ⟨its, rv, pt, hz⟩ := I.list hq
  have hi : IntsAre its.toArray.toList ns := ints_of_vals rv
  refine call_set_ints ns (I.ok.hd hc) (pt.isList) hi (by unfold scanBound; omega) fun h' tk c R1 hcn k => ?_
  have hn : H s.heap.objs.size = none := I.hok.fresh (Nat.le_refl _)
  have J : Inv X pins σ (upd H s.heap.objs.size (SetO X.w s.heap.objs.size (fun j => decide (j ∈ ns)) c)) { s with heap := h', gens := s.gens, drawn := s.drawn, toks := tk } :=
    I.call (ch := []) (Un.laid k (Nat.le_refl _) hn) (I.hok.laid k (Nat.le_refl _) (setO_new R1)) I.bare (fun _ z => nomatch z)
  exact ⟨.ref _, _, J, rfl, q _ c hn hcn⟩
/-! ### ascending lists without repetition -/
theorem insU_mem {x k : Int} : ∀ l : List Int, k ∈ insU x l ↔ k = x ∨ k ∈ l
  | [] => by simp [insU]
  | y :: r => by
    unfold insU
    by_cases h : x < y
    · simp [h]
    · by_cases h2 : x = y
      · subst h2; simp
      · simp only [h, h2, if_false, List.mem_cons, insU_mem r]
        constructor
        · rintro (h | h | h) <;> simp [h]
        · rintro (h | h | h) <;> simp [h]
theorem insU_asc {x : Int} : ∀ l : List Int, l.Pairwise (· < ·) → (insU x l).Pairwise (· < ·)
  | [], _ => by simp [insU]
  | y :: r, h => by
    obtain ⟨h1, h2⟩ := List.pairwise_cons.mp h
    unfold insU
    by_cases hx : x < y
    · rw [if_pos hx]
      refine List.pairwise_cons.mpr ⟨fun k hk => ?_, h⟩
      rcases List.mem_cons.mp hk with rfl | hk
      · exact hx
      · have := h1 k hk; omega
    · rw [if_neg hx]
      by_cases hxy : x = y
      · rw [if_pos hxy]; exact h
      · rw [if_neg hxy]
        refine List.pairwise_cons.mpr ⟨fun k hk => ?_, insU_asc r h2⟩
        rcases (insU_mem r).mp hk with rfl | hk
        · omega
        · exact h1 k hk
theorem sortU_go : ∀ (xs acc : List Int), acc.Pairwise (· < ·) → (xs.foldl (fun acc x => insU x acc) acc).Pairwise (· < ·) ∧ ∀ k, k ∈ xs.foldl (fun acc x => insU x acc) acc ↔ k ∈ acc ∨ k ∈ xs
  | [], acc, h => ⟨h, fun k => by simp⟩
  | x :: xs, acc, h => by
    obtain ⟨h1, h2⟩ := sortU_go xs (insU x acc) (insU_asc acc h)
    refine ⟨h1, fun k => (h2 k).trans ?_⟩
    rw [insU_mem, List.mem_cons]
    constructor
    · rintro ((h | h) | h) <;> simp [h]
    · rintro (h | h | h) <;> simp [h]
theorem sortU_asc (xs : List Int) : (sortU xs).Pairwise (· < ·) := (sortU_go xs [] List.Pairwise.nil).1
theorem sortU_mem (xs : List Int) (k : Int) : k ∈ sortU xs ↔ k ∈ xs := ((sortU_go xs [] List.Pairwise.nil).2 k).trans (by simp)
theorem asc_uniq : ∀ (l m : List Int), l.Pairwise (· < ·) → m.Pairwise (· < ·) → (∀ k, k ∈ l ↔ k ∈ m) → l = m
  | [], [], _, _, _ => rfl
  | [], y :: m, _, _, h => absurd ((h y).2 List.mem_cons_self) (by simp)
  | x :: l, [], _, _, h => absurd ((h x).1 List.mem_cons_self) (by simp)
  | x :: l, y :: m, hl, hm, h => by
    obtain ⟨l1, l2⟩ := List.pairwise_cons.mp hl
    obtain ⟨m1, m2⟩ := List.pairwise_cons.mp hm
    have e : x = y := by
      have a := (h x).1 List.mem_cons_self
      have b := (h y).2 List.mem_cons_self
      rcases List.mem_cons.mp a with a | a
      · exact a
      · rcases List.mem_cons.mp b with b | b
        · exact b.symm
        · have := l1 y b; have := m1 x a; omega
    subst e
    congr 1
    refine asc_uniq l m l2 m2 fun k => ⟨fun hk => ?_, fun hk => ?_⟩
    · rcases List.mem_cons.mp ((h k).1 (List.mem_cons_of_mem _ hk)) with rfl | z
      · have := l1 k hk; omega
      · exact z
    · rcases List.mem_cons.mp ((h k).2 (List.mem_cons_of_mem _ hk)) with rfl | z
      · have := m1 k hk; omega
      · exact z
theorem ints_rp {K : PySem.W.Frag} {Z : Rg} {H : Hp} : ∀ {vs : List V} {ds : List D} {ns : List Int}, RpL K Z H vs ds → ints? ds = some ns → vs = ns.map V.int ∧ ds = ns.map PyData.int
  | _, _, ns, .nil, h => by
    cases h
    exact ⟨rfl, rfl⟩
  | _, _, ns, .cons r rs, h => by
    cases r with
    | int i =>
      unfold ints? at h
      rename_i vs ds
      cases e : ints? ds with
      | none => rw [e] at h; cases h
      | some ms =>
        rw [e] at h
        cases h
        obtain ⟨e1, e2⟩ := ints_rp rs e
        rw [e1, e2]
        exact ⟨rfl, rfl⟩
    | _ => cases h
theorem rp_ints {K : PySem.W.Frag} {Z : Rg} {H : Hp} : ∀ ns : List Int, RpL K Z H (ns.map V.int) (ns.map PyData.int)
  | [] => .nil
  | n :: ns => .cons (.int n) (rp_ints ns)
theorem boot_sortedE : bootBuiltins ("sorted" : Str) = some (.builtin "sorted") := by decide +kernel
theorem boot_setE : bootBuiltins ("set" : Str) = some (.type "set") := by decide +kernel
theorem pdf_sortedset (hc : X.calm = true) (hg : Gl X "sorted") (hm : X.mg "sorted" = none) (hg2 : Gl X "set") (hm2 : X.mg "set" = none) (ha : PDe X W a A)
    (he : starEach [.Call (.Name "set" pos2) [a] [] p1] X.env = (false, eval (.Call (.Name "set" pos2) [a] [] p1) X.env) :: starEach [] X.env := by rfl) (he2 : starEach [a] X.env = (false, eval a X.env) :: starEach [] X.env := by rfl)
    (hpl : (backTo pos (starEach [] X.env)).any (·.1) = false := by rfl) (hpl2 : (backTo p1 (starEach [] X.env)).any (·.1) = false := by rfl) :
    PDf X W (.Call (.Name "sorted" pos') [.Call (.Name "set" pos2) [a] [] p1] [] pos) (dUn bSortedSet A) := by
  obtain ⟨t, h1, h2⟩ := ha
  refine ⟨_, pe_callB (cr_sortedSet hc) hg hm boot_sortedE (pa_cons (pe_callTy (cr_setL hc) hg2 hm2 boot_setE (pa_cons h1 pa_nil he2) (by decide) (by decide) he2 hpl2) pa_nil he) (by decide) (by decide) he hpl, ?_⟩
  refine rd_1 (X := X) (W := W) (r := fun x H Q => rSetL X [x] H fun y H1 => rSortedSet X.w [y] H1 Q) sh_new (fun p sc Z σ H q x dx Q pl nz hx hp => ?_) h2
  unfold bSortedSet at hp
  cases hx with
  | lst ha za ra =>
    rename_i a xs ds
    dsimp only at hp
    cases e : ints? ds with
    | none => rw [e] at hp; exact hp.elim
    | some ns =>
      rw [e] at hp
      dsimp only at hp
      by_cases hl : ds.length < 64
      · rw [if_pos hl] at hp
        obtain ⟨rfl, rfl⟩ := ints_rp ra e
        rw [List.length_map] at hl
        refine ⟨a, ns, rfl, .inl (.inl ha), by omega, fun b c hb hcn => ⟨b, _, c, rfl, upd_same, by omega, fun ms p2 asc mem len hp2 => ?_⟩⟩
        have em : ms = sortU ns := asc_uniq _ _ asc (sortU_asc ns) fun k => by rw [mem k, sortU_mem, decide_eq_true_eq]
        subst em
        have hp2' : H p2 = none := by
          by_cases hpb : p2 = b
          · rw [hpb]; exact hb
          · rw [upd_ne hpb] at hp2; exact hp2
        have k1 : Keep p H (upd H b (SetO X.w b (fun j => decide (j ∈ ns)) c)) := new_keep hb
        have pl1 := new_pool (o := SetO X.w b (fun j => decide (j ∈ ns)) c) hb pl
        exact hp _ _ (k1.trans (new_keep hp2)) (new_pool hp2 pl1) ⟨p2, _, _, rfl, rfl, hp2', upd_same, rp_ints _⟩
      · rw [if_neg hl] at hp; exact hp.elim
  | _ => exact hp.elim
end
end Ew
namespace Ew
open PySem PySem.Spec PyProof.Rows L2
/-! ## Defs that call each other, a law's end -/
structure Ok (P : Program) (w : World) (K : PySem.W.Frag) (mg : Str → Option Value) (base : Heap) (k : Nat) (x : Str) (F : List Arg → M D) : Prop where
  ex : ∃ (n : Nat) (f : Addr) (fd : FuncData) (ps : List Str), (∀ as q, as.length ≠ n → F as q = .stuck) ∧ FnOk P w K mg base (L2.CX P w) k f fd ps (spD K mg n F) ∧ mg x = some (.ref f) ∧ PySem.W.keepIn K (.ref f) = true ∧ Binds K fd ps []
section
variable {P : Program} {w : World} {K : PySem.W.Frag} {mg : Str → Option Value} {base : Heap} {k : Nat} {x : Str} {F : List Arg → M D} {f : Addr} {fd : FuncData} {ps : List Str} {n : Nat}
theorem okMk (kp : PySem.W.keepIn K (.ref f) = true) (mx : mg x = some (.ref f)) (b : Binds K fd ps []) (hl : ∀ as q, as.length ≠ n → F as q = .stuck) (h : FnOk P w K mg base (L2.CX P w) k f fd ps (spD K mg n F)) : Ok P w K mg base k x F :=
  ⟨n, f, fd, ps, hl, h, mx, kp, b⟩
theorem Ok.fnd {X : Cx} {j : Nat} (h : Ok X.prog X.w X.K X.mg X.base k x F) (hr : Room j X.A) (hk : k ≤ j := by first | decide | omega) : FnD X x F := by
  obtain ⟨n, f, fd, ps, h1, h2, h3, h4, h5⟩ := h.ex
  exact ⟨k, n, f, fd, ps, h1, h2, hr.mono hk, h3, h4, h5⟩
theorem roomHu {A : Around} (r : Room k A) : A.units + deep < cLine := by
  have := r.un
  unfold deep
  omega
theorem F_draw_len : ∀ as q, as.length ≠ 2 → F_draw as q = .stuck := fun as q h => by
  match as, h with
  | [], _ => rfl
  | [.d _], _ => rfl
  | [.pool], _ => rfl
  | [.pool, .pool], h => exact absurd rfl h
  | [.pool, .d _], h => exact absurd rfl h
  | [.d _, _], h => exact absurd rfl h
  | .d _ :: _ :: _ :: _, _ => rfl
  | .pool :: .d x :: _ :: _, _ => cases x <;> rfl
  | .pool :: .pool :: _ :: _, _ => rfl
def spLaw (K : PySem.W.Frag) : Sp := fun vs H Q _ => ∃ (a : Addr) (ns : List Int), vs = [.ref a] ∧ SqL K H a (ns.map V.int) ∧ ∀ H', Q (.bl true) H'
theorem br_law {p sc : Addr} {H : Hp} {q : Pool} (pl : PoolAt p sc H q) {a : Addr} (n : Nat) : BR K p sc (fun _ => False) H (fun _ => False) ([some (.ref a), some (.ref p)] ++ List.replicate n none) H ([none, some .pool] ++ List.replicate n none) q := by
  have only : ∀ (i : Nat) s, ([none, some Slot.pool] ++ List.replicate n none)[i]? = some (some s) → i = 1 ∧ s = .pool := fun i s e => by
    match i, e with
    | 0, e => cases e
    | 1, e => cases e; exact ⟨rfl, rfl⟩
    | i + 2, e =>
      have z : (List.replicate n (none : Option Slot))[i]? = some (some s) := e
      have z2 := List.eq_of_mem_replicate (List.mem_of_getElem? z)
      cases z2
  refine ⟨Keep.refl _ _, ⟨q, pl⟩, pl, fun z => z, fun z => z, fun b z => z.elim, fun b z => z.elim, by simp, fun i s e => ?_, fun i j b s t ij h1 m1 h2 m2 _ _ => ?_⟩
  · obtain ⟨rfl, rfl⟩ := only i s e
    rfl
  · obtain ⟨rfl, rfl⟩ := only i s h1
    cases m1
theorem law_end {W : WX} {t : TS} {B : DS} {a p sc : Addr} {H : Hp} {q : Pool} {Q : VK} {m : Nat} (good : ∃ q', B ([none, some .pool] ++ List.replicate m none) q = .ok (.ret (.bool true)) q') (pl : PoolAt p sc H q) (hq : ∀ H', Q (.bl true) H') (h : RdS K mg W t B) (nx : L2.St → Hp → Prop) :
    t { nx := nx, rt := Q } ([some (.ref a), some (.ref p)] ++ List.replicate m none) H := by
  obtain ⟨q', e⟩ := good
  refine h p sc _ H _ _ H _ q _ (br_law pl m) ?_
  rw [e]
  intro v H' _ _ r
  cases r
  exact hq H'
/-- the law's own end: what stands over a head by facts, the promise by world -/
theorem law_ends {l : PySem.W.OpenLaw} {n k : Nat} {q : Program} {loose : List Str} {XP : (Str → Option Value) → Heap → Prop} {YP : World → Heap → Prop} {d : DefRec} {x : Str} (most : l.most = some n) (small : n ≤ sizeLine) (plain : d.params.defaults = []) (room : Room k callerA)
    (facts : ∀ (w : World) (mg : Str → Option Value) (fa : Addr) (h : Heap), YP w h → h.Ns mainGlobals mg → mg d.name = some (.ref fa) → ∃ (K : PySem.W.Frag) (fd : FuncData), K.In h ∧ (∀ (s : Shared) (u : Value), BindsTo s fd ⟨[u], []⟩ [(x, u)]) ∧
      ∀ base : Heap, K.In base → base.Ns mainGlobals mg → FnOk l.prog w K mg base (L2.CX l.prog w) k fa fd [x] (spLaw K)) : PySem.W.WalkO q loose XP YP l.row.toRowW d [] (fun f vs => PySem.call f vs) := by
  refine Att.attach_call most plain fun w s₀ s₁ mg mb fa o pm cd doc a vs ns G Y ho hd hcd hmg isf hint len got => ?_
  obtain ⟨K, fd, KX, hb, hF⟩ := facts w mg fa _ Y G.T.g hmg
  refine law_call KX G.T.g G.T.b G.T.builtins G.T.nolimit got isf hint (Nat.le_trans len small) room hF hb (fun H _ hS => ⟨a, ns, rfl, hS, fun _ => rfl⟩) fun H e s' z => ?_
  obtain ⟨_, _, _, _, _, _, _, _, _, _, _, _, z⟩ := z
  exact z
end
end Ew
namespace Ew
open PySem (PyData Str)
/-! ## The plain side: what a piece of code comes to, whatever the draws are; κ = true: no draw is made -/
def DoesK {α : Type} (κ : Bool) (m : M α) (P : α → Prop) : Prop := ∀ q, ∃ a q', m q = .ok a q' ∧ P a ∧ (κ = true → q' = q)
abbrev Does {α : Type} (m : M α) (P : α → Prop) : Prop := DoesK false m P
section
variable {κ : Bool}
theorem does_ret {α : Type} {a : α} {P : α → Prop} (h : P a) : DoesK κ (M.ret a) P := fun q => ⟨a, q, rfl, h, fun _ => rfl⟩
theorem does_bnd {α β : Type} {m : M α} {f : α → M β} {P : α → Prop} {R : β → Prop} (h : DoesK κ m P) (k : ∀ a, P a → DoesK κ (f a) R) : DoesK κ (M.bnd m f) R := fun q => by
  obtain ⟨a, q1, e, p, u⟩ := h q
  obtain ⟨b, q2, e2, r, v⟩ := k a p q1
  exact ⟨b, q2, by unfold M.bnd; rw [e]; exact e2, r, fun z => (v z).trans (u z)⟩
theorem DoesK.imp {α : Type} {m : M α} {P R : α → Prop} (h : DoesK κ m P) (k : ∀ a, P a → R a) : DoesK κ m R := fun q => by
  obtain ⟨a, q1, e, p, u⟩ := h q
  exact ⟨a, q1, e, k a p, u⟩
theorem DoesK.up {α : Type} {m : M α} {P : α → Prop} (h : DoesK true m P) : DoesK κ m P := fun q => by
  obtain ⟨a, q1, e, p, u⟩ := h q
  exact ⟨a, q1, e, p, fun _ => u rfl⟩
theorem does_eq {α β : Type} {m : M α} {f : α → M β} {a : α} {R : β → Prop} (h : DoesK κ m (· = a)) (k : DoesK κ (f a) R) : DoesK κ (M.bnd m f) R := does_bnd h fun b e => by rw [e]; exact k
theorem does_noerr {α : Type} {m : M α} {P : α → Prop} (h : DoesK κ m P) : DoesK κ (M.noerr m) P := fun q => by
  obtain ⟨a, q1, e, p, u⟩ := h q
  exact ⟨a, q1, by unfold M.noerr; rw [e], p, u⟩
theorem does_ite {α : Type} {c : Prop} [Decidable c] {m n : M α} {P : α → Prop} (h : c → DoesK κ m P) (h' : ¬ c → DoesK κ n P) : DoesK κ (if c then m else n) P := by
  by_cases hc : c
  · rw [if_pos hc]; exact h hc
  · rw [if_neg hc]; exact h' hc
/-- without draws: an equation -/
theorem eq_of {α : Type} {m : M α} {a : α} (h : DoesK true m (· = a)) : m = M.ret a := by
  funext q
  obtain ⟨b, q1, e, p, u⟩ := h q
  rw [e, p, u rfl]
  rfl
theorem of_eq {α : Type} {m : M α} {a : α} (h : m = M.ret a) : DoesK κ m (· = a) := by rw [h]; exact does_ret rfl
end
section
variable {κ : Bool}
theorem nr {α : Type} {a b : α} (h : a = b) : a = b := h
/-! ### reading from the left -/
section
variable {α β : Type}
@[simp] theorem bnd_ret (a : α) (f : α → M β) : M.bnd (M.ret a) f = f a := nr rfl
@[simp] theorem bnd_stuck (f : α → M β) : M.bnd (M.stuck : M α) f = M.stuck := nr rfl
@[simp] theorem bnd_ite {c : Prop} [Decidable c] (m n : M α) (f : α → M β) : M.bnd (if c then m else n) f = if c then M.bnd m f else M.bnd n f := by split <;> rfl
theorem bnd_bnd {γ : Type} (m : M α) (f : α → M β) (g : β → M γ) : M.bnd (M.bnd m f) g = M.bnd m fun x => M.bnd (f x) g := by
  funext q
  unfold M.bnd
  cases m q <;> rfl
variable (ρ : Rho) (i : Nat) (a b c : DE) (t u : DT) (f g : D → D → M D) (h : D → M D) (d : D) (G : List Arg → M D)
@[simp] theorem at_c : dC d ρ = M.ret d := nr rfl
@[simp] theorem at_bin : dBin f a b ρ = M.bnd (a ρ) fun x => M.bnd (b ρ) fun y => f x y := nr rfl
@[simp] theorem at_un : dUn h a ρ = M.bnd (a ρ) h := nr rfl
theorem at_var {d : D} (e : ρ[i]? = some (some (.dat d))) : dVar i ρ = M.ret d := by unfold dVar; rw [e]; rfl
theorem at_own {ds : List D} (e : ρ[i]? = some (some (.own ds))) : dVar i ρ = M.ret (.list ds) := by unfold dVar; rw [e]; rfl
@[simp] theorem at_v0 (d : D) (ρ : Rho) : dVar 0 (some (.dat d) :: ρ) = M.ret d := nr rfl
@[simp] theorem at_o0 (ds : List D) (ρ : Rho) : dVar 0 (some (.own ds) :: ρ) = M.ret (.list ds) := nr rfl
@[simp] theorem at_vs (i : Nat) (s : Option Slot) (ρ : Rho) : dVar (i + 1) (s :: ρ) = dVar i ρ := nr rfl
@[simp] theorem at_tup (es : List DE) : dTup es ρ = M.bnd (dEach es ρ) fun xs => M.ret (.tuple xs) := nr rfl
@[simp] theorem at_lst (es : List DE) : dLst es ρ = M.bnd (dEach es ρ) fun xs => M.ret (.list xs) := nr rfl
@[simp] theorem at_each0 : dEach [] ρ = M.ret [] := nr rfl
@[simp] theorem at_eachs (es : List DE) : dEach (a :: es) ρ = M.bnd (a ρ) fun x => M.bnd (dEach es ρ) fun xs => M.ret (x :: xs) := nr rfl
@[simp] theorem at_ad : aD a ρ = M.bnd (a ρ) fun x => M.ret (.d x) := nr rfl
@[simp] theorem at_p0 (ρ : Rho) : aPool 0 (some .pool :: ρ) = M.ret .pool := nr rfl
@[simp] theorem at_ps (i : Nat) (s : Option Slot) (ρ : Rho) : aPool (i + 1) (s :: ρ) = aPool i ρ := nr rfl
@[simp] theorem at_args0 : dArgs [] ρ = M.ret [] := nr rfl
@[simp] theorem at_argss (x : DA) (es : List DA) : dArgs (x :: es) ρ = M.bnd (x ρ) fun x => M.bnd (dArgs es ρ) fun xs => M.ret (x :: xs) := nr rfl
@[simp] theorem at_call (es : List DA) : dCall G es ρ = M.bnd (dArgs es ρ) G := nr rfl
theorem at_tof : tOf a ρ = M.bnd (a ρ) fun x => match x with
  | .bool b => M.ret b
  | _ => M.stuck := nr rfl
@[simp] theorem at_tofk (a : DE) : tOf a ρ = M.bnd (a ρ) fun x => (match x with
  | .bool b => M.ret b
  | _ => M.stuck) := nr rfl
@[simp] theorem at_and : tAnd t u ρ = M.bnd (t ρ) fun c => if c = true then u ρ else M.ret false := nr rfl
@[simp] theorem at_or : tOr t u ρ = M.bnd (t ρ) fun c => if c = true then M.ret true else u ρ := nr rfl
@[simp] theorem at_not : tNot t ρ = M.bnd (t ρ) fun c => M.ret (!c) := nr rfl
@[simp] theorem at_dand : dAnd a b ρ = M.bnd (tOf a ρ) fun c => if c = true then b ρ else M.ret (.bool false) := nr rfl
@[simp] theorem at_dor : dOr a b ρ = M.bnd (tOf a ρ) fun c => if c = true then M.ret (.bool true) else b ρ := nr rfl
@[simp] theorem at_dnot : dNot a ρ = M.bnd (tOf a ρ) fun c => M.ret (.bool (!c)) := nr rfl
@[simp] theorem at_if : dIf t a b ρ = M.bnd (t ρ) fun c => if c = true then a ρ else b ρ := nr rfl
@[simp] theorem at_chain : dChain f g a b c ρ = M.bnd (a ρ) fun x => M.bnd (b ρ) fun y => M.bnd (f x y) fun k => (match k with
  | .bool true => M.bnd (c ρ) fun z => g y z
  | .bool false => M.ret (.bool false)
  | _ => M.stuck) := nr rfl
@[simp] theorem at_gn (x : D) : gN i x ρ = M.ret (ρ.set i (some (.dat x))) := nr rfl
theorem at_gt (gs : List Tgt) (ds : List D) (e : ds.length = gs.length) : gT gs (.tuple ds) ρ = gEach gs ds ρ := by
  show (if ds.length = gs.length then gEach gs ds ρ else M.stuck) = _
  rw [if_pos e]
@[simp] theorem at_g2 (g1 g2 : Tgt) (x y : D) : gT [g1, g2] (.tuple [x, y]) ρ = M.bnd (g1 x ρ) (g2 y) := by
  show M.bnd (g1 x ρ) (fun ρ' => M.bnd (g2 y ρ') fun ρ2 => M.ret ρ2) = _
  congr 1
  funext r q
  unfold M.bnd M.ret
  cases g2 y r q <;> rfl
@[simp] theorem at_g3 (g1 g2 g3 : Tgt) (x y z : D) : gT [g1, g2, g3] (.tuple [x, y, z]) ρ = M.bnd (g1 x ρ) fun r => M.bnd (g2 y r) (g3 z) := by
  show M.bnd (g1 x ρ) (fun r => M.bnd (g2 y r) fun r2 => M.bnd (g3 z r2) fun r3 => M.ret r3) = _
  congr 1
  funext r
  congr 1
  funext r2 q
  unfold M.bnd M.ret
  cases g3 z r2 q <;> rfl
@[simp] theorem at_iseq : iSeq a ρ = M.bnd (a ρ) fun x => (match x with
  | .list ds => M.ret ds
  | .tuple ds => M.ret ds
  | _ => M.stuck) := nr rfl
@[simp] theorem at_r1 : iR1 a ρ = M.bnd (a ρ) rng1 := nr rfl
@[simp] theorem at_r2 : iR2 a b ρ = M.bnd (a ρ) fun x => M.bnd (b ρ) fun y => rng2 x y := nr rfl
theorem rng1_of {j : Int} (h : j < 2 ^ 62) (h0 : -(2 ^ 62) ≤ j) : rng1 (.int j) = M.ret (intsFrom 0 j.toNat) := by
  unfold rng1
  dsimp only
  rw [if_pos (by unfold small62; rw [decide_eq_true h0, decide_eq_true h]; rfl)]
theorem rng2_of {i j : Int} (h : j < 2 ^ 62) (h0 : -(2 ^ 62) ≤ j) (k : i < 2 ^ 62) (k0 : -(2 ^ 62) ≤ i) : rng2 (.int i) (.int j) = M.ret (intsFrom i (j - i).toNat) := by
  unfold rng2
  dsimp only
  rw [if_pos (by unfold small62; rw [decide_eq_true h0, decide_eq_true h, decide_eq_true k0, decide_eq_true k]; rfl)]
theorem intsFrom_len (lo : Int) (n : Nat) : (intsFrom lo n).length = n := by unfold intsFrom; rw [List.length_map, List.length_range]
theorem intsFrom_at {lo : Int} {n i : Nat} {x : D} (h : (intsFrom lo n)[i]? = some x) : x = .int (lo + (i : Int)) ∧ i < n := by
  unfold intsFrom at h
  rw [List.getElem?_map] at h
  have hi : i < n := by
    rcases Nat.lt_or_ge i n with h1 | h1
    · exact h1
    · rw [List.getElem?_eq_none (by simpa using h1)] at h; cases h
  rw [List.getElem?_range hi] at h
  cases h
  exact ⟨rfl, hi⟩
/-! statements -/
variable (S T : DS)
@[simp] theorem at_nil : sNil ρ = M.ret (.next ρ) := nr rfl
@[simp] theorem at_seq : sSeq S T ρ = M.bnd (S ρ) fun o => (match o with
  | .next ρ' => T ρ'
  | o => M.ret o) := nr rfl
@[simp] theorem at_asg (k : Tgt) : sAsg k a ρ = M.bnd (a (hideR ρ)) fun d => M.bnd (k d ρ) fun ρ' => M.ret (.next ρ') := nr rfl
@[simp] theorem at_asgf (k : Tgt) : sAsgF k a ρ = M.bnd (a ρ) fun d => if flatD d = true then M.bnd (k d ρ) fun ρ' => M.ret (.next ρ') else M.stuck := nr rfl
@[simp] theorem at_sown : sOwn i a ρ = M.bnd (a (hideR ρ)) fun d => (match d with
  | .list ds => M.ret (.next (ρ.set i (some (.own ds))))
  | _ => M.stuck) := nr rfl
@[simp] theorem at_sownf : sOwnF i a ρ = M.bnd (a ρ) fun d => (match d with
  | .list ds => if flatAll ds = true then M.ret (.next (ρ.set i (some (.own ds)))) else M.stuck
  | _ => M.stuck) := nr rfl
@[simp] theorem at_sret : sRet a ρ = M.bnd (a ρ) fun d => M.ret (.ret d) := nr rfl
@[simp] theorem at_sretn : sRetN ρ = M.ret (.ret .none) := nr rfl
@[simp] theorem at_sif : sIf t S T ρ = M.bnd (t ρ) fun c => if c = true then S ρ else T ρ := nr rfl
@[simp] theorem at_sdrop : sDrop a ρ = M.bnd (a ρ) fun _ => M.ret (.next ρ) := nr rfl
@[simp] theorem at_sbrk : sBrk ρ = M.ret (.brk ρ) := nr rfl
@[simp] theorem at_scont : sCont ρ = M.ret (.cont ρ) := nr rfl
@[simp] theorem at_sfor (it : DI) (k : Tgt) : sFor it k S ρ = M.bnd (it (hideR ρ)) fun xs => forGo k S xs ρ := nr rfl
@[simp] theorem hide_nil : hideR [] = [] := nr rfl
@[simp] theorem hide_d (d : D) (ρ : Rho) : hideR (some (.dat d) :: ρ) = some (.dat d) :: hideR ρ := nr rfl
@[simp] theorem hide_p (ρ : Rho) : hideR (some .pool :: ρ) = some .pool :: hideR ρ := nr rfl
@[simp] theorem hide_o (ds : List D) (ρ : Rho) : hideR (some (.own ds) :: ρ) = none :: hideR ρ := nr rfl
@[simp] theorem hide_q (ds : List (D × D)) (ρ : Rho) : hideR (some (.odic ds) :: ρ) = none :: hideR ρ := nr rfl
@[simp] theorem hide_n (ρ : Rho) : hideR (none :: ρ) = none :: hideR ρ := nr rfl
@[simp] theorem set_0 (s x : Option Slot) (ρ : Rho) : List.set (s :: ρ) 0 x = x :: ρ := nr rfl
@[simp] theorem set_s (s x : Option Slot) (i : Nat) (ρ : Rho) : List.set (s :: ρ) (i + 1) x = s :: List.set ρ i x := nr rfl
theorem fnD_at {n N : Nat} {B : DS} {as : List Arg} (h : as.length = n) : fnD n N B as = M.bnd (B (as.map argSlot ++ List.replicate (N - n) none)) fun o => (match o with
    | .ret d => M.ret d
    | .next _ => M.ret .none
    | _ => M.stuck) := if_pos h
theorem does_fn {n N : Nat} {B : DS} {as : List Arg} {P : D → Prop} (h : as.length = n) (b : DoesK κ (B (as.map argSlot ++ List.replicate (N - n) none)) fun o => match o with
    | .ret d => P d
    | .next _ => P .none
    | _ => False) : DoesK κ (fnD n N B as) P := by
  rw [fnD_at h]
  refine does_bnd b fun o ho => ?_
  cases o with
  | ret d => exact does_ret ho
  | next r => exact does_ret ho
  | brk r => exact ho.elim
  | cont r => exact ho.elim
@[simp] theorem slot_d (d : D) : argSlot (.d d) = some (.dat d) := nr rfl
@[simp] theorem slot_p : argSlot .pool = some .pool := nr rfl
end
/-! ### loops -/
theorem for_does {g : Tgt} {B : DS} {R : Out → Prop} (I : Nat → Rho → Prop) : ∀ (xs : List D) (i : Nat) (ρ : Rho), I i ρ →
    (∀ (j : Nat) (x : D) (ρ : Rho), xs[j]? = some x → I (i + j) ρ → DoesK κ (M.bnd (g x ρ) B) fun o => match o with
      | .next r => I (i + j + 1) r
      | .cont r => I (i + j + 1) r
      | .brk r => R (.next r)
      | .ret d => R (.ret d)) → (∀ ρ, I (i + xs.length) ρ → R (.next ρ)) → DoesK κ (forGo g B xs ρ) R
  | [], i, ρ, h, _, k => does_ret (k ρ h)
  | x :: xs, i, ρ, h, s, k => by
    have s0 := s 0 x ρ rfl h
    have e : forGo g B (x :: xs) ρ = M.bnd (M.bnd (g x ρ) B) fun o => (match o with
      | .next ρ2 => forGo g B xs ρ2
      | .cont ρ2 => forGo g B xs ρ2
      | .brk ρ2 => M.ret (.next ρ2)
      | .ret d => M.ret (.ret d)) := (bnd_bnd _ _ _).symm
    rw [e]
    have rest : ∀ r, I (i + 1) r → DoesK κ (forGo g B xs r) R := fun r hr => for_does I xs (i + 1) r hr (fun j x ρ hx hi => by
      have z := s (j + 1) x ρ hx (by rw [show i + (j + 1) = i + 1 + j by omega]; exact hi)
      rw [show i + (j + 1) = i + 1 + j by omega] at z
      exact z) fun ρ hρ => k ρ (by rw [List.length_cons, show i + (xs.length + 1) = i + 1 + xs.length by omega]; exact hρ)
    refine does_bnd s0 fun o ho => ?_
    cases o with
    | next r => exact rest r ho
    | cont r => exact rest r ho
    | brk r => exact does_ret ho
    | ret d => exact does_ret ho
/-- for k in range(..), from the beginning -/
theorem for_rng {g : Tgt} {B : DS} {R : Out → Prop} {lo : Int} {n : Nat} {ρ : Rho} (I : Nat → Rho → Prop) (h0 : I 0 ρ)
    (s : ∀ (j : Nat) (ρ : Rho), j < n → I j ρ → DoesK κ (M.bnd (g (.int (lo + (j : Int))) ρ) B) fun o => match o with
      | .next r => I (j + 1) r
      | .cont r => I (j + 1) r
      | .brk r => R (.next r)
      | .ret d => R (.ret d)) (k : ∀ ρ, I n ρ → R (.next ρ)) : DoesK κ (forGo g B (intsFrom lo n) ρ) R :=
  for_does I _ 0 ρ h0 (fun j x ρ hx hi => by
    obtain ⟨rfl, hj⟩ := intsFrom_at hx
    rw [Nat.zero_add] at hi ⊢
    exact s j ρ hj hi) fun ρ h => k ρ (by rw [Nat.zero_add, intsFrom_len] at h; exact h)
/-! ### comprehensions -/
theorem comp_all {f : D → M (Option D)} {Q : Nat → D → Prop} : ∀ (xs : List D) (i : Nat), (∀ (j : Nat) (x : D), xs[j]? = some x → DoesK κ (f x) fun o => ∃ y, o = some y ∧ Q (i + j) y) →
    DoesK κ (compGo f xs) fun ys => ys.length = xs.length ∧ ∀ (j : Nat) (y : D), ys[j]? = some y → Q (i + j) y
  | [], i, _ => does_ret ⟨rfl, fun j y h => by simp at h⟩
  | x :: xs, i, h => by
    refine does_bnd (h 0 x rfl) fun o ⟨y, ho, hy⟩ => ?_
    subst ho
    refine does_bnd (comp_all (Q := Q) xs (i + 1) fun j x hx => by
      have z := h (j + 1) x hx
      rw [show i + (j + 1) = i + 1 + j by omega] at z
      exact z) fun ys hys => does_ret ?_
    refine ⟨by simp [hys.1], fun j z hz => ?_⟩
    cases j with
    | zero => simp at hz; rw [← hz]; exact hy
    | succ j =>
      have hz' : ys[j]? = some z := by simpa using hz
      have w := hys.2 j z hz'
      rw [show i + 1 + j = i + (j + 1) by omega] at w
      exact w
/-- [e for x in it], no test -/
theorem lc_all {own : List Nat} {it : DI} {g : Tgt} {e : DE} {ρ : Rho} {xs : List D} {Q : Nat → D → Prop} {P : D → Prop} (hi : DoesK κ (it ρ) (· = xs)) (hl : xs.length ≤ PySem.sizeLine)
    (h : ∀ (j : Nat) (x : D), xs[j]? = some x → DoesK κ (M.bnd (g x (wipeR ρ own)) e) (Q j)) (k : ∀ ys : List D, ys.length = xs.length → (∀ j y, ys[j]? = some y → Q j y) → P (.list ys)) : DoesK κ (dComp own it g tTrue e ρ) P := by
  refine does_eq hi ?_
  rw [if_pos hl]
  refine does_bnd (does_noerr (comp_all (Q := Q) xs 0 fun j x hx => ?_)) fun ys hys => does_ret (k ys hys.1 fun j y hy => by have z := hys.2 j y hy; rw [Nat.zero_add] at z; exact z)
  have e1 : compTurn g tTrue e (wipeR ρ own) x = M.bnd (M.bnd (g x (wipeR ρ own)) e) fun y => M.ret (some y) := by rw [bnd_bnd]; rfl
  rw [e1, Nat.zero_add]
  exact does_bnd (h j x hx) fun y hy => does_ret ⟨y, rfl, hy⟩
/-- .. a function of each item -/
theorem lc_map {own : List Nat} {it : DI} {g : Tgt} {e : DE} {ρ : Rho} {xs : List D} (F : D → D) (hi : DoesK κ (it ρ) (· = xs)) (hl : xs.length ≤ PySem.sizeLine)
    (h : ∀ x ∈ xs, DoesK κ (M.bnd (g x (wipeR ρ own)) e) (· = F x)) : DoesK κ (dComp own it g tTrue e ρ) (· = .list (xs.map F)) := by
  refine lc_all (Q := fun j y => ∃ x, xs[j]? = some x ∧ y = F x) hi hl (fun j x hx => (h x (List.mem_of_getElem? hx)).imp fun y hy => ⟨x, hx, hy⟩) fun ys h1 h2 => ?_
  congr 1
  refine List.ext_getElem? fun j => ?_
  rw [List.getElem?_map]
  by_cases hj : j < ys.length
  · obtain ⟨x, hx, hy⟩ := h2 j _ (List.getElem?_eq_getElem hj)
    rw [List.getElem?_eq_getElem hj, hx, hy]
    rfl
  · rw [List.getElem?_eq_none (by omega), List.getElem?_eq_none (by omega)]
    rfl
/-- [e for x in it if t] -/
theorem lc_filt {own : List Nat} {it : DI} {g : Tgt} {t : DT} {e : DE} {ρ : Rho} {xs : List D} (G : D → Rho) (p : D → Bool) (F : D → D) (hi : DoesK κ (it ρ) (· = xs)) (hl : xs.length ≤ PySem.sizeLine)
    (hg : ∀ x ∈ xs, g x (wipeR ρ own) = M.ret (G x)) (ht : ∀ x ∈ xs, DoesK κ (t (G x)) (· = p x)) (he : ∀ x ∈ xs, p x = true → DoesK κ (e (G x)) (· = F x)) : DoesK κ (dComp own it g t e ρ) (· = .list ((xs.filter p).map F)) := by
  refine does_eq hi ?_
  rw [if_pos hl]
  refine does_bnd (P := (· = (xs.filter p).map F)) (does_noerr ?_) fun ys hys => does_ret (by rw [hys])
  clear hi hl
  induction xs with
  | nil => exact does_ret rfl
  | cons x xs ih =>
    have ih' := ih (fun y hy => hg y (List.mem_cons_of_mem _ hy)) (fun y hy => ht y (List.mem_cons_of_mem _ hy)) (fun y hy => he y (List.mem_cons_of_mem _ hy))
    have e1 : compTurn g t e (wipeR ρ own) x = M.bnd (t (G x)) fun c => if c = true then M.bnd (e (G x)) fun y => M.ret (some y) else M.ret none := by
      unfold compTurn
      rw [hg x List.mem_cons_self]
      rfl
    show DoesK κ (M.bnd (compTurn g t e (wipeR ρ own) x) fun o => M.bnd (compGo _ xs) fun r => M.ret (o.toList ++ r)) _
    rw [e1, bnd_bnd]
    refine does_eq (ht x List.mem_cons_self) ?_
    by_cases hp : p x = true
    · rw [if_pos hp, bnd_bnd]
      refine does_eq (he x List.mem_cons_self hp) ?_
      rw [bnd_ret]
      exact does_eq ih' (does_ret (by simp [List.filter_cons, hp]))
    · rw [if_neg hp, bnd_ret]
      exact does_eq ih' (does_ret (by simp [List.filter_cons, hp]))
theorem lc_gen {own : List Nat} {it : DI} {g : Tgt} {t : DT} {e : DE} {ρ : Rho} {P : D → Prop} {PX : List D → Prop} (hi : DoesK κ (it ρ) PX) (h : ∀ xs, PX xs → xs.length ≤ PySem.sizeLine ∧ DoesK κ (compGo (compTurn g t e (wipeR ρ own)) xs) fun ys => P (.list ys)) : DoesK κ (dComp own it g t e ρ) P := by
  refine does_bnd hi fun xs hx => ?_
  obtain ⟨h1, h2⟩ := h xs hx
  rw [if_pos h1]
  exact does_bnd (does_noerr h2) fun ys hys => does_ret hys
theorem comp_turns {g : Tgt} {e : DE} {r : Rho} {xs : List D} {Q : Nat → D → Prop} (h : ∀ (j : Nat) (x : D), xs[j]? = some x → DoesK κ (M.bnd (g x r) e) (Q j)) : DoesK κ (compGo (compTurn g tTrue e r) xs) fun ys => ys.length = xs.length ∧ ∀ (j : Nat) (y : D), ys[j]? = some y → Q j y := by
  refine (comp_all (Q := Q) xs 0 fun j x hx => ?_).imp fun ys hys => ⟨hys.1, fun j y hy => by have z := hys.2 j y hy; rw [Nat.zero_add] at z; exact z⟩
  have e1 : compTurn g tTrue e r x = M.bnd (M.bnd (g x r) e) fun y => M.ret (some y) := by rw [bnd_bnd]; rfl
  rw [e1, Nat.zero_add]
  exact does_bnd (h j x hx) fun y hy => does_ret ⟨y, rfl, hy⟩
theorem list_choose {α γ : Type} : ∀ (ys : List α) (i : Nat) {Q : Nat → α → γ → Prop}, (∀ (j : Nat) (y : α), ys[j]? = some y → ∃ z, Q (i + j) y z) → ∃ zs : List γ, zs.length = ys.length ∧ ∀ (j : Nat) (y : α) (z : γ), ys[j]? = some y → zs[j]? = some z → Q (i + j) y z
  | [], i, Q, _ => ⟨[], rfl, fun j y z h => by simp at h⟩
  | y :: ys, i, Q, h => by
    obtain ⟨z, hz⟩ := h 0 y rfl
    obtain ⟨zs, h1, h2⟩ := list_choose ys (i + 1) (Q := Q) fun j y hy => by
      obtain ⟨z, hz⟩ := h (j + 1) y hy
      exact ⟨z, by rw [show i + 1 + j = i + (j + 1) by omega]; exact hz⟩
    refine ⟨z :: zs, by simp [h1], fun j y' z' hy hz' => ?_⟩
    cases j with
    | zero =>
      cases hy
      cases hz'
      exact hz
    | succ j =>
      have w := h2 j y' z' hy hz'
      rw [show i + 1 + j = i + (j + 1) by omega] at w
      exact w
theorem list_choose0 {α γ : Type} {ys : List α} {Q : Nat → α → γ → Prop} (h : ∀ (j : Nat) (y : α), ys[j]? = some y → ∃ z, Q j y z) : ∃ zs : List γ, zs.length = ys.length ∧ ∀ (j : Nat) (y : α) (z : γ), ys[j]? = some y → zs[j]? = some z → Q j y z := by
  obtain ⟨zs, h1, h2⟩ := list_choose ys 0 (Q := Q) fun j y hy => by
    rw [Nat.zero_add]
    exact h j y hy
  exact ⟨zs, h1, fun j y z hy hz => by have w := h2 j y z hy hz; rw [Nat.zero_add] at w; exact w⟩
/-- .. as a list made of what was chosen -/
theorem list_made {γ : Type} {ys : List D} (mk : γ → D) {Q : Nat → γ → Prop} (h : ∀ (j : Nat) (y : D), ys[j]? = some y → ∃ z, y = mk z ∧ Q j z) : ∃ zs : List γ, zs.length = ys.length ∧ ys = zs.map mk ∧ ∀ (j : Nat) (z : γ), zs[j]? = some z → Q j z := by
  obtain ⟨zs, h1, h2⟩ := list_choose0 (Q := fun j y z => y = mk z ∧ Q j z) h
  refine ⟨zs, h1, List.ext_getElem? fun j => ?_, fun j z hz => ?_⟩
  · rw [List.getElem?_map]
    by_cases hj : j < ys.length
    · have a := h2 j _ _ (List.getElem?_eq_getElem hj) (List.getElem?_eq_getElem (by omega : j < zs.length))
      rw [List.getElem?_eq_getElem hj, List.getElem?_eq_getElem (by omega : j < zs.length), a.1]
      rfl
    · rw [List.getElem?_eq_none (by omega), List.getElem?_eq_none (by omega)]
      rfl
  · have hj := (List.getElem?_eq_some_iff.mp hz).1
    exact (h2 j _ z (List.getElem?_eq_getElem (by omega)) hz).2
end
/-! ### draws -/
theorem does_draw {many : Int} (h : 0 < many) (h2 : many < 2 ^ 2000) : Does (F_draw [.pool, .d (.int many)]) fun d => ∃ v : Int, d = .int v ∧ 0 ≤ v ∧ v < many := fun q => by
  obtain ⟨v, q', e, a, b⟩ := draw_ok many h h2 q
  exact ⟨_, q', e, ⟨v, rfl, a, b⟩, fun z => nomatch z⟩
end Ew
namespace Ew
open PySem PySem.Spec PyProof.Rows L2
/-! ## in, list(range(..)), max, min, sum, slices -/
def fuelW : Nat := 4096
/-! ### what they compute -/
def has? (xs : List D) (d : D) : Option Bool := match d with
  | .int n => (match ints? xs with
    | some ns => some (decide (n ∈ ns))
    | none => if (d.canLay0 && PyData.canLayAll0 xs) = true ∧ d.depth < deep then some (xs.any fun y => PyData.eqv y d) else none)
  | _ => if (d.canLay0 && PyData.canLayAll0 xs) = true ∧ d.depth < deep then some (xs.any fun y => PyData.eqv y d) else none
def oHas (x y : D) : Option Bool := match y with
  | .list xs => has? xs x
  | .tuple xs => has? xs x
  | _ => none
def oIn (x y : D) : M D := match oHas x y with
  | some b => M.ret (.bool b)
  | none => M.stuck
def oNotIn (x y : D) : M D := match oHas x y with
  | some b => M.ret (.bool (!b))
  | none => M.stuck
def rgOk (i j : Int) : Bool := small62 i && small62 j && decide ((j - i).toNat ≤ 2 ^ 24)
def rgl2 (x y : D) : M D := match x, y with
  | .int i, .int j => if rgOk i j = true then M.ret (.list (intsFrom i (j - i).toNat)) else M.stuck
  | _, _ => M.stuck
def rgl1 (y : D) : M D := rgl2 (.int 0) y
def rgt2 (x y : D) : M D := match x, y with
  | .int i, .int j => if rgOk i j = true then M.ret (.tuple (intsFrom i (j - i).toNat)) else M.stuck
  | _, _ => M.stuck
def rgt1 (y : D) : M D := rgt2 (.int 0) y
/-- all of them can be compared -/
def CanMin (xs : List D) : Prop := PySem.W.AlikeAll xs ∧ PyData.plainAll xs = true ∧ PyData.depthAll xs ≤ 90
open Classical in
noncomputable def bMaxD (xs : List D) : M D := match xs with
  | y :: ys => if CanMin (y :: ys) then M.ret (PySem.W.maxD y ys) else M.stuck
  | [] => M.stuck
noncomputable def bMax (x : D) : M D := match x with
  | .list xs => (match ints? xs with
    | some (n :: ns) => M.ret (.int (ns.foldl max n))
    | _ => bMaxD xs)
  | .tuple xs => (match ints? xs with
    | some (n :: ns) => M.ret (.int (ns.foldl max n))
    | _ => M.stuck)
  | _ => M.stuck
open Classical in
noncomputable def bMinD (xs : List D) : M D := match xs with
  | y :: ys => if CanMin (y :: ys) then M.ret (PySem.W.minD y ys) else M.stuck
  | [] => M.stuck
noncomputable def bMin (x : D) : M D := match x with
  | .list xs => (match ints? xs with
    | some (n :: ns) => M.ret (.int (ns.foldl min n))
    | _ => bMinD xs)
  | _ => M.stuck
def bSum (x : D) : M D := match x with
  | .list xs => (match ints? xs with
    | some ns => M.ret (.int ns.sum)
    | _ => M.stuck)
  | _ => M.stuck
def bMax2 (x y : D) : M D := match x, y with
  | .int i, .int j => M.ret (.int (if j > i then j else i))
  | _, _ => M.stuck
def bMin2 (x y : D) : M D := match x, y with
  | .int i, .int j => M.ret (.int (if j < i then j else i))
  | _, _ => M.stuck
/-- a + b of two lists -/
def oCat (x y : D) : M D := match x, y with
  | .list xs, .list ys => if xs.length + ys.length ≤ lineMax then M.ret (.list (xs ++ ys)) else M.stuck
  | _, _ => M.stuck
def dPart (o : Option DE) : Rho → M (Option Int) := fun ρ => match o with
  | none => M.ret none
  | some e => M.bnd (e ρ) fun x => match x with
    | .int i => M.ret (some i)
    | _ => M.stuck
def cutD (xs : List D) (lo hi : Option Int) : List D := (xs.drop (HT.sIx xs.length 0 lo)).take (HT.sIx xs.length xs.length hi - HT.sIx xs.length 0 lo)
def oSl (x : D) (lo hi : Option Int) : M D := match x with
  | .list xs => M.ret (.list (cutD xs lo hi))
  | .tuple xs => M.ret (.tuple (cutD xs lo hi))
  | .str z => if z.length ≤ lineMax then M.ret (.str (L2.cutS z lo hi)) else M.stuck
  | _ => M.stuck
def dSl (a : DE) (lo hi : Option DE) : DE := fun ρ => M.bnd (a ρ) fun x => M.bnd (dPart lo ρ) fun l => M.bnd (dPart hi ρ) fun h => oSl x l h
/-! ### their rules -/
section
variable {X : Cx} {W : WX} {a b c e : Expr} {A B C : DE} {pos pos' pos2 p1 p2 : Pos}
theorem any_ints {n : Int} : ∀ {xs : List D} {ns : List Int}, ints? xs = some ns → (xs.any fun y => PyData.eqv y (.int n)) = decide (n ∈ ns)
  | [], ns, h => by cases h; rfl
  | .int i :: xs, ns, h => by
    unfold ints? at h
    cases e : ints? xs with
    | none => rw [e] at h; cases h
    | some ms =>
      rw [e] at h
      cases h
      rw [List.any_cons, any_ints e]
      have e2 : PyData.eqv (.int i) (.int n) = decide (n = i) := by
        simp only [PyData.eqv]
        by_cases hh : i = n
        · subst hh; simp
        · have h3 : ¬ n = i := fun z => hh z.symm
          simp [hh, h3]
      rw [e2]
      by_cases hh : n = i <;> simp [hh]
  | .none :: _, _, h => by cases h
  | .bool _ :: _, _, h => by cases h
  | .str _ :: _, _, h => by cases h
  | .tuple _ :: _, _, h => by cases h
  | .list _ :: _, _, h => by cases h
  | .dict _ :: _, _, h => by cases h
theorem ints_lay : ∀ {xs : List D} {ns : List Int}, ints? xs = some ns → PyData.canLayAll0 xs = true
  | [], ns, h => rfl
  | .int i :: xs, ns, h => by
    unfold ints? at h
    cases e : ints? xs with
    | none => rw [e] at h; cases h
    | some ms =>
      have z := ints_lay e
      simp [PyData.canLayAll0, PyData.canLay0, z]
  | .none :: _, _, h => by cases h
  | .bool _ :: _, _, h => by cases h
  | .str _ :: _, _, h => by cases h
  | .tuple _ :: _, _, h => by cases h
  | .list _ :: _, _, h => by cases h
  | .dict _ :: _, _, h => by cases h
theorem has_eqv {xs : List D} {d : D} {b : Bool} (h : has? xs d = some b) : d.canLay0 = true ∧ PyData.canLayAll0 xs = true ∧ d.depth < deep ∧ b = xs.any fun y => PyData.eqv y d := by
  have gen : (if (d.canLay0 && PyData.canLayAll0 xs) = true ∧ d.depth < deep then some (xs.any fun y => PyData.eqv y d) else none) = some b → d.canLay0 = true ∧ PyData.canLayAll0 xs = true ∧ d.depth < deep ∧ b = xs.any fun y => PyData.eqv y d := fun h => by
    by_cases hc : (d.canLay0 && PyData.canLayAll0 xs) = true ∧ d.depth < deep
    · rw [if_pos hc] at h
      obtain ⟨h1, h2⟩ := hc
      rw [Bool.and_eq_true] at h1
      exact ⟨h1.1, h1.2, h2, (Option.some.inj h).symm⟩
    · rw [if_neg hc] at h; cases h
  unfold has? at h
  split at h
  · split at h
    · rename_i n _ ns e
      exact ⟨by simp [PyData.canLay0], ints_lay e, by simp [PyData.depth, deep], by rw [← Option.some.inj h, any_ints e]⟩
    · exact gen h
  · exact gen h
def rHasP (K : PySem.W.Frag) (g : Bool → Bool) : R2 := fun x y H Q => ∃ Z dx dy b, Rp K Z H x dx ∧ Rp K Z H y dy ∧ oHas dx dy = some b ∧ Q (.bl (g b)) H
theorem opd_in (hu : X.A.units + deep < cLine) : OpD X W (compareOp .In) oIn := by
  refine ⟨rHasP X.K id, fun pins s σ H x y v u Q I rx ry h => ?_, fun p sc Z σ H q x y dx dy Q pl nz hx hy hp => ?_⟩
  · obtain ⟨Z, dx, dy, b, h1, h2, h3, q⟩ := h
    obtain ⟨as, r1⟩ := h1.reads I v rx
    obtain ⟨bs, r2⟩ := h2.reads I u ry
    cases dy with
    | list xs =>
      obtain ⟨e1, e2, e3, e4⟩ := has_eqv (show has? xs dx = some b from h3)
      subst e4
      exact SeqAt.in_list_reads r2 r1 e2 e1 (by omega) ⟨.bl _, H, I, rfl, q⟩
    | tuple xs =>
      obtain ⟨e1, e2, e3, e4⟩ := has_eqv (show has? xs dx = some b from h3)
      subst e4
      exact SeqAt.in_tuple_reads r2 r1 e2 e1 (by omega) ⟨.bl _, H, I, rfl, q⟩
    | _ => cases h3
  · unfold oIn at hp
    cases e : oHas dx dy with
    | none => rw [e] at hp; exact hp.elim
    | some b =>
      rw [e] at hp
      exact ⟨Z, dx, dy, b, hx, hy, e, hp _ H (Keep.refl _ _) pl (.bl _)⟩
theorem opd_notin (hu : X.A.units + deep < cLine) : OpD X W (compareOp .NotIn) oNotIn := by
  refine ⟨rHasP X.K not, fun pins s σ H x y v u Q I rx ry h => ?_, fun p sc Z σ H q x y dx dy Q pl nz hx hy hp => ?_⟩
  · obtain ⟨Z, dx, dy, b, h1, h2, h3, q⟩ := h
    obtain ⟨as, r1⟩ := h1.reads I v rx
    obtain ⟨bs, r2⟩ := h2.reads I u ry
    cases dy with
    | list xs =>
      obtain ⟨e1, e2, e3, e4⟩ := has_eqv (show has? xs dx = some b from h3)
      subst e4
      exact SeqAt.notIn_list_reads r2 r1 e2 e1 (by omega) ⟨.bl _, H, I, rfl, q⟩
    | tuple xs =>
      obtain ⟨e1, e2, e3, e4⟩ := has_eqv (show has? xs dx = some b from h3)
      subst e4
      exact SeqAt.notIn_tuple_reads r2 r1 e2 e1 (by omega) ⟨.bl _, H, I, rfl, q⟩
    | _ => cases h3
  · unfold oNotIn at hp
    cases e : oHas dx dy with
    | none => rw [e] at hp; exact hp.elim
    | some b =>
      rw [e] at hp
      exact ⟨Z, dx, dy, b, hx, hy, e, hp _ H (Keep.refl _ _) pl (.bl _)⟩
/-! list(range(..)), tuple(range(..)) -/
theorem rgV_ints (i j : Int) : rgV i j = ((List.range (j - i).toNat).map fun (k : Nat) => i + (k : Int)).map V.int := by
  unfold rgV
  rw [List.map_map]
  rfl
theorem from_ints (i : Int) (n : Nat) : intsFrom i n = ((List.range n).map fun (k : Nat) => i + (k : Int)).map PyData.int := by
  unfold intsFrom
  rw [List.map_map]
  rfl
theorem rp_rg {K : PySem.W.Frag} {Z : Rg} {H : Hp} (i j : Int) : RpL K Z H (rgV i j) (intsFrom i (j - i).toNat) := by
  rw [rgV_ints, from_ints]
  exact rp_ints _
theorem rgOk_of {i j : Int} (h : rgOk i j = true) : RgOk i j := by
  unfold rgOk at h
  rw [Bool.and_eq_true, Bool.and_eq_true] at h
  obtain ⟨⟨h1, h2⟩, h3⟩ := h
  have a := small62_ok h1
  have b := small62_ok h2
  exact ⟨a.1, a.2, b.1, b.2, of_decide_eq_true h3⟩
theorem op_rgl (i : Int) : Op1 X W (NewF X.K) (fun y H Q => ∃ n, y = .int n ∧ RgOk i n ∧ ∀ q, H q = none → Q (.ref q) (upd H q (.lst (rgV i n)))) (rgl2 (.int i)) := fun p sc Z σ H q y dy Q pl nz hy hp => by
  cases hy with
  | int n =>
    unfold rgl2 at hp
    dsimp only at hp
    by_cases h : rgOk i n = true
    · rw [if_pos h] at hp
      exact ⟨n, rfl, rgOk_of h, fun l hl => hp _ _ (new_keep hl) (new_pool hl pl) ⟨l, _, _, rfl, rfl, hl, upd_same, rp_rg i n⟩⟩
    · rw [if_neg h] at hp; exact hp.elim
  | _ => exact hp.elim
theorem op_rgt (i : Int) : Op1 X W (RpF X.K) (fun y H Q => ∃ n, y = .int n ∧ RgOk i n ∧ ∀ q, H q = none → Q (.ref q) (upd H q (.tup (rgV i n)))) (rgt2 (.int i)) := fun p sc Z σ H q y dy Q pl nz hy hp => by
  cases hy with
  | int n =>
    unfold rgt2 at hp
    dsimp only at hp
    by_cases h : rgOk i n = true
    · rw [if_pos h] at hp
      exact ⟨n, rfl, rgOk_of h, fun l hl => hp _ _ (new_keep hl) (new_pool hl pl) (.tup (.inl (.inl upd_same)) (rp_rg i n))⟩
    · rw [if_neg h] at hp; exact hp.elim
  | _ => exact hp.elim
theorem pdf_rg1 (hc : X.calm = true) (hg : Gl X "list") (hm : X.mg "list" = none) (hg2 : Gl X "range") (hm2 : X.mg "range" = none) (ha : PDe X W a A) (na : starEach [a] X.env = (false, eval a X.env) :: starEach [] X.env := by rfl)
    (nb : starEach [.Call (.Name "range" p2) [a] [] p1] X.env = (false, eval (.Call (.Name "range" p2) [a] [] p1) X.env) :: starEach [] X.env := by rfl) : PDf X W (.Call (.Name "list" pos') [.Call (.Name "range" p2) [a] [] p1] [] pos) (dUn rgl1 A) := by
  obtain ⟨t, h1, h2⟩ := ha
  exact ⟨_, pe_listRg hc hg hm (prg_1 hg2 hm2 h1 na) nb, rd_1 (X := X) (W := W) (r := fun y H Q => ∃ n, y = .int n ∧ RgOk 0 n ∧ ∀ q, H q = none → Q (.ref q) (upd H q (.lst (rgV 0 n)))) sh_new (op_rgl 0) h2⟩
theorem pd_rgt1 (hc : X.calm = true) (hg : Gl X "tuple") (hm : X.mg "tuple" = none) (hg2 : Gl X "range") (hm2 : X.mg "range" = none) (ha : PDe X W a A) (na : starEach [a] X.env = (false, eval a X.env) :: starEach [] X.env := by rfl)
    (nb : starEach [.Call (.Name "range" p2) [a] [] p1] X.env = (false, eval (.Call (.Name "range" p2) [a] [] p1) X.env) :: starEach [] X.env := by rfl) : PDe X W (.Call (.Name "tuple" pos') [.Call (.Name "range" p2) [a] [] p1] [] pos) (dUn rgt1 A) := by
  obtain ⟨t, h1, h2⟩ := ha
  exact ⟨_, pe_tupRg hc hg hm (prg_1 hg2 hm2 h1 na) nb, rd_1 (X := X) (W := W) (r := fun y H Q => ∃ n, y = .int n ∧ RgOk 0 n ∧ ∀ q, H q = none → Q (.ref q) (upd H q (.tup (rgV 0 n)))) sh_rp (op_rgt 0) h2⟩
/-! max, min, sum of a list of whole numbers -/
theorem fold_max : ∀ (ns : List Int) (n m : Int), m ∈ n :: ns → (∀ y ∈ n :: ns, y ≤ m) → ns.foldl max n = m
  | [], n, m, h, _ => by
    rw [List.mem_singleton] at h
    exact h.symm
  | k :: ns, n, m, h, h2 => by
    rw [List.foldl_cons]
    refine fold_max ns (max n k) m ?_ fun y hy => ?_
    · have a := h2 n List.mem_cons_self
      have b := h2 k (by simp)
      rcases List.mem_cons.mp h with rfl | h
      · have e : max m k = m := by omega
        rw [e]; exact List.mem_cons_self
      · rcases List.mem_cons.mp h with rfl | h
        · have e : max n m = m := by omega
          rw [e]; exact List.mem_cons_self
        · exact List.mem_cons_of_mem _ h
    · rcases List.mem_cons.mp hy with rfl | hy
      · have a := h2 n List.mem_cons_self
        have b := h2 k (by simp)
        omega
      · exact h2 y (by simp [hy])
theorem fold_min : ∀ (ns : List Int) (n m : Int), m ∈ n :: ns → (∀ y ∈ n :: ns, m ≤ y) → ns.foldl min n = m
  | [], n, m, h, _ => by
    rw [List.mem_singleton] at h
    exact h.symm
  | k :: ns, n, m, h, h2 => by
    rw [List.foldl_cons]
    refine fold_min ns (min n k) m ?_ fun y hy => ?_
    · have a := h2 n List.mem_cons_self
      have b := h2 k (by simp)
      rcases List.mem_cons.mp h with rfl | h
      · have e : min m k = m := by omega
        rw [e]; exact List.mem_cons_self
      · rcases List.mem_cons.mp h with rfl | h
        · have e : min n m = m := by omega
          rw [e]; exact List.mem_cons_self
        · exact List.mem_cons_of_mem _ h
    · rcases List.mem_cons.mp hy with rfl | hy
      · have a := h2 n List.mem_cons_self
        have b := h2 k (by simp)
        omega
      · exact h2 y (by simp [hy])
theorem boot_maxE : bootBuiltins ("max" : Str) = some (.builtin "max") := by decide +kernel
theorem boot_minE : bootBuiltins ("min" : Str) = some (.builtin "min") := by decide +kernel
theorem boot_sumE : bootBuiltins ("sum" : Str) = some (.builtin "sum") := by decide +kernel
theorem vals_at : ∀ {vs : List V} {us : List Value} {i : Nat} {v : Value}, Vals vs us → us[i]? = some v → ∃ w, vs[i]? = some w ∧ RelV w v
  | _, _, i, v, .nil, e => by simp at e
  | _, _, 0, v, .cons r _, e => by simp at e; subst e; exact ⟨_, rfl, r⟩
  | _, _, i + 1, v, .cons _ rs, e => by
    obtain ⟨w, h1, h2⟩ := vals_at (i := i) (v := v) rs (by simpa using e)
    exact ⟨w, by simpa using h1, h2⟩
def rMaxD (K : PySem.W.Frag) : List V → Hp → VK → Prop := fun xs H Q => ∃ (Z : Rg) (l : Addr) (vs : List V) (d : D) (ds : List D), xs = [.ref l] ∧ H l = some (.lst vs) ∧ RpL K Z H vs (d :: ds) ∧ CanMin (d :: ds) ∧ ∀ v : V, Rp K Z H v (PySem.W.maxD d ds) → Q v H
theorem cr_maxD (hc : X.calm = true) (hu : X.A.units + deep < cLine) : CallR X (.builtin "max") (rMaxD X.K) := by
  intro pins s σ H xs us Q I r h
  obtain ⟨Z, l, vs, d, ds, rfl, hl, rs, ⟨c1, c2, c3⟩, q⟩ := h
  rw [Vals.ref1 r]
  obtain ⟨its, rv, pl, hz⟩ := I.list (.inl (.inl hl))
  obtain ⟨as, rr⟩ := rs.reads I _ rv
  refine PySem.W.max_list_data (I.ok.hd hc) pl.isList (by simpa using rr) c1 (by unfold deep at hu; omega) fun i v h' tk bs hi hr hk => ?_
  have hi' : its[i]? = some v := by simpa using hi
  obtain ⟨w', e1, e2⟩ := vals_at rv hi'
  obtain ⟨dd, e3, e4⟩ := rs.at' e1
  obtain ⟨cs, r2⟩ := e4.reads I _ e2
  have ep : dd.plain = true := PySem.W.plain_mem c2 (List.mem_of_getElem? e3)
  have e5 : dd = PySem.W.maxD d ds := PySem.SeqAt.plain_unique dd _ v cs bs ep (PyProof.Rows.Reads.keeps hk r2) hr
  exact ⟨w', H, I.kept hk, e2, q w' (e5 ▸ e4)⟩
def rMaxT (K : PySem.W.Frag) : List V → Hp → VK → Prop := fun xs H Q => ∃ (Z : Rg) (l : Addr) (vs : List V) (n : Int) (ns : List Int), xs = [.ref l] ∧ SqT K H l vs ∧ RpL K Z H vs ((n :: ns).map .int) ∧ Q (.int (ns.foldl max n)) H
theorem alike_ints : ∀ (ns : List Int), PySem.W.AlikeAll (ns.map PyData.int) := fun ns => by
  refine ⟨fun x hx y hy => ?_, fun x hx e => ?_⟩
  · obtain ⟨i, _, rfl⟩ := List.mem_map.mp hx
    obtain ⟨j, _, rfl⟩ := List.mem_map.mp hy
    rw [PySem.W.alike]
  · obtain ⟨i, _, rfl⟩ := List.mem_map.mp hx
    cases e
theorem depthAll_ints0 : ∀ ns : List Int, PyData.depthAll (ns.map PyData.int) = 0
  | [] => by rw [List.map_nil, PyData.depthAll]
  | n :: ns => by rw [List.map_cons, PyData.depthAll, PyData.depth, depthAll_ints0 ns]; rfl
theorem cr_maxT (hc : X.calm = true) (hu : X.A.units + deep < cLine) : CallR X (.builtin "max") (rMaxT X.K) := by
  intro pins s σ H xs us Q I r h
  obtain ⟨Z, l, vs, n, ns, rfl, hl, rs, q⟩ := h
  rw [Vals.ref1 r]
  obtain ⟨its, rv, pl, hz⟩ := I.tuple hl
  obtain ⟨as, rr⟩ := rs.reads I _ rv
  refine PySem.W.max_tuple_data (I.ok.hd hc) pl (x := .int n) (xs := ns.map .int) (by simpa using rr) (alike_ints (n :: ns)) (by have := depthAll_ints0 (n :: ns); rw [List.map_cons] at this; rw [this]; unfold deep at hu; omega) fun i v h' tk bs hi hr hk => ?_
  rw [PySem.W.maxD_ints] at hr
  cases hr
  exact ⟨.int _, H, I.kept hk, ⟨_, rfl⟩, q⟩
theorem pd_max (hu : X.A.units + deep < cLine) (hc : X.calm = true) (hg : Gl X "max") (hm : X.mg "max" = none) (ha : PDe X W a A) (he : starEach [a] X.env = (false, eval a X.env) :: starEach [] X.env := by rfl) (hpl : (backTo pos (starEach [] X.env)).any (·.1) = false := by rfl) : PDe X W (.Call (.Name "max" pos') [a] [] pos) (dUn bMax A) := by
  refine pd_b1 (CallR.or (CallR.or (cr_max hc) (cr_maxD hc hu)) (cr_maxT hc hu)) (fun p sc Z σ H q x dx Q pl nz hx hp => ?_) hg hm boot_maxE ha (by decide) (by decide) he hpl
  unfold bMax at hp
  cases hx with
  | lst h1 z rs =>
    rename_i a xs ds
    dsimp only at hp
    have gen : Post X.mg p sc H (RpF X.K p Z H) (fun c od H' => W c od σ H') Q (bMaxD ds q) → rMaxD X.K [V.ref a] H Q := fun hp => by
      unfold bMaxD at hp
      cases ds with
      | nil => exact hp.elim
      | cons d ds =>
        dsimp only at hp
        by_cases hc : CanMin (d :: ds)
        · rw [if_pos hc] at hp
          exact ⟨Z, a, xs, d, ds, rfl, h1, rs, hc, fun v rv => hp v H (Keep.refl _ _) pl (rv.grow Zn.base)⟩
        · rw [if_neg hc] at hp; exact hp.elim
    cases e : ints? ds with
    | none => rw [e] at hp; exact .inl (.inr (gen hp))
    | some ns =>
      rw [e] at hp
      cases ns with
      | nil => exact .inl (.inr (gen hp))
      | cons n ns =>
        obtain ⟨rfl, rfl⟩ := ints_rp rs e
        dsimp only at hp
        exact .inl (.inl ⟨a, n :: ns, rfl, .inl (.inl h1), by simp, fun m hm hy => by rw [← fold_max ns n m hm hy]; exact hp _ H (Keep.refl _ _) pl (.int _)⟩)
  | tup h1 rs =>
    rename_i a xs ds
    dsimp only at hp
    cases e : ints? ds with
    | none => rw [e] at hp; exact hp.elim
    | some ns =>
      rw [e] at hp
      cases ns with
      | nil => exact hp.elim
      | cons n ns =>
        obtain ⟨rfl, rfl⟩ := ints_rp rs e
        dsimp only at hp
        exact .inr ⟨Z, a, _, n, ns, rfl, h1, rs, hp _ H (Keep.refl _ _) pl (.int _)⟩
  | _ => exact hp.elim
def rMinD (K : PySem.W.Frag) : List V → Hp → VK → Prop := fun xs H Q => ∃ (Z : Rg) (l : Addr) (vs : List V) (d : D) (ds : List D), xs = [.ref l] ∧ H l = some (.lst vs) ∧ RpL K Z H vs (d :: ds) ∧ CanMin (d :: ds) ∧ ∀ v : V, Rp K Z H v (PySem.W.minD d ds) → Q v H
theorem cr_minD (hc : X.calm = true) (hu : X.A.units + deep < cLine) : CallR X (.builtin "min") (rMinD X.K) := by
  intro pins s σ H xs us Q I r h
  obtain ⟨Z, l, vs, d, ds, rfl, hl, rs, ⟨c1, c2, c3⟩, q⟩ := h
  rw [Vals.ref1 r]
  obtain ⟨its, rv, pl, hz⟩ := I.list (.inl (.inl hl))
  obtain ⟨as, rr⟩ := rs.reads I _ rv
  refine PySem.W.min_list_data (I.ok.hd hc) pl.isList (by simpa using rr) c1 (by unfold deep at hu; omega) fun i v h' tk bs hi hr hk => ?_
  have hi' : its[i]? = some v := by simpa using hi
  obtain ⟨w', e1, e2⟩ := vals_at rv hi'
  obtain ⟨dd, e3, e4⟩ := rs.at' e1
  obtain ⟨cs, r2⟩ := e4.reads I _ e2
  have ep : dd.plain = true := PySem.W.plain_mem c2 (List.mem_of_getElem? e3)
  have e5 : dd = PySem.W.minD d ds := PySem.SeqAt.plain_unique dd _ v cs bs ep (PyProof.Rows.Reads.keeps hk r2) hr
  exact ⟨w', H, I.kept hk, e2, q w' (e5 ▸ e4)⟩
theorem pd_min (hu : X.A.units + deep < cLine) (hc : X.calm = true) (hg : Gl X "min") (hm : X.mg "min" = none) (ha : PDe X W a A) (he : starEach [a] X.env = (false, eval a X.env) :: starEach [] X.env := by rfl) (hpl : (backTo pos (starEach [] X.env)).any (·.1) = false := by rfl) : PDe X W (.Call (.Name "min" pos') [a] [] pos) (dUn bMin A) := by
  refine pd_b1 (CallR.or (cr_min hc) (cr_minD hc hu)) (fun p sc Z σ H q x dx Q pl nz hx hp => ?_) hg hm boot_minE ha (by decide) (by decide) he hpl
  unfold bMin at hp
  cases hx with
  | lst h1 z rs =>
    rename_i a xs ds
    dsimp only at hp
    have gen : Post X.mg p sc H (RpF X.K p Z H) (fun c od H' => W c od σ H') Q (bMinD ds q) → rMinD X.K [V.ref a] H Q := fun hp => by
      unfold bMinD at hp
      cases ds with
      | nil => exact hp.elim
      | cons d ds =>
        dsimp only at hp
        by_cases hc : CanMin (d :: ds)
        · rw [if_pos hc] at hp
          exact ⟨Z, a, xs, d, ds, rfl, h1, rs, hc, fun v rv => hp v H (Keep.refl _ _) pl (rv.grow Zn.base)⟩
        · rw [if_neg hc] at hp; exact hp.elim
    cases e : ints? ds with
    | none => rw [e] at hp; exact .inr (gen hp)
    | some ns =>
      rw [e] at hp
      cases ns with
      | nil => exact .inr (gen hp)
      | cons n ns =>
        obtain ⟨rfl, rfl⟩ := ints_rp rs e
        dsimp only at hp
        exact .inl ⟨a, n :: ns, rfl, .inl (.inl h1), by simp, fun m hm hy => by rw [← fold_min ns n m hm hy]; exact hp _ H (Keep.refl _ _) pl (.int _)⟩
  | _ => exact hp.elim
theorem pd_sum (hc : X.calm = true) (hg : Gl X "sum") (hm : X.mg "sum" = none) (ha : PDe X W a A) (he : starEach [a] X.env = (false, eval a X.env) :: starEach [] X.env := by rfl) (hpl : (backTo pos (starEach [] X.env)).any (·.1) = false := by rfl) : PDe X W (.Call (.Name "sum" pos') [a] [] pos) (dUn bSum A) := by
  refine pd_b1 (cr_sum hc) (fun p sc Z σ H q x dx Q pl nz hx hp => ?_) hg hm boot_sumE ha (by decide) (by decide) he hpl
  unfold bSum at hp
  cases hx with
  | lst h1 z rs =>
    rename_i a xs ds
    dsimp only at hp
    cases e : ints? ds with
    | none => rw [e] at hp; exact hp.elim
    | some ns =>
      rw [e] at hp
      obtain ⟨rfl, rfl⟩ := ints_rp rs e
      exact ⟨a, ns, rfl, .inl (.inl h1), hp _ H (Keep.refl _ _) pl (.int _)⟩
  | _ => exact hp.elim
theorem pd_two {x : Str} {id : String} {g : Int → Int → Int} {f : D → D → M D} (hc : CallR X (.builtin id) (fun xs H Q => ∃ i j, xs = [.int i, .int j] ∧ Q (.int (g i j)) H)) (hf : ∀ i j, f (.int i) (.int j) = M.ret (.int (g i j))) (hn' : ∀ dx dy q, (∀ i j, dx = .int i → dy ≠ .int j) → f dx dy q = .stuck)
    (hg : Gl X x) (hm : X.mg x = none) (hv : bootBuiltins x = some (.builtin id)) (ha : PDe X W a A) (hb : PDe X W b B) (hn : x ≠ "__name__") (hdb : (x == ("__debug__" : Str)) = false)
    (he : starEach [a, b] X.env = (false, eval a X.env) :: starEach [b] X.env) (he2 : starEach [b] X.env = (false, eval b X.env) :: starEach [] X.env) (hpl : (backTo pos (starEach [b] X.env)).any (·.1) = false) : PDe X W (.Call (.Name x pos') [a, b] [] pos) (dBin f A B) := by
  obtain ⟨t, h1, h2⟩ := ha
  obtain ⟨u, g1, g2⟩ := hb
  refine ⟨_, pe_callB hc hg hm hv (pa_cons h1 (pa_cons g1 pa_nil he2) he) hn hdb he hpl, ?_⟩
  exact rd_2 (X := X) (W := W) (r := fun x y H Q => ∃ i j, [x, y] = [.int i, .int j] ∧ Q (.int (g i j)) H) sh_rp (op2_ints (fun i j H Q => .inr fun q => .inr ⟨_, .int (g i j), by rw [hf]; rfl, fun _ _ => .int _, fun h => ⟨i, j, rfl, h⟩⟩) hn') h2 g2
theorem pd_max2 (hc : X.calm = true) (hg : Gl X "max") (hm : X.mg "max" = none) (ha : PDe X W a A) (hb : PDe X W b B) (he : starEach [a, b] X.env = (false, eval a X.env) :: starEach [b] X.env := by rfl) (he2 : starEach [b] X.env = (false, eval b X.env) :: starEach [] X.env := by rfl) (hpl : (backTo pos (starEach [b] X.env)).any (·.1) = false := by rfl) :
    PDe X W (.Call (.Name "max" pos') [a, b] [] pos) (dBin bMax2 A B) := pd_two (call_max2 hc) (fun i j => rfl) (fun dx dy q h => by cases dx <;> cases dy <;> first | rfl | exact absurd rfl (h _ _ rfl)) hg hm boot_maxE ha hb (by decide) (by decide) he he2 hpl
theorem pd_min2 (hc : X.calm = true) (hg : Gl X "min") (hm : X.mg "min" = none) (ha : PDe X W a A) (hb : PDe X W b B) (he : starEach [a, b] X.env = (false, eval a X.env) :: starEach [b] X.env := by rfl) (he2 : starEach [b] X.env = (false, eval b X.env) :: starEach [] X.env := by rfl) (hpl : (backTo pos (starEach [b] X.env)).any (·.1) = false := by rfl) :
    PDe X W (.Call (.Name "min" pos') [a, b] [] pos) (dBin bMin2 A B) := pd_two (call_min2 hc) (fun i j => rfl) (fun dx dy q h => by cases dx <;> cases dy <;> first | rfl | exact absurd rfl (h _ _ rfl)) hg hm boot_minE ha hb (by decide) (by decide) he he2 hpl
/-! a + b, a new list -/
theorem pdf_cat (ha : PDe X W a A) (hb : PDe X W b B) : PDf X W (.BinOp a .Add b pos) (dBin oCat A B) := by
  obtain ⟨ta, a1, a2⟩ := ha
  obtain ⟨tb, b1, b2⟩ := hb
  refine ⟨_, pe_op op_cat a1 b1, rd_2 sh_new (fun p sc Z σ H q x y dx dy Q pl nz hx hy hp => ?_) a2 b2⟩
  cases hx with
  | lst ha za ra =>
    rename_i a xs ds
    cases hy with
    | lst hb zb rb =>
      rename_i b ys es
      unfold oCat at hp
      dsimp only at hp
      by_cases hl : ds.length + es.length ≤ lineMax
      · rw [if_pos hl] at hp
        refine ⟨a, b, xs, ys, rfl, rfl, ha, hb, by rw [ra.length, rb.length]; exact hl, fun c hc => ?_⟩
        exact hp _ _ (new_keep hc) (new_pool hc pl) ⟨c, _, _, rfl, rfl, hc, upd_same, ((ra.append rb).sub fun b z n => ⟨.inl z, fun e => n (e ▸ hc)⟩).stand (new_stand hc)⟩
      · rw [if_neg hl] at hp; exact hp.elim
    | _ => exact hp.elim
  | _ => exact hp.elim
/-! slices -/
def PDo (X : Cx) (W : WX) (o : Option Expr) (F : Rho → M (Option Int)) : Prop := ∃ t, PO X o t ∧ Rd1 X W (fun _ _ _ _ v d => v = d) t F
theorem sh_eq {β : Type} : Shf (fun (_ : Addr) (_ : Rg) (_ _ : Hp) (v d : β) => v = d) := fun p sc Z H H2 H' q q2 b a k pl pl2 r => r
theorem pdo_none : PDo X W none (dPart none) := ⟨_, po_none, fun p sc Z σ H ρ q Q s hp => hp none H (Keep.refl _ _) s.pool rfl⟩
theorem pdo_some (ha : PDe X W a A) : PDo X W (some a) (dPart (some A)) := by
  obtain ⟨t, h1, h2⟩ := ha
  refine ⟨_, po_some h1, rd_1 (X := X) (W := W) (r := fun x H Q => ∃ i, x = .int i ∧ Q (some i) H) sh_eq (fun p sc Z σ H q x dx Q pl nz hx hp => ?_) h2⟩
  cases hx with
  | int i => exact ⟨i, rfl, hp _ H (Keep.refl _ _) pl rfl⟩
  | _ => exact hp.elim
theorem RpL.cut {K : PySem.W.Frag} {Z : Rg} {H : Hp} : ∀ {vs : List V} {ds : List D} (n : Nat), RpL K Z H vs ds → RpL K Z H (vs.drop n) (ds.drop n) ∧ RpL K Z H (vs.take n) (ds.take n)
  | vs, ds, 0, r => ⟨r, .nil⟩
  | _, _, n + 1, .nil => ⟨.nil, .nil⟩
  | _, _, n + 1, .cons r rs => ⟨(RpL.cut n rs).1, .cons r (RpL.cut n rs).2⟩
theorem cut_rp {K : PySem.W.Frag} {Z : Rg} {H : Hp} {vs : List V} {ds : List D} (r : RpL K Z H vs ds) (lo hi : Option Int) : RpL K Z H (cutV vs lo hi) (cutD ds lo hi) := by
  unfold cutV cutD
  rw [r.length]
  exact (RpL.cut _ (RpL.cut _ r).1).2
theorem cut_whole {vs : List V} {ds : List D} {lo hi : Option Int} (e : vs.length = ds.length) (h1 : HT.sIx vs.length 0 lo = 0) (h2 : HT.sIx vs.length vs.length hi = vs.length) : cutD ds lo hi = ds := by
  unfold cutD
  rw [← e, h1, h2]
  simp [e]
theorem pd_sl {lo hi : Option Expr} {L U : Option DE} (ha : PDe X W a A) (hl : PDo X W lo (dPart L)) (hu : PDo X W hi (dPart U)) : PDe X W (.Subscript a (.Slice lo hi none p2) pos) (dSl A L U) := by
  obtain ⟨ta, a1, a2⟩ := ha
  obtain ⟨tl, l1, l2⟩ := hl
  obtain ⟨tu, u1, u2⟩ := hu
  refine ⟨_, pe_slice (SlR.or (SlR.or sl_list sl_tupA) L2.sl_str) a1 l1 u1, ?_⟩
  refine rd_bnd (ValA := fun _ Z H v d => Rp X.K Z H v d) (f := fun ρ x => M.bnd (dPart L ρ) fun l => M.bnd (dPart U ρ) fun h => oSl x l h) (k := fun x σ H Q => tl σ H fun l H2 => tu σ H2 fun u H3 => (fun x lo hi H Q => (rSlL X.K x lo hi H Q ∨ rSlA X.K x lo hi H Q) ∨ L2.rSlS x lo hi H Q) x l u H3 Q) sh_rp (fun _ _ _ _ _ _ h => h) a2 fun p sc Z σ H ρ q x dx Q s hv hp => ?_
  refine l2 p sc Z σ H ρ q _ s ((Post.bnd (Rel := fun _ v d => v = d) (Rel' := RpF X.K p Z H) hp).to fun l H1 ⟨dl, q1, e1, k1, pl1, r1, hp1⟩ => ?_)
  have s1 := s.next k1 pl1
  subst r1
  refine u2 p sc Z σ H1 ρ q1 _ s1 ((Post.bnd (Rel := fun _ v d => v = d) (Rel' := RpF X.K p Z H) (hp1.later k1)).to fun u H2 ⟨du, q2, e2, k2, pl2, r2, hp2⟩ => ?_)
  subst r2
  have hv2 := hv.stand ((k1.trans k2).stand s.pool s.nz)
  have hp3 := hp2.later k2
  unfold oSl at hp3
  have up : ∀ {H' : Hp} {v : V} {d : D}, Rp X.K Z H' v d → Rp X.K (Zn Z H) H' v d := fun r => r.grow Zn.base
  cases hv2 with
  | lst h1 z rs =>
    refine .inl (.inl ⟨_, _, rfl, .inl (.inl h1), fun c hc => hp3 _ _ (new_keep hc) (new_pool hc pl2) ?_⟩)
    have hcH : H c = none := by
      cases e : H c with
      | none => rfl
      | some o =>
        by_cases hcp : c = p
        · subst hcp; rw [pl2.1] at hc; cases hc
        · rw [(k1.trans k2) c o hcp e] at hc; cases hc
    exact .lst upd_same (.inr hcH) (((cut_rp rs _ _).stand (new_stand hc)).grow Zn.base)
  | tup h1 rs =>
    refine .inl (.inr ⟨_, _, rfl, h1, fun hw => ?_, fun hw c hc => hp3 _ _ (new_keep hc) (new_pool hc pl2) (.tup (.inl (.inl upd_same)) (((cut_rp rs _ _).stand (new_stand hc)).grow Zn.base))⟩)
    exact hp3 _ H2 (Keep.refl _ _) pl2 (by rw [cut_whole rs.length hw.1 hw.2]; exact .tup h1 (rs.grow Zn.base))
  | str z =>
    dsimp only at hp3
    by_cases hl : z.length ≤ lineMax
    · rw [if_pos hl] at hp3
      exact .inr ⟨z, rfl, hl, hp3 _ H2 (Keep.refl _ _) pl2 (.str _)⟩
    · rw [if_neg hl] at hp3; exact hp3.elim
  | _ => exact hp3.elim
/-! a call of a def without parameters -/
def dCall0 (F : List Arg → M D) : DE := fun _ => M.noerr (F [])
theorem pd_call0 {x : Str} {F : List Arg → M D} (fn : FnD X x F) (hg : Gl X x) (hdb : (x == ("__debug__" : Str)) = false := by decide) : PDe X W (.Call (.Name x pos') [] [] pos) (dCall0 F) := by
  obtain ⟨k, n, f, fd, ps, hn, hf, hr, hm, hk, hb⟩ := fn.ex
  refine ⟨_, pe_call0 hf hr hg hm hk hb .nil passL hdb, fun p sc Z σ H ρ q Q s hp => ?_⟩
  have hp' : Post X.mg p sc H (RpF X.K p Z H) (fun c od H' => W c od σ H') Q (M.noerr (F []) q) := hp
  unfold M.noerr at hp'
  have hlen : ¬ (0 ≠ n) := fun z => by
    rw [hn [] q z] at hp'
    exact hp'
  cases e : F [] q with
  | ok a q1 =>
    rw [e] at hp'
    refine ⟨by show 0 = n; omega, p, sc, Z, q, [], s.pool, s.nz, trivial, ?_⟩
    rw [e]
    exact hp'
  | err z q1 => rw [e] at hp'; exact hp'.elim
  | stuck => rw [e] at hp'; exact hp'.elim
end
end Ew
namespace EwSort
open PySem PySem.W PySem.Calls PySem.SeqAt PyProof.Rows
/-! ## sorted(xs) of tuples, the first of them empty (there the keys are of one type) -/
section
variable {prog : Program} {w : World} {A : Around} {E : Value → Shared → Prop} {s : Shared}
theorem call_tup_lt {Q : Value → Shared → Prop} {l b : Addr} {items items2 : Array Value} {e r : Nat → Bool} (hl : s.heap.IsTuple l items) (hb : s.heap.IsTuple b items2)
    (he : ∀ j (h1 : j < items.size) (h2 : j < items2.size), SeqAt.EqAt A.in1 s items[j] items2[j] (e j)) (hr : ∀ j (h1 : j < items.size) (h2 : j < items2.size), e j = false → SeqAt.RcLt A.in1 s items[j] items2[j] (r j))
    (h : Q (.bool (SeqAt.firstLt e r (decide (items.size < items2.size)) (List.range (min items.size items2.size)))) s) : wpAny (model prog w) A (call (.builtin "tuple.__lt__") [.ref l, .ref b]) Q E s := by
  obtain ⟨⟨k1, d1, t1, z1⟩, g1, c1, n1, e1⟩ := id hl
  obtain ⟨⟨k2, d2, t2, z2⟩, g2, c2, n2, e2⟩ := id hb
  simp only at c1 e1 c2 e2
  subst c1 e1 c2 e2
  exact call_meets F.slot_tuple_lt ⟨_, g1, rfl⟩ F.entry_tuple_lt (F.args_tuple_lt_2 _ _) (SeqAt.tuple_ltAt l b items items2 n1 n2 d1 d2 z1 z2 e r) ⟨g1, g2, he, hr, h⟩
/-- one tuple against another, by their own < -/
theorem oneLt_tup {xs ys : List PyData} {a b : Value} {as bs : List Addr} {Q : Bool → Shared → Prop} (ra : Reads s.heap a (.tuple xs) as) (rb : Reads s.heap b (.tuple ys) bs) (hal : alikeAll xs ys = true)
    (hu : A.units + min (PyData.depth (.tuple xs)) (PyData.depth (.tuple ys)) < cLine) (hq : Q (dataLt (.tuple xs) (.tuple ys)) s) : wpAny (model prog w) A (oneLt' true a b) Q E s := by
  cases ra with
  | @tuple l o vs n _ as₁ h1 h2 h3 h4 =>
    cases rb with
    | @tuple l' o' vs' n' _ bs₁ k1 k2 k3 k4 =>
      have n1 : vs.size = xs.length := by simpa using SeqAt.ReadsAll.length _ _ _ h4
      have n2 : vs'.size = ys.length := by simpa using SeqAt.ReadsAll.length _ _ _ k4
      rw [dataLt_tuple, ← firstLt_toks xs ys hal, ← n1, ← n2] at hq
      rw [oneLt'_eq]
      simp only [if_true]
      refine wpAny_bind (wpAny_cRoomFor (room_here hu) ?_)
      refine wpAny_bind (wpAny_callSpecialIfBound?_slot (T := "tuple") ⟨_, h1, h2⟩ F.slot_tuple_lt (call_tup_lt (e := pairEq xs ys) (r := fun j => dataLt (xs.getD j .none) (ys.getD j .none)) ⟨_, h1, h2, _, h3⟩ ⟨_, k1, k2, _, k3⟩ (fun j j1 j2 => ?_) (fun j j1 j2 hj => ?_) ?_))
      · have z := eqAt_alikeAll xs ys A.in1 s vs.toList vs'.toList _ _ h4 k4 hal (room_in hu) j (by simpa using j1) (by simpa using j2)
        simpa using z
      · have z := rcLt_alikeAll xs ys A.in1 s vs.toList vs'.toList _ _ h4 k4 hal (room_in hu) j (by simpa using j1) (by simpa using j2) hj
        simpa using z
      · exact wpAny_truthy_bool hq
/-- the firsts of tuples, some of them empty -/
theorem firsts_any {M : Model} : ∀ {vs : List Value} {ds : List PyData}, EachIs (fun v d => ∃ as, Reads s.heap v d as) vs ds → (∀ d ∈ ds, ∃ xs, d = .tuple xs) → ∃ fs : List (Option Value), fs.length = vs.length ∧ (∀ r, ds = .tuple [] :: r → fs[0]? = some none) ∧
    ∀ (E : Value → Shared → Prop) (Q : List (Option Value) → Shared → Prop), Q fs s → wpAny M A (vs.mapM firstOfTuple') Q E s
  | _, _, .nil, _ => by
    refine ⟨[], rfl, (fun r e => nomatch e), fun E Q h => ?_⟩
    rw [List.mapM_nil]
    exact wpAny_pure h
  | v :: vs, d :: ds, .cons ⟨as, r⟩ t, ht => by
    obtain ⟨fs, h1, h2, h3⟩ := firsts_any (M := M) t fun d hd => ht d (List.mem_cons_of_mem _ hd)
    obtain ⟨xs, rfl⟩ := ht _ List.mem_cons_self
    cases r with
    | @tuple a o its n _ _ ho hc hd hr =>
      refine ⟨its[0]? :: fs, by simp [h1], fun r e => ?_, fun E Q h => ?_⟩
      · cases e
        have hz : its.toList = [] := by
          cases q : its.toList with
          | nil => rfl
          | cons f fr => rw [q] at hr; cases hr
        have : its[0]? = none := by rw [← Array.getElem?_toList, hz]; rfl
        simp [this]
      · rw [List.mapM_cons]
        refine wpAny_bind ?_
        rw [kas_first_eq]
        refine wpAny_bind (Looks.here (show Looks M s.heap (typeOf (.ref a)) o.cls from (Looks.ld ho).andThen .now) ?_)
        rw [hc, if_neg (by first | decide | simp)]
        refine wpAny_bind (listItems_at ho hd (wpAny_pure ?_))
        exact wpAny_bind (h3 _ (fun bs s' => wpAny M A (pure (its[0]? :: bs)) Q E s') (wpAny_pure h))
/-- tuples, the first one empty: their keys are of one type -/
theorem sortsAt_tups {vs : List Value} {ds : List PyData} (e : EachIs (fun v d => ∃ as, Reads s.heap v d as) vs ds) (hal : AllAlike ds) (ht : ∀ d ∈ ds, ∃ xs, d = .tuple xs) {r0 : List PyData} (h0 : ds = .tuple [] :: r0) (hu : ∀ d, d ∈ ds → A.units + d.depth < cLine) : SortsAt prog w A s (dataKind s.heap ds) vs := by
  refine ⟨fun v hv => ?_, oneType', ?_, fun h2 E Q hq => ?_⟩
  · obtain ⟨d, hd, as, r⟩ := e.left v hv
    exact ⟨_, dataKind_some hal hd r⟩
  · intro E x y a b Q ha hb hq
    obtain ⟨d, as, hd, ra, rfl⟩ := dataKind_inv ha
    obtain ⟨d', as', hd', rb, rfl⟩ := dataKind_inv hb
    obtain ⟨x1, rfl⟩ := ht d hd
    obtain ⟨x2, rfl⟩ := ht d' hd'
    rw [keyLt'_oneType]
    exact oneLt_tup ra rb (by simpa [alike] using hal _ hd _ hd') (Nat.lt_of_le_of_lt (Nat.add_le_add_left (Nat.min_le_left _ _) _) (hu _ hd)) hq
  · obtain ⟨fs, f1, f2, f3⟩ := firsts_any (A := A) (M := model prog w) e ht
    have f0 := f2 r0 h0
    obtain ⟨fr, rfl⟩ : ∃ fr, fs = none :: fr := by
      match fs, f0 with
      | none :: fr, _ => exact ⟨fr, rfl⟩
    have looks : ∀ v ∈ vs, Looks (model prog w) s.heap (typeOf v) (.type "tuple") := fun v hv => by
      obtain ⟨d, hd, as, r⟩ := e.left v hv
      obtain ⟨xs, rfl⟩ := ht d hd
      exact looks_reads r
    obtain ⟨v₁, rest, rfl⟩ : ∃ v₁ rest, vs = v₁ :: rest := by
      match vs, h2 with
      | [], h2 => simp at h2
      | v :: r, _ => exact ⟨v, r, rfl⟩
    rw [keyKind'_eq, List.mapM_toArray, map_eq_pure_bind]
    refine wpAny_bind (wpAny_bind (f3 _ _ (wpAny_pure ?_)))
    rw [if_neg (by simp), if_neg (by simp)]
    rw [oneTypeOnly'_eq, List.mapM_toArray, map_eq_pure_bind]
    refine wpAny_bind (wpAny_bind (wpAny_bind (kas_mapM (r := Value.type "tuple") _ (fun v hv Q' hq => (looks v hv).here hq) (wpAny_pure ?_))))
    have hall : ((List.map (fun _ => Value.type "tuple") (v₁ :: rest)).toArray.all fun x => x == Value.type "tuple") = true := by
      simp only [List.all_toArray, List.all_map, List.all_eq_true]
      intro _ _
      exact beq_self_eq_true _
    have h00 : (List.map (fun _ => Value.type "tuple") (v₁ :: rest)).toArray[0]? = some (Value.type "tuple") := by simp
    rw [h00]
    simp only [hall, if_true]
    exact wpAny_pure (wpAny_pure hq)
/-- sorted(xs) -/
theorem sorted_rows {β : Type} {l : Addr} {vs : List Value} {bs : List β} {enc : β → PyData} {R : Value → β → Prop} {Q : Value → Shared → Prop} (hl : s.heap.IsList l vs.toArray) (e : EachIs R vs bs) (er : EachIs (fun v b => ∃ as, Reads s.heap v (enc b) as) vs bs) (hal : AllAlike (bs.map enc))
    (hk : Sortable (bs.map enc) ∨ ((∀ d ∈ bs.map enc, ∃ xs, d = .tuple xs) ∧ ∃ r, bs.map enc = .tuple [] :: r)) (hL : bs.length ≤ sizeLine) (hu : ∀ b, b ∈ bs → A.units + 2 + (enc b).depth < cLine)
    (h : ∀ out, out.length = bs.length → EachIs R out (bs.mergeSort (dataLe false enc)) → Q (.ref (s.heap.objs.size + 1)) { s with heap := sortedAll s.heap vs (List.toArray out) }) : wpAny (model prog w) A (call (.builtin "sorted") [.ref l]) Q E s := by
  rcases hk with hk | ⟨ht, r0, h0⟩
  · exact sorted_data hl e er hal hk hL hu h
  · have er' : EachIs (fun v b => ∃ as, Reads (sortingHeap (copyHeap s.heap vs) (s.heap.objs.size + 1) vs) v (enc b) as) vs bs := er.mono fun _ _ ⟨as, r⟩ => ⟨as, PyProof.Rows.Reads.keeps (fun _ _ => sorting_copy_old) r⟩
    refine sorted_vals hl (sortsAt_tups (s := { s with heap := sortingHeap (copyHeap s.heap vs) (s.heap.objs.size + 1) vs }) (each_map (R := fun v d => ∃ as, Reads (sortingHeap (copyHeap s.heap vs) (s.heap.objs.size + 1) vs) v d as) enc er') hal ht h0 (bound_map hu)) (by rw [e.length]; exact hL) ?_
    exact h _ (by rw [sortVals_length false rfl]; exact e.length) (sortVals_data false e er' hal)
end
end EwSort
namespace Ew
open PySem PySem.Spec PyProof.Rows L2
/-! ## sorted(xs) of data -/
/-- data that sorted takes -/
def CanSort (xs : List D) : Prop := PySem.W.AllAlike xs ∧ (PySem.W.Sortable xs ∨ ((∀ d ∈ xs, ∃ ys, d = .tuple ys) ∧ ∃ r, xs = .tuple [] :: r)) ∧ xs.length ≤ sizeLine ∧ ∀ d ∈ xs, d.depth ≤ 90
def leD (x y : D) : Bool := PySem.W.dataLe false id x y
open Classical in
noncomputable def bSorted (x : D) : M D := match x with
  | .list xs => if CanSort xs then M.ret (.list (xs.mergeSort leD)) else M.stuck
  | _ => M.stuck
section
variable {X : Cx} {W : WX} {a : Expr} {A : DE} {pos pos' : Pos}
theorem each_zip {pins : List (Addr × Obj)} {σ : L2.St} {H : Hp} {s : Shared} {Z : Rg} (I : Inv X pins σ H s) : ∀ {vs : List V} {ds : List D} {its : List Value}, RpL X.K Z H vs ds → Vals vs its →
    PySem.W.EachIs (fun (v : Value) (b : V × D) => RelV b.1 v) its (vs.zip ds) ∧ PySem.W.EachIs (fun (v : Value) (b : V × D) => ∃ as, Reads s.heap v b.2 as) its (vs.zip ds)
  | _, _, _, .nil, .nil => ⟨.nil, .nil⟩
  | _, _, _, .cons r rs, .cons q qs => by
    obtain ⟨h1, h2⟩ := each_zip I rs qs
    obtain ⟨as, h3⟩ := r.reads I _ q
    exact ⟨.cons q h1, .cons ⟨as, h3⟩ h2⟩
theorem zip_rp {K : PySem.W.Frag} {Z : Rg} {H : Hp} : ∀ {vs : List V} {ds : List D}, RpL K Z H vs ds → ∀ b ∈ vs.zip ds, Rp K Z H b.1 b.2
  | _, _, .nil, b, hb => by cases hb
  | _, _, .cons r rs, b, hb => by
    rcases List.mem_cons.mp hb with rfl | hb
    · exact r
    · exact zip_rp rs b hb
theorem rp_pairs {K : PySem.W.Frag} {Z : Rg} {H : Hp} : ∀ ps : List (V × D), (∀ b ∈ ps, Rp K Z H b.1 b.2) → RpL K Z H (ps.map (·.1)) (ps.map (·.2))
  | [], _ => .nil
  | p :: ps, h => .cons (h p List.mem_cons_self) (rp_pairs ps fun b hb => h b (List.mem_cons_of_mem _ hb))
theorem each_vals : ∀ {out : List Value} {ps : List (V × D)}, PySem.W.EachIs (fun (v : Value) (b : V × D) => RelV b.1 v) out ps → Vals (ps.map (·.1)) out
  | _, _, .nil => .nil
  | _, _, .cons r rs => .cons r (each_vals rs)
def rSortD (K : PySem.W.Frag) : List V → Hp → VK → Prop := fun xs H Q => ∃ (Z : Rg) (l : Addr) (vs : List V) (ds : List D), xs = [.ref l] ∧ H l = some (.lst vs) ∧ RpL K Z H vs ds ∧ CanSort ds ∧
  ∀ (p : Addr) (ws : List V), H p = none → RpL K Z H ws (ds.mergeSort leD) → Q (.ref p) (upd H p (.lst ws))
theorem cr_sortD (hu : X.A.units + deep < cLine) : CallR X (.builtin "sorted") (rSortD X.K) := by
  intro pins s σ H xs us Q I r h
  obtain ⟨Z, l, vs, ds, rfl, hl, rs, ⟨c1, c2, c3, c4⟩, q⟩ := h
  rw [Vals.ref1 r]
  obtain ⟨its, rv, pl, hz⟩ := I.list (.inl (.inl hl))
  obtain ⟨e1, e2⟩ := each_zip I rs rv
  have hlen : vs.length = ds.length := rs.length
  have hm : (vs.zip ds).map (·.2) = ds := List.map_snd_zip (by omega)
  refine EwSort.sorted_rows (enc := fun b : V × D => b.2) (bs := vs.zip ds) pl.isList e1 e2 (by rw [hm]; exact c1) (by rw [hm]; exact c2) (by rw [List.length_zip]; omega) (fun b hb => ?_) fun out ho eo => ?_
  · have hd := c4 b.2 (by rw [← hm]; exact List.mem_map_of_mem hb)
    unfold deep at hu
    omega
  · have ms : ((vs.zip ds).mergeSort (PySem.W.dataLe false fun b : V × D => b.2)).map (·.2) = ds.mergeSort leD := by
      have z := List.map_mergeSort (r := PySem.W.dataLe false fun b : V × D => b.2) (s := leD) (f := fun b : V × D => b.2) (l := vs.zip ds) (fun a _ b _ => rfl)
      rw [hm] at z
      exact z
    have rp : RpL X.K Z H (((vs.zip ds).mergeSort (PySem.W.dataLe false fun b : V × D => b.2)).map (·.1)) (ds.mergeSort leD) := by
      rw [← ms]
      exact rp_pairs _ fun b hb => zip_rp rs b ((List.mergeSort_perm _ _).mem_iff.mp hb)
    generalize ((vs.zip ds).mergeSort (PySem.W.dataLe false fun b : V × D => b.2)) = ps at eo rp ms
    have hn : H (s.heap.objs.size + 1) = none := I.hok.fresh (Nat.le_succ _)
    obtain ⟨c, hc⟩ := PyProof.Rows.sortedAll_at s.heap its out.toArray
    have k : ∀ b o, s.heap.get? b = some o → (PyProof.Rows.sortedAll s.heap its out.toArray).get? b = some o := fun b o e => PyProof.Rows.sortedAll_old e
    have hps : ps.length = ds.length := by
      have z := congrArg List.length ms
      rw [List.length_map, List.length_mergeSort] at z
      exact z
    have J : Inv X pins σ (upd H (s.heap.objs.size + 1) (.lst (ps.map (·.1)))) { s with heap := PyProof.Rows.sortedAll s.heap its out.toArray, gens := s.gens, drawn := s.drawn, toks := s.toks } :=
      I.call (ch := []) (Un.laid k (Nat.le_succ _) hn) (I.hok.laid k (Nat.le_succ _) ⟨by rw [List.length_map]; omega, out, c, each_vals eo, by rw [hc]⟩) I.bare (fun _ z => nomatch z)
    exact ⟨.ref _, _, J, rfl, q _ _ hn rp⟩
theorem pdf_sorted (hu : X.A.units + deep < cLine) (hg : Gl X "sorted") (hm : X.mg "sorted" = none) (ha : PDe X W a A) (he : starEach [a] X.env = (false, eval a X.env) :: starEach [] X.env := by rfl) (hpl : (backTo pos (starEach [] X.env)).any (·.1) = false := by rfl) :
    PDf X W (.Call (.Name "sorted" pos') [a] [] pos) (dUn bSorted A) := by
  refine pdf_b1 (cr_sortD hu) (fun p sc Z σ H q x dx Q pl nz hx hp => ?_) hg hm boot_sortedE ha (by decide) (by decide) he hpl
  unfold bSorted at hp
  cases hx with
  | lst h1 z rs =>
    rename_i l0 vs0 ds0
    dsimp only at hp
    by_cases hc : CanSort ds0
    · rw [if_pos hc] at hp
      refine ⟨Z, _, _, _, rfl, h1, rs, hc, fun c ws hcn rw' => hp _ _ (new_keep hcn) (new_pool hcn pl) ⟨c, ws, _, rfl, rfl, hcn, upd_same, ?_⟩⟩
      exact (rw'.sub fun b z n => ⟨.inl z, fun e => n (e ▸ hcn)⟩).stand (new_stand hcn)
    · rw [if_neg hc] at hp; exact hp.elim
  | _ => exact hp.elim
end
end Ew
namespace Ew
open PySem PySem.Spec PyProof.Rows L2
/-! ## extend, constants of a module -/
def sExt (i : Nat) (e : DE) : DS := fun ρ => match ρ[i]? with
  | some (some (.own ds)) => M.bnd (e (hideR ρ)) fun d => (match d with
    | .list es => if ds.length + es.length ≤ lineMax then M.ret (.next (ρ.set i (some (.own (ds ++ es))))) else M.stuck
    | _ => M.stuck)
  | _ => M.stuck
def sExtF (i : Nat) (e : DE) : DS := fun ρ => match ρ[i]? with
  | some (some (.own ds)) => M.bnd (e ρ) fun d => (match d with
    | .list es => if ds.length + es.length ≤ lineMax ∧ flatAll es = true then M.ret (.next (ρ.set i (some (.own (ds ++ es))))) else M.stuck
    | _ => M.stuck)
  | _ => M.stuck
section
variable {X : Cx} {W : WX} {F : DE} {pos : Pos}
theorem pd_gint {x : Str} {i : Int} (hg : Gl X x) (hm : ∃ t, X.mg x = some (.int i t)) (hd : (x == ("__debug__" : Str)) = false := by decide) : PDe X W (.Name x pos) (dC (.int i)) := by
  obtain ⟨t, hm⟩ := hm
  exact pd_glob (v := .int i) hg hm ⟨t, rfl⟩ (fun _ _ => .int i) hd
theorem pd_gstr {x : Str} {z : Str} (hg : Gl X x) (hm : ∃ t, X.mg x = some (.str z t)) (hd : (x == ("__debug__" : Str)) = false := by decide) : PDe X W (.Name x pos) (dC (.str z)) := by
  obtain ⟨t, hm⟩ := hm
  exact pd_glob (v := .str z) hg hm ⟨t, rfl⟩ (fun _ _ => .str z) hd
/-- name.extend(e) -/
theorem sd_ext {i : Nat} {x : Str} {a0 : Expr} {p1 p2 p3 p4 : Pos} (ha : PDe X W a0 F) (hN : X.N[i]? = some x := by rfl) (hv : Vis X.env.scope x := by first | exact Or.inl rfl | exact Or.inr (Or.inl rfl) | exact Or.inr (Or.inr rfl))
    (hd : (x == ("__debug__" : Str)) = false := by decide) (hcd : (x == ("__classdict__" : Str)) = false := by decide)
    (hbase : attributeBase (.Name x p1) "extend" X.env (eval (.Name x p1) X.env) = eval (.Name x p1) X.env := by rfl)
    (hfew : ((backTo p3 (starEach (a0 :: []) X.env)).all (fun x => !x.1) && (backToKw p3 (keywordEach [] X.env)).all (fun x => x.1.isSome)
      && decide ((a0 :: []).length + ([] : List Keyword).length + (if ([] : List Keyword).isEmpty then 0 else 1) < 30)) = true := by rfl)
    (hline : (p2.endLine == p3.line) = true := by rfl) (hs : starEach (a0 :: []) X.env = (false, eval a0 X.env) :: starEach [] X.env := by rfl) (hplain : (backTo p3 (starEach [] X.env)).any (·.1) = false := by rfl)
    (hsw : swapsWith (.Call (.Attribute (.Name x p1) "extend" p2) [a0] [] p3) none p4.line X.env = pure false := by rfl) :
    PSd X W (.Expr (.Call (.Attribute (.Name x p1) "extend" p2) [a0] [] p3) p4) (sExt i F) ∧ PSd X W (.Expr (.Call (.Attribute (.Name x p1) "extend" p2) [a0] [] p3) p4) (sExtF i F) := by
  obtain ⟨t, h1, h2⟩ := ha
  have hps := ps_expr (X := X) (pos := p4) (pe_bm PySem.F.plainAttrs_list PySem.F.slot_list_extend PySem.F.type_list_extend mt_extend (pe_var (pos := p1) hN hv hd hcd) (pa_cons h1 pa_nil hs) hbase hfew hline hs hplain) hsw
  refine ⟨⟨_, hps, fun p sc Z0 H0 Z σ H ρ q E b h => ?_⟩, ⟨_, hps, fun p sc Z0 H0 Z σ H ρ q E b h => ?_⟩⟩
  · unfold sExt at h
    cases e : ρ[i]? with
    | none => rw [e] at h; exact h.elim
    | some o =>
      cases o with
      | none => rw [e] at h; exact h.elim
      | some sl =>
        cases sl with
        | own ds =>
          rw [e] at h
          dsimp only at h
          obtain ⟨a', vs', h1', h2', h3', h4', h5'⟩ := b.slot i _ e
          refine ⟨.ref a', h1', .inl ⟨rfl, _, .inl (.inl h2')⟩, ?_⟩
          refine h2 p sc _ σ H (hideR ρ) q _ b.sitH (PostS.ex (Rel := fun H' v d => Rp X.K (Zn Z H) H' v d) b h fun d q1 v H1 e1 k pl r hp => ?_)
          have b1 := b.after k pl
          cases r with
          | lst u1 u2 u3 =>
            rename_i b0 zs es
            dsimp only at hp
            by_cases hl : ds.length + es.length ≤ lineMax
            · rw [if_pos hl] at hp
              obtain ⟨a'', vs, g1, g2, g3, g4, g5⟩ := b1.slot i _ e
              rw [h1'] at g1; cases g1
              have z := b1.chOwn e h1' g2 (g5.append (u3.sub fun c z n => ⟨z, n⟩))
              exact ⟨a', b0, vs, zs, rfl, rfl, g2, u1, by rw [g5.length, u3.length]; exact hl, hp _ σ _ z.1 (fun c z => ⟨.inl z, (b.next k pl).zs c z⟩) (z.2.sub fun c z => ⟨.inl z, (b.next k pl).zs c z⟩)⟩
            · rw [if_neg hl] at hp; exact hp.elim
          | _ => exact hp.elim
        | dat d => rw [e] at h; exact h.elim
        | pool => rw [e] at h; exact h.elim
        | odic d => rw [e] at h; exact h.elim
  · unfold sExtF at h
    cases e : ρ[i]? with
    | none => rw [e] at h; exact h.elim
    | some o =>
      cases o with
      | none => rw [e] at h; exact h.elim
      | some sl =>
        cases sl with
        | own ds =>
          rw [e] at h
          dsimp only at h
          obtain ⟨a', vs', h1', h2', h3', h4', h5'⟩ := b.slot i _ e
          refine ⟨.ref a', h1', .inl ⟨rfl, _, .inl (.inl h2')⟩, ?_⟩
          refine h2 p sc _ σ H ρ q _ b.sit (PostS.ex (Rel := fun H' v d => Rp X.K (Zn (Zo Z σ ρ) H) H' v d) b h fun d q1 v H1 e1 k pl r hp => ?_)
          have b1 := b.next k pl
          cases r with
          | lst u1 u2 u3 =>
            rename_i b0 zs es
            dsimp only at hp
            by_cases hl : ds.length + es.length ≤ lineMax ∧ flatAll es = true
            · rw [if_pos hl] at hp
              obtain ⟨a'', vs, g1, g2, g3, g4, g5⟩ := b1.slot i _ e
              rw [h1'] at g1; cases g1
              have z := b1.chOwn e h1' g2 (g5.append (u3.flat hl.2))
              exact ⟨a', b0, vs, zs, rfl, rfl, g2, u1, by rw [g5.length, u3.length]; exact hl.1, hp _ σ _ z.1 (fun c z => z) z.2⟩
            · rw [if_neg hl] at hp; exact hp.elim
          | _ => exact hp.elim
        | dat d => rw [e] at h; exact h.elim
        | pool => rw [e] at h; exact h.elim
        | odic d => rw [e] at h; exact h.elim
/-! list(range(a, b)) -/
theorem op_rgl2 : Op2 X W (NewF X.K) (fun x y H Q => ∃ i j, x = .int i ∧ y = .int j ∧ RgOk i j ∧ ∀ q, H q = none → Q (.ref q) (upd H q (.lst (rgV i j)))) rgl2 := fun p sc Z σ H q x y dx dy Q pl nz hx hy hp => by
  cases hx with
  | int i =>
    obtain ⟨n, e1, e2, e3⟩ := op_rgl (X := X) (W := W) i p sc Z σ H q y dy Q pl nz hy hp
    exact ⟨i, n, rfl, e1, e2, e3⟩
  | _ => exact hp.elim
theorem pdf_rg2 {a b : Expr} {A B : DE} {p1 p2 pos' : Pos} (hc : X.calm = true) (hg : Gl X "list") (hm : X.mg "list" = none) (hg2 : Gl X "range") (hm2 : X.mg "range" = none) (ha : PDe X W a A) (hb : PDe X W b B) (na : starEach [a, b] X.env = (false, eval a X.env) :: starEach [b] X.env := by rfl)
    (nb' : starEach [b] X.env = (false, eval b X.env) :: starEach [] X.env := by rfl) (hpl : (backTo p1 (starEach [b] X.env)).any (·.1) = false := by rfl)
    (nb : starEach [.Call (.Name "range" p2) [a, b] [] p1] X.env = (false, eval (.Call (.Name "range" p2) [a, b] [] p1) X.env) :: starEach [] X.env := by rfl) : PDf X W (.Call (.Name "list" pos') [.Call (.Name "range" p2) [a, b] [] p1] [] pos) (dBin rgl2 A B) := by
  obtain ⟨t, h1, h2⟩ := ha
  obtain ⟨u, g1, g2⟩ := hb
  exact ⟨_, pe_listRg hc hg hm (prg_2 hg2 hm2 h1 g1 na nb' hpl) nb, rd_2 (X := X) (W := W) sh_new op_rgl2 h2 g2⟩
end
/-! ### an own list is shared from here on -/
def sFrz (i : Nat) (S : DS) : DS := fun ρ => match ρ[i]? with
  | some (some (.own ds)) => S (ρ.set i (some (.dat (.list ds))))
  | some (some (.dat _)) => S ρ
  | _ => M.stuck
section
variable {K : PySem.W.Frag} {mg : Str → Option Value} {p sc : Addr} {Z0 Z : Rg} {H0 H : Hp} {σ : L2.St} {ρ : Rho} {q : Pool} {W : WX}
theorem BR.frz (b : BR K p sc Z0 H0 Z σ H ρ q) {i : Nat} {ds : List D} (h : ρ[i]? = some (some (.own ds))) : ∃ a, σ[i]? = some (some (.ref a)) ∧ BR K p sc Z0 H0 (fun c => Z c ∨ c = a) σ H (ρ.set i (some (.dat (.list ds)))) q := by
  obtain ⟨a, vs, h1, h2, h3, h4, h5⟩ := b.slot i _ h
  obtain ⟨a', m1, m2, m3, m4, m5, m6⟩ := b.mine h rfl
  rw [h1] at m1
  cases m1
  have hlt : i < ρ.length := (List.getElem?_eq_some_iff.mp h).1
  refine ⟨a, h1, b.keep, b.pool0, b.pool, b.nz0, ?_, ?_, ?_, ?_, fun j s e => ?_, fun j k c s t jk e1 n1 e2 n2 g1 g2 => ?_⟩
  · rintro (z | z)
    · exact b.nz z
    · exact m5 z.symm
  · rintro c (z | z)
    · exact b.zs c z
    · rw [z]; exact m4
  · rintro c (z | z)
    · exact b.zz c z
    · rw [z]; exact .inr h4
  · rw [List.length_set]; exact b.len
  · by_cases hj : j = i
    · subst hj
      rw [List.getElem?_set_self hlt] at e
      cases e
      exact ⟨.ref a, h1, .lst h2 (.inr rfl) (h5.grow fun c z => .inl z)⟩
    · rw [List.getElem?_set_ne (Ne.symm hj)] at e
      have z := b.slot j s e
      cases s with
      | dat d =>
        obtain ⟨v, u1, u2⟩ := z
        exact ⟨v, u1, u2.grow fun c z => .inl z⟩
      | pool => exact z
      | own es =>
        obtain ⟨c, ws, u1, u2, u3, u4, u5⟩ := z
        refine ⟨c, ws, u1, u2, ?_, u4, u5.grow fun c z => .inl z⟩
        rintro (y | y)
        · exact u3 y
        · exact b.dist j i c _ _ hj e rfl h rfl u1 (by rw [y]; exact h1)
      | odic kvs =>
        obtain ⟨c, ks, u1, u2, u3, u4, u5, u6⟩ := z
        refine ⟨c, ks, u1, u2, ?_, u4, u5, u6.grow fun c z => .inl z⟩
        rintro (y | y)
        · exact u3 y
        · exact b.dist j i c _ _ hj e rfl h rfl u1 (by rw [y]; exact h1)
  · have ne : ∀ (j : Nat) (s : Slot), (ρ.set i (some (.dat (.list ds))))[j]? = some (some s) → s.mine = true → ρ[j]? = some (some s) := fun j s e n => by
      by_cases hj : j = i
      · subst hj
        rw [List.getElem?_set_self hlt] at e
        cases e
        cases n
      · rw [List.getElem?_set_ne (Ne.symm hj)] at e
        exact e
    exact b.dist j k c s t jk (ne j s e1 n1) n1 (ne k t e2 n2) n2 g1 g2
end
section
variable {X : Cx} {W : WX} {st : Stmt} {A : DS}
theorem sd_frz {i : Nat} (h : PSd X W st A) : PSd X W st (sFrz i A) := by
  obtain ⟨t, h1, h2⟩ := h
  refine ⟨t, h1, fun p sc Z0 H0 Z σ H ρ q E b hp => ?_⟩
  unfold sFrz at hp
  cases e : ρ[i]? with
  | none => rw [e] at hp; exact hp.elim
  | some o =>
    cases o with
    | none => rw [e] at hp; exact hp.elim
    | some sl =>
      cases sl with
      | own ds =>
        rw [e] at hp
        obtain ⟨a, _, b'⟩ := b.frz e
        exact h2 p sc Z0 H0 _ σ H _ q E b' (PostS.later hp (fun c z => .inl z) (Stand.refl _ _))
      | dat d => rw [e] at hp; exact h2 p sc Z0 H0 _ σ H _ q E b hp
      | pool => rw [e] at hp; exact hp.elim
      | odic kvs => rw [e] at hp; exact hp.elim
end
end Ew
namespace Ew
open PySem PySem.Spec PyProof.Rows L2
/-! ## all, any, zip, reversed, ranges with a step, xs[i] = v, a, b = b, a, x += e, what never runs -/
def bools? : List D → Option (List Bool)
  | [] => some []
  | .bool b :: r => (bools? r).map (b :: ·)
  | _ :: _ => none
def bAll (x : D) : M D := match x with
  | .list xs => (match bools? xs with
    | some bs => M.ret (.bool (bs.all id))
    | none => M.stuck)
  | _ => M.stuck
def bAny (x : D) : M D := match x with
  | .list xs => (match bools? xs with
    | some bs => M.ret (.bool (bs.any id))
    | none => M.stuck)
  | _ => M.stuck
def zipD : List D → List D → List D
  | x :: xs, y :: ys => .tuple [x, y] :: zipD xs ys
  | _, _ => []
def zip2 (x y : D) : M (List D) := match x, y with
  | .list xs, .list ys => M.ret (zipD xs ys)
  | .tuple xs, .tuple ys => M.ret (zipD xs ys)
  | _, _ => M.stuck
def iZp (a b : DE) : DI := fun ρ => M.bnd (a ρ) fun x => M.bnd (b ρ) fun y => zip2 x y
def iRevD (a : DE) : DI := fun ρ => M.bnd (a ρ) fun x => match x with
  | .list xs => M.ret xs.reverse
  | .tuple xs => M.ret xs.reverse
  | _ => M.stuck
def rgN (i j c : Int) : Nat := (Builtin.Range.rangeSize i j c).toNat
def rgC (i j c : Int) : Bool := decide (c ≠ 0) && decide (c.natAbs < 1073741824) && Builtin.Range.small i j c && decide (Builtin.Range.rangeSize i j c = (rgN i j c : Int))
def rng3 (x y z : D) : M (List D) := match x, y, z with
  | .int i, .int j, .int c => if rgC i j c = true then M.ret ((List.range (rgN i j c)).map fun (k : Nat) => .int (i + (k : Int) * c)) else M.stuck
  | _, _, _ => M.stuck
def iR3 (a b c : DE) : DI := fun ρ => M.bnd (a ρ) fun x => M.bnd (b ρ) fun y => M.bnd (c ρ) fun z => rng3 x y z
/-- xs[k] = e of a list of one's own -/
def setGo (i : Nat) (ds : List D) (d : D) (ρ : Rho) (j : D) : M Out := match j with
  | .int n => (match ixN ds.length n with
    | some m => M.ret (.next (ρ.set i (some (.own (ds.set m d)))))
    | none => M.stuck)
  | _ => M.stuck
def sSet (i : Nat) (k e : DE) : DS := fun ρ => match ρ[i]? with
  | some (some (.own ds)) => M.bnd (e (hideR ρ)) fun d => M.bnd (k ρ) (setGo i ds d ρ)
  | _ => M.stuck
def sSetF (i : Nat) (k e : DE) : DS := fun ρ => match ρ[i]? with
  | some (some (.own ds)) => M.bnd (e ρ) fun d => if flatD d = true then M.bnd (k ρ) (setGo i ds d ρ) else M.stuck
  | _ => M.stuck
/-- a, b = e1, e2 -/
def sPar (i j : Nat) (es : List DE) : DS := fun ρ => M.bnd (dEach es (hideR ρ)) fun vs => match vs with
  | [v, w] => M.ret (.next ((ρ.set i (some (.dat v))).set j (some (.dat w))))
  | _ => M.stuck
/-- x += e of whole numbers -/
def sAugA (i : Nat) (e : DE) : DS := fun ρ => match ρ[i]? with
  | some (some (.dat (.int a))) => M.bnd (e ρ) fun y => match y with
    | .int b => M.ret (.next (ρ.set i (some (.dat (.int (a + b))))))
    | _ => M.stuck
  | _ => M.stuck
/-- what never runs -/
def sNever : DS := fun _ => M.stuck
/-- xs[::-1] of a list -/
def oRevL (x : D) : M D := match x with
  | .list xs => M.ret (.list xs.reverse)
  | _ => M.stuck
/-- xs * n -/
def oRep (x y : D) : M D := match x, y with
  | .list xs, .int k => if 0 ≤ k ∧ k < 2 ^ 62 ∧ xs.length * k.toNat ≤ lineMax then M.ret (.list (List.replicate k.toNat xs).flatten) else M.stuck
  | _, _ => M.stuck
/-! ### their rules -/
section
variable {X : Cx} {W : WX} {a b c e : Expr} {A B C : DE} {pos pos' pos2 p1 p2 p3 : Pos}
theorem bools_rp {K : PySem.W.Frag} {Z : Rg} {H : Hp} : ∀ {vs : List V} {ds : List D} {bs : List Bool}, RpL K Z H vs ds → bools? ds = some bs → vs = bs.map V.bl
  | _, _, bs, .nil, h => by
    cases h
    rfl
  | _, _, bs, .cons r rs, h => by
    cases r with
    | bl b =>
      unfold bools? at h
      rename_i vs ds
      cases e : bools? ds with
      | none => rw [e] at h; cases h
      | some ms =>
        rw [e] at h
        cases h
        rw [bools_rp rs e]
        rfl
    | _ => cases h
theorem boot_allE : bootBuiltins ("all" : Str) = some (.builtin "all") := by decide +kernel
theorem boot_anyE : bootBuiltins ("any" : Str) = some (.builtin "any") := by decide +kernel
theorem pd_all (hc : X.calm = true) (hg : Gl X "all") (hm : X.mg "all" = none) (ha : PDe X W a A) (he : starEach [a] X.env = (false, eval a X.env) :: starEach [] X.env := by rfl) (hpl : (backTo pos (starEach [] X.env)).any (·.1) = false := by rfl) :
    PDe X W (.Call (.Name "all" pos') [a] [] pos) (dUn bAll A) := by
  refine pd_b1 (cr_all hc) (fun p sc Z σ H q x dx Q pl nz hx hp => ?_) hg hm boot_allE ha (by decide) (by decide) he hpl
  unfold bAll at hp
  cases hx with
  | lst h1 z rs =>
    rename_i a xs ds
    dsimp only at hp
    cases e : bools? ds with
    | none => rw [e] at hp; exact hp.elim
    | some ns =>
      rw [e] at hp
      have := bools_rp rs e
      subst this
      exact ⟨a, ns, rfl, .inl (.inl h1), hp _ H (Keep.refl _ _) pl (.bl _)⟩
  | _ => exact hp.elim
theorem pd_any (hc : X.calm = true) (hg : Gl X "any") (hm : X.mg "any" = none) (ha : PDe X W a A) (he : starEach [a] X.env = (false, eval a X.env) :: starEach [] X.env := by rfl) (hpl : (backTo pos (starEach [] X.env)).any (·.1) = false := by rfl) :
    PDe X W (.Call (.Name "any" pos') [a] [] pos) (dUn bAny A) := by
  refine pd_b1 (cr_any hc) (fun p sc Z σ H q x dx Q pl nz hx hp => ?_) hg hm boot_anyE ha (by decide) (by decide) he hpl
  unfold bAny at hp
  cases hx with
  | lst h1 z rs =>
    rename_i a xs ds
    dsimp only at hp
    cases e : bools? ds with
    | none => rw [e] at hp; exact hp.elim
    | some ns =>
      rw [e] at hp
      have := bools_rp rs e
      subst this
      exact ⟨a, ns, rfl, .inl (.inl h1), hp _ H (Keep.refl _ _) pl (.bl _)⟩
  | _ => exact hp.elim
/-! zip -/
theorem zipD_at : ∀ {xs ys : List D} {i : Nat} {d : D}, (zipD xs ys)[i]? = some d → ∃ x y, xs[i]? = some x ∧ ys[i]? = some y ∧ d = .tuple [x, y]
  | [], _, i, d, h => by simp [zipD] at h
  | _ :: _, [], i, d, h => by simp [zipD] at h
  | x :: xs, y :: ys, 0, d, h => by simp [zipD] at h; exact ⟨x, y, rfl, rfl, h.symm⟩
  | x :: xs, y :: ys, i + 1, d, h => by
    have h' : (zipD xs ys)[i]? = some d := by simpa [zipD] using h
    obtain ⟨u, v, h1, h2, h3⟩ := zipD_at h'
    exact ⟨u, v, by simpa using h1, by simpa using h2, h3⟩
theorem zipD_len : ∀ xs ys : List D, (zipD xs ys).length = min xs.length ys.length
  | [], _ => by simp [zipD]
  | _ :: _, [] => by simp [zipD]
  | x :: xs, y :: ys => by simp [zipD, zipD_len xs ys]
theorem walk_zip {K : PySem.W.Frag} {Z : Rg} {H1 : Hp} {J : It} {xs ys : List V} {ds es : List D} (P Q : Hp → List V → Prop) (r1 : RpL K Z H1 xs ds) (r2 : RpL K Z H1 ys es)
    (hgo : ∀ i H, J.go i H = ∃ (xs ys : List V) (x y : V), P H xs ∧ Q H ys ∧ xs[i]? = some x ∧ ys[i]? = some y)
    (hyl : ∀ i H v H', J.yld i H v H' = ∃ T x y, v = .ref T ∧ H T = none ∧ H' = upd H T (.tup [x, y]) ∧ (∀ xs, P H xs → xs[i]? = some x) ∧ ∀ ys, Q H ys → ys[i]? = some y)
    (hst : ∀ i H, J.stop i H = ∃ xs ys : List V, P H xs ∧ Q H ys ∧ (xs.length ≤ i ∨ ys.length ≤ i))
    (hP : ∀ H', Stand Z H1 H' → P H' xs) (hQ : ∀ H', Stand Z H1 H' → Q H' ys) : Walk K Z H1 J (zipD ds es) := by
  intro H' st
  have p := hP H' st
  have q := hQ H' st
  refine ⟨fun i d e => ?_, fun i hi => ?_⟩
  · obtain ⟨x, y, ex, ey, rfl⟩ := zipD_at e
    obtain ⟨v, hv, rv⟩ := (r1.sub (Z' := Zr Z H1) fun b z n => ⟨z, n⟩).at ex
    obtain ⟨w, hw, rw'⟩ := (r2.sub (Z' := Zr Z H1) fun b z n => ⟨z, n⟩).at ey
    have st' : Stand (Zr Z H1) H1 H' := st.sub fun b z => z.1
    refine ⟨by rw [hgo]; exact ⟨xs, ys, v, w, p, q, hv, hw⟩, fun z H'' y => ?_⟩
    rw [hyl] at y
    obtain ⟨T, x1, y1, rfl, hT, rfl, k1, k2⟩ := y
    have e1 := k1 xs p
    have e2 := k2 ys q
    rw [hv] at e1
    rw [hw] at e2
    cases e1
    cases e2
    have sm : Same H' (upd H' T (.tup [v, w])) := fun b o h => by rw [upd_ne (ne_of_none h hT)]; exact h
    have stn : Stand (Zr Z H1) H' (upd H' T (.tup [v, w])) := ⟨fun b o _ h => sm b o h, fun b xs h => sm b _ h, fun b o u h => sm b _ h⟩
    exact ⟨sm, .tup (.inl (.inl upd_same)) (.cons ((rv.stand st').stand stn) (.cons ((rw'.stand st').stand stn) .nil))⟩
  · rw [hst]
    refine ⟨xs, ys, p, q, ?_⟩
    rw [zipD_len] at hi
    rw [r1.length, r2.length]
    omega
theorem pid_zip {elts : List Expr} {kk : Nat} {tpos : Pos} (hg : Gl X "zip") (hm : X.mg "zip" = none) (ha : PDe X W a A) (hb : PDe X W b B) (hs : starEach [a, b] X.env = (false, eval a X.env) :: starEach [b] X.env := by rfl) (hs2 : starEach [b] X.env = (false, eval b X.env) :: starEach [] X.env := by rfl)
    (hpl : (backTo pos (starEach [b] X.env)).any (·.1) = false := by rfl) : PId X W (.Tuple elts kk tpos) (.Call (.Name "zip" pos') [a, b] [] pos) (iZp A B) := by
  obtain ⟨t, h1, h2⟩ := ha
  obtain ⟨u, g1, g2⟩ := hb
  refine ⟨_, RZ.pi_zipA hg hm (pa_cons h1 (pa_cons g1 pa_nil hs2) hs) hs hpl, ?_⟩
  refine rd_2 (X := X) (W := W) (Rel := WaF X.K) (r := fun x y H R => ∃ a b xs ys, [x, y] = [V.ref a, V.ref b] ∧ ((SqL X.K H a xs ∧ SqL X.K H b ys ∧ R (Itz X.K a b) H) ∨ (SqT X.K H a xs ∧ SqT X.K H b ys ∧ R (RZ.ItzT X.K a b) H))) sh_wa (fun p sc Z σ H q x y dx dy Q pl nz hx hy hp => ?_) h2 g2
  cases hx with
  | lst h1 z1 r1 =>
    rename_i a xs ds
    cases hy with
    | lst h2 z2 r2 =>
      rename_i b ys es
      refine ⟨a, b, xs, ys, rfl, .inl ⟨.inl (.inl h1), .inl (.inl h2), hp _ H (Keep.refl _ _) pl ?_⟩⟩
      exact walk_zip (fun H xs => SqL X.K H a xs) (fun H ys => SqL X.K H b ys) (r1.grow Zn.base) (r2.grow Zn.base) (fun _ _ => rfl) (fun _ _ _ _ => rfl) (fun _ _ => rfl) (fun H' st => .inl (.inl (st.rg _ _ (.inl z1) h1))) (fun H' st => .inl (.inl (st.rg _ _ (.inl z2) h2)))
    | _ => exact hp.elim
  | tup h1 r1 =>
    rename_i a xs ds
    cases hy with
    | tup h2 r2 =>
      rename_i b ys es
      refine ⟨a, b, xs, ys, rfl, .inr ⟨h1, h2, hp _ H (Keep.refl _ _) pl ?_⟩⟩
      exact walk_zip (fun H xs => SqT X.K H a xs) (fun H ys => SqT X.K H b ys) (r1.grow Zn.base) (r2.grow Zn.base) (fun _ _ => rfl) (fun _ _ _ _ => rfl) (fun _ _ => rfl) (fun H' st => st.sqT h1) (fun H' st => st.sqT h2)
    | _ => exact hp.elim
  | _ => exact hp.elim
/-! reversed -/
theorem walk_rev {K : PySem.W.Frag} {Z : Rg} {H1 : Hp} {J : It} {xs : List V} {ds : List D} (P : Hp → List V → Prop) (r1 : RpL K Z H1 xs ds)
    (hgo : ∀ i H, J.go i H = (i < xs.length ∧ ∃ (ys : List V) (x : V), P H ys ∧ ys[xs.length - 1 - i]? = some x))
    (hyl : ∀ i H v H', J.yld i H v H' = (H' = H ∧ ∀ ys, P H ys → ys[xs.length - 1 - i]? = some v))
    (hst : ∀ i H, J.stop i H = (xs.length ≤ i)) (hP : ∀ H', Stand Z H1 H' → P H' xs) : Walk K Z H1 J ds.reverse := by
  intro H' st
  have p := hP H' st
  have el := r1.length
  refine ⟨fun i d e => ?_, fun i hi => ?_⟩
  · have hi : i < ds.length := by
      have z := (List.getElem?_eq_some_iff.mp e).1
      simpa using z
    rw [List.getElem?_reverse hi] at e
    obtain ⟨v, hv, rv⟩ := (r1.sub (Z' := Zr Z H1) fun b z n => ⟨z, n⟩).at e
    have st' : Stand (Zr Z H1) H1 H' := st.sub fun b z => z.1
    rw [← el] at hv
    refine ⟨by rw [hgo]; exact ⟨by omega, xs, v, p, hv⟩, fun z H'' y => ?_⟩
    rw [hyl] at y
    obtain ⟨rfl, y⟩ := y
    have e1 := y xs p
    rw [hv] at e1
    cases e1
    exact ⟨Same.refl _, rv.stand st'⟩
  · rw [hst, el]
    simpa using hi
theorem pid_rev {tg : Expr} (hg : Gl X "reversed") (hm : X.mg "reversed" = none) (ha : PDe X W a A) (hs : starEach [a] X.env = (false, eval a X.env) :: starEach [] X.env := by rfl) : PId X W tg (.Call (.Name "reversed" pos') [a] [] pos) (iRevD A) := by
  obtain ⟨t, h1, h2⟩ := ha
  refine ⟨_, RT.pi_revA hg hm h1 hs, ?_⟩
  refine rd_1 (X := X) (W := W) (Rel := WaF X.K) (r := fun v H R => ∃ (a : Addr) (xs : List V), v = .ref a ∧ ((SqL X.K H a xs ∧ R (Itv X.K a xs.length) H) ∨ (SqT X.K H a xs ∧ R (RT.ItvT X.K a xs.length) H))) sh_wa (fun p sc Z σ H q x dx Q pl nz hx hp => ?_) h2
  cases hx with
  | lst h1 z1 r1 =>
    rename_i a xs ds
    refine ⟨a, xs, rfl, .inl ⟨.inl (.inl h1), hp _ H (Keep.refl _ _) pl ?_⟩⟩
    exact walk_rev (fun H xs => SqL X.K H a xs) (r1.grow Zn.base) (fun _ _ => rfl) (fun _ _ _ _ => rfl) (fun _ _ => rfl) (fun H' st => .inl (.inl (st.rg _ _ (.inl z1) h1)))
  | tup h1 r1 =>
    rename_i a xs ds
    refine ⟨a, xs, rfl, .inr ⟨h1, hp _ H (Keep.refl _ _) pl ?_⟩⟩
    exact walk_rev (fun H xs => SqT X.K H a xs) (r1.grow Zn.base) (fun _ _ => rfl) (fun _ _ _ _ => rfl) (fun _ _ => rfl) (fun H' st => st.sqT h1)
  | _ => exact hp.elim
/-! range with a step -/
theorem walk_rng3 {K : PySem.W.Frag} {Z : Rg} {H1 : Hp} (i c : Int) (n : Nat) : Walk K Z H1 (Itc i c n) ((List.range n).map fun (k : Nat) => .int (i + (k : Int) * c)) := by
  intro H' st
  refine ⟨fun j d e => ?_, fun j hj => by simpa [Itc] using hj⟩
  have hj : j < n := by
    have z := (List.getElem?_eq_some_iff.mp e).1
    simpa using z
  simp only [List.getElem?_map, List.getElem?_range hj, Option.map_some, Option.some.injEq] at e
  subst e
  refine ⟨hj, fun x H'' y => ?_⟩
  obtain ⟨rfl, rfl⟩ := y
  exact ⟨Same.refl _, .int _⟩
theorem pid_r3 {tg : Expr} (hg : Gl X "range") (hm : X.mg "range" = none) (ha : PDe X W a A) (hb : PDe X W b B) (hc : PDe X W c C) (hs : starEach [a, b, c] X.env = (false, eval a X.env) :: starEach [b, c] X.env := by rfl) (hs2 : starEach [b, c] X.env = (false, eval b X.env) :: starEach [c] X.env := by rfl)
    (hs3 : starEach [c] X.env = (false, eval c X.env) :: starEach [] X.env := by rfl) (hpl : (backTo pos (starEach [b, c] X.env)).any (·.1) = false := by rfl) : PId X W tg (.Call (.Name "range" pos') [a, b, c] [] pos) (iR3 A B C) := by
  obtain ⟨t, h1, h2⟩ := ha
  obtain ⟨u, g1, g2⟩ := hb
  obtain ⟨v, k1, k2⟩ := hc
  refine ⟨_, pi_range3 hg hm (pa_cons h1 (pa_cons g1 (pa_cons k1 pa_nil hs3) hs2) hs) hs hpl, ?_⟩
  refine rd_bnd (X := X) (W := W) (RelF := WaF X.K) (ValA := fun _ Z H v d => Rp X.K Z H v d) (f := fun ρ x => M.bnd (B ρ) fun y => M.bnd (C ρ) fun z => rng3 x y z)
    (k := fun x σ H R => u σ H fun y H1 => v σ H1 fun z H2 => ∃ (i j c : Int) (n : Nat), [x, y, z] = [V.int i, V.int j, V.int c] ∧ RgC i j c n ∧ R (Itc i c n) H2) sh_wa (fun _ _ _ _ _ _ h => h) h2 fun p sc Z σ H ρ q x dx Q s hv hp => ?_
  refine rd_2 (X := X) (W := W) (Rel := WaF X.K) (r := fun y z H R => ∃ (i j c : Int) (n : Nat), [x, y, z] = [V.int i, V.int j, V.int c] ∧ RgC i j c n ∧ R (Itc i c n) H) (f := fun y z => rng3 dx y z) sh_wa (fun p sc Z σ H q y z dy dz Q pl nz hy hz hp => ?_) g2 k2 p sc Z σ H ρ q Q s hp
  cases hv with
  | int i =>
    cases hy with
    | int j =>
      cases hz with
      | int c =>
        unfold rng3 at hp
        dsimp only at hp
        by_cases hh : rgC i j c = true
        · rw [if_pos hh] at hp
          unfold rgC at hh
          simp only [Bool.and_eq_true, decide_eq_true_eq] at hh
          exact ⟨i, j, c, rgN i j c, rfl, ⟨hh.1.1.1, hh.1.1.2, hh.1.2, hh.2⟩, hp _ H (Keep.refl _ _) pl (walk_rng3 _ _ _)⟩
        · rw [if_neg hh] at hp; exact hp.elim
      | _ => exact hp.elim
    | _ => exact hp.elim
  | _ => exact hp.elim
/-! xs[::-1], xs * n -/
theorem pdf_revL {k} (ha : PDe X W a A) : PDf X W (.Subscript a (.Slice none none (some (.UnaryOp .USub (.Constant (.int 1) k p1) p2)) p3) pos) (dUn oRevL A) := by
  obtain ⟨t, h1, h2⟩ := ha
  refine ⟨_, pe_revL h1, rd_1 (X := X) (W := W) (r := fun x H Q => ∃ a xs, x = .ref a ∧ SqL X.K H a xs ∧ ∀ p, H p = none → Q (.ref p) (upd H p (.lst xs.reverse))) sh_new (fun p sc Z σ H q x dx Q pl nz hx hp => ?_) h2⟩
  cases hx with
  | lst h1 z rs =>
    refine ⟨_, _, rfl, .inl (.inl h1), fun l hl => hp _ _ (new_keep hl) (new_pool hl pl) ⟨l, _, _, rfl, rfl, hl, upd_same, ?_⟩⟩
    exact (rs.reverse.sub fun b z n => ⟨.inl z, fun e => n (e ▸ hl)⟩).stand (new_stand hl)
  | _ => exact hp.elim
theorem rep_rp {K : PySem.W.Frag} {Z : Rg} {H : Hp} {vs : List V} {ds : List D} (r : RpL K Z H vs ds) : ∀ n : Nat, RpL K Z H (List.replicate n vs).flatten (List.replicate n ds).flatten
  | 0 => .nil
  | n + 1 => by
    rw [List.replicate_succ, List.replicate_succ, List.flatten_cons, List.flatten_cons]
    exact r.append (rep_rp r n)
theorem pdf_rep (ha : PDf X W a A) (hb : PDe X W b B) : PDf X W (.BinOp a .Mult b pos) (dBin oRep A B) := by
  obtain ⟨ta, a1, a2⟩ := pde_f ha
  obtain ⟨tb, b1, b2⟩ := hb
  refine ⟨_, pe_op op_rep a1 b1, rd_2 sh_new (fun p sc Z σ H q x y dx dy Q pl nz hx hy hp => ?_) a2 b2⟩
  cases hx with
  | lst ha za ra =>
    rename_i a xs ds
    cases hy with
    | int k =>
      unfold oRep at hp
      dsimp only at hp
      by_cases hl : 0 ≤ k ∧ k < 2 ^ 62 ∧ ds.length * k.toNat ≤ lineMax
      · rw [if_pos hl] at hp
        refine ⟨a, k, xs, rfl, rfl, ?_, by omega, by omega, by rw [ra.length]; exact hl.2.2, fun l hl => ?_⟩
        · exact ha
        · exact hp _ _ (new_keep hl) (new_pool hl pl) ⟨l, _, _, rfl, rfl, hl, upd_same, ((rep_rp ra k.toNat).sub fun b z n => ⟨.inl z, fun e => n (e ▸ hl)⟩).stand (new_stand hl)⟩
      · rw [if_neg hl] at hp; exact hp.elim
    | _ => exact hp.elim
  | _ => exact hp.elim
end
/-! ### statements -/
section
variable {X : Cx} {W : WX} {st : Stmt} {e k : Expr} {F E : DE} {pos p1 p2 p3 : Pos}
theorem sd_never : PSd X W st sNever := ⟨_, ps_never, fun p sc Z0 H0 Z σ H ρ q E b h => h.elim⟩
theorem set_fin {p sc : Addr} {Z0 Z Zk : Rg} {H0 H1 : Hp} {σ : L2.St} {ρ : Rho} {q : Pool} {E : Ends} {i : Nat} {ds : List D} {v : V} {d : D} {a : Addr} {o : V} {dj : D} (b1 : BR X.K p sc Z0 H0 Z σ H1 ρ q) (hi : ρ[i]? = some (some (.own ds))) (hs : σ[i]? = some (some (.ref a))) (rv : Rp X.K Z H1 v d) (rj : Rp X.K Zk H1 o dj)
    (hp : PostS X.K X.mg p sc Z0 H0 Z H1 W E (setGo i ds d ρ dj q)) : L2.rSetL (.ref a) o v H1 fun H3 => E.nx σ H3 := by
  obtain ⟨a', vs, g1, g2, g3, g4, g5⟩ := b1.slot i _ hi
  rw [hs] at g1
  cases g1
  unfold setGo at hp
  cases rj with
  | int n =>
    dsimp only at hp
    cases em : ixN ds.length n with
    | none => rw [em] at hp; exact hp.elim
    | some m =>
      rw [em] at hp
      dsimp only at hp
      have z := b1.chOwn hi hs g2 (g5.set m rv)
      exact ⟨a, vs, n, m, rfl, rfl, g2, by rw [g5.length]; exact em, hp Z σ _ z.1 (fun c z => z) z.2⟩
  | _ => exact hp.elim
theorem sd_set {i : Nat} {x : Str} (he : PDe X W e F) (hk : PDe X W k E) (hN : X.N[i]? = some x := by rfl) (hv : Vis X.env.scope x := by first | exact Or.inl rfl | exact Or.inr (Or.inl rfl) | exact Or.inr (Or.inr rfl))
    (hd : (x == ("__debug__" : Str)) = false := by decide) (hcd : (x == ("__classdict__" : Str)) = false := by decide)
    (hpg : ∀ (to ti : TE), PE X (.Name x p1) to → PE X k ti → PG X (.Subscript (.Name x p1) k p2) (gSub to ti L2.rSetL) := by intro _ _ h1 h2; exact pg_sub h1 h2 set_list)
    (hs : swapsWithSole [.Subscript (.Name x p1) k p2] e pos.line X.env = pure false := by rfl) (hw : swappedStores [.Subscript (.Name x p1) k p2] e X.env = pure none := by rfl)
    (h3 : (assignEach [.Subscript (.Name x p1) k p2] X.env).map (·.2) = [assign (.Subscript (.Name x p1) k p2) X.env] := by rfl) : PSd X W (.Assign [.Subscript (.Name x p1) k p2] e pos) (sSet i E F) ∧ PSd X W (.Assign [.Subscript (.Name x p1) k p2] e pos) (sSetF i E F) := by
  obtain ⟨t, h1, h2⟩ := he
  obtain ⟨u, g1, g2⟩ := hk
  have hps := ps_asg (X := X) (pos := pos) h1 (hpg _ _ (pe_var (pos := p1) hN hv hd hcd) g1) hs hw h3
  refine ⟨⟨_, hps, fun p sc Z0 H0 Z σ H ρ q Ed b h => ?_⟩, ⟨_, hps, fun p sc Z0 H0 Z σ H ρ q Ed b h => ?_⟩⟩
  · unfold sSet at h
    cases e : ρ[i]? with
    | none => rw [e] at h; exact h.elim
    | some o =>
      cases o with
      | none => rw [e] at h; exact h.elim
      | some sl =>
        cases sl with
        | own ds =>
          rw [e] at h
          dsimp only at h
          obtain ⟨a', vs', h1', h2', h3', h4', h5'⟩ := b.slot i _ e
          refine h2 p sc _ σ H (hideR ρ) q _ b.sitH (PostS.ex (Rel := fun H' v d => Rp X.K (Zn Z H) H' v d) b h fun d q1 v H1 e1 k1 pl r hp => ?_)
          have b1 := b.after k1 pl
          have zz : ∀ c, Z c → Zh Z H H1 c := fun c z => ⟨.inl z, (b.next k1 pl).zs c z⟩
          refine ⟨.ref a', h1', ?_⟩
          refine g2 p sc _ σ H1 ρ q1 _ b1.sit (PostS.ex (Rel := fun H' v d => Rp X.K (Zn (Zo (Zh Z H H1) σ ρ) H1) H' v d) b1 (PostS.later hp zz (Stand.refl _ _)) fun dj q2 o H2 e2 k2 pl2 rj hp2 => ?_)
          exact set_fin (b1.next k2 pl2) e h1' ((r.sub fun c z n => ⟨z, n⟩).stand (k2.stand pl b1.nz)) rj hp2
        | dat d => rw [e] at h; exact h.elim
        | pool => rw [e] at h; exact h.elim
        | odic d => rw [e] at h; exact h.elim
  · unfold sSetF at h
    cases e : ρ[i]? with
    | none => rw [e] at h; exact h.elim
    | some o =>
      cases o with
      | none => rw [e] at h; exact h.elim
      | some sl =>
        cases sl with
        | own ds =>
          rw [e] at h
          dsimp only at h
          obtain ⟨a', vs', h1', h2', h3', h4', h5'⟩ := b.slot i _ e
          refine h2 p sc _ σ H ρ q _ b.sit (PostS.ex (Rel := fun H' v d => Rp X.K (Zn (Zo Z σ ρ) H) H' v d) b h fun d q1 v H1 e1 k1 pl r hp => ?_)
          have b1 := b.next k1 pl
          by_cases hl : flatD d = true
          · rw [if_pos hl] at hp
            refine ⟨.ref a', h1', ?_⟩
            refine g2 p sc _ σ H1 ρ q1 _ b1.sit (PostS.ex (Rel := fun H' v d => Rp X.K (Zn (Zo Z σ ρ) H1) H' v d) b1 hp fun dj q2 o H2 e2 k2 pl2 rj hp2 => ?_)
            exact set_fin (b1.next k2 pl2) e h1' ((r.flat (Z' := Z) hl).stand (k2.stand pl b1.nz)) rj hp2
          · rw [if_neg hl] at hp; exact hp.elim
        | dat d => rw [e] at h; exact h.elim
        | pool => rw [e] at h; exact h.elim
        | odic d => rw [e] at h; exact h.elim
/-- a, b = e1, e2 -/
theorem sd_par {i j : Nat} {x y : Str} {a b : Expr} {A B : DE} {px py pt : Pos} {kt k2 : Nat} {pt2 : Pos} (hc : X.calm = true) (hN : X.N.Nodup) (hl : PDl X W [a, b] (dEach [A, B])) (hi : X.N[i]? = some x := by rfl) (hj : X.N[j]? = some y := by rfl) (hij : i ≠ j := by decide)
    (hx : X.env.scope.names.lookup x = some .local := by rfl) (hy : X.env.scope.names.lookup y = some .local := by rfl)
    (hw : swappedStores [.Tuple [.Name x px, .Name y py] kt pt] (.Tuple [a, b] k2 pt2) X.env = pure (some [x, y]) := by rfl)
    (hs : swapsWithSole [.Tuple [.Name x px, .Name y py] kt pt] (.Tuple [a, b] k2 pt2) pos.line X.env = pure false := by rfl) :
    PSd X W (.Assign [.Tuple [.Name x px, .Name y py] kt pt] (.Tuple [a, b] k2 pt2) pos) (sPar i j [A, B]) := by
  obtain ⟨t, h1, h2⟩ := hl
  refine ⟨_, ps_par hc hN hi hj hij hx hy h1 hw hs, fun p sc Z0 H0 Z σ H ρ q Ed b h => ?_⟩
  refine h2 p sc _ σ H (hideR ρ) q _ b.sitH (PostS.ex (Rel := fun H' v d => RlF X.K 2 p Z H H' v d) b h fun ds q1 vs H1 e1 k1 pl r hp => ?_)
  have b1 := b.after k1 pl
  have zz : ∀ c, Z c → Zh Z H H1 c := fun c z => ⟨.inl z, (b.next k1 pl).zs c z⟩
  obtain ⟨r1, r2⟩ := r
  cases r1 with
  | nil => exact hp.elim
  | cons ra rs =>
    cases rs with
    | nil => exact hp.elim
    | cons rb rs =>
      cases rs with
      | cons _ _ => exact hp.elim
      | nil =>
        exact ⟨_, _, rfl, hp _ _ H1 ((b1.set (i := i) (ra.sub fun c z n => ⟨z, n⟩)).set (i := j) (rb.sub fun c z n => ⟨z, n⟩)) zz (Stand.refl _ _)⟩
/-- x += e of whole numbers -/
theorem sd_aug {i : Nat} {x : Str} {pos' : Pos} (hN : X.N.Nodup) (he : PDe X W e F) (hi : X.N[i]? = some x := by rfl) (hx : Loc X.env.scope x := by first | exact Or.inl rfl | exact Or.inr rfl)
    (hf : X.fn x = true ∨ X.env.scope.names.lookup x = some .local := by first | exact .inl rfl | exact .inr rfl | assumption) : PSd X W (.AugAssign (.Name x pos') .Add e pos) (sAugA i F) := by
  obtain ⟨t, h1, h2⟩ := he
  refine ⟨_, ps_aug hN hi hx h1 ip_add hf, fun p sc Z0 H0 Z σ H ρ q Ed b h => ?_⟩
  unfold sAugA at h
  cases e : ρ[i]? with
  | none => rw [e] at h; exact h.elim
  | some o =>
    cases o with
    | none => rw [e] at h; exact h.elim
    | some sl =>
      cases sl with
      | dat d =>
        cases d with
        | int n =>
          rw [e] at h
          dsimp only at h
          obtain ⟨v, u1, u2⟩ := b.slot i _ e
          refine ⟨v, u1, ?_⟩
          refine h2 p sc _ σ H ρ q _ b.sit (PostS.ex (Rel := fun H' v d => Rp X.K (Zn (Zo Z σ ρ) H) H' v d) b h fun dy q1 y H1 e1 k1 pl r hp => ?_)
          have b1 := b.next k1 pl
          cases u2 with
          | int n =>
            cases r with
            | int m => exact ⟨n, m, rfl, rfl, hp _ _ H1 (b1.set (i := i) (.int _)) (fun c z => z) (Stand.refl _ _)⟩
            | _ => exact hp.elim
        | _ => rw [e] at h; exact h.elim
      | own ds => rw [e] at h; exact h.elim
      | pool => rw [e] at h; exact h.elim
      | odic kvs => rw [e] at h; exact h.elim

/-! ### new lists from what the def holds; ranges of what it holds -/
def sAsgN (i : Nat) (e : DE) : DS := fun ρ => M.bnd (e ρ) fun d => match d with
  | .list ds => if flatAll ds = true then M.ret (.next (ρ.set i (some (.dat (.list ds))))) else M.stuck
  | _ => M.stuck
def sSetN (i : Nat) (k e : DE) : DS := fun ρ => match ρ[i]? with
  | some (some (.own ds)) => M.bnd (e ρ) fun d => (match d with
    | .list es => if flatAll es = true then M.bnd (k ρ) (setGo i ds (.list es) ρ) else M.stuck
    | _ => M.stuck)
  | _ => M.stuck
def sForR (it : DI) (g : Tgt) (body : DS) : DS := fun ρ => M.bnd (it ρ) fun xs => forGo g body xs ρ
theorem BR.fresh {K : PySem.W.Frag} {p sc : Addr} {Z0 Z : Rg} {H0 H H1 : Hp} {σ : L2.St} {ρ : Rho} {q q1 : Pool} {a : Addr} (b : BR K p sc Z0 H0 Z σ H ρ q) (k : Keep p H H1) (pl : PoolAt p sc H1 q1) (ha : H a = none) (h1 : H1 a ≠ none) : BR K p sc Z0 H0 (fun c => Z c ∨ c = a) σ H1 ρ q1 := by
  have b1 := b.next k pl
  refine b1.grow (fun c z => .inl z) (fun c z => ?_) (fun c z => ?_) (fun z => ?_) fun j s c hj m e z => ?_
  · rcases z with z | rfl
    · exact b1.zs c z
    · exact h1
  · rcases z with z | rfl
    · exact b1.zz c z
    · exact .inr (none_back b.keep b.pool ha)
  · rcases z with z | z
    · exact b.nz z
    · rw [← z, b.pool.1] at ha; cases ha
  · obtain ⟨a', k1, k2, k3, k4, _⟩ := b.mine hj m
    rw [e] at k1; cases k1
    rcases z with z | rfl
    · exact k2 z
    · exact k4 ha
theorem rds_asgN {te : TE} {i : Nat} {tg : TG} (h2 : Rd1 X W (NewF X.K) te F) (ht : tg = gName i) : RdS X.K X.mg W (tAsg te tg) (sAsgN i F) := by
  subst ht
  intro p sc Z0 H0 Z σ H ρ q E b h
  refine h2 p sc _ σ H ρ q _ b.sit (PostS.ex (Rel := fun H' v d => NewF X.K p (Zo Z σ ρ) H H' v d) b h fun d q1 v H1 e k pl r hp => ?_)
  obtain ⟨a, vs, ds, rfl, rfl, g1, g2, g3⟩ := r
  dsimp only at hp
  by_cases hf : flatAll ds = true
  case neg => rw [if_neg hf] at hp; exact hp.elim
  rw [if_pos hf] at hp
  have b2 := b.fresh k pl g1 (by rw [g2]; exact Option.some_ne_none _)
  exact hp _ _ H1 (b2.set (i := i) (.lst g2 (.inr rfl) (g3.flat hf))) (fun c z => .inl z) (Stand.refl _ _)
theorem sd_asgN {i : Nat} {x : Str} {pos' : Pos} (hN : X.N.Nodup) (he : PDf X W e F) (hi : X.N[i]? = some x := by rfl) (hx : Loc X.env.scope x := by first | exact Or.inl rfl | exact Or.inr rfl) (hs : swapsWith e (some (.Name x pos')) pos.line X.env = pure false := by rfl)
    (hf : X.fn x = true ∨ X.env.scope.names.lookup x = some .local := by first | exact .inl rfl | exact .inr rfl | assumption) : PSd X W (.Assign [.Name x pos'] e pos) (sAsgN i F) := by
  obtain ⟨t, h1, h2⟩ := he
  exact ⟨_, ps_set hN hi hx h1 hs hf, rds_asgN h2 rfl⟩
theorem sd_lcN {i : Nat} {st : Stmt} {F : DE} (h : ∃ t, PS X st (tAsg t (gName i)) ∧ Rd1 X W (NewF X.K) t F) : PSd X W st (sAsgN i F) := by
  obtain ⟨t, h1, h2⟩ := h
  exact ⟨_, h1, rds_asgN h2 rfl⟩
theorem sd_setN {i : Nat} {x : Str} (he : PDf X W e F) (hk : PDe X W k E) (hN : X.N[i]? = some x := by rfl) (hv : Vis X.env.scope x := by first | exact Or.inl rfl | exact Or.inr (Or.inl rfl) | exact Or.inr (Or.inr rfl))
    (hd : (x == ("__debug__" : Str)) = false := by decide) (hcd : (x == ("__classdict__" : Str)) = false := by decide)
    (hpg : ∀ (to ti : TE), PE X (.Name x p1) to → PE X k ti → PG X (.Subscript (.Name x p1) k p2) (gSub to ti L2.rSetL) := by intro _ _ h1 h2; exact pg_sub h1 h2 set_list)
    (hs : swapsWithSole [.Subscript (.Name x p1) k p2] e pos.line X.env = pure false := by rfl) (hw : swappedStores [.Subscript (.Name x p1) k p2] e X.env = pure none := by rfl)
    (h3 : (assignEach [.Subscript (.Name x p1) k p2] X.env).map (·.2) = [assign (.Subscript (.Name x p1) k p2) X.env] := by rfl) : PSd X W (.Assign [.Subscript (.Name x p1) k p2] e pos) (sSetN i E F) := by
  obtain ⟨t, h1, h2⟩ := he
  obtain ⟨u, g1, g2⟩ := hk
  refine ⟨_, ps_asg (X := X) (pos := pos) h1 (hpg _ _ (pe_var (pos := p1) hN hv hd hcd) g1) hs hw h3, fun p sc Z0 H0 Z σ H ρ q Ed b h => ?_⟩
  unfold sSetN at h
  cases e : ρ[i]? with
  | none => rw [e] at h; exact h.elim
  | some o =>
    cases o with
    | none => rw [e] at h; exact h.elim
    | some sl =>
      cases sl with
      | own ds =>
        rw [e] at h
        dsimp only at h
        obtain ⟨a', vs', h1', h2', h3', h4', h5'⟩ := b.slot i _ e
        refine h2 p sc _ σ H ρ q _ b.sit (PostS.ex (Rel := fun H' v d => NewF X.K p (Zo Z σ ρ) H H' v d) b h fun d q1 v H1 e1 k1 pl r hp => ?_)
        obtain ⟨a, vs, es, rfl, rfl, u1, u2, u3⟩ := r
        dsimp only at hp
        by_cases hf : flatAll es = true
        case neg => rw [if_neg hf] at hp; exact hp.elim
        rw [if_pos hf] at hp
        have b1 := b.fresh k1 pl u1 (by rw [u2]; exact Option.some_ne_none _)
        have rv : Rp X.K (fun c => Z c ∨ c = a) H1 (.ref a) (.list es) := .lst u2 (.inr rfl) (u3.flat hf)
        refine ⟨.ref a', h1', ?_⟩
        refine g2 p sc _ σ H1 ρ q1 _ b1.sit (PostS.ex (Rel := fun H' v d => Rp X.K (Zn (Zo (fun c => Z c ∨ c = a) σ ρ) H1) H' v d) b1 (PostS.later hp (fun c z => .inl z) (Stand.refl _ _)) fun dj q2 o H2 e2 k2 pl2 rj hp2 => ?_)
        exact set_fin (b1.next k2 pl2) e h1' (rv.stand (k2.stand pl b1.nz)) rj hp2
      | dat d => rw [e] at h; exact h.elim
      | pool => rw [e] at h; exact h.elim
      | odic d => rw [e] at h; exact h.elim
end
section
variable {X : Cx} {W : WX} {a b tg iter : Expr} {A B : DE} {ss : List Stmt} {S : DS} {g : Tgt} {is : List Nat} {pos pos' : Pos}
abbrev WkF (K : PySem.W.Frag) : RelT It (List D) := fun _ _ _ _ J ds => ∀ Z H, Walk K Z H J ds
theorem sh_wk {K : PySem.W.Frag} : Shf (WkF K) := fun p sc Z H H2 H' q q2 b a k pl pl2 r => r
/-- a source that leans on nothing -/
def PRd (X : Cx) (W : WX) (tg iter : Expr) (F : DI) : Prop := ∃ wi, PI X tg iter wi ∧ Rd1 X W (WkF X.K) wi F
theorem prd_r1 (hg : Gl X "range") (hm : X.mg "range" = none) (ha : PDe X W a A) (hs : starEach [a] X.env = [(false, eval a X.env)] := by rfl) : PRd X W tg (.Call (.Name "range" pos') [a] [] pos) (iR1 A) := by
  obtain ⟨t, h1, h2⟩ := ha
  refine ⟨_, pi_range1 hg hm (pa_cons h1 pa_nil hs) hs, rd_bnd (X := X) (W := W) (RelF := WkF X.K) (ValA := fun _ Z H v d => Rp X.K Z H v d) (f := fun _ => rng1) (k := fun x σ H R => ∃ j : Int, [x] = [V.int j] ∧ -(2 ^ 62) ≤ j ∧ j < 2 ^ 62 ∧ R (Itr 0 j.toNat) H) sh_wk (fun _ _ _ _ _ _ h => h) h2 fun p sc Z σ H ρ q x dx Q s hv hp => ?_⟩
  cases hv with
  | int j =>
    unfold rng1 at hp
    dsimp only at hp
    by_cases hj : small62 j = true
    · rw [if_pos hj] at hp
      exact ⟨j, rfl, (small62_ok hj).1, (small62_ok hj).2, hp _ H (Keep.refl _ _) s.pool (fun _ _ => walk_rng _ _)⟩
    · rw [if_neg hj] at hp
      exact hp.elim
  | _ => exact hp.elim
theorem prd_r2 (hg : Gl X "range") (hm : X.mg "range" = none) (ha : PDe X W a A) (hb : PDe X W b B) (hs : starEach [a, b] X.env = [(false, eval a X.env), (false, eval b X.env)] := by rfl) (hs2 : starEach [b] X.env = [(false, eval b X.env)] := by rfl) : PRd X W tg (.Call (.Name "range" pos') [a, b] [] pos) (iR2 A B) := by
  obtain ⟨t, h1, h2⟩ := ha
  obtain ⟨u, g1, g2⟩ := hb
  refine ⟨_, pi_range2 hg hm (pa_cons h1 (pa_cons g1 pa_nil hs2) (by rw [hs, hs2])) hs hs2, ?_⟩
  refine rd_2 (X := X) (W := W) (Rel := WkF X.K) (r := fun x y H R => ∃ i j : Int, [x, y] = [V.int i, V.int j] ∧ (-(2 ^ 62) ≤ i ∧ i < 2 ^ 62 ∧ -(2 ^ 62) ≤ j ∧ j < 2 ^ 62) ∧ R (Itr i (j - i).toNat) H) sh_wk (fun p sc Z σ H q x y dx dy Q pl nz hx hy hp => ?_) h2 g2
  cases hx with
  | int i =>
    cases hy with
    | int j =>
      unfold rng2 at hp
      dsimp only at hp
      by_cases hj : (small62 i && small62 j) = true
      · rw [if_pos hj] at hp
        rw [Bool.and_eq_true] at hj
        exact ⟨i, j, rfl, ⟨(small62_ok hj.1).1, (small62_ok hj.1).2, (small62_ok hj.2).1, (small62_ok hj.2).2⟩, hp _ H (Keep.refl _ _) pl (fun _ _ => walk_rng _ _)⟩
      · rw [if_neg hj] at hp
        exact hp.elim
    | _ => exact hp.elim
  | _ => exact hp.elim
theorem sd_forR {it : DI} (hp : PassesOwn (model X.prog X.w) X.A X.env X.xe) (hc : X.calm = true) (hi : PRd X W tg iter it) (hg : PGd X is tg g) (hb : PSsd X W ss S) (hs : ∀ x, foldedSetIterable iter X.env x = pure x := by intro _; rfl) :
    PSd X W (.For tg iter ss [] pos) (sForR it g S) := by
  obtain ⟨wi, h1, h2⟩ := hi
  obtain ⟨u, g1, g2, g3⟩ := hg
  obtain ⟨v, k1, k2⟩ := hb
  refine ⟨_, ps_for hp hc h1 g1 k1 hs, fun p sc Z0 H0 Z σ H ρ q E b h => ?_⟩
  refine h2 p sc _ σ H ρ q _ b.sit (PostS.ex (Rel := fun H' J ds => WkF X.K p (Zo Z σ ρ) H H' J ds) b h fun ds q1 J H1 e k pl wk hp1 => ?_)
  have b1 := b.next k pl
  refine ⟨fun i m σ' H' => m = ds.length - i ∧ i ≤ ds.length ∧ ∃ Z' ρ' q', BR X.K p sc Z0 H0 Z' σ' H' ρ' q' ∧ (∀ c, Z c → Z' c) ∧ Stand Z H1 H' ∧ PostS X.K X.mg p sc Z0 H0 Z' H' W E (forGo g S (ds.drop i) ρ' q'),
    ⟨ds.length, by simp, Nat.zero_le _, _, ρ, q1, b1, fun _ z => z, Stand.refl _ _, by rw [List.drop_zero]; exact hp1⟩, ?_⟩
  rintro i m σ' H' ⟨rfl, hi, Z', ρ', q', b', zs', st', hp'⟩
  obtain ⟨w1, w2⟩ := wk Z H1 H' st'
  by_cases hlt : i < ds.length
  · refine .inr ?_
    obtain ⟨go, yl⟩ := w1 i _ (List.getElem?_eq_getElem hlt)
    refine ⟨go, fun σ2 H2 => ∃ Z' ρ' q', BR X.K p sc Z0 H0 Z' σ2 H2 ρ' q' ∧ (∀ c, Z c → Z' c) ∧ Stand Z H1 H2 ∧ PostS X.K X.mg p sc Z0 H0 Z' H2 W E (forGo g S (ds.drop (i + 1)) ρ' q'), fun σ2 H2 n => ⟨ds.length - (i + 1), by omega, rfl, hlt, n⟩, fun x H'' y => ?_⟩
    obtain ⟨sm, rx⟩ := yl x H'' y
    have kk : Keep p H' H'' := fun c o _ hc => sm c o hc
    have b2 := b'.next (q1 := q') kk ⟨sm _ _ b'.pool.1, sm _ _ b'.pool.2.1, b'.pool.2.2⟩
    rw [List.drop_eq_getElem_cons hlt] at hp'
    have hp2 : PostS X.K X.mg p sc Z0 H0 Z' H'' W E (forGo g S (ds[i] :: ds.drop (i + 1)) ρ' q') := PostS.later hp' (fun _ z => z) (kk.stand b'.pool b'.nz)
    unfold forGo M.bnd at hp2
    rcases g3 ds[i] ρ' q' with ⟨ρ1, eg⟩ | eg
    · rw [eg] at hp2
      refine g2 Z' σ' H'' ρ' ρ1 q' q' x ds[i] _ (rx.grow fun c z => zs' c z.1) eg fun l hl e1 _ => ?_
      subst e1
      have b3 := BR.sets l b2 fun x hx => (hl x hx).2
      refine k2 p sc Z0 H0 Z' _ H'' _ q' _ b3 ?_
      dsimp only at hp2
      have stN : ∀ {H2 : Hp}, Stand Z' H'' H2 → Stand Z H1 H2 := fun s => st'.trans (((kk.stand b'.pool b'.nz).sub zs').trans (s.sub zs'))
      cases eb : S (setsR l ρ') q' with
      | ok o q2 =>
        rw [eb] at hp2
        cases o with
        | next ρ2 => exact fun Z2 σ2 H2 b4 z2 s2 => ⟨Z2, ρ2, q2, b4, fun c z => z2 c (zs' c z), stN s2, PostS.later hp2 z2 s2⟩
        | cont ρ2 => exact fun Z2 σ2 H2 b4 z2 s2 => ⟨Z2, ρ2, q2, b4, fun c z => z2 c (zs' c z), stN s2, PostS.later hp2 z2 s2⟩
        | brk ρ2 => exact fun Z2 σ2 H2 b4 z2 s2 => hp2 Z2 σ2 H2 b4 z2 s2
        | ret d => exact hp2
      | err x q2 => rw [eb] at hp2; exact hp2
      | stuck => rw [eb] at hp2; exact hp2
    · rw [eg] at hp2
      exact hp2.elim
  · have ei : i = ds.length := by omega
    subst ei
    rw [List.drop_length] at hp'
    exact .inl ⟨w2 _ (Nat.le_refl _), hp' Z' σ' H' b' (fun _ z => z) (Stand.refl _ _)⟩
end
end Ew
namespace Ew
open PySem PySem.Spec PyProof.Rows L2
/-! ## Code without draws, by equations -/
theorem Does.imp {α : Type} {m : M α} {P R : α → Prop} (h : Does m P) (k : ∀ a, P a → R a) : Does m R := DoesK.imp h k
section
variable {κ : Bool}
/-! ## The plain law -/
/-! ### what _law_same asks -/
/-- data that _law_same can walk with n calls -/
def Fl : Nat → D → Prop
  | 0, _ => False
  | n + 1, .tuple xs => xs.length ≤ 2 ^ 20 ∧ ∀ x ∈ xs, Fl n x
  | n + 1, .list xs => xs.length ≤ 2 ^ 20 ∧ ∀ x ∈ xs, Fl n x
  | _ + 1, .dict _ => False
  | _ + 1, _ => True
theorem oEq_refl_int (i : Int) : oEq (.int i) (.int i) = M.ret (.bool true) := by
  unfold oEq eqD
  simp
theorem oEq_refl_str (i : Str) : oEq (.str i) (.str i) = M.ret (.bool true) := by
  unfold oEq eqD
  simp
theorem oEq_ints (i j : Int) : oEq (.int i) (.int j) = M.ret (.bool (decide (i = j))) := rfl
theorem oNe_ints (i j : Int) : oNe (.int i) (.int j) = M.ret (.bool (!decide (i = j))) := rfl
theorem oEq_bools (a b : Bool) : oEq (.bool a) (.bool b) = M.ret (.bool (decide (a = b))) := by
  unfold oEq eqD
  cases a <;> cases b <;> rfl
theorem oNe_bools (a b : Bool) : oNe (.bool a) (.bool b) = M.ret (.bool (!decide (a = b))) := by
  unfold oNe eqD
  cases a <;> cases b <;> rfl
theorem atD_nat {xs : List D} {i : Nat} {x : D} (h : xs[i]? = some x) : atD xs (i : Int) = some x := L2.atI_nat h
theorem oIx_l {xs : List D} {i : Nat} {x : D} (h : xs[i]? = some x) : oIx (.list xs) (.int (i : Int)) = M.ret x := by
  unfold oIx
  dsimp only
  rw [atD_nat h]
theorem oIx_t {xs : List D} {i : Nat} {x : D} (h : xs[i]? = some x) : oIx (.tuple xs) (.int (i : Int)) = M.ret x := by
  unfold oIx
  dsimp only
  rw [atD_nat h]
theorem list_len (xs : List D) (h : xs.length ≤ 2 ^ 20) : rng1 (.int (xs.length : Int)) = M.ret (intsFrom 0 xs.length) := by
  rw [rng1_of (by omega) (by omega)]
  rfl
theorem small20 {n : Nat} (h : n ≤ 2 ^ 20) : n ≤ PySem.sizeLine := Nat.le_trans h (by decide +kernel)
/-! ### small rules -/
theorem mul_ok {i j : Int} (h : -(2 ^ 64) < i ∧ i < 2 ^ 64) : oMul (.int i) (.int j) = M.ret (.int (i * j)) := by
  unfold oMul
  dsimp only
  rw [if_pos (.inl (.inl h))]
theorem fdiv_ok {i j : Int} (h : 0 < j) (h2 : j < 2 ^ 64) : oFdiv (.int i) (.int j) = M.ret (.int (i / j)) := by
  unfold oFdiv
  dsimp only
  rw [if_pos ⟨h, Int.lt_trans h2 (by decide +kernel)⟩]
theorem add_ints (i j : Int) : oAdd (.int i) (.int j) = M.ret (.int (i + j)) := nr rfl
theorem sub_ints (i j : Int) : oSub (.int i) (.int j) = M.ret (.int (i - j)) := nr rfl
theorem le_ints (i j : Int) : oLe (.int i) (.int j) = M.ret (.bool (decide (i ≤ j))) := nr rfl
theorem lt_ints (i j : Int) : oLt (.int i) (.int j) = M.ret (.bool (decide (i < j))) := nr rfl
theorem ge_ints (i j : Int) : oGe (.int i) (.int j) = M.ret (.bool (decide (j ≤ i))) := nr rfl
theorem gt_ints (i j : Int) : oGt (.int i) (.int j) = M.ret (.bool (decide (j < i))) := nr rfl
theorem len_tup (xs : List D) : bLen (.tuple xs) = M.ret (.int xs.length) := nr rfl
theorem len_lst (xs : List D) : bLen (.list xs) = M.ret (.int xs.length) := nr rfl
theorem tuple_l (xs : List D) : bTuple (.list xs) = M.ret (.tuple xs) := nr rfl
theorem tuple_t (xs : List D) : bTuple (.tuple xs) = M.ret (.tuple xs) := nr rfl
theorem ints_of_all : ∀ (ys : List D), (∀ y ∈ ys, ∃ v : Int, y = .int v) → ∃ ns : List Int, ys = ns.map PyData.int ∧ ints? ys = some ns
  | [], _ => ⟨[], rfl, rfl⟩
  | y :: ys, h => by
    obtain ⟨v, rfl⟩ := h y List.mem_cons_self
    obtain ⟨ns, e, e2⟩ := ints_of_all ys fun z hz => h z (List.mem_cons_of_mem _ hz)
    exact ⟨v :: ns, by rw [e]; rfl, by unfold ints?; rw [e2]; rfl⟩
theorem insU_len (x : Int) : ∀ l : List Int, (insU x l).length ≤ l.length + 1
  | [] => by simp [insU]
  | y :: r => by
    unfold insU
    split
    · simp
    · split
      · simp
      · have := insU_len x r
        simp only [List.length_cons]
        omega
theorem sortU_len (xs : List Int) : (sortU xs).length ≤ xs.length := by
  have go : ∀ (xs acc : List Int), (xs.foldl (fun acc x => insU x acc) acc).length ≤ acc.length + xs.length := by
    intro xs
    induction xs with
    | nil => intro acc; simp
    | cons x xs ih =>
      intro acc
      have a := ih (insU x acc)
      have b := insU_len x acc
      simp only [List.foldl_cons, List.length_cons]
      omega
  simpa [sortU] using go xs []
/-- sorted(set([1 + draw for ..])): ascending, each from what was drawn -/
theorem sset_does {m : M D} {N : Nat} {P : Int → Prop} (hN : N < 64) (h : DoesK κ m fun d => ∃ ys, d = .list ys ∧ ys.length ≤ N ∧ ∀ y ∈ ys, ∃ v : Int, y = .int v ∧ P v) :
    DoesK κ (M.bnd m bSortedSet) fun d => ∃ ns : List Int, d = .list (ns.map .int) ∧ ns.Pairwise (· < ·) ∧ ns.length ≤ N ∧ ∀ n ∈ ns, P n := by
  refine does_bnd h fun d ⟨ys, e, hl, hv⟩ => ?_
  subst e
  obtain ⟨ns, e1, e2⟩ := ints_of_all ys fun y hy => (hv y hy).imp fun v h => h.1
  unfold bSortedSet
  dsimp only
  rw [e2]
  dsimp only
  rw [if_pos (by omega)]
  refine does_ret ⟨_, rfl, sortU_asc ns, Nat.le_trans (sortU_len ns) (by rw [← List.length_map (f := PyData.int), ← e1]; exact hl), fun n hn => ?_⟩
  have hm := (sortU_mem ns n).mp hn
  obtain ⟨v, ev, hp⟩ := hv (.int n) (by rw [e1]; exact List.mem_map_of_mem hm)
  cases ev
  exact hp
theorem fl_ints {n : Nat} (xs : List Int) (h : xs.length ≤ 2 ^ 20) : Fl (n + 2) (.list (xs.map PyData.int)) := ⟨by rw [List.length_map]; exact h, fun x hx => by
  obtain ⟨i, _, rfl⟩ := List.mem_map.mp hx
  trivial⟩
/-! ### more small rules -/
theorem oNe_ints' (i j : Int) : oNe (.int i) (.int j) = M.ret (.bool (!decide (i = j))) := oNe_ints i j
/-- [e for x in it if t], t may be anything: some of what stands there -/
theorem lc_sub {own : List Nat} {it : DI} {g : Tgt} {t : DT} {e : DE} {ρ : Rho} {xs : List D} (G : D → Rho) (F : D → D) (hi : DoesK κ (it ρ) (· = xs)) (hl : xs.length ≤ PySem.sizeLine)
    (hg : ∀ x ∈ xs, g x (wipeR ρ own) = M.ret (G x)) (ht : ∀ x ∈ xs, DoesK κ (t (G x)) (fun _ => True)) (he : ∀ x ∈ xs, DoesK κ (e (G x)) (· = F x)) : DoesK κ (dComp own it g t e ρ) fun d => ∃ zs : List D, zs.Sublist xs ∧ d = .list (zs.map F) := by
  refine does_eq hi ?_
  rw [if_pos hl]
  refine does_bnd (P := fun ys => ∃ zs : List D, zs.Sublist xs ∧ ys = zs.map F) (does_noerr ?_) fun ys ⟨zs, h1, h2⟩ => does_ret ⟨zs, h1, by rw [h2]⟩
  clear hi hl
  induction xs with
  | nil => exact does_ret ⟨[], List.Sublist.refl _, rfl⟩
  | cons x xs ih =>
    have ih' := ih (fun y hy => hg y (List.mem_cons_of_mem _ hy)) (fun y hy => ht y (List.mem_cons_of_mem _ hy)) (fun y hy => he y (List.mem_cons_of_mem _ hy))
    have e1 : compTurn g t e (wipeR ρ own) x = M.bnd (t (G x)) fun c => if c = true then M.bnd (e (G x)) fun y => M.ret (some y) else M.ret none := by
      unfold compTurn
      rw [hg x List.mem_cons_self]
      rfl
    show DoesK κ (M.bnd (compTurn g t e (wipeR ρ own) x) fun o => M.bnd (compGo _ xs) fun r => M.ret (o.toList ++ r)) _
    rw [e1, bnd_bnd]
    refine does_bnd (ht x List.mem_cons_self) fun c _ => ?_
    by_cases hp : c = true
    · rw [if_pos hp, bnd_bnd]
      refine does_eq (he x List.mem_cons_self) ?_
      rw [bnd_ret]
      exact does_bnd ih' fun ys ⟨zs, h1, h2⟩ => does_ret ⟨x :: zs, h1.cons₂ _, by rw [h2]; rfl⟩
    · rw [if_neg hp, bnd_ret]
      exact does_bnd ih' fun ys ⟨zs, h1, h2⟩ => does_ret ⟨zs, h1.cons _, by rw [h2]; rfl⟩
theorem ints?_map (ns : List Int) : ints? (ns.map PyData.int) = some ns := by
  induction ns with
  | nil => rfl
  | cons n ns ih =>
    show (ints? (ns.map PyData.int)).map (n :: ·) = some (n :: ns)
    rw [ih]
    rfl
theorem in_ints_t (n : Int) (ns : List Int) : oIn (.int n) (.tuple (ns.map .int)) = M.ret (.bool (decide (n ∈ ns))) := by
  unfold oIn oHas has?
  dsimp only
  rw [ints?_map]
theorem notin_ints_t (n : Int) (ns : List Int) : oNotIn (.int n) (.tuple (ns.map .int)) = M.ret (.bool (!decide (n ∈ ns))) := by
  unfold oNotIn oHas has?
  dsimp only
  rw [ints?_map]
theorem in_ints_l (n : Int) (ns : List Int) : oIn (.int n) (.list (ns.map .int)) = M.ret (.bool (decide (n ∈ ns))) := by
  unfold oIn oHas has?
  dsimp only
  rw [ints?_map]
theorem max_ints (n : Int) (ns : List Int) : bMax (.list ((n :: ns).map .int)) = M.ret (.int (ns.foldl max n)) := by
  unfold bMax
  dsimp only
  rw [ints?_map]
theorem sum_ints (ns : List Int) : bSum (.list (ns.map .int)) = M.ret (.int ns.sum) := by
  unfold bSum
  dsimp only
  rw [ints?_map]
theorem at_g4 (g1 g2 g3 g4 : Tgt) (x y z u : D) (ρ : Rho) : gT [g1, g2, g3, g4] (.tuple [x, y, z, u]) ρ = M.bnd (g1 x ρ) fun r => M.bnd (g2 y r) fun r => M.bnd (g3 z r) (g4 u) := by
  show M.bnd (g1 x ρ) (fun r => M.bnd (g2 y r) fun r2 => M.bnd (g3 z r2) fun r3 => M.bnd (g4 u r3) fun r4 => M.ret r4) = _
  congr 1
  funext r
  congr 1
  funext r2
  congr 1
  funext r3 q
  unfold M.bnd M.ret
  cases g4 u r3 q <;> rfl
theorem at_sapp (i : Nat) (e : DE) (ρ : Rho) {ds : List D} (h : ρ[i]? = some (some (.own ds))) (hl : ds.length < lineMax) : sApp i e ρ = M.bnd (e (hideR ρ)) fun d => M.ret (.next (ρ.set i (some (.own (ds ++ [d]))))) := by
  unfold sApp
  rw [h]
  dsimp only
  congr 1
  funext d
  rw [if_pos hl]
theorem lc_rng {own : List Nat} {it : DI} {g : Tgt} {e : DE} {ρ : Rho} {n : Nat} (V : Nat → D) (hi : DoesK κ (it ρ) (· = intsFrom 0 n)) (hn : n ≤ 2 ^ 20) (h : ∀ k : Nat, k < n → DoesK κ (M.bnd (g (.int (0 + (k : Int))) (wipeR ρ own)) e) (· = V k)) :
    DoesK κ (dComp own it g tTrue e ρ) (· = .list ((List.range n).map V)) := by
  refine lc_all (Q := fun j y => y = V j) hi (by rw [intsFrom_len]; exact small20 hn) (fun j x hx => ?_) fun ys h1 h2 => ?_
  · obtain ⟨rfl, hj⟩ := intsFrom_at hx
    exact h j hj
  · congr 1
    rw [intsFrom_len] at h1
    refine List.ext_getElem? fun j => ?_
    rw [List.getElem?_map]
    by_cases hj : j < ys.length
    · rw [List.getElem?_eq_getElem hj, List.getElem?_range (by omega), h2 j _ (List.getElem?_eq_getElem hj)]
      rfl
    · rw [List.getElem?_eq_none (by omega), List.getElem?_eq_none (by simp; omega)]
      rfl
theorem map_int (n : Nat) (v : Nat → Int) : (List.range n).map (fun k => PyData.int (v k)) = ((List.range n).map v).map .int := by
  rw [List.map_map]
  rfl
theorem range_succ_map {α : Type} (v : Nat → α) (j : Nat) : (List.range (j + 1)).map v = (List.range j).map v ++ [v j] := by rw [List.range_succ, List.map_append]; rfl
theorem two2000 : (2 : Int) ^ 40 < 2 ^ 2000 := by decide +kernel
theorem does_draw' {many : Int} (h : 0 < many) (h2 : many ≤ 2 ^ 40) : Does (F_draw [.pool, .d (.int many)]) fun d => ∃ v : Int, d = .int v ∧ 0 ≤ v ∧ v < many := does_draw h (Int.lt_of_le_of_lt h2 two2000)
theorem sub_range {xs : List D} {n : Nat} (h : xs.Sublist (intsFrom 0 n)) : ∃ ns : List Int, xs = ns.map .int ∧ ns.length ≤ n ∧ ∀ x ∈ ns, 0 ≤ x ∧ x < n := by
  obtain ⟨ns, e, _⟩ := ints_of_all xs fun y hy => by
    obtain ⟨j, hj⟩ := List.getElem?_of_mem (h.subset hy)
    exact ⟨_, (intsFrom_at hj).1⟩
  refine ⟨ns, e, ?_, fun x hx => ?_⟩
  · have z := h.length_le
    rw [intsFrom_len, e, List.length_map] at z
    exact z
  · have hm : PyData.int x ∈ intsFrom 0 n := h.subset (by rw [e]; exact List.mem_map_of_mem hx)
    obtain ⟨j, hj⟩ := List.getElem?_of_mem hm
    obtain ⟨e2, hj2⟩ := intsFrom_at hj
    cases e2
    omega
/-- [e for x in xs], the items as they are meant -/
theorem lc_of {α : Type} {own : List Nat} {it : DI} {g : Tgt} {e : DE} {ρ : Rho} {as : List α} (enc : α → D) (F : α → D) (hi : DoesK κ (it ρ) (· = as.map enc)) (hl : as.length ≤ 2 ^ 20) (h : ∀ a ∈ as, DoesK κ (M.bnd (g (enc a) (wipeR ρ own)) e) (· = F a)) : DoesK κ (dComp own it g tTrue e ρ) (· = .list (as.map F)) := by
  refine lc_all (Q := fun j y => ∃ a, as[j]? = some a ∧ y = F a) hi (small20 (by rw [List.length_map]; exact hl)) (fun j x hx => ?_) fun ys h1 h2 => ?_
  · rw [List.getElem?_map] at hx
    obtain ⟨a, ha, rfl⟩ := Option.map_eq_some_iff.mp hx
    exact (h a (List.mem_of_getElem? ha)).imp fun y hy => ⟨a, ha, hy⟩
  · congr 1
    rw [List.length_map] at h1
    refine List.ext_getElem? fun j => ?_
    rw [List.getElem?_map]
    by_cases hj : j < ys.length
    · obtain ⟨a, ha, hy⟩ := h2 j _ (List.getElem?_eq_getElem hj)
      rw [List.getElem?_eq_getElem hj, ha, hy]
      rfl
    · rw [List.getElem?_eq_none (by omega), List.getElem?_eq_none (by omega)]
      rfl
/-! ### statements, one at a time -/
theorem hide_cons (x : Option Slot) (ρ : Rho) : hideR (x :: ρ) = hide1 x :: hideR ρ := nr rfl
theorem hide1_d (d : D) : hide1 (some (.dat d)) = some (.dat d) := nr rfl
theorem hide1_n : hide1 none = none := nr rfl
theorem hide1_p : hide1 (some .pool) = some .pool := nr rfl
theorem hide1_o (ds : List D) : hide1 (some (.own ds)) = none := nr rfl
theorem seq_asg {i : Nat} {e : DE} {T : DS} {ρ : Rho} {R : Out → Prop} {P : D → Prop} (h : DoesK κ (e (hideR ρ)) P) (k : ∀ d, P d → DoesK κ (T (ρ.set i (some (.dat d)))) R) : DoesK κ (sSeq (sAsg (gN i) e) T ρ) R := by
  refine does_bnd (P := fun o => ∃ d, P d ∧ o = .next (ρ.set i (some (.dat d)))) (does_bnd h fun d hd => does_ret ⟨d, hd, rfl⟩) fun o ⟨d, hd, e⟩ => ?_
  subst e
  exact k d hd
theorem seq_next {S T : DS} {ρ : Rho} {R : Out → Prop} {P : Rho → Prop} (h : DoesK κ (S ρ) fun o => ∃ ρ', o = .next ρ' ∧ P ρ') (k : ∀ ρ', P ρ' → DoesK κ (T ρ') R) : DoesK κ (sSeq S T ρ) R := by
  refine does_bnd h fun o ⟨ρ', e, hp⟩ => ?_
  subst e
  exact k ρ' hp
theorem sif_does {t : DT} {A B : DS} {ρ : Rho} {R : Out → Prop} {c : Bool} (h : DoesK κ (t ρ) (· = c)) (ha : c = true → DoesK κ (A ρ) R) (hb : c = false → DoesK κ (B ρ) R) : DoesK κ (sIf t A B ρ) R := by
  refine does_eq h ?_
  cases c with
  | true => rw [if_pos rfl]; exact ha rfl
  | false => rw [if_neg Bool.false_ne_true]; exact hb rfl
/-- a test that must not hold, and does not -/
theorem seq_not {t : DT} {A T : DS} {ρ : Rho} {R : Out → Prop} (h : DoesK κ (t ρ) (· = false)) (k : DoesK κ (T ρ) R) : DoesK κ (sSeq (sIf t A sNil) T ρ) R :=
  seq_next (P := fun r => r = ρ) (sif_does h (fun z => nomatch z) fun _ => does_ret ⟨ρ, rfl, rfl⟩) fun r e => by rw [e]; exact k
theorem or_not {t u : DT} {ρ : Rho} (h : DoesK κ (t ρ) (· = false)) (k : DoesK κ (u ρ) (· = false)) : DoesK κ (tOr t u ρ) (· = false) := does_eq h (by rw [if_neg Bool.false_ne_true]; exact k)
/-! ### slices -/
theorem at_sl (a : DE) (lo hi : Option DE) (ρ : Rho) : dSl a lo hi ρ = M.bnd (a ρ) fun x => M.bnd (dPart lo ρ) fun l => M.bnd (dPart hi ρ) fun h => oSl x l h := nr rfl
theorem at_pn (ρ : Rho) : dPart none ρ = M.ret none := nr rfl
theorem at_ps' (e : DE) (ρ : Rho) : dPart (some e) ρ = M.bnd (e ρ) fun x => (match x with
    | .int i => M.ret (some i)
    | _ => M.stuck) := nr rfl
theorem sl_tup' (xs : List D) (lo hi : Option Int) : oSl (.tuple xs) lo hi = M.ret (.tuple (cutD xs lo hi)) := nr rfl
theorem sl_lst' (xs : List D) (lo hi : Option Int) : oSl (.list xs) lo hi = M.ret (.list (cutD xs lo hi)) := nr rfl
theorem add_tups {xs ys : List D} (h : xs.length + ys.length ≤ 2 ^ 20) : oAdd (.tuple xs) (.tuple ys) = M.ret (.tuple (xs ++ ys)) := by
  unfold oAdd
  dsimp only
  rw [if_pos (small20 h)]
theorem add_lists {xs ys : List D} (h : xs.length + ys.length ≤ 2 ^ 20) : oAdd (.list xs) (.list ys) = M.ret (.list (xs ++ ys)) := by
  unfold oAdd
  dsimp only
  rw [if_pos (small20 h)]
theorem neg_ints (i : Int) : uNeg (.int i) = M.ret (.int (-i)) := nr rfl
theorem min2_ints (i j : Int) : bMin2 (.int i) (.int j) = M.ret (.int (if j < i then j else i)) := nr rfl
theorem max2_ints (i j : Int) : bMax2 (.int i) (.int j) = M.ret (.int (if j > i then j else i)) := nr rfl
end

theorem revL_l (xs : List D) : oRevL (.list xs) = M.ret (.list xs.reverse) := nr rfl
theorem oEq_strs (a b : Str) : oEq (.str a) (.str b) = M.ret (.bool (decide (a = b))) := nr rfl
theorem oNe_strs (a b : Str) : oNe (.str a) (.str b) = M.ret (.bool (!decide (a = b))) := nr rfl
theorem list_l (xs : List D) : bList (.list xs) = M.ret (.list xs) := nr rfl
theorem list_t (xs : List D) : bList (.tuple xs) = M.ret (.list xs) := nr rfl
theorem is_T (d : D) : bIsTup d = M.ret (.bool d.isTuple) := nr rfl
theorem is_L (d : D) : bIsLst d = M.ret (.bool d.isList) := nr rfl
theorem is_I (d : D) : bIsInt d = M.ret (.bool d.isInt) := nr rfl
theorem is_B (d : D) : bIsBool d = M.ret (.bool d.isBool) := nr rfl
theorem is_S (d : D) : bIsStr d = M.ret (.bool d.isStr) := nr rfl
theorem is_N (d : D) : oIsN d = M.ret (.bool (isN d)) := nr rfl
theorem not_N (d : D) : oNotN d = M.ret (.bool (!isN d)) := nr rfl
theorem isT_n  : PyData.isTuple (PyData.none) = false := nr rfl
theorem isT_b (b : Bool) : PyData.isTuple (PyData.bool b) = false := nr rfl
theorem isT_i (i : Int) : PyData.isTuple (PyData.int i) = false := nr rfl
theorem isT_s (s : Str) : PyData.isTuple (PyData.str s) = false := nr rfl
theorem isT_t (xs : List D) : PyData.isTuple (PyData.tuple xs) = true := nr rfl
theorem isT_l (xs : List D) : PyData.isTuple (PyData.list xs) = false := nr rfl
theorem isT_d (kvs : List (D × D)) : PyData.isTuple (PyData.dict kvs) = false := nr rfl
theorem isL_n  : PyData.isList (PyData.none) = false := nr rfl
theorem isL_b (b : Bool) : PyData.isList (PyData.bool b) = false := nr rfl
theorem isL_i (i : Int) : PyData.isList (PyData.int i) = false := nr rfl
theorem isL_s (s : Str) : PyData.isList (PyData.str s) = false := nr rfl
theorem isL_t (xs : List D) : PyData.isList (PyData.tuple xs) = false := nr rfl
theorem isL_l (xs : List D) : PyData.isList (PyData.list xs) = true := nr rfl
theorem isL_d (kvs : List (D × D)) : PyData.isList (PyData.dict kvs) = false := nr rfl
theorem isI_n  : PyData.isInt (PyData.none) = false := nr rfl
theorem isI_b (b : Bool) : PyData.isInt (PyData.bool b) = true := nr rfl
theorem isI_i (i : Int) : PyData.isInt (PyData.int i) = true := nr rfl
theorem isI_s (s : Str) : PyData.isInt (PyData.str s) = false := nr rfl
theorem isI_t (xs : List D) : PyData.isInt (PyData.tuple xs) = false := nr rfl
theorem isI_l (xs : List D) : PyData.isInt (PyData.list xs) = false := nr rfl
theorem isI_d (kvs : List (D × D)) : PyData.isInt (PyData.dict kvs) = false := nr rfl
theorem isB_n  : PyData.isBool (PyData.none) = false := nr rfl
theorem isB_b (b : Bool) : PyData.isBool (PyData.bool b) = true := nr rfl
theorem isB_i (i : Int) : PyData.isBool (PyData.int i) = false := nr rfl
theorem isB_s (s : Str) : PyData.isBool (PyData.str s) = false := nr rfl
theorem isB_t (xs : List D) : PyData.isBool (PyData.tuple xs) = false := nr rfl
theorem isB_l (xs : List D) : PyData.isBool (PyData.list xs) = false := nr rfl
theorem isB_d (kvs : List (D × D)) : PyData.isBool (PyData.dict kvs) = false := nr rfl
theorem isS_n  : PyData.isStr (PyData.none) = false := nr rfl
theorem isS_b (b : Bool) : PyData.isStr (PyData.bool b) = false := nr rfl
theorem isS_i (i : Int) : PyData.isStr (PyData.int i) = false := nr rfl
theorem isS_s (s : Str) : PyData.isStr (PyData.str s) = true := nr rfl
theorem isS_t (xs : List D) : PyData.isStr (PyData.tuple xs) = false := nr rfl
theorem isS_l (xs : List D) : PyData.isStr (PyData.list xs) = false := nr rfl
theorem isS_d (kvs : List (D × D)) : PyData.isStr (PyData.dict kvs) = false := nr rfl
theorem isN_n  : isN (PyData.none) = true := nr rfl
theorem isN_b (b : Bool) : isN (PyData.bool b) = false := nr rfl
theorem isN_i (i : Int) : isN (PyData.int i) = false := nr rfl
theorem isN_s (s : Str) : isN (PyData.str s) = false := nr rfl
theorem isN_t (xs : List D) : isN (PyData.tuple xs) = false := nr rfl
theorem isN_l (xs : List D) : isN (PyData.list xs) = false := nr rfl
theorem isN_d (kvs : List (D × D)) : isN (PyData.dict kvs) = false := nr rfl
theorem ne_nil {xs : List D} (hp : PyData.plainAll xs = true) (hd : PyData.depthAll xs ≤ 90) : oNe (.list xs) (.list []) = M.ret (.bool (!xs.isEmpty)) := by
  have e : PyData.eqv (.list xs) (.list []) = xs.isEmpty := by
    cases xs with
    | nil => rfl
    | cons x xs => rfl
  unfold oNe eqD
  dsimp only
  rw [if_pos ⟨by rw [Bool.and_eq_true]; exact ⟨hp, rfl⟩, by show PyData.depth (.list xs) ≤ 100; rw [PyData.depth]; omega⟩]
  dsimp only
  rw [e]
theorem eq_nil {xs : List D} (hp : PyData.plainAll xs = true) (hd : PyData.depthAll xs ≤ 90) : oEq (.list xs) (.list []) = M.ret (.bool xs.isEmpty) := by
  have e : PyData.eqv (.list xs) (.list []) = xs.isEmpty := by
    cases xs with
    | nil => rfl
    | cons x xs => rfl
  unfold oEq eqD
  dsimp only
  rw [if_pos ⟨by rw [Bool.and_eq_true]; exact ⟨hp, rfl⟩, by show PyData.depth (.list xs) ≤ 100; rw [PyData.depth]; omega⟩]
  dsimp only
  rw [e]
theorem ix_last (xs : List D) (x : D) : oIx (.list (xs ++ [x])) (.int (-1)) = M.ret x := by
  have e : atD (xs ++ [x]) (-1) = some x := L2.atI_last xs x
  unfold oIx
  dsimp only
  rw [e]
theorem fn_eq {n N : Nat} {B : DS} {as : List Arg} (h : as.length = n := by rfl) : fnD n N B as = M.bnd (B (as.map argSlot ++ List.replicate (N - n) none)) fun o => (match o with
    | .ret d => M.ret d
    | .next _ => M.ret .none
    | _ => M.stuck) := if_pos h
theorem ret_ite {α : Type} {c : Prop} [Decidable c] (a b : α) : (if c then M.ret a else M.ret b) = M.ret (if c then a else b) := by split <;> rfl
theorem ret_ite_o {α : Type} {c : Prop} [Decidable c] (a : α) : (if c then M.ret (some a) else M.ret none) = M.ret (if c then some a else none) := by split <;> rfl
theorem noerr_ret {α : Type} (a : α) : M.noerr (M.ret a) = M.ret a := rfl
theorem does_of {α : Type} {κ : Bool} {m : M α} {a : α} {P : α → Prop} (h : m = M.ret a) (p : P a) : DoesK κ m P := by rw [h]; exact does_ret p
/-- a comprehension over what is meant -/
theorem comp_typed {α : Type} {own : List Nat} {it : DI} {g : Tgt} {t : DT} {e : DE} {ρ : Rho} (as : List α) (enc : α → D) (p : α → Bool) (F : α → D) (hi : it ρ = M.ret (as.map enc)) (hl : as.length ≤ PySem.sizeLine)
    (h : ∀ a ∈ as, compTurn g t e (wipeR ρ own) (enc a) = M.ret (if p a = true then some (F a) else none)) : dComp own it g t e ρ = M.ret (.list ((as.filter p).map F)) := by
  have go : ∀ as : List α, (∀ a ∈ as, compTurn g t e (wipeR ρ own) (enc a) = M.ret (if p a = true then some (F a) else none)) → compGo (compTurn g t e (wipeR ρ own)) (as.map enc) = M.ret ((as.filter p).map F) := by
    intro as
    induction as with
    | nil => intro _; rfl
    | cons a as ih =>
      intro h
      show M.bnd (compTurn g t e (wipeR ρ own) (enc a)) (fun o => M.bnd (compGo _ (as.map enc)) fun r => M.ret (o.toList ++ r)) = _
      rw [h a List.mem_cons_self, bnd_ret, ih fun b hb => h b (List.mem_cons_of_mem _ hb), bnd_ret]
      cases hp : p a with
      | true => simp [List.filter_cons, hp]
      | false => simp [List.filter_cons, hp]
  show M.bnd (it ρ) _ = _
  rw [hi, bnd_ret, List.length_map, if_pos hl, go as h]
  rfl
theorem comp_map {α : Type} {own : List Nat} {it : DI} {g : Tgt} {e : DE} {ρ : Rho} (as : List α) (enc : α → D) (F : α → D) (hi : it ρ = M.ret (as.map enc)) (hl : as.length ≤ PySem.sizeLine)
    (h : ∀ a ∈ as, M.bnd (g (enc a) (wipeR ρ own)) e = M.ret (F a)) : dComp own it g tTrue e ρ = M.ret (.list (as.map F)) := by
  have z := comp_typed (own := own) (g := g) (t := tTrue) (e := e) as enc (fun _ => true) F hi hl fun a ha => by
    have e1 : compTurn g tTrue e (wipeR ρ own) (enc a) = M.bnd (M.bnd (g (enc a) (wipeR ρ own)) e) fun y => M.ret (some y) := by rw [bnd_bnd]; rfl
    rw [e1, h a ha, bnd_ret]
    rfl
  rw [z, List.filter_eq_self.mpr (fun _ _ => rfl)]
theorem comp_rng {own : List Nat} {it : DI} {g : Tgt} {e : DE} {ρ : Rho} (lo : Int) (n : Nat) (F : Nat → D) (hi : it ρ = M.ret (intsFrom lo n)) (hl : n ≤ PySem.sizeLine)
    (h : ∀ k, k < n → M.bnd (g (.int (lo + (k : Int))) (wipeR ρ own)) e = M.ret (F k)) : dComp own it g tTrue e ρ = M.ret (.list ((List.range n).map F)) :=
  comp_map (List.range n) (fun (k : Nat) => .int (lo + (k : Int))) F (by rw [hi]; rfl) (by rw [List.length_range]; exact hl) fun k hk => h k (List.mem_range.mp hk)
theorem comp_rngf {own : List Nat} {it : DI} {g : Tgt} {t : DT} {e : DE} {ρ : Rho} (lo : Int) (n : Nat) (p : Nat → Bool) (F : Nat → D) (hi : it ρ = M.ret (intsFrom lo n)) (hl : n ≤ PySem.sizeLine)
    (h : ∀ k, k < n → compTurn g t e (wipeR ρ own) (.int (lo + (k : Int))) = M.ret (if p k = true then some (F k) else none)) : dComp own it g t e ρ = M.ret (.list (((List.range n).filter p).map F)) :=
  comp_typed (List.range n) (fun (k : Nat) => .int (lo + (k : Int))) p F (by rw [hi]; rfl) (by rw [List.length_range]; exact hl) fun k hk => h k (List.mem_range.mp hk)
theorem turn_def (g : Tgt) (t : DT) (e : DE) (r : Rho) (x : D) : compTurn g t e r x = M.bnd (g x r) fun r' => M.bnd (t r') fun c => if c = true then M.bnd (e r') fun y => M.ret (some y) else M.ret none := nr rfl
theorem turn_at {g : Tgt} {t : DT} {e : DE} {r r' : Rho} {x : D} (hg : g x r = M.ret r') : compTurn g t e r x = M.bnd (t r') fun c => if c = true then M.bnd (e r') fun y => M.ret (some y) else M.ret none := by
  unfold compTurn
  rw [hg, bnd_ret]
/-- a loop over what is meant, to its end or out of it -/
theorem for_typed {α : Type} {g : Tgt} {B : DS} (enc : α → D) (I : Nat → Rho → Prop) (E : D → Prop) : ∀ (as : List α) (i : Nat) (ρ : Rho), I i ρ →
    (∀ (j : Nat) (a : α) (ρ : Rho), as[j]? = some a → I (i + j) ρ → ∃ o, M.bnd (g (enc a) ρ) B = M.ret o ∧ match o with
      | .next r => I (i + j + 1) r
      | .cont r => I (i + j + 1) r
      | .brk _ => False
      | .ret d => E d) → ∃ o, forGo g B (as.map enc) ρ = M.ret o ∧ match o with
      | .next r => I (i + as.length) r
      | .cont _ => False
      | .brk _ => False
      | .ret d => E d
  | [], i, ρ, h, _ => ⟨_, rfl, h⟩
  | a :: as, i, ρ, h, s => by
    obtain ⟨o, e1, h1⟩ := s 0 a ρ rfl h
    have e : forGo g B ((a :: as).map enc) ρ = M.bnd (M.bnd (g (enc a) ρ) B) fun o => (match o with
      | .next ρ2 => forGo g B (as.map enc) ρ2
      | .cont ρ2 => forGo g B (as.map enc) ρ2
      | .brk ρ2 => M.ret (.next ρ2)
      | .ret d => M.ret (.ret d)) := (bnd_bnd _ _ _).symm
    rw [e, e1, bnd_ret]
    have rest : ∀ r, I (i + 1) r → ∃ o, forGo g B (as.map enc) r = M.ret o ∧ match o with
      | .next r => I (i + (a :: as).length) r
      | .cont _ => False
      | .brk _ => False
      | .ret d => E d := fun r hr => by
      have z := for_typed enc I E as (i + 1) r hr fun j a ρ hx hi => by
        have z := s (j + 1) a ρ hx (by rw [show i + (j + 1) = i + 1 + j by omega]; exact hi)
        rw [show i + (j + 1) = i + 1 + j by omega] at z
        exact z
      rw [show i + (a :: as).length = i + 1 + as.length by simp only [List.length_cons]; omega]
      exact z
    cases o with
    | next r => exact rest r h1
    | cont r => exact rest r h1
    | brk r => exact h1.elim
    | ret d => exact ⟨_, rfl, h1⟩
/-- .. always to its end -/
theorem for_all {α : Type} {g : Tgt} {B : DS} {as : List α} {ρ : Rho} (enc : α → D) (I : Nat → Rho → Prop) (h0 : I 0 ρ)
    (s : ∀ (j : Nat) (a : α) (ρ : Rho), as[j]? = some a → I j ρ → ∃ r, (M.bnd (g (enc a) ρ) B = M.ret (.next r) ∨ M.bnd (g (enc a) ρ) B = M.ret (.cont r)) ∧ I (j + 1) r) : ∃ r, forGo g B (as.map enc) ρ = M.ret (.next r) ∧ I as.length r := by
  obtain ⟨o, e, h⟩ := for_typed (g := g) (B := B) enc I (fun _ => False) as 0 ρ h0 fun j a ρ ha hi => by
    rw [Nat.zero_add] at hi ⊢
    obtain ⟨r, e | e, h⟩ := s j a ρ ha hi
    · exact ⟨_, e, h⟩
    · exact ⟨_, e, h⟩
  cases o with
  | next r => exact ⟨r, e, by rw [Nat.zero_add] at h; exact h⟩
  | cont r => exact h.elim
  | brk r => exact h.elim
  | ret d => exact h.elim
theorem for_rngq {g : Tgt} {B : DS} {lo : Int} {n : Nat} {ρ : Rho} (I : Nat → Rho → Prop) (h0 : I 0 ρ)
    (s : ∀ (j : Nat) (ρ : Rho), j < n → I j ρ → ∃ r, (M.bnd (g (.int (lo + (j : Int))) ρ) B = M.ret (.next r) ∨ M.bnd (g (.int (lo + (j : Int))) ρ) B = M.ret (.cont r)) ∧ I (j + 1) r) : ∃ r, forGo g B (intsFrom lo n) ρ = M.ret (.next r) ∧ I n r := by
  have z := for_all (g := g) (B := B) (as := List.range n) (ρ := ρ) (fun (k : Nat) => .int (lo + (k : Int))) I h0 fun j a ρ ha hi => by
    have hj := (List.getElem?_eq_some_iff.mp ha).1
    rw [List.length_range] at hj
    rw [List.getElem?_range hj] at ha
    cases ha
    exact s j ρ hj hi
  rw [List.length_range] at z
  exact z
/-- [e for x in xs]: what each item comes to is told by a word of it -/
theorem lc_drawn {κ : Bool} {α β : Type} {own : List Nat} {it : DI} {g : Tgt} {e : DE} {ρ : Rho} (as : List α) (enc : α → D) (mk : β → D) (Q : α → β → Prop) (hi : it ρ = M.ret (as.map enc)) (hl : as.length ≤ 2 ^ 20)
    (h : ∀ a ∈ as, DoesK κ (M.bnd (g (enc a) (wipeR ρ own)) e) fun d => ∃ b, d = mk b ∧ Q a b) :
    DoesK κ (dComp own it g tTrue e ρ) fun d => ∃ bs : List β, d = .list (bs.map mk) ∧ bs.length = as.length ∧ ∀ (j : Nat) a b, as[j]? = some a → bs[j]? = some b → Q a b := by
  refine lc_all (Q := fun j y => ∃ a b, as[j]? = some a ∧ y = mk b ∧ Q a b) (xs := as.map enc) (of_eq hi) (small20 (by rw [List.length_map]; exact hl)) (fun j x hx => ?_) fun ys h1 h2 => ?_
  · rw [List.getElem?_map] at hx
    obtain ⟨a, ha, rfl⟩ := Option.map_eq_some_iff.mp hx
    exact (h a (List.mem_of_getElem? ha)).imp fun y ⟨b, e1, e2⟩ => ⟨a, b, ha, e1, e2⟩
  · obtain ⟨bs, k1, k2, k3⟩ := list_made (ys := ys) mk (Q := fun j b => ∃ a, as[j]? = some a ∧ Q a b) fun j y hy => by
      obtain ⟨a, b, e1, e2, e3⟩ := h2 j y hy
      exact ⟨b, e2, a, e1, e3⟩
    refine ⟨bs, by rw [k2], by rw [k1, h1, List.length_map], fun j a b ha hb => ?_⟩
    obtain ⟨a', e1, e2⟩ := k3 j b hb
    rw [ha] at e1
    cases e1
    exact e2
theorem all_of {α β : Type} {as : List α} {bs : List β} {Q : α → β → Prop} {P : β → Prop} (hl : bs.length = as.length) (h : ∀ (j : Nat) a b, as[j]? = some a → bs[j]? = some b → Q a b) (k : ∀ a ∈ as, ∀ b, Q a b → P b) : ∀ b ∈ bs, P b := fun b hb => by
  obtain ⟨j, hj⟩ := List.getElem?_of_mem hb
  have hlt := (List.getElem?_eq_some_iff.mp hj).1
  have ha : as[j]? = some as[j] := List.getElem?_eq_getElem (by omega)
  exact k _ (List.getElem_mem (by omega)) b (h j _ b ha hj)
/-! ### own lists: rules with what stands there -/
theorem at_ssetn {i : Nat} {k e : DE} {ρ : Rho} {ds : List D} (h : ρ[i]? = some (some (.own ds))) : sSetN i k e ρ = M.bnd (e ρ) fun d => (match d with
    | .list es => if flatAll es = true then M.bnd (k ρ) (setGo i ds (.list es) ρ) else M.stuck
    | _ => M.stuck) := by
  unfold sSetN
  rw [h]
  try rfl
theorem at_sset {i : Nat} {k e : DE} {ρ : Rho} {ds : List D} (h : ρ[i]? = some (some (.own ds))) : sSet i k e ρ = M.bnd (e (hideR ρ)) fun d => M.bnd (k ρ) (setGo i ds d ρ) := by
  unfold sSet
  rw [h]
  try rfl
theorem at_ssetf {i : Nat} {k e : DE} {ρ : Rho} {ds : List D} (h : ρ[i]? = some (some (.own ds))) : sSetF i k e ρ = M.bnd (e ρ) fun d => if flatD d = true then M.bnd (k ρ) (setGo i ds d ρ) else M.stuck := by
  unfold sSetF
  rw [h]
  try rfl
theorem setGo_at {i : Nat} {ds : List D} {d : D} {ρ : Rho} {n : Int} {m : Nat} (h : ixN ds.length n = some m) : setGo i ds d ρ (.int n) = M.ret (.next (ρ.set i (some (.own (ds.set m d))))) := by
  unfold setGo
  dsimp only
  rw [h]
theorem at_sasgn (i : Nat) (e : DE) (ρ : Rho) : sAsgN i e ρ = M.bnd (e ρ) fun d => (match d with
    | .list ds => if flatAll ds = true then M.ret (.next (ρ.set i (some (.dat (.list ds))))) else M.stuck
    | _ => M.stuck) := nr rfl
theorem at_sforr (it : DI) (g : Tgt) (S : DS) (ρ : Rho) : sForR it g S ρ = M.bnd (it ρ) fun xs => forGo g S xs ρ := nr rfl
theorem at_sappf {i : Nat} {e : DE} {ρ : Rho} {ds : List D} (h : ρ[i]? = some (some (.own ds))) (hl : ds.length < lineMax) : sAppF i e ρ = M.bnd (e ρ) fun d => if flatD d = true then M.ret (.next (ρ.set i (some (.own (ds ++ [d]))))) else M.stuck := by
  unfold sAppF
  rw [h]
  dsimp only
  congr 1
  funext d
  by_cases hf : flatD d = true
  · rw [if_pos hf, if_pos ⟨hl, hf⟩]
  · rw [if_neg hf, if_neg fun z => hf z.2]
theorem line_lt {n : Nat} (h : n < 2 ^ 20) : n < lineMax := Nat.lt_of_lt_of_le h (by decide +kernel)
theorem ixN_nat {n m : Nat} (h : m < n) : ixN n (m : Int) = some m := by
  unfold ixN
  rw [if_pos (by omega), if_pos (by omega)]
  rfl
theorem ixN_last {n : Nat} (h : 0 < n) : ixN n (-1) = some (n - 1) := by
  unfold ixN
  rw [if_neg (by omega), if_pos (by omega)]
  congr 1
  omega
theorem sorted_ints (ns : List Int) (hl : ns.length ≤ 2 ^ 20) : bSorted (.list (ns.map .int)) = M.ret (.list ((ns.mergeSort fun a b => decide (a ≤ b)).map .int)) := by
  have hc : CanSort (ns.map PyData.int) := by
    refine ⟨fun d hd d' hd' => ?_, .inl (.inr fun d hd => ?_), small20 (by rw [List.length_map]; exact hl), fun d hd => ?_⟩
    · obtain ⟨a, _, rfl⟩ := List.mem_map.mp hd
      obtain ⟨b, _, rfl⟩ := List.mem_map.mp hd'
      rfl
    · obtain ⟨a, _, rfl⟩ := List.mem_map.mp hd
      exact ⟨(fun z => nomatch z), (fun xs z => nomatch z)⟩
    · obtain ⟨a, _, rfl⟩ := List.mem_map.mp hd
      exact Nat.zero_le _
  unfold bSorted
  dsimp only
  rw [if_pos hc]
  congr 2
  have z := List.map_mergeSort (r := fun a b : Int => decide (a ≤ b)) (s := leD) (f := PyData.int) (l := ns) (fun a _ b _ => by
    show decide (a ≤ b) = leD (.int a) (.int b)
    unfold leD
    rw [PySem.W.dataLe_eq]
    show _ = (!PySem.W.dataLt (.int b) (.int a))
    rw [PySem.W.dataLt_int]
    by_cases h : a ≤ b
    · rw [decide_eq_true h, decide_eq_false (by omega)]; rfl
    · rw [decide_eq_false h, decide_eq_true (by omega)]; rfl)
  exact z.symm
theorem at_sfrz {i : Nat} {S : DS} {ρ : Rho} {ds : List D} (h : ρ[i]? = some (some (.own ds))) : sFrz i S ρ = S (ρ.set i (some (.dat (.list ds)))) := by
  unfold sFrz
  rw [h]
theorem seq_own {κ : Bool} {i : Nat} {e : DE} {T : DS} {ρ : Rho} {R : Out → Prop} {ds : List D} (h : e (hideR ρ) = M.ret (.list ds)) (k : DoesK κ (T (ρ.set i (some (.own ds)))) R) : DoesK κ (sSeq (sOwn i e) T ρ) R := by
  rw [at_seq, at_sown, h, bnd_ret, bnd_ret]
  exact k
/-! ### truth tables -/
theorem bools?_map : ∀ bs : List Bool, bools? (bs.map PyData.bool) = some bs
  | [] => rfl
  | b :: bs => by
    show (bools? (bs.map PyData.bool)).map (b :: ·) = some (b :: bs)
    rw [bools?_map bs]
    rfl
theorem all_bools {α : Type} (as : List α) (p : α → Bool) : bAll (.list (as.map fun a => .bool (p a))) = M.ret (.bool (as.all p)) := by
  have e : (as.map fun a => PyData.bool (p a)) = (as.map p).map PyData.bool := by rw [List.map_map]; rfl
  unfold bAll
  dsimp only
  rw [e, bools?_map]
  dsimp only
  rw [List.all_map]
  rfl
theorem any_bools {α : Type} (as : List α) (p : α → Bool) : bAny (.list (as.map fun a => .bool (p a))) = M.ret (.bool (as.any p)) := by
  have e : (as.map fun a => PyData.bool (p a)) = (as.map p).map PyData.bool := by rw [List.map_map]; rfl
  unfold bAny
  dsimp only
  rw [e, bools?_map]
  dsimp only
  rw [List.any_map]
  rfl
end Ew
namespace Ew
open PySem PySem.Spec PyProof.Rows L2
/-! ## list.index of whole numbers, constant tuples of a module -/
def oIdx (ns : List Int) (y : D) : M D := match y with
  | .int n => if n ∈ ns then M.ret (.int (ns.idxOf n : Nat)) else M.stuck
  | _ => M.stuck
def dIdx (A B : DE) : DE := fun ρ => M.bnd (A ρ) fun x => match x with
  | .list xs => (match ints? xs with
    | some ns => M.bnd (B ρ) (oIdx ns)
    | none => M.stuck)
  | _ => M.stuck
section
variable {X : Cx} {W : WX} {a b : Expr} {A B : DE} {p1 p2 pos : Pos}
theorem idx_facts {n : Int} {ns : List Int} (h : n ∈ ns) : ns[ns.idxOf n]? = some n ∧ ∀ m z, m < ns.idxOf n → ns[m]? = some z → z ≠ n := by
  have hl : ns.idxOf n < ns.length := List.idxOf_lt_length_iff.mpr h
  refine ⟨by rw [List.getElem?_eq_getElem hl]; exact congrArg some (List.getElem_idxOf hl), fun m z hm hz e => ?_⟩
  subst e
  obtain ⟨h1, h2⟩ := List.getElem?_eq_some_iff.mp hz
  have h3 : ns.idxOf z ≤ m := by
    clear hm hz h hl
    induction ns generalizing m with
    | nil => cases h1
    | cons y ys ih =>
      cases m with
      | zero => simp at h2; subst h2; simp
      | succ m =>
        rw [List.idxOf_cons]
        have := ih m (by simpa using h1) (by simpa using h2)
        by_cases hy : (y == z) = true
        · simp [hy]
        · simp [hy]; omega
  omega
theorem pd_index (ha : PDe X W a A) (hb : PDe X W b B)
    (hbase : attributeBase a "index" X.env (eval a X.env) = eval a X.env := by rfl)
    (hfew : ((backTo pos (starEach (b :: []) X.env)).all (fun x => !x.1) && (backToKw pos (keywordEach [] X.env)).all (fun x => x.1.isSome)
      && decide ((b :: []).length + ([] : List Keyword).length + (if ([] : List Keyword).isEmpty then 0 else 1) < 30)) = true := by rfl)
    (hline : (p1.endLine == pos.line) = true := by rfl) (hs : starEach (b :: []) X.env = (false, eval b X.env) :: starEach [] X.env := by rfl) (hplain : (backTo pos (starEach [] X.env)).any (·.1) = false := by rfl) :
    PDe X W (.Call (.Attribute a "index" p1) [b] [] pos) (dIdx A B) := by
  obtain ⟨ta, a1, a2⟩ := ha
  obtain ⟨tb, b1, b2⟩ := hb
  refine ⟨_, pe_bm PySem.F.plainAttrs_list PySem.F.slot_list_index PySem.F.type_list_index mt_index a1 (pa_cons b1 pa_nil hs) hbase hfew hline hs hplain, ?_⟩
  refine rd_bnd (ValA := fun _ Z H v d => Rp X.K Z H v d) (f := fun ρ x => match x with
    | .list xs => (match ints? xs with
      | some ns => M.bnd (B ρ) (oIdx ns)
      | none => M.stuck)
    | _ => M.stuck) (k := fun x σ H Q => tyV X.K "list" x H ∧ tb σ H fun y H2 => rIndex X.K x [y] H2 Q) sh_rp (fun _ _ _ _ _ _ h => h) a2 fun p sc Z σ H ρ q x dx Q s hv hp => ?_
  cases hv with
  | lst h1 z rs =>
    rename_i l vs ds
    dsimp only at hp
    cases e : ints? ds with
    | none => rw [e] at hp; exact hp.elim
    | some ns =>
      rw [e] at hp
      obtain ⟨rfl, rfl⟩ := ints_rp rs e
      refine ⟨.inl ⟨rfl, _, .inl (.inl h1)⟩, ?_⟩
      refine b2 p sc Z σ H ρ q _ s ((Post.bnd (Rel := RpF X.K p Z H) (Rel' := RpF X.K p Z H) hp).to fun y H1 ⟨dy, q1, e1, k1, pl1, r1, hp1⟩ => ?_)
      have hlp : l ≠ p := fun e => by subst e; exact s.nz z
      have h2 := k1 l _ hlp h1
      cases r1 with
      | int n =>
        unfold oIdx at hp1
        dsimp only at hp1
        by_cases hn : n ∈ ns
        · rw [if_pos hn] at hp1
          obtain ⟨f1, f2⟩ := idx_facts hn
          refine ⟨l, ns.map V.int, .int n, ns.idxOf n, .int n, rfl, rfl, .inl (.inl h2), rfl, ?_, by rw [List.getElem?_map, f1]; rfl, ?_, fun m z' hm hz' => ?_, ?_⟩
          · rw [List.all_eq_true]
            intro w hw
            obtain ⟨i, _, rfl⟩ := List.mem_map.mp hw
            rfl
          · simp [eqV]
          · rw [List.getElem?_map] at hz'
            cases e3 : ns[m]? with
            | none => rw [e3] at hz'; cases hz'
            | some i =>
              rw [e3] at hz'
              cases hz'
              have := f2 m i hm e3
              simp [eqV, this]
          · exact (hp1.later k1) _ H1 (Keep.refl _ _) pl1 (.int _)
        · rw [if_neg hn] at hp1; exact hp1.elim
      | _ => exact hp1.elim
  | _ => exact hp.elim
/-- a constant tuple -/
theorem pd_gtup {x : Str} {vs : List V} {ds : List D} (hg : Gl X x) (hm : ∃ a, X.mg x = some (.ref a) ∧ ∀ H, SqT X.K H a vs) (hr : ∀ Z H, RpL X.K Z H vs ds) (hd : (x == ("__debug__" : Str)) = false := by decide) : PDe X W (.Name x pos) (dC (.tuple ds)) := by
  obtain ⟨t, hm, hs⟩ := hm
  exact pd_glob (v := .ref t) hg hm rfl (fun _ _ => .tup (hs _) (hr _ _)) hd
/-- int(x) -/
def bInt (x : D) : M D := match x with
  | .int i => M.ret (.int i)
  | .bool b => M.ret (.int (if b then 1 else 0))
  | _ => M.stuck
theorem pd_int1 (hg : Gl X "int") (hm : X.mg "int" = none) (ha : PDe X W a A) (he : starEach [a] X.env = (false, eval a X.env) :: starEach [] X.env := by rfl) (hpl : (backTo pos (starEach [] X.env)).any (·.1) = false := by rfl) : PDe X W (.Call (.Name "int" p1) [a] [] pos) (dUn bInt A) :=
  pd_t1 call_int1 (fun p sc Z σ H q x dx Q pl nz hx hp => by
    cases hx with
    | int i => exact .inl ⟨i, rfl, hp _ H (Keep.refl _ _) pl (.int _)⟩
    | bl b => exact .inr ⟨b, rfl, hp _ H (Keep.refl _ _) pl (.int _)⟩
    | _ => exact hp.elim) hg hm boot_intT ha (by decide) (by decide) he hpl
end
theorem int_i (i : Int) : bInt (.int i) = M.ret (.int i) := nr rfl
theorem int_b (b : Bool) : bInt (.bool b) = M.ret (.int (if b then 1 else 0)) := nr rfl
theorem at_idx (A B : DE) (ρ : Rho) {ns : List Int} (h : A ρ = M.ret (.list (ns.map .int))) : dIdx A B ρ = M.bnd (B ρ) (oIdx ns) := by
  unfold dIdx
  rw [h, bnd_ret]
  dsimp only
  rw [ints?_map]
theorem at_swhile (n : Nat) (t : DT) (B : DS) (ρ : Rho) : sWhile n t B ρ = whileGo t B n ρ := nr rfl
theorem at_spar (i j : Nat) (es : List DE) (ρ : Rho) : sPar i j es ρ = M.bnd (dEach es (hideR ρ)) fun vs => (match vs with
  | [v, w] => M.ret (.next ((ρ.set i (some (.dat v))).set j (some (.dat w))))
  | _ => M.stuck) := nr rfl
theorem at_r3 (a b c : DE) (ρ : Rho) : iR3 a b c ρ = M.bnd (a ρ) fun x => M.bnd (b ρ) fun y => M.bnd (c ρ) fun z => rng3 x y z := nr rfl
theorem notin_ints_l (n : Int) (ns : List Int) : oNotIn (.int n) (.list (ns.map .int)) = M.ret (.bool (!decide (n ∈ ns))) := by
  unfold oNotIn oHas has?
  dsimp only
  rw [ints?_map]
theorem mod_ok {i j : Int} (h : 0 < j) : oMod (.int i) (.int j) = M.ret (.int (i % j)) := if_pos h
theorem fdiv_w {i j : Int} (h : 0 < j) (h2 : j < 2 ^ 2000) : oFdiv (.int i) (.int j) = M.ret (.int (i / j)) := if_pos ⟨h, h2⟩
theorem abs_i (i : Int) : bAbs (.int i) = M.ret (.int (if i < 0 then -i else i)) := nr rfl
theorem abs_n (i : Int) : bAbs (.int i) = M.ret (.int (i.natAbs : Int)) := by
  rw [abs_i]
  congr 2
  split <;> omega

theorem ix_at {xs : List D} {x : D} {i : Int} (h0 : 0 ≤ i) (h : xs[i.toNat]? = some x) : oIx (.list xs) (.int i) = M.ret x := by
  have z := oIx_l h
  rwa [Int.toNat_of_nonneg h0] at z
theorem ix_att {xs : List D} {x : D} {i : Int} (h0 : 0 ≤ i) (h : xs[i.toNat]? = some x) : oIx (.tuple xs) (.int i) = M.ret x := by
  have z := oIx_t h
  rwa [Int.toNat_of_nonneg h0] at z
theorem pick_of {xs : List D} {n : Int} {P : D → Prop} (h0 : 0 ≤ n) (hn : n.toNat < xs.length) (h : ∀ x ∈ xs, P x) : ∃ x, oIx (.tuple xs) (.int n) = M.ret x ∧ P x :=
  ⟨xs[n.toNat], ix_att h0 (List.getElem?_eq_getElem hn), h _ (List.getElem_mem hn)⟩
/-! the head's hook, with facts of one's own -/
def obsEG (n : Nat) (fa : List He.Fa) (fn : List He.DefD) (ex : PySem.W.Frag → Bool) (g : Addr → Option Obj) : He.AlD × Bool := (He.obsD fa fn (He.frG g (He.asD g n)), ex (He.frG g (He.asD g n)))
def hookE (n : Nat) (fa : List He.Fa) (fn : List He.DefD) (ex : PySem.W.Frag → Bool) : PySem.W.Hook where
  α := He.AlD × Bool
  obs := fun s => obsEG n fa fn ex s.heap.get?
  val := fun _ => (He.valD fn, true)
  says := fun _ h => ∃ K : PySem.W.Frag, K.In h ∧ He.SaysD fa fn K ∧ ex K = true
  of := fun _ _ e => ⟨_, He.frG_in, congrArg Prod.fst e, congrArg Prod.snd e⟩
  keeps := fun _ _ _ ⟨K, hK, c⟩ k => ⟨K, PySem.W.Frag.In.keeps hK k, c⟩
theorem obsEG_eq {n : Nat} {fa : List He.Fa} {fn : List He.DefD} {ex : PySem.W.Frag → Bool} {g : Addr → Option Obj} {s : Shared} (h : ∀ a, g a = s.heap.get? a) : obsEG n fa fn ex g = (hookE n fa fn ex).obs s := by
  have e : g = s.heap.get? := funext h
  rw [e] <;> rfl
theorem ba3 {a b : Bool} (h : (a && b) = true) : a = true ∧ b = true := Bool.and_eq_true_iff.mp h
theorem gtup_of {K : PySem.W.Frag} {h : Heap} {mg : Str → Option Value} (X : K.In h) (G : h.Ns mainGlobals mg) {x : Str} {vs : List He.Dv} (c : (He.Fa.glo x).ok K = true) (e : He.tupB K x vs = true) : ∃ a, mg x = some (.ref a) ∧ ∀ H, SqT K H a (vs.map (He.Dv.v K)) :=
  ⟨_, He.glo_ok X G c, He.tupB_ok e⟩
end Ew
namespace Ew
open PySem PySem.Spec PyProof.Rows L2
/-! ## {name: e, ..} as data, d[e] -/
def dDis (ks : List Str) (es : List DE) : DE := fun ρ => M.bnd (dEach es ρ) fun vs => M.ret (.dict ((ks.map PyData.str).zip vs))
def findS (k : Str) : List (D × D) → Option D
  | [] => none
  | (.str j, v) :: r => if j = k then some v else findS k r
  | _ :: r => findS k r
def findI (k : Int) : List (D × D) → Option D
  | [] => none
  | (.int j, v) :: r => if j = k then some v else findI k r
  | _ :: r => findI k r
def oDGet (x y : D) : M D := match x, y with
  | .dict ds, .str k => (match findS k ds with
    | some d => M.ret d
    | none => M.stuck)
  | .dict ds, .int k => (match findI k ds with
    | some d => M.ret d
    | none => M.stuck)
  | _, _ => M.stuck
section
variable {X : Cx} {W : WX} {e a b : Expr} {A B : DE} {pos : Pos}
abbrev PrF (K : PySem.W.Frag) (ks : List Str) : RelT (List (V × V)) (List D) := fun _ Z H H' ps ds => ps.map (·.1) = ks.map V.str ∧ RpL K (Zn Z H) H' (ps.map (·.2)) ds
theorem sh_pr {K : PySem.W.Frag} {ks : List Str} : Shf (PrF K ks) := fun p sc Z H H2 H' q q2 b a k pl pl2 r => ⟨r.1, r.2.grow (Zn.twice k pl pl2)⟩
def PDp (X : Cx) (W : WX) (pos : Pos) (keys : List (Option Expr)) (vals : List Expr) (ks : List Str) (As : List DE) : Prop := ∃ trs, PPs X pos keys vals trs ∧ Rd1 X W (PrF X.K ks) (tPairs trs) (dEach As)
theorem pdp_nil : PDp X W pos [] [] [] [] := ⟨_, pps_nil, fun p sc Z σ H ρ q Q s hp => hp [] H (Keep.refl _ _) s.pool ⟨rfl, .nil⟩⟩
theorem pdp_cons {k : Str} {j : Nat} {kp : Pos} {keys : List (Option Expr)} {vals : List Expr} {ks : List Str} {As : List DE} (ha : PDe X W e A) (hr : PDp X W pos keys vals ks As) : PDp X W pos (some (.Constant (.str k) j kp) :: keys) (e :: vals) (k :: ks) (A :: As) := by
  obtain ⟨t, h1, h2⟩ := ha
  obtain ⟨u, g1, g2⟩ := hr
  refine ⟨_, pps_cons pe_str h1 g1, ?_⟩
  refine rd_bnd (RelF := PrF X.K (k :: ks)) (ValA := fun _ Z H v d => Rp X.K Z H v d) (f := fun ρ x => M.bnd (dEach As ρ) fun xs => M.ret (x :: xs)) (k := fun x σ H Q => tPairs u σ H fun xs H2 => Q ((.str k, x) :: xs) H2) sh_pr (fun _ _ _ _ _ _ h => h) h2 fun p sc Z σ H ρ q x dx Q s hv hp => ?_
  refine g2 p sc Z σ H ρ q _ s ((Post.bnd (Rel := PrF X.K ks p Z H) (Rel' := PrF X.K (k :: ks) p Z H) hp).to fun xs H1 ⟨ds, q1, e1, k1, pl1, r1, hp1⟩ => ?_)
  exact hp1 ((.str k, x) :: xs) H1 k1 pl1 ⟨by rw [List.map_cons, List.map_cons, r1.1], .cons ((hv.stand (k1.stand s.pool s.nz)).grow Zn.base) r1.2⟩
theorem pairs_made : ∀ (ks : List Str) (ps : List (V × V)), ps.map (·.1) = ks.map V.str → ∃ kvs : List (Key × V), ps = kvs.map (fun kv => (kV kv.1, kv.2)) ∧ kvs.map (·.1) = ks.map .inr ∧ kvs.map (·.2) = ps.map (·.2)
  | [], [], _ => ⟨[], rfl, rfl, rfl⟩
  | [], _ :: _, h => nomatch h
  | _ :: _, [], h => nomatch h
  | k :: ks, p :: ps, h => by
    rw [List.map_cons, List.map_cons, List.cons.injEq] at h
    obtain ⟨kvs, h1, h2, h3⟩ := pairs_made ks ps h.2
    refine ⟨(.inr k, p.2) :: kvs, ?_, by rw [List.map_cons, List.map_cons, h2], by rw [List.map_cons, List.map_cons, h3]⟩
    rw [List.map_cons, ← h1]
    congr 1
    exact Prod.ext h.1 rfl
theorem merge_new : ∀ (more kvs : List (Key × V)), (more.map (·.1)).Nodup → (∀ k ∈ more.map (·.1), k ∉ kvs.map (·.1)) → mergeK kvs more = kvs ++ more
  | [], kvs, _, _ => (List.append_nil _).symm
  | m :: more, kvs, hn, hd => by
    rw [List.map_cons, List.nodup_cons] at hn
    have h1 : m.1 ∉ kvs.map (·.1) := hd m.1 (by simp)
    have e : putK kvs m.1 m.2 = kvs ++ [m] := by
      unfold putK
      rw [if_neg]
      intro z
      rw [List.any_eq_true] at z
      obtain ⟨x, hx, hk⟩ := z
      exact h1 (List.mem_map.mpr ⟨x, hx, of_decide_eq_true hk⟩)
    show mergeK (putK kvs m.1 m.2) more = _
    rw [e, merge_new more _ hn.2 fun k hk => ?_, List.append_assoc]
    · rfl
    · rw [List.map_append, List.mem_append]
      rintro (z | z)
      · exact hd k (List.mem_cons_of_mem _ hk) z
      · rw [List.map_singleton, List.mem_singleton] at z
        exact hn.1 (z ▸ hk)
theorem EnvR.sub {K : PySem.W.Frag} {p : Addr} {Z Z' : Rg} {σ : L2.St} {H : Hp} {ρ : Rho} (e : EnvR K p Z σ H ρ) (s : ∀ b, Z b → H b ≠ none → Z' b) : EnvR K p Z' σ H ρ := fun i sl h => by
  have q := e i sl h
  cases z : sl.val? with
  | some d =>
    rw [z] at q
    obtain ⟨v, h1, h2⟩ := q
    exact ⟨v, h1, h2.sub s⟩
  | none =>
    rw [z] at q
    exact q
theorem zip_dict {ks : List Str} {kvs : List (Key × V)} {ds : List D} (h : kvs.map (·.1) = ks.map .inr) (hl : kvs.length = ds.length) : ((ks.map PyData.str).zip ds).map (fun q => q.1) = kvs.map (fun q => keyD q.1) ∧ ((ks.map PyData.str).zip ds).map (fun q => q.2) = ds := by
  have hk : ks.length = ds.length := by
    have := congrArg List.length h
    rw [List.length_map, List.length_map] at this
    omega
  refine ⟨?_, ?_⟩
  · have e : ((ks.map PyData.str).zip ds).map (fun q => q.1) = ks.map PyData.str := List.map_fst_zip (by rw [List.length_map]; omega)
    rw [e]
    have e2 : kvs.map (fun q => keyD q.1) = (kvs.map (·.1)).map keyD := by rw [List.map_map]; rfl
    rw [e2, h, List.map_map]
    rfl
  · exact List.map_snd_zip (by rw [List.length_map]; omega)
theorem pd_dis {keys : List (Option Expr)} {vals : List Expr} {ks : List Str} {As : List DE} (h : PDp X W pos keys vals ks As) (hn : ks.Nodup := by decide) (hall : keys.all (·.isSome) = true := by rfl) (hl : keys.length = vals.length := by rfl) (h0 : keys ≠ [] := by exact fun z => nomatch z)
    (h15 : keys.length ≤ 15 := by decide) (hk : ks.length ≤ 15 := by decide) : PDe X W (.Dict keys vals pos) (dDis ks As) := by
  obtain ⟨trs, h1, h2⟩ := h
  refine ⟨_, pe_disp h1 hall hl h0 h15, fun p sc Z σ H ρ q Q s hp a ha => ?_⟩
  have hap : p ≠ a := ne_of_none s.pool.1 ha
  have hsc : sc ≠ a := ne_of_none s.pool.2.1 ha
  have k0 : Keep p H (upd H a (.dK [])) := new_keep ha
  have s0 : Sit X.K p sc (fun b => Z b ∧ b ≠ a) σ (upd H a (.dK [])) ρ q := by
    have e1 : EnvR X.K p (fun b => Z b ∧ b ≠ a) σ H ρ := s.env.sub fun b z n => ⟨z, fun e => n (e ▸ ha)⟩
    exact ⟨e1.stand (new_stand ha), new_pool ha s.pool, fun z => s.nz z.1, s.len⟩
  refine h2 p sc _ σ _ ρ q _ s0 ?_
  have hp' : Post X.mg p sc H (RpF X.K p Z H) (fun c od H' => W c od σ H') Q (M.bnd (dEach As ρ) (fun vs => M.ret (PyData.dict ((ks.map PyData.str).zip vs))) q) := hp
  unfold M.bnd at hp'
  cases e : dEach As ρ q with
  | ok ds q1 =>
    rw [e] at hp'
    intro ps H2 k2 pl2 r2
    have k2' : Keep p (upd H a (.dK [])) H2 := k2
    have hH2 : H2 a = some (.dK []) := k2' a _ hap.symm upd_same
    obtain ⟨kvs, e1, e2, e3⟩ := pairs_made ks ps r2.1
    have hlen : kvs.length = ks.length := by
      have := congrArg List.length e2
      rwa [List.length_map, List.length_map] at this
    have hnd : (kvs.map (·.1)).Nodup := by
      rw [e2]
      exact List.Pairwise.map _ (fun x y h z => h (Sum.inr.inj z)) hn
    refine ⟨hH2, kvs, e1, by omega, ?_⟩
    rw [merge_new kvs [] hnd (fun k _ z => nomatch z), List.nil_append]
    have rl : RpL X.K (Zn (fun b => Z b ∧ b ≠ a) (upd H a (.dK []))) H2 (kvs.map (·.2)) ds := by rw [e3]; exact r2.2
    have hlz : kvs.length = ds.length := by
      have := rl.length
      rwa [List.length_map] at this
    obtain ⟨z1, z2⟩ := zip_dict (ds := ds) e2 hlz
    have na : ∀ b, Zn (fun b => Z b ∧ b ≠ a) (upd H a (.dK [])) b → b ≠ a := fun b z => by
      rcases z with z | z
      · exact z.2
      · intro e
        rw [e, upd_same] at z
        cases z
    have st : Stand (Zn (fun b => Z b ∧ b ≠ a) (upd H a (.dK []))) H2 (upd H2 a (.dK kvs)) := ⟨fun b o z h => by rw [upd_ne (na b z)]; exact h, fun b xs h => by rw [upd_ne (fun x => by rw [x, hH2] at h; cases h)]; exact h, fun b o u h => by rw [upd_ne (fun x => by rw [x, hH2] at h; cases h)]; exact h⟩
    refine hp' (.ref a) _ (fun b o nb hb => ?_) ⟨by rw [upd_ne hap]; exact pl2.1, by rw [upd_ne hsc]; exact pl2.2.1, pl2.2.2⟩ (.dic (.inl upd_same) (.inr ha) z1 ?_)
    · have hba : b ≠ a := ne_of_none hb ha
      rw [upd_ne hba]
      exact k2' b o nb (by rw [upd_ne hba]; exact hb)
    · rw [z2]
      refine (rl.stand st).grow fun b z => ?_
      rcases z with z | z
      · exact .inl z.1
      · refine .inr ?_
        by_cases hb : b = a
        · rw [hb]; exact ha
        · rwa [upd_ne hb] at z
  | err x q1 =>
    rw [e] at hp'
    exact fun c od H' k pl rl => hp' c od H' (k0.trans k) pl rl
  | stuck =>
    rw [e] at hp'
    exact hp'.elim
theorem find_at {K : PySem.W.Frag} {Z : Rg} {H : Hp} {d : D} (k : Key) : ∀ (kvs : List (Key × V)) (ds : List (D × D)), ds.map (fun q => q.1) = kvs.map (fun q => keyD q.1) → RpL K Z H (kvs.map fun q => q.2) (ds.map fun q => q.2) →
    (match k with | .inl i => findI i ds | .inr x => findS x ds) = some d → ∃ v, valV kvs k = some v ∧ Rp K Z H v d
  | [], [], _, _, h => by cases k <;> cases h
  | [], _ :: _, h, _, _ => nomatch h
  | _ :: _, [], h, _, _ => nomatch h
  | m :: kvs, n :: ds, h, r, f => by
    rw [List.map_cons, List.map_cons, List.cons.injEq] at h
    rw [List.map_cons, List.map_cons] at r
    cases r with
    | cons r0 rs =>
      obtain ⟨n1, n2⟩ := n
      obtain ⟨m1, m2⟩ := m
      have hn : n1 = keyD m1 := h.1
      subst hn
      cases k with
      | inl i =>
        cases m1 with
        | inl j =>
          have f' : (if j = i then some n2 else findI i ds) = some d := f
          by_cases hj : j = i
          · subst hj
            rw [if_pos rfl] at f'
            cases f'
            exact ⟨m2, valV_pos rfl, r0⟩
          · rw [if_neg hj] at f'
            obtain ⟨v, e1, e2⟩ := find_at (.inl i) kvs ds h.2 rs f'
            exact ⟨v, by rw [valV_neg (fun z => hj (Sum.inl.inj z))]; exact e1, e2⟩
        | inr j =>
          obtain ⟨v, e1, e2⟩ := find_at (.inl i) kvs ds h.2 rs f
          exact ⟨v, by rw [valV_neg (by intro z; cases z)]; exact e1, e2⟩
      | inr i =>
        cases m1 with
        | inr j =>
          have f' : (if j = i then some n2 else findS i ds) = some d := f
          by_cases hj : j = i
          · subst hj
            rw [if_pos rfl] at f'
            cases f'
            exact ⟨m2, valV_pos rfl, r0⟩
          · rw [if_neg hj] at f'
            obtain ⟨v, e1, e2⟩ := find_at (.inr i) kvs ds h.2 rs f'
            exact ⟨v, by rw [valV_neg (fun z => hj (Sum.inr.inj z))]; exact e1, e2⟩
        | inl j =>
          obtain ⟨v, e1, e2⟩ := find_at (.inr i) kvs ds h.2 rs f
          exact ⟨v, by rw [valV_neg (by intro z; cases z)]; exact e1, e2⟩
theorem dget_k {H : Hp} {a : Addr} {kvs : List (Key × V)} {k : Key} (e : Rd H a (.dK kvs)) : DGet H a (kV k) (valV kvs k) := .inl ⟨kvs, k, e, rfl, rfl⟩
theorem pd_dget (hu : X.A.units + deep < cLine) (ha : PDe X W a A) (hb : PDe X W b B) (hs : NoSl b := by exact fun _ _ => rfl) : PDe X W (.Subscript a b pos) (dBin oDGet A B) := by
  obtain ⟨ta, a1, a2⟩ := ha
  obtain ⟨tb, b1, b2⟩ := hb
  refine ⟨_, pe_dget (by unfold deep at hu; omega) a1 b1 hs, rd_2 (r := fun x y H Q => ∃ a v, x = .ref a ∧ DGet H a y (some v) ∧ Q v H) sh_rp (fun p sc Z σ H q x y dx dy Q pl nz hx hy hp => ?_) a2 b2⟩
  cases hx with
  | dic h1 z hk rs =>
    rename_i l kvs ds
    cases hy with
    | str k =>
      unfold oDGet at hp
      dsimp only at hp
      cases e : findS k ds with
      | none => rw [e] at hp; exact hp.elim
      | some d =>
        rw [e] at hp
        obtain ⟨v, e1, e2⟩ := find_at (.inr k) kvs ds hk rs e
        exact ⟨l, v, rfl, by rw [← e1]; exact dget_k (k := .inr k) h1, hp v H (Keep.refl _ _) pl (e2.grow Zn.base)⟩
    | int k =>
      unfold oDGet at hp
      dsimp only at hp
      cases e : findI k ds with
      | none => rw [e] at hp; exact hp.elim
      | some d =>
        rw [e] at hp
        obtain ⟨v, e1, e2⟩ := find_at (.inl k) kvs ds hk rs e
        exact ⟨l, v, rfl, by rw [← e1]; exact dget_k (k := .inl k) h1, hp v H (Keep.refl _ _) pl (e2.grow Zn.base)⟩
    | _ => exact hp.elim
  | _ => exact hp.elim
end
/-- a if t else b, as a test -/
def tIfT (t a b : DT) : DT := fun ρ => M.bnd (t ρ) fun c => if c = true then a ρ else b ρ
section
variable {X : Cx} {W : WX} {c a b : Expr} {T A B : DT} {pos : Pos}
theorem pdt_if (ht : PDt X W c T) (ha : PDt X W a A) (hb : PDt X W b B) : PDt X W (.IfExp c a b pos) (tIfT T A B) := by
  obtain ⟨t, h1, h2⟩ := ht
  obtain ⟨u, g1, g2⟩ := ha
  obtain ⟨v, k1, k2⟩ := hb
  refine ⟨fun σ H Q => t σ H fun c H1 => if c = true then u σ H1 Q else v σ H1 Q, ⟨fun pins s σ H Q I h => ?_⟩, rd_if sh_bo h2 g2 k2⟩
  refine isTrue_IfExp (thn (h1.run pins s σ H _ I h) fun d s1 ⟨H1, I1, q1⟩ => ?_)
  cases d with
  | true => exact g1.run pins s1 σ H1 Q I1 q1
  | false => exact k1.run pins s1 σ H1 Q I1 q1
end
theorem at_tif (t a b : DT) (ρ : Rho) : tIfT t a b ρ = M.bnd (t ρ) fun c => if c = true then a ρ else b ρ := nr rfl
theorem at_dis (ks : List Str) (es : List DE) (ρ : Rho) : dDis ks es ρ = M.bnd (dEach es ρ) fun vs => M.ret (.dict ((ks.map PyData.str).zip vs)) := nr rfl
end Ew
namespace Ew
open PySem PySem.Spec PyProof.Rows L2
/-! ## tuple * int -/
theorem tuple_mul1 (l : Addr) (items : Array Value) (n : Nat) (dd : Option Addr) (sl : Array (Option Value)) (u : Tok) :
    Meets (Builtin.«tuple.__mul__» ⟨[.ref l, .int 1 u], []⟩) (fun _ R s => s.heap.get? l = some { cls := .type "tuple", dict := dd, data := .seq items n, slots := sl } ∧
      R (.ok (.ret (Value.ref l))) s) :=
  .of_wp fun prog w A R s h => by
    obtain ⟨hp, g, d, tk, os⟩ := s
    obtain ⟨hl, h⟩ := h
    have f1 := AutoSeq1.idx_int
    have c1 : (items.isEmpty || (1 : Int) == 1) = true := by simp
    wp_walk using wpAny_loadPart' hl
    exact ⟨_, rfl, h⟩
theorem tuple_mul0 (l : Addr) (items : Array Value) (n : Nat) (dd : Option Addr) (sl : Array (Option Value)) (u : Tok) (c1 : (items.isEmpty || (0 : Int) == 1) = false) :
    Meets (Builtin.«tuple.__mul__» ⟨[.ref l, .int 0 u], []⟩) (fun _ R s => s.heap.get? l = some { cls := .type "tuple", dict := dd, data := .seq items n, slots := sl } ∧
      R (.ok (.ret (Value.ref s.heap.objs.size))) { s with heap := s.heap.push { cls := Value.type "tuple", data := Data.seq #[] }, toks := s.toks }) :=
  .of_wp fun prog w A R s h => by
    obtain ⟨hp, g, d, tk, os⟩ := s
    obtain ⟨hl, h⟩ := h
    have f1 := AutoSeq1.idx_int
    have c2 : (decide ((0 : Int) ≤ 0) || items.isEmpty) = true := by simp
    wp_walk using wpAny_loadPart' hl
    refine wpAny_ite_false (decide_eq_false (by rw [c1]; exact Bool.false_ne_true)) ?_
    wp_walk using wpAny_loadPart' hl
    exact ⟨_, rfl, h⟩
def rRep01 (K : PySem.W.Frag) : R2 := fun x y H Q => ∃ l k xs, x = .ref l ∧ y = .int k ∧ SqT K H l xs ∧ xs ≠ [] ∧ ((k = 1 ∧ Q (.ref l) H) ∨ (k = 0 ∧ ∀ p, H p = none → Q (.ref p) (upd H p (.tup []))))
section
variable {X : Cx} {W : WX} {a b : Expr} {A B : DE} {pos : Pos}
theorem op_rep01 : OpR X (binaryOp .Mult) (rRep01 X.K) := by
  intro pins s σ H x y v u Q I rx ry h
  obtain ⟨l, k, xs, rfl, rfl, hT, hne, h⟩ := h
  cases rx
  obtain ⟨t, rfl⟩ := ry
  obtain ⟨its, r, ⟨⟨cls, dd, data, sl⟩, ho, hc, n, hd⟩, hs⟩ := I.tuple hT
  simp only at hc hd
  subst hc hd
  have hle : its.length = xs.length := r.length.symm
  have hn : its ≠ [] := fun e => hne (by
    rw [e] at hle
    exact List.eq_nil_of_length_eq_zero hle.symm)
  have hi : its.toArray.isEmpty = false := by
    cases its with
    | nil => exact absurd rfl hn
    | cons a b => rfl
  rcases h with ⟨rfl, q⟩ | ⟨rfl, q⟩
  · refine wpAny_binaryOp_repeat_ref (T := "tuple") (U := "int") (by decide) ⟨_, ho, rfl⟩ (fun s' => typeIs_int s' _ t) noFill_tuple_mul F.fills_int_mul F.slot_int_rmul repeat_tuple F.slot_int_index.lookup
      (call_meets F.slot_int_rmul (typeIs_int s _ t) F.entry_int_rmul (F.args_int_rmul_2 _ _) (int_rmul_tuple _ t l its.toArray n dd sl)
        ⟨ho, rfl, ⟨_, ho, rfl⟩, call_meets F.slot_tuple_mul ⟨_, ho, rfl⟩ F.entry_tuple_mul (F.args_tuple_mul_2 _ _) (tuple_mul1 l its.toArray n dd sl t) ⟨ho, ?_⟩⟩)
    exact ⟨.ref l, H, I, rfl, q⟩
  · refine wpAny_binaryOp_repeat_ref (T := "tuple") (U := "int") (by decide) ⟨_, ho, rfl⟩ (fun s' => typeIs_int s' _ t) noFill_tuple_mul F.fills_int_mul F.slot_int_rmul repeat_tuple F.slot_int_index.lookup
      (call_meets F.slot_int_rmul (typeIs_int s _ t) F.entry_int_rmul (F.args_int_rmul_2 _ _) (int_rmul_tuple _ t l its.toArray n dd sl)
        ⟨ho, rfl, ⟨_, ho, rfl⟩, call_meets F.slot_tuple_mul ⟨_, ho, rfl⟩ F.entry_tuple_mul (F.args_tuple_mul_2 _ _) (tuple_mul0 l its.toArray n dd sl t (by rw [hi]; rfl)) ⟨ho, ?_⟩⟩)
    refine ⟨.ref s.heap.objs.size, _, I.laid (t' := s.toks) (o := .tup []) (fun b ob q => Heap.get?_push_of_some _ q) (Nat.le_refl _) ?_, rfl, q _ (I.hok.fresh (Nat.le_refl _))⟩
    exact ⟨Nat.zero_le _, [], .nil, IsTup.new _ _⟩
def oMulT (x y : D) : M D := match x, y with
  | .tuple xs, .int k => if xs ≠ [] ∧ 0 ≤ k ∧ k ≤ 1000 ∧ xs.length ≤ 1000 then M.ret (.tuple (List.replicate k.toNat xs).flatten) else M.stuck
  | _, _ => M.stuck
theorem opd_mulT : OpD X W (binaryOp .Mult) oMulT := by
  refine ⟨_, OpR.or (op_rep01 (X := X)) op_repT, fun p sc Z σ H q x y dx dy Q pl nz hx hy hp => ?_⟩
  cases hx with
  | tup h1 rs =>
    rename_i l vs ds
    cases hy with
    | int k =>
      unfold oMulT at hp
      dsimp only at hp
      by_cases hc : ds ≠ [] ∧ 0 ≤ k ∧ k ≤ 1000 ∧ ds.length ≤ 1000
      · rw [if_pos hc] at hp
        have hne : vs ≠ [] := fun e => hc.1 (by
          have := rs.length
          rw [e] at this
          exact List.eq_nil_of_length_eq_zero this.symm)
        by_cases k1 : k = 1
        · subst k1
          refine .inl ⟨l, 1, vs, rfl, rfl, h1, hne, .inl ⟨rfl, hp _ H (Keep.refl _ _) pl ?_⟩⟩
          have e : (List.replicate (Int.toNat 1) ds).flatten = ds := by simp
          rw [e]
          exact .tup h1 (rs.grow Zn.base)
        · by_cases k0 : k = 0
          · subst k0
            refine .inl ⟨l, 0, vs, rfl, rfl, h1, hne, .inr ⟨rfl, fun a ha => hp _ _ (new_keep ha) (new_pool ha pl) ?_⟩⟩
            exact .tup (.inl (.inl upd_same)) .nil
          · refine .inr ⟨l, k, vs, rfl, rfl, h1, hne, by omega, hc.2.2.1, by rw [rs.length]; exact hc.2.2.2, fun a ha => hp _ _ (new_keep ha) (new_pool ha pl) ?_⟩
            exact .tup (.inl (.inl upd_same)) (((rep_rp rs k.toNat).stand (new_stand ha)).grow Zn.base)
      · rw [if_neg hc] at hp; exact hp.elim
    | _ => exact hp.elim
  | _ => exact hp.elim
end
theorem mulT_ok {xs : List D} {k : Int} (h : xs ≠ []) (h0 : 0 ≤ k ∧ k ≤ 1000) (hl : xs.length ≤ 1000) : oMulT (.tuple xs) (.int k) = M.ret (.tuple (List.replicate k.toNat xs).flatten) := if_pos ⟨h, h0.1, h0.2, hl⟩
end Ew
namespace Ew
open PySem PySem.Spec PyProof.Rows L2
/-! ## defs that give back a new list -/
/-- a list of the def's own, to be given back -/
def dOwn (i : Nat) : DE := fun ρ => match ρ[i]? with
  | some (some (.own ds)) => M.ret (.list ds)
  | _ => M.stuck
theorem at_ow0 (ds : List D) (ρ : Rho) : dOwn 0 (some (.own ds) :: ρ) = M.ret (.list ds) := nr rfl
theorem at_ows (i : Nat) (x : Option Slot) (ρ : Rho) : dOwn (i + 1) (x :: ρ) = dOwn i ρ := nr rfl
def isLst (m : M D) : M D := fun q => match m q with
  | .ok (.list ds) q' => .ok (.list ds) q'
  | .ok _ _ => .stuck
  | .err x q' => .err x q'
  | .stuck => .stuck
theorem isLst_ret (ds : List D) : isLst (M.ret (.list ds)) = M.ret (.list ds) := nr rfl
def dCallN (F : List Arg → M D) (as : List DA) : DE := fun ρ => M.bnd (dArgs as ρ) fun vs => isLst (F vs)
theorem at_calln (F : List Arg → M D) (as : List DA) (ρ : Rho) : dCallN F as ρ = M.bnd (dArgs as ρ) fun vs => isLst (F vs) := nr rfl
/-- THE PROMISE of a def that gives back a new list -/
def spN (K : PySem.W.Frag) (mg : Str → Option Value) (n : Nat) (F : List Arg → M D) : Sp := fun vs H Q E => vs.length = n ∧ ∃ (p sc : Addr) (Z : Rg) (q : Pool) (as : List Arg), PoolAt p sc H q ∧ ¬ Z p ∧ ArgR K p Z H vs as ∧
  (∀ d q', F as q = .ok d q' → ∃ ds, d = .list ds) ∧ Post mg p sc H (fun H' v d => NewF K p Z H H' v d) (fun c od H' => E c od H') Q (F as q)
structure FnN (X : Cx) (x : Str) (F : List Arg → M D) : Prop where
  ex : ∃ (k n : Nat) (f : Addr) (fd : FuncData) (ps : List Str), (∀ as q, as.length ≠ n → F as q = .stuck) ∧ FnOk X.prog X.w X.K X.mg X.base (L2.CX X.prog X.w) k f fd ps (spN X.K X.mg n F) ∧ Room k X.A ∧ X.mg x = some (.ref f) ∧ PySem.W.keepIn X.K (.ref f) = true ∧ Binds X.K fd ps []
section
variable {X : Cx} {W : WX} {e : Expr} {es : List Expr} {Ars : List DA} {pos : Pos}
theorem rd_callN {n : Nat} {F : List Arg → M D} {G : Rho → M (List Arg)} {t : TA} (hn : ∀ as q, as.length ≠ n → F as q = .stuck) (ht : Rd1 X W (ArF X.K) t G) : Rd1 X W (NewF X.K) (tCallS (spN X.K X.mg n F) (fun σ => WE W σ) t) (fun ρ => M.bnd (G ρ) fun vs => isLst (F vs)) := by
  intro p sc Z σ H ρ q Q s hp
  refine ht p sc Z σ H ρ q _ s ((Post.bnd (Rel := ArF X.K p Z H) (Rel' := NewF X.K p Z H) hp).to fun vs H1 ⟨as, q1, e1, k1, pl1, r1, hp1⟩ => ?_)
  have hl : ∀ d q', F as q1 = .ok d q' → ∃ ds, d = .list ds := fun d q' e => by
    unfold isLst at hp1
    rw [e] at hp1
    cases d with
    | list ds => exact ⟨ds, rfl⟩
    | _ => exact hp1.elim
  have e2 : isLst (F as) q1 = F as q1 := by
    unfold isLst
    cases e : F as q1 with
    | ok d q' =>
      obtain ⟨ds, rfl⟩ := hl d q' e
      rfl
    | err x q' => rfl
    | stuck => rfl
  rw [e2] at hp1
  refine ⟨?_, p, sc, Zn Z H, q1, as, pl1, Zn.nop s.pool s.nz, r1, hl, ?_⟩
  · rw [ArgR.length r1]
    refine Decidable.byContradiction fun z => ?_
    rw [hn as q1 z] at hp1
    exact hp1
  · exact (hp1.later k1).imp fun H' b a r => sh_new p sc Z H H1 H' q q1 b a k1 s.pool pl1 r
theorem pdf_callN {x : Str} {F : List Arg → M D} {pos' : Pos} (tk : Takes X W) (fn : FnN X x F) (hg : Gl X x) (ha : PDa X W (e :: es) (dArgs Ars)) (hdb : (x == ("__debug__" : Str)) = false := by decide)
    (he : starEach (e :: es) X.env = (false, eval e X.env) :: starEach es X.env := by rfl) (hpl : (backTo pos (starEach es X.env)).any (·.1) = false := by rfl) : PDf X W (.Call (.Name x pos') (e :: es) [] pos) (dCallN F Ars) := by
  obtain ⟨t, h1, h2⟩ := ha
  obtain ⟨k, n, f, fd, ps, hn, hf, hr, hm, hk, hb⟩ := fn.ex
  exact ⟨_, pe_callS hf hr hg hm hk hb (fun σ => passAt tk σ) h1 hdb he hpl, rd_callN hn h2⟩
end
/-! ### statements whose return is new -/
def PostN (K : PySem.W.Frag) (mg : Str → Option Value) (p sc : Addr) (Z0 : Rg) (H0 : Hp) (W : WX) (E : Ends) : R Out → Prop
  | .ok (.ret d) q' => ∀ v H', Keep p H0 H' → PoolAt p sc H' q' → NewF K p Z0 H0 H' v d → E.rt v H'
  | .ok _ _ => False
  | .err x q' => ∀ c od σ' H', Keep p H0 H' → PoolAt p sc H' q' → ExR mg H' x c od → W c od σ' H'
  | .stuck => False
def RdN (K : PySem.W.Frag) (mg : Str → Option Value) (W : WX) (t : TS) (F : DS) : Prop := ∀ (p sc : Addr) (Z0 : Rg) (H0 : Hp) (Z : Rg) (σ : L2.St) (H : Hp) (ρ : Rho) (q : Pool) (E : Ends), BR K p sc Z0 H0 Z σ H ρ q → PostN K mg p sc Z0 H0 W E (F ρ q) → t E σ H
def PSn (X : Cx) (W : WX) (s : List Stmt) (F : DS) : Prop := ∃ t, PSs X s t ∧ RdN X.K X.mg W t F
/-- it goes on to the next, if it ends -/
def ON (m : M Out) : Prop := ∀ q o q', m q = .ok o q' → ∃ ρ', o = .next ρ'
theorem on_ret (ρ : Rho) : ON (M.ret (.next ρ)) := fun q o q' e => by cases e; exact ⟨_, rfl⟩
theorem on_stuck : ON M.stuck := fun q o q' e => by cases e
theorem on_bnd {α : Type} {m : M α} {f : α → M Out} (h : ∀ a, ON (f a)) : ON (M.bnd m f) := fun q o q' e => by
  unfold M.bnd at e
  cases em : m q with
  | ok a q1 => rw [em] at e; exact h a q1 o q' e
  | err x q1 => rw [em] at e; cases e
  | stuck => rw [em] at e; cases e
theorem on_seq {A B : DS} (ha : ∀ ρ, ON (A ρ)) (hb : ∀ ρ, ON (B ρ)) (ρ : Rho) : ON (sSeq A B ρ) := fun q o q' e => by
  unfold sSeq M.bnd at e
  cases em : A ρ q with
  | ok a q1 =>
    rw [em] at e
    obtain ⟨ρ', rfl⟩ := ha ρ q a q1 em
    exact hb ρ' q1 o q' e
  | err x q1 => rw [em] at e; cases e
  | stuck => rw [em] at e; cases e
theorem on_asg (g : Tgt) (e : DE) (ρ : Rho) : ON (sAsg g e ρ) := on_bnd fun d => on_bnd fun r => on_ret r
theorem on_nil (ρ : Rho) : ON (sNil ρ) := on_ret ρ
theorem on_if {t : DT} {A B : DS} (ha : ∀ ρ, ON (A ρ)) (hb : ∀ ρ, ON (B ρ)) (ρ : Rho) : ON (sIf t A B ρ) := on_bnd fun c => by cases c <;> first | exact ha ρ | exact hb ρ
theorem on_own (i : Nat) (e : DE) (ρ : Rho) : ON (sOwn i e ρ) := on_bnd fun d => by
  cases d <;> first | exact on_stuck | exact on_ret _
theorem on_app (i : Nat) (e : DE) (ρ : Rho) : ON (sApp i e ρ) := by
  unfold sApp
  split
  · refine on_bnd fun d => ?_
    split
    · exact on_ret _
    · exact on_stuck
  · exact on_stuck
theorem on_ext (i : Nat) (e : DE) (ρ : Rho) : ON (sExt i e ρ) := by
  unfold sExt
  split
  · refine on_bnd fun d => ?_
    split
    · split
      · exact on_ret _
      · exact on_stuck
    · exact on_stuck
  · exact on_stuck
theorem on_go {g : Tgt} {B : DS} (hb : ∀ ρ, ON (B ρ)) : ∀ (xs : List D) (ρ : Rho), ON (forGo g B xs ρ)
  | [], ρ => on_ret ρ
  | x :: xs, ρ => by
    have e : forGo g B (x :: xs) ρ = M.bnd (M.bnd (g x ρ) B) fun o => (match o with
      | .next ρ2 => forGo g B xs ρ2
      | .cont ρ2 => forGo g B xs ρ2
      | .brk ρ2 => M.ret (.next ρ2)
      | .ret d => M.ret (.ret d)) := (bnd_bnd _ _ _).symm
    rw [e]
    intro q o q' h
    unfold M.bnd at h
    cases eg : g x ρ q with
    | ok r q1 =>
      rw [eg] at h
      cases eb : B r q1 with
      | ok o2 q2 =>
        obtain ⟨r2, rfl⟩ := hb r q1 o2 q2 eb
        simp only [eb] at h
        exact on_go hb xs r2 q2 o q' h
      | err x q2 => simp only [eb] at h; cases h
      | stuck => simp only [eb] at h; cases h
    | err x q1 => rw [eg] at h; cases h
    | stuck => rw [eg] at h; cases h
theorem on_for {it : DI} {g : Tgt} {B : DS} (hb : ∀ ρ, ON (B ρ)) (ρ : Rho) : ON (sFor it g B ρ) := on_bnd fun xs => on_go hb xs ρ
section
variable {X : Cx} {W : WX} {s : Stmt} {ss : List Stmt} {A B : DS} {e : Expr} {F : DE} {pos : Pos}
theorem sn_cons (ha : PSd X W s A) (hb : PSn X W ss B) (on : ∀ ρ, ON (A ρ)) : PSn X W (s :: ss) (sSeq A B) := by
  obtain ⟨t, h1, h2⟩ := ha
  obtain ⟨u, g1, g2⟩ := hb
  refine ⟨_, pss_cons h1 g1, fun p sc Z0 H0 Z σ H ρ q E b h => ?_⟩
  refine h2 p sc Z0 H0 Z σ H ρ q { E with nx := u E } b ?_
  unfold sSeq M.bnd at h
  cases e : A ρ q with
  | ok o q1 =>
    rw [e] at h
    obtain ⟨ρ1, rfl⟩ := on ρ q o q1 e
    exact fun Z1 σ1 H1 b1 z1 s1 => g2 p sc Z0 H0 Z1 σ1 H1 ρ1 q1 E b1 h
  | err x q1 => rw [e] at h; exact h
  | stuck => rw [e] at h; exact h
theorem sn_ret (ha : PDf X W e F) : PSn X W [.Return (some e) pos] (sRet F) := by
  obtain ⟨t, h1, h2⟩ := ha
  refine ⟨_, pss_one (ps_ret h1), fun p sc Z0 H0 Z σ H ρ q E b h => ?_⟩
  have h' : PostN X.K X.mg p sc Z0 H0 W E (M.bnd (F ρ) (fun d => M.ret (.ret d)) q) := h
  unfold M.bnd at h'
  refine h2 p sc _ σ H ρ q _ b.sit ?_
  cases em : F ρ q with
  | ok d q1 =>
    rw [em] at h'
    intro v H1 k pl r
    obtain ⟨a, vs, ds, e1, e2, r1, r2, r3⟩ := r
    have ha0 : H0 a = none := none_back b.keep b.pool r1
    exact h' v H1 (b.keep.trans k) pl ⟨a, vs, ds, e1, e2, ha0, r2, r3.grow fun c z => ⟨b.zo c z.1, z.2⟩⟩
  | err x q1 =>
    rw [em] at h'
    exact fun c od H' k pl r => h' c od σ H' (b.keep.trans k) pl r
  | stuck =>
    rw [em] at h'
    exact h'.elim
theorem sn_retO (i : Nat) {x : Str} {p1 : Pos} (hN : X.N[i]? = some x := by rfl) (hv : Vis X.env.scope x := by first | exact Or.inl rfl | exact Or.inr (Or.inl rfl) | exact Or.inr (Or.inr rfl)) (hd : (x == ("__debug__" : Str)) = false := by decide)
    (hcd : (x == ("__classdict__" : Str)) = false := by decide) : PSn X W [.Return (some (.Name x p1)) pos] (sRet (dOwn i)) := by
  refine ⟨_, pss_one (ps_ret (pe_var hN hv hd hcd)), fun p sc Z0 H0 Z σ H ρ q E b h => ?_⟩
  have h' : PostN X.K X.mg p sc Z0 H0 W E (M.bnd (dOwn i ρ) (fun d => M.ret (.ret d)) q) := h
  unfold M.bnd dOwn at h'
  cases eo : ρ[i]? with
  | none => rw [eo] at h'; exact h'.elim
  | some o =>
    cases o with
    | none => rw [eo] at h'; exact h'.elim
    | some sl =>
      cases sl with
      | own ds =>
        rw [eo] at h'
        obtain ⟨a, vs, h1, h2, h3, h4, h5⟩ := b.slot i _ eo
        exact ⟨.ref a, h1, h' (.ref a) H b.keep b.pool ⟨a, vs, ds, rfl, rfl, h4, h2, h5.grow fun c z => ⟨b.zz c z, fun e => h3 (e ▸ z)⟩⟩⟩
      | dat d => rw [eo] at h'; exact h'.elim
      | pool => rw [eo] at h'; exact h'.elim
      | odic d => rw [eo] at h'; exact h'.elim
end
section
variable {P : Program} {w : World} {K : PySem.W.Frag} {mg : Str → Option Value} {base : Heap} {k : Nat} {x qual : Str} {f : Addr} {fd : FuncData} {N ps : List Str} {st : Stmt} {B : DS}
theorem fn_okN (F : FunD K x qual (defArgs st) (defBody st) (defScope st) [] [] f fd) (S : FnScope N ps (defScope st))
    (hbody : ∀ (cdv : Value) (A : Around) (outer : List Env) (s : Shared) (H : Hp) (E : XK), Room k (A.deeper (envOfC qual (defScope st) s.heap.objs.size f cdv)) →
      PSn (cxOf (L2.CX P w) P w K mg base N qual (defScope st) f cdv A outer s H E) (fun cls d _ H => E cls d H) (defBody st) B) : FnOk P w K mg base (L2.CX P w) (k + 1) f fd ps (spN K mg ps.length (fnD ps.length N.length B)) := by
  refine F.ok S (fun vs H Q E h => h.1) (fun cdv A outer s H vs Q E hr h => ?_)
  obtain ⟨t, h1, h2⟩ := hbody cdv A outer s H E hr
  refine ⟨t, h1, ?_⟩
  obtain ⟨hl, p, sc, Z, q, as, pl, nz, ar, hlst, hp⟩ := h
  have hla : as.length = ps.length := by rw [← ArgR.length ar]; exact hl
  unfold fnD at hp hlst
  rw [if_pos hla] at hp hlst
  have hst : L2.start N vs = vs.map some ++ List.replicate (N.length - ps.length) none := by unfold L2.start; rw [hl]
  refine h2 p sc Z H (fun b => Z b ∧ H b ≠ none) (L2.start N vs) H (as.map argSlot ++ List.replicate (N.length - ps.length) none) q _ ?_ ?_
  · refine ⟨Keep.refl _ _, ⟨q, pl⟩, pl, nz, fun z => nz z.1, fun b z => z.2, fun b z => .inl z.1, ?_, fun i s e => ?_, fun i j a s t ij h1 m1 h2 m2 e1 e2 => ?_⟩
    · rw [hst]
      simp [hl, hla]
    · rw [hst]
      by_cases hi : i < ps.length
      · rw [List.getElem?_append_left (by simpa [hla] using hi)] at e
        have el : (vs.map some ++ List.replicate (N.length - ps.length) none)[i]? = (vs.map some)[i]? := List.getElem?_append_left (by simpa [hl] using hi)
        rcases argR_at ar e with ⟨d, v, rfl, e1, r⟩ | ⟨rfl, e1⟩
        · exact ⟨v, el.trans (by simp [e1]), r.sub fun b z n => ⟨z, n⟩⟩
        · exact el.trans (by simp [e1])
      · rw [List.getElem?_append_right (by simpa [hla] using hi)] at e
        have z := List.mem_of_getElem? e
        have z2 := List.eq_of_mem_replicate z
        cases z2
    · have z := List.mem_of_getElem? h1
      rcases List.mem_append.mp z with z | z
      · obtain ⟨c, _, e⟩ := List.mem_map.mp z
        cases c <;> cases e <;> cases m1
      · have z2 := List.eq_of_mem_replicate z
        cases z2
  · unfold M.bnd at hp hlst
    cases e : B (as.map argSlot ++ List.replicate (N.length - ps.length) none) q with
    | ok o q1 =>
      rw [e] at hp hlst
      cases o with
      | next ρ1 =>
        obtain ⟨ds, z⟩ := hlst .none q1 rfl
        cases z
      | ret d => exact fun v H' k' pl' r => hp v H' k' pl' r
      | brk ρ1 => exact hp.elim
      | cont ρ1 => exact hp.elim
    | err x q1 =>
      rw [e] at hp
      exact fun c od σ' H' k' pl' r => hp c od H' k' pl' r
    | stuck =>
      rw [e] at hp
      exact hp.elim

structure OkN (P : Program) (w : World) (K : PySem.W.Frag) (mg : Str → Option Value) (base : Heap) (k : Nat) (x : Str) (F : List Arg → M D) : Prop where
  ex : ∃ (n : Nat) (f : Addr) (fd : FuncData) (ps : List Str), (∀ as q, as.length ≠ n → F as q = .stuck) ∧ FnOk P w K mg base (L2.CX P w) k f fd ps (spN K mg n F) ∧ mg x = some (.ref f) ∧ PySem.W.keepIn K (.ref f) = true ∧ Binds K fd ps []
theorem okMkN {F : List Arg → M D} {n : Nat} (kp : PySem.W.keepIn K (.ref f) = true) (mx : mg x = some (.ref f)) (b : Binds K fd ps []) (hl : ∀ as q, as.length ≠ n → F as q = .stuck) (h : FnOk P w K mg base (L2.CX P w) k f fd ps (spN K mg n F)) : OkN P w K mg base k x F :=
  ⟨n, f, fd, ps, hl, h, mx, kp, b⟩
theorem OkN.fnn {X : Cx} {j : Nat} {F : List Arg → M D} (h : OkN X.prog X.w X.K X.mg X.base k x F) (hr : Room j X.A) (hk : k ≤ j := by first | decide | omega) : FnN X x F := by
  obtain ⟨n, f, fd, ps, h1, h2, h3, h4, h5⟩ := h.ex
  exact ⟨k, n, f, fd, ps, h1, h2, hr.mono hk, h3, h4, h5⟩
end
end Ew
namespace Ew
open PySem PySem.Spec PyProof.Rows L2
/-! ## a dict of the def's own (whole numbers as keys) -/
section
variable {K : PySem.W.Frag} {p sc a : Addr} {H H' : Hp} {q : Pool} {Z : Rg} {ks ls : List (Key × V)}
theorem dic_stand (h : H a = some (.dK ks)) (nz : ¬ Z a) : Stand Z H (upd H a (.dK ls)) := ⟨fun b o z e => by rw [upd_ne (fun x => nz (by rw [← x]; exact z))]; exact e, fun b xs e => by rw [upd_ne (fun x => by rw [x, h] at e; cases e)]; exact e, fun b o u e => by rw [upd_ne (fun x => by rw [x, h] at e; cases e)]; exact e⟩
end
/-- a dict made by this very piece of code -/
def NewG (K : PySem.W.Frag) : RelT V D := fun _ Z H H' v d => ∃ a ks ds, v = .ref a ∧ d = .dict ds ∧ H a = none ∧ H' a = some (.dK ks) ∧ ds.map (fun q => q.1) = ks.map (fun q => keyD q.1) ∧ RpL K (fun b => Zn Z H b ∧ b ≠ a) H' (ks.map fun q => q.2) (ds.map fun q => q.2)
theorem NewG.rp {K : PySem.W.Frag} {p : Addr} {Z : Rg} {H H' : Hp} {v : V} {d : D} (h : NewG K p Z H H' v d) : Rp K (Zn Z H) H' v d := by
  obtain ⟨a, ks, ds, rfl, rfl, h1, h2, h3, h4⟩ := h
  exact .dic (.inl h2) (.inr h1) h3 (h4.grow fun b z => z.1)
def PDg (X : Cx) (W : WX) (e : Expr) (F : DE) : Prop := ∃ t, PE X e t ∧ Rd1 X W (NewG X.K) t F
theorem pde_g {X : Cx} {W : WX} {e : Expr} {F : DE} (h : PDg X W e F) : PDe X W e F := by
  obtain ⟨t, h1, h2⟩ := h
  exact ⟨t, h1, fun p sc Z σ H ρ q Q s hp => h2 p sc Z σ H ρ q Q s (hp.imp fun H' b a r => r.rp (p := p))⟩
/-- {} -/
def dEmp : DE := fun _ => M.ret (.dict [])
theorem at_emp (ρ : Rho) : dEmp ρ = M.ret (.dict []) := nr rfl
theorem pdg_emp {X : Cx} {W : WX} {pos : Pos} : PDg X W (.Dict [] [] pos) dEmp := ⟨_, pe_dnewK, fun p sc Z σ H ρ q Q s hp a ha => hp (.ref a) _ (new_keep ha) (new_pool ha s.pool) ⟨a, [], [], rfl, rfl, ha, upd_same, rfl, .nil⟩⟩
section
variable {K : PySem.W.Frag} {p sc : Addr} {Z0 Z Z' : Rg} {H0 H H1 : Hp} {σ : L2.St} {ρ : Rho} {q q1 : Pool}
/-- a new dict becomes the def's own -/
theorem BR.mkDic (b : BR K p sc Z0 H0 Z σ H ρ q) {i : Nat} {a : Addr} {ks : List (Key × V)} {ds : List (D × D)} (ha : H a = some (.dK ks)) (nz : ¬ Z a) (h0 : H0 a = none) (kk : ds.map (fun q => q.1) = ks.map (fun q => keyD q.1)) (rs : RpL K Z H (ks.map fun q => q.2) (ds.map fun q => q.2))
    (no : ∀ (j : Nat) s, ρ[j]? = some (some s) → s.mine = true → σ[j]? ≠ some (some (V.ref a))) : BR K p sc Z0 H0 Z (σ.set i (some (.ref a))) H (ρ.set i (some (.odic ds))) q := by
  refine ⟨b.keep, b.pool0, b.pool, b.nz0, b.nz, b.zs, b.zz, by rw [List.length_set, List.length_set]; exact b.len, fun j s h => ?_, fun j k a' s t jk h1 m1 h2 m2 e1 e2 => ?_⟩
  · by_cases hj : j = i
    · subst hj
      have hlt : j < ρ.length := by
        have z := (List.getElem?_eq_some_iff.mp h).1
        rwa [List.length_set] at z
      rw [List.getElem?_set_self hlt] at h
      cases h
      exact ⟨a, ks, by rw [List.getElem?_set_self (b.len ▸ hlt)], ha, nz, h0, kk, rs⟩
    · rw [List.getElem?_set_ne (Ne.symm hj)] at h
      have z := b.slot j s h
      have e : (σ.set i (some (.ref a)))[j]? = σ[j]? := List.getElem?_set_ne (Ne.symm hj)
      cases s with
      | dat d => obtain ⟨v, h1, h2⟩ := z; exact ⟨v, e.trans h1, h2⟩
      | pool => exact e.trans z
      | own ds => obtain ⟨a, vs, h1, h2⟩ := z; exact ⟨a, vs, e.trans h1, h2⟩
      | odic ds => obtain ⟨a, vs, h1, h2⟩ := z; exact ⟨a, vs, e.trans h1, h2⟩
  · have lt : ∀ (j : Nat) (s : Slot), (ρ.set i (some (.odic ds)))[j]? = some (some s) → j < ρ.length := fun j s h => by
      have z := (List.getElem?_eq_some_iff.mp h).1
      rwa [List.length_set] at z
    by_cases n1 : j = i
    · by_cases n2 : k = i
      · exact jk (n1.trans n2.symm)
      · subst n1
        rw [List.getElem?_set_self (b.len ▸ lt j s h1)] at e1
        cases e1
        rw [List.getElem?_set_ne (Ne.symm n2)] at h2 e2
        exact no k t h2 m2 e2
    · by_cases n2 : k = i
      · subst n2
        rw [List.getElem?_set_self (b.len ▸ lt k t h2)] at e2
        cases e2
        rw [List.getElem?_set_ne (Ne.symm n1)] at h1 e1
        exact no j s h1 m1 e1
      · rw [List.getElem?_set_ne (Ne.symm n1)] at h1 e1
        rw [List.getElem?_set_ne (Ne.symm n2)] at h2 e2
        exact b.dist j k a' s t jk h1 m1 h2 m2 e1 e2
/-- it is changed -/
theorem BR.chDic (b : BR K p sc Z0 H0 Z σ H ρ q) {i : Nat} {a : Addr} {ks ls : List (Key × V)} {ds es : List (D × D)} (hi : ρ[i]? = some (some (.odic ds))) (hs : σ[i]? = some (some (.ref a))) (ha : H a = some (.dK ks)) (kk : es.map (fun q => q.1) = ls.map (fun q => keyD q.1)) (rs : RpL K Z H (ls.map fun q => q.2) (es.map fun q => q.2)) :
    BR K p sc Z0 H0 Z σ (upd H a (.dK ls)) (ρ.set i (some (.odic es))) q ∧ Stand Z H (upd H a (.dK ls)) := by
  obtain ⟨a', g1, g2, g3, g4, g5, g6⟩ := b.mine hi rfl
  rw [hs] at g1; cases g1
  have st : Stand Z H (upd H a (.dK ls)) := dic_stand ha g2
  refine ⟨⟨fun c o hc e => ?_, b.pool0, ⟨by rw [upd_ne (Ne.symm g5)]; exact b.pool.1, by rw [upd_ne (Ne.symm g6)]; exact b.pool.2.1, b.pool.2.2⟩, b.nz0, b.nz, fun c z n => ?_, b.zz, by rw [List.length_set]; exact b.len, fun j s h => ?_, fun j k a' s t jk h1 m1 h2 m2 e1 e2 => ?_⟩, st⟩
  · rw [upd_ne (ne_of_none e g3)]
    exact b.keep c o hc e
  · rw [upd_ne (fun e => g2 (by rw [← e]; exact z))] at n
    exact b.zs c z n
  · by_cases hj : j = i
    · subst hj
      have hlt : j < ρ.length := (List.getElem?_eq_some_iff.mp hi).1
      rw [List.getElem?_set_self hlt] at h
      cases h
      exact ⟨a, ls, hs, upd_same, g2, g3, kk, rs.stand st⟩
    · rw [List.getElem?_set_ne (Ne.symm hj)] at h
      have z := b.slot j s h
      cases s with
      | dat d => obtain ⟨v, h1, h2⟩ := z; exact ⟨v, h1, h2.stand st⟩
      | pool => exact z
      | own ds' =>
        obtain ⟨c, vs', h1, h2, h3, h4, h5⟩ := z
        have ne : c ≠ a := fun e => by subst e; exact b.dist j i c _ _ hj h rfl hi rfl h1 hs
        exact ⟨c, vs', h1, by rw [upd_ne ne]; exact h2, h3, h4, h5.stand st⟩
      | odic ds' =>
        obtain ⟨c, vs', h1, h2, h3, h4, h5, h6⟩ := z
        have ne : c ≠ a := fun e => by subst e; exact b.dist j i c _ _ hj h rfl hi rfl h1 hs
        exact ⟨c, vs', h1, by rw [upd_ne ne]; exact h2, h3, h4, h5, h6.stand st⟩
  · have back : ∀ (j : Nat) (s : Slot), (ρ.set i (some (.odic es)))[j]? = some (some s) → s.mine = true → ∃ s', ρ[j]? = some (some s') ∧ s'.mine = true := fun j s h m => by
      by_cases hj : j = i
      · subst hj; exact ⟨_, hi, rfl⟩
      · rw [List.getElem?_set_ne (Ne.symm hj)] at h
        exact ⟨s, h, m⟩
    obtain ⟨s', k1, k2⟩ := back j s h1 m1
    obtain ⟨t', k3, k4⟩ := back k t h2 m2
    exact b.dist j k a' s' t' jk k1 k2 k3 k4 e1 e2
end
def sOwnD (i : Nat) (e : DE) : DS := fun ρ => M.bnd (e (hideR ρ)) fun d => match d with
  | .dict ds => M.ret (.next (ρ.set i (some (.odic ds))))
  | _ => M.stuck
/-- x[k] = e, a key that is not there -/
def sDSet (i : Nat) (k e : DE) : DS := fun ρ => match ρ[i]? with
  | some (some (.odic ds)) => M.bnd (e (hideR ρ)) fun d => M.bnd (k ρ) fun y => (match y with
    | .int n => if findI n ds = none ∧ ds.length < lineMax then M.ret (.next (ρ.set i (some (.odic (ds ++ [(.int n, d)]))))) else M.stuck
    | _ => M.stuck)
  | _ => M.stuck
/-- the dict is shared from here on -/
def sFrzD (i : Nat) (S : DS) : DS := fun ρ => match ρ[i]? with
  | some (some (.odic ds)) => S (ρ.set i (some (.dat (.dict ds))))
  | some (some (.dat _)) => S ρ
  | _ => M.stuck
section
variable {X : Cx} {W : WX} {s : Stmt} {e k : Expr} {F E : DE} {pos p1 p2 : Pos}
theorem rds_odic {te : TE} {i : Nat} (h2 : Rd1 X W (NewG X.K) te F) : RdS X.K X.mg W (tAsg te (gName i)) (sOwnD i F) := by
  intro p sc Z0 H0 Z σ H ρ q E b h
  refine h2 p sc _ σ H (hideR ρ) q _ b.sitH (PostS.ex (Rel := fun H' v d => NewG X.K p Z H H' v d) b h fun d q1 v H1 e k pl r hp => ?_)
  obtain ⟨a, ks, ds, rfl, rfl, g1, g2, gk, g3⟩ := r
  have b1 := b.next k pl
  have b2 : BR X.K p sc Z0 H0 (fun c => (Zn Z H c ∧ H1 c ≠ none) ∧ c ≠ a) σ H1 ρ q1 := by
    refine b1.grow (fun c z => ⟨⟨.inl z, b1.zs c z⟩, fun e => by rw [e] at z; exact b.zs a z g1⟩) (fun c z => z.1.2) (fun c z => ?_) (fun z => Zn.nop b.pool b.nz z.1.1) fun j s c hj m e z => ?_
    · rcases z.1.1 with z | z
      · exact b.zz c z
      · exact .inr (none_back b.keep b.pool z)
    · obtain ⟨a', k1, k2, k3, k4, _⟩ := b.mine hj m
      rw [e] at k1; cases k1
      rcases z.1.1 with z | z
      · exact k2 z
      · exact k4 z
  refine hp (fun c => (Zn Z H c ∧ H1 c ≠ none) ∧ c ≠ a) (σ.set i (some (.ref a))) H1 (b2.mkDic g2 (fun z => z.2 rfl) (none_back b.keep b.pool g1) gk (g3.sub fun c z n => ⟨⟨z.1, n⟩, z.2⟩) fun j s hj m e => ?_) (fun c z => ⟨⟨.inl z, b1.zs c z⟩, fun e => by rw [e] at z; exact b.zs a z g1⟩) (Stand.refl _ _)
  obtain ⟨a', k1, k2, k3, k4, _⟩ := b.mine hj m
  rw [e] at k1; cases k1
  exact k4 g1
theorem sd_ownD {i : Nat} {x : Str} {pos' : Pos} (hN : X.N.Nodup) (he : PDg X W e F) (hi : X.N[i]? = some x := by rfl) (hx : Loc X.env.scope x := by first | exact Or.inl rfl | exact Or.inr rfl) (hs : swapsWith e (some (.Name x pos')) pos.line X.env = pure false := by rfl)
    (hf : X.fn x = true ∨ X.env.scope.names.lookup x = some .local := by first | exact .inl rfl | exact .inr rfl | assumption) : PSd X W (.Assign [.Name x pos'] e pos) (sOwnD i F) := by
  obtain ⟨t, h1, h2⟩ := he
  exact ⟨_, ps_set hN hi hx h1 hs hf, rds_odic h2⟩
end
theorem find_none {n : Int} : ∀ {ds : List (D × D)} {ks : List (Key × V)}, ds.map (fun q => q.1) = ks.map (fun q => keyD q.1) → findI n ds = none → (ks.any fun kv => decide (kv.1 = .inl n)) = false
  | [], [], _, _ => rfl
  | [], _ :: _, h, _ => nomatch h
  | _ :: _, [], h, _ => nomatch h
  | d :: ds, m :: ks, h, f => by
    rw [List.map_cons, List.map_cons, List.cons.injEq] at h
    obtain ⟨d1, d2⟩ := d
    obtain ⟨m1, m2⟩ := m
    have hd : d1 = keyD m1 := h.1
    subst hd
    cases m1 with
    | inl j =>
      have f' : (if j = n then some d2 else findI n ds) = none := f
      by_cases hj : j = n
      · rw [if_pos hj] at f'; cases f'
      · rw [if_neg hj] at f'
        rw [List.any_cons, find_none h.2 f', decide_eq_false (fun z => hj (Sum.inl.inj z))]
        rfl
    | inr j =>
      rw [List.any_cons, find_none h.2 f, decide_eq_false (by intro z; cases z)]
      rfl
section
variable {X : Cx} {W : WX} {s : Stmt} {e k : Expr} {F E : DE} {pos p1 p2 : Pos}
/-- x[k] = e -/
theorem sd_dset {i : Nat} {x : Str} (hu : X.A.units + deep < cLine) (he : PDe X W e F) (hk : PDe X W k E) (hN : X.N[i]? = some x := by rfl) (hv : Vis X.env.scope x := by first | exact Or.inl rfl | exact Or.inr (Or.inl rfl) | exact Or.inr (Or.inr rfl))
    (hd : (x == ("__debug__" : Str)) = false := by decide) (hcd : (x == ("__classdict__" : Str)) = false := by decide)
    (hs : swapsWith e (some (.Subscript (.Name x p1) k p2)) pos.line X.env = pure false := by rfl) : PSd X W (.Assign [.Subscript (.Name x p1) k p2] e pos) (sDSet i E F) := by
  obtain ⟨t, h1, h2⟩ := he
  obtain ⟨u, g1, g2⟩ := hk
  refine ⟨_, ps_dput (by unfold deep at hu; omega) (pe_var (pos := p1) hN hv hd hcd) g1 h1 hs, fun p sc Z0 H0 Z σ H ρ q Ed b h => ?_⟩
  unfold sDSet at h
  cases e : ρ[i]? with
  | none => rw [e] at h; exact h.elim
  | some o =>
    cases o with
    | none => rw [e] at h; exact h.elim
    | some sl =>
      cases sl with
      | odic ds =>
        rw [e] at h
        dsimp only at h
        obtain ⟨a', ks', h1', h2', h3', h4', h5', h6'⟩ := b.slot i _ e
        refine h2 p sc _ σ H (hideR ρ) q _ b.sitH (PostS.ex (Rel := fun H' v d => Rp X.K (Zn Z H) H' v d) b h fun d q1 v H1 e1 k1 pl r hp => ?_)
        have b1 := b.after k1 pl
        have zz : ∀ c, Z c → Zh Z H H1 c := fun c z => ⟨.inl z, (b.next k1 pl).zs c z⟩
        refine ⟨.ref a', h1', ?_⟩
        refine g2 p sc _ σ H1 ρ q1 _ b1.sit (PostS.ex (Rel := fun H' v d => Rp X.K (Zn (Zo (Zh Z H H1) σ ρ) H1) H' v d) b1 (PostS.later hp zz (Stand.refl _ _)) fun dj q2 o H2 e2 k2 pl2 rj hp2 => ?_)
        have b2 := b1.next k2 pl2
        obtain ⟨a2, ks, s1, s2, s3, s4, s5, s6⟩ := b2.slot i _ e
        rw [h1'] at s1
        cases s1
        cases rj with
        | int n =>
          dsimp only at hp2
          by_cases hc : findI n ds = none ∧ ds.length < lineMax
          · rw [if_pos hc] at hp2
            have hany := find_none s5 hc.1
            have hlen : ks.length = ds.length := by
              have := congrArg List.length s5
              rw [List.length_map, List.length_map] at this
              exact this.symm
            have hput : putK ks (.inl n) v = ks ++ [(.inl n, v)] := by
              unfold putK
              rw [hany, if_neg Bool.false_ne_true]
            have rv : Rp X.K (Zh Z H H1) H2 v d := (r.sub fun c z n => ⟨z, n⟩).stand (k2.stand pl b1.nz)
            have z := b2.chDic (es := ds ++ [(.int n, d)]) (ls := ks ++ [(.inl n, v)]) e h1' s2 (by rw [List.map_append, List.map_append, s5]; rfl) (by rw [List.map_append, List.map_append]; exact s6.append (.cons rv .nil))
            refine ⟨a', _, rfl, .inl ⟨ks, .inl n, s2, rfl, by rw [hlen]; exact hc.2, rfl⟩, ?_⟩
            rw [hput]
            exact hp2 _ σ _ z.1 (fun c z => z) z.2
          · rw [if_neg hc] at hp2; exact hp2.elim
        | _ => exact hp2.elim
      | dat d => rw [e] at h; exact h.elim
      | pool => rw [e] at h; exact h.elim
      | own d => rw [e] at h; exact h.elim
end
section
variable {K : PySem.W.Frag} {mg : Str → Option Value} {p sc : Addr} {Z0 Z : Rg} {H0 H : Hp} {σ : L2.St} {ρ : Rho} {q : Pool} {W : WX}
theorem BR.frzD (b : BR K p sc Z0 H0 Z σ H ρ q) {i : Nat} {ds : List (D × D)} (h : ρ[i]? = some (some (.odic ds))) : ∃ a, σ[i]? = some (some (.ref a)) ∧ BR K p sc Z0 H0 (fun c => Z c ∨ c = a) σ H (ρ.set i (some (.dat (.dict ds)))) q := by
  obtain ⟨a, ks, h1, h2, h3, h4, hk, h5⟩ := b.slot i _ h
  obtain ⟨a', m1, m2, m3, m4, m5, m6⟩ := b.mine h rfl
  rw [h1] at m1
  cases m1
  have hlt : i < ρ.length := (List.getElem?_eq_some_iff.mp h).1
  refine ⟨a, h1, b.keep, b.pool0, b.pool, b.nz0, ?_, ?_, ?_, ?_, fun j s e => ?_, fun j k c s t jk e1 n1 e2 n2 g1 g2 => ?_⟩
  · rintro (z | z)
    · exact b.nz z
    · exact m5 z.symm
  · rintro c (z | z)
    · exact b.zs c z
    · rw [z]; exact m4
  · rintro c (z | z)
    · exact b.zz c z
    · rw [z]; exact .inr h4
  · rw [List.length_set]; exact b.len
  · by_cases hj : j = i
    · subst hj
      rw [List.getElem?_set_self hlt] at e
      cases e
      exact ⟨.ref a, h1, .dic (.inl h2) (.inr rfl) hk (h5.grow fun c z => .inl z)⟩
    · rw [List.getElem?_set_ne (Ne.symm hj)] at e
      have z := b.slot j s e
      cases s with
      | dat d =>
        obtain ⟨v, u1, u2⟩ := z
        exact ⟨v, u1, u2.grow fun c z => .inl z⟩
      | pool => exact z
      | own es =>
        obtain ⟨c, ws, u1, u2, u3, u4, u5⟩ := z
        refine ⟨c, ws, u1, u2, ?_, u4, u5.grow fun c z => .inl z⟩
        rintro (y | y)
        · exact u3 y
        · exact b.dist j i c _ _ hj e rfl h rfl u1 (by rw [y]; exact h1)
      | odic kvs =>
        obtain ⟨c, ks, u1, u2, u3, u4, u5, u6⟩ := z
        refine ⟨c, ks, u1, u2, ?_, u4, u5, u6.grow fun c z => .inl z⟩
        rintro (y | y)
        · exact u3 y
        · exact b.dist j i c _ _ hj e rfl h rfl u1 (by rw [y]; exact h1)
  · have ne : ∀ (j : Nat) (s : Slot), (ρ.set i (some (.dat (.dict ds))))[j]? = some (some s) → s.mine = true → ρ[j]? = some (some s) := fun j s e n => by
      by_cases hj : j = i
      · subst hj
        rw [List.getElem?_set_self hlt] at e
        cases e
        cases n
      · rw [List.getElem?_set_ne (Ne.symm hj)] at e
        exact e
    exact b.dist j k c s t jk (ne j s e1 n1) n1 (ne k t e2 n2) n2 g1 g2
end
section
variable {X : Cx} {W : WX} {st : Stmt} {A : DS}
theorem sd_frzD {i : Nat} (h : PSd X W st A) : PSd X W st (sFrzD i A) := by
  obtain ⟨t, h1, h2⟩ := h
  refine ⟨t, h1, fun p sc Z0 H0 Z σ H ρ q E b hp => ?_⟩
  unfold sFrzD at hp
  cases e : ρ[i]? with
  | none => rw [e] at hp; exact hp.elim
  | some o =>
    cases o with
    | none => rw [e] at hp; exact hp.elim
    | some sl =>
      cases sl with
      | odic ds =>
        rw [e] at hp
        obtain ⟨a, _, b'⟩ := b.frzD e
        exact h2 p sc Z0 H0 _ σ H _ q E b' (PostS.later hp (fun c z => .inl z) (Stand.refl _ _))
      | dat d => rw [e] at hp; exact h2 p sc Z0 H0 _ σ H _ q E b hp
      | pool => rw [e] at hp; exact hp.elim
      | own kvs => rw [e] at hp; exact hp.elim
end
/-! d.get(k, x) -/
def oGet2 (x y z : D) : M D := match x, y with
  | .dict ds, .int n => M.ret ((findI n ds).getD z)
  | .dict ds, .str n => M.ret ((findS n ds).getD z)
  | _, _ => M.stuck
def dGet2 (a b c : DE) : DE := fun ρ => M.bnd (a ρ) fun x => match x with
  | .dict ds => M.bnd (b ρ) fun y => M.bnd (c ρ) fun z => oGet2 (.dict ds) y z
  | _ => M.stuck
theorem at_get2 (a b c : DE) (ρ : Rho) {ds : List (D × D)} (h : a ρ = M.ret (.dict ds)) : dGet2 a b c ρ = M.bnd (b ρ) fun y => M.bnd (c ρ) fun z => oGet2 (.dict ds) y z := by
  unfold dGet2
  rw [h, bnd_ret]
theorem find_atN {K : PySem.W.Frag} {Z : Rg} {H : Hp} (k : Key) : ∀ (kvs : List (Key × V)) (ds : List (D × D)), ds.map (fun q => q.1) = kvs.map (fun q => keyD q.1) →
    (match k with | .inl i => findI i ds | .inr x => findS x ds) = none → valV kvs k = none
  | [], [], _, _ => rfl
  | [], _ :: _, h, _ => nomatch h
  | _ :: _, [], h, _ => nomatch h
  | m :: kvs, n :: ds, h, f => by
    rw [List.map_cons, List.map_cons, List.cons.injEq] at h
    obtain ⟨n1, n2⟩ := n
    obtain ⟨m1, m2⟩ := m
    have hn : n1 = keyD m1 := h.1
    subst hn
    cases k with
    | inl i =>
      cases m1 with
      | inl j =>
        have f' : (if j = i then some n2 else findI i ds) = none := f
        by_cases hj : j = i
        · rw [if_pos hj] at f'; cases f'
        · rw [if_neg hj] at f'
          rw [valV_neg (fun z => hj (Sum.inl.inj z))]
          exact find_atN (K := K) (Z := Z) (H := H) (.inl i) kvs ds h.2 f'
      | inr j =>
        rw [valV_neg (by intro z; cases z)]
        exact find_atN (K := K) (Z := Z) (H := H) (.inl i) kvs ds h.2 f
    | inr i =>
      cases m1 with
      | inr j =>
        have f' : (if j = i then some n2 else findS i ds) = none := f
        by_cases hj : j = i
        · rw [if_pos hj] at f'; cases f'
        · rw [if_neg hj] at f'
          rw [valV_neg (fun z => hj (Sum.inr.inj z))]
          exact find_atN (K := K) (Z := Z) (H := H) (.inr i) kvs ds h.2 f'
      | inl j =>
        rw [valV_neg (by intro z; cases z)]
        exact find_atN (K := K) (Z := Z) (H := H) (.inr i) kvs ds h.2 f
section
variable {X : Cx} {W : WX} {o e f : Expr} {A B C : DE} {apos cpos : Pos}
theorem pd_get2 (hu : X.A.units + deep < cLine) (ha : PDe X W o A) (hb : PDe X W e B) (hc : PDe X W f C)
    (m : M2 X o "get" apos e f cpos := by exact ⟨rfl, rfl, rfl, rfl⟩) : PDe X W (.Call (.Attribute o "get" apos) [e, f] [] cpos) (dGet2 A B C) := by
  obtain ⟨ta, a1, a2⟩ := ha
  obtain ⟨tb, b1, b2⟩ := hb
  obtain ⟨tc, c1, c2⟩ := hc
  refine ⟨_, pe_dget2 (by unfold deep at hu; omega) a1 b1 c1 m, ?_⟩
  refine rd_bnd (ValA := fun _ Z H v d => Rp X.K Z H v d) (f := fun ρ x => match x with
    | .dict ds => M.bnd (B ρ) fun y => M.bnd (C ρ) fun z => oGet2 (.dict ds) y z
    | _ => M.stuck) (k := fun x σ H Q => ∃ a, x = .ref a ∧ IsD H a ∧ tb σ H fun y H2 => tc σ H2 fun z H3 => ∃ o, DGet H3 a y o ∧ Q (o.getD z) H3) sh_rp (fun _ _ _ _ _ _ h => h) a2 fun p sc Z σ H ρ q x dx Q s hv hp => ?_
  cases hv with
  | dic h1 z hk rs =>
    rename_i l kvs ds
    dsimp only at hp
    refine ⟨l, rfl, .inl ⟨kvs, h1⟩, ?_⟩
    refine b2 p sc Z σ H ρ q _ s ((Post.bnd (Rel := RpF X.K p Z H) (Rel' := RpF X.K p Z H) hp).to fun y H1 ⟨dy, q1, e1, k1, pl1, r1, hp1⟩ => ?_)
    have s1 := s.next k1 pl1
    refine c2 p sc Z σ H1 ρ q1 _ s1 ((Post.bnd (Rel := RpF X.K p Z H1) (Rel' := RpF X.K p Z H) (hp1.later k1)).to fun w H2 ⟨dw, q2, e2, k2, pl2, r2, hp2⟩ => ?_)
    have hp3 := hp2.later k2
    have kk := k1.trans k2
    have hlp : l ≠ p := fun e => by subst e; exact s.nz z
    have h3 : Rd H2 l (.dK kvs) := h1.elim (fun h => .inl (kk l _ hlp h)) fun ⟨o, h⟩ => .inr ⟨o, kk l _ hlp h⟩
    have rs3 := rs.stand (kk.stand s.pool s.nz)
    have rw' : Rp X.K (Zn Z H) H2 w dw := r2.grow fun c z => by
      rcases z with z | z
      · exact .inl z
      · exact .inr (none_back k1 pl1 z)
    cases r1 with
    | int n =>
      unfold oGet2 at hp3
      dsimp only at hp3
      cases ef : findI n ds with
      | none =>
        rw [ef] at hp3
        exact ⟨none, by rw [← find_atN (K := X.K) (Z := Z) (H := H) (.inl n) kvs ds hk ef]; exact dget_k (k := .inl n) h3, hp3 w H2 (Keep.refl _ _) pl2 rw'⟩
      | some d =>
        rw [ef] at hp3
        obtain ⟨v, g1, g2⟩ := find_at (.inl n) kvs ds hk rs3 ef
        exact ⟨some v, by rw [← g1]; exact dget_k (k := .inl n) h3, hp3 v H2 (Keep.refl _ _) pl2 (g2.grow Zn.base)⟩
    | str n =>
      unfold oGet2 at hp3
      dsimp only at hp3
      cases ef : findS n ds with
      | none =>
        rw [ef] at hp3
        exact ⟨none, by rw [← find_atN (K := X.K) (Z := Z) (H := H) (.inr n) kvs ds hk ef]; exact dget_k (k := .inr n) h3, hp3 w H2 (Keep.refl _ _) pl2 rw'⟩
      | some d =>
        rw [ef] at hp3
        obtain ⟨v, g1, g2⟩ := find_at (.inr n) kvs ds hk rs3 ef
        exact ⟨some v, by rw [← g1]; exact dget_k (k := .inr n) h3, hp3 v H2 (Keep.refl _ _) pl2 (g2.grow Zn.base)⟩
    | _ => exact hp3.elim
  | _ => exact hp.elim
end
/-! {k: e} -/
def dDis1 (k e : DE) : DE := fun ρ => M.bnd (k ρ) fun y => M.bnd (e ρ) fun v => match y with
  | .int n => M.ret (.dict [(.int n, v)])
  | _ => M.stuck
theorem at_dis1 (k e : DE) (ρ : Rho) : dDis1 k e ρ = M.bnd (k ρ) fun y => M.bnd (e ρ) fun v => (match y with
  | .int n => M.ret (.dict [(.int n, v)])
  | _ => M.stuck) := nr rfl
section
variable {X : Cx} {W : WX} {k e : Expr} {A B : DE} {pos : Pos}
theorem pdg_one (hk : PDe X W k A) (he : PDe X W e B) : PDg X W (.Dict [some k] [e] pos) (dDis1 A B) := by
  obtain ⟨tk, h1, h2⟩ := hk
  obtain ⟨tv, g1, g2⟩ := he
  refine ⟨_, pe_disp (pps_cons h1 g1 pps_nil) rfl rfl (fun z => nomatch z) (by show 1 ≤ 15; decide), fun p sc Z σ H ρ q Q s hp a ha => ?_⟩
  have hap : p ≠ a := ne_of_none s.pool.1 ha
  have hsc : sc ≠ a := ne_of_none s.pool.2.1 ha
  have k0 : Keep p H (upd H a (.dK [])) := new_keep ha
  have s0 : Sit X.K p sc (fun b => Z b ∧ b ≠ a) σ (upd H a (.dK [])) ρ q := by
    have e1 : EnvR X.K p (fun b => Z b ∧ b ≠ a) σ H ρ := s.env.sub fun b z n => ⟨z, fun e => n (e ▸ ha)⟩
    exact ⟨e1.stand (new_stand ha), new_pool ha s.pool, fun z => s.nz z.1, s.len⟩
  refine h2 p sc _ σ _ ρ q _ s0 ?_
  have hp' : Post X.mg p sc H (NewG X.K p Z H) (fun c od H' => W c od σ H') Q (M.bnd (A ρ) (fun y => M.bnd (B ρ) fun v => (match y with
    | .int n => M.ret (PyData.dict [(.int n, v)])
    | _ => M.stuck)) q) := hp
  unfold M.bnd at hp'
  cases eA : A ρ q with
  | ok dy q1 =>
    rw [eA] at hp'
    intro y H1 k1 pl1 r1
    have s1 := s0.next k1 pl1
    refine g2 p sc _ σ H1 ρ q1 _ s1 ?_
    cases eB : B ρ q1 with
    | ok dv q2 =>
      simp only [eB] at hp'
      intro v H2 k2 pl2 r2
      have kk : Keep p (upd H a (.dK [])) H2 := k1.trans k2
      have hH1 : H1 a = some (.dK []) := k1 a _ hap.symm upd_same
      have hH2 : H2 a = some (.dK []) := kk a _ hap.symm upd_same
      cases r1 with
      | int n =>
        refine ⟨hH2, [(.inl n, v)], rfl, by show 1 ≤ 15; decide, ?_⟩
        have em : mergeK [] [((.inl n : Key), v)] = [(.inl n, v)] := rfl
        rw [em]
        have na : ∀ b, Zn (fun b => Z b ∧ b ≠ a) H1 b → b ≠ a := fun b z => by
          rcases z with z | z
          · exact z.2
          · intro e
            rw [e, hH1] at z
            cases z
        have st : Stand (Zn (fun b => Z b ∧ b ≠ a) H1) H2 (upd H2 a (.dK [(.inl n, v)])) := ⟨fun b o z h => by rw [upd_ne (na b z)]; exact h, fun b xs h => by rw [upd_ne (fun x => by rw [x, hH2] at h; cases h)]; exact h, fun b o u h => by rw [upd_ne (fun x => by rw [x, hH2] at h; cases h)]; exact h⟩
        refine hp' (.ref a) _ (fun b o nb hb => ?_) ⟨by rw [upd_ne hap]; exact pl2.1, by rw [upd_ne hsc]; exact pl2.2.1, pl2.2.2⟩ ⟨a, [(.inl n, v)], [(.int n, dv)], rfl, rfl, ha, upd_same, rfl, .cons ((r2.stand st).sub fun b z _ => ?_) .nil⟩
        · have hba : b ≠ a := ne_of_none hb ha
          rw [upd_ne hba]
          exact kk b o nb (by rw [upd_ne hba]; exact hb)
        · have hb := na b z
          refine ⟨?_, hb⟩
          rcases z with z | z
          · exact .inl z.1
          · refine .inr ?_
            have z0 := none_back k1 pl1 z
            rwa [upd_ne hb] at z0
      | _ => exact hp'.elim
    | err x q2 =>
      simp only [eB] at hp'
      exact fun c od H' k pl rl => hp' c od H' ((k0.trans k1).trans k) pl rl
    | stuck =>
      simp only [eB] at hp'
      exact hp'.elim
  | err x q1 =>
    rw [eA] at hp'
    exact fun c od H' k pl rl => hp' c od H' (k0.trans k) pl rl
  | stuck =>
    rw [eA] at hp'
    exact hp'.elim
end
end Ew
namespace Ew
open PySem PySem.Spec PyProof.Rows L2
/-! ## a def's promise where nothing is being shown around it (for repr) -/
structure FnG (P : Program) (w : World) (K : PySem.W.Frag) (mg : Str → Option Value) (base : Heap) (X0 : CXT) (k : Nat) (f : Addr) (fd : FuncData) (ps : List Str) (sp : Sp) : Prop where
  run : ∀ (A : Around) (fs : List Env) (s : Shared) (H : Hp) (args : Args) (us : List Value) (vs : List V) (Q : VK) (E : XK), A.guards = some [] → Room k A → Env0 P w K mg base A fs s H →
    BindsTo s fd args (ps.zip us) → Vals vs us → sp vs H Q E → codeAny (model P w) A (.call (.ref f) args) (CR X0 fs P w H s Q E) s
section
variable {P : Program} {w : World} {K : PySem.W.Frag} {mg : Str → Option Value} {base : Heap} {X0 : CXT} {k : Nat} {x qual : Str} {f : Addr} {fd : FuncData} {N ps : List Str} {st : Stmt} {sp : Sp}
theorem fnG_of (F : FunD K x qual (defArgs st) (defBody st) (defScope st) [] [] f fd) (S : FnScope N ps (defScope st)) (len : ∀ vs H Q E, sp vs H Q E → vs.length = ps.length)
    (body : ∀ (c : Value) (A : Around) (fs : List Env) (s : Shared) (H : Hp) (vs : List V) (Q : VK) (E : XK), A.guards = some [] → Room k (A.deeper (envOfC qual (defScope st) s.heap.objs.size f c)) → sp vs H Q E →
      ∃ t, PSs (cxOf X0 P w K mg base N qual (defScope st) f c A fs s H E) (defBody st) t ∧ t { nx := fun _ H' => Q .non H', rt := Q } (L2.start N vs) H) : FnG P w K mg base X0 (k + 1) f fd ps sp := by
  obtain ⟨oc, od, dV, kV, doc, pm, an, c, ct, osl, rfl, lk, hcd, _, _⟩ := F.ex
  constructor
  intro A fs s H args us vs Q E hg rm env bnd rel want
  have old : ∀ b o, base.get? b = some o → s.heap.get? b = some o := fun b o e => (env.bs b o e).1
  have kin : K.In s.heap := env.mod.kin.keeps old
  have nolim : s.heap.NoLimit := env.mod.nolimit.keeps old
  have kinds : ∀ y ∈ ps.zip us, (defScope st).names.lookup y.1 = some .local ∨ ((defScope st).names.lookup y.1 = some .cell ∧ ((cellsFrom (s.heap.objs.size + 1) (defScope st).names []).lookup y.1).isSome = true) := by
    rintro ⟨n, v⟩ hy
    cases S.par n (List.of_mem_zip hy).1 with
    | inl q => exact .inl q
    | inr q => exact .inr ⟨q, PySem.W.cellsFrom_some _ _ _ (.inl q)⟩
  refine codeAny_call_function rm.depth (kin _ _ lk) rfl S.co S.gen rfl (PySem.W.codeRec_of kin hcd) (bnd _ _ _ _ ?_)
  refine wpAny_newFunctionEnv_cells S.kind kinds fun en he s1 y => ?_
  cases he
  refine ⟨nolim.keeps y.toInCall.keep, codeAny_func ?_⟩
  obtain ⟨t, ht, hq⟩ := body c A fs s H vs Q E hg (rm.deeper _) want
  have inv : Inv (cxOf X0 P w K mg base N qual (defScope st) f c A fs s H E) [] (L2.start N vs) H s1 := inv_start S rm.hd env (len _ _ _ _ want) rel y
  refine wpAny_mono (ht.run [] s1 (L2.start N vs) H _ inv hq) (fun fl s' z => ?_) fun _ _ z => z
  cases fl with
  | ret u =>
    obtain ⟨v, σ', H', J, rv, q⟩ := z
    exact ⟨v, H', J.os, J.bare, J.base, J.hok, rv, q⟩
  | next =>
    obtain ⟨σ', H', J, q⟩ := z
    exact ⟨V.non, H', J.os, J.bare, J.base, J.hok, rfl, q⟩
  | brk => exact z.choose_spec.choose_spec.2.elim
  | cont => exact z.choose_spec.choose_spec.2.elim
end
/-- the law's call, its def's promise of this kind -/
theorem law_callG {P : Program} {w : World} {K : PySem.W.Frag} {mg mb : Str → Option Value} {X0 : CXT} {k : Nat} {f a : Addr} {fd : FuncData} {x : Str} {sp : Sp} {s : Shared} {us : List Value} {ns : List Int}
    (kin : K.In s.heap) (gns : s.heap.Ns mainGlobals mg) (bns : s.heap.Ns builtinsNs mb) (bb : ∀ x : Str, x ≠ "__name__" → mb x = bootBuiltins x) (nolim : s.heap.NoLimit) (gens : s.gens = #[])
    (scr : s.heap.get? a = some { cls := .type "list", data := .seq us.toArray }) (hints : IntsAre us ns) (few : ns.length ≤ sizeLine) (rm : Room k callerA)
    (F : ∀ base : Heap, K.In base → base.Ns mainGlobals mg → FnG P w K mg base X0 k f fd [x] sp) (bnd : ∀ (s : Shared) (u : Value), BindsTo s fd ⟨[u], []⟩ [(x, u)])
    (want : ∀ H : Hp, Only H → SqL K H a (ns.map V.int) → sp [.ref a] H (fun v _ => v = .bl true) fun _ _ _ => False)
    (noE : ∀ H e s', X0 [] H s (fun _ _ _ => False) e s' → False) :
    codeAny (model P w) callerA (.call (.ref f) ⟨[.ref a], []⟩) (fun r s' => r = .ok (.ret (.bool true)) ∧ OldK s.heap s'.heap ∧ s'.os = s.os ∧ AllBare s'.gens) s := by
  have rel := vals_ints hints
  have main : ∀ H : Hp, Only H → SqL K H a (ns.map V.int) → HOk P w H s.heap → (∀ b, H b ≠ none → b = a) → (H a ≠ none → K.lookup a = none) →
      codeAny (model P w) callerA (.call (.ref f) ⟨[.ref a], []⟩) (fun r s' => r = .ok (.ret (.bool true)) ∧ OldK s.heap s'.heap ∧ s'.os = s.os ∧ AllBare s'.gens) s := by
    intro H only sq hok one known
    have hid : ∀ {b : Addr} {o : Obj}, s.heap.get? b = some o → H b = none → (hidT s.heap H).get? b = some o := fun e n => hidT_get e n
    have free : ∀ {b : Addr} {o : Obj}, s.heap.get? b = some o → (b = a → False) → H b = none := fun {b o} _ n => by
      cases q : H b with
      | none => rfl
      | some u => exact (n (one b (by rw [q]; simp))).elim
    have dicts : ∀ {b : Addr} {o : Obj} {es : Array DictEntry} {ep : Nat}, s.heap.get? b = some o → o.data = .dict es ep → H b = none := fun {b o es ep} e d => free e fun z => by
      rw [z, scr] at e
      cases e
      cases d
    have nss : ∀ {b : Addr} {m : Str → Option Value}, s.heap.Ns b m → (hidT s.heap H).Ns b m := by
      rintro b m ⟨o, es, ep, e, d, r⟩
      exact ⟨o, es, ep, hid e (dicts e d), d, r⟩
    have kinb : K.In (hidT s.heap H) := fun b o e => by
      refine hid (kin b o e) ?_
      cases q : H b with
      | none => rfl
      | some u =>
        have z : b = a := one b (by rw [q]; simp)
        rw [z] at e q
        rw [known (by rw [q]; simp)] at e
        cases e
    obtain ⟨ml, l1, l2⟩ := nolim
    have modl : Mod K mg (hidT s.heap H) := ⟨kinb, nss gns, ⟨mb, nss bns, bb⟩, ml, nss l1, l2⟩
    have env : Env0 P w K mg (hidT s.heap H) callerA [] s H := ⟨rfl, modl, fun b o e => of_hidT e, Nat.le_of_eq (hidT_size _ _), trivial, fun b hb => (nomatch hb), hok, .of_eq gens⟩
    have go := (F _ kinb (nss gns)).run callerA [] s H ⟨[.ref a], []⟩ [.ref a] [.ref a] _ _ rfl rm env (bnd s (.ref a)) (.cons rfl .nil) (want H only sq)
    refine codeAny_mono go fun r s' z => ?_
    cases r with
    | error e => exact (noE H e s' z).elim
    | ok fl =>
      cases fl with
      | ret u =>
        obtain ⟨v, H', os, bare, un, hok', r', q⟩ := z
        have q' : v = .bl true := q
        subst q'
        obtain rfl : u = Value.bool true := r'
        refine ⟨rfl, OldK.of_keep fun b o e => ?_, os, bare⟩
        cases q : H b with
        | none => exact un.keep b o e q (fun z => (nomatch z)) (fun z => (nomatch z))
        | some u =>
          cases only b with
          | inl z => rw [q] at z; cases z
          | inr z =>
            obtain ⟨ob, xs, z⟩ := z
            obtain ⟨e1, _⟩ := hok b _ z
            obtain ⟨e2, _⟩ := hok' b _ (un.frzs b ob _ z)
            rw [e] at e1
            cases e1
            exact e2
      | next => exact False.elim z
      | brk => exact False.elim z
      | cont => exact False.elim z
  cases hk : K.lookup a with
  | some o =>
    have e := kin a o hk
    rw [scr] at e
    cases e
    exact main (fun _ => none) (fun _ => .inl rfl) (.inr ⟨_, us.toArray, _, hk, rfl, rfl, rfl, by rw [List.size_toArray, hints.length]; exact few, by simpa using rel⟩) (fun b u z => (nomatch z)) (fun b z => absurd rfl z) fun z => absurd rfl z
  | none =>
    let o : Obj := { cls := .type "list", data := .seq us.toArray }
    have at_ : ∀ b, (if b = a then some (HO.frz o (.lst (ns.map V.int))) else none) ≠ none → b = a := fun b z => by
      by_cases hb : b = a
      · exact hb
      · exact absurd (if_neg hb) z
    refine main (fun b => if b = a then some (.frz o (.lst (ns.map V.int))) else none) (fun b => ?_) (.inl (.inr ⟨o, if_pos rfl⟩)) (fun b u z => ?_) at_ fun _ => hk
    · by_cases hb : b = a
      · exact .inr ⟨_, _, if_pos hb⟩
      · exact .inl (if_neg hb)
    · have hb : b = a := at_ b fun n => (by have z2 := n.symm.trans z; cases z2)
      subst hb
      have z' := (if_pos rfl).symm.trans z
      cases z'
      exact ⟨scr, by rw [List.length_map]; exact few, us, _, rel, scr⟩
/-- the law's own end: what stands over a head by facts, the promise by world -/
theorem law_endsG {l : PySem.W.OpenLaw} {n k : Nat} {q : Program} {loose : List Str} {XP : (Str → Option Value) → Heap → Prop} {YP : World → Heap → Prop} {d : DefRec} {x : Str} (most : l.most = some n) (small : n ≤ sizeLine) (plain : d.params.defaults = []) (room : Room k callerA)
    (facts : ∀ (w : World) (mg : Str → Option Value) (fa : Addr) (h : Heap), YP w h → h.Ns mainGlobals mg → mg d.name = some (.ref fa) → ∃ (K : PySem.W.Frag) (fd : FuncData), K.In h ∧ (∀ (s : Shared) (u : Value), BindsTo s fd ⟨[u], []⟩ [(x, u)]) ∧
      ∀ base : Heap, K.In base → base.Ns mainGlobals mg → FnG l.prog w K mg base (L2.CX l.prog w) k fa fd [x] (spLaw K)) : PySem.W.WalkO q loose XP YP l.row.toRowW d [] (fun f vs => PySem.call f vs) := by
  refine Att.attach_call most plain fun w s₀ s₁ mg mb fa o pm cd doc a vs ns G Y ho hd hcd hmg isf hint len got => ?_
  obtain ⟨K, fd, KX, hb, hF⟩ := facts w mg fa _ Y G.T.g hmg
  refine law_callG KX G.T.g G.T.b G.T.builtins G.T.nolimit got isf hint (Nat.le_trans len small) room hF hb (fun H _ hS => ⟨a, ns, rfl, hS, fun _ => rfl⟩) fun H e s' z => ?_
  obtain ⟨_, _, _, _, _, _, _, _, _, _, _, _, z⟩ := z
  exact z
/-! ### repr -/
mutual
/-- no list within -/
def noLst : D → Bool
  | .none | .bool _ | .int _ | .str _ => true
  | .tuple xs => noLstAll xs
  | .list _ => false
  | .dict kvs => noLstKv kvs
def noLstAll : List D → Bool
  | [] => true
  | x :: xs => noLst x && noLstAll xs
def noLstKv : List (D × D) → Bool
  | [] => true
  | (_, v) :: r => noLst v && noLstKv r
end
theorem noLstKv_vals : ∀ {kvs : List (D × D)}, noLstKv kvs = true → noLstAll (kvs.map fun q => q.2) = true
  | [], _ => by rw [List.map_nil, noLstAll]
  | (k, v) :: r, h => by
    rw [noLstKv, Bool.and_eq_true] at h
    rw [List.map_cons, noLstAll, Bool.and_eq_true]
    exact ⟨h.1, noLstKv_vals h.2⟩
theorem keys_nil {h : Heap} : ∀ {us : List Value} {kvs : List (Key × V)} {as : List Addr}, ReadsAll h us (kvs.map fun q => keyD q.1) as → as = []
  | _, [], _, r => by cases r; rfl
  | _, (k, v) :: kvs, _, r => by
    cases r with
    | cons r1 r2 =>
      rw [keys_nil r2]
      cases k with
      | inl i => cases r1; rfl
      | inr x => cases r1; rfl
section
variable {X : Cx} {W : WX} {pins : List (Addr × Obj)} {σ : L2.St} {H : Hp} {s : Shared} {Z : Rg}
mutual
theorem Rp.readsN (I : Inv X pins σ H s) : ∀ {v : V} {d : D} (u : Value), Rp X.K Z H v d → noLst d = true → RelV v u → ∃ as, Reads s.heap u d as ∧ sysModules ∉ as
  | _, _, u, .non, _, ru => by cases ru; exact ⟨_, .none, List.not_mem_nil⟩
  | _, _, u, .bl b, _, ru => by cases ru; exact ⟨_, .bool b, List.not_mem_nil⟩
  | _, _, u, .int i, _, ru => by obtain ⟨t, rfl⟩ := ru; exact ⟨_, .int i t, List.not_mem_nil⟩
  | _, _, u, .str x, _, ru => by obtain ⟨t, rfl⟩ := ru; exact ⟨_, .str x t, List.not_mem_nil⟩
  | _, _, u, .tup h r, e, ru => by
    cases ru
    obtain ⟨its, rv, ⟨o, ho, hc, n, hd⟩, hz⟩ := I.tuple h
    obtain ⟨as, q, hn⟩ := RpL.readsN I its r (by rw [noLst] at e; exact e) rv
    exact ⟨_, .tuple ho hc hd (by simpa using q), hn⟩
  | _, _, u, .lst h z r, e, ru => by rw [noLst] at e; cases e
  | _, _, u, .dic (a := a) (kvs := kvs) (ds := ds) h z e r, e0, ru => by
    cases ru
    obtain ⟨hz, hm, vs, kv, o, es, ep, ho, hx, hd, hk, he, hn⟩ := h.ok I.hok
    obtain ⟨⟨as, q1⟩, q2⟩ := keys_reads (X := X) (h := s.heap) kv he
    obtain ⟨bs, q3, hn3⟩ := RpL.readsN I _ r (by rw [noLst] at e0; exact noLstKv_vals e0) q2
    have ha := keys_nil q1
    subst ha
    refine ⟨_, .dict ho hx.1 hd (by rw [show ds.map (·.1) = ds.map (fun q => q.1) from rfl, e]; exact q1) q3, fun c => ?_⟩
    have c : sysModules ∈ a :: bs := by simpa using c
    rcases List.mem_cons.mp c with c | c
    · rw [← c, beq_self_eq_true] at hm; cases hm
    · exact hn3 c
theorem RpL.readsN (I : Inv X pins σ H s) : ∀ {vs : List V} {ds : List D} (us : List Value), RpL X.K Z H vs ds → noLstAll ds = true → Vals vs us → ∃ as, ReadsAll s.heap us ds as ∧ sysModules ∉ as
  | _, _, us, .nil, _, ru => by cases ru; exact ⟨_, .nil, List.not_mem_nil⟩
  | _, _, us, .cons h r, e, ru => by
    rw [noLstAll, Bool.and_eq_true] at e
    cases ru with
    | cons r1 r2 =>
      obtain ⟨as, q1, n1⟩ := Rp.readsN I _ h e.1 r1
      obtain ⟨bs, q2, n2⟩ := RpL.readsN I _ r e.2 r2
      exact ⟨_, .cons q1 q2, fun c => (List.mem_append.mp c).elim n1 n2⟩
end
/-- data that repr shows -/
def reprOk (d : D) : Bool := d.showable && decide (d.depth ≤ 98) && decide (d.shown.length ≤ sizeLine) && (!d.hasDict || noLst d)
def bRepr (x : D) : M D := if reprOk x = true then M.ret (.str x.shown) else M.stuck
def rRepr (K : PySem.W.Frag) : List V → Hp → VK → Prop := fun xs H Q => ∃ (Z : Rg) (v : V) (d : D), xs = [v] ∧ Rp K Z H v d ∧ reprOk d = true ∧ Q (.str d.shown) H
theorem cr_repr (hu : X.A.units + deep < cLine) (hgd : X.A.guards = some []) : CallR X (.builtin "repr") (rRepr X.K) := by
  intro pins s σ H xs us Q I r h
  obtain ⟨Z, v, d, rfl, rp, ok, q⟩ := h
  obtain ⟨u, rfl, ru⟩ := vals1 r
  unfold reprOk at ok
  rw [Bool.and_eq_true, Bool.and_eq_true, Bool.and_eq_true, decide_eq_true_eq, decide_eq_true_eq] at ok
  obtain ⟨⟨⟨o1, o2⟩, o3⟩, o4⟩ := ok
  have hu' : X.A.units + (d.depth + 1) < cLine := by unfold deep at hu; omega
  have obj : (∃ a, u = .ref a) → wpAny (model X.prog X.w) X.A (call (.builtin "repr") [u]) (EP X pins σ Q) X.xe s := fun ⟨a, e⟩ => by
    subst e
    obtain ⟨as, rd, hs⟩ : ∃ as, Reads s.heap (.ref a) d as ∧ (d.hasDict = true → sysModules ∉ as) := by
      cases hd : d.hasDict with
      | false =>
        obtain ⟨as, rd⟩ := rp.reads I _ ru
        exact ⟨as, rd, fun z => nomatch z⟩
      | true =>
        rw [hd] at o4
        obtain ⟨as, rd, hn⟩ := rp.readsN I _ (by simpa using o4) ru
        exact ⟨as, rd, fun _ => hn⟩
    exact repr_of_reads' rd o1 hs hgd hu' (fun _ _ e => e) (fun h' t tk hk => ⟨.str d.shown, H, I.kept hk, ⟨_, rfl⟩, q⟩) o3
  cases rp with
  | non => cases ru; exact PySem.P.repr_of_none ⟨.str _, H, I.tok _, ⟨_, rfl⟩, q⟩
  | bl b => cases ru; exact PySem.P.repr_of_bool ⟨.str _, H, I.tok _, ⟨_, rfl⟩, q⟩
  | int i => obtain ⟨t, rfl⟩ := ru; exact PySem.P.repr_of_int (by rw [PyData.showable, decide_eq_true_eq] at o1; exact o1) ⟨.str _, H, I.tok _, ⟨_, rfl⟩, q⟩
  | str x => obtain ⟨t, rfl⟩ := ru; exact PySem.P.repr_of_str ⟨.str _, H, I.tok _, ⟨_, rfl⟩, q⟩ o3
  | tup _ _ => cases ru; exact obj ⟨_, rfl⟩
  | lst _ _ _ => cases ru; exact obj ⟨_, rfl⟩
  | dic _ _ _ _ => cases ru; exact obj ⟨_, rfl⟩
theorem boot_reprE : bootBuiltins ("repr" : Str) = some (.builtin "repr") := by decide +kernel
theorem pd_repr {a : Expr} {A : DE} {pos pos' : Pos} (hu : X.A.units + deep < cLine) (hgd : X.A.guards = some []) (hg : Gl X "repr") (hm : X.mg "repr" = none) (ha : PDe X W a A) (he : starEach [a] X.env = (false, eval a X.env) :: starEach [] X.env := by rfl) (hpl : (backTo pos (starEach [] X.env)).any (·.1) = false := by rfl) :
    PDe X W (.Call (.Name "repr" pos') [a] [] pos) (dUn bRepr A) := by
  refine pd_b1 (cr_repr hu hgd) (fun p sc Z σ H q x dx Q pl nz hx hp => ?_) hg hm boot_reprE ha (by decide) (by decide) he hpl
  unfold bRepr at hp
  by_cases hc : reprOk dx = true
  · rw [if_pos hc] at hp
    exact ⟨Z, x, dx, rfl, hx, hc, hp _ H (Keep.refl _ _) pl (.str _)⟩
  · rw [if_neg hc] at hp
    exact hp.elim
end
end Ew
namespace Ew
open PySem PySem.Spec PyProof.Rows L2
/-! ## xs = xs + e of a list of one's own -/
def catO (i : Nat) (ds : List D) (ρ : Rho) (d : D) : M Out := match d with
  | .list es => if ds.length + es.length ≤ lineMax then M.ret (.next (ρ.set i (some (.own (ds ++ es))))) else M.stuck
  | _ => M.stuck
def sCatO (i : Nat) (e : DE) : DS := fun ρ => match ρ[i]? with
  | some (some (.own ds)) => M.bnd (e (hideR ρ)) (catO i ds ρ)
  | _ => M.stuck
theorem at_scato {i : Nat} {e : DE} {ρ : Rho} {ds : List D} (h : ρ[i]? = some (some (.own ds))) : sCatO i e ρ = M.bnd (e (hideR ρ)) (catO i ds ρ) := by unfold sCatO; rw [h]
section
variable {X : Cx} {W : WX} {F : DE} {pos : Pos}
theorem rds_catO {tb : TE} {i : Nat} (h2 : Rd1 X W (RpF X.K) tb F) : RdS X.K X.mg W (tAsg (tOp rCat (tVar i) tb) (gName i)) (sCatO i F) := by
  intro p sc Z0 H0 Z σ H ρ q E b h
  unfold sCatO at h
  cases hi : ρ[i]? with
  | none => rw [hi] at h; exact h.elim
  | some o =>
    cases o with
    | none => rw [hi] at h; exact h.elim
    | some sl =>
      cases sl with
      | own ds =>
        rw [hi] at h
        dsimp only at h
        obtain ⟨a, vs, s1, s2, s3, s4, s5⟩ := b.slot i _ hi
        obtain ⟨a', g1, _, _, _, ap, _⟩ := b.mine hi rfl
        rw [s1] at g1; cases g1
        refine ⟨.ref a, s1, ?_⟩
        refine h2 p sc _ σ H (hideR ρ) q _ b.sitH (PostS.ex (Rel := fun H' v d => Rp X.K (Zn Z H) H' v d) b h fun d q1 v H1 e k pl r hp => ?_)
        have b1 := b.after k pl
        have r1 : Rp X.K (Zh Z H H1) H1 v d := r.sub fun c z n => ⟨z, n⟩
        unfold catO at hp
        cases r1 with
        | lst hb zb rb =>
          rename_i b' ws es
          dsimp only at hp
          by_cases hl : ds.length + es.length ≤ lineMax
          · rw [if_pos hl] at hp
            have k1 : H1 a = some (.lst vs) := k a _ ap s2
            refine ⟨a, b', vs, ws, rfl, rfl, k1, hb, by rw [s5.length, rb.length]; exact hl, fun c hc => ?_⟩
            have b2 := b1.next (new_keep hc (o := .lst (vs ++ ws))) (new_pool hc pl)
            have st := k.stand b.pool b.nz
            have sd : RpL X.K (Zh Z H H1) H1 vs ds := (s5.stand st).sub fun c z n => ⟨.inl z, n⟩
            refine hp (Zh Z H H1) (σ.set i (some (.ref c))) _ (b2.mkOwn upd_same (fun z => z.2 hc) (none_back b.keep b.pool (none_back k pl hc)) ((sd.append rb).stand (new_stand hc)) fun j s hj m e => ?_) (fun c z => ⟨.inl z, fun n => b.zs c z (none_back k pl n)⟩) (new_stand hc)
            obtain ⟨a2, k1', _, _, k4, ap2, _⟩ := b.mine hj m
            rw [e] at k1'; cases k1'
            exact k4 (none_back k pl hc)
          · rw [if_neg hl] at hp; exact hp.elim
        | _ => exact hp.elim
      | dat d => rw [hi] at h; exact h.elim
      | odic d => rw [hi] at h; exact h.elim
      | pool => rw [hi] at h; exact h.elim
theorem sd_catO {i : Nat} {x : Str} {e : Expr} {pos' p1 p2 : Pos} (hN : X.N.Nodup) (he : PDe X W e F) (hi : X.N[i]? = some x := by rfl) (hx : Loc X.env.scope x := by first | exact Or.inl rfl | exact Or.inr rfl) (hv : Vis X.env.scope x := by first | exact Or.inl rfl | exact Or.inr (Or.inl rfl) | exact Or.inr (Or.inr rfl))
    (hs : swapsWith (.BinOp (.Name x p1) .Add e p2) (some (.Name x pos')) pos.line X.env = pure false := by rfl) (hd : (x == ("__debug__" : Str)) = false := by decide) (hcd : (x == ("__classdict__" : Str)) = false := by decide)
    (hf : X.fn x = true ∨ X.env.scope.names.lookup x = some .local := by first | exact .inl rfl | exact .inr rfl | assumption) : PSd X W (.Assign [.Name x pos'] (.BinOp (.Name x p1) .Add e p2) pos) (sCatO i F) := by
  obtain ⟨t, h1, h2⟩ := he
  exact ⟨_, ps_set hN hi hx (pe_op op_cat (pe_var hi hv hd hcd) h1) hs hf, rds_catO h2⟩
end
/-! ## < of tuples -/
def oLtD (x y : D) : M D := match x, y with
  | .int i, .int j => M.ret (.bool (decide (i < j)))
  | .tuple xs, .tuple ys => if PySem.W.alike (.tuple xs) (.tuple ys) = true ∧ (PyData.tuple xs).depth < deep then M.ret (.bool (PySem.W.dataLt (.tuple xs) (.tuple ys))) else M.stuck
  | _, _ => M.stuck
theorem lt_intsD (i j : Int) : oLtD (.int i) (.int j) = M.ret (.bool (decide (i < j))) := rfl
section
variable {X : Cx} {W : WX}
def rLtD (K : PySem.W.Frag) : R2 := fun x y H Q => ∃ (Z : Rg) (dx dy : D), Rp K Z H x dx ∧ Rp K Z H y dy ∧ PySem.W.alike dx dy = true ∧ dx ≠ .none ∧ dx.depth < deep ∧ Q (.bl (PySem.W.dataLt dx dy)) H
theorem op_ltD (hu : X.A.units + deep < cLine) : OpR X (compareOp .Lt) (rLtD X.K) := by
  intro pins s σ H x y v u Q I rx ry h
  obtain ⟨Z, dx, dy, r1, r2, ha, hn, hd, q⟩ := h
  obtain ⟨as, q1⟩ := r1.reads I _ rx
  obtain ⟨bs, q2⟩ := r2.reads I _ ry
  exact PySem.W.lt_data q1 q2 ha hn (by have := Nat.min_le_left dx.depth dy.depth; omega) ⟨.bl _, H, I, rfl, q⟩
theorem opd_ltD (hu : X.A.units + deep < cLine) : OpD X W (compareOp .Lt) oLtD := by
  refine ⟨_, OpR.or op_lt (op_ltD hu), fun p sc Z σ H q x y dx dy Q pl nz hx hy hp => ?_⟩
  unfold oLtD at hp
  cases dx with
  | int i =>
    cases dy with
    | int j =>
      cases hx
      cases hy
      exact .inl ⟨i, j, rfl, rfl, hp _ H (Keep.refl _ _) pl (.bl _)⟩
    | _ => exact hp.elim
  | tuple xs =>
    cases dy with
    | tuple ys =>
      dsimp only at hp
      by_cases hc : PySem.W.alike (.tuple xs) (.tuple ys) = true ∧ (PyData.tuple xs).depth < deep
      · rw [if_pos hc] at hp
        exact .inr ⟨Z, _, _, hx, hy, hc.1, (fun e => nomatch e), hc.2, hp _ H (Keep.refl _ _) pl (.bl _)⟩
      · rw [if_neg hc] at hp; exact hp.elim
    | _ => exact hp.elim
  | _ => exact hp.elim
end
end Ew
namespace Ew
open PySem PySem.Spec PyProof.Rows L2
/-! ## [e for x in xs if t for y in ys if u] -/
def comp2Turn (g : Tgt) (T : DT) (it1 : DI) (ρ : Rho) : D → M (Option (Rho × List D)) := fun x => M.bnd (g x ρ) fun ρ2 => M.bnd (T ρ2) fun c => if c = true then M.bnd (it1 ρ2) fun ys => M.ret (some (ρ2, ys)) else M.ret none
def comp2Go (f : D → M (Option (Rho × List D))) (h : Rho → D → M (Option D)) : List D → List D → M (List D)
  | ac, [] => M.ret ac
  | ac, x :: xs => M.bnd (f x) fun o => match o with
    | none => comp2Go f h ac xs
    | some z => if ac.length + z.2.length ≤ PySem.sizeLine then M.bnd (compGo (h z.1) z.2) fun r => comp2Go f h (ac ++ r) xs else M.stuck
def dComp2 (own own1 : List Nat) (it : DI) (g : Tgt) (T : DT) (it1 : DI) (g1 : Tgt) (T1 : DT) (F : DE) : DE := fun ρ => M.bnd (it ρ) fun xs => M.bnd (M.noerr (comp2Go (comp2Turn g T it1 (wipeR ρ own)) (fun ρ2 => compTurn g1 T1 F (wipeR ρ2 own1)) [] xs)) fun ys => M.ret (.list ys)
def Okk {α : Type} (Qf : α → Pool → Prop) (m : M α) (q : Pool) : Prop := ∃ ys q', m q = .ok ys q' ∧ Qf ys q'
theorem bnd_ok {α β : Type} {m : M α} {f : α → M β} {q q2 : Pool} {y : β} (h : M.bnd m f q = .ok y q2) : ∃ x q1, m q = .ok x q1 ∧ f x q1 = .ok y q2 := by
  unfold M.bnd at h
  cases e : m q with
  | ok x q1 => rw [e] at h; exact ⟨x, q1, rfl, h⟩
  | err x q1 => rw [e] at h; cases h
  | stuck => rw [e] at h; cases h
theorem okk_bnd {α β : Type} {Qf : β → Pool → Prop} {m : M α} {f : α → M β} {q : Pool} (h : Okk Qf (M.bnd m f) q) : ∃ x q1, m q = .ok x q1 ∧ Okk Qf (f x) q1 := by
  obtain ⟨ys, q', e, h⟩ := h
  obtain ⟨x, q1, e1, e2⟩ := bnd_ok e
  exact ⟨x, q1, e1, ys, q', e2, h⟩
theorem okk_of {α β : Type} {Qf : β → Pool → Prop} {m : M α} {f : α → M β} {q q1 : Pool} {x : α} (e : m q = .ok x q1) (h : Okk Qf (f x) q1) : Okk Qf (M.bnd m f) q := by
  obtain ⟨ys, q', e1, h⟩ := h
  exact ⟨ys, q', by unfold M.bnd; rw [e]; exact e1, h⟩
/-- the list in the making -/
structure Ld (K : PySem.W.Frag) (p sc L : Addr) (Zd : Rg) (H1 Hc : Hp) (q : Pool) (ac : List D) : Prop where
  keep : Keep p H1 Hc
  pool : PoolAt p sc Hc q
  lst : ∃ vs, Hc L = some (.lst vs) ∧ RpL K Zd Hc vs ac
theorem Ld.same {K : PySem.W.Frag} {p sc L : Addr} {Zd : Rg} {H1 Hc Hd : Hp} {q : Pool} {ac : List D} (a : Ld K p sc L Zd H1 Hc q ac) (nz : ¬ Zd p) (sm : Same Hc Hd) : Ld K p sc L Zd H1 Hd q ac := by
  have k : Keep p Hc Hd := fun b o _ h => sm b o h
  obtain ⟨vs, e, r⟩ := a.lst
  exact ⟨a.keep.trans k, ⟨sm _ _ a.pool.1, sm _ _ a.pool.2.1, a.pool.2.2⟩, vs, sm _ _ e, r.stand (k.stand a.pool nz)⟩
theorem Ld.next {K : PySem.W.Frag} {p sc L : Addr} {Zd : Rg} {H1 Hc Hd : Hp} {q q' : Pool} {ac : List D} (a : Ld K p sc L Zd H1 Hc q ac) (nz : ¬ Zd p) (hp : L ≠ p) (k : Keep p Hc Hd) (pl : PoolAt p sc Hd q') : Ld K p sc L Zd H1 Hd q' ac := by
  obtain ⟨vs, e, r⟩ := a.lst
  exact ⟨a.keep.trans k, pl, vs, k _ _ hp e, r.stand (k.stand a.pool nz)⟩
section
variable {X : Cx} {e elt tg iter : Expr} {pos : Pos}
theorem rd_comp2 {W : WX} {wi : TI} {it it1 : DI} {own own1 is is1 : List Nat} {g g1 : Tgt} {T T1 : DT} {F : DE} (hi : Rd1 X W (WaF X.K) wi it) (his : ∀ i ∈ is, i ∈ own) (his1 : ∀ i ∈ is1, i ∈ own1) (hg : TgOk g) (hg1 : TgOk g1) :
    Rd1 X W (NewF X.K) (tLc2 wi (gF X.K is g) (tF X.K X.mg W0 BoF T) (tF X.K X.mg W0 (WaF X.K) it1) (gF X.K is1 g1) (tF X.K X.mg W0 BoF T1) (tF X.K X.mg W0 (RpF X.K) F) own own1) (dComp2 own own1 it g T it1 g1 T1 F) := by
  intro p sc Z σ H ρ q Q s hp
  refine hi p sc Z σ H ρ q _ s ((Post.bnd (Rel := WaF X.K p Z H) (Rel' := NewF X.K p Z H) hp).to fun J H1 ⟨ds, q1, e1, k1, pl1, wk, hp1⟩ => ?_)
  intro L hL
  have hHL : H L = none := by
    cases e : H L with
    | none => rfl
    | some o =>
      by_cases hc : L = p
      · subst hc; rw [pl1.1] at hL; cases hL
      · rw [k1 L o hc e] at hL; cases hL
  have hpL : L ≠ p := fun e => by subst e; rw [pl1.1] at hL; cases hL
  have s1 := s.next k1 pl1
  let Zd : Rg := fun b => Zn Z H b ∧ b ≠ L
  have nzd : ¬ Zd p := fun z => Zn.nop s.pool s.nz z.1
  have nLd : ¬ Zd L := fun z => z.2 rfl
  have envD : EnvR X.K p Zd σ H1 ρ := fun i sl h => by
    have z := s1.env i sl h
    cases ev : sl.val? with
    | none => rw [ev] at z; exact z
    | some d =>
      rw [ev] at z
      obtain ⟨v, h1, h2⟩ := z
      exact ⟨v, h1, h2.sub fun b zb nb => ⟨.inl zb, fun e => nb (e ▸ hL)⟩⟩
  let Qf : List D → Pool → Prop := fun ys q'' => Post X.mg p sc H (NewF X.K p Z H) (fun c od H' => W c od σ H') Q (R.ok (.list ys) q'')
  generalize hf : comp2Turn g T it1 (wipeR ρ own) = f at hp1
  generalize hh : (fun ρ2 => compTurn g1 T1 F (wipeR ρ2 own1)) = h at hp1
  have hp2 : Okk Qf (comp2Go f h [] ds) q1 := by
    unfold M.bnd M.noerr at hp1
    cases ec : comp2Go f h [] ds q1 with
    | ok ys q2 => rw [ec] at hp1; exact ⟨ys, q2, ec, hp1⟩
    | err x q2 => rw [ec] at hp1; exact hp1.elim
    | stuck => rw [ec] at hp1; exact hp1.elim
  clear hp1
  have frz : ∀ {Hx : Hp} {qx : Pool} {ac : List D}, Ld X.K p sc L Zd H1 Hx qx ac → ∀ b, Hx b = none → Zd b := fun ld b n => by
    obtain ⟨vs, e, _⟩ := ld.lst
    exact ⟨.inr (none_back (k1.trans ld.keep) ld.pool n), fun e2 => by rw [e2, e] at n; cases n⟩
  refine ⟨fun i m Hc => m = ds.length - i ∧ i ≤ ds.length ∧ ∃ q' ac, Ld X.K p sc L Zd H1 Hc q' ac ∧ Okk Qf (comp2Go f h ac (ds.drop i)) q', ⟨ds.length, by simp, Nat.zero_le _, q1, [], ⟨new_keep hL, new_pool hL pl1, [], upd_same, .nil⟩, by rw [List.drop_zero]; exact hp2⟩, ?_⟩
  rintro i m Hc ⟨rfl, hi, q', ac, ld, hq⟩
  have std : Stand (Zn Z H) H1 Hc := ld.keep.stand pl1 (Zn.nop s.pool s.nz)
  by_cases hlt : i < ds.length
  case neg =>
    have ei : i = ds.length := by omega
    subst ei
    refine .inl ⟨(wk Hc std).2 _ (Nat.le_refl _), ?_⟩
    rw [List.drop_length] at hq
    obtain ⟨ys, q2, e, hq⟩ := hq
    cases e
    obtain ⟨vs, hv, rs⟩ := ld.lst
    exact hq (.ref L) Hc (k1.trans ld.keep) ld.pool ⟨L, vs, _, rfl, rfl, hHL, hv, rs⟩
  case pos =>
  refine .inr ?_
  obtain ⟨w1, _⟩ := wk Hc std
  have ed : ds[i]? = some ds[i] := List.getElem?_eq_getElem hlt
  obtain ⟨go, yl⟩ := w1 i _ ed
  refine ⟨go, fun Hn => ∃ q' ac, Ld X.K p sc L Zd H1 Hn q' ac ∧ Okk Qf (comp2Go f h ac (ds.drop (i + 1))) q', fun H' nx => ⟨ds.length - (i + 1), by omega, rfl, hlt, nx⟩, fun x H' yy => ?_⟩
  obtain ⟨sm, rx⟩ := yl x H' yy
  have ldS := ld.same nzd sm
  have rx' : Rp X.K Zd H' x ds[i] := rx.grow fun b zb => ⟨zb.1, fun e => zb.2 (e ▸ hL)⟩
  rw [List.drop_eq_getElem_cons hlt] at hq
  obtain ⟨o, q2, eo, hq⟩ := okk_bnd hq
  rw [← hf] at eo
  obtain ⟨ρ1, q3, eg, eo⟩ := bnd_ok eo
  obtain ⟨c, q4, eT, eo⟩ := bnd_ok eo
  have e3 : q3 = q' := by
    rcases hg ds[i] (wipeR ρ own) q' with ⟨_, z⟩ | z
    · rw [z] at eg; cases eg; rfl
    · rw [z] at eg; cases eg
  subst e3
  refine ⟨Zd, wipeR ρ own, ρ1, q3, q3, ds[i], rx', eg, fun l hl e2 _ => ?_⟩
  subst e2
  refine ⟨wipe_sets l fun x hx => his _ (hl x hx).1, ?_⟩
  have sit1 : Sit X.K p sc Zd (setsV l (wipe σ own)) H' (setsR l (wipeR ρ own)) q3 := by
    refine ⟨EnvR.sets l (((envD.stand (ldS.keep.stand pl1 nzd)).wipe own)) (by rw [wipeR_len, wipe_length]; exact s.len) fun x hx => (hl x hx).2, ldS.pool, nzd, ?_⟩
    rw [setsR_len, setsV_len, wipeR_len, wipe_length]
    exact s.len
  generalize setsR l (wipeR ρ own) = ρ1 at *
  generalize setsV l (wipe σ own) = σ1 at *
  refine ⟨p, sc, Zd, _, q3, sit1, ?_⟩
  rw [eT]
  intro b H3 k3 pl3 hb
  have hb' : b = c := hb
  subst hb'
  have ld3 := ldS.next nzd hpL k3 pl3
  have sit3 := sit1.next k3 pl3
  cases b with
  | false =>
    cases eo
    exact ⟨_, _, ld3, hq⟩
  | true =>
    simp only [if_true] at eo ⊢
    obtain ⟨es, q5, eI, eo⟩ := bnd_ok eo
    cases eo
    dsimp only at hq
    by_cases hlen : ac.length + es.length ≤ sizeLine
    case neg =>
      rw [if_neg hlen] at hq
      obtain ⟨_, _, e, _⟩ := hq
      cases e
    rw [if_pos hlen] at hq
    refine ⟨p, sc, Zd, _, q4, sit3, ?_⟩
    rw [eI]
    intro J1 H4 k4 pl4 wk1
    have ld4 := ld3.next nzd hpL k4 pl4
    have nL : ¬ Zn Zd H3 L := by
      rintro (z | z)
      · exact z.2 rfl
      · obtain ⟨vs, e, _⟩ := ld3.lst
        rw [e] at z; cases z
    have nz3 : ¬ Zn Zd H3 p := Zn.nop pl3 nzd
    refine ⟨fun j k Hc => k = es.length - j ∧ j ≤ es.length ∧ Stand (Zn Zd H3) H4 Hc ∧ ∃ q' ac2, Ld X.K p sc L Zd H1 Hc q' ac2 ∧ ac2.length ≤ ac.length + j ∧ Okk Qf (M.bnd (compGo (h ρ1) (es.drop j)) fun r => comp2Go f h (ac2 ++ r) (ds.drop (i + 1))) q',
      ⟨es.length, by simp, Nat.zero_le _, Stand.refl _ _, _, ac, ld4, by omega, by rw [List.drop_zero]; exact hq⟩, ?_⟩
    rintro j k Hj ⟨rfl, hj, stj, qj, ac2, ldj, hac, hqj⟩
    by_cases hlj : j < es.length
    case neg =>
      have ej : j = es.length := by omega
      subst ej
      refine .inl ⟨(wk1 Hj stj).2 _ (Nat.le_refl _), ?_⟩
      rw [List.drop_length] at hqj
      obtain ⟨r, q6, er, hqj⟩ := okk_bnd hqj
      cases er
      rw [List.append_nil] at hqj
      exact ⟨_, _, ldj, hqj⟩
    case pos =>
    obtain ⟨go1, yl1⟩ := (wk1 Hj stj).1 j _ (List.getElem?_eq_getElem hlj)
    refine .inr ⟨go1, fun Hn => Stand (Zn Zd H3) H4 Hn ∧ ∃ q' ac2, Ld X.K p sc L Zd H1 Hn q' ac2 ∧ ac2.length ≤ ac.length + (j + 1) ∧ Okk Qf (M.bnd (compGo (h ρ1) (es.drop (j + 1))) fun r => comp2Go f h (ac2 ++ r) (ds.drop (i + 1))) q',
      fun H' nx => ⟨es.length - (j + 1), by omega, rfl, hlj, nx.1, nx.2⟩, fun y Hy yy => ?_⟩
    obtain ⟨sm1, ry⟩ := yl1 y Hy yy
    have ldy := ldj.same nzd sm1
    have sty : Stand (Zn Zd H3) H4 Hy := stj.trans ⟨fun b o _ e => sm1 b o e, fun b o e => sm1 b _ e, fun b o u e => sm1 b _ e⟩
    have ry' : Rp X.K (Zn Zd H3) Hy y es[j] := ry.grow fun b z => z.1
    rw [List.drop_eq_getElem_cons hlj] at hqj
    obtain ⟨r, q6, er, hqj⟩ := okk_bnd hqj
    obtain ⟨o, q7, eo, er⟩ := bnd_ok er
    obtain ⟨r', q8, er', er⟩ := bnd_ok er
    cases er
    have hnx : Okk Qf (M.bnd (compGo (h ρ1) (es.drop (j + 1))) fun r => comp2Go f h (ac2 ++ o.toList ++ r) (ds.drop (i + 1))) q7 := okk_of er' (by rw [List.append_assoc]; exact hqj)
    clear hqj er'
    rw [← hh] at eo
    obtain ⟨ρ3, q9, eg1, eo⟩ := bnd_ok eo
    obtain ⟨c1, q10, eT1, eo⟩ := bnd_ok eo
    have e9 : q9 = qj := by
      rcases hg1 es[j] (wipeR ρ1 own1) qj with ⟨_, z⟩ | z
      · rw [z] at eg1; cases eg1; rfl
      · rw [z] at eg1; cases eg1
    subst e9
    refine ⟨Zn Zd H3, wipeR ρ1 own1, ρ3, q9, q9, es[j], ry', eg1, fun l1 hl1 e2 _ => ?_⟩
    subst e2
    refine ⟨wipe_sets l1 fun x hx => his1 _ (hl1 x hx).1, ?_⟩
    have env3 : EnvR X.K p (Zn Zd H3) σ1 Hy ρ1 := ((sit3.env.stand (k4.stand pl3 nzd)).stand (sty.sub Zn.base)).grow Zn.base
    have sitj : Sit X.K p sc (Zn Zd H3) (setsV l1 (wipe σ1 own1)) Hy (setsR l1 (wipeR ρ1 own1)) q9 := by
      refine ⟨EnvR.sets l1 (env3.wipe own1) (by rw [wipeR_len, wipe_length]; exact sit3.len) fun x hx => (hl1 x hx).2, ldy.pool, nz3, ?_⟩
      rw [setsR_len, setsV_len, wipeR_len, wipe_length]
      exact sit3.len
    refine ⟨p, sc, Zn Zd H3, _, q9, sitj, ?_⟩
    rw [eT1]
    intro b H6 k6 pl6 hb
    have hb' : b = c1 := hb
    subst hb'
    have ld6 := ldy.next nzd hpL k6 pl6
    have st6 : Stand (Zn Zd H3) H4 H6 := sty.trans (k6.stand ldy.pool nz3)
    cases b with
    | false =>
      cases eo
      exact ⟨st6, _, ac2, ld6, by omega, by simpa using hnx⟩
    | true =>
      simp only [if_true] at eo ⊢
      obtain ⟨y1, q11, eF, eo⟩ := bnd_ok eo
      cases eo
      refine ⟨p, sc, Zn Zd H3, _, q10, sitj.next k6 pl6, ?_⟩
      rw [eF]
      intro v H7 k7 pl7 rv
      have ld7 := ld6.next nzd hpL k7 pl7
      obtain ⟨vs, hv, rs⟩ := ld7.lst
      have rv' : Rp X.K Zd H7 v y1 := rv.grow fun b z => by
        rcases z with (z | z) | n
        · exact z
        · exact frz ld3 b z
        · exact frz ld6 b n
      have st8 : Stand Zd H7 (upd H7 L (.lst (vs ++ [v]))) := own_stand hv nLd
      have st9 : Stand (Zn Zd H3) H7 (upd H7 L (.lst (vs ++ [v]))) := own_stand hv nL
      have hvl := rs.length
      refine ⟨vs, hv, by omega, (st6.trans (k7.stand pl6 nz3)).trans st9, _, ac2 ++ [y1], ⟨fun b o hb e => ?_, ⟨?_, ?_, pl7.2.2⟩, vs ++ [v], upd_same, (rs.append (.one rv')).stand st8⟩, by simp; omega, by simpa using hnx⟩
      · rw [upd_ne (ne_of_none e hL)]
        exact ld7.keep b o hb e
      · rw [upd_ne (Ne.symm hpL)]
        exact pl7.1
      · rw [upd_ne (fun e => by have z := pl1.2.1; rw [e, hL] at z; cases z)]
        exact pl7.2.1
theorem PId.run {W : WX} {tg iter : Expr} {it : DI} (h : PId X W tg iter it) : PI X tg iter (tF X.K X.mg W (WaF X.K) it) := by
  obtain ⟨t, h1, h2⟩ := h
  exact ⟨fun pins s σ H Q I x => h1.run pins s σ H Q I (h2.tF x)⟩
theorem pdf_lc2 {W : WX} {tg1 iter1 : Expr} {own : List (Str × Nat)} {vs vs1 is is1 : List Nat} {ifs ifs1 : List Expr} {scope : Scope} {it it1 : DI} {g g1 : Tgt} {T T1 : DT} {F : DE} (hc : X.calm = true) (hN : X.N.Nodup) (hi : PId X W tg iter it) (ok : BlkOk X.N X.env.scope scope own) (his : ∀ i ∈ is, i ∈ vs) (his1 : ∀ i ∈ is1, i ∈ vs1) (hv : ∀ i ∈ vs1, i ∈ vs)
    (hg : ∀ (s : Shared) (H : Hp) (C : Addr) (cl : List (Str × Addr)) (fp : List Addr), PGd (X.blk s H scope (compEnvC scope cl C X.env) fp) is tg g) (ht : ∀ (s : Shared) (H : Hp) (C : Addr) (cl : List (Str × Addr)) (fp : List Addr), PTsd (X.blk s H scope (compEnvC scope cl C X.env) fp) W0 ifs T)
    (hi1 : ∀ (s : Shared) (H : Hp) (C : Addr) (cl : List (Str × Addr)) (fp : List Addr), PId (X.blk s H scope (compEnvC scope cl C X.env) fp) W0 tg1 iter1 it1)
    (hg1 : ∀ (s : Shared) (H : Hp) (C : Addr) (cl : List (Str × Addr)) (fp : List Addr), PGd (X.blk s H scope (compEnvC scope cl C X.env) fp) is1 tg1 g1) (ht1 : ∀ (s : Shared) (H : Hp) (C : Addr) (cl : List (Str × Addr)) (fp : List Addr), PTsd (X.blk s H scope (compEnvC scope cl C X.env) fp) W0 ifs1 T1)
    (he : ∀ (s : Shared) (H : Hp) (C : Addr) (cl : List (Str × Addr)) (fp : List Addr), PDe (X.blk s H scope (compEnvC scope cl C X.env) fp) W0 elt F) (hgo : TgOk g) (hgo1 : TgOk g1) (hm : own.map (·.2) = vs := by rfl) (hs : ∀ x, foldedSetIterable iter X.env x = pure x := by intro _; rfl) (hs1 : ∀ env x, foldedSetIterable iter1 env x = pure x := by intro _ _; rfl) :
    PDf X W (.ListComp elt [⟨tg, iter, ifs, 0⟩, ⟨tg1, iter1, ifs1, 0⟩] scope pos) (dComp2 vs vs1 it g T it1 g1 T1 F) := by
  subst hm
  obtain ⟨wi, h1, h2⟩ := hi
  exact ⟨_, pe_lc2 hc hN h1 ok hv (fun s H C cl fp => (hg s H C cl fp).run) (fun s H C cl fp => (ht s H C cl fp).run) (fun s H C cl fp => (hi1 s H C cl fp).run) (fun s H C cl fp => (hg1 s H C cl fp).run) (fun s H C cl fp => (ht1 s H C cl fp).run) (fun s H C cl fp => (he s H C cl fp).run) hs hs1, rd_comp2 h2 his his1 hgo hgo1⟩
theorem ps_lcn2 {W : WX} {tg1 iter1 : Expr} {i : Nat} {y : Str} {py spos : Pos} {own : List (Str × Nat)} {vs vs1 is is1 : List Nat} {ifs ifs1 : List Expr} {scope : Scope} {it it1 : DI} {g g1 : Tgt} {T T1 : DT} {F : DE} (hc : X.calm = true) (hN : X.N.Nodup) (hsw : swapsWith (.ListComp elt [⟨tg, iter, ifs, 0⟩, ⟨tg1, iter1, ifs1, 0⟩] scope pos) (some (.Name y py)) spos.line X.env = pure true) (hi : PId X W tg iter it) (ok : BlkOk X.N X.env.scope scope own) (his : ∀ i ∈ is, i ∈ vs) (his1 : ∀ i ∈ is1, i ∈ vs1) (hv : ∀ i ∈ vs1, i ∈ vs)
    (hg : ∀ (s : Shared) (H : Hp) (C : Addr) (cl : List (Str × Addr)) (fp : List Addr), PGd (X.blk s H scope (compEnvC scope cl C X.env) fp) is tg g) (ht : ∀ (s : Shared) (H : Hp) (C : Addr) (cl : List (Str × Addr)) (fp : List Addr), PTsd (X.blk s H scope (compEnvC scope cl C X.env) fp) W0 ifs T)
    (hi1 : ∀ (s : Shared) (H : Hp) (C : Addr) (cl : List (Str × Addr)) (fp : List Addr), PId (X.blk s H scope (compEnvC scope cl C X.env) fp) W0 tg1 iter1 it1)
    (hg1 : ∀ (s : Shared) (H : Hp) (C : Addr) (cl : List (Str × Addr)) (fp : List Addr), PGd (X.blk s H scope (compEnvC scope cl C X.env) fp) is1 tg1 g1) (ht1 : ∀ (s : Shared) (H : Hp) (C : Addr) (cl : List (Str × Addr)) (fp : List Addr), PTsd (X.blk s H scope (compEnvC scope cl C X.env) fp) W0 ifs1 T1)
    (he : ∀ (s : Shared) (H : Hp) (C : Addr) (cl : List (Str × Addr)) (fp : List Addr), PDe (X.blk s H scope (compEnvC scope cl C X.env) fp) W0 elt F) (hgo : TgOk g) (hgo1 : TgOk g1) (hm : own.map (·.2) = vs := by rfl) (hy : X.N[i]? = some y := by rfl) (hyl : X.env.scope.names.lookup y = some .local := by rfl) (hs : ∀ x, foldedSetIterable iter X.env x = pure x := by intro _; rfl) (hs1 : ∀ env x, foldedSetIterable iter1 env x = pure x := by intro _ _; rfl) :
    ∃ t, PS X (.Assign [.Name y py] (.ListComp elt [⟨tg, iter, ifs, 0⟩, ⟨tg1, iter1, ifs1, 0⟩] scope pos) spos) (tAsg t (gName i)) ∧ Rd1 X W (NewF X.K) t (dComp2 vs vs1 it g T it1 g1 T1 F) := by
  subst hm
  obtain ⟨wi, h1, h2⟩ := hi
  exact ⟨_, ps_setLc2 hc hN hy hyl hsw h1 ok hv (fun s H C cl fp => (hg s H C cl fp).run) (fun s H C cl fp => (ht s H C cl fp).run) (fun s H C cl fp => (hi1 s H C cl fp).run) (fun s H C cl fp => (hg1 s H C cl fp).run) (fun s H C cl fp => (ht1 s H C cl fp).run) (fun s H C cl fp => (he s H C cl fp).run) hs hs1, rd_comp2 h2 his his1 hgo hgo1⟩
end
/-! ### len(set(t)), t a tuple of ints -/
def distN : List Int → Nat
  | [] => 0
  | x :: xs => (if x ∈ xs then 0 else 1) + distN xs
theorem distN_nodup : ∀ (xs ms : List Int), ms.Nodup → (∀ k, k ∈ ms ↔ k ∈ xs) → ms.length = distN xs
  | [], ms, _, h => by
    cases ms with
    | nil => rfl
    | cons m ms => exact absurd ((h m).1 List.mem_cons_self) (by simp)
  | x :: xs, ms, nd, h => by
    unfold distN
    by_cases hx : x ∈ xs
    · rw [if_pos hx, Nat.zero_add]
      refine distN_nodup xs ms nd fun k => (h k).trans ⟨fun z => ?_, List.mem_cons_of_mem _⟩
      rcases List.mem_cons.mp z with rfl | z
      · exact hx
      · exact z
    · rw [if_neg hx]
      have hm : x ∈ ms := (h x).2 List.mem_cons_self
      have z := distN_nodup xs (ms.erase x) (nd.erase x) fun k => by
        rw [nd.mem_erase_iff, h k, List.mem_cons]
        exact ⟨fun ⟨a, b⟩ => b.resolve_left a, fun a => ⟨fun e => hx (e ▸ a), .inr a⟩⟩
      rw [List.length_erase_of_mem hm] at z
      have := List.length_pos_of_mem hm
      omega
def bLenSet (d : D) : M D := match d with
  | .tuple ds => match ints? ds with
    | some ns => if ds.length < 64 then M.ret (.int (distN ns : Nat)) else M.stuck
    | none => M.stuck
  | _ => M.stuck
section
variable {X : Cx} {W : WX} {a : Expr} {A : DE} {pos pos' pos2 p1 : Pos}
def rSetT (X : Cx) : List V → Hp → VK → Prop := fun vs H Q => ∃ (p : Addr) (ns : List Int), vs = [.ref p] ∧ SqT X.K H p (ns.map V.int) ∧ ns.length ≤ 1000 ∧ ∀ a c, H a = none → c ≤ ns.length → Q (.ref a) (upd H a (SetO X.w a (fun j => decide (j ∈ ns)) c))
theorem cr_setT (hc : X.calm = true) : CallR X (.type "set") (rSetT X) := by
  intro pins s σ H xs us Q I r h
  obtain ⟨p, ns, rfl, hq, hl, q⟩ := h
  rw [Vals.ref1 r]
  obtain ⟨its, rv, pt, hz⟩ := I.tuple hq
  have hi : IntsAre its.toArray.toList ns := ints_of_vals rv
  refine call_set_tupI ns (I.ok.hd hc) (show s.heap.IsTuple p its.toArray from pt) hi (by unfold scanBound; omega) fun h' tk c R1 hcn k => ?_
  have hn : H s.heap.objs.size = none := I.hok.fresh (Nat.le_refl _)
  have J : Inv X pins σ (upd H s.heap.objs.size (SetO X.w s.heap.objs.size (fun j => decide (j ∈ ns)) c)) { s with heap := h', gens := s.gens, drawn := s.drawn, toks := tk } :=
    I.call (ch := []) (Un.laid k (Nat.le_refl _) hn) (I.hok.laid k (Nat.le_refl _) (setO_new R1)) I.bare (fun _ z => nomatch z)
  exact ⟨.ref _, _, J, rfl, q _ c hn hcn⟩
def rLenSet (w : World) : List V → Hp → VK → Prop := fun vs H Q => ∃ (p : Addr) (ns : List Int) (c : Nat), vs = [.ref p] ∧ H p = some (SetO w p (fun j => decide (j ∈ ns)) c) ∧ Q (.int (distN ns : Nat)) H
theorem cr_lenSet : CallR X (.builtin "len") (rLenSet X.w) := by
  intro pins s σ H xs us Q I r h
  obtain ⟨p, ns, c, rfl, hq, q⟩ := h
  rw [Vals.ref1 r]
  obtain ⟨o, es, ep, t, ho, hx, hd, g, nd, hm, hb, hf, hn, _⟩ := setO_get I hq
  have e : es.size = distN ns := by
    rw [← distN_nodup ns (es.toList.map keyOf) nd fun k => by rw [← hm k, decide_eq_true_eq]]
    simp
  refine call_len_set ho hx hd hf (by unfold scanBound at hb; omega) ⟨.int (distN ns : Nat), H, I.tok _, ⟨s.toks + 1, by rw [e]⟩, q⟩
theorem pd_lenset (hc : X.calm = true) (hg : Gl X "len") (hm : X.mg "len" = none) (hg2 : Gl X "set") (hm2 : X.mg "set" = none) (ha : PDe X W a A)
    (he : starEach [.Call (.Name "set" pos2) [a] [] p1] X.env = (false, eval (.Call (.Name "set" pos2) [a] [] p1) X.env) :: starEach [] X.env := by rfl) (he2 : starEach [a] X.env = (false, eval a X.env) :: starEach [] X.env := by rfl)
    (hpl : (backTo pos (starEach [] X.env)).any (·.1) = false := by rfl) (hpl2 : (backTo p1 (starEach [] X.env)).any (·.1) = false := by rfl) :
    PDe X W (.Call (.Name "len" pos') [.Call (.Name "set" pos2) [a] [] p1] [] pos) (dUn bLenSet A) := by
  obtain ⟨t, h1, h2⟩ := ha
  refine ⟨_, pe_callB cr_lenSet hg hm boot_len (pa_cons (pe_callTy (cr_setT hc) hg2 hm2 boot_setE (pa_cons h1 pa_nil he2) (by decide) (by decide) he2 hpl2) pa_nil he) (by decide) (by decide) he hpl, ?_⟩
  refine rd_1 (X := X) (W := W) (r := fun x H Q => rSetT X [x] H fun y H1 => rLenSet X.w [y] H1 Q) sh_rp (fun p sc Z σ H q x dx Q pl nz hx hp => ?_) h2
  unfold bLenSet at hp
  cases hx with
  | tup ha ra =>
    rename_i a xs ds
    dsimp only at hp
    cases e : ints? ds with
    | none => rw [e] at hp; exact hp.elim
    | some ns =>
      rw [e] at hp
      dsimp only at hp
      by_cases hl : ds.length < 64
      · rw [if_pos hl] at hp
        obtain ⟨rfl, rfl⟩ := ints_rp ra e
        rw [List.length_map] at hl
        refine ⟨a, ns, rfl, ha, by omega, fun b c hb _ => ⟨b, ns, c, rfl, upd_same, ?_⟩⟩
        exact hp _ _ (new_keep hb) (new_pool hb pl) (.int _)
      · rw [if_neg hl] at hp; exact hp.elim
  | _ => exact hp.elim
/-! ### sorted(set(t)), t a tuple of ints -/
def bSortedSetT (d : D) : M D := match d with
  | .tuple ds => match ints? ds with
    | some ns => if ds.length < 64 then M.ret (.list ((sortU ns).map PyData.int)) else M.stuck
    | none => M.stuck
  | _ => M.stuck
theorem pdf_sortedsetT (hc : X.calm = true) (hg : Gl X "sorted") (hm : X.mg "sorted" = none) (hg2 : Gl X "set") (hm2 : X.mg "set" = none) (ha : PDe X W a A)
    (he : starEach [.Call (.Name "set" pos2) [a] [] p1] X.env = (false, eval (.Call (.Name "set" pos2) [a] [] p1) X.env) :: starEach [] X.env := by rfl) (he2 : starEach [a] X.env = (false, eval a X.env) :: starEach [] X.env := by rfl)
    (hpl : (backTo pos (starEach [] X.env)).any (·.1) = false := by rfl) (hpl2 : (backTo p1 (starEach [] X.env)).any (·.1) = false := by rfl) :
    PDf X W (.Call (.Name "sorted" pos') [.Call (.Name "set" pos2) [a] [] p1] [] pos) (dUn bSortedSetT A) := by
  obtain ⟨t, h1, h2⟩ := ha
  refine ⟨_, pe_callB (cr_sortedSet hc) hg hm boot_sortedE (pa_cons (pe_callTy (cr_setT hc) hg2 hm2 boot_setE (pa_cons h1 pa_nil he2) (by decide) (by decide) he2 hpl2) pa_nil he) (by decide) (by decide) he hpl, ?_⟩
  refine rd_1 (X := X) (W := W) (r := fun x H Q => rSetT X [x] H fun y H1 => rSortedSet X.w [y] H1 Q) sh_new (fun p sc Z σ H q x dx Q pl nz hx hp => ?_) h2
  unfold bSortedSetT at hp
  cases hx with
  | tup ha ra =>
    rename_i a xs ds
    dsimp only at hp
    cases e : ints? ds with
    | none => rw [e] at hp; exact hp.elim
    | some ns =>
      rw [e] at hp
      dsimp only at hp
      by_cases hl : ds.length < 64
      · rw [if_pos hl] at hp
        obtain ⟨rfl, rfl⟩ := ints_rp ra e
        rw [List.length_map] at hl
        refine ⟨a, ns, rfl, ha, by omega, fun b c hb hcn => ⟨b, _, c, rfl, upd_same, by omega, fun ms p2 asc mem len hp2 => ?_⟩⟩
        have em : ms = sortU ns := asc_uniq _ _ asc (sortU_asc ns) fun k => by rw [mem k, sortU_mem, decide_eq_true_eq]
        subst em
        have hp2' : H p2 = none := by
          by_cases hpb : p2 = b
          · rw [hpb]; exact hb
          · rw [upd_ne hpb] at hp2; exact hp2
        have k1 : Keep p H (upd H b (SetO X.w b (fun j => decide (j ∈ ns)) c)) := new_keep hb
        have pl1 := new_pool (o := SetO X.w b (fun j => decide (j ∈ ns)) c) hb pl
        exact hp _ _ (k1.trans (new_keep hp2)) (new_pool hp2 pl1) ⟨p2, _, _, rfl, rfl, hp2', upd_same, rp_ints _⟩
      · rw [if_neg hl] at hp; exact hp.elim
  | _ => exact hp.elim
end
/-! ### i ** j -/
def oPow (x y : D) : M D := match x, y with
  | .int i, .int j => if 0 ≤ j ∧ j ≤ 64 ∧ i.natAbs < 2 ^ 64 then M.ret (.int (i ^ j.toNat)) else M.stuck
  | _, _ => M.stuck
section
variable {X : Cx} {W : WX}
theorem opd_pow : OpD X W (binaryOp .Pow) oPow := by
  refine ⟨_, op_pow, op2_ints (fun i j H Q => .inr fun q => ?_) fun dx dy q h => by cases dx <;> cases dy <;> first | rfl | exact absurd rfl (h _ _ rfl)⟩
  by_cases hb : 0 ≤ j ∧ j ≤ 64 ∧ i.natAbs < 2 ^ 64
  · refine .inr ⟨.int (i ^ j.toNat), .int (i ^ j.toNat), by unfold oPow; dsimp only; rw [if_pos hb]; rfl, fun _ _ => .int _, fun h => ⟨i, j, rfl, rfl, ⟨hb.1, by omega, hb.2.2⟩, h⟩⟩
  · exact .inl (by unfold oPow; dsimp only; rw [if_neg hb]; rfl)
end
theorem pow_9 : oPow (.int 10) (.int 9) = M.ret (.int 1000000000) := by unfold oPow; dsimp only; rw [if_pos (by decide)]; rfl
/-! ### sum(t), t a tuple of ints -/
def bSumT (x : D) : M D := match x with
  | .tuple xs => (match ints? xs with
    | some ns => M.ret (.int ns.sum)
    | _ => M.stuck)
  | _ => M.stuck
section
variable {X : Cx} {W : WX} {a : Expr} {A : DE} {pos pos' : Pos}
def rSumT (K : PySem.W.Frag) : List V → Hp → VK → Prop := fun vs H Q => ∃ (a : Addr) (ns : List Int), vs = [V.ref a] ∧ SqT K H a (ns.map V.int) ∧ Q (.int ns.sum) H
theorem cr_sumT (hc : X.calm = true) : CallR X (.builtin "sum") (rSumT X.K) := by
  intro pins s σ H vs us Q I r h
  obtain ⟨a, ns, rfl, hs, q⟩ := h
  obtain ⟨its, rv, hl, _⟩ := I.tuple hs
  rw [Vals.ref1 r]
  have hi : IntsAre its.toArray.toList ns := ints_of_vals rv
  have hl' : s.heap.IsTuple a its.toArray := hl
  obtain ⟨xs, hx⟩ := hi.allInts.items
  have hn : numsOf its.toArray.toList = ns := hi.numsOf
  rw [hx] at hl' hn
  rw [nums_intItems] at hn
  refine PySem.W.ktm_sumG (I.ok.hd hc) hl' fun h' tk t' hk => ?_
  rw [preSum_eq, List.take_of_length_le (by simp), hn]
  exact ⟨.int _, H, I.kept hk, ⟨_, rfl⟩, q⟩
theorem pd_sumT (hc : X.calm = true) (hg : Gl X "sum") (hm : X.mg "sum" = none) (ha : PDe X W a A) (he : starEach [a] X.env = (false, eval a X.env) :: starEach [] X.env := by rfl) (hpl : (backTo pos (starEach [] X.env)).any (·.1) = false := by rfl) : PDe X W (.Call (.Name "sum" pos') [a] [] pos) (dUn bSumT A) := by
  refine pd_b1 (cr_sumT hc) (fun p sc Z σ H q x dx Q pl nz hx hp => ?_) hg hm boot_sumE ha (by decide) (by decide) he hpl
  unfold bSumT at hp
  cases hx with
  | tup h1 rs =>
    rename_i a xs ds
    dsimp only at hp
    cases e : ints? ds with
    | none => rw [e] at hp; exact hp.elim
    | some ns =>
      rw [e] at hp
      obtain ⟨rfl, rfl⟩ := ints_rp rs e
      exact ⟨a, ns, rfl, h1, hp _ H (Keep.refl _ _) pl (.int _)⟩
  | _ => exact hp.elim
end
theorem sumT_ints (ns : List Int) : bSumT (.tuple (ns.map .int)) = M.ret (.int ns.sum) := by
  unfold bSumT
  dsimp only
  rw [ints?_map]
end Ew
namespace Ew
open PySem PySem.Spec PyProof.Rows L2 RT
/-! ## tuple(reversed(t)), t a tuple -/
theorem nolen_rt : typeLookup (.type "reversed") "__len__" = pure none := by rw [typeLookup_type, builtinLookup_eq_fast]; kernel_rfl
theorem hint_rt : typeLookup (.type "reversed") "__length_hint__" = pure (some (.builtin "reversed.__length_hint__")) := by rw [typeLookup_type, builtinLookup_eq_fast]; kernel_rfl
theorem slot_rt_hint : PySem.Slot "reversed" "__length_hint__" "reversed.__length_hint__" :=
  .of (owner := "reversed") (n := "__length_hint__") (by rw [typeLookup_type, builtinLookup_eq_fast]; kernel_rfl) (by decide +kernel) (by decide +kernel) (by decide +kernel)
    (by first | exact .inl (by decide +kernel) | exact .inr (by decide +kernel)) (by rw [isSubtype_type]; kernel_rfl)
theorem entry_rt_hint : entryFor table "reversed.__length_hint__" = some Builtin.«reversed.__length_hint__» := entryFor_of_tree (by kernel_rfl)
theorem args_rt_hint (a : Value) : argsOk "reversed.__length_hint__" ⟨[a], []⟩ := by
  unfold argsOk; rw [signature?_of (id := "reversed.__length_hint__") (n := ['_', '_', 't', 'n', 'i', 'h', '_', 'h', 't', 'g', 'n', 'e', 'l', '_', '_']) (o := ['d', 'e', 's', 'r', 'e', 'v', 'e', 'r']) (by kernel_rfl) owner_rt]; kernel_rfl
theorem type_rt_hint : typeOf (.builtin "reversed.__length_hint__") = pure (.type "method_descriptor") := by show builtinType _ = _; rw [builtinType_eq_fast]; kernel_rfl
theorem bind_rt_hint (self : Value) : bindSpecial (.builtin "reversed.__length_hint__") self = pure (.builtin "reversed.__length_hint__", [self]) := by
  unfold bindSpecial
  rw [type_rt_hint]
  rfl
theorem walks_rt {prog : Program} {w : World} {A : Around} (hh : A.handled = none) (I ax : Addr) (hne : ax ≠ I) (items : Array Value) (hsz : items.size ≤ sizeLine) :
    Walks prog w A I [I, ax] [I] items.size (fun i v => items[items.size - 1 - i]? = some v) (fun i h => IsRt h I ax ((items.size : Int) - 1 - (i : Nat)) ∧ IsTup h ax items) where
  sub := fun b hb => by simp at hb; simp [hb]
  frame := fun _ _ _ st hk => ⟨st.1.at fun o e => hk I (by simp) o e, by
    obtain ⟨o, ho, r⟩ := st.2
    exact ⟨o, hk ax (by simp) o ho, r⟩⟩
  item := fun i s Q E hi st hQ => by
    have e1 : (items.size : Int) - 1 - ((i : Nat) : Int) = ((items.size - 1 - i : Nat) : Int) := by omega
    have hit := st.1
    rw [e1] at hit
    have hx : items[items.size - 1 - i]? = some (items[items.size - 1 - i]'(by omega)) := Array.getElem?_eq_getElem (by omega)
    refine next_rt_item hit st.2 hx hsz fun h' hit' hs' => ?_
    have e2 : ((items.size - 1 - i : Nat) : Int) - 1 = (items.size : Int) - 1 - ((i + 1 : Nat) : Int) := by omega
    rw [e2] at hit'
    exact hQ _ h' _ hx ⟨hit', by
      obtain ⟨o, ho, r⟩ := st.2
      exact ⟨o, hs'.extBut ax o hne ho, r⟩⟩ fun b o hb e => hs'.extBut b o (fun h => hb (by simp [h])) e
  done := fun s Q E st hQ => by
    have e1 : (items.size : Int) - 1 - ((items.size : Nat) : Int) = -1 := by omega
    have hit := st.1
    rw [e1] at hit
    exact next_rt_end hh hit fun h' he' => hQ h' s.toks fun b o hb e => he' b o (fun h => hb (by simp [h])) e
  self := fun _ _ _ _ st hQ => iter_rt st.1 hQ
section
variable {prog : Program} {w : World} {A : Around} {E : Value → Shared → Prop} {s : Shared}
theorem call_hint {it l : Addr} {items : Array Value} {Q : Value → Shared → Prop} (hit : IsRt s.heap it l ((items.size : Int) - 1)) (hl : IsTup s.heap l items) (hn : items.size ≤ sizeLine)
    (hQ : ∀ tk t', Q (.int items.size t') { s with toks := tk }) : wpAny (model prog w) A (call (.builtin "reversed.__length_hint__") [.ref it]) Q E s := by
  obtain ⟨o, ho, hc, hd⟩ := id hit
  have h63 := line63
  refine wpAny_call_entry slot_rt_hint hit.typeIs entry_rt_hint ?_ (args_rt_hint _)
  unfold Builtin.«reversed.__length_hint__»
  refine wpAny_bind (wpAny_of_eq (a := Value.ref it) rfl ?_)
  refine wpAny_bind (wpAny_field ho hd (x := .ref l) rfl ?_)
  rw [if_neg (by rw [show (Value.ref l == Value.none) = false from rfl]; decide)]
  try dsimp only
  refine wpAny_bind (len_tuple hl (by omega) ?_)
  refine wpAny_bind (wpAny_of_eq (a := some ((items.size : Nat) : Int)) rfl ?_)
  try dsimp only
  refine wpAny_bind (wpAny_field (s := { s with toks := s.toks + 1 + 1 }) ho hd (x := rawInt ((items.size : Int) - 1)) rfl ?_)
  show wpAny _ _ (if ((items.size : Nat) : Int) < (items.size : Int) - 1 + 1 then _ else _) _ _ _
  rw [if_neg (by omega)]
  unfold retInt
  refine wpAny_bind (wpAny_mkInt ?_)
  refine wpAny_pure ⟨_, rfl, ?_⟩
  rw [show (items.size : Int) - 1 + 1 = items.size by omega]
  exact hQ _ _
theorem collect_rt {it l : Addr} {items : Array Value} {Q : List Value → Shared → Prop} (hh : A.handled = none) (hit : IsRt s.heap it l ((items.size : Int) - 1)) (hl : IsTup s.heap l items) (hne : l ≠ it) (hn : items.size ≤ sizeLine) (hpos : 0 < items.size)
    (hQ : ∀ (h' : Heap) (tk : Nat) (acc : Array Value), (∀ b o, b ≠ it → s.heap.get? b = some o → h'.get? b = some o) → ItemsOf (fun i v => items[items.size - 1 - i]? = some v) acc items.size → Q acc.toList { s with heap := h', toks := tk }) :
    wpAny (model prog w) A (collect (.ref it)) Q E s := by
  have W := (walks_rt (prog := prog) (w := w) (A := A.in1) hh it l hne items hn).toS
  obtain ⟨oi, hoi, _⟩ := id hit
  obtain ⟨ol, hol, _⟩ := id hl
  have hSi : s.heap.objs.size ≠ it := Nat.ne_of_gt (Heap.lt_size hoi)
  have hSl : s.heap.objs.size ≠ l := Nat.ne_of_gt (Heap.lt_size hol)
  have hSf : s.heap.objs.size ∉ [it, l] := by simp only [List.mem_cons, List.not_mem_nil, or_false, not_or]; exact ⟨hSi, hSl⟩
  unfold collect
  refine wpAny_bind (wpAny_runValue (codeAny_builtin F.entry_proto_collect ?_))
  rw [Around.under_plainId F.plain_proto_collect _]
  show wpAny _ A.in1 (newList [] >>= fun l' => again (.builtin "list.__iadd__" ⟨[l', .ref it], []⟩)) _ _ s
  refine wpAny_bind (wpAny_newObj_type ?_)
  refine wpAny_pure ⟨plainId_quiet F.plain_list_iadd _, codeAny_builtin F.entry_list_iadd ?_⟩
  rw [Around.under_plainId F.plain_list_iadd _]
  have hS₁ : (s.heap.push { cls := .type "list", data := .seq ([] : List Value).toArray }).get? s.heap.objs.size = some { cls := .type "list", data := .seq ([] : List Value).toArray } := Heap.get?_push_size _ rfl
  have hit1 : IsRt (s.heap.push { cls := .type "list", data := .seq ([] : List Value).toArray }) it l ((items.size : Int) - 1) := hit.at fun o e => Heap.get?_push_of_some _ e
  have hl1 : IsTup (s.heap.push { cls := .type "list", data := .seq ([] : List Value).toArray }) l items := by
    obtain ⟨o, ho, r⟩ := hl
    exact ⟨o, Heap.get?_push_of_some _ ho, r⟩
  have hT : ({ s with heap := s.heap.push { cls := .type "list", data := .seq ([] : List Value).toArray } } : Shared).TypeIs (.ref it) "reversed" := IsRt.typeIs (s := { s with heap := s.heap.push { cls := .type "list", data := .seq ([] : List Value).toArray } }) hit1
  have h1 : Builtin.List.listSameRef (.ref s.heap.objs.size) (.ref it) = false := by simp [Builtin.List.listSameRef, hSi]
  show wpAny _ A.in1 (Builtin.List.listExtendWith (.ref s.heap.objs.size) (.ref it) (.ref s.heap.objs.size)) _ _ _
  unfold Builtin.List.listExtendWith
  refine wpAny_bind (wpAny_typeOf hT ?_)
  rw [if_neg (by rw [h1]; decide)]
  refine wpAny_bind (iter_rt (s := { s with heap := s.heap.push { cls := .type "list", data := .seq ([] : List Value).toArray } }) hit1 ?_)
  refine wpAny_bind (wpAny_holding ?_)
  unfold Builtin.List.listLengthHint
  refine wpAny_bind (wpAny_specialOf hT nolen_rt ?_)
  show wpAny _ A.in1 (specialOf (Value.ref it) (Str.ofString "__length_hint__") >>= _) _ _ _
  refine wpAny_bind (wpAny_specialOf hT hint_rt ?_)
  generalize hid : ("reversed.__length_hint__" : String) = id0
  wp_delta
  rw [show splitId id0 = some ("reversed", "__length_hint__") from by subst hid; decide +kernel]
  subst hid
  refine wpAny_bind (wpAny_isInstance (b := true) hT (by rw [isSubtype_type]; kernel_rfl) ?_)
  rw [if_neg (by decide)]
  try dsimp only
  refine wpAny_ite_split (fun hab => absurd hab (by decide +kernel)) (fun _ => ?_)
  refine wpAny_bind (wpAny_rule ?_)
  refine wpAny_bind (wpAny_of_eq (bind_rt_hint _) ?_)
  try dsimp only
  refine wpAny_bind (wpAny_attempt (call_hint (s := { s with heap := s.heap.push { cls := .type "list", data := .seq ([] : List Value).toArray } }) hit1 hl1 hn fun tk t' => ?_))
  try dsimp only
  have ea : asInt? (Value.int ((items.size : Nat) : Int) t') = pure (some ((items.size : Nat) : Int)) := rfl
  rw [ea, pure_bind]
  try dsimp only
  have h63 := line63
  have hf : Builtin.List.listFitsIndex ((items.size : Nat) : Int) = true := by
    unfold Builtin.List.listFitsIndex
    rw [Bool.and_eq_true, decide_eq_true_eq, decide_eq_true_eq]
    omega
  have hlong : Builtin.List.listTooLong ((items.size : Nat) : Int).toNat = false := by
    unfold Builtin.List.listTooLong
    rw [decide_eq_false_iff_not]
    omega
  rw [if_neg (by rw [hf]; decide), if_neg (by omega), if_neg (by rw [hlong]; decide)]
  refine wpAny_pure ?_
  have hroom : (((items.size : Nat) : Int) != 0) = true := by
    rw [bne_iff_ne]
    omega
  try dsimp only
  rw [if_pos (by rw [hroom]; rfl)]
  show wpAny _ A.in1 (rule "list.extend.makes-room" >>= fun _ => Builtin.List.listTouch (.ref s.heap.objs.size) >>= fun _ =>
    again (.builtin "list.extend.loop" ⟨[.ref s.heap.objs.size, .ref it, .ref s.heap.objs.size], []⟩)) _ _ _
  refine wpAny_bind (wpAny_rule ?_)
  refine wpAny_bind ?_
  show wpAny _ A.in1 (updateSeq s.heap.objs.size (·.push .none) >>= fun _ => updateSeq s.heap.objs.size (·.pop)) _ _ _
  have one : 1 ≤ sizeLine := by rw [sizeLine_eq]; decide +kernel
  refine wpAny_bind (wpAny_updateSeq hS₁ rfl ?_ (Nat.zero_le _) (Nat.succ_le_succ (Nat.zero_le _)))
  have hS₂ := Heap.get?_update_self (Obj.mapSeq (·.push Value.none)) hS₁ rfl
  refine wpAny_updateSeq hS₂ rfl ?_ one (Nat.zero_le _)
  have hS₃ := Heap.get?_update_self (Obj.mapSeq (·.pop)) hS₂ rfl
  have oth : ∀ b o, b ≠ s.heap.objs.size → (s.heap.push { cls := .type "list", data := .seq ([] : List Value).toArray }).get? b = some o →
      (((s.heap.push { cls := .type "list", data := .seq ([] : List Value).toArray }).update s.heap.objs.size (Obj.mapSeq (·.push Value.none))).update s.heap.objs.size (Obj.mapSeq (·.pop))).get? b = some o :=
    fun b o hb e => (Heap.get?_update_other _ _ (Ne.symm hb)).trans ((Heap.get?_update_other _ _ (Ne.symm hb)).trans e)
  have e0 : ((items.size : Nat) : Int) - 1 - ((0 : Nat) : Int) = (items.size : Int) - 1 := by omega
  refine wpAny_pure ⟨plainId_quiet F.plain_extend_loop _, codeAny_extend_loopS W hn _ hSf _ items.size 0 _ _ _ rfl (Nat.zero_le _)
    (W.frame 0 ({ s with heap := s.heap.push { cls := .type "list", data := .seq ([] : List Value).toArray }, toks := tk } : Shared) _ tk ⟨by rw [e0]; exact hit1, hl1⟩ (Nat.le_refl _) fun b hb o e => oth b o (fun h => hSf (h ▸ hb)) e) hS₃ (ItemsOf.nil _) fun s' acc' c' hm hS' hacc => ?_⟩
  show wpAny _ A (load s.heap.objs.size >>= _) _ _ s'
  refine wpAny_bind (wpAny_load hS' ?_)
  refine wpAny_pure ?_
  rw [Moved.eq_with hm]
  refine hQ s'.heap s'.toks acc' (fun b o hb e => hm.heap b o (fun hmem => ?_) (oth b o (fun h => absurd (Heap.lt_size e) (by rw [h]; exact Nat.lt_irrefl _)) (Heap.get?_push_of_some _ e))) hacc
  rcases List.mem_cons.mp hmem with e' | hmem
  · exact absurd (Heap.lt_size e) (by rw [e']; exact Nat.lt_irrefl _)
  · exact hb (List.mem_singleton.mp hmem)
theorem code_tuple_new_rt {it l : Addr} {items : Array Value} {Q₁ : Value → Shared → Prop} (hh : A.handled = none) (hit : IsRt s.heap it l ((items.size : Int) - 1)) (hl : IsTup s.heap l items) (hne : l ≠ it) (hn : items.size ≤ sizeLine) (hpos : 0 < items.size)
    (h : ∀ (h' : Heap) (tk : Nat) (acc : Array Value), (∀ b o, b ≠ it → s.heap.get? b = some o → h'.get? b = some o) → ItemsOf (fun i v => items[items.size - 1 - i]? = some v) acc items.size →
      Q₁ (.ref h'.objs.size) { s with heap := h'.push { cls := .type "tuple", data := .seq acc }, toks := tk }) :
    codeAny (model prog w) A (.call (.builtin "tuple.__new__") ⟨[.type "tuple", .ref it], []⟩) (wants Q₁ E) s := by
  refine codeAny_of_tree ?_
  show wpAny _ A.in1 (do checkBuiltinCall "tuple.__new__" ⟨[.type "tuple", .ref it], []⟩; again (.builtin "tuple.__new__" ⟨[.type "tuple", .ref it], []⟩)) _ _ s
  refine wpAny_bind (wpAny_of_eq (F.newCall_tuple_1 _) (wpAny_pure ⟨plainId_quiet F.plain_tuple_new _, codeAny_builtin F.entry_tuple_new ?_⟩))
  rw [Around.under_plainId F.plain_tuple_new _]
  have hsub := sub_tuple_self
  have hinit := init_tuple_lookup
  have hmh := madeHere_tuple
  have hTI : s.TypeIs (.ref it) "reversed" := hit.typeIs
  have hh1 : A.in1.handled = none := hh
  wp_walk using wpAny_typeOf hTI, collect_rt (A := A.in1) hh1 hit hl hne hn hpos
  intro h' tk acc hk hacc
  show wpAny _ _ (Builtin.Tuple.tupleExact acc.toList.toArray >>= fun v => ret v) _ _ _
  unfold Builtin.Tuple.tupleExact
  refine wpAny_bind (wpAny_newObj_type ?_ (by show acc.toList.toArray.size ≤ sizeLine; simp only [Array.toArray_toList]; rw [hacc.1]; exact hn))
  refine wpAny_pure ?_
  have e : acc.toList.toArray = acc := by simp
  rw [e]
  exact h h' tk acc hk hacc
theorem call_tuple_rt {it l : Addr} {items : Array Value} {Q : Value → Shared → Prop} (hh : A.handled = none) (hit : IsRt s.heap it l ((items.size : Int) - 1)) (hl : IsTup s.heap l items) (hne : l ≠ it) (hn : items.size ≤ sizeLine) (hpos : 0 < items.size)
    (hQ : ∀ (h' : Heap) (tk : Nat) (acc : Array Value), (∀ b o, b ≠ it → s.heap.get? b = some o → h'.get? b = some o) → ItemsOf (fun i v => items[items.size - 1 - i]? = some v) acc items.size →
      Q (.ref h'.objs.size) { s with heap := h'.push { cls := .type "tuple", data := .seq acc }, toks := tk }) :
    wpAny (model prog w) A (call (.type "tuple") [.ref it]) Q E s := by
  refine callType_codes (Q₁ := fun obj s₁ => s₁.TypeIs obj "tuple" ∧ Q obj s₁) F.called_tuple (F.typeCall_tuple_1 _) F.entry_object_init
    (code_tuple_new_rt (A := A.in1) hh hit hl hne hn hpos fun h' tk acc hk hacc => ⟨⟨_, Heap.get?_push_size _ rfl, rfl⟩, hQ h' tk acc hk hacc⟩) fun obj s₁ h₁ => ?_
  exact ⟨h₁.1, F.args_object_init_2 obj _, object_init_meets F.called_tuple.init.lookup F.called_tuple.made (by decide) prog w A.in1 _ s₁ ⟨h₁.1, rfl, h₁.2⟩⟩
end
def tTupRevT (K : PySem.W.Frag) (te : TE) : TE := fun σ H Q => te σ H fun v H1 => ∃ (a : Addr) (xs : List V), v = .ref a ∧ SqT K H1 a xs ∧ 0 < xs.length ∧ ∀ q, H1 q = none → Q (.ref q) (upd H1 q (.tup xs.reverse))
section
variable {X : Cx} {W : WX} {a : Expr} {A : DE}
theorem pe_tupRevT {e : Expr} {te : TE} {p p2 pos pos2 : Pos} (hc : X.calm = true) (hg : Gl X "tuple") (hm : X.mg "tuple" = none) (hg2 : Gl X "reversed") (hm2 : X.mg "reversed" = none) (he : PE X e te)
    (hs : starEach [e] X.env = (false, eval e X.env) :: starEach [] X.env := by rfl)
    (hs2 : starEach [.Call (.Name "reversed" p2) [e] [] pos2] X.env = (false, eval (.Call (.Name "reversed" p2) [e] [] pos2) X.env) :: starEach [] X.env := by rfl) :
    PE X (.Call (.Name "tuple" p) [.Call (.Name "reversed" p2) [e] [] pos2] [] pos) (tTupRevT X.K te) := by
  refine ⟨fun pins s σ H Q I h => ?_⟩
  refine Call_ (ld_blt I hg hm boot_tuple (PyProof.Rows.callWith_type1 (args_cons (Call_ (ld_blt I hg2 hm2 PyProof.Rows.boot_reversed (PyProof.Rows.callWith_type1 (args_cons (thn (he.run pins s σ H _ I h) fun u s1 ⟨v, H1, I1, r1, q1⟩ => args_nil ?_) hs) hs rfl))) hs2) hs2 rfl))
  obtain ⟨a, xs, ev, hq, hpos, q⟩ := q1
  subst ev
  obtain rfl : u = Value.ref a := r1
  obtain ⟨its, rv, p', hz⟩ := I1.tuple hq
  have hn63 := line63
  have hl := rv.length
  refine call_reversed_tup p' (fun A E Q k => len_tuple p' (by simp only [List.size_toArray] <;> omega) k) (args_nil ?_)
  have k0 : ∀ b o, s1.heap.get? b = some o → (s1.heap.push (rtObj a ((its.toArray.size : Int) - 1))).get? b = some o := fun b o e => Heap.get?_push_of_some _ e
  have I2 : Inv X pins σ H1 { s1 with heap := s1.heap.push (rtObj a ((its.toArray.size : Int) - 1)), toks := s1.toks + 1 + 1 } := I1.kept (t' := s1.toks + 1 + 1) k0
  obtain ⟨f0, f1, f2, f3, f4, f5⟩ := I1.fpOk (H' := H1) (b := s1.heap.objs.size) (Nat.le_refl _) (I1.hok.fresh (Nat.le_refl _))
  obtain ⟨ol, hol, _⟩ := id p'
  have hne : a ≠ s1.heap.objs.size := Nat.ne_of_lt (Heap.lt_size hol)
  have hn : its.toArray.size ≤ sizeLine := by rw [List.size_toArray, ← rv.length]; exact hz
  have p2' : IsTup (s1.heap.push (rtObj a ((its.toArray.size : Int) - 1))) a its.toArray := by
    obtain ⟨o, ho, r⟩ := p'
    exact ⟨o, Heap.get?_push_of_some _ ho, r⟩
  refine call_tuple_rt (s := { s1 with heap := s1.heap.push (rtObj a ((its.toArray.size : Int) - 1)), toks := s1.toks + 1 + 1 }) (I1.ok.hd hc) ⟨_, Heap.get?_push_size _ rfl, rfl, rfl⟩ p2' hne hn (by rw [List.size_toArray]; omega) fun h' tk acc hk hi => ?_
  have I3 : Inv X pins σ H1 { s1 with heap := h', toks := tk } := I2.turned (t' := tk) (fun b o hb e => hk b o hb e) f0 f1 f3 f4 f5
  refine ⟨.ref h'.objs.size, upd H1 h'.objs.size (.tup xs.reverse), I3.laid (t' := tk) (fun c o e => Heap.get?_push_of_some _ e) (Nat.le_refl _) (show ObjOk X.prog X.w _ _ _ (.tup xs.reverse) from ⟨by rw [List.length_reverse]; exact hz, acc.toList, vals_rev rv hi, ?_⟩), rfl, q _ (I3.hok.fresh (Nat.le_refl _))⟩
  rw [Array.toArray_toList]
  exact IsTup.new _ _
def oRevT (x : D) : M D := match x with
  | .tuple (x :: xs) => M.ret (.tuple (x :: xs).reverse)
  | _ => M.stuck
theorem pd_tupRev {p p2 pos pos2 : Pos} (hc : X.calm = true) (hg : Gl X "tuple") (hm : X.mg "tuple" = none) (hg2 : Gl X "reversed") (hm2 : X.mg "reversed" = none) (ha : PDe X W a A)
    (hs : starEach [a] X.env = (false, eval a X.env) :: starEach [] X.env := by rfl)
    (hs2 : starEach [.Call (.Name "reversed" p2) [a] [] pos2] X.env = (false, eval (.Call (.Name "reversed" p2) [a] [] pos2) X.env) :: starEach [] X.env := by rfl) :
    PDe X W (.Call (.Name "tuple" p) [.Call (.Name "reversed" p2) [a] [] pos2] [] pos) (dUn oRevT A) := by
  obtain ⟨t, h1, h2⟩ := ha
  refine ⟨_, pe_tupRevT hc hg hm hg2 hm2 h1 hs hs2, ?_⟩
  refine rd_1 (X := X) (W := W) (r := fun x H Q => ∃ (a : Addr) (xs : List V), x = .ref a ∧ SqT X.K H a xs ∧ 0 < xs.length ∧ ∀ q, H q = none → Q (.ref q) (upd H q (.tup xs.reverse))) sh_rp (fun p sc Z σ H q x dx Q pl nz hx hp => ?_) h2
  unfold oRevT at hp
  cases hx with
  | tup ha ra =>
    rename_i a xs ds
    cases ds with
    | nil => exact hp.elim
    | cons d ds => exact ⟨a, xs, rfl, ha, (by rw [ra.length]; exact Nat.succ_pos _), fun b hb => hp _ _ (new_keep hb) (new_pool hb pl) (.tup (.inl (.inl upd_same)) ((ra.reverse.stand (new_stand hb)).grow Zn.base))⟩
  | _ => exact hp.elim
end
end Ew
namespace Ew
open PySem PySem.Spec PyProof.Rows L2
/-! ## dicts: any key put, {k: v for ..}, x[k] += e -/
def isK (k : Key) (d : D) : Bool := match k, d with
  | .inl i, .int j => decide (j = i)
  | .inr x, .str s => decide (s = x)
  | _, _ => false
theorem isK_keyD (k m : Key) : isK k (keyD m) = decide (m = k) := by
  cases k with
  | inl i =>
    cases m with
    | inl j => show decide (j = i) = _; exact decide_eq_decide.mpr ⟨fun h => by rw [h], fun h => Sum.inl.inj h⟩
    | inr j => exact (decide_eq_false (by intro z; cases z)).symm
  | inr x =>
    cases m with
    | inl j => exact (decide_eq_false (by intro z; cases z)).symm
    | inr j => show decide (j = x) = _; exact decide_eq_decide.mpr ⟨fun h => by rw [h], fun h => Sum.inr.inj h⟩
def putD (ds : List (D × D)) (k : Key) (v : D) : List (D × D) := if (ds.any fun q => isK k q.1) = true then ds.map (fun q => if isK k q.1 = true then (q.1, v) else q) else ds ++ [(keyD k, v)]
def keyOf (d : D) : Option Key := match d with
  | .int i => some (.inl i)
  | .str s => some (.inr s)
  | _ => none
theorem key_rp {K : PySem.W.Frag} {Z : Rg} {H : Hp} {y : V} {d : D} {k : Key} (r : Rp K Z H y d) (h : keyOf d = some k) : y = kV k := by
  cases r with
  | int i => cases h; rfl
  | str s => cases h; rfl
  | _ => cases h
theorem any_rel {k : Key} : ∀ {ds : List (D × D)} {ks : List (Key × V)}, ds.map (fun q => q.1) = ks.map (fun q => keyD q.1) → (ds.any fun q => isK k q.1) = ks.any fun kv => decide (kv.1 = k)
  | [], [], _ => rfl
  | [], _ :: _, h => nomatch h
  | _ :: _, [], h => nomatch h
  | d :: ds, m :: ks, h => by
    rw [List.map_cons, List.map_cons, List.cons.injEq] at h
    rw [List.any_cons, List.any_cons, any_rel h.2, h.1, isK_keyD]
theorem put_rel {K : PySem.W.Frag} {Z : Rg} {H : Hp} {k : Key} {w : V} {v : D} (rv : Rp K Z H w v) {ds : List (D × D)} {ks : List (Key × V)} (hk : ds.map (fun q => q.1) = ks.map (fun q => keyD q.1)) (rs : RpL K Z H (ks.map fun q => q.2) (ds.map fun q => q.2)) :
    (putD ds k v).map (fun q => q.1) = (putK ks k w).map (fun q => keyD q.1) ∧ RpL K Z H ((putK ks k w).map fun q => q.2) ((putD ds k v).map fun q => q.2) := by
  unfold putD putK
  rw [any_rel hk]
  by_cases ha : (ks.any fun kv => decide (kv.1 = k)) = true
  · rw [if_pos ha, if_pos ha]
    clear ha
    induction ds generalizing ks with
    | nil =>
      cases ks with
      | nil => exact ⟨rfl, .nil⟩
      | cons m ks => cases hk
    | cons d ds ih =>
      cases ks with
      | nil => cases hk
      | cons m ks =>
        rw [List.map_cons, List.map_cons, List.cons.injEq] at hk
        rw [List.map_cons, List.map_cons] at rs
        cases rs with
        | cons r1 r2 =>
          obtain ⟨i1, i2⟩ := ih hk.2 r2
          have e : isK k d.1 = decide (m.1 = k) := by rw [hk.1, isK_keyD]
          rw [List.map_cons, List.map_cons, List.map_cons, List.map_cons, List.map_cons, List.map_cons, i1, e]
          by_cases hm : m.1 = k
          · rw [if_pos (decide_eq_true hm), if_pos hm]
            exact ⟨by rw [hk.1], .cons rv i2⟩
          · rw [if_neg (by rw [decide_eq_false hm]; decide), if_neg hm]
            exact ⟨by rw [hk.1], .cons r1 i2⟩
  · rw [if_neg ha, if_neg ha]
    refine ⟨by rw [List.map_append, List.map_append, hk]; rfl, ?_⟩
    rw [List.map_append, List.map_append]
    exact rs.append (.cons rv .nil)
theorem put_len (ds : List (D × D)) (k : Key) (v : D) : (putD ds k v).length ≤ ds.length + 1 := by
  unfold putD
  split
  · rw [List.length_map]; omega
  · rw [List.length_append, List.length_singleton]; exact Nat.le_refl _
/-- x[k] = e, whatever the key -/
def sDPutD (i : Nat) (k e : DE) : DS := fun ρ => match ρ[i]? with
  | some (some (.odic ds)) => M.bnd (e (hideR ρ)) fun d => M.bnd (k ρ) fun y => (match keyOf y with
    | some kk => if ds.length < lineMax then M.ret (.next (ρ.set i (some (.odic (putD ds kk d))))) else M.stuck
    | none => M.stuck)
  | _ => M.stuck
section
variable {X : Cx} {W : WX} {s : Stmt} {e k : Expr} {F E : DE} {pos p1 p2 : Pos}
theorem sd_dputD {i : Nat} {x : Str} (hu : X.A.units + deep < cLine) (he : PDe X W e F) (hk : PDe X W k E) (hN : X.N[i]? = some x := by rfl) (hv : Vis X.env.scope x := by first | exact Or.inl rfl | exact Or.inr (Or.inl rfl) | exact Or.inr (Or.inr rfl))
    (hd : (x == ("__debug__" : Str)) = false := by decide) (hcd : (x == ("__classdict__" : Str)) = false := by decide)
    (hs : swapsWith e (some (.Subscript (.Name x p1) k p2)) pos.line X.env = pure false := by rfl) : PSd X W (.Assign [.Subscript (.Name x p1) k p2] e pos) (sDPutD i E F) := by
  obtain ⟨t, h1, h2⟩ := he
  obtain ⟨u, g1, g2⟩ := hk
  refine ⟨_, ps_dput (by unfold deep at hu; omega) (pe_var (pos := p1) hN hv hd hcd) g1 h1 hs, fun p sc Z0 H0 Z σ H ρ q Ed b h => ?_⟩
  unfold sDPutD at h
  cases e : ρ[i]? with
  | none => rw [e] at h; exact h.elim
  | some o =>
    cases o with
    | none => rw [e] at h; exact h.elim
    | some sl =>
      cases sl with
      | odic ds =>
        rw [e] at h
        dsimp only at h
        obtain ⟨a', ks', h1', h2', h3', h4', h5', h6'⟩ := b.slot i _ e
        refine h2 p sc _ σ H (hideR ρ) q _ b.sitH (PostS.ex (Rel := fun H' v d => Rp X.K (Zn Z H) H' v d) b h fun d q1 v H1 e1 k1 pl r hp => ?_)
        have b1 := b.after k1 pl
        have zz : ∀ c, Z c → Zh Z H H1 c := fun c z => ⟨.inl z, (b.next k1 pl).zs c z⟩
        refine ⟨.ref a', h1', ?_⟩
        refine g2 p sc _ σ H1 ρ q1 _ b1.sit (PostS.ex (Rel := fun H' v d => Rp X.K (Zn (Zo (Zh Z H H1) σ ρ) H1) H' v d) b1 (PostS.later hp zz (Stand.refl _ _)) fun dj q2 o H2 e2 k2 pl2 rj hp2 => ?_)
        have b2 := b1.next k2 pl2
        obtain ⟨a2, ks, s1, s2, s3, s4, s5, s6⟩ := b2.slot i _ e
        rw [h1'] at s1
        cases s1
        cases ek : keyOf dj with
        | none => rw [ek] at hp2; exact hp2.elim
        | some kk =>
          rw [ek] at hp2
          dsimp only at hp2
          by_cases hc : ds.length < lineMax
          · rw [if_pos hc] at hp2
            have hlen : ks.length = ds.length := by
              have := congrArg List.length s5
              rw [List.length_map, List.length_map] at this
              exact this.symm
            have rv : Rp X.K (Zh Z H H1) H2 v d := (r.sub fun c z n => ⟨z, n⟩).stand (k2.stand pl b1.nz)
            obtain ⟨z1, z2⟩ := put_rel (k := kk) rv s5 s6
            have z := b2.chDic (es := putD ds kk d) (ls := putK ks kk v) e h1' s2 z1 z2
            exact ⟨a', _, rfl, .inl ⟨ks, kk, s2, key_rp rj ek, by rw [hlen]; exact hc, rfl⟩, hp2 _ σ _ z.1 (fun c z => z) z.2⟩
          · rw [if_neg hc] at hp2; exact hp2.elim
      | dat d => rw [e] at h; exact h.elim
      | pool => rw [e] at h; exact h.elim
      | own d => rw [e] at h; exact h.elim
end
/-! ### {k: v for x in xs if t} -/
def dcGo (g : Tgt) (T : DT) (Fk Fv : DE) (r : Rho) : List (D × D) → List D → M (List (D × D))
  | ac, [] => M.ret ac
  | ac, x :: xs => M.bnd (g x r) fun ρ => M.bnd (T ρ) fun c => if c = true then M.bnd (Fk ρ) fun y => M.bnd (Fv ρ) fun z => (match keyOf y with
      | some k => if ac.length < PySem.sizeLine then dcGo g T Fk Fv r (putD ac k z) xs else M.stuck
      | none => M.stuck) else dcGo g T Fk Fv r ac xs
def dDcomp (own : List Nat) (it : DI) (g : Tgt) (T : DT) (Fk Fv : DE) : DE := fun ρ => M.bnd (it ρ) fun xs => M.bnd (M.noerr (dcGo g T Fk Fv (wipeR ρ own) [] xs)) fun ds => M.ret (.dict ds)
/-- the dict in the making -/
structure LdK (K : PySem.W.Frag) (p sc L : Addr) (Zd : Rg) (H1 Hc : Hp) (q : Pool) (ac : List (D × D)) : Prop where
  keep : Keep p H1 Hc
  pool : PoolAt p sc Hc q
  dic : ∃ ks, Hc L = some (.dK ks) ∧ ac.map (fun q => q.1) = ks.map (fun q => keyD q.1) ∧ RpL K Zd Hc (ks.map fun q => q.2) (ac.map fun q => q.2)
theorem LdK.same {K : PySem.W.Frag} {p sc L : Addr} {Zd : Rg} {H1 Hc Hd : Hp} {q : Pool} {ac : List (D × D)} (a : LdK K p sc L Zd H1 Hc q ac) (nz : ¬ Zd p) (sm : Same Hc Hd) : LdK K p sc L Zd H1 Hd q ac := by
  have k : Keep p Hc Hd := fun b o _ h => sm b o h
  obtain ⟨vs, e, e2, r⟩ := a.dic
  exact ⟨a.keep.trans k, ⟨sm _ _ a.pool.1, sm _ _ a.pool.2.1, a.pool.2.2⟩, vs, sm _ _ e, e2, r.stand (k.stand a.pool nz)⟩
theorem LdK.next {K : PySem.W.Frag} {p sc L : Addr} {Zd : Rg} {H1 Hc Hd : Hp} {q q' : Pool} {ac : List (D × D)} (a : LdK K p sc L Zd H1 Hc q ac) (nz : ¬ Zd p) (hp : L ≠ p) (k : Keep p Hc Hd) (pl : PoolAt p sc Hd q') : LdK K p sc L Zd H1 Hd q' ac := by
  obtain ⟨vs, e, e2, r⟩ := a.dic
  exact ⟨a.keep.trans k, pl, vs, k _ _ hp e, e2, r.stand (k.stand a.pool nz)⟩
section
variable {X : Cx} {e kx vx tg iter : Expr} {pos : Pos}
theorem rd_dc {W : WX} {wi : TI} {it : DI} {own is : List Nat} {g : Tgt} {T : DT} {Fk Fv : DE} (hi : Rd1 X W (WaF X.K) wi it) (his : ∀ i ∈ is, i ∈ own) (hg : TgOk g) :
    Rd1 X W (NewG X.K) (tDc wi (gF X.K is g) (tF X.K X.mg W0 BoF T) (tF X.K X.mg W0 (RpF X.K) Fk) (tF X.K X.mg W0 (RpF X.K) Fv) own) (dDcomp own it g T Fk Fv) := by
  intro p sc Z σ H ρ q Q s hp
  refine hi p sc Z σ H ρ q _ s ((Post.bnd (Rel := WaF X.K p Z H) (Rel' := NewG X.K p Z H) hp).to fun J H1 ⟨ds, q1, e1, k1, pl1, wk, hp1⟩ => ?_)
  intro L hL
  have hHL : H L = none := by
    cases e : H L with
    | none => rfl
    | some o =>
      by_cases hc : L = p
      · subst hc; rw [pl1.1] at hL; cases hL
      · rw [k1 L o hc e] at hL; cases hL
  have hpL : L ≠ p := fun e => by subst e; rw [pl1.1] at hL; cases hL
  have s1 := s.next k1 pl1
  let Zd : Rg := fun b => Zn Z H b ∧ b ≠ L
  have nzd : ¬ Zd p := fun z => Zn.nop s.pool s.nz z.1
  have nLd : ¬ Zd L := fun z => z.2 rfl
  have envD : EnvR X.K p Zd σ H1 ρ := fun i sl h => by
    have z := s1.env i sl h
    cases ev : sl.val? with
    | none => rw [ev] at z; exact z
    | some d =>
      rw [ev] at z
      obtain ⟨v, h1, h2⟩ := z
      exact ⟨v, h1, h2.sub fun b zb nb => ⟨.inl zb, fun e => nb (e ▸ hL)⟩⟩
  let Qf : List (D × D) → Pool → Prop := fun ys q'' => Post X.mg p sc H (NewG X.K p Z H) (fun c od H' => W c od σ H') Q (R.ok (.dict ys) q'')
  have hp2 : Okk Qf (dcGo g T Fk Fv (wipeR ρ own) [] ds) q1 := by
    unfold M.bnd M.noerr at hp1
    cases ec : dcGo g T Fk Fv (wipeR ρ own) [] ds q1 with
    | ok ys q2 => rw [ec] at hp1; exact ⟨ys, q2, ec, hp1⟩
    | err x q2 => rw [ec] at hp1; exact hp1.elim
    | stuck => rw [ec] at hp1; exact hp1.elim
  clear hp1
  have frz : ∀ {Hx : Hp} {qx : Pool} {ac : List (D × D)}, LdK X.K p sc L Zd H1 Hx qx ac → ∀ b, Hx b = none → Zd b := fun ld b n => by
    obtain ⟨vs, e, _⟩ := ld.dic
    exact ⟨.inr (none_back (k1.trans ld.keep) ld.pool n), fun e2 => by rw [e2, e] at n; cases n⟩
  refine ⟨fun i m Hc => m = ds.length - i ∧ i ≤ ds.length ∧ ∃ q' ac, LdK X.K p sc L Zd H1 Hc q' ac ∧ Okk Qf (dcGo g T Fk Fv (wipeR ρ own) ac (ds.drop i)) q', ⟨ds.length, by simp, Nat.zero_le _, q1, [], ⟨new_keep hL, new_pool hL pl1, [], upd_same, rfl, .nil⟩, by rw [List.drop_zero]; exact hp2⟩, ?_⟩
  rintro i m Hc ⟨rfl, hi, q', ac, ld, hq⟩
  have std : Stand (Zn Z H) H1 Hc := ld.keep.stand pl1 (Zn.nop s.pool s.nz)
  by_cases hlt : i < ds.length
  case neg =>
    have ei : i = ds.length := by omega
    subst ei
    refine .inl ⟨(wk Hc std).2 _ (Nat.le_refl _), ?_⟩
    rw [List.drop_length] at hq
    obtain ⟨ys, q2, e, hq⟩ := hq
    cases e
    obtain ⟨vs, hv, hk, rs⟩ := ld.dic
    exact hq (.ref L) Hc (k1.trans ld.keep) ld.pool ⟨L, vs, _, rfl, rfl, hHL, hv, hk, rs⟩
  case pos =>
  refine .inr ?_
  obtain ⟨w1, _⟩ := wk Hc std
  have ed : ds[i]? = some ds[i] := List.getElem?_eq_getElem hlt
  obtain ⟨go, yl⟩ := w1 i _ ed
  refine ⟨go, fun Hn => ∃ q' ac, LdK X.K p sc L Zd H1 Hn q' ac ∧ Okk Qf (dcGo g T Fk Fv (wipeR ρ own) ac (ds.drop (i + 1))) q', fun H' nx => ⟨ds.length - (i + 1), by omega, rfl, hlt, nx⟩, fun x H' yy => ?_⟩
  obtain ⟨sm, rx⟩ := yl x H' yy
  have ldS := ld.same nzd sm
  have rx' : Rp X.K Zd H' x ds[i] := rx.grow fun b zb => ⟨zb.1, fun e => zb.2 (e ▸ hL)⟩
  rw [List.drop_eq_getElem_cons hlt] at hq
  obtain ⟨ρ1, q3, eg, hq⟩ := okk_bnd hq
  obtain ⟨c, q4, eT, hq⟩ := okk_bnd hq
  have e3 : q3 = q' := by
    rcases hg ds[i] (wipeR ρ own) q' with ⟨_, z⟩ | z
    · rw [z] at eg; cases eg; rfl
    · rw [z] at eg; cases eg
  subst e3
  refine ⟨Zd, wipeR ρ own, ρ1, q3, q3, ds[i], rx', eg, fun l hl e2 _ => ?_⟩
  subst e2
  refine ⟨wipe_sets l fun x hx => his _ (hl x hx).1, ?_⟩
  have sit1 : Sit X.K p sc Zd (setsV l (wipe σ own)) H' (setsR l (wipeR ρ own)) q3 := by
    refine ⟨EnvR.sets l (((envD.stand (ldS.keep.stand pl1 nzd)).wipe own)) (by rw [wipeR_len, wipe_length]; exact s.len) fun x hx => (hl x hx).2, ldS.pool, nzd, ?_⟩
    rw [setsR_len, setsV_len, wipeR_len, wipe_length]
    exact s.len
  refine ⟨p, sc, Zd, _, q3, sit1, ?_⟩
  rw [eT]
  intro b H3 k3 pl3 hb
  have hb' : b = c := hb
  subst hb'
  have ld3 := ldS.next nzd hpL k3 pl3
  have sit3 := sit1.next k3 pl3
  cases b with
  | false =>
    simp only [Bool.false_eq_true, if_false] at hq ⊢
    exact ⟨_, _, ld3, hq⟩
  | true =>
    simp only [if_true] at hq ⊢
    obtain ⟨y1, q5, eK, hq⟩ := okk_bnd hq
    obtain ⟨z1, q6, eV, hq⟩ := okk_bnd hq
    refine ⟨p, sc, Zd, _, q4, sit3, ?_⟩
    rw [eK]
    intro vk H4 k4 pl4 rk
    have ld4 := ld3.next nzd hpL k4 pl4
    refine ⟨p, sc, Zd, _, q5, sit3.next k4 pl4, ?_⟩
    rw [eV]
    intro vv H5 k5 pl5 rv
    have ld5 := ld4.next nzd hpL k5 pl5
    cases ek : keyOf y1 with
    | none =>
      rw [ek] at hq
      obtain ⟨_, _, e, _⟩ := hq
      cases e
    | some kk =>
      rw [ek] at hq
      dsimp only at hq
      by_cases hlen : ac.length < sizeLine
      case neg =>
        rw [if_neg hlen] at hq
        obtain ⟨_, _, e, _⟩ := hq
        cases e
      rw [if_pos hlen] at hq
      obtain ⟨ks, hk, hkk, rs⟩ := ld5.dic
      have rv' : Rp X.K Zd H5 vv z1 := rv.grow fun b z => by
        rcases z with z | n
        · exact z
        · exact frz ld4 b n
      obtain ⟨p1, p2⟩ := put_rel (k := kk) rv' hkk rs
      have hlk : ks.length = ac.length := by
        have := congrArg List.length hkk
        rw [List.length_map, List.length_map] at this
        exact this.symm
      have st8 : Stand Zd H5 (upd H5 L (.dK (putK ks kk vv))) := dic_stand hk nLd
      refine ⟨ks, kk, key_rp rk ek, hk, by omega, q6, putD ac kk z1, ⟨fun b o hb e => ?_, ⟨?_, ?_, pl5.2.2⟩, putK ks kk vv, upd_same, p1, p2.stand st8⟩, hq⟩
      · rw [upd_ne (ne_of_none e hL)]
        exact ld5.keep b o hb e
      · rw [upd_ne (Ne.symm hpL)]
        exact pl5.1
      · rw [upd_ne (fun e => by have z := pl1.2.1; rw [e, hL] at z; cases z)]
        exact pl5.2.1
theorem pdg_dc {W : WX} {own : List (Str × Nat)} {vs is : List Nat} {ifs : List Expr} {scope : Scope} {it : DI} {g : Tgt} {T : DT} {Fk Fv : DE} (hc : X.calm = true) (hN : X.N.Nodup) (hi : PId X W tg iter it) (ok : BlkOk X.N X.env.scope scope own) (his : ∀ i ∈ is, i ∈ vs)
    (hg : ∀ (s : Shared) (H : Hp) (C : Addr) (cl : List (Str × Addr)) (fp : List Addr), PGd (X.blk s H scope (compEnvC scope cl C X.env) fp) is tg g) (ht : ∀ (s : Shared) (H : Hp) (C : Addr) (cl : List (Str × Addr)) (fp : List Addr), PTsd (X.blk s H scope (compEnvC scope cl C X.env) fp) W0 ifs T)
    (hk : ∀ (s : Shared) (H : Hp) (C : Addr) (cl : List (Str × Addr)) (fp : List Addr), PDe (X.blk s H scope (compEnvC scope cl C X.env) fp) W0 kx Fk)
    (he : ∀ (s : Shared) (H : Hp) (C : Addr) (cl : List (Str × Addr)) (fp : List Addr), PDe (X.blk s H scope (compEnvC scope cl C X.env) fp) W0 vx Fv) (hgo : TgOk g) (hm : own.map (·.2) = vs := by rfl) (hs : ∀ x, foldedSetIterable iter X.env x = pure x := by intro _; rfl) :
    PDg X W (.DictComp kx vx [⟨tg, iter, ifs, 0⟩] scope pos) (dDcomp vs it g T Fk Fv) := by
  subst hm
  obtain ⟨wi, h1, h2⟩ := hi
  exact ⟨_, pe_dc hc hN h1 ok (fun s H C cl fp => (hg s H C cl fp).run) (fun s H C cl fp => (ht s H C cl fp).run) (fun s H C cl fp => (hk s H C cl fp).run) (fun s H C cl fp => (he s H C cl fp).run) hs, rd_dc h2 his hgo⟩
end
/-! ### x[k] += e -/
def getD (ds : List (D × D)) (k : Key) : Option D := (ds.find? fun q => isK k q.1).map (·.2)
theorem get_rel {K : PySem.W.Frag} {Z : Rg} {H : Hp} {k : Key} {d : D} : ∀ {ds : List (D × D)} {ks : List (Key × V)}, ds.map (fun q => q.1) = ks.map (fun q => keyD q.1) → RpL K Z H (ks.map fun q => q.2) (ds.map fun q => q.2) → getD ds k = some d → ∃ v, valV ks k = some v ∧ Rp K Z H v d
  | [], [], _, _, h => nomatch h
  | [], _ :: _, h, _, _ => nomatch h
  | _ :: _, [], h, _, _ => nomatch h
  | e :: ds, m :: ks, hk, rs, h => by
    rw [List.map_cons, List.map_cons, List.cons.injEq] at hk
    rw [List.map_cons, List.map_cons] at rs
    cases rs with
    | cons r1 r2 =>
      have ee : isK k e.1 = decide (m.1 = k) := by rw [hk.1, isK_keyD]
      unfold getD at h
      rw [List.find?_cons, ee] at h
      by_cases hm : m.1 = k
      · rw [decide_eq_true hm] at h
        cases h
        exact ⟨m.2, valV_pos hm, r1⟩
      · rw [decide_eq_false hm] at h
        obtain ⟨v, h1, h2⟩ := get_rel hk.2 r2 h
        exact ⟨v, by rw [valV_neg hm]; exact h1, h2⟩
def sDAugD (i : Nat) (k e : DE) : DS := fun ρ => match ρ[i]? with
  | some (some (.odic ds)) => M.bnd (k ρ) fun y => (match keyOf y with
    | some kk => (match getD ds kk with
      | some (.int n) => M.bnd (e ρ) fun d => (match d with
        | .int m => if ds.length < lineMax then M.ret (.next (ρ.set i (some (.odic (putD ds kk (.int (n + m))))))) else M.stuck
        | _ => M.stuck)
      | _ => M.stuck)
    | none => M.stuck)
  | _ => M.stuck
section
variable {X : Cx} {W : WX} {s : Stmt} {e k : Expr} {F E : DE} {pos p1 p2 : Pos}
theorem sd_augD {i : Nat} {x : Str} (hu : X.A.units + deep < cLine) (he : PDe X W e F) (hk : PDe X W k E) (hN : X.N[i]? = some x := by rfl) (hv : Vis X.env.scope x := by first | exact Or.inl rfl | exact Or.inr (Or.inl rfl) | exact Or.inr (Or.inr rfl))
    (hd : (x == ("__debug__" : Str)) = false := by decide) (hcd : (x == ("__classdict__" : Str)) = false := by decide)
    (ha : ∀ ov iv new, augStore k ov iv new = (do holding [new, ov, iv] (setItem ov iv new); release [new, ov, iv] []; pure .next) := by intro _ _ _; rfl) : PSd X W (.AugAssign (.Subscript (.Name x p1) k p2) .Add e pos) (sDAugD i E F) := by
  obtain ⟨t, h1, h2⟩ := he
  obtain ⟨u, g1, g2⟩ := hk
  refine ⟨_, ps_daug (by unfold deep at hu; omega) (pe_var (pos := p1) hN hv hd hcd) g1 h1 ip_add ha, fun p sc Z0 H0 Z σ H ρ q Ed b h => ?_⟩
  unfold sDAugD at h
  cases e : ρ[i]? with
  | none => rw [e] at h; exact h.elim
  | some o =>
    cases o with
    | none => rw [e] at h; exact h.elim
    | some sl =>
      cases sl with
      | odic ds =>
        rw [e] at h
        dsimp only at h
        obtain ⟨a', ks', h1', h2', h3', h4', h5', h6'⟩ := b.slot i _ e
        refine ⟨.ref a', h1', ?_⟩
        refine g2 p sc _ σ H ρ q _ b.sit (PostS.ex (Rel := fun H' v d => Rp X.K (Zn (Zo Z σ ρ) H) H' v d) b h fun dj q1 o H1 e1 k1 pl rj hp => ?_)
        have b1 := b.next k1 pl
        obtain ⟨a1, ks1, s1, s2, s3, s4, s5, s6⟩ := b1.slot i _ e
        rw [h1'] at s1
        cases s1
        cases ek : keyOf dj with
        | none => rw [ek] at hp; exact hp.elim
        | some kk =>
          rw [ek] at hp
          dsimp only at hp
          cases eg : getD ds kk with
          | none => rw [eg] at hp; exact hp.elim
          | some dv =>
            rw [eg] at hp
            cases dv with
            | int n =>
              dsimp only at hp
              obtain ⟨v, v1, v2⟩ := get_rel s5 s6 eg
              have ev : v = .int n := by cases v2; rfl
              subst ev
              refine ⟨a', .int n, rfl, .inl ⟨ks1, kk, .inl s2, key_rp rj ek, v1.symm⟩, ?_⟩
              refine h2 p sc _ σ H1 ρ q1 _ b1.sit (PostS.ex (Rel := fun H' v d => Rp X.K (Zn (Zo Z σ ρ) H1) H' v d) b1 hp fun dm q2 om H2 e2 k2 pl2 rm hp2 => ?_)
              have b2 := b1.next k2 pl2
              obtain ⟨a2, ks, t1, t2, t3, t4, t5, t6⟩ := b2.slot i _ e
              rw [h1'] at t1
              cases t1
              cases rm with
              | int m =>
                dsimp only at hp2
                by_cases hc : ds.length < lineMax
                · rw [if_pos hc] at hp2
                  have hlen : ks.length = ds.length := by
                    have := congrArg List.length t5
                    rw [List.length_map, List.length_map] at this
                    exact this.symm
                  obtain ⟨z1, z2⟩ := put_rel (k := kk) (w := .int (n + m)) (v := .int (n + m)) (.int _) t5 t6
                  have z := b2.chDic (es := putD ds kk (.int (n + m))) (ls := putK ks kk (.int (n + m))) e h1' t2 z1 z2
                  exact ⟨n, m, rfl, rfl, _, .inl ⟨ks, kk, t2, key_rp rj ek, by rw [hlen]; exact hc, rfl⟩, hp2 _ σ _ z.1 (fun c z => z) z.2⟩
                · rw [if_neg hc] at hp2; exact hp2.elim
              | _ => exact hp2.elim
            | _ => exact hp.elim
      | dat d => rw [e] at h; exact h.elim
      | pool => rw [e] at h; exact h.elim
      | own d => rw [e] at h; exact h.elim
end
section
variable {X : Cx} {W : WX} {e a b : Expr} {A B : DE} {pos : Pos}
theorem pdg_dis {keys : List (Option Expr)} {vals : List Expr} {ks : List Str} {As : List DE} (h : PDp X W pos keys vals ks As) (hn : ks.Nodup := by decide) (hall : keys.all (·.isSome) = true := by rfl) (hl : keys.length = vals.length := by rfl) (h0 : keys ≠ [] := by exact fun z => nomatch z)
    (h15 : keys.length ≤ 15 := by decide) (hk : ks.length ≤ 15 := by decide) : PDg X W (.Dict keys vals pos) (dDis ks As) := by
  obtain ⟨trs, h1, h2⟩ := h
  refine ⟨_, pe_disp h1 hall hl h0 h15, fun p sc Z σ H ρ q Q s hp a ha => ?_⟩
  have hap : p ≠ a := ne_of_none s.pool.1 ha
  have hsc : sc ≠ a := ne_of_none s.pool.2.1 ha
  have k0 : Keep p H (upd H a (.dK [])) := new_keep ha
  have s0 : Sit X.K p sc (fun b => Z b ∧ b ≠ a) σ (upd H a (.dK [])) ρ q := by
    have e1 : EnvR X.K p (fun b => Z b ∧ b ≠ a) σ H ρ := s.env.sub fun b z n => ⟨z, fun e => n (e ▸ ha)⟩
    exact ⟨e1.stand (new_stand ha), new_pool ha s.pool, fun z => s.nz z.1, s.len⟩
  refine h2 p sc _ σ _ ρ q _ s0 ?_
  have hp' : Post X.mg p sc H (NewG X.K p Z H) (fun c od H' => W c od σ H') Q (M.bnd (dEach As ρ) (fun vs => M.ret (PyData.dict ((ks.map PyData.str).zip vs))) q) := hp
  unfold M.bnd at hp'
  cases e : dEach As ρ q with
  | ok ds q1 =>
    rw [e] at hp'
    intro ps H2 k2 pl2 r2
    have k2' : Keep p (upd H a (.dK [])) H2 := k2
    have hH2 : H2 a = some (.dK []) := k2' a _ hap.symm upd_same
    obtain ⟨kvs, e1, e2, e3⟩ := pairs_made ks ps r2.1
    have hlen : kvs.length = ks.length := by
      have := congrArg List.length e2
      rwa [List.length_map, List.length_map] at this
    have hnd : (kvs.map (·.1)).Nodup := by
      rw [e2]
      exact List.Pairwise.map _ (fun x y h z => h (Sum.inr.inj z)) hn
    refine ⟨hH2, kvs, e1, by omega, ?_⟩
    rw [merge_new kvs [] hnd (fun k _ z => nomatch z), List.nil_append]
    have rl : RpL X.K (Zn (fun b => Z b ∧ b ≠ a) (upd H a (.dK []))) H2 (kvs.map (·.2)) ds := by rw [e3]; exact r2.2
    have hlz : kvs.length = ds.length := by
      have := rl.length
      rwa [List.length_map] at this
    obtain ⟨z1, z2⟩ := zip_dict (ds := ds) e2 hlz
    have na : ∀ b, Zn (fun b => Z b ∧ b ≠ a) (upd H a (.dK [])) b → b ≠ a := fun b z => by
      rcases z with z | z
      · exact z.2
      · intro e
        rw [e, upd_same] at z
        cases z
    have st : Stand (Zn (fun b => Z b ∧ b ≠ a) (upd H a (.dK []))) H2 (upd H2 a (.dK kvs)) := ⟨fun b o z h => by rw [upd_ne (na b z)]; exact h, fun b xs h => by rw [upd_ne (fun x => by rw [x, hH2] at h; cases h)]; exact h, fun b o u h => by rw [upd_ne (fun x => by rw [x, hH2] at h; cases h)]; exact h⟩
    refine hp' (.ref a) _ (fun b o nb hb => ?_) ⟨by rw [upd_ne hap]; exact pl2.1, by rw [upd_ne hsc]; exact pl2.2.1, pl2.2.2⟩ ⟨a, kvs, _, rfl, rfl, ha, upd_same, z1, ?_⟩
    · have hba : b ≠ a := ne_of_none hb ha
      rw [upd_ne hba]
      exact k2' b o nb (by rw [upd_ne hba]; exact hb)
    · rw [z2]
      refine (rl.stand st).grow fun b z => ?_
      have hb := na b z
      rcases z with z | z
      · exact ⟨.inl z.1, hb⟩
      · rw [upd_ne hb] at z
        exact ⟨.inr z, hb⟩
  | err x q1 =>
    rw [e] at hp'
    exact fun c od H' k pl rl => hp' c od H' (k0.trans k) pl rl
  | stuck =>
    rw [e] at hp'
    exact hp'.elim
end
/-- x[k] = e, e a flat datum that may read x -/
def sDPutF (i : Nat) (k e : DE) : DS := fun ρ => match ρ[i]? with
  | some (some (.odic ds)) => M.bnd (e ρ) fun d => M.bnd (k ρ) fun y => (match keyOf y with
    | some kk => if flatD d = true ∧ ds.length < lineMax then M.ret (.next (ρ.set i (some (.odic (putD ds kk d))))) else M.stuck
    | none => M.stuck)
  | _ => M.stuck
section
variable {X : Cx} {W : WX} {s : Stmt} {e k : Expr} {F E : DE} {pos p1 p2 : Pos}
theorem sd_dputF {i : Nat} {x : Str} (hu : X.A.units + deep < cLine) (he : PDe X W e F) (hk : PDe X W k E) (hN : X.N[i]? = some x := by rfl) (hv : Vis X.env.scope x := by first | exact Or.inl rfl | exact Or.inr (Or.inl rfl) | exact Or.inr (Or.inr rfl))
    (hd : (x == ("__debug__" : Str)) = false := by decide) (hcd : (x == ("__classdict__" : Str)) = false := by decide)
    (hs : swapsWith e (some (.Subscript (.Name x p1) k p2)) pos.line X.env = pure false := by rfl) : PSd X W (.Assign [.Subscript (.Name x p1) k p2] e pos) (sDPutF i E F) := by
  obtain ⟨t, h1, h2⟩ := he
  obtain ⟨u, g1, g2⟩ := hk
  refine ⟨_, ps_dput (by unfold deep at hu; omega) (pe_var (pos := p1) hN hv hd hcd) g1 h1 hs, fun p sc Z0 H0 Z σ H ρ q Ed b h => ?_⟩
  unfold sDPutF at h
  cases e : ρ[i]? with
  | none => rw [e] at h; exact h.elim
  | some o =>
    cases o with
    | none => rw [e] at h; exact h.elim
    | some sl =>
      cases sl with
      | odic ds =>
        rw [e] at h
        dsimp only at h
        obtain ⟨a', ks', h1', h2', h3', h4', h5', h6'⟩ := b.slot i _ e
        refine h2 p sc _ σ H ρ q _ b.sit (PostS.ex (Rel := fun H' v d => Rp X.K (Zn (Zo Z σ ρ) H) H' v d) b h fun d q1 v H1 e1 k1 pl r hp => ?_)
        have b1 := b.next k1 pl
        refine ⟨.ref a', h1', ?_⟩
        refine g2 p sc _ σ H1 ρ q1 _ b1.sit (PostS.ex (Rel := fun H' v d => Rp X.K (Zn (Zo Z σ ρ) H1) H' v d) b1 hp fun dj q2 o H2 e2 k2 pl2 rj hp2 => ?_)
        have b2 := b1.next k2 pl2
        obtain ⟨a2, ks, s1, s2, s3, s4, s5, s6⟩ := b2.slot i _ e
        rw [h1'] at s1
        cases s1
        cases ek : keyOf dj with
        | none => rw [ek] at hp2; exact hp2.elim
        | some kk =>
          rw [ek] at hp2
          dsimp only at hp2
          by_cases hc : flatD d = true ∧ ds.length < lineMax
          · rw [if_pos hc] at hp2
            have hlen : ks.length = ds.length := by
              have := congrArg List.length s5
              rw [List.length_map, List.length_map] at this
              exact this.symm
            have r0 : Rp X.K Z H1 v d := Rp.flat hc.1 r
            have rv : Rp X.K Z H2 v d := r0.stand (k2.stand pl b1.nz)
            obtain ⟨z1, z2⟩ := put_rel (k := kk) rv s5 s6
            have z := b2.chDic (es := putD ds kk d) (ls := putK ks kk v) e h1' s2 z1 z2
            exact ⟨a', _, rfl, .inl ⟨ks, kk, s2, key_rp rj ek, by rw [hlen]; exact hc.2, rfl⟩, hp2 _ σ _ z.1 (fun c z => z) z.2⟩
          · rw [if_neg hc] at hp2; exact hp2.elim
      | dat d => rw [e] at h; exact h.elim
      | pool => rw [e] at h; exact h.elim
      | own d => rw [e] at h; exact h.elim
end
/-! ### readings -/
section
variable {i : Nat} {k e : DE} {ρ : Rho} {ds : List (D × D)}
theorem at_sdputf (h : ρ[i]? = some (some (.odic ds))) : sDPutF i k e ρ = M.bnd (e ρ) fun d => M.bnd (k ρ) fun y => (match keyOf y with
    | some kk => if flatD d = true ∧ ds.length < lineMax then M.ret (.next (ρ.set i (some (.odic (putD ds kk d))))) else M.stuck
    | none => M.stuck) := by unfold sDPutF; rw [h]
theorem at_sdaugd (h : ρ[i]? = some (some (.odic ds))) : sDAugD i k e ρ = M.bnd (k ρ) fun y => (match keyOf y with
    | some kk => (match getD ds kk with
      | some (.int n) => M.bnd (e ρ) fun d => (match d with
        | .int m => if ds.length < lineMax then M.ret (.next (ρ.set i (some (.odic (putD ds kk (.int (n + m))))))) else M.stuck
        | _ => M.stuck)
      | _ => M.stuck)
    | none => M.stuck) := by unfold sDAugD; rw [h]
end
/-! ### x.append(y.pop(e)), both the def's own -/
theorem RpL.erase {K : PySem.W.Frag} {Z : Rg} {H : Hp} : ∀ {vs : List V} {ds : List D} (m : Nat), RpL K Z H vs ds → RpL K Z H (vs.eraseIdx m) (ds.eraseIdx m)
  | _, _, _, .nil => .nil
  | _, _, 0, .cons _ r => r
  | _, _, m + 1, .cons h r => .cons h (RpL.erase m r)
def sAppPop (i j : Nat) (e : DE) : DS := fun ρ => match ρ[i]?, ρ[j]? with
  | some (some (.own ds)), some (some (.own es)) => M.bnd (e ρ) fun k => (match k with
    | .int n => if 0 ≤ n ∧ n < es.length ∧ n < 2 ^ 62 ∧ ds.length < lineMax then (match es[n.toNat]? with
      | some d => M.ret (.next ((ρ.set j (some (.own (es.eraseIdx n.toNat)))).set i (some (.own (ds ++ [d])))))
      | none => M.stuck) else M.stuck
    | _ => M.stuck)
  | _, _ => M.stuck
section
variable {X : Cx} {W : WX} {F : DE}
theorem sd_appPop {i j : Nat} {x y : Str} {a0 : Expr} {p1 p2 p3 p4 p5 p6 p7 : Pos} (hij : i ≠ j) (ha : PDe X W a0 F) (hN : X.N[i]? = some x := by rfl) (hM : X.N[j]? = some y := by rfl) (hv : Vis X.env.scope x := by first | exact Or.inl rfl | exact Or.inr (Or.inl rfl) | exact Or.inr (Or.inr rfl))
    (hw : Vis X.env.scope y := by first | exact Or.inl rfl | exact Or.inr (Or.inl rfl) | exact Or.inr (Or.inr rfl))
    (hd : (x == ("__debug__" : Str)) = false := by decide) (hcd : (x == ("__classdict__" : Str)) = false := by decide)
    (hd2 : (y == ("__debug__" : Str)) = false := by decide) (hcd2 : (y == ("__classdict__" : Str)) = false := by decide)
    (hbase : attributeBase (.Name x p1) "append" X.env (eval (.Name x p1) X.env) = eval (.Name x p1) X.env := by rfl)
    (hbase2 : attributeBase (.Name y p5) "pop" X.env (eval (.Name y p5) X.env) = eval (.Name y p5) X.env := by rfl)
    (hfew : ((backTo p3 (starEach (.Call (.Attribute (.Name y p5) "pop" p6) [a0] [] p7 :: []) X.env)).all (fun x => !x.1) && (backToKw p3 (keywordEach [] X.env)).all (fun x => x.1.isSome)
      && decide ((Expr.Call (.Attribute (.Name y p5) "pop" p6) [a0] [] p7 :: []).length + ([] : List Keyword).length + (if ([] : List Keyword).isEmpty then 0 else 1) < 30)) = true := by rfl)
    (hfew2 : ((backTo p7 (starEach (a0 :: []) X.env)).all (fun x => !x.1) && (backToKw p7 (keywordEach [] X.env)).all (fun x => x.1.isSome)
      && decide ((a0 :: []).length + ([] : List Keyword).length + (if ([] : List Keyword).isEmpty then 0 else 1) < 30)) = true := by rfl)
    (hline : (p2.endLine == p3.line) = true := by rfl) (hline2 : (p6.endLine == p7.line) = true := by rfl)
    (hs : starEach (.Call (.Attribute (.Name y p5) "pop" p6) [a0] [] p7 :: []) X.env = (false, eval (.Call (.Attribute (.Name y p5) "pop" p6) [a0] [] p7) X.env) :: starEach [] X.env := by rfl) (hs2 : starEach (a0 :: []) X.env = (false, eval a0 X.env) :: starEach [] X.env := by rfl)
    (hplain : (backTo p3 (starEach [] X.env)).any (·.1) = false := by rfl) (hplain2 : (backTo p7 (starEach [] X.env)).any (·.1) = false := by rfl)
    (hsw : swapsWith (.Call (.Attribute (.Name x p1) "append" p2) [.Call (.Attribute (.Name y p5) "pop" p6) [a0] [] p7] [] p3) none p4.line X.env = pure false := by rfl) :
    PSd X W (.Expr (.Call (.Attribute (.Name x p1) "append" p2) [.Call (.Attribute (.Name y p5) "pop" p6) [a0] [] p7] [] p3) p4) (sAppPop i j F) := by
  obtain ⟨t, h1, h2⟩ := ha
  have inner := pe_bm (X := X) PySem.F.plainAttrs_list PySem.F.slot_list_pop PySem.F.type_list_pop mt_popAt (pe_var (pos := p5) hM hw hd2 hcd2) (pa_cons h1 pa_nil hs2) hbase2 hfew2 hline2 hs2 hplain2
  have hps := ps_expr (X := X) (pos := p4) (pe_bm PySem.F.plainAttrs_list PySem.F.slot_list_append PySem.F.type_list_append mt_append (pe_var (pos := p1) hN hv hd hcd) (pa_cons inner pa_nil hs) hbase hfew hline hs hplain) hsw
  refine ⟨_, hps, fun p sc Z0 H0 Z σ H ρ q E b h => ?_⟩
  unfold sAppPop at h
  cases ei : ρ[i]? with
  | none => rw [ei] at h; exact h.elim
  | some o =>
    cases o with
    | none => rw [ei] at h; exact h.elim
    | some sl =>
      cases sl with
      | own ds =>
        cases ej : ρ[j]? with
        | none => rw [ei, ej] at h; exact h.elim
        | some o2 =>
          cases o2 with
          | none => rw [ei, ej] at h; exact h.elim
          | some sl2 =>
            cases sl2 with
            | own es =>
              rw [ei, ej] at h
              dsimp only at h
              obtain ⟨a', vs', s1, s2, s3, s4, s5⟩ := b.slot i _ ei
              obtain ⟨c', ws', t1, t2, t3, t4, t5⟩ := b.slot j _ ej
              refine ⟨.ref a', s1, .inl ⟨rfl, _, .inl (.inl s2)⟩, ?_⟩
              refine ⟨.ref c', t1, .inl ⟨rfl, _, .inl (.inl t2)⟩, ?_⟩
              refine h2 p sc _ σ H ρ q _ b.sit (PostS.ex (Rel := fun H' v d => Rp X.K (Zn (Zo Z σ ρ) H) H' v d) b h fun d q1 v H1 e1 k pl r hp => ?_)
              have b1 := b.next k pl
              cases r with
              | int n =>
                dsimp only at hp
                by_cases hn : 0 ≤ n ∧ n < es.length ∧ n < 2 ^ 62 ∧ ds.length < lineMax
                · rw [if_pos hn] at hp
                  obtain ⟨n0, n1, n2, hl⟩ := hn
                  have hm : n.toNat < es.length := by omega
                  rw [List.getElem?_eq_getElem hm] at hp
                  dsimp only at hp
                  obtain ⟨c2, ws, u1, u2, u3, u4, u5⟩ := b1.slot j _ ej
                  rw [t1] at u1
                  cases u1
                  obtain ⟨v, hv', rv⟩ := u5.at (List.getElem?_eq_getElem hm)
                  have z1 := b1.chOwn ej t1 u2 (RpL.erase n.toNat u5)
                  have ei2 : (ρ.set j (some (.own (es.eraseIdx n.toNat))))[i]? = some (some (.own ds)) := by rw [List.getElem?_set_ne (Ne.symm hij)]; exact ei
                  obtain ⟨a2, vs, w1, w2, w3, w4, w5⟩ := z1.1.slot i _ ei2
                  rw [s1] at w1
                  cases w1
                  have z2 := z1.1.chOwn ei2 s1 w2 (w5.append (.one (rv.stand z1.2)))
                  have hlw : ws.length = es.length := u5.length
                  refine ⟨c', ws, n, n.toNat, v, rfl, rfl, u2, by omega, by omega, ?_, hv', ?_⟩
                  · rw [hlw]
                    unfold seqIndex?
                    simp [show ¬ n < 0 by omega, n0, n1]
                  · exact ⟨a', vs, v, rfl, rfl, w2, by rw [w5.length]; exact hl, hp _ σ _ z2.1 (fun c z => z) (z1.2.trans z2.2)⟩
                · rw [if_neg hn] at hp; exact hp.elim
              | _ => exact hp.elim
            | dat d => rw [ei, ej] at h; exact h.elim
            | pool => rw [ei, ej] at h; exact h.elim
            | odic d => rw [ei, ej] at h; exact h.elim
      | dat d => rw [ei] at h; exact h.elim
      | pool => rw [ei] at h; exact h.elim
      | odic d => rw [ei] at h; exact h.elim
end
end Ew
namespace Ew
open PySem PySem.Spec PyProof.Rows L2
/-! ## Errors: raise, try .. except WeatherError as e: return _law_error(e) -/
abbrev CXn : CXT := fun _ _ _ _ _ _ => False
abbrev En : XK := fun _ _ _ => False
/-- a def that is called with the caught exception, of the class cls -/
structure FnE (P : Program) (w : World) (K : PySem.W.Frag) (mg : Str → Option Value) (base : Heap) (k : Nat) (f : Addr) (fd : FuncData) (y : Str) (cls : Value) (d : Option Addr) (sp : Hp → VK → Prop) : Prop where
  run : ∀ (A : Around) (outer : List Env) (s : Shared) (H : Hp) (args : Args) (p : Addr × Obj) (Q : VK), L2H.RoomH k A → L2H.PinOk outer H s p → Zc cls d p.2 → (∃ vs, p.2.data = .fields vs) → Env0 P w K mg base A outer s H →
    BindsTo s fd args [(y, .ref p.1)] → sp H Q → codeAny (model P w) A (.call (.ref f) args) (CR CXn outer P w H s Q En) s
section
variable {P : Program} {w : World} {K : PySem.W.Frag} {mg : Str → Option Value} {base : Heap} {k : Nat} {x qual y : Str} {f : Addr} {fd : FuncData} {N : List Str} {st : Stmt} {cls : Value} {d : Option Addr} {sp : Hp → VK → Prop}
theorem fnE_of (F : FunD K x qual (defArgs st) (defBody st) (defScope st) [] [] f fd) (S : FnScope N [y] (defScope st))
    (body : ∀ (c : Value) (A : Around) (outer : List Env) (s : Shared) (H : Hp) (p : Addr × Obj) (Q : VK), L2H.RoomH k (A.deeper (envOfC qual (defScope st) s.heap.objs.size f c)) → Zc cls d p.2 → (∃ vs, p.2.data = .fields vs) → sp H Q →
      ∃ t, PSs (L2H.cxH CXn P w K mg base N qual (defScope st) f c A outer s H En p) (defBody st) t ∧ t { nx := fun _ H' => Q .non H', rt := Q } (L2.start N [.ref p.1]) H) : FnE P w K mg base (k + 1) f fd y cls d sp := by
  obtain ⟨oc, od, dV, kV, doc, pm, an, c, ct, osl, rfl, lk, hcd, _, _⟩ := F.ex
  refine ⟨fun A outer s H args p Q hr hpin hz hf e0 hb hsp => ?_⟩
  have KX : K.In s.heap := e0.mod.kin.keeps fun b o e => (e0.bs b o e).1
  have lim : s.heap.NoLimit := e0.mod.nolimit.keeps fun b o e => (e0.bs b o e).1
  have hkind : ∀ z ∈ [(y, Value.ref p.1)], (defScope st).names.lookup z.1 = some .local ∨ ((defScope st).names.lookup z.1 = some .cell ∧ ((cellsFrom (s.heap.objs.size + 1) (defScope st).names []).lookup z.1).isSome = true) := fun z hz => by
    obtain rfl : z = (y, Value.ref p.1) := by simpa using hz
    rcases S.par y (by simp) with q | q
    · exact .inl q
    · exact .inr ⟨q, PySem.W.cellsFrom_some _ _ _ (.inl q)⟩
  refine codeAny_call_function hr.depth (KX _ _ lk) rfl S.co S.gen rfl (PySem.W.codeRec_of KX hcd) (hb _ _ _ _ ?_)
  refine wpAny_newFunctionEnv_cells S.kind hkind fun env he s1 x => ?_
  subst he
  refine ⟨lim.keeps x.toInCall.keep, codeAny_func ?_⟩
  obtain ⟨t, ht, hq⟩ := body c A outer s H p Q (hr.deeper _) hz hf hsp
  have I : Inv (L2H.cxH CXn P w K mg base N qual (defScope st) f c A outer s H En p) [] (L2.start N [.ref p.1]) H s1 := L2H.inv_startH (us := [.ref p.1]) (vs := [.ref p.1]) (ps := [y]) S hpin e0 rfl (.cons rfl .nil) x
  refine wpAny_mono (ht.run [] s1 _ H _ I hq) (fun fl s' hs => ?_) fun e s' hs => hs
  cases fl with
  | ret u =>
    obtain ⟨v, σ', H', J, rv, q⟩ := hs
    exact ⟨v, H', J.os, J.bare, J.base, J.hok, rv, q⟩
  | next =>
    obtain ⟨σ', H', J, q⟩ := hs
    exact ⟨V.non, H', J.os, J.bare, J.base, J.hok, rfl, q⟩
  | brk => exact hs.choose_spec.choose_spec.2.elim
  | cont => exact hs.choose_spec.choose_spec.2.elim
end
/-- f(e), e the caught exception: what its promise says -/
theorem pe_callE {X : Cx} {a : Addr} {oe : Obj} {cls : Value} {d : Option Addr} {x n y : Str} {f : Addr} {fd : FuncData} {i : Nat} {p p2 pos : Pos} (hpn : (a, oe) ∈ X.pn) (hz : Zc cls d oe) (hf : ∃ vs, oe.data = .fields vs) (hN : X.N[i]? = some n) (hv : Vis X.env.scope n)
    (hg : Gl X x) (hm : X.mg x = some (.ref f)) (hk : PySem.W.keepIn X.K (.ref f) = true) (hb : Binds X.K fd [y] []) (hdb : (x == ("__debug__" : Str)) = false := by decide) (hd : (n == ("__debug__" : Str)) = false := by decide) (hcd : (n == ("__classdict__" : Str)) = false := by decide)
    (he : starEach [.Name n p2] X.env = (false, eval (.Name n p2) X.env) :: starEach [] X.env := by rfl) (hpl : (backTo pos (starEach [] X.env)).any (·.1) = false := by rfl) :
    PE X (.Call (.Name x p) [.Name n p2] [] pos) (fun σ H Q => (i < σ.length → σ[i]? = some (some (.ref a))) ∧ ∃ k sp, L2H.RoomH k X.A ∧ FnE X.prog X.w X.K X.mg X.base k f fd y cls d sp ∧ sp H Q) := by
  refine ⟨fun pins s σ H Q I h => ?_⟩
  obtain ⟨hs, k, sp, hr, F, hsp⟩ := h
  have hi : i < σ.length := by rw [I.len]; exact (List.getElem?_eq_some_iff.mp hN).1
  have ha : PA X [.Name n p2] (tCons (tVar i) tNil) := pa_cons (pe_var hN hv hd hcd) pa_nil he
  refine wpAny_Call_Name_kw (ld_glob I hg hm ?_ hdb)
  refine PySem.W.callWith_K (h₀ := X.base) I.ok.mod.kin hk (thn (ha.run pos pins s σ H (fun vs H1 => vs = [.ref a] ∧ H1 = H) I ⟨_, hs hi, rfl, rfl⟩) fun us s1 ⟨vs, H1, I1, r, q, q2⟩ => ⟨I1.kIn, ?_⟩) he hpl
  subst q q2
  cases r with
  | cons r1 r2 =>
    cases r2
    cases r1
    have P1 := I1.pin (a, oe) (List.mem_append_left _ hpn)
    have hpin : L2H.PinOk X.stack H1 s1 (a, oe) := ⟨P1.1, P1.2.1, fun hm => (List.mem_cons.mp (I1.stkSub a hm)).elim P1.2.2.1 P1.2.2.2.1, P1.2.2.2.2⟩
    have b := hb s1 [.ref a] I1.kIn (by rfl)
    refine wpAny_call (codeAny_mono (F.run X.A X.stack s1 H1 ⟨[.ref a], []⟩ (a, oe) Q hr hpin hz hf I1.env0 b hsp) fun r s' hq => ?_)
    cases r with
    | error e => exact hq.elim
    | ok fl =>
      cases fl with
      | ret u => exact I1.after hq
      | next => exact False.elim hq
      | brk => exact False.elim hq
      | cont => exact False.elim hq
/-! ### a raise -/
section
variable {X : Cx} {W : WX} {e : Expr} {F : DE} {x : Str} {p pos pos' : Pos} {C : Addr}
theorem sd_raise (hc : X.calm = true) (tk : Takes X W) (q : PySem.W.excIn X.K C He.veBase "ValueError.__new__" = true ∧ PySem.W.keepIn X.K (.ref C) = true ∧ PySem.W.subIn X.K (.ref C) (.type "BaseException") = some true ∧ PySem.W.typeIn X.K (.ref C) = some (.type "type"))
    (gC : X.mg x = some (.ref C)) (hg : Gl X x) (he : PDe X W e F) (hs : starEach [e] X.env = (false, eval e X.env) :: starEach [] X.env := by rfl) (hdb : (x == ("__debug__" : Str)) = false := by decide) :
    PSd X W (.Raise (some (.Call (.Name x p) [e] [] pos)) none pos') (sRaise x F) := by
  obtain ⟨t, h1, h2⟩ := he
  refine ⟨_, ps_raise hc tk (SkE.pmk_own1 PySem.F.excBase_ValueError q.1 gC q.2.1 (raises_own q.2.2.1 q.2.2.2) hg h1 hs hdb), fun p sc Z0 H0 Z σ H ρ q E b h => ?_⟩
  refine h2 p sc _ σ H ρ q _ b.sit (PostS.ex (Rel := fun H' v d => Rp X.K (Zn (Zo Z σ ρ) H) H' v d) b h fun d q1 v H1 e k pl r hp => ?_)
  exact hp _ _ σ H1 (b.keep.trans k) pl ⟨C, gC, rfl, rfl⟩
end
/-! ### the widest reading of statements -/
def tSF (K : PySem.W.Frag) (mg : Str → Option Value) (W : WX) (F : DS) : TS := fun E σ H => ∃ (p sc : Addr) (Z0 : Rg) (H0 : Hp) (Z : Rg) (ρ : Rho) (q : Pool), BR K p sc Z0 H0 Z σ H ρ q ∧ PostS K mg p sc Z0 H0 Z H W E (F ρ q)
theorem PSsd.run {X : Cx} {W : WX} {ss : List Stmt} {F : DS} (h : PSsd X W ss F) : PSs X ss (tSF X.K X.mg W F) := by
  obtain ⟨t, h1, h2⟩ := h
  refine ⟨fun pins s σ H D I x => ?_⟩
  obtain ⟨p, sc, Z0, H0, Z, ρ, q, b, hp⟩ := x
  exact h1.run pins s σ H D I (h2 p sc Z0 H0 Z σ H ρ q D b hp)
/-! ### a try -/
/-- what _law_error gives back -/
def spErr (c : Str) : Hp → VK → Prop := fun H Q => ∀ t H', (∀ b o, H b = some o → H' b = some o) → H' t = some (.tup [.str "refused", .str c]) → Q (.ref t) H'
/-- what the handler leans on -/
structure ErrOk (P : Program) (w : World) (K : PySem.W.Frag) (mg : Str → Option Value) (base : Heap) (j : Nat) (S : List (Str × Option Str)) : Prop where
  ex : ∃ (CW f : Addr) (fd : FuncData) (y : Str), mg "WeatherError" = some (.ref CW) ∧ mg "_law_error" = some (.ref f) ∧ PySem.W.keepIn K (.ref f) = true ∧ Binds K fd [y] [] ∧
    ∀ c o, (c, o) ∈ S → o = none ∧ ∃ C, mg c = some (.ref C) ∧ PySem.W.exmOne K (.ref C) (.ref CW) = some true ∧ FnE P w K mg base j f fd y (.ref C) none (spErr c)
section
variable {X : Cx} {W : WX} {body : List Stmt} {B : DS} {S : List (Str × Option Str)} {n : Str} {i j : Nat} {p1 p2 p3 p4 p5 p6 p7 : Pos}
theorem sd_try (hs : X.stack = X.env :: X.outer) (hf : X.env.frame = some X.env.locals) (hN : X.N.Nodup) (hi : X.N[i]? = some n) (hln : X.env.kindOf n = some .local) (gW : Gl X "WeatherError") (gE : Gl X "_law_error") (tk : Takes X W)
    (eo : ErrOk X.prog X.w X.K X.mg X.base j S) (hr : Room j X.A)
    (hb : ∀ (W : WX) (pn : List (Addr × Obj)) (xe : Value → Shared → Prop), Takes (X.tr pn xe) W → PSsd (X.tr pn xe) W body B)
    (hd : (n == ("__debug__" : Str)) = false := by decide) (hcd : (n == ("__classdict__" : Str)) = false := by decide)
    (he : starEach [.Name n p2] X.env = (false, eval (.Name n p2) X.env) :: starEach [] X.env := by rfl) :
    PSd X W (.Try body [.ExceptHandler (some (.Name "WeatherError" p1)) (some n) [.Return (some (.Call (.Name "_law_error" p3) [.Name n p2] [] p4)) p5] p6] [] [] p7) (sTry S B) := by
  obtain ⟨CW, f, fd, y, mW, mE, kE, bE, cs⟩ := eo.ex
  refine ⟨_, ps_try_as (Wout := W) (tb := fun W => tSF X.K X.mg W B) (ts := fun a cls d => tRet (fun σ H Q => (i < σ.length → σ[i]? = some (some (.ref a))) ∧ ∃ k sp, L2H.RoomH k (X.A.mark (some (.ref a))) ∧ FnE X.prog X.w X.K X.mg X.base k f fd y cls d sp ∧ sp H Q)) hs hf hN hi hln ⟨gW, by decide, .inl mW⟩ tk
    (fun W' pn xe tk' _ => (hb W' pn xe tk').run) (fun a oe cls d pn hz hfl => pss_one (ps_ret (pe_callE (X := X.suite a ((a, oe) :: pn)) List.mem_cons_self hz hfl hi (.inl hln) gE mE kE bE (by decide) hd hcd he (by rfl)))), ?_⟩
  intro p sc Z0 H0 Z σ H ρ q E b h
  refine ⟨p, sc, Z0, H0, Z, ρ, q, b, ?_⟩
  unfold sTry M.tryE at h
  cases e : B ρ q with
  | ok o q1 =>
    rw [e] at h
    cases o with
    | next ρ1 => exact h
    | ret d => exact h
    | brk ρ1 => exact h
    | cont ρ1 => exact h
  | stuck => rw [e] at h; exact h
  | err x q1 =>
    rw [e] at h
    dsimp only at h
    by_cases hx : (x.cls, x.arg.map (fun y => y.1)) ∈ S
    · rw [if_pos hx] at h
      intro c od σ' H' k pl r
      obtain ⟨h0, C, hC, hex, hF⟩ := cs _ _ hx
      obtain ⟨C', hC', rfl, r3⟩ := r
      rw [hC] at hC'
      cases hC'
      obtain ⟨xc, xa⟩ := x
      cases xa with
      | some z => cases h0
      | none =>
        have r4 : od = none := r3
        subst r4
        refine ⟨true, hex, fun _ a na => ?_, fun z => nomatch z⟩
        refine ⟨fun hl => ?_, j, _, ⟨hr.dp, hr.un⟩, hF, fun t H2 k2 ht => ?_⟩
        · rw [List.getElem?_set_self (by simpa using hl)]
        · refine h (.ref t) H2 (fun b o hb ho => k2 b o (k b o hb ho)) ⟨k2 _ _ pl.1, k2 _ _ pl.2.1, pl.2.2⟩ ?_
          exact .tup (.inl (.inl ht)) (.cons (.str _) (.cons (.str _) .nil))
    · rw [if_neg hx] at h
      exact h.elim
end

/-! ### the classes of errors -/
def ENAMES : List Str := ["NoPart", "NoWeather", "NotAllowed", "BadCourse", "BadLine", "BadText", "Over", "NothingToUndo", "NoRule", "Full"]
/-- what is asked of the error class c, the n-th of the ten -/
def errB (K : PySem.W.Frag) (c : Str) (n : Nat) : Bool :=
  (He.Fa.exc c).ok K && ((He.Fa.exm c "WeatherError" true).ok K && (decide (PySem.W.findIn K (.ref (He.ga K c)) "__getattribute__" = some (some (.builtin "BaseException.__getattribute__"))) && (decide (PySem.W.findIn K (.ref (He.ga K c)) "__getattr__" = some none) &&
  (PySem.W.hasDictIn K (He.ga K c) && (decide (PySem.W.findIn K (.ref (He.ga K c)) "__class__" = some (some (.builtin "object.__class__"))) && (decide (PySem.W.specialIn K (.builtin "object.__class__") "__get__" = some (some (.builtin "getset_descriptor.__get__"))) &&
  (decide (PySem.W.takesIn K (.builtin "object.__class__") = some true) && (decide (PySem.W.mroIn K (He.ga K c) (.type "object") = some true) && (decide (PySem.W.kitOne K (.ref (He.ga K c)) (.type "ValueError") = some true) &&
  (List.range 10).all fun k => decide (PySem.W.kitOne K (.ref (He.ga K c)) (.ref (He.ga K (ENAMES.getD k "Full"))) = some (decide (k = n))))))))))))
structure ErrC (K : PySem.W.Frag) (c : Str) (n : Nat) : Prop where
  own : PySem.W.excIn K (He.ga K c) He.veBase "ValueError.__new__" = true ∧ PySem.W.keepIn K (.ref (He.ga K c)) = true ∧ PySem.W.subIn K (.ref (He.ga K c)) (.type "BaseException") = some true ∧ PySem.W.typeIn K (.ref (He.ga K c)) = some (.type "type")
  exw : PySem.W.exmOne K (.ref (He.ga K c)) (.ref (He.ga K "WeatherError")) = some true
  ix : ExcC K (He.ga K c)
  isV : PySem.W.kitOne K (.ref (He.ga K c)) (.type "ValueError") = some true
  is : ∀ k, k < 10 → PySem.W.kitOne K (.ref (He.ga K c)) (.ref (He.ga K (ENAMES.getD k "Full"))) = some (decide (k = n))
theorem errB_ok {K : PySem.W.Frag} {c : Str} {n : Nat} (h : errB K c n = true) : ErrC K c n := by
  unfold errB at h
  obtain ⟨h1, h⟩ := He.ba h
  obtain ⟨h2, h⟩ := He.ba h
  obtain ⟨h3, h⟩ := He.ba h
  obtain ⟨h4, h⟩ := He.ba h
  obtain ⟨h5, h⟩ := He.ba h
  obtain ⟨h6, h⟩ := He.ba h
  obtain ⟨h7, h⟩ := He.ba h
  obtain ⟨h8, h⟩ := He.ba h
  obtain ⟨h9, h⟩ := He.ba h
  obtain ⟨h10, h⟩ := He.ba h
  have e := He.exc_ok h1
  exact ⟨e, He.exm_ok h2, ⟨of_decide_eq_true h3, of_decide_eq_true h4, e.2.2.1, h5, of_decide_eq_true h6, of_decide_eq_true h7, of_decide_eq_true h8, of_decide_eq_true h9⟩, of_decide_eq_true h10,
    fun k hk => of_decide_eq_true (List.all_eq_true.mp h k (List.mem_range.mpr hk))⟩
/-- isinstance(e, c), e the exception that is pinned -/
theorem call_isE2 {X : Cx} {a D : Addr} {oe : Obj} (hp : (a, oe) ∈ X.pn) (C : ExcC X.K D) (hz : Zc (.ref D) none oe) (hf : ∃ vs, oe.data = .fields vs) : CallR X (.builtin "isinstance") (rIsE X.K D a) := by
  intro pins s σ H xs us Q I r h
  obtain ⟨c, cv, b, rfl, hcv, e, q⟩ := h
  cases r with
  | cons rx rr =>
    cases rr with
    | cons rt rr =>
      cases rr
      cases rx
      have ec := hcv _ rt
      subst ec
      obtain ⟨hget, _⟩ := I.pin (a, oe) (List.mem_append.mpr (.inl hp))
      obtain ⟨vs, hv⟩ := hf
      have J : PySem.W.InstAt s.heap a oe D none := by
        obtain ⟨oc, od, oda, osl⟩ := oe
        obtain ⟨h1, h2⟩ := hz
        dsimp only at h1 h2 hv
        subst h1 h2 hv
        exact ⟨hget, rfl, rfl, trivial⟩
      exact PySem.W.kia_one (PySem.W.handS_kitx_exc C.hg C.hk C.hs C.hd C.ha C.hn C.ht C.hm) I.kIn J e (fun z => nomatch z) fun tk => ⟨.bl b, H, I.kept (t' := tk) fun _ _ z => z, rfl, q⟩
/-- flags.count(True) -/
def rCntB (K : PySem.W.Frag) : V → List V → Hp → VK → Prop := fun x xs H Q => ∃ (p : Addr) (bs : List Bool), x = .ref p ∧ xs = [.bl true] ∧ SqL K H p (bs.map V.bl) ∧ Q (.int (bs.count true : Nat)) H
theorem reads_bools {h : Heap} : ∀ {bs : List Bool} {us : List Value}, Vals (bs.map V.bl) us → ReadsAll h us (bs.map PyData.bool) []
  | [], _, .nil => .nil
  | b :: bs, _, .cons r rs => by
    obtain rfl := r
    exact ReadsAll.cons (as := []) (.bool b) (reads_bools rs)
theorem plain_bools : ∀ bs : List Bool, PyData.plainAll (bs.map PyData.bool) = true
  | [] => rfl
  | b :: bs => by rw [List.map_cons, PyData.plainAll, plain_bools bs]; rfl
theorem depth_bools : ∀ bs : List Bool, PyData.depthAll (bs.map PyData.bool) ≤ 1
  | [] => by decide
  | b :: bs => by
    rw [List.map_cons, PyData.depthAll]
    have := depth_bools bs
    have e : PyData.depth (.bool b) = 0 := by rfl
    omega
theorem count_bools : ∀ bs : List Bool, (bs.map PyData.bool).countP (fun y => PyData.eqv y (.bool true)) = bs.count true
  | [] => rfl
  | true :: bs => by rw [List.map_cons, List.countP_cons, count_bools bs, List.count_cons]; simp [PyData.eqv]
  | false :: bs => by rw [List.map_cons, List.countP_cons, count_bools bs, List.count_cons]; simp [PyData.eqv]
theorem mt_countB {X : Cx} (hu : X.A.units + 4 < cLine) : MtR X "list.count" (rCntB X.K) := by
  intro pins s σ H x xs v us Q I rx rxs h
  obtain ⟨p, bs, rfl, rfl, hs, q⟩ := h
  cases rx
  obtain ⟨u, rfl, ru⟩ := rxs.one
  cases ru
  obtain ⟨its, rv, ⟨o, n, ho, hc, hdn, hd⟩, hlen⟩ := I.list hs
  refine PySem.SeqAt.count_list_data (vs := its.toArray) (xs := bs.map PyData.bool) (d := .bool true) ⟨o, ho, hc, n, hd⟩ (by simpa using reads_bools rv) (.bool true) (plain_bools bs) rfl (by have := depth_bools bs; omega) ?_
  rw [count_bools]
  exact ⟨.int (bs.count true : Nat), H, I.tok _, ⟨s.toks, rfl⟩, q⟩
theorem pe_no {X : Cx} {e : Expr} : PE X e (fun _ _ _ => False) := ⟨fun _ _ _ _ _ _ h => h.elim⟩

theorem ErrC.yes {K : PySem.W.Frag} {c : Str} {n : Nat} (E : ErrC K c n) (h : n < 10) : PySem.W.kitOne K (.ref (He.ga K c)) (.ref (He.ga K (ENAMES.getD n "Full"))) = some true := (E.is n h).trans (by simp)
theorem ErrC.no {K : PySem.W.Frag} {c : Str} {n k : Nat} (E : ErrC K c n) (h : k < 10) (hn : k ≠ n) : PySem.W.kitOne K (.ref (He.ga K c)) (.ref (He.ga K (ENAMES.getD k "Full"))) = some false := (E.is k h).trans (by simp [hn])
theorem errs_nil {P : Str → Option Str → Prop} : ∀ c o, (c, o) ∈ ([] : List (Str × Option Str)) → P c o := fun _ _ h => nomatch h
theorem errs_cons {P : Str → Option Str → Prop} {c' : Str} {o' : Option Str} {l : List (Str × Option Str)} (h : P c' o') (r : ∀ c o, (c, o) ∈ l → P c o) : ∀ c o, (c, o) ∈ (c', o') :: l → P c o := fun c o m => by
  rcases List.mem_cons.mp m with e | e
  · cases e; exact h
  · exact r c o e
theorem boot_VE : bootBuiltins ("ValueError" : Str) = some (.type "ValueError") := by decide +kernel
theorem ite_no {c : Prop} [Decidable c] {A B : Prop} (h : ¬ c) (b : B) : if c then A else B := by rw [if_neg h]; exact b
theorem first_at {ys : List V} {y : V} {j : Nat} (h : ((ys.take j).all fun z => !eqV z y) = true) : ∀ (m : Nat) (z : V), m < j → ys[m]? = some z → eqV z y = false := fun m z hm hz => by
  have e : (ys.take j)[m]? = some z := by rw [List.getElem?_take_of_lt hm]; exact hz
  have := List.all_eq_true.mp h z (List.mem_of_getElem? e)
  simpa using this
theorem keep4 {H : Hp} {l1 l2 l3 l4 : Addr} {o1 o2 o3 o4 : HO} (h1 : H l1 = none) (h2 : upd H l1 o1 l2 = none) (h3 : upd (upd H l1 o1) l2 o2 l3 = none) (h4 : upd (upd (upd H l1 o1) l2 o2) l3 o3 l4 = none) {b : Addr} {o : HO} (h : H b = some o) :
    upd (upd (upd (upd H l1 o1) l2 o2) l3 o3) l4 o4 b = some o := by
  have a1 : upd H l1 o1 b = some o := (upd_ne (ne_of_none h h1)).trans h
  have a2 : upd (upd H l1 o1) l2 o2 b = some o := (upd_ne (ne_of_none a1 h2)).trans a1
  have a3 := (upd_ne (o := o3) (ne_of_none a2 h3)).trans a2
  exact (upd_ne (ne_of_none a3 h4)).trans a3

/-! ### the plain side -/
theorem bnd_err {α β : Type} (x : Exn) (f : α → M β) : M.bnd (M.err x) f = M.err x := by
  funext q
  rfl
theorem at_raise (c : Str) (e : DE) (ρ : Rho) : sRaise c e ρ = M.bnd (e ρ) fun _ => M.err ⟨c, none⟩ := nr rfl
theorem at_raiseI (c f : Str) (e : DE) (ρ : Rho) : sRaiseI c f e ρ = M.bnd (e ρ) fun x => (match x with
  | .int i => M.err ⟨c, some (f, i)⟩
  | _ => M.stuck) := nr rfl
theorem at_try (S : List (Str × Option Str)) (B : DS) (ρ : Rho) : sTry S B ρ = M.tryE S (B ρ) := nr rfl
theorem try_ret (S : List (Str × Option Str)) (o : Out) : M.tryE S (M.ret o) = M.ret o := nr rfl
theorem try_err {S : List (Str × Option Str)} {x : Exn} (h : (x.cls, x.arg.map (fun y => y.1)) ∈ S) : M.tryE S (M.err x) = M.ret (.ret (errD x)) := by
  funext q
  show (if _ then _ else _) = _
  rw [if_pos h]
  rfl
theorem fn_err {n N : Nat} {B : DS} {as : List Arg} {x : Exn} (h : as.length = n) (e : B (as.map argSlot ++ List.replicate (N - n) none) = M.err x) : fnD n N B as = M.err x := by
  rw [fnD_at h, e, bnd_err]
end Ew
namespace Ew
open PySem PySem.Spec PyProof.Rows L2
/-! ## [e for k in d if t]: the dict is locked meanwhile -/
def iDk (i : Nat) : DI := fun ρ => M.bnd (dVar i ρ) fun x => match x with
  | .dict ds => M.ret (ds.map fun q => q.1)
  | _ => M.stuck
section
variable {K : PySem.W.Frag} {Z : Rg} {H : Hp} {a : Addr} {od : Obj} {ks : List (Key × V)}
mutual
theorem Rp.lock (hu : H a = some (.dK ks)) : ∀ {v : V} {d : D}, Rp K Z H v d → Rp K Z (upd H a (.frz od (.dK ks))) v d
  | _, _, .non => .non
  | _, _, .bl b => .bl b
  | _, _, .int i => .int i
  | _, _, .str x => .str x
  | _, _, .tup (a := b) h r => .tup (by
      rcases h with (h | ⟨o, h⟩) | h
      · exact .inl (.inl (by rw [upd_ne (fun z => by rw [z, hu] at h; cases h)]; exact h))
      · exact .inl (.inr ⟨o, by rw [upd_ne (fun z => by rw [z, hu] at h; cases h)]; exact h⟩)
      · exact .inr h) (RpL.lock hu r)
  | _, _, .lst h z r => .lst (by rw [upd_ne (fun e => by rw [e, hu] at h; cases h)]; exact h) z (RpL.lock hu r)
  | _, _, .dic (a := b) h z e r => .dic (by
      by_cases hb : b = a
      · subst hb
        rcases h with h | ⟨o, h⟩
        · rw [hu] at h; cases h
          exact .inr ⟨od, upd_same⟩
        · rw [hu] at h; cases h
      · rcases h with h | ⟨o, h⟩
        · exact .inl (by rw [upd_ne hb]; exact h)
        · exact .inr ⟨o, by rw [upd_ne hb]; exact h⟩) z e (RpL.lock hu r)
theorem RpL.lock (hu : H a = some (.dK ks)) : ∀ {vs : List V} {ds : List D}, RpL K Z H vs ds → RpL K Z (upd H a (.frz od (.dK ks))) vs ds
  | _, _, .nil => .nil
  | _, _, .cons h r => .cons (Rp.lock hu h) (RpL.lock hu r)
end
mutual
theorem Rp.unlock (hu : H a = some (.frz od (.dK ks))) : ∀ {v : V} {d : D}, Rp K Z H v d → Rp K Z (upd H a (.dK ks)) v d
  | _, _, .non => .non
  | _, _, .bl b => .bl b
  | _, _, .int i => .int i
  | _, _, .str x => .str x
  | _, _, .tup (a := b) h r => .tup (by
      rcases h with (h | ⟨o, h⟩) | h
      · exact .inl (.inl (by rw [upd_ne (fun z => by rw [z, hu] at h; cases h)]; exact h))
      · exact .inl (.inr ⟨o, by rw [upd_ne (fun z => by rw [z, hu] at h; cases h)]; exact h⟩)
      · exact .inr h) (RpL.unlock hu r)
  | _, _, .lst h z r => .lst (by rw [upd_ne (fun e => by rw [e, hu] at h; cases h)]; exact h) z (RpL.unlock hu r)
  | _, _, .dic (a := b) h z e r => .dic (by
      by_cases hb : b = a
      · subst hb
        rcases h with h | ⟨o, h⟩
        · rw [hu] at h; cases h
        · rw [hu] at h; cases h
          exact .inl upd_same
      · rcases h with h | ⟨o, h⟩
        · exact .inl (by rw [upd_ne hb]; exact h)
        · exact .inr ⟨o, by rw [upd_ne hb]; exact h⟩) z e (RpL.unlock hu r)
theorem RpL.unlock (hu : H a = some (.frz od (.dK ks))) : ∀ {vs : List V} {ds : List D}, RpL K Z H vs ds → RpL K Z (upd H a (.dK ks)) vs ds
  | _, _, .nil => .nil
  | _, _, .cons h r => .cons (Rp.unlock hu h) (RpL.unlock hu r)
end
end
/-- the dict at slot i stands, locked -/
def Lk (σ : L2.St) (H : Hp) (ρ : Rho) (i : Nat) : Prop := ∃ (s : Slot) (ds : List (D × D)) (a : Addr) (od : Obj) (kvs : List (Key × V)), ρ[i]? = some (some s) ∧ s.val? = some (.dict ds) ∧ σ[i]? = some (some (.ref a)) ∧ H a = some (.frz od (.dK kvs)) ∧ ds.map (fun q => q.1) = kvs.map fun q => keyD q.1
theorem rp_key {K : PySem.W.Frag} {Z : Rg} {H : Hp} : ∀ k : Key, Rp K Z H (kV k) (keyD k)
  | .inl i => .int i
  | .inr x => .str x
theorem rd_keys {X : Cx} {W : WX} {p sc : Addr} {Z : Rg} {σ : L2.St} {H : Hp} {ρ : Rho} {q : Pool} {i : Nat} (s : Sit X.K p sc Z σ H ρ q) (lk : Lk σ H ρ i) (R : It → Hp → Prop)
    (hp : Post X.mg p sc H (WaF X.K p Z H) (fun c od H' => W c od σ H') R (iDk i ρ q)) : iKeys (tVar i) σ H R := by
  obtain ⟨sl, ds, a, od, kvs, h1, h2, h3, h4, h5⟩ := lk
  have e : iDk i ρ q = .ok (ds.map fun q => q.1) q := by
    unfold iDk dVar
    rw [h1]
    dsimp only
    rw [h2]
    rfl
  rw [e] at hp
  refine ⟨_, h3, a, od, rfl, .inl ⟨kvs, h4, hp _ H (Keep.refl _ _) s.pool fun H' st => ?_⟩⟩
  have ha := st.frz _ _ _ h4
  have hl : ds.length = kvs.length := by have := congrArg List.length h5; rw [List.length_map, List.length_map] at this; exact this
  refine ⟨fun j d hj => ?_, fun j hj => ⟨ha, by rw [List.length_map] at hj; omega⟩⟩
  have hjl : j < kvs.length := by
    have := (List.getElem?_eq_some_iff.mp hj).1
    rw [List.length_map] at this
    omega
  refine ⟨⟨ha, hjl⟩, fun x H'' y => ?_⟩
  obtain ⟨rfl, k, v, hk, rfl⟩ := y
  refine ⟨fun _ _ h => h, ?_⟩
  rw [h5, List.getElem?_map, hk] at hj
  cases hj
  exact rp_key k
/-- either as it stands, or locked -/
def tAny (t : TE) : TE := fun σ H Q => t σ H Q ∨ tLockE t σ H Q
theorem pe_any {X : Cx} {e : Expr} {t : TE} (h : PE X e t) : PE X e (tAny t) := ⟨fun pins s σ H Q I hw => hw.elim (h.run pins s σ H Q I) ((pe_lock h).run pins s σ H Q I)⟩
theorem rd_lock {X : Cx} {W : WX} {t : TE} {i : Nat} {F : DE} (hF : ∀ ρ q, (∀ s, ρ[i]? = some (some s) → ∀ ds, s.val? ≠ some (.dict ds)) ∨ ρ[i]? = none ∨ ρ[i]? = some none → F ρ q = .stuck) (hn : ∀ ρ q x q', F ρ q ≠ .err x q')
    (ht : ∀ (p sc : Addr) (Z : Rg) (σ : L2.St) (H : Hp) (ρ : Rho) (q : Pool) (Q : VK), Sit X.K p sc Z σ H ρ q → Lk σ H ρ i → Post X.mg p sc H (NewF X.K p Z H) (fun c od H' => W c od σ H') Q (F ρ q) → t σ H Q) :
    Rd1 X W (NewF X.K) (tAny t) F := by
  intro p sc Z σ H ρ q Q s hp
  cases e : ρ[i]? with
  | none => rw [hF ρ q (.inr (.inl e))] at hp; exact hp.elim
  | some o =>
    cases o with
    | none => rw [hF ρ q (.inr (.inr e))] at hp; exact hp.elim
    | some sl =>
      by_cases hd : ∃ ds, sl.val? = some (.dict ds)
      case neg =>
        rw [hF ρ q (.inl fun s' e' ds hs => hd ⟨ds, by rw [e] at e'; cases e'; exact hs⟩)] at hp
        exact hp.elim
      obtain ⟨ds, hd⟩ := hd
      have z := s.env i sl e
      rw [hd] at z
      obtain ⟨v, hσ, r⟩ := z
      cases r with
      | dic h hz hk hr =>
        rename_i a kvs
        rcases h with h | ⟨od, h⟩
        · refine .inr ⟨a, .dK kvs, h, trivial, fun od => ?_⟩
          have hap : a ≠ p := fun z => s.nz (z ▸ hz)
          have hasc : a ≠ sc := fun z => by rw [z, s.pool.2.1] at h; cases h
          have s1 : Sit X.K p sc Z σ (upd H a (.frz od (.dK kvs))) ρ q := by
            refine ⟨fun j s' hj => ?_, ⟨by rw [upd_ne (Ne.symm hap)]; exact s.pool.1, by rw [upd_ne (Ne.symm hasc)]; exact s.pool.2.1, s.pool.2.2⟩, s.nz, s.len⟩
            have z := s.env j s' hj
            cases ev : s'.val? with
            | none => rw [ev] at z; exact z
            | some d =>
              rw [ev] at z
              obtain ⟨v, z1, z2⟩ := z
              exact ⟨v, z1, z2.lock h⟩
          refine ht p sc Z σ _ ρ q _ s1 ⟨sl, ds, a, od, kvs, e, hd, hσ, upd_same, hk⟩ ?_
          cases eF : F ρ q with
          | stuck => rw [eF] at hp; exact hp.elim
          | err x q' => exact absurd eF (hn ρ q x q')
          | ok d q' =>
            rw [eF] at hp
            intro b H' k pl nf
            have hH' : H' a = some (.frz od (.dK kvs)) := k a _ hap upd_same
            refine ⟨hH', hp b (upd H' a (.dK kvs)) (fun c o hc ho => ?_) ⟨by rw [upd_ne (Ne.symm hap)]; exact pl.1, ?_, pl.2.2⟩ ?_⟩
            · by_cases hca : c = a
              · rw [hca, h] at ho
                cases ho
                rw [hca, upd_same]
              · rw [upd_ne hca]
                exact k c o hc (by rw [upd_ne hca]; exact ho)
            · rw [upd_ne (fun z => by rw [← z, pl.2.1] at hH'; cases hH')]
              exact pl.2.1
            · obtain ⟨c, vs, xs, e1, e2, n1, n2, n3⟩ := nf
              have hca : c ≠ a := fun z => by rw [z, upd_same] at n1; cases n1
              have n1' : H c = none := by rw [upd_ne hca] at n1; exact n1
              refine ⟨c, vs, xs, e1, e2, n1', by rw [upd_ne hca]; exact n2, (n3.sub fun b' zb nb => ⟨?_, zb.2⟩).unlock hH'⟩
              rcases zb.1 with zb | zb
              · exact .inl zb
              · by_cases hb : b' = a
                · rw [hb]; exact .inl hz
                · rw [upd_ne hb] at zb
                  exact .inr zb
        · exact .inl (ht p sc Z σ H ρ q Q s ⟨sl, ds, a, od, kvs, e, hd, hσ, h, hk⟩ hp)
section
variable {X : Cx} {W : WX} {tg elt iter : Expr} {pos : Pos}
theorem iDk_stuck {i : Nat} {own : List Nat} {g : Tgt} {T : DT} {F : DE} (ρ : Rho) (q : Pool) (h : (∀ s, ρ[i]? = some (some s) → ∀ ds, s.val? ≠ some (.dict ds)) ∨ ρ[i]? = none ∨ ρ[i]? = some none) : dComp own (iDk i) g T F ρ q = .stuck := by
  have e : iDk i ρ = M.stuck := by
    unfold iDk dVar
    rcases h with h | h | h
    · cases e : ρ[i]? with
      | none => rfl
      | some o =>
        cases o with
        | none => rfl
        | some s =>
          dsimp only
          cases ev : s.val? with
          | none => rfl
          | some d =>
            cases d with
            | dict ds => exact absurd ev (h s e ds)
            | _ => rfl
    · rw [h]; rfl
    · rw [h]; rfl
  unfold dComp
  rw [e]
  rfl
theorem iDk_noerr {i : Nat} {own : List Nat} {g : Tgt} {T : DT} {F : DE} (ρ : Rho) (q : Pool) (x : Exn) (q' : Pool) : dComp own (iDk i) g T F ρ q ≠ .err x q' := by
  unfold dComp
  have h1 : ∀ y q2, iDk i ρ q ≠ .err y q2 := fun y q2 => by
    unfold iDk dVar
    cases e : ρ[i]? with
    | none => intro z; cases z
    | some o =>
      cases o with
      | none => intro z; cases z
      | some s =>
        dsimp only
        cases ev : s.val? with
        | none => intro z; cases z
        | some d => cases d <;> (intro z; cases z)
  unfold M.bnd
  cases e : iDk i ρ q with
  | stuck => intro z; cases z
  | err y q2 => exact absurd e (h1 y q2)
  | ok xs q2 =>
    dsimp only
    split
    · unfold M.noerr
      intro z
      dsimp only at z
      cases hc : compGo (compTurn g T F (wipeR ρ own)) xs q2 with
      | ok a q3 => rw [hc] at z; cases z
      | err a q3 => rw [hc] at z; cases z
      | stuck => rw [hc] at z; cases z
    · intro z; cases z
theorem pdf_lcK0 {i : Nat} {x : Str} {px : Pos} {own : List (Str × Nat)} {is : List Nat} {ifs : List Expr} {scope : Scope} {g : Tgt} {T : DT} {F : DE} (hc : X.calm = true) (hN : X.N.Nodup) (ok : BlkOk X.N X.env.scope scope own) (his : ∀ i ∈ is, i ∈ own.map (·.2))
    (hg : ∀ (s : Shared) (H : Hp) (C : Addr) (cl : List (Str × Addr)) (fp : List Addr), PGd (X.blk s H scope (compEnvC scope cl C X.env) fp) is tg g) (ht : ∀ (s : Shared) (H : Hp) (C : Addr) (cl : List (Str × Addr)) (fp : List Addr), PTsd (X.blk s H scope (compEnvC scope cl C X.env) fp) W0 ifs T)
    (he : ∀ (s : Shared) (H : Hp) (C : Addr) (cl : List (Str × Addr)) (fp : List Addr), PDe (X.blk s H scope (compEnvC scope cl C X.env) fp) W0 elt F) (hgo : TgOk g) (hx : X.N[i]? = some x := by rfl)
    (hv : Vis X.env.scope x := by first | exact Or.inl rfl | exact Or.inr (Or.inl rfl) | exact Or.inr (Or.inr rfl)) (hd : (x == ("__debug__" : Str)) = false := by decide) (hcd : (x == ("__classdict__" : Str)) = false := by decide) (hs : ∀ y, foldedSetIterable (.Name x px) X.env y = pure y := by intro _; rfl) :
    PDf X W (.ListComp elt [⟨tg, .Name x px, ifs, 0⟩] scope pos) (dComp (own.map (·.2)) (iDk i) g T F) := by
  refine ⟨tAny (tLc (iKeys (tVar i)) (gF X.K is g) (tF X.K X.mg W0 BoF T) (tF X.K X.mg W0 (RpF X.K) F) (own.map (·.2))), pe_any (pe_lc hc hN (pi_keys (pe_var hx hv hd hcd)) ok (fun s H C cl fp => (hg s H C cl fp).run) (fun s H C cl fp => (ht s H C cl fp).run) (fun s H C cl fp => (he s H C cl fp).run) hs), rd_lock (fun ρ q h => iDk_stuck ρ q h) (fun ρ q x q' => iDk_noerr ρ q x q') fun p sc Z σ H ρ q Q s lk hp => ?_⟩
  exact rd_comp_at s (rd_keys s lk) his hgo hp
theorem pdf_lcK {i : Nat} {x : Str} {px : Pos} {own : List (Str × Nat)} {vs is : List Nat} {ifs : List Expr} {scope : Scope} {g : Tgt} {T : DT} {F : DE} (hc : X.calm = true) (hN : X.N.Nodup) (ok : BlkOk X.N X.env.scope scope own) (his : ∀ i ∈ is, i ∈ vs)
    (hg : ∀ (s : Shared) (H : Hp) (C : Addr) (cl : List (Str × Addr)) (fp : List Addr), PGd (X.blk s H scope (compEnvC scope cl C X.env) fp) is tg g) (ht : ∀ (s : Shared) (H : Hp) (C : Addr) (cl : List (Str × Addr)) (fp : List Addr), PTsd (X.blk s H scope (compEnvC scope cl C X.env) fp) W0 ifs T)
    (he : ∀ (s : Shared) (H : Hp) (C : Addr) (cl : List (Str × Addr)) (fp : List Addr), PDe (X.blk s H scope (compEnvC scope cl C X.env) fp) W0 elt F) (hgo : TgOk g) (hm : own.map (·.2) = vs := by rfl) (hx : X.N[i]? = some x := by rfl)
    (hv : Vis X.env.scope x := by first | exact Or.inl rfl | exact Or.inr (Or.inl rfl) | exact Or.inr (Or.inr rfl)) (hd : (x == ("__debug__" : Str)) = false := by decide) (hcd : (x == ("__classdict__" : Str)) = false := by decide) (hs : ∀ y, foldedSetIterable (.Name x px) X.env y = pure y := by intro _; rfl) :
    PDf X W (.ListComp elt [⟨tg, .Name x px, ifs, 0⟩] scope pos) (dComp vs (iDk i) g T F) := by
  subst hm
  exact pdf_lcK0 hc hN ok his hg ht he hgo hx hv hd hcd hs
end
/-! the plain side -/
theorem at_dk0 (ds : List (D × D)) (ρ : Rho) : iDk 0 (some (.dat (.dict ds)) :: ρ) = M.ret (ds.map fun q => q.1) := nr rfl
theorem at_dko (ds : List (D × D)) (ρ : Rho) : iDk 0 (some (.odic ds) :: ρ) = M.ret (ds.map fun q => q.1) := nr rfl
theorem at_dks (i : Nat) (s : Option Slot) (ρ : Rho) : iDk (i + 1) (s :: ρ) = iDk i ρ := nr rfl
end Ew
namespace Ew
open PySem PySem.Spec PyProof.Rows L2
/-! ## // and % by divisors of either sign -/
def oFdivN (x y : D) : M D := match x, y with
  | .int i, .int j => if j ≠ 0 ∧ j.natAbs < 2 ^ 2000 then M.ret (.int (i.fdiv j)) else M.stuck
  | _, _ => M.stuck
def oModN (x y : D) : M D := match x, y with
  | .int i, .int j => if j ≠ 0 then M.ret (.int (i.fmod j)) else M.stuck
  | _, _ => M.stuck
section
variable {X : Cx} {W : WX}
theorem op_fdivWN : OpR X (binaryOp .FloorDiv) (rI (fun _ j => j ≠ 0 ∧ j.natAbs.log2 < 9000) fun i j => .int (i.fdiv j)) := opI fun _ _ _ _ _ _ _ hc q => floordiv_int hc.1 q (.inl (PyProof.noPylong_of_log2 hc.2))
theorem opd_fdivN : OpD X W (binaryOp .FloorDiv) oFdivN := by
  refine ⟨_, op_fdivWN, op2_ints (fun i j H Q => .inr fun q => ?_) fun dx dy q h => by cases dx <;> cases dy <;> first | rfl | exact absurd rfl (h _ _ rfl)⟩
  by_cases hb : j ≠ 0 ∧ j.natAbs < 2 ^ 2000
  · exact .inr ⟨.int (i.fdiv j), .int (i.fdiv j), by unfold oFdivN; dsimp only; rw [if_pos hb]; rfl, fun _ _ => .int _, fun h => ⟨i, j, rfl, rfl, ⟨hb.1, Nat.lt_of_lt_of_le (PySem.Flt.log2_lt_of (by decide) hb.2) (by decide)⟩, h⟩⟩
  · exact .inl (by unfold oFdivN; dsimp only; rw [if_neg hb]; rfl)
theorem opd_modN : OpD X W (binaryOp .Mod) oModN := by
  refine ⟨_, op_modN, op2_ints (fun i j H Q => .inr fun q => ?_) fun dx dy q h => by cases dx <;> cases dy <;> first | rfl | exact absurd rfl (h _ _ rfl)⟩
  by_cases hb : j ≠ 0
  · exact .inr ⟨.int (i.fmod j), .int (i.fmod j), by unfold oModN; dsimp only; rw [if_pos hb]; rfl, fun _ _ => .int _, fun h => ⟨i, j, rfl, rfl, hb, h⟩⟩
  · exact .inl (by unfold oModN; dsimp only; rw [if_neg hb]; rfl)
theorem fdivN_ok {i j : Int} (h : j ≠ 0) (h2 : j.natAbs < 2 ^ 2000) : oFdivN (.int i) (.int j) = M.ret (.int (i.fdiv j)) := by
  unfold oFdivN
  dsimp only
  rw [if_pos ⟨h, h2⟩]
theorem modN_ok {i j : Int} (h : j ≠ 0) : oModN (.int i) (.int j) = M.ret (.int (i.fmod j)) := by
  unfold oModN
  dsimp only
  rw [if_pos h]
end
end Ew
namespace Ew
open PySem PySem.Spec PyProof.Rows L2
/-! ## Texts: str(i), f-strings, 'x'.join(texts) -/
def textI (i : Int) : Str := Str.ofString (toString i)
def bStr (x : D) : M D := match x with
  | .int i => if bits i < 1920 then M.ret (.str (textI i)) else M.stuck
  | _ => M.stuck
/-- {x} -/
def uFmt (x : D) : M D := match x with
  | .int i => if bits i < 1920 then M.ret (.str (textI i)) else M.stuck
  | .str y => if y.length ≤ lineMax then M.ret (.str y) else M.stuck
  | _ => M.stuck
/-- f'..' of two parts or more -/
def dJs : List DE → Str → Rho → M D
  | [], acc, _ => M.ret (.str acc)
  | e :: es, acc, ρ => M.bnd (e ρ) fun x => match x with
    | .str y => if (acc ++ y).length ≤ lineMax then dJs es (acc ++ y) ρ else M.stuck
    | _ => M.stuck
def dFst (es : List DE) : DE := dJs es Str.empty
/-- all items are texts -/
def strs? : List D → Option (List Str)
  | [] => some []
  | .str i :: r => (strs? r).map (i :: ·)
  | _ :: _ => none
def joinOk (a : Str) (ys : List Str) : Prop := (ys.map (·.length)).sum + ys.length * a.length ≤ 16777216
instance (a : Str) (ys : List Str) : Decidable (joinOk a ys) := by unfold joinOk; infer_instance
/-- a.join(x) -/
def oJoin (a : Str) (x : D) : M D := match x with
  | .list ds => (match strs? ds with
    | some ys => if joinOk a ys then M.ret (.str (Txt.join a ys)) else M.stuck
    | none => M.stuck)
  | .tuple ds => (match strs? ds with
    | some ys => if joinOk a ys then M.ret (.str (Txt.join a ys)) else M.stuck
    | none => M.stuck)
  | _ => M.stuck
theorem strs_rp {K : PySem.W.Frag} {Z : Rg} {H : Hp} : ∀ {vs : List V} {ds : List D} {ns : List Str}, RpL K Z H vs ds → strs? ds = some ns → vs = ns.map V.str ∧ ds = ns.map PyData.str
  | _, _, ns, .nil, h => by
    cases h
    exact ⟨rfl, rfl⟩
  | _, _, ns, .cons r rs, h => by
    cases r with
    | str i =>
      unfold strs? at h
      rename_i vs ds
      cases e : strs? ds with
      | none => rw [e] at h; cases h
      | some ms =>
        rw [e] at h
        cases h
        obtain ⟨e1, e2⟩ := strs_rp rs e
        rw [e1, e2]
        exact ⟨rfl, rfl⟩
    | _ => cases h
theorem strs?_map : ∀ xs : List Str, strs? (xs.map PyData.str) = some xs
  | [] => rfl
  | x :: xs => by
    rw [List.map_cons]
    unfold strs?
    rw [strs?_map xs]
    rfl
section
variable {X : Cx} {W : WX} {a e : Expr} {A : DE} {p1 p2 pos pos' apos : Pos}
theorem pd_str1 (hg : Gl X "str") (hm : X.mg "str" = none) (ha : PDe X W a A) (he : starEach [a] X.env = (false, eval a X.env) :: starEach [] X.env := by rfl) (hpl : (backTo pos (starEach [] X.env)).any (·.1) = false := by rfl) : PDe X W (.Call (.Name "str" p1) [a] [] pos) (dUn bStr A) :=
  pd_t1 call_str_int (fun p sc Z σ H q x dx Q pl nz hx hp => by
    cases hx with
    | int i =>
      unfold bStr at hp
      dsimp only at hp
      by_cases hb : bits i < 1920
      · rw [if_pos hb] at hp
        exact ⟨i, rfl, hb, hp _ H (Keep.refl _ _) pl (.str _)⟩
      · rw [if_neg hb] at hp; exact hp.elim
    | _ => exact hp.elim) hg hm boot_strT ha (by decide) (by decide) he hpl
theorem pd_fmt (ha : PDe X W e A) : PDe X W (.FormattedValue e (-1) none pos) (dUn uFmt A) := by
  obtain ⟨t, h1, h2⟩ := ha
  refine ⟨_, pe_fmt h1, rd_1 (X := X) (W := W) (r := fun x H Q => (∃ y : Str, x = .str y ∧ y.length ≤ sizeLine ∧ Q (.str y) H) ∨ ∃ i : Int, x = .int i ∧ i.natAbs.log2 < 1920 ∧ Q (.str (toString i)) H) sh_rp (fun p sc Z σ H q x dx Q pl nz hx hp => ?_) h2⟩
  cases hx with
  | int i =>
    unfold uFmt at hp
    dsimp only at hp
    by_cases hb : bits i < 1920
    · rw [if_pos hb] at hp
      exact .inr ⟨i, rfl, hb, hp _ H (Keep.refl _ _) pl (.str _)⟩
    · rw [if_neg hb] at hp; exact hp.elim
  | str y =>
    unfold uFmt at hp
    dsimp only at hp
    by_cases hb : y.length ≤ lineMax
    · rw [if_pos hb] at hp
      exact .inl ⟨y, rfl, hb, hp _ H (Keep.refl _ _) pl (.str _)⟩
    · rw [if_neg hb] at hp; exact hp.elim
  | _ => exact hp.elim
/-- the parts -/
def PDj (X : Cx) (W : WX) (es : List Expr) (As : List DE) : Prop := ∃ ts, PJ X es ts ∧ ∀ acc, Rd1 X W (RpF X.K) (fun σ H Q => tJs ts acc σ H fun out H1 => Q (.str out) H1) (dJs As acc)
theorem pdj_nil : PDj X W [] [] := ⟨[], .nil, fun acc p sc Z σ H ρ q Q s hp => hp _ H (Keep.refl _ _) s.pool (.str _)⟩
theorem pdj_cons {es : List Expr} {As : List DE} (ha : PDe X W e A) (hr : PDj X W es As) : PDj X W (e :: es) (A :: As) := by
  obtain ⟨t, h1, h2⟩ := ha
  obtain ⟨ts, g1, g2⟩ := hr
  refine ⟨t :: ts, .cons h1 g1, fun acc => ?_⟩
  refine rd_bnd (ValA := fun _ Z H v d => Rp X.K Z H v d) (f := fun ρ x => match x with
    | .str y => if (acc ++ y).length ≤ lineMax then dJs As (acc ++ y) ρ else M.stuck
    | _ => M.stuck) (k := fun x σ H Q => ∃ y : Str, x = .str y ∧ (acc ++ y).length ≤ sizeLine ∧ tJs ts (acc ++ y) σ H fun out H1 => Q (.str out) H1) sh_rp (fun _ _ _ _ _ _ h => h) h2 fun p sc Z σ H ρ q x dx Q s hv hp => ?_
  cases hv with
  | str y =>
    dsimp only at hp
    by_cases hb : (acc ++ y).length ≤ lineMax
    · rw [if_pos hb] at hp
      exact ⟨y, rfl, hb, g2 _ p sc Z σ H ρ q Q s hp⟩
    · rw [if_neg hb] at hp; exact hp.elim
  | _ => exact hp.elim
theorem pd_fst {v1 v2 : Expr} {rest : List Expr} {As : List DE} (h : PDj X W (v1 :: v2 :: rest) As) : PDe X W (.JoinedStr (v1 :: v2 :: rest) pos) (dFst As) := by
  obtain ⟨ts, h1, h2⟩ := h
  exact ⟨_, pe_joined h1, h2 Str.empty⟩
/-- 'x'.join(e) -/
theorem pd_join {b : Str} {j} (he : PDe X W e A) (hs : starEach [e] X.env = [(false, eval e X.env)] := by rfl) (hbase : attributeBase (.Constant (.str b) j p1) "join" X.env (eval (.Constant (.str b) j p1) X.env) = eval (.Constant (.str b) j p1) X.env := by rfl) (hline : (apos.endLine == pos.line) = true := by rfl) :
    PDe X W (.Call (.Attribute (.Constant (.str b) j p1) "join" apos) [e] [] pos) (dUn (oJoin b) A) := by
  obtain ⟨t, h1, h2⟩ := he
  refine ⟨_, pe_join pe_str h1 hs hbase hline, ?_⟩
  have key := rd_1 (X := X) (W := W) (Rel := RpF X.K) (A := A) (f := oJoin b) (r := fun y H Q => ∃ a p, ∃ ys : List Str, V.str b = .str a ∧ [y] = [.ref p] ∧ (SqL X.K H p (ys.map V.str) ∨ SqT X.K H p (ys.map V.str)) ∧ (ys.map (·.length)).sum + ys.length * a.length ≤ 16777216 ∧ Q (V.str (Txt.join a ys)) H) sh_rp (fun p sc Z σ H q x dx Q pl nz hx hp => ?_) h2
  · exact fun p sc Z σ H ρ q Q s hp => ⟨⟨b, rfl⟩, key p sc Z σ H ρ q Q s hp⟩
  cases hx with
  | lst ha z rs =>
    unfold oJoin at hp
    dsimp only at hp
    rename_i a vs ds
    cases e1 : strs? ds with
    | none => rw [e1] at hp; exact hp.elim
    | some ys =>
      rw [e1] at hp
      obtain ⟨rfl, rfl⟩ := strs_rp rs e1
      dsimp only at hp
      by_cases hb : joinOk b ys
      · rw [if_pos hb] at hp
        exact ⟨b, a, ys, rfl, rfl, .inl (.inl (.inl ha)), hb, hp _ H (Keep.refl _ _) pl (.str _)⟩
      · rw [if_neg hb] at hp; exact hp.elim
  | tup ha rs =>
    unfold oJoin at hp
    dsimp only at hp
    rename_i a vs ds
    cases e1 : strs? ds with
    | none => rw [e1] at hp; exact hp.elim
    | some ys =>
      rw [e1] at hp
      obtain ⟨rfl, rfl⟩ := strs_rp rs e1
      dsimp only at hp
      by_cases hb : joinOk b ys
      · rw [if_pos hb] at hp
        exact ⟨b, a, ys, rfl, rfl, .inr ha, hb, hp _ H (Keep.refl _ _) pl (.str _)⟩
      · rw [if_neg hb] at hp; exact hp.elim
  | _ => exact hp.elim
end
/-! ### the plain side -/
theorem str_i {i : Int} (h : bits i < 1920) : bStr (.int i) = M.ret (.str (textI i)) := if_pos h
theorem fmt_i {i : Int} (h : bits i < 1920) : uFmt (.int i) = M.ret (.str (textI i)) := if_pos h
theorem fmt_s {y : Str} (h : y.length ≤ lineMax) : uFmt (.str y) = M.ret (.str y) := if_pos h
theorem at_fst (es : List DE) (ρ : Rho) : dFst es ρ = dJs es Str.empty ρ := nr rfl
theorem at_js0 (acc : Str) (ρ : Rho) : dJs [] acc ρ = M.ret (.str acc) := nr rfl
theorem at_jss {e : DE} {es : List DE} {acc y : Str} {ρ : Rho} (h : e ρ = M.ret (.str y)) (hl : (acc ++ y).length ≤ lineMax) : dJs (e :: es) acc ρ = dJs es (acc ++ y) ρ := by
  have e1 : dJs (e :: es) acc ρ = M.bnd (e ρ) fun x => match x with
    | .str y => if (acc ++ y).length ≤ lineMax then dJs es (acc ++ y) ρ else M.stuck
    | _ => M.stuck := rfl
  rw [e1, h, bnd_ret]
  dsimp only
  rw [if_pos hl]
theorem join_l {a : Str} {ys : List Str} (h : joinOk a ys) : oJoin a (.list (ys.map .str)) = M.ret (.str (Txt.join a ys)) := by
  unfold oJoin
  dsimp only
  rw [strs?_map]
  exact if_pos h
theorem join_len (a : Str) (ys : List Str) : (Txt.join a ys).length ≤ (ys.map (·.length)).sum + ys.length * a.length := by
  have e : (Txt.join a ys).length = (ys.map (·.length)).sum + (ys.length - 1) * a.length := size_glued a ys
  rw [e]
  exact Nat.add_le_add_left (Nat.mul_le_mul_right _ (Nat.sub_le _ _)) _
theorem text_len {i : Int} (h : bits i < 1920) : (textI i).length ≤ 1921 := int_text_len_1921 h
end Ew
namespace Ew
open PySem PySem.Spec PyProof.Rows L2
/-! ## > of tuples -/
def oGtD (x y : D) : M D := match x, y with
  | .tuple xs, .tuple ys => if PySem.W.alike (.tuple xs) (.tuple ys) = true ∧ (PyData.tuple xs).depth < deep then M.ret (.bool (PySem.W.dataLt (.tuple ys) (.tuple xs))) else M.stuck
  | _, _ => M.stuck
section
variable {X : Cx} {W : WX}
def rGtD (K : PySem.W.Frag) : R2 := fun x y H Q => ∃ (Z : Rg) (dx dy : D), Rp K Z H x dx ∧ Rp K Z H y dy ∧ PySem.W.alike dx dy = true ∧ dx ≠ .none ∧ dx.depth < deep ∧ Q (.bl (PySem.W.dataLt dy dx)) H
theorem op_gtD (hu : X.A.units + deep < cLine) : OpR X (compareOp .Gt) (rGtD X.K) := by
  intro pins s σ H x y v u Q I rx ry h
  obtain ⟨Z, dx, dy, r1, r2, ha, hn, hd, q⟩ := h
  obtain ⟨as, q1⟩ := r1.reads I _ rx
  obtain ⟨bs, q2⟩ := r2.reads I _ ry
  exact PySem.W.gt_data q1 q2 ha hn (by have := Nat.min_le_left dx.depth dy.depth; omega) ⟨.bl _, H, I, rfl, q⟩
theorem opd_gtD (hu : X.A.units + deep < cLine) : OpD X W (compareOp .Gt) oGtD := by
  refine ⟨_, op_gtD hu, fun p sc Z σ H q x y dx dy Q pl nz hx hy hp => ?_⟩
  unfold oGtD at hp
  cases dx with
  | tuple xs =>
    cases dy with
    | tuple ys =>
      dsimp only at hp
      by_cases hc : PySem.W.alike (.tuple xs) (.tuple ys) = true ∧ (PyData.tuple xs).depth < deep
      · rw [if_pos hc] at hp
        exact ⟨Z, _, _, hx, hy, hc.1, (fun e => nomatch e), hc.2, hp _ H (Keep.refl _ _) pl (.bl _)⟩
      · rw [if_neg hc] at hp; exact hp.elim
    | _ => exact hp.elim
  | _ => exact hp.elim
end
end Ew
namespace Ew
open PySem PySem.Spec PyProof.Rows L2
/-! ## zip of a tuple with a list -/
def zipM2 (x y : D) : M (List D) := match x, y with
  | .tuple xs, .list ys => M.ret (zipD xs ys)
  | _, _ => M.stuck
def iZm (a b : DE) : DI := fun ρ => M.bnd (a ρ) fun x => M.bnd (b ρ) fun y => zipM2 x y
/-- pairs of a tuple's and a list's items, as both stand at each turn -/
def ItzM (K : PySem.W.Frag) (a b : Addr) : It where
  go i H := ∃ (xs ys : List V) (x y : V), SqT K H a xs ∧ SqL K H b ys ∧ xs[i]? = some x ∧ ys[i]? = some y
  yld i H v H' := ∃ T x y, v = .ref T ∧ H T = none ∧ H' = upd H T (.tup [x, y]) ∧ (∀ xs, SqT K H a xs → xs[i]? = some x) ∧ ∀ ys, SqL K H b ys → ys[i]? = some y
  stop i H := ∃ xs ys : List V, SqT K H a xs ∧ SqL K H b ys ∧ (xs.length ≤ i ∨ ys.length ≤ i)
theorem of_five {c z p q r t : Addr} (h : c ∈ [z, p, q, r, t]) : c = z ∨ c = p ∨ c = q ∨ c = r ∨ c = t := by simpa using h
theorem not_five {c z p q r t : Addr} (h : c ∉ [z, p, q, r, t]) : c ≠ z ∧ c ≠ q ∧ c ≠ r ∧ c ≠ t := ⟨fun e => h (by simp [e]), fun e => h (by simp [e]), fun e => h (by simp [e]), fun e => h (by simp [e])⟩
theorem sep_of {z TI TO i1 i2 a b : Addr} (D : ZipApart z TI TO i1 i2 a b) : ZipSep2 z TI TO i1 i2 [i1, a] [i2, b] where
  TIz := D.TIz
  TOz := D.TOz
  TITO := D.TITO
  TIi1 := D.TIi1
  mem1 := List.mem_cons_self
  zf1 := by simp [D.i1z.symm, D.l1z.symm]
  Tf1 := by simp [D.TOi1, D.l1TO.symm]
  TIi2 := D.TIi2
  mem2 := List.mem_cons_self
  zf2 := by simp [D.i2z.symm, D.l2z.symm]
  Tf2 := by simp [D.TOi2, D.l2TO.symm]
  sep1_2 := by simp [D.i12, D.l2i1.symm]
  sep2_1 := by simp [D.i12.symm, D.l1i2.symm]
/-- a zip under way, at turn i -/
structure ZmAt (z TI TO i1 i2 a b : Addr) (i : Nat) (h : Heap) : Prop where
  zip : IsZip h z TI TO .none
  its : IsTupOf2 h TI (.ref i1) (.ref i2)
  out : ∃ x y, IsTupOf2 h TO x y
  fst : h.IsTupleIter i1 a i
  snd : h.IsListIter i2 b i
theorem ZmAt.has {z TI TO i1 i2 a b c : Addr} {i : Nat} {h : Heap} (x : ZmAt z TI TO i1 i2 a b i h) (hc : c ∈ [z, TI, TO, i1, i2]) : ∃ o, h.get? c = some o ∧ ∀ vs n, o.data ≠ .seq vs n ∨ o.cls = .type "tuple" := by
  obtain ⟨p, q, ⟨u, v, r⟩, ⟨o1, e1, _, d1⟩, ⟨o2, e2, _, d2⟩⟩ := x
  rcases of_five hc with rfl | rfl | rfl | rfl | rfl
  · exact ⟨_, p, fun _ _ => .inl fun e => nomatch e⟩
  · exact ⟨_, q, fun _ _ => .inr rfl⟩
  · exact ⟨_, r, fun _ _ => .inr rfl⟩
  · exact ⟨o1, e1, fun _ _ => .inl fun e => by rw [d1] at e; cases e⟩
  · exact ⟨o2, e2, fun _ _ => .inl fun e => by rw [d2] at e; cases e⟩
/-- an iterator that has nothing more -/
theorem spent_tup {prog : Program} {w : World} {A : Around} (hh : A.handled = none) {it l : Addr} {items : Array Value} {i : Nat} (hi : items.size ≤ i) : Draws prog w A it [it, l] i (fun _ _ => True) (fun j h => j = i ∧ h.IsTupleIter it l i ∧ h.IsTuple l items) where
  live := fun _ _ st => ⟨_, st.2.1.choose_spec.1⟩
  frame := fun _ _ _ st k => ⟨st.1, st.2.1.at fun o e => k _ (by simp) o e, st.2.2.at fun o e => k _ (by simp) o e⟩
  item := fun j s Q E hj st _ => absurd st.1 (Nat.ne_of_lt hj)
  done := fun s Q E st hE => PySem.wpAny_nextOf_tuple_end hh st.2.1 st.2.2 (Array.getElem?_eq_none hi) hE
theorem spent_lst {prog : Program} {w : World} {A : Around} (hh : A.handled = none) {it l : Addr} {items : Array Value} {i : Nat} (hi : items.size ≤ i) : Draws prog w A it [it, l] i (fun _ _ => True) (fun j h => j = i ∧ h.IsListIter it l i ∧ h.IsList l items) where
  live := fun _ _ st => ⟨_, st.2.1.choose_spec.1⟩
  frame := fun _ _ _ st k => ⟨st.1, st.2.1.at fun o e => k _ (by simp) o e, st.2.2.at fun o e => k _ (by simp) o e⟩
  item := fun j s Q E hj st _ => absurd st.1 (Nat.ne_of_lt hj)
  done := fun s Q E st hE => wpAny_nextOf_list_end hh st.2.1 st.2.2 (Array.getElem?_eq_none hi) hE
theorem turn_zipM {P : Program} {w : World} {K : PySem.W.Frag} {elts : List Expr} {kk : Nat} {tpos : Pos} {a b z TI TO i1 i2 : Addr} (D : ZipApart z TI TO i1 i2 a b) : Turn P w K (.Tuple elts kk tpos) (ItzM K a b) [z, TI, TO, i1, i2] z (ZmAt z TI TO i1 i2 a b) where
  mem := List.mem_cons_self
  obj := fun i h st c hc => by
    obtain ⟨p, q, ⟨u, v, r⟩, ⟨o1, e1, _, d1⟩, ⟨o2, e2, _, d2⟩⟩ := st
    rcases of_five hc with rfl | rfl | rfl | rfl | rfl
    · exact ⟨_, p, fun _ e => nomatch e⟩
    · exact ⟨_, q, fun _ e => nomatch e⟩
    · exact ⟨_, r, fun _ e => nomatch e⟩
    · exact ⟨o1, e1, fun _ e => by rw [d1] at e; cases e⟩
    · exact ⟨o2, e2, fun _ e => by rw [d2] at e; cases e⟩
  keep := fun i h h' st k => by
    obtain ⟨p, q, ⟨u, v, r⟩, f1, f2⟩ := st
    exact ⟨k _ (by simp) _ p, k _ (by simp) _ q, ⟨u, v, k _ (by simp) _ r⟩, f1.at fun o e => k _ (by simp) o e, f2.at fun o e => k _ (by simp) o e⟩
  item := by
    intro X hP hw hK hc i pins s σ H E I hf st hg
    cases hP
    cases hw
    cases hK
    obtain ⟨p, q, ⟨u0, v0, r⟩, f1, f2⟩ := st
    obtain ⟨xs, ys, x, y, sx, sy, ex, ey⟩ := hg
    obtain ⟨la, ra, pa, _⟩ := I.tuple sx
    obtain ⟨lb, rb, pb, _⟩ := I.list sy
    have il : i < la.toArray.size := by
      have := (List.getElem?_eq_some_iff.mp ex).1
      have := ra.length
      simp only [List.size_toArray]
      omega
    have ir : i < lb.toArray.size := by
      have := (List.getElem?_eq_some_iff.mp ey).1
      have := rb.length
      simp only [List.size_toArray]
      omega
    have zl : z < s.heap.objs.size := Heap.lt_size p
    have hd : X.A.in1.handled = none := I.ok.hd hc
    refine wpAny_pyNext_zipD2_item (sep_of D) (Draws.tuple hd i1 a D.l1i1 la.toArray) (Draws.list hd i2 b D.l2i2 lb.toArray) p q r ⟨f1, pa⟩ ⟨f2, pb.isList⟩ il ir fun x1 x2 g tk m1 m2 z1 t1 s1 s2 nt ns up => ?_
    obtain ⟨u, hu, ru⟩ := ra.get ex
    obtain ⟨v, hv, rv⟩ := rb.get ey
    have k1 : x1 = u := by
      have m1' : la.toArray[i]? = some x1 := m1
      rw [List.getElem?_toArray] at m1'
      exact Option.some.inj (m1'.symm.trans hu)
    have k2 : x2 = v := by
      have m2' : lb.toArray[i]? = some x2 := m2
      rw [List.getElem?_toArray] at m2'
      exact Option.some.inj (m2'.symm.trans hv)
    subst k1
    subst k2
    refine ⟨_, rfl, wpAny_letOwnedTupleGo_zip (s := { s with heap := g, toks := tk }) z1 fun g2 z2 sb => ?_⟩
    have tn : g2.get? s.heap.objs.size = some { cls := .type "tuple", data := .seq #[x1, x2] } := (sb.2 _ (Nat.ne_of_gt zl)).trans nt
    have made : ObjOk X.prog X.w (upd H s.heap.objs.size (.tup [x, y])) g2 s.heap.objs.size (.tup [x, y]) := ⟨show 2 ≤ sizeLine by decide, [x1, x2], .cons ru (.cons rv .nil), _, tn, rfl, _, rfl⟩
    have stays : ∀ c o, c ∉ [z, TI, TO, i1, i2] → s.heap.get? c = some o → g2.get? c = some o := fun c o hn e => by
      obtain ⟨n1, n2, n3, n4⟩ := not_five hn
      exact (sb.2 c n1).trans (up c o n1 n2 n3 n4 e)
    have J : Inv X pins σ (upd H s.heap.objs.size (.tup [x, y])) { s with heap := g2, toks := tk } := I.turnedNew (t' := tk) (ch := [z, TI, TO, i1, i2]) stays hf (Nat.le_refl _) made
    refine ⟨.ref s.heap.objs.size, _, J, rfl, ⟨_, x, y, rfl, I.hok.fresh (Nat.le_refl _), rfl, fun l hl => by rw [I.tuple_inj hl sx, ex], fun l hl => by rw [I.list_inj hl sy, ey]⟩, ⟨z2, (sb.2 _ D.TIz).trans (up _ _ D.TIz D.TITO D.TIi1 D.TIi2 q), ⟨x1, x2, (sb.2 _ D.TOz).trans t1⟩, s1.1.at fun o e => (sb.2 _ D.i1z).trans e, s2.1.at fun o e => (sb.2 _ D.i2z).trans e⟩, fun c hm => ?_⟩
    obtain ⟨o, ho, _⟩ := ZmAt.has ⟨p, q, ⟨u0, v0, r⟩, f1, f2⟩ hm
    rw [upd_ne (Nat.ne_of_lt (Heap.lt_size ho))]
    exact (hf c hm).1
  done := by
    intro X hP hw hK hc i pins s σ H E I hf st hg
    cases hP
    cases hw
    cases hK
    obtain ⟨p, q, ⟨u0, v0, r⟩, f1, f2⟩ := st
    obtain ⟨xs, ys, sx, sy, he⟩ := hg
    obtain ⟨la, ra, pa, _⟩ := I.tuple sx
    obtain ⟨lb, rb, pb, _⟩ := I.list sy
    have na : la.toArray.size = xs.length := by rw [List.size_toArray, ra.length]
    have nb : lb.toArray.size = ys.length := by rw [List.size_toArray, rb.length]
    have hd : X.A.in1.handled = none := I.ok.hd hc
    have out : ∀ (h' : Heap) (tk : Tok), (∀ c o, c ≠ z → c ≠ TO → c ≠ i1 → c ≠ i2 → s.heap.get? c = some o → h'.get? c = some o) → (none : Option Value) = none ∧ Inv X pins σ H { s with heap := h', toks := tk } := fun h' tk up => ⟨rfl, I.turnedL (t' := tk) (ch := [z, TI, TO, i1, i2]) (fun c o hn e => by
      obtain ⟨n1, n2, n3, n4⟩ := not_five hn
      exact up c o n1 n2 n3 n4 e) hf⟩
    by_cases h1 : xs.length ≤ i
    · by_cases h2 : ys.length ≤ i
      · exact wpAny_pyNext_zipD2_end (sep_of D) (spent_tup hd (by omega)) (spent_lst hd (by omega)) p q r ⟨rfl, f1, pa⟩ ⟨rfl, f2, pb.isList⟩ (Nat.le_refl _) (Nat.le_refl _) (.inl rfl) out
      · exact wpAny_pyNext_zipD2_end (sep_of D) (spent_tup hd (by omega)) (Draws.list hd i2 b D.l2i2 lb.toArray) p q r ⟨rfl, f1, pa⟩ ⟨f2, pb.isList⟩ (Nat.le_refl _) (by omega) (.inl rfl) out
    · have h2 : ys.length ≤ i := he.resolve_left h1
      exact wpAny_pyNext_zipD2_end (sep_of D) (Draws.tuple hd i1 a D.l1i1 la.toArray) (spent_lst hd (by omega)) p q r ⟨f1, pa⟩ ⟨rfl, f2, pb.isList⟩ (by omega) (Nat.le_refl _) (.inr rfl) out
  self := fun A i s Q E st h => wpAny_pyIter_zip st.zip h
def iZipM (K : PySem.W.Frag) (ta : TA) : TI := fun σ H R => ta σ H fun vs H1 => ∃ a b xs ys, vs = [.ref a, .ref b] ∧ SqT K H1 a xs ∧ SqL K H1 b ys ∧ R (ItzM K a b) H1
theorem pi_zipM {X : Cx} {e e2 : Expr} {ta : TA} {p pos tpos : Pos} {elts : List Expr} {kk : Nat} (hg : Gl X "zip") (hm : X.mg "zip" = none) (ha : PA X [e, e2] ta)
    (hs : starEach [e, e2] X.env = (false, eval e X.env) :: starEach [e2] X.env := by rfl) (hpl : (backTo pos (starEach [e2] X.env)).any (·.1) = false := by rfl) : PI X (.Tuple elts kk tpos) (.Call (.Name "zip" p) [e, e2] [] pos) (iZipM X.K ta) := by
  refine ⟨fun pins s σ H R I h => Call_ (ld_blt I hg hm PyProof.Rows.boot_zip (PyProof.Rows.callWith_type1 (thn (ha.run pos pins s σ H _ I h) fun us s1 ⟨vs, H1, J, rel, q⟩ => ?_) hs hpl))⟩
  obtain ⟨a, b, xs, ys, rfl, sx, sy, q⟩ := q
  obtain ⟨u, v, rfl, ru, rv⟩ : ∃ u v, us = [u, v] ∧ RelV (.ref a) u ∧ RelV (.ref b) v := by
    cases rel with
    | cons h1 t1 =>
      cases t1 with
      | cons h2 t2 =>
        cases t2
        exact ⟨_, _, rfl, h1, h2⟩
  cases ru
  cases rv
  obtain ⟨la, ra, pa, _⟩ := J.tuple sx
  obtain ⟨lb, rb, pb, _⟩ := J.list sy
  obtain ⟨oa, ea, _⟩ := id pa
  refine zip_begins2 (begins_tuple a la.toArray) (begins_list b lb.toArray) pa pb.isList fun h' c1 c2 c3 g1 g2 _ old => wpAny_pyIter_zip c1 ?_
  refine ⟨s1.heap.objs.size + 4, [s1.heap.objs.size + 4, s1.heap.objs.size + 2, s1.heap.objs.size + 3, s1.heap.objs.size, s1.heap.objs.size + 1], _, _, H1, rfl, J.kept (t' := s1.toks) old, turn_zipM (PySem.W.ktu_apart s1.heap.objs.size a b (Heap.lt_size ea) pb.lt), ⟨c1, c2, ⟨_, _, c3⟩, ⟨_, g1, rfl, rfl⟩, ⟨_, g2, rfl, rfl⟩⟩, fun c hc => ?_, q⟩
  have le : s1.heap.objs.size ≤ c := by
    rcases of_five hc with e | e | e | e | e <;> rw [e] <;> first | exact Nat.le_refl _ | exact Nat.le_add_right _ _
  exact J.fpOk le (J.hok.fresh le)
section
variable {X : Cx} {W : WX} {a b : Expr} {A B : DE} {pos pos' : Pos}
theorem pid_zipM {elts : List Expr} {kk : Nat} {tpos : Pos} (hg : Gl X "zip") (hm : X.mg "zip" = none) (ha : PDe X W a A) (hb : PDe X W b B) (hs : starEach [a, b] X.env = (false, eval a X.env) :: starEach [b] X.env := by rfl) (hs2 : starEach [b] X.env = (false, eval b X.env) :: starEach [] X.env := by rfl)
    (hpl : (backTo pos (starEach [b] X.env)).any (·.1) = false := by rfl) : PId X W (.Tuple elts kk tpos) (.Call (.Name "zip" pos') [a, b] [] pos) (iZm A B) := by
  obtain ⟨t, h1, h2⟩ := ha
  obtain ⟨u, g1, g2⟩ := hb
  refine ⟨_, pi_zipM hg hm (pa_cons h1 (pa_cons g1 pa_nil hs2) hs) hs hpl, ?_⟩
  refine rd_2 (X := X) (W := W) (Rel := WaF X.K) (r := fun x y H R => ∃ a b xs ys, [x, y] = [V.ref a, V.ref b] ∧ SqT X.K H a xs ∧ SqL X.K H b ys ∧ R (ItzM X.K a b) H) sh_wa (fun p sc Z σ H q x y dx dy Q pl nz hx hy hp => ?_) h2 g2
  cases hx with
  | tup h1 r1 =>
    rename_i a xs ds
    cases hy with
    | lst h2 z2 r2 =>
      rename_i b ys es
      refine ⟨a, b, xs, ys, rfl, h1, .inl (.inl h2), hp _ H (Keep.refl _ _) pl ?_⟩
      exact walk_zip (fun H xs => SqT X.K H a xs) (fun H ys => SqL X.K H b ys) (r1.grow Zn.base) (r2.grow Zn.base) (fun _ _ => rfl) (fun _ _ _ _ => rfl) (fun _ _ => rfl) (fun H' st => st.sqT h1) (fun H' st => .inl (.inl (st.rg _ _ (.inl z2) h2)))
    | _ => exact hp.elim
  | _ => exact hp.elim
end
theorem at_zm (a b : DE) (ρ : Rho) : iZm a b ρ = M.bnd (a ρ) fun x => M.bnd (b ρ) fun y => zipM2 x y := nr rfl
theorem zm_tl (xs ys : List D) : zipM2 (.tuple xs) (.list ys) = M.ret (zipD xs ys) := rfl
end Ew
/-! sorted(t) of a TUPLE t (turned from the library's own proofs for a list) -/
namespace EwSortT
open PySem PySem.W PySem.Calls PySem.SeqAt PyProof.Rows
section
variable {prog : Program} {w : World} {A : Around} {E : Value → Shared → Prop} {s : Shared} {κ : PyProof.Rows.KeyKind}
theorem collect_tup {l : Addr} {vs : List Value} {Q : List Value → Shared → Prop} (hl : s.heap.IsTuple l vs.toArray)
    (h : Q vs { s with heap := (s.heap.push (seqObj "list" #[] 0)).update s.heap.objs.size (Obj.mapSeq (· ++ vs.toArray)) }) (hsz : vs.length ≤ sizeLine) :
    wpAny (model prog w) A (collect (.ref l)) Q E s := by
  obtain ⟨o, ho, hc, n, hd⟩ := id hl
  unfold collect
  refine wpAny_bind (wpAny_runValue (codeAny_builtin F.entry_proto_collect ?_))
  show wpAny _ _ (do again (.builtin "list.__iadd__" ⟨[← newList [], .ref l], []⟩)) _ _ s
  refine wpAny_bind (wpAny_newList (wpAny_pure ⟨Code.quiet_builtin _ (by decide +kernel), codeAny_builtin F.entry_list_iadd ?_⟩))
  show wpAny _ _ (Builtin.List.listExtendWith (.ref s.heap.objs.size) (.ref l) (.ref s.heap.objs.size)) _ _ { s with heap := s.heap.push (seqObj "list" #[] 0) }
  unfold Builtin.List.listExtendWith
  have ho' : (s.heap.push (seqObj "list" #[] 0)).get? l = some o := Heap.get?_push_of_some _ ho
  refine wpAny_bind (wpAny_typeOf (T := "tuple") ⟨o, ho', hc⟩ ?_)
  have ht : (Value.type "tuple" == Value.type "tuple") = true := by rfl
  rw [if_pos (by rw [ht]; simp)]
  refine wpAny_bind (listItems_at ho' hd ?_)
  refine wpAny_bind (listItems_at (xs := #[]) (n := 0) (Heap.get?_push_size _ rfl) rfl ?_)
  rw [if_neg (by simp)]
  refine wpAny_bind (listUpdate_at (xs := #[]) (n := 0) (Heap.get?_push_size _ rfl) rfl ?_ (Nat.zero_le _) (by show (#[] ++ vs.toArray).size ≤ sizeLine + 1; simp only [Array.size_append, List.size_toArray, List.length_nil]; omega))
  refine wpAny_pure ?_
  show wpAny (model prog w) A (do
      let o ← load s.heap.objs.size
      match o.data with
      | .seq xs _ => pure xs.toList
      | _ => unsupported "internal:collect") Q E { s with heap := (s.heap.push (seqObj "list" #[] 0)).update s.heap.objs.size (Obj.mapSeq (· ++ vs.toArray)) }
  refine wpAny_bind (wpAny_load (get?_update_seq (Heap.get?_push_size _ rfl) _) ?_)
  show wpAny _ _ (pure ((#[] : Array Value) ++ vs.toArray).toList) Q E _
  rw [show ((#[] : Array Value) ++ vs.toArray).toList = vs by simp]
  exact wpAny_pure h
theorem sorted_of_sortT {l : Addr} {vs : List Value} {kw : List (Str × Value)} {Q : Value → Shared → Prop} (hl : s.heap.IsTuple l vs.toArray) (hL : vs.length ≤ sizeLine) (ha1 : argsOk "sorted" ⟨[.ref l], kw⟩) (ha2 : ∀ x, argsOk "list.sort" ⟨[.ref x], kw⟩)
    (body : ∀ E' : Value → Shared → Prop, wpAny (model prog w) A.in1.in1 (Builtin.«list.sort» ⟨[.ref (s.heap.objs.size + 1)], kw⟩) (fun f s' => f = .done (.ret .none) ∧ Q (.ref (s.heap.objs.size + 1)) s') E' { s with heap := copyHeap s.heap vs }) :
    wpAny (model prog w) A (call (.builtin "sorted") [.ref l] kw) Q E s := by
  refine call_function_entry_kw kind_sorted plain_sorted entry_sorted ha1 ?_
  unfold Builtin.«sorted»
  refine wpAny_bind (m := checkCount "sorted" 1 1 _) (wpAny_pure ?_)
  refine wpAny_bind (collect_tup hl ?_ hL)
  refine wpAny_bind (wpAny_newList ?_ hL)
  have hsz : ((s.heap.push (seqObj "list" #[] 0)).update s.heap.objs.size (Obj.mapSeq (· ++ vs.toArray))).objs.size = s.heap.objs.size + 1 := by
    rw [Heap.size_update, size_push']
  show wpAny _ _ _ _ _ { s with heap := copyHeap s.heap vs }
  rw [hsz]
  refine wpAny_bind (wpAny_holding (wpAny_call_entry_kw slot_list_sort ⟨_, copyHeap_at s.heap vs, rfl⟩ entry_list_sort ?body (ha2 _)))
  case body =>
    show wpAny (model prog w) A.in1.in1 (Builtin.«list.sort» ⟨[.ref (s.heap.objs.size + 1)], kw⟩) _ _ _
    refine wpAny_mono (body _) (fun f s' hf => ?_) fun _ _ e => e
    obtain ⟨rfl, hq⟩ := hf
    exact ⟨_, rfl, wpAny_pure ⟨_, rfl, hq⟩⟩
theorem sorted_valsT {l : Addr} {vs : List Value} {Q : Value → Shared → Prop} (hl : s.heap.IsTuple l vs.toArray) (S : SortsAt prog w A.in1.in1 { s with heap := sortingHeap (copyHeap s.heap vs) (s.heap.objs.size + 1) vs } κ vs) (hL : vs.length ≤ sizeLine)
    (h : Q (.ref (s.heap.objs.size + 1)) { s with heap := sortedAll s.heap vs (sortVals κ false vs vs).toArray }) : wpAny (model prog w) A (call (.builtin "sorted") [.ref l]) Q E s :=
  sorted_of_sortT hl hL (args_sorted1 _) (fun _ => args_list_sort _) fun _ => list_sort_vals (s := { s with heap := copyHeap s.heap vs }) (copyHeap_at s.heap vs) S hL ⟨rfl, h⟩
theorem sorted_dataT {β : Type} {l : Addr} {vs : List Value} {bs : List β} {enc : β → PyData} {R : Value → β → Prop} {Q : Value → Shared → Prop} (hl : s.heap.IsTuple l vs.toArray) (e : EachIs R vs bs) (er : EachIs (fun v b => ∃ as, Reads s.heap v (enc b) as) vs bs) (hal : AllAlike (bs.map enc))
    (hk : Sortable (bs.map enc)) (hL : bs.length ≤ sizeLine) (hu : ∀ b, b ∈ bs → A.units + 2 + (enc b).depth < cLine)
    (h : ∀ out, out.length = bs.length → EachIs R out (bs.mergeSort (dataLe false enc)) → Q (.ref (s.heap.objs.size + 1)) { s with heap := sortedAll s.heap vs (List.toArray out) }) : wpAny (model prog w) A (call (.builtin "sorted") [.ref l]) Q E s := by
  have er' : EachIs (fun v b => ∃ as, Reads (sortingHeap (copyHeap s.heap vs) (s.heap.objs.size + 1) vs) v (enc b) as) vs bs := er.mono fun _ _ ⟨as, r⟩ => ⟨as, PyProof.Rows.Reads.keeps (fun _ _ => sorting_copy_old) r⟩
  refine sorted_valsT hl (SortsAt.data (s := { s with heap := sortingHeap (copyHeap s.heap vs) (s.heap.objs.size + 1) vs }) (each_map (R := fun v d => ∃ as, Reads (sortingHeap (copyHeap s.heap vs) (s.heap.objs.size + 1) vs) v d as) enc er') hal hk (bound_map hu)) (by rw [e.length]; exact hL) ?_
  exact h _ (by rw [sortVals_length false rfl]; exact e.length) (sortVals_data false e er' hal)
end
end EwSortT
namespace Ew
open PySem PySem.Spec PyProof.Rows L2
def CanSortT (xs : List D) : Prop := PySem.W.AllAlike xs ∧ PySem.W.Sortable xs ∧ xs.length ≤ sizeLine ∧ ∀ d ∈ xs, d.depth ≤ 90
open Classical in
noncomputable def bSortedT (x : D) : M D := match x with
  | .tuple xs => if CanSortT xs then M.ret (.list (xs.mergeSort leD)) else M.stuck
  | _ => M.stuck
section
variable {X : Cx} {W : WX} {a : Expr} {A : DE} {pos pos' : Pos}
def rSortT (K : PySem.W.Frag) : List V → Hp → VK → Prop := fun xs H Q => ∃ (Z : Rg) (l : Addr) (vs : List V) (ds : List D), xs = [.ref l] ∧ SqT K H l vs ∧ RpL K Z H vs ds ∧ CanSortT ds ∧
  ∀ (p : Addr) (ws : List V), H p = none → RpL K Z H ws (ds.mergeSort leD) → Q (.ref p) (upd H p (.lst ws))
theorem cr_sortT (hu : X.A.units + deep < cLine) : CallR X (.builtin "sorted") (rSortT X.K) := by
  intro pins s σ H xs us Q I r h
  obtain ⟨Z, l, vs, ds, rfl, hl, rs, ⟨c1, c2, c3, c4⟩, q⟩ := h
  rw [Vals.ref1 r]
  obtain ⟨its, rv, pl, hz⟩ := I.tuple hl
  obtain ⟨e1, e2⟩ := each_zip I rs rv
  have hlen : vs.length = ds.length := rs.length
  have hm : (vs.zip ds).map (·.2) = ds := List.map_snd_zip (by omega)
  refine EwSortT.sorted_dataT (enc := fun b : V × D => b.2) (bs := vs.zip ds) (show s.heap.IsTuple l its.toArray from pl) e1 e2 (by rw [hm]; exact c1) (by rw [hm]; exact c2) (by rw [List.length_zip]; omega) (fun b hb => ?_) fun out ho eo => ?_
  · have hd := c4 b.2 (by rw [← hm]; exact List.mem_map_of_mem hb)
    unfold deep at hu
    omega
  · have ms : ((vs.zip ds).mergeSort (PySem.W.dataLe false fun b : V × D => b.2)).map (·.2) = ds.mergeSort leD := by
      have z := List.map_mergeSort (r := PySem.W.dataLe false fun b : V × D => b.2) (s := leD) (f := fun b : V × D => b.2) (l := vs.zip ds) (fun a _ b _ => rfl)
      rw [hm] at z
      exact z
    have rp : RpL X.K Z H (((vs.zip ds).mergeSort (PySem.W.dataLe false fun b : V × D => b.2)).map (·.1)) (ds.mergeSort leD) := by
      rw [← ms]
      exact rp_pairs _ fun b hb => zip_rp rs b ((List.mergeSort_perm _ _).mem_iff.mp hb)
    generalize ((vs.zip ds).mergeSort (PySem.W.dataLe false fun b : V × D => b.2)) = ps at eo rp ms
    have hn : H (s.heap.objs.size + 1) = none := I.hok.fresh (Nat.le_succ _)
    obtain ⟨c, hc⟩ := PyProof.Rows.sortedAll_at s.heap its out.toArray
    have k : ∀ b o, s.heap.get? b = some o → (PyProof.Rows.sortedAll s.heap its out.toArray).get? b = some o := fun b o e => PyProof.Rows.sortedAll_old e
    have hps : ps.length = ds.length := by
      have z := congrArg List.length ms
      rw [List.length_map, List.length_mergeSort] at z
      exact z
    have J : Inv X pins σ (upd H (s.heap.objs.size + 1) (.lst (ps.map (·.1)))) { s with heap := PyProof.Rows.sortedAll s.heap its out.toArray, gens := s.gens, drawn := s.drawn, toks := s.toks } :=
      I.call (ch := []) (Un.laid k (Nat.le_succ _) hn) (I.hok.laid k (Nat.le_succ _) ⟨by rw [List.length_map]; omega, out, c, each_vals eo, by rw [hc]⟩) I.bare (fun _ z => nomatch z)
    exact ⟨.ref _, _, J, rfl, q _ _ hn rp⟩
theorem pdf_sortedt (hu : X.A.units + deep < cLine) (hg : Gl X "sorted") (hm : X.mg "sorted" = none) (ha : PDe X W a A) (he : starEach [a] X.env = (false, eval a X.env) :: starEach [] X.env := by rfl) (hpl : (backTo pos (starEach [] X.env)).any (·.1) = false := by rfl) :
    PDf X W (.Call (.Name "sorted" pos') [a] [] pos) (dUn bSortedT A) := by
  refine pdf_b1 (cr_sortT hu) (fun p sc Z σ H q x dx Q pl nz hx hp => ?_) hg hm boot_sortedE ha (by decide) (by decide) he hpl
  unfold bSortedT at hp
  cases hx with
  | tup h1 rs =>
    rename_i l0 vs0 ds0
    dsimp only at hp
    by_cases hc : CanSortT ds0
    · rw [if_pos hc] at hp
      refine ⟨Z, _, _, _, rfl, h1, rs, hc, fun c ws hcn rw' => hp _ _ (new_keep hcn) (new_pool hcn pl) ⟨c, ws, _, rfl, rfl, hcn, upd_same, ?_⟩⟩
      exact (rw'.sub fun b z n => ⟨.inl z, fun e => n (e ▸ hcn)⟩).stand (new_stand hcn)
    · rw [if_neg hc] at hp; exact hp.elim
  | _ => exact hp.elim
end
end Ew
namespace Ew
open PySem PySem.Spec PyProof.Rows L2
def topS (i : Nat) : Stmt := PySem.Challenge.pw_everyweather_k81_whole_services_and_cabl.main.body.getD i (.Pass ⟨0, 0, 0, 0⟩)
abbrev s_pool : Stmt := topS 13
abbrev s_spread : Stmt := topS 14
abbrev s_draw : Stmt := topS 15
abbrev FnP (K : PySem.W.Frag) (x : Str) (st : Stmt) (f : Addr) (fd : FuncData) : Prop := FunD K x x (defArgs st) (defBody st) (defScope st) [] [] f fd
abbrev N_pool : List Str := ["script", "salt", "cell"]
abbrev N_spread : List Str := ["cell", "mixed", "total", "k"]
abbrev N_draw : List Str := ["pool", "many", "cell", "mixed", "value"]
theorem sc_pool : FnScope N_pool ["script"] (defScope s_pool) := ⟨rfl, rfl, rfl, by decide +kernel, rfl, by decide +kernel, by decide +kernel⟩
theorem sc_spread : FnScope N_spread ["cell"] (defScope s_spread) := ⟨rfl, rfl, rfl, by decide +kernel, rfl, by decide +kernel, by decide +kernel⟩
theorem sc_draw : FnScope N_draw ["pool", "many"] (defScope s_draw) := ⟨rfl, rfl, rfl, by decide +kernel, rfl, by decide +kernel, by decide +kernel⟩
section
variable {P : Program} {w : World} {K : PySem.W.Frag} {mg : Str → Option Value} {base : Heap} {f f2 : Addr} {fd fd2 : FuncData}
/-! ### the spreading -/
def spSpread : Sp := fun vs H Q _ => ∃ c : Int, vs = [.int c] ∧ Q (.int (spreadF c)) H
theorem ok_spread (F : FnP K "_law_spread" s_spread f fd) (mi : mg "int" = none) (mr : mg "range" = none) : FnOk P w K mg base (L2.CX P w) 1 f fd ["cell"] spSpread := by
  refine F.ok sc_spread (fun vs H Q E h => ?_) (fun cdv A outer s H vs Q E hr h => ?_)
  · obtain ⟨c, rfl, _⟩ := h
    rfl
  · obtain ⟨c, rfl, q⟩ := h
    refine ⟨_, PSs.nox (pss_cons (ps_set (i := 1) sc_spread.nd rfl (.inl rfl) (pe_op op_mod (pe_callTy call_int1 (by rfl) mi boot_int (pa_cons (pv 0) pa_nil)) pe_int))
      (pss_cons (ps_set (i := 2) sc_spread.nd rfl (.inl rfl) pe_int)
      (pss_cons (ps_for PassesOwn.never rfl (pi_range1 rfl mr (pa_cons pe_int pa_nil)) (pg_name (i := 3) sc_spread.nd rfl (.inl rfl))
        (pss_cons (ps_set (i := 1) sc_spread.nd rfl (.inl rfl) (pe_op op_mod (pe_callTy call_int1 (by rfl) mi boot_int (pa_cons (pe_op op_add (pe_op op_add (pe_op op_mul (pv 1) pe_int) pe_int) (pv 3)) pa_nil)) pe_int))
        (pss_one (ps_set (i := 2) sc_spread.nd rfl (.inl rfl) (pe_op op_add (pe_op op_mul (pv 2) pe_int) (pv 1))))))
      (pss_one (ps_ret (pv 2)))))), ?_⟩
    refine ⟨_, rfl, .inl ⟨c, rfl, _, _, rfl, rfl, (show (0 : Int) < 2147483647 by decide), ?_⟩⟩
    refine ⟨4, rfl, by decide, by decide, for_range (n := 4) (fun i σ H' => H' = H ∧ ∃ k3, σ = [some (.int c), some (.int (((List.range i).map fun (j : Nat) => (j : Int)).foldl spread1 (c % 2147483647, 1)).1), some (.int (((List.range i).map fun (j : Nat) => (j : Int)).foldl spread1 (c % 2147483647, 1)).2), k3]) ⟨rfl, _, rfl⟩ (fun i σ H' hi hW => ?_) (fun σ H' hW => ?_)⟩
    · obtain ⟨rfl, k3, rfl⟩ := hW
      refine ⟨_, rfl, _, _, rfl, rfl, .inr (show -(2 ^ 64) < (48271 : Int) ∧ (48271 : Int) < 2 ^ 64 by decide), _, _, rfl, rfl, _, rfl, _, _, rfl, rfl, .inl ⟨_, rfl, _, _, rfl, rfl, (show (0 : Int) < 2147483647 by decide), ?_⟩⟩
      refine ⟨_, rfl, _, _, rfl, rfl, .inr (show -(2 ^ 64) < (2147483647 : Int) ∧ (2147483647 : Int) < 2 ^ 64 by decide), _, rfl, _, _, rfl, rfl, rfl, some (.int (0 + (i : Int))), ?_⟩
      rw [List.range_succ, List.map_append, List.foldl_append]
      simp [spread1]
    · obtain ⟨rfl, k3, rfl⟩ := hW
      exact ⟨_, rfl, q⟩
/-! ### a draw -/
theorem rd_item {σ : L2.St} {H : Hp} {Q : VK} {a : Addr} {xs : List V} {j : Nat} {v : V} (i : Int) (h0 : σ[0]? = some (some (.ref a))) (ha : H a = some (.lst xs)) (hi : i = (j : Int)) (hk : xs[j]? = some v) (q : Q v H) : tOp (rIxL K) (tVar 0) (tC (.int i)) σ H Q := by
  subst hi
  exact ⟨.ref a, h0, a, xs, j, v, rfl, rfl, .inl (.inl ha), atI_nat hk, q⟩
theorem seq_two {t u : TS} {E : Ends} {σ : L2.St} {H : Hp} (P : L2.St → Hp → Prop) (hu : ∀ σ' H', P σ' H' → u E σ' H') (ht : (∀ σ' H', P σ' H' → u E σ' H') → t { E with nx := u E } σ H) : tSeq t u E σ H := ht hu
theorem ok_draw (F : FnP K "_law_draw" s_draw f fd) (F2 : FnP K "_law_spread" s_spread f2 fd2) (g2 : mg "_law_spread" = some (.ref f2)) (mi : mg "int" = none) (mr : mg "range" = none) (ml : mg "len" = none) : FnOk P w K mg base (L2.CX P w) 2 f fd ["pool", "many"] (spD K mg 2 F_draw) := by
  have GS : FnOk P w K mg base (L2.CX P w) 1 f2 fd2 ["cell"] spSpread := ok_spread F2 mi mr
  have bS : Binds K fd2 ["cell"] [] := F2.bindsN fun _ _ _ _ _ _ us hl => match us, hl with | [_], _ => rfl
  refine F.ok sc_draw (fun vs H Q E h => h.1) (fun cdv A outer s H vs Q E hr h => ?_)
  obtain ⟨hl, p, sc, Z, q, as, pl, nz, ar, hp⟩ := h
  refine ⟨_, PSs.nox (pss_cons (ps_if (PW.pt (pw_and (pt_cmpR op_le (pe_ix ix_list (pv 0) pe_int (fun _ _ => rfl)) pe_int (nomark _)) (pw_and1 (pt_cmpR op_lt (pe_ix ix_list (pv 0) pe_int (fun _ _ => rfl)) (pe_callB call_len_seq (by rfl) ml boot_len (pa_cons (pe_ix ix_list (pv 0) pe_int (fun _ _ => rfl)) pa_nil)) (nomark _)))))
      (pss_cons (ps_set (i := 2) sc_draw.nd rfl (.inl rfl) (pe_ix ix_list (pe_ix ix_list (pv 0) pe_int (fun _ _ => rfl)) (pe_ix ix_list (pv 0) pe_int (fun _ _ => rfl)) (fun _ _ => rfl)))
      (pss_cons (ps_asg (pe_op op_add (pe_ix ix_list (pv 0) pe_int (fun _ _ => rfl)) pe_int) (pg_sub (pv 0) pe_int set_list))
      (pss_cons (ps_asg (pv 2) (pg_sub (pv 0) pe_int set_list))
      (pss_one (ps_if (pt_cmpR op_lt (pv 2) pe_int (nomark _)) (pss_one (ps_asg (pe_call GS hr (by rfl) g2 F2.kp bS .nil passL (pa_cons (pv 2) pa_nil)) (pg_sub (pv 0) pe_int set_list))) pss_nil))))) pss_nil)
    (pss_cons (ps_asg (pe_op op_add (pe_ix ix_list (pv 0) pe_int (fun _ _ => rfl)) pe_int) (pg_sub (pv 0) pe_int set_list))
    (pss_cons (ps_if (pt_cmpR op_le (pe_ix ix_list (pv 0) pe_int (fun _ _ => rfl)) pe_int (nomark _))
      (pss_cons (ps_set (i := 3) sc_draw.nd rfl (.inl rfl) (pe_op op_mod (pe_callTy call_int1 (by rfl) mi boot_int (pa_cons (pe_op op_add (pe_op op_add (pe_op op_mul (pe_ix ix_list (pv 0) pe_int (fun _ _ => rfl)) pe_int) (pe_op op_mul (pe_ix ix_list (pv 0) pe_int (fun _ _ => rfl)) pe_int)) pe_int) pa_nil)) pe_int))
      (pss_cons (ps_set (i := 3) sc_draw.nd rfl (.inl rfl) (pe_op op_mod (pe_callTy call_int1 (by rfl) mi boot_int (pa_cons (pe_op op_add (pe_op op_mul (pv 3) pe_int) (pe_ix ix_list (pv 0) pe_int (fun _ _ => rfl))) pa_nil)) pe_int))
      (pss_one (ps_ret (pe_op op_mod (pe_op op_fdiv (pv 3) pe_int) (pv 1)))))) pss_nil)
    (pss_cons (ps_set (i := 4) sc_draw.nd rfl (.inl rfl) (pe_op op_mod (pe_callTy call_int1 (by rfl) mi boot_int (pa_cons (pe_ix ix_list (pv 0) pe_int (fun _ _ => rfl)) pa_nil)) (pv 1)))
    (pss_cons (ps_asg (pe_op op_fdivW (pe_ix ix_list (pv 0) pe_int (fun _ _ => rfl)) (pv 1)) (pg_sub (pv 0) pe_int set_list))
    (pss_one (ps_ret (pv 4)))))))), ?_⟩
  have hla : as.length = 2 := by rw [← ArgR.length ar]; exact hl
  obtain ⟨a1, a2, rfl⟩ : ∃ a1 a2, as = [a1, a2] := by
    match as, hla with
    | [a1, a2], _ => exact ⟨a1, a2, rfl⟩
  obtain ⟨v1, v2, rfl⟩ : ∃ v1 v2, vs = [v1, v2] := by
    match vs, hl with
    | [a1, a2], _ => exact ⟨a1, a2, rfl⟩
  cases a1 with
  | d x => exact hp.elim
  | pool =>
    cases a2 with
    | pool => exact hp.elim
    | d x =>
      obtain ⟨rfl, rx, _⟩ := ar
      cases rx with
      | int many =>
        by_cases hm : 0 < many ∧ many < 2 ^ 2000
        case neg =>
          have z : F_draw [.pool, .d (.int many)] q = .stuck := by
            show drawF many q = _
            unfold drawF
            rw [if_neg hm]
          rw [z] at hp
          exact hp.elim
        have hpos : (0 : Int) < many := hm.1
        obtain ⟨hP, hS, hne⟩ := pl
        have c1 : -(2 ^ 64) < (48271 : Int) ∧ (48271 : Int) < 2 ^ 64 := by decide
        have c2 : -(2 ^ 64) < (69621 : Int) ∧ (69621 : Int) < 2 ^ 64 := by decide
        have c3 : -(2 ^ 64) < (16807 : Int) ∧ (16807 : Int) < 2 ^ 64 := by decide
        refine seq_two (fun σ' H' => ∃ x2, σ' = [some (.ref p), some (.int many), x2, none, none] ∧ Keep p H H' ∧ PoolAt p sc H' (takeCell q)) (fun σ' H' hW => ?_) fun rest => ?_
        · -- behind the taking of a cell
          obtain ⟨x2, rfl, kp, hP', hS', _⟩ := hW
          generalize hq1 : takeCell q = q1 at hP' hS'
          refine rd_item 3 rfl hP' (j := 3) rfl rfl ⟨_, _, rfl, rfl, .ref p, rfl, p, _, 3, 3, rfl, rfl, hP', rfl, ?_⟩
          have kp2 : ∀ o, Keep p H (upd H' p o) := fun o b u hb e => by rw [upd_ne hb]; exact kp b u hb e
          generalize hH2 : upd H' p (HO.lst (([.ref sc, .int (q1.i : Int), .int q1.c, .int q1.n, .int q1.salt] : List V).set 3 (.int (q1.n + 1)))) = H2
          have e2 : H2 p = some (.lst [.ref sc, .int (q1.i : Int), .int q1.c, .int (q1.n + 1), .int q1.salt]) := by rw [← hH2]; exact upd_same
          have e3 : H2 sc = some (.lst (q1.script.map V.int)) := by rw [← hH2, upd_ne hne]; exact hS'
          have k2 : Keep p H H2 := by rw [← hH2]; exact kp2 _
          have dr : drawF many q = (if q1.c ≤ 0 then .ok (.int (mixF (tick q1) / 5 % many)) (tick q1) else .ok (.int (q1.c % many)) { tick q1 with c := q1.c / many }) := by
            unfold drawF
            rw [if_pos hm, hq1]
            rfl
          have hp' : Post mg p sc H (fun H' v d => Rp K (Zn Z H) H' v d) (fun c od H' => E c od H') Q (drawF many q) := hp
          rw [dr] at hp'
          refine rd_item 2 rfl e2 (j := 2) rfl rfl ⟨_, _, rfl, rfl, _, rfl, ?_⟩
          by_cases hc : q1.c ≤ 0
          · rw [if_pos hc] at hp'
            rw [decide_eq_true hc]
            refine rd_item 4 rfl e2 (j := 4) rfl rfl ⟨_, _, rfl, rfl, .inr c1, rd_item 3 rfl e2 (j := 3) rfl rfl ⟨_, _, rfl, rfl, .inr c2, _, _, rfl, rfl, _, _, rfl, rfl, .inl ⟨_, rfl, _, _, rfl, rfl, (show (0 : Int) < 2147483647 by decide), ?_⟩⟩⟩
            refine ⟨_, rfl, _, _, rfl, rfl, .inr c3, rd_item 3 rfl e2 (j := 3) rfl rfl ⟨_, _, rfl, rfl, .inl ⟨_, rfl, _, _, rfl, rfl, (show (0 : Int) < 2147483629 by decide), ?_⟩⟩⟩
            refine ⟨_, rfl, _, _, rfl, rfl, (show (0 : Int) < 5 ∧ (5 : Int) < 1073741824 by decide), _, rfl, _, _, rfl, rfl, hpos, ?_⟩
            exact hp' _ H2 k2 ⟨e2, e3, hne⟩ (.int _)
          · rw [if_neg hc] at hp'
            rw [decide_eq_false hc]
            refine rd_item 2 rfl e2 (j := 2) rfl rfl (.inl ⟨_, rfl, _, rfl, _, _, rfl, rfl, hpos, ?_⟩)
            refine rd_item 2 rfl e2 (j := 2) rfl rfl ⟨_, rfl, _, _, rfl, rfl, div_small hpos hm.2, .ref p, rfl, p, _, 2, 2, rfl, rfl, e2, rfl, ?_⟩
            refine ⟨_, rfl, hp' _ _ (fun b u hb e => by rw [upd_ne hb]; exact k2 b u hb e) ⟨upd_same, by rw [upd_ne hne]; exact e3, hne⟩ (.int _)⟩
        · refine rd_item 2 rfl hP (j := 2) rfl rfl ⟨_, _, rfl, rfl, _, rfl, ?_⟩
          by_cases hc : q.c ≤ 0
          · rw [decide_eq_true hc]
            refine rd_item 1 rfl hP (j := 1) rfl rfl (rd_item 0 rfl hP (j := 0) rfl rfl ⟨sc, _, rfl, .inl (.inl (.inl hS)), _, _, rfl, rfl, _, rfl, ?_⟩)
            by_cases hi : q.i < q.script.length
            · have et : decide ((q.i : Int) < ((q.script.map V.int).length : Int)) = true := decide_eq_true (by rw [List.length_map]; omega)
              rw [et]
              have ecell : q.script[q.i]? = some q.script[q.i] := List.getElem?_eq_getElem hi
              generalize q.script[q.i] = cell at ecell
              have etk : takeCell q = { q with i := q.i + 1, c := if cell < 1000000000000000000 then spreadF cell else cell } := by unfold takeCell; rw [if_pos hc, ecell]
              refine rd_item 0 rfl hP (j := 0) rfl rfl (rd_item 1 rfl hP (j := 1) rfl rfl ⟨sc, _, _, .int cell, rfl, rfl, .inl (.inl hS), atI_nat (by rw [List.getElem?_map, ecell]; rfl), ?_⟩)
              refine rd_item 1 rfl hP (j := 1) rfl rfl ⟨_, _, rfl, rfl, .ref p, rfl, p, _, 1, 1, rfl, rfl, hP, rfl, ?_⟩
              refine ⟨_, rfl, .ref p, rfl, p, _, 2, 2, rfl, rfl, upd_same, rfl, ?_⟩
              rw [upd_upd]
              refine ⟨_, rfl, _, _, rfl, rfl, _, rfl, ?_⟩
              by_cases hs : cell < 1000000000000000000
              · rw [decide_eq_true hs]
                refine ⟨_, rfl, cell, rfl, .ref p, rfl, p, _, 2, 2, rfl, rfl, upd_same, rfl, ?_⟩
                rw [upd_upd]
                refine rest _ _ ⟨some (.int cell), rfl, fun b u hb e => by rw [upd_ne hb]; exact e, ?_⟩
                rw [etk, if_pos hs]
                exact ⟨upd_same, by rw [upd_ne hne]; exact hS, hne⟩
              · rw [decide_eq_false hs]
                refine rest _ _ ⟨some (.int cell), rfl, fun b u hb e => by rw [upd_ne hb]; exact e, ?_⟩
                rw [etk, if_neg hs]
                exact ⟨upd_same, by rw [upd_ne hne]; exact hS, hne⟩
            · have et : decide ((q.i : Int) < ((q.script.map V.int).length : Int)) = false := decide_eq_false (by rw [List.length_map]; omega)
              rw [et]
              have e : takeCell q = q := by unfold takeCell; rw [if_pos hc, List.getElem?_eq_none (by omega)]
              exact rest _ _ ⟨none, rfl, Keep.refl _ _, by rw [e]; exact ⟨hP, hS, hne⟩⟩
          · rw [decide_eq_false hc]
            have e : takeCell q = q := by unfold takeCell; rw [if_neg hc]
            exact rest _ _ ⟨none, rfl, Keep.refl _ _, by rw [e]; exact ⟨hP, hS, hne⟩⟩
      | _ => exact hp.elim
/-! ### the store of draws -/
def spPool (K : PySem.W.Frag) : Sp := fun vs H Q _ => ∃ (a : Addr) (ns : List Int), vs = [.ref a] ∧ SqL K H a (ns.map V.int) ∧ ∀ p sc H' salt, Same H H' → PoolAt p sc H' ⟨ns, 0, 0, 0, salt⟩ → H p = none → Q (.ref p) H'
theorem cut_ints {ns : List Int} {lo hi : Option Int} {x : V} (h : x ∈ cutV (ns.map V.int) lo hi) : ∃ i, x = .int i := by
  unfold cutV at h
  have z := List.mem_of_mem_drop (List.mem_of_mem_take h)
  obtain ⟨i, _, e⟩ := List.mem_map.mp z
  exact ⟨i, e.symm⟩
theorem ok_pool (F : FnP K "_law_pool" s_pool f fd) (mi : mg "int" = none) (mt : mg "list" = none) : FnOk P w K mg base (L2.CX P w) 1 f fd ["script"] (spPool K) := by
  refine F.ok sc_pool (fun vs H Q E h => ?_) (fun cdv A outer s H vs Q E hr h => ?_)
  · obtain ⟨a, ns, rfl, _⟩ := h
    rfl
  obtain ⟨a, ns, rfl, hS, hq⟩ := h
  refine ⟨_, PSs.nox (pss_cons (ps_set (i := 1) sc_pool.nd rfl (.inl rfl) pe_int)
    (pss_cons (ps_for PassesOwn.never rfl (pi_list (pe_slice sl_list (pv 0) po_none (po_some pe_int))) (pg_name (i := 2) sc_pool.nd rfl (.inl rfl))
      (pss_one (ps_set (i := 1) sc_pool.nd rfl (.inl rfl) (pe_op op_mod (pe_callTy call_int1 (by rfl) mi boot_int (pa_cons (pe_op op_add (pe_op op_mul (pv 1) pe_int) (pv 2)) pa_nil)) pe_int))))
    (pss_one (ps_ret (pe_lst (pa_cons (pe_callTy call_list_of (by rfl) mt boot_list (pa_cons (pv 0) pa_nil)) (pa_cons pe_int (pa_cons pe_int (pa_cons pe_int (pa_cons (pv 1) pa_nil)))))))))), ?_⟩
  refine ⟨.ref a, rfl, 63, rfl, a, _, rfl, hS, fun c hc => ⟨c, rfl, ⟨_, .inl (.inl upd_same)⟩, ?_⟩⟩
  have sm : Same H (upd H c (.lst (cutV (ns.map V.int) none (some 63)))) := fun b u e => by rw [upd_ne (ne_of_none e hc)]; exact e
  have hcc : upd H c (.lst (cutV (ns.map V.int) none (some 63))) c = some (.lst (cutV (ns.map V.int) none (some 63))) := upd_same
  generalize upd H c (.lst (cutV (ns.map V.int) none (some 63))) = H1 at sm hcc
  refine for_list (xs := cutV (ns.map V.int) none (some 63)) (fun i σ H' => H' = H1 ∧ ∃ salt x2, σ = [some (.ref a), some (.int salt), x2]) ⟨rfl, _, _, rfl⟩ (fun i σ H' _ hW => by rw [hW.1]; exact .inl (.inl hcc)) (fun i x σ H' hx hW => ?_) (fun σ H' hW => ?_)
  · obtain ⟨rfl, salt, x2, rfl⟩ := hW
    obtain ⟨n, rfl⟩ := cut_ints (List.mem_of_getElem? hx)
    refine ⟨_, rfl, _, _, rfl, rfl, .inr (show -(2 ^ 64) < (31 : Int) ∧ (31 : Int) < 2 ^ 64 by decide), _, rfl, _, _, rfl, rfl, .inl ⟨_, rfl, _, _, rfl, rfl, (show (0 : Int) < 1000003 by decide), rfl, _, _, rfl⟩⟩
  · obtain ⟨rfl, salt, x2, rfl⟩ := hW
    refine ⟨_, rfl, a, _, rfl, .inl (sm.seq hS), fun l hl => ⟨_, rfl, (show (5 : Nat) ≤ 2 ^ 24 by decide), fun p hp => ?_⟩⟩
    have nlp : l ≠ p := fun e => by rw [← e, upd_same] at hp; cases hp
    have sm2 : Same H' (upd H' l (.lst (ns.map V.int))) := fun b u e => by rw [upd_ne (ne_of_none e hl)]; exact e
    have sm3 : ∀ o, Same (upd H' l (.lst (ns.map V.int))) (upd (upd H' l (.lst (ns.map V.int))) p o) := fun o b u e => by rw [upd_ne (ne_of_none e hp)]; exact e
    have z := hq p l _ salt (sm.trans (sm2.trans (sm3 _))) ⟨upd_same, by rw [upd_ne nlp]; exact upd_same, nlp⟩ (sm.free (sm2.free hp))
    exact z
end
/-! ### names that nothing binds, constants -/
structure Txt (K : PySem.W.Frag) (mg : Str → Option Value) : Prop where
  n_bool : mg "bool" = none
  n_int : mg "int" = none
  n_isinstance : mg "isinstance" = none
  n_len : mg "len" = none
  n_list : mg "list" = none
  n_max : mg "max" = none
  n_min : mg "min" = none
  n_range : mg "range" = none
  n_sorted : mg "sorted" = none
  n_str : mg "str" = none
  n_sum : mg "sum" = none
  n_tuple : mg "tuple" = none
noncomputable section
variable {P : Program} {w : World} {K : PySem.W.Frag} {mg : Str → Option Value} {base : Heap} {f : Addr} {fd : FuncData}
/-! ### cost_of -/
abbrev s_cost_of : Stmt := topS 1
abbrev N_cost_of : List Str := ["costs", "service", "machine"]
theorem sc_cost_of : FnScope N_cost_of ["costs", "service"] (defScope s_cost_of) := ⟨rfl, rfl, rfl, by decide +kernel, rfl, by decide +kernel, by decide +kernel⟩
def F_cost_of : List Arg → M D := fnD 2 3 ((sRet (dUn bSum (dComp [2] (iR1 (dUn bLen (dVar 0))) (gN 2) tTrue (dBin oIx (dBin oIx (dVar 0) (dVar 2)) (dBin oIx (dVar 1) (dVar 2)))))))
theorem ok_cost_of (T : Txt K mg) (F : FnP K "cost_of" s_cost_of f fd) (mx : mg "cost_of" = some (.ref f)) : Ok P w K mg base 1 "cost_of" F_cost_of :=
  okMk F.kp mx (F.bindsN fun _ _ _ _ _ _ us hl => match us, hl with | [_, _], _ => rfl) fnD_len (fn_okB (N := N_cost_of) (k := 0) F sc_cost_of fun cdv A outer s H E hr => by
    have sc := sc_cost_of
    exact (sd_one (sd_ret (pd_sum rfl (by rfl) T.n_sum (pde_f (pdf_lc rfl sc.nd (pid_r1 (by rfl) T.n_range (pd_len (by rfl) T.n_len (pd_var 0))) (blkOk_by (own := [("machine", 2)]) (N := N_cost_of) (sc := defScope s_cost_of) (by decide +kernel)) (by decide) (fun _ _ _ _ _ => (gd_name 2 sc.nd)) (fun _ _ _ _ _ => ptsd_nil) (fun _ _ _ _ _ => (pd_ix ixd (pd_ix ixd (pd_var 0) (pd_var 2)) (pd_ix ixd (pd_var 1) (pd_var 2)))) (tgok_n 2)))))))
/-! ### services -/
abbrev s_services : Stmt := topS 2
abbrev N_services : List Str := ["costs", "found", "_", "row", "hour"]
theorem sc_services : FnScope N_services ["costs"] (defScope s_services) := ⟨rfl, rfl, rfl, by decide +kernel, rfl, by decide +kernel, by decide +kernel⟩
def F_services : List Arg → M D := fnD 1 5 ((sSeq (sAsg (gN 1) (dLst [(dTup [])]))
  (sSeq (sFor (iSeq (dVar 0)) (gN 2) (sAsg (gN 1) (dComp2 [3, 4] [4] (iSeq (dVar 1)) (gN 3) tTrue (iR1 (dUn bLen (dBin oIx (dVar 0) (dC (.int 0))))) (gN 4) (tOf (dBin oNotIn (dVar 4) (dVar 3))) (dBin oAdd (dVar 3) (dTup [(dVar 4)])))))
  (sRet (dVar 1)))))
theorem ok_services (T : Txt K mg) (F : FnP K "services" s_services f fd) (mx : mg "services" = some (.ref f)) : Ok P w K mg base 1 "services" F_services :=
  okMk F.kp mx (F.bindsN fun _ _ _ _ _ _ us hl => match us, hl with | [_], _ => rfl) fnD_len (fn_okB (N := N_services) (k := 0) F sc_services fun cdv A outer s H E hr => by
    have sc := sc_services
    have hu := roomHu hr
    exact (sd_cons (sd_asg (i := 1) sc.nd (pde_f (pdf_lst (pdl_cons (pd_tup pdl_nil) pdl_nil))))
       (sd_cons (sd_for (passes_of rfl) rfl (pid_seq (pd_var 0)) (gd_name 2 sc.nd) (sd_one (sd_lcd (ps_lcn2 (i := 1) rfl sc.nd (sw_true rfl rfl rfl (by decide +kernel)) (pid_seq (pd_var 1)) (blkOk_by (own := [("row", 3), ("hour", 4)]) (N := N_services) (sc := defScope s_services) (by decide +kernel)) (by decide) (by decide) (by decide) (fun _ _ _ _ _ => (gd_name 3 sc.nd)) (fun _ _ _ _ _ => ptsd_nil) (fun _ _ _ _ _ => (pid_r1 (by rfl) T.n_range (pd_len (by rfl) T.n_len (pd_ix ixd (pd_var 0) pd_int)))) (fun _ _ _ _ _ => (gd_name 4 sc.nd)) (fun _ _ _ _ _ => (ptsd_one (pdt_cmp (opd_notin hu) (pd_var 4) (pd_var 3) (by rfl)))) (fun _ _ _ _ _ => (pd_bin opd_add (pd_var 3) (pd_tup (pdl_cons (pd_var 4) pdl_nil)))) (tgok_n 3) (tgok_n 4)))))
       (sd_one (sd_ret (pd_var 1))))))
/-! ### first_service -/
abbrev s_first_service : Stmt := topS 3
abbrev N_first_service : List Str := ["costs", "service"]
theorem sc_first_service : FnScope N_first_service ["costs"] (defScope s_first_service) := ⟨rfl, rfl, rfl, by decide +kernel, rfl, by decide +kernel, by decide +kernel⟩
def F_first_service : List Arg → M D := fnD 1 2 ((sRet (dBin oIx (dUn bMin (dComp [1] (iSeq (dCall F_services [(aD (dVar 0))])) (gN 1) tTrue (dTup [(dCall F_cost_of [(aD (dVar 0)), (aD (dVar 1))]), (dVar 1)]))) (dC (.int 1)))))
theorem ok_first_service (T : Txt K mg) (F : FnP K "first_service" s_first_service f fd) (mx : mg "first_service" = some (.ref f)) (g_services : Ok P w K mg base 1 "services" F_services) (g_cost_of : Ok P w K mg base 1 "cost_of" F_cost_of) : Ok P w K mg base 2 "first_service" F_first_service :=
  okMk F.kp mx (F.bindsN fun _ _ _ _ _ _ us hl => match us, hl with | [_], _ => rfl) fnD_len (fn_okB (N := N_first_service) (k := 1) F sc_first_service fun cdv A outer s H E hr => by
    have sc := sc_first_service
    have hu := roomHu hr
    exact (sd_one (sd_ret (pd_ix ixd (pd_min hu rfl (by rfl) T.n_min (pde_f (pdf_lc rfl sc.nd (pid_seq (pd_call (takes_of rfl rfl rfl rfl) (g_services.fnd hr) (by rfl) (pda_d (pd_var 0) pda_nil))) (blkOk_by (own := [("service", 1)]) (N := N_first_service) (sc := defScope s_first_service) (by decide +kernel)) (by decide) (fun _ _ _ _ _ => (gd_name 1 sc.nd)) (fun _ _ _ _ _ => ptsd_nil) (fun _ _ _ _ _ => (pd_tup (pdl_cons (pd_call takes0 (g_cost_of.fnd hr) (by rfl) (pda_d (pd_var 0) (pda_d (pd_var 1) pda_nil))) (pdl_cons (pd_var 1) pdl_nil)))) (tgok_n 1)))) pd_int))))
/-! ### least_cost -/
abbrev s_least_cost : Stmt := topS 4
abbrev N_least_cost : List Str := ["costs"]
theorem sc_least_cost : FnScope N_least_cost ["costs"] (defScope s_least_cost) := ⟨rfl, rfl, rfl, by decide +kernel, rfl, by decide +kernel, by decide +kernel⟩
def F_least_cost : List Arg → M D := fnD 1 1 ((sRet (dCall F_cost_of [(aD (dVar 0)), (aD (dCall F_first_service [(aD (dVar 0))]))])))
theorem ok_least_cost (T : Txt K mg) (F : FnP K "least_cost" s_least_cost f fd) (mx : mg "least_cost" = some (.ref f)) (g_cost_of : Ok P w K mg base 1 "cost_of" F_cost_of) (g_first_service : Ok P w K mg base 2 "first_service" F_first_service) : Ok P w K mg base 3 "least_cost" F_least_cost :=
  okMk F.kp mx (F.bindsN fun _ _ _ _ _ _ us hl => match us, hl with | [_], _ => rfl) fnD_len (fn_okB (N := N_least_cost) (k := 2) F sc_least_cost fun cdv A outer s H E hr => by
    have sc := sc_least_cost
    exact (sd_one (sd_ret (pd_call (takes_of rfl rfl rfl rfl) (g_cost_of.fnd hr) (by rfl) (pda_d (pd_var 0) (pda_d (pd_call (takes_of rfl rfl rfl rfl) (g_first_service.fnd hr) (by rfl) (pda_d (pd_var 0) pda_nil)) pda_nil))))))
/-! ### joined -/
abbrev s_joined : Stmt := topS 6
abbrev N_joined : List Str := ["cables", "net", "start", "found", "at", "place", "a", "b", "_"]
theorem sc_joined : FnScope N_joined ["cables", "net", "start"] (defScope s_joined) := ⟨rfl, rfl, rfl, by decide +kernel, rfl, by decide +kernel, by decide +kernel⟩
def F_joined : List Arg → M D := fnD 3 9 ((sSeq (sOwn 3 (dLst [(dVar 2)]))
  (sSeq (sAsg (gN 4) (dC (.int 0)))
  (sSeq (sWhile fuelW (tOf (dBin oLt (dVar 4) (dUn bLen (dVar 3)))) (sSeq (sFor (iSeq (dVar 1)) (gN 5) (sSeq (sAsg (gT [(gN 6), (gN 7), (gN 8)]) (dBin oIx (dBin oIx (dVar 0) (dC (.int 1))) (dVar 5)))
  (sIf (tAnd (tOf (dBin oIn (dBin oIx (dVar 3) (dVar 4)) (dTup [(dVar 6), (dVar 7)]))) (tOf (dBin oNotIn (dBin oSub (dBin oAdd (dVar 6) (dVar 7)) (dBin oIx (dVar 3) (dVar 4))) (dVar 3)))) (sAppF 3 (dBin oSub (dBin oAdd (dVar 6) (dVar 7)) (dBin oIx (dVar 3) (dVar 4)))) sNil)))
  (sAugA 4 (dC (.int 1)))))
  (sRet (dUn bTuple (dUn bSorted (dVar 3))))))))
theorem ok_joined (T : Txt K mg) (F : FnP K "joined" s_joined f fd) (mx : mg "joined" = some (.ref f)) : Ok P w K mg base 1 "joined" F_joined :=
  okMk F.kp mx (F.bindsN fun _ _ _ _ _ _ us hl => match us, hl with | [_, _, _], _ => rfl) fnD_len (fn_okB (N := N_joined) (k := 0) F sc_joined fun cdv A outer s H E hr => by
    have sc := sc_joined
    have hu := roomHu hr
    exact (sd_cons (sd_own (i := 3) sc.nd (pdf_lst (pdl_cons (pd_var 2) pdl_nil)))
       (sd_cons (sd_asg (i := 4) sc.nd pd_int)
       (sd_cons (sd_while (passes_of rfl) (pdt_cmp opd_lt (pd_var 4) (pd_len (by rfl) T.n_len (pd_var 3))) (sd_cons (sd_for (passes_of rfl) rfl (pid_seq (pd_var 1)) (gd_name 5 sc.nd) (sd_cons (sd_tgt (pd_ix ixd (pd_ix ixd (pd_var 0) pd_int) (pd_var 5)) (gd_tup rfl (gds_cons (gd_name 6 sc.nd) (gds_cons (gd_name 7 sc.nd) (gds_cons (gd_name 8 sc.nd) gds_nil)))))
       (sd_one (sd_if (pdt_w (pdw_and (pdt_cmp (opd_in hu) (pd_ix ixd (pd_var 3) (pd_var 4)) (pd_tup (pdl_cons (pd_var 6) (pdl_cons (pd_var 7) pdl_nil))) (by rfl)) (pdw_and1 (pdt_cmp (opd_notin hu) (pd_bin opd_sub (pd_bin opd_add (pd_var 6) (pd_var 7)) (pd_ix ixd (pd_var 3) (pd_var 4))) (pd_var 3) (by rfl))))) (sd_one (sd_app (i := 3) (pd_bin opd_sub (pd_bin opd_add (pd_var 6) (pd_var 7)) (pd_ix ixd (pd_var 3) (pd_var 4)))).2) sd_nil))))
       (sd_one (sd_aug (i := 4) sc.nd pd_int))))
       (sd_one (sd_ret (pd_tuple (by rfl) T.n_tuple (pde_f (pdf_sorted hu (by rfl) T.n_sorted (pd_var 3))))))))))
/-! ### least_net -/
abbrev s_least_net : Stmt := topS 7
abbrev N_least_net : List Str := ["cables", "net", "order", "_", "place", "a", "b"]
theorem sc_least_net : FnScope N_least_net ["cables"] (defScope s_least_net) := ⟨rfl, rfl, rfl, by decide +kernel, rfl, by decide +kernel, by decide +kernel⟩
def F_least_net : List Arg → M D := fnD 1 7 ((sSeq (sOwn 1 (dLst []))
  (sSeq (sAsg (gN 2) (dUn bSorted (dComp [4] (iR1 (dUn bLen (dBin oIx (dVar 0) (dC (.int 1))))) (gN 4) tTrue (dTup [(dBin oIx (dBin oIx (dBin oIx (dVar 0) (dC (.int 1))) (dVar 4)) (dC (.int 2))), (dVar 4)]))))
  (sSeq (sFor (iSeq (dVar 2)) (gT [(gN 3), (gN 4)]) (sSeq (sAsg (gT [(gN 5), (gN 6), (gN 3)]) (dBin oIx (dBin oIx (dVar 0) (dC (.int 1))) (dVar 4)))
  (sIf (tOf (dBin oNotIn (dVar 6) (dCall F_joined [(aD (dVar 0)), (aD (dVar 1)), (aD (dVar 5))]))) (sApp 1 (dVar 4)) sNil)))
  (sRet (dUn bTuple (dUn bSorted (dVar 1))))))))
theorem ok_least_net (T : Txt K mg) (F : FnP K "least_net" s_least_net f fd) (mx : mg "least_net" = some (.ref f)) (g_joined : Ok P w K mg base 1 "joined" F_joined) : Ok P w K mg base 2 "least_net" F_least_net :=
  okMk F.kp mx (F.bindsN fun _ _ _ _ _ _ us hl => match us, hl with | [_], _ => rfl) fnD_len (fn_okB (N := N_least_net) (k := 1) F sc_least_net fun cdv A outer s H E hr => by
    have sc := sc_least_net
    have hu := roomHu hr
    exact (sd_cons (sd_own (i := 1) sc.nd (pdf_lst pdl_nil))
       (sd_cons (sd_asg (i := 2) sc.nd (pde_f (pdf_sorted hu (by rfl) T.n_sorted (pde_f (pdf_lc rfl sc.nd (pid_r1 (by rfl) T.n_range (pd_len (by rfl) T.n_len (pd_ix ixd (pd_var 0) pd_int))) (blkOk_by (own := [("place", 4)]) (N := N_least_net) (sc := defScope s_least_net) (by decide +kernel)) (by decide) (fun _ _ _ _ _ => (gd_name 4 sc.nd)) (fun _ _ _ _ _ => ptsd_nil) (fun _ _ _ _ _ => (pd_tup (pdl_cons (pd_ix ixd (pd_ix ixd (pd_ix ixd (pd_var 0) pd_int) (pd_var 4)) pd_int) (pdl_cons (pd_var 4) pdl_nil)))) (tgok_n 4))))))
       (sd_cons (sd_for (passes_of rfl) rfl (pid_seq (pd_var 2)) (gd_tup rfl (gds_cons (gd_name 3 sc.nd) (gds_cons (gd_name 4 sc.nd) gds_nil))) (sd_cons (sd_tgt (pd_ix ixd (pd_ix ixd (pd_var 0) pd_int) (pd_var 4)) (gd_tup rfl (gds_cons (gd_name 5 sc.nd) (gds_cons (gd_name 6 sc.nd) (gds_cons (gd_name 3 sc.nd) gds_nil)))))
       (sd_one (sd_if (pdt_cmp (opd_notin hu) (pd_var 6) (pd_call (takes_of rfl rfl rfl rfl) (g_joined.fnd hr) (by rfl) (pda_d (pd_var 0) (pda_d (pd_var 1) (pda_d (pd_var 5) pda_nil)))) (by rfl)) (sd_one (sd_app (i := 1) (pd_var 4)).1) sd_nil))))
       (sd_one (sd_ret (pd_tuple (by rfl) T.n_tuple (pde_f (pdf_sorted hu (by rfl) T.n_sorted (pd_var 1))))))))))
/-! ### cable_paper -/
abbrev s_cable_paper : Stmt := topS 8
abbrev N_cable_paper : List Str := ["cables", "net"]
theorem sc_cable_paper : FnScope N_cable_paper ["cables"] (defScope s_cable_paper) := ⟨rfl, rfl, rfl, by decide +kernel, rfl, by decide +kernel, by decide +kernel⟩
def F_cable_paper : List Arg → M D := fnD 1 2 ((sSeq (sAsg (gN 1) (dCall F_least_net [(aD (dVar 0))]))
  (sSeq (sIf (tOf (dBin oEq (dUn bLen (dVar 1)) (dBin oSub (dBin oIx (dVar 0) (dC (.int 0))) (dC (.int 1))))) (sRet (dTup [(dC (.str "net")), (dVar 1)])) sNil)
  (sRet (dTup [(dC (.str "apart")), (dCall F_joined [(aD (dVar 0)), (aD (dVar 1)), (aD (dC (.int 0)))])])))))
theorem ok_cable_paper (T : Txt K mg) (F : FnP K "cable_paper" s_cable_paper f fd) (mx : mg "cable_paper" = some (.ref f)) (g_least_net : Ok P w K mg base 2 "least_net" F_least_net) (g_joined : Ok P w K mg base 1 "joined" F_joined) : Ok P w K mg base 3 "cable_paper" F_cable_paper :=
  okMk F.kp mx (F.bindsN fun _ _ _ _ _ _ us hl => match us, hl with | [_], _ => rfl) fnD_len (fn_okB (N := N_cable_paper) (k := 2) F sc_cable_paper fun cdv A outer s H E hr => by
    have sc := sc_cable_paper
    have hu := roomHu hr
    exact (sd_cons (sd_asg (i := 1) sc.nd (pd_call (takes_of rfl rfl rfl rfl) (g_least_net.fnd hr) (by rfl) (pda_d (pd_var 0) pda_nil)))
       (sd_cons (sd_if (pdt_cmp (opd_eq hu) (pd_len (by rfl) T.n_len (pd_var 1)) (pd_bin opd_sub (pd_ix ixd (pd_var 0) pd_int) pd_int)) (sd_one (sd_ret (pd_tup (pdl_cons pd_str (pdl_cons (pd_var 1) pdl_nil))))) sd_nil)
       (sd_one (sd_ret (pd_tup (pdl_cons pd_str (pdl_cons (pd_call (takes_of rfl rfl rfl rfl) (g_joined.fnd hr) (by rfl) (pda_d (pd_var 0) (pda_d (pd_var 1) (pda_d pd_int pda_nil)))) pdl_nil))))))))
/-! ### cost_of_net -/
abbrev s_cost_of_net : Stmt := topS 9
abbrev N_cost_of_net : List Str := ["cables", "net", "place"]
theorem sc_cost_of_net : FnScope N_cost_of_net ["cables", "net"] (defScope s_cost_of_net) := ⟨rfl, rfl, rfl, by decide +kernel, rfl, by decide +kernel, by decide +kernel⟩
def F_cost_of_net : List Arg → M D := fnD 2 3 ((sRet (dUn bSum (dComp [2] (iSeq (dVar 1)) (gN 2) tTrue (dBin oIx (dBin oIx (dBin oIx (dVar 0) (dC (.int 1))) (dVar 2)) (dC (.int 2)))))))
theorem ok_cost_of_net (T : Txt K mg) (F : FnP K "cost_of_net" s_cost_of_net f fd) (mx : mg "cost_of_net" = some (.ref f)) : Ok P w K mg base 1 "cost_of_net" F_cost_of_net :=
  okMk F.kp mx (F.bindsN fun _ _ _ _ _ _ us hl => match us, hl with | [_, _], _ => rfl) fnD_len (fn_okB (N := N_cost_of_net) (k := 0) F sc_cost_of_net fun cdv A outer s H E hr => by
    have sc := sc_cost_of_net
    exact (sd_one (sd_ret (pd_sum rfl (by rfl) T.n_sum (pde_f (pdf_lc rfl sc.nd (pid_seq (pd_var 1)) (blkOk_by (own := [("place", 2)]) (N := N_cost_of_net) (sc := defScope s_cost_of_net) (by decide +kernel)) (by decide) (fun _ _ _ _ _ => (gd_name 2 sc.nd)) (fun _ _ _ _ _ => ptsd_nil) (fun _ _ _ _ _ => (pd_ix ixd (pd_ix ixd (pd_ix ixd (pd_var 0) pd_int) (pd_var 2)) pd_int)) (tgok_n 2)))))))
/-! ### least_cables -/
abbrev s_least_cables : Stmt := topS 10
abbrev N_least_cables : List Str := ["cables", "paper"]
theorem sc_least_cables : FnScope N_least_cables ["cables"] (defScope s_least_cables) := ⟨rfl, rfl, rfl, by decide +kernel, rfl, by decide +kernel, by decide +kernel⟩
def F_least_cables : List Arg → M D := fnD 1 2 ((sSeq (sAsg (gN 1) (dCall F_cable_paper [(aD (dVar 0))]))
  (sRet (dIf (tOf (dBin oEq (dBin oIx (dVar 1) (dC (.int 0))) (dC (.str "net")))) (dCall F_cost_of_net [(aD (dVar 0)), (aD (dBin oIx (dVar 1) (dC (.int 1))))]) (dC .none)))))
theorem ok_least_cables (T : Txt K mg) (F : FnP K "least_cables" s_least_cables f fd) (mx : mg "least_cables" = some (.ref f)) (g_cable_paper : Ok P w K mg base 3 "cable_paper" F_cable_paper) (g_cost_of_net : Ok P w K mg base 1 "cost_of_net" F_cost_of_net) : Ok P w K mg base 4 "least_cables" F_least_cables :=
  okMk F.kp mx (F.bindsN fun _ _ _ _ _ _ us hl => match us, hl with | [_], _ => rfl) fnD_len (fn_okB (N := N_least_cables) (k := 3) F sc_least_cables fun cdv A outer s H E hr => by
    have sc := sc_least_cables
    have hu := roomHu hr
    exact (sd_cons (sd_asg (i := 1) sc.nd (pd_call (takes_of rfl rfl rfl rfl) (g_cable_paper.fnd hr) (by rfl) (pda_d (pd_var 0) pda_nil)))
       (sd_one (sd_ret (pd_if (pdt_cmp (opd_eq hu) (pd_ix ixd (pd_var 1) pd_int) pd_str) (pd_call (takes_of rfl rfl rfl rfl) (g_cost_of_net.fnd hr) (by rfl) (pda_d (pd_var 0) (pda_d (pd_ix ixd (pd_var 1) pd_int) pda_nil))) pd_non)))))
/-! ### _law_same -/
abbrev s__law_same : Stmt := topS 12
abbrev N__law_same : List Str := ["actual", "due", "k"]
theorem sc__law_same : FnScope N__law_same ["actual", "due"] (defScope s__law_same) := ⟨rfl, rfl, rfl, by decide +kernel, rfl, by decide +kernel, by decide +kernel⟩
def B__law_same (rc : List Arg → M D) : DS := (sSeq (sIf (tOr (tOf (dUn bIsTup (dVar 1))) (tOf (dUn bIsLst (dVar 1)))) (sSeq (sIf (tOr (tOf (dBin oNe (dUn bIsTup (dVar 1)) (dUn bIsTup (dVar 0)))) (tOr (tOf (dBin oNe (dUn bIsLst (dVar 1)) (dUn bIsLst (dVar 0)))) (tOf (dBin oNe (dUn bLen (dVar 0)) (dUn bLen (dVar 1)))))) (sRet (dC (.bool false))) sNil)
  (sRet (dBin oEq (dUn bLen (dComp [2] (iR1 (dUn bLen (dVar 1))) (gN 2) (tNot (tOf (dCall rc [(aD (dBin oIx (dVar 0) (dVar 2))), (aD (dBin oIx (dVar 1) (dVar 2)))]))) (dVar 2))) (dC (.int 0))))) sNil)
  (sSeq (sIf (tOf (dUn oIsN (dVar 1))) (sRet (dUn oIsN (dVar 0))) sNil)
  (sSeq (sIf (tOr (tOf (dUn bIsBool (dVar 1))) (tOf (dUn bIsBool (dVar 0)))) (sRet (dAnd (dUn bIsBool (dVar 1)) (dAnd (dUn bIsBool (dVar 0)) (dBin oEq (dVar 0) (dVar 1))))) sNil)
  (sSeq (sIf (tOf (dUn bIsInt (dVar 1))) (sRet (dAnd (dUn bIsInt (dVar 0)) (dBin oEq (dVar 0) (dVar 1)))) sNil)
  (sRet (dAnd (dUn bIsStr (dVar 0)) (dAnd (dUn bIsStr (dVar 1)) (dBin oEq (dVar 0) (dVar 1)))))))))
def F__law_same : Nat → List Arg → M D
  | 0 => fnD 2 3 (fun _ => M.stuck)
  | n + 1 => fnD 2 3 (B__law_same (F__law_same n))
theorem ok__law_same (T : Txt K mg) (F : FnP K "_law_same" s__law_same f fd) (mx : mg "_law_same" = some (.ref f)) : ∀ n, Ok P w K mg base (1 + n) "_law_same" (F__law_same n)
  | 0 => okMk F.kp mx (F.bindsN fun _ _ _ _ _ _ us hl => match us, hl with | [_, _], _ => rfl) fnD_len (fn_okB (N := N__law_same) (k := 0) F sc__law_same fun cdv A outer s H E hr => ⟨tNever, pss_never, fun _ _ _ _ _ _ _ _ _ _ _ h => h.elim⟩)
  | n + 1 => okMk F.kp mx (F.bindsN fun _ _ _ _ _ _ us hl => match us, hl with | [_, _], _ => rfl) fnD_len (fn_okB (N := N__law_same) (k := 1 + n) F sc__law_same fun cdv A outer s H E hr => by
    have g__law_same := ok__law_same T F mx n
    have sc := sc__law_same
    have hu := roomHu hr
    exact (sd_cons (sd_if (pdt_w (pdw_or (pdt_val (pd_isi_tup (by rfl) T.n_isinstance (by rfl) T.n_tuple (pd_var 1))) (pdw_or1 (pdt_val (pd_isi_lst (by rfl) T.n_isinstance (by rfl) T.n_list (pd_var 1)))))) (sd_cons (sd_if (pdt_w (pdw_or (pdt_cmp (opd_ne hu) (pd_isi_tup (by rfl) T.n_isinstance (by rfl) T.n_tuple (pd_var 1)) (pd_isi_tup (by rfl) T.n_isinstance (by rfl) T.n_tuple (pd_var 0))) (pdw_or (pdt_cmp (opd_ne hu) (pd_isi_lst (by rfl) T.n_isinstance (by rfl) T.n_list (pd_var 1)) (pd_isi_lst (by rfl) T.n_isinstance (by rfl) T.n_list (pd_var 0))) (pdw_or1 (pdt_cmp (opd_ne hu) (pd_len (by rfl) T.n_len (pd_var 0)) (pd_len (by rfl) T.n_len (pd_var 1))))))) (sd_one (sd_ret pd_bl)) sd_nil)
       (sd_one (sd_ret (pd_cmp (opd_eq hu) (pd_len (by rfl) T.n_len (pde_f (pdf_lc rfl sc.nd (pid_r1 (by rfl) T.n_range (pd_len (by rfl) T.n_len (pd_var 1))) (blkOk_by (own := [("k", 2)]) (N := N__law_same) (sc := defScope s__law_same) (by decide +kernel)) (by decide) (fun _ _ _ _ _ => (gd_name 2 sc.nd)) (fun _ _ _ _ _ => (ptsd_one (pdt_not (pdt_val (pd_call takes0 (g__law_same.fnd hr) (by rfl) (pda_d (pd_ix ixd (pd_var 0) (pd_var 2)) (pda_d (pd_ix ixd (pd_var 1) (pd_var 2)) pda_nil))))))) (fun _ _ _ _ _ => (pd_var 2)) (tgok_n 2)))) pd_int)))) sd_nil)
       (sd_cons (sd_if (pdt_isN (pd_var 1)) (sd_one (sd_ret (pd_isN (pd_var 0)))) sd_nil)
       (sd_cons (sd_if (pdt_w (pdw_or (pdt_val (pd_isi_bool (by rfl) T.n_isinstance (by rfl) T.n_bool (pd_var 1))) (pdw_or1 (pdt_val (pd_isi_bool (by rfl) T.n_isinstance (by rfl) T.n_bool (pd_var 0)))))) (sd_one (sd_ret (pd_and (pd_isi_bool (by rfl) T.n_isinstance (by rfl) T.n_bool (pd_var 1)) (pd_and (pd_isi_bool (by rfl) T.n_isinstance (by rfl) T.n_bool (pd_var 0)) (pd_one (pd_cmp (opd_eq hu) (pd_var 0) (pd_var 1))))))) sd_nil)
       (sd_cons (sd_if (pdt_val (pd_isi_int (by rfl) T.n_isinstance (by rfl) T.n_int (pd_var 1))) (sd_one (sd_ret (pd_and (pd_isi_int (by rfl) T.n_isinstance (by rfl) T.n_int (pd_var 0)) (pd_one (pd_cmp (opd_eq hu) (pd_var 0) (pd_var 1)))))) sd_nil)
       (sd_one (sd_ret (pd_and (pd_isi_str (by rfl) T.n_isinstance (by rfl) T.n_str (pd_var 0)) (pd_and (pd_isi_str (by rfl) T.n_isinstance (by rfl) T.n_str (pd_var 1)) (pd_one (pd_cmp (opd_eq hu) (pd_var 0) (pd_var 1))))))))))))
/-! ### _law_pick -/
abbrev s__law_pick : Stmt := topS 16
abbrev N__law_pick : List Str := ["pool", "items"]
theorem sc__law_pick : FnScope N__law_pick ["pool", "items"] (defScope s__law_pick) := ⟨rfl, rfl, rfl, by decide +kernel, rfl, by decide +kernel, by decide +kernel⟩
def F__law_pick : List Arg → M D := fnD 2 2 ((sRet (dBin oIx (dVar 1) (dCall F_draw [(aPool 0), (aD (dUn bLen (dVar 1)))]))))
theorem ok__law_pick (T : Txt K mg) (F : FnP K "_law_pick" s__law_pick f fd) (mx : mg "_law_pick" = some (.ref f)) (g__law_draw : Ok P w K mg base 2 "_law_draw" F_draw) : Ok P w K mg base 3 "_law_pick" F__law_pick :=
  okMk F.kp mx (F.bindsN fun _ _ _ _ _ _ us hl => match us, hl with | [_, _], _ => rfl) fnD_len (fn_okB (N := N__law_pick) (k := 2) F sc__law_pick fun cdv A outer s H E hr => by
    have sc := sc__law_pick
    exact (sd_one (sd_ret (pd_ix ixd (pd_var 1) (pd_call (takes_of rfl rfl rfl rfl) (g__law_draw.fnd hr) (by rfl) (pda_pool 0 (pda_d (pd_len (by rfl) T.n_len (pd_var 1)) pda_nil)))))))
/-! ### _law_costs -/
abbrev s__law_costs : Stmt := topS 17
abbrev N__law_costs : List Str := ["pool", "many", "hours", "far", "k", "j"]
theorem sc__law_costs : FnScope N__law_costs ["pool"] (defScope s__law_costs) := ⟨rfl, rfl, rfl, by decide +kernel, rfl, by decide +kernel, by decide +kernel⟩
def F__law_costs : List Arg → M D := fnD 1 6 ((sSeq (sAsg (gN 1) (dBin oAdd (dC (.int 1)) (dCall F_draw [(aPool 0), (aD (dC (.int 4)))])))
  (sSeq (sAsg (gN 2) (dBin oAdd (dVar 1) (dCall F_draw [(aPool 0), (aD (dBin oSub (dC (.int 7)) (dVar 1)))])))
  (sSeq (sAsg (gN 3) (dBin oIx (dTup [(dC (.int 3)), (dC (.int 10)), (dC (.int 100))]) (dCall F_draw [(aPool 0), (aD (dC (.int 3)))])))
  (sRet (dUn bTuple (dComp [4] (iR1 (dVar 1)) (gN 4) tTrue (dUn bTuple (dComp [5] (iR1 (dVar 2)) (gN 5) tTrue (dCall F_draw [(aPool 0), (aD (dVar 3))]))))))))))
theorem ok__law_costs (T : Txt K mg) (F : FnP K "_law_costs" s__law_costs f fd) (mx : mg "_law_costs" = some (.ref f)) (g__law_draw : Ok P w K mg base 2 "_law_draw" F_draw) : Ok P w K mg base 3 "_law_costs" F__law_costs :=
  okMk F.kp mx (F.bindsN fun _ _ _ _ _ _ us hl => match us, hl with | [_], _ => rfl) fnD_len (fn_okB (N := N__law_costs) (k := 2) F sc__law_costs fun cdv A outer s H E hr => by
    have sc := sc__law_costs
    exact (sd_cons (sd_asg (i := 1) sc.nd (pd_bin opd_add pd_int (pd_call (takes_of rfl rfl rfl rfl) (g__law_draw.fnd hr) (by rfl) (pda_pool 0 (pda_d pd_int pda_nil)))))
       (sd_cons (sd_asg (i := 2) sc.nd (pd_bin opd_add (pd_var 1) (pd_call (takes_of rfl rfl rfl rfl) (g__law_draw.fnd hr) (by rfl) (pda_pool 0 (pda_d (pd_bin opd_sub pd_int (pd_var 1)) pda_nil)))))
       (sd_cons (sd_asg (i := 3) sc.nd (pd_ix ixd (pd_tup (pdl_cons pd_int (pdl_cons pd_int (pdl_cons pd_int pdl_nil)))) (pd_call (takes_of rfl rfl rfl rfl) (g__law_draw.fnd hr) (by rfl) (pda_pool 0 (pda_d pd_int pda_nil)))))
       (sd_one (sd_ret (pd_tuple (by rfl) T.n_tuple (pde_f (pdf_lc rfl sc.nd (pid_r1 (by rfl) T.n_range (pd_var 1)) (blkOk_by (own := [("k", 4)]) (N := N__law_costs) (sc := defScope s__law_costs) (by decide +kernel)) (by decide) (fun _ _ _ _ _ => (gd_name 4 sc.nd)) (fun _ _ _ _ _ => ptsd_nil) (fun _ _ _ _ _ => (pd_tuple (by rfl) T.n_tuple (pde_f (pdf_lc rfl sc.nd (pid_r1 (by rfl) T.n_range (pd_var 2)) (blkOk_by (own := [("j", 5)]) (N := N__law_costs) (by rfl)) (by decide) (fun _ _ _ _ _ => (gd_name 5 sc.nd)) (fun _ _ _ _ _ => ptsd_nil) (fun _ _ _ _ _ => (pd_call takes0 (g__law_draw.fnd hr) (by rfl) (pda_pool 0 (pda_d (pd_var 3) pda_nil)))) (tgok_n 5))))) (tgok_n 4))))))))))
/-! ### _law_services -/
abbrev s__law_services : Stmt := topS 18
abbrev N__law_services : List Str := ["costs", "rows", "machine", "longer", "row", "hour", "k"]
theorem sc__law_services : FnScope N__law_services ["costs"] (defScope s__law_services) := ⟨rfl, rfl, rfl, by decide +kernel, rfl, by decide +kernel, by decide +kernel⟩
def F__law_services : List Arg → M D := fnD 1 7 ((sSeq (sAsg (gN 1) (dLst [(dTup [])]))
  (sSeq (sFor (iSeq (dVar 0)) (gN 2) (sSeq (sAsg (gN 3) (dLst []))
  (sSeq (sFor (iSeq (dVar 1)) (gN 4) (sAsg (gN 3) (dBin oAdd (dVar 3) (dComp [5] (iR1 (dUn bLen (dBin oIx (dVar 0) (dC (.int 0))))) (gN 5) (tOf (dBin oNotIn (dVar 5) (dVar 4))) (dBin oAdd (dVar 4) (dTup [(dVar 5)]))))))
  (sAsg (gN 1) (dVar 3)))))
  (sRet (dComp [4] (iSeq (dVar 1)) (gN 4) tTrue (dTup [(dUn bSum (dComp [6] (iR1 (dUn bLen (dVar 4))) (gN 6) tTrue (dBin oIx (dBin oIx (dVar 0) (dVar 6)) (dBin oIx (dVar 4) (dVar 6))))), (dVar 4)]))))))
theorem ok__law_services (T : Txt K mg) (F : FnP K "_law_services" s__law_services f fd) (mx : mg "_law_services" = some (.ref f)) : Ok P w K mg base 1 "_law_services" F__law_services :=
  okMk F.kp mx (F.bindsN fun _ _ _ _ _ _ us hl => match us, hl with | [_], _ => rfl) fnD_len (fn_okB (N := N__law_services) (k := 0) F sc__law_services fun cdv A outer s H E hr => by
    have sc := sc__law_services
    have hu := roomHu hr
    exact (sd_cons (sd_asg (i := 1) sc.nd (pde_f (pdf_lst (pdl_cons (pd_tup pdl_nil) pdl_nil))))
       (sd_cons (sd_for (passes_of rfl) rfl (pid_seq (pd_var 0)) (gd_name 2 sc.nd) (sd_cons (sd_asg (i := 3) sc.nd (pde_f (pdf_lst pdl_nil)))
       (sd_cons (sd_for (passes_of rfl) rfl (pid_seq (pd_var 1)) (gd_name 4 sc.nd) (sd_one (sd_asg (i := 3) sc.nd (pd_bin opd_add (pd_var 3) (pde_f (pdf_lc rfl sc.nd (pid_r1 (by rfl) T.n_range (pd_len (by rfl) T.n_len (pd_ix ixd (pd_var 0) pd_int))) (blkOk_by (own := [("hour", 5)]) (N := N__law_services) (sc := defScope s__law_services) (by decide +kernel)) (by decide) (fun _ _ _ _ _ => (gd_name 5 sc.nd)) (fun _ _ _ _ _ => (ptsd_one (pdt_cmp (opd_notin hu) (pd_var 5) (pd_var 4) (by rfl)))) (fun _ _ _ _ _ => (pd_bin opd_add (pd_var 4) (pd_tup (pdl_cons (pd_var 5) pdl_nil)))) (tgok_n 5)))))))
       (sd_one (sd_asg (i := 1) sc.nd (pd_var 3))))))
       (sd_one (sd_ret (pde_f (pdf_lc rfl sc.nd (pid_seq (pd_var 1)) (blkOk_by (own := [("row", 4)]) (N := N__law_services) (sc := defScope s__law_services) (by decide +kernel)) (by decide) (fun _ _ _ _ _ => (gd_name 4 sc.nd)) (fun _ _ _ _ _ => ptsd_nil) (fun _ _ _ _ _ => (pd_tup (pdl_cons (pd_sum rfl (by rfl) T.n_sum (pde_f (pdf_lc rfl sc.nd (pid_r1 (by rfl) T.n_range (pd_len (by rfl) T.n_len (pd_var 4))) (blkOk_by (own := [("k", 6)]) (N := N__law_services) (by rfl)) (by decide) (fun _ _ _ _ _ => (gd_name 6 sc.nd)) (fun _ _ _ _ _ => ptsd_nil) (fun _ _ _ _ _ => (pd_ix ixd (pd_ix ixd (pd_var 0) (pd_var 6)) (pd_ix ixd (pd_var 4) (pd_var 6)))) (tgok_n 6)))) (pdl_cons (pd_var 4) pdl_nil)))) (tgok_n 4))))))))
/-! ### _law_cables -/
abbrev s__law_cables : Stmt := topS 19
abbrev N__law_cables : List Str := ["pool", "most", "many", "edges", "dense", "far", "a", "b"]
theorem sc__law_cables : FnScope N__law_cables ["pool", "most"] (defScope s__law_cables) := ⟨rfl, rfl, rfl, by decide +kernel, rfl, by decide +kernel, by decide +kernel⟩
def F__law_cables : List Arg → M D := fnD 2 8 ((sSeq (sAsg (gN 2) (dBin oAdd (dC (.int 1)) (dCall F_draw [(aPool 0), (aD (dVar 1))])))
  (sSeq (sOwn 3 (dLst []))
  (sSeq (sAsg (gN 4) (dBin oIx (dTup [(dC (.int 1)), (dC (.int 2)), (dC (.int 3))]) (dCall F_draw [(aPool 0), (aD (dC (.int 3)))])))
  (sSeq (sAsg (gN 5) (dBin oIx (dTup [(dC (.int 2)), (dC (.int 6)), (dC (.int 100))]) (dCall F_draw [(aPool 0), (aD (dC (.int 3)))])))
  (sSeq (sFor (iR1 (dVar 2)) (gN 6) (sFor (iR2 (dBin oAdd (dVar 6) (dC (.int 1))) (dVar 2)) (gN 7) (sIf (tOf (dBin oEq (dCall F_draw [(aPool 0), (aD (dVar 4))]) (dC (.int 0)))) (sApp 3 (dTup [(dVar 6), (dVar 7), (dCall F_draw [(aPool 0), (aD (dVar 5))])])) sNil)))
  (sRet (dTup [(dVar 2), (dUn bTuple (dVar 3))]))))))))
theorem ok__law_cables (T : Txt K mg) (F : FnP K "_law_cables" s__law_cables f fd) (mx : mg "_law_cables" = some (.ref f)) (g__law_draw : Ok P w K mg base 2 "_law_draw" F_draw) : Ok P w K mg base 3 "_law_cables" F__law_cables :=
  okMk F.kp mx (F.bindsN fun _ _ _ _ _ _ us hl => match us, hl with | [_, _], _ => rfl) fnD_len (fn_okB (N := N__law_cables) (k := 2) F sc__law_cables fun cdv A outer s H E hr => by
    have sc := sc__law_cables
    have hu := roomHu hr
    exact (sd_cons (sd_asg (i := 2) sc.nd (pd_bin opd_add pd_int (pd_call (takes_of rfl rfl rfl rfl) (g__law_draw.fnd hr) (by rfl) (pda_pool 0 (pda_d (pd_var 1) pda_nil)))))
       (sd_cons (sd_own (i := 3) sc.nd (pdf_lst pdl_nil))
       (sd_cons (sd_asg (i := 4) sc.nd (pd_ix ixd (pd_tup (pdl_cons pd_int (pdl_cons pd_int (pdl_cons pd_int pdl_nil)))) (pd_call (takes_of rfl rfl rfl rfl) (g__law_draw.fnd hr) (by rfl) (pda_pool 0 (pda_d pd_int pda_nil)))))
       (sd_cons (sd_asg (i := 5) sc.nd (pd_ix ixd (pd_tup (pdl_cons pd_int (pdl_cons pd_int (pdl_cons pd_int pdl_nil)))) (pd_call (takes_of rfl rfl rfl rfl) (g__law_draw.fnd hr) (by rfl) (pda_pool 0 (pda_d pd_int pda_nil)))))
       (sd_cons (sd_for (passes_of rfl) rfl (pid_r1 (by rfl) T.n_range (pd_var 2)) (gd_name 6 sc.nd) (sd_one (sd_for (passes_of rfl) rfl (pid_r2 (by rfl) T.n_range (pd_bin opd_add (pd_var 6) pd_int) (pd_var 2)) (gd_name 7 sc.nd) (sd_one (sd_if (pdt_cmp (opd_eq hu) (pd_call (takes_of rfl rfl rfl rfl) (g__law_draw.fnd hr) (by rfl) (pda_pool 0 (pda_d (pd_var 4) pda_nil))) pd_int) (sd_one (sd_app (i := 3) (pd_tup (pdl_cons (pd_var 6) (pdl_cons (pd_var 7) (pdl_cons (pd_call (takes_of rfl rfl rfl rfl) (g__law_draw.fnd hr) (by rfl) (pda_pool 0 (pda_d (pd_var 5) pda_nil))) pdl_nil))))).1) sd_nil)))))
       (sd_one (sd_ret (pd_tup (pdl_cons (pd_var 2) (pdl_cons (pd_tuple (by rfl) T.n_tuple (pd_var 3)) pdl_nil)))))))))))
/-! ### law -/
abbrev s_law : Stmt := topS 20
abbrev N_law : List Str := ["script", "pool", "costs", "due", "wide", "dear", "told", "cables", "many", "edges", "cost", "missing", "a", "pair", "more", "row", "one", "b", "edge"]
theorem sc_law : FnScope N_law ["script"] (defScope s_law) := ⟨rfl, rfl, rfl, by decide +kernel, rfl, by decide +kernel, by decide +kernel⟩
def B_law : DS := (sSeq (sAsg (gN 2) (dCall F__law_costs [(aPool 1)]))
  (sSeq (sAsg (gN 2) (dUn bTuple (dComp [15] (iSeq (dVar 2)) (gN 15) tTrue (dSl (dVar 15) none (some (dC (.int 5)))))))
  (sSeq (sAsg (gN 3) (dBin oIx (dUn bMin (dCall F__law_services [(aD (dVar 2))])) (dC (.int 0))))
  (sSeq (sAsg (gN 4) (dUn bTuple (dComp [15] (iSeq (dVar 2)) (gN 15) tTrue (dBin oAdd (dVar 15) (dTup [(dCall F_draw [(aPool 1), (aD (dC (.int 100)))])])))))
  (sSeq (sAsg (gN 5) (dUn bTuple (dComp [15] (iSeq (dVar 2)) (gN 15) tTrue (dUn bTuple (dComp [16] (iSeq (dVar 15)) (gN 16) tTrue (dBin oAdd (dBin bMin2 (dC (.int 99)) (dVar 16)) (dUn bInt (dBin oLt (dVar 16) (dC (.int 99))))))))))
  (sSeq (sAsg (gN 6) (dLst [(dCall F_least_cost [(aD (dVar 2))]), (dCall F_least_cost [(aD (dVar 4))]), (dCall F_least_cost [(aD (dVar 5))])]))
  (sSeq (sIf (tOr (tNot (tOf (dCall (F__law_same 12) [(aD (dVar 6)), (aD (dLst [(dVar 3), (dBin oIx (dUn bMin (dCall F__law_services [(aD (dVar 4))])) (dC (.int 0))), (dBin oIx (dUn bMin (dCall F__law_services [(aD (dVar 5))])) (dC (.int 0)))]))]))) (tOf (dBin oGt (dBin oIx (dVar 6) (dC (.int 1))) (dVar 3)))) (sRet (dC (.bool false))) sNil)
  (sSeq (sAsg (gN 7) (dCall F__law_cables [(aPool 1), (aD (dC (.int 6)))]))
  (sSeq (sAsg (gT [(gN 8), (gN 9)]) (dVar 7))
  (sSeq (sAsg (gN 10) (dCall F_least_cables [(aD (dVar 7))]))
  (sSeq (sAsg (gN 11) (dLst []))
  (sSeq (sFor (iR1 (dVar 8)) (gN 12) (sAsg (gN 11) (dBin oAdd (dVar 11) (dComp [17] (iR2 (dBin oAdd (dVar 12) (dC (.int 1))) (dVar 8)) (gN 17) (tOf (dBin oNotIn (dTup [(dVar 12), (dVar 17)]) (dComp [18] (iSeq (dVar 9)) (gN 18) tTrue (dSl (dVar 18) none (some (dC (.int 2))))))) (dTup [(dVar 12), (dVar 17)])))))
  (sSeq (sIf (tOf (dBin oNe (dVar 11) (dLst []))) (sSeq (sAsg (gN 13) (dCall F__law_pick [(aPool 1), (aD (dVar 11))]))
  (sSeq (sAsg (gN 14) (dCall F_least_cables [(aD (dTup [(dVar 8), (dUn bTuple (dUn bSortedT (dBin oAdd (dVar 9) (dTup [(dBin oAdd (dVar 13) (dTup [(dCall F_draw [(aPool 1), (aD (dC (.int 100)))])]))]))))]))]))
  (sIf (tAnd (tOf (dUn oNotN (dVar 10))) (tOr (tOf (dUn oIsN (dVar 14))) (tOf (dBin oGt (dVar 14) (dVar 10))))) (sRet (dC (.bool false))) sNil))) sNil)
  (sSeq (sIf (tAnd (tOf (dUn oNotN (dVar 10))) (tOf (dBin oLt (dUn bMax (dBin oAdd (dComp [18] (iSeq (dVar 9)) (gN 18) tTrue (dBin oIx (dVar 18) (dC (.int 2)))) (dLst [(dC (.int 0))]))) (dC (.int 99))))) (sRet (dCall (F__law_same 12) [(aD (dCall F_least_cables [(aD (dTup [(dVar 8), (dUn bTuple (dComp [18] (iSeq (dVar 9)) (gN 18) tTrue (dBin oAdd (dSl (dVar 18) none (some (dC (.int 2)))) (dTup [(dBin oAdd (dBin oIx (dVar 18) (dC (.int 2))) (dC (.int 1)))]))))]))])), (aD (dBin oSub (dBin oAdd (dVar 10) (dVar 8)) (dC (.int 1))))])) sNil)
  (sRet (dC (.bool true)))))))))))))))))
abbrev rho0 : Rho := [none, some .pool] ++ List.replicate 17 none
theorem ok_law (T : Txt K mg) (F : FnP K "law" s_law f fd) {fp : Addr} {fdp : FuncData} (Fp : FnP K "_law_pool" s_pool fp fdp) (gp : mg "_law_pool" = some (.ref fp)) (g__law_costs : Ok P w K mg base 3 "_law_costs" F__law_costs) (g__law_services : Ok P w K mg base 1 "_law_services" F__law_services) (g__law_draw : Ok P w K mg base 2 "_law_draw" F_draw) (g_least_cost : Ok P w K mg base 3 "least_cost" F_least_cost) (g__law_same : Ok P w K mg base 13 "_law_same" (F__law_same 12)) (g__law_cables : Ok P w K mg base 3 "_law_cables" F__law_cables) (g_least_cables : Ok P w K mg base 4 "least_cables" F_least_cables) (g__law_pick : Ok P w K mg base 3 "_law_pick" F__law_pick) (good : ∀ q, ∃ q', B_law rho0 q = .ok (.ret (.bool true)) q') :
    FnOk P w K mg base (L2.CX P w) 14 f fd ["script"] (spLaw K) := by
  have GP : FnOk P w K mg base (L2.CX P w) 1 fp fdp ["script"] (spPool K) := ok_pool Fp T.n_int T.n_list
  have bp : Binds K fdp ["script"] [] := Fp.bindsN fun _ _ _ _ _ _ us hl => match us, hl with | [_], _ => rfl
  refine F.ok sc_law (fun vs H Q E h => ?_) (fun cdv A outer s H vs Q E hr h => ?_)
  · obtain ⟨a, ns, rfl, _⟩ := h
    rfl
  obtain ⟨a, ns, rfl, hS, hq⟩ := h
  have sc := sc_law
  have rest : PSsd (cxOf (L2.CX P w) P w K mg base N_law "law" (defScope s_law) f cdv A outer s H E) (fun cls d _ H => E cls d H) ((defBody s_law).drop 1) B_law := by
    have hu := roomHu hr
    exact (sd_cons (sd_asg (i := 2) sc.nd (pd_call (takes_of rfl rfl rfl rfl) (g__law_costs.fnd hr) (by rfl) (pda_pool 1 pda_nil)))
       (sd_cons (sd_asg (i := 2) sc.nd (pd_tuple (by rfl) T.n_tuple (pde_f (pdf_lc rfl sc.nd (pid_seq (pd_var 2)) (blkOk_by (own := [("row", 15)]) (N := N_law) (sc := defScope s_law) (by decide +kernel)) (by decide) (fun _ _ _ _ _ => (gd_name 15 sc.nd)) (fun _ _ _ _ _ => ptsd_nil) (fun _ _ _ _ _ => (pd_sl (pd_var 15) pdo_none (pdo_some pd_int))) (tgok_n 15)))))
       (sd_cons (sd_asg (i := 3) sc.nd (pd_ix ixd (pd_min hu rfl (by rfl) T.n_min (pd_call (takes_of rfl rfl rfl rfl) (g__law_services.fnd hr) (by rfl) (pda_d (pd_var 2) pda_nil))) pd_int))
       (sd_cons (sd_asg (i := 4) sc.nd (pd_tuple (by rfl) T.n_tuple (pde_f (pdf_lc rfl sc.nd (pid_seq (pd_var 2)) (blkOk_by (own := [("row", 15)]) (N := N_law) (sc := defScope s_law) (by decide +kernel)) (by decide) (fun _ _ _ _ _ => (gd_name 15 sc.nd)) (fun _ _ _ _ _ => ptsd_nil) (fun _ _ _ _ _ => (pd_bin opd_add (pd_var 15) (pd_tup (pdl_cons (pd_call takes0 (g__law_draw.fnd hr) (by rfl) (pda_pool 1 (pda_d pd_int pda_nil))) pdl_nil)))) (tgok_n 15)))))
       (sd_cons (sd_asg (i := 5) sc.nd (pd_tuple (by rfl) T.n_tuple (pde_f (pdf_lc rfl sc.nd (pid_seq (pd_var 2)) (blkOk_by (own := [("row", 15)]) (N := N_law) (sc := defScope s_law) (by decide +kernel)) (by decide) (fun _ _ _ _ _ => (gd_name 15 sc.nd)) (fun _ _ _ _ _ => ptsd_nil) (fun _ _ _ _ _ => (pd_tuple (by rfl) T.n_tuple (pde_f (pdf_lc rfl sc.nd (pid_seq (pd_var 15)) (blkOk_by (own := [("one", 16)]) (N := N_law) (by rfl)) (by decide) (fun _ _ _ _ _ => (gd_name 16 sc.nd)) (fun _ _ _ _ _ => ptsd_nil) (fun _ _ _ _ _ => (pd_bin opd_add (pd_min2 rfl (by rfl) T.n_min pd_int (pd_var 16)) (pd_int1 (by rfl) T.n_int (pd_cmp opd_lt (pd_var 16) pd_int)))) (tgok_n 16))))) (tgok_n 15)))))
       (sd_cons (sd_asg (i := 6) sc.nd (pde_f (pdf_lst (pdl_cons (pd_call (takes_of rfl rfl rfl rfl) (g_least_cost.fnd hr) (by rfl) (pda_d (pd_var 2) pda_nil)) (pdl_cons (pd_call (takes_of rfl rfl rfl rfl) (g_least_cost.fnd hr) (by rfl) (pda_d (pd_var 4) pda_nil)) (pdl_cons (pd_call (takes_of rfl rfl rfl rfl) (g_least_cost.fnd hr) (by rfl) (pda_d (pd_var 5) pda_nil)) pdl_nil))))))
       (sd_cons (sd_if (pdt_w (pdw_or (pdt_not (pdt_val (pd_call (takes_of rfl rfl rfl rfl) (g__law_same.fnd hr) (by rfl) (pda_d (pd_var 6) (pda_d (pde_f (pdf_lst (pdl_cons (pd_var 3) (pdl_cons (pd_ix ixd (pd_min hu rfl (by rfl) T.n_min (pd_call (takes_of rfl rfl rfl rfl) (g__law_services.fnd hr) (by rfl) (pda_d (pd_var 4) pda_nil))) pd_int) (pdl_cons (pd_ix ixd (pd_min hu rfl (by rfl) T.n_min (pd_call (takes_of rfl rfl rfl rfl) (g__law_services.fnd hr) (by rfl) (pda_d (pd_var 5) pda_nil))) pd_int) pdl_nil))))) pda_nil))))) (pdw_or1 (pdt_cmp opd_gt (pd_ix ixd (pd_var 6) pd_int) (pd_var 3))))) (sd_one (sd_ret pd_bl)) sd_nil)
       (sd_cons (sd_asg (i := 7) sc.nd (pd_call (takes_of rfl rfl rfl rfl) (g__law_cables.fnd hr) (by rfl) (pda_pool 1 (pda_d pd_int pda_nil))))
       (sd_cons (sd_tgt (pd_var 7) (gd_tup rfl (gds_cons (gd_name 8 sc.nd) (gds_cons (gd_name 9 sc.nd) gds_nil))))
       (sd_cons (sd_asg (i := 10) sc.nd (pd_call (takes_of rfl rfl rfl rfl) (g_least_cables.fnd hr) (by rfl) (pda_d (pd_var 7) pda_nil)))
       (sd_cons (sd_asg (i := 11) sc.nd (pde_f (pdf_lst pdl_nil)))
       (sd_cons (sd_for (passes_of rfl) rfl (pid_r1 (by rfl) T.n_range (pd_var 8)) (gd_name 12 sc.nd) (sd_one (sd_asg (i := 11) sc.nd (pd_bin opd_add (pd_var 11) (pde_f (pdf_lc rfl sc.nd (pid_r2 (by rfl) T.n_range (pd_bin opd_add (pd_var 12) pd_int) (pd_var 8)) (blkOk_by (own := [("b", 17)]) (N := N_law) (sc := defScope s_law) (by decide +kernel)) (by decide) (fun _ _ _ _ _ => (gd_name 17 sc.nd)) (fun _ _ _ _ _ => (ptsd_one (pdt_cmp (opd_notin hu) (pd_tup (pdl_cons (pd_var 12) (pdl_cons (pd_var 17) pdl_nil))) (pde_f (pdf_lc rfl sc.nd (pid_seq (pd_var 9)) (blkOk_by (own := [("edge", 18)]) (N := N_law) (by rfl)) (by decide) (fun _ _ _ _ _ => (gd_name 18 sc.nd)) (fun _ _ _ _ _ => ptsd_nil) (fun _ _ _ _ _ => (pd_sl (pd_var 18) pdo_none (pdo_some pd_int))) (tgok_n 18))) (by rfl)))) (fun _ _ _ _ _ => (pd_tup (pdl_cons (pd_var 12) (pdl_cons (pd_var 17) pdl_nil)))) (tgok_n 17)))))))
       (sd_cons (sd_if (pdt_cmp (opd_ne hu) (pd_var 11) (pde_f (pdf_lst pdl_nil))) (sd_cons (sd_asg (i := 13) sc.nd (pd_call (takes_of rfl rfl rfl rfl) (g__law_pick.fnd hr) (by rfl) (pda_pool 1 (pda_d (pd_var 11) pda_nil))))
       (sd_cons (sd_asg (i := 14) sc.nd (pd_call (takes_of rfl rfl rfl rfl) (g_least_cables.fnd hr) (by rfl) (pda_d (pd_tup (pdl_cons (pd_var 8) (pdl_cons (pd_tuple (by rfl) T.n_tuple (pde_f (pdf_sortedt hu (by rfl) T.n_sorted (pd_bin opd_add (pd_var 9) (pd_tup (pdl_cons (pd_bin opd_add (pd_var 13) (pd_tup (pdl_cons (pd_call (takes_of rfl rfl rfl rfl) (g__law_draw.fnd hr) (by rfl) (pda_pool 1 (pda_d pd_int pda_nil))) pdl_nil))) pdl_nil)))))) pdl_nil))) pda_nil)))
       (sd_one (sd_if (pdt_w (pdw_and (pdt_notN (pd_var 10)) (pdw_and1 (pdt_w (pdw_or (pdt_isN (pd_var 14)) (pdw_or1 (pdt_cmp opd_gt (pd_var 14) (pd_var 10)))))))) (sd_one (sd_ret pd_bl)) sd_nil)))) sd_nil)
       (sd_cons (sd_if (pdt_w (pdw_and (pdt_notN (pd_var 10)) (pdw_and1 (pdt_cmp opd_lt (pd_max hu rfl (by rfl) T.n_max (pd_bin opd_add (pde_f (pdf_lc rfl sc.nd (pid_seq (pd_var 9)) (blkOk_by (own := [("edge", 18)]) (N := N_law) (sc := defScope s_law) (by decide +kernel)) (by decide) (fun _ _ _ _ _ => (gd_name 18 sc.nd)) (fun _ _ _ _ _ => ptsd_nil) (fun _ _ _ _ _ => (pd_ix ixd (pd_var 18) pd_int)) (tgok_n 18))) (pde_f (pdf_lst (pdl_cons pd_int pdl_nil))))) pd_int)))) (sd_one (sd_ret (pd_call (takes_of rfl rfl rfl rfl) (g__law_same.fnd hr) (by rfl) (pda_d (pd_call (takes_of rfl rfl rfl rfl) (g_least_cables.fnd hr) (by rfl) (pda_d (pd_tup (pdl_cons (pd_var 8) (pdl_cons (pd_tuple (by rfl) T.n_tuple (pde_f (pdf_lc rfl sc.nd (pid_seq (pd_var 9)) (blkOk_by (own := [("edge", 18)]) (N := N_law) (sc := defScope s_law) (by decide +kernel)) (by decide) (fun _ _ _ _ _ => (gd_name 18 sc.nd)) (fun _ _ _ _ _ => ptsd_nil) (fun _ _ _ _ _ => (pd_bin opd_add (pd_sl (pd_var 18) pdo_none (pdo_some pd_int)) (pd_tup (pdl_cons (pd_bin opd_add (pd_ix ixd (pd_var 18) pd_int) pd_int) pdl_nil)))) (tgok_n 18)))) pdl_nil))) pda_nil)) (pda_d (pd_bin opd_sub (pd_bin opd_add (pd_var 10) (pd_var 8)) pd_int) pda_nil))))) sd_nil)
       (sd_one (sd_ret pd_bl))))))))))))))))
  obtain ⟨t, h1, h2⟩ := rest
  refine ⟨_, pss_cons (ps_set (i := 1) sc_law.nd rfl (.inr rfl) (pe_callS GP (hr.mono (by decide)) (by rfl) gp Fp.kp bp (fun σ => passAt (W := fun cls d _ H => E cls d H) (takes_of rfl rfl rfl rfl) σ) (pa_cons (pv 0) pa_nil))) h1, ?_⟩
  refine ⟨_, rfl, a, ns, rfl, hS, fun p sc H' salt sm pl hp => ?_⟩
  exact law_end (m := 17) (good _) pl hq h2 _
end
section
variable {κ : Bool}
theorem same_items {rc : List Arg → M D} {xs : List D} {m : D} (hl : xs.length ≤ 2 ^ 20) (hx : ∀ x ∈ xs, DoesK κ (rc [.d x, .d x]) (· = .bool true)) (bl : bLen m = M.ret (.int xs.length)) (ix : ∀ j x, xs[j]? = some x → oIx m (.int ((j : Nat) : Int)) = M.ret x) :
    DoesK κ (dComp [2] (iR1 (dUn bLen (dVar 1))) (gN 2) (tNot (tOf (dCall rc [(aD (dBin oIx (dVar 0) (dVar 2))), (aD (dBin oIx (dVar 1) (dVar 2)))]))) (dVar 2) [some (.dat m), some (.dat m), none]) (· = .list []) := by
  have z := lc_filt (κ := κ) (own := [2]) (it := iR1 (dUn bLen (dVar 1))) (g := gN 2) (t := tNot (tOf (dCall rc [(aD (dBin oIx (dVar 0) (dVar 2))), (aD (dBin oIx (dVar 1) (dVar 2)))]))) (e := dVar 2) (ρ := [some (.dat m), some (.dat m), none]) (xs := intsFrom 0 xs.length)
    (fun x => [some (.dat m), some (.dat m), some (.dat x)]) (fun _ => false) id (by
      simp only [at_r1, at_un, at_vs, at_v0, bnd_ret, bl, list_len xs hl]
      exact does_ret rfl) (by rw [intsFrom_len]; exact small20 hl) (fun x hx => rfl) (fun x hx' => by
      obtain ⟨j, hj⟩ := List.getElem?_of_mem hx'
      obtain ⟨rfl, hj2⟩ := intsFrom_at hj
      have hx2 := ix j _ (List.getElem?_eq_getElem hj2)
      simp only [at_not, at_tofk, at_call, at_argss, at_args0, at_ad, at_bin, at_vs, at_v0, bnd_ret, Int.zero_add, hx2]
      rw [bnd_bnd]
      refine does_eq (hx _ (List.getElem_mem hj2)) ?_
      exact does_ret rfl) (fun x _ h => by cases h)
  have e2 : ((intsFrom 0 xs.length).filter fun _ => false).map id = ([] : List D) := by simp
  rw [e2] at z
  exact z
theorem same_step {rc : List Arg → M D} (d : D) (h : match d with
    | .tuple xs => xs.length ≤ 2 ^ 20 ∧ ∀ x ∈ xs, DoesK κ (rc [.d x, .d x]) (· = .bool true)
    | .list xs => xs.length ≤ 2 ^ 20 ∧ ∀ x ∈ xs, DoesK κ (rc [.d x, .d x]) (· = .bool true)
    | .dict _ => False
    | _ => True) : DoesK κ (fnD 2 3 (B__law_same rc) [.d d, .d d]) (· = .bool true) := by
  refine does_fn rfl ?_
  show DoesK κ (B__law_same rc [some (.dat d), some (.dat d), none]) _
  unfold B__law_same
  cases d with
  | none => simp [bIsTup, bIsLst, oIsN, isN, PyData.isTuple, PyData.isList]; exact does_ret rfl
  | bool b => simp [bIsTup, bIsLst, oIsN, isN, PyData.isTuple, PyData.isList, bIsBool, PyData.isBool, oEq_bools]; exact does_ret rfl
  | int b => simp [bIsTup, bIsLst, oIsN, isN, PyData.isTuple, PyData.isList, bIsBool, PyData.isBool, bIsInt, PyData.isInt, oEq_ints]; exact does_ret rfl
  | str b => simp [bIsTup, bIsLst, oIsN, isN, PyData.isTuple, PyData.isList, bIsBool, PyData.isBool, bIsInt, PyData.isInt, bIsStr, PyData.isStr, oEq_refl_str]; exact does_ret rfl
  | dict kvs => exact h.elim
  | tuple xs =>
    have z := same_items (m := .tuple xs) h.1 h.2 rfl fun j x hx => oIx_t hx
    simp only [at_seq, at_sif, at_or, at_tofk, at_un, at_bin, at_vs, at_v0, bnd_ret, bIsTup, bIsLst, PyData.isTuple, PyData.isList, if_true, oNe_bools, bLen, oNe_ints, decide_true, Bool.not_true, Bool.false_eq_true, if_false, at_nil, at_sret, bnd_bnd]
    refine does_eq z ?_
    exact does_ret rfl
  | list xs =>
    have z := same_items (m := .list xs) h.1 h.2 rfl fun j x hx => oIx_l hx
    simp only [at_seq, at_sif, at_or, at_tofk, at_un, at_bin, at_vs, at_v0, bnd_ret, bIsTup, bIsLst, PyData.isTuple, PyData.isList, if_true, oNe_bools, bLen, oNe_ints, decide_true, Bool.not_true, Bool.false_eq_true, if_false, at_nil, at_sret, bnd_bnd]
    refine does_eq z ?_
    exact does_ret rfl
theorem same_ok (n : Nat) : ∀ d : D, Fl n d → DoesK κ (F__law_same n [.d d, .d d]) (· = .bool true) := by
  induction n with
  | zero => exact fun d h => h.elim
  | succ n ih =>
    intro d h
    refine same_step d ?_
    cases d with
    | tuple xs => exact ⟨h.1, fun x hx => ih x (h.2 x hx)⟩
    | list xs => exact ⟨h.1, fun x hx => ih x (h.2 x hx)⟩
    | dict kvs => exact h.elim
    | none => trivial
    | bool b => trivial
    | int i => trivial
    | str x => trivial
/-- not _law_same(a, b), both the same -/
theorem not_same {a b : DE} {ρ : Rho} {v : D} (ha : DoesK κ (a ρ) (· = v)) (hb : DoesK κ (b ρ) (· = v)) (hv : Fl 12 v) : DoesK κ (tNot (tOf (dCall (F__law_same 12) [(aD a), (aD b)])) ρ) (· = false) := by
  simp only [at_not, at_tofk, at_call, at_argss, at_args0, at_ad, bnd_bnd]
  refine does_eq ha ?_
  try simp only [bnd_ret, bnd_bnd]
  refine does_eq hb ?_
  try simp only [bnd_ret, bnd_bnd]
  refine does_eq (same_ok 12 _ hv) ?_
  exact does_ret rfl
end

/-! ### small data: what repr shows -/
mutual
/-- small numbers, texts, tuples and lists of such -/
def tame (B : Nat) : D → Bool
  | .none | .bool _ => true
  | .int i => decide (i.natAbs < B)
  | .str x => x.cps.toList.all fun c => decide (c < 0x110000)
  | .tuple xs | .list xs => tameAll B xs
  | .dict _ => false
def tameAll (B : Nat) : List D → Bool
  | [] => true
  | x :: xs => tame B x && tameAll B xs
end
theorem tameAll_iff {B : Nat} : ∀ {xs : List D}, tameAll B xs = true ↔ ∀ x ∈ xs, tame B x = true
  | [] => by simp [tameAll]
  | x :: xs => by rw [tameAll, Bool.and_eq_true, tameAll_iff, List.forall_mem_cons]
theorem tame_t {B : Nat} {xs : List D} : tame B (.tuple xs) = tameAll B xs := by rw [tame]
theorem tame_l {B : Nat} {xs : List D} : tame B (.list xs) = tameAll B xs := by rw [tame]
theorem tame_i {B : Nat} {i : Int} (h : i.natAbs < B) : tame B (.int i) = true := by rw [tame, decide_eq_true_eq]; exact h
abbrev Big : Nat := 10 ^ 24
mutual
theorem tame_mono {B C : Nat} (h : B ≤ C) : ∀ d : D, tame B d = true → tame C d = true
  | .none, _ => by rw [tame]
  | .bool _, _ => by rw [tame]
  | .int i, e => by rw [tame, decide_eq_true_eq] at *; omega
  | .str x, e => by rw [tame] at *; exact e
  | .tuple xs, e => by rw [tame] at *; exact tame_monoAll h xs e
  | .list xs, e => by rw [tame] at *; exact tame_monoAll h xs e
  | .dict _, e => by rw [tame] at e; cases e
theorem tame_monoAll {B C : Nat} (h : B ≤ C) : ∀ xs : List D, tameAll B xs = true → tameAll C xs = true
  | [], _ => by rw [tameAll]
  | x :: xs, e => by
    rw [tameAll, Bool.and_eq_true] at *
    exact ⟨tame_mono h x e.1, tame_monoAll h xs e.2⟩
end
mutual
theorem tame_short : ∀ d : D, tame Big d = true → d.leavesShort 25 = true ∧ d.showable = true ∧ d.hasDict = false ∧ d.plain = true
  | .none, _ => by simp only [PyData.leavesShort, PyData.showable, PyData.hasDict, PyData.plain, and_self]
  | .bool _, _ => by simp only [PyData.leavesShort, PyData.showable, PyData.hasDict, PyData.plain, and_self]
  | .int i, h => by
    rw [tame, decide_eq_true_eq] at h
    refine ⟨?_, ?_, by rw [PyData.hasDict], by rw [PyData.plain]⟩
    · rw [PyData.leavesShort, decide_eq_true_eq, PyData.shown_int]
      have e := int_text_length_le10 (k := 24) (by decide) h
      rw [PySem.ofString_length]
      exact e
    · rw [PyData.showable, decide_eq_true_eq]
      by_cases h0 : i.natAbs = 0
      · rw [h0]; decide +kernel
      · refine (Nat.log2_lt h0).mpr (Nat.lt_trans h (by decide +kernel))
  | .str x, h => by
    rw [tame] at h
    exact ⟨by rw [PyData.leavesShort]; exact List.all_eq_true.mpr fun c hc => decide_eq_true (Nat.lt_trans (of_decide_eq_true ((List.all_eq_true.mp h) c hc)) (by decide +kernel)), by rw [PyData.showable], by rw [PyData.hasDict], by rw [PyData.plain]⟩
  | .tuple xs, h => by
    rw [tame] at h
    obtain ⟨h1, h2, h3, h4⟩ := tame_shortAll xs h
    exact ⟨by rw [PyData.leavesShort]; exact h1, by rw [PyData.showable]; exact h2, by rw [PyData.hasDict]; exact h3, by rw [PyData.plain]; exact h4⟩
  | .list xs, h => by
    rw [tame] at h
    obtain ⟨h1, h2, h3, h4⟩ := tame_shortAll xs h
    exact ⟨by rw [PyData.leavesShort]; exact h1, by rw [PyData.showable]; exact h2, by rw [PyData.hasDict]; exact h3, by rw [PyData.plain]; exact h4⟩
  | .dict _, h => by rw [tame] at h; cases h
theorem tame_shortAll : ∀ xs : List D, tameAll Big xs = true → PyData.leavesShortAll 25 xs = true ∧ PyData.showableAll xs = true ∧ PyData.hasDictAll xs = false ∧ PyData.plainAll xs = true
  | [], _ => by simp only [PyData.leavesShortAll, PyData.showableAll, PyData.hasDictAll, PyData.plainAll, and_self]
  | x :: xs, h => by
    rw [tameAll, Bool.and_eq_true] at h
    obtain ⟨a1, a2, a3, a4⟩ := tame_short x h.1
    obtain ⟨b1, b2, b3, b4⟩ := tame_shortAll xs h.2
    simp only [PyData.leavesShortAll, PyData.showableAll, PyData.hasDictAll, PyData.plainAll, a1, a2, a3, a4, b1, b2, b3, b4, Bool.and_self, Bool.or_self, and_self]
end
mutual
/-- its texts are texts -/
def okS : D → Bool
  | .none | .bool _ | .int _ | .dict _ => true
  | .str x => x.cps.toList.all fun c => decide (c < 0x110000)
  | .tuple xs | .list xs => okSAll xs
def okSAll : List D → Bool
  | [] => true
  | x :: xs => okS x && okSAll xs
end
theorem okSAll_iff : ∀ {xs : List D}, okSAll xs = true ↔ ∀ x ∈ xs, okS x = true
  | [] => by simp [okSAll]
  | x :: xs => by rw [okSAll, Bool.and_eq_true, okSAll_iff, List.forall_mem_cons]
mutual
theorem tame_okS {B : Nat} : ∀ d : D, tame B d = true → okS d = true
  | .none, _ => by rw [okS]
  | .bool _, _ => by rw [okS]
  | .int i, e => by rw [okS]
  | .str x, e => by rw [tame] at e; rw [okS]; exact e
  | .tuple xs, e => by rw [tame] at e; rw [okS]; exact tame_okSAll xs e
  | .list xs, e => by rw [tame] at e; rw [okS]; exact tame_okSAll xs e
  | .dict _, e => by rw [okS]
theorem tame_okSAll {B : Nat} : ∀ xs : List D, tameAll B xs = true → okSAll xs = true
  | [], _ => by rw [okSAll]
  | x :: xs, e => by
    rw [tameAll, Bool.and_eq_true] at e
    rw [okSAll, Bool.and_eq_true]
    exact ⟨tame_okS x e.1, tame_okSAll xs e.2⟩
end
/-- data of a bounded form -/
def Fit (n k : Nat) (d : D) : Prop := tame Big d = true ∧ d.bulk ≤ n ∧ d.depth ≤ k
theorem Fit.mono {n k n' k' : Nat} {d : D} (h : Fit n k d) (hn : n ≤ n') (hk : k ≤ k') : Fit n' k' d := ⟨h.1, Nat.le_trans h.2.1 hn, Nat.le_trans h.2.2 hk⟩
theorem reprOk_fit {n k : Nat} {d : D} (h : Fit n k d) (hn : n ≤ 2 ^ 18) (hk : k ≤ 98) : reprOk d = true := by
  obtain ⟨h1, h2, h3⟩ := h
  obtain ⟨a1, a2, a3, _⟩ := tame_short d h1
  have z := PyData.shown_le_bulk 25 (by decide) d a1
  unfold reprOk
  rw [Bool.and_eq_true, Bool.and_eq_true, Bool.and_eq_true, decide_eq_true_eq, decide_eq_true_eq, a2, a3]
  have e : (2 : Nat) ^ 18 = 262144 := by decide
  refine ⟨⟨⟨rfl, by omega⟩, ?_⟩, rfl⟩
  rw [sizeLine_eq]
  omega
theorem repr_fit {n k : Nat} {d : D} (h : Fit n k d) (hn : n ≤ 2 ^ 18) (hk : k ≤ 98) : bRepr d = M.ret (.str d.shown) := by
  unfold bRepr
  rw [if_pos (reprOk_fit h hn hk)]
/-! its measures -/
theorem bulk_t (xs : List D) : (PyData.tuple xs).bulk = PyData.bulkAll xs := by rw [PyData.bulk]
theorem bulk_l (xs : List D) : (PyData.list xs).bulk = PyData.bulkAll xs := by rw [PyData.bulk]
theorem bulkAll_cons (x : D) (xs : List D) : PyData.bulkAll (x :: xs) = x.bulk + 1 + PyData.bulkAll xs := by rw [PyData.bulkAll]
theorem bulkAll_nil : PyData.bulkAll [] = 0 := by rw [PyData.bulkAll]
theorem bulkAll_len : ∀ xs : List D, xs.length ≤ PyData.bulkAll xs
  | [] => Nat.zero_le _
  | x :: xs => by rw [bulkAll_cons, List.length_cons]; have := bulkAll_len xs; omega
theorem bulkAll_mem : ∀ {xs : List D} {x : D}, x ∈ xs → x.bulk + 1 ≤ PyData.bulkAll xs
  | y :: xs, x, h => by
    rw [bulkAll_cons]
    rcases List.mem_cons.mp h with rfl | h
    · omega
    · have := bulkAll_mem h; omega
theorem bulkAll_app : ∀ xs ys : List D, PyData.bulkAll (xs ++ ys) = PyData.bulkAll xs + PyData.bulkAll ys
  | [], ys => by rw [bulkAll_nil, List.nil_append, Nat.zero_add]
  | x :: xs, ys => by rw [List.cons_append, bulkAll_cons, bulkAll_cons, bulkAll_app xs ys]; omega
theorem bulkAll_split (xs : List D) (n : Nat) : PyData.bulkAll (xs.take n) + PyData.bulkAll (xs.drop n) = PyData.bulkAll xs := by rw [← bulkAll_app, List.take_append_drop]
theorem bulkAll_set : ∀ (xs : List D) (i : Nat) (y : D), PyData.bulkAll (xs.set i y) ≤ PyData.bulkAll xs + y.bulk
  | [], _, _ => by rw [List.set_nil]; exact Nat.le_add_right _ _
  | x :: xs, 0, y => by rw [List.set_cons_zero, bulkAll_cons, bulkAll_cons]; omega
  | x :: xs, i + 1, y => by rw [List.set_cons_succ, bulkAll_cons, bulkAll_cons]; have := bulkAll_set xs i y; omega
theorem depth_t (xs : List D) : (PyData.tuple xs).depth = PyData.depthAll xs + 1 := by rw [PyData.depth]
theorem depth_l (xs : List D) : (PyData.list xs).depth = PyData.depthAll xs + 1 := by rw [PyData.depth]
theorem depthAll_le : ∀ {xs : List D} {n : Nat}, PyData.depthAll xs ≤ n ↔ ∀ x ∈ xs, x.depth ≤ n
  | [], n => by simp [PyData.depthAll]
  | x :: xs, n => by rw [PyData.depthAll, Nat.max_le, depthAll_le, List.forall_mem_cons]
theorem depthAll_mem {xs : List D} {x : D} (h : x ∈ xs) : x.depth ≤ PyData.depthAll xs := depthAll_le.mp (Nat.le_refl _) x h
theorem fit_t {n k : Nat} {xs : List D} : Fit n (k + 1) (.tuple xs) ↔ (∀ x ∈ xs, tame Big x = true ∧ x.depth ≤ k) ∧ PyData.bulkAll xs ≤ n := by
  unfold Fit
  rw [tame_t, bulk_t, depth_t, tameAll_iff, Nat.add_le_add_iff_right, depthAll_le]
  exact ⟨fun h => ⟨fun x hx => ⟨h.1 x hx, h.2.2 x hx⟩, h.2.1⟩, fun h => ⟨fun x hx => (h.1 x hx).1, h.2, fun x hx => (h.1 x hx).2⟩⟩
theorem fit_l {n k : Nat} {xs : List D} : Fit n (k + 1) (.list xs) ↔ (∀ x ∈ xs, tame Big x = true ∧ x.depth ≤ k) ∧ PyData.bulkAll xs ≤ n := by
  unfold Fit
  rw [tame_l, bulk_l, depth_l, tameAll_iff, Nat.add_le_add_iff_right, depthAll_le]
  exact ⟨fun h => ⟨fun x hx => ⟨h.1 x hx, h.2.2 x hx⟩, h.2.1⟩, fun h => ⟨fun x hx => (h.1 x hx).1, h.2, fun x hx => (h.1 x hx).2⟩⟩
/-- a tuple of things of one bound -/
theorem fit_all {n k m : Nat} {xs : List D} (h : ∀ x ∈ xs, Fit n k x) (hm : xs.length ≤ m) : Fit (m * (n + 1)) (k + 1) (.tuple xs) := by
  refine fit_t.mpr ⟨fun x hx => ⟨(h x hx).1, (h x hx).2.2⟩, ?_⟩
  have : ∀ ys : List D, (∀ x ∈ ys, x.bulk ≤ n) → PyData.bulkAll ys ≤ ys.length * (n + 1) := by
    intro ys
    induction ys with
    | nil => intro _; rw [bulkAll_nil]; exact Nat.zero_le _
    | cons y ys ih =>
      intro h
      rw [bulkAll_cons, List.length_cons, Nat.add_mul]
      have a := h y List.mem_cons_self
      have b := ih fun x hx => h x (List.mem_cons_of_mem _ hx)
      omega
  exact Nat.le_trans (this xs fun x hx => (h x hx).2.1) (Nat.mul_le_mul_right _ hm)
theorem fit_i {i : Int} (n k : Nat) (h : i.natAbs < Big) : Fit n k (.int i) := ⟨tame_i h, by rw [PyData.bulk]; exact Nat.zero_le _, by rw [PyData.depth]; exact Nat.zero_le _⟩

/-! ### _law_bent -/
theorem cut_to (xs : List D) (k : Nat) : cutD xs none (some (k : Int)) = xs.take k := by
  unfold cutD
  rw [HT.sIx_nat, HT.sIx_none, List.drop_zero, Nat.sub_zero]
  by_cases h : k ≤ xs.length
  · rw [Nat.min_eq_left h]
  · rw [Nat.min_eq_right (by omega), List.take_of_length_le (Nat.le_refl _), List.take_of_length_le (by omega)]
theorem cut_from (xs : List D) (k : Nat) : cutD xs (some (k : Int)) none = xs.drop k := by
  unfold cutD
  rw [HT.sIx_nat, HT.sIx_none]
  by_cases h : k ≤ xs.length
  · rw [Nat.min_eq_left h, List.take_of_length_le (by rw [List.length_drop]; omega)]
  · rw [Nat.min_eq_right (by omega), List.drop_of_length_le (Nat.le_refl _), List.drop_of_length_le (by omega), List.take_nil]
def BentP (B : Nat) (d : D) (r : D) : Prop := tame (B + 2) r = true ∧ r.bulk ≤ 3 * d.bulk + 3 ∧ r.depth ≤ d.depth + 2
theorem strs_app {a b : Str} {p : Nat → Bool} (ha : a.cps.toList.all p = true) (hb : b.cps.toList.all p = true) : (a ++ b).cps.toList.all p = true := by
  show (a.cps ++ b.cps).toList.all p = true
  rw [Array.toList_append, List.all_append, ha, hb]; rfl
theorem strs_cut {a : Str} {p : Nat → Bool} (ha : a.cps.toList.all p = true) (lo hi : Option Int) : (L2.cutS a lo hi).cps.toList.all p = true := by
  unfold L2.cutS
  dsimp only
  rw [List.toList_toArray, List.all_eq_true]
  intro c hc
  exact (List.all_eq_true.mp ha) c (List.mem_of_mem_drop (List.mem_of_mem_take hc))
theorem seq_ret {κ : Bool} {t : DT} {e : DE} {T : DS} {ρ : Rho} {R : Out → Prop} {c : Bool} (h : DoesK κ (t ρ) (· = c)) (ha : c = true → DoesK κ (e ρ) fun d => R (.ret d)) (hb : c = false → DoesK κ (T ρ) R) : DoesK κ (sSeq (sIf t (sRet e) sNil) T ρ) R := by
  rw [at_seq, at_sif, bnd_bnd]
  refine does_eq h ?_
  cases c with
  | true =>
    rw [if_pos rfl, at_sret, bnd_bnd]
    refine does_bnd (ha rfl) fun d hd => ?_
    exact does_ret hd
  | false =>
    rw [if_neg Bool.false_ne_true, at_nil, bnd_ret]
    exact hb rfl
/-- a test that may be any, a block that returns -/
theorem seq_ifd {κ : Bool} {t : DT} {A T : DS} {ρ : Rho} {R : Out → Prop} (h : DoesK κ (t ρ) fun _ => True) (ha : DoesK κ (A ρ) fun o => ∃ d, o = .ret d ∧ R (.ret d)) (hb : DoesK κ (T ρ) R) : DoesK κ (sSeq (sIf t A sNil) T ρ) R := by
  rw [at_seq, at_sif, bnd_bnd]
  refine does_bnd h fun c _ => ?_
  cases c with
  | true =>
    rw [if_pos rfl]
    refine does_bnd ha fun o ⟨d, e, hd⟩ => ?_
    rw [e]
    exact does_ret hd
  | false =>
    rw [if_neg Bool.false_ne_true, at_nil, bnd_ret]
    exact hb
/-- the test is b -/
theorem tof_ret {κ : Bool} {m : M D} {b : Bool} (h : m = M.ret (.bool b)) : DoesK κ (M.bnd m fun x => (match x with
    | .bool b => M.ret b
    | _ => M.stuck)) (· = b) := by rw [h]; exact does_ret rfl
theorem bent_odd {B : Nat} {κ : Bool} {d : D} {v : Int} (v0 : 0 ≤ v) (v9 : v < 10) : ∃ x, oIx (.tuple [.str "x", .bool true, .tuple [], .int 0, .int (-1), .none, .bool false, .list [], .str "in", .int 1]) (.int v) = M.ret x ∧ BentP B d x :=
  pick_of v0 (by simp only [List.length_cons, List.length_nil]; omega) (fun x hx => by
    have small : ∀ y : D, tame 2 y = true → y.bulk ≤ 3 → y.depth ≤ 2 → BentP B d y := fun y h1 h2 h3 => ⟨tame_mono (by omega) _ h1, by omega, by omega⟩
    simp only [List.mem_cons, List.not_mem_nil, or_false] at hx
    rcases hx with rfl | rfl | rfl | rfl | rfl | rfl | rfl | rfl | rfl | rfl <;> exact small _ (by decide +kernel) (by decide +kernel) (by decide +kernel))
theorem bent_made {B : Nat} {xs ys : List D} (h : ∀ y ∈ ys, tame (B + 2) y = true ∧ y.depth ≤ PyData.depthAll xs + 2) (hb : PyData.bulkAll ys ≤ 3 * PyData.bulkAll xs + 3) : BentP B (.tuple xs) (.tuple ys) :=
  ⟨by rw [tame_t]; exact tameAll_iff.mpr fun y hy => (h y hy).1, by rw [bulk_t, bulk_t]; exact hb, by
    rw [depth_t, depth_t]
    have := depthAll_le.mpr fun y hy => (h y hy).2
    omega⟩
theorem bulk_drop {xs : List D} {k : Nat} {x : D} (h : xs[k]? = some x) : PyData.bulkAll (xs.take k) + (x.bulk + 1) + PyData.bulkAll (xs.drop (k + 1)) = PyData.bulkAll xs := by
  obtain ⟨hk, e⟩ := List.getElem?_eq_some_iff.mp h
  have z := bulkAll_split xs k
  rw [List.drop_eq_getElem_cons hk, bulkAll_cons, e] at z
  omega
/-! ### what the checks ask of any datum -/
/-- a whole number from lo to hi -/
def frm (lo hi : Int) (d : D) : Bool := match d with
  | .int i => decide (lo ≤ i) && decide (i ≤ hi)
  | _ => false
def whl (d : D) : Bool := match d with
  | .int _ => true
  | _ => false
/-- a tuple of so many of them -/
def rowB (many lo hi : Int) (d : D) : Bool := match d with
  | .tuple xs => decide ((xs.length : Int) = many) && xs.all (frm lo hi)
  | _ => false
/-- how long it is, is within bounds -/
def Sz (d : D) : Prop := d.bulk ≤ 2 ^ 18
theorem Sz.len_t {xs : List D} (h : Sz (.tuple xs)) : xs.length ≤ 2 ^ 18 := Nat.le_trans (bulkAll_len xs) (by rw [← bulk_t]; exact h)
theorem Sz.mem_t {xs : List D} (h : Sz (.tuple xs)) {x : D} (hx : x ∈ xs) : Sz x := by
  have := bulkAll_mem hx
  have h' : PyData.bulkAll xs ≤ 2 ^ 18 := by rw [← bulk_t]; exact h
  show x.bulk ≤ 2 ^ 18
  omega
theorem sz18 {n : Nat} (h : n ≤ 2 ^ 18) : n ≤ PySem.sizeLine := Nat.le_trans h (by rw [sizeLine_eq]; decide +kernel)
/-- all([p(x) for x in xs]) -/
theorem all_at {own : List Nat} {it : DI} {g : Tgt} {e : DE} {ρ : Rho} {xs : List D} (p : D → Bool) (hi : it ρ = M.ret xs) (hl : xs.length ≤ 2 ^ 18) (h : ∀ x ∈ xs, M.bnd (g x (wipeR ρ own)) e = M.ret (.bool (p x))) :
    dComp own it g tTrue e ρ = M.ret (.list (xs.map fun x => .bool (p x))) := by
  rw [comp_map xs id (fun x => .bool (p x)) (by rw [List.map_id]; exact hi) (sz18 hl) h]
/-- len([x for x in xs if not p(x)]) == 0, > 0 -/
theorem none_at {own : List Nat} {it : DI} {g : Tgt} {t : DT} {e : DE} {ρ : Rho} {xs : List D} (p : D → Bool) (hi : it ρ = M.ret xs) (hl : xs.length ≤ 2 ^ 18) (h : ∀ x ∈ xs, compTurn g t e (wipeR ρ own) x = M.ret (if p x = true then none else some x)) :
    ∃ ys : List D, dComp own it g t e ρ = M.ret (.list ys) ∧ decide ((ys.length : Int) = 0) = xs.all p ∧ decide (0 < (ys.length : Int)) = !xs.all p := by
  have z := comp_typed (own := own) (it := it) (g := g) (t := t) (e := e) (ρ := ρ) xs id (fun x => !p x) id (by rw [List.map_id]; exact hi) (sz18 hl) fun x hx => by
    show compTurn g t e (wipeR ρ own) x = _
    rw [h x hx]
    cases p x <;> rfl
  refine ⟨xs.filter fun x => !p x, by rw [z, List.map_id], ?_⟩
  have e1 : (xs.filter fun x => !p x).length = 0 ↔ xs.all p = true := by
    rw [List.length_eq_zero_iff, List.filter_eq_nil_iff, List.all_eq_true]
    exact ⟨fun h x hx => by have := h x hx; simpa using this, fun h x hx => by simp [h x hx]⟩
  cases hb : xs.all p with
  | true =>
    have := e1.mpr hb
    rw [this]
    exact ⟨rfl, rfl⟩
  | false =>
    have : (xs.filter fun x => !p x).length ≠ 0 := fun z => by rw [e1.mp z] at hb; cases hb
    exact ⟨decide_eq_false (by omega), by rw [decide_eq_true (by omega)]; rfl⟩
/-- of any length -/
def rowAny (lo hi : Int) (d : D) : Bool := match d with
  | .tuple xs => xs.all (frm lo hi)
  | _ => false
/-! ascending -/
def upB : List Int → Bool
  | a :: b :: r => decide (a < b) && upB (b :: r)
  | _ => true
theorem upB_iff : ∀ {ns : List Int}, upB ns = true ↔ ∀ (k : Nat) (a b : Int), ns[k]? = some a → ns[k + 1]? = some b → a < b
  | [] => ⟨fun _ k a b h => (by cases h), fun _ => rfl⟩
  | [x] => ⟨fun _ k a b _ h => (by cases h), fun _ => rfl⟩
  | x :: y :: r => by
    rw [upB, Bool.and_eq_true, decide_eq_true_eq, upB_iff]
    constructor
    · rintro ⟨h, h2⟩ k a b h3 h4
      cases k with
      | zero => cases h3; cases h4; exact h
      | succ k => exact h2 k a b h3 h4
    · exact fun h => ⟨h 0 x y rfl rfl, fun k a b h3 h4 => h (k + 1) a b h3 h4⟩
theorem ixl_int {ns : List Int} {k : Nat} {i : Int} (h : k < ns.length) (hi : i = (k : Int)) : oIx (.list (ns.map .int)) (.int i) = M.ret (.int (ns.getD k 0)) := by
  rw [hi]
  refine oIx_l ?_
  rw [List.getElem?_map, List.getElem?_eq_getElem h, List.getD_eq_getElem?_getD, List.getElem?_eq_getElem h]
  rfl
/-- what < says -/
def ltB (x y : D) : Bool := match x, y with
  | .int i, .int j => decide (i < j)
  | _, _ => PySem.W.dataLt x y
def upD : List D → Bool
  | a :: b :: r => ltB a b && upD (b :: r)
  | _ => true
theorem upD_iff : ∀ {xs : List D}, upD xs = true ↔ ∀ (k : Nat) a b, xs[k]? = some a → xs[k + 1]? = some b → ltB a b = true
  | [] => ⟨fun _ k a b h => (by cases h), fun _ => rfl⟩
  | [x] => ⟨fun _ k a b _ h => (by cases h), fun _ => rfl⟩
  | x :: y :: r => by
    rw [upD, Bool.and_eq_true, upD_iff]
    constructor
    · rintro ⟨h, h2⟩ k a b h3 h4
      cases k with
      | zero => cases h3; cases h4; exact h
      | succ k => exact h2 k a b h3 h4
    · exact fun h => ⟨h 0 x y rfl rfl, fun k a b h3 h4 => h (k + 1) a b h3 h4⟩
theorem upD_ints : ∀ ns : List Int, upD (ns.map .int) = upB ns
  | [] => rfl
  | [_] => rfl
  | a :: b :: r => by
    show (ltB (.int a) (.int b) && upD ((b :: r).map .int)) = (decide (a < b) && upB (b :: r))
    rw [upD_ints (b :: r)]
    rfl
theorem gd_at {xs : List D} {k : Nat} (h : k < xs.length) : xs[k]? = some (xs.getD k .none) := by rw [List.getD_eq_getElem?_getD, List.getElem?_eq_getElem h]; rfl
theorem upD_range {xs : List D} {n : Nat} (hn : n = xs.length - 1) : ((List.range n).all fun k => ltB (xs.getD k .none) (xs.getD (k + 1) .none)) = upD xs := by
  rw [Bool.eq_iff_iff, List.all_eq_true, upD_iff]
  constructor
  · intro h k a b ha hb
    obtain ⟨h1, e1⟩ := List.getElem?_eq_some_iff.mp ha
    obtain ⟨h2, e2⟩ := List.getElem?_eq_some_iff.mp hb
    have z := h k (List.mem_range.mpr (by omega))
    have g1 := gd_at h1
    have g2 := gd_at h2
    rw [ha] at g1
    rw [hb] at g2
    cases g1
    cases g2
    exact z
  · intro h k hk
    have hk' := List.mem_range.mp hk
    exact h k _ _ (gd_at (by omega)) (gd_at (by omega))
/-- a list or a tuple -/
structure SeqD (m : D) (xs : List D) : Prop where
  len : bLen m = M.ret (.int (xs.length : Int))
  ix : ∀ (k : Nat) x (i : Int), xs[k]? = some x → i = (k : Int) → oIx m (.int i) = M.ret x
theorem seqd_l (xs : List D) : SeqD (.list xs) xs := ⟨rfl, fun k x i h e => by rw [e]; exact oIx_l h⟩
theorem seqd_t (xs : List D) : SeqD (.tuple xs) xs := ⟨rfl, fun k x i h e => by rw [e]; exact oIx_t h⟩
theorem lt_ints_map {ns : List Int} : ∀ (k : Nat) x y, (ns.map PyData.int)[k]? = some x → (ns.map PyData.int)[k + 1]? = some y → oLtD x y = M.ret (.bool (ltB x y)) := fun k x y h1 h2 => by
  rw [List.getElem?_map] at h1 h2
  obtain ⟨a, _, rfl⟩ := Option.map_eq_some_iff.mp h1
  obtain ⟨b, _, rfl⟩ := Option.map_eq_some_iff.mp h2
  rfl
def its (d : D) : List D := match d with
  | .tuple xs => xs
  | _ => []
theorem tuple_of {d : D} (h : d.isTuple = true) : d = .tuple (its d) := by cases d <;> first | rfl | cases h
theorem three {xs : List D} (h : (xs.length : Int) = 3) : ∃ a b c, xs = [a, b, c] := by
  match xs, h with
  | [a, b, c], _ => exact ⟨a, b, c, rfl⟩
  | [], h => cases h
  | [_], h => cases h
  | [_, _], h => cases h
  | _ :: _ :: _ :: _ :: _, h =>
    simp only [List.length_cons] at h
    omega
theorem ixt_last {xs : List D} {x : D} (h0 : 0 < xs.length) (h : xs[xs.length - 1]? = some x) : oIx (.tuple xs) (.int (-1)) = M.ret x := by
  show (match L2.atI xs (-1) with
    | some d => M.ret d
    | none => M.stuck) = _
  unfold L2.atI
  rw [ixN_last h0]
  show (match xs[xs.length - 1]? with
    | some d => M.ret d
    | none => M.stuck) = _
  rw [h]
def intOf (d : D) : Int := match d with
  | .int i => i
  | _ => 0
theorem two {xs : List D} (h : (xs.length : Int) = 2) : ∃ a b, xs = [a, b] := by
  match xs, h with
  | [a, b], _ => exact ⟨a, b, rfl⟩
  | [], h => cases h
  | [_], h => cases h
  | _ :: _ :: _ :: _, h =>
    simp only [List.length_cons] at h
    omega
theorem frm_int {lo hi : Int} {d : D} (h : frm lo hi d = true) : ∃ i : Int, d = .int i ∧ lo ≤ i ∧ i ≤ hi := by
  cases d with
  | int i =>
    rw [frm, Bool.and_eq_true, decide_eq_true_eq, decide_eq_true_eq] at h
    exact ⟨i, rfl, h⟩
  | _ => cases h
theorem tuples3 {xs : List D} (hl : (xs.length : Int) = 3) (h : xs.all PyData.isTuple = true) : ∃ a b c, xs = [.tuple a, .tuple b, .tuple c] := by
  obtain ⟨a, b, c, rfl⟩ := three hl
  simp only [List.all_cons, List.all_nil, Bool.and_eq_true, Bool.and_true] at h
  exact ⟨its a, its b, its c, by rw [← tuple_of h.1, ← tuple_of h.2.1, ← tuple_of h.2.2]⟩
theorem all3 : bAll (.list [.bool true, .bool true, .bool true]) = M.ret (.bool true) := by first | rfl | exact all_bools [true, true, true] id
/-- a loop that goes out at the first item that is none -/
theorem for_check {g : Tgt} {B : DS} (p : D → Bool) (I : Rho → Prop) : ∀ (xs : List D) (ρ : Rho), I ρ → (∀ x ∈ xs, ∀ ρ, I ρ → (p x = true → ∃ r, M.bnd (g x ρ) B = M.ret (.next r) ∧ I r) ∧ (p x = false → M.bnd (g x ρ) B = M.ret (.ret (.bool false)))) →
    ∃ r, I r ∧ forGo g B xs ρ = M.ret (if xs.all p = true then .next r else .ret (.bool false))
  | [], ρ, h, _ => ⟨ρ, h, rfl⟩
  | x :: xs, ρ, h, k => by
    have e : forGo g B (x :: xs) ρ = M.bnd (M.bnd (g x ρ) B) fun o => (match o with
      | .next ρ2 => forGo g B xs ρ2
      | .cont ρ2 => forGo g B xs ρ2
      | .brk ρ2 => M.ret (.next ρ2)
      | .ret d => M.ret (.ret d)) := by rw [bnd_bnd]; rfl
    obtain ⟨k1, k2⟩ := k x List.mem_cons_self ρ h
    cases hp : p x with
    | true =>
      obtain ⟨r, e1, hr⟩ := k1 hp
      obtain ⟨r', h', e2⟩ := for_check p I xs r hr fun y hy => k y (List.mem_cons_of_mem _ hy)
      refine ⟨r', h', ?_⟩
      rw [e, e1, bnd_ret]
      show forGo g B xs r = _
      rw [e2, List.all_cons, hp, Bool.true_and]
    | false =>
      refine ⟨ρ, h, ?_⟩
      rw [e, k2 hp, bnd_ret, List.all_cons, hp, Bool.false_and, if_neg Bool.false_ne_true]

/-! ### values that are tried -/
/-- what is shown and checked -/
structure Tst (d : D) : Prop where
  rp : reprOk d = true
  sz : Sz d
  sk : okS d = true
theorem Tst.fit {n k : Nat} {d : D} (h : Fit n k d) (hn : n ≤ 2 ^ 18 := by decide +kernel) (hk : k ≤ 98 := by decide) : Tst d := ⟨reprOk_fit h hn hk, Nat.le_trans h.2.1 hn, tame_okS d h.1⟩
theorem Tst.repr {d : D} (h : Tst d) : bRepr d = M.ret (.str d.shown) := by unfold bRepr; rw [if_pos h.rp]
/-- a concrete one -/
theorem Tst.dec {d : D} (h : (reprOk d && (decide (d.bulk ≤ 2 ^ 18) && okS d)) = true := by decide +kernel) : Tst d := by
  rw [Bool.and_eq_true, Bool.and_eq_true, decide_eq_true_eq] at h
  exact ⟨h.1, h.2.1, h.2.2⟩
theorem for_each {κ : Bool} {g : Tgt} {B : DS} {xs : List D} {ρ : Rho} (I : Rho → Prop) (T : D → Prop) (h0 : I ρ) (hx : ∀ x ∈ xs, T x) (s : ∀ x ρ, T x → I ρ → DoesK κ (M.bnd (g x ρ) B) fun o => ∃ r, o = .next r ∧ I r) :
    DoesK κ (forGo g B xs ρ) fun o => ∃ r, o = .next r ∧ I r :=
  for_does (fun _ ρ => I ρ) xs 0 ρ h0 (fun j x ρ hj hI => (s x ρ (hx x (List.mem_of_getElem? hj)) hI).imp fun o ⟨r, e, h⟩ => by subst e; exact h) fun ρ h => ⟨ρ, rfl, h⟩
/-! odd ones -/
def deepD : Nat → D
  | 0 => .tuple []
  | n + 1 => .tuple [deepD n]
def oddV : List D := [deepD 90, .tuple [.str "plan", deepD 90, deepD 90], .none, .int 0, .int 1, .bool true, .bool false, .str "", .str "x", .tuple [], .list [], .dict [], .tuple [.tuple []], .tuple [.tuple [], .tuple []], .tuple [.int 0], .tuple [.int 1, .int 2], .tuple [.str "x"], .tuple [.list []], .dict [(.str "a", .int 1)], .tuple [.none], .tuple [.tuple [.tuple []]], .int (-1)]
theorem deep_fit : ∀ n : Nat, Fit n (n + 1) (deepD n)
  | 0 => ⟨by rw [deepD, tame_t, tameAll], by rw [deepD, bulk_t, bulkAll_nil]; exact Nat.le_refl _, by rw [deepD, depth_t, PyData.depthAll]; exact Nat.le_refl _⟩
  | n + 1 => by
    obtain ⟨h1, h2, h3⟩ := deep_fit n
    refine ⟨by rw [deepD, tame_t, tameAll, tameAll, h1]; rfl, ?_, ?_⟩
    · rw [deepD, bulk_t, bulkAll_cons, bulkAll_nil]; omega
    · rw [deepD, depth_t, PyData.depthAll, PyData.depthAll]; omega
theorem odd_tst : ∀ x ∈ oddV, Tst x := by
  intro x hx
  have h := deep_fit 90
  have two : Fit 200 92 (.tuple [.str "plan", deepD 90, deepD 90]) := fit_t.mpr ⟨fun x hx => by
    simp only [List.mem_cons, List.not_mem_nil, or_false] at hx
    rcases hx with rfl | rfl | rfl
    · exact ⟨by decide +kernel, by decide +kernel⟩
    · exact ⟨h.1, h.2.2⟩
    · exact ⟨h.1, h.2.2⟩, by
    rw [bulkAll_cons, bulkAll_cons, bulkAll_cons, bulkAll_nil]
    have := h.2.1
    have e : (PyData.str "plan").bulk = 4 := by decide +kernel
    omega⟩
  unfold oddV at hx
  rcases List.mem_cons.mp hx with rfl | hx
  · exact Tst.fit h
  rcases List.mem_cons.mp hx with rfl | hx
  · exact Tst.fit two
  simp only [List.mem_cons, List.not_mem_nil, or_false] at hx
  rcases hx with rfl | rfl | rfl | rfl | rfl | rfl | rfl | rfl | rfl | rfl | rfl | rfl | rfl | rfl | rfl | rfl | rfl | rfl | rfl | rfl <;> exact Tst.dec
/-! lists for tuples, truth values for 0 and 1 -/
theorem bulkAll_rel : ∀ {xs ys : List D}, ys.length = xs.length → (∀ (j : Nat) x y, xs[j]? = some x → ys[j]? = some y → y.bulk ≤ x.bulk) → PyData.bulkAll ys ≤ PyData.bulkAll xs
  | [], [], _, _ => Nat.le_refl _
  | x :: xs, y :: ys, hl, h => by
    rw [bulkAll_cons, bulkAll_cons]
    have := h 0 x y rfl rfl
    have := bulkAll_rel (xs := xs) (ys := ys) (by simpa using hl) fun j a b ha hb => h (j + 1) a b ha hb
    omega
def LikeP (B : Nat) (d r : D) : Prop := tame B r = true ∧ r.bulk ≤ d.bulk ∧ r.depth ≤ d.depth
theorem like_made {B : Nat} {xs ys : List D} (hl : ys.length = xs.length) (h : ∀ (j : Nat) x y, xs[j]? = some x → ys[j]? = some y → LikeP B x y) : LikeP B (.tuple xs) (.tuple ys) := by
  refine ⟨?_, ?_, ?_⟩
  · rw [tame_t]
    refine tameAll_iff.mpr fun y hy => ?_
    obtain ⟨j, hj⟩ := List.getElem?_of_mem hy
    have hj' : j < xs.length := by rw [← hl]; exact (List.getElem?_eq_some_iff.mp hj).1
    exact (h j _ y (List.getElem?_eq_getElem hj') hj).1
  · rw [bulk_t, bulk_t]
    exact bulkAll_rel hl fun j x y hx hy => (h j x y hx hy).2.1
  · rw [depth_t, depth_t, Nat.add_le_add_iff_right]
    refine depthAll_le.mpr fun y hy => ?_
    obtain ⟨j, hj⟩ := List.getElem?_of_mem hy
    have hj' : j < xs.length := by rw [← hl]; exact (List.getElem?_eq_some_iff.mp hj).1
    exact Nat.le_trans (h j _ y (List.getElem?_eq_getElem hj') hj).2.2 (depthAll_mem (List.getElem_mem hj'))
theorem LikeP.fit {n k : Nat} {d r : D} (h : LikeP Big d r) (hd : Fit n k d) : Fit n k r := ⟨h.1, Nat.le_trans h.2.1 hd.2.1, Nat.le_trans h.2.2 hd.2.2⟩
theorem in01 (i : Int) : oIn (.int i) (.tuple [.int 0, .int 1]) = M.ret (.bool (decide (i ∈ [(0 : Int), 1]))) := in_ints_t i [0, 1]
/-! ### what is tried -/
theorem Fit.sz {n k : Nat} {d : D} (h : Fit n k d) (hn : n ≤ 2 ^ 18 := by decide +kernel) : Sz d := Nat.le_trans h.2.1 hn
theorem fit_tl {n k : Nat} {xs : List D} (h : Fit n k (.tuple xs)) : Fit n k (.list xs) := ⟨by rw [tame_l]; have := h.1; rw [tame_t] at this; exact this, by rw [bulk_l]; have := h.2.1; rw [bulk_t] at this; exact this, by rw [depth_l]; have := h.2.2; rw [depth_t] at this; exact this⟩
theorem Tst.like {d r : D} {n k : Nat} (hd : Fit n k d) (h : LikeP Big d r) (hn : n ≤ 2 ^ 18 := by decide +kernel) (hk : k ≤ 98 := by decide) : Tst r := Tst.fit (h.fit hd) hn hk
/-- bent copies -/
theorem Tst.bent {d r : D} {n k : Nat} (hd : Fit n k d) (h : BentP (10 ^ 20) d r) (hn : n ≤ 2 ^ 16 := by decide +kernel) (hk : k ≤ 96 := by decide) : Tst r := by
  refine Tst.fit (n := 3 * n + 3) (k := k + 2) ⟨tame_mono (by decide +kernel) _ h.1, ?_, ?_⟩ ?_ (by omega)
  · have := h.2.1
    have := hd.2.1
    omega
  · have := h.2.2
    have := hd.2.2
    omega
  · have e1 : (2 : Nat) ^ 16 = 65536 := by decide +kernel
    have e2 : (2 : Nat) ^ 18 = 262144 := by decide +kernel
    omega
abbrev TstL (d : D) : Prop := ∃ xs, d = .list xs ∧ xs.length ≤ 2 ^ 12 ∧ ∀ x ∈ xs, Tst x
theorem add_tst {xs ys : List D} (h1 : xs.length ≤ 2 ^ 18) (h2 : ys.length ≤ 2 ^ 18) : oAdd (.list xs) (.list ys) = M.ret (.list (xs ++ ys)) := add_lists (by
  have e2 : (2 : Nat) ^ 18 = 262144 := by decide +kernel
  have e3 : (2 : Nat) ^ 20 = 1048576 := by decide +kernel
  omega)
theorem mem_app {P : D → Prop} {xs ys : List D} (h1 : ∀ x ∈ xs, P x) (h2 : ∀ x ∈ ys, P x) : ∀ x ∈ xs ++ ys, P x := fun x hx => (List.mem_append.mp hx).elim (h1 x) (h2 x)
theorem bents_ok {n m : Nat} {own : List Nat} {e : DE} {g : Tgt} {ρ : Rho} {P : D → Prop} (hn : n ≤ 2 ^ 12) (h : ∀ k : Nat, k < n → Does (M.bnd (g (.int (0 + (k : Int))) (wipeR ρ own)) e) P) : Does (dComp own (iR1 (dC (.int (n : Int)))) g tTrue e ρ) fun d => ∃ xs, d = .list xs ∧ xs.length ≤ 2 ^ 12 ∧ ∀ x ∈ xs, P x := by
  have e2 : (2 : Nat) ^ 12 = 4096 := by decide +kernel
  have r : rng1 (.int (n : Int)) = M.ret (intsFrom 0 n) := by rw [rng1_of (by omega) (by omega)]; rfl
  refine lc_all (xs := intsFrom 0 n) (Q := fun _ y => P y) (by simp only [at_emp, at_dis1, at_ow0, at_ows, at_calln, isLst_ret, at_c, at_bin, at_un, at_v0, at_o0, at_vs, at_tup, at_lst, at_each0, at_eachs, at_ad, at_p0, at_ps, at_args0, at_argss, at_call, at_tofk, at_and, at_or, at_not, at_dand, at_dor, at_dnot, at_if, at_chain, at_gn, at_g2, at_g3, at_g4, at_iseq, at_r1, at_r2, turn_def, at_sasgn, at_sforr, at_nil, at_seq, at_asg, at_sown, at_sret, at_sretn, at_sif, at_sdrop, at_sbrk, at_scont, at_sfor, hide_nil, hide_cons, hide1_d, hide1_n, hide1_p, hide1_o, set_0, set_s, bnd_ret, bnd_stuck, bnd_bnd, bnd_ite, slot_d, slot_p, wipeR, List.map_cons, List.map_nil, List.cons_append, List.nil_append, List.replicate, add_ints, sub_ints, le_ints, lt_ints, ge_ints, gt_ints, neg_ints, min2_ints, max2_ints, oEq_ints, oNe_ints, oEq_bools, oNe_bools, len_tup, len_lst, revL_l, oEq_strs, oNe_strs, tuple_l, tuple_t, list_l, list_t, at_sl, at_pn, at_ps', sl_tup', sl_lst', is_T, is_L, is_I, is_B, is_S, is_N, not_N, isT_n, isT_b, isT_i, isT_s, isT_t, isT_l, isT_d, isL_n, isL_b, isL_i, isL_s, isL_t, isL_l, isL_d, isI_n, isI_b, isI_i, isI_s, isI_t, isI_l, isI_d, isB_n, isB_b, isB_i, isB_s, isB_t, isB_l, isB_d, isS_n, isS_b, isS_i, isS_s, isS_t, isS_l, isS_d, isN_n, isN_b, isN_i, isN_s, isN_t, isN_l, isN_d, decide_eq_true_eq, Bool.not_eq_true', decide_eq_false_iff_not, Bool.false_eq_true, if_true, if_false, decide_true, decide_false, Bool.not_true, Bool.not_false, not_true_eq_false, not_false_eq_true, ret_ite_o, Int.reduceLT, Int.reduceLE, Int.reduceEq, Int.reduceAdd, Int.reduceSub, Int.reduceNeg, reduceCtorEq, r]; exact does_ret rfl) (sz18 (by rw [intsFrom_len]; exact Nat.le_trans hn (by decide +kernel))) (fun j x hx => ?_) fun ys hl hq => ⟨ys, rfl, by rw [hl, intsFrom_len]; exact hn, fun y hy => ?_⟩
  · obtain ⟨rfl, hj⟩ := intsFrom_at hx
    exact h j hj
  · obtain ⟨j, hj⟩ := List.getElem?_of_mem hy
    exact hq j y hj
/-! bounds of what is put together -/
def FitL (n k : Nat) (xs : List D) : Prop := (∀ x ∈ xs, tame Big x = true ∧ x.depth ≤ k) ∧ PyData.bulkAll xs ≤ n
theorem fl_nil {k : Nat} : FitL 0 k [] := ⟨(fun _ h => nomatch h), Nat.le_of_eq bulkAll_nil⟩
theorem fl_cons {a b k : Nat} {x : D} {xs : List D} (h : Fit a k x) (r : FitL b k xs) : FitL (a + 1 + b) k (x :: xs) := ⟨fun y hy => (List.mem_cons.mp hy).elim (fun e => e ▸ ⟨h.1, h.2.2⟩) (r.1 y), by
  rw [bulkAll_cons]
  have := h.2.1
  have := r.2
  omega⟩
theorem fl_app {a b k : Nat} {xs ys : List D} (h : FitL a k xs) (r : FitL b k ys) : FitL (a + b) k (xs ++ ys) := ⟨fun y hy => (List.mem_append.mp hy).elim (h.1 y) (r.1 y), by
  rw [bulkAll_app]
  exact Nat.add_le_add h.2 r.2⟩
theorem bulk_sub {xs ys : List D} (h : ys.Sublist xs) : PyData.bulkAll ys ≤ PyData.bulkAll xs := by
  induction h with
  | slnil => exact Nat.le_refl _
  | cons a _ ih => rw [bulkAll_cons]; omega
  | cons_cons a _ ih => rw [bulkAll_cons, bulkAll_cons]; omega
theorem fl_sub {a k : Nat} {xs ys : List D} (h : FitL a k xs) (s : ys.Sublist xs) : FitL a k ys := ⟨fun y hy => h.1 y (s.subset hy), Nat.le_trans (bulk_sub s) h.2⟩
theorem fl_t {n k : Nat} {xs : List D} (h : FitL n k xs) : Fit n (k + 1) (.tuple xs) := fit_t.mpr h
theorem fl_l {n k : Nat} {xs : List D} (h : FitL n k xs) : Fit n (k + 1) (.list xs) := fit_l.mpr h
theorem fl_of {n k : Nat} {xs : List D} (h : Fit n (k + 1) (.tuple xs)) : FitL n k xs := fit_t.mp h
theorem fl_rep {n k : Nat} {x : D} (m : Nat) (h : Fit n k x) : FitL (m * (n + 1)) k (List.replicate m x) := fl_of (fit_all (fun y hy => by rw [List.eq_of_mem_replicate hy]; exact h) (by rw [List.length_replicate]; exact Nat.le_refl _))
theorem Fit.up {n k k' : Nat} {d : D} (h : Fit n k d) (hk : k ≤ k' := by decide) : Fit n k' d := h.mono (Nat.le_refl _) hk
theorem Fit.dec {n k : Nat} {d : D} (h : (tame Big d && (decide (d.bulk ≤ n) && decide (d.depth ≤ k))) = true := by decide +kernel) : Fit n k d := by
  rw [Bool.and_eq_true, Bool.and_eq_true, decide_eq_true_eq, decide_eq_true_eq] at h
  exact ⟨h.1, h.2.1, h.2.2⟩
theorem ints_fit {ns : List Int} {m : Nat} (h : ∀ v ∈ ns, v.natAbs < Big) (hl : ns.length ≤ m) : Fit m 1 (.tuple (ns.map .int)) := by
  refine fit_t.mpr ⟨fun x hx => ?_, ?_⟩
  · obtain ⟨v, hv, rfl⟩ := List.mem_map.mp hx
    exact ⟨tame_i (h v hv), by rw [PyData.depth]; exact Nat.le_refl _⟩
  · have : ∀ l : List Int, PyData.bulkAll (l.map PyData.int) = l.length := by
      intro l
      induction l with
      | nil => exact bulkAll_nil
      | cons a l ih => rw [List.map_cons, bulkAll_cons, ih, PyData.bulk, List.length_cons]; omega
    rw [this]
    exact hl
theorem cut_f1 (xs : List D) : cutD xs (some 1) none = xs.drop 1 := cut_from xs 1
theorem cut_f2 (xs : List D) : cutD xs (some 2) none = xs.drop 2 := cut_from xs 2
theorem cut_t1 (xs : List D) : cutD xs none (some 1) = xs.take 1 := cut_to xs 1
theorem cut_t2 (xs : List D) : cutD xs none (some 2) = xs.take 2 := cut_to xs 2
theorem tame_ints {B : Nat} {ns : List Int} (h : ∀ v ∈ ns, v.natAbs < B) : tame B (.tuple (ns.map .int)) = true := by
  rw [tame_t]
  refine tameAll_iff.mpr fun x hx => ?_
  obtain ⟨v, hv, rfl⟩ := List.mem_map.mp hx
  exact tame_i (h v hv)
/-- all that is tried, one behind the other -/
theorem tst_all {xs : List D} (h : ∀ x ∈ xs, Tst x) : ∀ x ∈ xs, Tst x := h
theorem mulT1 (x : D) (k : Int) (h : 0 ≤ k ∧ k ≤ 1000) : oMulT (.tuple [x]) (.int k) = M.ret (.tuple (List.replicate k.toNat [x]).flatten) := mulT_ok (by simp) h (by simp)
theorem cut_t3 (xs : List D) : cutD xs none (some 3) = xs.take 3 := cut_to xs 3

section
variable {κ : Bool}
theorem while_does {t : DT} {B : DS} {R : Out → Prop} (I : Nat → Rho → Prop) (step : ∀ n ρ, I n ρ → ∃ c : Bool, DoesK κ (t ρ) (· = c) ∧ (c = true → DoesK κ (B ρ) fun o => ∃ ρ', o = .next ρ' ∧ ∃ m, m < n ∧ I m ρ') ∧ (c = false → R (.next ρ))) :
    ∀ (fuel n : Nat) (ρ : Rho), n < fuel → I n ρ → DoesK κ (whileGo t B fuel ρ) R
  | 0, n, ρ, h, _ => absurd h (by omega)
  | fuel + 1, n, ρ, h, hI => by
    obtain ⟨c, hc, h1, h2⟩ := step n ρ hI
    refine does_eq hc ?_
    cases c with
    | false => exact does_ret (h2 rfl)
    | true =>
      rw [if_pos rfl]
      refine does_bnd (h1 rfl) fun o ⟨ρ', e, m, hm, hI'⟩ => ?_
      subst e
      exact while_does I step fuel m ρ' (by omega) hI'
theorem eqv_ints : ∀ a b : List Int, PyData.eqvAll (a.map PyData.int) (b.map PyData.int) = decide (a = b)
  | [], [] => by simp [PyData.eqvAll]
  | [], _ :: _ => by simp [PyData.eqvAll]
  | _ :: _, [] => by simp [PyData.eqvAll]
  | x :: a, y :: b => by
    show PyData.eqvAll (.int x :: a.map .int) (.int y :: b.map .int) = _
    rw [PyData.eqvAll, eqv_ints a b]
    simp only [PyData.eqv]
    by_cases h : x = y <;> by_cases h2 : a = b <;> simp [h, h2]
theorem plain_ints : ∀ a : List Int, PyData.plainAll (a.map PyData.int) = true
  | [] => by simp [PyData.plainAll]
  | x :: a => by
    show PyData.plainAll (.int x :: a.map .int) = true
    rw [PyData.plainAll, plain_ints a]
    simp [PyData.plain]
theorem depth_ints' : ∀ a : List Int, PyData.depthAll (a.map PyData.int) = 0
  | [] => by simp [PyData.depthAll]
  | x :: a => by
    show PyData.depthAll (.int x :: a.map .int) = 0
    rw [PyData.depthAll, depth_ints' a]
    simp [PyData.depth]
theorem eq_lists (a b : List Int) : oEq (.list (a.map .int)) (.list (b.map .int)) = M.ret (.bool (decide (a = b))) := by
  unfold oEq eqD
  dsimp only
  rw [if_pos]
  · simp only [PyData.eqv, eqv_ints]
  · simp [PyData.plain, plain_ints, PyData.depth, depth_ints', deep]
end

/-! ### drawn programs -/
theorem lc_ints {κ : Bool} {own : List Nat} {it : DI} {g : Tgt} {e : DE} {ρ : Rho} {n : Nat} {P : Int → Prop} (hi : DoesK κ (it ρ) (· = intsFrom 0 n)) (hn : n ≤ 2 ^ 18) (h : ∀ k : Nat, k < n → DoesK κ (M.bnd (g (.int (0 + (k : Int))) (wipeR ρ own)) e) fun d => ∃ v : Int, d = .int v ∧ P v) :
    DoesK κ (dComp own it g tTrue e ρ) fun d => ∃ ns : List Int, d = .list (ns.map .int) ∧ ns.length = n ∧ ∀ v ∈ ns, P v := by
  refine lc_all (xs := intsFrom 0 n) (Q := fun _ d => ∃ v : Int, d = .int v ∧ P v) hi (sz18 (by rw [intsFrom_len]; exact hn)) (fun j x hx => ?_) fun ys hl hq => ?_
  · obtain ⟨rfl, hj⟩ := intsFrom_at hx
    exact h j hj
  · obtain ⟨ns, h1, h2, h3⟩ := list_made PyData.int hq
    refine ⟨ns, by rw [h2], by rw [h1, hl, intsFrom_len], fun v hv => ?_⟩
    obtain ⟨j, hj⟩ := List.getElem?_of_mem hv
    exact h3 j v hj
abbrev encT (ns : List Int) : D := .tuple (ns.map .int)
def I99 (ns : List Int) : Prop := ∀ v ∈ ns, -99 ≤ v ∧ v ≤ 99
def R99 (rs : List (List Int)) : Prop := ∀ r ∈ rs, r.length ≤ 6 ∧ I99 r
theorem flat_ints : ∀ ns : List Int, flatAll (ns.map PyData.int) = true
  | [] => by rw [List.map_nil, flatAll]
  | n :: ns => by rw [List.map_cons, flatAll, flatD, flat_ints ns]; rfl
/-- draw(2 * far + 1) - far -/
theorem draw_far {far : Int} (hf : 1 ≤ far ∧ far ≤ 99) : Does (F_draw [.pool, .d (.int (2 * far + 1))]) fun d => ∃ v : Int, d = .int v ∧ 0 ≤ v ∧ v ≤ 2 * far := (does_draw' (by omega) (by omega)).imp fun d ⟨v, e, h1, h2⟩ => ⟨v, e, h1, by omega⟩
theorem abs_at (i : Int) : bAbs (.int i) = M.ret (.int (if i < 0 then -i else i)) := nr rfl
theorem abs_99 {i : Int} (h : -99 ≤ i ∧ i ≤ 99) : -99 ≤ (if i < 0 then -i else i) ∧ (if i < 0 then -i else i) ≤ 99 := by split <;> omega
section
variable {κ : Bool}
/-! ### the order of data -/
open PySem.W in
theorem lt_tup_cons {x y : D} (h : alike x y = true) (xs ys : List D) : dataLt (.tuple (x :: xs)) (.tuple (y :: ys)) = if PyData.eqv x y = true then dataLt (.tuple xs) (.tuple ys) else dataLt x y := by
  rw [dataLt_tuple, dataLt_cons h, ← dataLt_tuple]
theorem eqv_int (i j : Int) : PyData.eqv (.int i) (.int j) = decide (i = j) := by
  simp only [PyData.eqv]
  exact Bool.beq_eq_decide_eq _ _
open PySem.W in
theorem lt_int_cons (i j : Int) (xs ys : List D) : dataLt (.tuple (.int i :: xs)) (.tuple (.int j :: ys)) = if i = j then dataLt (.tuple xs) (.tuple ys) else decide (i < j) := by
  rw [lt_tup_cons rfl, eqv_int, dataLt_int]
  by_cases h : i = j <;> simp [h]
open PySem.W in
theorem lt_nil : dataLt (.tuple []) (.tuple []) = false := by
  rw [dataLt_tuple]
  exact PyProof.Rows.lex_irrefl _
end

/-! ### services -/
theorem lc_enc {κ : Bool} {γ : Type} (mk : γ → D) {own : List Nat} {it : DI} {g : Tgt} {e : DE} {ρ : Rho} {n : Nat} {P : γ → Prop} (hi : DoesK κ (it ρ) (· = intsFrom 0 n)) (hn : n ≤ 2 ^ 18) (h : ∀ k : Nat, k < n → DoesK κ (M.bnd (g (.int (0 + (k : Int))) (wipeR ρ own)) e) fun d => ∃ v : γ, d = mk v ∧ P v) :
    DoesK κ (dComp own it g tTrue e ρ) fun d => ∃ ns : List γ, d = .list (ns.map mk) ∧ ns.length = n ∧ ∀ v ∈ ns, P v := by
  refine lc_all (xs := intsFrom 0 n) (Q := fun _ d => ∃ v : γ, d = mk v ∧ P v) hi (sz18 (by rw [intsFrom_len]; exact hn)) (fun j x hx => ?_) fun ys hl hq => ?_
  · obtain ⟨rfl, hj⟩ := intsFrom_at hx
    exact h j hj
  · obtain ⟨ns, h1, h2, h3⟩ := list_made mk hq
    refine ⟨ns, by rw [h2], by rw [h1, hl, intsFrom_len], fun v hv => ?_⟩
    obtain ⟨j, hj⟩ := List.getElem?_of_mem hv
    exact h3 j v hj
structure CostOk (cs : List (List Int)) (h : Nat) : Prop where
  m1 : 1 ≤ cs.length
  m4 : cs.length ≤ 4
  mh : cs.length ≤ h
  h6 : h ≤ 6
  rows : ∀ r ∈ cs, r.length = h ∧ ∀ v ∈ r, 0 ≤ v ∧ v ≤ 99
abbrev encCs (cs : List (List Int)) : D := .tuple (cs.map encT)
theorem costs_drawn : Does (F__law_costs [.pool]) fun d => ∃ cs h, d = encCs cs ∧ CostOk cs h := by
  refine does_fn rfl ?_
  show Does (_ : M Out) _
  simp only [List.map_cons, List.map_nil, slot_p, List.cons_append, List.nil_append, List.replicate]
  refine seq_asg (P := fun d => ∃ n : Nat, d = .int (n : Int) ∧ 1 ≤ n ∧ n ≤ 4) ?_ ?_
  · simp only [at_emp, at_dis1, at_ow0, at_ows, at_calln, isLst_ret, at_c, at_bin, at_un, at_v0, at_o0, at_vs, at_tup, at_lst, at_each0, at_eachs, at_ad, at_p0, at_ps, at_args0, at_argss, at_call, at_tofk, at_and, at_or, at_not, at_dand, at_dor, at_dnot, at_if, at_chain, at_gn, at_g2, at_g3, at_g4, at_iseq, at_r1, at_r2, turn_def, at_sasgn, at_sforr, at_nil, at_seq, at_asg, at_sown, at_sret, at_sretn, at_sif, at_sdrop, at_sbrk, at_scont, at_sfor, hide_nil, hide_cons, hide1_d, hide1_n, hide1_p, hide1_o, set_0, set_s, bnd_ret, bnd_stuck, bnd_bnd, bnd_ite, slot_d, slot_p, wipeR, List.map_cons, List.map_nil, List.cons_append, List.nil_append, List.replicate, add_ints, sub_ints, le_ints, lt_ints, ge_ints, gt_ints, neg_ints, min2_ints, max2_ints, oEq_ints, oNe_ints, oEq_bools, oNe_bools, len_tup, len_lst, revL_l, oEq_strs, oNe_strs, tuple_l, tuple_t, list_l, list_t, at_sl, at_pn, at_ps', sl_tup', sl_lst', is_T, is_L, is_I, is_B, is_S, is_N, not_N, isT_n, isT_b, isT_i, isT_s, isT_t, isT_l, isT_d, isL_n, isL_b, isL_i, isL_s, isL_t, isL_l, isL_d, isI_n, isI_b, isI_i, isI_s, isI_t, isI_l, isI_d, isB_n, isB_b, isB_i, isB_s, isB_t, isB_l, isB_d, isS_n, isS_b, isS_i, isS_s, isS_t, isS_l, isS_d, isN_n, isN_b, isN_i, isN_s, isN_t, isN_l, isN_d, decide_eq_true_eq, Bool.not_eq_true', decide_eq_false_iff_not, Bool.false_eq_true, if_true, if_false, decide_true, decide_false, Bool.not_true, Bool.not_false, not_true_eq_false, not_false_eq_true, ret_ite_o, Int.reduceLT, Int.reduceLE, Int.reduceEq, Int.reduceAdd, Int.reduceSub, Int.reduceNeg, reduceCtorEq]
    refine does_bnd (does_draw' (by omega) (by omega)) ?_
    rintro _ ⟨v, rfl, v0, v6⟩
    rw [add_ints]
    exact does_ret ⟨(1 + v).toNat, by rw [Int.toNat_of_nonneg (by omega)], by omega, by omega⟩
  rintro _ ⟨many, rfl, m1, m4⟩
  refine seq_asg (P := fun d => ∃ n : Nat, d = .int (n : Int) ∧ many ≤ n ∧ n ≤ 6) ?_ ?_
  · simp only [at_emp, at_dis1, at_ow0, at_ows, at_calln, isLst_ret, at_c, at_bin, at_un, at_v0, at_o0, at_vs, at_tup, at_lst, at_each0, at_eachs, at_ad, at_p0, at_ps, at_args0, at_argss, at_call, at_tofk, at_and, at_or, at_not, at_dand, at_dor, at_dnot, at_if, at_chain, at_gn, at_g2, at_g3, at_g4, at_iseq, at_r1, at_r2, turn_def, at_sasgn, at_sforr, at_nil, at_seq, at_asg, at_sown, at_sret, at_sretn, at_sif, at_sdrop, at_sbrk, at_scont, at_sfor, hide_nil, hide_cons, hide1_d, hide1_n, hide1_p, hide1_o, set_0, set_s, bnd_ret, bnd_stuck, bnd_bnd, bnd_ite, slot_d, slot_p, wipeR, List.map_cons, List.map_nil, List.cons_append, List.nil_append, List.replicate, add_ints, sub_ints, le_ints, lt_ints, ge_ints, gt_ints, neg_ints, min2_ints, max2_ints, oEq_ints, oNe_ints, oEq_bools, oNe_bools, len_tup, len_lst, revL_l, oEq_strs, oNe_strs, tuple_l, tuple_t, list_l, list_t, at_sl, at_pn, at_ps', sl_tup', sl_lst', is_T, is_L, is_I, is_B, is_S, is_N, not_N, isT_n, isT_b, isT_i, isT_s, isT_t, isT_l, isT_d, isL_n, isL_b, isL_i, isL_s, isL_t, isL_l, isL_d, isI_n, isI_b, isI_i, isI_s, isI_t, isI_l, isI_d, isB_n, isB_b, isB_i, isB_s, isB_t, isB_l, isB_d, isS_n, isS_b, isS_i, isS_s, isS_t, isS_l, isS_d, isN_n, isN_b, isN_i, isN_s, isN_t, isN_l, isN_d, decide_eq_true_eq, Bool.not_eq_true', decide_eq_false_iff_not, Bool.false_eq_true, if_true, if_false, decide_true, decide_false, Bool.not_true, Bool.not_false, not_true_eq_false, not_false_eq_true, ret_ite_o, Int.reduceLT, Int.reduceLE, Int.reduceEq, Int.reduceAdd, Int.reduceSub, Int.reduceNeg, reduceCtorEq]
    refine does_bnd (does_draw' (by omega) (by omega)) ?_
    rintro _ ⟨v, rfl, v0, v6⟩
    rw [add_ints]
    exact does_ret ⟨((many : Int) + v).toNat, by rw [Int.toNat_of_nonneg (by omega)], by omega, by omega⟩
  rintro _ ⟨hs, rfl, h1, h6⟩
  refine seq_asg (P := fun d => ∃ far : Int, d = .int far ∧ 1 ≤ far ∧ far ≤ 100) ?_ ?_
  · simp only [at_emp, at_dis1, at_ow0, at_ows, at_calln, isLst_ret, at_c, at_bin, at_un, at_v0, at_o0, at_vs, at_tup, at_lst, at_each0, at_eachs, at_ad, at_p0, at_ps, at_args0, at_argss, at_call, at_tofk, at_and, at_or, at_not, at_dand, at_dor, at_dnot, at_if, at_chain, at_gn, at_g2, at_g3, at_g4, at_iseq, at_r1, at_r2, turn_def, at_sasgn, at_sforr, at_nil, at_seq, at_asg, at_sown, at_sret, at_sretn, at_sif, at_sdrop, at_sbrk, at_scont, at_sfor, hide_nil, hide_cons, hide1_d, hide1_n, hide1_p, hide1_o, set_0, set_s, bnd_ret, bnd_stuck, bnd_bnd, bnd_ite, slot_d, slot_p, wipeR, List.map_cons, List.map_nil, List.cons_append, List.nil_append, List.replicate, add_ints, sub_ints, le_ints, lt_ints, ge_ints, gt_ints, neg_ints, min2_ints, max2_ints, oEq_ints, oNe_ints, oEq_bools, oNe_bools, len_tup, len_lst, revL_l, oEq_strs, oNe_strs, tuple_l, tuple_t, list_l, list_t, at_sl, at_pn, at_ps', sl_tup', sl_lst', is_T, is_L, is_I, is_B, is_S, is_N, not_N, isT_n, isT_b, isT_i, isT_s, isT_t, isT_l, isT_d, isL_n, isL_b, isL_i, isL_s, isL_t, isL_l, isL_d, isI_n, isI_b, isI_i, isI_s, isI_t, isI_l, isI_d, isB_n, isB_b, isB_i, isB_s, isB_t, isB_l, isB_d, isS_n, isS_b, isS_i, isS_s, isS_t, isS_l, isS_d, isN_n, isN_b, isN_i, isN_s, isN_t, isN_l, isN_d, decide_eq_true_eq, Bool.not_eq_true', decide_eq_false_iff_not, Bool.false_eq_true, if_true, if_false, decide_true, decide_false, Bool.not_true, Bool.not_false, not_true_eq_false, not_false_eq_true, ret_ite_o, Int.reduceLT, Int.reduceLE, Int.reduceEq, Int.reduceAdd, Int.reduceSub, Int.reduceNeg, reduceCtorEq]
    refine does_bnd (does_draw' (by omega) (by omega)) ?_
    rintro _ ⟨v, rfl, v0, v4⟩
    obtain ⟨x, hx, i, rfl, hi⟩ := pick_of (xs := [.int 3, .int 10, .int 100]) (n := v) (P := fun d => ∃ i : Int, d = .int i ∧ 1 ≤ i ∧ i ≤ 100) v0 (by simp only [List.length_cons, List.length_nil]; omega) (fun x hx => by
      simp only [List.mem_cons, List.not_mem_nil, or_false] at hx
      rcases hx with rfl | rfl | rfl <;> exact ⟨_, rfl, by omega, by omega⟩)
    rw [hx]
    exact does_ret ⟨i, rfl, hi⟩
  rintro _ ⟨far, rfl, hf⟩
  simp only [set_0, set_s]
  have e18 : (2 : Nat) ^ 18 = 262144 := by decide +kernel
  have rm : rng1 (.int (many : Int)) = M.ret (intsFrom 0 many) := by rw [rng1_of (by omega) (by omega)]; rfl
  have rh : rng1 (.int (hs : Int)) = M.ret (intsFrom 0 hs) := by rw [rng1_of (by omega) (by omega)]; rfl
  rw [at_sret, at_un, bnd_bnd]
  refine does_bnd (lc_enc encT (n := many) (P := fun r => r.length = hs ∧ ∀ v ∈ r, 0 ≤ v ∧ v ≤ 99) (by simp only [at_emp, at_dis1, at_ow0, at_ows, at_calln, isLst_ret, at_c, at_bin, at_un, at_v0, at_o0, at_vs, at_tup, at_lst, at_each0, at_eachs, at_ad, at_p0, at_ps, at_args0, at_argss, at_call, at_tofk, at_and, at_or, at_not, at_dand, at_dor, at_dnot, at_if, at_chain, at_gn, at_g2, at_g3, at_g4, at_iseq, at_r1, at_r2, turn_def, at_sasgn, at_sforr, at_nil, at_seq, at_asg, at_sown, at_sret, at_sretn, at_sif, at_sdrop, at_sbrk, at_scont, at_sfor, hide_nil, hide_cons, hide1_d, hide1_n, hide1_p, hide1_o, set_0, set_s, bnd_ret, bnd_stuck, bnd_bnd, bnd_ite, slot_d, slot_p, wipeR, List.map_cons, List.map_nil, List.cons_append, List.nil_append, List.replicate, add_ints, sub_ints, le_ints, lt_ints, ge_ints, gt_ints, neg_ints, min2_ints, max2_ints, oEq_ints, oNe_ints, oEq_bools, oNe_bools, len_tup, len_lst, revL_l, oEq_strs, oNe_strs, tuple_l, tuple_t, list_l, list_t, at_sl, at_pn, at_ps', sl_tup', sl_lst', is_T, is_L, is_I, is_B, is_S, is_N, not_N, isT_n, isT_b, isT_i, isT_s, isT_t, isT_l, isT_d, isL_n, isL_b, isL_i, isL_s, isL_t, isL_l, isL_d, isI_n, isI_b, isI_i, isI_s, isI_t, isI_l, isI_d, isB_n, isB_b, isB_i, isB_s, isB_t, isB_l, isB_d, isS_n, isS_b, isS_i, isS_s, isS_t, isS_l, isS_d, isN_n, isN_b, isN_i, isN_s, isN_t, isN_l, isN_d, decide_eq_true_eq, Bool.not_eq_true', decide_eq_false_iff_not, Bool.false_eq_true, if_true, if_false, decide_true, decide_false, Bool.not_true, Bool.not_false, not_true_eq_false, not_false_eq_true, ret_ite_o, Int.reduceLT, Int.reduceLE, Int.reduceEq, Int.reduceAdd, Int.reduceSub, Int.reduceNeg, reduceCtorEq, rm]; exact does_ret rfl) (by omega) fun k hk => ?_) ?_
  · show DoesK _ (M.bnd (gN 4 _ [some .pool, some (.dat (.int (many : Int))), some (.dat (.int (hs : Int))), some (.dat (.int far)), none, none]) _) _
    rw [at_gn, bnd_ret, at_un]
    refine does_bnd (lc_ints (n := hs) (P := fun v => 0 ≤ v ∧ v ≤ 99) (by simp only [at_emp, at_dis1, at_ow0, at_ows, at_calln, isLst_ret, at_c, at_bin, at_un, at_v0, at_o0, at_vs, at_tup, at_lst, at_each0, at_eachs, at_ad, at_p0, at_ps, at_args0, at_argss, at_call, at_tofk, at_and, at_or, at_not, at_dand, at_dor, at_dnot, at_if, at_chain, at_gn, at_g2, at_g3, at_g4, at_iseq, at_r1, at_r2, turn_def, at_sasgn, at_sforr, at_nil, at_seq, at_asg, at_sown, at_sret, at_sretn, at_sif, at_sdrop, at_sbrk, at_scont, at_sfor, hide_nil, hide_cons, hide1_d, hide1_n, hide1_p, hide1_o, set_0, set_s, bnd_ret, bnd_stuck, bnd_bnd, bnd_ite, slot_d, slot_p, wipeR, List.map_cons, List.map_nil, List.cons_append, List.nil_append, List.replicate, add_ints, sub_ints, le_ints, lt_ints, ge_ints, gt_ints, neg_ints, min2_ints, max2_ints, oEq_ints, oNe_ints, oEq_bools, oNe_bools, len_tup, len_lst, revL_l, oEq_strs, oNe_strs, tuple_l, tuple_t, list_l, list_t, at_sl, at_pn, at_ps', sl_tup', sl_lst', is_T, is_L, is_I, is_B, is_S, is_N, not_N, isT_n, isT_b, isT_i, isT_s, isT_t, isT_l, isT_d, isL_n, isL_b, isL_i, isL_s, isL_t, isL_l, isL_d, isI_n, isI_b, isI_i, isI_s, isI_t, isI_l, isI_d, isB_n, isB_b, isB_i, isB_s, isB_t, isB_l, isB_d, isS_n, isS_b, isS_i, isS_s, isS_t, isS_l, isS_d, isN_n, isN_b, isN_i, isN_s, isN_t, isN_l, isN_d, decide_eq_true_eq, Bool.not_eq_true', decide_eq_false_iff_not, Bool.false_eq_true, if_true, if_false, decide_true, decide_false, Bool.not_true, Bool.not_false, not_true_eq_false, not_false_eq_true, ret_ite_o, Int.reduceLT, Int.reduceLE, Int.reduceEq, Int.reduceAdd, Int.reduceSub, Int.reduceNeg, reduceCtorEq, rh]; exact does_ret rfl) (by omega) fun i hi => ?_) ?_
    · show DoesK _ (M.bnd (gN 5 _ [some .pool, some (.dat (.int (many : Int))), some (.dat (.int (hs : Int))), some (.dat (.int far)), some (.dat (.int (0 + (k : Int)))), none]) _) _
      simp only [at_emp, at_dis1, at_ow0, at_ows, at_calln, isLst_ret, at_c, at_bin, at_un, at_v0, at_o0, at_vs, at_tup, at_lst, at_each0, at_eachs, at_ad, at_p0, at_ps, at_args0, at_argss, at_call, at_tofk, at_and, at_or, at_not, at_dand, at_dor, at_dnot, at_if, at_chain, at_gn, at_g2, at_g3, at_g4, at_iseq, at_r1, at_r2, turn_def, at_sasgn, at_sforr, at_nil, at_seq, at_asg, at_sown, at_sret, at_sretn, at_sif, at_sdrop, at_sbrk, at_scont, at_sfor, hide_nil, hide_cons, hide1_d, hide1_n, hide1_p, hide1_o, set_0, set_s, bnd_ret, bnd_stuck, bnd_bnd, bnd_ite, slot_d, slot_p, wipeR, List.map_cons, List.map_nil, List.cons_append, List.nil_append, List.replicate, add_ints, sub_ints, le_ints, lt_ints, ge_ints, gt_ints, neg_ints, min2_ints, max2_ints, oEq_ints, oNe_ints, oEq_bools, oNe_bools, len_tup, len_lst, revL_l, oEq_strs, oNe_strs, tuple_l, tuple_t, list_l, list_t, at_sl, at_pn, at_ps', sl_tup', sl_lst', is_T, is_L, is_I, is_B, is_S, is_N, not_N, isT_n, isT_b, isT_i, isT_s, isT_t, isT_l, isT_d, isL_n, isL_b, isL_i, isL_s, isL_t, isL_l, isL_d, isI_n, isI_b, isI_i, isI_s, isI_t, isI_l, isI_d, isB_n, isB_b, isB_i, isB_s, isB_t, isB_l, isB_d, isS_n, isS_b, isS_i, isS_s, isS_t, isS_l, isS_d, isN_n, isN_b, isN_i, isN_s, isN_t, isN_l, isN_d, decide_eq_true_eq, Bool.not_eq_true', decide_eq_false_iff_not, Bool.false_eq_true, if_true, if_false, decide_true, decide_false, Bool.not_true, Bool.not_false, not_true_eq_false, not_false_eq_true, ret_ite_o, Int.reduceLT, Int.reduceLE, Int.reduceEq, Int.reduceAdd, Int.reduceSub, Int.reduceNeg, reduceCtorEq]
      exact (does_draw' (by omega) (by omega)).imp fun d ⟨u, e, u0, u1⟩ => ⟨u, e, by omega, by omega⟩
    · rintro _ ⟨ns, rfl, hl, hb⟩
      rw [tuple_l]
      exact does_ret ⟨ns, rfl, hl, hb⟩
  · rintro _ ⟨rs, rfl, hl, hb⟩
    rw [tuple_l, bnd_ret]
    exact does_ret ⟨rs, hs, rfl, by omega, by omega, by omega, h6, hb⟩
def svRow (h : Nat) (row : List Int) : List (List Int) := (((List.range h).filter fun (k : Nat) => !decide ((k : Int) ∈ row)).map fun (k : Nat) => row ++ [(k : Int)])
def svs (h : Nat) : Nat → List (List Int)
  | 0 => [[]]
  | m + 1 => (svs h m).flatMap (svRow h)
theorem svRow_len (h : Nat) (row : List Int) : (svRow h row).length ≤ h := by
  unfold svRow
  rw [List.length_map]
  exact Nat.le_trans (List.length_filter_le _ _) (by rw [List.length_range]; exact Nat.le_refl _)
theorem flat_len {α β : Type} (f : α → List β) (n : Nat) : ∀ l : List α, (∀ a ∈ l, (f a).length ≤ n) → (l.flatMap f).length ≤ n * l.length
  | [], _ => Nat.zero_le _
  | a :: l, h => by
    rw [List.flatMap_cons, List.length_append, List.length_cons, Nat.mul_succ]
    have := h a List.mem_cons_self
    have := flat_len f n l fun b hb => h b (List.mem_cons_of_mem _ hb)
    omega
theorem svs_len {h : Nat} (h6 : h ≤ 6) : ∀ m, (svs h m).length ≤ 6 ^ m
  | 0 => Nat.le_refl _
  | m + 1 => by
    have := flat_len (svRow h) 6 (svs h m) fun a _ => Nat.le_trans (svRow_len h a) h6
    have := svs_len h6 m
    rw [svs, Nat.pow_succ]
    omega
structure ServOk (h : Nat) (m : Nat) (row : List Int) : Prop where
  len : row.length = m
  rng : ∀ v ∈ row, 0 ≤ v ∧ v < h
  nd : row.Nodup
theorem svs_ok {h : Nat} : ∀ m, ∀ row ∈ svs h m, ServOk h m row
  | 0, row, hr => by
    rw [svs, List.mem_singleton] at hr
    subst hr
    exact ⟨rfl, (fun _ h => nomatch h), List.nodup_nil⟩
  | m + 1, row, hr => by
    rw [svs] at hr
    obtain ⟨r, h1, h2⟩ := List.mem_flatMap.mp hr
    unfold svRow at h2
    obtain ⟨k, h3, rfl⟩ := List.mem_map.mp h2
    obtain ⟨h4, h5⟩ := List.mem_filter.mp h3
    have hk := List.mem_range.mp h4
    have hn : ¬ (k : Int) ∈ r := by simpa using h5
    have ih := svs_ok m r h1
    refine ⟨by rw [List.length_append, ih.len]; rfl, fun v hv => ?_, ?_⟩
    · rcases List.mem_append.mp hv with hv | hv
      · exact ih.rng v hv
      · rw [List.mem_singleton] at hv
        subst hv
        omega
    · rw [List.nodup_append]
      exact ⟨ih.nd, by simp, fun a ha b hb => by
        rw [List.mem_singleton] at hb
        subst hb
        exact fun e => hn (e ▸ ha)⟩
theorem svs_ne {h : Nat} : ∀ m, m ≤ h → svs h m ≠ []
  | 0, _ => by rw [svs]; exact fun e => by cases e
  | m + 1, hm => by
    intro e
    rw [svs] at e
    obtain ⟨r, t, hr⟩ := List.exists_cons_of_ne_nil (svs_ne m (by omega : m ≤ h))
    have hmem : r ∈ svs h m := by rw [hr]; exact List.mem_cons_self
    have ok := svs_ok m r hmem
    have : ∃ k, k < h ∧ ¬ (k : Int) ∈ r := Classical.byContradiction fun z => by
      have z : ∀ k, k < h → (k : Int) ∈ r := fun k hk => Classical.byContradiction fun y => z ⟨k, hk, y⟩
      have sub : ((List.range h).map fun (k : Nat) => (k : Int)) ⊆ r := fun v hv => by
        obtain ⟨k, hk, rfl⟩ := List.mem_map.mp hv
        exact z k (List.mem_range.mp hk)
      have nd : ((List.range h).map fun (k : Nat) => (k : Int)).Nodup := by
        rw [List.nodup_iff_pairwise_ne, List.pairwise_map]
        exact (List.nodup_iff_pairwise_ne.mp List.nodup_range).imp fun {a b} hab e => hab (by omega)
      have := nd.length_le_of_subset sub
      rw [List.length_map, List.length_range, ok.len] at this
      omega
    obtain ⟨k, hk, hn⟩ := this
    have : r ++ [(k : Int)] ∈ (svs h m).flatMap (svRow h) := List.mem_flatMap.mpr ⟨r, hmem, List.mem_map.mpr ⟨k, List.mem_filter.mpr ⟨List.mem_range.mpr hk, by simpa using hn⟩, rfl⟩⟩
    rw [e] at this
    cases this
/-- the two fors -/
theorem comp2_eq {α : Type} {own own1 : List Nat} {it it1 : DI} {g g1 : Tgt} {T T1 : DT} {F : DE} {ρ : Rho} (as : List α) (enc : α → D) (B : α → List D) (hi : it ρ = M.ret (as.map enc)) (hl : as.length ≤ 10000)
    (h : ∀ a ∈ as, (B a).length ≤ 6 ∧ ∃ ρ2 ys, comp2Turn g T it1 (wipeR ρ own) (enc a) = M.ret (some (ρ2, ys)) ∧ ys.length ≤ 6 ∧ compGo (compTurn g1 T1 F (wipeR ρ2 own1)) ys = M.ret (B a)) : dComp2 own own1 it g T it1 g1 T1 F ρ = M.ret (.list (as.flatMap B)) := by
  have go : ∀ (as : List α) (ac : List D), (∀ a ∈ as, (B a).length ≤ 6 ∧ ∃ ρ2 ys, comp2Turn g T it1 (wipeR ρ own) (enc a) = M.ret (some (ρ2, ys)) ∧ ys.length ≤ 6 ∧ compGo (compTurn g1 T1 F (wipeR ρ2 own1)) ys = M.ret (B a)) → ac.length + 6 * as.length ≤ 100000 →
      comp2Go (comp2Turn g T it1 (wipeR ρ own)) (fun ρ2 => compTurn g1 T1 F (wipeR ρ2 own1)) ac (as.map enc) = M.ret (ac ++ as.flatMap B) := by
    intro as
    induction as with
    | nil => intro ac _ _; rw [List.flatMap_nil, List.append_nil]; rfl
    | cons a as ih =>
      intro ac h hl
      obtain ⟨hb, ρ2, ys, e1, e2, e3⟩ := h a List.mem_cons_self
      rw [List.length_cons] at hl
      show M.bnd (comp2Turn g T it1 (wipeR ρ own) (enc a)) _ = _
      rw [e1, bnd_ret]
      dsimp only
      have e18 : (2 : Nat) ^ 18 = 262144 := by decide +kernel
      rw [if_pos (sz18 (by omega)), e3, bnd_ret, ih (ac ++ B a) (fun b hb => h b (List.mem_cons_of_mem _ hb)) (by rw [List.length_append]; omega), List.flatMap_cons, List.append_assoc]
  show M.bnd (it ρ) _ = _
  rw [hi, bnd_ret, go as [] h (by simp only [List.length_nil]; omega)]
  rfl
theorem row_go {h : Nat} {row : List Int} {g : Tgt} {t : DT} {e : DE} {r : Rho} (hh : ∀ k : Nat, k < h → compTurn g t e r (.int (0 + (k : Int))) = M.ret (if (!decide ((k : Int) ∈ row)) = true then some (encT (row ++ [(k : Int)])) else none)) : compGo (compTurn g t e r) (intsFrom 0 h) = M.ret ((svRow h row).map encT) := by
  have go : ∀ ks : List Nat, (∀ k ∈ ks, k < h) → compGo (compTurn g t e r) (ks.map fun (k : Nat) => .int (0 + (k : Int))) = M.ret (((ks.filter fun (k : Nat) => !decide ((k : Int) ∈ row)).map fun (k : Nat) => row ++ [(k : Int)]).map encT) := by
    intro ks
    induction ks with
    | nil => intro _; rfl
    | cons k ks ih =>
      intro hk
      show M.bnd (compTurn g t e r (.int (0 + (k : Int)))) (fun o => M.bnd (compGo _ _) fun r => M.ret (o.toList ++ r)) = _
      rw [hh k (hk k List.mem_cons_self), bnd_ret, ih fun b hb => hk b (List.mem_cons_of_mem _ hb), bnd_ret]
      cases hp : (!decide ((k : Int) ∈ row)) with
      | true => simp [List.filter_cons, hp]
      | false => simp [List.filter_cons, hp]
  exact go (List.range h) fun k hk => List.mem_range.mp hk
theorem cs_len {cs : List (List Int)} : bLen (encCs cs) = M.ret (.int (cs.length : Int)) := by
  show M.ret _ = _
  rw [List.length_map]
theorem cs_ix {cs : List (List Int)} {k : Nat} {i : Int} {r : List Int} (h : cs[k]? = some r) (e : i = (k : Int)) : oIx (encCs cs) (.int i) = M.ret (encT r) := by
  rw [e]
  exact oIx_t (by rw [List.getElem?_map, h]; rfl)
theorem t_len (r : List Int) : bLen (encT r) = M.ret (.int (r.length : Int)) := by
  show M.ret _ = _
  rw [List.length_map]
theorem t_ix {r : List Int} {k : Nat} {i v : Int} (h : r[k]? = some v) (e : i = (k : Int)) : oIx (encT r) (.int i) = M.ret (.int v) := by
  rw [e]
  exact oIx_t (by rw [List.getElem?_map, h]; rfl)
theorem CostOk.first {cs : List (List Int)} {h : Nat} (ok : CostOk cs h) : ∃ r, cs[0]? = some r ∧ r.length = h := by
  have := ok.m1
  exact ⟨cs[0], List.getElem?_eq_getElem (by omega), (ok.rows _ (List.getElem_mem _)).1⟩
theorem CostOk.hrs {cs : List (List Int)} {h : Nat} (ok : CostOk cs h) : ∃ r0, oIx (encCs cs) (.int 0) = M.ret (encT r0) ∧ bLen (encT r0) = M.ret (.int (h : Int)) ∧ r0.length = h := by
  obtain ⟨r, e, hl⟩ := ok.first
  exact ⟨r, cs_ix e rfl, by rw [t_len, hl], hl⟩
theorem rng_h {h : Nat} (h6 : h ≤ 100000) : rng1 (.int (h : Int)) = M.ret (intsFrom 0 h) := by rw [rng1_of (by omega) (by omega)]; rfl
theorem add_hour (row : List Int) (hl : row.length ≤ 100) (k : Int) : oAdd (encT row) (.tuple [.int k]) = M.ret (encT (row ++ [k])) := by
  have z : oAdd (.tuple (row.map .int)) (.tuple [.int k]) = M.ret (.tuple (row.map .int ++ [.int k])) := add_tups (by rw [List.length_map, List.length_singleton]; omega)
  rw [encT, z]
  show M.ret (PyData.tuple (row.map .int ++ [.int k])) = M.ret (.tuple ((row ++ [k]).map .int))
  rw [List.map_append]
  rfl
theorem services_at {cs : List (List Int)} {h : Nat} (ok : CostOk cs h) : F_services [.d (encCs cs)] = M.ret (.list ((svs h cs.length).map encT)) := by
  unfold F_services
  rw [fn_eq]
  obtain ⟨r0, ix0, l0, hl0⟩ := ok.hrs
  have h6 := ok.h6
  have rh := rng_h (show h ≤ 100000 by omega)
  obtain ⟨r, er, x2, hr⟩ := for_all (as := cs) (g := gN 2) (B := sAsg (gN 1) (dComp2 [3, 4] [4] (iSeq (dVar 1)) (gN 3) tTrue (iR1 (dUn bLen (dBin oIx (dVar 0) (dC (.int 0))))) (gN 4) (tOf (dBin oNotIn (dVar 4) (dVar 3))) (dBin oAdd (dVar 3) (dTup [(dVar 4)]))))
    (ρ := [some (.dat (encCs cs)), some (.dat (.list [.tuple []])), none, none, none]) encT (fun j ρ => ∃ x2, ρ = [some (.dat (encCs cs)), some (.dat (.list ((svs h j).map encT))), x2, none, none]) ⟨none, rfl⟩ fun j a ρ ha ⟨x2, hI⟩ => by
      subst hI
      have hj : j < cs.length := (List.getElem?_eq_some_iff.mp ha).1
      have := ok.m4
      have hsl := svs_len h6 j
      have h6j : 6 ^ j ≤ 6 ^ 4 := Nat.pow_le_pow_right (by omega) (by omega)
      have e64 : (6 : Nat) ^ 4 = 1296 := by decide
      refine ⟨[some (.dat (encCs cs)), some (.dat (.list ((svs h (j + 1)).map encT))), some (.dat (encT a)), none, none], .inl ?_, _, rfl⟩
      have z := comp2_eq (own := [3, 4]) (own1 := [4]) (it := iSeq (dVar 1)) (it1 := iR1 (dUn bLen (dBin oIx (dVar 0) (dC (.int 0))))) (g := gN 3) (g1 := gN 4) (T := tTrue) (T1 := tOf (dBin oNotIn (dVar 4) (dVar 3))) (F := dBin oAdd (dVar 3) (dTup [(dVar 4)])) (ρ := [some (.dat (encCs cs)), some (.dat (.list ((svs h j).map encT))), some (.dat (encT a)), none, none]) (svs h j) encT (fun row => (svRow h row).map encT) (by simp only [at_emp, at_dis1, at_ow0, at_ows, at_calln, isLst_ret, at_c, at_bin, at_un, at_v0, at_o0, at_vs, at_tup, at_lst, at_each0, at_eachs, at_ad, at_p0, at_ps, at_args0, at_argss, at_call, at_tofk, at_and, at_or, at_not, at_dand, at_dor, at_dnot, at_if, at_chain, at_gn, at_g2, at_g3, at_g4, at_iseq, at_r1, at_r2, turn_def, at_sasgn, at_sforr, at_nil, at_seq, at_asg, at_sown, at_sret, at_sretn, at_sif, at_sdrop, at_sbrk, at_scont, at_sfor, hide_nil, hide_cons, hide1_d, hide1_n, hide1_p, hide1_o, set_0, set_s, bnd_ret, bnd_stuck, bnd_bnd, bnd_ite, slot_d, slot_p, wipeR, List.map_cons, List.map_nil, List.cons_append, List.nil_append, List.replicate, add_ints, sub_ints, le_ints, lt_ints, ge_ints, gt_ints, neg_ints, min2_ints, max2_ints, oEq_ints, oNe_ints, oEq_bools, oNe_bools, len_tup, len_lst, revL_l, oEq_strs, oNe_strs, tuple_l, tuple_t, list_l, list_t, at_sl, at_pn, at_ps', sl_tup', sl_lst', is_T, is_L, is_I, is_B, is_S, is_N, not_N, isT_n, isT_b, isT_i, isT_s, isT_t, isT_l, isT_d, isL_n, isL_b, isL_i, isL_s, isL_t, isL_l, isL_d, isI_n, isI_b, isI_i, isI_s, isI_t, isI_l, isI_d, isB_n, isB_b, isB_i, isB_s, isB_t, isB_l, isB_d, isS_n, isS_b, isS_i, isS_s, isS_t, isS_l, isS_d, isN_n, isN_b, isN_i, isN_s, isN_t, isN_l, isN_d, decide_eq_true_eq, Bool.not_eq_true', decide_eq_false_iff_not, Bool.false_eq_true, if_true, if_false, decide_true, decide_false, Bool.not_true, Bool.not_false, not_true_eq_false, not_false_eq_true, ret_ite_o, Int.reduceLT, Int.reduceLE, Int.reduceEq, Int.reduceAdd, Int.reduceSub, Int.reduceNeg, reduceCtorEq]) (by omega) fun row hrow => by
          have okr := svs_ok j row hrow
          refine ⟨by rw [List.length_map]; exact Nat.le_trans (svRow_len h row) h6, [some (.dat (encCs cs)), some (.dat (.list ((svs h j).map encT))), some (.dat (encT a)), some (.dat (encT row)), none], intsFrom 0 h, ?_, by rw [intsFrom_len]; exact h6, ?_⟩
          · show comp2Turn _ _ _ [some (.dat (encCs cs)), some (.dat (.list ((svs h j).map encT))), some (.dat (encT a)), none, none] _ = _
            unfold comp2Turn
            have tt : ∀ ρ, tTrue ρ = M.ret true := fun _ => rfl
            simp only [at_gn, bnd_ret, set_0, set_s, tt, if_true, at_r1, at_un, at_bin, at_v0, at_c, ix0, l0, rh]
          · refine row_go fun k hk => ?_
            show compTurn _ _ _ [some (.dat (encCs cs)), some (.dat (.list ((svs h j).map encT))), some (.dat (encT a)), some (.dat (encT row)), none] _ = _
            rw [turn_at (r' := [some (.dat (encCs cs)), some (.dat (.list ((svs h j).map encT))), some (.dat (encT a)), some (.dat (encT row)), some (.dat (.int (0 + (k : Int))))]) rfl]
            have e0 : (0 : Int) + (k : Int) = (k : Int) := by omega
            rw [e0]
            have ad := add_hour row (by rw [okr.len]; omega) (k : Int)
            simp only [at_tofk, at_bin, at_v0, at_vs, at_tup, at_each0, at_eachs, bnd_ret, notin_ints_t, ad]
            split <;> rfl
      simp only [at_gn, bnd_ret, set_0, set_s, at_asg, hide_cons, hide1_d, hide1_n, hide_nil]
      rw [z, bnd_ret]
      rw [← List.map_flatMap]
      rfl
  subst hr
  have er' : forGo (gN 2) (sAsg (gN 1) (dComp2 [3, 4] [4] (iSeq (dVar 1)) (gN 3) tTrue (iR1 (dUn bLen (dBin oIx (dVar 0) (dC (.int 0))))) (gN 4) (tOf (dBin oNotIn (dVar 4) (dVar 3))) (dBin oAdd (dVar 3) (dTup [(dVar 4)])))) (cs.map encT) [some (.dat (.tuple (cs.map encT))), some (.dat (.list [.tuple []])), none, none, none] = _ := er
  try simp only [at_emp, at_dis1, at_ow0, at_ows, at_calln, isLst_ret, at_c, at_bin, at_un, at_v0, at_o0, at_vs, at_tup, at_lst, at_each0, at_eachs, at_ad, at_p0, at_ps, at_args0, at_argss, at_call, at_tofk, at_and, at_or, at_not, at_dand, at_dor, at_dnot, at_if, at_chain, at_gn, at_g2, at_g3, at_g4, at_iseq, at_r1, at_r2, turn_def, at_sasgn, at_sforr, at_nil, at_seq, at_asg, at_sown, at_sret, at_sretn, at_sif, at_sdrop, at_sbrk, at_scont, at_sfor, hide_nil, hide_cons, hide1_d, hide1_n, hide1_p, hide1_o, set_0, set_s, bnd_ret, bnd_stuck, bnd_bnd, bnd_ite, slot_d, slot_p, wipeR, List.map_cons, List.map_nil, List.cons_append, List.nil_append, List.replicate, add_ints, sub_ints, le_ints, lt_ints, ge_ints, gt_ints, neg_ints, min2_ints, max2_ints, oEq_ints, oNe_ints, oEq_bools, oNe_bools, len_tup, len_lst, revL_l, oEq_strs, oNe_strs, tuple_l, tuple_t, list_l, list_t, at_sl, at_pn, at_ps', sl_tup', sl_lst', is_T, is_L, is_I, is_B, is_S, is_N, not_N, isT_n, isT_b, isT_i, isT_s, isT_t, isT_l, isT_d, isL_n, isL_b, isL_i, isL_s, isL_t, isL_l, isL_d, isI_n, isI_b, isI_i, isI_s, isI_t, isI_l, isI_d, isB_n, isB_b, isB_i, isB_s, isB_t, isB_l, isB_d, isS_n, isS_b, isS_i, isS_s, isS_t, isS_l, isS_d, isN_n, isN_b, isN_i, isN_s, isN_t, isN_l, isN_d, decide_eq_true_eq, Bool.not_eq_true', decide_eq_false_iff_not, Bool.false_eq_true, if_true, if_false, decide_true, decide_false, Bool.not_true, Bool.not_false, not_true_eq_false, not_false_eq_true, ret_ite_o, Int.reduceLT, Int.reduceLE, Int.reduceEq, Int.reduceAdd, Int.reduceSub, Int.reduceNeg, reduceCtorEq, er']

/-! ### what a service costs -/
def costS (cs : List (List Int)) (row : List Int) : Int := ((List.range cs.length).map fun k => ((cs.getD k []).getD ((row.getD k 0).toNat) 0)).sum
structure RowIn (m h : Nat) (row : List Int) : Prop where
  len : row.length = m
  rng : ∀ v ∈ row, 0 ≤ v ∧ v < h
theorem ServOk.rowIn {h m : Nat} {row : List Int} (s : ServOk h m row) : RowIn m h row := ⟨s.len, s.rng⟩
theorem cost_ix {cs : List (List Int)} {h : Nat} (ok : CostOk cs h) {row : List Int} (hr : RowIn cs.length h row) {k : Nat} (hk : k < cs.length) {i : Int} (e : i = (k : Int)) :
    ∃ r v, oIx (encCs cs) (.int i) = M.ret (encT r) ∧ oIx (encT row) (.int i) = M.ret (.int v) ∧ oIx (encT r) (.int v) = M.ret (.int ((cs.getD k []).getD ((row.getD k 0).toNat) 0)) := by
  have hk2 : k < row.length := by rw [hr.len]; exact hk
  have e1 : cs[k]? = some cs[k] := List.getElem?_eq_getElem hk
  have e2 : row[k]? = some row[k] := List.getElem?_eq_getElem hk2
  have hv := hr.rng _ (List.getElem_mem hk2)
  have hrl := (ok.rows _ (List.getElem_mem hk)).1
  have e3 : (row[k]).toNat < cs[k].length := by omega
  refine ⟨cs[k], row[k], cs_ix e1 e, t_ix e2 e, t_ix (k := (row[k]).toNat) ?_ (by omega)⟩
  have g1 : cs.getD k [] = cs[k] := by rw [List.getD_eq_getElem?_getD, e1, Option.getD_some]
  have g2 : row.getD k 0 = row[k] := by rw [List.getD_eq_getElem?_getD, e2, Option.getD_some]
  rw [g1, g2, List.getD_eq_getElem?_getD, List.getElem?_eq_getElem e3, Option.getD_some]
theorem sum_rng (n : Nat) (f : Nat → Int) : bSum (.list ((List.range n).map fun k => .int (f k))) = M.ret (.int ((List.range n).map f).sum) := by
  rw [← sum_ints, List.map_map]
  rfl
theorem cost_at {cs : List (List Int)} {h : Nat} (ok : CostOk cs h) {row : List Int} (hr : RowIn cs.length h row) : F_cost_of [.d (encCs cs), .d (encT row)] = M.ret (.int (costS cs row)) := by
  unfold F_cost_of
  rw [fn_eq]
  have m4 := ok.m4
  have rm := rng_h (show cs.length ≤ 100000 by omega)
  have e18 : (2 : Nat) ^ 18 = 262144 := by decide +kernel
  have z := comp_rng (own := [2]) (it := iR1 (dUn bLen (dVar 0))) (g := gN 2) (e := dBin oIx (dBin oIx (dVar 0) (dVar 2)) (dBin oIx (dVar 1) (dVar 2))) (ρ := [some (.dat (encCs cs)), some (.dat (encT row)), none]) 0 cs.length (fun k => .int ((cs.getD k []).getD ((row.getD k 0).toNat) 0)) (by simp only [at_r1, at_un, at_v0, bnd_ret, cs_len, rm]) (sz18 (by omega)) fun k hk => by
    obtain ⟨r, v, h1, h2, h3⟩ := cost_ix ok hr hk (i := 0 + (k : Int)) (by omega)
    show M.bnd (gN 2 _ [some (.dat (encCs cs)), some (.dat (encT row)), none]) _ = _
    simp only [at_gn, set_0, set_s, bnd_ret, at_bin, at_v0, at_vs, h1, h2, h3]
  show M.bnd (sRet _ [some (.dat (encCs cs)), some (.dat (encT row)), none]) _ = _
  rw [at_sret, at_un, z, bnd_ret, sum_rng]
  rfl
/-- what costs what -/
def encS (cs : List (List Int)) (row : List Int) : D := .tuple [.int (costS cs row), encT row]
theorem minD_mem : ∀ (xs : List D) (x : D), PySem.W.minD x xs ∈ x :: xs
  | [], x => List.mem_cons_self
  | y :: ys, x => by
    show PySem.W.minD (if PySem.W.dataLt y x then y else x) ys ∈ _
    have := minD_mem ys (if PySem.W.dataLt y x then y else x)
    rcases List.mem_cons.mp this with e | e
    · rw [e]
      split
      · exact List.mem_cons_of_mem _ List.mem_cons_self
      · exact List.mem_cons_self
    · exact List.mem_cons_of_mem _ (List.mem_cons_of_mem _ e)
theorem plainAll_ints : ∀ r : List Int, PyData.plainAll (r.map .int) = true
  | [] => rfl
  | n :: ns => by rw [List.map_cons, PyData.plainAll, plainAll_ints ns]; rfl
theorem depthAll_ints : ∀ ns : List Int, PyData.depthAll (ns.map PyData.int) = 0
  | [] => by rw [List.map_nil, PyData.depthAll]
  | n :: ns => by rw [List.map_cons, PyData.depthAll, PyData.depth, depthAll_ints ns]; rfl
theorem alikeAll_ints : ∀ a b : List Int, PySem.W.alikeAll (a.map .int) (b.map .int) = true
  | [], _ => by rw [List.map_nil, PySem.W.alikeAll]
  | _ :: _, [] => by rw [List.map_nil, List.map_cons, PySem.W.alikeAll]
  | _ :: a, _ :: b => by rw [List.map_cons, List.map_cons, PySem.W.alikeAll, alikeAll_ints a b]; rfl
open PySem.W in
theorem canmin_s (cs : List (List Int)) (xs : List (List Int)) : CanMin (xs.map (encS cs)) := by
  refine ⟨⟨fun d hd d' hd' => ?_, fun d hd => ?_⟩, ?_, ?_⟩
  · obtain ⟨a, _, rfl⟩ := List.mem_map.mp hd
    obtain ⟨b, _, rfl⟩ := List.mem_map.mp hd'
    show alikeAll [.int _, encT a] [.int _, encT b] = true
    simp only [alikeAll, alike, Bool.true_and, Bool.and_true]
    exact alikeAll_ints _ _
  · obtain ⟨a, _, rfl⟩ := List.mem_map.mp hd
    intro z
    cases z
  · induction xs with
    | nil => rfl
    | cons x xs ih =>
      simp only [List.map_cons, PyData.plainAll, ih, Bool.and_true]
      simp only [encS, PyData.plain, PyData.plainAll, plainAll_ints, Bool.and_self]
  · induction xs with
    | nil => exact Nat.zero_le _
    | cons x xs ih =>
      simp only [List.map_cons, PyData.depthAll]
      refine Nat.max_le.mpr ⟨?_, ih⟩
      simp only [encS, PyData.depth, PyData.depthAll, depthAll_ints]
      decide
theorem min_s (cs : List (List Int)) {xs : List (List Int)} (h : xs ≠ []) : ∃ row ∈ xs, bMin (.list (xs.map (encS cs))) = M.ret (encS cs row) := by
  obtain ⟨x, t, rfl⟩ := List.exists_cons_of_ne_nil h
  have hm := minD_mem (t.map (encS cs)) (encS cs x)
  rw [← List.map_cons] at hm
  obtain ⟨row, hr, e⟩ := List.mem_map.mp hm
  refine ⟨row, hr, ?_⟩
  unfold bMin
  have e0 : ints? ((x :: t).map (encS cs)) = none := rfl
  dsimp only
  rw [e0]
  dsimp only
  show bMinD (encS cs x :: t.map (encS cs)) = _
  unfold bMinD
  dsimp only
  rw [if_pos (show CanMin (encS cs x :: t.map (encS cs)) from canmin_s cs (x :: t)), ← e]
theorem first_serv {cs : List (List Int)} {h : Nat} (ok : CostOk cs h) : ∃ row, ServOk h cs.length row ∧ bMin (.list ((svs h cs.length).map (encS cs))) = M.ret (encS cs row) ∧ F_first_service [.d (encCs cs)] = M.ret (encT row) := by
  obtain ⟨row, hr, e⟩ := min_s cs (svs_ne (h := h) cs.length ok.mh)
  have hro := svs_ok cs.length row hr
  refine ⟨row, hro, e, ?_⟩
  unfold F_first_service
  rw [fn_eq]
  have e18 : (2 : Nat) ^ 18 = 262144 := by decide +kernel
  have sl := svs_len ok.h6 cs.length
  have h6j : 6 ^ cs.length ≤ 6 ^ 4 := Nat.pow_le_pow_right (by omega) ok.m4
  have e64 : (6 : Nat) ^ 4 = 1296 := by decide
  have sv := services_at ok
  have z := comp_map (own := [1]) (it := iSeq (dCall F_services [(aD (dVar 0))])) (g := gN 1) (e := dTup [(dCall F_cost_of [(aD (dVar 0)), (aD (dVar 1))]), (dVar 1)]) (ρ := [some (.dat (encCs cs)), none]) (svs h cs.length) encT (encS cs) (by simp only [at_emp, at_dis1, at_ow0, at_ows, at_calln, isLst_ret, at_c, at_bin, at_un, at_v0, at_o0, at_vs, at_tup, at_lst, at_each0, at_eachs, at_ad, at_p0, at_ps, at_args0, at_argss, at_call, at_tofk, at_and, at_or, at_not, at_dand, at_dor, at_dnot, at_if, at_chain, at_gn, at_g2, at_g3, at_g4, at_iseq, at_r1, at_r2, turn_def, at_sasgn, at_sforr, at_nil, at_seq, at_asg, at_sown, at_sret, at_sretn, at_sif, at_sdrop, at_sbrk, at_scont, at_sfor, hide_nil, hide_cons, hide1_d, hide1_n, hide1_p, hide1_o, set_0, set_s, bnd_ret, bnd_stuck, bnd_bnd, bnd_ite, slot_d, slot_p, wipeR, List.map_cons, List.map_nil, List.cons_append, List.nil_append, List.replicate, add_ints, sub_ints, le_ints, lt_ints, ge_ints, gt_ints, neg_ints, min2_ints, max2_ints, oEq_ints, oNe_ints, oEq_bools, oNe_bools, len_tup, len_lst, revL_l, oEq_strs, oNe_strs, tuple_l, tuple_t, list_l, list_t, at_sl, at_pn, at_ps', sl_tup', sl_lst', is_T, is_L, is_I, is_B, is_S, is_N, not_N, isT_n, isT_b, isT_i, isT_s, isT_t, isT_l, isT_d, isL_n, isL_b, isL_i, isL_s, isL_t, isL_l, isL_d, isI_n, isI_b, isI_i, isI_s, isI_t, isI_l, isI_d, isB_n, isB_b, isB_i, isB_s, isB_t, isB_l, isB_d, isS_n, isS_b, isS_i, isS_s, isS_t, isS_l, isS_d, isN_n, isN_b, isN_i, isN_s, isN_t, isN_l, isN_d, decide_eq_true_eq, Bool.not_eq_true', decide_eq_false_iff_not, Bool.false_eq_true, if_true, if_false, decide_true, decide_false, Bool.not_true, Bool.not_false, not_true_eq_false, not_false_eq_true, ret_ite_o, Int.reduceLT, Int.reduceLE, Int.reduceEq, Int.reduceAdd, Int.reduceSub, Int.reduceNeg, reduceCtorEq, sv]) (sz18 (by omega)) fun a ha => by
    have c := cost_at ok (svs_ok cs.length a ha).rowIn
    show M.bnd (gN 1 _ [some (.dat (encCs cs)), none]) _ = _
    simp only [at_emp, at_dis1, at_ow0, at_ows, at_calln, isLst_ret, at_c, at_bin, at_un, at_v0, at_o0, at_vs, at_tup, at_lst, at_each0, at_eachs, at_ad, at_p0, at_ps, at_args0, at_argss, at_call, at_tofk, at_and, at_or, at_not, at_dand, at_dor, at_dnot, at_if, at_chain, at_gn, at_g2, at_g3, at_g4, at_iseq, at_r1, at_r2, turn_def, at_sasgn, at_sforr, at_nil, at_seq, at_asg, at_sown, at_sret, at_sretn, at_sif, at_sdrop, at_sbrk, at_scont, at_sfor, hide_nil, hide_cons, hide1_d, hide1_n, hide1_p, hide1_o, set_0, set_s, bnd_ret, bnd_stuck, bnd_bnd, bnd_ite, slot_d, slot_p, wipeR, List.map_cons, List.map_nil, List.cons_append, List.nil_append, List.replicate, add_ints, sub_ints, le_ints, lt_ints, ge_ints, gt_ints, neg_ints, min2_ints, max2_ints, oEq_ints, oNe_ints, oEq_bools, oNe_bools, len_tup, len_lst, revL_l, oEq_strs, oNe_strs, tuple_l, tuple_t, list_l, list_t, at_sl, at_pn, at_ps', sl_tup', sl_lst', is_T, is_L, is_I, is_B, is_S, is_N, not_N, isT_n, isT_b, isT_i, isT_s, isT_t, isT_l, isT_d, isL_n, isL_b, isL_i, isL_s, isL_t, isL_l, isL_d, isI_n, isI_b, isI_i, isI_s, isI_t, isI_l, isI_d, isB_n, isB_b, isB_i, isB_s, isB_t, isB_l, isB_d, isS_n, isS_b, isS_i, isS_s, isS_t, isS_l, isS_d, isN_n, isN_b, isN_i, isN_s, isN_t, isN_l, isN_d, decide_eq_true_eq, Bool.not_eq_true', decide_eq_false_iff_not, Bool.false_eq_true, if_true, if_false, decide_true, decide_false, Bool.not_true, Bool.not_false, not_true_eq_false, not_false_eq_true, ret_ite_o, Int.reduceLT, Int.reduceLE, Int.reduceEq, Int.reduceAdd, Int.reduceSub, Int.reduceNeg, reduceCtorEq, c]
    rfl
  show M.bnd (sRet _ [some (.dat (encCs cs)), none]) _ = _
  have i1 : oIx (encS cs row) (.int 1) = M.ret (encT row) := rfl
  rw [at_sret, at_bin, at_un, z, bnd_ret, e, bnd_ret, at_c, bnd_ret, i1]
  rfl
theorem lservices_at {cs : List (List Int)} {h : Nat} (ok : CostOk cs h) : F__law_services [.d (encCs cs)] = M.ret (.list ((svs h cs.length).map (encS cs))) := by
  unfold F__law_services
  rw [fn_eq]
  obtain ⟨r0, ix0, l0, hl0⟩ := ok.hrs
  have h6 := ok.h6
  have m4 := ok.m4
  have rh := rng_h (show h ≤ 100000 by omega)
  have rm := rng_h (show cs.length ≤ 100000 by omega)
  have e18 : (2 : Nat) ^ 18 = 262144 := by decide +kernel
  have e64 : (6 : Nat) ^ 4 = 1296 := by decide
  have inner : ∀ (j : Nat) (a : List Int) (x4 x5 : Option Slot), j < cs.length → ∃ x4' x5', forGo (gN 4) (sAsg (gN 3) (dBin oAdd (dVar 3) (dComp [5] (iR1 (dUn bLen (dBin oIx (dVar 0) (dC (.int 0))))) (gN 5) (tOf (dBin oNotIn (dVar 5) (dVar 4))) (dBin oAdd (dVar 4) (dTup [(dVar 5)]))))) ((svs h j).map encT) [some (.dat (encCs cs)), some (.dat (.list ((svs h j).map encT))), some (.dat (encT a)), some (.dat (.list [])), x4, x5, none] = M.ret (.next [some (.dat (encCs cs)), some (.dat (.list ((svs h j).map encT))), some (.dat (encT a)), some (.dat (.list ((svs h (j + 1)).map encT))), x4', x5', none]) := by
    intro j a x4 x5 hj
    have hsl := svs_len h6 j
    have h6j : 6 ^ j ≤ 6 ^ 4 := Nat.pow_le_pow_right (by omega) (by omega)
    obtain ⟨r, er, x4', x5', hr⟩ := for_all (as := svs h j) (g := gN 4) (B := sAsg (gN 3) (dBin oAdd (dVar 3) (dComp [5] (iR1 (dUn bLen (dBin oIx (dVar 0) (dC (.int 0))))) (gN 5) (tOf (dBin oNotIn (dVar 5) (dVar 4))) (dBin oAdd (dVar 4) (dTup [(dVar 5)])))))
      (ρ := [some (.dat (encCs cs)), some (.dat (.list ((svs h j).map encT))), some (.dat (encT a)), some (.dat (.list [])), x4, x5, none]) encT (fun i ρ => ∃ x4 x5, ρ = [some (.dat (encCs cs)), some (.dat (.list ((svs h j).map encT))), some (.dat (encT a)), some (.dat (.list ((((svs h j).take i).flatMap (svRow h)).map encT))), x4, x5, none]) ⟨_, _, rfl⟩ fun i row ρ ha ⟨x4, x5, hI⟩ => by
        subst hI
        have hi : i < (svs h j).length := (List.getElem?_eq_some_iff.mp ha).1
        have okr := svs_ok j row (List.mem_of_getElem? ha)
        have et : (svs h j).take (i + 1) = (svs h j).take i ++ [row] := by
          rw [List.take_succ, ha]
          rfl
        refine ⟨[some (.dat (encCs cs)), some (.dat (.list ((svs h j).map encT))), some (.dat (encT a)), some (.dat (.list ((((svs h j).take (i + 1)).flatMap (svRow h)).map encT))), some (.dat (encT row)), x5, none], .inl ?_, _, _, rfl⟩
        have z : dComp [5] (iR1 (dUn bLen (dBin oIx (dVar 0) (dC (.int 0))))) (gN 5) (tOf (dBin oNotIn (dVar 5) (dVar 4))) (dBin oAdd (dVar 4) (dTup [(dVar 5)])) [some (.dat (encCs cs)), some (.dat (.list ((svs h j).map encT))), some (.dat (encT a)), some (.dat (.list ((((svs h j).take i).flatMap (svRow h)).map encT))), some (.dat (encT row)), hide1 x5, none] = M.ret (.list ((svRow h row).map encT)) := by
          have z := comp_rngf (own := [5]) (it := iR1 (dUn bLen (dBin oIx (dVar 0) (dC (.int 0))))) (g := gN 5) (t := tOf (dBin oNotIn (dVar 5) (dVar 4))) (e := dBin oAdd (dVar 4) (dTup [(dVar 5)])) (ρ := [some (.dat (encCs cs)), some (.dat (.list ((svs h j).map encT))), some (.dat (encT a)), some (.dat (.list ((((svs h j).take i).flatMap (svRow h)).map encT))), some (.dat (encT row)), hide1 x5, none])
            0 h (fun (k : Nat) => !decide ((k : Int) ∈ row)) (fun (k : Nat) => encT (row ++ [(k : Int)])) (by simp only [at_r1, at_un, at_bin, at_v0, at_c, bnd_ret, ix0, l0, rh]) (sz18 (by omega)) fun k hk => by
            show compTurn _ _ _ [some (.dat (encCs cs)), some (.dat (.list ((svs h j).map encT))), some (.dat (encT a)), some (.dat (.list ((((svs h j).take i).flatMap (svRow h)).map encT))), some (.dat (encT row)), none, none] _ = _
            rw [turn_at (r' := [some (.dat (encCs cs)), some (.dat (.list ((svs h j).map encT))), some (.dat (encT a)), some (.dat (.list ((((svs h j).take i).flatMap (svRow h)).map encT))), some (.dat (encT row)), some (.dat (.int (0 + (k : Int)))), none]) rfl]
            have e0 : (0 : Int) + (k : Int) = (k : Int) := by omega
            rw [e0]
            have ad := add_hour row (by rw [okr.len]; omega) (k : Int)
            simp only [at_tofk, at_bin, at_v0, at_vs, at_tup, at_each0, at_eachs, bnd_ret, notin_ints_t, ad]
            split <;> rfl
          rw [z]
          unfold svRow
          rw [List.map_map]
          rfl
        have fl := flat_len (svRow h) 6 ((svs h j).take i) fun a _ => Nat.le_trans (svRow_len h a) h6
        have tl : ((svs h j).take i).length ≤ (svs h j).length := by rw [List.length_take]; omega
        have rl := svRow_len h row
        simp only [at_gn, bnd_ret, set_0, set_s, at_asg, hide_cons, hide1_d, hide1_n, hide_nil, at_bin, at_vs, at_v0]
        rw [z, bnd_ret, add_tst (by rw [List.length_map]; omega) (by rw [List.length_map]; omega), et, List.flatMap_append, List.map_append, List.flatMap_singleton]
        rfl
    subst hr
    rw [List.take_length] at er
    exact ⟨x4', x5', er⟩
  obtain ⟨r, er, x2, x3, x4, x5, hr⟩ := for_all (as := cs) (g := gN 2) (B := sSeq (sAsg (gN 3) (dLst [])) (sSeq (sFor (iSeq (dVar 1)) (gN 4) (sAsg (gN 3) (dBin oAdd (dVar 3) (dComp [5] (iR1 (dUn bLen (dBin oIx (dVar 0) (dC (.int 0))))) (gN 5) (tOf (dBin oNotIn (dVar 5) (dVar 4))) (dBin oAdd (dVar 4) (dTup [(dVar 5)])))))) (sAsg (gN 1) (dVar 3))))
    (ρ := [some (.dat (encCs cs)), some (.dat (.list [.tuple []])), none, none, none, none, none]) encT (fun j ρ => ∃ x2 x3 x4 x5, ρ = [some (.dat (encCs cs)), some (.dat (.list ((svs h j).map encT))), x2, x3, x4, x5, none]) ⟨_, _, _, _, rfl⟩ fun j a ρ ha ⟨x2, x3, x4, x5, hI⟩ => by
      subst hI
      have hj : j < cs.length := (List.getElem?_eq_some_iff.mp ha).1
      obtain ⟨x4', x5', e⟩ := inner j a x4 x5 hj
      refine ⟨[some (.dat (encCs cs)), some (.dat (.list ((svs h (j + 1)).map encT))), some (.dat (encT a)), some (.dat (.list ((svs h (j + 1)).map encT))), x4', x5', none], .inl ?_, _, _, _, _, rfl⟩
      try simp only [at_emp, at_dis1, at_ow0, at_ows, at_calln, isLst_ret, at_c, at_bin, at_un, at_v0, at_o0, at_vs, at_tup, at_lst, at_each0, at_eachs, at_ad, at_p0, at_ps, at_args0, at_argss, at_call, at_tofk, at_and, at_or, at_not, at_dand, at_dor, at_dnot, at_if, at_chain, at_gn, at_g2, at_g3, at_g4, at_iseq, at_r1, at_r2, turn_def, at_sasgn, at_sforr, at_nil, at_seq, at_asg, at_sown, at_sret, at_sretn, at_sif, at_sdrop, at_sbrk, at_scont, at_sfor, hide_nil, hide_cons, hide1_d, hide1_n, hide1_p, hide1_o, set_0, set_s, bnd_ret, bnd_stuck, bnd_bnd, bnd_ite, slot_d, slot_p, wipeR, List.map_cons, List.map_nil, List.cons_append, List.nil_append, List.replicate, add_ints, sub_ints, le_ints, lt_ints, ge_ints, gt_ints, neg_ints, min2_ints, max2_ints, oEq_ints, oNe_ints, oEq_bools, oNe_bools, len_tup, len_lst, revL_l, oEq_strs, oNe_strs, tuple_l, tuple_t, list_l, list_t, at_sl, at_pn, at_ps', sl_tup', sl_lst', is_T, is_L, is_I, is_B, is_S, is_N, not_N, isT_n, isT_b, isT_i, isT_s, isT_t, isT_l, isT_d, isL_n, isL_b, isL_i, isL_s, isL_t, isL_l, isL_d, isI_n, isI_b, isI_i, isI_s, isI_t, isI_l, isI_d, isB_n, isB_b, isB_i, isB_s, isB_t, isB_l, isB_d, isS_n, isS_b, isS_i, isS_s, isS_t, isS_l, isS_d, isN_n, isN_b, isN_i, isN_s, isN_t, isN_l, isN_d, decide_eq_true_eq, Bool.not_eq_true', decide_eq_false_iff_not, Bool.false_eq_true, if_true, if_false, decide_true, decide_false, Bool.not_true, Bool.not_false, not_true_eq_false, not_false_eq_true, ret_ite_o, Int.reduceLT, Int.reduceLE, Int.reduceEq, Int.reduceAdd, Int.reduceSub, Int.reduceNeg, reduceCtorEq, e]
  subst hr
  have er' : forGo (gN 2) (sSeq (sAsg (gN 3) (dLst [])) (sSeq (sFor (iSeq (dVar 1)) (gN 4) (sAsg (gN 3) (dBin oAdd (dVar 3) (dComp [5] (iR1 (dUn bLen (dBin oIx (dVar 0) (dC (.int 0))))) (gN 5) (tOf (dBin oNotIn (dVar 5) (dVar 4))) (dBin oAdd (dVar 4) (dTup [(dVar 5)])))))) (sAsg (gN 1) (dVar 3)))) (cs.map encT) [some (.dat (.tuple (cs.map encT))), some (.dat (.list [.tuple []])), none, none, none, none, none] = _ := er
  have sl := svs_len h6 cs.length
  have h6j : 6 ^ cs.length ≤ 6 ^ 4 := Nat.pow_le_pow_right (by omega) m4
  have z := comp_map (own := [4]) (it := iSeq (dVar 1)) (g := gN 4) (e := dTup [(dUn bSum (dComp [6] (iR1 (dUn bLen (dVar 4))) (gN 6) tTrue (dBin oIx (dBin oIx (dVar 0) (dVar 6)) (dBin oIx (dVar 4) (dVar 6))))), (dVar 4)]) (ρ := [some (.dat (encCs cs)), some (.dat (.list ((svs h cs.length).map encT))), x2, x3, x4, x5, none]) (svs h cs.length) encT (encS cs) (by simp only [at_iseq, at_vs, at_v0, bnd_ret]) (sz18 (by omega)) fun row hrow => by
    have okr := (svs_ok cs.length row hrow).rowIn
    have z := comp_rng (own := [6]) (it := iR1 (dUn bLen (dVar 4))) (g := gN 6) (e := dBin oIx (dBin oIx (dVar 0) (dVar 6)) (dBin oIx (dVar 4) (dVar 6))) (ρ := [some (.dat (encCs cs)), some (.dat (.list ((svs h cs.length).map encT))), x2, x3, some (.dat (encT row)), x5, none]) 0 cs.length (fun k => .int ((cs.getD k []).getD ((row.getD k 0).toNat) 0)) (by simp only [at_r1, at_un, at_v0, at_vs, bnd_ret, t_len, okr.len, rm]) (sz18 (by omega)) fun k hk => by
      obtain ⟨r, v, h1, h2, h3⟩ := cost_ix ok okr hk (i := 0 + (k : Int)) (by omega)
      show M.bnd (gN 6 _ [some (.dat (encCs cs)), some (.dat (.list ((svs h cs.length).map encT))), x2, x3, some (.dat (encT row)), x5, none]) _ = _
      simp only [at_gn, set_0, set_s, bnd_ret, at_bin, at_v0, at_vs, h1, h2, h3]
    show M.bnd (gN 4 _ [some (.dat (encCs cs)), some (.dat (.list ((svs h cs.length).map encT))), x2, x3, none, x5, none]) _ = _
    simp only [at_gn, set_0, set_s, bnd_ret, at_tup, at_eachs, at_each0, at_un, z, sum_rng, at_v0, at_vs]
    rfl
  try simp only [at_emp, at_dis1, at_ow0, at_ows, at_calln, isLst_ret, at_c, at_bin, at_un, at_v0, at_o0, at_vs, at_tup, at_lst, at_each0, at_eachs, at_ad, at_p0, at_ps, at_args0, at_argss, at_call, at_tofk, at_and, at_or, at_not, at_dand, at_dor, at_dnot, at_if, at_chain, at_gn, at_g2, at_g3, at_g4, at_iseq, at_r1, at_r2, turn_def, at_sasgn, at_sforr, at_nil, at_seq, at_asg, at_sown, at_sret, at_sretn, at_sif, at_sdrop, at_sbrk, at_scont, at_sfor, hide_nil, hide_cons, hide1_d, hide1_n, hide1_p, hide1_o, set_0, set_s, bnd_ret, bnd_stuck, bnd_bnd, bnd_ite, slot_d, slot_p, wipeR, List.map_cons, List.map_nil, List.cons_append, List.nil_append, List.replicate, add_ints, sub_ints, le_ints, lt_ints, ge_ints, gt_ints, neg_ints, min2_ints, max2_ints, oEq_ints, oNe_ints, oEq_bools, oNe_bools, len_tup, len_lst, revL_l, oEq_strs, oNe_strs, tuple_l, tuple_t, list_l, list_t, at_sl, at_pn, at_ps', sl_tup', sl_lst', is_T, is_L, is_I, is_B, is_S, is_N, not_N, isT_n, isT_b, isT_i, isT_s, isT_t, isT_l, isT_d, isL_n, isL_b, isL_i, isL_s, isL_t, isL_l, isL_d, isI_n, isI_b, isI_i, isI_s, isI_t, isI_l, isI_d, isB_n, isB_b, isB_i, isB_s, isB_t, isB_l, isB_d, isS_n, isS_b, isS_i, isS_s, isS_t, isS_l, isS_d, isN_n, isN_b, isN_i, isN_s, isN_t, isN_l, isN_d, decide_eq_true_eq, Bool.not_eq_true', decide_eq_false_iff_not, Bool.false_eq_true, if_true, if_false, decide_true, decide_false, Bool.not_true, Bool.not_false, not_true_eq_false, not_false_eq_true, ret_ite_o, Int.reduceLT, Int.reduceLE, Int.reduceEq, Int.reduceAdd, Int.reduceSub, Int.reduceNeg, reduceCtorEq, er', z]

/-! ### prices of hours -/
theorem get_of {cs : List (List Int)} {h : Nat} (ok : CostOk cs h) {k j : Nat} (hk : k < cs.length) (hj : j < h) {i i' : Int} (e : i = (k : Int)) (e' : i' = (j : Int)) : ∃ r v, oIx (encCs cs) (.int i) = M.ret (encT r) ∧ oIx (encT r) (.int i') = M.ret (.int v) ∧ (0 ≤ v ∧ v ≤ 99) ∧ v = (cs.getD k []).getD j 0 := by
  have e1 : cs[k]? = some cs[k] := List.getElem?_eq_getElem hk
  have hrl := ok.rows _ (List.getElem_mem hk)
  have hj2 : j < cs[k].length := by rw [hrl.1]; exact hj
  refine ⟨cs[k], cs[k][j], cs_ix e1 e, t_ix (List.getElem?_eq_getElem hj2) e', hrl.2 _ (List.getElem_mem hj2), ?_⟩
  have gk : cs.getD k [] = cs[k] := by rw [List.getD_eq_getElem?_getD, e1, Option.getD_some]
  rw [gk, List.getD_eq_getElem?_getD, List.getElem?_eq_getElem hj2, Option.getD_some]
theorem mapInt_inj : ∀ {l m : List Int}, l.map PyData.int = m.map PyData.int → l = m
  | [], [], _ => rfl
  | [], _ :: _, h => by cases h
  | _ :: _, [], h => by cases h
  | a :: l, b :: m, h => by
    rw [List.map_cons, List.map_cons] at h
    injection h with h1 h2
    injection h1 with h1
    rw [h1, mapInt_inj h2]
theorem l_ix {r : List Int} {k : Nat} {i v : Int} (h : r[k]? = some v) (e : i = (k : Int)) : oIx (.list (r.map .int)) (.int i) = M.ret (.int v) := by
  rw [e]
  exact oIx_l (by rw [List.getElem?_map, h]; rfl)
def Low (h : Nat) (b : Int) (ns : List Int) : Prop := ns.length = h ∧ ∀ v ∈ ns, -b ≤ v ∧ v ≤ 0
/-! ### exchanges: no walk gains where no service costs less -/
section
variable (C : Nat → Int → Int) (o : Nat → Int)
def wW (k : Nat) (v : Int) : Int := C k v - C k (o k)
def nxW (ms : List Nat) (j : Int) : Int := match ms with
  | [] => j
  | k :: _ => o k
def WW : List Nat → Int → Int
  | [], _ => 0
  | k :: ks, j => wW C o k (nxW o ks j) + WW ks j
def exW : List Nat → Int → Nat → Int
  | [], _, x => o x
  | k :: ks, j, x => if x = k then nxW o ks j else exW ks j x
end
section
variable {C : Nat → Int → Int} {o : Nat → Int}
theorem nx_app (a b : List Nat) (j : Int) : nxW o (a ++ b) j = nxW o a (nxW o b j) := by cases a <;> rfl
theorem W_app : ∀ (a b : List Nat) (j : Int), WW C o (a ++ b) j = WW C o a (nxW o b j) + WW C o b j
  | [], b, j => by show _ = 0 + _; rw [Int.zero_add]; rfl
  | k :: a, b, j => by
    show wW C o k (nxW o (a ++ b) j) + WW C o (a ++ b) j = wW C o k (nxW o a (nxW o b j)) + WW C o a (nxW o b j) + WW C o b j
    rw [W_app a b j, nx_app]
    omega
theorem W_snoc (a : List Nat) (k : Nat) (j : Int) : WW C o (a ++ [k]) j = WW C o a (o k) + wW C o k j := by
  rw [W_app]
  show WW C o a (o k) + (wW C o k j + 0) = _
  omega
theorem ex_out : ∀ {ms : List Nat} {j : Int} {x : Nat}, x ∉ ms → exW o ms j x = o x
  | [], _, _, _ => rfl
  | k :: ks, j, x, h => by
    show (if x = k then _ else _) = _
    rw [if_neg (show ¬ x = k from fun e => h (by rw [e]; exact List.mem_cons_self))]
    exact ex_out fun z => h (List.mem_cons_of_mem _ z)
theorem sum_put (G : Nat → Int) (v : Int) (k : Nat) : ∀ M, k < M → ((List.range M).map fun x => if x = k then v else G x).sum = ((List.range M).map G).sum + v - G k
  | 0, h => by omega
  | M + 1, h => by
    rw [List.range_succ, List.map_append, List.map_append, List.sum_append, List.sum_append]
    by_cases e : k < M
    · rw [sum_put G v k M e]
      simp only [List.map_cons, List.map_nil, List.sum_cons, List.sum_nil]
      rw [if_neg (show ¬ M = k by omega)]
      omega
    · have e1 : k = M := by omega
      have e2 : ((List.range M).map fun x => if x = k then v else G x) = (List.range M).map G := List.map_congr_left fun x hx => by
        have := List.mem_range.mp hx
        exact if_neg (by omega)
      rw [e2]
      simp only [List.map_cons, List.map_nil, List.sum_cons, List.sum_nil]
      rw [if_pos e1.symm, e1]
      omega
theorem sum_ex {M : Nat} : ∀ {ms : List Nat} {j : Int}, ms.Nodup → (∀ x ∈ ms, x < M) → ((List.range M).map fun x => C x (exW o ms j x)).sum = ((List.range M).map fun x => C x (o x)).sum + WW C o ms j
  | [], j, _, _ => by show _ = _ + 0; rw [Int.add_zero]; rfl
  | k :: ks, j, hn, hm => by
    rw [List.nodup_cons] at hn
    have ih := sum_ex (j := j) hn.2 fun x hx => hm x (List.mem_cons_of_mem _ hx)
    have e : (fun x => C x (exW o (k :: ks) j x)) = fun x => if x = k then C k (nxW o ks j) else C x (exW o ks j x) := by
      funext x
      show C x (if x = k then _ else _) = _
      split
      · rename_i h
        rw [h]
      · rfl
    rw [e, sum_put _ _ k M (hm k List.mem_cons_self), ih, ex_out hn.1]
    show _ = _ + (wW C o k (nxW o ks j) + WW C o ks j)
    unfold wW
    omega
theorem W_ind (v : Int) : ∀ (ms : List Nat) (j : Int), WW (fun _ u => if u = v then 1 else 0) o ms j = (if j = v then 1 else 0) - (if nxW o ms j = v then 1 else 0)
  | [], j => by show (0 : Int) = _ - (if j = v then 1 else 0); omega
  | k :: ks, j => by
    show wW _ o k (nxW o ks j) + WW _ o ks j = _ - (if o k = v then 1 else 0)
    rw [W_ind v ks j]
    unfold wW
    dsimp only
    omega
theorem sum_count (f : Nat → Int) (v : Int) : ∀ l : List Nat, (l.map fun x => if f x = v then (1 : Int) else 0).sum = ((l.map f).count v : Int)
  | [] => rfl
  | x :: l => by
    rw [List.map_cons, List.map_cons, List.sum_cons, sum_count f v l, List.count_cons]
    by_cases e : f x = v
    · rw [if_pos e, if_pos (by simpa using e)]
      omega
    · rw [if_neg e, if_neg (by simpa using e)]
      omega
/-- the exchange leaves each hour to one machine -/
theorem ex_nodup {M : Nat} {ms : List Nat} {j : Int} (hn : ms.Nodup) (hm : ∀ x ∈ ms, x < M) (ho : ((List.range M).map o).Nodup) (hj : ∀ x, x < M → o x = j → ms.head? = some x) : ((List.range M).map (exW o ms j)).Nodup := by
  rw [List.nodup_iff_count]
  rw [List.nodup_iff_count] at ho
  intro v
  have h1 := sum_ex (C := fun _ u => if u = v then 1 else 0) (o := o) (j := j) hn hm
  rw [sum_count, sum_count, W_ind] at h1
  have h2 := ho v
  by_cases e : j = v
  · rw [if_pos e] at h1
    by_cases hz : ((List.range M).map o).count v = 0
    · split at h1 <;> omega
    · have hmem : v ∈ (List.range M).map o := by
        rcases Decidable.em (v ∈ (List.range M).map o) with h | h
        · exact h
        · exact absurd (List.count_eq_zero.mpr h) hz
      obtain ⟨x, hx, ex⟩ := List.mem_map.mp hmem
      have hh := hj x (List.mem_range.mp hx) (ex.trans e.symm)
      cases ms with
      | nil => cases hh
      | cons k ks =>
        have ek : k = x := by simpa using hh
        have enx : nxW o (k :: ks) j = v := by show o k = v; rw [ek]; exact ex
        rw [if_pos enx] at h1
        omega
  · rw [if_neg e] at h1
    split at h1 <;> omega
theorem dup_split : ∀ {ms : List Nat}, ¬ ms.Nodup → ∃ a x b c, ms = a ++ x :: (b ++ x :: c)
  | [], h => absurd List.nodup_nil h
  | k :: ks, h => by
    by_cases hk : k ∈ ks
    · obtain ⟨b, c, e⟩ := List.append_of_mem hk
      exact ⟨[], k, b, c, by rw [e]; rfl⟩
    · obtain ⟨a, x, b, c, e⟩ := dup_split (ms := ks) fun z => h (List.nodup_cons.mpr ⟨hk, z⟩)
      exact ⟨k :: a, x, b, c, by rw [e]; rfl⟩
theorem W_split (a : List Nat) (x : Nat) (b c : List Nat) (j : Int) : WW C o (a ++ x :: (b ++ x :: c)) j = WW C o (a ++ x :: c) j + WW C o (x :: b) (o x) := by
  have e : x :: (b ++ x :: c) = (x :: b) ++ (x :: c) := rfl
  rw [e, W_app, W_app, W_app a (x :: c)]
  have e1 : nxW o ((x :: b) ++ x :: c) j = o x := rfl
  have e2 : nxW o (x :: c) j = o x := rfl
  rw [e1, e2]
  omega
variable {M : Nat} (hA : ∀ ms : List Nat, ms.Nodup → (∀ x ∈ ms, x < M) → ms ≠ [] → 0 ≤ WW C o ms (nxW o ms 0))
include hA
theorem closed_nonneg : ∀ (n : Nat) (ms : List Nat), ms.length ≤ n → (∀ x ∈ ms, x < M) → ∀ j, nxW o ms j = j → 0 ≤ WW C o ms j
  | n, [], _, _, _, _ => Int.le_refl _
  | 0, k :: ks, h, _, _, _ => by simp at h
  | n + 1, k :: ks, h, hm, j, hj => by
    by_cases hn : (k :: ks).Nodup
    · have z := hA (k :: ks) hn hm (by simp)
      have e : nxW o (k :: ks) 0 = j := hj
      rw [e] at z
      exact z
    · obtain ⟨a, x, b, c, e⟩ := dup_split hn
      rw [e] at h hm hj ⊢
      rw [W_split]
      simp only [List.length_append, List.length_cons] at h
      have m1 : ∀ y ∈ a ++ x :: c, y < M := fun y hy => hm y (by
        rcases List.mem_append.mp hy with hy | hy
        · exact List.mem_append_left _ hy
        · refine List.mem_append_right _ ?_
          rcases List.mem_cons.mp hy with rfl | hy
          · exact List.mem_cons_self
          · exact List.mem_cons_of_mem _ (List.mem_append_right _ (List.mem_cons_of_mem _ hy)))
      have m2 : ∀ y ∈ x :: b, y < M := fun y hy => hm y (by
        refine List.mem_append_right _ ?_
        rcases List.mem_cons.mp hy with rfl | hy
        · exact List.mem_cons_self
        · exact List.mem_cons_of_mem _ (List.mem_append_left _ hy))
      have j1 : nxW o (a ++ x :: c) j = j := by
        rw [nx_app] at hj ⊢
        exact hj
      have z1 := closed_nonneg n (a ++ x :: c) (by simp only [List.length_append, List.length_cons]; omega) m1 j j1
      have z2 := closed_nonneg n (x :: b) (by simp only [List.length_cons]; omega) m2 (o x) rfl
      omega
theorem walk_short : ∀ (n : Nat) (ms : List Nat), ms.length ≤ n → (∀ x ∈ ms, x < M) → ∀ j, ∃ ks : List Nat, ks.Nodup ∧ (∀ x ∈ ks, x < M) ∧ WW C o ks j ≤ WW C o ms j
  | n, [], _, _, _ => ⟨[], List.nodup_nil, (fun _ h => nomatch h), Int.le_refl _⟩
  | 0, k :: ks, h, _, _ => by simp at h
  | n + 1, k :: ks, h, hm, j => by
    by_cases hn : (k :: ks).Nodup
    · exact ⟨k :: ks, hn, hm, Int.le_refl _⟩
    · obtain ⟨a, x, b, c, e⟩ := dup_split hn
      rw [e] at h hm ⊢
      simp only [List.length_append, List.length_cons] at h
      have m1 : ∀ y ∈ a ++ x :: c, y < M := fun y hy => hm y (by
        rcases List.mem_append.mp hy with hy | hy
        · exact List.mem_append_left _ hy
        · refine List.mem_append_right _ ?_
          rcases List.mem_cons.mp hy with rfl | hy
          · exact List.mem_cons_self
          · exact List.mem_cons_of_mem _ (List.mem_append_right _ (List.mem_cons_of_mem _ hy)))
      have m2 : ∀ y ∈ x :: b, y < M := fun y hy => hm y (by
        refine List.mem_append_right _ ?_
        rcases List.mem_cons.mp hy with rfl | hy
        · exact List.mem_cons_self
        · exact List.mem_cons_of_mem _ (List.mem_append_left _ hy))
      obtain ⟨ks', n1, n2, n3⟩ := walk_short n (a ++ x :: c) (by simp only [List.length_append, List.length_cons]; omega) m1 j
      have z2 := closed_nonneg hA (x :: b).length (x :: b) (Nat.le_refl _) m2 (o x) rfl
      exact ⟨ks', n1, n2, by rw [W_split]; omega⟩
end

/-! ### the first service costs least of all -/
theorem svs_all {h : Nat} : ∀ m row, ServOk h m row → row ∈ svs h m
  | 0, row, s => by
    have e : row = [] := List.length_eq_zero_iff.mp s.len
    rw [e, svs]
    exact List.mem_singleton.mpr rfl
  | m + 1, row, s => by
    have hne : row ≠ [] := fun z => by have := s.len; rw [z] at this; cases this
    obtain ⟨r, v, e⟩ : ∃ r v, row = r ++ [v] := ⟨row.dropLast, row.getLast hne, (List.dropLast_concat_getLast hne).symm⟩
    subst e
    have hl := s.len
    rw [List.length_append, List.length_singleton] at hl
    have nd := List.nodup_append.mp s.nd
    have sr : ServOk h m r := ⟨by omega, fun v hv => s.rng v (List.mem_append_left _ hv), nd.1⟩
    have hv := s.rng v (List.mem_append_right _ (List.mem_singleton.mpr rfl))
    rw [svs]
    refine List.mem_flatMap.mpr ⟨r, svs_all m r sr, ?_⟩
    unfold svRow
    refine List.mem_map.mpr ⟨v.toNat, List.mem_filter.mpr ⟨List.mem_range.mpr (by omega), ?_⟩, by rw [show ((v.toNat : Nat) : Int) = v by omega]⟩
    rw [show ((v.toNat : Nat) : Int) = v by omega]
    simp only [Bool.not_eq_true', decide_eq_false_iff_not]
    exact fun z => nd.2.2 v z v (List.mem_singleton.mpr rfl) rfl
theorem lt_enc (cs : List (List Int)) (y x : List Int) : (PySem.W.dataLt (encS cs y) (encS cs x) = true → costS cs y ≤ costS cs x) ∧ (PySem.W.dataLt (encS cs y) (encS cs x) = false → costS cs x ≤ costS cs y) := by
  have e : PySem.W.dataLt (encS cs y) (encS cs x) = if costS cs y = costS cs x then PySem.W.dataLt (.tuple [encT y]) (.tuple [encT x]) else decide (costS cs y < costS cs x) := lt_int_cons _ _ _ _
  rw [e]
  by_cases he : costS cs y = costS cs x
  · exact ⟨fun _ => by omega, fun _ => by omega⟩
  · rw [if_neg he]
    exact ⟨fun z => by have := of_decide_eq_true z; omega, fun z => by have := of_decide_eq_false z; omega⟩
theorem minD_le (cs : List (List Int)) : ∀ (t : List (List Int)) (x : List Int), ∃ row ∈ x :: t, PySem.W.minD (encS cs x) (t.map (encS cs)) = encS cs row ∧ ∀ r ∈ x :: t, costS cs row ≤ costS cs r
  | [], x => ⟨x, List.mem_cons_self, rfl, fun r hr => by rw [List.mem_singleton.mp hr]; exact Int.le_refl _⟩
  | y :: t, x => by
    have lt := lt_enc cs y x
    have e : PySem.W.minD (encS cs x) ((y :: t).map (encS cs)) = PySem.W.minD (if PySem.W.dataLt (encS cs y) (encS cs x) = true then encS cs y else encS cs x) (t.map (encS cs)) := rfl
    rw [e]
    cases hd : PySem.W.dataLt (encS cs y) (encS cs x) with
    | true =>
      rw [if_pos rfl]
      obtain ⟨row, h1, h2, h3⟩ := minD_le cs t y
      have hx := lt.1 hd
      have hy := h3 y List.mem_cons_self
      refine ⟨row, List.mem_cons_of_mem _ h1, h2, fun r hr => ?_⟩
      rcases List.mem_cons.mp hr with rfl | hr
      · omega
      · exact h3 r hr
    | false =>
      rw [if_neg Bool.false_ne_true]
      obtain ⟨row, h1, h2, h3⟩ := minD_le cs t x
      have hx := lt.2 hd
      have hy := h3 x List.mem_cons_self
      refine ⟨row, ?_, h2, fun r hr => ?_⟩
      · rcases List.mem_cons.mp h1 with rfl | h1
        · exact List.mem_cons_self
        · exact List.mem_cons_of_mem _ (List.mem_cons_of_mem _ h1)
      rcases List.mem_cons.mp hr with rfl | hr
      · exact hy
      rcases List.mem_cons.mp hr with rfl | hr
      · omega
      · exact h3 r (List.mem_cons_of_mem _ hr)
theorem first_least {cs : List (List Int)} {h : Nat} (ok : CostOk cs h) : ∃ row, ServOk h cs.length row ∧ bMin (.list ((svs h cs.length).map (encS cs))) = M.ret (encS cs row) ∧ F_first_service [.d (encCs cs)] = M.ret (encT row) ∧ ∀ r, ServOk h cs.length r → costS cs row ≤ costS cs r := by
  obtain ⟨row, hro, e, ef⟩ := first_serv ok
  refine ⟨row, hro, e, ef, fun r hr => ?_⟩
  obtain ⟨x, t, ex⟩ := List.exists_cons_of_ne_nil (svs_ne (h := h) cs.length ok.mh)
  obtain ⟨row', h1, h2, h3⟩ := minD_le cs t x
  have e' : bMin (.list ((svs h cs.length).map (encS cs))) = M.ret (encS cs row') := by
    rw [ex]
    unfold bMin
    have e0 : ints? ((x :: t).map (encS cs)) = none := rfl
    dsimp only
    rw [e0]
    dsimp only
    show bMinD (encS cs x :: t.map (encS cs)) = _
    unfold bMinD
    dsimp only
    rw [if_pos (show CanMin (encS cs x :: t.map (encS cs)) from canmin_s cs (x :: t)), ← h2]
  rw [e] at e'
  have z : encS cs row = encS cs row' := by injection (congrFun e' ⟨[], 0, 0, 0, 0⟩)
  have z2 : costS cs row = costS cs row' := by
    injection z with z
    injection z with z _
    injection z
  rw [z2]
  exact h3 r (by rw [← ex]; exact svs_all _ r hr)
/-! an exchange gains nothing -/
abbrev cC (cs : List (List Int)) (k : Nat) (v : Int) : Int := (cs.getD k []).getD v.toNat 0
abbrev oR (row : List Int) (k : Nat) : Int := row.getD k 0
theorem gdw {l : List Int} {k : Nat} (h : k < l.length) : l.getD k 0 = l[k] := by rw [List.getD_eq_getElem?_getD, List.getElem?_eq_getElem h, Option.getD_some]
theorem map_oR (row : List Int) : (List.range row.length).map (oR row) = row := by
  refine List.ext_getElem (by rw [List.length_map, List.length_range]) fun i h1 h2 => ?_
  rw [List.getElem_map, List.getElem_range]
  exact gdw h2
theorem ex_in {o : Nat → Int} : ∀ (ms : List Nat) (j : Int) (x : Nat), exW o ms j x = j ∨ ∃ y, (y = x ∨ y ∈ ms) ∧ exW o ms j x = o y
  | [], j, x => .inr ⟨x, .inl rfl, rfl⟩
  | k :: ks, j, x => by
    show (if x = k then nxW o ks j else exW o ks j x) = j ∨ ∃ y, _ ∧ (if x = k then nxW o ks j else exW o ks j x) = o y
    by_cases e : x = k
    · rw [if_pos e]
      cases ks with
      | nil => exact .inl rfl
      | cons q qs => exact .inr ⟨q, .inr (List.mem_cons_of_mem _ List.mem_cons_self), rfl⟩
    · rw [if_neg e]
      rcases ex_in ks j x with h | ⟨y, h1, h2⟩
      · exact .inl h
      · exact .inr ⟨y, h1.imp id (List.mem_cons_of_mem _), h2⟩
theorem gain_none {cs : List (List Int)} {h : Nat} {row : List Int} (hro : ServOk h cs.length row) (hle : ∀ r, ServOk h cs.length r → costS cs row ≤ costS cs r) {ms : List Nat} (hn : ms.Nodup) (hm : ∀ x ∈ ms, x < cs.length) {j : Int} (hj : 0 ≤ j ∧ j < h)
    (hc : ∀ x, x < cs.length → oR row x = j → ms.head? = some x) : 0 ≤ WW (cC cs) (oR row) ms j := by
  have hrl := hro.len
  have own : ∀ y, y < cs.length → 0 ≤ oR row y ∧ oR row y < h := fun y hy => by
    have e := gdw (l := row) (k := y) (by omega)
    show 0 ≤ row.getD y 0 ∧ row.getD y 0 < h
    rw [e]
    exact hro.rng _ (List.getElem_mem _)
  have ho : ((List.range cs.length).map (oR row)).Nodup := by
    rw [← hrl, map_oR]
    exact hro.nd
  have sv : ServOk h cs.length ((List.range cs.length).map (exW (oR row) ms j)) := by
    refine ⟨by rw [List.length_map, List.length_range], fun v hv => ?_, ex_nodup hn hm ho hc⟩
    obtain ⟨x, hx, rfl⟩ := List.mem_map.mp hv
    have hx := List.mem_range.mp hx
    rcases ex_in (o := oR row) ms j x with e | ⟨y, hy, e⟩
    · rw [e]
      exact hj
    · rw [e]
      rcases hy with rfl | hy
      · exact own _ hx
      · exact own y (hm y hy)
  have z := hle _ sv
  have e1 : costS cs ((List.range cs.length).map (exW (oR row) ms j)) = ((List.range cs.length).map fun x => cC cs x (exW (oR row) ms j x)).sum := by
    unfold costS
    congr 1
    refine List.map_congr_left fun k hk => ?_
    have hk := List.mem_range.mp hk
    have hl : k < ((List.range cs.length).map (exW (oR row) ms j)).length := by rw [List.length_map, List.length_range]; exact hk
    have e2 := gdw hl
    rw [List.getElem_map, List.getElem_range] at e2
    rw [e2]
  rw [e1, sum_ex hn hm] at z
  have e3 : costS cs row = ((List.range cs.length).map fun x => cC cs x (oR row x)).sum := rfl
  omega
theorem gain_closed {cs : List (List Int)} {h : Nat} {row : List Int} (hro : ServOk h cs.length row) (hle : ∀ r, ServOk h cs.length r → costS cs row ≤ costS cs r) (ms : List Nat) (hn : ms.Nodup) (hm : ∀ x ∈ ms, x < cs.length) (hne : ms ≠ []) : 0 ≤ WW (cC cs) (oR row) ms (nxW (oR row) ms 0) := by
  cases ms with
  | nil => exact absurd rfl hne
  | cons k ks =>
    have hrl := hro.len
    have hk := hm k List.mem_cons_self
    show 0 ≤ WW (cC cs) (oR row) (k :: ks) (oR row k)
    have e := gdw (l := row) (k := k) (by omega)
    refine gain_none hro hle hn hm ?_ fun x hx he => ?_
    · show 0 ≤ row.getD k 0 ∧ row.getD k 0 < h
      rw [e]
      exact hro.rng _ (List.getElem_mem _)
    · have e2 := gdw (l := row) (k := x) (by omega)
      have he2 : row[x]'(by omega) = row[k]'(by omega) := by rw [← e, ← e2]; exact he
      have := (List.getElem_inj hro.nd).mp he2
      rw [this]
      rfl

section
variable {κ : Bool}
/-! ### subsets of whole numbers, cases -/
abbrev encR (r : List Int) : D := .tuple (r.map .int)
def subS (ns : List Int) : List (List Int) := ns.foldl (fun rs it => rs ++ rs.map fun r => r ++ [it]) [[]]
theorem subS_succ (ns : List Int) (j : Nat) {it : Int} (h : ns[j]? = some it) : subS (ns.take (j + 1)) = subS (ns.take j) ++ (subS (ns.take j)).map fun r => r ++ [it] := by
  unfold subS
  rw [List.take_add_one, h, List.foldl_append]
  rfl
theorem subS_facts (ns : List Int) (j : Nat) (hj : j ≤ ns.length) : (∃ r, subS (ns.take j) = [] :: r) ∧ (subS (ns.take j)).length = 2 ^ j ∧ ∀ r ∈ subS (ns.take j), r.length ≤ j := by
  induction j with
  | zero => exact ⟨⟨[], rfl⟩, rfl, fun r hr => by
      have : r = [] := by simpa [subS] using hr
      rw [this]
      exact Nat.le_refl _⟩
  | succ j ih =>
    obtain ⟨⟨r0, h0⟩, h1, h2⟩ := ih (by omega)
    obtain ⟨it, hit⟩ : ∃ it, ns[j]? = some it := ⟨_, List.getElem?_eq_getElem (by omega)⟩
    rw [subS_succ ns j hit]
    refine ⟨⟨r0 ++ (subS (ns.take j)).map fun r => r ++ [it], by rw [h0]; rfl⟩, by rw [List.length_append, List.length_map, h1, Nat.pow_succ]; omega, fun r hr => ?_⟩
    rcases List.mem_append.mp hr with hr | hr
    · have := h2 r hr; omega
    · obtain ⟨r', hr', rfl⟩ := List.mem_map.mp hr
      have := h2 r' hr'
      rw [List.length_append]
      simp only [List.length_cons, List.length_nil]
      omega
theorem alike_introws : ∀ a b : List Int, PySem.W.alikeAll (a.map PyData.int) (b.map PyData.int) = true := PySem.W.alike_ints
theorem depth_intsR : ∀ a : List Int, PyData.depthAll (a.map PyData.int) = 0
  | [] => by simp [PyData.depthAll]
  | x :: a => by
    show PyData.depthAll (.int x :: a.map .int) = 0
    rw [PyData.depthAll, depth_intsR a]
    simp [PyData.depth]
theorem introws_sort {rs : List (List Int)} (h0 : ∃ r, rs = [] :: r) (hl : rs.length ≤ 2 ^ 20) : CanSort (rs.map encR) := by
  refine ⟨fun d hd d' hd' => ?_, .inr ⟨fun d hd => ?_, ?_⟩, small20 (by rw [List.length_map]; exact hl), fun d hd => ?_⟩
  · obtain ⟨a, _, rfl⟩ := List.mem_map.mp hd
    obtain ⟨b, _, rfl⟩ := List.mem_map.mp hd'
    show PySem.W.alike (.tuple (a.map .int)) (.tuple (b.map .int)) = true
    rw [PySem.W.alike]
    exact alike_introws a b
  · obtain ⟨a, _, rfl⟩ := List.mem_map.mp hd
    exact ⟨_, rfl⟩
  · obtain ⟨r, rfl⟩ := h0
    exact ⟨_, rfl⟩
  · obtain ⟨a, _, rfl⟩ := List.mem_map.mp hd
    show PyData.depth (.tuple (a.map .int)) ≤ 90
    rw [PyData.depth, depth_intsR]
    decide
def sortedD (ns : List Int) : List D := ((subS ns).map encR).mergeSort leD
theorem sorted_code (ns : List Int) (hl : ns.length ≤ 10) : bSorted (.list ((subS ns).map encR)) = M.ret (.list (sortedD ns)) := by
  have f := subS_facts ns ns.length (Nat.le_refl _)
  rw [List.take_length] at f
  have hp : 2 ^ ns.length ≤ 2 ^ 10 := Nat.pow_le_pow_right (by omega) hl
  unfold bSorted sortedD
  dsimp only
  rw [if_pos (introws_sort f.1 (by rw [f.2.1]; exact Nat.le_trans hp (by decide)))]
theorem add_row {r : List Int} {it : Int} (h : r.length ≤ 10) : oAdd (encR r) (.tuple [.int it]) = M.ret (encR (r ++ [it])) := by
  show oAdd (.tuple (r.map .int)) (.tuple [.int it]) = _
  rw [add_tups (by
    rw [List.length_map]
    simp only [List.length_cons, List.length_nil]
    omega)]
  show _ = M.ret (PyData.tuple ((r ++ [it]).map .int))
  rw [List.map_append]
  rfl
end

section
variable {κ : Bool}
theorem flat_rows : ∀ rs : List (List Int), flatAll (rs.map encR) = true
  | [] => by simp [flatAll]
  | r :: rs => by
    have fi : ∀ l : List Int, flatAll (l.map PyData.int) = true := fun l => by
      induction l with
      | nil => simp [flatAll]
      | cons x l ih =>
        show flatAll (.int x :: l.map .int) = true
        rw [flatAll, ih]
        simp [flatD]
    show flatAll (encR r :: rs.map encR) = true
    rw [flatAll, flat_rows rs]
    show (flatD (.tuple (r.map .int)) && true) = true
    rw [flatD, fi r]
    rfl
theorem at_sextf (i : Nat) (e : DE) (ρ : Rho) {ds : List D} (h : ρ[i]? = some (some (.own ds))) : sExtF i e ρ = M.bnd (e ρ) fun d => (match d with
    | .list es => if ds.length + es.length ≤ lineMax ∧ flatAll es = true then M.ret (.next (ρ.set i (some (.own (ds ++ es))))) else M.stuck
    | _ => M.stuck) := by
  unfold sExtF
  rw [h] <;> rfl
theorem at_sext (i : Nat) (e : DE) (ρ : Rho) {ds : List D} (h : ρ[i]? = some (some (.own ds))) : sExt i e ρ = M.bnd (e (hideR ρ)) fun d => (match d with
    | .list es => if ds.length + es.length ≤ lineMax then M.ret (.next (ρ.set i (some (.own (ds ++ es))))) else M.stuck
    | _ => M.stuck) := by
  unfold sExt
  rw [h] <;> rfl
theorem sorted_rows (ns : List Int) (hl : ns.length ≤ 10) : ∃ zs : List (List Int), sortedD ns = zs.map encR ∧ zs.length ≤ 2 ^ 10 := by
  have f := subS_facts ns ns.length (Nat.le_refl _)
  rw [List.take_length] at f
  have hp : 2 ^ ns.length ≤ 2 ^ 10 := Nat.pow_le_pow_right (by omega) hl
  obtain ⟨zs, z1, z2, _⟩ := list_made (ys := sortedD ns) encR (Q := fun _ _ => True) fun j y hy => by
    have hm := (List.mergeSort_perm _ _).mem_iff.mp (List.mem_of_getElem? hy)
    obtain ⟨r, hr, rfl⟩ := List.mem_map.mp hm
    exact ⟨r, rfl, trivial⟩
  refine ⟨zs, z2, ?_⟩
  rw [z1]
  unfold sortedD
  rw [List.length_mergeSort, List.length_map, f.2.1]
  exact hp
def someS (zs : List (List Int)) (st : Int) : List (List Int) := zs.filter fun r => decide ((r.length : Int) ≤ st)
def caseD (a b : Int) (r : List Int) : D := .tuple [.int a, .int b, encR r]
def casesD (zs : List (List Int)) (st : Int) (lo : Int) (n : Nat) : List D := (List.range n).flatMap fun (i : Nat) => (List.range 4).flatMap fun (k : Nat) => (someS zs st).map (caseD (lo + (i : Int)) (0 + (k : Int)))
theorem flat_succ {α : Type} (f : Nat → List α) (n : Nat) : (List.range (n + 1)).flatMap f = (List.range n).flatMap f ++ f n := by
  rw [List.range_succ, List.flatMap_append]
  simp
end

/-! ### what edges join: two ways to list it -/
abbrev Pr := Int × Int
def ClosedE (es : List Pr) (S : Int → Prop) : Prop := ∀ e ∈ es, S e.1 ↔ S e.2
/-- the least closed set that holds the start, without repetition -/
structure LeastL (es : List Pr) (s0 : Int) (l : List Int) : Prop where
  nd : l.Nodup
  start : s0 ∈ l
  closed : ClosedE es (· ∈ l)
  least : ∀ S : Int → Prop, S s0 → ClosedE es S → ∀ x ∈ l, S x
theorem least_len {es : List Pr} {s0 : Int} {l m : List Int} (a : LeastL es s0 l) (b : LeastL es s0 m) : l.length = m.length := by
  have h1 : l ⊆ m := fun x hx => a.least (· ∈ m) b.start b.closed x hx
  have h2 : m ⊆ l := fun x hx => b.least (· ∈ l) a.start a.closed x hx
  have := a.nd.length_le_of_subset h1
  have := b.nd.length_le_of_subset h2
  omega
/-- on the way: no repetition, the start, nothing that need not be there -/
structure PartL (es : List Pr) (s0 : Int) (l : List Int) : Prop where
  nd : l.Nodup
  start : s0 ∈ l
  least : ∀ S : Int → Prop, S s0 → ClosedE es S → ∀ x ∈ l, S x
theorem PartL.one (es : List Pr) (s0 : Int) : PartL es s0 [s0] := ⟨by simp, by simp, fun S h _ x hx => by rw [List.mem_singleton] at hx; rw [hx]; exact h⟩
theorem PartL.add {es : List Pr} {s0 : Int} {l : List Int} (p : PartL es s0 l) {x y : Int} (hx : x ∈ l) (hy : ¬ y ∈ l) (he : (x, y) ∈ es ∨ (y, x) ∈ es) : PartL es s0 (l ++ [y]) := by
  refine ⟨?_, List.mem_append_left _ p.start, fun S h c z hz => ?_⟩
  · rw [List.nodup_append]
    exact ⟨p.nd, by simp, fun a ha b hb => by
      rw [List.mem_singleton] at hb
      subst hb
      exact fun e => hy (e ▸ ha)⟩
  · rcases List.mem_append.mp hz with hz | hz
    · exact p.least S h c z hz
    · rw [List.mem_singleton] at hz
      subst hz
      have hS := p.least S h c x hx
      rcases he with he | he
      · exact (c _ he).1 hS
      · exact (c _ he).2 hS
/-- one edge of joined's inner loop, at v -/
def stepJ (v : Int) (l : List Int) (e : Pr) : List Int := if (v = e.1 ∨ v = e.2) ∧ ¬ e.1 + e.2 - v ∈ l then l ++ [e.1 + e.2 - v] else l
theorem stepJ_sub (v : Int) (l : List Int) (e : Pr) : ∃ t, stepJ v l e = l ++ t := by
  unfold stepJ
  split
  · exact ⟨_, rfl⟩
  · exact ⟨[], by rw [List.append_nil]⟩
theorem stepJ_part {es : List Pr} {s0 v : Int} {l : List Int} (p : PartL es s0 l) (hv : v ∈ l) {e : Pr} (he : e ∈ es) : PartL es s0 (stepJ v l e) := by
  unfold stepJ
  by_cases h : (v = e.1 ∨ v = e.2) ∧ ¬ e.1 + e.2 - v ∈ l
  · rw [if_pos h]
    obtain ⟨h1, h2⟩ := h
    refine p.add hv h2 ?_
    rcases h1 with h1 | h1
    · exact .inl (by rw [h1, show e.1 + e.2 - e.1 = e.2 by omega]; exact he)
    · exact .inr (by rw [h1, show e.1 + e.2 - e.2 = e.1 by omega]; exact he)
  · rw [if_neg h]
    exact p
theorem stepJ_has {v : Int} {l : List Int} {e : Pr} (h : v = e.1 ∨ v = e.2) : e.1 + e.2 - v ∈ stepJ v l e := by
  unfold stepJ
  by_cases hm : e.1 + e.2 - v ∈ l
  · rw [if_neg (fun z => z.2 hm)]; exact hm
  · rw [if_pos ⟨h, hm⟩]; exact List.mem_append_right _ (by simp)
/-- all edges at v -/
theorem turnJ {es : List Pr} {s0 v : Int} : ∀ (fs : List Pr) {l : List Int}, (∀ e ∈ fs, e ∈ es) → PartL es s0 l → v ∈ l → PartL es s0 (fs.foldl (stepJ v) l) ∧ (∃ t, fs.foldl (stepJ v) l = l ++ t) ∧ ∀ e ∈ fs, v = e.1 ∨ v = e.2 → e.1 + e.2 - v ∈ fs.foldl (stepJ v) l
  | [], l, _, p, _ => ⟨p, ⟨[], by rw [List.append_nil]; rfl⟩, fun _ h => nomatch h⟩
  | f :: fs, l, h, p, hv => by
    obtain ⟨t, ht⟩ := stepJ_sub v l f
    have hv' : v ∈ stepJ v l f := by rw [ht]; exact List.mem_append_left _ hv
    obtain ⟨h1, ⟨t2, h2⟩, h3⟩ := turnJ fs (l := stepJ v l f) (fun e he => h e (List.mem_cons_of_mem _ he)) (stepJ_part p hv (h f List.mem_cons_self)) hv'
    rw [List.foldl_cons]
    refine ⟨h1, ⟨t ++ t2, by rw [h2, ht, List.append_assoc]⟩, fun e he hv2 => ?_⟩
    rcases List.mem_cons.mp he with rfl | he
    · rw [h2]
      exact List.mem_append_left _ (stepJ_has hv2)
    · exact h3 e he hv2
/-- joined: everything before place at is done -/
structure DoneJ (es : List Pr) (s0 : Int) (l : List Int) (at' : Nat) : Prop where
  part : PartL es s0 l
  le : at' ≤ l.length
  done : ∀ (k : Nat) v, k < at' → l[k]? = some v → ∀ e ∈ es, v = e.1 ∨ v = e.2 → e.1 + e.2 - v ∈ l
theorem DoneJ.zero (es : List Pr) (s0 : Int) : DoneJ es s0 [s0] 0 := ⟨.one es s0, Nat.zero_le _, fun k v h => by omega⟩
theorem DoneJ.next {es : List Pr} {s0 v : Int} {l : List Int} {n : Nat} (d : DoneJ es s0 l n) (hv : l[n]? = some v) : DoneJ es s0 (es.foldl (stepJ v) l) (n + 1) := by
  obtain ⟨h1, ⟨t, h2⟩, h3⟩ := turnJ es (fun _ h => h) d.part (List.mem_of_getElem? hv)
  have hn := (List.getElem?_eq_some_iff.mp hv).1
  refine ⟨h1, by rw [h2, List.length_append]; omega, fun k w hk hw e he hwe => ?_⟩
  have hk2 : k < l.length := by omega
  rw [h2, List.getElem?_append_left hk2] at hw
  by_cases hkn : k = n
  · subst hkn
    rw [hv] at hw
    cases hw
    exact h3 e he hwe
  · rw [h2]
    exact List.mem_append_left _ (d.done k w (by omega) hw e he hwe)
theorem DoneJ.least {es : List Pr} {s0 : Int} {l : List Int} (d : DoneJ es s0 l l.length) : LeastL es s0 l := by
  refine ⟨d.part.nd, d.part.start, fun e he => ⟨fun h => ?_, fun h => ?_⟩, d.part.least⟩
  · obtain ⟨k, hk⟩ := List.getElem?_of_mem h
    have z := d.done k _ (List.getElem?_eq_some_iff.mp hk).1 hk e he (.inl rfl)
    rw [show e.1 + e.2 - e.1 = e.2 by omega] at z
    exact z
  · obtain ⟨k, hk⟩ := List.getElem?_of_mem h
    have z := d.done k _ (List.getElem?_eq_some_iff.mp hk).1 hk e he (.inr rfl)
    rw [show e.1 + e.2 - e.2 = e.1 by omega] at z
    exact z
/-- one edge of _law_together's inner loop -/
def stepT (s : List Int × Bool) (e : Pr) : List Int × Bool := if decide (e.1 ∈ s.1) ≠ decide (e.2 ∈ s.1) then (s.1 ++ [if e.1 ∈ s.1 then e.2 else e.1], true) else s
theorem stepT_part {es : List Pr} {s0 : Int} {s : List Int × Bool} (p : PartL es s0 s.1) {e : Pr} (he : e ∈ es) : PartL es s0 (stepT s e).1 := by
  unfold stepT
  by_cases h1 : e.1 ∈ s.1
  · by_cases h2 : e.2 ∈ s.1
    · simp only [h1, h2]; exact p
    · simp only [h1, h2, decide_true, decide_false, ne_eq, Bool.true_eq_false, not_false_eq_true, if_true]
      exact p.add h1 h2 (.inl he)
  · by_cases h2 : e.2 ∈ s.1
    · simp only [h1, h2, decide_true, decide_false, ne_eq, Bool.false_eq_true, not_false_eq_true, if_true, if_false]
      exact p.add h2 h1 (.inr he)
    · simp only [h1, h2]; exact p
/-- a round: it grows, or nothing was to do -/
theorem turnT {es : List Pr} {s0 : Int} : ∀ (fs : List Pr) {s : List Int × Bool}, (∀ e ∈ fs, e ∈ es) → PartL es s0 s.1 → PartL es s0 (fs.foldl stepT s).1 ∧
    ((fs.foldl stepT s).2 = false → s.2 = false ∧ fs.foldl stepT s = s ∧ ∀ e ∈ fs, e.1 ∈ s.1 ↔ e.2 ∈ s.1) ∧ ((fs.foldl stepT s).2 = true → s.2 = true ∨ s.1.length < (fs.foldl stepT s).1.length) ∧ s.1.length ≤ (fs.foldl stepT s).1.length
  | [], s, _, p => ⟨p, fun h => ⟨h, rfl, fun _ h => nomatch h⟩, fun h => .inl h, Nat.le_refl _⟩
  | f :: fs, s, h, p => by
    obtain ⟨h1, h2, h3, h4⟩ := turnT fs (s := stepT s f) (fun e he => h e (List.mem_cons_of_mem _ he)) (stepT_part p (h f List.mem_cons_self))
    rw [List.foldl_cons]
    by_cases hd : decide (f.1 ∈ s.1) ≠ decide (f.2 ∈ s.1)
    · have e : stepT s f = (s.1 ++ [if f.1 ∈ s.1 then f.2 else f.1], true) := if_pos hd
      have l1 : (stepT s f).1.length = s.1.length + 1 := by rw [e, List.length_append, List.length_singleton]
      refine ⟨h1, fun z => ?_, fun _ => .inr (by omega), by omega⟩
      have := (h2 z).1
      rw [e] at this
      cases this
    · have e : stepT s f = s := if_neg hd
      rw [e] at h1 h2 h3 h4
      rw [e]
      refine ⟨h1, fun z => ?_, h3, h4⟩
      obtain ⟨z1, z2, z3⟩ := h2 z
      refine ⟨z1, z2, fun g hg => ?_⟩
      rcases List.mem_cons.mp hg with rfl | hg
      · have : decide (g.1 ∈ s.1) = decide (g.2 ∈ s.1) := by simpa using hd
        exact decide_eq_decide.mp this
      · exact z3 g hg
theorem endT {es : List Pr} {s0 : Int} {l : List Int} (p : PartL es s0 l) (h : (es.foldl stepT (l, false)).2 = false) : LeastL es s0 (es.foldl stepT (l, false)).1 := by
  obtain ⟨_, h2, _, _⟩ := turnT es (s := (l, false)) (fun _ h => h) p
  obtain ⟨_, e, c⟩ := h2 h
  rw [e]
  exact ⟨p.nd, p.start, c, p.least⟩
/-- no more than there are -/
theorem part_len {es : List Pr} {s0 : Int} {l : List Int} (p : PartL es s0 l) {n : Nat} (h0 : 0 ≤ s0 ∧ s0 < n) (he : ∀ e ∈ es, (0 ≤ e.1 ∧ e.1 < n) ∧ 0 ≤ e.2 ∧ e.2 < n) : l.length ≤ n := by
  have hr : ∀ x ∈ l, 0 ≤ x ∧ x < (n : Int) := p.least (fun x => 0 ≤ x ∧ x < (n : Int)) h0 fun e hm => ⟨fun _ => (he e hm).2, fun _ => (he e hm).1⟩
  have sub : l ⊆ (List.range n).map fun (k : Nat) => (k : Int) := fun x hx => by
    have := hr x hx
    exact List.mem_map.mpr ⟨x.toNat, List.mem_range.mpr (by omega), by omega⟩
  have := p.nd.length_le_of_subset sub
  rw [List.length_map, List.length_range] at this
  exact this

/-! ### cables: what a net joins -/
abbrev E3 := Int × Int × Int
def enc3 (e : E3) : D := .tuple [.int e.1, .int e.2.1, .int e.2.2]
structure CabOk (many : Nat) (es : List E3) : Prop where
  m1 : 1 ≤ many
  m8 : many ≤ 8
  len : es.length ≤ 64
  row : ∀ e ∈ es, (0 ≤ e.1 ∧ e.1 < e.2.1) ∧ e.2.1 < many ∧ 0 ≤ e.2.2 ∧ e.2.2 ≤ 99
abbrev encCb (many : Nat) (es : List E3) : D := .tuple [.int (many : Int), .tuple (es.map enc3)]
def prOf (es : List E3) (p : Int) : Pr := ((es.getD p.toNat (0, 0, 0)).1, (es.getD p.toNat (0, 0, 0)).2.1)
theorem foldJ_sub (v : Int) : ∀ (fs : List Pr) (l : List Int), ∃ t, fs.foldl (stepJ v) l = l ++ t
  | [], l => ⟨[], by rw [List.append_nil]; rfl⟩
  | f :: fs, l => by
    obtain ⟨t, ht⟩ := stepJ_sub v l f
    obtain ⟨t2, h2⟩ := foldJ_sub v fs (stepJ v l f)
    exact ⟨t ++ t2, by rw [List.foldl_cons, h2, ht, List.append_assoc]⟩
theorem prs_in {many : Nat} {es : List E3} (ok : CabOk many es) {ps : List Int} (hp : ∀ p ∈ ps, 0 ≤ p ∧ p < es.length) : ∀ e ∈ ps.map (prOf es), (0 ≤ e.1 ∧ e.1 < (many : Int)) ∧ 0 ≤ e.2 ∧ e.2 < (many : Int) := fun e he => by
  obtain ⟨p, hpm, rfl⟩ := List.mem_map.mp he
  have h := hp p hpm
  have hk : p.toNat < es.length := by omega
  have e1 : es.getD p.toNat (0, 0, 0) = es[p.toNat] := by rw [List.getD_eq_getElem?_getD, List.getElem?_eq_getElem hk, Option.getD_some]
  have r := ok.row _ (List.getElem_mem hk)
  unfold prOf
  rw [e1]
  dsimp only
  omega
theorem edge_ix {many : Nat} {es : List E3} {p : Int} (h : 0 ≤ p ∧ p < es.length) : ∃ c : Int, oIx (.tuple (es.map enc3)) (.int p) = M.ret (.tuple [.int (prOf es p).1, .int (prOf es p).2, .int c]) := by
  have hk : p.toNat < es.length := by omega
  have e1 : es.getD p.toNat (0, 0, 0) = es[p.toNat] := by rw [List.getD_eq_getElem?_getD, List.getElem?_eq_getElem hk, Option.getD_some]
  refine ⟨es[p.toNat].2.2, ?_⟩
  unfold prOf
  rw [e1]
  have z := oIx_t (xs := es.map enc3) (i := p.toNat) (x := enc3 es[p.toNat]) (by rw [List.getElem?_map, List.getElem?_eq_getElem hk]; rfl)
  rw [Int.toNat_of_nonneg h.1] at z
  exact z
theorem lx_ix {r : List Int} {k : Nat} {v : Int} (h : r[k]? = some v) : oIx (.list (r.map .int)) (.int (k : Int)) = M.ret (.int v) := oIx_l (by rw [List.getElem?_map, h]; rfl)
abbrev jBody : DS := sSeq (sAsg (gT [(gN 6), (gN 7), (gN 8)]) (dBin oIx (dBin oIx (dVar 0) (dC (.int 1))) (dVar 5)))
  (sIf (tAnd (tOf (dBin oIn (dBin oIx (dVar 3) (dVar 4)) (dTup [(dVar 6), (dVar 7)]))) (tOf (dBin oNotIn (dBin oSub (dBin oAdd (dVar 6) (dVar 7)) (dBin oIx (dVar 3) (dVar 4))) (dVar 3)))) (sAppF 3 (dBin oSub (dBin oAdd (dVar 6) (dVar 7)) (dBin oIx (dVar 3) (dVar 4)))) sNil)
theorem inner_j {many : Nat} {es : List E3} (ok : CabOk many es) {ps : List Int} (hp : ∀ p ∈ ps, 0 ≤ p ∧ p < es.length) {l : List Int} {n : Nat} {v : Int} (hv : l[n]? = some v) (pl : PartL (ps.map (prOf es)) 0 l) (x5 x6 x7 x8 : Option Slot) :
    ∃ x5' x6' x7' x8', forGo (gN 5) jBody (ps.map .int) [some (.dat (encCb many es)), some (.dat (encT ps)), some (.dat (.int 0)), some (.own (l.map .int)), some (.dat (.int (n : Int))), x5, x6, x7, x8] = M.ret (.next [some (.dat (encCb many es)), some (.dat (encT ps)), some (.dat (.int 0)), some (.own (((ps.map (prOf es)).foldl (stepJ v) l).map .int)), some (.dat (.int (n : Int))), x5', x6', x7', x8']) := by
  have m1 := ok.m1
  have m8 := ok.m8
  obtain ⟨r, er, x5', x6', x7', x8', _, hr⟩ := for_all (as := ps) (g := gN 5) (B := jBody) (ρ := [some (.dat (encCb many es)), some (.dat (encT ps)), some (.dat (.int 0)), some (.own (l.map .int)), some (.dat (.int (n : Int))), x5, x6, x7, x8]) PyData.int
    (fun j ρ => ∃ x5 x6 x7 x8, PartL (ps.map (prOf es)) 0 (((ps.take j).map (prOf es)).foldl (stepJ v) l) ∧ ρ = [some (.dat (encCb many es)), some (.dat (encT ps)), some (.dat (.int 0)), some (.own ((((ps.take j).map (prOf es)).foldl (stepJ v) l).map .int)), some (.dat (.int (n : Int))), x5, x6, x7, x8]) ⟨_, _, _, _, pl, rfl⟩ fun j p ρ hj ⟨x5, x6, x7, x8, pj, hI⟩ => by
      subst hI
      have hpm := List.mem_of_getElem? hj
      obtain ⟨c, ec⟩ := edge_ix (many := many) (hp p hpm)
      have et : ps.take (j + 1) = ps.take j ++ [p] := by rw [List.take_add_one, hj]; rfl
      obtain ⟨t, ht⟩ := foldJ_sub v ((ps.take j).map (prOf es)) l
      rw [et, List.map_append, List.foldl_append]
      generalize ((ps.take j).map (prOf es)).foldl (stepJ v) l = f at *
      have hf : f[n]? = some v := by
        rw [ht, List.getElem?_append_left (List.getElem?_eq_some_iff.mp hv).1]
        exact hv
      have hvf : v ∈ f := List.mem_of_getElem? hf
      have ix := lx_ix hf
      have i1 : oIx (encCb many es) (.int 1) = M.ret (.tuple (es.map enc3)) := rfl
      have hl := part_len pj (by omega) (prs_in ok hp)
      have hpart : PartL (ps.map (prOf es)) 0 ([prOf es p].foldl (stepJ v) f) := stepJ_part pj hvf (List.mem_map.mpr ⟨p, hpm, rfl⟩)
      have e20 : (2 : Nat) ^ 20 = 1048576 := by decide +kernel
      have hlm : (f.map PyData.int).length < lineMax := line_lt (by rw [List.length_map]; omega)
      generalize encCb many es = C at *
      generalize es.map enc3 = E at *
      rw [show (List.map (prOf es) [p]).foldl (stepJ v) f = stepJ v f (prOf es p) from rfl]
      have hstep : PartL (ps.map (prOf es)) 0 (stepJ v f (prOf es p)) := hpart
      generalize prOf es p = e at *
      have in2 : oIn (.int v) (.tuple [.int e.1, .int e.2]) = M.ret (.bool (decide (v ∈ [e.1, e.2]))) := in_ints_t v [e.1, e.2]
      have fl : flatD (.int (e.1 + e.2 - v)) = true := by rw [flatD]
      refine ⟨_, .inl ?_, some (.dat (.int p)), some (.dat (.int e.1)), some (.dat (.int e.2)), some (.dat (.int c)), hstep, rfl⟩
      unfold jBody stepJ
      by_cases h1 : v = e.1 ∨ v = e.2
      · have d1 : decide (v ∈ [e.1, e.2]) = true := decide_eq_true (by simpa using h1)
        by_cases h2 : e.1 + e.2 - v ∈ f
        · rw [if_neg (fun z => z.2 h2)]
          simp only [at_gn, bnd_ret, set_0, set_s, at_seq, at_asg, hide_cons, hide1_d, hide1_o, hide_nil, at_bin, at_v0, at_vs, at_o0, at_c, i1, ec, at_g3, at_sif, at_and, at_tofk, at_tup, at_eachs, at_each0, ix, in2, d1, if_true, add_ints, sub_ints, notin_ints_l, h2, decide_true, Bool.not_true, Bool.false_eq_true, if_false, at_nil]
        · rw [if_pos ⟨h1, h2⟩]
          simp only [at_gn, bnd_ret, set_0, set_s, at_seq, at_asg, hide_cons, hide1_d, hide1_o, hide_nil, at_bin, at_v0, at_vs, at_o0, at_c, i1, ec, at_g3, at_sif, at_and, at_tofk, at_tup, at_eachs, at_each0, ix, in2, d1, if_true, add_ints, sub_ints, notin_ints_l, h2, decide_false, Bool.not_false]
          rw [at_sappf (ds := f.map .int) rfl hlm]
          simp only [at_bin, at_v0, at_vs, at_o0, bnd_ret, ix, add_ints, sub_ints, fl, if_true, set_0, set_s, List.map_append, List.map_cons, List.map_nil]
      · have d1 : decide (v ∈ [e.1, e.2]) = false := decide_eq_false (by simpa using h1)
        rw [if_neg (fun z => h1 z.1)]
        simp only [at_gn, bnd_ret, set_0, set_s, at_seq, at_asg, hide_cons, hide1_d, hide1_o, hide_nil, at_bin, at_v0, at_vs, at_o0, at_c, i1, ec, at_g3, at_sif, at_and, at_tofk, at_tup, at_eachs, at_each0, ix, in2, d1, Bool.false_eq_true, if_false, at_nil]
  subst hr
  rw [List.take_length] at er
  exact ⟨x5', x6', x7', x8', er⟩

theorem joined_ok {κ : Bool} {many : Nat} {es : List E3} (ok : CabOk many es) {ps : List Int} (hp : ∀ p ∈ ps, 0 ≤ p ∧ p < es.length) :
    DoesK κ (F_joined [.d (encCb many es), .d (encT ps), .d (.int 0)]) fun d => ∃ (l : List Int) (ds : List D), d = .tuple ds ∧ ds.length = l.length ∧ LeastL (ps.map (prOf es)) 0 l := by
  have m1 := ok.m1
  have m8 := ok.m8
  have e20 : (2 : Nat) ^ 20 = 1048576 := by decide +kernel
  refine does_fn rfl ?_
  show DoesK _ (_ : M Out) _
  simp only [List.map_cons, List.map_nil, slot_d, List.cons_append, List.nil_append, List.replicate]
  refine seq_own (ds := [.int 0]) (by simp only [at_emp, at_dis1, at_ow0, at_ows, at_calln, isLst_ret, at_c, at_bin, at_un, at_v0, at_o0, at_vs, at_tup, at_lst, at_each0, at_eachs, at_ad, at_p0, at_ps, at_args0, at_argss, at_call, at_tofk, at_and, at_or, at_not, at_dand, at_dor, at_dnot, at_if, at_chain, at_gn, at_g2, at_g3, at_g4, at_iseq, at_r1, at_r2, turn_def, at_sasgn, at_sforr, at_nil, at_seq, at_asg, at_sown, at_sret, at_sretn, at_sif, at_sdrop, at_sbrk, at_scont, at_sfor, hide_nil, hide_cons, hide1_d, hide1_n, hide1_p, hide1_o, set_0, set_s, bnd_ret, bnd_stuck, bnd_bnd, bnd_ite, slot_d, slot_p, wipeR, List.map_cons, List.map_nil, List.cons_append, List.nil_append, List.replicate, add_ints, sub_ints, le_ints, lt_ints, ge_ints, gt_ints, neg_ints, min2_ints, max2_ints, oEq_ints, oNe_ints, oEq_bools, oNe_bools, len_tup, len_lst, revL_l, oEq_strs, oNe_strs, tuple_l, tuple_t, list_l, list_t, at_sl, at_pn, at_ps', sl_tup', sl_lst', is_T, is_L, is_I, is_B, is_S, is_N, not_N, isT_n, isT_b, isT_i, isT_s, isT_t, isT_l, isT_d, isL_n, isL_b, isL_i, isL_s, isL_t, isL_l, isL_d, isI_n, isI_b, isI_i, isI_s, isI_t, isI_l, isI_d, isB_n, isB_b, isB_i, isB_s, isB_t, isB_l, isB_d, isS_n, isS_b, isS_i, isS_s, isS_t, isS_l, isS_d, isN_n, isN_b, isN_i, isN_s, isN_t, isN_l, isN_d, decide_eq_true_eq, Bool.not_eq_true', decide_eq_false_iff_not, Bool.false_eq_true, if_true, if_false, decide_true, decide_false, Bool.not_true, Bool.not_false, not_true_eq_false, not_false_eq_true, ret_ite_o, Int.reduceLT, Int.reduceLE, Int.reduceEq, Int.reduceAdd, Int.reduceSub, Int.reduceNeg, reduceCtorEq]) ?_
  refine seq_asg (P := (· = .int 0)) ?_ ?_
  · simp only [at_emp, at_dis1, at_ow0, at_ows, at_calln, isLst_ret, at_c, at_bin, at_un, at_v0, at_o0, at_vs, at_tup, at_lst, at_each0, at_eachs, at_ad, at_p0, at_ps, at_args0, at_argss, at_call, at_tofk, at_and, at_or, at_not, at_dand, at_dor, at_dnot, at_if, at_chain, at_gn, at_g2, at_g3, at_g4, at_iseq, at_r1, at_r2, turn_def, at_sasgn, at_sforr, at_nil, at_seq, at_asg, at_sown, at_sret, at_sretn, at_sif, at_sdrop, at_sbrk, at_scont, at_sfor, hide_nil, hide_cons, hide1_d, hide1_n, hide1_p, hide1_o, set_0, set_s, bnd_ret, bnd_stuck, bnd_bnd, bnd_ite, slot_d, slot_p, wipeR, List.map_cons, List.map_nil, List.cons_append, List.nil_append, List.replicate, add_ints, sub_ints, le_ints, lt_ints, ge_ints, gt_ints, neg_ints, min2_ints, max2_ints, oEq_ints, oNe_ints, oEq_bools, oNe_bools, len_tup, len_lst, revL_l, oEq_strs, oNe_strs, tuple_l, tuple_t, list_l, list_t, at_sl, at_pn, at_ps', sl_tup', sl_lst', is_T, is_L, is_I, is_B, is_S, is_N, not_N, isT_n, isT_b, isT_i, isT_s, isT_t, isT_l, isT_d, isL_n, isL_b, isL_i, isL_s, isL_t, isL_l, isL_d, isI_n, isI_b, isI_i, isI_s, isI_t, isI_l, isI_d, isB_n, isB_b, isB_i, isB_s, isB_t, isB_l, isB_d, isS_n, isS_b, isS_i, isS_s, isS_t, isS_l, isS_d, isN_n, isN_b, isN_i, isN_s, isN_t, isN_l, isN_d, decide_eq_true_eq, Bool.not_eq_true', decide_eq_false_iff_not, Bool.false_eq_true, if_true, if_false, decide_true, decide_false, Bool.not_true, Bool.not_false, not_true_eq_false, not_false_eq_true, ret_ite_o, Int.reduceLT, Int.reduceLE, Int.reduceEq, Int.reduceAdd, Int.reduceSub, Int.reduceNeg, reduceCtorEq]
    exact does_ret rfl
  rintro _ rfl
  simp only [set_0, set_s]
  refine seq_next (P := fun ρ => ∃ l x5 x6 x7 x8, LeastL (ps.map (prOf es)) 0 l ∧ l.length ≤ many ∧ ρ = [some (.dat (encCb many es)), some (.dat (encT ps)), some (.dat (.int 0)), some (.own (l.map .int)), some (.dat (.int (l.length : Int))), x5, x6, x7, x8]) ?_ ?_
  · rw [at_swhile]
    refine while_does (fun n ρ => ∃ l at' x5 x6 x7 x8, DoneJ (ps.map (prOf es)) 0 l at' ∧ n = many - at' ∧ ρ = [some (.dat (encCb many es)), some (.dat (encT ps)), some (.dat (.int 0)), some (.own (l.map .int)), some (.dat (.int (at' : Int))), x5, x6, x7, x8]) (fun n ρ hI => ?_) fuelW many _ (by unfold fuelW; omega) ⟨[0], 0, _, _, _, _, .zero _ _, by omega, rfl⟩
    obtain ⟨l, at', x5, x6, x7, x8, dn, hn, rfl⟩ := hI
    have hl := part_len dn.part (by omega) (prs_in ok hp)
    have hle := dn.le
    by_cases hlt : at' < l.length
    · refine ⟨true, of_eq ?_, fun _ => ?_, fun z => nomatch z⟩
      · simp only [at_tofk, at_bin, at_un, at_v0, at_vs, at_o0, bnd_ret, len_lst, List.length_map, lt_ints]
        rw [decide_eq_true (by omega)]
      · have hv : l[at']? = some l[at'] := List.getElem?_eq_getElem hlt
        obtain ⟨x5', x6', x7', x8', e⟩ := inner_j ok hp hv dn.part x5 x6 x7 x8
        rw [at_seq, at_sfor]
        simp only [at_iseq, at_v0, at_vs, hide_cons, hide1_d, hide1_o, hide_nil, bnd_ret]
        have e' : forGo (gN 5) jBody (ps.map .int) [some (.dat (encCb many es)), some (.dat (.tuple (ps.map .int))), some (.dat (.int 0)), some (.own (l.map .int)), some (.dat (.int (at' : Int))), x5, x6, x7, x8] = _ := e
        rw [e', bnd_ret]
        refine does_of (a := .next [some (.dat (encCb many es)), some (.dat (encT ps)), some (.dat (.int 0)), some (.own (((ps.map (prOf es)).foldl (stepJ l[at']) l).map .int)), some (.dat (.int ((at' + 1 : Nat) : Int))), x5', x6', x7', x8']) ?_ ⟨_, rfl, many - (at' + 1), by omega, _, _, _, _, _, _, dn.next hv, rfl, rfl⟩
        rfl
    · have ea : at' = l.length := by omega
      subst ea
      refine ⟨false, of_eq ?_, fun z => (nomatch z), fun _ => ⟨_, rfl, l, x5, x6, x7, x8, dn.least, hl, rfl⟩⟩
      simp only [at_tofk, at_bin, at_un, at_v0, at_vs, at_o0, bnd_ret, len_lst, List.length_map, lt_ints]
      rw [decide_eq_false (by omega)]
  rintro _ ⟨l, x5, x6, x7, x8, hl, hn, rfl⟩
  have so := sorted_ints l (by omega)
  simp only [at_sret, at_un, at_v0, at_vs, at_o0, bnd_ret, so, tuple_l]
  exact does_ret ⟨l, _, rfl, by rw [List.length_map, List.length_mergeSort], hl⟩
/-! the law's -/
def prE (e : E3) : Pr := (e.1, e.2.1)
abbrev tBody : DS := sIf (tOf (dBin oNe (dBin oIn (dBin oIx (dVar 5) (dC (.int 0))) (dVar 3)) (dBin oIn (dBin oIx (dVar 5) (dC (.int 1))) (dVar 3)))) (sSeq (sAppF 3 (dIf (tOf (dBin oIn (dBin oIx (dVar 5) (dC (.int 0))) (dVar 3))) (dBin oIx (dVar 5) (dC (.int 1))) (dBin oIx (dVar 5) (dC (.int 0)))))
  (sAsg (gN 4) (dC (.bool true)))) sNil
theorem inner_t {many : Nat} (m8 : many ≤ 8) (m1 : 1 ≤ many) {qs : List E3} (hin : ∀ e ∈ qs.map prE, (0 ≤ e.1 ∧ e.1 < (many : Int)) ∧ 0 ≤ e.2 ∧ e.2 < (many : Int)) {l : List Int} (pl : PartL (qs.map prE) 0 l) (M0 : D) (x5 : Option Slot) :
    ∃ x5', forGo (gN 5) tBody (qs.map enc3) [some (.dat M0), some (.dat (.list (qs.map enc3))), some (.dat (.int 0)), some (.own (l.map .int)), some (.dat (.bool false)), x5] = M.ret (.next [some (.dat M0), some (.dat (.list (qs.map enc3))), some (.dat (.int 0)), some (.own (((qs.map prE).foldl stepT (l, false)).1.map .int)), some (.dat (.bool ((qs.map prE).foldl stepT (l, false)).2)), x5']) := by
  have e20 : (2 : Nat) ^ 20 = 1048576 := by decide +kernel
  obtain ⟨r, er, x5', _, hr⟩ := for_all (as := qs) (g := gN 5) (B := tBody) (ρ := [some (.dat M0), some (.dat (.list (qs.map enc3))), some (.dat (.int 0)), some (.own (l.map .int)), some (.dat (.bool false)), x5]) enc3
    (fun j ρ => ∃ x5, PartL (qs.map prE) 0 (((qs.take j).map prE).foldl stepT (l, false)).1 ∧ ρ = [some (.dat M0), some (.dat (.list (qs.map enc3))), some (.dat (.int 0)), some (.own ((((qs.take j).map prE).foldl stepT (l, false)).1.map .int)), some (.dat (.bool (((qs.take j).map prE).foldl stepT (l, false)).2)), x5]) ⟨_, pl, rfl⟩ fun j q ρ hj ⟨x5, pj, hI⟩ => by
      subst hI
      have et : qs.take (j + 1) = qs.take j ++ [q] := by rw [List.take_add_one, hj]; rfl
      rw [et, List.map_append, List.foldl_append]
      generalize ((qs.take j).map prE).foldl stepT (l, false) = s at *
      obtain ⟨f, g⟩ := s
      rw [show (List.map prE [q]).foldl stepT (f, g) = stepT (f, g) (prE q) from rfl]
      have hpart : PartL (qs.map prE) 0 (stepT (f, g) (prE q)).1 := stepT_part pj (List.mem_map.mpr ⟨q, List.mem_of_getElem? hj, rfl⟩)
      have hl := part_len pj (by omega) hin
      dsimp only at hl
      have hlm : (f.map PyData.int).length < lineMax := line_lt (by rw [List.length_map]; omega)
      have i0 : oIx (enc3 q) (.int 0) = M.ret (.int (prE q).1) := rfl
      have i1 : oIx (enc3 q) (.int 1) = M.ret (.int (prE q).2) := rfl
      generalize prE q = e at *
      generalize enc3 q = Q at *
      have fl : ∀ n : Int, flatD (.int n) = true := fun n => by rw [flatD]
      refine ⟨[some (.dat M0), some (.dat (.list (qs.map enc3))), some (.dat (.int 0)), some (.own ((stepT (f, g) e).1.map .int)), some (.dat (.bool (stepT (f, g) e).2)), some (.dat Q)], .inl ?_, some (.dat Q), hpart, rfl⟩
      unfold tBody
      by_cases h1 : e.1 ∈ f
      · by_cases h2 : e.2 ∈ f
        · have es' : stepT (f, g) e = (f, g) := by unfold stepT; simp only [h1, h2]; rfl
          rw [es']
          simp only [at_gn, bnd_ret, set_0, set_s, at_sif, at_tofk, at_bin, at_v0, at_vs, at_o0, at_c, i0, i1, in_ints_l, oNe_bools, h1, h2, eq_self, Bool.not_true, Bool.not_false, Bool.true_eq_false, Bool.false_eq_true, if_true, decide_true, not_true_eq_false, decide_false, Bool.false_eq_true, if_false, at_nil, ne_eq]
        · have es' : stepT (f, g) e = (f ++ [e.2], true) := by unfold stepT; simp [h1, h2]
          rw [es']
          simp only [at_gn, bnd_ret, set_0, set_s, at_sif, at_tofk, at_bin, at_v0, at_vs, at_o0, at_c, i0, i1, in_ints_l, oNe_bools, h1, h2, eq_self, Bool.not_true, Bool.not_false, Bool.true_eq_false, Bool.false_eq_true, if_true, decide_true, decide_false, ne_eq, Bool.true_eq_false, not_false_eq_true, if_true, at_seq]
          rw [at_sappf (ds := f.map .int) rfl hlm]
          simp only [at_if, at_tofk, at_bin, at_v0, at_vs, at_o0, at_c, bnd_ret, i0, i1, in_ints_l, h1, decide_true, if_true, fl, set_0, set_s, List.map_append, List.map_cons, List.map_nil, at_asg, at_gn]
      · by_cases h2 : e.2 ∈ f
        · have es' : stepT (f, g) e = (f ++ [e.1], true) := by unfold stepT; simp [h1, h2]
          rw [es']
          simp only [at_gn, bnd_ret, set_0, set_s, at_sif, at_tofk, at_bin, at_v0, at_vs, at_o0, at_c, i0, i1, in_ints_l, oNe_bools, h1, h2, eq_self, Bool.not_true, Bool.not_false, Bool.true_eq_false, Bool.false_eq_true, if_true, decide_true, decide_false, ne_eq, Bool.false_eq_true, not_false_eq_true, if_true, at_seq]
          rw [at_sappf (ds := f.map .int) rfl hlm]
          simp only [at_if, at_tofk, at_bin, at_v0, at_vs, at_o0, at_c, bnd_ret, i0, i1, in_ints_l, h1, decide_false, Bool.false_eq_true, if_false, fl, if_true, set_0, set_s, List.map_append, List.map_cons, List.map_nil, at_asg, at_gn]
        · have es' : stepT (f, g) e = (f, g) := by unfold stepT; simp only [h1, h2]; rfl
          rw [es']
          simp only [at_gn, bnd_ret, set_0, set_s, at_sif, at_tofk, at_bin, at_v0, at_vs, at_o0, at_c, i0, i1, in_ints_l, oNe_bools, h1, h2, eq_self, Bool.not_true, Bool.not_false, Bool.true_eq_false, Bool.false_eq_true, if_true, decide_false, decide_true, not_true_eq_false, Bool.false_eq_true, if_false, at_nil, ne_eq]
  subst hr
  rw [List.take_length] at er
  exact ⟨x5', er⟩
/-! ### what edges join, a least net -/
def Conn (F : List Pr) (x y : Int) : Prop := ∀ S : Int → Prop, ClosedE F S → S x → S y
theorem Conn.refl (F : List Pr) (x : Int) : Conn F x x := fun _ _ h => h
theorem Conn.trans {F : List Pr} {x y z : Int} (a : Conn F x y) (b : Conn F y z) : Conn F x z := fun S c h => b S c (a S c h)
theorem Conn.symm {F : List Pr} {x y : Int} (a : Conn F x y) : Conn F y x := fun S c h => Classical.byContradiction fun n => a (fun z => ¬ S z) (fun e he => not_congr (c e he)) n h
theorem conn_edge {F : List Pr} {e : Pr} (h : e ∈ F) : Conn F e.1 e.2 := fun S c s => (c e h).1 s
theorem conn_of {F G : List Pr} (h : ∀ e ∈ F, Conn G e.1 e.2) {x y : Int} (a : Conn F x y) : Conn G x y := fun S c s => a S (fun e he => ⟨fun q => h e he S c q, fun q => (h e he).symm S c q⟩) s
theorem conn_sub {F G : List Pr} (h : ∀ e ∈ F, e ∈ G) {x y : Int} (a : Conn F x y) : Conn G x y := conn_of (fun e he => conn_edge (h e he)) a
theorem conn_cons {F : List Pr} {e : Pr} {x y : Int} (a : Conn (e :: F) x y) : Conn F x y ∨ (Conn F x e.1 ∧ Conn F e.2 y) ∨ (Conn F x e.2 ∧ Conn F e.1 y) := by
  refine a (fun z => Conn F x z ∨ (Conn F x e.1 ∧ Conn F e.2 z) ∨ (Conn F x e.2 ∧ Conn F e.1 z)) (fun g hg => ?_) (.inl (.refl F x))
  rcases List.mem_cons.mp hg with rfl | hg
  · constructor
    · rintro (h | ⟨h, _⟩ | ⟨h, _⟩)
      · exact .inr (.inl ⟨h, .refl _ _⟩)
      · exact .inr (.inl ⟨h, .refl _ _⟩)
      · exact .inl h
    · rintro (h | ⟨h, _⟩ | ⟨h, _⟩)
      · exact .inr (.inr ⟨h, .refl _ _⟩)
      · exact .inl h
      · exact .inr (.inr ⟨h, .refl _ _⟩)
  · have k := conn_edge hg
    constructor
    · rintro (h | ⟨h1, h2⟩ | ⟨h1, h2⟩)
      · exact .inl (h.trans k)
      · exact .inr (.inl ⟨h1, h2.trans k⟩)
      · exact .inr (.inr ⟨h1, h2.trans k⟩)
    · rintro (h | ⟨h1, h2⟩ | ⟨h1, h2⟩)
      · exact .inl (h.trans k.symm)
      · exact .inr (.inl ⟨h1, h2.trans k.symm⟩)
      · exact .inr (.inr ⟨h1, h2.trans k.symm⟩)
theorem least_conn {F : List Pr} {s : Int} {l : List Int} (h : LeastL F s l) (y : Int) : y ∈ l ↔ Conn F s y := ⟨fun hy S c q => h.least S q c y hy, fun a => a (· ∈ l) h.closed h.start⟩
/-- all of 0 .. n - 1 are joined -/
def All (n : Nat) (F : List Pr) : Prop := ∀ x y : Int, 0 ≤ x ∧ x < n → 0 ≤ y ∧ y < n → Conn F x y
def nat0 (n : Nat) : List Int := (List.range n).map fun (k : Nat) => (k : Int)
theorem nat0_mem {n : Nat} {x : Int} : x ∈ nat0 n ↔ 0 ≤ x ∧ x < n := by
  unfold nat0
  constructor
  · intro h
    obtain ⟨k, hk, rfl⟩ := List.mem_map.mp h
    have := List.mem_range.mp hk
    omega
  · intro h
    exact List.mem_map.mpr ⟨x.toNat, List.mem_range.mpr (by omega), by omega⟩
theorem nat0_nd (n : Nat) : (nat0 n).Nodup := by
  unfold nat0
  rw [List.nodup_iff_pairwise_ne, List.pairwise_map]
  exact (List.nodup_iff_pairwise_ne.mp List.nodup_range).imp fun {a b} hab e => hab (by omega)
theorem nat0_len (n : Nat) : (nat0 n).length = n := by unfold nat0; rw [List.length_map, List.length_range]
/-- apart from each other: no fewer than what the edges leave -/
theorem apart (n : Nat) : ∀ F : List Pr, ∃ R : List Int, R.Nodup ∧ n ≤ R.length + F.length ∧ (∀ r ∈ R, 0 ≤ r ∧ r < (n : Int)) ∧ ∀ x ∈ R, ∀ y ∈ R, Conn F x y → x = y
  | [] => ⟨nat0 n, nat0_nd n, by rw [nat0_len]; exact Nat.le_add_right _ _, fun r hr => nat0_mem.mp hr, fun x _ y _ a => (a (· = x) (fun _ h => nomatch h) rfl).symm⟩
  | e :: F => by
    obtain ⟨R, nd, hl, hr, hp⟩ := apart n F
    by_cases hex : ∃ r ∈ R, Conn F r e.1
    · obtain ⟨r, hrm, hrc⟩ := hex
      have own : ∀ x ∈ R, Conn F x e.1 → x = r := fun x hx a => hp x hx r hrm (a.trans hrc.symm)
      refine ⟨R.erase r, nd.erase r, ?_, fun x hx => hr x (List.mem_of_mem_erase hx), fun x hx y hy a => ?_⟩
      · rw [List.length_erase_of_mem hrm, List.length_cons]
        have := List.length_pos_of_mem hrm
        omega
      · have hx' := (nd.mem_erase_iff).mp hx
        have hy' := (nd.mem_erase_iff).mp hy
        rcases conn_cons a with h | ⟨h1, h2⟩ | ⟨h1, h2⟩
        · exact hp x hx'.2 y hy'.2 h
        · exact absurd (own x hx'.2 h1) hx'.1
        · exact absurd (own y hy'.2 h2.symm) hy'.1
    · have no : ∀ x ∈ R, ¬ Conn F x e.1 := fun x hx a => hex ⟨x, hx, a⟩
      refine ⟨R, nd, by rw [List.length_cons]; omega, hr, fun x hx y hy a => ?_⟩
      rcases conn_cons a with h | ⟨h1, h2⟩ | ⟨h1, h2⟩
      · exact hp x hx y hy h
      · exact absurd h1 (no x hx)
      · exact absurd h2.symm (no y hy)
theorem all_count {n : Nat} {F : List Pr} (h : All n F) : n ≤ F.length + 1 := by
  obtain ⟨R, nd, hl, hr, hp⟩ := apart n F
  cases R with
  | nil => simp only [List.length_nil] at hl; omega
  | cons x R =>
    cases R with
    | nil => simp only [List.length_cons, List.length_nil] at hl; omega
    | cons y R =>
      have e := hp x List.mem_cons_self y (List.mem_cons_of_mem _ List.mem_cons_self) (h x y (hr x List.mem_cons_self) (hr y (List.mem_cons_of_mem _ List.mem_cons_self)))
      rw [e, List.nodup_cons] at nd
      exact absurd List.mem_cons_self nd.1
/-- a net without a round: what it reaches from few -/
def Few (n : Nat) (F : List Pr) : Prop := ∃ R : List Int, R.Nodup ∧ R.length + F.length ≤ n ∧ ∀ x : Int, 0 ≤ x ∧ x < n → ∃ r ∈ R, Conn F r x
theorem few_nil (n : Nat) : Few n [] := ⟨nat0 n, nat0_nd n, by rw [nat0_len]; exact Nat.le_refl _, fun x hx => ⟨x, nat0_mem.mpr hx, .refl _ _⟩⟩
theorem few_cons {n : Nat} {F : List Pr} {e : Pr} (h : Few n F) (h1 : 0 ≤ e.1 ∧ e.1 < (n : Int)) (h2 : 0 ≤ e.2 ∧ e.2 < (n : Int)) (hn : ¬ Conn F e.1 e.2) : Few n (e :: F) := by
  obtain ⟨R, nd, hl, hx⟩ := h
  obtain ⟨a, ha, ac⟩ := hx e.1 h1
  obtain ⟨b, hb, bc⟩ := hx e.2 h2
  have hab : b ≠ a := fun z => hn (ac.symm.trans (z ▸ bc))
  have up : ∀ {x y}, Conn F x y → Conn (e :: F) x y := fun c => conn_sub (fun g hg => List.mem_cons_of_mem _ hg) c
  refine ⟨R.erase a, nd.erase a, ?_, fun x hxb => ?_⟩
  · rw [List.length_erase_of_mem ha, List.length_cons]
    have := List.length_pos_of_mem ha
    omega
  · obtain ⟨r, hr, rc⟩ := hx x hxb
    by_cases e0 : r = a
    · subst e0
      refine ⟨b, (nd.mem_erase_iff).mpr ⟨hab, hb⟩, ?_⟩
      exact (up bc).trans ((conn_edge List.mem_cons_self).symm.trans ((up ac).symm.trans (up rc)))
    · exact ⟨r, (nd.mem_erase_iff).mpr ⟨e0, hr⟩, up rc⟩
theorem few_le {n : Nat} (h1 : 1 ≤ n) {F : List Pr} (h : Few n F) : F.length + 1 ≤ n := by
  obtain ⟨R, nd, hl, hx⟩ := h
  obtain ⟨r, hr, _⟩ := hx 0 (by omega)
  have := List.length_pos_of_mem hr
  omega
theorem few_all {n : Nat} {F : List Pr} (h : Few n F) (hl : F.length + 1 = n) : All n F := by
  obtain ⟨R, nd, hR, hx⟩ := h
  intro x y hx1 hy1
  obtain ⟨r, hr, rc⟩ := hx x hx1
  obtain ⟨s, hs, sc⟩ := hx y hy1
  have e : r = s := by
    match R, hR, hr, hs with
    | [z], _, hr, hs => rw [List.mem_singleton.mp hr, List.mem_singleton.mp hs]
    | _ :: _ :: _, hR, _, _ => simp only [List.length_cons] at hR; omega
  subst e
  exact rc.symm.trans sc
/-! exchange -/
section
variable {pr : Int → Pr} {w : Int → Int}
theorem sum_erase {t : Int} : ∀ {K : List Int}, t ∈ K → (K.map w).sum = w t + ((K.erase t).map w).sum
  | a :: K, h => by
    by_cases e : a = t
    · subst e
      rw [List.erase_cons_head, List.map_cons, List.sum_cons]
    · have ht : t ∈ K := (List.mem_cons.mp h).resolve_left fun z => e z.symm
      rw [List.erase_cons_tail (by simpa using e), List.map_cons, List.map_cons, List.sum_cons, List.sum_cons, sum_erase ht]
      omega
theorem sum_same : ∀ {T K : List Int}, T.Nodup → K.Nodup → (∀ t ∈ T, t ∈ K) → K.length ≤ T.length → (K.map w).sum = (T.map w).sum
  | [], K, _, _, _, hl => by
    have e : K = [] := List.length_eq_zero_iff.mp (Nat.le_zero.mp hl)
    rw [e]
  | t :: T, K, nt, nk, hs, hl => by
    rw [List.nodup_cons] at nt
    have ht := hs t List.mem_cons_self
    rw [sum_erase ht, List.map_cons, List.sum_cons, sum_same nt.2 (nk.erase t) (fun x hx => (nk.mem_erase_iff).mpr ⟨fun z => nt.1 (z ▸ hx), hs x (List.mem_cons_of_mem _ hx)⟩) (by
      rw [List.length_erase_of_mem ht]
      simp only [List.length_cons] at hl
      omega)]
theorem least_of {n : Nat} {K : List Int} (nk : K.Nodup) (hk : K.length + 1 = n) : ∀ (m : Nat) (T : List Int), (T.filter fun p => decide (p ∉ K)).length = m → T.Nodup → T.length + 1 = n → All n (T.map pr) → (∀ p ∈ T, (0 ≤ (pr p).1 ∧ (pr p).1 < (n : Int)) ∧ 0 ≤ (pr p).2 ∧ (pr p).2 < (n : Int)) → (∀ p ∈ K, (0 ≤ (pr p).1 ∧ (pr p).1 < (n : Int)) ∧ 0 ≤ (pr p).2 ∧ (pr p).2 < (n : Int)) →
    (∀ p ∈ T, p ∉ K → Conn ((K.filter fun j => decide (w j ≤ w p)).map pr) (pr p).1 (pr p).2) → (K.map w).sum ≤ (T.map w).sum
  | 0, T, hm, nt, hl, _, _, _, _ => by
    have hs : ∀ t ∈ T, t ∈ K := fun t ht => Classical.byContradiction fun z => by
      have : t ∈ T.filter fun p => decide (p ∉ K) := List.mem_filter.mpr ⟨ht, decide_eq_true z⟩
      rw [List.length_eq_zero_iff.mp hm] at this
      cases this
    rw [sum_same nt nk hs (by omega)]
    exact Int.le_refl _
  | m + 1, T, hm, nt, hl, hall, hb, hbk, hP => by
    obtain ⟨e, he⟩ : ∃ e, e ∈ T.filter fun p => decide (p ∉ K) := by
      cases hf : T.filter fun p => decide (p ∉ K) with
      | nil => rw [hf] at hm; cases hm
      | cons a l => exact ⟨a, List.mem_cons_self⟩
    obtain ⟨heT, hek⟩ := List.mem_filter.mp he
    have hek : e ∉ K := of_decide_eq_true hek
    have bnd := hb e heT
    have lT := List.length_erase_of_mem heT
    have posT := List.length_pos_of_mem heT
    have inE : ∀ p ∈ T, p ≠ e → p ∈ T.erase e := fun p hp hn => (nt.mem_erase_iff).mpr ⟨hn, hp⟩
    -- without e its ends are apart
    have cut : ¬ Conn ((T.erase e).map pr) (pr e).1 (pr e).2 := fun c => by
      have all' : All n ((T.erase e).map pr) := fun x y hx hy => conn_of (fun g hg => by
        obtain ⟨p, hp, rfl⟩ := List.mem_map.mp hg
        by_cases hpe : p = e
        · rw [hpe]; exact c
        · exact conn_edge (List.mem_map.mpr ⟨p, inE p hp hpe, rfl⟩)) (hall x y hx hy)
      have := all_count all'
      rw [List.length_map] at this
      omega
    -- an edge of K that crosses
    obtain ⟨f, hfK, hfw, hcr⟩ : ∃ f ∈ K, w f ≤ w e ∧ ¬ (Conn ((T.erase e).map pr) (pr e).1 (pr f).1 ↔ Conn ((T.erase e).map pr) (pr e).1 (pr f).2) := by
      refine Classical.byContradiction fun z => cut ?_
      refine hP e heT hek (fun x => Conn ((T.erase e).map pr) (pr e).1 x) (fun g hg => ?_) (.refl _ _)
      obtain ⟨f, hf, rfl⟩ := List.mem_map.mp hg
      obtain ⟨f1, f2⟩ := List.mem_filter.mp hf
      exact Classical.byContradiction fun y => z ⟨f, f1, of_decide_eq_true f2, y⟩
    have hfe : f ≠ e := fun z => hek (z ▸ hfK)
    have hfT : f ∉ T.erase e := fun z => hcr ⟨fun c => c.trans (conn_edge (List.mem_map.mpr ⟨f, z, rfl⟩)), fun c => c.trans (conn_edge (List.mem_map.mpr ⟨f, z, rfl⟩)).symm⟩
    have fb := hbk f hfK
    -- the other side
    have side : ∀ x : Int, 0 ≤ x ∧ x < (n : Int) → ¬ Conn ((T.erase e).map pr) (pr e).1 x → Conn ((T.erase e).map pr) (pr e).2 x := fun x hx hn => by
      have c := hall (pr e).1 x bnd.1 hx
      have c' : Conn (pr e :: (T.erase e).map pr) (pr e).1 x := conn_sub (fun g hg => by
        obtain ⟨p, hp, rfl⟩ := List.mem_map.mp hg
        by_cases hpe : p = e
        · rw [hpe]; exact List.mem_cons_self
        · exact List.mem_cons_of_mem _ (List.mem_map.mpr ⟨p, inE p hp hpe, rfl⟩)) c
      rcases conn_cons c' with h | ⟨_, h2⟩ | ⟨h1, _⟩
      · exact absurd h hn
      · exact h2
      · exact absurd h1 cut
    have up : ∀ {x y}, Conn ((T.erase e).map pr) x y → Conn ((f :: T.erase e).map pr) x y := fun c => conn_sub (fun g hg => List.mem_cons_of_mem _ hg) c
    have edge : Conn ((f :: T.erase e).map pr) (pr f).1 (pr f).2 := conn_edge List.mem_cons_self
    have join : Conn ((f :: T.erase e).map pr) (pr e).1 (pr e).2 := by
      by_cases h1 : Conn ((T.erase e).map pr) (pr e).1 (pr f).1
      · have h2 : ¬ Conn ((T.erase e).map pr) (pr e).1 (pr f).2 := fun z => hcr ⟨fun _ => z, fun _ => h1⟩
        exact (up h1).trans (edge.trans (up (side _ fb.2 h2)).symm)
      · have h2 : Conn ((T.erase e).map pr) (pr e).1 (pr f).2 := Classical.byContradiction fun z => hcr ⟨fun q => absurd q h1, fun q => absurd q z⟩
        exact (up h2).trans (edge.symm.trans (up (side _ fb.1 h1)).symm)
    have all' : All n ((f :: T.erase e).map pr) := fun x y hx hy => conn_of (fun g hg => by
      obtain ⟨p, hp, rfl⟩ := List.mem_map.mp hg
      by_cases hpe : p = e
      · rw [hpe]; exact join
      · exact conn_edge (List.mem_map.mpr ⟨p, List.mem_cons_of_mem _ (inE p hp hpe), rfl⟩)) (hall x y hx hy)
    have cnt : ((f :: T.erase e).filter fun p => decide (p ∉ K)).length = m := by
      rw [List.filter_cons, if_neg (by simpa using hfK)]
      have z : ((T.erase e).filter fun p => decide (p ∉ K)) = (T.filter fun p => decide (p ∉ K)).erase e := by
        rw [nt.erase_eq_filter, List.Nodup.erase_eq_filter (show (T.filter fun p => decide (p ∉ K)).Nodup from nt.filter _), List.filter_filter, List.filter_filter]
        congr 1
        funext p
        exact Bool.and_comm _ _
      rw [z, List.length_erase_of_mem he, hm]
      rfl
    have ih := least_of nk hk m (f :: T.erase e) cnt (List.nodup_cons.mpr ⟨hfT, nt.erase e⟩) (by rw [List.length_cons, lT]; omega) all' (fun p hp => by
      rcases List.mem_cons.mp hp with rfl | hp
      · exact fb
      · exact hb p (List.mem_of_mem_erase hp)) hbk (fun p hp hpk => by
      rcases List.mem_cons.mp hp with rfl | hp
      · exact absurd hfK hpk
      · exact hP p (List.mem_of_mem_erase hp) hpk)
    rw [sum_erase heT]
    rw [List.map_cons, List.sum_cons] at ih
    omega
end

/-! ### joined, together, from any machine -/
def srt (l : List Int) : List Int := l.mergeSort fun a b => decide (a ≤ b)
theorem inner_js {s0 : Int} (N : D) {many : Nat} {es : List E3} (ok : CabOk many es) (hs0 : 0 ≤ s0 ∧ s0 < (many : Int)) {ps : List Int} (hp : ∀ p ∈ ps, 0 ≤ p ∧ p < es.length) {l : List Int} {n : Nat} {v : Int} (hv : l[n]? = some v) (pl : PartL (ps.map (prOf es)) s0 l) (x5 x6 x7 x8 : Option Slot) :
    ∃ x5' x6' x7' x8', forGo (gN 5) jBody (ps.map .int) [some (.dat (encCb many es)), some (.dat N), some (.dat (.int s0)), some (.own (l.map .int)), some (.dat (.int (n : Int))), x5, x6, x7, x8] = M.ret (.next [some (.dat (encCb many es)), some (.dat N), some (.dat (.int s0)), some (.own (((ps.map (prOf es)).foldl (stepJ v) l).map .int)), some (.dat (.int (n : Int))), x5', x6', x7', x8']) := by
  have m1 := ok.m1
  have m8 := ok.m8
  obtain ⟨r, er, x5', x6', x7', x8', _, hr⟩ := for_all (as := ps) (g := gN 5) (B := jBody) (ρ := [some (.dat (encCb many es)), some (.dat N), some (.dat (.int s0)), some (.own (l.map .int)), some (.dat (.int (n : Int))), x5, x6, x7, x8]) PyData.int
    (fun j ρ => ∃ x5 x6 x7 x8, PartL (ps.map (prOf es)) s0 (((ps.take j).map (prOf es)).foldl (stepJ v) l) ∧ ρ = [some (.dat (encCb many es)), some (.dat N), some (.dat (.int s0)), some (.own ((((ps.take j).map (prOf es)).foldl (stepJ v) l).map .int)), some (.dat (.int (n : Int))), x5, x6, x7, x8]) ⟨_, _, _, _, pl, rfl⟩ fun j p ρ hj ⟨x5, x6, x7, x8, pj, hI⟩ => by
      subst hI
      have hpm := List.mem_of_getElem? hj
      obtain ⟨c, ec⟩ := edge_ix (many := many) (hp p hpm)
      have et : ps.take (j + 1) = ps.take j ++ [p] := by rw [List.take_add_one, hj]; rfl
      obtain ⟨t, ht⟩ := foldJ_sub v ((ps.take j).map (prOf es)) l
      rw [et, List.map_append, List.foldl_append]
      generalize ((ps.take j).map (prOf es)).foldl (stepJ v) l = f at *
      have hf : f[n]? = some v := by
        rw [ht, List.getElem?_append_left (List.getElem?_eq_some_iff.mp hv).1]
        exact hv
      have hvf : v ∈ f := List.mem_of_getElem? hf
      have ix := lx_ix hf
      have i1 : oIx (encCb many es) (.int 1) = M.ret (.tuple (es.map enc3)) := rfl
      have hl := part_len pj (by omega) (prs_in ok hp)
      have hpart : PartL (ps.map (prOf es)) s0 ([prOf es p].foldl (stepJ v) f) := stepJ_part pj hvf (List.mem_map.mpr ⟨p, hpm, rfl⟩)
      have e20 : (2 : Nat) ^ 20 = 1048576 := by decide +kernel
      have hlm : (f.map PyData.int).length < lineMax := line_lt (by rw [List.length_map]; omega)
      generalize encCb many es = C at *
      generalize es.map enc3 = E at *
      rw [show (List.map (prOf es) [p]).foldl (stepJ v) f = stepJ v f (prOf es p) from rfl]
      have hstep : PartL (ps.map (prOf es)) s0 (stepJ v f (prOf es p)) := hpart
      generalize prOf es p = e at *
      have in2 : oIn (.int v) (.tuple [.int e.1, .int e.2]) = M.ret (.bool (decide (v ∈ [e.1, e.2]))) := in_ints_t v [e.1, e.2]
      have fl : flatD (.int (e.1 + e.2 - v)) = true := by rw [flatD]
      refine ⟨_, .inl ?_, some (.dat (.int p)), some (.dat (.int e.1)), some (.dat (.int e.2)), some (.dat (.int c)), hstep, rfl⟩
      unfold jBody stepJ
      by_cases h1 : v = e.1 ∨ v = e.2
      · have d1 : decide (v ∈ [e.1, e.2]) = true := decide_eq_true (by simpa using h1)
        by_cases h2 : e.1 + e.2 - v ∈ f
        · rw [if_neg (fun z => z.2 h2)]
          simp only [at_gn, bnd_ret, set_0, set_s, at_seq, at_asg, hide_cons, hide1_d, hide1_o, hide_nil, at_bin, at_v0, at_vs, at_o0, at_c, i1, ec, at_g3, at_sif, at_and, at_tofk, at_tup, at_eachs, at_each0, ix, in2, d1, if_true, add_ints, sub_ints, notin_ints_l, h2, decide_true, Bool.not_true, Bool.false_eq_true, if_false, at_nil]
        · rw [if_pos ⟨h1, h2⟩]
          simp only [at_gn, bnd_ret, set_0, set_s, at_seq, at_asg, hide_cons, hide1_d, hide1_o, hide_nil, at_bin, at_v0, at_vs, at_o0, at_c, i1, ec, at_g3, at_sif, at_and, at_tofk, at_tup, at_eachs, at_each0, ix, in2, d1, if_true, add_ints, sub_ints, notin_ints_l, h2, decide_false, Bool.not_false]
          rw [at_sappf (ds := f.map .int) rfl hlm]
          simp only [at_bin, at_v0, at_vs, at_o0, bnd_ret, ix, add_ints, sub_ints, fl, if_true, set_0, set_s, List.map_append, List.map_cons, List.map_nil]
      · have d1 : decide (v ∈ [e.1, e.2]) = false := decide_eq_false (by simpa using h1)
        rw [if_neg (fun z => h1 z.1)]
        simp only [at_gn, bnd_ret, set_0, set_s, at_seq, at_asg, hide_cons, hide1_d, hide1_o, hide_nil, at_bin, at_v0, at_vs, at_o0, at_c, i1, ec, at_g3, at_sif, at_and, at_tofk, at_tup, at_eachs, at_each0, ix, in2, d1, Bool.false_eq_true, if_false, at_nil]
  subst hr
  rw [List.take_length] at er
  exact ⟨x5', x6', x7', x8', er⟩
theorem joined_t {κ : Bool} {s0 : Int} {many : Nat} {es : List E3} (ok : CabOk many es) (hs0 : 0 ≤ s0 ∧ s0 < (many : Int)) {ps : List Int} (hp : ∀ p ∈ ps, 0 ≤ p ∧ p < es.length) :
    DoesK κ (F_joined [.d (encCb many es), .d (encT ps), .d (.int s0)]) fun d => ∃ l : List Int, d = .tuple ((srt l).map .int) ∧ l.length ≤ many ∧ LeastL (ps.map (prOf es)) s0 l := by
  have m1 := ok.m1
  have m8 := ok.m8
  have e20 : (2 : Nat) ^ 20 = 1048576 := by decide +kernel
  refine does_fn rfl ?_
  show DoesK _ (_ : M Out) _
  simp only [List.map_cons, List.map_nil, slot_d, List.cons_append, List.nil_append, List.replicate]
  refine seq_own (ds := [.int s0]) (by simp only [at_emp, at_dis1, at_ow0, at_ows, at_calln, isLst_ret, at_c, at_bin, at_un, at_v0, at_o0, at_vs, at_tup, at_lst, at_each0, at_eachs, at_ad, at_p0, at_ps, at_args0, at_argss, at_call, at_tofk, at_and, at_or, at_not, at_dand, at_dor, at_dnot, at_if, at_chain, at_gn, at_g2, at_g3, at_g4, at_iseq, at_r1, at_r2, turn_def, at_sasgn, at_sforr, at_nil, at_seq, at_asg, at_sown, at_sret, at_sretn, at_sif, at_sdrop, at_sbrk, at_scont, at_sfor, hide_nil, hide_cons, hide1_d, hide1_n, hide1_p, hide1_o, set_0, set_s, bnd_ret, bnd_stuck, bnd_bnd, bnd_ite, slot_d, slot_p, wipeR, List.map_cons, List.map_nil, List.cons_append, List.nil_append, List.replicate, add_ints, sub_ints, le_ints, lt_ints, ge_ints, gt_ints, neg_ints, min2_ints, max2_ints, oEq_ints, oNe_ints, oEq_bools, oNe_bools, len_tup, len_lst, revL_l, oEq_strs, oNe_strs, tuple_l, tuple_t, list_l, list_t, at_sl, at_pn, at_ps', sl_tup', sl_lst', is_T, is_L, is_I, is_B, is_S, is_N, not_N, isT_n, isT_b, isT_i, isT_s, isT_t, isT_l, isT_d, isL_n, isL_b, isL_i, isL_s, isL_t, isL_l, isL_d, isI_n, isI_b, isI_i, isI_s, isI_t, isI_l, isI_d, isB_n, isB_b, isB_i, isB_s, isB_t, isB_l, isB_d, isS_n, isS_b, isS_i, isS_s, isS_t, isS_l, isS_d, isN_n, isN_b, isN_i, isN_s, isN_t, isN_l, isN_d, decide_eq_true_eq, Bool.not_eq_true', decide_eq_false_iff_not, Bool.false_eq_true, if_true, if_false, decide_true, decide_false, Bool.not_true, Bool.not_false, not_true_eq_false, not_false_eq_true, ret_ite_o, Int.reduceLT, Int.reduceLE, Int.reduceEq, Int.reduceAdd, Int.reduceSub, Int.reduceNeg, reduceCtorEq]) ?_
  refine seq_asg (P := (· = .int 0)) ?_ ?_
  · simp only [at_emp, at_dis1, at_ow0, at_ows, at_calln, isLst_ret, at_c, at_bin, at_un, at_v0, at_o0, at_vs, at_tup, at_lst, at_each0, at_eachs, at_ad, at_p0, at_ps, at_args0, at_argss, at_call, at_tofk, at_and, at_or, at_not, at_dand, at_dor, at_dnot, at_if, at_chain, at_gn, at_g2, at_g3, at_g4, at_iseq, at_r1, at_r2, turn_def, at_sasgn, at_sforr, at_nil, at_seq, at_asg, at_sown, at_sret, at_sretn, at_sif, at_sdrop, at_sbrk, at_scont, at_sfor, hide_nil, hide_cons, hide1_d, hide1_n, hide1_p, hide1_o, set_0, set_s, bnd_ret, bnd_stuck, bnd_bnd, bnd_ite, slot_d, slot_p, wipeR, List.map_cons, List.map_nil, List.cons_append, List.nil_append, List.replicate, add_ints, sub_ints, le_ints, lt_ints, ge_ints, gt_ints, neg_ints, min2_ints, max2_ints, oEq_ints, oNe_ints, oEq_bools, oNe_bools, len_tup, len_lst, revL_l, oEq_strs, oNe_strs, tuple_l, tuple_t, list_l, list_t, at_sl, at_pn, at_ps', sl_tup', sl_lst', is_T, is_L, is_I, is_B, is_S, is_N, not_N, isT_n, isT_b, isT_i, isT_s, isT_t, isT_l, isT_d, isL_n, isL_b, isL_i, isL_s, isL_t, isL_l, isL_d, isI_n, isI_b, isI_i, isI_s, isI_t, isI_l, isI_d, isB_n, isB_b, isB_i, isB_s, isB_t, isB_l, isB_d, isS_n, isS_b, isS_i, isS_s, isS_t, isS_l, isS_d, isN_n, isN_b, isN_i, isN_s, isN_t, isN_l, isN_d, decide_eq_true_eq, Bool.not_eq_true', decide_eq_false_iff_not, Bool.false_eq_true, if_true, if_false, decide_true, decide_false, Bool.not_true, Bool.not_false, not_true_eq_false, not_false_eq_true, ret_ite_o, Int.reduceLT, Int.reduceLE, Int.reduceEq, Int.reduceAdd, Int.reduceSub, Int.reduceNeg, reduceCtorEq]
    exact does_ret rfl
  rintro _ rfl
  simp only [set_0, set_s]
  refine seq_next (P := fun ρ => ∃ l x5 x6 x7 x8, LeastL (ps.map (prOf es)) s0 l ∧ l.length ≤ many ∧ ρ = [some (.dat (encCb many es)), some (.dat (encT ps)), some (.dat (.int s0)), some (.own (l.map .int)), some (.dat (.int (l.length : Int))), x5, x6, x7, x8]) ?_ ?_
  · rw [at_swhile]
    refine while_does (fun n ρ => ∃ l at' x5 x6 x7 x8, DoneJ (ps.map (prOf es)) s0 l at' ∧ n = many - at' ∧ ρ = [some (.dat (encCb many es)), some (.dat (encT ps)), some (.dat (.int s0)), some (.own (l.map .int)), some (.dat (.int (at' : Int))), x5, x6, x7, x8]) (fun n ρ hI => ?_) fuelW many _ (by unfold fuelW; omega) ⟨[s0], 0, _, _, _, _, .zero _ _, by omega, rfl⟩
    obtain ⟨l, at', x5, x6, x7, x8, dn, hn, rfl⟩ := hI
    have hl := part_len dn.part (by omega) (prs_in ok hp)
    have hle := dn.le
    by_cases hlt : at' < l.length
    · refine ⟨true, of_eq ?_, fun _ => ?_, fun z => nomatch z⟩
      · simp only [at_tofk, at_bin, at_un, at_v0, at_vs, at_o0, bnd_ret, len_lst, List.length_map, lt_ints]
        rw [decide_eq_true (by omega)]
      · have hv : l[at']? = some l[at'] := List.getElem?_eq_getElem hlt
        obtain ⟨x5', x6', x7', x8', e⟩ := inner_js (encT ps) ok hs0 hp hv dn.part x5 x6 x7 x8
        rw [at_seq, at_sfor]
        simp only [at_iseq, at_v0, at_vs, hide_cons, hide1_d, hide1_o, hide_nil, bnd_ret]
        have e' : forGo (gN 5) jBody (ps.map .int) [some (.dat (encCb many es)), some (.dat (.tuple (ps.map .int))), some (.dat (.int s0)), some (.own (l.map .int)), some (.dat (.int (at' : Int))), x5, x6, x7, x8] = _ := e
        rw [e', bnd_ret]
        refine does_of (a := .next [some (.dat (encCb many es)), some (.dat (encT ps)), some (.dat (.int s0)), some (.own (((ps.map (prOf es)).foldl (stepJ l[at']) l).map .int)), some (.dat (.int ((at' + 1 : Nat) : Int))), x5', x6', x7', x8']) ?_ ⟨_, rfl, many - (at' + 1), by omega, _, _, _, _, _, _, dn.next hv, rfl, rfl⟩
        rfl
    · have ea : at' = l.length := by omega
      subst ea
      refine ⟨false, of_eq ?_, fun z => (nomatch z), fun _ => ⟨_, rfl, l, x5, x6, x7, x8, dn.least, hl, rfl⟩⟩
      simp only [at_tofk, at_bin, at_un, at_v0, at_vs, at_o0, bnd_ret, len_lst, List.length_map, lt_ints]
      rw [decide_eq_false (by omega)]
  rintro _ ⟨l, x5, x6, x7, x8, hl, hn, rfl⟩
  have so := sorted_ints l (by omega)
  simp only [at_sret, at_un, at_v0, at_vs, at_o0, bnd_ret, so, tuple_l]
  exact does_ret ⟨l, rfl, hn, hl⟩
theorem joined_l {κ : Bool} {s0 : Int} {many : Nat} {es : List E3} (ok : CabOk many es) (hs0 : 0 ≤ s0 ∧ s0 < (many : Int)) {ps : List Int} (hp : ∀ p ∈ ps, 0 ≤ p ∧ p < es.length) :
    DoesK κ (F_joined [.d (encCb many es), .d (.list (ps.map .int)), .d (.int s0)]) fun d => ∃ l : List Int, d = .tuple ((srt l).map .int) ∧ l.length ≤ many ∧ LeastL (ps.map (prOf es)) s0 l := by
  have m1 := ok.m1
  have m8 := ok.m8
  have e20 : (2 : Nat) ^ 20 = 1048576 := by decide +kernel
  refine does_fn rfl ?_
  show DoesK _ (_ : M Out) _
  simp only [List.map_cons, List.map_nil, slot_d, List.cons_append, List.nil_append, List.replicate]
  refine seq_own (ds := [.int s0]) (by simp only [at_emp, at_dis1, at_ow0, at_ows, at_calln, isLst_ret, at_c, at_bin, at_un, at_v0, at_o0, at_vs, at_tup, at_lst, at_each0, at_eachs, at_ad, at_p0, at_ps, at_args0, at_argss, at_call, at_tofk, at_and, at_or, at_not, at_dand, at_dor, at_dnot, at_if, at_chain, at_gn, at_g2, at_g3, at_g4, at_iseq, at_r1, at_r2, turn_def, at_sasgn, at_sforr, at_nil, at_seq, at_asg, at_sown, at_sret, at_sretn, at_sif, at_sdrop, at_sbrk, at_scont, at_sfor, hide_nil, hide_cons, hide1_d, hide1_n, hide1_p, hide1_o, set_0, set_s, bnd_ret, bnd_stuck, bnd_bnd, bnd_ite, slot_d, slot_p, wipeR, List.map_cons, List.map_nil, List.cons_append, List.nil_append, List.replicate, add_ints, sub_ints, le_ints, lt_ints, ge_ints, gt_ints, neg_ints, min2_ints, max2_ints, oEq_ints, oNe_ints, oEq_bools, oNe_bools, len_tup, len_lst, revL_l, oEq_strs, oNe_strs, tuple_l, tuple_t, list_l, list_t, at_sl, at_pn, at_ps', sl_tup', sl_lst', is_T, is_L, is_I, is_B, is_S, is_N, not_N, isT_n, isT_b, isT_i, isT_s, isT_t, isT_l, isT_d, isL_n, isL_b, isL_i, isL_s, isL_t, isL_l, isL_d, isI_n, isI_b, isI_i, isI_s, isI_t, isI_l, isI_d, isB_n, isB_b, isB_i, isB_s, isB_t, isB_l, isB_d, isS_n, isS_b, isS_i, isS_s, isS_t, isS_l, isS_d, isN_n, isN_b, isN_i, isN_s, isN_t, isN_l, isN_d, decide_eq_true_eq, Bool.not_eq_true', decide_eq_false_iff_not, Bool.false_eq_true, if_true, if_false, decide_true, decide_false, Bool.not_true, Bool.not_false, not_true_eq_false, not_false_eq_true, ret_ite_o, Int.reduceLT, Int.reduceLE, Int.reduceEq, Int.reduceAdd, Int.reduceSub, Int.reduceNeg, reduceCtorEq]) ?_
  refine seq_asg (P := (· = .int 0)) ?_ ?_
  · simp only [at_emp, at_dis1, at_ow0, at_ows, at_calln, isLst_ret, at_c, at_bin, at_un, at_v0, at_o0, at_vs, at_tup, at_lst, at_each0, at_eachs, at_ad, at_p0, at_ps, at_args0, at_argss, at_call, at_tofk, at_and, at_or, at_not, at_dand, at_dor, at_dnot, at_if, at_chain, at_gn, at_g2, at_g3, at_g4, at_iseq, at_r1, at_r2, turn_def, at_sasgn, at_sforr, at_nil, at_seq, at_asg, at_sown, at_sret, at_sretn, at_sif, at_sdrop, at_sbrk, at_scont, at_sfor, hide_nil, hide_cons, hide1_d, hide1_n, hide1_p, hide1_o, set_0, set_s, bnd_ret, bnd_stuck, bnd_bnd, bnd_ite, slot_d, slot_p, wipeR, List.map_cons, List.map_nil, List.cons_append, List.nil_append, List.replicate, add_ints, sub_ints, le_ints, lt_ints, ge_ints, gt_ints, neg_ints, min2_ints, max2_ints, oEq_ints, oNe_ints, oEq_bools, oNe_bools, len_tup, len_lst, revL_l, oEq_strs, oNe_strs, tuple_l, tuple_t, list_l, list_t, at_sl, at_pn, at_ps', sl_tup', sl_lst', is_T, is_L, is_I, is_B, is_S, is_N, not_N, isT_n, isT_b, isT_i, isT_s, isT_t, isT_l, isT_d, isL_n, isL_b, isL_i, isL_s, isL_t, isL_l, isL_d, isI_n, isI_b, isI_i, isI_s, isI_t, isI_l, isI_d, isB_n, isB_b, isB_i, isB_s, isB_t, isB_l, isB_d, isS_n, isS_b, isS_i, isS_s, isS_t, isS_l, isS_d, isN_n, isN_b, isN_i, isN_s, isN_t, isN_l, isN_d, decide_eq_true_eq, Bool.not_eq_true', decide_eq_false_iff_not, Bool.false_eq_true, if_true, if_false, decide_true, decide_false, Bool.not_true, Bool.not_false, not_true_eq_false, not_false_eq_true, ret_ite_o, Int.reduceLT, Int.reduceLE, Int.reduceEq, Int.reduceAdd, Int.reduceSub, Int.reduceNeg, reduceCtorEq]
    exact does_ret rfl
  rintro _ rfl
  simp only [set_0, set_s]
  refine seq_next (P := fun ρ => ∃ l x5 x6 x7 x8, LeastL (ps.map (prOf es)) s0 l ∧ l.length ≤ many ∧ ρ = [some (.dat (encCb many es)), some (.dat (.list (ps.map .int))), some (.dat (.int s0)), some (.own (l.map .int)), some (.dat (.int (l.length : Int))), x5, x6, x7, x8]) ?_ ?_
  · rw [at_swhile]
    refine while_does (fun n ρ => ∃ l at' x5 x6 x7 x8, DoneJ (ps.map (prOf es)) s0 l at' ∧ n = many - at' ∧ ρ = [some (.dat (encCb many es)), some (.dat (.list (ps.map .int))), some (.dat (.int s0)), some (.own (l.map .int)), some (.dat (.int (at' : Int))), x5, x6, x7, x8]) (fun n ρ hI => ?_) fuelW many _ (by unfold fuelW; omega) ⟨[s0], 0, _, _, _, _, .zero _ _, by omega, rfl⟩
    obtain ⟨l, at', x5, x6, x7, x8, dn, hn, rfl⟩ := hI
    have hl := part_len dn.part (by omega) (prs_in ok hp)
    have hle := dn.le
    by_cases hlt : at' < l.length
    · refine ⟨true, of_eq ?_, fun _ => ?_, fun z => nomatch z⟩
      · simp only [at_tofk, at_bin, at_un, at_v0, at_vs, at_o0, bnd_ret, len_lst, List.length_map, lt_ints]
        rw [decide_eq_true (by omega)]
      · have hv : l[at']? = some l[at'] := List.getElem?_eq_getElem hlt
        obtain ⟨x5', x6', x7', x8', e⟩ := inner_js (.list (ps.map .int)) ok hs0 hp hv dn.part x5 x6 x7 x8
        rw [at_seq, at_sfor]
        simp only [at_iseq, at_v0, at_vs, hide_cons, hide1_d, hide1_o, hide_nil, bnd_ret]
        have e' : forGo (gN 5) jBody (ps.map .int) [some (.dat (encCb many es)), some (.dat (.list (ps.map .int))), some (.dat (.int s0)), some (.own (l.map .int)), some (.dat (.int (at' : Int))), x5, x6, x7, x8] = _ := e
        rw [e', bnd_ret]
        refine does_of (a := .next [some (.dat (encCb many es)), some (.dat (.list (ps.map .int))), some (.dat (.int s0)), some (.own (((ps.map (prOf es)).foldl (stepJ l[at']) l).map .int)), some (.dat (.int ((at' + 1 : Nat) : Int))), x5', x6', x7', x8']) ?_ ⟨_, rfl, many - (at' + 1), by omega, _, _, _, _, _, _, dn.next hv, rfl, rfl⟩
        rfl
    · have ea : at' = l.length := by omega
      subst ea
      refine ⟨false, of_eq ?_, fun z => (nomatch z), fun _ => ⟨_, rfl, l, x5, x6, x7, x8, dn.least, hl, rfl⟩⟩
      simp only [at_tofk, at_bin, at_un, at_v0, at_vs, at_o0, bnd_ret, len_lst, List.length_map, lt_ints]
      rw [decide_eq_false (by omega)]
  rintro _ ⟨l, x5, x6, x7, x8, hl, hn, rfl⟩
  have so := sorted_ints l (by omega)
  simp only [at_sret, at_un, at_v0, at_vs, at_o0, bnd_ret, so, tuple_l]
  exact does_ret ⟨l, rfl, hn, hl⟩
theorem inner_ts {s0 : Int} (N : D) {many : Nat} (m8 : many ≤ 8) (m1 : 1 ≤ many) (hs0 : 0 ≤ s0 ∧ s0 < (many : Int)) {qs : List E3} (hin : ∀ e ∈ qs.map prE, (0 ≤ e.1 ∧ e.1 < (many : Int)) ∧ 0 ≤ e.2 ∧ e.2 < (many : Int)) {l : List Int} (pl : PartL (qs.map prE) s0 l) (M0 : D) (x5 : Option Slot) :
    ∃ x5', forGo (gN 5) tBody (qs.map enc3) [some (.dat M0), some (.dat N), some (.dat (.int s0)), some (.own (l.map .int)), some (.dat (.bool false)), x5] = M.ret (.next [some (.dat M0), some (.dat N), some (.dat (.int s0)), some (.own (((qs.map prE).foldl stepT (l, false)).1.map .int)), some (.dat (.bool ((qs.map prE).foldl stepT (l, false)).2)), x5']) := by
  have e20 : (2 : Nat) ^ 20 = 1048576 := by decide +kernel
  obtain ⟨r, er, x5', _, hr⟩ := for_all (as := qs) (g := gN 5) (B := tBody) (ρ := [some (.dat M0), some (.dat N), some (.dat (.int s0)), some (.own (l.map .int)), some (.dat (.bool false)), x5]) enc3
    (fun j ρ => ∃ x5, PartL (qs.map prE) s0 (((qs.take j).map prE).foldl stepT (l, false)).1 ∧ ρ = [some (.dat M0), some (.dat N), some (.dat (.int s0)), some (.own ((((qs.take j).map prE).foldl stepT (l, false)).1.map .int)), some (.dat (.bool (((qs.take j).map prE).foldl stepT (l, false)).2)), x5]) ⟨_, pl, rfl⟩ fun j q ρ hj ⟨x5, pj, hI⟩ => by
      subst hI
      have et : qs.take (j + 1) = qs.take j ++ [q] := by rw [List.take_add_one, hj]; rfl
      rw [et, List.map_append, List.foldl_append]
      generalize ((qs.take j).map prE).foldl stepT (l, false) = s at *
      obtain ⟨f, g⟩ := s
      rw [show (List.map prE [q]).foldl stepT (f, g) = stepT (f, g) (prE q) from rfl]
      have hpart : PartL (qs.map prE) s0 (stepT (f, g) (prE q)).1 := stepT_part pj (List.mem_map.mpr ⟨q, List.mem_of_getElem? hj, rfl⟩)
      have hl := part_len pj (by omega) hin
      dsimp only at hl
      have hlm : (f.map PyData.int).length < lineMax := line_lt (by rw [List.length_map]; omega)
      have i0 : oIx (enc3 q) (.int 0) = M.ret (.int (prE q).1) := rfl
      have i1 : oIx (enc3 q) (.int 1) = M.ret (.int (prE q).2) := rfl
      generalize prE q = e at *
      generalize enc3 q = Q at *
      have fl : ∀ n : Int, flatD (.int n) = true := fun n => by rw [flatD]
      refine ⟨[some (.dat M0), some (.dat N), some (.dat (.int s0)), some (.own ((stepT (f, g) e).1.map .int)), some (.dat (.bool (stepT (f, g) e).2)), some (.dat Q)], .inl ?_, some (.dat Q), hpart, rfl⟩
      unfold tBody
      by_cases h1 : e.1 ∈ f
      · by_cases h2 : e.2 ∈ f
        · have es' : stepT (f, g) e = (f, g) := by unfold stepT; simp only [h1, h2]; rfl
          rw [es']
          simp only [at_gn, bnd_ret, set_0, set_s, at_sif, at_tofk, at_bin, at_v0, at_vs, at_o0, at_c, i0, i1, in_ints_l, oNe_bools, h1, h2, eq_self, Bool.not_true, Bool.not_false, Bool.true_eq_false, Bool.false_eq_true, if_true, decide_true, not_true_eq_false, decide_false, Bool.false_eq_true, if_false, at_nil, ne_eq]
        · have es' : stepT (f, g) e = (f ++ [e.2], true) := by unfold stepT; simp [h1, h2]
          rw [es']
          simp only [at_gn, bnd_ret, set_0, set_s, at_sif, at_tofk, at_bin, at_v0, at_vs, at_o0, at_c, i0, i1, in_ints_l, oNe_bools, h1, h2, eq_self, Bool.not_true, Bool.not_false, Bool.true_eq_false, Bool.false_eq_true, if_true, decide_true, decide_false, ne_eq, Bool.true_eq_false, not_false_eq_true, if_true, at_seq]
          rw [at_sappf (ds := f.map .int) rfl hlm]
          simp only [at_if, at_tofk, at_bin, at_v0, at_vs, at_o0, at_c, bnd_ret, i0, i1, in_ints_l, h1, decide_true, if_true, fl, set_0, set_s, List.map_append, List.map_cons, List.map_nil, at_asg, at_gn]
      · by_cases h2 : e.2 ∈ f
        · have es' : stepT (f, g) e = (f ++ [e.1], true) := by unfold stepT; simp [h1, h2]
          rw [es']
          simp only [at_gn, bnd_ret, set_0, set_s, at_sif, at_tofk, at_bin, at_v0, at_vs, at_o0, at_c, i0, i1, in_ints_l, oNe_bools, h1, h2, eq_self, Bool.not_true, Bool.not_false, Bool.true_eq_false, Bool.false_eq_true, if_true, decide_true, decide_false, ne_eq, Bool.false_eq_true, not_false_eq_true, if_true, at_seq]
          rw [at_sappf (ds := f.map .int) rfl hlm]
          simp only [at_if, at_tofk, at_bin, at_v0, at_vs, at_o0, at_c, bnd_ret, i0, i1, in_ints_l, h1, decide_false, Bool.false_eq_true, if_false, fl, if_true, set_0, set_s, List.map_append, List.map_cons, List.map_nil, at_asg, at_gn]
        · have es' : stepT (f, g) e = (f, g) := by unfold stepT; simp only [h1, h2]; rfl
          rw [es']
          simp only [at_gn, bnd_ret, set_0, set_s, at_sif, at_tofk, at_bin, at_v0, at_vs, at_o0, at_c, i0, i1, in_ints_l, oNe_bools, h1, h2, eq_self, Bool.not_true, Bool.not_false, Bool.true_eq_false, Bool.false_eq_true, if_true, decide_false, decide_true, not_true_eq_false, Bool.false_eq_true, if_false, at_nil, ne_eq]
  subst hr
  rw [List.take_length] at er
  exact ⟨x5', er⟩
/-! ### the same, in order -/
theorem srt_mem {l : List Int} {x : Int} : x ∈ srt l ↔ x ∈ l := (List.mergeSort_perm _ _).mem_iff
theorem srt_len (l : List Int) : (srt l).length = l.length := List.length_mergeSort _
theorem srt_asc {l : List Int} (nd : l.Nodup) : (srt l).Pairwise (· < ·) := by
  have h1 : (srt l).Pairwise fun a b => decide (a ≤ b) = true := List.pairwise_mergeSort (fun a b c h1 h2 => by
    have := of_decide_eq_true h1
    have := of_decide_eq_true h2
    exact decide_eq_true (by omega)) (fun a b => by
    by_cases h : a ≤ b
    · rw [decide_eq_true h]; rfl
    · rw [decide_eq_true (show b ≤ a by omega), Bool.or_true]) l
  have h2 : (srt l).Nodup := (List.mergeSort_perm _ _).nodup_iff.mpr nd
  exact (h1.and (List.nodup_iff_pairwise_ne.mp h2)).imp fun {a b} h => by
    have := of_decide_eq_true h.1
    have := h.2
    omega
theorem asc_ext : ∀ {a b : List Int}, a.Pairwise (· < ·) → b.Pairwise (· < ·) → (∀ x, x ∈ a ↔ x ∈ b) → a = b
  | [], [], _, _, _ => rfl
  | [], y :: b, _, _, h => absurd ((h y).mpr List.mem_cons_self) List.not_mem_nil
  | x :: a, [], _, _, h => absurd ((h x).mp List.mem_cons_self) List.not_mem_nil
  | x :: a, y :: b, pa, pb, h => by
    rw [List.pairwise_cons] at pa pb
    have e : x = y := by
      rcases List.mem_cons.mp ((h x).mp List.mem_cons_self) with z | z
      · exact z
      · rcases List.mem_cons.mp ((h y).mpr List.mem_cons_self) with v | v
        · exact v.symm
        · have := pb.1 x z
          have := pa.1 y v
          omega
    subst e
    rw [asc_ext pa.2 pb.2 fun z => ?_]
    constructor
    · intro hz
      rcases List.mem_cons.mp ((h z).mp (List.mem_cons_of_mem _ hz)) with v | v
      · have := pa.1 z hz
        omega
      · exact v
    · intro hz
      rcases List.mem_cons.mp ((h z).mpr (List.mem_cons_of_mem _ hz)) with v | v
      · have := pb.1 z hz
        omega
      · exact v
/-- what is joined, in order -/
structure Reach (n : Nat) (F : List Pr) (s0 : Int) (L : List Int) : Prop where
  asc : L.Pairwise (· < ·)
  mem : ∀ y, y ∈ L ↔ Conn F s0 y
  rng : ∀ y ∈ L, 0 ≤ y ∧ y < (n : Int)
  len : L.length ≤ n
theorem reach_of {n : Nat} {F : List Pr} {s0 : Int} {l : List Int} (h : LeastL F s0 l) (hs : 0 ≤ s0 ∧ s0 < (n : Int)) (he : ∀ e ∈ F, (0 ≤ e.1 ∧ e.1 < (n : Int)) ∧ 0 ≤ e.2 ∧ e.2 < (n : Int)) (hl : l.length ≤ n) : Reach n F s0 (srt l) :=
  ⟨srt_asc h.nd, fun y => srt_mem.trans (least_conn h y), fun y hy => h.least (fun x => 0 ≤ x ∧ x < (n : Int)) hs (fun e hm => ⟨fun _ => (he e hm).2, fun _ => (he e hm).1⟩) y (srt_mem.mp hy), by rw [srt_len]; exact hl⟩
theorem reach_eq {n : Nat} {F : List Pr} {s0 : Int} {L M : List Int} (a : Reach n F s0 L) (b : Reach n F s0 M) : L = M := asc_ext a.asc b.asc fun x => (a.mem x).trans (b.mem x).symm
theorem reach_all {n : Nat} (h1 : 1 ≤ n) {F : List Pr} {L : List Int} (a : Reach n F 0 L) : L.length = n ↔ All n F := by
  have nd : L.Nodup := a.asc.imp fun h => by omega
  constructor
  · intro hl
    have key : ∀ x : Int, 0 ≤ x ∧ x < n → Conn F 0 x := fun x hx => (a.mem x).mp (Classical.byContradiction fun z => by
      have nd2 : (x :: L).Nodup := List.nodup_cons.mpr ⟨z, nd⟩
      have := nd2.length_le_of_subset (l₂ := nat0 n) fun y hy => by
        rcases List.mem_cons.mp hy with rfl | hy
        · exact nat0_mem.mpr hx
        · exact nat0_mem.mpr (a.rng y hy)
      rw [nat0_len, List.length_cons] at this
      omega)
    exact fun x y hx hy => (key x hx).symm.trans (key y hy)
  · intro h
    have := (nat0_nd n).length_le_of_subset (l₂ := L) fun x hx => (a.mem x).mpr (h 0 x (by omega) (nat0_mem.mp hx))
    rw [nat0_len] at this
    have := a.len
    omega
def pool0 : Pool := ⟨[], 0, 0, 0, 0⟩
theorem joined_tq {many : Nat} {es : List E3} (ok : CabOk many es) {s0 : Int} (hs0 : 0 ≤ s0 ∧ s0 < (many : Int)) {ps : List Int} (hp : ∀ p ∈ ps, 0 ≤ p ∧ p < es.length) : ∃ L, Reach many (ps.map (prOf es)) s0 L ∧ F_joined [.d (encCb many es), .d (encT ps), .d (.int s0)] = M.ret (.tuple (L.map .int)) := by
  have j := joined_t (κ := true) ok hs0 hp
  obtain ⟨_, _, _, ⟨l0, _, hn, hl⟩, _⟩ := j pool0
  have r0 := reach_of hl hs0 (prs_in ok hp) hn
  exact ⟨_, r0, eq_of (j.imp fun d ⟨l, e, hn, hl⟩ => by rw [e, reach_eq (reach_of hl hs0 (prs_in ok hp) hn) r0])⟩
theorem joined_lq {many : Nat} {es : List E3} (ok : CabOk many es) {s0 : Int} (hs0 : 0 ≤ s0 ∧ s0 < (many : Int)) {ps : List Int} (hp : ∀ p ∈ ps, 0 ≤ p ∧ p < es.length) : ∃ L, Reach many (ps.map (prOf es)) s0 L ∧ F_joined [.d (encCb many es), .d (.list (ps.map .int)), .d (.int s0)] = M.ret (.tuple (L.map .int)) := by
  have j := joined_l (κ := true) ok hs0 hp
  obtain ⟨_, _, _, ⟨l0, _, hn, hl⟩, _⟩ := j pool0
  have r0 := reach_of hl hs0 (prs_in ok hp) hn
  exact ⟨_, r0, eq_of (j.imp fun d ⟨l, e, hn, hl⟩ => by rw [e, reach_eq (reach_of hl hs0 (prs_in ok hp) hn) r0])⟩
/-! ### the order of the edges -/
def wE (es : List E3) (p : Int) : Int := (es.getD p.toNat (0, 0, 0)).2.2
def encO (es : List E3) (p : Int) : D := .tuple [.int (wE es p), .int p]
def leW (es : List E3) (a b : Int) : Bool := decide (wE es a < wE es b ∨ (wE es a = wE es b ∧ a ≤ b))
def ordE (es : List E3) : List Int := (nat0 es.length).mergeSort (leW es)
theorem ord_mem {es : List E3} {p : Int} : p ∈ ordE es ↔ 0 ≤ p ∧ p < es.length := ((List.mergeSort_perm _ _).mem_iff).trans nat0_mem
theorem ord_nd (es : List E3) : (ordE es).Nodup := (List.mergeSort_perm _ _).nodup_iff.mpr (nat0_nd _)
theorem ord_len (es : List E3) : (ordE es).length = es.length := by unfold ordE; rw [List.length_mergeSort, nat0_len]
theorem ord_asc (es : List E3) : (ordE es).Pairwise fun a b => wE es a ≤ wE es b := by
  have h : (ordE es).Pairwise fun a b => leW es a b = true := List.pairwise_mergeSort (fun a b c h1 h2 => by
    have h1 := of_decide_eq_true h1
    have h2 := of_decide_eq_true h2
    exact decide_eq_true (by omega)) (fun a b => by
    unfold leW
    rw [← Bool.decide_or, decide_eq_true_eq]
    omega) (nat0 es.length)
  exact h.imp fun {a b} h => by
    have := of_decide_eq_true h
    omega
theorem ord_sorted (es : List E3) (hl : es.length ≤ 64) : bSorted (.list ((nat0 es.length).map (encO es))) = M.ret (.list ((ordE es).map (encO es))) := by
  have hc : CanSort ((nat0 es.length).map (encO es)) := by
    refine ⟨fun d hd d' hd' => ?_, .inl (.inl fun d hd => ?_), small20 (by rw [List.length_map, nat0_len]; omega), fun d hd => ?_⟩
    · obtain ⟨a, _, rfl⟩ := List.mem_map.mp hd
      obtain ⟨b, _, rfl⟩ := List.mem_map.mp hd'
      show PySem.W.alikeAll [.int _, .int _] [.int _, .int _] = true
      simp only [PySem.W.alikeAll, PySem.W.alike, Bool.and_self]
    · obtain ⟨a, _, rfl⟩ := List.mem_map.mp hd
      exact ⟨_, _, rfl⟩
    · obtain ⟨a, _, rfl⟩ := List.mem_map.mp hd
      simp only [encO, PyData.depth, PyData.depthAll]
      decide
  unfold bSorted
  dsimp only
  rw [if_pos hc]
  congr 2
  have z := List.map_mergeSort (r := leW es) (s := leD) (f := encO es) (l := nat0 es.length) (fun a _ b _ => by
    unfold leD leW
    rw [PySem.W.dataLe_eq]
    show _ = (!PySem.W.dataLt (encO es b) (encO es a))
    unfold encO
    rw [lt_int_cons, lt_int_cons, lt_nil]
    by_cases h1 : wE es b = wE es a
    · rw [if_pos h1]
      by_cases h2 : b = a
      · rw [if_pos h2]
        exact decide_eq_true (by omega)
      · rw [if_neg h2]
        by_cases h3 : b < a
        · rw [decide_eq_true h3]
          exact decide_eq_false (by omega)
        · rw [decide_eq_false h3]
          exact decide_eq_true (by omega)
    · rw [if_neg h1]
      by_cases h3 : wE es b < wE es a
      · rw [decide_eq_true h3]
        exact decide_eq_false (by omega)
      · rw [decide_eq_false h3]
        exact decide_eq_true (by omega))
  exact z.symm

/-! ### the least net, step by step -/
structure NetOk (many : Nat) (es : List E3) (P K : List Int) : Prop where
  nd : K.Nodup
  sub : ∀ p ∈ K, p ∈ P
  few : Few many (K.map (prOf es))
  joins : ∀ p ∈ P, Conn ((K.filter fun j => decide (wE es j ≤ wE es p)).map (prOf es)) (prOf es p).1 (prOf es p).2
theorem few_snoc {n : Nat} {F : List Pr} {e : Pr} (h : Few n F) (h1 : 0 ≤ e.1 ∧ e.1 < (n : Int)) (h2 : 0 ≤ e.2 ∧ e.2 < (n : Int)) (hn : ¬ Conn F e.1 e.2) : Few n (F ++ [e]) := by
  obtain ⟨R, nd, hl, hx⟩ := few_cons h h1 h2 hn
  refine ⟨R, nd, by rw [List.length_append, List.length_singleton]; rw [List.length_cons] at hl; omega, fun x hx2 => ?_⟩
  obtain ⟨r, hr, c⟩ := hx x hx2
  exact ⟨r, hr, conn_sub (fun g hg => by
    rcases List.mem_cons.mp hg with rfl | hg
    · exact List.mem_append_right _ (List.mem_singleton.mpr rfl)
    · exact List.mem_append_left _ hg) c⟩
theorem pr_in {many : Nat} {es : List E3} (ok : CabOk many es) {p : Int} (hp : 0 ≤ p ∧ p < es.length) : (0 ≤ (prOf es p).1 ∧ (prOf es p).1 < (many : Int)) ∧ 0 ≤ (prOf es p).2 ∧ (prOf es p).2 < (many : Int) :=
  prs_in ok (ps := [p]) (fun q hq => by rw [List.mem_singleton.mp hq]; exact hp) _ (by simp)
theorem net_step {many : Nat} {es : List E3} (ok : CabOk many es) {P K : List Int} (h : NetOk many es P K) {p : Int} (hp : 0 ≤ p ∧ p < es.length) (hpP : p ∉ P) (hw : ∀ q ∈ P, wE es q ≤ wE es p) :
    (Conn (K.map (prOf es)) (prOf es p).1 (prOf es p).2 → NetOk many es (P ++ [p]) K) ∧ (¬ Conn (K.map (prOf es)) (prOf es p).1 (prOf es p).2 → NetOk many es (P ++ [p]) (K ++ [p])) := by
  have b := pr_in ok hp
  have fk : (K.filter fun j => decide (wE es j ≤ wE es p)) = K := List.filter_eq_self.mpr fun j hj => decide_eq_true (hw j (h.sub j hj))
  refine ⟨fun c => ⟨h.nd, fun q hq => List.mem_append_left _ (h.sub q hq), h.few, fun q hq => ?_⟩, fun c => ⟨?_, fun q hq => ?_, ?_, fun q hq => ?_⟩⟩
  · rcases List.mem_append.mp hq with hq | hq
    · exact h.joins q hq
    · rw [List.mem_singleton.mp hq, fk]
      exact c
  · rw [List.nodup_append]
    exact ⟨h.nd, by simp, fun a ha d hd => by
      rw [List.mem_singleton.mp hd]
      exact fun e => hpP (e ▸ h.sub a ha)⟩
  · rcases List.mem_append.mp hq with hq | hq
    · exact List.mem_append_left _ (h.sub q hq)
    · exact List.mem_append_right _ hq
  · rw [List.map_append]
    exact few_snoc h.few b.1 b.2 c
  · rcases List.mem_append.mp hq with hq | hq
    · refine conn_sub (fun g hg => ?_) (h.joins q hq)
      obtain ⟨j, hj, rfl⟩ := List.mem_map.mp hg
      obtain ⟨j1, j2⟩ := List.mem_filter.mp hj
      exact List.mem_map.mpr ⟨j, List.mem_filter.mpr ⟨List.mem_append_left _ j1, j2⟩, rfl⟩
    · rw [List.mem_singleton.mp hq]
      exact conn_edge (List.mem_map.mpr ⟨p, List.mem_filter.mpr ⟨List.mem_append_right _ (List.mem_singleton.mpr rfl), decide_eq_true (Int.le_refl _)⟩, rfl⟩)
/-- a net as least_net leaves it -/
structure NetF (many : Nat) (es : List E3) (K : List Int) : Prop where
  asc : K.Pairwise (· < ·)
  rng : ∀ p ∈ K, 0 ≤ p ∧ p < (es.length : Int)
  few : Few many (K.map (prOf es))
  joins : ∀ p : Int, 0 ≤ p ∧ p < es.length → Conn ((K.filter fun j => decide (wE es j ≤ wE es p)).map (prOf es)) (prOf es p).1 (prOf es p).2
theorem net_fin {many : Nat} {es : List E3} {K : List Int} (h : NetOk many es (ordE es) K) : NetF many es (srt K) := by
  refine ⟨srt_asc h.nd, fun p hp => ord_mem.mp (h.sub p (srt_mem.mp hp)), ?_, fun p hp => ?_⟩
  · obtain ⟨R, nd, hl, hx⟩ := h.few
    refine ⟨R, nd, by rw [List.length_map, srt_len]; rw [List.length_map] at hl; exact hl, fun x hx2 => ?_⟩
    obtain ⟨r, hr, c⟩ := hx x hx2
    exact ⟨r, hr, conn_sub (fun g hg => by
      obtain ⟨j, hj, rfl⟩ := List.mem_map.mp hg
      exact List.mem_map.mpr ⟨j, srt_mem.mpr hj, rfl⟩) c⟩
  · refine conn_sub (fun g hg => ?_) (h.joins p (ord_mem.mpr hp))
    obtain ⟨j, hj, rfl⟩ := List.mem_map.mp hg
    obtain ⟨j1, j2⟩ := List.mem_filter.mp hj
    exact List.mem_map.mpr ⟨j, List.mem_filter.mpr ⟨srt_mem.mpr j1, j2⟩, rfl⟩
theorem edge_w {es : List E3} {p : Int} (h : 0 ≤ p ∧ p < es.length) : oIx (.tuple (es.map enc3)) (.int p) = M.ret (.tuple [.int (prOf es p).1, .int (prOf es p).2, .int (wE es p)]) := by
  have hk : p.toNat < es.length := by omega
  have e1 : es.getD p.toNat (0, 0, 0) = es[p.toNat] := by rw [List.getD_eq_getElem?_getD, List.getElem?_eq_getElem hk, Option.getD_some]
  unfold prOf wE
  rw [e1]
  have z := oIx_t (xs := es.map enc3) (i := p.toNat) (x := enc3 es[p.toNat]) (by rw [List.getElem?_map, List.getElem?_eq_getElem hk]; rfl)
  rw [Int.toNat_of_nonneg h.1] at z
  exact z
theorem pairs_len {many : Nat} {es : List E3} {K : List Int} (h : Few many (List.map (prOf es) K)) : K.length ≤ many := by
  obtain ⟨R, nd, hl, hx⟩ := h
  rw [List.length_map] at hl
  omega
theorem least_net_ok {many : Nat} {es : List E3} (ok : CabOk many es) : ∃ K, NetF many es K ∧ F_least_net [.d (encCb many es)] = M.ret (encT K) := by
  have m1 := ok.m1
  have m8 := ok.m8
  have hel := ok.len
  have i1 : oIx (encCb many es) (.int 1) = M.ret (.tuple (es.map enc3)) := rfl
  have rl : rng1 (.int (es.length : Int)) = M.ret (intsFrom 0 es.length) := by rw [rng1_of (by omega) (by omega)]; rfl
  have comp : ∀ y2 y3 y4 y5 y6 y1 : Option Slot, dComp [4] (iR1 (dUn bLen (dBin oIx (dVar 0) (dC (.int 1))))) (gN 4) tTrue (dTup [(dBin oIx (dBin oIx (dBin oIx (dVar 0) (dC (.int 1))) (dVar 4)) (dC (.int 2))), (dVar 4)]) [some (.dat (encCb many es)), y1, y2, y3, y4, y5, y6] = M.ret (.list ((nat0 es.length).map (encO es))) := fun y2 y3 y4 y5 y6 y1 => by
    rw [comp_rng 0 es.length (fun k => encO es (k : Int)) (by simp only [at_r1, at_un, at_bin, at_v0, at_c, bnd_ret, i1, len_tup, List.length_map, rl]) (small20 (by omega)) (fun k hk => by
      have ew := edge_w (es := es) (p := (k : Int)) (by omega)
      have i2 : oIx (.tuple [.int (prOf es (k : Int)).1, .int (prOf es (k : Int)).2, .int (wE es (k : Int))]) (.int 2) = M.ret (.int (wE es (k : Int))) := oIx_t (i := 2) rfl
      rw [Int.zero_add]
      generalize encCb many es = C at *
      simp only [at_gn, wipeR, set_0, set_s, bnd_ret, at_tup, at_eachs, at_each0, at_bin, at_vs, at_v0, at_c, i1, ew, i2]
      rfl)]
    unfold nat0
    rw [List.map_map]
    rfl
  have srtd := ord_sorted es hel
  obtain ⟨r, er, K, x3, x4, x5, x6, hK, hr⟩ := for_all (as := ordE es) (g := gT [gN 3, gN 4]) (B := sSeq (sAsg (gT [(gN 5), (gN 6), (gN 3)]) (dBin oIx (dBin oIx (dVar 0) (dC (.int 1))) (dVar 4)))
  (sIf (tOf (dBin oNotIn (dVar 6) (dCall F_joined [(aD (dVar 0)), (aD (dVar 1)), (aD (dVar 5))]))) (sApp 1 (dVar 4)) sNil))
    (ρ := [some (.dat (encCb many es)), some (.own []), some (.dat (.list ((ordE es).map (encO es)))), none, none, none, none]) (encO es)
    (fun j ρ => ∃ (K : List Int) (x3 x4 x5 x6 : Option Slot), NetOk many es ((ordE es).take j) K ∧ ρ = [some (.dat (encCb many es)), some (.own (K.map .int)), some (.dat (.list ((ordE es).map (encO es)))), x3, x4, x5, x6])
    ⟨[], _, _, _, _, ⟨List.nodup_nil, (fun _ h => nomatch h), few_nil many, (fun _ h => nomatch h)⟩, rfl⟩ (fun j p ρ hj hI => by
      obtain ⟨K, x3, x4, x5, x6, hN, rfl⟩ := hI
      have hpm := List.mem_of_getElem? hj
      have hp := ord_mem.mp hpm
      have hjl := (List.getElem?_eq_some_iff.mp hj).1
      have hpe := (List.getElem?_eq_some_iff.mp hj).2
      have e : (ordE es).take (j + 1) = (ordE es).take j ++ [p] := by rw [List.take_add_one, hj]; rfl
      have hnot : p ∉ (ordE es).take j := fun z => by
        obtain ⟨i, hi, ei⟩ := List.getElem_of_mem z
        rw [List.length_take] at hi
        rw [List.getElem_take] at ei
        have := (List.getElem_inj (ord_nd es) (i := i) (j := j) (h₀ := by omega) (h₁ := hjl)).mp (ei.trans hpe.symm)
        omega
      have hwq : ∀ q ∈ (ordE es).take j, wE es q ≤ wE es p := fun q z => by
        obtain ⟨i, hi, ei⟩ := List.getElem_of_mem z
        rw [List.length_take] at hi
        rw [List.getElem_take] at ei
        have := List.pairwise_iff_getElem.mp (ord_asc es) i j (by omega) hjl (by omega)
        rw [ei, hpe] at this
        exact this
      have step := net_step ok hN hp hnot hwq
      have hKr : ∀ q ∈ K, 0 ≤ q ∧ q < (es.length : Int) := fun q hq => ord_mem.mp (List.mem_of_mem_take (hN.sub q hq))
      have hKl : K.length ≤ many := pairs_len hN.few
      have b := pr_in ok hp
      obtain ⟨L, hL, ej⟩ := joined_lq ok b.1 hKr
      have ni : oNotIn (.int (prOf es p).2) (.tuple (L.map .int)) = M.ret (.bool (!decide ((prOf es p).2 ∈ L))) := notin_ints_t _ _
      have ew := edge_w hp
      have tl : (K.map PyData.int).length < lineMax := line_lt (by rw [List.length_map]; omega)
      rw [e]
      have body : ∀ (K' : List Int), (if (prOf es p).2 ∈ L then K' = K else K' = K ++ [p]) → NetOk many es ((ordE es).take j ++ [p]) K' → ∃ r, (M.bnd (gT [gN 3, gN 4] (encO es p) [some (.dat (encCb many es)), some (.own (K.map .int)), some (.dat (.list ((ordE es).map (encO es)))), x3, x4, x5, x6]) (sSeq (sAsg (gT [(gN 5), (gN 6), (gN 3)]) (dBin oIx (dBin oIx (dVar 0) (dC (.int 1))) (dVar 4)))
  (sIf (tOf (dBin oNotIn (dVar 6) (dCall F_joined [(aD (dVar 0)), (aD (dVar 1)), (aD (dVar 5))]))) (sApp 1 (dVar 4)) sNil)) = M.ret (.next r)) ∧ ∃ (K : List Int) (x3 x4 x5 x6 : Option Slot), NetOk many es ((ordE es).take j ++ [p]) K ∧ r = [some (.dat (encCb many es)), some (.own (K.map .int)), some (.dat (.list ((ordE es).map (encO es)))), x3, x4, x5, x6] := fun K' hK' hN' => by
        refine ⟨[some (.dat (encCb many es)), some (.own (K'.map .int)), some (.dat (.list ((ordE es).map (encO es)))), some (.dat (.int (wE es p))), some (.dat (.int p)), some (.dat (.int (prOf es p).1)), some (.dat (.int (prOf es p).2))], ?_, K', _, _, _, _, hN', rfl⟩
        unfold encO
        generalize encCb many es = C at *
        generalize (PyData.list (List.map (fun p => PyData.tuple [.int (wE es p), .int p]) (ordE es))) = O at *
        by_cases hm : (prOf es p).2 ∈ L
        · rw [if_pos hm] at hK'
          subst hK'
          rw [decide_eq_true hm] at ni
          simp only [at_g2, at_gn, bnd_ret, set_0, set_s, at_seq, at_asg, hide_cons, hide1_d, hide1_o, hide_nil, at_bin, at_vs, at_v0, at_o0, at_c, i1, ew, at_g3, at_sif, at_tofk, at_call, at_argss, at_args0, at_ad, ej, ni, Bool.not_true, Bool.false_eq_true, if_false, at_nil]
        · rw [if_neg hm] at hK'
          subst hK'
          rw [decide_eq_false hm] at ni
          simp only [at_g2, at_gn, bnd_ret, set_0, set_s, at_seq, at_asg, hide_cons, hide1_d, hide1_o, hide_nil, at_bin, at_vs, at_v0, at_o0, at_c, i1, ew, at_g3, at_sif, at_tofk, at_call, at_argss, at_args0, at_ad, ej, ni, Bool.not_false, if_true]
          rw [at_sapp 1 _ _ (ds := K.map .int) rfl tl]
          simp only [hide_cons, hide1_d, hide1_o, at_vs, at_v0, bnd_ret, set_0, set_s, List.map_append, List.map_cons, List.map_nil]
      by_cases hm : (prOf es p).2 ∈ L
      · obtain ⟨r, e1, e2⟩ := body K (by rw [if_pos hm]) (step.1 ((hL.mem _).mp hm))
        exact ⟨r, .inl e1, e2⟩
      · obtain ⟨r, e1, e2⟩ := body (K ++ [p]) (by rw [if_neg hm]) (step.2 fun c => hm ((hL.mem _).mpr c))
        exact ⟨r, .inl e1, e2⟩)
  rw [List.take_length] at hK
  subst hr
  have hKl : K.length ≤ many := pairs_len hK.few
  have so : bSorted (.list (K.map .int)) = M.ret (.list ((srt K).map .int)) := sorted_ints K (by omega)
  refine ⟨srt K, net_fin hK, ?_⟩
  unfold F_least_net
  rw [fn_eq]
  simp only [List.map_cons, List.map_nil, slot_d, List.cons_append, List.nil_append, List.replicate]
  rw [at_seq, at_sown]
  simp only [at_lst, at_each0, bnd_ret, set_0, set_s]
  rw [at_seq, at_asg]
  simp only [hide_cons, hide1_d, hide1_o, hide1_n, hide_nil, at_un, comp, srtd, bnd_ret, at_gn, set_0, set_s]
  rw [at_seq, at_sfor]
  simp only [hide_cons, hide1_d, hide1_o, hide1_n, hide_nil, at_iseq, at_vs, at_v0, bnd_ret]
  rw [er]
  simp only [bnd_ret, at_sret, at_un, at_vs, at_o0, so, tuple_l]

/-! ### the paper -/
theorem prOf_get {es : List E3} {i : Nat} (h : i < es.length) : prOf es (i : Int) = prE es[i] := by
  unfold prOf prE
  rw [Int.toNat_natCast, List.getD_eq_getElem?_getD, List.getElem?_eq_getElem h, Option.getD_some]
theorem all_pairs (es : List E3) : es.map prE = (nat0 es.length).map (prOf es) := by
  unfold nat0
  rw [List.map_map]
  refine List.ext_getElem (by rw [List.length_map, List.length_map, List.length_range]) fun i h1 h2 => ?_
  rw [List.getElem_map, List.getElem_map, List.getElem_range]
  rw [List.length_map] at h1
  exact (prOf_get h1).symm
theorem net_conn {many : Nat} {es : List E3} {K : List Int} (h : NetF many es K) (x y : Int) : Conn (es.map prE) x y ↔ Conn (K.map (prOf es)) x y := by
  rw [all_pairs]
  constructor
  · exact conn_of fun e he => by
      obtain ⟨p, hp, rfl⟩ := List.mem_map.mp he
      refine conn_sub (fun g hg => ?_) (h.joins p (nat0_mem.mp hp))
      obtain ⟨j, hj, rfl⟩ := List.mem_map.mp hg
      exact List.mem_map.mpr ⟨j, (List.mem_filter.mp hj).1, rfl⟩
  · exact conn_sub fun e he => by
      obtain ⟨p, hp, rfl⟩ := List.mem_map.mp he
      exact List.mem_map.mpr ⟨p, nat0_mem.mpr (h.rng p hp), rfl⟩
theorem net_whole {many : Nat} (m1 : 1 ≤ many) {es : List E3} {K : List Int} (h : NetF many es K) : K.length + 1 = many ↔ All many (es.map prE) := by
  constructor
  · intro hl
    exact fun x y hx hy => (net_conn h x y).mpr (few_all h.few (by rw [List.length_map]; exact hl) x y hx hy)
  · intro ha
    have h1 := all_count (n := many) (F := K.map (prOf es)) fun x y hx hy => (net_conn h x y).mp (ha x y hx hy)
    have h2 := few_le m1 h.few
    rw [List.length_map] at h1 h2
    omega
theorem paper_net {many : Nat} {es : List E3} (ok : CabOk many es) {K : List Int} (hk : F_least_net [.d (encCb many es)] = M.ret (encT K)) (hl : K.length + 1 = many) : F_cable_paper [.d (encCb many es)] = M.ret (.tuple [.str "net", encT K]) := by
  have i0 : oIx (encCb many es) (.int 0) = M.ret (.int (many : Int)) := rfl
  have lk : bLen (encT K) = M.ret (.int (K.length : Int)) := by show M.ret _ = _; rw [List.length_map]
  have e : (K.length : Int) = (many : Int) - 1 := by omega
  refine Eq.trans fn_eq ?_
  generalize encCb many es = C at *
  generalize encT K = T at *
  simp only [at_seq, at_asg, at_emp, at_dis1, at_ow0, at_ows, at_calln, isLst_ret, at_c, at_bin, at_un, at_v0, at_o0, at_vs, at_tup, at_lst, at_each0, at_eachs, at_ad, at_p0, at_ps, at_args0, at_argss, at_call, at_tofk, at_and, at_or, at_not, at_dand, at_dor, at_dnot, at_if, at_chain, at_gn, at_g2, at_g3, at_g4, at_iseq, at_r1, at_r2, turn_def, at_sasgn, at_sforr, at_nil, at_seq, at_asg, at_sown, at_sret, at_sretn, at_sif, at_sdrop, at_sbrk, at_scont, at_sfor, hide_nil, hide_cons, hide1_d, hide1_n, hide1_p, hide1_o, set_0, set_s, bnd_ret, bnd_stuck, bnd_bnd, bnd_ite, slot_d, slot_p, wipeR, List.map_cons, List.map_nil, List.cons_append, List.nil_append, List.replicate, add_ints, sub_ints, le_ints, lt_ints, ge_ints, gt_ints, neg_ints, min2_ints, max2_ints, oEq_ints, oNe_ints, oEq_bools, oNe_bools, len_tup, len_lst, revL_l, oEq_strs, oNe_strs, tuple_l, tuple_t, list_l, list_t, at_sl, at_pn, at_ps', sl_tup', sl_lst', is_T, is_L, is_I, is_B, is_S, is_N, not_N, isT_n, isT_b, isT_i, isT_s, isT_t, isT_l, isT_d, isL_n, isL_b, isL_i, isL_s, isL_t, isL_l, isL_d, isI_n, isI_b, isI_i, isI_s, isI_t, isI_l, isI_d, isB_n, isB_b, isB_i, isB_s, isB_t, isB_l, isB_d, isS_n, isS_b, isS_i, isS_s, isS_t, isS_l, isS_d, isN_n, isN_b, isN_i, isN_s, isN_t, isN_l, isN_d, decide_eq_true_eq, Bool.not_eq_true', decide_eq_false_iff_not, Bool.false_eq_true, if_true, if_false, decide_true, decide_false, Bool.not_true, Bool.not_false, not_true_eq_false, not_false_eq_true, ret_ite_o, Int.reduceLT, Int.reduceLE, Int.reduceEq, Int.reduceAdd, Int.reduceSub, Int.reduceNeg, reduceCtorEq, hk, lk, i0, e]
theorem paper_apart {many : Nat} {es : List E3} (ok : CabOk many es) {K : List Int} (hN : NetF many es K) (hk : F_least_net [.d (encCb many es)] = M.ret (encT K)) (hl : ¬ K.length + 1 = many) : ∃ L, Reach many (K.map (prOf es)) 0 L ∧ F_cable_paper [.d (encCb many es)] = M.ret (.tuple [.str "apart", encT L]) := by
  have m1 := ok.m1
  obtain ⟨L, hL, ej⟩ := joined_tq ok (s0 := 0) (by omega) hN.rng
  refine ⟨L, hL, ?_⟩
  have i0 : oIx (encCb many es) (.int 0) = M.ret (.int (many : Int)) := rfl
  have lk : bLen (encT K) = M.ret (.int (K.length : Int)) := by show M.ret _ = _; rw [List.length_map]
  have e : ¬ (K.length : Int) = (many : Int) - 1 := by omega
  refine Eq.trans fn_eq ?_
  generalize encCb many es = C at *
  have ej' : F_joined [.d C, .d (encT K), .d (.int 0)] = M.ret (encT L) := ej
  generalize encT K = T at *
  simp only [at_seq, at_asg, at_emp, at_dis1, at_ow0, at_ows, at_calln, isLst_ret, at_c, at_bin, at_un, at_v0, at_o0, at_vs, at_tup, at_lst, at_each0, at_eachs, at_ad, at_p0, at_ps, at_args0, at_argss, at_call, at_tofk, at_and, at_or, at_not, at_dand, at_dor, at_dnot, at_if, at_chain, at_gn, at_g2, at_g3, at_g4, at_iseq, at_r1, at_r2, turn_def, at_sasgn, at_sforr, at_nil, at_seq, at_asg, at_sown, at_sret, at_sretn, at_sif, at_sdrop, at_sbrk, at_scont, at_sfor, hide_nil, hide_cons, hide1_d, hide1_n, hide1_p, hide1_o, set_0, set_s, bnd_ret, bnd_stuck, bnd_bnd, bnd_ite, slot_d, slot_p, wipeR, List.map_cons, List.map_nil, List.cons_append, List.nil_append, List.replicate, add_ints, sub_ints, le_ints, lt_ints, ge_ints, gt_ints, neg_ints, min2_ints, max2_ints, oEq_ints, oNe_ints, oEq_bools, oNe_bools, len_tup, len_lst, revL_l, oEq_strs, oNe_strs, tuple_l, tuple_t, list_l, list_t, at_sl, at_pn, at_ps', sl_tup', sl_lst', is_T, is_L, is_I, is_B, is_S, is_N, not_N, isT_n, isT_b, isT_i, isT_s, isT_t, isT_l, isT_d, isL_n, isL_b, isL_i, isL_s, isL_t, isL_l, isL_d, isI_n, isI_b, isI_i, isI_s, isI_t, isI_l, isI_d, isB_n, isB_b, isB_i, isB_s, isB_t, isB_l, isB_d, isS_n, isS_b, isS_i, isS_s, isS_t, isS_l, isS_d, isN_n, isN_b, isN_i, isN_s, isN_t, isN_l, isN_d, decide_eq_true_eq, Bool.not_eq_true', decide_eq_false_iff_not, Bool.false_eq_true, if_true, if_false, decide_true, decide_false, Bool.not_true, Bool.not_false, not_true_eq_false, not_false_eq_true, ret_ite_o, Int.reduceLT, Int.reduceLE, Int.reduceEq, Int.reduceAdd, Int.reduceSub, Int.reduceNeg, reduceCtorEq, hk, lk, i0, e, ej']
theorem cost_ok {many : Nat} {es : List E3} {K : List Int} (hr : ∀ p ∈ K, 0 ≤ p ∧ p < (es.length : Int)) (hl : K.length ≤ 100) : F_cost_of_net [.d (encCb many es), .d (encT K)] = M.ret (.int (K.map (wE es)).sum) := by
  have i1 : oIx (encCb many es) (.int 1) = M.ret (.tuple (es.map enc3)) := rfl
  refine Eq.trans fn_eq ?_
  simp only [at_sret, at_un, List.map_cons, List.map_nil, slot_d, List.cons_append, List.nil_append, List.replicate]
  rw [comp_map K PyData.int (fun p => .int (wE es p)) (by simp only [at_emp, at_dis1, at_ow0, at_ows, at_calln, isLst_ret, at_c, at_bin, at_un, at_v0, at_o0, at_vs, at_tup, at_lst, at_each0, at_eachs, at_ad, at_p0, at_ps, at_args0, at_argss, at_call, at_tofk, at_and, at_or, at_not, at_dand, at_dor, at_dnot, at_if, at_chain, at_gn, at_g2, at_g3, at_g4, at_iseq, at_r1, at_r2, turn_def, at_sasgn, at_sforr, at_nil, at_seq, at_asg, at_sown, at_sret, at_sretn, at_sif, at_sdrop, at_sbrk, at_scont, at_sfor, hide_nil, hide_cons, hide1_d, hide1_n, hide1_p, hide1_o, set_0, set_s, bnd_ret, bnd_stuck, bnd_bnd, bnd_ite, slot_d, slot_p, wipeR, List.map_cons, List.map_nil, List.cons_append, List.nil_append, List.replicate, add_ints, sub_ints, le_ints, lt_ints, ge_ints, gt_ints, neg_ints, min2_ints, max2_ints, oEq_ints, oNe_ints, oEq_bools, oNe_bools, len_tup, len_lst, revL_l, oEq_strs, oNe_strs, tuple_l, tuple_t, list_l, list_t, at_sl, at_pn, at_ps', sl_tup', sl_lst', is_T, is_L, is_I, is_B, is_S, is_N, not_N, isT_n, isT_b, isT_i, isT_s, isT_t, isT_l, isT_d, isL_n, isL_b, isL_i, isL_s, isL_t, isL_l, isL_d, isI_n, isI_b, isI_i, isI_s, isI_t, isI_l, isI_d, isB_n, isB_b, isB_i, isB_s, isB_t, isB_l, isB_d, isS_n, isS_b, isS_i, isS_s, isS_t, isS_l, isS_d, isN_n, isN_b, isN_i, isN_s, isN_t, isN_l, isN_d, decide_eq_true_eq, Bool.not_eq_true', decide_eq_false_iff_not, Bool.false_eq_true, if_true, if_false, decide_true, decide_false, Bool.not_true, Bool.not_false, not_true_eq_false, not_false_eq_true, ret_ite_o, Int.reduceLT, Int.reduceLE, Int.reduceEq, Int.reduceAdd, Int.reduceSub, Int.reduceNeg, reduceCtorEq]) (small20 (by omega)) (fun p hp => by
    have ew := edge_w (hr p hp)
    have i2 : oIx (.tuple [.int (prOf es p).1, .int (prOf es p).2, .int (wE es p)]) (.int 2) = M.ret (.int (wE es p)) := oIx_t (i := 2) rfl
    generalize encCb many es = C at *
    simp only [at_gn, wipeR, set_0, set_s, bnd_ret, at_bin, at_vs, at_v0, at_c, i1, ew, i2])]
  have e : (K.map fun p => PyData.int (wE es p)) = (K.map (wE es)).map .int := by rw [List.map_map]; rfl
  rw [e]
  simp only [at_emp, at_dis1, at_ow0, at_ows, at_calln, isLst_ret, at_c, at_bin, at_un, at_v0, at_o0, at_vs, at_tup, at_lst, at_each0, at_eachs, at_ad, at_p0, at_ps, at_args0, at_argss, at_call, at_tofk, at_and, at_or, at_not, at_dand, at_dor, at_dnot, at_if, at_chain, at_gn, at_g2, at_g3, at_g4, at_iseq, at_r1, at_r2, turn_def, at_sasgn, at_sforr, at_nil, at_seq, at_asg, at_sown, at_sret, at_sretn, at_sif, at_sdrop, at_sbrk, at_scont, at_sfor, hide_nil, hide_cons, hide1_d, hide1_n, hide1_p, hide1_o, set_0, set_s, bnd_ret, bnd_stuck, bnd_bnd, bnd_ite, slot_d, slot_p, wipeR, List.map_cons, List.map_nil, List.cons_append, List.nil_append, List.replicate, add_ints, sub_ints, le_ints, lt_ints, ge_ints, gt_ints, neg_ints, min2_ints, max2_ints, oEq_ints, oNe_ints, oEq_bools, oNe_bools, len_tup, len_lst, revL_l, oEq_strs, oNe_strs, tuple_l, tuple_t, list_l, list_t, at_sl, at_pn, at_ps', sl_tup', sl_lst', is_T, is_L, is_I, is_B, is_S, is_N, not_N, isT_n, isT_b, isT_i, isT_s, isT_t, isT_l, isT_d, isL_n, isL_b, isL_i, isL_s, isL_t, isL_l, isL_d, isI_n, isI_b, isI_i, isI_s, isI_t, isI_l, isI_d, isB_n, isB_b, isB_i, isB_s, isB_t, isB_l, isB_d, isS_n, isS_b, isS_i, isS_s, isS_t, isS_l, isS_d, isN_n, isN_b, isN_i, isN_s, isN_t, isN_l, isN_d, decide_eq_true_eq, Bool.not_eq_true', decide_eq_false_iff_not, Bool.false_eq_true, if_true, if_false, decide_true, decide_false, Bool.not_true, Bool.not_false, not_true_eq_false, not_false_eq_true, ret_ite_o, Int.reduceLT, Int.reduceLE, Int.reduceEq, Int.reduceAdd, Int.reduceSub, Int.reduceNeg, reduceCtorEq, sum_ints]
theorem least_net_cost {many : Nat} {es : List E3} (ok : CabOk many es) {K : List Int} (hN : NetF many es K) (hl : K.length + 1 = many) (hp : F_cable_paper [.d (encCb many es)] = M.ret (.tuple [.str "net", encT K])) : F_least_cables [.d (encCb many es)] = M.ret (.int (K.map (wE es)).sum) := by
  have m8 := ok.m8
  have c := cost_ok (many := many) hN.rng (by omega)
  have i0 : oIx (.tuple [.str "net", encT K]) (.int 0) = M.ret (.str "net") := rfl
  have i1 : oIx (.tuple [.str "net", encT K]) (.int 1) = M.ret (encT K) := rfl
  have ne : oEq (.str "net") (.str "net") = M.ret (.bool true) := by rw [oEq_strs, decide_eq_true rfl]
  refine Eq.trans fn_eq ?_
  generalize encCb many es = C at *
  generalize encT K = T at *
  simp only [at_seq, at_asg, at_emp, at_dis1, at_ow0, at_ows, at_calln, isLst_ret, at_c, at_bin, at_un, at_v0, at_o0, at_vs, at_tup, at_lst, at_each0, at_eachs, at_ad, at_p0, at_ps, at_args0, at_argss, at_call, at_tofk, at_and, at_or, at_not, at_dand, at_dor, at_dnot, at_if, at_chain, at_gn, at_g2, at_g3, at_g4, at_iseq, at_r1, at_r2, turn_def, at_sasgn, at_sforr, at_nil, at_seq, at_asg, at_sown, at_sret, at_sretn, at_sif, at_sdrop, at_sbrk, at_scont, at_sfor, hide_nil, hide_cons, hide1_d, hide1_n, hide1_p, hide1_o, set_0, set_s, bnd_ret, bnd_stuck, bnd_bnd, bnd_ite, slot_d, slot_p, wipeR, List.map_cons, List.map_nil, List.cons_append, List.nil_append, List.replicate, add_ints, sub_ints, le_ints, lt_ints, ge_ints, gt_ints, neg_ints, min2_ints, max2_ints, oEq_ints, oNe_ints, oEq_bools, oNe_bools, len_tup, len_lst, revL_l, oEq_strs, oNe_strs, tuple_l, tuple_t, list_l, list_t, at_sl, at_pn, at_ps', sl_tup', sl_lst', is_T, is_L, is_I, is_B, is_S, is_N, not_N, isT_n, isT_b, isT_i, isT_s, isT_t, isT_l, isT_d, isL_n, isL_b, isL_i, isL_s, isL_t, isL_l, isL_d, isI_n, isI_b, isI_i, isI_s, isI_t, isI_l, isI_d, isB_n, isB_b, isB_i, isB_s, isB_t, isB_l, isB_d, isS_n, isS_b, isS_i, isS_s, isS_t, isS_l, isS_d, isN_n, isN_b, isN_i, isN_s, isN_t, isN_l, isN_d, decide_eq_true_eq, Bool.not_eq_true', decide_eq_false_iff_not, Bool.false_eq_true, if_true, if_false, decide_true, decide_false, Bool.not_true, Bool.not_false, not_true_eq_false, not_false_eq_true, ret_ite_o, Int.reduceLT, Int.reduceLE, Int.reduceEq, Int.reduceAdd, Int.reduceSub, Int.reduceNeg, reduceCtorEq, hp, i0, i1, ne, c]
theorem least_apart_cost {many : Nat} {es : List E3} {L : List Int} (hp : F_cable_paper [.d (encCb many es)] = M.ret (.tuple [.str "apart", encT L])) : F_least_cables [.d (encCb many es)] = M.ret .none := by
  have i0 : oIx (.tuple [.str "apart", encT L]) (.int 0) = M.ret (.str "apart") := rfl
  have ne : oEq (.str "apart") (.str "net") = M.ret (.bool false) := by rw [oEq_strs, decide_eq_false (by decide +kernel)]
  refine Eq.trans fn_eq ?_
  generalize encCb many es = C at *
  generalize encT L = T at *
  simp only [at_seq, at_asg, at_emp, at_dis1, at_ow0, at_ows, at_calln, isLst_ret, at_c, at_bin, at_un, at_v0, at_o0, at_vs, at_tup, at_lst, at_each0, at_eachs, at_ad, at_p0, at_ps, at_args0, at_argss, at_call, at_tofk, at_and, at_or, at_not, at_dand, at_dor, at_dnot, at_if, at_chain, at_gn, at_g2, at_g3, at_g4, at_iseq, at_r1, at_r2, turn_def, at_sasgn, at_sforr, at_nil, at_seq, at_asg, at_sown, at_sret, at_sretn, at_sif, at_sdrop, at_sbrk, at_scont, at_sfor, hide_nil, hide_cons, hide1_d, hide1_n, hide1_p, hide1_o, set_0, set_s, bnd_ret, bnd_stuck, bnd_bnd, bnd_ite, slot_d, slot_p, wipeR, List.map_cons, List.map_nil, List.cons_append, List.nil_append, List.replicate, add_ints, sub_ints, le_ints, lt_ints, ge_ints, gt_ints, neg_ints, min2_ints, max2_ints, oEq_ints, oNe_ints, oEq_bools, oNe_bools, len_tup, len_lst, revL_l, oEq_strs, oNe_strs, tuple_l, tuple_t, list_l, list_t, at_sl, at_pn, at_ps', sl_tup', sl_lst', is_T, is_L, is_I, is_B, is_S, is_N, not_N, isT_n, isT_b, isT_i, isT_s, isT_t, isT_l, isT_d, isL_n, isL_b, isL_i, isL_s, isL_t, isL_l, isL_d, isI_n, isI_b, isI_i, isI_s, isI_t, isI_l, isI_d, isB_n, isB_b, isB_i, isB_s, isB_t, isB_l, isB_d, isS_n, isS_b, isS_i, isS_s, isS_t, isS_l, isS_d, isN_n, isN_b, isN_i, isN_s, isN_t, isN_l, isN_d, decide_eq_true_eq, Bool.not_eq_true', decide_eq_false_iff_not, Bool.false_eq_true, if_true, if_false, decide_true, decide_false, Bool.not_true, Bool.not_false, not_true_eq_false, not_false_eq_true, ret_ite_o, Int.reduceLT, Int.reduceLE, Int.reduceEq, Int.reduceAdd, Int.reduceSub, Int.reduceNeg, reduceCtorEq, hp, i0, ne]
/-! nets judged by the law -/
theorem rowAny_mk {lo hi : Int} {l : List Int} (h : ∀ v ∈ l, lo ≤ v ∧ v ≤ hi) : rowAny lo hi (encT l) = true := by
  show (l.map PyData.int).all (frm lo hi) = true
  rw [List.all_map, List.all_eq_true]
  intro v hv
  have := h v hv
  show (decide (lo ≤ v) && decide (v ≤ hi)) = true
  rw [decide_eq_true this.1, decide_eq_true this.2]
  rfl
theorem sz_row {l : List Int} (h : l.length ≤ 2000) : Sz (encT l) := by
  have e : ∀ l : List Int, PyData.bulkAll (l.map PyData.int) = l.length := fun l => by
    induction l with
    | nil => rfl
    | cons a l ih => rw [List.map_cons, PyData.bulkAll, ih, PyData.bulk, List.length_cons]; omega
  show PyData.bulk (.tuple (l.map .int)) ≤ 2 ^ 18
  rw [bulk_t, e]
  exact Nat.le_trans h (by decide)
theorem up_asc {l : List Int} (h : l.Pairwise (· < ·)) : upD (l.map .int) = true := by
  refine upD_iff.mpr fun k a b ha hb => ?_
  rw [List.getElem?_map] at ha hb
  obtain ⟨x, hx, rfl⟩ := Option.map_eq_some_iff.mp ha
  obtain ⟨y, hy, rfl⟩ := Option.map_eq_some_iff.mp hb
  obtain ⟨h1, e1⟩ := List.getElem?_eq_some_iff.mp hx
  obtain ⟨h2, e2⟩ := List.getElem?_eq_some_iff.mp hy
  have := List.pairwise_iff_getElem.mp h k (k + 1) h1 h2 (by omega)
  show decide (x < y) = true
  rw [← e1, ← e2]
  exact decide_eq_true this
def eAt (es : List E3) (p : Int) : E3 := es.getD p.toNat (0, 0, 0)
theorem eAt_pr (es : List E3) (ps : List Int) : (ps.map (eAt es)).map prE = ps.map (prOf es) := by rw [List.map_map]; rfl
theorem edge_at {es : List E3} {p : Int} (h : 0 ≤ p ∧ p < es.length) : oIx (.tuple (es.map enc3)) (.int p) = M.ret (enc3 (eAt es p)) := edge_w h
/-! ### the law's judgement of the paper -/
theorem in_t (n : Int) (ns : List Int) : oIn (.int n) (encT ns) = M.ret (.bool (decide (n ∈ ns))) := in_ints_t n ns
theorem notin_t (n : Int) (ns : List Int) : oNotIn (.int n) (encT ns) = M.ret (.bool (!decide (n ∈ ns))) := notin_ints_t n ns
/-! ### drawn cables, few for few machines -/
def triN : Nat → Nat
  | 0 => 0
  | n + 1 => triN n + n
theorem tri_mono : ∀ {a b : Nat}, a ≤ b → triN a ≤ triN b
  | a, b, h => by
    induction b with
    | zero => rw [Nat.le_zero.mp h]; exact Nat.le_refl _
    | succ b ih =>
      by_cases e : a = b + 1
      · rw [e]; exact Nat.le_refl _
      · have := ih (by omega)
        show triN a ≤ triN b + b
        omega
theorem tri_le {n : Nat} (h : n ≤ 8) : triN n ≤ 28 := tri_mono h
theorem cables_top {most : Int} (hm : 1 ≤ most ∧ most ≤ 8) : Does (F__law_cables [.pool, .d (.int most)]) fun d => ∃ many es, d = encCb many es ∧ CabOk many es ∧ es.length ≤ triN many := by
  have e18 : (2 : Nat) ^ 18 = 262144 := by decide +kernel
  have e20 : (2 : Nat) ^ 20 = 1048576 := by decide +kernel
  refine does_fn rfl ?_
  show Does (_ : M Out) _
  simp only [List.map_cons, List.map_nil, slot_p, slot_d, List.cons_append, List.nil_append, List.replicate]
  refine seq_asg (P := fun d => ∃ n : Nat, d = .int (n : Int) ∧ 1 ≤ n ∧ n ≤ 8) ?_ ?_
  · simp only [at_emp, at_dis1, at_ow0, at_ows, at_calln, isLst_ret, at_c, at_bin, at_un, at_v0, at_o0, at_vs, at_tup, at_lst, at_each0, at_eachs, at_ad, at_p0, at_ps, at_args0, at_argss, at_call, at_tofk, at_and, at_or, at_not, at_dand, at_dor, at_dnot, at_if, at_chain, at_gn, at_g2, at_g3, at_g4, at_iseq, at_r1, at_r2, turn_def, at_sasgn, at_sforr, at_nil, at_seq, at_asg, at_sown, at_sret, at_sretn, at_sif, at_sdrop, at_sbrk, at_scont, at_sfor, hide_nil, hide_cons, hide1_d, hide1_n, hide1_p, hide1_o, set_0, set_s, bnd_ret, bnd_stuck, bnd_bnd, bnd_ite, slot_d, slot_p, wipeR, List.map_cons, List.map_nil, List.cons_append, List.nil_append, List.replicate, add_ints, sub_ints, le_ints, lt_ints, ge_ints, gt_ints, neg_ints, min2_ints, max2_ints, oEq_ints, oNe_ints, oEq_bools, oNe_bools, len_tup, len_lst, revL_l, oEq_strs, oNe_strs, tuple_l, tuple_t, list_l, list_t, at_sl, at_pn, at_ps', sl_tup', sl_lst', is_T, is_L, is_I, is_B, is_S, is_N, not_N, isT_n, isT_b, isT_i, isT_s, isT_t, isT_l, isT_d, isL_n, isL_b, isL_i, isL_s, isL_t, isL_l, isL_d, isI_n, isI_b, isI_i, isI_s, isI_t, isI_l, isI_d, isB_n, isB_b, isB_i, isB_s, isB_t, isB_l, isB_d, isS_n, isS_b, isS_i, isS_s, isS_t, isS_l, isS_d, isN_n, isN_b, isN_i, isN_s, isN_t, isN_l, isN_d, decide_eq_true_eq, Bool.not_eq_true', decide_eq_false_iff_not, Bool.false_eq_true, if_true, if_false, decide_true, decide_false, Bool.not_true, Bool.not_false, not_true_eq_false, not_false_eq_true, ret_ite_o, Int.reduceLT, Int.reduceLE, Int.reduceEq, Int.reduceAdd, Int.reduceSub, Int.reduceNeg, reduceCtorEq]
    refine does_bnd (does_draw' (by omega) (by omega)) ?_
    rintro _ ⟨v, rfl, v0, v6⟩
    rw [add_ints]
    exact does_ret ⟨(1 + v).toNat, by rw [Int.toNat_of_nonneg (by omega)], by omega, by omega⟩
  rintro _ ⟨many, rfl, m1, m8⟩
  have tb : triN many ≤ 28 := tri_le m8
  refine seq_own (ds := []) (by simp only [at_emp, at_dis1, at_ow0, at_ows, at_calln, isLst_ret, at_c, at_bin, at_un, at_v0, at_o0, at_vs, at_tup, at_lst, at_each0, at_eachs, at_ad, at_p0, at_ps, at_args0, at_argss, at_call, at_tofk, at_and, at_or, at_not, at_dand, at_dor, at_dnot, at_if, at_chain, at_gn, at_g2, at_g3, at_g4, at_iseq, at_r1, at_r2, turn_def, at_sasgn, at_sforr, at_nil, at_seq, at_asg, at_sown, at_sret, at_sretn, at_sif, at_sdrop, at_sbrk, at_scont, at_sfor, hide_nil, hide_cons, hide1_d, hide1_n, hide1_p, hide1_o, set_0, set_s, bnd_ret, bnd_stuck, bnd_bnd, bnd_ite, slot_d, slot_p, wipeR, List.map_cons, List.map_nil, List.cons_append, List.nil_append, List.replicate, add_ints, sub_ints, le_ints, lt_ints, ge_ints, gt_ints, neg_ints, min2_ints, max2_ints, oEq_ints, oNe_ints, oEq_bools, oNe_bools, len_tup, len_lst, revL_l, oEq_strs, oNe_strs, tuple_l, tuple_t, list_l, list_t, at_sl, at_pn, at_ps', sl_tup', sl_lst', is_T, is_L, is_I, is_B, is_S, is_N, not_N, isT_n, isT_b, isT_i, isT_s, isT_t, isT_l, isT_d, isL_n, isL_b, isL_i, isL_s, isL_t, isL_l, isL_d, isI_n, isI_b, isI_i, isI_s, isI_t, isI_l, isI_d, isB_n, isB_b, isB_i, isB_s, isB_t, isB_l, isB_d, isS_n, isS_b, isS_i, isS_s, isS_t, isS_l, isS_d, isN_n, isN_b, isN_i, isN_s, isN_t, isN_l, isN_d, decide_eq_true_eq, Bool.not_eq_true', decide_eq_false_iff_not, Bool.false_eq_true, if_true, if_false, decide_true, decide_false, Bool.not_true, Bool.not_false, not_true_eq_false, not_false_eq_true, ret_ite_o, Int.reduceLT, Int.reduceLE, Int.reduceEq, Int.reduceAdd, Int.reduceSub, Int.reduceNeg, reduceCtorEq]) ?_
  refine seq_asg (P := fun d => ∃ i : Int, d = .int i ∧ 1 ≤ i ∧ i ≤ 3) ?_ ?_
  · simp only [at_emp, at_dis1, at_ow0, at_ows, at_calln, isLst_ret, at_c, at_bin, at_un, at_v0, at_o0, at_vs, at_tup, at_lst, at_each0, at_eachs, at_ad, at_p0, at_ps, at_args0, at_argss, at_call, at_tofk, at_and, at_or, at_not, at_dand, at_dor, at_dnot, at_if, at_chain, at_gn, at_g2, at_g3, at_g4, at_iseq, at_r1, at_r2, turn_def, at_sasgn, at_sforr, at_nil, at_seq, at_asg, at_sown, at_sret, at_sretn, at_sif, at_sdrop, at_sbrk, at_scont, at_sfor, hide_nil, hide_cons, hide1_d, hide1_n, hide1_p, hide1_o, set_0, set_s, bnd_ret, bnd_stuck, bnd_bnd, bnd_ite, slot_d, slot_p, wipeR, List.map_cons, List.map_nil, List.cons_append, List.nil_append, List.replicate, add_ints, sub_ints, le_ints, lt_ints, ge_ints, gt_ints, neg_ints, min2_ints, max2_ints, oEq_ints, oNe_ints, oEq_bools, oNe_bools, len_tup, len_lst, revL_l, oEq_strs, oNe_strs, tuple_l, tuple_t, list_l, list_t, at_sl, at_pn, at_ps', sl_tup', sl_lst', is_T, is_L, is_I, is_B, is_S, is_N, not_N, isT_n, isT_b, isT_i, isT_s, isT_t, isT_l, isT_d, isL_n, isL_b, isL_i, isL_s, isL_t, isL_l, isL_d, isI_n, isI_b, isI_i, isI_s, isI_t, isI_l, isI_d, isB_n, isB_b, isB_i, isB_s, isB_t, isB_l, isB_d, isS_n, isS_b, isS_i, isS_s, isS_t, isS_l, isS_d, isN_n, isN_b, isN_i, isN_s, isN_t, isN_l, isN_d, decide_eq_true_eq, Bool.not_eq_true', decide_eq_false_iff_not, Bool.false_eq_true, if_true, if_false, decide_true, decide_false, Bool.not_true, Bool.not_false, not_true_eq_false, not_false_eq_true, ret_ite_o, Int.reduceLT, Int.reduceLE, Int.reduceEq, Int.reduceAdd, Int.reduceSub, Int.reduceNeg, reduceCtorEq]
    refine does_bnd (does_draw' (by omega) (by omega)) ?_
    rintro _ ⟨v, rfl, v0, v4⟩
    obtain ⟨x, hx, i, rfl, hi⟩ := pick_of (xs := [.int 1, .int 2, .int 3]) (n := v) (P := fun d => ∃ i : Int, d = .int i ∧ 1 ≤ i ∧ i ≤ 3) v0 (by simp only [List.length_cons, List.length_nil]; omega) (fun x hx => by
      simp only [List.mem_cons, List.not_mem_nil, or_false] at hx
      rcases hx with rfl | rfl | rfl <;> exact ⟨_, rfl, by omega, by omega⟩)
    rw [hx]
    exact does_ret ⟨i, rfl, hi⟩
  rintro _ ⟨dense, rfl, hd⟩
  refine seq_asg (P := fun d => ∃ i : Int, d = .int i ∧ 1 ≤ i ∧ i ≤ 100) ?_ ?_
  · simp only [at_emp, at_dis1, at_ow0, at_ows, at_calln, isLst_ret, at_c, at_bin, at_un, at_v0, at_o0, at_vs, at_tup, at_lst, at_each0, at_eachs, at_ad, at_p0, at_ps, at_args0, at_argss, at_call, at_tofk, at_and, at_or, at_not, at_dand, at_dor, at_dnot, at_if, at_chain, at_gn, at_g2, at_g3, at_g4, at_iseq, at_r1, at_r2, turn_def, at_sasgn, at_sforr, at_nil, at_seq, at_asg, at_sown, at_sret, at_sretn, at_sif, at_sdrop, at_sbrk, at_scont, at_sfor, hide_nil, hide_cons, hide1_d, hide1_n, hide1_p, hide1_o, set_0, set_s, bnd_ret, bnd_stuck, bnd_bnd, bnd_ite, slot_d, slot_p, wipeR, List.map_cons, List.map_nil, List.cons_append, List.nil_append, List.replicate, add_ints, sub_ints, le_ints, lt_ints, ge_ints, gt_ints, neg_ints, min2_ints, max2_ints, oEq_ints, oNe_ints, oEq_bools, oNe_bools, len_tup, len_lst, revL_l, oEq_strs, oNe_strs, tuple_l, tuple_t, list_l, list_t, at_sl, at_pn, at_ps', sl_tup', sl_lst', is_T, is_L, is_I, is_B, is_S, is_N, not_N, isT_n, isT_b, isT_i, isT_s, isT_t, isT_l, isT_d, isL_n, isL_b, isL_i, isL_s, isL_t, isL_l, isL_d, isI_n, isI_b, isI_i, isI_s, isI_t, isI_l, isI_d, isB_n, isB_b, isB_i, isB_s, isB_t, isB_l, isB_d, isS_n, isS_b, isS_i, isS_s, isS_t, isS_l, isS_d, isN_n, isN_b, isN_i, isN_s, isN_t, isN_l, isN_d, decide_eq_true_eq, Bool.not_eq_true', decide_eq_false_iff_not, Bool.false_eq_true, if_true, if_false, decide_true, decide_false, Bool.not_true, Bool.not_false, not_true_eq_false, not_false_eq_true, ret_ite_o, Int.reduceLT, Int.reduceLE, Int.reduceEq, Int.reduceAdd, Int.reduceSub, Int.reduceNeg, reduceCtorEq]
    refine does_bnd (does_draw' (by omega) (by omega)) ?_
    rintro _ ⟨v, rfl, v0, v4⟩
    obtain ⟨x, hx, i, rfl, hi⟩ := pick_of (xs := [.int 2, .int 6, .int 100]) (n := v) (P := fun d => ∃ i : Int, d = .int i ∧ 1 ≤ i ∧ i ≤ 100) v0 (by simp only [List.length_cons, List.length_nil]; omega) (fun x hx => by
      simp only [List.mem_cons, List.not_mem_nil, or_false] at hx
      rcases hx with rfl | rfl | rfl <;> exact ⟨_, rfl, by omega, by omega⟩)
    rw [hx]
    exact does_ret ⟨i, rfl, hi⟩
  rintro _ ⟨far, rfl, hf⟩
  simp only [set_0, set_s]
  have rm : rng1 (.int (many : Int)) = M.ret (intsFrom 0 many) := by rw [rng1_of (by omega) (by omega)]; rfl
  let Rw : List E3 → Prop := fun es => ∀ e ∈ es, (0 ≤ e.1 ∧ e.1 < e.2.1) ∧ e.2.1 < (many : Int) ∧ 0 ≤ e.2.2 ∧ e.2.2 ≤ 99
  refine seq_next (P := fun ρ => ∃ es x6 x7, es.length ≤ triN many ∧ Rw es ∧ ρ = [some .pool, some (.dat (.int most)), some (.dat (.int (many : Int))), some (.own (es.map enc3)), some (.dat (.int dense)), some (.dat (.int far)), x6, x7]) ?_ ?_
  · rw [at_sfor]
    simp only [at_r1, at_v0, at_vs, hide_cons, hide1_p, hide1_d, hide1_o, hide_nil, bnd_ret, rm]
    refine for_rng (n := many) (fun j ρ => ∃ es x6 x7, es.length + triN (many - j) ≤ triN many ∧ Rw es ∧ ρ = [some .pool, some (.dat (.int most)), some (.dat (.int (many : Int))), some (.own (es.map enc3)), some (.dat (.int dense)), some (.dat (.int far)), x6, x7]) ⟨[], _, _, by simp, (fun _ h => nomatch h), rfl⟩ (fun j ρ hj hI => ?_) (fun ρ hI => by
      obtain ⟨es, x6, x7, h1, h2, rfl⟩ := hI
      exact ⟨_, rfl, es, x6, x7, by omega, h2, rfl⟩)
    obtain ⟨es, x6, x7, h1, h2, rfl⟩ := hI
    have ht : triN (many - j) = triN (many - (j + 1)) + (many - (j + 1)) := by
      rw [show many - j = (many - (j + 1)) + 1 by omega]
      rfl
    simp only [at_gn, bnd_ret, set_0, set_s]
    rw [at_sfor]
    have r2 : rng2 (.int (0 + (j : Int) + 1)) (.int (many : Int)) = M.ret (intsFrom (0 + (j : Int) + 1) (many - (j + 1))) := by
      rw [rng2_of (by omega) (by omega) (by omega) (by omega), show ((many : Int) - (0 + (j : Int) + 1)).toNat = many - (j + 1) from by omega]
    simp only [at_r2, at_bin, at_c, at_v0, at_vs, hide_cons, hide1_p, hide1_d, hide1_o, hide_nil, bnd_ret, add_ints, r2]
    refine (for_rng (n := many - (j + 1)) (fun i ρ => ∃ es x7, es.length + triN (many - (j + 1)) + (many - (j + 1)) ≤ triN many + i ∧ Rw es ∧ ρ = [some .pool, some (.dat (.int most)), some (.dat (.int (many : Int))), some (.own (es.map enc3)), some (.dat (.int dense)), some (.dat (.int far)), some (.dat (.int (0 + (j : Int)))), x7]) ⟨es, x7, by omega, h2, rfl⟩ (fun i ρ hi hI => ?_) (R := fun o => ∃ ρ', o = .next ρ' ∧ ∃ es x6 x7, es.length + triN (many - (j + 1)) ≤ triN many ∧ Rw es ∧ ρ' = [some .pool, some (.dat (.int most)), some (.dat (.int (many : Int))), some (.own (es.map enc3)), some (.dat (.int dense)), some (.dat (.int far)), x6, x7]) (fun ρ hI => by
      obtain ⟨es, x7, h1, h2, rfl⟩ := hI
      exact ⟨_, rfl, es, _, x7, by omega, h2, rfl⟩)).imp fun o ⟨ρ', e, h⟩ => by subst e; exact h
    obtain ⟨es, x7, h1, h2, rfl⟩ := hI
    simp only [at_gn, bnd_ret, set_0, set_s]
    rw [at_sif]
    simp only [at_tofk, at_bin, at_call, at_argss, at_args0, at_p0, at_ad, at_c, at_v0, at_vs, bnd_ret, bnd_bnd]
    refine does_bnd (does_draw' (by omega) (by omega)) ?_
    rintro _ ⟨v, rfl, v0, v2⟩
    by_cases hv : v = 0
    · simp only [oEq_ints, bnd_ret, hv, decide_true, if_true]
      rw [at_sapp 3 _ _ rfl (line_lt (by rw [List.length_map]; omega))]
      simp only [at_tup, at_eachs, at_each0, at_call, at_argss, at_args0, at_p0, at_ad, at_v0, at_vs, hide_cons, hide1_p, hide1_d, hide1_o, hide_nil, bnd_ret, bnd_bnd]
      refine does_bnd (does_draw' (by omega) (by omega)) ?_
      rintro _ ⟨w, rfl, w0, w2⟩
      simp only [bnd_ret, set_0, set_s]
      refine does_ret ⟨es ++ [(0 + (j : Int), 0 + (j : Int) + 1 + (i : Int), w)], _, by rw [List.length_append, List.length_singleton]; omega, fun e he => ?_, by rw [List.map_append]; rfl⟩
      rcases List.mem_append.mp he with he | he
      · exact h2 e he
      · rw [List.mem_singleton.mp he]
        dsimp only
        omega
    · simp only [oEq_ints, bnd_ret, decide_eq_false hv, Bool.false_eq_true, if_false, at_nil]
      exact does_ret ⟨es, _, by omega, h2, rfl⟩
  rintro _ ⟨es, x6, x7, h1, h2, rfl⟩
  simp only [at_sret, at_tup, at_eachs, at_each0, at_un, at_v0, at_vs, at_o0, bnd_ret, tuple_l]
  exact does_ret ⟨many, es, rfl, ⟨m1, m8, by omega, h2⟩, h1⟩

/-! ### all nets -/
theorem nat0_succ (m : Nat) : nat0 (m + 1) = nat0 m ++ [(m : Int)] := by unfold nat0; rw [List.range_succ, List.map_append]; rfl
theorem sub_succ (m : Nat) : subS (nat0 (m + 1)) = subS (nat0 m) ++ (subS (nat0 m)).map fun r => r ++ [(m : Int)] := by
  unfold subS
  rw [nat0_succ, List.foldl_append]
  rfl
theorem sub_in : ∀ (m : Nat) (r : List Int), r ∈ subS (nat0 m) → r.Pairwise (· < ·) ∧ ∀ x ∈ r, 0 ≤ x ∧ x < (m : Int)
  | 0, r, h => by
    have e : r = [] := by simpa [subS, nat0] using h
    rw [e]
    exact ⟨.nil, fun _ h => nomatch h⟩
  | m + 1, r, h => by
    rw [sub_succ] at h
    rcases List.mem_append.mp h with h | h
    · obtain ⟨h1, h2⟩ := sub_in m r h
      exact ⟨h1, fun x hx => by have := h2 x hx; omega⟩
    · obtain ⟨s, hs, rfl⟩ := List.mem_map.mp h
      obtain ⟨h1, h2⟩ := sub_in m s hs
      refine ⟨List.pairwise_append.mpr ⟨h1, List.pairwise_singleton _ _, fun a ha b hb => ?_⟩, fun x hx => ?_⟩
      · rw [List.mem_singleton.mp hb]
        have := h2 a ha
        omega
      · rcases List.mem_append.mp hx with hx | hx
        · have := h2 x hx
          omega
        · rw [List.mem_singleton.mp hx]
          omega
theorem in_sub : ∀ (m : Nat) (r : List Int), r.Pairwise (· < ·) → (∀ x ∈ r, 0 ≤ x ∧ x < (m : Int)) → r ∈ subS (nat0 m)
  | 0, r, _, h => by
    have e : r = [] := by
      cases r with
      | nil => rfl
      | cons x r => have := h x List.mem_cons_self; omega
    rw [e]
    exact List.mem_singleton.mpr rfl
  | m + 1, r, ha, h => by
    rw [sub_succ]
    by_cases hne : r = []
    · exact List.mem_append_left _ (in_sub m r ha fun x hx => by rw [hne] at hx; cases hx)
    · obtain ⟨s, v, e⟩ : ∃ s v, r = s ++ [v] := ⟨r.dropLast, r.getLast hne, (List.dropLast_concat_getLast hne).symm⟩
      subst e
      obtain ⟨p1, _, p3⟩ := List.pairwise_append.mp ha
      have hv := h v (List.mem_append_right _ (List.mem_singleton.mpr rfl))
      by_cases hvm : v = (m : Int)
      · refine List.mem_append_right _ (List.mem_map.mpr ⟨s, in_sub m s p1 fun x hx => ?_, by rw [hvm]⟩)
        have := p3 x hx v (List.mem_singleton.mpr rfl)
        have := h x (List.mem_append_left _ hx)
        omega
      · refine List.mem_append_left _ (in_sub m _ ha fun x hx => ?_)
        have h2 := h x hx
        rcases List.mem_append.mp hx with hx | hx
        · have := p3 x hx v (List.mem_singleton.mpr rfl)
          omega
        · rw [List.mem_singleton.mp hx]
          omega
theorem encT_inj {a b : List Int} (h : encT a = encT b) : a = b := by
  have h : a.map PyData.int = b.map PyData.int := by injection h
  have : ∀ {l m : List Int}, l.map PyData.int = m.map PyData.int → l = m := fun {l} => by
    induction l with
    | nil =>
      intro m h
      cases m with
      | nil => rfl
      | cons _ _ => cases h
    | cons x l ih =>
      intro m h
      cases m with
      | nil => cases h
      | cons y m =>
        rw [List.map_cons, List.map_cons] at h
        injection h with h1 h2
        injection h1 with h1
        rw [h1, ih h2]
  exact this h
theorem min_is {c : Int} : ∀ (l : List Int), c ∈ l → (∀ x ∈ l, c ≤ x) → bMin (.list (l.map .int)) = M.ret (.int c)
  | [], h, _ => nomatch h
  | n :: ns, h, hle => by
    have fold : ∀ (ns : List Int) (a : Int), (∀ x ∈ ns, c ≤ x) → c ≤ a → (c = a ∨ c ∈ ns) → ns.foldl min a = c := fun ns => by
      induction ns with
      | nil =>
        intro a _ _ h
        rcases h with h | h
        · exact h.symm
        · cases h
      | cons x ns ih =>
        intro a h1 h2 h3
        rw [List.foldl_cons]
        have hx := h1 x List.mem_cons_self
        refine ih (min a x) (fun y hy => h1 y (List.mem_cons_of_mem _ hy)) (by omega) ?_
        rcases h3 with h3 | h3
        · exact .inl (by omega)
        · rcases List.mem_cons.mp h3 with h3 | h3
          · exact .inl (by omega)
          · exact .inr h3
    unfold bMin
    dsimp only
    rw [ints?_map]
    dsimp only
    rw [fold ns n (fun x hx => hle x (List.mem_cons_of_mem _ hx)) (hle n List.mem_cons_self) (List.mem_cons.mp h)]

/-! ### a list and its permutations: where each item went -/
theorem perm_emb {α : Type} {l m : List α} (h : l.Perm m) : ∃ f : Nat → Nat, (∀ i, i < l.length → f i < m.length ∧ m[f i]? = l[i]?) ∧ ∀ i j, i < l.length → j < l.length → f i = f j → i = j := by
  induction h with
  | nil => exact ⟨id, fun i h => absurd h (Nat.not_lt_zero i), fun i j h => absurd h (Nat.not_lt_zero i)⟩
  | @cons x l m h ih =>
    obtain ⟨f, h1, h2⟩ := ih
    refine ⟨fun i => match i with | 0 => 0 | k + 1 => f k + 1, fun i hi => ?_, fun i j hi hj e => ?_⟩
    · cases i with
      | zero => exact ⟨Nat.zero_lt_succ _, rfl⟩
      | succ k =>
        obtain ⟨a, b⟩ := h1 k (Nat.lt_of_succ_lt_succ hi)
        exact ⟨Nat.succ_lt_succ a, b⟩
    · cases i with
      | zero =>
        cases j with
        | zero => rfl
        | succ k => exact absurd e (by simp)
      | succ k =>
        cases j with
        | zero => exact absurd e (by simp)
        | succ k' =>
          have e' : f k = f k' := Nat.succ.inj e
          rw [h2 k k' (Nat.lt_of_succ_lt_succ hi) (Nat.lt_of_succ_lt_succ hj) e']
  | swap x y l =>
    refine ⟨fun i => match i with | 0 => 1 | 1 => 0 | k + 2 => k + 2, fun i hi => ?_, fun i j hi hj e => ?_⟩
    · match i, hi with
      | 0, hi => exact ⟨by simp, rfl⟩
      | 1, hi => exact ⟨by simp, rfl⟩
      | k + 2, hi => exact ⟨hi, rfl⟩
    · rcases i with _ | _ | k <;> rcases j with _ | _ | k' <;> dsimp only at e <;> omega
  | @trans l m n _ _ ih1 ih2 =>
    obtain ⟨f, f1, f2⟩ := ih1
    obtain ⟨g, g1, g2⟩ := ih2
    exact ⟨fun i => g (f i), fun i hi => ⟨(g1 _ (f1 i hi).1).1, (g1 _ (f1 i hi).1).2.trans (f1 i hi).2⟩, fun i j hi hj e => f2 i j hi hj (g2 _ _ (f1 i hi).1 (f1 j hj).1 e)⟩
/-! ### a net of more cables costs no more -/
theorem net_least {many : Nat} {es : List E3} (ok : CabOk many es) {K : List Int} (hN : NetF many es K) (hl : K.length + 1 = many) {T : List Int} (ha : T.Nodup) (hr : ∀ p ∈ T, 0 ≤ p ∧ p < (es.length : Int)) (ht : T.length + 1 = many) (hA : All many (T.map (prOf es))) : (K.map (wE es)).sum ≤ (T.map (wE es)).sum :=
  least_of (pr := prOf es) (w := wE es) (n := many) (hN.asc.imp fun h => by omega) hl _ T rfl ha ht hA (fun p hp => pr_in ok (hr p hp)) (fun p hp => pr_in ok (hN.rng p hp)) fun p hp _ => hN.joins p (hr p hp)
theorem net_all {many : Nat} {es : List E3} {K : List Int} (hN : NetF many es K) (hl : K.length + 1 = many) : All many (K.map (prOf es)) := few_all hN.few (by rw [List.length_map]; exact hl)
theorem net_has {many : Nat} (m1 : 1 ≤ many) {es : List E3} {K : List Int} (hN : NetF many es K) {T : List Int} (hr : ∀ p ∈ T, 0 ≤ p ∧ p < (es.length : Int)) (hA : All many (T.map (prOf es))) : K.length + 1 = many := by
  refine (net_whole m1 hN).mpr fun x y hx hy => conn_sub (fun e he => ?_) (hA x y hx hy)
  obtain ⟨p, hp, rfl⟩ := List.mem_map.mp he
  rw [all_pairs]
  exact List.mem_map.mpr ⟨p, nat0_mem.mpr (hr p hp), rfl⟩
theorem more_least {many : Nat} {es es' : List E3} {e : E3} (ok' : CabOk many es') (hp : (es ++ [e]).Perm es') {K K' : List Int} (hN : NetF many es K) (hl : K.length + 1 = many) (hN' : NetF many es' K') :
    K'.length + 1 = many ∧ (K'.map (wE es')).sum ≤ (K.map (wE es)).sum := by
  obtain ⟨f, f1, f2⟩ := perm_emb hp
  have m1 := ok'.m1
  have hle : (es ++ [e]).length = es.length + 1 := by rw [List.length_append, List.length_singleton]
  have key : ∀ p ∈ K, (f p.toNat < es'.length) ∧ es'.getD (f p.toNat) (0, 0, 0) = es.getD p.toNat (0, 0, 0) := fun p hp => by
    have r := hN.rng p hp
    obtain ⟨a, b⟩ := f1 p.toNat (by omega)
    rw [List.getElem?_append_left (by omega)] at b
    exact ⟨a, by rw [List.getD_eq_getElem?_getD, b, List.getD_eq_getElem?_getD]⟩
  have epr : (K.map fun p => ((f p.toNat : Nat) : Int)).map (prOf es') = K.map (prOf es) := by
    rw [List.map_map]
    refine List.map_congr_left fun p hp => ?_
    show prOf es' ((f p.toNat : Nat) : Int) = prOf es p
    unfold prOf
    rw [show (((f p.toNat : Nat) : Int)).toNat = f p.toNat by omega, (key p hp).2]
  have ew : (K.map fun p => ((f p.toNat : Nat) : Int)).map (wE es') = K.map (wE es) := by
    rw [List.map_map]
    refine List.map_congr_left fun p hp => ?_
    show wE es' ((f p.toNat : Nat) : Int) = wE es p
    unfold wE
    rw [show (((f p.toNat : Nat) : Int)).toNat = f p.toNat by omega, (key p hp).2]
  have rT : ∀ q ∈ K.map fun p => ((f p.toNat : Nat) : Int), 0 ≤ q ∧ q < (es'.length : Int) := fun q hq => by
    obtain ⟨p, hp, rfl⟩ := List.mem_map.mp hq
    have := (key p hp).1
    omega
  have nT : (K.map fun p => ((f p.toNat : Nat) : Int)).Nodup := by
    refine (List.pairwise_map).mpr (hN.asc.imp_of_mem fun {a b} ha hb h z => ?_)
    have ra := hN.rng a ha
    have rb := hN.rng b hb
    have := f2 a.toNat b.toNat (by omega) (by omega) (by omega)
    omega
  have aT : All many ((K.map fun p => ((f p.toNat : Nat) : Int)).map (prOf es')) := by rw [epr]; exact net_all hN hl
  have l' := net_has m1 hN' rT aT
  refine ⟨l', ?_⟩
  rw [← ew]
  exact net_least ok' hN' l' nT rT (by rw [List.length_map]; exact hl) aT
/-- each cable one dearer -/
def upE (e : E3) : E3 := (e.1, e.2.1, e.2.2 + 1)
theorem sum_up (w : Int → Int) : ∀ T : List Int, (T.map fun p => w p + 1).sum = (T.map w).sum + (T.length : Int)
  | [] => rfl
  | t :: T => by
    rw [List.map_cons, List.sum_cons, sum_up w T, List.map_cons, List.sum_cons, List.length_cons]
    omega
theorem up_least {many : Nat} {es : List E3} (ok : CabOk many es) (ok' : CabOk many (es.map upE)) {K K' : List Int} (hN : NetF many es K) (hl : K.length + 1 = many) (hN' : NetF many (es.map upE) K') :
    K'.length + 1 = many ∧ (K'.map (wE (es.map upE))).sum = (K.map (wE es)).sum + (many : Int) - 1 := by
  have key : ∀ p : Int, 0 ≤ p ∧ p < (es.length : Int) → prOf (es.map upE) p = prOf es p ∧ wE (es.map upE) p = wE es p + 1 := fun p hp => by
    have h1 : p.toNat < es.length := by omega
    have h2 : p.toNat < (es.map upE).length := by rw [List.length_map]; exact h1
    unfold prOf wE
    rw [List.getD_eq_getElem?_getD, List.getElem?_eq_getElem h2, List.getD_eq_getElem?_getD, List.getElem?_eq_getElem h1, List.getElem_map]
    exact ⟨rfl, rfl⟩
  have hle : (es.map upE).length = es.length := List.length_map _
  have r' : ∀ p ∈ K', 0 ≤ p ∧ p < (es.length : Int) := fun p hp => by have := hN'.rng p hp; rw [hle] at this; exact this
  have r2 : ∀ p ∈ K, 0 ≤ p ∧ p < ((es.map upE).length : Int) := fun p hp => by rw [hle]; exact hN.rng p hp
  have ep : ∀ T : List Int, (∀ p ∈ T, 0 ≤ p ∧ p < (es.length : Int)) → T.map (prOf (es.map upE)) = T.map (prOf es) ∧ (T.map (wE (es.map upE))).sum = (T.map (wE es)).sum + (T.length : Int) := fun T hT =>
    ⟨List.map_congr_left fun p hp => (key p (hT p hp)).1, by rw [← sum_up]; exact congrArg List.sum (List.map_congr_left fun p hp => (key p (hT p hp)).2)⟩
  have l' : K'.length + 1 = many := net_has ok.m1 hN' r2 (by rw [(ep K hN.rng).1]; exact net_all hN hl)
  have a := net_least ok hN hl (T := K') (hN'.asc.imp fun h => by omega) r' l' (by rw [← (ep K' r').1]; exact net_all hN' l')
  have b := net_least ok' hN' l' (T := K) (hN.asc.imp fun h => by omega) r2 hl (by rw [(ep K hN.rng).1]; exact net_all hN hl)
  rw [(ep K hN.rng).2] at b
  rw [(ep K' r').2] at b
  refine ⟨l', ?_⟩
  rw [(ep K' r').2]
  omega

/-! ### services of the least cost, with an hour more -/
theorem serv_cost {cs : List (List Int)} {h : Nat} (ok : CostOk cs h) : ∃ (row : List Int) (L BS : D), ServOk h cs.length row ∧ (∀ r, ServOk h cs.length r → costS cs row ≤ costS cs r) ∧ F__law_services [.d (encCs cs)] = M.ret L ∧ bMin L = M.ret BS ∧
    oIx BS (.int 0) = M.ret (.int (costS cs row)) ∧ F_least_cost [.d (encCs cs)] = M.ret (.int (costS cs row)) := by
  obtain ⟨best, hbest, hmin, hfirst, hle⟩ := first_least ok
  refine ⟨best, _, _, hbest, hle, lservices_at ok, hmin, rfl, ?_⟩
  unfold F_least_cost
  rw [fn_eq]
  have c := cost_at ok hbest.rowIn
  have c' : F_cost_of [.d (.tuple (cs.map encT)), .d (encT best)] = M.ret (.int (costS cs best)) := c
  have f' : F_first_service [.d (.tuple (cs.map encT))] = M.ret (encT best) := hfirst
  try simp only [at_emp, at_dis1, at_ow0, at_ows, at_calln, isLst_ret, at_c, at_bin, at_un, at_v0, at_o0, at_vs, at_tup, at_lst, at_each0, at_eachs, at_ad, at_p0, at_ps, at_args0, at_argss, at_call, at_tofk, at_and, at_or, at_not, at_dand, at_dor, at_dnot, at_if, at_chain, at_gn, at_g2, at_g3, at_g4, at_iseq, at_r1, at_r2, turn_def, at_sasgn, at_sforr, at_nil, at_seq, at_asg, at_sown, at_sret, at_sretn, at_sif, at_sdrop, at_sbrk, at_scont, at_sfor, hide_nil, hide_cons, hide1_d, hide1_n, hide1_p, hide1_o, set_0, set_s, bnd_ret, bnd_stuck, bnd_bnd, bnd_ite, slot_d, slot_p, wipeR, List.map_cons, List.map_nil, List.cons_append, List.nil_append, List.replicate, add_ints, sub_ints, le_ints, lt_ints, ge_ints, gt_ints, neg_ints, min2_ints, max2_ints, oEq_ints, oNe_ints, oEq_bools, oNe_bools, len_tup, len_lst, revL_l, oEq_strs, oNe_strs, tuple_l, tuple_t, list_l, list_t, at_sl, at_pn, at_ps', sl_tup', sl_lst', is_T, is_L, is_I, is_B, is_S, is_N, not_N, isT_n, isT_b, isT_i, isT_s, isT_t, isT_l, isT_d, isL_n, isL_b, isL_i, isL_s, isL_t, isL_l, isL_d, isI_n, isI_b, isI_i, isI_s, isI_t, isI_l, isI_d, isB_n, isB_b, isB_i, isB_s, isB_t, isB_l, isB_d, isS_n, isS_b, isS_i, isS_s, isS_t, isS_l, isS_d, isN_n, isN_b, isN_i, isN_s, isN_t, isN_l, isN_d, decide_eq_true_eq, Bool.not_eq_true', decide_eq_false_iff_not, Bool.false_eq_true, if_true, if_false, decide_true, decide_false, Bool.not_true, Bool.not_false, not_true_eq_false, not_false_eq_true, ret_ite_o, Int.reduceLT, Int.reduceLE, Int.reduceEq, Int.reduceAdd, Int.reduceSub, Int.reduceNeg, reduceCtorEq, f', c']
def Wider (cs ws : List (List Int)) : Prop := ws.length = cs.length ∧ ∀ (j : Nat) (r : List Int), cs[j]? = some r → ∃ v, ws[j]? = some (r ++ [v]) ∧ 0 ≤ v ∧ v ≤ 99
theorem wide_row {cs ws : List (List Int)} (hw : Wider cs ws) : ∀ w ∈ ws, ∃ r ∈ cs, ∃ v, w = r ++ [v] ∧ 0 ≤ v ∧ v ≤ 99 := fun w h => by
  obtain ⟨j, hj, e⟩ := List.getElem_of_mem h
  have hj2 : j < cs.length := by have := hw.1; omega
  obtain ⟨v, e2, hv⟩ := hw.2 j _ (List.getElem?_eq_getElem hj2)
  rw [List.getElem?_eq_getElem hj, e] at e2
  exact ⟨_, List.getElem_mem hj2, v, by injection e2, hv⟩
theorem wide_ok {cs ws : List (List Int)} {h : Nat} (ok : CostOk cs h) (h5 : h ≤ 5) (hw : Wider cs ws) : CostOk ws (h + 1) := by
  have e := hw.1
  have m1 := ok.m1
  have m4 := ok.m4
  have mh := ok.mh
  refine ⟨by omega, by omega, by omega, by omega, fun r hr => ?_⟩
  obtain ⟨r0, h0, v, rfl, hv⟩ := wide_row hw r hr
  have z := ok.rows r0 h0
  refine ⟨by rw [List.length_append, z.1]; rfl, fun u hu => ?_⟩
  rcases List.mem_append.mp hu with hu | hu
  · exact z.2 u hu
  · rw [List.mem_singleton.mp hu]
    exact hv
theorem wide_cost {cs ws : List (List Int)} {h : Nat} (ok : CostOk cs h) (hw : Wider cs ws) {row : List Int} (s : ServOk h cs.length row) : costS ws row = costS cs row := by
  have hl := s.len
  unfold costS
  rw [hw.1]
  congr 1
  refine List.map_congr_left fun k hk => ?_
  have hk := List.mem_range.mp hk
  have e := List.getElem?_eq_getElem hk
  obtain ⟨v, e2, _⟩ := hw.2 k _ e
  have a1 : ws.getD k [] = cs[k] ++ [v] := by rw [List.getD_eq_getElem?_getD, e2]; rfl
  have a2 : cs.getD k [] = cs[k] := by rw [List.getD_eq_getElem?_getD, e]; rfl
  have hrk : row.getD k 0 = row[k]'(by omega) := gdw (by omega)
  have hv := s.rng _ (List.getElem_mem (l := row) (n := k) (by omega))
  rw [← hrk] at hv
  have lr := (ok.rows _ (List.getElem_mem hk)).1
  rw [a1, a2]
  have hm : (row.getD k 0).toNat < cs[k].length := by omega
  generalize (row.getD k 0).toNat = m at *
  rw [List.getD_eq_getElem?_getD, List.getD_eq_getElem?_getD, List.getElem?_append_left hm]
theorem wide_serv {h m : Nat} {row : List Int} (s : ServOk h m row) : ServOk (h + 1) m row := ⟨s.len, fun v hv => by have := s.rng v hv; omega, s.nd⟩
theorem cut_ok {cs : List (List Int)} {h : Nat} (ok : CostOk cs h) : CostOk (cs.map (List.take 5)) (min h 5) := by
  have m1 := ok.m1
  have m4 := ok.m4
  have mh := ok.mh
  refine ⟨by rw [List.length_map]; exact m1, by rw [List.length_map]; exact m4, by rw [List.length_map]; omega, by omega, fun r hr => ?_⟩
  obtain ⟨r0, h0, rfl⟩ := List.mem_map.mp hr
  have z := ok.rows r0 h0
  exact ⟨by rw [List.length_take, z.1]; omega, fun v hv => z.2 v (List.mem_of_mem_take hv)⟩
def dearI (v : Int) : Int := (if v < 99 then v else 99) + (if decide (v < 99) = true then 1 else 0)
theorem dear_ok {cs : List (List Int)} {h : Nat} (ok : CostOk cs h) : CostOk (cs.map (List.map dearI)) h := by
  refine ⟨by rw [List.length_map]; exact ok.m1, by rw [List.length_map]; exact ok.m4, by rw [List.length_map]; exact ok.mh, ok.h6, fun r hr => ?_⟩
  obtain ⟨r0, h0, rfl⟩ := List.mem_map.mp hr
  have z := ok.rows r0 h0
  refine ⟨by rw [List.length_map, z.1], fun v hv => ?_⟩
  obtain ⟨u, hu, rfl⟩ := List.mem_map.mp hv
  have b := z.2 u hu
  unfold dearI
  by_cases c : u < 99
  · rw [if_pos c, if_pos (decide_eq_true c)]
    omega
  · rw [if_neg c, if_neg (by simpa using c)]
    omega
theorem cut_row (r : List Int) : oSl (encT r) none (some 5) = M.ret (encT (r.take 5)) := by
  show oSl (.tuple (r.map .int)) none (some ((5 : Nat) : Int)) = _
  rw [sl_tup']
  have cut_take : ∀ (xs : List D) (k : Nat), cutD xs none (some (k : Int)) = xs.take k := fun xs k => by
    unfold cutD
    rw [HT.sIx_nat, HT.sIx_none, List.drop_zero, Nat.sub_zero]
    by_cases h : k ≤ xs.length
    · rw [Nat.min_eq_left h]
    · rw [Nat.min_eq_right (by omega), List.take_of_length_le (Nat.le_refl _), List.take_of_length_le (by omega)]
  rw [cut_take]
  show _ = M.ret (PyData.tuple ((r.take 5).map .int))
  rw [List.map_take]
/-! ### cables: the least cost, cables that miss, the dearest -/
theorem cab_val {many : Nat} {es : List E3} (ok : CabOk many es) : ∃ K, NetF many es K ∧ ((K.length + 1 = many ∧ F_least_cables [.d (encCb many es)] = M.ret (.int (K.map (wE es)).sum)) ∨ (¬ K.length + 1 = many ∧ F_least_cables [.d (encCb many es)] = M.ret .none)) := by
  obtain ⟨K, hN, hk⟩ := least_net_ok ok
  refine ⟨K, hN, ?_⟩
  by_cases hl : K.length + 1 = many
  · exact .inl ⟨hl, least_net_cost ok hN hl (paper_net ok hk hl)⟩
  · obtain ⟨L, hL, hp⟩ := paper_apart ok hN hk hl
    exact .inr ⟨hl, least_apart_cost hp⟩
def encP2 (p : Int × Int) : D := .tuple [.int p.1, .int p.2]
def encE2 (e : E3) : D := .tuple [.int e.1, .int e.2.1]
def missB (a b : Int) (es : List E3) : Bool := !((es.map encE2).any fun y => PyData.eqv y (.tuple [.int a, .int b]))
theorem notin_p2 (a b : Int) (es : List E3) : oNotIn (.tuple [.int a, .int b]) (.list (es.map encE2)) = M.ret (.bool (missB a b es)) := by
  have lay : PyData.canLayAll0 (es.map encE2) = true := by
    induction es with
    | nil => rfl
    | cons e es ih => rw [List.map_cons, PyData.canLayAll0, ih]; rfl
  have e : has? (es.map encE2) (.tuple [.int a, .int b]) = some ((es.map encE2).any fun y => PyData.eqv y (.tuple [.int a, .int b])) := by
    have e1 : has? (es.map encE2) (.tuple [.int a, .int b]) = if ((PyData.tuple [.int a, .int b]).canLay0 && PyData.canLayAll0 (es.map encE2)) = true ∧ (PyData.tuple [.int a, .int b]).depth < deep then some ((es.map encE2).any fun y => PyData.eqv y (.tuple [.int a, .int b])) else none := rfl
    rw [e1, if_pos ⟨by rw [lay]; rfl, by
      simp only [PyData.depth, PyData.depthAll]
      decide⟩]
  unfold oNotIn oHas
  dsimp only
  rw [e]
  rfl
theorem ne_p2 (ms : List (Int × Int)) : oNe (.list (ms.map encP2)) (.list []) = M.ret (.bool (!(ms.map encP2).isEmpty)) := by
  have a : PyData.plainAll (ms.map encP2) = true := by
    induction ms with
    | nil => rfl
    | cons m ms ih => rw [List.map_cons, PyData.plainAll, ih]; rfl
  have b : PyData.depthAll (ms.map encP2) ≤ 90 := by
    clear a
    induction ms with
    | nil => simp [PyData.depthAll]
    | cons m ms ih =>
      have e : PyData.depth (encP2 m) ≤ 90 := by simp only [encP2, PyData.depth, PyData.depthAll]; decide
      rw [List.map_cons, PyData.depthAll]
      omega
  exact ne_nil a b
theorem max_fold : ∀ (l : List Int) (a : Int), a ≤ l.foldl max a ∧ ∀ x ∈ l, x ≤ l.foldl max a
  | [], a => ⟨Int.le_refl _, (fun _ h => nomatch h)⟩
  | b :: l, a => by
    obtain ⟨h1, h2⟩ := max_fold l (max a b)
    refine ⟨by rw [List.foldl_cons]; omega, fun x hx => ?_⟩
    rw [List.foldl_cons]
    rcases List.mem_cons.mp hx with rfl | hx
    · omega
    · exact h2 x hx
theorem max_zero (l : List Int) : ∃ m : Int, bMax (.list ((l ++ [0]).map .int)) = M.ret (.int m) ∧ ∀ x ∈ l, x ≤ m := by
  cases l with
  | nil => exact ⟨_, max_ints 0 [], (fun _ h => nomatch h)⟩
  | cons a l =>
    refine ⟨(l ++ [0]).foldl max a, by rw [List.cons_append]; exact max_ints a (l ++ [0]), fun x hx => ?_⟩
    obtain ⟨h1, h2⟩ := max_fold (l ++ [0]) a
    rcases List.mem_cons.mp hx with rfl | hx
    · exact h1
    · exact h2 x (List.mem_append_left _ hx)
theorem sort_e {es : List E3} (hl : es.length ≤ 64) : ∃ es' : List E3, es.Perm es' ∧ bSortedT (.tuple (es.map enc3)) = M.ret (.list (es'.map enc3)) := by
  have hc : CanSortT (es.map enc3) := by
    refine ⟨fun d hd d' hd' => ?_, .inl fun d hd => ?_, small20 (by rw [List.length_map]; omega), fun d hd => ?_⟩
    · obtain ⟨a, _, rfl⟩ := List.mem_map.mp hd
      obtain ⟨b, _, rfl⟩ := List.mem_map.mp hd'
      show PySem.W.alikeAll [.int _, .int _, .int _] [.int _, .int _, .int _] = true
      simp only [PySem.W.alikeAll, PySem.W.alike, Bool.and_self]
    · obtain ⟨a, _, rfl⟩ := List.mem_map.mp hd
      exact ⟨_, _, rfl⟩
    · obtain ⟨a, _, rfl⟩ := List.mem_map.mp hd
      simp only [enc3, PyData.depth, PyData.depthAll]
      decide
  refine ⟨es.mergeSort fun a b => leD (enc3 a) (enc3 b), (List.mergeSort_perm _ _).symm, ?_⟩
  unfold bSortedT
  dsimp only
  rw [if_pos hc, ← List.map_mergeSort (r := fun a b => leD (enc3 a) (enc3 b)) (s := leD) (f := enc3) (l := es) (fun a _ b _ => rfl)]
theorem pick_lst {α : Type} (as : List α) (enc : α → D) (hne : as ≠ []) (hl : as.length ≤ 2 ^ 20) : Does (F__law_pick [.pool, .d (.list (as.map enc))]) fun d => ∃ a ∈ as, d = enc a := by
  refine does_fn rfl ?_
  show DoesK _ _ _
  have hp : 0 < as.length := List.length_pos_iff.mpr hne
  have e20 : (2 : Nat) ^ 20 = 1048576 := by decide +kernel
  simp only [at_emp, at_dis1, at_ow0, at_ows, at_calln, isLst_ret, at_c, at_bin, at_un, at_v0, at_o0, at_vs, at_tup, at_lst, at_each0, at_eachs, at_ad, at_p0, at_ps, at_args0, at_argss, at_call, at_tofk, at_and, at_or, at_not, at_dand, at_dor, at_dnot, at_if, at_chain, at_gn, at_g2, at_g3, at_g4, at_iseq, at_r1, at_r2, turn_def, at_sasgn, at_sforr, at_nil, at_seq, at_asg, at_sown, at_sret, at_sretn, at_sif, at_sdrop, at_sbrk, at_scont, at_sfor, hide_nil, hide_cons, hide1_d, hide1_n, hide1_p, hide1_o, set_0, set_s, bnd_ret, bnd_stuck, bnd_bnd, bnd_ite, slot_d, slot_p, wipeR, List.map_cons, List.map_nil, List.cons_append, List.nil_append, List.replicate, add_ints, sub_ints, le_ints, lt_ints, ge_ints, gt_ints, neg_ints, min2_ints, max2_ints, oEq_ints, oNe_ints, oEq_bools, oNe_bools, len_tup, len_lst, revL_l, oEq_strs, oNe_strs, tuple_l, tuple_t, list_l, list_t, at_sl, at_pn, at_ps', sl_tup', sl_lst', is_T, is_L, is_I, is_B, is_S, is_N, not_N, isT_n, isT_b, isT_i, isT_s, isT_t, isT_l, isT_d, isL_n, isL_b, isL_i, isL_s, isL_t, isL_l, isL_d, isI_n, isI_b, isI_i, isI_s, isI_t, isI_l, isI_d, isB_n, isB_b, isB_i, isB_s, isB_t, isB_l, isB_d, isS_n, isS_b, isS_i, isS_s, isS_t, isS_l, isS_d, isN_n, isN_b, isN_i, isN_s, isN_t, isN_l, isN_d, decide_eq_true_eq, Bool.not_eq_true', decide_eq_false_iff_not, Bool.false_eq_true, if_true, if_false, decide_true, decide_false, Bool.not_true, Bool.not_false, not_true_eq_false, not_false_eq_true, ret_ite_o, Int.reduceLT, Int.reduceLE, Int.reduceEq, Int.reduceAdd, Int.reduceSub, Int.reduceNeg, reduceCtorEq, List.length_map]
  refine does_bnd (does_draw' (by omega) (by omega)) fun d ⟨v, e, v0, v2⟩ => ?_
  subst e
  have e : as[v.toNat]? = some as[v.toNat] := List.getElem?_eq_getElem (by omega)
  have i : oIx (.list (as.map enc)) (.int v) = M.ret (enc as[v.toNat]) := ix_at v0 (by rw [List.getElem?_map, e]; rfl)
  simp only [at_emp, at_dis1, at_ow0, at_ows, at_calln, isLst_ret, at_c, at_bin, at_un, at_v0, at_o0, at_vs, at_tup, at_lst, at_each0, at_eachs, at_ad, at_p0, at_ps, at_args0, at_argss, at_call, at_tofk, at_and, at_or, at_not, at_dand, at_dor, at_dnot, at_if, at_chain, at_gn, at_g2, at_g3, at_g4, at_iseq, at_r1, at_r2, turn_def, at_sasgn, at_sforr, at_nil, at_seq, at_asg, at_sown, at_sret, at_sretn, at_sif, at_sdrop, at_sbrk, at_scont, at_sfor, hide_nil, hide_cons, hide1_d, hide1_n, hide1_p, hide1_o, set_0, set_s, bnd_ret, bnd_stuck, bnd_bnd, bnd_ite, slot_d, slot_p, wipeR, List.map_cons, List.map_nil, List.cons_append, List.nil_append, List.replicate, add_ints, sub_ints, le_ints, lt_ints, ge_ints, gt_ints, neg_ints, min2_ints, max2_ints, oEq_ints, oNe_ints, oEq_bools, oNe_bools, len_tup, len_lst, revL_l, oEq_strs, oNe_strs, tuple_l, tuple_t, list_l, list_t, at_sl, at_pn, at_ps', sl_tup', sl_lst', is_T, is_L, is_I, is_B, is_S, is_N, not_N, isT_n, isT_b, isT_i, isT_s, isT_t, isT_l, isT_d, isL_n, isL_b, isL_i, isL_s, isL_t, isL_l, isL_d, isI_n, isI_b, isI_i, isI_s, isI_t, isI_l, isI_d, isB_n, isB_b, isB_i, isB_s, isB_t, isB_l, isB_d, isS_n, isS_b, isS_i, isS_s, isS_t, isS_l, isS_d, isN_n, isN_b, isN_i, isN_s, isN_t, isN_l, isN_d, decide_eq_true_eq, Bool.not_eq_true', decide_eq_false_iff_not, Bool.false_eq_true, if_true, if_false, decide_true, decide_false, Bool.not_true, Bool.not_false, not_true_eq_false, not_false_eq_true, ret_ite_o, Int.reduceLT, Int.reduceLE, Int.reduceEq, Int.reduceAdd, Int.reduceSub, Int.reduceNeg, reduceCtorEq, i]
  exact does_ret ⟨_, List.getElem_mem _, rfl⟩
theorem ret_inj {a b : D} (h : M.ret a = M.ret b) : a = b := by injection (congrFun h ⟨[], 0, 0, 0, 0⟩)

/-! ### the law -/
theorem good : ∀ q, ∃ q', B_law rho0 q = .ok (.ret (.bool true)) q' := by
  have main : Does (B_law rho0) (· = .ret (.bool true)) := by
    have e18 : (2 : Nat) ^ 18 = 262144 := by decide +kernel
    have e20 : (2 : Nat) ^ 20 = 1048576 := by decide +kernel
    show DoesK _ (B_law [none, some .pool, none, none, none, none, none, none, none, none, none, none, none, none, none, none, none, none, none]) _
    unfold B_law
    refine seq_asg (P := fun d => ∃ cs h, d = encCs cs ∧ CostOk cs h) ?_ ?_
    · simp only [at_emp, at_dis1, at_ow0, at_ows, at_calln, isLst_ret, at_c, at_bin, at_un, at_v0, at_o0, at_vs, at_tup, at_lst, at_each0, at_eachs, at_ad, at_p0, at_ps, at_args0, at_argss, at_call, at_tofk, at_and, at_or, at_not, at_dand, at_dor, at_dnot, at_if, at_chain, at_gn, at_g2, at_g3, at_g4, at_iseq, at_r1, at_r2, turn_def, at_sasgn, at_sforr, at_nil, at_seq, at_asg, at_sown, at_sret, at_sretn, at_sif, at_sdrop, at_sbrk, at_scont, at_sfor, hide_nil, hide_cons, hide1_d, hide1_n, hide1_p, hide1_o, set_0, set_s, bnd_ret, bnd_stuck, bnd_bnd, bnd_ite, slot_d, slot_p, wipeR, List.map_cons, List.map_nil, List.cons_append, List.nil_append, List.replicate, add_ints, sub_ints, le_ints, lt_ints, ge_ints, gt_ints, neg_ints, min2_ints, max2_ints, oEq_ints, oNe_ints, oEq_bools, oNe_bools, len_tup, len_lst, revL_l, oEq_strs, oNe_strs, tuple_l, tuple_t, list_l, list_t, at_sl, at_pn, at_ps', sl_tup', sl_lst', is_T, is_L, is_I, is_B, is_S, is_N, not_N, isT_n, isT_b, isT_i, isT_s, isT_t, isT_l, isT_d, isL_n, isL_b, isL_i, isL_s, isL_t, isL_l, isL_d, isI_n, isI_b, isI_i, isI_s, isI_t, isI_l, isI_d, isB_n, isB_b, isB_i, isB_s, isB_t, isB_l, isB_d, isS_n, isS_b, isS_i, isS_s, isS_t, isS_l, isS_d, isN_n, isN_b, isN_i, isN_s, isN_t, isN_l, isN_d, decide_eq_true_eq, Bool.not_eq_true', decide_eq_false_iff_not, Bool.false_eq_true, if_true, if_false, decide_true, decide_false, Bool.not_true, Bool.not_false, not_true_eq_false, not_false_eq_true, ret_ite_o, Int.reduceLT, Int.reduceLE, Int.reduceEq, Int.reduceAdd, Int.reduceSub, Int.reduceNeg, reduceCtorEq]
      exact costs_drawn
    rintro _ ⟨cs, h, rfl, ok0⟩
    simp only [set_0, set_s]
    have z1 : dComp [15] (iSeq (dVar 2)) (gN 15) tTrue (dSl (dVar 15) none (some (dC (.int 5)))) [none, some .pool, some (.dat (encCs cs)), none, none, none, none, none, none, none, none, none, none, none, none, none, none, none, none] = M.ret (.list ((cs.map (List.take 5)).map encT)) := by
      rw [comp_map cs encT (fun r => encT (r.take 5)) (by simp only [at_iseq, at_vs, at_v0, bnd_ret]) (sz18 (by have := ok0.m4; omega)) (fun r hr => by
        have c := cut_row r
        show M.bnd (gN 15 (encT r) [none, some .pool, some (.dat (encCs cs)), none, none, none, none, none, none, none, none, none, none, none, none, none, none, none, none]) _ = _
        generalize encT r = X at *
        simp only [at_gn, set_0, set_s, bnd_ret, at_sl, at_pn, at_ps', at_vs, at_v0, at_c, c]), List.map_map]
      rfl
    refine seq_asg (P := (· = encCs (cs.map (List.take 5)))) (of_eq (by simp only [hide_cons, hide1_n, hide1_p, hide1_d, hide_nil, at_un, z1, bnd_ret, tuple_l])) ?_
    rintro _ rfl
    simp only [set_0, set_s]
    obtain ⟨c1, h, h5, ok, ec⟩ : ∃ (c1 : List (List Int)) (h : Nat), h ≤ 5 ∧ CostOk c1 h ∧ c1 = cs.map (List.take 5) := ⟨_, min _ 5, by omega, cut_ok ok0, rfl⟩
    rw [← ec]
    clear z1
    obtain ⟨row, L, BS, sr, le1, ls, mn, b0, lc⟩ := serv_cost ok
    refine seq_asg (P := (· = .int (costS c1 row))) (of_eq (by simp only [hide_cons, hide1_n, hide1_p, hide1_d, hide_nil, at_call, at_argss, at_args0, at_p0, at_ps, at_ad, at_bin, at_un, at_tup, at_lst, at_eachs, at_each0, at_vs, at_v0, at_c, bnd_ret, bnd_bnd, ls, mn, b0])) ?_
    rintro _ rfl
    simp only [set_0, set_s]
    have m4 := ok.m4
    refine seq_asg (P := fun d => ∃ ws, d = encCs ws ∧ Wider c1 ws) ?_ ?_
    · simp only [hide_cons, hide1_n, hide1_p, hide1_d, hide_nil, at_un]
      refine does_bnd (lc_all (xs := c1.map encT) (Q := fun j d => ∃ w : List Int, d = encT w ∧ ∀ r, c1[j]? = some r → ∃ v, w = r ++ [v] ∧ 0 ≤ v ∧ v ≤ 99) (P := fun d => ∃ ws : List (List Int), d = .list (ws.map encT) ∧ Wider c1 ws) (by simp only [at_iseq, at_vs, at_v0, bnd_ret]; exact does_ret rfl) (sz18 (by rw [List.length_map]; omega)) (fun j x hx => ?_) fun ys hl hq => ?_) ?_
      · rw [List.getElem?_map] at hx
        obtain ⟨r, hr, rfl⟩ := Option.map_eq_some_iff.mp hx
        have hrl := (ok.rows r (List.mem_of_getElem? hr)).1
        show DoesK _ (M.bnd (gN 15 (encT r) [none, some .pool, some (.dat (encCs c1)), some (.dat (.int (costS c1 row))), none, none, none, none, none, none, none, none, none, none, none, none, none, none, none]) _) _
        simp only [at_gn, set_0, set_s, at_call, at_argss, at_args0, at_p0, at_ps, at_ad, at_bin, at_un, at_tup, at_lst, at_eachs, at_each0, at_vs, at_v0, at_c, bnd_ret, bnd_bnd]
        refine does_bnd (does_draw' (by omega) (by omega)) ?_
        rintro _ ⟨v, rfl, v0, v9⟩
        rw [add_hour r (by omega) v]
        exact does_ret ⟨_, rfl, fun r' hr' => ⟨v, by rw [hr] at hr'; injection hr' with e; rw [e], v0, by omega⟩⟩
      · obtain ⟨ws, w1, w2, w3⟩ := list_made encT hq
        rw [List.length_map] at hl
        refine ⟨ws, by rw [w2], by omega, fun j r hr => ?_⟩
        have hj : j < ws.length := by have := (List.getElem?_eq_some_iff.mp hr).1; omega
        obtain ⟨v, e, hv⟩ := w3 j _ (List.getElem?_eq_getElem hj) r hr
        exact ⟨v, by rw [List.getElem?_eq_getElem hj, e], hv⟩
      · rintro _ ⟨ws, rfl, hw⟩
        rw [tuple_l]
        exact does_ret ⟨ws, rfl, hw⟩
    rintro _ ⟨ws, rfl, hw⟩
    simp only [set_0, set_s]
    have z2 : dComp [15] (iSeq (dVar 2)) (gN 15) tTrue (dUn bTuple (dComp [16] (iSeq (dVar 15)) (gN 16) tTrue (dBin oAdd (dBin bMin2 (dC (.int 99)) (dVar 16)) (dUn bInt (dBin oLt (dVar 16) (dC (.int 99))))))) [none, some .pool, some (.dat (encCs c1)), some (.dat (.int (costS c1 row))), some (.dat (encCs ws)), none, none, none, none, none, none, none, none, none, none, none, none, none, none] = M.ret (.list ((c1.map (List.map dearI)).map encT)) := by
      rw [comp_map c1 encT (fun r => encT (r.map dearI)) (by simp only [at_iseq, at_vs, at_v0, bnd_ret]) (sz18 (by omega)) (fun r hr => by
        have hrl := (ok.rows r hr).1
        show M.bnd (gN 15 (encT r) [none, some .pool, some (.dat (encCs c1)), some (.dat (.int (costS c1 row))), some (.dat (encCs ws)), none, none, none, none, none, none, none, none, none, none, none, none, none, none]) _ = _
        rw [at_gn, bnd_ret, at_un]
        have z := comp_map (own := [16]) (it := iSeq (dVar 15)) (g := gN 16) (e := dBin oAdd (dBin bMin2 (dC (.int 99)) (dVar 16)) (dUn bInt (dBin oLt (dVar 16) (dC (.int 99))))) (ρ := [none, some .pool, some (.dat (encCs c1)), some (.dat (.int (costS c1 row))), some (.dat (encCs ws)), none, none, none, none, none, none, none, none, none, none, some (.dat (encT r)), none, none, none]) r PyData.int (fun v => .int (dearI v)) (by simp only [at_iseq, at_vs, at_v0, bnd_ret]) (sz18 (by omega)) (fun v hv => by
          simp only [at_gn, wipeR, set_0, set_s, at_call, at_argss, at_args0, at_p0, at_ps, at_ad, at_bin, at_un, at_tup, at_lst, at_eachs, at_each0, at_vs, at_v0, at_c, bnd_ret, bnd_bnd, min2_ints, lt_ints, int_b, add_ints]
          rfl)
        simp only [set_0, set_s]
        rw [z, bnd_ret, tuple_l]
        show M.ret (PyData.tuple (r.map fun v => PyData.int (dearI v))) = M.ret (PyData.tuple ((r.map dearI).map .int))
        rw [List.map_map]
        rfl), List.map_map]
      rfl
    refine seq_asg (P := (· = encCs (c1.map (List.map dearI)))) (of_eq (by simp only [hide_cons, hide1_n, hide1_p, hide1_d, hide_nil, at_un, z2, bnd_ret, tuple_l])) ?_
    rintro _ rfl
    simp only [set_0, set_s]
    obtain ⟨ds, okd, ed⟩ : ∃ ds : List (List Int), CostOk ds h ∧ ds = c1.map (List.map dearI) := ⟨_, dear_ok ok, rfl⟩
    rw [← ed]
    clear z2
    have okw := wide_ok ok h5 hw
    obtain ⟨rowW, LW, BW, srW, leW', lsW, mnW, bW, lcW⟩ := serv_cost okw
    obtain ⟨rowD, LD, BD, srD, leD', lsD, mnD, bD, lcD⟩ := serv_cost okd
    refine seq_asg (P := (· = .list [.int (costS c1 row), .int (costS ws rowW), .int (costS ds rowD)])) (of_eq (by simp only [hide_cons, hide1_n, hide1_p, hide1_d, hide_nil, at_call, at_argss, at_args0, at_p0, at_ps, at_ad, at_bin, at_un, at_tup, at_lst, at_eachs, at_each0, at_vs, at_v0, at_c, bnd_ret, bnd_bnd, lc, lcW, lcD])) ?_
    rintro _ rfl
    simp only [set_0, set_s]
    have i1 : oIx (.list [.int (costS c1 row), .int (costS ws rowW), .int (costS ds rowD)]) (.int 1) = M.ret (.int (costS ws rowW)) := oIx_l (i := 1) rfl
    have hle : ¬ costS c1 row < costS ws rowW := by
      have a := leW' row (by rw [hw.1]; exact wide_serv sr)
      rw [wide_cost ok hw sr] at a
      omega
    refine seq_not (or_not (not_same (v := .list [.int (costS c1 row), .int (costS ws rowW), .int (costS ds rowD)]) (of_eq (by simp only [at_vs, at_v0])) (of_eq (by simp only [at_call, at_argss, at_args0, at_p0, at_ps, at_ad, at_bin, at_un, at_tup, at_lst, at_eachs, at_each0, at_vs, at_v0, at_c, bnd_ret, bnd_bnd, lsW, mnW, bW, lsD, mnD, bD])) ⟨show 3 ≤ 2 ^ 20 by decide, fun y hy => by
      simp only [List.mem_cons, List.not_mem_nil, or_false] at hy
      rcases hy with rfl | rfl | rfl <;> exact trivial⟩) (of_eq (by simp only [at_tofk, at_call, at_argss, at_args0, at_p0, at_ps, at_ad, at_bin, at_un, at_tup, at_lst, at_eachs, at_each0, at_vs, at_v0, at_c, bnd_ret, bnd_bnd, i1, gt_ints, hle, decide_false]))) ?_
    refine seq_asg (P := fun d => ∃ many es, d = encCb many es ∧ CabOk many es ∧ es.length ≤ triN many) ?_ ?_
    · simp only [hide_cons, hide1_n, hide1_p, hide1_d, hide_nil, at_call, at_argss, at_args0, at_p0, at_ps, at_ad, at_bin, at_un, at_tup, at_lst, at_eachs, at_each0, at_vs, at_v0, at_c, bnd_ret, bnd_bnd]
      exact cables_top (by omega)
    rintro _ ⟨many, es, rfl, okc, hes⟩
    simp only [set_0, set_s]
    have m1 := okc.m1
    have m8 := okc.m8
    have tl : es.length ≤ 28 := Nat.le_trans hes (tri_le m8)
    refine seq_next (P := (· = [none, some .pool, some (.dat (encCs c1)), some (.dat (.int (costS c1 row))), some (.dat (encCs ws)), some (.dat (encCs ds)), some (.dat (.list [.int (costS c1 row), .int (costS ws rowW), .int (costS ds rowD)])), some (.dat (encCb many es)), some (.dat (.int (many : Int))), some (.dat (.tuple (es.map enc3))), none, none, none, none, none, none, none, none, none])) ?_ ?_
    · have ge : ∀ ρ : Rho, gT [gN 8, gN 9] (encCb many es) ρ = M.ret ((ρ.set 8 (some (.dat (.int (many : Int))))).set 9 (some (.dat (.tuple (es.map enc3))))) := fun ρ => by
        show gT [gN 8, gN 9] (.tuple [.int (many : Int), .tuple (es.map enc3)]) ρ = _
        simp only [at_g2, at_gn, bnd_ret]
      rw [at_asg]
      simp only [hide_cons, hide1_n, hide1_p, hide1_d, hide_nil, at_vs, at_v0, bnd_ret, ge, set_0, set_s]
      exact does_ret ⟨_, rfl, rfl⟩
    rintro _ rfl
    obtain ⟨K, hN, hv⟩ := cab_val okc
    obtain ⟨v10, hl10, hv10⟩ : ∃ v10 : D, F_least_cables [.d (encCb many es)] = M.ret v10 ∧ ((K.length + 1 = many ∧ v10 = .int (K.map (wE es)).sum) ∨ v10 = .none) := by
      rcases hv with ⟨a, b⟩ | ⟨a, b⟩
      · exact ⟨_, b, .inl ⟨a, rfl⟩⟩
      · exact ⟨_, b, .inr rfl⟩
    refine seq_asg (P := (· = v10)) (of_eq (by simp only [hide_cons, hide1_n, hide1_p, hide1_d, hide_nil, at_call, at_argss, at_args0, at_p0, at_ps, at_ad, at_bin, at_un, at_tup, at_lst, at_eachs, at_each0, at_vs, at_v0, at_c, bnd_ret, bnd_bnd, hl10])) ?_
    intro d10 e10
    rw [e10]
    clear e10
    simp only [set_0, set_s]
    refine seq_asg (P := (· = .list [])) (of_eq (by simp only [hide_cons, hide1_n, hide1_p, hide1_d, hide_nil, at_call, at_argss, at_args0, at_p0, at_ps, at_ad, at_bin, at_un, at_tup, at_lst, at_eachs, at_each0, at_vs, at_v0, at_c, bnd_ret, bnd_bnd])) ?_
    rintro _ rfl
    simp only [set_0, set_s]
    have rm : rng1 (.int (many : Int)) = M.ret (intsFrom 0 many) := by rw [rng1_of (by omega) (by omega)]; rfl
    refine seq_next (P := fun ρ => ∃ (ms : List (Int × Int)) (x12 : Option Slot), (∀ p ∈ ms, 0 ≤ p.1 ∧ p.1 < p.2 ∧ p.2 < (many : Int)) ∧ ms.length ≤ 64 ∧ ρ = [none, some .pool, some (.dat (encCs c1)), some (.dat (.int (costS c1 row))), some (.dat (encCs ws)), some (.dat (encCs ds)), some (.dat (.list [.int (costS c1 row), .int (costS ws rowW), .int (costS ds rowD)])), some (.dat (encCb many es)), some (.dat (.int (many : Int))), some (.dat (.tuple (es.map enc3))), some (.dat (v10)), some (.dat (.list (ms.map encP2))), x12, none, none, none, none, none, none]) ?_ ?_
    · rw [at_sfor]
      simp only [at_r1, at_vs, at_v0, hide_cons, hide1_n, hide1_p, hide1_d, hide_nil, bnd_ret, rm]
      refine for_rng (fun j ρ => ∃ (ms : List (Int × Int)) (x12 : Option Slot), (∀ p ∈ ms, 0 ≤ p.1 ∧ p.1 < p.2 ∧ p.2 < (many : Int)) ∧ ms.length ≤ 8 * j ∧ ρ = [none, some .pool, some (.dat (encCs c1)), some (.dat (.int (costS c1 row))), some (.dat (encCs ws)), some (.dat (encCs ds)), some (.dat (.list [.int (costS c1 row), .int (costS ws rowW), .int (costS ds rowD)])), some (.dat (encCb many es)), some (.dat (.int (many : Int))), some (.dat (.tuple (es.map enc3))), some (.dat (v10)), some (.dat (.list (ms.map encP2))), x12, none, none, none, none, none, none]) ⟨[], none, (fun _ h => nomatch h), Nat.le_refl _, rfl⟩ (fun j ρ hj hI => ?_) (fun ρ hI => by
        obtain ⟨ms, x12, h1, h2, rfl⟩ := hI
        exact ⟨_, rfl, ms, x12, h1, by omega, rfl⟩)
      obtain ⟨ms, x12, h1, h2, rfl⟩ := hI
      simp only [at_gn, bnd_ret, set_0, set_s, Int.zero_add]
      have r2 : rng2 (.int ((j : Int) + 1)) (.int (many : Int)) = M.ret (intsFrom ((j : Int) + 1) (many - (j + 1))) := by
        rw [rng2_of (by omega) (by omega) (by omega) (by omega), show ((many : Int) - ((j : Int) + 1)).toNat = many - (j + 1) from by omega]
      have z := comp_rngf (own := [17]) (it := iR2 (dBin oAdd (dVar 12) (dC (.int 1))) (dVar 8)) (g := gN 17) (t := tOf (dBin oNotIn (dTup [(dVar 12), (dVar 17)]) (dComp [18] (iSeq (dVar 9)) (gN 18) tTrue (dSl (dVar 18) none (some (dC (.int 2))))))) (e := dTup [(dVar 12), (dVar 17)]) (ρ := [none, some .pool, some (.dat (encCs c1)), some (.dat (.int (costS c1 row))), some (.dat (encCs ws)), some (.dat (encCs ds)), some (.dat (.list [.int (costS c1 row), .int (costS ws rowW), .int (costS ds rowD)])), some (.dat (encCb many es)), some (.dat (.int (many : Int))), some (.dat (.tuple (es.map enc3))), some (.dat (v10)), some (.dat (.list (ms.map encP2))), some (.dat (.int (j : Int))), none, none, none, none, none, none]) ((j : Int) + 1) (many - (j + 1)) (fun (k : Nat) => missB (j : Int) ((j : Int) + 1 + (k : Int)) es) (fun (k : Nat) => encP2 ((j : Int), (j : Int) + 1 + (k : Int))) (by simp only [at_r2, at_call, at_argss, at_args0, at_p0, at_ps, at_ad, at_bin, at_un, at_tup, at_lst, at_eachs, at_each0, at_vs, at_v0, at_c, bnd_ret, bnd_bnd, add_ints, r2]) (sz18 (by omega)) fun k hk => by
        have c := comp_map (own := [18]) (it := iSeq (dVar 9)) (g := gN 18) (e := dSl (dVar 18) none (some (dC (.int 2)))) (ρ := [none, some .pool, some (.dat (encCs c1)), some (.dat (.int (costS c1 row))), some (.dat (encCs ws)), some (.dat (encCs ds)), some (.dat (.list [.int (costS c1 row), .int (costS ws rowW), .int (costS ds rowD)])), some (.dat (encCb many es)), some (.dat (.int (many : Int))), some (.dat (.tuple (es.map enc3))), some (.dat (v10)), some (.dat (.list (ms.map encP2))), some (.dat (.int (j : Int))), none, none, none, none, some (.dat (.int ((j : Int) + 1 + (k : Int)))), none]) es enc3 encE2 (by simp only [at_iseq, at_vs, at_v0, bnd_ret]) (sz18 (by omega)) fun e he => by
          have s : oSl (enc3 e) none (some 2) = M.ret (encE2 e) := rfl
          generalize enc3 e = X at *
          simp only [at_gn, wipeR, set_0, set_s, bnd_ret, at_sl, at_pn, at_ps', at_vs, at_v0, at_c, s]
        have ni := notin_p2 (j : Int) ((j : Int) + 1 + (k : Int)) es
        rw [turn_def]
        simp only [at_gn, wipeR, set_0, set_s, bnd_ret, at_tofk, at_bin, at_tup, at_eachs, at_each0, at_vs, at_v0]
        rw [c, bnd_ret, ni, bnd_ret]
        cases missB (j : Int) ((j : Int) + 1 + (k : Int)) es <;> rfl
      have ad := add_lists (xs := ms.map encP2) (ys := (((List.range (many - (j + 1))).filter fun (k : Nat) => missB (j : Int) ((j : Int) + 1 + (k : Int)) es).map fun (k : Nat) => encP2 ((j : Int), (j : Int) + 1 + (k : Int)))) (by
        have := List.length_filter_le (fun (k : Nat) => missB (j : Int) ((j : Int) + 1 + ((k : Nat) : Int)) es) (List.range (many - (j + 1)))
        rw [List.length_map, List.length_map]
        rw [List.length_range] at this
        omega)
      rw [at_asg]
      simp only [hide_cons, hide1_n, hide1_p, hide1_d, hide_nil]
      rw [at_bin, z]
      simp only [at_vs, at_v0, bnd_ret, ad, at_gn, set_0, set_s]
      refine does_ret ⟨ms ++ (((List.range (many - (j + 1))).filter fun (k : Nat) => missB (j : Int) ((j : Int) + 1 + (k : Int)) es).map fun (k : Nat) => ((j : Int), (j : Int) + 1 + (k : Int))), some (.dat (.int (j : Int))), fun p hp => ?_, ?_, by rw [List.map_append, List.map_map]; rfl⟩
      · rcases List.mem_append.mp hp with hp | hp
        · exact h1 p hp
        · obtain ⟨k, hk, rfl⟩ := List.mem_map.mp hp
          have hk := List.mem_range.mp (List.mem_filter.mp hk).1
          dsimp only
          omega
      · have := List.length_filter_le (fun (k : Nat) => missB (j : Int) ((j : Int) + 1 + ((k : Nat) : Int)) es) (List.range (many - (j + 1)))
        rw [List.length_range] at this
        rw [List.length_append, List.length_map]
        omega
    rintro _ ⟨ms, x12, hms, hml, rfl⟩
    refine seq_next (P := fun ρ => ∃ x13 x14 : Option Slot, ρ = [none, some .pool, some (.dat (encCs c1)), some (.dat (.int (costS c1 row))), some (.dat (encCs ws)), some (.dat (encCs ds)), some (.dat (.list [.int (costS c1 row), .int (costS ws rowW), .int (costS ds rowD)])), some (.dat (encCb many es)), some (.dat (.int (many : Int))), some (.dat (.tuple (es.map enc3))), some (.dat (v10)), some (.dat (.list (ms.map encP2))), x12, x13, x14, none, none, none, none]) ?_ ?_
    · refine sif_does (c := !(ms.map encP2).isEmpty) (of_eq (by simp only [at_tofk, at_call, at_argss, at_args0, at_p0, at_ps, at_ad, at_bin, at_un, at_tup, at_lst, at_eachs, at_each0, at_vs, at_v0, at_c, bnd_ret, bnd_bnd, ne_p2])) (fun hc => ?_) fun _ => ?_
      · have hne : ms ≠ [] := fun z => by rw [z] at hc; exact absurd hc (by decide)
        refine seq_asg (P := fun d => ∃ pr ∈ ms, d = encP2 pr) ?_ ?_
        · simp only [hide_cons, hide1_n, hide1_p, hide1_d, hide_nil, at_call, at_argss, at_args0, at_p0, at_ps, at_ad, at_bin, at_un, at_tup, at_lst, at_eachs, at_each0, at_vs, at_v0, at_c, bnd_ret, bnd_bnd]
          exact pick_lst ms encP2 hne (by omega)
        rintro _ ⟨pr, hpr, rfl⟩
        simp only [set_0, set_s]
        have hp := hms pr hpr
        refine seq_asg (P := fun d14 => ∃ (es' : List E3) (e : E3), (es ++ [e]).Perm es' ∧ CabOk many es' ∧ F_least_cables [.d (encCb many es')] = M.ret d14) ?_ ?_
        · have ap : ∀ v : Int, oAdd (encP2 pr) (.tuple [.int v]) = M.ret (enc3 (pr.1, pr.2, v)) := fun v => add_tups (xs := [.int pr.1, .int pr.2]) (ys := [.int v]) (show 2 + 1 ≤ 2 ^ 20 by decide)
          simp only [hide_cons, hide1_n, hide1_p, hide1_d, hide_nil, at_call, at_argss, at_args0, at_p0, at_ps, at_ad, at_bin, at_un, at_tup, at_lst, at_eachs, at_each0, at_vs, at_v0, at_c, bnd_ret, bnd_bnd]
          refine does_bnd (does_draw' (by omega) (by omega)) ?_
          rintro _ ⟨v, rfl, v0, v9⟩
          have hl1 : (es ++ [(pr.1, pr.2, v)]).length ≤ 64 := by rw [List.length_append, List.length_singleton]; omega
          obtain ⟨es', pe, se⟩ := sort_e hl1
          have ae : oAdd (.tuple (es.map enc3)) (.tuple [enc3 (pr.1, pr.2, v)]) = M.ret (.tuple ((es ++ [(pr.1, pr.2, v)]).map enc3)) := by
            rw [add_tups (by rw [List.length_map, List.length_singleton]; omega), List.map_append]
            rfl
          have ok' : CabOk many es' := ⟨m1, m8, by rw [← pe.length_eq]; exact hl1, fun e he => by
            rcases List.mem_append.mp (pe.mem_iff.mpr he) with he | he
            · exact okc.row e he
            · rw [List.mem_singleton.mp he]
              dsimp only
              omega⟩
          obtain ⟨K', hN', hv'⟩ := cab_val ok'
          obtain ⟨d14, hd⟩ : ∃ d, F_least_cables [.d (encCb many es')] = M.ret d := by
            rcases hv' with ⟨_, b⟩ | ⟨_, b⟩ <;> exact ⟨_, b⟩
          simp only [bnd_ret, ap, ae, se, tuple_l, hd]
          exact does_ret ⟨es', _, pe, ok', hd⟩
        rintro d14 ⟨es', e, pe, ok', hd⟩
        simp only [set_0, set_s]
        obtain ⟨K', hN', hv'⟩ := cab_val ok'
        refine sif_does (c := false) (of_eq ?_) (fun z => nomatch z) fun _ => ?_
        · rcases hv10 with ⟨hl, rfl⟩ | rfl
          · obtain ⟨l', le'⟩ := more_least ok' pe hN hl hN'
            rcases hv' with ⟨_, b⟩ | ⟨b, _⟩
            · have ed14 : d14 = .int (K'.map (wE es')).sum := by
                rw [b] at hd
                exact (ret_inj hd).symm
              subst ed14
              have ng : ¬ (K.map (wE es)).sum < (K'.map (wE es')).sum := by omega
              simp only [at_and, at_or, at_tofk, at_call, at_argss, at_args0, at_p0, at_ps, at_ad, at_bin, at_un, at_tup, at_lst, at_eachs, at_each0, at_vs, at_v0, at_c, bnd_ret, bnd_bnd, not_N, is_N, isN, gt_ints, ng, decide_false, Bool.not_false, Bool.false_eq_true, if_true, if_false]
            · exact absurd l' b
          · simp only [at_and, at_tofk, at_call, at_argss, at_args0, at_p0, at_ps, at_ad, at_bin, at_un, at_tup, at_lst, at_eachs, at_each0, at_vs, at_v0, at_c, bnd_ret, bnd_bnd, not_N, isN, Bool.not_true, Bool.false_eq_true, if_false]
        · rw [at_nil]
          exact does_ret ⟨_, rfl, _, _, rfl⟩
      · rw [at_nil]
        exact does_ret ⟨_, rfl, none, none, rfl⟩
    rintro _ ⟨x13, x14, rfl⟩
    have zc : dComp [18] (iSeq (dVar 9)) (gN 18) tTrue (dBin oIx (dVar 18) (dC (.int 2))) [none, some .pool, some (.dat (encCs c1)), some (.dat (.int (costS c1 row))), some (.dat (encCs ws)), some (.dat (encCs ds)), some (.dat (.list [.int (costS c1 row), .int (costS ws rowW), .int (costS ds rowD)])), some (.dat (encCb many es)), some (.dat (.int (many : Int))), some (.dat (.tuple (es.map enc3))), some (.dat (v10)), some (.dat (.list (ms.map encP2))), x12, x13, x14, none, none, none, none] = M.ret (.list ((es.map fun (e : E3) => e.2.2).map .int)) := by
      rw [comp_map es enc3 (fun (e : E3) => .int e.2.2) (by simp only [at_iseq, at_vs, at_v0, bnd_ret]) (sz18 (by omega)) (fun e he => by
        have s : oIx (enc3 e) (.int 2) = M.ret (.int e.2.2) := rfl
        generalize enc3 e = X at *
        simp only [at_gn, wipeR, set_0, set_s, at_call, at_argss, at_args0, at_p0, at_ps, at_ad, at_bin, at_un, at_tup, at_lst, at_eachs, at_each0, at_vs, at_v0, at_c, bnd_ret, bnd_bnd, s]), List.map_map]
      rfl
    obtain ⟨m, hm, hmle⟩ := max_zero (es.map fun (e : E3) => e.2.2)
    have az : oAdd (.list ((es.map fun (e : E3) => e.2.2).map .int)) (.list [.int 0]) = M.ret (.list (((es.map fun (e : E3) => e.2.2) ++ [0]).map .int)) := by
      rw [add_lists (by rw [List.length_map, List.length_map, List.length_singleton]; omega), List.map_append]
      rfl
    rcases hv10 with ⟨hl, rfl⟩ | rfl
    · by_cases h9 : m < 99
      · refine seq_ret (c := true) (of_eq (by simp only [at_and, at_tofk, at_call, at_argss, at_args0, at_p0, at_ps, at_ad, at_bin, at_un, at_tup, at_lst, at_eachs, at_each0, at_vs, at_v0, at_c, bnd_ret, bnd_bnd, not_N, isN, zc, az, hm, lt_ints, decide_eq_true h9, Bool.not_false, if_true])) (fun _ => ?_) (fun z => nomatch z)
        have oku : CabOk many (es.map upE) := ⟨m1, m8, by rw [List.length_map]; omega, fun e he => by
          obtain ⟨e0, h0, rfl⟩ := List.mem_map.mp he
          have a := okc.row e0 h0
          have b := hmle e0.2.2 (List.mem_map.mpr ⟨e0, h0, rfl⟩)
          show (0 ≤ e0.1 ∧ e0.1 < e0.2.1) ∧ e0.2.1 < (many : Int) ∧ 0 ≤ e0.2.2 + 1 ∧ e0.2.2 + 1 ≤ 99
          omega⟩
        obtain ⟨Ku, hNu, hvu⟩ := cab_val oku
        obtain ⟨lu, eu⟩ := up_least okc oku hN hl hNu
        have zu : dComp [18] (iSeq (dVar 9)) (gN 18) tTrue (dBin oAdd (dSl (dVar 18) none (some (dC (.int 2)))) (dTup [(dBin oAdd (dBin oIx (dVar 18) (dC (.int 2))) (dC (.int 1)))])) [none, some .pool, some (.dat (encCs c1)), some (.dat (.int (costS c1 row))), some (.dat (encCs ws)), some (.dat (encCs ds)), some (.dat (.list [.int (costS c1 row), .int (costS ws rowW), .int (costS ds rowD)])), some (.dat (encCb many es)), some (.dat (.int (many : Int))), some (.dat (.tuple (es.map enc3))), some (.dat (.int (K.map (wE es)).sum)), some (.dat (.list (ms.map encP2))), x12, x13, x14, none, none, none, none] = M.ret (.list ((es.map upE).map enc3)) := by
          rw [comp_map es enc3 (fun (e : E3) => enc3 (upE e)) (by simp only [at_iseq, at_vs, at_v0, bnd_ret]) (sz18 (by omega)) (fun e he => by
            have s : oIx (enc3 e) (.int 2) = M.ret (.int e.2.2) := rfl
            have s2 : oSl (enc3 e) none (some 2) = M.ret (encE2 e) := rfl
            have s3 : oAdd (encE2 e) (.tuple [.int (e.2.2 + 1)]) = M.ret (enc3 (upE e)) := add_tups (xs := [.int e.1, .int e.2.1]) (ys := [.int (e.2.2 + 1)]) (show 2 + 1 ≤ 2 ^ 20 by decide)
            generalize enc3 e = X at *
            simp only [at_gn, wipeR, set_0, set_s, at_sl, at_pn, at_ps', at_call, at_argss, at_args0, at_p0, at_ps, at_ad, at_bin, at_un, at_tup, at_lst, at_eachs, at_each0, at_vs, at_v0, at_c, bnd_ret, bnd_bnd, s, s2, add_ints, s3]), List.map_map]
          rfl
        rcases hvu with ⟨_, b⟩ | ⟨b, _⟩
        · have b' : F_least_cables [.d (.tuple [.int (many : Int), .tuple ((es.map upE).map enc3)])] = M.ret (.int ((K.map (wE es)).sum + (many : Int) - 1)) := by rw [← eu]; exact b
          have bt : bTuple (.list ((es.map upE).map enc3)) = M.ret (.tuple ((es.map upE).map enc3)) := tuple_l _
          generalize (es.map upE).map enc3 = EU at *
          simp only [at_call, at_argss, at_args0, at_p0, at_ps, at_ad, at_bin, at_un, at_tup, at_lst, at_eachs, at_each0, at_vs, at_v0, at_c, bnd_ret, bnd_bnd, zu, bt, b', add_ints, sub_ints]
          exact (same_ok 12 (.int _) trivial).imp fun d e => by rw [e]
        · exact absurd lu b
      · refine seq_ret (c := false) (of_eq (by simp only [at_and, at_tofk, at_call, at_argss, at_args0, at_p0, at_ps, at_ad, at_bin, at_un, at_tup, at_lst, at_eachs, at_each0, at_vs, at_v0, at_c, bnd_ret, bnd_bnd, not_N, isN, zc, az, hm, lt_ints, decide_eq_false h9, Bool.not_false, if_true])) (fun z => nomatch z) fun _ => ?_
        simp only [at_sret, at_c, bnd_ret]
        exact does_ret rfl
    · refine seq_ret (c := false) (of_eq (by simp only [at_and, at_tofk, at_call, at_argss, at_args0, at_p0, at_ps, at_ad, at_bin, at_un, at_tup, at_lst, at_eachs, at_each0, at_vs, at_v0, at_c, bnd_ret, bnd_bnd, not_N, isN, Bool.not_true, Bool.false_eq_true, if_false])) (fun z => nomatch z) fun _ => ?_
      simp only [at_sret, at_c, bnd_ret]
      exact does_ret rfl
  intro q
  obtain ⟨a, q', e, rfl, _⟩ := main q
  exact ⟨q', e⟩



/-! ### the head -/
def d_cost_of : He.DefD := ⟨("cost_of", none), "cost_of", "cost_of", defArgs s_cost_of, defBody s_cost_of, defScope s_cost_of, [], []⟩
def d_services : He.DefD := ⟨("services", none), "services", "services", defArgs s_services, defBody s_services, defScope s_services, [], []⟩
def d_first_service : He.DefD := ⟨("first_service", none), "first_service", "first_service", defArgs s_first_service, defBody s_first_service, defScope s_first_service, [], []⟩
def d_least_cost : He.DefD := ⟨("least_cost", none), "least_cost", "least_cost", defArgs s_least_cost, defBody s_least_cost, defScope s_least_cost, [], []⟩
def d_joined : He.DefD := ⟨("joined", none), "joined", "joined", defArgs s_joined, defBody s_joined, defScope s_joined, [], []⟩
def d_least_net : He.DefD := ⟨("least_net", none), "least_net", "least_net", defArgs s_least_net, defBody s_least_net, defScope s_least_net, [], []⟩
def d_cable_paper : He.DefD := ⟨("cable_paper", none), "cable_paper", "cable_paper", defArgs s_cable_paper, defBody s_cable_paper, defScope s_cable_paper, [], []⟩
def d_cost_of_net : He.DefD := ⟨("cost_of_net", none), "cost_of_net", "cost_of_net", defArgs s_cost_of_net, defBody s_cost_of_net, defScope s_cost_of_net, [], []⟩
def d_least_cables : He.DefD := ⟨("least_cables", none), "least_cables", "least_cables", defArgs s_least_cables, defBody s_least_cables, defScope s_least_cables, [], []⟩
def d__law_same : He.DefD := ⟨("_law_same", none), "_law_same", "_law_same", defArgs s__law_same, defBody s__law_same, defScope s__law_same, [], []⟩
def d__law_pool : He.DefD := ⟨("_law_pool", none), "_law_pool", "_law_pool", defArgs s_pool, defBody s_pool, defScope s_pool, [], []⟩
def d__law_spread : He.DefD := ⟨("_law_spread", none), "_law_spread", "_law_spread", defArgs s_spread, defBody s_spread, defScope s_spread, [], []⟩
def d__law_draw : He.DefD := ⟨("_law_draw", none), "_law_draw", "_law_draw", defArgs s_draw, defBody s_draw, defScope s_draw, [], []⟩
def d__law_pick : He.DefD := ⟨("_law_pick", none), "_law_pick", "_law_pick", defArgs s__law_pick, defBody s__law_pick, defScope s__law_pick, [], []⟩
def d__law_costs : He.DefD := ⟨("_law_costs", none), "_law_costs", "_law_costs", defArgs s__law_costs, defBody s__law_costs, defScope s__law_costs, [], []⟩
def d__law_services : He.DefD := ⟨("_law_services", none), "_law_services", "_law_services", defArgs s__law_services, defBody s__law_services, defScope s__law_services, [], []⟩
def d__law_cables : He.DefD := ⟨("_law_cables", none), "_law_cables", "_law_cables", defArgs s__law_cables, defBody s__law_cables, defScope s__law_cables, [], []⟩
def d_law : He.DefD := ⟨("law", none), "law", "law", defArgs s_law, defBody s_law, defScope s_law, [], []⟩
def fn : List He.DefD := [d_cost_of, d_services, d_first_service, d_least_cost, d_joined, d_least_net, d_cable_paper, d_cost_of_net, d_least_cables, d__law_same, d__law_pool, d__law_spread, d__law_draw, d__law_pick, d__law_costs, d__law_services, d__law_cables, d_law]
def fa : List He.Fa := [.glo "cost_of", .glo "services", .glo "first_service", .glo "least_cost", .glo "joined", .glo "least_net", .glo "cable_paper", .glo "cost_of_net", .glo "least_cables", .glo "_law_same", .glo "_law_pool", .glo "_law_spread", .glo "_law_draw", .glo "_law_pick", .glo "_law_costs", .glo "_law_services", .glo "_law_cables", .glo "law", .free "bool", .free "int", .free "isinstance", .free "len", .free "list", .free "max", .free "min", .free "range", .free "sorted", .free "str", .free "sum", .free "tuple"]
def loose0 : List Str := ["cost_of", "services", "first_service", "least_cost", "joined", "least_net", "cable_paper", "cost_of_net", "least_cables", "_law_same", "_law_pool", "_law_spread", "_law_draw", "_law_pick", "_law_costs", "_law_services"]
def loose1 : List Str := ["_law_cables"]
abbrev loose : List Str := loose0 ++ loose1
abbrev RowR : PySem.W.OpenRow := PySem.W.OpenLaw.row PySem.Challenge.rw_everyweather_k81_whole_services_and_cabl
def ex (K : PySem.W.Frag) : Bool := true
abbrev hk : PySem.W.Hook := hookE 4 fa fn ex
def ob (s : PySem.W.SharedT) : He.AlD × Bool := obsEG 4 fa fn ex (HandSHeadRun.getT s)
theorem ob_eq (s : PySem.W.SharedT) : ob s = hk.obs s.abs := obsEG_eq (HandSHeadRun.getT_eq s)
theorem run (w : World) : HandSHeadRun.RunEq RowR (PySem.W.view RowR.prog [20]) hk ob 4000 loose w := by
  intro os
  kernel_rfl
theorem facts {P : Program} {w : World} {K : PySem.W.Frag} {h : Heap} {mg : Str → Option Value} {f : Addr} (X : K.In h) (G : h.Ns mainGlobals mg) (hfa : mg ("law" : Str) = some (.ref f)) (c : He.SaysD fa fn K) (cx : ex K = true) :
    ∃ fd : FuncData, (∀ (s : Shared) (v : Value), BindsTo s fd ⟨[v], []⟩ [("script", v)]) ∧ ∀ base : Heap, K.In base → base.Ns mainGlobals mg → FnOk P w K mg base (L2.CX P w) 14 f fd ["script"] (spLaw K) := by
  obtain ⟨fd_0, F_0⟩ := c.def_ 0 (d := d_cost_of) rfl
  have m_0 := He.glo_ok X G (c.fact 0 (f := .glo "cost_of") rfl)
  obtain ⟨fd_1, F_1⟩ := c.def_ 1 (d := d_services) rfl
  have m_1 := He.glo_ok X G (c.fact 1 (f := .glo "services") rfl)
  obtain ⟨fd_2, F_2⟩ := c.def_ 2 (d := d_first_service) rfl
  have m_2 := He.glo_ok X G (c.fact 2 (f := .glo "first_service") rfl)
  obtain ⟨fd_3, F_3⟩ := c.def_ 3 (d := d_least_cost) rfl
  have m_3 := He.glo_ok X G (c.fact 3 (f := .glo "least_cost") rfl)
  obtain ⟨fd_4, F_4⟩ := c.def_ 4 (d := d_joined) rfl
  have m_4 := He.glo_ok X G (c.fact 4 (f := .glo "joined") rfl)
  obtain ⟨fd_5, F_5⟩ := c.def_ 5 (d := d_least_net) rfl
  have m_5 := He.glo_ok X G (c.fact 5 (f := .glo "least_net") rfl)
  obtain ⟨fd_6, F_6⟩ := c.def_ 6 (d := d_cable_paper) rfl
  have m_6 := He.glo_ok X G (c.fact 6 (f := .glo "cable_paper") rfl)
  obtain ⟨fd_7, F_7⟩ := c.def_ 7 (d := d_cost_of_net) rfl
  have m_7 := He.glo_ok X G (c.fact 7 (f := .glo "cost_of_net") rfl)
  obtain ⟨fd_8, F_8⟩ := c.def_ 8 (d := d_least_cables) rfl
  have m_8 := He.glo_ok X G (c.fact 8 (f := .glo "least_cables") rfl)
  obtain ⟨fd_9, F_9⟩ := c.def_ 9 (d := d__law_same) rfl
  have m_9 := He.glo_ok X G (c.fact 9 (f := .glo "_law_same") rfl)
  obtain ⟨fd_10, F_10⟩ := c.def_ 10 (d := d__law_pool) rfl
  have m_10 := He.glo_ok X G (c.fact 10 (f := .glo "_law_pool") rfl)
  obtain ⟨fd_11, F_11⟩ := c.def_ 11 (d := d__law_spread) rfl
  have m_11 := He.glo_ok X G (c.fact 11 (f := .glo "_law_spread") rfl)
  obtain ⟨fd_12, F_12⟩ := c.def_ 12 (d := d__law_draw) rfl
  have m_12 := He.glo_ok X G (c.fact 12 (f := .glo "_law_draw") rfl)
  obtain ⟨fd_13, F_13⟩ := c.def_ 13 (d := d__law_pick) rfl
  have m_13 := He.glo_ok X G (c.fact 13 (f := .glo "_law_pick") rfl)
  obtain ⟨fd_14, F_14⟩ := c.def_ 14 (d := d__law_costs) rfl
  have m_14 := He.glo_ok X G (c.fact 14 (f := .glo "_law_costs") rfl)
  obtain ⟨fd_15, F_15⟩ := c.def_ 15 (d := d__law_services) rfl
  have m_15 := He.glo_ok X G (c.fact 15 (f := .glo "_law_services") rfl)
  obtain ⟨fd_16, F_16⟩ := c.def_ 16 (d := d__law_cables) rfl
  have m_16 := He.glo_ok X G (c.fact 16 (f := .glo "_law_cables") rfl)
  obtain ⟨fd, F⟩ := c.def_ 17 (d := d_law) rfl
  have e := hfa.symm.trans (He.glo_ok X G (c.fact 17 (f := .glo "law") rfl))
  cases e
  have T : Txt K mg := ⟨He.free_ok X G (c.fact 18 (f := .free "bool") rfl), He.free_ok X G (c.fact 19 (f := .free "int") rfl), He.free_ok X G (c.fact 20 (f := .free "isinstance") rfl), He.free_ok X G (c.fact 21 (f := .free "len") rfl), He.free_ok X G (c.fact 22 (f := .free "list") rfl), He.free_ok X G (c.fact 23 (f := .free "max") rfl), He.free_ok X G (c.fact 24 (f := .free "min") rfl), He.free_ok X G (c.fact 25 (f := .free "range") rfl), He.free_ok X G (c.fact 26 (f := .free "sorted") rfl), He.free_ok X G (c.fact 27 (f := .free "str") rfl), He.free_ok X G (c.fact 28 (f := .free "sum") rfl), He.free_ok X G (c.fact 29 (f := .free "tuple") rfl)⟩
  have b := FunD.bindsA (ps := ["script"]) F fun _ _ _ _ _ _ us hl => match us, hl with | [_], _ => rfl
  refine ⟨fd, fun s v => b s [v] rfl, fun base _ _ => ?_⟩
  have g__law_draw : Ok P w K mg base 2 "_law_draw" F_draw := okMk F_12.kp m_12 (F_12.bindsN fun _ _ _ _ _ _ us hl => match us, hl with | [_, _], _ => rfl) F_draw_len (ok_draw F_12 F_11 m_11 T.n_int T.n_range T.n_len)
  have g_cost_of := ok_cost_of (P := P) (w := w) (base := base) T F_0 m_0
  have g_services := ok_services (P := P) (w := w) (base := base) T F_1 m_1
  have g_first_service := ok_first_service (P := P) (w := w) (base := base) T F_2 m_2 g_services g_cost_of
  have g_least_cost := ok_least_cost (P := P) (w := w) (base := base) T F_3 m_3 g_cost_of g_first_service
  have g_joined := ok_joined (P := P) (w := w) (base := base) T F_4 m_4
  have g_least_net := ok_least_net (P := P) (w := w) (base := base) T F_5 m_5 g_joined
  have g_cable_paper := ok_cable_paper (P := P) (w := w) (base := base) T F_6 m_6 g_least_net g_joined
  have g_cost_of_net := ok_cost_of_net (P := P) (w := w) (base := base) T F_7 m_7
  have g_least_cables := ok_least_cables (P := P) (w := w) (base := base) T F_8 m_8 g_cable_paper g_cost_of_net
  have g__law_same := ok__law_same (P := P) (w := w) (base := base) T F_9 m_9 12
  have g__law_pick := ok__law_pick (P := P) (w := w) (base := base) T F_13 m_13 g__law_draw
  have g__law_costs := ok__law_costs (P := P) (w := w) (base := base) T F_14 m_14 g__law_draw
  have g__law_services := ok__law_services (P := P) (w := w) (base := base) T F_15 m_15
  have g__law_cables := ok__law_cables (P := P) (w := w) (base := base) T F_16 m_16 g__law_draw
  exact ok_law T F F_10 m_10 g__law_costs g__law_services g__law_draw g_least_cost g__law_same g__law_cables g_least_cables g__law_pick good
end Ew
open PySem PySem.W PySem.Calls PyProof.Rows
theorem PySem.Challenge.cw_everyweather_k81_whole_services_and_cabl_holds : PySem.Challenge.rw_everyweather_k81_whole_services_and_cabl.Holds := by
  w_on; o_law
  refine HandSHeadRun.head_any (r := OpenLaw.row PySem.Challenge.rw_everyweather_k81_whole_services_and_cabl) (q := view (OpenLaw.row PySem.Challenge.rw_everyweather_k81_whole_services_and_cabl).prog [20]) (H := Ew.hk) (ob := Ew.ob) (M := 4000) (loose := Ew.loose) (d := HandSHeadRun.topDef (OpenLaw.row PySem.Challenge.rw_everyweather_k81_whole_services_and_cabl).prog 20) (kwd := []) Ew.ob_eq
    (by kernel_rfl) (fun s => by kernel_rfl) Ew.run (by kernel_rfl) (by kernel_rfl) (by kernel_rfl) (by rfl) (by first | assumption | decide +kernel) (by decide +kernel) ⟨rfl, rfl, rfl, rfl, rfl, by decide +kernel⟩ ?hw ?hc
  case hw => w_witness2
  case hc =>
    refine Ew.law_ends (l := PySem.Challenge.rw_everyweather_k81_whole_services_and_cabl) (n := 63) (k := 14) (x := "script") rfl (by decide) (by kernel_rfl) ⟨rfl, by decide, by decide⟩ ?F
    intro w mg fa h Y G hmg0
    obtain ⟨K, KX, c, cx⟩ := Y
    have hmg : mg ("law" : PySem.Str) = some (.ref fa) := by
      have e : (HandSHeadRun.topDef (OpenLaw.row PySem.Challenge.rw_everyweather_k81_whole_services_and_cabl).prog 20).name = ("law" : PySem.Str) := by kernel_rfl
      rw [← e]
      exact hmg0
    obtain ⟨fd, hb, hF⟩ := Ew.facts (P := (PySem.Challenge.rw_everyweather_k81_whole_services_and_cabl).prog) (w := w) KX G hmg c cx
    exact ⟨K, fd, KX, hb, hF⟩
